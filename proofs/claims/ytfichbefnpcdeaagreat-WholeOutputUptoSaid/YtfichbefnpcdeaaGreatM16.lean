/-
  Parts of the proof, merged: SubD, SubE, EngA, EngB, EngC, EngH, EngD, EngE, EngF.
-/
import Derived.Test.YtfichbefnpcdeaaGreatM15
set_option linter.unusedVariables false
set_option linter.unusedSimpArgs false
set_option linter.unnecessarySimpa false
set_option maxRecDepth 100000
section
namespace Go.Abs
variable {θ:Nat->C} {t t' : T} {r:AV} {L L' : Lv} {dr:Bool}
mutual
theorem Xa6(hθ:ThOk θ)(π:Nat->Nat):∀c,rnC π (sC θ c)=sC θ (rnC π c)
 | .lit v=>by
  show rnC π (sV θ v)=sV θ v;rcases Zj (θ:=θ) v with⟨k,rfl⟩ | hv
  .show rnC π (θ k)=θ k;rcases hθ.sh k with⟨b,h⟩ | ⟨es,h⟩ <;> rw [h] <;> rfl
  .rw [hv];rfl
 | .clo f cs=>congrArg (C.clo f) (J9 hθ π cs)
 | .own ..=>rfl
 | .ptr ..=>rfl
 | .slice _=>rfl
 | .full _=>rfl
 | .emp=>rfl
 | .ref _=>rfl
 | .any=>rfl
theorem J9(hθ:ThOk θ)(π:Nat->Nat):∀l,rnCs π (sL θ l)=sL θ (rnCs π l)
 | []=>rfl
 | c::l=>by show rnC π (sC θ c)::rnCs π (sL θ l)=sC θ (rnC π c)::sL θ (rnCs π l);rw [Xa6 hθ,J9 hθ]
end
mutual
theorem vaJ(hθ:ThOk θ)(π:Nat->Nat):∀c,rnV π (sA θ c)=sA θ (rnV π c)
 | .one c=>congrArg AV.one (Xa6 hθ π c)
 | .agg cs=>congrArg AV.agg (J9 hθ π cs)
 | .tup l=>congrArg AV.tup (qaS hθ π l)
 | .any=>rfl
theorem qaS(hθ:ThOk θ)(π:Nat->Nat):∀l,rnVs π (sAs θ l)=sAs θ (rnVs π l)
 | []=>rfl
 | c::l=>by show rnV π (sA θ c)::rnVs π (sAs θ l)=sA θ (rnV π c)::sAs θ (rnVs π l);rw [vaJ hθ,qaS hθ]
end
theorem Qap(hθ:ThOk θ)(π:Nat->Nat):∀v,rnT π (sTr θ v)=sTr θ (rnT π v)
 | .e=>rfl
 | .l a=>congrArg Tr.l (vaJ hθ π a)
 | .n x y=>by show Tr.n (rnT π (sTr θ x)) (rnT π (sTr θ y))=Tr.n (sTr θ (rnT π x)) (sTr θ (rnT π y));rw [Qap hθ,Qap hθ]
theorem kaZ(hθ:ThOk θ)(π:Nat->Nat):∀x,(sX θ x).map (rnT π)=sX θ (x.map (rnT π))
 | []=>rfl
 | v::x=>by show rnT π (sTr θ v)::(sX θ x).map (rnT π)=_;rw [Qap hθ,kaZ hθ];rfl
theorem vbf(hθ:ThOk θ)(π:Nat->Nat):∀l,(sR θ l).map (rnCs π)=sR θ (l.map (rnCs π))
 | []=>rfl
 | v::x=>by show rnCs π (sL θ v)::(sR θ x).map (rnCs π)=_;rw [J9 hθ,vbf hθ];rfl
theorem vaZ(hθ:ThOk θ)(π:Nat->Nat):∀h,rnK π (sH θ h)=sH θ (rnK π h)
 | []=>rfl
 | (k,⟨v,none⟩)::h=>by show(π k,(⟨v,none⟩:HB))::rnK π (sH θ h)=(π k,(⟨v,none⟩:HB))::sH θ (rnK π h);rw [vaZ hθ]
 | (k,⟨v,some b⟩)::h=>by
  show(π k,(⟨v,some ⟨(sR θ b.es).map (rnCs π),b.z,b.live⟩⟩:HB))::rnK π (sH θ h)=(π k,(⟨v,some ⟨sR θ (b.es.map (rnCs π)),b.z,b.live⟩⟩:HB))::sH θ (rnK π h);rw [vaZ hθ,vbf hθ]
theorem JF(h:List (Nat×HB)):∀(l:List Nat) (n:Nat),swaps (sH θ h) l n=swaps h l n
 | [],_=>rfl
 | d::l,n=>by
  show(match (hget (sH θ h) d).blk with | some _=>sel (Nat.blt d pinA && Nat.blt n pinA) ((d,n)::swaps (sH θ h) l (n+1)) [] | none=>swaps (sH θ h) l n)=(match (hget h d).blk with | some _=>sel (Nat.blt d pinA && Nat.blt n pinA) ((d,n)::swaps h l (n+1)) [] | none=>swaps h l n)
  rw [yV,JF h l,JF h l];show(match (hget h d).blk.map (sBk θ) with | some _=>_ | none=>_)=_
  cases (hget h d).blk <;> rfl
theorem kar(hθ:ThOk θ)(t:T)(l:List (Nat×Nat)):(sT θ t).move l=sT θ (t.move l):=by
 cases l with
 | nil=>rfl
 | cons p l=>
  rw [T.move_cons,T.move_cons];show T.mk (rnT _ (sTr θ t.v)) ((sX θ t.x).map _) (rnK _ (sH θ t.h)) _=_;rw [Qap hθ,kaZ hθ,vaZ hθ];rfl
theorem Yba(hθ:ThOk θ)(t:T)(l:List AO):prep (sT θ t) l=sT θ (prep t l):=by
 unfold prep;show(sT θ t).move (swaps (sH θ t.h) (mades l) t.n)=_;rw [JF,kar hθ]
theorem Qai:∀h:List (Nat×HB),lows (sH θ h)=lows h
 | []=>rfl
 | (k,⟨v,none⟩)::h=>by show lows (sH θ h)=lows h;exact Qai h
 | (k,⟨v,some b⟩)::h=>by show cond (Nat.blt k top) (k::lows (sH θ h)) (lows (sH θ h))=cond (Nat.blt k top) (k::lows h) (lows h);rw [Qai h]
def hfAC:AC->Bool
 | .skip=>true
 | .ops _ l=>l.all hfAO
 | .seq a b=>hfAC a && hfAC b
 | .cond c a b=>hfO c && (hfAC a && hfAC b)
 | .block _ a=>hfAC a
 | .loop a=>hfAC a
 | .exit _=>true
 | .ret=>true
 | _=>true
theorem Qp(hθ:ThOk θ)(hL:LvS θ L L'):∀(n:Nat) {ac:AC} {t t' : T} {e:Ex},hfAC ac=true->codeE L n ac t=some (e,t')->codeE L' n ac (sT θ t)=some (e,sT θ t')
 | 0,_,_,_,_,_,h=>nos h
 | n+1,ac,t,t',e,hf,h=>by
  have ih:=λ{ac t t' e}=>@Qp hθ hL n ac t t' e;have seq:∀{b:AC} {p:Ex×T},hfAC b=true->seqK (codeE L n b) p=some (e,t')->seqK (codeE L' n b) (p.1,sT θ p.2)=some (e,sT θ t'):=by
   intro b p hb h;obtain⟨e1,t1⟩:=p;cases e1 with
   | nrm=>exact ih hb h
   | exit i=>cases (show some (Ex.exit i,t1)=some (e,t') from h);rfl
   | ret=>cases (show some (Ex.ret,t1)=some (e,t') from h);rfl
  cases ac with
  | skip=>cases (show some (Ex.nrm,t)=some (e,t') from h);rfl
  | ops dr l=>
   obtain⟨t1,e1,h⟩:=yb (show omap (λt=>(Ex.nrm,t)) (aosE L dr l (prep t l))=some (e,t') from h);cases h
   show omap (λt=>(Ex.nrm,t)) (aosE L' dr l (prep (sT θ t) l))=_;rw [Yba hθ,Wag hθ hL hf e1];rfl
  | seq a b=>
   simp only [hfAC,zBA]at hf;obtain⟨⟨e1,t1⟩,e2,h⟩:=qa (show obind (codeE L n a t) (seqK (codeE L n b))=some (e,t') from h);show obind (codeE L' n a (sT θ t)) (seqK (codeE L' n b))=_;rw [ih hf.1 e2];exact seq hf.2 h
  | cond c a b=>
   simp only [hfAC,zBA]at hf;obtain⟨w,e2,h⟩:=qa (show obind (lbE (t.ev c)) (λw=>sel w (codeE L n a t) (codeE L n b t))=some (e,t') from h);show obind (lbE ((sT θ t).ev c)) (λw=>sel w (codeE L' n a (sT θ t)) (codeE L' n b (sT θ t)))=_;rw [Xc hf.1,Zbe e2];cases w with
   | true=>exact ih hf.2.1 h
   | false=>exact ih hf.2.2 h
  | block id a=>
   obtain⟨⟨e1,t1⟩,e2,h⟩:=qa (show obind (codeE L n a t) (blkK id)=some (e,t') from h);show obind (codeE L' n a (sT θ t)) (blkK id)=_;rw [ih (show hfAC a=true from hf) e2];show blkK id (e1,sT θ t1)=_;cases e1 with
   | nrm=>cases (show some (Ex.nrm,t1)=some (e,t') from h);rfl
   | ret=>cases (show some (Ex.ret,t1)=some (e,t') from h);rfl
   | exit i=>
    have h:sel (Nat.beq i id) (some (Ex.nrm,t1)) (some (Ex.exit i,t1))=some (e,t'):=h;show sel (Nat.beq i id) (some (Ex.nrm,sT θ t1)) (some (Ex.exit i,sT θ t1))=_;cases hb:Nat.beq i id with
    | true=>rw [hb]at h;cases h;rfl
    | false=>rw [hb]at h;cases h;rfl
  | loop a=>
   obtain⟨⟨e1,t1⟩,e2,h⟩:=qa (show obind (codeE L n a t) (seqK (codeE L n (.loop a)))=some (e,t') from h);show obind (codeE L' n a (sT θ t)) (seqK (codeE L' n (.loop a)))=_;rw [ih (show hfAC a=true from hf) e2];exact seq hf h
  | exit id=>cases (show some (Ex.exit id,t)=some (e,t') from h);rfl
  | ret=>cases (show some (Ex.ret,t)=some (e,t') from h);rfl
  | fg _ _=>exact nos h
  | fz _ _=>exact nos h
theorem XaE(hθ:ThOk θ){h:List (Nat×HB)}:∀(n:Nat),
  (∀{c c' : C},deepC h n c=some c'->deepC (sH θ h) n (sC θ c)=some (sC θ c'))/\
  (∀{c c' : List C},deepL h n c=some c'->deepL (sH θ h) n (sL θ c)=some (sL θ c'))/\
  (∀{c c' : List (List C)},deepR h n c=some c'->deepR (sH θ h) n (sR θ c)=some (sR θ c'))
 | 0=>⟨λh=>nos (by simpa only [deepC] using h),λh=>nos (by simpa only [deepL] using h),λh=>nos (by simpa only [deepR] using h)⟩
 | n+1=>by
  obtain⟨ic,il,ir⟩:=XaE hθ (h:=h) n;refine⟨λ{c c'} e=>?_,λ{c c'} e=>?_,λ{c c'} e=>?_⟩
  .cases c with
   | lit v=>
    cases (show some (C.lit v)=some c' by simpa only [deepC] using e)
    show deepC _ (n+1) (sV θ v)=some (sV θ v);rcases Zj (θ:=θ) v with⟨k,rfl⟩ | hv
    .show deepC _ (n+1) (θ k)=some (θ k);rcases hθ.sh k with⟨b,h⟩ | ⟨es,h⟩ <;> rw [h] <;> simp only [deepC]
    .rw [hv];simp only [deepC]
   | slice es=>cases (show some (C.slice es)=some c' by simpa only [deepC] using e);simp only [sC,deepC]
   | full es=>cases (show some (C.slice es)=some c' by simpa only [deepC] using e);simp only [sC,deepC]
   | emp=>cases (show some (C.slice [])=some c' by simpa only [deepC] using e);simp only [sC,deepC];rfl
   | ref es=>cases (show some (C.ref es)=some c' by simpa only [deepC] using e);simp only [sC,deepC]
   | any=>cases (show some C.any=some c' by simpa only [deepC] using e);simp only [sC,deepC]
   | clo f cs=>
    simp only [deepC,zOM]at e;obtain⟨l,e,rfl⟩:=e;simp only [sC,deepC,il e,Option.map_some]
   | own rr ver z off len=>
    simp only [deepC]at e;split at e
    .rename_i v b eb;cases hb:(Nat.beq v ver && Nat.ble (off+len) b.es.length) with
     | false=>rw [hb]at e;exact nos e
     | true=>
      rw [hb]at e;replace e:(deepR h n ((b.es.drop off).take len)).map C.slice=some c':=e;rw [zOM]at e;obtain⟨l,e,rfl⟩:=e;have e:=ir e;rw [Zq,Jw]at e;simp only [sC,deepC,WV eb,sBk,uh,hb,e,cond_true,Option.map_some]
    .exact nos e
   | ptr rr ver i off=>
    simp only [deepC]at e;split at e
    .rename_i v b eb;split at e
     .rename_i x hx;cases hb:(Nat.beq v ver && Nat.ble off x.length) with
      | false=>rw [hb]at e;exact nos e
      | true=>
       rw [hb]at e;replace e:(deepL h n (x.drop off)).map C.ref=some c':=e;rw [zOM]at e;obtain⟨l,e,rfl⟩:=e;have e:=il e;rw [yt]at e;simp only [sC,deepC,WV eb,sBk,yK,hx,Option.map_some,Jm,hb,e,cond_true]
     .exact nos e
    .exact nos e
  .cases c with
   | nil=>cases (show some []=some c' by simpa only [deepL] using e);simp only [sL,deepL]
   | cons x l=>
    simp only [deepL]at e;split at e
    .rename_i x' ex;rw [zOM]at e;obtain⟨l',e,rfl⟩:=e;simp only [sL,deepL,ic ex,il e,Option.map_some]
    .exact nos e
  .cases c with
   | nil=>cases (show some []=some c' by simpa only [deepR] using e);simp only [sR,deepR]
   | cons x l=>
    simp only [deepR]at e;split at e
    .rename_i x' ex;rw [zOM]at e;obtain⟨l',e,rfl⟩:=e;simp only [sR,deepR,il ex,ir e,Option.map_some]
    .exact nos e
theorem Ua5(hθ:ThOk θ){h:List (Nat×HB)}{a a' : AV}(e:deepA h a=some a'):deepA (sH θ h) (sA θ a)=some (sA θ a'):=by
 cases a with
 | one c=>
  have e2:(deepC h deepF c).map AV.one=some a':=e;rw [zOM]at e2;obtain⟨l,e3,rfl⟩:=e2;show(deepC (sH θ h) deepF (sC θ c)).map AV.one=_;rw [(XaE hθ deepF).1 e3];rfl
 | agg cs=>
  have e2:(deepL h deepF cs).map AV.agg=some a':=e;rw [zOM]at e2;obtain⟨l,e3,rfl⟩:=e2;show(deepL (sH θ h) deepF (sL θ cs)).map AV.agg=_;rw [(XaE hθ deepF).2.1 e3];rfl
 | any=>cases (show some AV.any=some a' from e);rfl
 | tup l=>exact nos e
theorem YM(hθ:ThOk θ){h:List (Nat×HB)}:∀{l l' : List AV},deepAs h l=some l'->deepAs (sH θ h) (l.map (sA θ))=some (l'.map (sA θ))
 | [],l',e=>by cases e;rfl
 | a::l,l',e=>by
  have e:(match deepA h a with | some a'=>(deepAs h l).map (a'::·) | none=>none)=some l':=e
  show(match deepA (sH θ h) (sA θ a) with | some a'=>(deepAs (sH θ h) (l.map (sA θ))).map (a'::·) | none=>none)=_
  split at e
  .rename_i a' ea;rw [zOM]at e;obtain⟨l2,e2,rfl⟩:=e;rw [Ua5 hθ ea,YM hθ e2];rfl
  .exact nos e
theorem uaO:∀(l:List AV) (k:Nat) (v:Tr),argT (l.map (sA θ)) k (sTr θ v)=sTr θ (argT l k v)
 | [],_,_=>rfl
 | a::l,k,v=>by
  show argT (l.map (sA θ)) (k+1) ((sTr θ v).set dep k (sA θ a))=sTr θ (argT l (k+1) (v.set dep k a));rw [yN,uaO l]
theorem ZF(l:List AV):argT (l.map (sA θ)) 0 .e=sTr θ (argT l 0 .e):=uaO l 0 .e
theorem Xy:∀{l:List RV} {xs:List AV},rawE t l=some xs->rawE (sT θ t) l=some (xs.map (sA θ))
 | [],_,e=>by cases (show some []=some _ from e);rfl
 | .tmp k::l,xs,e=>by
  obtain⟨ys,e2,rfl⟩:=yb (show omap (t.get k::·) (rawE t l)=some xs from e);show omap ((sT θ t).get k::·) (rawE (sT θ t) l)=_;rw [Xy e2,Ju];rfl
 | .cell k n b::l,xs,e=>by
  obtain⟨x,ex,e⟩:=qa (show obind (loadE n b t (t.get k)) (λx=>omap (x::·) (rawE t l))=some xs from e);obtain⟨ys,e2,rfl⟩:=yb e;show obind (loadE n b (sT θ t) ((sT θ t).get k)) (λx=>omap (x::·) (rawE (sT θ t) l))=_;rw [Ju,Yau ex,Xy e2];rfl
theorem yL(l:List AV):resOf (l.map (sA θ))=sA θ (resOf l):=by
 match l with
 | []=>rfl
 | [x]=>rfl
 | x::y::l=>show AV.tup ((x::y::l).map (sA θ))=AV.tup (sAs θ (x::y::l));rw [Y4]
mutual
theorem Xbi(hθ:ThOk θ):∀{c:C},eqC c c=true->eqC (sC θ c) (sC θ c)=true
 | .lit v,h=>by
  show eqC (sV θ v) (sV θ v)=true;rcases Zj (θ:=θ) v with⟨k,rfl⟩ | hv
  .exact hθ.eq k
  .rw [hv];exact h
 | .slice es,h=>zaG hθ (show eqR es es=true by simpa only [eqC] using h) |> λh=>by simpa only [sC,eqC] using h
 | .full es,h=>zaG hθ (show eqR es es=true by simpa only [eqC] using h) |> λh=>by simpa only [sC,eqC] using h
 | .emp,h=>h
 | .ref cs,h=>kaG hθ (show eqL cs cs=true by simpa only [eqC] using h) |> λh=>by simpa only [sC,eqC] using h
 | .clo f cs,h=>by
  simp only [eqC,zBA]at h;simp only [sC,eqC,zBA];exact⟨h.1,kaG hθ h.2⟩
 | .own ..,h=>h
 | .ptr ..,h=>h
 | .any,h=>h
theorem kaG(hθ:ThOk θ):∀{l:List C},eqL l l=true->eqL (sL θ l) (sL θ l)=true
 | [],h=>h
 | c::l,h=>by
  simp only [eqL,zBA]at h;simp only [sL,eqL,zBA];exact⟨Xbi hθ h.1,kaG hθ h.2⟩
theorem zaG(hθ:ThOk θ):∀{l:List (List C)},eqR l l=true->eqR (sR θ l) (sR θ l)=true
 | [],h=>h
 | c::l,h=>by
  simp only [eqR,zBA]at h;simp only [sR,eqR,zBA];exact⟨kaG hθ h.1,zaG hθ h.2⟩
end
variable {tab:Nat->Option (Nat×AC×List RV)}
theorem Va5(hθ:ThOk θ)(hL:LvS θ L L')(ht:∀f n ac rv,tab f=some (n,ac,rv)->hfAC ac=true){f:Nat}{args:List AV}(h:datFE tab L f args=some r):datFE tab L' f (args.map (sA θ))=some (sA θ r):=by
 unfold datFE at h ⊢;split at h
 .rename_i n ac rv e;obtain⟨hg,h⟩:=Za h;simp only [e,List.length_map,hg,qb];split at h
  .rename_i e1 t1 hc;obtain⟨g2,h⟩:=Za h;split at h
   .rename_i l hr;rw [zOM]at h;obtain⟨ys,hd,rfl⟩:=h;have hc2:=Qp hθ hL fuelC (ht _ _ _ _ e) hc;have e0:sT θ ⟨argT args 0 .e,[],[],2048⟩=⟨argT (args.map (sA θ)) 0 .e,[],[],2048⟩:=by rw [ZF];rfl
    rw [e0]at hc2;have hd2:=YM hθ hd;simp only [hc2,g2,qb,Xy hr];show((deepAs (sH θ t1.h) (l.map (sA θ))).map resOf)=_;rw [hd2,Option.map_some,yL]
   .exact nos h
  .exact nos h
 .exact nos h
theorem JaG(hθ:ThOk θ)(hL:LvS θ L L')(ht:∀f n ac rv,tab f=some (n,ac,rv)->hfAC ac=true){f:Nat}{args:List AV}{es:List (List C)}(h:freshF tab L f args=some es):freshF tab L' f (args.map (sA θ))=some (sR θ es):=by
 unfold freshF at h ⊢;split at h
 .rename_i n ac rv e;obtain⟨hg,h⟩:=Za h;simp only [e,List.length_map,hg,qb];split at h
  .rename_i e1 t1 hc;obtain⟨g2,h⟩:=Za h;have hc2:=Qp hθ hL fuelC (ht _ _ _ _ e) hc;have e0:sT θ ⟨argT args 0 .e,[],[],2048⟩=⟨argT (args.map (sA θ)) 0 .e,[],[],2048⟩:=by rw [ZF];rfl
   rw [e0]at hc2;simp only [hc2,g2,qb];split at h
   .rename_i hr;cases h
    rw [Xy hr];rfl
   .rename_i rr ver z len hr;split at h
    .rename_i b hb;obtain⟨g3,h⟩:=Za h;cases h
     simp only [zBA]at g3;rw [Xy hr];show(match (sT θ t1).hat rr ver with | some b=>guardE (b.live && Nat.beq (L'.z f) z && Nat.beq z b.z && Nat.ble len b.es.length && (b.es.take len).all λe=>e.all (cleanE 32)) (some (b.es.take len)) | none=>none)=_
     rw [qz hb,hL.z];show guardE (b.live && Nat.beq (L.z f) z && Nat.beq z b.z && Nat.ble len (sR θ b.es).length && ((sR θ b.es).take len).all λe=>e.all (cleanE 32)) (some ((sR θ b.es).take len))=_;rw [g3.1.1.1.1,g3.1.1.1.2,g3.1.1.2,uh,g3.1.2,<-Zq,qM hθ g3.2];rfl
    .exact nos h
   .exact nos h
  .exact nos h
 .exact nos h
theorem yaV(hθ:ThOk θ)(hL:LvS θ L L')(ht:∀f n ac rv,tab f=some (n,ac,rv)->hfAC ac=true){f:Nat}{es:List (List C)}{args:List AV}(h:lookF tab L f es args=some r):lookF tab L' f (sR θ es) (args.map (sA θ))=some (sA θ r):=by
 have hz:((sR θ es).headD []).length=(es.headD []).length:=by
  cases es with
  | nil=>rfl
  | cons e l=>exact Jm e
 unfold lookF at h ⊢;split at h
 .rename_i n ac rv e;obtain⟨hg,h⟩:=Za h;simp only [e,List.length_map,hg,qb,hz];split at h
  .rename_i e1 t1 hc;obtain⟨g2,h⟩:=Za h;have hc2:=Qp hθ hL fuelC (ht _ _ _ _ e) hc;have e0:sT θ ⟨argT (.one (.ptr pinA 0 0 0)::args) 0 .e,[],[(pinA,⟨0,some ⟨es,(es.headD []).length,true⟩⟩)],2048⟩=⟨argT (.one (.ptr pinA 0 0 0)::args.map (sA θ)) 0 .e,[],[(pinA,⟨0,some ⟨sR θ es,(es.headD []).length,true⟩⟩)],2048⟩:=by
    have:=ZF (θ:=θ) (.one (.ptr pinA 0 0 0)::args);rw [List.map_cons]at this;rw [show AV.one (.ptr pinA 0 0 0)=sA θ (.one (.ptr pinA 0 0 0)) from rfl,this];rfl
   rw [e0]at hc2;simp only [hc2,g2,qb];split at h
   .rename_i l b hr hb;obtain⟨g3,h⟩:=Za h;rw [zOM]at h;obtain⟨ys,hd,rfl⟩:=h;simp only [zBA]at g3;have he:=ZI g3.1.2;have g3e:eqR es es=true:=by have:=g3.1.2;rwa [he]at this
    have hd2:=YM hθ hd;rw [<-qJ]at hd2;rw [Xy hr,qz hb];show guardE (b.live && Nat.beq b.z (es.headD []).length && eqR (sR θ b.es) (sR θ es) && !(sR θ es).isEmpty) ((deepAs (hset (sH θ t1.h) pinA ⟨0,none⟩) (l.map (sA θ))).map resOf)=_;have hemp:(!(sR θ es).isEmpty)=true:=by
     cases es with
     | nil=>exact g3.2
     | cons=>rfl
    rw [g3.1.1.1,g3.1.1.2,he,zaG hθ g3e,hemp];show((deepAs (hset (sH θ t1.h) pinA (sHB θ ⟨0,none⟩)) (l.map (sA θ))).map resOf)=_;rw [hd2,Option.map_some,yL]
   .exact nos h
  .exact nos h
 .exact nos h
theorem Va8(hθ:ThOk θ)(hL:LvS θ L L')(ht:∀f n ac rv,tab f=some (n,ac,rv)->hfAC ac=true){f:Nat}{args:List AV}{t t1:T}(h:inlE tab L f args t=some (r,t1)):inlE tab L' f (args.map (sA θ)) (sT θ t)=some (sA θ r,sT θ t1):=by
 unfold inlE at h ⊢;split at h
 .rename_i n ac rv e;obtain⟨hg,h⟩:=Za h;simp only [e,List.length_map,hg,qb];split at h
  .rename_i e1 t2 hc;obtain⟨g2,h⟩:=Za h;have hc2:=Qp hθ hL fuelC (ht _ _ _ _ e) hc;have e0:sT θ ⟨argT args 0 .e,t.v::t.x,t.h,t.n⟩=⟨argT (args.map (sA θ)) 0 .e,(sT θ t).v::(sT θ t).x,(sT θ t).h,(sT θ t).n⟩:=by rw [ZF];rfl
   rw [e0]at hc2;simp only [hc2,g2,qb];split at h
   .rename_i l v x hr hx;simp only [zOI,Prod.mk.injEq]at h;obtain⟨rfl,rfl⟩:=h;have hx2:(sT θ t2).x=sTr θ v::sX θ x:=by show sX θ t2.x=_;rw [hx];rfl
    rw [Xy hr,hx2];show some (rnV (swp (swaps (sH θ t2.h) (lows (sH θ t2.h)) t2.n)) (resOf (l.map (sA θ))),(sT θ { t2 with v:=v,x:=x }).move (swaps (sH θ t2.h) (lows (sH θ t2.h)) t2.n))=_
    rw [Qai,JF,yL,vaJ hθ,kar hθ]
   .exact nos h
  .exact nos h
 .exact nos h
structure BaseS (θ:Nat->C) (tab:Nat->Option (Nat×AC×List RV)) (B B' : Base):Prop where
 dat:∀f args r,B.dat f args=some r->B'.dat f (args.map (sA θ))=some (sA θ r)
 inl:∀f args t r t1,B.inl f args t=some (r,t1)->B'.inl f (args.map (sA θ)) (sT θ t)=some (sA θ r,sT θ t1)
 fresh:∀f args es,B.fresh f args=some es->B'.fresh f (args.map (sA θ))=some (sR θ es)
 ndat:∀f,tab f≠none->∀args,B'.dat f args=none
 ninl:∀f,tab f≠none->∀args t,B'.inl f args t=none
 nfresh:∀f,tab f≠none->∀args,B'.fresh f args=none
 z:∀f,B'.z f=B.z f
 rk:∀f,B'.rk f=B.rk f
variable {B B' : Base}
theorem Qax(hθ:ThOk θ)(ht:∀f n ac rv,tab f=some (n,ac,rv)->hfAC ac=true)(hB:BaseS θ tab B B'):∀n,LvS θ (lvE tab B n) (lvE tab B' n)
 | 0=>⟨hB.dat,λ_ _ _ _ _ h=>nos h,λ_ _ _ _ h=>nos h,hB.fresh,hB.z⟩
 | n+1=>by
  have ih:=Qax hθ ht hB n;refine⟨λf args r h=>?_,λf args t r t1 h=>?_,λf es args r h=>yaV hθ ih ht h,λf args es h=>?_,hB.z⟩
  .have h:sel (Nat.ble (B.rk f) n) ((lvE tab B n).dat f args) (@Option.rec AV (λ_=>Option AV) (datFE tab (lvE tab B n) f args) some (B.dat f args))=some r:=h;show sel (Nat.ble (B'.rk f) n) ((lvE tab B' n).dat f (args.map (sA θ))) (@Option.rec AV (λ_=>Option AV) (datFE tab (lvE tab B' n) f (args.map (sA θ))) some (B'.dat f (args.map (sA θ))))=some (sA θ r);rw [hB.rk];cases hb:Nat.ble (B.rk f) n with
   | true=>rw [hb]at h;exact ih.dat f args r h
   | false=>
    rw [hb]at h;cases hd:B.dat f args with
    | some r'=>
     rw [hd]at h;cases (show some r' = some r from h)
     show(@Option.rec AV (λ_=>Option AV) _ some (B'.dat f (args.map (sA θ))))=_;rw [hB.dat _ _ _ hd]
    | none=>
     rw [hd]at h;have h:datFE tab (lvE tab B n) f args=some r:=h;have hn:tab f≠none:=by intro e;unfold datFE at h;rw [e]at h;exact nos h
     show(@Option.rec AV (λ_=>Option AV) _ some (B'.dat f (args.map (sA θ))))=_;rw [hB.ndat f hn];exact Va5 hθ ih ht h
  .have h:(@Option.rec (AV×T) (λ_=>Option (AV×T)) (inlE tab (lvE tab B n) f args t) some (B.inl f args t))=some (r,t1):=h;show(@Option.rec (AV×T) (λ_=>Option (AV×T)) (inlE tab (lvE tab B' n) f (args.map (sA θ)) (sT θ t)) some (B'.inl f (args.map (sA θ)) (sT θ t)))=_;cases hd:B.inl f args t with
   | some r'=>
    rw [hd]at h;cases (show some r' = some (r,t1) from h)
    rw [hB.inl _ _ _ _ _ hd]
   | none=>
    rw [hd]at h;have h:inlE tab (lvE tab B n) f args t=some (r,t1):=h;have hn:tab f≠none:=by intro e;unfold inlE at h;rw [e]at h;exact nos h
    rw [hB.ninl f hn];exact Va8 hθ ih ht h
  .have h:(@Option.rec (List (List C)) (λ_=>Option (List (List C))) (freshF tab (lvE tab B n) f args) some (B.fresh f args))=some es:=h;show(@Option.rec (List (List C)) (λ_=>Option (List (List C))) (freshF tab (lvE tab B' n) f (args.map (sA θ))) some (B'.fresh f (args.map (sA θ))))=_;cases hd:B.fresh f args with
   | some r'=>
    rw [hd]at h;cases (show some r' = some es from h)
    rw [hB.fresh _ _ _ hd]
   | none=>
    rw [hd]at h;have h:freshF tab (lvE tab B n) f args=some es:=h;have hn:tab f≠none:=by intro e;unfold freshF at h;rw [e]at h;exact nos h
    rw [hB.nfresh f hn];exact JaG hθ ih ht h
end Go.Abs
end
section
namespace Go.Abs
variable {θ:Nat->C} {t t' : T} {r:AV} {L L' : Lv} {P:Program}
theorem ob{α β:Type}(a:α)(f:α->Option β):obind (some a) f=f a:=rfl
theorem Ybd{p q:Option (Ex×T)}(hp:∀e t,p=some (e,t)->q=some (e,sT θ t))(h:nrmE p=some t):nrmE q=some (sT θ t):=by
 rw [hp _ _ (Jl h)];rfl
theorem Jbd{p q:Option (Ex×T)}(hp:∀e t,p=some (e,t)->q=some (e,sT θ t))(h:retE p=some t):retE q=some (sT θ t):=by
 rw [hp _ _ (yae h)];rfl
theorem WaK{x x' : List Tr}{v:Tr}(h:hdX x=some (v,x')):hdX (sX θ x)=some (sTr θ v,sX θ x'):=by
 rw [kD h];rfl
theorem ZaJ{a:AV}(h:isTrue a=true):isTrue (sA θ a)=true:=by rw [VU h];rfl
theorem UaV{a:AV}{f:Nat}{c:C}(h:cloOf a=some (f,c)):cloOf (sA θ a)=some (f,sC θ c):=by
 unfold cloOf at h;split at h
 .cases h;rfl
 .exact nos h
section
variable (hθ:ThOk θ) (hL:LvS θ L L')
include hθ hL
theorem cn_s{n:Nat}{ac:AC}(hf:hfAC ac=true)(h:nrmE (codeE L n ac t)=some t'):nrmE (codeE L' n ac (sT θ t))=some (sT θ t'):=Ybd (λ_ _=>Qp hθ hL n hf) h
theorem cr_s{n:Nat}{ac:AC}(hf:hfAC ac=true)(h:retE (codeE L n ac t)=some t'):retE (codeE L' n ac (sT θ t))=some (sT θ t'):=Jbd (λ_ _=>Qp hθ hL n hf) h
def Pcs.hf(c:Pcs):Bool:=hfAC c.r0 && hfAC c.X && hfAC c.r1 && hfAC c.cn1 && hfAC c.r2 && hfAC c.r3 && hfAC c.r45 && hfAC c.cn6 && (c.l1.all hfAO && c.l2.all hfAO)
theorem QaK{n:Nat}{c:Pcs}{p1 p2:Nat}{aA:AC}{t0:T}{v:AV}{u:T}(hc:c.hf=true)(hA:hfAC aA=true)(h:preRun L n c p1 p2 aA t0=some (v,u)):preRun L' n c p1 p2 aA (sT θ t0)=some (sA θ v,sT θ u):=by
 simp only [Pcs.hf,zBA]at hc;obtain⟨⟨⟨⟨⟨⟨⟨⟨g0,gX⟩,g1⟩,g2⟩,g3⟩,g4⟩,g5⟩,g6⟩,g7,g8⟩:=hc;unfold preRun at h ⊢;obtain⟨t1,e1,h⟩:=qa h;obtain⟨t2,e2,h⟩:=qa h;obtain⟨t3,e3,h⟩:=qa h;obtain⟨t4,e4,h⟩:=qa h;obtain⟨t5,e5,h⟩:=qa h;obtain⟨t6,e6,h⟩:=qa h;obtain⟨t7,e7,h⟩:=qa h;obtain⟨t8,e8,h⟩:=qa h;obtain⟨t9,e9,h⟩:=qa h;obtain⟨hg,h⟩:=Za h;obtain⟨⟨w,x⟩,e10,h⟩:=qa h;obtain⟨u2,e11,h⟩:=qa h;cases h
 rw [cn_s hθ hL g0 e1,ob];rw [cn_s hθ hL gX e2,ob];rw [cn_s hθ hL gX e3,ob];rw [cn_s hθ hL g1 e4,ob];rw [cn_s hθ hL g2 e5,ob];rw [cn_s hθ hL g3 e6,ob];rw [cn_s hθ hL g4 e7,ob];rw [cn_s hθ hL g5 e8,ob];rw [Wag hθ hL g7 e9,ob];rw [Ju,qb (ZaJ hg),show(sT θ t9).x=sX θ t9.x from rfl,WaK e10,ob];have e12:=cn_s hθ hL hA e11;rw [<-vj,<-vj,<-Ju,<-Ju]at e12;have e13:nrmE (codeE L' n aA (((T.mk (sTr θ w) ((sT θ t9).v::(sT θ t9).x) (sT θ t9).h (sT θ t9).n).put (some p1) ((sT θ t9).get c.p)).put (some p2) ((sT θ t9).get c.q)))=some (sT θ u):=e12;show obind (nrmE (codeE L' n aA (((T.mk (sTr θ w) ((sT θ t9).v::(sT θ t9).x) (sT θ t9).h (sT θ t9).n).put (some p1) ((sT θ t9).get c.p)).put (some p2) ((sT θ t9).get c.q)))) (λu2=>some ((sT θ t9).get c.j,u2))=_;rw [e13,Ju];rfl
theorem Vao{n:Nat}{c:Pcs}{u u1:T}(hc:c.hf=true)(h:postRun L n c u=some u1):postRun L' n c (sT θ u)=some (sT θ u1):=by
 simp only [Pcs.hf,zBA]at hc;obtain⟨⟨⟨⟨⟨⟨⟨⟨g0,gX⟩,g1⟩,g2⟩,g3⟩,g4⟩,g5⟩,g6⟩,g7,g8⟩:=hc;unfold postRun at h ⊢;obtain⟨⟨v,x⟩,e1,h⟩:=qa h;obtain⟨t10,e2,h⟩:=qa h;rw [show(sT θ u).x=sX θ u.x from rfl,WaK e1,ob];have e3:=Wag hθ hL g8 e2;rw [<-vj]at e3;show obind (aosE L' false c.l2 ((sT θ (T.mk v x u.h u.n)).put (some c.d) (sA θ (.one (.lit (.bool false)))))) _=_;rw [e3];exact cr_s hθ hL g6 h
theorem yab{n:Nat}{a0 a1:AC}{g:Nat}{args:List AV}{f:Nat}{c:C}{t u:T}(h0:hfAC a0=true)(h1:hfAC a1=true)(h:begRun L n a0 a1 g args t=some ((f,c),u)):begRun L' n a0 a1 g (args.map (sA θ)) (sT θ t)=some ((f,sC θ c),sT θ u):=by
 unfold begRun at h ⊢;obtain⟨s1,e1,h⟩:=qa h;obtain⟨s2,e2,h⟩:=qa h;obtain⟨⟨f',c'⟩,e3,h⟩:=qa h;cases h
 have e4:=cn_s hθ hL h0 e1;have e0:sT θ ⟨argT args 0 .e,t.v::t.x,t.h,t.n⟩=⟨argT (args.map (sA θ)) 0 .e,(sT θ t).v::(sT θ t).x,(sT θ t).h,(sT θ t).n⟩:=by rw [ZF];rfl
 rw [e0]at e4;rw [e4,ob];rw [cn_s hθ hL h1 e2,ob];rw [Ju,UaV e3];rfl
theorem Y8{once:Bool}{n:Nat}{a2:AC}{rv:List RV}{i u:T}(h2:hfAC a2=true)(h:endRun once L n a2 rv i=some (r,u)):endRun once L' n a2 rv (sT θ i)=some (sA θ r,sT θ u):=by
 unfold endRun at h ⊢;obtain⟨⟨v,x⟩,e1,h⟩:=qa h;obtain⟨s4,e2,h⟩:=qa h;obtain⟨lr,e3,h⟩:=qa h;obtain⟨⟨v5,x5⟩,e4,h⟩:=qa h;obtain⟨hg,h⟩:=Za h;simp only [zOI,Prod.mk.injEq]at h;obtain⟨rfl,rfl⟩:=h;rw [show(sT θ i).x=sX θ i.x from rfl,WaK e1];have e5:sel once (some (sT θ (T.mk v x i.h i.n))) (retE (codeE L' n a2 (sT θ (T.mk v x i.h i.n))))=some (sT θ s4):=by
  cases once with
  | true=>cases (show some (T.mk v x i.h i.n)=some s4 from e2);rfl
  | false=>exact cr_s hθ hL h2 e2
 have np:∀h:List (Nat×HB),noPin (sH θ h)=noPin h:=by
  intro h
  induction h with
  | nil=>rfl
  | cons p h ih=>show(Nat.blt p.1 pinA && noPin (sH θ h))=_;rw [ih];rfl
 rw [ob];show obind (sel once (some (sT θ (T.mk v x i.h i.n))) (retE (codeE L' n a2 (sT θ (T.mk v x i.h i.n))))) _=_;rw [e5,ob];rw [Xy e3,ob,show(sT θ s4).x=sX θ s4.x from rfl];rw [WaK e4,ob];show guardE (noPin (sH θ s4.h)) (some (rnV (swp (swaps (sH θ s4.h) (lows (sH θ s4.h)) s4.n)) (resOf (lr.map (sA θ))),(sT θ (T.mk v5 x5 s4.h s4.n)).move (swaps (sH θ s4.h) (lows (sH θ s4.h)) s4.n)))=_;rw [np,qb hg,Qai,JF,yL,vaJ hθ,kar hθ]
theorem VaD{l:List AO}{an:List (List Nat)}(hl:l.all hfAO=true):∀(n:Nat) {rem:List Nat} {t:T} {ts:List T},allS L l an n rem t=some ts->allS L' l an n rem (sT θ t)=some (ts.map (sT θ))
 | 0,_,_,_,h=>nos h
 | n+1,[],t,ts,h=>by cases (show some [t]=some ts from h);rfl
 | n+1,i::r,t,ts,h=>by
  have one:∀{k:Nat} {x:List T},(obind (aoE ((l[k]?).getD default) L false t) λt1=>gT 2 t1 λt1=>gNs ((i::r).erase k) λrem=>allS L l an n rem t1)=some x->k<l.length->
    (obind (aoE ((l[k]?).getD default) L' false (sT θ t)) λt1=>gT 2 t1 λt1=>gNs ((i::r).erase k) λrem=>allS L' l an n rem t1)=some (x.map (sT θ)):=by
   intro k x hx hk;obtain⟨t1,e1,e2⟩:=qa hx;rw [UaB,JH]at e2;have hg:(l[k]?).getD default=l[k]:=by rw [List.getElem?_eq_getElem hk];rfl
   rw [hg]at e1 ⊢;rw [Va7 hθ hL ((List.all_eq_true.1 hl) _ (List.getElem_mem hk)) e1];show(gT 2 (sT θ t1) λt1=>gNs ((i::r).erase k) λrem=>allS L' l an n rem t1)=_;rw [UaB,JH];exact VaD hl n e2
  have out:∀{k:Nat} {x:List T},(obind (aoE ((l[k]?).getD default) L false t) λt1=>gT 2 t1 λt1=>gNs ((i::r).erase k) λrem=>allS L l an n rem t1)=some x->¬k<l.length->
    (obind (aoE ((l[k]?).getD default) L' false (sT θ t)) λt1=>gT 2 t1 λt1=>gNs ((i::r).erase k) λrem=>allS L' l an n rem t1)=some (x.map (sT θ)):=by
   intro k x hx hk;have hg:(l[k]?).getD default=(default:AO):=by rw [List.getElem?_eq_none (by omega)];rfl
   rw [hg]at hx ⊢;obtain⟨t1,e1,e2⟩:=qa hx;rw [UaB,JH]at e2;have ed:∀(L:Lv) (t:T),aoE (default:AO) L false t=some (t.put none (t.ev default)):=λ_ _=>rfl;rw [ed]at e1;cases e1
   rw [ed];show(gT 2 ((sT θ t).put none _) λt1=>gNs ((i::r).erase k) λrem=>allS L' l an n rem t1)=_;rw [UaB,JH];exact VaD hl n e2
  have key:∀(m:List Nat) {x:List T},brs (λk=>obind (aoE ((l[k]?).getD default) L false t) λt1=>gT 2 t1 λt1=>gNs ((i::r).erase k) λrem=>allS L l an n rem t1) (readyN an (i::r)) m=some x->
    brs (λk=>obind (aoE ((l[k]?).getD default) L' false (sT θ t)) λt1=>gT 2 t1 λt1=>gNs ((i::r).erase k) λrem=>allS L' l an n rem t1) (readyN an (i::r)) m=some (x.map (sT θ)):=by
   intro m
   induction m with
   | nil=>intro x h;cases (show some []=some x from h);rfl
   | cons k m ih=>
    intro x h;simp only [brs]at h ⊢;cases hb:readyN an (i::r) k with
    | false=>rw [hb]at h;exact ih h
    | true=>
     rw [hb]at h;obtain⟨y,e1,h⟩:=qa (show obind _ _=some x from h);obtain⟨z,e2,rfl⟩:=yb h;show obind _ _=_;rw [show(obind (aoE ((l[k]?).getD default) L' false (sT θ t)) λt1=>gT 2 t1 λt1=>gNs ((i::r).erase k) λrem=>allS L' l an n rem t1)=some (y.map (sT θ)) from (if hk:k<l.length then one e1 hk else out e1 hk)]
     show omap _ _=_;rw [ih e2];show some (y.map (sT θ)++z.map (sT θ))=_;rw [<-List.map_append]
  exact key (i::r) h
end
theorem kbh{L:Lv}(hL:LvOk P L){f fi b g p1 p2 N Ni n:Nat}{fn fni:Func}{c0 c1 cA cB c2 ci:Code}{a0 a1 aA a2:AC}{rv:List RV}(hc:PairCode P f fi b g p1 p2 N Ni fn fni c0 c1 cA cB c2 ci a0 a1 aA a2 rv){once:Bool}{args:List AV}(hlen:args.length<=N)
  {cap:C} (hcap:cap≠.lit (.agg ⟨[]⟩)) {t0 s2 t1:T} {i1:Nat->T} (hb:begRun L n a0 a1 g args t0=some ((fi,cap),s2)) (hit:Iter once P N p1 p2 cA cB ci Ni (itS s2 cap) i1) (he:∀l,endRun once L n a2 rv (i1 l)=some (r,t1))
  (E:Env) (vals:List Value) (a:Act) (w:World) (m:M) (I:Nat->Prop) (K:AV->S->Prop) (hs:Sim E t0.den a w m I) (hargs:RAs m I w.heap args vals) (hK:K r t1.den) :
  Calls P f ⟨vals⟩ w λe w'=>∃v' r s' m' I',e=.returned v'/\K r s'/\RA m' I' w'.heap r v'/\Sim E s' a w' m' I':=by
 unfold begRun at hb;obtain⟨s1,e1,hb⟩:=qa hb;obtain⟨s,e2,hb⟩:=qa hb;obtain⟨⟨f',c'⟩,e3,hb⟩:=qa hb;simp only [zOI,Prod.mk.injEq]at hb;obtain⟨⟨rfl,rfl⟩,rfl⟩:=hb;have hg:s.get g=.one (.clo f' [c']):=by
  unfold cloOf at e3;split at e3
  .rename_i e;cases e3;exact e
  .exact nos e3
 refine XJ hL hc hit hlen (Jl e1) (Jl e2) hg hcap (λl=>rfl) (λl=>?_) hs hargs hK;have he:=he l;unfold endRun at he;obtain⟨⟨v3,x3⟩,g1,he⟩:=qa he;obtain⟨s4,g2,he⟩:=qa he;obtain⟨lr,g3,he⟩:=qa he;obtain⟨⟨v5,x5⟩,g4,he⟩:=qa he;obtain⟨g5,he⟩:=Za he;simp only [zOI,Prod.mk.injEq]at he;refine⟨v3,x3,s4,lr,v5,x5,kD g1,?_,g3,kD g4,jP g5,he.1,he.2⟩;cases once with
 | true=>cases (show some _=some s4 from g2);exact .inl ⟨rfl,rfl⟩
 | false=>exact .inr ⟨rfl,yae g2⟩
noncomputable section
open Classical in
def pairP(θ:Nat->C):List PQ->T->List AV->Option (AV×T)
 | [],_,_=>none
 | q::l,t,args=>if (∃v x,t=sT θ ⟨v,x,q.h,q.n⟩)/\args=q.args.map (sA θ) then some (sA θ q.r,⟨mvT q.mv t.v,mvX q.mv t.x,sH θ q.h',q.n'⟩) else pairP θ l t args
theorem Ja4(hθ:ThOk θ):∀(l:List (List (Nat×Nat))) (v:Tr),mvT l (sTr θ v)=sTr θ (mvT l v)
 | [],_=>rfl
 | p::l,v=>by show mvT l (rnT (swp p) (sTr θ v))=sTr θ (mvT l (rnT (swp p) v));rw [Qap hθ,Ja4 hθ l]
theorem jaY(hθ:ThOk θ):∀(l:List (List (Nat×Nat))) (v:List Tr),mvX l (sX θ v)=sX θ (mvX l v)
 | [],_=>rfl
 | p::l,v=>by show mvX l ((sX θ v).map (rnT (swp p)))=sX θ (mvX l (v.map (rnT (swp p))));rw [kaZ hθ,jaY hθ l]
def PqOkS(P:Program)(f:Nat)(θ:Nat->C)(q:PQ):Prop:=
 ∀(v:Tr) (x:List Tr) (E:Env) (vals:List Value) (a:Act) (w:World) (m:M) (I:Nat->Prop) (K:AV->S->Prop),Sim E (sT θ (T.mk v x q.h q.n)).den a w m I->RAs m I w.heap (q.args.map (sA θ)) vals->K (sA θ q.r) (sT θ (T.mk (mvT q.mv v) (mvX q.mv x) q.h' q.n')).den->
  Calls P f ⟨vals⟩ w λe w'=>∃v' r s' m' I',e=.returned v'/\K r s'/\RA m' I' w'.heap r v'/\Sim E s' a w' m' I'
theorem ky(hθ:ThOk θ){f:Nat}:∀{l:List PQ},(∀q∈l,PqOkS P f θ q)->ISound P f λ_ args s K=>∃t r t',s=t.den/\pairP θ l t args=some (r,t')/\K r t'.den
 | [],_=>λE args vals s a w m I d K hs hargs ⟨t,r,t',e,h,hk⟩=>nos h
 | q::l,hl=>by
  intro E args vals s a w m I d K hs hargs ⟨t,r,t',e,h,hk⟩;simp only [pairP]at h;split at h
  .rename_i hb;obtain⟨⟨v,x,rfl⟩,rfl⟩:=hb;cases h
   subst e;refine hl q (List.mem_cons_self ..) v x E vals a w m I K hs hargs ?_;have e1:(T.mk (mvT q.mv (sT θ ⟨v,x,q.h,q.n⟩).v) (mvX q.mv (sT θ ⟨v,x,q.h,q.n⟩).x) (sH θ q.h') q.n')=sT θ (T.mk (mvT q.mv v) (mvX q.mv x) q.h' q.n'):=by
    show T.mk (mvT q.mv (sTr θ v)) (mvX q.mv (sX θ x)) _ _=_;rw [Ja4 hθ,jaY hθ];rfl
   rw [<-e1];exact hk
  .exact ky hθ (λq hq=>hl q (List.mem_cons_of_mem _ hq)) E args vals s a w m I d K hs hargs ⟨t,r,t',e,h,hk⟩
theorem uaB(hθ:ThOk θ):∀{l:List PQ},l.Pairwise (λp q=>p.n≠q.n)->∀{t:T} {args:List AV} {r:AV} {t1:T},pairE l t args=some (r,t1)->pairP θ l (sT θ t) (args.map (sA θ))=some (sA θ r,sT θ t1)/\∃q∈l,t.n=q.n
 | [],_,_,_,_,_,h=>nos h
 | q::l,hp,t,args,r,t1,h=>by
  simp only [pairE]at h;rw [jj]at h;obtain⟨hp1,hp2⟩:=List.pairwise_cons.1 hp;split at h
  .rename_i hb;simp only [zBA]at hb;have e1:=beq_eq hb.1.1;have e2:=vw hb.1.2;have e3:=qaD hb.2;cases h
   refine⟨?_,q,List.mem_cons_self ..,e1⟩;simp only [pairP];rw [if_pos ⟨⟨t.v,t.x,by rw [<-e1,<-e3]⟩,by rw [e2]⟩]
   show some (sA θ q.r,T.mk (mvT q.mv (sTr θ t.v)) (mvX q.mv (sX θ t.x)) _ _)=_;rw [Ja4 hθ,jaY hθ];rfl
  .obtain⟨h1,q',h2,h3⟩:=uaB hθ hp2 h;refine⟨?_,q',List.mem_cons_of_mem _ h2,h3⟩;simp only [pairP];rw [if_neg,h1];rintro⟨⟨v,x,e⟩,-⟩;have:(sT θ t).n=(sT θ ⟨v,x,q.h,q.n⟩).n:=by rw [e]
   exact hp1 q' h2 (by rw [<-h3];exact this.symm)
end
end Go.Abs
end
section
namespace Go.Abs
open Go.Num
inductive Df where
 | par
 | int (n:Int)
 | add (i j:Nat)
 | sub (i j:Nat)
 | mul (i j:Nat)
 | div (i j:Nat)
 | neg (i:Nat)
 | root
 deriving Inhabited
structure Eng where
 df:List Df
 st:List Nat
 lv:List Bool
 bd:List Nat
 x:Nat
noncomputable section
def Eng.s(E:Eng)(k:Nat):Nat:=(E.st[k]?).getD 4
def Eng.l(E:Eng)(k:Nat):Bool:=(E.lv[k]?).getD false
def Eng.b(E:Eng)(k:Nat):Nat:=(E.bd[k]?).getD 1000000000
abbrev Sy:=Option Nat
def fnd(p:Df->Bool):List Df->Nat->Option Nat
 | [],_=>none
 | d::r,k=>cond (p d) (some k) (fnd p r (k+1))
def isAdd(i j:Nat):Df->Bool
 | .add a b=>(Nat.beq a i && Nat.beq b j) || (Nat.beq a j && Nat.beq b i)
 | _=>false
def isMul(i j:Nat):Df->Bool
 | .mul a b=>(Nat.beq a i && Nat.beq b j) || (Nat.beq a j && Nat.beq b i)
 | _=>false
def isSub(i j:Nat):Df->Bool
 | .sub a b=>Nat.beq a i && Nat.beq b j
 | _=>false
def isDiv(i j:Nat):Df->Bool
 | .div a b=>Nat.beq a i && Nat.beq b j
 | _=>false
def isNeg(i:Nat):Df->Bool
 | .neg a=>Nat.beq a i
 | _=>false
def isInt(n:Int):Df->Bool
 | .int a=>ieq a n
 | _=>false
def isRoot:Df->Bool
 | .root=>true
 | _=>false
section
variable (E:Eng)
def Eng.mk1(k:Nat):Sy:=cond (Nat.beq (E.s k) 0) none (some k)
def sFnd(p:Df->Bool):Option Sy:=match fnd p E.df 0 with
 | some k=>some (E.mk1 k)
 | none=>none
def sNeg:Sy->Option Sy
 | none=>some none
 | some i=>sFnd E (isNeg i)
def sAdd:Sy->Sy->Option Sy
 | none,b=>some b
 | some i,none=>some (some i)
 | some i,some j=>sFnd E (isAdd i j)
def sSub:Sy->Sy->Option Sy
 | a,none=>some a
 | none,some j=>sNeg E (some j)
 | some i,some j=>sFnd E (isSub i j)
def sMul:Sy->Sy->Option Sy
 | none,_=>some none
 | some _,none=>some none
 | some i,some j=>sFnd E (isMul i j)
def nzS(k:Nat):Bool:=Nat.beq (E.s k) 1 || Nat.beq (E.s k) 2 || Nat.beq (E.s k) 3
def sDiv:Sy->Sy->Option Sy
 | _,none=>none
 | none,some j=>cond (nzS E j) (some none) none
 | some i,some j=>cond (nzS E j) (sFnd E (isDiv i j)) none
def sInt(n:Int):Option Sy:=cond (ieq n 0) (some none) (sFnd E (isInt n))
def sSgn:Sy->Option Int
 | none=>some 0
 | some k=>cond (Nat.beq (E.s k) 1) (some 1) (cond (Nat.beq (E.s k) 2) (some (-1)) none)
end
def hdl(k:Nat):C:=.lit (.chan (some k))
def ratC:Sy->List C
 | none=>[.lit (.bool false),.slice [],.slice []]
 | some k=>[hdl (4*k),hdl (4*k+1),hdl (4*k+2)]
def ratA(s:Sy):AV:=.agg (ratC s)
def numC:Sy->C
 | none=>.slice []
 | some k=>hdl (4*k+3)
def rowC(l:List Sy):C:=.slice (l.map ratC)
def ratD:List C->Option Sy
 | [.lit (.bool false),.slice [],.slice []]=>some none
 | [.lit (.chan (some a)),.lit (.chan (some b)),.lit (.chan (some c))]=>cond (Nat.beq a (4*(a / 4)) && Nat.beq b (a+1) && Nat.beq c (a+2)) (some (some (a / 4))) none
 | _=>none
def ratV:AV->Option Sy
 | .agg cs=>ratD cs
 | _=>none
def ratQ(E:Eng)(a:AV):Option Sy:=match ratV a with
 | some none=>some none
 | some (some k)=>cond (E.l k && Nat.ble (E.b k) 1000000) (some (some k)) none
 | none=>none
def rowD:List (List C)->Option (List Sy)
 | []=>some []
 | e::l=>match ratD e with
  | some s=>(rowD l).map (s::·)
  | none=>none
def okSy(E:Eng)(lim:Nat):Sy->Bool
 | none=>true
 | some k=>E.l k && Nat.ble (E.b k) lim
def numQ(E:Eng)(lv:Bool):AV->Option Sy
 | .one (.slice [])=>some none
 | .one (.slice [e])=>match ratD e with
  | some s=>cond (okSy E 10000 s) (some s) none
  | none=>none
 | .one (.lit (.chan (some a)))=>cond (Nat.beq a (4*(a / 4)+3) && Nat.ble (E.b (a / 4)) 10000 && (!lv || E.l (a / 4))) (some (some (a / 4))) none
 | _=>none
def towQ(E:Eng):AV->Option Bool
 | .agg [.slice []]=>some true
 | .agg [.slice [[.slice [e]]]]=>match ratD e with
  | some (some k)=>cond (Nat.beq k E.x && Nat.beq (E.s k) 1 && okSy E 10000 (some k)) (some false) none
  | _=>none
 | _=>none
inductive EK where
 | fr (k:FK)
 | zero | empty | copied | same
 | chk | of | neg | add | sub | mul | div | sign | ext
 | cst (b:Bool)
def nilV:AV:=.one (.lit .nilIface)
def intV(n:Int):AV:=.one (.lit (.int .i64 n))
def boolV(b:Bool):AV:=.one (.lit (.bool b))
def zeroE(E:Eng):List Sy->Option Bool
 | []=>some true
 | none::l=>zeroE E l
 | some k::_=>cond (nzS E k) (some false) none
def num1(E:Eng)(t:AV)(l:List AV)(f:List Sy->Option AV):Option AV:=match towQ E t with
 | some lv=>match l.mapM (numQ E lv) with
  | some l=>f l
  | none=>none
 | none=>none
def retN:Option Sy->Option AV
 | some s=>some (.tup [.one (numC s),nilV])
 | none=>none
def retR:Option Sy->Option AV
 | some s=>some (ratA s)
 | none=>none
def rat2(E:Eng)(f:Sy->Sy->Option AV)(a b:AV):Option AV:=match ratQ E a,ratQ E b with
 | some x,some y=>f x y
 | _,_=>none
def rat1(E:Eng)(f:Sy->Option AV)(a:AV):Option AV:=match ratQ E a with
 | some x=>f x
 | _=>none
def symF(E:Eng):FK->List AV->Option AV
 | .add,[a,b]=>rat2 E (λx y=>retR (sAdd E x y)) a b
 | .sub,[a,b]=>rat2 E (λx y=>retR (sSub E x y)) a b
 | .mul,[a,b]=>rat2 E (λx y=>retR (sMul E x y)) a b
 | .div,[a,b]=>rat2 E (λx y=>match sDiv E x y with | some s=>some (.tup [ratA s,nilV]) | none=>none) a b
 | .neg,[a]=>rat1 E (λx=>retR (sNeg E x)) a
 | .sign,[a]=>rat1 E (λx=>(sSgn E x).map intV) a
 | .cmp,[a,b]=>rat2 E (λx y=>match sSub E x y with | some s=>(sSgn E s).map intV | none=>none) a b
 | .valid,[a]=>rat1 E (λ_=>some (boolV true)) a
 | .of,[.one (.lit (.int .i64 n))]=>cond (ile (-1000) n && ile n 1000) (retR (sInt E n)) none
 | _,_=>none
def rowQ(E:Eng):AV->Option (List Sy)
 | .one (.slice es)=>match rowD es with
  | some l=>cond (l.all (okSy E 1000000) && Nat.ble l.length 2) (some l) none
  | none=>none
 | _=>none
def shA(E:Eng):AV->Bool
 | .one (.slice [e])=>match ratD e with
  | some (some k)=>nzS E k
  | _=>false
 | _=>true
def symE(E:Eng):EK->List AV->Option AV
 | .fr k,l=>symF E k l
 | .zero,[a]=>match rowQ E a with
  | some l=>(zeroE E l).map boolV
  | none=>none
 | .empty,[a]=>match rowQ E a with
  | some l=>(zeroE E l).map boolV
  | none=>none
 | .copied,[a]=>match rowQ E a with
  | some _=>some a
  | none=>none
 | .same,[a]=>match numQ E false a with
  | some _=>cond (shA E a) (some a) none
  | none=>none
 | .chk,[t]=>(towQ E t).map λ_=>nilV
 | .of,[a]=>rat1 E (λx=>cond (okSy E 10000 x) (some (.one (numC x))) none) a
 | .neg,[t,a]=>num1 E t [a] fun | [x]=>retN (sNeg E x) | _=>none
 | .add,[t,a,b]=>num1 E t [a,b] fun | [x,y]=>retN (sAdd E x y) | _=>none
 | .sub,[t,a,b]=>num1 E t [a,b] fun | [x,y]=>retN (sSub E x y) | _=>none
 | .mul,[t,a,b]=>num1 E t [a,b] fun | [x,y]=>retN (sMul E x y) | _=>none
 | .div,[t,a,b]=>num1 E t [a,b] fun | [x,y]=>retN (sDiv E x y) | _=>none
 | .sign,[t,a]=>num1 E t [a] fun | [x]=>(sSgn E x).map λn=>.tup [intV n,nilV] | _=>none
 | .ext,[.agg [.slice []],a]=>match numQ E true a with
  | some (some k)=>cond (Nat.beq k E.x && Nat.beq (E.s k) 1) (match fnd isRoot E.df 0 with
   | some r=>some (.tup [.agg [.slice [[rowC [some k]]]],.one (numC (some r)),nilV])
   | none=>none) none
  | _=>none
 | .cst b,_=>some (boolV b)
 | _,_=>none
def lookEK:List (Nat×EK)->Nat->Option EK
 | [],_=>none
 | (k,x)::r,f=>cond (Nat.beq f k) (some x) (lookEK r f)
abbrev PR:=Rat×Rat
def shortQ(p:PR):List Rat:=if p.2=0 then (if p.1=0 then [] else [p.1]) else [p.1,p.2]
def qC(q:Rat):List C:=[cb (rcan q),cn (rcan q),cd (rcan q)]
def rowQC(l:List Rat):C:=.slice (l.map qC)
def prQ(l:List Rat):PR:=(l.getD 0 0,l.getD 1 0)
def mulP(X:Rat)(a b:PR):PR:=(a.1*b.1+a.2*b.2*X,a.1*b.2+a.2*b.1)
def decN(lim:Nat):AV->Option (List Rat)
 | .one (.slice es)=>match es.mapM (λe=>decV (.agg e)) with
  | some l=>if l.length<=2/\∀x∈l,rl x<=lim then some (l.map rv) else none
  | none=>none
 | _=>none
def decT:AV->Option (Option Rat)
 | .agg [.slice []]=>some none
 | .agg [.slice [[.slice [e]]]]=>match decV (.agg e) with
  | some x=>if rl x<=10000/\0<rv x then some (some (rv x)) else none
  | none=>none
 | _=>none
def okN(T:Option Rat):List Rat->Bool
 | []=>true
 | [_]=>true
 | [_,y]=>T.isSome && decide (y≠0)
 | _=>false
def numF(t:AV)(l:List AV)(f:Option Rat->List (List Rat)->Option AV):Option AV:=match decT t with
 | some T=>match l.mapM (decN 10000) with
  | some l=>if l.all (okN T)=true then f T l else none
  | none=>none
 | none=>none
def retP(p:PR):Option AV:=some (.tup [.one (rowQC (shortQ p)),nilV])
def FE:EK->List AV->Option AV
 | .fr k,l=>fracE k l
 | .zero,[a]=>(decN 1000000 a).map λl=>boolV (l.all λq=>decide (q=0))
 | .empty,[a]=>(decN 1000000 a).map λl=>boolV (l.all λq=>decide (q=0))
 | .copied,[a]=>(decN 1000000 a).map λ_=>a
 | .same,[a]=>match decN 10000 a with
  | some l=>if okN (some 1) l=true/\shortQ (prQ l)=l then some a else none
  | none=>none
 | .chk,[t]=>(decT t).map λ_=>nilV
 | .of,[a]=>match decV a with
  | some x=>if rl x<=10000 then some (.one (rowQC (shortQ (rv x,0)))) else none
  | none=>none
 | .neg,[t,a]=>numF t [a] λ_=>fun | [l]=>retP (-(prQ l).1,-(prQ l).2) | _=>none
 | .add,[t,a,b]=>numF t [a,b] λ_=>fun | [l,m]=>retP ((prQ l).1+(prQ m).1,(prQ l).2+(prQ m).2) | _=>none
 | .sub,[t,a,b]=>numF t [a,b] λ_=>fun | [l,m]=>retP ((prQ l).1-(prQ m).1,(prQ l).2-(prQ m).2) | _=>none
 | .mul,[t,a,b]=>numF t [a,b] λT=>fun | [l,m]=>retP (mulP (T.getD 0) (prQ l) (prQ m)) | _=>none
 | .div,[t,a,b]=>numF t [a,b] λ_=>fun | [l,m]=>if (prQ m).1≠0/\(prQ m).2=0 then retP ((prQ l).1 / (prQ m).1,(prQ l).2 / (prQ m).1) else none | _=>none
 | .sign,[t,a]=>numF t [a] λ_=>fun | [l]=>if (prQ l).2=0 then some (.tup [intV (ordQ (prQ l).1 0),nilV]) else none | _=>none
 | .ext,[.agg [.slice []],a]=>match decN 10000 a with
  | some [x]=>if 0<x then some (.tup [.agg [.slice [[rowQC [x]]]],.one (rowQC [0,1]),nilV]) else none
  | _=>none
 | .cst b,_=>some (boolV b)
 | _,_=>none
end
end Go.Abs
end
section
namespace Go.Abs
open Go.Num
def Df.sem(X:Rat)(v:Nat->PR)(p:PR):Df->Prop
 | .par=>True
 | .int n=>p=((n:Rat),0)
 | .add i j=>p=((v i).1+(v j).1,(v i).2+(v j).2)
 | .sub i j=>p=((v i).1-(v j).1,(v i).2-(v j).2)
 | .mul i j=>p=mulP X (v i) (v j)
 | .div i j=>p=((v i).1 / (v j).1,(v i).2 / (v j).1)
 | .neg i=>p=(-(v i).1,-(v i).2)
 | .root=>p=(0,1)
structure EngOk (E:Eng) (v:Nat->PR):Prop where
 df:∀(k:Nat) (d:Df),E.df[k]?=some d->d.sem (v E.x).1 v (v k)
 s0:∀k,E.s k=0->v k=(0,0)
 s1:∀k,E.s k=1->0<(v k).1/\(v k).2=0
 s2:∀k,E.s k=2->(v k).1<0/\(v k).2=0
 s3:∀k,E.s k=3->(v k).1≠0/\(v k).2=0
 lv:∀k,E.l k=true->(v k).2=0
 bd:∀k,E.b k<=1000000->rz (v k).1<=E.b k/\rz (v k).2<=E.b k
def vS(v:Nat->PR):Sy->PR
 | none=>(0,0)
 | some k=>v k
variable {E:Eng} {v:Nat->PR}
theorem jad{p:Df->Bool}:∀{l:List Df} {k i:Nat},fnd p l k=some i->∃d,l[i-k]?=some d/\p d=true/\k<=i
 | [],k,i,h=>nos h
 | d::r,k,i,h=>by
  simp only [fnd]at h;cases hb:p d with
  | true=>
   rw [hb]at h;cases h
   exact⟨d,by simp,hb,Nat.le_refl _⟩
  | false=>
   rw [hb]at h;obtain⟨d',h1,h2,h3⟩:=jad (show fnd p r (k+1)=some i from h);refine⟨d',?_,h2,by omega⟩
   have:i-k=(i-(k+1))+1:=by omega
   rw [this,List.getElem?_cons_succ];exact h1
theorem wd(h:EngOk E v)(k:Nat):vS v (E.mk1 k)=v k:=by
 unfold Eng.mk1;cases hb:Nat.beq (E.s k) 0 with
 | true=>exact(h.s0 k (beq_eq hb)).symm
 | false=>rfl
theorem kx(h:EngOk E v){p:Df->Bool}{s:Sy}(hs:sFnd E p=some s):∃d,p d=true/\d.sem (v E.x).1 v (vS v s):=by
 unfold sFnd at hs;split at hs
 .rename_i k e;cases hs
  obtain⟨d,h1,h2,-⟩:=jad e;exact⟨d,h2,by rw [wd h];exact h.df k d h1⟩
 .exact nos hs
theorem zar(X:Rat)(a b:PR):mulP X a b=mulP X b a:=by
 unfold mulP;exact Prod.ext (by simp only;grind) (by simp only;grind)
theorem Xs(h:EngOk E v){a s:Sy}(hs:sNeg E a=some s):vS v s=(-(vS v a).1,-(vS v a).2):=by
 cases a with
 | none=>cases hs;exact Prod.ext (by simp only [vS];grind) (by simp only [vS];grind)
 | some i=>
  obtain⟨d,h1,h2⟩:=kx h (show sFnd E (isNeg i)=some s from hs);unfold isNeg at h1;split at h1
  .rw [beq_eq h1]at h2;exact h2
  .exact Bool.noConfusion h1
theorem Qq(h:EngOk E v){a b s:Sy}(hs:sAdd E a b=some s):vS v s=((vS v a).1+(vS v b).1,(vS v a).2+(vS v b).2):=by
 cases a with
 | none=>cases hs;exact Prod.ext (Rat.zero_add _).symm (Rat.zero_add _).symm
 | some i=>
  cases b with
  | none=>cases hs;exact Prod.ext (Rat.add_zero _).symm (Rat.add_zero _).symm
  | some j=>
   obtain⟨d,h1,h2⟩:=kx h (show sFnd E (isAdd i j)=some s from hs);unfold isAdd at h1;split at h1
   .simp only [Bool.or_eq_true,zBA]at h1;rcases h1 with⟨e1,e2⟩ | ⟨e1,e2⟩
    .rw [beq_eq e1,beq_eq e2]at h2;exact h2
    .rw [beq_eq e1,beq_eq e2]at h2;exact h2.trans (Prod.ext (Rat.add_comm _ _) (Rat.add_comm _ _))
   .exact Bool.noConfusion h1
theorem U5(h:EngOk E v){a b s:Sy}(hs:sSub E a b=some s):vS v s=((vS v a).1-(vS v b).1,(vS v a).2-(vS v b).2):=by
 cases b with
 | none=>
  have hs:some a=some s:=by cases a <;> exact hs
  cases hs
  exact Prod.ext (by simp only [vS];grind) (by simp only [vS];grind)
 | some j=>
  cases a with
  | none=>
   rw [Xs h (show sNeg E (some j)=some s from hs)];exact Prod.ext (by simp only [vS];grind) (by simp only [vS];grind)
  | some i=>
   obtain⟨d,h1,h2⟩:=kx h (show sFnd E (isSub i j)=some s from hs);unfold isSub at h1;split at h1
   .simp only [zBA]at h1;rw [beq_eq h1.1,beq_eq h1.2]at h2;exact h2
   .exact Bool.noConfusion h1
theorem uo(h:EngOk E v){a b s:Sy}(hs:sMul E a b=some s):vS v s=mulP (v E.x).1 (vS v a) (vS v b):=by
 cases a with
 | none=>cases hs;unfold mulP;exact Prod.ext (by simp only [vS];grind) (by simp only [vS];grind)
 | some i=>
  cases b with
  | none=>cases hs;unfold mulP;exact Prod.ext (by simp only [vS];grind) (by simp only [vS];grind)
  | some j=>
   obtain⟨d,h1,h2⟩:=kx h (show sFnd E (isMul i j)=some s from hs);unfold isMul at h1;split at h1
   .simp only [Bool.or_eq_true,zBA]at h1;rcases h1 with⟨e1,e2⟩ | ⟨e1,e2⟩
    .rw [beq_eq e1,beq_eq e2]at h2;exact h2
    .rw [beq_eq e1,beq_eq e2]at h2;exact h2.trans (zar _ _ _)
   .exact Bool.noConfusion h1
theorem wac(h:EngOk E v){k:Nat}(hn:nzS E k=true):(v k).1≠0/\(v k).2=0:=by
 unfold nzS at hn;simp only [Bool.or_eq_true]at hn;rcases hn with(e | e) | e
 .have:=h.s1 k (beq_eq e);exact⟨by grind,this.2⟩
 .have:=h.s2 k (beq_eq e);exact⟨by grind,this.2⟩
 .exact h.s3 k (beq_eq e)
theorem zZ(h:EngOk E v){a b s:Sy}(hs:sDiv E a b=some s):(vS v b).1≠0/\(vS v b).2=0/\vS v s=((vS v a).1 / (vS v b).1,(vS v a).2 / (vS v b).1):=by
 cases b with
 | none=>cases a <;> exact nos hs
 | some j=>
  cases a with
  | none=>
   have hs:cond (nzS E j) (some none) none=some s:=hs;cases hn:nzS E j with
   | false=>rw [hn]at hs;exact nos hs
   | true=>
    rw [hn]at hs;cases hs
    obtain⟨q1,q2⟩:=wac h hn;exact⟨q1,q2,Prod.ext (by simp only [vS,Rat.div_def,Rat.zero_mul]) (by simp only [vS,Rat.div_def,Rat.zero_mul])⟩
  | some i=>
   have hs:cond (nzS E j) (sFnd E (isDiv i j)) none=some s:=hs;cases hn:nzS E j with
   | false=>rw [hn]at hs;exact nos hs
   | true=>
    rw [hn]at hs;obtain⟨q1,q2⟩:=wac h hn;obtain⟨d,h1,h2⟩:=kx h (show sFnd E (isDiv i j)=some s from hs);unfold isDiv at h1;split at h1
    .simp only [zBA]at h1;rw [beq_eq h1.1,beq_eq h1.2]at h2;exact⟨q1,q2,h2⟩
    .exact Bool.noConfusion h1
theorem qaE(h:EngOk E v){n:Int}{s:Sy}(hs:sInt E n=some s):vS v s=((n:Rat),0):=by
 unfold sInt at hs;cases hb:ieq n 0 with
 | true=>
  rw [hb]at hs;cases hs
  rw [Qaa hb];rfl
 | false=>
  rw [hb]at hs;obtain⟨d,h1,h2⟩:=kx h (show sFnd E (isInt n)=some s from hs);unfold isInt at h1;split at h1
  .rw [<-Qaa h1];exact h2
  .exact Bool.noConfusion h1
theorem Uac{q:Rat}(h:0<q):ordQ q 0=1:=by
 unfold ordQ;rw [if_neg (by grind),if_pos h]
theorem Xag{q:Rat}(h:q<0):ordQ q 0 = -1:=by
 unfold ordQ;rw [if_pos h]
theorem X3(h:EngOk E v){a:Sy}{n:Int}(hs:sSgn E a=some n):(vS v a).2=0/\ordQ (vS v a).1 0=n:=by
 cases a with
 | none=>cases hs;exact⟨rfl,rfl⟩
 | some k=>
  have hs:cond (Nat.beq (E.s k) 1) (some 1) (cond (Nat.beq (E.s k) 2) (some (-1)) none)=some n:=hs;cases h1:Nat.beq (E.s k) 1 with
  | true=>
   rw [h1]at hs;cases hs
   have:=h.s1 k (beq_eq h1);exact⟨this.2,Uac this.1⟩
  | false=>
   rw [h1]at hs;cases h2:Nat.beq (E.s k) 2 with
   | true=>
    rw [h2]at hs;cases hs
    have:=h.s2 k (beq_eq h2);exact⟨this.2,Xag this.1⟩
   | false=>rw [h2]at hs;exact nos hs
noncomputable def thE(v:Nat->PR)(n:Nat):C:=
 if n % 4=0 then cb (rcan (v (n / 4)).1) else if n % 4=1 then cn (rcan (v (n / 4)).1) else if n % 4=2 then cd (rcan (v (n / 4)).1) else rowQC (shortQ (v (n / 4)))
theorem th0(v:Nat->PR)(k:Nat):thE v (4*k)=cb (rcan (v k).1):=by
 unfold thE;rw [if_pos (by omega),show 4*k / 4=k by omega]
theorem th1(v:Nat->PR)(k:Nat):thE v (4*k+1)=cn (rcan (v k).1):=by
 unfold thE;rw [if_neg (by omega),if_pos (by omega),show(4*k+1) / 4=k by omega]
theorem th2(v:Nat->PR)(k:Nat):thE v (4*k+2)=cd (rcan (v k).1):=by
 unfold thE;rw [if_neg (by omega),if_neg (by omega),if_pos (by omega),show(4*k+2) / 4=k by omega]
theorem th3(v:Nat->PR)(k:Nat):thE v (4*k+3)=rowQC (shortQ (v k)):=by
 unfold thE;rw [if_neg (by omega),if_neg (by omega),if_neg (by omega),show(4*k+3) / 4=k by omega]
theorem waE(n x:Nat):(wc x).all (cleanE (n+1))=true:=rfl
theorem Jq(n:Nat)(l:List Nat):cleanE (n+2) (ws l)=true:=by
 show((l.map wc).all λe=>e.all (cleanE (n+1)))=true;rw [List.all_map,List.all_eq_true];exact λx _=>waE n x
theorem VT:∀l:List Nat,eqR (l.map wc) (l.map wc)=true
 | []=>rfl
 | x::l=>by
  simp only [List.map_cons,eqR,wc,eqL,eqC,eqV,sameK,yB,VT l,decide_true,Bool.and_true]
theorem VaQ:∀l:List Rat,eqR (l.map qC) (l.map qC)=true
 | []=>rfl
 | x::l=>by
  simp only [List.map_cons,eqR,qC,eqL,cb,cn,cd,ws,eqC,eqV,VT,VaQ l,beq_self_eq_true,Bool.and_true]
theorem Yap(n:Nat)(q:Rat):(qC q).all (cleanE (n+2))=true:=by
 show(cleanE (n+2) (cb (rcan q)) && (cleanE (n+2) (cn (rcan q)) && (cleanE (n+2) (cd (rcan q)) && true)))=true;rw [show cleanE (n+2) (cn (rcan q))=true from Jq n _,show cleanE (n+2) (cd (rcan q))=true from Jq n _];rfl
theorem xC(v:Nat->PR):ThOk (thE v):=by
 have four:∀k,(∃q,thE v k=cb (rcan q))∨(∃q,thE v k=cn (rcan q))∨(∃q,thE v k=cd (rcan q))∨∃l,thE v k=rowQC l:=by
  intro k;unfold thE;split
  .exact .inl ⟨_,rfl⟩
  .split
   .exact .inr (.inl ⟨_,rfl⟩)
   .split
    .exact .inr (.inr (.inl ⟨_,rfl⟩))
    .exact .inr (.inr (.inr ⟨_,rfl⟩))
 refine⟨λk=>?_,λk n hn=>?_,λk=>?_⟩
 .rcases four k with⟨q,h⟩ | ⟨q,h⟩ | ⟨q,h⟩ | ⟨l,h⟩
  .exact .inl ⟨_,h⟩
  .exact .inr ⟨_,h⟩
  .exact .inr ⟨_,h⟩
  .exact .inr ⟨_,h⟩
 .obtain⟨n,rfl⟩:∃m,n=m+3:=⟨n-3,by omega⟩
  rcases four k with⟨q,h⟩ | ⟨q,h⟩ | ⟨q,h⟩ | ⟨l,h⟩ <;> rw [h]
  .rfl
  .exact Jq _ _
  .exact Jq _ _
  .show((l.map qC).all λe=>e.all (cleanE (n+3)))=true;rw [List.all_map,List.all_eq_true];exact λx _=>Yap (n+1) x
 .rcases four k with⟨q,h⟩ | ⟨q,h⟩ | ⟨q,h⟩ | ⟨l,h⟩ <;> rw [h]
  .simp only [cb,eqC,eqV,beq_self_eq_true]
  .simp only [cn,ws,eqC,VT]
  .simp only [cd,ws,eqC,VT]
  .simp only [rowQC,eqC,VaQ]
theorem Zk(v:Nat->PR)(s:Sy):sL (thE v) (ratC s)=qC (vS v s).1:=by
 cases s with
 | none=>
  show [C.lit (.bool false),.slice [],.slice []]=qC 0;unfold qC;rw [uc];rfl
 | some k=>
  show [thE v (4*k),thE v (4*k+1),thE v (4*k+2)]=_;rw [th0,th1,th2];rfl
theorem Yy(v:Nat->PR)(s:Sy):sA (thE v) (ratA s)=.agg (qC (vS v s).1):=by
 show AV.agg (sL (thE v) (ratC s))=_;rw [Zk]
theorem UF:shortQ (0,0)=[]:=by unfold shortQ;rw [if_pos rfl,if_pos rfl]
theorem yaC(v:Nat->PR)(s:Sy):sC (thE v) (numC s)=rowQC (shortQ (vS v s)):=by
 cases s with
 | none=>show C.slice []=rowQC (shortQ (0,0));rw [UF];rfl
 | some k=>show thE v (4*k+3)=_;rw [th3];rfl
theorem JE{cs:List C}{s:Sy}(h:ratD cs=some s):cs=ratC s:=by
 unfold ratD at h;split at h
 .cases h;rfl
 .rename_i a b c;cases hb:(Nat.beq a (4*(a / 4)) && Nat.beq b (a+1) && Nat.beq c (a+2)) with
  | false=>rw [hb]at h;exact nos h
  | true=>
   rw [hb]at h;cases h
   simp only [zBA]at hb;have e1:=beq_eq hb.1.1;have e2:=beq_eq hb.1.2;have e3:=beq_eq hb.2;show _=[hdl (4*(a / 4)),hdl (4*(a / 4)+1),hdl (4*(a / 4)+2)];rw [<-e1,e2,e3];rfl
 .exact nos h
theorem kaF:∀{es:List (List C)} {l:List Sy},rowD es=some l->es=l.map ratC
 | [],l,h=>by cases h;rfl
 | e::es,l,h=>by
  have h:(match ratD e with | some s=>(rowD es).map (s::·) | none=>none)=some l:=h
  split at h
  .rename_i s e1;rw [zOM]at h;obtain⟨m,e2,rfl⟩:=h;rw [JE e1,kaF e2];rfl
  .exact nos h
theorem Q1:∀{l:List Nat},WL l->decW (l.map wc)=some l
 | [],_=>rfl
 | x::l,h=>by
  obtain⟨h1,h2⟩:=qc.1 h;show cond (Nat.blt x 4294967296) ((decW (l.map wc)).map (x::·)) none=_;rw [Q1 h2,show Nat.blt x 4294967296=true from Nat.ble_eq_true_of_le h1];rfl
theorem J3{q:Rat}(h:rz q<=1000000):decV (.agg (qC q))=some (rcan q):=by
 obtain⟨w1,w2⟩:=vv q;have h1:(rcan q).2.1.length<=1000000:=Nat.le_trans (Nat.le_max_left _ _) h;have h2:(rcan q).2.2.length<=1000000:=Nat.le_trans (Nat.le_max_right _ _) h;have e:decR (.agg (qC q))=some (rcan q):=by
  show(match decW ((rcan q).2.1.map wc),decW ((rcan q).2.2.map wc) with | some n,some d=>cond (Nat.ble n.length 1000000 && Nat.ble d.length 1000000) (some ((rcan q).1,n,d)) none | _,_=>none)=_
  rw [Q1 w1,Q1 w2];show cond (Nat.ble (rcan q).2.1.length 1000000 && Nat.ble (rcan q).2.2.length 1000000) (some ((rcan q).1,(rcan q).2.1,(rcan q).2.2)) none=_;rw [Nat.ble_eq_true_of_le h1,Nat.ble_eq_true_of_le h2];rfl
 unfold decV;rw [e];show cond (vldE (rcan q)) _ _=_;rw [WN,qu];rfl
theorem vao:∀{l:List Rat},(∀q∈l,rz q<=1000000)->(l.map qC).mapM (λe=>decV (.agg e))=some (l.map rcan)
 | [],_=>rfl
 | q::l,h=>by
  simp only [List.map_cons,List.mapM_cons,J3 (h q (List.mem_cons_self ..)),vao λq hq=>h q (List.mem_cons_of_mem _ hq),bind,pure,Option.bind_some]
theorem Yt{lim:Nat}{l:List Rat}(hl:l.length<=2)(h:∀q∈l,rz q<=lim)(hlim:lim<=1000000):decN lim (.one (rowQC l))=some l:=by
 unfold decN rowQC;simp only [vao λq hq=>Nat.le_trans (h q hq) hlim];rw [if_pos ⟨by rw [List.length_map];exact hl,λx hx=>by
  obtain⟨q,hq,rfl⟩:=List.mem_map.1 hx;exact h q hq⟩,List.map_map]
 congr 1;have:(rv ∘ rcan)=id:=funext λq=>xc q;rw [this,List.map_id]
theorem yr(p:PR):(shortQ p).length<=2/\(p.2=0->(shortQ p).length<=1):=by
 unfold shortQ;by_cases h:p.2=0
 .rw [if_pos h];by_cases h1:p.1=0
  .rw [if_pos h1];exact⟨by simp,λ_=>by simp⟩
  .rw [if_neg h1];exact⟨by simp,λ_=>by simp⟩
 .rw [if_neg h];exact⟨by simp,λh'=>(h h').elim⟩
theorem Qas(p:PR):(shortQ p).length<=1∨∃x y,shortQ p=[x,y]/\y≠0:=by
 by_cases h:p.2=0
 .exact .inl ((yr p).2 h)
 .exact .inr ⟨p.1,p.2,by unfold shortQ;rw [if_neg h],h⟩
def shR(lv:Bool)(l:List Rat):Prop:=l.length<=1∨(lv=false/\∃x y,l=[x,y]/\y≠0)
theorem qI{p:PR}{b:Nat}(h1:rz p.1<=b)(h2:rz p.2<=b):∀q∈shortQ p,rz q<=b:=by
 unfold shortQ;by_cases h:p.2=0
 .rw [if_pos h];by_cases h' : p.1=0
  .rw [if_pos h'];intro q hq;cases hq
  .rw [if_neg h'];intro q hq;rw [List.mem_singleton]at hq;rw [hq];exact h1
 .rw [if_neg h];intro q hq;rcases List.mem_cons.1 hq with rfl | hq
  .exact h1
  .rw [List.mem_singleton]at hq;rw [hq];exact h2
theorem qQ(p:PR):prQ (shortQ p)=p:=by
 unfold shortQ;by_cases h:p.2=0
 .rw [if_pos h];by_cases h' : p.1=0
  .rw [if_pos h'];exact Prod.ext h'.symm h.symm
  .rw [if_neg h'];exact Prod.ext rfl h.symm
 .rw [if_neg h];rfl
theorem Zs : rz 0=0:=by unfold rz;rw [uc];rfl
theorem Us(h:EngOk E v){lim:Nat}(hl:lim<=1000000){s:Sy}(hs:okSy E lim s=true):rz (vS v s).1<=lim/\(vS v s).2=0:=by
 cases s with
 | none=>exact⟨by show rz 0<=lim;rw [Zs];exact Nat.zero_le _,rfl⟩
 | some k=>
  simp only [okSy,zBA]at hs;have hb:=ua hs.2;exact⟨Nat.le_trans (h.bd k (Nat.le_trans hb hl)).1 hb,h.lv k hs.1⟩
theorem X1(h:EngOk E v){a:AV}{s:Sy}(hs:ratQ E a=some s):sA (thE v) a=.agg (qC (vS v s).1)/\decV (sA (thE v) a)=some (rcan (vS v s).1)/\(vS v s).2=0:=by
 have key:∃s',ratV a=some s'/\s' = s/\okSy E 1000000 s' = true:=by
  unfold ratQ at hs;split at hs
  .rename_i e;cases hs;exact⟨_,e,rfl,rfl⟩
  .rename_i k e;cases hb:(E.l k && Nat.ble (E.b k) 1000000) with
   | false=>rw [hb]at hs;exact nos hs
   | true=>rw [hb]at hs;cases hs;exact⟨_,e,rfl,hb⟩
  .exact nos hs
 obtain⟨s',e,rfl,hok⟩:=key;obtain⟨q1,q2⟩:=Us h (Nat.le_refl _) hok;have e1:sA (thE v) a=.agg (qC (vS v s').1):=by
  unfold ratV at e;split at e
  .rw [JE e];exact Yy v s'
  .exact nos e
 exact⟨e1,by rw [e1];exact J3 q1,q2⟩
theorem yZ(h:EngOk E v){lv:Bool}{a:AV}{s:Sy}(hs:numQ E lv a=some s):∃l:List Rat,sA (thE v) a=.one (rowQC l)/\decN 10000 (sA (thE v) a)=some l/\prQ l=vS v s/\shR lv l:=by
 have fin:∀l:List Rat,sA (thE v) a=.one (rowQC l)->l.length<=2->(∀q∈l,rz q<=10000)->prQ l=vS v s->shR lv l->∃l:List Rat,sA (thE v) a=.one (rowQC l)/\decN 10000 (sA (thE v) a)=some l/\prQ l=vS v s/\shR lv l:=
  λl h1 h2 h3 h4 h5=>⟨l,h1,by rw [h1];exact Yt h2 h3 (by decide),h4,h5⟩
 unfold numQ at hs;split at hs
 .cases hs
  exact fin [] rfl (by simp) (by simp) rfl (.inl (by simp))
 .rename_i e;split at hs
  .rename_i s' e1;cases hb:okSy E 10000 s' with
   | false=>rw [hb]at hs;exact nos hs
   | true=>
    rw [hb]at hs;cases hs
    obtain⟨q1,q2⟩:=Us h (by decide) hb
    refine fin [(vS v s).1] ?_ (by simp) (by simpa using q1) (Prod.ext rfl q2.symm) (.inl (by simp))
    show AV.one (.slice [sL (thE v) e])=_;rw [JE e1,Zk];rfl
  .exact nos hs
 .rename_i a;cases hb:(Nat.beq a (4*(a / 4)+3) && Nat.ble (E.b (a / 4)) 10000 && (!lv || E.l (a / 4))) with
  | false=>rw [hb]at hs;exact nos hs
  | true=>
   rw [hb]at hs;cases hs
   simp only [zBA]at hb;have e1:=beq_eq hb.1.1;have hbd:=ua hb.1.2;obtain⟨q1,q2⟩:=h.bd (a / 4) (Nat.le_trans hbd (by decide))
   refine fin (shortQ (v (a / 4))) ?_ (yr _).1 (qI (Nat.le_trans q1 hbd) (Nat.le_trans q2 hbd)) (qQ _) ?_
   .show AV.one (thE v a)=_;have:=th3 v (a / 4);rw [<-e1]at this;rw [this]
   .rcases Qas (v (a / 4)) with hs | hs
    .exact .inl hs
    .refine .inr ⟨?_,hs⟩;cases lv with
     | false=>rfl
     | true=>
      have hz:=h.lv _ (show E.l (a / 4)=true from hb.2);obtain⟨x,y,e,hy⟩:=hs;have:=(yr (v (a / 4))).2 hz;rw [e]at this;simp at this
 .exact nos hs
theorem UaA(h:EngOk E v){t:AV}{lv:Bool}(ht:towQ E t=some lv):(lv=true/\t=.agg [.slice []]/\decT (sA (thE v) t)=some none)∨(lv=false/\decT (sA (thE v) t)=some (some (v E.x).1)/\0<(v E.x).1):=by
 unfold towQ at ht;split at ht
 .cases ht;exact .inl ⟨rfl,rfl,rfl⟩
 .rename_i e;split at ht
  .rename_i k e1;cases hb:(Nat.beq k E.x && Nat.beq (E.s k) 1 && okSy E 10000 (some k)) with
   | false=>rw [hb]at ht;exact nos ht
   | true=>
    rw [hb]at ht;cases ht
    simp only [zBA]at hb;have e2:=beq_eq hb.1.1;have hp:=(h.s1 k (beq_eq hb.1.2)).1;obtain⟨q1,q2⟩:=Us h (by decide) hb.2
    right;refine⟨rfl,?_,by rw [<-e2];exact hp⟩
    show decT (.agg [.slice [[.slice [sL (thE v) e]]]])=_;rw [JE e1,Zk];unfold decT;simp only [J3 (Nat.le_trans q1 (by decide:10000<=1000000))]
    rw [if_pos ⟨q1,by rw [xc];exact hp⟩,xc,e2];rfl
  .exact nos ht
 .exact nos ht
theorem W4(h:EngOk E v){a:AV}{l:List Sy}(hs:rowQ E a=some l):sA (thE v) a=.one (rowQC (l.map λs=>(vS v s).1))/\decN 1000000 (sA (thE v) a)=some (l.map λs=>(vS v s).1)/\∀s∈l,(vS v s).2=0:=by
 unfold rowQ at hs;split at hs
 .rename_i es;split at hs
  .rename_i l' e;cases hb:(l'.all (okSy E 1000000) && Nat.ble l'.length 2) with
   | false=>rw [hb]at hs;exact nos hs
   | true=>
    rw [hb]at hs;cases hs
    simp only [zBA,List.all_eq_true]at hb;have e1:sA (thE v) (.one (.slice es))=.one (rowQC (l.map λs=>(vS v s).1)):=by
     show AV.one (.slice (sR (thE v) es))=_;rw [kaF e,Wh,List.map_map];unfold rowQC;rw [List.map_map];congr 2;exact List.map_congr_left λs _=>Zk v s
    refine⟨e1,?_,λs hs=>(Us h (Nat.le_refl _) (hb.1 s hs)).2⟩;rw [e1];refine Yt (by rw [List.length_map];exact ua hb.2) (λq hq=>?_) (Nat.le_refl _)
    obtain⟨s,hs,rfl⟩:=List.mem_map.1 hq;exact(Us h (Nat.le_refl _) (hb.1 s hs)).1
  .exact nos hs
 .exact nos hs
theorem QN(h:EngOk E v):∀{l:List Sy} {b:Bool},zeroE E l=some b->((l.map λs=>(vS v s).1).all λq=>decide (q=0))=b
 | [],b,e=>by cases e;rfl
 | none::l,b,e=>by
  have:=QN h (show zeroE E l=some b from e);rw [List.map_cons,List.all_cons,this];show(decide ((0:Rat)=0) && b)=b;simp
 | some k::l,b,e=>by
  have e:cond (nzS E k) (some false) none=some b:=e;cases hn:nzS E k with
  | false=>rw [hn]at e;exact nos e
  | true=>
   rw [hn]at e;cases e
   rw [List.map_cons,List.all_cons];show(decide ((v k).1=0) && _)=false;rw [decide_eq_false (wac h hn).1,Bool.false_and]
end Go.Abs
end
section
namespace Go.Abs
open Go.Num
variable {E:Eng} {v:Nat->PR}
theorem kt(q:Rat):encR (rcan q)=.agg (qC q):=rfl
theorem XE(h:EngOk E v){f:Sy->Sy->Option AV}{a b r:AV}(hr:rat2 E f a b=some r):∃x y,f x y=some r/\decV (sA (thE v) a)=some (rcan (vS v x).1)/\decV (sA (thE v) b)=some (rcan (vS v y).1)/\(vS v x).2=0/\(vS v y).2=0:=by
 unfold rat2 at hr;split at hr
 .rename_i x y e1 e2;obtain⟨-,p2,p3⟩:=X1 h e1;obtain⟨-,q2,q3⟩:=X1 h e2;exact⟨x,y,hr,p2,q2,p3,q3⟩
 .exact nos hr
theorem VP(h:EngOk E v){f:Sy->Option AV}{a r:AV}(hr:rat1 E f a=some r):∃x,f x=some r/\decV (sA (thE v) a)=some (rcan (vS v x).1)/\(vS v x).2=0:=by
 unfold rat1 at hr;split at hr
 .rename_i x e1;obtain⟨-,p2,p3⟩:=X1 h e1;exact⟨x,hr,p2,p3⟩
 .exact nos hr
theorem qG{o:Option Sy}{r:AV}(h:retR o=some r):∃s,o=some s/\r=ratA s:=by
 cases o with
 | none=>exact nos h
 | some s=>cases h;exact⟨s,rfl,rfl⟩
theorem JB{o:Option Sy}{r:AV}(h:retN o=some r):∃s,o=some s/\r=.tup [.one (numC s),nilV]:=by
 cases o with
 | none=>exact nos h
 | some s=>cases h;exact⟨s,rfl,rfl⟩
theorem Ua9(h:EngOk E v){k:FK}{args:List AV}{r:AV}(hr:symF E k args=some r):fracE k (args.map (sA (thE v)))=some (sA (thE v) r):=by
 have cv:=λq=>(Zy q).2;have cw:=λq=>(Zy q).1;unfold symF at hr;split at hr
 .rename_i a b;obtain⟨x,y,hf,d1,d2,-,-⟩:=XE h hr;obtain⟨s,e,rfl⟩:=qG hf;simp only [List.map_cons,List.map_nil,fracE,d1,d2];rw [uw (cw _) (cw _) (cv _) (cv _),xc,xc,kt,Yy,Qq h e]
 .rename_i a b;obtain⟨x,y,hf,d1,d2,-,-⟩:=XE h hr;obtain⟨s,e,rfl⟩:=qG hf;simp only [List.map_cons,List.map_nil,fracE,d1,d2];rw [Vx (cw _) (cv _),uw (cw _) (cw _) (cv _) (cv _),xc,xc,xc,<-Rat.sub_eq_add_neg,kt,Yy,U5 h e]
 .rename_i a b;obtain⟨x,y,hf,d1,d2,l1,l2⟩:=XE h hr;obtain⟨s,e,rfl⟩:=qG hf;simp only [List.map_cons,List.map_nil,fracE,d1,d2];rw [Zao (cw _) (cw _) (cv _) (cv _),xc,xc,kt,Yy,uo h e];unfold mulP;rw [l1,Rat.zero_mul,Rat.zero_mul,Rat.add_zero]
 .rename_i a b;obtain⟨x,y,hf,d1,d2,l1,l2⟩:=XE h hr;split at hf
  .rename_i s e;cases hf
   obtain⟨q1,q2,q3⟩:=zZ h e;have hn:nilB (rcan (vS v y).1).2.1=false:=by
    rcases Qg (cw (vS v y).1) (cv _) with⟨-,e0⟩ | ⟨hn,-⟩
    .rw [xc]at e0;exact(q1 e0).elim
    .rw [Bool.eq_false_iff];intro e';exact hn ((Uv _).1 e')
   simp only [List.map_cons,List.map_nil,fracE,d1,d2];rw [hn,(xar (cw _) (cw _) (cv _) (cv _) hn).1,xc,xc,kt];show some (AV.tup [.agg (qC ((vS v x).1 / (vS v y).1)),.one (.lit .nilIface)])=some (.tup [sA (thE v) (ratA s),nilV]);rw [Yy,q3];rfl
  .exact nos hf
 .rename_i a;obtain⟨x,hf,d1,-⟩:=VP h hr;obtain⟨s,e,rfl⟩:=qG hf;simp only [List.map_cons,List.map_nil,fracE,d1];rw [Vx (cw _) (cv _),xc,kt,Yy,Xs h e]
 .rename_i a;obtain⟨x,hf,d1,-⟩:=VP h hr;rw [zOM]at hf;obtain⟨n,e,rfl⟩:=hf;simp only [List.map_cons,List.map_nil,fracE,d1];rw [Wz (cw _) (cv _),xc,(X3 h e).2];rfl
 .rename_i a b;obtain⟨x,y,hf,d1,d2,l1,l2⟩:=XE h hr;split at hf
  .rename_i s e;rw [zOM]at hf;obtain⟨n,e2,rfl⟩:=hf;simp only [List.map_cons,List.map_nil,fracE,d1,d2];rw [Vx (cw _) (cv _),uw (cw _) (cw _) (cv _) (cv _),xc,xc,xc,<-Rat.sub_eq_add_neg,Wz (cw _) (cv _),xc];have:=(X3 h e2).2;rw [U5 h e]at this;rw [this];rfl
  .exact nos hf
 .rename_i a;obtain⟨x,hf,d1,-⟩:=VP h hr;cases hf
  have d2:decR (sA (thE v) a)=some (rcan (vS v x).1):=by
   unfold decV at d1;split at d1
   .rename_i y e;cases hb:vldE y with
    | false=>rw [hb]at d1;exact nos d1
    | true=>rw [hb]at d1;cases d1;exact e
   .exact nos d1
  simp only [List.map_cons,List.map_nil,fracE,d2];rw [WN,qu];rfl
 .rename_i n;cases hb:(ile (-1000) n && ile n 1000) with
  | false=>rw [hb]at hr;exact nos hr
  | true=>
   rw [hb]at hr;obtain⟨s,e,rfl⟩:=qG hr;simp only [zBA,zM]at hb;rw [Yy,qaE h e];show fracE .of [.one (.lit (.int .i64 n))]=_;unfold fracE;simp only;cases n with
   | ofNat k=>
    simp only;have hk:k<=1000:=by have:=hb.2;simp only [Int.ofNat_eq_natCast]at this;omega
    rw [Nat.ble_eq_true_of_le (by omega),vu _ _ _ (by decide)]
    show some (encR (rcan (Rat.divInt (k:Int) ((1:Nat):Int))))=_;rw [show((1:Nat):Int)=1 from rfl,yz,kt];rfl
   | negSucc k=>
    simp only;have hk:k<=1000:=by have:=hb.1;omega
    rw [Nat.ble_eq_true_of_le (by omega),vu _ _ _ (by decide)]
    show some (encR (rcan (Rat.divInt (-((k+1:Nat):Int)) ((1:Nat):Int))))=_;rw [show((1:Nat):Int)=1 from rfl,yz,kt];rfl
 .exact nos hr
theorem QU(h:EngOk E v){lv:Bool}:∀{l:List AV} {xs:List Sy},l.mapM (numQ E lv)=some xs->∃ls:List (List Rat),(l.map (sA (thE v))).mapM (decN 10000)=some ls/\ls.map prQ=xs.map (vS v)/\∀m∈ls,shR lv m
 | [],xs,e=>by
  simp only [List.mapM_nil,pure,zOI]at e;subst e;exact⟨[],rfl,rfl,λm hm=>by cases hm⟩
 | a::l,xs,e=>by
  simp only [List.mapM_cons,bind,pure,zOB,zOI]at e;obtain⟨x,e1,ys,e2,rfl⟩:=e;obtain⟨m,-,q2,q3,q4⟩:=yZ h e1;obtain⟨ls,r1,r2,r3⟩:=QU h e2;refine⟨m::ls,?_,?_,λm' hm=>?_⟩
  .simp only [List.map_cons,List.mapM_cons,q2,r1,bind,pure,Option.bind_some]
  .rw [List.map_cons,List.map_cons,q3,r2]
  .rcases List.mem_cons.1 hm with rfl | hm
   .exact q4
   .exact r3 m' hm
theorem XaX{T:Option Rat}{l:List Rat}(h:l.length<=1):okN T l=true:=by
 rcases l with _ | ⟨x,_ | ⟨y,l⟩⟩
 .rfl
 .rfl
 .simp at h
theorem Ua7{X:Rat}{lv:Bool}{l:List Rat}(h:shR lv l):okN (some X) l=true:=by
 rcases h with h | ⟨-,x,y,rfl,hy⟩
 .exact XaX h
 .simp only [okN,Option.isSome_some,Bool.true_and];exact decide_eq_true hy
theorem Zx(h:EngOk E v){t:AV}{l:List AV}{f:List Sy->Option AV}{r:AV}(hr:num1 E t l f=some r):∃(T:Option Rat) (xs:List Sy) (ls:List (List Rat)),f xs=some r/\decT (sA (thE v) t)=some T/\(l.map (sA (thE v))).mapM (decN 10000)=some ls/\ls.map prQ=xs.map (vS v)/\ls.all (okN T)=true/\
  ((T=none/\∀m∈ls,m.length<=1)∨T=some (v E.x).1):=by
 unfold num1 at hr;split at hr
 .rename_i lv et;split at hr
  .rename_i xs ex;obtain⟨ls,r1,r2,r3⟩:=QU h ex;rcases UaA h et with⟨rfl,-,e⟩ | ⟨rfl,e,-⟩
   .have h1:∀m∈ls,m.length<=1:=λm hm=>(r3 m hm).resolve_right λh=>Bool.noConfusion h.1;refine⟨none,xs,ls,hr,e,r1,r2,?_,.inl ⟨rfl,h1⟩⟩;rw [List.all_eq_true];exact λm hm=>XaX (h1 m hm)
   .refine⟨some (v E.x).1,xs,ls,hr,e,r1,r2,?_,.inr rfl⟩;rw [List.all_eq_true];intro m hm;rcases r3 m hm with h1 | ⟨-,x,y,rfl,hy⟩
    .exact XaX h1
    .simp only [okN,Option.isSome_some,Bool.true_and];exact decide_eq_true hy
  .exact nos hr
 .exact nos hr
theorem kw{t:AV}{l:List AV}{f:Option Rat->List (List Rat)->Option AV}{T:Option Rat}{ls:List (List Rat)}(h1:decT t=some T)(h2:l.mapM (decN 10000)=some ls)(h3:ls.all (okN T)=true):numF t l f=f T ls:=by
 unfold numF;rw [h1];show(match l.mapM (decN 10000) with | some l=>if l.all (okN T)=true then f T l else none | none=>none)=_
 rw [h2];show(if ls.all (okN T)=true then f T ls else none)=_
 rw [if_pos h3]
theorem qa2{l:List Rat}(h:l.length<=1):(prQ l).2=0:=by
 match l,h with
 | [],_=>rfl
 | [x],_=>rfl
theorem XR{s:Sy}{p:PR}(h:vS v s=p):some (sA (thE v) (.tup [.one (numC s),nilV]))=retP p:=by
 show some (AV.tup [.one (sC (thE v) (numC s)),nilV])=_;rw [yaC,h];rfl
theorem two{xs:List Sy}{ls:List (List Rat)}(h:ls.map prQ=xs.map (vS v)){x y:Sy}(hx:xs=[x,y]):∃l m,ls=[l,m]/\prQ l=vS v x/\prQ m=vS v y:=by
 subst hx;rcases ls with _ | ⟨l,_ | ⟨m,_ | ⟨n,ls⟩⟩⟩ <;> simp at h
 exact⟨l,m,rfl,h.1,h.2⟩
theorem oneL{xs:List Sy}{ls:List (List Rat)}(h:ls.map prQ=xs.map (vS v)){x:Sy}(hx:xs=[x]):∃l,ls=[l]/\prQ l=vS v x:=by
 subst hx;rcases ls with _ | ⟨l,_ | ⟨m,ls⟩⟩ <;> simp at h
 exact⟨l,rfl,h⟩
theorem yal(h:EngOk E v){lv:Bool}{a:AV}{s:Sy}(hs:numQ E lv a=some s)(hb:shA E a=true){l:List Rat}(hl:decN 10000 (sA (thE v) a)=some l):shortQ (prQ l)=l:=by
 unfold numQ at hs;split at hs
 .have e:decN 10000 (.one (rowQC []))=some []:=Yt (by simp) (λq hq=>by cases hq) (by decide)
  rw [show sA (thE v) (.one (.slice []))=.one (rowQC []) from rfl,e]at hl;cases hl
  exact UF
 .rename_i e;split at hs
  .rename_i s' e1;cases ho:okSy E 10000 s' with
   | false=>rw [ho]at hs;exact nos hs
   | true=>
    obtain⟨q1,q2⟩:=Us h (by decide) ho
    have hb:(match ratD e with | some (some k)=>nzS E k | _=>false)=true:=hb
    rw [e1]at hb;cases s' with
    | none=>exact Bool.noConfusion hb
    | some k=>
     have hnz:=wac h (show nzS E k=true from hb);have e2:sA (thE v) (.one (.slice [e]))=.one (rowQC [(v k).1]):=by
      show AV.one (.slice [sL (thE v) e])=_;rw [JE e1,Zk];rfl
     have q1:rz (v k).1<=10000:=q1;rw [e2,Yt (by simp) (by simpa using q1) (by decide)]at hl
     cases hl
     unfold shortQ;rw [if_pos (show(prQ [(v k).1]).2=0 from rfl),if_neg (show(prQ [(v k).1]).1≠0 from hnz.1)];rfl
  .exact nos hs
 .rename_i a;cases ho:(Nat.beq a (4*(a / 4)+3) && Nat.ble (E.b (a / 4)) 10000 && (!lv || E.l (a / 4))) with
  | false=>rw [ho]at hs;exact nos hs
  | true=>
   simp only [zBA]at ho;have e1:=beq_eq ho.1.1;have hbd:=ua ho.1.2;obtain⟨q1,q2⟩:=h.bd (a / 4) (Nat.le_trans hbd (by decide))
   have e2:sA (thE v) (.one (.lit (.chan (some a))))=.one (rowQC (shortQ (v (a / 4)))):=by
    show AV.one (thE v a)=_;have:=th3 v (a / 4);rw [<-e1]at this;rw [this]
   rw [e2,Yt (yr _).1 (qI (Nat.le_trans q1 hbd) (Nat.le_trans q2 hbd)) (by decide)]at hl
   cases hl
   rw [qQ]
 .exact nos hs
theorem ubd(h:EngOk E v){k:EK}{args:List AV}{r:AV}(hr:symE E k args=some r):FE k (args.map (sA (thE v)))=some (sA (thE v) r):=by
 unfold symE at hr;split at hr
 .exact Ua9 h hr
 .rename_i a;split at hr
  .rename_i l e;rw [zOM]at hr;obtain⟨b,e2,rfl⟩:=hr;obtain⟨-,q2,-⟩:=W4 h e;simp only [List.map_cons,List.map_nil,FE,q2,Option.map_some,QN h e2];rfl
  .exact nos hr
 .rename_i a;split at hr
  .rename_i l e;rw [zOM]at hr;obtain⟨b,e2,rfl⟩:=hr;obtain⟨-,q2,-⟩:=W4 h e;simp only [List.map_cons,List.map_nil,FE,q2,Option.map_some,QN h e2];rfl
  .exact nos hr
 .rename_i a;split at hr
  .rename_i l e;cases hr
   obtain⟨-,q2,-⟩:=W4 h e;simp only [List.map_cons,List.map_nil,FE,q2,Option.map_some]
  .exact nos hr
 .rename_i a;split at hr
  .rename_i s e;cases hb:shA E a with
   | false=>rw [hb]at hr;exact nos hr
   | true=>
    rw [hb]at hr;cases hr
    obtain⟨l,-,q2,-,q3⟩:=yZ h e;simp only [List.map_cons,List.map_nil,FE,q2];rw [if_pos ⟨Ua7 q3,yal h e hb q2⟩]
  .exact nos hr
 .rename_i t;rw [zOM]at hr;obtain⟨lv,e,rfl⟩:=hr;rcases UaA h e with⟨-,-,q⟩ | ⟨-,q,-⟩ <;> simp only [List.map_cons,List.map_nil,FE,q,Option.map_some] <;> rfl
 .rename_i a;obtain⟨x,hf,d1,l1⟩:=VP h hr;cases hb:okSy E 10000 x with
  | false=>rw [hb]at hf;exact nos hf
  | true=>
   rw [hb]at hf;cases hf
   obtain⟨q1,q2⟩:=Us h (by decide) hb
   simp only [List.map_cons,List.map_nil,FE,d1];rw [if_pos (show rl (rcan (vS v x).1)<=10000 from q1),xc];show _=some (AV.one (sC (thE v) (numC x)));rw [yaC,show vS v x=((vS v x).1,0) from Prod.ext rfl l1]
 .rename_i t a;obtain⟨T,xs,ls,hf,e1,e2,e3,e4,e5⟩:=Zx h hr;split at hf
  .rename_i x;obtain⟨l,rfl,p1⟩:=oneL e3 rfl;obtain⟨s,es,rfl⟩:=JB hf;show numF (sA (thE v) t) ([a].map (sA (thE v))) _=_;rw [kw e1 e2 e4,XR (Xs h es),<-p1]
  .exact nos hf
 .rename_i t a b;obtain⟨T,xs,ls,hf,e1,e2,e3,e4,e5⟩:=Zx h hr;split at hf
  .rename_i x y;obtain⟨l,m,rfl,p1,p2⟩:=two e3 rfl;obtain⟨s,es,rfl⟩:=JB hf;show numF (sA (thE v) t) ([a,b].map (sA (thE v))) _=_;rw [kw e1 e2 e4,XR (Qq h es),<-p1,<-p2]
  .exact nos hf
 .rename_i t a b;obtain⟨T,xs,ls,hf,e1,e2,e3,e4,e5⟩:=Zx h hr;split at hf
  .rename_i x y;obtain⟨l,m,rfl,p1,p2⟩:=two e3 rfl;obtain⟨s,es,rfl⟩:=JB hf;show numF (sA (thE v) t) ([a,b].map (sA (thE v))) _=_;rw [kw e1 e2 e4,XR (U5 h es),<-p1,<-p2]
  .exact nos hf
 .rename_i t a b;obtain⟨T,xs,ls,hf,e1,e2,e3,e4,e5⟩:=Zx h hr;split at hf
  .rename_i x y;obtain⟨l,m,rfl,p1,p2⟩:=two e3 rfl;obtain⟨s,es,rfl⟩:=JB hf;show numF (sA (thE v) t) ([a,b].map (sA (thE v))) _=_;rw [kw e1 e2 e4,XR (uo h es),<-p1,<-p2];rcases e5 with⟨rfl,hl⟩ | rfl
   .have z1:=qa2 (hl l (by simp))
    show retP (mulP 0 (prQ l) (prQ m))=retP (mulP (v E.x).1 (prQ l) (prQ m));unfold mulP;simp only [z1,Rat.zero_mul]
   .rfl
  .exact nos hf
 .rename_i t a b;obtain⟨T,xs,ls,hf,e1,e2,e3,e4,e5⟩:=Zx h hr;split at hf
  .rename_i x y;obtain⟨l,m,rfl,p1,p2⟩:=two e3 rfl;obtain⟨s,es,rfl⟩:=JB hf;obtain⟨q1,q2,q3⟩:=zZ h es;show numF (sA (thE v) t) ([a,b].map (sA (thE v))) _=_;rw [kw e1 e2 e4,XR q3];simp only [p1,p2];rw [if_pos ⟨q1,q2⟩]
  .exact nos hf
 .rename_i t a;obtain⟨T,xs,ls,hf,e1,e2,e3,e4,e5⟩:=Zx h hr;split at hf
  .rename_i x;obtain⟨l,rfl,p1⟩:=oneL e3 rfl;rw [zOM]at hf;obtain⟨n,en,rfl⟩:=hf;obtain⟨q1,q2⟩:=X3 h en;show numF (sA (thE v) t) ([a].map (sA (thE v))) _=_;rw [kw e1 e2 e4];simp only [p1];rw [if_pos q1,q2];rfl
  .exact nos hf
 .rename_i a;split at hr
  .rename_i k e;cases hb:(Nat.beq k E.x && Nat.beq (E.s k) 1) with
   | false=>rw [hb]at hr;exact nos hr
   | true=>
    rw [hb]at hr;simp only [zBA]at hb;obtain⟨l,-,d2,d3,d4⟩:=yZ h e;obtain⟨hp,hz⟩:=h.s1 k (beq_eq hb.2);have hv:vS v (some k)=v k:=rfl;rw [hv]at d3;have hl:l=[(v k).1]:=by
     match l,d4.resolve_right (λh=>Bool.noConfusion h.1),d3 with
     | [],_,d3=>have:(0:Rat)=(v k).1:=congrArg Prod.fst d3;grind
     | [x],_,d3=>exact congrArg (λq=>[q]) (congrArg Prod.fst d3)
    subst hl;split at hr
    .rename_i rt ert;cases hr
     obtain⟨dd,g1,g2,-⟩:=jad ert;unfold isRoot at g2;split at g2
     .have hrt:v rt=(0,1):=h.df rt .root g1;show FE .ext [.agg [.slice []],sA (thE v) a]=_;unfold FE;simp only [d2];rw [if_pos hp];show _=some (AV.tup [.agg [.slice [[.slice [sL (thE v) (ratC (some k))]]]],.one (sC (thE v) (numC (some rt))),nilV]);rw [Zk,yaC];show _=some (AV.tup [.agg [.slice [[rowQC [(v k).1]]]],.one (rowQC (shortQ (v rt))),nilV]);rw [hrt];rfl
     .exact Bool.noConfusion g2
    .exact nos hr
  .exact nos hr
 .cases hr;rfl
 .exact nos hr
def cloneX(z:Nat):List AV->Option (List (List C))
 | [.one (.slice es)]=>cond (allLen z es && Nat.ble es.length 1000000) (some es) none
 | [.one (.full es)]=>cond (allLen z es && Nat.ble es.length 1000000) (some es) none
 | [.one .emp]=>some []
 | _=>none
theorem jaL{θ:Nat->C}{z:Nat}{args:List AV}{es:List (List C)}(h:cloneX z args=some es):cloneX z (args.map (sA θ))=some (sR θ es):=by
 have fin:∀{l:List (List C)},cond (allLen z l && Nat.ble l.length 1000000) (some l) none=some es->cond (allLen z (sR θ l) && Nat.ble (sR θ l).length 1000000) (some (sR θ l)) none=some (sR θ es):=by
  intro l h;cases hb:(allLen z l && Nat.ble l.length 1000000) with
  | false=>rw [hb]at h;exact nos h
  | true=>
   rw [hb]at h;cases h
   simp only [zBA]at hb;rw [Wo hb.1,uh,hb.2];rfl
 unfold cloneX at h;split at h
 .exact fin h
 .exact fin h
 .cases h;rfl
 .exact nos h
theorem kH{e:List C}{es:List (List C)}(h:CleanR (e::es)):CleanL e/\CleanR es:=
 ⟨λc hc=>h e (List.mem_cons_self ..) c hc,λx hx=>h x (List.mem_cons_of_mem _ hx)⟩
theorem uW{P:Program}{f z:Nat}(hc:check P f=some (8,clAC z,[.tmp 2])):FSound P f z λargs K=>∃r,cloneX z args=some r/\K r:=by
 obtain⟨fn,c,h1,h2,h3,h4,h5,h6,h7⟩:=Vi hc;refine fsound (ac:=clAC z) (Γ:=λ_=>.none) h1 h3 h4 h5 h6 xr h7 λargs K hcl hfi ⟨r,hr,hk⟩=>?_;have go:∀es:List (List C),cond (allLen z es && Nat.ble es.length 1000000) (some es) none=some r->(∀e∈es,e.length=z)/\es.length<=1000000/\es=r:=by
  intro es h;cases hb:(allLen z es && Nat.ble es.length 1000000) with
  | false=>rw [hb]at h;exact nos h
  | true=>
   rw [hb]at h;simp only [zBA]at hb;exact⟨xl hb.1,ua hb.2,Option.some.inj h⟩
 match args,hr with
 | [.one (.slice es)],hr=>
  obtain⟨h1,h2,rfl⟩:=go es hr;have hc:CleanR es:=by
   have:=hcl (.one (.slice es)) (List.mem_cons_self ..);cases this with
   | slice _ h=>exact h
  refine⟨by simp,?_⟩
  cases es with
  | nil=>
   simp only [go_sem,clAC];simp [roomA,hk,CleanR]
  | cons e es=>
   simp only [go_sem,clAC];have h3:es.length+1<=1000000:=h2;have h4:=kH hc;exact⟨h1,by omega,h4,hk⟩
 | [.one (.full es)],hr=>
  obtain⟨h1,h2,rfl⟩:=go es hr;have hc:CleanR es:=by
   have:=hcl (.one (.full es)) (List.mem_cons_self ..);cases this with
   | full _ h=>exact h
  refine⟨by simp,?_⟩
  cases es with
  | nil=>
   simp only [go_sem,clAC];simp [roomA,hk,CleanR]
  | cons e es=>
   simp only [go_sem,clAC];have h3:es.length+1<=1000000:=h2;have h4:=kH hc;exact⟨h1,by omega,h4,hk⟩
 | [.one .emp],hr=>
  cases (show some []=some r from hr)
  refine⟨by simp,?_⟩
  simp only [go_sem,clAC];simp [roomA,hk,CleanR]
noncomputable section
def baseY(E:Eng)(kd:List (Nat×EK))(pq:List PQ)(N:Nums):Base where
 dat f args:=match lookEK kd f with
  | some k=>symE E k args
  | none=>none
 inl f args t:=cond (Nat.beq f N.pair) (pairE pq t args) none
 fresh f args:=cond (memN N.clones f) (cloneX ((baseN N).z f) args) none
 z:=(baseN N).z
 rk f:=match lookEK kd f with
  | some _=>0
  | none=>rankK N.rk f
def baseF(v:Nat->PR)(kd:List (Nat×EK))(pq:List PQ)(N:Nums):Base where
 dat f args:=match lookEK kd f with
  | some k=>FE k args
  | none=>none
 inl f args t:=if f=N.pair then pairP (thE v) pq t args else none
 fresh f args:=cond (memN N.clones f) (cloneX ((baseN N).z f) args) none
 z:=(baseN N).z
 rk f:=match lookEK kd f with
  | some _=>0
  | none=>rankK N.rk f
theorem jx:∀{l:List (Nat×EK)} {f:Nat} {k:EK},lookEK l f=some k->(f,k)∈l
 | [],f,k,h=>nos h
 | (a,x)::r,f,k,h=>by
  simp only [lookEK]at h;cases hb:Nat.beq f a with
  | true=>
   rw [hb]at h;cases h
   rw [beq_eq hb];exact List.mem_cons_self ..
  | false=>rw [hb]at h;exact List.mem_cons_of_mem _ (jx h)
theorem UZ(h:EngOk E v){kd:List (Nat×EK)}{pq:List PQ}{N:Nums}{tab:Nat->Option (Nat×AC×List RV)}(hp:pq.Pairwise λp q=>p.n≠q.n)(h1:∀p∈kd,tab p.1=none)(h2:tab N.pair=none)(h3:∀f∈N.clones,tab f=none∨∀n ac rv,tab f=some (n,ac,rv)->False) :
  BaseS (thE v) tab (baseY E kd pq N) (baseF v kd pq N):=by
 refine⟨λf args r hr=>?_,λf args t r t1 hr=>?_,λf args es hr=>?_,λf hf args=>?_,λf hf args t=>?_,λf hf args=>?_,λ_=>rfl,λ_=>rfl⟩
 .simp only [baseY,baseF]at hr ⊢;split at hr
  .rename_i k e;exact ubd h hr
  .exact nos hr
 .simp only [baseY,baseF]at hr ⊢;cases hb:Nat.beq f N.pair with
  | false=>rw [hb]at hr;exact nos hr
  | true=>
   rw [hb]at hr;rw [if_pos (beq_eq hb)];exact(uaB (xC v) hp hr).1
 .simp only [baseY,baseF]at hr ⊢;cases hb:memN N.clones f with
  | false=>rw [hb]at hr;exact nos hr
  | true=>
   rw [hb]at hr;exact jaL hr
 .simp only [baseF];split
  .rename_i k e;exact(hf (h1 _ (jx e))).elim
  .rfl
 .simp only [baseF];split
  .rename_i e;exact(hf (by rw [e];exact h2)).elim
  .rfl
 .simp only [baseF];cases hb:memN N.clones f with
  | false=>rfl
  | true=>
   exfalso;unfold memN at hb;rw [List.any_eq_true]at hb;obtain⟨x,hx,e⟩:=hb;rcases h3 f (by rw [beq_eq e];exact hx) with h | h
   .exact hf h
   .cases ht:tab f with
    | none=>exact hf ht
    | some p=>obtain⟨n,ac,rv⟩:=p;exact h n ac rv ht
theorem ZA{P:Program}{kd:List (Nat×EK)}{pq:List PQ}{N:Nums}(hf:∀p∈kd,Enters P p.1/\DSound P p.1 λargs K=>∃r,FE p.2 args=some r/\K r)
  (hcl:∀f∈N.clones,Enters P f/\FSound P f ((baseN N).z f) λargs K=>∃r,cloneX ((baseN N).z f) args=some r/\K r) (hpe:Enters P N.pair) (hp:∀q∈pq,PqOkS P N.pair (thE v) q):BaseOk P (baseF v kd pq N):=by
 have hd:∀{f:Nat} {args:List AV} {r:AV},(baseF v kd pq N).dat f args=some r->∃k,(f,k)∈kd/\FE k args=some r:=by
  intro f args r h;simp only [baseF]at h;split at h
  .rename_i k e;exact⟨k,jx e,h⟩
  .exact nos h
 have hi:∀{f:Nat} {args:List AV} {t:T} {r:AV×T},(baseF v kd pq N).inl f args t=some r->f=N.pair/\pairP (thE v) pq t args=some r:=by
  intro f args t r h;simp only [baseF]at h;split at h
  .rename_i e;exact⟨e,h⟩
  .exact nos h
 have hc:∀{f:Nat} {args:List AV} {r:List (List C)},(baseF v kd pq N).fresh f args=some r->f∈N.clones/\cloneX ((baseN N).z f) args=some r:=by
  intro f args r h;simp only [baseF]at h;cases hb:memN N.clones f with
  | true=>
   rw [hb]at h;unfold memN at hb;rw [List.any_eq_true]at hb;obtain⟨x,hx,e⟩:=hb;obtain rfl:=beq_eq e;exact⟨hx,h⟩
  | false=>rw [hb]at h;exact nos h
 refine⟨λf args r h=>?_,λf args t r h=>?_,λf args r h=>?_,λf=>?_,λf=>?_,λf=>?_⟩
 .obtain⟨k,h1,h2⟩:=hd h;exact(hf _ h1).1
 .rw [(hi h).1];exact hpe
 .exact(hcl f (hc h).1).1
 .intro args vals w I K h1 h2 h3 ⟨r,h,hk⟩;obtain⟨k,g1,g2⟩:=hd h;exact(hf _ g1).2 args vals w I K h1 h2 h3 ⟨r,g2,hk⟩
 .intro E args vals s a w m I d K hs hargs ⟨t,r,t',e,h,hk⟩;obtain⟨rfl,h2⟩:=hi h;exact ky (xC v) hp E args vals s a w m I d K hs hargs ⟨t,r,t',e,h2,hk⟩
 .intro args vals w I K h1 h2 h3 ⟨r,h,hk⟩;obtain⟨g1,g2⟩:=hc h;exact(hcl f g1).2 args vals w I K h1 h2 h3 ⟨r,g2,hk⟩
end
end Go.Abs
end
section
namespace Go.Abs
open Go.Num
variable {P:Program} {Γ:Nat->Spec}
def FG(k:EK)(args:List AV)(K:AV->Prop):Prop:=∃r,FE k args=some r/\K r
theorem Uap(k:EK):Good (FG k):=by
 constructor
 .intro as K K' hm h;exact(ze (FE k) as).1 hm h
 .intro as K h;exact(ze (FE k) as).2.1 h
 .intro as K h;exact(ze (FE k) as).2.2 h
theorem jQ:∀{es:List (List C)} {l:List R},es.mapM (λe=>decV (.agg e))=some l->es=l.map (λx=>[cb x,cn x,cd x])/\∀x∈l,WLR x/\rl x<=1000000/\vldR x=true
 | [],l,e=>by
  simp only [List.mapM_nil,pure,zOI]at e;subst e;exact⟨rfl,λx hx=>by cases hx⟩
 | c::es,l,e=>by
  simp only [List.mapM_cons,bind,pure,zOB,zOI]at e;obtain⟨x,e1,m,e2,rfl⟩:=e;obtain⟨h1,h2,h3,h4⟩:=yg e1;obtain⟨q1,q2⟩:=jQ e2;injection h1 with h1
  refine⟨by rw [q1,h1];rfl,λy hy=>?_⟩
  rcases List.mem_cons.1 hy with rfl | hy
  .exact⟨h2,h3,h4⟩
  .exact q2 y hy
theorem Y3{lim:Nat}{a:AV}{l:List Rat}(h:decN lim a=some l):∃L:List R,a=.one (.slice (L.map λx=>[cb x,cn x,cd x]))/\l=L.map rv/\L.length<=2/\∀x∈L,WLR x/\rl x<=1000000/\vldR x=true/\rl x<=lim:=by
 unfold decN at h;split at h
 .split at h
  .rename_i L e;split at h
   .rename_i hc;cases h
    obtain⟨q1,q2⟩:=jQ e;exact⟨L,by rw [q1],rfl,hc.1,λx hx=>⟨(q2 x hx).1,(q2 x hx).2.1,(q2 x hx).2.2,hc.2 x hx⟩⟩
   .exact nos h
  .exact nos h
 .exact nos h
theorem Jh(K:AV->Prop)(dr:Bool)(x:R):lenA K dr (.one (cn x))=bndK dr x.2.1.length (intR K .i64 (x.2.1.length:Nat)):=by
 unfold cn ws;rw [Zr,List.length_map]
theorem kh(K:AV->Prop)(dr:Bool)(x:R):lenA K dr (.one (cd x))=bndK dr x.2.2.length (intR K .i64 (x.2.2.length:Nat)):=by
 unfold cd ws;rw [Zr,List.length_map]
theorem getY(K:List C->Prop)(a b:List C):getE K [a,b] 1=K b:=by unfold getE;simp
def jc:AC:=(.o [.m 2 .fa] [0] (.f (.o [.M 5 0,.Z 6 5,.N 7 0] [5,6,7] (.block 0 (.loop (.o [.B 8 .lss 7 6] [5,6,7,8] (.f (.cond (.t 8) .skip (.exit 0)) [5,6,7] (.f (.block 1 (.o [.J 9 3 5 7,.L 10 3 9,.G 4 [.z,.emp,.emp],.S 3 4 10] [4,5,6,7] (.o [.A 11 0 4,.F 12 1 11,.M 13 12,.T 14 13 false 1 4,.U 15 13 false 1 false 14,.w 16 13 false (.len (.t 15)),.w 17 13 false (.bin .gtr (.t 16) (.i 0)),.Q 18 13 17,.M 19 18,.T 20 19 false 2 4,.U 21 19 false 1 false 20,.w 22 19 false (.len (.t 21)),.w 23 19 false (.bin .gtr (.t 22) (.i 0)),.Q 24 19 23] [5,6,7,24] (.cond (.t 24) (.seq (.p [.m 2 .fa]) .ret) .skip)))) [5,6,7] (.p [.I 25 .add 7 1,.M 7 25]))))))) [] (.seq (.p [.m 2 .tr]) .ret)))
def Zh:AC:=(.o [.m 2 (.c (.one .emp))] [0] (.o [.m 3 (.c (.one .emp))] [0,3] (.f (.o [.M 6 0,.Z 7 6,.N 8 0] [3,6,7,8] (.block 0 (.loop (.o [.B 9 .lss 8 7] [3,6,7,8,9] (.f (.cond (.t 9) .skip (.exit 0)) [3,6,7,8] (.f (.block 1 (.o [.J 10 3 6 8,.L 11 3 10,.G 5 [.z,.emp,.emp],.S 3 5 11] [3,5,6,7,8] (.y [.M 12 3,.A 13 0 5,.u 14 (.ld (some 5) 1 false (.t 13)),.m 15 (.c (.one .emp)),.A 16 1 5,.u 17 (.ld (some 5) 1 false (.t 16)),.u 18 (.app0 1 (.t 15) (.t 17)),.m 19 (.c (.one .emp)),.A 20 2 5,.u 21 (.ld (some 5) 1 false (.t 20)),.u 22 (.app0 1 (.t 19) (.t 21)),.u 23 (.build [.x 1 (.t 14),.x 1 (.t 18),.x 1 (.t 22)]),.u 24 (.rowd 3 [[.x 3 (.t 23)]]),.u 25 (.app 3 (.t 12) (.t 24)),.M 3 25]))) [3,6,7,8] (.p [.I 26 .add 8 1,.M 8 26]))))))) [3] (.seq (.p [.M 27 3,.M 2 27]) .ret))))
theorem U2(hΓ:Holds P Γ){f:Nat}(hc:check P f=some (26,jc.strip,[.tmp 2])):Sound P f (.dat true (FG .empty)):=by
 refine Va hc (Uap _) hΓ (λargs K hcl hfi hG=>?_);obtain⟨r,hr,hK⟩:=hG;match args,hr with
 | [a],hr=>
  rw [show FE .empty [a]=(decN 1000000 a).map (λl=>boolV (l.all λq=>decide (q=0))) from rfl,zOM]at hr;obtain⟨l,hd,rfl⟩:=hr;obtain⟨L,rfl,rfl,hlen,hL⟩:=Y3 hd;refine⟨by simp,?_⟩
  have one:∀{x:R},WLR x->vldR x=true->(x=(false,[],[])/\rv x=0)∨((∃b w ws d,x=(b,w::ws,d))/\rv x≠0):=by
   intro x hw hv;rcases Qg hw hv with h | ⟨h1,-,-,h2,-⟩
   .exact .inl h
   .obtain⟨b,n,d⟩:=x;obtain⟨w,ws,e⟩:=js h1;exact .inr ⟨⟨b,w,ws,d,by rw [show n=w::ws from e]⟩,h2⟩
  match L,hlen,hL,hK with
  | [],_,_,hK=>
   simp only [List.map_nil];simp only [go_sem,jc,ve];refine Qz 2 [5,6,7] [] (by simp [go_sem]) ?_
   simp only [go_sem,Jh,kh,List.length_cons,List.length_nil,ve,Int.reduceAdd,Int.reduceLT,Int.reduceLE,Int.cast_ofNat_Int,getY];exact hK
  | [x],_,hL,hK=>
   simp only [List.map_cons,List.map_nil];obtain⟨w1,b1,v1,-⟩:=hL x (by simp)
   rcases one w1 v1 with⟨rfl,z1⟩ | ⟨⟨b,w,ws,d,rfl⟩,z1⟩
   .have k1:K (.one (.lit (.bool true))):=by simpa [z1,boolV] using hK
    simp only [go_sem,jc,ve];refine Qz 2 [5,6,7] [] (by simp [go_sem]) ?_
    simp only [go_sem,Jh,kh,List.length_cons,List.length_nil,ve,Int.reduceAdd,Int.reduceLT,Int.reduceLE,Int.cast_ofNat_Int,getY];repeat first | refine q_Wk ?_ | intro _
    refine ZaD [5,6,7] [] (by simp [go_sem]) ?_
    simp only [go_sem,Jh,kh,List.length_cons,List.length_nil,ve,Int.reduceAdd,Int.reduceLT,Int.reduceLE,Int.cast_ofNat_Int,getY];repeat first | refine q_Wk ?_ | intro _
    exact k1
   .have k1:K (.one (.lit (.bool false))):=by simpa [z1,boolV] using hK
    cases b
    .simp only [go_sem,jc,ve];refine Qz 2 [5,6,7] [] (by simp [go_sem]) ?_
     simp only [go_sem,Jh,kh,List.length_cons,List.length_nil,ve,Int.reduceAdd,Int.reduceLT,Int.reduceLE,Int.cast_ofNat_Int,getY];repeat first | refine q_Wk ?_ | intro _
     exact⟨λ_=>k1,λh=>(h (by omega)).elim⟩
    .simp only [go_sem,jc,ve];refine Qz 2 [5,6,7] [] (by simp [go_sem]) ?_
     simp only [go_sem,Jh,kh,List.length_cons,List.length_nil,ve,Int.reduceAdd,Int.reduceLT,Int.reduceLE,Int.cast_ofNat_Int,getY];repeat first | refine q_Wk ?_ | intro _
     exact k1
  | [x,y],_,hL,hK=>
   simp only [List.map_cons,List.map_nil];obtain⟨w1,b1,v1,-⟩:=hL x (by simp)
   obtain⟨w2,b2,v2,-⟩:=hL y (by simp)
   rcases one w1 v1 with⟨rfl,z1⟩ | ⟨⟨b,w,ws,d,rfl⟩,z1⟩
   .rcases one w2 v2 with⟨rfl,z2⟩ | ⟨⟨b,w,ws,d,rfl⟩,z2⟩
    .have k1:K (.one (.lit (.bool true))):=by simpa [z1,z2,boolV] using hK
     simp only [go_sem,jc,ve];refine Qz 2 [5,6,7] [] (by simp [go_sem]) ?_
     simp only [go_sem,Jh,kh,List.length_cons,List.length_nil,ve,Int.reduceAdd,Int.reduceLT,Int.reduceLE,Int.cast_ofNat_Int,getY];repeat first | refine q_Wk ?_ | intro _
     refine ZaD [5,6,7] [] (by simp [go_sem]) ?_
     simp only [go_sem,Jh,kh,List.length_cons,List.length_nil,ve,Int.reduceAdd,Int.reduceLT,Int.reduceLE,Int.cast_ofNat_Int,getY];repeat first | refine q_Wk ?_ | intro _
     refine ZaD [5,6,7] [] (by simp [go_sem]) ?_
     simp only [go_sem,Jh,kh,List.length_cons,List.length_nil,ve,Int.reduceAdd,Int.reduceLT,Int.reduceLE,Int.cast_ofNat_Int,getY];repeat first | refine q_Wk ?_ | intro _
     exact k1
    .have k1:K (.one (.lit (.bool false))):=by simpa [z1,z2,boolV] using hK
     cases b
     .simp only [go_sem,jc,ve];refine Qz 2 [5,6,7] [] (by simp [go_sem]) ?_
      simp only [go_sem,Jh,kh,List.length_cons,List.length_nil,ve,Int.reduceAdd,Int.reduceLT,Int.reduceLE,Int.cast_ofNat_Int,getY];repeat first | refine q_Wk ?_ | intro _
      refine ZaD [5,6,7] [] (by simp [go_sem]) ?_
      simp only [go_sem,Jh,kh,List.length_cons,List.length_nil,ve,Int.reduceAdd,Int.reduceLT,Int.reduceLE,Int.cast_ofNat_Int,getY];repeat first | refine q_Wk ?_ | intro _
      exact⟨λ_=>k1,λh=>(h (by omega)).elim⟩
     .simp only [go_sem,jc,ve];refine Qz 2 [5,6,7] [] (by simp [go_sem]) ?_
      simp only [go_sem,Jh,kh,List.length_cons,List.length_nil,ve,Int.reduceAdd,Int.reduceLT,Int.reduceLE,Int.cast_ofNat_Int,getY];repeat first | refine q_Wk ?_ | intro _
      refine ZaD [5,6,7] [] (by simp [go_sem]) ?_
      simp only [go_sem,Jh,kh,List.length_cons,List.length_nil,ve,Int.reduceAdd,Int.reduceLT,Int.reduceLE,Int.cast_ofNat_Int,getY];repeat first | refine q_Wk ?_ | intro _
      exact k1
   .have k1:K (.one (.lit (.bool false))):=by simpa [z1,boolV] using hK
    cases b
    .simp only [go_sem,jc,ve];refine Qz 2 [5,6,7] [] (by simp [go_sem]) ?_
     simp only [go_sem,Jh,kh,List.length_cons,List.length_nil,ve,Int.reduceAdd,Int.reduceLT,Int.reduceLE,Int.cast_ofNat_Int,getY];repeat first | refine q_Wk ?_ | intro _
     exact⟨λ_=>k1,λh=>(h (by omega)).elim⟩
    .simp only [go_sem,jc,ve];refine Qz 2 [5,6,7] [] (by simp [go_sem]) ?_
     simp only [go_sem,Jh,kh,List.length_cons,List.length_nil,ve,Int.reduceAdd,Int.reduceLT,Int.reduceLE,Int.cast_ofNat_Int,getY];repeat first | refine q_Wk ?_ | intro _
     exact k1
theorem Jae:∀(l:List (Nat×HB)),mkH l=hget l
 | []=>rfl
 | p::l=>by
  funext r
  rw [Xd,<-Jae l];exact Qb p.1 p.2 l r
def finC(k:Nat)(K:AV->Prop)(e:Ex)(s:S):Prop:=(∀i,e≠.exit i)/\∃(kl:List (Nat×HB)) (n:Nat) (c c' : C),s.h=mkH kl/\s.v k=.one c/\deepC kl n c=some c'/\K (.one c')
theorem Wam{f n k:Nat}{ac:AC}{G:List AV->(AV->Prop)->Prop}(hc:check P f=some (n,ac.strip,[.tmp k]))(hg:Good G)(hΓ:Holds P Γ)
  (h:∀args K,G args K->args.length<=n/\wpA Γ ac (finC k K) (argS args)):Sound P f (.dat false G):=by
 obtain⟨fn,c,h1,h2,h3,h4,h5,h6,h7⟩:=Vi hc;refine⟨Xa h1 h2 (by rw [h3];rfl),hg,?_⟩
 intro args vals w I K himb hargs hclean hG;obtain⟨hlen,hwp⟩:=h args K hG;refine calls_of_wp h1 h3 ?_;have hsim:=qE (fn:=fn) h4 himb hargs hlen h7;have e0:(⟨mkV (argL 0 args),hget []⟩:S)=argS args:=rfl;rw [e0]at hsim;refine Qt hΓ ac c (by exact h5) hsim hwp (λe' s' a' w' m' I' hq hs=>?_)
 obtain⟨hne,kl,nn,cc,c',hh,hv,hd,hK⟩:=hq;rw [Jae]at hh;have fin:a'.defers=[]/\∃v,(results fn a'.tmps).run P w' = .ok v w'/\∃v' r I',Ending.returned v=.returned v'/\K r/\RA M0 I' w'.heap r v'/\CleanA r/\Ret w I w' I':=by
  obtain⟨xs,vs,hres,hra,hxs⟩:=Vd (P:=P) hs h6 (K:=λxs=>xs=[.one cc]) (by simp only [rawK,hv])
  subst hxs;obtain⟨I2,hh2,hx2,hfz⟩:=hs.heap.frz (kl.map (·.1));have hf:Froz m' I2 s'.h kl:=λr v b hb=>⟨by rw [hh];exact hb,λk z hm=>hfz r (UA _ _ _ _ hb) b k z (by rw [hh,hb]) hm⟩
  have q:RAs m' I2 w'.heap [.one c'] vs/\∀a∈[AV.one c'],CleanV a:=by
   match vs,hra with
   | [v],hra=>
    have h0:=hra.2 0 (.one cc) v rfl rfl;cases h0 with
    | one c v hc=>
     obtain⟨p1,p2⟩:=(Yaz hs.heap hx2 hf nn).1 cc c' v hd hc;refine⟨⟨rfl,λi a u ha hu=>?_⟩,λa ha=>?_⟩
     .cases i with
      | zero=>
       simp only [List.getElem?_cons_zero,zOI]at ha hu;subst ha hu;exact .one _ _ p1
      | succ i=>simp at ha
     .rw [List.mem_singleton]at ha;subst ha;exact p2
  exact⟨hs.dfr,_,hres,_,.one c',I2,rfl,hK,VG (q.1.any_map q.2 M0),YB q.2,vaj hh2⟩
 cases e' with
 | nrm=>exact fin
 | ret=>exact fin
 | exit i=>exact(hne i rfl).elim
theorem Xav{body:AC}{Q:Ex->S->Prop}{n:Nat}{l:List (Nat×AV)}{k:List (Nat×HB)}(a b c d:Nat)(ks bs:List Nat)(ha:a<pinA/\b<pinA)(hc:c<pinA/\d<pinA)(hh:okS (mkH k) (mkH (kpH k bs)) (mkV l) (keepV l ks)/\okH (mkH k) (mkH (kpH k bs)) (kpH k bs))
  (h:wpA Γ body (Ex.seq (λs'=>UnAt Γ body Q n s' .mk) Q) ⟨mkV (swL c d (swL a b (keepV l ks))),mkH (swK c d (swK a b (kpH k bs)))⟩) {t:Tok (Γ,body,Q,n+1)}:UnAt Γ body Q (n+1) ⟨mkV l,mkH k⟩ t:=by
 obtain⟨ρ,w1⟩:=Vbe ha hh;have e:swS c d ⟨mkV (swL a b (keepV l ks)),mkH (swK a b (kpH k bs))⟩=⟨mkV (swL c d (swL a b (keepV l ks))),mkH (swK c d (swK a b (kpH k bs)))⟩:=by
  unfold swS;congr 1
  .funext t;exact(xas c d _ t).symm
  .funext r;exact(YaE c d _ r).symm
 refine jat _ ?_ h;rw [<-e];exact Weak.trans ⟨ρ,w1⟩ (Waz hc.1 hc.2 w1.selfV w1.selfH)
theorem Xt(K:List (List C)->Prop)(h:Nat->HB)(x:R):elemsA K h (.one (cn x))=K (x.2.1.map wc):=rfl
theorem Yu(K:List (List C)->Prop)(h:Nat->HB)(x:R):elemsA K h (.one (cd x))=K (x.2.2.map wc):=rfl
theorem Xab(h:List (Nat×HB)):∀(l:List Nat) (n:Nat),l.length+3<=n->deepR h n (l.map wc)=some (l.map wc)
 | [],n,hn=>by
  obtain⟨n,rfl⟩:∃m,n=m+1:=⟨n-1,by omega⟩
  simp only [List.map_nil,deepR]
 | x::l,n,hn=>by
  rw [List.length_cons]at hn;obtain⟨n,rfl⟩:∃m,n=m+3:=⟨n-3,by omega⟩
  have e:deepL h (n+2) (wc x)=some (wc x):=by
   simp only [wc,deepL,deepC,Option.map_some]
  rw [List.map_cons];simp only [deepR];rw [e,Xab h l (n+2) (by omega)];rfl
theorem xy(a b:Nat)(l:List Nat):swR a b (l.map wc)=l.map wc:=by
 unfold swR;rw [List.map_map];exact List.map_congr_left λx _=>rfl
def ownR(x:R)(a b:Nat):List C:=[.lit (.bool x.1),.own a 1 1 0 x.2.1.length,.own b 1 1 0 x.2.2.length]
theorem V7{kl:List (Nat×HB)}{a n:Nat}{l:List Nat}(ha:hget kl a=⟨1,some ⟨l.map wc,1,true⟩⟩)(h:l.length+4<=n):deepC kl n (.own a 1 1 0 l.length)=some (ws l):=by
 obtain⟨n,rfl⟩:∃m,n=m+1:=⟨n-1,by omega⟩
 have e:((l.map wc).drop 0).take l.length=l.map wc:=by rw [List.drop_zero,List.take_of_length_le (by rw [List.length_map];exact Nat.le_refl _)]
 simp only [deepC,ha,e];rw [Xab kl l n (by omega),show(Nat.beq 1 1 && Nat.ble (0+l.length) (l.map wc).length)=true by rw [List.length_map,Nat.zero_add,Nat.ble_eq_true_of_le (Nat.le_refl _)];rfl];rfl
theorem WG{kl:List (Nat×HB)}{x:R}{a b n:Nat}(ha:hget kl a=⟨1,some ⟨x.2.1.map wc,1,true⟩⟩)(hb:hget kl b=⟨1,some ⟨x.2.2.map wc,1,true⟩⟩)(h1:x.2.1.length<=1000000)(h2:x.2.2.length<=1000000)(hn:1000010<=n) :
  deepL kl n (ownR x a b)=some [cb x,cn x,cd x]:=by
 obtain⟨n,rfl⟩:∃m,n=m+4:=⟨n-4,by omega⟩
 unfold ownR;simp only [deepL];rw [V7 ha (n:=n+2) (by omega),V7 hb (n:=n+1) (by omega)]
 simp only [deepC,Option.map_some];rfl
theorem deep1{kl:List (Nat×HB)}{x:R}{ver a b:Nat}(h0:hget kl 25=⟨ver,some ⟨[ownR x a b],3,true⟩⟩)(ha:hget kl a=⟨1,some ⟨x.2.1.map wc,1,true⟩⟩)(hb:hget kl b=⟨1,some ⟨x.2.2.map wc,1,true⟩⟩)(h1:x.2.1.length<=1000000)(h2:x.2.2.length<=1000000) :
  deepC kl 1000100 (.own 25 ver 3 0 1)=some (.slice [[cb x,cn x,cd x]]):=by
 obtain⟨n,hn,e⟩:∃n,1000010<=n/\1000100=n+3:=⟨1000097,by omega,rfl⟩
 rw [e];have e2:([ownR x a b].drop 0).take 1=[ownR x a b]:=rfl;simp only [deepC,h0,e2];rw [show(Nat.beq ver ver && Nat.ble (0+1) [ownR x a b].length)=true by rw [Nat.beq_refl];rfl]
 simp only [deepR,WG ha hb h1 h2 (show 1000010<=n+1 by omega),Option.map_some,cond_true]
theorem deep2{kl:List (Nat×HB)}{x y:R}{ver a b c d:Nat}(h0:hget kl 25=⟨ver,some ⟨[ownR x a b,ownR y c d],3,true⟩⟩)(ha:hget kl a=⟨1,some ⟨x.2.1.map wc,1,true⟩⟩)(hb:hget kl b=⟨1,some ⟨x.2.2.map wc,1,true⟩⟩)(h1:x.2.1.length<=1000000)(h2:x.2.2.length<=1000000)
  (hc:hget kl c=⟨1,some ⟨y.2.1.map wc,1,true⟩⟩) (hd:hget kl d=⟨1,some ⟨y.2.2.map wc,1,true⟩⟩) (h3:y.2.1.length<=1000000) (h4:y.2.2.length<=1000000) :
  deepC kl 1000100 (.own 25 ver 3 0 2)=some (.slice [[cb x,cn x,cd x],[cb y,cn y,cd y]]):=by
 obtain⟨n,hn,e⟩:∃n,1000010<=n/\1000100=n+4:=⟨1000096,by omega,rfl⟩
 rw [e];have e2:([ownR x a b,ownR y c d].drop 0).take 2=[ownR x a b,ownR y c d]:=rfl;simp only [deepC,h0,e2];rw [show(Nat.beq ver ver && Nat.ble (0+2) [ownR x a b,ownR y c d].length)=true by rw [Nat.beq_refl];rfl]
 simp only [deepR,WG ha hb h1 h2 (show 1000010<=n+2 by omega),WG hc hd h3 h4 (show 1000010<=n+1 by omega),Option.map_some,cond_true]
theorem UR(hΓ:Holds P Γ){f:Nat}(hc:check P f=some (28,Zh.strip,[.tmp 2])):Sound P f (.dat false (FG .copied)):=by
 refine Wam hc (Uap _) hΓ (λargs K hG=>?_);obtain⟨r,hr,hK⟩:=hG;match args,hr with
 | [a],hr=>
  rw [show FE .copied [a]=(decN 1000000 a).map (λ_=>a) from rfl,zOM]at hr;obtain⟨l,hd,rfl⟩:=hr;obtain⟨L,rfl,rfl,hlen,hL⟩:=Y3 hd;refine⟨by simp,?_⟩
  match L,hlen,hL,hK with
  | [],_,_,hK=>
   simp only [List.map_nil]at hK ⊢;simp only [go_sem,Zh];refine Qz 2 [3,6,7,8] [] (by simp [go_sem]) ?_
   simp only [go_sem,List.length_cons,List.length_nil,List.length_map,ve,Int.reduceAdd,Int.reduceLT,Int.reduceLE,Int.cast_ofNat_Int,getY,Xt,Yu];exact⟨nofun,[],1,_,_,rfl,rfl,rfl,hK⟩
  | [x],_,hL,hK=>
   simp only [List.map_cons,List.map_nil]at hK ⊢;obtain⟨w1,b1,v1,-⟩:=hL x (by simp)
   have n1:x.2.1.length<=1000000:=Nat.le_trans (Nat.le_max_left _ _) b1;have n2:x.2.2.length<=1000000:=Nat.le_trans (Nat.le_max_right _ _) b1;simp only [go_sem,Zh];refine Qz 2 [3,6,7,8] [] (by simp [go_sem]) ?_
   simp only [go_sem,List.length_cons,List.length_nil,List.length_map,ve,Int.reduceAdd,Int.reduceLT,Int.reduceLE,Int.cast_ofNat_Int,getY,Xt,Yu,xy];repeat first | refine q_Wk ?_ | intro _
   simp only [go_sem,List.length_cons,List.length_nil,List.length_map,ve,Int.reduceAdd,Int.reduceLT,Int.reduceLE,Int.cast_ofNat_Int,getY,Xt,Yu,xy];repeat first | refine q_Wk ?_ | intro _
   refine⟨by simp,?_⟩
   refine Xav 18 118 22 122 [3,6,7,8] [25,22,18] ⟨by decide,by decide⟩ ⟨by decide,by decide⟩ (by simp [go_sem,okH,okB,okE,okL,okC,yc]) ?_
   simp only [go_sem,List.length_cons,List.length_nil,List.length_map,ve,Int.reduceAdd,Int.reduceLT,Int.reduceLE,Int.cast_ofNat_Int,getY,Xt,Yu,xy];exact⟨nofun,_,1000100,_,_,rfl,rfl,deep1 (a:=118) (b:=122) rfl rfl rfl n1 n2,hK⟩
  | [x,y],_,hL,hK=>
   simp only [List.map_cons,List.map_nil]at hK ⊢;obtain⟨w1,b1,v1,-⟩:=hL x (by simp)
   obtain⟨w2,b2,v2,-⟩:=hL y (by simp)
   have n1:x.2.1.length<=1000000:=Nat.le_trans (Nat.le_max_left _ _) b1;have n2:x.2.2.length<=1000000:=Nat.le_trans (Nat.le_max_right _ _) b1;have n3:y.2.1.length<=1000000:=Nat.le_trans (Nat.le_max_left _ _) b2;have n4:y.2.2.length<=1000000:=Nat.le_trans (Nat.le_max_right _ _) b2;simp only [go_sem,Zh];refine Qz 2 [3,6,7,8] [] (by simp [go_sem]) ?_
   simp only [go_sem,List.length_cons,List.length_nil,List.length_map,ve,Int.reduceAdd,Int.reduceLT,Int.reduceLE,Int.cast_ofNat_Int,getY,Xt,Yu,xy];repeat first | refine q_Wk ?_ | intro _
   simp only [go_sem,List.length_cons,List.length_nil,List.length_map,ve,Int.reduceAdd,Int.reduceLT,Int.reduceLE,Int.cast_ofNat_Int,getY,Xt,Yu,xy];repeat first | refine q_Wk ?_ | intro _
   refine⟨by simp,?_⟩
   refine Xav 18 118 22 122 [3,6,7,8] [25,22,18] ⟨by decide,by decide⟩ ⟨by decide,by decide⟩ (by simp [go_sem,okH,okB,okE,okL,okC,yc]) ?_
   simp only [go_sem,List.length_cons,List.length_nil,List.length_map,ve,Int.reduceAdd,Int.reduceLT,Int.reduceLE,Int.cast_ofNat_Int,getY,Xt,Yu,xy];repeat first | refine q_Wk ?_ | intro _
   simp only [go_sem,List.length_cons,List.length_nil,List.length_map,ve,Int.reduceAdd,Int.reduceLT,Int.reduceLE,Int.cast_ofNat_Int,getY,Xt,Yu,xy];repeat first | refine q_Wk ?_ | intro _
   refine⟨by simp,?_⟩
   refine Xav 18 218 22 222 [3,6,7,8] [25,22,18,122,118] ⟨by decide,by decide⟩ ⟨by decide,by decide⟩ (by simp [go_sem,okH,okB,okE,okL,okC,yc]) ?_
   simp only [go_sem,List.length_cons,List.length_nil,List.length_map,ve,Int.reduceAdd,Int.reduceLT,Int.reduceLE,Int.cast_ofNat_Int,getY,Xt,Yu,xy];exact⟨nofun,_,1000100,_,_,rfl,rfl,deep2 (a:=118) (b:=122) (c:=218) (d:=222) rfl rfl rfl n1 n2 rfl rfl n3 n4,hK⟩
end Go.Abs
end
section
namespace Go.Abs
open Go.Num
def vD(X:Rat)(ρ:Nat->PR)(df:List Df)(k:Nat):PR:=
 match df[k]? with
 | some .par=>ρ k
 | some (.int n)=>((n:Rat),0)
 | some (.add i j)=>if h:i<k/\j<k then ((vD X ρ df i).1+(vD X ρ df j).1,(vD X ρ df i).2+(vD X ρ df j).2) else (0,0)
 | some (.sub i j)=>if h:i<k/\j<k then ((vD X ρ df i).1-(vD X ρ df j).1,(vD X ρ df i).2-(vD X ρ df j).2) else (0,0)
 | some (.mul i j)=>if h:i<k/\j<k then mulP X (vD X ρ df i) (vD X ρ df j) else (0,0)
 | some (.div i j)=>if h:i<k/\j<k then ((vD X ρ df i).1 / (vD X ρ df j).1,(vD X ρ df i).2 / (vD X ρ df j).1) else (0,0)
 | some (.neg i)=>if h:i<k then (-(vD X ρ df i).1,-(vD X ρ df i).2) else (0,0)
 | some .root=>(0,1)
 | none=>(0,0)
termination_by k
decreasing_by all_goals omega
def okD(lv:List Bool)(bd:List Nat)(bX k:Nat):Df->Bool
 | .par=>true
 | .int n=>ile (-1000) n && ile n 1000 && Nat.ble 2 ((bd[k]?).getD 0)
 | .add i j=>Nat.blt i k && Nat.blt j k && Nat.ble ((bd[i]?).getD 0+(bd[j]?).getD 0+2) ((bd[k]?).getD 0) && (!(lv[k]?).getD false || ((lv[i]?).getD false && (lv[j]?).getD false))
 | .sub i j=>Nat.blt i k && Nat.blt j k && Nat.ble ((bd[i]?).getD 0+(bd[j]?).getD 0+2) ((bd[k]?).getD 0) && (!(lv[k]?).getD false || ((lv[i]?).getD false && (lv[j]?).getD false))
 | .mul i j=>Nat.blt i k && Nat.blt j k && Nat.ble ((bd[i]?).getD 0+(bd[j]?).getD 0+2) ((bd[k]?).getD 0) && (((lv[i]?).getD false || (lv[j]?).getD false) && (!(lv[k]?).getD false || ((lv[i]?).getD false && (lv[j]?).getD false)))
 | .div i j=>Nat.blt i k && Nat.blt j k && Nat.ble ((bd[i]?).getD 0+(bd[j]?).getD 0+2) ((bd[k]?).getD 0) && (!(lv[k]?).getD false || (lv[i]?).getD false)
 | .neg i=>Nat.blt i k && Nat.ble ((bd[i]?).getD 0) ((bd[k]?).getD 0) && (!(lv[k]?).getD false || (lv[i]?).getD false)
 | .root=>!(lv[k]?).getD false && Nat.ble 2 ((bd[k]?).getD 0)
def okDs(lv:List Bool)(bd:List Nat)(bX:Nat):List Df->Nat->Bool
 | [],_=>true
 | d::r,k=>okD lv bd bX k d && okDs lv bd bX r (k+1)
section
variable {X:Rat} {ρ:Nat->PR} {df:List Df} {lv:List Bool} {bd:List Nat} {bX:Nat}
theorem ZC:∀{l:List Df} {k0 i:Nat} {d:Df},okDs lv bd bX l k0=true->l[i]?=some d->okD lv bd bX (k0+i) d=true
 | [],_,_,_,_,e=>nos e
 | d::r,k0,i,d',h,e=>by
  simp only [okDs,zBA]at h;cases i with
  | zero=>
   simp only [List.getElem?_cons_zero,zOI]at e;subst e;exact h.1
  | succ i=>
   rw [List.getElem?_cons_succ]at e;have:=ZC h.2 e
   rwa [show k0+1+i=k0+(i+1) by omega]at this
theorem Zd{a b:Nat}(h:Nat.blt a b=true):a<b:=ua h
theorem WH(h:okDs lv bd bX df 0=true){k:Nat}{d:Df}(hd:df[k]?=some d):d.sem X (vD X ρ df) (vD X ρ df k):=by
 have ho:=ZC h hd;rw [Nat.zero_add]at ho;rw [vD,hd];cases d <;> simp only [okD,zBA,Df.sem]at ho ⊢
 case add i j=>rw [dif_pos ⟨Zd ho.1.1.1,Zd ho.1.1.2⟩]
 case sub i j=>rw [dif_pos ⟨Zd ho.1.1.1,Zd ho.1.1.2⟩]
 case mul i j=>rw [dif_pos ⟨Zd ho.1.1.1,Zd ho.1.1.2⟩]
 case div i j=>rw [dif_pos ⟨Zd ho.1.1.1,Zd ho.1.1.2⟩]
 case neg i=>rw [dif_pos (Zd ho.1.1)]
theorem Ua4{k:Nat}(hd:df[k]?=none):vD X ρ df k=(0,0):=by rw [vD,hd]
theorem Zak{n:Int}(h1:-1000<=n)(h2:n<=1000):rz (n:Rat)<=2:=by
 refine jaX ?_ ?_
 .rw [Rat.num_intCast];exact yi (Nat.lt_of_lt_of_le (show n.natAbs<4294967296 by omega) (by decide))
 .rw [Rat.den_intCast];exact yi (by decide)
theorem waI(h:okDs lv bd bX df 0=true)(hX:rz X<=bX)(hρ:∀k,df[k]?=some .par->rz (ρ k).1<=(bd[k]?).getD 0/\rz (ρ k).2<=(bd[k]?).getD 0/\((lv[k]?).getD false=true->(ρ k).2=0)) :
  ∀(k:Nat),k<df.length->rz (vD X ρ df k).1<=(bd[k]?).getD 0/\rz (vD X ρ df k).2<=(bd[k]?).getD 0/\((lv[k]?).getD false=true->(vD X ρ df k).2=0):=by
 intro k
 induction k using Nat.strongRecOn with
 | ind k ih=>
  intro hk;obtain⟨d,hd⟩:∃d,df[k]?=some d:=⟨df[k],List.getElem?_eq_getElem hk⟩;have ho:=ZC h hd;rw [Nat.zero_add]at ho;have hs:=WH (X:=X) (ρ:=ρ) h hd;cases d <;> simp only [okD,zBA,Df.sem]at ho hs
  case par=>
   have e:vD X ρ df k=ρ k:=by rw [vD,hd]
   rw [e];exact hρ k hd
  case int n=>
   rw [hs];have h2:=ua ho.2;exact⟨Nat.le_trans (Zak (Ug ho.1.1) (Ug ho.1.2)) h2,by show rz 0<=_;rw [Zs];exact Nat.zero_le _,λ_=>rfl⟩
  case add i j=>
   have hi:=Zd ho.1.1.1;have hj:=Zd ho.1.1.2;obtain⟨a1,a2,a3⟩:=ih i hi (by omega)
   obtain⟨b1,b2,b3⟩:=ih j hj (by omega)
   have hb:=ua ho.1.2;rw [hs];have m1:=ZG (vD X ρ df i).1 (vD X ρ df j).1;have m2:=ZG (vD X ρ df i).2 (vD X ρ df j).2;refine⟨by simp only;omega,by simp only;omega,λhl=>?_⟩
   have:=ho.2;rw [hl]at this;simp only [Bool.not_true,Bool.false_or,zBA]at this;simp only [a3 this.1,b3 this.2,Rat.add_zero]
  case sub i j=>
   have hi:=Zd ho.1.1.1;have hj:=Zd ho.1.1.2;obtain⟨a1,a2,a3⟩:=ih i hi (by omega)
   obtain⟨b1,b2,b3⟩:=ih j hj (by omega)
   have hb:=ua ho.1.2;rw [hs];have m1:=kaA (vD X ρ df i).1 (vD X ρ df j).1;have m2:=kaA (vD X ρ df i).2 (vD X ρ df j).2;refine⟨by simp only;omega,by simp only;omega,λhl=>?_⟩
   have:=ho.2;rw [hl]at this;simp only [Bool.not_true,Bool.false_or,zBA]at this;simp only [a3 this.1,b3 this.2];grind
  case mul i j=>
   have hi:=Zd ho.1.1.1;have hj:=Zd ho.1.1.2;obtain⟨a1,a2,a3⟩:=ih i hi (by omega)
   obtain⟨b1,b2,b3⟩:=ih j hj (by omega)
   have hb:=ua ho.1.2;rw [hs];have m1:=XI (vD X ρ df i).1 (vD X ρ df j).1;have m2:=XI (vD X ρ df i).1 (vD X ρ df j).2;have m3:=XI (vD X ρ df i).2 (vD X ρ df j).1;have lk:(lv[k]?).getD false=true->(mulP X (vD X ρ df i) (vD X ρ df j)).2=0:=by
    intro hl;have:=ho.2.2;rw [hl]at this;simp only [Bool.not_true,Bool.false_or,zBA]at this;unfold mulP;simp only [a3 this.1,b3 this.2,Rat.zero_mul,Rat.mul_zero,Rat.add_zero]
   have ho2:=ho.2.1;simp only [Bool.or_eq_true]at ho2;rcases ho2 with hl | hl
   .have z:=a3 hl;have e:mulP X (vD X ρ df i) (vD X ρ df j)=((vD X ρ df i).1*(vD X ρ df j).1,(vD X ρ df i).1*(vD X ρ df j).2):=by
     unfold mulP;simp only [z,Rat.zero_mul,Rat.add_zero]
    refine⟨by rw [e];simp only;omega,by rw [e];simp only;omega,lk⟩
   .have z:=b3 hl;have e:mulP X (vD X ρ df i) (vD X ρ df j)=((vD X ρ df i).1*(vD X ρ df j).1,(vD X ρ df i).2*(vD X ρ df j).1):=by
     unfold mulP;simp only [z,Rat.zero_mul,Rat.mul_zero,Rat.add_zero,Rat.zero_add]
    refine⟨by rw [e];simp only;omega,by rw [e];simp only;omega,lk⟩
  case div i j=>
   have hi:=Zd ho.1.1.1;have hj:=Zd ho.1.1.2;obtain⟨a1,a2,a3⟩:=ih i hi (by omega)
   obtain⟨b1,b2,b3⟩:=ih j hj (by omega)
   have hb:=ua ho.1.2;rw [hs];have m1:=Vaf (vD X ρ df i).1 (vD X ρ df j).1;have m2:=Vaf (vD X ρ df i).2 (vD X ρ df j).1;refine⟨by simp only;omega,by simp only;omega,λhl=>?_⟩
   have:=ho.2;rw [hl]at this;simp only [Bool.not_true,Bool.false_or]at this;simp only [a3 this,Rat.div_def,Rat.zero_mul]
  case neg i=>
   have hi:=Zd ho.1.1;obtain⟨a1,a2,a3⟩:=ih i hi (by omega)
   have hb:=ua ho.1.2;rw [hs];refine⟨by simp only;rw [Uy];omega,by simp only;rw [Uy];omega,λhl=>?_⟩
   have:=ho.2;rw [hl]at this;simp only [Bool.not_true,Bool.false_or]at this;simp only [a3 this];grind
  case root=>
   rw [hs];have hb:=ua ho.2;refine⟨by show rz 0<=_;rw [Zs];exact Nat.zero_le _,Nat.le_trans rz_1 hb,λhl=>?_⟩
   have:=ho.1;rw [hl]at this;exact Bool.noConfusion this
def stOk(s:Nat)(p:PR):Prop:=(s=0->p=(0,0))/\(s=1->0<p.1/\p.2=0)/\(s=2->p.1<0/\p.2=0)/\(s=3->p.1≠0/\p.2=0)
theorem zap{st:List Nat}{x:Nat}(h:okDs lv bd bX df 0=true)(hlen:lv.length<=df.length/\bd.length<=df.length/\st.length<=df.length)(hX:rz X<=bX)(hρ:∀k,df[k]?=some .par->rz (ρ k).1<=(bd[k]?).getD 0/\rz (ρ k).2<=(bd[k]?).getD 0/\((lv[k]?).getD false=true->(ρ k).2=0))
  (hx:(vD X ρ df x).1=X) (hst:∀k s,st[k]?=some s->stOk s (vD X ρ df k)):EngOk ⟨df,st,lv,bd,x⟩ (vD X ρ df):=by
 have hb:=waI h hX hρ;have hs:∀(k s:Nat),(Eng.mk df st lv bd x).s k=s->s≠4->stOk s (vD X ρ df k):=by
  intro k s e hs;unfold Eng.s at e;cases e2:st[k]? with
  | none=>rw [show(Eng.mk df st lv bd x).st=st from rfl,e2]at e;exact(hs e.symm).elim
  | some s'=>rw [show(Eng.mk df st lv bd x).st=st from rfl,e2]at e;rw [<-show s' = s from e];exact hst k s' e2
 refine⟨λk d hd=>?_,λk e=>(hs k 0 e (by decide)).1 rfl,λk e=>(hs k 1 e (by decide)).2.1 rfl,λk e=>(hs k 2 e (by decide)).2.2.1 rfl,λk e=>(hs k 3 e (by decide)).2.2.2 rfl,λk e=>?_,λk e=>?_⟩
 .rw [show(vD X ρ df (Eng.mk df st lv bd x).x).1=X from hx];exact WH h hd
 .unfold Eng.l at e;have hk:k<df.length:=by
   cases e2:lv[k]? with
   | none=>rw [show(Eng.mk df st lv bd x).lv=lv from rfl,e2]at e;exact Bool.noConfusion e
   | some s'=>exact Nat.lt_of_lt_of_le (List.getElem?_eq_some_iff.1 e2).1 hlen.1
  exact(hb k hk).2.2 e
 .unfold Eng.b at e ⊢;rw [show(Eng.mk df st lv bd x).bd=bd from rfl]at e ⊢;cases e2:bd[k]? with
  | none=>rw [e2]at e;exact absurd e (by decide)
  | some s'=>
   have hk:k<df.length:=Nat.lt_of_lt_of_le (List.getElem?_eq_some_iff.1 e2).1 hlen.2.1;have:=hb k hk;rw [e2]at this;exact⟨this.1,this.2.1⟩
end
def forced(acc:List Nat):Df->Option Nat
 | .int n=>some (cond (ieq n 0) 0 3)
 | .mul i j=>some (cond (Nat.beq ((acc[i]?).getD 4) 0 || Nat.beq ((acc[j]?).getD 4) 0) 0 3)
 | .div i j=>some (cond (Nat.beq ((acc[i]?).getD 4) 0 || Nat.beq ((acc[j]?).getD 4) 0) 0 3)
 | .neg i=>some (cond (Nat.beq ((acc[i]?).getD 4) 0) 0 3)
 | _=>none
def fNs{α:Type}:List Nat->(List Nat->α)->α
 | [],k=>k []
 | a::l,k=>fNat (λa=>fNs l λl=>k (a::l)) a
theorem kaN{α:Type}:∀(l:List Nat) (k:List Nat->α),fNs l k=k l
 | [],k=>rfl
 | a::l,k=>by simp only [fNs,xo,kaN l]
def expl(P:List Nat->Bool):List Df->List Nat->Bool
 | [],acc=>fNs acc P
 | d::r,acc=>match forced acc d with
  | some s=>expl P r (acc++[s])
  | none=>expl P r (acc++[0]) && cond (Nat.beq acc.length 3) (expl P r (acc++[1]) && expl P r (acc++[2])) (expl P r (acc++[3]))
noncomputable def stV(v:Nat->PR)(k:Nat):Nat:=if k=0 then 1 else if (v k).1=0 then 0 else if k=3 then (if 0<(v k).1 then 1 else 2) else 3
section
variable {ρ:Nat->PR} {df:List Df} {lv:List Bool} {bd:List Nat} {bX:Nat}
theorem vY(a b:Nat):Nat.beq a b=decide (a=b):=by
 cases h:Nat.beq a b with
 | true=>rw [decide_eq_true (beq_eq h)]
 | false=>
  rw [decide_eq_false];intro e;rw [e,Nat.beq_refl]at h;exact Bool.noConfusion h
theorem UO{v:Nat->PR}(h0:0<(v 0).1)(k:Nat):Nat.beq (stV v k) 0=decide ((v k).1=0):=by
 rw [vY];unfold stV;by_cases hk:k=0
 .subst hk;rw [if_pos rfl,decide_eq_false (by decide),decide_eq_false (by grind)]
 .rw [if_neg hk];by_cases hz:(v k).1=0
  .rw [if_pos hz];simp [hz]
  .rw [if_neg hz];by_cases h3:k=3
   .rw [if_pos h3];by_cases hp:0<(v k).1
    .rw [if_pos hp];simp [hz]
    .rw [if_neg hp];simp [hz]
   .rw [if_neg h3];simp [hz]
theorem ji{n i:Nat}(h:i<n)(f:Nat->Nat):(((List.range n).map f)[i]?).getD 4=f i:=by
 rw [List.getElem?_map,List.getElem?_range h];rfl
theorem Uao{X:Rat}(hok:okDs lv bd bX df 0=true)(hl:∀k,k<df.length->(vD X ρ df k).2=0)(h0:0<(vD X ρ df 0).1){n s:Nat}{d:Df}(hn:1<=n)(hn3:n≠3)(hd:df[n]?=some d)(h:forced ((List.range n).map (stV (vD X ρ df))) d=some s) :
  s=stV (vD X ρ df) n:=by
 have hlen:n<df.length:=(List.getElem?_eq_some_iff.1 hd).1;have ho:=ZC hok hd;rw [Nat.zero_add]at ho;have hs:=WH (X:=X) (ρ:=ρ) hok hd;have hn0:n≠0:=by omega
 have fin:∀(b:Bool),(b=true↔(vD X ρ df n).1=0)->cond b 0 3=stV (vD X ρ df) n:=by
  intro b hb;unfold stV;rw [if_neg hn0];by_cases hz:(vD X ρ df n).1=0
  .rw [if_pos hz,hb.2 hz];rfl
  .rw [if_neg hz,if_neg hn3];cases b with
   | false=>rfl
   | true=>exact(hz (hb.1 rfl)).elim
 have z:=λi=>UO (v:=vD X ρ df) h0 i;cases d <;> simp only [forced]at h
 case int m=>
  cases h
  refine fin _ ?_;rw [yB,show(vD X ρ df n).1=(m:Rat) from congrArg Prod.fst hs];simp only [decide_eq_true_eq];exact⟨λe=>by rw [e];rfl,λe=>by exact_mod_cast e⟩
 case mul i j=>
  cases h
  simp only [okD,zBA]at ho;have hi:=Zd ho.1.1.1;have hj:=Zd ho.1.1.2;refine fin _ ?_;rw [ji hi,ji hj,z,z];have e1:(vD X ρ df n).1=(vD X ρ df i).1*(vD X ρ df j).1:=by
   rw [show vD X ρ df n=mulP X (vD X ρ df i) (vD X ρ df j) from hs];unfold mulP;simp only [hl i (by omega),Rat.zero_mul,Rat.add_zero]
  rw [e1];simp only [Bool.or_eq_true,decide_eq_true_eq];exact Rat.mul_eq_zero.symm
 case div i j=>
  cases h
  simp only [okD,zBA]at ho;have hi:=Zd ho.1.1.1;have hj:=Zd ho.1.1.2;refine fin _ ?_;rw [ji hi,ji hj,z,z];have e1:(vD X ρ df n).1=(vD X ρ df i).1 / (vD X ρ df j).1:=congrArg Prod.fst hs;rw [e1];simp only [Bool.or_eq_true,decide_eq_true_eq,Rat.div_def];constructor
  .rintro(e | e)
   .rw [e,Rat.zero_mul]
   .rw [e,Rat.inv_zero,Rat.mul_zero]
  .intro e;rcases Rat.mul_eq_zero.1 e with e | e
   .exact .inl e
   .right;rw [<-Rat.inv_inv (vD X ρ df j).1,e,Rat.inv_zero]
 case neg i=>
  cases h
  simp only [okD,zBA]at ho;have hi:=Zd ho.1.1;refine fin _ ?_;rw [ji hi,z];have e1:(vD X ρ df n).1 = -(vD X ρ df i).1:=congrArg Prod.fst hs;rw [e1];simp only [decide_eq_true_eq];constructor
  .intro e;rw [e];rfl
  .intro e;grind
 all_goals exact nos h
theorem Y2{P:List Nat->Bool}{X:Rat}(hp3:df[3]?=some .par)(hok:okDs lv bd bX df 0=true)(hl:∀k,k<df.length->(vD X ρ df k).2=0)(h0:0<(vD X ρ df 0).1) :
  ∀(r:List Df) (n:Nat),1<=n->n<=df.length->df.drop n=r->expl P r ((List.range n).map (stV (vD X ρ df)))=true->P ((List.range df.length).map (stV (vD X ρ df)))=true
 | [],n,hn,hle,e,h=>by
  have:df.length<=n:=List.drop_eq_nil_iff.1 e;simp only [expl,kaN]at h;rw [show df.length=n by omega];exact h
 | d::r,n,hn,hle,e,h=>by
  have hlt:n<df.length:=by
   apply Classical.byContradiction;intro hc;rw [List.drop_of_length_le (by omega)]at e
   cases e
  rw [List.drop_eq_getElem_cons hlt]at e;injection e with e1 e2
  have hd:df[n]?=some d:=by rw [List.getElem?_eq_getElem hlt,e1]
  have next:∀s,s=stV (vD X ρ df) n->(List.range n).map (stV (vD X ρ df))++[s]=(List.range (n+1)).map (stV (vD X ρ df)):=by
   intro s hs;rw [List.range_succ,List.map_append,hs];rfl
  simp only [expl]at h;split at h
  .rename_i s hs;rw [next s (Uao hok hl h0 hn (λe=>by rw [e,hp3]at hd;cases hd;cases hs) hd hs)]at h
   exact Y2 hp3 hok hl h0 r (n+1) (by omega) hlt e2 h
  .rw [zBA]at h;have lenacc:((List.range n).map (stV (vD X ρ df))).length=n:=by rw [List.length_map,List.length_range]
   rw [lenacc]at h;have go:∀s,s=stV (vD X ρ df) n->expl P r ((List.range n).map (stV (vD X ρ df))++[s])=true->P ((List.range df.length).map (stV (vD X ρ df)))=true:=by
    intro s hs h;rw [next s hs]at h
    exact Y2 hp3 hok hl h0 r (n+1) (by omega) hlt e2 h
   by_cases hz:(vD X ρ df n).1=0
   .exact go 0 (by unfold stV;rw [if_neg (by omega),if_pos hz]) h.1
   .have h2:=h.2;by_cases h3:n=3
    .rw [show Nat.beq n 3=true by rw [h3];rfl,cond_true,zBA]at h2
     by_cases hp:0<(vD X ρ df n).1
     .exact go 1 (by unfold stV;rw [if_neg (by omega),if_neg hz,if_pos h3,if_pos hp]) h2.1
     .exact go 2 (by unfold stV;rw [if_neg (by omega),if_neg hz,if_pos h3,if_neg hp]) h2.2
    .rw [show Nat.beq n 3=false by rw [vY,decide_eq_false h3],cond_false]at h2
     exact go 3 (by unfold stV;rw [if_neg (by omega),if_neg hz,if_neg h3]) h2
theorem ya6{v:Nat->PR}(h0:0<(v 0).1){n:Nat}(hl:∀k,k<n->(v k).2=0){k s:Nat}(h:((List.range n).map (stV v))[k]?=some s):stOk s (v k):=by
 rw [List.getElem?_map,zOM]at h;obtain⟨i,hi,rfl⟩:=h;obtain⟨hlt,e⟩:=List.getElem?_eq_some_iff.1 hi;rw [List.getElem_range]at e;subst e;have hlt:k<n:=by rw [List.length_range]at hlt;exact hlt
 unfold stV stOk;by_cases hk:k=0
 .rw [if_pos hk];subst hk;exact⟨nofun,λ_=>⟨h0,hl 0 hlt⟩,nofun,nofun⟩
 .rw [if_neg hk];by_cases hz:(v k).1=0
  .rw [if_pos hz];exact⟨λ_=>Prod.ext hz (hl k hlt),nofun,nofun,nofun⟩
  .rw [if_neg hz];by_cases h3:k=3
   .rw [if_pos h3];by_cases hp:0<(v k).1
    .rw [if_pos hp];exact⟨nofun,λ_=>⟨hp,hl k hlt⟩,nofun,nofun⟩
    .rw [if_neg hp];exact⟨nofun,nofun,λ_=>⟨by grind,hl k hlt⟩,nofun⟩
   .rw [if_neg h3];exact⟨nofun,nofun,nofun,λ_=>⟨hz,hl k hlt⟩⟩
end
theorem qH{x:R}(hw:WLR x)(hv:vldR x=true):[cb x,cn x,cd x]=qC (rv x):=by
 unfold qC;rw [vi hw hv]
theorem qp{lim:Nat}{a:AV}{l:List Rat}(h:decN lim a=some l):a=.one (rowQC l)/\l.length<=2/\∀q∈l,rz q<=lim:=by
 obtain⟨L,rfl,rfl,hlen,hL⟩:=Y3 h;refine⟨?_,by rw [List.length_map];exact hlen,λq hq=>?_⟩
 .unfold rowQC;rw [List.map_map];congr 2;exact List.map_congr_left λx hx=>qH (hL x hx).1 (hL x hx).2.2.1
 .obtain⟨x,hx,rfl⟩:=List.mem_map.1 hq;exact Nat.le_trans (VS (hL x hx).1) (hL x hx).2.2.2
theorem vN{t:AV}{T:Option Rat}(h:decT t=some T):(T=none/\t=.agg [.slice []])∨∃x,T=some x/\t=.agg [.slice [[rowQC [x]]]]/\0<x/\rz x<=10000:=by
 unfold decT at h;split at h
 .cases h;exact .inl ⟨rfl,rfl⟩
 .split at h
  .rename_i x e;split at h
   .rename_i hc;cases h
    obtain⟨h1,h2,h3,h4⟩:=yg e;injection h1 with h1
    refine .inr ⟨rv x,rfl,?_,hc.2,Nat.le_trans (VS h2) hc.1⟩;rw [h1,qH h2 h4];rfl
   .exact nos h
  .exact nos h
 .exact nos h
def nz2(acc:List Nat)(k:Nat):Bool:=Nat.beq ((acc[k]?).getD 4) 0
def lenB(T a b:Bool):Nat->Bool
 | 0=>a && b
 | 1=>b
 | _=>T && !b
def lenOk(T:Bool)(acc:List Nat)(i j n:Nat):Bool:=lenB T (nz2 acc i) (nz2 acc j) n
def towA(T:Bool):AV:=cond T (.agg [.slice [[rowC [some 0]]]]) (.agg [.slice []])
def numL(E:Eng)(i j n:Nat):AV:=.one (rowC ([E.mk1 i,E.mk1 j].take n))
def shS(lo:Sy):Sy->List Sy
 | some h=>[lo,some h]
 | none=>match lo with
  | some l=>[some l]
  | none=>[]
def shs:List (Bool×Nat×Nat):=[(false,0,0),(false,0,1),(false,1,0),(false,1,1),(true,0,0),(true,0,1),(true,0,2),(true,1,0),(true,1,1),(true,1,2),(true,2,0),(true,2,1),(true,2,2)]
abbrev Xp:=Eng->Sy->Sy->Sy->Sy->Sy->Option (Sy×Sy)
def wr(b:Bool)(a:AV):AV:=cond b (.tup [a,nilV]) a
def resIs(b:Bool)(o:Option AV)(a:AV):Bool:=match o with
 | some (.tup l)=>b && eqAs l [a,nilV]
 | some (.one c)=>!b && eqA (.one c) a
 | _=>false
abbrev Ra:=Eng->Bool×Nat×Nat->List AV
noncomputable def chk2(wb:Bool)(ra:Ra)(tab:Nat->Option (Nat×AC×List RV))(kd:List (Nat×EK))(N:Nums)(n f:Nat)(df:List Df)(lv:List Bool)(bd:List Nat)(pre:List Nat->Bool)(xp:Xp)(acc:List Nat):Bool:=
 shs.all λp=>!(lenOk p.1 acc 1 2 p.2.1 && lenOk p.1 acc 3 4 p.2.2 && pre acc) ||
  match xp ⟨df,acc,lv,bd,0⟩ ((Eng.mk df acc lv bd 0).mk1 1) ((Eng.mk df acc lv bd 0).mk1 2) ((Eng.mk df acc lv bd 0).mk1 3) ((Eng.mk df acc lv bd 0).mk1 4) (some 0) with
  | some (lo,hi)=>resIs wb ((lvE tab (baseY ⟨df,acc,lv,bd,0⟩ kd [] N) n).dat f (ra ⟨df,acc,lv,bd,0⟩ p)) (.one (rowC (shS lo hi)))
  | none=>false
structure Set1 (P:Program) (tab:Nat->Option (Nat×AC×List RV)) (kd:List (Nat×EK)) (N:Nums):Prop where
 ht:TabOk P tab
 hf:∀f n ac rv,tab f=some (n,ac,rv)->hfAC ac=true
 hk:∀p∈kd,Enters P p.1/\DSound P p.1 (FG p.2)
 h1:∀p∈kd,tab p.1=none
 h2:tab N.pair=none
 hp:Enters P N.pair
 hc:N.clones=[]
section
variable {P:Program} {tab:Nat->Option (Nat×AC×List RV)} {kd:List (Nat×EK)} {N:Nums}
theorem uaC(hS:Set1 P tab kd N){E:Eng}{v:Nat->PR}(hE:EngOk E v){n f:Nat}{as:List AV}{r:AV}(hr:(lvE tab (baseY E kd [] N) n).dat f as=some r) :
  DSound P f λargs K=>args=as.map (sA (thE v))/\K (sA (thE v) r):=by
 have hB:BaseOk P (baseF v kd [] N):=ZA hS.hk (λf hf=>by rw [hS.hc]at hf;cases hf) hS.hp (λq hq=>by cases hq)
 have hL:=(Wu hS.ht hB n).1;have hs:=Qax (xC v) hS.hf (UZ hE (pq:=[]) List.Pairwise.nil hS.h1 hS.h2 (λf hf=>by rw [hS.hc]at hf;cases hf)) n
 have h2:=hs.dat f as r hr;refine(hL.dat f).mono λargs K ⟨h3,h4⟩=>?_;rw [h3];exact⟨_,h2,h4⟩
theorem waL{b:Bool}{o:Option AV}{a:AV}(h:resIs b o a=true):o=some (wr b a):=by
 unfold resIs at h;split at h
 .rw [zBA]at h;rw [vw h.2,h.1];rfl
 .rw [zBA,Bool.not_eq_true']at h;rw [VaO h.2,h.1];rfl
 .exact Bool.noConfusion h
theorem Vy(v:Nat->PR)(l:List Sy):sC (thE v) (rowC l)=rowQC (l.map λs=>(vS v s).1):=by
 show C.slice (sR (thE v) (l.map ratC))=_;unfold rowQC;rw [Wh,List.map_map,List.map_map];congr 1;exact List.map_congr_left λs _=>Zk v s
theorem Ube{E:Eng}{v:Nat->PR}(hE:EngOk E v){lo hi:Sy}(h1:∀k,lo=some k->(v k).1≠0)(h2:∀k,hi=some k->(v k).1≠0):((shS lo hi).map λs=>(vS v s).1)=shortQ ((vS v lo).1,(vS v hi).1):=by
 unfold shortQ;cases hi with
 | some k=>
  rw [if_neg (show((vS v lo).1,(vS v (some k)).1).2≠0 from h2 k rfl)];rfl
 | none=>
  rw [if_pos (show((vS v lo).1,(vS v none).1).2=0 from rfl)];cases lo with
  | some k=>rw [if_neg (show((vS v (some k)).1,(vS v none).1).1≠0 from h1 k rfl)];rfl
  | none=>rw [if_pos (show((vS v none).1,(vS v none).1).1=0 from rfl)];rfl
def nzE(E:Eng)(v:Nat->PR)(s:Sy):Prop:=∀k,s=some k->(v k).1≠0
def rho(X:Rat)(a b:PR)(k:Nat):PR:=if k=0 then (X,0) else if k=1 then (a.1,0) else if k=2 then (a.2,0) else if k=3 then (b.1,0) else if k=4 then (b.2,0) else (0,0)
theorem len2{l:List Rat}{T:Option Rat}(h2:l.length<=2)(h:okN T l=true):lenB T.isSome (decide ((prQ l).1=0)) (decide ((prQ l).2=0)) l.length=true:=by
 rcases l with _ | ⟨x,_ | ⟨y,_ | ⟨z,l⟩⟩⟩
 .rfl
 .rfl
 .simp only [okN,zBA,decide_eq_true_eq]at h;show(T.isSome && !decide (y=0))=true;rw [h.1,decide_eq_false h.2];rfl
 .simp at h2
theorem wa0{l:List Rat}(h2:l.length<=2):[(prQ l).1,(prQ l).2].take l.length=l:=by
 rcases l with _ | ⟨x,_ | ⟨y,_ | ⟨z,l⟩⟩⟩
 .rfl
 .rfl
 .rfl
 .simp at h2
theorem Wt{l:List Rat}{b:Nat}(h:∀q∈l,rz q<=b)(i:Nat):rz (l.getD i 0)<=b:=by
 rw [List.getD_eq_getElem?_getD];cases e:l[i]? with
 | none=>show rz 0<=b;rw [Zs];exact Nat.zero_le _
 | some x=>exact h x (List.mem_of_getElem? e)
def Leaf(v:Nat->PR)(X:Rat)(a b:PR):Prop:=v 0=(X,0)/\v 1=(a.1,0)/\v 2=(a.2,0)/\v 3=(b.1,0)/\v 4=(b.2,0)
def ArgOk(ra:Ra)(args:List AV)(T:Option Rat)(l m:List Rat):Prop:=
 (l.length<=2/\∀q∈l,rz q<=10000)/\(m.length<=2/\∀q∈m,rz q<=10000)/\okN T l=true/\okN T m=true/\(∀X,T=some X->0<X/\rz X<=10000)/\
  ∀(E:Eng) (v:Nat->PR) (X:Rat),EngOk E v->(∀s d,E.df[s]?=some d->nzE E v (E.mk1 s))->(∀k,k<5->∃d,E.df[k]?=some d)->(∀Y,T=some Y->Y=X)->Leaf v X (prQ l) (prQ m)->(ra E (T.isSome,l.length,m.length)).map (sA (thE v))=args
theorem apiC(hS:Set1 P tab kd N){ek:EK}{f n:Nat}{ops:List Df}{lv:List Bool}{bd:List Nat}{wb:Bool}{ra:Ra}{pre:List Nat->Bool}{xp:Xp}{g:Option Rat->PR->PR->Option AV}
  (hFE:∀args r,FE ek args=some r->∃T l m,g T (prQ l) (prQ m)=some r/\ArgOk ra args T l m)
  (hok:okDs lv bd 10000 (.par::.par::.par::.par::.par::ops) 0=true) (hops:ops.all (λd=>match d with | .par=>false | .root=>false | _=>true)=true) (hlv:lv=List.replicate (ops.length+5) true) (hbd:bd.length=ops.length+5) (hb5:∀k,k<5->(bd[k]?).getD 0=10000)
  (hex:expl (chk2 wb ra tab kd N n f (.par::.par::.par::.par::.par::ops) lv bd pre xp) (.par::.par::.par::.par::ops) [1]=true)
  (hpre:∀(T:Option Rat) (a b:PR) (r:AV) (acc:List Nat),g T a b=some r->nz2 acc 3=decide (b.1=0)->nz2 acc 4=decide (b.2=0)->pre acc=true)
  (hx:∀(E:Eng) (v:Nat->PR) (T:Option Rat) (lo hi:Sy) (res:AV),EngOk E v->(∀s d,E.df[s]?=some d->nzE E v (E.mk1 s))->(∀k,k<5->∃d,E.df[k]?=some d)->0<(v 0).1->(T=none->(v 2).1=0/\(v 4).1=0)->(∀X,T=some X->X=(v 0).1)->(∀k,(v k).2=0)->xp E (E.mk1 1) (E.mk1 2) (E.mk1 3) (E.mk1 4) (some 0)=some (lo,hi)->g T ((v 1).1,(v 2).1) ((v 3).1,(v 4).1)=some res->
   res=wr wb (.one (rowQC (shortQ ((vS v lo).1,(vS v hi).1))))/\nzE E v lo/\nzE E v hi) :
  DSound P f (FG ek):=by
 intro args vals w I K himb hargs hclean ⟨r,hr,hK⟩;obtain⟨T,l,m,hF,⟨la,za⟩,⟨lb,zb⟩,hal,ham,hTX,hra⟩:=hFE _ _ hr;generalize hdf:(Df.par::.par::.par::.par::.par::ops)=df at hok hex;have hdl:df.length=ops.length+5:=by rw [<-hdf];simp
 obtain⟨X,hX0,hXz,hT1⟩:∃X:Rat,0<X/\rz X<=10000/\(∀Y,T=some Y->Y=X):=by
  cases T with
  | none=>exact⟨1,by decide,Nat.le_trans rz_1 (by decide),nofun⟩
  | some x=>exact⟨x,(hTX x rfl).1,(hTX x rfl).2,λY e=>(Option.some.inj e).symm⟩
 generalize hv:vD X (rho X (prQ l) (prQ m)) df=v;have leaf:∀k,k<5->v k=rho X (prQ l) (prQ m) k:=by
  intro k hk;have:df[k]?=some .par:=by
   rw [<-hdf];match k,hk with
   | 0,_=>rfl
   | 1,_=>rfl
   | 2,_=>rfl
   | 3,_=>rfl
   | 4,_=>rfl
  rw [<-hv,vD,this]
 have e0:v 0=(X,0):=leaf 0 (by decide)
 have e1:v 1=((prQ l).1,0):=leaf 1 (by decide)
 have e2:v 2=((prQ l).2,0):=leaf 2 (by decide)
 have e3:v 3=((prQ m).1,0):=leaf 3 (by decide)
 have e4:v 4=((prQ m).2,0):=leaf 4 (by decide)
 have hρ:∀k,df[k]?=some .par->rz (rho X (prQ l) (prQ m) k).1<=(bd[k]?).getD 0/\rz (rho X (prQ l) (prQ m) k).2<=(bd[k]?).getD 0/\((lv[k]?).getD false=true->(rho X (prQ l) (prQ m) k).2=0):=by
  intro k hk;have hk5:k<5:=by
   apply Classical.byContradiction;intro hc;have h1:ops[k-5]?=some .par:=by
    rw [<-hdf,show k=(k-5)+5 by omega]at hk
    simpa using hk
   have:=List.all_eq_true.1 hops _ (List.mem_of_getElem? h1);exact Bool.noConfusion this
  have z2:(rho X (prQ l) (prQ m) k).2=0:=by
   unfold rho;repeat' split
   all_goals rfl
  rw [hb5 k hk5,z2,Zs];refine⟨?_,Nat.zero_le _,λ_=>rfl⟩;unfold rho;repeat' split
  .exact hXz
  .exact Wt za 0
  .exact Wt za 1
  .exact Wt zb 0
  .exact Wt zb 1
  .show rz 0<=_;rw [Zs];exact Nat.zero_le _
 have hlvk:∀k,k<df.length->(lv[k]?).getD false=true:=by
  intro k hk;rw [hlv,List.getElem?_replicate,if_pos (by omega)];rfl
 have hz:∀k,(v k).2=0:=by
  intro k;by_cases hk:k<df.length
  .rw [<-hv];exact(waI hok hXz hρ k hk).2.2 (hlvk k hk)
  .rw [<-hv,Ua4 (List.getElem?_eq_none (by omega))]
 have h0:0<(v 0).1:=by rw [e0];exact hX0
 have hE:EngOk ⟨df,(List.range df.length).map (stV v),lv,bd,0⟩ v:=by
  rw [<-hv];refine zap hok ⟨by rw [hlv,List.length_replicate,hdl];exact Nat.le_refl _,by rw [hbd,hdl];exact Nat.le_refl _,by rw [List.length_map,List.length_range];exact Nat.le_refl _⟩ hXz hρ ?_ λk s hk=>?_
  .rw [hv,e0]
  .rw [hv]at hk ⊢;exact ya6 h0 (λk _=>hz k) hk
 generalize hacc:(List.range df.length).map (stV v)=acc at hE;have hchk:chk2 wb ra tab kd N n f df lv bd pre xp acc=true:=by
  rw [<-hacc,<-hv];refine Y2 (by rw [<-hdf];rfl) hok (λk hk=>by rw [hv];exact hz k) (by rw [hv];exact h0) (df.drop 1) 1 (Nat.le_refl _) (by rw [hdl];omega) rfl ?_
  rw [hv];have:(List.range 1).map (stV v)=[1]:=rfl;rw [this,<-hdf];rw [<-hdf]at hex;exact hex
 have hst:∀k,k<5->nz2 acc k=decide ((v k).1=0):=by
  intro k hk5;unfold nz2;rw [<-hacc,ji (by rw [hdl];omega),UO h0]
 have hpr:=hpre T (prQ l) (prQ m) r acc hF (by rw [hst 3 (by decide),e3]) (by rw [hst 4 (by decide),e4])
 have l1:lenOk T.isSome acc 1 2 l.length=true:=by
  have:=len2 la hal;unfold lenOk;rw [hst 1 (by decide),hst 2 (by decide),e1,e2]
  exact this
 have l2:lenOk T.isSome acc 3 4 m.length=true:=by
  have:=len2 lb ham;unfold lenOk;rw [hst 3 (by decide),hst 4 (by decide),e3,e4]
  exact this
 have hmem:(T.isSome,l.length,m.length)∈shs:=by
  cases T with
  | none=>
   have h1:l.length<=1:=by
    rcases l with _ | ⟨x,_ | ⟨y,l⟩⟩ <;> simp [okN]at hal ham ⊢
    all_goals (rcases l with _ | ⟨z,l⟩ <;> simp [okN]at hal ham)
   have h2:m.length<=1:=by
    rcases m with _ | ⟨x,_ | ⟨y,m⟩⟩ <;> simp [okN]at hal ham ⊢
    all_goals (rcases m with _ | ⟨z,m⟩ <;> simp [okN]at hal ham)
   generalize l.length=p at h1;generalize m.length=q at h2;match p,q,h1,h2 with
   | 0,0,_,_=>decide
   | 0,1,_,_=>decide
   | 1,0,_,_=>decide
   | 1,1,_,_=>decide
  | some X=>
   generalize l.length=p at la;generalize m.length=q at lb;match p,q,la,lb with
   | 0,0,_,_=>simp [shs]
   | 0,1,_,_=>simp [shs]
   | 0,2,_,_=>simp [shs]
   | 1,0,_,_=>simp [shs]
   | 1,1,_,_=>simp [shs]
   | 1,2,_,_=>simp [shs]
   | 2,0,_,_=>simp [shs]
   | 2,1,_,_=>simp [shs]
   | 2,2,_,_=>simp [shs]
 have hrun:=List.all_eq_true.1 hchk _ hmem;simp only [l1,l2,hpr,Bool.and_self,Bool.not_true,Bool.false_or]at hrun;split at hrun
 .rename_i lo hi hxp;have hnz:∀s d,df[s]?=some d->nzE ⟨df,acc,lv,bd,0⟩ v ((Eng.mk df acc lv bd 0).mk1 s):=by
   intro s d hd k e;have hk:s<df.length:=(List.getElem?_eq_some_iff.1 hd).1;unfold Eng.mk1 at e;cases hb:Nat.beq ((Eng.mk df acc lv bd 0).s s) 0 with
   | true=>rw [hb]at e;cases e
   | false=>
    rw [hb]at e;cases e
    intro hzz;unfold Eng.s at hb;rw [show(Eng.mk df acc lv bd 0).st=acc from rfl,<-hacc,ji hk,UO h0,decide_eq_true hzz]at hb;exact Bool.noConfusion hb
  obtain⟨hres,hlo,hhi⟩:=hx ⟨df,acc,lv,bd,0⟩ v T lo hi r hE hnz (λk hk=>show ∃d,df[k]?=some d from ⟨_,List.getElem?_eq_getElem (show k<df.length by omega)⟩) h0 (λe=>by
   subst e;rw [e2,e4];have q1:l.length<=1:=by
    rcases l with _ | ⟨x,_ | ⟨y,l⟩⟩ <;> simp [okN]at hal ham ⊢
    all_goals (rcases l with _ | ⟨z,l⟩ <;> simp [okN]at hal ham)
   have q2:m.length<=1:=by
    rcases m with _ | ⟨x,_ | ⟨y,m⟩⟩ <;> simp [okN]at hal ham ⊢
    all_goals (rcases m with _ | ⟨z,m⟩ <;> simp [okN]at hal ham)
   exact⟨qa2 q1,qa2 q2⟩) (λY e=>by rw [e0];exact hT1 Y e) hz hxp (by rw [e1,e2,e3,e4];exact hF)
  refine(uaC hS hE (waL hrun)) args vals w I K himb hargs hclean ⟨(hra _ v X hE hnz (λk hk=>show ∃d,df[k]?=some d from ⟨_,List.getElem?_eq_getElem (show k<df.length by omega)⟩) hT1 ⟨e0,e1,e2,e3,e4⟩).symm,?_⟩
  have e5:sA (thE v) (wr wb (.one (rowC (shS lo hi))))=wr wb (.one (rowQC (shortQ ((vS v lo).1,(vS v hi).1)))):=by
   have e6:sA (thE v) (.one (rowC (shS lo hi)))=.one (rowQC (shortQ ((vS v lo).1,(vS v hi).1))):=by
    show AV.one (sC (thE v) (rowC (shS lo hi)))=_;rw [Vy,Ube hE hlo hhi]
   cases wb with
   | true=>show AV.tup [sA (thE v) (.one (rowC (shS lo hi))),nilV]=_;rw [e6];rfl
   | false=>exact e6
  rw [e5,<-hres];exact hK
 .exact Bool.noConfusion hrun
end
end Go.Abs
end
section
namespace Go.Abs
open Go.Num
section
variable {E:Eng} {v:Nat->PR}
def Nz(E:Eng)(v:Nat->PR):Prop:=∀s d,E.df[s]?=some d->nzE E v (E.mk1 s)
theorem JP:nzE E v none:=λk e=>by cases e
theorem Z6(hn:Nz E v){p:Df->Bool}{s:Sy}(hs:sFnd E p=some s):nzE E v s:=by
 unfold sFnd at hs;split at hs
 .rename_i k e;cases hs
  obtain⟨d,h1,h2,-⟩:=jad e;exact hn k d h1
 .exact nos hs
theorem kO(hn:Nz E v){a s:Sy}(hs:sNeg E a=some s):nzE E v s:=by
 cases a with
 | none=>cases hs;exact JP
 | some i=>exact Z6 hn (show sFnd E (isNeg i)=some s from hs)
theorem yx(hn:Nz E v){a b s:Sy}(ha:nzE E v a)(hb:nzE E v b)(hs:sAdd E a b=some s):nzE E v s:=by
 cases a with
 | none=>cases hs;exact hb
 | some i=>
  cases b with
  | none=>cases hs;exact ha
  | some j=>exact Z6 hn (show sFnd E (isAdd i j)=some s from hs)
theorem Jx(hn:Nz E v){a b s:Sy}(hs:sMul E a b=some s):nzE E v s:=by
 cases a with
 | none=>cases hs;exact JP
 | some i=>
  cases b with
  | none=>cases hs;exact JP
  | some j=>exact Z6 hn (show sFnd E (isMul i j)=some s from hs)
noncomputable section
def xAdd:Xp:=λE q r q' r' _=>obind (sAdd E q q') λlo=>omap (λhi=>(lo,hi)) (sAdd E r r')
def xSub:Xp:=λE q r q' r' _=>obind (sNeg E q') λnq=>obind (sNeg E r') λnr=>obind (sAdd E q nq) λlo=>omap (λhi=>(lo,hi)) (sAdd E r nr)
def xNeg:Xp:=λE q r _ _ _=>obind (sNeg E q) λlo=>omap (λhi=>(lo,hi)) (sNeg E r)
def xSame:Xp:=λE q r _ _ _=>some (q,r)
def xOf:Xp:=λE q _ _ _ _=>some (q,none)
def xMul:Xp:=λE q r q' r' d=>obind (sMul E q q') λa=>obind (sMul E r r') λb=>obind (sMul E b d) λc=>obind (sAdd E a c) λlo=>
 obind (sMul E q r') λe=>obind (sMul E r q') λf=>omap (λhi=>(lo,hi)) (sAdd E e f)
def xDiv:Xp:=λE q r q' _ _=>obind (sInt E 1) λo=>obind (sDiv E o q') λi=>obind (sMul E q i) λlo=>omap (λhi=>(lo,hi)) (sMul E r i)
end
def Hx(wb:Bool)(xp:Xp)(g:Option Rat->PR->PR->Option AV):Prop:=
 ∀(E:Eng) (v:Nat->PR) (T:Option Rat) (lo hi:Sy) (res:AV),EngOk E v->Nz E v->(∀k,k<5->∃d,E.df[k]?=some d)->0<(v 0).1->(T=none->(v 2).1=0/\(v 4).1=0)->(∀X,T=some X->X=(v 0).1)->(∀k,(v k).2=0)->xp E (E.mk1 1) (E.mk1 2) (E.mk1 3) (E.mk1 4) (some 0)=some (lo,hi)->g T ((v 1).1,(v 2).1) ((v 3).1,(v 4).1)=some res->
   res=wr wb (.one (rowQC (shortQ ((vS v lo).1,(vS v hi).1))))/\nzE E v lo/\nzE E v hi
theorem vS_0(hz:∀k,(v k).2=0)(s:Sy):(vS v s).2=0:=by
 cases s with
 | none=>rfl
 | some k=>exact hz k
theorem QF{X:Rat}{a b:PR}(ha:a.2=0):(mulP X a b).1=a.1*b.1:=by
 unfold mulP;simp only [ha,Rat.zero_mul,Rat.add_zero]
theorem ka8:Hx true xAdd λ_ p q=>retP (p.1+q.1,p.2+q.2):=by
 intro E v T lo hi res hE hn h5 h0 hT1 hT2 hz hx hg;unfold xAdd at hx;obtain⟨a,e1,hx⟩:=qa hx;obtain⟨b,e2,hx⟩:=yb hx;cases hx
 cases hg
 obtain⟨d1,g1⟩:=h5 1 (by decide)
 obtain⟨d2,g2⟩:=h5 2 (by decide)
 obtain⟨d3,g3⟩:=h5 3 (by decide)
 obtain⟨d4,g4⟩:=h5 4 (by decide)
 rw [Qq hE e1,Qq hE e2,wd hE,wd hE,wd hE,wd hE];exact⟨rfl,yx hn (hn _ _ g1) (hn _ _ g3) e1,yx hn (hn _ _ g2) (hn _ _ g4) e2⟩
theorem Ybb:Hx true xSub λ_ p q=>retP (p.1-q.1,p.2-q.2):=by
 intro E v T lo hi res hE hn h5 h0 hT1 hT2 hz hx hg;unfold xSub at hx;obtain⟨n1,f1,hx⟩:=qa hx;obtain⟨n2,f2,hx⟩:=qa hx;obtain⟨a,e1,hx⟩:=qa hx;obtain⟨b,e2,hx⟩:=yb hx;cases hx
 cases hg
 obtain⟨d1,g1⟩:=h5 1 (by decide)
 obtain⟨d2,g2⟩:=h5 2 (by decide)
 rw [Qq hE e1,Qq hE e2,Xs hE f1,Xs hE f2,wd hE,wd hE,wd hE,wd hE];simp only [<-Rat.sub_eq_add_neg];exact⟨rfl,yx hn (hn _ _ g1) (kO hn f1) e1,yx hn (hn _ _ g2) (kO hn f2) e2⟩
theorem Vbf:Hx true xNeg λ_ p _=>retP (-p.1,-p.2):=by
 intro E v T lo hi res hE hn h5 h0 hT1 hT2 hz hx hg;unfold xNeg at hx;obtain⟨a,e1,hx⟩:=qa hx;obtain⟨b,e2,hx⟩:=yb hx;cases hx
 cases hg
 rw [Xs hE e1,Xs hE e2,wd hE,wd hE];exact⟨rfl,kO hn e1,kO hn e2⟩
theorem Ya9:Hx true xMul λT p q=>retP (mulP (T.getD 0) p q):=by
 intro E v T lo hi res hE hn h5 h0 hT1 hT2 hz hx hg;unfold xMul at hx;obtain⟨a,e1,hx⟩:=qa hx;obtain⟨b,e2,hx⟩:=qa hx;obtain⟨c,e3,hx⟩:=qa hx;obtain⟨l,e4,hx⟩:=qa hx;obtain⟨e,e5,hx⟩:=qa hx;obtain⟨f,e6,hx⟩:=qa hx;obtain⟨h,e7,hx⟩:=yb hx;cases hx
 cases hg
 refine⟨?_,yx hn (Jx hn e1) (Jx hn e3) e4,yx hn (Jx hn e5) (Jx hn e6) e7⟩;have z:=vS_0 hz;rw [Qq hE e4,Qq hE e7];simp only;rw [uo hE e1,uo hE e3,uo hE e5,uo hE e6,QF (z _),QF (z _),QF (z _),QF (z _),uo hE e2,QF (z _),wd hE,wd hE,wd hE,wd hE];show AV.tup [.one (rowQC (shortQ (mulP (T.getD 0) _ _))),nilV]=.tup [.one (rowQC (shortQ _)),nilV];congr 5;unfold mulP;cases T with
 | none=>
  obtain⟨z1,z2⟩:=hT1 rfl;simp only [z1,z2,Rat.zero_mul,Rat.mul_zero]
 | some X=>
  rw [hT2 X rfl];rfl
theorem zbe:Hx true xDiv λ_ p q=>if q.1≠0/\q.2=0 then retP (p.1 / q.1,p.2 / q.1) else none:=by
 intro E v T lo hi res hE hn h5 h0 hT1 hT2 hz hx hg;unfold xDiv at hx;obtain⟨o,e1,hx⟩:=qa hx;obtain⟨i,e2,hx⟩:=qa hx;obtain⟨a,e3,hx⟩:=qa hx;obtain⟨b,e4,hx⟩:=yb hx;cases hx
 have hg:(if (v 3).1≠0/\(v 4).1=0 then retP ((v 1).1 / (v 3).1,(v 2).1 / (v 3).1) else none)=some res:=hg
 split at hg
 .cases hg
  refine⟨?_,Jx hn e3,Jx hn e4⟩;have z:=vS_0 hz;obtain⟨q1,q2,q3⟩:=zZ hE e2;have hi:(vS v i).1=1 / (v 3).1:=by
   rw [q3,qaE hE e1,wd hE];rfl
  rw [uo hE e3,uo hE e4,QF (z _),QF (z _),hi,wd hE,wd hE];have e:∀a:Rat,a*(1 / (v 3).1)=a / (v 3).1:=λa=>by rw [Rat.div_def,Rat.one_mul,<-Rat.div_def]
  rw [e,e];rfl
 .exact nos hg
theorem xa4:Hx false xSame λ_ p _=>some (.one (rowQC (shortQ p))):=by
 intro E v T lo hi res hE hn h5 h0 hT1 hT2 hz hx hg;cases hx
 cases hg
 obtain⟨d1,g1⟩:=h5 1 (by decide)
 obtain⟨d2,g2⟩:=h5 2 (by decide)
 rw [wd hE,wd hE];exact⟨rfl,hn _ _ g1,hn _ _ g2⟩
theorem jbn:Hx false xOf λ_ p _=>if p.2=0 then some (.one (rowQC (shortQ (p.1,0)))) else none:=by
 intro E v T lo hi res hE hn h5 h0 hT1 hT2 hz hx hg;cases hx
 obtain⟨d1,g1⟩:=h5 1 (by decide)
 have hg:(if (v 2).1=0 then some (AV.one (rowQC (shortQ ((v 1).1,0)))) else none)=some res:=hg
 split at hg
 .cases hg
  rw [wd hE];exact⟨rfl,hn _ _ g1,JP⟩
 .exact nos hg
end
def ra2:Ra:=λE p=>[towA p.1,numL E 1 2 p.2.1,numL E 3 4 p.2.2]
def ra1:Ra:=λE p=>[towA p.1,numL E 1 2 p.2.1]
def raS:Ra:=λE p=>[.one (rowC (shS (E.mk1 1) (E.mk1 2)))]
def raO:Ra:=λE p=>[ratA (E.mk1 1)]
theorem kaj{E:Eng}{v:Nat->PR}(hE:EngOk E v){i j:Nat}{l:List Rat}(h1:v i=((prQ l).1,0))(h2:v j=((prQ l).2,0))(h3:l.length<=2):sA (thE v) (numL E i j l.length)=.one (rowQC l):=by
 show AV.one (sC (thE v) (rowC _))=_;rw [Vy,List.map_take];have:([E.mk1 i,E.mk1 j].map λs=>(vS v s).1)=[(prQ l).1,(prQ l).2]:=by
  rw [List.map_cons,List.map_cons,List.map_nil,wd hE,wd hE,h1,h2]
 rw [this,wa0 h3]
theorem Xad{E:Eng}{v:Nat->PR}{X:Rat}{T:Option Rat}{t:AV}(hE:EngOk E v)(hT:decT t=some T)(hX:∀Y,T=some Y->Y=X)(h0:v 0=(X,0)):sA (thE v) (towA T.isSome)=t:=by
 rcases vN hT with⟨rfl,rfl⟩ | ⟨x,rfl,rfl,h1,h2⟩
 .rfl
 .show AV.agg [.slice [[sC (thE v) (rowC [some 0])]]]=_;rw [Vy];show AV.agg [.slice [[rowQC [(v 0).1]]]]=_;rw [h0,hX x rfl]
theorem Vax{t:AV}{T:Option Rat}(hT:decT t=some T):∀X,T=some X->0<X/\rz X<=10000:=by
 rcases vN hT with⟨rfl,rfl⟩ | ⟨x,rfl,rfl,h1,h2⟩
 .exact nofun
 .intro X e;cases e;exact⟨h1,h2⟩
theorem fe2{g:Option Rat->PR->PR->Option AV}{t a b r:AV}(h:numF t [a,b] (λT=>fun | [l,m]=>g T (prQ l) (prQ m) | _=>none)=some r):∃T l m,g T (prQ l) (prQ m)=some r/\ArgOk ra2 [t,a,b] T l m:=by
 unfold numF at h;split at h
 .rename_i T hT;split at h
  .rename_i ls hls;split at h
   .rename_i hall;simp only [List.mapM_cons,List.mapM_nil,bind,pure,zOB,zOI]at hls;obtain⟨l,ha,ls1,⟨m,hb,ls2,rfl,rfl⟩,rfl⟩:=hls;simp only [List.all_cons,List.all_nil,Bool.and_true,zBA]at hall;obtain⟨ea,la⟩:=qp ha;obtain⟨eb,lb⟩:=qp hb;refine⟨T,l,m,h,la,lb,hall.1,hall.2,Vax hT,λE v X hE hN h5 hX ⟨e0,e1,e2,e3,e4⟩=>?_⟩;show [sA (thE v) (towA T.isSome),sA (thE v) (numL E 1 2 l.length),sA (thE v) (numL E 3 4 m.length)]=_;rw [Xad hE hT hX e0,kaj hE e1 e2 la.1,kaj hE e3 e4 lb.1,ea,eb]
   .exact nos h
  .exact nos h
 .exact nos h
theorem fe1{g:Option Rat->PR->PR->Option AV}{t a r:AV}(h:numF t [a] (λT=>fun | [l]=>g T (prQ l) (0,0) | _=>none)=some r):∃T l m,g T (prQ l) (prQ m)=some r/\ArgOk ra1 [t,a] T l m:=by
 unfold numF at h;split at h
 .rename_i T hT;split at h
  .rename_i ls hls;split at h
   .rename_i hall;simp only [List.mapM_cons,List.mapM_nil,bind,pure,zOB,zOI]at hls;obtain⟨l,ha,ls1,rfl,rfl⟩:=hls;simp only [List.all_cons,List.all_nil,Bool.and_true]at hall;obtain⟨ea,la⟩:=qp ha;refine⟨T,l,[],h,la,⟨by simp,λq hq=>by cases hq⟩,hall,rfl,Vax hT,λE v X hE hN h5 hX ⟨e0,e1,e2,e3,e4⟩=>?_⟩
    show [sA (thE v) (towA T.isSome),sA (thE v) (numL E 1 2 l.length)]=_;rw [Xad hE hT hX e0,kaj hE e1 e2 la.1,ea]
   .exact nos h
  .exact nos h
 .exact nos h
end Go.Abs
end
section
namespace Go.Abs
open Go.Num
noncomputable def stW(q:Rat):Nat:=if q=0 then 0 else if 0<q then 1 else 2
def E3(b:Nat)(s:List Nat):Eng:=⟨[.par,.par,.par,.int 1],s++[1],[true,true,true,true],[b,b,b,2],0⟩
def all3(P:List Nat->Bool):Bool:=[0,1,2].all λa=>[0,1,2].all λb=>[0,1,2].all λc=>P [a,b,c]
def eqO(o:Option AV)(a:AV):Bool:=match o,a with
 | some (.tup l),.tup m=>eqAs l m
 | some (.one c),.one d=>eqC c d
 | _,_=>false
theorem uab{o:Option AV}{a:AV}(h:eqO o a=true):o=some a:=by
 unfold eqO at h;split at h
 .rw [vw h]
 .rw [wav h]
 .exact Bool.noConfusion h
noncomputable def chk3(tab:Nat->Option (Nat×AC×List RV))(kd:List (Nat×EK))(N:Nums)(n f b:Nat)(ra:Eng->List AV)(rs:List Nat->Option AV)(s:List Nat):Bool:=
 match rs s with
 | some r=>eqO ((lvE tab (baseY (E3 b s) kd [] N) n).dat f (ra (E3 b s))) r
 | none=>true
def rho3(x q r:Rat)(k:Nat):PR:=if k=0 then (x,0) else if k=1 then (q,0) else if k=2 then (r,0) else (0,0)
def v3(x q r:Rat):Nat->PR:=vD x (rho3 x q r) [.par,.par,.par,.int 1]
noncomputable def s3(x q r:Rat):List Nat:=[stW x,stW q,stW r]
theorem Zag(q:Rat):stOk (stW q) (q,0)/\(stW q=0∨stW q=1∨stW q=2):=by
 unfold stW stOk;by_cases h:q=0
 .rw [if_pos h];exact⟨⟨λ_=>by rw [h],nofun,nofun,nofun⟩,.inl rfl⟩
 .rw [if_neg h];by_cases h' : 0<q
  .rw [if_pos h'];exact⟨⟨nofun,λ_=>⟨h',rfl⟩,nofun,nofun⟩,.inr (.inl rfl)⟩
  .rw [if_neg h'];refine⟨⟨nofun,nofun,λ_=>⟨?_,rfl⟩,nofun⟩,.inr (.inr rfl)⟩;grind
theorem v3_0(x q r:Rat):v3 x q r 0=(x,0):=by unfold v3;rw [vD];rfl
theorem v3_1(x q r:Rat):v3 x q r 1=(q,0):=by unfold v3;rw [vD];rfl
theorem v3_2(x q r:Rat):v3 x q r 2=(r,0):=by unfold v3;rw [vD];rfl
theorem v3_3(x q r:Rat):v3 x q r 3=(1,0):=by unfold v3;rw [vD];rfl
theorem wax{b:Nat}{x q r:Rat}(hb:b<=1000000)(h1:rz x<=b)(h2:rz q<=b)(h3:rz r<=b):EngOk (E3 b (s3 x q r)) (v3 x q r):=by
 refine zap (bX:=b) rfl ⟨by simp,by simp,by simp [s3]⟩ h1 (λk hk=>?_) ?_ (λk s hk=>?_)
 .match k,hk with
  | 0,_=>exact⟨h1,by show rz 0<=_;rw [Zs];exact Nat.zero_le _,λ_=>rfl⟩
  | 1,_=>exact⟨h2,by show rz 0<=_;rw [Zs];exact Nat.zero_le _,λ_=>rfl⟩
  | 2,_=>exact⟨h3,by show rz 0<=_;rw [Zs];exact Nat.zero_le _,λ_=>rfl⟩
  | 3,hk=>simp at hk
  | k+4,hk=>simp at hk
 .show(v3 x q r 0).1=x;rw [v3_0]
 .show stOk s (v3 x q r k);match k,hk with
  | 0,hk=>rw [v3_0];cases hk;exact(Zag x).1
  | 1,hk=>rw [v3_1];cases hk;exact(Zag q).1
  | 2,hk=>rw [v3_2];cases hk;exact(Zag r).1
  | 3,hk=>rw [v3_3];cases hk;exact⟨nofun,λ_=>⟨show(0:Rat)<1 by decide,rfl⟩,nofun,nofun⟩
  | k+4,hk=>simp [s3]at hk
section
variable {P:Program} {tab:Nat->Option (Nat×AC×List RV)} {kd:List (Nat×EK)} {N:Nums}
theorem WaW{Q:List Nat->Bool}(h:all3 Q=true)(x q r:Rat):Q (s3 x q r)=true:=by
 unfold all3 at h;simp only [List.all_eq_true]at h;have m:∀q:Rat,stW q∈[0,1,2]:=λq=>by
  rcases(Zag q).2 with e | e | e <;> rw [e] <;> simp
 exact h _ (m x) _ (m q) _ (m r)
theorem apiW(hS:Set1 P tab kd N){n f b:Nat}{ra:Eng->List AV}{rs:List Nat->Option AV}(hb:b<=1000000)(hex:all3 (chk3 tab kd N n f b ra rs)=true) :
  DSound P f λargs K=>∃x q r o,rz x<=b/\rz q<=b/\rz r<=b/\rs (s3 x q r)=some o/\args=(ra (E3 b (s3 x q r))).map (sA (thE (v3 x q r)))/\K (sA (thE (v3 x q r)) o):=by
 intro args vals w I K himb hargs hclean ⟨x,q,r,o,h1,h2,h3,ho,ha,hK⟩;have hc:=WaW hex x q r;unfold chk3 at hc;rw [ho]at hc;exact uaC hS (wax hb h1 h2 h3) (uab hc) args vals w I K himb hargs hclean ⟨ha,hK⟩
def raZ(n:Nat):Eng->List AV:=λE=>[numL E 0 1 n]
def rsZ(n:Nat):List Nat->Option AV:=λs=>some (boolV (((s.take 2).take n).all λa=>Nat.beq a 0))
theorem qaL(q:Rat):Nat.beq (stW q) 0=decide (q=0):=by
 rw [vY];unfold stW;by_cases h:q=0
 .rw [if_pos h];simp [h]
 .rw [if_neg h];by_cases h' : 0<q
  .rw [if_pos h'];simp [h]
  .rw [if_neg h'];simp [h]
theorem VaJ(hS:Set1 P tab kd N){n f:Nat}(h:∀m,m<=2->all3 (chk3 tab kd N n f 1000000 (raZ m) (rsZ m))=true):DSound P f (FG .zero):=by
 intro args vals w I K himb hargs hclean ⟨r,hr,hK⟩;match args,hr with
 | [a],hr=>
  rw [show FE .zero [a]=(decN 1000000 a).map (λl=>boolV (l.all λq=>decide (q=0))) from rfl,zOM]at hr;obtain⟨l,hd,rfl⟩:=hr;obtain⟨ea,la,za⟩:=qp hd;have b1:rz (prQ l).1<=1000000:=Wt za 0;have b2:rz (prQ l).2<=1000000:=Wt za 1;have b3:rz 0<=1000000:=by rw [Zs];exact Nat.zero_le _
  refine apiW hS (Nat.le_refl _) (h l.length la) [a] vals w I K himb hargs hclean ⟨(prQ l).1,(prQ l).2,0,_,b1,b2,b3,rfl,?_,?_⟩
  .show [a]=[sA _ (numL _ 0 1 l.length)];rw [kaj (wax (Nat.le_refl _) b1 b2 b3) (v3_0 _ _ _) (v3_1 _ _ _) la,ea]
  .have e:((((s3 (prQ l).1 (prQ l).2 0).take 2).take l.length).all λa=>Nat.beq a 0)=l.all λq=>decide (q=0):=by
    rcases l with _ | ⟨x,_ | ⟨y,_ | ⟨z,l⟩⟩⟩
    .rfl
    .show(Nat.beq (stW x) 0 && true)=(decide (x=0) && true);rw [qaL]
    .show(Nat.beq (stW x) 0 && (Nat.beq (stW y) 0 && true))=(decide (x=0) && (decide (y=0) && true));rw [qaL,qaL]
    .simp at la
   show K (boolV ((((s3 (prQ l).1 (prQ l).2 0).take 2).take l.length).all λa=>Nat.beq a 0));rw [e];exact hK
def raC(T:Bool):Eng->List AV:=λE=>[towA T]
def rsC(T:Bool):List Nat->Option AV:=λs=>cond (!T || Nat.beq ((s[0]?).getD 4) 1) (some nilV) none
theorem vaX{q:Rat}(h:0<q):stW q=1:=by
 unfold stW;rw [if_neg (by grind),if_pos h]
theorem tow3{b:Nat}{t:AV}{T:Option Rat}{q r:Rat}(hT:decT t=some T)(hb:10000<=b)(hb2:b<=1000000):∃x,rz x<=b/\0<x/\(∀Y,T=some Y->Y=x):=by
 rcases vN hT with⟨rfl,rfl⟩ | ⟨x,rfl,rfl,h1,h2⟩
 .exact⟨1,Nat.le_trans rz_1 (by omega),by decide,nofun⟩
 .exact⟨x,by omega,h1,λY e=>(Option.some.inj e).symm⟩
theorem vaW(hS:Set1 P tab kd N){n f:Nat}(h:∀T,all3 (chk3 tab kd N n f 10000 (raC T) (rsC T))=true):DSound P f (FG .chk):=by
 intro args vals w I K himb hargs hclean ⟨r,hr,hK⟩;match args,hr with
 | [t],hr=>
  rw [show FE .chk [t]=(decT t).map (λ_=>nilV) from rfl,zOM]at hr;obtain⟨T,hT,rfl⟩:=hr;obtain⟨x,b1,hx,hX⟩:=tow3 (b:=10000) (q:=0) (r:=0) hT (Nat.le_refl _) (by decide)
  have b3:rz 0<=10000:=by rw [Zs];exact Nat.zero_le _
  refine apiW hS (by decide) (h T.isSome) [t] vals w I K himb hargs hclean ⟨x,0,0,nilV,b1,b3,b3,?_,?_,hK⟩
  .show cond (!T.isSome || Nat.beq (stW x) 1) (some nilV) none=some nilV
   rw [vaX hx];cases T <;> rfl
  .show [t]=[sA _ (towA T.isSome)];rw [Xad (wax (by decide) b1 b3 b3) hT hX (v3_0 _ _ _)]
def raG(T:Bool)(n:Nat):Eng->List AV:=λE=>[towA T,.one (rowC ([E.mk1 1].take n))]
def sgS(a:Nat):Int:=cond (Nat.beq a 0) 0 (cond (Nat.beq a 1) 1 (-1))
def rsG(T:Bool)(n:Nat):List Nat->Option AV:=λs=>cond ((!T || Nat.beq ((s[0]?).getD 4) 1) && (Nat.beq n 1 || Nat.beq ((s[1]?).getD 4) 0)) (some (.tup [intV (sgS ((s[1]?).getD 4)),nilV])) none
theorem vbg(q:Rat):sgS (stW q)=ordQ q 0:=by
 unfold stW;by_cases h:q=0
 .rw [if_pos h,h];rfl
 .rw [if_neg h];by_cases h' : 0<q
  .rw [if_pos h',Uac h'];rfl
  .rw [if_neg h',Xag (by grind)];rfl
theorem Xau{t a r:AV}{F:Option Rat->List (List Rat)->Option AV}(h:numF t [a] F=some r):∃T l,decT t=some T/\decN 10000 a=some l/\okN T l=true/\F T [l]=some r:=by
 unfold numF at h;split at h
 .rename_i T hT;split at h
  .rename_i ls hls;split at h
   .rename_i hall;simp only [List.mapM_cons,List.mapM_nil,bind,pure,zOB,zOI]at hls;obtain⟨l,ha,ls1,rfl,rfl⟩:=hls;simp only [List.all_cons,List.all_nil,Bool.and_true]at hall;exact⟨T,l,hT,ha,hall,h⟩
   .exact nos h
  .exact nos h
 .exact nos h
theorem jaK(hS:Set1 P tab kd N){n f:Nat}(h:∀T m,m<=1->all3 (chk3 tab kd N n f 10000 (raG T m) (rsG T m))=true):DSound P f (FG .sign):=by
 intro args vals w I K himb hargs hclean ⟨r,hr,hK⟩;match args,hr with
 | [t,a],hr=>
  obtain⟨T,l,hT,hd,ho,hF⟩:=Xau (show numF t [a] (λ_=>fun | [l]=>if (prQ l).2=0 then some (.tup [intV (ordQ (prQ l).1 0),nilV]) else none | _=>none)=some r from hr)
  have hF:(if (prQ l).2=0 then some (AV.tup [intV (ordQ (prQ l).1 0),nilV]) else none)=some r:=hF
  split at hF
  .rename_i hz;cases hF
   obtain⟨ea,la,za⟩:=qp hd;obtain⟨x,b1,hx,hX⟩:=tow3 (b:=10000) (q:=0) (r:=0) hT (Nat.le_refl _) (by decide)
   have b2:rz (prQ l).1<=10000:=Wt za 0;have b3:rz 0<=10000:=by rw [Zs];exact Nat.zero_le _
   have l1:l.length<=1:=by
    rcases l with _ | ⟨p,_ | ⟨q,_ | ⟨s,l⟩⟩⟩
    .exact Nat.zero_le _
    .exact Nat.le_refl _
    .simp only [okN,zBA,decide_eq_true_eq]at ho;exact(ho.2 hz).elim
    .simp at la
   have hE:=wax (r:=0) (show 10000<=1000000 by decide) b1 b2 b3
   refine apiW hS (by decide) (h T.isSome l.length l1) [t,a] vals w I K himb hargs hclean ⟨x,(prQ l).1,0,.tup [intV (ordQ (prQ l).1 0),nilV],b1,b2,b3,?_,?_,hK⟩
   .show cond ((!T.isSome || Nat.beq (stW x) 1) && (Nat.beq l.length 1 || Nat.beq (stW (prQ l).1) 0)) (some (AV.tup [intV (sgS (stW (prQ l).1)),nilV])) none=_
    rw [vaX hx,vbg];have e1:(Nat.beq l.length 1 || Nat.beq (stW (prQ l).1) 0)=true:=by
     rcases l with _ | ⟨p,_ | ⟨q,l⟩⟩
     .show(Nat.beq 0 1 || Nat.beq (stW 0) 0)=true
      rw [qaL];rfl
     .rfl
     .simp at l1
    rw [e1];cases T <;> rfl
   .show [t,a]=[sA _ (towA T.isSome),.one (sC _ (rowC ([(E3 10000 (s3 x (prQ l).1 0)).mk1 1].take l.length)))];rw [Xad hE hT hX (v3_0 _ _ _),Vy,List.map_take];have e2:(List.map (λs=>(vS (v3 x (prQ l).1 0) s).1) [(E3 10000 (s3 x (prQ l).1 0)).mk1 1]).take l.length=l:=by
     rw [List.map_cons,List.map_nil,wd hE,v3_1];rcases l with _ | ⟨p,_ | ⟨q,l⟩⟩
     .rfl
     .rfl
     .simp at l1
    rw [e2,ea]
  .exact nos hF
def raX:Eng->List AV:=λE=>[.agg [.slice []],.one (rowC [E.mk1 0])]
def rsX:List Nat->Option AV:=λs=>cond (Nat.beq ((s[0]?).getD 4) 1) (some (.tup [.agg [.slice [[rowC [some 0]]]],.one (rowC [none,some 3]),nilV])) none
theorem ka2(hS:Set1 P tab kd N){n f:Nat}(h:all3 (chk3 tab kd N n f 10000 raX rsX)=true):DSound P f (FG .ext):=by
 intro args vals w I K himb hargs hclean ⟨r,hr,hK⟩;have key:∃a x,args=[.agg [.slice []],a]/\decN 10000 a=some [x]/\0<x/\r=.tup [.agg [.slice [[rowQC [x]]]],.one (rowQC [0,1]),nilV]:=by
  unfold FE at hr;split at hr;all_goals first
   | (rename_i h;cases h;done)
   | focus
     rename_i a;split at hr
     .rename_i x hd;split at hr
      .rename_i hx;cases hr
       exact⟨_,_,rfl,hd,hx,rfl⟩
      .exact nos hr
     .exact nos hr
   | exact nos hr
 obtain⟨a,x,rfl,hd,hx,rfl⟩:=key;obtain⟨ea,la,za⟩:=qp hd;have b1:rz x<=10000:=za x (by simp)
 have b3:rz 0<=10000:=by rw [Zs];exact Nat.zero_le _
 have hE:=wax (q:=0) (r:=0) (show 10000<=1000000 by decide) b1 b3 b3
 refine apiW hS (by decide) h _ vals w I K himb hargs hclean ⟨x,0,0,.tup [.agg [.slice [[rowC [some 0]]]],.one (rowC [none,some 3]),nilV],b1,b3,b3,?_,?_,?_⟩
 .show cond (Nat.beq (stW x) 1) _ none=_;rw [vaX hx];rfl
 .show [AV.agg [.slice []],a]=[.agg [.slice []],.one (sC _ (rowC [(E3 10000 (s3 x 0 0)).mk1 0]))];rw [Vy,List.map_cons,List.map_nil,wd hE,v3_0,ea]
 .have e:sA (thE (v3 x 0 0)) (.tup [.agg [.slice [[rowC [some 0]]]],.one (rowC [none,some 3]),nilV])=.tup [.agg [.slice [[rowQC [x]]]],.one (rowQC [0,1]),nilV]:=by
   show AV.tup [.agg [.slice [[sC _ (rowC [some 0])]]],.one (sC _ (rowC [none,some 3])),nilV]=_;rw [Vy,Vy];show AV.tup [.agg [.slice [[rowQC [(v3 x 0 0 0).1]]]],.one (rowQC [0,(v3 x 0 0 3).1]),nilV]=_;rw [v3_0,v3_3]
  rw [e];exact hK
end
end Go.Abs
end
