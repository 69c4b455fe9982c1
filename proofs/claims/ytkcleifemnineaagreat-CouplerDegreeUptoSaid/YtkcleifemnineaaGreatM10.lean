/-
  Parts of the proof, merged: CoupA, CoupB, CoupC, CoupD, CoupE, CoupF, CoupG, CoupI, IntC, IntD, IntE.
-/
import Derived.Test.YtkcleifemnineaaGreatM9
set_option linter.unusedVariables false
set_option linter.unusedSimpArgs false
section
set_option linter.unusedVariables false
set_option linter.unusedSimpArgs false
set_option maxRecDepth 100000
namespace Go.Num
open Go.Abs
theorem mcs_inj {p q:BQ} (h:mcs p=mcs q):p=q:=by rw [←mvs_mcs p,h,mvs_mcs]
theorem mcs_rl {p:BQ} {N:Nat} (h:sz p≤N):∀t∈mcs p,rl t.2.2≤N:=fun t ht=>by
 obtain ⟨u,hu,rfl⟩:=List.mem_map.1 ht
 have h1:=rz_sz hu
 have h2:rl (mcan u).2.2=rz u.2.2:=rfl
 omega
theorem chk2_can {p q:BQ} (hp:Canon p) (hq:Canon q):chk2 (mcs p) (mcs q)=0:=by unfold chk2;rw [chk_canon hp,if_neg (by decide),chk_canon hq]
theorem mulC_can {p q:BQ} (hp:Canon p) (hq:Canon q) (hd:degB p+degB q≤24):mulC (mcs p) (mcs q)=0:=by
 unfold mulC;rw [chk2_can hp hq,if_neg (by decide),degM_mcs,degM_mcs,if_neg (by omega)]
theorem degB_le {p:BQ} (hp:Canon p) {d:Nat} (hd:Deg d p):degB p≤d:=by
 unfold degB
 cases hl:p.getLast? with
 | none=>simp only;omega
 | some u=>exact hd u (List.mem_of_getLast? hl)
theorem PB.dd {d s e t:Nat} {p q:BQ} (hp:PB d s p) (hq:PB e t q) (h:d+e≤24):degB p+degB q≤24:=by
 have h1:=degB_le hp.canon hp.deg
 have h2:=degB_le hq.canon hq.deg
 omega
theorem canon_add {p q:BQ} (hp:Canon p) (hq:Canon q):Canon (addB p q):=nf_canon (InQ_append.2 ⟨hp.ins,hq.ins⟩)
theorem canon_sub {p q:BQ} (hp:Canon p) (hq:Canon q):Canon (subB p q):=nf_canon (InQ_append.2 ⟨hp.ins,sclL_in hq.ins⟩)
theorem canon_scl {p:BQ} (c:Rat) (hp:Canon p):Canon (sclB c p):=nf_canon (sclL_in hp.ins)
theorem canon_mul {p q:BQ} (hp:Canon p) (hq:Canon q) (hd:degB p+degB q≤24):Canon (mulB p q):=by
 refine nf_canon fun t ht=>?_
 obtain ⟨a,ha,hb⟩:=List.mem_flatMap.1 ht
 obtain ⟨b,hb',rfl⟩:=List.mem_map.1 hb
 obtain ⟨x1,x2,x3⟩:=hp.ins a ha
 obtain ⟨y1,y2,y3⟩:=hq.ins b hb'
 have h1:=canon_deg hp a ha
 have h2:=canon_deg hq b hb'
 unfold inQ mulT
 simp only
 omega
theorem mk_lin (b:Bool) (c:Rat):mkC [((if b then 0 else 1:Int),(if b then 1 else 0:Int),rcan 1),(0,0,rcan c)]=0:=by
 have v1:vldR (rcan 1)=true:=vld_rcan _
 have v2:vldR (rcan c)=true:=vld_rcan _
 unfold mkC
 rw [if_neg (by simp)]
 cases b <;> simp [mkG,mkT,inM,v1,v2]
theorem nf_lin (b:Bool) (c:Rat):nf (([((if b then 0 else 1:Int),(if b then 1 else 0:Int),rcan 1),(0,0,rcan (-c))]:List Mo).map mv)=linB b c:=by
 unfold linB
 simp only [List.map_cons,List.map_nil,mv,rv_rcan]
theorem nf_con (x:R):nf (([(0,0,x)]:List Mo).map mv)=conB (rv x):=rfl
theorem mk_con {x:R} (h:vldR x=true):mkC [(0,0,x)]=0:=by
 unfold mkC
 rw [if_neg (by simp)]
 simp [mkG,mkT,inM,h]
end Go.Num
namespace Go.Abs
open Go.Num
variable {P:Program} {Γ:Nat→Spec}
def bC (p:BQ):C:=.slice ((mcs p).map mC)
def onB (k:BQ→Prop) (a:AV):Prop:=∃p,a=.one (bC p)∧Canon p∧k p
@[congr] theorem onB_cg {k:BQ→Prop} {a a' : AV} (h:a=a'):onB k a=onB k a':=by subst h;rfl
theorem bC_inj {p q:BQ} (h:bC p=bC q):p=q:=by
 simp only [bC,C.slice.injEq]at h
 exact mcs_inj (map_mC_inj h)
theorem onB_b (k:BQ→Prop) (p:BQ):onB k (.one (bC p))=(Canon p∧k p):=by
 refine propext ⟨fun ⟨x,h,h1,h2⟩=>?_,fun h=>⟨p,rfl,h⟩⟩
 simp only [AV.one.injEq]at h
 have:=bC_inj h;subst this;exact ⟨h1,h2⟩
theorem onB_e (k:BQ→Prop) (p:BQ):onB k (.one (.slice ((mcs p).map mC)))=(Canon p∧k p):=onB_b k p
theorem g_onB {β:Type} {T:BQ→(β→Prop)→Prop} (h:∀p,GoodT (T p)) {a:AV}:GoodT fun K=>onB (fun p=>T p K) a:=
 .of fun K hx=>by
  obtain ⟨p,rfl,hc,hk⟩:=hx
  have:(fun K=>onB (fun p=>T p K) (.one (bC p)))=fun K=>Canon p∧T p K:=funext fun K=>onB_b _ p
  rw [this];exact .and fun _=>h p
def onV (k:BQ×BQ→Prop) (a:AV):Prop:=∃p q,a=.agg [bC p,bC q]∧(Canon p∧Canon q)∧k (p,q)
@[congr] theorem onV_cg {k:BQ×BQ→Prop} {a a' : AV} (h:a=a'):onV k a=onV k a':=by subst h;rfl
theorem onV_b (k:BQ×BQ→Prop) (p q:BQ):onV k (.agg [bC p,bC q])=((Canon p∧Canon q)∧k (p,q)):=by
 refine propext ⟨fun ⟨x,y,h,h1,h2⟩=>?_,fun h=>⟨p,q,rfl,h⟩⟩
 simp only [AV.agg.injEq,List.cons.injEq,and_true]at h
 obtain ⟨e1,e2⟩:=h
 have:=bC_inj e1;have:=bC_inj e2
 subst_vars;exact ⟨h1,h2⟩
theorem onV_e (k:BQ×BQ→Prop) (p q:BQ):onV k (.agg [.slice ((mcs p).map mC),.slice ((mcs q).map mC)])=((Canon p∧Canon q)∧k (p,q)):=onV_b k p q
theorem g_onV {β:Type} {T:BQ×BQ→(β→Prop)→Prop} (h:∀p,GoodT (T p)) {a:AV}:GoodT fun K=>onV (fun p=>T p K) a:=
 .of fun K hx=>by
  obtain ⟨p,q,rfl,hc,hk⟩:=hx
  have:(fun K=>onV (fun p=>T p K) (.agg [bC p,bC q]))=fun K=>(Canon p∧Canon q)∧T (p,q) K:=funext fun K=>onV_b _ p q
  rw [this];exact .and fun _=>h (p,q)
theorem bC_eq (p:BQ):bC p=.slice ((mcs p).map mC):=eq_of_heq (HEq.refl _)
attribute [go_sem] onB_e onV_e bC_eq
attribute [go_sem ↓] onB_e onV_e bC_eq
def ctake_G (l:List AV) (K:AV→Prop):Prop:=
 match l with
 | [p,e]=>e=.one (.lit .nilIface)∧onB (fun p=>K (.one (bC p))) p
 | _=>False
theorem ctake_Ge (p e:AV) (K:AV→Prop):ctake_G [p,e] K=(e=.one (.lit .nilIface)∧onB (fun p=>K (.one (bC p))) p):=propext Iff.rfl
@[congr] theorem ctake_Gc {K:AV→Prop} {l l' : List AV} (h:l=l'):ctake_G l K=ctake_G l' K:=by subst h;rfl
attribute [go_sem] ctake_Ge
attribute [go_sem ↓] ctake_Ge
theorem ctake_good:Good ctake_G:=good_of fun as=>by
 unfold ctake_G
 split
 ·exact (.and fun _=>(g_onB fun _=>(.ret _)))
 ·exact .of fun K hk=>hk.elim
def cadd_G (l:List AV) (K:AV→Prop):Prop:=
 match l with
 | [a,b]=>onB (fun p=>onB (fun q=>sz p+sz q≤1000000000∧K (.one (bC (addB p q)))) b) a
 | _=>False
theorem cadd_Ge (a b:AV) (K:AV→Prop):cadd_G [a,b] K=(onB (fun p=>onB (fun q=>sz p+sz q≤1000000000∧K (.one (bC (addB p q)))) b) a):=propext Iff.rfl
@[congr] theorem cadd_Gc {K:AV→Prop} {l l' : List AV} (h:l=l'):cadd_G l K=cadd_G l' K:=by subst h;rfl
attribute [go_sem] cadd_Ge
attribute [go_sem ↓] cadd_Ge
theorem cadd_good:Good cadd_G:=good_of fun as=>by
 unfold cadd_G
 split
 ·exact (g_onB fun _=>(g_onB fun _=>(.and fun _=>(.ret _))))
 ·exact .of fun K hk=>hk.elim
def csub_G (l:List AV) (K:AV→Prop):Prop:=
 match l with
 | [a,b]=>onB (fun p=>onB (fun q=>sz p+sz q≤1000000000∧K (.one (bC (subB p q)))) b) a
 | _=>False
theorem csub_Ge (a b:AV) (K:AV→Prop):csub_G [a,b] K=(onB (fun p=>onB (fun q=>sz p+sz q≤1000000000∧K (.one (bC (subB p q)))) b) a):=propext Iff.rfl
@[congr] theorem csub_Gc {K:AV→Prop} {l l' : List AV} (h:l=l'):csub_G l K=csub_G l' K:=by subst h;rfl
attribute [go_sem] csub_Ge
attribute [go_sem ↓] csub_Ge
theorem csub_good:Good csub_G:=good_of fun as=>by
 unfold csub_G
 split
 ·exact (g_onB fun _=>(g_onB fun _=>(.and fun _=>(.ret _))))
 ·exact .of fun K hk=>hk.elim
def cmul_G (l:List AV) (K:AV→Prop):Prop:=
 match l with
 | [a,b]=>onB (fun p=>onB (fun q=>sz p+sz q≤3000000∧degB p+degB q≤24∧K (.one (bC (mulB p q)))) b) a
 | _=>False
theorem cmul_Ge (a b:AV) (K:AV→Prop):cmul_G [a,b] K=(onB (fun p=>onB (fun q=>sz p+sz q≤3000000∧degB p+degB q≤24∧K (.one (bC (mulB p q)))) b) a):=propext Iff.rfl
@[congr] theorem cmul_Gc {K:AV→Prop} {l l' : List AV} (h:l=l'):cmul_G l K=cmul_G l' K:=by subst h;rfl
attribute [go_sem] cmul_Ge
attribute [go_sem ↓] cmul_Ge
theorem cmul_good:Good cmul_G:=good_of fun as=>by
 unfold cmul_G
 split
 ·exact (g_onB fun _=>(g_onB fun _=>(.and fun _=>(.and fun _=>(.ret _)))))
 ·exact .of fun K hk=>hk.elim
def cscale_G (l:List AV) (K:AV→Prop):Prop:=
 match l with
 | [a,x]=>onB (fun p=>onR (fun x=>rl x≤1000000∧sz p≤100000000∧K (.one (bC (sclB (rv x) p)))) x) a
 | _=>False
theorem cscale_Ge (a x:AV) (K:AV→Prop):cscale_G [a,x] K=(onB (fun p=>onR (fun x=>rl x≤1000000∧sz p≤100000000∧K (.one (bC (sclB (rv x) p)))) x) a):=propext Iff.rfl
@[congr] theorem cscale_Gc {K:AV→Prop} {l l' : List AV} (h:l=l'):cscale_G l K=cscale_G l' K:=by subst h;rfl
attribute [go_sem] cscale_Ge
attribute [go_sem ↓] cscale_Ge
theorem cscale_good:Good cscale_G:=good_of fun as=>by
 unfold cscale_G
 split
 ·exact (g_onB fun _=>(g_onR fun _=>(.and fun _=>(.and fun _=>(.ret _)))))
 ·exact .of fun K hk=>hk.elim
def clin_G (l:List AV) (K:AV→Prop):Prop:=
 match l with
 | [b,x]=>asBool (fun b=>onR (fun x=>rl x≤1000000∧K (.one (bC (linB b (rv x))))) x) b
 | _=>False
theorem clin_Ge (b x:AV) (K:AV→Prop):clin_G [b,x] K=(asBool (fun b=>onR (fun x=>rl x≤1000000∧K (.one (bC (linB b (rv x))))) x) b):=propext Iff.rfl
@[congr] theorem clin_Gc {K:AV→Prop} {l l' : List AV} (h:l=l'):clin_G l K=clin_G l' K:=by subst h;rfl
attribute [go_sem] clin_Ge
attribute [go_sem ↓] clin_Ge
theorem clin_good:Good clin_G:=good_of fun as=>by
 unfold clin_G
 split
 ·exact (g_asBool (fun _=>(g_onR fun _=>(.and fun _=>(.ret _)))) _)
 ·exact .of fun K hk=>hk.elim
def ccon_G (l:List AV) (K:AV→Prop):Prop:=
 match l with
 | [x]=>onR (fun x=>rl x≤1000000∧vldR x=true∧K (.one (bC (conB (rv x))))) x
 | _=>False
theorem ccon_Ge (x:AV) (K:AV→Prop):ccon_G [x] K=(onR (fun x=>rl x≤1000000∧vldR x=true∧K (.one (bC (conB (rv x))))) x):=propext Iff.rfl
@[congr] theorem ccon_Gc {K:AV→Prop} {l l' : List AV} (h:l=l'):ccon_G l K=ccon_G l' K:=by subst h;rfl
attribute [go_sem] ccon_Ge
attribute [go_sem ↓] ccon_Ge
theorem ccon_good:Good ccon_G:=good_of fun as=>by
 unfold ccon_G
 split
 ·exact (g_onR fun _=>(.and fun _=>(.and fun _=>(.ret _))))
 ·exact .of fun K hk=>hk.elim
def ac___coupler_maker__take:AC:=(.seq (.ops false [.m 6 (.c (.one .emp))])
 (.fg [0,1,2] (.seq (.seq (.ops false [.m 7 (.t 0),.u 8 (.nilck (.t 7)),.u 9 (.fa 0 (.t 8)),.u 10 (.ld none 1 false (.t 9)),.u 11 (.binn .eql (.t 10) (.c (.one (.lit .nilIface))))])
 (.fg [0,1,2,11] (.cond (.t 11) (.ops false [.m 12 (.t 0),.m 13 (.t 2),.u 14 (.nilck (.t 12)),.u 15 (.fa 0 (.t 14)),.n (.st none 1 (.t 15) (.t 13))]) .skip)))
 (.fg [1] (.seq (.ops false [.m 16 (.t 1),.m 6 (.t 16)])
 .ret)))))
def ac___coupler_maker__add (f0 f1:Nat):AC:=(.seq (.ops false [.m 6 (.c (.one .emp))])
 (.fg [0,1,2] (.seq (.ops false [.m 7 (.t 0),.m 8 (.t 1),.m 9 (.t 2),.u 10 (.call f0 [(.t 8),(.t 9)]),.u 11 (.ext 0 (.t 10)),.u 12 (.ext 1 (.t 10)),.u 13 (.callr f1 [(.t 7),(.t 11),(.t 12)]),.m 6 (.t 13)])
 .ret)))
def ac___coupler_maker__sub (f0 f1:Nat):AC:=(.seq (.ops false [.m 6 (.c (.one .emp))])
 (.fg [0,1,2] (.seq (.ops false [.m 7 (.t 0),.m 8 (.t 1),.m 9 (.t 2),.u 10 (.call f0 [(.t 8),(.t 9)]),.u 11 (.ext 0 (.t 10)),.u 12 (.ext 1 (.t 10)),.u 13 (.callr f1 [(.t 7),(.t 11),(.t 12)]),.m 6 (.t 13)])
 .ret)))
def ac___coupler_maker__mul (f0 f1:Nat):AC:=(.seq (.ops false [.m 6 (.c (.one .emp))])
 (.fg [0,1,2] (.seq (.ops false [.m 7 (.t 0),.m 8 (.t 1),.m 9 (.t 2),.u 10 (.call f0 [(.t 8),(.t 9)]),.u 11 (.ext 0 (.t 10)),.u 12 (.ext 1 (.t 10)),.u 13 (.callr f1 [(.t 7),(.t 11),(.t 12)]),.m 6 (.t 13)])
 .ret)))
def ac___coupler_maker__scale (f0 f1:Nat):AC:=(.seq (.ops false [.u 5 (.box 3 (.t 2)),.m 6 (.c (.one .emp))])
 (.fg [0,1,5] (.seq (.ops false [.m 7 (.t 0),.m 8 (.t 1),.u 9 (.ld none 3 true (.t 5)),.u 10 (.call f0 [(.t 8),(.t 9)]),.u 11 (.ext 0 (.t 10)),.u 12 (.ext 1 (.t 10)),.u 13 (.callr f1 [(.t 7),(.t 11),(.t 12)]),.m 6 (.t 13)])
 .ret)))
def ac___coupler_maker__linear (f0 f1 f2 f3:Nat):AC:=(.seq (.ops false [.u 5 (.box 3 (.t 2)),.m 6 (.c (.one .emp))])
 (.fg [0,1,5] (.seq (.ops false [.u 8 (.call f0 [(.i 1)]),.u 9 (.build [.x 1 (.i 1),.z [(.lit (.int .i64 0))],.x 3 (.t 8)]),.u 7 (.alloc [(.lit (.int .i64 0)),(.lit (.int .i64 0)),(.lit (.bool false)),.emp,.emp]),.n (.st none 5 (.t 7) (.t 9))])
 (.fg [0,1,5,7] (.seq (.seq (.ops false [.m 10 (.t 1)])
 (.fg [0,5,7,10] (.cond (.t 10) (.ops false [.u 11 (.fa 0 (.t 7)),.n (.st none 1 (.t 11) (.i 0)),.u 12 (.fa 1 (.t 7)),.n (.st none 1 (.t 12) (.i 1))]) .skip)))
 (.fg [0,5,7] (.seq (.ops true [.m 13 (.t 0),.u 14 (.ld none 5 true (.t 7)),.u 15 (.ld none 3 true (.t 5)),.u 16 (.call f1 [(.t 15)]),.u 17 (.build [.z [(.lit (.int .i64 0)),(.lit (.int .i64 0))],.x 3 (.t 16)]),.u 18 (.row 5 [[.x 5 (.t 14)],[.x 5 (.t 17)]]),.u 19 (.call f2 [(.t 18)]),.u 20 (.ext 0 (.t 19)),.u 21 (.ext 1 (.t 19)),.u 22 (.callr f3 [(.t 13),(.t 20),(.t 21)]),.m 6 (.t 22)])
 .ret)))))))
def ac___coupler_maker__constant (f0 f1:Nat):AC:=(.seq (.ops false [.u 3 (.box 3 (.t 1)),.m 4 (.c (.one .emp))])
 (.fg [0,3] (.seq (.ops false [.m 5 (.t 0),.u 6 (.ld none 3 true (.t 3)),.u 7 (.build [.z [(.lit (.int .i64 0)),(.lit (.int .i64 0))],.x 3 (.t 6)]),.u 8 (.row 5 [[.x 5 (.t 7)]]),.u 9 (.call f0 [(.t 8)]),.u 10 (.ext 0 (.t 9)),.u 11 (.ext 1 (.t 9)),.u 12 (.callr f1 [(.t 5),(.t 10),(.t 11)]),.m 4 (.t 12)])
 .ret)))
theorem back_h {h:Nat→HB} {r ver:Nat} (hr:h r=⟨ver,some mk0⟩):upd h r ⟨ver,some ⟨[[.lit .nilIface]],1,true⟩⟩=h:=upd_self hr
theorem ctake_sound (hΓ:Holds P Γ) {f:Nat} (hc:check P f=some (17,ac___coupler_maker__take.strip,[.tmp 6])):Sound P f (.red ctake_G):=by
 refine sound_red hc ctake_good hΓ (fun rest h r ver K hr hcl hfi hG=>?_)
 match rest,hG with
 | [a,b],hG=>
  obtain ⟨rfl,p,rfl,hp,hK⟩:=hG
  refine ⟨by simp,?_⟩
  simp only [go_sem,ac___coupler_maker__take,hr]
  rw [back_h hr]
  exact hK
theorem cadd_sound (hΓ:Holds P Γ) {f fa ft tE:Nat} (ha:Γ fa=.dat false (badd_G tE)) (ht:Γ ft=.red ctake_G) (hc:check P f=some (14,(ac___coupler_maker__add fa ft).strip,[.tmp 6])):Sound P f (.red cadd_G):=by
 refine sound_red hc cadd_good hΓ (fun rest h r ver K hr hcl hfi hG=>?_)
 match rest,hG with
 | [a,b],hG=>
  obtain ⟨p,rfl,hp,q,rfl,hq,hsz,hK⟩:=hG
  refine ⟨by simp,?_⟩
  have hc0:=chk2_can hp hq
  have hrp:=mcs_rl (p:=p) (N:=4294967296) (by omega)
  have hrq:=mcs_rl (p:=q) (N:=4294967296) (by omega)
  simp only [go_sem,ac___coupler_maker__add,hr,ha,ht,hc0,mvs_mcs,bres_0,errV_0]
  refine ⟨WLM_mcs hp.ins,WLM_mcs hq.ins,hrp,hrq,hsz,canon_add hp hq,?_⟩
  rw [back_h hr]
  exact hK
theorem csub_sound (hΓ:Holds P Γ) {f fa ft tE:Nat} (ha:Γ fa=.dat false (bsub_G tE)) (ht:Γ ft=.red ctake_G) (hc:check P f=some (14,(ac___coupler_maker__sub fa ft).strip,[.tmp 6])):Sound P f (.red csub_G):=by
 refine sound_red hc csub_good hΓ (fun rest h r ver K hr hcl hfi hG=>?_)
 match rest,hG with
 | [a,b],hG=>
  obtain ⟨p,rfl,hp,q,rfl,hq,hsz,hK⟩:=hG
  refine ⟨by simp,?_⟩
  have hc0:=chk2_can hp hq
  have hrp:=mcs_rl (p:=p) (N:=1000000000) (by omega)
  have hrq:=mcs_rl (p:=q) (N:=1000000000) (by omega)
  simp only [go_sem,ac___coupler_maker__sub,hr,ha,ht,hc0,mvs_mcs,bres_0,errV_0]
  refine ⟨WLM_mcs hp.ins,WLM_mcs hq.ins,hrp,hrq,hsz,canon_sub hp hq,?_⟩
  rw [back_h hr]
  exact hK
theorem cmul_sound (hΓ:Holds P Γ) {f fa ft tE:Nat} (ha:Γ fa=.dat false (bmul_G tE)) (ht:Γ ft=.red ctake_G) (hc:check P f=some (14,(ac___coupler_maker__mul fa ft).strip,[.tmp 6])):Sound P f (.red cmul_G):=by
 refine sound_red hc cmul_good hΓ (fun rest h r ver K hr hcl hfi hG=>?_)
 match rest,hG with
 | [a,b],hG=>
  obtain ⟨p,rfl,hp,q,rfl,hq,hsz,hd,hK⟩:=hG
  refine ⟨by simp,?_⟩
  have hc0:=mulC_can hp hq hd
  have hrp:=mcs_rl (p:=p) (N:=1000000000) (by omega)
  have hrq:=mcs_rl (p:=q) (N:=1000000000) (by omega)
  simp only [go_sem,ac___coupler_maker__mul,hr,ha,ht,hc0,mvs_mcs,bres_0,errV_0]
  refine ⟨WLM_mcs hp.ins,WLM_mcs hq.ins,hrp,hrq,hsz,canon_mul hp hq hd,?_⟩
  rw [back_h hr]
  exact hK
theorem cscale_sound (hΓ:Holds P Γ) {f fa ft tE:Nat} (ha:Γ fa=.dat false (bscale_G tE)) (ht:Γ ft=.red ctake_G) (hc:check P f=some (14,(ac___coupler_maker__scale fa ft).strip,[.tmp 6])):Sound P f (.red cscale_G):=by
 refine sound_red hc cscale_good hΓ (fun rest h r ver K hr hcl hfi hG=>?_)
 match rest,hG with
 | [a,b],hG=>
  obtain ⟨p,rfl,hp,x,rfl,hwx,hx,hsz,hK⟩:=hG
  refine ⟨by simp,?_⟩
  have hc0:=chk_canon hp
  have hrp:=mcs_rl (p:=p) (N:=1000000000) (by omega)
  simp only [go_sem,ac___coupler_maker__scale,hr,ha,ht,hc0,mvs_mcs,bres_0,errV_0,rA]
  refine ⟨WLM_mcs hp.ins,hwx,hrp,hx,hsz,canon_scl _ hp,?_⟩
  rw [back_h hr]
  exact hK
theorem clin_sound (hΓ:Holds P Γ) {f fo fn fm ft tE:Nat} (ho:Γ fo=.dat false rof_G) (hn:Γ fn=.dat false rneg_G) (hm:Γ fm=.dat false (bmake_G tE)) (ht:Γ ft=.red ctake_G) (hc:check P f=some (23,(ac___coupler_maker__linear fo fn fm ft).strip,[.tmp 6])):Sound P f (.red clin_G):=by
 refine sound_red hc clin_good hΓ (fun rest h r ver K hr hcl hfi hG=>?_)
 match rest,hG with
 | [a,b],hG=>
  obtain ⟨y,rfl,x,rfl,hwx,hx,hK⟩:=asBool_inv hG
  refine ⟨by simp,?_⟩
  have hz:=rz_rv hwx
  have hz2:=rz_neg (rv x)
  have z1:=rz_1
  have hcl0:=(PB.lin y (rv x)).canon
  cases y with
  | false=>
   simp only [go_sem,ac___coupler_maker__linear,hr,ho,hn,hm,ht,rA,rone1]
   refine ⟨by decide,by decide,hwx,by omega,?_⟩
   change onMs _ (.one (.slice (List.map mC [((if false then 0 else 1:Int),(if false then 1 else 0:Int),rcan 1),(0,0,rcan (-rv x))])))
   rw [onMs_e,mk_lin false (-rv x),errV_0,bres_0,nf_lin false (rv x),onB_e,back_h hr]
   refine ⟨fun t ht=>?_,fun t ht=>?_,?_,rfl,rfl,hcl0,hK⟩
   ·simp only [List.mem_cons,List.not_mem_nil,or_false]at ht
    rcases ht with rfl | rfl
    ·exact ⟨by simp [i64r],by simp [i64r],WLR_rcan _⟩
    ·exact ⟨by simp [i64r],by simp [i64r],WLR_rcan _⟩
   ·simp only [List.mem_cons,List.not_mem_nil,or_false]at ht
    rcases ht with rfl | rfl
    ·have e:rl (rcan 1)=rz 1:=rfl
     simp only;omega
    ·have e:rl (rcan (-rv x))=rz (-rv x):=rfl
     simp only;omega
   ·simp only [List.map_cons,List.map_nil,mv,rv_rcan,sz];omega
  | true=>
   simp only [go_sem,ac___coupler_maker__linear,hr,ho,hn,hm,ht,rA,rone1]
   refine ⟨by decide,by decide,hwx,by omega,?_⟩
   change onMs _ (.one (.slice (List.map mC [((if true then 0 else 1:Int),(if true then 1 else 0:Int),rcan 1),(0,0,rcan (-rv x))])))
   rw [onMs_e,mk_lin true (-rv x),errV_0,bres_0,nf_lin true (rv x),onB_e,back_h hr]
   refine ⟨fun t ht=>?_,fun t ht=>?_,?_,rfl,rfl,hcl0,hK⟩
   ·simp only [List.mem_cons,List.not_mem_nil,or_false]at ht
    rcases ht with rfl | rfl
    ·exact ⟨by simp [i64r],by simp [i64r],WLR_rcan _⟩
    ·exact ⟨by simp [i64r],by simp [i64r],WLR_rcan _⟩
   ·simp only [List.mem_cons,List.not_mem_nil,or_false]at ht
    rcases ht with rfl | rfl
    ·have e:rl (rcan 1)=rz 1:=rfl
     simp only;omega
    ·have e:rl (rcan (-rv x))=rz (-rv x):=rfl
     simp only;omega
   ·simp only [List.map_cons,List.map_nil,mv,rv_rcan,sz];omega
theorem ccon_sound (hΓ:Holds P Γ) {f fm ft tE:Nat} (hm:Γ fm=.dat false (bmake_G tE)) (ht:Γ ft=.red ctake_G) (hc:check P f=some (13,(ac___coupler_maker__constant fm ft).strip,[.tmp 4])):Sound P f (.red ccon_G):=by
 refine sound_red hc ccon_good hΓ (fun rest h r ver K hr hcl hfi hG=>?_)
 match rest,hG with
 | [a],hG=>
  obtain ⟨x,rfl,hwx,hx,hv,hK⟩:=hG
  refine ⟨by simp,?_⟩
  have hz:=rz_rv hwx
  have hmk:=mk_con hv
  simp only [go_sem,ac___coupler_maker__constant,hr,hm,ht,rA]
  have hcl0:=(PB.con (rv x)).canon
  change onMs _ (.one (.slice (List.map mC [(0,0,x)])))
  rw [onMs_e,hmk,errV_0,bres_0,nf_con,onB_e,back_h hr]
  refine ⟨fun t ht=>?_,fun t ht=>?_,?_,rfl,rfl,hcl0,hK⟩
  ·rw [List.mem_singleton.1 ht];exact ⟨by simp [i64r],by simp [i64r],hwx⟩
  ·rw [List.mem_singleton.1 ht];simp only;omega
  ·simp only [List.map_cons,List.map_nil,mv,sz];omega
end Go.Abs
end
section
set_option linter.unusedVariables false
set_option linter.unusedSimpArgs false
set_option maxRecDepth 100000
namespace Go.Num
open Go.Abs
def cps3 (c:Cp):List R:=[c.2.2.1,c.2.2.2.1,c.2.2.2.2.1]
def cps5 (c:Cp):List R:=[c.2.2.1,c.2.2.2.1,c.2.2.2.2.1,c.2.2.2.2.2.1,c.2.2.2.2.2.2]
def gt0R (x:R):Bool:=decide (0<rv x)
def cchk (c:Cp):Nat:=if avld c.1=false∨avld c.2.1=false then 2 else if (cps5 c).all vldR=false then 2 else if (cps3 c).all gt0R=false then 3 else if av c.1=av c.2.1 then 8 else 0
def cpv (c:Cp):CpR:=(av c.1,av c.2.1,rv c.2.2.1,rv c.2.2.2.1,rv c.2.2.2.2.1,rv c.2.2.2.2.2.1,rv c.2.2.2.2.2.2)
def cchk2 (c:Cp) (l:List Arc):Nat:=if cchk c≠0 then cchk c else if l.all avld=false then 2 else 0
theorem cb_cpv {c:Cp} (hw:WLC c) (hl:cl c≤1000):CB (cpv c):=by
 obtain ⟨wo,wq,w1,w2,w3,w4,w5⟩:=hw
 unfold cl at hl
 simp only [Nat.max_le]at hl
 obtain ⟨l1,l2,l3,l4,l5,l6,l7⟩:=hl
 have o:=av_le wo
 have q:=av_le wq
 have o1:rz (av c.1).1≤zq (av c.1):=Nat.le_max_left _ _
 have o2:rz (av c.1).2≤zq (av c.1):=Nat.le_max_right _ _
 have q1:rz (av c.2.1).1≤zq (av c.2.1):=Nat.le_max_left _ _
 have q2:rz (av c.2.1).2≤zq (av c.2.1):=Nat.le_max_right _ _
 exact ⟨by show rz (av c.1).1≤1000;omega,by show rz (av c.1).2≤1000;omega,by show rz (av c.2.1).1≤1000;omega,by show rz (av c.2.1).2≤1000;omega,
  Nat.le_trans (rz_rv w1) l3,Nat.le_trans (rz_rv w2) l4,Nat.le_trans (rz_rv w3) l5,Nat.le_trans (rz_rv w4) l6,Nat.le_trans (rz_rv w5) l7⟩
theorem ordQ_0le (x:Rat):(ordQ x 0≤0)=(¬0<x):=by
 unfold ordQ
 refine propext ⟨fun h h1=>?_,fun h=>?_⟩
 ·rw [if_neg (by grind),if_pos h1]at h
  exact absurd h (by decide)
 ·by_cases h1:x<0
  ·rw [if_pos h1];decide
  ·rw [if_neg h1,if_neg h];decide
end Go.Num
namespace Go.Abs
open Go.Num
variable {P:Program} {Γ:Nat→Spec}
theorem clean27 (c:Cp):CleanR [cpC c]:=fun e he x hx=>by
 rw [List.mem_singleton]at he
 subst he
 simp only [cpC,List.mem_cons,List.not_mem_nil,or_false]at hx
 rcases hx with rfl | rfl | rfl | rfl | rfl | rfl | rfl | rfl | rfl | rfl | rfl | rfl | rfl | rfl | rfl | rfl | rfl | rfl | rfl | rfl | rfl | rfl | rfl | rfl | rfl | rfl | rfl
 all_goals first | exact of_eq_true (clean_cb _) | exact of_eq_true (clean_cn _) | exact of_eq_true (clean_cd _)
theorem okB_cp {h h' : Nat→HB} {z:Nat} {b:Bool} {e:List C} {c:Cp} (he:e=cpC c):okB h h' (some ⟨[e],z,b⟩) (some ⟨[cpC c],z,b⟩):=by
 subst he;exact okB_c (clean27 c)
def csq2_G (l:List AV) (K:AV→Prop):Prop:=
 match l with
 | [a,b]=>onR (fun x=>onR (fun y=>rl x≤100000000∧rl y≤100000000∧K (rQ (sqQ (rv x,rv y)))) b) a
 | _=>False
theorem csq2_Ge (a b:AV) (K:AV→Prop):csq2_G [a,b] K=(onR (fun x=>onR (fun y=>rl x≤100000000∧rl y≤100000000∧K (rQ (sqQ (rv x,rv y)))) b) a):=propext Iff.rfl
@[congr] theorem csq2_Gc {K:AV→Prop} {l l' : List AV} (h:l=l'):csq2_G l K=csq2_G l' K:=by subst h;rfl
attribute [go_sem] csq2_Ge
attribute [go_sem ↓] csq2_Ge
theorem csq2_good:Good csq2_G:=good_of fun as=>by
 unfold csq2_G
 split
 ·exact (g_onR fun _=>(g_onR fun _=>(.and fun _=>(.and fun _=>(.ret _)))))
 ·exact .of fun K hk=>hk.elim
def cpt_G (l:List AV) (K:AV→Prop):Prop:=
 match l with
 | [a,b,c]=>onA (fun p=>onR (fun u=>onR (fun v=>al p≤100000000∧rl u≤100000000∧rl v≤100000000∧K (pQ (timQ (av p) (rv u) (rv v)))) c) b) a
 | _=>False
theorem cpt_Ge (a b c:AV) (K:AV→Prop):cpt_G [a,b,c] K=(onA (fun p=>onR (fun u=>onR (fun v=>al p≤100000000∧rl u≤100000000∧rl v≤100000000∧K (pQ (timQ (av p) (rv u) (rv v)))) c) b) a):=propext Iff.rfl
@[congr] theorem cpt_Gc {K:AV→Prop} {l l' : List AV} (h:l=l'):cpt_G l K=cpt_G l' K:=by subst h;rfl
attribute [go_sem] cpt_Ge
attribute [go_sem ↓] cpt_Ge
theorem cpt_good:Good cpt_G:=good_of fun as=>by
 unfold cpt_G
 split
 ·exact (g_onA fun _=>(g_onR fun _=>(g_onR fun _=>(.and fun _=>(.and fun _=>(.and fun _=>(.ret _)))))))
 ·exact .of fun K hk=>hk.elim
def cdst_G (l:List AV) (K:AV→Prop):Prop:=
 match l with
 | [a,b]=>onA (fun p=>onA (fun q=>al p≤10000000∧al q≤10000000∧K (rQ (sqQ (subQ (av p) (av q))))) b) a
 | _=>False
theorem cdst_Ge (a b:AV) (K:AV→Prop):cdst_G [a,b] K=(onA (fun p=>onA (fun q=>al p≤10000000∧al q≤10000000∧K (rQ (sqQ (subQ (av p) (av q))))) b) a):=propext Iff.rfl
@[congr] theorem cdst_Gc {K:AV→Prop} {l l' : List AV} (h:l=l'):cdst_G l K=cdst_G l' K:=by subst h;rfl
attribute [go_sem] cdst_Ge
attribute [go_sem ↓] cdst_Ge
def cpck_G (tE:Nat) (l:List AV) (K:AV→Prop):Prop:=
 match l with
 | [a]=>onCp (fun c=>cl c≤100000000∧K (errV tE (cchk c))) a
 | _=>False
theorem cpck_Ge (tE:Nat) (a:AV) (K:AV→Prop):cpck_G tE [a] K=(onCp (fun c=>cl c≤100000000∧K (errV tE (cchk c))) a):=propext Iff.rfl
@[congr] theorem cpck_Gc (tE:Nat) {K:AV→Prop} {l l' : List AV} (h:l=l'):cpck_G tE l K=cpck_G tE l' K:=by subst h;rfl
attribute [go_sem] cpck_Ge
attribute [go_sem ↓] cpck_Ge
theorem cpck_good (tE:Nat):Good (cpck_G tE):=good_of fun as=>by
 unfold cpck_G
 split
 ·exact (g_onCp fun _=>(.and fun _=>(.ret _)))
 ·exact .of fun K hk=>hk.elim
def cpcks_G (tE:Nat) (l:List AV) (K:AV→Prop):Prop:=
 match l with
 | [a,b]=>onCp (fun c=>onAs (fun l=>cl c≤100000000∧okAs 100000000 l∧K (errV tE (cchk2 c l))) b) a
 | _=>False
theorem cpcks_Ge (tE:Nat) (a b:AV) (K:AV→Prop):cpcks_G tE [a,b] K=(onCp (fun c=>onAs (fun l=>cl c≤100000000∧okAs 100000000 l∧K (errV tE (cchk2 c l))) b) a):=propext Iff.rfl
@[congr] theorem cpcks_Gc (tE:Nat) {K:AV→Prop} {l l' : List AV} (h:l=l'):cpcks_G tE l K=cpcks_G tE l' K:=by subst h;rfl
attribute [go_sem] cpcks_Ge
attribute [go_sem ↓] cpcks_Ge
theorem cpcks_good (tE:Nat):Good (cpcks_G tE):=good_of fun as=>by
 unfold cpcks_G
 split
 ·exact (g_onCp fun _=>(g_onAs fun _=>(.and fun _=>(.and fun _=>(.ret _)))))
 ·exact .of fun K hk=>hk.elim
def ac_coupler_valid (f0:Nat):AC:=(.seq (.ops false [.u 1 (.box 6 (.t 0)),.m 2 .fa])
 (.fg [1] (.seq (.ops false [.u 3 (.fa 0 (.t 1)),.u 4 (.ld none 3 true (.t 3)),.u 5 (.call f0 [(.t 4)]),.m 6 (.t 5),.w 7 6 true (.fa 3 (.t 1)),.w 8 6 true (.ld none 3 true (.t 7)),.w 9 6 true (.call f0 [(.t 8)]),.u 10 (.pick (.t 6) (.t 9) .fa),.m 2 (.t 10)])
 .ret)))
def ac_coupler_sub (f0:Nat):AC:=(.seq (.ops false [.u 2 (.box 6 (.t 0)),.u 3 (.box 6 (.t 1)),.u 4 (.alloc [(.lit (.bool false)),.emp,.emp,(.lit (.bool false)),.emp,.emp])])
 (.fg [2,3,4] (.seq (.ops true [.u 5 (.fa 0 (.t 2)),.u 6 (.ld none 3 true (.t 5)),.u 7 (.fa 0 (.t 3)),.u 8 (.ld none 3 true (.t 7)),.u 9 (.call f0 [(.t 6),(.t 8)]),.u 10 (.fa 3 (.t 2)),.u 11 (.ld none 3 true (.t 10)),.u 12 (.fa 3 (.t 3)),.u 13 (.ld none 3 true (.t 12)),.u 14 (.call f0 [(.t 11),(.t 13)]),.u 15 (.build [.x 3 (.t 9),.x 3 (.t 14)]),.n (.st none 6 (.t 4) (.t 15))])
 .ret)))
def ac_coupler_add (f0:Nat):AC:=(.seq (.ops false [.u 2 (.box 6 (.t 0)),.u 3 (.box 6 (.t 1)),.u 4 (.alloc [(.lit (.bool false)),.emp,.emp,(.lit (.bool false)),.emp,.emp])])
 (.fg [2,3,4] (.seq (.ops true [.u 5 (.fa 0 (.t 2)),.u 6 (.ld none 3 true (.t 5)),.u 7 (.fa 0 (.t 3)),.u 8 (.ld none 3 true (.t 7)),.u 9 (.call f0 [(.t 6),(.t 8)]),.u 10 (.fa 3 (.t 2)),.u 11 (.ld none 3 true (.t 10)),.u 12 (.fa 3 (.t 3)),.u 13 (.ld none 3 true (.t 12)),.u 14 (.call f0 [(.t 11),(.t 13)]),.u 15 (.build [.x 3 (.t 9),.x 3 (.t 14)]),.n (.st none 6 (.t 4) (.t 15))])
 .ret)))
def ac_coupler_times (f0 f1 f2:Nat):AC:=(.seq (.ops false [.u 3 (.box 6 (.t 0)),.u 4 (.box 3 (.t 1)),.u 5 (.box 3 (.t 2)),.u 6 (.alloc [(.lit (.bool false)),.emp,.emp,(.lit (.bool false)),.emp,.emp])])
 (.fg [3,4,5,6] (.seq (.ops true [.u 7 (.fa 0 (.t 3)),.u 8 (.ld none 3 true (.t 7)),.u 9 (.ld none 3 true (.t 4)),.u 10 (.call f0 [(.t 8),(.t 9)]),.u 11 (.fa 3 (.t 3)),.u 12 (.ld none 3 true (.t 11)),.u 13 (.ld none 3 true (.t 5)),.u 14 (.call f0 [(.t 12),(.t 13)]),.u 15 (.call f1 [(.t 10),(.t 14)]),.u 16 (.fa 3 (.t 3)),.u 17 (.ld none 3 true (.t 16)),.u 18 (.ld none 3 true (.t 4)),.u 19 (.call f0 [(.t 17),(.t 18)]),.u 20 (.fa 0 (.t 3)),.u 21 (.ld none 3 true (.t 20)),.u 22 (.ld none 3 true (.t 5)),.u 23 (.call f0 [(.t 21),(.t 22)]),.u 24 (.call f2 [(.t 19),(.t 23)]),.u 25 (.build [.x 3 (.t 15),.x 3 (.t 24)]),.n (.st none 6 (.t 6) (.t 25))])
 .ret)))
def ac_coupler_square (f0 f1:Nat):AC:=(.seq (.ops false [.u 2 (.box 3 (.t 0)),.u 3 (.box 3 (.t 1)),.u 4 (.alloc [(.lit (.bool false)),.emp,.emp])])
 (.fg [2,3,4] (.seq (.ops true [.u 5 (.ld none 3 true (.t 2)),.u 6 (.ld none 3 true (.t 2)),.u 7 (.call f0 [(.t 5),(.t 6)]),.u 8 (.ld none 3 true (.t 3)),.u 9 (.ld none 3 true (.t 3)),.u 10 (.call f0 [(.t 8),(.t 9)]),.u 11 (.call f1 [(.t 7),(.t 10)]),.n (.st none 3 (.t 4) (.t 11))])
 .ret)))
def ac_coupler_Check (f0 f1 f2 f3 tE:Nat):AC:=(.seq (.ops false [.u 1 (.box 27 (.t 0)),.m 2 (.c (.one (.lit .nilIface)))])
 (.fg [1] (.seq (.seq (.ops false [.u 7 (.fa 0 (.t 1)),.u 8 (.ld none 6 true (.t 7)),.u 9 (.call f0 [(.t 8)]),.u 10 (.un .not (.t 9)),.m 11 (.t 10),.w 12 11 false (.fa 6 (.t 1)),.w 13 11 false (.ld none 6 true (.t 12)),.w 14 11 false (.call f0 [(.t 13)]),.w 15 11 false (.un .not (.t 14)),.u 16 (.pick (.t 11) .tr (.t 15))])
 (.fg [1,16] (.cond (.t 16) (.seq (.ops false [.u 17 (.iface tE (.i 2)),.m 2 (.t 17)])
 .ret) .skip)))
 (.fg [1] (.seq (.seq (.ops false [.u 18 (.fa 12 (.t 1)),.u 19 (.ld none 3 true (.t 18)),.u 20 (.fa 15 (.t 1)),.u 21 (.ld none 3 true (.t 20)),.u 22 (.fa 18 (.t 1)),.u 23 (.ld none 3 true (.t 22)),.u 24 (.fa 21 (.t 1)),.u 25 (.ld none 3 true (.t 24)),.u 26 (.fa 24 (.t 1)),.u 27 (.ld none 3 true (.t 26)),.u 28 (.row 3 [[.x 3 (.t 19)],[.x 3 (.t 21)],[.x 3 (.t 23)],[.x 3 (.t 25)],[.x 3 (.t 27)]]),.u 29 (.len (.t 28)),.m 30 (.i 0)])
 (.fg [1,28,29,30] (.block 0 (.loop (.seq (.ops false [.u 31 (.bin .lss (.t 30) (.t 29))])
 (.fg [1,28,29,30,31] (.seq (.cond (.t 31) .skip (.exit 0))
 (.fg [1,28,29,30] (.seq (.block 1 (.seq (.ops false [.u 32 (.idx 3 (.t 28) (.t 30)),.u 33 (.ld none 3 true (.t 32)),.u 4 (.alloc [(.lit (.bool false)),.emp,.emp]),.n (.st none 3 (.t 4) (.t 33))])
 (.fg [1,4,28,29,30] (.seq (.ops false [.u 34 (.ld none 3 true (.t 4)),.u 35 (.call f1 [(.t 34)]),.u 36 (.un .not (.t 35))])
 (.fg [1,28,29,30,36] (.cond (.t 36) (.seq (.ops false [.u 37 (.iface tE (.i 2)),.m 2 (.t 37)])
 .ret) .skip))))))
 (.fg [1,28,29,30] (.ops false [.u 38 (.bin .add (.t 30) (.i 1)),.m 30 (.t 38)])))))))))))
 (.fg [1] (.seq (.seq (.ops false [.u 39 (.fa 12 (.t 1)),.u 40 (.ld none 3 true (.t 39)),.u 41 (.fa 15 (.t 1)),.u 42 (.ld none 3 true (.t 41)),.u 43 (.fa 18 (.t 1)),.u 44 (.ld none 3 true (.t 43)),.u 45 (.row 3 [[.x 3 (.t 40)],[.x 3 (.t 42)],[.x 3 (.t 44)]]),.u 46 (.len (.t 45)),.m 47 (.i 0)])
 (.fg [1,45,46,47] (.block 2 (.loop (.seq (.ops false [.u 48 (.bin .lss (.t 47) (.t 46))])
 (.fg [1,45,46,47,48] (.seq (.cond (.t 48) .skip (.exit 2))
 (.fg [1,45,46,47] (.seq (.block 3 (.seq (.ops false [.u 49 (.idx 3 (.t 45) (.t 47)),.u 50 (.ld none 3 true (.t 49)),.u 6 (.alloc [(.lit (.bool false)),.emp,.emp]),.n (.st none 3 (.t 6) (.t 50))])
 (.fg [1,6,45,46,47] (.seq (.ops false [.u 51 (.ld none 3 true (.t 6)),.u 52 (.call f2 [(.t 51)]),.u 53 (.bin .leq (.t 52) (.i 0))])
 (.fg [1,45,46,47,53] (.cond (.t 53) (.seq (.ops false [.u 54 (.iface tE (.i 3)),.m 2 (.t 54)])
 .ret) .skip))))))
 (.fg [1,45,46,47] (.ops false [.u 55 (.bin .add (.t 47) (.i 1)),.m 47 (.t 55)])))))))))))
 (.fg [1] (.seq (.seq (.ops false [.u 56 (.fa 0 (.t 1)),.u 57 (.fa 0 (.t 56)),.u 58 (.ld none 3 true (.t 57)),.u 59 (.fa 6 (.t 1)),.u 60 (.fa 0 (.t 59)),.u 61 (.ld none 3 true (.t 60)),.u 62 (.call f3 [(.t 58),(.t 61)]),.u 63 (.bin .eql (.t 62) (.i 0)),.m 64 (.t 63),.w 65 64 true (.fa 0 (.t 1)),.w 66 64 true (.fa 3 (.t 65)),.w 67 64 true (.ld none 3 true (.t 66)),.w 68 64 true (.fa 6 (.t 1)),.w 69 64 true (.fa 3 (.t 68)),.w 70 64 true (.ld none 3 true (.t 69)),.w 71 64 true (.call f3 [(.t 67),(.t 70)]),.w 72 64 true (.bin .eql (.t 71) (.i 0)),.u 73 (.pick (.t 64) (.t 72) .fa)])
 (.fg [73] (.cond (.t 73) (.seq (.ops false [.u 74 (.iface tE (.i 8)),.m 2 (.t 74)])
 .ret) .skip)))
 (.fg [] (.seq (.ops false [.m 2 (.c (.one (.lit .nilIface)))])
 .ret)))))))))))
def ac_coupler_check (f0 f1 tE:Nat):AC:=(.seq (.ops false [.u 2 (.box 27 (.t 0)),.m 4 (.c (.one (.lit .nilIface)))])
 (.fg [1,2] (.seq (.seq (.ops false [.u 8 (.ld none 27 true (.t 2)),.u 9 (.call f0 [(.t 8)]),.m 5 (.t 9)])
 (.fg [1,5] (.seq (.ops false [.m 10 (.t 5),.u 11 (.binn .neq (.t 10) (.c (.one (.lit .nilIface))))])
 (.fg [1,5,11] (.cond (.t 11) (.seq (.ops false [.m 12 (.t 5),.m 4 (.t 12)])
 .ret) .skip)))))
 (.fg [1] (.seq (.seq (.ops false [.m 13 (.t 1),.u 14 (.len (.t 13)),.m 15 (.i 0)])
 (.fg [13,14,15] (.block 0 (.loop (.seq (.ops false [.u 16 (.bin .lss (.t 15) (.t 14))])
 (.fg [13,14,15,16] (.seq (.cond (.t 16) .skip (.exit 0))
 (.fg [13,14,15] (.seq (.block 1 (.seq (.ops false [.u 17 (.idx 6 (.t 13) (.t 15)),.u 18 (.ld none 6 true (.t 17)),.u 7 (.alloc [(.lit (.bool false)),.emp,.emp,(.lit (.bool false)),.emp,.emp]),.n (.st none 6 (.t 7) (.t 18))])
 (.fg [7,13,14,15] (.seq (.ops false [.u 19 (.ld none 6 true (.t 7)),.u 20 (.call f1 [(.t 19)]),.u 21 (.un .not (.t 20))])
 (.fg [13,14,15,21] (.cond (.t 21) (.seq (.ops false [.u 22 (.iface tE (.i 2)),.m 4 (.t 22)])
 .ret) .skip))))))
 (.fg [13,14,15] (.ops false [.u 23 (.bin .add (.t 15) (.i 1)),.m 15 (.t 23)])))))))))))
 (.fg [] (.seq (.ops false [.m 4 (.c (.one (.lit .nilIface)))])
 .ret)))))))
theorem cvalid_sound (hΓ:Holds P Γ) {f fv:Nat} (hv:Γ fv=.dat true rvalid_G) (hc:check P f=some (11,(ac_coupler_valid fv).strip,[.tmp 2])):Sound P f (.dat true pvalid_G):=by
 refine sound_dat hc pvalid_good hΓ (fun args K hcl hfi hG=>?_)
 match args,hG with
 | [a],hG=>
  obtain ⟨⟨x,y⟩,rfl,⟨wx,wy⟩,hl,hK⟩:=hG
  refine ⟨by simp,?_⟩
  have hl':=Nat.max_le.1 hl
  simp only at wx wy hl'
  unfold avld at hK
  simp only at hK
  cases hx:vldR x with
  | true=>
   rw [hx,Bool.true_and]at hK
   simp only [go_sem,ac_coupler_valid,hv,aC_eq,hx]
   repeat (first | (refine And.intro (by omega) ?_) | (refine And.intro (by assumption) ?_) | (refine And.intro rfl ?_) | (refine And.intro ⟨rfl,by omega⟩ ?_) | (refine And.intro ⟨rfl,by omega,by omega⟩ ?_) | (intro _))
   exact hK
  | false=>
   rw [hx,Bool.false_and]at hK
   simp only [go_sem,ac_coupler_valid,hv,aC_eq,hx]
   repeat (first | (refine And.intro (by omega) ?_) | (refine And.intro (by assumption) ?_) | (refine And.intro rfl ?_) | (refine And.intro ⟨rfl,by omega⟩ ?_) | (refine And.intro ⟨rfl,by omega,by omega⟩ ?_) | (intro _))
   exact hK
theorem cpsub_sound (hΓ:Holds P Γ) {f fs:Nat} (hs:Γ fs=.dat false rsub_G) (hc:check P f=some (16,(ac_coupler_sub fs).strip,[.cell 4 6 true])):Sound P f (.dat false pless_G):=by
 refine sound_dat hc pless_good hΓ (fun args K hcl hfi hG=>?_)
 match args,hG with
 | [a,b],hG=>
  obtain ⟨⟨x,y⟩,rfl,⟨wx,wy⟩,⟨u,v⟩,rfl,⟨wu,wv⟩,hl,hl2,hK⟩:=hG
  refine ⟨by simp,?_⟩
  have hl':=Nat.max_le.1 hl
  have hl2':=Nat.max_le.1 hl2
  simp only at wx wy wu wv hl' hl2'
  simp only [go_sem,ac_coupler_sub,hs,aC_eq]
  repeat (first | (refine And.intro (by omega) ?_) | (refine And.intro (by assumption) ?_) | (refine And.intro rfl ?_) | (refine And.intro ⟨rfl,by omega⟩ ?_) | (refine And.intro ⟨rfl,by omega,by omega⟩ ?_) | (intro _))
  exact hK
theorem cpadd_sound (hΓ:Holds P Γ) {f fs:Nat} (hs:Γ fs=.dat false radd_G) (hc:check P f=some (16,(ac_coupler_add fs).strip,[.cell 4 6 true])):Sound P f (.dat false pplus_G):=by
 refine sound_dat hc pplus_good hΓ (fun args K hcl hfi hG=>?_)
 match args,hG with
 | [a,b],hG=>
  obtain ⟨⟨x,y⟩,rfl,⟨wx,wy⟩,⟨u,v⟩,rfl,⟨wu,wv⟩,hl,hl2,hK⟩:=hG
  refine ⟨by simp,?_⟩
  have hl':=Nat.max_le.1 hl
  have hl2':=Nat.max_le.1 hl2
  simp only at wx wy wu wv hl' hl2'
  simp only [go_sem,ac_coupler_add,hs,aC_eq]
  repeat (first | (refine And.intro (by omega) ?_) | (refine And.intro (by assumption) ?_) | (refine And.intro rfl ?_) | (refine And.intro ⟨rfl,by omega⟩ ?_) | (refine And.intro ⟨rfl,by omega,by omega⟩ ?_) | (intro _))
  exact hK
theorem cpt_sound (hΓ:Holds P Γ) {f fm fs fa:Nat} (hm:Γ fm=.dat false rmul_G) (hs:Γ fs=.dat false rsub_G) (ha:Γ fa=.dat false radd_G) (hc:check P f=some (26,(ac_coupler_times fm fs fa).strip,[.cell 6 6 true])):Sound P f (.dat false cpt_G):=by
 refine sound_dat hc cpt_good hΓ (fun args K hcl hfi hG=>?_)
 match args,hG with
 | [a,b,c],hG=>
  obtain ⟨⟨x,y⟩,rfl,⟨wx,wy⟩,u,rfl,wu,v,rfl,wv,hl,hu,hv,hK⟩:=hG
  refine ⟨by simp,?_⟩
  have hl':=Nat.max_le.1 hl
  simp only at wx wy hl'
  have z1:=rz_rv wx
  have z2:=rz_rv wy
  have z3:=rz_rv wu
  have z4:=rz_rv wv
  have m1:=rz_mul (rv x) (rv u)
  have m2:=rz_mul (rv y) (rv v)
  have m3:=rz_mul (rv y) (rv u)
  have m4:=rz_mul (rv x) (rv v)
  simp only [go_sem,ac_coupler_times,hm,hs,ha,aC_eq,rA,rv_rcan]
  repeat (first | (refine And.intro (by omega) ?_) | (refine And.intro (by assumption) ?_) | (refine And.intro rfl ?_) | (refine And.intro ⟨rfl,by omega⟩ ?_) | (refine And.intro ⟨rfl,by omega,by omega⟩ ?_) | (intro _))
  exact hK
theorem csq2_sound (hΓ:Holds P Γ) {f fm fa:Nat} (hm:Γ fm=.dat false rmul_G) (ha:Γ fa=.dat false radd_G) (hc:check P f=some (12,(ac_coupler_square fm fa).strip,[.cell 4 3 true])):Sound P f (.dat false csq2_G):=by
 refine sound_dat hc csq2_good hΓ (fun args K hcl hfi hG=>?_)
 match args,hG with
 | [a,b],hG=>
  obtain ⟨x,rfl,wx,y,rfl,wy,hx,hy,hK⟩:=hG
  refine ⟨by simp,?_⟩
  have z1:=rz_rv wx
  have z2:=rz_rv wy
  have m1:=rz_mul (rv x) (rv x)
  have m2:=rz_mul (rv y) (rv y)
  simp only [go_sem,ac_coupler_square,hm,ha,rA,rv_rcan]
  repeat (first | (refine And.intro (by omega) ?_) | (refine And.intro (by assumption) ?_) | (refine And.intro rfl ?_) | (refine And.intro ⟨rfl,by omega⟩ ?_) | (refine And.intro ⟨rfl,by omega,by omega⟩ ?_) | (intro _))
  exact hK
theorem cpck_sound (hΓ:Holds P Γ) {f fv fr fg fq tE:Nat} (hv:Γ fv=.dat true pvalid_G) (hr:Γ fr=.dat true rvalid_G) (hg:Γ fg=.dat true rsign_G) (hq' : Γ fq=.dat true rcmp02_G) (hc:check P f=some (75,(ac_coupler_Check fv fr fg fq tE).strip,[.tmp 2])):Sound P f (.dat false (cpck_G tE)):=by
 refine sound_dat hc (cpck_good tE) hΓ (fun args K hcl hfi hG=>?_)
 match args,hG with
 | [a],hG=>
  obtain ⟨c,rfl,hw,hl,hK⟩:=hG
  refine ⟨by simp,?_⟩
  obtain ⟨wo,wq,w1,w2,w3,w4,w5⟩:=id hw
  have hl0:=hl
  unfold cl at hl0
  simp only [Nat.max_le]at hl0
  obtain ⟨l1,l2,l3,l4,l5,l6,l7⟩:=hl0
  have wo1:=wo.1
  have wo2:=wo.2
  have wq1:=wq.1
  have wq2:=wq.2
  have lo1:=(Nat.max_le.1 l1).1
  have lo2:=(Nat.max_le.1 l1).2
  have lq1:=(Nat.max_le.1 l2).1
  have lq2:=(Nat.max_le.1 l2).2
  have h5:∀x∈cps5 c,WLR x∧rl x≤100000000:=fun x hx=>by
   simp only [cps5,List.mem_cons,List.not_mem_nil,or_false]at hx
   rcases hx with rfl | rfl | rfl | rfl | rfl
   ·exact ⟨w1,l3⟩
   ·exact ⟨w2,l4⟩
   ·exact ⟨w3,l5⟩
   ·exact ⟨w4,l6⟩
   ·exact ⟨w5,l7⟩
  have h3:∀x∈cps3 c,WLR x∧rl x≤100000000:=fun x hx=>h5 x (by
   simp only [cps3,cps5,List.mem_cons,List.not_mem_nil,or_false]at hx ⊢
   rcases hx with rfl | rfl | rfl <;> simp)
  have n5:(cps5 c).length=5:=rfl
  have n3:(cps3 c).length=3:=rfl
  have e2:=errV_s tE (by decide:2≠0)
  cases ha:avld c.1 with
  | false=>
   have e:cchk c=2:=if_pos (.inl ha)
   rw [e,e2]at hK
   simp only [go_sem,ac_coupler_Check,hv,cpA,cpC,mk_eta,ha]
   repeat (first | (refine And.intro (by omega) ?_) | (refine And.intro (by assumption) ?_) | (refine And.intro rfl ?_) | (refine And.intro ⟨rfl,by omega⟩ ?_) | (refine And.intro ⟨rfl,by omega,by omega⟩ ?_) | (intro _))
   exact hK
  | true=>
  cases hb:avld c.2.1 with
  | false=>
   have e:cchk c=2:=if_pos (.inr hb)
   rw [e,e2]at hK
   simp only [go_sem,ac_coupler_Check,hv,cpA,cpC,mk_eta,ha,hb]
   repeat (first | (refine And.intro (by omega) ?_) | (refine And.intro (by assumption) ?_) | (refine And.intro rfl ?_) | (refine And.intro ⟨rfl,by omega⟩ ?_) | (refine And.intro ⟨rfl,by omega,by omega⟩ ?_) | (intro _))
   exact hK
  | true=>
   have hab:¬(avld c.1=false∨avld c.2.1=false):=by simp [ha,hb]
   have hch:cchk c=if (cps5 c).all vldR=false then 2 else if (cps3 c).all gt0R=false then 3 else if av c.1=av c.2.1 then 8 else 0:=if_neg hab
   rw [hch]at hK
   simp only [go_sem,ac_coupler_Check,hv,cpA,cpC,mk_eta,ha,hb]
   repeat (first | (refine And.intro (by omega) ?_) | (refine And.intro (by assumption) ?_) | (refine And.intro rfl ?_) | (refine And.intro ⟨rfl,by omega⟩ ?_) | (refine And.intro ⟨rfl,by omega,by omega⟩ ?_) | (intro _))
   refine wpA_loop (fun k:Nat=>⟨mkV [(1,.one (.ptr 1 1 0 0)),(28,.one (.full ((cps5 c).map rC))),(29,.one (.lit (.int .i64 5))),(30,.one (.lit (.int .i64 k)))],mkH [(1,⟨1,some ⟨[cpC c],27,true⟩⟩)]⟩) (fun k=>k≤5∧((cps5 c).take k).all vldR=true) (fun k=>5-k) 0 ?_ ?_ ?_
   ·exact weak_lit (by simp [okS,okV,okC,okL,okH,okB,okE,mkV_cons,mkV_nil,mkH_cons,mkH_nil,wsA,ws,rC,cps5]) ⟨okB_cp rfl,trivial⟩
   ·exact ⟨Nat.zero_le _,rfl⟩
   ·rintro k ⟨hk,hall⟩
    by_cases hlt:k<5
    ·obtain ⟨x,hx⟩:∃x,(cps5 c).getD k (rcan 0)=x:=⟨_,rfl⟩
     have hx0:(cps5 c)[k]?=some x:=by
      rw [←hx,List.getD_eq_getElem?_getD,List.getElem?_eq_getElem (by omega)];rfl
     obtain ⟨g1,g2⟩:=h5 x (List.mem_of_getElem? hx0)
     have hlt' : ((k:Nat):Int)<5:=by omega
     cases hz:vldR x with
     | true=>
      simp only [go_sem,hlt',hlt,hr,getE_rC,n5,hx,rC,hz]
      repeat (first | (refine And.intro (by omega) ?_) | (refine And.intro (by assumption) ?_) | (refine And.intro rfl ?_) | (refine And.intro ⟨rfl,by omega⟩ ?_) | (refine And.intro ⟨rfl,by omega,by omega⟩ ?_) | (intro _))
      exact ⟨k+1,weak_lit (by simp [okS,okV,okC,okL,okH,okB,okE,mkV_cons,mkV_nil,mkH_cons,mkH_nil,wsA,ws,rC,cps5]) ⟨okB_cp rfl,trivial⟩,⟨by omega,allS hx0 hall hz⟩,by omega⟩
     | false=>
      have hf:(cps5 c).all vldR=false:=by
       rw [List.all_eq_false]
       exact ⟨x,List.mem_of_getElem? hx0,by simp [hz]⟩
      rw [if_pos hf,e2]at hK
      simp only [go_sem,hlt',hlt,hr,getE_rC,n5,hx,rC,hz]
      repeat (first | (refine And.intro (by omega) ?_) | (refine And.intro (by assumption) ?_) | (refine And.intro rfl ?_) | (refine And.intro ⟨rfl,by omega⟩ ?_) | (refine And.intro ⟨rfl,by omega,by omega⟩ ?_) | (intro _))
      exact hK
    ·have hv5:(cps5 c).all vldR=true:=by rw [List.take_of_length_le (by omega)]at hall;exact hall
     rw [if_neg (by simp [hv5])]at hK
     have hlt' : ¬((k:Nat):Int)<5:=by omega
     simp only [go_sem,hlt',cpC]
     repeat (first | (refine And.intro (by omega) ?_) | (refine And.intro (by assumption) ?_) | (refine And.intro rfl ?_) | (refine And.intro ⟨rfl,by omega⟩ ?_) | (refine And.intro ⟨rfl,by omega,by omega⟩ ?_) | (intro _))
     refine wpA_loop (fun k:Nat=>⟨mkV [(1,.one (.ptr 1 1 0 0)),(45,.one (.full ((cps3 c).map rC))),(46,.one (.lit (.int .i64 3))),(47,.one (.lit (.int .i64 k)))],mkH [(1,⟨1,some ⟨[cpC c],27,true⟩⟩)]⟩) (fun k=>k≤3∧((cps3 c).take k).all gt0R=true) (fun k=>3-k) 0 ?_ ?_ ?_
     ·exact weak_lit (by simp [okS,okV,okC,okL,okH,okB,okE,mkV_cons,mkV_nil,mkH_cons,mkH_nil,wsA,ws,rC,cps3]) ⟨okB_cp rfl,trivial⟩
     ·exact ⟨Nat.zero_le _,rfl⟩
     ·rintro k ⟨hk,hall⟩
      by_cases hlt:k<3
      ·obtain ⟨x,hx⟩:∃x,(cps3 c).getD k (rcan 0)=x:=⟨_,rfl⟩
       have hx0:(cps3 c)[k]?=some x:=by
        rw [←hx,List.getD_eq_getElem?_getD,List.getElem?_eq_getElem (by omega)];rfl
       obtain ⟨g1,g2⟩:=h3 x (List.mem_of_getElem? hx0)
       have hlt' : ((k:Nat):Int)<3:=by omega
       cases hz:gt0R x with
       | true=>
        have hp:(ordQ (rv x) 0≤0)=False:=by rw [ordQ_0le];simpa [gt0R] using hz
        simp only [go_sem,hlt',hlt,hg,getE_rC,n3,hx,rC,hp]
        repeat (first | (refine And.intro (by omega) ?_) | (refine And.intro (by assumption) ?_) | (refine And.intro rfl ?_) | (refine And.intro ⟨rfl,by omega⟩ ?_) | (refine And.intro ⟨rfl,by omega,by omega⟩ ?_) | (intro _))
        exact ⟨k+1,weak_lit (by simp [okS,okV,okC,okL,okH,okB,okE,mkV_cons,mkV_nil,mkH_cons,mkH_nil,wsA,ws,rC,cps3]) ⟨okB_cp rfl,trivial⟩,⟨by omega,allS hx0 hall hz⟩,by omega⟩
       | false=>
        have hp:(ordQ (rv x) 0≤0)=True:=by rw [ordQ_0le];simpa [gt0R] using hz
        have hf:(cps3 c).all gt0R=false:=by
         rw [List.all_eq_false]
         exact ⟨x,List.mem_of_getElem? hx0,by simp [hz]⟩
        rw [if_pos hf,errV_s tE (by decide)]at hK
        simp only [go_sem,hlt',hlt,hg,getE_rC,n3,hx,rC,hp]
        repeat (first | (refine And.intro (by omega) ?_) | (refine And.intro (by assumption) ?_) | (refine And.intro rfl ?_) | (refine And.intro ⟨rfl,by omega⟩ ?_) | (refine And.intro ⟨rfl,by omega,by omega⟩ ?_) | (intro _))
        exact hK
      ·have hv3:(cps3 c).all gt0R=true:=by rw [List.take_of_length_le (by omega)]at hall;exact hall
       rw [if_neg (by simp [hv3])]at hK
       have hlt' : ¬((k:Nat):Int)<3:=by omega
       have eav:(av c.1=av c.2.1)=(rv c.1.1=rv c.2.1.1∧rv c.1.2=rv c.2.1.2):=by
        unfold av;rw [Prod.mk.injEq]
       by_cases q1:rv c.1.1=rv c.2.1.1
       ·by_cases q2:rv c.1.2=rv c.2.1.2
        ·rw [if_pos (by rw [eav];exact ⟨q1,q2⟩),errV_s tE (by decide)]at hK
         have o1:ordQ (rv c.1.1) (rv c.2.1.1)=0:=ordQ_eq0.2 q1
         have o2:ordQ (rv c.1.2) (rv c.2.1.2)=0:=ordQ_eq0.2 q2
         simp only [go_sem,hlt',cpC,hq',o1,o2]
         repeat (first | (refine And.intro (by omega) ?_) | (refine And.intro (by assumption) ?_) | (refine And.intro rfl ?_) | (refine And.intro ⟨rfl,by omega⟩ ?_) | (refine And.intro ⟨rfl,by omega,by omega⟩ ?_) | (intro _))
         exact hK
        ·rw [if_neg (by rw [eav];exact fun h=>q2 h.2),errV_0]at hK
         have o1:ordQ (rv c.1.1) (rv c.2.1.1)=0:=ordQ_eq0.2 q1
         have o2:¬ordQ (rv c.1.2) (rv c.2.1.2)=0:=fun h=>q2 (ordQ_eq0.1 h)
         simp only [go_sem,hlt',cpC,hq',o1,o2]
         repeat (first | (refine And.intro (by omega) ?_) | (refine And.intro (by assumption) ?_) | (refine And.intro rfl ?_) | (refine And.intro ⟨rfl,by omega⟩ ?_) | (refine And.intro ⟨rfl,by omega,by omega⟩ ?_) | (intro _))
         exact hK
       ·rw [if_neg (by rw [eav];exact fun h=>q1 h.1),errV_0]at hK
        have o1:¬ordQ (rv c.1.1) (rv c.2.1.1)=0:=fun h=>q1 (ordQ_eq0.1 h)
        simp only [go_sem,hlt',cpC,hq',o1]
        repeat (first | (refine And.intro (by omega) ?_) | (refine And.intro (by assumption) ?_) | (refine And.intro rfl ?_) | (refine And.intro ⟨rfl,by omega⟩ ?_) | (refine And.intro ⟨rfl,by omega,by omega⟩ ?_) | (intro _))
        exact hK
theorem cpcks_sound (hΓ:Holds P Γ) {f fk fv tE:Nat} (hk:Γ fk=.dat false (cpck_G tE)) (hv:Γ fv=.dat true pvalid_G) (hc:check P f=some (24,(ac_coupler_check fk fv tE).strip,[.tmp 4])):Sound P f (.dat false (cpcks_G tE)):=by
 refine sound_dat hc (cpcks_good tE) hΓ (fun args K hcl hfi hG=>?_)
 match args,hG with
 | [a,b],hG=>
  obtain ⟨c,rfl,hw,l,rfl,hwl,hl,hok,hK⟩:=hG
  refine ⟨by simp,?_⟩
  by_cases h0:cchk c=0
  ·have e0:=errV_0 tE
   rw [←h0]at e0
   have e1:cchk2 c l=if l.all avld=false then 2 else 0:=if_neg (by simp [h0])
   rw [e1]at hK
   simp only [go_sem,ac_coupler_check,hk,cpA,cpC,mk_eta,e0]
   refine ⟨hw,hl,fun _=>?_⟩
   refine wpA_loop (fun k:Nat=>⟨mkV [(13,.one (.slice (l.map aC))),(14,.one (.lit (.int .i64 l.length))),(15,.one (.lit (.int .i64 k)))],mkH []⟩) (fun k=>k≤l.length∧(l.take k).all avld=true) (fun k=>l.length-k) 0 ?_ ?_ ?_
   ·exact weak_lit (by simp [okS,okV,okC,okL,okH,okB,okE,mkV_cons,mkV_nil,mkH_cons,mkH_nil,wsA,ws]) trivial
   ·exact ⟨Nat.zero_le _,rfl⟩
   ·rintro k ⟨hk2,hall⟩
    by_cases hlt:k<l.length
    ·obtain ⟨x,hx⟩:∃x,l.getD k a0=x:=⟨_,rfl⟩
     have hx0:=getD_get hlt hx
     obtain ⟨g1,g2⟩:=hok x (List.mem_of_getElem? hx0)
     cases hz:avld x with
     | true=>
      simp only [go_sem,hlt,hv,hx,aC_eq,mk_eta,hz]
      repeat (first | (refine And.intro (by omega) ?_) | (refine And.intro (by assumption) ?_) | (refine And.intro rfl ?_) | (refine And.intro ⟨rfl,by omega⟩ ?_) | (refine And.intro ⟨rfl,by omega,by omega⟩ ?_) | (intro _))
      exact ⟨k+1,weak_lit (by simp [okS,okV,okC,okL,okH,okB,okE,mkV_cons,mkV_nil,mkH_cons,mkH_nil,wsA,ws]) trivial,⟨by omega,allS hx0 hall hz⟩,by omega⟩
     | false=>
      have hf:l.all avld=false:=by
       rw [List.all_eq_false]
       exact ⟨x,List.mem_of_getElem? hx0,by simp [hz]⟩
      rw [if_pos hf,errV_s tE (by decide)]at hK
      simp only [go_sem,hlt,hv,hx,aC_eq,mk_eta,hz]
      repeat (first | (refine And.intro (by omega) ?_) | (refine And.intro (by assumption) ?_) | (refine And.intro rfl ?_) | (refine And.intro ⟨rfl,by omega⟩ ?_) | (refine And.intro ⟨rfl,by omega,by omega⟩ ?_) | (intro _))
      exact hK
    ·rw [List.take_of_length_le (by omega)]at hall
     rw [if_neg (by simp [hall]),errV_0]at hK
     simp only [go_sem,hlt]
     exact hK
  ·have e0:=errV_s tE h0
   have e1:cchk2 c l=cchk c:=if_pos h0
   rw [e1,e0]at hK
   simp only [go_sem,ac_coupler_check,hk,cpA,cpC,mk_eta,e0]
   exact ⟨hw,hl,hK⟩
end Go.Abs
end
section
set_option linter.unusedVariables false
set_option linter.unusedSimpArgs false
set_option maxRecDepth 100000
namespace Go.Num
open Go.Abs
def tOk (v:BQ×BQ) (u w:Rat):Prop:=PB 1 1006 v.1∧PB 1 1006 v.2∧rz u≤1004∧rz w≤1004
def nOk (v:BQ×BQ):Prop:=∃d s,PB d s v.1∧PB d s v.2∧d+d≤24∧s≤1000000
theorem PB.mulok {d s e t:Nat} {p q:BQ} (hp:PB d s p) (hq:PB e t q) (h:d+e≤24) (h2:s+t≤3000000):sz p+sz q≤3000000∧degB p+degB q≤24:=
 ⟨by have:=hp.size;have:=hq.size;omega,hp.dd hq h⟩
end Go.Num
namespace Go.Abs
open Go.Num
variable {P:Program} {Γ:Nat→Spec}
def ctim_G (l:List AV) (K:AV→Prop):Prop:=
 match l with
 | [v,u,w]=>onV (fun v=>onR (fun u=>onR (fun w=>tOk v (rv u) (rv w)∧rl u≤1000000∧rl w≤1000000∧K (.agg [bC (timB v (rv u) (rv w)).1,bC (timB v (rv u) (rv w)).2])) w) u) v
 | _=>False
theorem ctim_Ge (v u w:AV) (K:AV→Prop):ctim_G [v,u,w] K=(onV (fun v=>onR (fun u=>onR (fun w=>tOk v (rv u) (rv w)∧rl u≤1000000∧rl w≤1000000∧K (.agg [bC (timB v (rv u) (rv w)).1,bC (timB v (rv u) (rv w)).2])) w) u) v):=propext Iff.rfl
@[congr] theorem ctim_Gc {K:AV→Prop} {l l' : List AV} (h:l=l'):ctim_G l K=ctim_G l' K:=by subst h;rfl
attribute [go_sem] ctim_Ge
attribute [go_sem ↓] ctim_Ge
theorem ctim_good:Good ctim_G:=good_of fun as=>by
 unfold ctim_G
 split
 ·exact (g_onV fun _=>(g_onR fun _=>(g_onR fun _=>(.and fun _=>(.and fun _=>(.and fun _=>(.ret _)))))))
 ·exact .of fun K hk=>hk.elim
def cnrm_G (l:List AV) (K:AV→Prop):Prop:=
 match l with
 | [v]=>onV (fun v=>nOk v∧K (.one (bC (nrmB v)))) v
 | _=>False
theorem cnrm_Ge (v:AV) (K:AV→Prop):cnrm_G [v] K=(onV (fun v=>nOk v∧K (.one (bC (nrmB v)))) v):=propext Iff.rfl
@[congr] theorem cnrm_Gc {K:AV→Prop} {l l' : List AV} (h:l=l'):cnrm_G l K=cnrm_G l' K:=by subst h;rfl
attribute [go_sem] cnrm_Ge
attribute [go_sem ↓] cnrm_Ge
theorem cnrm_good:Good cnrm_G:=good_of fun as=>by
 unfold cnrm_G
 split
 ·exact (g_onV fun _=>(.and fun _=>(.ret _)))
 ·exact .of fun K hk=>hk.elim
def cbld_G (l:List AV) (K:AV→Prop):Prop:=
 match l with
 | [c]=>onCp (fun c=>cl c≤1000∧K (.agg [bC (cAl (cpv c)).1,bC (cAl (cpv c)).2,bC (cBe (cpv c)).1,bC (cBe (cpv c)).2,bC (cE (cpv c)),bC (cF (cpv c)),bC (cM (cpv c))])) c
 | _=>False
theorem cbld_Ge (c:AV) (K:AV→Prop):cbld_G [c] K=(onCp (fun c=>cl c≤1000∧K (.agg [bC (cAl (cpv c)).1,bC (cAl (cpv c)).2,bC (cBe (cpv c)).1,bC (cBe (cpv c)).2,bC (cE (cpv c)),bC (cF (cpv c)),bC (cM (cpv c))])) c):=propext Iff.rfl
@[congr] theorem cbld_Gc {K:AV→Prop} {l l' : List AV} (h:l=l'):cbld_G l K=cbld_G l' K:=by subst h;rfl
attribute [go_sem] cbld_Ge
attribute [go_sem ↓] cbld_Ge
theorem cbld_good:Good cbld_G:=good_of fun as=>by
 unfold cbld_G
 split
 ·exact (g_onCp fun _=>(.and fun _=>(.ret _)))
 ·exact .of fun K hk=>hk.elim
def ac___coupler_maker__times (f0 f1 f2:Nat):AC:=(.seq (.ops false [.u 5 (.box 2 (.t 1)),.u 6 (.box 3 (.t 2)),.u 7 (.box 3 (.t 3)),.u 8 (.alloc [.emp,.emp])])
 (.fg [0,5,6,7,8] (.seq (.ops true [.m 9 (.t 0),.m 10 (.t 0),.u 11 (.fa 0 (.t 5)),.u 12 (.ld none 1 false (.t 11)),.u 13 (.ld none 3 true (.t 6)),.u 14 (.callr f0 [(.t 10),(.t 12),(.t 13)]),.m 15 (.t 0),.u 16 (.fa 1 (.t 5)),.u 17 (.ld none 1 false (.t 16)),.u 18 (.ld none 3 true (.t 7)),.u 19 (.callr f0 [(.t 15),(.t 17),(.t 18)]),.u 20 (.callr f1 [(.t 9),(.t 14),(.t 19)]),.m 21 (.t 0),.m 22 (.t 0),.u 23 (.fa 1 (.t 5)),.u 24 (.ld none 1 false (.t 23)),.u 25 (.ld none 3 true (.t 6)),.u 26 (.callr f0 [(.t 22),(.t 24),(.t 25)]),.m 27 (.t 0),.u 28 (.fa 0 (.t 5)),.u 29 (.ld none 1 false (.t 28)),.u 30 (.ld none 3 true (.t 7)),.u 31 (.callr f0 [(.t 27),(.t 29),(.t 30)]),.u 32 (.callr f2 [(.t 21),(.t 26),(.t 31)]),.u 33 (.build [.x 1 (.t 20),.x 1 (.t 32)]),.n (.st none 2 (.t 8) (.t 33))])
 .ret)))
def ac___coupler_maker__norm (f0 f1:Nat):AC:=(.seq (.ops false [.u 3 (.box 2 (.t 1)),.m 4 (.c (.one .emp))])
 (.fg [0,3] (.seq (.ops true [.m 5 (.t 0),.m 6 (.t 0),.u 7 (.fa 0 (.t 3)),.u 8 (.ld none 1 false (.t 7)),.u 9 (.fa 0 (.t 3)),.u 10 (.ld none 1 false (.t 9)),.u 11 (.callr f0 [(.t 6),(.t 8),(.t 10)]),.m 12 (.t 0),.u 13 (.fa 1 (.t 3)),.u 14 (.ld none 1 false (.t 13)),.u 15 (.fa 1 (.t 3)),.u 16 (.ld none 1 false (.t 15)),.u 17 (.callr f0 [(.t 12),(.t 14),(.t 16)]),.u 18 (.callr f1 [(.t 5),(.t 11),(.t 17)]),.m 4 (.t 18)])
 .ret)))
def ac___coupler_maker__build (f0 f1 f2 f3 f4 f5 f6 f7 f8 f9 f10 f11:Nat):AC:=(.seq (.ops false [.u 3 (.box 27 (.t 1)),.u 4 (.alloc [.emp,.emp,.emp,.emp,.emp,.emp,.emp])])
 (.fg [0,3,4] (.seq (.ops true [.m 11 (.t 0),.u 12 (.fa 0 (.t 3)),.u 13 (.fa 0 (.t 12)),.u 14 (.ld none 3 true (.t 13)),.u 15 (.callr f0 [(.t 11),.fa,(.t 14)]),.m 16 (.t 0),.u 17 (.fa 0 (.t 3)),.u 18 (.fa 3 (.t 17)),.u 19 (.ld none 3 true (.t 18)),.u 20 (.callr f0 [(.t 16),.tr,(.t 19)]),.u 21 (.build [.x 1 (.t 15),.x 1 (.t 20)]),.u 5 (.alloc [.emp,.emp]),.n (.st none 2 (.t 5) (.t 21))])
 (.fg [0,3,4,5] (.seq (.ops true [.m 22 (.t 0),.u 23 (.fa 6 (.t 3)),.u 24 (.fa 0 (.t 23)),.u 25 (.ld none 3 true (.t 24)),.u 26 (.callr f0 [(.t 22),.fa,(.t 25)]),.m 27 (.t 0),.u 28 (.fa 6 (.t 3)),.u 29 (.fa 3 (.t 28)),.u 30 (.ld none 3 true (.t 29)),.u 31 (.callr f0 [(.t 27),.tr,(.t 30)]),.u 32 (.build [.x 1 (.t 26),.x 1 (.t 31)]),.u 6 (.alloc [.emp,.emp]),.n (.st none 2 (.t 6) (.t 32))])
 (.fg [0,3,4,5,6] (.seq (.ops true [.u 33 (.call f1 [(.i 1)]),.u 34 (.fa 21 (.t 3)),.u 35 (.ld none 3 true (.t 34)),.u 36 (.call f2 [(.t 33),(.t 35)]),.u 7 (.alloc [(.lit (.bool false)),.emp,.emp]),.n (.st none 3 (.t 7) (.t 36))])
 (.fg [0,3,4,5,6,7] (.seq (.ops true [.m 37 (.t 0),.u 38 (.ld none 2 true (.t 5)),.u 39 (.fa 21 (.t 3)),.u 40 (.ld none 3 true (.t 39)),.u 41 (.fa 24 (.t 3)),.u 42 (.ld none 3 true (.t 41)),.u 43 (.call f3 [(.t 42)]),.u 44 (.callr f4 [(.t 37),(.t 38),(.t 40),(.t 43)]),.m 45 (.t 0),.u 46 (.ld none 2 true (.t 6)),.u 47 (.ld none 3 true (.t 7)),.u 48 (.fa 24 (.t 3)),.u 49 (.ld none 3 true (.t 48)),.u 50 (.callr f4 [(.t 45),(.t 46),(.t 47),(.t 49)]),.u 51 (.build [.x 2 (.t 44),.x 2 (.t 50),.z [.emp,.emp,.emp]]),.u 8 (.alloc [.emp,.emp,.emp,.emp,.emp,.emp,.emp]),.n (.st none 7 (.t 8) (.t 51))])
 (.fg [0,3,4,5,6,7,8] (.seq (.ops true [.u 52 (.fa 21 (.t 3)),.u 53 (.ld none 3 true (.t 52)),.u 54 (.fa 24 (.t 3)),.u 55 (.ld none 3 true (.t 54)),.u 56 (.call f5 [(.t 53),(.t 55)]),.u 57 (.fa 15 (.t 3)),.u 58 (.ld none 3 true (.t 57)),.u 59 (.call f6 [(.t 56),(.t 58)]),.u 60 (.fa 12 (.t 3)),.u 61 (.ld none 3 true (.t 60)),.u 62 (.call f2 [(.t 59),(.t 61)]),.u 9 (.alloc [(.lit (.bool false)),.emp,.emp]),.n (.st none 3 (.t 9) (.t 62))])
 (.fg [0,3,4,5,6,7,8,9] (.seq (.ops true [.u 63 (.fa 18 (.t 3)),.u 64 (.ld none 3 true (.t 63)),.u 65 (.ld none 3 true (.t 7)),.u 66 (.fa 24 (.t 3)),.u 67 (.ld none 3 true (.t 66)),.u 68 (.call f5 [(.t 65),(.t 67)]),.u 69 (.fa 15 (.t 3)),.u 70 (.ld none 3 true (.t 69)),.u 71 (.call f6 [(.t 68),(.t 70)]),.u 72 (.call f2 [(.t 64),(.t 71)]),.u 10 (.alloc [(.lit (.bool false)),.emp,.emp]),.n (.st none 3 (.t 10) (.t 72))])
 (.fg [0,4,5,6,8,9,10] (.seq (.ops true [.m 73 (.t 0),.m 74 (.t 0),.u 75 (.ld none 2 true (.t 5)),.u 76 (.callr f7 [(.t 74),(.t 75)]),.m 77 (.t 0),.u 78 (.ld none 3 true (.t 9)),.u 79 (.callr f8 [(.t 77),(.t 78)]),.u 80 (.callr f9 [(.t 73),(.t 76),(.t 79)]),.u 81 (.fa 4 (.t 8)),.n (.st none 1 (.t 81) (.t 80))])
 (.fg [0,4,6,8,10] (.seq (.ops true [.m 82 (.t 0),.m 83 (.t 0),.u 84 (.ld none 3 true (.t 10)),.u 85 (.callr f8 [(.t 83),(.t 84)]),.m 86 (.t 0),.u 87 (.ld none 2 true (.t 6)),.u 88 (.callr f7 [(.t 86),(.t 87)]),.u 89 (.callr f10 [(.t 82),(.t 85),(.t 88)]),.u 90 (.fa 5 (.t 8)),.n (.st none 1 (.t 90) (.t 89))])
 (.fg [0,4,8] (.seq (.ops true [.m 91 (.t 0),.m 92 (.t 0),.u 93 (.fa 0 (.t 8)),.u 94 (.fa 0 (.t 93)),.u 95 (.ld none 1 false (.t 94)),.u 96 (.fa 2 (.t 8)),.u 97 (.fa 1 (.t 96)),.u 98 (.ld none 1 false (.t 97)),.u 99 (.callr f11 [(.t 92),(.t 95),(.t 98)]),.m 100 (.t 0),.u 101 (.fa 0 (.t 8)),.u 102 (.fa 1 (.t 101)),.u 103 (.ld none 1 false (.t 102)),.u 104 (.fa 2 (.t 8)),.u 105 (.fa 0 (.t 104)),.u 106 (.ld none 1 false (.t 105)),.u 107 (.callr f11 [(.t 100),(.t 103),(.t 106)]),.u 108 (.callr f10 [(.t 91),(.t 99),(.t 107)]),.u 109 (.fa 6 (.t 8)),.n (.st none 1 (.t 109) (.t 108))])
 (.fg [4,8] (.seq (.ops false [.u 110 (.ld none 7 true (.t 8)),.n (.st none 7 (.t 4) (.t 110))])
 .ret)))))))))))))))))))))
theorem ctim_sound (hΓ:Holds P Γ) {f fl fs fa:Nat} (hl:Γ fl=.red cscale_G) (hs:Γ fs=.red csub_G) (ha:Γ fa=.red cadd_G) (hc:check P f=some (34,(ac___coupler_maker__times fl fs fa).strip,[.cell 8 2 true])):Sound P f (.red ctim_G):=by
 refine sound_red hc ctim_good hΓ (fun rest h r ver K hr hcl hfi hG=>?_)
 match rest,hG with
 | [a,b,c],hG=>
  obtain ⟨p,q,rfl,⟨hp,hq⟩,u,rfl,wu,w,rfl,ww,⟨p1,p2,r1,r2⟩,h1,h2,hK⟩:=hG
  refine ⟨by simp,?_⟩
  simp only [timB]at p1 p2 hK
  have e:tri (1+1)=3:=rfl
  have a1:=p1.scl r1
  have a2:=p1.scl r2
  have a3:=p2.scl r1
  have a4:=p2.scl r2
  rw [e]at a1 a2 a3 a4
  have c1:=a1.canon
  have c2:=a2.canon
  have c3:=a3.canon
  have c4:=a4.canon
  have s1:=a1.size
  have s2:=a2.size
  have s3:=a3.size
  have s4:=a4.size
  have s5:=p1.size
  have s6:=p2.size
  have c5:=canon_sub c1 c4
  have c6:=canon_add c3 c2
  simp only [go_sem,ac___coupler_maker__times,hr,hl,hs,ha,rA]
  repeat (first | (refine And.intro (by omega) ?_) | (refine And.intro (by assumption) ?_) | (refine And.intro rfl ?_) | (refine And.intro ⟨rfl,by omega⟩ ?_) | (refine And.intro ⟨rfl,by omega,by omega⟩ ?_) | (intro _))
  rw [back_h hr];exact hK
theorem cnrm_sound (hΓ:Holds P Γ) {f fm fa:Nat} (hm:Γ fm=.red cmul_G) (ha:Γ fa=.red cadd_G) (hc:check P f=some (19,(ac___coupler_maker__norm fm fa).strip,[.tmp 4])):Sound P f (.red cnrm_G):=by
 refine sound_red hc cnrm_good hΓ (fun rest h r ver K hr hcl hfi hG=>?_)
 match rest,hG with
 | [a],hG=>
  obtain ⟨p,q,rfl,⟨hp,hq⟩,⟨d,s,p1,p2,hd,hs⟩,hK⟩:=hG
  refine ⟨by simp,?_⟩
  simp only at p1 p2 hK
  obtain ⟨m1,m2⟩:=p1.mulok p1 hd (by omega)
  obtain ⟨m3,m4⟩:=p2.mulok p2 hd (by omega)
  have q1:=p1.mul p1 hd
  have q2:=p2.mul p2 hd
  have t1:tri (d+1)≤91:=tri_le (show d+1≤13 by omega)
  have t2:tri (d+1)*s≤91*1000000:=Nat.mul_le_mul t1 hs
  have s1:=q1.size
  have s2:=q2.size
  have c1:=q1.canon
  have c2:=q2.canon
  have c3:=canon_add c1 c2
  simp only [go_sem,ac___coupler_maker__norm,hr,hm,ha]
  repeat (first | (refine And.intro (by omega) ?_) | (refine And.intro (by assumption) ?_) | (refine And.intro rfl ?_) | (refine And.intro ⟨rfl,by omega⟩ ?_) | (refine And.intro ⟨rfl,by omega,by omega⟩ ?_) | (intro _))
  rw [back_h hr];exact hK
set_option maxHeartbeats 1000000 in
theorem cbld_sound (hΓ:Holds P Γ) {f fl fo fs fn ft fq fm fk fc fa fb fu:Nat} (hl:Γ fl=.red clin_G) (ho:Γ fo=.dat false rof_G) (hs:Γ fs=.dat false rsub_G) (hn:Γ fn=.dat false rneg_G) (ht:Γ ft=.red ctim_G) (hq' : Γ fq=.dat false csq2_G) (hm:Γ fm=.dat false rmul_G) (hk:Γ fk=.red cnrm_G) (hcn:Γ fc=.red ccon_G) (ha:Γ fa=.red cadd_G) (hb:Γ fb=.red csub_G) (hu:Γ fu=.red cmul_G) (hc:check P f=some (111,(ac___coupler_maker__build fl fo fs fn ft fq fm fk fc fa fb fu).strip,[.cell 4 7 true])):Sound P f (.red cbld_G):=by
 refine sound_red hc cbld_good hΓ (fun rest h r ver K hr hcl hfi hG=>?_)
 match rest,hG with
 | [a],hG=>
  obtain ⟨c,rfl,hw,hl1,hK⟩:=hG
  refine ⟨by simp,?_⟩
  have hB:=cb_cpv hw hl1
  obtain ⟨wo,wq,w1,w2,w3,w4,w5⟩:=id hw
  have hl0:=hl1
  unfold cl at hl0
  simp only [Nat.max_le]at hl0
  obtain ⟨l1,l2,l3,l4,l5,l6,l7⟩:=hl0
  have wo1:=wo.1
  have wo2:=wo.2
  have wq1:=wq.1
  have wq2:=wq.2
  have lo1:=(Nat.max_le.1 l1).1
  have lo2:=(Nat.max_le.1 l1).2
  have lq1:=(Nat.max_le.1 l2).1
  have lq2:=(Nat.max_le.1 l2).2
  have z1:=rz_1
  have x1:PB 1 1006 (linB false (rv c.1.1)):=PB.lx hB.o1
  have x2:PB 1 1006 (linB true (rv c.1.2)):=PB.lx hB.o2
  have x3:PB 1 1006 (linB false (rv c.2.1.1)):=PB.lx hB.q1
  have x4:PB 1 1006 (linB true (rv c.2.1.2)):=PB.lx hB.q2
  have y1:=x1.canon
  have y2:=x2.canon
  have y3:=x3.canon
  have y4:=x4.canon
  have ru:rz (rv c.2.2.2.2.2.1)≤1000:=hB.u
  have rw' : rz (rv c.2.2.2.2.2.2)≤1000:=hB.v
  have rb:rz (rv c.2.2.2.1)≤1000:=hB.b2
  have ra:rz (rv c.2.2.1)≤1000:=hB.a2
  have rc:rz (rv c.2.2.2.2.1)≤1000:=hB.c2
  have rr:rz (1-rv c.2.2.2.2.2.1)≤1004:=rz_re hB
  have rn:rz (-rv c.2.2.2.2.2.2)≤1000:=by rw [rz_neg];exact rw'
  have t1:tOk (linB false (rv c.1.1),linB true (rv c.1.2)) (rv c.2.2.2.2.2.1) (-rv c.2.2.2.2.2.2):=⟨x1,x2,by omega,by omega⟩
  have t2:tOk (linB false (rv c.2.1.1),linB true (rv c.2.1.2)) (1-rv c.2.2.2.2.2.1) (rv c.2.2.2.2.2.2):=⟨x3,x4,by omega,by omega⟩
  have n1:nOk (linB false (rv c.1.1),linB true (rv c.1.2)):=⟨1,1006,x1,x2,by decide,by decide⟩
  have n2:nOk (linB false (rv c.2.1.1),linB true (rv c.2.1.2)):=⟨1,1006,x3,x4,by decide,by decide⟩
  have k1:=rz_sq (rv c.2.2.2.2.2.1,rv c.2.2.2.2.2.2)
  have k2:zq (rv c.2.2.2.2.2.1,rv c.2.2.2.2.2.2)≤1000:=Nat.max_le.2 ⟨ru,rw'⟩
  have k3:=rz_mul (sqQ (rv c.2.2.2.2.2.1,rv c.2.2.2.2.2.2)) (rv c.2.2.2.1)
  have k4:=rz_sub (sqQ (rv c.2.2.2.2.2.1,rv c.2.2.2.2.2.2)*rv c.2.2.2.1) (rv c.2.2.1)
  have k5:=rz_sq (1-rv c.2.2.2.2.2.1,rv c.2.2.2.2.2.2)
  have k6:zq (1-rv c.2.2.2.2.2.1,rv c.2.2.2.2.2.2)≤1004:=Nat.max_le.2 ⟨rr,Nat.le_trans rw' (by decide)⟩
  have k7:=rz_mul (sqQ (1-rv c.2.2.2.2.2.1,rv c.2.2.2.2.2.2)) (rv c.2.2.2.1)
  have k8:=rz_sub (rv c.2.2.2.2.1) (sqQ (1-rv c.2.2.2.2.2.1,rv c.2.2.2.2.2.2)*rv c.2.2.2.1)
  have y12:=And.intro y1 y2
  have y34:=And.intro y3 y4
  have e1:PB 2 12072 (nrmB (linB false (rv c.1.1),linB true (rv c.1.2))):=pb_no (o:=(rv c.1.1,rv c.1.2)) hB.o1 hB.o2
  have e2:PB 2 12072 (nrmB (linB false (rv c.2.1.1),linB true (rv c.2.1.2))):=pb_no (o:=(rv c.2.1.1,rv c.2.1.2)) hB.q1 hB.q2
  have e1c:=e1.canon
  have e1s:=e1.size
  have e2c:=e2.canon
  have e2s:=e2.size
  have b1:=PB.con (sqQ (rv c.2.2.2.2.2.1,rv c.2.2.2.2.2.2)*rv c.2.2.2.1-rv c.2.2.1)
  have b2:=PB.con (rv c.2.2.2.2.1-sqQ (1-rv c.2.2.2.2.2.1,rv c.2.2.2.2.2.2)*rv c.2.2.2.1)
  have b1c:=b1.canon
  have b1s:=b1.size
  have b2c:=b2.canon
  have b2s:=b2.size
  have A1:PB 1 8100 (timB (linB false (rv c.1.1),linB true (rv c.1.2)) (rv c.2.2.2.2.2.1) (-rv c.2.2.2.2.2.2)).1:=(pb_al hB).1
  have A2:PB 1 8100 (timB (linB false (rv c.1.1),linB true (rv c.1.2)) (rv c.2.2.2.2.2.1) (-rv c.2.2.2.2.2.2)).2:=(pb_al hB).2
  have B1:PB 1 8200 (timB (linB false (rv c.2.1.1),linB true (rv c.2.1.2)) (1-rv c.2.2.2.2.2.1) (rv c.2.2.2.2.2.2)).1:=(pb_be hB).1
  have B2:PB 1 8200 (timB (linB false (rv c.2.1.1),linB true (rv c.2.1.2)) (1-rv c.2.2.2.2.2.1) (rv c.2.2.2.2.2.2)).2:=(pb_be hB).2
  obtain ⟨m1,m2⟩:=A1.mulok B2 (by decide) (by decide)
  obtain ⟨m3,m4⟩:=A2.mulok B1 (by decide) (by decide)
  have M1:=A1.mul B2 (by decide)
  have M2:=A2.mul B1 (by decide)
  have tt:tri (1+1)=3:=rfl
  rw [tt]at M1 M2
  have A1c:=A1.canon
  have A2c:=A2.canon
  have B1c:=B1.canon
  have B2c:=B2.canon
  have M1c:=M1.canon
  have M1s:=M1.size
  have M2c:=M2.canon
  have M2s:=M2.size
  have q1:rl c.1.1≤1000000:=Nat.le_trans lo1 (by decide)
  have q2:rl c.1.2≤1000000:=Nat.le_trans lo2 (by decide)
  have q3:rl c.2.1.1≤1000000:=Nat.le_trans lq1 (by decide)
  have q4:rl c.2.1.2≤1000000:=Nat.le_trans lq2 (by decide)
  have q5:rz 1≤4294967296:=Nat.le_trans z1 (by decide)
  have q6:rl c.2.2.2.2.2.1≤4294967296:=Nat.le_trans l6 (by decide)
  have q7:rl c.2.2.2.2.2.2≤4294967296:=Nat.le_trans l7 (by decide)
  have q8:rl c.2.2.2.2.2.1≤1000000:=Nat.le_trans l6 (by decide)
  have q9:rl c.2.2.2.2.2.2≤1000000:=Nat.le_trans l7 (by decide)
  have q10:rl c.2.2.2.2.2.1≤100000000:=Nat.le_trans l6 (by decide)
  have q11:rl c.2.2.2.2.2.2≤100000000:=Nat.le_trans l7 (by decide)
  have q12:rz (-rv c.2.2.2.2.2.2)≤1000000:=Nat.le_trans rn (by decide)
  have q13:rz (1-rv c.2.2.2.2.2.1)≤1000000:=Nat.le_trans rr (by decide)
  have q14:rz (1-rv c.2.2.2.2.2.1)≤100000000:=Nat.le_trans rr (by decide)
  have q15:rl c.2.2.2.1≤4294967296:=Nat.le_trans l4 (by decide)
  have q16:rl c.2.2.1≤4294967296:=Nat.le_trans l3 (by decide)
  have q17:rl c.2.2.2.2.1≤4294967296:=Nat.le_trans l5 (by decide)
  have q18:rz (sqQ (rv c.2.2.2.2.2.1,rv c.2.2.2.2.2.2))≤4294967296:=by omega
  have q19:rz (sqQ (rv c.2.2.2.2.2.1,rv c.2.2.2.2.2.2)*rv c.2.2.2.1)≤4294967296:=by omega
  have q20:rz (sqQ (1-rv c.2.2.2.2.2.1,rv c.2.2.2.2.2.2))≤4294967296:=by omega
  have q21:rz (sqQ (1-rv c.2.2.2.2.2.1,rv c.2.2.2.2.2.2)*rv c.2.2.2.1)≤4294967296:=by omega
  have q22a:=rz_fi hB
  have q23a:=rz_se hB
  have q22:rz (sqQ (rv c.2.2.2.2.2.1,rv c.2.2.2.2.2.2)*rv c.2.2.2.1-rv c.2.2.1)≤1000000:=Nat.le_trans q22a (by decide)
  have q23:rz (rv c.2.2.2.2.1-sqQ (1-rv c.2.2.2.2.2.1,rv c.2.2.2.2.2.2)*rv c.2.2.2.1)≤1000000:=Nat.le_trans q23a (by decide)
  have q24:=Nat.le_trans (Nat.add_le_add e1s (Nat.le_trans b1s (Nat.add_le_add_right q22a 2))) (by decide:12072+(10000+2)≤1000000000)
  have q25:=Nat.le_trans (Nat.add_le_add (Nat.le_trans b2s (Nat.add_le_add_right q23a 2)) e2s) (by decide:(10000+2)+12072≤1000000000)
  have q26:=Nat.le_trans (Nat.add_le_add M1s M2s) (by decide:_≤1000000000)
  simp only [go_sem,ac___coupler_maker__build,hr,hl,ho,hs,hn,ht,hq',hm,hk,hcn,ha,hb,hu,cpA,cpC,mk_eta,rv_rcan,rone1,vld_rcan]
  repeat (first | (refine And.intro (by with_reducible assumption) ?_) | (refine And.intro (by decide) ?_))
  rw [back_h hr];exact hK
end Go.Abs
end
section
set_option linter.unusedVariables false
set_option linter.unusedSimpArgs false
set_option maxRecDepth 100000
namespace Go.Num
open Go.Abs
theorem nOk_mk {d s:Nat} {x y:BQ} (h1:PB d s x) (h2:PB d s y) (hd:d+d≤24) (hs:s≤1000000):nOk (x,y):=⟨d,s,h1,h2,hd,hs⟩
theorem av_c2 (a:V2):av (rcan a.1,rcan a.2)=a:=av_can a
theorem cchk2_0 {c:Cp} {l:List Arc} (h:cchk2 c l=0):cchk c=0∧l.all avld=true:=by
 unfold cchk2 at h
 split at h
 ·rename_i h1;exact absurd h h1
 ·rename_i h1
  split at h
  ·contradiction
  ·rename_i h2;exact ⟨by omega,by simpa using h2⟩
theorem ordQ_0d (x:Rat):decide (ordQ x 0=0)=decide (x=0):=by rw [decide_eq_decide];exact ordQ_eq0
theorem ordQ_0p (x:Rat):(ordQ x 0=0)=(x=0):=propext ordQ_eq0
instance decH (c:CpR) (a b:V2):Decidable (hldQ c a b):=inferInstanceAs (Decidable (_∧_∧_))
theorem zq_d (a b:V2):rz (sqQ (subQ a b))≤4*zq a+4*zq b+14:=by
 have h1:=zq_sub a b
 have h2:=rz_sq (subQ a b)
 omega
theorem zq_tim (a:V2) (u w:Rat):zq (timQ a u w)≤2*zq a+rz u+rz w+6:=by
 have a1:rz a.1≤zq a:=Nat.le_max_left _ _
 have a2:rz a.2≤zq a:=Nat.le_max_right _ _
 have m1:=rz_mul a.1 u
 have m2:=rz_mul a.2 w
 have m3:=rz_mul a.2 u
 have m4:=rz_mul a.1 w
 have s1:=rz_sub (a.1*u) (a.2*w)
 have s2:=rz_add (a.2*u) (a.1*w)
 exact Nat.max_le.2 ⟨by show rz (a.1*u-a.2*w)≤_;omega,by show rz (a.2*u+a.1*w)≤_;omega⟩
end Go.Num
namespace Go.Abs
open Go.Num
variable {P:Program} {Γ:Nat→Spec}
def cpcv_G (tE:Nat) (l:List AV) (K:AV→Prop):Prop:=
 match l with
 | [c]=>onCp (fun c=>cl c≤1000∧K (.tup [.one (.slice ((bres (cchk c) (cCur (cpv c))).map mC)),errV tE (cchk c)])) c
 | _=>False
theorem cpcv_Ge (tE:Nat) (c:AV) (K:AV→Prop):cpcv_G tE [c] K=(onCp (fun c=>cl c≤1000∧K (.tup [.one (.slice ((bres (cchk c) (cCur (cpv c))).map mC)),errV tE (cchk c)])) c):=propext Iff.rfl
@[congr] theorem cpcv_Gc (tE:Nat) {K:AV→Prop} {l l' : List AV} (h:l=l'):cpcv_G tE l K=cpcv_G tE l' K:=by subst h;rfl
attribute [go_sem] cpcv_Ge
attribute [go_sem ↓] cpcv_Ge
theorem cpcv_good (tE:Nat):Good (cpcv_G tE):=good_of fun as=>by
 unfold cpcv_G
 split
 ·exact (g_onCp fun _=>(.and fun _=>(.ret _)))
 ·exact .of fun K hk=>hk.elim
def cpci_G (tE:Nat) (l:List AV) (K:AV→Prop):Prop:=
 match l with
 | [c]=>onCp (fun c=>cl c≤1000∧K (.tup [.one (.slice ((bres (cchk c) (cM (cpv c))).map mC)),errV tE (cchk c)])) c
 | _=>False
theorem cpci_Ge (tE:Nat) (c:AV) (K:AV→Prop):cpci_G tE [c] K=(onCp (fun c=>cl c≤1000∧K (.tup [.one (.slice ((bres (cchk c) (cM (cpv c))).map mC)),errV tE (cchk c)])) c):=propext Iff.rfl
@[congr] theorem cpci_Gc (tE:Nat) {K:AV→Prop} {l l' : List AV} (h:l=l'):cpci_G tE l K=cpci_G tE l' K:=by subst h;rfl
attribute [go_sem] cpci_Ge
attribute [go_sem ↓] cpci_Ge
def cpon_G (tE:Nat) (l:List AV) (K:AV→Prop):Prop:=
 match l with
 | [c,p]=>onCp (fun c=>onA (fun p=>cl c≤1000∧al p≤10000∧K (.tup [.one (.lit (.bool (decide (cchk2 c [p]=0) && decide (wV (cpv c) (av p)=0)))),errV tE (cchk2 c [p])])) p) c
 | _=>False
theorem cpon_Ge (tE:Nat) (c p:AV) (K:AV→Prop):cpon_G tE [c,p] K=(onCp (fun c=>onA (fun p=>cl c≤1000∧al p≤10000∧K (.tup [.one (.lit (.bool (decide (cchk2 c [p]=0) && decide (wV (cpv c) (av p)=0)))),errV tE (cchk2 c [p])])) p) c):=propext Iff.rfl
@[congr] theorem cpon_Gc (tE:Nat) {K:AV→Prop} {l l' : List AV} (h:l=l'):cpon_G tE l K=cpon_G tE l' K:=by subst h;rfl
attribute [go_sem] cpon_Ge
attribute [go_sem ↓] cpon_Ge
theorem cpon_good (tE:Nat):Good (cpon_G tE):=good_of fun as=>by
 unfold cpon_G
 split
 ·exact (g_onCp fun _=>(g_onA fun _=>(.and fun _=>(.and fun _=>(.ret _)))))
 ·exact .of fun K hk=>hk.elim
def cppt_G (tE:Nat) (l:List AV) (K:AV→Prop):Prop:=
 match l with
 | [c,a,b]=>onCp (fun c=>onA (fun a=>onA (fun b=>cl c≤10000∧al a≤10000∧al b≤10000∧K (.tup [pQ (if cchk2 c [a,b]=0 then ptQ (cpv c) (av a) (av b) else (0,0)),errV tE (cchk2 c [a,b])])) b) a) c
 | _=>False
theorem cppt_Ge (tE:Nat) (c a b:AV) (K:AV→Prop):cppt_G tE [c,a,b] K=(onCp (fun c=>onA (fun a=>onA (fun b=>cl c≤10000∧al a≤10000∧al b≤10000∧K (.tup [pQ (if cchk2 c [a,b]=0 then ptQ (cpv c) (av a) (av b) else (0,0)),errV tE (cchk2 c [a,b])])) b) a) c):=propext Iff.rfl
@[congr] theorem cppt_Gc (tE:Nat) {K:AV→Prop} {l l' : List AV} (h:l=l'):cppt_G tE l K=cppt_G tE l' K:=by subst h;rfl
attribute [go_sem] cppt_Ge
attribute [go_sem ↓] cppt_Ge
theorem cppt_good (tE:Nat):Good (cppt_G tE):=good_of fun as=>by
 unfold cppt_G
 split
 ·exact (g_onCp fun _=>(g_onA fun _=>(g_onA fun _=>(.and fun _=>(.and fun _=>(.and fun _=>(.ret _)))))))
 ·exact .of fun K hk=>hk.elim
def cphd_G (tE:Nat) (l:List AV) (K:AV→Prop):Prop:=
 match l with
 | [c,a,b]=>onCp (fun c=>onA (fun a=>onA (fun b=>cl c≤10000∧al a≤10000∧al b≤10000∧K (.tup [.one (.lit (.bool (decide (cchk2 c [a,b]=0) && decide (hldQ (cpv c) (av a) (av b))))),errV tE (cchk2 c [a,b])])) b) a) c
 | _=>False
theorem cphd_Ge (tE:Nat) (c a b:AV) (K:AV→Prop):cphd_G tE [c,a,b] K=(onCp (fun c=>onA (fun a=>onA (fun b=>cl c≤10000∧al a≤10000∧al b≤10000∧K (.tup [.one (.lit (.bool (decide (cchk2 c [a,b]=0) && decide (hldQ (cpv c) (av a) (av b))))),errV tE (cchk2 c [a,b])])) b) a) c):=propext Iff.rfl
@[congr] theorem cphd_Gc (tE:Nat) {K:AV→Prop} {l l' : List AV} (h:l=l'):cphd_G tE l K=cphd_G tE l' K:=by subst h;rfl
attribute [go_sem] cphd_Ge
attribute [go_sem ↓] cphd_Ge
def ac_coupler_Curve (f0 f1 f2 f3 f4 f5 f6 f7:Nat):AC:=(.seq (.ops false [.u 1 (.box 27 (.t 0)),.m 2 (.c (.one .emp)),.m 3 (.c (.one (.lit .nilIface)))])
 (.fg [1] (.seq (.seq (.ops false [.u 11 (.ld none 27 true (.t 1)),.u 12 (.call f0 [(.t 11)]),.m 4 (.t 12)])
 (.fg [1,4] (.seq (.ops false [.m 13 (.t 4),.u 14 (.binn .neq (.t 13) (.c (.one (.lit .nilIface))))])
 (.fg [1,4,14] (.cond (.t 14) (.seq (.ops false [.m 15 (.t 4),.m 2 (.c (.one .emp)),.m 3 (.t 15)])
 .ret) .skip)))))
 (.fg [1] (.seq (.ops false [.u 16 (.build [.z [(.lit .nilIface)]]),.u 17 (.box 1 (.t 16)),.m 5 (.t 17)])
 (.fg [1,5] (.seq (.ops false [.m 18 (.t 5),.u 19 (.ld none 27 true (.t 1)),.u 20 (.callr f1 [(.t 18),(.t 19)]),.u 6 (.alloc [.emp,.emp,.emp,.emp,.emp,.emp,.emp]),.n (.st none 7 (.t 6) (.t 20))])
 (.fg [1,5,6] (.seq (.ops true [.m 21 (.t 5),.m 22 (.t 5),.u 23 (.fa 4 (.t 6)),.u 24 (.ld none 1 false (.t 23)),.u 25 (.fa 2 (.t 6)),.u 26 (.fa 1 (.t 25)),.u 27 (.ld none 1 false (.t 26)),.u 28 (.callr f2 [(.t 22),(.t 24),(.t 27)]),.m 29 (.t 5),.u 30 (.fa 5 (.t 6)),.u 31 (.ld none 1 false (.t 30)),.u 32 (.fa 0 (.t 6)),.u 33 (.fa 1 (.t 32)),.u 34 (.ld none 1 false (.t 33)),.u 35 (.callr f2 [(.t 29),(.t 31),(.t 34)]),.u 36 (.callr f3 [(.t 21),(.t 28),(.t 35)]),.m 7 (.t 36)])
 (.fg [1,5,6,7] (.seq (.ops true [.m 37 (.t 5),.m 38 (.t 5),.u 39 (.fa 5 (.t 6)),.u 40 (.ld none 1 false (.t 39)),.u 41 (.fa 0 (.t 6)),.u 42 (.fa 0 (.t 41)),.u 43 (.ld none 1 false (.t 42)),.u 44 (.callr f2 [(.t 38),(.t 40),(.t 43)]),.m 45 (.t 5),.u 46 (.fa 4 (.t 6)),.u 47 (.ld none 1 false (.t 46)),.u 48 (.fa 2 (.t 6)),.u 49 (.fa 0 (.t 48)),.u 50 (.ld none 1 false (.t 49)),.u 51 (.callr f2 [(.t 45),(.t 47),(.t 50)]),.u 52 (.callr f3 [(.t 37),(.t 44),(.t 51)]),.m 8 (.t 52)])
 (.fg [1,5,6,7,8] (.seq (.ops true [.m 53 (.t 5),.m 54 (.t 5),.u 55 (.fa 6 (.t 6)),.u 56 (.ld none 1 false (.t 55)),.u 57 (.fa 6 (.t 6)),.u 58 (.ld none 1 false (.t 57)),.u 59 (.callr f2 [(.t 54),(.t 56),(.t 58)]),.u 60 (.call f4 [(.i 4)]),.u 61 (.fa 15 (.t 1)),.u 62 (.ld none 3 true (.t 61)),.u 63 (.call f5 [(.t 60),(.t 62)]),.u 64 (.callr f6 [(.t 53),(.t 59),(.t 63)]),.m 9 (.t 64)])
 (.fg [5,7,8,9] (.seq (.ops false [.m 65 (.t 5),.m 66 (.t 5),.m 67 (.t 7),.m 68 (.t 8),.u 69 (.build [.x 1 (.t 67),.x 1 (.t 68)]),.u 70 (.callr f7 [(.t 66),(.t 69)]),.m 71 (.t 9),.u 72 (.callr f3 [(.t 65),(.t 70),(.t 71)]),.m 10 (.t 72)])
 (.fg [5,10] (.seq (.ops true [.m 73 (.t 10),.m 74 (.t 5),.u 75 (.nilck (.t 74)),.u 76 (.fa 0 (.t 75)),.u 77 (.ld none 1 false (.t 76)),.m 2 (.t 73),.m 3 (.t 77)])
 .ret)))))))))))))))))
def ac_coupler_On (f0 f1 f2 f3:Nat):AC:=(.seq (.ops false [.u 2 (.box 27 (.t 0)),.u 3 (.box 6 (.t 1)),.m 4 .fa,.m 5 (.c (.one (.lit .nilIface)))])
 (.fg [2,3] (.seq (.seq (.ops false [.u 10 (.ld none 27 true (.t 2)),.u 11 (.ld none 6 true (.t 3)),.u 12 (.row 6 [[.x 6 (.t 11)]]),.u 13 (.call f0 [(.t 10),(.t 12)]),.m 6 (.t 13)])
 (.fg [2,3,6] (.seq (.ops false [.m 14 (.t 6),.u 15 (.binn .neq (.t 14) (.c (.one (.lit .nilIface))))])
 (.fg [2,3,6,15] (.cond (.t 15) (.seq (.ops false [.m 16 (.t 6),.m 4 .fa,.m 5 (.t 16)])
 .ret) .skip)))))
 (.fg [2,3] (.seq (.ops false [.u 18 (.ld none 27 true (.t 2)),.u 19 (.call f1 [(.t 18)]),.m 17 (.t 19),.u 20 (.ext 0 (.t 17)),.u 21 (.ext 1 (.t 17)),.m 7 (.t 20),.m 8 (.t 21)])
 (.fg [3,7,8] (.seq (.seq (.ops false [.m 22 (.t 8),.u 23 (.binn .neq (.t 22) (.c (.one (.lit .nilIface))))])
 (.fg [3,7,8,23] (.cond (.t 23) (.seq (.ops false [.m 24 (.t 8),.m 4 .fa,.m 5 (.t 24)])
 .ret) .skip)))
 (.fg [3,7] (.seq (.ops false [.m 26 (.t 7),.u 27 (.fa 0 (.t 3)),.u 28 (.ld none 3 true (.t 27)),.u 29 (.fa 3 (.t 3)),.u 30 (.ld none 3 true (.t 29)),.u 31 (.call f2 [(.t 26),(.t 28),(.t 30)]),.m 25 (.t 31),.u 32 (.ext 0 (.t 25)),.u 33 (.ext 1 (.t 25)),.u 9 (.alloc [(.lit (.bool false)),.emp,.emp]),.n (.st none 3 (.t 9) (.t 32)),.m 8 (.t 33)])
 (.fg [8,9] (.seq (.ops false [.m 34 (.t 8),.u 35 (.binn .eql (.t 34) (.c (.one (.lit .nilIface)))),.m 36 (.t 35),.w 37 36 true (.ld none 3 true (.t 9)),.w 38 36 true (.call f3 [(.t 37)]),.w 39 36 true (.bin .eql (.t 38) (.i 0)),.u 40 (.pick (.t 36) (.t 39) .fa),.m 41 (.t 8),.m 4 (.t 40),.m 5 (.t 41)])
 .ret)))))))))))
def ac_coupler_Point (f0 f1 f2 f3:Nat):AC:=(.seq (.ops false [.u 3 (.box 27 (.t 0)),.u 4 (.box 6 (.t 1)),.u 5 (.box 6 (.t 2)),.u 6 (.alloc [(.lit (.bool false)),.emp,.emp,(.lit (.bool false)),.emp,.emp]),.m 7 (.c (.one (.lit .nilIface)))])
 (.fg [3,4,5,6] (.seq (.seq (.ops false [.u 9 (.ld none 27 true (.t 3)),.u 10 (.ld none 6 true (.t 4)),.u 11 (.ld none 6 true (.t 5)),.u 12 (.row 6 [[.x 6 (.t 10)],[.x 6 (.t 11)]]),.u 13 (.call f0 [(.t 9),(.t 12)]),.m 8 (.t 13)])
 (.fg [3,4,5,6,8] (.seq (.ops false [.m 14 (.t 8),.u 15 (.binn .neq (.t 14) (.c (.one (.lit .nilIface))))])
 (.fg [3,4,5,6,8,15] (.cond (.t 15) (.seq (.ops false [.u 16 (.build [.z [(.lit (.bool false)),.emp,.emp,(.lit (.bool false)),.emp,.emp]]),.m 17 (.t 8),.n (.st none 6 (.t 6) (.t 16)),.m 7 (.t 17)])
 .ret) .skip)))))
 (.fg [3,4,5,6] (.seq (.ops true [.u 18 (.ld none 6 true (.t 4)),.u 19 (.ld none 6 true (.t 5)),.u 20 (.ld none 6 true (.t 4)),.u 21 (.call f1 [(.t 19),(.t 20)]),.u 22 (.fa 21 (.t 3)),.u 23 (.ld none 3 true (.t 22)),.u 24 (.fa 24 (.t 3)),.u 25 (.ld none 3 true (.t 24)),.u 26 (.call f2 [(.t 21),(.t 23),(.t 25)]),.u 27 (.call f3 [(.t 18),(.t 26)]),.n (.st none 6 (.t 6) (.t 27)),.m 7 (.c (.one (.lit .nilIface)))])
 .ret)))))
set_option maxHeartbeats 2000000 in
theorem cpcv_sound (hΓ:Holds P Γ) {f fk fb fm fs fo ft fl fn tE:Nat} (hk:Γ fk=.dat false (cpck_G tE)) (hb:Γ fb=.red cbld_G) (hm:Γ fm=.red cmul_G) (hs:Γ fs=.red csub_G) (ho:Γ fo=.dat false rof_G) (ht:Γ ft=.dat false rmul_G) (hl' : Γ fl=.red cscale_G) (hn:Γ fn=.red cnrm_G) (hc:check P f=some (78,(ac_coupler_Curve fk fb fm fs fo ft fl fn).strip,[.tmp 2,.tmp 3])):Sound P f (.dat false (cpcv_G tE)):=by
 refine sound_dat hc (cpcv_good tE) hΓ (fun args K hcl hfi hG=>?_)
 match args,hG with
 | [a],hG=>
  obtain ⟨c,rfl,hw,hl,hK⟩:=hG
  refine ⟨by simp,?_⟩
  have hl2:cl c≤100000000:=Nat.le_trans hl (by decide)
  by_cases h0:cchk c=0
  ·have e0:=errV_0 tE
   rw [←h0]at e0
   rw [h0,bres_0,errV_0]at hK
   have hB:=cb_cpv hw hl
   have i4:((4:Int):Rat)=4:=rfl
   have w4:=hw.2.2.2.1
   have l4:rl c.2.2.2.1≤4294967296:=by unfold cl at hl;omega
   have z4:rz 4≤4294967296:=Nat.le_trans rz_4 (by decide)
   have z4c:=rz_4b hB
   have eb:(cpv c).2.2.2.1=rv c.2.2.2.1:=rfl
   rw [eb]at z4c
   have z4b:=Nat.le_trans z4c (by decide:_≤1000000)
   have pe:=pb_e hB
   have pf:=pb_f hB
   obtain ⟨a1,a2⟩:=pb_al hB
   obtain ⟨b1,b2⟩:=pb_be hB
   have pm:=pb_m hB
   have c1:=pe.canon
   have c2:=pf.canon
   have c3:=a1.canon
   have c4:=a2.canon
   have c5:=b1.canon
   have c6:=b2.canon
   have c7:=pm.canon
   obtain ⟨m1,m2⟩:=pe.mulok b2 (by decide) (by decide)
   obtain ⟨m3,m4⟩:=pf.mulok a2 (by decide) (by decide)
   obtain ⟨m5,m6⟩:=pf.mulok a1 (by decide) (by decide)
   obtain ⟨m7,m8⟩:=pe.mulok b1 (by decide) (by decide)
   obtain ⟨m9,m10⟩:=pm.mulok pm (by decide) (by decide)
   have t1:tri (1+1)=3:=rfl
   have t2:tri (2+1)=6:=rfl
   have M1:=pe.mul b2 (by decide)
   have M2:=pf.mul a2 (by decide)
   have M3:=pf.mul a1 (by decide)
   have M4:=pe.mul b1 (by decide)
   rw [t1,t2]at M1 M2 M3 M4
   have s1:=Nat.le_trans (Nat.add_le_add M1.size M2.size) (by decide:_≤1000000000)
   have s2:=Nat.le_trans (Nat.add_le_add M3.size M4.size) (by decide:_≤1000000000)
   have k1:=M1.canon
   have k2:=M2.canon
   have k3:=M3.canon
   have k4:=M4.canon
   have pmm:PB 4 1176000 (mulB (cM (cpv c)) (cM (cpv c))):=pb_mm hB
   have k5:=pmm.canon
   have s3:=Nat.le_trans pmm.size (by decide:_≤100000000)
   have px:PB 3 240000 (subB (mulB (cE (cpv c)) (cBe (cpv c)).2) (mulB (cF (cpv c)) (cAl (cpv c)).2)):=pb_x hB
   have py:PB 3 240000 (subB (mulB (cF (cpv c)) (cAl (cpv c)).1) (mulB (cE (cpv c)) (cBe (cpv c)).1)):=pb_y hB
   have k6:=And.intro px.canon py.canon
   have n1:nOk (subB (mulB (cE (cpv c)) (cBe (cpv c)).2) (mulB (cF (cpv c)) (cAl (cpv c)).2),subB (mulB (cF (cpv c)) (cAl (cpv c)).1) (mulB (cE (cpv c)) (cBe (cpv c)).1)):=nOk_mk px py (by decide) (by decide)
   have pnn:PB 6 9600000 (nrmB (subB (mulB (cE (cpv c)) (cBe (cpv c)).2) (mulB (cF (cpv c)) (cAl (cpv c)).2),subB (mulB (cF (cpv c)) (cAl (cpv c)).1) (mulB (cE (cpv c)) (cBe (cpv c)).1))):=pb_nn hB
   have pla:=pb_la hB
   unfold cLa cMM at pla
   rw [eb]at pla
   have k7:=pnn.canon
   have k8:=pla.canon
   have s4:=Nat.le_trans (Nat.add_le_add pnn.size pla.size) (by decide:_≤1000000000)
   simp only [go_sem,ac_coupler_Curve,hk,hb,hm,hs,ho,ht,hl',hn,cpA,cpC,mk_eta,rv_rcan,i4,e0]
   repeat (first | (refine And.intro (by with_reducible assumption) ?_) | (refine And.intro (Nat.le_trans (by with_reducible assumption) (by decide)) ?_) | (refine And.intro (by decide) ?_))
   exact hK
  ·have e0:=errV_s tE h0
   rw [bres_s h0,e0]at hK
   simp only [go_sem,ac_coupler_Curve,hk,cpA,cpC,mk_eta,e0]
   repeat (first | (refine And.intro (by with_reducible assumption) ?_) | (refine And.intro (Nat.le_trans (by with_reducible assumption) (by decide)) ?_) | (refine And.intro (by decide) ?_))
   exact hK
theorem cpon_sound (hΓ:Holds P Γ) {f fk fv fe fg tE:Nat} (hk:Γ fk=.dat false (cpcks_G tE)) (hv:Γ fv=.dat false (cpcv_G tE)) (he:Γ fe=.dat false (beval_G tE)) (hg:Γ fg=.dat true rsign_G) (hc:check P f=some (42,(ac_coupler_On fk fv fe fg).strip,[.tmp 4,.tmp 5])):Sound P f (.dat false (cpon_G tE)):=by
 refine sound_dat hc (cpon_good tE) hΓ (fun args K hcl hfi hG=>?_)
 match args,hG with
 | [a,b],hG=>
  obtain ⟨c,rfl,hw,⟨x,y⟩,rfl,hwp,hl,hlp,hK⟩:=hG
  refine ⟨by simp,?_⟩
  have hl2:cl c≤100000000:=Nat.le_trans hl (by decide)
  have hl1:=Nat.max_le.1 hlp
  have lx:=hl1.1
  have ly:=hl1.2
  have wx:=hwp.1
  have wy:=hwp.2
  simp only at lx ly wx wy
  have hwl:∀q∈[(x,y)],WLA q:=fun q hq=>by rw [List.mem_singleton.1 hq];exact hwp
  have hok:okAs 100000000 [(x,y)]:=fun q hq=>by rw [List.mem_singleton.1 hq];exact ⟨hwp,Nat.le_trans hlp (by decide)⟩
  by_cases h0:cchk2 c [(x,y)]=0
  ·have e0:=errV_0 tE
   obtain ⟨h1,h2⟩:=cchk2_0 h0
   rw [h0,errV_0]at hK
   have hB:=cb_cpv hw hl
   have pc:=pb_cur hB
   have cc:=chk_canon pc.canon
   have ev0:=ev_cur hB (av (x,y))
   have i0:=WLM_mcs pc.canon.ins
   have i1:=mcs_rl (p:=cCur (cpv c)) (N:=1000000000) (Nat.le_trans pc.size (by decide))
   have i2:=Nat.le_trans pc.size (by decide:_≤100000000)
   have i3:ev (cCur (cpv c)) (rv x) (rv y)=wV (cpv c) (av (x,y)):=ev0
   have z:=rz_ev pc.canon.ins (rv x) (rv y)
   have z1:=canon_len pc.canon
   have z2:=rz_rv wx
   have z3:=rz_rv wy
   have z4:rz (wV (cpv c) (av (x,y)))≤4294967296:=by
    rw [i3]at z
    have z5:=pc.size
    have z6:(cCur (cpv c)).length*(24*(rz (rv x)+2)+24*(rz (rv y)+2)+8)≤325*(24*(10000+2)+24*(10000+2)+8):=Nat.mul_le_mul z1 (by omega)
    omega
   have g0:decide (0=0)=true:=rfl
   rw [g0,Bool.true_and]at hK
   simp only [go_sem,ac_coupler_On,hk,hv,he,hg,cpA,cpC,mk_eta,aC_eq,h0,h1,e0,bres_0,mvs_mcs,cc,i3,rv_rcan,ordQ_0d]
   repeat (first | (refine And.intro (by with_reducible assumption) ?_) | (refine And.intro (Nat.le_trans (by with_reducible assumption) (by decide)) ?_) | (refine And.intro (by decide) ?_))
   exact hK
  ·have e0:=errV_s tE h0
   rw [e0,decide_eq_false h0,Bool.false_and]at hK
   simp only [go_sem,ac_coupler_On,hk,hv,he,hg,cpA,cpC,mk_eta,aC_eq,e0]
   repeat (first | (refine And.intro (by with_reducible assumption) ?_) | (refine And.intro (Nat.le_trans (by with_reducible assumption) (by decide)) ?_) | (refine And.intro (by decide) ?_))
   exact hK
theorem cppt_sound (hΓ:Holds P Γ) {f fk fs ft fa tE:Nat} (hk:Γ fk=.dat false (cpcks_G tE)) (hs:Γ fs=.dat false pless_G) (ht:Γ ft=.dat false cpt_G) (ha:Γ fa=.dat false pplus_G) (hc:check P f=some (28,(ac_coupler_Point fk fs ft fa).strip,[.cell 6 6 true,.tmp 7])):Sound P f (.dat false (cppt_G tE)):=by
 refine sound_dat hc (cppt_good tE) hΓ (fun args K hcl hfi hG=>?_)
 match args,hG with
 | [a,b,d],hG=>
  obtain ⟨c,rfl,hw,p,rfl,wp,q,rfl,wq,hl,hlp,hlq,hK⟩:=hG
  refine ⟨by simp,?_⟩
  have hl2:cl c≤100000000:=Nat.le_trans hl (by decide)
  have hlp2:al p≤100000000:=Nat.le_trans hlp (by decide)
  have hlq2:al q≤100000000:=Nat.le_trans hlq (by decide)
  have wu:=hw.2.2.2.2.2.1
  have wv:=hw.2.2.2.2.2.2
  have lu:rl c.2.2.2.2.2.1≤100000000:=by unfold cl at hl;omega
  have lv:rl c.2.2.2.2.2.2≤100000000:=by unfold cl at hl;omega
  have hwl:∀z∈[p,q],WLA z:=fun z hz=>by
   simp only [List.mem_cons,List.not_mem_nil,or_false]at hz
   rcases hz with rfl | rfl <;> assumption
  have hok:okAs 100000000 [p,q]:=fun z hz=>by
   simp only [List.mem_cons,List.not_mem_nil,or_false]at hz
   rcases hz with rfl | rfl
   ·exact ⟨wp,hlp2⟩
   ·exact ⟨wq,hlq2⟩
  by_cases h0:cchk2 c [p,q]=0
  ·have e0:=errV_0 tE
   rw [if_pos h0,h0,errV_0]at hK
   have z1:=av_le wp
   have z2:=av_le wq
   have z3:=zq_sub (av q) (av p)
   have z4:=rz_rv wu
   have z5:=rz_rv wv
   have z6:al (rcan (subQ (av q) (av p)).1,rcan (subQ (av q) (av p)).2)≤100000000:=by rw [al_can];change zq _≤_;omega
   have z7:=zq_tim (subQ (av q) (av p)) (rv c.2.2.2.2.2.1) (rv c.2.2.2.2.2.2)
   have z8:al (rcan (timQ (subQ (av q) (av p)) (rv c.2.2.2.2.2.1) (rv c.2.2.2.2.2.2)).1,rcan (timQ (subQ (av q) (av p)) (rv c.2.2.2.2.2.1) (rv c.2.2.2.2.2.2)).2)≤100000000:=by rw [al_can];change zq _≤_;unfold cl at hl;omega
   simp only [go_sem,ac_coupler_Point,hk,hs,ht,ha,cpA,cpC,mk_eta,aC_eq,h0,e0,av_c2]
   repeat (first | (refine And.intro (by with_reducible assumption) ?_) | (refine And.intro (Nat.le_trans (by with_reducible assumption) (by decide)) ?_) | (refine And.intro (by decide) ?_))
   exact hK
  ·have e0:=errV_s tE h0
   rw [if_neg h0,e0,pQ_eq,rcan_zero]at hK
   simp only [go_sem,ac_coupler_Point,hk,hs,ht,ha,cpA,cpC,mk_eta,aC_eq,e0]
   repeat (first | (refine And.intro (by with_reducible assumption) ?_) | (refine And.intro (Nat.le_trans (by with_reducible assumption) (by decide)) ?_) | (refine And.intro (by decide) ?_))
   exact hK
end Go.Abs
end
section
set_option linter.unusedVariables false
set_option linter.unusedSimpArgs false
set_option maxRecDepth 100000
namespace Go.Num
open Go.Abs
def liC (c:Cp) (p:Arc):Nat:=if cchk2 c [p]≠0 then cchk2 c [p] else if wV (cpv c) (av p)≠0 then 21 else if wM (cpv c) (av p)=0 then 15 else 0
theorem wF_eq (c:CpR) (p:V2):c.2.2.2.2.1-sqQ (subQ p c.2.1)-sqQ (cRe c,c.2.2.2.2.2.2)*c.2.2.2.1=wF c p:=by unfold wF cSe;grind
theorem rz_e {c:CpR} (h:CB c) (p:V2):rz (wE c p)≤4*zq p+20000:=by
 have h1:=zq_d p c.1
 have h2:=rz_fi h
 have h3:=rz_add (sqQ (subQ p c.1)) (cFi c)
 have h4:zq c.1≤1000:=Nat.max_le.2 ⟨h.o1,h.o2⟩
 unfold wE;omega
theorem rz_f {c:CpR} (h:CB c) (p:V2):rz (wF c p)≤4*zq p+20000:=by
 have h1:=zq_d p c.2.1
 have h2:=rz_se h
 have h3:=rz_sub (cSe c) (sqQ (subQ p c.2.1))
 have h4:zq c.2.1≤1000:=Nat.max_le.2 ⟨h.q1,h.q2⟩
 unfold wF;omega
end Go.Num
namespace Go.Abs
open Go.Num
variable {P:Program} {Γ:Nat→Spec}
def cpli_G (tE:Nat) (l:List AV) (K:AV→Prop):Prop:=
 match l with
 | [c,p]=>onCp (fun c=>onA (fun p=>cl c≤1000∧al p≤1000∧K (.tup [pQ (if liC c p=0 then endA (cpv c) (av p) (zL (cpv c) (av p)) else (0,0)),pQ (if liC c p=0 then endB (cpv c) (av p) (zL (cpv c) (av p)) else (0,0)),errV tE (liC c p)])) p) c
 | _=>False
theorem cpli_Ge (tE:Nat) (c p:AV) (K:AV→Prop):cpli_G tE [c,p] K=(onCp (fun c=>onA (fun p=>cl c≤1000∧al p≤1000∧K (.tup [pQ (if liC c p=0 then endA (cpv c) (av p) (zL (cpv c) (av p)) else (0,0)),pQ (if liC c p=0 then endB (cpv c) (av p) (zL (cpv c) (av p)) else (0,0)),errV tE (liC c p)])) p) c):=propext Iff.rfl
@[congr] theorem cpli_Gc (tE:Nat) {K:AV→Prop} {l l' : List AV} (h:l=l'):cpli_G tE l K=cpli_G tE l' K:=by subst h;rfl
attribute [go_sem] cpli_Ge
attribute [go_sem ↓] cpli_Ge
theorem cpli_good (tE:Nat):Good (cpli_G tE):=good_of fun as=>by
 unfold cpli_G
 split
 ·exact (g_onCp fun _=>(g_onA fun _=>(.and fun _=>(.and fun _=>(.ret _)))))
 ·exact .of fun K hk=>hk.elim
def ac_coupler_Lift (f0 f1 f2 f3 f4 f5 f6 f7 f8 f9 f10 f11 tE:Nat):AC:=(.seq (.ops false [.u 2 (.box 27 (.t 0)),.u 3 (.box 6 (.t 1)),.u 4 (.alloc [(.lit (.bool false)),.emp,.emp,(.lit (.bool false)),.emp,.emp]),.u 5 (.alloc [(.lit (.bool false)),.emp,.emp,(.lit (.bool false)),.emp,.emp]),.m 6 (.c (.one (.lit .nilIface)))])
 (.fg [2,3,4,5] (.seq (.ops false [.u 22 (.ld none 27 true (.t 2)),.u 23 (.ld none 6 true (.t 3)),.u 24 (.call f0 [(.t 22),(.t 23)]),.m 21 (.t 24),.u 25 (.ext 0 (.t 21)),.u 26 (.ext 1 (.t 21)),.m 7 (.t 25),.m 8 (.t 26)])
 (.fg [2,3,4,5,7,8] (.seq (.seq (.ops false [.m 27 (.t 8),.u 28 (.binn .neq (.t 27) (.c (.one (.lit .nilIface))))])
 (.fg [2,3,4,5,7,8,28] (.cond (.t 28) (.seq (.ops false [.u 29 (.build [.z [(.lit (.bool false)),.emp,.emp,(.lit (.bool false)),.emp,.emp]]),.u 30 (.build [.z [(.lit (.bool false)),.emp,.emp,(.lit (.bool false)),.emp,.emp]]),.m 31 (.t 8),.n (.st none 6 (.t 4) (.t 29)),.n (.st none 6 (.t 5) (.t 30)),.m 6 (.t 31)])
 .ret) .skip)))
 (.fg [2,3,4,5,7] (.seq (.seq (.ops false [.m 32 (.t 7),.u 33 (.un .not (.t 32))])
 (.fg [2,3,4,5,33] (.cond (.t 33) (.seq (.ops false [.u 34 (.build [.z [(.lit (.bool false)),.emp,.emp,(.lit (.bool false)),.emp,.emp]]),.u 35 (.build [.z [(.lit (.bool false)),.emp,.emp,(.lit (.bool false)),.emp,.emp]]),.u 36 (.iface tE (.i 21)),.n (.st none 6 (.t 4) (.t 34)),.n (.st none 6 (.t 5) (.t 35)),.m 6 (.t 36)])
 .ret) .skip)))
 (.fg [2,3,4,5] (.seq (.ops true [.u 37 (.ld none 6 true (.t 3)),.u 38 (.fa 0 (.t 2)),.u 39 (.ld none 6 true (.t 38)),.u 40 (.call f1 [(.t 37),(.t 39)]),.u 41 (.ld none 6 true (.t 3)),.u 42 (.fa 6 (.t 2)),.u 43 (.ld none 6 true (.t 42)),.u 44 (.call f1 [(.t 41),(.t 43)]),.u 9 (.alloc [(.lit (.bool false)),.emp,.emp,(.lit (.bool false)),.emp,.emp]),.u 10 (.alloc [(.lit (.bool false)),.emp,.emp,(.lit (.bool false)),.emp,.emp]),.n (.st none 6 (.t 9) (.t 40)),.n (.st none 6 (.t 10) (.t 44))])
 (.fg [2,3,4,5,9,10] (.seq (.ops true [.u 45 (.call f2 [(.i 1)]),.u 46 (.fa 21 (.t 2)),.u 47 (.ld none 3 true (.t 46)),.u 48 (.call f3 [(.t 45),(.t 47)]),.u 11 (.alloc [(.lit (.bool false)),.emp,.emp]),.n (.st none 3 (.t 11) (.t 48))])
 (.fg [2,3,4,5,9,10,11] (.seq (.ops true [.u 49 (.ld none 6 true (.t 9)),.u 50 (.fa 21 (.t 2)),.u 51 (.ld none 3 true (.t 50)),.u 52 (.fa 24 (.t 2)),.u 53 (.ld none 3 true (.t 52)),.u 54 (.call f4 [(.t 53)]),.u 55 (.call f5 [(.t 49),(.t 51),(.t 54)]),.u 56 (.ld none 6 true (.t 10)),.u 57 (.ld none 3 true (.t 11)),.u 58 (.fa 24 (.t 2)),.u 59 (.ld none 3 true (.t 58)),.u 60 (.call f5 [(.t 56),(.t 57),(.t 59)]),.u 12 (.alloc [(.lit (.bool false)),.emp,.emp,(.lit (.bool false)),.emp,.emp]),.u 13 (.alloc [(.lit (.bool false)),.emp,.emp,(.lit (.bool false)),.emp,.emp]),.n (.st none 6 (.t 12) (.t 55)),.n (.st none 6 (.t 13) (.t 60))])
 (.fg [2,3,4,5,9,10,11,12,13] (.seq (.ops true [.u 61 (.fa 0 (.t 12)),.u 62 (.ld none 3 true (.t 61)),.u 63 (.fa 3 (.t 13)),.u 64 (.ld none 3 true (.t 63)),.u 65 (.call f6 [(.t 62),(.t 64)]),.u 66 (.fa 3 (.t 12)),.u 67 (.ld none 3 true (.t 66)),.u 68 (.fa 0 (.t 13)),.u 69 (.ld none 3 true (.t 68)),.u 70 (.call f6 [(.t 67),(.t 69)]),.u 71 (.call f3 [(.t 65),(.t 70)]),.u 14 (.alloc [(.lit (.bool false)),.emp,.emp]),.n (.st none 3 (.t 14) (.t 71))])
 (.fg [2,3,4,5,9,10,11,12,13,14] (.seq (.seq (.ops false [.u 72 (.ld none 3 true (.t 14)),.u 73 (.call f7 [(.t 72)]),.u 74 (.bin .eql (.t 73) (.i 0))])
 (.fg [2,3,4,5,9,10,11,12,13,14,74] (.cond (.t 74) (.seq (.ops false [.u 75 (.build [.z [(.lit (.bool false)),.emp,.emp,(.lit (.bool false)),.emp,.emp]]),.u 76 (.build [.z [(.lit (.bool false)),.emp,.emp,(.lit (.bool false)),.emp,.emp]]),.u 77 (.iface tE (.i 15)),.n (.st none 6 (.t 4) (.t 75)),.n (.st none 6 (.t 5) (.t 76)),.m 6 (.t 77)])
 .ret) .skip)))
 (.fg [2,3,4,5,9,10,11,12,13,14] (.seq (.ops true [.u 78 (.fa 0 (.t 9)),.u 79 (.ld none 3 true (.t 78)),.u 80 (.fa 3 (.t 9)),.u 81 (.ld none 3 true (.t 80)),.u 82 (.call f8 [(.t 79),(.t 81)]),.u 83 (.fa 21 (.t 2)),.u 84 (.ld none 3 true (.t 83)),.u 85 (.fa 24 (.t 2)),.u 86 (.ld none 3 true (.t 85)),.u 87 (.call f8 [(.t 84),(.t 86)]),.u 88 (.fa 15 (.t 2)),.u 89 (.ld none 3 true (.t 88)),.u 90 (.call f6 [(.t 87),(.t 89)]),.u 91 (.fa 12 (.t 2)),.u 92 (.ld none 3 true (.t 91)),.u 93 (.call f3 [(.t 90),(.t 92)]),.u 94 (.call f9 [(.t 82),(.t 93)]),.u 15 (.alloc [(.lit (.bool false)),.emp,.emp]),.n (.st none 3 (.t 15) (.t 94))])
 (.fg [2,3,4,5,10,11,12,13,14,15] (.seq (.ops true [.u 95 (.fa 18 (.t 2)),.u 96 (.ld none 3 true (.t 95)),.u 97 (.fa 0 (.t 10)),.u 98 (.ld none 3 true (.t 97)),.u 99 (.fa 3 (.t 10)),.u 100 (.ld none 3 true (.t 99)),.u 101 (.call f8 [(.t 98),(.t 100)]),.u 102 (.call f3 [(.t 96),(.t 101)]),.u 103 (.ld none 3 true (.t 11)),.u 104 (.fa 24 (.t 2)),.u 105 (.ld none 3 true (.t 104)),.u 106 (.call f8 [(.t 103),(.t 105)]),.u 107 (.fa 15 (.t 2)),.u 108 (.ld none 3 true (.t 107)),.u 109 (.call f6 [(.t 106),(.t 108)]),.u 110 (.call f3 [(.t 102),(.t 109)]),.u 16 (.alloc [(.lit (.bool false)),.emp,.emp]),.n (.st none 3 (.t 16) (.t 110))])
 (.fg [2,3,4,5,11,12,13,14,15,16] (.seq (.ops true [.u 111 (.call f2 [(.i 2)]),.u 112 (.ld none 3 true (.t 14)),.u 113 (.call f6 [(.t 111),(.t 112)]),.u 17 (.alloc [(.lit (.bool false)),.emp,.emp]),.n (.st none 3 (.t 17) (.t 113))])
 (.fg [2,3,4,5,11,12,13,15,16,17] (.seq (.ops true [.u 115 (.ld none 3 true (.t 15)),.u 116 (.fa 3 (.t 13)),.u 117 (.ld none 3 true (.t 116)),.u 118 (.call f6 [(.t 115),(.t 117)]),.u 119 (.ld none 3 true (.t 16)),.u 120 (.fa 3 (.t 12)),.u 121 (.ld none 3 true (.t 120)),.u 122 (.call f6 [(.t 119),(.t 121)]),.u 123 (.call f3 [(.t 118),(.t 122)]),.u 124 (.ld none 3 true (.t 17)),.u 125 (.call f10 [(.t 123),(.t 124)]),.m 114 (.t 125),.u 126 (.ext 0 (.t 114)),.u 127 (.ext 1 (.t 114)),.u 18 (.alloc [(.lit (.bool false)),.emp,.emp]),.n (.st none 3 (.t 18) (.t 126)),.m 8 (.t 127)])
 (.fg [2,3,4,5,8,11,12,13,15,16,17,18] (.seq (.seq (.ops false [.m 128 (.t 8),.u 129 (.binn .neq (.t 128) (.c (.one (.lit .nilIface))))])
 (.fg [2,3,4,5,8,11,12,13,15,16,17,18,129] (.cond (.t 129) (.seq (.ops false [.u 130 (.build [.z [(.lit (.bool false)),.emp,.emp,(.lit (.bool false)),.emp,.emp]]),.u 131 (.build [.z [(.lit (.bool false)),.emp,.emp,(.lit (.bool false)),.emp,.emp]]),.m 132 (.t 8),.n (.st none 6 (.t 4) (.t 130)),.n (.st none 6 (.t 5) (.t 131)),.m 6 (.t 132)])
 .ret) .skip)))
 (.fg [2,3,4,5,11,12,13,15,16,17,18] (.seq (.ops true [.u 134 (.ld none 3 true (.t 16)),.u 135 (.fa 0 (.t 12)),.u 136 (.ld none 3 true (.t 135)),.u 137 (.call f6 [(.t 134),(.t 136)]),.u 138 (.ld none 3 true (.t 15)),.u 139 (.fa 0 (.t 13)),.u 140 (.ld none 3 true (.t 139)),.u 141 (.call f6 [(.t 138),(.t 140)]),.u 142 (.call f3 [(.t 137),(.t 141)]),.u 143 (.ld none 3 true (.t 17)),.u 144 (.call f10 [(.t 142),(.t 143)]),.m 133 (.t 144),.u 145 (.ext 0 (.t 133)),.u 146 (.ext 1 (.t 133)),.u 19 (.alloc [(.lit (.bool false)),.emp,.emp]),.n (.st none 3 (.t 19) (.t 145)),.m 8 (.t 146)])
 (.fg [2,3,4,5,8,11,18,19] (.seq (.seq (.ops false [.m 147 (.t 8),.u 148 (.binn .neq (.t 147) (.c (.one (.lit .nilIface))))])
 (.fg [2,3,4,5,8,11,18,19,148] (.cond (.t 148) (.seq (.ops false [.u 149 (.build [.z [(.lit (.bool false)),.emp,.emp,(.lit (.bool false)),.emp,.emp]]),.u 150 (.build [.z [(.lit (.bool false)),.emp,.emp,(.lit (.bool false)),.emp,.emp]]),.m 151 (.t 8),.n (.st none 6 (.t 4) (.t 149)),.n (.st none 6 (.t 5) (.t 150)),.m 6 (.t 151)])
 .ret) .skip)))
 (.fg [2,3,4,5,11,18,19] (.seq (.ops false [.u 152 (.ld none 3 true (.t 18)),.u 153 (.ld none 3 true (.t 19)),.u 154 (.build [.x 3 (.t 152),.x 3 (.t 153)]),.u 20 (.alloc [(.lit (.bool false)),.emp,.emp,(.lit (.bool false)),.emp,.emp]),.n (.st none 6 (.t 20) (.t 154))])
 (.fg [2,3,4,5,11,20] (.seq (.ops true [.u 155 (.ld none 6 true (.t 3)),.u 156 (.ld none 6 true (.t 20)),.u 157 (.fa 21 (.t 2)),.u 158 (.ld none 3 true (.t 157)),.u 159 (.fa 24 (.t 2)),.u 160 (.ld none 3 true (.t 159)),.u 161 (.call f5 [(.t 156),(.t 158),(.t 160)]),.u 162 (.call f1 [(.t 155),(.t 161)]),.u 163 (.ld none 6 true (.t 3)),.u 164 (.ld none 6 true (.t 20)),.u 165 (.ld none 3 true (.t 11)),.u 166 (.fa 24 (.t 2)),.u 167 (.ld none 3 true (.t 166)),.u 168 (.call f4 [(.t 167)]),.u 169 (.call f5 [(.t 164),(.t 165),(.t 168)]),.u 170 (.call f11 [(.t 163),(.t 169)]),.n (.st none 6 (.t 4) (.t 162)),.n (.st none 6 (.t 5) (.t 170)),.m 6 (.c (.one (.lit .nilIface)))])
 .ret)))))))))))))))))))))))))))))))))))
set_option maxHeartbeats 2000000 in
theorem cpli_sound (hΓ:Holds P Γ) {f fn fs fo fu fe ft fm fg fq fa fd fp tE:Nat} (hn:Γ fn=.dat false (cpon_G tE)) (hs:Γ fs=.dat false pless_G) (ho:Γ fo=.dat false rof_G) (hu:Γ fu=.dat false rsub_G) (he:Γ fe=.dat false rneg_G) (ht:Γ ft=.dat false cpt_G) (hm:Γ fm=.dat false rmul_G) (hg:Γ fg=.dat true rsign_G) (hq' : Γ fq=.dat false csq2_G) (ha:Γ fa=.dat false radd_G) (hd:Γ fd=.dat false (rdivE_G tE)) (hp:Γ fp=.dat false pplus_G) (hc:check P f=some (171,(ac_coupler_Lift fn fs fo fu fe ft fm fg fq fa fd fp tE).strip,[.cell 4 6 true,.cell 5 6 true,.tmp 6])):Sound P f (.dat false (cpli_G tE)):=by
 refine sound_dat hc (cpli_good tE) hΓ (fun args K hcl hfi hG=>?_)
 match args,hG with
 | [a,b],hG=>
  obtain ⟨c,rfl,hw,p,rfl,wp,hl,hlp,hK⟩:=hG
  refine ⟨by simp,?_⟩
  have hlp1:al p≤10000:=Nat.le_trans hlp (by decide)
  have hlp2:al p≤100000000:=Nat.le_trans hlp (by decide)
  by_cases h0:cchk2 c [p]=0
  ·have e0:=errV_0 tE
   have d0:decide (0=0)=true:=rfl
   by_cases hv:wV (cpv c) (av p)=0
   ·obtain ⟨wo,wQ,w1,w2,w3,w4,w5⟩:=id hw
    have hl0:=hl
    unfold cl at hl0
    simp only [Nat.max_le]at hl0
    obtain ⟨l1,l2,l3,l4,l5,l6,l7⟩:=hl0
    have hB:=cb_cpv hw hl
    have e15:liC c p=if wM (cpv c) (av p)=0 then 15 else 0:=by
     unfold liC;rw [if_neg (by omega),if_neg (by simp [hv])]
    obtain ⟨FI,hFI⟩:∃x,subQ (av p) (av c.1)=x:=⟨_,rfl⟩
    obtain ⟨SE,hSE⟩:∃x,subQ (av p) (av c.2.1)=x:=⟨_,rfl⟩
    obtain ⟨RE,hRE⟩:∃x,1-rv c.2.2.2.2.2.1=x:=⟨_,rfl⟩
    obtain ⟨AL,hAL⟩:∃x,timQ FI (rv c.2.2.2.2.2.1) (-rv c.2.2.2.2.2.2)=x:=⟨_,rfl⟩
    obtain ⟨BE,hBE⟩:∃x,timQ SE RE (rv c.2.2.2.2.2.2)=x:=⟨_,rfl⟩
    obtain ⟨M,hM⟩:∃x,AL.1*BE.2-AL.2*BE.1=x:=⟨_,rfl⟩
    obtain ⟨E,hE⟩:∃x,sqQ FI+(sqQ (rv c.2.2.2.2.2.1,rv c.2.2.2.2.2.2)*rv c.2.2.2.1-rv c.2.2.1)=x:=⟨_,rfl⟩
    obtain ⟨F,hF⟩:∃x,rv c.2.2.2.2.1-sqQ SE-sqQ (RE,rv c.2.2.2.2.2.2)*rv c.2.2.2.1=x:=⟨_,rfl⟩
    have gM:wM (cpv c) (av p)=M:=by rw [←hM,←hAL,←hBE,←hRE,←hFI,←hSE];rfl
    have gE:wE (cpv c) (av p)=E:=by rw [←hE,←hFI];rfl
    have gF:wF (cpv c) (av p)=F:=by rw [←wF_eq,←hF,←hSE,←hRE];rfl
    have gA:wAl (cpv c) (av p)=AL:=by rw [←hAL,←hFI];rfl
    have gB:wBe (cpv c) (av p)=BE:=by rw [←hBE,←hSE,←hRE];rfl
    rw [e15]at hK
    unfold endA endB zL wN at hK
    rw [gM,gE,gF,gA,gB]at hK
    have q1:=av_le wp
    have q2:=av_le wo
    have q3:=av_le wQ
    have z1:zq FI≤2002:=by have:=zq_sub (av p) (av c.1);rw [hFI]at this;omega
    have z2:zq SE≤2002:=by have:=zq_sub (av p) (av c.2.1);rw [hSE]at this;omega
    have u1:=rz_rv w4
    have u2:=rz_rv w5
    have u3:rz RE≤1004:=by have h:=rz_re hB;rw [←hRE];exact h
    have u4:rz (-rv c.2.2.2.2.2.2)≤1000:=by rw [rz_neg];omega
    have z3:zq AL≤10000:=by have:=zq_tim FI (rv c.2.2.2.2.2.1) (-rv c.2.2.2.2.2.2);rw [hAL]at this;omega
    have z4:zq BE≤10000:=by have:=zq_tim SE RE (rv c.2.2.2.2.2.2);rw [hBE]at this;omega
    have z5:rz M≤100000:=by
     have:=rz_cross AL BE
     unfold crossQ at this
     rw [hM]at this
     omega
    have z6:rz E≤100000:=by have:=rz_e hB (av p);rw [gE]at this;omega
    have z7:rz F≤100000:=by have:=rz_f hB (av p);rw [gF]at this;omega
    have wo1:=wo.1
    have b0:=rz_0
    have b1:=rz_1
    have b2:=rz_2
    have a1:al (rcan FI.1,rcan FI.2)≤2002:=z1
    have a2:al (rcan SE.1,rcan SE.2)≤2002:=z2
    have x1:rz AL.1≤10000:=(Nat.max_le.1 z3).1
    have x2:rz AL.2≤10000:=(Nat.max_le.1 z3).2
    have x3:rz BE.1≤10000:=(Nat.max_le.1 z4).1
    have x4:rz BE.2≤10000:=(Nat.max_le.1 z4).2
    have x5:rz FI.1≤2002:=(Nat.max_le.1 z1).1
    have x6:rz FI.2≤2002:=(Nat.max_le.1 z1).2
    have x7:rz SE.1≤2002:=(Nat.max_le.1 z2).1
    have x8:rz SE.2≤2002:=(Nat.max_le.1 z2).2
    have m1:=Nat.le_trans (rz_mul AL.1 BE.2) (by omega:_≤30000)
    have m2:=Nat.le_trans (rz_mul AL.2 BE.1) (by omega:_≤30000)
    have m3:=Nat.le_trans (rz_sq FI) (by omega:_≤30000)
    have m4:=Nat.le_trans (rz_sq SE) (by omega:_≤30000)
    have k1:zq (rv c.2.2.2.2.2.1,rv c.2.2.2.2.2.2)≤1000:=Nat.max_le.2 ⟨Nat.le_trans u1 l6,Nat.le_trans u2 l7⟩
    have k2:zq (RE,rv c.2.2.2.2.2.2)≤1004:=Nat.max_le.2 ⟨u3,Nat.le_trans u2 (Nat.le_trans l7 (by decide))⟩
    have v2:=rz_rv w2
    have v1:=rz_rv w1
    have v3:=rz_rv w3
    have m5:=Nat.le_trans (rz_sq (rv c.2.2.2.2.2.1,rv c.2.2.2.2.2.2)) (by omega:_≤30000)
    have m6:=Nat.le_trans (rz_sq (RE,rv c.2.2.2.2.2.2)) (by omega:_≤30000)
    have m7:=Nat.le_trans (rz_mul (sqQ (rv c.2.2.2.2.2.1,rv c.2.2.2.2.2.2)) (rv c.2.2.2.1)) (by omega:_≤40000)
    have m8:=Nat.le_trans (rz_mul (sqQ (RE,rv c.2.2.2.2.2.2)) (rv c.2.2.2.1)) (by omega:_≤40000)
    have m9:=Nat.le_trans (rz_sub (sqQ (rv c.2.2.2.2.2.1,rv c.2.2.2.2.2.2)*rv c.2.2.2.1) (rv c.2.2.1)) (by omega:_≤50000)
    have m10:=Nat.le_trans (rz_sub (rv c.2.2.2.2.1) (sqQ SE)) (by omega:_≤50000)
    have n1:=Nat.le_trans (rz_mul E BE.2) (by omega:_≤200000)
    have n2:=Nat.le_trans (rz_mul F AL.2) (by omega:_≤200000)
    have n3:=Nat.le_trans (rz_mul F AL.1) (by omega:_≤200000)
    have n4:=Nat.le_trans (rz_mul E BE.1) (by omega:_≤200000)
    have n5:=Nat.le_trans (rz_sub (E*BE.2) (F*AL.2)) (by omega:_≤500000)
    have n6:=Nat.le_trans (rz_sub (F*AL.1) (E*BE.1)) (by omega:_≤500000)
    have n7:=Nat.le_trans (rz_mul 2 M) (by omega:_≤200000)
    have n8:=Nat.le_trans (rz_div (E*BE.2-F*AL.2) (2*M)) (by omega:_≤1000000)
    have n9:=Nat.le_trans (rz_div (F*AL.1-E*BE.1) (2*M)) (by omega:_≤1000000)
    have i1:((1:Int):Rat)=1:=rfl
    have i2:((2:Int):Rat)=2:=rfl
    by_cases hm0:M=0
    ·rw [if_pos hm0,errV_s tE (by decide),if_neg (by decide),if_neg (by decide),pQ_eq]at hK
     simp only [go_sem,ac_coupler_Lift,hn,hs,ho,hu,he,ht,hm,hg,hq',ha,hd,hp,cpA,cpC,mk_eta,aC_eq,h0,e0,d0,Bool.true_and,decide_eq_true hv,av_c2,rv_rcan,i1,i2,hFI,hSE,hRE,hAL,hBE,hM,hE,hF,ordQ_0p,hm0]
     repeat (first | (refine And.intro (by with_reducible assumption) ?_) | (refine And.intro (Nat.le_trans (by with_reducible assumption) (by decide)) ?_) | (refine And.intro (by decide) ?_))
     rw [rcan_zero]at hK
     exact hK
    ·rw [if_neg hm0,errV_0,if_pos rfl,if_pos rfl]at hK
     have h2M:(if 2*M=0 then 8 else 0)=0:=if_neg fun h=>by
      rcases Rat.mul_eq_zero.1 h with h1 | h1
      ·exact absurd h1 (by decide)
      ·exact hm0 h1
     obtain ⟨Z,hZ⟩:∃Z:V2,((E*BE.2-F*AL.2) / (2*M),(F*AL.1-E*BE.1) / (2*M))=Z:=⟨_,rfl⟩
     have f1:cRe (cpv c)=RE:=hRE
     have f2:(cpv c).2.2.2.2.2.1=rv c.2.2.2.2.2.1:=rfl
     have f3:(cpv c).2.2.2.2.2.2=rv c.2.2.2.2.2.2:=rfl
     rw [f1,f2,f3,hZ]at hK
     have zZ:zq Z≤1000000:=by rw [←hZ];exact Nat.max_le.2 ⟨n8,n9⟩
     obtain ⟨T1,hT1⟩:∃x,timQ Z (rv c.2.2.2.2.2.1) (rv c.2.2.2.2.2.2)=x:=⟨_,rfl⟩
     obtain ⟨T2,hT2⟩:∃x,timQ Z RE (-rv c.2.2.2.2.2.2)=x:=⟨_,rfl⟩
     rw [hT1,hT2]at hK
     have y1:al (rcan Z.1,rcan Z.2)≤1000000:=zZ
     have y2:zq T1≤3000000:=by have:=zq_tim Z (rv c.2.2.2.2.2.1) (rv c.2.2.2.2.2.2);rw [hT1]at this;omega
     have y3:zq T2≤3000000:=by have:=zq_tim Z RE (-rv c.2.2.2.2.2.2);rw [hT2]at this;omega
     have y4:al (rcan T1.1,rcan T1.2)≤3000000:=y2
     have y5:al (rcan T2.1,rcan T2.2)≤3000000:=y3
     have hZ1:(E*BE.2-F*AL.2) / (2*M)=Z.1:=congrArg Prod.fst hZ
     have hZ2:(F*AL.1-E*BE.1) / (2*M)=Z.2:=congrArg Prod.snd hZ
     simp only [go_sem,ac_coupler_Lift,hn,hs,ho,hu,he,ht,hm,hg,hq',ha,hd,hp,cpA,cpC,mk_eta,aC_eq,h0,e0,d0,Bool.true_and,decide_eq_true hv,av_c2,rv_rcan,i1,i2,hFI,hSE,hRE,hAL,hBE,hM,hE,hF,ordQ_0p,hm0,h2M,hZ1,hZ2,hT1,hT2]
     repeat (first | (refine And.intro (by with_reducible assumption) ?_) | (refine And.intro (Nat.le_trans (by with_reducible assumption) (by decide)) ?_) | (refine And.intro (by decide) ?_))
     exact hK
   ·have e21:liC c p=21:=by unfold liC;rw [if_neg (by omega),if_pos hv]
    rw [e21,errV_s tE (by decide),if_neg (by decide),if_neg (by decide),pQ_eq,rcan_zero]at hK
    simp only [go_sem,ac_coupler_Lift,hn,cpA,cpC,mk_eta,aC_eq,h0,e0,d0,Bool.true_and,decide_eq_false hv]
    repeat (first | (refine And.intro (by with_reducible assumption) ?_) | (refine And.intro (Nat.le_trans (by with_reducible assumption) (by decide)) ?_) | (refine And.intro (by decide) ?_))
    exact hK
  ·have e1:=errV_s tE h0
   have e2:liC c p=cchk2 c [p]:=by unfold liC;rw [if_pos h0]
   rw [e2,if_neg h0,if_neg h0,e1,pQ_eq,rcan_zero]at hK
   simp only [go_sem,ac_coupler_Lift,hn,cpA,cpC,mk_eta,aC_eq,e1]
   repeat (first | (refine And.intro (by with_reducible assumption) ?_) | (refine And.intro (Nat.le_trans (by with_reducible assumption) (by decide)) ?_) | (refine And.intro (by decide) ?_))
   exact hK
end Go.Abs
end
section
set_option linter.unusedVariables false
set_option linter.unusedSimpArgs false
set_option maxRecDepth 100000
namespace Go.Num
open Go.Abs
def cqR (X:CpQ):AV:=.agg [cb (rcan X.1.1),cn (rcan X.1.1),cd (rcan X.1.1),cb (rcan X.1.2),cn (rcan X.1.2),cd (rcan X.1.2),cb (rcan X.2.1.1),cn (rcan X.2.1.1),cd (rcan X.2.1.1),cb (rcan X.2.1.2),cn (rcan X.2.1.2),cd (rcan X.2.1.2),cb (rcan X.2.2.1),cn (rcan X.2.2.1),cd (rcan X.2.2.1),cb (rcan X.2.2.2.1),cn (rcan X.2.2.2.1),cd (rcan X.2.2.2.1),cb (rcan X.2.2.2.2.1),cn (rcan X.2.2.2.2.1),cd (rcan X.2.2.2.2.1),cb (rcan X.2.2.2.2.2.1),cn (rcan X.2.2.2.2.2.1),cd (rcan X.2.2.2.2.2.1),cb (rcan X.2.2.2.2.2.2),cn (rcan X.2.2.2.2.2.2),cd (rcan X.2.2.2.2.2.2)]
def scq (c:CpR) (k k2:Rat):CpR:=((c.1.1*k,c.1.2*k),(c.2.1.1*k,c.2.1.2*k),c.2.2.1*k2,c.2.2.2.1*k2,c.2.2.2.2.1*k2,c.2.2.2.2.2.1,c.2.2.2.2.2.2)
def z27:CpR:=((0,0),(0,0),0,0,0,0,0)
def moC (c:Cp) (g:Ps):Nat:=if cchk c≠0 then cchk c else if pvld g=false then 2 else 0
def scC (c:Cp) (k:R):Nat:=if cchk c≠0 then cchk c else if vldR k=false then 2 else if rv k=0 then 8 else 0
end Go.Num
namespace Go.Abs
open Go.Num
variable {P:Program} {Γ:Nat→Spec}
def pfA (x:R):AV:=.one (.ref [cb x,cn x,cd x])
theorem pfA_inj (x y:R) (h:pfA x=pfA y):x=y:=by
 simp only [pfA,AV.one.injEq,C.ref.injEq,List.cons.injEq,and_true]at h
 exact r_inj h.1 h.2.1 h.2.2
def onPf (k:R→Prop) (a:AV):Prop:=onE pfA (fun x=>WLR x∧k x) a
@[congr] theorem onPf_cg {k:R→Prop} {a a' : AV} (h:a=a'):onPf k a=onPf k a':=by subst h;rfl
theorem onPf_e (k:R→Prop) (x:R):onPf k (.one (.ref [cb x,cn x,cd x]))=(WLR x∧k x):=onE_e pfA_inj (fun x=>WLR x∧k x) x
attribute [go_sem] onPf_e
attribute [go_sem ↓] onPf_e
theorem ownC_clo1 (f r ver i off:Nat):ownC (.clo f [.ptr r ver i off])=[r]:=eq_of_heq (HEq.refl _)
attribute [go_sem] ownC_clo1
attribute [go_sem ↓] ownC_clo1
def cby_G (l:List AV) (K:AV→Prop):Prop:=
 match l with
 | [a,k]=>onA (fun p=>onPf (fun k=>al p≤100000000∧rl k≤100000000∧K (pQ (rv p.1*rv k,rv p.2*rv k))) k) a
 | _=>False
theorem cby_Ge (a k:AV) (K:AV→Prop):cby_G [a,k] K=(onA (fun p=>onPf (fun k=>al p≤100000000∧rl k≤100000000∧K (pQ (rv p.1*rv k,rv p.2*rv k))) k) a):=propext Iff.rfl
@[congr] theorem cby_Gc {K:AV→Prop} {l l' : List AV} (h:l=l'):cby_G l K=cby_G l' K:=by subst h;rfl
attribute [go_sem] cby_Ge
attribute [go_sem ↓] cby_Ge
def cscd_G (l:List AV) (K:AV→Prop):Prop:=
 match l with
 | [c,k,l]=>onCp (fun c=>onR (fun k=>onR (fun l=>cl c≤100000000∧rl k≤100000000∧rl l≤100000000∧K (cqR (scq (cpv c) (rv k) (rv l)))) l) k) c
 | _=>False
theorem cscd_Ge (c k l:AV) (K:AV→Prop):cscd_G [c,k,l] K=(onCp (fun c=>onR (fun k=>onR (fun l=>cl c≤100000000∧rl k≤100000000∧rl l≤100000000∧K (cqR (scq (cpv c) (rv k) (rv l)))) l) k) c):=propext Iff.rfl
@[congr] theorem cscd_Gc {K:AV→Prop} {l l' : List AV} (h:l=l'):cscd_G l K=cscd_G l' K:=by subst h;rfl
attribute [go_sem] cscd_Ge
attribute [go_sem ↓] cscd_Ge
def cpmv_G (tE:Nat) (l:List AV) (K:AV→Prop):Prop:=
 match l with
 | [c,g]=>onCp (fun c=>onPo (fun g=>cl c≤1000∧pl g≤1000∧K (.tup [cqR (if moC c g=0 then movQ38 (cpv c) (pv g) else z27),errV tE (moC c g)])) g) c
 | _=>False
theorem cpmv_Ge (tE:Nat) (c g:AV) (K:AV→Prop):cpmv_G tE [c,g] K=(onCp (fun c=>onPo (fun g=>cl c≤1000∧pl g≤1000∧K (.tup [cqR (if moC c g=0 then movQ38 (cpv c) (pv g) else z27),errV tE (moC c g)])) g) c):=propext Iff.rfl
@[congr] theorem cpmv_Gc (tE:Nat) {K:AV→Prop} {l l' : List AV} (h:l=l'):cpmv_G tE l K=cpmv_G tE l' K:=by subst h;rfl
attribute [go_sem] cpmv_Ge
attribute [go_sem ↓] cpmv_Ge
def cpsc_G (tE:Nat) (l:List AV) (K:AV→Prop):Prop:=
 match l with
 | [c,k]=>onCp (fun c=>onR (fun k=>cl c≤1000∧rl k≤1000∧K (.tup [cqR (if scC c k=0 then sclQ38 (cpv c) (rv k) else z27),errV tE (scC c k)])) k) c
 | _=>False
theorem cpsc_Ge (tE:Nat) (c k:AV) (K:AV→Prop):cpsc_G tE [c,k] K=(onCp (fun c=>onR (fun k=>cl c≤1000∧rl k≤1000∧K (.tup [cqR (if scC c k=0 then sclQ38 (cpv c) (rv k) else z27),errV tE (scC c k)])) k) c):=propext Iff.rfl
@[congr] theorem cpsc_Gc (tE:Nat) {K:AV→Prop} {l l' : List AV} (h:l=l'):cpsc_G tE l K=cpsc_G tE l' K:=by subst h;rfl
attribute [go_sem] cpsc_Ge
attribute [go_sem ↓] cpsc_Ge
end Go.Abs
end
section
set_option linter.unusedVariables false
set_option linter.unusedSimpArgs false
set_option maxRecDepth 100000
namespace Go.Num
open Go.Abs
def cps9 (c:Cp):List R:=[c.1.1,c.1.2,c.2.1.1,c.2.1.2,c.2.2.1,c.2.2.2.1,c.2.2.2.2.1,c.2.2.2.2.2.1,c.2.2.2.2.2.2]
def sC (c:Cp):Bool:=(cps9 c).all (sR 2)
def exQ:CpR:=((0,0),(4,0),1,16,1,1 / 2,0)
theorem ex_on:wV exQ (2,1)=0:=by decide +kernel
theorem ex_off:wV exQ (2,2)≠0:=by decide +kernel
theorem ex_m:wM exQ (2,1)≠0:=by decide +kernel
theorem ex_a:endA exQ (2,1) (zL exQ (2,1))=(0,1):=by decide +kernel
theorem ex_b:endB exQ (2,1) (zL exQ (2,1))=(4,1):=by decide +kernel
theorem ex_p:ptQ exQ (0,1) (4,1)=(2,1):=by decide +kernel
theorem cpv_can (X:CpR):cpv (canC X)=X:=by unfold cpv canC av;simp only [rv_rcan]
theorem cchk_ex:cchk (canC exQ)=0:=by
 have h1:avld (canC exQ).1=true:=by show (vldR (rcan _) && vldR (rcan _))=true;rw [vld_rcan,vld_rcan];rfl
 have h2:avld (canC exQ).2.1=true:=by show (vldR (rcan _) && vldR (rcan _))=true;rw [vld_rcan,vld_rcan];rfl
 have h3:(cps5 (canC exQ)).all vldR=true:=by simp [cps5,canC,vld_rcan]
 have h4:(cps3 (canC exQ)).all gt0R=true:=by simp [cps3,canC,gt0R,rv_rcan,exQ];decide
 have h5:av (canC exQ).1≠av (canC exQ).2.1:=by
  have e1:av (canC exQ).1=(cpv (canC exQ)).1:=rfl
  have e2:av (canC exQ).2.1=(cpv (canC exQ)).2.1:=rfl
  rw [e1,e2,cpv_can];decide
 unfold cchk
 rw [if_neg (by simp [h1,h2]),if_neg (by simp [h3]),if_neg (by simp [h4]),if_neg h5]
theorem cchk2_ex {l:List Arc} (h:l.all avld=true):cchk2 (canC exQ) l=0:=by
 unfold cchk2;rw [cchk_ex,if_neg (by decide),if_neg (by simp [h])]
theorem sC_cl {c:Cp} (h:sC c=true):cl c≤2:=by
 unfold sC cps9 at h
 simp only [List.all_cons,List.all_nil,Bool.and_true,Bool.and_eq_true]at h
 obtain ⟨h1,h2,h3,h4,h5,h6,h7,h8,h9⟩:=h
 unfold cl
 simp only [Nat.max_le]
 exact ⟨Nat.max_le.2 ⟨sR_rl h1,sR_rl h2⟩,Nat.max_le.2 ⟨sR_rl h3,sR_rl h4⟩,sR_rl h5,sR_rl h6,sR_rl h7,sR_rl h8,sR_rl h9⟩
end Go.Num
namespace Go.Abs
open Go.Num
variable {P:Program} {Γ:Nat→Spec}
theorem wpL_ap (dr:Bool):∀(l m:List AO) (Q:S→Prop),wpL Γ dr Q (l++m)=wpL Γ dr (wpL Γ dr Q m) l
 | [],m,Q=>rfl
 | o::l,m,Q=>by
  have ih:=wpL_ap dr l m Q
  funext s
  show wpG Γ dr s (wpL Γ dr Q (l++m)) o=wpG Γ dr s (wpL Γ dr (wpL Γ dr Q m) l) o
  rw [ih]
theorem wpA_dr (dr:Bool) (l:List AO) (Q:Ex→S→Prop) (s:S):wpA Γ (.seq (.ops dr l) .ret) Q s=wpL Γ dr (Q .ret) l s:=rfl
theorem cqR_eq (X:CpR):cqR X=cpA (canC X):=eq_of_heq (HEq.refl _)
def rcsh_G (l:List AV) (K:AV→Prop):Prop:=
 match l with
 | [c]=>onCp (fun c=>cl c≤4294967296∧K (.one (.lit (.bool (sC c))))) c
 | _=>False
theorem rcsh_Ge (c:AV) (K:AV→Prop):rcsh_G [c] K=(onCp (fun c=>cl c≤4294967296∧K (.one (.lit (.bool (sC c))))) c):=propext Iff.rfl
@[congr] theorem rcsh_Gc {K:AV→Prop} {l l' : List AV} (h:l=l'):rcsh_G l K=rcsh_G l' K:=by subst h;rfl
attribute [go_sem] rcsh_Ge
attribute [go_sem ↓] rcsh_Ge
theorem rcsh_good:Good rcsh_G:=good_of fun as=>by
 unfold rcsh_G
 split
 ·exact (g_onCp fun _=>(.and fun _=>(.ret _)))
 ·exact .of fun K hk=>hk.elim
def lof_G (l:List AV) (K:AV→Prop):Prop:=
 match l with
 | [a,b]=>asInt (fun k n=>asInt (fun k' m=>k=.i64∧k' = .i64∧(-9223372036854775808≤n∧n≤9223372036854775807)∧(-9223372036854775808≤m∧m≤9223372036854775807)∧K (pQ (n,m))) b) a
 | _=>False
theorem lof_Ge (a b:AV) (K:AV→Prop):lof_G [a,b] K=(asInt (fun k n=>asInt (fun k' m=>k=.i64∧k' = .i64∧(-9223372036854775808≤n∧n≤9223372036854775807)∧(-9223372036854775808≤m∧m≤9223372036854775807)∧K (pQ (n,m))) b) a):=propext Iff.rfl
@[congr] theorem lof_Gc {K:AV→Prop} {l l' : List AV} (h:l=l'):lof_G l K=lof_G l' K:=by subst h;rfl
attribute [go_sem] lof_Ge
attribute [go_sem ↓] lof_Ge
theorem lof_good:Good lof_G:=good_of fun as=>by
 unfold lof_G
 split
 ·repeat (first | exact .ret _ | exact .of (fun K hk=>hk.elim) | (refine .and fun _=>?_) | (refine g_onWs fun _=>?_) | (refine g_onR fun _=>?_) | (refine g_onR fun _=>?_) | (refine g_onA fun _=>?_) | (refine g_onCp fun _=>?_) | (refine g_asInt (fun _ _=>?_) _) | (refine g_asBool (fun _=>?_) _) | (refine g_onE ?_ ?_) | (intro _) | assumption)
 ·exact .of fun K hk=>hk.elim
def ex38_G (l:List AV) (K:AV→Prop):Prop:=
 match l with
 | []=>K (cqR exQ)
 | _=>False
theorem ex38_Ge (K:AV→Prop):ex38_G [] K=(K (cqR exQ)):=propext Iff.rfl
@[congr] theorem ex38_Gc {K:AV→Prop} {l l' : List AV} (h:l=l'):ex38_G l K=ex38_G l' K:=by subst h;rfl
attribute [go_sem] ex38_Ge
attribute [go_sem ↓] ex38_Ge
theorem ex38_good:Good ex38_G:=good_of fun as=>by
 unfold ex38_G
 split
 ·exact (.ret _)
 ·exact .of fun K hk=>hk.elim
def awk38_G (l:List AV) (K:AV→Prop):Prop:=
 match l with
 | []=>K (.one (.lit (.bool true)))
 | _=>False
theorem awk38_Ge (K:AV→Prop):awk38_G [] K=(K (.one (.lit (.bool true)))):=propext Iff.rfl
@[congr] theorem awk38_Gc {K:AV→Prop} {l l' : List AV} (h:l=l'):awk38_G l K=awk38_G l' K:=by subst h;rfl
attribute [go_sem] awk38_Ge
attribute [go_sem ↓] awk38_Ge
theorem awk38_good:Good awk38_G:=good_of fun as=>by
 unfold awk38_G
 split
 ·exact (.ret _)
 ·exact .of fun K hk=>hk.elim
def ac_linkworkref38_Short:AC:=(.seq (.ops false [.u 1 (.box 27 (.t 0)),.m 2 .fa])
 (.fg [1] (.seq (.seq (.ops false [.u 5 (.fa 0 (.t 1)),.u 6 (.fa 0 (.t 5)),.u 7 (.ld none 3 true (.t 6)),.u 8 (.fa 0 (.t 1)),.u 9 (.fa 3 (.t 8)),.u 10 (.ld none 3 true (.t 9)),.u 11 (.fa 6 (.t 1)),.u 12 (.fa 0 (.t 11)),.u 13 (.ld none 3 true (.t 12)),.u 14 (.fa 6 (.t 1)),.u 15 (.fa 3 (.t 14)),.u 16 (.ld none 3 true (.t 15)),.u 17 (.fa 12 (.t 1)),.u 18 (.ld none 3 true (.t 17)),.u 19 (.fa 15 (.t 1)),.u 20 (.ld none 3 true (.t 19)),.u 21 (.fa 18 (.t 1)),.u 22 (.ld none 3 true (.t 21)),.u 23 (.fa 21 (.t 1)),.u 24 (.ld none 3 true (.t 23)),.u 25 (.fa 24 (.t 1)),.u 26 (.ld none 3 true (.t 25)),.u 27 (.row 3 [[.x 3 (.t 7)],[.x 3 (.t 10)],[.x 3 (.t 13)],[.x 3 (.t 16)],[.x 3 (.t 18)],[.x 3 (.t 20)],[.x 3 (.t 22)],[.x 3 (.t 24)],[.x 3 (.t 26)]]),.u 28 (.len (.t 27)),.m 29 (.i 0)])
 (.fg [27,28,29] (.block 0 (.loop (.seq (.ops false [.u 30 (.bin .lss (.t 29) (.t 28))])
 (.fg [27,28,29,30] (.seq (.cond (.t 30) .skip (.exit 0))
 (.fg [27,28,29] (.seq (.block 1 (.seq (.ops false [.u 31 (.idx 3 (.t 27) (.t 29)),.u 32 (.ld none 3 true (.t 31)),.u 4 (.alloc [(.lit (.bool false)),.emp,.emp]),.n (.st none 3 (.t 4) (.t 32))])
 (.fg [4,27,28,29] (.seq (.ops false [.u 33 (.fa 1 (.t 4)),.u 34 (.ld none 1 false (.t 33)),.u 35 (.len (.t 34)),.u 36 (.bin .gtr (.t 35) (.i 2)),.m 37 (.t 36),.w 38 37 false (.fa 2 (.t 4)),.w 39 37 false (.ld none 1 false (.t 38)),.w 40 37 false (.len (.t 39)),.w 41 37 false (.bin .gtr (.t 40) (.i 2)),.u 42 (.pick (.t 37) .tr (.t 41))])
 (.fg [27,28,29,42] (.cond (.t 42) (.seq (.ops false [.m 2 .fa])
 .ret) .skip))))))
 (.fg [27,28,29] (.ops false [.u 43 (.bin .add (.t 29) (.i 1)),.m 29 (.t 43)])))))))))))
 (.fg [] (.seq (.ops false [.m 2 .tr])
 .ret)))))
def ac_linkworklaw38_of (f0:Nat):AC:=(.seq (.ops false [.u 4 (.alloc [(.lit (.bool false)),.emp,.emp,(.lit (.bool false)),.emp,.emp])])
 (.fg [0,1,4] (.seq (.ops false [.m 5 (.t 0),.u 6 (.call f0 [(.t 5)]),.m 7 (.t 1),.u 8 (.call f0 [(.t 7)]),.u 9 (.build [.x 3 (.t 6),.x 3 (.t 8)]),.n (.st none 6 (.t 4) (.t 9))])
 .ret)))
def ac_linkworklaw38_Example (f0 f1 f2:Nat):AC:=(.seq (.ops false [.u 0 (.alloc [(.lit (.bool false)),.emp,.emp,(.lit (.bool false)),.emp,.emp,(.lit (.bool false)),.emp,.emp,(.lit (.bool false)),.emp,.emp,(.lit (.bool false)),.emp,.emp,(.lit (.bool false)),.emp,.emp,(.lit (.bool false)),.emp,.emp,(.lit (.bool false)),.emp,.emp,(.lit (.bool false)),.emp,.emp])])
 (.fg [0] (.seq (.ops false [.u 5 (.call f0 [(.i 1),(.i 2)]),.m 4 (.t 5),.u 6 (.ext 0 (.t 4)),.u 7 (.ext 1 (.t 4)),.u 1 (.alloc [(.lit (.bool false)),.emp,.emp]),.n (.st none 3 (.t 1) (.t 6)),.m 2 (.t 7)])
 (.fg [0,1] (.seq (.ops false [.u 8 (.call f1 [(.i 1)]),.u 3 (.alloc [(.lit (.bool false)),.emp,.emp]),.n (.st none 3 (.t 3) (.t 8))])
 (.fg [0,1,3] (.seq (.ops true [.u 9 (.call f2 [(.i 4),(.i 0)]),.u 10 (.ld none 3 true (.t 3)),.u 11 (.call f1 [(.i 16)]),.u 12 (.ld none 3 true (.t 3)),.u 13 (.ld none 3 true (.t 1)),.u 14 (.build [.z [(.lit (.bool false)),.emp,.emp,(.lit (.bool false)),.emp,.emp],.x 6 (.t 9),.x 3 (.t 10),.x 3 (.t 11),.x 3 (.t 12),.x 3 (.t 13),.z [(.lit (.bool false)),.emp,.emp]]),.n (.st none 27 (.t 0) (.t 14))])
 .ret)))))))
def ac_linkworklaw38_awake_c1_o1 (f0 f1 f2 f3 f4 f5:Nat):List AO:=[.m 36 (.t 2),.u 37 (.binn .eql (.t 36) (.c (.one (.lit .nilIface)))),.m 38 (.t 37),.w 39 38 true (.mv (.t 5)),.w 40 38 true (.binn .eql (.t 39) (.c (.one (.lit .nilIface)))),.u 41 (.pick (.t 38) (.t 40) .fa),.m 42 (.t 41),.w 43 42 true (.mv (.t 7)),.w 44 42 true (.binn .eql (.t 43) (.c (.one (.lit .nilIface)))),.u 45 (.pick (.t 42) (.t 44) .fa),.m 46 (.t 45),.w 47 46 true (.mv (.t 9))]
theorem ac_linkworklaw38_awake_c1_o1_e {f0 f1 f2 f3 f4 f5:Nat} (Γ:Nat→Spec) (dr:Bool) (Q:S→Prop) (s:S):wpL Γ dr Q (ac_linkworklaw38_awake_c1_o1 f0 f1 f2 f3 f4 f5) s=wpL Γ dr Q [.m 36 (.t 2),.u 37 (.binn .eql (.t 36) (.c (.one (.lit .nilIface)))),.m 38 (.t 37),.w 39 38 true (.mv (.t 5)),.w 40 38 true (.binn .eql (.t 39) (.c (.one (.lit .nilIface)))),.u 41 (.pick (.t 38) (.t 40) .fa),.m 42 (.t 41),.w 43 42 true (.mv (.t 7)),.w 44 42 true (.binn .eql (.t 43) (.c (.one (.lit .nilIface)))),.u 45 (.pick (.t 42) (.t 44) .fa),.m 46 (.t 45),.w 47 46 true (.mv (.t 9))] s:=eq_of_heq (HEq.refl _)
def ac_linkworklaw38_awake_c1_o2 (f0 f1 f2 f3 f4 f5:Nat):List AO:=[.w 48 46 true (.binn .eql (.t 47) (.c (.one (.lit .nilIface)))),.u 49 (.pick (.t 46) (.t 48) .fa),.m 50 (.t 49),.w 51 50 true (.mv (.t 1)),.u 52 (.pick (.t 50) (.t 51) .fa),.m 53 (.t 52),.w 54 53 true (.mv (.t 8)),.w 55 53 true (.un .not (.t 54)),.u 56 (.pick (.t 53) (.t 55) .fa),.m 57 (.t 56),.w 58 57 true (.ld none 6 true (.t 3)),.w 59 57 true (.call f1 [(.i 0),(.i 1)])]
theorem ac_linkworklaw38_awake_c1_o2_e {f0 f1 f2 f3 f4 f5:Nat} (Γ:Nat→Spec) (dr:Bool) (Q:S→Prop) (s:S):wpL Γ dr Q (ac_linkworklaw38_awake_c1_o2 f0 f1 f2 f3 f4 f5) s=wpL Γ dr Q [.w 48 46 true (.binn .eql (.t 47) (.c (.one (.lit .nilIface)))),.u 49 (.pick (.t 46) (.t 48) .fa),.m 50 (.t 49),.w 51 50 true (.mv (.t 1)),.u 52 (.pick (.t 50) (.t 51) .fa),.m 53 (.t 52),.w 54 53 true (.mv (.t 8)),.w 55 53 true (.un .not (.t 54)),.u 56 (.pick (.t 53) (.t 55) .fa),.m 57 (.t 56),.w 58 57 true (.ld none 6 true (.t 3)),.w 59 57 true (.call f1 [(.i 0),(.i 1)])] s:=eq_of_heq (HEq.refl _)
def ac_linkworklaw38_awake_c1_o3 (f0 f1 f2 f3 f4 f5:Nat):List AO:=[.w 60 57 true (.call f5 [(.t 58),(.t 59)]),.u 61 (.pick (.t 57) (.t 60) .fa),.m 62 (.t 61),.w 63 62 true (.ld none 6 true (.t 4)),.w 64 62 true (.call f1 [(.i 4),(.i 1)]),.w 65 62 true (.call f5 [(.t 63),(.t 64)]),.u 66 (.pick (.t 62) (.t 65) .fa),.m 67 (.t 66),.w 68 67 true (.ld none 6 true (.t 6)),.w 69 67 true (.call f1 [(.i 2),(.i 1)]),.w 70 67 true (.call f5 [(.t 68),(.t 69)]),.u 71 (.pick (.t 67) (.t 70) .fa)]
theorem ac_linkworklaw38_awake_c1_o3_e {f0 f1 f2 f3 f4 f5:Nat} (Γ:Nat→Spec) (dr:Bool) (Q:S→Prop) (s:S):wpL Γ dr Q (ac_linkworklaw38_awake_c1_o3 f0 f1 f2 f3 f4 f5) s=wpL Γ dr Q [.w 60 57 true (.call f5 [(.t 58),(.t 59)]),.u 61 (.pick (.t 57) (.t 60) .fa),.m 62 (.t 61),.w 63 62 true (.ld none 6 true (.t 4)),.w 64 62 true (.call f1 [(.i 4),(.i 1)]),.w 65 62 true (.call f5 [(.t 63),(.t 64)]),.u 66 (.pick (.t 62) (.t 65) .fa),.m 67 (.t 66),.w 68 67 true (.ld none 6 true (.t 6)),.w 69 67 true (.call f1 [(.i 2),(.i 1)]),.w 70 67 true (.call f5 [(.t 68),(.t 69)]),.u 71 (.pick (.t 67) (.t 70) .fa)] s:=eq_of_heq (HEq.refl _)
def ac_linkworklaw38_awake_c1_o4 (f0 f1 f2 f3 f4 f5:Nat):List AO:=[.m 0 (.t 71)]
theorem ac_linkworklaw38_awake_c1_o4_e {f0 f1 f2 f3 f4 f5:Nat} (Γ:Nat→Spec) (dr:Bool) (Q:S→Prop) (s:S):wpL Γ dr Q (ac_linkworklaw38_awake_c1_o4 f0 f1 f2 f3 f4 f5) s=wpL Γ dr Q [.m 0 (.t 71)] s:=eq_of_heq (HEq.refl _)
def ac_linkworklaw38_awake_c1 (f0 f1 f2 f3 f4 f5:Nat):AC:=(.seq (.ops true (ac_linkworklaw38_awake_c1_o1 f0 f1 f2 f3 f4 f5++(ac_linkworklaw38_awake_c1_o2 f0 f1 f2 f3 f4 f5++(ac_linkworklaw38_awake_c1_o3 f0 f1 f2 f3 f4 f5++(ac_linkworklaw38_awake_c1_o4 f0 f1 f2 f3 f4 f5)))))
 .ret)
theorem ac_linkworklaw38_awake_c1_e {f0 f1 f2 f3 f4 f5:Nat} (Γ:Nat→Spec) (Q:Ex→S→Prop) (s:S):wpA Γ (ac_linkworklaw38_awake_c1 f0 f1 f2 f3 f4 f5) Q s=wpA Γ (.seq (.ops true (ac_linkworklaw38_awake_c1_o1 f0 f1 f2 f3 f4 f5++(ac_linkworklaw38_awake_c1_o2 f0 f1 f2 f3 f4 f5++(ac_linkworklaw38_awake_c1_o3 f0 f1 f2 f3 f4 f5++(ac_linkworklaw38_awake_c1_o4 f0 f1 f2 f3 f4 f5)))))
 .ret) Q s:=eq_of_heq (HEq.refl _)
def ac_linkworklaw38_awake_c2 (f0 f1 f2 f3 f4 f5:Nat):AC:=(.seq (.ops false [.u 17 (.call f0 []),.u 18 (.call f1 [(.i 2),(.i 1)]),.u 19 (.call f3 [(.t 17),(.t 18)]),.m 16 (.t 19),.u 20 (.ext 0 (.t 16)),.u 21 (.ext 1 (.t 16)),.u 22 (.ext 2 (.t 16)),.u 3 (.alloc [(.lit (.bool false)),.emp,.emp,(.lit (.bool false)),.emp,.emp]),.u 4 (.alloc [(.lit (.bool false)),.emp,.emp,(.lit (.bool false)),.emp,.emp]),.n (.st none 6 (.t 3) (.t 20)),.n (.st none 6 (.t 4) (.t 21)),.m 5 (.t 22)])
 (.fg [1,2,3,4,5] (.seq (.ops false [.u 24 (.call f0 []),.u 25 (.call f1 [(.i 0),(.i 1)]),.u 26 (.call f1 [(.i 4),(.i 1)]),.u 27 (.call f4 [(.t 24),(.t 25),(.t 26)]),.m 23 (.t 27),.u 28 (.ext 0 (.t 23)),.u 29 (.ext 1 (.t 23)),.u 6 (.alloc [(.lit (.bool false)),.emp,.emp,(.lit (.bool false)),.emp,.emp]),.n (.st none 6 (.t 6) (.t 28)),.m 7 (.t 29)])
 (.fg [1,2,3,4,5,6,7] (.seq (.ops false [.u 31 (.call f0 []),.u 32 (.call f1 [(.i 2),(.i 2)]),.u 33 (.call f2 [(.t 31),(.t 32)]),.m 30 (.t 33),.u 34 (.ext 0 (.t 30)),.u 35 (.ext 1 (.t 30)),.m 8 (.t 34),.m 9 (.t 35)])
 (.fg [1,2,3,4,5,6,7,8,9] (ac_linkworklaw38_awake_c1 f0 f1 f2 f3 f4 f5)))))))
theorem ac_linkworklaw38_awake_c2_e {f0 f1 f2 f3 f4 f5:Nat} (Γ:Nat→Spec) (Q:Ex→S→Prop) (s:S):wpA Γ (ac_linkworklaw38_awake_c2 f0 f1 f2 f3 f4 f5) Q s=wpA Γ (.seq (.ops false [.u 17 (.call f0 []),.u 18 (.call f1 [(.i 2),(.i 1)]),.u 19 (.call f3 [(.t 17),(.t 18)]),.m 16 (.t 19),.u 20 (.ext 0 (.t 16)),.u 21 (.ext 1 (.t 16)),.u 22 (.ext 2 (.t 16)),.u 3 (.alloc [(.lit (.bool false)),.emp,.emp,(.lit (.bool false)),.emp,.emp]),.u 4 (.alloc [(.lit (.bool false)),.emp,.emp,(.lit (.bool false)),.emp,.emp]),.n (.st none 6 (.t 3) (.t 20)),.n (.st none 6 (.t 4) (.t 21)),.m 5 (.t 22)])
 (.fg [1,2,3,4,5] (.seq (.ops false [.u 24 (.call f0 []),.u 25 (.call f1 [(.i 0),(.i 1)]),.u 26 (.call f1 [(.i 4),(.i 1)]),.u 27 (.call f4 [(.t 24),(.t 25),(.t 26)]),.m 23 (.t 27),.u 28 (.ext 0 (.t 23)),.u 29 (.ext 1 (.t 23)),.u 6 (.alloc [(.lit (.bool false)),.emp,.emp,(.lit (.bool false)),.emp,.emp]),.n (.st none 6 (.t 6) (.t 28)),.m 7 (.t 29)])
 (.fg [1,2,3,4,5,6,7] (.seq (.ops false [.u 31 (.call f0 []),.u 32 (.call f1 [(.i 2),(.i 2)]),.u 33 (.call f2 [(.t 31),(.t 32)]),.m 30 (.t 33),.u 34 (.ext 0 (.t 30)),.u 35 (.ext 1 (.t 30)),.m 8 (.t 34),.m 9 (.t 35)])
 (.fg [1,2,3,4,5,6,7,8,9] (ac_linkworklaw38_awake_c1 f0 f1 f2 f3 f4 f5))))))) Q s:=eq_of_heq (HEq.refl _)
attribute [go_sem ↓] ac_linkworklaw38_awake_c2_e
attribute [go_sem] ac_linkworklaw38_awake_c2_e
def ac_linkworklaw38_awake (f0 f1 f2 f3 f4 f5:Nat):AC:=(.seq (.ops false [.m 0 .fa])
 (.fg [] (.seq (.ops false [.u 11 (.call f0 []),.u 12 (.call f1 [(.i 2),(.i 1)]),.u 13 (.call f2 [(.t 11),(.t 12)]),.m 10 (.t 13),.u 14 (.ext 0 (.t 10)),.u 15 (.ext 1 (.t 10)),.m 1 (.t 14),.m 2 (.t 15)])
 (.fg [1,2] (ac_linkworklaw38_awake_c2 f0 f1 f2 f3 f4 f5)))))
theorem rmakeN_sound (hΓ:Holds P Γ) {f fo ff:Nat} (ho:Γ fo=.dat false zof_G) (hf:Γ ff=.dat false rfromN_G) (hc:check P f=some (13,(ac_linkworkref02_Make fo ff).strip,[.cell 4 3 true,.tmp 5])):Sound P f (.dat false rmake_G):=by
 refine sound_dat hc rmake_good hΓ (fun args K hcl hfi hG=>?_)
 match args,hG with
 | [a,b],hG=>
  obtain ⟨k,n,rfl,hG⟩:=asInt_inv hG
  obtain ⟨k',d,rfl,rfl,rfl,hn,hd,h0,hK⟩:=asInt_inv hG
  refine ⟨by simp,?_⟩
  have e:(if d=0 then 8 else 0:Int)=0:=if_neg h0
  simp only [go_sem,ac_linkworkref02_Make,ho,hf,h0]
  have z1:zs n≤2:=zs_of (by omega)
  have z2:zs d≤2:=zs_of (by omega)
  exact ⟨hn.1,hn.2,hd.1,hd.2,by omega,by omega,hK⟩
theorem rcsh_sound (hΓ:Holds P Γ) {f:Nat} (hc:check P f=some (44,ac_linkworkref38_Short.strip,[.tmp 2])):Sound P f (.dat true rcsh_G):=by
 refine sound_dat hc rcsh_good hΓ (fun args K hcl hfi hG=>?_)
 match args,hG with
 | [a],hG=>
  obtain ⟨c,rfl,hw,hl,hK⟩:=hG
  refine ⟨by simp,?_⟩
  obtain ⟨xs,hxs⟩:∃xs:List R,xs=cps9 c:=⟨_,rfl⟩
  have hlx:xs.length=9:=by rw [hxs];rfl
  have hwx:∀x∈xs,rl x≤4294967296:=by
   intro x hx
   rw [hxs]at hx
   simp only [cps9,List.mem_cons,List.not_mem_nil,or_false]at hx
   unfold cl al at hl
   rcases hx with rfl | rfl | rfl | rfl | rfl | rfl | rfl | rfl | rfl <;> omega
  have hex:xs.all (sR 2)=sC c:=by rw [hxs];rfl
  simp only [go_sem,ac_linkworkref38_Short,cpA,cpC]
  refine wpA_loop (fun j:Nat=>⟨mkV [(27,.one (.full (xs.map rC))),(28,.one (.lit (.int .i64 9))),(29,.one (.lit (.int .i64 j)))],mkH []⟩) (fun j=>j≤9∧(xs.take j).all (sR 2)=true) (fun j=>9-j) 0 ?_ ?_ ?_
  ·exact weak_lit (by rw [hxs];simp [okS,okV,okC,okL,okH,okB,okE,mkV_cons,mkV_nil,mkH_cons,mkH_nil,wsA,ws,rC,cps9]) trivial
  ·exact ⟨Nat.zero_le _,rfl⟩
  ·rintro j ⟨hj,hallj⟩
   by_cases hltj:j<9
   ·obtain ⟨x,hx⟩:∃x,xs.getD j (rcan 0)=x:=⟨_,rfl⟩
    have hx0:=getD_get (by omega:j<xs.length) hx
    have hxr:=hwx x (List.mem_of_getElem? hx0)
    have hjx:j<xs.length:=by omega
    obtain ⟨b,n,d⟩:=x
    have w1:n.length≤4294967296:=Nat.le_trans (Nat.le_max_left _ _) hxr
    have w2:d.length≤4294967296:=Nat.le_trans (Nat.le_max_right _ _) hxr
    have bad:¬(sR 2 (b,n,d)=true)→K (.one (.lit (.bool false))):=by
     intro hb
     have e1:sC c=false:=by rw [←hex];exact all_f hx0 (by simpa using hb)
     rw [e1]at hK;exact hK
    have hsr:sR 2 (b,n,d)=true↔n.length≤2∧d.length≤2:=by simp [sR]
    simp only [go_sem,hltj,hjx,hx,rC_eq,cb,cn,cd,ws,hlx]
    exact ⟨fun _ _=>⟨fun h=>bad (fun e=>by have:=hsr.1 e;omega),fun h _=>⟨fun h'=>bad (fun e=>by have:=hsr.1 e;omega),fun h'=>⟨by omega,j+1,weak_lit (by simp [okS,okV,okC,okL,okH,okB,okE,mkV_cons,mkV_nil,mkH_cons,mkH_nil,wsA,ws]) trivial,⟨by omega,all_step hx0 hallj (hsr.2 ⟨by omega,by omega⟩)⟩,by omega⟩⟩⟩,fun h=>absurd (by omega) h⟩
   ·rw [List.take_of_length_le (by omega),hex]at hallj
    rw [hallj]at hK
    simp only [go_sem,hltj]
    exact ⟨fun h=>absurd h (by omega),fun _=>hK⟩
theorem lof_sound (hΓ:Holds P Γ) {f fo:Nat} (ho:Γ fo=.dat false rof_G) (hc:check P f=some (10,(ac_linkworklaw38_of fo).strip,[.cell 4 6 true])):Sound P f (.dat false lof_G):=by
 refine sound_dat hc lof_good hΓ (fun args K hcl hfi hG=>?_)
 match args,hG with
 | [a,b],hG=>
  obtain ⟨k,n,rfl,hG'⟩:=asInt_inv hG
  obtain ⟨k',m,rfl,rfl,rfl,h1,h2,hK⟩:=asInt_inv hG'
  clear hG hG'
  refine ⟨by simp,?_⟩
  simp only [go_sem,ac_linkworklaw38_of,ho]
  exact ⟨h1.1,h1.2,h2.1,h2.2,hK⟩
theorem ex38_sound (hΓ:Holds P Γ) {f fm fo fl:Nat} (hm:Γ fm=.dat false rmake_G) (ho:Γ fo=.dat false rof_G) (hl:Γ fl=.dat false lof_G) (hc:check P f=some (15,(ac_linkworklaw38_Example fm fo fl).strip,[.cell 0 27 true])):Sound P f (.dat false ex38_G):=by
 refine sound_dat hc ex38_good hΓ (fun args K hcl hfi hG=>?_)
 match args,hG with
 | [],hK=>
  refine ⟨by simp,?_⟩
  have i1:((1:Int):Rat)=1:=rfl
  have i4:((4:Int):Rat)=4:=rfl
  have i0:((0:Int):Rat)=0:=rfl
  have i16:((16:Int):Rat)=16:=rfl
  have ih:Rat.divInt 1 2=1 / 2:=by decide +kernel
  unfold ex38_G cqR exQ at hK
  simp only [rcan_zero]at hK
  simp only [go_sem,ac_linkworklaw38_Example,hm,ho,hl,i1,i4,i0,i16,ih,rcan_zero]
  exact ⟨by decide,by decide,by decide,by decide,by decide,by decide,by decide,by decide,by decide,hK⟩
set_option maxHeartbeats 2000000 in
theorem awk38_sound (hΓ:Holds P Γ) {f fe fo fn fl fp fs tE:Nat} (he:Γ fe=.dat false ex38_G) (ho:Γ fo=.dat false lof_G) (hn:Γ fn=.dat false (cpon_G tE)) (hl:Γ fl=.dat false (cpli_G tE)) (hp:Γ fp=.dat false (cppt_G tE)) (hs:Γ fs=.dat true lsame_G) (hc:check P f=some (72,(ac_linkworklaw38_awake fe fo fn fl fp fs).strip,[.tmp 0])):Sound P f (.dat true awk38_G):=by
 refine sound_dat hc awk38_good hΓ (fun args K hcl hfi hG=>?_)
 match args,hG with
 | [],hK=>
  refine ⟨by simp,?_⟩
  have i1:((1:Int):Rat)=1:=rfl
  have i4:((4:Int):Rat)=4:=rfl
  have i0:((0:Int):Rat)=0:=rfl
  have i2:((2:Int):Rat)=2:=rfl
  have vA:∀a:V2,avld (rcan a.1,rcan a.2)=true:=fun a=>by show (vldR (rcan _) && vldR (rcan _))=true;rw [vld_rcan,vld_rcan];rfl
  have k21:cchk2 (canC exQ) [(rcan 2,rcan 1)]=0:=cchk2_ex (by simp [vA (2,1)])
  have k22:cchk2 (canC exQ) [(rcan 2,rcan 2)]=0:=cchk2_ex (by simp [vA (2,2)])
  have k2:cchk2 (canC exQ) [(rcan 0,rcan 1),(rcan 4,rcan 1)]=0:=cchk2_ex (by simp [vA (0,1),vA (4,1)])
  have a21:av (rcan 2,rcan 1)=(2,1):=av_c2 (2,1)
  have a22:av (rcan 2,rcan 2)=(2,2):=av_c2 (2,2)
  have a01:av (rcan 0,rcan 1)=(0,1):=av_c2 (0,1)
  have a41:av (rcan 4,rcan 1)=(4,1):=av_c2 (4,1)
  have lC:liC (canC exQ) (rcan 2,rcan 1)=0:=by
   unfold liC
   rw [k21,a21,cpv_can,if_neg (by decide),if_neg (by simp [ex_on]),if_neg ex_m]
  have d1:=decide_eq_true ex_on
  have d2:=decide_eq_false ex_off
  have wA:∀a:V2,WLA (rcan a.1,rcan a.2):=fun a=>WLA_can a
  have w21:=wA (2,1)
  have w22:=wA (2,2)
  have w01:=wA (0,1)
  have w41:=wA (4,1)
  have wC:WLC (canC exQ):=⟨WLA_can _,WLA_can _,WLR_rcan _,WLR_rcan _,WLR_rcan _,WLR_rcan _,WLR_rcan _⟩
  have z0:=rz_0
  have z1:=rz_1
  have z2:=rz_2
  have z4:=rz_4
  have l21:al (rcan 2,rcan 1)≤14:=Nat.max_le.2 ⟨by show rz 2≤_;omega,by show rz 1≤_;omega⟩
  have l22:al (rcan 2,rcan 2)≤14:=Nat.max_le.2 ⟨by show rz 2≤_;omega,by show rz 2≤_;omega⟩
  have l01:al (rcan 0,rcan 1)≤14:=Nat.max_le.2 ⟨by show rz 0≤_;omega,by show rz 1≤_;omega⟩
  have l41:al (rcan 4,rcan 1)≤14:=Nat.max_le.2 ⟨by show rz 4≤_;omega,by show rz 1≤_;omega⟩
  have lc:cl (canC exQ)≤100:=by
   have z16:=rz_mul 4 4
   have e16:(4:Rat)*4=16:=by decide +kernel
   have zh:=rz_div 1 2
   rw [e16]at z16
   rw [cl_can]
   simp only [Nat.max_le,exQ,zq]
   refine ⟨⟨by omega,by omega⟩,⟨by omega,by omega⟩,by omega,by omega,by omega,by omega,by omega⟩
  have dd:∀{α:Type} [DecidableEq α] (x:α),decide (x=x)=true:=fun x=>decide_eq_true rfl
  obtain ⟨E,hE⟩:∃E,canC exQ=E:=⟨_,rfl⟩
  have hcq:cqR exQ=cpA E:=by rw [cqR_eq,hE]
  have hcv:cpv E=exQ:=by rw [←hE,cpv_can]
  rw [hE]at k21 k22 k2 lC wC lc
  simp only [go_sem,ac_linkworklaw38_awake,he,ho,hn,hl,hp,hs,i1,i4,i0,i2,hcq,cpA,cpC,mk_eta,k21,k22,k2,lC,hcv,a21,a22,a01,a41,d1,d2,ex_a,ex_b,ex_p,errV_0,dd,Bool.true_and,Bool.and_true]
  repeat (first | (refine And.intro (by with_reducible assumption) ?_) | (refine And.intro (Nat.le_trans (by with_reducible assumption) (by decide)) ?_) | (refine And.intro (by decide) ?_))
  rw [ac_linkworklaw38_awake_c1_e,wpA_dr,wpL_ap,wpL_ap,wpL_ap]
  rw [ac_linkworklaw38_awake_c1_o1_e]
  simp only [go_sem]
  rw [ac_linkworklaw38_awake_c1_o2_e]
  simp only [go_sem,ho,hs,i1,i0,i4,i2,dd]
  repeat (first | (refine And.intro (by with_reducible assumption) ?_) | (refine And.intro (Nat.le_trans (by with_reducible assumption) (by decide)) ?_) | (refine And.intro (by decide) ?_))
  rw [ac_linkworklaw38_awake_c1_o3_e]
  simp only [go_sem,ho,hs,i1,i0,i4,i2,dd]
  repeat (first | (refine And.intro (by with_reducible assumption) ?_) | (refine And.intro (Nat.le_trans (by with_reducible assumption) (by decide)) ?_) | (refine And.intro (by decide) ?_))
  rw [ac_linkworklaw38_awake_c1_o4_e]
  simp only [go_sem,ho,hs,i1,i0,i4,i2,dd]
  repeat (first | (refine And.intro (by with_reducible assumption) ?_) | (refine And.intro (Nat.le_trans (by with_reducible assumption) (by decide)) ?_) | (refine And.intro (by decide) ?_))
  exact hK
end Go.Abs
end
section
set_option linter.unusedVariables false
set_option linter.unusedSimpArgs false
set_option maxRecDepth 100000
namespace Go.Num
open Go.Abs
theorem top_get (L:BQ) {k:Nat} (hk:k<4):(mcs (L++top6)).getD (L.length+k) mo0=(2*(k:Int),6-2*(k:Int),rcan (if k=0∨k=3 then 1 else 3)):=by
 rw [List.getD_eq_getElem?_getD]
 unfold mcs
 rw [List.getElem?_map,List.getElem?_append_right (by omega),Nat.add_sub_cancel_left]
 match k,hk with
 | 0,_=>rfl
 | 1,_=>rfl
 | 2,_=>rfl
 | 3,_=>rfl
theorem deg_top (L:BQ):degB (L++top6)=6:=by
 unfold degB
 rw [List.getLast?_append]
 rfl
theorem low_get (L:BQ) {n:Nat} (hn:L.length=n+1):∃t∈L,(mcs (L++top6)).getD n mo0=mcan t:=by
 have h:n<L.length:=by omega
 refine ⟨L[n],List.getElem_mem h,?_⟩
 rw [List.getD_eq_getElem?_getD]
 unfold mcs
 rw [List.getElem?_map,List.getElem?_append_left h,List.getElem?_eq_getElem h]
 rfl
theorem rz_3:rz (3:Rat)≤6:=by
 have h1:=rz_1
 have h2:=rz_2
 have h3:=rz_add 1 2
 have e:(1:Rat)+2=3:=by decide +kernel
 rw [e]at h3
 omega
theorem mcs_len (p:BQ):(mcs p).length=p.length:=List.length_map _
end Go.Num
namespace Go.Abs
open Go.Num
variable {P:Program} {Γ:Nat→Spec}
def bdegr_G (tE:Nat) (l:List AV) (K:AV→Prop):Prop:=
 match l with
 | [a]=>onMs (fun l=>(∀t∈l,rl t.2.2≤4294967296)∧K (.tup [.one (.lit (.int .i64 (if chkB l=0 then degM l else 0))),errV tE (chkB l)])) a
 | _=>False
theorem bdegr_Ge (tE:Nat) (a:AV) (K:AV→Prop):bdegr_G tE [a] K=(onMs (fun l=>(∀t∈l,rl t.2.2≤4294967296)∧K (.tup [.one (.lit (.int .i64 (if chkB l=0 then degM l else 0))),errV tE (chkB l)])) a):=propext Iff.rfl
@[congr] theorem bdegr_Gc (tE:Nat) {K:AV→Prop} {l l' : List AV} (h:l=l'):bdegr_G tE l K=bdegr_G tE l' K:=by subst h;rfl
attribute [go_sem] bdegr_Ge
attribute [go_sem ↓] bdegr_Ge
theorem bdegr_good (tE:Nat):Good (bdegr_G tE):=good_of fun as=>by
 unfold bdegr_G
 split
 ·exact (g_onMs fun _=>(.and fun _=>(.ret _)))
 ·exact .of fun K hk=>hk.elim
def lCDegree_G (l:List AV) (K:AV→Prop):Prop:=
 match l with
 | [c]=>onCp (fun c=>cl c≤1048576∧K (.one (.lit (.bool true)))) c
 | _=>False
theorem lCDegree_Ge (c:AV) (K:AV→Prop):lCDegree_G [c] K=(onCp (fun c=>cl c≤1048576∧K (.one (.lit (.bool true)))) c):=propext Iff.rfl
@[congr] theorem lCDegree_Gc {K:AV→Prop} {l l' : List AV} (h:l=l'):lCDegree_G l K=lCDegree_G l' K:=by subst h;rfl
attribute [go_sem] lCDegree_Ge
attribute [go_sem ↓] lCDegree_Ge
theorem lCDegree_good:Good lCDegree_G:=good_of fun as=>by
 unfold lCDegree_G
 split
 ·exact (g_onCp fun _=>(.and fun _=>(.ret _)))
 ·exact .of fun K hk=>hk.elim
def ac_bipoly_Degree (f0 f1:Nat):AC:=(.seq (.ops false [.m 2 (.i 0),.m 3 (.c (.one (.lit .nilIface)))])
 (.fg [0] (.seq (.seq (.ops false [.m 5 (.t 0),.u 6 (.call f0 [(.t 5)]),.m 4 (.t 6)])
 (.fg [0,4] (.seq (.ops false [.m 7 (.t 4),.u 8 (.binn .neq (.t 7) (.c (.one (.lit .nilIface))))])
 (.fg [0,4,8] (.cond (.t 8) (.seq (.ops false [.m 9 (.t 4),.m 2 (.i 0),.m 3 (.t 9)])
 .ret) .skip)))))
 (.fg [0] (.seq (.ops false [.m 10 (.t 0),.u 11 (.call f1 [(.t 10)]),.m 2 (.t 11),.m 3 (.c (.one (.lit .nilIface)))])
 .ret)))))
def ac_linkworklaw38_CouplerDegree (f0 f1 f2 f3 f4 f5 f6:Nat):AC:=(.seq (.ops false [.u 1 (.box 27 (.t 0)),.m 2 .fa])
 (.fg [1] (.seq (.seq (.ops false [.u 10 (.call f0 []),.u 11 (.un .not (.t 10)),.m 12 (.t 11),.w 13 12 false (.ld none 27 true (.t 1)),.w 14 12 false (.call f1 [(.t 13)]),.w 15 12 false (.un .not (.t 14)),.u 16 (.pick (.t 12) .tr (.t 15)),.m 17 (.t 16),.w 18 17 false (.ld none 27 true (.t 1)),.w 19 17 false (.call f2 [(.t 18)]),.w 20 17 false (.binn .neq (.t 19) (.c (.one (.lit .nilIface)))),.u 21 (.pick (.t 17) .tr (.t 20))])
 (.fg [1,21] (.cond (.t 21) (.seq (.ops false [.u 22 (.call f0 []),.m 2 (.t 22)])
 .ret) .skip)))
 (.fg [1] (.seq (.ops false [.u 24 (.ld none 27 true (.t 1)),.u 25 (.call f3 [(.t 24)]),.m 23 (.t 25),.u 26 (.ext 0 (.t 23)),.u 27 (.ext 1 (.t 23)),.m 3 (.t 26),.m 4 (.t 27)])
 (.fg [3,4] (.seq (.ops false [.m 29 (.t 3),.u 30 (.call f4 [(.t 29)]),.m 28 (.t 30),.u 31 (.ext 0 (.t 28)),.u 32 (.ext 1 (.t 28)),.m 5 (.t 31),.m 6 (.t 32)])
 (.fg [3,4,5,6] (.seq (.seq (.ops false [.m 33 (.t 4),.u 34 (.binn .neq (.t 33) (.c (.one (.lit .nilIface)))),.m 35 (.t 34),.w 36 35 false (.mv (.t 6)),.w 37 35 false (.binn .neq (.t 36) (.c (.one (.lit .nilIface)))),.u 38 (.pick (.t 35) .tr (.t 37)),.m 39 (.t 38),.w 40 39 false (.mv (.t 5)),.w 41 39 false (.bin .neq (.t 40) (.i 6)),.u 42 (.pick (.t 39) .tr (.t 41)),.m 43 (.t 42),.w 44 43 false (.mv (.t 3)),.w 45 43 false (.len (.t 44)),.w 46 43 false (.bin .lss (.t 45) (.i 4)),.u 47 (.pick (.t 43) .tr (.t 46))])
 (.fg [3,47] (.cond (.t 47) (.seq (.ops false [.m 2 .fa])
 .ret) .skip)))
 (.fg [3] (.seq (.seq (.ops false [.u 48 (.row 1 [[.x 1 (.i 1)],[.x 1 (.i 3)],[.x 1 (.i 3)],[.x 1 (.i 1)]]),.u 49 (.len (.t 48)),.m 50 (.i 0)])
 (.fg [3,48,49,50] (.block 0 (.loop (.seq (.ops false [.u 51 (.bin .lss (.t 50) (.t 49))])
 (.fg [3,48,49,50,51] (.seq (.cond (.t 51) .skip (.exit 0))
 (.fg [3,48,49,50] (.seq (.block 1 (.seq (.ops false [.m 52 (.t 50),.u 53 (.idx 1 (.t 48) (.t 50)),.u 54 (.ld none 1 false (.t 53)),.m 7 (.t 52),.m 8 (.t 54)])
 (.fg [3,7,8,48,49,50] (.seq (.ops false [.m 55 (.t 3),.m 56 (.t 3),.u 57 (.len (.t 56)),.u 58 (.bin .sub (.t 57) (.i 4)),.m 59 (.t 7),.u 60 (.bin .add (.t 58) (.t 59)),.u 61 (.idx 5 (.t 55) (.t 60)),.u 62 (.ld none 5 true (.t 61)),.u 9 (.alloc [(.lit (.int .i64 0)),(.lit (.int .i64 0)),(.lit (.bool false)),.emp,.emp]),.n (.st none 5 (.t 9) (.t 62))])
 (.fg [3,7,8,9,48,49,50] (.seq (.ops true [.u 63 (.fa 0 (.t 9)),.u 64 (.ld none 1 false (.t 63)),.m 65 (.t 7),.u 66 (.bin .mul (.i 2) (.t 65)),.u 67 (.bin .neq (.t 64) (.t 66)),.m 68 (.t 67),.w 69 68 false (.fa 1 (.t 9)),.w 70 68 false (.ld none 1 false (.t 69)),.w 71 68 false (.mv (.t 7)),.w 72 68 false (.bin .mul (.i 2) (.t 71)),.w 73 68 false (.bin .sub (.i 6) (.t 72)),.w 74 68 false (.bin .neq (.t 70) (.t 73)),.u 75 (.pick (.t 68) .tr (.t 74)),.m 76 (.t 75),.w 77 76 false (.fa 2 (.t 9)),.w 78 76 false (.ld none 3 true (.t 77)),.w 79 76 false (.mv (.t 8)),.w 80 76 false (.call f5 [(.t 79)]),.w 81 76 false (.call f6 [(.t 78),(.t 80)]),.w 82 76 false (.bin .neq (.t 81) (.i 0)),.u 83 (.pick (.t 76) .tr (.t 82))])
 (.fg [3,48,49,50,83] (.cond (.t 83) (.seq (.ops false [.m 2 .fa])
 .ret) .skip))))))))
 (.fg [3,48,49,50] (.ops false [.u 84 (.bin .add (.t 50) (.i 1)),.m 50 (.t 84)])))))))))))
 (.fg [3] (.seq (.ops true [.m 85 (.t 3),.u 86 (.len (.t 85)),.u 87 (.bin .eql (.t 86) (.i 4)),.m 88 (.t 87),.w 89 88 false (.mv (.t 3)),.w 90 88 false (.mv (.t 3)),.w 91 88 false (.len (.t 90)),.w 92 88 false (.bin .sub (.t 91) (.i 5)),.w 93 88 false (.idx 5 (.t 89) (.t 92)),.w 94 88 false (.fa 0 (.t 93)),.w 95 88 false (.ld none 1 false (.t 94)),.w 96 88 false (.mv (.t 3)),.w 97 88 false (.mv (.t 3)),.w 98 88 false (.len (.t 97)),.w 99 88 false (.bin .sub (.t 98) (.i 5)),.w 100 88 false (.idx 5 (.t 96) (.t 99)),.w 101 88 false (.fa 1 (.t 100)),.w 102 88 false (.ld none 1 false (.t 101)),.w 103 88 false (.bin .add (.t 95) (.t 102)),.w 104 88 false (.bin .lss (.t 103) (.i 6)),.u 105 (.pick (.t 88) .tr (.t 104)),.m 2 (.t 105)])
 .ret)))))))))))))
theorem bdegr_sound (hΓ:Holds P Γ) {f fk fd tE:Nat} (hk:Γ fk=.dat false (bcheck_G tE)) (hd:Γ fd=.dat true bdeg_G) (hc:check P f=some (12,(ac_bipoly_Degree fk fd).strip,[.tmp 2,.tmp 3])):Sound P f (.dat false (bdegr_G tE)):=by
 refine sound_dat hc (bdegr_good tE) hΓ (fun args K hcl hfi hG=>?_)
 match args,hG with
 | [a],hG=>
  obtain ⟨l,rfl,hw,hrl,hK⟩:=hG
  refine ⟨by simp,?_⟩
  by_cases h0:chkB l=0
  ·have e0:=errV_0 tE
   rw [if_pos h0,h0,e0]at hK
   obtain ⟨hl,hg⟩:=chkB_0 h0
   have hin:∀t∈l,inM t:=fun t ht=>by
    obtain ⟨c1,c2⟩:=chkB_is h0 hw
    have:=c1.ins (mv t) (List.mem_map.2 ⟨t,ht,rfl⟩)
    exact this
   have hl2:l.length≤1000000:=by omega
   simp only [go_sem,ac_bipoly_Degree,hk,hd,h0,e0]
   repeat (first | (refine And.intro (by with_reducible assumption) ?_) | (refine And.intro (Nat.le_trans (by with_reducible assumption) (by decide)) ?_) | (refine And.intro (by decide) ?_))
   exact hK
  ·have e1:=errV_s tE h0
   rw [if_neg h0,e1]at hK
   simp only [go_sem,ac_bipoly_Degree,hk,e1]
   repeat (first | (refine And.intro (by with_reducible assumption) ?_) | (refine And.intro (Nat.le_trans (by with_reducible assumption) (by decide)) ?_) | (refine And.intro (by decide) ?_))
   exact hK
set_option maxHeartbeats 2000000 in
theorem lCDegree_sound (hΓ:Holds P Γ) {f fw fs fk fv fd fo fq tE:Nat} (hw:Γ fw=.dat true awk38_G) (hs:Γ fs=.dat true rcsh_G) (hk:Γ fk=.dat false (cpck_G tE)) (hv:Γ fv=.dat false (cpcv_G tE)) (hd:Γ fd=.dat false (bdegr_G tE)) (ho:Γ fo=.dat false rof_G) (hq' : Γ fq=.dat true rcmp02_G) (hc:check P f=some (106,(ac_linkworklaw38_CouplerDegree fw fs fk fv fd fo fq).strip,[.tmp 2])):Sound P f (.dat true lCDegree_G):=by
 refine sound_dat hc lCDegree_good hΓ (fun args K hcl hfi hG=>?_)
 match args,hG with
 | [a],hG=>
  obtain ⟨c,rfl,wc,hlc,hK⟩:=hG
  refine ⟨by simp,?_⟩
  have hlc1:cl c≤4294967296:=by omega
  have hlc2:cl c≤100000000:=by omega
  cases hsc:sC c with
  | false=>
   simp only [go_sem,ac_linkworklaw38_CouplerDegree,hw,hs,hsc,cpA,cpC,mk_eta]
   repeat (first | (refine And.intro (by with_reducible assumption) ?_) | (refine And.intro (Nat.le_trans (by with_reducible assumption) (by decide)) ?_) | (refine And.intro (by decide) ?_))
   exact hK
  | true=>
  by_cases h0:cchk c=0
  case neg=>
   have e1:=errV_s tE h0
   simp only [go_sem,ac_linkworklaw38_CouplerDegree,hw,hs,hk,hsc,cpA,cpC,mk_eta,e1]
   repeat (first | (refine And.intro (by with_reducible assumption) ?_) | (refine And.intro (Nat.le_trans (by with_reducible assumption) (by decide)) ?_) | (refine And.intro (by decide) ?_))
   exact hK
  have e0:=errV_0 tE
  have c2:=sC_cl hsc
  have lc1:cl c≤1000:=by omega
  have hB:=cb_cpv wc lc1
  have pc:=pb_cur hB
  have cc:=chk_canon pc.canon
  obtain ⟨L,hL,hLt⟩:=cur_eq hB
  have i0:=WLM_mcs pc.canon.ins
  have i1:=mcs_rl (p:=cCur (cpv c)) (N:=4294967296) (Nat.le_trans pc.size (by decide))
  have hdm:degM (mcs (cCur (cpv c)))=6:=by rw [degM_mcs,hL,deg_top]
  have hlen:(mcs (cCur (cpv c))).length=L.length+4:=by rw [mcs_len,hL,List.length_append];rfl
  have hcl325:=canon_len pc.canon
  rw [←mcs_len,hlen]at hcl325
  have hget:∀k,k<4→(mcs (cCur (cpv c))).getD (L.length+k) mo0=(2*(k:Int),6-2*(k:Int),rcan (if k=0∨k=3 then 1 else 3)):=fun k hk=>by rw [hL];exact top_get L hk
  have hn4:¬((L.length+4:Nat):Int)<4:=by omega
  obtain ⟨M,hM⟩:∃M,mcs (cCur (cpv c))=M:=⟨_,rfl⟩
  have hbr:bres (cchk c) (cCur (cpv c))=M:=by rw [h0,bres_0,hM]
  rw [hM]at i0 i1 hdm hlen hget cc
  simp only [go_sem,ac_linkworklaw38_CouplerDegree,hw,hs,hk,hv,hd,hsc,cpA,cpC,mk_eta,h0,e0,hbr,bres_0,hM,cc,hdm,hlen,hn4]
  repeat (first | (refine And.intro (by with_reducible assumption) ?_) | (refine And.intro (Nat.le_trans (by with_reducible assumption) (by decide)) ?_) | (refine And.intro (by decide) ?_))
  intro _
  have four:((4:Nat):Int)=4:=rfl
  refine wpA_loop (fun k:Nat=>⟨mkV [(3,.one (.slice (M.map mC))),(48,.one (.full [[.lit (.int .i64 1)],[.lit (.int .i64 3)],[.lit (.int .i64 3)],[.lit (.int .i64 1)]])),(49,.one (.lit (.int .i64 4))),(50,.one (.lit (.int .i64 k)))],mkH []⟩) (fun k=>k≤4) (fun k=>4-k) 0 ?_ ?_ ?_
  ·exact weak_lit (by simp [okS,okV,okC,okL,okH,okB,okE,mkV_cons,mkV_nil,mkH_cons,mkH_nil,wsA,ws]) trivial
  ·exact Nat.zero_le _
  ·intro k hk4
   by_cases hlt:k<4
   ·have hlt' : ((k:Nat):Int)<4:=by omega
    have g:=hget k hlt
    have t1:(0:Int)≤((L.length+4:Nat):Int)-4+k:=by omega
    have t2:(((L.length+4:Nat):Int)-4+k).toNat=L.length+k:=by omega
    have t3:L.length+k<L.length+4:=by omega
    have hq:(if k=0∨k=3 then (1:Rat) else 3)=((if k=0∨k=3 then (1:Int) else 3:Int):Rat):=by split <;> rfl
    have hz:rz (if k=0∨k=3 then (1:Rat) else 3)≤14:=by
     split
     ·have:=rz_1;omega
     ·have:=rz_3;omega
    have hrow:∀K:List C→Prop,getE K [[C.lit (.int .i64 1)],[C.lit (.int .i64 3)],[C.lit (.int .i64 3)],[C.lit (.int .i64 1)]] k=K [C.lit (.int .i64 (if k=0∨k=3 then 1 else 3))]:=fun K=>by
     match k,hlt with
     | 0,_=>simp [getE]
     | 1,_=>simp [getE]
     | 2,_=>simp [getE]
     | 3,_=>simp [getE]
    obtain ⟨N,hN⟩:∃N:Int,(if k=0∨k=3 then 1 else 3)=N:=⟨_,rfl⟩
    have hN1:-9223372036854775808≤N∧N≤9223372036854775807:=by rw [←hN];split <;> decide
    rw [hq,hN]at g hz
    have o1:ordQ (N:Rat) (N:Rat)=0:=ordQ_eq0.2 rfl
    have hz2:=Nat.le_trans hz (by decide:14≤1073741824)
    simp only [go_sem,hlt',hlt,hrow,hN,ho,hq',t1,t2,t3,g,hlen,mC,rv_rcan,o1,List.length_map]
    intro _
    refine ⟨by omega,by omega,by omega,by omega,by omega,hN1.1,hN1.2,hz2,hz2,⟨by omega,k+1,weak_lit (by simp [okS,okV,okC,okL,okH,okB,okE,mkV_cons,mkV_nil,mkH_cons,mkH_nil,wsA,ws]) trivial,by omega,by omega⟩,fun h=>absurd trivial h⟩
   ·have hk5:k=4:=by omega
    subst hk5
    have h44:((4:Int)<4)=False:=eq_false (by decide)
    by_cases hn:L.length=0
    ·have e4:(((L.length+4:Nat):Int)=4)=True:=eq_true (by omega)
     simp only [go_sem,four,h44,hlen,List.length_map,e4]
     exact ⟨by omega,hK⟩
    ·have e4:(((L.length+4:Nat):Int)=4)=False:=eq_false (by omega)
     obtain ⟨n,hn1⟩:∃n,L.length=n+1:=⟨L.length-1,by omega⟩
     obtain ⟨t,ht,hg⟩:=low_get L hn1
     rw [←hL,hM]at hg
     have ht6:=hLt t ht
     have htin:=(pc.canon.ins t (by rw [hL];exact List.mem_append_left _ ht))
     obtain ⟨n1,n2,n3⟩:=htin
     have t2:(((L.length+4:Nat):Int)-5).toNat=n:=by omega
     have t3:n<L.length+4:=by omega
     have t4:(0:Int)≤((L.length+4:Nat):Int)-5:=by omega
     have t5:decide (t.1+t.2.1<6)=true:=decide_eq_true ht6
     have m1:(mcan t).1=t.1:=rfl
     have m2:(mcan t).2.1=t.2.1:=rfl
     simp only [go_sem,four,h44,hlen,List.length_map,e4,t2,t3,t4,hg,mC,m1,m2,t5]
     exact ⟨by omega,by omega,by omega,by omega,by omega,by omega,hK⟩
end Go.Abs
end
section
set_option linter.unusedVariables false
set_option linter.unusedSimpArgs false
set_option maxRecDepth 100000
namespace Go.Abs
open Go.Num
variable {P:Program} {Γ:Nat→Spec}
def ac_integer_trim:AC:=(.seq (.ops false [.m 2 (.c (.one .emp))])
 (.fg [0] (.seq (.ops false [.m 4 (.t 0),.u 5 (.len (.t 4)),.m 3 (.t 5)])
 (.fg [0,3] (.seq (.block 0 (.loop (.seq (.seq (.ops false [.m 6 (.t 3),.u 7 (.bin .gtr (.t 6) (.i 0)),.m 8 (.t 7),.w 9 8 true (.mv (.t 0)),.w 10 8 true (.mv (.t 3)),.w 11 8 true (.bin .sub (.t 10) (.i 1)),.w 12 8 true (.idx 1 (.t 9) (.t 11)),.w 13 8 true (.ld none 1 false (.t 12)),.w 14 8 true (.bin .eql (.t 13) (.c (.one (.lit (.int .u32 0))))),.u 15 (.pick (.t 8) (.t 14) .fa)])
 (.fg [0,3,15] (.cond (.t 15) .skip (.exit 0))))
 (.fg [0,3] (.block 1 (.ops false [.m 16 (.t 3),.u 17 (.bin .sub (.t 16) (.i 1)),.m 3 (.t 17)]))))))
 (.fg [0,3] (.seq (.seq (.ops false [.m 18 (.t 3),.u 19 (.bin .eql (.t 18) (.i 0))])
 (.fg [0,3,19] (.cond (.t 19) (.seq (.ops false [.m 2 (.c (.one .emp))])
 .ret) .skip)))
 (.fg [0,3] (.seq (.ops false [.m 20 (.c (.one .emp)),.m 21 (.t 0),.m 22 (.t 3),.u 23 (.sl 1 (.t 21) none (some (.t 22))),.u 24 (.app0 1 (.t 20) (.t 23)),.m 2 (.t 24)])
 .ret)))))))))
def ac_integer_word:AC:=(.seq (.ops false [.m 4 (.c (.one (.lit (.int .u64 0))))])
 (.fg [0,1] (.seq (.seq (.ops false [.m 5 (.t 1),.m 6 (.t 0),.u 7 (.len (.t 6)),.u 8 (.bin .lss (.t 5) (.t 7))])
 (.fg [0,1,8] (.cond (.t 8) (.seq (.ops false [.m 9 (.t 0),.m 10 (.t 1),.u 11 (.idx 1 (.t 9) (.t 10)),.u 12 (.ld none 1 false (.t 11)),.u 13 (.conv .u64 (.t 12)),.m 4 (.t 13)])
 .ret) .skip)))
 (.fg [] (.seq (.ops false [.m 4 (.c (.one (.lit (.int .u64 0))))])
 .ret)))))
def ac_integer_plus (f0 f1:Nat):AC:=(.seq (.ops false [.m 4 (.c (.one .emp))])
 (.fg [0,1] (.seq (.ops false [.m 8 (.t 0),.u 9 (.len (.t 8)),.m 10 (.t 1),.u 11 (.len (.t 10)),.u 12 (.max [(.t 9),(.t 11)]),.u 13 (.bin .add (.t 12) (.i 1)),.u 14 (.mk 1 [(.lit (.int .u32 0))] (.t 13) (.t 13)),.m 5 (.t 14)])
 (.fg [0,1,5] (.seq (.ops false [.m 6 (.c (.one (.lit (.int .u64 0))))])
 (.fg [0,1,5,6] (.seq (.seq (.ops false [.m 15 (.t 5),.u 16 (.len (.t 15)),.m 17 (.i 0)])
 (.fg [0,1,5,6,16,17] (.block 0 (.loop (.seq (.ops false [.u 18 (.bin .lss (.t 17) (.t 16))])
 (.fg [0,1,5,6,16,17,18] (.seq (.cond (.t 18) .skip (.exit 0))
 (.fg [0,1,5,6,16,17] (.seq (.block 1 (.seq (.ops false [.m 19 (.t 17),.m 7 (.t 19)])
 (.fg [0,1,5,6,7,16,17] (.seq (.ops false [.m 20 (.t 6),.m 21 (.t 0),.m 22 (.t 7),.u 23 (.call f0 [(.t 21),(.t 22)]),.m 24 (.t 1),.m 25 (.t 7),.u 26 (.call f0 [(.t 24),(.t 25)]),.u 27 (.bin .add (.t 23) (.t 26)),.u 28 (.bin .add (.t 20) (.t 27)),.m 6 (.t 28)])
 (.fg [0,1,5,6,7,16,17] (.seq (.ops false [.m 29 (.t 5),.m 30 (.t 7),.m 31 (.t 6),.u 32 (.conv .u32 (.t 31)),.u 33 (.idx 1 (.t 29) (.t 30)),.n (.st none 1 (.t 33) (.t 32))])
 (.fg [0,1,5,6,16,17] (.ops false [.m 34 (.t 6),.u 35 (.bin .shr (.t 34) (.c (.one (.lit (.int .u64 32))))),.m 6 (.t 35)]))))))))
 (.fg [0,1,5,6,16,17] (.ops false [.u 36 (.bin .add (.t 17) (.i 1)),.m 17 (.t 36)])))))))))))
 (.fg [5] (.seq (.ops false [.m 37 (.t 5),.u 38 (.call f1 [(.t 37)]),.m 4 (.t 38)])
 .ret)))))))))
theorem trim_sound (hΓ:Holds P Γ) {f:Nat} (hc:check P f=some (25,ac_integer_trim.strip,[.tmp 2])):Sound P f (.dat false trim_G):=by
 refine sound_dat hc trim_good hΓ (fun args K hcl hfi hG=>?_)
 match args,hG with
 | [a],hG=>
  obtain ⟨l,rfl,hl,hlen,hK⟩:=hG
  refine ⟨by simp,?_⟩
  simp only [go_sem,ac_integer_trim]
  intro hmax
  refine wpA_loop (fun n:Nat=>⟨mkV [(0,wsA l),(3,.one (.lit (.int .i64 n)))],mkH []⟩) (fun n=>n≤l.length∧val (l.take n)=val l) id l.length ?_ ?_ ?_
  ·exact weak_lit (by simp [okS,okV,okC,okL,okH,okB,okE,mkV_cons,mkV_nil,mkH_cons,mkH_nil,wsA,ws]) trivial
  ·simp
  ·rintro n ⟨hn,ht⟩
   simp only [go_sem]
   refine ⟨fun h=>⟨by omega,by omega,by omega,fun h0=>⟨by omega,n-1,weak_lit (by simp [okS,okV,okC,okL,okH,okB,okE,mkV_cons,mkV_nil,mkH_cons,mkH_nil,wsA,ws];omega) trivial,⟨by omega,?_⟩,?_⟩,fun h0=>⟨fun h1=>by omega,fun _=>⟨by omega,by simp;omega,?_⟩⟩⟩,fun h=>⟨fun h1=>?_,fun h1=>by omega⟩⟩
   ·rw [show ((n:Int)-1).toNat=n-1 by omega]at h0
    have:=take_succ l (n-1)
    rw [show n-1+1=n by omega,h0,Nat.mul_zero,Nat.add_zero]at this
    rw [←this];exact ht
   ·simp only [id];omega
   ·rw [show ((n:Int)-1).toNat=n-1 by omega]at h0
    have:=digs_val (WL_take hl n) (NZ_take h hn h0)
    rw [←this,ht];exact hK
   ·subst h1
    have:val l=0:=by rw [←ht];simp [val]
    rw [this,digs_zero]at hK;exact hK
theorem word_sound (hΓ:Holds P Γ) {f:Nat} (hc:check P f=some (14,ac_integer_word.strip,[.tmp 4])):Sound P f (.dat true word_G):=by
 refine sound_dat hc word_good hΓ (fun args K hcl hfi hG=>?_)
 match args,hG with
 | [a,b],hG=>
  obtain ⟨l,rfl,hl,hG⟩:=hG
  obtain ⟨k,i,rfl,rfl,hi,hK⟩:=asInt_inv hG
  refine ⟨by simp,?_⟩
  simp only [go_sem,ac_integer_word]
  intro hmax
  refine ⟨fun h=>⟨hi,by omega,?_⟩,fun h=>?_⟩
  ·have:=WL_getD hl i.toNat
   rw [Nat.mod_eq_of_lt (by omega)];exact hK
  ·rw [List.getD_eq_getElem?_getD,List.getElem?_eq_none (by omega)]at hK;exact hK
theorem plus_sound (hΓ:Holds P Γ) {f fw ft:Nat} (hw:Γ fw=.dat true word_G) (ht:Γ ft=.dat false trim_G) (hc:check P f=some (39,(ac_integer_plus fw ft).strip,[.tmp 4])):Sound P f (.dat false plus_G):=by
 refine sound_dat hc plus_good hΓ (fun args K hcl hfi hG=>?_)
 match args,hG with
 | [a,b],hG=>
  obtain ⟨x,rfl,hx,y,rfl,hy,hxl,hyl,hK⟩:=hG
  refine ⟨by simp,?_⟩
  simp only [go_sem,ac_integer_plus,hw,ht]
  intro h1 h2
  refine ⟨by omega,by omega,fun hN=>?_⟩
  generalize hNN:max x.length y.length+1=N at hN
  refine wpA_loop (fun p:List Nat×Nat=>⟨mkV [(0,wsA x),(1,wsA y),(5,.one (.own 14 1 1 0 N)),(6,.one (.lit (.int .u64 p.2))),(16,.one (.lit (.int .i64 N))),(17,.one (.lit (.int .i64 p.1.length)))],mkH [(14,⟨1,some ⟨(p.1++List.replicate (N-p.1.length) 0).map wc,1,true⟩⟩)]⟩)
   (fun p=>p.1.length≤N∧WL p.1∧p.2≤1∧val p.1+4294967296 ^ p.1.length*p.2=val (x.take p.1.length)+val (y.take p.1.length)) (fun p=>N-p.1.length) ([],0) ?_ ?_ ?_
  ·exact weak_lit (by simp [okS,okV,okC,okL,okH,okB,okE,mkV_cons,mkV_nil,mkH_cons,mkH_nil,wsA,ws]) (okH_1 (by simp))
  ·simp [WL_nil,val]
  ·rintro ⟨o,c⟩ ⟨hoN,ho,hc1,hval⟩
   simp only at hoN ho hc1 hval
   have hlen:(o++List.replicate (N-o.length) 0).length=N:=by simp;omega
   simp only [go_sem,hw,ht,hlen]
   refine ⟨fun hlt=>⟨hx,hy,hlt,hlt,by omega,by omega,?_⟩,fun hge=>?_⟩
   ·have g1:=WL_getD hx o.length
    have g2:=WL_getD hy o.length
    rw [Nat.mod_eq_of_lt (show x.getD o.length 0+y.getD o.length 0<18446744073709551616 by omega),Nat.mod_eq_of_lt (show c+(x.getD o.length 0+y.getD o.length 0)<18446744073709551616 by omega)]
    generalize hs:c+(x.getD o.length 0+y.getD o.length 0)=s
    refine ⟨(o++[s % 4294967296],s / 4294967296),weak_lit (by simp [okS,okV,okC,okL,okH,okB,okE,mkV_cons,mkV_nil,mkH_cons,mkH_nil,wsA,ws]) (okH_1 ?_),⟨by simp;omega,WL_append.2 ⟨ho,WL_cons.2 ⟨Nat.mod_lt _ (by omega),WL_nil⟩⟩,by simp only;omega,?_⟩,by simp;omega⟩
    ·rw [show N-o.length=N-(o.length+1)+1 by omega,rep_set];simp
    ·simp only [List.length_append,List.length_cons,List.length_nil,Nat.zero_add,take_succ,val_append,val_cons,val_nil,Nat.mul_zero,Nat.add_zero,Nat.pow_succ]
     rw [Nat.mul_assoc,Nat.add_assoc,←Nat.mul_add,Nat.mod_add_div,←hs,Nat.mul_add,←Nat.add_assoc,hval,Nat.mul_add]
     omega
   ·have e:o.length=N:=by omega
    simp only [e,Nat.sub_self,List.replicate_zero,List.append_nil,Nat.le_refl,if_true,onWs_e]
    have hv:val o=val x+val y:=by
     rw [e,take_all (by omega),take_all (by omega)]at hval
     exact sum_fits hx hy (by omega) (by omega) (by omega) hval
    refine ⟨ho,by omega,?_⟩
    rw [hv];exact hK
end Go.Abs
end
section
set_option linter.unusedVariables false
set_option linter.unusedSimpArgs false
set_option maxRecDepth 100000
namespace Go.Abs
open Go.Num
variable {P:Program} {Γ:Nat→Spec}
def ac_integer_less (f0 f1:Nat):AC:=(.seq (.ops false [.m 4 (.c (.one .emp))])
 (.fg [0,1] (.seq (.ops false [.m 9 (.t 0),.u 10 (.len (.t 9)),.u 11 (.mk 1 [(.lit (.int .u32 0))] (.t 10) (.t 10)),.m 5 (.t 11)])
 (.fg [0,1,5] (.seq (.ops false [.m 6 (.c (.one (.lit (.int .u64 0))))])
 (.fg [0,1,5,6] (.seq (.seq (.ops false [.m 12 (.t 5),.u 13 (.len (.t 12)),.m 14 (.i 0)])
 (.fg [0,1,5,6,13,14] (.block 0 (.loop (.seq (.ops false [.u 15 (.bin .lss (.t 14) (.t 13))])
 (.fg [0,1,5,6,13,14,15] (.seq (.cond (.t 15) .skip (.exit 0))
 (.fg [0,1,5,6,13,14] (.seq (.block 1 (.seq (.ops false [.m 16 (.t 14),.m 7 (.t 16)])
 (.fg [0,1,5,6,7,13,14] (.seq (.ops true [.m 17 (.t 0),.m 18 (.t 7),.u 19 (.idx 1 (.t 17) (.t 18)),.u 20 (.ld none 1 false (.t 19)),.u 21 (.conv .u64 (.t 20)),.m 22 (.t 1),.m 23 (.t 7),.u 24 (.call f0 [(.t 22),(.t 23)]),.u 25 (.bin .sub (.t 21) (.t 24)),.m 26 (.t 6),.u 27 (.bin .sub (.t 25) (.t 26)),.m 8 (.t 27)])
 (.fg [0,1,5,7,8,13,14] (.seq (.ops false [.m 28 (.t 5),.m 29 (.t 7),.m 30 (.t 8),.u 31 (.conv .u32 (.t 30)),.u 32 (.idx 1 (.t 28) (.t 29)),.n (.st none 1 (.t 32) (.t 31))])
 (.fg [0,1,5,8,13,14] (.ops false [.m 33 (.t 8),.u 34 (.bin .shr (.t 33) (.c (.one (.lit (.int .u64 63))))),.m 6 (.t 34)]))))))))
 (.fg [0,1,5,6,13,14] (.ops false [.u 35 (.bin .add (.t 14) (.i 1)),.m 14 (.t 35)])))))))))))
 (.fg [5] (.seq (.ops false [.m 36 (.t 5),.u 37 (.call f1 [(.t 36)]),.m 4 (.t 37)])
 .ret)))))))))
def ac_integer_compare:AC:=(.seq (.ops false [.m 4 (.i 0)])
 (.fg [0,1] (.seq (.seq (.ops false [.m 6 (.t 0),.u 7 (.len (.t 6)),.m 8 (.t 1),.u 9 (.len (.t 8)),.u 10 (.bin .neq (.t 7) (.t 9))])
 (.fg [0,1,10] (.cond (.t 10) (.seq (.seq (.ops false [.m 11 (.t 0),.u 12 (.len (.t 11)),.m 13 (.t 1),.u 14 (.len (.t 13)),.u 15 (.bin .lss (.t 12) (.t 14))])
 (.fg [15] (.cond (.t 15) (.seq (.ops false [.m 4 (.i (-1))])
 .ret) .skip)))
 (.fg [] (.seq (.ops false [.m 4 (.i 1)])
 .ret))) .skip)))
 (.fg [0,1] (.seq (.seq (.ops false [.m 16 (.t 0),.u 17 (.len (.t 16)),.u 18 (.bin .sub (.t 17) (.i 1)),.m 5 (.t 18)])
 (.fg [0,1,5] (.block 0 (.loop (.seq (.seq (.ops false [.m 19 (.t 5),.u 20 (.bin .geq (.t 19) (.i 0))])
 (.fg [0,1,5,20] (.cond (.t 20) .skip (.exit 0))))
 (.fg [0,1,5] (.seq (.block 1 (.seq (.ops true [.m 23 (.t 0),.m 24 (.t 5),.u 25 (.idx 1 (.t 23) (.t 24)),.u 26 (.ld none 1 false (.t 25)),.m 27 (.t 1),.m 28 (.t 5),.u 29 (.idx 1 (.t 27) (.t 28)),.u 30 (.ld none 1 false (.t 29)),.u 31 (.bin .neq (.t 26) (.t 30))])
 (.fg [0,1,5,31] (.cond (.t 31) (.seq (.seq (.ops true [.m 32 (.t 0),.m 33 (.t 5),.u 34 (.idx 1 (.t 32) (.t 33)),.u 35 (.ld none 1 false (.t 34)),.m 36 (.t 1),.m 37 (.t 5),.u 38 (.idx 1 (.t 36) (.t 37)),.u 39 (.ld none 1 false (.t 38)),.u 40 (.bin .lss (.t 35) (.t 39))])
 (.fg [40] (.cond (.t 40) (.seq (.ops false [.m 4 (.i (-1))])
 .ret) .skip)))
 (.fg [] (.seq (.ops false [.m 4 (.i 1)])
 .ret))) .skip))))
 (.fg [0,1,5] (.ops false [.m 21 (.t 5),.u 22 (.bin .sub (.t 21) (.i 1)),.m 5 (.t 22)])))))))))
 (.fg [] (.seq (.ops false [.m 4 (.i 0)])
 .ret)))))))
def ac_integer_short (f0:Nat):AC:=(.seq (.ops false [.m 4 (.c (.one .emp)),.m 5 (.c (.one (.lit (.int .u32 0))))])
 (.fg [0,1] (.seq (.ops false [.m 9 (.t 0),.u 10 (.len (.t 9)),.u 11 (.mk 1 [(.lit (.int .u32 0))] (.t 10) (.t 10)),.m 6 (.t 11)])
 (.fg [0,1,6] (.seq (.ops false [.m 7 (.c (.one (.lit (.int .u64 0))))])
 (.fg [0,1,6,7] (.seq (.seq (.ops false [.m 12 (.t 0),.u 13 (.len (.t 12)),.u 14 (.bin .sub (.t 13) (.i 1)),.m 8 (.t 14)])
 (.fg [0,1,6,7,8] (.block 0 (.loop (.seq (.seq (.ops false [.m 15 (.t 8),.u 16 (.bin .geq (.t 15) (.i 0))])
 (.fg [0,1,6,7,8,16] (.cond (.t 16) .skip (.exit 0))))
 (.fg [0,1,6,7,8] (.seq (.block 1 (.seq (.ops false [.m 19 (.t 7),.u 20 (.bin .shl (.t 19) (.c (.one (.lit (.int .u64 32))))),.m 21 (.t 0),.m 22 (.t 8),.u 23 (.idx 1 (.t 21) (.t 22)),.u 24 (.ld none 1 false (.t 23)),.u 25 (.conv .u64 (.t 24)),.u 26 (.bin .or (.t 20) (.t 25)),.m 7 (.t 26)])
 (.fg [0,1,6,7,8] (.seq (.ops false [.m 27 (.t 6),.m 28 (.t 8),.m 29 (.t 7),.m 30 (.t 1),.u 31 (.conv .u64 (.t 30)),.u 32 (.bin .quo (.t 29) (.t 31)),.u 33 (.conv .u32 (.t 32)),.u 34 (.idx 1 (.t 27) (.t 28)),.n (.st none 1 (.t 34) (.t 33))])
 (.fg [0,1,6,7,8] (.ops false [.m 35 (.t 7),.m 36 (.t 1),.u 37 (.conv .u64 (.t 36)),.u 38 (.bin .rem (.t 35) (.t 37)),.m 7 (.t 38)]))))))
 (.fg [0,1,6,7,8] (.ops false [.m 17 (.t 8),.u 18 (.bin .sub (.t 17) (.i 1)),.m 8 (.t 18)])))))))))
 (.fg [6,7] (.seq (.ops false [.m 39 (.t 6),.u 40 (.call f0 [(.t 39)]),.m 41 (.t 7),.u 42 (.conv .u32 (.t 41)),.m 4 (.t 40),.m 5 (.t 42)])
 .ret)))))))))
theorem less_sound (hΓ:Holds P Γ) {f fw ft:Nat} (hw:Γ fw=.dat true word_G) (ht:Γ ft=.dat false trim_G) (hc:check P f=some (38,(ac_integer_less fw ft).strip,[.tmp 4])):Sound P f (.dat false less_G):=by
 refine sound_dat hc less_good hΓ (fun args K hcl hfi hG=>?_)
 match args,hG with
 | [a,b],hG=>
  obtain ⟨x,rfl,hx,y,rfl,hy,hxl,hle,hK⟩:=hG
  refine ⟨by simp,?_⟩
  simp only [go_sem,ac_integer_less,hw,ht]
  intro h1
  refine ⟨by omega,fun _=>?_⟩
  generalize hN:x.length=N at h1 hxl
  refine wpA_loop (fun p:List Nat×Nat=>⟨mkV [(0,wsA x),(1,wsA y),(5,.one (.own 11 1 1 0 N)),(6,.one (.lit (.int .u64 p.2))),(13,.one (.lit (.int .i64 N))),(14,.one (.lit (.int .i64 p.1.length)))],mkH [(11,⟨1,some ⟨(p.1++List.replicate (N-p.1.length) 0).map wc,1,true⟩⟩)]⟩)
   (fun p=>p.1.length≤N∧WL p.1∧p.2≤1∧val p.1+val (y.take p.1.length)=val (x.take p.1.length)+4294967296 ^ p.1.length*p.2) (fun p=>N-p.1.length) ([],0) ?_ ?_ ?_
  ·exact weak_lit (by simp [okS,okV,okC,okL,okH,okB,okE,mkV_cons,mkV_nil,mkH_cons,mkH_nil,wsA,ws]) (okH_1 (by simp))
  ·simp [WL_nil,val]
  ·rintro ⟨o,c⟩ ⟨hoN,ho,hc1,hval⟩
   simp only at hoN ho hc1 hval
   have hlen:(o++List.replicate (N-o.length) 0).length=N:=by simp;omega
   simp only [go_sem,hw,ht,hlen]
   refine ⟨fun hlt=>⟨by omega,hy,hlt,hlt,by omega,by omega,?_⟩,fun hge=>?_⟩
   ·have g1:=WL_getD hx o.length
    have g2:=WL_getD hy o.length
    rw [Nat.mod_eq_of_lt (show x.getD o.length 0<18446744073709551616 by omega)]
    obtain ⟨s1,s2⟩:=sub_step g1 g2 hc1
    generalize sub64 (sub64 (x.getD o.length 0) (y.getD o.length 0)) c=s at s1 s2
    refine ⟨(o++[s % 4294967296],s / 9223372036854775808),weak_lit (by simp [okS,okV,okC,okL,okH,okB,okE,mkV_cons,mkV_nil,mkH_cons,mkH_nil,wsA,ws]) (okH_1 ?_),⟨by simp;omega,WL_append.2 ⟨ho,WL_cons.2 ⟨Nat.mod_lt _ (by omega),WL_nil⟩⟩,s2,?_⟩,by simp;omega⟩
    ·rw [show N-o.length=N-(o.length+1)+1 by omega,rep_set];simp
    ·simp only [List.length_append,List.length_cons,List.length_nil,Nat.zero_add,take_succ,val_append,val_cons,val_nil,Nat.mul_zero,Nat.add_zero,Nat.pow_succ]
     exact less_aux hval s1
   ·have e:o.length=N:=by omega
    have hv:=less_end ho hx (by omega) hle hval
    simp only [e,Nat.sub_self,List.replicate_zero,List.append_nil]
    refine ⟨ho,by omega,?_⟩
    rw [hv];exact hK
theorem compare_sound (hΓ:Holds P Γ) {f:Nat} (hc:check P f=some (41,ac_integer_compare.strip,[.tmp 4])):Sound P f (.dat false compare_G):=by
 refine sound_dat hc compare_good hΓ (fun args K hcl hfi hG=>?_)
 match args,hG with
 | [a,b],hG=>
  obtain ⟨x,rfl,hx,y,rfl,hy,hzx,hzy,hK⟩:=hG
  refine ⟨by simp,?_⟩
  simp only [go_sem,ac_integer_compare]
  intro h1 h2
  refine ⟨fun hl _=>⟨by omega,?_⟩,fun hne _ _=>⟨fun hlt=>?_,fun hge=>?_⟩⟩
  rotate_left
  ·rw [ordN_lt (lt_of_len hx hzy hlt)]at hK;exact hK
  ·rw [ordN_gt (lt_of_len hy hzx (by omega))]at hK;exact hK
  refine wpA_loop (fun n:Nat=>⟨mkV [(0,wsA x),(1,wsA y),(5,.one (.lit (.int .i64 ((n:Int)-1))))],mkH []⟩) (fun n=>n≤x.length∧x.drop n=y.drop n) id x.length ?_ ?_ ?_
  ·exact weak_lit (by simp [okS,okV,okC,okL,okH,okB,okE,mkV_cons,mkV_nil,mkH_cons,mkH_nil,wsA,ws]) trivial
  ·simp [hl]
  ·rintro n ⟨hn,hd⟩
   simp only [go_sem]
   refine ⟨fun h=>⟨by omega,by omega,by omega,by omega,fun he=>⟨by omega,n-1,weak_lit (by simp [okS,okV,okC,okL,okH,okB,okE,mkV_cons,mkV_nil,mkH_cons,mkH_nil,wsA,ws];omega) trivial,⟨by omega,?_⟩,by simp only [id];omega⟩,fun hne=>?_⟩,fun h=>?_⟩
   ·rw [show ((n:Int)-1).toNat=n-1 by omega]at he
    rw [List.getD_eq_getElem?_getD,List.getD_eq_getElem?_getD,List.getElem?_eq_getElem (by omega),List.getElem?_eq_getElem (by omega)]at he
    have e1:=List.getElem_cons_drop (as:=x) (i:=n-1) (by omega)
    have e2:=List.getElem_cons_drop (as:=y) (i:=n-1) (by omega)
    rw [show n-1+1=n by omega]at e1 e2
    rw [←e1,←e2,hd]
    simp only [Option.getD_some]at he
    rw [he]
   ·rw [show ((n:Int)-1).toNat=n-1 by omega]at hne ⊢
    refine ⟨by omega,by omega,by omega,by omega,fun hlt=>?_,fun hge=>?_⟩
    ·rw [ordN_lt (cmp_lt (i:=n-1) hx hl (by omega) (by rw [show n-1+1=n by omega];exact hd) hlt)]at hK;exact hK
    ·rw [ordN_gt (cmp_lt (i:=n-1) hy hl.symm (by omega) (by rw [show n-1+1=n by omega];exact hd.symm) (by omega))]at hK;exact hK
   ·have:n=0:=by omega
    subst this
    simp only [List.drop_zero]at hd
    rw [hd,ordN_eq]at hK;exact hK
theorem short_sound (hΓ:Holds P Γ) {f ft:Nat} (ht:Γ ft=.dat false trim_G) (hc:check P f=some (43,(ac_integer_short ft).strip,[.tmp 4,.tmp 5])):Sound P f (.dat false short_G):=by
 refine sound_dat hc short_good hΓ (fun args K hcl hfi hG=>?_)
 match args,hG with
 | [a,b],hG=>
  obtain ⟨x,rfl,hx,hG⟩:=hG
  obtain ⟨k,m,rfl,rfl,hm,hmB,hxl,hK⟩:=asInt_inv hG
  obtain ⟨m,rfl⟩:∃n:Nat,m=n:=⟨m.toNat,by omega⟩
  simp only [Int.toNat_natCast]at hK
  refine ⟨by simp,?_⟩
  simp only [go_sem,ac_integer_short,ht]
  intro h1
  refine ⟨hxl,fun _=>⟨by omega,?_⟩⟩
  refine wpA_loop (fun p:List Nat×Nat=>⟨mkV [(0,wsA x),(1,.one (.lit (.int .u32 m))),(6,.one (.own 11 1 1 0 x.length)),(7,.one (.lit (.int .u64 p.2))),(8,.one (.lit (.int .i64 ((x.length:Int)-p.1.length-1))))],mkH [(11,⟨1,some ⟨(List.replicate (x.length-p.1.length) 0++p.1).map wc,1,true⟩⟩)]⟩)
   (fun p=>p.1.length≤x.length∧WL p.1∧p.2<m∧val p.1*m+p.2=val (x.drop (x.length-p.1.length))) (fun p=>x.length-p.1.length) ([],0) ?_ ?_ ?_
  ·exact weak_lit (by simp [okS,okV,okC,okL,okH,okB,okE,mkV_cons,mkV_nil,mkH_cons,mkH_nil,wsA,ws]) (okH_1 (by simp))
  ·simp [WL_nil,val];omega
  ·rintro ⟨q,r⟩ ⟨hq,hqw,hr,hval⟩
   simp only at hq hqw hr hval
   have hlen:(List.replicate (x.length-q.length) 0++q).length=x.length:=by simp;omega
   simp only [go_sem,ht,hlen]
   refine ⟨fun h=>?_,fun h=>?_⟩
   ·obtain ⟨n,hn⟩:∃n,n=x.length-q.length:=⟨_,rfl⟩
    have hn0:0<n:=by omega
    have hi:((x.length:Int)-q.length-1).toNat=n-1:=by omega
    have g1:=WL_getD hx (n-1)
    have hd:=drop_cons x hn0 (by omega)
    obtain ⟨s1,s2⟩:=short_lt (by omega) hr g1
    have s3:=short_aux (B:=4294967296) (a:=x.getD (n-1) 0) (by omega) (hn▸hval)
    have e1:r*4294967296 % 18446744073709551616=r*4294967296:=by omega
    have e2:x.getD (n-1) 0 % 18446744073709551616=x.getD (n-1) 0:=by omega
    have e3:m % 18446744073709551616=m:=by omega
    rw [hi,←hn,e1,e2,e3,or32 _ _ g1]
    generalize hs:r*4294967296+x.getD (n-1) 0=s at s1 s2 s3
    rw [Nat.mod_eq_of_lt (show s / m<18446744073709551616 by omega),Nat.mod_eq_of_lt s1]
    have hm0:s % m<m:=Nat.mod_lt _ (by omega)
    refine ⟨⟨rfl,by omega⟩,by omega,by omega,⟨rfl,by omega,by omega⟩,by omega,⟨by omega,by omega⟩,by omega,by omega,by omega,(s / m::q,s % m),weak_lit (by simp [okS,okV,okC,okL,okH,okB,okE,mkV_cons,mkV_nil,mkH_cons,mkH_nil,wsA,ws];omega) (okH_1 ?_),⟨by simp;omega,WL_cons.2 ⟨s1,hqw⟩,hm0,?_⟩,by simp;omega⟩
    ·simp only [List.length_cons]
     rw [rep_set_low q _ hn0,show x.length-(q.length+1)=n-1 by omega]
    ·rw [val_cons,List.length_cons,show x.length-(q.length+1)=n-1 by omega,hd];exact s3
   ·have e:x.length-q.length=0:=by omega
    simp only [e,List.replicate_zero,List.nil_append,List.drop_zero]at hval ⊢
    have h1:=Nat.div_mod_unique (show 0<m by omega) (a:=val x) (c:=r) (d:=val q)
    obtain ⟨h2,h3⟩:=h1.2 ⟨by rw [←hval,Nat.mul_comm m,Nat.add_comm],hr⟩
    rw [h2,h3]at hK
    refine ⟨hqw,by omega,?_⟩
    rw [Nat.mod_eq_of_lt (by omega)];exact hK
end Go.Abs
end
section
set_option linter.unusedVariables false
set_option linter.unusedSimpArgs false
set_option maxRecDepth 100000
namespace Go.Abs
open Go.Num
variable {P:Program} {Γ:Nat→Spec}
def ac_integer_up:AC:=(.seq (.ops false [.m 4 (.c (.one .emp))])
 (.fg [0,1] (.seq (.ops false [.m 9 (.t 0),.u 10 (.len (.t 9)),.u 11 (.bin .add (.t 10) (.i 1)),.u 12 (.mk 1 [(.lit (.int .u32 0))] (.t 11) (.t 11)),.m 5 (.t 12)])
 (.fg [0,1,5] (.seq (.seq (.ops false [.m 13 (.t 0),.u 14 (.len (.t 13)),.m 15 (.i 0)])
 (.fg [1,5,13,14,15] (.block 0 (.loop (.seq (.ops false [.u 16 (.bin .lss (.t 15) (.t 14))])
 (.fg [1,5,13,14,15,16] (.seq (.cond (.t 16) .skip (.exit 0))
 (.fg [1,5,13,14,15] (.seq (.block 1 (.seq (.ops false [.m 17 (.t 15),.u 18 (.idx 1 (.t 13) (.t 15)),.u 19 (.ld none 1 false (.t 18)),.m 6 (.t 17),.m 7 (.t 19)])
 (.fg [1,5,6,7,13,14,15] (.seq (.ops false [.m 20 (.t 7),.u 21 (.conv .u64 (.t 20)),.m 22 (.t 1),.u 23 (.bin .shl (.t 21) (.t 22)),.m 8 (.t 23)])
 (.fg [1,5,6,8,13,14,15] (.seq (.ops false [.m 24 (.t 5),.m 25 (.t 6),.u 26 (.idx 1 (.t 24) (.t 25)),.u 27 (.ld none 1 false (.t 26)),.m 28 (.t 8),.u 29 (.conv .u32 (.t 28)),.u 30 (.bin .or (.t 27) (.t 29)),.u 31 (.idx 1 (.t 24) (.t 25)),.n (.st none 1 (.t 31) (.t 30))])
 (.fg [1,5,6,8,13,14,15] (.ops false [.m 32 (.t 5),.m 33 (.t 6),.u 34 (.bin .add (.t 33) (.i 1)),.m 35 (.t 8),.u 36 (.bin .shr (.t 35) (.c (.one (.lit (.int .u64 32))))),.u 37 (.conv .u32 (.t 36)),.u 38 (.idx 1 (.t 32) (.t 34)),.n (.st none 1 (.t 38) (.t 37))]))))))))
 (.fg [1,5,13,14,15] (.ops false [.u 39 (.bin .add (.t 15) (.i 1)),.m 15 (.t 39)])))))))))))
 (.fg [5] (.seq (.ops false [.m 40 (.t 5),.m 4 (.t 40)])
 .ret)))))))
def ac_integer_down (f0 f1:Nat):AC:=(.seq (.ops false [.m 4 (.c (.one .emp))])
 (.fg [0,1] (.seq (.ops false [.m 7 (.t 0),.u 8 (.len (.t 7)),.u 9 (.mk 1 [(.lit (.int .u32 0))] (.t 8) (.t 8)),.m 5 (.t 9)])
 (.fg [0,1,5] (.seq (.seq (.ops false [.m 10 (.t 0),.u 11 (.len (.t 10)),.m 12 (.i 0)])
 (.fg [0,1,5,11,12] (.block 0 (.loop (.seq (.ops false [.u 13 (.bin .lss (.t 12) (.t 11))])
 (.fg [0,1,5,11,12,13] (.seq (.cond (.t 13) .skip (.exit 0))
 (.fg [0,1,5,11,12] (.seq (.block 1 (.seq (.ops false [.m 14 (.t 12),.m 6 (.t 14)])
 (.fg [0,1,5,6,11,12] (.ops true [.m 15 (.t 5),.m 16 (.t 6),.m 17 (.t 0),.m 18 (.t 6),.u 19 (.idx 1 (.t 17) (.t 18)),.u 20 (.ld none 1 false (.t 19)),.u 21 (.conv .u64 (.t 20)),.m 22 (.t 0),.m 23 (.t 6),.u 24 (.bin .add (.t 23) (.i 1)),.u 25 (.call f0 [(.t 22),(.t 24)]),.u 26 (.bin .shl (.t 25) (.c (.one (.lit (.int .u64 32))))),.u 27 (.bin .or (.t 21) (.t 26)),.m 28 (.t 1),.u 29 (.bin .shr (.t 27) (.t 28)),.u 30 (.conv .u32 (.t 29)),.u 31 (.idx 1 (.t 15) (.t 16)),.n (.st none 1 (.t 31) (.t 30))]))))
 (.fg [0,1,5,11,12] (.ops false [.u 32 (.bin .add (.t 12) (.i 1)),.m 12 (.t 32)])))))))))))
 (.fg [5] (.seq (.ops false [.m 33 (.t 5),.u 34 (.call f1 [(.t 33)]),.m 4 (.t 34)])
 .ret)))))))
def ac_integer_times (f0:Nat):AC:=(.seq (.ops false [.m 4 (.c (.one .emp))])
 (.fg [0,1] (.seq (.ops false [.m 11 (.t 0),.u 12 (.len (.t 11)),.m 13 (.t 1),.u 14 (.len (.t 13)),.u 15 (.bin .add (.t 12) (.t 14)),.u 16 (.mk 1 [(.lit (.int .u32 0))] (.t 15) (.t 15)),.m 5 (.t 16)])
 (.fg [0,1,5] (.seq (.seq (.ops false [.m 17 (.t 0),.u 18 (.len (.t 17)),.m 19 (.i 0)])
 (.fg [1,5,17,18,19] (.block 0 (.loop (.seq (.ops false [.u 20 (.bin .lss (.t 19) (.t 18))])
 (.fg [1,5,17,18,19,20] (.seq (.cond (.t 20) .skip (.exit 0))
 (.fg [1,5,17,18,19] (.seq (.block 1 (.seq (.ops false [.m 21 (.t 19),.u 22 (.idx 1 (.t 17) (.t 19)),.u 23 (.ld none 1 false (.t 22)),.m 6 (.t 21),.m 7 (.t 23)])
 (.fg [1,5,6,7,17,18,19] (.seq (.ops false [.m 8 (.c (.one (.lit (.int .u64 0))))])
 (.fg [1,5,6,7,8,17,18,19] (.seq (.seq (.ops false [.m 24 (.t 1),.u 25 (.len (.t 24)),.m 26 (.i 0)])
 (.fg [1,5,6,7,8,17,18,19,24,25,26] (.block 2 (.loop (.seq (.ops false [.u 27 (.bin .lss (.t 26) (.t 25))])
 (.fg [1,5,6,7,8,17,18,19,24,25,26,27] (.seq (.cond (.t 27) .skip (.exit 2))
 (.fg [1,5,6,7,8,17,18,19,24,25,26] (.seq (.block 3 (.seq (.ops false [.m 28 (.t 26),.u 29 (.idx 1 (.t 24) (.t 26)),.u 30 (.ld none 1 false (.t 29)),.m 9 (.t 28),.m 10 (.t 30)])
 (.fg [1,5,6,7,8,9,10,17,18,19,24,25,26] (.seq (.ops false [.m 31 (.t 8),.m 32 (.t 7),.u 33 (.conv .u64 (.t 32)),.m 34 (.t 10),.u 35 (.conv .u64 (.t 34)),.u 36 (.bin .mul (.t 33) (.t 35)),.m 37 (.t 5),.m 38 (.t 6),.m 39 (.t 9),.u 40 (.bin .add (.t 38) (.t 39)),.u 41 (.idx 1 (.t 37) (.t 40)),.u 42 (.ld none 1 false (.t 41)),.u 43 (.conv .u64 (.t 42)),.u 44 (.bin .add (.t 36) (.t 43)),.u 45 (.bin .add (.t 31) (.t 44)),.m 8 (.t 45)])
 (.fg [1,5,6,7,8,9,17,18,19,24,25,26] (.seq (.ops false [.m 46 (.t 5),.m 47 (.t 6),.m 48 (.t 9),.u 49 (.bin .add (.t 47) (.t 48)),.m 50 (.t 8),.u 51 (.conv .u32 (.t 50)),.u 52 (.idx 1 (.t 46) (.t 49)),.n (.st none 1 (.t 52) (.t 51))])
 (.fg [1,5,6,7,8,17,18,19,24,25,26] (.ops false [.m 53 (.t 8),.u 54 (.bin .shr (.t 53) (.c (.one (.lit (.int .u64 32))))),.m 8 (.t 54)]))))))))
 (.fg [1,5,6,7,8,17,18,19,24,25,26] (.ops false [.u 55 (.bin .add (.t 26) (.i 1)),.m 26 (.t 55)])))))))))))
 (.fg [1,5,6,8,17,18,19] (.ops false [.m 56 (.t 5),.m 57 (.t 6),.m 58 (.t 1),.u 59 (.len (.t 58)),.u 60 (.bin .add (.t 57) (.t 59)),.m 61 (.t 8),.u 62 (.conv .u32 (.t 61)),.u 63 (.idx 1 (.t 56) (.t 60)),.n (.st none 1 (.t 63) (.t 62))]))))))))
 (.fg [1,5,17,18,19] (.ops false [.u 64 (.bin .add (.t 19) (.i 1)),.m 19 (.t 64)])))))))))))
 (.fg [5] (.seq (.ops false [.m 65 (.t 5),.u 66 (.call f0 [(.t 65)]),.m 4 (.t 66)])
 .ret)))))))
theorem up_sound (hΓ:Holds P Γ) {f:Nat} (hc:check P f=some (41,ac_integer_up.strip,[.tmp 4])):Sound P f (.fresh 1 up_G):=by
 refine sound_fresh hc up_good hΓ (fun args K hcl hfi hG=>?_)
 match args,hG with
 | [a,b],hG=>
  obtain ⟨x,rfl,hx,hG⟩:=hG
  obtain ⟨k,m,rfl,rfl,hm,hmB,hxl,hK⟩:=asInt_inv hG
  obtain ⟨m,rfl⟩:∃n:Nat,m=n:=⟨m.toNat,by omega⟩
  simp only [Int.toNat_natCast]at hK
  refine ⟨by simp,?_⟩
  simp only [go_sem,ac_integer_up]
  intro h1
  refine ⟨by omega,by omega,fun _=>?_⟩
  refine wpA_loop (fun p:List Nat×Nat=>⟨mkV [(1,.one (.lit (.int .i64 m))),(5,.one (.own 12 1 1 0 (x.length+1))),(13,wsA x),(14,.one (.lit (.int .i64 x.length))),(15,.one (.lit (.int .i64 p.1.length)))],mkH [(12,⟨1,some ⟨(p.1++p.2::List.replicate (x.length-p.1.length) 0).map wc,1,true⟩⟩)]⟩)
   (fun p=>p.1.length≤x.length∧WL p.1∧p.2<2 ^ m∧val p.1+4294967296 ^ p.1.length*p.2=val (x.take p.1.length)*2 ^ m) (fun p=>x.length-p.1.length) ([],0) ?_ ?_ ?_
  ·exact weak_lit (by simp [okS,okV,okC,okL,okH,okB,okE,mkV_cons,mkV_nil,mkH_cons,mkH_nil,wsA,ws]) (okH_1 (by simp [List.replicate_succ]))
  ·simp [WL_nil,val];exact Nat.pow_pos (by omega)
  ·rintro ⟨o,c⟩ ⟨hoN,ho,hc1,hval⟩
   simp only at hoN ho hc1 hval
   have hlen:(o++c::List.replicate (x.length-o.length) 0).length=x.length+1:=by simp;omega
   simp only [go_sem,hlen,List.length_set]
   refine ⟨fun hlt=>?_,fun hge=>?_⟩
   ·have g1:=WL_getD hx o.length
    obtain ⟨s1,s2,s3,s4⟩:=up_step (by omega) hc1 g1
    have e1:x.getD o.length 0 % 18446744073709551616=x.getD o.length 0:=by omega
    have hp:=pow2_lt (show m<32 by omega)
    rw [get_at,e1,Nat.mod_eq_of_lt s1,s2,put_at]
    generalize hy:x.getD o.length 0*2 ^ m=y at s1 s2 s3 s4
    rw [Nat.mod_eq_of_lt (show y / 4294967296<4294967296 by omega)]
    refine ⟨hlt,⟨rfl,by omega⟩,by omega,by omega,⟨rfl,by omega,by omega⟩,by omega,by omega,by omega,by omega,by omega,by omega,by omega,(o++[y % 4294967296+c],y / 4294967296),weak_lit (by simp [okS,okV,okC,okL,okH,okB,okE,mkV_cons,mkV_nil,mkH_cons,mkH_nil,wsA,ws]) (okH_1 ?_),⟨by simp;omega,WL_append.2 ⟨ho,WL_cons.2 ⟨s3,WL_nil⟩⟩,s4,?_⟩,by simp;omega⟩
    ·rw [show x.length-o.length=(x.length-(o.length+1))+1 by omega,List.replicate_succ,put_at1];simp
    ·simp only [List.length_append,List.length_cons,List.length_nil,Nat.zero_add,take_succ,val_append,val_cons,val_nil,Nat.mul_zero,Nat.add_zero,Nat.pow_succ]
     rw [up_aux (B:=4294967296) (x:=y) hval rfl,Nat.add_mul,←hy,Nat.mul_assoc]
   ·have e:o.length=x.length:=by omega
    have hcB:c<4294967296:=by have:=pow2_lt (show m<32 by omega);omega
    rw [e,take_all (Nat.le_refl _)]at hval
    simp only [e,Nat.sub_self,List.replicate_zero]
    have hw:WL (o++[c]):=WL_append.2 ⟨ho,WL_cons.2 ⟨hcB,WL_nil⟩⟩
    have hv:val (o++[c])=val x*2 ^ m:=by rw [val_append,e];simpa [val] using hval
    have:=dig_val hw
    rw [hv,List.length_append,List.length_singleton,e]at this
    rw [←this];exact hK
theorem down_sound (hΓ:Holds P Γ) {f fw ft:Nat} (hw:Γ fw=.dat true word_G) (ht:Γ ft=.dat false trim_G) (hc:check P f=some (35,(ac_integer_down fw ft).strip,[.tmp 4])):Sound P f (.dat false down_G):=by
 refine sound_dat hc down_good hΓ (fun args K hcl hfi hG=>?_)
 match args,hG with
 | [a,b],hG=>
  obtain ⟨x,rfl,hx,hG⟩:=hG
  obtain ⟨k,m,rfl,rfl,hm,hmB,hxl,hK⟩:=asInt_inv hG
  obtain ⟨m,rfl⟩:∃n:Nat,m=n:=⟨m.toNat,by omega⟩
  simp only [Int.toNat_natCast]at hK
  refine ⟨by simp,?_⟩
  simp only [go_sem,ac_integer_down,hw,ht]
  intro h1
  refine ⟨by omega,fun _=>?_⟩
  refine wpA_loop (fun o:List Nat=>⟨mkV [(0,wsA x),(1,.one (.lit (.int .i64 m))),(5,.one (.own 9 1 1 0 x.length)),(11,.one (.lit (.int .i64 x.length))),(12,.one (.lit (.int .i64 o.length)))],mkH [(9,⟨1,some ⟨(o++List.replicate (x.length-o.length) 0).map wc,1,true⟩⟩)]⟩)
   (fun o=>o.length≤x.length∧WL o∧val o=val x / 2 ^ m % 4294967296 ^ o.length) (fun o=>x.length-o.length) [] ?_ ?_ ?_
  ·exact weak_lit (by simp [okS,okV,okC,okL,okH,okB,okE,mkV_cons,mkV_nil,mkH_cons,mkH_nil,wsA,ws]) (okH_1 (by simp))
  ·simp [WL_nil,val,Nat.mod_one]
  ·rintro o ⟨hoN,ho,hval⟩
   have hlen:(o++List.replicate (x.length-o.length) 0).length=x.length:=by simp;omega
   simp only [go_sem,hw,ht,hlen]
   refine ⟨fun hlt=>⟨hlt,by omega,hx,⟨rfl,by omega⟩,⟨rfl,by omega,by omega⟩,by omega,hlt,hlt,by omega,?_⟩,fun hge=>?_⟩
   ·have g1:=WL_getD hx o.length
    have g2:=WL_getD hx (o.length+1)
    have e1:x.getD o.length 0 % 18446744073709551616=x.getD o.length 0:=by omega
    have e2:x.getD (o.length+1) 0*4294967296 % 18446744073709551616=x.getD (o.length+1) 0*4294967296:=by omega
    rw [e1,e2,or32' _ _ g1,show x.getD (o.length+1) 0*4294967296+x.getD o.length 0=x.getD o.length 0+4294967296*x.getD (o.length+1) 0 by omega,down_step hx (by omega)]
    generalize hv:val x / 2 ^ m / 4294967296 ^ o.length % 4294967296=v
    have hvB:v<4294967296:=by rw [←hv];exact Nat.mod_lt _ (by omega)
    refine ⟨o++[v],weak_lit (by simp [okS,okV,okC,okL,okH,okB,okE,mkV_cons,mkV_nil,mkH_cons,mkH_nil,wsA,ws]) (okH_1 ?_),⟨by simp;omega,WL_append.2 ⟨ho,WL_cons.2 ⟨hvB,WL_nil⟩⟩,?_⟩,by simp;omega⟩
    ·rw [show x.length-o.length=x.length-(o.length+1)+1 by omega,rep_set];simp
    ·rw [val_append,List.length_append,List.length_singleton,mod_pow_succ,hv,←hval];simp [val]
   ·have e:o.length=x.length:=by omega
    have hlt:val x / 2 ^ m<4294967296 ^ x.length:=Nat.lt_of_le_of_lt (Nat.div_le_self _ _) (val_lt hx)
    rw [e,Nat.mod_eq_of_lt hlt]at hval
    simp only [e,Nat.sub_self,List.replicate_zero,List.append_nil]
    refine ⟨ho,by omega,?_⟩
    rw [hval];exact hK
theorem times_sound (hΓ:Holds P Γ) {f ft:Nat} (ht:Γ ft=.dat false trim_G) (hc:check P f=some (67,(ac_integer_times ft).strip,[.tmp 4])):Sound P f (.dat false times_G):=by
 refine sound_dat hc times_good hΓ (fun args K hcl hfi hG=>?_)
 match args,hG with
 | [a,b],hG=>
  obtain ⟨x,rfl,hx,y,rfl,hy,hxl,hyl,hK⟩:=hG
  refine ⟨by simp,?_⟩
  simp only [go_sem,ac_integer_times,ht]
  intro h1 h2
  refine ⟨by omega,by omega,fun _=>?_⟩
  generalize hN:x.length+y.length=N
  refine wpA_loop (fun p:Nat×List Nat=>⟨mkV [(1,wsA y),(5,.one (.own 16 1 1 0 N)),(17,wsA x),(18,.one (.lit (.int .i64 x.length))),(19,.one (.lit (.int .i64 p.1)))],mkH [(16,⟨1,some ⟨p.2.map wc,1,true⟩⟩)]⟩)
   (fun p=>p.1≤x.length∧WL p.2∧p.2.length=N∧val p.2=val (x.take p.1)*val y∧∀j,p.1+y.length≤j→p.2.getD j 0=0) (fun p=>x.length-p.1) (0,List.replicate N 0) ?_ ?_ ?_
  ·exact weak_lit (by simp [okS,okV,okC,okL,okH,okB,okE,mkV_cons,mkV_nil,mkH_cons,mkH_nil,wsA,ws]) (okH_1 (by simp))
  ·simp [WL_rep,val,val_rep];intro j _;rw [List.getElem?_replicate];split <;> rfl
  ·rintro ⟨i,o⟩ ⟨hi,ho,hoN,hval,hz⟩
   simp only at hi ho hoN hval hz
   simp only [go_sem,ht,hoN]
   refine ⟨fun hlt=>⟨hlt,fun _=>?_⟩,fun hge=>?_⟩
   ·have g1:=WL_getD hx i
    refine wpA_loop (fun p:Nat×Nat×List Nat=>⟨mkV [(1,wsA y),(5,.one (.own 16 1 1 0 N)),(6,.one (.lit (.int .i64 i))),(7,.one (.lit (.int .u32 (x.getD i 0:Nat)))),(8,.one (.lit (.int .u64 p.2.1))),(17,wsA x),(18,.one (.lit (.int .i64 x.length))),(19,.one (.lit (.int .i64 i))),(24,wsA y),(25,.one (.lit (.int .i64 y.length))),(26,.one (.lit (.int .i64 p.1)))],mkH [(16,⟨1,some ⟨p.2.2.map wc,1,true⟩⟩)]⟩)
     (fun p=>p.1≤y.length∧p.2.1<4294967296∧WL p.2.2∧p.2.2.length=N∧val p.2.2+4294967296 ^ i*4294967296 ^ p.1*p.2.1=val (x.take i)*val y+4294967296 ^ i*x.getD i 0*val (y.take p.1)∧∀j,i+y.length≤j→p.2.2.getD j 0=0) (fun p=>y.length-p.1) (0,0,o) ?_ ?_ ?_
    ·exact weak_lit (by simp [okS,okV,okC,okL,okH,okB,okE,mkV_cons,mkV_nil,mkH_cons,mkH_nil,wsA,ws]) (okH_1 rfl)
    ·exact ⟨Nat.zero_le _,by simp,ho,hoN,by simp [val,hval],hz⟩
    ·rintro ⟨k,c,o⟩ ⟨hk,hc,ho,hoN,hval,hz⟩
     simp only at hk hc ho hoN hval hz
     simp only [go_sem,ht,hoN]
     refine ⟨fun hlt2=>?_,fun hge2=>?_⟩
     ·have g2:=WL_getD hy k
      have g3:=WL_getD ho (i+k)
      have s1:=mul_lt64 g1 g2 hc g3
      have e1:x.getD i 0 % 18446744073709551616=x.getD i 0:=by omega
      have e2:y.getD k 0 % 18446744073709551616=y.getD k 0:=by omega
      have e3:o.getD (i+k) 0 % 18446744073709551616=o.getD (i+k) 0:=by omega
      have hstep:=times_step hval (by omega) rfl
      rw [e1,e2,e3,Nat.mod_eq_of_lt (show x.getD i 0*y.getD k 0<18446744073709551616 by omega),Nat.mod_eq_of_lt (show x.getD i 0*y.getD k 0+o.getD (i+k) 0<18446744073709551616 by omega),Nat.mod_eq_of_lt s1]
      generalize hs:c+(x.getD i 0*y.getD k 0+o.getD (i+k) 0)=s at s1 hstep
      refine ⟨hlt2,by omega,by omega,by omega,by omega,by omega,by omega,by omega,by omega,(k+1,s / 4294967296,o.set (i+k) (s % 4294967296)),weak_lit (by simp [okS,okV,okC,okL,okH,okB,okE,mkV_cons,mkV_nil,mkH_cons,mkH_nil,wsA,ws]) (okH_1 rfl),⟨by simp only;omega,by simp only;omega,WL_set ho _ (Nat.mod_lt _ (by omega)),by simp [hoN],hstep,?_⟩,by simp only;omega⟩
      intro j hj
      simp only
      rw [Num.getD_set_ne (by omega)];exact hz j hj
     ·have e:k=y.length:=by omega
      subst e
      have hend:=times_end hval (by omega) (hz _ (Nat.le_refl _))
      rw [Nat.mod_eq_of_lt hc]
      refine fun _=>⟨by omega,by omega,by omega,by omega,(i+1,o.set (i+y.length) c),weak_lit (by simp [okS,okV,okC,okL,okH,okB,okE,mkV_cons,mkV_nil,mkH_cons,mkH_nil,wsA,ws]) (okH_1 rfl),⟨by simp only;omega,WL_set ho _ hc,by simp [hoN],hend,?_⟩,by simp only;omega⟩
      intro j hj
      simp only at hj ⊢
      rw [Num.getD_set_ne (by omega)];exact hz j (by omega)
   ·have e:i=x.length:=by omega
    subst e
    rw [take_all (Nat.le_refl _)]at hval
    refine ⟨ho,by omega,?_⟩
    rw [hval];exact hK
end Go.Abs
end
