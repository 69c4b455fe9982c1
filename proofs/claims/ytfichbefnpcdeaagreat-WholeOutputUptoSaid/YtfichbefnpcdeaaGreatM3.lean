/-
  Parts of the proof, merged: AbsS, AbsX, AbsY.
-/
import Derived.Test.YtfichbefnpcdeaaGreatM2
import Derived.Attr
set_option linter.unusedVariables false
set_option linter.unusedSimpArgs false
set_option linter.unnecessarySimpa false
section
namespace Go.Abs
theorem Ybc{Γ}{c}{Q}{s}{s'}(h0:s=s'):wpA Γ c Q s=wpA Γ c Q s':=by subst h0;rfl
theorem Ybh{Γ}{dr}{K}{l}{s}{s'}(h0:s=s'):wpL Γ dr K l s=wpL Γ dr K l s':=by subst h0;rfl
theorem Wba{Γ}{dr}{s}{s'}{K}{o}(h0:s=s'):wpG Γ dr s K o=wpG Γ dr s' K o:=by subst h0;rfl
theorem Zbd{Γ}{dr}{d}{s}{s'}{K}{o:AOp}(h0:s=s'):wpO Γ dr d s K o=wpO Γ dr d s' K o:=by subst h0;rfl
theorem QaN{K}{a}{a'}(h0:a=a'):asInt K a=asInt K a':=by subst h0;rfl
theorem JaE{K}{a}{a'}(h0:a=a'):asBool K a=asBool K a':=by subst h0;rfl
theorem Qam{K}{a}{a'}(h0:a=a'):asCells K a=asCells K a':=by subst h0;rfl
theorem Va0{K}{k}{n}{n'}(h0:n=n'):intR K k n=intR K k n':=by subst h0;rfl
theorem XaH{K}{b}{b'}(h0:b=b'):boolR K b=boolR K b':=by subst h0;rfl
theorem ya3{K}{k}{n}{n'}(h0:n=n'):numR K k n=numR K k n':=by subst h0;rfl
theorem waK{K:AV->Prop}{o:BinOp}{k:IntKind}{a:Int}{a' : Int}{b:Int}{b' : Int}(h0:a=a')(h1:b=b'):arith K o k a b=arith K o k a' b':=by subst h0;subst h1;rfl
theorem ya0{K:AV->Prop}{k:IntKind}{a:Int}{a' : Int}{b:Int}{b' : Int}(h0:a=a')(h1:b=b'):shlA K k a b=shlA K k a' b':=by subst h0;subst h1;rfl
theorem Ya0{K:AV->Prop}{k:IntKind}{a:Int}{a' : Int}{b:Int}{b' : Int}(h0:a=a')(h1:b=b'):shrA K k a b=shrA K k a' b':=by subst h0;subst h1;rfl
theorem WaX{K}{b:Option Bool}{b' : Option Bool}(h0:b=b'):nilR K b=nilR K b':=by subst h0;rfl
theorem YaY{K:AV->Prop}{op:BinOp}{x:AV}{x' : AV}{y:AV}{y' : AV}(h0:x=x')(h1:y=y'):binA K op x y=binA K op x' y':=by subst h0;subst h1;rfl
theorem UaK{K:AV->Prop}{op:BinOp}{x:AV}{x' : AV}{y:AV}{y' : AV}(h0:x=x')(h1:y=y'):binbA K op x y=binbA K op x' y':=by subst h0;subst h1;rfl
theorem va1{K:AV->Prop}{k k' : IntKind}{a a' b b' : Int}{op:BinOp}(h0:a=a')(h1:b=b'):binI K k k' a b op=binI K k k' a' b' op:=by subst h0;subst h1;rfl
theorem ka7{K}{op}{x}{x'}(h0:x=x'):unA K op x=unA K op x':=by subst h0;rfl
theorem xaM{K}{k}{x}{x'}(h0:x=x'):convA K k x=convA K k x':=by subst h0;rfl
theorem vav{K}{t}{x}{x'}(h0:x=x'):ifaceA K t x=ifaceA K t x':=by subst h0;rfl
theorem UaW{ev}{l}{l'}{K}(h0:l=l'):segA ev l K=segA ev l' K:=by subst h0;rfl
theorem uaI{K:C->Prop}{a}{a'}(h0:a=a'):asOne K a=asOne K a':=by subst h0;rfl
theorem ka1{ev}{z}{l}{l'}{K}(h0:l=l'):rowA ev z l K=rowA ev z l' K:=by subst h0;rfl
theorem ja2{K:List C->Prop}{es:List (List C)}{es' : List (List C)}{i:Nat}{i' : Nat}(h0:es=es')(h1:i=i'):getE K es i=getE K es' i':=by subst h0;subst h1;rfl
theorem Qbb{K}{l}{l'}(h0:l=l'):hd1 K l=hd1 K l':=by subst h0;rfl
theorem xbf{K}{n}{g}{cs}{cs'}(h0:cs=cs'):ldK K n g cs=ldK K n g cs':=by subst h0;rfl
theorem Xa4{K:List (List C)->Nat->Bool->Prop}{h}{h'}{r}{ver}(h0:h=h'):blkA K h r ver=blkA K h' r ver:=by subst h0;rfl
theorem ya9{K:AV->Prop}{n:Nat}{g:Bool}{h:Nat->HB}{h' : Nat->HB}{a:AV}{a' : AV}(h0:h=h')(h1:a=a'):ldA K n g h a=ldA K n g h' a':=by subst h0;subst h1;rfl
theorem kbe{K:(Nat->HB)->Prop}{n:Nat}{h:Nat->HB}{h' : Nat->HB}{x:AV}{x' : AV}{a:AV}{a' : AV}(h0:h=h')(h1:x=x')(h2:a=a'):stA K n h x a=stA K n h' x' a':=by subst h0;subst h1;subst h2;rfl
theorem kaW{K:Nat->Prop}{b b'}(h0:b=b'):newB K b=newB K b':=by subst h0;rfl
theorem wa1{K:S->Prop}{s:S}{s' : S}{b:Blk}{b' : Blk}{a:Nat->Nat->AV}{d:Option Nat}(h0:s=s')(h1:b=b'):newA K s b a d=newA K s' b' a d:=by subst h0;subst h1;rfl
theorem ja3{K:AV->Prop}{z:Nat}{i:AV}{i' : AV}{x:AV}{x' : AV}(h0:i=i')(h1:x=x'):idxA K z i x=idxA K z i' x':=by subst h0;subst h1;rfl
theorem YaX{K}{dr}{x}{x'}(h0:x=x'):lenA K dr x=lenA K dr x':=by subst h0;rfl
theorem QaZ{dr}{n n'}{K:Prop}(h0:n=n'):bndK dr n K=bndK dr n' K:=by subst h0;rfl
theorem ja0{s s'}{l:List RV}{K:List AV->Prop}(h0:s=s'):rawK s l K=rawK s' l K:=by subst h0;rfl
theorem VaV{l:List RV}{K:AV->Prop}{e e' : Ex}{s s' : S}(h0:e=e')(h1:s=s'):finQ l K e s=finQ l K e' s':=by subst h0;subst h1;rfl
theorem va9{K:Nat->Prop}{ev}{n}{n'}{o}(h0:n=n'):bnd K ev n o=bnd K ev n' o:=by subst h0;rfl
theorem qba{K}{z}{ev}{lo}{hi}{x}{x'}(h0:x=x'):slA K z ev lo hi x=slA K z ev lo hi x':=by subst h0;rfl
theorem uaz{K:List (List C)->Prop}{h:Nat->HB}{h' : Nat->HB}{x:AV}{x' : AV}(h0:h=h')(h1:x=x'):elemsA K h x=elemsA K h' x':=by subst h0;subst h1;rfl
theorem wa3{K:S->Prop}{z:Nat}{d:Option Nat}{s:S}{s' : S}{ys:List (List C)}{ys' : List (List C)}{x:AV}{x' : AV}(h0:s=s')(h1:ys=ys')(h2:x=x'):appK K z d s ys x=appK K z d s' ys' x':=by subst h0;subst h1;subst h2;rfl
theorem kaX{K:S->Prop}{z:Nat}{d:Option Nat}{s:S}{s' : S}{es es' ys ys' : List (List C)}(h0:s=s')(h1:es=es')(h2:ys=ys'):appF K z d s es ys=appF K z d s' es' ys':=by subst h0;subst h1;subst h2;rfl
theorem uaY{K:S->Prop}{z:Nat}{d:Option Nat}{s:S}{s' : S}{x:AV}{x' : AV}{y:AV}{y' : AV}(h0:s=s')(h1:x=x')(h2:y=y'):appA K z d s x y=appA K z d s' x' y':=by subst h0;subst h1;subst h2;rfl
theorem WaG{K:Prop}{x}{x'}(h0:x=x'):isEmp K x=isEmp K x':=by subst h0;rfl
theorem waX{pick:Int->Int->Int}{ev}{K}{l}{k}{a}{a'}(h0:a=a'):maxK pick ev K l k a=maxK pick ev K l k a':=by subst h0;rfl
theorem za2{pick:Int->Int->Int}{ev:Opd->AV}{K:AV->Prop}{l:List Opd}:maxA pick ev K l=maxA pick ev K l:=rfl
theorem yaG{K:S->Prop}{dr:Bool}{d:Option Nat}{args:List AV}{args' : List AV}{s:S}{s' : S}{sp:Spec}{sp' : Spec}(h0:args=args')(h1:s=s')(h2:sp=sp'):callS K dr d args s sp=callS K dr d args' s' sp':=by subst h0;subst h1;subst h2;rfl
theorem VaW{K}{i}{x}{x'}(h0:x=x'):extA K i x=extA K i x':=by subst h0;rfl
theorem Ubb{K}{off}{x}{x'}(h0:x=x'):faA K off x=faA K off x':=by subst h0;rfl
theorem Za7{K:S->Prop}{K' : S->Prop}{s:S}{s' : S}{g:Nat}{want:Bool}{x:AV}{x' : AV}(h0:s=s')(h1:x=x'):grd K K' s g want x=grd K K' s' g want x':=by subst h0;subst h1;rfl
theorem Ex.seq_cg{K:S->Prop}{Q:Ex->S->Prop}{e e' : Ex}{s s' : S}(h0:e=e')(h1:s=s'):Ex.seq K Q e s=Ex.seq K Q e' s':=by subst h0;subst h1;rfl
theorem Ex.blk_cg{id:Nat}{Q:Ex->S->Prop}{e e' : Ex}{s s' : S}(h0:e=e')(h1:s=s'):Ex.blk id Q e s=Ex.blk id Q e' s':=by subst h0;subst h1;rfl
theorem VaK{K:S->Prop}{dr:Bool}{d:Option Nat}{args args' : List AV}{s s' : S}{sp sp' : Spec}(h0:args=args')(h1:s=s')(h2:sp=sp'):callF K dr d args s sp=callF K dr d args' s' sp':=by subst h0;subst h1;subst h2;rfl
theorem zaK{K}{neg}{x x'}(h0:x=x'):snilA K neg x=snilA K neg x':=by subst h0;rfl
theorem XaK{K}{neg}{e e' : Prop}(h0:e=e'):snilK K neg e=snilK K neg e':=by subst h0;rfl
theorem zaW{K}{x x'}(h0:x=x'):capZ K x=capZ K x':=by subst h0;rfl
theorem Was{z:Nat}{h h' : Nat->HB}{K:List (List C)->Prop}{l l' : List AV}(h0:h=h')(h1:l=l'):freshL z h K l=freshL z h' K l':=by subst h0;subst h1;rfl
theorem jaz{z:Nat}{h h' : Nat->HB}{K:List (List C)->Prop}{l l' : AV}(h0:h=h')(h1:l=l'):freshA z h K l=freshA z h' K l':=by subst h0;subst h1;rfl
theorem ZaW{z:Nat}{l:List RV}{K:List (List C)->Prop}{e e' : Ex}{s s' : S}(h0:e=e')(h1:s=s'):finF z l K e s=finF z l K e' s':=by subst h0;subst h1;rfl
theorem ja4{l:List RV}{rs:List Nat}{h:Nat->HB}{K:AV->(Nat->HB)->Prop}{e e' : Ex}{s s' : S}(h0:e=e')(h1:s=s'):finO l rs h K e s=finO l rs h K e' s':=by subst h0;subst h1;rfl
theorem Ja3{h hc hc'}{rs:List Nat}{k}{K}(h0:hc=hc'):outK h hc rs k K=outK h hc' rs k K:=by subst h0;rfl
def br(b:Bool)(p q:Prop):Prop:=(b=true->p)/\(b=false->q)
theorem Ubl{b b'}{p q:Prop}(h:b=b'):br b p q=br b' p q:=by subst h;rfl
attribute [congr] Ubl
attribute [congr] VaK zaK XaK zaW Was jaz ZaW ja4 Ja3 QaZ ja0 VaV uaI UaK va1 kaW Ex.seq_cg Ex.blk_cg Ybc Ybh Wba Zbd QaN JaE Qam Va0 XaH ya3 waK ya0 Ya0 WaX YaY ka7 xaM vav UaW ka1 ja2 Qbb xbf Xa4 ya9 kbe wa1 ja3 YaX va9 qba uaz wa3 kaX uaY WaG waX za2 yaG VaW Ubb Za7

inductive Tok {α:Type} (x:α):Type
 | mk
def LoopAt(Γ:Nat->Spec)(a:AC)(Q:Ex->S->Prop)(s:S)(t:Tok (Γ,a,Q)):Prop:=wpA Γ (.loop a) Q s
theorem Jat Γ a Q s:wpA Γ (.loop a) Q s=LoopAt Γ a Q s .mk:=propext Iff.rfl
attribute [go_sem ↓] Jat
theorem jax:type_of% @wpA.eq_1:=q_E @wpA.eq_1
theorem zas:type_of% @wpA.eq_2:=q_E @wpA.eq_2
theorem Zax:type_of% @wpA.eq_3:=q_E @wpA.eq_3
theorem qaq:type_of% @wpA.eq_5:=q_E @wpA.eq_5
theorem ZaC:type_of% @wpA.eq_7:=q_E @wpA.eq_7
theorem xaD:type_of% @wpA.eq_8:=q_E @wpA.eq_8
theorem Qac:type_of% @wpA.eq_10:=q_E @wpA.eq_10
theorem uaq:type_of% @wpL.eq_1:=q_E @wpL.eq_1
theorem yaz:type_of% @wpL.eq_2:=q_E @wpL.eq_2
theorem zaz:type_of% @wpG.eq_1:=q_E @wpG.eq_1
theorem yax:type_of% @wpG.eq_2:=q_E @wpG.eq_2
theorem Jau:type_of% @wpO.eq_1:=q_E @wpO.eq_1
theorem waC:type_of% @wpO.eq_3:=q_E @wpO.eq_3
theorem jau:type_of% @wpO.eq_4:=q_E @wpO.eq_4
theorem yaq:type_of% @wpO.eq_5:=q_E @wpO.eq_5
theorem waB:type_of% @wpO.eq_6:=q_E @wpO.eq_6
theorem xav:type_of% @wpO.eq_8:=q_E @wpO.eq_8
theorem xaE:type_of% @wpO.eq_9:=q_E @wpO.eq_9
theorem Vah:type_of% @wpO.eq_11:=q_E @wpO.eq_11
theorem Xac:type_of% @wpO.eq_12:=q_E @wpO.eq_12
theorem Q7:type_of% @wpO.eq_14:=q_E @wpO.eq_14
theorem zai:type_of% @wpO.eq_15:=q_E @wpO.eq_15
theorem Z9:type_of% @wpO.eq_16:=q_E @wpO.eq_16
theorem kah:type_of% @wpO.eq_18:=q_E @wpO.eq_18
theorem Vaa:type_of% @wpO.eq_19:=q_E @wpO.eq_19
theorem U8:type_of% @wpO.eq_20:=q_E @wpO.eq_20
theorem xaf:type_of% @wpO.eq_21:=q_E @wpO.eq_21
theorem zaa:type_of% @wpO.eq_23:=q_E @wpO.eq_23
theorem Qaf:type_of% @wpO.eq_24:=q_E @wpO.eq_24
theorem uae:type_of% @wpO.eq_26:=q_E @wpO.eq_26
theorem zaf:type_of% @wpO.eq_27:=q_E @wpO.eq_27
theorem Yai:type_of% @wpO.eq_29:=q_E @wpO.eq_29
theorem V8:type_of% @wpO.eq_32:=q_E @wpO.eq_32
theorem Yah:type_of% @wpO.eq_34:=q_E @wpO.eq_34
theorem qah:type_of% @wpO.eq_36:=q_E @wpO.eq_36
theorem kaa:type_of% @wpO.eq_38:=q_E @wpO.eq_38
theorem V9:type_of% @wpO.eq_39:=q_E @wpO.eq_39
theorem Jaf:type_of% @wpO.eq_40:=q_E @wpO.eq_40
theorem jae:type_of% @wpO.eq_46:=q_E @wpO.eq_46
theorem yR:type_of% @asInt.eq_1:=q_E @asInt.eq_1
theorem ZL:type_of% @asBool.eq_1:=q_E @asBool.eq_1
theorem yG:type_of% @asCells.eq_1:=q_E @asCells.eq_1
theorem UD:type_of% @asCells.eq_2:=q_E @asCells.eq_2
theorem Zaf:type_of% @numR.eq_1:=q_E @numR.eq_1
theorem Zae:type_of% @numR.eq_2:=q_E @numR.eq_2
theorem xaa:type_of% @numR.eq_3:=q_E @numR.eq_3
theorem zac:type_of% @numR.eq_4:=q_E @numR.eq_4
theorem YQ:type_of% @arith.eq_1:=q_E @arith.eq_1
theorem qT:type_of% @arith.eq_2:=q_E @arith.eq_2
theorem UP:type_of% @arith.eq_3:=q_E @arith.eq_3
theorem YU:type_of% @arith.eq_4:=q_E @arith.eq_4
theorem wX:type_of% @arith.eq_5:=q_E @arith.eq_5
theorem qW:type_of% @arith.eq_8:=q_E @arith.eq_8
theorem kR:type_of% @arith.eq_9:=q_E @arith.eq_9
theorem QJ:type_of% @arith.eq_10:=q_E @arith.eq_10
theorem zI:type_of% @arith.eq_11:=q_E @arith.eq_11
theorem ZK:type_of% @arith.eq_12:=q_E @arith.eq_12
theorem QK:type_of% @arith.eq_13:=q_E @arith.eq_13
theorem kak:type_of% @shlA.eq_1:=q_E @shlA.eq_1
theorem Jac:type_of% @shrA.eq_1:=q_E @shrA.eq_1
theorem Uae:type_of% @nilR.eq_1:=q_E @nilR.eq_1
theorem Vak:type_of% @nilR.eq_2:=q_E @nilR.eq_2
theorem qav:type_of% @unA.eq_1:=q_E @unA.eq_1
theorem Yas:type_of% @unA.eq_2:=q_E @unA.eq_2
theorem vT:type_of% @convA.eq_1:=q_E @convA.eq_1
theorem uH:type_of% @ifaceA.eq_1:=q_E @ifaceA.eq_1
theorem vai:type_of% @segA.eq_1:=q_E @segA.eq_1
theorem Qad:type_of% @segA.eq_2:=q_E @segA.eq_2
theorem U9:type_of% @segA.eq_3:=q_E @segA.eq_3
theorem jW:type_of% @asOne.eq_1:=q_E @asOne.eq_1
theorem Waa:type_of% @rowA.eq_1:=q_E @rowA.eq_1
theorem X9:type_of% @rowA.eq_2:=q_E @rowA.eq_2
theorem qau K c tail:hd1 K (c::tail)=K (AV.one c):=propext Iff.rfl
theorem Uay K:hd1 K []=False:=propext Iff.rfl
theorem xaw:type_of% @ldK.eq_1:=q_E @ldK.eq_1
theorem VaB:type_of% @ldK.eq_2:=q_E @ldK.eq_2
theorem UI:type_of% @baseIs.eq_1:=q_E @baseIs.eq_1
theorem vI:type_of% @baseIs.eq_2:=q_E @baseIs.eq_2
theorem zL:type_of% @baseIs.eq_3:=q_E @baseIs.eq_3
theorem Jar:type_of% @ldA.eq_1:=q_E @ldA.eq_1
theorem jar:type_of% @ldA.eq_2:=q_E @ldA.eq_2
theorem Zav:type_of% @stA.eq_1:=q_E @stA.eq_1
theorem Y9:type_of% @newB.eq_1:=q_E @newB.eq_1
theorem Qaj:type_of% @newB.eq_2:=q_E @newB.eq_2
theorem zad:type_of% @idxA.eq_1:=q_E @idxA.eq_1
theorem kai:type_of% @idxA.eq_2:=q_E @idxA.eq_2
theorem zab:type_of% @idxA.eq_3:=q_E @idxA.eq_3
theorem Zr:type_of% @lenA.eq_1:=q_E @lenA.eq_1
theorem W8:type_of% @lenA.eq_2:=q_E @lenA.eq_2
theorem Vad:type_of% @lenA.eq_3:=q_E @lenA.eq_3
theorem Wab:type_of% @lenA.eq_4:=q_E @lenA.eq_4
theorem vat:type_of% @bnd.eq_1:=q_E @bnd.eq_1
theorem vaC:type_of% @bnd.eq_2:=q_E @bnd.eq_2
theorem Yax:type_of% @slA.eq_1:=q_E @slA.eq_1
theorem zav:type_of% @slA.eq_2:=q_E @slA.eq_2
theorem XaA:type_of% @slA.eq_3:=q_E @slA.eq_3
theorem Uar:type_of% @slA.eq_4:=q_E @slA.eq_4
theorem xK:type_of% @elemsA.eq_1:=q_E @elemsA.eq_1
theorem QI:type_of% @elemsA.eq_2:=q_E @elemsA.eq_2
theorem VI:type_of% @elemsA.eq_3:=q_E @elemsA.eq_3
theorem kL:type_of% @elemsA.eq_4:=q_E @elemsA.eq_4
theorem Qak:type_of% @appK.eq_1:=q_E @appK.eq_1
theorem wag:type_of% @appK.eq_2:=q_E @appK.eq_2
theorem Wae:type_of% @appF.eq_1:=q_E @appF.eq_1
theorem zaj:type_of% @appF.eq_2:=q_E @appF.eq_2
theorem Wad:type_of% @appA.eq_1:=q_E @appA.eq_1
theorem uP:type_of% @isEmp.eq_1:=q_E @isEmp.eq_1
theorem jai:type_of% @maxK.eq_1:=q_E @maxK.eq_1
theorem Waf:type_of% @maxK.eq_2:=q_E @maxK.eq_2
theorem vag:type_of% @maxA.eq_1:=q_E @maxA.eq_1
theorem Yaa:type_of% @maxA.eq_2:=q_E @maxA.eq_2
theorem kQ:type_of% @callS.eq_1:=q_E @callS.eq_1
theorem vX:type_of% @callS.eq_2:=q_E @callS.eq_2
theorem ZW:type_of% @callS.eq_3:=q_E @callS.eq_3
theorem JV:type_of% @callS.eq_4:=q_E @callS.eq_4
theorem wP:type_of% @callS.eq_5:=q_E @callS.eq_5
theorem uT:type_of% @callS.eq_6:=q_E @callS.eq_6
theorem jay:type_of% @faA.eq_1:=q_E @faA.eq_1
theorem xaA:type_of% @faA.eq_2:=q_E @faA.eq_2
theorem kaz:type_of% @grd.eq_2:=q_E @grd.eq_2
theorem wI:type_of% @Ex.seq.eq_1:=q_E @Ex.seq.eq_1
theorem UJ:type_of% @Ex.seq.eq_2:=q_E @Ex.seq.eq_2
theorem UK:type_of% @Ex.seq.eq_3:=q_E @Ex.seq.eq_3
theorem xH:type_of% @Ex.blk.eq_1:=q_E @Ex.blk.eq_1
theorem qL:type_of% @Ex.blk.eq_2:=q_E @Ex.blk.eq_2
theorem XH:type_of% @Ex.blk.eq_3:=q_E @Ex.blk.eq_3
theorem xax:∀(x:Nat->HB),frz [] x=x:=by
 intros;exact eq_of_heq (HEq.refl _)
theorem xau:∀(x:Nat->HB) (r:Nat) (l:List Nat),frz (r::l) x=frz l (upd x r (x r).dead):=by
 intros;exact eq_of_heq (HEq.refl _)
theorem jF:∀(a:AV),isConst (Opd.c a)=true:=by
 intros;exact eq_of_heq (HEq.refl _)
theorem wae:type_of% @rawK.eq_1:=q_E @rawK.eq_1
theorem X8:type_of% @rawK.eq_2:=q_E @rawK.eq_2
theorem J8:type_of% @rawK.eq_3:=q_E @rawK.eq_3
theorem xad:type_of% @finQ.eq_1:=q_E @finQ.eq_1
theorem Yab:type_of% @finQ.eq_2:=q_E @finQ.eq_2
theorem zah:type_of% @finQ.eq_3:=q_E @finQ.eq_3
theorem X7:type_of% @intR.eq_1:=q_E @intR.eq_1
theorem WW:type_of% @boolR.eq_1:=q_E @boolR.eq_1
theorem QS:type_of% @isLit.eq_1:=q_E @isLit.eq_1
theorem kT:type_of% @callF.eq_1:=q_E @callF.eq_1
theorem ZS:type_of% @callR.eq_1:=q_E @callR.eq_1
theorem UQ:type_of% @snilA.eq_1:=q_E @snilA.eq_1
theorem qS:type_of% @snilA.eq_2:=q_E @snilA.eq_2
theorem uS:type_of% @snilA.eq_3:=q_E @snilA.eq_3
theorem WX:type_of% @snilA.eq_4:=q_E @snilA.eq_4
theorem qX:type_of% @snilK.eq_1:=q_E @snilK.eq_1
theorem V6:type_of% @capZ.eq_1:=q_E @capZ.eq_1
theorem xI:type_of% @freshL.eq_1:=q_E @freshL.eq_1
theorem YI:type_of% @freshA.eq_1:=q_E @freshA.eq_1
theorem xJ:type_of% @freshA.eq_2:=q_E @freshA.eq_2
theorem waa:type_of% @finF.eq_1:=q_E @finF.eq_1
theorem qai:type_of% @finF.eq_2:=q_E @finF.eq_2
theorem xag:type_of% @finF.eq_3:=q_E @finF.eq_3
theorem jac:type_of% @finO.eq_1:=q_E @finO.eq_1
theorem Uaj:type_of% @finO.eq_2:=q_E @finO.eq_2
theorem jak:type_of% @finO.eq_3:=q_E @finO.eq_3
theorem Xai:type_of% @outK.eq_1:=q_E @outK.eq_1
theorem qaa:type_of% @outK.eq_2:=q_E @outK.eq_2
theorem W7 K z d s ys r ver z' len:appK K z d s ys (.one (.own r ver z' 0 len))=blkA (λes zb live=>(live=true/\z=z'/\z=zb/\len<=es.length/\len+ys.length<=roomA/\r<pinA)/\K (S.put ⟨s.v,upd s.h r ⟨ver+1,some ⟨es.take len++ys,z,true⟩⟩⟩ d (.one (.own r (ver+1) z 0 (len+ys.length))))) s.h r ver:=propext Iff.rfl
theorem zX K s b a d:newA K s b a (some d)=newB (λver=>K ⟨upd s.v d (a d ver),upd s.h d ⟨ver,some b⟩⟩) (s.h d):=propext Iff.rfl
theorem vah(e:List C)(off n:Nat)(xs:List C):splice e off n xs=e.take off++(xs++e.drop (off+n)):=eq_of_heq (HEq.refl _)
theorem Qae(r ver z off len:Nat):ownC (.own r ver z off len)=[r]:=eq_of_heq (HEq.refl _)
theorem zak(r ver i off:Nat):ownC (.ptr r ver i off)=[r]:=eq_of_heq (HEq.refl _)
theorem Yad(v:Value):ownC (.lit v)=[]:=eq_of_heq (HEq.refl _)
theorem jI(es:List (List C)):ownC (.slice es)=[]:=eq_of_heq (HEq.refl _)
theorem zS(es:List (List C)):ownC (.full es)=[]:=eq_of_heq (HEq.refl _)
theorem vaf(cs:List C):ownC (.ref cs)=[]:=eq_of_heq (HEq.refl _)
theorem J6:ownC .emp=[]:=eq_of_heq (HEq.refl _)
theorem Vac:ownC .any=[]:=eq_of_heq (HEq.refl _)
theorem Vaj(c:C):ownA (.one c)=ownC c:=eq_of_heq (HEq.refl _)
theorem kab(l:List C):ownA (.agg l)=l.flatMap ownC:=eq_of_heq (HEq.refl _)
theorem xai(h:Nat->HB)(c:C):datA h (.one c)=.one (datC h c):=eq_of_heq (HEq.refl _)
theorem jah(h:Nat->HB)(l:List C):datA h (.agg l)=.agg (l.map (datC h)):=eq_of_heq (HEq.refl _)
theorem Vai(h:Nat->HB):datA h .any=.any:=eq_of_heq (HEq.refl _)
theorem Jah(h:Nat->HB)(v:Value):datC h (.lit v)=.lit v:=eq_of_heq (HEq.refl _)
theorem jJ(h:Nat->HB)(es:List (List C)):datC h (.slice es)=.slice es:=eq_of_heq (HEq.refl _)
theorem XT(h:Nat->HB)(es:List (List C)):datC h (.full es)=.slice es:=eq_of_heq (HEq.refl _)
theorem xac(h:Nat->HB)(cs:List C):datC h (.ref cs)=.ref cs:=eq_of_heq (HEq.refl _)
theorem Xaa(h:Nat->HB):datC h .emp=.slice []:=eq_of_heq (HEq.refl _)
theorem qad(h:Nat->HB):datC h .any=.any:=eq_of_heq (HEq.refl _)
theorem Jai(h:Nat->HB)(f:FuncId)(l:List C):datC h (.clo f l)=.clo f (l.map (datB h)):=eq_of_heq (HEq.refl _)
noncomputable def datO:Option (List (List C))->C
 | some es=>@ite _ (CleanR es) (Classical.propDecidable _) (.slice es) .any
 | none=>.any
noncomputable def datQ(off i:Nat):Option Blk->C
 | some b=>match b.es[i]? with
  | some e=>@ite _ (off<=e.length/\CleanL (e.drop off)) (Classical.propDecidable _) (.ref (e.drop off)) .any
  | none=>.any
 | none=>.any
theorem UN(h:Nat->HB)(r ver z off len:Nat):datC h (.own r ver z off len)=datO (viewOf h r ver off len):=by
 simp only [datC,datB,datV,datO];split <;> rename_i e <;> rw [e]
theorem kF(es:List (List C))(hc:CleanR es):datO (some es)=.slice es:=by simp [datO,hc]
theorem jO(h:Nat->HB)(r ver i off:Nat):datC h (.ptr r ver i off)=datQ off i ((h r).at ver):=by
 show datP h r ver i off=_;unfold datP;cases (h r).at ver <;> rfl
theorem Uaa(h:Nat->HB)(r ver i off:Nat):datB h (.ptr r ver i off)=datQ off i ((h r).at ver):=jO h r ver i off
theorem wB(es:List (List C))(z:Nat)(live:Bool)(off:Nat)(e:List C)(r:List (List C))(hc:off<=e.length/\CleanL (e.drop off)):datQ off 0 (some ⟨e::r,z,live⟩)=.ref (e.drop off):=by simp [datQ,hc]
theorem ZaU(l:List (Nat×HB))(r ver:Nat)(b:Option Blk):(mkH ((r,⟨ver,b⟩)::l) r).at ver=b:=by simp [mkH,find,HB.at]
theorem Vat(l:List (Nat×HB))(r k ver:Nat)(v:HB)(h:(r=k)=False):(mkH ((k,v)::l) r).at ver=(mkH l r).at ver:=by simp [mkH,find,h]
theorem yF(v:Value):Clean (.lit v)=True:=eq_true (.lit v)
theorem xB:Clean .emp=True:=eq_true .emp
theorem jR:Clean .any=True:=eq_true .any
theorem JD(es:List (List C)):Clean (.slice es)=CleanR es:=propext ⟨λh=>by cases h;assumption,.slice es⟩
theorem JL(es:List (List C)):Clean (.full es)=CleanR es:=propext ⟨λh=>by cases h;assumption,.full es⟩
theorem yW(cs:List C):Clean (.ref cs)=CleanL cs:=propext ⟨λh=>by cases h;assumption,.ref cs⟩
theorem jL:CleanL []=True:=eq_true (by simp [CleanL])
theorem XD(c:C)(cs:List C):CleanL (c::cs)=(Clean c/\CleanL cs):=propext (by simp [CleanL])
theorem ju(a b:List C):CleanL (a++b)=(CleanL a/\CleanL b):=propext (by simp only [CleanL,List.mem_append];exact⟨λh=>⟨λc hc=>h c (.inl hc),λc hc=>h c (.inr hc)⟩,λh c hc=>hc.elim (h.1 c) (h.2 c)⟩)
theorem yH:CleanR []=True:=eq_true (by simp [CleanR])
theorem zD(e:List C)(es:List (List C)):CleanR (e::es)=(CleanL e/\CleanR es):=propext (by simp [CleanR,CleanL])
theorem Qu(a b:List (List C)):CleanR (a++b)=(CleanR a/\CleanR b):=propext (by simp only [CleanR,List.mem_append];exact⟨λh=>⟨λc hc=>h c (.inl hc),λc hc=>h c (.inr hc)⟩,λh c hc=>hc.elim (h.1 c) (h.2 c)⟩)
theorem yE(es:List (List C))(n:Nat)(h:CleanR es):CleanR (es.take n)=True:=eq_true λe he=>h e (List.mem_of_mem_take he)
theorem uF(es:List (List C))(n:Nat)(h:CleanR es):CleanR (es.drop n)=True:=eq_true λe he=>h e (List.mem_of_mem_drop he)
theorem wH(e:List C)(n:Nat)(h:CleanL e):CleanR (List.replicate n e)=True:=eq_true λe' he=>by rw [List.mem_replicate]at he;rw [he.2];exact h
theorem Uw{α:Type}(f:α->List C)(l:List α)(h:∀x,CleanL (f x)=True):CleanR (l.map f)=True:=eq_true λe he=>by obtain⟨x,_,rfl⟩:=List.mem_map.1 he;exact of_eq_true (h x)
theorem Jaa(h:Nat->HB):datE h (.one .emp)=.one .emp:=eq_of_heq (HEq.refl _)
theorem uV(h:Nat->HB)(es:List (List C)):datE h (.one (.full es))=.one (.full es):=eq_of_heq (HEq.refl _)
theorem Yaj(h:Nat->HB)(v:Value):datE h (.one (.lit v))=.one (.lit v):=eq_of_heq (HEq.refl _)
theorem VJ(h:Nat->HB)(es:List (List C)):datE h (.one (.slice es))=.one (.slice es):=eq_of_heq (HEq.refl _)
theorem Uai(h:Nat->HB)(r ver z off len:Nat):datE h (.one (.own r ver z off len))=.one (datO (viewOf h r ver off len)):=by
 rw [<-UN];exact eq_of_heq (HEq.refl _)
theorem Zaj(h:Nat->HB)(l:List C):datE h (.agg l)=.agg (l.map (datC h)):=eq_of_heq (HEq.refl _)
theorem UaP(r:Nat)(rs:List Nat):nameOf (r::rs) 1048576=some r:=eq_of_heq (HEq.refl _)
theorem XaT(r r1:Nat)(rs:List Nat):nameOf (r::r1::rs) 1048577=some r1:=eq_of_heq (HEq.refl _)
theorem yaR(r r1 r2:Nat)(rs:List Nat):nameOf (r::r1::r2::rs) 1048578=some r2:=eq_of_heq (HEq.refl _)
theorem wah(rs:List Nat)(h:Nat->HB)(v:Value):outA rs h (.one (.lit v))=.one (.lit v):=eq_of_heq (HEq.refl _)
theorem Y6(rs:List Nat)(h:Nat->HB)(l:List C):outA rs h (.agg l)=.agg (l.map (datC h)):=eq_of_heq (HEq.refl _)
theorem WI(rs:List Nat)(h:Nat->HB)(es:List (List C)):outA rs h (.one (.slice es))=.one (.slice es):=eq_of_heq (HEq.refl _)
theorem Wah(rs:List Nat)(h:Nat->HB):outA rs h (.one .emp)=.one (.slice []):=eq_of_heq (HEq.refl _)
theorem yag(rs:List Nat)(h:Nat->HB):outA rs h .any=.any:=eq_of_heq (HEq.refl _)
theorem Yac(rs:List Nat)(h:Nat->HB)(t ver z off len r:Nat)(e:nameOf rs t=some r):outA rs h (.one (.own t ver z off len))=.one (.own r ver z off len):=by simp [outA,e]
theorem Zai(rs:List Nat)(h:Nat->HB)(t ver i off r:Nat)(e:nameOf rs t=some r):outA rs h (.one (.ptr t ver i off))=.one (.ptr r ver i off):=by simp [outA,e]
theorem waj(rs:List Nat)(v:Value):outO rs (.one (.lit v))=[]:=eq_of_heq (HEq.refl _)
theorem xaj(rs:List Nat)(l:List C):outO rs (.agg l)=l.flatMap ownC:=eq_of_heq (HEq.refl _)
theorem uJ(rs:List Nat)(es:List (List C)):outO rs (.one (.slice es))=[]:=eq_of_heq (HEq.refl _)
theorem qae(rs:List Nat):outO rs (.one .emp)=[]:=eq_of_heq (HEq.refl _)
theorem uag(rs:List Nat):outO rs .any=[]:=eq_of_heq (HEq.refl _)
theorem qab(rs:List Nat)(t ver z off len r:Nat)(e:nameOf rs t=some r):outO rs (.one (.own t ver z off len))=[]:=by simp [outO,e]
theorem Qag(rs:List Nat)(t ver i off r:Nat)(e:nameOf rs t=some r):outO rs (.one (.ptr t ver i off))=[]:=by simp [outO,e]
theorem xT(r:Nat)(rs:List Nat)(b:Blk)(bs:List Blk)(h:Nat->HB)(k:Nat):pinL (r::rs) (b::bs) h k=(k,⟨(h r).ver,some b⟩)::pinL rs bs h (k+1):=eq_of_heq (HEq.refl _)
theorem qac(bs:List Blk)(h:Nat->HB)(k:Nat):pinL [] bs h k=[]:=eq_of_heq (HEq.refl _)
theorem UaE:pinA=1048576:=eq_of_heq (HEq.refl _)
theorem Xah(s:S):frzS [] s=s:=eq_of_heq (HEq.refl _)
theorem YR(t:Nat)(ts:List Nat)(v:Nat->AV)(h:Nat->HB):frzS (t::ts) ⟨v,h⟩=frzS ts ⟨upd v t (datA h (v t)),frz (ownA (v t)) h⟩:=eq_of_heq (HEq.refl _)
theorem vV(ver z:Nat)(es:List (List C))(live:Bool):HB.dead ⟨ver,some ⟨es,z,live⟩⟩=⟨ver,some ⟨es,z,false⟩⟩:=eq_of_heq (HEq.refl _)
theorem Uaf Γ dr d s K c x y:wpO Γ dr d s K (.pick c x y)=asBool (λb=>br b (K (s.put d (s.ev x))) (K (s.put d (s.ev y)))) (s.ev c):=propext Iff.rfl
theorem Jaj Γ Q s c a b:wpA Γ (.cond c a b) Q s=asBool (λt=>br t (wpA Γ a Q s) (wpA Γ b Q s)) (s.ev c):=propext Iff.rfl
theorem ubh(K K' : S->Prop)(s:S)(g:Nat)(want b:Bool):grd K K' s g want (.one (.lit (.bool b)))=br (b == want) (K ⟨upd s.v g (.one (.lit (.bool want))),s.h⟩) (K' ⟨upd s.v g (.one (.lit (.bool (!want)))),s.h⟩):=by
 cases b <;> cases want <;> simp [grd,br]
theorem wa2(p q:Prop):br true p q=p:=by simp [br]
theorem YaJ(p q:Prop):br false p q=q:=by simp [br]
theorem ya7(b:Bool)(p q:Prop):br (!b) p q=br b q p:=by cases b <;> simp [br]
theorem jbi(c:Prop)[Decidable c](p q:Prop):br (decide c) p q=((c->p)/\(¬c->q)):=by simp [br]
theorem Ya3 b(p q:Prop):br b p q=((b=true->p)/\(b=false->q)):=propext Iff.rfl
theorem ubm(b:Bool):(b == true)=b:=by cases b <;> rfl
theorem Xbj(b:Bool):(b == false) = !b:=by cases b <;> rfl
theorem Yan(n:Nat)(K:Prop):bndK false n K=(n<=maxLenA->K):=propext ⟨λh=>h.2,λh=>⟨λh=>Bool.noConfusion h,h⟩⟩
theorem Qah(n:Nat)(K:Prop):bndK true n K=(n<=maxLenA/\K):=propext ⟨λh=>⟨h.1 rfl,h.2 (h.1 rfl)⟩,λh=>⟨λ_=>h.1,λ_=>h.2⟩⟩
theorem qat(x:AV):resOf [x]=x:=eq_of_heq (HEq.refl _)
theorem qaF:resOf []=.tup []:=eq_of_heq (HEq.refl _)
theorem ZaB(x y:AV)(l:List AV):resOf (x::y::l)=.tup (x::y::l):=eq_of_heq (HEq.refl _)
theorem kat(l:List AV):argS l=⟨mkV (argL 0 l),mkH []⟩:=eq_of_heq (HEq.refl _)
theorem uaf(k:Nat):argL k []=[]:=eq_of_heq (HEq.refl _)
theorem VR(k:Nat)(a:AV)(r:List AV):argL k (a::r)=(k,a)::argL (k+1) r:=eq_of_heq (HEq.refl _)
theorem va5(l:List (Nat×AV))(d:Nat)(x:AV):upd (mkV l) d x=mkV ((d,x)::l):=by
 funext t;simp [upd,mkV,find]
theorem Za3(l:List (Nat×HB))(d:Nat)(x:HB):upd (mkH l) d x=mkH ((d,x)::l):=by
 funext t;simp [upd,mkH,find]
def keepV(l:List (Nat×AV)):List Nat->List (Nat×AV)
 | []=>[]
 | k::ks=>(k,mkV l k)::keepV l ks
theorem Jax(l:List (Nat×AV))(keep:List Nat):restr keep (mkV l)=mkV (keepV l keep):=by
 funext t
 simp only [restr,mkV]
 induction keep with
 | nil=>rfl
 | cons k ks ih=>
  simp only [keepV,find,List.contains_cons];by_cases e:t=k
  .subst e;simp [mkV]
  .have:(t == k)=false:=by simpa using e
   rw [this,Bool.false_or,if_neg e];exact ih
theorem VaR(Γ:Nat->Spec)(keep:List Nat)(a:AC)(Q:Ex->S->Prop)(l:List (Nat×AV))(h:Nat->HB):wpA Γ (.fg keep a) Q ⟨mkV l,h⟩=wpA Γ a Q ⟨mkV (keepV l keep),h⟩:=by
 rw [<-Jax];exact propext Iff.rfl
theorem Vaq(l:List (Nat×AV)):keepV l []=[]:=eq_of_heq (HEq.refl _)
theorem Yam(l:List (Nat×AV))(k:Nat)(ks:List Nat):keepV l (k::ks)=(k,mkV l k)::keepV l ks:=eq_of_heq (HEq.refl _)
theorem Yae(k:Nat)(v:AV)(r:List (Nat×AV))(t:Nat):mkV ((k,v)::r) t=if t=k then v else mkV r t:=eq_of_heq (HEq.refl _)
theorem Qb(k:Nat)(v:HB)(r:List (Nat×HB))(t:Nat):mkH ((k,v)::r) t=if t=k then v else mkH r t:=eq_of_heq (HEq.refl _)
theorem Jay(t:Nat):mkV [] t=.any:=eq_of_heq (HEq.refl _)
theorem uaD(t:Nat):mkH [] t=⟨0,none⟩:=eq_of_heq (HEq.refl _)
theorem XaG(v:Nat->AV)(h:Nat->HB)(d:Nat)(x:AV):S.put ⟨v,h⟩ (some d) x=⟨upd v d x,h⟩:=eq_of_heq (HEq.refl _)
theorem uaL(s:S)(x:AV):S.put s none x=s:=eq_of_heq (HEq.refl _)
theorem VaY(v:Nat->AV)(h h' : Nat->HB):S.setH ⟨v,h⟩ h' = ⟨v,h'⟩:=eq_of_heq (HEq.refl _)
theorem ev_t(v:Nat->AV)(h:Nat->HB)(n:Nat):S.ev ⟨v,h⟩ (.t n)=v n:=eq_of_heq (HEq.refl _)
theorem ev_c(s:S)(a:AV):S.ev s (.c a)=a:=eq_of_heq (HEq.refl _)
theorem JW(K:List C->Prop)(e:List C)(r:List (List C)):getE K (e::r) 0=K e:=by simp [getE]
theorem X6(K:List (List C)->Nat->Bool->Prop)(l:List (Nat×HB))(r ver z:Nat)(es:List (List C))(live:Bool):blkA K (mkH ((r,⟨ver,some ⟨es,z,live⟩⟩)::l)) r ver=K es z live:=by simp [blkA,Qb,HB.at]
theorem wV(K:List (List C)->Nat->Bool->Prop)(l:List (Nat×HB))(r k ver:Nat)(v:HB)(h:(r=k)=False):blkA K (mkH ((k,v)::l)) r ver=blkA K (mkH l) r ver:=by simp [blkA,Qb,h]
theorem Yag(l:List (Nat×HB))(r ver z off len:Nat)(es:List (List C))(live:Bool):viewOf (mkH ((r,⟨ver,some ⟨es,z,live⟩⟩)::l)) r ver off len=if off+len<=es.length then some ((es.drop off).take len) else none:=by simp [viewOf,Qb,HB.at]
theorem UX(l:List (Nat×HB))(r k ver off len:Nat)(v:HB)(h:(r=k)=False):viewOf (mkH ((k,v)::l)) r ver off len=viewOf (mkH l) r ver off len:=by simp [viewOf,Qb,h]
theorem ZaF(K:AV->Prop)(k:IntKind)(a b:Int):binA K .add (.one (.lit (.int k a))) (.one (.lit (.int k b)))=arith K .add k a b:=by simp [binA,binI]
theorem Uaq(K:AV->Prop)(k:IntKind)(a b:Int):binA K .sub (.one (.lit (.int k a))) (.one (.lit (.int k b)))=arith K .sub k a b:=by simp [binA,binI]
theorem yau(K:AV->Prop)(k:IntKind)(a b:Int):binA K .mul (.one (.lit (.int k a))) (.one (.lit (.int k b)))=arith K .mul k a b:=by simp [binA,binI]
theorem XaD(K:AV->Prop)(k:IntKind)(a b:Int):binA K .quo (.one (.lit (.int k a))) (.one (.lit (.int k b)))=arith K .quo k a b:=by simp [binA,binI]
theorem uaA(K:AV->Prop)(k:IntKind)(a b:Int):binA K .rem (.one (.lit (.int k a))) (.one (.lit (.int k b)))=arith K .rem k a b:=by simp [binA,binI]
theorem wap(K:AV->Prop)(k:IntKind)(a b:Int):binA K .and (.one (.lit (.int k a))) (.one (.lit (.int k b)))=arith K .and k a b:=by simp [binA,binI]
theorem vaP(K:AV->Prop)(k:IntKind)(a b:Int):binA K .or (.one (.lit (.int k a))) (.one (.lit (.int k b)))=arith K .or k a b:=by simp [binA,binI]
theorem uao(K:AV->Prop)(k:IntKind)(a b:Int):binA K .eql (.one (.lit (.int k a))) (.one (.lit (.int k b)))=arith K .eql k a b:=by simp [binA,binI]
theorem zau(K:AV->Prop)(k:IntKind)(a b:Int):binA K .neq (.one (.lit (.int k a))) (.one (.lit (.int k b)))=arith K .neq k a b:=by simp [binA,binI]
theorem Jao(K:AV->Prop)(k:IntKind)(a b:Int):binA K .lss (.one (.lit (.int k a))) (.one (.lit (.int k b)))=arith K .lss k a b:=by simp [binA,binI]
theorem xaB(K:AV->Prop)(k:IntKind)(a b:Int):binA K .leq (.one (.lit (.int k a))) (.one (.lit (.int k b)))=arith K .leq k a b:=by simp [binA,binI]
theorem qao(K:AV->Prop)(k:IntKind)(a b:Int):binA K .gtr (.one (.lit (.int k a))) (.one (.lit (.int k b)))=arith K .gtr k a b:=by simp [binA,binI]
theorem zat(K:AV->Prop)(k:IntKind)(a b:Int):binA K .geq (.one (.lit (.int k a))) (.one (.lit (.int k b)))=arith K .geq k a b:=by simp [binA,binI]
theorem YaB K k k' a b:binA K .shl (.one (.lit (.int k a))) (.one (.lit (.int k' b)))=shlA K k a b:=propext Iff.rfl
theorem uaw K k k' a b:binA K .shr (.one (.lit (.int k a))) (.one (.lit (.int k' b)))=shrA K k a b:=propext Iff.rfl
theorem yap K a b:binbA K .eql (.one (.lit (.bool a))) (.one (.lit (.bool b)))=boolR K (a == b):=propext Iff.rfl
theorem vau K a b:binbA K .neq (.one (.lit (.bool a))) (.one (.lit (.bool b)))=boolR K (!(a == b)):=propext Iff.rfl
theorem Waw K(a:Value):binnA K .eql true (.one (.lit a)) (.one (.lit .nilIface))=nilR (λb=>boolR K b) (isNilV a):=propext Iff.rfl
theorem Jad K(a:Value):binnA K .neq true (.one (.lit a)) (.one (.lit .nilIface))=nilR (λb=>boolR K (!b)) (isNilV a):=propext Iff.rfl
theorem XP:isNilV .nilIface=some true:=eq_of_heq (HEq.refl _)
theorem uB(t:TypeId)(v:Value):isNilV (.iface t v)=some false:=eq_of_heq (HEq.refl _)
theorem wbb(K:AV->Prop)(a:AV)(r:List AV):extA K 0 (.tup (a::r))=K a:=by simp [extA]
theorem qbb(K:AV->Prop)(a b:AV)(r:List AV):extA K 1 (.tup (a::b::r))=K b:=by simp [extA]
theorem zbg(K:AV->Prop)(a b c:AV)(r:List AV):extA K 2 (.tup (a::b::c::r))=K c:=by simp [extA]
theorem Va6(K:AV->Prop)(a b c d:AV)(r:List AV):extA K 3 (.tup (a::b::c::d::r))=K d:=by simp [extA]
theorem Uat(z:Nat)(cs:List C):chunk z 3 cs=[cs.take z,(cs.drop z).take z,((cs.drop z).drop z).take z]:=eq_of_heq (HEq.refl _)
theorem Xa8(K:AV->Prop)(a b c d e:AV)(r:List AV):extA K 4 (.tup (a::b::c::d::e::r))=K e:=by simp [extA]
theorem ZJ(k:IntKind)(n:Int):isCell (.int k n)=true:=eq_of_heq (HEq.refl _)
attribute [go_sem] va5 Za3 Vaq Yam Yae Qb Jay uaD XaG uaL VaY ev_t ev_c
attribute [go_sem] jax zas Zax qaq ZaC xaD Qac uaq yaz zaz yax Jau waC jau yaq waB xav xaE Vah Xac Q7 zai Z9 kah Vaa U8 xaf zaa Qaf uae zaf Yai V8 Yah qah kaa V9 Jaf jae yR ZL yG UD Zaf Zae xaa zac YQ qT UP YU wX qW kR QJ zI ZK QK kak Jac Uae Vak qav Yas vT uH vai Qad U9 jW Waa X9 qau Uay xaw VaB UI vI zL Jar jar Zav Y9 Qaj zad kai zab Zr W8 Vad Wab vat vaC Yax zav XaA Uar xK QI VI kL Qak wag Wae zaj Wad uP jai Waf vag Yaa kQ vX ZW JV wP uT jay xaA kaz wI UJ UK xH qL XH xax xau jF wae X8 J8 xad Yab zah X7 WW QS kT ZS UQ qS uS WX qX V6 xI YI xJ waa qai xag jac Uaj jak Xai qaa W7 zX vah Qae zak Yad jI zS vaf J6 Vac Vaj kab xai jah Vai Jah jJ XT xac Xaa qad Jai UN kF jO Uaa wB ZaU Vat yF xB jR JD JL yW jL XD ju yH zD Qu yE uF wH Uw Jaa uV Yaj VJ Uai Zaj UaP XaT yaR wah Y6 WI Wah yag Yac Zai waj xaj uJ qae uag qab Qag xT qac UaE Xah YR vV Uaf Jaj ubh Yan Qah qat qaF ZaB kat uaf VR VaR JW X6 wV Yag UX ZaF Uaq yau XaD uaA wap vaP uao zau Jao xaB qao zat YaB uaw yap vau Waw Jad XP uB wbb qbb zbg Va6 Uat Xa8 ZJ

attribute [go_sem ↓] jax zas Zax qaq ZaC xaD Qac uaq yaz zaz yax Jau waC jau yaq waB xav xaE Vah Xac Q7 zai Z9 kah Vaa U8 xaf zaa Qaf uae zaf Yai V8 Yah qah kaa V9 Jaf jae yR ZL yG UD Zaf Zae xaa zac YQ qT UP YU wX qW kR QJ zI ZK QK kak Jac Uae Vak qav Yas vT uH vai Qad U9 jW Waa X9 qau Uay xaw VaB UI vI zL Jar jar Zav Y9 Qaj zad kai zab Zr W8 Vad Wab vat vaC Yax zav XaA Uar xK QI VI kL Qak wag Wae zaj Wad uP jai Waf vag Yaa kQ vX ZW JV wP uT jay xaA kaz wI UJ UK xH qL XH xax xau jF wae X8 J8 xad Yab zah X7 WW QS kT ZS UQ qS uS WX qX V6 xI YI xJ waa qai xag jac Uaj jak Xai qaa W7 zX vah Qae zak Yad jI zS vaf J6 Vac Vaj kab xai jah Vai Jah jJ XT xac Xaa qad Jai UN kF jO Uaa wB ZaU Vat yF xB jR JD JL yW jL XD ju yH zD Qu yE uF wH Uw Jaa uV Yaj VJ Uai Zaj UaP XaT yaR wah Y6 WI Wah yag Yac Zai waj xaj uJ qae uag qab Qag xT qac UaE Xah YR vV Uaf Jaj ubh Yan Qah qat qaF ZaB kat uaf VR VaR JW X6 wV Yag UX ZaF Uaq yau XaD uaA wap vaP uao zau Jao xaB qao zat YaB uaw yap vau Waw Jad XP uB wbb qbb zbg Va6 Uat Xa8 ZJ

attribute [go_sem] wa2 YaJ ya7 jbi ubm Xbj
attribute [go_sem low] Ya3

end Go.Abs
end
section
namespace Go.Abs
theorem Ua{Γ:Nat->Spec}{body:AC}{Q:Ex->S->Prop}{s:S}{α:Type}(St:α->S)(Inv:α->Prop)(μ:α->Nat)(a0:α)(h0:Weak s (St a0))(hi:Inv a0)
  (hr:∀x,Inv x->wpA Γ body (Ex.seq (λs'=>∃y,Weak s' (St y)/\Inv y/\μ y<μ x) Q) (St x)) {t:Tok (Γ,body,Q)}:LoopAt Γ body Q s t:=
 ⟨α,St,Inv,μ,a0,h0,hi,hr⟩
def okC(h h' : Nat->HB):C->C->Prop
 | _,.any=>True
 | .lit v,.lit v'=>v=v'
 | .slice e,.slice e'=>e=e'
 | .full e,.full e'=>e=e'
 | .emp,.emp=>True
 | .emp,.slice es=>es=[]
 | .full e,.slice e'=>e=e'
 | .ref e,.ref e'=>e=e'
 | .clo f l,.clo f' l'=>(f=f'/\l=l')/\CleanL l
 | .own r ver z off len,.own r' ver' z' off' len'=>(r=r'/\z=z'/\off=off'/\len=len')/\ver=(h r).ver/\ver' = (h' r).ver/\(h' r).blk≠none
 | .ptr r ver i off,.ptr r' ver' i' off'=>(r=r'/\i=i'/\off=off')/\ver=(h r).ver/\ver' = (h' r).ver/\(h' r).blk≠none
 | _,_=>False
def okL(h h' : Nat->HB):List C->List C->Prop
 | [],[]=>True
 | c::l,c'::l'=>okC h h' c c'/\okL h h' l l'
 | _,_=>False
def okV(h h' : Nat->HB):AV->AV->Prop
 | _,.any=>True
 | .one c,.one c'=>okC h h' c c'
 | .agg l,.agg l'=>(l=l'/\∀c∈l,Clean c)∨okL h h' l l'
 | _,_=>False
theorem jN{h h' : Nat->HB}{c:C}{ρ:Nat->Nat}(x:Clean c):WC ρ h h' c c:=by
 induction x with
 | lit v=>exact .lit v
 | emp=>exact .emp
 | any=>exact .any _
 | slice es=>exact .slice es
 | full es=>exact .full es
 | ref cs=>exact .ref cs
 | clo f cs _ ih=>exact .clo f cs cs id rfl (λi c c' hc hc'=>by rw [hc]at hc';cases hc';exact ih c (List.mem_of_getElem? hc))
theorem WaO{h h' : Nat->HB}{c c' : C}(x:okC h h' c c'):WC id h h' c c':=by
 unfold okC at x;split at x
 .exact .any _
 .subst x;exact .lit _
 .subst x;exact .slice _
 .subst x;exact .full _
 .exact .emp
 .subst x;exact .es
 .subst x;exact .fs _
 .subst x;exact .ref _
 .obtain⟨⟨rfl,rfl⟩,hc⟩:=x;exact jN (.clo _ _ hc)
 .obtain⟨⟨rfl,rfl,rfl,rfl⟩,rfl,rfl,hne⟩:=x;exact .own _ _ _ _ hne
 .obtain⟨⟨rfl,rfl,rfl⟩,rfl,rfl,hne⟩:=x;exact .ptr _ _ _ hne
 .exact x.elim
theorem vae{h h' : Nat->HB}:∀{l l' : List C},okL h h' l l'->l.length=l'.length/\∀(i:Nat) c c',l[i]?=some c->l'[i]?=some c'->WC id h h' c c'
 | [],[],_=>⟨rfl,λi c c' h=>by simp at h⟩
 | [],_::_,x=>x.elim
 | _::_,[],x=>x.elim
 | c::l,c'::l',x=>by
  obtain⟨h1,h2⟩:=vae x.2;refine⟨by simp [h1],λi a a' ha ha'=>?_⟩
  cases i with
  | zero=>simp at ha ha';subst ha ha';exact WaO x.1
  | succ i=>simp only [List.getElem?_cons_succ]at ha ha';exact h2 i a a' ha ha'
theorem Qa7{h h' : Nat->HB}{a a' : AV}(x:okV h h' a a'):WA id h h' a a':=by
 unfold okV at x;split at x
 .exact .any _
 .exact .one _ _ (WaO x)
 .rcases x with⟨rfl,hc⟩ | x
  .exact .agg _ _ rfl (λi c c' hc1 hc2=>by rw [hc1]at hc2;cases hc2;exact jN (hc c (List.mem_of_getElem? hc1)))
  .exact .agg _ _ (vae x).1 (vae x).2
 .exact x.elim
def okS(h h' : Nat->HB)(v:Nat->AV):List (Nat×AV)->Prop
 | []=>True
 | (k,a)::r=>okV h h' (v k) a/\okS h h' v r
def okE(h h' : Nat->HB):List (List C)->List (List C)->Prop
 | [],[]=>True
 | e::l,e'::l'=>okL h h' e e'/\okE h h' l l'
 | _,_=>False
def okB(h h' : Nat->HB):Option Blk->Option Blk->Prop
 | _,none=>True
 | some b,some b'=>(b'.z=b.z/\b'.live=b.live)/\((b.es=b'.es/\CleanR b.es)∨okE h h' b.es b'.es)
 | none,some _=>False
def okH(h h' : Nat->HB):List (Nat×HB)->Prop
 | []=>True
 | (k,b)::r=>okB h h' (h k).blk b.blk/\okH h h' r
theorem YaT{h h' : Nat->HB}:∀{l l' : List (List C)},okE h h' l l'->l.length=l'.length/\∀(i:Nat) e e',l[i]?=some e->l'[i]?=some e'->okL h h' e e'
 | [],[],_=>⟨rfl,λi c c' h=>by simp at h⟩
 | [],_::_,x=>x.elim
 | _::_,[],x=>x.elim
 | c::l,c'::l',x=>by
  obtain⟨h1,h2⟩:=YaT x.2;refine⟨by simp [h1],λi a a' ha ha'=>?_⟩
  cases i with
  | zero=>simp at ha ha';subst ha ha';exact x.1
  | succ i=>simp only [List.getElem?_cons_succ]at ha ha';exact h2 i a a' ha ha'
theorem WaY{l:List (Nat×AV)}{t:Nat}:mkV l t=.any∨(t,mkV l t)∈l:=by
 unfold mkV
 induction l with
 | nil=>exact .inl rfl
 | cons x l ih=>
  obtain⟨k,a⟩:=x;simp only [find];by_cases e:t=k
  .subst e;simp
  .rw [if_neg e];rcases ih with h | h
   .exact .inl h
   .exact .inr (List.mem_cons_of_mem _ h)
theorem Qa6{l:List (Nat×HB)}{t:Nat}:(mkH l t).blk=none∨(t,mkH l t)∈l:=by
 unfold mkH
 induction l with
 | nil=>exact .inl rfl
 | cons x l ih=>
  obtain⟨k,a⟩:=x;simp only [find];by_cases e:t=k
  .subst e;simp
  .rw [if_neg e];rcases ih with h | h
   .exact .inl h
   .exact .inr (List.mem_cons_of_mem _ h)
theorem uas{h h' : Nat->HB}{v:Nat->AV}:∀{l:List (Nat×AV)},okS h h' v l->∀x∈l,okV h h' (v x.1) x.2
 | (k,a)::r,x,y,hy=>by
  rcases List.mem_cons.1 hy with rfl | hy
  .exact x.1
  .exact uas x.2 y hy
theorem XaB{h h' : Nat->HB}:∀{l:List (Nat×HB)},okH h h' l->∀x∈l,okB h h' (h x.1).blk x.2.blk
 | (k,a)::r,x,y,hy=>by
  rcases List.mem_cons.1 hy with rfl | hy
  .exact x.1
  .exact XaB x.2 y hy
theorem UU{v:Nat->AV}{h:Nat->HB}{l:List (Nat×AV)}{k:List (Nat×HB)}(h1:okS h (mkH k) v l)(h2:okH h (mkH k) k):WeakR id ⟨v,h⟩ ⟨mkV l,mkH k⟩:=by
 refine⟨λt=>?_,λr=>?_,λ_ _ h=>h,λ_ _=>rfl⟩
 .show WA id h (mkH k) (v t) (mkV l t);rcases WaY (l:=l) (t:=t) with e | e
  .rw [e];exact .any _
  .exact Qa7 (uas h1 _ e)
 .show WB id h (mkH k) r;rcases Qa6 (l:=k) (t:=r) with e | e
  .exact .inl e
  .have:=XaB h2 _ e;simp only at this;unfold okB at this;split at this
   .rename_i e2;exact .inl e2
   .rename_i b b' e1 e2;right;obtain⟨⟨hz,hl⟩,hc⟩:=this;refine⟨b,b',e1,e2,hz,hl,?_⟩;rcases hc with⟨he,hc⟩ | hc
    .rw [<-he];refine⟨rfl,λi e e' h1 h2=>?_⟩;rw [h1]at h2;cases h2
     refine⟨rfl,λj c c' g1 g2=>?_⟩;rw [g1]at g2;cases g2
     exact jN (hc e (List.mem_of_getElem? h1) c (List.mem_of_getElem? g1))
    .obtain⟨g1,g2⟩:=YaT hc;exact⟨g1,λi e e' h1 h2=>let y:=vae (g2 i e e' h1 h2);⟨y.1,y.2⟩⟩
   .exact this.elim
theorem ja{v:Nat->AV}{h:Nat->HB}{l:List (Nat×AV)}{k:List (Nat×HB)}(h1:okS h (mkH k) v l)(h2:okH h (mkH k) k):Weak ⟨v,h⟩ ⟨mkV l,mkH k⟩:=⟨id,UU h1 h2⟩
end Go.Abs
end
section
namespace Go.Abs
variable {P:Program} {Γ:Nat->Spec}
theorem Vd{E:Env}{s:S}{a:Act}{w:World}{m:M}{I:Nat->Prop}(h:Sim E s a w m I){fn:Func}{rv:List RV}(hrv:cRes P fn=some rv){K:List AV->Prop}(hk:rawK s rv K) :
  ∃xs vs:List _,(results fn a.tmps).run P w=.ok (if h:(⟨vs⟩:Array Value).size=1 then (⟨vs⟩:Array Value)[0] else .tuple ⟨vs⟩) w/\RAs m I w.heap xs vs/\K xs:=by
 obtain⟨xs,vs,hrun,hra,hk⟩:=UM (P:=P) h _ _ hrv hk;refine⟨xs,vs,?_,hra,hk⟩;unfold results;have harr:fn.results=fn.results.toList.toArray:=by simp
 rw [harr,List.mapM_toArray];simp only [Sem.run_bind,Sem.run_map];rw [hrun]
 .simp only [Result.andThen_ok,Sem.run_pure]
 .intro t;rfl
 .intro x t;rfl
theorem fsound{f:FuncId}{fn:Func}{c:Code}{ac:AC}{rv:List RV}{n z:Nat}{G:List AV->(List (List C)->Prop)->Prop}(hf:P.funcs[f]?=some fn)(hb:fn.body=some c)(hn:fn.ntmps=n)(hc:compile P n c=some ac.strip)(hrv:cRes P fn=some rv)(hΓ:Holds P Γ)(hpin:n<=pinA)
    (h:∀args K,(∀a∈args,CleanV a)->(∀a∈args,FineA a)->G args K->args.length<=n/\wpA Γ ac (finF z rv K) (argS args)):FSound P f z G:=by
  intro args vals w I K himb hargs hclean hG;have hfine:∀a∈args,FineA a:=by
    intro a ha;obtain⟨i,hi⟩:=List.getElem?_of_mem ha;have hlt:i<vals.length:=by rw [<-hargs.1];exact(List.getElem?_eq_some_iff.1 hi).1
    exact(hargs.2 i a _ hi (List.getElem?_eq_getElem hlt)).fine
  obtain⟨hlen,hwp⟩:=h args K hclean hfine hG;refine calls_of_wp hf hb ?_;have hsim:Sim ⟨w,I,λ_=>False,n,λ_=>none,λ_=>undef⟩ (argS args) { tmps:=(⟨vals⟩:Array Value)++Array.replicate (fn.ntmps-(⟨vals⟩:Array Value).size) undef,defers:=[] } w M0 I:=by
    refine⟨rfl,?_,λt=>vn rfl (by show Array.size _<=_;have hlv:=hargs.1;simp [hn];omega) (Yi hargs t),{
      ver:=λr=>rfl,blk:=λr b hb=>by simp [argS,mkH,find]at hb,inj:=λr r' k z z' h=>by simp [M0]at h,lt:=λr k z h=>by simp [M0]at h,
      imb:=himb,grow:=Nat.le_refl _,keep:=λb hb _=>rfl,imm:=λb hb=>.inl hb,sup:=λb hb=>hb,i0:=λb hb=>⟨himb b hb,λh=>h⟩,
      liv:=λr b k z hb=>by simp [argS,mkH,find]at hb,np:=hpin,fx:=λr b _ hb=>by simp [argS,mkH,find]at hb,os:=rfl,tape:=rfl,out:=rfl }⟩
    . have hlv:=hargs.1
      simp [hn];omega
  have fin:∀s' a' w' m' I',(rawK s' rv λl=>freshL z s'.h K l)->Sim ⟨w,I,λ_=>False,n,λ_=>none,λ_=>undef⟩ s' a' w' m' I'->a'.defers=[]/\∃v,(results fn a'.tmps).run P w' = .ok v w'/\∃A cap es I',Ending.returned v=.returned (.slice A es.length cap)/\K es/\CleanR es/\NewRow w w' I' z es A cap/\Ret w I w' I':=by
    intro s' a' w' m' I' hk hs;obtain⟨xs,vs,hres,hra,hk⟩:=Vd hs hrv hk;refine⟨hs.dfr,_,hres,?_⟩;have ret:Ret w I w' I':=⟨hs.heap.grow,λb hb=>hs.heap.keep b hb (λh=>h),λb hb=>hs.heap.sup b hb,λb hb=>by
        rcases hs.heap.imm b hb with h | h | h
        . exact .inl h
        . exact .inr h
        . exact h.elim,hs.heap.imb,hs.heap.os,hs.heap.tape,hs.heap.out⟩
    obtain⟨hl,hra⟩:=hra;match xs,vs,hl,hra,hk with
    | [x],[v],hl1,hra,hk=>
      clear hl1;have hx:=hra 0 x v rfl rfl;simp only [freshL]at hk;unfold freshA at hk;split at hk
      . have:=hx.one_inv
        cases this with
        | emp A=>exact⟨A,0,[],I',rfl,hk,λe he=>by simp at he,⟨Nat.le_refl _,Nat.zero_le _,λ_=>rfl,λe he=>by simp at he,.inl rfl⟩,ret⟩
      . rename_i r ver z' len
        obtain⟨b,e1,e2,⟨hlive,hz,hzb,hle,hcl⟩,hkk⟩:=Vh hk;subst hz;obtain⟨A,cap,rfl,g1,g2,g3,g4,g5,g6⟩:=km hx.one_inv;have hcur:ver=m'.ver r:=by rw [hs.heap.ver,e1]
        have hrb:=hs.heap.blk r b e2;have htl:(b.es.take len).length=len:=by simp;omega
        refine⟨A,cap,b.es.take len,I',by rw [htl];simp,hkk,hcl,⟨by omega,by omega,λh=>by rw [htl];exact g5 h,λe he=>by rw [hzb];exact hrb.sz e (List.mem_of_mem_take he),?_⟩,ret⟩
        cases hm:m'.blk r with
        | none=>exact .inl (g4 hcur hm)
        | some kz=>
          obtain⟨k,z1⟩:=kz;obtain⟨hz1,hnI,_,arr,ty,hh,hc⟩:=hrb.real k z1 hm;obtain⟨hz2,hcap | ⟨hA,hbs⟩⟩:=g3 hcur k z1 hm
          . exact .inl hcap
          . refine .inr ⟨k,arr,ty,by simpa using hA,?_,hnI hlive,hh,by simpa [bsize,hh] using hbs,λi j e c he hc'=>?_⟩
            . rcases hs.heap.liv r b k z1 e2 hm with h | h
              . exact h
              . exact h.elim
            . have hi:i<len:=by have:=(List.getElem?_eq_some_iff.1 he).1;omega
              have hmem:=List.mem_of_getElem? he;rw [List.getElem?_take_of_lt hi]at he;obtain⟨v,q1,q2⟩:=hc i j e c he hc';rw [hz2]at q1;exact⟨v,q1,q2.any_map (hcl e hmem c (List.mem_of_getElem? hc')) M0⟩
      . exact hk.elim
    | [],_,_,_,hk=>exact hk.elim
    | x::y::l,_,_,_,hk=>exact hk.elim
    | [x],[],hl,_,_=>simp at hl
    | [x],v::u::vs,hl,_,_=>simp at hl
  refine Qt (E:=⟨w,I,λ_=>False,n,λ_=>none,λ_=>undef⟩) hΓ ac c hc hsim hwp (λe s' a' w' m' I' hq hs=>?_);cases e with
  | nrm=>exact fin s' a' w' m' I' hq hs
  | ret=>exact fin s' a' w' m' I' hq hs
  | exit i=>exact hq.elim
theorem QG{f:FuncId}{n z:Nat}{ac:AC}{rv:List RV}{G:List AV->(List (List C)->Prop)->Prop}(hc:check P f=some (n,ac.strip,rv))(hg:Good G)(hΓ:Holds P Γ)
  (h:∀args K,(∀a∈args,CleanV a)->(∀a∈args,FineA a)->G args K->args.length<=n/\wpA Γ ac (finF z rv K) (argS args)):Sound P f (.fresh z G):=by
 obtain⟨fn,c,h1,h2,h3,h4,h5,h6,h7⟩:=Vi hc;exact⟨Xa h1 h2 (by rw [h3];rfl),hg,fsound h1 h3 h4 h5 h6 hΓ h7 h⟩
theorem JG{rs:List Nat}{t r:Nat}(h:nameOf rs t=some r):pinA<=t/\rs[t-pinA]?=some r:=by
 unfold nameOf at h;split at h
 .exact⟨‹_›,h⟩
 .simp at h
section ren
variable {m m' : M} {I:Nat->Prop} {H:Array Obj}
theorem zaA{r t ver z off len:Nat}{v:Value}(hv:m.ver r=m'.ver t)(hb:m.blk r=m'.blk t)(h:RC m I H (.own r ver z off len) v):RC m' I H (.own t ver z off len) v:=by
 cases h with
 | own _ _ _ _ _ cap A h1 h2 h3 h4 h5 h6=>exact .own t ver z off len cap A (by omega) h2 (λe b z' hb'=>h3 (by omega) b z' (by rw [hb];exact hb')) (λe hb'=>h4 (by omega) (by rw [hb];exact hb')) h5 h6
theorem kao{r t ver i off:Nat}{v:Value}(hv:m.ver r=m'.ver t)(hb:m.blk r=m'.blk t)(h:RC m I H (.ptr r ver i off) v):RC m' I H (.ptr t ver i off) v:=by
 cases h with
 | ptr _ _ _ _ A h1 h2=>exact .ptr t ver i off A (by omega) (λe b z hb'=>h2 (by omega) b z (by rw [hb];exact hb'))
variable {rs:List Nat} (hren:∀(i r:Nat),rs[i]?=some r->m.ver r=m'.ver (pinA+i)/\m.blk r=m'.blk (pinA+i))
include hren
theorem JA{t r:Nat}(h:nameOf rs t=some r):m.ver r=m'.ver t/\m.blk r=m'.blk t:=by
 obtain⟨h1,h2⟩:=JG h;have:=hren _ _ h2
 rwa [show pinA+(t-pinA)=t by omega]at this
theorem qaX{c:C}{v:Value}(hp:pasB rs c)(h:RC m I H (exB rs c) v):RC m' I H c v:=by
 cases c with
 | own t ver z off len=>
  simp only [pasB]at hp;cases hn:nameOf rs t with
  | none=>exact(hp hn).elim
  | some r=>simp only [exB,hn]at h;exact zaA (JA hren hn).1 (JA hren hn).2 h
 | ptr t ver i off=>
  simp only [pasB]at hp;cases hn:nameOf rs t with
  | none=>exact(hp hn).elim
  | some r=>simp only [exB,hn]at h;exact kao (JA hren hn).1 (JA hren hn).2 h
 | _=>exact h.any_map hp m'
theorem wbk{c:C}{v:Value}(hp:pasC rs c)(h:RC m I H (exC rs c) v):RC m' I H c v:=by
 cases c with
 | clo f caps=>
  simp only [exC]at h;generalize hcl:caps.map (exB rs)=cl at h;cases h with
  | clo _ _ cv hlen hcells=>
   subst hcl;refine .clo f caps cv (by simpa using hlen) (λi c u hc hu=>qaX hren (hp c (List.mem_of_getElem? hc)) (hcells i _ u (by simp [hc]) hu))
  | bnd _ cs cv hlen hcells=>
   match caps,hcl,hp with
   | c1::l,hcl,hp=>
    simp only [List.map_cons,List.cons.injEq]at hcl;obtain⟨h1,rfl⟩:=hcl;have e1:c1=.lit (.agg ⟨[]⟩):=by
     cases c1 <;> simp only [exB]at h1 <;> first | exact h1 | (split at h1 <;> simp at h1)
    subst e1;refine .bnd f l cv (by simpa using hlen) (λi c u hc hu=>qaX hren (hp c (List.mem_cons_of_mem _ (List.mem_of_getElem? hc))) (hcells i _ u (by simp [hc]) hu))
 | _=>exact qaX hren hp h
theorem wbl{a:AV}{v:Value}(hp:pasA rs a)(h:RA m I H (exA rs a) v):RA m' I H a v:=by
 cases a with
 | one c=>exact .one _ _ (wbk hren hp h.one_inv)
 | agg cs=>exact h.any_mapV (x:=.agg cs) hp m'
 | any=>cases h;exact .any _
 | tup l=>exact hp.elim
end ren
theorem V4:∀(rs:List Nat) (bs:List Blk) (h:Nat->HB) (k t:Nat),mkH (pinL rs bs h k) t=if k<=t then (match rs[t-k]?,bs[t-k]? with | some r,some b=>⟨(h r).ver,some b⟩ | _,_=>⟨0,none⟩) else ⟨0,none⟩
 | [],bs,h,k,t=>by simp [pinL,mkH,find]
 | r::rs,[],h,k,t=>by
  simp only [pinL,mkH,find];split
  .split
   .rename_i e;simp at e
   .rfl
  .rfl
 | r::rs,b::bs,h,k,t=>by
  have ih:=V4 rs bs h (k+1) t;simp only [pinL,mkH,find]at ih ⊢;by_cases e:t=k
  .subst e;simp
  .rw [if_neg e,ih];by_cases hk:k<=t
   .have:t-k=(t-(k+1))+1:=by omega
    rw [if_pos (by omega),if_pos hk,this,List.getElem?_cons_succ,List.getElem?_cons_succ]
   .rw [if_neg (by omega),if_neg hk]
theorem yaj{h hc:Nat->HB}:∀{rs:List Nat} {k:Nat} {K:(Nat->HB)->Prop},rs.Nodup->outK h hc rs k K->
  ∃h',K h'/\(∀r,r∉rs->h' r=h r)/\∀(i r:Nat),rs[i]?=some r->∃b,(hc (k+i))=⟨(h r).ver,some b⟩/\CleanR b.es/\h' r=⟨(h r).ver,some b⟩
 | [],k,K,_,hk=>⟨h,hk,λ_ _=>rfl,λi r hr=>by simp at hr⟩
 | r::rs,k,K,hnd,hk=>by
  simp only [List.nodup_cons]at hnd;obtain⟨b,hb,hcl,hk⟩:=hk;obtain⟨h',hk,h1,h2⟩:=yaj hnd.2 hk;refine⟨_,hk,λr' hr'=>?_,λi r' hr'=>?_⟩
  .simp only [List.mem_cons,not_or]at hr';simp only [upd,hr'.1,if_false];exact h1 r' hr'.2
  .cases i with
   | zero=>
    simp only [List.getElem?_cons_zero,zOI]at hr';subst hr';obtain⟨e1,e2⟩:=wn hb;refine⟨b,?_,hcl,by simp [upd]⟩
    cases hh:hc k with
    | mk ver blk=>rw [hh]at e1 e2;simp only at e1 e2;subst e1 e2;simp [hh]
   | succ i=>
    simp only [List.getElem?_cons_succ]at hr';obtain⟨b',q1,q2,q3⟩:=h2 i r' hr';have hne:r'≠r:=λe=>hnd.1 (e▸List.mem_of_getElem? hr');refine⟨b',by rw [show k+(i+1)=k+1+i by omega];exact q1,q2,by simp only [upd,hne,if_false];exact q3⟩
theorem ya2{E:Env}{m m3:M}{I I2:Nat->Prop}{w:World}{h:Nat->HB}{rs:List Nat}(hr:HR E m I w h)(hx2:Ext m I w.heap m I2 w.heap)
  (hren:∀(i r:Nat),rs[i]?=some r->m.ver (pinA+i)=m3.ver r/\m.blk (pinA+i)=m3.blk r) {x:AV} {v:Value} (hx:RA m I w.heap x v)
  (hfz:∀r∈outO rs x,∀b k z,(h r).blk=some b->m.blk r=some (k,z)->I2 k):RA m3 I2 w.heap (outA rs h x) v:=by
 have dat:∀x,RA m I w.heap x v->(∀r∈ownA x,∀b k z,(h r).blk=some b->m.blk r=some (k,z)->I2 k)->RA m3 I2 w.heap (datA h x) v:=λx hx hf=>
  let q:=jt hr hx2 hx hf
  q.1.any_mapV q.2 m3
 have name:∀{t r:Nat},nameOf rs t=some r->m.ver t=m3.ver r/\m.blk t=m3.blk r:=λ{t r} hn=>by
  obtain⟨h1,h2⟩:=JG hn;have:=hren _ _ h2
  rwa [show pinA+(t-pinA)=t by omega]at this
 unfold outA;split
 .rename_i t ver z off len;cases hn:nameOf rs t with
  | none=>exact dat _ hx (by simpa [outO,hn,ownA,ownC,ownB] using hfz)
  | some r=>exact .one _ _ (zaA (name hn).1 (name hn).2 (hx.one_inv.ext hx2))
 .rename_i t ver i off;cases hn:nameOf rs t with
  | none=>exact dat _ hx (by simpa [outO,hn,ownA,ownC,ownB] using hfz)
  | some r=>exact .one _ _ (kao (name hn).1 (name hn).2 (hx.one_inv.ext hx2))
 .rename_i h1 h2;refine dat _ hx ?_;unfold outO at hfz;split at hfz
  .exact(h1 _ _ _ _ _ rfl).elim
  .exact(h2 _ _ _ _ rfl).elim
  .exact hfz
theorem qa6{m:M}{I:Nat->Prop}{H:Array Obj}{l:List AV}{vs:List Value}(h:RAs m I H l vs):RA m I H (resOf l) (if h:(⟨vs⟩:Array Value).size=1 then (⟨vs⟩:Array Value)[0] else .tuple ⟨vs⟩):=VG h
theorem osound{f:FuncId}{fn:Func}{c:Code}{ac:AC}{rv:List RV}{n:Nat}{G:Option Nat->List AV->(Nat->HB)->(AV->(Nat->HB)->Prop)->Prop}(hf:P.funcs[f]?=some fn)(hb:fn.body=some c)(hn:fn.ntmps=n)(hc:compile P n c=some ac.strip)(hrv:cRes P fn=some rv)(hΓ:Holds P Γ)(hpin:n<=pinA)
    (h:∀d args h K,G d args h K->∃(rs:List Nat) (bs:List Blk) (args' : List AV),rs.Nodup/\bs.length=rs.length/\(∀(i r:Nat) (b:Blk),rs[i]?=some r->bs[i]?=some b->(h r).blk=some b/\b.live=true/\CleanR b.es)/\
      args=args'.map (exA rs)/\(∀a∈args',pasA rs a)/\((∀a∈args',FineA a)->args.length<=n/\wpA Γ ac (finO rv rs h K) ⟨mkV (argL 0 args'),mkH (pinL rs bs h pinA)⟩)):OSound P f G:=by
  intro E args vals w I m h0 d K hr hargs hG;obtain⟨rs,bs,args',hnd,hbl,hblk,rfl,hpas,hwp⟩:=h d args h0 K hG;have getb:∀(i r:Nat),rs[i]?=some r->∃b,bs[i]?=some b/\(h0 r).blk=some b/\b.live=true/\CleanR b.es:=by
    intro i r hi;have:i<bs.length:=by rw [hbl];exact(List.getElem?_eq_some_iff.1 hi).1
    exact⟨bs[i],List.getElem?_eq_getElem this,hblk i r _ hi (List.getElem?_eq_getElem this)⟩
  generalize hF:(λt=>if pinA<=t then (rs[t-pinA]?).bind m.blk else none:Nat->Option (Nat×Nat))=F
  have hFi:∀i,F (pinA+i)=(rs[i]?).bind m.blk:=λi=>by rw [<-hF];simp
  have hFs:∀t k z,F t=some (k,z)->∃(i r:Nat),t=pinA+i/\rs[i]?=some r/\m.blk r=some (k,z):=by
    intro t k z ht;rw [<-hF]at ht;simp only at ht;split at ht
    . rename_i hle
      simp only [zOB]at ht;obtain⟨r,h1,h2⟩:=ht;exact⟨t-pinA,r,by omega,h1,h2⟩
    . simp at ht
  generalize hH:mkH (pinL rs bs h0 pinA)=hh at hwp;have hHi:∀(i r:Nat) (b:Blk),rs[i]?=some r->bs[i]?=some b->hh (pinA+i)=⟨(h0 r).ver,some b⟩:=λi r b h1 h2=>by
    rw [<-hH,V4,if_pos (by omega)]
    simp [h1,h2]
  have hHs:∀t b,(hh t).blk=some b->∃(i r:Nat),t=pinA+i/\rs[i]?=some r/\bs[i]?=some b:=by
    intro t b ht;rw [<-hH,V4]at ht;split at ht
    . split at ht
      . rename_i hle r b' h1 h2
        simp only [zOI]at ht;subst ht;exact⟨t-pinA,r,by omega,h1,h2⟩
      . simp at ht
    . simp at ht
  generalize hm2:(⟨λt=>(hh t).ver,F⟩:M)=m2;have ren:∀(i r:Nat),rs[i]?=some r->m.ver r=m2.ver (pinA+i)/\m.blk r=m2.blk (pinA+i):=by
    intro i r hi;obtain⟨b,h1,_⟩:=getb i r hi;rw [<-hm2];exact⟨by simp only [hHi i r b hi h1];exact hr.ver r,by simp only [hFi,hi,Option.bind_some]⟩
  generalize hE:(⟨w,I,λk=>∃(i r:Nat) (b:Blk) (z:Nat),rs[i]?=some r/\bs[i]?=some b/\m.blk r=some (k,z),n,F,λ_=>undef⟩:Env)=E2;have ow:∀k,E2.Ow k->∃(i r:Nat) (b:Blk) (z:Nat),rs[i]?=some r/\(h0 r).blk=some b/\b.live=true/\m.blk r=some (k,z):=by
    intro k hk;rw [<-hE]at hk;obtain⟨i,r,b,z,h1,h2,h3⟩:=hk;obtain⟨g1,g2,_⟩:=hblk i r b h1 h2;exact⟨i,r,b,z,h1,g1,g2,h3⟩
  have hargs2:RAs m2 I w.heap args' vals:=by
    refine⟨by simpa using hargs.1,λi a v ha hv=>?_⟩
    exact wbl ren (hpas a (List.mem_of_getElem? ha)) (hargs.2 i _ v (by simp [ha]) hv)
  have hfine:∀a∈args',FineA a:=by
    intro a ha;obtain⟨i,hi⟩:=List.getElem?_of_mem ha;have hlt:i<vals.length:=by rw [<-hargs2.1];exact(List.getElem?_eq_some_iff.1 hi).1
    exact(hargs2.2 i a _ hi (List.getElem?_eq_getElem hlt)).fine
  obtain⟨hlen,hwp⟩:=hwp hfine;refine calls_of_wp hf hb ?_;have hsim:Sim E2 ⟨mkV (argL 0 args'),hh⟩ { tmps:=(⟨vals⟩:Array Value)++Array.replicate (fn.ntmps-(⟨vals⟩:Array Value).size) undef,defers:=[] } w m2 I:=by
    refine⟨rfl,?_,λt=>vn (E:=E2) (by rw [<-hE]) (by show Array.size _<=_;have hlv:=hargs2.1;have:vals.length<=n:=(by rw [<-hlv];simpa using hlen);simp [hn];omega) (Yi hargs2 t),?_⟩
    . have hlv:=hargs2.1
      have:vals.length<=n:=by rw [<-hlv];simpa using hlen
      rw [<-hE];simp [hn];omega
    . rw [<-hE,<-hm2]
      refine {
        ver:=λr=>rfl,blk:=λt b hb=>?_,inj:=λt t' k z z' h1 h2=>?_,lt:=λt k z hm=>?_,
        imb:=hr.imb,grow:=Nat.le_refl _,keep:=λb hb _=>rfl,imm:=λb hb=>.inl hb,sup:=λb hb=>hb,i0:=λb hb=>⟨hr.imb b hb,λh=>?_⟩,
        liv:=λt b k z hb hm=>?_,np:=hpin,fx:=λt b _ hb=>⟨rfl,λ_ _ _=>rfl⟩,os:=rfl,tape:=rfl,out:=rfl }
      . obtain⟨i,r,rfl,h1,h2⟩:=hHs t b hb
        obtain⟨g1,g2,g3⟩:=hblk i r b h1 h2;have hrb:=hr.blk r b g1;refine⟨hrb.sz,λhm=>hrb.virt (by simpa [hFi,h1] using hm),λk z hm=>?_⟩
        have hm' : m.blk r=some (k,z):=by simpa [hFi,h1] using hm
        obtain⟨q1,q2,q3,arr,ty,q4,q5⟩:=hrb.real k z hm';exact⟨q1,q2,q3,arr,ty,q4,λi j e c he hc=>let ⟨v,p1,p2⟩:=q5 i j e c he hc;⟨v,p1,p2.any_map (g3 e (List.mem_of_getElem? he) c (List.mem_of_getElem? hc)) _⟩⟩
      . obtain⟨i,r,rfl,g1,g2⟩:=hFs _ _ _ h1
        obtain⟨i',r',rfl,g1',g2'⟩:=hFs _ _ _ h2;have e:=hr.inj _ _ _ _ _ g2 g2';subst e;have hi:=(List.getElem?_eq_some_iff.1 g1).1;have:i=i':=(List.getElem?_inj hi hnd).1 (g1.trans g1'.symm);rw [this]
      . obtain⟨i,r,rfl,g1,g2⟩:=hFs _ _ _ hm
        exact hr.lt _ _ _ g2
      . obtain⟨i,r,b',z,g1,g2,g3⟩:=h
        obtain⟨q1,q2,_⟩:=hblk i r b' g1 g2;exact((hr.blk r b' q1).real _ _ g3).2.1 q2 hb
      . obtain⟨i,r,rfl,g1,g2⟩:=hFs _ _ _ hm
        obtain⟨b',q1,_⟩:=getb i r g1;exact .inr ⟨i,r,b',z,g1,q1,g2⟩
  have hw0:E2.w0=w:=by rw [<-hE]
  have hI0:E2.I0=I:=by rw [<-hE]
  have hEF:E2.F=F:=by rw [<-hE]
  have fin:∀s' a' w' m' I',(rawK s' rv λl=>outK h0 (frz (l.flatMap (outO rs)) s'.h) rs pinA λh'=>K (resOf (l.map (outA rs s'.h))) h')->Sim E2 s' a' w' m' I'->a'.defers=[]/\∃v,(results fn a'.tmps).run P w' = .ok v w'/\
      ∃v' r h' m3 I3,Ending.returned v=.returned v'/\K r h'/\RA m3 I3 w'.heap r v'/\HR E m3 I3 w' h'/\Ext m I w.heap m3 I3 w'.heap:=by
    intro s' a' w' m' I' hk hs;obtain⟨xs,vs,hres,hra,hk⟩:=Vd hs hrv hk;refine⟨hs.dfr,_,hres,?_⟩;obtain⟨I2,hh2,hx2,hfz⟩:=hs.heap.frz (xs.flatMap (outO rs));obtain⟨h3,hk,hout,hin⟩:=yaj hnd hk;have place:∀(i r:Nat),rs[i]?=some r->m'.blk (pinA+i)=m.blk r/\∀k z,m.blk r=some (k,z)->bsize w'.heap k=bsize w.heap k:=by
      intro i r hi;obtain⟨b,q1,_⟩:=hin i r hi;have:=hh2.fx (pinA+i) b (by omega) (by rw [q1])
      rw [hEF,hFi,hi]at this;exact⟨this.1,λk z hm=>by rw [<-hw0];exact this.2 k z hm⟩
    have ren' : ∀(i r:Nat),rs[i]?=some r->m'.ver (pinA+i)=m.ver r/\m'.blk (pinA+i)=m.blk r:=λi r hi=>by
      obtain⟨b,q1,_⟩:=hin i r hi;exact⟨by rw [hh2.ver,q1];exact(hr.ver r).symm,(place i r hi).1⟩
    have notow:∀r k z,r∉rs->m.blk r=some (k,z)->¬E2.Ow k:=by
      intro r k z hr' hm ho;obtain⟨i,r2,b,z2,g1,_,_,g2⟩:=ow k ho;have:=hr.inj _ _ _ _ _ hm g2;exact hr' (this▸List.mem_of_getElem? g1)
    have same:∀k,k<w.heap.size->¬E2.Ow k->w'.heap[k]?=w.heap[k]?:=λk hk ho=>by
      have:=hh2.keep k (by rw [hw0];exact hk) ho
      rwa [hw0]at this
    have ext:Ext m I w.heap m I2 w'.heap:=by
      refine⟨λr=>.inl ⟨rfl,rfl,λk z hm=>?_⟩,λb hb=>hh2.sup b (by rw [hI0];exact hb),λb hb=>same b (hr.imb b hb) (λho=>?_)⟩
      . by_cases hmem:r∈rs
        . obtain⟨i,hi⟩:=List.getElem?_of_mem hmem
          exact(place i r hi).2 k z hm
        . simp only [bsize,same k (hr.lt _ _ _ hm) (notow r k z hmem hm)]
      . obtain⟨i,r2,b2,z2,g1,g2,g3,g4⟩:=ow b ho
        exact((hr.blk r2 b2 g2).real _ _ g4).2.1 g3 hb
    refine⟨_,_,h3,m,I2,rfl,hk,qa6 ⟨by simp [hra.1],λi x v hx hv=>?_⟩,?_,ext⟩
    . simp only [List.getElem?_map,zOM]at hx
      obtain⟨x0,hx0,rfl⟩:=hx;exact ya2 hs.heap hx2 ren' (hra.2 i x0 v hx0 hv) (λr hr'=>hfz r (List.mem_flatMap.2 ⟨x0,List.mem_of_getElem? hx0,hr'⟩))
    . have imm2:∀b,I2 b->I b∨w.heap.size<=b∨E2.Ow b:=λb hb=>by
        have:=hh2.imm b hb
        rwa [hI0,hw0]at this
      have size:w.heap.size<=w'.heap.size:=by have:=hh2.grow;rwa [hw0]at this
      have hsome:∀r b,(h3 r).blk=some b->∃b0,(h0 r).blk=some b0:=by
        intro r b hb;by_cases hmem:r∈rs
        . obtain⟨i,hi⟩:=List.getElem?_of_mem hmem
          obtain⟨b0,_,q,_⟩:=getb i r hi;exact⟨b0,q⟩
        . rw [hout r hmem]at hb;exact⟨b,hb⟩
      have liv:∀k,E2.Ow k->E.w0.heap.size<=k∨E.Ow k:=λk ho=>by
        obtain⟨i,r2,b2,z2,g1,g2,g3,g4⟩:=ow k ho;exact hr.liv r2 b2 k z2 g2 g4
      refine {
        ver:=λr=>?_,blk:=λr b hb=>?_,inj:=hr.inj,lt:=λr k z hm=>Nat.lt_of_lt_of_le (hr.lt _ _ _ hm) size,imb:=hh2.imb,grow:=Nat.le_trans hr.grow size,keep:=λb hb ho=>?_,imm:=λb hb=>?_,
        sup:=λb hb=>hh2.sup b (by rw [hI0];exact hr.sup b hb),i0:=hr.i0,liv:=λr b k z hb hm=>?_,np:=hr.np,fx:=λr b hp hb=>?_,
        os:=by rw [hh2.os,hw0];exact hr.os,tape:=by rw [hh2.tape,hw0];exact hr.tape,out:=by rw [hh2.out,hw0];exact hr.out }
      . by_cases hmem:r∈rs
        . obtain⟨i,hi⟩:=List.getElem?_of_mem hmem
          obtain⟨b,_,_,q3⟩:=hin i r hi;rw [q3];exact hr.ver r
        . rw [hout r hmem];exact hr.ver r
      . by_cases hmem:r∈rs
        . obtain⟨i,hi⟩:=List.getElem?_of_mem hmem
          obtain⟨b',q1,q2,q3⟩:=hin i r hi;rw [q3]at hb;simp only [zOI]at hb;subst hb;have hrb:=hh2.blk (pinA+i) b' (by rw [q1])
          have hp:=(place i r hi).1;refine⟨hrb.sz,λhm=>hrb.virt (by rw [hp];exact hm),λk z hm=>?_⟩
          obtain⟨p1,p2,p3,arr,ty,p4,p5⟩:=hrb.real k z (by rw [hp];exact hm)
          exact⟨p1,p2,p3,arr,ty,p4,λi j e c he hc=>let ⟨v,t1,t2⟩:=p5 i j e c he hc;⟨v,t1,t2.any_map (q2 e (List.mem_of_getElem? he) c (List.mem_of_getElem? hc)) _⟩⟩
        . rw [hout r hmem]at hb
          have hrb:=hr.blk r b hb;refine⟨hrb.sz,hrb.virt,λk z hm=>?_⟩;obtain⟨p1,p2,p3,arr,ty,p4,p5⟩:=hrb.real k z hm;have hlt:=hr.lt _ _ _ hm;have hno:=notow r k z hmem hm;refine⟨p1,λhl hi=>?_,λhl=>ext.i k (p3 hl),arr,ty,by rw [same k hlt hno];exact p4,λi j e c he hc=>let ⟨v,t1,t2⟩:=p5 i j e c he hc;⟨v,t1,t2.ext ext⟩⟩
          rcases imm2 k hi with h | h | h
          . exact p2 hl h
          . omega
          . exact hno h
      . by_cases ho2:E2.Ow b
        . rcases liv b ho2 with h | h
          . omega
          . exact(ho h).elim
        . rw [same b (Nat.lt_of_lt_of_le hb hr.grow) ho2]
          exact hr.keep b hb ho
      . rcases imm2 b hb with h | h | h
        . exact hr.imm b h
        . exact .inr (.inl (Nat.le_trans hr.grow h))
        . exact .inr (liv b h)
      . obtain⟨b0,hb0⟩:=hsome r b hb
        exact hr.liv r b0 k z hb0 hm
      . obtain⟨b0,hb0⟩:=hsome r b hb
        obtain⟨q1,q2⟩:=hr.fx r b0 hp hb0;refine⟨q1,λk z hF=>?_⟩;rw [<-q2 k z hF];rcases ext.m r with⟨_,_,q⟩ | q
        . exact q k z (by rw [q1];exact hF)
        . omega
  have hsim':=hsim;have hN:E2.N=n:=by rw [<-hE]
  refine Qt (E:=E2) hΓ ac c (by rw [hN];exact hc) hsim hwp (λe s' a' w' m' I' hq hs=>?_)
  cases e with
  | nrm=>exact fin s' a' w' m' I' hq hs
  | ret=>exact fin s' a' w' m' I' hq hs
  | exit i=>exact hq.elim
theorem vq{f:FuncId}{n:Nat}{ac:AC}{rv:List RV}{G:Option Nat->List AV->(Nat->HB)->(AV->(Nat->HB)->Prop)->Prop}(hc:check P f=some (n,ac.strip,rv))(hΓ:Holds P Γ)
  (h:∀d args h K,G d args h K->∃(rs:List Nat) (bs:List Blk) (args' : List AV),rs.Nodup/\bs.length=rs.length/\(∀(i r:Nat) (b:Blk),rs[i]?=some r->bs[i]?=some b->(h r).blk=some b/\b.live=true/\CleanR b.es)/\
   args=args'.map (exA rs)/\(∀a∈args',pasA rs a)/\((∀a∈args',FineA a)->args.length<=n/\wpA Γ ac (finO rv rs h K) ⟨mkV (argL 0 args'),mkH (pinL rs bs h pinA)⟩)):Sound P f (.own G):=by
 obtain⟨fn,c,h1,h2,h3,h4,h5,h6,h7⟩:=Vi hc;exact⟨Xa h1 h2 (by rw [h3];rfl),osound h1 h3 h4 h5 h6 hΓ h7 h⟩
end Go.Abs
end
namespace Go.Abs
attribute [go_sem] Nat.reduceEqDiff Nat.reduceAdd Nat.reduceLT Nat.reduceLeDiff Int.reduceToNat Nat.reducePow Nat.reduceMul reduceCtorEq
attribute [go_sem ↓] reduceIte
end Go.Abs
