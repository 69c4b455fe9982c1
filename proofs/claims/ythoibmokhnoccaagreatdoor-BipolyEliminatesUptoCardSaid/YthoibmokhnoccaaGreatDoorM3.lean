/-
  Parts of the proof, merged: AbsS, AbsX, AbsY.
-/
import Derived.Test.YthoibmokhnoccaaGreatDoorM2
import Derived.Attr
set_option linter.unusedVariables false
set_option linter.unusedSimpArgs false
section
namespace Go.Abs
theorem XbC{Γ}{c}{Q}{s}{s'}(h0:s=s'):wpA Γ c Q s=wpA Γ c Q s':=by subst h0;rfl
theorem jbE{Γ}{dr}{K}{l}{s}{s'}(h0:s=s'):wpL Γ dr K l s=wpL Γ dr K l s':=by subst h0;rfl
theorem ZbF{Γ}{dr}{s}{s'}{K}{o}(h0:s=s'):wpG Γ dr s K o=wpG Γ dr s' K o:=by subst h0;rfl
theorem ubA{Γ}{dr}{d}{s}{s'}{K}{o:AOp}(h0:s=s'):wpO Γ dr d s K o=wpO Γ dr d s' K o:=by subst h0;rfl
theorem ubc{K}{a}{a'}(h0:a=a'):asInt K a=asInt K a':=by subst h0;rfl
theorem kaT{K}{a}{a'}(h0:a=a'):asBool K a=asBool K a':=by subst h0;rfl
theorem waH{K}{a}{a'}(h0:a=a'):asCells K a=asCells K a':=by subst h0;rfl
theorem Vbv{K}{k}{n}{n'}(h0:n=n'):intR K k n=intR K k n':=by subst h0;rfl
theorem ua9{K}{b}{b'}(h0:b=b'):boolR K b=boolR K b':=by subst h0;rfl
theorem wbp{K}{k}{n}{n'}(h0:n=n'):numR K k n=numR K k n':=by subst h0;rfl
theorem Wa9{K:AV->Prop}{o:BinOp}{k:IntKind}{a:Int}{a' : Int}{b:Int}{b' : Int}(h0:a=a')(h1:b=b'):arith K o k a b=arith K o k a' b':=by subst h0;subst h1;rfl
theorem ubt{K:AV->Prop}{k:IntKind}{a:Int}{a' : Int}{b:Int}{b' : Int}(h0:a=a')(h1:b=b'):shlA K k a b=shlA K k a' b':=by subst h0;subst h1;rfl
theorem xbt{K:AV->Prop}{k:IntKind}{a:Int}{a' : Int}{b:Int}{b' : Int}(h0:a=a')(h1:b=b'):shrA K k a b=shrA K k a' b':=by subst h0;subst h1;rfl
theorem Wbs{K}{b:Option Bool}{b' : Option Bool}(h0:b=b'):nilR K b=nilR K b':=by subst h0;rfl
theorem Vbs{K:AV->Prop}{op:BinOp}{x:AV}{x' : AV}{y:AV}{y' : AV}(h0:x=x')(h1:y=y'):binA K op x y=binA K op x' y':=by subst h0;subst h1;rfl
theorem kbn{K:(Nat->HB)->Prop}{z:Nat}{h h' : Nat->HB}{ys ys' : List (List C)}{x x' : AV}(h0:h=h')(h1:ys=ys')(h2:x=x'):cpyK K z h ys x=cpyK K z h' ys' x':=by subst h0;subst h1;subst h2;rfl
theorem ybs{K}{k}{l l'}(h0:l=l'):sopA K k l=sopA K k l':=by subst h0;rfl
theorem kbb{K:AV->Prop}{op:BinOp}{x:AV}{x' : AV}{y:AV}{y' : AV}(h0:x=x')(h1:y=y'):binbA K op x y=binbA K op x' y':=by subst h0;subst h1;rfl
theorem kbd{K:AV->Prop}{op:BinOp}{yc:Bool}{x:AV}{x' : AV}{y:AV}{y' : AV}(h0:x=x')(h1:y=y'):binnA K op yc x y=binnA K op yc x' y':=by subst h0;subst h1;rfl
theorem Xbu{K:AV->Prop}{k k' : IntKind}{a a' b b' : Int}{op:BinOp}(h0:a=a')(h1:b=b'):binI K k k' a b op=binI K k k' a' b' op:=by subst h0;subst h1;rfl
theorem JbH{K}{op}{x}{x'}(h0:x=x'):unA K op x=unA K op x':=by subst h0;rfl
theorem Zbe{K}{k}{x}{x'}(h0:x=x'):convA K k x=convA K k x':=by subst h0;rfl
theorem xaL{K}{t}{x}{x'}(h0:x=x'):ifaceA K t x=ifaceA K t x':=by subst h0;rfl
theorem xbu{ev}{l}{l'}{K}(h0:l=l'):segA ev l K=segA ev l' K:=by subst h0;rfl
theorem ubd{K:C->Prop}{a}{a'}(h0:a=a'):asOne K a=asOne K a':=by subst h0;rfl
theorem Ybq{ev}{l}{l'}{K}(h0:l=l'):capA ev l K=capA ev l' K:=by subst h0;rfl
theorem Wbq{ev}{z}{l}{l'}{K}(h0:l=l'):rowA ev z l K=rowA ev z l' K:=by subst h0;rfl
theorem wbo{K:List C->Prop}{es:List (List C)}{es' : List (List C)}{i:Nat}{i' : Nat}(h0:es=es')(h1:i=i'):getE K es i=getE K es' i':=by subst h0;subst h1;rfl
theorem ZbI{K}{l}{l'}(h0:l=l'):hd1 K l=hd1 K l':=by subst h0;rfl
theorem XbJ{K}{n}{g}{cs}{cs'}(h0:cs=cs'):ldK K n g cs=ldK K n g cs':=by subst h0;rfl
theorem Wbn{K:List (List C)->Nat->Bool->Prop}{h}{h'}{r}{ver}(h0:h=h'):blkA K h r ver=blkA K h' r ver:=by subst h0;rfl
theorem YbL{K:AV->Prop}{n:Nat}{g:Bool}{h:Nat->HB}{h' : Nat->HB}{a:AV}{a' : AV}(h0:h=h')(h1:a=a'):ldA K n g h a=ldA K n g h' a':=by subst h0;subst h1;rfl
theorem kbA{K:(Nat->HB)->Prop}{n:Nat}{h:Nat->HB}{h' : Nat->HB}{x:AV}{x' : AV}{a:AV}{a' : AV}(h0:h=h')(h1:x=x')(h2:a=a'):stA K n h x a=stA K n h' x' a':=by subst h0;subst h1;subst h2;rfl
theorem Ybu{K:Nat->Prop}{b b'}(h0:b=b'):newB K b=newB K b':=by subst h0;rfl
theorem Zbp{K:S->Prop}{s:S}{s' : S}{b:Blk}{b' : Blk}{a:Nat->Nat->AV}{d:Option Nat}(h0:s=s')(h1:b=b'):newA K s b a d=newA K s' b' a d:=by subst h0;subst h1;rfl
theorem ubq{K:AV->Prop}{z:Nat}{i:AV}{i' : AV}{x:AV}{x' : AV}(h0:i=i')(h1:x=x'):idxA K z i x=idxA K z i' x':=by subst h0;subst h1;rfl
theorem Jbq{K}{dr}{x}{x'}(h0:x=x'):lenA K dr x=lenA K dr x':=by subst h0;rfl
theorem Ubr{dr}{n n'}{K:Prop}(h0:n=n'):bndK dr n K=bndK dr n' K:=by subst h0;rfl
theorem kbq{s s'}{l:List RV}{K:List AV->Prop}(h0:s=s'):rawK s l K=rawK s' l K:=by subst h0;rfl
theorem vbv{l:List RV}{K:AV->Prop}{e e' : Ex}{s s' : S}(h0:e=e')(h1:s=s'):finQ l K e s=finQ l K e' s':=by subst h0;subst h1;rfl
theorem kbI{K:Nat->Prop}{ev}{n}{n'}{o}(h0:n=n'):bnd K ev n o=bnd K ev n' o:=by subst h0;rfl
theorem jbL{K}{z}{ev}{lo}{hi}{x}{x'}(h0:x=x'):slA K z ev lo hi x=slA K z ev lo hi x':=by subst h0;rfl
theorem WaU{K:List (List C)->Prop}{h:Nat->HB}{h' : Nat->HB}{x:AV}{x' : AV}(h0:h=h')(h1:x=x'):elemsA K h x=elemsA K h' x':=by subst h0;subst h1;rfl
theorem Ybn{K:S->Prop}{z:Nat}{d:Option Nat}{s:S}{s' : S}{ys:List (List C)}{ys' : List (List C)}{x:AV}{x' : AV}(h0:s=s')(h1:ys=ys')(h2:x=x'):appK K z d s ys x=appK K z d s' ys' x':=by subst h0;subst h1;subst h2;rfl
theorem Ybs{K:S->Prop}{z:Nat}{d:Option Nat}{s:S}{s' : S}{es es' ys ys' : List (List C)}(h0:s=s')(h1:es=es')(h2:ys=ys'):appF K z d s es ys=appF K z d s' es' ys':=by subst h0;subst h1;subst h2;rfl
theorem XbH{K:AV->Prop}{z n:Nat}{i i' x x' : AV}(h0:i=i')(h1:x=x'):aiA K z n i x=aiA K z n i' x':=by subst h0;subst h1;rfl
theorem qbp{K:AV->Prop}{z:Nat}{g:Bool}{n:Nat}{i i' x x' : AV}(h0:i=i')(h1:x=x'):aixA K z g n i x=aixA K z g n i' x':=by subst h0;subst h1;rfl
theorem qbt{K}{z n}{x x'}(h1:x=x'):rslA K z n x=rslA K z n x':=by subst h1;rfl
theorem Jbp{K:S->Prop}{z:Nat}{d:Option Nat}{s:S}{s' : S}{x:AV}{x' : AV}{y:AV}{y' : AV}(h0:s=s')(h1:x=x')(h2:y=y'):appA K z d s x y=appA K z d s' x' y':=by subst h0;subst h1;subst h2;rfl
theorem ya9{K:Prop}{x}{x'}(h0:x=x'):isEmp K x=isEmp K x':=by subst h0;rfl
theorem Vbr{pick:Int->Int->Int}{ev}{K}{l}{k}{a}{a'}(h0:a=a'):maxK pick ev K l k a=maxK pick ev K l k a':=by subst h0;rfl
theorem zbr{pick:Int->Int->Int}{ev:Opd->AV}{K:AV->Prop}{l:List Opd}:maxA pick ev K l=maxA pick ev K l:=rfl
theorem ubb{K:S->Prop}{dr:Bool}{d:Option Nat}{args:List AV}{args' : List AV}{s:S}{s' : S}{sp:Spec}{sp' : Spec}(h0:args=args')(h1:s=s')(h2:sp=sp'):callS K dr d args s sp=callS K dr d args' s' sp':=by subst h0;subst h1;subst h2;rfl
theorem zaX{K:Nat->List AV->Prop}{args:List AV}{args' : List AV}{x:AV}{x' : AV}(h0:args=args')(h1:x=x'):callVA K args x=callVA K args' x':=by subst h0;subst h1;rfl
theorem Jbw{K}{i}{x}{x'}(h0:x=x'):extA K i x=extA K i x':=by subst h0;rfl
theorem Xa9{K}{t}{zero}{x}{x'}(h0:x=x'):tassA K t zero x=tassA K t zero x':=by subst h0;rfl
theorem WbF{K}{off}{x}{x'}(h0:x=x'):faA K off x=faA K off x':=by subst h0;rfl
theorem Ja2{K}{x}{x'}(h0:x=x'):nilckA K x=nilckA K x':=by subst h0;rfl
theorem Zbu{K}{n}{g}{off}{x}{x'}(h0:x=x'):fldA K n g off x=fldA K n g off x':=by subst h0;rfl
theorem vbC{K:S->Prop}{K' : S->Prop}{s:S}{s' : S}{g:Nat}{want:Bool}{x:AV}{x' : AV}(h0:s=s')(h1:x=x'):grd K K' s g want x=grd K K' s' g want x':=by subst h0;subst h1;rfl
theorem Ex.seq_cg{K:S->Prop}{Q:Ex->S->Prop}{e e' : Ex}{s s' : S}(h0:e=e')(h1:s=s'):Ex.seq K Q e s=Ex.seq K Q e' s':=by subst h0;subst h1;rfl
theorem Ex.blk_cg{id:Nat}{Q:Ex->S->Prop}{e e' : Ex}{s s' : S}(h0:e=e')(h1:s=s'):Ex.blk id Q e s=Ex.blk id Q e' s':=by subst h0;subst h1;rfl
theorem xbe{K:S->Prop}{dr:Bool}{d:Option Nat}{args args' : List AV}{s s' : S}{sp sp' : Spec}(h0:args=args')(h1:s=s')(h2:sp=sp'):callF K dr d args s sp=callF K dr d args' s' sp':=by subst h0;subst h1;subst h2;rfl
theorem Ybb{K}{neg}{x x'}(h0:x=x'):snilA K neg x=snilA K neg x':=by subst h0;rfl
theorem Vba{K}{neg}{e e' : Prop}(h0:e=e'):snilK K neg e=snilK K neg e':=by subst h0;rfl
theorem Ubt{K}{x x'}(h0:x=x'):capZ K x=capZ K x':=by subst h0;rfl
theorem VaM{z:Nat}{h h' : Nat->HB}{K:List (List C)->Prop}{l l' : List AV}(h0:h=h')(h1:l=l'):freshL z h K l=freshL z h' K l':=by subst h0;subst h1;rfl
theorem ka3{z:Nat}{h h' : Nat->HB}{K:List (List C)->Prop}{l l' : AV}(h0:h=h')(h1:l=l'):freshA z h K l=freshA z h' K l':=by subst h0;subst h1;rfl
theorem xbn{z:Nat}{l:List RV}{K:List (List C)->Prop}{e e' : Ex}{s s' : S}(h0:e=e')(h1:s=s'):finF z l K e s=finF z l K e' s':=by subst h0;subst h1;rfl
theorem Ubp{l:List RV}{rs:List Nat}{h:Nat->HB}{K:AV->(Nat->HB)->Prop}{e e' : Ex}{s s' : S}(h0:e=e')(h1:s=s'):finO l rs h K e s=finO l rs h K e' s':=by subst h0;subst h1;rfl
theorem xbq{h hc hc'}{rs:List Nat}{k}{K}(h0:hc=hc'):outK h hc rs k K=outK h hc' rs k K:=by subst h0;rfl
def br(b:Bool)(p q:Prop):Prop:=(b=true->p)/\(b=false->q)
theorem JbS{b b'}{p q:Prop}(h:b=b'):br b p q=br b' p q:=by subst h;rfl
attribute [congr] JbS
attribute [congr] kbn ybs xbe Ybb Vba Ubt VaM ka3 xbn Ubp xbq Ubr kbq vbv ubd Ybq kbb kbd Xbu Ybu Ex.seq_cg Ex.blk_cg XbC jbE ZbF ubA ubc kaT waH Vbv ua9 wbp Wa9 ubt xbt Wbs Vbs JbH Zbe xaL xbu Wbq wbo ZbI XbJ Wbn YbL kbA Zbp ubq Jbq kbI jbL WaU Ybn Ybs XbH qbp qbt Jbp ya9 Vbr zbr ubb zaX Jbw Xa9 WbF Ja2 Zbu vbC
inductive Tok {α:Type} (x:α):Type
 | mk
def LoopAt(Γ:Nat->Spec)(a:AC)(Q:Ex->S->Prop)(s:S)(t:Tok (Γ,a,Q)):Prop:=wpA Γ (.loop a) Q s
theorem YaV Γ a Q s:wpA Γ (.loop a) Q s=LoopAt Γ a Q s .mk:=propext Iff.rfl
attribute [go_sem ↓] YaV
theorem Za2 Γ x x_1:wpA Γ AC.skip x x_1=x Ex.nrm x_1:=propext Iff.rfl
theorem UaV Γ x x_1 dr l:wpA Γ (AC.ops dr l) x x_1=wpL Γ dr (x Ex.nrm) l x_1:=propext Iff.rfl
theorem Ua1 Γ x x_1 a b:wpA Γ (a.seq b) x x_1=wpA Γ a (Ex.seq (wpA Γ b x) x) x_1:=propext Iff.rfl
theorem qaZ Γ x x_1 id a:wpA Γ (AC.block id a) x x_1=wpA Γ a (Ex.blk id x) x_1:=propext Iff.rfl
theorem ZaW Γ x x_1 id:wpA Γ (AC.exit id) x x_1=x (Ex.exit id) x_1:=propext Iff.rfl
theorem Va8 Γ x x_1:wpA Γ AC.ret x x_1=x Ex.ret x_1:=propext Iff.rfl
theorem van Γ x x_1(ts:List Nat) a:wpA Γ (AC.fz ts a) x x_1=wpA Γ a x (frzS ts x_1):=propext Iff.rfl
theorem qa6 Γ dr K x:wpL Γ dr K [] x=K x:=propext Iff.rfl
theorem ja8 Γ dr K x o r:wpL Γ dr K (o::r) x=wpG Γ dr x (wpL Γ dr K r) o:=propext Iff.rfl
theorem kaJ Γ dr s K d(o:AOp):wpG Γ dr s K { d:=d,g:=none,o:=o }=wpO Γ dr d s K o:=propext Iff.rfl
theorem xaV Γ dr s K d g want(o:AOp):wpG Γ dr s K { d:=d,g:=some (g,want),o:=o }=grd (λs=>wpO Γ dr d s K o) (λs=>K (s.put d (AV.tup []))) s g want (s.v g):=propext Iff.rfl
theorem qa0 Γ dr d s K x_1:wpO Γ dr d s K (AOp.mv x_1)=K (s.put d (s.ev x_1)):=propext Iff.rfl
theorem vaO Γ dr d s K zs:wpO Γ dr d s K (AOp.alloc zs)=newA K s { es:=[zs],z:=zs.length,live:=true } (λd ver=>AV.one (C.ptr d ver 0 0)) d:=propext Iff.rfl
theorem VaN Γ dr d s K n x_1:wpO Γ dr d s K (AOp.box n x_1)=asCells (λcs=>cs.length=n/\newA K s { es:=[cs],z:=n,live:=true } (λd ver=>AV.one (C.ptr d ver 0 0)) d) (s.ev x_1):=propext Iff.rfl
theorem YaN Γ dr d s K sg:wpO Γ dr d s K (AOp.build sg)=segA s.ev sg λcs=>K (s.put d (AV.agg cs)):=propext Iff.rfl
theorem qaP Γ dr d s K z l:wpO Γ dr d s K (AOp.row z l)=rowA s.ev z l λes=>(dr=true->List.flatMap (λx=>List.flatMap ownC x) es=[])/\K ((s.setH (frz (List.flatMap (λx=>List.flatMap ownC x) es) s.h)).put d (AV.one (C.full (List.map (λx=>List.map (datC s.h) x) es)))):=propext Iff.rfl
theorem qa7 Γ dr d s K z l:wpO Γ dr d s K (AOp.rowo z l)=(dr=false/\rowA s.ev z l λes=>newA K s { es:=es,z:=z,live:=true } (λd ver=>AV.one (C.own d ver z 0 es.length)) d):=propext Iff.rfl
theorem zaO Γ dr d s K b n g a:wpO Γ dr d s K (AOp.ld b n g a)=(baseIs b (s.ev a)/\ldA (λx=>K (s.put d x)) n g s.h (s.ev a)):=propext Iff.rfl
theorem JaQ Γ dr d s K b n a x_1:wpO Γ dr d s K (AOp.st b n a x_1)=(baseIs b (s.ev a)/\stA (λh=>K ((s.setH h).put d (AV.tup []))) n s.h (s.ev x_1) (s.ev a)):=propext Iff.rfl
theorem zaD Γ dr d s K x_1:wpO Γ dr d s K (AOp.nilck x_1)=nilckA (λr=>K (s.put d r)) (s.ev x_1):=propext Iff.rfl
theorem jaB Γ dr d s K(op:Go.BinOp) x_1 y:wpO Γ dr d s K (AOp.bin op x_1 y)=binA (λr=>K (s.put d r)) op (s.ev x_1) (s.ev y):=propext Iff.rfl
theorem qaw Γ dr d s K(op:Go.BinOp) x_1 y:wpO Γ dr d s K (AOp.binb op x_1 y)=binbA (λr=>K (s.put d r)) op (s.ev x_1) (s.ev y):=propext Iff.rfl
theorem yax Γ dr d s K(op:Go.BinOp) x_1 y:wpO Γ dr d s K (AOp.binn op x_1 y)=binnA (λr=>K (s.put d r)) op (isConst y) (s.ev x_1) (s.ev y):=propext Iff.rfl
theorem Vav Γ dr d s K(op:Go.UnOp) x_1:wpO Γ dr d s K (AOp.un op x_1)=unA (λr=>K (s.put d r)) op (s.ev x_1):=propext Iff.rfl
theorem kan Γ dr d s K(k:Go.IntKind) x_1:wpO Γ dr d s K (AOp.conv k x_1)=convA (λr=>K (s.put d r)) k (s.ev x_1):=propext Iff.rfl
theorem wan Γ dr d s K t x_1:wpO Γ dr d s K (AOp.iface t x_1)=ifaceA (λr=>K (s.put d r)) t (s.ev x_1):=propext Iff.rfl
theorem Xav Γ dr d s K(f:Go.FuncId) l:wpO Γ dr d s K (AOp.clo f l)=capA s.ev l λcs=>K (s.put d (AV.one (C.clo f cs))):=propext Iff.rfl
theorem jar Γ dr d s K z zs l c:wpO Γ dr d s K (AOp.mk z zs l c)=asInt (λx l=>asInt (λx c=>(0<=l/\l<=c/\c<=↑roomA/\zs.length=z)/\newA K s { es:=List.replicate l.toNat zs,z:=z,live:=true } (λd ver=>AV.one (C.own d ver z 0 l.toNat)) d) (s.ev c)) (s.ev l):=propext Iff.rfl
theorem yaq Γ dr d s K z x_1 lo hi:wpO Γ dr d s K (AOp.sl z x_1 lo hi)=slA (λr=>K (s.put d r)) z s.ev lo hi (s.ev x_1):=propext Iff.rfl
theorem kaq Γ dr d s K x_1:wpO Γ dr d s K (AOp.sl0 x_1)=elemsA (λx=>K (s.put d (AV.one C.emp))) s.h (s.ev x_1):=propext Iff.rfl
theorem Jap Γ dr d s K off x_1:wpO Γ dr d s K (AOp.fa off x_1)=faA (λr=>K (s.put d r)) off (s.ev x_1):=propext Iff.rfl
theorem Uay Γ dr d s K n g off x_1:wpO Γ dr d s K (AOp.fld n g off x_1)=fldA (λr=>K (s.put d r)) n g off (s.ev x_1):=propext Iff.rfl
theorem waD Γ dr d s K z x_1 i:wpO Γ dr d s K (AOp.idx z x_1 i)=idxA (λr=>K (s.put d r)) z (s.ev i) (s.ev x_1):=propext Iff.rfl
theorem XaC Γ dr d s K i x_1:wpO Γ dr d s K (AOp.ext i x_1)=extA (λr=>K (s.put d r)) i (s.ev x_1):=propext Iff.rfl
theorem Yas Γ dr d s K t zero x_1:wpO Γ dr d s K (AOp.tass t zero x_1)=tassA (λr=>K (s.put d r)) t zero (s.ev x_1):=propext Iff.rfl
theorem Vat Γ dr d s K x_1:wpO Γ dr d s K (AOp.len x_1)=lenA (λr=>K (s.put d r)) dr (s.ev x_1):=propext Iff.rfl
theorem qaE Γ dr d s K z x_1 y:wpO Γ dr d s K (AOp.app z x_1 y)=appA K z d s (s.ev x_1) (s.ev y):=propext Iff.rfl
theorem vat Γ dr d s K b z x_1 y:wpO Γ dr d s K (AOp.appb b z x_1 y)=(appIs b d (s.ev x_1) (s.ev y)/\appA K z d s (s.ev x_1) (s.ev y)):=propext Iff.rfl
theorem UaB Γ dr d s K z x_1 y:wpO Γ dr d s K (AOp.app0 z x_1 y)=isEmp (appA K z d s (AV.one C.emp) (s.ev y)) (s.ev x_1):=propext Iff.rfl
theorem Zax Γ dr d s K z x_1 y:wpO Γ dr d s K (AOp.copy z x_1 y)=(dr=false/\clrK (λh=>K ((s.setH h).put d (AV.tup []))) z s.h (s.ev x_1) (s.ev y)):=propext Iff.rfl
theorem uav Γ dr d s K z x_1 y:wpO Γ dr d s K (AOp.cpy z x_1 y)=(dr=false/\elemsA (λys=>(∀(e:List C),e∈ys->e.length=z)/\cpyK (λh=>K ((s.setH h).put d (AV.one (C.lit (Go.Value.int Go.IntKind.i64 ↑ys.length))))) z s.h ys (s.ev x_1)) s.h (s.ev y)):=propext Iff.rfl
theorem yav Γ dr d s K l:wpO Γ dr d s K (AOp.max l)=maxA mx s.ev (λr=>K (s.put d r)) l:=propext Iff.rfl
theorem Qax Γ dr d s K l:wpO Γ dr d s K (AOp.min l)=maxA mn s.ev (λr=>K (s.put d r)) l:=propext Iff.rfl
theorem zap Γ dr d s K(f:Go.FuncId) l:wpO Γ dr d s K (AOp.call f l)=callS K dr d (List.map s.ev l) s (Γ f):=propext Iff.rfl
theorem Qay Γ dr d s K f l:wpO Γ dr d s K (AOp.callv f l)=callVA (λf args=>callS K dr d args s (Γ f)) (List.map s.ev l) (s.ev f):=propext Iff.rfl
theorem YaC Γ dr d s K(f:Go.FuncId) l:wpO Γ dr d s K (AOp.callf f l)=callF K dr d (List.map s.ev l) s (Γ f):=propext Iff.rfl
theorem Yaw Γ dr d s K(f:Go.FuncId) l:wpO Γ dr d s K (AOp.callr f l)=callR (λr=>K (s.put d r)) (List.map s.ev l) s.h (Γ f):=propext Iff.rfl
theorem zaq Γ dr d s K neg x_1:wpO Γ dr d s K (AOp.snil neg x_1)=snilA (λr=>K (s.put d r)) neg (s.ev x_1):=propext Iff.rfl
theorem vau Γ dr d s K x_1:wpO Γ dr d s K (AOp.cap x_1)=capZ (λr=>K (s.put d r)) (s.ev x_1):=propext Iff.rfl
theorem Xay Γ dr d s K z zs x_1 n:wpO Γ dr d s K (AOp.appz z zs x_1 n)=isEmp (asInt (λx l=>(0<=l/\l<=↑roomA/\zs.length=z)/\newA K s { es:=List.replicate l.toNat zs,z:=z,live:=true } (λd ver=>AV.one (C.own d ver z 0 l.toNat)) d) (s.ev n)) (s.ev x_1):=propext Iff.rfl
theorem waz Γ dr d s K k l:wpO Γ dr d s K (AOp.sop k l)=sopA (λr=>K (s.put d r)) k (List.map s.ev l):=propext Iff.rfl
theorem vay Γ dr d s K z n x_1 i:wpO Γ dr d s K (AOp.ai z n x_1 i)=aiA (λr=>K (s.put d r)) z n (s.ev i) (s.ev x_1):=propext Iff.rfl
theorem Uax Γ dr d s K z g n x_1 i:wpO Γ dr d s K (AOp.aix z g n x_1 i)=aixA (λr=>K (s.put d r)) z g n (s.ev i) (s.ev x_1):=propext Iff.rfl
theorem yaz Γ dr d s K z n x_1:wpO Γ dr d s K (AOp.rsl z n x_1)=rslA (λr=>K (s.put d r)) z n (s.ev x_1):=propext Iff.rfl
theorem qar Γ dr d s K z n x_1 lo hi:wpO Γ dr d s K (AOp.rsb z n x_1 lo hi)=rslA (λr=>slA (λr=>K (s.put d r)) z s.ev lo hi r) z n (s.ev x_1):=propext Iff.rfl
theorem qaC Γ dr d s K:wpO Γ dr d s K AOp.bad=False:=propext Iff.rfl
theorem Y5(K:Go.IntKind->Int->Prop)(k:Go.IntKind) n:asInt K (AV.one (C.lit (Go.Value.int k n)))=K k n:=propext Iff.rfl
theorem YL K b:asBool K (AV.one (C.lit (Go.Value.bool b)))=K b:=propext Iff.rfl
theorem uG K c:asCells K (AV.one c)=K [c]:=propext Iff.rfl
theorem YF K cs:asCells K (AV.agg cs)=K cs:=propext Iff.rfl
theorem vap K x:numR K Go.IntKind.i64 x=((-9223372036854775808<=x/\x<=9223372036854775807)/\intR K Go.IntKind.i64 x):=propext Iff.rfl
theorem ZaA K x:numR K Go.IntKind.u64 x=intR K Go.IntKind.u64 (x % 18446744073709551616):=propext Iff.rfl
theorem Yav K x:numR K Go.IntKind.u32 x=intR K Go.IntKind.u32 (x % 4294967296):=propext Iff.rfl
theorem jaE K x:numR K Go.IntKind.u8 x=intR K Go.IntKind.u8 (x % 256):=propext Iff.rfl
theorem Z2 K(x:Go.IntKind) x_1 x_2:arith K Go.BinOp.add x x_1 x_2=numR K x (x_1+x_2):=propext Iff.rfl
theorem xac K(x:Go.IntKind) x_1 x_2:arith K Go.BinOp.sub x x_1 x_2=numR K x (x_1-x_2):=propext Iff.rfl
theorem U4 K(x:Go.IntKind) x_1 x_2:arith K Go.BinOp.mul x x_1 x_2=numR K x (x_1*x_2):=propext Iff.rfl
theorem Xac K(x:Go.IntKind) x_1 x_2:arith K Go.BinOp.quo x x_1 x_2=((0<=x_1/\0<x_2)/\numR K x (x_1 / x_2)):=propext Iff.rfl
theorem X6 K(x:Go.IntKind) x_1 x_2:arith K Go.BinOp.rem x x_1 x_2=((0<=x_1/\0<x_2)/\intR K x (x_1 % x_2)):=propext Iff.rfl
theorem Q4 K(x:Go.IntKind) x_1 x_2:arith K Go.BinOp.eql x x_1 x_2=boolR K (decide (x_1=x_2)):=propext Iff.rfl
theorem Jaa K(x:Go.IntKind) x_1 x_2:arith K Go.BinOp.neq x x_1 x_2=boolR K !decide (x_1=x_2):=propext Iff.rfl
theorem qO K(x:Go.IntKind) x_1 x_2:arith K Go.BinOp.lss x x_1 x_2=boolR K (decide (x_1<x_2)):=propext Iff.rfl
theorem VM K(x:Go.IntKind) x_1 x_2:arith K Go.BinOp.leq x x_1 x_2=boolR K (decide (x_1<=x_2)):=propext Iff.rfl
theorem jO K(x:Go.IntKind) x_1 x_2:arith K Go.BinOp.gtr x x_1 x_2=boolR K (decide (x_2<x_1)):=propext Iff.rfl
theorem VP K(x:Go.IntKind) x_1 x_2:arith K Go.BinOp.geq x x_1 x_2=boolR K (decide (x_2<=x_1)):=propext Iff.rfl
theorem Var K(k:Go.IntKind) a b:shlA K k a b=((k.signed=false/\0<=a/\0<=b/\b<=↑k.bits)/\numR K k (a*2 ^ b.toNat)):=propext Iff.rfl
theorem yap K(k:Go.IntKind) a b:shrA K k a b=((0<=a/\0<=b/\b<=↑k.bits)/\intR K k (a / 2 ^ b.toNat)):=propext Iff.rfl
theorem wax K b:nilR K (some b)=K b:=propext Iff.rfl
theorem Vas K:nilR K none=False:=propext Iff.rfl
theorem Xa1 K b:unA K Go.UnOp.not (AV.one (C.lit (Go.Value.bool b)))=boolR K !b:=propext Iff.rfl
theorem UaY K(k:Go.IntKind) a:unA K Go.UnOp.neg (AV.one (C.lit (Go.Value.int k a)))=numR K k (-a):=propext Iff.rfl
theorem qaa K(k k_1:Go.IntKind) n:convA K k (AV.one (C.lit (Go.Value.int k_1 n)))=numR K k n:=propext Iff.rfl
theorem XL K t(k:Go.IntKind) n:ifaceA K t (AV.one (C.lit (Go.Value.int k n)))=K (AV.one (C.lit (Go.Value.iface t (Go.Value.int k n)))):=propext Iff.rfl
theorem Jaw ev x:segA ev [] x=x []:=propext Iff.rfl
theorem Jan ev x cs r:segA ev (Seg.z cs::r) x=segA ev r λl=>x (cs++l):=propext Iff.rfl
theorem Qaw ev x n o r:segA ev (Seg.x n o::r) x=asCells (λcs=>cs.length=n/\segA ev r λl=>x (cs++l)) (ev o):=propext Iff.rfl
theorem jaa(K:C->Prop) c:asOne K (AV.one c)=K c:=propext Iff.rfl
theorem kay ev x:capA ev [] x=x []:=propext Iff.rfl
theorem Yar ev x o r:capA ev (o::r) x=asOne (λc=>capA ev r λl=>x (c::l)) (ev o):=propext Iff.rfl
theorem Qas ev z x:rowA ev z [] x=x []:=propext Iff.rfl
theorem Qaq ev z x sg r:rowA ev z (sg::r) x=segA ev sg λcs=>cs.length=z/\rowA ev z r λl=>x (cs::l):=propext Iff.rfl
theorem waY K c tail:hd1 K (c::tail)=K (AV.one c):=propext Iff.rfl
theorem UaM K:hd1 K []=False:=propext Iff.rfl
theorem VaQ K n x:ldK K n true x=(n<=x.length/\K (AV.agg (List.take n x))):=propext Iff.rfl
theorem xaX K n x:ldK K n false x=hd1 K x:=propext Iff.rfl
theorem jP x:baseIs none x=True:=propext Iff.rfl
theorem QO b r ver i off:baseIs (some b) (AV.one (C.ptr r ver i off))=(r=b):=propext Iff.rfl
theorem QM val cs:baseIs (some val) (AV.one (C.ref cs))=True:=propext Iff.rfl
theorem yaY K n g h cs:ldA K n g h (AV.one (C.ref cs))=ldK K n g cs:=propext Iff.rfl
theorem waX K n g h r ver i off:ldA K n g h (AV.one (C.ptr r ver i off))=blkA (λes x x_1=>getE (λe=>ldK K n g (List.drop off e)) es i) h r ver:=propext Iff.rfl
theorem QaW K n h x r ver i off:stA K n h x (AV.one (C.ptr r ver i off))=asCells (λxs=>blkA (λes z live=>(live=true/\xs.length=n)/\getE (λe=>off+n<=e.length/\K (upd h r { ver:=ver,blk:=some { es:=es.set i (splice e off n xs),z:=z,live:=live } })) es i) h r ver) x:=propext Iff.rfl
theorem VaB(K:Nat->Prop) ver:newB K { ver:=ver,blk:=none }=K (ver+1):=propext Iff.rfl
theorem Wat(K:Nat->Prop) ver val:newB K { ver:=ver,blk:=some val }=False:=propext Iff.rfl
theorem yaw K z i es:idxA K z i (AV.one (C.slice es))=asInt (λx i=>0<=i/\getE (λe=>e.length=z/\K (AV.one (C.ref e))) es i.toNat) i:=propext Iff.rfl
theorem uay K z i es:idxA K z i (AV.one (C.full es))=asInt (λx i=>0<=i/\getE (λe=>e.length=z/\K (AV.one (C.ref e))) es i.toNat) i:=propext Iff.rfl
theorem Uas K z i r ver z' off len:idxA K z i (AV.one (C.own r ver z' off len))=asInt (λx i=>(0<=i/\i < ↑len/\z=z')/\K (AV.one (C.ptr r ver (off+i.toNat) 0))) i:=propext Iff.rfl
theorem uan K dr es:lenA K dr (AV.one (C.slice es))=bndK dr es.length (intR K Go.IntKind.i64 ↑es.length):=propext Iff.rfl
theorem kau K dr es:lenA K dr (AV.one (C.full es))=bndK dr es.length (intR K Go.IntKind.i64 ↑es.length):=propext Iff.rfl
theorem Zas K dr:lenA K dr (AV.one C.emp)=intR K Go.IntKind.i64 0:=propext Iff.rfl
theorem Xaq K dr r ver z off len:lenA K dr (AV.one (C.own r ver z off len))=bndK dr len (intR K Go.IntKind.i64 ↑len):=propext Iff.rfl
theorem YaX(K:Nat->Prop) ev dflt:bnd K ev dflt none=K dflt:=propext Iff.rfl
theorem ZaZ(K:Nat->Prop) ev dflt a:bnd K ev dflt (some a)=asInt (λx i=>0<=i/\K i.toNat) (ev a):=propext Iff.rfl
theorem jaP K z ev lo hi es:slA K z ev lo hi (AV.one (C.slice es))=bnd (λh=>bnd (λl=>(l<=h/\h<=es.length/\∀(e:List C),e∈es->e.length=z)/\K (AV.one (C.slice (List.take (h-l) (List.drop l es))))) ev 0 lo) ev es.length hi:=propext Iff.rfl
theorem jaX K z ev lo hi es:slA K z ev lo hi (AV.one (C.full es))=bnd (λh=>bnd (λl=>(l<=h/\h<=es.length/\∀(e:List C),e∈es->e.length=z)/\K (AV.one (C.slice (List.take (h-l) (List.drop l es))))) ev 0 lo) ev es.length hi:=propext Iff.rfl
theorem kaZ K z ev lo hi r ver z' off len:slA K z ev lo hi (AV.one (C.own r ver z' off len))=bnd (λh=>bnd (λl=>(l<=h/\h<=len/\z=z')/\K (AV.one (C.own r ver z (off+l) (h-l)))) ev 0 lo) ev len hi:=propext Iff.rfl
theorem jaZ K z ev lo hi:slA K z ev lo hi (AV.one C.emp)=bnd (λh=>bnd (λl=>(l=0/\h=0)/\K (AV.one C.emp)) ev 0 lo) ev 0 hi:=propext Iff.rfl
theorem yL K h es:elemsA K h (AV.one (C.slice es))=K es:=propext Iff.rfl
theorem ZO K h es:elemsA K h (AV.one (C.full es))=K es:=propext Iff.rfl
theorem ZM K h:elemsA K h (AV.one C.emp)=K []:=propext Iff.rfl
theorem VL K h r ver z off len:elemsA K h (AV.one (C.own r ver z off len))=blkA (λes x x_1=>off+len<=es.length/\K (List.take len (List.drop off es))) h r ver:=propext Iff.rfl
theorem xat K z d s ys:appK K z d s ys (AV.one C.emp)=(ys.length<=roomA/\newA K s { es:=ys,z:=z,live:=true } (λd ver=>AV.one (C.own d ver z 0 ys.length)) d):=propext Iff.rfl
theorem Qan K z d s ys es:appK K z d s ys (AV.one (C.full es))=appF K z d s es ys:=propext Iff.rfl
theorem Uar K z h r ver z' off len zs:clrK K z h (AV.one (C.own r ver z' off len)) (AV.agg zs)=blkA (λes zb live=>(live=true/\z=z'/\z=zb/\zs.length=z/\off+len<=es.length)/\K (upd h r { ver:=ver,blk:=some { es:=List.take off es++(List.replicate len zs++List.drop (off+len) es),z:=z,live:=true } })) h r ver:=propext Iff.rfl
theorem qaB K z h ys r ver z' off len:cpyK K z h ys (AV.one (C.own r ver z' off len))=blkA (λes zb live=>(live=true/\z=z'/\z=zb/\ys.length<=len/\off+len<=es.length)/\K (upd h r { ver:=ver,blk:=some { es:=nrmR (List.take off es++(ys++List.drop (off+ys.length) es)),z:=z,live:=true } })) h r ver:=propext Iff.rfl
theorem zau K z d s es:appF K z d s es []=newA K s { es:=[],z:=z,live:=true } (λx x_1=>AV.one (C.full es)) d:=propext Iff.rfl
theorem vas K z d s es y ys:appF K z d s es (y::ys)=((es.length+(y::ys).length<=roomA/\∀(e:List C),e∈es->e.length=z)/\newA K s { es:=es++y::ys,z:=z,live:=true } (λd ver=>AV.one (C.own d ver z 0 (es.length+(y::ys).length))) d):=propext Iff.rfl
theorem Ya1 K z n i x:aiA K z n i x=asInt (λx_1 j=>(0<=j/\j < ↑n)/\faA K (j.toNat*z) x) i:=propext Iff.rfl
theorem Wao K z g n i x:aixA K z g n i x=asInt (λx_1 j=>(0<=j/\j < ↑n)/\fldA K z g (j.toNat*z) x) i:=propext Iff.rfl
theorem zar K z n cs:rslA K z n (AV.one (C.ref cs))=((cs.length=n*z/\n<=roomA)/\K (AV.one (C.full (chunk z n cs)))):=propext Iff.rfl
theorem vaC K z d s x y:appA K z d s x y=elemsA (λys=>(∀(e:List C),e∈ys->e.length=z)/\appK K z d s ys x) s.h y:=propext Iff.rfl
theorem ZY b d r ver z off len es:appIs b d (AV.one (C.own r ver z off len)) (AV.one (C.full es))=(r=b):=propext Iff.rfl
theorem xad b d es:appIs b d (AV.one C.emp) (AV.one (C.full es))=(d=some b):=propext Iff.rfl
theorem zX(K:Prop):isEmp K (AV.one C.emp)=K:=propext Iff.rfl
theorem xaq(pick:Int->Int->Int) ev K(x:Go.IntKind) x_1:maxK pick ev K [] x x_1=intR K x x_1:=propext Iff.rfl
theorem Uat(pick:Int->Int->Int) ev K(x:Go.IntKind) x_1 y r:maxK pick ev K (y::r) x x_1=asInt (λk' b=>x=k'/\maxK pick ev K r x (pick x_1 b)) (ev y):=propext Iff.rfl
theorem War(pick:Int->Int->Int) ev K:maxA pick ev K []=False:=propext Iff.rfl
theorem Zau(pick:Int->Int->Int) ev K x_1 r:maxA pick ev K (x_1::r)=asInt (λk a=>maxK pick ev K r k a) (ev x_1):=propext Iff.rfl
theorem kY K dr d args s(G:List AV->(AV->Prop)->Prop):callS K dr d args s (Spec.dat true G)=((dr=true->List.flatMap ownA args=[])/\G (List.map (datA s.h) args) λr=>isLit r/\K (s.put d r)):=propext Iff.rfl
theorem wZ K dr d args s(G:List AV->(AV->Prop)->Prop):callS K dr d args s (Spec.dat false G)=((dr=true->List.flatMap ownA args=[])/\G (List.map (datA s.h) args) λr=>K ((s.setH (frz (List.flatMap ownA args) s.h)).put d r)):=propext Iff.rfl
theorem YY K dr d args s(G:Option Nat->List AV->(Nat->HB)->(AV->(Nat->HB)->Prop)->Prop):callS K dr d args s (Spec.own G)=(dr=false/\G d args s.h λr h=>K ((s.setH h).put d r)):=propext Iff.rfl
theorem Wab K dr d args s z(G:List AV->(List (List C)->Prop)->Prop):callS K dr d args s (Spec.fresh z G)=False:=propext Iff.rfl
theorem Uaa K dr d args s(G:List AV->(AV->Prop)->Prop):callS K dr d args s (Spec.red G)=False:=propext Iff.rfl
theorem U1 K dr d args s:callS K dr d args s Spec.none=False:=propext Iff.rfl
theorem XM(K:Nat->List AV->Prop) args(f:Go.FuncId):callVA K args (AV.one (C.lit (Go.Value.func (Go.Fn.func f) { toList:=[] } { toList:=[] })))=K f args:=propext Iff.rfl
theorem yM(K:Nat->List AV->Prop) args(f:Go.FuncId) caps:callVA K args (AV.one (C.clo f caps))=K f (args++List.map AV.one caps):=propext Iff.rfl
theorem wa0 K off r ver i o:faA K off (AV.one (C.ptr r ver i o))=K (AV.one (C.ptr r ver i (o+off))):=propext Iff.rfl
theorem za8 K off cs:faA K off (AV.one (C.ref cs))=(off<=cs.length/\K (AV.one (C.ref (List.drop off cs)))):=propext Iff.rfl
theorem uM K r ver i o:nilckA K (AV.one (C.ptr r ver i o))=K (AV.one (C.ptr r ver i o)):=propext Iff.rfl
theorem yK K cs:nilckA K (AV.one (C.ref cs))=K (AV.one (C.ref cs)):=propext Iff.rfl
theorem Qar K n g off cs:fldA K n g off (AV.agg cs)=(off<=cs.length/\ldK K n g (List.drop off cs)):=propext Iff.rfl
theorem vaQ K K' s g want:grd K K' s g want (AV.tup [])=K' s:=propext Iff.rfl
theorem zM K Q x:Ex.seq K Q Ex.nrm x=K x:=propext Iff.rfl
theorem vL K Q x i:Ex.seq K Q (Ex.exit i) x=Q (Ex.exit i) x:=propext Iff.rfl
theorem jL K Q x:Ex.seq K Q Ex.ret x=Q Ex.ret x:=propext Iff.rfl
theorem YP id Q x i:Ex.blk id Q (Ex.exit i) x=if i=id then Q Ex.nrm x else Q (Ex.exit i) x:=propext Iff.rfl
theorem VN id Q x:Ex.blk id Q Ex.nrm x=Q Ex.nrm x:=propext Iff.rfl
theorem xM id Q x:Ex.blk id Q Ex.ret x=Q Ex.ret x:=propext Iff.rfl
theorem ka8:∀(x:Nat->HB),frz [] x=x:=by
 intros;exact eq_of_heq (HEq.refl _)
theorem kaN:∀(x:Nat->HB) (r:Nat) (l:List Nat),frz (r::l) x=frz l (upd x r (x r).dead):=by
 intros;exact eq_of_heq (HEq.refl _)
theorem JH:∀(a:AV),isConst (Opd.c a)=true:=by
 intros;exact eq_of_heq (HEq.refl _)
theorem xaB s(x:List AV->Prop):rawK s [] x=x []:=propext Iff.rfl
theorem zaz s(x:List AV->Prop) t(r:List RV):rawK s (RV.tmp t::r) x=rawK s r λl=>x (s.v t::l):=propext Iff.rfl
theorem Uaq s(x:List AV->Prop) t n g(r:List RV):rawK s (RV.cell t n g::r) x=ldA (λx_1=>rawK s r λl=>x (x_1::l)) n g s.h (s.v t):=propext Iff.rfl
theorem xar(rv:List RV) K x i:finQ rv K (Ex.exit i) x=False:=propext Iff.rfl
theorem UaD(rv:List RV) K x:finQ rv K Ex.nrm x=rawK x rv λl=>K (resOf (List.map (datA x.h) l)):=propext Iff.rfl
theorem jaD(rv:List RV) K x:finQ rv K Ex.ret x=rawK x rv λl=>K (resOf (List.map (datA x.h) l)):=propext Iff.rfl
theorem xau K(k:Go.IntKind) n:intR K k n=K (AV.one (C.lit (Go.Value.int k n))):=propext Iff.rfl
theorem Q6 K b:boolR K b=K (AV.one (C.lit (Go.Value.bool b))):=propext Iff.rfl
theorem zae(v:Go.Value):isLit (AV.one (C.lit v))=True:=propext Iff.rfl
theorem V4 K dr d args s z(G:List AV->(List (List C)->Prop)->Prop):callF K dr d args s (Spec.fresh z G)=((dr=true->List.flatMap ownA args=[])/\G (List.map (datE s.h) args) λes=>newA K (s.setH (frz (List.flatMap ownA args) s.h)) { es:=es,z:=z,live:=true } (λd ver=>AV.one (C.own d ver z 0 es.length)) d):=propext Iff.rfl
theorem W8 K h(G:List AV->(AV->Prop)->Prop) r ver rest:callR K (AV.one (C.ptr r ver 0 0)::rest) h (Spec.red G)=blkA (λes z live=>(es=[[C.lit Go.Value.nilIface]]/\z=1/\live=true)/\List.flatMap ownA rest=[]/\G (List.map (datA h) rest) K) h r ver:=propext Iff.rfl
theorem jac K neg:snilA K neg (AV.one C.emp)=snilK K neg True:=propext Iff.rfl
theorem yae K neg es:snilA K neg (AV.one (C.slice es))=snilK K neg (es=[]):=propext Iff.rfl
theorem Uab K neg es:snilA K neg (AV.one (C.full es))=snilK K neg (es=[]):=propext Iff.rfl
theorem WX K neg r ver z off len:snilA K neg (AV.one (C.own r ver z off len))=snilK K neg (len=0):=propext Iff.rfl
theorem V8 K neg(e:Prop):snilK K neg e=((e->boolR K !neg)/\boolR K neg):=propext Iff.rfl
theorem zat K:capZ K (AV.one C.emp)=intR K Go.IntKind.i64 0:=propext Iff.rfl
theorem JP z h K x_1:freshL z h K [x_1]=freshA z h K x_1:=propext Iff.rfl
theorem UN z h K:freshA z h K (AV.one C.emp)=K []:=propext Iff.rfl
theorem VO z h K r ver z' len:freshA z h K (AV.one (C.own r ver z' 0 len))=blkA (λes zb live=>(live=true/\z=z'/\z=zb/\len<=es.length/\CleanR (List.take len es))/\K (List.take len es)) h r ver:=propext Iff.rfl
theorem uao z(rv:List RV) K x i:finF z rv K (Ex.exit i) x=False:=propext Iff.rfl
theorem uaw z(rv:List RV) K x:finF z rv K Ex.nrm x=rawK x rv λl=>freshL z x.h K l:=propext Iff.rfl
theorem Jao z(rv:List RV) K x:finF z rv K Ex.ret x=rawK x rv λl=>freshL z x.h K l:=propext Iff.rfl
theorem jan(rv:List RV)(rs:List Nat) h(K:AV->(Nat->HB)->Prop) x i:finO rv rs h K (Ex.exit i) x=False:=propext Iff.rfl
theorem Vay(rv:List RV)(rs:List Nat) h(K:AV->(Nat->HB)->Prop) x:finO rv rs h K Ex.nrm x=rawK x rv λl=>outK h (frz (List.flatMap (outO rs) l) x.h) rs pinA λh'=>K (resOf (List.map (outA rs x.h) l)) h':=propext Iff.rfl
theorem QaA(rv:List RV)(rs:List Nat) h(K:AV->(Nat->HB)->Prop) x:finO rv rs h K Ex.ret x=rawK x rv λl=>outK h (frz (List.flatMap (outO rs) l) x.h) rs pinA λh'=>K (resOf (List.map (outA rs x.h) l)) h':=propext Iff.rfl
theorem ZaC h hc x x_1:outK h hc [] x x_1=x_1 h:=propext Iff.rfl
theorem Jar h hc x x_1 r(rs:List Nat):outK h hc (r::rs) x x_1=blkA (λes z live=>CleanR es/\outK h hc rs (x+1) λh'=>x_1 (upd h' r { ver:=(h r).ver,blk:=some { es:=es,z:=z,live:=live } })) hc x (h r).ver:=propext Iff.rfl
theorem qaD K z d s ys r ver z' len:appK K z d s ys (.one (.own r ver z' 0 len))=blkA (λes zb live=>(live=true/\z=z'/\z=zb/\len<=es.length/\len+ys.length<=roomA/\r<pinA)/\K (S.put ⟨s.v,upd s.h r ⟨ver+1,some ⟨es.take len++ys,z,true⟩⟩⟩ d (.one (.own r (ver+1) z 0 (len+ys.length))))) s.h r ver:=propext Iff.rfl
theorem QY K s b a d:newA K s b a (some d)=newB (λver=>K ⟨upd s.v d (a d ver),upd s.h d ⟨ver,some b⟩⟩) (s.h d):=propext Iff.rfl
theorem qas(e:List C)(off n:Nat)(xs:List C):splice e off n xs=e.take off++(xs++e.drop (off+n)):=eq_of_heq (HEq.refl _)
theorem Uav(r ver z off len:Nat):ownC (.own r ver z off len)=[r]:=eq_of_heq (HEq.refl _)
theorem kao(r ver i off:Nat):ownC (.ptr r ver i off)=[r]:=eq_of_heq (HEq.refl _)
theorem Yay(v:Value):ownC (.lit v)=[]:=eq_of_heq (HEq.refl _)
theorem xO(es:List (List C)):ownC (.slice es)=[]:=eq_of_heq (HEq.refl _)
theorem kaa(es:List (List C)):ownC (.full es)=[]:=eq_of_heq (HEq.refl _)
theorem zav(cs:List C):ownC (.ref cs)=[]:=eq_of_heq (HEq.refl _)
theorem Xaz:ownC .emp=[]:=eq_of_heq (HEq.refl _)
theorem Zan:ownC .any=[]:=eq_of_heq (HEq.refl _)
theorem kaD(c:C):ownA (.one c)=ownC c:=eq_of_heq (HEq.refl _)
theorem ZaD(l:List C):ownA (.agg l)=l.flatMap ownC:=eq_of_heq (HEq.refl _)
theorem JaE(h:Nat->HB)(c:C):datA h (.one c)=.one (datC h c):=eq_of_heq (HEq.refl _)
theorem yaC(h:Nat->HB)(l:List C):datA h (.agg l)=.agg (l.map (datC h)):=eq_of_heq (HEq.refl _)
theorem zay(h:Nat->HB):datA h .any=.any:=eq_of_heq (HEq.refl _)
theorem Wan(h:Nat->HB)(v:Value):datC h (.lit v)=.lit v:=eq_of_heq (HEq.refl _)
theorem yO(h:Nat->HB)(es:List (List C)):datC h (.slice es)=.slice es:=eq_of_heq (HEq.refl _)
theorem vab(h:Nat->HB)(es:List (List C)):datC h (.full es)=.slice es:=eq_of_heq (HEq.refl _)
theorem qav(h:Nat->HB)(cs:List C):datC h (.ref cs)=.ref cs:=eq_of_heq (HEq.refl _)
theorem jap(h:Nat->HB):datC h .emp=.slice []:=eq_of_heq (HEq.refl _)
theorem zao(h:Nat->HB):datC h .any=.any:=eq_of_heq (HEq.refl _)
theorem jat(h:Nat->HB)(f:FuncId)(l:List C):datC h (.clo f l)=.clo f (l.map (datB h)):=eq_of_heq (HEq.refl _)
noncomputable def datO:Option (List (List C))->C
 | some es=>@ite _ (CleanR es) (Classical.propDecidable _) (.slice es) .any
 | none=>.any
noncomputable def datQ(off i:Nat):Option Blk->C
 | some b=>match b.es[i]? with
  | some e=>@ite _ (off<=e.length/\CleanL (e.drop off)) (Classical.propDecidable _) (.ref (e.drop off)) .any
  | none=>.any
 | none=>.any
theorem XT(h:Nat->HB)(r ver z off len:Nat):datC h (.own r ver z off len)=datO (viewOf h r ver off len):=by
 simp only [datC,datB,datV,datO];split <;> rename_i e <;> rw [e]
theorem Zq(es:List (List C))(hc:CleanR es):datO (some es)=.slice es:=by simp [datO,hc]
theorem ZS(h:Nat->HB)(r ver i off:Nat):datC h (.ptr r ver i off)=datQ off i ((h r).at ver):=by
 show datP h r ver i off=_;unfold datP;cases (h r).at ver <;> rfl
theorem zaE(h:Nat->HB)(r ver i off:Nat):datB h (.ptr r ver i off)=datQ off i ((h r).at ver):=ZS h r ver i off
theorem wI(es:List (List C))(z:Nat)(live:Bool)(off:Nat)(e:List C)(r:List (List C))(hc:off<=e.length/\CleanL (e.drop off)):datQ off 0 (some ⟨e::r,z,live⟩)=.ref (e.drop off):=by simp [datQ,hc]
theorem jbk(l:List (Nat×HB))(r ver:Nat)(b:Option Blk):(mkH ((r,⟨ver,b⟩)::l) r).at ver=b:=by simp [mkH,find,HB.at]
theorem kaU(l:List (Nat×HB))(r k ver:Nat)(v:HB)(h:(r=k)=False):(mkH ((k,v)::l) r).at ver=(mkH l r).at ver:=by simp [mkH,find,h]
theorem UF(v:Value):Clean (.lit v)=True:=eq_true (.lit v)
theorem XJ:Clean .emp=True:=eq_true .emp
theorem wY:Clean .any=True:=eq_true .any
theorem UJ(es:List (List C)):Clean (.slice es)=CleanR es:=propext ⟨λh=>by cases h;assumption,.slice es⟩
theorem QP(es:List (List C)):Clean (.full es)=CleanR es:=propext ⟨λh=>by cases h;assumption,.full es⟩
theorem X4(cs:List C):Clean (.ref cs)=CleanL cs:=propext ⟨λh=>by cases h;assumption,.ref cs⟩
theorem ZN:CleanL []=True:=eq_true (by simp [CleanL])
theorem QI(c:C)(cs:List C):CleanL (c::cs)=(Clean c/\CleanL cs):=propext (by simp [CleanL])
theorem QC(a b:List C):CleanL (a++b)=(CleanL a/\CleanL b):=propext (by simp only [CleanL,List.mem_append];exact⟨λh=>⟨λc hc=>h c (.inl hc),λc hc=>h c (.inr hc)⟩,λh c hc=>hc.elim (h.1 c) (h.2 c)⟩)
theorem UL:CleanR []=True:=eq_true (by simp [CleanR])
theorem vJ(e:List C)(es:List (List C)):CleanR (e::es)=(CleanL e/\CleanR es):=propext (by simp [CleanR,CleanL])
theorem xz(a b:List (List C)):CleanR (a++b)=(CleanR a/\CleanR b):=propext (by simp only [CleanR,List.mem_append];exact⟨λh=>⟨λc hc=>h c (.inl hc),λc hc=>h c (.inr hc)⟩,λh c hc=>hc.elim (h.1 c) (h.2 c)⟩)
theorem QH(es:List (List C))(n:Nat)(h:CleanR es):CleanR (es.take n)=True:=eq_true λe he=>h e (List.mem_of_mem_take he)
theorem wJ(es:List (List C))(n:Nat)(h:CleanR es):CleanR (es.drop n)=True:=eq_true λe he=>h e (List.mem_of_mem_drop he)
theorem WP(e:List C)(n:Nat)(h:CleanL e):CleanR (List.replicate n e)=True:=eq_true λe' he=>by rw [List.mem_replicate]at he;rw [he.2];exact h
theorem YC{α:Type}(f:α->List C)(l:List α)(h:∀x,CleanL (f x)=True):CleanR (l.map f)=True:=eq_true λe he=>by obtain⟨x,_,rfl⟩:=List.mem_map.1 he;exact of_eq_true (h x)
theorem vaq(h:Nat->HB):datE h (.one .emp)=.one .emp:=eq_of_heq (HEq.refl _)
theorem qae(h:Nat->HB)(es:List (List C)):datE h (.one (.full es))=.one (.full es):=eq_of_heq (HEq.refl _)
theorem kax(h:Nat->HB)(v:Value):datE h (.one (.lit v))=.one (.lit v):=eq_of_heq (HEq.refl _)
theorem YO(h:Nat->HB)(es:List (List C)):datE h (.one (.slice es))=.one (.slice es):=eq_of_heq (HEq.refl _)
theorem wap(h:Nat->HB)(r ver z off len:Nat):datE h (.one (.own r ver z off len))=.one (datO (viewOf h r ver off len)):=by
 rw [<-XT];exact eq_of_heq (HEq.refl _)
theorem Yan(h:Nat->HB)(l:List C):datE h (.agg l)=.agg (l.map (datC h)):=eq_of_heq (HEq.refl _)
theorem xbm(r:Nat)(rs:List Nat):nameOf (r::rs) 1048576=some r:=eq_of_heq (HEq.refl _)
theorem jbg(r r1:Nat)(rs:List Nat):nameOf (r::r1::rs) 1048577=some r1:=eq_of_heq (HEq.refl _)
theorem Zbh(r r1 r2:Nat)(rs:List Nat):nameOf (r::r1::r2::rs) 1048578=some r2:=eq_of_heq (HEq.refl _)
theorem VaA(rs:List Nat)(h:Nat->HB)(v:Value):outA rs h (.one (.lit v))=.one (.lit v):=eq_of_heq (HEq.refl _)
theorem Waz(rs:List Nat)(h:Nat->HB)(l:List C):outA rs h (.agg l)=.agg (l.map (datC h)):=eq_of_heq (HEq.refl _)
theorem UO(rs:List Nat)(h:Nat->HB)(es:List (List C)):outA rs h (.one (.slice es))=.one (.slice es):=eq_of_heq (HEq.refl _)
theorem Was(rs:List Nat)(h:Nat->HB):outA rs h (.one .emp)=.one (.slice []):=eq_of_heq (HEq.refl _)
theorem WaD(rs:List Nat)(h:Nat->HB):outA rs h .any=.any:=eq_of_heq (HEq.refl _)
theorem Wax(rs:List Nat)(h:Nat->HB)(t ver z off len r:Nat)(e:nameOf rs t=some r):outA rs h (.one (.own t ver z off len))=.one (.own r ver z off len):=by simp [outA,e]
theorem XaB(rs:List Nat)(h:Nat->HB)(t ver i off r:Nat)(e:nameOf rs t=some r):outA rs h (.one (.ptr t ver i off))=.one (.ptr r ver i off):=by simp [outA,e]
theorem Xax(rs:List Nat)(v:Value):outO rs (.one (.lit v))=[]:=eq_of_heq (HEq.refl _)
theorem qap(rs:List Nat)(l:List C):outO rs (.agg l)=l.flatMap ownC:=eq_of_heq (HEq.refl _)
theorem wL(rs:List Nat)(es:List (List C)):outO rs (.one (.slice es))=[]:=eq_of_heq (HEq.refl _)
theorem Xar(rs:List Nat):outO rs (.one .emp)=[]:=eq_of_heq (HEq.refl _)
theorem kar(rs:List Nat):outO rs .any=[]:=eq_of_heq (HEq.refl _)
theorem Zat(rs:List Nat)(t ver z off len r:Nat)(e:nameOf rs t=some r):outO rs (.one (.own t ver z off len))=[]:=by simp [outO,e]
theorem kas(rs:List Nat)(t ver i off r:Nat)(e:nameOf rs t=some r):outO rs (.one (.ptr t ver i off))=[]:=by simp [outO,e]
theorem Y0(r:Nat)(rs:List Nat)(b:Blk)(bs:List Blk)(h:Nat->HB)(k:Nat):pinL (r::rs) (b::bs) h k=(k,⟨(h r).ver,some b⟩)::pinL rs bs h (k+1):=eq_of_heq (HEq.refl _)
theorem vaD(bs:List Blk)(h:Nat->HB)(k:Nat):pinL [] bs h k=[]:=eq_of_heq (HEq.refl _)
theorem YaT:pinA=1048576:=eq_of_heq (HEq.refl _)
theorem Yax(s:S):frzS [] s=s:=eq_of_heq (HEq.refl _)
theorem Uad(t:Nat)(ts:List Nat)(v:Nat->AV)(h:Nat->HB):frzS (t::ts) ⟨v,h⟩=frzS ts ⟨upd v t (datA h (v t)),frz (ownA (v t)) h⟩:=eq_of_heq (HEq.refl _)
theorem W0(ver z:Nat)(es:List (List C))(live:Bool):HB.dead ⟨ver,some ⟨es,z,live⟩⟩=⟨ver,some ⟨es,z,false⟩⟩:=eq_of_heq (HEq.refl _)
theorem VaC Γ dr d s K c x y:wpO Γ dr d s K (.pick c x y)=asBool (λb=>br b (K (s.put d (s.ev x))) (K (s.put d (s.ev y)))) (s.ev c):=propext Iff.rfl
theorem xaA Γ Q s c a b:wpA Γ (.cond c a b) Q s=asBool (λt=>br t (wpA Γ a Q s) (wpA Γ b Q s)) (s.ev c):=propext Iff.rfl
theorem kby(K K' : S->Prop)(s:S)(g:Nat)(want b:Bool):grd K K' s g want (.one (.lit (.bool b)))=br (b == want) (K ⟨upd s.v g (.one (.lit (.bool want))),s.h⟩) (K' ⟨upd s.v g (.one (.lit (.bool (!want)))),s.h⟩):=by
 cases b <;> cases want <;> simp [grd,br]
theorem Xbv(p q:Prop):br true p q=p:=by simp [br]
theorem jbb(p q:Prop):br false p q=q:=by simp [br]
theorem ybG(b:Bool)(p q:Prop):br (!b) p q=br b q p:=by cases b <;> simp [br]
theorem ZbG(c:Prop)[Decidable c](p q:Prop):br (decide c) p q=((c->p)/\(¬c->q)):=by simp [br]
theorem zbq b(p q:Prop):br b p q=((b=true->p)/\(b=false->q)):=propext Iff.rfl
theorem zbX(b:Bool):(b == true)=b:=by cases b <;> rfl
theorem wb0(b:Bool):(b == false) = !b:=by cases b <;> rfl
theorem UaU(n:Nat)(K:Prop):bndK false n K=(n<=maxLenA->K):=propext ⟨λh=>h.2,λh=>⟨λh=>Bool.noConfusion h,h⟩⟩
theorem wat(n:Nat)(K:Prop):bndK true n K=(n<=maxLenA/\K):=propext ⟨λh=>⟨h.1 rfl,h.2 (h.1 rfl)⟩,λh=>⟨λ_=>h.1,λ_=>h.2⟩⟩
theorem uaU(x:AV):resOf [x]=x:=eq_of_heq (HEq.refl _)
theorem UaQ:resOf []=.tup []:=eq_of_heq (HEq.refl _)
theorem jaW(x y:AV)(l:List AV):resOf (x::y::l)=.tup (x::y::l):=eq_of_heq (HEq.refl _)
theorem UaT(l:List AV):argS l=⟨mkV (argL 0 l),mkH []⟩:=eq_of_heq (HEq.refl _)
theorem yao(k:Nat):argL k []=[]:=eq_of_heq (HEq.refl _)
theorem J6(k:Nat)(a:AV)(r:List AV):argL k (a::r)=(k,a)::argL (k+1) r:=eq_of_heq (HEq.refl _)
theorem ybq(l:List (Nat×AV))(d:Nat)(x:AV):upd (mkV l) d x=mkV ((d,x)::l):=by
 funext t;simp [upd,mkV,find]
theorem Vbp(l:List (Nat×HB))(d:Nat)(x:HB):upd (mkH l) d x=mkH ((d,x)::l):=by
 funext t;simp [upd,mkH,find]
def keepV(l:List (Nat×AV)):List Nat->List (Nat×AV)
 | []=>[]
 | k::ks=>(k,mkV l k)::keepV l ks
theorem Qa2(l:List (Nat×AV))(keep:List Nat):restr keep (mkV l)=mkV (keepV l keep):=by
 funext t
 simp only [restr,mkV]
 induction keep with
 | nil=>rfl
 | cons k ks ih=>
  simp only [keepV,find,List.contains_cons];by_cases e:t=k
  .subst e;simp [mkV]
  .have:(t == k)=false:=by simpa using e
   rw [this,Bool.false_or,if_neg e];exact ih
theorem Zbk(Γ:Nat->Spec)(keep:List Nat)(a:AC)(Q:Ex->S->Prop)(l:List (Nat×AV))(h:Nat->HB):wpA Γ (.fg keep a) Q ⟨mkV l,h⟩=wpA Γ a Q ⟨mkV (keepV l keep),h⟩:=by
 rw [<-Qa2];exact propext Iff.rfl
theorem jaL(l:List (Nat×AV)):keepV l []=[]:=eq_of_heq (HEq.refl _)
theorem yaF(l:List (Nat×AV))(k:Nat)(ks:List Nat):keepV l (k::ks)=(k,mkV l k)::keepV l ks:=eq_of_heq (HEq.refl _)
theorem ko(k:Nat)(v:AV)(r:List (Nat×AV))(t:Nat):mkV ((k,v)::r) t=if t=k then v else mkV r t:=eq_of_heq (HEq.refl _)
theorem za(k:Nat)(v:HB)(r:List (Nat×HB))(t:Nat):mkH ((k,v)::r) t=if t=k then v else mkH r t:=eq_of_heq (HEq.refl _)
theorem WaJ(t:Nat):mkV [] t=.any:=eq_of_heq (HEq.refl _)
theorem YaJ(t:Nat):mkH [] t=⟨0,none⟩:=eq_of_heq (HEq.refl _)
theorem jbd(v:Nat->AV)(h:Nat->HB)(d:Nat)(x:AV):S.put ⟨v,h⟩ (some d) x=⟨upd v d x,h⟩:=eq_of_heq (HEq.refl _)
theorem Va9(s:S)(x:AV):S.put s none x=s:=eq_of_heq (HEq.refl _)
theorem kbr(v:Nat->AV)(h h' : Nat->HB):S.setH ⟨v,h⟩ h' = ⟨v,h'⟩:=eq_of_heq (HEq.refl _)
theorem ev_t(v:Nat->AV)(h:Nat->HB)(n:Nat):S.ev ⟨v,h⟩ (.t n)=v n:=eq_of_heq (HEq.refl _)
theorem ev_c(s:S)(a:AV):S.ev s (.c a)=a:=eq_of_heq (HEq.refl _)
theorem XW(K:List C->Prop)(e:List C)(r:List (List C)):getE K (e::r) 0=K e:=by simp [getE]
theorem Xaw(K:List (List C)->Nat->Bool->Prop)(l:List (Nat×HB))(r ver z:Nat)(es:List (List C))(live:Bool):blkA K (mkH ((r,⟨ver,some ⟨es,z,live⟩⟩)::l)) r ver=K es z live:=by simp [blkA,za,HB.at]
theorem Y8(K:List (List C)->Nat->Bool->Prop)(l:List (Nat×HB))(r k ver:Nat)(v:HB)(h:(r=k)=False):blkA K (mkH ((k,v)::l)) r ver=blkA K (mkH l) r ver:=by simp [blkA,za,h]
theorem ZaE(l:List (Nat×HB))(r ver z off len:Nat)(es:List (List C))(live:Bool):viewOf (mkH ((r,⟨ver,some ⟨es,z,live⟩⟩)::l)) r ver off len=if off+len<=es.length then some ((es.drop off).take len) else none:=by simp [viewOf,za,HB.at]
theorem J5(l:List (Nat×HB))(r k ver off len:Nat)(v:HB)(h:(r=k)=False):viewOf (mkH ((k,v)::l)) r ver off len=viewOf (mkH l) r ver off len:=by simp [viewOf,za,h]
theorem WaK(K:AV->Prop)(k:IntKind)(a b:Int):binA K .add (.one (.lit (.int k a))) (.one (.lit (.int k b)))=arith K .add k a b:=by simp [binA,binI]
theorem yaK(K:AV->Prop)(k:IntKind)(a b:Int):binA K .sub (.one (.lit (.int k a))) (.one (.lit (.int k b)))=arith K .sub k a b:=by simp [binA,binI]
theorem qaR(K:AV->Prop)(k:IntKind)(a b:Int):binA K .mul (.one (.lit (.int k a))) (.one (.lit (.int k b)))=arith K .mul k a b:=by simp [binA,binI]
theorem Za6(K:AV->Prop)(k:IntKind)(a b:Int):binA K .quo (.one (.lit (.int k a))) (.one (.lit (.int k b)))=arith K .quo k a b:=by simp [binA,binI]
theorem Ya4(K:AV->Prop)(k:IntKind)(a b:Int):binA K .rem (.one (.lit (.int k a))) (.one (.lit (.int k b)))=arith K .rem k a b:=by simp [binA,binI]
theorem Qa1(K:AV->Prop)(k:IntKind)(a b:Int):binA K .and (.one (.lit (.int k a))) (.one (.lit (.int k b)))=arith K .and k a b:=by simp [binA,binI]
theorem Ybh(K:AV->Prop)(k:IntKind)(a b:Int):binA K .or (.one (.lit (.int k a))) (.one (.lit (.int k b)))=arith K .or k a b:=by simp [binA,binI]
theorem UaR(K:AV->Prop)(k:IntKind)(a b:Int):binA K .eql (.one (.lit (.int k a))) (.one (.lit (.int k b)))=arith K .eql k a b:=by simp [binA,binI]
theorem xaK(K:AV->Prop)(k:IntKind)(a b:Int):binA K .neq (.one (.lit (.int k a))) (.one (.lit (.int k b)))=arith K .neq k a b:=by simp [binA,binI]
theorem YaP(K:AV->Prop)(k:IntKind)(a b:Int):binA K .lss (.one (.lit (.int k a))) (.one (.lit (.int k b)))=arith K .lss k a b:=by simp [binA,binI]
theorem Xa4(K:AV->Prop)(k:IntKind)(a b:Int):binA K .leq (.one (.lit (.int k a))) (.one (.lit (.int k b)))=arith K .leq k a b:=by simp [binA,binI]
theorem uaJ(K:AV->Prop)(k:IntKind)(a b:Int):binA K .gtr (.one (.lit (.int k a))) (.one (.lit (.int k b)))=arith K .gtr k a b:=by simp [binA,binI]
theorem va7(K:AV->Prop)(k:IntKind)(a b:Int):binA K .geq (.one (.lit (.int k a))) (.one (.lit (.int k b)))=arith K .geq k a b:=by simp [binA,binI]
theorem xa1 K k k' a b:binA K .shl (.one (.lit (.int k a))) (.one (.lit (.int k' b)))=shlA K k a b:=propext Iff.rfl
theorem VaO K k k' a b:binA K .shr (.one (.lit (.int k a))) (.one (.lit (.int k' b)))=shrA K k a b:=propext Iff.rfl
theorem yaJ K a b:binbA K .eql (.one (.lit (.bool a))) (.one (.lit (.bool b)))=boolR K (a == b):=propext Iff.rfl
theorem Wa2 K a b:binbA K .neq (.one (.lit (.bool a))) (.one (.lit (.bool b)))=boolR K (!(a == b)):=propext Iff.rfl
theorem Xa0 K(a:Value):binnA K .eql true (.one (.lit a)) (.one (.lit .nilIface))=nilR (λb=>boolR K b) (isNilV a):=propext Iff.rfl
theorem jas K(a:Value):binnA K .neq true (.one (.lit a)) (.one (.lit .nilIface))=nilR (λb=>boolR K (!b)) (isNilV a):=propext Iff.rfl
theorem W5:isNilV .nilIface=some true:=eq_of_heq (HEq.refl _)
theorem jJ(t:TypeId)(v:Value):isNilV (.iface t v)=some false:=eq_of_heq (HEq.refl _)
theorem VbE(K:AV->Prop)(a:AV)(r:List AV):extA K 0 (.tup (a::r))=K a:=by simp [extA]
theorem ybz(K:AV->Prop)(a b:AV)(r:List AV):extA K 1 (.tup (a::b::r))=K b:=by simp [extA]
theorem vbB(K:AV->Prop)(a b c:AV)(r:List AV):extA K 2 (.tup (a::b::c::r))=K c:=by simp [extA]
theorem UbC(K:AV->Prop)(a b c d:AV)(r:List AV):extA K 3 (.tup (a::b::c::d::r))=K d:=by simp [extA]
theorem jbG(K:AV->Prop)(b:ByteArray)(k k' : IntKind)(l h:Int):sopA K 0 [.one (.lit (.string b)),.one (.lit (.int k l)),.one (.lit (.int k' h))]=((0<=l/\l<=h/\h<=(b.size:Int))/\K (.one (.lit (.string (b.extract l.toNat h.toNat))))):=by
 by_cases hb:0<=l/\l<=h/\h<=(b.size:Int)
 .simp [sopA,litV,sopV,hb]
 .simp [sopA,litV,sopV,hb]
theorem YbF(K:AV->Prop)(a b:ByteArray):sopA K 1 [.one (.lit (.string a)),.one (.lit (.string b))]=K (.one (.lit (.bool (a.toList == b.toList)))):=by simp [sopA,litV,sopV]
theorem UbK(K:AV->Prop)(a b:ByteArray):sopA K 2 [.one (.lit (.string a)),.one (.lit (.string b))]=(a.size+b.size<=1000000/\K (.one (.lit (.string (a++b))))):=by
 by_cases hb:a.size+b.size<=1000000
 .simp [sopA,litV,sopV,hb]
 .simp [sopA,litV,sopV,hb]
theorem VaU(z:Nat)(cs:List C):chunk z 3 cs=[cs.take z,(cs.drop z).take z,((cs.drop z).drop z).take z]:=eq_of_heq (HEq.refl _)
theorem ybE(K:AV->Prop)(a b c d e:AV)(r:List AV):extA K 4 (.tup (a::b::c::d::e::r))=K e:=by simp [extA]
theorem zL K t t' zero(u:Value):tassA K t zero (.one (.lit (.iface t' u)))=((t' = t->isCell u=true/\K (.tup [.one (.lit u),.one (.lit (.bool true))]))/\(t'≠t->K (.tup [zero,.one (.lit (.bool false))]))):=propext Iff.rfl
theorem waq K t zero:tassA K t zero (.one (.lit .nilIface))=K (.tup [zero,.one (.lit (.bool false))]):=propext Iff.rfl
theorem QL(k:IntKind)(n:Int):isCell (.int k n)=true:=eq_of_heq (HEq.refl _)
attribute [go_sem] ybq Vbp jaL yaF ko za WaJ YaJ jbd Va9 kbr ev_t ev_c
attribute [go_sem,go_sem ↓] Za2 UaV Ua1 qaZ ZaW Va8 van qa6 ja8 kaJ xaV qa0 vaO VaN YaN qaP qa7 zaO JaQ zaD jaB qaw yax Vav kan wan Xav jar yaq kaq Jap Uay waD XaC Yas Vat qaE vat UaB Zax uav yav Qax zap Qay YaC Yaw zaq vau Xay waz vay Uax yaz qar qaC Y5 YL uG YF vap ZaA Yav jaE Z2 xac U4 Xac X6 Q4 Jaa qO VM jO VP Var yap wax Vas Xa1 UaY qaa XL Jaw Jan Qaw jaa kay Yar Qas Qaq waY UaM VaQ xaX jP QO QM yaY waX QaW VaB Wat yaw uay Uas uan kau Zas Xaq YaX ZaZ jaP jaX kaZ jaZ yL ZO ZM VL xat Qan Uar qaB zau vas Ya1 Wao zar vaC ZY xad zX xaq Uat War Zau kY wZ YY Wab Uaa U1 XM yM wa0 za8 uM yK Qar vaQ zM vL jL YP VN xM ka8 kaN JH xaB zaz Uaq xar UaD jaD xau Q6 zae V4 W8 jac yae Uab WX V8 zat JP UN VO uao uaw Jao jan Vay QaA ZaC Jar qaD QY qas Uav kao Yay xO kaa zav Xaz Zan kaD ZaD JaE yaC zay Wan yO vab qav jap zao jat XT Zq ZS zaE wI jbk kaU UF XJ wY UJ QP X4 ZN QI QC UL vJ xz QH wJ WP YC vaq qae kax YO wap Yan xbm jbg Zbh VaA Waz UO Was WaD Wax XaB Xax qap wL Xar kar Zat kas Y0 vaD YaT Yax Uad W0 VaC xaA kby UaU wat uaU UaQ jaW UaT yao J6 Zbk XW Xaw Y8 ZaE J5 WaK yaK qaR Za6 Ya4 Qa1 Ybh UaR xaK YaP Xa4 uaJ va7 xa1 VaO yaJ Wa2 Xa0 jas W5 jJ VbE ybz vbB UbC jbG YbF UbK VaU ybE zL waq QL
attribute [go_sem] Xbv jbb ybG ZbG zbX wb0
attribute [go_sem low] zbq
end Go.Abs
end
section
namespace Go.Abs
theorem ja{Γ:Nat->Spec}{body:AC}{Q:Ex->S->Prop}{s:S}{α:Type}(St:α->S)(Inv:α->Prop)(μ:α->Nat)(a0:α)(h0:Weak s (St a0))(hi:Inv a0)
  (hr:∀x,Inv x->wpA Γ body (Ex.seq (λs'=>∃y,Weak s' (St y)/\Inv y/\μ y<μ x) Q) (St x)) {t:Tok (Γ,body,Q)}:LoopAt Γ body Q s t:=
 ⟨α,St,Inv,μ,a0,h0,hi,hr⟩
def okC(h h' : Nat->HB):C->C->Prop
 | _,.any=>True
 | .lit v,.lit v'=>v=v'
 | .slice e,.slice e'=>e=e'
 | .full e,.full e'=>e=e'
 | .emp,.emp=>True
 | .emp,.slice es=>es=[]
 | .full e,.slice e'=>e=e'
 | .ref e,.ref e'=>e=e'
 | .clo f l,.clo f' l'=>(f=f'/\l=l')/\CleanL l
 | .own r ver z off len,.own r' ver' z' off' len'=>(r=r'/\z=z'/\off=off'/\len=len')/\ver=(h r).ver/\ver' = (h' r).ver/\(h' r).blk≠none
 | .ptr r ver i off,.ptr r' ver' i' off'=>(r=r'/\i=i'/\off=off')/\ver=(h r).ver/\ver' = (h' r).ver/\(h' r).blk≠none
 | _,_=>False
def okL(h h' : Nat->HB):List C->List C->Prop
 | [],[]=>True
 | c::l,c'::l'=>okC h h' c c'/\okL h h' l l'
 | _,_=>False
def okV(h h' : Nat->HB):AV->AV->Prop
 | _,.any=>True
 | .one c,.one c'=>okC h h' c c'
 | .agg l,.agg l'=>(l=l'/\∀c∈l,Clean c)∨okL h h' l l'
 | _,_=>False
theorem JQ{h h' : Nat->HB}{c:C}{ρ:Nat->Nat}(x:Clean c):WC ρ h h' c c:=by
 induction x with
 | lit v=>exact .lit v
 | emp=>exact .emp
 | any=>exact .any _
 | slice es=>exact .slice es
 | full es=>exact .full es
 | ref cs=>exact .ref cs
 | clo f cs _ ih=>exact .clo f cs cs rfl (λi c c' hc hc'=>by rw [hc]at hc';cases hc';exact ih c (List.mem_of_getElem? hc))
theorem Ybi{h h' : Nat->HB}{c c' : C}(x:okC h h' c c'):WC id h h' c c':=by
 unfold okC at x;split at x
 .exact .any _
 .subst x;exact .lit _
 .subst x;exact .slice _
 .subst x;exact .full _
 .exact .emp
 .subst x;exact .es
 .subst x;exact .fs _
 .subst x;exact .ref _
 .obtain⟨⟨rfl,rfl⟩,hc⟩:=x;exact JQ (.clo _ _ hc)
 .obtain⟨⟨rfl,rfl,rfl,rfl⟩,rfl,rfl,hne⟩:=x;exact .own _ _ _ _ hne
 .obtain⟨⟨rfl,rfl,rfl⟩,rfl,rfl,hne⟩:=x;exact .ptr _ _ _ hne
 .exact x.elim
theorem VaD{h h' : Nat->HB}:∀{l l' : List C},okL h h' l l'->l.length=l'.length/\∀(i:Nat) c c',l[i]?=some c->l'[i]?=some c'->WC id h h' c c'
 | [],[],_=>⟨rfl,λi c c' h=>by simp at h⟩
 | [],_::_,x=>x.elim
 | _::_,[],x=>x.elim
 | c::l,c'::l',x=>by
  obtain⟨h1,h2⟩:=VaD x.2;refine⟨by simp [h1],λi a a' ha ha'=>?_⟩
  cases i with
  | zero=>simp at ha ha';subst ha ha';exact Ybi x.1
  | succ i=>simp only [List.getElem?_cons_succ]at ha ha';exact h2 i a a' ha ha'
theorem wbD{h h' : Nat->HB}{a a' : AV}(x:okV h h' a a'):WA id h h' a a':=by
 unfold okV at x;split at x
 .exact .any _
 .exact .one _ _ (Ybi x)
 .rcases x with⟨rfl,hc⟩ | x
  .exact .agg _ _ rfl (λi c c' hc1 hc2=>by rw [hc1]at hc2;cases hc2;exact JQ (hc c (List.mem_of_getElem? hc1)))
  .exact .agg _ _ (VaD x).1 (VaD x).2
 .exact x.elim
def okS(h h' : Nat->HB)(v:Nat->AV):List (Nat×AV)->Prop
 | []=>True
 | (k,a)::r=>okV h h' (v k) a/\okS h h' v r
def okE(h h' : Nat->HB):List (List C)->List (List C)->Prop
 | [],[]=>True
 | e::l,e'::l'=>okL h h' e e'/\okE h h' l l'
 | _,_=>False
def okB(h h' : Nat->HB):Option Blk->Option Blk->Prop
 | _,none=>True
 | some b,some b'=>(b'.z=b.z/\b'.live=b.live)/\((b.es=b'.es/\CleanR b.es)∨okE h h' b.es b'.es)
 | none,some _=>False
def okH(h h' : Nat->HB):List (Nat×HB)->Prop
 | []=>True
 | (k,b)::r=>okB h h' (h k).blk b.blk/\okH h h' r
theorem Ubl{h h' : Nat->HB}:∀{l l' : List (List C)},okE h h' l l'->l.length=l'.length/\∀(i:Nat) e e',l[i]?=some e->l'[i]?=some e'->okL h h' e e'
 | [],[],_=>⟨rfl,λi c c' h=>by simp at h⟩
 | [],_::_,x=>x.elim
 | _::_,[],x=>x.elim
 | c::l,c'::l',x=>by
  obtain⟨h1,h2⟩:=Ubl x.2;refine⟨by simp [h1],λi a a' ha ha'=>?_⟩
  cases i with
  | zero=>simp at ha ha';subst ha ha';exact x.1
  | succ i=>simp only [List.getElem?_cons_succ]at ha ha';exact h2 i a a' ha ha'
theorem zbs{l:List (Nat×AV)}{t:Nat}:mkV l t=.any∨(t,mkV l t)∈l:=by
 unfold mkV
 induction l with
 | nil=>exact .inl rfl
 | cons x l ih=>
  obtain⟨k,a⟩:=x;simp only [find];by_cases e:t=k
  .subst e;simp
  .rw [if_neg e];rcases ih with h | h
   .exact .inl h
   .exact .inr (List.mem_cons_of_mem _ h)
theorem Zbw{l:List (Nat×HB)}{t:Nat}:(mkH l t).blk=none∨(t,mkH l t)∈l:=by
 unfold mkH
 induction l with
 | nil=>exact .inl rfl
 | cons x l ih=>
  obtain⟨k,a⟩:=x;simp only [find];by_cases e:t=k
  .subst e;simp
  .rw [if_neg e];rcases ih with h | h
   .exact .inl h
   .exact .inr (List.mem_cons_of_mem _ h)
theorem jaU{h h' : Nat->HB}{v:Nat->AV}:∀{l:List (Nat×AV)},okS h h' v l->∀x∈l,okV h h' (v x.1) x.2
 | (k,a)::r,x,y,hy=>by
  rcases List.mem_cons.1 hy with rfl | hy
  .exact x.1
  .exact jaU x.2 y hy
theorem ZaK{h h' : Nat->HB}:∀{l:List (Nat×HB)},okH h h' l->∀x∈l,okB h h' (h x.1).blk x.2.blk
 | (k,a)::r,x,y,hy=>by
  rcases List.mem_cons.1 hy with rfl | hy
  .exact x.1
  .exact ZaK x.2 y hy
theorem W7{v:Nat->AV}{h:Nat->HB}{l:List (Nat×AV)}{k:List (Nat×HB)}(h1:okS h (mkH k) v l)(h2:okH h (mkH k) k):WeakR id ⟨v,h⟩ ⟨mkV l,mkH k⟩:=by
 refine⟨λt=>?_,λr=>?_,λ_ _ h=>h,λ_ _=>rfl⟩
 .show WA id h (mkH k) (v t) (mkV l t);rcases zbs (l:=l) (t:=t) with e | e
  .rw [e];exact .any _
  .exact wbD (jaU h1 _ e)
 .show WB id h (mkH k) r;rcases Zbw (l:=k) (t:=r) with e | e
  .exact .inl e
  .have:=ZaK h2 _ e;simp only at this;unfold okB at this;split at this
   .rename_i e2;exact .inl e2
   .rename_i b b' e1 e2;right;obtain⟨⟨hz,hl⟩,hc⟩:=this;refine⟨b,b',e1,e2,hz,hl,?_⟩;rcases hc with⟨he,hc⟩ | hc
    .rw [<-he];refine⟨rfl,λi e e' h1 h2=>?_⟩;rw [h1]at h2;cases h2
     refine⟨rfl,λj c c' g1 g2=>?_⟩;rw [g1]at g2;cases g2
     exact JQ (hc e (List.mem_of_getElem? h1) c (List.mem_of_getElem? g1))
    .obtain⟨g1,g2⟩:=Ubl hc;exact⟨g1,λi e e' h1 h2=>let y:=VaD (g2 i e e' h1 h2);⟨y.1,y.2⟩⟩
   .exact this.elim
theorem qa{v:Nat->AV}{h:Nat->HB}{l:List (Nat×AV)}{k:List (Nat×HB)}(h1:okS h (mkH k) v l)(h2:okH h (mkH k) k):Weak ⟨v,h⟩ ⟨mkV l,mkH k⟩:=⟨id,W7 h1 h2⟩
end Go.Abs
end
section
namespace Go.Abs
variable {P:Program} {Γ:Nat->Spec}
theorem qD{args:List AV}{vals:List Value}{n:Nat}{m:M}{I:Nat->Prop}{H:Array Obj}(hargs:RAs m I H args vals)(t:Nat) :
  RA m I H (mkV (argL 0 args) t) (((⟨vals⟩:Array Value)++Array.replicate n undef).getD t undef):=by
 rw [YS,if_pos (Nat.zero_le _),Nat.sub_zero];cases ha:args[t]? with
 | none=>exact .any _
 | some a=>
  have hlt:t<vals.length:=by rw [<-hargs.1];exact(List.getElem?_eq_some_iff.1 ha).1
  have hv:vals[t]?=some vals[t]:=List.getElem?_eq_getElem hlt;have:((⟨vals⟩:Array Value)++Array.replicate n undef).getD t undef=vals[t]:=by
   rw [Array.getD_eq_getD_getElem?,Array.getElem?_append_left (by simpa using hlt)]
   simp [hlt]
  simp only [this];exact hargs.2 t a _ ha hv
theorem Yy{E:Env}{s:S}{a:Act}{w:World}{m:M}{I:Nat->Prop}(h:Sim E s a w m I){fn:Func}{rv:List RV}(hrv:cRes P fn=some rv){K:List AV->Prop}(hk:rawK s rv K) :
  ∃xs vs:List _,(results fn a.tmps).run P w=.ok (if h:(⟨vs⟩:Array Value).size=1 then (⟨vs⟩:Array Value)[0] else .tuple ⟨vs⟩) w/\RAs m I w.heap xs vs/\K xs:=by
 obtain⟨xs,vs,hrun,hra,hk⟩:=JR (P:=P) h _ _ hrv hk;refine⟨xs,vs,?_,hra,hk⟩;unfold results;have harr:fn.results=fn.results.toList.toArray:=by simp
 rw [harr,List.mapM_toArray];simp only [Sem.run_bind,Sem.run_map];rw [hrun]
 .simp only [Result.andThen_ok,Sem.run_pure]
 .intro t;rfl
 .intro x t;rfl
theorem fsound{f:FuncId}{fn:Func}{c:Code}{ac:AC}{rv:List RV}{n z:Nat}{G:List AV->(List (List C)->Prop)->Prop}(hf:P.funcs[f]?=some fn)(hb:fn.body=some c)(hn:fn.ntmps=n)(hc:compile P n c=some ac.strip)(hrv:cRes P fn=some rv)(hΓ:Holds P Γ)(hpin:n<=pinA)
    (h:∀args K,(∀a∈args,CleanV a)->(∀a∈args,FineA a)->G args K->args.length<=n/\wpA Γ ac (finF z rv K) (argS args)):FSound P f z G:=by
  intro args vals w I K himb hargs hclean hG;have hfine:∀a∈args,FineA a:=by
    intro a ha;obtain⟨i,hi⟩:=List.getElem?_of_mem ha;have hlt:i<vals.length:=by rw [<-hargs.1];exact(List.getElem?_eq_some_iff.1 hi).1
    exact(hargs.2 i a _ hi (List.getElem?_eq_getElem hlt)).fine
  obtain⟨hlen,hwp⟩:=h args K hclean hfine hG;refine calls_of_wp hf hb ?_;have hsim:Sim ⟨w,I,λ_=>False,n,λ_=>none⟩ (argS args) { tmps:=(⟨vals⟩:Array Value)++Array.replicate (fn.ntmps-(⟨vals⟩:Array Value).size) undef,defers:=[] } w M0 I:=by
    refine⟨rfl,?_,λt=>qD hargs t,{
      ver:=λr=>rfl,blk:=λr b hb=>by simp [argS,mkH,find]at hb,inj:=λr r' k z z' h=>by simp [M0]at h,lt:=λr k z h=>by simp [M0]at h,
      imb:=himb,grow:=Nat.le_refl _,keep:=λb hb _=>rfl,imm:=λb hb=>.inl hb,sup:=λb hb=>hb,i0:=λb hb=>⟨himb b hb,λh=>h⟩,
      liv:=λr b k z hb=>by simp [argS,mkH,find]at hb,np:=hpin,fx:=λr b _ hb=>by simp [argS,mkH,find]at hb,os:=rfl,tape:=rfl,out:=rfl }⟩
    . have hlv:=hargs.1
      simp [hn];omega
  have fin:∀s' a' w' m' I',(rawK s' rv λl=>freshL z s'.h K l)->Sim ⟨w,I,λ_=>False,n,λ_=>none⟩ s' a' w' m' I'->a'.defers=[]/\∃v,(results fn a'.tmps).run P w' = .ok v w'/\∃A cap es I',Ending.returned v=.returned (.slice A es.length cap)/\K es/\CleanR es/\NewRow w w' I' z es A cap/\Ret w I w' I':=by
    intro s' a' w' m' I' hk hs;obtain⟨xs,vs,hres,hra,hk⟩:=Yy hs hrv hk;refine⟨hs.dfr,_,hres,?_⟩;have ret:Ret w I w' I':=⟨hs.heap.grow,λb hb=>hs.heap.keep b hb (λh=>h),λb hb=>hs.heap.sup b hb,λb hb=>by
        rcases hs.heap.imm b hb with h | h | h
        . exact .inl h
        . exact .inr h
        . exact h.elim,hs.heap.imb,hs.heap.os,hs.heap.tape,hs.heap.out⟩
    obtain⟨hl,hra⟩:=hra;match xs,vs,hl,hra,hk with
    | [x],[v],hl1,hra,hk=>
      clear hl1;have hx:=hra 0 x v rfl rfl;simp only [freshL]at hk;unfold freshA at hk;split at hk
      . have:=hx.one_inv
        cases this with
        | emp A=>exact⟨A,0,[],I',rfl,hk,λe he=>by simp at he,⟨Nat.le_refl _,Nat.zero_le _,λ_=>rfl,λe he=>by simp at he,.inl rfl⟩,ret⟩
      . rename_i r ver z' len
        obtain⟨b,e1,e2,⟨hlive,hz,hzb,hle,hcl⟩,hkk⟩:=Xo hk;subst hz;obtain⟨A,cap,rfl,g1,g2,g3,g4,g5,g6⟩:=zx hx.one_inv;have hcur:ver=m'.ver r:=by rw [hs.heap.ver,e1]
        have hrb:=hs.heap.blk r b e2;have htl:(b.es.take len).length=len:=by simp;omega
        refine⟨A,cap,b.es.take len,I',by rw [htl];simp,hkk,hcl,⟨by omega,by omega,λh=>by rw [htl];exact g5 h,λe he=>by rw [hzb];exact hrb.sz e (List.mem_of_mem_take he),?_⟩,ret⟩
        cases hm:m'.blk r with
        | none=>exact .inl (g4 hcur hm)
        | some kz=>
          obtain⟨k,z1⟩:=kz;obtain⟨hz1,hnI,_,arr,ty,hh,hc⟩:=hrb.real k z1 hm;obtain⟨hz2,hcap | ⟨hA,hbs⟩⟩:=g3 hcur k z1 hm
          . exact .inl hcap
          . refine .inr ⟨k,arr,ty,by simpa using hA,?_,hnI hlive,hh,by simpa [bsize,hh] using hbs,λi j e c he hc'=>?_⟩
            . rcases hs.heap.liv r b k z1 e2 hm with h | h
              . exact h
              . exact h.elim
            . have hi:i<len:=by have:=(List.getElem?_eq_some_iff.1 he).1;omega
              have hmem:=List.mem_of_getElem? he;rw [List.getElem?_take_of_lt hi]at he;obtain⟨v,q1,q2⟩:=hc i j e c he hc';rw [hz2]at q1;exact⟨v,q1,q2.any_map (hcl e hmem c (List.mem_of_getElem? hc')) M0⟩
      . exact hk.elim
    | [],_,_,_,hk=>exact hk.elim
    | x::y::l,_,_,_,hk=>exact hk.elim
    | [x],[],hl,_,_=>simp at hl
    | [x],v::u::vs,hl,_,_=>simp at hl
  refine qQ (E:=⟨w,I,λ_=>False,n,λ_=>none⟩) hΓ ac c hc hsim hwp (λe s' a' w' m' I' hq hs=>?_);cases e with
  | nrm=>exact fin s' a' w' m' I' hq hs
  | ret=>exact fin s' a' w' m' I' hq hs
  | exit i=>exact hq.elim
theorem zl{f:FuncId}{n z:Nat}{ac:AC}{rv:List RV}{G:List AV->(List (List C)->Prop)->Prop}(hc:check P f=some (n,ac.strip,rv))(hg:Good G)(hΓ:Holds P Γ)
  (h:∀args K,(∀a∈args,CleanV a)->(∀a∈args,FineA a)->G args K->args.length<=n/\wpA Γ ac (finF z rv K) (argS args)):Sound P f (.fresh z G):=by
 obtain⟨fn,c,h1,h2,h3,h4,h5,h6,h7⟩:=Zu hc;exact⟨Xq h1 h2 (by rw [h3];rfl),hg,fsound h1 h3 h4 h5 h6 hΓ h7 h⟩
theorem WF{rs:List Nat}{t r:Nat}(h:nameOf rs t=some r):pinA<=t/\rs[t-pinA]?=some r:=by
 unfold nameOf at h;split at h
 .exact⟨‹_›,h⟩
 .simp at h
section ren
variable {m m' : M} {I:Nat->Prop} {H:Array Obj}
theorem jaV{r t ver z off len:Nat}{v:Value}(hv:m.ver r=m'.ver t)(hb:m.blk r=m'.blk t)(h:RC m I H (.own r ver z off len) v):RC m' I H (.own t ver z off len) v:=by
 cases h with
 | own _ _ _ _ _ cap A h1 h2 h3 h4 h5 h6=>exact .own t ver z off len cap A (by omega) h2 (λe b z' hb'=>h3 (by omega) b z' (by rw [hb];exact hb')) (λe hb'=>h4 (by omega) (by rw [hb];exact hb')) h5 h6
theorem VaR{r t ver i off:Nat}{v:Value}(hv:m.ver r=m'.ver t)(hb:m.blk r=m'.blk t)(h:RC m I H (.ptr r ver i off) v):RC m' I H (.ptr t ver i off) v:=by
 cases h with
 | ptr _ _ _ _ A h1 h2=>exact .ptr t ver i off A (by omega) (λe b z hb'=>h2 (by omega) b z (by rw [hb];exact hb'))
variable {rs:List Nat} (hren:∀(i r:Nat),rs[i]?=some r->m.ver r=m'.ver (pinA+i)/\m.blk r=m'.blk (pinA+i))
include hren
theorem yE{t r:Nat}(h:nameOf rs t=some r):m.ver r=m'.ver t/\m.blk r=m'.blk t:=by
 obtain⟨h1,h2⟩:=WF h;have:=hren _ _ h2
 rwa [show pinA+(t-pinA)=t by omega]at this
theorem Jbr{c:C}{v:Value}(hp:pasB rs c)(h:RC m I H (exB rs c) v):RC m' I H c v:=by
 cases c with
 | own t ver z off len=>
  simp only [pasB]at hp;cases hn:nameOf rs t with
  | none=>exact(hp hn).elim
  | some r=>simp only [exB,hn]at h;exact jaV (yE hren hn).1 (yE hren hn).2 h
 | ptr t ver i off=>
  simp only [pasB]at hp;cases hn:nameOf rs t with
  | none=>exact(hp hn).elim
  | some r=>simp only [exB,hn]at h;exact VaR (yE hren hn).1 (yE hren hn).2 h
 | _=>exact h.any_map hp m'
theorem Jb0{c:C}{v:Value}(hp:pasC rs c)(h:RC m I H (exC rs c) v):RC m' I H c v:=by
 cases c with
 | clo f caps=>
  simp only [exC]at h;cases h with
  | clo _ _ cv hlen hcells=>
   refine .clo f caps cv (by simpa using hlen) (λi c u hc hu=>Jbr hren (hp c (List.mem_of_getElem? hc)) (hcells i _ u (by simp [hc]) hu))
 | _=>exact Jbr hren hp h
theorem wbG{a:AV}{v:Value}(hp:pasA rs a)(h:RA m I H (exA rs a) v):RA m' I H a v:=by
 cases a with
 | one c=>exact .one _ _ (Jb0 hren hp h.one_inv)
 | agg cs=>exact h.any_mapV (x:=.agg cs) hp m'
 | any=>cases h;exact .any _
 | tup l=>exact hp.elim
end ren
theorem jz:∀(rs:List Nat) (bs:List Blk) (h:Nat->HB) (k t:Nat),mkH (pinL rs bs h k) t=if k<=t then (match rs[t-k]?,bs[t-k]? with | some r,some b=>⟨(h r).ver,some b⟩ | _,_=>⟨0,none⟩) else ⟨0,none⟩
 | [],bs,h,k,t=>by simp [pinL,mkH,find]
 | r::rs,[],h,k,t=>by
  simp only [pinL,mkH,find];split
  .split
   .rename_i e;simp at e
   .rfl
  .rfl
 | r::rs,b::bs,h,k,t=>by
  have ih:=jz rs bs h (k+1) t;simp only [pinL,mkH,find]at ih ⊢;by_cases e:t=k
  .subst e;simp
  .rw [if_neg e,ih];by_cases hk:k<=t
   .have:t-k=(t-(k+1))+1:=by omega
    rw [if_pos (by omega),if_pos hk,this,List.getElem?_cons_succ,List.getElem?_cons_succ]
   .rw [if_neg (by omega),if_neg hk]
theorem Zaz{h hc:Nat->HB}:∀{rs:List Nat} {k:Nat} {K:(Nat->HB)->Prop},rs.Nodup->outK h hc rs k K->
  ∃h',K h'/\(∀r,r∉rs->h' r=h r)/\∀(i r:Nat),rs[i]?=some r->∃b,(hc (k+i))=⟨(h r).ver,some b⟩/\CleanR b.es/\h' r=⟨(h r).ver,some b⟩
 | [],k,K,_,hk=>⟨h,hk,λ_ _=>rfl,λi r hr=>by simp at hr⟩
 | r::rs,k,K,hnd,hk=>by
  simp only [List.nodup_cons]at hnd;obtain⟨b,hb,hcl,hk⟩:=hk;obtain⟨h',hk,h1,h2⟩:=Zaz hnd.2 hk;refine⟨_,hk,λr' hr'=>?_,λi r' hr'=>?_⟩
  .simp only [List.mem_cons,not_or]at hr';simp only [upd,hr'.1,if_false];exact h1 r' hr'.2
  .cases i with
   | zero=>
    simp only [List.getElem?_cons_zero,Option.some.injEq]at hr';subst hr';obtain⟨e1,e2⟩:=qB hb;refine⟨b,?_,hcl,by simp [upd]⟩
    cases hh:hc k with
    | mk ver blk=>rw [hh]at e1 e2;simp only at e1 e2;subst e1 e2;simp [hh]
   | succ i=>
    simp only [List.getElem?_cons_succ]at hr';obtain⟨b',q1,q2,q3⟩:=h2 i r' hr';have hne:r'≠r:=λe=>hnd.1 (e▸List.mem_of_getElem? hr');refine⟨b',by rw [show k+(i+1)=k+1+i by omega];exact q1,q2,by simp only [upd,hne,if_false];exact q3⟩
theorem Ubs{E:Env}{m m3:M}{I I2:Nat->Prop}{w:World}{h:Nat->HB}{rs:List Nat}(hr:HR E m I w h)(hx2:Ext m I w.heap m I2 w.heap)
  (hren:∀(i r:Nat),rs[i]?=some r->m.ver (pinA+i)=m3.ver r/\m.blk (pinA+i)=m3.blk r) {x:AV} {v:Value} (hx:RA m I w.heap x v)
  (hfz:∀r∈outO rs x,∀b k z,(h r).blk=some b->m.blk r=some (k,z)->I2 k):RA m3 I2 w.heap (outA rs h x) v:=by
 have dat:∀x,RA m I w.heap x v->(∀r∈ownA x,∀b k z,(h r).blk=some b->m.blk r=some (k,z)->I2 k)->RA m3 I2 w.heap (datA h x) v:=λx hx hf=>
  let q:=xy hr hx2 hx hf
  q.1.any_mapV q.2 m3
 have name:∀{t r:Nat},nameOf rs t=some r->m.ver t=m3.ver r/\m.blk t=m3.blk r:=λ{t r} hn=>by
  obtain⟨h1,h2⟩:=WF hn;have:=hren _ _ h2
  rwa [show pinA+(t-pinA)=t by omega]at this
 unfold outA;split
 .rename_i t ver z off len;cases hn:nameOf rs t with
  | none=>exact dat _ hx (by simpa [outO,hn,ownA,ownC,ownB] using hfz)
  | some r=>exact .one _ _ (jaV (name hn).1 (name hn).2 (hx.one_inv.ext hx2))
 .rename_i t ver i off;cases hn:nameOf rs t with
  | none=>exact dat _ hx (by simpa [outO,hn,ownA,ownC,ownB] using hfz)
  | some r=>exact .one _ _ (VaR (name hn).1 (name hn).2 (hx.one_inv.ext hx2))
 .rename_i h1 h2;refine dat _ hx ?_;unfold outO at hfz;split at hfz
  .exact(h1 _ _ _ _ _ rfl).elim
  .exact(h2 _ _ _ _ rfl).elim
  .exact hfz
theorem WaW{m:M}{I:Nat->Prop}{H:Array Obj}{l:List AV}{vs:List Value}(h:RAs m I H l vs):RA m I H (resOf l) (if h:(⟨vs⟩:Array Value).size=1 then (⟨vs⟩:Array Value)[0] else .tuple ⟨vs⟩):=Vbh h
theorem osound{f:FuncId}{fn:Func}{c:Code}{ac:AC}{rv:List RV}{n:Nat}{G:Option Nat->List AV->(Nat->HB)->(AV->(Nat->HB)->Prop)->Prop}(hf:P.funcs[f]?=some fn)(hb:fn.body=some c)(hn:fn.ntmps=n)(hc:compile P n c=some ac.strip)(hrv:cRes P fn=some rv)(hΓ:Holds P Γ)(hpin:n<=pinA)
    (h:∀d args h K,G d args h K->∃(rs:List Nat) (bs:List Blk) (args' : List AV),rs.Nodup/\bs.length=rs.length/\(∀(i r:Nat) (b:Blk),rs[i]?=some r->bs[i]?=some b->(h r).blk=some b/\b.live=true/\CleanR b.es)/\
      args=args'.map (exA rs)/\(∀a∈args',pasA rs a)/\((∀a∈args',FineA a)->args.length<=n/\wpA Γ ac (finO rv rs h K) ⟨mkV (argL 0 args'),mkH (pinL rs bs h pinA)⟩)):OSound P f G:=by
  intro E args vals w I m h0 d K hr hargs hG;obtain⟨rs,bs,args',hnd,hbl,hblk,rfl,hpas,hwp⟩:=h d args h0 K hG;have getb:∀(i r:Nat),rs[i]?=some r->∃b,bs[i]?=some b/\(h0 r).blk=some b/\b.live=true/\CleanR b.es:=by
    intro i r hi;have:i<bs.length:=by rw [hbl];exact(List.getElem?_eq_some_iff.1 hi).1
    exact⟨bs[i],List.getElem?_eq_getElem this,hblk i r _ hi (List.getElem?_eq_getElem this)⟩
  generalize hF:(λt=>if pinA<=t then (rs[t-pinA]?).bind m.blk else none:Nat->Option (Nat×Nat))=F
  have hFi:∀i,F (pinA+i)=(rs[i]?).bind m.blk:=λi=>by rw [<-hF];simp
  have hFs:∀t k z,F t=some (k,z)->∃(i r:Nat),t=pinA+i/\rs[i]?=some r/\m.blk r=some (k,z):=by
    intro t k z ht;rw [<-hF]at ht;simp only at ht;split at ht
    . rename_i hle
      simp only [Option.bind_eq_some_iff]at ht;obtain⟨r,h1,h2⟩:=ht;exact⟨t-pinA,r,by omega,h1,h2⟩
    . simp at ht
  generalize hH:mkH (pinL rs bs h0 pinA)=hh at hwp;have hHi:∀(i r:Nat) (b:Blk),rs[i]?=some r->bs[i]?=some b->hh (pinA+i)=⟨(h0 r).ver,some b⟩:=λi r b h1 h2=>by
    rw [<-hH,jz,if_pos (by omega)]
    simp [h1,h2]
  have hHs:∀t b,(hh t).blk=some b->∃(i r:Nat),t=pinA+i/\rs[i]?=some r/\bs[i]?=some b:=by
    intro t b ht;rw [<-hH,jz]at ht;split at ht
    . split at ht
      . rename_i hle r b' h1 h2
        simp only [Option.some.injEq]at ht;subst ht;exact⟨t-pinA,r,by omega,h1,h2⟩
      . simp at ht
    . simp at ht
  generalize hm2:(⟨λt=>(hh t).ver,F⟩:M)=m2;have ren:∀(i r:Nat),rs[i]?=some r->m.ver r=m2.ver (pinA+i)/\m.blk r=m2.blk (pinA+i):=by
    intro i r hi;obtain⟨b,h1,_⟩:=getb i r hi;rw [<-hm2];exact⟨by simp only [hHi i r b hi h1];exact hr.ver r,by simp only [hFi,hi,Option.bind_some]⟩
  generalize hE:(⟨w,I,λk=>∃(i r:Nat) (b:Blk) (z:Nat),rs[i]?=some r/\bs[i]?=some b/\m.blk r=some (k,z),n,F⟩:Env)=E2;have ow:∀k,E2.Ow k->∃(i r:Nat) (b:Blk) (z:Nat),rs[i]?=some r/\(h0 r).blk=some b/\b.live=true/\m.blk r=some (k,z):=by
    intro k hk;rw [<-hE]at hk;obtain⟨i,r,b,z,h1,h2,h3⟩:=hk;obtain⟨g1,g2,_⟩:=hblk i r b h1 h2;exact⟨i,r,b,z,h1,g1,g2,h3⟩
  have hargs2:RAs m2 I w.heap args' vals:=by
    refine⟨by simpa using hargs.1,λi a v ha hv=>?_⟩
    exact wbG ren (hpas a (List.mem_of_getElem? ha)) (hargs.2 i _ v (by simp [ha]) hv)
  have hfine:∀a∈args',FineA a:=by
    intro a ha;obtain⟨i,hi⟩:=List.getElem?_of_mem ha;have hlt:i<vals.length:=by rw [<-hargs2.1];exact(List.getElem?_eq_some_iff.1 hi).1
    exact(hargs2.2 i a _ hi (List.getElem?_eq_getElem hlt)).fine
  obtain⟨hlen,hwp⟩:=hwp hfine;refine calls_of_wp hf hb ?_;have hsim:Sim E2 ⟨mkV (argL 0 args'),hh⟩ { tmps:=(⟨vals⟩:Array Value)++Array.replicate (fn.ntmps-(⟨vals⟩:Array Value).size) undef,defers:=[] } w m2 I:=by
    refine⟨rfl,?_,λt=>qD hargs2 t,?_⟩
    . have hlv:=hargs2.1
      have:vals.length<=n:=by rw [<-hlv];simpa using hlen
      rw [<-hE];simp [hn];omega
    . rw [<-hE,<-hm2]
      refine {
        ver:=λr=>rfl,blk:=λt b hb=>?_,inj:=λt t' k z z' h1 h2=>?_,lt:=λt k z hm=>?_,
        imb:=hr.imb,grow:=Nat.le_refl _,keep:=λb hb _=>rfl,imm:=λb hb=>.inl hb,sup:=λb hb=>hb,i0:=λb hb=>⟨hr.imb b hb,λh=>?_⟩,
        liv:=λt b k z hb hm=>?_,np:=hpin,fx:=λt b _ hb=>⟨rfl,λ_ _ _=>rfl⟩,os:=rfl,tape:=rfl,out:=rfl }
      . obtain⟨i,r,rfl,h1,h2⟩:=hHs t b hb
        obtain⟨g1,g2,g3⟩:=hblk i r b h1 h2;have hrb:=hr.blk r b g1;refine⟨hrb.sz,λhm=>hrb.virt (by simpa [hFi,h1] using hm),λk z hm=>?_⟩
        have hm' : m.blk r=some (k,z):=by simpa [hFi,h1] using hm
        obtain⟨q1,q2,q3,arr,ty,q4,q5⟩:=hrb.real k z hm';exact⟨q1,q2,q3,arr,ty,q4,λi j e c he hc=>let ⟨v,p1,p2⟩:=q5 i j e c he hc;⟨v,p1,p2.any_map (g3 e (List.mem_of_getElem? he) c (List.mem_of_getElem? hc)) _⟩⟩
      . obtain⟨i,r,rfl,g1,g2⟩:=hFs _ _ _ h1
        obtain⟨i',r',rfl,g1',g2'⟩:=hFs _ _ _ h2;have e:=hr.inj _ _ _ _ _ g2 g2';subst e;have hi:=(List.getElem?_eq_some_iff.1 g1).1;have:i=i':=(List.getElem?_inj hi hnd).1 (g1.trans g1'.symm);rw [this]
      . obtain⟨i,r,rfl,g1,g2⟩:=hFs _ _ _ hm
        exact hr.lt _ _ _ g2
      . obtain⟨i,r,b',z,g1,g2,g3⟩:=h
        obtain⟨q1,q2,_⟩:=hblk i r b' g1 g2;exact((hr.blk r b' q1).real _ _ g3).2.1 q2 hb
      . obtain⟨i,r,rfl,g1,g2⟩:=hFs _ _ _ hm
        obtain⟨b',q1,_⟩:=getb i r g1;exact .inr ⟨i,r,b',z,g1,q1,g2⟩
  have hw0:E2.w0=w:=by rw [<-hE]
  have hI0:E2.I0=I:=by rw [<-hE]
  have hEF:E2.F=F:=by rw [<-hE]
  have fin:∀s' a' w' m' I',(rawK s' rv λl=>outK h0 (frz (l.flatMap (outO rs)) s'.h) rs pinA λh'=>K (resOf (l.map (outA rs s'.h))) h')->Sim E2 s' a' w' m' I'->a'.defers=[]/\∃v,(results fn a'.tmps).run P w' = .ok v w'/\
      ∃v' r h' m3 I3,Ending.returned v=.returned v'/\K r h'/\RA m3 I3 w'.heap r v'/\HR E m3 I3 w' h'/\Ext m I w.heap m3 I3 w'.heap:=by
    intro s' a' w' m' I' hk hs;obtain⟨xs,vs,hres,hra,hk⟩:=Yy hs hrv hk;refine⟨hs.dfr,_,hres,?_⟩;obtain⟨I2,hh2,hx2,hfz⟩:=hs.heap.frz (xs.flatMap (outO rs));obtain⟨h3,hk,hout,hin⟩:=Zaz hnd hk;have place:∀(i r:Nat),rs[i]?=some r->m'.blk (pinA+i)=m.blk r/\∀k z,m.blk r=some (k,z)->bsize w'.heap k=bsize w.heap k:=by
      intro i r hi;obtain⟨b,q1,_⟩:=hin i r hi;have:=hh2.fx (pinA+i) b (by omega) (by rw [q1])
      rw [hEF,hFi,hi]at this;exact⟨this.1,λk z hm=>by rw [<-hw0];exact this.2 k z hm⟩
    have ren' : ∀(i r:Nat),rs[i]?=some r->m'.ver (pinA+i)=m.ver r/\m'.blk (pinA+i)=m.blk r:=λi r hi=>by
      obtain⟨b,q1,_⟩:=hin i r hi;exact⟨by rw [hh2.ver,q1];exact(hr.ver r).symm,(place i r hi).1⟩
    have notow:∀r k z,r∉rs->m.blk r=some (k,z)->¬E2.Ow k:=by
      intro r k z hr' hm ho;obtain⟨i,r2,b,z2,g1,_,_,g2⟩:=ow k ho;have:=hr.inj _ _ _ _ _ hm g2;exact hr' (this▸List.mem_of_getElem? g1)
    have same:∀k,k<w.heap.size->¬E2.Ow k->w'.heap[k]?=w.heap[k]?:=λk hk ho=>by
      have:=hh2.keep k (by rw [hw0];exact hk) ho
      rwa [hw0]at this
    have ext:Ext m I w.heap m I2 w'.heap:=by
      refine⟨λr=>.inl ⟨rfl,rfl,λk z hm=>?_⟩,λb hb=>hh2.sup b (by rw [hI0];exact hb),λb hb=>same b (hr.imb b hb) (λho=>?_)⟩
      . by_cases hmem:r∈rs
        . obtain⟨i,hi⟩:=List.getElem?_of_mem hmem
          exact(place i r hi).2 k z hm
        . simp only [bsize,same k (hr.lt _ _ _ hm) (notow r k z hmem hm)]
      . obtain⟨i,r2,b2,z2,g1,g2,g3,g4⟩:=ow b ho
        exact((hr.blk r2 b2 g2).real _ _ g4).2.1 g3 hb
    refine⟨_,_,h3,m,I2,rfl,hk,WaW ⟨by simp [hra.1],λi x v hx hv=>?_⟩,?_,ext⟩
    . simp only [List.getElem?_map,Option.map_eq_some_iff]at hx
      obtain⟨x0,hx0,rfl⟩:=hx;exact Ubs hs.heap hx2 ren' (hra.2 i x0 v hx0 hv) (λr hr'=>hfz r (List.mem_flatMap.2 ⟨x0,List.mem_of_getElem? hx0,hr'⟩))
    . have imm2:∀b,I2 b->I b∨w.heap.size<=b∨E2.Ow b:=λb hb=>by
        have:=hh2.imm b hb
        rwa [hI0,hw0]at this
      have size:w.heap.size<=w'.heap.size:=by have:=hh2.grow;rwa [hw0]at this
      have hsome:∀r b,(h3 r).blk=some b->∃b0,(h0 r).blk=some b0:=by
        intro r b hb;by_cases hmem:r∈rs
        . obtain⟨i,hi⟩:=List.getElem?_of_mem hmem
          obtain⟨b0,_,q,_⟩:=getb i r hi;exact⟨b0,q⟩
        . rw [hout r hmem]at hb;exact⟨b,hb⟩
      have liv:∀k,E2.Ow k->E.w0.heap.size<=k∨E.Ow k:=λk ho=>by
        obtain⟨i,r2,b2,z2,g1,g2,g3,g4⟩:=ow k ho;exact hr.liv r2 b2 k z2 g2 g4
      refine {
        ver:=λr=>?_,blk:=λr b hb=>?_,inj:=hr.inj,lt:=λr k z hm=>Nat.lt_of_lt_of_le (hr.lt _ _ _ hm) size,imb:=hh2.imb,grow:=Nat.le_trans hr.grow size,keep:=λb hb ho=>?_,imm:=λb hb=>?_,
        sup:=λb hb=>hh2.sup b (by rw [hI0];exact hr.sup b hb),i0:=hr.i0,liv:=λr b k z hb hm=>?_,np:=hr.np,fx:=λr b hp hb=>?_,
        os:=by rw [hh2.os,hw0];exact hr.os,tape:=by rw [hh2.tape,hw0];exact hr.tape,out:=by rw [hh2.out,hw0];exact hr.out }
      . by_cases hmem:r∈rs
        . obtain⟨i,hi⟩:=List.getElem?_of_mem hmem
          obtain⟨b,_,_,q3⟩:=hin i r hi;rw [q3];exact hr.ver r
        . rw [hout r hmem];exact hr.ver r
      . by_cases hmem:r∈rs
        . obtain⟨i,hi⟩:=List.getElem?_of_mem hmem
          obtain⟨b',q1,q2,q3⟩:=hin i r hi;rw [q3]at hb;simp only [Option.some.injEq]at hb;subst hb;have hrb:=hh2.blk (pinA+i) b' (by rw [q1])
          have hp:=(place i r hi).1;refine⟨hrb.sz,λhm=>hrb.virt (by rw [hp];exact hm),λk z hm=>?_⟩
          obtain⟨p1,p2,p3,arr,ty,p4,p5⟩:=hrb.real k z (by rw [hp];exact hm)
          exact⟨p1,p2,p3,arr,ty,p4,λi j e c he hc=>let ⟨v,t1,t2⟩:=p5 i j e c he hc;⟨v,t1,t2.any_map (q2 e (List.mem_of_getElem? he) c (List.mem_of_getElem? hc)) _⟩⟩
        . rw [hout r hmem]at hb
          have hrb:=hr.blk r b hb;refine⟨hrb.sz,hrb.virt,λk z hm=>?_⟩;obtain⟨p1,p2,p3,arr,ty,p4,p5⟩:=hrb.real k z hm;have hlt:=hr.lt _ _ _ hm;have hno:=notow r k z hmem hm;refine⟨p1,λhl hi=>?_,λhl=>ext.i k (p3 hl),arr,ty,by rw [same k hlt hno];exact p4,λi j e c he hc=>let ⟨v,t1,t2⟩:=p5 i j e c he hc;⟨v,t1,t2.ext ext⟩⟩
          rcases imm2 k hi with h | h | h
          . exact p2 hl h
          . omega
          . exact hno h
      . by_cases ho2:E2.Ow b
        . rcases liv b ho2 with h | h
          . omega
          . exact(ho h).elim
        . rw [same b (Nat.lt_of_lt_of_le hb hr.grow) ho2]
          exact hr.keep b hb ho
      . rcases imm2 b hb with h | h | h
        . exact hr.imm b h
        . exact .inr (.inl (Nat.le_trans hr.grow h))
        . exact .inr (liv b h)
      . obtain⟨b0,hb0⟩:=hsome r b hb
        exact hr.liv r b0 k z hb0 hm
      . obtain⟨b0,hb0⟩:=hsome r b hb
        obtain⟨q1,q2⟩:=hr.fx r b0 hp hb0;refine⟨q1,λk z hF=>?_⟩;rw [<-q2 k z hF];rcases ext.m r with⟨_,_,q⟩ | q
        . exact q k z (by rw [q1];exact hF)
        . omega
  have hsim':=hsim;have hN:E2.N=n:=by rw [<-hE]
  refine qQ (E:=E2) hΓ ac c (by rw [hN];exact hc) hsim hwp (λe s' a' w' m' I' hq hs=>?_)
  cases e with
  | nrm=>exact fin s' a' w' m' I' hq hs
  | ret=>exact fin s' a' w' m' I' hq hs
  | exit i=>exact hq.elim
theorem zf{f:FuncId}{n:Nat}{ac:AC}{rv:List RV}{G:Option Nat->List AV->(Nat->HB)->(AV->(Nat->HB)->Prop)->Prop}(hc:check P f=some (n,ac.strip,rv))(hΓ:Holds P Γ)
  (h:∀d args h K,G d args h K->∃(rs:List Nat) (bs:List Blk) (args' : List AV),rs.Nodup/\bs.length=rs.length/\(∀(i r:Nat) (b:Blk),rs[i]?=some r->bs[i]?=some b->(h r).blk=some b/\b.live=true/\CleanR b.es)/\
   args=args'.map (exA rs)/\(∀a∈args',pasA rs a)/\((∀a∈args',FineA a)->args.length<=n/\wpA Γ ac (finO rv rs h K) ⟨mkV (argL 0 args'),mkH (pinL rs bs h pinA)⟩)):Sound P f (.own G):=by
 obtain⟨fn,c,h1,h2,h3,h4,h5,h6,h7⟩:=Zu hc;exact⟨Xq h1 h2 (by rw [h3];rfl),osound h1 h3 h4 h5 h6 hΓ h7 h⟩
end Go.Abs
end
namespace Go.Abs
attribute [go_sem] Nat.reduceEqDiff Nat.reduceAdd Nat.reduceLT Nat.reduceLeDiff Int.reduceToNat Nat.reducePow Nat.reduceMul reduceCtorEq
attribute [go_sem ↓] reduceIte
end Go.Abs
