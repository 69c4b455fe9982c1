/-
  Parts of the proof, merged: AbsA, AbsB, AbsC, AbsD, AbsE, AbsF, AbsG, AbsH, AbsI, AbsJ, AbsK, AbsL, AbsM.
-/
import Derived.Calls
import Derived.Orders
import Derived.Laws.Cells
import Derived.Laws.CopyRow
import Derived.Laws.Append
import Derived.Laws.MakeOwn
import Derived.Laws.Slices
import Derived.Laws.Tables
import Derived.Laws.NewBlocks
import Derived.Great.BuildSlice
theorem zOI:type_of% @Option.some.injEq:=@Option.some.injEq
theorem zOB:type_of% @Option.bind_eq_some_iff:=@Option.bind_eq_some_iff
theorem zBA:type_of% @Bool.and_eq_true:=@Bool.and_eq_true
theorem zOM:type_of% @Option.map_eq_some_iff:=@Option.map_eq_some_iff
set_option linter.unusedVariables false
set_option linter.unusedSimpArgs false
set_option linter.unnecessarySimpa false
namespace Go
theorem q_E{a:Prop}(h:a):a:=h
end Go
namespace Go
theorem q_Wr{a b:Prop}(k:b)(h:a:=by first | with_reducible assumption | exact Nat.le_trans (by with_reducible assumption) (by decide) | decide):a/\b:=⟨h,k⟩
theorem q_Wk{a b:Prop}(k:b)(h:a:=by first | omega | assumption | exact rfl | exact⟨rfl,by omega⟩ | exact⟨rfl,by omega,by omega⟩):a/\b:=⟨h,k⟩
end Go
section
namespace Go.Abs
inductive C where
 | lit (v:Value)
 | slice (es:List (List C))
 | full (es:List (List C))
 | emp
 | own (r ver z off len:Nat)
 | ptr (r ver i off:Nat)
 | ref (cs:List C)
 | clo (f:FuncId) (caps:List C)
 | any
 deriving Inhabited
inductive AV where
 | one (c:C)
 | agg (cs:List C)
 | tup (vs:List AV)
 | any
 deriving Inhabited
structure Blk where
 es:List (List C)
 z:Nat
 live:Bool
 deriving Inhabited
structure HB where
 ver:Nat
 blk:Option Blk
 deriving Inhabited
structure S where
 v:Nat->AV
 h:Nat->HB
inductive Opd where
 | t (n:Nat)
 | c (a:AV)
 deriving Inhabited
inductive Seg where
 | z (cs:List C)
 | x (n:Nat) (o:Opd)
 deriving Inhabited
inductive AOp where
 | mv (x:Opd)
 | pick (c x y:Opd)
 | alloc (zs:List C)
 | box (n:Nat) (x:Opd)
 | build (segs:List Seg)
 | row (z:Nat) (es:List (List Seg))
 | rowo (z:Nat) (es:List (List Seg))
 | ld (b:Option Nat) (n:Nat) (agg:Bool) (a:Opd)
 | st (b:Option Nat) (n:Nat) (a x:Opd)
 | nilck (x:Opd)
 | bin (op:BinOp) (x y:Opd)
 | binb (op:BinOp) (x y:Opd)
 | binn (op:BinOp) (x y:Opd)
 | un (op:UnOp) (x:Opd)
 | conv (k:IntKind) (x:Opd)
 | iface (t:TypeId) (x:Opd)
 | clo (f:FuncId) (caps:List Opd)
 | mk (z:Nat) (zs:List C) (l c:Opd)
 | sl (z:Nat) (x:Opd) (lo hi:Option Opd)
 | sl0 (x:Opd)
 | fa (off:Nat) (x:Opd)
 | fld (n:Nat) (agg:Bool) (off:Nat) (x:Opd)
 | idx (z:Nat) (x i:Opd)
 | ext (i:Nat) (x:Opd)
 | tass (t:TypeId) (zero:AV) (x:Opd)
 | len (x:Opd)
 | app (z:Nat) (x y:Opd)
 | app0 (z:Nat) (x y:Opd)
 | appb (b z:Nat) (x y:Opd)
 | copy (z:Nat) (x y:Opd)
 | cpy (z:Nat) (x y:Opd)
 | max (xs:List Opd)
 | min (xs:List Opd)
 | call (f:FuncId) (args:List Opd)
 | callv (f:Opd) (args:List Opd)
 | callf (f:FuncId) (args:List Opd)
 | snil (neg:Bool) (x:Opd)
 | cap (x:Opd)
 | appz (z:Nat) (zs:List C) (x n:Opd)
 | sop (k:Nat) (l:List Opd)
 | ai (z n:Nat) (x i:Opd)
 | aix (z:Nat) (g:Bool) (n:Nat) (x i:Opd)
 | rsl (z n:Nat) (x:Opd)
 | callr (f:FuncId) (args:List Opd)
 | rsb (z n:Nat) (x:Opd) (lo hi:Option Opd)
 | bad
 | rowf (z:Nat) (x:Opd)
 | calli (f:FuncId) (args:List Opd)
 | rowd (z:Nat) (es:List (List Seg))
 deriving Inhabited
structure AO where
 d:Option Nat
 g:Option (Nat×Bool)
 o:AOp
 deriving Inhabited
inductive AC where
 | skip
 | ops (dr:Bool) (l:List AO)
 | seq (a b:AC)
 | cond (c:Opd) (a b:AC)
 | block (id:Nat) (a:AC)
 | loop (a:AC)
 | exit (id:Nat)
 | ret
 | fg (keep:List Nat) (a:AC)
 | fz (ts:List Nat) (a:AC)
 deriving Inhabited
def cellOf:Value->C
 | .slice none 0 0=>.emp
 | v=>.lit v
def isCell:Value->Bool
 | .agg _=>false
 | .tuple _=>false
 | _=>true
def avOf:Value->AV
 | .agg cs=>if cs.toList.all isCell then .agg (cs.toList.map cellOf) else .any
 | .tuple _=>.any
 | v=>.one (cellOf v)
def cOpd:Operand->Option Opd
 | .tmp t=>if t<1048576 then some (.t t) else none
 | .const v=>some (.c (avOf v))
 | .func f=>some (.c (.one (.lit (.func (.func f) #[] #[]))))
 | .global _=>none
def cOpds(l:List Operand):Option (List Opd):=l.mapM cOpd
section
variable (P:Program)
def isAggT(t:TypeId):Option Bool:=
 match P.underlying t with
 | some (.struct _)=>some true
 | some (.array _ _)=>some true
 | some _=>some false
 | none=>none
def zeroCells(t:TypeId):Option (List C):=
 match P.info? t with
 | some i=>match i.zero with
  | some v=>if v.cells.size=i.size/\v.cells.toList.all isCell=true then some (v.cells.toList.map cellOf) else none
  | none=>none
 | none=>none
def sizeT(t:TypeId):Option Nat:=(P.info? t).map (·.size)
def segs(zero:List C):(pos:Nat)->List (Nat×Nat×Opd)->Option (List Seg)
 | pos,[]=>if pos<=zero.length then some (if pos=zero.length then [] else [.z (zero.drop pos)]) else none
 | pos,(off,n,o)::rest=>
  if pos<=off/\off+n<=zero.length then
   match segs zero (off+n) rest with
   | some l=>some (if pos=off then .x n o::l else .z ((zero.drop pos).take (off-pos))::.x n o::l)
   | none=>none
  else none
def placesOf(fs:Array Field):Option (List (Nat×Nat)):=fs.toList.mapM λf=>(sizeT P f.type).map (f.offset,·)
def cBuild(t:TypeId)(parts:List (Nat×Operand)):Option (List Seg):=do
 let zero <-zeroCells P t
 match P.underlying t with
 | some (.struct fs)=>do
  let pl <-placesOf P fs
  let ps <-parts.mapM λ(i,o)=>do
   let (off,n) <-pl[i]?
   let x <-cOpd o
   pure (off,n,x)
  segs zero 0 ps
 | some (.array _ e)=>do
  let n <-sizeT P e
  let ps <-parts.mapM λ(i,o)=>do
   let x <-cOpd o
   pure (i*n,n,x)
  segs zero 0 ps
 | _=>none
def cRow(z:Nat)(len:Nat)(parts:List (Nat×Operand)):Option (List (List Seg)):=
 if parts.map (·.1)=List.range len then parts.mapM λ(_,o)=>(cOpd o).map λx=>[.x z x] else none
def freshNames : List String := ["linkwork/integer.up", "linkwork/linkworkref01.trim", "slices.Clone[[]linkwork/api.Arc,linkwork/api.Arc]", "slices.Concat[[]linkwork/api.Arc,linkwork/api.Arc]", "slices.Grow[[]linkwork/api.Arc,linkwork/api.Arc]",
 "slices.Clone[[]linkwork/api.Term,linkwork/api.Term]", "slices.Concat[[]linkwork/api.Term,linkwork/api.Term]", "slices.Grow[[]linkwork/api.Term,linkwork/api.Term]",
 "linkwork/linkworkref09.scaled", "linkwork/poly.Trim", "linkwork/linkworkref05.Trim", "slices.Clone[[]int,int]", "slices.Clone[[]linkwork/api.Placed,linkwork/api.Placed]", "linkwork/tower.wide"]
def redNames : List String := ["take", "add", "sub", "mul", "scale", "linear", "constant", "times", "norm", "build", "position", "less", "minor", "cross", "row"].flatMap fun s => ["(*linkwork/coupler.maker)." ++ s, "(*linkwork/burmester.maker)." ++ s] ++ ["add", "sub", "mul", "keep", "dot", "cross", "less", "point", "num", "orient"].map ("(*linkwork/point.sum)." ++ ·) ++ ["add", "sub", "mul", "div", "keep", "times", "sign", "along", "met", "own", "radicand", "concentric"].map ("(*linkwork/meet.maths)." ++ ·) ++ ["add", "sub", "mul", "div", "keep", "sign", "point", "body"].map ("(*linkwork/dyad.maths)." ++ ·) ++ ["mark", "place", "pin", "own", "slide", "rrr", "driver", "solveRRR", "pr", "solvePR"].map ("(*linkwork/dyad.solver)." ++ ·) ++ ["(*linkwork/assemble.walker).turnOf", "(*linkwork/assemble.walker).start"]
def isRed(s:String):Bool:=redNames.any (· == s)
def ratRows (e : TypeId) : Bool := (P.info? e).map (·.str) == some "[]api.Rat"
def inlNames : List String := ["linkwork/dyad.open", "linkwork/assemble.open", "(*linkwork/assemble.walker).walk", "linkwork/groups.Anchors"]
def isInl(s:String):Bool:=inlNames.any (· == s)
def isFresh(s:String):Bool:=freshNames.any (· == s)
def twoInts(t:TypeId)(f1 f2:Field):Bool:=
 (match P.underlying f1.type with | some (.int _)=>true | _=>false) && (match P.underlying f2.type with | some (.int _)=>true | _=>false) &&
 f1.name != "_" && f2.name != "_" && f1.offset == 0 && f2.offset == 1 && !P.stoodInHeld t && !P.eqGuardType P.depth t
def cOp(o:Oper):Option AOp:=
 match o.op with
 | .move x | .assign x=>(cOpd x).map .mv
 | .pick c a b=>do pure (.pick (<-cOpd c) (<-cOpd a) (<-cOpd b))
 | .alloc e=>(zeroCells P e).map .alloc
 | .box e x=>do pure (.box (<-sizeT P e) (<-cOpd x))
 | .build t ps=>(cBuild P t ps.toList).map .build
 | .buildSlice t len ps=>
  match P.underlying t with
  | some (.slice e)=>do
   let z <-sizeT P e
   if z=0 || len*z > 2 ^ 24 then none else
   if len=0 then (if ps.toList.isEmpty then pure (.mv (.c (.one .emp))) else none) else
   let _ <-zeroCells P e
   let l <-cRow z len ps.toList
   pure (if ratRows P e then .rowo z l else .row z l)
  | _=>none
 | .load t a=>do
  let n <-sizeT P t
  let g <-isAggT P t
  if n=0 || (!g && n≠1) then none else pure (.ld none n g (<-cOpd a))
 | .store t a x=>do
  let n <-sizeT P t
  pure (.st none n (<-cOpd a) (<-cOpd x))
 | .nilCheck x=>(cOpd x).map .nilck
 | .binOp op t x y _=>
  match P.underlying t with
  | some (.int _)=>do pure (.bin op (<-cOpd x) (<-cOpd y))
  | some .bool=>do pure (.binb op (<-cOpd x) (<-cOpd y))
  | some (.interface _)=>do pure (.binn op (<-cOpd x) (<-cOpd y))
  | some (.slice _)=>
   match op,y with
   | .eql,.const (.slice none 0 0)=>(cOpd x).map (.snil false)
   | .neq,.const (.slice none 0 0)=>(cOpd x).map (.snil true)
   | _,_=>none
  | some .string=>
   match op with
   | .eql=>do pure (.sop 1 [<-cOpd x,<-cOpd y])
   | .add=>do pure (.sop 2 [<-cOpd x,<-cOpd y])
   | _=>none
  | some (.struct fs)=>
   match op,fs.toList with
   | .eql,[f1,f2]=>if twoInts P t f1 f2=true then do pure (.sop 5 [<-cOpd x,<-cOpd y]) else none
   | _,_=>none
  | _=>none
 | .unOp op _ x=>(cOpd x).map (.un op)
 | .convert src dst x=>
  match P.underlying src,P.underlying dst with
  | some (.int _),some (.int k)=>(cOpd x).map (.conv k)
  | some (.slice _),some (.slice _)=>none
  | _,_=>none
 | .makeInterface t x=>
  match P.underlying t with
  | some (.int _)=>(cOpd x).map (.iface t)
  | _=>none
 | .makeFunc (.func f) first caps=>if first.isEmpty then (cOpds caps.toList).map (.clo f) else if caps.isEmpty then (cOpds first.toList).map λl=>.clo f (.c (.one (.lit (.agg ⟨[]⟩)))::l) else none
 | .makeSlice t l c=>
  match P.underlying t with
  | some (.slice e)=>do
   let z <-sizeT P e
   if z=0 || (P.bytesOf e) > 4096 then none else
   pure (.mk z (<-zeroCells P e) (<-cOpd l) (<-cOpd c))
  | _=>none
 | .slice t x lo hi none=>
  match P.underlying t with
  | some (.slice e)=>do
   let z <-sizeT P e
   let x <-cOpd x
   let lo <-match lo with | some a=>(cOpd a).map some | none=>some none
   let hi <-match hi with | some a=>(cOpd a).map some | none=>some none
   pure (.sl z x lo hi)
  | some .string=>
   match lo,hi with
   | some lo,some hi=>do pure (.sop 0 [<-cOpd x,<-cOpd lo,<-cOpd hi])
   | _,_=>none
  | some (.array n e)=>
   match lo,hi with
   | none,none=>do
    let z <-sizeT P e
    if z=0 || n=0 then none else pure (.rsl z n (<-cOpd x))
   | lo,hi=>do
    let z <-sizeT P e
    if z=0 || n=0 then none else do
     let x <-cOpd x
     let lo <-match lo with | some a=>(cOpd a).map some | none=>some none
     let hi <-match hi with | some a=>(cOpd a).map some | none=>some none
     pure (.rsb z n x lo hi)
  | _=>none
 | .slice t x lo (some (.const (.int _ 0))) (some (.const (.int _ 0)))=>
  match P.underlying t,lo with
  | some (.slice e),none=>do
   let _ <-sizeT P e
   (cOpd x).map .sl0
  | _,_=>none
 | .fieldAddr t x f=>
  match P.underlying t with
  | some (.struct fs)=>do
   let fd <-fs[f]?
   let n <-sizeT P fd.type
   if n=0 then none else pure (.fa fd.offset (<-cOpd x))
  | _=>none
 | .field t x f=>
  match P.underlying t with
  | some (.struct fs)=>do
   let fd <-fs[f]?
   let n <-sizeT P fd.type
   let g <-isAggT P fd.type
   if n=0 || (!g && n≠1) then none else pure (.fld n g fd.offset (<-cOpd x))
  | _=>none
 | .indexAddr t x i=>
  match P.underlying t with
  | some (.slice e)=>do
   let z <-sizeT P e
   if z=0 then none else pure (.idx z (<-cOpd x) (<-cOpd i))
  | some (.array n e)=>do
   let z <-sizeT P e
   if z=0 then none else pure (.ai z n (<-cOpd x) (<-cOpd i))
  | _=>none
 | .index t x i=>
  match P.underlying t with
  | some (.array n e)=>do
   let z <-sizeT P e
   let g <-isAggT P e
   if z=0 || (!g && z≠1) then none else pure (.aix z g n (<-cOpd x) (<-cOpd i))
  | some .string=>do pure (.sop 3 [<-cOpd x,<-cOpd i])
  | _=>none
 | .typeAssert x _ t true=>
  match P.underlying t,(P.info? t).bind (·.zero) with
  | some (.int _),some z=>(cOpd x).map (.tass t (avOf z))
  | _,_=>none
 | .extract x i=>(cOpd x).map (.ext i)
 | .call c=>
  match c.callee with
  | .value (.func f)=>do
   let fn <-P.funcs[f]?
   if fn.body.isNone || fn.name == "runtime.NumGoroutine" then none else
   if isFresh fn.name then pure (.callf f (<-cOpds c.args.toList)) else if isRed fn.name then pure (.callr f (<-cOpds c.args.toList)) else if isInl fn.name then pure (.calli f (<-cOpds c.args.toList)) else pure (.call f (<-cOpds c.args.toList))
  | .value f=>do pure (.callv (<-cOpd f) (<-cOpds c.args.toList))
  | .builtin .len=>
   match c.argTypes[0]?.bind P.underlying with
   | some (.slice _)=>do
    let x <-c.args[0]?
    (cOpd x).map .len
   | some .string=>do
    let x <-c.args[0]?
    (cOpd x).map λx=>.sop 4 [x]
   | _=>none
  | .builtin .cap=>
   match c.argTypes[0]?.bind P.underlying with
   | some (.slice _)=>do
    let x <-c.args[0]?
    (cOpd x).map .cap
   | _=>none
  | .builtin .append=>
   match c.argTypes[0]?.bind P.underlying,c.argTypes[1]?.bind P.underlying with
   | some (.slice e),some (.slice _)=>do
    let z <-sizeT P e
    let _ <-zeroCells P e
    if z=0 || P.bytesOf e > 2048 || P.bytesOf e=0 then none else
    let x <-c.args[0]?
    let y <-c.args[1]?
    pure (.app z (<-cOpd x) (<-cOpd y))
   | some (.slice e),some (.int _)=>do
    let z <-sizeT P e
    let zs <-zeroCells P e
    if z=0 || P.bytesOf e > 2048 then none else
    let x <-c.args[0]?
    let y <-c.args[1]?
    pure (.appz z zs (<-cOpd x) (<-cOpd y))
   | _,_=>none
  | .builtin .clear=>
   match c.argTypes[0]?.bind P.underlying with
   | some (.slice e)=>do
    let z <-sizeT P e
    let zs <-zeroCells P e
    if z=0 then none else
    let x <-c.args[0]?
    pure (.copy z (<-cOpd x) (.c (.agg zs)))
   | _=>none
  | .builtin .copy=>
   match c.argTypes[0]?.bind P.underlying with
   | some (.slice e)=>do
    let z <-sizeT P e
    if z=0 then none else
    let x <-c.args[0]?
    let y <-c.args[1]?
    pure (.cpy z (<-cOpd x) (<-cOpd y))
   | _=>none
  | .builtin .max=>(cOpds c.args.toList).map .max
  | .builtin .min=>(cOpds c.args.toList).map .min
  | _=>none
 | _=>none
def AOp.cls:AOp->Nat
 | .mv _ | .pick .. | .build _ | .nilck _ | .bin .. | .binb .. | .binn .. | .un .. | .conv .. | .iface .. | .clo .. | .fa .. | .fld .. | .ext .. | .tass .. | .max _ | .min _ | .sl .. | .idx .. | .len _ | .snil .. | .cap _ | .sop .. | .ai .. | .aix .. | .rsl .. | .rsb .. | .bad | .row ..=>0
 | .ld .. | .sl0 _ | .callr ..=>1
 | .alloc _ | .box .. | .mk .. | .callf .. | .appz .. | .rowd ..=>2
 | .st .. | .app .. | .appb .. | .copy .. | .cpy .. | .rowo .. | .rowf ..=>3
 | .call .. | .callv ..=>4
 | .app0 ..=>5
 | .calli ..=>6
def opdT:Opd->List Nat
 | .t n=>[n]
 | .c _=>[]
def segT:Seg->List Nat
 | .z _=>[]
 | .x _ o=>opdT o
def AOp.looks:AOp->List Nat
 | .mv x | .box _ x | .ld _ _ _ x | .nilck x | .un _ x | .conv _ x | .iface _ x | .sl0 x | .fa _ x | .fld _ _ _ x | .ext _ x | .tass _ _ x | .len x | .snil _ x | .cap x | .rsl _ _ x | .rowf _ x=>opdT x
 | .pick c x y=>opdT c++opdT x++opdT y
 | .alloc _ | .bad=>[]
 | .build l=>l.flatMap segT
 | .row _ l | .rowo _ l | .rowd _ l=>l.flatMap (·.flatMap segT)
 | .st _ _ a x | .bin _ a x | .binb _ a x | .binn _ a x | .mk _ _ a x | .idx _ a x | .app _ a x | .app0 _ a x | .appb _ _ a x | .copy _ a x | .cpy _ a x | .appz _ _ a x | .ai _ _ a x | .aix _ _ _ a x=>opdT a++opdT x
 | .clo _ l | .max l | .min l | .sop _ l=>l.flatMap opdT
 | .sl _ x lo hi | .rsb _ _ x lo hi=>opdT x++(lo.map opdT).getD []++(hi.map opdT).getD []
 | .call _ l | .callf _ l | .callr _ l | .calli _ l=>l.flatMap opdT
 | .callv f l=>opdT f++l.flatMap opdT
end
end Go.Abs
end
namespace Go.Abs
abbrev AO.M (d x : Nat) : AO := ⟨some d, none, .mv (.t x)⟩
abbrev AO.N (d : Nat) (n : Int) : AO := ⟨some d, none, .mv (.c (.one (.lit (.int .i64 n))))⟩
abbrev AO.L (d z x : Nat) : AO := ⟨some d, none, .ld none z true (.t x)⟩
abbrev AO.F (d z x : Nat) : AO := ⟨some d, none, .ld none z false (.t x)⟩
abbrev AO.S (z x y : Nat) : AO := ⟨none, none, .st none z (.t x) (.t y)⟩
abbrev AO.H (d f x : Nat) : AO := ⟨some d, none, .call f [.t x]⟩
abbrev AO.D (d f x y : Nat) : AO := ⟨some d, none, .call f [.t x, .t y]⟩
abbrev AO.E (d f x y z : Nat) : AO := ⟨some d, none, .call f [.t x, .t y, .t z]⟩
abbrev AO.X (d n x : Nat) : AO := ⟨some d, none, .ext n (.t x)⟩
abbrev AO.B (d : Nat) (o : BinOp) (x y : Nat) : AO := ⟨some d, none, .bin o (.t x) (.t y)⟩
abbrev AO.I (d : Nat) (o : BinOp) (x : Nat) (n : Int) : AO := ⟨some d, none, .bin o (.t x) (.c (.one (.lit (.int .i64 n))))⟩
abbrev AO.J (d z x y : Nat) : AO := ⟨some d, none, .idx z (.t x) (.t y)⟩
abbrev AO.Z (d x : Nat) : AO := ⟨some d, none, .len (.t x)⟩
abbrev AO.A (d n x : Nat) : AO := ⟨some d, none, .fa n (.t x)⟩
abbrev AO.V (d n : Nat) (b : Bool) (x : Nat) : AO := ⟨some d, some (n, b), .mv (.t x)⟩
abbrev AO.W (d n : Nat) (b : Bool) (f x : Nat) : AO := ⟨some d, some (n, b), .call f [.t x]⟩
abbrev AO.Y (d n : Nat) (b : Bool) (f x y : Nat) : AO := ⟨some d, some (n, b), .call f [.t x, .t y]⟩
abbrev AO.K (d z x : Nat) : AO := ⟨some d, none, .box z (.t x)⟩
abbrev AO.P (d x y : Nat) : AO := ⟨some d, none, .pick (.t x) (.t y) (.c (.one (.lit (.bool false))))⟩
abbrev AO.Q (d x y : Nat) : AO := ⟨some d, none, .pick (.t x) (.c (.one (.lit (.bool true)))) (.t y)⟩
abbrev AO.G (d : Nat) (l : List C) : AO := ⟨some d, none, .alloc l⟩
abbrev AO.R (d x : Nat) : AO := ⟨some d, none, .binn .neq (.t x) (.c (.one (.lit .nilIface)))⟩
abbrev AO.T (d n : Nat) (b : Bool) (m x : Nat) : AO := ⟨some d, some (n, b), .fa m (.t x)⟩
abbrev AO.U (d n : Nat) (b : Bool) (z : Nat) (e : Bool) (x : Nat) : AO := ⟨some d, some (n, b), .ld none z e (.t x)⟩
abbrev C.z : C := .lit (.bool false)
abbrev AC.o (l : List AO) (k : List Nat) (b : AC) : AC := .seq (.ops false l) (.fg k b)
abbrev AC.f (a : AC) (k : List Nat) (b : AC) : AC := .seq a (.fg k b)
abbrev AC.p (l : List AO) : AC := .ops false l
abbrev AC.y (l : List AO) : AC := .ops true l
end Go.Abs
namespace Go.Abs
abbrev AO.m(d:Nat)(x:Opd):AO:=⟨some d,none,.mv x⟩
abbrev AO.u(d:Nat)(x:AOp):AO:=⟨some d,none,x⟩
abbrev AO.w(d n:Nat)(b:Bool)(x:AOp):AO:=⟨some d,some (n,b),x⟩
abbrev AO.n(x:AOp):AO:=⟨none,none,x⟩
abbrev Opd.i(n:Int):Opd:=.c (.one (.lit (.int .i64 n)))
abbrev Opd.tr:Opd:=.c (.one (.lit (.bool true)))
abbrev Opd.fa:Opd:=.c (.one (.lit (.bool false)))
end Go.Abs
section
namespace Go.Abs
section
variable (P:Program)
def AOp.base:AOp->Option Nat
 | .ld b _ _ _ | .st b _ _ _=>b
 | .appb b _ _ _=>some b
 | _=>none
def parted(p q:AOp):Bool:=
 match p.base,q.base with
 | some a,some b=>a != b
 | _,_=>false
def clsOk(p q:AOp):Bool:=
 match p.cls,q.cls with
 | 6,_=>false
 | _,6=>false
 | 0,_=>true
 | _,0=>true
 | 1,1=>true
 | 1,2=>true
 | 2,2=>true
 | 3,2=>true
 | 4,1=>true
 | 1,4=>true
 | 4,2=>true
 | 1,5=>true
 | 4,5=>true
 | 1,3=>parted p q
 | 3,1=>parted p q
 | 3,3=>parted p q
 | _,_=>false
def early(p q:AO):Bool:=
 (p.o.cls == 2 || p.o.cls == 5) && q.o.cls == 1 &&
 match q.o.base,p.d with
 | some b,some d=>b != d
 | _,_=>false
def swapOkB(e:Bool)(p q:AO)(pl ql:List Nat):Bool:=
 (match p.d with | some d=>!ql.contains d && q.d != some d | none=>true) &&
 (match q.d with | some d=>!pl.contains d | none=>true) && (clsOk p.o q.o || (e && early p q))
abbrev swapOk:=swapOkB true
def AO.looks(o:AO):List Nat:=o.o.looks++(match o.g with | some (g,_)=>[g] | none=>[])
def unionN:List Nat->List Nat->List Nat
 | [],l=>l
 | x::xs,l=>if l.contains x then unionN xs l else unionN xs (x::l)
def anc(ops:Array Oper):List (List Nat):=
 ops.toList.foldl (init:=[]) λacc o=>
  acc++[o.after.toList.foldl (init:=[]) λl e=>if Region.binds .any e then unionN (e.on::(acc[e.on]?).getD []) l else l]
def freshApp(ops:Array Oper):AOp->AOp
 | .app z (.t n) y=>if ops.toList.any (λo=>o.dst == some n && (match o.op with | .buildSlice _ 0 _=>true | _=>false)) && ops.toList.all (λo=>o.dst != some n || (match o.op with | .buildSlice _ 0 _=>true | _=>false)) then .app0 z (.t n) y else .app z (.t n) y
 | o=>o
def cAO(ops:Array Oper)(o:Oper):Option AO:=do
 let g <-match o.guard with
  | none=>some none
  | some (j,w)=>do
   let oj <-ops[j]?
   let t <-oj.dst
   if t<1048576 then pure (some (t,w)) else none
 let a:=(cOp P o).getD .bad
 pure ⟨o.dst,g,freshApp ops a⟩
def rankOk(md:Region.Mode)(ops:Array Oper)(l:List Nat):Bool:=
 ops.toList.zipIdx.all λ(o,i)=>l.contains i && o.after.toList.all λe=>!Region.binds md e || (e.on<ops.size && l.idxOf e.on<l.idxOf i)
def orderOkB(b:Bool)(ops:Array Oper)(l:List AO):Bool:=
 ops.toList.zipIdx.all (λ(o,i)=>o.after.toList.all λe=>(!Region.binds .any e && !Region.binds .text e) || e.on<i) &&
 (!Region.departs ops || rankOk .gc ops (Region.linearise .gc ops 0)) &&
 (List.range l.length).all λi=>(List.range i).all λj=>
  (((anc ops)[i]?).getD []).contains j ||
   match l[j]?,l[i]? with
   | some p,some q=>swapOkB b p q p.looks q.looks
   | _,_=>false
abbrev orderOk:=orderOkB true
def baseOf(l:List AO):Opd->Option Nat
 | .t n=>match l.find? (λo=>o.d == some n) with
  | some ⟨_,_,.fa _ (.t m)⟩=>some m
  | some ⟨_,_,.alloc _⟩=>some n
  | some ⟨_,_,.box _ _⟩=>some n
  | some ⟨_,_,.ai _ _ (.t m) _⟩=>match l.find? (λo=>o.d == some m) with
   | some ⟨_,_,.ai _ _ (.t k) _⟩=>some k
   | some _=>none
   | none=>some m
  | some _=>none
  | none=>some n
 | .c _=>none
def claim(l:List AO)(o:AO):AO:=
 match o.o with
 | .ld _ n g a=>{ o with o:=.ld (baseOf l a) n g a }
 | .st _ n a x=>{ o with o:=.st (baseOf l a) n a x }
 | _=>o
def claim2(l:List AO)(o:AO):AO:=
 match o.o with
 | .ld _ n g (.t m)=>match l.find? (λo=>o.d == some m) with
  | some ⟨_,_,.idx _ _ _⟩=>{ o with o:=.ld (some m) n g (.t m) }
  | _=>claim l o
 | _=>claim l o
def claim3(l:List AO)(o:AO):AO:=
 match o.o,o.d with
 | .app z x y,some d=>{ o with o:=.appb d z x y }
 | _,_=>claim l o
def claim4(l:List AO)(o:AO):AO:=
 match o.o with
 | .row z [[.x n (.t m)]]=>if n=z/\l.any (λp=>p.d == some m && (match p.o with | .app ..=>true | .app0 ..=>true | _=>false))=true then { o with o:=.rowf z (.t m) } else o
 | _=>o
def claim5(l:List AO)(o:AO):AO:=
 match o.o with
 | .app z (.t n) y=>if l.any (λp=>p.d == some n && (match p.o with | .callf ..=>true | _=>false))=true then { o with o:=.appb n z (.t n) y } else claim l o
 | _=>claim l o
def own1(l:List AO)(n:Nat):Bool:=
 l.any λo=>o.d == some n && match o.o with | .app ..=>true | .app0 ..=>true | .appz ..=>true | .mk ..=>true | .callf ..=>true | _=>false
def own2(l:List AO)(n:Nat):Bool:=
 own1 l n || l.any λo=>o.d == some n && match o.o with | .build sg=>sg.any (λs=>match s with | .x _ (.t m)=>own1 l m | _=>false) | _=>false
def claim6(l:List AO)(o:AO):AO:=
 match o.o with
 | .row z es=>if es.any (λe=>e.any λs=>match s with | .x _ (.t m)=>own2 l m | _=>false)=true then { o with o:=.rowd z es } else o
 | _=>claim l o
def isRowd(o:AO):Bool:=match o.o with | .rowd ..=>true | _=>false
def dstOk(n:Nat)(l:List AO):Bool:=l.all λo=>match o.d with | some d=>d<n | none=>true
def compile(n:Nat):Code->Option AC
 | .skip=>some .skip
 | .region _ ops dr=>do
  let l <-ops.toList.mapM (cAO P ops)
  let c:=l.map (claim l)
  if !dstOk n l then none else
  if dr && (l.map (claim4 l)).any (λo=>match o.o with | .rowf ..=>true | _=>false) && orderOkB false ops (l.map (claim4 l)) then pure (.ops dr (l.map (claim4 l))) else
  if dr && (l.map (claim6 l)).any isRowd && orderOkB true ops (l.map (claim6 l)) then pure (.ops dr (l.map (claim6 l))) else
  if !dr || orderOkB false ops l then pure (.ops dr l) else
  if orderOkB false ops c then pure (.ops dr c) else
  if orderOkB false ops (l.map (claim2 l)) then pure (.ops dr (l.map (claim2 l))) else
  if orderOkB false ops (l.map (claim3 l)) then pure (.ops dr (l.map (claim3 l))) else
  if orderOkB true ops c then pure (.ops dr c) else
  if orderOkB true ops (l.map (claim5 l)) then pure (.ops dr (l.map (claim5 l))) else none
 | .seq a b=>do pure (.seq (<-compile n a) (<-compile n b))
 | .cond c a b=>do pure (.cond (<-cOpd c) (<-compile n a) (<-compile n b))
 | .block id a=>(compile n a).map (.block id)
 | .loop a=>(compile n a).map .loop
 | .exit id=>some (.exit id)
 | .label _=>some .skip
 | .ret=>some .ret
 | _=>none
end
def upd{α:Type}(f:Nat->α)(d:Nat)(x:α):Nat->α:=λt=>if t=d then x else f t
def S.ev(s:S):Opd->AV
 | .t n=>s.v n
 | .c a=>a
def S.put(s:S):Option Nat->AV->S
 | some d,x=>⟨upd s.v d x,s.h⟩
 | none,_=>s
def S.setH(s:S)(h:Nat->HB):S:=⟨s.v,h⟩
inductive Spec where
 | none
 | dat (scalar:Bool) (G:List AV->(AV->Prop)->Prop)
 | own (G:Option Nat->List AV->(Nat->HB)->(AV->(Nat->HB)->Prop)->Prop)
 | fresh (z:Nat) (G:List AV->(List (List C)->Prop)->Prop)
 | red (G:List AV->(AV->Prop)->Prop)
 | inl (G:Option Nat->List AV->S->(AV->S->Prop)->Prop)
 | look (G:List (List C)->List AV->(AV->Prop)->Prop)
def HB.at(b:HB)(ver:Nat):Option Blk:=if b.ver=ver then b.blk else none
def viewOf(h:Nat->HB)(r ver off len:Nat):Option (List (List C)):=
 match (h r).at ver with
 | some b=>if off+len<=b.es.length then some ((b.es.drop off).take len) else none
 | none=>none
inductive Clean:C->Prop
 | lit (v:Value):Clean (.lit v)
 | emp:Clean .emp
 | any:Clean .any
 | slice (es:List (List C)):(∀e∈es,∀c∈e,Clean c)->Clean (.slice es)
 | full (es:List (List C)):(∀e∈es,∀c∈e,Clean c)->Clean (.full es)
 | ref (cs:List C):(∀c∈cs,Clean c)->Clean (.ref cs)
 | clo (f:FuncId) (cs:List C):(∀c∈cs,Clean c)->Clean (.clo f cs)
def CleanL(cs:List C):Prop:=∀c∈cs,Clean c
def CleanR(es:List (List C)):Prop:=∀e∈es,∀c∈e,Clean c
noncomputable def datV(h:Nat->HB)(r ver off len:Nat):C:=
 match viewOf h r ver off len with
 | some es=>@ite _ (CleanR es) (Classical.propDecidable _) (.slice es) .any
 | none=>.any
noncomputable def datP(h:Nat->HB)(r ver i off:Nat):C:=
 match (h r).at ver with
 | some b=>match b.es[i]? with
  | some e=>@ite _ (off<=e.length/\CleanL (e.drop off)) (Classical.propDecidable _) (.ref (e.drop off)) .any
  | none=>.any
 | none=>.any
noncomputable def datB(h:Nat->HB):C->C
 | .own r ver _ off len=>datV h r ver off len
 | .ptr r ver i off=>datP h r ver i off
 | .emp=>.slice []
 | .full es=>.slice es
 | .clo _ _=>.any
 | c=>c
noncomputable def datC(h:Nat->HB):C->C
 | .clo f caps=>.clo f (caps.map (datB h))
 | c=>datB h c
noncomputable def datA(h:Nat->HB):AV->AV
 | .one c=>.one (datC h c)
 | .agg cs=>.agg (cs.map (datC h))
 | _=>.any
def CleanV:AV->Prop
 | .one c=>Clean c
 | .agg cs=>CleanL cs
 | .any=>True
 | .tup _=>False
def CleanA:AV->Prop
 | .tup l=>∀a∈l,CleanV a
 | a=>CleanV a
def ownB:C->List Nat
 | .own r _ _ _ _=>[r]
 | .ptr r _ _ _=>[r]
 | _=>[]
def ownC:C->List Nat
 | .clo _ caps=>caps.flatMap ownB
 | c=>ownB c
def ownA:AV->List Nat
 | .one c=>ownC c
 | .agg cs=>cs.flatMap ownC
 | _=>[]
def HB.dead(b:HB):HB:={ b with blk:=b.blk.map λb=>{ b with live:=false } }
def frz:List Nat->(Nat->HB)->Nat->HB
 | [],h=>h
 | r::l,h=>frz l (upd h r (h r).dead)
def isLit:AV->Prop
 | .one (.lit _)=>True
 | _=>False
def maxLenA:Nat:=9223372036854775807
def roomA:Nat:=68719476736
def pinA:Nat:=1048576
def asInt(K:IntKind->Int->Prop):AV->Prop
 | .one (.lit (.int k n))=>K k n
 | _=>False
def asBool(K:Bool->Prop):AV->Prop
 | .one (.lit (.bool b))=>K b
 | _=>False
def asCells(K:List C->Prop):AV->Prop
 | .one c=>K [c]
 | .agg cs=>K cs
 | _=>False
def intR(K:AV->Prop)(k:IntKind)(n:Int):Prop:=K (.one (.lit (.int k n)))
def boolR(K:AV->Prop)(b:Bool):Prop:=K (.one (.lit (.bool b)))
def numR(K:AV->Prop):IntKind->Int->Prop
 | .i64,n=>(-9223372036854775808<=n/\n<=9223372036854775807)/\intR K .i64 n
 | .u64,n=>intR K .u64 (n % 18446744073709551616)
 | .u32,n=>intR K .u32 (n % 4294967296)
 | .u8,n=>intR K .u8 (n % 256)
 | _,_=>False
def arith(K:AV->Prop):BinOp->IntKind->Int->Int->Prop
 | .add,k,a,b=>numR K k (a+b)
 | .sub,k,a,b=>numR K k (a-b)
 | .mul,k,a,b=>numR K k (a*b)
 | .quo,k,a,b=>(0<=a/\0<b)/\numR K k (a / b)
 | .rem,k,a,b=>(0<=a/\0<b)/\intR K k (a % b)
 | .and,k,a,b=>(k.signed=false/\0<=a/\0<=b/\a<2 ^ k.bits/\b<2 ^ k.bits)/\intR K k (Int.ofNat (a.toNat &&& b.toNat))
 | .or,k,a,b=>(k.signed=false/\0<=a/\0<=b/\a<2 ^ k.bits/\b<2 ^ k.bits)/\intR K k (Int.ofNat (a.toNat ||| b.toNat))
 | .eql,_,a,b=>boolR K (decide (a=b))
 | .neq,_,a,b=>boolR K (!decide (a=b))
 | .lss,_,a,b=>boolR K (decide (a<b))
 | .leq,_,a,b=>boolR K (decide (a<=b))
 | .gtr,_,a,b=>boolR K (decide (b<a))
 | .geq,_,a,b=>boolR K (decide (b<=a))
 | _,_,_,_=>False
def shlA(K:AV->Prop)(k:IntKind)(a b:Int):Prop:=(0<=a/\0<=b/\b<=k.bits)/\numR K k (a*2 ^ b.toNat)
def shrA(K:AV->Prop)(k:IntKind)(a b:Int):Prop:=(0<=a/\0<=b/\b<=k.bits)/\intR K k (a / 2 ^ b.toNat)
def isNilV:Value->Option Bool
 | .nilIface=>some true
 | .iface _ _=>some false
 | _=>none
def nilR(K:Bool->Prop):Option Bool->Prop
 | some b=>K b
 | none=>False
def binI(K:AV->Prop)(k k' : IntKind)(a b:Int):BinOp->Prop
 | .shl=>shlA K k a b
 | .shr=>shrA K k a b
 | op=>k=k'/\arith K op k a b
def binA(K:AV->Prop)(op:BinOp):AV->AV->Prop
 | .one (.lit (.int k a)),.one (.lit (.int k' b))=>binI K k k' a b op
 | _,_=>False
def binbA(K:AV->Prop):BinOp->AV->AV->Prop
 | .eql,.one (.lit (.bool a)),.one (.lit (.bool b))=>boolR K (a == b)
 | .neq,.one (.lit (.bool a)),.one (.lit (.bool b))=>boolR K (!(a == b))
 | _,_,_=>False
def binnA(K:AV->Prop):BinOp->Bool->AV->AV->Prop
 | .eql,true,.one (.lit a),.one (.lit .nilIface)=>nilR (λb=>boolR K b) (isNilV a)
 | .neq,true,.one (.lit a),.one (.lit .nilIface)=>nilR (λb=>boolR K (!b)) (isNilV a)
 | _,_,_,_=>False
def isConst:Opd->Bool
 | .c _=>true
 | _=>false
def unA(K:AV->Prop):UnOp->AV->Prop
 | .not,.one (.lit (.bool b))=>boolR K (!b)
 | .neg,.one (.lit (.int k a))=>numR K k (-a)
 | _,_=>False
def convA(K:AV->Prop)(k:IntKind):AV->Prop
 | .one (.lit (.int _ a))=>numR K k a
 | _=>False
def ifaceA(K:AV->Prop)(t:TypeId):AV->Prop
 | .one (.lit (.int k n))=>K (.one (.lit (.iface t (.int k n))))
 | _=>False
def segA(ev:Opd->AV):List Seg->(List C->Prop)->Prop
 | [],K=>K []
 | .z cs::r,K=>segA ev r λl=>K (cs++l)
 | .x n o::r,K=>asCells (λcs=>cs.length=n/\segA ev r λl=>K (cs++l)) (ev o)
def asOne(K:C->Prop):AV->Prop
 | .one c=>K c
 | _=>False
def capA(ev:Opd->AV):List Opd->(List C->Prop)->Prop
 | [],K=>K []
 | o::r,K=>asOne (λc=>capA ev r λl=>K (c::l)) (ev o)
def rowA(ev:Opd->AV)(z:Nat):List (List Seg)->(List (List C)->Prop)->Prop
 | [],K=>K []
 | sg::r,K=>segA ev sg λcs=>cs.length=z/\rowA ev z r λl=>K (cs::l)
def splice(e:List C)(off n:Nat)(xs:List C):List C:=e.take off++(xs++e.drop (off+n))
def getE(K:List C->Prop)(es:List (List C))(i:Nat):Prop:=i<es.length/\∀e,es[i]?=some e->K e
def hd1(K:AV->Prop):List C->Prop
 | c::_=>K (.one c)
 | []=>False
def ldK(K:AV->Prop)(n:Nat):Bool->List C->Prop
 | true,cs=>n<=cs.length/\K (.agg (cs.take n))
 | false,cs=>hd1 K cs
def blkA(K:List (List C)->Nat->Bool->Prop)(h:Nat->HB)(r ver:Nat):Prop:=∃b,(h r).at ver=some b/\K b.es b.z b.live
def baseIs:Option Nat->AV->Prop
 | none,_=>True
 | some b,.one (.ptr r _ _ _)=>r=b
 | some _,.one (.ref _)=>True
 | _,_=>False
def ldA(K:AV->Prop)(n:Nat)(g:Bool)(h:Nat->HB):AV->Prop
 | .one (.ref cs)=>ldK K n g cs
 | .one (.ptr r ver i off)=>blkA (λes _ _=>getE (λe=>ldK K n g (e.drop off)) es i) h r ver
 | _=>False
def stA(K:(Nat->HB)->Prop)(n:Nat)(h:Nat->HB)(x:AV):AV->Prop
 | .one (.ptr r ver i off)=>asCells (λxs=>blkA (λes z live=>(live=true/\xs.length=n)/\getE (λe=>off+n<=e.length/\
   K (upd h r ⟨ver,some ⟨es.set i (splice e off n xs),z,live⟩⟩)) es i) h r ver) x
 | _=>False
def newB(K:Nat->Prop):HB->Prop
 | ⟨ver,none⟩=>K (ver+1)
 | ⟨_,some _⟩=>False
def newA(K:S->Prop)(s:S)(b:Blk)(a:Nat->Nat->AV):Option Nat->Prop
 | some d=>newB (λver=>K ⟨upd s.v d (a d ver),upd s.h d ⟨ver,some b⟩⟩) (s.h d)
 | none=>False
def idxA(K:AV->Prop)(z:Nat)(i:AV):AV->Prop
 | .one (.slice es)=>asInt (λ_ i=>0<=i/\getE (λe=>e.length=z/\K (.one (.ref e))) es i.toNat) i
 | .one (.full es)=>asInt (λ_ i=>0<=i/\getE (λe=>e.length=z/\K (.one (.ref e))) es i.toNat) i
 | .one (.own r ver z' off len)=>asInt (λ_ i=>(0<=i/\i<len/\z=z')/\K (.one (.ptr r ver (off+i.toNat) 0))) i
 | _=>False
def bndK(dr:Bool)(n:Nat)(K:Prop):Prop:=(dr=true->n<=maxLenA)/\(n<=maxLenA->K)
def lenA(K:AV->Prop)(dr:Bool):AV->Prop
 | .one (.slice es)=>bndK dr es.length (intR K .i64 es.length)
 | .one (.full es)=>bndK dr es.length (intR K .i64 es.length)
 | .one .emp=>intR K .i64 0
 | .one (.own _ _ _ _ len)=>bndK dr len (intR K .i64 len)
 | _=>False
def snilK(K:AV->Prop)(neg:Bool)(e:Prop):Prop:=(e->boolR K (!neg))/\boolR K neg
def snilA(K:AV->Prop)(neg:Bool):AV->Prop
 | .one .emp=>snilK K neg True
 | .one (.slice es)=>snilK K neg (es=[])
 | .one (.full es)=>snilK K neg (es=[])
 | .one (.own _ _ _ _ len)=>snilK K neg (len=0)
 | _=>False
def capZ(K:AV->Prop):AV->Prop
 | .one .emp=>intR K .i64 0
 | _=>False
def bnd(K:Nat->Prop)(ev:Opd->AV)(dflt:Nat):Option Opd->Prop
 | none=>K dflt
 | some a=>asInt (λ_ i=>0<=i/\K i.toNat) (ev a)
def slA(K:AV->Prop)(z:Nat)(ev:Opd->AV)(lo hi:Option Opd):AV->Prop
 | .one (.slice es)=>bnd (λh=>bnd (λl=>(l<=h/\h<=es.length/\∀e∈es,e.length=z)/\K (.one (.slice ((es.drop l).take (h-l))))) ev 0 lo) ev es.length hi
 | .one (.full es)=>bnd (λh=>bnd (λl=>(l<=h/\h<=es.length/\∀e∈es,e.length=z)/\K (.one (.slice ((es.drop l).take (h-l))))) ev 0 lo) ev es.length hi
 | .one (.own r ver z' off len)=>bnd (λh=>bnd (λl=>(l<=h/\h<=len/\z=z')/\K (.one (.own r ver z (off+l) (h-l)))) ev 0 lo) ev len hi
 | .one .emp=>bnd (λh=>bnd (λl=>(l=0/\h=0)/\K (.one .emp)) ev 0 lo) ev 0 hi
 | _=>False
def elemsA(K:List (List C)->Prop)(h:Nat->HB):AV->Prop
 | .one (.slice es)=>K es
 | .one (.full es)=>K es
 | .one .emp=>K []
 | .one (.own r ver _ off len)=>blkA (λes _ _=>off+len<=es.length/\K ((es.drop off).take len)) h r ver
 | _=>False
def appF(K:S->Prop)(z:Nat)(d:Option Nat)(s:S)(es:List (List C)):List (List C)->Prop
 | []=>newA K s ⟨[],z,true⟩ (λ_ _=>.one (.full es)) d
 | y::ys=>(es.length+(y::ys).length<=roomA/\∀e∈es,e.length=z)/\
   newA K s ⟨es++y::ys,z,true⟩ (λd ver=>.one (.own d ver z 0 (es.length+(y::ys).length))) d
def appK(K:S->Prop)(z:Nat)(d:Option Nat)(s:S)(ys:List (List C)):AV->Prop
 | .one .emp=>ys.length<=roomA/\newA K s ⟨ys,z,true⟩ (λd ver=>.one (.own d ver z 0 ys.length)) d
 | .one (.full es)=>appF K z d s es ys
 | .one (.own r ver z' 0 len)=>blkA (λes zb live=>(live=true/\z=z'/\z=zb/\len<=es.length/\len+ys.length<=roomA/\r<pinA)/\
   K (S.put ⟨s.v,upd s.h r ⟨ver+1,some ⟨es.take len++ys,z,true⟩⟩⟩ d (.one (.own r (ver+1) z 0 (len+ys.length))))) s.h r ver
 | _=>False
def appA(K:S->Prop)(z:Nat)(d:Option Nat)(s:S)(x y:AV):Prop:=
 elemsA (λys=>(∀e∈ys,e.length=z)/\appK K z d s ys x) s.h y
def sopV(k:Nat)(vs:List Value):Option Value:=
 match k,vs with
 | 0,[.string s,.int _ l,.int _ h]=>if 0<=l/\l<=h/\h<=(s.size:Int) then some (.string (s.extract l.toNat h.toNat)) else none
 | 1,[.string x,.string y]=>some (.bool (x.toList == y.toList))
 | 2,[.string x,.string y]=>if x.size+y.size<=1000000 then some (.string (x++y)) else none
 | 3,[.string x,.int _ i]=>if 0<=i then (x[i.toNat]?).map λb=>.int .u8 b.toNat else none
 | 4,[.string x]=>some (.int .i64 x.size)
 | 5,[.agg ⟨[.int k a,.int l b]⟩,.agg ⟨[.int k' c,.int l' d]⟩]=>if k=k'/\l=l' then some (.bool (a == c && b == d)) else none
 | _,_=>none
def litC:C->Option Value
 | .lit v=>some v
 | _=>none
def litV:AV->Option Value
 | .one (.lit v)=>some v
 | .agg l=>(l.mapM litC).map λvs=>.agg ⟨vs⟩
 | _=>none
def sopA(K:AV->Prop)(k:Nat)(l:List AV):Prop:=
 match (l.mapM litV).bind (sopV k) with
 | some v=>K (.one (.lit v))
 | none=>False
def isEmp(K:Prop):AV->Prop
 | .one .emp=>K
 | _=>False
def maxK(pick:Int->Int->Int)(ev:Opd->AV)(K:AV->Prop):List Opd->IntKind->Int->Prop
 | [],k,a=>intR K k a
 | y::r,k,a=>asInt (λk' b=>k=k'/\maxK pick ev K r k (pick a b)) (ev y)
def maxA(pick:Int->Int->Int)(ev:Opd->AV)(K:AV->Prop):List Opd->Prop
 | []=>False
 | x::r=>asInt (λk a=>maxK pick ev K r k a) (ev x)
def mx(a b:Int):Int:=if a<b then b else a
def mn(a b:Int):Int:=if b<a then b else a
def mk0:Blk:=⟨[[.lit .nilIface]],1,true⟩
noncomputable def callR(K:AV->Prop)(args:List AV)(h:Nat->HB):Spec->Prop
 | .red G=>match args with
  | .one (.ptr r ver 0 0)::rest=>blkA (λes z live=>(es=[[.lit .nilIface]]/\z=1/\live=true)/\rest.flatMap ownA=[]/\G (rest.map (datA h)) K) h r ver
  | _=>False
 | .look G=>match args with
  | .one (.ptr r ver 0 0)::rest=>blkA (λes _ live=>(live=true/\CleanR es)/\rest.flatMap ownA=[]/\G es (rest.map (datA h)) K) h r ver
  | _=>False
 | _=>False
noncomputable def callS(K:S->Prop)(dr:Bool)(d:Option Nat)(args:List AV)(s:S):Spec->Prop
 | .dat true G=>(dr=true->args.flatMap ownA=[])/\G (args.map (datA s.h)) λr=>isLit r/\K (s.put d r)
 | .dat false G=>(dr=true->args.flatMap ownA=[])/\G (args.map (datA s.h)) λr=>K ((s.setH (frz (args.flatMap ownA) s.h)).put d r)
 | .own G=>dr=false/\G d args s.h λr h=>K ((s.setH h).put d r)
 | .inl G=>dr=false/\G d args s λr s'=>K (s'.put d r)
 | .fresh _ _=>False
 | .red _=>False
 | .look G=>dr=false/\callR (λr=>K (s.put d r)) args s.h (.look G)
 | .none=>False
def callI(K:S->Prop)(d:Option Nat)(args:List AV)(s:S):Spec->Prop
 | .inl G=>G d args s λr s'=>K (s'.put d r)
 | _=>False
noncomputable def datE(h:Nat->HB):AV->AV
 | .one .emp=>.one .emp
 | .one (.full es)=>.one (.full es)
 | a=>datA h a
def callF(K:S->Prop)(dr:Bool)(d:Option Nat)(args:List AV)(s:S):Spec->Prop
 | .fresh z G=>(dr=true->args.flatMap ownA=[])/\G (args.map (datE s.h)) λes=>newA K (s.setH (frz (args.flatMap ownA) s.h)) ⟨es,z,true⟩ (λd ver=>.one (.own d ver z 0 es.length)) d
 | _=>False
def cloA(K:Nat->List AV->Prop)(f:Nat)(args:List AV):List C->Prop
 | .lit (.agg ⟨[]⟩)::l=>K f (l.map .one++args)
 | caps=>K f (args++caps.map .one)
def callVA(K:Nat->List AV->Prop)(args:List AV):AV->Prop
 | .one (.lit (.func (.func f) ⟨[]⟩ ⟨[]⟩))=>K f args
 | .one (.clo f caps)=>cloA K f args caps
 | _=>False
def extA(K:AV->Prop)(i:Nat):AV->Prop
 | .tup l=>i<l.length/\∀a,l[i]?=some a->K a
 | _=>False
def tassA(K:AV->Prop)(t:TypeId)(zero:AV):AV->Prop
 | .one (.lit (.iface t' u))=>(t' = t->isCell u=true/\K (.tup [.one (.lit u),.one (.lit (.bool true))]))/\(t'≠t->K (.tup [zero,.one (.lit (.bool false))]))
 | .one (.lit .nilIface)=>K (.tup [zero,.one (.lit (.bool false))])
 | _=>False
def faA(K:AV->Prop)(off:Nat):AV->Prop
 | .one (.ptr r ver i o)=>K (.one (.ptr r ver i (o+off)))
 | .one (.ref cs)=>off<=cs.length/\K (.one (.ref (cs.drop off)))
 | _=>False
def nilckA(K:AV->Prop):AV->Prop
 | .one (.ptr r ver i off)=>K (.one (.ptr r ver i off))
 | .one (.ref cs)=>K (.one (.ref cs))
 | _=>False
def fldA(K:AV->Prop)(n:Nat)(g:Bool)(off:Nat):AV->Prop
 | .agg cs=>off<=cs.length/\ldK K n g (cs.drop off)
 | _=>False
def aiA(K:AV->Prop)(z n:Nat)(i x:AV):Prop:=asInt (λ_ j=>(0<=j/\j<(n:Int))/\faA K (j.toNat*z) x) i
def aixA(K:AV->Prop)(z:Nat)(g:Bool)(n:Nat)(i x:AV):Prop:=asInt (λ_ j=>(0<=j/\j<(n:Int))/\fldA K z g (j.toNat*z) x) i
def chunk(z:Nat):Nat->List C->List (List C)
 | 0,_=>[]
 | n+1,cs=>cs.take z::chunk z n (cs.drop z)
def rslA(K:AV->Prop)(z n:Nat):AV->Prop
 | .one (.ref cs)=>(cs.length=n*z/\n<=roomA)/\K (.one (.full (chunk z n cs)))
 | _=>False
def clrK(K:(Nat->HB)->Prop)(z:Nat)(h:Nat->HB):AV->AV->Prop
 | .one (.own r ver z' off len),.agg zs=>blkA (λes zb live=>(live=true/\z=z'/\z=zb/\zs.length=z/\off+len<=es.length)/\
   K (upd h r ⟨ver,some ⟨es.take off++(List.replicate len zs++es.drop (off+len)),z,true⟩⟩)) h r ver
 | _,_=>False
def nrmC:C->C
 | .emp=>.slice []
 | c=>c
def nrmR(es:List (List C)):List (List C):=es.map λe=>e.map nrmC
def cpyK(K:(Nat->HB)->Prop)(z:Nat)(h:Nat->HB)(ys:List (List C)):AV->Prop
 | .one (.own r ver z' off len)=>blkA (λes zb live=>(live=true/\z=z'/\z=zb/\ys.length<=len/\off+len<=es.length)/\
   K (upd h r ⟨ver,some ⟨nrmR (es.take off++(ys++es.drop (off+ys.length))),z,true⟩⟩)) h r ver
 | _=>False
def appIs(b:Nat)(d:Option Nat):AV->AV->Prop
 | .one (.own r _ _ _ _),.one (.full _)=>r=b
 | .one .emp,.one (.full _)=>d=some b
 | _,_=>False
def rowfA(K:AV->(Nat->HB)->Prop)(z:Nat)(h:Nat->HB):AV->Prop
 | .one (.own r ver _ off len)=>z=1/\blkA (λes zb _=>(off+len<=es.length/\CleanR ((es.drop off).take len))/\K (.one (.full [[.slice ((es.drop off).take len)]])) (upd h r ⟨ver,some ⟨es,zb,false⟩⟩)) h r ver
 | _=>False
def wpO(Γ:Nat->Spec)(dr:Bool)(d:Option Nat)(s:S)(K:S->Prop):AOp->Prop
  | .mv x=>K (s.put d (s.ev x))
  | .pick c x y=>asBool (λb=>(b=true->K (s.put d (s.ev x)))/\(b=false->K (s.put d (s.ev y)))) (s.ev c)
  | .alloc zs=>newA K s ⟨[zs],zs.length,true⟩ (λd ver=>.one (.ptr d ver 0 0)) d
  | .box n x=>asCells (λcs=>cs.length=n/\newA K s ⟨[cs],n,true⟩ (λd ver=>.one (.ptr d ver 0 0)) d) (s.ev x)
  | .build sg=>segA s.ev sg λcs=>K (s.put d (.agg cs))
  | .row z l=>rowA s.ev z l λes=>(dr=true->es.flatMap (·.flatMap ownC)=[])/\
      K ((s.setH (frz (es.flatMap (·.flatMap ownC)) s.h)).put d (.one (.full (es.map (·.map (datC s.h))))))
  | .rowo z l=>dr=false/\rowA s.ev z l λes=>newA K s ⟨es,z,true⟩ (λd ver=>.one (.own d ver z 0 es.length)) d
  | .ld b n g a=>baseIs b (s.ev a)/\ldA (λx=>K (s.put d x)) n g s.h (s.ev a)
  | .st b n a x=>baseIs b (s.ev a)/\stA (λh=>K ((s.setH h).put d (.tup []))) n s.h (s.ev x) (s.ev a)
  | .nilck x=>nilckA (λr=>K (s.put d r)) (s.ev x)
  | .bin op x y=>binA (λr=>K (s.put d r)) op (s.ev x) (s.ev y)
  | .binb op x y=>binbA (λr=>K (s.put d r)) op (s.ev x) (s.ev y)
  | .binn op x y=>binnA (λr=>K (s.put d r)) op (isConst y) (s.ev x) (s.ev y)
  | .un op x=>unA (λr=>K (s.put d r)) op (s.ev x)
  | .conv k x=>convA (λr=>K (s.put d r)) k (s.ev x)
  | .iface t x=>ifaceA (λr=>K (s.put d r)) t (s.ev x)
  | .clo f l=>capA s.ev l λcs=>K (s.put d (.one (.clo f cs)))
  | .mk z zs l c => asInt (λ_ l => asInt (λ_ c => (0 <= l /\ l <= c /\ c <= roomA /\ zs.length = z) /\
        newA K s ⟨List.replicate l.toNat zs,z,true⟩ (λd ver=>.one (.own d ver z 0 l.toNat)) d) (s.ev c)) (s.ev l)
  | .sl z x lo hi=>slA (λr=>K (s.put d r)) z s.ev lo hi (s.ev x)
  | .sl0 x=>elemsA (λ_=>K (s.put d (.one .emp))) s.h (s.ev x)
  | .fa off x=>faA (λr=>K (s.put d r)) off (s.ev x)
  | .fld n g off x=>fldA (λr=>K (s.put d r)) n g off (s.ev x)
  | .idx z x i=>idxA (λr=>K (s.put d r)) z (s.ev i) (s.ev x)
  | .ext i x=>extA (λr=>K (s.put d r)) i (s.ev x)
  | .tass t zero x=>tassA (λr=>K (s.put d r)) t zero (s.ev x)
  | .len x=>lenA (λr=>K (s.put d r)) dr (s.ev x)
  | .app z x y=>appA K z d s (s.ev x) (s.ev y)
  | .appb b z x y=>appIs b d (s.ev x) (s.ev y)/\appA K z d s (s.ev x) (s.ev y)
  | .app0 z x y=>isEmp (appA K z d s (.one .emp) (s.ev y)) (s.ev x)
  | .copy z x y=>dr=false/\clrK (λh=>K ((s.setH h).put d (.tup []))) z s.h (s.ev x) (s.ev y)
  | .cpy z x y=>dr=false/\elemsA (λys=>(∀e∈ys,e.length=z)/\cpyK (λh=>K ((s.setH h).put d (.one (.lit (.int .i64 (ys.length:Nat)))))) z s.h ys (s.ev x)) s.h (s.ev y)
  | .max l=>maxA mx s.ev (λr=>K (s.put d r)) l
  | .min l=>maxA mn s.ev (λr=>K (s.put d r)) l
  | .call f l=>callS K dr d (l.map s.ev) s (Γ f)
  | .callv f l=>callVA (λf args=>callS K dr d args s (Γ f)) (l.map s.ev) (s.ev f)
  | .callf f l=>callF K dr d (l.map s.ev) s (Γ f)
  | .callr f l=>callR (λr=>K (s.put d r)) (l.map s.ev) s.h (Γ f)
  | .snil neg x=>snilA (λr=>K (s.put d r)) neg (s.ev x)
  | .cap x=>capZ (λr=>K (s.put d r)) (s.ev x)
  | .appz z zs x n=>isEmp (asInt (λ_ l=>(0<=l/\l<=roomA/\zs.length=z)/\newA K s ⟨List.replicate l.toNat zs,z,true⟩ (λd ver=>.one (.own d ver z 0 l.toNat)) d) (s.ev n)) (s.ev x)
  | .sop k l=>sopA (λr=>K (s.put d r)) k (l.map s.ev)
  | .ai z n x i=>aiA (λr=>K (s.put d r)) z n (s.ev i) (s.ev x)
  | .aix z g n x i=>aixA (λr=>K (s.put d r)) z g n (s.ev i) (s.ev x)
  | .rsl z n x=>rslA (λr=>K (s.put d r)) z n (s.ev x)
  | .rsb z n x lo hi=>rslA (λr=>slA (λr=>K (s.put d r)) z s.ev lo hi r) z n (s.ev x)
  | .bad=>False
  | .calli f l=>callI K d (l.map s.ev) s (Γ f)
  | .rowd z l=>rowA s.ev z l λes=>newA K s ⟨es,z,true⟩ (λd ver=>.one (.own d ver z 0 es.length)) d
  | .rowf z x=>rowfA (λa h=>K ((s.setH h).put d a)) z s.h (s.ev x)
def grd(K K' : S->Prop)(s:S)(g:Nat)(want:Bool):AV->Prop
 | .one (.lit (.bool b))=>(b=want->K ⟨upd s.v g (.one (.lit (.bool want))),s.h⟩)/\(b=(!want)->K' ⟨upd s.v g (.one (.lit (.bool (!want)))),s.h⟩)
 | .tup []=>K' s
 | _=>False
def wpG(Γ:Nat->Spec)(dr:Bool)(s:S)(K:S->Prop):AO->Prop
 | ⟨d,none,o⟩=>wpO Γ dr d s K o
 | ⟨d,some (g,want),o⟩=>grd (λs=>wpO Γ dr d s K o) (λs=>K (s.put d (.tup []))) s g want (s.v g)
def wpL(Γ:Nat->Spec)(dr:Bool)(K:S->Prop):List AO->S->Prop
 | [],s=>K s
 | o::r,s=>wpG Γ dr s (wpL Γ dr K r) o
inductive Ex where
 | nrm
 | exit (id:Nat)
 | ret
def Ex.seq(K:S->Prop)(Q:Ex->S->Prop):Ex->S->Prop
 | .nrm,s=>K s
 | .exit i,s=>Q (.exit i) s
 | .ret,s=>Q .ret s
def Ex.blk(id:Nat)(Q:Ex->S->Prop):Ex->S->Prop
 | .exit i,s=>if i=id then Q .nrm s else Q (.exit i) s
 | .nrm,s=>Q .nrm s
 | .ret,s=>Q .ret s
inductive WC (ρ:Nat->Nat) (h h' : Nat->HB):C->C->Prop
 | any (c:C):WC ρ h h' c .any
 | lit (v:Value):WC ρ h h' (.lit v) (.lit v)
 | slice (es:List (List C)):WC ρ h h' (.slice es) (.slice es)
 | full (es:List (List C)):WC ρ h h' (.full es) (.full es)
 | emp:WC ρ h h' .emp .emp
 | es:WC ρ h h' .emp (.slice [])
 | fs (es:List (List C)):WC ρ h h' (.full es) (.slice es)
 | ref (cs:List C):WC ρ h h' (.ref cs) (.ref cs)
 | own (r z off len:Nat):(h' r).blk≠none->WC ρ h h' (.own (ρ r) (h (ρ r)).ver z off len) (.own r (h' r).ver z off len)
 | ptr (r i off:Nat):(h' r).blk≠none->WC ρ h h' (.ptr (ρ r) (h (ρ r)).ver i off) (.ptr r (h' r).ver i off)
 | clo (f:FuncId) (l l' : List C):(l.head?=some (.lit (.agg ⟨[]⟩))->l'.head?=some (.lit (.agg ⟨[]⟩)))->l.length=l'.length->(∀(i:Nat) c c',l[i]?=some c->l'[i]?=some c'->WC ρ h h' c c')->WC ρ h h' (.clo f l) (.clo f l')
inductive WA (ρ:Nat->Nat) (h h' : Nat->HB):AV->AV->Prop
 | any (a:AV):WA ρ h h' a .any
 | one (c c' : C):WC ρ h h' c c'->WA ρ h h' (.one c) (.one c')
 | agg (l l' : List C):l.length=l'.length->(∀(i:Nat) c c',l[i]?=some c->l'[i]?=some c'->WC ρ h h' c c')->WA ρ h h' (.agg l) (.agg l')
def WB(ρ:Nat->Nat)(h h' : Nat->HB)(r:Nat):Prop:=
 (h' r).blk=none∨∃b b',(h (ρ r)).blk=some b/\(h' r).blk=some b'/\b'.z=b.z/\b'.live=b.live/\b.es.length=b'.es.length/\
  ∀(i:Nat) e e',b.es[i]?=some e->b'.es[i]?=some e'->e.length=e'.length/\∀(j:Nat) c c',e[j]?=some c->e'[j]?=some c'->WC ρ h h' c c'
structure WeakR (ρ:Nat->Nat) (s s' : S):Prop where
 v:∀t,WA ρ s.h s'.h (s.v t) (s'.v t)
 h:∀r,WB ρ s.h s'.h r
 inj:∀r r',ρ r=ρ r'->r=r'
 pin:∀r,pinA<=r->ρ r=r
def Weak(s s' : S):Prop:=∃ρ,WeakR ρ s s'
def restr(keep:List Nat)(v:Nat->AV):Nat->AV:=λt=>if keep.contains t then v t else .any
def AC.strip:AC->AC
 | .seq a b=>.seq a.strip b.strip
 | .cond c a b=>.cond c a.strip b.strip
 | .block id a=>.block id a.strip
 | .loop a=>.loop a.strip
 | .fg _ a=>a.strip
 | .fz _ a=>a.strip
 | a=>a
noncomputable def frzS:List Nat->S->S
 | [],s=>s
 | t::ts,s=>frzS ts ⟨upd s.v t (datA s.h (s.v t)),frz (ownA (s.v t)) s.h⟩
def wpA(Γ:Nat->Spec):AC->(Ex->S->Prop)->S->Prop
 | .skip,Q,s=>Q .nrm s
 | .ops dr l,Q,s=>wpL Γ dr (Q .nrm) l s
 | .seq a b,Q,s=>wpA Γ a (Ex.seq (wpA Γ b Q) Q) s
 | .cond c a b,Q,s=>asBool (λt=>(t=true->wpA Γ a Q s)/\(t=false->wpA Γ b Q s)) (s.ev c)
 | .block id a,Q,s=>wpA Γ a (Ex.blk id Q) s
 | .loop a,Q,s=>∃(α:Type) (St:α->S) (Inv:α->Prop) (μ:α->Nat) (a0:α),Weak s (St a0)/\Inv a0/\∀x,Inv x->wpA Γ a (Ex.seq (λs'=>∃y,Weak s' (St y)/\Inv y/\μ y<μ x) Q) (St x)
 | .exit id,Q,s=>Q (.exit id) s
 | .ret,Q,s=>Q .ret s
 | .fg keep a,Q,s=>wpA Γ a Q ⟨restr keep s.v,s.h⟩
 | .fz ts a,Q,s=>wpA Γ a Q (frzS ts s)
def find{α:Type}(dflt:α):List (Nat×α)->Nat->α
 | [],_=>dflt
 | (k,v)::r,t=>if t=k then v else find dflt r t
def mkV(l:List (Nat×AV)):Nat->AV:=find .any l
def mkH(l:List (Nat×HB)):Nat->HB:=find ⟨0,none⟩ l
def argL:Nat->List AV->List (Nat×AV)
 | _,[]=>[]
 | k,a::r=>(k,a)::argL (k+1) r
def argS(args:List AV):S:=⟨mkV (argL 0 args),mkH []⟩
inductive RV where
 | tmp (t:Nat)
 | cell (t n:Nat) (agg:Bool)
def cRV(P:Program):ResultVar->Option RV
 | .tmp t=>if t<1048576 then some (.tmp t) else none
 | .cell a t=>if 1048576<=a then none else (sizeT P t).bind λn=>(isAggT P t).bind λg=>some (.cell a n g)
def cRes(P:Program)(fn:Func):Option (List RV):=fn.results.toList.mapM (cRV P)
def rawK(s:S):List RV->(List AV->Prop)->Prop
 | [],K=>K []
 | .tmp t::r,K=>rawK s r λl=>K (s.v t::l)
 | .cell t n g::r,K=>ldA (λx=>rawK s r λl=>K (x::l)) n g s.h (s.v t)
def resOf:List AV->AV
 | [x]=>x
 | l=>.tup l
def finQ(rv:List RV)(K:AV->Prop):Ex->S->Prop
 | .exit _,_=>False
 | .nrm,s=>rawK s rv λl=>K (resOf (l.map (datA s.h)))
 | .ret,s=>rawK s rv λl=>K (resOf (l.map (datA s.h)))
def freshA(z:Nat)(h:Nat->HB)(K:List (List C)->Prop):AV->Prop
 | .one .emp=>K []
 | .one (.own r ver z' 0 len)=>blkA (λes zb live=>(live=true/\z=z'/\z=zb/\len<=es.length/\CleanR (es.take len))/\K (es.take len)) h r ver
 | _=>False
def freshL(z:Nat)(h:Nat->HB)(K:List (List C)->Prop):List AV->Prop
 | [a]=>freshA z h K a
 | _=>False
def finF(z:Nat)(rv:List RV)(K:List (List C)->Prop):Ex->S->Prop
 | .exit _,_=>False
 | .nrm,s=>rawK s rv λl=>freshL z s.h K l
 | .ret,s=>rawK s rv λl=>freshL z s.h K l
def nameOf(rs:List Nat)(t:Nat):Option Nat:=if pinA<=t then rs[t-pinA]? else none
def exB(rs:List Nat):C->C
 | .own t ver z off len=>match nameOf rs t with
  | some r=>.own r ver z off len
  | none=>.any
 | .ptr t ver i off=>match nameOf rs t with
  | some r=>.ptr r ver i off
  | none=>.any
 | c=>c
def exC(rs:List Nat):C->C
 | .clo f caps=>.clo f (caps.map (exB rs))
 | c=>exB rs c
def exA(rs:List Nat):AV->AV
 | .one c=>.one (exC rs c)
 | a=>a
def pasB(rs:List Nat):C->Prop
 | .own t _ _ _ _=>nameOf rs t≠none
 | .ptr t _ _ _=>nameOf rs t≠none
 | c=>Clean c
def pasC(rs:List Nat):C->Prop
 | .clo _ caps=>∀c∈caps,pasB rs c
 | c=>pasB rs c
def pasA(rs:List Nat):AV->Prop
 | .one c=>pasC rs c
 | .agg cs=>CleanL cs
 | .any=>True
 | .tup _=>False
noncomputable def outA(rs:List Nat)(h:Nat->HB):AV->AV
 | .one (.own t ver z off len)=>match nameOf rs t with
  | some r=>.one (.own r ver z off len)
  | none=>datA h (.one (.own t ver z off len))
 | .one (.ptr t ver i off)=>match nameOf rs t with
  | some r=>.one (.ptr r ver i off)
  | none=>datA h (.one (.ptr t ver i off))
 | a=>datA h a
def outO(rs:List Nat):AV->List Nat
 | .one (.own t _ _ _ _)=>match nameOf rs t with
  | some _=>[]
  | none=>[t]
 | .one (.ptr t _ _ _)=>match nameOf rs t with
  | some _=>[]
  | none=>[t]
 | a=>ownA a
def outK(h hc:Nat->HB):List Nat->Nat->((Nat->HB)->Prop)->Prop
 | [],_,K=>K h
 | r::rs,k,K=>blkA (λes z live=>CleanR es/\outK h hc rs (k+1) λh'=>K (upd h' r ⟨(h r).ver,some ⟨es,z,live⟩⟩)) hc k (h r).ver
def finO(rv:List RV)(rs:List Nat)(h:Nat->HB)(K:AV->(Nat->HB)->Prop):Ex->S->Prop
 | .exit _,_=>False
 | .nrm,s=>rawK s rv λl=>outK h (frz (l.flatMap (outO rs)) s.h) rs pinA λh'=>K (resOf (l.map (outA rs s.h))) h'
 | .ret,s=>rawK s rv λl=>outK h (frz (l.flatMap (outO rs)) s.h) rs pinA λh'=>K (resOf (l.map (outA rs s.h))) h'
def pinL:List Nat->List Blk->(Nat->HB)->Nat->List (Nat×HB)
 | r::rs,b::bs,h,k=>(k,⟨(h r).ver,some b⟩)::pinL rs bs h (k+1)
 | _,_,_,_=>[]
end Go.Abs
end
section
namespace Go.Abs
structure M where
 ver:Nat->Nat
 blk:Nat->Option (Nat×Nat)
def bsize(H:Array Obj)(b:Nat):Nat:=
 match H[b]? with
 | some (.cells arr _ _)=>arr.size
 | _=>0
inductive RC (m:M) (I:Nat->Prop) (H:Array Obj):C->Value->Prop
 | lit (v:Value):isCell v=true->RC m I H (.lit v) v
 | any (v:Value):isCell v=true->RC m I H .any v
 | snil (a:Option Addr) (cap:Nat):RC m I H (.slice []) (.slice a 0 cap)
 | slice (es:List (List C)) (sz b off cap:Nat) (arr:Array Value) (ty:TypeId) (fz:Nat×Nat) (vs:Nat->Nat->Value) :
   CleanR es->es.length<=maxLenA->es.length<=cap->I b->H[b]?=some (.cells arr ty fz)->(∀e∈es,e.length=sz)->
   (∀i j,i<es.length->j<sz->arr[off+i*sz+j]?=some (vs i j))->
   (∀(i j:Nat) (e:List C) (c:C),es[i]?=some e->e[j]?=some c->RC m I H c (vs i j))->
   RC m I H (.slice es) (.slice (some ⟨b,off,none⟩) es.length cap)
 | full (es:List (List C)) (a:Option Addr):RC m I H (.slice es) (.slice a es.length es.length)->RC m I H (.full es) (.slice a es.length es.length)
 | emp (a:Option Addr):RC m I H .emp (.slice a 0 0)
 | own (r ver z off len cap:Nat) (a:Option Addr):ver<=m.ver r->len<=maxLenA->
   (ver=m.ver r->∀b z',m.blk r=some (b,z')->z' = z/\(cap=0∨(a=some ⟨b,off*z,none⟩/\(off+cap)*z<=bsize H b)))->
   (ver=m.ver r->m.blk r=none->cap=0)->(a=none->len=0)->len<=cap->
   RC m I H (.own r ver z off len) (.slice a len cap)
 | ptr (r ver i off:Nat) (a:Addr):ver<=m.ver r->(ver=m.ver r->∀b z,m.blk r=some (b,z)->a=⟨b,i*z+off,none⟩)->
   RC m I H (.ptr r ver i off) (.pointer (some a))
 | ref (cs:List C) (b off:Nat) (arr:Array Value) (ty:TypeId) (fz:Nat×Nat) (vs:Nat->Value):CleanL cs->I b->H[b]?=some (.cells arr ty fz)->
   (∀j,j<cs.length->arr[off+j]?=some (vs j))->(∀(j:Nat) (c:C),cs[j]?=some c->RC m I H c (vs j))->
   RC m I H (.ref cs) (.pointer (some ⟨b,off,none⟩))
 | clo (f:FuncId) (caps:List C) (cv:List Value):cv.length=caps.length->
   (∀(i:Nat) (c:C) (v:Value),caps[i]?=some c->cv[i]?=some v->RC m I H c v)->RC m I H (.clo f caps) (.func (.func f) #[] ⟨cv⟩)
 | bnd (f:FuncId) (caps:List C) (cv:List Value):cv.length=caps.length->
   (∀(i:Nat) (c:C) (v:Value),caps[i]?=some c->cv[i]?=some v->RC m I H c v)->RC m I H (.clo f (.lit (.agg ⟨[]⟩)::caps)) (.func (.func f) ⟨cv⟩ #[])
theorem RC.cell{m:M}{I:Nat->Prop}{H:Array Obj}{c:C}{v:Value}(h:RC m I H c v):isCell v=true:=by
 cases h <;> first | assumption | rfl
def RL(m:M)(I:Nat->Prop)(H:Array Obj)(cs:List C)(vs:List Value):Prop:=
 cs.length=vs.length/\∀(i:Nat) (c:C) (v:Value),cs[i]?=some c->vs[i]?=some v->RC m I H c v
inductive RA (m:M) (I:Nat->Prop) (H:Array Obj):AV->Value->Prop
 | any (v:Value):RA m I H .any v
 | one (c:C) (v:Value):RC m I H c v->RA m I H (.one c) v
 | agg (cs:List C) (vs:List Value):RL m I H cs vs->RA m I H (.agg cs) (.agg ⟨vs⟩)
 | tup (l:List AV) (vs:List Value):l.length=vs.length->(∀(i:Nat) (a:AV) (v:Value),l[i]?=some a->vs[i]?=some v->RA m I H a v)->RA m I H (.tup l) (.tuple ⟨vs⟩)
structure Ext (m:M) (I:Nat->Prop) (H:Array Obj) (m' : M) (I' : Nat->Prop) (H' : Array Obj):Prop where
 m:∀r,(m'.ver r=m.ver r/\m'.blk r=m.blk r/\∀b z,m.blk r=some (b,z)->bsize H' b=bsize H b)∨m.ver r<m'.ver r
 i:∀b,I b->I' b
 h:∀b,I b->H'[b]?=H[b]?
theorem Ext.refl(m:M)(I:Nat->Prop)(H:Array Obj):Ext m I H m I H:=⟨λ_=>.inl ⟨rfl,rfl,λ_ _ _=>rfl⟩,λ_ h=>h,λ_ _=>rfl⟩
theorem Ext.trans{m m' m'' : M}{I I' I'' : Nat->Prop}{H H' H'' : Array Obj}(h:Ext m I H m' I' H')(k:Ext m' I' H' m'' I'' H''):Ext m I H m'' I'' H'':=
 ⟨λr=>by
  rcases h.m r with⟨a,b,b'⟩ | a <;> rcases k.m r with⟨c,d,d'⟩ | c
  .exact .inl ⟨c.trans a,d.trans b,λx y hxy=>(d' x y (b▸hxy)).trans (b' x y hxy)⟩
  .exact .inr (by omega)
  .exact .inr (by omega)
  .exact .inr (by omega),λb hb=>k.i b (h.i b hb),λb hb=>(k.h b (h.i b hb)).trans (h.h b hb)⟩
theorem RC.ext{m m' : M}{I I' : Nat->Prop}{H H' : Array Obj}(x:Ext m I H m' I' H'){c:C}{v:Value}(h:RC m I H c v):RC m' I' H' c v:=by
 induction h with
 | lit v hv=>exact .lit v hv
 | any v hv=>exact .any v hv
 | snil a cap=>exact .snil a cap
 | slice es sz b off cap arr ty fz vs h0 h1 h1' h2 h3 h4 h5 _ ih=>exact .slice es sz b off cap arr ty fz vs h0 h1 h1' (x.i b h2) ((x.h b h2).trans h3) h4 h5 ih
 | full es a _ ih=>exact .full es a ih
 | emp a=>exact .emp a
 | own r ver z off len cap a h1 h2 h3 h4 h5 h6=>
  rcases x.m r with⟨e1,e2,e3⟩ | e
  .exact .own r ver z off len cap a (by omega) h2 (λe b z' hb=>by
    have hb':=e2▸hb;obtain⟨g1,g2 | ⟨g2,g3⟩⟩:=h3 (by omega) b z' hb'
    .exact⟨g1,.inl g2⟩
    .exact⟨g1,.inr ⟨g2,by rw [e3 b z' hb'];exact g3⟩⟩) (λe hb=>h4 (by omega) (e2▸hb)) h5 h6
  .exact .own r ver z off len cap a (by omega) h2 (λe=>by omega) (λe=>by omega) h5 h6
 | ptr r ver i off a h1 h2=>
  rcases x.m r with⟨e1,e2,_⟩ | e
  .exact .ptr r ver i off a (by omega) (λe b z hb=>h2 (by omega) b z (e2▸hb))
  .exact .ptr r ver i off a (by omega) (λe=>by omega)
 | ref cs b off arr ty fz vs h0 h1 h2 h3 _ ih=>exact .ref cs b off arr ty fz vs h0 (x.i b h1) ((x.h b h1).trans h2) h3 ih
 | clo f caps cv h1 _ ih=>exact .clo f caps cv h1 ih
 | bnd f caps cv h1 _ ih=>exact .bnd f caps cv h1 ih
theorem RL.ext{m m' : M}{I I' : Nat->Prop}{H H' : Array Obj}(x:Ext m I H m' I' H'){cs:List C}{vs:List Value}(h:RL m I H cs vs):RL m' I' H' cs vs:=
 ⟨h.1,λi c v hc hv=>(h.2 i c v hc hv).ext x⟩
theorem RA.ext{m m' : M}{I I' : Nat->Prop}{H H' : Array Obj}(x:Ext m I H m' I' H'){a:AV}{v:Value}(h:RA m I H a v):RA m' I' H' a v:=by
 induction h with
 | any v=>exact .any v
 | one c v h=>exact .one c v (h.ext x)
 | agg cs vs h=>exact .agg cs vs (h.ext x)
 | tup l vs h1 _ ih=>exact .tup l vs h1 ih
structure RB (m:M) (I:Nat->Prop) (H:Array Obj) (r:Nat) (b:Blk):Prop where
 sz:∀e∈b.es,e.length=b.z
 virt:m.blk r=none->b.es=[]
 real:∀k z,m.blk r=some (k,z)->z=b.z/\(b.live=true->¬I k)/\(b.live=false->I k)/\∃arr ty,H[k]?=some (.cells arr ty (0,0))/\
  ∀(i j:Nat) (e:List C) (c:C),b.es[i]?=some e->e[j]?=some c->∃v,arr[i*z+j]?=some v/\RC m I H c v
structure Env where
 w0:World
 I0:Nat->Prop
 Ow:Nat->Prop
 N:Nat
 F:Nat->Option (Nat×Nat)
 X:Nat->Value
def Env.val(E:Env)(a:Act)(t:Nat):Value:=if t<pinA then a.tmps.getD t undef else E.X t
structure HR (E:Env) (m:M) (I:Nat->Prop) (w:World) (h:Nat->HB):Prop where
 ver:∀r,m.ver r=(h r).ver
 blk:∀r b,(h r).blk=some b->RB m I w.heap r b
 inj:∀r r' k z z',m.blk r=some (k,z)->m.blk r' = some (k,z')->r=r'
 lt:∀r k z,m.blk r=some (k,z)->k<w.heap.size
 imb:∀b,I b->b<w.heap.size
 grow:E.w0.heap.size<=w.heap.size
 keep:∀b,b<E.w0.heap.size->¬E.Ow b->w.heap[b]?=E.w0.heap[b]?
 imm:∀b,I b->E.I0 b∨E.w0.heap.size<=b∨E.Ow b
 sup:∀b,E.I0 b->I b
 i0:∀b,E.I0 b->b<E.w0.heap.size/\¬E.Ow b
 liv:∀r b k z,(h r).blk=some b->m.blk r=some (k,z)->E.w0.heap.size<=k∨E.Ow k
 np:E.N<=pinA
 fx:∀r b,pinA<=r->(h r).blk=some b->m.blk r=E.F r/\∀k z,E.F r=some (k,z)->bsize w.heap k=bsize E.w0.heap k
 os:w.os=E.w0.os
 tape:w.tape=E.w0.tape
 out:w.output=E.w0.output
structure Sim (E:Env) (s:S) (a:Act) (w:World) (m:M) (I:Nat->Prop):Prop where
 dfr:a.defers=[]
 siz:a.tmps.size=E.N
 slot:∀t,RA m I w.heap (s.v t) (E.val a t)
 heap:HR E m I w s.h
theorem Sim.at{E:Env}{s:S}{a:Act}{w:World}{m:M}{I:Nat->Prop}(h:Sim E s a w m I){t:Nat}(ht:t<pinA):RA m I w.heap (s.v t) (a.tmps.getD t undef):=by
 have:=h.slot t
 rwa [Env.val,if_pos ht]at this
theorem qaz{E:Env}{a:Act}(hX:E.X=λ_=>undef)(hs:a.tmps.size<=pinA)(t:Nat):E.val a t=a.tmps.getD t undef:=by
 unfold Env.val;split
 .rfl
 .rw [hX,Array.getD_eq_getD_getElem?,Array.getElem?_eq_none (by omega)];rfl
theorem vn{E:Env}{a:Act}{m:M}{I:Nat->Prop}{H:Array Obj}{x:AV}{t:Nat}(hX:E.X=λ_=>undef)(hs:a.tmps.size<=pinA)(h:RA m I H x (a.tmps.getD t undef)):RA m I H x (E.val a t):=by
 rw [qaz hX hs];exact h
theorem jn{m:M}{I:Nat->Prop}{H:Array Obj}(v:Value)(h:isCell v=true):RC m I H (cellOf v) v:=by
 unfold cellOf;split
 .exact .emp none
 .exact .lit v h
theorem Q4{m:M}{I:Nat->Prop}{H:Array Obj}(v:Value):RA m I H (avOf v) v:=by
 unfold avOf;split
 .rename_i cs;split
  .rename_i hall;refine .agg _ cs.toList ⟨by simp,λi c v hc hv=>?_⟩
   simp only [List.getElem?_map,hv,Option.map_some,zOI]at hc;subst hc;exact jn v (List.all_eq_true.1 hall v (List.mem_of_getElem? hv))
  .exact .any _
 .exact .any _
 .rename_i h1 h2;refine .one _ _ (jn v ?_);cases v <;> simp_all [isCell]
theorem Sim.ev{E:Env}{s:S}{a:Act}{w:World}{m:M}{I:Nat->Prop}(h:Sim E s a w m I){x:Operand}{y:Opd}(hc:cOpd x=some y):RA m I w.heap (s.ev y) (a.eval x):=by
 cases x with
 | tmp t=>
  simp only [cOpd]at hc;split at hc
  .simp only [zOI]at hc;subst hc;exact h.at ‹_›
  .simp at hc
 | const v=>simp only [cOpd,zOI]at hc;subst hc;exact Q4 v
 | global g=>simp [cOpd]at hc
 | func f=>simp only [cOpd,zOI]at hc;subst hc;exact .one _ _ (.lit _ rfl)
theorem WaM(a:Act)(d:Nat)(v:Value)(t:Nat):(a.put (some d) v).tmps.getD t undef=if t=d/\d<a.tmps.size then v else a.tmps.getD t undef:=by
 simp only [Act.put,Array.getD_eq_getD_getElem?,Array.getElem?_setIfInBounds];by_cases h:d=t
 .subst h;by_cases h2:d<a.tmps.size
  .simp [h2]
  .simp [h2]
 .have:¬t=d:=λe=>h e.symm;simp [h,this]
theorem Sim.put{E:Env}{s:S}{a:Act}{w:World}{m:M}{I:Nat->Prop}(h:Sim E s a w m I){d:Option Nat}{x:AV}{v:Value}(hx:RA m I w.heap x v)
  (hd:∀k,d=some k->k<E.N):Sim E (s.put d x) (a.put d v) w m I:=by
 cases d with
 | none=>exact h
 | some d=>
  have hlt:d<a.tmps.size:=by rw [h.siz];exact hd d rfl
  refine⟨h.dfr,by simp [Act.put,h.siz],λt=>?_,h.heap⟩
  by_cases hp:t<pinA
  .rw [Env.val,if_pos hp,WaM];by_cases e:t=d
   .simp [S.put,upd,e,hlt,hx]
   .have:=h.at hp;simpa [S.put,upd,e] using this
  .have e:t≠d:=by have:=h.heap.np;have:=hd d rfl;omega
   have:=h.slot t;simpa [S.put,upd,e,Env.val,hp] using this
theorem Sim.move{E:Env}{s:S}{a:Act}{w w' : World}{m m' : M}{I I' : Nat->Prop}(h:Sim E s a w m I)(x:Ext m I w.heap m' I' w'.heap){hp:Nat->HB}(hh:HR E m' I' w' hp) :
  Sim E (s.setH hp) a w' m' I':=⟨h.dfr,h.siz,λt=>(h.slot t).ext x,hh⟩
end Go.Abs
end
section
namespace Go.Abs
def Lands(P:Program)(E:Env)(o:Oper)(a:Act)(w:World)(K:S->Prop):Prop:=
 ∀(next:Act->World->Prop) (Q:Exit->Act->World->Prop),(∀s' a' w' m' I',K s'->Sim E s' a' w' m' I'->next a' w')->o.wp P a w next Q
variable {P:Program} {E:Env} {s:S} {a:Act} {w:World} {m:M} {I:Nat->Prop} {o:Oper} {K:S->Prop}
theorem Zc{v:Value}{w' : World}{s' : S}{m' : M}{I' : Nat->Prop}(hr:(execOp a.eval o).run P w=.ok (.value v) w')(hk:K s')(hs:Sim E s' (a.put o.dst v) w' m' I'):Lands P E o a w K:=by
 intro next Q hn
 unfold Oper.wp;rw [hr];exact hn _ _ _ _ _ hk hs
theorem Zan{w' : World}{s' : S}{m' : M}{I' : Nat->Prop}(hr:(execOp a.eval o).run P w=.ok .skip w')(hk:K s')(hs:Sim E s' (a.put o.dst undef) w' m' I'):Lands P E o a w K:=by
 intro next Q hn
 unfold Oper.wp;rw [hr];exact hn _ _ _ _ _ hk hs
theorem Ja{v:Value}{x:AV}(h:Sim E s a w m I)(hd:∀k,o.dst=some k->k<E.N)(hr:(execOp a.eval o).run P w=.ok (.value v) w)(hx:RA m I w.heap x v)(hk:K (s.put o.dst x)):Lands P E o a w K:=
 Zc hr hk (h.put hx hd)
section inv
variable {H:Array Obj} {v:Value}
theorem RA.lit_inv{u:Value}(h:RA m I H (.one (.lit u)) v):v=u/\isCell u=true:=by
 cases h with | one _ _ h=>cases h with | lit _ h=>exact⟨rfl,h⟩
theorem RA.one_inv{c:C}(h:RA m I H (.one c) v):RC m I H c v:=by cases h;assumption
theorem RA.agg_inv{cs:List C}(h:RA m I H (.agg cs) v):∃vs:List Value,v=.agg ⟨vs⟩/\RL m I H cs vs:=by
 cases h with | agg _ vs h=>exact⟨vs,rfl,h⟩
theorem RA.tup_inv{l:List AV}(h:RA m I H (.tup l) v):∃vs:List Value,v=.tuple ⟨vs⟩/\l.length=vs.length/\∀(i:Nat) (a:AV) (v:Value),l[i]?=some a->vs[i]?=some v->RA m I H a v:=by
 cases h with | tup _ vs h1 h2=>exact⟨vs,rfl,h1,h2⟩
theorem Qc{K:IntKind->Int->Prop}{x:AV}(h:asInt K x):∃k n,x=.one (.lit (.int k n))/\K k n:=by
 unfold asInt at h;split at h
 .exact⟨_,_,rfl,h⟩
 .exact h.elim
theorem Uq{K:Bool->Prop}{x:AV}(h:asBool K x):∃b,x=.one (.lit (.bool b))/\K b:=by
 unfold asBool at h;split at h
 .exact⟨_,rfl,h⟩
 .exact h.elim
theorem Je(k:IntKind)(n:Int):RA m I H (.one (.lit (.int k n))) (.int k n):=.one _ _ (.lit _ rfl)
theorem we(b:Bool):RA m I H (.one (.lit (.bool b))) (.bool b):=.one _ _ (.lit _ rfl)
end inv
theorem WP{v:Value}(h:isCell v=true):v.cells = #[v]:=by cases v <;> simp_all [isCell,Value.cells]
theorem ww{v:Value}(h:isCell v=true):v.oneCell' = true:=by cases v <;> simp_all [isCell,Value.oneCell']
theorem Xo{H:Array Obj}{K:List C->Prop}{x:AV}{v:Value}(h:asCells K x)(hx:RA m I H x v):∃cs vs:List _,K cs/\v.cells=⟨vs⟩/\RL m I H cs vs/\(x=.agg cs∨∃c,x=.one c/\cs=[c]):=by
 unfold asCells at h;split at h
 .have:=hx.one_inv;exact⟨_,[v],h,WP this.cell,⟨rfl,λi c u hc hu=>by
   cases i with
   | zero=>simp at hc hu;subst hc hu;exact this
   | succ i=>simp at hc⟩,.inr ⟨_,rfl,rfl⟩⟩
 .obtain⟨vs,rfl,hl⟩:=hx.agg_inv;exact⟨_,vs,h,rfl,hl,.inl rfl⟩
 .exact h.elim
theorem XW{n:Int}(h:-9223372036854775808<=n/\n<=9223372036854775807):IntKind.i64.wrap n=n:=by
 rw [IntKind.wrap_i64];omega
theorem wo{K:AV->Prop}{k:IntKind}{n:Int}(h:numR K k n):K (.one (.lit (.int k (k.wrap n)))):=by
 cases k <;> simp only [numR]at h
 case i64=>rw [XW h.1];exact h.2
 all_goals (simpa [intR,IntKind.wrap,IntKind.signed,IntKind.bits] using h)
theorem Jv{k:IntKind}{n:Int}(h:k.signed=false)(h0:0<=n)(h1:n<2 ^ k.bits):k.wrap n=n:=by
 simp only [IntKind.wrap,h,Bool.false_and,Bool.false_eq_true,if_false];exact Int.emod_eq_of_lt h0 h1
theorem xA{n:Nat}{x:Int}(h0:0<=x)(h1:x<2 ^ n):(BitVec.ofInt n x).toNat=x.toNat:=by
 rw [BitVec.toNat_ofInt];congr 1;exact Int.emod_eq_of_lt h0 (by simpa using h1)
theorem Yq{n:Nat}{x:Int}(h0:0<=x)(h1:x<2 ^ n):x.toNat<2 ^ n:=by
 have:((x.toNat:Int))<((2 ^ n:Nat):Int):=by rw [Int.toNat_of_nonneg h0];simpa using h1
 exact Int.ofNat_lt.1 this
theorem Jas{K:AV->Prop}{op:BinOp}{k:IntKind}{x y:Int}(h:arith K op k x y)(t:TypeId)(w:World) :
  ∃v,(binOp op t (.int k x) (.int k y)).run P w=.ok v w/\∃c,K c/\∀m I H,RA m I H c v:=by
 cases op <;> simp only [arith]at h
 case add=>exact⟨_,by simp [binOp,Op.intArith],_,wo h,λ_ _ _=>Je _ _⟩
 case sub=>exact⟨_,by simp [binOp,Op.intArith],_,wo h,λ_ _ _=>Je _ _⟩
 case mul=>exact⟨_,by simp [binOp,Op.intArith],_,wo h,λ_ _ _=>Je _ _⟩
 case quo=>
  obtain⟨⟨h0,h1⟩,h2⟩:=h;have:y≠0:=by omega
  exact⟨_,by simp [binOp,Op.intDiv,this,Int.tdiv_eq_ediv_of_nonneg h0],_,wo h2,λ_ _ _=>Je _ _⟩
 case rem=>
  obtain⟨⟨h0,h1⟩,h2⟩:=h;have:y≠0:=by omega
  exact⟨_,by simp [binOp,Op.intDiv,this,Int.tmod_eq_emod_of_nonneg h0],_,h2,λ_ _ _=>Je _ _⟩
 case and=>
  obtain⟨⟨hs,h0,h1,h2,h3⟩,h4⟩:=h;refine⟨.int k (Int.ofNat (x.toNat &&& y.toNat)),?_,_,h4,λ_ _ _=>Je _ _⟩;have hb:((x.toNat &&& y.toNat:Nat):Int)<2 ^ k.bits:=by
   have:=Nat.and_lt_two_pow x.toNat (Yq h1 h3)
   exact_mod_cast this
  have hw:k.wrap (((x.toNat &&& y.toNat:Nat)):Int)=((x.toNat &&& y.toNat:Nat):Int):=Jv hs (by omega) hb
  simp only [binOp,Op.intBits,ne_eq,not_true_eq_false,if_false,BitVec.toNat_and,xA h0 h2,xA h1 h3,hw];rfl
 case or=>
  obtain⟨⟨hs,h0,h1,h2,h3⟩,h4⟩:=h;refine⟨.int k (Int.ofNat (x.toNat ||| y.toNat)),?_,_,h4,λ_ _ _=>Je _ _⟩
  have hb:((x.toNat ||| y.toNat:Nat):Int)<2 ^ k.bits:=by
   have:=Nat.or_lt_two_pow (Yq h0 h2) (Yq h1 h3)
   exact_mod_cast this
  have hw:k.wrap (((x.toNat ||| y.toNat:Nat)):Int)=((x.toNat ||| y.toNat:Nat):Int):=Jv hs (by omega) hb
  simp only [binOp,Op.intBits,ne_eq,not_true_eq_false,if_false,BitVec.toNat_or,xA h0 h2,xA h1 h3,hw];rfl
 case eql=>exact⟨.bool (decide (x=y)),by simp [binOp,Op.intCmp];rfl,_,h,λ_ _ _=>we _⟩
 case neq=>exact⟨.bool (!decide (x=y)),by simp [binOp,Op.intCmp];rfl,_,h,λ_ _ _=>we _⟩
 case lss=>exact⟨_,by simp [binOp,Op.intCmp],_,h,λ_ _ _=>we _⟩
 case leq=>exact⟨_,by simp [binOp,Op.intCmp],_,h,λ_ _ _=>we _⟩
 case gtr=>exact⟨_,by simp [binOp,Op.intCmp],_,h,λ_ _ _=>we _⟩
 case geq=>exact⟨_,by simp [binOp,Op.intCmp],_,h,λ_ _ _=>we _⟩
theorem Ua1{K:AV->Prop}{k k' : IntKind}{x y:Int}(h:shlA K k x y)(t:TypeId)(w:World) :
  ∃v,(binOp .shl t (.int k x) (.int k' y)).run P w=.ok v w/\∃c,K c/\∀m I H,RA m I H c v:=by
 obtain⟨⟨h0,h1,h2⟩,h3⟩:=h;have hn:¬y<0:=by omega
 have hm:min y.toNat k.bits=y.toNat:=by omega
 exact⟨_,by simp [binOp,Op.shift,hn,hm],_,wo h3,λ_ _ _=>Je _ _⟩
theorem xa3{K:AV->Prop}{k k' : IntKind}{x y:Int}(h:shrA K k x y)(t:TypeId)(w:World) :
  ∃v,(binOp .shr t (.int k x) (.int k' y)).run P w=.ok v w/\∃c,K c/\∀m I H,RA m I H c v:=by
 obtain⟨⟨h0,h1,h2⟩,h3⟩:=h;have hn:¬y<0:=by omega
 have hm:min y.toNat k.bits=y.toNat:=by omega
 refine⟨.int k (x / 2 ^ y.toNat),?_,_,h3,λ_ _ _=>Je _ _⟩;simp [binOp,Op.shift,hn,hm,Int.fdiv_eq_ediv_of_nonneg x (show(0:Int)<=2 ^ y.toNat from Int.le_of_lt (Int.pow_pos (by omega)))]
theorem uR{t:TypeId}(ht:P.underlying t=some .bool)(a b:Bool)(w:World)(d:Nat):(Op.equalIn (d+1) t (.bool a) (.bool b)).run P w=.ok (a == b) w:=by
 simp only [Op.equalIn,Sem.run_bind,run_underlying ht,Result.andThen_ok,Sem.run_pure]
theorem uG(t:TypeId)(ht:P.underlying t=some .bool)(a b:Bool)(w:World):(binOp .eql t (.bool a) (.bool b)).run P w=.ok (.bool (a == b)) w/\(binOp .neq t (.bool a) (.bool b)).run P w=.ok (.bool (!(a == b))) w:=by
 have h:=uR ht a b w 9999;constructor <;> simp only [binOp,Op.equal,Op.maxDepth,Sem.run_bind,h,Result.andThen_ok,Sem.run_pure]
theorem Z0{t:TypeId}{ms:Array (String×TypeId)}(ht:P.underlying t=some (.interface ms)){v:Value}{b:Bool}(hv:isNilV v=some b)(w:World)(d:Nat) :
  (Op.equalIn (d+1) t v .nilIface).run P w=.ok b w:=by
 cases v <;> simp [isNilV]at hv
 all_goals
  subst hv;simp only [Op.equalIn,Sem.run_bind,run_underlying ht,Result.andThen_ok,Sem.run_pure]
theorem wK{t:TypeId}{ms:Array (String×TypeId)}(ht:P.underlying t=some (.interface ms)){v:Value}{b:Bool}(hv:isNilV v=some b)(w:World) :
  (binOp .eql t v .nilIface).run P w=.ok (.bool b) w/\(binOp .neq t v .nilIface).run P w=.ok (.bool (!b)) w:=by
 have h:=Z0 ht hv w 9999;cases v <;> simp [isNilV]at hv
 all_goals
  constructor <;> simp only [binOp,Op.equal,Op.maxDepth,Sem.run_bind,h,Result.andThen_ok,Sem.run_pure]
end Go.Abs
end
section
namespace Go.Abs
variable {P:Program} {E:Env} {s:S} {a:Act} {w:World} {m:M} {I:Nat->Prop} {o:Oper} {K:S->Prop}
def M.set(m:M)(r ver k z:Nat):M:=⟨upd m.ver r ver,upd m.blk r (some (k,z))⟩
theorem HR.set{h:Nat->HB}(hr:HR E m I w h){w' : World}{r ver k z:Nat}{es:List (List C)}{arr:Array Value}{ty:TypeId}
    (os:w'.os=w.os) (tape:w'.tape=w.tape) (out:w'.output=w.output) (size:w.heap.size<=w'.heap.size)
    (same:∀b,b<w.heap.size->b≠k->w'.heap[b]?=w.heap[b]?)
    (here:w'.heap[k]?=some (.cells arr ty (0,0)))
    (what:(k=w.heap.size/\m.ver r<ver)∨(m.ver r<ver/\¬I k/\E.w0.heap.size<=k/\∀r' z',m.blk r'≠some (k,z'))∨(∃b z0,(h r).blk=some b/\b.live=true/\m.blk r=some (k,z0)/\(m.ver r<ver∨(m.ver r=ver/\z0=z/\arr.size=bsize w.heap k))))
    (hpin:r<pinA∨m.ver r=ver)
    (lens:∀e∈es,e.length=z)
    (cells:∀(i j:Nat) (e:List C) (c:C),es[i]?=some e->e[j]?=some c->∃v,arr[i*z+j]?=some v/\RC m I w.heap c v) :
    HR E (m.set r ver k z) I w' (upd h r ⟨ver,some ⟨es,z,true⟩⟩)/\Ext m I w.heap (m.set r ver k z) I w'.heap:=by
  have hnI:¬I k:=by
    rcases what with⟨rfl,_⟩ | ⟨_,hn,_⟩ | ⟨b,z0,hb,hl,hm,_⟩
    . exact λhi=>Nat.lt_irrefl _ (hr.imb _ hi)
    . exact hn
    . exact((hr.blk r b hb).real k z0 hm).2.1 hl
  have hother:∀r' k' z',r'≠r->m.blk r' = some (k',z')->k'≠k:=by
    intro r' k' z' hne hm e;subst e;rcases what with⟨rfl,_⟩ | ⟨_,_,_,hn⟩ | ⟨b,z0,hb,hl,hm2,_⟩
    . exact Nat.lt_irrefl _ (hr.lt _ _ _ hm)
    . exact hn _ _ hm
    . exact hne (hr.inj _ _ _ _ _ hm hm2)
  have ext:Ext m I w.heap (m.set r ver k z) I w'.heap:=by
    refine⟨λr'=>?_,λ_ h=>h,λb hb=>same b (hr.imb b hb) (λe=>hnI (e▸hb))⟩;by_cases e:r' = r
    . subst e
      simp only [M.set,upd,if_true];rcases what with⟨_,hv⟩ | ⟨hv,_⟩ | ⟨b,z0,hb,hl,hm,hv | ⟨hv,hz,hsz⟩⟩
      . exact .inr hv
      . exact .inr hv
      . exact .inr hv
      . refine .inl ⟨hv.symm,by rw [hm,hz],λb' z' hb'=>?_⟩
        rw [hm]at hb';simp only [zOI,Prod.mk.injEq]at hb';rw [<-hb'.1,<-hsz];simp [bsize,here]
    . refine .inl ⟨by simp [M.set,upd,e],by simp [M.set,upd,e],λb' z' hb'=>?_⟩
      simp only [bsize,same b' (hr.lt _ _ _ hb') (hother r' b' z' e hb')]
  have hkB:E.w0.heap.size<=k∨E.Ow k:=by
    rcases what with⟨rfl,_⟩ | ⟨_,_,hg,_⟩ | ⟨b,z0,hb,hl,hm,_⟩
    . exact .inl hr.grow
    . exact .inl hg
    . exact hr.liv r b k z0 hb hm
  have hklt:k<w'.heap.size:=by
    rcases Nat.lt_or_ge k w'.heap.size with h | h
    . exact h
    . simp [Array.getElem?_eq_none h]at here
  refine⟨{
    ver:=λr'=>?_,blk:=λr' b hb=>?_,inj:=λr1 r2 k' z1 z2 h1 h2=>?_,lt:=λr' k' z' hm=>?_,
    imb:=λb hb=>Nat.lt_of_lt_of_le (hr.imb b hb) size,grow:=Nat.le_trans hr.grow size,keep:=λb hb ho=>?_,
    imm:=hr.imm,sup:=hr.sup,i0:=hr.i0,liv:=λr' b k' z' hb hm=>?_,np:=hr.np,fx:=λr' b hp hb=>?_,
    os:=os.trans hr.os,tape:=tape.trans hr.tape,out:=out.trans hr.out },ext⟩
  . by_cases e:r' = r
    . subst e;simp [M.set,upd]
    . simp [M.set,upd,e,hr.ver r']
  . by_cases e:r' = r
    . subst e
      simp only [upd,if_true,zOI]at hb;subst hb;refine⟨lens,λhm=>by simp [M.set,upd]at hm,λk' z' hm=>?_⟩
      simp only [M.set,upd,if_true,zOI,Prod.mk.injEq]at hm;obtain⟨rfl,rfl⟩:=hm;exact⟨rfl,λ_=>hnI,λhl=>by simp at hl,arr,ty,here,λi j e c he hc=>let ⟨v,h1,h2⟩:=cells i j e c he hc;⟨v,h1,h2.ext ext⟩⟩
    . simp only [upd,e,if_false]at hb
      have hb':=hr.blk r' b hb;refine⟨hb'.sz,λhm=>hb'.virt (by simpa [M.set,upd,e] using hm),λk' z' hm=>?_⟩
      have hm' : m.blk r' = some (k',z'):=by simpa [M.set,upd,e] using hm
      obtain⟨h1,h2,h3,arr',ty',h4,h5⟩:=hb'.real k' z' hm';refine⟨h1,h2,h3,arr',ty',?_,λi j e c he hc=>let ⟨v,g1,g2⟩:=h5 i j e c he hc;⟨v,g1,g2.ext ext⟩⟩;rw [same k' (hr.lt _ _ _ hm') (hother r' k' z' e hm')];exact h4
  . have key:∀r' k' z',(m.set r ver k z).blk r' = some (k',z')->(r' = r/\k' = k)∨(r'≠r/\k'≠k/\m.blk r' = some (k',z')):=by
      intro r' k' z' hm;by_cases e:r' = r
      . subst e
        simp only [M.set,upd,if_true,zOI,Prod.mk.injEq]at hm;exact .inl ⟨rfl,hm.1.symm⟩
      . have hm' : m.blk r' = some (k',z'):=by simpa [M.set,upd,e] using hm
        exact .inr ⟨e,hother r' k' z' e hm',hm'⟩
    rcases key r1 k' z1 h1 with⟨rfl,rfl⟩ | ⟨e1,e2,e3⟩ <;> rcases key r2 _ z2 h2 with⟨f1,f2⟩ | ⟨f1,f2,f3⟩
    . exact f1.symm
    . exact(f2 rfl).elim
    . exact(e2 f2).elim
    . exact hr.inj _ _ _ _ _ e3 f3
  . by_cases e:r' = r
    . subst e
      simp only [M.set,upd,if_true,zOI,Prod.mk.injEq]at hm;omega
    . have hm' : m.blk r' = some (k',z'):=by simpa [M.set,upd,e] using hm
      exact Nat.lt_of_lt_of_le (hr.lt _ _ _ hm') size
  . by_cases e:b=k
    . subst e
      rcases hkB with h | h
      . omega
      . exact(ho h).elim
    . rw [same b (Nat.lt_of_lt_of_le hb hr.grow) e]
      exact hr.keep b hb ho
  . by_cases e:r' = r
    . subst e
      simp only [M.set,upd,if_true,zOI,Prod.mk.injEq]at hm;rw [<-hm.1];exact hkB
    . have hm' : m.blk r' = some (k',z'):=by simpa [M.set,upd,e] using hm
      simp only [upd,e,if_false]at hb;exact hr.liv r' b k' z' hb hm'
  . by_cases e:r' = r
    . subst e
      rcases hpin with h | h
      . omega
      . rcases what with⟨_,hv⟩ | ⟨hv,_⟩ | ⟨b,z0,hb,hl,hm,hv | ⟨hv,hz,hsz⟩⟩
        . omega
        . omega
        . omega
        . obtain⟨q1,q2⟩:=hr.fx r' b hp hb
          simp only [M.set,upd,if_true];refine⟨by rw [<-q1,hm,hz],λk' z' hF=>?_⟩
          rw [<-q1,hm]at hF;simp only [zOI,Prod.mk.injEq]at hF;obtain⟨rfl,_⟩:=hF;rw [<-q2 k z0 (by rw [<-q1,hm]),<-hsz]
          simp [bsize,here]
    . simp only [upd,e,if_false]at hb
      obtain⟨q1,q2⟩:=hr.fx r' b hp hb;refine⟨by simpa [M.set,upd,e] using q1,λk' z' hF=>?_⟩
      have hm' : m.blk r' = some (k',z'):=by rw [q1];exact hF
      rw [<-q2 k' z' hF];simp only [bsize,same k' (hr.lt _ _ _ hm') (hother r' k' z' e hm')]
theorem zn(w:World)(x:Obj)(b:Nat)(hb:b<w.heap.size)(hne:b≠w.heap.size):(w.heap.push x)[b]?=w.heap[b]?:=by
 rw [Array.getElem?_push,if_neg hne]
theorem Ym(w:World)(x:Obj):(w.heap.push x)[w.heap.size]?=some x:=by simp
theorem uu{b:Blk}{f:Nat->Nat->AV}{d:Option Nat}(h:newA K s b f d):∃d',d=some d'/\(s.h d').blk=none/\K ⟨upd s.v d' (f d' ((s.h d').ver+1)),upd s.h d' ⟨(s.h d').ver+1,some b⟩⟩:=by
 cases d with
 | none=>exact h.elim
 | some d=>
  refine⟨d,rfl,?_⟩;simp only [newA]at h;cases hh:s.h d with
  | mk ver blk=>
   rw [hh]at h;cases blk with
   | none=>exact⟨rfl,h⟩
   | some _=>exact h.elim
theorem qo{f:Nat->Nat->AV}{v:Value}{w' : World}{arr:Array Value}{ty:TypeId}{es:List (List C)}{z:Nat}(h:Sim E s a w m I)(hd:∀k,o.dst=some k->k<E.N)
  (hr:(execOp a.eval o).run P w=.ok (.value v) w')
  (hheap:w'.heap=w.heap.push (.cells arr ty)) (os:w'.os=w.os) (tape:w'.tape=w.tape) (out:w'.output=w.output)
  (lens:∀e∈es,e.length=z)
  (cells:∀(i j:Nat) (e:List C) (c:C),es[i]?=some e->e[j]?=some c->∃v,arr[i*z+j]?=some v/\RC m I w.heap c v)
  (hv:∀d ver (m' : M),m'.ver d=ver->m'.blk d=some (w.heap.size,z)->RA m' I w'.heap (f d ver) v)
  (hk:newA K s ⟨es,z,true⟩ f o.dst):Lands P E o a w K:=by
 obtain⟨d,hdst,hnone,hk⟩:=uu hk;obtain⟨hh,hx⟩:=h.heap.set (w':=w') (r:=d) (ver:=(s.h d).ver+1) (k:=w.heap.size) (z:=z) (es:=es) (arr:=arr) (ty:=ty) os tape out
  (by rw [hheap];simp) (λb hb hne=>by rw [hheap];exact zn w _ b hb hne) (by rw [hheap];exact Ym w _)
  (.inl ⟨rfl,by rw [h.heap.ver];omega⟩) (.inl (Nat.lt_of_lt_of_le (hd d hdst) h.heap.np)) lens cells
 have h1:=h.move hx hh;have h2:=h1.put (d:=o.dst) (x:=f d ((s.h d).ver+1)) (v:=v) (hv _ _ _ (by simp [M.set,upd]) (by simp [M.set,upd])) hd
 refine Zc (m':=m.set d ((s.h d).ver+1) w.heap.size z) (I':=I) hr hk ?_;rw [hdst]at h2 ⊢;exact h2
end Go.Abs
end
section
namespace Go.Abs
variable {P:Program} {E:Env} {s:S} {a:Act} {w:World} {m:M} {I:Nat->Prop} {o:Oper} {K:S->Prop}
theorem Xn(b off j:Nat):(⟨b,off,none⟩:Addr).add j=⟨b,off+j,none⟩:=by unfold Addr.add;split <;> simp_all
theorem VZ{b off j:Nat}{arr:Array Value}{ty:TypeId}{fz:Nat×Nat}{v:Value}(h:w.heap[b]?=some (.cells arr ty fz))(hj:arr[off+j]?=some v) :
  w.cell? ((⟨b,off,none⟩:Addr).add j)=some v:=by
 rw [Xn];simp [World.cell?,h,hj]
theorem jf{t:TypeId}{n:Nat}(h:sizeT P t=some n):∃i,P.info? t=some i/\i.size=n:=by
 unfold sizeT at h;cases hi:P.info? t with
 | none=>simp [hi]at h
 | some i=>simp [hi]at h;exact⟨i,rfl,h⟩
theorem Vb{t:TypeId}{n:Nat}(h:sizeT P t=some n)(w:World):(sizeOf t).run P w=.ok n w:=by
 obtain⟨i,hi,rfl⟩:=jf h;simp [sizeOf,typeInfo,hi]
theorem xt{t:TypeId}{g:Bool}(h:isAggT P t=some g)(w:World):(isAgg t).run P w=.ok g w:=by
 unfold isAggT at h;cases hu:P.underlying t with
 | none=>simp [hu]at h
 | some d=>cases d <;> simp [hu]at h <;> subst h <;> simp [isAgg,run_underlying hu]
def At(m:M)(I:Nat->Prop)(w:World)(b off:Nat)(cs:List C):Prop:=
 ∃arr ty fz,w.heap[b]?=some (.cells arr ty fz)/\∀(j:Nat) (c:C),cs[j]?=some c->∃v,arr[off+j]?=some v/\RC m I w.heap c v
theorem kN{t:TypeId}{n:Nat}{g:Bool}(hn:sizeT P t=some n)(hg:isAggT P t=some g){b off:Nat}{cs:List C}(h:At m I w b off cs){K:AV->Prop}(hk:ldK K n g cs) :
  ∃v x,(loadVar t ⟨b,off,none⟩).run P w=.ok v w/\RA m I w.heap x v/\K x:=by
 obtain⟨arr,ty,fz,hh,hc⟩:=h;cases g with
 | true=>
  obtain⟨hle,hk⟩:=hk;have hv:∀j,j<n->∃v,arr[off+j]?=some v/\∀c,cs[j]?=some c->RC m I w.heap c v:=by
   intro j hj;have hcj:cs[j]?=some (cs[j]'(by omega)):=List.getElem?_eq_getElem (by omega)
   obtain⟨v,h1,h2⟩:=hc j _ hcj;exact⟨v,h1,λc e=>by rw [hcj]at e;cases e;exact h2⟩
  have hl:=run_loadCells (P:=P) w ⟨b,off,none⟩ n (λj=>(arr[off+j]?).getD undef) (λj hj=>by
   obtain⟨v,h1,_⟩:=hv j hj;rw [VZ hh h1];simp [h1])
  refine⟨.agg ((List.range n).map λj=>(arr[off+j]?).getD undef).toArray,.agg (cs.take n),?_,.agg _ _ ⟨by simp;omega,λi c v e1 e2=>?_⟩,hk⟩
  .simp [loadVar,xt hg,Vb hn,hl]
  .have hi:i<n:=by
    rcases Nat.lt_or_ge i n with h | h
    .exact h
    .rw [List.getElem?_eq_none (by simp;omega)]at e1;simp at e1
   obtain⟨v',h1,h2⟩:=hv i hi;rw [List.getElem?_take_of_lt hi]at e1;simp [List.getElem?_range hi,h1]at e2;subst e2;exact h2 c e1
 | false=>
  cases cs with
  | nil=>exact hk.elim
  | cons c r=>
   obtain⟨v,h1,h2⟩:=hc 0 c rfl;have:=VZ (off:=off) (j:=0) hh h1;rw [Xn,Nat.add_zero]at this;exact⟨v,.one c,by simp [loadVar,xt hg,this],.one _ _ h2,hk⟩
theorem xaQ{cs:List C}{v:Value}(h:RC m I w.heap (.ref cs) v):∃b off,v=.pointer (some ⟨b,off,none⟩)/\At m I w b off cs:=by
 cases h with
 | ref _ b off arr ty fz vs h0 h1 h2 h3 h4=>
  refine⟨b,off,rfl,arr,ty,fz,h2,λj c hj=>⟨vs j,h3 j ?_,h4 j c hj⟩⟩;exact(List.getElem?_eq_some_iff.1 hj).1
theorem Vh{K:List (List C)->Nat->Bool->Prop}{h:Nat->HB}{r ver:Nat}(hk:blkA K h r ver):∃b,(h r).ver=ver/\(h r).blk=some b/\K b.es b.z b.live:=by
 obtain⟨b,hb,hk⟩:=hk;unfold HB.at at hb;split at hb
 .rename_i e;exact⟨b,e,hb,hk⟩
 .simp at hb
theorem JaD(hr:HR E m I w s.h){r ver i off:Nat}{v:Value}(h:RC m I w.heap (.ptr r ver i off) v){b:Blk}(hv:(s.h r).ver=ver)(hb:(s.h r).blk=some b){e:List C}(he:b.es[i]?=some e) :
  ∃k z,v=.pointer (some ⟨k,i*z+off,none⟩)/\m.blk r=some (k,z)/\z=b.z/\At m I w k (i*z+off) (e.drop off):=by
 cases h with
 | ptr _ _ _ _ a h1 h2=>
  have hrb:=hr.blk r b hb;cases hm:m.blk r with
  | none=>rw [hrb.virt hm]at he;simp at he
  | some kz=>
   obtain⟨k,z⟩:=kz;obtain⟨rfl,_,_,arr,ty,hh,hc⟩:=hrb.real k z hm;have ha:=h2 (by rw [hr.ver,hv]) k _ hm
   subst ha;refine⟨k,b.z,rfl,rfl,rfl,arr,ty,_,hh,λj c hj=>?_⟩;rw [List.getElem?_drop]at hj;obtain⟨v,g1,g2⟩:=hc i (off+j) e c he hj;exact⟨v,by rw [Nat.add_assoc];exact g1,g2⟩
theorem zbj{t:TypeId}{x:Operand}{y:Opd}{n:Nat}{g:Bool}{bb:Option Nat}(h:Sim E s a w m I)(hd:∀k,o.dst=some k->k<E.N)(ho:o.op=.load t x)(hx:cOpd x=some y)
  (hn:sizeT P t=some n) (hg:isAggT P t=some g) (hk:ldA (λx=>K (s.put o.dst x)) n g s.h (s.ev y)):Lands P E o a w K:=by
 have hv:=h.ev hx;unfold ldA at hk;split at hk
 .rename_i cs heq;rw [heq]at hv;obtain⟨b,off,hp,hat⟩:=xaQ hv.one_inv;obtain⟨v,x',h1,h2,h3⟩:=kN hn hg hat hk;exact Ja h hd (by simp [execOp,ho,Instr.loadAt,Instr.sureAddr,hp,h1]) h2 h3
 .rename_i r ver i off heq;rw [heq]at hv;obtain⟨b,e1,e2,hk⟩:=Vh hk;obtain⟨hlt,hk⟩:=hk;have he:b.es[i]?=some (b.es[i]'hlt):=List.getElem?_eq_getElem hlt;obtain⟨k,z,hp,hm,hz,hat⟩:=JaD h.heap hv.one_inv e1 e2 he;obtain⟨v,x',h1,h2,h3⟩:=kN hn hg hat (hk _ he);exact Ja h hd (by simp [execOp,ho,Instr.loadAt,Instr.sureAddr,hp,h1]) h2 h3
 .exact hk.elim
theorem kaK{z i j off n i' j' : Nat}(h1:off+n<=z)(h2:j' < z)(hne:i'≠i):i' * z+j' < i*z+off∨i*z+off+n<=i' * z+j':=by
 rcases Nat.lt_or_ge i' i with h | h
 .left;have:=Nat.mul_le_mul_right z (show i' + 1<=i by omega)
  rw [Nat.add_mul]at this;omega
 .right;have:=Nat.mul_le_mul_right z (show i+1<=i' by omega)
  rw [Nat.add_mul]at this;omega
theorem QE(w:World)(g:Nat)(c:Array Value):(w.setRow g c).heap.size=w.heap.size:=by simp [World.setRow]
theorem Uo(w:World)(g b:Nat)(c:Array Value)(h:b≠g):(w.setRow g c).heap[b]?=w.heap[b]?:=setRow_other w g b c h
theorem Jn(l vs:List Value)(p q:Nat)(h:p+vs.length<=l.length) :
  (l.take p++vs++l.drop (p+vs.length))[q]?=if p<=q/\q<p+vs.length then vs[q-p]? else l[q]?:=by
 by_cases h1:q<p
 .rw [if_neg (by omega),List.append_assoc,List.getElem?_append_left (by simp;omega),List.getElem?_take_of_lt h1]
 .by_cases h2:q<p+vs.length
  .rw [if_pos ⟨by omega,h2⟩,List.getElem?_append_left (by simp;omega),List.getElem?_append_right (by simp;omega)]
   congr 1;simp;omega
  .rw [if_neg (by omega),List.getElem?_append_right (by simp;omega),List.getElem?_drop]
   congr 1;simp;omega
theorem Xal(e xs:List C)(off j:Nat)(h:off+xs.length<=e.length):(splice e off xs.length xs)[j]?=if off<=j/\j<off+xs.length then xs[j-off]? else e[j]?:=by
 unfold splice;by_cases h1:j<off
 .rw [if_neg (by omega),List.getElem?_append_left (by simp;omega),List.getElem?_take_of_lt h1]
 .by_cases h2:j<off+xs.length
  .rw [if_pos ⟨by omega,h2⟩,List.getElem?_append_right (by simp;omega),List.getElem?_append_left (by simp;omega)]
   congr 1;simp;omega
  .rw [if_neg (by omega),List.getElem?_append_right (by simp;omega),List.getElem?_append_right (by simp;omega),List.getElem?_drop]
   congr 1;simp;omega
theorem YN(e xs:List C)(off:Nat)(h:off+xs.length<=e.length):(splice e off xs.length xs).length=e.length:=by
 unfold splice;simp;omega
theorem HR.store{h:Nat->HB}(hr:HR E m I w h){r ver i off k:Nat}{b:Blk}{e xs:List C}{vs:List Value}{arr:Array Value}{ty:TypeId}
  (hv:(h r).ver=ver) (hb:(h r).blk=some b) (hl:b.live=true) (hm:m.blk r=some (k,b.z)) (he:b.es[i]?=some e) (hle:off+xs.length<=e.length)
  (hh:w.heap[k]?=some (.cells arr ty (0,0))) (hx:RL m I w.heap xs vs) :
  let w':=w.setRow k (arr.toList.take (i*b.z+off)++vs++arr.toList.drop (i*b.z+off+vs.length)).toArray
  i*b.z+off+vs.length<=arr.size/\
  HR E (m.set r ver k b.z) I w' (upd h r ⟨ver,some ⟨b.es.set i (splice e off xs.length xs),b.z,true⟩⟩)/\Ext m I w.heap (m.set r ver k b.z) I w'.heap:=by
 intro w';have hrb:=hr.blk r b hb;obtain⟨_,_,_,arr',ty',hh',hc⟩:=hrb.real k b.z hm;rw [hh]at hh';simp only [zOI,Obj.cells.injEq,and_true]at hh';obtain⟨rfl,rfl⟩:=hh';have hez:e.length=b.z:=hrb.sz e (List.mem_of_getElem? he);have hlen:vs.length=xs.length:=hx.1.symm;have hi:i<b.es.length:=(List.getElem?_eq_some_iff.1 he).1;have hfit:i*b.z+off+vs.length<=arr.size:=by
  rcases Nat.eq_zero_or_pos vs.length with h0 | hp
  .rcases Nat.eq_zero_or_pos b.z with hz | hz
   .rw [hz];omega
   .have hj:e[b.z-1]?=some (e[b.z-1]'(by omega)):=List.getElem?_eq_getElem (by omega)
    obtain⟨v,g1,_⟩:=hc i (b.z-1) e _ he hj;have:=(Array.getElem?_eq_some_iff.1 g1).1;omega
  .have hj:e[off+vs.length-1]?=some (e[off+vs.length-1]'(by omega)):=List.getElem?_eq_getElem (by omega)
   obtain⟨v,g1,_⟩:=hc i (off+vs.length-1) e _ he hj;have:=(Array.getElem?_eq_some_iff.1 g1).1;omega
 refine⟨hfit,hr.set (w':=w') rfl rfl rfl (by simp [w']) (λb' _ hne=>Uo w k b' _ hne) (setRow_heap w k arr _ ty _ hh)
  (.inr (.inr ⟨b,b.z,hb,hl,hm,.inr ⟨by rw [hr.ver,hv],rfl,?_⟩⟩)) (.inr (by rw [hr.ver,hv])) (λe' he'=>?_) (λi' j' e' c he' hc'=>?_)⟩
 .simp [bsize,hh];omega
 .rcases List.mem_or_eq_of_mem_set he' with h | h
  .exact hrb.sz e' h
  .rw [h,YN _ _ _ hle,hez]
 .have hgp:=Jn arr.toList vs (i*b.z+off) (i' * b.z+j') (by simpa using hfit)
  simp only [List.getElem?_toArray];rw [hgp];by_cases hii:i' = i
  .subst hii;rw [List.getElem?_set_self hi]at he';simp only [zOI]at he';subst he';rw [Xal _ _ _ _ hle]at hc';by_cases hin:off<=j'/\j' < off+xs.length
   .rw [if_pos hin]at hc';rw [if_pos (by omega),show i' * b.z+j' - (i' * b.z+off)=j' - off by omega]
    have hvj:vs[j' - off]?=some (vs[j' - off]'(by omega)):=List.getElem?_eq_getElem (by omega)
    exact⟨_,hvj,hx.2 _ _ _ hc' hvj⟩
   .rw [if_neg hin]at hc';rw [if_neg (by omega)]
    obtain⟨v,g1,g2⟩:=hc i' j' e c he hc';exact⟨v,by simpa using g1,g2⟩
  .rw [List.getElem?_set_ne (λe=>hii e.symm)]at he';obtain⟨v,g1,g2⟩:=hc i' j' e' c he' hc';have hj' : j' < b.z:=by
    have:=(List.getElem?_eq_some_iff.1 hc').1;rw [hrb.sz e' (List.mem_of_getElem? he')]at this;exact this
   have:=kaK (off:=off) (n:=vs.length) (z:=b.z) (i:=i) (j:=0) (by omega) hj' hii
   rw [if_neg (by omega)]
   exact⟨v,by simpa using g1,g2⟩
theorem Wbj{t:TypeId}{x z:Operand}{y y' : Opd}{n:Nat}(h:Sim E s a w m I)(hd:∀k,o.dst=some k->k<E.N)(ho:o.op=.store t x z)(hx:cOpd x=some y)(hz:cOpd z=some y')
  (hn:sizeT P t=some n) (hk:stA (λh=>K ((s.setH h).put o.dst (.tup []))) n s.h (s.ev y') (s.ev y)):Lands P E o a w K:=by
 have hv:=h.ev hx;unfold stA at hk;split at hk
 .rename_i r ver i off heq;rw [heq]at hv;obtain⟨xs,vs,hk,hcells,hrl,_⟩:=Xo hk (h.ev hz);obtain⟨b,e1,e2,⟨hlive,hlen⟩,hlt,hk⟩:=Vh hk;have he:b.es[i]?=some (b.es[i]'hlt):=List.getElem?_eq_getElem hlt;obtain⟨hle,hk⟩:=hk _ he;obtain⟨k,z',hp,hm,hz',arr,ty,fz,hh,hat⟩:=JaD h.heap hv.one_inv e1 e2 he;subst hz';obtain⟨_,_,_,arr',ty',hh',_⟩:=(h.heap.blk r b e2).real k b.z hm;rw [hh]at hh';simp only [zOI,Obj.cells.injEq]at hh';obtain⟨rfl,rfl,rfl⟩:=hh';subst hlen;obtain⟨hfit,hhr,hext⟩:=h.heap.store e1 e2 hlive hm he hle hh hrl;have hone:∀v∈vs,v.oneCell' = true:=by
   intro v hv';obtain⟨i,hi⟩:=List.getElem?_of_mem hv';have hlt:i<xs.length:=by rw [hrl.1];exact(List.getElem?_eq_some_iff.1 hi).1
   exact ww (hrl.2 i _ v (List.getElem?_eq_getElem hlt) hi).cell
  have hst:=run_storeCells_at P k (i*b.z+off) ty vs 0 arr w hh (by simpa using hfit) hone
  simp only [Nat.add_zero]at hst;have hsim:=(h.move hext hhr).put (d:=o.dst) (x:=.tup []) (v:=undef) (.tup [] [] rfl (λi a v h=>by simp at h)) hd
  rw [hlive]at hk;refine Zan ?_ hk hsim;simp only [execOp,ho,Instr.storeAt,Instr.sureAddr,hp,storeVar,hcells,Sem.run_bind,Sem.run_pure,Result.andThen_ok,Vb hn];simp [hrl.1,hst]
 .exact hk.elim
end Go.Abs
end
section
namespace Go.Abs
variable {P:Program} {E:Env} {s:S} {a:Act} {w:World} {m:M} {I:Nat->Prop} {o:Oper} {K:S->Prop}
theorem Wbd{x:Operand}{y:Opd}(h:Sim E s a w m I)(hd:∀k,o.dst=some k->k<E.N)(ho:o.op=.move x∨o.op=.assign x)(hx:cOpd x=some y)(hk:K (s.put o.dst (s.ev y))):Lands P E o a w K:=by
 refine Ja h hd ?_ (h.ev hx) hk;rcases ho with ho | ho <;> simp [execOp,ho]
theorem YaW{c x z:Operand}{c' x' z' : Opd}(h:Sim E s a w m I)(hd:∀k,o.dst=some k->k<E.N)(ho:o.op=.pick c x z)(hc:cOpd c=some c')(hx:cOpd x=some x')(hz:cOpd z=some z')
  (hk:asBool (λb=>(b=true->K (s.put o.dst (s.ev x')))/\(b=false->K (s.put o.dst (s.ev z')))) (s.ev c')):Lands P E o a w K:=by
 obtain⟨b,hb,hk⟩:=Uq hk;have hv:=h.ev hc;rw [hb]at hv;obtain⟨hv,_⟩:=hv.lit_inv;cases b
 .exact Ja h hd (by simp [execOp,ho,Go.asBool,hv]) (h.ev hz) (hk.2 rfl)
 .exact Ja h hd (by simp [execOp,ho,Go.asBool,hv]) (h.ev hx) (hk.1 rfl)
theorem Qd{t:TypeId}{zs:List C}(h:zeroCells P t=some zs):∃i v,P.info? t=some i/\i.zero=some v/\v.cells.size=i.size/\zs=v.cells.toList.map cellOf/\∀x∈v.cells.toList,isCell x=true:=by
 unfold zeroCells at h;split at h
 .rename_i i hi;split at h
  .rename_i v hz;split at h
   .rename_i hc;simp only [zOI]at h;exact⟨i,v,hi,hz,hc.1,h.symm,λx hx=>List.all_eq_true.1 hc.2 x hx⟩
   .simp at h
  .simp at h
 .simp at h
theorem vaE{v:Value}(h:∀x∈v.cells.toList,isCell x=true):RL m I w.heap (v.cells.toList.map cellOf) v.cells.toList:=
 ⟨by simp,λi c u hc hu=>by
  simp only [List.getElem?_map,hu,Option.map_some,zOI]at hc;subst hc;exact jn u (h u (List.mem_of_getElem? hu))⟩
theorem JQ{cs:List C}{vs:List Value}(h:RL m I w.heap cs vs):∀(i j:Nat) (e:List C) (c:C),[cs][i]?=some e->e[j]?=some c->∃v,(⟨vs⟩:Array Value)[i*cs.length+j]?=some v/\RC m I w.heap c v:=by
 intro i j e c he hc;cases i with
 | zero=>
  simp only [List.getElem?_cons_zero,zOI]at he;subst he;have hj:j<vs.length:=by rw [<-h.1];exact(List.getElem?_eq_some_iff.1 hc).1
  exact⟨vs[j],by simp,h.2 j c _ hc (List.getElem?_eq_getElem hj)⟩
 | succ i=>simp at he
theorem Xar{d ver z k:Nat}{m' : M}{H:Array Obj}(h1:m'.ver d=ver)(h2:m'.blk d=some (k,z)):RA m' I H (.one (.ptr d ver 0 0)) (.pointer (some ⟨k,0,none⟩)):=
 .one _ _ (.ptr d ver 0 0 _ (by omega) (λ_ b z' hb=>by rw [h2]at hb;simp at hb;simp [hb.1]))
theorem qaG{e:TypeId}{zs:List C}(h:Sim E s a w m I)(hd:∀k,o.dst=some k->k<E.N)(ho:o.op=.alloc e)(hz:zeroCells P e=some zs)
  (hk:newA K s ⟨[zs],zs.length,true⟩ (λd ver=>.one (.ptr d ver 0 0)) o.dst):Lands P E o a w K:=by
 obtain⟨i,v,hi,hzv,_,rfl,hcell⟩:=Qd hz;refine qo (v:=.pointer (some ⟨w.heap.size,0,none⟩)) (w':={ w with heap:=w.heap.push (.cells v.cells e) }) h hd ?_ rfl rfl rfl rfl (λe he=>by simp at he;subst he;simp) ?_ (λd ver m' h1 h2=>Xar h1 h2) hk
 .simp [execOp,ho,Instr.alloc,zeroValue,typeInfo,hi,hzv,newVar,newRow]
 .have:=JQ (vaE (m:=m) (I:=I) (w:=w) hcell);simpa using this
theorem xbh{e:TypeId}{x:Operand}{y:Opd}{n:Nat}(h:Sim E s a w m I)(hd:∀k,o.dst=some k->k<E.N)(ho:o.op=.box e x)(hx:cOpd x=some y)(hn:sizeT P e=some n)
  (hk:asCells (λcs=>cs.length=n/\newA K s ⟨[cs],n,true⟩ (λd ver=>.one (.ptr d ver 0 0)) o.dst) (s.ev y)):Lands P E o a w K:=by
 obtain⟨cs,vs,⟨hlen,hk⟩,hc,hrl,_⟩:=Xo hk (h.ev hx);subst hlen;refine qo (v:=.pointer (some ⟨w.heap.size,0,none⟩)) (w':={ w with heap:=w.heap.push (.cells ⟨vs⟩ e) }) h hd ?_ rfl rfl rfl rfl (λe he=>by simp at he;subst he;rfl) (JQ hrl) (λd ver m' h1 h2=>Xar h1 h2) hk
 simp [execOp,ho,Instr.box,newVar,newRow,hc]
theorem ZaL{x:Operand}{y:Opd}(h:Sim E s a w m I)(hd:∀k,o.dst=some k->k<E.N)(ho:o.op=.nilCheck x)(hx:cOpd x=some y)(hk:nilckA (λr=>K (s.put o.dst r)) (s.ev y)):Lands P E o a w K:=by
 have hv:=h.ev hx;unfold nilckA at hk;split at hk
 .rename_i heq;rw [heq]at hv;have:=hv.one_inv;cases hp:a.eval x <;> rw [hp]at this <;> cases this
  exact Ja h hd (by simp [execOp,ho,hp]) (hp▸hv) hk
 .rename_i heq;rw [heq]at hv;have:=hv.one_inv;cases hp:a.eval x <;> rw [hp]at this <;> cases this
  exact Ja h hd (by simp [execOp,ho,hp]) (hp▸hv) hk
 .exact hk.elim
theorem ubb{op:BinOp}{t t' : TypeId}{x z:Operand}{x' z' : Opd}(h:Sim E s a w m I)(hd:∀k,o.dst=some k->k<E.N)(ho:o.op=.binOp op t x z t')(hx:cOpd x=some x')(hz:cOpd z=some z')
  (hk:binA (λr=>K (s.put o.dst r)) op (s.ev x') (s.ev z')):Lands P E o a w K:=by
 have hv:=h.ev hx;have hu:=h.ev hz;unfold binA at hk;split at hk
 .rename_i k n k' n' e1 e2;rw [e1]at hv;rw [e2]at hu;obtain⟨hv,_⟩:=hv.lit_inv;obtain⟨hu,_⟩:=hu.lit_inv;have main:∃v,(binOp op t (.int k n) (.int k' n')).run P w=.ok v w/\∃c,K (s.put o.dst c)/\∀m I H,RA m I H c v:=by
   unfold binI at hk;split at hk
   .exact Ua1 hk t w
   .exact xa3 hk t w
   .obtain⟨rfl,hk⟩:=hk;exact Jas hk t w
  obtain⟨v,hr,c,hk,hc⟩:=main;refine Ja h hd ?_ (hc _ _ _) hk;have hg:(eqGuard op t x z (.int k n) (.int k' n')).run P w=.ok () w:=by
   unfold eqGuard;split <;> simp
  simp [execOp,ho,hv,hu,hg,hr]
 .exact hk.elim
theorem yaY{op:BinOp}{t t' : TypeId}{x z:Operand}{x' z' : Opd}(h:Sim E s a w m I)(hd:∀k,o.dst=some k->k<E.N)(ho:o.op=.binOp op t x z t')(ht:P.underlying t=some .bool)(hx:cOpd x=some x')(hz:cOpd z=some z')
  (hk:binbA (λr=>K (s.put o.dst r)) op (s.ev x') (s.ev z')):Lands P E o a w K:=by
 have hv:=h.ev hx;have hu:=h.ev hz;unfold binbA at hk;split at hk
 .rename_i b b' e1 e2;rw [e1]at hv;rw [e2]at hu;obtain⟨hv,_⟩:=hv.lit_inv;obtain⟨hu,_⟩:=hu.lit_inv;refine Ja h hd ?_ (we _) hk;simp [execOp,ho,hv,hu,eqGuard,(uG t ht b b' w).1]
 .rename_i b b' e1 e2;rw [e1]at hv;rw [e2]at hu;obtain⟨hv,_⟩:=hv.lit_inv;obtain⟨hu,_⟩:=hu.lit_inv;refine Ja h hd ?_ (we _) hk;simp [execOp,ho,hv,hu,eqGuard,(uG t ht b b' w).2]
 .exact hk.elim
theorem qaH{K:Bool->Prop}{b:Option Bool}(h:nilR K b):∃x,b=some x/\K x:=by
 cases b with
 | none=>exact h.elim
 | some x=>exact⟨x,rfl,h⟩
theorem Z1{z:Operand}{z' : Opd}(hz:cOpd z=some z')(h:isConst z' = true):(∃v,z=.const v)∨∃f,z=.func f:=by
 cases z with
 | tmp t=>
  simp only [cOpd]at hz;split at hz
  .simp only [zOI]at hz;subst hz;simp [isConst]at h
  .simp at hz
 | const v=>exact .inl ⟨v,rfl⟩
 | global g=>simp [cOpd]at hz
 | func f=>exact .inr ⟨f,rfl⟩
theorem ka4{op:BinOp}{t t' : TypeId}{ms:Array (String×TypeId)}{x z:Operand}{x' z' : Opd}(h:Sim E s a w m I)(hd:∀k,o.dst=some k->k<E.N)(ho:o.op=.binOp op t x z t')(ht:P.underlying t=some (.interface ms))(hx:cOpd x=some x')(hz:cOpd z=some z')
  (hk:binnA (λr=>K (s.put o.dst r)) op (isConst z') (s.ev x') (s.ev z')):Lands P E o a w K:=by
 have hv:=h.ev hx;have hu:=h.ev hz;unfold binnA at hk;split at hk
 case h_3=>exact hk.elim
 all_goals
  rename_i u hcst e1 e2;rw [e1]at hv;rw [e2]at hu;obtain⟨hv,_⟩:=hv.lit_inv;obtain⟨hu,_⟩:=hu.lit_inv;obtain⟨b,hb,hk⟩:=qaH hk;have hz2:∃v,z=.const v:=by
   rcases Z1 hz hcst with h | ⟨f,rfl⟩
   .exact h
   .simp [Act.eval]at hu
  obtain⟨vz,rfl⟩:=hz2;have hg:∀op',(eqGuard op' t x (.const vz) u .nilIface).run P w=.ok () w:=by
   intro op';unfold eqGuard;cases u <;> simp [isNilV]at hb <;> cases op' <;> simp
  refine Ja h hd ?_ (we _) hk
  first
   | (simp [execOp,ho,hv,hu,hg,(wK ht hb w).1];done)
   | (simp [execOp,ho,hv,hu,hg,(wK ht hb w).2];done)
theorem zbl{op:UnOp}{t:TypeId}{x:Operand}{x' : Opd}(h:Sim E s a w m I)(hd:∀k,o.dst=some k->k<E.N)(ho:o.op=.unOp op t x)(hx:cOpd x=some x')
  (hk:unA (λr=>K (s.put o.dst r)) op (s.ev x')):Lands P E o a w K:=by
 have hv:=h.ev hx;unfold unA at hk;split at hk
 .rename_i b e1;rw [e1]at hv;obtain⟨hv,_⟩:=hv.lit_inv;exact Ja h hd (by simp [execOp,ho,hv,Op.unary]) (we _) hk
 .rename_i k n e1;rw [e1]at hv;obtain⟨hv,_⟩:=hv.lit_inv;exact Ja h hd (by simp [execOp,ho,hv,Op.unary,Op.intArith]) (Je _ _) (wo hk)
 .exact hk.elim
theorem VaX{src dst:TypeId}{k k' : IntKind}{x:Operand}{x' : Opd}(h:Sim E s a w m I)(hd:∀k,o.dst=some k->k<E.N)(ho:o.op=.convert src dst x)(hs:P.underlying src=some (.int k'))(ht:P.underlying dst=some (.int k))(hx:cOpd x=some x')
  (hk:convA (λr=>K (s.put o.dst r)) k (s.ev x')):Lands P E o a w K:=by
 have hv:=h.ev hx;unfold convA at hk;split at hk
 .rename_i k2 n e1;rw [e1]at hv;obtain⟨hv,_⟩:=hv.lit_inv;exact Ja h hd (by simp [execOp,ho,hv,convert,run_underlying hs,run_underlying ht,Conv.intToInt]) (Je _ _) (wo hk)
 .exact hk.elim
theorem jaJ{t:TypeId}{k:IntKind}{x:Operand}{x' : Opd}(h:Sim E s a w m I)(hd:∀k,o.dst=some k->k<E.N)(ho:o.op=.makeInterface t x)(ht:P.underlying t=some (.int k))(hx:cOpd x=some x')
  (hk:ifaceA (λr=>K (s.put o.dst r)) t (s.ev x')):Lands P E o a w K:=by
 have hv:=h.ev hx;unfold ifaceA at hk;split at hk
 .rename_i k2 n e1;rw [e1]at hv;obtain⟨hv,_⟩:=hv.lit_inv;exact Ja h hd (by simp [execOp,ho,hv,Instr.makeInterface,run_underlying ht]) (.one _ _ (.lit _ rfl)) hk
 .exact hk.elim
theorem Ybi{t:TypeId}{fs:Array Field}{fd:Field}{i n:Nat}{x:Operand}{x' : Opd}(h:Sim E s a w m I)(hd:∀k,o.dst=some k->k<E.N)(ho:o.op=.fieldAddr t x i)(ht:P.underlying t=some (.struct fs))(hf:fs[i]?=some fd)
  (hn:sizeT P fd.type=some n) (hn0:n≠0) (hx:cOpd x=some x') (hk:faA (λr=>K (s.put o.dst r)) fd.offset (s.ev x')):Lands P E o a w K:=by
 have hv:=h.ev hx;have run:∀A:Addr,a.eval x=.pointer (some A)->(execOp a.eval o).run P w=.ok (.value (.pointer (some (A.add fd.offset)))) w:=by
  intro A hA;simp [execOp,ho,hA,Instr.fieldAt,run_underlying ht,hf,Instr.sureAddr,fieldPlace,Vb hn,hn0]
 unfold faA at hk;split at hk
 .rename_i r ver j off e1;rw [e1]at hv;have:=hv.one_inv;cases hp:a.eval x <;> rw [hp]at this <;> cases this
  rename_i A h1 h2;refine Ja h hd (run A hp) (.one _ _ (.ptr r ver j (off+fd.offset) _ h1 (λe b z hb=>?_))) hk;rw [h2 e b z hb,Xn,Nat.add_assoc]
 .rename_i cs e1;rw [e1]at hv;obtain⟨hle,hk⟩:=hk;have:=hv.one_inv;cases hp:a.eval x <;> rw [hp]at this <;> cases this
  rename_i b off arr ty fz vs h1 h2 h0 h3 h4;refine Ja h hd (run _ hp) (.one _ _ ?_) hk;rw [Xn];refine .ref _ b (off+fd.offset) arr ty fz (λj=>vs (fd.offset+j)) (λc hc=>h0 c (List.mem_of_mem_drop hc)) h1 h2 (λj hj=>?_) (λj c hc=>?_)
  .rw [Nat.add_assoc];exact h3 _ (by simp at hj;omega)
  .rw [List.getElem?_drop]at hc;exact h4 _ _ hc
 .exact hk.elim
end Go.Abs
end
section
namespace Go.Abs
variable {P:Program} {E:Env} {s:S} {a:Act} {w:World} {m:M} {I:Nat->Prop} {o:Oper} {K:S->Prop}
theorem RL.drop{cs:List C}{vs:List Value}(h:RL m I w.heap cs vs)(k:Nat):RL m I w.heap (cs.drop k) (vs.drop k):=
 ⟨by simp [h.1],λi c v hc hv=>h.2 (k+i) c v (by rwa [List.getElem?_drop]at hc) (by rwa [List.getElem?_drop]at hv)⟩
theorem RL.take{cs:List C}{vs:List Value}(h:RL m I w.heap cs vs)(k:Nat):RL m I w.heap (cs.take k) (vs.take k):=
 ⟨by simp [h.1],λi c v hc hv=>by
  have hi:i<k:=by
   have:=(List.getElem?_eq_some_iff.1 hc).1;simp at this;omega
  rw [List.getElem?_take_of_lt hi]at hc hv;exact h.2 i c v hc hv⟩
theorem qak{t:TypeId}{n off:Nat}{g:Bool}(hn:sizeT P t=some n)(hg:isAggT P t=some g){cs:List C}{vs:List Value}(h:RL m I w.heap cs vs)(hle:off<=cs.length)
  {K:AV->Prop} (hk:ldK K n g (cs.drop off)):∃v x,(part t ⟨vs⟩ off).run P w=.ok v w/\RA m I w.heap x v/\K x:=by
 cases g with
 | true=>
  obtain⟨hle2,hk⟩:=hk;refine⟨.agg ⟨(vs.drop off).take n⟩,.agg ((cs.drop off).take n),?_,.agg _ _ ((h.drop off).take n),hk⟩;simp only [part,Sem.run_bind,xt hg,Result.andThen_ok,if_true,Vb hn,Sem.run_pure,Sem.run_ite];congr 2;apply Array.ext';simp
 | false=>
  cases hd:cs.drop off with
  | nil=>rw [hd]at hk;exact hk.elim
  | cons c r=>
   rw [hd]at hk;have hc:cs[off]?=some c:=by
    have:(cs.drop off)[0]?=some c:=by rw [hd];rfl
    rwa [List.getElem?_drop,Nat.add_zero]at this
   have hlt:off<vs.length:=by rw [<-h.1];exact(List.getElem?_eq_some_iff.1 hc).1
   exact⟨vs[off],.one c,by simp [part,xt hg,hlt],.one _ _ (h.2 off c _ hc (List.getElem?_eq_getElem hlt)),hk⟩
theorem Qbc{t:TypeId}{fs:Array Field}{fd:Field}{i n:Nat}{g:Bool}{x:Operand}{x' : Opd}(h:Sim E s a w m I)(hd:∀k,o.dst=some k->k<E.N)(ho:o.op=.field t x i)(ht:P.underlying t=some (.struct fs))(hf:fs[i]?=some fd)
  (hn:sizeT P fd.type=some n) (hg:isAggT P fd.type=some g) (hx:cOpd x=some x') (hk:fldA (λr=>K (s.put o.dst r)) n g fd.offset (s.ev x')):Lands P E o a w K:=by
 have hv:=h.ev hx;unfold fldA at hk;split at hk
 .rename_i cs e1;rw [e1]at hv;obtain⟨vs,hp,hrl⟩:=hv.agg_inv;obtain⟨v,x2,h1,h2,h3⟩:=qak hn hg hrl hk.1 hk.2;exact Ja h hd (by simp [execOp,ho,hp,Instr.field,run_underlying ht,hf,asAgg,h1]) h2 h3
 .exact hk.elim
theorem Ubh{x:Operand}{x' : Opd}{i:Nat}(h:Sim E s a w m I)(hd:∀k,o.dst=some k->k<E.N)(ho:o.op=.extract x i)(hx:cOpd x=some x')
  (hk:extA (λr=>K (s.put o.dst r)) i (s.ev x')):Lands P E o a w K:=by
 have hv:=h.ev hx;unfold extA at hk;split at hk
 .rename_i l e1;rw [e1]at hv;obtain⟨vs,hp,hlen,hr⟩:=hv.tup_inv;obtain⟨hlt,hk⟩:=hk;have ha:l[i]?=some (l[i]'hlt):=List.getElem?_eq_getElem hlt;have hlt' : i<vs.length:=by omega
  exact Ja (v:=vs[i]) h hd (by simp [execOp,ho,hp,Instr.extract,hlt']) (hr i _ _ ha (List.getElem?_eq_getElem hlt')) (hk _ ha)
 .exact hk.elim
theorem Za2{t t' : TypeId}{k:IntKind}{zi:TypeInfo}{z:Value}{x:Operand}{x' : Opd}(h:Sim E s a w m I)(hd:∀k,o.dst=some k->k<E.N)(ho:o.op=.typeAssert x t' t true)(ht:P.underlying t=some (.int k))(hi:P.info? t=some zi)(hz:zi.zero=some z)(hx:cOpd x=some x')
  (hk:tassA (λr=>K (s.put o.dst r)) t (avOf z) (s.ev x')):Lands P E o a w K:=by
 have hv:=h.ev hx;have pair:∀(A B:AV) (u v:Value),RA m I w.heap A u->RA m I w.heap B v->RA m I w.heap (.tup [A,B]) (.tuple #[u,v]):=by
  intro A B u v h1 h2;refine .tup _ [u,v] rfl (λi a x e1 e2=>?_);match i with
  | 0=>simp at e1 e2;subst e1 e2;exact h1
  | 1=>simp at e1 e2;subst e1 e2;exact h2
  | i+2=>simp at e1
 unfold tassA at hk;split at hk
 .rename_i t2 u e1;rw [e1]at hv;obtain⟨hv,_⟩:=hv.lit_inv;by_cases e:t2=t
  .obtain⟨hc,hk⟩:=hk.1 e;exact Ja h hd (by simp [execOp,ho,hv,Instr.typeAssert,run_underlying ht,e]) (pair _ _ _ _ (.one _ _ (.lit u hc)) (we true)) hk
  .exact Ja h hd (by simp [execOp,ho,hv,Instr.typeAssert,run_underlying ht,e,zeroValue,typeInfo,hi,hz]) (pair _ _ _ _ (Q4 z) (we false)) (hk.2 e)
 .rename_i e1;rw [e1]at hv;obtain⟨hv,_⟩:=hv.lit_inv;exact Ja h hd (by simp [execOp,ho,hv,Instr.typeAssert,run_underlying ht,zeroValue,typeInfo,hi,hz]) (pair _ _ _ _ (Q4 z) (we false)) hk
 .exact hk.elim
theorem Z4{a:Act}(h:Sim E s a w m I):∀(l:List Operand) (l' : List Opd),cOpds l=some l'->∀{K:List C->Prop},capA s.ev l' K->∃cs,K cs/\RL m I w.heap cs (l.map a.eval)
 | [],l',hl,K,hk=>by
  simp [cOpds]at hl;subst hl;exact⟨[],hk,rfl,λi c v h=>by simp at h⟩
 | x::l,l',hl,K,hk=>by
  simp only [cOpds,List.mapM_cons,Option.bind_eq_bind,zOB,Option.pure_def,zOI]at hl;obtain⟨y,hy,l2,hl2,rfl⟩:=hl;simp only [capA]at hk;have hv:=h.ev hy;unfold asOne at hk;split at hk
  .rename_i c e1;rw [e1]at hv;obtain⟨cs2,hk2,hrl2⟩:=Z4 h l l2 hl2 hk;refine⟨_,hk2,by simp [hrl2.1],λi c' v e1 e2=>?_⟩
   cases i with
   | zero=>simp at e1 e2;subst e1 e2;exact hv.one_inv
   | succ i=>exact hrl2.2 i c' v (by simpa using e1) (by simpa using e2)
  .exact hk.elim
theorem xa8{f:FuncId}{caps:Array Operand}{l' : List Opd}(h:Sim E s a w m I)(hd:∀k,o.dst=some k->k<E.N)(ho:o.op=.makeFunc (.func f) #[] caps)(hl:cOpds caps.toList=some l')
  (hk:capA s.ev l' λcs=>K (s.put o.dst (.one (.clo f cs)))):Lands P E o a w K:=by
 obtain⟨cs,hk,hrl⟩:=Z4 h _ _ hl hk;refine Ja (v:=.func (.func f) #[] ⟨caps.toList.map a.eval⟩) h hd ?_ (.one _ _ (.clo f cs _ hrl.1.symm hrl.2)) hk;simp only [execOp,ho,Instr.makeFunc];obtain⟨l⟩:=caps;simp
theorem xa1{f:FuncId}{caps:Array Operand}{l' : List Opd}(h:Sim E s a w m I)(hd:∀k,o.dst=some k->k<E.N)(ho:o.op=.makeFunc (.func f) caps #[])(hl:cOpds caps.toList=some l')
  (hk:capA s.ev (.c (.one (.lit (.agg ⟨[]⟩)))::l') λcs=>K (s.put o.dst (.one (.clo f cs)))):Lands P E o a w K:=by
 have hk:capA s.ev l' λcs=>K (s.put o.dst (.one (.clo f (.lit (.agg ⟨[]⟩)::cs)))):=hk;obtain⟨cs,hk,hrl⟩:=Z4 h _ _ hl hk;refine Ja (v:=.func (.func f) ⟨caps.toList.map a.eval⟩ #[]) h hd ?_ (.one _ _ (.bnd f cs _ hrl.1.symm hrl.2)) hk;simp only [execOp,ho,Instr.makeFunc];obtain⟨l⟩:=caps;simp
theorem ya8{dr:Bool}{t ty:TypeId}{e:TypeId}{c:Call}{x:Operand}{x' : Opd}(h:Sim E s a w m I)(hd:∀k,o.dst=some k->k<E.N)(ho:o.op=.call c)(hcal:c.callee=.builtin .len)(hargs:c.args[0]?=some x)(ht0:c.argTypes[0]?=some t)(ht:P.underlying t=some (.slice e))(hx:cOpd x=some x')
  (hk:lenA (λr=>K (s.put o.dst r)) dr (s.ev x')):Lands P E o a w K:=by
 have hv:=h.ev hx;have run:∀A n cap,a.eval x=.slice A n cap->(execOp a.eval o).run P w=.ok (.value (.int .i64 n)) w:=by
  intro A n cap hA;have ha:(c.args.map a.eval)[0]?=some (.slice A n cap):=by simp [hargs,hA]
  simp [execOp,ho,resolve,hcal,invoke,builtin,Builtin.len_,ht0,ha,run_underlying ht,goInt]
 have slice:∀es v,RC m I w.heap (.slice es) v->∃A cap,v=.slice A es.length cap/\es.length<=maxLenA:=by
  intro es v hr;cases hr with
  | snil A cap=>exact⟨A,cap,rfl,by simp⟩
  | slice _ sz b off cap arr ty fz vs h0 h1 h2 h3 h4 h5 h6=>exact⟨_,cap,rfl,h1⟩
 unfold lenA at hk;split at hk
 .rename_i es e1;rw [e1]at hv;obtain⟨A,cap,hp,hle⟩:=slice es _ hv.one_inv;exact Ja h hd (run _ _ _ hp) (Je _ _) (hk.2 hle)
 .rename_i es e1;rw [e1]at hv;have:=hv.one_inv;cases hp:a.eval x <;> rw [hp]at this <;> cases this
  rename_i hin;obtain⟨A,cap,_,hle⟩:=slice es _ hin;exact Ja h hd (run _ _ _ hp) (Je _ _) (hk.2 hle)
 .rename_i e1;rw [e1]at hv;have:=hv.one_inv;cases hp:a.eval x <;> rw [hp]at this <;> cases this
  exact Ja h hd (run _ _ _ hp) (Je _ _) hk
 .rename_i r ver z off len e1;rw [e1]at hv;have:=hv.one_inv;cases hp:a.eval x <;> rw [hp]at this <;> cases this
  rename_i h1 h2 h3 h4 h5 h6;exact Ja h hd (run _ _ _ hp) (Je _ _) (hk.2 h2)
 .exact hk.elim
theorem Wbe{t ty:TypeId}{e:TypeId}{c:Call}{x:Operand}{x' : Opd}(h:Sim E s a w m I)(hd:∀k,o.dst=some k->k<E.N)(ho:o.op=.call c)(hcal:c.callee=.builtin .cap)(hargs:c.args[0]?=some x)(ht0:c.argTypes[0]?=some t)(ht:P.underlying t=some (.slice e))(hx:cOpd x=some x')
  (hk:capZ (λr=>K (s.put o.dst r)) (s.ev x')):Lands P E o a w K:=by
 have hv:=h.ev hx;unfold capZ at hk;split at hk
 .rename_i e1;rw [e1]at hv;have:=hv.one_inv;cases hp:a.eval x <;> rw [hp]at this <;> cases this
  rename_i A;have ha:(c.args.map a.eval)[0]?=some (.slice A 0 0):=by simp [hargs,hp]
  exact Ja h hd (by simp [execOp,ho,resolve,hcal,invoke,builtin,Builtin.cap_,ht0,ha,run_underlying ht,goInt]) (Je _ _) hk
 .exact hk.elim
theorem YO{t e:TypeId}(ht:P.underlying t=some (.slice e))(A:Option Addr)(n cap:Nat)(w:World)(d:Nat) :
  (Op.equalIn (d+1) t (.slice A n cap) (.slice none 0 0)).run P w=.ok A.isNone w:=by
 cases A <;> simp only [Op.equalIn,Sem.run_bind,run_underlying ht,Result.andThen_ok,Sem.run_pure,Option.isNone]
theorem ZX{t e:TypeId}(ht:P.underlying t=some (.slice e))(A:Option Addr)(n cap:Nat)(w:World) :
  (binOp .eql t (.slice A n cap) (.slice none 0 0)).run P w=.ok (.bool A.isNone) w/\(binOp .neq t (.slice A n cap) (.slice none 0 0)).run P w=.ok (.bool (!A.isNone)) w:=by
 have h:=YO (P:=P) ht A n cap w 9999;constructor <;> simp only [binOp,Op.equal,Op.maxDepth,Sem.run_bind,h,Result.andThen_ok,Sem.run_pure]
theorem zaw{op:BinOp}{neg:Bool}{t t' e:TypeId}{x:Operand}{x' : Opd}(h:Sim E s a w m I)(hd:∀k,o.dst=some k->k<E.N)(ho:o.op=.binOp op t x (.const (.slice none 0 0)) t')(ht:P.underlying t=some (.slice e))(hx:cOpd x=some x')
  (hop:(op=.eql/\neg=false)∨(op=.neq/\neg=true)) (hk:snilA (λr=>K (s.put o.dst r)) neg (s.ev x')):Lands P E o a w K:=by
 have hv:=h.ev hx;have run:∀A n cap,a.eval x=.slice A n cap->(execOp a.eval o).run P w=.ok (.value (.bool (A.isNone != neg))) w:=by
  intro A n cap hA;have hc:a.eval (.const (.slice none 0 0))=.slice none 0 0:=rfl;obtain⟨h1,h2⟩:=ZX (P:=P) ht A n cap w;rcases hop with⟨rfl,rfl⟩ | ⟨rfl,rfl⟩
  .simp [execOp,ho,hA,hc,eqGuard,h1]
  .simp [execOp,ho,hA,hc,eqGuard,h2]
 have fin:∀A n cap (ee:Prop),a.eval x=.slice A n cap->(A=none->ee)->snilK (λr=>K (s.put o.dst r)) neg ee->Lands P E o a w K:=by
  intro A n cap ee hA hn hk;refine Ja h hd (run A n cap hA) (we _) ?_;cases A with
  | none=>have:=hk.1 (hn rfl);cases neg <;> exact this
  | some A=>have:=hk.2;cases neg <;> exact this
 have slice:∀es v,RC m I w.heap (.slice es) v->∃A cap,v=.slice A es.length cap/\(A=none->es=[]):=by
  intro es v hr;cases hr with
  | snil A cap=>exact⟨A,cap,rfl,λ_=>rfl⟩
  | slice _ sz b off cap arr ty fz vs h0 h1 h2 h3 h4 h5 h6=>exact⟨_,cap,rfl,λh=>by simp at h⟩
 unfold snilA at hk;split at hk
 .rename_i e1;rw [e1]at hv;have:=hv.one_inv;cases hp:a.eval x <;> rw [hp]at this <;> cases this
  exact fin _ _ _ _ hp (λ_=>trivial) hk
 .rename_i es e1;rw [e1]at hv;obtain⟨A,cap,hp,hn⟩:=slice es _ hv.one_inv;exact fin _ _ _ _ hp hn hk
 .rename_i es e1;rw [e1]at hv;have:=hv.one_inv;cases hp:a.eval x <;> rw [hp]at this <;> cases this
  rename_i hin;obtain⟨A,cap,hq,hn⟩:=slice es _ hin;simp only [Value.slice.injEq]at hq;obtain⟨rfl,_⟩:=hq;exact fin _ _ _ _ hp hn hk
 .rename_i r ver z off len e1;rw [e1]at hv;have:=hv.one_inv;cases hp:a.eval x <;> rw [hp]at this <;> cases this
  exact fin _ _ _ _ hp (by assumption) hk
 .exact hk.elim
theorem km{H:Array Obj}{r ver z off len:Nat}{v:Value}(h:RC m I H (.own r ver z off len) v):∃A cap,v=.slice A len cap/\ver<=m.ver r/\len<=maxLenA/\
  (ver=m.ver r->∀b z',m.blk r=some (b,z')->z' = z/\(cap=0∨(A=some ⟨b,off*z,none⟩/\(off+cap)*z<=bsize H b)))/\
  (ver=m.ver r->m.blk r=none->cap=0)/\(A=none->len=0)/\len<=cap:=by
 cases h with | own _ _ _ _ _ cap A h1 h2 h3 h4 h5 h6=>exact⟨A,cap,rfl,h1,h2,h3,h4,h5,h6⟩
theorem zag{K:List C->Prop}{es:List (List C)}{i:Nat}(h:getE K es i):∃e,es[i]?=some e/\i<es.length/\K e:=
 ⟨es[i]'h.1,List.getElem?_eq_getElem h.1,h.1,h.2 _ (List.getElem?_eq_getElem h.1)⟩
theorem vK{es:List (List C)}{v:Value}(h:RC m I w.heap (.slice es) v){i:Nat}{e:List C}(he:es[i]?=some e){z:Nat}(hz:e.length=z) :
  ∃A cap,v=.slice (some A) es.length cap/\RC m I w.heap (.ref e) (.pointer (some (A.add (i*z)))):=by
 have hi:=(List.getElem?_eq_some_iff.1 he).1;cases h with
 | snil A cap=>simp at he
 | slice _ sz b off cap arr ty fz vs h0 h1 h1' h2 h3 h4 h5 h6=>
  have hsz:sz=z:=by rw [<-h4 e (List.mem_of_getElem? he),hz]
  subst hsz;refine⟨_,cap,rfl,?_⟩;rw [Xn];exact .ref e b (off+i*sz) arr ty fz (vs i) (h0 e (List.mem_of_getElem? he)) h2 h3 (λj hj=>h5 i j hi (by omega)) (λj c hc=>h6 i j e c he hc)
theorem jbg{t e:TypeId}{z:Nat}{x i:Operand}{x' i' : Opd}(h:Sim E s a w m I)(hd:∀k,o.dst=some k->k<E.N)(ho:o.op=.indexAddr t x i)(ht:P.underlying t=some (.slice e))(hz:sizeT P e=some z)
  (hx:cOpd x=some x') (hi:cOpd i=some i') (hk:idxA (λr=>K (s.put o.dst r)) z (s.ev i') (s.ev x')):Lands P E o a w K:=by
 have hv:=h.ev hx;have hu:=h.ev hi;have run:∀A n cap k (j:Int),a.eval x=.slice (some A) n cap->a.eval i=.int k j->0<=j->j<n->(execOp a.eval o).run P w=.ok (.value (.pointer (some (A.add (j.toNat*z))))) w:=by
  intro A n cap k j hA hj h0 h1;simp [execOp,ho,hA,hj,Instr.indexAt,run_underlying ht,asIntOf,Vb hz,h0,h1]
 unfold idxA at hk;split at hk
 .rename_i es e1;rw [e1]at hv;obtain⟨k,j,e2,h0,hk⟩:=Qc hk;rw [e2]at hu;obtain⟨hu,_⟩:=hu.lit_inv;obtain⟨el,he,hlt,hlen,hk⟩:=zag hk;obtain⟨A,cap,hp,hr⟩:=vK hv.one_inv he hlen;exact Ja h hd (run _ _ _ _ _ hp hu h0 (by omega)) (.one _ _ hr) hk
 .rename_i es e1;rw [e1]at hv;obtain⟨k,j,e2,h0,hk⟩:=Qc hk;rw [e2]at hu;obtain⟨hu,_⟩:=hu.lit_inv;obtain⟨el,he,hlt,hlen,hk⟩:=zag hk;have hin:∃A cap,a.eval x=.slice A es.length cap/\RC m I w.heap (.slice es) (.slice A es.length cap):=by
   have:=hv.one_inv;cases hp:a.eval x <;> rw [hp]at this <;> cases this
   rename_i hin;exact⟨_,_,rfl,hin⟩
  obtain⟨A0,cap0,hp0,hin⟩:=hin;obtain⟨A,cap,hp,hr⟩:=vK hin he hlen;exact Ja h hd (run _ _ _ _ _ (hp0.trans hp) hu h0 (by omega)) (.one _ _ hr) hk
 .rename_i r ver z' off len e1;rw [e1]at hv;obtain⟨k,j,e2,⟨h0,h1,hz'⟩,hk2⟩:=Qc hk;rw [e2]at hu;obtain⟨hu,_⟩:=hu.lit_inv;subst hz';obtain⟨A,cap,hp,g1,g2,g3,g4,g5,g6⟩:=km hv.one_inv;cases hA:A with
  | none=>have:=g5 hA;omega
  | some A=>
   subst hA;refine Ja h hd (run _ _ _ _ _ hp hu h0 h1) (.one _ _ (.ptr _ _ _ _ _ g1 (λe b zz hb=>?_))) hk2;obtain⟨rfl,hc | ⟨hc,_⟩⟩:=g3 e b zz hb
   .omega
   .simp only [zOI]at hc;subst hc;rw [Xn,Nat.add_mul,Nat.add_zero]
 .exact hk.elim
theorem WO{a:Act}(h:Sim E s a w m I){K:Nat->Prop}{dflt:Nat}{x:Option Operand}{y:Option Opd}(hx:(x=none/\y=none)∨∃p q,x=some p/\y=some q/\cOpd p=some q)(hk:bnd K s.ev dflt y) :
  (x=none/\K dflt)∨∃p k j,x=some p/\a.eval p=.int k j/\0<=j/\K j.toNat:=by
 rcases hx with⟨rfl,rfl⟩ | ⟨p,q,rfl,rfl,hpq⟩
 .exact .inl ⟨rfl,hk⟩
 .obtain⟨k,j,e,h0,hk⟩:=Qc hk;have hu:=h.ev hpq;rw [e]at hu;exact .inr ⟨p,k,j,rfl,hu.lit_inv.1,h0,hk⟩
theorem Wbm{t e:TypeId}{z:Nat}{x:Operand}{x' : Opd}{lo hi:Option Operand}{lo' hi' : Option Opd}(h:Sim E s a w m I)(hd:∀k,o.dst=some k->k<E.N)(ho:o.op=.slice t x lo hi none)(ht:P.underlying t=some (.slice e))(hz:sizeT P e=some z)
  (hx:cOpd x=some x') (hlo:(lo=none/\lo' = none)∨∃p q,lo=some p/\lo' = some q/\cOpd p=some q) (hhi:(hi=none/\hi' = none)∨∃p q,hi=some p/\hi' = some q/\cOpd p=some q)
  (hk:slA (λr=>K (s.put o.dst r)) z s.ev lo' hi' (s.ev x')):Lands P E o a w K:=by
 have hv:=h.ev hx;have run:∀A n cap (K2:Nat->Nat->Prop),a.eval x=.slice A n cap->n<=cap->(bnd (λh=>bnd (λl=>K2 l h) s.ev 0 lo') s.ev n hi')->(∀l h,K2 l h->l<=h/\h<=n)->
   ∃l h,K2 l h/\(execOp a.eval o).run P w=.ok (.value (.slice (if cap=l then A else A.map (·.add (l*z))) (h-l) (cap-l))) w:=by
  intro A n cap K2 hA hnc hb hK;rcases WO h hhi hb with⟨rfl,hb⟩ | ⟨p,k,j,rfl,hp,h0,hb⟩ <;> rcases WO h hlo hb with⟨rfl,hb⟩ | ⟨p',k',j',rfl,hp',h0',hb⟩
  .exact⟨_,_,hb,by simp [execOp,ho,hA,Instr.sliceAt,Instr.slice,run_underlying ht,Instr.sliceBounds,Vb hz]⟩
  .have:=hK _ _ hb;have e1:j'<=n:=by omega
   exact⟨_,_,hb,by simp [execOp,ho,hA,hp',Instr.sliceAt,Instr.slice,run_underlying ht,Instr.sliceBounds,Instr.sliceBound,asIntOf,h0',e1,Vb hz]⟩
  .have:=hK _ _ hb;have e1:j<=cap:=by omega
   exact⟨_,_,hb,by simp [execOp,ho,hA,hp,Instr.sliceAt,Instr.slice,run_underlying ht,Instr.sliceBounds,Instr.sliceBound,asIntOf,h0,e1,Vb hz]⟩
  .have:=hK _ _ hb;have e1:j<=cap:=by omega
   have e2:j'<=max j 0:=by omega
   exact⟨_,_,hb,by simp [execOp,ho,hA,hp,hp',Instr.sliceAt,Instr.slice,run_underlying ht,Instr.sliceBounds,Instr.sliceBound,asIntOf,h0,h0',e1,e2,Vb hz]⟩
 have data:∀es v,RC m I w.heap (.slice es) v->(bnd (λh=>bnd (λl=>(l<=h/\h<=es.length/\∀e∈es,e.length=z)/\K (s.put o.dst (.one (.slice ((es.drop l).take (h-l)))))) s.ev 0 lo') s.ev es.length hi')->a.eval x=v->Lands P E o a w K:=by
  intro es v hr hb hxv;cases hr with
  | snil A cap=>
   obtain⟨l,hh,⟨⟨g1,g2,g3⟩,hk⟩,hrun⟩:=run A 0 cap _ hxv (Nat.zero_le _) hb (λl h hh=>⟨hh.1.1,by simpa using hh.1.2.1⟩)
   have:hh=0:=by simpa using g2
   subst this;have:l=0:=by omega
   subst this;exact Ja h hd hrun (.one _ _ (by simpa using RC.snil _ _)) hk
  | slice _ sz b off cap arr ty fz vs h0 h1 h1' h2 h3 h4 h5 h6=>
   obtain⟨l,hh,⟨⟨g1,g2,g3⟩,hk⟩,hrun⟩:=run _ _ cap _ hxv h1' hb (λl h hh=>⟨hh.1.1,hh.1.2.1⟩);refine Ja h hd hrun (.one _ _ ?_) hk;have hlen:((es.drop l).take (hh-l)).length=hh-l:=by simp;omega
   by_cases hcl:cap=l
   .have e0:hh-l=0:=by omega
    rw [e0,List.take_zero];exact .snil _ _
   .rw [if_neg hcl];have key:=RC.slice (m:=m) (I:=I) (H:=w.heap) ((es.drop l).take (hh-l)) sz b (off+l*sz) (cap-l) arr ty fz (λi j=>vs (l+i) j) (λe he=>h0 e (List.mem_of_mem_drop (List.mem_of_mem_take he))) (by rw [hlen];omega) (by rw [hlen];omega) h2 h3
     (λe he=>h4 e (List.mem_of_mem_drop (List.mem_of_mem_take he)))
     (λi j hi hj=>by rw [hlen]at hi;have:=h5 (l+i) j (by omega) hj;rw [Nat.add_mul]at this;rw [<-this];congr 1;omega)
     (λi j e c he hc=>by
      have hi:i<hh-l:=by
       have:=(List.getElem?_eq_some_iff.1 he).1;rw [hlen]at this;exact this
      rw [List.getElem?_take_of_lt hi,List.getElem?_drop]at he;exact h6 (l+i) j e c he hc)
    rw [hlen]at key;by_cases hes:es=[]
    .subst hes;have e0:hh-l=0:=by simp at g2;omega
     rw [e0]at key ⊢;simp only [List.take_zero];exact .snil _ _
    .obtain⟨e0,he0⟩:=List.exists_mem_of_ne_nil es hes;have hsz:z=sz:=by rw [<-g3 e0 he0,h4 e0 he0]
     rw [hsz];simpa [Xn] using key
 unfold slA at hk;split at hk
 .rename_i es e1;rw [e1]at hv;exact data es _ hv.one_inv hk rfl
 .rename_i es e1;rw [e1]at hv;have hin:∃A cap,a.eval x=.slice A es.length cap/\RC m I w.heap (.slice es) (.slice A es.length cap):=by
   have:=hv.one_inv;cases hp:a.eval x <;> rw [hp]at this <;> cases this
   rename_i hin;exact⟨_,_,rfl,hin⟩
  obtain⟨A0,cap0,hp0,hin⟩:=hin;exact data es _ hin hk hp0
 .rename_i r ver z' off len e1;rw [e1]at hv;obtain⟨A,cap,hp,g1,g2,g3,g4,g5,g6⟩:=km hv.one_inv;obtain⟨l,hh,⟨⟨q1,q2,hz'⟩,hk2⟩,hrun⟩:=run A len cap _ hp g6 hk (λl h hh=>⟨hh.1.1,hh.1.2.1⟩);subst hz';refine Ja h hd hrun (.one _ _ ?_) hk2;refine .own r ver z (off+l) (hh-l) (cap-l) _ g1 (by omega) (λe b z' hb=>?_) (λe hb=>by have:=g4 e hb;omega) (λhn=>?_) (by omega)
  .obtain⟨rfl,hc | ⟨hc,hbs⟩⟩:=g3 e b z' hb
   .exact⟨rfl,.inl (by omega)⟩
   .refine⟨rfl,?_⟩;by_cases hcl:cap=l
    .exact .inl (by omega)
    .right;rw [if_neg hcl,hc];refine⟨by simp [Xn,Nat.add_mul],?_⟩
     have:off+l+(cap-l)=off+cap:=by omega
     rw [this];exact hbs
  .split at hn
   .omega
   .simp at hn;have:=g5 hn;omega
 .rename_i e1;rw [e1]at hv;have:=hv.one_inv;cases hp:a.eval x <;> rw [hp]at this <;> cases this
  obtain⟨l,hh,⟨⟨q1,q2⟩,hk⟩,hrun⟩:=run _ 0 0 _ hp (Nat.le_refl _) hk (λl h hh=>by omega)
  subst q1 q2;exact Ja h hd hrun (.one _ _ (.emp _)) hk
 .exact hk.elim
theorem zaJ{c:C}{v:Value}(h:litC c=some v):c=.lit v:=by
 unfold litC at h;split at h
 .simp only [zOI]at h;rw [h]
 .simp at h
theorem Xm{m:M}{I:Nat->Prop}{H:Array Obj}{x:AV}{v u:Value}(h:litV x=some v)(hr:RA m I H x u):u=v:=by
 unfold litV at h;split at h
 .simp only [zOI]at h;subst h;exact hr.lit_inv.1
 .rename_i l;simp only [zOM]at h;obtain⟨vs,h1,rfl⟩:=h;obtain⟨us,rfl,h2,h3⟩:=hr.agg_inv;congr 1;congr 1;have key:∀(l:List C) (vs us:List Value),l.mapM litC=some vs->l.length=us.length->(∀(i:Nat) (c:C) (v:Value),l[i]?=some c->us[i]?=some v->RC m I H c v)->us=vs:=by
   intro l
   induction l with
   | nil=>
    intro vs us h1 h2 _;simp at h1;subst h1;exact List.length_eq_zero_iff.1 h2.symm
   | cons c l ih=>
    intro vs us h1 h2 h3;simp only [List.mapM_cons,Option.bind_eq_bind,zOB,Option.pure_def,zOI]at h1;obtain⟨v1,g1,vs1,g2,rfl⟩:=h1;cases us with
    | nil=>simp at h2
    | cons u us=>
     have e1:=h3 0 c u rfl rfl;rw [zaJ g1]at e1;have e1:=(RA.one _ _ e1).lit_inv.1;rw [e1,ih vs1 us g2 (by simpa using h2) (λi c v hc hv=>h3 (i+1) c v (by simpa using hc) (by simpa using hv))]
  exact key l vs us h1 h2 h3
 .simp at h
theorem qap{op:BinOp}{k:Nat}{t t' : TypeId}{x z:Operand}{x' z' : Opd}(h:Sim E s a w m I)(hd:∀k,o.dst=some k->k<E.N)(ho:o.op=.binOp op t x z t')(hop:(op=.eql/\k=1)∨(op=.add/\k=2))(hx:cOpd x=some x')(hz:cOpd z=some z')
  (hk:sopA (λr=>K (s.put o.dst r)) k [s.ev x',s.ev z']):Lands P E o a w K:=by
 have hv:=h.ev hx;have hu:=h.ev hz;unfold sopA at hk;split at hk
 rotate_left
 .exact hk.elim
 rename_i v e;simp only [List.mapM_cons,List.mapM_nil,Option.bind_eq_bind,zOB,Option.pure_def,zOI]at e;obtain⟨_,⟨u1,e1,_,⟨u2,e2,_,rfl,rfl⟩,rfl⟩,e⟩:=e;have hv:=Xm e1 hv;have hu:=Xm e2 hu;have hg:∀u1 u2,(eqGuard op t x z (.string u1) (.string u2)).run P w=.ok () w:=by
  intro u1 u2;unfold eqGuard;split <;> simp
 rcases hop with⟨rfl,rfl⟩ | ⟨rfl,rfl⟩
 .unfold sopV at e;split at e <;> try simp only [zOI,reduceCtorEq]at e
  all_goals first | (rename_i hkk _;exact absurd hkk (by decide)) | (rename_i hkk;exact absurd hkk (by decide)) | skip
  rename_i s1 s2 _ hl;simp only [List.cons.injEq,and_true]at hl;obtain⟨rfl,rfl⟩:=hl;subst e;refine Ja h hd ?_ (.one _ _ (.lit _ rfl)) hk;simp [execOp,ho,hv,hu,hg,binOp,Op.stringOp]
 .unfold sopV at e;split at e <;> try simp only [zOI,reduceCtorEq]at e
  all_goals first | (rename_i hkk _;exact absurd hkk (by decide)) | (rename_i hkk;exact absurd hkk (by decide)) | skip
  .rename_i s1 s2 _ hl;simp only [List.cons.injEq,and_true]at hl;obtain⟨rfl,rfl⟩:=hl;split at e
   .rename_i hsz;simp only [zOI]at e;subst e;refine Ja h hd ?_ (.one _ _ (.lit _ rfl)) hk;have hm:¬(9223372036854775807<((s1.size:Int)+(s2.size:Int))):=by omega
    simp [execOp,ho,hv,hu,hg,binOp,Op.stringOp,hm]
   .simp at e
theorem VF{t:TypeId}{k0:IntKind}(ht:P.underlying t=some (.int k0))(k:IntKind)(a b:Int)(w:World)(d:Nat):(Op.equalIn (d+1) t (.int k a) (.int k b)).run P w=.ok (a == b) w:=by
 simp only [Op.equalIn,Sem.run_bind,run_underlying ht,Result.andThen_ok,if_true,Sem.run_pure]
theorem kac{t:TypeId}{k0:IntKind}(ht:P.underlying t=some (.int k0))(cs:Array Value)(off:Nat)(v:Value)(hv:cs[off]?=some v)(w:World):(part t cs off).run P w=.ok v w:=by
 have:(isAgg t).run P w=.ok false w:=by simp [isAgg,run_underlying ht]
 simp [part,this,hv]
theorem waZ{t t' : TypeId}{x z:Operand}{x' z' : Opd}{fs:Array Field}{f1 f2:Field}(h:Sim E s a w m I)(hd:∀k,o.dst=some k->k<E.N)(ho:o.op=.binOp .eql t x z t')(ht:P.underlying t=some (.struct fs))(hfs:fs.toList=[f1,f2])(h2:twoInts P t f1 f2=true)
  (hx:cOpd x=some x') (hz:cOpd z=some z') (hk:sopA (λr=>K (s.put o.dst r)) 5 [s.ev x',s.ev z']):Lands P E o a w K:=by
 have hv:=h.ev hx;have hu:=h.ev hz;unfold sopA at hk;split at hk
 rotate_left
 .exact hk.elim
 rename_i v e;simp only [List.mapM_cons,List.mapM_nil,Option.bind_eq_bind,zOB,Option.pure_def,zOI]at e;obtain⟨_,⟨u1,e1,_,⟨u2,e2,_,rfl,rfl⟩,rfl⟩,e⟩:=e;have hv:=Xm e1 hv;have hu:=Xm e2 hu;unfold sopV at e;split at e <;> try simp only [zOI,reduceCtorEq]at e
 all_goals first | (rename_i hkk _;exact absurd hkk (by decide)) | (rename_i hkk;exact absurd hkk (by decide)) | skip
 rename_i k1 a1 l1 b1 k2 c1 l2 d1 _ hl;simp only [List.cons.injEq,and_true]at hl;obtain⟨rfl,rfl⟩:=hl;split at e
 rotate_left
 .simp at e
 rename_i hb;obtain⟨rfl,rfl⟩:=hb;simp only [zOI]at e;subst e;unfold twoInts at h2;simp only [zBA,bne_iff_ne,ne_eq,beq_iff_eq,Bool.not_eq_true']at h2;obtain⟨⟨⟨⟨⟨⟨⟨q1,q2⟩,q3⟩,q4⟩,q5⟩,q6⟩,q7⟩,q8⟩:=h2;obtain⟨i1,q1⟩:∃k,P.underlying f1.type=some (.int k):=by
  split at q1
  .exact⟨_,‹_›⟩
  .simp at q1
 obtain⟨i2,q2⟩:∃k,P.underlying f2.type=some (.int k):=by
  split at q2
  .exact⟨_,‹_›⟩
  .simp at q2
 have hfs' : fs = #[f1,f2]:=by apply Array.ext';simpa using hfs
 subst hfs';have g1:=VF q1 k1 a1 c1 w 9998;have g2:=VF q2 l1 b1 d1 w 9998;have p1:∀(u1 u2:Value),(part f1.type #[u1,u2] f1.offset).run P w=.ok u1 w:=λu1 u2=>kac q1 _ _ _ (by rw [q5];rfl) w
 have p2:∀(u1 u2:Value),(part f2.type #[u1,u2] f2.offset).run P w=.ok u2 w:=λu1 u2=>kac q2 _ _ _ (by rw [q6];rfl) w
 have hg:(eqGuard .eql t x z (.agg #[.int k1 a1,.int l1 b1]) (.agg #[.int k1 c1,.int l1 d1])).run P w=.ok () w:=by
  simp [eqGuard,q8]
 have heq:(Op.equalIn 10000 t (.agg #[.int k1 a1,.int l1 b1]) (.agg #[.int k1 c1,.int l1 d1])).run P w=.ok (a1 == c1 && b1 == d1) w:=by
  show(Op.equalIn (9999+1) t _ _).run P w=_;rw [Op.equalIn];simp only [Sem.run_bind,run_underlying ht,Result.andThen_ok];simp [q7,q3,q4,p1,p2,g1,g2];by_cases ea:a1=c1
  .by_cases eb:b1=d1
   .simp [ea,eb]
   .simp [ea,eb]
  .simp [ea]
 refine Ja h hd ?_ (.one _ _ (.lit _ rfl)) hk;simp [execOp,ho,hv,hu,hg,binOp,Op.equal,Op.maxDepth,heq]
theorem xaV{t:TypeId}{x z:Operand}{x' z' : Opd}(h:Sim E s a w m I)(hd:∀k,o.dst=some k->k<E.N)(ho:o.op=.index t x z)(ht:P.underlying t=some .string)(hx:cOpd x=some x')(hz:cOpd z=some z')
  (hk:sopA (λr=>K (s.put o.dst r)) 3 [s.ev x',s.ev z']):Lands P E o a w K:=by
 have hv:=h.ev hx;have hu:=h.ev hz;unfold sopA at hk;split at hk
 rotate_left
 .exact hk.elim
 rename_i v e;simp only [List.mapM_cons,List.mapM_nil,Option.bind_eq_bind,zOB,Option.pure_def,zOI]at e;obtain⟨_,⟨u1,e1,_,⟨u2,e2,_,rfl,rfl⟩,rfl⟩,e⟩:=e;have hv:=Xm e1 hv;have hu:=Xm e2 hu;unfold sopV at e;split at e <;> try simp only [zOI,reduceCtorEq]at e
 all_goals first | (rename_i hkk _;exact absurd hkk (by decide)) | (rename_i hkk;exact absurd hkk (by decide)) | skip
 rename_i s1 k1 i _ hl;simp only [List.cons.injEq,and_true]at hl;obtain⟨rfl,rfl⟩:=hl;split at e
 .rename_i hb;simp only [zOM]at e;obtain⟨b,hb2,rfl⟩:=e;refine Ja h hd ?_ (.one _ _ (.lit _ rfl)) hk;simp [execOp,ho,hv,hu,Instr.index,run_underlying ht,asIntOf,hb,hb2]
 .simp at e
theorem UaY{t ty:TypeId}{c:Call}{x:Operand}{x' : Opd}(h:Sim E s a w m I)(hd:∀k,o.dst=some k->k<E.N)(ho:o.op=.call c)(hcal:c.callee=.builtin .len)(hargs:c.args[0]?=some x)(ht0:c.argTypes[0]?=some t)(ht:P.underlying t=some .string)(hx:cOpd x=some x')
  (hk:sopA (λr=>K (s.put o.dst r)) 4 [s.ev x']):Lands P E o a w K:=by
 have hv:=h.ev hx;unfold sopA at hk;split at hk
 rotate_left
 .exact hk.elim
 rename_i v e;simp only [List.mapM_cons,List.mapM_nil,Option.bind_eq_bind,zOB,Option.pure_def,zOI]at e;obtain⟨_,⟨u1,e1,_,rfl,rfl⟩,e⟩:=e;have hv:=Xm e1 hv;unfold sopV at e;split at e <;> try simp only [zOI,reduceCtorEq]at e
 all_goals first | (rename_i hkk _;exact absurd hkk (by decide)) | (rename_i hkk;exact absurd hkk (by decide)) | skip
 rename_i s1 _ hl;simp only [List.cons.injEq,and_true]at hl;subst hl e;have ha:(c.args.map a.eval)[0]?=some (.string s1):=by simp [hargs,hv]
 refine Ja h hd ?_ (.one _ _ (.lit _ rfl)) hk;simp [execOp,ho,resolve,hcal,invoke,builtin,Builtin.len_,ht0,ha,run_underlying ht,goInt]
theorem Va1{t:TypeId}{x lo hi:Operand}{x' lo' hi' : Opd}(h:Sim E s a w m I)(hd:∀k,o.dst=some k->k<E.N)(ho:o.op=.slice t x (some lo) (some hi) none)(ht:P.underlying t=some .string)(hx:cOpd x=some x')(hlo:cOpd lo=some lo')(hhi:cOpd hi=some hi')
  (hk:sopA (λr=>K (s.put o.dst r)) 0 [s.ev x',s.ev lo',s.ev hi']):Lands P E o a w K:=by
 have hv:=h.ev hx;have hu:=h.ev hlo;have hw:=h.ev hhi;unfold sopA at hk;split at hk
 rotate_left
 .exact hk.elim
 rename_i v e;simp only [List.mapM_cons,List.mapM_nil,Option.bind_eq_bind,zOB,Option.pure_def,zOI]at e;obtain⟨_,⟨u1,e1,_,⟨u2,e2,_,⟨u3,e3,_,rfl,rfl⟩,rfl⟩,rfl⟩,e⟩:=e;have hv:=Xm e1 hv;have hu:=Xm e2 hu;have hw:=Xm e3 hw;unfold sopV at e;split at e <;> try simp only [zOI,reduceCtorEq]at e
 all_goals first | (rename_i hkk _;exact absurd hkk (by decide)) | (rename_i hkk;exact absurd hkk (by decide)) | skip
 .rename_i s1 k1 l k2 h2 _ hl;simp only [List.cons.injEq,and_true]at hl;obtain⟨rfl,rfl,rfl⟩:=hl;split at e
  .rename_i hb;simp only [zOI]at e;subst e;obtain⟨b1,b2,b3⟩:=hb;refine Ja h hd ?_ (.one _ _ (.lit _ rfl)) hk;have c1:0<=h2:=by omega
   have c2:l<=max h2 0:=by omega
   simp [execOp,ho,hv,hu,hw,Instr.sliceAt,Instr.slice,run_underlying ht,Instr.sliceBounds,Instr.sliceBound,asIntOf,b1,b3,c1,c2]
  .simp at e
theorem Vbj{t e:TypeId}{z n:Nat}{x i:Operand}{x' i' : Opd}(h:Sim E s a w m I)(hd:∀k,o.dst=some k->k<E.N)(ho:o.op=.indexAddr t x i)(ht:P.underlying t=some (.array n e))(hz:sizeT P e=some z)
  (hx:cOpd x=some x') (hi:cOpd i=some i') (hk:aiA (λr=>K (s.put o.dst r)) z n (s.ev i') (s.ev x')):Lands P E o a w K:=by
 have hv:=h.ev hx;have hu:=h.ev hi;obtain⟨k,j,e2,⟨h0,h1⟩,hk⟩:=Qc hk;rw [e2]at hu;obtain⟨hu,_⟩:=hu.lit_inv;have run:∀A:Addr,a.eval x=.pointer (some A)->(execOp a.eval o).run P w=.ok (.value (.pointer (some (A.add (j.toNat*z))))) w:=by
  intro A hA;simp [execOp,ho,hA,hu,Instr.indexAt,run_underlying ht,asIntOf,Instr.sureAddr,Vb hz,h0,h1]
 unfold faA at hk;split at hk
 .rename_i r ver j2 off e1;rw [e1]at hv;have:=hv.one_inv;cases hp:a.eval x <;> rw [hp]at this <;> cases this
  rename_i A g1 g2;refine Ja h hd (run A hp) (.one _ _ (.ptr r ver j2 (off+j.toNat*z) _ g1 (λe b z hb=>?_))) hk;rw [g2 e b z hb,Xn,Nat.add_assoc]
 .rename_i cs e1;rw [e1]at hv;obtain⟨hle,hk⟩:=hk;have:=hv.one_inv;cases hp:a.eval x <;> rw [hp]at this <;> cases this
  rename_i b off arr ty fz vs g1 g2 g0 g3 g4;refine Ja h hd (run _ hp) (.one _ _ ?_) hk;rw [Xn];refine .ref _ b (off+j.toNat*z) arr ty fz (λq=>vs (j.toNat*z+q)) (λc hc=>g0 c (List.mem_of_mem_drop hc)) g1 g2 (λq hq=>?_) (λq c hc=>?_)
  .rw [Nat.add_assoc];exact g3 _ (by simp at hq;omega)
  .rw [List.getElem?_drop]at hc;exact g4 _ _ hc
 .exact hk.elim
theorem Za8{t e:TypeId}{z n:Nat}{g:Bool}{x i:Operand}{x' i' : Opd}(h:Sim E s a w m I)(hd:∀k,o.dst=some k->k<E.N)(ho:o.op=.index t x i)(ht:P.underlying t=some (.array n e))(hz:sizeT P e=some z)(hg:isAggT P e=some g)
  (hx:cOpd x=some x') (hi:cOpd i=some i') (hk:aixA (λr=>K (s.put o.dst r)) z g n (s.ev i') (s.ev x')):Lands P E o a w K:=by
 have hv:=h.ev hx;have hu:=h.ev hi;obtain⟨k,j,e2,⟨h0,h1⟩,hk⟩:=Qc hk;rw [e2]at hu;obtain⟨hu,_⟩:=hu.lit_inv;unfold fldA at hk;split at hk
 .rename_i cs e1;rw [e1]at hv;obtain⟨vs,hp,hrl⟩:=hv.agg_inv;obtain⟨v,x2,g1,g2,g3⟩:=qak hz hg hrl hk.1 hk.2;exact Ja h hd (by simp [execOp,ho,hp,hu,Instr.index,run_underlying ht,asIntOf,Vb hz,h0,h1,g1]) g2 g3
 .exact hk.elim
theorem XB(z:Nat):∀(n:Nat) (cs:List C),(chunk z n cs).length=n
 | 0,_=>rfl
 | n+1,cs=>by simp only [chunk,List.length_cons,XB z n]
theorem xu(z:Nat):∀(n:Nat) (cs:List C) (i:Nat),i<n->(chunk z n cs)[i]?=some ((cs.drop (i*z)).take z)
 | n+1,cs,0,_=>by simp [chunk]
 | n+1,cs,i+1,h=>by
  simp only [chunk,List.getElem?_cons_succ];rw [xu z n (cs.drop z) i (by omega),List.drop_drop,Nat.add_comm z,Nat.add_mul,Nat.one_mul]
theorem Jbg{t e:TypeId}{z n:Nat}{x:Operand}{x' : Opd}(h:Sim E s a w m I)(hd:∀k,o.dst=some k->k<E.N)(ho:o.op=.slice t x none none none)(ht:P.underlying t=some (.array n e))(hz:sizeT P e=some z)
  (hx:cOpd x=some x') (hk:rslA (λr=>K (s.put o.dst r)) z n (s.ev x')):Lands P E o a w K:=by
 have hv:=h.ev hx;unfold rslA at hk;split at hk
 .rename_i cs e1;rw [e1]at hv;obtain⟨⟨hlen,hroom⟩,hk⟩:=hk;have:=hv.one_inv;cases hp:a.eval x <;> rw [hp]at this <;> cases this
  rename_i b off arr ty fz vs g1 g2 g0 g3 g4;have run:(execOp a.eval o).run P w=.ok (.value (.slice (some ⟨b,off,none⟩) n n)) w:=by
   have e0:(⟨b,off,none⟩:Addr).add 0=⟨b,off,none⟩:=by rw [Xn];rfl
   simp [execOp,ho,hp,Instr.sliceAt,run_underlying ht,Instr.sureAddr,Instr.sliceBounds,Vb hz,e0]
  have hl:=XB z n cs;have hmem:∀r∈chunk z n cs,∃i,i<n/\r=(cs.drop (i*z)).take z:=by
   intro r hr;obtain⟨i,hi⟩:=List.getElem?_of_mem hr;have hlt:i<n:=by rw [<-hl];exact(List.getElem?_eq_some_iff.1 hi).1
   rw [xu z n cs i hlt,zOI]at hi;exact⟨i,hlt,hi.symm⟩
  have hfit:∀i,i<n->i*z+z<=cs.length:=λi hi=>by
   rw [hlen,<-Nat.succ_mul];exact Nat.mul_le_mul_right z hi
  have hrc:RC m I w.heap (.slice (chunk z n cs)) (.slice (some ⟨b,off,none⟩) (chunk z n cs).length n):=by
   refine .slice (chunk z n cs) z b off n arr ty fz (λi j=>vs (i*z+j)) ?_ ?_ ?_ g1 g2 ?_ ?_ ?_
   .intro r hr c hc;obtain⟨i,_,rfl⟩:=hmem r hr;exact g0 c (List.mem_of_mem_drop (List.mem_of_mem_take hc))
   .rw [hl];exact Nat.le_trans hroom (by decide)
   .rw [hl];exact Nat.le_refl n
   .intro r hr;obtain⟨i,hi,rfl⟩:=hmem r hr;rw [List.length_take,List.length_drop];have:=hfit i hi;omega
   .intro i j hi hj;rw [hl]at hi;rw [Nat.add_assoc];exact g3 _ (by have:=hfit i hi;omega)
   .intro i j r c hr hc;have hi:i<n:=by rw [<-hl];exact(List.getElem?_eq_some_iff.1 hr).1
    rw [xu z n cs i hi,zOI]at hr;subst hr;have hj:j<z:=by
     have:=(List.getElem?_eq_some_iff.1 hc).1;rw [List.length_take]at this;omega
    rw [List.getElem?_take_of_lt hj,List.getElem?_drop]at hc;exact g4 _ _ hc
  refine Ja h hd run (.one _ _ ?_) hk;rw [hl]at hrc;have:=RC.full (m:=m) (I:=I) (H:=w.heap) (chunk z n cs) (some ⟨b,off,none⟩) (by rw [hl];exact hrc)
  rw [hl]at this;exact this
 .exact hk.elim
theorem xbb{t e:TypeId}{z n:Nat}{x:Operand}{x' : Opd}{lo hi:Option Operand}{lo' hi' : Option Opd}(h:Sim E s a w m I)(hd:∀k,o.dst=some k->k<E.N)(ho:o.op=.slice t x lo hi none)(ht:P.underlying t=some (.array n e))(hz:sizeT P e=some z)
  (hx:cOpd x=some x') (hlo:(lo=none/\lo' = none)∨∃p q,lo=some p/\lo' = some q/\cOpd p=some q) (hhi:(hi=none/\hi' = none)∨∃p q,hi=some p/\hi' = some q/\cOpd p=some q)
  (hk:rslA (λr=>slA (λr=>K (s.put o.dst r)) z s.ev lo' hi' r) z n (s.ev x')):Lands P E o a w K:=by
 have hv:=h.ev hx;unfold rslA at hk;split at hk
 .rename_i cs e1;rw [e1]at hv;obtain⟨⟨hlen,hroom⟩,hk⟩:=hk;have:=hv.one_inv;cases hp:a.eval x <;> rw [hp]at this <;> cases this
  rename_i b off arr ty fz vs g1 g2 g0 g3 g4;have hl:=XB z n cs;have run:∀(K2:Nat->Nat->Prop),(bnd (λh=>bnd (λl=>K2 l h) s.ev 0 lo') s.ev n hi')->(∀l h,K2 l h->l<=h/\h<=n)->
    ∃l h,K2 l h/\(execOp a.eval o).run P w=.ok (.value (.slice (some (if n=l then ⟨b,off,none⟩ else (⟨b,off,none⟩:Addr).add (l*z))) (h-l) (n-l))) w:=by
   intro K2 hb hK;rcases WO h hhi hb with⟨rfl,hb⟩ | ⟨p,k,j,rfl,hp',h0,hb⟩ <;> rcases WO h hlo hb with⟨rfl,hb⟩ | ⟨p2,k2,j2,rfl,hp2,h0',hb⟩
   .exact⟨_,_,hb,by simp [execOp,ho,hp,Instr.sliceAt,run_underlying ht,Instr.sureAddr,Instr.sliceBounds,Vb hz]⟩
   .have:=hK _ _ hb;have e1:j2<=n:=by omega
    exact⟨_,_,hb,by simp [execOp,ho,hp,hp2,Instr.sliceAt,run_underlying ht,Instr.sureAddr,Instr.sliceBounds,Instr.sliceBound,asIntOf,h0',e1,Vb hz]⟩
   .have:=hK _ _ hb;have e1:j<=n:=by omega
    exact⟨_,_,hb,by simp [execOp,ho,hp,hp',Instr.sliceAt,run_underlying ht,Instr.sureAddr,Instr.sliceBounds,Instr.sliceBound,asIntOf,h0,e1,Vb hz]⟩
   .have:=hK _ _ hb;have e1:j<=n:=by omega
    have e2:j2<=max j 0:=by omega
    exact⟨_,_,hb,by simp [execOp,ho,hp,hp',hp2,Instr.sliceAt,run_underlying ht,Instr.sureAddr,Instr.sliceBounds,Instr.sliceBound,asIntOf,h0,h0',e1,e2,Vb hz]⟩
  have hfit:∀i,i<n->i*z+z<=cs.length:=λi hi=>by
   rw [hlen,<-Nat.succ_mul];exact Nat.mul_le_mul_right z hi
  unfold slA at hk;simp only at hk;rw [hl]at hk;obtain⟨l,hh,⟨⟨q1,q2,q3⟩,hk⟩,hrun⟩:=run _ hk (λl h hh=>⟨hh.1.1,hh.1.2.1⟩);refine Ja h hd hrun (.one _ _ ?_) hk;have hlen2:(((chunk z n cs).drop l).take (hh-l)).length=hh-l:=by simp [hl];omega
  by_cases hnl:n=l
  .have e0:hh-l=0:=by omega
   rw [e0,List.take_zero];exact .snil _ _
  .rw [if_neg hnl,Xn];have hmem:∀r∈((chunk z n cs).drop l).take (hh-l),∃i,i<n/\r=(cs.drop (i*z)).take z:=by
    intro r hr;obtain⟨i,hi⟩:=List.getElem?_of_mem (List.mem_of_mem_drop (List.mem_of_mem_take hr));have hlt:i<n:=by rw [<-hl];exact(List.getElem?_eq_some_iff.1 hi).1
    rw [xu z n cs i hlt,zOI]at hi;exact⟨i,hlt,hi.symm⟩
   have key:=RC.slice (m:=m) (I:=I) (H:=w.heap) (((chunk z n cs).drop l).take (hh-l)) z b (off+l*z) (n-l) arr ty fz (λi j=>vs ((l+i)*z+j))
    (λr hr c hc=>by
     obtain⟨i,_,rfl⟩:=hmem r hr;exact g0 c (List.mem_of_mem_drop (List.mem_of_mem_take hc)))
    (by rw [hlen2];exact Nat.le_trans (Nat.le_trans (Nat.sub_le _ _) (Nat.le_trans q2 hroom)) (by decide))
    (by rw [hlen2];omega) g1 g2
    (λr hr=>by
     obtain⟨i,hi,rfl⟩:=hmem r hr;rw [List.length_take,List.length_drop];have:=hfit i hi;omega)
    (λi j hi hj=>by
     rw [hlen2]at hi;have h1:=hfit (l+i) (by omega)
     have:=g3 ((l+i)*z+j) (by omega)
     rw [Nat.add_mul]at this ⊢;rw [<-this];congr 1;omega)
    (λi j r c hr hc=>by
     have hi:i<hh-l:=by
      have:=(List.getElem?_eq_some_iff.1 hr).1;rw [hlen2]at this;exact this
     rw [List.getElem?_take_of_lt hi,List.getElem?_drop]at hr;rw [xu z n cs (l+i) (by omega),zOI]at hr
     subst hr;have hj:j<z:=by
      have:=(List.getElem?_eq_some_iff.1 hc).1;rw [List.length_take]at this;omega
     rw [List.getElem?_take_of_lt hj,List.getElem?_drop]at hc;exact g4 _ _ hc)
   rw [hlen2]at key;exact key
 .exact hk.elim
end Go.Abs
end
section
namespace Go.Abs
variable {P:Program} {E:Env} {s:S} {a:Act} {w:World} {m:M} {I:Nat->Prop} {o:Oper} {K:S->Prop}
def Vals(m:M)(I:Nat->Prop)(H:Array Obj)(z:Nat)(es:List (List C))(vs:List Value):Prop:=
 vs.length=es.length*z/\(∀(i j:Nat) (e:List C) (c:C),es[i]?=some e->e[j]?=some c->∃u,vs[i*z+j]?=some u/\RC m I H c u)/\∀u∈vs,isCell u=true
theorem Vals.nil(H:Array Obj)(z:Nat):Vals m I H z [] []:=⟨by simp,λi j e c h=>by simp at h,λu h=>by simp at h⟩
theorem yaB{H:Array Obj}{z off:Nat}{es:List (List C)}{arr:Array Value}(hl:∀e∈es,e.length=z)
  (hc:∀(i j:Nat) (e:List C) (c:C),es[i]?=some e->e[j]?=some c->∃u,arr[off+(i*z+j)]?=some u/\RC m I H c u) :
  (∀k,k<es.length*z->∃u,arr[off+k]?=some u)/\Vals m I H z es ((List.range (es.length*z)).map λk=>(arr[off+k]?).getD undef):=by
 have hk:∀k,k<es.length*z->∃u,arr[off+k]?=some u/\isCell u=true:=by
  intro k hk;have hz:0<z:=by
   rcases Nat.eq_zero_or_pos z with h | h
   .rw [h]at hk;omega
   .exact h
  have hi:k / z<es.length:=Nat.div_lt_of_lt_mul (by rw [Nat.mul_comm];exact hk)
  have he:es[k / z]?=some (es[k / z]):=List.getElem?_eq_getElem hi;have hlen:=hl _ (List.mem_of_getElem? he);have hj:k % z<(es[k / z]).length:=by rw [hlen];exact Nat.mod_lt _ hz
  obtain⟨u,h1,h2⟩:=hc _ _ _ _ he (List.getElem?_eq_getElem hj);have:k / z*z+k % z=k:=by rw [Nat.mul_comm];exact Nat.div_add_mod k z
  rw [this]at h1;exact⟨u,h1,h2.cell⟩
 refine⟨λk h=>(hk k h).imp λu h=>h.1,by simp,λi j e c he hcj=>?_,λu hu=>?_⟩
 .obtain⟨u,h1,h2⟩:=hc i j e c he hcj;have hi:=(List.getElem?_eq_some_iff.1 he).1;have hj:=(List.getElem?_eq_some_iff.1 hcj).1;rw [hl e (List.mem_of_getElem? he)]at hj;have hlt:i*z+j<es.length*z:=by
   have:=Nat.mul_le_mul_right z (show i+1<=es.length by omega)
   rw [Nat.add_mul]at this;omega
  exact⟨u,by simp [List.getElem?_range hlt,h1],h2⟩
 .simp only [List.mem_map,List.mem_range]at hu;obtain⟨k,hk',rfl⟩:=hu;obtain⟨u,h1,h2⟩:=hk k hk';simp [h1,h2]
theorem Zo(z:Nat)(A:Option Addr)(cap:Nat)(w:World):(Builtin.firstCells z 0 (.slice A 0 cap)).run P w=.ok #[] w:=by
 cases A <;> simp [Builtin.firstCells,loadCells,loadCellsFrom]
theorem U6{z off k n cap:Nat}{arr:Array Value}{ty:TypeId}{fz:Nat×Nat}(hh:w.heap[k]?=some (.cells arr ty fz))(hv:∀j,j<n*z->∃u,arr[off+j]?=some u) :
  (Builtin.firstCells z n (.slice (some ⟨k,off,none⟩) n cap)).run P w=.ok ((List.range (n*z)).map λk=>(arr[off+k]?).getD undef).toArray w:=by
 simp only [Builtin.firstCells];refine run_loadCells w _ _ _ (λj hj=>?_);obtain⟨u,hu⟩:=hv j hj;rw [VZ hh hu];simp [hu]
def Shows(P:Program)(m:M)(I:Nat->Prop)(w:World)(es:List (List C))(v:Value):Prop:=
 ∃A cap,v=.slice A es.length cap/\es.length<=cap/\∀z,(∀e∈es,e.length=z)->∃vs,Vals m I w.heap z es vs/\
  ∀w' : World,w'.heap=w.heap->(Builtin.firstCells z es.length v).run P w' = .ok ⟨vs⟩ w'
theorem Jt{es:List (List C)}{v:Value}(h:RC m I w.heap (.slice es) v):Shows P m I w es v:=by
 cases h with
 | snil A cap=>exact⟨A,cap,rfl,Nat.zero_le _,λz _=>⟨[],Vals.nil _ z,λw' _=>Zo z A cap w'⟩⟩
 | slice _ sz b off cap arr ty fz vs h0 h1 h1' h2 h3 h4 h5 h6=>
  refine⟨_,cap,rfl,h1',λz hz=>?_⟩;by_cases hes:es=[]
  .subst hes;exact⟨[],Vals.nil _ z,λw' _=>Zo z _ cap w'⟩
  .obtain⟨e0,he0⟩:=List.exists_mem_of_ne_nil es hes;have hsz:sz=z:=by rw [<-hz e0 he0,h4 e0 he0]
   subst hsz;obtain⟨g1,g2⟩:=yaB (m:=m) (I:=I) (H:=w.heap) (z:=sz) (off:=off) (es:=es) (arr:=arr) hz (λi j e c he hc=>by
    have hi:=(List.getElem?_eq_some_iff.1 he).1;have hj:=(List.getElem?_eq_some_iff.1 hc).1;rw [hz e (List.mem_of_getElem? he)]at hj;exact⟨vs i j,by rw [<-Nat.add_assoc];exact h5 i j hi hj,h6 i j e c he hc⟩)
   exact⟨_,g2,λw' hw'=>U6 (w:=w') (by rw [hw'];exact h3) g1⟩
theorem wz{es:List (List C)}{off len:Nat}{i:Nat}{e:List C}(h:((es.drop off).take len)[i]?=some e):i<len/\es[off+i]?=some e:=by
 have hi:i<len:=by
  have:=(List.getElem?_eq_some_iff.1 h).1;simp at this;omega
 rw [List.getElem?_take_of_lt hi,List.getElem?_drop]at h;exact⟨hi,h⟩
theorem Vv{K:List (List C)->Prop}{x:AV}{v:Value}(hr:HR E m I w s.h)(hv:RA m I w.heap x v)(hk:elemsA K s.h x):∃es,K es/\Shows P m I w es v:=by
 unfold elemsA at hk;split at hk
 .exact⟨_,hk,Jt hv.one_inv⟩
 .have:=hv.one_inv;cases this with
  | full es A h=>exact⟨_,hk,Jt h⟩
 .have:=hv.one_inv;cases this
  exact⟨_,hk,_,0,rfl,Nat.le_refl _,λz _=>⟨[],Vals.nil _ z,λw' _=>Zo z _ 0 w'⟩⟩
 .rename_i r ver z0 off len;obtain⟨b,e1,e2,hle,hk⟩:=Vh hk;obtain⟨A,cap,rfl,g1,g2,g3,g4,g5,g6⟩:=km hv.one_inv;have hlen:((b.es.drop off).take len).length=len:=by simp;omega
  refine⟨_,hk,A,cap,by rw [hlen],by rw [hlen];exact g6,λz hz=>?_⟩
  have hcur:ver=m.ver r:=by rw [hr.ver,e1]
  by_cases hl0:len=0
  .subst hl0;simp only [List.take_zero,List.length_nil];exact⟨[],Vals.nil _ z,λw' _=>Zo z _ cap w'⟩
  .have hrb:=hr.blk r b e2;cases hm:m.blk r with
   | none=>have:=hrb.virt hm;rw [this]at hle;simp at hle;omega
   | some kz=>
    obtain⟨k,z1⟩:=kz;obtain⟨hz1,_,_,arr,ty,hh,hc⟩:=hrb.real k z1 hm;obtain⟨hz2,hcap | ⟨hA,hbs⟩⟩:=g3 hcur k z1 hm
    .omega
    .have hz0:z=b.z:=by
      have h0:((b.es.drop off).take len)[0]?=some (((b.es.drop off).take len)[0]'(by omega)):=List.getElem?_eq_getElem (by omega)
      rw [<-hz _ (List.mem_of_getElem? h0)];exact hrb.sz _ (List.mem_of_getElem? (wz h0).2)
     subst hz0;subst hA;have hz3:z0=b.z:=by omega
     obtain⟨q1,q2⟩:=yaB (m:=m) (I:=I) (H:=w.heap) (z:=b.z) (off:=off*b.z) (es:=(b.es.drop off).take len) (arr:=arr) hz (λi j e c he hc'=>by
      obtain⟨u,u1,u2⟩:=hc (off+i) j e c (wz he).2 hc';rw [hz1,Nat.add_mul,Nat.add_assoc]at u1;exact⟨u,u1,u2⟩)
     rw [hz3];refine⟨_,q2,λw' hw'=>?_⟩;have:=U6 (P:=P) (w:=w') (cap:=cap) (n:=((b.es.drop off).take len).length) (z:=b.z) (off:=off*b.z) (k:=k) (by rw [hw'];exact hh) q1
     rw [hlen]at this ⊢;exact this
 .exact hk.elim
theorem za9{t e:TypeId}{x:Operand}{x' : Opd}{k1 k2:IntKind}(h:Sim E s a w m I)(hd:∀k,o.dst=some k->k<E.N)(ho:o.op=.slice t x none (some (.const (.int k1 0))) (some (.const (.int k2 0))))(ht:P.underlying t=some (.slice e)){z:Nat}(hz:sizeT P e=some z)
  (hx:cOpd x=some x') (hk:elemsA (λ_=>K (s.put o.dst (.one .emp))) s.h (s.ev x')):Lands P E o a w K:=by
 obtain⟨es,hk,A,cap,hv,_⟩:=Vv (P:=P) h.heap (h.ev hx) hk;refine Ja (v:=.slice A 0 0) h hd ?_ (.one _ _ (.emp A)) hk;have hc:∀v,a.eval (.const v)=v:=λ_=>rfl;simp [execOp,ho,hv,hc,Instr.sliceAt,Instr.slice,run_underlying ht,Instr.sliceBounds,Instr.sliceBound,asIntOf,Vb hz]
theorem HR.virt{h:Nat->HB}(hr:HR E m I w h){r ver z:Nat}(hv:m.ver r<ver)(hpin:r<pinA) :
    HR E ⟨upd m.ver r ver,upd m.blk r none⟩ I w (upd h r ⟨ver,some ⟨[],z,true⟩⟩)/\Ext m I w.heap ⟨upd m.ver r ver,upd m.blk r none⟩ I w.heap:=by
  have ext:Ext m I w.heap ⟨upd m.ver r ver,upd m.blk r none⟩ I w.heap:=by
    refine⟨λr'=>?_,λ_ h=>h,λ_ _=>rfl⟩;by_cases e:r' = r
    . subst e;exact .inr (by simpa [upd] using hv)
    . exact .inl (by simp [upd,e])
  have key:∀r' k z,(upd m.blk r none) r' = some (k,z)->r'≠r/\m.blk r' = some (k,z):=by
    intro r' k z hm;by_cases e:r' = r
    . subst e;simp [upd]at hm
    . exact⟨e,by simpa [upd,e] using hm⟩
  refine⟨{
    ver:=λr'=>?_,blk:=λr' b hb=>?_,inj:=λr1 r2 k' z1 z2 h1 h2=>hr.inj _ _ _ _ _ (key _ _ _ h1).2 (key _ _ _ h2).2,lt:=λr' k' z' hm=>hr.lt _ _ _ (key _ _ _ hm).2,
    imb:=hr.imb,grow:=hr.grow,keep:=hr.keep,imm:=hr.imm,sup:=hr.sup,i0:=hr.i0,liv:=λr' b k' z' hb hm=>?_,np:=hr.np,fx:=λr' b hp hb=>?_,os:=hr.os,tape:=hr.tape,out:=hr.out },ext⟩
  . by_cases e:r' = r
    . subst e;simp [upd]
    . simp [upd,e,hr.ver r']
  . by_cases e:r' = r
    . subst e
      simp only [upd,if_true,zOI]at hb;subst hb;exact⟨λe he=>by simp at he,λ_=>rfl,λk z hm=>by simp [upd]at hm⟩
    . simp only [upd,e,if_false]at hb
      have hb':=hr.blk r' b hb;refine⟨hb'.sz,λhm=>hb'.virt (by simpa [upd,e] using hm),λk' z' hm=>?_⟩
      obtain⟨h1,h2,h3,arr',ty',h4,h5⟩:=hb'.real k' z' (key _ _ _ hm).2;exact⟨h1,h2,h3,arr',ty',h4,λi j e c he hc=>let ⟨v,g1,g2⟩:=h5 i j e c he hc;⟨v,g1,g2.ext ext⟩⟩
  . obtain⟨hne,hm'⟩:=key _ _ _ hm
    simp only [upd,hne,if_false]at hb;exact hr.liv r' b k' z' hb hm'
  . have e:r'≠r:=by omega
    simp only [upd,e,if_false]at hb ⊢;exact hr.fx r' b hp hb
theorem Zw{d ver z k n cap:Nat}{m' : M}{H:Array Obj}(h1:m'.ver d=ver)(h2:m'.blk d=some (k,z))(hn:n<=maxLenA)(hc:n<=cap)(hb:cap*z<=bsize H k) :
  RA m' I H (.one (.own d ver z 0 n)) (.slice (some ⟨k,0,none⟩) n cap):=
 .one _ _ (.own d ver z 0 n cap _ (by omega) hn (λ_ b z' hb'=>by rw [h2]at hb';simp only [zOI,Prod.mk.injEq]at hb';obtain⟨rfl,rfl⟩:=hb';exact⟨rfl,.inr ⟨by simp,by simpa using hb⟩⟩)
  (λ_ hb'=>by rw [h2]at hb';simp at hb') (λh=>by simp at h) hc)
theorem uq(H:Array Obj)(arr:Array Value)(ty:TypeId):bsize (H.push (.cells arr ty)) H.size=arr.size:=by simp [bsize]
theorem jbm{t e:TypeId}{z:Nat}{zs:List C}{x y:Operand}{x' y' : Opd}(h:Sim E s a w m I)(hd:∀k,o.dst=some k->k<E.N)(ho:o.op=.makeSlice t x y)(ht:P.underlying t=some (.slice e))(hz:sizeT P e=some z)(hzs:zeroCells P e=some zs)(hby:P.bytesOf e<=4096)
  (hx:cOpd x=some x') (hy:cOpd y=some y')
  (hk:asInt (λ_ l=>asInt (λ_ c=>(0<=l/\l<=c/\c<=roomA/\zs.length=z)/\newA K s ⟨List.replicate l.toNat zs,z,true⟩ (λd ver=>.one (.own d ver z 0 l.toNat)) o.dst) (s.ev y')) (s.ev x')):Lands P E o a w K:=by
 obtain⟨kl,l,e1,hk⟩:=Qc hk;obtain⟨kc,c,e2,⟨h0,h1,h2,h3⟩,hk⟩:=Qc hk;have hu:=h.ev hx;have hv:=h.ev hy;rw [e1]at hu;rw [e2]at hv;obtain⟨hu,_⟩:=hu.lit_inv;obtain⟨hv,_⟩:=hv.lit_inv;obtain⟨i,v,hi,hzv,hsize,rfl,hcell⟩:=Qd hzs;obtain⟨i',hi',hsz⟩:=jf hz;rw [hi]at hi';simp only [zOI]at hi';subst hi';have hbytes:i.bytes<=4096:=by simpa [Program.bytesOf,hi] using hby
 have h2' : c<=68719476736:=h2;have hbc:(i.bytes:Int)*c<=281474976710656:=by
  have:(i.bytes:Int)*c<=4096*c:=Int.mul_le_mul_of_nonneg_right (by omega) (by omega)
  omega
 have hrun:=run_make (P:=P) w t e i v ht hi hzv kl kc l c h0 h1 hbc (by omega)
 have hvs:v.cells.size=z:=by omega
 refine qo (v:=.slice (some ⟨w.heap.size,0,none⟩) l.toNat c.toNat) (w':=w.alloc (.cells (madeCells v.cells (c.toNat*i.size)) e)) h hd ?_ rfl rfl rfl rfl (λe he=>?_) (λi' j e' c' he hc=>?_) (λd ver m' g1 g2=>?_) hk
 .simp [execOp,ho,hu,hv,hrun]
 .rw [List.mem_replicate]at he;rw [he.2];exact h3
 .have hil:i' < l.toNat:=by
   have:=(List.getElem?_eq_some_iff.1 he).1;simpa using this
  rw [List.getElem?_replicate,if_pos hil]at he;simp only [zOI]at he;subst he;have hj:j<z:=by
   have:=(List.getElem?_eq_some_iff.1 hc).1
   rwa [h3]at this
  have hlt:i' * z+j<c.toNat*i.size:=by
   rw [hsz];have:=Nat.mul_le_mul_right z (show i' + 1<=c.toNat by omega)
   rw [Nat.add_mul]at this;omega
  have hmod:(i' * z+j) % v.cells.size=j:=by
   rw [hvs,Nat.add_comm,Nat.add_mul_mod_self_right];exact Nat.mod_eq_of_lt hj
  have hjs:j<v.cells.size:=by omega
  refine⟨v.cells[j],?_,?_⟩
  .simp [madeCells,hlt,hmod,hjs]
  .simp only [List.getElem?_map]at hc;have:v.cells.toList[j]?=some v.cells[j]:=by simp [hjs]
   rw [this]at hc;simp only [Option.map_some,zOI]at hc;subst hc;exact jn _ (hcell _ (List.mem_of_getElem? this))
 .refine Zw g1 g2 (by unfold maxLenA;omega) (by omega) ?_
  show _<=bsize (w.heap.push _) _;rw [uq,size_madeCells,hsz];exact Nat.le_refl _
end Go.Abs
end
section
namespace Go.Abs
variable {P:Program} {E:Env} {s:S} {a:Act} {w:World} {m:M} {I:Nat->Prop} {o:Oper} {K:S->Prop}
section runs
variable {t t2 ty e e2:TypeId} {z:Nat} {at' : Array TypeId} {args:Array Value}
theorem jo(h0:at'[0]?=some t)(h1:at'[1]?=some t2)(ht:P.underlying t=some (.slice e))(ht2:P.underlying t2=some (.slice e2))(hz:sizeT P e=some z)
  {A B:Option Addr} {n0 cap n cap2:Nat} {vs:List Value} (a0:args[0]?=some (.slice A n0 cap)) (a1:args[1]?=some (.slice B n cap2)) (hroom:n0+n<=cap)
  (hf:(Builtin.firstCells z n (.slice B n cap2)).run P w=.ok ⟨vs⟩ w) {w' : World} (hs:(match A with | some x=>storeCells (x.add (n0*z)) vs 0 | none=>pure ()).run P w=.ok () w') :
  (Builtin.append_ at' ty args).run P w=.ok (.slice A (n0+n) cap) w':=by
 cases A with
 | none=>
  simp only [Sem.run_pure,Result.ok.injEq,true_and]at hs;subst hs;simp [Builtin.append_,h0,h1,a0,a1,run_underlying ht,run_underlying ht2,Vb hz,Builtin.lenOf,hroom,hf]
 | some x=>
  simp only at hs;simp [Builtin.append_,h0,h1,a0,a1,run_underlying ht,run_underlying ht2,Vb hz,Builtin.lenOf,hroom,hf,hs]
theorem ZE(h0:at'[0]?=some t)(h1:at'[1]?=some t2)(ht:P.underlying t=some (.slice e))(ht2:P.underlying t2=some (.slice e2)){i:TypeInfo}{zv:Value}(hi:P.info? e=some i)(hsz:i.size=z)(hzv:i.zero=some zv)(hb:i.bytes<=2048)
  {A B:Option Addr} {n0 cap n cap2:Nat} {olds vs:List Value} (a0:args[0]?=some (.slice A n0 cap)) (a1:args[1]?=some (.slice B n cap2)) (hroom:cap<n0+n) (hbig:n0+n<=roomA)
  (ho:(Builtin.firstCells z n0 (.slice A n0 cap)).run P w.drew=.ok ⟨olds⟩ w.drew) (hf:(Builtin.firstCells z n (.slice B n cap2)).run P w.drew=.ok ⟨vs⟩ w.drew) :
  (Builtin.append_ at' ty args).run P w=.ok (.slice (some ⟨w.heap.size,0,none⟩) (n0+n) (grownCap w (n0+n) cap e))
   (w.drew.alloc (.cells ((⟨olds++vs⟩:Array Value)++Builtin.zeroCells zv.cells (grownCap w (n0+n) cap e-(n0+n))) e)):=by
 have hbig' : n0+n<=68719476736:=hbig;have hn:¬(n0+n<=cap):=by omega
 have h63' : ¬(9223372036854775807<((n0:Int)+(n:Int))):=by omega
 have hnb:(n0+n)*i.bytes<=140737488355328:=by
  have:=Nat.mul_le_mul hbig' hb;omega
 have h48' : ¬(281474976710656<Builtin.nextslicecap (n0+n) cap*i.bytes):=Nat.not_lt.2 (growslice_fits (by omega) hnb)
 subst hsz;simp [Builtin.append_,h0,h1,a0,a1,run_underlying ht,run_underlying ht2,sizeOf,typeInfo,zeroValue,hi,hzv,Builtin.lenOf,hn,h63',h48',Question.forced,hf,ho,newRow,grownCap];congr 2;apply Array.ext';simp
end runs
theorem qt(w:World)(need old:Nat)(e:TypeId):need<=grownCap w need old e:=by
 simp only [grownCap,Question.cut];omega
theorem Vals.append{H:Array Obj}{z:Nat}{es1 es2:List (List C)}{vs1 vs2:List Value}(h1:Vals m I H z es1 vs1)(h2:Vals m I H z es2 vs2)(hl:∀e∈es1,e.length=z):Vals m I H z (es1++es2) (vs1++vs2):=by
 refine⟨by simp [h1.1,h2.1,Nat.add_mul],λi j e c he hc=>?_,λu hu=>?_⟩
 .rcases Nat.lt_or_ge i es1.length with h | h
  .rw [List.getElem?_append_left h]at he;obtain⟨u,g1,g2⟩:=h1.2.1 i j e c he hc;have:=(List.getElem?_eq_some_iff.1 g1).1;exact⟨u,by rw [List.getElem?_append_left this];exact g1,g2⟩
  .rw [List.getElem?_append_right h]at he;obtain⟨u,g1,g2⟩:=h2.2.1 _ j e c he hc;have hm:es1.length*z+((i-es1.length)*z)=i*z:=by rw [<-Nat.add_mul];congr 1;omega
   refine⟨u,?_,g2⟩;rw [List.getElem?_append_right (by rw [h1.1];omega),h1.1,show i*z+j-es1.length*z=(i-es1.length)*z+j by omega]
   exact g1
 .rcases List.mem_append.1 hu with h | h
  .exact h1.2.2 u h
  .exact h2.2.2 u h
theorem Vals.cells{H:Array Obj}{z:Nat}{es:List (List C)}{vs:List Value}(h:Vals m I H z es vs)(r:Array Value) :
  ∀(i j:Nat) (e:List C) (c:C),es[i]?=some e->e[j]?=some c->∃v,((⟨vs⟩:Array Value)++r)[i*z+j]?=some v/\RC m I H c v:=by
 intro i j e c he hc;obtain⟨u,g1,g2⟩:=h.2.1 i j e c he hc;have:=(List.getElem?_eq_some_iff.1 g1).1;exact⟨u,by rw [Array.getElem?_append_left (by simpa using this)];simpa using g1,g2⟩
theorem VL{vs:List Value}(h:∀u∈vs,isCell u=true):∀u∈vs,u.oneCell' = true:=λu hu=>ww (h u hu)
theorem jM{n:Nat}(h:n<=roomA):n<=maxLenA:=by unfold roomA at h;unfold maxLenA;omega
theorem yT{r ver:Nat}{w' : World}{k z n cap:Nat}{arr:Array Value}{ty:TypeId}{es:List (List C)}(h:Sim E s a w m I)(hd:∀k,o.dst=some k->k<E.N)
  (hr:(execOp a.eval o).run P w=.ok (.value (.slice (some ⟨k,0,none⟩) n cap)) w')
  (e1:(s.h r).ver=ver) (hpin:r<pinA)
  (os:w'.os=w.os) (tape:w'.tape=w.tape) (out:w'.output=w.output) (size:w.heap.size<=w'.heap.size)
  (same:∀b,b<w.heap.size->b≠k->w'.heap[b]?=w.heap[b]?)
  (here:w'.heap[k]?=some (.cells arr ty (0,0)))
  (what:k=w.heap.size∨∃b z0,(s.h r).blk=some b/\b.live=true/\m.blk r=some (k,z0))
  (lens:∀e∈es,e.length=z)
  (cells:∀(i j:Nat) (e:List C) (c:C),es[i]?=some e->e[j]?=some c->∃v,arr[i*z+j]?=some v/\RC m I w.heap c v)
  (hn:n<=maxLenA) (hc:n<=cap) (hb:cap*z<=arr.size)
  (hk:K (S.put ⟨s.v,upd s.h r ⟨ver+1,some ⟨es,z,true⟩⟩⟩ o.dst (.one (.own r (ver+1) z 0 n)))):Lands P E o a w K:=by
 have hv0:m.ver r=ver:=by rw [h.heap.ver,e1]
 obtain⟨hh,hx⟩:=h.heap.set (w':=w') (r:=r) (ver:=ver+1) (k:=k) (z:=z) (es:=es) (arr:=arr) (ty:=ty) os tape out size same here
  (by
   rcases what with hk | ⟨b,z0,g1,g2,g3⟩
   .exact .inl ⟨hk,by omega⟩
   .exact .inr (.inr ⟨b,z0,g1,g2,g3,.inl (by omega)⟩)) (.inl hpin) lens cells
 have h1:=h.move hx hh;have h2:=h1.put (d:=o.dst) (x:=.one (.own r (ver+1) z 0 n)) (v:=.slice (some ⟨k,0,none⟩) n cap)
  (Zw (by simp [M.set,upd]) (by simp [M.set,upd]) hn hc (by simp only [bsize,here];exact hb)) hd
 exact Zc (m':=m.set r (ver+1) k z) (I':=I) hr hk h2
theorem Ya7{t t2 e e2:TypeId}{c:Call}{z:Nat}{zs:List C}{x y:Operand}{x' y' : Opd}(h:Sim E s a w m I)(hd:∀k,o.dst=some k->k<E.N)(ho:o.op=.call c)(hcal:c.callee=.builtin .append)
  (hax:c.args[0]?=some x) (hay:c.args[1]?=some y) (h0:c.argTypes[0]?=some t) (h1:c.argTypes[1]?=some t2) (ht:P.underlying t=some (.slice e)) (ht2:P.underlying t2=some (.slice e2))
  (hz:sizeT P e=some z) (hz0:z≠0) (hzs:zeroCells P e=some zs) (hby:P.bytesOf e<=2048) (hx:cOpd x=some x') (hy:cOpd y=some y') (hk:appA K z o.dst s (s.ev x') (s.ev y')):Lands P E o a w K:=by
 have hvx:=h.ev hx;have hvy:=h.ev hy;obtain⟨ys,⟨hyl,hk⟩,B,cap2,hyv,hyc,hshow⟩:=Vv (P:=P) h.heap hvy hk;obtain⟨vs,hvals,hfirst⟩:=hshow z hyl;rw [hyv]at hfirst;obtain⟨i,zv,hi,hzv,hsize,rfl,hcell⟩:=Qd hzs;obtain⟨i',hi',hsz⟩:=jf hz;rw [hi]at hi';simp only [zOI]at hi';subst hi';have hbytes:i.bytes<=2048:=by simpa [Program.bytesOf,hi] using hby
 have a1:(c.args.map a.eval)[1]?=some (.slice B ys.length cap2):=by simp [hay,hyv]
 have a0:∀v,a.eval x=v->(c.args.map a.eval)[0]?=some v:=λv hv=>by simp [hax,hv]
 have exe:∀v w',(Builtin.append_ c.argTypes o.type (c.args.map a.eval)).run P w=.ok v w'->(execOp a.eval o).run P w=.ok (.value v) w':=by
  intro v w' hrun;simp [execOp,ho,resolve,hcal,invoke,builtin,hrun]
 have zsize:∀n,(Builtin.zeroCells zv.cells n).size=n*z:=λn=>by rw [size_zeroCells];congr 1;omega
 have hys0:ys.length=0->ys=[]/\vs=[]:=λe=>⟨List.length_eq_zero_iff.1 e,List.length_eq_zero_iff.1 (by rw [hvals.1,e,Nat.zero_mul])⟩
 have fresh:∀A n0 cap0 es0 olds,a.eval x=.slice A n0 cap0->cap0<n0+ys.length->n0=es0.length->n0+ys.length<=roomA->(∀e∈es0,e.length=z)->Vals m I w.heap z es0 olds->
   (Builtin.firstCells z n0 (.slice A n0 cap0)).run P w.drew=.ok ⟨olds⟩ w.drew->
   newA K s ⟨es0++ys,z,true⟩ (λd ver=>.one (.own d ver z 0 (n0+ys.length))) o.dst->Lands P E o a w K:=by
  intro A n0 cap0 es0 olds hA hroom hn0 hbig hl0 hv0 hf0 hk;have hrun:=ZE (P:=P) (w:=w) (ty:=o.type) h0 h1 ht ht2 hi hsz hzv hbytes (a0 _ hA) a1 hroom hbig hf0 (hfirst w.drew rfl);refine qo (w':=w.drew.alloc _) h hd (exe _ _ hrun) rfl rfl rfl rfl (λe he=>?_) ((hv0.append hvals hl0).cells _) (λd ver m' g1 g2=>?_) hk
  .rcases List.mem_append.1 he with h | h
   .exact hl0 e h
   .exact hyl e h
  .have hge:=qt w (n0+ys.length) cap0 e;refine Zw g1 g2 (jM hbig) hge ?_;show _<=bsize (w.heap.push _) _;rw [uq];simp only [Array.size_append,zsize];have q1:olds.length=n0*z:=by rw [hv0.1,hn0]
   have q2:vs.length=ys.length*z:=hvals.1;have q3:grownCap w (n0+ys.length) cap0 e*z=n0*z+ys.length*z+(grownCap w (n0+ys.length) cap0 e-(n0+ys.length))*z:=by
    rw [<-Nat.add_mul,<-Nat.add_mul];congr 1;omega
   simp [q1,q2,q3]
 unfold appK at hk;split at hk
 ·-- nothing, without capacity
  rename_i ex;obtain⟨hbig,hk⟩:=hk;have hx0:∃A,a.eval x=.slice A 0 0:=by
   rw [ex]at hvx;have:=hvx.one_inv;cases hp:a.eval x <;> rw [hp]at this <;> cases this
   exact⟨_,rfl⟩
  obtain⟨A,hA⟩:=hx0;by_cases hn:ys.length=0
  .obtain⟨rfl,rfl⟩:=hys0 hn;obtain⟨d,hdst,hnone,hk⟩:=uu hk;have hrun:=jo (P:=P) (w:=w) (w':=w) (ty:=o.type) h0 h1 ht ht2 hz (a0 _ hA) a1 (by simp) (hfirst w rfl) (by cases A <;> simp [storeCells])
   obtain⟨hh,hxt⟩:=h.heap.virt (r:=d) (ver:=(s.h d).ver+1) (z:=z) (by rw [h.heap.ver];omega) (Nat.lt_of_lt_of_le (hd d hdst) h.heap.np)
   have h1:=h.move hxt hh;have h2:=h1.put (d:=o.dst) (x:=.one (.own d ((s.h d).ver+1) z 0 0)) (v:=.slice A 0 0)
    (.one _ _ (.own _ _ _ _ _ _ _ (by simp [upd]) (by simp) (λ_ b z' hb=>by simp [upd]at hb) (λ_ _=>rfl) (λ_=>rfl) (Nat.le_refl _))) hd
   rw [hdst]at h2;refine Zc (m':=⟨upd m.ver d ((s.h d).ver+1),upd m.blk d none⟩) (I':=I) (exe _ _ hrun) hk ?_;rw [hdst];exact h2
  .refine fresh A 0 0 [] [] hA (by omega) rfl (by omega) (λe he=>by simp at he) (Vals.nil _ z) (Zo z A 0 _) ?_
   simpa using hk
 ·-- immutable data, at its capacity
  rename_i es0 ex;have hvx0:=hvx;rw [ex]at hvx;have hin:∃A,a.eval x=.slice A es0.length es0.length/\RC m I w.heap (.slice es0) (.slice A es0.length es0.length):=by
   have:=hvx.one_inv;cases hp:a.eval x <;> rw [hp]at this <;> cases this
   rename_i hin;exact⟨_,rfl,hin⟩
  obtain⟨A,hA,hin⟩:=hin;obtain⟨A',cap',hAe,_,hsh⟩:=Jt (P:=P) hin;cases ys with
  | nil=>
   obtain⟨_,rfl⟩:=hys0 rfl;unfold appF at hk;obtain⟨d,hdst,hnone,hk⟩:=uu hk;have hrun:=jo (P:=P) (w:=w) (w':=w) (ty:=o.type) h0 h1 ht ht2 hz (a0 _ hA) a1 (by simp) (hfirst w rfl) (by cases A <;> simp [storeCells])
   obtain⟨hh,hxt⟩:=h.heap.virt (r:=d) (ver:=(s.h d).ver+1) (z:=z) (by rw [h.heap.ver];omega) (Nat.lt_of_lt_of_le (hd d hdst) h.heap.np)
   have h1:=h.move hxt hh;have hv1:=hvx0.ext hxt;rw [ex,hA]at hv1;have h2:=h1.put (d:=o.dst) (x:=.one (.full es0)) (v:=.slice A es0.length es0.length) hv1 hd;rw [hdst]at h2;refine Zc (m':=⟨upd m.ver d ((s.h d).ver+1),upd m.blk d none⟩) (I':=I) (exe _ _ hrun) hk ?_;rw [hdst];exact h2
  | cons y ys'=>
   obtain⟨⟨hbig,hl0⟩,hk⟩:=hk;obtain⟨olds,hv0,hf0⟩:=hsh z hl0;exact fresh A es0.length es0.length es0 olds hA (by simp) rfl hbig hl0 hv0 (hf0 w.drew rfl) hk
 ·-- a row of the call's own
  rename_i r ver z' len ex;obtain⟨b,e1,e2,⟨hlive,hzz,hzb,hle,hbig,hpin⟩,hk2⟩:=Vh hk;subst hzz;rw [ex]at hvx;obtain⟨A,cap,hA,g1,g2,g3,g4,g5,g6⟩:=km hvx.one_inv;have hcur:ver=m.ver r:=by rw [h.heap.ver,e1]
  have hrb:=h.heap.blk r b e2;have hlt:∀e∈b.es.take len,e.length=z:=λe he=>by rw [hzb];exact hrb.sz e (List.mem_of_mem_take he)
  have hlens:∀e∈b.es.take len++ys,e.length=z:=λe he=>by
   rcases List.mem_append.1 he with h | h
   .exact hlt e h
   .exact hyl e h
  have htl:(b.es.take len).length=len:=by simp;omega
  have hel:elemsA (λes=>es=b.es.take len) s.h (.one (.own r ver z 0 len)):=by
   refine⟨b,by simp [HB.at,e1,e2],by omega,by simp⟩
  obtain⟨es0,hes0,A',cap',hA',_,hsh⟩:=Vv (P:=P) h.heap hvx hel;subst hes0;obtain⟨olds,hv0,hf0⟩:=hsh z hlt;rw [htl]at hf0;rw [hA]at hf0;by_cases hroom:len+ys.length<=cap
  .by_cases hn:ys.length=0
   ·-- nothing is added
    obtain⟨rfl,rfl⟩:=hys0 hn;have hrun:=jo (P:=P) (w:=w) (w':=w) (ty:=o.type) h0 h1 ht ht2 hz (a0 _ hA) a1 hroom (hfirst w rfl) (by cases A <;> simp [storeCells])
    cases hm:m.blk r with
    | none=>
     have hes:=hrb.virt hm;have hc0:=g4 hcur hm;have hl0:len=0:=by omega
     subst hl0;obtain⟨hh,hxt⟩:=h.heap.virt (r:=r) (ver:=ver+1) (z:=z) (by omega) hpin
     have h1:=h.move hxt hh;have h2:=h1.put (d:=o.dst) (x:=.one (.own r (ver+1) z 0 0)) (v:=.slice A 0 cap)
      (.one _ _ (.own _ _ _ _ _ _ _ (by simp [upd]) (by simp) (λ_ b z' hb=>by simp [upd]at hb) (λ_ _=>hc0) (λ_=>rfl) (Nat.zero_le _))) hd
     refine Zc (m':=⟨upd m.ver r (ver+1),upd m.blk r none⟩) (I':=I) (exe _ _ hrun) hk2 ?_;simpa [S.setH] using h2
    | some kz=>
     obtain⟨k,z1⟩:=kz;obtain⟨hz1,hnI,_,arr,ty,hh,hc⟩:=hrb.real k z1 hm;obtain⟨hz2,hcap⟩:=g3 hcur k z1 hm;obtain⟨hh',hxt⟩:=h.heap.set (w':=w) (r:=r) (ver:=ver+1) (k:=k) (z:=z) (es:=b.es.take len++[]) (arr:=arr) (ty:=ty) rfl rfl rfl (Nat.le_refl _) (λ_ _ _=>rfl) hh
      (.inr (.inr ⟨b,z1,e2,hlive,hm,.inl (by omega)⟩)) (.inl hpin) hlens (λi j e c he hc'=>by
       simp only [List.append_nil]at he;have hi:i<len:=by have:=(List.getElem?_eq_some_iff.1 he).1;omega
       rw [List.getElem?_take_of_lt hi]at he;have:=hc i j e c he hc'
       rwa [hz2]at this)
     have h1:=h.move hxt hh';have h2:=h1.put (d:=o.dst) (x:=.one (.own r (ver+1) z 0 len)) (v:=.slice A len cap)
      (.one _ _ (.own _ _ _ _ _ _ _ (by simp [M.set,upd]) g2 (λ_ b2 z2 hb2=>by
       simp only [M.set,upd,if_true,zOI,Prod.mk.injEq]at hb2;obtain⟨rfl,rfl⟩:=hb2;exact⟨rfl,hcap⟩) (λ_ hb=>by simp [M.set,upd]at hb) g5 g6)) hd
     exact Zc (m':=m.set r (ver+1) k z) (I':=I) (exe _ _ hrun) hk2 h2
   ·-- in place
    cases hm:m.blk r with
    | none=>have:=g4 hcur hm;omega
    | some kz=>
     obtain⟨k,z1⟩:=kz;obtain⟨hz1,hnI,_,arr,ty,hh,hc⟩:=hrb.real k z1 hm;obtain⟨hz2,hcap | ⟨hAk,hbs⟩⟩:=g3 hcur k z1 hm
     .omega
     .simp only [Nat.zero_mul,Nat.zero_add]at hAk hbs;have hbs' : cap*z<=arr.size:=by simpa [bsize,hh] using hbs
      have hfit:len*z+vs.length<=arr.size:=by
       have:len*z+vs.length=(len+ys.length)*z:=by rw [hvals.1,Nat.add_mul]
       rw [this];exact Nat.le_trans (Nat.mul_le_mul_right z hroom) hbs'
      have hst:=run_storeCells_at P k (len*z) ty vs 0 arr w hh (by simpa using hfit) (VL hvals.2.2)
      simp only [Nat.add_zero]at hst;have hrun:=jo (P:=P) (w:=w) (ty:=o.type) h0 h1 ht ht2 hz (a0 _ hA) a1 hroom (hfirst w rfl) (w':=w.setRow k (arr.toList.take (len*z)++vs++arr.toList.drop (len*z+vs.length)).toArray)
       (by rw [hAk];simp only [Xn,Nat.zero_add];exact hst)
      rw [hAk]at hrun;refine yT (w':=w.setRow k _) h hd (exe _ _ hrun) e1 hpin rfl rfl rfl (by simp) (λb' _ hne=>Uo w k b' _ hne) (setRow_heap w k arr _ ty _ hh)
       (.inr ⟨b,z1,e2,hlive,hm⟩) hlens (λi j e c he hc'=>?_) (jM hbig) hroom ?_ hk2
      .have hgp:=Jn arr.toList vs (len*z) (i*z+j) (by simpa using hfit)
       simp only [List.getElem?_toArray];rw [hgp];rcases Nat.lt_or_ge i len with hi | hi
       .rw [List.getElem?_append_left (by omega),List.getElem?_take_of_lt hi]at he
        have hj:j<z:=by
         have:=(List.getElem?_eq_some_iff.1 hc').1;rw [hrb.sz e (List.mem_of_getElem? he)]at this;omega
        have:=Nat.mul_le_mul_right z (show i+1<=len by omega)
        rw [Nat.add_mul]at this;rw [if_neg (by omega)]
        obtain⟨v,q1,q2⟩:=hc i j e c he hc';rw [hz2]at q1;exact⟨v,by simpa using q1,q2⟩
       .rw [List.getElem?_append_right (by omega),htl]at he
        obtain⟨v,q1,q2⟩:=hvals.2.1 _ j e c he hc';have hlt2:=(List.getElem?_eq_some_iff.1 q1).1;have hmul:len*z+(i-len)*z=i*z:=by rw [<-Nat.add_mul];congr 1;omega
        rw [if_pos (by omega),show i*z+j-len*z=(i-len)*z+j by omega]
        exact⟨v,q1,q2⟩
      .simp;omega
  ·-- it grows
   have hrun:=ZE (P:=P) (w:=w) (ty:=o.type) h0 h1 ht ht2 hi hsz hzv hbytes (a0 _ hA) a1 (by omega) hbig (hf0 w.drew rfl) (hfirst w.drew rfl)
   have hge:=qt w (len+ys.length) cap e;refine yT (w':=w.drew.alloc _) h hd (exe _ _ hrun) e1 hpin rfl rfl rfl (by simp) (λb' hb hne=>zn w _ b' hb hne) (Ym w _)
    (.inl rfl) hlens ((hv0.append hvals hlt).cells _) (jM hbig) hge ?_ hk2
   simp only [Array.size_append,zsize];have q1:olds.length=len*z:=by rw [hv0.1,htl]
   have q2:vs.length=ys.length*z:=hvals.1;have q3:grownCap w (len+ys.length) cap e*z=len*z+ys.length*z+(grownCap w (len+ys.length) cap e-(len+ys.length))*z:=by
    rw [<-Nat.add_mul,<-Nat.add_mul];congr 1;omega
   simp [q1,q2,q3]
 .exact hk.elim
section
variable {t t2 ty e:TypeId} {z:Nat} {at' : Array TypeId} {args:Array Value}
theorem J1{k k2:IntKind}(h0:at'[0]?=some t)(h1:at'[1]?=some t2)(ht:P.underlying t=some (.slice e))(ht2:P.underlying t2=some (.int k2)){i:TypeInfo}{zv:Value}(hi:P.info? e=some i)(hsz:i.size=z)(hz0:z≠0)(hzv:i.zero=some zv)(hb:i.bytes<=2048)
  {A:Option Addr} {l:Nat} (a0:args[0]?=some (.slice A 0 0)) (a1:args[1]?=some (.int k l)) (hl0:0<l) (hl:l<=roomA)
  (ho:(Builtin.firstCells z 0 (.slice A 0 0)).run P w.drew=.ok ⟨[]⟩ w.drew) :
  (Builtin.append_ at' ty args).run P w=.ok (.slice (some ⟨w.heap.size,0,none⟩) l (grownCap w l 0 e))
   (w.drew.alloc (.cells (Builtin.zeroCells zv.cells l++Builtin.zeroCells zv.cells (grownCap w l 0 e-l)) e)):=by
 have hbig' : l<=68719476736:=hl;have hwr:IntKind.i64.wrap (l:Int)=(l:Int):=by
  have e1:(2:Int) ^ IntKind.i64.bits=18446744073709551616:=by decide
  have e2:(2:Int) ^ (IntKind.i64.bits-1)=9223372036854775808:=by decide
  have e3:(l:Int) % 18446744073709551616=l:=by omega
  simp only [IntKind.wrap,e1,e2,e3];rw [if_neg (by simp only [zBA,decide_eq_true_eq,not_and];omega)]
 have hn:¬(l<=0):=by omega
 have hn0:¬(l=0):=by omega
 have hng:¬((l:Int)<0):=by omega
 have h63' : ¬(9223372036854775807<(l:Int)):=by omega
 have hnb:l*i.bytes<=140737488355328:=by
  have:=Nat.mul_le_mul hbig' hb;omega
 have hlb:¬(281474976710656<(l:Int)*(i.bytes:Int)):=by
  have:((l*i.bytes:Nat):Int)<=140737488355328:=by omega
  rw [Int.natCast_mul]at this;omega
 have h48' : ¬(281474976710656<Builtin.nextslicecap l 0*i.bytes):=Nat.not_lt.2 (growslice_fits (by omega) hnb)
 subst hsz;simp [Builtin.append_,Go.asInt,Go.asIntOf,h0,h1,a0,a1,run_underlying ht,run_underlying ht2,sizeOf,typeInfo,zeroValue,hi,hzv,hn0,hng,h63',hwr,hlb,h48',Question.forced,ho,newRow,grownCap];intro h;exact absurd h (Nat.mul_ne_zero hn0 hz0)
end
theorem ua0{t t2 e:TypeId}{ik:IntKind}{c:Call}{z:Nat}{zs:List C}{x y:Operand}{x' y' : Opd}(h:Sim E s a w m I)(hd:∀k,o.dst=some k->k<E.N)(ho:o.op=.call c)(hcal:c.callee=.builtin .append)
  (hax:c.args[0]?=some x) (hay:c.args[1]?=some y) (h0:c.argTypes[0]?=some t) (h1:c.argTypes[1]?=some t2) (ht:P.underlying t=some (.slice e)) (ht2:P.underlying t2=some (.int ik))
  (hz:sizeT P e=some z) (hz0:z≠0) (hzs:zeroCells P e=some zs) (hby:P.bytesOf e<=2048) (hx:cOpd x=some x') (hy:cOpd y=some y')
  (hk:isEmp (asInt (λ_ l=>(0<=l/\l<=roomA/\zs.length=z)/\newA K s ⟨List.replicate l.toNat zs,z,true⟩ (λd ver=>.one (.own d ver z 0 l.toNat)) o.dst) (s.ev y')) (s.ev x')):Lands P E o a w K:=by
 have hvx:=h.ev hx;have hvy:=h.ev hy;unfold isEmp at hk;split at hk
 rotate_left
 .exact hk.elim
 rename_i ex;obtain⟨k,l,e1,⟨g0,g1,g2⟩,hk⟩:=Qc hk;rw [e1]at hvy;obtain⟨hyv,_⟩:=hvy.lit_inv;obtain⟨i,zv,hi,hzv,hsize,rfl,hcell⟩:=Qd hzs;obtain⟨i',hi',hsz⟩:=jf hz;rw [hi]at hi';simp only [zOI]at hi';subst hi';have hbytes:i.bytes<=2048:=by simpa [Program.bytesOf,hi] using hby
 obtain⟨n,rfl⟩:∃n:Nat,l=(n:Int):=⟨l.toNat,by omega⟩
 rw [Int.toNat_natCast]at hk;have hn:n<=roomA:=by omega
 have hx0:∃A,a.eval x=.slice A 0 0:=by
  rw [ex]at hvx;have:=hvx.one_inv;cases hp:a.eval x <;> rw [hp]at this <;> cases this
  exact⟨_,rfl⟩
 obtain⟨A,hA⟩:=hx0;have a0:(c.args.map a.eval)[0]?=some (.slice A 0 0):=by simp [hax,hA]
 have a1:(c.args.map a.eval)[1]?=some (.int k n):=by simp [hay,hyv]
 have exe:∀v w',(Builtin.append_ c.argTypes o.type (c.args.map a.eval)).run P w=.ok v w'->(execOp a.eval o).run P w=.ok (.value v) w':=by
  intro v w' hrun;simp [execOp,ho,resolve,hcal,invoke,builtin,hrun]
 by_cases hn0:n=0
 .subst hn0;obtain⟨d,hdst,hnone,hk⟩:=uu hk;have hrun:(Builtin.append_ c.argTypes o.type (c.args.map a.eval)).run P w=.ok (.slice A 0 0) w:=by
   have hwr:IntKind.i64.wrap 0=0:=by decide
   cases A <;> simp [Builtin.append_,Go.asInt,Go.asIntOf,h0,h1,a0,a1,run_underlying ht,run_underlying ht2,sizeOf,typeInfo,hi,hwr,storeCells]
  obtain⟨hh,hxt⟩:=h.heap.virt (r:=d) (ver:=(s.h d).ver+1) (z:=z) (by rw [h.heap.ver];omega) (Nat.lt_of_lt_of_le (hd d hdst) h.heap.np)
  have h1:=h.move hxt hh;have h2:=h1.put (d:=o.dst) (x:=.one (.own d ((s.h d).ver+1) z 0 0)) (v:=.slice A 0 0)
   (.one _ _ (.own _ _ _ _ _ _ _ (by simp [upd]) (by simp) (λ_ b z' hb=>by simp [upd]at hb) (λ_ _=>rfl) (λ_=>rfl) (Nat.le_refl _))) hd
  rw [hdst]at h2;refine Zc (m':=⟨upd m.ver d ((s.h d).ver+1),upd m.blk d none⟩) (I':=I) (exe _ _ hrun) hk ?_;rw [hdst];exact h2
 .have hrun:=J1 (P:=P) (w:=w) (ty:=o.type) h0 h1 ht ht2 hi hsz hz0 hzv hbytes a0 a1 (by omega) hn (Zo z A 0 _)
  have zsize:∀n,(Builtin.zeroCells zv.cells n).size=n*z:=λn=>by rw [size_zeroCells];congr 1;omega
  have hvs:zv.cells.size=z:=by omega
  have hge:=qt w n 0 e;refine qo (w':=w.drew.alloc _) h hd (exe _ _ hrun) rfl rfl rfl rfl (λe he=>?_) (λi' j e' c' he hc=>?_) (λd ver m' q1 q2=>?_) hk
  .rw [List.mem_replicate]at he;rw [he.2];exact g2
  .have hil:i' < n:=by
    have:=(List.getElem?_eq_some_iff.1 he).1;simpa using this
   rw [List.getElem?_replicate,if_pos hil]at he;simp only [zOI]at he;subst he;have hj:j<z:=by
    have:=(List.getElem?_eq_some_iff.1 hc).1
    rwa [g2]at this
   have hlt:i' * z+j<n*zv.cells.size:=by
    rw [hvs];have:=Nat.mul_le_mul_right z (show i' + 1<=n by omega)
    rw [Nat.add_mul]at this;omega
   have hmod:(i' * z+j) % zv.cells.size=j:=by
    rw [hvs,Nat.add_comm,Nat.add_mul_mod_self_right];exact Nat.mod_eq_of_lt hj
   have hjs:j<zv.cells.size:=by omega
   refine⟨zv.cells[j],?_,?_⟩
   .rw [Array.getElem?_append_left (by rw [zsize];rw [hvs]at hlt;exact hlt)]
    simp [Builtin.zeroCells,hlt,hmod,hjs]
   .simp only [List.getElem?_map]at hc;have:zv.cells.toList[j]?=some zv.cells[j]:=by simp [hjs]
    rw [this]at hc;simp only [Option.map_some,zOI]at hc;subst hc;exact jn _ (hcell _ (List.mem_of_getElem? this))
  .refine Zw q1 q2 (jM hn) hge ?_;show _<=bsize (w.heap.push _) _;rw [uq];simp only [Array.size_append,zsize];have q3:grownCap w n 0 e*z=n*z+(grownCap w n 0 e-n)*z:=by
    rw [<-Nat.add_mul];congr 1;omega
   omega
theorem qbi{t e:TypeId}{c:Call}{z:Nat}{zs:List C}{x:Operand}{x' : Opd}(h:Sim E s a w m I)(hd:∀k,o.dst=some k->k<E.N)(ho:o.op=.call c)(hcal:c.callee=.builtin .clear)
  (hax:c.args[0]?=some x) (h0:c.argTypes[0]?=some t) (ht:P.underlying t=some (.slice e))
  (hz:sizeT P e=some z) (hz0:z≠0) (hzs:zeroCells P e=some zs) (hx:cOpd x=some x')
  (hk:clrK (λh=>K ((s.setH h).put o.dst (.tup []))) z s.h (s.ev x') (.agg zs)):Lands P E o a w K:=by
 have hvx:=h.ev hx;obtain⟨i,zv,hi,hzv,hsize,rfl,hcell⟩:=Qd hzs;obtain⟨i',hi',hsz⟩:=jf hz;rw [hi]at hi';simp only [zOI]at hi';subst hi';have exe:∀v w',(Builtin.clear_ c.argTypes o.type (c.args.map a.eval)).run P w=.ok v w'->(execOp a.eval o).run P w=.ok (.value v) w':=by
  intro v w' hrun;simp [execOp,ho,resolve,hcal,invoke,builtin,hrun]
 have a0:∀v,a.eval x=v->(c.args.map a.eval)[0]?=some v:=λv hv=>by simp [hax,hv]
 unfold clrK at hk;split at hk
 rotate_left
 .exact hk.elim
 rename_i r ver z' off len zs' ex e5;simp only [AV.agg.injEq]at e5;subst e5;obtain⟨b,e1,e2,⟨hlive,hzz,hzb,hzl,hle⟩,hk2⟩:=Vh hk;subst hzz;rw [ex]at hvx;obtain⟨A,cap,hA,g1,g2,g3,g4,g5,g6⟩:=km hvx.one_inv;have hcur:ver=m.ver r:=by rw [h.heap.ver,e1]
 have hrb:=h.heap.blk r b e2;by_cases hl0:len=0
 .subst hl0;have hrun:(Builtin.clear_ c.argTypes o.type (c.args.map a.eval)).run P w=.ok (.tuple #[]) w:=by
   cases A <;> simp [Builtin.clear_,h0,a0 _ hA,run_underlying ht]
  have hst:upd s.h r ⟨ver,some ⟨b.es.take off++(List.replicate 0 (zv.cells.toList.map cellOf)++b.es.drop (off+0)),z,true⟩⟩=s.h:=by
   funext q
   unfold upd;split
   .rename_i hq;subst hq;have:s.h q=⟨(s.h q).ver,(s.h q).blk⟩:=rfl;rw [this,e1,e2];simp only [List.replicate_zero,List.nil_append,Nat.add_zero,List.take_append_drop];cases b
    simp only at hzb hlive;subst hzb hlive;rfl
   .rfl
  replace hk2:K ((s.setH (upd s.h r ⟨ver,some ⟨b.es.take off++(List.replicate 0 (zv.cells.toList.map cellOf)++b.es.drop (off+0)),z,true⟩⟩)).put o.dst (.tup [])):=hk2;rw [hst]at hk2;exact Zc (m':=m) (I':=I) (exe _ _ hrun) hk2 (h.put (.tup [] [] rfl (λi a v h=>by simp at h)) hd)
 .cases hm:m.blk r with
  | none=>have:=g4 hcur hm;omega
  | some kz=>
   obtain⟨k,z1⟩:=kz;obtain⟨hz1,hnI,_,arr,ty,hh,hc⟩:=hrb.real k z1 hm;obtain⟨hz2,hcap | ⟨hAk,hbs⟩⟩:=g3 hcur k z1 hm
   .omega
   .subst hz2;have hbs' : (off+cap)*z1<=arr.size:=by simpa [bsize,hh] using hbs
    obtain⟨vs,hvs⟩:∃vs,(Builtin.zeroCells zv.cells len).toList=vs:=⟨_,rfl⟩;have hcs:zv.cells.size=z1:=by omega
    have hvl:vs.length=len*z1:=by rw [<-hvs];simp only [Array.length_toList,size_zeroCells];rw [hcs]
    have hvg:∀i j,i<len->j<z1->∃hj:j<zv.cells.size,vs[i*z1+j]?=some (zv.cells[j]):=by
     intro i j hil hj;have hlt:i*z1+j<len*zv.cells.size:=by
      rw [hcs];have:=Nat.mul_le_mul_right z1 (show i+1<=len by omega)
      rw [Nat.add_mul]at this;omega
     have hmod:(i*z1+j) % zv.cells.size=j:=by
      rw [hcs,Nat.add_comm,Nat.add_mul_mod_self_right];exact Nat.mod_eq_of_lt hj
     have hjs:j<zv.cells.size:=by omega
     refine⟨hjs,?_⟩;rw [<-hvs];simp [Builtin.zeroCells,hlt,hmod,hjs]
    have hone:∀u∈vs,u.oneCell' = true:=by
     intro u hu;obtain⟨q,hq⟩:=List.getElem?_of_mem hu;have hql:q<len*z1:=by rw [<-hvl];exact(List.getElem?_eq_some_iff.1 hq).1
     have hz1p:0<z1:=Nat.pos_of_ne_zero hz0;have h1:q / z1<len:=(Nat.div_lt_iff_lt_mul hz1p).2 hql;have h2:q % z1<z1:=Nat.mod_lt _ hz1p;obtain⟨hj,hg⟩:=hvg (q / z1) (q % z1) h1 h2;have h3:q / z1*z1+q % z1=q:=by rw [Nat.mul_comm];exact Nat.div_add_mod q z1
     rw [h3,hq]at hg;simp only [zOI]at hg;subst hg;exact ww (hcell _ (by simp))
    have hfit:off*z1+vs.length<=arr.size:=by
     rw [hvl,<-Nat.add_mul];exact Nat.le_trans (Nat.mul_le_mul_right z1 (by omega)) hbs'
    have hst:=run_storeCells_at P k (off*z1) ty vs 0 arr w hh (by simpa using hfit) hone
    simp only [Nat.add_zero]at hst;have hrun:(Builtin.clear_ c.argTypes o.type (c.args.map a.eval)).run P w=.ok (.tuple #[]) (w.setRow k (arr.toList.take (off*z1)++vs++arr.toList.drop (off*z1+vs.length)).toArray):=by
     have ha:=a0 _ hA;rw [hAk]at ha;obtain⟨len',rfl⟩:∃n,len=n+1:=⟨len-1,by omega⟩
     simp [Builtin.clear_,h0,ha,run_underlying ht,zeroValue,typeInfo,hi,hzv,hvs,hst]
    have hset:=h.heap.set (w':=w.setRow k (arr.toList.take (off*z1)++vs++arr.toList.drop (off*z1+vs.length)).toArray) (r:=r) (ver:=ver) (k:=k) (z:=z1)
     (es:=b.es.take off++(List.replicate len (zv.cells.toList.map cellOf)++b.es.drop (off+len))) rfl rfl rfl (Nat.le_of_eq (QE w k _).symm) (λb' _ hne=>Uo w k b' _ hne) (setRow_heap w k arr _ ty _ hh)
     (.inr (.inr ⟨b,z1,e2,hlive,hm,.inr ⟨hcur.symm,rfl,by simp [bsize,hh];omega⟩⟩)) (.inr hcur.symm) (λe' he'=>by
      rcases List.mem_append.1 he' with h | h
      .rw [hzb];exact hrb.sz _ (List.mem_of_mem_take h)
      .rcases List.mem_append.1 h with h | h
       .rw [List.mem_replicate]at h;rw [h.2];exact hzl
       .rw [hzb];exact hrb.sz _ (List.mem_of_mem_drop h))
     (λi j e' c' he' hc'=>by
      have hgp:=Jn arr.toList vs (off*z1) (i*z1+j) (by simpa using hfit)
      simp only [List.getElem?_toArray];rw [hgp];have htl:(b.es.take off).length=off:=by simp;omega
      have old:∀{i' : Nat},b.es[i']?=some e'->i' = i->(i<off∨off+len<=i)->∃v,(if off*z1<=i*z1+j/\i*z1+j<off*z1+vs.length then vs[i*z1+j-off*z1]? else arr.toList[i*z1+j]?)=some v/\RC m I w.heap c' v:=by
       rintro i' hb rfl hor;have hj:j<z1:=by
        have:=(List.getElem?_eq_some_iff.1 hc').1;rw [hrb.sz e' (List.mem_of_getElem? hb)]at this;omega
       obtain⟨v,q1,q2⟩:=hc i' j e' c' hb hc';refine⟨v,?_,q2⟩;rw [if_neg]
       .simpa using q1
       .rcases hor with hor | hor
        .have:=Nat.mul_le_mul_right z1 (show i' + 1<=off by omega)
         rw [Nat.add_mul]at this;omega
        .have:=Nat.mul_le_mul_right z1 hor;rw [Nat.add_mul]at this;omega
      rcases Nat.lt_or_ge i off with hi1 | hi1
      .rw [List.getElem?_append_left (by omega),List.getElem?_take_of_lt hi1]at he'
       exact old he' rfl (.inl hi1)
      .rw [List.getElem?_append_right (by omega),htl]at he'
       rcases Nat.lt_or_ge i (off+len) with hi2 | hi2
       .rw [List.getElem?_append_left (by simp;omega),List.getElem?_replicate,if_pos (by omega)]at he'
        simp only [zOI]at he';subst he';have hj:j<z1:=by
         have:=(List.getElem?_eq_some_iff.1 hc').1;rw [hzl]at this;exact this
        obtain⟨hjs,hg⟩:=hvg (i-off) j (by omega) hj
        have hmul:off*z1+(i-off)*z1=i*z1:=by rw [<-Nat.add_mul];congr 1;omega
        have hmul2:(i-off)*z1+z1<=len*z1:=by
         have:=Nat.mul_le_mul_right z1 (show(i-off)+1<=len by omega)
         rw [Nat.add_mul]at this;omega
        rw [if_pos (by rw [hvl];omega),show i*z1+j-off*z1=(i-off)*z1+j by omega]
        refine⟨_,hg,?_⟩;simp only [List.getElem?_map]at hc';have:zv.cells.toList[j]?=some zv.cells[j]:=by simp [hjs]
        rw [this]at hc';simp only [Option.map_some,zOI]at hc';subst hc';exact jn _ (hcell _ (List.mem_of_getElem? this))
       .rw [List.getElem?_append_right (by simp;omega),List.length_replicate,List.getElem?_drop]at he'
        exact old he' (by omega) (.inr hi2))
    obtain⟨hhr,hext⟩:=hset;exact Zc (exe _ _ hrun) hk2 ((h.move hext hhr).put (d:=o.dst) (x:=.tup []) (v:=.tuple #[]) (.tup [] [] rfl (λi a v h=>by simp at h)) hd)
theorem waR{H:Array Obj}{c:C}{v:Value}(h:RC m I H c v):RC m I H (nrmC c) v:=by
 cases c with
 | emp=>cases h with | emp a=>exact .snil a 0
 | _=>exact h
theorem kae{l:List (List C)}{i j:Nat}{e' : List C}{c' : C}(h:(nrmR l)[i]?=some e')(k:e'[j]?=some c'):∃e c,l[i]?=some e/\e[j]?=some c/\c' = nrmC c:=by
 unfold nrmR at h;rw [List.getElem?_map,zOM]at h;obtain⟨e,he,rfl⟩:=h;rw [List.getElem?_map,zOM]at k;obtain⟨c,hc,rfl⟩:=k;exact⟨e,c,he,hc,rfl⟩
theorem uad{l:List (List C)}{z:Nat}(h:∀e∈l,e.length=z):∀e∈nrmR l,e.length=z:=λe he=>by
 obtain⟨x,hx,rfl⟩:=List.mem_map.1 he;rw [List.length_map];exact h x hx
theorem kbg{t e:TypeId}{c:Call}{z:Nat}{x y:Operand}{x' y' : Opd}(h:Sim E s a w m I)(hd:∀k,o.dst=some k->k<E.N)(ho:o.op=.call c)(hcal:c.callee=.builtin .copy)
  (hax:c.args[0]?=some x) (hay:c.args[1]?=some y) (h0:c.argTypes[0]?=some t) (ht:P.underlying t=some (.slice e))
  (hz:sizeT P e=some z) (hz0:z≠0) (hx:cOpd x=some x') (hy:cOpd y=some y')
  (hk:elemsA (λys=>(∀e∈ys,e.length=z)/\cpyK (λh=>K ((s.setH h).put o.dst (.one (.lit (.int .i64 (ys.length:Nat)))))) z s.h ys (s.ev x')) s.h (s.ev y')):Lands P E o a w K:=by
 have hvx:=h.ev hx;have hvy:=h.ev hy;obtain⟨ys,⟨hyl,hk⟩,B,cap2,hyv,hyc,hshow⟩:=Vv (P:=P) h.heap hvy hk;obtain⟨vs,hvals,hfirst⟩:=hshow z hyl;rw [hyv]at hfirst;obtain⟨i,hi,hsz⟩:=jf hz;have exe:∀v w',(Builtin.copy_ c.argTypes o.type (c.args.map a.eval)).run P w=.ok v w'->(execOp a.eval o).run P w=.ok (.value v) w':=by
  intro v w' hrun;simp [execOp,ho,resolve,hcal,invoke,builtin,hrun]
 have a1:(c.args.map a.eval)[1]?=some (.slice B ys.length cap2):=by simp [hay,hyv]
 have a0:∀v,a.eval x=v->(c.args.map a.eval)[0]?=some v:=λv hv=>by simp [hax,hv]
 unfold cpyK at hk;split at hk
 rotate_left
 .exact hk.elim
 rename_i r ver z' off len ex;obtain⟨b,e1,e2,⟨hlive,hzz,hzb,hyle,hle⟩,hk2⟩:=Vh hk;subst hzz;rw [ex]at hvx;obtain⟨A,cap,hA,g1,g2,g3,g4,g5,g6⟩:=km hvx.one_inv;have hcur:ver=m.ver r:=by rw [h.heap.ver,e1]
 have hrb:=h.heap.blk r b e2;have hmin:Nat.min ys.length len=ys.length:=Nat.min_eq_left hyle;have hres:∀(mm:M) (H:Array Obj),RA mm I H (.one (.lit (.int .i64 (ys.length:Nat)))) (goInt ys.length):=λmm H=>.one _ _ (.lit _ rfl);have hlen2:∀e'∈b.es.take off++(ys++b.es.drop (off+ys.length)),e'.length=z:=λe' he'=>by
  rcases List.mem_append.1 he' with h | h
  .rw [hzb];exact hrb.sz _ (List.mem_of_mem_take h)
  .rcases List.mem_append.1 h with h | h
   .exact hyl e' h
   .rw [hzb];exact hrb.sz _ (List.mem_of_mem_drop h)
 have hnop:ys=[]->(Builtin.copy_ c.argTypes o.type (c.args.map a.eval)).run P w=.ok (goInt ys.length) w:=by
  intro hys;subst hys;have hvs:vs=[]:=List.length_eq_zero_iff.1 (by rw [hvals.1];simp)
  subst hvs;have hf:=hfirst w rfl;have hi2:i.size=z:=by omega
  cases A <;> simp_all [Builtin.copy_,run_underlying ht,Builtin.lenOf,sizeOf,typeInfo,storeCells]
 cases hm:m.blk r with
 | none=>
  have hcap:=g4 hcur hm;have hys:ys=[]:=List.length_eq_zero_iff.1 (by omega)
  have hes:=hrb.virt hm;have hst:upd s.h r ⟨ver,some ⟨nrmR (b.es.take off++(ys++b.es.drop (off+ys.length))),z,true⟩⟩=s.h:=by
   funext q
   unfold upd;split
   .rename_i hq;subst hq;have:s.h q=⟨(s.h q).ver,(s.h q).blk⟩:=rfl;rw [this,e1,e2,hys,hes];simp only [List.nil_append,List.take_nil,List.drop_nil];cases b
    simp only at hzb hlive hes;subst hzb hlive hes;rfl
   .rfl
  rw [hst]at hk2;exact Zc (m':=m) (I':=I) (exe _ _ (hnop hys)) hk2 (h.put (hres _ _) hd)
 | some kz=>
   obtain⟨k,z1⟩:=kz;obtain⟨hz1,hnI,_,arr,ty,hh,hc⟩:=hrb.real k z1 hm;obtain⟨hz2,hcap | ⟨hAk,hbs⟩⟩:=g3 hcur k z1 hm
   .have hys:ys=[]:=List.length_eq_zero_iff.1 (by omega)
    subst hz2;have hset:=h.heap.set (w':=w) (r:=r) (ver:=ver) (k:=k) (z:=z1) (es:=nrmR (b.es.take off++(ys++b.es.drop (off+ys.length)))) (arr:=arr) (ty:=ty) rfl rfl rfl (Nat.le_refl _) (λ_ _ _=>rfl) hh
     (.inr (.inr ⟨b,z1,e2,hlive,hm,.inr ⟨hcur.symm,rfl,by simp [bsize,hh]⟩⟩)) (.inr hcur.symm) (uad hlen2) (λi j e' c' he' hc'=>by
      obtain⟨e0,c0,he0,hc0,rfl⟩:=kae he' hc';rw [hys]at he0;simp only [List.nil_append,List.length_nil,Nat.add_zero,List.take_append_drop]at he0;obtain⟨v,q1,q2⟩:=hc i j e0 c0 he0 hc0;exact⟨v,q1,waR q2⟩)
    obtain⟨hhr,hext⟩:=hset;exact Zc (exe _ _ (hnop hys)) hk2 ((h.move hext hhr).put (d:=o.dst) (hres _ _) hd)
   .subst hz2;have hbs' : (off+cap)*z1<=arr.size:=by simpa [bsize,hh] using hbs
    have hvl:vs.length=ys.length*z1:=hvals.1;have hone:∀u∈vs,u.oneCell' = true:=VL hvals.2.2;have hfit:off*z1+vs.length<=arr.size:=by
     rw [hvl,<-Nat.add_mul];exact Nat.le_trans (Nat.mul_le_mul_right z1 (by omega)) hbs'
    have hst:=run_storeCells_at P k (off*z1) ty vs 0 arr w hh (by simpa using hfit) hone
    simp only [Nat.add_zero]at hst;have hf:=hfirst w rfl;have hrun:(Builtin.copy_ c.argTypes o.type (c.args.map a.eval)).run P w=.ok (goInt ys.length) (w.setRow k (arr.toList.take (off*z1)++vs++arr.toList.drop (off*z1+vs.length)).toArray):=by
     have ha:=a0 _ hA;rw [hAk]at ha;have hi2:i.size=z1:=by omega
     simp [Builtin.copy_,h0,ha,a1,run_underlying ht,Builtin.lenOf,sizeOf,typeInfo,hi,hi2,hmin,hf,hst]
    have hset:=h.heap.set (w':=w.setRow k (arr.toList.take (off*z1)++vs++arr.toList.drop (off*z1+vs.length)).toArray) (r:=r) (ver:=ver) (k:=k) (z:=z1)
     (es:=nrmR (b.es.take off++(ys++b.es.drop (off+ys.length)))) rfl rfl rfl (Nat.le_of_eq (QE w k _).symm) (λb' _ hne=>Uo w k b' _ hne) (setRow_heap w k arr _ ty _ hh)
     (.inr (.inr ⟨b,z1,e2,hlive,hm,.inr ⟨hcur.symm,rfl,by simp [bsize,hh];omega⟩⟩)) (.inr hcur.symm) (uad hlen2)
     (λi j e'' c'' he'' hc''=>by
      obtain⟨e',c',he',hc',rfl⟩:=kae he'' hc''
      suffices hs:∃v,(arr.toList.take (off*z1)++vs++arr.toList.drop (off*z1+vs.length)).toArray[i*z1+j]?=some v/\RC m I w.heap c' v by
       obtain⟨v,q1,q2⟩:=hs;exact⟨v,q1,waR q2⟩
      have hgp:=Jn arr.toList vs (off*z1) (i*z1+j) (by simpa using hfit)
      simp only [List.getElem?_toArray];rw [hgp];have htl:(b.es.take off).length=off:=by simp;omega
      have old:∀{i' : Nat},b.es[i']?=some e'->i' = i->(i<off∨off+ys.length<=i)->∃v,(if off*z1<=i*z1+j/\i*z1+j<off*z1+vs.length then vs[i*z1+j-off*z1]? else arr.toList[i*z1+j]?)=some v/\RC m I w.heap c' v:=by
       rintro i' hb rfl hor;have hj:j<z1:=by
        have:=(List.getElem?_eq_some_iff.1 hc').1;rw [hrb.sz e' (List.mem_of_getElem? hb)]at this;omega
       obtain⟨v,q1,q2⟩:=hc i' j e' c' hb hc';refine⟨v,?_,q2⟩;rw [if_neg]
       .simpa using q1
       .rcases hor with hor | hor
        .have:=Nat.mul_le_mul_right z1 (show i' + 1<=off by omega)
         rw [Nat.add_mul]at this;omega
        .have:=Nat.mul_le_mul_right z1 hor;rw [Nat.add_mul]at this;omega
      rcases Nat.lt_or_ge i off with hi1 | hi1
      .rw [List.getElem?_append_left (by omega),List.getElem?_take_of_lt hi1]at he'
       exact old he' rfl (.inl hi1)
      .rw [List.getElem?_append_right (by omega),htl]at he'
       rcases Nat.lt_or_ge i (off+ys.length) with hi2 | hi2
       .rw [List.getElem?_append_left (by omega)]at he'
        obtain⟨v,q1,q2⟩:=hvals.2.1 _ j e' c' he' hc';have hlt2:=(List.getElem?_eq_some_iff.1 q1).1;have hmul:off*z1+(i-off)*z1=i*z1:=by rw [<-Nat.add_mul];congr 1;omega
        rw [if_pos (by omega),show i*z1+j-off*z1=(i-off)*z1+j by omega]
        exact⟨v,q1,q2⟩
       .rw [List.getElem?_append_right (by omega),List.getElem?_drop]at he'
        exact old he' (by omega) (.inr hi2))
    obtain⟨hhr,hext⟩:=hset;exact Zc (exe _ _ hrun) hk2 ((h.move hext hhr).put (d:=o.dst) (hres _ _) hd)
end Go.Abs
end
section
namespace Go.Abs
variable {P:Program} {E:Env} {s:S} {a:Act} {w:World} {m:M} {I:Nat->Prop} {o:Oper} {K:S->Prop}
theorem HR.dead{h:Nat->HB}(hr:HR E m I w h)(r:Nat):∃I',HR E m I' w (upd h r (h r).dead)/\Ext m I w.heap m I' w.heap/\∀b k z,(h r).blk=some b->m.blk r=some (k,z)->I' k:=by
  have ver:∀r',m.ver r' = (upd h r (h r).dead r').ver:=by
    intro r';by_cases e:r' = r
    . subst e;simp [upd,HB.dead,hr.ver r']
    . simp [upd,e,hr.ver r']
  have back:∀r' b,(upd h r (h r).dead r').blk=some b->∃b0,(h r').blk=some b0/\b.es=b0.es/\b.z=b0.z/\((r'≠r/\b.live=b0.live)∨(r' = r/\b.live=false)):=by
    intro r' b hb;by_cases e:r' = r
    . subst e
      simp only [upd,if_true,HB.dead,zOM]at hb;obtain⟨b0,h0,rfl⟩:=hb;exact⟨b0,h0,rfl,rfl,.inr ⟨rfl,rfl⟩⟩
    . simp only [upd,e,if_false]at hb
      exact⟨b,hb,rfl,rfl,.inl ⟨e,rfl⟩⟩
  by_cases hx:∃b k z,(h r).blk=some b/\m.blk r=some (k,z)
  . obtain⟨b1,k,z,hb1,hm1⟩:=hx
    have ext:Ext m I w.heap m (λx=>I x∨x=k) w.heap:=⟨λ_=>.inl ⟨rfl,rfl,λ_ _ _=>rfl⟩,λ_ h=>.inl h,λ_ _=>rfl⟩;refine⟨λx=>I x∨x=k,{ hr with
      ver:=ver,blk:=λr' b hb=>?_,imb:=λb hb=>?_,imm:=λb hb=>?_,sup:=λb hb=>.inl (hr.sup b hb),liv:=λr' b k' z' hb hm=>?_,fx:=λr' b hp hb=>?_ },ext,λb k' z' hb hm=>?_⟩
    . obtain⟨b0,h0,he,hz,hl⟩:=back r' b hb
      have hrb:=hr.blk r' b0 h0;refine⟨by rw [he,hz];exact hrb.sz,λhm=>by rw [he];exact hrb.virt hm,λk' z' hm=>?_⟩
      obtain⟨g1,g2,g3,arr,ty,g4,g5⟩:=hrb.real k' z' hm;refine⟨by rw [hz];exact g1,λhlive=>?_,λhlive=>?_,arr,ty,g4,λi j e c he' hc=>?_⟩
      . rcases hl with⟨hne,hll⟩ | ⟨_,hll⟩
        . intro hi
          rcases hi with hi | hi
          . exact g2 (by rw [<-hll];exact hlive) hi
          . subst hi;exact hne (hr.inj _ _ _ _ _ hm hm1)
        . rw [hll]at hlive;simp at hlive
      . rcases hl with⟨hne,hll⟩ | ⟨rfl,hll⟩
        . exact .inl (g3 (by rw [<-hll];exact hlive))
        . rw [hm1]at hm;simp only [zOI,Prod.mk.injEq]at hm;exact .inr hm.1.symm
      . rw [he]at he'
        obtain⟨v,q1,q2⟩:=g5 i j e c he' hc;exact⟨v,q1,q2.ext ext⟩
    . rcases hb with hb | rfl
      . exact hr.imb b hb
      . exact hr.lt _ _ _ hm1
    . rcases hb with hb | rfl
      . exact hr.imm b hb
      . exact .inr (hr.liv r b1 _ _ hb1 hm1)
    . obtain⟨b0,h0,_⟩:=back r' b hb
      exact hr.liv r' b0 k' z' h0 hm
    . obtain⟨b0,h0,_⟩:=back r' b hb
      exact hr.fx r' b0 hp h0
    . rw [hm1]at hm;simp only [zOI,Prod.mk.injEq]at hm;exact .inr hm.1.symm
  . refine⟨I,{ hr with ver:=ver,blk:=λr' b hb=>?_,liv:=λr' b k' z' hb hm=>?_,fx:=λr' b hp hb=>?_ },Ext.refl _ _ _,λb k z hb hm=>(hx ⟨b,k,z,hb,hm⟩).elim⟩
    . obtain⟨b0,h0,he,hz,hl⟩:=back r' b hb
      have hrb:=hr.blk r' b0 h0;refine⟨by rw [he,hz];exact hrb.sz,λhm=>by rw [he];exact hrb.virt hm,λk' z' hm=>?_⟩
      rcases hl with⟨hne,hll⟩ | ⟨rfl,hll⟩
      . have:=hrb.real k' z' hm
        rw [he,hz,hll];exact this
      . exact(hx ⟨b0,k',z',h0,hm⟩).elim
    . obtain⟨b0,h0,_⟩:=back r' b hb
      exact hr.liv r' b0 k' z' h0 hm
    . obtain⟨b0,h0,_⟩:=back r' b hb
      exact hr.fx r' b0 hp h0
theorem HR.frz:∀(l:List Nat) {I:Nat->Prop} {h:Nat->HB},HR E m I w h->∃I',HR E m I' w (frz l h)/\Ext m I w.heap m I' w.heap/\∀r∈l,∀b k z,(h r).blk=some b->m.blk r=some (k,z)->I' k
 | [],I,h,hr=>⟨I,hr,Ext.refl _ _ _,λr hr=>by simp at hr⟩
 | r::l,I,h,hr=>by
  obtain⟨I1,h1,x1,p1⟩:=hr.dead r;obtain⟨I2,h2,x2,p2⟩:=HR.frz l h1;refine⟨I2,h2,x1.trans x2,λr' hr' b k z hb hm=>?_⟩;rcases List.mem_cons.1 hr' with rfl | hr'
  .exact x2.i k (p1 b k z hb hm)
  .by_cases e:r' = r
   .subst e;exact x2.i k (p1 b k z hb hm)
   .exact p2 r' hr' b k z (by simpa [upd,e] using hb) hm
theorem wn{h:Nat->HB}{r ver:Nat}{b:Blk}(hb:(h r).at ver=some b):(h r).ver=ver/\(h r).blk=some b:=by
 unfold HB.at at hb;split at hb
 .rename_i e;exact⟨e,hb⟩
 .simp at hb
theorem uaV{h:Nat->HB}(hr:HR E m I w h){I' : Nat->Prop}(x:Ext m I w.heap m I' w.heap){r ver z off len:Nat}{v:Value}(hc:RC m I w.heap (.own r ver z off len) v)(hf:∀b k z,(h r).blk=some b->m.blk r=some (k,z)->I' k) :
  RC m I' w.heap (datV h r ver off len) v:=by
 have hc':=hc.ext x;unfold datV;split
 .rename_i es he;split
  case isFalse=>exact .any _ hc'.cell
  rename_i hclean;unfold viewOf at he;split at he
  .rename_i b hb;split at he
   .rename_i hle;simp only [zOI]at he;subst he;have hv:=wn hb;obtain⟨A,cap,rfl,g1,g2,g3,g4,g5,g6⟩:=km hc;have hlen:((b.es.drop off).take len).length=len:=by simp;omega
    have hcur:ver=m.ver r:=by rw [hr.ver,hv.1]
    by_cases hl0:len=0
    .subst hl0;simp only [List.take_zero];exact .snil _ _
    .have hrb:=hr.blk r b hv.2;cases hm:m.blk r with
     | none=>have:=hrb.virt hm;rw [this]at hle;simp at hle;omega
     | some kz=>
      obtain⟨k,z1⟩:=kz;obtain⟨hz1,_,_,arr,ty,hh,hcell⟩:=hrb.real k z1 hm;obtain⟨hz2,hcap | ⟨hA,hbs⟩⟩:=g3 hcur k z1 hm
      .omega
      .subst hA;have hI:I' k:=hf b k z1 hv.2 hm;have hzz:z=b.z:=by omega
       subst hzz;have hch:∀i j,i<len->j<b.z->∃u,arr[off*b.z+i*b.z+j]?=some u:=by
        intro i j hi hj;have he:b.es[off+i]?=some (b.es[off+i]'(by omega)):=List.getElem?_eq_getElem (by omega)
        have hj' : j<(b.es[off+i]'(by omega)).length:=by rw [hrb.sz _ (List.mem_of_getElem? he)];exact hj
        obtain⟨u,q1,_⟩:=hcell _ j _ _ he (List.getElem?_eq_getElem hj');exact⟨u,by rw [<-Nat.add_mul,<-hz2];exact q1⟩
       have key:=RC.slice (m:=m) (I:=I') (H:=w.heap) ((b.es.drop off).take len) b.z k (off*b.z) cap arr ty (0,0) (λi j=>(arr[off*b.z+i*b.z+j]?).getD undef)
        hclean (by rw [hlen];exact g2) (by rw [hlen];exact g6) hI hh (λe he=>hrb.sz e (List.mem_of_mem_drop (List.mem_of_mem_take he)))
        (λi j hi hj=>by rw [hlen]at hi;obtain⟨u,hu⟩:=hch i j hi hj;simp [hu])
        (λi j e c he hc=>by
         obtain⟨hi,he'⟩:=wz he;obtain⟨u,q1,q2⟩:=hcell _ j _ _ he' hc;rw [hz2,Nat.add_mul]at q1;simp only [q1,Option.getD_some];exact q2.ext x)
       rw [hlen]at key;exact key
   .simp at he
  .simp at he
 .exact .any _ hc'.cell
theorem ya4{h:Nat->HB}(hr:HR E m I w h){I' : Nat->Prop}(x:Ext m I w.heap m I' w.heap){r ver i off:Nat}{v:Value}(hc:RC m I w.heap (.ptr r ver i off) v)(hf:∀b k z,(h r).blk=some b->m.blk r=some (k,z)->I' k) :
  RC m I' w.heap (datP h r ver i off) v:=by
 have hc':=hc.ext x;unfold datP;split
 .rename_i b hb;split
  .rename_i e he;split
   case isFalse=>exact .any _ hc'.cell
   rename_i hclean;obtain⟨hle,hclean⟩:=hclean;have hv:=wn hb;have hcur:ver=m.ver r:=by rw [hr.ver,hv.1]
   have hrb:=hr.blk r b hv.2;cases hc with
   | ptr _ _ _ _ A g1 g2=>
    cases hm:m.blk r with
    | none=>have:=hrb.virt hm;rw [this]at he;simp at he
    | some kz=>
     obtain⟨k,z1⟩:=kz;obtain⟨hz1,_,_,arr,ty,hh,hcell⟩:=hrb.real k z1 hm;rw [g2 hcur k z1 hm];have hget:∀(j:Nat) (c:C),(e.drop off)[j]?=some c->∃u,arr[i*z1+off+j]?=some u/\RC m I w.heap c u:=by
      intro j c hj;rw [List.getElem?_drop]at hj;obtain⟨u,q1,q2⟩:=hcell i (off+j) e c he hj;exact⟨u,by rw [Nat.add_assoc];exact q1,q2⟩
     refine .ref _ k (i*z1+off) arr ty (0,0) (λj=>(arr[i*z1+off+j]?).getD undef) hclean (hf b k z1 hv.2 hm) hh (λj hj=>?_) (λj c hj=>?_)
     .obtain⟨u,q1,_⟩:=hget j _ (List.getElem?_eq_getElem hj);simp [q1]
     .obtain⟨u,q1,q2⟩:=hget j c hj;simp only [q1,Option.getD_some];exact q2.ext x
  .exact .any _ hc'.cell
 .exact .any _ hc'.cell
theorem X5{h:Nat->HB}(hr:HR E m I w h){I' : Nat->Prop}(x:Ext m I w.heap m I' w.heap){c:C}{v:Value}(hc:RC m I w.heap c v)(hf:∀r∈ownB c,∀b k z,(h r).blk=some b->m.blk r=some (k,z)->I' k) :
  RC m I' w.heap (datB h c) v:=by
 have hc':=hc.ext x;cases c <;> try exact hc'
 case full es=>cases hc' with | full es a h=>exact h
 case emp=>cases hc';exact .snil _ _
 case own r ver z off len=>exact uaV hr x hc (hf r (by simp [ownB]))
 case ptr r ver i off=>exact ya4 hr x hc (hf r (by simp [ownB]))
 case clo f caps=>exact .any _ hc'.cell
theorem jaB{h:Nat->HB}(hr:HR E m I w h){I' : Nat->Prop}(x:Ext m I w.heap m I' w.heap){c:C}{v:Value}(hc:RC m I w.heap c v)(hf:∀r∈ownC c,∀b k z,(h r).blk=some b->m.blk r=some (k,z)->I' k) :
  RC m I' w.heap (datC h c) v:=by
 cases c <;> try exact X5 hr x hc hf
 case clo f caps=>
  cases hc with
  | clo _ _ cv hlen hcells=>
   refine .clo f _ cv (by simp [hlen]) (λi c u hc hu=>?_)
   simp only [List.getElem?_map,zOM]at hc;obtain⟨c0,hc0,rfl⟩:=hc;exact X5 hr x (hcells i c0 u hc0 hu) (λr hr'=>hf r (List.mem_flatMap.2 ⟨c0,List.mem_of_getElem? hc0,hr'⟩))
  | bnd _ cs cv hlen hcells=>
   refine .bnd f (cs.map (datB h)) cv (by simp [hlen]) (λi c u hc hu=>?_)
   simp only [List.getElem?_map,zOM]at hc;obtain⟨c0,hc0,rfl⟩:=hc;exact X5 hr x (hcells i c0 u hc0 hu) (λr hr'=>hf r (List.mem_flatMap.2 ⟨c0,List.mem_cons_of_mem _ (List.mem_of_getElem? hc0),hr'⟩))
theorem Yx{H:Array Obj}{h:Nat->HB}{c:C}{v:Value}(hc:RC m I H c v):Clean (datB h c):=by
 cases hc with
 | lit v _=>exact .lit v
 | any=>exact .any
 | snil=>exact .slice _ (λe he=>by simp at he)
 | slice es _ _ _ _ _ _ _ _ h0=>exact .slice _ h0
 | full es a hin=>cases hin with
  | snil=>exact .slice _ (λe he=>by simp at he)
  | slice es _ _ _ _ _ _ _ _ h0=>exact .slice _ h0
 | emp=>exact .slice _ (λe he=>by simp at he)
 | own=>simp only [datB,datV];split <;> first | (split <;> first | (rename_i h;exact .slice _ h) | exact .any) | exact .any
 | ptr=>simp only [datB,datP];split <;> first | (split <;> first | (split <;> first | (rename_i h;exact .ref _ h.2) | exact .any) | exact .any) | exact .any
 | ref cs _ _ _ _ _ _ h0=>exact .ref _ h0
 | clo=>exact .any
 | bnd=>exact .any
theorem Vw{H:Array Obj}{h:Nat->HB}{c:C}{v:Value}(hc:RC m I H c v):Clean (datC h c):=by
 cases c <;> try exact Yx (h:=h) hc
 case clo f caps=>
  cases hc with
  | clo _ _ cv hlen hcells=>
   refine .clo f _ (λc hc=>?_);simp only [List.mem_map]at hc;obtain⟨c0,hc0,rfl⟩:=hc;obtain⟨i,hi⟩:=List.getElem?_of_mem hc0;have hlt:i<cv.length:=by rw [hlen];exact(List.getElem?_eq_some_iff.1 hi).1
   exact Yx (hcells i c0 _ hi (List.getElem?_eq_getElem hlt))
  | bnd _ cs cv hlen hcells=>
   refine .clo f _ (λc hc=>?_);simp only [List.map_cons,List.mem_cons,List.mem_map]at hc;rcases hc with rfl | ⟨c0,hc0,rfl⟩
   .exact .lit _
   .obtain⟨i,hi⟩:=List.getElem?_of_mem hc0;have hlt:i<cv.length:=by rw [hlen];exact(List.getElem?_eq_some_iff.1 hi).1
    exact Yx (hcells i c0 _ hi (List.getElem?_eq_getElem hlt))
theorem RC.any_map{H:Array Obj}{c:C}{v:Value}(h:RC m I H c v)(hc:Clean c)(m' : M):RC m' I H c v:=by
 induction h with
 | lit v hv=>exact .lit v hv
 | any v hv=>exact .any v hv
 | snil a cap=>exact .snil a cap
 | slice es sz b off cap arr ty fz vs h0 h1 h1' h2 h3 h4 h5 _ ih=>
  exact .slice es sz b off cap arr ty fz vs h0 h1 h1' h2 h3 h4 h5 (λi j e c he hj=>ih i j e c he hj (h0 e (List.mem_of_getElem? he) c (List.mem_of_getElem? hj)))
 | full es a _ ih=>exact .full es a (ih (by cases hc with | full _ h=>exact .slice _ h))
 | emp a=>exact .emp a
 | own=>cases hc
 | ptr=>cases hc
 | ref cs b off arr ty fz vs h0 h1 h2 h3 _ ih=>exact .ref cs b off arr ty fz vs h0 h1 h2 h3 (λj c hj=>ih j c hj (h0 c (List.mem_of_getElem? hj)))
 | clo f caps cv h1 _ ih=>cases hc with | clo _ _ h=>exact .clo f caps cv h1 (λi c v hc hv=>ih i c v hc hv (h c (List.mem_of_getElem? hc)))
 | bnd f caps cv h1 _ ih=>cases hc with | clo _ _ h=>exact .bnd f caps cv h1 (λi c v hc hv=>ih i c v hc hv (h c (List.mem_cons_of_mem _ (List.mem_of_getElem? hc))))
theorem Jag{a:Act}(h:Sim E s a w m I):∀(l:List Operand) (l' : List Opd) (k:IntKind) (n:Int),cOpds l=some l'->∀{K:AV->Prop},maxK mx s.ev K l' k n->
  ∃r,((l.map a.eval).foldlM Builtin.max2 (.int k n)).run P w=.ok (.int k r) w/\K (.one (.lit (.int k r)))
 | [],l',k,n,hl,K,hk=>by simp [cOpds]at hl;subst hl;exact⟨n,by simp,hk⟩
 | x::l,l',k,n,hl,K,hk=>by
  simp only [cOpds,List.mapM_cons,Option.bind_eq_bind,zOB,Option.pure_def,zOI]at hl;obtain⟨y,hy,l2,hl2,rfl⟩:=hl;obtain⟨k',b,e,rfl,hk⟩:=Qc hk;have hv:=h.ev hy;rw [e]at hv;obtain⟨hv,_⟩:=hv.lit_inv;obtain⟨r,h1,h2⟩:=Jag h l l2 k _ hl2 hk;refine⟨r,?_,h2⟩;have:Builtin.max2 (.int k n) (.int k b)=pure (.int k (mx n b)):=by simp [Builtin.max2,mx]
  simp only [List.map_cons,List.foldlM_cons,hv,this,pure_bind];exact h1
theorem Xaj{a:Act}(h:Sim E s a w m I):∀(l:List Operand) (l' : List Opd) (k:IntKind) (n:Int),cOpds l=some l'->∀{K:AV->Prop},maxK mn s.ev K l' k n->
  ∃r,((l.map a.eval).foldlM Builtin.min2 (.int k n)).run P w=.ok (.int k r) w/\K (.one (.lit (.int k r)))
 | [],l',k,n,hl,K,hk=>by simp [cOpds]at hl;subst hl;exact⟨n,by simp,hk⟩
 | x::l,l',k,n,hl,K,hk=>by
  simp only [cOpds,List.mapM_cons,Option.bind_eq_bind,zOB,Option.pure_def,zOI]at hl;obtain⟨y,hy,l2,hl2,rfl⟩:=hl;obtain⟨k',b,e,rfl,hk⟩:=Qc hk;have hv:=h.ev hy;rw [e]at hv;obtain⟨hv,_⟩:=hv.lit_inv;obtain⟨r,h1,h2⟩:=Xaj h l l2 k _ hl2 hk;refine⟨r,?_,h2⟩;have:Builtin.min2 (.int k n) (.int k b)=pure (.int k (mn n b)):=by simp [Builtin.min2,mn]
  simp only [List.map_cons,List.foldlM_cons,hv,this,pure_bind];exact h1
theorem wbc{c:Call}{l' : List Opd}(h:Sim E s a w m I)(hd:∀k,o.dst=some k->k<E.N)(ho:o.op=.call c)(hcal:c.callee=.builtin .max)(hl:cOpds c.args.toList=some l')
  (hk:maxA mx s.ev (λr=>K (s.put o.dst r)) l'):Lands P E o a w K:=by
 cases hargs:c.args.toList with
 | nil=>rw [hargs]at hl;simp [cOpds]at hl;subst hl;exact hk.elim
 | cons x l=>
  rw [hargs]at hl;simp only [cOpds,List.mapM_cons,Option.bind_eq_bind,zOB,Option.pure_def,zOI]at hl;obtain⟨y,hy,l2,hl2,rfl⟩:=hl;obtain⟨k,n,e,hk⟩:=Qc hk;have hv:=h.ev hy;rw [e]at hv;obtain⟨hv,_⟩:=hv.lit_inv;obtain⟨r,h1,h2⟩:=Jag (P:=P) h l l2 k n hl2 hk;exact Ja h hd (by simp [execOp,ho,resolve,hcal,invoke,builtin,Builtin.max_,hargs,hv,h1]) (Je _ _) h2
theorem Jbf{c:Call}{l' : List Opd}(h:Sim E s a w m I)(hd:∀k,o.dst=some k->k<E.N)(ho:o.op=.call c)(hcal:c.callee=.builtin .min)(hl:cOpds c.args.toList=some l')
  (hk:maxA mn s.ev (λr=>K (s.put o.dst r)) l'):Lands P E o a w K:=by
 cases hargs:c.args.toList with
 | nil=>rw [hargs]at hl;simp [cOpds]at hl;subst hl;exact hk.elim
 | cons x l=>
  rw [hargs]at hl;simp only [cOpds,List.mapM_cons,Option.bind_eq_bind,zOB,Option.pure_def,zOI]at hl;obtain⟨y,hy,l2,hl2,rfl⟩:=hl;obtain⟨k,n,e,hk⟩:=Qc hk;have hv:=h.ev hy;rw [e]at hv;obtain⟨hv,_⟩:=hv.lit_inv;obtain⟨r,h1,h2⟩:=Xaj (P:=P) h l l2 k n hl2 hk;exact Ja h hd (by simp [execOp,ho,resolve,hcal,invoke,builtin,Builtin.min_,hargs,hv,h1]) (Je _ _) h2
end Go.Abs
end
section
namespace Go.Abs
variable {P:Program} {E:Env} {s:S} {a:Act} {w:World} {m:M} {I:Nat->Prop} {o:Oper} {K:S->Prop}
theorem ZU(off:Nat):∀(vs:List Value) (k:Nat) (acc:Array Value),off+k+vs.length<=acc.size->
  ((vs.zipIdx k).foldl (λcs (x:Value×Nat)=>cs.setIfInBounds (off+x.2) x.1) acc).toList=acc.toList.take (off+k)++vs++acc.toList.drop (off+k+vs.length)
 | [],k,acc,h=>by simp
 | v::vs,k,acc,h=>by
  simp only [List.zipIdx_cons,List.foldl_cons];rw [ZU off vs (k+1) (acc.setIfInBounds (off+k) v) (by simp at h ⊢;omega)]
  simp only [List.length_cons]at h;apply List.ext_getElem?;intro j;have e1:=Jn (acc.setIfInBounds (off+k) v).toList vs (off+(k+1)) j (by simp;omega)
  have e2:=Jn acc.toList (v::vs) (off+k) j (by simp;omega)
  rw [e1,e2];simp only [List.length_cons,Array.toList_setIfInBounds];by_cases h1:j=off+k
  .subst h1;rw [if_neg (by omega),if_pos (by omega),List.getElem?_set_self (by simp;omega)]
   simp
  .by_cases h2:off+(k+1)<=j/\j<off+(k+1)+vs.length
   .rw [if_pos h2,if_pos (by omega),show j-(off+k)=(j-(off+(k+1)))+1 by omega,List.getElem?_cons_succ]
   .rw [if_neg h2,if_neg (by omega),List.getElem?_set_ne (by omega)]
theorem Zam(off:Nat)(vs:List Value)(acc:Array Value)(h:off+vs.length<=acc.size) :
  ((⟨vs⟩:Array Value).zipIdx.foldl (λcs (x:Value×Nat)=>cs.setIfInBounds (off+x.2) x.1) acc).toList=acc.toList.take off++vs++acc.toList.drop (off+vs.length):=by
 rw [<-Array.foldl_toList];simp only [Array.toList_zipIdx];have:=ZU off vs 0 acc (by simpa using h)
 simpa using this
theorem jU{place:Nat->Option (Nat×Nat)}{acc:Array Value}{i off n:Nat}{v:Value}{vs:List Value}{rest:List (Nat×Value)}(hp:place i=some (off,n))(hv:v.cells=⟨vs⟩)(hn:vs.length=n)(hle:off+n<=acc.size) :
  ∃acc1:Array Value,acc1.toList=acc.toList.take off++vs++acc.toList.drop (off+n)/\acc1.size=acc.size/\Instr.fill place acc ((i,v)::rest)=Instr.fill place acc1 rest:=by
 have hf:=Zam off vs acc (by omega)
 rw [hn]at hf;refine⟨_,hf,?_,?_⟩
 .rw [<-Array.length_toList,hf];simp;omega
 .have h1:v.cells.size=n:=by rw [hv];simpa using hn
  have h2:¬(acc.size<off+n):=by omega
  rw [<-hv];simp only [Instr.fill,hp,h1,ne_eq,not_true_eq_false,decide_false,Bool.false_or,gt_iff_lt,h2,Bool.false_eq_true,if_false]
theorem XQ{a:Act}(h:Sim E s a w m I)(place:Nat->Option (Nat×Nat))(zero:List C):∀(parts:List (Nat×Operand)) (ps:List (Nat×Nat×Opd)) (pos:Nat) (sg:List Seg) (acc:Array Value) {K:List C->Prop},
  (parts.mapM λ(p:Nat×Operand)=>(place p.1).bind λ(q:Nat×Nat)=>(cOpd p.2).bind λx=>some (q.1,q.2,x))=some ps->segs zero pos ps=some sg->segA s.ev sg K->acc.size=zero.length->
  RL m I w.heap (zero.drop pos) (acc.toList.drop pos)->
  ∃cs acc',Instr.fill place acc (parts.map λp=>(p.1,a.eval p.2))=some acc'/\K cs/\acc'.size=acc.size/\acc'.toList.take pos=acc.toList.take pos/\RL m I w.heap cs (acc'.toList.drop pos)
 | [],ps,pos,sg,acc,K,hm,hs,hk,hsz,hrl=>by
  simp at hm;subst hm;simp only [segs]at hs;split at hs
  .rename_i hle;simp only [zOI]at hs;subst hs;by_cases e:pos=zero.length
   .subst e;simp only [if_true,segA]at hk;refine⟨[],acc,rfl,hk,rfl,rfl,?_⟩;rw [List.drop_of_length_le (by simp [hsz])]
    exact⟨rfl,λi c v h=>by simp at h⟩
   .simp only [e,if_false,segA]at hk;exact⟨_,acc,rfl,hk,rfl,rfl,by simpa using hrl⟩
  .simp at hs
 | (i,x)::parts,ps,pos,sg,acc,K,hm,hs,hk,hsz,hrl=>by
  simp only [List.mapM_cons,Option.bind_eq_bind,zOB,Option.pure_def,zOI]at hm;obtain⟨q,⟨⟨off,n⟩,hpl,y,hy,rfl⟩,ps2,hps2,rfl⟩:=hm;simp only [segs]at hs;split at hs
  .rename_i hle;split at hs
   .rename_i l hl;simp only [zOI]at hs;have key:segA s.ev (.x n y::l) (λcs=>K ((zero.drop pos).take (off-pos)++cs)):=by
     subst hs;split at hk
     .rename_i e;subst e;simpa using hk
     .simpa only [segA] using hk
    simp only [segA]at key;obtain⟨cs1,vs1,⟨hlen1,key⟩,hcells,hrl1,_⟩:=Xo key (h.ev hy);have hlv:vs1.length=n:=by rw [<-hrl1.1];exact hlen1
    obtain⟨acc1,hacc1,hsz1,hfill⟩:=jU (rest:=parts.map λp=>(p.1,a.eval p.2)) hpl hcells hlv (show off+n<=acc.size by omega)
    have htl:(acc.toList.take off++vs1).length=off+n:=by simp;omega
    have hd1:acc1.toList.drop (off+n)=acc.toList.drop (off+n):=by
     rw [hacc1,List.drop_append_of_le_length (by omega),List.drop_of_length_le (by omega),List.nil_append]
    have hrl' : RL m I w.heap (zero.drop (off+n)) (acc1.toList.drop (off+n)):=by
     rw [hd1];have:=hrl.drop (off+n-pos);rw [List.drop_drop,List.drop_drop,show pos+(off+n-pos)=off+n by omega]at this
     exact this
    obtain⟨cs2,acc',g1,g2,g3,g4,g5⟩:=XQ h place zero parts ps2 (off+n) l acc1 hps2 hl key (by omega) hrl'
    have ht:acc'.toList.take (off+n)=acc.toList.take off++vs1:=by
     rw [g4,hacc1,List.take_append_of_le_length (by omega),List.take_of_length_le (by omega)]
    have hsplit:acc'.toList=acc.toList.take off++vs1++acc'.toList.drop (off+n):=by rw [<-ht];exact(List.take_append_drop _ _).symm
    refine⟨_,acc',by simp only [List.map_cons];rw [hfill];exact g1,g2,by omega,?_,?_⟩
    .rw [hsplit,List.append_assoc,List.take_append_of_le_length (by simp;omega),List.take_take]
     congr 1;omega
    .have hdrop:acc'.toList.drop pos=(acc.toList.drop pos).take (off-pos)++(vs1++acc'.toList.drop (off+n)):=by
      conv=>lhs;rw [hsplit]
      rw [List.append_assoc,List.drop_append_of_le_length (by simp;omega),List.drop_take]
     rw [hdrop];have h1:=hrl.take (off-pos);have app:∀{c1 c2:List C} {v1 v2:List Value},RL m I w.heap c1 v1->RL m I w.heap c2 v2->RL m I w.heap (c1++c2) (v1++v2):=by
      intro c1 c2 v1 v2 q1 q2;refine⟨by simp [q1.1,q2.1],λj c v hc hv=>?_⟩
      rcases Nat.lt_or_ge j c1.length with hj | hj
      .rw [List.getElem?_append_left hj]at hc;rw [List.getElem?_append_left (by rw [<-q1.1];exact hj)]at hv
       exact q1.2 j c v hc hv
      .rw [List.getElem?_append_right hj]at hc;rw [List.getElem?_append_right (by rw [<-q1.1];exact hj),<-q1.1]at hv
       exact q2.2 _ c v hc hv
     exact app h1 (app hrl1 g5)
   .simp at hs
  .simp at hs
theorem qaI{t:TypeId}{parts:Array (Nat×Operand)}{sg:List Seg}(h:Sim E s a w m I)(hd:∀k,o.dst=some k->k<E.N)(ho:o.op=.build t parts)(hc:cBuild P t parts.toList=some sg)
  (hk:segA s.ev sg λcs=>K (s.put o.dst (.agg cs))):Lands P E o a w K:=by
 unfold cBuild at hc;simp only [Option.bind_eq_bind,zOB]at hc;obtain⟨zero,hz,hc⟩:=hc;obtain⟨i,v,hi,hzv,hsize,rfl,hcell⟩:=Qd hz;have hrl0:RL m I w.heap ((v.cells.toList.map cellOf).drop 0) (v.cells.toList.drop 0):=by simpa using vaE (m:=m) (I:=I) (w:=w) hcell
 have fin:∀(place:Nat->Option (Nat×Nat)) ps,(parts.toList.mapM λ(p:Nat×Operand)=>(place p.1).bind λ(q:Nat×Nat)=>(cOpd p.2).bind λx=>some (q.1,q.2,x))=some ps->segs (v.cells.toList.map cellOf) 0 ps=some sg->
   (∀cells,Instr.fill place v.cells (parts.toList.map λp=>(p.1,a.eval p.2))=some cells->P.built t (parts.map λ(p:Nat×Operand)=>(p.1,a.eval p.2)).toList=some cells)->Lands P E o a w K:=by
  intro place ps hps hs hb;obtain⟨cs,acc',g1,g2,g3,g4,g5⟩:=XQ h place _ parts.toList ps 0 sg v.cells hps hs hk (by simp) hrl0
  have hrun:=run_build w t (parts.map λ(p:Nat×Operand)=>(p.1,a.eval p.2)) acc' (hb _ g1);refine Ja (v:=.agg acc') h hd ?_ (.agg cs acc'.toList (by simpa using g5)) g2
  simp only [execOp,ho,Sem.run_bind];have:(parts.map λx=>match x with | (i,x)=>(i,a.eval x))=parts.map λ(p:Nat×Operand)=>(p.1,a.eval p.2):=by congr 1
  simp [hrun]
 split at hc
 .rename_i fs hu;simp only [zOB]at hc;obtain⟨pl,hpl,ps,hps,hs⟩:=hc;refine fin (λi=>pl[i]?) ps ?_ hs (λcells hf=>?_)
  .rw [<-hps];rfl
  .unfold placesOf at hpl;have hpl' : fs.toList.mapM (λf=>(P.info? f.type).map λi=>(f.offset,i.size))=some pl:=by
    rw [<-hpl];congr 1;funext f;simp [sizeT,Option.map_map];rfl
   simp only [Program.built,hi,hu,hzv,hpl'];simpa using hf
 .rename_i n e hu;simp only [zOB]at hc;obtain⟨z,hsz,ps,hps,hs⟩:=hc;obtain⟨ie,hie,rfl⟩:=jf hsz;refine fin (λi=>some (i*ie.size,ie.size)) ps ?_ hs (λcells hf=>?_)
  .rw [<-hps];rfl
  .simp only [Program.built,hi,hu,hzv,hie];simpa using hf
 .simp at hc
end Go.Abs
end
section
namespace Go.Abs
variable {P:Program} {E:Env} {s:S} {a:Act} {w:World} {m:M} {I:Nat->Prop} {o:Oper} {K:S->Prop}
theorem HR.push{h:Nat->HB}(hr:HR E m I w h){w' : World}{arr:Array Value}{ty:TypeId}(os:w'.os=w.os)(tape:w'.tape=w.tape)(out:w'.output=w.output)(hheap:w'.heap=w.heap.push (.cells arr ty)) :
    HR E m (λb=>I b∨b=w.heap.size) w' h/\Ext m I w.heap m (λb=>I b∨b=w.heap.size) w'.heap:=by
  have same:∀b,b<w.heap.size->w'.heap[b]?=w.heap[b]?:=λb hb=>by rw [hheap];exact zn w _ b hb (by omega)
  have size:w'.heap.size=w.heap.size+1:=by rw [hheap];simp
  have ext:Ext m I w.heap m (λb=>I b∨b=w.heap.size) w'.heap:=
    ⟨λr=>.inl ⟨rfl,rfl,λb z hb=>by simp only [bsize,same b (hr.lt _ _ _ hb)]⟩,λb hb=>.inl hb,λb hb=>same b (hr.imb b hb)⟩
  refine⟨{ ver := hr.ver, blk := λr b hb => ?_, inj := hr.inj, lt := λr k z hm => ?_, imb := λb hb => ?_, grow := ?_, keep := λb hb ho => ?_, imm := λb hb => ?_, sup := λb hb => .inl (hr.sup b hb), i0 := hr.i0,
            liv:=hr.liv,np:=hr.np,fx:=λr b hp hb=>⟨(hr.fx r b hp hb).1,λk z hF=>by rw [<-(hr.fx r b hp hb).2 k z hF];simp only [bsize,same k (hr.lt r k z (by rw [(hr.fx r b hp hb).1];exact hF))]⟩,os:=os.trans hr.os,tape:=tape.trans hr.tape,out:=out.trans hr.out },ext⟩
  . have hrb:=hr.blk r b hb
    refine⟨hrb.sz,hrb.virt,λk z hm=>?_⟩;obtain⟨g1,g2,g3,arr',ty',g4,g5⟩:=hrb.real k z hm;have hlt:=hr.lt _ _ _ hm;refine⟨g1,λhl hi=>?_,λhl=>.inl (g3 hl),arr',ty',by rw [same k hlt];exact g4,λi j e c he hc=>let ⟨v,q1,q2⟩:=g5 i j e c he hc;⟨v,q1,q2.ext ext⟩⟩
    rcases hi with hi | hi
    . exact g2 hl hi
    . omega
  . have:=hr.lt _ _ _ hm;omega
  . rcases hb with hb | hb
    . have:=hr.imb b hb;omega
    . omega
  . have:=hr.grow;omega
  . rw [same b (Nat.lt_of_lt_of_le hb hr.grow)];exact hr.keep b hb ho
  . rcases hb with hb | hb
    . exact hr.imm b hb
    . exact .inr (.inl (by have:=hr.grow;omega))
theorem ZaY{t e:TypeId}{z:Nat}{ps:Array (Nat×Operand)}(h:Sim E s a w m I)(hd:∀k,o.dst=some k->k<E.N)(ho:o.op=.buildSlice t 0 ps)(ht:P.underlying t=some (.slice e))(hz:sizeT P e=some z)
  (hps:ps = #[]) (hk:K (s.put o.dst (.one .emp))):Lands P E o a w K:=by
 subst hps;obtain⟨hh,hx⟩:=h.heap.push (w':=w.alloc (.cells #[] e)) rfl rfl rfl rfl;have h1:=h.move hx hh;have h2:=h1.put (d:=o.dst) (x:=.one .emp) (v:=.slice (some ⟨w.heap.size,0,none⟩) 0 0) (.one _ _ (.emp _)) hd;refine Zc ?_ hk h2;have hrun:(Instr.buildSlice t 0 #[]).run P w=.ok (.slice (some ⟨w.heap.size,0,none⟩) 0 0) (w.alloc (.cells #[] e)):=by
  have he:Array.range 0 = #[]:=Array.eq_empty_of_size_eq_zero (by simp)
  simp [Instr.buildSlice,run_underlying ht,Vb hz,Instr.fill,newRow,he]
 simp [execOp,ho,hrun]
theorem Vals.one{H:Array Obj}{z:Nat}{cs:List C}{vs:List Value}(h:RL m I H cs vs)(hz:cs.length=z):Vals m I H z [cs] vs:=by
 refine⟨by simp [<-h.1,hz],λi j e c he hc=>?_,λu hu=>?_⟩
 .cases i with
  | zero=>
   simp only [List.getElem?_cons_zero,zOI]at he;subst he;have hj:j<vs.length:=by rw [<-h.1];exact(List.getElem?_eq_some_iff.1 hc).1
   exact⟨vs[j],by simp,h.2 j c _ hc (List.getElem?_eq_getElem hj)⟩
  | succ i=>simp at he
 .obtain⟨i,hi⟩:=List.getElem?_of_mem hu;have hj:i<cs.length:=by rw [h.1];exact(List.getElem?_eq_some_iff.1 hi).1
  exact(h.2 i _ u (List.getElem?_eq_getElem hj) hi).cell
theorem YL{a:Act}(h:Sim E s a w m I)(z:Nat):∀(parts:List (Nat×Operand)) (l:List (List Seg)) (i0:Nat) (acc:Array Value) {K:List (List C)->Prop},
  parts.map (·.1)=List.range' i0 parts.length->(parts.mapM λ(p:Nat×Operand)=>(cOpd p.2).map λx=>[Seg.x z x])=some l->rowA s.ev z l K->acc.size=(i0+parts.length)*z->
  ∃es vs acc',Instr.fill (λi=>some (i*z,z)) acc (parts.map λp=>(p.1,a.eval p.2))=some acc'/\K es/\Vals m I w.heap z es vs/\es.length=parts.length/\(∀e∈es,e.length=z)/\acc'.toList=acc.toList.take (i0*z)++vs
 | [],l,i0,acc,K,hp,hm,hk,hsz=>by
  simp at hm;subst hm;exact⟨[],[],acc,rfl,hk,Vals.nil _ z,rfl,λe he=>by simp at he,by simp at hsz;simp [<-hsz,List.take_of_length_le]⟩
 | (i,x)::parts,l,i0,acc,K,hp,hm,hk,hsz=>by
  simp only [List.mapM_cons,Option.bind_eq_bind,zOB,Option.pure_def,zOI,zOM]at hm;obtain⟨_,⟨y,hy,rfl⟩,l2,hl2,rfl⟩:=hm;simp only [List.map_cons,List.length_cons,List.range'_succ,List.cons.injEq]at hp;obtain⟨rfl,hp⟩:=hp;simp only [rowA,segA,List.append_nil]at hk;obtain⟨cs,vs1,⟨hlen,_,hk⟩,hcells,hrl,_⟩:=Xo hk (h.ev hy);have hlv:vs1.length=z:=by rw [<-hrl.1];exact hlen
  simp only [List.length_cons]at hsz;have hmul:(i+(parts.length+1))*z=i*z+z+parts.length*z:=by rw [Nat.add_mul,Nat.add_mul];omega
  obtain⟨acc1,hacc1,hsz1,hfill⟩:=jU (place:=λi=>some (i*z,z)) (i:=i) (rest:=parts.map λp=>(p.1,a.eval p.2)) rfl hcells hlv (show i*z+z<=acc.size by omega)
  obtain⟨es,vs,acc',g1,g2,g3,g4,g5,g6⟩:=YL h z parts l2 (i+1) acc1 hp hl2 hk (by rw [hsz1,hsz];congr 1;omega)
  refine⟨cs::es,vs1++vs,acc',by simp only [List.map_cons];rw [hfill];exact g1,g2,(Vals.one hrl hlen).append g3 (λe he=>by simp at he;rw [he];exact hlen),by simp [g4],λe he=>?_,?_⟩
  .rcases List.mem_cons.1 he with rfl | he
   .exact hlen
   .exact g5 e he
  .rw [g6,hacc1,Nat.add_mul,Nat.one_mul,List.take_append_of_le_length (by simp;omega),List.take_of_length_le (by simp;omega),List.append_assoc]
theorem qbh{t e:TypeId}{z len:Nat}{zs:List C}{ps:Array (Nat×Operand)}{l:List (List Seg)}(h:Sim E s a w m I)(hd:∀k,o.dst=some k->k<E.N)(ho:o.op=.buildSlice t len ps)(ht:P.underlying t=some (.slice e))(hz:sizeT P e=some z)(hz0:z≠0)
  (hsmall:len*z<=2 ^ 24) (hl0:len≠0) (hzs:zeroCells P e=some zs) (hr:cRow z len ps.toList=some l)
  (hk:rowA s.ev z l λes=>K ((s.setH (frz (es.flatMap (·.flatMap ownC)) s.h)).put o.dst (.one (.full (es.map (·.map (datC s.h))))))):Lands P E o a w K:=by
 unfold cRow at hr;split at hr
 .rename_i hparts;obtain⟨i,v,hi,hzv,hsize,rfl,hcell⟩:=Qd hzs;obtain⟨i',hi',hsz⟩:=jf hz;rw [hi]at hi';simp only [zOI]at hi';subst hi';have hlen:ps.toList.length=len:=by have:=congrArg List.length hparts;simpa using this
  have hr' : (ps.toList.mapM λ(p:Nat×Operand)=>(cOpd p.2).map λx=>[Seg.x z x])=some l:=by rw [<-hr]
  obtain⟨es,vs,acc',g1,g2,g3,g4,g5,g6⟩:=YL h z ps.toList l 0 ((Array.range (len*z)).map (v.cells[· % v.cells.size]!)) (by rw [hparts,hlen,List.range_eq_range']) hr' hk (by simp [hlen])
  simp only [Nat.zero_mul,List.take_zero,List.nil_append]at g6;have hel:es.length=len:=by rw [g4,hlen]
  obtain⟨I1,hh1,hx1,hfz⟩:=h.heap.frz (es.flatMap (·.flatMap ownC));obtain⟨hh2,hx2⟩:=hh1.push (w':=w.alloc (.cells acc' e)) rfl rfl rfl rfl;have h1:=h.move (hx1.trans hx2) hh2;have hz63:len<=maxLenA:=by
   have:len*1<=len*z:=Nat.mul_le_mul_left _ (by omega)
   unfold maxLenA;omega
  have hrc:RC m (λb=>I1 b∨b=w.heap.size) (w.alloc (.cells acc' e)).heap (.slice (es.map (·.map (datC s.h)))) (.slice (some ⟨w.heap.size,0,none⟩) (es.map (·.map (datC s.h))).length len):=by
   refine .slice _ z w.heap.size 0 len acc' e (0,0) (λi j=>(acc'[i*z+j]?).getD undef) (λe he c hc=>?_) (by simp [hel,hz63]) (by simp [hel]) (.inr rfl) (Ym w _) (λe he=>?_) (λi j hi hj=>?_) (λi j e c he hc=>?_)
   .simp only [List.mem_map]at he;obtain⟨e0,he0,rfl⟩:=he;simp only [List.mem_map]at hc;obtain⟨c0,hc0,rfl⟩:=hc;obtain⟨i,hi⟩:=List.getElem?_of_mem he0;obtain⟨j,hj⟩:=List.getElem?_of_mem hc0;obtain⟨u,_,q2⟩:=g3.2.1 i j _ _ hi hj;exact Vw q2
   .simp only [List.mem_map]at he;obtain⟨e0,he0,rfl⟩:=he;simp [g5 e0 he0]
   .have hi' : i<es.length:=by simpa using hi
    have he0:=List.getElem?_eq_getElem hi';have hj' : j<(es[i]).length:=by rw [g5 _ (List.mem_of_getElem? he0)];exact hj
    obtain⟨u,q1,q2⟩:=g3.2.1 i j _ _ he0 (List.getElem?_eq_getElem hj');have:acc'[i*z+j]?=some u:=by rw [<-Array.getElem?_toList,g6];exact q1
    simp [this]
   .simp only [List.getElem?_map,zOM]at he;obtain⟨e0,he0,rfl⟩:=he;simp only [List.getElem?_map,zOM]at hc;obtain⟨c0,hc0,rfl⟩:=hc;obtain⟨u,q1,q2⟩:=g3.2.1 i j _ _ he0 hc0;have:acc'[i*z+j]?=some u:=by rw [<-Array.getElem?_toList,g6];exact q1
    rw [this,Option.getD_some];refine(jaB h.heap hx1 q2 (λr hr b k z' hb hm=>hfz r ?_ b k z' hb hm)).ext hx2;exact List.mem_flatMap.2 ⟨e0,List.mem_of_getElem? he0,List.mem_flatMap.2 ⟨c0,List.mem_of_getElem? hc0,hr⟩⟩
  have hl2:(es.map (·.map (datC s.h))).length=len:=by simp [hel]
  rw [hl2]at hrc;have hrc2:RC m (λb=>I1 b∨b=w.heap.size) (w.alloc (.cells acc' e)).heap (.slice (es.map (·.map (datC s.h)))) (.slice (some ⟨w.heap.size,0,none⟩) (es.map (·.map (datC s.h))).length (es.map (·.map (datC s.h))).length):=by rw [hl2];exact hrc
  have hfull:=RC.full _ _ hrc2;rw [hl2]at hfull;have h2:=h1.put (d:=o.dst) (.one _ _ hfull) hd;refine Zc ?_ g2 h2;have hrun:=run_buildSlice (P:=P) w t e len (ps.map λ(p:Nat×Operand)=>(p.1,a.eval p.2)) acc' i v ht hi hzv (by rw [hsz];omega) (by rw [hsz];exact Nat.mul_ne_zero hl0 hz0) (by rw [hsz];simpa using g1)
  have:(ps.map λx=>match x with | (i,x)=>(i,a.eval x))=ps.map λ(p:Nat×Operand)=>(p.1,a.eval p.2):=by congr 1
  simp [execOp,ho,hrun]
 .simp at hr
theorem yav{t e:TypeId}{z len:Nat}{zs:List C}{ps:Array (Nat×Operand)}{l:List (List Seg)}(h:Sim E s a w m I)(hd:∀k,o.dst=some k->k<E.N)(ho:o.op=.buildSlice t len ps)(ht:P.underlying t=some (.slice e))(hz:sizeT P e=some z)(hz0:z≠0)
  (hsmall:len*z<=2 ^ 24) (hl0:len≠0) (hzs:zeroCells P e=some zs) (hr:cRow z len ps.toList=some l)
  (hk:rowA s.ev z l λes=>newA K s ⟨es,z,true⟩ (λd ver=>.one (.own d ver z 0 es.length)) o.dst):Lands P E o a w K:=by
 unfold cRow at hr;split at hr
 .rename_i hparts;obtain⟨i,v,hi,hzv,hsize,rfl,hcell⟩:=Qd hzs;obtain⟨i',hi',hsz⟩:=jf hz;rw [hi]at hi';simp only [zOI]at hi';subst hi';have hlen:ps.toList.length=len:=by have:=congrArg List.length hparts;simpa using this
  have hr' : (ps.toList.mapM λ(p:Nat×Operand)=>(cOpd p.2).map λx=>[Seg.x z x])=some l:=by rw [<-hr]
  obtain⟨es,vs,acc',g1,g2,g3,g4,g5,g6⟩:=YL h z ps.toList l 0 ((Array.range (len*z)).map (v.cells[· % v.cells.size]!)) (by rw [hparts,hlen,List.range_eq_range']) hr' hk (by simp [hlen])
  simp only [Nat.zero_mul,List.take_zero,List.nil_append]at g6;have hel:es.length=len:=by rw [g4,hlen]
  have hz63:len<=maxLenA:=by
   have:len*1<=len*z:=Nat.mul_le_mul_left _ (by omega)
   unfold maxLenA;omega
  have hrun:=run_buildSlice (P:=P) w t e len (ps.map λ(p:Nat×Operand)=>(p.1,a.eval p.2)) acc' i v ht hi hzv (by rw [hsz];omega) (by rw [hsz];exact Nat.mul_ne_zero hl0 hz0) (by rw [hsz];simpa using g1)
  have hpm:(ps.map λx=>match x with | (i,x)=>(i,a.eval x))=ps.map λ(p:Nat×Operand)=>(p.1,a.eval p.2):=by congr 1
  have hcells:∀(i j:Nat) (e:List C) (c:C),es[i]?=some e->e[j]?=some c->∃v,acc'[i*z+j]?=some v/\RC m I w.heap c v:=λi j e c he hc=>by
   obtain⟨u,q1,q2⟩:=g3.2.1 i j _ _ he hc;exact⟨u,by rw [<-Array.getElem?_toList,g6];exact q1,q2⟩
  refine qo (v:=.slice (some ⟨w.heap.size,0,none⟩) len len) (w':=w.alloc (.cells acc' e)) h hd ?_ rfl rfl rfl rfl g5 hcells (λd ver m' p1 p2=>?_) g2
  .simp [execOp,ho,hrun]
  .rw [hel];refine Zw p1 p2 hz63 (Nat.le_refl _) ?_;show _<=bsize (w.heap.push _) _;rw [uq];have hv2:vs.length=len*z:=by rw [g3.1,hel]
   have:acc'.size=vs.length:=by rw [<-Array.length_toList,g6]
   rw [this,hv2];exact Nat.le_refl _
 .simp at hr
end Go.Abs
end
