/-
  Parts of the proof, merged: WhoP, WhoX.
-/
import Derived.Test.YtfichbefnpcdeaaGreatM17
import Derived.KernelRfl
set_option linter.unusedVariables false
set_option linter.unusedSimpArgs false
set_option linter.unnecessarySimpa false
section
namespace Go.Abs.Wp
def p0:AC:=(.p [o 1 (.box 1 (.t 0)),o 2 (.alloc [(.lit (.int .i64 0)),.emp,.emp,(.lit (.int .i64 0))]),o 3 (.alloc [.z])])
def p1:AC:=(.p [o 9 (.ld none 1 false (.t 1)),o 10 (.call 333 [(.t 9)])])
def pA:AC:=(.seq (.p [o 4 (.mv (.t 11))]) (.p [o 5 (.alloc [(.lit (.int .i64 0))]),p (.st none 1 (.t 5) (.t 12))]))
def p2:AC:=(.seq (.p [o 41 (.build [.z [(.lit (.int .i64 0)),.emp,.emp,(.lit (.int .i64 0))]]),p (.st none 4 (.t 2) (.t 41)),p (.st none 1 (.t 3) (blc false))]) .ret)
def pL:List AO:=[o 13 (.ld none 1 false (.t 1)),o 14 (.mv (.t 4)),o 15 (.call 332 [(.t 13),(ic 0),(.t 14)]),o 16 (.ld none 1 false (.t 1)),o 17 (.ld none 1 false (.t 5)),o 18 (.call 332 [(.t 16),(ic 0),(.t 17)]),o 6 (.mv (.t 15)),o 7 (.mv (.t 18))]
def pR:AC:=(.seq (.p [o 19 (.ld none 1 false (.t 1)),o 20 (.mv (.t 4)),o 21 (.clo 335 [(.t 5)]),o 22 (.call 334 [(.t 19),(ic 0),(.t 20),(.t 21)]),o 8 (.mv (.t 22))]) (.seq (.p [o 23 (.mv (.t 6)),o 24 (.bin .geq (.t 23) (ic 0)),o 25 (.mv (.t 24)),⟨some 26,(some (25,true)),.mv (.t 7)⟩,⟨some 27,(some (25,true)),.bin .geq (.t 26) (ic 0)⟩,o 28 (.pick (.t 25) (.t 27) (blc false)),o 29 (.mv (.t 28)),⟨some 30,(some (29,true)),.mv (.t 8)⟩,⟨some 31,(some (29,true)),.bin .geq (.t 30) (ic 0)⟩,o 32 (.pick (.t 29) (.t 31) (blc false))]) (.cond (.t 32) (.seq (.p [o 33 (.mv (.t 4)),o 34 (.ld none 1 false (.t 5)),o 35 (.row 1 [[.x 1 (.t 33)],[.x 1 (.t 34)]]),o 36 (.mv (.t 6)),o 37 (.mv (.t 7)),o 38 (.mv (.t 8)),o 39 (.row 1 [[.x 1 (.t 36)],[.x 1 (.t 37)],[.x 1 (.t 38)]]),o 40 (.build [.x 1 (ic 1),.x 1 (.t 35),.x 1 (.t 39),.z [(.lit (.int .i64 0))]]),p (.st none 4 (.t 2) (.t 40)),p (.st none 1 (.t 3) (blc true))]) .ret) .skip)))
def pI:AC:=(.seq (.p [o 5 (.ld none 1 false (.t 1)),o 6 (.nilck (.t 5)),o 7 (.fa 0 (.t 6)),o 8 (.fa 1 (.t 7)),o 9 (.ld none 1 false (.t 8)),o 10 (.len (.t 9)),o 11 (.mv (ic 0))]) (.block 0 (.loop (.seq (.p [o 12 (.bin .lss (.t 11) (.t 10))]) (.seq (.cond (.t 12) .skip (.exit 0)) (.seq (.block 1 (.seq (.p [o 13 (.mv (.t 11)),o 3 (.mv (.t 13))]) (.seq (.p [o 14 (.mv (.t 3)),o 15 (.bin .add (.t 14) (ic 1)),o 4 (.mv (.t 15))]) (.block 2 (.loop (.seq (.seq (.p [o 16 (.mv (.t 4)),o 17 (.ld none 1 false (.t 1)),o 18 (.nilck (.t 17)),o 19 (.fa 0 (.t 18)),o 20 (.fa 1 (.t 19)),o 21 (.ld none 1 false (.t 20)),o 22 (.len (.t 21)),o 23 (.bin .lss (.t 16) (.t 22))]) (.cond (.t 23) .skip (.exit 2))) (.seq (.block 3 (.seq (.p [o 26 (.ld none 1 false (.t 1)),o 27 (.mv (.t 3)),o 28 (.call 336 [(.t 26),(.t 27)]),o 29 (.mv (.t 28)),⟨some 30,(some (29,true)),.ld none 1 false (.t 1)⟩,⟨some 31,(some (29,true)),.mv (.t 4)⟩,⟨some 32,(some (29,true)),.call 336 [(.t 30),(.t 31)]⟩,o 33 (.pick (.t 29) (.t 32) (blc false)),o 34 (.mv (.t 33)),⟨some 35,(some (34,true)),.mv (.t 0)⟩,⟨some 36,(some (34,true)),.mv (.t 3)⟩,⟨some 37,(some (34,true)),.mv (.t 4)⟩,⟨some 38,(some (34,true)),.callv (.t 35) [(.t 36),(.t 37)]⟩,⟨some 39,(some (34,true)),.un .not (.t 38)⟩,o 40 (.pick (.t 34) (.t 39) (blc false))]) (.cond (.t 40) .ret .skip))) (.p [o 24 (.mv (.t 4)),o 25 (.bin .add (.t 24) (ic 1)),o 4 (.mv (.t 25))])))))))) (.p [o 41 (.bin .add (.t 11) (ic 1)),o 11 (.mv (.t 41))])))))))
def pC:Pcs:=⟨(.ops false [o 5 (.ld none 1 false (.t 1)),o 6 (.nilck (.t 5)),o 7 (.fa 0 (.t 6)),o 8 (.fa 1 (.t 7)),o 9 (.ld none 1 false (.t 8)),o 10 (.len (.t 9)),o 11 (.mv (ic 0))]),(.ops false [o 12 (.bin .lss (.t 11) (.t 10))]),(.cond (.t 12) .skip (.exit 0)),(.ops false [o 13 (.mv (.t 11)),o 3 (.mv (.t 13))]),(.ops false [o 14 (.mv (.t 3)),o 15 (.bin .add (.t 14) (ic 1)),o 4 (.mv (.t 15))]),(.seq (.ops false [o 16 (.mv (.t 4)),o 17 (.ld none 1 false (.t 1)),o 18 (.nilck (.t 17)),o 19 (.fa 0 (.t 18)),o 20 (.fa 1 (.t 19)),o 21 (.ld none 1 false (.t 20)),o 22 (.len (.t 21)),o 23 (.bin .lss (.t 16) (.t 22))]) (.cond (.t 23) .skip (.exit 2))),(.cond (.t 40) .ret .skip),(.ops false [o 24 (.mv (.t 4)),o 25 (.bin .add (.t 24) (ic 1)),o 4 (.mv (.t 25))]),(.ops false [o 41 (.bin .add (.t 11) (ic 1)),o 11 (.mv (.t 41))]),0,1,2,3,[o 26 (.ld none 1 false (.t 1)),o 27 (.mv (.t 3)),o 28 (.call 336 [(.t 26),(.t 27)]),o 29 (.mv (.t 28)),⟨some 30,(some (29,true)),.ld none 1 false (.t 1)⟩,⟨some 31,(some (29,true)),.mv (.t 4)⟩,⟨some 32,(some (29,true)),.call 336 [(.t 30),(.t 31)]⟩,o 33 (.pick (.t 29) (.t 32) (blc false)),o 34 (.mv (.t 33)),⟨some 35,(some (34,true)),.mv (.t 0)⟩,⟨some 36,(some (34,true)),.mv (.t 3)⟩,⟨some 37,(some (34,true)),.mv (.t 4)⟩],[⟨some 39,(some (34,true)),.un .not (.t 38)⟩,o 40 (.pick (.t 34) (.t 39) (blc false))],38,34,35,36,37⟩
abbrev sA:C:=.lit (.string ⟨#[102,111,117,114,98,97,114]⟩)
abbrev sB:C:=.lit (.string ⟨#[102,114,97,109,101]⟩)
abbrev sC:C:=.lit (.string ⟨#[79]⟩)
abbrev sD:C:=.lit (.string ⟨#[81]⟩)
abbrev sE:C:=.lit (.string ⟨#[99,114,97,110,107]⟩)
abbrev sF:C:=.lit (.string ⟨#[65]⟩)
abbrev sG:C:=.lit (.string ⟨#[99,111,117,112,108,101,114]⟩)
abbrev sH:C:=.lit (.string ⟨#[66]⟩)
abbrev sI:C:=.lit (.string ⟨#[80]⟩)
abbrev sJ:C:=.lit (.string ⟨#[114,111,99,107,101,114]⟩)
abbrev sK:C:=.lit (.string ⟨#[111]⟩)
abbrev sL:C:=.lit (.string ⟨#[97]⟩)
abbrev sM:C:=.lit (.string ⟨#[98]⟩)
abbrev sN:C:=.lit (.string ⟨#[113]⟩)
abbrev sO:C:=.lit (.string ⟨#[100]⟩)
abbrev bT:C:=.lit (.bool true)
abbrev bF:C:=.lit (.bool false)
abbrev i(n:Nat):C:=.lit (.int .i64 (.ofNat n))
abbrev u(n:Nat):C:=.slice [[.lit (.int .u32 (.ofNat n))]]
abbrev wz0:C:=.slice [[sB,(.slice [[sC,bF,(.slice []),(.slice []),bF,(.slice []),(.slice [])],[sD,bF,(u 4),(u 1),bF,(.slice []),(.slice [])]])],[sE,(.slice [[sC,bF,(.slice []),(.slice []),bF,(.slice []),(.slice [])],[sF,bF,(u 1),(u 1),bF,(.slice []),(.slice [])]])],[sG,(.slice [[sF,bF,(.slice []),(.slice []),bF,(.slice []),(.slice [])],[sH,bF,(u 3),(u 1),bF,(.slice []),(.slice [])],[sI,bF,(.slice []),(.slice []),bF,(.slice []),(.slice [])]])],[sJ,(.slice [[sD,bF,(.slice []),(.slice []),bF,(.slice []),(.slice [])],[sH,bF,(u 3),(u 1),bF,(.slice []),(.slice [])]])]]
abbrev wz1:C:=.slice [[sK,(i 0),(i 1),(i 0),(i 0),(i 0),(i 0)],[sL,(i 0),(i 2),(i 0),(i 1),(i 1),(i 0)],[sM,(i 0),(i 3),(i 1),(i 2),(i 1),(i 0)],[sN,(i 0),(i 3),(i 0),(i 0),(i 1),(i 0)]]
abbrev wz2:HB:=⟨1,some ⟨[[(i 0),(.full [[(i 1)]]),(.full [[(i 0)]]),(i 0)]],4,true⟩⟩
abbrev wz3:HB:=⟨1,some ⟨[[(i 1),(.full [[(i 2)],[(i 3)]]),(.full [[(i 1)],[(i 3)],[(i 2)]]),(i 0)]],4,true⟩⟩
abbrev wz4:HB:=⟨1,some ⟨[[sK,(i 0),(i 1),(i 0),(i 0),(i 0),(i 0)]],7,true⟩⟩
abbrev wz5:HB:=⟨1,some ⟨[[(i 0),.emp,.emp,(i 0)]],4,true⟩⟩
abbrev wz6:HB:=⟨1,some ⟨[[(.clo 349 [(.lit (.agg ⟨[]⟩)),(.ptr 2055 1 0 0)])]],1,true⟩⟩
abbrev wz7:HB:=⟨1,some ⟨[[sL,(i 0),(i 2),(i 0),(i 1),(i 1),(i 0)]],7,true⟩⟩
abbrev wz8:HB:=⟨1,some ⟨[[sM,(i 0),(i 3),(i 1),(i 2),(i 1),(i 0)]],7,true⟩⟩
abbrev wz9:HB:=⟨1,some ⟨[[(.ptr 2055 1 0 0)]],1,true⟩⟩
abbrev wz10:HB:=⟨1,some ⟨[[sA,wz0,wz1,(.slice [[sO,(i 1)]])]],4,true⟩⟩
abbrev wz11:HB:=⟨2,some ⟨[[(i 0),(.slice [[(i 1)]]),(.slice [[(i 0)]]),(i 0)],[(i 1),(.slice [[(i 2)],[(i 3)]]),(.slice [[(i 1)],[(i 3)],[(i 2)]]),(i 0)]],4,true⟩⟩
abbrev wz12:HB:=⟨1,some ⟨[[sA,wz0,wz1,(.slice [[sO,(i 1)]]),(.own 2052 1 1 0 4),(.own 2053 1 1 0 4),(.own 2054 1 1 0 4),(.own 2064 2 4 0 2)]],8,true⟩⟩
abbrev wz13:HB:=⟨1,some ⟨[[sA,wz0,wz1,(.slice [[sO,(i 1)]]),(.own 2052 1 1 0 4),(.own 2053 1 1 0 4),(.own 2054 1 1 0 4),(.own 2064 1 4 0 1)]],8,true⟩⟩
abbrev wz14:HB:=⟨1,some ⟨[[sN,(i 0),(i 3),(i 0),(i 0),(i 1),(i 0)]],7,true⟩⟩
abbrev wz15:HB:=⟨1,some ⟨[[bT],[bT],[bT],[bT]],1,true⟩⟩
abbrev wz16:HB:=⟨1,some ⟨[[bF],[bT],[bF],[bF]],1,true⟩⟩
abbrev wz17:HB:=⟨1,some ⟨[[(.clo 335 [(.ptr 2073 1 0 0)])]],1,true⟩⟩
abbrev wz18:HB:=⟨1,some ⟨[[(i 0),(.slice [[(i 1)]]),(.slice [[(i 0)]]),(i 0)]],4,true⟩⟩
def ch:List C:=[sA,wz0,wz1,(.slice [[sO,(i 1)]])]
def hA:List (Nat×HB):=[(2051,wz10),(2052,⟨1,some ⟨[[bT],[bT],[bF],[bF]],1,true⟩⟩),(2053,wz16),(2054,⟨1,some ⟨[[bT],[bF],[bF],[bF]],1,true⟩⟩),(2055,wz13),(2050,⟨1,some ⟨[[sO,(i 1)]],2,true⟩⟩),(2048,wz2),(2056,wz2),(2049,⟨1,some ⟨[[sO,(i 1)]],2,true⟩⟩),(2057,⟨1,some ⟨[[(i 0)]],1,true⟩⟩),(2058,⟨1,some ⟨[[(i 1)]],1,true⟩⟩),(2059,wz6),(2060,wz4),(2061,wz2),(2062,wz2),(2064,wz18),(2065,wz2),(2063,wz5),(2066,wz5),(2067,⟨1,some ⟨[[sO,(i 1)]],2,true⟩⟩),(4,wz5)]
def hA' : List (Nat×HB):=[(2051,wz10),(2052,⟨1,some ⟨[[bT],[bT],[bF],[bF]],1,true⟩⟩),(2053,wz16),(2054,⟨1,some ⟨[[bT],[bF],[bF],[bF]],1,true⟩⟩),(2055,wz13),(2050,⟨1,some ⟨[[sO,(i 1)]],2,true⟩⟩),(2048,wz2),(2056,wz2),(2049,⟨1,some ⟨[[sO,(i 1)]],2,true⟩⟩),(2057,⟨1,some ⟨[[(i 0)]],1,true⟩⟩),(2058,⟨1,some ⟨[[(i 1)]],1,true⟩⟩),(2059,wz6),(2060,wz4),(2061,wz2),(2062,wz2),(2064,wz18),(2065,wz2),(2063,wz5),(2066,wz5),(2067,⟨1,some ⟨[[sO,(i 1)]],2,true⟩⟩),(2069,wz5),(2068,wz9),(2070,wz3),(2071,⟨1,some ⟨[[bT]],1,true⟩⟩),(2072,wz9),(2073,⟨1,some ⟨[[(i 3)]],1,true⟩⟩),(2074,⟨1,some ⟨[[(i 0)]],1,true⟩⟩),(2075,⟨1,some ⟨[[(i 2)]],1,true⟩⟩),(2076,wz6),(2077,wz4),(2078,wz7),(2079,⟨1,some ⟨[[(i 0)]],1,true⟩⟩),(2080,⟨1,some ⟨[[(i 3)]],1,true⟩⟩),(2081,wz6),(2082,wz4),(2083,wz7),(2084,wz8),(2085,wz14),(2086,⟨1,some ⟨[[(i 0)]],1,true⟩⟩),(2087,⟨1,some ⟨[[(i 2)]],1,true⟩⟩),(2088,wz17),(2089,wz4),(2090,wz7),(2091,wz8)]
def qrA:AV:=(.tup [(.agg [(i 1),(.full [[(i 2)],[(i 3)]]),(.full [[(i 1)],[(i 3)],[(i 2)]]),(i 0)]),(.one bT)])
def qA:PQ:=⟨hA,2068,[(.one (.ptr 2055 1 0 0))],qrA,[[(1,2068)],[(4,2069),(2,2070),(3,2071),(1,2072)],[(5,2073)],[(5,2074),(6,2075),(7,2076),(4,2077)],[(4,2078)],[(5,2079),(6,2080),(7,2081),(4,2082)],[(4,2083)],[(4,2084)],[(4,2085)],[(5,2086),(6,2087),(7,2088),(4,2089)],[(4,2090)],[(4,2091)]],hA',2092⟩
def hB:List (Nat×HB):=[(2051,wz10),(2052,wz15),(2053,wz16),(2054,wz15),(2055,wz12),(2050,⟨1,some ⟨[[sO,(i 1)]],2,true⟩⟩),(2048,wz2),(2056,wz2),(2049,⟨1,some ⟨[[sO,(i 1)]],2,true⟩⟩),(2057,⟨1,some ⟨[[(i 0)]],1,true⟩⟩),(2058,⟨1,some ⟨[[(i 1)]],1,true⟩⟩),(2059,wz6),(2060,wz4),(2061,wz2),(2062,wz2),(2064,wz11),(2065,wz3),(2063,wz3),(2066,wz5),(2067,⟨1,some ⟨[[sO,(i 1)]],2,true⟩⟩),(2069,wz5),(2068,wz9),(2070,wz3),(2071,⟨1,some ⟨[[bT]],1,true⟩⟩),(2072,wz9),(2073,⟨1,some ⟨[[(i 3)]],1,true⟩⟩),(2074,⟨1,some ⟨[[(i 0)]],1,true⟩⟩),(2075,⟨1,some ⟨[[(i 2)]],1,true⟩⟩),(2076,wz6),(2077,wz4),(2078,wz7),(2079,⟨1,some ⟨[[(i 0)]],1,true⟩⟩),(2080,⟨1,some ⟨[[(i 3)]],1,true⟩⟩),(2081,wz6),(2082,wz4),(2083,wz7),(2084,wz8),(2085,wz14),(2086,⟨1,some ⟨[[(i 0)]],1,true⟩⟩),(2087,⟨1,some ⟨[[(i 2)]],1,true⟩⟩),(2088,wz17),(2089,wz4),(2090,wz7),(2091,wz8),(2092,wz3),(2094,wz3),(2093,wz5),(2095,wz5),(2096,⟨1,some ⟨[[sO,(i 1)]],2,true⟩⟩),(4,wz5)]
def hB' : List (Nat×HB):=[(2051,wz10),(2052,wz15),(2053,wz16),(2054,wz15),(2055,wz12),(2050,⟨1,some ⟨[[sO,(i 1)]],2,true⟩⟩),(2048,wz2),(2056,wz2),(2049,⟨1,some ⟨[[sO,(i 1)]],2,true⟩⟩),(2057,⟨1,some ⟨[[(i 0)]],1,true⟩⟩),(2058,⟨1,some ⟨[[(i 1)]],1,true⟩⟩),(2059,wz6),(2060,wz4),(2061,wz2),(2062,wz2),(2064,wz11),(2065,wz3),(2063,wz3),(2066,wz5),(2067,⟨1,some ⟨[[sO,(i 1)]],2,true⟩⟩),(2069,wz5),(2068,wz9),(2070,wz3),(2071,⟨1,some ⟨[[bT]],1,true⟩⟩),(2072,wz9),(2073,⟨1,some ⟨[[(i 3)]],1,true⟩⟩),(2074,⟨1,some ⟨[[(i 0)]],1,true⟩⟩),(2075,⟨1,some ⟨[[(i 2)]],1,true⟩⟩),(2076,wz6),(2077,wz4),(2078,wz7),(2079,⟨1,some ⟨[[(i 0)]],1,true⟩⟩),(2080,⟨1,some ⟨[[(i 3)]],1,true⟩⟩),(2081,wz6),(2082,wz4),(2083,wz7),(2084,wz8),(2085,wz14),(2086,⟨1,some ⟨[[(i 0)]],1,true⟩⟩),(2087,⟨1,some ⟨[[(i 2)]],1,true⟩⟩),(2088,wz17),(2089,wz4),(2090,wz7),(2091,wz8),(2092,wz3),(2094,wz3),(2093,wz5),(2095,wz5),(2096,⟨1,some ⟨[[sO,(i 1)]],2,true⟩⟩),(2098,wz5),(2097,wz9),(2099,wz5),(2100,⟨1,some ⟨[[bF]],1,true⟩⟩),(2101,wz9)]
def qrB:AV:=(.tup [(.agg [(i 0),.emp,.emp,(i 0)]),(.one bF)])
def qB:PQ:=⟨hB,2097,[(.one (.ptr 2055 1 0 0))],qrB,[[(1,2097)],[(4,2098),(2,2099),(3,2100),(1,2101)]],hB',2102⟩
end Go.Abs.Wp
end
section
namespace Go.Abs.Wp
noncomputable section
def N0:Nums:=⟨[(67,.add),(66,.sub),(60,.mul),(65,.div),(44,.neg),(62,.sign),(63,.cmp),(108,.valid),(34,.of)],[180,186],228,186,291,[(210,1),(226,1),(227,1),(229,1),(228,1),(152,1),(314,1),(150,2),(230,2),(151,2),(145,2),(107,3),(153,9),(211,10),(132,17),(71,18),(131,19),(74,20),(197,20),(75,20),(73,20),(54,20),(313,20),(259,20),(188,20),(255,21),(340,24),(315,25)],[]⟩
def tb(f:Nat):=lookB f bodies
def L0:=lvE tb (baseN N0) 12
def fu:Nat:=100
def sndO{α:Type}(d:T)(x:Option (α×T)):T:=@Option.rec (α×T) (λ_=>T) d (λp=>p.2) x
def getO(d:T)(x:Option T):T:=@Option.rec T (λ_=>T) d (λp=>p) x
def nT:T:=⟨.e,[],[],0⟩
def s2(q:PQ)(v:Tr)(x:List Tr):T:=sndO nT (begRun L0 fu p0 p1 10 q.args (T.mk v x q.h q.n))
def cA:C:=.ptr 2072 1 0 0
def cB:C:=.ptr 2101 1 0 0
def iA(v:Tr)(x:List Tr)(l:Nat):T:=itS (s2 qA v x) cA l
def iB(v:Tr)(x:List Tr)(l:Nat):T:=itS (s2 qB v x) cB l
def jB(v:Tr)(x:List Tr)(l:Nat):T:=sndO nT (codeE L0 fu pI (iB v x l))
abbrev yl(l:Nat):AV:=.one (.lit (.func (.yield l) #[] #[]))
def uA(v:Tr)(x:List Tr)(l:Nat):T:=sndO nT (preRun L0 fu pC 11 12 pA (iA v x l))
def vA(v:Tr)(x:List Tr)(l:Nat):T:=gT 2 (getO nT (aosE L0 false pL (uA v x l))) id
def wA(v:Tr)(x:List Tr)(l:Nat):T:=sndO nT (codeE L0 fu pR (vA v x l))
def jA(v:Tr)(x:List Tr)(l:Nat):T:=getO nT (postRun L0 fu pC (wA v x l))
def an4:List (List Nat):=[[],[],[1,0],[],[],[0,1,2,4,3],[3,4,5,0,1,2],[6,3,4,2,1,0,5]]
def rvP:List RV:=[.cell 2 4 true,.cell 3 1 false]
end
theorem begA:(λv x=>begRun L0 fu p0 p1 10 qA.args (T.mk v x qA.h qA.n))=(λv x=>some ((350,cA),s2 qA v x)):=by kernel_rfl
theorem begB:(λv x=>begRun L0 fu p0 p1 10 qB.args (T.mk v x qB.h qB.n))=(λv x=>some ((350,cB),s2 qB v x)):=by kernel_rfl
theorem runB:(λv x l=>codeE L0 fu pI (iB v x l))=(λv x l=>some (.nrm,jB v x l)):=by kernel_rfl
theorem finB:(λv x (l:Nat)=>endRun false L0 fu p2 rvP (jB v x l))=(λv x l=>some (qB.r,T.mk (mvT qB.mv v) (mvX qB.mv x) qB.h' qB.n')):=by kernel_rfl
theorem preA:(λv x (l:Nat)=>preRun L0 fu pC 11 12 pA (iA v x l))=(λv x l=>some (yl l,uA v x l)):=by kernel_rfl
theorem allA:(λv x (l:Nat)=>allS L0 pL an4 9 [0,1,2,3,4,5,6,7] (uA v x l))=(λv x l=>some (List.replicate 40 (vA v x l))):=by kernel_rfl
theorem bodA:(λv x (l:Nat)=>codeE L0 fu pR (vA v x l))=(λv x l=>some (.ret,wA v x l)):=by kernel_rfl
theorem posA:(λv x (l:Nat)=>postRun L0 fu pC (wA v x l))=(λv x l=>some (jA v x l)):=by kernel_rfl
theorem finA:(λv x (l:Nat)=>endRun true L0 fu p2 rvP (jA v x l))=(λv x l=>some (qA.r,T.mk (mvT qA.mv v) (mvX qA.mv x) qA.h' qA.n')):=by kernel_rfl
end Go.Abs.Wp
end
