/-
  The contracts of this seat's functions, gathered.
-/
import Derived.Test.YtjggkdaangghfaaGreatChecked
import Derived.Test.YtjggkdaangghfaaGreatBits
import Derived.KernelRfl
import Derived.Test.YtjggkdaangghfaaGreatM13
set_option maxRecDepth 100000
set_option linter.unusedVariables false
namespace Go.Abs
open Go.Proofs
theorem cK133:check Tryz.prog 133=some (25,Zd.strip,[.tmp 2]):=by kernel_rfl
theorem sK133:Sound Tryz.prog 133 (.fresh 1 Vu):=by
  apply ZaF (hc:=cK133) xab <;> first | exact (rfl:@Eq Spec _ _) | skip
  all_goals decide
def L1:List (Nat×Spec):=(133,.fresh 1 Vu)::[]
theorem h1:Holds Tryz.prog (Gl L1):=qa xab sK133
theorem cK111:check Tryz.prog 111=some (14,(Yi 133).strip,[.cell 4 2 true]):=by kernel_rfl
theorem sK111:Sound Tryz.prog 111 (.dat false Wf):=by
  apply U0 (hc:=cK111) h1 <;> first | exact (rfl:@Eq Spec _ _) | skip
  all_goals decide
def L2:List (Nat×Spec):=(111,.dat false Wf)::L1
theorem h2:Holds Tryz.prog (Gl L2):=qa h1 sK111
theorem cK89:check Tryz.prog 89=some (19,(Vr 111).strip,[.cell 2 2 true]):=by kernel_rfl
theorem sK89:Sound Tryz.prog 89 (.dat false WG):=by
  apply U5 (hc:=cK89) h2 <;> first | exact (rfl:@Eq Spec _ _) | skip
  all_goals decide
def L3:List (Nat×Spec):=(89,.dat false WG)::L2
theorem h3:Holds Tryz.prog (Gl L3):=qa h2 sK89
theorem cK139:check Tryz.prog 139=some (19,ul.strip,[.tmp 2]):=by kernel_rfl
theorem sK139:Sound Tryz.prog 139 (.dat true Zk):=by
  apply qH (hc:=cK139) h3 <;> first | exact (rfl:@Eq Spec _ _) | skip
  all_goals decide
def L4:List (Nat×Spec):=(139,.dat true Zk)::L3
theorem h4:Holds Tryz.prog (Gl L4):=qa h3 sK139
theorem cK113:check Tryz.prog 113=some (8,(vp 139).strip,[.tmp 2]):=by kernel_rfl
theorem sK113:Sound Tryz.prog 113 (.dat false Uk):=by
  apply qP (hc:=cK113) h4 <;> first | exact (rfl:@Eq Spec _ _) | skip
  all_goals decide
def L5:List (Nat×Spec):=(113,.dat false Uk)::L4
theorem h5:Holds Tryz.prog (Gl L5):=qa h4 sK113
theorem cK114:check Tryz.prog 114=some (9,(Yo 139).strip,[.tmp 2]):=by kernel_rfl
theorem sK114:Sound Tryz.prog 114 (.dat true Jh):=by
  apply XJ (hc:=cK114) h5 <;> first | exact (rfl:@Eq Spec _ _) | skip
  all_goals decide
def L6:List (Nat×Spec):=(114,.dat true Jh)::L5
theorem h6:Holds Tryz.prog (Gl L6):=qa h5 sK114
theorem cK72:check Tryz.prog 72=some (9,(qj 113 114).strip,[.tmp 2]):=by kernel_rfl
theorem sK72:Sound Tryz.prog 72 (.dat true yf):=by
  apply vU (hc:=cK72) h6 <;> first | exact (rfl:@Eq Spec _ _) | skip
  all_goals decide
def L7:List (Nat×Spec):=(72,.dat true yf)::L6
theorem h7:Holds Tryz.prog (Gl L7):=qa h6 sK72
theorem cK90:check Tryz.prog 90=some (9,(Xo 114 113 111).strip,[.cell 2 2 true]):=by kernel_rfl
theorem sK90:Sound Tryz.prog 90 (.dat false vu):=by
  apply yP (hc:=cK90) h7 <;> first | exact (rfl:@Eq Spec _ _) | skip
  all_goals decide
def L8:List (Nat×Spec):=(90,.dat false vu)::L7
theorem h8:Holds Tryz.prog (Gl L8):=qa h7 sK90
theorem cK154:check Tryz.prog 154=some (14,vn.strip,[.tmp 4]):=by kernel_rfl
theorem sK154:Sound Tryz.prog 154 (.dat true wm):=by
  apply wT (hc:=cK154) h8 <;> first | exact (rfl:@Eq Spec _ _) | skip
  all_goals decide
def L9:List (Nat×Spec):=(154,.dat true wm)::L8
theorem h9:Holds Tryz.prog (Gl L9):=qa h8 sK154
theorem cK137:check Tryz.prog 137=some (21,Jk.strip,[.tmp 2]):=by kernel_rfl
theorem sK137:Sound Tryz.prog 137 (.own Xac):=by
  apply za3 (hc:=cK137) h9 <;> first | exact (rfl:@Eq Spec _ _) | skip
  all_goals decide
def L10:List (Nat×Spec):=(137,.own Xac)::L9
theorem h10:Holds Tryz.prog (Gl L10):=qa h9 sK137
theorem cK134:check Tryz.prog 134=some (26,(wh 154 137).strip,[.tmp 2]):=by kernel_rfl
theorem sK134:Sound Tryz.prog 134 (.own Yq):=by
  apply Yaj (hc:=cK134) h10 <;> first | exact (rfl:@Eq Spec _ _) | skip
  all_goals decide
def L11:List (Nat×Spec):=(134,.own Yq)::L10
theorem h11:Holds Tryz.prog (Gl L11):=qa h10 sK134
theorem cK135:check Tryz.prog 135=some (30,(Zf 154).strip,[.tmp 4]):=by kernel_rfl
theorem sK135:Sound Tryz.prog 135 (.dat true Wt):=by
  apply Jaf (hc:=cK135) h11 <;> first | exact (rfl:@Eq Spec _ _) | skip
  all_goals decide
def L12:List (Nat×Spec):=(135,.dat true Wt)::L11
theorem h12:Holds Tryz.prog (Gl L12):=qa h11 sK135
theorem cK136:check Tryz.prog 136=some (31,(Ve 154).strip,[]):=by kernel_rfl
theorem sK136:Sound Tryz.prog 136 (.own qx):=by
  apply ZaC (hc:=cK136) h12 <;> first | exact (rfl:@Eq Spec _ _) | skip
  all_goals decide
def L13:List (Nat×Spec):=(136,.own qx)::L12
theorem h13:Holds Tryz.prog (Gl L13):=qa h12 sK136
theorem cK138:check Tryz.prog 138=some (37,(wi 154 133).strip,[.tmp 4]):=by kernel_rfl
theorem sK138:Sound Tryz.prog 138 (.dat false Qr):=by
  apply Z2 (hc:=cK138) h13 <;> first | exact (rfl:@Eq Spec _ _) | skip
  all_goals decide
def L14:List (Nat×Spec):=(138,.dat false Qr)::L13
theorem h14:Holds Tryz.prog (Gl L14):=qa h13 sK138
theorem cK112:check Tryz.prog 112=some (72,(uk 133 134 135 136 137 138).strip,[.tmp 4]):=by kernel_rfl
theorem sK112:Sound Tryz.prog 112 (.dat false qy):=by
  apply zah (hc:=cK112) h14 <;> first | exact (rfl:@Eq Spec _ _) | skip
  all_goals decide
def L15:List (Nat×Spec):=(112,.dat false qy)::L14
theorem h15:Holds Tryz.prog (Gl L15):=qa h14 sK112
theorem cK69:check Tryz.prog 69=some (11,(vk 113 112 111).strip,[.cell 4 2 true]):=by kernel_rfl
theorem sK69:Sound Tryz.prog 69 (.dat false xt):=by
  apply Qae (hc:=cK69) h15 <;> first | exact (rfl:@Eq Spec _ _) | skip
  all_goals decide
def L16:List (Nat×Spec):=(69,.dat false xt)::L15
theorem h16:Holds Tryz.prog (Gl L16):=qa h15 sK69
theorem cK156:check Tryz.prog 156=some (25,xi.strip,[.tmp 2]):=by kernel_rfl
theorem sK156:Sound Tryz.prog 156 (.dat true ur):=by
  apply Yac (hc:=cK156) h16 <;> first | exact (rfl:@Eq Spec _ _) | skip
  all_goals decide
def L17:List (Nat×Spec):=(156,.dat true ur)::L16
theorem h17:Holds Tryz.prog (Gl L17):=qa h16 sK156
theorem cK147:check Tryz.prog 147=some (76,(Jg 156 135 136 133).strip,[.tmp 4,.tmp 5]):=by kernel_rfl
theorem sK147:Sound Tryz.prog 147 (.dat false Vi):=by
  apply UN (hc:=cK147) h17 <;> first | exact (rfl:@Eq Spec _ _) | skip
  all_goals decide
def L18:List (Nat×Spec):=(147,.dat false Vi)::L17
theorem h18:Holds Tryz.prog (Gl L18):=qa h17 sK147
theorem cK146:check Tryz.prog 146=some (35,(Ug 154 133).strip,[.tmp 4]):=by kernel_rfl
theorem sK146:Sound Tryz.prog 146 (.dat false vt):=by
  apply WX (hc:=cK146) h18 <;> first | exact (rfl:@Eq Spec _ _) | skip
  all_goals decide
def L19:List (Nat×Spec):=(146,.dat false vt)::L18
theorem h19:Holds Tryz.prog (Gl L19):=qa h18 sK146
theorem cK122:check Tryz.prog 122=some (45,(yk 72 113 147 114 138 146 111).strip,[.cell 4 2 true,.cell 5 2 true,.tmp 6]):=by kernel_rfl
theorem sK122:Sound Tryz.prog 122 (.dat false jr):=by
  apply Q9 (hc:=cK122) h19 <;> first | exact (rfl:@Eq Spec _ _) | skip
  all_goals decide
def L20:List (Nat×Spec):=(122,.dat false jr)::L19
theorem h20:Holds Tryz.prog (Gl L20):=qa h19 sK122
theorem cK88:check Tryz.prog 88=some (47,(yi 72 90 69 122).strip,[.cell 4 3 true]):=by kernel_rfl
theorem sK88:Sound Tryz.prog 88 (.dat false Ui):=by
  apply yU (hc:=cK88) h20 <;> first | exact (rfl:@Eq Spec _ _) | skip
  all_goals decide
def L21:List (Nat×Spec):=(88,.dat false Ui)::L20
theorem h21:Holds Tryz.prog (Gl L21):=qa h20 sK88
theorem cK94:check Tryz.prog 94=some (13,(Xi 72 88).strip,[.cell 4 3 true,.tmp 5]):=by kernel_rfl
theorem sK94:Sound Tryz.prog 94 (.dat false xr):=by
  apply kae (hc:=cK94) h21 <;> first | exact (rfl:@Eq Spec _ _) | skip
  all_goals decide
def L22:List (Nat×Spec):=(94,.dat false xr)::L21
theorem h22:Holds Tryz.prog (Gl L22):=qa h21 sK94
theorem cK45:check Tryz.prog 45=some (13,(wj 89 94).strip,[.cell 4 3 true,.tmp 5]):=by kernel_rfl
theorem sK45:Sound Tryz.prog 45 (.dat false vy):=by
  apply wae (hc:=cK45) h22 <;> first | exact (rfl:@Eq Spec _ _) | skip
  all_goals decide
def L23:List (Nat×Spec):=(45,.dat false vy)::L22
theorem h23:Holds Tryz.prog (Gl L23):=qa h22 sK45
theorem cK70:check Tryz.prog 70=some (2,(kn 89).strip,[.cell 0 2 true]):=by kernel_rfl
theorem sK70:Sound Tryz.prog 70 (.dat false zr):=by
  apply ZS (hc:=cK70) h23 <;> first | exact (rfl:@Eq Spec _ _) | skip
  all_goals decide
def L24:List (Nat×Spec):=(70,.dat false zr)::L23
theorem h24:Holds Tryz.prog (Gl L24):=qa h23 sK70
theorem cK39:check Tryz.prog 39=some (7,(Uo 89 70 88).strip,[.cell 2 3 true]):=by kernel_rfl
theorem sK39:Sound Tryz.prog 39 (.dat false ju):=by
  apply X3 (hc:=cK39) h24 <;> first | exact (rfl:@Eq Spec _ _) | skip
  all_goals decide
def L25:List (Nat×Spec):=(39,.dat false ju)::L24
theorem h25:Holds Tryz.prog (Gl L25):=qa h24 sK39
theorem cK16:check Tryz.prog 16=some (10,(qm 39).strip,[.cell 4 6 true]):=by kernel_rfl
theorem sK16:Sound Tryz.prog 16 (.dat false zO):=by
  apply vaL (hc:=cK16) h25 <;> first | exact (rfl:@Eq Spec _ _) | skip
  all_goals decide
def L26:List (Nat×Spec):=(16,.dat false zO)::L25
theorem h26:Holds Tryz.prog (Gl L26):=qa h25 sK16
theorem cK15:check Tryz.prog 15=some (15,(jf 45 39 16).strip,[.cell 0 27 true]):=by kernel_rfl
theorem sK15:Sound Tryz.prog 15 (.dat false UB):=by
  apply WaF (hc:=cK15) h26 <;> first | exact (rfl:@Eq Spec _ _) | skip
  all_goals decide
def L27:List (Nat×Spec):=(15,.dat false UB)::L26
theorem h27:Holds Tryz.prog (Gl L27):=qa h26 sK15
theorem cK74:check Tryz.prog 74=some (19,ul.strip,[.tmp 2]):=by kernel_rfl
theorem sK74:Sound Tryz.prog 74 (.dat true Zk):=by
  apply qH (hc:=cK74) h27 <;> first | exact (rfl:@Eq Spec _ _) | skip
  all_goals decide
def L28:List (Nat×Spec):=(74,.dat true Zk)::L27
theorem h28:Holds Tryz.prog (Gl L28):=qa h27 sK74
theorem cK109:check Tryz.prog 109=some (8,(vp 74).strip,[.tmp 2]):=by kernel_rfl
theorem sK109:Sound Tryz.prog 109 (.dat false Uk):=by
  apply qP (hc:=cK109) h28 <;> first | exact (rfl:@Eq Spec _ _) | skip
  all_goals decide
def L29:List (Nat×Spec):=(109,.dat false Uk)::L28
theorem h29:Holds Tryz.prog (Gl L29):=qa h28 sK109
theorem cK115:check Tryz.prog 115=some (41,xm.strip,[.tmp 4]):=by kernel_rfl
theorem sK115:Sound Tryz.prog 115 (.dat false Zj):=by
  apply ZX (hc:=cK115) h29 <;> first | exact (rfl:@Eq Spec _ _) | skip
  all_goals decide
def L30:List (Nat×Spec):=(115,.dat false Zj)::L29
theorem h30:Holds Tryz.prog (Gl L30):=qa h29 sK115
theorem cK132:check Tryz.prog 132=some (25,Zu.strip,[.tmp 2]):=by kernel_rfl
theorem sK132:Sound Tryz.prog 132 (.dat false yt):=by
  apply waD (hc:=cK132) h30 <;> first | exact (rfl:@Eq Spec _ _) | skip
  all_goals decide
def L31:List (Nat×Spec):=(132,.dat false yt)::L30
theorem h31:Holds Tryz.prog (Gl L31):=qa h30 sK132
theorem cK140:check Tryz.prog 140=some (43,(uq 132).strip,[.tmp 4,.tmp 5]):=by kernel_rfl
theorem sK140:Sound Tryz.prog 140 (.dat false kx):=by
  apply Yai (hc:=cK140) h31 <;> first | exact (rfl:@Eq Spec _ _) | skip
  all_goals decide
def L32:List (Nat×Spec):=(140,.dat false kx)::L31
theorem h32:Holds Tryz.prog (Gl L32):=qa h31 sK140
theorem sK141:Sound Tryz.prog 141 (.dat true lz_G):=VaX (Zx Tryz.func141 (by kernel_rfl) (by kernel_rfl)) jbn jbB Tryz.bits_LeadingZeros32
def L33:List (Nat×Spec):=(141,.dat true lz_G)::L32
theorem h33:Holds Tryz.prog (Gl L33):=qa h32 sK141
theorem cK142:check Tryz.prog 142=some (41,xy.strip,[.tmp 4]):=by kernel_rfl
theorem sK142:Sound Tryz.prog 142 (.fresh 1 up_G):=by
  apply Qa7 (hc:=cK142) h33 <;> first | exact (rfl:@Eq Spec _ _) | skip
  all_goals decide
def L34:List (Nat×Spec):=(142,.fresh 1 up_G)::L33
theorem h34:Holds Tryz.prog (Gl L34):=qa h33 sK142
theorem cK150:check Tryz.prog 150=some (14,vn.strip,[.tmp 4]):=by kernel_rfl
theorem sK150:Sound Tryz.prog 150 (.dat true wm):=by
  apply wT (hc:=cK150) h34 <;> first | exact (rfl:@Eq Spec _ _) | skip
  all_goals decide
def L35:List (Nat×Spec):=(150,.dat true wm)::L34
theorem h35:Holds Tryz.prog (Gl L35):=qa h34 sK150
theorem cK143:check Tryz.prog 143=some (46,(Qo 150).strip,[.tmp 6]):=by kernel_rfl
theorem sK143:Sound Tryz.prog 143 (.own Vs):=by
  apply W8 (hc:=cK143) h35 <;> first | exact (rfl:@Eq Spec _ _) | skip
  all_goals decide
def L36:List (Nat×Spec):=(143,.own Vs)::L35
theorem h36:Holds Tryz.prog (Gl L36):=qa h35 sK143
theorem cK144:check Tryz.prog 144=some (30,(ut 150).strip,[]):=by kernel_rfl
theorem sK144:Sound Tryz.prog 144 (.own yE):=by
  apply JaC (hc:=cK144) h36 <;> first | exact (rfl:@Eq Spec _ _) | skip
  all_goals decide
def L37:List (Nat×Spec):=(144,.own yE)::L36
theorem h37:Holds Tryz.prog (Gl L37):=qa h36 sK144
theorem cK145:check Tryz.prog 145=some (35,(Us 150 132).strip,[.tmp 4]):=by kernel_rfl
theorem sK145:Sound Tryz.prog 145 (.dat false ZD):=by
  apply uaD (hc:=cK145) h37 <;> first | exact (rfl:@Eq Spec _ _) | skip
  all_goals decide
def L38:List (Nat×Spec):=(145,.dat false ZD)::L37
theorem h38:Holds Tryz.prog (Gl L38):=qa h37 sK145
theorem cK116:check Tryz.prog 116=some (158,(yj 115 132 140 141 142 143 144 145).strip,[.tmp 4,.tmp 5]):=by kernel_rfl
theorem sK116:Sound Tryz.prog 116 (.dat false Vi):=by
  apply Wad (hc:=cK116) h38 <;> first | exact (rfl:@Eq Spec _ _) | skip
  all_goals decide
def L39:List (Nat×Spec):=(116,.dat false Vi)::L38
theorem h39:Holds Tryz.prog (Gl L39):=qa h38 sK116
theorem cK106:check Tryz.prog 106=some (15,(Jq 132).strip,[.cell 4 2 true]):=by kernel_rfl
theorem sK106:Sound Tryz.prog 106 (.dat false Wf):=by
  apply qai (hc:=cK106) h39 <;> first | exact (rfl:@Eq Spec _ _) | skip
  all_goals decide
def L40:List (Nat×Spec):=(106,.dat false Wf)::L39
theorem h40:Holds Tryz.prog (Gl L40):=qa h39 sK106
theorem cK76:check Tryz.prog 76=some (26,(Wv 109 116 106).strip,[.cell 4 2 true]):=by kernel_rfl
theorem sK76:Sound Tryz.prog 76 (.dat false xt):=by
  apply VaE (hc:=cK76) h40 <;> first | exact (rfl:@Eq Spec _ _) | skip
  all_goals decide
def L41:List (Nat×Spec):=(76,.dat false xt)::L40
theorem h41:Holds Tryz.prog (Gl L41):=qa h40 sK76
theorem cK65:check Tryz.prog 65=some (19,(Vr 106).strip,[.cell 2 2 true]):=by kernel_rfl
theorem sK65:Sound Tryz.prog 65 (.dat false WG):=by
  apply U5 (hc:=cK65) h41 <;> first | exact (rfl:@Eq Spec _ _) | skip
  all_goals decide
def L42:List (Nat×Spec):=(65,.dat false WG)::L41
theorem h42:Holds Tryz.prog (Gl L42):=qa h41 sK65
theorem cK66:check Tryz.prog 66=some (2,(kn 65).strip,[.cell 0 2 true]):=by kernel_rfl
theorem sK66:Sound Tryz.prog 66 (.dat false zr):=by
  apply ZS (hc:=cK66) h42 <;> first | exact (rfl:@Eq Spec _ _) | skip
  all_goals decide
def L43:List (Nat×Spec):=(66,.dat false zr)::L42
theorem h43:Holds Tryz.prog (Gl L43):=qa h42 sK66
theorem cK77:check Tryz.prog 77=some (11,(jt 109).strip,[.tmp 2]):=by kernel_rfl
theorem sK77:Sound Tryz.prog 77 (.dat true yf):=by
  apply Jak (hc:=cK77) h43 <;> first | exact (rfl:@Eq Spec _ _) | skip
  all_goals decide
def L44:List (Nat×Spec):=(77,.dat true yf)::L43
theorem h44:Holds Tryz.prog (Gl L44):=qa h43 sK77
theorem cK107:check Tryz.prog 107=some (9,(Yo 74).strip,[.tmp 2]):=by kernel_rfl
theorem sK107:Sound Tryz.prog 107 (.dat true Jh):=by
  apply XJ (hc:=cK107) h44 <;> first | exact (rfl:@Eq Spec _ _) | skip
  all_goals decide
def L45:List (Nat×Spec):=(107,.dat true Jh)::L44
theorem h45:Holds Tryz.prog (Gl L45):=qa h44 sK107
theorem cK75:check Tryz.prog 75=some (28,(yv 77 109 115 107).strip,[.tmp 4]):=by kernel_rfl
theorem sK75:Sound Tryz.prog 75 (.dat true wB):=by
  apply kaD (hc:=cK75) h45 <;> first | exact (rfl:@Eq Spec _ _) | skip
  all_goals decide
def L46:List (Nat×Spec):=(75,.dat true wB)::L45
theorem h46:Holds Tryz.prog (Gl L46):=qa h45 sK75
theorem cK32:check Tryz.prog 32=some (50,(Vo 74 76 66 75).strip,[.tmp 2]):=by kernel_rfl
theorem sK32:Sound Tryz.prog 32 (.dat true qe):=by
  apply J0 (hc:=cK32) h46 <;> first | exact (rfl:@Eq Spec _ _) | skip
  all_goals decide
def L47:List (Nat×Spec):=(32,.dat true qe)::L46
theorem h47:Holds Tryz.prog (Gl L47):=qa h46 sK32
theorem cK31:check Tryz.prog 31=some (11,(kg 32).strip,[.tmp 2]):=by kernel_rfl
theorem sK31:Sound Tryz.prog 31 (.dat true xj):=by
  apply UG (hc:=cK31) h47 <;> first | exact (rfl:@Eq Spec _ _) | skip
  all_goals decide
def L48:List (Nat×Spec):=(31,.dat true xj)::L47
theorem h48:Holds Tryz.prog (Gl L48):=qa h47 sK31
theorem cK62:check Tryz.prog 62=some (28,(Wo 32 66).strip,[.cell 2 2 true,.cell 3 2 true]):=by kernel_rfl
theorem sK62:Sound Tryz.prog 62 (.dat false ke):=by
  apply vaa (hc:=cK62) h48 <;> first | exact (rfl:@Eq Spec _ _) | skip
  all_goals decide
def L49:List (Nat×Spec):=(62,.dat false ke)::L48
theorem h49:Holds Tryz.prog (Gl L49):=qa h48 sK62
theorem cK33:check Tryz.prog 33=some (12,(xl 62 77).strip,[.tmp 2]):=by kernel_rfl
theorem sK33:Sound Tryz.prog 33 (.dat true Vh):=by
  apply kI (hc:=cK33) h49 <;> first | exact (rfl:@Eq Spec _ _) | skip
  all_goals decide
def L50:List (Nat×Spec):=(33,.dat true Vh)::L49
theorem h50:Holds Tryz.prog (Gl L50):=qa h49 sK33
theorem cK108:check Tryz.prog 108=some (67,(Xq 132).strip,[.tmp 4]):=by kernel_rfl
theorem sK108:Sound Tryz.prog 108 (.dat false Qq):=by
  apply qak (hc:=cK108) h50 <;> first | exact (rfl:@Eq Spec _ _) | skip
  all_goals decide
def L51:List (Nat×Spec):=(108,.dat false Qq)::L50
theorem h51:Holds Tryz.prog (Gl L51):=qa h50 sK108
theorem cK64:check Tryz.prog 64=some (16,(Zp 107 109 108 106).strip,[.cell 4 2 true]):=by kernel_rfl
theorem sK64:Sound Tryz.prog 64 (.dat false Xu):=by
  apply yT (hc:=cK64) h51 <;> first | exact (rfl:@Eq Spec _ _) | skip
  all_goals decide
def L52:List (Nat×Spec):=(64,.dat false Xu)::L51
theorem h52:Holds Tryz.prog (Gl L52):=qa h51 sK64
theorem cK34:check Tryz.prog 34=some (26,(qu 62 64 75).strip,[.tmp 4]):=by kernel_rfl
theorem sK34:Sound Tryz.prog 34 (.dat true jk):=by
  apply yaf (hc:=cK34) h52 <;> first | exact (rfl:@Eq Spec _ _) | skip
  all_goals decide
def L53:List (Nat×Spec):=(34,.dat true jk)::L52
theorem h53:Holds Tryz.prog (Gl L53):=qa h52 sK34
theorem cK10:check Tryz.prog 10=some (75,(Wg 31 32 33 34 68).strip,[.tmp 2]):=by kernel_rfl
theorem sK10:Sound Tryz.prog 10 (.dat false (Xy 68)):=by
  apply zaC (hc:=cK10) h53 <;> first | exact (rfl:@Eq Spec _ _) | skip
  all_goals decide
def L54:List (Nat×Spec):=(10,.dat false (Xy 68))::L53
theorem h54:Holds Tryz.prog (Gl L54):=qa h53 sK10
theorem cK43:check Tryz.prog 43=some (24,(yl 10 31 68).strip,[.tmp 4]):=by kernel_rfl
theorem sK43:Sound Tryz.prog 43 (.dat false (Yv 68)):=by
  apply uah (hc:=cK43) h54 <;> first | exact (rfl:@Eq Spec _ _) | skip
  all_goals decide
def L55:List (Nat×Spec):=(43,.dat false (Yv 68))::L54
theorem h55:Holds Tryz.prog (Gl L55):=qa h54 sK43
theorem cK95:check Tryz.prog 95=some (9,(Xo 107 109 106).strip,[.cell 2 2 true]):=by kernel_rfl
theorem sK95:Sound Tryz.prog 95 (.dat false vu):=by
  apply yP (hc:=cK95) h55 <;> first | exact (rfl:@Eq Spec _ _) | skip
  all_goals decide
def L56:List (Nat×Spec):=(95,.dat false vu)::L55
theorem h56:Holds Tryz.prog (Gl L56):=qa h55 sK95
theorem cK126:check Tryz.prog 126=some (39,(Xt 150 132).strip,[.tmp 4]):=by kernel_rfl
theorem sK126:Sound Tryz.prog 126 (.dat false Qr):=by
  apply ZaB (hc:=cK126) h56 <;> first | exact (rfl:@Eq Spec _ _) | skip
  all_goals decide
def L57:List (Nat×Spec):=(126,.dat false Qr)::L56
theorem h57:Holds Tryz.prog (Gl L57):=qa h56 sK126
theorem cK127:check Tryz.prog 127=some (38,(Xs 150 132).strip,[.tmp 4]):=by kernel_rfl
theorem sK127:Sound Tryz.prog 127 (.dat false vt):=by
  apply QaD (hc:=cK127) h57 <;> first | exact (rfl:@Eq Spec _ _) | skip
  all_goals decide
def L58:List (Nat×Spec):=(127,.dat false vt)::L57
theorem h58:Holds Tryz.prog (Gl L58):=qa h57 sK127
theorem cK105:check Tryz.prog 105=some (47,(Vv 109 116 107 126 127 106 68).strip,[.cell 4 2 true,.cell 5 2 true,.tmp 6]):=by kernel_rfl
theorem sK105:Sound Tryz.prog 105 (.dat false ZF):=by
  apply jaE (hc:=cK105) h58 <;> first | exact (rfl:@Eq Spec _ _) | skip
  all_goals decide
def L59:List (Nat×Spec):=(105,.dat false ZF)::L58
theorem h59:Holds Tryz.prog (Gl L59):=qa h58 sK105
theorem cK63:check Tryz.prog 63=some (47,(Vq 77 95 76 105).strip,[.cell 4 3 true]):=by kernel_rfl
theorem sK63:Sound Tryz.prog 63 (.dat false Ui):=by
  apply zag (hc:=cK63) h59 <;> first | exact (rfl:@Eq Spec _ _) | skip
  all_goals decide
def L60:List (Nat×Spec):=(63,.dat false Ui)::L59
theorem h60:Holds Tryz.prog (Gl L60):=qa h59 sK63
theorem cK25:check Tryz.prog 25=some (7,(Uo 65 66 63).strip,[.cell 2 3 true]):=by kernel_rfl
theorem sK25:Sound Tryz.prog 25 (.dat false ju):=by
  apply X3 (hc:=cK25) h60 <;> first | exact (rfl:@Eq Spec _ _) | skip
  all_goals decide
def L61:List (Nat×Spec):=(25,.dat false ju)::L60
theorem h61:Holds Tryz.prog (Gl L61):=qa h60 sK25
theorem cK49:check Tryz.prog 49=some (14,(Qn 62 95 63).strip,[.cell 2 3 true]):=by kernel_rfl
theorem sK49:Sound Tryz.prog 49 (.dat false Xp):=by
  apply qS (hc:=cK49) h61 <;> first | exact (rfl:@Eq Spec _ _) | skip
  all_goals decide
def L62:List (Nat×Spec):=(49,.dat false Xp)::L61
theorem h62:Holds Tryz.prog (Gl L62):=qa h61 sK49
theorem cK124:check Tryz.prog 124=some (29,vq.strip,[.tmp 2]):=by kernel_rfl
theorem sK124:Sound Tryz.prog 124 (.dat true jl):=by
  apply YY (hc:=cK124) h62 <;> first | exact (rfl:@Eq Spec _ _) | skip
  all_goals decide
def L63:List (Nat×Spec):=(124,.dat true jl)::L62
theorem h63:Holds Tryz.prog (Gl L63):=qa h62 sK124
theorem cK102:check Tryz.prog 102=some (8,We.strip,[.tmp 2]):=by kernel_rfl
theorem sK102:Sound Tryz.prog 102 (.fresh 5 uo):=by
  apply Zac (hc:=cK102) h63 <;> first | exact (rfl:@Eq Spec _ _) | skip
  all_goals decide
def L64:List (Nat×Spec):=(102,.fresh 5 uo)::L63
theorem h64:Holds Tryz.prog (Gl L64):=qa h63 sK102
theorem cK157:check Tryz.prog 157=some (6,vv.strip,[.tmp 2]):=by kernel_rfl
theorem sK157:Sound Tryz.prog 157 (.dat true jD):=by
  apply qaG (hc:=cK157) h64 <;> first | exact (rfl:@Eq Spec _ _) | skip
  all_goals decide
def L65:List (Nat×Spec):=(157,.dat true jD)::L64
theorem h65:Holds Tryz.prog (Gl L65):=qa h64 sK157
theorem cK149:check Tryz.prog 149=some (20,(wg 157).strip,[.tmp 4]):=by kernel_rfl
theorem sK149:Sound Tryz.prog 149 (.dat true qE):=by
  apply jaD (hc:=cK149) h65 <;> first | exact (rfl:@Eq Spec _ _) | skip
  all_goals decide
def L66:List (Nat×Spec):=(149,.dat true qE)::L65
theorem h66:Holds Tryz.prog (Gl L66):=qa h65 sK149
theorem cK148:check Tryz.prog 148=some (18,uC.strip,[.tmp 2]):=by kernel_rfl
theorem sK148:Sound Tryz.prog 148 (.dat true XU):=by
  apply JaO (hc:=cK148) h66 <;> first | exact (rfl:@Eq Spec _ _) | skip
  all_goals decide
def L67:List (Nat×Spec):=(148,.dat true XU)::L66
theorem h67:Holds Tryz.prog (Gl L67):=qa h66 sK148
theorem cK125:check Tryz.prog 125=some (23,(Ut 149 148).strip,[.tmp 4]):=by kernel_rfl
theorem sK125:Sound Tryz.prog 125 (.dat true Uw):=by
  apply wZ (hc:=cK125) h67 <;> first | exact (rfl:@Eq Spec _ _) | skip
  all_goals decide
def L68:List (Nat×Spec):=(125,.dat true Uw)::L67
theorem h68:Holds Tryz.prog (Gl L68):=qa h67 sK125
theorem cK158:check Tryz.prog 158=some (53,xc.strip,[]):=by kernel_rfl
theorem sK158:Sound Tryz.prog 158 (.own (XD 125)):=by
  apply UaA (hc:=cK158) h68 <;> first | exact (rfl:@Eq Spec _ _) | skip
  all_goals decide
def L69:List (Nat×Spec):=(158,.own (XD 125))::L68
theorem h69:Holds Tryz.prog (Gl L69):=qa h68 sK158
theorem cK161:check Tryz.prog 161=some (38,vd.strip,[]):=by kernel_rfl
theorem sK161:Sound Tryz.prog 161 (.own (yB 125)):=by
  apply qaC (hc:=cK161) h69 <;> first | exact (rfl:@Eq Spec _ _) | skip
  all_goals decide
def L70:List (Nat×Spec):=(161,.own (yB 125))::L69
theorem h70:Holds Tryz.prog (Gl L70):=qa h69 sK161
theorem cK160:check Tryz.prog 160=some (58,(je 161).strip,[]):=by kernel_rfl
theorem sK160:Sound Tryz.prog 160 (.own (uE 125)):=by
  apply VaG (hc:=cK160) h70 <;> first | exact (rfl:@Eq Spec _ _) | skip
  all_goals decide
def L71:List (Nat×Spec):=(160,.own (uE 125))::L70
theorem h71:Holds Tryz.prog (Gl L71):=qa h70 sK160
theorem cK159:check Tryz.prog 159=some (220,(jb 160 159).strip,[]):=by kernel_rfl
theorem sK159:Sound Tryz.prog 159 (.own (ki 125 10000)):=by
  apply vV (hc:=cK159) h71 <;> first | exact (rfl:@Eq Spec _ _) | skip
  all_goals decide
def L72:List (Nat×Spec):=(159,.own (ki 125 10000))::L71
theorem h72:Holds Tryz.prog (Gl L72):=qa h71 sK159
theorem cK152:check Tryz.prog 152=some (63,(Qe 158 159).strip,[]):=by kernel_rfl
theorem sK152:Sound Tryz.prog 152 (.own (QA 125 10000)):=by
  apply xal (hc:=cK152) h72 <;> first | exact (rfl:@Eq Spec _ _) | skip
  all_goals decide
def L73:List (Nat×Spec):=(152,.own (QA 125 10000))::L72
theorem h73:Holds Tryz.prog (Gl L73):=qa h72 sK152
theorem cK129:check Tryz.prog 129=some (9,(ud 152).strip,[]):=by kernel_rfl
theorem sK129:Sound Tryz.prog 129 (.own (Zv 125 10000)):=by
  apply kag (hc:=cK129) h73 <;> first | exact (rfl:@Eq Spec _ _) | skip
  all_goals decide
def L74:List (Nat×Spec):=(129,.own (Zv 125 10000))::L73
theorem h74:Holds Tryz.prog (Gl L74):=qa h73 sK129
theorem cK96:check Tryz.prog 96=some (40,(qw 109 107 126 106 115 127).strip,[.cell 4 2 true]):=by kernel_rfl
theorem sK96:Sound Tryz.prog 96 (.dat false Jx):=by
  apply QaC (hc:=cK96) h74 <;> first | exact (rfl:@Eq Spec _ _) | skip
  all_goals decide
def L75:List (Nat×Spec):=(96,.dat false Jx)::L74
theorem h75:Holds Tryz.prog (Gl L75):=qa h74 sK96
theorem cK50:check Tryz.prog 50=some (30,(Um 62 64 96 63).strip,[.cell 4 3 true]):=by kernel_rfl
theorem sK50:Sound Tryz.prog 50 (.dat false Ql):=by
  apply vS (hc:=cK50) h75 <;> first | exact (rfl:@Eq Spec _ _) | skip
  all_goals decide
def L76:List (Nat×Spec):=(50,.dat false Ql)::L75
theorem h76:Holds Tryz.prog (Gl L76):=qa h75 sK50
theorem cK131:check Tryz.prog 131=some (7,(Yt 33).strip,[.tmp 2]):=by kernel_rfl
theorem sK131:Sound Tryz.prog 131 (.dat true YB):=by
  apply xaC (hc:=cK131) h76 <;> first | exact (rfl:@Eq Spec _ _) | skip
  all_goals decide
def L77:List (Nat×Spec):=(131,.dat true YB)::L76
theorem h77:Holds Tryz.prog (Gl L77):=qa h76 sK131
theorem cK153:check Tryz.prog 153=some (19,Xh.strip,[.tmp 4]):=by kernel_rfl
theorem sK153:Sound Tryz.prog 153 (.dat true (JF 131)):=by
  apply UaE (hc:=cK153) h77 <;> first | exact (rfl:@Eq Spec _ _) | skip
  all_goals decide
def L78:List (Nat×Spec):=(153,.dat true (JF 131))::L77
theorem h78:Holds Tryz.prog (Gl L78):=qa h77 sK153
theorem cK130:check Tryz.prog 130=some (42,(Xc 153).strip,[.tmp 4]):=by kernel_rfl
theorem sK130:Sound Tryz.prog 130 (.own (vD 131)):=by
  apply waE (hc:=cK130) h78 <;> first | exact (rfl:@Eq Spec _ _) | skip
  all_goals decide
def L79:List (Nat×Spec):=(130,.own (vD 131))::L78
theorem h79:Holds Tryz.prog (Gl L79):=qa h78 sK130
theorem cK101:check Tryz.prog 101=some (60,(Yy 102 129 125 50 130 131).strip,[.tmp 2]):=by kernel_rfl
theorem sK101:Sound Tryz.prog 101 (.dat false (yw 10000)):=by
  apply yaG (hc:=cK101) h79 <;> first | exact (rfl:@Eq Spec _ _) | skip
  all_goals decide
def L80:List (Nat×Spec):=(101,.dat false (yw 10000))::L79
theorem h80:Holds Tryz.prog (Gl L80):=qa h79 sK101
theorem cK98:check Tryz.prog 98=some (28,(xo 124 32 101 68).strip,[.tmp 2,.tmp 3]):=by kernel_rfl
theorem sK98:Sound Tryz.prog 98 (.dat false (Uv 68)):=by
  apply Zaj (hc:=cK98) h80 <;> first | exact (rfl:@Eq Spec _ _) | skip
  all_goals decide
def L81:List (Nat×Spec):=(98,.dat false (Uv 68))::L80
theorem h81:Holds Tryz.prog (Gl L81):=qa h80 sK98
theorem cK58:check Tryz.prog 58=some (17,kf.strip,[.tmp 6]):=by kernel_rfl
theorem sK58:Sound Tryz.prog 58 (.red jn):=by
  apply wak (hc:=cK58) h81 <;> first | exact (rfl:@Eq Spec _ _) | skip
  all_goals decide
def L82:List (Nat×Spec):=(58,.red jn)::L81
theorem h82:Holds Tryz.prog (Gl L82):=qa h81 sK58
theorem cK54:check Tryz.prog 54=some (23,(Uc 25 49 98 58).strip,[.tmp 6]):=by kernel_rfl
theorem sK54:Sound Tryz.prog 54 (.red WF):=by
  apply UaF (hc:=cK54) h82 <;> first | exact (rfl:@Eq Spec _ _) | skip
  all_goals decide
def L83:List (Nat×Spec):=(54,.red WF)::L82
theorem h83:Holds Tryz.prog (Gl L83):=qa h82 sK54
theorem cK47:check Tryz.prog 47=some (9,(Wn 49 50).strip,[.cell 4 3 true]):=by kernel_rfl
theorem sK47:Sound Tryz.prog 47 (.dat false xp):=by
  apply UP (hc:=cK47) h83 <;> first | exact (rfl:@Eq Spec _ _) | skip
  all_goals decide
def L84:List (Nat×Spec):=(47,.dat false xp)::L83
theorem h84:Holds Tryz.prog (Gl L84):=qa h83 sK47
theorem cK92:check Tryz.prog 92=some (48,(yn 124 32 33 125 68).strip,[.tmp 2]):=by kernel_rfl
theorem sK92:Sound Tryz.prog 92 (.dat false (ym 68)):=by
  apply X7 (hc:=cK92) h84 <;> first | exact (rfl:@Eq Spec _ _) | skip
  all_goals decide
def L85:List (Nat×Spec):=(92,.dat false (ym 68))::L84
theorem h85:Holds Tryz.prog (Gl L85):=qa h84 sK92
theorem cK24:check Tryz.prog 24=some (26,(Yn 62 64 63).strip,[.cell 4 3 true]):=by kernel_rfl
theorem sK24:Sound Tryz.prog 24 (.dat false xg):=by
  apply wS (hc:=cK24) h85 <;> first | exact (rfl:@Eq Spec _ _) | skip
  all_goals decide
def L86:List (Nat×Spec):=(24,.dat false xg)::L85
theorem h86:Holds Tryz.prog (Gl L86):=qa h85 sK24
theorem cK103:check Tryz.prog 103=some (28,(wt 24).strip,[.tmp 4]):=by kernel_rfl
theorem sK103:Sound Tryz.prog 103 (.dat false uB):=by
  apply JaB (hc:=cK103) h86 <;> first | exact (rfl:@Eq Spec _ _) | skip
  all_goals decide
def L87:List (Nat×Spec):=(103,.dat false uB)::L86
theorem h87:Holds Tryz.prog (Gl L87):=qa h86 sK103
theorem cK61:check Tryz.prog 61=some (16,(Xn 92 103 101).strip,[.tmp 4,.tmp 5]):=by kernel_rfl
theorem sK61:Sound Tryz.prog 61 (.dat false (Xr 68)):=by
  apply Q4 (hc:=cK61) h87 <;> first | exact (rfl:@Eq Spec _ _) | skip
  all_goals decide
def L88:List (Nat×Spec):=(61,.dat false (Xr 68))::L87
theorem h88:Holds Tryz.prog (Gl L88):=qa h87 sK61
theorem cK23:check Tryz.prog 23=some (14,(Xe 61 58).strip,[.tmp 6]):=by kernel_rfl
theorem sK23:Sound Tryz.prog 23 (.red Jp):=by
  apply W9 (hc:=cK23) h88 <;> first | exact (rfl:@Eq Spec _ _) | skip
  all_goals decide
def L89:List (Nat×Spec):=(23,.red Jp)::L88
theorem h89:Holds Tryz.prog (Gl L89):=qa h88 sK23
theorem cK100:check Tryz.prog 100=some (18,(Wq 92).strip,[.tmp 2]):=by kernel_rfl
theorem sK100:Sound Tryz.prog 100 (.dat false (kj 68)):=by
  apply WU (hc:=cK100) h89 <;> first | exact (rfl:@Eq Spec _ _) | skip
  all_goals decide
def L90:List (Nat×Spec):=(100,.dat false (kj 68))::L89
theorem h90:Holds Tryz.prog (Gl L90):=qa h89 sK100
theorem cK59:check Tryz.prog 59=some (21,(vr 100 102 25 103 101).strip,[.tmp 4,.tmp 5]):=by kernel_rfl
theorem sK59:Sound Tryz.prog 59 (.dat false (YD 68)):=by
  apply WaG (hc:=cK59) h90 <;> first | exact (rfl:@Eq Spec _ _) | skip
  all_goals decide
def L91:List (Nat×Spec):=(59,.dat false (YD 68))::L90
theorem h91:Holds Tryz.prog (Gl L91):=qa h90 sK59
theorem cK21:check Tryz.prog 21=some (14,(Zg 59 58).strip,[.tmp 6]):=by kernel_rfl
theorem sK21:Sound Tryz.prog 21 (.red qz):=by
  apply XaE (hc:=cK21) h91 <;> first | exact (rfl:@Eq Spec _ _) | skip
  all_goals decide
def L92:List (Nat×Spec):=(21,.red qz)::L91
theorem h92:Holds Tryz.prog (Gl L92):=qa h91 sK21
theorem cK151:check Tryz.prog 151=some (27,zo.strip,[.tmp 4]):=by kernel_rfl
theorem sK151:Sound Tryz.prog 151 (.fresh 5 Wy):=by
  apply kak (hc:=cK151) h92 <;> first | exact (rfl:@Eq Spec _ _) | skip
  all_goals decide
def L93:List (Nat×Spec):=(151,.fresh 5 Wy)::L92
theorem h93:Holds Tryz.prog (Gl L93):=qa h92 sK151
theorem cK128:check Tryz.prog 128=some (36,(Qm 151).strip,[.tmp 2]):=by kernel_rfl
theorem sK128:Sound Tryz.prog 128 (.fresh 5 Vx):=by
  apply jaj (hc:=cK128) h93 <;> first | exact (rfl:@Eq Spec _ _) | skip
  all_goals decide
def L94:List (Nat×Spec):=(128,.fresh 5 Vx)::L93
theorem h94:Holds Tryz.prog (Gl L94):=qa h93 sK128
theorem cK99:check Tryz.prog 99=some (19,(Ur 100 128 101).strip,[.tmp 4,.tmp 5]):=by kernel_rfl
theorem sK99:Sound Tryz.prog 99 (.dat false (vF 68)):=by
  apply JaE (hc:=cK99) h94 <;> first | exact (rfl:@Eq Spec _ _) | skip
  all_goals decide
def L95:List (Nat×Spec):=(99,.dat false (vF 68))::L94
theorem h95:Holds Tryz.prog (Gl L95):=qa h94 sK99
theorem cK56:check Tryz.prog 56=some (14,(jg 99 58).strip,[.tmp 6]):=by kernel_rfl
theorem sK56:Sound Tryz.prog 56 (.red Jz):=by
  apply VaF (hc:=cK56) h95 <;> first | exact (rfl:@Eq Spec _ _) | skip
  all_goals decide
def L96:List (Nat×Spec):=(56,.red Jz)::L95
theorem h96:Holds Tryz.prog (Gl L96):=qa h95 sK56
theorem cK55:check Tryz.prog 55=some (34,(ue 23 21 56).strip,[.cell 8 2 true]):=by kernel_rfl
theorem sK55:Sound Tryz.prog 55 (.red XE):=by
  apply QaB (hc:=cK55) h96 <;> first | exact (rfl:@Eq Spec _ _) | skip
  all_goals decide
def L97:List (Nat×Spec):=(55,.red XE)::L96
theorem h97:Holds Tryz.prog (Gl L97):=qa h96 sK55
theorem cK51:check Tryz.prog 51=some (12,(ko 24 50).strip,[.cell 4 3 true]):=by kernel_rfl
theorem sK51:Sound Tryz.prog 51 (.dat false ZB):=by
  apply xaE (hc:=cK51) h97 <;> first | exact (rfl:@Eq Spec _ _) | skip
  all_goals decide
def L98:List (Nat×Spec):=(51,.dat false ZB)::L97
theorem h98:Holds Tryz.prog (Gl L98):=qa h97 sK51
theorem cK104:check Tryz.prog 104=some (21,Yl.strip,[.tmp 2]):=by kernel_rfl
theorem sK104:Sound Tryz.prog 104 (.dat true xE):=by
  apply kaG (hc:=cK104) h98 <;> first | exact (rfl:@Eq Spec _ _) | skip
  all_goals decide
def L99:List (Nat×Spec):=(104,.dat true xE)::L98
theorem h99:Holds Tryz.prog (Gl L99):=qa h98 sK104
theorem cK60:check Tryz.prog 60=some (71,(um 100 104 24 101 68).strip,[.tmp 4,.tmp 5]):=by kernel_rfl
theorem sK60:Sound Tryz.prog 60 (.dat false (vE 68)):=by
  apply qaD (hc:=cK60) h99 <;> first | exact (rfl:@Eq Spec _ _) | skip
  all_goals decide
def L100:List (Nat×Spec):=(60,.dat false (vE 68))::L99
theorem h100:Holds Tryz.prog (Gl L100):=qa h99 sK60
theorem cK22:check Tryz.prog 22=some (14,(Vg 60 58).strip,[.tmp 6]):=by kernel_rfl
theorem sK22:Sound Tryz.prog 22 (.red ZA):=by
  apply vaD (hc:=cK22) h100 <;> first | exact (rfl:@Eq Spec _ _) | skip
  all_goals decide
def L101:List (Nat×Spec):=(22,.red ZA)::L100
theorem h101:Holds Tryz.prog (Gl L101):=qa h100 sK22
theorem cK26:check Tryz.prog 26=some (19,(vf 22 56).strip,[.tmp 4]):=by kernel_rfl
theorem sK26:Sound Tryz.prog 26 (.red QB):=by
  apply kaC (hc:=cK26) h101 <;> first | exact (rfl:@Eq Spec _ _) | skip
  all_goals decide
def L102:List (Nat×Spec):=(26,.red QB)::L101
theorem h102:Holds Tryz.prog (Gl L102):=qa h101 sK26
theorem cK57:check Tryz.prog 57=some (13,(yd 98 58).strip,[.tmp 4]):=by kernel_rfl
theorem sK57:Sound Tryz.prog 57 (.red VE):=by
  apply yaB (hc:=cK57) h102 <;> first | exact (rfl:@Eq Spec _ _) | skip
  all_goals decide
def L103:List (Nat×Spec):=(57,.red VE)::L102
theorem h103:Holds Tryz.prog (Gl L103):=qa h102 sK57
theorem cK20:check Tryz.prog 20=some (111,(Ue 54 25 47 49 55 51 24 26 57 56 21 22).strip,[.cell 4 7 true]):=by kernel_rfl
theorem sK20:Sound Tryz.prog 20 (.red jB):=by
  apply zaD (hc:=cK20) h103 <;> first | exact (rfl:@Eq Spec _ _) | skip
  all_goals decide
def L104:List (Nat×Spec):=(20,.red jB)::L103
theorem h104:Holds Tryz.prog (Gl L104):=qa h103 sK20
theorem cK6:check Tryz.prog 6=some (78,(wl 10 20 22 21 25 24 23 26).strip,[.tmp 2,.tmp 3]):=by kernel_rfl
theorem sK6:Sound Tryz.prog 6 (.dat false (kB 68)):=by
  apply XaB (hc:=cK6) h104 <;> first | exact (rfl:@Eq Spec _ _) | skip
  all_goals decide
def L105:List (Nat×Spec):=(6,.dat false (kB 68))::L104
theorem h105:Holds Tryz.prog (Gl L105):=qa h104 sK6
theorem cK97:check Tryz.prog 97=some (14,(jq 77 63 68).strip,[.cell 4 3 true,.tmp 5]):=by kernel_rfl
theorem sK97:Sound Tryz.prog 97 (.dat false (Wr 68)):=by
  apply vZ (hc:=cK97) h105 <;> first | exact (rfl:@Eq Spec _ _) | skip
  all_goals decide
def L106:List (Nat×Spec):=(97,.dat false (Wr 68))::L105
theorem h106:Holds Tryz.prog (Gl L106):=qa h105 sK97
theorem cK52:check Tryz.prog 52=some (29,(Ys 62 64 97).strip,[.cell 4 3 true,.tmp 5]):=by kernel_rfl
theorem sK52:Sound Tryz.prog 52 (.dat false (Jy 68)):=by
  apply Zah (hc:=cK52) h106 <;> first | exact (rfl:@Eq Spec _ _) | skip
  all_goals decide
def L107:List (Nat×Spec):=(52,.dat false (Jy 68))::L106
theorem h107:Holds Tryz.prog (Gl L107):=qa h106 sK52
theorem cK93:check Tryz.prog 93=some (34,(yo 25 24 52 68).strip,[.cell 4 3 true,.tmp 5]):=by kernel_rfl
theorem sK93:Sound Tryz.prog 93 (.dat false (VF 68)):=by
  apply qaF (hc:=cK93) h107 <;> first | exact (rfl:@Eq Spec _ _) | skip
  all_goals decide
def L108:List (Nat×Spec):=(93,.dat false (VF 68))::L107
theorem h108:Holds Tryz.prog (Gl L108):=qa h107 sK93
theorem cK44:check Tryz.prog 44=some (59,(Qp 92 93 24 50).strip,[.cell 6 3 true,.tmp 7]):=by kernel_rfl
theorem sK44:Sound Tryz.prog 44 (.dat false (zy 68)):=by
  apply kai (hc:=cK44) h108 <;> first | exact (rfl:@Eq Spec _ _) | skip
  all_goals decide
def L109:List (Nat×Spec):=(44,.dat false (zy 68))::L108
theorem h109:Holds Tryz.prog (Gl L109):=qa h108 sK44
theorem cK14:check Tryz.prog 14=some (42,(js 43 6 44 33).strip,[.tmp 4,.tmp 5]):=by kernel_rfl
theorem sK14:Sound Tryz.prog 14 (.dat false (vB 68)):=by
  apply yaD (hc:=cK14) h109 <;> first | exact (rfl:@Eq Spec _ _) | skip
  all_goals decide
def L110:List (Nat×Spec):=(14,.dat false (vB 68))::L109
theorem h110:Holds Tryz.prog (Gl L110):=qa h109 sK14
theorem cK46:check Tryz.prog 46=some (16,(jp 47).strip,[.cell 4 6 true]):=by kernel_rfl
theorem sK46:Sound Tryz.prog 46 (.dat false qn):=by
  apply JI (hc:=cK46) h110 <;> first | exact (rfl:@Eq Spec _ _) | skip
  all_goals decide
def L111:List (Nat×Spec):=(46,.dat false qn)::L110
theorem h111:Holds Tryz.prog (Gl L111):=qa h110 sK46
theorem cK48:check Tryz.prog 48=some (26,(xq 24 47 50).strip,[.cell 6 6 true]):=by kernel_rfl
theorem sK48:Sound Tryz.prog 48 (.dat false uN):=by
  apply ua3 (hc:=cK48) h111 <;> first | exact (rfl:@Eq Spec _ _) | skip
  all_goals decide
def L112:List (Nat×Spec):=(48,.dat false uN)::L111
theorem h112:Holds Tryz.prog (Gl L112):=qa h111 sK48
theorem cK53:check Tryz.prog 53=some (16,(Xv 50).strip,[.cell 4 6 true]):=by kernel_rfl
theorem sK53:Sound Tryz.prog 53 (.dat false Zw):=by
  apply uaj (hc:=cK53) h112 <;> first | exact (rfl:@Eq Spec _ _) | skip
  all_goals decide
def L113:List (Nat×Spec):=(53,.dat false Zw)::L112
theorem h113:Holds Tryz.prog (Gl L113):=qa h112 sK53
theorem cK17:check Tryz.prog 17=some (171,(Jf 14 46 25 47 49 48 24 33 51 50 52 53 68).strip,[.cell 4 6 true,.cell 5 6 true,.tmp 6]):=by kernel_rfl
theorem sK17:Sound Tryz.prog 17 (.dat false (VD 68)):=by
  apply UaD (hc:=cK17) h113 <;> first | exact (rfl:@Eq Spec _ _) | skip
  all_goals decide
def L114:List (Nat×Spec):=(17,.dat false (VD 68))::L113
theorem h114:Holds Tryz.prog (Gl L114):=qa h113 sK17
theorem cK18:check Tryz.prog 18=some (28,(Xl 43 46 48 53).strip,[.cell 6 6 true,.tmp 7]):=by kernel_rfl
theorem sK18:Sound Tryz.prog 18 (.dat false (QE 68)):=by
  apply yaF (hc:=cK18) h114 <;> first | exact (rfl:@Eq Spec _ _) | skip
  all_goals decide
def L115:List (Nat×Spec):=(18,.dat false (QE 68))::L114
theorem h115:Holds Tryz.prog (Gl L115):=qa h114 sK18
theorem cK78:check Tryz.prog 78=some (26,Qj.strip,[.tmp 4]):=by kernel_rfl
theorem sK78:Sound Tryz.prog 78 (.dat true qs):=by
  apply V9 (hc:=cK78) h115 <;> first | exact (rfl:@Eq Spec _ _) | skip
  all_goals decide
def L116:List (Nat×Spec):=(78,.dat true qs)::L115
theorem h116:Holds Tryz.prog (Gl L116):=qa h115 sK78
theorem cK35:check Tryz.prog 35=some (24,(Jm 78).strip,[.tmp 4]):=by kernel_rfl
theorem sK35:Sound Tryz.prog 35 (.dat true xB):=by
  apply uaB (hc:=cK35) h116 <;> first | exact (rfl:@Eq Spec _ _) | skip
  all_goals decide
def L117:List (Nat×Spec):=(35,.dat true xB)::L116
theorem h117:Holds Tryz.prog (Gl L117):=qa h116 sK35
theorem cK19:check Tryz.prog 19=some (17,(we 35).strip,[.tmp 4]):=by kernel_rfl
theorem sK19:Sound Tryz.prog 19 (.dat true jy):=by
  apply Qaj (hc:=cK19) h117 <;> first | exact (rfl:@Eq Spec _ _) | skip
  all_goals decide
def L118:List (Nat×Spec):=(19,.dat true jy)::L117
theorem h118:Holds Tryz.prog (Gl L118):=qa h117 sK19
theorem cK4:check Tryz.prog 4=some (72,(vh 15 16 14 17 18 19).strip,[.tmp 0]):=by kernel_rfl
theorem sK4:Sound Tryz.prog 4 (.dat true ux):=by
  apply qaf (hc:=cK4) h118 <;> first | exact (rfl:@Eq Spec _ _) | skip
  all_goals decide
def L119:List (Nat×Spec):=(4,.dat true ux)::L118
theorem h119:Holds Tryz.prog (Gl L119):=qa h118 sK4
theorem cK5:check Tryz.prog 5=some (44,jh.strip,[.tmp 2]):=by kernel_rfl
theorem sK5:Sound Tryz.prog 5 (.dat true jE):=by
  apply JaG (hc:=cK5) h119 <;> first | exact (rfl:@Eq Spec _ _) | skip
  all_goals decide
def L120:List (Nat×Spec):=(5,.dat true jE)::L119
theorem h120:Holds Tryz.prog (Gl L120):=qa h119 sK5
theorem cK7:check Tryz.prog 7=some (23,(Wj 10 20).strip,[.tmp 2,.tmp 3]):=by kernel_rfl
theorem sK7:Sound Tryz.prog 7 (.dat false (WD 68)):=by
  apply zaB (hc:=cK7) h120 <;> first | exact (rfl:@Eq Spec _ _) | skip
  all_goals decide
def L121:List (Nat×Spec):=(7,.dat false (WD 68))::L120
theorem h121:Holds Tryz.prog (Gl L121):=qa h120 sK7
theorem cK67:check Tryz.prog 67=some (15,Qh.strip,[.tmp 2]):=by kernel_rfl
theorem sK67:Sound Tryz.prog 67 (.dat true Zs):=by
  apply kN (hc:=cK67) h121 <;> first | exact (rfl:@Eq Spec _ _) | skip
  all_goals decide
def L122:List (Nat×Spec):=(67,.dat true Zs)::L121
theorem h122:Holds Tryz.prog (Gl L122):=qa h121 sK67
theorem cK121:check Tryz.prog 121=some (38,(Vk 113 114 138 111 135 146).strip,[.cell 4 2 true]):=by kernel_rfl
theorem sK121:Sound Tryz.prog 121 (.dat false Jx):=by
  apply qae (hc:=cK121) h122 <;> first | exact (rfl:@Eq Spec _ _) | skip
  all_goals decide
def L123:List (Nat×Spec):=(121,.dat false Jx)::L122
theorem h123:Holds Tryz.prog (Gl L123):=qa h122 sK121
theorem cK110:check Tryz.prog 110=some (9,(xk 90 121).strip,[.cell 4 2 true]):=by kernel_rfl
theorem sK110:Sound Tryz.prog 110 (.dat false kF):=by
  apply U7 (hc:=cK110) h123 <;> first | exact (rfl:@Eq Spec _ _) | skip
  all_goals decide
def L124:List (Nat×Spec):=(110,.dat false kF)::L123
theorem h124:Holds Tryz.prog (Gl L124):=qa h123 sK110
theorem cK68:check Tryz.prog 68=some (9,(Xk 110 72).strip,[.tmp 4]):=by kernel_rfl
theorem sK68:Sound Tryz.prog 68 (.dat true kr):=by
  apply Yaa (hc:=cK68) h124 <;> first | exact (rfl:@Eq Spec _ _) | skip
  all_goals decide
def L125:List (Nat×Spec):=(68,.dat true kr)::L124
theorem h125:Holds Tryz.prog (Gl L125):=qa h124 sK68
theorem cK27:check Tryz.prog 27=some (36,(Yh 67 69 70 68).strip,[.tmp 2]):=by kernel_rfl
theorem sK27:Sound Tryz.prog 27 (.dat true qe):=by
  apply YN (hc:=cK27) h125 <;> first | exact (rfl:@Eq Spec _ _) | skip
  all_goals decide
def L126:List (Nat×Spec):=(27,.dat true qe)::L125
theorem h126:Holds Tryz.prog (Gl L126):=qa h125 sK27
theorem cK28:check Tryz.prog 28=some (11,(kg 27).strip,[.tmp 2]):=by kernel_rfl
theorem sK28:Sound Tryz.prog 28 (.dat true xj):=by
  apply UG (hc:=cK28) h126 <;> first | exact (rfl:@Eq Spec _ _) | skip
  all_goals decide
def L127:List (Nat×Spec):=(28,.dat true xj)::L126
theorem h127:Holds Tryz.prog (Gl L127):=qa h126 sK28
theorem cK71:check Tryz.prog 71=some (23,(Zh 27 70).strip,[.cell 2 2 true,.cell 3 2 true]):=by kernel_rfl
theorem sK71:Sound Tryz.prog 71 (.dat false ke):=by
  apply xN (hc:=cK71) h127 <;> first | exact (rfl:@Eq Spec _ _) | skip
  all_goals decide
def L128:List (Nat×Spec):=(71,.dat false ke)::L127
theorem h128:Holds Tryz.prog (Gl L128):=qa h127 sK71
theorem cK29:check Tryz.prog 29=some (12,(xl 71 72).strip,[.tmp 2]):=by kernel_rfl
theorem sK29:Sound Tryz.prog 29 (.dat true Vh):=by
  apply kI (hc:=cK29) h128 <;> first | exact (rfl:@Eq Spec _ _) | skip
  all_goals decide
def L129:List (Nat×Spec):=(29,.dat true Vh)::L128
theorem h129:Holds Tryz.prog (Gl L129):=qa h128 sK29
theorem cK41:check Tryz.prog 41=some (14,(Qn 71 90 88).strip,[.cell 2 3 true]):=by kernel_rfl
theorem sK41:Sound Tryz.prog 41 (.dat false Xp):=by
  apply qS (hc:=cK41) h129 <;> first | exact (rfl:@Eq Spec _ _) | skip
  all_goals decide
def L130:List (Nat×Spec):=(41,.dat false Xp)::L129
theorem h130:Holds Tryz.prog (Gl L130):=qa h129 sK41
theorem cK123:check Tryz.prog 123=some (68,(qi 133).strip,[.tmp 4]):=by kernel_rfl
theorem sK123:Sound Tryz.prog 123 (.dat false Qq):=by
  apply UU (hc:=cK123) h130 <;> first | exact (rfl:@Eq Spec _ _) | skip
  all_goals decide
def L131:List (Nat×Spec):=(123,.dat false Qq)::L130
theorem h131:Holds Tryz.prog (Gl L131):=qa h130 sK123
theorem cK91:check Tryz.prog 91=some (16,(Zp 114 113 123 111).strip,[.cell 4 2 true]):=by kernel_rfl
theorem sK91:Sound Tryz.prog 91 (.dat false Xu):=by
  apply yT (hc:=cK91) h131 <;> first | exact (rfl:@Eq Spec _ _) | skip
  all_goals decide
def L132:List (Nat×Spec):=(91,.dat false Xu)::L131
theorem h132:Holds Tryz.prog (Gl L132):=qa h131 sK91
theorem cK86:check Tryz.prog 86=some (30,(Um 71 91 121 88).strip,[.cell 4 3 true]):=by kernel_rfl
theorem sK86:Sound Tryz.prog 86 (.dat false Ql):=by
  apply vS (hc:=cK86) h132 <;> first | exact (rfl:@Eq Spec _ _) | skip
  all_goals decide
def L133:List (Nat×Spec):=(86,.dat false Ql)::L132
theorem h133:Holds Tryz.prog (Gl L133):=qa h132 sK86
theorem cK84:check Tryz.prog 84=some (9,(Wn 41 86).strip,[.cell 4 3 true]):=by kernel_rfl
theorem sK84:Sound Tryz.prog 84 (.dat false xp):=by
  apply UP (hc:=cK84) h133 <;> first | exact (rfl:@Eq Spec _ _) | skip
  all_goals decide
def L134:List (Nat×Spec):=(84,.dat false xp)::L133
theorem h134:Holds Tryz.prog (Gl L134):=qa h133 sK84
theorem cK73:check Tryz.prog 73=some (9,(Wk 84 29).strip,[.tmp 4]):=by kernel_rfl
theorem sK73:Sound Tryz.prog 73 (.dat true jk):=by
  apply WZ (hc:=cK73) h134 <;> first | exact (rfl:@Eq Spec _ _) | skip
  all_goals decide
def L135:List (Nat×Spec):=(73,.dat true jk)::L134
theorem h135:Holds Tryz.prog (Gl L135):=qa h134 sK73
theorem cK30:check Tryz.prog 30=some (19,(Vl 73).strip,[.tmp 4]):=by kernel_rfl
theorem sK30:Sound Tryz.prog 30 (.dat true Ux):=by
  apply Jaj (hc:=cK30) h135 <;> first | exact (rfl:@Eq Spec _ _) | skip
  all_goals decide
def L136:List (Nat×Spec):=(30,.dat true Ux)::L135
theorem h136:Holds Tryz.prog (Gl L136):=qa h135 sK30
theorem cK8:check Tryz.prog 8=some (56,(kh 27 28 29 30).strip,[.tmp 2]):=by kernel_rfl
theorem sK8:Sound Tryz.prog 8 (.dat true xD):=by
  apply uaA (hc:=cK8) h136 <;> first | exact (rfl:@Eq Spec _ _) | skip
  all_goals decide
def L137:List (Nat×Spec):=(8,.dat true xD)::L136
theorem h137:Holds Tryz.prog (Gl L137):=qa h136 sK8
theorem cK9:check Tryz.prog 9=some (15,(xf 68).strip,[.tmp 2]):=by kernel_rfl
theorem sK9:Sound Tryz.prog 9 (.dat true (ZE 68)):=by
  apply vaB (hc:=cK9) h137 <;> first | exact (rfl:@Eq Spec _ _) | skip
  all_goals decide
def L138:List (Nat×Spec):=(9,.dat true (ZE 68))::L137
theorem h138:Holds Tryz.prog (Gl L138):=qa h137 sK9
theorem cK81:check Tryz.prog 81=some (8,Zn.strip,[.cell 2 6 true]):=by kernel_rfl
theorem sK81:Sound Tryz.prog 81 (.dat false XN):=by
  apply uaX (hc:=cK81) h138 <;> first | exact (rfl:@Eq Spec _ _) | skip
  all_goals decide
def L139:List (Nat×Spec):=(81,.dat false XN)::L138
theorem h139:Holds Tryz.prog (Gl L139):=qa h138 sK81
theorem cK80:check Tryz.prog 80=some (9,(kk 41).strip,[.cell 2 6 true]):=by kernel_rfl
theorem sK80:Sound Tryz.prog 80 (.dat false zF):=by
  apply ZaG (hc:=cK80) h139 <;> first | exact (rfl:@Eq Spec _ _) | skip
  all_goals decide
def L140:List (Nat×Spec):=(80,.dat false zF)::L139
theorem h140:Holds Tryz.prog (Gl L140):=qa h139 sK80
theorem cK118:check Tryz.prog 118=some (16,(jp 84).strip,[.cell 4 6 true]):=by kernel_rfl
theorem sK118:Sound Tryz.prog 118 (.dat false qn):=by
  apply JI (hc:=cK118) h140 <;> first | exact (rfl:@Eq Spec _ _) | skip
  all_goals decide
def L141:List (Nat×Spec):=(118,.dat false qn)::L140
theorem h141:Holds Tryz.prog (Gl L141):=qa h140 sK118
theorem cK42:check Tryz.prog 42=some (26,(Yn 71 91 88).strip,[.cell 4 3 true]):=by kernel_rfl
theorem sK42:Sound Tryz.prog 42 (.dat false xg):=by
  apply wS (hc:=cK42) h141 <;> first | exact (rfl:@Eq Spec _ _) | skip
  all_goals decide
def L142:List (Nat×Spec):=(42,.dat false xg)::L141
theorem h142:Holds Tryz.prog (Gl L142):=qa h141 sK42
theorem cK117:check Tryz.prog 117=some (28,(yh 42 84 86).strip,[.cell 4 6 true]):=by kernel_rfl
theorem sK117:Sound Tryz.prog 117 (.dat false Yr):=by
  apply Yae (hc:=cK117) h142 <;> first | exact (rfl:@Eq Spec _ _) | skip
  all_goals decide
def L143:List (Nat×Spec):=(117,.dat false Yr)::L142
theorem h143:Holds Tryz.prog (Gl L143):=qa h142 sK117
theorem cK119:check Tryz.prog 119=some (18,Qg.strip,[.cell 6 147 true]):=by kernel_rfl
theorem sK119:Sound Tryz.prog 119 (.dat false wD):=by
  apply xaF (hc:=cK119) h143 <;> first | exact (rfl:@Eq Spec _ _) | skip
  all_goals decide
def L144:List (Nat×Spec):=(119,.dat false wD)::L143
theorem h144:Holds Tryz.prog (Gl L144):=qa h143 sK119
theorem cK79:check Tryz.prog 79=some (27,(vg 118 117 41 119).strip,[.cell 4 147 true,.cell 5 147 true]):=by kernel_rfl
theorem sK79:Sound Tryz.prog 79 (.dat false JB):=by
  apply qaE (hc:=cK79) h144 <;> first | exact (rfl:@Eq Spec _ _) | skip
  all_goals decide
def L145:List (Nat×Spec):=(79,.dat false JB)::L144
theorem h145:Holds Tryz.prog (Gl L145):=qa h144 sK79
theorem cK82:check Tryz.prog 82=some (8,(Wi 39 81 118).strip,[.cell 2 6 true]):=by kernel_rfl
theorem sK82:Sound Tryz.prog 82 (.dat false qD):=by
  apply waB (hc:=cK82) h145 <;> first | exact (rfl:@Eq Spec _ _) | skip
  all_goals decide
def L146:List (Nat×Spec):=(82,.dat false qD)::L145
theorem h146:Holds Tryz.prog (Gl L146):=qa h145 sK82
theorem cK85:check Tryz.prog 85=some (14,(Jn 42 86).strip,[.cell 2 3 true]):=by kernel_rfl
theorem sK85:Sound Tryz.prog 85 (.dat false zY):=by
  apply VaQ (hc:=cK85) h146 <;> first | exact (rfl:@Eq Spec _ _) | skip
  all_goals decide
def L147:List (Nat×Spec):=(85,.dat false zY)::L146
theorem h147:Holds Tryz.prog (Gl L147):=qa h146 sK85
theorem cK120:check Tryz.prog 120=some (8,Ye.strip,[.cell 2 147 true]):=by kernel_rfl
theorem sK120:Sound Tryz.prog 120 (.dat false QF):=by
  apply YaC (hc:=cK120) h147 <;> first | exact (rfl:@Eq Spec _ _) | skip
  all_goals decide
def L148:List (Nat×Spec):=(120,.dat false QF)::L147
theorem h148:Holds Tryz.prog (Gl L148):=qa h147 sK120
theorem cK87:check Tryz.prog 87=some (6,(zj 29).strip,[.tmp 2]):=by kernel_rfl
theorem sK87:Sound Tryz.prog 87 (.dat true uv):=by
  apply vah (hc:=cK87) h148 <;> first | exact (rfl:@Eq Spec _ _) | skip
  all_goals decide
def L149:List (Nat×Spec):=(87,.dat true uv)::L148
theorem h149:Holds Tryz.prog (Gl L149):=qa h148 sK87
theorem cK38:check Tryz.prog 38=some (66,(Vf 87 42 86).strip,[.cell 4 147 true]):=by kernel_rfl
theorem sK38:Sound Tryz.prog 38 (.dat false Qu):=by
  apply Qah (hc:=cK38) h149 <;> first | exact (rfl:@Eq Spec _ _) | skip
  all_goals decide
def L150:List (Nat×Spec):=(38,.dat false Qu)::L149
theorem h150:Holds Tryz.prog (Gl L150):=qa h149 sK38
theorem cK37:check Tryz.prog 37=some (35,(vj 42 86).strip,[.cell 6 147 true]):=by kernel_rfl
theorem sK37:Sound Tryz.prog 37 (.dat false kt):=by
  apply Vak (hc:=cK37) h150 <;> first | exact (rfl:@Eq Spec _ _) | skip
  all_goals decide
def L151:List (Nat×Spec):=(37,.dat false kt)::L150
theorem h151:Holds Tryz.prog (Gl L151):=qa h150 sK37
theorem cK83:check Tryz.prog 83=some (26,(Xf 39 79 120 38 37).strip,[.cell 4 147 true]):=by kernel_rfl
theorem sK83:Sound Tryz.prog 83 (.dat false XT):=by
  apply xaV (hc:=cK83) h151 <;> first | exact (rfl:@Eq Spec _ _) | skip
  all_goals decide
def L152:List (Nat×Spec):=(83,.dat false XT)::L151
theorem h152:Holds Tryz.prog (Gl L152):=qa h151 sK83
theorem cK36:check Tryz.prog 36=some (90,(xh 39 81 80 79 82 85 42 84 83 38 37).strip,[.cell 2 147 true,.cell 3 147 true,.cell 4 147 true]):=by kernel_rfl
theorem sK36:Sound Tryz.prog 36 (.dat false qp):=by
  apply Y6 (hc:=cK36) h152 <;> first | exact (rfl:@Eq Spec _ _) | skip
  all_goals decide
def L153:List (Nat×Spec):=(36,.dat false qp)::L152
theorem h153:Holds Tryz.prog (Gl L153):=qa h152 sK36
theorem cK40:check Tryz.prog 40=some (44,(ui 87).strip,[.tmp 2]):=by kernel_rfl
theorem sK40:Sound Tryz.prog 40 (.dat false qv):=by
  apply xaf (hc:=cK40) h153 <;> first | exact (rfl:@Eq Spec _ _) | skip
  all_goals decide
def L154:List (Nat×Spec):=(40,.dat false qv)::L153
theorem h154:Holds Tryz.prog (Gl L154):=qa h153 sK40
theorem cK12:check Tryz.prog 12=some (32,(qh 36 38 39 37 42 41 40).strip,[.tmp 2]):=by kernel_rfl
theorem sK12:Sound Tryz.prog 12 (.dat false Qs):=by
  apply Zad (hc:=cK12) h154 <;> first | exact (rfl:@Eq Spec _ _) | skip
  all_goals decide
def L155:List (Nat×Spec):=(12,.dat false Qs)::L154
theorem h155:Holds Tryz.prog (Gl L155):=qa h154 sK12
theorem cK11:check Tryz.prog 11=some (55,(Wh 35).strip,[.tmp 4]):=by kernel_rfl
theorem sK11:Sound Tryz.prog 11 (.dat false Ws):=by
  apply Y1 (hc:=cK11) h155 <;> first | exact (rfl:@Eq Spec _ _) | skip
  all_goals decide
def L156:List (Nat×Spec):=(11,.dat false Ws)::L155
theorem h156:Holds Tryz.prog (Gl L156):=qa h155 sK11
theorem cK13:check Tryz.prog 13=some (14,(Uf 36 40).strip,[.tmp 2]):=by kernel_rfl
theorem sK13:Sound Tryz.prog 13 (.dat false zn):=by
  apply zV (hc:=cK13) h156 <;> first | exact (rfl:@Eq Spec _ _) | skip
  all_goals decide
def L157:List (Nat×Spec):=(13,.dat false zn)::L156
theorem h157:Holds Tryz.prog (Gl L157):=qa h156 sK13
theorem cK3:check Tryz.prog 3=some (65,(Yb 4 5 6 7 8 10 9 12 11 13).strip,[.tmp 2]):=by kernel_rfl
theorem sK3:Sound Tryz.prog 3 (.dat true Yj):=by
  apply yN (hc:=cK3) h157 <;> first | exact (rfl:@Eq Spec _ _) | skip
  all_goals decide
def L158:List (Nat×Spec):=(3,.dat true Yj)::L157
theorem h158:Holds Tryz.prog (Gl L158):=qa h157 sK3
theorem hold:Holds Tryz.prog (Gl L158):=h158
end Go.Abs
