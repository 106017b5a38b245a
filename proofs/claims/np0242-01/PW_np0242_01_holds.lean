import PyProof.Rows.All
import Wide.All
import OpenK.AllK
import Wide.FinOn
import PySem.Challenge.RW_np0242_01
set_option tactic.hygienic false
set_option backward.match.sparseCases false
set_option genSizeOf false
set_option genInjectivity false
set_option genCtorIdx false
set_option bootstrap.genMatcherCode false
open PySem PySem.W PyProof.Rows
set_option Elab.async false
set_option maxRecDepth 100000
set_option maxHeartbeats 0
set_option linter.unusedVariables false
noncomputable section
namespace M.Internal
open PySem.Calls PySem.SeqAt
noncomputable section
noncomputable abbrev i5:Program:=PySem.Challenge.pw_np0242_01
theorem Gu:PySem.Challenge.pw_np0242_01=i5:=rfl
noncomputable abbrev au (l:List Nat):Str:=⟨⟨l⟩⟩
abbrev wy:=au [60,109,111,100,117,108,101,62]
abbrev iq:=au [47,99,108,97,105,109,47,99,117,116,46,112,121]
abbrev gV:=au [95,95,109,97,105,110,95,95]
abbrev Os:=au [107]
abbrev lM:=au [95,119,97,108,108]
abbrev ap:=au [95,95,109,111,100,117,108,101,95,95]
abbrev a7:=au [108,97,122,121,99,111,114,101,46,99,111,114,101]
abbrev aN:=au [95,95,113,117,97,108,110,97,109,101,95,95]
abbrev su:=au [86,97,114]
abbrev ad:=au [95,95,102,105,114,115,116,108,105,110,101,110,111,95,95]
abbrev ai:=au [95,95,105,110,105,116,95,95]
abbrev aV:=au [103,114,111,117,112,115]
abbrev bm:=au [112,97,114,116,115]
abbrev be:=au [114,101,98,117,105,108,116]
abbrev a9:=au [95,95,115,116,97,116,105,99,95,97,116,116,114,105,98,117,116,101,115,95,95]
abbrev aH:=au [115,101,108,102]
abbrev am:=au [110,97,109,101]
abbrev gq:=au [86,97,114,46,95,95,105,110,105,116,95,95]
abbrev jO:=au [86,97,114,46,103,114,111,117,112,115]
abbrev kP:=au [86,97,114,46,112,97,114,116,115]
abbrev jk:=au [86,97,114,46,114,101,98,117,105,108,116]
abbrev aX:=au [95,95,100,105,99,116,95,95]
abbrev aQ:=au [95,95,119,101,97,107,114,101,102,95,95]
abbrev bg:=au [95,95,100,111,99,95,95]
abbrev sw:=au [76,105,116]
abbrev fS:=au [107,105,110,100]
abbrev bG:=au [118,97,108,117,101]
abbrev gt:=au [76,105,116,46,95,95,105,110,105,116,95,95]
abbrev jP:=au [76,105,116,46,103,114,111,117,112,115]
abbrev kQ:=au [76,105,116,46,112,97,114,116,115]
abbrev jl:=au [76,105,116,46,114,101,98,117,105,108,116]
abbrev sx:=au [65,112,112]
abbrev kS:=au [102,117,110]
abbrev br:=au [97,114,103,115]
abbrev gu:=au [65,112,112,46,95,95,105,110,105,116,95,95]
abbrev jQ:=au [65,112,112,46,103,114,111,117,112,115]
abbrev kT:=au [65,112,112,46,112,97,114,116,115]
abbrev jm:=au [65,112,112,46,114,101,98,117,105,108,116]
abbrev sy:=au [76,97,109]
abbrev aO:=au [112,97,114,97,109,115]
abbrev aB:=au [98,111,100,121]
abbrev gv:=au [76,97,109,46,95,95,105,110,105,116,95,95]
abbrev jR:=au [76,97,109,46,103,114,111,117,112,115]
abbrev kU:=au [76,97,109,46,112,97,114,116,115]
abbrev jn:=au [76,97,109,46,114,101,98,117,105,108,116]
abbrev sB:=au [76,101,116]
abbrev aR:=au [98,105,110,100,115]
abbrev gw:=au [105,115,95,114,101,99]
abbrev gx:=au [76,101,116,46,95,95,105,110,105,116,95,95]
abbrev jS:=au [76,101,116,46,103,114,111,117,112,115]
abbrev kW:=au [76,101,116,46,112,97,114,116,115]
abbrev jo:=au [76,101,116,46,114,101,98,117,105,108,116]
abbrev sL:=au [65,108,116]
abbrev i6:=au [107,101,121]
abbrev bX:=au [110,97,109,101,115]
abbrev gy:=au [65,108,116,46,95,95,105,110,105,116,95,95]
abbrev nI:=au [67,97,115,101]
abbrev bY:=au [97,108,116,115]
abbrev bn:=au [111,116,104,101,114]
abbrev fE:=au [67,97,115,101,46,95,95,105,110,105,116,95,95]
abbrev jp:=au [67,97,115,101,46,103,114,111,117,112,115]
abbrev jT:=au [67,97,115,101,46,112,97,114,116,115]
abbrev iL:=au [67,97,115,101,46,114,101,98,117,105,108,116]
abbrev sQ:=au [67,111,110]
abbrev gz:=au [67,111,110,46,95,95,105,110,105,116,95,95]
abbrev jU:=au [67,111,110,46,103,114,111,117,112,115]
abbrev kX:=au [67,111,110,46,112,97,114,116,115]
abbrev jq:=au [67,111,110,46,114,101,98,117,105,108,116]
abbrev nJ:=au [80,114,105,109]
abbrev eB:=au [111,112]
abbrev fF:=au [80,114,105,109,46,95,95,105,110,105,116,95,95]
abbrev jr:=au [80,114,105,109,46,103,114,111,117,112,115]
abbrev jV:=au [80,114,105,109,46,112,97,114,116,115]
abbrev iM:=au [80,114,105,109,46,114,101,98,117,105,108,116]
abbrev e6:=au [67,111,114,101,80,114,111,103,114,97,109]
abbrev gX:=au [99,111,110,115]
abbrev gE:=au [109,97,105,110]
abbrev cJ:=au [67,111,114,101,80,114,111,103,114,97,109,46,95,95,105,110,105,116,95,95]
abbrev aa:=au [108,97,122,121,99,111,114,101,46,115,116,103]
abbrev lN:=au [83,65,116,111,109]
abbrev fm:=au [97,116,111,109]
abbrev eR:=au [83,65,116,111,109,46,95,95,105,110,105,116,95,95]
abbrev nK:=au [83,65,112,112]
abbrev aK:=au [97,116,111,109,115]
abbrev fG:=au [83,65,112,112,46,95,95,105,110,105,116,95,95]
abbrev nL:=au [83,67,111,110]
abbrev iN:=au [99,111,110]
abbrev fH:=au [83,67,111,110,46,95,95,105,110,105,116,95,95]
abbrev lO:=au [83,80,114,105,109]
abbrev eS:=au [83,80,114,105,109,46,95,95,105,110,105,116,95,95]
abbrev lP:=au [83,67,97,115,101]
abbrev cj:=au [101,120,112,114]
abbrev eT:=au [83,67,97,115,101,46,95,95,105,110,105,116,95,95]
abbrev nM:=au [83,65,108,116]
abbrev fJ:=au [83,65,108,116,46,95,95,105,110,105,116,95,95]
abbrev nN:=au [83,76,101,116]
abbrev fK:=au [83,76,101,116,46,95,95,105,110,105,116,95,95]
abbrev jA:=au [76,97,109,98,100,97]
abbrev ck:=au [102,114,101,101]
abbrev aL:=au [105,115,95,117,112,100,97,116,101,100]
abbrev ei:=au [76,97,109,98,100,97,46,95,95,105,110,105,116,95,95]
abbrev eU:=au [83,116,103,80,114,111,103,114,97,109]
abbrev cY:=au [83,116,103,80,114,111,103,114,97,109,46,95,95,105,110,105,116,95,95]
abbrev aA:=au [108,97,122,121,99,111,114,101,46,115,116,103,95,102,114,101,101]
abbrev g6:=au [70,114,101,101,78,97,109,101,115]
abbrev g7:=au [99,108,111,115,117,114,101]
abbrev d8:=au [101,120,112,114,101,115,115,105,111,110]
abbrev jW:=au [98,114,97,110,99,104,101,115]
abbrev lQ:=au [111,102,95,98,111,100,121]
abbrev dY:=au [103,108,111,98,97,108,115,95,107,110,111,119,110]
abbrev d9:=au [70,114,101,101,78,97,109,101,115,46,95,95,105,110,105,116,95,95]
abbrev mK:=au [98,111,117,110,100]
abbrev jX:=au [102,111,117,110,100]
abbrev eV:=au [70,114,101,101,78,97,109,101,115,46,110,97,109,101]
abbrev Gv:=au [115,111,109,101]
abbrev ej:=au [70,114,101,101,78,97,109,101,115,46,97,116,111,109,115]
abbrev mw:=au [109,97,100,101]
abbrev dC:=au [70,114,101,101,78,97,109,101,115,46,99,108,111,115,117,114,101]
abbrev cK:=au [70,114,101,101,78,97,109,101,115,46,101,120,112,114,101,115,115,105,111,110]
abbrev pX:=au [99,97,115,101]
abbrev FJ:=au [97,108,116]
abbrev da:=au [70,114,101,101,78,97,109,101,115,46,98,114,97,110,99,104,101,115]
abbrev dD:=au [70,114,101,101,78,97,109,101,115,46,111,102,95,98,111,100,121]
abbrev db:=au [119,105,116,104,95,110,97,109,101,115]
abbrev tP:=au [101,114,114,111,114]
abbrev ag:=au [108,97,122,121,99,111,114,101,46,115,116,103,95,109,97,107,101,114]
abbrev lR:=au [77,97,107,101,114]
abbrev tQ:=au [99,97,108,108]
abbrev j4:=au [112,114,105,109,105,116,105,118,101]
abbrev iz:=au [102,114,101,101,95,110,97,109,101,115]
abbrev mL:=au [102,114,101,115,104]
abbrev eW:=au [77,97,107,101,114,46,95,95,105,110,105,116,95,95]
abbrev tR:=au [105,110,110,101,114]
abbrev fL:=au [77,97,107,101,114,46,99,108,111,115,117,114,101]
abbrev iA:=au [77,97,107,101,114,46,97,116,111,109]
abbrev gZ:=au [77,97,107,101,114,46,97,116,111,109,115]
abbrev dT:=au [77,97,107,101,114,46,101,120,112,114,101,115,115,105,111,110]
abbrev Gw:=au [104,101,97,100]
abbrev iB:=au [77,97,107,101,114,46,99,97,108,108]
abbrev iC:=au [77,97,107,101,114,46,99,97,115,101]
abbrev AQ:=au [119,111,114,107,101,100]
abbrev Ih:=au [97,114,103]
abbrev ek:=au [77,97,107,101,114,46,112,114,105,109,105,116,105,118,101]
abbrev i7:=au [108,101,116,95,111,102]
abbrev dc:=au [97,108,108,95,112,97,114,97,109,115]
abbrev dH:=au [102,108,97,116,95,99,97,108,108]
abbrev sT:=au [112,114,111,103,114,97,109]
abbrev yc:=au [107,110,111,119,110]
abbrev DQ:=au [109,97,107,101,114]
abbrev eG:=au [109,97,100,101,95,115,116,103]
abbrev Ii:=au [97,116]
abbrev g8:=au [98,97,115,101,95,111,102]
abbrev aW:=au [108,97,122,121,99,111,114,101,46,102,114,101,115,104]
abbrev lS:=au [70,114,101,115,104]
abbrev jY:=au [97,118,111,105,100]
abbrev tS:=au [110,101,120,116]
abbrev cm:=au [97,118,111,105,100,101,100]
abbrev eX:=au [70,114,101,115,104,46,95,95,105,110,105,116,95,95]
abbrev hU:=au [70,114,101,115,104,46,97,118,111,105,100]
abbrev AR:=au [98,97,115,101]
abbrev Gx:=au [116,111,108,100]
abbrev AS:=au [110,117,109,98,101,114]
abbrev iD:=au [70,114,101,115,104,46,110,101,120,116]
abbrev gc:=au [110,117,109,98,101,114,115]
abbrev uR:=au [115,99,114,105,112,116]
abbrev Gy:=au [99,101,108,108]
abbrev Ij:=au [98,105,103]
abbrev DR:=au [109,105,120,101,100]
abbrev dI:=au [95,108,97,119,95,112,111,111,108]
abbrev ab:=au [108,97,119,95,110,112,48,50,52,50,95,48,49]
abbrev iO:=au [115,111,117,114,99,101]
abbrev Ik:=au [116,111,112]
abbrev AT:=au [112,105,99,107,101,100]
abbrev dJ:=au [95,108,97,119,95,116,97,107,101]
abbrev AU:=au [116,104,105,110,103,115]
abbrev eH:=au [95,108,97,119,95,111,110,101]
abbrev jZ:=au [115,99,111,112,101]
abbrev dK:=au [95,108,97,119,95,110,97,109,101]
abbrev Gz:=au [105,110,116,115]
abbrev GA:=au [102,117,110,115]
abbrev cO:=au [95,108,97,119,95,119,105,116,104,105,110]
abbrev dL:=au [95,108,97,119,95,108,101,97,102]
abbrev dM:=au [95,108,97,119,95,99,97,108,108]
abbrev cb:=au [95,108,97,119,95,102,117,110,99,116,105,111,110]
abbrev AV:=au [119,97,121]
abbrev wz:=au [100,101,101,112]
abbrev DS:=au [102,105,114,115,116]
abbrev AW:=au [115,101,99,111,110,100]
abbrev tT:=au [109,97,110,121]
abbrev dN:=au [95,108,97,119,95,108,101,116,115]
abbrev AX:=au [102,105,101,108,100,115]
abbrev GB:=au [112,97,105,114]
abbrev dO:=au [95,108,97,119,95,99,97,115,101]
abbrev dP:=au [95,108,97,119,95,99,111,114,101]
abbrev cy:=au [95,108,97,119,95,112,114,111,103,114,97,109]
abbrev Il:=au [111,110,101]
abbrev ce:=au [95,108,97,119,95,114,101,99,107,111,110,101,100]
abbrev Im:=au [114,117,110]
abbrev yd:=au [101,110,118]
abbrev eI:=au [95,108,97,119,95,112,117,116]
abbrev de:=au [95,108,97,119,95,118,97,108,117,101]
abbrev dQ:=au [95,108,97,119,95,97,116,111,109]
abbrev DT:=au [116,104,105,110,103]
abbrev cQ:=au [95,108,97,119,95,102,111,114,99,101,100]
abbrev dg:=au [95,108,97,119,95,119,111,114,116,104]
abbrev cR:=au [95,108,97,119,95,105,110,115,105,100,101]
abbrev bf:=au [95,108,97,119,95,99,108,111,115,117,114,101,115,95,114,105,103,104,116]
abbrev DU:=au [119,104,111,108,101]
abbrev pY:=au [108,97,119]
abbrev s7:=au [95,95,112,97,99,107,97,103,101,95,95]
abbrev tU:=au [95,95,108,111,97,100,101,114,95,95]
abbrev wA:=au [95,95,115,112,101,99,95,95]
abbrev mM:=au [95,95,97,110,110,111,116,97,116,105,111,110,115,95,95]
abbrev pZ:=au [95,95,98,117,105,108,116,105,110,115,95,95]
abbrev wB:=au [95,95,102,105,108,101,95,95]
abbrev tV:=au [95,95,99,97,99,104,101,100,95,95]
abbrev gG:=au [76,65,90,89,95,80,82,73,77,73,84,73,86,69,83]
abbrev wC:=au [95,95,110,97,109,101,95,95]
noncomputable def DV:List Stmt->Nat->Stmt
 | [],_=>.Pass ⟨0,0,0,0⟩
 | s::_,0=>s
 | _::r,n+1=>DV r n
noncomputable def DW:Stmt->List Stmt
 | .ClassDef _ _ _ b _ _ _ _ _ _ _=>b
 | _=>[]
abbrev st (i:Nat):Stmt:=DV i5.main.body i
abbrev ms (i j:Nat):Stmt:=DV (DW (st i)) j
noncomputable def fd (q:Str)(g:Addr)(df kd doc pm cd ct:Value)(b:Addr):Stmt->FuncData
 | .FunctionDef n a bd _ _ _ sc _ _ _=>{name:=n,qualname:=q,params:=a,body:=.stmts bd,scope:=sc,globals:=g,closure:=[],defaults:=df,kwdefaults:=kd,doc:=doc,pyModule:=pm,code:=cd,closureTuple:=ct,builtins:=b}
 | _=>default
noncomputable abbrev tp (xs:List Value):Obj:=⟨.type "tuple",none,.seq ⟨xs⟩ 0,⟨[]⟩⟩
noncomputable abbrev tb (xs:List Value):Obj:=⟨.none,none,.fields ⟨xs⟩,⟨[]⟩⟩
noncomputable abbrev co (xs:List Value):Obj:=⟨.type "code",none,.fields ⟨xs⟩,⟨[]⟩⟩
noncomputable abbrev fo (f:FuncData):Obj:=⟨.type "function",none,.func f,⟨[]⟩⟩
noncomputable abbrev fc (f:FuncData):Obj:=⟨.none,none,.func f,⟨[]⟩⟩
section
variable (P:Params)
noncomputable abbrev en (x:Str)(t:Tok)(v:Value):DictEntry:=⟨PyData.keyHash P x,.str x t,v⟩
abbrev gT (x y:Str)(t t1 t2:Tok)(i a:Int)(r:Addr)(g:Bool)(h:Addr)(p q u:Value)(z:Int)(z1:Tok)(b:Int):Obj:=co [.str x t,.str y t1,.str iq t2,.int i 0,.int a 0,.int 0 0,.int 0 0,.int b 0,.ref r,.bool g,.int 181 0,.ref h,.none,p,q,u,.int z 0,.int i 0,.str iq z1]
abbrev cA (x y:Str)(t t1 t2:Tok)(i a:Int)(r h p q u:Addr)(z:Int)(z1:Tok):Obj:=gT x y t t1 t2 i a r true h (.ref p) (.ref q) (.ref u) z z1 3
abbrev cB (x y:Str)(t t1 t2:Tok)(i a:Int)(r h u:Addr)(z:Int)(z1:Tok):Obj:=gT x y t t1 t2 i a r true h .none .none (.ref u) z z1 3
abbrev cC (x:Str)(t t1 t2:Tok)(i a:Int)(r h:Addr)(z:Int)(z1:Tok):Obj:=gT x x t t1 t2 i a r false h .none .none .none z z1 0
abbrev gF (q m:Str)(t:Tok)(c:Addr)(s:Stmt):FuncData:=fd q 3 .none .none .none (.str m t) (.ref c) .none 0 s
abbrev fz (q:Str)(s:Stmt):Obj:=fc (fd q 0 .none .none .none .none .none .none 0 s)
noncomputable abbrev fs (t:String)(xs:List Value):Obj:=⟨.type t,none,.fields ⟨xs⟩,⟨[]⟩⟩
abbrev gA (t:Tok)(r:Addr):Obj:=fs "getset_descriptor" [.str aX t,.ref r,.builtin "function.__dict__",.builtin "function.__dict__#set"]
abbrev gB (t:Tok)(r:Addr):Obj:=fs "getset_descriptor" [.str aQ t,.ref r,.builtin "ExceptionGroup.__weakref__",.none]
abbrev bI (v:Value):Obj:=fs "builtin_function_or_method" [.builtin "object.__init_subclass__",v]
abbrev bP:Obj:=fs "builtin_function_or_method" [.builtin "type.__prepare__",.type "type"]
abbrev gS (r:Addr):Obj:=fs "super" [.ref r,.ref r,.ref r]
noncomputable abbrev gC (x:Str)(a n:Addr)(t u:Tok):Obj:=⟨.type "type",none,.cls {name:=x,bases:=[.type "object"],mro:=[.ref a,.type "object"],ns:=n,qualname:=x},⟨[none,none,some (.str x t),some (.str x u),some (.builtin "object.__new__"),some (.bool true)]⟩⟩
noncomputable abbrev gW (c n:Addr)(m:Str)(t:Tok):Obj:=⟨.type "frame",none,.plain,⟨[some (.ref c),some (.ref 3),some (.ref n),none,some (.str m t),none,some (.ref 0)]⟩⟩
noncomputable abbrev gD (xs:List DictEntry)(n:Nat):Obj:=⟨.type "dict",none,.dict ⟨xs⟩ n,⟨[]⟩⟩
noncomputable abbrev aj (o:Obj)(l r:BT):BT:=.node o l r
noncomputable abbrev az (o:Obj):BT:=.node o .nil .nil
abbrev aT:Obj:=tp []
abbrev dh:Obj:=tb []
def Ot:Obj:=cA ai gq 208 209 210 7 2 29 30 31 32 33 213 214
def Ou:Obj:=fo (gF gq a7 194 34 (ms 2 0))
def Ov:Obj:=gD [en P ap 203 (.str a7 194),en P ad 207 (.int 5 206),en P ai 215 (.ref 35),en P aV 222 (.ref 42),en P bm 229 (.ref 49),en P be 238 (.ref 56),en P a9 240 (.ref 57),en P aX 242 (.ref 60),en P aQ 244 (.ref 61),en P bg 245 .none] 4
def Ow:Obj:=gC su 59 58 196 204
def Ox:Obj:=cA ai gt 260 261 262 20 3 71 72 73 74 75 266 267
def Oy:Obj:=fo (gF gt a7 194 76 (ms 3 0))
def Io:Obj:=gD [en P ap 255 (.str a7 194),en P ad 259 (.int 18 258),en P ai 268 (.ref 77),en P aV 275 (.ref 84),en P bm 282 (.ref 91),en P be 291 (.ref 98),en P a9 294 (.ref 99),en P aX 296 (.ref 102),en P aQ 298 (.ref 103),en P bg 299 .none] 4
def Ip:Obj:=gC sw 101 100 248 256
def Iq:Obj:=cA ai gu 314 315 316 34 3 113 114 115 116 117 320 321
def Ir:Obj:=fo (gF gu a7 194 118 (ms 4 0))
def It:Obj:=gD [en P ap 309 (.str a7 194),en P ad 313 (.int 32 312),en P ai 322 (.ref 119),en P aV 329 (.ref 126),en P bm 336 (.ref 133),en P be 345 (.ref 140),en P a9 348 (.ref 141),en P aX 350 (.ref 144),en P aQ 352 (.ref 145),en P bg 353 .none] 4
def Iu:Obj:=gC sx 143 142 302 310
def Iv:Obj:=cA ai gv 368 369 370 48 3 155 156 157 158 159 374 375
def Iw:Obj:=fo (gF gv a7 194 160 (ms 5 0))
def Ix:Obj:=gD [en P ap 363 (.str a7 194),en P ad 367 (.int 46 366),en P ai 376 (.ref 161),en P aV 383 (.ref 168),en P bm 390 (.ref 175),en P be 399 (.ref 182),en P a9 402 (.ref 183),en P aX 404 (.ref 186),en P aQ 406 (.ref 187),en P bg 407 .none] 4
def Iy:Obj:=gC sy 185 184 356 364
def Iz:Obj:=cA ai gx 422 423 424 62 4 197 198 199 200 201 429 430
def IA:Obj:=fo (gF gx a7 194 202 (ms 6 0))
def IB:Obj:=gD [en P ap 417 (.str a7 194),en P ad 421 (.int 60 420),en P ai 431 (.ref 203),en P aV 438 (.ref 210),en P bm 445 (.ref 217),en P be 454 (.ref 224),en P a9 458 (.ref 225),en P aX 460 (.ref 228),en P aQ 462 (.ref 229),en P bg 463 .none] 4
def IC:Obj:=gC sB 227 226 410 418
def ID:Obj:=cA ai gy 478 479 480 77 4 239 240 241 242 243 485 486
def IE:Obj:=fo (gF gy a7 194 244 (ms 7 0))
def IF:Obj:=gD [en P ap 473 (.str a7 194),en P ad 477 (.int 75 476),en P ai 487 (.ref 245),en P a9 491 (.ref 246),en P aX 493 (.ref 249),en P aQ 495 (.ref 250),en P bg 496 .none] 4
def IG:Obj:=gC sL 248 247 466 474
def IH:Obj:=cA ai fE 511 512 513 83 5 260 261 262 263 264 519 520
def II:Obj:=fo (gF fE a7 194 265 (ms 8 0))
def IJ:Obj:=gD [en P ap 506 (.str a7 194),en P ad 510 (.int 81 509),en P ai 521 (.ref 266),en P aV 528 (.ref 273),en P bm 535 (.ref 280),en P be 544 (.ref 287),en P a9 549 (.ref 288),en P aX 551 (.ref 291),en P aQ 553 (.ref 292),en P bg 554 .none] 4
def IK:Obj:=gC nI 290 289 499 507
def IL:Obj:=cA ai gz 569 570 571 99 3 302 303 304 305 306 575 576
def IM:Obj:=fo (gF gz a7 194 307 (ms 9 0))
def IN:Obj:=gD [en P ap 564 (.str a7 194),en P ad 568 (.int 97 567),en P ai 577 (.ref 308),en P aV 584 (.ref 315),en P bm 591 (.ref 322),en P be 600 (.ref 329),en P a9 603 (.ref 330),en P aX 605 (.ref 333),en P aQ 607 (.ref 334),en P bg 608 .none] 4
def IO:Obj:=gC sQ 332 331 557 565
def IP:Obj:=cA ai fF 623 624 625 113 3 344 345 346 347 348 629 630
def IQ:Obj:=fo (gF fF a7 194 349 (ms 10 0))
def IR:Obj:=gD [en P ap 618 (.str a7 194),en P ad 622 (.int 111 621),en P ai 631 (.ref 350),en P aV 638 (.ref 357),en P bm 645 (.ref 364),en P be 654 (.ref 371),en P a9 657 (.ref 372),en P aX 659 (.ref 375),en P aQ 661 (.ref 376),en P bg 662 .none] 4
def IS:Obj:=gC nJ 374 373 611 619
def IU:Obj:=cA ai cJ 677 678 679 127 4 386 387 388 389 390 684 685
def IW:Obj:=fo (gF cJ a7 194 391 (ms 11 0))
def IX:Obj:=gD [en P ap 672 (.str a7 194),en P ad 676 (.int 125 675),en P ai 686 (.ref 392),en P a9 690 (.ref 393),en P aX 692 (.ref 396),en P aQ 694 (.ref 397),en P bg 695 .none] 4
def IY:Obj:=gC e6 395 394 665 673
def IZ:Obj:=cA ai eR 712 713 714 134 2 407 408 409 410 411 717 718
def J0:Obj:=fo (gF eR aa 698 412 (ms 13 0))
def J1:Obj:=gD [en P ap 707 (.str aa 698),en P ad 711 (.int 132 710),en P ai 719 (.ref 413),en P a9 721 (.ref 414),en P aX 723 (.ref 417),en P aQ 725 (.ref 418),en P bg 726 .none] 4
def J2:Obj:=gC lN 416 415 700 708
def J3:Obj:=cA ai fG 741 742 743 138 3 428 429 430 431 432 747 748
def J4:Obj:=fo (gF fG aa 698 433 (ms 14 0))
def J5:Obj:=gD [en P ap 736 (.str aa 698),en P ad 740 (.int 136 739),en P ai 749 (.ref 434),en P a9 752 (.ref 435),en P aX 754 (.ref 438),en P aQ 756 (.ref 439),en P bg 757 .none] 4
def J6:Obj:=gC nK 437 436 729 737
def J7:Obj:=cA ai fH 772 773 774 143 3 449 450 451 452 453 778 779
def J8:Obj:=fo (gF fH aa 698 454 (ms 15 0))
def J9:Obj:=gD [en P ap 767 (.str aa 698),en P ad 771 (.int 141 770),en P ai 780 (.ref 455),en P a9 783 (.ref 456),en P aX 785 (.ref 459),en P aQ 787 (.ref 460),en P bg 788 .none] 4
def Ja:Obj:=gC nL 458 457 760 768
def Jb:Obj:=cA ai eS 803 804 805 148 3 470 471 472 473 474 809 810
def Jc:Obj:=fo (gF eS aa 698 475 (ms 16 0))
def Jd:Obj:=gD [en P ap 798 (.str aa 698),en P ad 802 (.int 146 801),en P ai 811 (.ref 476),en P a9 814 (.ref 477),en P aX 816 (.ref 480),en P aQ 818 (.ref 481),en P bg 819 .none] 4
def Je:Obj:=gC lO 479 478 791 799
def Jf:Obj:=cA ai eT 834 835 836 153 5 491 492 493 494 495 842 843
def Jg:Obj:=fo (gF eT aa 698 496 (ms 17 0))
def Jh:Obj:=gD [en P ap 829 (.str aa 698),en P ad 833 (.int 151 832),en P ai 844 (.ref 497),en P a9 849 (.ref 498),en P aX 851 (.ref 501),en P aQ 853 (.ref 502),en P bg 854 .none] 4
def Ji:Obj:=gC lP 500 499 822 830
def Jj:Obj:=cA ai fJ 869 870 871 160 4 512 513 514 515 516 876 877
def Jk:Obj:=fo (gF fJ aa 698 517 (ms 18 0))
def Jl:Obj:=gD [en P ap 864 (.str aa 698),en P ad 868 (.int 158 867),en P ai 878 (.ref 518),en P a9 882 (.ref 519),en P aX 884 (.ref 522),en P aQ 886 (.ref 523),en P bg 887 .none] 4
def Jm:Obj:=gC nM 521 520 857 865
def Jn:Obj:=cA ai fK 902 903 904 166 3 533 534 535 536 537 908 909
def Jo:Obj:=fo (gF fK aa 698 538 (ms 19 0))
def Jp:Obj:=gD [en P ap 897 (.str aa 698),en P ad 901 (.int 164 900),en P ai 910 (.ref 539),en P a9 913 (.ref 540),en P aX 915 (.ref 543),en P aQ 917 (.ref 544),en P bg 918 .none] 4
def Jq:Obj:=gC nN 542 541 890 898
def Jr:Obj:=cA ai ei 933 934 935 171 5 554 555 556 557 558 941 942
def Js:Obj:=fo (gF ei aa 698 559 (ms 20 0))
def Jt:Obj:=gD [en P ap 928 (.str aa 698),en P ad 932 (.int 169 931),en P ai 943 (.ref 560),en P a9 948 (.ref 561),en P aX 950 (.ref 564),en P aQ 952 (.ref 565),en P bg 953 .none] 4
def Ju:Obj:=gC jA 563 562 921 929
def Jv:Obj:=cA ai cY 968 969 970 178 4 575 576 577 578 579 975 976
def Jw:Obj:=fo (gF cY aa 698 580 (ms 21 0))
def Jx:Obj:=gD [en P ap 963 (.str aa 698),en P ad 967 (.int 176 966),en P ai 977 (.ref 581),en P a9 981 (.ref 582),en P aX 983 (.ref 585),en P aQ 985 (.ref 586),en P bg 986 .none] 4
def Jy:Obj:=gC eU 584 583 956 964
def Jz:Obj:=cA ai d9 1003 1004 1005 185 2 596 597 598 599 600 1008 1009
def JA:Obj:=fo (gF d9 aA 989 601 (ms 23 0))
def JB:Obj:=cA am eV 1011 1012 1013 188 4 603 604 605 606 607 1018 1019
def JC:Obj:=fo (gF eV aA 989 608 (ms 23 1))
def JD:Obj:=cA aK ej 1021 1022 1023 192 4 610 611 612 613 614 1029 1030
def JE:Obj:=fo (gF ej aA 989 615 (ms 23 2))
def JF:Obj:=cA g7 dC 1032 1033 1034 197 4 617 618 619 620 621 1040 1041
def JG:Obj:=fo (gF dC aA 989 622 (ms 23 3))
def JH:Obj:=cB d8 cK 1043 1044 1045 201 4 624 625 626 1046 1047
def JI:Obj:=fo (gF cK aA 989 627 (ms 23 4))
def JJ:Obj:=cA jW da 1049 1050 1051 218 4 629 630 631 632 633 1057 1058
def JK:Obj:=fo (gF da aA 989 634 (ms 23 5))
def JL:Obj:=cA lQ dD 1060 1061 1062 224 3 636 637 638 639 640 1067 1068
def JM:Obj:=fo (gF dD aA 989 641 (ms 23 6))
def JN:Obj:=gD [en P ap 998 (.str aA 989),en P ad 1002 (.int 183 1001),en P ai 1010 (.ref 602),en P am 1020 (.ref 609),en P aK 1031 (.ref 616),en P g7 1042 (.ref 623),en P d8 1048 (.ref 628),en P jW 1059 (.ref 635),en P lQ 1069 (.ref 642),en P a9 1071 (.ref 643),en P aX 1073 (.ref 646),en P aQ 1075 (.ref 647),en P bg 1076 .none] 4
def JO:Obj:=gC g6 645 644 991 999
def JP:Obj:=cA db db 1079 1080 1081 228 2 650 651 652 653 654 1086 1087
def JQ:Obj:=fo (gF db aA 989 655 (st 24))
def DX:Obj:=tp [.str tP 1091]
def JR:Obj:=cA ai eW 1105 1106 1107 237 3 665 666 667 668 669 1111 1112
def JS:Obj:=fo (gF eW ag 1089 670 (ms 27 0))
def JT:Obj:=cA g7 fL 1114 1115 1116 241 2 672 673 674 675 676 1122 1123
def JU:Obj:=fo (gF fL ag 1089 677 (ms 27 1))
def JV:Obj:=cA fm iA 1125 1126 1127 249 3 679 680 681 682 683 1132 1133
def JW:Obj:=fo (gF iA ag 1089 684 (ms 27 2))
def JX:Obj:=cB aK gZ 1135 1136 1137 258 3 686 687 688 1138 1139
def JY:Obj:=fo (gF gZ ag 1089 689 (ms 27 3))
def JZ:Obj:=cB d8 dT 1141 1142 1143 261 2 691 692 693 1144 1145
def K0:Obj:=fo (gF dT ag 1089 694 (ms 27 4))
def K2:Obj:=cA tQ iB 1147 1148 1149 280 2 696 697 698 699 700 1156 1157
def K3:Obj:=fo (gF iB ag 1089 701 (ms 27 5))
def K4:Obj:=cB pX iC 1159 1160 1161 290 2 703 704 705 1162 1163
def K5:Obj:=fo (gF iC ag 1089 706 (ms 27 6))
def K6:Obj:=cA j4 ek 1165 1166 1167 296 2 708 709 710 711 712 1178 1179
def K7:Obj:=fo (gF ek ag 1089 713 (ms 27 7))
def K8:Obj:=gD [en P ap 1100 (.str ag 1089),en P ad 1104 (.int 235 1103),en P ai 1113 (.ref 671),en P g7 1124 (.ref 678),en P fm 1134 (.ref 685),en P aK 1140 (.ref 690),en P d8 1146 (.ref 695),en P tQ 1158 (.ref 702),en P pX 1164 (.ref 707),en P j4 1180 (.ref 714),en P a9 1183 (.ref 715),en P aX 1185 (.ref 718),en P aQ 1187 (.ref 719),en P bg 1188 .none] 4
def K9:Obj:=gC lR 717 716 1093 1101
def Ka:Obj:=cA i7 i7 1191 1192 1193 313 2 722 723 724 725 726 1196 1197
def Kb:Obj:=fo (gF i7 ag 1089 727 (st 28))
def Kc:Obj:=cA dc dc 1199 1200 1201 315 1 729 730 731 732 733 1204 1205
def Kd:Obj:=fo (gF dc ag 1089 734 (st 29))
def Ke:Obj:=cA dH dH 1207 1208 1209 321 1 736 737 738 739 740 1212 1213
def Kf:Obj:=fo (gF dH ag 1089 741 (st 30))
def Kg:Obj:=cA eG eG 1215 1216 1217 327 2 743 744 745 746 747 1225 1226
def Kh:Obj:=fo (gF eG ag 1089 748 (st 31))
def Ki:Obj:=cA g8 g8 1230 1231 1232 337 1 750 751 752 753 754 1235 1236
def Kj:Obj:=fo (gF g8 aW 1228 755 (st 33))
def GC:Obj:=tp []
def DY:Obj:=tp [.ref 764]
def Kk:Obj:=cA ai eX 1250 1251 1252 342 2 766 767 768 769 770 1255 1256
def Kl:Obj:=fo (fd eX 3 (.ref 765) .none .none (.str aW 1228) (.ref 771) .none 0 (ms 34 0))
def Km:Obj:=cA jY hU 1258 1259 1260 347 2 773 774 775 776 777 1264 1265
def Kn:Obj:=fo (gF hU aW 1228 778 (ms 34 1))
def Ko:Obj:=cA tS iD 1267 1268 1269 351 2 780 781 782 783 784 1274 1275
def Kp:Obj:=fo (gF iD aW 1228 785 (ms 34 2))
def Kq:Obj:=gD [en P ap 1245 (.str aW 1228),en P ad 1249 (.int 340 1248),en P ai 1257 (.ref 772),en P jY 1266 (.ref 779),en P tS 1276 (.ref 786),en P a9 1279 (.ref 787),en P aX 1281 (.ref 790),en P aQ 1283 (.ref 791),en P bg 1284 .none] 4
def Kr:Obj:=gC lS 789 788 1238 1246
def Ks:Obj:=cA dI dI 1289 1290 1291 359 2 794 795 796 797 798 1297 1298
def Kt:Obj:=fo (gF dI ab 1287 799 (st 36))
def Ku:Obj:=cA dJ dJ 1300 1301 1302 366 2 801 802 803 804 805 1306 1307
def Kv:Obj:=fo (gF dJ ab 1287 806 (st 37))
def Kw:Obj:=cA eH eH 1309 1310 1311 373 2 808 809 810 811 812 1314 1315
def Kx:Obj:=fo (gF eH ab 1287 813 (st 38))
def Ky:Obj:=cA dK dK 1317 1318 1319 375 2 815 816 817 818 819 1322 1323
def Kz:Obj:=fo (gF dK ab 1287 820 (st 39))
def KA:Obj:=cA cO cO 1325 1326 1327 378 3 822 823 824 825 826 1331 1332
def KC:Obj:=fo (gF cO ab 1287 827 (st 40))
def KD:Obj:=cA dL dL 1334 1335 1336 380 2 829 830 831 832 833 1339 1340
def KE:Obj:=fo (gF dL ab 1287 834 (st 41))
def KG:Obj:=cB dM dM 1342 1343 1344 384 5 836 837 838 1345 1346
def KH:Obj:=fo (gF dM ab 1287 839 (st 42))
def KI:Obj:=cB cb cb 1348 1349 1350 389 3 841 842 843 1351 1352
def KJ:Obj:=fo (gF cb ab 1287 844 (st 43))
def KK:Obj:=cA dN dN 1354 1355 1356 395 4 846 847 848 849 850 1369 1370
def KL:Obj:=fo (gF dN ab 1287 851 (st 44))
def KM:Obj:=cA dO dO 1372 1373 1374 407 4 853 854 855 856 857 1386 1387
def KN:Obj:=fo (gF dO ab 1287 858 (st 45))
def KO:Obj:=cA dP dP 1389 1390 1391 417 3 860 861 862 863 864 1401 1402
def KP:Obj:=fo (gF dP ab 1287 865 (st 46))
def KQ:Obj:=cA cy cy 1404 1405 1406 434 1 867 868 869 870 871 1412 1413
def KR:Obj:=fo (gF cy ab 1287 872 (st 47))
def KS:Obj:=cA ce ce 1415 1416 1417 439 3 874 875 876 877 878 1421 1422
def KT:Obj:=fo (gF ce ab 1287 879 (st 48))
def KU:Obj:=cA eI eI 1424 1425 1426 441 3 881 882 883 884 885 1435 1436
def KW:Obj:=fo (gF eI ab 1287 886 (st 49))
def KX:Obj:=cB de de 1438 1439 1440 451 2 888 889 890 1441 1442
def KY:Obj:=fo (gF de ab 1287 891 (st 50))
def KZ:Obj:=cA dQ dQ 1444 1445 1446 480 2 893 894 895 896 897 1449 1450
def L0:Obj:=fo (gF dQ ab 1287 898 (st 51))
def L1:Obj:=cA cQ cQ 1452 1453 1454 482 1 900 901 902 903 904 1458 1459
def L3:Obj:=fo (gF cQ ab 1287 905 (st 52))
def L4:Obj:=cB dg dg 1461 1462 1463 487 2 907 908 909 1464 1465
def L5:Obj:=fo (gF dg ab 1287 910 (st 53))
def L6:Obj:=cB cR cR 1467 1468 1469 516 3 912 913 914 1470 1471
def L7:Obj:=fo (gF cR ab 1287 915 (st 54))
def L8:Obj:=cB bf bf 1473 1474 1475 532 2 917 918 919 1476 1477
def L9:Obj:=fo (gF bf ab 1287 920 (st 55))
def La:Obj:=cA pY pY 1479 1480 1481 540 1 922 923 924 925 926 1490 1491
def Lb:Obj:=fo (gF pY ab 1287 927 (st 56))
def AY:List DictEntry:=[en P bg 166 .none,en P s7 167 .none,en P tU 168 (.builtin "__main__.__loader__#opaque"),en P wA 169 .none,en P mM 170 (.ref 6),en P pZ 171 (.ref 4),en P wB 173 (.str iq 172),en P tV 174 .none,en P lM 193 (.ref 21),en P su 247 (.ref 59),en P sw 301 (.ref 101),en P sx 355 (.ref 143),en P sy 409 (.ref 185),en P sB 465 (.ref 227),en P sL 498 (.ref 248),en P nI 556 (.ref 290),en P sQ 610 (.ref 332),en P nJ 664 (.ref 374),en P e6 697 (.ref 395),en P lN 728 (.ref 416),en P nK 759 (.ref 437),en P nL 790 (.ref 458),en P lO 821 (.ref 479),en P lP 856 (.ref 500),en P nM 889 (.ref 521),en P nN 920 (.ref 542),en P jA 955 (.ref 563),en P eU 988 (.ref 584),en P g6 1078 (.ref 645),en P db 1088 (.ref 656),en P gG 1092 (.ref 657),en P lR 1190 (.ref 717),en P i7 1198 (.ref 728),en P dc 1206 (.ref 735),en P dH 1214 (.ref 742),en P eG 1227 (.ref 749),en P g8 1237 (.ref 756),en P lS 1286 (.ref 789),en P dI 1299 (.ref 800),en P dJ 1308 (.ref 807),en P eH 1316 (.ref 814),en P dK 1324 (.ref 821),en P cO 1333 (.ref 828),en P dL 1341 (.ref 835),en P dM 1347 (.ref 840),en P cb 1353 (.ref 845),en P dN 1371 (.ref 852),en P dO 1388 (.ref 859),en P dP 1403 (.ref 866),en P cy 1414 (.ref 873),en P ce 1423 (.ref 880),en P eI 1437 (.ref 887),en P de 1443 (.ref 892),en P dQ 1451 (.ref 899),en P cQ 1460 (.ref 906),en P dg 1466 (.ref 911),en P cR 1472 (.ref 916),en P bf 1478 (.ref 921),en P pY 1492 (.ref 928)]
noncomputable def DZ:List Value:=[.int 1 0,.int 0 0,.ref 20,.int 5 0,.int 0 0,.ref 27,.int 18 0,.int 0 0,.ref 69,.int 32 0,.int 0 0,.ref 111,.int 46 0,.int 0 0,.ref 153,.int 60 0,.int 0 0,.ref 195,.int 75 0,.int 0 0,.ref 237,.int 81 0,.int 0 0,.ref 258,.int 97 0,.int 0 0,.ref 300,.int 111 0,.int 0 0,.ref 342,.int 125 0,.int 0 0,.ref 384,.int 132 0,.int 0 0,.ref 405,.int 136 0,.int 0 0,.ref 426,.int 141 0,.int 0 0,.ref 447,.int 146 0,.int 0 0,.ref 468,.int 151 0,.int 0 0,.ref 489,.int 158 0,.int 0 0,.ref 510,.int 164 0,.int 0 0,.ref 531,.int 169 0,.int 0 0,.ref 552,.int 176 0,.int 0 0,.ref 573,.int 183 0,.int 0 0,.ref 594,.int 228 0,.int 0 0,.ref 655,.int 235 0,.int 0 0,.ref 663,.int 313 0,.int 0 0,.ref 727,.int 315 0,.int 0 0,.ref 734,.int 321 0,.int 0 0,.ref 741,.int 327 0,.int 0 0,.ref 748,.int 337 0,.int 0 0,.ref 755,.int 340 0,.int 0 0,.ref 762,.int 359 0,.int 0 0,.ref 799,.int 366 0,.int 0 0,.ref 806,.int 373 0,.int 0 0,.ref 813,.int 375 0,.int 0 0,.ref 820,.int 378 0,.int 0 0,.ref 827,.int 380 0,.int 0 0,.ref 834,.int 384 0,.int 0 0,.ref 839,.int 389 0,.int 0 0,.ref 844,.int 395 0,.int 0 0,.ref 851,.int 407 0,.int 0 0,.ref 858,.int 417 0,.int 0 0,.ref 865,.int 434 0,.int 0 0,.ref 872,.int 439 0,.int 0 0,.ref 879,.int 441 0,.int 0 0,.ref 886,.int 451 0,.int 0 0,.ref 891,.int 480 0,.int 0 0,.ref 898,.int 482 0,.int 0 0,.ref 905,.int 487 0,.int 0 0,.ref 910,.int 516 0,.int 0 0,.ref 915,.int 532 0,.int 0 0,.ref 920,.int 540 0,.int 0 0,.ref 927]
def No (x3 Qd:Obj):BT:=aj aT (aj (tp [.str aH 211,.str am 212]) (aj (bI (.ref 59)) (aj aT (aj (gD [en P ap 506 (.str a7 194),en P aN 508 (.str nI 507),en P ad 510 (.int 81 509),en P ai 521 (.ref 266),en P aV 528 (.ref 273),en P bm 535 (.ref 280),en P be 544 (.ref 287),en P a9 549 (.ref 288)] 8) (az (gW 510 507 aa 698)) (az dh)) (aj (tb [.int 127 0,.int 4 0,.ref 391]) (az aT) (az (tp [.str fm 1447,.str yd 1448])))) (aj (bP) (aj aT (az aT) (az (tp [.str iO 1337,.str jZ 1338]))) (aj (cC nL 762 763 764 141 0 445 446 765 766) (az aT) .nil))) (aj aT (aj (fz gv (ms 5 0)) (aj (fo (gF iL a7 194 286 (ms 8 3))) (az (gA 914 542)) (az Ks)) (aj (J1 P) (az JS) (az La))) (aj (cA be jo 446 447 448 73 3 218 219 220 221 222 452 453) (aj aT (az (fz eV (ms 23 1))) (az aT)) (aj Je (az Kd) .nil)))) (aj (fz kP (ms 2 2)) (aj dh (aj Iu (aj (fz jp (ms 8 1)) (az (bP)) (az aT)) (aj (bI (.ref 395)) (az JP) (az L5))) (aj aT (aj (gS 332) (az (gD [en P ap 998 (.str aA 989),en P aN 1000 (.str g6 999),en P ad 1002 (.int 183 1001),en P ai 1010 (.ref 602),en P am 1020 (.ref 609),en P aK 1031 (.ref 616),en P g7 1042 (.ref 623),en P d8 1048 (.ref 628),en P jW 1059 (.ref 635),en P lQ 1069 (.ref 642),en P a9 1071 (.ref 643)] 11)) (az dh)) (aj aT (az (gB 1186 717)) .nil))) (aj (cC sx 304 305 306 32 0 109 110 307 308) (aj (fo (gF kU a7 194 174 (ms 5 2))) (aj dh (az Jr) (az aT)) (aj aT (az dh) .nil)) (aj aT (aj (tp [.str aH 649,.str aV 650,.str bm 651]) (az JG) (az KS)) (aj (fz eT (ms 17 0)) (az dh) .nil))))
def Np (x3 Qd:Obj):BT:=aj (bP) (aj aT (aj aT (aj dh (aj aT (az (tp [.str aB 879,.str i6 880,.str bX 881])) (az (tp [.str aH 1261,.str bX 1262,.str am 1263]))) (aj IU (az (gB 1074 645)) (az aT))) (aj (tp [.str aH 425,.str aR 426,.str aB 427,.str gw 428]) (aj (fz jq (ms 9 3)) (az (Jx P)) (az KG)) (aj J8 (az aT) .nil))) (aj (gB 297 101) (aj (cA aV jR 377 378 379 52 1 162 163 164 165 166 381 382) (aj aT (az (tb [.int 171 0,.int 4 0,.ref 559])) (az Kv)) (aj (gD [en P ap 736 (.str aa 698),en P aN 738 (.str nK 737),en P ad 740 (.int 136 739),en P ai 749 (.ref 434),en P a9 752 (.ref 435)] 5) (az aT) .nil)) (aj (bI (.ref 227)) (aj dh (az JD) (az (fz cy (st 47)))) (aj aT (az aT) .nil)))) (aj (cA be jk 230 231 232 16 3 50 51 52 53 54 236 237) (aj (tp [.str aH 279]) (aj aT (aj (cA bm jT 529 530 531 92 1 274 275 276 277 278 533 534) (az (tp [.str aH 905,.str aR 906,.str aB 907])) (az (gB 1282 789))) (aj aT (az (cC lR 1095 1096 1097 235 0 661 662 1098 1099)) (az (fz bf (st 55))))) (aj (fz kW (ms 6 2)) (aj (gW 342 339 a7 194) (az aT) (az (tp [.str iO 1375,.str jZ 1376,.str AV 1377,.str wz 1378,.str am 1379,.str bG 1380,.str tR 1381,.str FJ 1382,.str AX 1383,.str GB 1384,.str aB 1385]))) (aj dh (az Ka) .nil))) (aj Ir (aj (tp [.str aB 400,.str aO 401]) (aj (tp [.str aH 581]) (az (bI (.ref 563))) (az dh)) (aj (gB 755 437) (az K0) .nil)) (aj (IF P) (aj (gA 658 374) (az (tp [.str aH 1052,.str pX 1053,.str mK 1054,.str jX 1055,.str FJ 1056])) (az KW)) (aj (gS 500) (az (gD [en P ap 1245 (.str aW 1228),en P aN 1247 (.str lS 1246),en P ad 1249 (.int 340 1248),en P ai 1257 (.ref 772),en P jY 1266 (.ref 779),en P tS 1276 (.ref 786),en P a9 1279 (.ref 787)] 7)) .nil))))
def Nq (x3 Qd:Obj):BT:=aj (fz lM (st 0)) (aj Ou (aj aT (aj (fz kT (ms 4 2)) (aj (gW 258 255 a7 194) (az aT) (az Kk)) (aj dh (az (tp [.str dY 1070])) (az L0))) (aj (cC sB 412 413 414 60 0 193 194 415 416) (aj aT (az (fz cY (ms 21 0))) (az KE)) (aj (tp [.str aH 775,.str iN 776,.str aK 777]) (az K5) .nil))) (aj (tp [.str fS 292,.str bG 293]) (aj dh (aj (gA 550 290) (az aT) (az (tp [.str iO 1303,.str Ik 1304,.str AT 1305]))) (aj (gS 416) (az aT) .nil)) (aj IC (aj (fz jr (ms 10 1)) (az dh) (az aT)) (aj (bI (.ref 479)) (az aT) .nil)))) (aj dh (aj (cA aV jP 269 270 271 24 1 78 79 80 81 82 273 274) (aj (bI (.ref 143)) (aj dh (az (cC nN 892 893 894 164 0 529 530 895 896)) (az (tp [.str cm 1277,.str gc 1278]))) (aj aT (az (bP)) (az L6))) (aj aT (aj (gD [en P ap 618 (.str a7 194),en P aN 620 (.str nJ 619),en P ad 622 (.int 111 621),en P ai 631 (.ref 350),en P aV 638 (.ref 357),en P bm 645 (.ref 364),en P be 654 (.ref 371),en P a9 657 (.ref 372)] 8) (az (gW 594 591 aA 989)) (az KK)) (aj (tb [.int 148 0,.int 4 0,.ref 475]) (az dh) .nil))) (aj (tp [.str aH 317,.str kS 318,.str br 319]) (aj aT (aj IL (az Ju) (az (fz dK (st 39)))) (aj (tp [.str aK 750,.str am 751]) (az aT) .nil)) (aj (fz gy (ms 7 0)) (aj (fo (gF iM a7 194 370 (ms 10 3))) (az JH) (az (tp [.str bG 1427,.str br 1428,.str Im 1429,.str aO 1430,.str aB 1431,.str yd 1432,.str tT 1433,.str Ii 1434]))) (aj (Jh P) (az Ki) .nil))))
def Nr (x3 Qd:Obj):BT:=aj (cC su 198 199 200 5 0 25 26 201 202) (aj aT (aj (fz gt (ms 3 0)) (aj (cA be jm 337 338 339 44 3 134 135 136 137 138 343 344) (aj aT (az (gB 885 521)) (az Kn)) (aj IY (az dh) (az aT))) (aj IA (aj (IN P) (az (gS 584)) (az (fz cb (st 43)))) (aj (gA 784 458) (az (tp [.str iz 1181,.str mL 1182])) .nil))) (aj (bP) (aj (tp [.str aH 387]) (aj (tb [.int 99 0,.int 4 0,.ref 307,.int 103 0,.int 4 0,.ref 314,.int 106 0,.int 4 0,.ref 321,.int 109 0,.int 4 0,.ref 328]) (az dh) (az aT)) (aj (gW 426 423 aa 698) (az (fz iA (ms 27 2))) .nil)) (aj aT (aj (cA bm jV 639 640 641 120 1 358 359 360 361 362 643 644) (az (tp [.str aH 1035,.str mw 1036,.str mK 1037,.str jX 1038,.str am 1039])) (az dh)) (aj aT (az (fz eG (st 31))) .nil)))) (aj Ow (aj (fo (gF kQ a7 194 90 (ms 3 2))) (aj aT (aj (tp [.str aH 539,.str aV 540,.str bm 541]) (az Jo) (az dh)) (aj (fz eR (ms 13 0)) (az (tp [.str aH 1108,.str iz 1109,.str mL 1110])) (az dh))) (aj dh (aj aT (az aT) (az KN)) (aj Jb (az (tp [.str cj 1202,.str aO 1203])) .nil))) (aj aT (aj (gB 405 185) (aj (fo (gF jU a7 194 314 (ms 9 1))) (az aT) (az KA)) (aj (bP) (az aT) .nil)) (aj (gS 248) (aj aT (az JK) (az KX)) (aj (gD [en P ap 864 (.str aa 698),en P aN 866 (.str nM 865),en P ad 868 (.int 158 867),en P ai 878 (.ref 518),en P a9 882 (.ref 519)] 5) (az (gW 762 759 aW 1228)) .nil))))
def Nt (x3 Qd:Obj):BT:=aj (tp [.str Os 190]) (aj (fz gq (ms 2 0)) (aj (bP) (aj (tp [.str aH 333]) (aj (tb [.int 83 0,.int 4 0,.ref 265,.int 89 0,.int 4 0,.ref 272,.int 92 0,.int 4 0,.ref 279,.int 95 0,.int 4 0,.ref 286]) (az dh) (az aT)) (aj (gW 384 381 a7 194) (az JL) (az (fz dQ (st 51))))) (aj aT (aj (cA bm kX 585 586 587 106 1 316 317 318 319 320 589 590) (az (tp [.str aH 971,.str aR 972,.str gX 973,.str gE 974])) (az (fz dL (st 41)))) (aj aT (az (fz iC (ms 27 6))) .nil))) (aj (cA be jl 283 284 285 30 3 92 93 94 95 96 289 290) (aj Iw (aj (IJ P) (az (gS 542)) (az aT)) (aj (gA 722 416) (az dh) .nil)) (aj (tp [.str aR 455,.str aB 456,.str gw 457]) (aj (tp [.str aH 635]) (az JC) (az KO)) (aj (gB 817 479) (az dh) .nil)))) (aj (fo (gF kP a7 194 48 (ms 2 2))) (aj aT (aj (gB 351 143) (aj (fo (gF jp a7 194 272 (ms 8 1))) (az aT) (az Ko)) (aj (bP) (az DX) (az dh))) (aj (cA aV jS 432 433 434 67 1 204 205 206 207 208 436 437) (aj aT (az (tb [.int 185 0,.int 4 0,.ref 601,.int 188 0,.int 4 0,.ref 608,.int 192 0,.int 4 0,.ref 615,.int 197 0,.int 4 0,.ref 622,.int 201 0,.int 4 0,.ref 627,.int 218 0,.int 4 0,.ref 634,.int 224 0,.int 4 0,.ref 641])) (az aT)) (aj (gD [en P ap 798 (.str aa 698),en P aN 800 (.str lO 799),en P ad 802 (.int 146 801),en P ai 811 (.ref 476),en P a9 814 (.ref 477)] 5) (az (bI (.ref 717))) .nil))) (aj aT (aj dh (aj aT (az (tp [.str aB 944,.str ck 945,.str aL 946,.str aO 947])) (az (tp [.str jZ 1320,.str AR 1321]))) (aj J3 (az JX) .nil)) (aj (tp [.str aH 481,.str i6 482,.str bX 483,.str aB 484]) (aj (fz iM (ms 10 3)) (az dh) (az aT)) (aj Jg (az aT) .nil))))
def Nu (x3 Qd:Obj):BT:=aj aT (aj (cA aV jO 216 217 218 10 1 36 37 38 39 40 220 221) (aj (tp [.str aH 263,.str fS 264,.str bG 265]) (aj aT (aj IH (az Jm) (az (fz hU (ms 34 1)))) (aj (tp [.str aR 687,.str gX 688,.str gE 689]) (az (bI (.ref 645))) (az L1))) (aj (fz gx (ms 6 0)) (aj (fo (gF jq a7 194 328 (ms 9 3))) (az (gA 982 584)) (az aT)) (aj (J9 P) (az K6) .nil))) (aj (bI (.ref 101)) (aj aT (aj (gD [en P ap 564 (.str a7 194),en P aN 566 (.str sQ 565),en P ad 568 (.int 97 567),en P ai 577 (.ref 308),en P aV 584 (.ref 315),en P bm 591 (.ref 322),en P be 600 (.ref 329),en P a9 603 (.ref 330)] 8) (az (gW 552 549 aa 698)) (az dh)) (aj (tb [.int 138 0,.int 4 0,.ref 433]) (az (tp [.str aH 1128,.str cj 1129,.str aR 1130,.str am 1131])) .nil)) (aj (bP) (aj aT (az aT) (az KR)) (aj (cC lP 824 825 826 151 0 487 488 827 828) (az (tp [.str sT 1218,.str mL 1219,.str yc 1220,.str am 1221,.str cj 1222,.str DQ 1223,.str aR 1224])) .nil)))) (aj (tp [.str am 239]) (aj (fz kQ (ms 3 2)) (aj (cC sy 358 359 360 46 0 151 152 361 362) (aj aT (az (fz fK (ms 19 0))) (az (bI (.ref 789)))) (aj (tp [.str aH 715,.str fm 716]) (az aT) (az L9))) (aj (fo (gF kW a7 194 216 (ms 6 2))) (aj dh (az Jz) (az (fz dO (st 45)))) (aj aT (az aT) .nil))) (aj dh (aj Iy (aj (fz jU (ms 9 1)) (az (bP)) (az aT)) (aj (bI (.ref 437)) (az dh) .nil)) (aj (gA 492 248) (aj (gS 374) (az (fz da (ms 23 5))) (az dh)) (aj aT (az (tb [.int 342 0,.int 4 0,.ref 771,.int 347 0,.int 4 0,.ref 778,.int 351 0,.int 4 0,.ref 785])) .nil))))
def Nv (x3 Qd:Obj):BT:=aj (fo (gF lM gV 164 20 (st 0))) (aj dh (aj (cC sw 250 251 252 18 0 67 68 253 254) (aj (fo (gF kT a7 194 132 (ms 4 2))) (aj dh (az Jj) (az aT)) (aj aT (az JO) (az dh))) (aj aT (aj (tp [.str aH 595,.str aV 596,.str bm 597]) (az Jw) (az dh)) (aj (fz fH (ms 15 0)) (az dh) .nil))) (aj Ip (aj aT (aj (gS 290) (az (gD [en P ap 928 (.str aa 698),en P aN 930 (.str jA 929),en P ad 932 (.int 169 931),en P ai 943 (.ref 560),en P a9 948 (.ref 561)] 5)) (az (fz dJ (st 37)))) (aj aT (az JT) .nil)) (aj (gB 461 227) (aj (fo (gF jr a7 194 356 (ms 10 1))) (az aT) (az (tp [.str iO 1407,.str jZ 1408,.str mw 1409,.str tT 1410,.str gE 1411]))) (aj (bP) (az Ke) .nil)))) (aj aT (aj aT (aj (bP) (aj aT (az aT) (az Kr)) (aj (cC lN 702 703 704 132 0 403 404 705 706) (az aT) (az aT))) (aj (tp [.str aH 442]) (aj (tb [.int 113 0,.int 4 0,.ref 349,.int 117 0,.int 4 0,.ref 356,.int 120 0,.int 4 0,.ref 363,.int 123 0,.int 4 0,.ref 370]) (az dh) (az aT)) (aj (gW 468 465 aa 698) (az aT) .nil))) (aj (fz gu (ms 4 0)) (aj (cA be jn 391 392 393 58 3 176 177 178 179 180 397 398) (aj aT (az (gB 951 563)) (az Kz)) (aj J6 (az (fz dT (ms 27 4))) .nil)) (aj IE (aj (IR P) (az aT) (az (fz eI (st 49)))) (aj (gA 850 500) (az aT) .nil))))
def Nw (x3 Qd:Obj):BT:=aj aT (aj (tp [.str aH 226]) (aj Oy (aj (tp [.str br 346,.str kS 347]) (aj (tp [.str aH 525]) (az (bI (.ref 521))) (az dh)) (aj (gB 693 395) (az aT) (az (fz dg (st 53))))) (aj dh (aj (gA 604 332) (az aT) (az KJ)) (aj (gS 458) (az K9) .nil))) (aj aT (aj (fz kU (ms 5 2)) (aj (gW 300 297 a7 194) (az aT) (az Kw)) (aj dh (az JW) .nil)) (aj (cC sL 468 469 470 75 0 235 236 471 472) (aj aT (az (fz dC (ms 23 3))) (az aT)) (aj (tp [.str aH 837,.str cj 838,.str am 839,.str bY 840,.str bn 841]) (az Kh) .nil)))) (aj (gB 243 59) (aj dh (aj (tp [.str aH 371,.str aO 372,.str aB 373]) (aj (fz iL (ms 8 3)) (az (Jp P)) (az aT)) (aj J0 (az (fz eW (ms 27 0))) (az aT))) (aj aT (aj IP (az (tp [.str aH 1014,.str am 1015,.str mK 1016,.str jX 1017])) (az dh)) (aj (tp [.str aK 812,.str eB 813]) (az (fz dc (st 29))) .nil))) (aj (cA aV jQ 323 324 325 38 1 120 121 122 123 124 327 328) (aj (bI (.ref 185)) (aj dh (az (cC eU 958 959 960 176 0 571 572 961 962)) (az aT)) (aj aT (az K2) .nil)) (aj aT (aj (gD [en P ap 672 (.str a7 194),en P aN 674 (.str e6 673),en P ad 676 (.int 125 675),en P ai 686 (.ref 392),en P a9 690 (.ref 393)] 5) (az dh) (az aT)) (aj (tb [.int 160 0,.int 4 0,.ref 517]) (az DY) .nil))))
def Nx (x3 Qd:Obj):BT:=aj dh (aj aT (aj aT (aj dh (aj aT (az aT) (az (tp [.str aH 1253,.str cm 1254]))) (aj (cC e6 667 668 669 125 0 382 383 670 671) (az (fz dD (ms 23 6))) (az aT))) (aj (gD [en P ap 417 (.str a7 194),en P aN 419 (.str sB 418),en P ad 421 (.int 60 420),en P ai 431 (.ref 203),en P aV 438 (.ref 210),en P bm 445 (.ref 217),en P be 454 (.ref 224),en P a9 458 (.ref 225)] 8) (aj (fz kX (ms 9 2)) (az dh) (az aT)) (aj (gW 447 444 aa 698) (az dh) .nil))) (aj (fz jl (ms 3 3)) (aj Iv (aj (tp [.str bY 545,.str am 546,.str bn 547,.str bG 548]) (az (gB 916 542)) (az Kt)) (aj J2 (az aT) (az Lb))) (aj (fo (gF jo a7 194 223 (ms 6 3))) (aj dh (az JB) (az (fz dP (st 46)))) (aj (gA 815 479) (az aT) .nil)))) (aj (cA bm kP 223 224 225 13 1 43 44 45 46 47 227 228) (aj (tp [.str aH 272]) (aj (gA 349 143) (aj (cA aV jp 522 523 524 89 1 267 268 269 270 271 526 527) (az (gD [en P ap 897 (.str aa 698),en P aN 899 (.str nN 898),en P ad 901 (.int 164 900),en P ai 910 (.ref 539),en P a9 913 (.ref 540)] 5)) (az (fz iD (ms 34 2)))) (aj aT (az JQ) (az aT))) (aj (fz jS (ms 6 1)) (aj (bI (.ref 332)) (az aT) (az (tp [.str iO 1357,.str jZ 1358,.str AV 1359,.str wz 1360,.str am 1361,.str bn 1362,.str DS 1363,.str AW 1364,.str aB 1365,.str mw 1366,.str tT 1367,.str tR 1368]))) (aj (bP) (az (gS 717)) .nil))) (aj (gW 111 108 a7 194) (aj aT (aj (tp [.str aH 572,.str am 573,.str br 574]) (az Js) (az dh)) (aj (fz fG (ms 14 0)) (az (fz gZ (ms 27 3))) .nil)) (aj dh (aj aT (az aT) (az KT)) (aj Jf (az (tp [.str am 1233,.str Ii 1234])) .nil))))
def Ny (x3 Qd:Obj):BT:=aj (gD [en P ap 203 (.str a7 194),en P aN 205 (.str su 204),en P ad 207 (.int 5 206),en P ai 215 (.ref 35),en P aV 222 (.ref 42),en P bm 229 (.ref 49),en P be 238 (.ref 56),en P a9 240 (.ref 57)] 8) (aj (fz jO (ms 2 1)) (aj dh (aj (tp [.str aH 340,.str aV 341,.str bm 342]) (aj (fz fE (ms 8 0)) (az (Jl P)) (az aT)) (aj IW (az (gS 645)) (az (fz cQ (st 52))))) (aj aT (aj (cA be jq 592 593 594 109 3 323 324 325 326 327 598 599) (az Jy) (az KH)) (aj (tp [.str aK 781,.str iN 782]) (az (fz ek (ms 27 7))) .nil))) (aj (gS 101) (aj (fo (gF jR a7 194 167 (ms 5 1))) (aj (bP) (az (cC jA 923 924 925 169 0 550 551 926 927)) (az aT)) (aj aT (az dh) .nil)) (aj aT (aj (tp [.str aH 642]) (az JE) (az KQ)) (aj (tb [.int 153 0,.int 4 0,.ref 496]) (az dh) .nil)))) (aj (fo (gF jk a7 194 55 (ms 2 3))) (aj aT (aj (tb [.int 48 0,.int 4 0,.ref 160,.int 52 0,.int 4 0,.ref 167,.int 55 0,.int 4 0,.ref 174,.int 58 0,.int 4 0,.ref 181]) (aj (fo (gF jT a7 194 279 (ms 8 2))) (az aT) (az (gS 789))) (aj dh (az (gW 663 660 ag 1089)) (az L8))) (aj (cA bm kW 439 440 441 70 1 211 212 213 214 215 443 444) (aj aT (az (fz d9 (ms 23 0))) (az aT)) (aj (tp [.str aH 806,.str eB 807,.str aK 808]) (az Kb) .nil))) (aj aT (aj (Ix P) (aj aT (az aT) (az (tp [.str jZ 1328,.str Gz 1329,.str GA 1330]))) (aj (gS 437) (az aT) .nil)) (aj IG (aj (gB 660 374) (az aT) (az aT)) (aj (bI (.ref 500)) (az aT) .nil))))
def Nz (x3 Qd:Obj):BT:=aj (cA lM lM 187 188 189 1 1 15 16 17 18 19 191 192) (aj aT (aj (tb [.int 20 0,.int 4 0,.ref 76,.int 24 0,.int 4 0,.ref 83,.int 27 0,.int 4 0,.ref 90,.int 30 0,.int 4 0,.ref 97]) (aj (cA bm kT 330 331 332 41 1 127 128 129 130 131 334 335) (aj aT (az (fz fJ (ms 18 0))) (az Kl)) (aj (tp [.str aH 680,.str aR 681,.str gX 682,.str gE 683]) (az (JN P)) (az aT))) (aj (gW 195 192 a7 194) (aj dh (az Jv) (az aT)) (aj aT (az aT) .nil))) (aj (Io P) (aj (tp [.str aH 380]) (aj (gB 552 290) (az (bP)) (az aT)) (aj (bI (.ref 416)) (az (fz fL (ms 27 1))) .nil)) (aj (gA 459 227) (aj (cA aV jr 632 633 634 117 1 351 352 353 354 355 636 637) (az (tp [.str aH 1024,.str Gv 1025,.str mK 1026,.str jX 1027,.str fm 1028])) (az dh)) (aj aT (az (fz dH (st 30))) .nil)))) (aj (tp [.str aH 233,.str aV 234,.str bm 235]) (aj (fo (gF jP a7 194 83 (ms 3 1))) (aj aT (aj (tp [.str aH 532]) (az (gW 531 528 aa 698)) (az (Kq P))) (aj (tb [.int 134 0,.int 4 0,.ref 412]) (az (gD [en P ap 1100 (.str ag 1089),en P aN 1102 (.str lR 1101),en P ad 1104 (.int 235 1103),en P ai 1113 (.ref 671),en P g7 1124 (.ref 678),en P fm 1134 (.ref 685),en P aK 1140 (.ref 690),en P d8 1146 (.ref 695),en P tQ 1158 (.ref 702),en P pX 1164 (.ref 707),en P j4 1180 (.ref 714),en P a9 1183 (.ref 715)] 12)) (az L7))) (aj dh (aj aT (az aT) (az KL)) (aj (cC lO 793 794 795 146 0 466 467 796 797) (az (tp [.str aR 1194,.str aB 1195])) .nil))) (aj aT (aj (fz jn (ms 5 3)) (aj IM (az (gA 949 563)) (az Ky)) (aj (J5 P) (az dh) .nil)) (aj ID (aj (tp [.str br 655,.str eB 656]) (az JI) (az aT)) (aj Ji (az Kj) .nil))))
def NA (x3 Qd:Obj):BT:=aj (gW 27 24 a7 194) (aj dh (aj Ox (aj (fo (gF jm a7 194 139 (ms 4 3))) (aj dh (az (gS 521)) (az aT)) (aj (gA 691 395) (az (tp [.str mK 1082,.str bX 1083,.str jX 1084,.str am 1085])) (az dh))) (aj aT (aj IO (az (bI (.ref 584))) (az KI)) (aj (gB 786 458) (az (K8 P)) .nil))) (aj (gD [en P ap 309 (.str a7 194),en P aN 311 (.str sx 310),en P ad 313 (.int 32 312),en P ai 322 (.ref 119),en P aV 329 (.ref 126),en P bm 336 (.ref 133),en P be 345 (.ref 140),en P a9 348 (.ref 141)] 8) (aj aT (aj (cC sQ 559 560 561 97 0 298 299 562 563) (az (tp [.str aH 936,.str ck 937,.str aO 938,.str aB 939,.str aL 940])) (az (fz eH (st 38)))) (aj aT (az JV) .nil)) (aj (tb [.int 77 0,.int 4 0,.ref 244]) (aj (fo (gF jV a7 194 363 (ms 10 2))) (az aT) (az (tp [.str eB 1418,.str Il 1419,.str bn 1420]))) (aj dh (az Kg) .nil)))) (aj (gA 241 59) (aj aT (aj dh (aj aT (az (tp [.str aR 911,.str aB 912])) (az (tp [.str uR 1292,.str Os 1293,.str Gy 1294,.str Ij 1295,.str DR 1296]))) (aj IZ (az aT) (az (tp [.str uR 1482,.str sT 1483,.str yd 1484,.str am 1485,.str cj 1486,.str mw 1487,.str yc 1488,.str DU 1489])))) (aj (tp [.str aH 449,.str aV 450,.str bm 451]) (aj (fz fF (ms 10 0)) (az dh) (az aT)) (aj Jc (az aT) .nil))) (aj (fz jQ (ms 4 1)) (aj (gS 185) (aj aT (az (tb [.int 178 0,.int 4 0,.ref 580])) (az KC)) (aj (gD [en P ap 767 (.str aa 698),en P aN 769 (.str nL 768),en P ad 771 (.int 141 770),en P ai 780 (.ref 455),en P a9 783 (.ref 456)] 5) (az (fz iB (ms 27 5))) .nil)) (aj (bI (.ref 248)) (aj (bP) (az aT) (az KY)) (aj aT (az GC) .nil))))
def NB (x3 Qd:Obj):BT:=aj aT (aj Ot (aj (gD [en P ap 255 (.str a7 194),en P aN 257 (.str sw 256),en P ad 259 (.int 18 258),en P ai 268 (.ref 77),en P aV 275 (.ref 84),en P bm 282 (.ref 91),en P be 291 (.ref 98),en P a9 294 (.ref 99)] 8) (aj aT (aj (cC nI 501 502 503 81 0 256 257 504 505) (az (tp [.str aH 872,.str i6 873,.str bX 874,.str aB 875])) (az (fz eX (ms 34 0)))) (aj aT (az JM) (az KZ))) (aj (tb [.int 62 0,.int 4 0,.ref 202,.int 67 0,.int 4 0,.ref 209,.int 70 0,.int 4 0,.ref 216,.int 73 0,.int 4 0,.ref 223]) (aj (fo (gF kX a7 194 321 (ms 9 2))) (az aT) (az KD)) (aj dh (az K4) .nil))) (aj (fo (gF jl a7 194 97 (ms 3 3))) (aj aT (aj IK (az (bI (.ref 542))) (az dh)) (aj (gB 724 416) (az (tp [.str aH 1117,.str cj 1118,.str aO 1119,.str tR 1120,.str aB 1121])) .nil)) (aj (IB P) (aj aT (az aT) (az KP)) (aj (gS 479) (az (tp [.str cj 1210,.str br 1211])) .nil)))) (aj aT (aj (fz jP (ms 3 1)) (aj (gS 143) (aj aT (az (tb [.int 166 0,.int 4 0,.ref 538])) (az Kp)) (aj (gD [en P ap 707 (.str aa 698),en P aN 709 (.str lN 708),en P ad 711 (.int 132 710),en P ai 719 (.ref 413),en P a9 721 (.ref 414)] 5) (az aT) (az (fz cR (st 54))))) (aj (fo (gF jS a7 194 209 (ms 6 1))) (aj (bP) (az (cC g6 993 994 995 183 0 592 593 996 997)) (az (fz dN (st 44)))) (aj aT (az aT) .nil))) (aj dh (aj (tp [.str aH 394,.str aV 395,.str bm 396]) (aj (fz gz (ms 9 0)) (az (Jt P)) (az aT)) (aj J4 (az JY) .nil)) (aj aT (aj (cA be iM 646 647 648 123 3 365 366 367 368 369 652 653) (az (fz cK (ms 23 4))) (az dh)) (aj (tp [.str bY 845,.str cj 846,.str am 847,.str bn 848]) (az (fz g8 (st 33))) .nil))))
def NC (x3 Qd:Obj):BT:=aj (tb [.int 7 0,.int 4 0,.ref 34,.int 10 0,.int 4 0,.ref 41,.int 13 0,.int 4 0,.ref 48,.int 16 0,.int 4 0,.ref 55]) (aj (fo (gF jO a7 194 41 (ms 2 1))) (aj aT (aj (fz jm (ms 4 3)) (aj II (az (gA 883 521)) (az Km)) (aj (IX P) (az aT) (az L3))) (aj Iz (aj (tp [.str br 601,.str am 602]) (az (gB 984 584)) (az dh)) (aj Ja (az K7) .nil))) (aj aT (aj dh (aj aT (az aT) (az (tp [.str iO 1312,.str AU 1313]))) (aj (cC nK 731 732 733 136 0 424 425 734 735) (az aT) .nil)) (aj (gD [en P ap 473 (.str a7 194),en P aN 475 (.str sL 474),en P ad 477 (.int 75 476),en P ai 487 (.ref 245),en P a9 491 (.ref 246)] 5) (aj (fz jV (ms 10 2)) (az dh) (az aT)) (aj (gW 489 486 aa 698) (az aT) .nil)))) (aj (Ov P) (aj (cA bm kQ 276 277 278 27 1 85 86 87 88 89 280 281) (aj (gW 153 150 a7 194) (aj dh (az Jn) (az aT)) (aj aT (az dh) (az aT))) (aj aT (aj (tp [.str aH 626,.str eB 627,.str br 628]) (az JA) (az KM)) (aj (fz eS (ms 16 0)) (az dh) .nil))) (aj (tp [.str aH 326]) (aj (gA 403 185) (aj (cA aV jU 578 579 580 103 1 309 310 311 312 313 582 583) (az (gD [en P ap 963 (.str aa 698),en P aN 965 (.str eU 964),en P ad 967 (.int 176 966),en P ai 977 (.ref 581),en P a9 981 (.ref 582)] 5)) (az (fz cO (st 40)))) (aj aT (az (tp [.str aH 1150,.str cj 1151,.str Gw 1152,.str br 1153,.str aR 1154,.str am 1155])) .nil)) (aj (gB 494 248) (aj (bI (.ref 374)) (az JJ) (az (fz de (st 50)))) (aj (bP) (az (cC lS 1240 1241 1242 340 0 760 761 1243 1244)) .nil))))
def ND (x3 Qd:Obj):BT:=aj aT (aj (tp [.str aH 219]) (aj (gW 69 66 a7 194) (aj aT (aj (tp [.str aH 514,.str bG 515,.str am 516,.str bY 517,.str bn 518]) (az Jk) (az dh)) (aj (fz cJ (ms 11 0)) (az (gA 1072 645)) (az (tp [.str DT 1455,.str mw 1456,.str yd 1457])))) (aj dh (aj aT (az (tp [.str aR 978,.str gX 979,.str gE 980])) (az (fz dM (st 42)))) (aj J7 (az (tp [.str aH 1168,.str cj 1169,.str aR 1170,.str mw 1171,.str aK 1172,.str AQ 1173,.str Ih 1174,.str am 1175,.str jX 1176,.str bG 1177])) .nil))) (aj (gA 295 101) (aj (fz jR (ms 5 1)) (aj (bI (.ref 290)) (az aT) (az Ku)) (aj (bP) (az JU) .nil)) (aj (gS 227) (aj aT (az (fz ej (ms 23 2))) (az aT)) (aj (gD [en P ap 829 (.str aa 698),en P aN 831 (.str lP 830),en P ad 833 (.int 151 832),en P ai 844 (.ref 497),en P a9 849 (.ref 498)] 5) (az Kf) .nil)))) (aj (fz jk (ms 2 3)) (aj dh (aj (gD [en P ap 363 (.str a7 194),en P aN 365 (.str sy 364),en P ad 367 (.int 46 366),en P ai 376 (.ref 161),en P aV 383 (.ref 168),en P bm 390 (.ref 175),en P be 399 (.ref 182),en P a9 402 (.ref 183)] 8) (aj (fz jT (ms 8 2)) (az dh) (az (gA 1280 789))) (aj (gW 405 402 aa 698) (az (tb [.int 237 0,.int 4 0,.ref 670,.int 241 0,.int 4 0,.ref 677,.int 249 0,.int 4 0,.ref 684,.int 258 0,.int 4 0,.ref 689,.int 261 0,.int 4 0,.ref 694,.int 280 0,.int 4 0,.ref 701,.int 290 0,.int 4 0,.ref 706,.int 296 0,.int 4 0,.ref 713])) (az dh))) (aj aT (aj (cC nJ 613 614 615 111 0 340 341 616 617) (az (tp [.str aH 1006,.str dY 1007])) (az dh)) (aj aT (az (fz i7 (st 28))) .nil))) (aj Iq (aj (fo (gF jn a7 194 181 (ms 5 3))) (aj dh (az (gS 563)) (az aT)) (aj (gA 753 437) (az JZ) .nil)) (aj (tp [.str aB 488,.str i6 489,.str bX 490]) (aj IS (az dh) (az KU)) (aj (gB 852 500) (az (bP)) .nil))))
def NE (x3 Qd:Obj):BT:=aj dh (aj aT (aj aT (aj (It P) (aj aT (az aT) (az (tp [.str aH 1270,.str AR 1271,.str Gx 1272,.str AS 1273]))) (aj (gS 395) (az (fz db (st 24))) (az L4))) (aj (tp [.str aH 435]) (aj (gB 606 332) (az (bP)) (az aT)) (aj (bI (.ref 458)) (az (gA 1184 717)) .nil))) (aj (tb [.int 34 0,.int 4 0,.ref 118,.int 38 0,.int 4 0,.ref 125,.int 41 0,.int 4 0,.ref 132,.int 44 0,.int 4 0,.ref 139]) (aj (cA bm kU 384 385 386 55 1 169 170 171 172 173 388 389) (aj aT (az (fz ei (ms 20 0))) (az Kx)) (aj (tp [.str aH 744,.str am 745,.str aK 746]) (az aT) .nil)) (aj (gW 237 234 a7 194) (aj dh (az JF) (az (fz ce (st 48)))) (aj aT (az aT) .nil)))) (aj (gS 59) (aj (tp [.str aH 286,.str aV 287,.str bm 288]) (aj aT (aj (cA be iL 536 537 538 95 3 281 282 283 284 285 542 543) (az Jq) (az (fz dI (st 36)))) (aj (tp [.str fm 720]) (az JR) (az (fz pY (st 56))))) (aj (fz jo (ms 6 3)) (aj IQ (az aT) (az (tp [.str iO 1392,.str jZ 1393,.str wz 1394,.str AV 1395,.str eB 1396,.str bn 1397,.str am 1398,.str tT 1399,.str mw 1400]))) (aj (Jd P) (az Kc) .nil))) (aj (fo (gF jQ a7 194 125 (ms 4 1))) (aj aT (aj (tp [.str aH 588]) (az (gW 573 570 aa 698)) (az dh)) (aj (tb [.int 143 0,.int 4 0,.ref 454]) (az K3) .nil)) (aj (bP) (aj aT (az (tp [.str aH 1063,.str aO 1064,.str aB 1065,.str jX 1066])) (az dh)) (aj (cC nM 859 860 861 158 0 508 509 862 863) (az aT) .nil))))
def FF (x3 Qd:Obj):BT:=aj (PySem.W.boot_o_0 P) (aj (PySem.W.boot_o_1 P) (aj x3 (aj (PySem.W.boot_o_7 P) (No P x3 Qd) (Np P x3 Qd)) (aj aT (Nq P x3 Qd) (Nr P x3 Qd))) (aj (PySem.W.boot_o_5 P) (aj (PySem.W.boot_o_9 P) (Nt P x3 Qd) (Nu P x3 Qd)) (aj (cC wy 182 183 184 1 0 11 12 185 186) (Nv P x3 Qd) (Nw P x3 Qd)))) (aj (PySem.W.boot_o_2 P) (aj (PySem.W.boot_o_4 P) (aj (PySem.W.boot_o_8 P) (Nx P x3 Qd) (Ny P x3 Qd)) (aj Qd (Nz P x3 Qd) (NA P x3 Qd))) (aj (PySem.W.boot_o_6 P) (aj (PySem.W.boot_o_10 P) (NB P x3 Qd) (NC P x3 Qd)) (aj (gW 13 3 gV 164) (ND P x3 Qd) (NE P x3 Qd))))
noncomputable def Lc (n:Nat)(t:BT):BT:=BT.rec (motive:=fun U=>Nat->Nat->BT) (fun U U=>.nil) (fun v U U Zq Zr a b=>@Bool.rec (fun U=>BT) .nil (.node v (Zq (Nat.mul 2 a) (Nat.add a b)) (Zr (Nat.mul 2 a) (Nat.add (Nat.mul 2 a) b))) (Nat.blt b n)) t 1 0
noncomputable def cH {α:Type}(l:List α):Nat->List α:=List.rec (motive:=fun U=>Nat->List α) (fun U=>[]) (fun x U ih n=>Nat.rec (motive:=fun U=>List α) [] (fun k U=>x::ih k) n) l
def FK (v0:Value)(more ep:Nat):Obj:=⟨.type "dict",none,.dict ⟨en P wC 165 v0::cH (AY P) more⟩ ep,⟨[]⟩⟩
end
def TT (n:Nat)(v0:Value)(more ep tab:Nat)(P:Params):BT:=Lc n (FF P (FK P v0 more ep) (tb (cH DZ tab)))
def SS (n toks:Nat)(v0:Value)(more ep tab:Nat)(w:World)(os:OsState):SharedT:=⟨TT n v0 more ep tab w.params,n,{},⟨[]⟩,{},toks,os⟩
abbrev bE:List Stmt:=behindTheImports i5
def eJ:Env:={scope:=i5.main.scope,locals:=mainNs,globals:=mainNs,cells:=[],code:=.ref 13,frame:=some 14}
abbrev cE:Code:=Code.body bE eJ
noncomputable abbrev qE:Pos:=⟨0,0,0,0⟩
abbrev BB:List Frame:=[topFrame qE]
noncomputable abbrev ann:Option Value:=some (.ref 6)
theorem GD (w:World)(os:OsState):topGo treeTable i5 w 11 ann 12 ⟨boot_heap w.params,⟨[]⟩,boot_drawn,boot_toks,os⟩ (topStub i5)=some ((SS 15 187 (.str gV 164) 8 9 0 w os).abs,⟨denote treeTable cE,cE,⟨0,0,0,0⟩,BB⟩):=by rw [PySem.W.Fast.te15667345088766844465,PySem.W.Fast.te14364793385576792824,PySem.W.Fast.te11892475500146522536];kernel_rfl!
theorem AZ (w:World)(os:OsState):segRunT treeTable i5 w 11 ann 1 1 (SS 15 187 (.str gV 164) 8 9 0 w os) (blockOf bE eJ cE ⟨0,0,0,0⟩ BB)=some (.next,(SS 15 187 (.str gV 164) 8 9 0 w os),cE,⟨0,0,0,0⟩):=by rw [PySem.W.Fast.te10110043849684766642,PySem.W.Fast.te14364793385576792824];kernel_rfl!
local macro_rules |`(tactic|trivial)=>`(tactic|(delta piecesOf;rw [PySem.W.Fast.te10110043849684766642,PySem.W.Fast.te14364793385576792824,PySem.W.Fast.te12563942051412417395];kernel_rfl!))
section
variable (w:World)(os:OsState)
theorem NF:segRunT treeTable i5 w 11 ann 1 39 (SS 15 187 (.str gV 164) 8 9 0 w os) (piecesOf (cH (bE.drop 0) 2) eJ cE ⟨0,0,0,0⟩ BB)=some (.next,(SS 22 196 (.str a7 194) 9 10 3 w os),cE,⟨4,0,4,8⟩):=by trivial
theorem NG:segRunT treeTable i5 w 11 ann 1 318 (SS 22 196 (.str a7 194) 9 10 3 w os) (piecesOf (cH (bE.drop 2) 1) eJ cE ⟨4,0,4,8⟩ BB)=some (.next,(SS 64 248 (.str a7 194) 10 11 6 w os),cE,⟨5,0,17,16⟩):=by trivial
theorem NH:segRunT treeTable i5 w 11 ann 1 320 (SS 64 248 (.str a7 194) 10 11 6 w os) (piecesOf (cH (bE.drop 3) 1) eJ cE ⟨5,0,17,16⟩ BB)=some (.next,(SS 106 302 (.str a7 194) 11 12 9 w os),cE,⟨18,0,31,16⟩):=by trivial
theorem NI:segRunT treeTable i5 w 11 ann 1 320 (SS 106 302 (.str a7 194) 11 12 9 w os) (piecesOf (cH (bE.drop 4) 1) eJ cE ⟨18,0,31,16⟩ BB)=some (.next,(SS 148 356 (.str a7 194) 12 13 12 w os),cE,⟨32,0,45,16⟩):=by trivial
theorem NJ:segRunT treeTable i5 w 11 ann 1 320 (SS 148 356 (.str a7 194) 12 13 12 w os) (piecesOf (cH (bE.drop 5) 1) eJ cE ⟨32,0,45,16⟩ BB)=some (.next,(SS 190 410 (.str a7 194) 13 14 15 w os),cE,⟨46,0,59,17⟩):=by trivial
theorem NK:segRunT treeTable i5 w 11 ann 1 322 (SS 190 410 (.str a7 194) 13 14 15 w os) (piecesOf (cH (bE.drop 6) 1) eJ cE ⟨46,0,59,17⟩ BB)=some (.next,(SS 232 466 (.str a7 194) 14 15 18 w os),cE,⟨60,0,74,17⟩):=by trivial
theorem NL:segRunT treeTable i5 w 11 ann 1 227 (SS 232 466 (.str a7 194) 14 15 18 w os) (piecesOf (cH (bE.drop 7) 1) eJ cE ⟨60,0,74,17⟩ BB)=some (.next,(SS 253 499 (.str a7 194) 15 16 21 w os),cE,⟨75,0,80,24⟩):=by trivial
theorem NM:segRunT treeTable i5 w 11 ann 1 324 (SS 253 499 (.str a7 194) 15 16 21 w os) (piecesOf (cH (bE.drop 8) 1) eJ cE ⟨75,0,80,24⟩ BB)=some (.next,(SS 295 557 (.str a7 194) 16 17 24 w os),cE,⟨81,0,96,17⟩):=by trivial
theorem NN:segRunT treeTable i5 w 11 ann 1 320 (SS 295 557 (.str a7 194) 16 17 24 w os) (piecesOf (cH (bE.drop 9) 1) eJ cE ⟨81,0,96,17⟩ BB)=some (.next,(SS 337 611 (.str a7 194) 17 18 27 w os),cE,⟨97,0,110,17⟩):=by trivial
theorem NO:segRunT treeTable i5 w 11 ann 1 320 (SS 337 611 (.str a7 194) 17 18 27 w os) (piecesOf (cH (bE.drop 10) 1) eJ cE ⟨97,0,110,17⟩ BB)=some (.next,(SS 379 665 (.str a7 194) 18 19 30 w os),cE,⟨111,0,124,17⟩):=by trivial
theorem Ld:segRunT treeTable i5 w 11 ann 1 236 (SS 379 665 (.str a7 194) 18 19 30 w os) (piecesOf (cH (bE.drop 11) 2) eJ cE ⟨111,0,124,17⟩ BB)=some (.next,(SS 400 700 (.str aa 698) 19 20 33 w os),cE,⟨131,0,131,8⟩):=by trivial
theorem Le:segRunT treeTable i5 w 11 ann 1 223 (SS 400 700 (.str aa 698) 19 20 33 w os) (piecesOf (cH (bE.drop 13) 1) eJ cE ⟨131,0,131,8⟩ BB)=some (.next,(SS 421 729 (.str aa 698) 20 21 36 w os),cE,⟨132,0,135,24⟩):=by trivial
theorem Lf:segRunT treeTable i5 w 11 ann 1 225 (SS 421 729 (.str aa 698) 20 21 36 w os) (piecesOf (cH (bE.drop 14) 1) eJ cE ⟨132,0,135,24⟩ BB)=some (.next,(SS 442 760 (.str aa 698) 21 22 39 w os),cE,⟨136,0,140,26⟩):=by trivial
theorem Lg:segRunT treeTable i5 w 11 ann 1 225 (SS 442 760 (.str aa 698) 21 22 39 w os) (piecesOf (cH (bE.drop 15) 1) eJ cE ⟨136,0,140,26⟩ BB)=some (.next,(SS 463 791 (.str aa 698) 22 23 42 w os),cE,⟨141,0,145,26⟩):=by trivial
theorem Lh:segRunT treeTable i5 w 11 ann 1 225 (SS 463 791 (.str aa 698) 22 23 42 w os) (piecesOf (cH (bE.drop 16) 1) eJ cE ⟨141,0,145,26⟩ BB)=some (.next,(SS 484 822 (.str aa 698) 23 24 45 w os),cE,⟨146,0,150,26⟩):=by trivial
theorem Li:segRunT treeTable i5 w 11 ann 1 229 (SS 484 822 (.str aa 698) 23 24 45 w os) (piecesOf (cH (bE.drop 17) 1) eJ cE ⟨146,0,150,26⟩ BB)=some (.next,(SS 505 857 (.str aa 698) 24 25 48 w os),cE,⟨151,0,157,26⟩):=by trivial
theorem Lj:segRunT treeTable i5 w 11 ann 1 227 (SS 505 857 (.str aa 698) 24 25 48 w os) (piecesOf (cH (bE.drop 18) 1) eJ cE ⟨151,0,157,26⟩ BB)=some (.next,(SS 526 890 (.str aa 698) 25 26 51 w os),cE,⟨158,0,163,24⟩):=by trivial
theorem Lk:segRunT treeTable i5 w 11 ann 1 225 (SS 526 890 (.str aa 698) 25 26 51 w os) (piecesOf (cH (bE.drop 19) 1) eJ cE ⟨158,0,163,24⟩ BB)=some (.next,(SS 547 921 (.str aa 698) 26 27 54 w os),cE,⟨164,0,168,24⟩):=by trivial
theorem Ll:segRunT treeTable i5 w 11 ann 1 229 (SS 547 921 (.str aa 698) 26 27 54 w os) (piecesOf (cH (bE.drop 20) 1) eJ cE ⟨164,0,168,24⟩ BB)=some (.next,(SS 568 956 (.str aa 698) 27 28 57 w os),cE,⟨169,0,175,36⟩):=by trivial
theorem Lm:segRunT treeTable i5 w 11 ann 1 236 (SS 568 956 (.str aa 698) 27 28 57 w os) (piecesOf (cH (bE.drop 21) 2) eJ cE ⟨169,0,175,36⟩ BB)=some (.next,(SS 589 991 (.str aA 989) 28 29 60 w os),cE,⟨182,0,182,8⟩):=by trivial
theorem Ln:segRunT treeTable i5 w 11 ann 1 424 (SS 589 991 (.str aA 989) 28 29 60 w os) (piecesOf (cH (bE.drop 23) 1) eJ cE ⟨182,0,182,8⟩ BB)=some (.next,(SS 650 1079 (.str aA 989) 29 30 63 w os),cE,⟨183,0,227,26⟩):=by trivial
theorem Lo:segRunT treeTable i5 w 11 ann 1 53 (SS 650 1079 (.str aA 989) 29 30 63 w os) (piecesOf (cH (bE.drop 24) 3) eJ cE ⟨183,0,227,26⟩ BB)=some (.next,(SS 658 1093 (.str ag 1089) 31 32 66 w os),cE,⟨234,0,234,15⟩):=by trivial
theorem Lp:segRunT treeTable i5 w 11 ann 1 454 (SS 658 1093 (.str ag 1089) 31 32 66 w os) (piecesOf (cH (bE.drop 27) 1) eJ cE ⟨234,0,234,15⟩ BB)=some (.next,(SS 722 1191 (.str ag 1089) 32 33 69 w os),cE,⟨235,0,312,20⟩):=by trivial
theorem Lq:segRunT treeTable i5 w 11 ann 1 165 (SS 722 1191 (.str ag 1089) 32 33 69 w os) (piecesOf (cH (bE.drop 28) 6) eJ cE ⟨235,0,312,20⟩ BB)=some (.next,(SS 757 1238 (.str aW 1228) 37 38 84 w os),cE,⟨337,0,339,68⟩):=by trivial
theorem Lr:segRunT treeTable i5 w 11 ann 1 303 (SS 757 1238 (.str aW 1228) 37 38 84 w os) (piecesOf (cH (bE.drop 34) 2) eJ cE ⟨337,0,339,68⟩ BB)=some (.next,(SS 794 1289 (.str ab 1287) 38 39 87 w os),cE,⟨358,0,358,8⟩):=by trivial
theorem Ls:segRunT treeTable i5 w 11 ann 1 317 (SS 794 1289 (.str ab 1287) 38 39 87 w os) (piecesOf (cH (bE.drop 36) 10) eJ cE ⟨358,0,358,8⟩ BB)=some (.next,(SS 860 1389 (.str ab 1287) 48 49 117 w os),cE,⟨407,0,416,73⟩):=by trivial
theorem Lu:segRunT treeTable i5 w 11 ann 1 303 (SS 860 1389 (.str ab 1287) 48 49 117 w os) (piecesOf (cH (bE.drop 46) 10) eJ cE ⟨407,0,416,73⟩ BB)=some (.next,(SS 922 1479 (.str ab 1287) 58 59 147 w os),cE,⟨532,0,539,78⟩):=by trivial
theorem Lv:segRunT treeTable i5 w 11 ann 1 37 (SS 922 1479 (.str ab 1287) 58 59 147 w os) (piecesOf (cH (bE.drop 56) 1) eJ cE ⟨532,0,539,78⟩ BB)=some (.next,(SS 929 1493 (.str ab 1287) 59 60 150 w os),cE,⟨540,0,555,94⟩):=by trivial
end
theorem GE (w:World)(os:OsState):topRun treeTable i5 w 11 ann 2 (SS 929 1493 (.str ab 1287) 59 60 150 w os).abs ⟨doneF .next,cE,⟨540,0,555,94⟩,BB⟩=some (SS 929 1493 (.str ab 1287) 59 60 150 w os).abs:=by rw [PySem.W.Fast.te14082659384304107361,PySem.W.Fast.te14364793385576792824];kernel_rfl!
end
theorem uS {α:Type}:∀ (l:List α) (n:Nat),cH l n=l.take n
 | [],n=>by cases n<;>rfl
 | _::_,0=>rfl
 | x::l,n+1=>congrArg (x:: ·) (uS l n)
theorem dB {n N i j:Nat}{w:World}{s s':SharedT}{r:Shared}{pos p':Pos}
  (h:segRunT treeTable i5 w 11 ann 1 n s (piecesOf (cH (bE.drop i) j) eJ cE pos BB)=some (.next,s',cE,p'))
  (k:topRun treeTable i5 w 11 ann N s'.abs (restOf (bE.drop (i+j)) eJ cE p' BB)=some r):
  topRun treeTable i5 w 11 ann (n+N) s.abs (restOf (bE.drop i) eJ cE pos BB)=some r:=by
 have e:bE.drop i=cH (bE.drop i) j++bE.drop (i+j):=by rw [uS,<- List.drop_drop];exact (List.take_append_drop j (bE.drop i)).symm
 have q:=piece_app (segRun_of h) k
 rwa [<- e] at q
abbrev GF (w:World)(os:OsState):SharedT:=(SS 929 1493 (.str ab 1287) 59 60 150 w os)
theorem E0 (w:World)(os:OsState):∃ M,Nat.ble M 20000=true/\topRun treeTable i5 w 11 ann M ⟨boot_heap w.params,⟨[]⟩,boot_drawn,boot_toks,os⟩ (topStub i5)=some (GF w os).abs:=by have Zt:topRun treeTable i5 w 11 ann 2 (SS 929 1493 (.str ab 1287) 59 60 150 w os).abs (restOf (bE.drop 57) eJ cE ⟨540,0,555,94⟩ BB)=some (GF w os).abs:=piece_nil (GE w os);have Zu:=dB (Lv w os) Zt;have Zv:=dB (Lu w os) Zu;have Zw:=dB (Ls w os) Zv;have Zx:=dB (Lr w os) Zw;have Zy:=dB (Lq w os) Zx;have Zz:=dB (Lp w os) Zy;have ZA:=dB (Lo w os) Zz;have ZC:=dB (Ln w os) ZA;have ZD:=dB (Lm w os) ZC;have ZE:=dB (Ll w os) ZD;have ZF:=dB (Lk w os) ZE;have ZG:=dB (Lj w os) ZF;have ZH:=dB (Li w os) ZG;have ZI:=dB (Lh w os) ZH;have ZJ:=dB (Lg w os) ZI;have ZK:=dB (Lf w os) ZJ;have V0:=dB (Le w os) ZK;have TN:=dB (Ld w os) V0;have k9:=dB (NO w os) TN;have k8:=dB (NN w os) k9;have k7:=dB (NM w os) k8;have k6:=dB (NL w os) k7;have k5:=dB (NK w os) k6;have k4:=dB (NJ w os) k5;have k3:=dB (NI w os) k4;have k2:=dB (NH w os) k3;have k1:=dB (NG w os) k2;have k0:=dB (NF w os) k1;have kb:=piece_block (env:=eJ) (segRun_of (AZ w os)) k0;exact ⟨_,by decide,go_top (GD w os) kb⟩
def TF (P:Params):BT:=TT 929 (.str ab 1287) 59 60 150 P
def HF (P:Params):Heap:=absHeap (TF P) 929 {}
def qv (p:Program):Program:={p with main:={p.main with body:=[DV p.main.body 56]}}
def looseN:List Str:=[lM,su,sw,sx,sy,sB,sL,nI,sQ,nJ,e6,lN,nK,nL,lO,lP,nM,nN,jA,eU,g6,db,gG,lR,i7,dc,dH,eG,g8,lS,dI,dJ,eH,dK,cO,dL,dM,cb,dN,dO,dP,cy,ce,eI,de,dQ,cQ,dg,cR,bf]
def HK:Hook where
 α:=Heap
 obs:=fun s=>s.heap
 val:=fun w=>HF w.params
 says:=fun w h=>∀ a o,(TF w.params).get a=some o->o.isFreed=false->a < 929->h.get? a=some o
 of:=fun w s e a o g f l=>by rw [e];refine (abs_get l g).trans ?_;obtain ⟨c,d,dt,sl⟩:=o;cases dt<;>first | rfl | cases f
 keeps:=fun U U U x k a o g f l=>k _ _ (x a o g f l)
theorem zF (w:World):((boot_heap w.params).isNs mainGlobals && (⟨[]⟩:Array GenState).size==0,(boot_heap w.params).objs.size,(boot_heap w.params).nsMap mainGlobals "__annotations__")=(true,11,ann):=by kernel_rfl!
theorem tW (w:World)(os:OsState):(staticsOk (importedModules i5.main.body) (boot_heap w.params) (HF w.params) && namesBound i5 (HF w.params) && gensDone ⟨HF w.params,⟨[]⟩,{},1493,os⟩ && laidKept (boot_heap w.params) (HF w.params))=true:=by kernel_rfl!
theorem zG (w:World)(os:OsState):openSeen (qv i5) looseN (importedModules i5.main.body) (fun s=>xlAt (qv i5) [] s && recOk (RowW.records PySem.Challenge.rw_np0242_01.row.toRowW) s) true ⟨HF w.params,⟨[]⟩,{},1493,os⟩=openGood (qv i5) looseN:=by kernel_rfl!
theorem GG (w:World)(os:OsState):topRun treeTable i5 w 11 ann 20000 ⟨boot_heap w.params,⟨[]⟩,boot_drawn,boot_toks,os⟩ (topStub i5)=some (GF w os).abs:=by
 obtain ⟨M,hM,h⟩:=E0 w os;have q:=topRun_mono (20000 - M) _ _ _ _ h
 rwa [show M+(20000 - M)=20000 by have:=Nat.le_of_ble_eq_true hM;omega] at q
theorem Lw:LeftO i5 (qv i5) looseN (fun s=>xlAt (qv i5) [] s && recOk (RowW.records PySem.Challenge.rw_np0242_01.row.toRowW) s) HK.obs HK.val 20000:=
 LeftO.of_pieces (H₀:=boot_heap) (H₁:=HF) (gs₀:=⟨[]⟩) (gs₁:=⟨[]⟩) (d₀:=boot_drawn) (d₁:={}) (k₀:=boot_toks) (k₁:=1493) (m₀:=11) (ann:=ann) (M:=20000)
  (boot_open (by kernel_rfl!) (by decide) (fun U=>rfl)) zF (fun w os=>GG w os) (by decide)
  (fun w=>funext fun os=>Prod.ext (tW w os) (Prod.ext (zG w os) rfl))
theorem leftP:LeftO PySem.Challenge.rw_np0242_01.row.prog (qv PySem.Challenge.pw_np0242_01) looseN (fun s=>xlAt (qv PySem.Challenge.pw_np0242_01) [] s && recOk (RowW.records PySem.Challenge.rw_np0242_01.row.toRowW) s) HK.obs HK.val 20000:=by show LeftO PySem.Challenge.pw_np0242_01 _ _ _ _ _ _;rw [Gu];exact Lw
def KF (P:Params):Frag:=[(3,FK P (.str ab 1287) 59 60),(59,Ow),(101,Ip),(143,Iu),(185,Iy),(227,IC),(248,IG),(290,IK),(332,IO),(374,IS),(395,IY),(416,J2),(437,J6),(458,Ja),(479,Je),(500,Ji),(521,Jm),(542,Jq),(563,Ju),(584,Jy),(645,JO),(717,K9),(789,Kr),(35,Ou),(77,Oy),(119,Ir),(161,Iw),(203,IA),(245,IE),(266,II),(308,IM),(350,IQ),(392,IW),(413,J0),(434,J4),(455,J8),(476,Jc),(497,Jg),(518,Jk),(539,Jo),(560,Js),(581,Jw),(602,JA),(609,JC),(616,JE),(623,JG),(628,JI),(635,JK),(642,JM),(656,JQ),(671,JS),(678,JU),(685,JW),(690,JY),(695,K0),(702,K3),(707,K5),(714,K7),(728,Kb),(735,Kd),(742,Kf),(749,Kh),(756,Kj),(772,Kl),(779,Kn),(786,Kp),(800,Kt),(807,Kv),(814,Kx),(821,Kz),(828,KC),(835,KE),(840,KH),(845,KJ),(852,KL),(859,KN),(866,KP),(873,KR),(880,KT),(887,KW),(892,KY),(899,L0),(906,L3),(911,L5),(916,L7),(921,L9),(928,Lb),(58,Ov P),(100,Io P),(142,It P),(184,Ix P),(226,IB P),(247,IF P),(289,IJ P),(331,IN P),(373,IR P),(394,IX P),(415,J1 P),(436,J5 P),(457,J9 P),(478,Jd P),(499,Jh P),(520,Jl P),(541,Jp P),(562,Jt P),(583,Jx P),(644,JN P),(716,K8 P),(788,Kq P),(34,Ot),(76,Ox),(118,Iq),(160,Iv),(202,Iz),(244,ID),(265,IH),(307,IL),(349,IP),(391,IU),(412,IZ),(433,J3),(454,J7),(475,Jb),(496,Jf),(517,Jj),(538,Jn),(559,Jr),(580,Jv),(601,Jz),(608,JB),(615,JD),(622,JF),(627,JH),(634,JJ),(641,JL),(655,JP),(670,JR),(677,JT),(684,JV),(689,JX),(694,JZ),(701,K2),(706,K4),(713,K6),(727,Ka),(734,Kc),(741,Ke),(748,Kg),(755,Ki),(771,Kk),(778,Km),(785,Ko),(799,Ks),(806,Ku),(813,Kw),(820,Ky),(827,KA),(834,KD),(839,KG),(844,KI),(851,KK),(858,KM),(865,KO),(872,KQ),(879,KS),(886,KU),(891,KX),(898,KZ),(905,L1),(910,L4),(915,L6),(920,L8),(927,La),(765,DY),(657,DX),(764,GC)]
noncomputable abbrev aD (n:Nat):Addr:=n
abbrev fB:=aD 59
abbrev eK:=aD 101
abbrev gH:=aD 143
abbrev dZ:=aD 185
abbrev jB:=aD 227
abbrev oK:=aD 248
abbrev gI:=aD 290
abbrev kY:=aD 332
abbrev dw:=aD 374
abbrev e7:=aD 395
abbrev hW:=aD 416
abbrev dF:=aD 437
abbrev fT:=aD 458
abbrev di:=aD 479
abbrev cL:=aD 500
abbrev ka:=aD 521
abbrev cV:=aD 542
abbrev bh:=aD 563
abbrev dU:=aD 584
abbrev ge:=aD 645
abbrev mN:=aD 717
abbrev fM:=aD 789
abbrev q8:=aD 35
abbrev q9:=aD 77
abbrev qc:=aD 119
abbrev qd:=aD 161
abbrev qh:=aD 203
abbrev qi:=aD 245
abbrev oZ:=aD 266
abbrev qj:=aD 308
abbrev p7:=aD 350
abbrev kc:=aD 392
abbrev nP:=aD 413
abbrev p8:=aD 434
abbrev p9:=aD 455
abbrev nQ:=aD 476
abbrev nR:=aD 497
abbrev pa:=aD 518
abbrev pd:=aD 539
abbrev mO:=aD 560
abbrev kK:=aD 581
abbrev kZ:=aD 602
abbrev eY:=aD 609
abbrev eq:=aD 616
abbrev aZ:=aD 623
abbrev ah:=aD 628
abbrev bp:=aD 635
abbrev dE:=aD 642
abbrev iE:=aD 656
abbrev nU:=aD 671
abbrev ba:=aD 678
abbrev eZ:=aD 685
abbrev e8:=aD 690
abbrev aq:=aD 695
abbrev dW:=aD 702
abbrev f6:=aD 707
abbrev bC:=aD 714
abbrev mP:=aD 728
abbrev dj:=aD 735
abbrev dl:=aD 742
abbrev iP:=aD 749
abbrev lT:=aD 756
abbrev cq:=aD 772
abbrev hY:=aD 779
abbrev f7:=aD 786
abbrev j5:=aD 800
abbrev gf:=aD 807
abbrev ke:=aD 814
abbrev i8:=aD 821
abbrev e9:=aD 828
abbrev j7:=aD 835
abbrev cS:=aD 840
abbrev cf:=aD 845
abbrev dm:=aD 852
abbrev eM:=aD 859
abbrev aS:=aD 866
abbrev eN:=aD 873
abbrev fN:=aD 880
abbrev bT:=aD 887
abbrev aw:=aD 892
abbrev j8:=aD 899
abbrev bJ:=aD 906
abbrev aC:=aD 911
abbrev cT:=aD 916
abbrev bQ:=aD 921
abbrev qk:=aD 928
abbrev ql:FuncData:=(gF gq a7 194 34 (ms 2 0))
abbrev qp:FuncData:=(gF gt a7 194 76 (ms 3 0))
abbrev qq:FuncData:=(gF gu a7 194 118 (ms 4 0))
abbrev qr:FuncData:=(gF gv a7 194 160 (ms 5 0))
abbrev qw:FuncData:=(gF gx a7 194 202 (ms 6 0))
abbrev qx:FuncData:=(gF gy a7 194 244 (ms 7 0))
abbrev pg:FuncData:=(gF fE a7 194 265 (ms 8 0))
abbrev qy:FuncData:=(gF gz a7 194 307 (ms 9 0))
abbrev ph:FuncData:=(gF fF a7 194 349 (ms 10 0))
abbrev kf:FuncData:=(gF cJ a7 194 391 (ms 11 0))
abbrev nV:FuncData:=(gF eR aa 698 412 (ms 13 0))
abbrev pi:FuncData:=(gF fG aa 698 433 (ms 14 0))
abbrev pj:FuncData:=(gF fH aa 698 454 (ms 15 0))
abbrev nW:FuncData:=(gF eS aa 698 475 (ms 16 0))
abbrev nX:FuncData:=(gF eT aa 698 496 (ms 17 0))
abbrev pn:FuncData:=(gF fJ aa 698 517 (ms 18 0))
abbrev pq:FuncData:=(gF fK aa 698 538 (ms 19 0))
abbrev mQ:FuncData:=(gF ei aa 698 559 (ms 20 0))
abbrev kL:FuncData:=(gF cY aa 698 580 (ms 21 0))
abbrev lc:FuncData:=(gF d9 aA 989 601 (ms 23 0))
abbrev nY:FuncData:=(gF eV aA 989 608 (ms 23 1))
abbrev j9:FuncData:=(gF ej aA 989 615 (ms 23 2))
abbrev iw:FuncData:=(gF dC aA 989 622 (ms 23 3))
abbrev cM:FuncData:=(gF cK aA 989 627 (ms 23 4))
abbrev ld:FuncData:=(gF da aA 989 634 (ms 23 5))
abbrev md:FuncData:=(gF dD aA 989 641 (ms 23 6))
abbrev mS:FuncData:=(gF db aA 989 655 (st 24))
abbrev nZ:FuncData:=(gF eW ag 1089 670 (ms 27 0))
abbrev pu:FuncData:=(gF fL ag 1089 677 (ms 27 1))
abbrev tX:FuncData:=(gF iA ag 1089 684 (ms 27 2))
abbrev js:FuncData:=(gF gZ ag 1089 689 (ms 27 3))
abbrev fU:FuncData:=(gF dT ag 1089 694 (ms 27 4))
abbrev tY:FuncData:=(gF iB ag 1089 701 (ms 27 5))
abbrev kg:FuncData:=(gF iC ag 1089 706 (ms 27 6))
abbrev mT:FuncData:=(gF ek ag 1089 713 (ms 27 7))
abbrev B0:FuncData:=(gF i7 ag 1089 727 (st 28))
abbrev tZ:FuncData:=(gF dc ag 1089 734 (st 29))
abbrev uT:FuncData:=(gF dH ag 1089 741 (st 30))
abbrev wD:FuncData:=(gF eG ag 1089 748 (st 31))
abbrev zH:FuncData:=(gF g8 aW 1228 755 (st 33))
abbrev bV:FuncData:=(fd eX 3 (.ref 765) .none .none (.str aW 1228) (.ref 771) .none 0 (ms 34 0))
abbrev jt:FuncData:=(gF hU aW 1228 778 (ms 34 1))
abbrev ua:FuncData:=(gF iD aW 1228 785 (ms 34 2))
abbrev uU:FuncData:=(gF dI ab 1287 799 (st 36))
abbrev uV:FuncData:=(gF dJ ab 1287 806 (st 37))
abbrev wE:FuncData:=(gF eH ab 1287 813 (st 38))
abbrev uW:FuncData:=(gF dK ab 1287 820 (st 39))
abbrev ml:FuncData:=(gF cO ab 1287 827 (st 40))
abbrev uX:FuncData:=(gF dL ab 1287 834 (st 41))
abbrev lg:FuncData:=(gF dM ab 1287 839 (st 42))
abbrev kB:FuncData:=(gF cb ab 1287 844 (st 43))
abbrev uY:FuncData:=(gF dN ab 1287 851 (st 44))
abbrev uZ:FuncData:=(gF dO ab 1287 858 (st 45))
abbrev vc:FuncData:=(gF dP ab 1287 865 (st 46))
abbrev lh:FuncData:=(gF cy ab 1287 872 (st 47))
abbrev pw:FuncData:=(gF ce ab 1287 879 (st 48))
abbrev wF:FuncData:=(gF eI ab 1287 886 (st 49))
abbrev iF:FuncData:=(gF de ab 1287 891 (st 50))
abbrev vd:FuncData:=(gF dQ ab 1287 898 (st 51))
abbrev s8:FuncData:=(gF cQ ab 1287 905 (st 52))
abbrev cu:FuncData:=(gF dg ab 1287 910 (st 53))
abbrev aF:FuncData:=(gF cR ab 1287 915 (st 54))
abbrev ee:FuncData:=(gF bf ab 1287 920 (st 55))
abbrev B1:FuncData:=(gF pY ab 1287 927 (st 56))
theorem wsaid:PySem.Challenge.rw_np0242_01.wellSaid=true:=by
 rw [PySem.W.Fast.te9446332074065402090];unfold PySem.W.Fast.tw9446332074065402090 PySem.W.Fast.tw17960256430627541270 PySem.W.Fast.tw2436336058641802641 PySem.W.Fast.tw12908688711261696721
 repeat' with_reducible apply look_both
 all_goals decide +kernel
theorem wopen:(chainsOk (qv PySem.Challenge.pw_np0242_01) && opensWell PySem.Challenge.rw_np0242_01.row.prog && (frees PySem.Challenge.rw_np0242_01.row.toRowW && PySem.Challenge.rw_np0242_01.row.within.isEmpty))=true:=look_both (look_both (by decide +kernel) (by decide +kernel)) (by decide +kernel)
theorem wbare:PySem.Challenge.rw_np0242_01.row.prog.bare:=⟨rfl,rfl,rfl,rfl,rfl,by decide +kernel⟩
theorem oA {P0:Prop}{P1:Prop}{G:Prop}(h:P0/\P1)(k:P0->P1->G):G:=k h.1 h.2
theorem oE {T0:Sort _}{P0:T0->Prop}{G:Prop}(h:∃ x0,P0 x0)(k:∀ x0:T0,P0 x0->G):G:=h.elim fun y0 g0=>k y0 g0
theorem ub {P0:Prop}{P1:Prop}{P2:Prop}{G:Prop}(h:P0/\P1/\P2)(k:P0->P1->P2->G):G:=k h.1 h.2.1 h.2.2
theorem E1 {T0:Sort _}{P0:Prop}{P1:T0->Prop}{G:Prop}(h:P0/\∃ x0,P1 x0)(k:P0->∀ x0:T0,P1 x0->G):G:=h.2.elim fun y1 g1=>k h.1 y1 g1
theorem bM {T0:Sort _}{P0:T0->Prop}{P1:T0->Prop}{G:Prop}(h:∃ x0,P0 x0/\P1 x0)(k:∀ x0:T0,P0 x0->P1 x0->G):G:=h.elim fun y0 g0=>k y0 g0.1 g0.2
theorem kC {T0:Sort _}{T1:Sort _}{P0:T0->T1->Prop}{G:Prop}(h:∃ x0,∃ x1,P0 x0 x1)(k:∀ x0:T0,∀ x1:T1,P0 x0 x1->G):G:=h.elim fun y0 g0=>g0.elim fun y1 g1=>k y0 y1 g1
theorem qA {P0:Prop}{P1:Prop}{P2:Prop}{P3:Prop}{G:Prop}(h:P0/\P1/\P2/\P3)(k:P0->P1->P2->P3->G):G:=k h.1 h.2.1 h.2.2.1 h.2.2.2
theorem kM {T0:Sort _}{P0:Prop}{P1:T0->Prop}{P2:T0->Prop}{G:Prop}(h:P0/\∃ x0,P1 x0/\P2 x0)(k:P0->∀ x0:T0,P1 x0->P2 x0->G):G:=h.2.elim fun y1 g1=>k h.1 y1 g1.1 g1.2
theorem d6 {T0:Sort _}{P0:T0->Prop}{P1:T0->Prop}{P2:T0->Prop}{G:Prop}(h:∃ x0,P0 x0/\P1 x0/\P2 x0)(k:∀ x0:T0,P0 x0->P1 x0->P2 x0->G):G:=h.elim fun y0 g0=>k y0 g0.1 g0.2.1 g0.2.2
theorem iQ {T0:Sort _}{T1:Sort _}{P0:T0->T1->Prop}{P1:T0->T1->Prop}{G:Prop}(h:∃ x0,∃ x1,P0 x0 x1/\P1 x0 x1)(k:∀ x0:T0,∀ x1:T1,P0 x0 x1->P1 x0 x1->G):G:=h.elim fun y0 g0=>g0.elim fun y1 g1=>k y0 y1 g1.1 g1.2
theorem o3 {T0:Sort _}{T1:Sort _}{T2:Sort _}{P0:T0->T1->T2->Prop}{G:Prop}(h:∃ x0,∃ x1,∃ x2,P0 x0 x1 x2)(k:∀ x0:T0,∀ x1:T1,∀ x2:T2,P0 x0 x1 x2->G):G:=h.elim fun y0 g0=>g0.elim fun y1 g1=>g1.elim fun y2 g2=>k y0 y1 y2 g2
theorem Lx {P0:Prop}{P1:Prop}{P2:Prop}{P3:Prop}{P4:Prop}{G:Prop}(h:P0/\P1/\P2/\P3/\P4)(k:P0->P1->P2->P3->P4->G):G:=k h.1 h.2.1 h.2.2.1 h.2.2.2.1 h.2.2.2.2
theorem ve {T0:Sort _}{T1:Sort _}{P0:Prop}{P1:T0->T1->Prop}{P2:T0->T1->Prop}{G:Prop}(h:P0/\∃ x0,∃ x1,P1 x0 x1/\P2 x0 x1)(k:P0->∀ x0:T0,∀ x1:T1,P1 x0 x1->P2 x0 x1->G):G:=h.2.elim fun y1 g1=>g1.elim fun y2 g2=>k h.1 y1 y2 g2.1 g2.2
theorem sV {T0:Sort _}{P0:T0->Prop}{P1:T0->Prop}{P2:T0->Prop}{P3:T0->Prop}{G:Prop}(h:∃ x0,P0 x0/\P1 x0/\P2 x0/\P3 x0)(k:∀ x0:T0,P0 x0->P1 x0->P2 x0->P3 x0->G):G:=h.elim fun y0 g0=>k y0 g0.1 g0.2.1 g0.2.2.1 g0.2.2.2
theorem B2 {T0:Sort _}{T1:Sort _}{P0:T0->Prop}{P1:T0->Prop}{P2:T0->T1->Prop}{G:Prop}(h:∃ x0,P0 x0/\P1 x0/\∃ x1,P2 x0 x1)(k:∀ x0:T0,P0 x0->P1 x0->∀ x1:T1,P2 x0 x1->G):G:=h.elim fun y0 g0=>g0.2.2.elim fun y3 g3=>k y0 g0.1 g0.2.1 y3 g3
theorem et {T0:Sort _}{T1:Sort _}{P0:T0->T1->Prop}{P1:T0->T1->Prop}{P2:T0->T1->Prop}{G:Prop}(h:∃ x0,∃ x1,P0 x0 x1/\P1 x0 x1/\P2 x0 x1)(k:∀ x0:T0,∀ x1:T1,P0 x0 x1->P1 x0 x1->P2 x0 x1->G):G:=h.elim fun y0 g0=>g0.elim fun y1 g1=>k y0 y1 g1.1 g1.2.1 g1.2.2
theorem sW {T0:Sort _}{T1:Sort _}{T2:Sort _}{P0:T0->T1->T2->Prop}{P1:T0->T1->T2->Prop}{G:Prop}(h:∃ x0,∃ x1,∃ x2,P0 x0 x1 x2/\P1 x0 x1 x2)(k:∀ x0:T0,∀ x1:T1,∀ x2:T2,P0 x0 x1 x2->P1 x0 x1 x2->G):G:=h.elim fun y0 g0=>g0.elim fun y1 g1=>g1.elim fun y2 g2=>k y0 y1 y2 g2.1 g2.2
theorem o4 {T0:Sort _}{T1:Sort _}{P0:Prop}{P1:T0->T1->Prop}{P2:T0->T1->Prop}{P3:T0->T1->Prop}{G:Prop}(h:P0/\∃ x0,∃ x1,P1 x0 x1/\P2 x0 x1/\P3 x0 x1)(k:P0->∀ x0:T0,∀ x1:T1,P1 x0 x1->P2 x0 x1->P3 x0 x1->G):G:=h.2.elim fun y1 g1=>g1.elim fun y2 g2=>k h.1 y1 y2 g2.1 g2.2.1 g2.2.2
theorem uc {T0:Sort _}{T1:Sort _}{T2:Sort _}{P0:Prop}{P1:T0->T1->T2->Prop}{P2:T0->T1->T2->Prop}{G:Prop}(h:P0/\∃ x0,∃ x1,∃ x2,P1 x0 x1 x2/\P2 x0 x1 x2)(k:P0->∀ x0:T0,∀ x1:T1,∀ x2:T2,P1 x0 x1 x2->P2 x0 x1 x2->G):G:=h.2.elim fun y1 g1=>g1.elim fun y2 g2=>g2.elim fun y3 g3=>k h.1 y1 y2 y3 g3.1 g3.2
theorem ju {T0:Sort _}{T1:Sort _}{P0:T0->Prop}{P1:T0->Prop}{P2:T0->T1->Prop}{P3:T0->T1->Prop}{G:Prop}(h:∃ x0,P0 x0/\P1 x0/\∃ x1,P2 x0 x1/\P3 x0 x1)(k:∀ x0:T0,P0 x0->P1 x0->∀ x1:T1,P2 x0 x1->P3 x0 x1->G):G:=h.elim fun y0 g0=>g0.2.2.elim fun y3 g3=>k y0 g0.1 g0.2.1 y3 g3.1 g3.2
theorem li {T0:Sort _}{T1:Sort _}{P0:T0->T1->Prop}{P1:T0->T1->Prop}{P2:T0->T1->Prop}{P3:T0->T1->Prop}{G:Prop}(h:∃ x0,∃ x1,P0 x0 x1/\P1 x0 x1/\P2 x0 x1/\P3 x0 x1)(k:∀ x0:T0,∀ x1:T1,P0 x0 x1->P1 x0 x1->P2 x0 x1->P3 x0 x1->G):G:=h.elim fun y0 g0=>g0.elim fun y1 g1=>k y0 y1 g1.1 g1.2.1 g1.2.2.1 g1.2.2.2
theorem fq {T0:Sort _}{T1:Sort _}{T2:Sort _}{P0:T0->T1->T2->Prop}{P1:T0->T1->T2->Prop}{P2:T0->T1->T2->Prop}{G:Prop}(h:∃ x0,∃ x1,∃ x2,P0 x0 x1 x2/\P1 x0 x1 x2/\P2 x0 x1 x2)(k:∀ x0:T0,∀ x1:T1,∀ x2:T2,P0 x0 x1 x2->P1 x0 x1 x2->P2 x0 x1 x2->G):G:=h.elim fun y0 g0=>g0.elim fun y1 g1=>g1.elim fun y2 g2=>k y0 y1 y2 g2.1 g2.2.1 g2.2.2
theorem iJ {T0:Sort _}{T1:Sort _}{T2:Sort _}{T3:Sort _}{T4:Sort _}{P0:T0->T1->T2->T3->T4->Prop}{P1:T0->T1->T2->T3->T4->Prop}{P2:T0->T1->T2->T3->T4->Prop}{P3:T0->T1->T2->T3->T4->Prop}{G:Prop}(h:∃ x0,∃ x1,∃ x2,∃ x3,∃ x4,P0 x0 x1 x2 x3 x4/\P1 x0 x1 x2 x3 x4/\P2 x0 x1 x2 x3 x4/\P3 x0 x1 x2 x3 x4)(k:∀ x0:T0,∀ x1:T1,∀ x2:T2,∀ x3:T3,∀ x4:T4,P0 x0 x1 x2 x3 x4->P1 x0 x1 x2 x3 x4->P2 x0 x1 x2 x3 x4->P3 x0 x1 x2 x3 x4->G):G:=h.elim fun y0 g0=>g0.elim fun y1 g1=>g1.elim fun y2 g2=>g2.elim fun y3 g3=>g3.elim fun y4 g4=>k y0 y1 y2 y3 y4 g4.1 g4.2.1 g4.2.2.1 g4.2.2.2
theorem dR {T0:Sort _}{T1:Sort _}{T2:Sort _}{T3:Sort _}{P0:T0->T1->T2->T3->Prop}{P1:T0->T1->T2->T3->Prop}{P2:T0->T1->T2->T3->Prop}{P3:T0->T1->T2->T3->Prop}{P4:T0->T1->T2->T3->Prop}{P5:T0->T1->T2->T3->Prop}{P6:T0->T1->T2->T3->Prop}{G:Prop}(h:∃ x0,∃ x1,∃ x2,∃ x3,P0 x0 x1 x2 x3/\P1 x0 x1 x2 x3/\P2 x0 x1 x2 x3/\P3 x0 x1 x2 x3/\P4 x0 x1 x2 x3/\P5 x0 x1 x2 x3/\P6 x0 x1 x2 x3)(k:∀ x0:T0,∀ x1:T1,∀ x2:T2,∀ x3:T3,P0 x0 x1 x2 x3->P1 x0 x1 x2 x3->P2 x0 x1 x2 x3->P3 x0 x1 x2 x3->P4 x0 x1 x2 x3->P5 x0 x1 x2 x3->P6 x0 x1 x2 x3->G):G:=h.elim fun y0 g0=>g0.elim fun y1 g1=>g1.elim fun y2 g2=>g2.elim fun y3 g3=>k y0 y1 y2 y3 g3.1 g3.2.1 g3.2.2.1 g3.2.2.2.1 g3.2.2.2.2.1 g3.2.2.2.2.2.1 g3.2.2.2.2.2.2
theorem iS {T0:Sort _}{T1:Sort _}{T2:Sort _}{T3:Sort _}{T4:Sort _}{T5:Sort _}{T6:Sort _}{P0:T0->T1->T2->T3->Prop}{P1:T0->T1->T2->T3->Prop}{P2:T0->T1->T2->T3->Prop}{P3:T0->T1->T2->T3->Prop}{P4:T0->T1->T2->T3->Prop}{P5:T0->T1->T2->T3->T4->T5->T6->Prop}{P6:T0->T1->T2->T3->T4->T5->T6->Prop}{G:Prop}(h:∃ x0,∃ x1,∃ x2,∃ x3,P0 x0 x1 x2 x3/\P1 x0 x1 x2 x3/\P2 x0 x1 x2 x3/\P3 x0 x1 x2 x3/\P4 x0 x1 x2 x3/\∃ x4,∃ x5,∃ x6,P5 x0 x1 x2 x3 x4 x5 x6/\P6 x0 x1 x2 x3 x4 x5 x6)(k:∀ x0:T0,∀ x1:T1,∀ x2:T2,∀ x3:T3,P0 x0 x1 x2 x3->P1 x0 x1 x2 x3->P2 x0 x1 x2 x3->P3 x0 x1 x2 x3->P4 x0 x1 x2 x3->∀ x4:T4,∀ x5:T5,∀ x6:T6,P5 x0 x1 x2 x3 x4 x5 x6->P6 x0 x1 x2 x3 x4 x5 x6->G):G:=h.elim fun y0 g0=>g0.elim fun y1 g1=>g1.elim fun y2 g2=>g2.elim fun y3 g3=>g3.2.2.2.2.2.elim fun y9 g9=>g9.elim fun ZL ZM=>ZM.elim fun ZN Yx=>k y0 y1 y2 y3 g3.1 g3.2.1 g3.2.2.1 g3.2.2.2.1 g3.2.2.2.2.1 y9 ZL ZN Yx.1 Yx.2
theorem cF {P0:Prop}{P1:Prop}{P2:Prop}(h0:P0)(h1:P1)(h2:P2):P0/\P1/\P2:=⟨h0,h1,h2⟩
theorem bw {T0:Sort _}{P0:T0->Prop}{P1:T0->Prop}(x0:T0)(h0:P0 x0)(h1:P1 x0):∃ x0,P0 x0/\P1 x0:=⟨x0,h0,h1⟩
theorem wu {T0:Sort _}{T1:Sort _}{P0:T0->T1->Prop}(x0:T0)(x1:T1)(h0:P0 x0 x1):∃ x0,∃ x1,P0 x0 x1:=⟨x0,x1,h0⟩
theorem fu {P0:Prop}{P1:Prop}{P2:Prop}{P3:Prop}(h0:P0)(h1:P1)(h2:P2)(h3:P3):P0/\P1/\P2/\P3:=⟨h0,h1,h2,h3⟩
theorem mU {T0:Sort _}{P0:Prop}{P1:T0->Prop}{P2:T0->Prop}(h0:P0)(x0:T0)(h1:P1 x0)(h2:P2 x0):P0/\∃ x0,P1 x0/\P2 x0:=⟨h0,x0,h1,h2⟩
theorem iG {T0:Sort _}{P0:T0->Prop}{P1:T0->Prop}{P2:T0->Prop}(x0:T0)(h0:P0 x0)(h1:P1 x0)(h2:P2 x0):∃ x0,P0 x0/\P1 x0/\P2 x0:=⟨x0,h0,h1,h2⟩
theorem me {T0:Sort _}{T1:Sort _}{P0:T0->T1->Prop}{P1:T0->T1->Prop}(x0:T0)(x1:T1)(h0:P0 x0 x1)(h1:P1 x0 x1):∃ x0,∃ x1,P0 x0 x1/\P1 x0 x1:=⟨x0,x1,h0,h1⟩
theorem qB {T0:Sort _}{T1:Sort _}{T2:Sort _}{P0:T0->T1->T2->Prop}(x0:T0)(x1:T1)(x2:T2)(h0:P0 x0 x1 x2):∃ x0,∃ x1,∃ x2,P0 x0 x1 x2:=⟨x0,x1,x2,h0⟩
theorem mV {P0:Prop}{P1:Prop}{P2:Prop}{P3:Prop}{P4:Prop}(h0:P0)(h1:P1)(h2:P2)(h3:P3)(h4:P4):P0/\P1/\P2/\P3/\P4:=⟨h0,h1,h2,h3,h4⟩
theorem fC {T0:Sort _}{P0:Prop}{P1:T0->Prop}{P2:T0->Prop}{P3:T0->Prop}(h0:P0)(x0:T0)(h1:P1 x0)(h2:P2 x0)(h3:P3 x0):P0/\∃ x0,P1 x0/\P2 x0/\P3 x0:=⟨h0,x0,h1,h2,h3⟩
theorem ye {T0:Sort _}{T1:Sort _}{P0:Prop}{P1:T0->T1->Prop}{P2:T0->T1->Prop}(h0:P0)(x0:T0)(x1:T1)(h1:P1 x0 x1)(h2:P2 x0 x1):P0/\∃ x0,∃ x1,P1 x0 x1/\P2 x0 x1:=⟨h0,x0,x1,h1,h2⟩
theorem mW {T0:Sort _}{P0:T0->Prop}{P1:T0->Prop}{P2:T0->Prop}{P3:T0->Prop}(x0:T0)(h0:P0 x0)(h1:P1 x0)(h2:P2 x0)(h3:P3 x0):∃ x0,P0 x0/\P1 x0/\P2 x0/\P3 x0:=⟨x0,h0,h1,h2,h3⟩
theorem vg {T0:Sort _}{T1:Sort _}{P0:T0->Prop}{P1:T0->Prop}{P2:T0->T1->Prop}(x0:T0)(h0:P0 x0)(h1:P1 x0)(x1:T1)(h2:P2 x0 x1):∃ x0,P0 x0/\P1 x0/\∃ x1,P2 x0 x1:=⟨x0,h0,h1,x1,h2⟩
theorem yf {T0:Sort _}{T1:Sort _}{P0:T0->T1->Prop}{P1:T0->T1->Prop}{P2:T0->T1->Prop}(x0:T0)(x1:T1)(h0:P0 x0 x1)(h1:P1 x0 x1)(h2:P2 x0 x1):∃ x0,∃ x1,P0 x0 x1/\P1 x0 x1/\P2 x0 x1:=⟨x0,x1,h0,h1,h2⟩
theorem yg {T0:Sort _}{T1:Sort _}{T2:Sort _}{P0:T0->T1->T2->Prop}{P1:T0->T1->T2->Prop}(x0:T0)(x1:T1)(x2:T2)(h0:P0 x0 x1 x2)(h1:P1 x0 x1 x2):∃ x0,∃ x1,∃ x2,P0 x0 x1 x2/\P1 x0 x1 x2:=⟨x0,x1,x2,h0,h1⟩
theorem qC {P0:Prop}{P1:Prop}{P2:Prop}{P3:Prop}{P4:Prop}{P5:Prop}(h0:P0)(h1:P1)(h2:P2)(h3:P3)(h4:P4)(h5:P5):P0/\P1/\P2/\P3/\P4/\P5:=⟨h0,h1,h2,h3,h4,h5⟩
theorem jv {T0:Sort _}{T1:Sort _}{P0:Prop}{P1:T0->T1->Prop}{P2:T0->T1->Prop}{P3:T0->T1->Prop}(h0:P0)(x0:T0)(x1:T1)(h1:P1 x0 x1)(h2:P2 x0 x1)(h3:P3 x0 x1):P0/\∃ x0,∃ x1,P1 x0 x1/\P2 x0 x1/\P3 x0 x1:=⟨h0,x0,x1,h1,h2,h3⟩
theorem o6 {T0:Sort _}{T1:Sort _}{P0:T0->T1->Prop}{P1:T0->T1->Prop}{P2:T0->T1->Prop}{P3:T0->T1->Prop}(x0:T0)(x1:T1)(h0:P0 x0 x1)(h1:P1 x0 x1)(h2:P2 x0 x1)(h3:P3 x0 x1):∃ x0,∃ x1,P0 x0 x1/\P1 x0 x1/\P2 x0 x1/\P3 x0 x1:=⟨x0,x1,h0,h1,h2,h3⟩
theorem bR {T0:Sort _}{T1:Sort _}{T2:Sort _}{P0:T0->T1->T2->Prop}{P1:T0->T1->T2->Prop}{P2:T0->T1->T2->Prop}(x0:T0)(x1:T1)(x2:T2)(h0:P0 x0 x1 x2)(h1:P1 x0 x1 x2)(h2:P2 x0 x1 x2):∃ x0,∃ x1,∃ x2,P0 x0 x1 x2/\P1 x0 x1 x2/\P2 x0 x1 x2:=⟨x0,x1,x2,h0,h1,h2⟩
theorem mX {T0:Sort _}{T1:Sort _}{P0:Prop}{P1:T0->T1->Prop}{P2:T0->T1->Prop}{P3:T0->T1->Prop}{P4:T0->T1->Prop}(h0:P0)(x0:T0)(x1:T1)(h1:P1 x0 x1)(h2:P2 x0 x1)(h3:P3 x0 x1)(h4:P4 x0 x1):P0/\∃ x0,∃ x1,P1 x0 x1/\P2 x0 x1/\P3 x0 x1/\P4 x0 x1:=⟨h0,x0,x1,h1,h2,h3,h4⟩
theorem pF {T0:Sort _}{T1:Sort _}{T2:Sort _}{P0:T0->T1->T2->Prop}{P1:T0->T1->T2->Prop}{P2:T0->T1->T2->Prop}{P3:T0->T1->T2->Prop}(x0:T0)(x1:T1)(x2:T2)(h0:P0 x0 x1 x2)(h1:P1 x0 x1 x2)(h2:P2 x0 x1 x2)(h3:P3 x0 x1 x2):∃ x0,∃ x1,∃ x2,P0 x0 x1 x2/\P1 x0 x1 x2/\P2 x0 x1 x2/\P3 x0 x1 x2:=⟨x0,x1,x2,h0,h1,h2,h3⟩
theorem E2 {T0:Sort _}{T1:Sort _}{T2:Sort _}{T3:Sort _}{T4:Sort _}{P0:T0->T1->T2->T3->T4->Prop}{P1:T0->T1->T2->T3->T4->Prop}(x0:T0)(x1:T1)(x2:T2)(x3:T3)(x4:T4)(h0:P0 x0 x1 x2 x3 x4)(h1:P1 x0 x1 x2 x3 x4):∃ x0,∃ x1,∃ x2,∃ x3,∃ x4,P0 x0 x1 x2 x3 x4/\P1 x0 x1 x2 x3 x4:=⟨x0,x1,x2,x3,x4,h0,h1⟩
theorem gY {T0:Sort _}{T1:Sort _}{T2:Sort _}{T3:Sort _}{T4:Sort _}{P0:T0->T1->T2->T3->T4->Prop}{P1:T0->T1->T2->T3->T4->Prop}{P2:T0->T1->T2->T3->T4->Prop}{P3:T0->T1->T2->T3->T4->Prop}(x0:T0)(x1:T1)(x2:T2)(x3:T3)(x4:T4)(h0:P0 x0 x1 x2 x3 x4)(h1:P1 x0 x1 x2 x3 x4)(h2:P2 x0 x1 x2 x3 x4)(h3:P3 x0 x1 x2 x3 x4):∃ x0,∃ x1,∃ x2,∃ x3,∃ x4,P0 x0 x1 x2 x3 x4/\P1 x0 x1 x2 x3 x4/\P2 x0 x1 x2 x3 x4/\P3 x0 x1 x2 x3 x4:=⟨x0,x1,x2,x3,x4,h0,h1,h2,h3⟩
theorem dX {T0:Sort _}{T1:Sort _}{T2:Sort _}{T3:Sort _}{P0:Prop}{P1:T0->T1->Prop}{P2:T0->T1->Prop}{P3:T0->T1->Prop}{P4:T0->T1->T2->T3->Prop}{P5:T0->T1->T2->T3->Prop}(h0:P0)(x0:T0)(x1:T1)(h1:P1 x0 x1)(h2:P2 x0 x1)(h3:P3 x0 x1)(x2:T2)(x3:T3)(h4:P4 x0 x1 x2 x3)(h5:P5 x0 x1 x2 x3):P0/\∃ x0,∃ x1,P1 x0 x1/\P2 x0 x1/\P3 x0 x1/\∃ x2,∃ x3,P4 x0 x1 x2 x3/\P5 x0 x1 x2 x3:=⟨h0,x0,x1,h1,h2,h3,x2,x3,h4,h5⟩
theorem lj {T0:Sort _}{T1:Sort _}{T2:Sort _}{T3:Sort _}{P0:T0->T1->T2->T3->Prop}{P1:T0->T1->T2->T3->Prop}{P2:T0->T1->T2->T3->Prop}{P3:T0->T1->T2->T3->Prop}{P4:T0->T1->T2->T3->Prop}{P5:T0->T1->T2->T3->Prop}{P6:T0->T1->T2->T3->Prop}(x0:T0)(x1:T1)(x2:T2)(x3:T3)(h0:P0 x0 x1 x2 x3)(h1:P1 x0 x1 x2 x3)(h2:P2 x0 x1 x2 x3)(h3:P3 x0 x1 x2 x3)(h4:P4 x0 x1 x2 x3)(h5:P5 x0 x1 x2 x3)(h6:P6 x0 x1 x2 x3):∃ x0,∃ x1,∃ x2,∃ x3,P0 x0 x1 x2 x3/\P1 x0 x1 x2 x3/\P2 x0 x1 x2 x3/\P3 x0 x1 x2 x3/\P4 x0 x1 x2 x3/\P5 x0 x1 x2 x3/\P6 x0 x1 x2 x3:=⟨x0,x1,x2,x3,h0,h1,h2,h3,h4,h5,h6⟩
theorem gJ {T0:Sort _}{T1:Sort _}{T2:Sort _}{T3:Sort _}{T4:Sort _}{T5:Sort _}{T6:Sort _}{P0:T0->T1->T2->T3->Prop}{P1:T0->T1->T2->T3->Prop}{P2:T0->T1->T2->T3->Prop}{P3:T0->T1->T2->T3->Prop}{P4:T0->T1->T2->T3->Prop}{P5:T0->T1->T2->T3->T4->T5->T6->Prop}{P6:T0->T1->T2->T3->T4->T5->T6->Prop}(x0:T0)(x1:T1)(x2:T2)(x3:T3)(h0:P0 x0 x1 x2 x3)(h1:P1 x0 x1 x2 x3)(h2:P2 x0 x1 x2 x3)(h3:P3 x0 x1 x2 x3)(h4:P4 x0 x1 x2 x3)(x4:T4)(x5:T5)(x6:T6)(h5:P5 x0 x1 x2 x3 x4 x5 x6)(h6:P6 x0 x1 x2 x3 x4 x5 x6):∃ x0,∃ x1,∃ x2,∃ x3,P0 x0 x1 x2 x3/\P1 x0 x1 x2 x3/\P2 x0 x1 x2 x3/\P3 x0 x1 x2 x3/\P4 x0 x1 x2 x3/\∃ x4,∃ x5,∃ x6,P5 x0 x1 x2 x3 x4 x5 x6/\P6 x0 x1 x2 x3 x4 x5 x6:=⟨x0,x1,x2,x3,h0,h1,h2,h3,h4,x4,x5,x6,h5,h6⟩
noncomputable abbrev KV:=List (Str×Value)
noncomputable abbrev LV:=List Value
noncomputable abbrev VP:=Value->Heap->Prop
set_option compiler.extract_closed false
 def sN (k:Lean.Name) (a:Array Lean.Syntax):Lean.Syntax:=.node .none k a
 def sA (s:String):Lean.Syntax:=.atom .none s
 def sI (s:String) (n:Lean.Name):Lean.Syntax:=.ident .none s.toRawSubstring n []
 def sS (a:Array Lean.Syntax):Lean.Syntax:=sN `Lean.Parser.Tactic.tacticSeq #[sN `Lean.Parser.Tactic.tacticSeq1Indented #[sN `null a]]
 def sK:Lean.Syntax:=sN `PyProof.Rows.tacticKernel_rfl! #[sA "kernel_rfl!"]
 def sE (a:Lean.Syntax):Lean.Syntax:=sN `Lean.Parser.Tactic.exact #[sA "exact",a]
 def sX:Lean.Syntax:=sE (sI "rfl" `rfl)
 def sJ (l:List Lean.Syntax):Lean.Syntax:=sS (l.intersperse (sA ";")).toArray
 def sP (a:Lean.Syntax):Lean.Syntax:=sN `Lean.Parser.Tactic.paren #[sA "(",a,sA ")"]
 def sF (l:List Lean.Syntax):Lean.Syntax:=sS #[sN `Lean.Parser.Tactic.first #[sA "first",sN `null (l.map fun t=>sN `group #[sA "|",sS #[t]]).toArray]]
 def sO (k:Nat):Lean.Syntax:=sN `Lean.Parser.Tactic.intro #[sA "intro",sN `null (List.replicate k (sN `Lean.Parser.Term.hole #[sA "_"])).toArray]
 def sU (s:String) (n:Lean.Name):Lean.Syntax:=sF [sP (sJ [sN `Lean.Parser.Tactic.unfold #[sA "unfold",sN `null #[sI s n],sN `null #[]],sK]),sX]
 def sD:Lean.Syntax:=sN `Lean.Parser.Tactic.decide #[sA "decide",sN `Lean.Parser.Tactic.optConfig #[sN `null #[sN `Lean.Parser.Tactic.configItem #[sN `Lean.Parser.Tactic.posConfigItem #[sA "+",sI "kernel" `kernel]]]]]
 def sC (k:Nat):Lean.Syntax:=sE (sN `Lean.Parser.Term.anonymousCtor #[sA "⟨",sN `null ((List.replicate k (sN `Lean.Parser.Term.byTactic #[sA "by",sS #[sK]])).intersperse (sA ",")).toArray,sA "⟩"])
 def sG (s:String) (n:Lean.Name):Lean.Syntax:=sN `Lean.Parser.Tactic.simpLemma #[sN `null #[],sN `null #[],sI s n]
 def tac0:Lean.Syntax:=sS #[sK]
 def tac2:Lean.Syntax:=sJ [sN `Lean.Parser.Tactic.simp #[sA "simp",sN `Lean.Parser.Tactic.optConfig #[sN `null #[]],sN `null #[],sN `null #[sA "only"],sN `null #[sA "[",sN `null #[sG "List.map_cons" `List.map_cons,sA ",",sG "List.map_nil" `List.map_nil],sA "]"],sN `null #[]],sD]
 def tac3:Lean.Syntax:=sS #[sD]
 def tac4:Lean.Syntax:=sS #[sN `Lean.Parser.Tactic.tacticRfl #[sA "rfl"]]
 def tac5:Lean.Syntax:=sS #[sE (sN `Lean.Parser.Term.app #[sI "of_decide_eq_true" `of_decide_eq_true,sN `null #[sI "rfl" `rfl]])]
 def tac6:Lean.Syntax:=sJ [sO 2,sK]
 def tac7:Lean.Syntax:=sJ [sO 1,sK]
 def tac8:Lean.Syntax:=sS #[sN `tacticSize_fits #[sA "size_fits"]]
 def tac10:Lean.Syntax:=sF [sK,sX]
 def tac11:Lean.Syntax:=sS #[sC 7]
 def tac12:Lean.Syntax:=sU "celOK" `aU
 def tac13:Lean.Syntax:=sU "Sel" `mJ
 def tac14:Lean.Syntax:=sS #[sX]
 def tac15:Lean.Syntax:=sS #[sC 2]
 def tac16:Lean.Syntax:=sJ [sO 3,sK]
 def tac17:Lean.Syntax:=sJ [sO 4,sK]
 def tac18:Lean.Syntax:=sJ [sO 5,sK]
 def tac19:Lean.Syntax:=sJ [sN `Lean.Parser.Tactic.intros #[sA "intros",sN `null #[]],sN `Lean.Parser.Tactic.tacticRfl #[sA "rfl"]]
theorem nS {β:Type}{x:β}{P:Prop}(h:none=some x):P:=nomatch h
theorem nO {β:Type}{x:β}{P:Prop}(h:some x=none):P:=nomatch h
theorem nB {P:Prop}(h:false=true):P:=nomatch h
theorem nT {P:Prop}(h:true=false):P:=nomatch h
theorem ll {n:Nat}:n<=n:=Nat.le_refl n
theorem ar {n a b:Nat}(h:n<=a):n<=a+b:=Nat.le_trans h (Nat.le_add_right a b)
theorem al {n a b:Nat}(h:n<=b):n<=a+b:=Nat.le_trans h (Nat.le_add_left b a)
theorem pp {a b c d:Nat}(h:a<=c)(k:b<=d):a+b<=c+d:=Nat.add_le_add h k
theorem sl {n m:Nat}(h:n+1<=m):n<=m:=Nat.le_of_succ_le h
theorem OM {a b c d:Nat}(h:c<=d)(k:a<=c)(k2:d<=b):a<=b:=Nat.le_trans k (Nat.le_trans h k2)
 def sR (s:String) (n:Lean.Name) (a:Array Lean.Syntax) (t:Lean.Syntax):Lean.Syntax:=sN `Lean.Parser.Tactic.«tactic_<;>_» #[sN `Lean.Parser.Tactic.refine #[sA "refine",sN `Lean.Parser.Term.app #[sI s n,sN `null a]],sA "<;>",sP t]
 def sH:Lean.Syntax:=sN `Lean.Parser.Term.syntheticHole #[sA "?",sA "_"]
 def Yy:Lean.Syntax:=sN `Lean.Parser.Tactic.assumption #[sA "assumption"]
 def sM:Nat->Lean.Syntax
 | 0=>sF [sE (sI "ll" `ll),Yy,sE (sN `Lean.Parser.Term.app #[sI "Nat.le_of_ble_eq_true" `Nat.le_of_ble_eq_true,sN `null #[sI "rfl" `rfl]])]
 | k+1=>sF [sP (sM 0),sR "ar" `ar #[sH] (sM k),sR "al" `al #[sH] (sM k),sR "pp" `pp #[sH,sH] (sM k),sR "sl" `sl #[sH] (sM k)]
 def tac21:Lean.Syntax:=sS #[sN `Lean.Parser.Tactic.decide #[sA "decide",sN `Lean.Parser.Tactic.optConfig #[sN `null #[]]]]
 def tac9:Lean.Syntax:=sF [sP (sM 3),sN `Lean.Parser.Tactic.lia #[sA "lia",sN `Lean.Parser.Tactic.optConfig #[sN `null #[]]]]
 def tacW:Lean.Syntax:=sF [sP (sM 5),sR "lt3" `OM #[sN `Lean.Parser.Term.paren #[sN `Lean.Parser.Term.hygienicLParen #[sA "(",sN `hygieneInfo #[sI "[anonymous]" Lean.Name.anonymous]],sN `Lean.Parser.Term.byTactic #[sA "by",sS #[Yy]],sA ")"],sH,sH] (sM 4)]
 def tac20:Lean.Syntax:=sE (sN `Lean.Parser.Term.dotIdent #[sA ".",sI "mk" `mk])
 def tacS:Lean.Syntax:=sS #[sN `Lean.Parser.Tactic.simp #[sA "simp",sN `Lean.Parser.Tactic.optConfig #[sN `null #[sN `Lean.Parser.Tactic.configItem #[sN `Lean.Parser.Tactic.posConfigItem #[sA "+",sI "arith" `arith]]]],sN `null #[],sN `null #[],sN `null #[],sN `null #[]]]
theorem cZ {c d:Nat}(k:autoParam (c<=d) tacS):c<=d:=k
theorem aJ {a b c d:Nat}(h:a<=b)(k:autoParam (c+b<=d+a) tacS):c<=d:=Nat.le_of_add_le_add_right (Nat.le_trans k (Nat.add_le_add_left h d))
theorem bo {a b a' b' c d:Nat}(h:a<=b)(h':a'<=b')(k:autoParam (c+b+b'<=d+a+a') tacS):c<=d:=aJ h (aJ h' k)
theorem ja {a b a' b' a2 b2 c d:Nat}(h:a<=b)(h':a'<=b')(h2:a2<=b2)(k:autoParam (c+b+b'+b2<=d+a+a'+a2) tacS):c<=d:=bo h h' (aJ h2 k)
theorem lw {a b:Nat}(h:autoParam (a<=b) tacW):a<=b:=h
theorem OT {α:Type _}{a b:α}(h:autoParam (a=b) tac0):a=b:=h
theorem OU:True:=trivial
theorem OV {p:Prop}(h:autoParam p tac21):p:=h
theorem OW {a b:Bool}(h:(a&&b)=true):a=true/\b=true:=Bool.and_eq_true_iff.mp h
theorem OX {α:Type}{a:α}{s t:List α}(h:a∈s++t):a∈s\/a∈t:=List.mem_append.mp h
theorem OY {α:Type}{a b:α}{l:List α}(h:a∈b::l):a=b\/a∈l:=List.mem_cons.mp h
theorem OZ {α:Type}{l:List α}{p:α->Bool}(h:l.all p=true):∀ x∈l,p x=true:=List.all_eq_true.mp h
theorem Pa {α β:Type}{f:α->β}{l:List α}{b:β}(h:b∈l.map f):∃ a,a∈l/\f a=b:=List.mem_map.mp h
theorem Pb {α β:Type}{f:α->β}{l:List α}{b:β}(h:∃ a,a∈l/\f a=b):b∈l.map f:=List.mem_map.mpr h
abbrev Pc:=@Prod.mk.inj
abbrev Pd:=@Option.some.inj
abbrev Pe:=@wpAny_bind
abbrev Pf:=@Nat.le_of_ble_eq_true
abbrev Pg:=@Nat.le_trans
abbrev Ph:=@Nat.eq_of_beq_eq_true
abbrev Pj:=@wpAny_pure
abbrev Pl:=@congrArg
abbrev Pm:=@Nat.le_refl
abbrev Pn:=@List.mem_of_getElem?
abbrev Po:=@List.mem_of_getElem?
abbrev Pp:=@of_decide_eq_true
abbrev Pq:=@Nat.le_add_right
abbrev Pr:=@decide_eq_false
abbrev Pt:=@decide_eq_true
abbrev Pu:=@eq_of_beq
noncomputable def vh (n:Nat)(A:Around):Prop:=A.depth+n < recursionLimit/\A.units+16*n+64 < cLine/\A.handled=none
theorem vh.room {n:Nat}{A:Around}(b:vh n A):A.depth < recursionLimit:=aJ b.1
theorem vh.units {n:Nat}{A:Around}(b:vh n A):A.units < cLine:=aJ b.2.1
theorem vh.le {n k:Nat}{A:Around}(b:vh n A)(h:k<=n):vh k A:=cF (bo b.1 h) (bo b.2.1 (Nat.mul_le_mul_left 16 h)) b.2.2
theorem vh.deeper {n:Nat}{A:Around}(b:vh (n+1) A)(env:Env):vh n (A.deeper env):=cF (aJ (c:=A.depth+1+n+1) b.1) (by have:=b.2.1;show A.units+3+_+_ < _;lia) b.2.2
section
variable {prog:Program}{w:World}
structure W (prog:Program)(w:World)(n:Nat){α:Type}(t:Sem α)(Q:α->Heap->Prop)(h:Heap):Prop where
 run:∀ (A:Around) (g:Array GenState) (d:Drawn) (tk:Nat) (os:OsState),vh n A->
  wpAny (model prog w) A t (fun v s'=>(s'.gens=g/\s'.drawn=d/\s'.os=os)/\Q v s'.heap) (fun U U=>False) ⟨h,g,d,tk,os⟩
variable {n:Nat}{α β:Type}{t:Sem α}{Q:α->Heap->Prop}{h:Heap}{A:Around}{g:Array GenState}{d:Drawn}{tk:Nat}{os:OsState}{E:Value->Shared->Prop}
theorem W.to {P:α->Shared->Prop}(x:W prog w n t Q h)(hb:vh n A)(k:∀ v h' PS,Q v h'->P v ⟨h',g,d,PS,os⟩):
  wpAny (model prog w) A t P E ⟨h,g,d,tk,os⟩:=
 wpAny_mono (x.run A g d tk os hb) (fun v s' ⟨⟨e1,e2,e3⟩,q⟩=>by obtain ⟨h',g',d',t',Tu⟩:=s';dsimp only at e1 e2 e3;subst e1 e2 e3;exact k v h' t' q) fun U U f=>f.elim
theorem aI {P:Prop}(p:P):(g=g/\d=d/\os=os)/\P:=⟨(cF rfl rfl rfl),p⟩
theorem W.mono {Q':α->Heap->Prop}(x:W prog w n t Q h)(k:∀ v h',Q v h'->Q' v h'):W prog w n t Q' h:=.mk fun A g d tk os hb=>x.to hb fun v h' U q=>aI (k v h' q)
theorem W.le {k:Nat}(x:W prog w k t Q h)(hk:k<=n):W prog w n t Q h:=.mk fun A g d tk os hb=>x.run A g d tk os (hb.le hk)
structure C (prog:Program)(w:World)(n:Nat)(c:Code)(R:Flow->Heap->Prop)(h:Heap):Prop where
 run:∀ (A:Around) (g:Array GenState) (d:Drawn) (tk:Nat) (os:OsState),vh n A->
  codeAny (model prog w) A c (fun r s'=>match r with | .ok f=>(s'.gens=g/\s'.drawn=d/\s'.os=os)/\R f s'.heap | .error _=>False) ⟨h,g,d,tk,os⟩
theorem C.to {c:Code}{R:Flow->Heap->Prop}{P:Result->Shared->Prop}(x:C prog w n c R h)(hb:vh n A)(k:∀ f h' PS,R f h'->P (.ok f) ⟨h',g,d,PS,os⟩):
  codeAny (model prog w) A c P ⟨h,g,d,tk,os⟩:=
 codeAny_mono (x.run A g d tk os hb) fun r s' q=>by
  cases r with
  | error e=>exact q.elim
  | ok f=>obtain ⟨⟨e1,e2,e3⟩,q⟩:=q;obtain ⟨h',g',d',t',Tu⟩:=s';dsimp only at e1 e2 e3;subst e1 e2 e3;exact k f h' t' q
noncomputable def mY (Q:VP)(f:Flow)(h:Heap):Prop:=match f with | .ret v=>Q v h | _=>False
theorem wG {f:Value}{vs:LV}{Q:VP}(x:C prog w n (.call f ⟨vs,[]⟩) (mY Q) h):W prog w n (call f vs) Q h:=
 .mk fun A g d tk os hb=>wpAny_call (x.to hb fun f h' PS q=>by cases f<;>first | exact aI q | exact q.elim)
end
inductive an where
 | lst (xs:LV)
 | pls (xs:LV)
 | tup (xs:LV)
 | dct (P7:KV)
 | ins (C dx:Addr)
 | att (fs:KV)
 | ns (m:List (Str×Option Value))
 | cel (v:Option Value)
 | lit (l:Addr) (i:Nat)
 | rit (x left step:Int)
 | obj (o:Obj)
 | dce (P7:KV) (ep:Nat)
 | kit (d:Addr) (i len ep:Nat)
noncomputable abbrev dy:=List (Addr×an)
def iT:List DictEntry->KV->Prop
 | [],[]=>True
 | e::es,(x,v)::fs=>(∃ t,e.key=.str x t)/\e.val=v/\iT es fs
 | _,_=>False
def ci (w:World)(h:Heap)(a:Addr):an->Prop
 | .lst xs=>h.IsList a ⟨xs⟩
 | .pls xs=>h.PlainList a ⟨xs⟩
 | .tup xs=>∃ n,h.get? a=some ⟨.type "tuple",none,.seq ⟨xs⟩ n,⟨[]⟩⟩
 | .dct P7=>(a==sysModules)=false/\h.DictOf (strKind PySem.Challenge.pw_np0242_01 w) a P7
 | .ins C dx=>h.get? a=some (instObj C dx)
 | .att fs=>∃ es n,h.get? a=some ⟨.type "dict",none,.dict ⟨es⟩ n,⟨[]⟩⟩/\iT es fs
 | .ns m=>∃ f,h.Ns a f/\(∀ p∈m,f p.1=p.2)/\(m.map (·.1)).Nodup
 | .cel v=>h.IsCell a v
 | .lit l i=>h.IsListIter a l i
 | .rit x k t=>IsRangeIter h a x k t
 | .obj o=>h.get? a=some o
 | .dce P7 ep=>(a==sysModules)=false/\h.DictAt (strKind PySem.Challenge.pw_np0242_01 w) a P7 ep
 | .kit d i len ep=>h.IsKeyIter a d i len ep
theorem ci.of_eq {w:World}{h h':Heap}{a:Addr}(e:h'.get? a=h.get? a):∀ {c:an},ci w h a c->ci w h' a c
 | .lst _,x=>bM x fun o x r=>bw o (e.trans x) r
 | .pls _,x=>oE x fun n x=>⟨n,e.trans x⟩
 | .tup _,x=>oE x fun n x=>⟨n,e.trans x⟩
 | .dct _,x=>by unfold ci Heap.DictOf at*;refine uc x fun hs o es ep h1 r=>?_;exact ⟨hs,o,es,ep,e.trans h1,r⟩
 | .ins _ _,x=>e.trans x
 | .att _,x=>iQ x fun es n x r=>me es n (e.trans x) r
 | .ns _,x=>bM x fun f y q=>bw f (sW y fun o es ep h1 r=>yg o es ep (e.trans h1) r) q
 | .cel _,x=>bM x fun o h1 r=>bw o (e.trans h1) r
 | .lit _ _,x=>bM x fun o h1 r=>bw o (e.trans h1) r
 | .rit _ _ _,x=>Eq.trans e x
 | .obj _,x=>e.trans x
 | .dce _ _,x=>ve x fun hs o es h1 r=>ye hs o es (e.trans h1) r
 | .kit _ _ _ _,x=>bM x fun o h1 r=>bw o (e.trans h1) r
theorem ci.live {w:World}{h:Heap}{a:Addr}:∀ {c:an},ci w h a c->∃ o,h.get? a=some o
 | .lst _,x=>bM x fun U x U=>⟨_,x⟩
 | .pls _,x=>oE x fun U x=>⟨_,x⟩
 | .tup _,x=>oE x fun U x=>⟨_,x⟩
 | .dct _,x=>by unfold ci Heap.DictOf at*;refine uc x fun U o es ep h1 r=>?_;exact ⟨o,h1⟩
 | .ins _ _,x=>⟨_,x⟩
 | .att _,x=>iQ x fun U U x U=>⟨_,x⟩
 | .ns _,x=>bM x fun U y U=>sW y fun o U U h1 U=>⟨o,h1⟩
 | .cel _,x=>bM x fun o h1 U=>⟨o,h1⟩
 | .lit _ _,x=>bM x fun o h1 U=>⟨o,h1⟩
 | .rit _ _ _,x=>⟨_,x⟩
 | .obj _,x=>⟨_,x⟩
 | .dce _ _,x=>ve x fun U o es h1 U=>⟨o,h1⟩
 | .kit _ _ _ _,x=>bM (x) fun o h1 U=>⟨o,h1⟩
theorem ci.lt {w:World}{h:Heap}{a:Addr}{c:an}(x:ci w h a c):a < h.objs.size:=oE (x.live) fun U e=>Heap.lt_size e
theorem ci.keeps {w:World}{h h':Heap}{a:Addr}{c:an}(x:ci w h a c)(k:∀ o,h.get? a=some o->h'.get? a=some o):ci w h' a c:=by refine oE x.live fun o e=>?_;exact x.of_eq ((k o e).trans e.symm)
noncomputable abbrev a8:=Addr->Option an
noncomputable def a8.le (Z Z':a8):Prop:=∀ a c,Z a=some c->Z' a=some c
theorem a8.le.refl (Z:a8):Z.le Z:=fun U U e=>e
theorem a8.le.trans {Z Z' Qr:a8}(x:Z.le Z')(y:Z'.le Qr):Z.le Qr:=fun a c e=>y a c (x a c e)
noncomputable def a8.put (Z:a8)(a:Addr)(c:an):a8:=fun b=>if b=a then some c else Z b
theorem a8.put_self (Z:a8)(a:Addr)(c:an):Z.put a c a=some c:=if_pos rfl
theorem a8.put_ne {Z:a8}{a b:Addr}{c:an}(h:b≠a):Z.put a c b=Z b:=if_neg h
theorem a8.le_put {Z:a8}{a:Addr}{c:an}(h:Z a=none):Z.le (Z.put a c):=fun b x e=>by
 have:b≠a:=by rintro rfl;rw [h] at e;exact nS e
 exact (a8.put_ne this).trans e
def Ly (w:World)(Z:a8)(h:Heap):Prop:=∀ a c,Z a=some c->ci w h a c
structure wH (w:World)(B:Heap):Prop where
 k:(KF w.params).In B
 nolimit:B.NoLimit
 bi:∃ mb,B.Ns builtinsNs mb/\∀ x:Str,x≠"__name__" ->mb x=bootBuiltins x
 low:∃ o,B.get? sysModules=some o
structure aP where
 mod:Addr->Prop
 h:Heap
 z:a8
structure Lz (O:aP)(Z:a8)(h:Heap):Prop where
 ext:O.z.le Z
 new:∀ a o,O.h.get? a=some o->¬ O.mod a->Z a=O.z a
 keep:∀ a o,O.h.get? a=some o->¬ O.mod a->h.get? a=some o
structure St (w:World)(B:Heap)(O:aP)(Z:a8)(led:dy)(h:Heap):Prop where
 base:wH w B
 keepB:∀ a o,B.get? a=some o->h.get? a=some o
 sub:Ly w Z h
 cells:∀ p∈led,ci w h p.1 p.2/\Z p.1=none/\(O.mod p.1\/O.h.get? p.1=none)/\B.get? p.1=none
 nd:(led.map (·.1)).Nodup
 hist:Lz O Z h
theorem bx {l:dy}{i:Nat}{p:Addr×an}(e:l[i]? =some p):p∈l:=Pn e
section
variable {w:World}{B:Heap}{O:aP}{Z:a8}{led:dy}{h h':Heap}
variable {a d f dx it cl : Addr} {c c' : an} {α β : Type} {i j kd : Nat} {fr p : Addr×an} {b left : Int} {rest elts : List Expr} {e test value r slice o target : Expr} {pos pos' Qo : Pos} {body orelse : List Stmt} {x y name : Str} {op : CmpOp} {t u : Tok} {v : Value} {cs m : List (Str×Option Value)} {P9 : FuncData} {vals xs vs first ys : LV} {v0 : Option Value} {P7 : KV} {id : String} {es : List DictEntry} {items : Array Value} {pl : Sem Bool}
theorem St.k (S:St w B O Z led h):(KF w.params).In h:=S.base.k.keeps S.keepB
theorem St.nolimit (S:St w B O Z led h):h.NoLimit:=S.base.nolimit.keeps S.keepB
theorem St.get (S:St w B O Z led h)(i:Nat)(e:led[i]? =some (a,c)):ci w h a c:=(S.cells _ (bx e)).1
theorem St.z (S:St w B O Z led h)(e:Z a=some c):ci w h a c:=S.sub a c e
theorem St.zfresh (S:St w B O Z led h)(e:h.objs.size<=a):Z a=none:=by
 cases q:Z a with
 | none=>rfl
 | some c=>exact absurd (S.z q).lt (Nat.not_lt.mpr e)
theorem St.bfresh (S:St w B O Z led h)(e:h.objs.size<=a):B.get? a=none:=by
 cases q:B.get? a with
 | none=>rfl
 | some c=>exact absurd (Heap.lt_size (S.keepB _ _ q)) (Nat.not_lt.mpr e)
theorem St.ofresh (S:St w B O Z led h)(e:h.objs.size<=a):O.mod a\/O.h.get? a=none:=by
 by_cases m:O.mod a
 ·exact .inl m
 ·cases q:O.h.get? a with
  | none=>exact .inr rfl
  | some c=>exact absurd (Heap.lt_size (S.hist.keep _ _ q m)) (Nat.not_lt.mpr e)
theorem St.nosys (S:St w B O Z led h)(e:h.objs.size<=a):(a==sysModules)=false:=by refine oE S.base.low fun o q=>?_;exact beq_false_of_ne fun r=>by rw [<- r,S.bfresh e] at q;exact nS q
theorem St.growN (S:St w B O Z led h)(k:∀ b o,h.get? b=some o->h'.get? b=some o){new:dy}(x:∀ p∈new,ci w h' p.1 p.2/\h.objs.size<=p.1)
  (nd:(new.map (·.1)).Nodup):St w B O Z (new++led) h':=by
 refine ⟨S.base,fun a o e=>k _ _ (S.keepB a o e),fun a c e=>(S.z e).keeps fun o=>k a o,fun p hp=>?_,?_,⟨S.hist.ext,S.hist.new,fun a o e m=>k _ _ (S.hist.keep a o e m)⟩⟩
 ·rcases OX hp with hp | hp
  ·refine oA (x p hp) fun h1 h2=>?_;exact fu h1 (S.zfresh h2) (S.ofresh h2) (S.bfresh h2)
  ·exact ⟨(S.cells p hp).1.keeps fun o=>k p.1 o,(S.cells p hp).2⟩
 ·rw [List.map_append];refine List.nodup_append.mpr (cF nd S.nd (fun a ha b hb e=>?_));subst e;refine bM (Pa ha) fun p hp PL=>?_;subst PL;refine bM (Pa hb) fun q hq e=>?_;have:=(S.cells q hq).1.lt;rw [e] at this;exact absurd this (Nat.not_lt.mpr (x p hp).2)
theorem St.grow (S:St w B O Z led h)(k:∀ b o,h.get? b=some o->h'.get? b=some o):St w B O Z led h':=S.growN (new:=[]) k (fun U hp=>nomatch hp) .nil
theorem St.grow1 (S:St w B O Z led h)(k:∀ b o,h.get? b=some o->h'.get? b=some o)(x:ci w h' a c)(ha:h.objs.size<=a):St w B O Z ((a,c)::led) h':=S.growN (new:=[(a,c)]) k (fun p hp=>by rcases List.mem_singleton.mp hp with rfl;exact ⟨x,ha⟩) (by simp)
theorem St.push (S:St w B O Z led h)(o:Obj)(c:an)(x:ci w (h.push o) h.objs.size c):St w B O Z ((h.objs.size,c)::led) (h.push o):=S.grow1 (fun b o' e=>Heap.get?_push_of_some _ e) x ll
theorem lU{l:List (α×β)}{a:α}{b c:β}(e:l[i]? =some (a,b)):(l.set i (a,c)).map (·.1)=l.map (·.1):=by
 induction l generalizing i with
 | nil=>rfl
 | cons p l ih=>cases i with
  | zero=>obtain rfl:=Pd e;rfl
  | succ i=>exact Pl (_:: ·) (ih e)
theorem ec{a:α}{b c:β}{p:α×β}{l:List (α×β)}:∀ {i:Nat},l[i]? =some (a,b)->(l.map (·.1)).Nodup->p∈l.set i (a,c)->p=(a,c)\/(p∈l/\p.1≠a):=by
 induction l with
 | nil=>exact fun e=>nomatch e
 | cons x l ih=>
  intro i e nd hp;have n1:=(List.nodup_cons.mp nd).1;cases i with
  | zero=>cases e;exact (OY hp).imp id fun hp=>⟨.tail _ hp,fun q=>n1 (Pb (bw p hp q))⟩
  | succ i=>
   rcases OY hp with rfl | hp
   ·exact .inr ⟨.head _,fun q=>n1 (Pb (bw _ (Pn e) q.symm))⟩
   ·exact (ih e (List.nodup_cons.mp nd).2 hp).imp id fun q=>⟨.tail _ q.1,q.2⟩
theorem St.upd (S:St w B O Z led h)(i:Nat)(e:led[i]? =some (a,c))(hs:Heap.SameBut a h h')(x:ci w h' a c'):St w B O Z (led.set i (a,c')) h':=by
 refine qA (S.cells _ (bx e)) fun hc hz hm hb=>?_;have ne:∀ {b o},B.get? b=some o->b≠a:=fun {b o} q r=>by rw [r,hb] at q;exact nS q
 refine ⟨S.base,fun b o q=>(hs.2 b (ne q)).trans (S.keepB b o q),fun b c q=>(S.z q).of_eq (hs.2 b fun r=>by rw [r,hz] at q;exact nS q),fun p hp=>?_,?_,?_⟩
 ·rcases ec e S.nd hp with rfl | ⟨hp,hn⟩
  ·exact fu x hz hm hb
  ·exact ⟨(S.cells p hp).1.of_eq (hs.2 _ hn),(S.cells p hp).2⟩
 ·rw [lU e];exact S.nd
 ·refine ⟨S.hist.ext,S.hist.new,fun b o q m=>?_⟩
  have:b≠a:=by
   rintro rfl;rcases hm with hm | hm
   ·exact m hm
   ·rw [hm] at q;exact nS q
  exact (hs.2 b this).trans (S.hist.keep b o q m)
theorem St.sub_led (S:St w B O Z led h){l:dy}(hl:∀ p∈l,p∈led)(nd:(l.map (·.1)).Nodup):St w B O Z l h:=⟨S.base,S.keepB,S.sub,fun p hp=>S.cells p (hl p hp),nd,S.hist⟩
theorem St.drop (S:St w B O Z led h)(k:Nat):St w B O Z (led.drop k) h:=S.sub_led (fun p hp=>List.mem_of_mem_drop hp) (by rw [List.map_drop];exact S.nd.sublist (List.drop_sublist _ _))
theorem St.perm {led PM:dy}(S:St w B O Z led h)(p:List.Perm led PM):St w B O Z PM h:=S.sub_led (fun x hx=>p.mem_iff.mpr hx) ((p.map _).nodup_iff.mp S.nd)
theorem St.swap {p q:Addr×an}(S:St w B O Z (p::q::led) h):St w B O Z (q::p::led) h:=S.perm (.swap _ _ _)
theorem St.push1(S:St w B O Z (fr::led) h)(o:Obj)(c:an)(x:ci w (h.push o) h.objs.size c):St w B O Z (fr::(h.objs.size,c)::led) (h.push o):=(S.push o c x).swap
theorem St.freeze(S:St w B O Z ((a,c)::led) h):St w B O (Z.put a c) led h:=by
 refine qA (S.cells _ (.head _)) fun hc hz hm hb=>?_;have nd:=S.nd;rw [List.map_cons,List.nodup_cons] at nd;refine ⟨S.base,S.keepB,fun b x q=>?_,fun p hp=>?_,nd.2,?_⟩
 ·by_cases r:b=a
  ·subst r;rw [a8.put_self] at q;cases q;exact hc
  ·rw [a8.put_ne r] at q;exact S.z q
 ·refine ub (S.cells p (.tail _ hp)) fun h1 h2 h3=>?_;have:p.1≠a:=fun r=>nd.1 (Pb (bw p hp r));exact cF h1 ((a8.put_ne this).trans h2) h3
 ·refine ⟨S.hist.ext.trans (a8.le_put hz),fun b o q m=>?_,S.hist.keep⟩
  have:b≠a:=fun r=>by
   subst r;rcases hm with hm | hm
   ·exact m hm
   ·rw [q] at hm;exact nO hm
  exact (a8.put_ne this).trans (S.hist.new b o q m)
structure N9 (w:World)(mod:Addr->Prop)(h:Heap)(Z Z':a8)(h':Heap):Prop where
 hist:Lz ⟨mod,h,Z⟩ Z' h'
 sub:Ly w Z' h'
theorem St.ret (S:St w B O Z led h):N9 w O.mod O.h O.z Z h:=⟨S.hist,S.sub⟩
theorem St.back {Z':a8}(S:St w B O Z led h)(R:N9 w (fun U=>False) h Z Z' h'):St w B O Z' led h' where
 base:=S.base
 keepB:=fun a o e=>R.hist.keep a o (S.keepB a o e) id
 sub:=R.sub
 cells:=fun p hp=>by refine ub (S.cells p hp) fun h1 h2 h3=>?_;exact cF (h1.keeps fun o e=>R.hist.keep _ _ e id) (oE (h1.live) fun o e=>(R.hist.new _ o e id).trans h2) h3
 nd:=S.nd
 hist:=⟨S.hist.ext.trans R.hist.ext,fun a o q m=>(R.hist.new a o (S.hist.keep a o q m) id).trans (S.hist.new a o q m),fun a o e m=>R.hist.keep a o (S.hist.keep a o e m) id⟩
theorem St.back1 {Z':a8}(S:St w B O Z led h)(e:led[i]? =some (a,c))(R:N9 w (fun x=>x=a) h Z Z' h')(x:ci w h' a c')(z:Z' a=none):St w B O Z' (led.set i (a,c')) h':=by
 refine qA (S.cells _ (bx e)) fun hc hz hm hb=>?_;refine ⟨S.base,fun b o q=>R.hist.keep b o (S.keepB b o q) (fun r=>by rw [r,hb] at q;exact nS q),R.sub,fun p hp=>?_,?_,?_⟩
 ·rcases ec e S.nd hp with rfl | ⟨hp,hn⟩
  ·exact fu x z hm hb
  ·refine ub (S.cells p hp) fun h1 h2 h3=>?_;exact cF (h1.keeps fun o q=>R.hist.keep _ _ q hn) (oE (h1.live) fun o e=>(R.hist.new _ o e hn).trans h2) h3
 ·rw [lU e];exact S.nd
 ·have V1:∀ {b o},O.h.get? b=some o->¬ O.mod b->b≠a:=fun {b o} q m r=>by
   subst r;rcases hm with hm | hm
   ·exact m hm
   ·rw [hm] at q;exact nS q
  exact ⟨S.hist.ext.trans R.hist.ext,fun b o q m=>(R.hist.new b o (S.hist.keep b o q m) (V1 q m)).trans (S.hist.new b o q m),fun b o q m=>R.hist.keep b o (S.hist.keep b o q m) (V1 q m)⟩
theorem St.back2 {Z':a8}{b : Addr}{d d' : an}(S:St w B O Z led h)(e:led[i]? =some (a,c))(e2:led[j]? =some (b,d))(R:N9 w (fun x=>x=a\/x=b) h Z Z' h')
  (x:ci w h' a c') (z:Z' a=none) (x2:ci w h' b d') (z2:Z' b=none) (QT:i≠j):St w B O Z' ((led.set i (a,c')).set j (b,d')) h':=by
 refine qA (S.cells _ (bx e)) fun hc hz hm hb=>?_;refine qA (S.cells _ (bx e2)) fun Rc Q3 R4 Rj=>?_;have TP:(led.set i (a,c'))[j]? =some (b,d):=by rw [List.getElem?_set_ne QT];exact e2
 have Yz:((led.set i (a,c')).map (·.1)).Nodup:=by rw [lU e];exact S.nd
 refine ⟨S.base,fun y o q=>R.hist.keep y o (S.keepB y o q) (fun r=>by rcases r with r | r;rw [r,hb] at q;exact nS q;rw [r,Rj] at q;exact nS q),R.sub,fun p hp=>?_,?_,?_⟩
 ·rcases ec TP Yz hp with rfl | ⟨hp,hn⟩
  ·exact fu x2 z2 R4 Rj
  ·rcases ec e S.nd hp with rfl | ⟨hp,YA⟩
   ·exact fu x z hm hb
   ·refine ub (S.cells p hp) fun h1 h2 h3=>?_;have:¬ (p.1=a\/p.1=b):=fun r=>r.elim YA hn;exact cF (h1.keeps fun o q=>R.hist.keep _ _ q this) (oE (h1.live) fun o e=>(R.hist.new _ o e this).trans h2) h3
 ·rw [lU TP];exact Yz
 ·have V1:∀ {y o},O.h.get? y=some o->¬ O.mod y->¬ (y=a\/y=b):=fun {y o} q m r=>by
   rcases r with r | r<;>subst r
   ·rcases hm with hm | hm
    ·exact m hm
    ·rw [hm] at q;exact nS q
   ·rcases R4 with hm | hm
    ·exact m hm
    ·rw [hm] at q;exact nS q
  exact ⟨S.hist.ext.trans R.hist.ext,fun b o q m=>(R.hist.new b o (S.hist.keep b o q m) (V1 q m)).trans (S.hist.new b o q m),fun b o q m=>R.hist.keep b o (S.hist.keep b o q m) (V1 q m)⟩
theorem St.start {mod:Addr->Prop}{l:dy}(S:St w B O Z led h)(hl:∀ p∈l,p∈led)(nd:(l.map (·.1)).Nodup)(hm:∀ p∈l,mod p.1):St w B ⟨mod,h,Z⟩ Z l h:=⟨S.base,S.keepB,S.sub,fun p hp=>fu ((S.cells p (hl p hp)).1) ((S.cells p (hl p hp)).2.1) (.inl (hm p hp)) ((S.cells p (hl p hp)).2.2.2),nd,⟨.refl _,fun U U U U=>rfl,fun U U e U=>e⟩⟩
theorem St.start0 (S:St w B O Z led h):St w B ⟨fun U=>False,h,Z⟩ Z [] h:=S.start (fun U hp=>nomatch hp) .nil fun U hp=>nomatch hp
theorem St.start1 (S:St w B O Z led h)(i:Nat)(e:led[i]? =some (a,c)):St w B ⟨fun x=>x=a,h,Z⟩ Z [(a,c)] h:=S.start (fun p hp=>by rcases List.mem_singleton.mp hp with rfl;exact bx e) (by simp) fun p hp=>by rcases List.mem_singleton.mp hp with rfl;rfl
theorem vj{b : Addr}{d : an}{led:dy}(nd:(led.map (·.1)).Nodup)(e:led[i]? =some (a,c))(e2:led[j]? =some (b,d))(QT:i≠j):a≠b:=fun r=>by
 subst r;have h1:(led.map (·.1))[i]? =some a:=by rw [List.getElem?_map,e];rfl
 have h2:(led.map (·.1))[j]? =some a:=by rw [List.getElem?_map,e2];rfl
 refine oE (List.getElem?_eq_some_iff.mp h1) fun l1 g1=>?_;refine oE (List.getElem?_eq_some_iff.mp h2) fun l2 g2=>?_;exact QT ((List.getElem_inj nd).mp (g1.trans g2.symm))
theorem St.start2 (S:St w B O Z led h)(i j:Nat){b : Addr}{d : an}(e:led[i]? =some (a,c))(e2:led[j]? =some (b,d))(QT:i≠j):St w B ⟨fun x=>x=a\/x=b,h,Z⟩ Z [(a,c),(b,d)] h:=
 S.start (fun p hp=>by simp only [List.mem_cons,List.not_mem_nil,or_false] at hp;rcases hp with rfl | rfl;exact bx e;exact bx e2)
  (by simp only [List.map_cons,List.map_nil,List.nodup_cons,List.mem_singleton,List.not_mem_nil,not_false_eq_true,List.nodup_nil,and_true];exact vj S.nd e e2 QT)
  fun p hp=>by simp only [List.mem_cons,List.not_mem_nil,or_false] at hp;rcases hp with rfl | rfl;exact .inl rfl;exact .inr rfl
variable {prog:Program}{n:Nat}{env:Env}
theorem dq {Q:Flow->Heap->Prop}(q:Q .next h):W prog w n (execs [] env) Q h:=.mk fun U U U U U U=>wpAny_execs_nil (aI q)
theorem f8 {st:Stmt}{rest:List Stmt}{Q:Flow->Heap->Prop}(x:W prog w n (exec st env) (fun f h'=>match f with | .next=>W prog w n (execs rest env) Q h' | f=>Q f h') h):W prog w n (execs (st::rest) env) Q h:=
 .mk fun A g d tk os hb=>wpAny_execs_cons (x.to hb fun f h' PS q=>by cases f<;>first | exact q.to hb (fun U U U q=>aI q) | exact aI q)
theorem B3{Q:Flow->Heap->Prop}(x:W prog w n (eval e env) (fun v h'=>Q (.ret v) h') h):W prog w n (exec (.Return (some e) pos) env) Q h:=.mk fun A g d tk os hb=>wpAny_Return_some (x.to hb fun U U U q=>aI q)
theorem NP{Q:Flow->Heap->Prop}
  (x:W prog w n (isTrue test env (eval test env)) (fun b h'=>if b=true then W prog w n (execs body env) Q h' else W prog w n (execs orelse env) Q h') h):W prog w n (exec (.If test body orelse pos) env) Q h:=
 .mk fun A g d tk os hb=>wpAny_If (x.to hb fun b h' PS q=>by cases b<;>exact q.to hb fun U U U q=>aI q)
theorem s9{Q:Flow->Heap->Prop}(k:W prog w n (eval value env) (fun v h'=>W prog w n (storeName env x v) (fun U h2=>Q .next h2) h') h)
  (hs:autoParam (swapsWith value (some (.Name x pos')) pos.line env=pure false) tac0):W prog w n (exec (.Assign [.Name x pos'] value pos) env) Q h:=.mk fun A g d tk os hb=>wpAny_Assign_Name (k.to hb fun U U U q=>q.to hb fun U U U q=>aI q) hs
theorem B4{Q:Flow->Heap->Prop}(k:W prog w n (eval e env) (fun v h'=>v=.none/\Q .next h') h)
  (hi:autoParam (interactive env=false) tac0) (hs:autoParam (swapsWith e none pos.line env=pure false) tac0):W prog w n (exec (.Expr e pos) env) Q h:=.mk fun A g d tk os hb=>wpAny_Expr (k.to hb fun v U U q=>by obtain ⟨rfl,q⟩:=q;exact aI q) hi hs
theorem E3 {l : Expr}{op:Operator}{Q:VP}(k:W prog w n (eval l env) (fun a h1=>W prog w n (eval r env) (fun b h2=>W prog w n (binaryOp op a b) Q h2) h1) h):
  W prog w n (eval (.BinOp l op r pos) env) Q h:=.mk fun A g d tk os hb=>wpAny_BinOp (k.to hb fun U U U q=>q.to hb fun U U U q=>q.to hb fun U U U q=>aI q)
theorem zI{op:UnaryOp}{Q:VP}(k:W prog w n (eval e env) (fun a h1=>W prog w n (unaryOp op a) Q h1) h):W prog w n (eval (.UnaryOp op e pos) env) Q h:=.mk fun A g d tk os hb=>wpAny_UnaryOp (k.to hb fun U U U q=>q.to hb fun U U U q=>aI q)
theorem E4 {body orelse : Expr}{Q:VP}
  (x:W prog w n (isTrue test env (eval test env)) (fun b h'=>if b=true then W prog w n (eval body env) Q h' else W prog w n (eval orelse env) Q h') h):W prog w n (eval (.IfExp test body orelse pos) env) Q h:=
 .mk fun A g d tk os hb=>wpAny_IfExp (x.to hb fun b h' PS q=>by cases b<;>exact q.to hb fun U U U q=>aI q)
theorem zJ {l : Expr}{Q:VP}(k:W prog w n (eval l env) (fun a h1=>W prog w n (eval r env) (fun b h2=>W prog w n (compareOp op a b) Q h2) h1) h)
  (hm:autoParam (behindInMarks op r=false) tac0):W prog w n (eval (.Compare l [op] [r] pos) env) Q h:=.mk fun A g d tk os hb=>wpAny_Compare1 (k.to hb fun U U U q=>q.to hb fun U U U q=>q.to hb fun U U U q=>aI q) hm
theorem vk {l : Expr}{ij:Sem Value}{Q:Bool->Heap->Prop}
  (k:W prog w n (eval l env) (fun a h1=>W prog w n (eval r env) (fun b h2=>W prog w n (compareOp op a b) (fun c h3=>W prog w n (truthy c) Q h3) h2) h1) h)
  (hm:autoParam (behindInMarks op r=false) tac0):W prog w n (isTrue (.Compare l [op] [r] pos) env ij) Q h:=.mk fun A g d tk os hb=>wpAny_isTrue_Compare1 (k.to hb fun U U U q=>q.to hb fun U U U q=>q.to hb fun U U U q=>q.to hb fun U U U q=>aI q) hm
theorem E5{ij:Sem Value}{Q:Bool->Heap->Prop}(k:W prog w n (isTrue e env (eval e env)) (fun b h1=>Q (!b) h1) h):W prog w n (isTrue (.UnaryOp .Not e pos) env ij) Q h:=.mk fun A g d tk os hb=>wpAny_isTrue_Not (k.to hb fun U U U q=>aI q)
theorem zK{ij:Sem Value}{Q:Bool->Heap->Prop}(k:W prog w n ij (fun v h1=>W prog w n (truthy v) Q h1) h)
  (he:autoParam (isTrue e env ij=(do let v <- ij;standAt e.pos;holding [v] (truthy v))) tac0):W prog w n (isTrue e env ij) Q h:=.mk fun A g d tk os hb=>wpAny_isTrue_value (k.to hb fun U U U q=>q.to hb fun U U U q=>aI q) he
theorem wI {op:BoolOp}{values:List Expr}{ij:Sem Value}{Q:Bool->Heap->Prop}(k:W prog w n (allTrue op values env) Q h):W prog w n (isTrue (.BoolOp op values pos) env ij) Q h:=.mk fun A g d tk os hb=>wpAny_isTrue_BoolOp (k.to hb fun U U U q=>aI q)
theorem zL {Q:Bool->Heap->Prop}(q:Q true h):W prog w n (allTrue .And [] env) Q h:=.mk fun U U U U U U=>wpAny_allTrue_And_nil (aI q)
theorem B5 {Q:Bool->Heap->Prop}(q:Q false h):W prog w n (allTrue .Or [] env) Q h:=.mk fun U U U U U U=>wpAny_allTrue_Or_nil (aI q)
theorem wJ {x:Expr}{Q:Bool->Heap->Prop}(k:W prog w n (isTrue x env (eval x env)) (fun b h1=>if b=true then W prog w n (allTrue .And rest env) Q h1 else Q false h1) h):W prog w n (allTrue .And (x::rest) env) Q h:=
 .mk fun A g d tk os hb=>wpAny_allTrue_And_cons (k.to hb fun b U U q=>by
  cases b
  ·exact aI q
  ·exact q.to hb fun U U U q=>aI q)
theorem zM {x:Expr}{Q:Bool->Heap->Prop}(k:W prog w n (isTrue x env (eval x env)) (fun b h1=>if b=true then Q true h1 else W prog w n (allTrue .Or rest env) Q h1) h):W prog w n (allTrue .Or (x::rest) env) Q h:=
 .mk fun A g d tk os hb=>wpAny_allTrue_Or_cons (k.to hb fun b U U q=>by
  cases b
  ·exact q.to hb fun U U U q=>aI q
  ·exact aI q)
theorem LA {i:Int}{Q:VP}(q:∀ t,Q (.int i t) h):W prog w n (eval (.Constant (.int i) kd pos) env) Q h:=.mk fun U U U U U U=>wpAny_Constant_int (aI (q _))
theorem LB{Q:VP}(q:∀ t,Q (.str x t) h):W prog w n (eval (.Constant (.str x) kd pos) env) Q h:=.mk fun U U U U U U=>wpAny_Constant_str (aI (q _))
theorem GH{Q:VP}(q:Q .none h):W prog w n (eval (.Constant .none kd pos) env) Q h:=.mk fun U U U U U U=>wpAny_Constant_none (aI q)
theorem GI {b:Bool}{Q:VP}(q:Q (.bool b) h):W prog w n (eval (.Constant (.bool b) kd pos) env) Q h:=.mk fun U U U U U U=>wpAny_Constant_bool (aI q)
theorem sd {b:Bool}{Q:Bool->Heap->Prop}(q:Q b h):W prog w n (truthy (.bool b)) Q h:=.mk fun U U U U U U=>wpAny_truthy_bool (aI q)
theorem lk {a : Int}{Q:VP}(q:∀ k,Q (.int (a+b) k) h):W prog w n (binaryOp .Add (.int a t) (.int b u)) Q h:=.mk fun U U U U U U=>P.add_int (aI (q _))
theorem mZ {a : Int}{Q:VP}(q:∀ k,Q (.int (a - b) k) h):W prog w n (binaryOp .Sub (.int a t) (.int b u)) Q h:=.mk fun U U U U U U=>P.sub_int (aI (q _))
theorem jC {a : Int}{Q:VP}(hm:IntMulOk a b)(q:∀ k,Q (.int (a*b) k) h):W prog w n (binaryOp .Mult (.int a t) (.int b u)) Q h:=.mk fun U U U U U U=>P.mul_int (aI (q _)) hm
theorem oL {a : Int}{Q:VP}(hb:b≠0)(q:∀ k,Q (.int (a.fmod b) k) h):W prog w n (binaryOp .Mod (.int a t) (.int b u)) Q h:=.mk fun U U U U U U=>mod_int' hb (aI (q _))
theorem B6 {a : Int}{Q:VP}(hb:b≠0)(hp:Builtin.divisionGoesByPylong a b=false)(q:∀ k,Q (.int (a.fdiv b) k) h):W prog w n (binaryOp .FloorDiv (.int a t) (.int b u)) Q h:=.mk fun U U U U U U=>floordiv_int hb (aI (q _)) (.inl hp)
theorem LD {a:Int}{Q:VP}(q:∀ k,Q (.int (-a) k) h):W prog w n (unaryOp .USub (.int a t)) Q h:=.mk fun U U U U U U=>P.neg_int (aI (q _))
theorem kD {a : Int}{Q:VP}(q:Q (.bool (a==b)) h):W prog w n (compareOp .Eq (.int a t) (.int b u)) Q h:=.mk fun U U U U U U=>P.eq_int (aI q)
theorem lm {a : Int}{Q:VP}(q:Q (.bool (decide (a < b))) h):W prog w n (compareOp .Lt (.int a t) (.int b u)) Q h:=.mk fun U U U U U U=>P.lt_int (aI q)
theorem qD {a : Int}{Q:VP}(q:Q (.bool (decide (a > b))) h):W prog w n (compareOp .Gt (.int a t) (.int b u)) Q h:=.mk fun U U U U U U=>P.gt_int (aI q)
theorem FL {a : Int}{Q:VP}(q:Q (.bool (decide (a≥b))) h):W prog w n (compareOp .GtE (.int a t) (.int b u)) Q h:=.mk fun U U U U U U=>P.ge_int (aI q)
theorem B7 {a b:Str}{Q:VP}(q:Q (.bool (a==b)) h):W prog w n (compareOp .Eq (.str a t) (.str b u)) Q h:=.mk fun U U U U U U=>PyProof.Rows.eq_str (aI q)
theorem lp{Q:VP}(q:Q (.bool (v==.none)) h):W prog w n (compareOp .Is v .none) Q h:=.mk fun U U U U U U=>is_none (aI q)
theorem lq{Q:VP}(q:Q (.bool (!(v==.none))) h):W prog w n (compareOp .IsNot v .none) Q h:=.mk fun U U U U U U=>isNot_none (aI q)
noncomputable def fO:Nat->List (Str×Option Value)->dy
 | _,[]=>[]
 | c,(_,v)::r=>(c,.cel v)::fO (c+1) r
noncomputable def bz:Nat->List (Str×Option Value)->List (Str×Addr)->List (Str×Addr)
 | _,[],acc=>acc
 | c,(x,_)::r,acc=>bz (c+1) r ((x,c)::acc)
theorem oM(cs:List (Str×Option Value))(c:Nat)(hp:p∈fO c cs):∃ i x v,cs[i]? =some (x,v)/\p=(c+i,.cel v):=by
 induction cs generalizing c with
 | nil=>exact (List.not_mem_nil hp).elim
 | cons q r ih=>
  rcases OY hp with e | hp
  ·exact yg 0 q.1 q.2 rfl e
  ·refine sW (ih (c+1) hp) fun i y u h1 h2=>?_;exact ⟨i+1,y,u,h1,by rw [h2,show c+1+i=c+(i+1) by lia]⟩
theorem ud (r:List (Str×Option Value)):∀ (c:Nat) (acc:List (Str×Addr)) (p:Str×Addr),p∈acc->p∈bz c r acc:=by
 induction r with
 | nil=>exact fun U U U hp=>hp
 | cons a r ih=>exact fun c acc p hp=>ih _ _ _ (.tail _ hp)
theorem kh{v:Option Value}:∀ {c:Nat} {acc:List (Str×Addr)} {i:Nat},cs[i]? =some (x,v)->(x,c+i)∈bz c cs acc:=by
 induction cs with
 | nil=>exact fun e=>nomatch e
 | cons p r ih=>
  intro c acc i e;cases i with
  | zero=>cases e;exact ud r _ _ _ (.head _)
  | succ i=>exact (show c+1+i=c+(i+1) by lia)▸ih (c:=c+1) (acc:=(p.1,c)::acc) e
theorem kE (cs:List (Str×Option Value))(c:Nat)(acc:List (Str×Addr)):(bz c cs acc).map (·.1)=(cs.map (·.1)).reverse++acc.map (·.1):=by
 induction cs generalizing c acc with
 | nil=>rfl
 | cons q r ih=>show (bz (c+1) r ((q.1,c)::acc)).map (·.1)=_;rw [ih,List.map_cons,List.map_cons,List.reverse_cons,List.append_assoc];rfl
theorem mx:∀ {cs:List (Str×Option Value)} {c:Nat} {p:Addr×an},p∈fO c cs->c<=p.1:=fun hp=>by refine sW (oM _ _ hp) fun i x v U PL=>?_;subst PL;exact Pq ..
theorem qF:∀ (cs:List (Str×Option Value)) (c:Nat),((fO c cs).map (·.1)).Nodup
 | [],_=>.nil
 | (x,v)::r,c=>by refine List.nodup_cons.mpr ⟨fun hm=>?_,qF r (c+1)⟩;refine bM (Pa hm) fun p hp e=>?_;have:=mx hp;rw [e] at this;exact Nat.not_succ_le_self _ this
theorem fw {l:List (Str×Addr)}{c:Addr}(hm:(x,c)∈l)(nd:(l.map (·.1)).Nodup):l.lookup x=some c:=by
 induction l with
 | nil=>exact (List.not_mem_nil hm).elim
 | cons q r ih=>
  obtain ⟨y,d⟩:=q;rcases OY hm with e | hm
  ·refine oA (Pc e) fun e1 e2=>?_;subst e1 e2;rw [List.lookup_cons,show (x==x)=true from beq_self_eq_true x]
  ·rw [List.lookup_cons];have:(x==y)=false:=beq_eq_false_iff_ne.mpr fun e=>(List.nodup_cons.mp nd).1 (Pb (bw (x,c) hm e));rw [this];exact ih hm (List.nodup_cons.mp nd).2
theorem FM{ms : List (Str×Option Value)}{Q:VP}(S:St w B O Z led h)
  (Qp:P9.body=.stmts body)
  (k:∀ L h₁,h.objs.size=L->St w B O Z ((L,.ns ms)::(fO (L+1) cs++led)) h₁->W prog w n (execs body (callEnvC P9 L f)) (fun fl h'=>Q (match fl with | .ret v=>v | _=>.none) h') h₁)
  (hf:autoParam ((KF w.params).lookup f=some (fo P9)) tac0)
  (TQ:autoParam (codeIn (KF w.params) P9.code P9.qualname=true) tac0)
  (TR:autoParam (P9.closure=[]) tac0)
  (Rk:autoParam (bindArgs P9 ⟨vals,[]⟩=pure ((P9.params.args.map (·.arg)).zip vals)) tac0)
  (QZ:autoParam (((P9.params.args.map (·.arg)).all fun x=>decide (P9.scope.names.lookup x=some .local) || (decide (P9.scope.names.lookup x=some .cell) && (cs.map (·.1)).contains x))=true) tac0)
  (W8:autoParam (∀ L,cellsFrom (L+1) P9.scope.names []=bz (L+1) cs []) tac7)
  (Wx:autoParam ((cs.map (·.1)).Nodup) tac2)
  (TS:autoParam (∀ L,ms.map (fun p=>bindL (callEnvC P9 L f).kindOf ((P9.params.args.map (·.arg)).zip vals) (fun U=>none) p.1)=ms.map (·.2)) tac7)
  (ZO:autoParam (∀ L,cs.map (fun p=>bindC (callEnvC P9 L f).kindOf ((P9.params.args.map (·.arg)).zip vals) (fun U=>none) p.1)=cs.map (·.2)) tac7)
  (RJ:autoParam ((ms.map (·.1)).Nodup) tac2)
  (Rq:autoParam (P9.scope.isCoroutine=false) tac0) (Wy:autoParam (P9.scope.isGenerator=false) tac0) (hk:autoParam (P9.scope.kind=.function) tac0):
  C prog w (n+1) (.call (.ref f) ⟨vals,[]⟩) (mY Q) h:=by
 have TU:∀ L,((bz (L+1) cs []).map (·.1)).Nodup:=fun L=>by rw [kE,List.map_nil,List.append_nil];exact List.pairwise_reverse.mpr (List.Pairwise.imp (fun h e=>h e.symm) Wx)
 refine .mk fun A g d tk os hb=>?_;refine codeAny_call_cells (fd:=P9) (body:=body) (binds:=(P9.params.args.map (·.arg)).zip vals) hb.room (S.k _ _ hf) rfl S.nolimit (codeRec_of S.k TQ) Qp Rk TR (fun x hx=>?_) (fun s₁ I=>?_) Rq Wy hk
 ·have RK:=(List.of_mem_zip hx).1;have q:=OZ QZ x.1 RK;simp only [Bool.or_eq_true,Bool.and_eq_true,decide_eq_true_eq] at q;rcases q with q | ⟨q,r⟩
  ·exact .inl q
  ·refine .inr ⟨q,?_⟩;refine bM (Pa (List.contains_iff_mem.mp r)) fun p hp e=>?_;refine oE (List.getElem?_of_mem hp) fun i hi=>?_;rw [W8,fw (kh (i:=i) (x:=x.1) (v:=p.2) (by rw [hi,<- e])) (TU _)]
   rfl
 ·refine iQ I.done fun h₁ tk₁ PZ kp=>?_;subst PZ;have I1:=I.toInCall
  have Pz:St w B O Z ((h.objs.size,.ns ms)::(fO (h.objs.size+1) cs++led)) h₁:=by
   have eL:(callEnvC P9 h.objs.size f).locals=h.objs.size:=rfl;have eC:(callEnvC P9 h.objs.size f).cells=bz (h.objs.size+1) cs []:=W8 _;have:=S.growN (h':=h₁) (new:=(h.objs.size,.ns ms)::fO (h.objs.size+1) cs) (fun b o e=>kp b o e) (fun p hp=>?_) ?_
   ·exact this
   ·rcases OY hp with rfl | hp
    ·refine ⟨(iG _ (eL▸I1.ns) (fun q hq=>?_) RJ),Pm _⟩;refine oE (List.getElem?_of_mem hq) fun i hi=>?_;have e:=Pl (·[i]?) (TS h.objs.size);simp only [List.getElem?_map,hi,Option.map_some,Option.some.injEq] at e;exact e
    ·refine ⟨?_,Nat.le_of_succ_le (mx hp)⟩;refine sW (oM _ _ hp) fun i x v hi PQ=>?_;subst PQ;have l:=fw (kh (c:=h.objs.size+1) (acc:=[]) hi) (TU _);have q:=I.cell x (h.objs.size+1+i) (by rw [eC];exact l);have e:=Pl (·[i]?) (ZO h.objs.size);simp only [List.getElem?_map,hi,Option.map_some,Option.some.injEq] at e;rw [e] at q;exact q
   ·refine List.nodup_cons.mpr ⟨fun hm=>?_,qF _ _⟩;refine bM (Pa hm) fun p hp e=>?_;have:=mx hp;rw [e] at this;exact Nat.not_succ_le_self _ this
  exact (k _ h₁ rfl Pz).to (hb.deeper _) fun fl h' PS q=>aI (by cases fl<;>exact q)
theorem B8{ms:List (Str×Option Value)}{Q:VP}(S:St w B O Z led h)
  (Qp:P9.body=.stmts body)
  (k:∀ L h₁,h.objs.size=L->St w B O Z ((L,.ns ms)::led) h₁->W prog w n (execs body (callEnvC P9 L f)) (fun fl h'=>Q (match fl with | .ret v=>v | _=>.none) h') h₁)
  (hf:autoParam ((KF w.params).lookup f=some (fo P9)) tac0)
  (TQ:autoParam (codeIn (KF w.params) P9.code P9.qualname=true) tac0)
  (TR:autoParam (P9.closure=[]) tac0)
  (Rk:autoParam (bindArgs P9 ⟨vals,[]⟩=pure ((P9.params.args.map (·.arg)).zip vals)) tac0)
  (QZ:autoParam (((P9.params.args.map (·.arg)).all fun x=>decide (P9.scope.names.lookup x=some .local) || (decide (P9.scope.names.lookup x=some .cell) && (([]:List (Str×Option Value)).map (·.1)).contains x))=true) tac0)
  (W8:autoParam (∀ L,cellsFrom (L+1) P9.scope.names []=bz (L+1) [] []) tac7)
  (TS:autoParam (∀ L,ms.map (fun p=>bindL (callEnvC P9 L f).kindOf ((P9.params.args.map (·.arg)).zip vals) (fun U=>none) p.1)=ms.map (·.2)) tac7)
  (RJ:autoParam ((ms.map (·.1)).Nodup) tac2)
  (Rq:autoParam ((P9.scope.isCoroutine || P9.scope.isGenerator || !decide (P9.scope.kind=.function))=false) tac0):
  C prog w (n+1) (.call (.ref f) ⟨vals,[]⟩) (mY Q) h:=by rw [Bool.or_eq_false_iff,Bool.or_eq_false_iff,Bool.not_eq_false'] at Rq;exact FM (cs:=[]) S Qp k hf TQ TR Rk QZ W8 .nil TS (fun U=>rfl) RJ Rq.1.1 Rq.1.2 (Pp Rq.2)
noncomputable def rY (env:Env)(x:Str)(k:NameKind):Bool:=decide (env.scope.kind=.function) && (decide (env.kindOf x=some k) && ((x==("__debug__" :Str))==false && (x==("__classdict__" :Str))==false))
theorem rY.of{k:NameKind}(h:rY env x k=true):env.scope.kind=.function/\env.kindOf x=some k/\(x==("__debug__" :Str))=false/\(x==("__classdict__" :Str))=false:=by unfold rY at h;rw [Bool.and_eq_true,Bool.and_eq_true,Bool.and_eq_true] at h;exact fu (Pp h.1) (Pp h.2.1) (Pu h.2.2.1) (Pu h.2.2.2)
def E6 (env:Env)(x:Str):Bool:=rY env x .globalImplicit && (decide (env.globals=mainGlobals) && decide (env.builtins=builtinsNs))
theorem E6.of(h:E6 env x=true):rY env x .globalImplicit=true/\env.globals=mainGlobals/\env.builtins=builtinsNs:=by unfold E6 at h;rw [Bool.and_eq_true,Bool.and_eq_true] at h;exact cF h.1 (Pp h.2.1) (Pp h.2.2)
theorem oN{Q:VP}(S:St w B O Z led h)(e:led[i]? =some (env.locals,.ns m))(hj:m[j]? =some (x,some v))(q:Q v h)
  (ok:autoParam (rY env x .local=true) tac0):W prog w n (eval (.Name x pos) env) Q h:=.mk fun A g d tk os hb=>by refine qA (rY.of ok) fun hk hl hd hd2=>?_;refine d6 (S.get i e) fun f hn hf U=>?_;exact wpAny_Name (wpAny_loadName_local hk hl hn (hf _ (Pn hj)) (aI q)) hd
theorem LE{c:Addr}{Q:VP}(S:St w B O Z led h)(e:led[i]? =some (c,.cel (some v)))(q:Q v h)(hc:autoParam (env.cells.lookup x=some c) tac0)
  (ok:autoParam (rY env x .cell=true) tac0):W prog w n (eval (.Name x pos) env) Q h:=.mk fun A g d tk os hb=>
 let ⟨hk,hl,hd,hd2⟩:=rY.of ok
 wpAny_Name (wpAny_loadName_cell hk hl hc (S.get i e) (aI q)) hd
theorem GJ{c:Addr}{Q:VP}(S:St w B O Z led h)(hc:env.cells.lookup x=some c)(e:led[i]? =some (c,.cel (some v)))(q:Q v h)
  (ok:autoParam (rY env x .free=true) tac0):W prog w n (eval (.Name x pos) env) Q h:=.mk fun A g d tk os hb=>
 let ⟨hk,hl,hd,hd2⟩:=rY.of ok
 wpAny_Name (wpAny_loadName_free hk hl hc (S.get i e) (aI q) hd2) hd
theorem yh{Q:Unit->Heap->Prop}(S:St w B O Z led h)(e:led[i]? =some (env.locals,.ns m))(hj:m[j]? =some (x,v0))
  (q:∀ h',St w B O Z (led.set i (env.locals,.ns (m.set j (x,some v)))) h'->Q () h')
  (ok:autoParam (rY env x .local=true) tac0):W prog w n (storeName env x v) Q h:=.mk fun A g d tk os hb=>by
 refine qA (rY.of ok) fun hk hl hd hd2=>?_;refine d6 (S.get i e) fun f hn hf RJ=>?_;refine wpAny_storeName_local hl hn (fun h' Wz hs=>aI (q h' (S.upd i e hs (iG _ Wz (fun p hp=>?_) ?_)))) (by rw [hk];rfl)
 ·rcases ec hj RJ hp with rfl | ⟨hp,QP⟩
  ·exact if_pos rfl
  ·exact (if_neg QP).trans (hf p hp)
 ·rw [lU hj];exact RJ
theorem B9{c:Addr}{Q:Unit->Heap->Prop}(S:St w B O Z led h)(e:led[i]? =some (c,.cel v0))
  (q:∀ h',St w B O Z (led.set i (c,.cel (some v))) h'->Q () h') (hc:autoParam (env.cells.lookup x=some c) tac0)
  (ok:autoParam (rY env x .cell=true) tac0):W prog w n (storeName env x v) Q h:=.mk fun A g d tk os hb=>
 let ⟨hk,hl,hd,hd2⟩:=rY.of ok
 wpAny_storeName_cell hk hl hc (S.get i e) fun h' WA hs=>aI (q h' (S.upd i e hs WA))
theorem GK{Q:VP}(S:St w B O Z led h)(e:nsIn (KF w.params) mainGlobals x=some (some v))(q:Q v h)
  (WB:autoParam (E6 env x=true) tac0):W prog w n (eval (.Name x pos) env) Q h:=.mk fun A g d tk os hb=>by refine ub (E6.of WB) fun ok hg YB=>?_;refine qA (rY.of ok) fun hk hl hd hd2=>?_;refine Name_function_global hk hl ?_ hd;unfold loadGlobal;refine Pe ?_;rw [hg];exact (looks_nsIn S.k e).at (Pj (aI q))
theorem LF{Q:VP}(S:St w B O Z led h)(hb:bootBuiltins x=some v)(q:Q v h)(e:autoParam (nsIn (KF w.params) mainGlobals x=some none) tac0)(hx:autoParam (x≠"__name__") tac3)
  (WB:autoParam (E6 env x=true) tac0):W prog w n (eval (.Name x pos) env) Q h:=.mk fun A g d tk os hA=>by refine ub (E6.of WB) fun ok hg YB=>?_;refine qA (rY.of ok) fun hk hl hd hd2=>?_;refine bM S.base.bi fun mb h1 h2=>?_;refine Name_function_global hk hl ?_ hd;unfold loadGlobal;refine Pe ?_;rw [hg,YB];refine (looks_nsIn S.k e).at ?_;refine Pe (wpAny_nsGet (h1.keeps S.keepB) ?_);rw [h2 x hx,hb];exact Pj (aI q)
theorem ci.l {w:World}{h:Heap}(x:ci w h a (.pls xs)):ci w h a (.lst xs):=oE (x) fun n e=>(vg _ e rfl n rfl)
noncomputable def cN:Expr->Bool
 | .Starred .. =>false
 | _=>true
theorem n5 (e:Expr)(rest:List Expr)(env:Env)(hn:cN e=true):starEach (e::rest) env=(false,eval e env)::starEach rest env:=by cases e<;>first | rfl | exact nB hn
theorem qG:∀ (rest:List Expr) (env:Env),rest.all cN=true->(backTo pos (starEach rest env)).any (·.1)=false
 | [],_,_=>rfl
 | e::r,env,h=>by rw [List.all_cons,Bool.and_eq_true] at h;rw [n5 e r env h.1];show (false || (backTo pos (starEach r env)).any (·.1))=false;rw [qG r env h.2];rfl
theorem oO{Q:LV->Heap->Prop}(q:Q [] h):W prog w n (spliced (backTo pos (starEach [] env))) Q h:=.mk fun U U U U U U=>wpAny_items_nil (aI q)
theorem n6{Q:LV->Heap->Prop}(k:W prog w n (eval e env) (fun v h1=>W prog w n (spliced (backTo pos (starEach rest env))) (fun vs h2=>Q (v::vs) h2) h1) h)
  (T8:autoParam (cN e=true) tac4):W prog w n (spliced (backTo pos (starEach (e::rest) env))) Q h:=.mk fun A g d tk os hb=>wpAny_items_cons (k.to hb fun v h' U q=>q.to hb fun U U U q=>aI q) (n5 _ _ _ T8)
noncomputable def NQ (Q:VP)(vs:LV)(h:Heap):Prop:=vs.length<=sizeLine/\Q (.ref h.objs.size) (h.push {cls:=.type "tuple",data:=.seq vs.toArray})
noncomputable def Na (Q:VP)(vs:LV)(h:Heap):Prop:=vs.length<=sizeLine/\Q (.ref h.objs.size) (h.push {cls:=.type "list",data:=.seq vs.toArray})
theorem E7{k:Nat}{Q:VP}(x:W prog w n (spliced (backTo pos (starEach elts env))) (NQ Q) h):W prog w n (eval (.Tuple elts k pos) env) Q h:=.mk fun A g d tk os hb=>wpAny_Tuple (x.to hb fun U U U q=>⟨q.1,aI q.2⟩)
theorem GL{Q:VP}(x:W prog w n (spliced (backTo pos (starEach elts env))) (Na Q) h):W prog w n (eval (.List elts pos) env) Q h:=.mk fun A g d tk os hb=>wpAny_List (x.to hb fun U U U q=>⟨q.1,aI q.2⟩)
theorem GM {h:Heap}:ci w (h.push {cls:=.type "tuple",data:=.seq vs.toArray}) h.objs.size (.tup vs):=⟨0,Heap.get?_push_size _ rfl⟩
theorem wK {h:Heap}:ci w (h.push {cls:=.type "list",data:=.seq vs.toArray}) h.objs.size (.pls vs):=⟨0,Heap.get?_push_size _ rfl⟩
theorem GN{Q:VP}(S:St w B O Z (fr::led) h)(k:∀ a h',St w B O Z (fr::(a,.tup vs)::led) h'->Q (.ref a) h')(hl:autoParam (vs.length<=100) tac5):NQ Q vs h:=⟨Pg hl (by rw [sizeLine_eq];exact cZ),k _ _ (S.push1 _ _ GM)⟩
theorem Ba{Q:VP}(S:St w B O Z (fr::led) h)(k:∀ a h',St w B O Z (fr::(a,.pls vs)::led) h'->Q (.ref a) h')(hl:autoParam (vs.length<=100) tac5):Na Q vs h:=⟨Pg hl (by rw [sizeLine_eq];exact cZ),k _ _ (S.push1 _ _ wK)⟩
noncomputable def dz:Expr->Bool
 | .Slice .. =>false
 | .Constant .. | .Name .. | .Call .. | .Attribute .. | .Subscript .. | .BinOp .. | .UnaryOp .. =>true
 | _=>false
theorem ue (slice:Expr)(o i:Value)(hn:dz slice=true):subscripted slice false o i=operate [o,i] (getItem o i):=by cases slice<;>first | rfl | exact nB hn
theorem vm{Q:VP}(k:W prog w n (eval value env) (fun o h1=>W prog w n (eval slice env) (fun i h2=>W prog w n (subscriptTail value slice o i) Q h2) h1) h):W prog w n (eval (.Subscript value slice pos) env) Q h:=.mk fun A g d tk os hb=>Subscript_ (k.to hb fun U U U q=>q.to hb fun U U U q=>q.to hb fun U U U q=>aI q)
theorem yi{l:Addr}{k:Int}{x:Value}{Q:VP}(hl:ci w h l (.lst xs))(h0:0<=k)(h1:k < 2 ^ 63)(hx:xs[k.toNat]? =some x)(q:Q x h)
  (Qe:autoParam (dz slice=true) tac4):W prog w n (subscriptTail value slice (.ref l) (.int k u)) Q h:=
 .mk fun A g d tk os hb=>by have TX:h.IsList l ⟨xs⟩:=hl;refine d6 (id TX) fun o ho hc r=>?_;exact tail_any (T:="list") (id:="list.__getitem__") (bw o ho hc) F.slot_list_getitem.lookup (wpAny_getItem_list TX h0 h1 (by simpa using hx) (aI q)) (ue _ _ _ Qe)
theorem E8{l:Addr}{k:Int}{x:Value}{Q:VP}(hl:ci w h l (.lst xs))(h0:k < 0)(h1: -(xs.length:Int)<=k)(h2: - 2 ^ 63<=k)(hx:xs[(k+xs.length).toNat]? =some x)(q:Q x h)
  (Qe:autoParam (dz slice=true) tac4):W prog w n (subscriptTail value slice (.ref l) (.int k u)) Q h:=
 .mk fun A g d tk os hb=>by have TX:h.IsList l ⟨xs⟩:=hl;refine d6 (id TX) fun o ho hc r=>?_;exact tail_any (T:="list") (id:="list.__getitem__") (bw o ho hc) F.slot_list_getitem.lookup (wpAny_getItem_list_neg TX h0 (by simpa using h1) h2 (by simpa using hx) (aI q)) (ue _ _ _ Qe)
theorem E9{t:Addr}{k:Int}{x:Value}{Q:VP}(ht:ci w h t (.tup xs))(h0: - 2 ^ 63<=k)(h1:k < 2 ^ 63)(hj:seqIndex? k xs.length=some j)(hx:xs[j]? =some x)(q:Q x h)
  (Qe:autoParam (dz slice=true) tac4):W prog w n (subscriptTail value slice (.ref t) (.int k u)) Q h:=
 .mk fun A g d tk os hb=>by refine oE ht fun m e=>?_;exact item_tupleT (l:=xs) (vg _ e rfl m rfl) h0 h1 hj hx (aI q) (ue _ _ _ Qe)
noncomputable abbrev PW:Program:=PySem.Challenge.pw_np0242_01
theorem ki(x:ci w h a (.dct P7)):h.MapOf (strKind PW w) a (valueAt P7):=Heap.DictOf.mapOf x.2
theorem yj{Q:VP}(hd:ci w h d (.dct P7))(hx:valueAt P7 x=some v)(q:Q v h)
  (Qe:autoParam (dz slice=true) tac4):W PW w n (subscriptTail value slice (.ref d) (.str x u)) Q h:=
 .mk fun A g d' tk os hb=>tail_any (T:="dict") (id:="dict.__getitem__") (ki hd).typeIs F.slot_dict_getitem.lookup (wpAny_getItem_of (strKind_is PW w x u) (ki hd) hx (aI q)) (ue _ _ _ Qe)
theorem FN{Q:VP}(hd:ci w h d (.dct P7))(q:Q (.bool (valueAt P7 x).isSome) h):W PW w n (compareOp .In (.str x u) (.ref d)) Q h:=.mk fun A g d' tk os hb=>wpAny_in_of (strKind_is PW w x u) hd.1 (ki hd) (aI q)
theorem ls{Q:VP}(hd:ci w h d (.dct P7))(q:Q (.bool (!(valueAt P7 x).isSome)) h):W PW w n (compareOp .NotIn (.str x u) (.ref d)) Q h:=.mk fun A g d' tk os hb=>wpAny_notIn_of (strKind_is PW w x u) hd.1 (ki hd) (aI q)
theorem GO{Q:Unit->Heap->Prop}(S:St w B O Z led h)(e:led[i]? =some (d,.dct P7))(q:∀ h',St w B O Z (led.set i (d,.dct (stored P7 x v))) h'->Q () h')
  (hz:P7.length<=1000):W PW w n (setItem (.ref d) (.str x u) v) Q h:=.mk fun A g d' tk os hb=>by have D:=S.get i e;refine wpAny_setItem_pairs (strKind_is PW w x u) D.2 (fun h' hd hs=>?_) (Pg hz (by rw [sizeLine_eq];exact cZ));exact aI (q h' (S.upd i e hs ⟨D.1,hd⟩))
theorem GP{l:Addr}{k:Int}{Q:Unit->Heap->Prop}(S:St w B O Z led h)(e:led[i]? =some (l,.lst xs))(h0:0<=k)(h1:k < 2 ^ 63)(h2:k < xs.length)
  (q:∀ h',St w B O Z (led.set i (l,.lst (xs.set k.toNat v))) h'->Q () h'):W PW w n (setItem (.ref l) (.int k u) v) Q h:=.mk fun A g d' tk os hb=>by
 refine wpAny_setItem_list (items:=⟨xs⟩) (S.get i e) h0 h1 (by simpa using h2) fun h' hl hs=>?_;refine aI (q h' (S.upd i e hs ?_));have:(⟨xs⟩:Array Value).setIfInBounds k.toNat v=⟨xs.set k.toNat v⟩:=by simp
 rw [this] at hl;exact hl
theorem vp {i : Expr}{Q:Flow->Heap->Prop}
  (k:W PW w n (eval value env) (fun v h1=>W PW w n (eval o env) (fun ov h2=>W PW w n (eval i env) (fun iv h3=>W PW w n (setItem ov iv v) (fun U h4=>Q .next h4) h3) h2) h1) h)
  (hs:autoParam (swapsWith value (some (.Subscript o i pos')) pos.line env=pure false) tac0):W PW w n (exec (.Assign [.Subscript o i pos'] value pos) env) Q h:=.mk fun A g d tk os hb=>wpAny_Assign_Subscript (k.to hb fun U U U q=>q.to hb fun U U U q=>q.to hb fun U U U q=>q.to hb fun U U U q=>aI q) hs
theorem GQ {id:Str}{p : Pos}{args:List Expr}{Q:VP}(k:W PW w n (eval (.Name id p) env) (fun f h1=>W PW w n (callWith pos f [] (backTo pos (starEach args env)) []) Q h1) h):W PW w n (eval (.Call (.Name id p) args [] pos) env) Q h:=.mk fun A g d tk os hb=>wpAny_Call_Name_kw (k.to hb fun U U U q=>q.to hb fun U U U q=>aI q)
theorem LG{Q:VP}(k:W PW w n (spliced (backTo pos (starEach (e::rest) env))) (fun vs h1=>W PW w n (call (.builtin id) (first++vs)) Q h1) h)
  (T8:autoParam (cN e=true) tac4) (Sf:autoParam (rest.all cN=true) tac4):W PW w n (callWith pos (.builtin id) first (backTo pos (starEach (e::rest) env)) []) Q h:=
 .mk fun A g d tk os hb=>by have k':=k.to (P:=fun vs s₁=>wpAny (model PW w) A (call (.builtin id) (first++vs)) (fun v s'=>(s'.gens=g/\s'.drawn=d/\s'.os=os)/\Q v s'.heap) (fun U U=>False) s₁) (E:=fun U U=>False) (tk:=tk) hb fun U U U q=>q.to hb fun U U U q=>aI q;rw [n5 _ _ _ T8] at k' ⊢;exact Calls.callWith_builtin (by show (false || (backTo pos (starEach rest env)).any (·.1))=false;rw [qG _ _ Sf];rfl) (Calls.evalArgs_plain k')
theorem GR{Q:VP}(k:W PW w n (call (.builtin id) (first++[])) Q h):W PW w n (callWith pos (.builtin id) first (backTo pos (starEach [] env)) []) Q h:=.mk fun A g d tk os hb=>Calls.callWith_builtin rfl (evalArgs_nil3 (k.to hb fun U U U q=>aI q))
theorem LH {T:String}{Q:VP}(k:W PW w n (spliced (backTo pos (starEach (e::rest) env))) (fun vs h1=>W PW w n (call (.type T) vs) Q h1) h)
  (T8:autoParam (cN e=true) tac4) (Sf:autoParam (rest.all cN=true) tac4):W PW w n (callWith pos (.type T) [] (backTo pos (starEach (e::rest) env)) []) Q h:=.mk fun A g d tk os hb=>PyProof.Rows.callWith_type1 (k.to hb fun U U U q=>q.to hb fun U U U q=>aI q) (n5 _ _ _ T8) (qG _ _ Sf)
theorem FO {f:Value}{Q:VP}(S:St w B O Z led h)(k:W PW w n (spliced (backTo pos (starEach (e::rest) env))) (fun vs h1=>(KF w.params).In h1/\W PW w n (call f (first++vs)) Q h1) h)
  (hk:autoParam (keepIn (KF w.params) f=true) tac0) (T8:autoParam (cN e=true) tac4) (Sf:autoParam (rest.all cN=true) tac4):
  W PW w n (callWith pos f first (backTo pos (starEach (e::rest) env)) []) Q h:=.mk fun A g d tk os hb=>callWith_K S.k hk (k.to hb fun U U U q=>⟨q.1,q.2.to hb fun U U U q=>aI q⟩) (n5 _ _ _ T8) (qG _ _ Sf)
theorem GS {f:Value}{Q:VP}(S:St w B O Z led h)(k:W PW w n (call f (first++[])) Q h)
  (hk:autoParam (keepIn (KF w.params) f=true) tac0):W PW w n (callWith pos f first (backTo pos (starEach [] env)) []) Q h:=.mk fun A g d tk os hb=>callWith_K0 S.k hk (k.to hb fun U U U q=>aI q)
theorem kF {a:Int}{Q:VP}(q:∀ t,Q (.int a t) h):W PW w n (call (.type "int") [.int a t]) Q h:=.mk fun U U U U U U=>call_int_int (aI (q _))
theorem Bb {b:Bool}{Q:VP}(q:∀ t,Q (.int (if b then 1 else 0) t) h):W PW w n (call (.type "int") [.bool b]) Q h:=.mk fun U U U U U U=>call_int_bool (aI (q _))
theorem wL {a:Int}{Q:VP}(ha:a.natAbs < 2 ^ 64)(q:∀ t,Q (.str (toString a) t) h):W PW w n (call (.type "str") [.int a t]) Q h:=.mk fun U U U U U U=>
 PySem.P.str_of_int (by
  by_cases h0:a.natAbs=0
  ·rw [h0];decide
  ·exact Nat.lt_trans ((Nat.log2_lt h0).mpr ha) OV) (aI (q _))
theorem wM {l:Addr}{Q:VP}(hl:ci w h l (.lst xs))(hz:xs.length < 2 ^ 63)(q:∀ t,Q (.int xs.length t) h):W PW w n (call (.builtin "len") [.ref l]) Q h:=.mk fun U U U U U U=>call_len_list (items:=⟨xs⟩) hl (by simp;lia) (aI (by simpa using q _))
theorem o7{Q:VP}(hz:x.length+y.length<=1000)(q:∀ t,Q (.str (x++y) t) h):W PW w n (binaryOp .Add (.str x t) (.str y u)) Q h:=.mk fun U U U U U U=>PyProof.Rows.add_str (fun U U=>aI (q _)) (Pg hz (by rw [sizeLine_eq];exact cZ))
theorem wN{l b:Addr}{Q:VP}(S:St w B O Z (fr::led) h)(hl:ci w h l (.lst xs))(hb:ci w h b (.lst ys))(hz:xs.length+ys.length<=1000)(q:∀ a h',St w B O Z (fr::(a,.pls (xs++ys))::led) h'->Q (.ref a) h'):
  W PW w n (binaryOp .Add (.ref l) (.ref b)) Q h:=.mk fun A g d tk os hA=>by
 refine B2 (id hl) fun Qs ho hc n1 hd=>?_;obtain ⟨cls,dd,data,sl⟩:=Qs;refine B2 (id hb) fun QI YC Rc n2 hd2=>?_;obtain ⟨ZP,ZQ,data2,ZR⟩:=QI;simp only at hc hd Rc hd2;subst hc hd Rc hd2;have e:(⟨xs⟩++⟨ys⟩:Array Value)=⟨xs++ys⟩:=by simp
 refine concat_meets (bw _ ho rfl) (bw _ YC rfl) noFill_list_add seq_list_add PySem.F.slot_list_add PySem.F.entry_list_add (PySem.F.args_list_add_2 _ _) (PyProof.Rows.list_addW l b ⟨xs⟩ ⟨ys⟩ n1 n2 dd ZQ sl ZR (Pg hz (by rw [sizeLine_eq];exact cZ))) (cF ho YC ?_);rw [e];exact aI (q _ _ (S.push1 _ _ wK))
theorem GT{Q:VP}(S:St w B O Z (fr::led) h)(hd:ci w h d (.dct P7))(hz:P7.length<=1000)(q:∀ a h',St w B O Z (fr::(a,.dct P7)::led) h'->Q (.ref a) h'):W PW w n (call (.type "dict") [.ref d]) Q h:=.mk fun A g d' tk os hA=>by refine kt_call_dict (knd:=strKind PW w) hd.1 hd.2 (Pg hz (by rw [sizeLine_eq];exact cZ)) fun h' hn hs=>aI (q _ _ ?_);refine St.swap (S.grow1 (fun b o e=>?_) (a:=h.objs.size) ⟨S.nosys ll,hn⟩ ll);exact (hs.2 b (Nat.ne_of_lt (Heap.lt_size e))).trans (Heap.get?_push_of_some _ e)
theorem jb {l b:Addr}{Q:VP}(hl:ci w h l (.lst xs))(hb:ci w h b (.lst []))(q:Q (.bool (!xs.isEmpty)) h):W PW w n (compareOp .NotEq (.ref l) (.ref b)) Q h:=.mk fun A g d tk os hA=>by
 have hl:h.IsList l ⟨xs⟩:=hl;have hb:h.IsList b ⟨[]⟩:=hb;cases xs with
 | nil=>exact RcNeAt.lists (items:=⟨[]⟩) (items2:=⟨[]⟩) (e:=fun U=>true) (s:=⟨h,g,d,tk,os⟩) hl hb rfl hA.units (fun j h1=>absurd h1 (Nat.not_lt_zero _)) PW w _ _ (aI q)
 | cons x r=>exact RcNeAt.lists_lengths (items:=⟨x::r⟩) (items2:=⟨[]⟩) (s:=⟨h,g,d,tk,os⟩) hl hb (by simp) hA.units PW w _ _ (aI q)
theorem Ea {l b:Addr}{Q:VP}(hl:ci w h l (.lst xs))(hb:ci w h b (.lst []))(q:Q (.bool xs.isEmpty) h):W PW w n (compareOp .Eq (.ref l) (.ref b)) Q h:=.mk fun A g d tk os hA=>by
 cases xs with
 | nil=>exact eq_listAt (items:=⟨[]⟩) (items2:=⟨[]⟩) (e:=fun U=>true) hl hb rfl hA.units (fun j h1=>absurd h1 (Nat.not_lt_zero _)) (aI q)
 | cons x r=>exact eq_list_lengthsAt (items:=⟨x::r⟩) (items2:=⟨[]⟩) hl hb (by simp) hA.units (aI q)
noncomputable def sY (x:Str):Value->Bool
 | .str y _=>y==x
 | _=>false
theorem vq {A:Around}{s:Shared}{y:Value}(hy:∃ z t,y=.str z t):EqAt A s y (.str x u) (sY x y):=by refine kC hy fun z t PL=>?_;clear hy;subst PL;exact EqAt.str_str z t x u
theorem Bc {l:Addr}{Q:VP}(hl:ci w h l (.lst xs))(hs:∀ y∈xs,∃ z t,y=.str z t)(q:Q (.bool (!xs.any (sY x))) h):W PW w n (compareOp .NotIn (.str x u) (.ref l)) Q h:=.mk fun A g d tk os hA=>notIn_listAt (items:=⟨xs⟩) (sY x) hl (fun y hy=>vq (hs y (by simpa using hy))) (aI (by simpa using q))
theorem LI {l:Addr}{Q:VP}(hl:ci w h l (.lst xs))(hs:∀ y∈xs,∃ z t,y=.str z t)(q:Q (.bool (xs.any (sY x))) h):W PW w n (compareOp .In (.str x u) (.ref l)) Q h:=.mk fun A g d tk os hA=>in_listAt (items:=⟨xs⟩) (sY x) hl (fun y hy=>vq (hs y (by simpa using hy))) (aI (by simpa using q))
theorem kG {Q:VP}(q:Q .none h):W PW w n (evalPart none env) Q h:=.mk fun U U U U U U=>Pj (aI q)
theorem kH{Q:VP}(q:W PW w n (eval e env) Q h):W PW w n (evalPart (some e) env) Q h:=q
theorem yk{lower upper:Option Expr}{p : Pos}{Q:VP}(S0:St w B O Z led h)
  (k:W PW w n (eval value env) (fun o h1=>W PW w n (evalPart lower env) (fun vl h2=>W PW w n (evalPart upper env) (fun vu h3=>∃ l xs lo hi,o=.ref l/\ci w h3 l (.lst xs)/\xs.length<=1000/\IsPart vl lo/\IsPart vu hi/\∃ Z fr led,St w B O Z (fr::led) h3/\∀ a h',St w B O Z (fr::(a,.pls (slicePick ⟨xs⟩ lo hi none).toList)::led) h'->Q (.ref a) h') h2) h1) h)
  (ht:autoParam (∀ o r,letTemporaryGo value o r=pure ()) tac6):
  W PW w n (eval (.Subscript value (.Slice lower upper none p) pos) env) Q h:=.mk fun A g d tk os hA=>by refine wpAny_Subscript_list_slice (k.to hA fun U U U q=>q.to hA fun vl U U q=>q.to hA fun vu h3 U q=>?_) ht;refine iS q fun l xs lo hi e hl hz p1 p2 Z fr led S q=>?_;refine qB l ⟨xs⟩ lo (mW hi e hl (Pg hz (by rw [sizeLine_eq];exact cZ)) (cF p1 p2 (aI (q _ _ ?_))));have S1:=S.grow (h':=h3.push {cls:=.type "slice",data:=.fields #[vl,vu,.none]}) (fun b o e=>Heap.get?_push_of_some _ e);have:=S1.push1 {cls:=.type "list",data:=.seq (slicePick ⟨xs⟩ lo hi none)} (.pls (slicePick ⟨xs⟩ lo hi none).toList) ⟨0,Heap.get?_push_size _ rfl⟩;rw [Heap.size_push] at this;exact this
theorem FP {a : Int}{Q:VP}(S:St w B O Z led h)(q:∀ h' t,St w B O Z led h'->Q (.int (if b > a then b else a) t) h'):W PW w n (call (.builtin "max") [.int a t,.int b u]) Q h:=
 .mk fun A g d tk os hA=>max_two_ints hA.2.2 fun h' PS hk=>aI (by
  have:=q h' (if b > a then u else t) (S.grow hk)
  by_cases T9:b > a
  ·rw [if_pos T9] at this ⊢;rw [if_pos T9] at this;exact this
  ·rw [if_neg T9] at this ⊢;rw [if_neg T9] at this;exact this)
theorem LJ {a : Int}{Q:VP}(S:St w B O Z led h)(q:∀ h' t,St w B O Z led h'->Q (.int (if b < a then b else a) t) h'):W PW w n (call (.builtin "min") [.int a t,.int b u]) Q h:=
 .mk fun A g d tk os hA=>min_two_ints hA.2.2 fun h' PS hk=>aI (by
  have:=q h' (if b < a then u else t) (S.grow hk)
  by_cases T9:b < a
  ·rw [if_pos T9] at this ⊢;rw [if_pos T9] at this;exact this
  ·rw [if_neg T9] at this ⊢;rw [if_neg T9] at this;exact this)
theorem iT.ind {M:List DictEntry->KV->Prop}{fs:KV}(h:iT es fs)(n:M [] [])(c:∀ {e es y u fs},(∃ t,e.key=.str y t)->e.val=u->M es fs->M (e::es) ((y,u)::fs)):M es fs:=by
 induction es generalizing fs with
 | nil=>cases fs with
  | nil=>exact n
  | cons=>exact h.elim
 | cons e es ih=>cases fs with
  | nil=>exact h.elim
  | cons p fs=>exact c h.1 h.2.1 (ih h.2.2)
theorem iT.find {es:List DictEntry}{fs:KV}{x:Str}{v:Value}(h:iT es fs)(hl:fs.lookup x=some v):∃ e,es.find? (·.key.isStr x)=some e/\e.val=v:=
 h.ind (M:=fun es fs=>fs.lookup x=some v->∃ e,es.find? (·.key.isStr x)=some e/\e.val=v) (fun e=>nS e) (fun {e es y u fs} QI hv ih hl=>by
  refine oE QI fun t hk=>?_;clear QI;have Ta:e.key.isStr x=(y==x):=by rw [hk];rfl
  rw [List.lookup_cons] at hl
  by_cases c:x=y
  ·subst c;rw [show (x==x)=true from beq_self_eq_true x] at hl Ta;exact bw e (by rw [List.find?_cons,Ta]) (hv.trans (Pd hl))
  ·rw [show (x==y)=false from beq_eq_false_iff_ne.mpr c] at hl;rw [show (y==x)=false from beq_eq_false_iff_ne.mpr (Ne.symm c)] at Ta;refine bM (ih hl) fun e' h1 h2=>?_;exact bw e' (by rw [List.find?_cons,Ta];exact h1) h2) hl
theorem iT.none {es:List DictEntry}{fs:KV}{x:Str}(h:iT es fs)(hl:fs.lookup x=none):es.any (·.key.isStr x)=false/\es.any (·.refKey)=false:=
 h.ind (M:=fun es fs=>fs.lookup x=.none->es.any (·.key.isStr x)=false/\es.any (·.refKey)=false) (fun U=>⟨rfl,rfl⟩) (fun {e es y u fs} W9 hv ih hl=>by
  refine oE W9 fun t hk=>?_;clear W9;have Ta:e.key.isStr x=(y==x):=by rw [hk];rfl
  have PG:e.refKey=false:=by unfold DictEntry.refKey;rw [hk]
  rw [List.lookup_cons] at hl
  by_cases c:x=y
  ·subst c;rw [show (x==x)=true from beq_self_eq_true x] at hl;exact nO hl
  ·rw [show (x==y)=false from beq_eq_false_iff_ne.mpr c] at hl;rw [show (y==x)=false from beq_eq_false_iff_ne.mpr (Ne.symm c)] at Ta;refine oA (ih hl) fun h1 h2=>?_;exact ⟨by rw [List.any_cons,Ta,h1];rfl,by rw [List.any_cons,PG,h2];rfl⟩) hl
theorem iT.add{fs:KV}{e:DictEntry}(h:iT es fs)(hk:e.key=.str x t)(hv:e.val=v):iT (es++[e]) (fs++[(x,v)]):=h.ind (M:=fun es fs=>iT (es++[e]) (fs++[(x,v)])) (cF ⟨t,hk⟩ hv OU) fun a b ih=>cF a b ih
theorem iT.length {es:List DictEntry}{fs:KV}(h:iT es fs):es.length=fs.length:=h.ind (M:=fun es fs=>es.length=fs.length) rfl fun U U ih=>Pl (· +1) ih
theorem qH {x C : Addr}{fs:KV}(hx:ci w h x (.ins C dx))(hd:ci w h dx (.att fs)):∃ es m,iT es fs/\PySem.W.InstAt h x (instObj C dx) C (some ⟨.type "dict",none,.dict ⟨es⟩ m,⟨[]⟩⟩):=by refine iQ hd fun es m e r=>?_;clear hd;exact me es m r ⟨hx,rfl,rfl,e⟩
theorem zN {x C : Addr}{fs:KV}{b:Bool}{Q:VP}(S:St w B O Z led h)(hx:ci w h x (.ins C dx))(hd:ci w h dx (.att fs))(hv:fs.lookup name=some v)(q:Q v h)
  (WC:autoParam (findIn (KF w.params) (.ref C) (Str.ofString "__getattribute__")=some (some (.builtin "object.__getattribute__"))) tac0) (hh:autoParam (hasDictIn (KF w.params) C=true) tac0)
  (hf:autoParam (findIn (KF w.params) (.ref C) name=some none) tac0) (hi:autoParam (handedIn v=true) tac0):W PW w n (getAttr (.ref x) name b) Q h:=.mk fun A g d tk os hA=>by refine iQ (qH hx hd) fun es m r I=>?_;refine bM (r.find hv) fun e h1 h2=>?_;refine get_value S.k I WC (findObj_own hh hf rfl ?_) hi (aI q);unfold lookIn;dsimp only;rw [h1];dsimp only;rw [h2]
theorem vr{Q:VP}(k:W PW w n (eval o env) (fun v h1=>W PW w n (getAttr v name true) Q h1) h)(he:autoParam (eval (.Attribute o name pos) env=(do
   let v <- eval o env
   standAt pos.atName
   let r <- holding [v] (getAttr v name true)
   letTemporaryGo o v r
   pure r)) tac0):W PW w n (eval (.Attribute o name pos) env) Q h:=.mk fun A g d tk os hA=>Attribute_any_ (k.to hA fun U U U q=>q.to hA fun U U U q=>aI q) he
theorem o8{x C : Addr}{fs:KV}{Q:Unit->Heap->Prop}(S:St w B O Z led h)(hx:ci w h x (.ins C dx))(e:led[j]? =some (dx,.att fs))(hv:fs.lookup name=none)(hz:fs.length<=100)
  (q:∀ h',St w B O Z (led.set j (dx,.att (fs++[(name,v)]))) h'->Q () h')
  (hs:autoParam (findIn (KF w.params) (.ref C) (Str.ofString "__setattr__")=some (some (.builtin "object.__setattr__"))) tac0) (hp:autoParam (plainOver (KF w.params) C=true) tac0) (ht:autoParam (takerIn (KF w.params) C name=some none) tac0)
  (hh:autoParam ((clsIn (KF w.params) C).any (·.hasDict)=true) tac0):W PW w n (setAttr (.ref x) name v) Q h:=.mk fun A g d tk os hA=>by
 have hd:=S.get j e;refine iQ (qH hx hd) fun es m r I=>?_;refine oA (r.none hv) fun n1 n2=>?_;refine set_plain S.k I hs (osa_open S.k I hp ht fun b=>?_);refine bM (any_some hh) fun cd hc Q8=>?_;have D:=I.dict;dsimp only at D;refine Pe (Pj (Pe (Pe (wpAny_loadPart hx (Pe ((looks_clsIn S.k hc).here ?_))))));rw [Q8];refine Pj (a:=some dx) (Pe (Pj (Pe ?_)));unfold nsSet;refine Pe (Pe (wpAny_askSetting (Pj (Pe (wpAny_mkText (Pe (wpAny_loadPart D ?_)))))));dsimp only
 have c:(!(⟨es⟩:Array DictEntry).any (·.key.isStr name) && (⟨es⟩:Array DictEntry).any (·.refKey))=false:=by rw [<- Array.any_toList,<- Array.any_toList,n1,n2];rfl
 rw [aRefKeyMayBeTheName_at,c];refine wpAny_updatePart D ?_
 have RV:Obj.putName name (PyData.keyHash w.params name) (.str name (tk+1)) v ⟨.type "dict",none,.dict ⟨es⟩ m,⟨[]⟩⟩=⟨.type "dict",none,.dict ⟨es++[⟨PyData.keyHash w.params name,.str name (tk+1),v⟩]⟩ (m+1),⟨[]⟩⟩:=by
  have:=putName_dict name (PyData.keyHash w.params name) (.str name (tk+1)) v es m
  have hf:es.findIdx? (fun x=>x.key.isStr name)=none:=by
   have:=any_of_findIdx name es;rw [n1] at this;cases q:es.findIdx? (fun x=>x.key.isStr name) with
   | none=>rfl
   | some i=>rw [q] at this;exact nT this
  have e1:=putL_find name (PyData.keyHash w.params name) (.str name (tk+1)) v es;rw [hf] at e1;have e2:putN name es m=m+1:=by unfold putN;rw [n1];rfl
  rw [<- e1,e2] at this;exact this
 have hl:es.length<=100:=r.length▸hz;have hn:=Heap.get?_update_self (Obj.putName name (PyData.keyHash w.params name) (.str name (tk+1)) v) D (by rw [RV];rfl);rw [RV] at hn;have hp:(Data.dict ⟨es++[⟨PyData.keyHash w.params name,.str name (tk+1),v⟩]⟩ (m+1)).pastItsLine=none:=pastItsLine_dict (by show (es++[_]).length<=_;rw [sizeLine_eq,List.length_append];show es.length+1<=_;exact aJ hl);refine Pe ?_;refine wpAny_lookBehind hn hp ?_;refine Pj (aI (q _ ?_));exact S.upd j e (Heap.SameBut.update _ _ _) (me _ _ hn (r.add rfl rfl))
variable {A:Around}{E:Value->Shared->Prop}{s:Shared}
theorem LK {l : Addr}(QP:l≠it)(n i:Nat)(s:Shared)(Q:LV->Shared->Prop)(hit:s.heap.IsListIter it l i)(ht:s.heap.IsList l items)(hle:i+n<=items.size)
  (hQ:∀ h',h'.IsListIter it l (i+n)->Heap.SameBut it s.heap h'->Q ((items.toList.drop i).take n) {s with heap:=h'}):wpAny (model prog w) A (draw (.ref it) n) Q E s:=by
 induction n generalizing i s Q with
 | zero=>show wpAny _ _ (pure []) Q E s;exact Pj (by simpa using hQ s.heap hit (Heap.SameBut.refl ..))
 | succ n ih=>
  have Rx:i < items.size:=aJ hle;show wpAny _ _ (pyNext (.ref it) >>= _) Q E s;refine Pe (wpAny_pyNext_list_item hit ht (x:=items[i]) (by simp [Rx]) fun h₁ Ry Sg=>?_);refine Pe (wpAny_holding (ih (i+1) _ _ Ry (ht.extBut Sg.extBut QP) (aJ hle) fun h₂ WD Tb=>Pj ?_));have hd:items.toList.drop i=items[i]::items.toList.drop (i+1):=by simp [List.drop_eq_getElem_cons,Rx]
  have:=hQ h₂ (by rw [show i+(n+1)=i+1+n by lia];exact WD) (Sg.trans Tb);rw [hd,List.take_succ_cons] at this;exact this
theorem Heap.IsList.tyIs(x:s.heap.IsList a items):s.TypeIs (.ref a) "list" :=d6 (x) fun o ho hc U=>(bw o ho hc)
theorem FQ {h:Heap}(x:h.IsList a items)(o:Obj):(h.push o).IsList a items:=bM (x) fun o' ho r=>(bw o' (Heap.get?_push_of_some _ ho) r)
theorem Eb {l:Addr}{Q:LV->Shared->Prop}(hh:A.handled=none)(ht:s.heap.IsList l items)
  (hQ:∀ h',Heap.ExtBut s.heap.objs.size s.heap h'->Q items.toList {s with heap:=h'}):wpAny (model prog w) A (unpackItems (.ref l) items.size none) Q E s:=by
 have Rx:l≠s.heap.objs.size:=by refine bM ht fun o ho U=>?_;exact Nat.ne_of_lt (Heap.lt_size ho)
 unfold unpackItems;refine Pe ?_;unfold notIterableAtAll;refine Pe (wpAny_specialOf (Heap.IsList.tyIs ht) F.slot_list_iter.lookup ?_);refine Pj ?_;simp only [Bool.false_eq_true,if_false];refine Pe (wpAny_holding (wpAny_pyIter_list ht ?_));refine Pe (wpAny_holding (LK Rx items.size 0 _ _ (iG _ (Heap.get?_push_size _ rfl) rfl rfl) (FQ ht _) (cZ) fun h₁ Ry Sg=>?_))
 have WE:List.take items.size (List.drop 0 items.toList)=items.toList:=by rw [List.drop_zero];exact List.take_of_length_le (by simp)
 rw [WE];rw [if_neg (by simp)];have ZS:h₁.IsList l items:=(FQ ht _).extBut Sg.extBut Rx;refine Pe (wpAny_holding (wpAny_pyNext_list_end hh Ry ZS (by simp) fun h₂ ZT=>?_));simp only [Option.isSome_none,Bool.false_eq_true,if_false];refine Pj (hQ h₂ fun b o hb e=>ZT b o hb (Sg.extBut b o hb (Heap.get?_push_of_some _ e)))
theorem St.extNew {h':Heap}(S:St w B O Z led h)(x:Heap.ExtBut h.objs.size h h'):St w B O Z led h':=S.grow fun b o e=>x b o (Nat.ne_of_lt (Heap.lt_size e)) e
theorem qJ {t:Addr}{k:Nat}{Q:LV->Heap->Prop}(S:St w B O Z led h)(ht:ci w h t (.tup xs))(hk:k=xs.length)(q:∀ h',St w B O Z led h'->Q xs h'):W PW w n (unpackItems (.ref t) k none) Q h:=.mk fun A g d tk os hA=>by refine oE ht fun m e=>?_;subst hk;exact wpAny_unpackItems_tuple (items:=⟨xs⟩) hA.2.2 (vg _ e rfl m rfl) fun h' hx=>aI (q h' (S.extNew hx))
theorem qK {t:Addr}{k:Nat}{Q:LV->Heap->Prop}(S:St w B O Z led h)(ht:ci w h t (.lst xs))(hk:k=xs.length)(q:∀ h',St w B O Z led h'->Q xs h'):W PW w n (unpackItems (.ref t) k none) Q h:=.mk fun A g d tk os hA=>by subst hk;exact Eb (items:=⟨xs⟩) hA.2.2 ht fun h' hx=>aI (q h' (S.extNew hx))
theorem mo {Q:Unit->Heap->Prop}(q:Q () h):W PW w n (assignInOrder [] []) Q h:=.mk fun U U U U U U=>wpAny_assignInOrder_none (aI q)
theorem lu {t:Value->Sem Unit}{ts:List (Value->Sem Unit)}{x:Value}{Q:Unit->Heap->Prop}(k:W PW w n (t x) (fun U h1=>W PW w n (assignInOrder ts xs) Q h1) h):W PW w n (assignInOrder (t::ts) (x::xs)) Q h:=.mk fun A g d tk os hA=>wpAny_assignInOrder_more (k.to hA fun U U U q=>q.to hA fun U U U q=>aI q)
theorem jw{Q:Unit->Heap->Prop}(k:W PW w n (storeName env x v) Q h):W PW w n (assign (.Name x pos) env v) Q h:=.mk fun A g d tk os hA=>assign_Name (k.to hA fun U U U q=>aI q)
theorem wO{Q:Unit->Heap->Prop}(k:W PW w n (storeName env x v) Q h):W PW w n (bindName env x v) Q h:=.mk fun A g d tk os hA=>bindName_ (k.to hA fun U U U q=>aI q)
theorem lx{k:Nat}{Q:Unit->Heap->Prop}(x:W PW w n (unpackItems v (assignEach elts env).length none) (fun xs h1=>W PW w n (assignInOrder ((assignEach elts env).map (·.2)) xs) Q h1) h)
  (hs:autoParam ((assignEach elts env).findIdx? (·.1)=none) tac0):W PW w n (assign (.Tuple elts k pos) env v) Q h:=.mk fun A g d tk os hA=>by rw [arm_assign_Tuple];refine Pe (wpAny_standAt ?_);unfold unpack;rw [hs];exact Pe (wpAny_holding (x.to hA fun U U U q=>q.to hA fun U U U q=>aI q))
theorem zO{k:Nat}{Q:Flow->Heap->Prop}(x:W PW w n (eval value env) (fun v h1=>W PW w n (assign (.Tuple elts k Qo) env v) (fun U h2=>Q .next h2) h1) h)
  (hs:autoParam (swapsWithSole [.Tuple elts k Qo] value pos.line env=pure false) tac0) (hw:autoParam (swappedStores [.Tuple elts k Qo] value env=pure none) tac0):W PW w n (exec (.Assign [.Tuple elts k Qo] value pos) env) Q h:=.mk fun A g d tk os hA=>Assign_Tuple (x.to hA fun U U U q=>q.to hA fun U U U q=>aI q) hs hw
theorem wP (names:List Str){k:Nat}{Q:Flow->Heap->Prop}
  (x:W PW w n (eval value env) (fun v h1=>W PW w n (unpackItems v names.length none) (fun xs h2=>W PW w n (assignInOrder (names.reverse.map fun n=>bindName env n) xs.reverse) (fun U h3=>Q .next h3) h2) h1) h)
  (hs:autoParam (swapsWithSole [.Tuple elts k Qo] value pos.line env=pure false) tac0) (hw:autoParam (swappedStores [.Tuple elts k Qo] value env=pure (some names)) tac0):W PW w n (exec (.Assign [.Tuple elts k Qo] value pos) env) Q h:=.mk fun A g d tk os hA=>Assign_Tuple_swapped (x.to hA fun U U U q=>q.to hA fun U U U q=>q.to hA fun U U U q=>aI q) hs hw
theorem FR{Q:VP}(S:St w B O Z (fr::led) h)
  (k:∀ x dx h',St w B O Z (fr::(x,.ins cl dx)::(dx,.att [])::led) h'->C PW w n (.call (.ref f) ⟨.ref x::vals,[]⟩) (mY fun r h2=>r=.none/\Q (.ref x) h2) h')
  (hi:autoParam (findIn (KF w.params) (.ref cl) (Str.ofString "__init__")=some (some (.ref f))) tac0) (hm:autoParam (makesIn (KF w.params) cl=true) tac0) (hf:autoParam (typeIn (KF w.params) (.ref f)=some (.type "function")) tac0):
  W PW w (n+1) (call (.ref cl) vals) Q h:=wG <| .mk fun A g d tk os hA=>by
 refine make_core (makes_of S.k hm) (looks_findIn S.k hi) (fun self=>bind_fn S.k self hf) (.inl rfl) ?_;have S1:=S.push1 emptyDict (.att []) (me [] 0 (Heap.get?_push_size _ rfl) OU);have S2:=S1.push1 (instObj cl h.objs.size) (.ins cl h.objs.size) (Heap.get?_push_size _ rfl);rw [Heap.size_push] at S2;have X:=k _ _ _ S2
 have hb:vh n (A.under (.builtin "type.__call__" ⟨.ref cl::vals,[]⟩)):=by
  have h1:=hA.1;have h2:=hA.2.1;refine cF ?_ ?_ hA.2.2
  ·have:(A.under (.builtin "type.__call__" ⟨.ref cl::vals,[]⟩)).depth<=A.depth+1:=Nat.le_of_eq (by rfl);exact bo h1 this
  ·have:(A.under (.builtin "type.__call__" ⟨.ref cl::vals,[]⟩)).units<=A.units+4:=by first | exact Nat.le_of_eq (by rfl) | exact Pg (Nat.le_of_eq (by rfl:_=A.units+1)) lw
   exact bo h2 this
 refine X.to hb fun fl h' PS q=>?_;cases fl<;>first | exact q.elim | exact ⟨q.1,aI q.2⟩
theorem vt{apos : Pos}{args:List Expr}{Q:VP}
  (k:W PW w n (eval o env) (fun ov h1=>W PW w n (getMethod ov name (do return (<- importBound o env).getD true)) (fun fx h2=>W PW w n (callWith pos fx.1 fx.2 (backTo pos (starEach args env)) []) Q h2) h1) h)
  (he:autoParam (eval (.Call (.Attribute o name apos) args [] pos) env=(do
   let ov <- eval o env
   standAt apos.atName
   let (f,first) <- holding [ov] (getMethod ov name (do return (<- importBound o env).getD true))
   callWith pos f first (backTo pos (starEach args env)) [])) tac0):
  W PW w n (eval (.Call (.Attribute o name apos) args [] pos) env) Q h:=.mk fun A g d tk os hA=>MethodCall_ (k.to hA fun U U U q=>q.to hA fun U U U q=>q.to hA fun U U U q=>aI q) he
theorem oP {x : Addr}{fs:KV}{Q:Value×LV->Heap->Prop}(S:St w B O Z led h)(hx:ci w h x (.ins cl dx))(hd:ci w h dx (.att fs))
  (hf:findIn (KF w.params) (.ref cl) name=some (some (.ref f))) (q:Q (.ref f,[.ref x]) h) (hv:autoParam (fs.lookup name=none) tac0)
  (WC:autoParam (findIn (KF w.params) (.ref cl) (Str.ofString "__getattribute__")=some (some (.builtin "object.__getattribute__"))) tac0)
  (hk:autoParam (findIn (KF w.params) (.ref cl) (Str.ofString "__getattr__")=some none) tac0) (ht:autoParam (typeIn (KF w.params) (.ref f)=some (.type "function")) tac0):W PW w n (getMethod (.ref x) name pl) Q h:=.mk fun A g d tk os hA=>by
 refine iQ (qH hx hd) fun es m r I=>?_;refine oA (r.none hv) fun n1 n2=>?_;refine method_fn S.k I WC hk hf ht ?_ (aI q)
 have n3:es.find? (·.key.isStr name)=none:=List.find?_eq_none.mpr fun e he hc=>by have:es.any (·.key.isStr name)=true:=List.any_eq_true.mpr (bw e he hc);rw [n1] at this;exact nB this
 unfold shadowIn lookIn;dsimp only;rw [n3];dsimp only;rw [n2]
 rfl
theorem zP{l:Addr}{Q:Value×LV->Heap->Prop}(hl:ci w h l (.pls xs))(q:Q (.builtin "list.append",[.ref l]) h)(hn:autoParam ((name==Str.ofString "append")=true) tac0):W PW w n (getMethod (.ref l) name pl) Q h:=.mk fun A g d tk os hA=>by obtain rfl:=Pu hn;refine oE hl fun m e=>?_;exact getMethod_builtin (T:="list") (bw _ e rfl) F.plainAttrs_list F.slot_list_append F.type_list_append (fun a q=>by cases q;exact bw _ e rfl) (aI q)
theorem zQ{l:Addr}{Q:Value×LV->Heap->Prop}(hl:ci w h l (.pls xs))(q:Q (.builtin "list.extend",[.ref l]) h)(hn:autoParam ((name==Str.ofString "extend")=true) tac0):W PW w n (getMethod (.ref l) name pl) Q h:=.mk fun A g d tk os hA=>by obtain rfl:=Pu hn;refine oE hl fun m e=>?_;exact getMethod_builtin (T:="list") (bw _ e rfl) F.plainAttrs_list F.slot_list_extend F.type_list_extend (fun a q=>by cases q;exact bw _ e rfl) (aI q)
theorem zR{Q:Value×LV->Heap->Prop}(hd:ci w h d (.dct P7))(q:Q (.builtin "dict.update",[.ref d]) h)(hn:autoParam ((name==Str.ofString "update")=true) tac0):W PW w n (getMethod (.ref d) name pl) Q h:=.mk fun A g d' tk os hA=>by obtain rfl:=Pu hn;refine uc hd fun U o es ep e r=>?_;exact getMethod_builtin (T:="dict") (bw _ e r.1.1) F.plainAttrs_dict F.slot_dict_update F.type_dict_update (fun a q=>by cases q;exact bw _ e r.1.2.1) (aI q)
theorem Bd{Q:Value×LV->Heap->Prop}(hd:ci w h d (.dct P7))(q:Q (.builtin "dict.get",[.ref d]) h)(hn:autoParam ((name==Str.ofString "get")=true) tac0):W PW w n (getMethod (.ref d) name pl) Q h:=.mk fun A g d' tk os hA=>by obtain rfl:=Pu hn;refine uc hd fun U o es ep e r=>?_;exact getMethod_builtin (T:="dict") (bw _ e r.1.1) F.plainAttrs_dict F.slot_dict_get F.type_dict_get (fun a q=>by cases q;exact bw _ e r.1.2.1) (aI q)
theorem Be{Q:Value×LV->Heap->Prop}(q:Q (.builtin "str.rfind",[.str x t]) h)(hn:autoParam ((name==Str.ofString "rfind")=true) tac0):W PW w n (getMethod (.str x t) name pl) Q h:=.mk fun A g d' tk os hA=>by
 obtain rfl:=Pu hn;exact
 getMethod_builtin (T:="str") rfl F.plainAttrs_str F.slot_str_rfind F.type_str_rfind (fun a q=>by cases q) (aI q)
theorem qL{l:Addr}{Q:VP}(S:St w B O Z led h)(e:led[i]? =some (l,.pls xs))(hz:xs.length<=1000)(q:∀ h',St w B O Z (led.set i (l,.pls (xs++[v]))) h'->Q .none h'):
  W PW w n (call (.builtin "list.append") [.ref l,v]) Q h:=.mk fun A g d tk os hA=>by
 refine wpAny_list_append_plain (items:=⟨xs⟩) (S.get i e) (fun h' hp hs=>aI (q h' (S.upd i e hs ?_))) (Pg hz (by rw [sizeLine_eq];exact cZ));have e2:(⟨xs⟩:Array Value).push v=⟨xs++[v]⟩:=by simp
 rw [e2] at hp;exact hp
theorem Bf{l b:Addr}{Q:VP}(S:St w B O Z led h)(e:led[i]? =some (l,.pls xs))(hb:ci w h b (.pls ys))(hz:xs.length+ys.length<=1000)(q:∀ h',St w B O Z (led.set i (l,.pls (xs++ys))) h'->Q .none h'):
  W PW w n (call (.builtin "list.extend") [.ref l,.ref b]) Q h:=.mk fun A g d tk os hA=>by
 refine oE (S.get i e:h.PlainList l ⟨xs⟩) fun n1 h1=>?_;refine oE (hb:h.PlainList b ⟨ys⟩) fun n2 h2=>?_;have WG:xs.length+ys.length<=sizeLine:=Pg hz (by rw [sizeLine_eq];exact cZ);refine call_meets (T:="list") F.slot_list_extend (bw _ h1 rfl) F.entry_list_extend (F.args_list_extend_2 _ _) (AutoSeq1.list_extend_list_list_0 l ⟨xs⟩ n1 b ⟨ys⟩ n2 ?_ (Pg (Pq _ _) WG) (Nat.le_succ_of_le WG)) (cF h1 h2 ?_)
 ·show ¬ (_ && Builtin.List.listTooLong (xs.length+ys.length))=true
  have:Builtin.List.listTooLong (xs.length+ys.length)=false:=by unfold Builtin.List.listTooLong;simp;exact aJ WG
  rw [this,Bool.and_false];exact Bool.false_ne_true
 ·refine aI (q _ (S.upd i e (Heap.SameBut.update _ _ _) ?_));have:=Heap.get?_update_self (Obj.mapSeq fun x=>x++(⟨ys⟩:Array Value)) h1 (by rfl);have e3:(⟨xs⟩:Array Value)++⟨ys⟩=⟨xs++ys⟩:=by simp
  simp only [Obj.mapSeq,e3] at this;exact ⟨_,this⟩
theorem Bg{o : Addr}{more : KV}{Q:VP}(S:St w B O Z led h)(e:led[i]? =some (d,.dct P7))(ho:ci w h o (.dct more))(QP:d≠o)(hz:P7.length+more.length<=1000)(q:∀ h',St w B O Z (led.set i (d,.dct (merged P7 more))) h'->Q .none h'):
  W PW w n (call (.builtin "dict.update") [.ref d,.ref o]) Q h:=.mk fun A g d' tk os hA=>
 have D:=S.get i e
 call_meetsIn (T:="dict") F.slot_dict_update (ki D).typeIs F.entry_dict_update (F.args_dict_update_2 _ _) (meets_dict_update (strKind PW w) d o QP ho.1)
  (o6 P7 more D.2 ho.2 (Pg hz (by rw [sizeLine_eq];exact cZ)) (fun h' hd U hs=>aI (q h' (S.upd i e hs ⟨D.1,hd⟩))))
theorem LL{Q:VP}(hd:ci w h d (.dct P7))(q:Q ((valueAt P7 x).getD v) h):W PW w n (call (.builtin "dict.get") [.ref d,.str x t,v]) Q h:=.mk fun A g d' tk os hA=>call_meetsIn (T:="dict") F.slot_dict_get (ki hd).typeIs F.entry_dict_get (F.args_dict_get_3 _ _ _) (meets_dict_get_default (strKind PW w) d (strKind_is PW w x t) hd.1 v) (bw _ (ki hd) (aI q))
theorem Ec{Q:VP}(q:∀ k,Q (.int (Txt.rfind x y) k) h):W PW w n (call (.builtin "str.rfind") [.str x t,.str y u]) Q h:=.mk fun A g d' tk os hA=>SC.rfind (aI (q _))
theorem wQ (b:Bool){x D : Addr}{fs:KV}{Q:VP}(S:St w B O Z led h)(hx:ci w h x (.ins cl dx))(hd:ci w h dx (.att fs))(q:Q (.bool b) h)
  (e:autoParam (kitOne (KF w.params) (.ref cl) (.ref D)=some b) tac0)
  (hg:autoParam (plainGet (KF w.params) cl (Str.ofString "__class__")=true) tac0) (TY:autoParam (hasDictIn (KF w.params) cl=true) tac0) (ha:autoParam (findIn (KF w.params) (.ref cl) (Str.ofString "__class__")=some (some (.builtin "object.__class__"))) tac0)
  (hn:autoParam (specialIn (KF w.params) (.builtin "object.__class__") (Str.ofString "__get__")=some (some (.builtin "getset_descriptor.__get__"))) tac0) (WH:autoParam (takesIn (KF w.params) (.builtin "object.__class__")=some true) tac0)
  (hm:autoParam (mroIn (KF w.params) cl (.type "object")=some true) tac0):W PW w n (call (.builtin "isinstance") [.ref x,.ref D]) Q h:=.mk fun A g d tk os hA=>by refine iQ (qH hx hd) fun es m r I=>?_;exact kia_one (kitx_own hg TY ha hn WH hm) S.k I e (by intro q;cases q) fun U=>aI q
theorem GU (b:Bool){x tp : Addr}{V2:LV}{fs:KV}{Q:VP}(S:St w B O Z led h)(hx:ci w h x (.ins cl dx))(hd:ci w h dx (.att fs))(ht:ci w h tp (.tup V2))(q:Q (.bool b) h)
  (e:autoParam (kitAny (KF w.params) (.ref cl) V2=some b) tac0)
  (hg:autoParam (plainGet (KF w.params) cl (Str.ofString "__class__")=true) tac0) (TY:autoParam (hasDictIn (KF w.params) cl=true) tac0) (ha:autoParam (findIn (KF w.params) (.ref cl) (Str.ofString "__class__")=some (some (.builtin "object.__class__"))) tac0)
  (hn:autoParam (specialIn (KF w.params) (.builtin "object.__class__") (Str.ofString "__get__")=some (some (.builtin "getset_descriptor.__get__"))) tac0) (WH:autoParam (takesIn (KF w.params) (.builtin "object.__class__")=some true) tac0)
  (hm:autoParam (mroIn (KF w.params) cl (.type "object")=some true) tac0):W PW w n (call (.builtin "isinstance") [.ref x,.ref tp]) Q h:=.mk fun A g d tk os hA=>by refine iQ (qH hx hd) fun es m r I=>?_;refine oE ht fun k ht=>?_;exact kia_tup (kitx_own hg TY ha hn WH hm) S.k I ht e (by intro q;cases q) fun U=>aI q
theorem zS {i:Int}{Q:VP}(S:St w B O Z led h)(q:Q (.bool false) h):W PW w n (call (.builtin "isinstance") [.int i t,.type "list"]) Q h:=.mk fun A g d tk os hA=>kia_one kitx_int S.k OU (b:=false) OT (by intro q;cases q) fun U=>aI q
theorem zT {x:Addr}{Q:VP}(S:St w B O Z led h)(hx:ci w h x (.tup xs))(q:Q (.bool false) h):W PW w n (call (.builtin "isinstance") [.ref x,.type "list"]) Q h:=.mk fun A g d tk os hA=>by refine oE hx fun k e=>?_;exact kia_one kitx_tuple S.k (bw _ e rfl) (b:=false) OT (by intro q;cases q) fun U=>aI q
theorem sZ {x:Addr}{Q:VP}(S:St w B O Z led h)(hx:ci w h x (.lst xs))(q:Q (.bool true) h):W PW w n (call (.builtin "isinstance") [.ref x,.type "list"]) Q h:=.mk fun A g d tk os hA=>by refine d6 (hx:h.IsList x ⟨xs⟩) fun o e hc r=>?_;exact PySem.IsiPair.list_list e hc (aI q)
def zU (w:World)(n:Nat)(target:Expr)(body orelse:List Stmt)(env:Env)(Q:Flow->Heap->Prop)(it:Value)(h:Heap):Prop:=C PW w n (.forLoop target it body orelse env) Q h
noncomputable def o9 (I:Heap->Prop)(Q:Flow->Heap->Prop)(f:Flow)(h:Heap):Prop:=match f with
 | .next=>I h
 | .cont=>I h
 | .brk=>Q .next h
 | .ret v=>Q (.ret v) h
theorem FS {iter : Expr}{Q:Flow->Heap->Prop}(k:W PW w n (eval iter env) (fun v h1=>W PW w n (pyIter v) (zU w n target body orelse env Q) h1) h)
  (hf:autoParam (∀ x,foldedSetIterable iter env x=pure x) tac7):W PW w n (exec (.For target iter body orelse pos) env) Q h:=.mk fun A g d tk os hA=>wpAny_For (k.to hA fun U U U q=>q.to hA fun U U U q=>q.to hA fun U U U q=>aI q) hf
noncomputable def i9:Expr->Bool
 | .Tuple .. =>true
 | .Name .. =>true
 | _=>false
theorem t6{l : Addr}{A:Around}{E:Value->Shared->Prop}{s:Shared}{Q:Unit->Shared->Prop}(ht:i9 target=true)(hi:s.heap.IsListIter it l i)(q:Q () s):
  wpAny (model PW w) A (letOwnedTupleGo target (.ref it) v) Q E s:=by
 cases target<;>first | exact absurd ht Bool.false_ne_true | exact Pj q | skip
 cases v<;>first | exact Pj q | exact wpAny_letOwnedTupleGo_listiter hi q
theorem yl{it:Value}{Q:Flow->Heap->Prop}(I:Nat->Heap->Prop)
  (step:∀ k h,I k h->W PW w n (pyNext it) (fun r h1=>match r with
   | none=>W PW w n (execs orelse env) Q h1
   | some v=>(∃ SP l i,it=.ref SP/\h1.IsListIter SP l i\/∀ v,letOwnedTupleGo target it v=pure ())/\W PW w n (assign target env v) (fun U h2=>W PW w n (execs body env) (o9 (fun h3=>∃ m,m < k/\I m h3) Q) h2) h1) h)
  (k:Nat) (h0:I k h) (ht:i9 target=true):C PW w n (.forLoop target it body orelse env) Q h:=.mk fun A g d tk os hA=>by
 refine codeAny_forLoop_any (fun k s=>(s.gens=g/\s.drawn=d/\s.os=os)/\I k s.heap) (fun k s hs=>?_) k (aI h0);obtain ⟨h',g',d',PS,Tu⟩:=s;refine oA hs fun Qs hi=>?_;clear hs;refine ub Qs fun e1 e2 e3=>?_;clear Qs;dsimp only at e1 e2 e3 hi;subst e1 e2 e3;refine (step k h' hi).to hA fun r h1 Q9 q=>?_;cases r with
 | none=>exact q.to hA fun U U U q=>aI q
 | some v=>
  refine oA q fun own q=>?_
  have rest:wpAny (model PW w) A (assign target env v) (fun U s₂=>wpAny (model PW w) A (execs body env) (fun f s₃=>match f with
     | .next | .cont=>∃ m,m < k/\((s₃.gens=g'/\s₃.drawn=d'/\s₃.os=Tu)/\I m s₃.heap)
     | .brk=>(s₃.gens=g'/\s₃.drawn=d'/\s₃.os=Tu)/\Q .next s₃.heap
     | .ret v=>(s₃.gens=g'/\s₃.drawn=d'/\s₃.os=Tu)/\Q (.ret v) s₃.heap) (notedBy (model PW w) A env fun e s'=>False) s₂) (notedBy (model PW w) A env fun e s'=>False) ⟨h1,g',d',Q9,Tu⟩:=by
   refine q.to hA fun U h2 Qj q=>q.to hA fun f h3 RW q=>?_;cases f with
   | next=>refine bM q fun m hm q=>?_;exact bw m hm (aI q)
   | cont=>refine bM q fun m hm q=>?_;exact bw m hm (aI q)
   | brk=>exact aI q
   | ret v=>exact aI q
  rcases own with ⟨SP,l,i,⟨rfl,hl⟩ | own⟩
  ·exact t6 ht hl rest
  ·exact wpAny_of_eq (own v) rest
theorem pG{l:Addr}{Q:VP}(S:St w B O Z (fr::led) h)(hl:ci w h l (.lst xs))(q:∀ it h',St w B O Z (fr::(it,.lit l 0)::led) h'->Q (.ref it) h'):W PW w n (pyIter (.ref l)) Q h:=.mk fun A g d tk os hA=>wpAny_pyIter_list (items:=⟨xs⟩) hl (aI (q _ _ (S.push1 _ _ (iG _ (Heap.get?_push_size _ rfl) rfl rfl))))
theorem uf{l : Addr}{x:Value}{Q:Option Value->Heap->Prop}(S:St w B O Z (fr::(it,.lit l i)::led) h)(hl:ci w h l (.lst xs))(hx:xs[i]? =some x)(q:∀ h',St w B O Z (fr::(it,.lit l (i+1))::led) h'->Q (some x) h'):
  W PW w n (pyNext (.ref it)) Q h:=.mk fun A g d tk os hA=>wpAny_pyNext_list_item (items:=⟨xs⟩) (S.get 1 rfl) hl (by simpa using hx) fun h' hi hs=>aI (q h' (S.upd 1 rfl hs hi))
theorem St.drop1(S:St w B O Z (fr::p::led) h):St w B O Z (fr::led) h:=S.swap.drop 1
theorem St.extBut {h':Heap}(S:St w B O Z (fr::(a,c)::led) h)(x:Heap.ExtBut a h h'):St w B O Z (fr::led) h':=by
 refine qA (S.cells (a,c) (by simp)) fun hc hz hm hb=>?_;have S1:=S.drop1;have ne:∀ {b o},B.get? b=some o->b≠a:=fun {b o} q r=>by rw [r,hb] at q;exact nS q
 have nd:=S.nd;simp only [List.map_cons,List.nodup_cons,List.mem_cons,not_or] at nd;refine ⟨S.base,fun b o q=>x b o (ne q) (S.keepB b o q),fun b c q=>(S.z q).keeps fun o=>x b o (fun r=>by rw [r,hz] at q;exact nS q),fun p hp=>?_,S1.nd,⟨S.hist.ext,S.hist.new,fun b o q m=>?_⟩⟩
 ·refine ⟨(S1.cells p hp).1.keeps fun o=>x p.1 o ?_,(S1.cells p hp).2⟩;rcases OY hp with rfl | hp
  ·exact nd.1.1
  ·exact fun e=>nd.2.1 (Pb (bw p hp e))
 ·have:b≠a:=by
   rintro rfl;rcases hm with hm | hm
   ·exact m hm
   ·rw [hm] at q;exact nS q
  exact x b o this (S.hist.keep b o q m)
theorem wR{l : Addr}{Q:Option Value->Heap->Prop}(S:St w B O Z (fr::(it,.lit l i)::led) h)(hl:ci w h l (.lst xs))(hx:xs[i]? =none)(q:∀ h',St w B O Z (fr::led) h'->Q none h'):
  W PW w n (pyNext (.ref it)) Q h:=.mk fun A g d tk os hA=>wpAny_pyNext_list_end (items:=⟨xs⟩) hA.2.2 (S.get 1 rfl) hl (by simpa using hx) fun h' hx=>aI (q h' (S.extBut hx))
theorem Ed{k:Int}{Q:VP}(S:St w B O Z (fr::led) h)(q:∀ r u v h',St w B O Z (fr::(r,.obj {cls:=.type "range",data:=.fields #[.int 0 u,.int k t,.int 1 v]})::led) h'->Q (.ref r) h'):
  W PW w n (call (.type "range") [.int k t]) Q h:=.mk fun A g d tk os hA=>call_range_1 (aI (q _ _ _ _ (S.push1 _ _ (Heap.get?_push_size _ rfl))))
theorem Ee{r:Addr}{k:Nat}{v : Tok}{Q:VP}(S:St w B O Z (fr::led) h)(hr:ci w h r (.obj {cls:=.type "range",data:=.fields #[.int 0 u,.int k t,.int 1 v]}))(hk:k<=1000)
  (q:∀ it h',St w B O Z (fr::(it,.rit 0 k 1)::led) h'->Q (.ref it) h'):W PW w n (pyIter (.ref r)) Q h:=.mk fun A g d tk os hA=>by
 refine wpAny_pyIter_range (a:=0) (b:=k) (c:=1) (t:=u) (u:=t) (v:=v) ?_ ?_ ?_
 ·exact hr
 ·have e:Builtin.Range.rangeSize 0 k 1=k:=by simp [Builtin.Range.rangeSize];lia
  unfold Builtin.Range.small Builtin.Range.rangeFitsLong;rw [e];simp;lia
 ·have e:Builtin.Range.rangeSize 0 k 1=k:=by simp [Builtin.Range.rangeSize];lia
  rw [e];exact aI (q _ _ (S.push1 _ _ (Heap.get?_push_size _ rfl)))
theorem Ef{x : Int}{Q:Option Value->Heap->Prop}(S:St w B O Z (fr::(it,.rit x left 1)::led) h)(hx:0 < left)(q:∀ h' t,St w B O Z (fr::(it,.rit (x+1) (left - 1) 1)::led) h'->Q (some (.int x t)) h'):
  W PW w n (pyNext (.ref it)) Q h:=.mk fun A g d tk os hA=>wpAny_pyNext_range_item (S.get 1 rfl) hx fun h' hi hs=>aI (q h' _ (S.upd 1 rfl hs hi))
theorem GV{x : Int}{Q:Option Value->Heap->Prop}(S:St w B O Z (fr::(it,.rit x left 1)::led) h)(hx:left<=0)(q:∀ h',St w B O Z (fr::led) h'->Q none h'):
  W PW w n (pyNext (.ref it)) Q h:=.mk fun A g d tk os hA=>wpAny_pyNext_range_end hA.2.2 (S.get 1 rfl) hx fun h' hx=>aI (q h' (S.extBut hx))
theorem Eg{Q:Flow->Heap->Prop}(I:Nat->Heap->Prop)
  (step:∀ k h,I k h->∀ R:Flow->Heap->Prop,(∀ f h3,o9 (fun h3=>∃ m,m < k/\I m h3) Q f h3->R f h3)->W PW w n (PySem.isTrue test env (eval test env)) (fun b h1=>if b=true then W PW w n (execs body env) R h1 else W PW w n (execs orelse env) Q h1) h)
  (k:Nat) (h0:I k h):W PW w n (exec (.While test body orelse pos) env) Q h:=.mk fun A g d tk os hA=>by
 refine wpAny_While (codeAny_mono (R:=fun r s=>match r with | .ok f=>(s.gens=g/\s.drawn=d/\s.os=os)/\Q f s.heap | .error _=>False) ?_ fun r s x=>by cases r<;>first | exact x | exact x.elim);refine codeAny_whileLoop (fun k s=>(s.gens=g/\s.drawn=d/\s.os=os)/\I k s.heap) (fun k s hs=>?_) k (aI h0);obtain ⟨h',g',d',PS,Tu⟩:=s;refine oA hs fun QI hi=>?_;clear hs;refine ub QI fun e1 e2 e3=>?_;clear QI;dsimp only at e1 e2 e3 hi;subst e1 e2 e3;refine (step k h' hi _ fun U U x=>x).to hA fun b h1 Q9 q=>?_;cases b with
 | false=>exact (show W PW w n (execs orelse env) Q h1 from q).to hA fun U U U q=>aI q
 | true=>
  refine (show W PW w n (execs body env) _ h1 from q).to hA fun f h3 RW q=>?_;cases f with
  | next=>refine bM q fun m hm q=>?_;exact bw m hm (aI q)
  | cont=>refine bM q fun m hm q=>?_;exact bw m hm (aI q)
  | brk=>exact aI q
  | ret v=>exact aI q
end
section
variable {w:World}{n:Nat}{env:Env}{h:Heap}{B:Heap}{O:aP}{Z:a8}{led:dy}
theorem zV {a b:Prop}(x:a):if true=true then a else b:=by rw [if_pos rfl];exact x
theorem wS {a b:Prop}(x:b):if false=true then a else b:=by rw [if_neg Bool.false_ne_true];exact x
def NR (w:World)(n:Nat)(ifs:List Expr)(PR:Env)(K:Bool->Heap->Prop)(h:Heap):Prop:=match ifs with
 | []=>K true h
 | c::_=>W PW w n (PySem.isTrue c PR (eval c PR)) K h
def n7 (w:World)(n:Nat)(elt:Expr)(acc:Value)(PR:Env)(I:Nat->Heap->Prop)(k:Nat)(b:Bool)(h3:Heap):Prop:=if b=true then W PW w n (eval elt PR) (fun x h4=>W PW w n (call (.builtin "list.append") [acc,x]) (fun U h5=>∃ m,m < k/\I m h5) h4) h3 else ∃ m,m < k/\I m h3
abbrev FT (w:World)(n:Nat)(elt target:Expr)(ifs:List Expr)(acc:Value)(PR:Env)(I:Nat->Heap->Prop)(k:Nat)(v:Value)(h1:Heap):Prop:=W PW w n (assign target PR v) (fun U h2=>NR w n ifs PR (n7 w n elt acc PR I k) h2) h1
noncomputable def FU (R:Flow->Heap->Prop)(cc:Code)(I:Nat->Heap->Prop)(k:Nat)(g:Array GenState)(d:Drawn)(os:OsState):Fin->Shared->Prop:=fun fin s'=>match fin with | .done f=>((s'.gens=g/\s'.drawn=d/\s'.os=os)/\R f s'.heap) | .again c'=>c'=cc/\∃ m,m < k/\((s'.gens=g/\s'.drawn=d/\s'.os=os)/\I m s'.heap)
section
variable {elt target:Expr}{acc:Value}{PR:Env}{R:Flow->Heap->Prop}{I:Nat->Heap->Prop}{k:Nat}{cc:Code}{A:Around}{E:Value->Shared->Prop}{g:Array GenState}{d:Drawn}{tk:Nat}{os:OsState}
theorem n7.t (x:W PW w n (eval elt PR) (fun x h4=>W PW w n (call (.builtin "list.append") [acc,x]) (fun U h5=>∃ m,m < k/\I m h5) h4) h):n7 w n elt acc PR I k true h:=zV x
theorem n7.f (x:∃ m,m < k/\I m h):n7 w n elt acc PR I k false h:=wS x
theorem vv (hA:vh n A){b:Bool}(q:n7 w n elt acc PR I k b h):wpAny (model PW w) A (if b=true then ((eval elt PR >>= fun x=>call (.builtin "list.append") [acc,x] >>= fun U=>pure ()) >>= fun U=>again cc) else again cc) (FU R cc I k g d os) E ⟨h,g,d,tk,os⟩:=by
 cases b with
 | false=>exact bM (show ∃ m,m < k/\I m h from q) fun m hm q=>Pj (mU rfl m hm (aI q))
 | true=>exact Pe (Pe ((show W PW w n (eval elt PR) _ h from q).to hA fun x h4 Sh q=>Pe (q.to hA fun U h5 TZ q=>bM q fun m hm q=>Pj (Pj (mU rfl m hm (aI q))))))
theorem t7 (hA:vh n A){ifs:List Expr}{v:Value}(hi:ifs.length<=1)(q:FT w n elt target ifs acc PR I k v h):wpAny (model PW w) A (assign target PR v >>= fun U=>(forIn ifs true fun c r=>if r=true then do let ok <- PySem.isTrue c PR (eval c PR);pure (ForInStep.yield ok) else pure (ForInStep.yield r)) >>= fun ok=>if ok=true then ((eval elt PR >>= fun x=>call (.builtin "list.append") [acc,x] >>= fun U=>pure ()) >>= fun U=>again cc) else again cc) (FU R cc I k g d os) E ⟨h,g,d,tk,os⟩:=by
 refine Pe (q.to hA fun U h2 Qj q=>Pe ?_);cases ifs with
 | nil=>exact wpAny_tests_nil (vv hA q)
 | cons c l=>cases l with
  | cons _ _=>exact absurd hi (by simp)
  | nil=>exact wpAny_tests_one ((show W PW w n (PySem.isTrue c PR (eval c PR)) _ h2 from q).to hA fun b h3 RW q=>vv hA q)
end
theorem Bh {elt target iter:Expr}{ifs:List Expr}{scope:Scope}{pos:Pos}{it acc:Value}{PR:Env}{R:Flow->Heap->Prop}(I:Nat->Heap->Prop)
  (step:∀ k h,I k h->W PW w n (pyNext it) (fun r h1=>match r with
   | none=>R .next h1
   | some v=>(∃ SP l i,it=.ref SP/\h1.IsListIter SP l i\/∀ v,letOwnedTupleGo target it v=pure ())/\FT w n elt target ifs acc PR I k v h1) h)
  (k:Nat) (h0:I k h) (ht:i9 target=true) (hi:ifs.length<=1):C PW w n (.compLoop (.ListComp elt [⟨target,iter,ifs,0⟩] scope pos) 0 it acc PR) R h:=.mk fun A g d tk os hA=>by
 refine codeAny_loop rfl (fun k s=>(s.gens=g/\s.drawn=d/\s.os=os)/\I k s.heap) (fun k s hs=>?_) k (aI h0);show wpAny _ A ((compTurn (.ListComp elt [⟨target,iter,ifs,0⟩] scope pos) 0 it acc PR).onRaise (fun x=>do noteFrame x PR;theTreesLotGoes x)) _ _ s;refine wpAny_noted ?_;rw [compTurn_list];obtain ⟨h',g',d',PS,Tu⟩:=s;obtain ⟨⟨e1,e2,e3⟩,hI⟩:=hs;dsimp only at e1 e2 e3 hI;subst e1 e2 e3;refine Pe (wpAny_standAt (Pe ((step k h' hI).to hA fun r h1 Q9 q=>?_)));cases r with
 | none=>exact Pj (aI q)
 | some v=>
  obtain ⟨own,q⟩:=q;refine Pe ?_;rcases own with ⟨SP,l,i,⟨rfl,hl⟩ | own⟩
  ·exact t6 ht hl (t7 hA hi q)
  ·exact wpAny_of_eq (own v) (t7 hA hi q)
inductive FV (w:World)(B:Heap)(O:aP)(D Cc:Addr)(Q:Heap->Prop)(h:Heap):Prop
 | mk (Z:a8) (fr:Addr×an) (led:dy) (ms:List (Str×Option Value)) (c:an) (_:St w B O Z ((Cc,.ns ms)::(D,c)::fr::led) h) (_:∀ h',St w B O Z (fr::(D,c)::led) h'->Q h')
def pH (w:World)(n:Nat)(B:Heap)(O:aP)(use:Option (Value->Sem Unit))(Q:VP)(D Cc:Addr)(h:Heap):Prop:=match use with
 | none=>FV w B O D Cc (Q (.ref D)) h
 | some u=>W PW w n (u (.ref D)) (fun U=>FV w B O D Cc (Q .none)) h
theorem St.compOut {Cc D:Addr}{ms:List (Str×Option Value)}{c:an}{fr:Addr×an}{h':Heap}(S:St w B O Z ((Cc,.ns ms)::(D,c)::fr::led) h)(hs:Heap.SameBut Cc h h'):St w B O Z (fr::(D,c)::led) h':=(S.swap.extBut hs.extBut).swap
inductive GW (w:World)(n:Nat)(B:Heap)(O:aP)(names:List Str)(elt target iter:Expr)(ifs:List Expr)(scope:Scope)(pos:Pos)(PR:Addr->Env)(E:Addr->Addr->Heap->Prop)(it:Value)(h2:Heap):Prop
 | mk (I:Addr) (cI:an) (Z:a8) (fr:Addr×an) (led:dy) (_:it=.ref I) (_:St w B O Z (fr::(I,cI)::led) h2) (_:∀ h Q,ci w h I cI->Q (.ref I) h->W PW w n (pyIter (.ref I)) Q h)
  (_:∀ Cc D h3,St w B O Z ((Cc,.ns (names.map fun x=>(x,none)))::(I,cI)::(D,.pls [])::fr::led) h3->C PW w n (.compLoop (.ListComp elt [⟨target,iter,ifs,0⟩] scope pos) 0 (.ref I) (.ref D) (PR Cc)) (fun U=>E D Cc) h3)
theorem Bi {elt target iter:Expr}{ifs:List Expr}{scope:Scope}{pos p:Pos}{cl:List (Str×Addr)}{use:Option (Value->Sem Unit)}{Q:VP}(names:List Str)
  (k:W PW w n (eval iter env) (fun xv h1=>W PW w n (pyIter xv) (GW w n B O names elt target iter ifs scope pos (compEnvC scope cl · env) (pH w n B O use Q)) h1) h)
  (V3:closureFor scope env=pure cl) (RJ:names.Nodup) (QJ:(scope.names.all fun y=>decide (y.2≠.cell))=true) (QZ:scope.kind=.function)
  (U0:(scope.names.all fun y=>decide (y.2=.local->scope.names.lookup y.1=some .local))=true)
  (hs:∀ x,foldedSetIterable iter env x=pure x):
  W PW w n (comprehension (.ListComp elt [⟨target,iter,ifs,0⟩] scope pos) scope env p (newList []) false (eval iter env) use) Q h:=.mk fun A g d tk os hA=>by
 refine wpAny_comprehension_free (g:=⟨target,iter,ifs,0⟩) (gs:=[]) rfl hs V3 QZ (fun y hy=>Pp (OZ U0 y hy)) ?_;refine k.to hA fun xv h1 Q9 q=>q.to hA fun it h2 Qj q=>?_;obtain ⟨I,cI,Z,fr,led,rfl,S,RN,q⟩:=q;refine wpAny_newObj_type (wpAny_newFunctionEnv (fun y hy=>Pp (OZ QJ y hy)) (by intro y hy;simp at hy) (fun h₁ WI WJ=>?_) QZ);dsimp only at WI WJ ⊢;have S1:=S.push {cls:=.type "list",dict:=none,data:=.seq ([]:LV).toArray} (.pls []) wK
 have S2:St w B O Z ((h2.objs.size+1,.ns (names.map fun x=>(x,none)))::(h2.objs.size,.pls [])::fr::(I,cI)::led) h₁:=by
  rw [Heap.size_push] at WI WJ;refine S1.grow1 (fun b o e=>?_) (a:=h2.objs.size+1) (iG _ WI (fun p hp=>?_) ?_) (by rw [Heap.size_push];exact Pm _)
  ·refine (WJ.2 b (Nat.ne_of_lt ?_)).trans (Heap.get?_push_of_some _ e);have:=Heap.lt_size e;rw [Heap.size_push] at this;exact this
  ·obtain ⟨x,_,rfl⟩:=Pa hp;rfl
  ·rw [List.map_map];have:((fun p:Str×Option Value=>p.1)∘fun x=>(x,none))=id:=rfl;rw [this,List.map_id];exact RJ
 have S3:St w B O Z ((h2.objs.size+1,.ns (names.map fun x=>(x,none)))::(I,cI)::(h2.objs.size,.pls [])::fr::led) h₁:=S2.perm (.cons _ (List.perm_middle (l₁:=[_,_])));have X:=q _ _ _ S3;have hC:(h2.push {cls:=.type "list",dict:=none,data:=.seq ([]:LV).toArray}).objs.size=h2.objs.size+1:=Heap.size_push ..;have eE:({(newEnv scope (h2.objs.size+1) env.globals cl env.qual none .none (some env) env.builtins) with scope:=relabel scope env}:Env)=compEnvC scope cl (h2.objs.size+1) env:=rfl;rw [hC]
 have loop:∀ PS,codeAny (model PW w) A (.compLoop (.ListComp elt [⟨target,iter,ifs,0⟩] scope pos) 0 (.ref I) (.ref h2.objs.size) (compEnvC scope cl (h2.objs.size+1) env))
   (compPost (model PW w) A (fun U U=>False) use (fun v s'=>(s'.gens=g/\s'.drawn=d/\s'.os=os)/\Q v s'.heap) (.ref h2.objs.size) (h2.objs.size+1)) ⟨h₁,g,d,PS,os⟩:=fun PS=>by
  refine X.to hA fun f h' RW q=>?_;cases use with
  | none=>obtain ⟨Z,fr,led,ms,c,S,q⟩:=q;obtain ⟨f,hn,_⟩:=S.get 0 rfl;exact bw f hn (fun ZU hs=>aI (q _ (S.compOut hs)))
  | some u=>refine (show W PW w n (u (.ref h2.objs.size)) _ h' from q).to hA fun U h2 Sh q=>?_;obtain ⟨Z,fr,led,ms,c,S,q⟩:=q;obtain ⟨f,hn,_⟩:=S.get 0 rfl;exact bw f hn (fun ZU hs=>aI (q _ (S.compOut hs)))
 refine codeAny_compStart_list (loop _) ((RN h₁ (fun v h'=>v=.ref I/\h'=h₁) (S3.get 1 rfl) ⟨rfl,rfl⟩).to hA fun v h' PS q=>?_);obtain ⟨rfl,rfl⟩:=q;exact loop _
theorem t8 {it l:Addr}{i:Nat}:∀ h Q,ci w h it (.lit l i)->Q (.ref it) h->W PW w n (pyIter (.ref it)) Q h:=fun h Q hi q=>.mk fun A g d tk os hA=>wpAny_pyIter_listiter hi (aI q)
theorem zW {it:Addr}{x k t:Int}:∀ h Q,ci w h it (.rit x k t)->Q (.ref it) h->W PW w n (pyIter (.ref it)) Q h:=fun h Q hi q=>.mk fun A g d tk os hA=>wpAny_pyIter_rangeiter hi (aI q)
end
section
variable {w:World}{n:Nat}{env:Env}{h B:Heap}{O:aP}{Z:a8}{led:dy}
variable {t ta : Tok} {b it D Cc z TI i1 i2 l1 l2 T dx : Addr} {fr : Addr×an} {pos py : Pos} {k1 k2 i ep j : Nat} {value : Expr} {P7 : KV} {v : Value} {ys : Array Value} {ot : Obj} {c' : an}
theorem ym {u : Tok}{Q:VP}(q:∀ k,Q (.int (1000000000000000000) k) h):W PW w n (binaryOp .Pow (.int 10 t) (.int 18 u)) Q h:=.mk fun U U U U U U=>AutoIntOps.pow_4 OV OV OV OV (by decide +kernel) (aI (q _))
theorem FW {a b:Bool}{Q:VP}(q:Q (.bool (a==b)) h):W PW w n (compareOp .Eq (.bool a) (.bool b)) Q h:=.mk fun U U U U U U=>PyProof.Rows.eq_bool (aI q)
theorem yn (hs:(h.objs.size==sysModules)=false):ci w (h.push {cls:=.type "dict",data:=.dict #[]}) h.objs.size (.dct []):=⟨hs,Heap.DictOf.new h⟩
theorem ug{Q:VP}(S:St w B O Z (fr::led) h)(q:∀ d h',St w B O Z (fr::(d,.dct [])::led) h'->Q (.ref d) h'):W PW w n (eval (.Dict [] [] pos) env) Q h:=.mk fun A g d tk os hA=>wpAny_Dict_empty (aI (q _ _ (S.push1 _ _ (yn (S.nosys ll)))))
theorem Eh{k1 k2 k3:Str}{d1 d2 d3:Nat}{p1 p2 p3 : Pos}{e1 e2 e3:Expr}{Q:VP}(S:St w B O Z (fr::led) h)
  (q:∀ d h0,St w B O Z (fr::(d,.dct [])::led) h0->W PW w n (eval e1 env) (fun v1 h1=>W PW w n (eval e2 env) (fun v2 h2=>W PW w n (eval e3 env) (fun v3 h3=>∃ Z' i PM,St w B O Z' PM h3/\PM[i]? =some (d,.dct [])/\∀ h',St w B O Z' (PM.set i (d,.dct (merged [] [(k1,v1),(k2,v2),(k3,v3)]))) h'->Q (.ref d) h') h2) h1) h0):
  W PW w n (eval (.Dict [some (.Constant (.str k1) d1 p1),some (.Constant (.str k2) d2 p2),some (.Constant (.str k3) d3 p3)] [e1,e2,e3] pos) env) Q h:=.mk fun A g d tk os hA=>by refine wpAny_Dict_pairs (knd:=strKind PW w) (pairs:=[(eval (.Constant (.str k1) d1 p1) env,do let x <- eval e1 env;standAt pos;pure x),(eval (.Constant (.str k2) d2 p2) env,do let x <- eval e2 env;standAt pos;pure x),(eval (.Constant (.str k3) d3 p3) env,do let x <- eval e3 env;standAt pos;pure x)]) rfl (by simp) (by simp) ?_;have S1:=S.push1 {cls:=.type "dict",data:=.dict #[]} (.dct []) (yn (S.nosys ll));have X:=q _ _ S1;refine evalPairs_cons (wpAny_Constant_str ?_);refine Pe (X.to hA fun v1 h1 Q9 X=>Pe (wpAny_standAt (Pj ?_)));refine evalPairs_cons (wpAny_Constant_str ?_);refine Pe (X.to hA fun v2 h2 Qj X=>Pe (wpAny_standAt (Pj ?_)));refine evalPairs_cons (wpAny_Constant_str ?_);refine Pe (X.to hA fun v3 h3 RW X=>Pe (wpAny_standAt (Pj ?_)));refine evalPairs_nil ?_;refine fq X fun Z' i PM S3 e X=>?_;have D:=S3.get i e;exact iG [(k1,v1),(k2,v2),(k3,v3)] (qC (strKind_is _ _ _ _) rfl (strKind_is _ _ _ _) rfl (strKind_is _ _ _ _) ⟨rfl,OU⟩) D.2 (fun h' hd hs=>aI (X _ (S3.upd i e hs ⟨D.1,hd⟩)))
theorem Ei{l:Addr}{xs:LV}{Q:VP}(S:St w B O Z (fr::led) h)(hl:ci w h l (.lst xs))(hz:xs.length<=1000)(q:∀ a h',St w B O Z (fr::(a,.pls xs)::led) h'->Q (.ref a) h'):W PW w n (call (.type "list") [.ref l]) Q h:=.mk fun A g d tk os hA=>by refine B2 (hl:h.IsList l ⟨xs⟩) fun o ho hc m hd=>?_;exact call_list_seq l (.inl rfl) ho hc hd (fun h' c' hk hn=>aI (q _ _ ((S.grow1 hk (a:=h.objs.size) (c:=.pls xs) ⟨c',hn⟩ ll).swap))) (Pg hz (by rw [sizeLine_eq];exact cZ))
theorem LM {st : Expr}{p : Pos}{Q:VP}(S0:St w B O Z led h)
  (k:W PW w n (eval value env) (fun o h1=>W PW w n (eval st env) (fun vs h3=>∃ l xs t,o=.ref l/\ci w h3 l (.lst xs)/\xs.length<=1000/\vs=.int (-1) t/\∃ Z fr led,St w B O Z (fr::led) h3/\∀ a h',St w B O Z (fr::(a,.pls xs.reverse)::led) h'->Q (.ref a) h') h1) h)
  (ht:autoParam (∀ o r,letTemporaryGo value o r=pure ()) tac6):
  W PW w n (eval (.Subscript value (.Slice none none (some st) p) pos) env) Q h:=.mk fun A g d tk os hA=>by refine wpAny_Subscript_Slice_step (T:="list") list_getitem_lookup (k.to hA fun o h1 Q9 q=>wpAny_Slice (Pj (Pj ?_))) ht;refine q.to hA fun vs h3 RW q=>?_;obtain ⟨l,xs,t,rfl,hl,hz,rfl,Z,fr,led,S,q⟩:=q;have hl:h3.IsList l ⟨xs⟩:=hl;refine ⟨(hl.push _).typeIs,wpAny_getItem_list_slice (hl.push _) (Heap.IsSliceOf.new ..) .none .none (.int _ _) OV ?_ (Pg hz (by rw [sizeLine_eq];exact cZ))⟩;have S1:=S.grow (h':=h3.push {cls:=.type "slice",data:=.fields #[.none,.none,.int (-1) t]}) (fun b o e=>Heap.get?_push_of_some _ e);have:=S1.push1 {cls:=.type "list",data:=.seq (slicePick ⟨xs⟩ none none (some (-1)))} (.pls xs.reverse) ⟨0,by rw [krv_pick];exact Heap.get?_push_size _ rfl⟩;rw [Heap.size_push] at this ⊢;exact aI (q _ _ this)
theorem Ej{d:Addr}{Q:VP}(S:St w B O Z (fr::led) h)(hd:ci w h d (.dct P7))(q:∀ it ep h',ci w h' d (.dce P7 ep)->St w B O Z (fr::(it,.kit d 0 P7.length ep)::led) h'->Q (.ref it) h'):W PW w n (pyIter (.ref d)) Q h:=.mk fun A g d' tk os hA=>by refine oE hd.2.dictAt fun ep QU=>?_;refine wpAny_pyIter_dict hd.1 QU (aI (q _ ep _ ⟨hd.1,QU.push _⟩ (S.push1 _ _ (iG _ (Heap.get?_push_size _ rfl) rfl rfl))))
theorem Ek{d : Addr}{x:Str}{Q:Option Value->Heap->Prop}(S:St w B O Z (fr::(it,.kit d i P7.length ep)::led) h)(hd:ci w h d (.dce P7 ep))(hx:P7[i]? =some (x,v))
  (q:∀ t h',ci w h' d (.dce P7 ep)->St w B O Z (fr::(it,.kit d (i+1) P7.length ep)::led) h'->Q (some (.str x t)) h'):W PW w n (pyNext (.ref it)) Q h:=.mk fun A g d' tk os hA=>by
 have QP:d≠it:=by rintro rfl;refine d6 (S.get 1 rfl) fun o e1 c1 U=>?_;refine o4 hd fun U o2 U e2 c2 U=>?_;rw [e1] at e2;cases e2;have c3:=c2.1;rw [c1] at c3;exact absurd c3 OV
 refine wpAny_pyNext_dict_item (S.get 1 rfl) hd.2 hx fun key h' hk hi hs=>?_;refine oE (Value.isStrOf_shape hk) fun t PL=>?_;subst PL;exact aI (q _ _ (ci.of_eq (hs.2 d QP) hd) (S.upd 1 rfl hs hi))
theorem GX{d : Addr}{Q:Option Value->Heap->Prop}(S:St w B O Z (fr::(it,.kit d i P7.length ep)::led) h)(hd:ci w h d (.dce P7 ep))(hx:P7[i]? =none)
  (q:∀ h',St w B O Z (fr::led) h'->Q none h'):W PW w n (pyNext (.ref it)) Q h:=.mk fun A g d' tk os hA=>wpAny_pyNext_dict_end hA.2.2 (S.get 1 rfl) hd.2 hx fun h' hx=>aI (q h' (S.extBut hx))
theorem GY {f x:Value}{e:Expr}{rest:List Expr}{Q:VP}(S:St w B O Z led h)(k:W PW w n (spliced (backTo pos (starEach (e::rest) env))) (fun vs h1=>(KF w.params).In h1/\W PW w n (call f (x::vs)) Q h1) h)
  (hk:autoParam (keepIn (KF w.params) f=true) tac0) (T8:autoParam (cN e=true) tac4) (Sf:autoParam (rest.all cN=true) tac4):
  W PW w n (callWith pos f [x] (backTo pos (starEach (e::rest) env)) []) Q h:=FO S k hk T8 Sf
noncomputable abbrev LC (elt target iter:Expr)(ifs:List Expr)(scope:Scope)(pos:Pos):Expr:=.ListComp elt [⟨target,iter,ifs,0⟩] scope pos
structure ON (names:List Str)(scope:Scope)(env:Env)(iter:Expr)(cl:List (Str×Addr)):Prop where
 clos:closureFor scope env=pure cl
 nd:names.Nodup
 ok:(scope.names.all fun y=>decide (y.2≠.cell) && (decide (y.2=.local->scope.names.lookup y.1=some .local)))=true
 kind:scope.kind=.function
 fold:∀ x,foldedSetIterable iter env x=pure x
theorem zX {e:Expr}{elt target iter:Expr}{ifs:List Expr}{scope:Scope}{V4 : Pos}{y:Str}{Q:Flow->Heap->Prop}
  (k:W PW w n (comprehension (LC elt target iter ifs scope pos) scope env (firstIterPos [⟨target,iter,ifs,0⟩] pos) (newList []) false (eval iter env) (some (assign (.Name y py) env))) (fun U h=>Q .next h) h)
  (V5:autoParam (swapsWith (LC elt target iter ifs scope pos) (some (.Name y py)) V4.line env=pure true) tac0):
  W PW w n (exec (.Assign [.Name y py] (LC elt target iter ifs scope pos) V4) env) Q h:=.mk fun A g d tk os hA=>by rw [exec_Assign_Name_used _ _ _ _ V5];refine Pe (wpAny_standAt (Pe ?_));show wpAny _ A (do let _ <- comprehension (LC elt target iter ifs scope pos) scope env _ (newList []) false (eval iter env) (some (assign (.Name y py) env))) _ _ _;exact Pe (k.to hA fun U U U q=>Pj (Pj (aI q)))
theorem kj {Q:VP}{ms:List (Str×Option Value)}{c:an}(S:St w B O Z ((Cc,.ns ms)::(D,c)::fr::led) h)(q:∀ h',St w B O Z (fr::(D,c)::led) h'->Q (.ref D) h'):pH w n B O none Q D Cc h:=(⟨Z,fr,led,ms,c,S,q⟩)
theorem vw {Q:VP}{ms m:List (Str×Option Value)}{c:an}{y:Str}{v0:Option Value}(S:St w B O Z ((Cc,.ns ms)::(D,c)::(env.locals,.ns m)::led) h)(hj:m[j]? =some (y,v0))
  (q:∀ h',St w B O Z ((env.locals,.ns (m.set j (y,some (.ref D))))::(D,c)::led) h'->Q .none h') (ok:autoParam (rY env y .local=true) tac0):pH w n B O (some (assign (.Name y py) env)) Q D Cc h:=jw (yh S (i:=2) rfl hj (fun h' S=>⟨Z,_,_,_,_,S,q⟩) ok)
theorem ob:typeLookup (.type "zip") "__getattr__" =pure none:=by rw [typeLookup_type,builtinLookup_eq_fast];kernel_rfl
theorem se:typeLookup (.type "zip") "keys" =pure none:=am_miss_of_fast (by decide +kernel)
theorem kl:entryFor table "zip.__getattribute__" =some Builtin.«object.__getattribute__» :=entryFor_alias (id':="object.__getattribute__") (by kernel_rfl) (by decide +kernel) (by decide +kernel) (by kernel_rfl)
theorem Bj (a:Addr)(vs:Array Value)(name:Str)(u:Tok)(YD:typeLookup (.type "zip") name=pure none)(V6:(["__module__","__name__","__qualname__","__doc__","__annotations__"]:List Str).contains name=false)(V7:autoParam (name.length+100<=sizeLine) tac8):
  Meets (Builtin.«object.__getattribute__» ⟨[.ref a,.str name u],[]⟩) (fun A R s=>s.heap.get? a=some {cls:=.type "zip",dict:=none,data:=.fields vs,slots:= #[]}/\raisesAttr (.ref a) name A R s):=
 Meets.of_wp fun prog w A R s hs=>by
  obtain ⟨hp,g,d,tk,os⟩:=s;refine oA hs fun hx hs=>?_;have hT:(⟨hp,g,d,tk,os⟩:Shared).TypeIs (.ref a) "zip" :=bw _ hx rfl;unfold Builtin.«object.__getattribute__»
  repeat (any_goals (first | assumption | wp_step))
  rw [V6,if_neg Bool.false_ne_true]
  repeat (any_goals (first | assumption | wp_step))
  exact wpAny_raiseAttrError hs.1 hs.2 (attrMsg_fits (by decide +kernel) V7)
variable {prog:Program}{A:Around}{E:Value->Shared->Prop}
theorem wT {a:Addr}{vs:Array Value}{s:Shared}{Q:Option Value->Shared->Prop}(hx:s.heap.get? a=some {cls:=.type "zip",dict:=none,data:=.fields vs,slots:= #[]})(hA:A.handled=none)
  (h:∀ h' tk,(∀ b o,s.heap.get? b=some o->h'.get? b=some o)->Q none {s with heap:=h',toks:=tk}):wpAny (model prog w) A (getAttr? (.ref a) "keys") Q E s:=by
 obtain ⟨hp,g,d,tk,os⟩:=s;have hT:∀ PS,(⟨hp,g,d,PS,os⟩:Shared).TypeIs (.ref a) "zip" :=fun U=>bw _ hx rfl;have f1:=sub_AttributeError;have f3:=F.slot_zip_getattribute.lookup;have f4:=F.slot_zip_getattribute.bind (.ref a);have f5:=ob;unfold getAttr? getAttrBy? getAttrBy
 repeat (any_goals (first | assumption | exact hT _ | ((with_reducible show wpAny _ _ (call (Value.builtin "zip.__getattribute__") _ _) _ _ _);refine call_meets F.slot_zip_getattribute (hT _) kl (F.args_zip_getattribute_2 _ _) (Bj a vs "keys" _ se (by decide +kernel)) (cF hx hA (fun h' PS e RK=>?_))) | wp_step))
 refine kC RK.there fun t' u' he=>?_;show wpAny _ _ (getattributeRaised _ _ _ _ _ _ _) _ _ _;unfold getattributeRaised
 repeat (any_goals (first | assumption | wp_step))
 exact h _ _ RK.keeps
variable {s:Shared}
noncomputable abbrev fV (f0:Value)(f1:Bool)(TI TO:Addr):Obj:={cls:=.type "zip",dict:=none,data:=.fields #[f0,.bool f1,.bool false,.ref TI,.ref TO],slots:= #[]}
theorem zY {TO : Addr}{xs : Array Value}{x y:Value}{Q:Value->Shared->Prop}(D:ZipApart z TI TO i1 i2 l1 l2)
  (hz:s.heap.get? z=some (fV (rawInt T) false TI TO)) (Si:IsPair s.heap TI (.ref i1) (.ref i2)) (hT:s.heap.get? T=some ot)
  (h1:s.heap.IsListIter i1 l1 k1) (h2:s.heap.IsListIter i2 l2 k2) (PY:s.heap.IsList l1 xs) (Qh:s.heap.IsList l2 ys) (hx:xs[k1]? =some x) (hy:ys[k2]? =some y)
  (hQ:∀ h',h'.get? z=some (fV (rawInt T) true TI TO)->h'.IsListIter i1 l1 (k1+1)->h'.IsListIter i2 l2 (k2+1)->IsPair h' s.heap.objs.size x y->h'.objs.size=s.heap.objs.size+1->
   (∀ c o,c≠z->c≠i1->c≠i2->s.heap.get? c=some o->h'.get? c=some o)->Q (.ref s.heap.objs.size) {s with heap:=h'}):
  wpAny (model prog w) A (Builtin.«zip.__next__» ⟨[.ref z],[]⟩) (fun fin s'=>∃ v,fin=.done (.ret v)/\Q v s') E s:=by
 show wpAny _ _ (field (.ref z) 2 >>= _) _ _ _;refine Pe (wpAny_field hz rfl (x:=.bool false) rfl ?_);show wpAny _ _ (field (.ref z) 3 >>= _) _ _ _;refine Pe (wpAny_field hz rfl (x:=.ref TI) rfl ?_);refine Pe (wpAny_seqItems Si rfl ?_);show wpAny _ _ (Builtin.SmallTypes.ownedTupleIsFree (.ref z) >>= _) _ _ _;refine Pe ?_;unfold Builtin.SmallTypes.ownedTupleIsFree;refine Pe (wpAny_field hz rfl (x:=rawInt T) rfl ?_);show wpAny _ _ (loadIfAlive (T:Int).toNat >>= _) _ _ _;refine Pe (kdx_alive (o:=ot) (by simpa using hT) ?_);show wpAny _ _ (field (.ref z) 1 >>= _) _ _ _;refine Pe (wpAny_field hz rfl (x:=.bool false) rfl ?_);rw [if_pos OV];refine Pe (wpAny_setField_rec hz (by simp) fun h₁ WK Sg=>Pj ?_);replace WK:h₁.get? z=some (fV (rawInt T) true TI TO):=WK;rw [if_neg Bool.false_ne_true];refine Pe ?_;rw [<- Array.forIn_toList,List.forIn_cons];refine Pe (Pe (wpAny_holding ?_));show wpAny _ _ (Builtin.SmallTypes.nextOf (.ref i1) >>= _) _ _ _;refine Pe (wpAny_nextOf_list_item (h1.extBut Sg.extBut D.i1z) (PY.extBut Sg.extBut D.l1z) hx fun h₂ ZV Tb=>Pj (Pj ?_));refine Pe (Pe (wpAny_holding ?_));show wpAny _ _ (Builtin.SmallTypes.nextOf (.ref i2) >>= _) _ _ _;refine Pe (wpAny_nextOf_list_item ((h2.extBut Sg.extBut D.i2z).extBut Tb.extBut D.i12.symm) ((Qh.extBut Sg.extBut D.l2z).extBut Tb.extBut D.l2i1) hy fun h₃ ZW Wa=>Pj (Pj (Pj ?_)));refine Pe (wpAny_newTuple (Pj (bw _ rfl ?_)) (by show 2<=sizeLine;rw [sizeLine_eq];exact cZ));have V7:h₃.objs.size=s.heap.objs.size:=by rw [Wa.1,Tb.1,Sg.1]
 have ZX:h₃.get? z=some (fV (rawInt T) true TI TO):=Wa.extBut _ _ D.i2z.symm (Tb.extBut _ _ D.i1z.symm WK);have ZY:h₃.IsListIter i1 l1 (k1+1):=ZV.extBut Wa.extBut D.i12;have up:∀ c o,h₃.get? c=some o->(h₃.push {cls:=.type "tuple",data:=.seq #[x,y]}).get? c=some o:=fun c o e=>Heap.get?_push_of_some _ e;show Q (.ref h₃.objs.size) _;have key:=hQ (h₃.push {cls:=.type "tuple",data:=.seq #[x,y]}) (up _ _ ZX) (ZY.at fun o e=>up _ o e) (ZW.at fun o e=>up _ o e) (by rw [<- V7];exact Heap.get?_push_size _ rfl) (by rw [Heap.size_push,V7]) fun c o c1 c2 c3 e=>up _ _ (Wa.extBut _ _ c3 (Tb.extBut _ _ c2 (Sg.extBut _ _ c1 e)));rw [<- V7] at key;exact key
theorem Bk {TO : Addr}{xs:Array Value}{Q:Fin->Shared->Prop}(hh:A.handled=none)
  (hz:s.heap.get? z=some (fV (rawInt T) true TI TO)) (Si:IsPair s.heap TI (.ref i1) (.ref i2)) (hT:s.heap.get? T=some ot)
  (h1:s.heap.IsListIter i1 l1 k1) (PY:s.heap.IsList l1 xs) (hx:xs[k1]? =none)
  (hE:∀ h' e,Heap.ExtBut i1 s.heap h'->(∃ o,h'.get? e=some o/\o.cls=.type "StopIteration")->E (.ref e) {s with heap:=h'}):
  wpAny (model prog w) A (Builtin.«zip.__next__» ⟨[.ref z],[]⟩) Q E s:=by show wpAny _ _ (field (.ref z) 2 >>= _) _ _ _;refine Pe (wpAny_field hz rfl (x:=.bool false) rfl ?_);show wpAny _ _ (field (.ref z) 3 >>= _) _ _ _;refine Pe (wpAny_field hz rfl (x:=.ref TI) rfl ?_);refine Pe (wpAny_seqItems Si rfl ?_);show wpAny _ _ (Builtin.SmallTypes.ownedTupleIsFree (.ref z) >>= _) _ _ _;refine Pe ?_;unfold Builtin.SmallTypes.ownedTupleIsFree;refine Pe (wpAny_field hz rfl (x:=rawInt T) rfl ?_);show wpAny _ _ (loadIfAlive (T:Int).toNat >>= _) _ _ _;refine Pe (kdx_alive (o:=ot) (by simpa using hT) ?_);show wpAny _ _ (field (.ref z) 1 >>= _) _ _ _;refine Pe (wpAny_field hz rfl (x:=.bool true) rfl ?_);rw [if_neg OV];refine Pj ?_;rw [if_neg Bool.false_ne_true];refine Pe ?_;rw [<- Array.forIn_toList,List.forIn_cons];refine Pe (Pe (wpAny_holding ?_));show wpAny _ _ (Builtin.SmallTypes.nextOf (.ref i1) >>= _) _ _ _;exact Pe (wpAny_nextOf_list_end hh h1 PY hx fun h₂ e Tb he=>hE h₂ e Tb he)
theorem vy:entryFor table "dict.update.loop" =some Builtin.«dict.update.loop» :=entryFor_of_tree (by kernel_rfl)
theorem n8:plainId "dict.update.loop" =true:=by decide +kernel
variable {R:Result->Shared->Prop}
theorem yo {d : Addr}{i:Int}{s:Shared}{a:Str}{x:Value}(hz:P7.length<=1000)
  (hn:wpAny (model PW w) A.in1 (pyNext (.ref z)) (fun r s₁=>∃ T,r=some (.ref T)/\IsPair s₁.heap T (.str a ta) x/\s₁.heap.DictOf (PySem.strKind PW w) d P7/\∀ h' tk,h'.DictOf (PySem.strKind PW w) d (stored P7 a x)->Heap.SameBut d s₁.heap h'->
   codeAny (model PW w) A (.builtin "dict.update.loop" ⟨[.ref d,.ref z,rawInt (i+1),.none],[]⟩) R {s₁ with heap:=h',toks:=tk}) (fun e s'=>R (.error e) s') s):
  codeAny (model PW w) A (.builtin "dict.update.loop" ⟨[.ref d,.ref z,.int i t,.none],[]⟩) R s:=by refine codeAny_builtin vy ?_;rw [Around.under_plainId n8 _];show wpAny _ A.in1 (pyNext (.ref z) >>= _) _ _ s;refine Pe (wpAny_mono hn (fun r s₁ q=>?_) fun U U e=>e);obtain ⟨T,rfl,hT,hd,q⟩:=q;refine Pe (wpAny_holding ?_);refine Pe (wpAny_tryCatch ?_);unfold Builtin.Dict.pairItems;refine Pe (wpAny_typeOf (T:="tuple") (bw _ hT rfl) ?_);rw [if_pos OV];refine Pe (wpAny_seqItems hT rfl (Pj ?_));refine wpAny_holding (wpAny_dictSet_pairs (knd:=PySem.strKind PW w) (strKind_is PW w a ta) hd (fun h' Q8 Qe=>Pj ⟨plainId_quiet n8 _,q h' _ Q8 Qe⟩) (Pg hz (by rw [sizeLine_eq];exact cZ)))
theorem El {d : Addr}{i:Int}{s:Shared}(hn:wpAny (model PW w) A.in1 (pyNext (.ref z)) (fun r s₁=>r=none/\R (.ok (.ret .none)) s₁) (fun e s'=>R (.error e) s') s):
  codeAny (model PW w) A (.builtin "dict.update.loop" ⟨[.ref d,.ref z,.int i t,.none],[]⟩) R s:=by refine codeAny_builtin vy ?_;rw [Around.under_plainId n8 _];show wpAny _ A.in1 (pyNext (.ref z) >>= _) _ _ s;refine Pe (wpAny_mono hn (fun r s₁ q=>?_) fun U U e=>e);obtain ⟨rfl,q⟩:=q;exact Pe (Pj (Pj q))
theorem Bl {E:Value->Shared->Prop}{s:Shared}{TO : Addr}{xs : Array Value}{x y:Value}{Q:Option Value->Shared->Prop}(D:ZipApart z TI TO i1 i2 l1 l2)
  (hz:s.heap.get? z=some (fV (rawInt T) false TI TO)) (Si:IsPair s.heap TI (.ref i1) (.ref i2)) (hT:s.heap.get? T=some ot)
  (h1:s.heap.IsListIter i1 l1 k1) (h2:s.heap.IsListIter i2 l2 k2) (PY:s.heap.IsList l1 xs) (Qh:s.heap.IsList l2 ys) (hx:xs[k1]? =some x) (hy:ys[k2]? =some y)
  (hQ:∀ h',h'.get? z=some (fV (rawInt T) true TI TO)->h'.IsListIter i1 l1 (k1+1)->h'.IsListIter i2 l2 (k2+1)->IsPair h' s.heap.objs.size x y->h'.objs.size=s.heap.objs.size+1->
   (∀ c o,c≠z->c≠i1->c≠i2->s.heap.get? c=some o->h'.get? c=some o)->Q (some (.ref s.heap.objs.size)) {s with heap:=h'}):
  wpAny (model PW w) A (pyNext (.ref z)) Q E s:=by
 have V8:s.TypeIs (.ref z) "zip" :=bw _ hz rfl;unfold pyNext
 exact Pe (wpAny_attempt (wpAny_callSpecial?_slot (name:=Str.ofString "__next__") V8 F.slot_zip_next
  (wpAny_call_entry F.slot_zip_next V8 F.entry_zip_next
   (zY D hz Si hT h1 h2 PY Qh hx hy fun h' a1 a2 a3 a4 a5 a6=>Pj (hQ h' a1 a2 a3 a4 a5 a6)) (F.args_zip_next_1 _))))
theorem Em {E:Value->Shared->Prop}{s:Shared}{TO : Addr}{xs:Array Value}{Q:Option Value->Shared->Prop}(hh:A.handled=none)
  (hz:s.heap.get? z=some (fV (rawInt T) true TI TO)) (Si:IsPair s.heap TI (.ref i1) (.ref i2)) (hT:s.heap.get? T=some ot)
  (h1:s.heap.IsListIter i1 l1 k1) (PY:s.heap.IsList l1 xs) (hx:xs[k1]? =none) (hQ:∀ h',Heap.ExtBut i1 s.heap h'->Q none {s with heap:=h'}):
  wpAny (model PW w) A (pyNext (.ref z)) Q E s:=by
 have V8:s.TypeIs (.ref z) "zip" :=bw _ hz rfl;unfold pyNext
 refine Pe (wpAny_attempt (wpAny_callSpecial?_slot (name:=Str.ofString "__next__") V8 F.slot_zip_next
  (wpAny_call_entry F.slot_zip_next V8 F.entry_zip_next (Bk hh hz Si hT h1 PY hx fun h' e hk he=>?_) (F.args_zip_next_1 _))))
 refine bM he fun o ho hc=>?_;refine Pe (wpAny_isInstance (T:="StopIteration") (b:=true) (bw o ho hc) isSubtype_stop ?_);exact Pj (hQ _ hk)
theorem wU {α:Type}{l:List α}{p:α}(e:l[i]? =some p):(p::l.eraseIdx i).Perm l:=by
 induction l generalizing i with
 | nil=>exact nS e
 | cons a l ih=>cases i with
  | zero=>obtain rfl:=Pd e;exact .refl _
  | succ i=>exact (List.Perm.swap a p _).trans ((ih e).cons a)
theorem St.front{p:Addr×an}(S:St w B O Z led h)(e:led[i]? =some p):St w B O Z (p::led.eraseIdx i) h:=S.perm (wU e).symm
noncomputable abbrev eu (a b:Value):Obj:={cls:=.type "tuple",data:=.seq #[a,b]}
theorem LN{xs ys:LV}{Q:VP}(S:St w B O Z (fr::led) h)(h1:ci w h l1 (.lst xs))(h2:ci w h l2 (.lst ys))
  (q:∀ z TI TO i1 i2 h',St w B O Z (fr::(z,.obj (fV .none false TI TO))::(TI,.obj (eu (.ref i1) (.ref i2)))::(TO,.obj (eu .none .none))::(i1,.lit l1 0)::(i2,.lit l2 0)::led) h'->Q (.ref z) h'):
  W PW w n (call (.type "zip") [.ref l1,.ref l2]) Q h:=.mk fun A g d tk os hA=>by
 refine call_zip_2 (xs:=⟨xs⟩) (ys:=⟨ys⟩) h1 h2 fun h' a1 a2 a3 a4 a5 a6 hk=>aI (q (h.objs.size+4) (h.objs.size+2) (h.objs.size+3) h.objs.size (h.objs.size+1) h' ?_)
 have S1:=S.growN hk (new:=[(h.objs.size+4,.obj (fV .none false (h.objs.size+2) (h.objs.size+3))),(h.objs.size+2,.obj (eu (.ref h.objs.size) (.ref (h.objs.size+1)))),(h.objs.size+3,.obj (eu .none .none)),(h.objs.size,.lit l1 0),(h.objs.size+1,.lit l2 0)]) (fun p hp=>by
  simp only [List.mem_cons,List.not_mem_nil,or_false] at hp;rcases hp with rfl | rfl | rfl | rfl | rfl
  ·exact ⟨a1,by show _<=h.objs.size+4;exact cZ⟩
  ·exact ⟨a2,by show _<=h.objs.size+2;exact cZ⟩
  ·exact ⟨a3,by show _<=h.objs.size+3;exact cZ⟩
  ·exact ⟨a4,Pm _⟩
  ·exact ⟨a5,by show _<=h.objs.size+1;exact cZ⟩) (by simp)
 exact (S1.front (i:=5) rfl)
theorem St.extMany {h':Heap}{cs:dy}(S:St w B O Z (cs++led) h)(x:∀ b o,(∀ p∈cs,b≠p.1)->h.get? b=some o->h'.get? b=some o):St w B O Z led h':=by
 have nd:=S.nd;rw [List.map_append,List.nodup_append] at nd;have off:∀ p∈cs,Z p.1=none/\(O.mod p.1\/O.h.get? p.1=none)/\B.get? p.1=none:=fun p hp=>(S.cells p (List.mem_append_left _ hp)).2;refine ⟨S.base,fun b o q=>x b o (fun p hp r=>?_) (S.keepB b o q),fun b c q=>(S.z q).keeps fun o=>x b o (fun p hp r=>?_),fun p hp=>?_,nd.2.1,⟨S.hist.ext,S.hist.new,fun b o q m=>?_⟩⟩
 ·have:=(off p hp).2.2;rw [<- r,q] at this;exact nO this
 ·have:=(off p hp).1;rw [<- r,q] at this;exact nO this
 ·refine oA (S.cells p (List.mem_append_right _ hp)) fun h1 h2=>?_;exact ⟨h1.keeps fun o=>x p.1 o fun p' Sf r=>nd.2.2 _ (Pb (bw p' Sf rfl)) _ (Pb (bw p hp rfl)) r.symm,h2⟩
 ·refine x b o (fun p hp r=>?_) (S.hist.keep b o q m);subst r;rcases (off p hp).2.1 with hm | hm
  ·exact m hm
  ·rw [q] at hm;exact nO hm
theorem St.addBack {h':Heap}{a:Addr}{c:an}(S:St w B O Z led h')(x:ci w h' a c)(hz:Z a=none/\(O.mod a\/O.h.get? a=none)/\B.get? a=none)(hn:a∉led.map (·.1)):St w B O Z ((a,c)::led) h':=
 ⟨S.base,S.keepB,S.sub,fun p hp=>by
  rcases OY hp with rfl | hp
  ·exact ⟨x,hz⟩
  ·exact S.cells p hp,List.nodup_cons.mpr ⟨hn,S.nd⟩,S.hist⟩
theorem GZ {h:Heap}{a : Addr}{o o':Obj}(e:h.get? a=some o)(e':h.get? b=some o')(hc:o.cls≠o'.cls):a≠b:=fun r=>by subst r;rw [e] at e';cases e';exact hc rfl
theorem En{TO : Addr}{a b:Str}{tb : Tok}{x y:Value}{Q:VP}(S:St w B O Z (fr::(z,.obj (fV .none false TI TO))::(TI,.obj (eu (.ref i1) (.ref i2)))::(TO,.obj (eu .none .none))::(i1,.lit l1 0)::(i2,.lit l2 0)::led) h)
  (h1:ci w h l1 (.lst [.str a ta,.str b tb])) (h2:ci w h l2 (.lst [x,y])) (q:∀ d h',St w B O Z (fr::(d,.dct (merged [] [(a,x),(b,y)]))::led) h'->Q (.ref d) h'):
  W PW w n (call (.type "dict") [.ref z]) Q h:=.mk fun A g dr tk os hA=>by
 have hz:IsZip h z TI TO .none:=S.get 1 rfl;have Si:IsPair h TI (.ref i1) (.ref i2):=S.get 2 rfl;have Wb:IsPair h TO .none .none:=S.get 3 rfl;have Tc:h.IsListIter i1 l1 0:=S.get 4 rfl;have UE:h.IsListIter i2 l2 0:=S.get 5 rfl;have PY:h.IsList l1 ⟨[.str a ta,.str b tb]⟩:=h1;have Qh:h.IsList l2 ⟨[x,y]⟩:=h2;have ne:=fun {i j:Nat} {a b:Addr} {c d:an} (e:_[i]? =some (a,c)) (e':_[j]? =some (b,d)) (QT:i≠j)=>vj S.nd e e' QT;have ln:∀ {l:Addr} {xs:Array Value} {c:Addr} {o:Obj},h.IsList l xs->h.get? c=some o->o.cls≠.type "list" ->l≠c:=fun U1 e' hn=>d6 U1 fun o' e hc U=>GZ e e' (by rw [hc];exact fun r=>hn r.symm);refine d6 (id Tc) fun oi1 Tv YE U=>?_;refine d6 (id UE) fun oi2 UG YF U=>?_;have D:ZipApart z TI TO i1 i2 l1 l2:=⟨ne (i:=2) (j:=1) rfl rfl OV,ne (i:=3) (j:=1) rfl rfl OV,ne (i:=4) (j:=1) rfl rfl OV,ne (i:=5) (j:=1) rfl rfl OV,ne (i:=2) (j:=3) rfl rfl OV,ne (i:=2) (j:=4) rfl rfl OV,ne (i:=2) (j:=5) rfl rfl OV,ne (i:=3) (j:=4) rfl rfl OV,ne (i:=3) (j:=5) rfl rfl OV,ne (i:=4) (j:=5) rfl rfl OV,ln PY hz (show Value.type "zip" ≠Value.type "list" by decide),ln PY Wb (show Value.type "tuple" ≠Value.type "list" by decide),ln PY Tv (by rw [YE];decide),ln PY UG (by rw [YF];decide),ln Qh hz (show Value.type "zip" ≠Value.type "list" by decide),ln Qh Wb (show Value.type "tuple" ≠Value.type "list" by decide),ln Qh Tv (by rw [YE];decide),ln Qh UG (by rw [YF];decide)⟩
 refine callType_codes (Q₁:=fun obj s₁=>obj=.ref h.objs.size/\s₁={(⟨h,g,dr,tk,os⟩:Shared) with heap:=h.push {cls:=.type "dict",data:=.dict #[]}}) F.kt_called_dict (F.kt_typeCall_dict_1 _) F.entry_dict_init (kt_code_dict_new _ ⟨rfl,rfl⟩) ?_;rintro obj s₁ ⟨rfl,rfl⟩;have RV:(h.push {cls:=.type "dict",data:=.dict #[]}).DictOf (PySem.strKind PW w) h.objs.size []:=Heap.DictOf.new h;have up1:∀ c o,h.get? c=some o->(h.push {cls:=.type "dict",data:=.dict #[]}).get? c=some o:=fun c o e=>Heap.get?_push_of_some _ e;refine cF RV.typeIs (F.args_dict_init_2 _ _) ?_;unfold Builtin.«dict.__init__»;refine Pe ?_;unfold Builtin.Dict.selfAndRest;refine Pe (wpAny_notOrdered_dict RV.typeIs ?_);show wpAny _ _ (pure (h.objs.size,[Value.ref z])) _ _ _;refine Pj ?_;show wpAny _ _ (Builtin.Dict.updateFrom "dict.__init__" h.objs.size (.ref z) [] .none) _ _ _;unfold Builtin.Dict.updateFrom;refine Pe (wpAny_typeOf (T:="zip") (bw _ (up1 _ _ hz) rfl) ?_);rw [if_pos OV];refine Pe (wT (up1 _ _ hz) hA.2.2 fun h2 Qj PG=>?_);rw [if_pos OV];refine Pe (wpAny_rule ?_);have Rz:∀ c o,h.get? c=some o->h2.get? c=some o:=fun c o e=>PG c o (up1 c o e);have hd2:h2.DictOf (PySem.strKind PW w) h.objs.size []:=by refine oE RV.dictAt fun ep QU=>?_;exact (QU.at' fun o e=>PG _ o e).dictOf
 have Qq:∀ {c o},h.get? c=some o->c≠h.objs.size:=fun e=>Nat.ne_of_lt (Heap.lt_size e);refine Pe (wpAny_pyIter_zip (Rz _ _ hz) (Pj ⟨plainId_quiet n8 _,?_⟩));refine yo (a:=a) (ta:=ta) (x:=x) (P7:=[]) (by simp) (wpAny_pyNext_zip_item D (Rz _ _ hz) (Rz _ _ Si) (Rz _ _ Wb) (Tc.at fun o e=>Rz _ o e) (UE.at fun o e=>Rz _ o e) (PY.at fun o e=>Rz _ o e) (Qh.at fun o e=>Rz _ o e) (x:=.str a ta) (y:=x) rfl rfl fun h3 b1 b2 b3 b4 b5 b6 RP=>?_);have Tw:∀ {c o},h.get? c=some o->h.objs.size≠c:=fun e=>(Qq e).symm
 have ZZ:h3.DictOf (PySem.strKind PW w) h.objs.size []:=by refine oE hd2.dictAt fun ep QU=>?_;exact (QU.at' fun o e=>RP _ o (Tw hz) (Tw Wb) (Tw Tv) (Tw UG) e).dictOf
 refine mW _ rfl b5 ZZ (fun h4 Sh RA Rl=>?_)
 have YG:h2.objs.size≠h.objs.size:=by have:=hd2.dictAt.choose_spec.lt_size;exact Nat.ne_of_gt this
 have Tx:∀ c o,c≠h.objs.size->h3.get? c=some o->h4.get? c=some o:=fun c o hc e=>(Rl.2 c hc).trans e;have Td:=Tx _ _ (Qq hz) b1;have V9:=Tx _ _ (Qq Si) (RP _ _ D.TIz D.TITO D.TIi1 D.TIi2 (Rz _ _ Si));have YH:=Tx _ _ YG b5;have YI:l1≠h.objs.size:=by refine bM PY fun o e U=>?_;exact Qq e
 have l2d:l2≠h.objs.size:=by refine bM Qh fun o e U=>?_;exact Qq e
 have Va:h4.IsList l1 _:=PY.at fun o e=>Tx _ o YI (RP _ o D.l1z D.l1TO D.l1i1 D.l1i2 (Rz _ o e));have WL:h4.IsList l2 _:=Qh.at fun o e=>Tx _ o l2d (RP _ o D.l2z D.l2TO D.l2i1 D.l2i2 (Rz _ o e));refine yo (a:=b) (ta:=tb) (x:=y) (P7:=stored [] a x) (by have:=stored_length_le (K:=Str) [] a x;simp only [List.length_nil] at this;exact aJ this) (Bl D Td V9 YH (b3.at fun o e=>Tx _ o (Qq Tv) e) (b4.at fun o e=>Tx _ o (Qq UG) e) Va WL (x:=.str b tb) (y:=y) rfl rfl fun h5 c1 c2 c3 c4 c5 QA=>?_)
 have hd5:h5.DictOf (PySem.strKind PW w) h.objs.size (stored [] a x):=by refine oE RA.dictAt fun ep QU=>?_;exact (QU.at' fun o e=>QA _ o (Tw hz) (Tw Tv) (Tw UG) e).dictOf
 have lt4:h.objs.size < h4.objs.size:=RA.dictAt.choose_spec.lt_size;refine mW _ rfl c4 hd5 (fun h6 SQ hd6 U2=>?_);have UH:∀ c o,c≠h.objs.size->h5.get? c=some o->h6.get? c=some o:=fun c o hc e=>(U2.2 c hc).trans e;have Vb:h6.IsList l1 _:=Va.at fun o e=>UH _ o YI (QA _ o D.l1z D.l1i1 D.l1i2 e);have WM:h2.objs.size≠z/\h2.objs.size≠i1/\h2.objs.size≠i2:=cF (Nat.ne_of_gt (Heap.lt_size (Rz _ _ hz))) (Nat.ne_of_gt (Heap.lt_size (Rz _ _ Tv))) (Nat.ne_of_gt (Heap.lt_size (Rz _ _ UG)));refine El (Em hA.2.2 (UH _ _ (Qq hz) c1) (UH _ _ (Qq Si) (QA _ _ D.TIz D.TIi1 D.TIi2 V9)) (UH _ _ YG (QA _ _ WM.1 WM.2.1 WM.2.2 YH)) (c2.at fun o e=>UH _ o (Qq Tv) e) Vb rfl fun h7 YJ=>⟨rfl,?_⟩)
 have hd7:h7.DictOf (PySem.strKind PW w) h.objs.size (stored (stored [] a x) b y):=by refine oE hd6.dictAt fun ep QU=>?_;exact (QU.at' fun o e=>YJ _ o (Tw Tv) e).dictOf
 refine ⟨rfl,aI (q _ _ ?_)⟩
 have WN:∀ c o,c≠z->c≠TO->c≠i1->c≠i2->h.get? c=some o->h7.get? c=some o:=fun c o e1 e2 e3 e4 e=>YJ _ o e3 (UH _ o (Qq e) (QA _ o e1 e3 e4 (Tx _ o (Qq e) (RP _ o e1 e2 e3 e4 (Rz _ o e)))))
 have S1:=S.perm (List.perm_middle (a:=fr) (l₁:=[_,_,_,_,_])).symm
 have S2:=S1.extMany (h':=h7) fun c o hc e=>by simp only [List.mem_cons,List.not_mem_nil,or_false,forall_eq_or_imp,forall_eq] at hc;exact WN c o hc.1 hc.2.2.1 hc.2.2.2.1 hc.2.2.2.2 e
 have hN:h.objs.size∉(fr::led).map (·.1):=fun hm=>by refine bM (Pa hm) fun p hp e=>?_;have:=(S1.cells p (List.mem_append_right _ hp)).1.lt;rw [e] at this;exact Nat.lt_irrefl _ this
 exact (S2.addBack (c:=.dct (merged [] [(a,x),(b,y)])) ⟨S.nosys ll,hd7⟩ (cF (S.zfresh ll) (S.ofresh ll) (S.bfresh ll)) hN).swap
theorem zZ {d:Addr}{Q:Bool->Shared->Prop}(hT:s.TypeIs (.ref d) "dict")(h:Q false s):wpAny (model prog w) A (Builtin.List.listLengthHint (.ref d)) Q E s:=by
 unfold Builtin.List.listLengthHint;refine Pe (wpAny_specialOf hT F.slot_dict_len.lookup ?_);generalize YK:("dict.__len__" :String)=id0
 wp_delta
 rw [show splitId id0=some ("dict","__len__") from by subst YK;decide +kernel];subst YK;refine Pe (wpAny_isInstance (T:="dict") (b:=true) hT (by rw [isSubtype_type];kernel_rfl) ?_);refine wpAny_ite_split (fun Wc=>absurd Wc OV) (fun U=>?_);refine wpAny_ite_split (fun Wc=>?_) (fun Wc=>absurd (by decide +kernel) Wc);refine Pe (wpAny_typeOf hT ?_);exact Pj h
theorem vz {R:Result->Shared->Prop}{d:Addr}(hh:A.handled=none)(WO:(d==sysModules)=false)(hd:s.heap.DictOf (PySem.strKind prog w) d P7)(hz:P7.length<=1000)(S:Addr)(res:Value)(c₀:Nat)(hS:s.heap.get? S=some {cls:=.type "list",data:=.seq #[] c₀})
  (hR:∀ h' tk QK c',(∀ b o,b≠S->s.heap.get? b=some o->h'.get? b=some o)->h'.get? S=some {cls:=.type "list",dict:=none,data:=.seq QK c',slots:= #[]}->
   ItemsOf (fun i v=>∃ k x,P7[i]? =some (k,x)/\(PySem.strKind prog w).is k v=true) QK P7.length->R (.ok (.ret res)) {s with heap:=h',toks:=tk}):
  wpAny (model prog w) A.in1 (Builtin.List.listExtendWith (.ref S) (.ref d) res)
   (fun fin s'=>match fin with | .done f=>R (.ok f) s' | .again c'=>c'.quiet=true/\codeAny (model prog w) A c' R s') (fun e s'=>R (.error e) s') s:=by
 refine oE hd.dictAt fun ep QU=>?_;have hTd:s.TypeIs (.ref d) "dict" :=hd.typeIs
 have WQ:S≠d:=fun e=>by subst e;refine et QU fun o es ho hc U=>?_;clear QU;rw [hS] at ho;cases ho;exact absurd (show Value.type "list" =Value.type "dict" from hc.1) OV
 have WR:S < s.heap.objs.size:=Heap.lt_size hS;have WS:S≠s.heap.objs.size:=Nat.ne_of_lt WR;have Qq:d < s.heap.objs.size:=QU.lt_size;have hdI:d≠s.heap.objs.size:=Nat.ne_of_lt Qq
 have hSf:S∉[s.heap.objs.size,d]:=fun hm=>by simp only [List.mem_cons,List.not_mem_nil,or_false] at hm;exact hm.elim WS WQ
 have Wk:=(Walks.dictKeys (prog:=prog) (w:=w) (knd:=PySem.strKind prog w) (A:=A.in1) hh s.heap.objs.size d hdI P7 ep).toS
 have key:∀ (h:Heap) (c₁ tk:Nat),h.IsKeyIter s.heap.objs.size d 0 P7.length ep->(∀ b o,b≠S->s.heap.get? b=some o->h.get? b=some o)->
   h.get? S=some {cls:=.type "list",data:=.seq #[] c₁}->codeAny (model prog w) A (.builtin "list.extend.loop" ⟨[.ref S,.ref s.heap.objs.size,res],[]⟩) R {s with heap:=h,toks:=tk}:=by
  intro h c₁ tk hit hk Vc;have WT:h.DictAt (PySem.strKind prog w) d P7 ep:=QU.at' fun o e=>hk d o (Ne.symm WQ) e;refine codeAny_extend_loopS Wk (by rw [sizeLine_eq];exact aJ hz) S hSf res P7.length 0 _ #[] c₁ rfl (Nat.zero_le _) ⟨hit,WT⟩ Vc (ItemsOf.nil _) fun s' QK c' hm WU RX=>?_;rw [Moved.eq_with hm];refine hR s'.heap s'.toks QK c' (fun b o hb e=>hm.heap b o (fun U3=>?_) (hk b o hb e)) WU RX;rcases OY U3 with e' | U3
  ·exact hb e'
  ·exact absurd (Heap.lt_size e) (by rw [List.mem_singleton.mp U3];exact Nat.lt_irrefl _)
 unfold Builtin.List.listExtendWith;refine Pe (wpAny_typeOf (T:="dict") hTd ?_);have h1:Builtin.List.listSameRef (.ref S) (.ref d)=false:=by simp [Builtin.List.listSameRef,WQ]
 have h2:(Value.type "dict" ==Value.type "list")=false:=by decide
 have h3:(Value.type "dict" ==Value.type "tuple")=false:=by decide
 simp only [h1,h2,h3,Bool.or_false,Bool.false_eq_true,if_false];refine Pe (wpAny_pyIter_dict WO QU ?_);have WV:Shared.TypeIs {s with heap:=s.heap.push {cls:=.type "dict_keyiterator",data:=.fields #[.ref d,.int 0 0,.int P7.length 0,.int ep 0]}} (.ref d) "dict" :=(QU.push _).dictOf.typeIs;refine Pe (wpAny_holding (zZ WV ?_));have Ry:(s.heap.push {cls:=.type "dict_keyiterator",data:=.fields #[.ref d,.int 0 0,.int P7.length 0,.int ep 0]}).IsKeyIter s.heap.objs.size d 0 P7.length ep:=iG _ (Heap.get?_push_size _ rfl) rfl rfl;have Vc:=Heap.get?_push_of_some {cls:=.type "dict_keyiterator",data:=.fields #[.ref d,.int 0 0,.int P7.length 0,.int ep 0]} hS;refine wpAny_ite_split (fun U=>?_) (fun U=>Pj ⟨plainId_quiet F.plain_extend_loop _,key _ c₀ _ Ry (fun b o U e=>Heap.get?_push_of_some _ e) Vc⟩);refine Pe (wpAny_rule ?_);refine Pe ?_;show wpAny _ _ (updateSeq S (·.push .none) >>= fun U=>updateSeq S (·.pop)) _ _ _;refine Pe (wpAny_updateSeq Vc rfl ?_);have Wd:=Heap.get?_update_self (Obj.mapSeq (·.push Value.none)) Vc rfl;refine wpAny_updateSeq (hz:=by seq_fits) Wd rfl ?_;have hS₃:=Heap.get?_update_self (Obj.mapSeq (·.pop)) Wd rfl;refine Pj ⟨plainId_quiet F.plain_extend_loop _,key _ _ _ ?_ (fun b o hb e=>?_) hS₃⟩
 ·refine bM Ry fun o ho r=>?_;clear Ry;exact bw o ((Heap.get?_update_other _ _ WS).trans ((Heap.get?_update_other _ _ WS).trans ho)) r
 ·exact (Heap.get?_update_other _ _ (Ne.symm hb)).trans ((Heap.get?_update_other _ _ (Ne.symm hb)).trans (Heap.get?_push_of_some _ e))
theorem qM {Q:Value->Shared->Prop}{d:Addr}(hh:A.handled=none)(WO:(d==sysModules)=false)(hd:s.heap.DictOf (PySem.strKind prog w) d P7)(hz:P7.length<=1000)
  (hQ:∀ h' tk QK c',(∀ b o,s.heap.get? b=some o->h'.get? b=some o)->
   h'.get? s.heap.objs.size=some {cls:=.type "list",dict:=none,data:=.seq QK c',slots:= #[]}->ItemsOf (fun i v=>∃ k x,P7[i]? =some (k,x)/\(PySem.strKind prog w).is k v=true) QK P7.length->Q (.ref s.heap.objs.size) {s with heap:=h',toks:=tk}):
  wpAny (model prog w) A (call (.type "list") [.ref d]) Q E s:=by
 refine callType_codes (Q₁:=fun obj s₁=>obj=.ref s.heap.objs.size/\s₁={s with heap:=s.heap.push {cls:=.type "list",data:=.seq #[]}}) F.called_list (F.typeCall_list_1 _) F.entry_list_init
  (code_list_new _ ⟨rfl,rfl⟩) fun obj s₁ h₁=>?_
 refine oA h₁ fun PL PZ=>?_;clear h₁;subst PL;subst PZ;have hS:(s.heap.push {cls:=.type "list",data:=.seq #[]}).get? s.heap.objs.size=some {cls:=.type "list",data:=.seq #[]}:=Heap.get?_push_size _ rfl;have Q8:(s.heap.push {cls:=.type "list",data:=.seq #[]}).DictOf (PySem.strKind prog w) d P7:=hd.push _;refine cF (bw _ hS rfl) (F.args_list_init_2 _ _) ?_;show wpAny _ _ (do let old <- Builtin.List.listItems (.ref s.heap.objs.size);Builtin.List.listUpdate (.ref s.heap.objs.size) (fun U=> #[]);letGo old.toList.reverse;Builtin.List.listExtendWith (.ref s.heap.objs.size) (.ref d) .none) _ _ _;have WW:d≠s.heap.objs.size:=by refine oE hd.dictAt fun ep QU=>?_;exact Nat.ne_of_lt QU.lt_size
 refine Pe ?_;unfold Builtin.List.listItems;refine Pe (wpAny_seqItems hS rfl (Pj ?_));show wpAny _ _ (updateSeq s.heap.objs.size (fun U=> #[]) >>= fun U=>letGo (#[]:Array Value).toList.reverse >>= fun U=>Builtin.List.listExtendWith (.ref s.heap.objs.size) (.ref d) .none) _ _ _;refine Pe (wpAny_updateSeq hS rfl ?_);have Wd:=Heap.get?_update_self (Obj.mapSeq (fun U=>(#[]:Array Value))) hS rfl
 have oth:∀ b o,b≠s.heap.objs.size->(s.heap.push {cls:=.type "list",data:=.seq #[]}).get? b=some o->((s.heap.push {cls:=.type "list",data:=.seq #[]}).update s.heap.objs.size (Obj.mapSeq (fun U=>(#[]:Array Value)))).get? b=some o:=fun b o hb e=>(Heap.get?_update_other _ _ (Ne.symm hb)).trans e
 refine Pe (wpAny_letGo ?_)
 have hd2:((s.heap.push {cls:=.type "list",data:=.seq #[]}).update s.heap.objs.size (Obj.mapSeq (fun U=>(#[]:Array Value)))).DictOf (PySem.strKind prog w) d P7:=by refine oE Q8.dictAt fun ep QU=>?_;exact (QU.at' fun o e=>oth d o WW e).dictOf
 refine vz (A:=A.in1) hh WO hd2 hz s.heap.objs.size .none _ Wd fun h' tk QK c' hk WU RX=>?_;exact ⟨rfl,hQ h' tk QK c' (fun b o e=>hk b o (Nat.ne_of_lt (Heap.lt_size e)) (oth b o (Nat.ne_of_lt (Heap.lt_size e)) (Heap.get?_push_of_some _ e))) WU RX⟩
theorem Eo{d:Addr}{Q:VP}(S:St w B O Z (fr::led) h)(hd:ci w h d (.dct P7))(hz:P7.length<=1000)
  (q:∀ a (ps:List (Str×Tok)) h',ps.map (·.1)=P7.map (·.1)->St w B O Z (fr::(a,.pls (ps.map fun p=>.str p.1 p.2))::led) h'->Q (.ref a) h'):W PW w n (call (.type "list") [.ref d]) Q h:=.mk fun A g d' tk os hA=>by
 refine qM hA.2.2 hd.1 hd.2 hz fun h' tk QK c' hk hn RX=>?_
 have keys:∀ (P7:KV) (l:LV),l.length=P7.length->(∀ (j:Nat) (v:Value),l[j]? =some v->∃ k x,P7[j]? =some (k,x)/\(PySem.strKind PW w).is k v=true)->∃ ps:List (Str×Tok),ps.map (·.1)=P7.map (·.1)/\l=ps.map fun p=>.str p.1 p.2:=by
  intro P7
  induction P7 with
  | nil=>intro l hl _;exact bw [] rfl (by simpa using hl)
  | cons kv r ih=>
   intro l hl hP
   match l,hl with
   | v::l,hl=>refine iQ (hP 0 v rfl) fun k x h1 h2=>?_;cases h1;refine oE (Value.isStrOf_shape h2) fun t PQ=>?_;subst PQ;refine bM (ih l (by simpa using hl) fun j v hj=>hP (j+1) v hj) fun ps e1 e2=>?_;exact bw ((k,t)::ps) (by simp [e1]) (by simp [e2])
 refine bM (keys P7 QK.toList (by simpa using RX.1) fun j v hj=>RX.2 j v (by simpa using hj)) fun ps e1 e2=>?_;refine aI (q _ ps _ e1 ((S.grow1 hk (a:=h.objs.size) (c:=.pls (ps.map fun p=>.str p.1 p.2)) ⟨c',?_⟩ ll).swap));rw [<- e2];exact hn
variable {P:Params}
theorem LO:nsIn (KF P) mainGlobals {cps:={toList:=[105,110,116]}}=some none:=by kernel_rfl!
theorem LP:bootBuiltins {cps:={toList:=[105,110,116]}}=some (.type "int"):=(Pl bootBuiltins (by kernel_rfl! :({cps:={toList:=[105,110,116]}}:Str)=Str.ofString "int")).trans PyProof.Rows.boot_int
theorem LQ:nsIn (KF P) mainGlobals {cps:={toList:=[115,116,114]}}=some none:=by kernel_rfl!
theorem LR:bootBuiltins {cps:={toList:=[115,116,114]}}=some (.type "str"):=(Pl bootBuiltins (by kernel_rfl! :({cps:={toList:=[115,116,114]}}:Str)=Str.ofString "str")).trans PyProof.Rows.boot_str
theorem H0:nsIn (KF P) mainGlobals {cps:={toList:=[100,105,99,116]}}=some none:=by kernel_rfl!
theorem H1:bootBuiltins {cps:={toList:=[100,105,99,116]}}=some (.type "dict"):=(Pl bootBuiltins (by kernel_rfl! :({cps:={toList:=[100,105,99,116]}}:Str)=Str.ofString "dict")).trans PyProof.Rows.boot_dict
theorem H2:nsIn (KF P) mainGlobals {cps:={toList:=[108,105,115,116]}}=some none:=by kernel_rfl!
theorem H4:bootBuiltins {cps:={toList:=[108,105,115,116]}}=some (.type "list"):=(Pl bootBuiltins (by kernel_rfl! :({cps:={toList:=[108,105,115,116]}}:Str)=Str.ofString "list")).trans PyProof.Rows.boot_list
theorem LS:nsIn (KF P) mainGlobals {cps:={toList:=[122,105,112]}}=some none:=by kernel_rfl!
theorem LT:bootBuiltins {cps:={toList:=[122,105,112]}}=some (.type "zip"):=(Pl bootBuiltins (by kernel_rfl! :({cps:={toList:=[122,105,112]}}:Str)=Str.ofString "zip")).trans boot_zip
theorem Ep:nsIn (KF P) mainGlobals {cps:={toList:=[114,97,110,103,101]}}=some none:=by kernel_rfl!
theorem Er:bootBuiltins {cps:={toList:=[114,97,110,103,101]}}=some (.type "range"):=(Pl bootBuiltins (by kernel_rfl! :({cps:={toList:=[114,97,110,103,101]}}:Str)=Str.ofString "range")).trans boot_range
theorem LU:nsIn (KF P) mainGlobals {cps:={toList:=[109,97,120]}}=some none:=by kernel_rfl!
theorem LW:bootBuiltins {cps:={toList:=[109,97,120]}}=some (.builtin "max"):=(Pl bootBuiltins (by kernel_rfl! :({cps:={toList:=[109,97,120]}}:Str)=Str.ofString "max")).trans boot_max
theorem LX:nsIn (KF P) mainGlobals {cps:={toList:=[109,105,110]}}=some none:=by kernel_rfl!
theorem LY:bootBuiltins {cps:={toList:=[109,105,110]}}=some (.builtin "min"):=(Pl bootBuiltins (by kernel_rfl! :({cps:={toList:=[109,105,110]}}:Str)=Str.ofString "min")).trans boot_min
theorem LZ:nsIn (KF P) mainGlobals {cps:={toList:=[108,101,110]}}=some none:=by kernel_rfl!
theorem M0:bootBuiltins {cps:={toList:=[108,101,110]}}=some (.builtin "len"):=(Pl bootBuiltins (by kernel_rfl! :({cps:={toList:=[108,101,110]}}:Str)=Str.ofString "len")).trans boot_len
theorem uh:nsIn (KF P) mainGlobals {cps:={toList:=[105,115,105,110,115,116,97,110,99,101]}}=some none:=by kernel_rfl!
theorem ui:bootBuiltins {cps:={toList:=[105,115,105,110,115,116,97,110,99,101]}}=some (.builtin "isinstance"):=(Pl bootBuiltins (by kernel_rfl! :({cps:={toList:=[105,115,105,110,115,116,97,110,99,101]}}:Str)=Str.ofString "isinstance")).trans boot_isinstance
variable {h':Heap}{Z':a8}{PM:dy}
theorem St.done0 (S:St w B O Z led h)(S':St w B ⟨fun U=>False,h,Z⟩ Z' PM h'):St w B O Z' led h':=S.back S'.ret
theorem St.done1{a:Addr}{c : an}(S:St w B O Z led h)(e:led[i]? =some (a,c))(S':St w B ⟨fun x=>x=a,h,Z⟩ Z' PM h')(e':PM[j]? =some (a,c')):St w B O Z' (led.set i (a,c')) h':=S.back1 e S'.ret (S'.get j e') (S'.cells _ (bx e')).2.1
theorem St.done2 {i' j' : Nat}{a : Addr}{c d d' : an}(S:St w B O Z led h)(e:led[i]? =some (a,c))(e2:led[j]? =some (b,d))(S':St w B ⟨fun x=>x=a\/x=b,h,Z⟩ Z' PM h')(QT:i≠j)(e':PM[i']? =some (a,c'))(TP:PM[j']? =some (b,d')):
  St w B O Z' ((led.set i (a,c')).set j (b,d')) h':=S.back2 e e2 S'.ret (S'.get i' e') (S'.cells _ (bx e')).2.1 (S'.get j' TP) (S'.cells _ (bx TP)).2.1 QT
theorem Bm (a b:Int)(h:0 < b/\b<=1000):Builtin.divisionGoesByPylong a b=false:=by unfold Builtin.divisionGoesByPylong;have h0:(b==0)=false:=beq_false_of_ne (by lia);have h1:b.natAbs.log2 < 10:=(Nat.log2_lt (by lia)).mpr (by lia);simp only [h0,Bool.false_eq_true,if_false];rw [Bool.and_eq_false_iff];exact .inl (Pr (by lia))
theorem jD {a b:Int}(h:b.natAbs < 2 ^ 63):IntMulOk a b:=by
 unfold IntMulOk
 have:¬ Builtin.Int.intBits b > shortFactorBits:=by
  unfold Builtin.Int.intBits shortFactorBits
  split
  ·lia
  ·rename_i hb
   have h0:b.natAbs≠0:=fun e=>hb (by simp [Int.natAbs_eq_zero.mp e]);have:=(Nat.log2_lt h0).mpr h;lia
 rw [Pr this,Bool.and_false,Bool.false_and];exact Bool.false_ne_true
theorem St.weakL{a:Addr}{xs:LV}(S:St w B O Z led h)(e:led[i]? =some (a,.pls xs)):St w B O Z (led.set i (a,.lst xs)) h:=by
 refine ⟨S.base,S.keepB,S.sub,fun p hp=>?_,by rw [lU e];exact S.nd,S.hist⟩;rcases ec e S.nd hp with rfl | ⟨hp,hn⟩
 ·obtain ⟨h1,h2⟩:=S.cells _ (bx e);exact ⟨ci.l h1,h2⟩
 ·exact S.cells p hp
theorem St.fz1{a:Addr}{c:an}(S:St w B O Z (fr::(a,c)::led) h):∃ Z',Z.le Z'/\Z' a=some c/\St w B O Z' (fr::led) h:=(iG _ (a8.le_put (S.cells (a,c) (by simp)).2.1) (a8.put_self _ _ _) S.swap.freeze)
theorem St.fzL1{a:Addr}{xs:LV}(S:St w B O Z (fr::(a,.pls xs)::led) h):∃ Z',Z.le Z'/\Z' a=some (.lst xs)/\St w B O Z' (fr::led) h:=St.fz1 (S.weakL (i:=1) rfl)
theorem St.fz0 {a:Addr}{c:an}(S:St w B O Z ((a,c)::led) h):∃ Z',Z.le Z'/\Z' a=some c/\St w B O Z' led h:=(iG _ (a8.le_put (S.cells (a,c) (by simp)).2.1) (a8.put_self _ _ _) S.freeze)
theorem St.erase (S:St w B O Z led h)(i:Nat):St w B O Z (led.eraseIdx i) h:=S.sub_led (fun p hp=>List.mem_of_mem_eraseIdx hp) (S.nd.sublist ((List.eraseIdx_sublist _ _).map _))
theorem St.fzl (S:St w B O Z led h)(i:Nat){a:Addr}{xs:LV}(e:led[i]? =some (a,.pls xs)):∃ Z',Z.le Z'/\Z' a=some (.lst xs)/\St w B O Z' (led.eraseIdx i) h:=by have S1:=S.front e;exact (S1.weakL (i:=0) rfl).fz0
noncomputable abbrev bt:Str:={cps:={toList:=[105,110,116]}}
noncomputable abbrev bW:Str:={cps:={toList:=[108,105,116]}}
noncomputable abbrev n9:Str:={cps:={toList:=[99,111,110]}}
noncomputable abbrev oc:Str:={cps:={toList:=[105,110,116,115]}}
noncomputable abbrev od:Str:={cps:={toList:=[102,117,110,115]}}
noncomputable abbrev lV:Str:={cps:={toList:=[99,111,117,110,116]}}
noncomputable abbrev fD:Str:={cps:={toList:=[105,110,116,65,100,100]}}
noncomputable abbrev ia:Str:={cps:={toList:=[105,110,116,83,117,98]}}
noncomputable abbrev ds:Str:={cps:={toList:=[105,110,116,77,117,108]}}
noncomputable abbrev aM:Str:={cps:={toList:=[103,108,111,98,97,108,115]}}
noncomputable abbrev vA:Str:={cps:={toList:=[102,117,110]}}
noncomputable abbrev na:Str:={cps:={toList:=[112]}}
noncomputable abbrev rZ:Str:={cps:={toList:=[120]}}
noncomputable abbrev Es:Str:={cps:={toList:=[121]}}
noncomputable abbrev hZ:Str:={cps:={toList:=[118]}}
noncomputable abbrev nH:Str:={cps:={toList:=[102]}}
noncomputable abbrev mf:Str:={cps:={toList:=[116]}}
noncomputable abbrev ew:Str:={cps:={toList:=[46]}}
def FY (Z:a8)(v:Value)(cl:Addr)(fs:KV):Prop:=∃ x dx,v=.ref x/\Z x=some (.ins cl dx)/\Z dx=some (.att fs)
noncomputable def Ic (v:Value)(s:Str):Prop:=∃ t,v=.str s t
noncomputable def M1 (v:Value)(k:Int):Prop:=∃ t,v=.int k t
theorem km {o : Expr}{attr:Str}{pos' : Pos}{Q:Flow->Heap->Prop}(k:W PW w n (eval value env) (fun v h1=>W PW w n (eval o env) (fun ov h2=>W PW w n (setAttr ov attr v) (fun U h3=>Q .next h3) h2) h1) h)
  (hs:autoParam (swapsWith value (some (.Attribute o attr pos')) pos.line env=pure false) tac0):W PW w n (exec (.Assign [.Attribute o attr pos'] value pos) env) Q h:=.mk fun A g d tk os hA=>plainObj_wpAny_Assign_Attribute (k.to hA fun U U U q=>q.to hA fun U U U q=>q.to hA fun U U U q=>aI q) hs
structure FZ (P:Params)(cl f:Addr):Prop where
 init:autoParam (findIn (KF P) (.ref cl) (Str.ofString "__init__")=some (some (.ref f))) tac0
 makes:autoParam (makesIn (KF P) cl=true) tac0
 ft:autoParam (typeIn (KF P) (.ref f)=some (.type "function")) tac0
 sa:autoParam (findIn (KF P) (.ref cl) (Str.ofString "__setattr__")=some (some (.builtin "object.__setattr__"))) tac0
 po:autoParam (plainOver (KF P) cl=true) tac0
 hd:autoParam ((clsIn (KF P) cl).any (·.hasDict)=true) tac0
structure M2 (P:Params)(P9:FuncData)(f:Addr)(names:List Str):Prop where
 f:autoParam ((KF P).lookup f=some (fo P9)) tac0
 cd:autoParam (codeIn (KF P) P9.code P9.qualname=true) tac0
 clo:autoParam (P9.closure=[]) tac0
 ps:autoParam (P9.params.args.map (·.arg)=names) tac0
 kind:autoParam ((names.all fun x=>decide (P9.scope.names.lookup x=some .local))=true) tac0
 cs:autoParam (∀ L,cellsFrom (L+1) P9.scope.names []=bz (L+1) [] []) tac7
 co:autoParam ((P9.scope.isCoroutine || P9.scope.isGenerator || !decide (P9.scope.kind=.function))=false) tac0
noncomputable abbrev Nb:=Str×Pos×Pos×Pos×Pos
def Oz (x:Nb):Stmt:=.Assign [.Attribute (.Name aH x.2.1) x.1 x.2.2.1] (.Name x.1 x.2.2.2.1) x.2.2.2.2
structure G0 (P:Params)(cl f:Addr)(P9:FuncData)(xs:List Nb):Prop where
 body:autoParam (P9.body=.stmts (xs.map Oz)) tac4
 c:autoParam (FZ P cl f) tac20
 d:autoParam (M2 P P9 f (aH::xs.map (·.1))) tac20
 nd:autoParam ((aH::xs.map (·.1)).Nodup) tac3
 ok:autoParam (∀ L,((aH::xs.map (·.1)).all fun y=>rY (callEnvC P9 L f) y .local)=true) tac7
 tk:autoParam (xs.map (fun x=>takerIn (KF P) cl x.1)=xs.map fun U=>some none) tac0
 vs:∀ vs:LV,vs.length=xs.length->(∀ v0,bindArgs P9 ⟨v0::vs,[]⟩=pure ((aH::xs.map (·.1)).zip (v0::vs)))/\∀ L (x:Addr),((aH,some (.ref x))::(xs.map (·.1)).zip (vs.map some)).map (fun p=>bindL (callEnvC P9 L f).kindOf ((aH::xs.map (·.1)).zip (.ref x::vs)) (fun U=>none) p.1)=((aH,some (.ref x))::(xs.map (·.1)).zip (vs.map some)).map (·.2)
theorem M3 {cl x f L : Addr}{P9:FuncData}{Vd:List (Str×Option Value)}{Q:Flow->Heap->Prop}(hc:FZ w.params cl f)(RN:Vd[0]? =some (aH,some (.ref x)))(YL:∀ p∈Vd,rY (callEnvC P9 L f) p.1 .local=true)(xs:List Nb):
  ∀ (vs:LV) (dn:KV) (j:Nat) (h:Heap),(∀ i:Nat,(Vd.drop j)[i]? =((xs.map (·.1)).zip (vs.map some))[i]?)->vs.length=xs.length->(∀ y∈xs,takerIn (KF w.params) cl y.1=some none)->(xs.map (·.1)).Nodup->(∀ y∈xs,dn.lookup y.1=none)->dn.length+xs.length<=100->
  St w B O Z ((L,.ns Vd)::fr::(x,.ins cl dx)::(dx,.att dn)::led) h->(∀ h',St w B O Z ((L,.ns Vd)::fr::(x,.ins cl dx)::(dx,.att (dn++(xs.map (·.1)).zip vs))::led) h'->Q .next h')->W PW w n (execs (xs.map Oz) (callEnvC P9 L f)) Q h:=by
 induction xs with
 | nil=>intro vs dn j h _ _ _ _ _ _ S q;exact dq (q h (by rw [List.map_nil,List.zip_nil_left,List.append_nil];exact S))
 | cons y xs ih=>
  intro vs dn j h hi hl ht nd hd hz S q;cases vs with
  | nil=>cases hl
  | cons v vs=>
   have h0:=hi 0;rw [List.getElem?_drop,Nat.add_zero] at h0;have hm:=Pn h0;refine f8 (km (oN S (i:=0) (j:=j) rfl h0 ?_ (YL _ hm)) rfl);refine oN S (i:=0) (j:=0) rfl RN ?_ (YL _ (Pn RN));refine o8 S (S.get 2 rfl) (j:=3) rfl (hd y (.head _)) (by rw [List.length_cons] at hz;exact aJ hz) (fun h2 S=>?_) hc.sa hc.po (ht y (.head _)) hc.hd;refine ih vs (dn++[(y.1,v)]) (j+1) h2 (fun i=>?_) (Nat.succ.inj hl) (fun z hz=>ht z (.tail _ hz)) (List.nodup_cons.mp nd).2 (fun z hz=>?_) (by rw [List.length_append];rw [List.length_cons] at hz;exact Pg (by rw [List.length_cons,List.length_nil];exact cZ) hz) S fun h' S'=>q h' (by rw [List.append_assoc] at S';exact S')
   ·have:=hi (i+1);rw [List.getElem?_drop] at this ⊢;rw [show j+1+i=j+(i+1) by lia];exact this
   ·have QP:z.1≠y.1:=fun e=>(List.nodup_cons.mp nd).1 (Pb ⟨z,hz,e⟩);rw [List.lookup_append,hd z (.tail _ hz)];simp [List.lookup_cons,beq_false_of_ne QP]
theorem NS{cl f:Addr}{P9:FuncData}{xs:List Nb}{vs:LV}{Q:VP}(N:G0 w.params cl f P9 xs)(hl:vs.length=xs.length)(hz:xs.length<=100)(S:St w B O Z (fr::led) h)
  (q:∀ r Z' h',Z.le Z'->FY Z' r cl ((xs.map (·.1)).zip vs)->St w B O Z' (fr::led) h'->Q r h'):W PW w (n+2) (call (.ref cl) vs) Q h:=by
 refine oA (N.vs vs hl) fun b1 b2=>?_
 have hf:∀ x:Addr,((aH,some (.ref x))::(xs.map (·.1)).zip (vs.map some)).map (·.1)=aH::xs.map (·.1):=fun x=>by rw [List.map_cons,List.map_fst_zip (by rw [List.length_map,List.length_map,hl];exact ll)]
 refine FR (f:=f) S (fun x dx h1 S=>?_) N.c.init N.c.makes N.c.ft;refine B8 (P9:=P9) (ms:=(aH,some (.ref x))::(xs.map (·.1)).zip (vs.map some)) S N.body (fun L h₁ hL S=>?_) N.d.f N.d.cd N.d.clo (by rw [N.d.ps];exact b1 _) (by rw [N.d.ps];exact List.all_eq_true.mpr fun y hy=>by rw [OZ N.d.kind y hy];rfl) N.d.cs (fun L=>by rw [N.d.ps];exact b2 L x) (by rw [hf];exact N.nd) N.d.co;refine M3 N.c rfl (fun p hp=>OZ (N.ok L) _ (hf x▸Pb (bw p hp rfl))) xs vs [] 1 h₁ (fun i=>rfl) hl (fun y hy=>?_) (List.nodup_cons.mp N.nd).2 (fun U U=>rfl) (by rw [List.length_nil,Nat.zero_add];exact hz) S fun h2 S=>⟨rfl,?_⟩
 ·refine oE (List.getElem?_of_mem hy) fun i hi=>?_;have:=Pl (·[i]?) N.tk;simp only [List.getElem?_map,hi,Option.map_some,Option.some.injEq] at this;exact this
 ·refine d6 ((S.drop 1).fz1) fun Z1 l1 z1 S=>?_;refine d6 S.fz1 fun Z2 l2 z2 S=>?_;exact q _ _ _ (l1.trans l2) (yf x dx rfl (l2 _ _ z1) z2) S
structure Bn (P:Params)(cl:Addr):Prop where
 g:plainGet (KF P) cl (Str.ofString "__class__")=true
 d:hasDictIn (KF P) cl=true
 a:findIn (KF P) (.ref cl) (Str.ofString "__class__")=some (some (.builtin "object.__class__"))
 m:mroIn (KF P) cl (.type "object")=some true
theorem M4 {P:Params}:specialIn (KF P) (.builtin "object.__class__") (Str.ofString "__get__")=some (some (.builtin "getset_descriptor.__get__")):=by kernel_rfl!
theorem M5 {P:Params}:takesIn (KF P) (.builtin "object.__class__")=some true:=by kernel_rfl!
theorem M6 (b:Bool){x cl : Addr}{fs:KV}(S:St w B O Z (fr::led) h)(hx:ci w h x (.ins cl dx))(hd:ci w h dx (.att fs))(I:Bn w.params cl)(q:Q (.bool b) h)
  (e:autoParam (kitOne (KF w.params) (.ref cl) (.ref D)=some b) tac0):W PW w n (call (.builtin "isinstance") [.ref x,.ref D]) Q h:=wQ b S hx hd q e I.g I.d I.a M4 M5 I.m
theorem M7 (b:Bool){x cl tp : Addr}{V2:LV}{fs:KV}(S:St w B O Z (fr::led) h)(hx:ci w h x (.ins cl dx))(hd:ci w h dx (.att fs))(ht:ci w h tp (.tup V2))(I:Bn w.params cl)(q:Q (.bool b) h)
  (e:autoParam (kitAny (KF w.params) (.ref cl) V2=some b) tac0):W PW w n (call (.builtin "isinstance") [.ref x,.ref tp]) Q h:=GU b S hx hd ht q e I.g I.d I.a M4 M5 I.m
structure OA (P:Params)(cl:Addr)(names:List Str):Prop where
 ga:findIn (KF P) (.ref cl) (Str.ofString "__getattribute__")=some (some (.builtin "object.__getattribute__"))
 h:hasDictIn (KF P) cl=true
 f:∀ x,names.contains x=true->findIn (KF P) (.ref cl) x=some none
theorem bZ{x y:Str}:valueAt (stored P7 x v) y=if y=x then some v else valueAt P7 y:=by
 unfold valueAt stored
 by_cases hx:(P7.any fun kv=>decide (kv.1=x))=true
 ·rw [if_pos hx]
  induction P7 with
  | nil=>simp at hx
  | cons p r ih=>
   rw [List.map_cons,List.find?_cons,List.find?_cons]
   by_cases hp:p.1=x
   ·rw [if_pos hp]
    by_cases hy:y=x
    ·subst hy;simp [hp]
    ·have h1:¬ x=y:=fun e=>hy e.symm;rw [if_neg hy];simp only [hp,h1,decide_false];clear ih hx
     induction r with
     | nil=>rfl
     | cons q r YM=>
      rw [List.map_cons,List.find?_cons,List.find?_cons]
      by_cases hq:q.1=x
      ·rw [if_pos hq];simp only [hq,h1,decide_false];exact YM
      ·rw [if_neg hq]
       by_cases RQ:q.1=y
       ·simp [RQ]
       ·simp only [RQ,decide_false];exact YM
   ·rw [if_neg hp];have RK:(r.any fun kv=>decide (kv.1=x))=true:=by simpa [hp] using hx
    by_cases hq:p.1=y
    ·have:¬ y=x:=fun e=>hp (hq.trans e);simp [hq,this]
    ·simp only [hq,decide_false];exact ih RK
 ·rw [if_neg hx,List.find?_append];have hn:∀ p∈P7,¬ p.1=x:=fun p hp e=>hx (List.any_eq_true.mpr (bw p hp (Pt e)))
  by_cases hy:y=x
  ·subst hy;have:P7.find? (fun kv=>decide (kv.1=y))=none:=List.find?_eq_none.mpr fun p hp=>by simpa using hn p hp
   rw [this];simp
  ·have:¬ x=y:=fun e=>hy e.symm;rw [if_neg hy];simp [this]
theorem bD{x:Str}:valueAt (stored P7 x v) x=some v:=bZ.trans (if_pos rfl)
theorem bH{x y:Str}(h:y≠x):valueAt (stored P7 x v) y=valueAt P7 y:=bZ.trans (if_neg h)
theorem aG {P7:KV}{x:Str}{v:Value}:(stored P7 x v).length<=P7.length+1:=stored_length_le P7 x v
end
structure Ev where
 i:Str->Int
 f:Str->Int->Int->Int
noncomputable def Ev.setI (ρ:Ev)(x:Str)(n:Int):Ev:=⟨fun y=>if y=x then n else ρ.i y,ρ.f⟩
noncomputable def Ev.setF (ρ:Ev)(x:Str)(g:Int->Int->Int):Ev:=⟨ρ.i,fun y=>if y=x then g else ρ.f y⟩
inductive cU where
 | int
 | val
 | fn (k K:Nat)
set_option genCtorIdx true in
inductive kN where
 | src
 | stg
def oQ:kN->Addr
 | .src=>aw
 | .stg=>aC
section
variable (w:World)
def RT (n:Nat)(f:Addr)(args:LV)(P:a8->Value->Prop)(Z:a8):Prop:=
 ∀ (B:Heap) (O:aP) (Z':a8) (led:dy) (h:Heap) (Q:VP),Z.le Z'->St w B O Z' led h->
  (∀ v Qr h',Z'.le Qr->P Qr v->St w B O Qr led h'->Q v h')->W PW w n (call (.ref f) args) Q h
def iH (n:Int)(_:a8)(v:Value):Prop:=M1 v n
def uP (c:Nat)(P:a8->Value->Prop)(Z:a8)(v:Value):kN->Prop
 | .src=>∃ l e d,v=.ref l/\Z l=some (.lst [.ref e,.ref d])/\RT w c aw [.ref e,.ref d] P Z
 | .stg=>∃ l,v=.ref l/\(∃ xs,Z l=some (.lst xs))/\RT w c bJ [.ref l] P Z
def TH (s:kN)(c:Nat)(n:Int)(Z:a8)(v:Value):Prop:=M1 v n\/uP w c (iH n) Z v s
def oe (s:kN)(c0 K:Nat)(g:Int->Int)(Z:a8)(v:Value):Prop:=∀ c Z' al a x,c0<=c->c+K<=600->Z.le Z'->Z' al=some (.lst [a])->TH w s c x Z' a->RT w (c+K) bT [v,.ref al,.ref (oQ s)] (iH (g x)) Z'
def wV (s:kN)(c0 K:Nat)(g:Int->Int->Int)(Z:a8)(v:Value):Prop:=
 (s=.src->∀ c Z' al a x,c0<=c->c+K<=600->Z.le Z'->Z' al=some (.lst [a])->TH w s c x Z' a->RT w (c+K) bT [v,.ref al,.ref (oQ s)] (oe w s c K (g x)) Z')/\
 (∀ c Z' al a b x y,c0<=c->c+K<=600->Z.le Z'->Z' al=some (.lst [a,b])->TH w s c x Z' a->TH w s c y Z' b->RT w (c+K) bT [v,.ref al,.ref (oQ s)] (iH (g x y)) Z')
def ir (s:kN)(k c0 K:Nat)(g:Int->Int->Int)(Z:a8)(v:Value):Prop:=if k=1 then oe w s c0 K (fun x=>g x 0) Z v else wV w s c0 K g Z v
def jN (s:kN)(c:Nat)(ρ:Ev)(Z:a8)(x:Str)(v:Value):cU->Prop
 | .int=>TH w s c (ρ.i x) Z v
 | .val=>M1 v (ρ.i x)
 | .fn k K=>uP w c (ir w s k c K (ρ.f x)) Z v s
def kn (s:kN)(Γ:List (Str×cU))(c:Nat)(ρ:Ev)(Z:a8)(P7:KV):Prop:=∀ p∈Γ,∃ v,valueAt P7 p.1=some v/\jN w s c ρ Z p.1 v p.2
end
section
variable {w:World}{s:kN}{c c' n n' k K:Nat}{f:Addr}{args:LV}{P P':a8->Value->Prop}{Z Z':a8}{v:Value}{x:Int}{ρ:Ev}
variable {g : Int->Int->Int} {y z : Str}
theorem RT.le (x:RT w n f args P Z)(l:Z.le Z')(hn:n<=n'):RT w n' f args P Z':=fun B O Qr led h Q l' S q=>(x B O Qr led h Q (l.trans l') S q).le hn
theorem RT.imp (x:RT w n f args P Z)(k:∀ Z' v,Z.le Z'->P Z' v->P' Z' v):RT w n f args P' Z:=fun B O Qr led h Q l S q=>x B O Qr led h Q l S fun v Z3 h' l' p S'=>q v Z3 h' l' (k _ _ (l.trans l') p) S'
theorem uP.le (x:uP w c P Z v s)(l:Z.le Z')(hc:c<=c'):uP w c' P Z' v s:=by
 cases s with
 | src=>exact fq x fun a e d h1 h2 h3=>bR a e d h1 (l _ _ h2) (h3.le l hc)
 | stg=>exact d6 x fun a h1 h2 h3=>iG a h1 (oE h2 fun xs h2=>⟨xs,l _ _ h2⟩) (h3.le l hc)
theorem uP.imp (x:uP w c P Z v s)(k:∀ Z' v,Z.le Z'->P Z' v->P' Z' v):uP w c P' Z v s:=by
 cases s with
 | src=>exact fq x fun a e d h1 h2 h3=>bR a e d h1 h2 (h3.imp k)
 | stg=>exact d6 x fun a h1 h2 h3=>iG a h1 h2 (h3.imp k)
theorem TH.le (y:TH w s c x Z v)(l:Z.le Z')(hc:c<=c'):TH w s c' x Z' v:=y.imp id fun y=>y.le l hc
theorem oe.le {g:Int->Int}(y:oe w s c K g Z v)(l:Z.le Z')(hc:c<=c'):oe w s c' K g Z' v:=fun c1 Z1 al a x h1 h2 l1=>y c1 Z1 al a x (Pg hc h1) h2 (l.trans l1)
theorem wV.le(y:wV w s c K g Z v)(l:Z.le Z')(hc:c<=c'):wV w s c' K g Z' v:=⟨fun e c1 Z1 al a x h1 h2 l1=>y.1 e c1 Z1 al a x (Pg hc h1) h2 (l.trans l1),fun c1 Z1 al a b x y' h1 h2 l1=>y.2 c1 Z1 al a b x y' (Pg hc h1) h2 (l.trans l1)⟩
theorem ir.le {g:Int->Int->Int}(y:ir w s k c K g Z v)(l:Z.le Z')(hc:c<=c'):ir w s k c' K g Z' v:=by
 unfold ir at*
 split at y
 ·rename_i h;rw [if_pos h];exact y.le l hc
 ·rename_i h;rw [if_neg h];exact y.le l hc
theorem jN.le {y:Str}{kd:cU}(e:jN w s c ρ Z y v kd)(l:Z.le Z')(hc:c<=c'):jN w s c' ρ Z' y v kd:=match kd,e with
 | .int,e=>TH.le e l hc
 | .val,e=>e
 | .fn k K,e=>(uP.le e l hc).imp fun U U U p=>p.le (a8.le.refl _) hc
theorem jN.ev{kd:cU}{ρ':Ev}(e:jN w s c ρ Z y v kd)(h1:ρ.i y=ρ'.i y)(h2:ρ.f y=ρ'.f y):jN w s c ρ' Z y v kd:=match kd,e with
 | .int,e=>by unfold jN at *;rw [<- h1];exact e
 | .val,e=>by unfold jN at *;rw [<- h1];exact e
 | .fn k K,e=>by unfold jN at *;rw [<- h2];exact e
theorem kn.le {Γ:List (Str×cU)}{P7:KV}(R:kn w s Γ c ρ Z P7)(l:Z.le Z')(hc:c<=c'):kn w s Γ c' ρ Z' P7:=fun p hp=>bM (R p hp) fun v h1 h2=>(bw v h1 (h2.le l hc))
theorem Ev.setI_i{n:Int}:(ρ.setI y n).i y=n:=if_pos rfl
theorem Ev.setI_ne{n:Int}(h:z≠y):ρ.i z=(ρ.setI y n).i z:=(if_neg h).symm
theorem Ev.setF_f:(ρ.setF y g).f y=g:=if_pos rfl
theorem Ev.setF_ne(h:z≠y):ρ.f z=(ρ.setF y g).f z:=(if_neg h).symm
noncomputable def oB {α β:Type}(o:Option α)(f:α->β)(g:β):β:=match o with
 | some a=>f a
 | none=>g
noncomputable def bB {β:Type}(b:Bool)(x y:β):β:=match b with
 | true=>x
 | false=>y
end
section
variable {α β:Type}{P:Prop}{r:β}
variable {b : Bool} {i : Nat} {x : Str}
theorem qN {o:Option α}{f:α->β}{g:β}(e:oB o f g=r)(k:∀ a,o=some a->f a=r->P)(k':o=none->g=r->P):P:=match o,e,k,k' with
 | some a,e,k,_=>k a rfl e
 | none,e,_,k'=>k' rfl e
theorem gK {o:Option α}{f:α->Option β}(e:oB o f none=some r)(k:∀ a,o=some a->f a=some r->P):P:=qN e k fun U e=>nomatch e
theorem vB{x y:β}(e:bB b x y=r)(k:b=true->x=r->P)(k':b=false->y=r->P):P:=match b,e,k,k' with
 | true,e,k,_=>k rfl e
 | false,e,_,k'=>k' rfl e
theorem ly{x:Option β}(e:bB b x none=some r)(k:b=true->x=some r->P):P:=vB e k fun U e=>nomatch e
theorem M8 {o:Option (Nat×α)}{v:α}{P:Nat->Prop}(e:o.map (fun p=>(p.1+1,p.2))=some (i,v))(k:∀ j,o=some (j,v)->P (j+1)):P i:=match o,e with| some p,e=>by cases e;exact k _ rfl
theorem jc (e:none=some r):P:=nomatch e
theorem OS {a:β}(e:some a=some r)(k:a=r->P):P:=k (Pd e)
noncomputable def ak {α β:Type}(R:α->β->Prop):List α->List β->Prop
 | [],[]=>True
 | a::l,b::m=>R a b/\ak R l m
 | _,_=>False
variable {R R':α->β->Prop}
theorem ak.ind {M:List α->List β->Prop}{l:List α}{m:List β}(h:ak R l m)(n:M [] [])(c:∀ {a b l m},R a b->ak R l m->M l m->M (a::l) (b::m)):M l m:=by
 induction l generalizing m with
 | nil=>cases m with
  | nil=>exact n
  | cons=>exact h.elim
 | cons a l ih=>cases m with
  | nil=>exact h.elim
  | cons b m=>exact c h.1 h.2 (ih h.2)
theorem ak.mono (f:∀ a b,R a b->R' a b){l:List α}{m:List β}(h:ak R l m):ak R' l m:=h.ind (M:=ak R') OU fun r U ih=>⟨f _ _ r,ih⟩
theorem ak.len {l:List α}{m:List β}(h:ak R l m):l.length=m.length:=h.ind (M:=fun l m=>l.length=m.length) rfl fun U U ih=>Pl (· +1) ih
theorem ak.get {l:List α}{m:List β}{a:α}(h:ak R l m)(e:l[i]? =some a):∃ b,m[i]? =some b/\R a b:=
 h.ind (M:=fun l m=>∀ i,l[i]? =some a->∃ b,m[i]? =some b/\R a b) (fun U e=>nS e) (fun r U ih i e=>by cases i with
  | zero=>exact bw _ rfl (Pd e▸r)
  | succ i=>exact ih i e) i e
theorem ak.set {l:List α}{m:List β}{i:Nat}{a:α}{b:β}(h:ak R l m)(e:R a b):ak R (l.set i a) (m.set i b):=
 h.ind (M:=fun l m=>∀ i,ak R (l.set i a) (m.set i b)) (fun U=>OU) (fun r h ih i=>by cases i with
  | zero=>exact ⟨e,h⟩
  | succ i=>exact ⟨r,ih i⟩) i
theorem ak.app {l l':List α}{m m':List β}(h:ak R l m)(h':ak R l' m'):ak R (l++l') (m++m'):=h.ind (M:=fun l m=>ak R (l++l') (m++m')) h' fun r U ih=>⟨r,ih⟩
theorem ak.nil_r:∀ {m:List β},ak R [] m->m=[]
 | [],_=>rfl
 | _::_,h=>h.elim
theorem ak.cons_r {a:α}{l:List α}:∀ {m:List β},ak R (a::l) m->∃ b m',m=b::m'/\R a b/\ak R l m'
 | [],h=>h.elim
 | b::m',h=>yf b m' rfl h.1 h.2
noncomputable def Nc:List Nat->List Nat->Bool
 | [],[]=>true
 | a::l,b::m=>Nat.beq a b && Nc l m
 | _,_=>false
theorem wW:∀ l m,Nc l m=(l==m)
 | [],[]=>rfl
 | a::l,b::m=>by
  show (Nat.beq a b && Nc l m)=(a==b && l==m);rw [wW l m];cases h:a==b with
  | true=>rw [Pu h,show Nat.beq b b=true from Nat.beq_refl b]
  | false=>
   cases h2:Nat.beq a b with
   | false=>rfl
   | true=>rw [Ph h2] at h;simp at h
 | [],_::_=>rfl
 | _::_,[]=>rfl
def seq (a b:Str):Bool:=Nc a.cps.toList b.cps.toList
theorem iu {a b:Str}(h:seq a b=true):a=b:=by obtain ⟨⟨l⟩⟩:=a;obtain ⟨⟨m⟩⟩:=b;have:=(wW l m).symm.trans h;rw [Pu this]
theorem nb (a:Str):seq a a=true:=by obtain ⟨⟨l⟩⟩:=a;exact (wW l l).trans (beq_self_eq_true l)
theorem pI (a b:Str):seq a b=(a==b):=by
 cases h:seq a b with
 | true=>rw [iu h];exact (beq_self_eq_true b).symm
 | false=>exact (beq_false_of_ne fun e=>by rw [e,nb] at h;exact nT h).symm
noncomputable def t9 {κ α:Type}(q:κ->κ->Bool):List (κ×α)->κ->Option α
 | [],_=>none
 | p::l,x=>cond (q p.1 x) (some p.2) (t9 q l x)
def look {α:Type}(l:List (Str×α))(x:Str):Option α:=t9 seq l x
def A0 {α:Type}:List (Str×α)->Str->Option Nat
 | [],_=>none
 | p::l,x=>cond (seq p.1 x) (some 0) ((A0 l x).map (· +1))
theorem og {κ α:Type}{q:κ->κ->Bool}(hq:∀ {a b},q a b=true->a=b){x:κ}{a:α}{l:List (κ×α)}(h:t9 q l x=some a):(x,a)∈l:=by
 induction l with
 | nil=>exact nS h
 | cons p l ih=>
  have h:cond (q p.1 x) (some p.2) (t9 q l x)=some a:=h;cases e:q p.1 x with
  | true=>rw [e] at h;exact Pd h▸hq e▸.head _
  | false=>rw [e] at h;exact .tail _ (ih h)
theorem lA {α:Type}{l:List (Str×α)}{a:α}(h:look l x=some a):(x,a)∈l:=og iu h
theorem yp {α:Type}{l:List (Str×α)}:∀ {i:Nat},A0 l x=some i->∃ a,l[i]? =some (x,a):=by
 induction l with
 | nil=>exact fun h=>nS h
 | cons p l ih=>
  intro i h;have h:cond (seq p.1 x) (some 0) ((A0 l x).map (· +1))=some i:=h;cases e:seq p.1 x with
  | true=>rw [e] at h;exact ⟨p.2,Pd h▸iu e▸rfl⟩
  | false=>rw [e] at h;refine bM (Option.map_eq_some_iff.mp h) fun j e2 q=>?_;exact q▸ih e2
end
inductive SV where
 | v (i:Nat) | k (x:Value) | int (z:Int) | str (s:Str)
inductive aE where
 | lst (xs:List SV) | tup (xs:List SV) | obj (C:Addr) (fs:List (Str×SV)) | dct (P7:List (Str×SV)) | isL | rng (N:Nat) | opq (k:Nat)
inductive SL where
 | own (i:Nat) (c:aE) | cel (x:Str) (v:Option SV) | oth
structure bb where
 loc:List (Str×Option SV)
 led:List SL
 fz:List (Nat×aE)
 nv:Nat
inductive SF where
 | next | brk | cont | ret (v:SV)
inductive Op where
 | call | expr (e:Expr) | bin (o:Operator) | inp (o:Operator) | un (o:UnaryOp) | cmp (o:CmpOp) | sub (value slice:Expr)
inductive IT (α:Type) where
 | ret (a:α) (s:bb)
 | askE (op:Op) (args:List SV) (s:bb) (k:SV->bb->IT α)
 | askS (st:Stmt) (s:bb) (k:SF->bb->IT α)
 | askB (a:SV) (s:bb) (k:Bool->bb->IT α)
 | askU (o i a:SV) (s:bb) (k:bb->IT α)
 | askL (tg:Expr) (body:List Stmt) (a:SV) (s:bb) (k:SF->bb->IT α)
 | al (t:IT α)
 | ter
noncomputable def IT.bind {α β:Type}:IT α->(α->bb->IT β)->IT β
 | .ret a s,f=>f a s
 | .askE op args s k,f=>.askE op args s fun v s'=>(k v s').bind f
 | .askS st s k,f=>.askS st s fun v s'=>(k v s').bind f
 | .askB a s k,f=>.askB a s fun v s'=>(k v s').bind f
 | .askU o i a s k,f=>.askU o i a s fun s'=>(k s').bind f
 | .askL tg b a s k,f=>.askL tg b a s fun v s'=>(k v s').bind f
 | .al t,f=>.al (t.bind f)
 | .ter,_=>.ter
noncomputable def bA:Value->Bool
 | .builtin _=>false
 | _=>true
theorem bA.handed {v:Value}(h:bA v=true):handedIn v=true:=by cases v<;>first | rfl | exact nB h
noncomputable def af (ρ:LV):SV->Value->Prop
 | .v i,x=>ρ[i]? =some x
 | .k y,x=>x=y
 | .int z,x=>∃ t,x=.int z t
 | .str s,x=>∃ t,x=.str s t
def RO (ρ:LV):Option SV->Option Value->Prop
 | none,_=>True
 | some a,some b=>af ρ a b
 | some _,none=>False
def RF (ρ:LV):List (Str×SV)->KV->Prop:=ak fun p q=>p.1=q.1/\af ρ p.2 q.2
def RM (ρ:LV):List (Str×Option SV)->List (Str×Option Value)->Prop:=ak fun p q=>p.1=q.1/\RO ρ p.2 q.2
noncomputable def iY (ρ ρ':LV):Prop:=∃ x,ρ'=ρ++x
theorem iY.refl (ρ:LV):iY ρ ρ:=⟨[],(List.append_nil _).symm⟩
theorem iY.one (ρ:LV)(v:Value):iY ρ (ρ++[v]):=⟨_,rfl⟩
theorem iY.trans {ρ ρ' YN:LV}:iY ρ ρ'->iY ρ' YN->iY ρ YN
 | ⟨x,e⟩,⟨y,e'⟩=>⟨x++y,by rw [e',e,List.append_assoc]⟩
theorem iY.get {ρ ρ':LV}{i:Nat}{v:Value}:iY ρ ρ'->ρ[i]? =some v->ρ'[i]? =some v
 | ⟨x,e⟩,h=>by rw [e,List.getElem?_append_left (List.getElem?_eq_some_iff.mp h).1];exact h
theorem af.ext {ρ ρ':LV}(e:iY ρ ρ'):∀ {a:SV} {b:Value},af ρ a b->af ρ' a b
 | .v _,_,h=>e.get h
 | .k _,_,h=>h
 | .int _,_,h=>h
 | .str _,_,h=>h
theorem RO.ext {ρ ρ':LV}(e:iY ρ ρ'):∀ {a:Option SV} {b:Option Value},RO ρ a b->RO ρ' a b
 | none,_,h=>h
 | some _,some _,h=>af.ext e h
 | some _,none,h=>h
theorem RF.ext {ρ ρ':LV}(e:iY ρ ρ'){a:List (Str×SV)}{b:KV}(h:RF ρ a b):RF ρ' a b:=ak.mono (fun U U x=>⟨x.1,x.2.ext e⟩) h
theorem RM.ext {ρ ρ':LV}(e:iY ρ ρ'){a:List (Str×Option SV)}{b:List (Str×Option Value)}(h:RM ρ a b):RM ρ' a b:=ak.mono (fun U U x=>⟨x.1,x.2.ext e⟩) h
theorem RL.ext {ρ ρ':LV}(e:iY ρ ρ'){a:List SV}{b:LV}(h:ak (af ρ) a b):ak (af ρ') a b:=ak.mono (fun U U x=>x.ext e) h
inductive M9 (ρ:LV)(Z:a8)(i:Nat)(xs:List SV):Prop
 | mk (a:Addr) (vs:LV) (_:ρ[i]? =some (.ref a)) (_:Z a=some (.lst vs)) (_:ak (af ρ) xs vs):M9 ρ Z i xs
inductive Ma (ρ:LV)(Z:a8)(i:Nat)(xs:List SV):Prop
 | mk (a:Addr) (vs:LV) (_:ρ[i]? =some (.ref a)) (_:Z a=some (.tup vs)) (_:ak (af ρ) xs vs):Ma ρ Z i xs
inductive Mb (ρ:LV)(Z:a8)(i:Nat)(C:Addr)(fs:List (Str×SV)):Prop
 | mk (a dx:Addr) (fv:KV) (_:ρ[i]? =some (.ref a)) (_:Z a=some (.ins C dx)) (_:Z dx=some (.att fv)) (_:RF ρ fs fv):Mb ρ Z i C fs
inductive Mc (ρ:LV)(Z:a8)(i:Nat)(P7:List (Str×SV)):Prop
 | mk (a:Addr) (kv:KV) (_:ρ[i]? =some (.ref a)) (_:Z a=some (.dct kv)) (_:RF ρ P7 kv):Mc ρ Z i P7
inductive Md (ρ:LV)(Z:a8)(i:Nat):Prop
 | mk (a:Addr) (vs:LV) (_:ρ[i]? =some (.ref a)) (_:Z a=some (.lst vs)):Md ρ Z i
inductive Me (ρ:LV)(Z:a8)(i N:Nat):Prop
 | mk (a:Addr) (t u v:Tok) (_:ρ[i]? =some (.ref a)) (_:Z a=some (.obj {cls:=.type "range",data:=.fields #[.int 0 u,.int N t,.int 1 v]})):Me ρ Z i N
def bK (ρ:LV)(Z:a8)(i:Nat):aE->Prop
 | .lst xs=>M9 ρ Z i xs
 | .tup xs=>Ma ρ Z i xs
 | .obj C fs=>Mb ρ Z i C fs
 | .dct P7=>Mc ρ Z i P7
 | .isL=>Md ρ Z i
 | .rng N=>Me ρ Z i N
 | .opq _=>True
theorem bK.ext {ρ ρ':LV}{Z Z':a8}(e:iY ρ ρ')(l:Z.le Z'){i:Nat}{c:aE}(h:bK ρ Z i c):bK ρ' Z' i c:=by
 cases c with
 | lst | tup=>obtain ⟨a,vs,h1,h2,h3⟩:=h;exact ⟨a,vs,e.get h1,l _ _ h2,RL.ext e h3⟩
 | obj=>obtain ⟨a,dx,fv,h1,h2,h3,h4⟩:=h;exact ⟨a,dx,fv,e.get h1,l _ _ h2,l _ _ h3,h4.ext e⟩
 | dct=>obtain ⟨a,kv,h1,h2,h3⟩:=h;exact ⟨a,kv,e.get h1,l _ _ h2,h3.ext e⟩
 | isL=>obtain ⟨a,vs,h1,h2⟩:=h;exact ⟨a,vs,e.get h1,l _ _ h2⟩
 | rng=>obtain ⟨a,t,u,v,h1,h2⟩:=h;exact ⟨a,t,u,v,e.get h1,l _ _ h2⟩
 | opq=>(trivial)
def RE (env:Env)(ρ:LV):SL->Addr×an->Prop
 | .own i (.lst xs),p=>ρ[i]? =some (.ref p.1)/\∃ vs,p.2=.pls vs/\ak (af ρ) xs vs
 | .own i (.dct P7),p=>ρ[i]? =some (.ref p.1)/\∃ kv,p.2=.dct kv/\RF ρ P7 kv
 | .own i (.opq k),p=>ρ[i]? =some (.ref p.1)/\(k=1->∃ xs,p.2=.pls xs)/\(k=2->∃ kv,p.2=.dct kv)
 | .own _ _,_=>False
 | .cel x v,p=>env.cells.lookup x=some p.1/\∃ v',p.2=.cel v'/\RO ρ v v'
 | .oth,_=>True
theorem RE.ext {env:Env}{ρ ρ':LV}(e:iY ρ ρ'){a:SL}{p:Addr×an}(h:RE env ρ a p):RE env ρ' a p:=by
 cases a with
 | own i c=>
  cases c with
  | lst=>exact ⟨e.get h.1,h.2.imp fun U h=>⟨h.1,RL.ext e h.2⟩⟩
  | dct=>exact ⟨e.get h.1,h.2.imp fun U h=>⟨h.1,h.2.ext e⟩⟩
  | opq=>exact ⟨e.get h.1,h.2⟩
  | _=>exact h
 | cel=>exact ⟨h.1,h.2.imp fun U h=>⟨h.1,h.2.ext e⟩⟩
 | oth=>exact h
noncomputable def SL.isOpq:SL->Bool
 | .own _ (.opq _)=>true
 | _=>false
noncomputable def cont:List SL->dy->List an
 | x::l,p::R=>cond x.isOpq (p.2::cont l R) (cont l R)
 | _,_=>[]
theorem f9 {a:SL}{l:List SL}{p:Addr×an}{R:dy}(h:a.isOpq=false):cont (a::l) (p::R)=cont l R:=by show cond a.isOpq _ _=_;rw [h];rfl
theorem lB {x:SL}{l:List SL}{p:Addr×an}{R:dy}(h:x.isOpq=true):cont (x::l) (p::R)=p.2::cont l R:=by show cond x.isOpq _ _=_;rw [h];rfl
theorem Bo {x:SL}{p:Addr×an}{l l':List SL}{R R':dy}(e:cont l R=cont l' R'):cont (x::l) (p::R)=cont (x::l') (p::R'):=by show cond x.isOpq _ _=cond x.isOpq _ _;rw [e]
theorem vC {l:List SL}:cont l []=[]:=by cases l<;>rfl
theorem vD {a b:SL}{p:Addr×an}{l:List SL}:∀ {R:dy} {i:Nat},l[i]? =some a->a.isOpq=false->b.isOpq=false->cont (l.set i b) (R.set i p)=cont l R:=by
 induction l with
 | nil=>exact fun e=>nS e
 | cons x l ih=>
  intro R i e ha hb;cases R with
  | nil=>rw [List.set_nil,vC,vC]
  | cons q R=>
   cases i with
   | zero=>exact (f9 hb).trans (f9 (Pd e▸ha)).symm
   | succ i=>exact Bo (ih e ha hb)
section
variable (w:World)(B:Heap)(O:aP)(T:dy)(env:Env)
inductive Mf (s:bb)(ρ:LV)(γ:List an)(Z:a8)(h:Heap):Prop
 | mk (Zs:a8) (ms:List (Str×Option Value)) (R:dy) (_:Z.le Zs) (_:St w B O Zs ((env.locals,.ns ms)::(R++T)) h) (_:RM ρ s.loc ms) (_:ak (RE env ρ) s.led R) (_:cont s.led R=γ) (_:∀ p∈s.fz,bK ρ Zs p.1 p.2):Mf s ρ γ Z h
structure bL (s:bb)(ρ:LV)(γ:List an)(Z:a8)(h:Heap):Prop where
 len:ρ.length=s.nv
 ok:∀ x∈ρ,bA x=true
 st:Mf w B O T env s ρ γ Z h
noncomputable def gL (op:Op)(vs:LV):Sem Value:=match op,vs with
 | .call,f::vs=>PySem.call f vs
 | .expr e,_=>eval e env
 | .bin o,[a,b]=>binaryOp o a b
 | .inp o,[a,b]=>inplaceOp o a b
 | .un o,[a]=>unaryOp o a
 | .cmp o,[a,b]=>compareOp o a b
 | .sub v sl,[o,i]=>subscriptTail v sl o i
 | _,_=>PySem.call .none []
def oR (ρ:LV):SF->Flow->Prop
 | .next,.next=>True
 | .brk,.brk=>True
 | .cont,.cont=>True
 | .ret a,.ret v=>af ρ a v
 | _,_=>False
inductive eD {α β:Type}(R:LV->α->β->Prop)(Q:α->bb->LV->List an->a8->Prop)(ρ:LV)(b:β)(h:Heap):Prop
 | mk (a s' ρ' γ' Z') (_:iY ρ ρ') (_:R ρ' a b) (_:bL w B O T env s' ρ' γ' Z' h) (_:Q a s' ρ' γ' Z'):eD R Q ρ b h
end
section
variable (w:World)(B:Heap)(O:aP)(n:Nat)(env:Env)
def ao {α:Type}:IT α->LV->List an->a8->(α->bb->LV->List an->a8->Prop)->Prop
 | .ret a s,ρ,γ,Z,Q=>Q a s ρ γ Z
 | .askE op args s k,ρ,γ,Z,Q=>∀ T h vs,bL w B O T env s ρ γ Z h->ak (af ρ) args vs->
   W PW w n (gL env op vs) (eD w B O T env af (fun v s' ρ' γ' Z'=>ao (k v s') ρ' γ' Z' Q) ρ) h
 | .askS st s k,ρ,γ,Z,Q=>∀ T h,bL w B O T env s ρ γ Z h->
   W PW w n (exec st env) (eD w B O T env oR (fun v s' ρ' γ' Z'=>ao (k v s') ρ' γ' Z' Q) ρ) h
 | .askB a s k,ρ,γ,Z,Q=>∀ T h x,bL w B O T env s ρ γ Z h->af ρ a x->
   W PW w n (truthy x) (eD w B O T env (fun U a b=>a=b) (fun v s' ρ' γ' Z'=>ao (k v s') ρ' γ' Z' Q) ρ) h
 | .askU o i a s k,ρ,γ,Z,Q=>∀ T h x y z,bL w B O T env s ρ γ Z h->af ρ o x->af ρ i y->af ρ a z->
   W PW w n (setItem x y z) (eD w B O T env (fun U U U=>True) (fun (U:Unit) s' ρ' γ' Z'=>ao (k s') ρ' γ' Z' Q) ρ) h
 | .askL tg b a s k,ρ,γ,Z,Q=>∀ T h x,bL w B O T env s ρ γ Z h->af ρ a x->
   W PW w n (pyIter x) (zU w n tg b [] env (eD w B O T env oR (fun v s' ρ' γ' Z'=>ao (k v s') ρ' γ' Z' Q) ρ)) h
 | .al t,ρ,γ,Z,Q=>∀ a:Addr,ao t (ρ++[.ref a]) γ Z Q
 | .ter,_,_,_,_=>False
structure ae {α:Type}(t:IT α)(ρ:LV)(γ:List an)(Z:a8)(Q:α->bb->LV->List an->a8->Prop):Prop where
 run:ao w B O n env t ρ γ Z Q
end
section
variable {w:World}{B:Heap}{O:aP}{T:dy}{n:Nat}{env:Env}{ρ:LV}{γ:List an}{Z:a8}{h:Heap}
variable {α β : Type}
theorem eD.mono{R:LV->α->β->Prop}{Q Q':α->bb->LV->List an->a8->Prop}{b:β}(x:eD w B O T env R Q ρ b h)(f:∀ a s ρ γ Z,Q a s ρ γ Z->Q' a s ρ γ Z):eD w B O T env R Q' ρ b h:=let ⟨a,s,ρ',γ',Z',e,r,S,q⟩:=x;⟨a,s,ρ',γ',Z',e,r,S,f _ _ _ _ _ q⟩
theorem eD.ext{R:LV->α->β->Prop}{Q:α->bb->LV->List an->a8->Prop}{ρ0:LV}{b:β}(e0:iY ρ0 ρ)(x:eD w B O T env R Q ρ b h):eD w B O T env R Q ρ0 b h:=let ⟨a,s,ρ',γ',Z',e,r,S,q⟩:=x;⟨a,s,ρ',γ',Z',e0.trans e,r,S,q⟩
theorem bL.elim {s:bb}{P:Prop}(S:bL w B O T env s ρ γ Z h)(k:∀ Zs ms R,Z.le Zs->St w B O Zs ((env.locals,.ns ms)::(R++T)) h->RM ρ s.loc ms->ak (RE env ρ) s.led R->cont s.led R=γ->(∀ p∈s.fz,bK ρ Zs p.1 p.2)->P):P:=let ⟨Zs,ms,R,a,b,c,d,e,f⟩:=S.st;k Zs ms R a b c d e f
theorem RY.mono {tg:Expr}{b:List Stmt}{Q Q':Flow->Heap->Prop}(f:∀ v h,Q v h->Q' v h){x:Value}{h:Heap}(g:zU w n tg b [] env Q x h):zU w n tg b [] env Q' x h:=.mk fun A a d tk os hA=>g.to hA fun U U U q=>aI (f _ _ q)
theorem ao.bind{Q:β->bb->LV->List an->a8->Prop}{f:α->bb->IT β}{t:IT α}:∀ {ρ:LV} {γ:List an} {Z:a8},ao w B O n env (t.bind f) ρ γ Z Q->ao w B O n env t ρ γ Z (fun a s ρ' γ' Z'=>ao w B O n env (f a s) ρ' γ' Z' Q):=by
 induction t with
 | ret | ter=>exact fun h=>h
 | askE _ _ _ _ ih=>exact fun h T hp vs S r=>(h T hp vs S r).mono fun U U x=>x.mono fun U U U U U g=>ih _ _ g
 | askS _ _ _ ih=>exact fun h T hp S=>(h T hp S).mono fun U U x=>x.mono fun U U U U U g=>ih _ _ g
 | askB _ _ _ ih=>exact fun h T hp x S r=>(h T hp x S r).mono fun U U x=>x.mono fun U U U U U g=>ih _ _ g
 | askU _ _ _ _ _ ih=>exact fun h T hp x y z S r1 r2 r3=>(h T hp x y z S r1 r2 r3).mono fun U U x=>x.mono fun U U U U U g=>ih _ g
 | askL _ _ _ _ _ ih=>exact fun h T hp x S r=>(h T hp x S r).mono fun U U x=>RY.mono (fun U U x=>x.mono fun U U U U U g=>ih _ _ g) x
 | al _ ih=>exact fun h a=>ih (h a)
end
noncomputable section
def H5:List (Str×Addr):=[(su,fB),(sw,eK),(sx,gH),(sy,dZ),(sB,jB),(sL,oK),(nI,gI),(sQ,kY),(nJ,dw),(e6,e7),(lN,hW),(nK,dF),(nL,fT),(lO,di),(lP,cL),(nM,ka),(nN,cV),(jA,bh),(eU,dU),(g6,ge),(lR,mN),(lS,fM),(db,iE),(i7,mP),(dc,dj),(dH,dl),(eG,iP),(g8,lT),(dI,j5),(dJ,gf),(eH,ke),(dK,i8),(cO,e9),(dL,j7),(dM,cS),(cb,cf),(dN,dm),(dO,eM),(dP,aS),(cy,eN),(ce,fN),(eI,bT),(de,aw),(dQ,j8),(cQ,bJ),(dg,aC),(cR,cT),(bf,bQ),(pY,qk),(gG,657)]
def H6:List (Addr×List (Str×Addr)):=[(mN,[(g7,ba),(fm,eZ),(aK,e8),(d8,aq),(tQ,dW),(pX,f6),(j4,bC)]),(ge,[(am,eY),(aK,eq),(g7,aZ),(d8,ah),(jW,bp),(lQ,dE)]),(fM,[(jY,hY),(tS,f7)])]
def px:List (Addr×List Str):=[(fB,[am]),(eK,[fS,bG]),(gH,[kS,br]),(dZ,[aO,aB]),(jB,[aR,aB,gw]),(oK,[i6,bX,aB]),(gI,[bG,am,bY,bn]),(kY,[am,br]),(dw,[eB,br]),(e7,[aR,gX,gE]),(hW,[fm]),(dF,[am,aK]),(fT,[iN,aK]),(di,[eB,aK]),(cL,[cj,am,bY,bn]),(ka,[i6,bX,aB]),(cV,[aR,aB]),(bh,[ck,aO,aB,aL]),(dU,[aR,gX,gE]),(ge,[dY]),(mN,[iz,mL])]
def H7:List (Addr×List Str):=(fM,[cm,gc])::px
def Et:List Addr:=[fB,eK,gH,dZ,jB,oK,gI,kY,dw,e7,hW,dF,fT,di,cL,ka,cV,bh,dU,ge,mN,fM,iE,mP,dj,dl,iP,lT,j5,gf,ke,i8,e9,j7,cS,cf,dm,eM,aS,eN,fN,bT,aw,j8,bJ,aC,cT,bQ,qk,ba,eZ,e8,aq,dW,f6,bC,eY,eq,aZ,ah,bp,dE,hY,f7]
noncomputable def H8:KV:=[(⟨⟨[105,110,116]⟩⟩,.type "int"),(⟨⟨[115,116,114]⟩⟩,.type "str"),(⟨⟨[100,105,99,116]⟩⟩,.type "dict"),(⟨⟨[108,105,115,116]⟩⟩,.type "list"),(⟨⟨[122,105,112]⟩⟩,.type "zip"),(⟨⟨[114,97,110,103,101]⟩⟩,.type "range"),(⟨⟨[109,97,120]⟩⟩,.builtin "max"),(⟨⟨[109,105,110]⟩⟩,.builtin "min"),(⟨⟨[108,101,110]⟩⟩,.builtin "len"),(⟨⟨[105,115,105,110,115,116,97,110,99,101]⟩⟩,.builtin "isinstance")]
def kI {α:Type}(l:List (Addr×α))(x:Addr):Option α:=t9 Nat.beq l x
def gQ {α:Type}(l:List (Nat×α))(x:Nat):Option α:=t9 Nat.beq l x
def my (l:List Str)(x:Str):Bool:=l.any (seq · x)
noncomputable def mq:List SL->Nat->Option aE
 | [],_=>none
 | .own j c::l,i=>cond (Nat.beq j i) (some c) (mq l i)
 | _::l,i=>mq l i
def oS:List SL->Str->Option (Nat×Option SV)
 | [],_=>none
 | .cel y v::l,x=>cond (seq y x) (some (0,v)) ((oS l x).map fun p=>(p.1+1,p.2))
 | _::l,x=>(oS l x).map fun p=>(p.1+1,p.2)
structure FI where
 names:List (Str×NameKind)
 frz:Bool
def G1 (F:FI)(x:Str)(s:bb):IT SV:=oB (look F.names x) (fun k=>match k with
 | .local=>oB (look s.loc x) (fun o=>oB o (fun a=>.ret a s) .ter) .ter
 | .cell=>oB (oS s.led x) (fun p=>oB p.2 (fun a=>.ret a s) .ter) .ter
 | .free=>oB (oS s.led x) (fun p=>oB p.2 (fun a=>.ret a s) .ter) .ter
 | .globalImplicit=>oB (look H5 x) (fun a=>.ret (.k (.ref a)) s) (oB (look H8 x) (fun v=>.ret (.k v) s) .ter)
 | _=>.ter) .ter
noncomputable def mh (op:Op)(args:List SV)(s:bb):IT SV:=.askE op args s fun r s'=>.ret r s'
def SV.okB:SV->Bool
 | .k y=>bA y
 | _=>true
def G2 (name:Str)(o:SV)(s:bb):IT SV:=match o with
 | .v i=>oB (gQ s.fz i) (fun c=>match c with
  | .obj C fs=>oB (kI H7 C) (fun ns=>bB (my ns name) (oB (look fs name) (fun a=>bB a.okB (.ret a s) .ter) .ter) .ter) .ter
  | _=>.ter) .ter
 | _=>.ter
noncomputable def yq:Expr->Bool
 | .Name .. =>true
 | .Attribute .. =>true
 | .Subscript .. =>true
 | _=>false
def Mh (xs:List SV)(m:Nat)(s:bb):IT SV:=bB (Nat.ble m 100) (oB xs[m]? (fun a=>.ret a s) .ter) .ter
def H9 (vo vi:Expr)(o i:SV)(s:bb):IT SV:=match o with
 | .v j=>match i with
  | .int z=>oB (gQ s.fz j) (fun c=>match c with
   | .lst xs=>match z with
    | .ofNat m=>Mh xs m s
    | .negSucc _=>mh (.sub vo vi) [o,i] s
   | .tup xs=>match z with
    | .ofNat m=>Mh xs m s
    | .negSucc _=>.ter
   | _=>mh (.sub vo vi) [o,i] s) (mh (.sub vo vi) [o,i] s)
  | .str x=>oB (gQ s.fz j) (fun c=>match c with
   | .dct P7=>oB (look P7 x) (fun a=>.ret a s) .ter
   | _=>mh (.sub vo vi) [o,i] s) (mh (.sub vo vi) [o,i] s)
  | _=>mh (.sub vo vi) [o,i] s
 | _=>mh (.sub vo vi) [o,i] s
noncomputable def pJ (a:SV):Bool:=match a with
 | .k y=>match y with
  | .none=>true
  | _=>false
 | _=>false
noncomputable def Bp:aE->Bool
 | .opq _=>false
 | _=>true
def uj (a:SV)(s:bb):Option Bool:=match a with
 | .k y=>match y with
  | .none=>some true
  | .bool _=>some false
  | .ref _=>some false
  | _=>none
 | .int _=>some false
 | .str _=>some false
 | .v i=>oB (gQ s.fz i) (fun c=>bB (Bp c) (some false) none) (oB (mq s.led i) (fun U=>some false) none)
noncomputable def Mi:aE->Option (List SV)
 | .lst xs=>some xs
 | _=>none
def OB (i:Nat):SL->Option (List SV)
 | .own j c=>cond (Nat.beq j i) (Mi c) none
 | _=>none
def vE:List SL->Nat->Option (Nat×List SV)
 | [],_=>none
 | a::l,i=>oB (OB i a) (fun xs=>some (0,xs)) ((vE l i).map fun p=>(p.1+1,p.2))
def ko (a:SV)(s:bb):Option (List SV):=match a with
 | .v i=>oB (gQ s.fz i) (fun c=>match c with
  | .lst xs=>some xs
  | _=>none) (oB (vE s.led i) (fun p=>some p.2) none)
 | _=>none
noncomputable def fj (c:aE)(s:bb):bb:={s with fz:=(s.nv,c)::s.fz,nv:=s.nv+1}
noncomputable def nc (c:aE)(s:bb):bb:={s with led:=.own s.nv c::s.led,nv:=s.nv+1}
def Ha (xs:List SV)(s:bb):Option (IT SV):=bB (Nat.ble xs.length 100) (some (.al (.ret (.v s.nv) (fj (.lst xs) s)))) none
def uk (a b:SV)(s:bb)(f:Bool->Bool):Option Bool:=oB (ko b s) (fun ys=>match ys with
 | []=>oB (ko a s) (fun xs=>some (f xs.isEmpty)) none
 | _=>none) none
def Eu (op:CmpOp)(a b:SV)(s:bb):Option Bool:=match op with
 | .NotEq=>uk a b s not
 | .Eq=>match a with
  | .int p=>match b with
   | .int q=>some (p==q)
   | _=>uk a b s id
  | .str x=>match b with
   | .str y=>some (seq x y)
   | _=>uk a b s id
  | .k u=>match u with
   | .bool p=>match b with
    | .k v=>match v with
     | .bool q=>some (p==q)
     | _=>uk a b s id
    | _=>uk a b s id
   | _=>uk a b s id
  | _=>uk a b s id
 | .Lt=>match a with
  | .int p=>match b with
   | .int q=>some (decide (p < q))
   | _=>none
  | _=>none
 | .Gt=>match a with
  | .int p=>match b with
   | .int q=>some (decide (p > q))
   | _=>none
  | _=>none
 | _=>none
def Mj (a b:SV)(s:bb):Option (IT SV):=oB (ko a s) (fun xs=>oB (ko b s) (fun ys=>Ha (xs++ys) s) none) none
def Mk (op:Operator)(a b:SV)(s:bb):Option (IT SV):=match op with
 | .Add=>match a with
  | .int p=>match b with
   | .int q=>some (.ret (.int (p+q)) s)
   | _=>none
  | _=>Mj a b s
 | .Sub=>match a with
  | .int p=>match b with
   | .int q=>some (.ret (.int (p - q)) s)
   | _=>none
  | _=>none
 | _=>none
def Bq (xs:Option (List SV)):Option (List SV):=oB xs (fun xs=>bB (Nat.ble xs.length 100) (some xs) none) none
noncomputable def G3:SV->Option Nat
 | .int (.ofNat m)=>some m
 | _=>none
def qO (c:Nat->List SV->List SV)(o a:SV)(s:bb):IT SV:=oB (Bq (ko o s)) (fun xs=>oB (G3 a) (fun m=>.al (.ret (.v s.nv) (fj (.lst (c m xs)) s))) .ter) .ter
noncomputable def Ml:SV->Bool
 | .int (.negSucc 0)=>true
 | _=>false
def NT (o st:SV)(s:bb):IT SV:=oB (Bq (ko o s)) (fun xs=>bB (Ml st) (.al (.ret (.v s.nv) (fj (.lst xs.reverse) s))) .ter) .ter
def G4 (b:String)(a x:SV)(s:bb):Option (IT SV):=bB (b=="list.append") (match a with
  | .v i=>oB (vE s.led i) (fun p=>bB (Nat.ble p.2.length 100) (some (.ret (.k .none) {s with led:=s.led.set p.1 (.own i (.lst (p.2++[x])))})) none) none
  | _=>none)
 (bB (b=="min") (match a with
  | .int p=>match x with
   | .int q=>some (.ret (.int (if q < p then q else p)) s)
   | _=>none
  | _=>none) none)
def G5 (b:String)(a:SV)(s:bb):Option (IT SV):=bB (b=="len") (oB (ko a s) (fun xs=>bB (Nat.ble xs.length 100) (some (.ret (.int xs.length) s)) none) none) none
def G6 (b:String)(a:SV)(s:bb):Option (IT SV):=bB (b=="list") (oB (ko a s) (fun xs=>Ha xs s) none) (bB (b=="range") (match a with
  | .int z=>match z with
   | .ofNat m=>some (.al (.ret (.v s.nv) (fj (.rng m) s)))
   | _=>none
  | _=>none) none)
def G7 (f:SV)(vs:List SV)(s:bb):Option (IT SV):=match f with
 | .k y=>match vs with
  | a::l=>match l with
   | []=>match y with
    | .builtin b=>G5 b a s
    | .type b=>G6 b a s
    | _=>none
   | x::l=>match l with
    | []=>match y with
     | .builtin b=>G4 b a x s
     | _=>none
    | _=>none
  | _=>none
 | _=>none
def wX (op:Op)(args:List SV)(f:Bool->Bool)(o:Option Bool)(s:bb):IT SV:=oB o (fun t=>.ret (.k (.bool (f t))) s) (mh op args s)
def Ew (op:CmpOp)(a b:SV)(s:bb):IT SV:=match pJ b with
 | true=>match op with
  | .Is=>wX (.cmp op) [a,b] id (uj a s) s
  | .IsNot=>wX (.cmp op) [a,b] not (uj a s) s
  | _=>wX (.cmp op) [a,b] id (Eu op a b s) s
 | false=>wX (.cmp op) [a,b] id (Eu op a b s) s
noncomputable def mz (a:SV)(s:bb):IT Bool:=match a with
 | .k (.bool b)=>.ret b s
 | _=>.askB a s fun b s'=>.ret b s'
def wY (C:Addr)(a:SV):Option Bool:=match a with
 | .k y=>match y with
  | .ref D=>oB (kI px C) (fun U=>oB (kI px D) (fun U=>some (Nat.beq C D)) none) none
  | _=>none
 | _=>none
def ul (C:Addr):List SV->Option Bool
 | []=>some false
 | a::l=>oB (wY C a) (fun b=>bB b (some true) (ul C l)) none
def Br (x:SV)(s:bb):Option Addr:=match x with
 | .v i=>oB (gQ s.fz i) (fun c=>match c with
  | .obj C _=>some C
  | _=>none) none
 | _=>none
def NU (x:SV)(s:bb):Option Bool:=match x with
 | .int _=>some false
 | .v i=>oB (gQ s.fz i) (fun c=>match c with
  | .lst _=>some true
  | .isL=>some true
  | .tup _=>some false
  | _=>none) none
 | _=>none
def Mn (x T:SV)(s:bb):Option Bool:=match T with
 | .k y=>match y with
  | .ref D=>oB (Br x s) (fun C=>wY C (.k (.ref D))) none
  | .type t=>bB (t=="list") (NU x s) none
  | _=>none
 | .v j=>oB (gQ s.fz j) (fun c=>match c with
  | .tup l=>match l with
   | D::Ds=>oB (Br x s) (fun C=>ul C (D::Ds)) none
   | _=>none
  | _=>none) none
 | _=>none
def Bs (f:SV)(vs:List SV)(s:bb):IT SV:=oB (G7 f vs s) id (mh .call (f::vs) s)
def Bt (f:SV)(vs:List SV)(s:bb):IT SV:=match f with
 | .k y=>match y with
  | .builtin b=>bB (b=="isinstance") (match vs with
   | x::l=>match l with
    | T::l=>match l with
     | []=>wX .call (f::vs) id (Mn x T s) s
     | _=>.ter
    | _=>.ter
   | _=>.ter) (Bs f vs s)
  | .ref C=>oB (kI px C) (fun ns=>bB (Nat.beq ns.length vs.length && vs.all SV.okB) (.al (.ret (.v s.nv) (fj (.obj C (ns.zip vs)) s))) .ter) (mh .call (f::vs) s)
  | .type _=>Bs f vs s
  | _=>.ter
 | _=>.ter
def NV (name:Str)(o:SV):Option (SV×SV):=bB (seq name ⟨⟨[97,112,112,101,110,100]⟩⟩) (some (.k (.builtin "list.append"),o)) (bB (seq name ⟨⟨[101,120,116,101,110,100]⟩⟩) (some (.k (.builtin "list.extend"),o)) none)
def NX (name:Str)(o:SV):Option (SV×SV):=bB (seq name ⟨⟨[117,112,100,97,116,101]⟩⟩) (some (.k (.builtin "dict.update"),o)) (bB (seq name ⟨⟨[103,101,116]⟩⟩) (some (.k (.builtin "dict.get"),o)) none)
def G8 (name:Str)(o:SV)(s:bb):Option (SV×SV):=match o with
 | .v i=>oB (gQ s.fz i) (fun c=>match c with
  | .obj C fs=>oB (look fs name) (fun U=>none) (oB (kI H6 C) (fun ms=>oB (look ms name) (fun f=>some (.k (.ref f),o)) none) none)
  | .dct _=>bB (seq name ⟨⟨[103,101,116]⟩⟩) (some (.k (.builtin "dict.get"),o)) none
  | _=>none) (oB (mq s.led i) (fun c=>match c with
   | .lst _=>NV name o
   | .dct _=>NX name o
   | .opq k=>bB (Nat.beq k 1) (NV name o) (bB (Nat.beq k 2) (NX name o) none)
   | _=>none) none)
 | .str _=>bB (seq name ⟨⟨[114,102,105,110,100]⟩⟩) (some (.k (.builtin "str.rfind"),o)) none
 | _=>none
noncomputable def Ey (l:List Addr)(x:Addr):Bool:=l.any (Nat.beq · x)
def NY (noArgs:Bool):Value->Bool
 | .builtin _=>true
 | .type _=> !noArgs
 | .ref C=>Ey Et C
 | _=>false
def vF (f:SV)(noArgs:Bool):Bool:=match f with
 | .k v=>NY noArgs v
 | _=>false
noncomputable def pK:Expr->Bool
 | .Name .. =>true
 | _=>false
structure s6 where
 e:Expr->bb->IT SV
 es:List Expr->bb->IT (List SV)
 t:Expr->bb->IT Bool
 a:BoolOp->List Expr->bb->IT Bool
noncomputable def Bu (r:s6)(args:List Expr)(s:bb)(k:List SV->bb->IT SV):IT SV:=match args with
 | []=>k [] s
 | a::l=>(r.es (a::l) s).bind k
def Bv (F:FI)(r:s6)(e:Expr)(s:bb):IT SV:=match e with
 | .Name x _=>G1 F x s
 | .Constant (.int i) _ _=>.ret (.int i) s
 | .Constant (.str x) _ _=>.ret (.str x) s
 | .Constant .none _ _=>.ret (.k .none) s
 | .Constant (.bool b) _ _=>.ret (.k (.bool b)) s
 | .Attribute o name _=>bB (yq o) ((r.e o s).bind (G2 name)) .ter
 | .Subscript o (.Slice (some lo) none none _) _=>bB (pK o) ((r.e o s).bind fun vo s=>(r.e lo s).bind fun vl s=>qO List.drop vo vl s) .ter
 | .Subscript o (.Slice none (some hi) none _) _=>bB (pK o) ((r.e o s).bind fun vo s=>(r.e hi s).bind fun vl s=>qO List.take vo vl s) .ter
 | .Subscript o (.Slice none none (some st) _) _=>bB (pK o) ((r.e o s).bind fun vo s=>(r.e st s).bind fun vl s=>NT vo vl s) .ter
 | .Subscript o i _=>bB (dz i) ((r.e o s).bind fun vo s=>(r.e i s).bind fun vi s=>H9 o i vo vi s) .ter
 | .Call (.Name f p) args [] _=>bB (args.all cN) ((r.e (.Name f p) s).bind fun vf s=>bB (vF vf args.isEmpty) (Bu r args s fun vs s=>Bt vf vs s) .ter) .ter
 | .Call (.Attribute o name apos) args [] pos=>bB (yq o && (args.all cN && (Nat.ble args.length 20 && Nat.beq apos.endLine pos.line))) ((r.e o s).bind fun vo s=>oB (G8 name vo s) (fun p=>Bu r args s fun vs s=>Bt p.1 (p.2::vs) s) .ter) .ter
 | .BinOp l op q _=>(r.e l s).bind fun a s=>(r.e q s).bind fun b s=>oB (Mk op a b s) id (mh (.bin op) [a,b] s)
 | .UnaryOp .USub x _=>(r.e x s).bind fun a s=>match a with
  | .int z=>.ret (.int (-z)) s
  | _=>mh (.un .USub) [a] s
 | .Compare l [op] [q] _=>bB (behindInMarks op q) .ter ((r.e l s).bind fun a s=>(r.e q s).bind fun b s=>Ew op a b s)
 | .IfExp c b o _=>(r.t c s).bind fun t s=>bB t (r.e b s) (r.e o s)
 | .Tuple es _ _=>bB (es.all cN) ((r.es es s).bind fun vs s=>bB (Nat.ble vs.length 100) (.al (.ret (.v s.nv) (fj (.tup vs) s))) .ter) .ter
 | .List es _=>bB (es.all cN) ((r.es es s).bind fun vs s=>bB (Nat.ble vs.length 100) (bB (F.frz && !es.isEmpty) (.al (.ret (.v s.nv) (fj (.lst vs) s))) (.al (.ret (.v s.nv) (nc (.lst vs) s)))) .ter) .ter
 | .Dict [] [] _=>.al (.ret (.v s.nv) (nc (.dct []) s))
 | _=>mh (.expr e) [] s
noncomputable def Bw (r:s6)(es:List Expr)(s:bb):IT (List SV):=match es with
 | []=>.ret [] s
 | e::es=>(r.e e s).bind fun a s=>(r.es es s).bind fun l s=>.ret (a::l) s
def yr (r:s6)(e:Expr)(s:bb):IT Bool:=match e with
 | .UnaryOp .Not x _=>(r.t x s).bind fun b s=>.ret (!b) s
 | .BoolOp op vs _=>r.a op vs s
 | .Compare l [op] [q] _=>bB (behindInMarks op q) .ter ((r.e l s).bind fun a s=>(r.e q s).bind fun b s=>(Ew op a b s).bind mz)
 | .Name .. =>(r.e e s).bind mz
 | .Call .. =>(r.e e s).bind mz
 | .Attribute .. =>(r.e e s).bind mz
 | .Constant .. =>(r.e e s).bind mz
 | _=>.ter
noncomputable def G9 (r:s6)(op:BoolOp)(es:List Expr)(s:bb):IT Bool:=match es with
 | []=>match op with
  | .And=>.ret true s
  | .Or=>.ret false s
 | e::es=>match op with
  | .And=>(r.t e s).bind fun b s=>match b with
   | true=>r.a .And es s
   | false=>.ret false s
  | .Or=>(r.t e s).bind fun b s=>match b with
   | true=>.ret true s
   | false=>r.a .Or es s
def Ez (F:FI)(r:s6):s6:=⟨Bv F r,Bw r,yr r,G9 r⟩
def ev (F:FI):Nat->s6
 | 0=>⟨fun U U=>.ter,fun U U=>.ter,fun U U=>.ter,fun U U U=>.ter⟩
 | n+1=>Ez F (ev F n)
noncomputable def qP:Expr->Bool
 | .ListComp .. =>true
 | .SetComp .. =>true
 | .DictComp .. =>true
 | _=>false
def mA (F:FI)(x:Str)(a:SV)(s:bb):IT Unit:=oB (look F.names x) (fun k=>match k with
 | .local=>oB (A0 s.loc x) (fun j=>.ret () {s with loc:=s.loc.set j (x,some a)}) .ter
 | .cell=>oB (oS s.led x) (fun p=>.ret () {s with led:=s.led.set p.1 (.cel x (some a))}) .ter
 | _=>.ter) .ter
def lW (F:FI):List Str->List SV->bb->IT Unit
 | [],[],s=>.ret () s
 | x::xs,a::l,s=>(mA F x a s).bind fun U s=>lW F xs l s
 | _,_,_=>.ter
def pL (a:SV)(s:bb):Option (List SV):=match a with
 | .v i=>oB (gQ s.fz i) (fun c=>match c with
  | .tup xs=>some xs
  | .lst xs=>some xs
  | _=>none) none
 | _=>none
noncomputable def wZ:Expr->Option Str
 | .Name x _=>some x
 | _=>none
def kq:List Expr->Option (List Str)
 | []=>some []
 | e::es=>oB (wZ e) (fun x=>oB (kq es) (fun l=>some (x::l)) none) none
inductive um where
 | lst (i:Nat) | rng (N:Nat)
def fW (a:SV)(s:bb):Option (um×Nat×bb):=match a with
 | .v i=>oB (gQ s.fz i) (fun c=>match c with
  | .lst xs=>some (.lst i,xs.length,s)
  | .rng N=>bB (Nat.ble N 100) (some (.rng N,N,s)) none
  | _=>none) (oB (vE s.led i) (fun p=>some (.lst i,p.2.length,{s with led:=s.led.eraseIdx p.1,fz:=(i,.lst p.2)::s.fz})) none)
 | _=>none
noncomputable def x7:Expr->Bool
 | .Set .. =>true
 | _=>false
noncomputable def Ga:Expr->Bool
 | .Tuple .. =>true
 | _=>false
noncomputable def Gb {α:Type}:Sem α->Option α
 | .pure a=>some a
 | _=>none
noncomputable def Bx (F:FI):Env:={scope:=⟨.function,F.names,false,false,[]⟩,locals:=0,globals:=0,cells:=[]}
def NZ (F:FI)(ts vs:List Expr):Option (Option (List Str)):=Gb (swappedStores [.Tuple ts 0 default] (.Tuple vs 0 default) (Bx F))
def OC (F:FI)(ts vs:List Expr):Option (List Str):=oB (NZ F ts vs) id none
structure Ex where
 s:Stmt->bb->IT SF
 ss:List Stmt->bb->IT SF
def yt (F:FI)(tg:Expr)(a:SV)(s:bb):IT Unit:=match tg with
 | .Name x _=>mA F x a s
 | .Tuple ts _ _=>oB (kq ts) (fun xs=>oB (pL a s) (fun l=>bB (Nat.beq xs.length l.length) (lW F xs l s) .ter) .ter) .ter
 | _=>.ter
noncomputable def By (f:SF)(s:bb)(k:bb->IT SF):IT SF:=match f with
 | .next=>k s
 | .cont=>k s
 | .brk=>.ret .next s
 | .ret a=>.ret (.ret a) s
def si (tg:Expr)(K:um):Bool:=match K with
 | .lst _=>i9 tg
 | .rng _=>oB (wZ tg) (fun U=>true) false
def te (K:um)(j:Nat)(s:bb):Option (Option SV):=match K with
 | .lst i=>oB (gQ s.fz i) (fun c=>match c with
  | .lst xs=>some xs[j]?
  | _=>none) none
 | .rng N=>bB (Nat.ble N j) (bB (Nat.ble j N) (some none) none) (some (some (.int j)))
def EA (F:FI)(x:Ex)(tg:Expr)(body:List Stmt)(K:um):Nat->Nat->bb->IT SF
 | 0,j,s=>oB (te K j s) (fun o=>oB o (fun U=>.ter) (.ret .next s)) .ter
 | k+1,j,s=>oB (te K j s) (fun o=>oB o (fun a=>(yt F tg a s).bind fun U s=>(x.ss body s).bind fun f s=>By f s (EA F x tg body K k (j+1))) .ter) .ter
def Nd (r:s6)(x:Ex)(test:Expr)(body:List Stmt):Nat->bb->IT SF
 | 0,_=>.ter
 | k+1,s=>(r.t test s).bind fun b s=>match b with
  | true=>(x.ss body s).bind fun f s=>By f s (Nd r x test body k)
  | false=>.ret .next s
def OD (F:FI)(ts vs:List Expr):Bool:=oB (NZ F ts vs) (·.isNone) false
def Hb (F:FI)(r:s6)(ts:List Expr)(value:Expr)(s:bb):IT SF:=oB (kq ts) (fun xs=>(r.e value s).bind fun a s=>oB (pL a s) (fun l=>bB (Nat.beq xs.length l.length) ((lW F xs l s).bind fun U s=>.ret .next s) .ter) .ter) .ter
noncomputable def vG (st:Stmt)(s:bb):IT SF:=.askS st s fun f s'=>.ret f s'
def Gc (F:FI)(r:s6)(x:Ex)(st:Stmt)(s:bb):IT SF:=match st with
 | .Assign l value _=>match l with
  | t::l=>match l with
   | []=>bB (qP value) (vG st s) (match t with
    | .Name x _=>(r.e value s).bind fun a s=>(mA F x a s).bind fun U s=>.ret .next s
    | .Subscript o i _=>(r.e value s).bind fun a s=>(r.e o s).bind fun vo s=>(r.e i s).bind fun vi s=>.askU vo vi a s fun s=>.ret .next s
    | .Tuple ts _ _=>bB (Ga value) (match value with
      | .Tuple vs _ _=>oB (OC F ts vs) (fun xs=>(r.e value s).bind fun a s=>oB (pL a s) (fun l=>bB (Nat.beq xs.length l.length) ((lW F xs.reverse l.reverse s).bind fun U s=>.ret .next s) .ter) .ter)
       (bB (OD F ts vs) (Hb F r ts value s) .ter)
      | _=>.ter) (Hb F r ts value s)
    | _=>vG st s)
   | _=>vG st s
  | _=>vG st s
 | .For tg it body U4 _=>match U4 with
  | []=>bB (x7 it) .ter ((r.e it s).bind fun a s=>oB (fW a s) (fun p=>bB (si tg p.1) (EA F x tg body p.1 p.2.1 0 p.2.2) .ter) (.askL tg body a s fun f s=>.ret f s))
  | _=>vG st s
 | .While test body U4 _=>match U4 with
  | []=>Nd r x test body 40 s
  | _=>vG st s
 | .Return v _=>match v with
  | some e=>(r.e e s).bind fun a s=>.ret (.ret a) s
  | none=>vG st s
 | .If test body orelse _=>(r.t test s).bind fun b s=>bB b (x.ss body s) (x.ss orelse s)
 | .Expr e _=>bB (qP e) .ter ((r.e e s).bind fun a s=>bB (pJ a) (.ret .next s) .ter)
 | _=>vG st s
noncomputable def Bz (x:Ex)(l:List Stmt)(s:bb):IT SF:=match l with
 | []=>.ret .next s
 | st::l=>(x.s st s).bind fun f s=>match f with
  | .next=>x.ss l s
  | f=>.ret f s
def ex (F:FI):Nat->Ex
 | 0=>⟨fun U U=>.ter,fun U U=>.ter⟩
 | n+1=>⟨Gc F (ev F 40) (ex F n),Bz (ex F n)⟩
end
theorem iK {α:Type}{l:List (Addr×α)}{x:Addr}{a:α}(h:kI l x=some a):(x,a)∈l:=og Ph h
theorem cr {α:Type}{l:List (Nat×α)}{x:Nat}{a:α}(h:gQ l x=some a):(x,a)∈l:=og Ph h
theorem BA {l:List Addr}{x:Addr}(h:Ey l x=true):x∈l:=bM (List.any_eq_true.mp h) fun U m e=>Ph e▸m
theorem vH {l:List Str}{x:Str}(h:my l x=true):x∈l:=bM (List.any_eq_true.mp h) fun U m e=>iu e▸m
noncomputable def pz:Value->Nat×Nat×String
 | .none=>(0,0,"")
 | .bool b=>(1,cond b 1 0,"")
 | .ref a=>(2,a,"")
 | .builtin s=>(3,0,s)
 | .type s=>(4,0,s)
 | _=>(5,0,"")
noncomputable def O0 (k:Nat×Nat×String):Value:=cond (Nat.beq k.1 0) .none (cond (Nat.beq k.1 1) (.bool (Nat.beq k.2.1 1)) (cond (Nat.beq k.1 2) (.ref k.2.1) (cond (Nat.beq k.1 3) (.builtin k.2.2) (.type k.2.2))))
theorem vI {v:Value}(h:Nat.ble (pz v).1 4=true):O0 (pz v)=v:=by
 cases v with
 | bool b=>cases b<;>rfl
 | _=>first | rfl | exact nB h
def Id (a b:Value):Bool:=(Nat.ble (pz a).1 4 && Nat.ble (pz b).1 4) && (Nat.beq (pz a).1 (pz b).1 && (Nat.beq (pz a).2.1 (pz b).2.1 && (pz a).2.2==(pz b).2.2))
theorem qQ {a b:Value}(h:Id a b=true):a=b:=by simp only [Id,Bool.and_eq_true] at h;rw [<- vI h.1.1,<- vI h.1.2,show pz a=pz b from Prod.ext (Ph h.2.1) (Prod.ext (Ph h.2.2.1) (Pu h.2.2.2))]
noncomputable def Gd {α:Type}(f:α->Bool)(o:Option α):Bool:=o.any f
theorem mB {α:Type}{f:α->Bool}{a:α}(hf:∀ {b},f b=true->b=a){o:Option α}(h:Gd f o=true):o=some a:=by
 cases o with
 | none=>exact nB h
 | some b=>exact Pl some (hf h)
def x8 (o:Option (Option Value))(b:Addr):Bool:=Gd (Gd (Id · (.ref b))) o
theorem ti {o:Option (Option Value)}{b:Addr}(h:x8 o b=true):o=some (some (.ref b)):=mB (mB qQ) h
def Hc {α:Type}(o:Option (Option α)):Bool:=Gd (fun x=>x.isNone) o
theorem yu {α:Type}{o:Option (Option α)}(h:Hc o=true):o=some none:=mB Option.isNone_iff_eq_none.mp h
def yv (o:Option (Option Value))(b:String):Bool:=Gd (Gd (Id · (.builtin b))) o
theorem qS {o:Option (Option Value)}{b:String}(h:yv o b=true):o=some (some (.builtin b)):=mB (mB qQ) h
section
variable {P:Params}
variable {x : Str} {a : Addr} {ns : List Str} {α : Type} {R : LV->Prop}
theorem BC:(H5.all fun p=>x8 (nsIn (KF P) mainGlobals p.1) p.2)=true:=by kernel_rfl!
theorem BD:(Et.all fun a=>keepIn (KF P) (.ref a))=true:=by kernel_rfl!
theorem EB(h:look H5 x=some a):nsIn (KF P) mainGlobals x=some (some (.ref a)):=ti (OZ BC _ (lA h))
theorem yw(h:Ey Et a=true):keepIn (KF P) (.ref a)=true:=OZ BD _ (BA h)
def Mo (o:Option Value):Bool:=Gd (Id · (.type "function")) o
theorem EC {o:Option Value}(h:Mo o=true):o=some (.type "function"):=mB qQ h
theorem BE:(H6.all fun p=>(yv (findIn (KF P) (.ref p.1) (Str.ofString "__getattribute__")) "object.__getattribute__" && Hc (findIn (KF P) (.ref p.1) (Str.ofString "__getattr__"))) && p.2.all fun q=>x8 (findIn (KF P) (.ref p.1) q.1) q.2 && (Mo (typeIn (KF P) (.ref q.2)) && Ey Et q.2))=true:=by kernel_rfl!
theorem ED {C f:Addr}{ms:List (Str×Addr)}(h:kI H6 C=some ms)(h2:look ms x=some f):
  findIn (KF P) (.ref C) (Str.ofString "__getattribute__")=some (some (.builtin "object.__getattribute__"))/\findIn (KF P) (.ref C) (Str.ofString "__getattr__")=some none/\
   findIn (KF P) (.ref C) x=some (some (.ref f))/\typeIn (KF P) (.ref f)=some (.type "function")/\keepIn (KF P) (.ref f)=true:=by have q:=OZ (BE (P:=P)) _ (iK h);simp only [Bool.and_eq_true] at q;have r:=OZ q.2 _ (lA h2);simp only [Bool.and_eq_true] at r;exact mV (qS q.1.1) (yu q.1.2) (ti r.1) (EC r.2.1) (yw r.2.2)
theorem BF:(H7.all fun p=>yv (findIn (KF P) (.ref p.1) (Str.ofString "__getattribute__")) "object.__getattribute__" && (hasDictIn (KF P) p.1 && p.2.all fun x=>Hc (findIn (KF P) (.ref p.1) x)))=true:=by kernel_rfl!
theorem EE {C:Addr}(h:kI H7 C=some ns)(h2:my ns x=true):
  findIn (KF P) (.ref C) (Str.ofString "__getattribute__")=some (some (.builtin "object.__getattribute__"))/\hasDictIn (KF P) C=true/\findIn (KF P) (.ref C) x=some none:=by have q:=OZ (BF (P:=P)) _ (iK h);simp only [Bool.and_eq_true] at q;exact cF (qS q.1) q.2.1 (yu (OZ q.2.2 _ (vH h2)))
def isB (o:Option Bool)(b:Bool):Bool:=Gd (· ==b) o
theorem BG {o:Option Bool}{b:Bool}(h:isB o b=true):o=some b:=mB Pu h
theorem vJ:(px.all fun p=>(plainGet (KF P) p.1 (Str.ofString "__class__") && (hasDictIn (KF P) p.1 && (yv (findIn (KF P) (.ref p.1) (Str.ofString "__class__")) "object.__class__" && isB (mroIn (KF P) p.1 (.type "object")) true))) && px.all fun q=>isB (kitOne (KF P) (.ref p.1) (.ref q.1)) (Nat.beq p.1 q.1))=true:=by kernel_rfl!
theorem EF {C:Addr}(h:kI px C=some ns):Bn P C:=by have q:=OZ (vJ (P:=P)) _ (iK h);simp only [Bool.and_eq_true] at q;exact ⟨q.1.1,q.1.2.1,qS q.1.2.2.1,BG q.1.2.2.2⟩
theorem BH {C D:Addr}{ms : List Str}(h:kI px C=some ns)(h2:kI px D=some ms):kitOne (KF P) (.ref C) (.ref D)=some (Nat.beq C D):=by have q:=OZ (vJ (P:=P)) _ (iK h);simp only [Bool.and_eq_true] at q;exact BG (OZ q.2 _ (iK h2))
theorem EG{v:Value}(h:look H8 x=some v):nsIn (KF P) mainGlobals x=some none/\bootBuiltins x=some v/\x≠"__name__" :=by
 have:∀ p∈H8,nsIn (KF P) mainGlobals p.1=some none/\bootBuiltins p.1=some p.2/\p.1≠"__name__" :=by refine List.forall_mem_cons.mpr ⟨(cF LO LP (by decide +kernel)),List.forall_mem_cons.mpr ⟨(cF LQ LR (by decide +kernel)),List.forall_mem_cons.mpr ⟨(cF H0 H1 (by decide +kernel)),List.forall_mem_cons.mpr ⟨(cF H2 H4 (by decide +kernel)),List.forall_mem_cons.mpr ⟨(cF LS LT (by decide +kernel)),List.forall_mem_cons.mpr ⟨(cF Ep Er (by decide +kernel)),List.forall_mem_cons.mpr ⟨(cF LU LW (by decide +kernel)),List.forall_mem_cons.mpr ⟨(cF LX LY (by decide +kernel)),List.forall_mem_cons.mpr ⟨(cF LZ M0 (by decide +kernel)),List.forall_mem_cons.mpr ⟨(cF uh ui (by decide +kernel)),fun U h=>nomatch h⟩⟩⟩⟩⟩⟩⟩⟩⟩⟩
 exact this _ (lA h)
theorem BI{n:Nat}{l:List α}(h:n+1=l.length):∃ a m,l=a::m/\n=m.length:=by
 cases l with
 | nil=>exact nomatch h
 | cons a m=>exact me a m rfl (Nat.succ.inj h)
theorem uo{l:List α}(h:1=l.length):∃ a,l=[a]:=iQ (BI h) fun a m e h=>⟨a,by rw [e,List.length_eq_zero_iff.mp h.symm]⟩
theorem A1{l:List α}(h:2=l.length):∃ a b,l=[a,b]:=iQ (BI h) fun a m e h=>oE (uo h) fun b k=>wu a b (by rw [e,k])
theorem He{l:List α}(h:3=l.length):∃ a b c,l=[a,b,c]:=iQ (BI h) fun a m e h=>kC (A1 h) fun b c k=>qB a b c (by rw [e,k])
theorem Hf{l:List α}(h:4=l.length):∃ a b c d,l=[a,b,c,d]:=iQ (BI h) fun a m e h=>o3 (He h) fun b c d k=>qB a b c ⟨d,by rw [e,k]⟩
variable {w:World}{n:Nat}{h B:Heap}{O:aP}{Z:a8}{fr:Addr×an}{led:dy}{Q:VP}
theorem O1(k:∀ a,R [a])(vs:LV)(h:vs.length=1):R vs:=by refine oE (uo h.symm) fun a PL=>?_;subst PL;exact k a
theorem DN(k:∀ a b,R [a,b])(vs:LV)(h:vs.length=2):R vs:=by refine kC (A1 h.symm) fun a b PZ=>?_;subst PZ;exact k a b
theorem Mp(k:∀ a b c,R [a,b,c])(vs:LV)(h:vs.length=3):R vs:=by refine o3 (He h.symm) fun a b c PQ=>?_;subst PQ;exact k a b c
theorem O2(k:∀ a b c d,R [a,b,c,d])(vs:LV)(h:vs.length=4):R vs:=by refine o3 (Hf h.symm) fun a b c We=>?_;refine oE We fun d Q4=>?_;clear We;subst Q4;exact k a b c d
theorem EH {P:Params}:∀ p∈px,∃ f P9 xs,p.2=xs.map (·.1)/\xs.length<=100/\G0 P p.1 f P9 xs:=by
 unfold px;simp only [List.forall_mem_cons,List.not_mem_nil,false_implies,implies_true,and_true]
 and_intros
 ·exact bR q8 ql [(_,_,_,_,_)] rfl (Pf rfl) ({vs:=O1 fun U=>⟨by intro;kernel_rfl!,by intros;kernel_rfl!⟩})
 ·exact bR q9 qp [(_,_,_,_,_),(_,_,_,_,_)] rfl (Pf rfl) ({vs:=DN fun U U=>⟨by intro;kernel_rfl!,by intros;kernel_rfl!⟩})
 ·exact bR qc qq [(_,_,_,_,_),(_,_,_,_,_)] rfl (Pf rfl) ({vs:=DN fun U U=>⟨by intro;kernel_rfl!,by intros;kernel_rfl!⟩})
 ·exact bR qd qr [(_,_,_,_,_),(_,_,_,_,_)] rfl (Pf rfl) ({vs:=DN fun U U=>⟨by intro;kernel_rfl!,by intros;kernel_rfl!⟩})
 ·exact bR qh qw [(_,_,_,_,_),(_,_,_,_,_),(_,_,_,_,_)] rfl (Pf rfl) ({vs:=Mp fun U U U=>⟨by intro;kernel_rfl!,by intros;kernel_rfl!⟩})
 ·exact bR qi qx [(_,_,_,_,_),(_,_,_,_,_),(_,_,_,_,_)] rfl (Pf rfl) ({vs:=Mp fun U U U=>⟨by intro;kernel_rfl!,by intros;kernel_rfl!⟩})
 ·exact bR oZ pg [(_,_,_,_,_),(_,_,_,_,_),(_,_,_,_,_),(_,_,_,_,_)] rfl (Pf rfl) ({vs:=O2 fun U U U U=>⟨by intro;kernel_rfl!,by intros;kernel_rfl!⟩})
 ·exact bR qj qy [(_,_,_,_,_),(_,_,_,_,_)] rfl (Pf rfl) ({vs:=DN fun U U=>⟨by intro;kernel_rfl!,by intros;kernel_rfl!⟩})
 ·exact bR p7 ph [(_,_,_,_,_),(_,_,_,_,_)] rfl (Pf rfl) ({vs:=DN fun U U=>⟨by intro;kernel_rfl!,by intros;kernel_rfl!⟩})
 ·exact bR kc kf [(_,_,_,_,_),(_,_,_,_,_),(_,_,_,_,_)] rfl (Pf rfl) ({vs:=Mp fun U U U=>⟨by intro;kernel_rfl!,by intros;kernel_rfl!⟩})
 ·exact bR nP nV [(_,_,_,_,_)] rfl (Pf rfl) ({vs:=O1 fun U=>⟨by intro;kernel_rfl!,by intros;kernel_rfl!⟩})
 ·exact bR p8 pi [(_,_,_,_,_),(_,_,_,_,_)] rfl (Pf rfl) ({vs:=DN fun U U=>⟨by intro;kernel_rfl!,by intros;kernel_rfl!⟩})
 ·exact bR p9 pj [(_,_,_,_,_),(_,_,_,_,_)] rfl (Pf rfl) ({vs:=DN fun U U=>⟨by intro;kernel_rfl!,by intros;kernel_rfl!⟩})
 ·exact bR nQ nW [(_,_,_,_,_),(_,_,_,_,_)] rfl (Pf rfl) ({vs:=DN fun U U=>⟨by intro;kernel_rfl!,by intros;kernel_rfl!⟩})
 ·exact bR nR nX [(_,_,_,_,_),(_,_,_,_,_),(_,_,_,_,_),(_,_,_,_,_)] rfl (Pf rfl) ({vs:=O2 fun U U U U=>⟨by intro;kernel_rfl!,by intros;kernel_rfl!⟩})
 ·exact bR pa pn [(_,_,_,_,_),(_,_,_,_,_),(_,_,_,_,_)] rfl (Pf rfl) ({vs:=Mp fun U U U=>⟨by intro;kernel_rfl!,by intros;kernel_rfl!⟩})
 ·exact bR pd pq [(_,_,_,_,_),(_,_,_,_,_)] rfl (Pf rfl) ({vs:=DN fun U U=>⟨by intro;kernel_rfl!,by intros;kernel_rfl!⟩})
 ·exact bR mO mQ [(_,_,_,_,_),(_,_,_,_,_),(_,_,_,_,_),(_,_,_,_,_)] rfl (Pf rfl) ({vs:=O2 fun U U U U=>⟨by intro;kernel_rfl!,by intros;kernel_rfl!⟩})
 ·exact bR kK kL [(_,_,_,_,_),(_,_,_,_,_),(_,_,_,_,_)] rfl (Pf rfl) ({vs:=Mp fun U U U=>⟨by intro;kernel_rfl!,by intros;kernel_rfl!⟩})
 ·exact bR kZ lc [(_,_,_,_,_)] rfl (Pf rfl) ({vs:=O1 fun U=>⟨by intro;kernel_rfl!,by intros;kernel_rfl!⟩})
 ·exact bR nU nZ [(_,_,_,_,_),(_,_,_,_,_)] rfl (Pf rfl) ({vs:=DN fun U U=>⟨by intro;kernel_rfl!,by intros;kernel_rfl!⟩})
theorem Hg {C:Addr}{vals:LV}(hC:kI px C=some ns)(hl:ns.length=vals.length)(S:St w B O Z (fr::led) h)
  (q:∀ r Z' h',Z.le Z'->FY Z' r C (ns.zip vals)->St w B O Z' (fr::led) h'->Q r h'):W PW w (n+2) (call (.ref C) vals) Q h:=by refine fq (EH (P:=w.params) _ (iK hC)) fun f P9 xs Qt hz N=>?_;subst Qt;exact NS N (by rw [<- hl,List.length_map]) hz S q
end
structure bS (env:Env)(F:FI):Prop where
 names:env.scope.names=F.names
 kind:env.scope.kind=.function
 glob:env.globals=mainGlobals
 bi:env.builtins=builtinsNs
 dbg:(F.names.all fun p=>(p.1==("__debug__" :Str))==false && (p.1==("__classdict__" :Str))==false)=true
theorem ic {α:Type}{x:Str}{l:List (Str×α)}:l.lookup x=look l x:=by
 induction l with
 | nil=>rfl
 | cons p l ih=>rw [List.lookup_cons,show (x==p.1)=seq p.1 x by rw [pI];exact Bool.beq_comm ..,ih];show _=cond (seq p.1 x) (some p.2) (look l x);cases seq p.1 x<;>rfl
theorem bS.ok {env:Env}{F:FI}(E:bS env F){x:Str}{k:NameKind}(h:look F.names x=some k):rY env x k=true:=by
 have q:=OZ E.dbg _ (lA h);simp only [Bool.and_eq_true,beq_iff_eq] at q;unfold rY;rw [E.kind]
 have e:env.kindOf x=some k:=by unfold Env.kindOf;rw [E.names,ic,h]
 rw [e,q.1,q.2];simp
theorem bS.okg {env:Env}{F:FI}(E:bS env F){x:Str}(h:look F.names x=some .globalImplicit):E6 env x=true:=by unfold E6;rw [E.ok h,E.glob,E.bi];simp
theorem bS.interactive {env:Env}{F:FI}(E:bS env F):interactive env=false:=by unfold PySem.interactive;rw [E.kind];rfl
theorem bS.block {env:Env}{F:FI}(E:bS env F):env.blockKind=.function:=by unfold Env.blockKind;rw [E.kind];rfl
theorem RF.lookup {ρ:LV}{x:Str}{a:SV}{fs:List (Str×SV)}:∀ {fv:KV},RF ρ fs fv->look fs x=some a->∃ v,fv.lookup x=some v/\af ρ a v:=by
 induction fs with
 | nil=>exact fun U e=>nomatch e
 | cons p fs ih=>
  intro fv h e;cases fv with
  | nil=>exact h.elim
  | cons q fv=>
   rw [List.lookup_cons,<- h.1.1,show (x==p.1)=seq p.1 x by rw [pI];exact Bool.beq_comm ..];have e:cond (seq p.1 x) (some p.2) (look fs x)=_:=e;cases s:seq p.1 x with
   | true=>rw [s] at e;exact bw _ rfl (Pd e▸h.1.2)
   | false=>rw [s] at e;exact ih h.2 e
theorem RF.lookup_none {ρ:LV}{x:Str}{fs:List (Str×SV)}:∀ {fv:KV},RF ρ fs fv->look fs x=none->fv.lookup x=none:=by
 induction fs with
 | nil=>intro fv h _;cases fv with
  | nil=>rfl
  | cons=>exact h.elim
 | cons p fs ih=>
  intro fv h e;cases fv with
  | nil=>exact h.elim
  | cons q fv=>
   rw [List.lookup_cons,<- h.1.1,show (x==p.1)=seq p.1 x by rw [pI];exact Bool.beq_comm ..];have e:cond (seq p.1 x) (some p.2) (look fs x)=_:=e;cases s:seq p.1 x with
   | true=>rw [s] at e;exact nO e
   | false=>rw [s] at e;exact ih h.2 e
theorem RF.valueAt {ρ:LV}{x:Str}{a:SV}{fs:List (Str×SV)}:∀ {fv:KV},RF ρ fs fv->look fs x=some a->∃ v,valueAt fv x=some v/\af ρ a v:=by
 induction fs with
 | nil=>exact fun U e=>nomatch e
 | cons p fs ih=>
  intro fv h e;cases fv with
  | nil=>exact h.elim
  | cons q fv=>
   show ∃ v,((q::fv).find? fun kv=>decide (kv.1=x)).map (·.2)=some v/\_;rw [List.find?_cons,<- h.1.1];have e:cond (seq p.1 x) (some p.2) (look fs x)=_:=e;cases s:seq p.1 x with
   | true=>rw [s] at e;rw [Pt (iu s)];exact bw _ rfl (Pd e▸h.1.2)
   | false=>rw [s] at e;rw [Pr fun k=>by rw [k,nb] at s;cases s];exact ih h.2 e
theorem RM.look {ρ:LV}{l:List (Str×Option SV)}{m:List (Str×Option Value)}{x:Str}{a:SV}(h:RM ρ l m)(e:look l x=some (some a)):∃ (j:Nat) (v:Value),m[j]? =some (x,some v)/\af ρ a v:=by
 refine oE (List.getElem?_of_mem (lA e)) fun j hj=>?_;obtain ⟨⟨y,u⟩,h1,h2,h3⟩:=ak.get h hj;dsimp only at h2 h3;subst h2;cases u with
 | none=>exact h3.elim
 | some v=>exact me j v h1 h3
theorem oh {x:Str}{v:Option SV}{l:List SL}:∀ {i:Nat},oS l x=some (i,v)->l[i]? =some (.cel x v):=by
 induction l with
 | nil=>exact fun h=>nomatch h
 | cons a l ih=>
  intro i h;have Ve:(oS l x).map (fun p=>(p.1+1,p.2))=some (i,v)->(a::l)[i]? =some (.cel x v):=fun h=>M8 (P:=fun i=>(a::l)[i]? =some _) h fun j e=>ih e;cases a with
  | cel y u=>
   have h:cond (seq y x) (some (0,u)) ((oS l x).map fun p=>(p.1+1,p.2))=some (i,v):=h;cases e:seq y x with
   | true=>rw [e] at h;cases h;rw [iu e];rfl
   | false=>rw [e] at h;exact Ve h
  | _=>exact Ve h
theorem jE {x:Nat}{c:aE}{l:List SL}(h:mq l x=some c):∃ i:Nat,l[i]? =some (SL.own x c):=by
 induction l with
 | nil=>exact nS h
 | cons a l ih=>
  have Ve:mq l x=some c->∃ i:Nat,(a::l)[i]? =some (SL.own x c):=fun h=>(ih h).elim fun i q=>⟨i+1,q⟩
  cases a with
  | own j d=>
   have h:cond (Nat.beq j x) (some d) (mq l x)=some c:=h;cases e:Nat.beq j x with
   | true=>rw [e] at h;cases h;rw [Ph e];exact ⟨0,rfl⟩
   | false=>rw [e] at h;exact Ve h
  | _=>exact Ve h
theorem vK {T:dy}{R:dy}{fr p:Addr×an}{i:Nat}(h:R[i]? =some p):(fr::(R++T))[i+1]? =some p:=by rw [List.getElem?_cons_succ,List.getElem?_append_left (List.getElem?_eq_some_iff.mp h).1];exact h
theorem Hh {T:dy}{R:dy}{fr p q:Addr×an}{i:Nat}(h:R[i]? =some p):(fr::(R++T)).set (i+1) q=fr::(R.set i q++T):=by rw [List.set_cons_succ,List.set_append_left _ _ (List.getElem?_eq_some_iff.mp h).1]
theorem x9 {m k:Nat}(h:m < k):seqIndex? (Int.ofNat m) k=some m:=by
 unfold seqIndex?;have h1:¬ (Int.ofNat m) < 0:=by show ¬ (m:Int) < 0;lia
 rw [if_neg h1]
 have h2:(decide (0<=Int.ofNat m) && decide (Int.ofNat m < (k:Int)))=true:=by rw [Bool.and_eq_true,decide_eq_true_eq,decide_eq_true_eq];exact ⟨Int.natCast_nonneg m,by show (m:Int) < k;lia⟩
 simp only [h2,if_true];rfl
section
variable {w:World}{B:Heap}{O:aP}{T:dy}{n:Nat}{env:Env}{F:FI}{s:bb}{ρ:LV}{γ:List an}{Z:a8}{h:Heap}
abbrev QQ (α:Type):=α->bb->LV->List an->a8->Prop
theorem out {α β:Type}{R:LV->α->β->Prop}{Q:QQ α}{a:α}{b:β}(S:bL w B O T env s ρ γ Z h)(r:R ρ a b)(g:ao w B O n env (.ret a s) ρ γ Z Q):eD w B O T env R Q ρ b h:=⟨a,s,ρ,γ,Z,.refl _,r,S,g⟩
theorem kr {op:Op}{args:List SV}{vs:LV}{Q:QQ SV}(g:ao w B O n env (mh op args s) ρ γ Z Q)(S:bL w B O T env s ρ γ Z h)(r:ak (af ρ) args vs):W PW w n (gL env op vs) (eD w B O T env af Q ρ) h:=g T h vs S r
inductive Mq (w:World)(B:Heap)(O:aP)(T:dy)(env:Env)(ρ:LV)(Z:a8)(h:Heap)(i:Nat)(c:aE):Prop
 | mk (Zs:a8) (ms:List (Str×Option Value)) (R:dy) (_:Z.le Zs) (_:St w B O Zs ((env.locals,.ns ms)::(R++T)) h) (_:bK ρ Zs i c):Mq w B O T env ρ Z h i c
inductive Ge (w:World)(B:Heap)(O:aP)(T:dy)(env:Env)(ρ:LV)(Z:a8)(h:Heap)(i j:Nat)(c d:aE):Prop
 | mk (Zs:a8) (ms:List (Str×Option Value)) (R:dy) (_:Z.le Zs) (_:St w B O Zs ((env.locals,.ns ms)::(R++T)) h) (_:bK ρ Zs i c) (_:bK ρ Zs j d):Ge w B O T env ρ Z h i j c d
theorem bL.fact (S:bL w B O T env s ρ γ Z h){i:Nat}{c:aE}(e:gQ s.fz i=some c):Mq w B O T env ρ Z h i c:=by refine S.elim fun Zs ms R l Pz hm hR hc hf=>?_;exact ⟨Zs,ms,R,l,Pz,hf _ (cr e)⟩
theorem bL.fact2 (S:bL w B O T env s ρ γ Z h){i j:Nat}{c d:aE}(e:gQ s.fz i=some c)(e2:gQ s.fz j=some d):Ge w B O T env ρ Z h i j c d:=by refine S.elim fun Zs ms R l Pz hm hR hc hf=>?_;exact ⟨Zs,ms,R,l,Pz,hf _ (cr e),hf _ (cr e2)⟩
theorem bL.stk (S:bL w B O T env s ρ γ Z h):∃ Zs led,St w B O Zs led h:=S.elim fun Zs U U U Pz U U U U=>wu Zs _ Pz
theorem af.det {i:Nat}{x y:Value}(h:af ρ (.v i) x)(e:ρ[i]? =some y):x=y:=Pd (Eq.trans (Eq.symm h) e)
theorem bL.okB (S:bL w B O T env s ρ γ Z h):∀ {a:SV} {x:Value},a.okB=true->af ρ a x->bA x=true
 | .v _,_,_,r=>S.ok _ (Pn r)
 | .k _,_,e,r=>by cases r;exact e
 | .int _,_,_,⟨_,r⟩=>by cases r;rfl
 | .str _,_,_,⟨_,r⟩=>by cases r;rfl
section
variable {β:Type}{P:Prop}{α:Type}{Q:QQ α}{t':IT α}{r:β}
variable {b : Bool}
theorem AN {o:Option β}{f:β->IT α}(g:ao w B O n env (oB o f t') ρ γ Z Q)(k:∀ a,o=some a->ao w B O n env (f a) ρ γ Z Q->P)(k':o=none->ao w B O n env t' ρ γ Z Q->P):P:=match o,g,k,k' with
 | some a,g,k,_=>k a rfl g
 | none,g,_,k'=>k' rfl g
theorem mr {o:Option β}{f:β->IT α}(g:ao w B O n env (oB o f .ter) ρ γ Z Q)(k:∀ a,o=some a->ao w B O n env (f a) ρ γ Z Q->P):P:=AN g k fun U g=>g.elim
theorem EI{x:IT α}(g:ao w B O n env (bB b x t') ρ γ Z Q)(k:b=true->ao w B O n env x ρ γ Z Q->P)(k':b=false->ao w B O n env t' ρ γ Z Q->P):P:=match b,g,k,k' with
 | true,g,k,_=>k rfl g
 | false,g,_,k'=>k' rfl g
theorem pM{x:IT α}(g:ao w B O n env (bB b x .ter) ρ γ Z Q)(k:b=true->ao w B O n env x ρ γ Z Q->P):P:=EI g k fun U g=>g.elim
end
theorem BJ (E:bS env F){x:Str}{p:Pos}{Q:QQ SV}(g:ao w B O n env (G1 F x s) ρ γ Z Q)(S:bL w B O T env s ρ γ Z h):W PW w n (eval (.Name x p) env) (eD w B O T env af Q ρ) h:=
 S.elim fun Zs ms R l Pz hm hR hc hf=>mr g fun k hk g=>by
  cases k with
  | «local» =>refine mr g fun o hl g=>mr g fun a ha g=>?_;subst ha;refine iQ (RM.look hm hl) fun j v hj r=>?_;exact oN Pz (i:=0) rfl hj (out S r g) (E.ok hk)
  | cell=>
   refine mr g fun p hl g=>mr g fun a ha g=>?_;refine ju (ak.get hR (oh (i:=p.1) (v:=p.2) hl)) fun Qs h1 h2 v' h3 h4=>?_;obtain ⟨c,v⟩:=Qs;rw [ha] at h4;cases h3;cases v' with
   | none=>exact h4.elim
   | some v=>exact LE Pz (i:=p.1+1) (c:=c) (vK h1) (out S h4 g) h2 (E.ok hk)
  | free=>
   refine mr g fun p hl g=>mr g fun a ha g=>?_;refine ju (ak.get hR (oh (i:=p.1) (v:=p.2) hl)) fun QI h1 h2 v' h3 h4=>?_;obtain ⟨c,v⟩:=QI;rw [ha] at h4;cases h3;cases v' with
   | none=>exact h4.elim
   | some v=>exact GJ Pz (i:=p.1+1) (c:=c) h2 (vK h1) (out S h4 g) (E.ok hk)
  | globalExplicit=>exact g.elim
  | globalImplicit=>refine AN g (fun a hg g=>GK Pz (EB hg) (out S (show af ρ (.k _) _ from rfl) g) (E.okg hk)) fun U g=>mr g fun v hb g=>?_;refine ub (EG (P:=w.params) hb) fun h1 h2 h3=>?_;exact LF Pz h2 (out S (show af ρ (.k _) _ from rfl) g) h1 h3 (E.okg hk)
theorem BK {name:Str}{o:SV}{v:Value}{b:Bool}{Q:QQ SV}(g:ao w B O n env (G2 name o s) ρ γ Z Q)(S:bL w B O T env s ρ γ Z h)(r:af ρ o v):W PW w n (getAttr v name b) (eD w B O T env af Q ρ) h:=by
 cases o with
 | v i=>
  refine mr g fun c h1 g=>?_;cases c with
  | obj C fs=>refine mr g fun ns h2 g=>pM g fun h3 g=>mr g fun a h4 g=>pM g fun h5 g=>?_;obtain ⟨Zs,ms,R,l,Pz,a',dx,fv,f1,f2,f3,f4⟩:=S.fact h1;obtain rfl:=r.det f1;refine bM (f4.lookup h4) fun x hx hr=>?_;refine ub (EE (P:=w.params) h2 h3) fun t1 t2 t3=>?_;exact zN Pz (Pz.z f2) (Pz.z f3) hx (out S hr g) t1 t2 t3 (bA.handed (S.okB h5 hr))
  | _=>exact g.elim
 | _=>exact g.elim
theorem EJ {vo vi:Expr}{o i:SV}{x y:Value}{Q:QQ SV}(hs:dz vi=true)(g:ao w B O n env (H9 vo vi o i s) ρ γ Z Q)(S:bL w B O T env s ρ γ Z h)(r:af ρ o x)(r2:af ρ i y):
  W PW w n (subscriptTail vo vi x y) (eD w B O T env af Q ρ) h:=by
 have ask:∀ {Q:QQ SV},ao w B O n env (mh (.sub vo vi) [o,i] s) ρ γ Z Q->W PW w n (subscriptTail vo vi x y) (eD w B O T env af Q ρ) h:=fun g=>kr g S (vs:=[x,y]) (cF r r2 OU);cases o with
 | v j=>
  cases i with
  | int z=>
   refine AN g (fun c h1 g=>?_) fun U g=>ask g;cases c with
   | lst xs=>
    cases z with
    | ofNat m=>refine pM g fun hm g=>mr g fun a h2 g=>?_;obtain ⟨Zs,ms,R,l,Pz,a',vs,f1,f2,f3⟩:=S.fact h1;obtain rfl:=r.det f1;refine oE r2 fun t PQ=>?_;clear r2;subst PQ;refine bM (ak.get f3 h2) fun b hb rb=>?_;have hm:=Pf hm;exact yi (Pz.z f2) (Int.natCast_nonneg m) (by show (m:Int) < _;lia) hb (out S rb g) hs
    | negSucc m=>exact ask g
   | tup xs=>
    cases z with
    | ofNat m=>refine pM g fun hm g=>mr g fun a h2 g=>?_;obtain ⟨Zs,ms,R,l,Pz,a',vs,f1,f2,f3⟩:=S.fact h1;obtain rfl:=r.det f1;refine oE r2 fun t Q4=>?_;clear r2;subst Q4;refine bM (ak.get f3 h2) fun b hb rb=>?_;have hm:=Pf hm;have Rx:=(List.getElem?_eq_some_iff.mp hb).1;exact E9 (Pz.z f2) (by show (- 2 ^ 63:Int)<=(m:Int);lia) (by show (m:Int) < _;lia) (x9 Rx) hb (out S rb g) hs
    | negSucc m=>exact g.elim
   | _=>exact ask g
  | str k=>
   refine AN g (fun c h1 g=>?_) fun U g=>ask g;cases c with
   | dct P7=>refine mr g fun a h2 g=>?_;obtain ⟨Zs,ms,R,l,Pz,a',kv,f1,f2,f3⟩:=S.fact h1;obtain rfl:=r.det f1;refine oE r2 fun t Qu=>?_;clear r2;subst Qu;refine bM (f3.valueAt h2) fun b hb rb=>?_;exact yj (Pz.z f2) hb (out S rb g) hs
   | _=>exact ask g
  | _=>exact ask g
 | _=>exact ask g
end
section
variable {w:World}{B:Heap}{O:aP}{T:dy}{n:Nat}{env:Env}{F:FI}{s:bb}{ρ:LV}{γ:List an}{Z:a8}{h:Heap}
variable {i k2 : Nat} {c : aE} {p fr : Addr×an} {xs l : List SV} {v y fv : Value} {b f o : SV} {vs : LV} {h' : Heap} {Zs : a8} {R : dy} {s' : bb} {α β : Type} {name : Str} {pl : Sem Bool} {value : Expr} {ts : List Expr} {Qo U5 : Pos}
theorem BL {Z:a8}(f:bK ρ Z i c)(hr:Bp c=true):∃ a:Addr,ρ[i]? =some (.ref a):=by
 cases c with
 | lst=>obtain ⟨a,h⟩:=f;exact ⟨a,by assumption⟩
 | tup=>obtain ⟨a,h⟩:=f;exact ⟨a,by assumption⟩
 | obj=>obtain ⟨a,h⟩:=f;exact ⟨a,by assumption⟩
 | dct=>obtain ⟨a,h⟩:=f;exact ⟨a,by assumption⟩
 | isL=>obtain ⟨a,h⟩:=f;exact ⟨a,by assumption⟩
 | rng=>obtain ⟨a,h⟩:=f;exact ⟨a,by assumption⟩
 | opq=>exact nB hr
theorem pN(f:RE env ρ (.own i c) p):ρ[i]? =some (.ref p.1):=by
 cases c with
 | lst=>exact f.1
 | dct=>exact f.1
 | opq=>exact f.1
 | tup=>exact f.elim
 | obj=>exact f.elim
 | isL=>exact f.elim
 | rng=>exact f.elim
theorem qT {a:SV}{x:Value}{t:Bool}(S:bL w B O T env s ρ γ Z h)(r:af ρ a x)(e:uj a s=some t):(x==Value.none)=t:=by
 cases a with
 | k y=>cases y<;>first | exact jc e | (cases r;exact Pd e)
 | int z=>refine oE r fun U PL=>?_;clear r;subst PL;exact Pd e
 | str z=>refine oE r fun U PZ=>?_;clear r;subst PZ;exact Pd e
 | v i=>
  refine S.elim fun Zs ms R l Pz hm hR hc hf=>qN e (fun c q e=>ly e fun q' e=>?_) fun q e=>gK e fun c q e=>?_
  ·refine oE (BL (hf _ (cr q)) q') fun a ha=>?_;exact (Pl (· ==Value.none) (af.det r ha)).trans (Pd e)
  ·refine oE (jE q) fun i hi=>?_;refine bM (ak.get hR hi) fun p h1 h2=>?_;exact (Pl (· ==Value.none) (af.det r (pN h2))).trans (Pd e)
theorem Hi{a:SL}(h:OB i a=some xs):a=.own i (.lst xs):=by
 cases a with
 | own j c=>
  have h:cond (Nat.beq j i) (Mi c) none=some xs:=h;cases e:Nat.beq j i with
  | true=>
   rw [e] at h;rw [Ph e];cases c with
   | lst ys=>exact Pd h▸rfl
   | _=>exact nS h
  | false=>rw [e] at h;exact nS h
 | _=>exact nS h
theorem oi{l:List SL}:∀ {j:Nat},vE l i=some (j,xs)->l[j]? =some (.own i (.lst xs)):=by
 induction l with
 | nil=>exact fun h=>nS h
 | cons a l ih=>intro j h;refine qN h (fun ys e h=>?_) fun U h=>M8 (P:=fun i=>(a::l)[i]? =some _) h fun j e=>ih e;cases h;exact Pl some (Hi e)
theorem gg {P:Prop}{a:SV}(e:ko a s=some xs)(S:bL w B O T env s ρ γ Z h)(r:af ρ a v)(k:∀ la vs,v=.ref la->ci w h la (.lst vs)->ak (af ρ) xs vs->P):P:=by
 cases a with
 | v i=>
  refine S.elim fun Zs ms R l Pz hm hR hc hf=>qN e (fun c q e=>?_) fun q e=>gK e fun p q e=>?_
  ·cases c with
   | lst ys=>
    obtain ⟨la,vs,h1,h2,h3⟩:=(hf _ (cr q):bK ρ Zs _ (.lst _))
    exact k la vs (r.det h1) (Pz.z h2) (Pd e▸h3)
   | _=>exact jc e
  ·refine ju (ak.get hR (oi (j:=p.1) (xs:=p.2) q)) fun W9 h1 h2 vs h3 h4=>?_;obtain ⟨la,c⟩:=W9;cases h3;exact k la vs (r.det h2) (ci.l (Pz.get _ (vK h1))) (Pd e▸h4)
 | _=>exact jc e
theorem yx {a : SV}{x : Value}{t:Bool}{f:Bool->Bool}{P:Prop}(e:uk a b s f=some t)(S:bL w B O T env s ρ γ Z h)(r:af ρ a x)(r2:af ρ b y)(k:∀ la lb va,x=.ref la->y=.ref lb->ci w h la (.lst va)->ci w h lb (.lst [])->f va.isEmpty=t->P):P:=
 gK e fun ys e1 e=>by
  cases ys with
  | cons=>exact jc e
  | nil=>refine gK e fun xs e2 e=>gg (a:=b) e1 S r2 fun lb vb q1 hb rb=>gg (a:=a) e2 S r fun la va q2 ha ra=>?_;obtain rfl:=rb.nil_r;refine k la lb va q2 q1 ha hb ?_;cases xs<;>cases va<;>first | exact Pd e | exact ra.elim
theorem EK {op:CmpOp}{a : SV}{x : Value}{t:Bool}{Q:VP}(e:Eu op a b s=some t)(S:bL w B O T env s ρ γ Z h)(r:af ρ a x)(r2:af ρ b y)(q:Q (.bool t) h):W PW w n (compareOp op x y) Q h:=by
 have nn:uk a b s id=some t->W PW w n (compareOp .Eq x y) Q h:=fun e=>yx e S r r2 fun la lb va e1 e2 h1 h2 e=>by subst e1 e2 e;exact Ea h1 h2 q
 cases op with
 | NotEq=>refine yx e S r r2 fun la lb va e1 e2 h1 h2 e=>?_;subst e1 e2 e;exact jb h1 h2 q
 | Eq=>
  cases a with
  | int p=>
   cases b with
   | int z=>obtain rfl:=Pd e;refine oE r fun U Q4=>?_;clear r;subst Q4;refine oE r2 fun U Qu=>?_;clear r2;subst Qu;exact kD q
   | _=>exact nn e
  | str p=>
   cases b with
   | str z=>obtain rfl:=Pd e;refine oE r fun U Qt=>?_;clear r;subst Qt;refine oE r2 fun U R5=>?_;clear r2;subst R5;exact B7 (by rw [<- pI];exact q)
   | _=>exact nn e
  | k u=>
   cases u with
   | bool p=>
    cases b with
    | k v=>
     cases v with
     | bool z=>obtain rfl:=Pd e;cases r;cases r2;exact FW q
     | _=>exact nn e
    | _=>exact nn e
   | _=>exact nn e
  | v i=>exact nn e
 | Lt=>
  cases a with
  | int p=>
   cases b with
   | int z=>obtain rfl:=Pd e;refine oE r fun U Te=>?_;clear r;subst Te;refine oE r2 fun U Sn=>?_;clear r2;subst Sn;exact lm q
   | _=>exact jc e
  | _=>exact jc e
 | Gt=>
  cases a with
  | int p=>
   cases b with
   | int z=>obtain rfl:=Pd e;refine oE r fun U Vf=>?_;clear r;subst Vf;refine oE r2 fun U So=>?_;clear r2;subst So;exact qD q
   | _=>exact jc e
  | _=>exact jc e
 | _=>exact jc e
theorem pO {op:Op}{args:List SV}{f:Bool->Bool}{o:Option Bool}{Q:QQ SV}(g:ao w B O n env (wX op args f o s) ρ γ Z Q)(S:bL w B O T env s ρ γ Z h)(r:ak (af ρ) args vs)(k:∀ t,o=some t->eD w B O T env af Q ρ (.bool (f t)) h->W PW w n (gL env op vs) (eD w B O T env af Q ρ) h):W PW w n (gL env op vs) (eD w B O T env af Q ρ) h:=AN g (fun t e g=>k t e (out S (show af ρ (.k _) _ from rfl) g)) fun U g=>kr g S r
theorem qU(e:pJ b=true)(r:af ρ b y):y=.none:=by
 cases b with
 | k u=>cases u<;>first | (cases r;rfl) | exact nB e
 | _=>exact nB e
theorem yy {op:CmpOp}{a : SV}{x : Value}{Q:QQ SV}(g:ao w B O n env (Ew op a b s) ρ γ Z Q)(S:bL w B O T env s ρ γ Z h)(r:af ρ a x)(r2:af ρ b y):W PW w n (compareOp op x y) (eD w B O T env af Q ρ) h:=by
 have ask:∀ {Q:QQ SV},ao w B O n env (wX (.cmp op) [a,b] id (Eu op a b s) s) ρ γ Z Q->W PW w n (compareOp op x y) (eD w B O T env af Q ρ) h:=fun g=>pO g S (vs:=[x,y]) (cF r r2 OU) fun t e q=>EK e S r r2 q;unfold Ew at g;cases hb:pJ b with
 | false=>rw [hb] at g;exact ask g
 | true=>
  rw [hb] at g;obtain rfl:=qU hb r2;cases op with
  | Is=>exact pO g S (vs:=[x,.none]) (cF r r2 OU) fun t e q=>lp (by rw [qT S r e];exact q)
  | IsNot=>exact pO g S (vs:=[x,.none]) (cF r r2 OU) fun t e q=>lq (by rw [qT S r e];exact q)
  | _=>exact ask g
theorem tj {a:SV}{x:Value}{Q:QQ Bool}(g:ao w B O n env (mz a s) ρ γ Z Q)(S:bL w B O T env s ρ γ Z h)(r:af ρ a x):W PW w n (truthy x) (eD w B O T env (fun U a b=>a=b) Q ρ) h:=by
 cases a with
 | k u=>
  cases u with
  | bool b=>cases r;exact sd (out S rfl g)
  | _=>exact g _ _ _ S r
 | _=>exact g _ _ _ S r
theorem tm {P:Params}{C:Addr}{a:SV}{x:Value}{b:Bool}(e:wY C a=some b)(r:af ρ a x):Bn P C/\∃ D,x=.ref D/\kitOne (KF P) (.ref C) (.ref D)=some b:=by
 cases a with
 | k u=>
  cases u with
  | ref D=>refine gK e fun U h1 e=>gK e fun U h2 e=>?_;obtain rfl:=Pd e;cases r;exact mU (EF h1) _ rfl (BH h1 h2)
  | _=>exact jc e
 | _=>exact jc e
theorem xa {P:Params}{C:Addr}{xs:LV}{b:Bool}(e:ul C l=some b)(r:ak (af ρ) l xs):kitAny (KF P) (.ref C) xs=some b/\(l≠[]->Bn P C):=by
 induction l generalizing xs b with
 | nil=>obtain rfl:=Pd e;rw [r.nil_r];exact ⟨rfl,fun h=>(h rfl).elim⟩
 | cons a l ih=>
  refine gK e fun c q e=>?_;refine et r.cons_r fun x xs U6 r1 r2=>?_;subst U6;refine kM (tm (P:=P) q r1) fun h1 D U7 h2=>?_;subst U7;refine ⟨?_,fun U=>h1⟩;unfold kitAny;rw [h2];cases c with
  | true=>exact e
  | false=>exact (ih e r2).1
theorem vL {x:SV}{a:Value}{C:Addr}{P:Prop}(e:Br x s=some C)(S:bL w B O T env s ρ γ Z h)(r:af ρ x a)(k:∀ a' dx fv Zs ms R,Z.le Zs->St w B O Zs ((env.locals,.ns ms)::(R++T)) h->a=.ref a'->Zs a'=some (.ins C dx)->Zs dx=some (.att fv)->(∀ p∈s.fz,bK ρ Zs p.1 p.2)->P):P:=by
 cases x with
 | v i=>
  refine S.elim fun Zs ms R l Pz hm hR hc hf=>gK e fun c q e=>?_;cases c with
  | obj D fs=>
   obtain rfl:=Pd e;obtain ⟨a',dx,fv,f1,f2,f3,f4⟩:=(hf _ (cr q):bK ρ Zs _ (.obj _ _))
   exact k a' dx fv Zs ms R l Pz (r.det f1) f2 f3 hf
  | _=>exact jc e
 | _=>exact jc e
theorem EL {x Ty:SV}{a b:Value}{t:Bool}{Q:VP}(e:Mn x Ty s=some t)(S:bL w B O T env s ρ γ Z h)(r:af ρ x a)(r2:af ρ Ty b)(q:Q (.bool t) h):W PW w n (call (.builtin "isinstance") [a,b]) Q h:=by
 cases Ty with
 | k u=>
  cases u with
  | ref D=>cases r2;refine gK e fun C h1 e=>vL h1 S r fun a' dx fv Zs ms R l Pz e1 f2 f3 U=>?_;subst e1;refine kM (tm (ρ:=ρ) (P:=w.params) (x:=.ref _) e rfl) fun h1 D e1 h2=>?_;cases e1;exact M6 t Pz (Pz.z f2) (Pz.z f3) h1 q h2
  | type u=>
   cases r2;refine ly e fun hT e2=>?_;clear e;have e:=e2;clear e2;obtain rfl:=Pu hT;cases x with
   | int z=>obtain rfl:=Pd e;refine oE r fun u WX=>?_;clear r;subst WX;refine kC S.stk fun Zs led Pz=>?_;exact zS Pz q
   | v i=>
    refine S.elim fun Zs ms R l Pz hm hR hc hf=>gK e fun c h1 e=>?_;have f:=hf _ (cr h1);cases c with
    | lst ys=>obtain rfl:=Pd e;obtain ⟨a',vs,f1,f2,f3⟩:=f;obtain rfl:=r.det f1;exact sZ Pz (Pz.z f2) q
    | isL=>obtain rfl:=Pd e;obtain ⟨a',vs,f1,f2⟩:=f;obtain rfl:=r.det f1;exact sZ Pz (Pz.z f2) q
    | tup ys=>obtain rfl:=Pd e;obtain ⟨a',vs,f1,f2,f3⟩:=f;obtain rfl:=r.det f1;exact zT Pz (Pz.z f2) q
    | _=>exact jc e
   | _=>exact jc e
  | _=>exact jc e
 | v j=>
  refine gK e fun c g1 e=>?_;cases c with
  | tup l=>
   cases l with
   | cons D Ds=>
    refine gK e fun C h1 e=>vL h1 S r fun a' dx fv Zs ms R l Pz e1 f2 f3 hf=>?_;subst e1;obtain ⟨b',vs,g1,g2,g3⟩:=(hf _ (cr g1):bK ρ Zs _ (.tup _))
    obtain rfl:=r2.det g1;refine oA (xa (P:=w.params) e g3) fun k1 k2=>?_;exact M7 t Pz (Pz.z f2) (Pz.z f3) (Pz.z g2) (k2 (by simp)) q k1
   | nil=>exact jc e
  | _=>exact jc e
 | _=>exact jc e
theorem bL.putFz{Z' : a8}{ms:List (Str×Option Value)}{a:Addr}(S:bL w B O T env s ρ γ Z h)(l:Z.le Zs)(hm:RM ρ s.loc ms)(hR:ak (RE env ρ) s.led R)(hc:cont s.led R=γ)(hf:∀ p∈s.fz,bK ρ Zs p.1 p.2)
  (l':Zs.le Z') (Pz:St w B O Z' ((env.locals,.ns ms)::(R++T)) h') (f:bK (ρ++[.ref a]) Z' s.nv c):bL w B O T env (fj c s) (ρ++[.ref a]) γ Z h' where
 len:=by rw [List.length_append,S.len];rfl
 ok:=fun x hx=>by
  rcases OX hx with hx | hx
  ·exact S.ok x hx
  ·rcases List.mem_singleton.mp hx with rfl;rfl
 st:=⟨Z',ms,R,l.trans l',Pz,hm.ext (.one _ _),ak.mono (fun U U x=>x.ext (.one _ _)) hR,hc,fun p hp=>by
  rcases OY hp with rfl | hp
  ·exact f
  ·exact (hf p hp).ext (.one _ _) l'⟩
theorem bL.putOw{ms:List (Str×Option Value)}{C:an}{a:Addr}(S:bL w B O T env s ρ γ Z h)(l:Z.le Zs)(hm:RM ρ s.loc ms)(hR:ak (RE env ρ) s.led R)(hc:cont s.led R=γ)(hf:∀ p∈s.fz,bK ρ Zs p.1 p.2)
  (Pz:St w B O Zs ((env.locals,.ns ms)::((a,C)::R++T)) h') (f:RE env (ρ++[.ref a]) (.own s.nv c) (a,C)) (ho:(SL.own s.nv c).isOpq=false):bL w B O T env (nc c s) (ρ++[.ref a]) γ Z h' where
 len:=by rw [List.length_append,S.len];rfl
 ok:=fun x hx=>by
  rcases OX hx with hx | hx
  ·exact S.ok x hx
  ·rcases List.mem_singleton.mp hx with rfl;rfl
 st:=⟨Zs,ms,(a,C)::R,l,Pz,hm.ext (.one _ _),⟨f,ak.mono (fun U U x=>x.ext (.one _ _)) hR⟩,(f9 ho).trans hc,fun p hp=>(hf p hp).ext (.one _ _) (.refl _)⟩
theorem bL.nvAt (S:bL w B O T env s ρ γ Z h)(v:Value):(ρ++[v])[s.nv]? =some v:=by rw [<- S.len];simp
theorem qV {Q:QQ SV}{a:Addr}(g:ao w B O n env (.al (.ret (.v s.nv) s')) ρ γ Z Q)(S:bL w B O T env s ρ γ Z h)(S':bL w B O T env s' (ρ++[.ref a]) γ Z h'):eD w B O T env af Q ρ (.ref a) h':=⟨.v s.nv,_,_,_,_,.one _ _,S.nvAt _,S',g a⟩
theorem EM{Q:QQ SV}(g:ao w B O n env (.al (.ret (.v s.nv) (fj (.tup xs) s))) ρ γ Z Q)(S:bL w B O T env s ρ γ Z h)(r:ak (af ρ) xs vs)(hl:xs.length<=100):NQ (eD w B O T env af Q ρ) vs h:=by refine S.elim fun Zs ms R l Pz hm hR hc hf=>?_;refine GN Pz (fun a h' PE=>?_) (by rw [<- r.len];exact hl);refine d6 PE.fz1 fun Z' l' z Q0=>?_;exact qV g S (S.putFz l hm hR hc hf l' Q0 ⟨a,vs,S.nvAt _,z,RL.ext (.one _ _) r⟩)
theorem EN{Q:QQ SV}(g:ao w B O n env (.al (.ret (.v s.nv) (fj (.lst xs) s))) ρ γ Z Q)(S:bL w B O T env s ρ γ Z h)(r:ak (af ρ) xs vs)(hl:xs.length<=100):Na (eD w B O T env af Q ρ) vs h:=by refine S.elim fun Zs ms R l Pz hm hR hc hf=>?_;refine Ba Pz (fun a h' PE=>?_) (by rw [<- r.len];exact hl);refine d6 PE.fzL1 fun Z' l' z Q0=>?_;exact qV g S (S.putFz l hm hR hc hf l' Q0 ⟨a,vs,S.nvAt _,z,RL.ext (.one _ _) r⟩)
theorem EO{Q:QQ SV}(g:ao w B O n env (.al (.ret (.v s.nv) (nc (.lst xs) s))) ρ γ Z Q)(S:bL w B O T env s ρ γ Z h)(r:ak (af ρ) xs vs)(hl:xs.length<=100):Na (eD w B O T env af Q ρ) vs h:=by refine S.elim fun Zs ms R l Pz hm hR hc hf=>?_;refine Ba Pz (fun a h' PE=>?_) (by rw [<- r.len];exact hl);exact qV g S (S.putOw l hm hR hc hf PE (mU (S.nvAt _) vs rfl (RL.ext (.one _ _) r)) rfl)
theorem BM {pos:Pos}{Q:QQ SV}(g:ao w B O n env (.al (.ret (.v s.nv) (nc (.dct []) s))) ρ γ Z Q)(S:bL w B O T env s ρ γ Z h):W PW w n (eval (.Dict [] [] pos) env) (eD w B O T env af Q ρ) h:=by refine S.elim fun Zs ms R l Pz hm hR hc hf=>?_;refine ug Pz fun a h' PE=>?_;exact qV g S (S.putOw l hm hR hc hf PE (mU (S.nvAt _) [] rfl OU) rfl)
theorem RF.zip {ns:List Str}:∀ {xs:List SV} {vs:LV},ak (af ρ) xs vs->RF ρ (ns.zip xs) (ns.zip vs):=by
 induction ns with
 | nil=>intro xs vs _;exact trivial
 | cons x ns ih=>
  intro xs vs r;cases xs with
  | nil=>rw [r.nil_r];exact trivial
  | cons a xs=>refine et r.cons_r fun b vs e r1 r2=>?_;subst e;exact ⟨⟨rfl,r1⟩,ih r2⟩
theorem tu{t:IT SV}(e:Ha xs s=some t):xs.length<=100/\t=.al (.ret (.v s.nv) (fj (.lst xs) s)):=ly e fun h e=>⟨Pf h,(Pd e).symm⟩
theorem ng{Q:QQ SV}{a:Addr}{ms:List (Str×Option Value)}(g:ao w B O n env (.al (.ret (.v s.nv) (fj (.lst xs) s))) ρ γ Z Q)(S:bL w B O T env s ρ γ Z h)(r:ak (af ρ) xs vs)
  (l:Z.le Zs) (hm:RM ρ s.loc ms) (hR:ak (RE env ρ) s.led R) (hc:cont s.led R=γ) (hf:∀ p∈s.fz,bK ρ Zs p.1 p.2) (PE:St w B O Zs ((env.locals,.ns ms)::(a,.pls vs)::(R++T)) h'):eD w B O T env af Q ρ (.ref a) h':=by refine d6 PE.fzL1 fun Z' l' z Q0=>?_;exact qV g S (S.putFz l hm hR hc hf l' Q0 ⟨a,vs,S.nvAt _,z,RL.ext (.one _ _) r⟩)
theorem EP {a : SV}{x : Value}{t:IT SV}{Q:QQ SV}(e:Mj a b s=some t)(g:ao w B O n env t ρ γ Z Q)(S:bL w B O T env s ρ γ Z h)(r:af ρ a x)(r2:af ρ b y):W PW w n (binaryOp .Add x y) (eD w B O T env af Q ρ) h:=by refine gK e fun xs ea e=>gK e fun ys eb e=>?_;refine oA (tu e) fun hl WY=>?_;subst WY;refine gg (a:=a) ea S r fun la va e1 ha ra=>gg (a:=b) eb S r2 fun lb vb e2 hb rb=>S.elim fun Zs ms R l Pz hm hR hc hf=>?_;subst e1 e2;rw [List.length_append] at hl;exact wN Pz ha hb (by rw [<- ra.len,<- rb.len];exact aJ hl) fun a h' PE=>ng g S (ak.app ra rb) l hm hR hc hf PE
theorem EQ {op:Operator}{a : SV}{x : Value}{t:IT SV}{Q:QQ SV}(e:Mk op a b s=some t)(g:ao w B O n env t ρ γ Z Q)(S:bL w B O T env s ρ γ Z h)(r:af ρ a x)(r2:af ρ b y):W PW w n (binaryOp op x y) (eD w B O T env af Q ρ) h:=by
 cases op with
 | Add=>
  cases a with
  | int p=>
   cases b with
   | int z=>obtain rfl:=Pd e;refine oE r fun U WZ=>?_;clear r;subst WZ;refine oE r2 fun U X0=>?_;clear r2;subst X0;exact lk fun k=>out S (show af ρ (.int _) _ from ⟨k,rfl⟩) g
   | _=>exact jc e
  | _=>exact EP e g S r r2
 | Sub=>
  cases a with
  | int p=>
   cases b with
   | int z=>obtain rfl:=Pd e;refine oE r fun U X1=>?_;clear r;subst X1;refine oE r2 fun U X2=>?_;clear r2;subst X2;exact mZ fun k=>out S (show af ρ (.int _) _ from ⟨k,rfl⟩) g
   | _=>exact jc e
  | _=>exact jc e
 | _=>exact jc e
theorem BN {b:String}{a v:SV}{x : Value}{t:IT SV}{Q:QQ SV}(e:G4 b a v s=some t)(g:ao w B O n env t ρ γ Z Q)(S:bL w B O T env s ρ γ Z h)(h1:af ρ a x)(h2:af ρ v y):W PW w n (call (.builtin b) [x,y]) (eD w B O T env af Q ρ) h:=by
 refine vB e (fun hb e2=>?_) fun U e2=>ly e2 fun hb e3=>?_
 ·obtain rfl:=Pu hb;cases a with
  | v i=>refine S.elim fun Zs ms R l Pz hm hR hc hf=>gK e2 fun p hix e3=>ly e3 fun hl e4=>?_;obtain rfl:=Pd e4;have hi:=oi (j:=p.1) (xs:=p.2) hix;refine ju (ak.get hR hi) fun X3 h3 h4 vs h5 h6=>?_;obtain ⟨la,c⟩:=X3;dsimp only at h4 h5;subst h5;obtain rfl:=af.det h1 h4;refine qL Pz (vK h3) (by rw [<- h6.len];exact Pg (Pf hl) OV) fun h' PE=>?_;rw [Hh h3] at PE;exact out (s:={s with led:=s.led.set p.1 (.own i (.lst (p.2++[v])))}) ⟨S.len,S.ok,Zs,ms,_,l,PE,hm,ak.set hR (show RE env ρ (.own i (.lst (p.2++[v]))) (la,.pls (vs++[y])) from (mU h4 _ rfl (ak.app h6 (show ak (af ρ) [v] [y] from ⟨h2,OU⟩)))),(vD (b:=.own i (.lst (p.2++[v]))) hi rfl rfl).trans hc,hf⟩ (show af ρ (.k _) _ from rfl) g
  | _=>exact jc e2
 ·obtain rfl:=Pu hb;cases a with
  | int p=>
   cases v with
   | int z=>obtain rfl:=Pd e3;refine oE h1 fun U X4=>?_;clear h1;subst X4;refine oE h2 fun U X5=>?_;clear h2;subst X5;refine S.elim fun Zs ms R l Pz hm hR hc hf=>?_;exact LJ Pz fun h' t PE=>out ⟨S.len,S.ok,Zs,ms,R,l,PE,hm,hR,hc,hf⟩ (show af ρ (.int _) _ from ⟨t,rfl⟩) g
   | _=>exact jc e3
  | _=>exact jc e3
theorem BO {b:String}{a:SV}{x:Value}{t:IT SV}{Q:QQ SV}(e:G5 b a s=some t)(g:ao w B O n env t ρ γ Z Q)(S:bL w B O T env s ρ γ Z h)(h1:af ρ a x):W PW w n (call (.builtin b) [x]) (eD w B O T env af Q ρ) h:=by refine ly e fun hb e2=>gK e2 fun xs ea e3=>ly e3 fun hl e4=>gg ea S h1 fun la vs e1 ha ra=>?_;obtain rfl:=Pu hb;obtain rfl:=Pd e4;subst e1;exact wM ha (by rw [<- ra.len];exact Nat.lt_of_le_of_lt (Pf hl) OV) fun t=>out S (show af ρ (.int _) _ from ⟨t,by rw [ra.len]⟩) g
theorem BP {b:String}{a:SV}{x:Value}{t:IT SV}{Q:QQ SV}(e:G6 b a s=some t)(g:ao w B O n env t ρ γ Z Q)(S:bL w B O T env s ρ γ Z h)(h1:af ρ a x):W PW w n (call (.type b) [x]) (eD w B O T env af Q ρ) h:=by
 refine vB e (fun hb e2=>gK e2 fun xs ea e3=>?_) fun U e2=>ly e2 fun hb e3=>?_
 ·obtain rfl:=Pu hb;refine oA (tu e3) fun hl X6=>?_;subst X6;refine gg ea S h1 fun la vs e1 ha ra=>S.elim fun Zs ms R l Pz hm hR hc hf=>?_;subst e1;exact Ei Pz ha (by rw [<- ra.len];exact aJ hl) fun a h' PE=>ng g S ra l hm hR hc hf PE
 ·obtain rfl:=Pu hb;cases a with
  | int z=>
   cases z with
   | ofNat m=>obtain rfl:=Pd e3;refine oE h1 fun U X7=>?_;clear h1;subst X7;refine S.elim fun Zs ms R l Pz hm hR hc hf=>Ed Pz fun r u v h' PE=>?_;refine d6 PE.fz1 fun Z' l' z Q0=>?_;exact qV g S (S.putFz l hm hR hc hf l' Q0 ⟨r,_,u,v,S.nvAt _,z⟩)
   | negSucc m=>exact jc e3
  | _=>exact jc e3
theorem BQ{vs:List SV}{xs:LV}{t:IT SV}{Q:QQ SV}(e:G7 f vs s=some t)(g:ao w B O n env t ρ γ Z Q)(S:bL w B O T env s ρ γ Z h)(r:af ρ f fv)(r2:ak (af ρ) vs xs):W PW w n (call fv xs) (eD w B O T env af Q ρ) h:=by
 cases f with
 | k u=>
  cases r;cases vs with
  | nil=>exact jc e
  | cons a l=>
   obtain ⟨x,xs,rfl,h1,r2⟩:=r2.cons_r;cases l with
   | nil=>
    obtain rfl:=r2.nil_r;cases fv with
    | builtin b=>exact BO e g S h1
    | type b=>exact BP e g S h1
    | _=>exact jc e
   | cons v l=>
    obtain ⟨y,xs,rfl,h2,r2⟩:=r2.cons_r;cases l with
    | nil=>
     obtain rfl:=r2.nil_r;cases fv with
     | builtin b=>exact BN e g S h1 h2
     | _=>exact jc e
    | cons=>exact jc e
 | _=>exact jc e
theorem vM{vs:List SV}{xs:LV}{Q:QQ SV}(g:ao w B O n env (Bs f vs s) ρ γ Z Q)(S:bL w B O T env s ρ γ Z h)(r:af ρ f fv)(r2:ak (af ρ) vs xs):W PW w n (call fv xs) (eD w B O T env af Q ρ) h:=AN g (fun t e g=>BQ e g S r r2) fun U g=>kr g S (vs:=fv::xs) ⟨r,r2⟩
theorem vN{vs:List SV}{xs:LV}{Q:QQ SV}(g:ao w B O (n+2) env (Bt f vs s) ρ γ Z Q)(S:bL w B O T env s ρ γ Z h)(r:af ρ f fv)(r2:ak (af ρ) vs xs):W PW w (n+2) (call fv xs) (eD w B O T env af Q ρ) h:=by
 cases f with
 | k u=>
  cases u with
  | builtin b=>
   refine EI g (fun hb g=>?_) fun U g=>vM g S r r2;obtain rfl:=Pu hb;cases r;cases vs with
   | nil=>exact g.elim
   | cons a l=>
    obtain ⟨x,xs,rfl,h1,r2⟩:=r2.cons_r;cases l with
    | nil=>exact g.elim
    | cons v l=>
     obtain ⟨y,xs,rfl,h2,r2⟩:=r2.cons_r;cases l with
     | nil=>obtain rfl:=r2.nil_r;exact pO (vs:=[_,x,y]) g S (fu (show af ρ (.k _) _ from rfl) h1 h2 OU) fun t e q=>EL e S h1 h2 q
     | cons=>exact g.elim
  | ref C=>refine AN g (fun ns hC g=>pM g fun hl g=>?_) fun U g=>kr g S (vs:=fv::xs) ⟨r,r2⟩;cases r;rw [Bool.and_eq_true] at hl;refine S.elim fun Zs ms R l Pz hm hR hc hf=>?_;refine Hg hC ((Ph hl.1).trans r2.len) Pz fun v Z' h' l' o PE=>?_;refine et o fun a dx X8 z1 z2=>?_;clear o;subst X8;exact qV g S (S.putFz l hm hR hc hf l' PE ⟨a,dx,_,S.nvAt _,z1,z2,RF.zip (RL.ext (.one _ _) r2)⟩)
  | type b=>exact vM g S r r2
  | _=>exact g.elim
 | _=>exact g.elim
noncomputable abbrev wv {α:Type}(_:LV)(a b:α):Prop:=a=b
structure sj (w:World)(B:Heap)(O:aP)(n:Nat)(env:Env)(r:s6):Prop where
 e:∀ {T e s ρ γ Z h Q},ao w B O n env (r.e e s) ρ γ Z Q->bL w B O T env s ρ γ Z h->W PW w n (eval e env) (eD w B O T env af Q ρ) h
 es:∀ {T es s ρ γ Z h Q pos},es.all cN=true->ao w B O n env (r.es es s) ρ γ Z Q->bL w B O T env s ρ γ Z h->W PW w n (spliced (backTo pos (starEach es env))) (eD w B O T env (fun ρ=>ak (af ρ)) Q ρ) h
 t:∀ {T e s ρ γ Z h Q},ao w B O n env (r.t e s) ρ γ Z Q->bL w B O T env s ρ γ Z h->W PW w n (PySem.isTrue e env (eval e env)) (eD w B O T env wv Q ρ) h
 a:∀ {T op es s ρ γ Z h Q},ao w B O n env (r.a op es s) ρ γ Z Q->bL w B O T env s ρ γ Z h->W PW w n (allTrue op es env) (eD w B O T env wv Q ρ) h
theorem W.out {δ : Type}{m:Sem β}{R:LV->α->β->Prop}{f:α->bb->IT δ}{Q:QQ δ}{P:β->Heap->Prop}(x:W PW w n m (eD w B O T env R (fun a s ρ γ Z=>ao w B O n env (f a s) ρ γ Z Q) ρ) h)
  (k:∀ a b s' ρ' γ' Z' h',iY ρ ρ'->R ρ' a b->bL w B O T env s' ρ' γ' Z' h'->ao w B O n env (f a s') ρ' γ' Z' Q->P b h'):W PW w n m P h:=x.mono fun b h' ⟨a,s',ρ',γ',Z',e,r,S,g⟩=>k a b s' ρ' γ' Z' h' e r S g
def lC (w:World)(fv:Value)(first:LV)(noArgs:Bool):Prop:=(∃ id,fv=.builtin id)\/keepIn (KF w.params) fv=true\/(∃ t,fv=.type t/\first=[]/\noArgs=false)
theorem vO{b:Bool}(e:vF f b=true)(r:af ρ f fv):f=.k fv/\lC w fv [] b:=by
 cases f with
 | k v=>
  obtain rfl:fv=v:=r;refine ⟨rfl,?_⟩;cases fv with
  | builtin=>exact .inl ⟨_,rfl⟩
  | type=>exact .inr (.inr ⟨_,rfl,rfl,by simpa using (show (!b)=true from e)⟩)
  | ref=>exact .inr (.inl (yw e))
  | _=>exact nB e
 | _=>exact nB e
theorem cw_ok {r:s6}(I:sj w B O n env r){first:LV}{args:List Expr}{pos:Pos}{k:List SV->bb->IT SV}{Q:QQ SV}(hc:lC w fv first args.isEmpty)(hs:args.all cN=true)(g:ao w B O n env (Bu r args s k) ρ γ Z Q)(S:bL w B O T env s ρ γ Z h)
  (kk:∀ vs xs s' ρ' γ' Z' h',iY ρ ρ'->ak (af ρ') vs xs->bL w B O T env s' ρ' γ' Z' h'->ao w B O n env (k vs s') ρ' γ' Z' Q->W PW w n (call fv (first++xs)) (eD w B O T env af Q ρ') h'):
  W PW w n (callWith pos fv first (backTo pos (starEach args env)) []) (eD w B O T env af Q ρ) h:=by
 cases args with
 | nil=>
  have q:=kk [] [] s ρ γ Z h (.refl _) OU S g;rcases hc with ⟨id,rfl⟩ | hk | ⟨t,_,_,h⟩
  ·exact GR q
  ·refine kC S.stk fun Zs led Pz=>?_;exact GS Pz q hk
  ·exact nT h
 | cons a l=>
  have Qe:=hs;rw [List.all_cons,Bool.and_eq_true] at Qe;have g:ao w B O n env ((r.es (a::l) s).bind k) ρ γ Z Q:=g;have x:=I.es (pos:=pos) hs (ao.bind g) S;rcases hc with ⟨id,rfl⟩ | hk | ⟨t,rfl,rfl,_⟩
  ·exact LG (x.out fun vs xs s' ρ' γ' Z' h' e r S g=>(kk vs xs s' ρ' γ' Z' h' e r S g).mono fun U U x=>x.ext e) Qe.1 Qe.2
  ·refine kC S.stk fun Zs led Pz=>?_;exact FO Pz (x.out fun vs xs s' ρ' γ' Z' h' e r S g=>⟨(kC (S.stk) fun Zs led PE=>PE.k),(kk vs xs s' ρ' γ' Z' h' e r S g).mono fun U U x=>x.ext e⟩) hk Qe.1 Qe.2
  ·exact LH (x.out fun vs xs s' ρ' γ' Z' h' e r S g=>(kk vs xs s' ρ' γ' Z' h' e r S g).mono fun U U x=>x.ext e) Qe.1 Qe.2
theorem lX {m : Str}(h:seq name m=true){x:Str}(hx:autoParam (m=x) tac0):(name==x)=true:=by rw [iu h,hx];exact beq_self_eq_true x
theorem BR{x : SV}{l:Addr}{xs:LV}{Q:Value×LV->Heap->Prop}(e:NV name o=some (f,x))(hh:ci w h l (.pls xs))(q:∀ fv,f=.k fv->x=o->(∀ b,lC w fv [.ref l] b)->Q (fv,[.ref l]) h):W PW w n (getMethod (.ref l) name pl) Q h:=by
 refine vB e (fun hs e=>?_) fun U e=>ly e fun hs e=>?_
 ·cases e;exact zP hh (q _ rfl rfl fun U=>.inl ⟨_,rfl⟩) (lX hs)
 ·cases e;exact zQ hh (q _ rfl rfl fun U=>.inl ⟨_,rfl⟩) (lX hs)
theorem BS{x : SV}{l:Addr}{kv:KV}{Q:Value×LV->Heap->Prop}(e:NX name o=some (f,x))(hh:ci w h l (.dct kv))(q:∀ fv,f=.k fv->x=o->(∀ b,lC w fv [.ref l] b)->Q (fv,[.ref l]) h):W PW w n (getMethod (.ref l) name pl) Q h:=by
 refine vB e (fun hs e=>?_) fun U e=>ly e fun hs e=>?_
 ·cases e;exact zR hh (q _ rfl rfl fun U=>.inl ⟨_,rfl⟩) (lX hs)
 ·cases e;exact Bd hh (q _ rfl rfl fun U=>.inl ⟨_,rfl⟩) (lX hs)
theorem BU{x : SV}{Q:Value×LV->Heap->Prop}(e:G8 name o s=some (f,x))(S:bL w B O T env s ρ γ Z h)(r:af ρ o v)
  (q:∀ fv,f=.k fv->x=o->(∀ b,lC w fv [v] b)->Q (fv,[v]) h):W PW w n (getMethod v name pl) Q h:=by
 cases o with
 | str y=>refine ly e fun hs e=>?_;refine oE r fun t PL=>?_;clear r;subst PL;cases e;exact Be (q _ rfl rfl fun U=>.inl ⟨_,rfl⟩) (lX hs)
 | v i=>
  refine S.elim fun Zs ms R l Pz hm hR hc hf=>qN e (fun c h1 e=>?_) fun U e=>gK e fun c h1 e=>?_
  ·have fc:=hf _ (cr h1);cases c with
   | obj C fs=>refine qN e (fun U U e=>jc e) fun h2 e=>gK e fun ms' h3 e=>gK e fun fa h4 e=>?_;obtain ⟨a,dx,fv,f1,f2,f3,f4⟩:=fc;obtain rfl:=af.det r f1;refine Lx (ED (P:=w.params) h3 h4) fun t1 t2 t3 t4 t5=>?_;cases e;exact oP Pz (Pz.z f2) (Pz.z f3) t3 (q _ rfl rfl fun U=>.inr (.inl t5)) (f4.lookup_none h2) t1 t2 t4
   | dct P7=>refine ly e fun hs e=>?_;obtain ⟨a,kv,f1,f2,f3⟩:=fc;obtain rfl:=af.det r f1;cases e;exact Bd (Pz.z f2) (q _ rfl rfl fun U=>.inl ⟨_,rfl⟩) (lX hs)
   | _=>exact jc e
  ·refine oE (jE h1) fun i hi=>?_;refine bM (ak.get hR hi) fun QI h1 h2=>?_;obtain ⟨a,c'⟩:=QI;have ha:=Pz.get (i+1) (vK h1);cases c with
   | lst ys=>refine kM h2 fun h2 vs PQ U=>?_;subst PQ;obtain rfl:=af.det r h2;exact BR e ha q
   | dct ys=>refine kM h2 fun h2 vs Q4 U=>?_;subst Q4;obtain rfl:=af.det r h2;exact BS e ha q
   | opq k=>
    refine ub h2 fun h2 h3 h4=>?_;obtain rfl:=af.det r h2;refine vB e (fun hk e=>?_) fun U e=>ly e fun hk e=>?_
    ·refine oE (h3 (Ph hk)) fun xs Qu=>?_;subst Qu;exact BR e ha q
    ·refine oE (h4 (Ph hk)) fun xs Qt=>?_;subst Qt;exact BS e ha q
   | _=>exact jc e
 | _=>exact jc e
theorem ER {o:Expr}{pos:Pos}(hd:yq o=true):eval (.Attribute o name pos) env=(do
   let v <- eval o env
   standAt pos.atName
   let r <- holding [v] (getAttr v name true)
   letTemporaryGo o v r
   pure r):=by cases o<;>first | rfl | exact nB hd
theorem ES {o:Expr}{apos pos:Pos}{args:List Expr}(hd:yq o=true)(hs:args.all cN=true)(hn:args.length<=20)(hp:apos.endLine=pos.line):eval (.Call (.Attribute o name apos) args [] pos) env=(do
   let ov <- eval o env
   standAt apos.atName
   let (f,first) <- holding [ov] (getMethod ov name (do return (<- importBound o env).getD true))
   callWith pos f first (backTo pos (starEach args env)) []):=by
 have h1:methodCallForm (args.length+0) (backTo pos (starEach args env)) []=true:=by
  unfold methodCallForm
  have:(backTo pos (starEach args env)).all (!·.1)=true:=by have:=qG (pos:=pos) args env hs;rw [List.any_eq_false] at this;exact List.all_eq_true.mpr fun x hx=>by simpa using this x hx
  rw [this];simp;exact aJ hn
 have h2:methodCallPos true o env apos pos=pure pos:=by unfold methodCallPos;simp [hp]
 have h3:∀ ov:Value,methodCall o name apos pos env ov (args.length+0) (backTo pos (starEach args env)) []=(do
   let (f,first) <- holding [ov] (getMethod ov name (do return (<- importBound o env).getD true))
   callWith pos f first (backTo pos (starEach args env)) []):=by intro ov;unfold methodCall calleeOf;rw [h1,h2];simp
 have h4:eval (.Call (.Attribute o name apos) args [] pos) env=(do
   let ov <- eval o env
   standAt apos.atName
   methodCall o name apos pos env ov (args.length+0) (backTo pos (starEach args env)) []):=by cases o<;>first | rfl | exact nB hd
 rw [h4];simp only [h3]
theorem A2 {r:s6}(I:sj w B O n env r){es:List Expr}{pos:Pos}{Q:QQ (List SV)}(hs:es.all cN=true)(g:ao w B O n env (Bw r es s) ρ γ Z Q)(S:bL w B O T env s ρ γ Z h):
  W PW w n (spliced (backTo pos (starEach es env))) (eD w B O T env (fun ρ=>ak (af ρ)) Q ρ) h:=by
 cases es with
 | nil=>exact oO (out S (R:=fun ρ=>ak (af ρ)) (show ak (af ρ) [] [] from OU) g)
 | cons e es=>rw [List.all_cons,Bool.and_eq_true] at hs;refine n6 ((I.e (ao.bind g) S).out fun a x s1 ρ1 γ1 Z1 h1 e1 r1 S1 g=>?_) hs.1;refine (I.es hs.2 (ao.bind g) S1).out fun l xs s2 ρ2 γ2 Z2 h2 e2 r2 S2 g=>?_;exact (out S2 (R:=fun ρ=>ak (af ρ)) (show ak (af ρ2) (a::l) (x::xs) from ⟨r1.ext e2,r2⟩) g).ext (e1.trans e2)
theorem pP {e:Expr}(he:autoParam (isTrue e env (eval e env)=(do let v <- eval e env;standAt e.pos;holding [v] (truthy v))) tac4){r:s6}(I:sj w B O n env r){Q:QQ Bool}(g:ao w B O n env ((r.e e s).bind mz) ρ γ Z Q)(S:bL w B O T env s ρ γ Z h):
  W PW w n (PySem.isTrue e env (eval e env)) (eD w B O T env wv Q ρ) h:=zK ((I.e (ao.bind g) S).out fun a x s1 ρ1 γ1 Z1 h1 e1 r1 S1 g=>(tj g S1 r1).mono fun U U q=>q.ext e1) he
theorem BV {r:s6}(I:sj w B O n env r){e:Expr}{Q:QQ Bool}(g:ao w B O n env (yr r e s) ρ γ Z Q)(S:bL w B O T env s ρ γ Z h):W PW w n (PySem.isTrue e env (eval e env)) (eD w B O T env wv Q ρ) h:=by
 cases e with
 | UnaryOp op x p=>
  cases op with
  | Not=>dsimp only [yr] at g;refine E5 ((I.t (ao.bind g) S).out fun a x s1 ρ1 γ1 Z1 h1 e1 r1 S1 g=>?_);obtain rfl:=r1;exact (out S1 (R:=wv) rfl g).ext e1
  | _=>exact g.elim
 | BoolOp op vs p=>exact wI (I.a g S)
 | Compare l ops qs p=>
  cases ops with
  | nil=>exact g.elim
  | cons op ops=>
   cases ops with
   | cons _ _=>exact g.elim
   | nil=>
    cases qs with
    | nil=>exact g.elim
    | cons q qs=>
     cases qs with
     | cons _ _=>exact g.elim
     | nil=>dsimp only [yr] at g;refine EI g (fun U g=>g.elim) fun hb g=>?_;refine vk ((I.e (ao.bind g) S).out fun a x s1 ρ1 γ1 Z1 h1 e1 r1 S1 g=>?_) hb;refine (I.e (ao.bind g) S1).out fun b y s2 ρ2 γ2 Z2 h2 e2 r2 S2 g=>?_;refine (yy (ao.bind g) S2 (r1.ext e2) r2).out fun c z s3 ρ3 γ3 Z3 h3 e3 r3 S3 g=>?_;exact (tj g S3 r3).mono fun U U q=>q.ext (e1.trans (e2.trans e3))
 | Name x p=>exact pP (by rfl) I g S
 | Call f a k p=>exact pP (by rfl) I g S
 | Attribute o x p=>exact pP (by rfl) I g S
 | Constant c k p=>exact pP (by rfl) I g S
 | _=>exact g.elim
theorem BW {r:s6}(I:sj w B O n env r){op:BoolOp}{es:List Expr}{Q:QQ Bool}(g:ao w B O n env (G9 r op es s) ρ γ Z Q)(S:bL w B O T env s ρ γ Z h):W PW w n (allTrue op es env) (eD w B O T env wv Q ρ) h:=by
 cases es with
 | nil=>
  cases op with
  | And=>exact zL (out S (R:=wv) rfl g)
  | Or=>exact B5 (out S (R:=wv) rfl g)
 | cons e es=>
  cases op with
  | And=>
   refine wJ ((I.t (ao.bind g) S).out fun a x s1 ρ1 γ1 Z1 h1 e1 r1 S1 g=>?_);obtain rfl:=r1;cases a with
   | true=>exact zV ((I.a g S1).mono fun U U q=>q.ext e1)
   | false=>exact wS ((out S1 (R:=wv) rfl g).ext e1)
  | Or=>
   refine zM ((I.t (ao.bind g) S).out fun a x s1 ρ1 γ1 Z1 h1 e1 r1 S1 g=>?_);obtain rfl:=r1;cases a with
   | true=>exact zV ((out S1 (R:=wv) rfl g).ext e1)
   | false=>exact wS ((I.a g S1).mono fun U U q=>q.ext e1)
theorem ak.rev{R:α->β->Prop}{l:List α}{m:List β}(h:ak R l m):ak R l.reverse m.reverse:=h.ind (M:=fun l m=>ak R l.reverse m.reverse) OU fun r U ih=>by rw [List.reverse_cons,List.reverse_cons];exact ak.app ih ⟨r,OU⟩
theorem ak.drop {α β:Type}{R:α->β->Prop}{l:List α}{m:List β}(k:Nat)(h:ak R l m):ak R (l.drop k) (m.drop k):=h.ind (M:=fun l m=>∀ k,ak R (l.drop k) (m.drop k)) (fun k=>by cases k<;>trivial) (fun r h ih k=>by cases k with
 | zero=>exact ⟨r,h⟩
 | succ k=>exact ih k) k
theorem ak.take {α β:Type}{R:α->β->Prop}{l:List α}{m:List β}(k:Nat)(h:ak R l m):ak R (l.take k) (m.take k):=h.ind (M:=fun l m=>∀ k,ak R (l.take k) (m.take k)) (fun k=>by cases k<;>trivial) (fun r h ih k=>by cases k with
 | zero=>(trivial)
 | succ k=>exact ⟨r,ih k⟩) k
theorem vP {o:Option (List SV)}(h:Bq o=some xs):o=some xs/\xs.length<=100:=gK h fun ys e h=>ly h fun hl h=>by cases h;exact ⟨e,Pf hl⟩
def BX (w:World)(B:Heap)(O:aP)(x y z:Value)(h:Heap)(Q:VP):Prop:=∃ l xs lo hi,x=.ref l/\ci w h l (.lst xs)/\xs.length<=1000/\IsPart y lo/\IsPart z hi/\∃ Z fr led,St w B O Z (fr::led) h/\∀ a h',St w B O Z (fr::(a,.pls (slicePick ⟨xs⟩ lo hi none).toList)::led) h'->Q (.ref a) h'
theorem BY {a:SV}{m:Nat}(h:G3 a=some m):a=.int m:=by
 cases a with
 | int z=>cases z with
  | ofNat k=>exact Pd h▸rfl
  | negSucc k=>exact nS h
 | _=>exact nS h
theorem ET {a:SV}(h:Ml a=true):a=.int (-1):=by
 cases a with
 | int z=>cases z with
  | ofNat k=>exact nB h
  | negSucc k=>cases k with
   | zero=>rfl
   | succ k=>exact nB h
 | _=>exact nB h
theorem qW {c:Nat->List SV->List SV}{a : SV}{x : Value}{Q:QQ SV}{P:Prop}(g:ao w B O n env (qO c o a s) ρ γ Z Q)(S:bL w B O T env s ρ γ Z h)(r:af ρ o x)(r2:af ρ a y)
  (k:∀ (m:Nat) t xs la vs Zs ms R,y=.int m t->x=.ref la->ci w h la (.lst vs)->ak (af ρ) xs vs->vs.length<=1000->(∀ a h' ys,St w B O Zs ((env.locals,.ns ms)::(a,.pls ys)::(R++T)) h'->ak (af ρ) (c m xs) ys->eD w B O T env af Q ρ (.ref a) h')->St w B O Zs ((env.locals,.ns ms)::(R++T)) h->P):P:=
 mr g fun xs hx g=>mr g fun m hm g=>oA (vP hx) fun hk hl=>by obtain rfl:=BY hm;refine oE r2 fun t e=>?_;refine gg hk S r fun la vs e1 ha ra=>S.elim fun Zs ms R l Pz hm hR hc hf=>?_;exact k m t xs la vs Zs ms R e e1 ha ra (by rw [<- ra.len];exact aJ hl) (fun a h' ys PE q=>ng g S q l hm hR hc hf PE) Pz
theorem A3 {a : SV}{x : Value}{Q:QQ SV}(g:ao w B O n env (qO List.drop o a s) ρ γ Z Q)(S:bL w B O T env s ρ γ Z h)(r:af ρ o x)(r2:af ρ a y):BX w B O x y .none h (eD w B O T env af Q ρ):=qW g S r r2 fun m t xs la vs Zs ms R e e1 ha ra hl q Pz=>e▸gJ la vs (some (m:Nat)) none e1 ha hl (.int _ _) .none Zs _ _ Pz (fun a h' PE=>q a h' _ (by rw [slicePick_from'] at PE;exact PE) (ra.drop m))
theorem A4 {a : SV}{x : Value}{Q:QQ SV}(g:ao w B O n env (qO List.take o a s) ρ γ Z Q)(S:bL w B O T env s ρ γ Z h)(r:af ρ o x)(r2:af ρ a y):BX w B O x .none y h (eD w B O T env af Q ρ):=qW g S r r2 fun m t xs la vs Zs ms R e e1 ha ra hl q Pz=>e▸gJ la vs none (some (m:Nat)) e1 ha hl .none (.int _ _) Zs _ _ Pz (fun a h' PE=>q a h' _ (by rw [slicePick_upto'] at PE;exact PE) (ra.take m))
theorem uq {o:Expr}(h:pK o=true)(x y:Value):letTemporaryGo o x y=pure ():=by cases o<;>first | rfl | exact nB h
theorem BZ (E:bS env F){r:s6}(I:sj w B O (n+2) env r){e:Expr}{Q:QQ SV}(g:ao w B O (n+2) env (Bv F r e s) ρ γ Z Q)(S:bL w B O T env s ρ γ Z h):W PW w (n+2) (eval e env) (eD w B O T env af Q ρ) h:=by
 have ask:∀ {Q:QQ SV} {e:Expr},ao w B O (n+2) env (mh (.expr e) [] s) ρ γ Z Q->W PW w (n+2) (eval e env) (eD w B O T env af Q ρ) h:=fun g=>kr g S (vs:=[]) OU
 have dflt:∀ {o i:Expr} {p:Pos},ao w B O (n+2) env (bB (dz i) ((r.e o s).bind fun vo s=>(r.e i s).bind fun vi s=>H9 o i vo vi s) .ter) ρ γ Z Q->W PW w (n+2) (eval (.Subscript o i p) env) (eD w B O T env af Q ρ) h:=fun g=>by refine pM g fun hh g=>?_;refine vm ((I.e (ao.bind g) S).out fun a x s1 ρ1 γ1 Z1 h1 e1 r1 S1 g=>?_);refine (I.e (ao.bind g) S1).out fun b y s2 ρ2 γ2 Z2 h2 e2 r2 S2 g=>?_;exact (EJ hh g S2 (r1.ext e2) r2).mono fun U U q=>q.ext (e1.trans e2)
 cases e with
 | Name x p=>exact BJ E g S
 | Constant c k p=>
  cases c with
  | int i=>exact LA fun t=>out S (show af ρ (.int _) _ from ⟨t,rfl⟩) g
  | str x=>exact LB fun t=>out S (show af ρ (.str _) _ from ⟨t,rfl⟩) g
  | none=>exact GH (out S (show af ρ (.k _) _ from rfl) g)
  | bool b=>exact GI (out S (show af ρ (.k _) _ from rfl) g)
  | _=>exact ask g
 | Attribute o name p=>refine pM g fun hh g=>vr ((I.e (ao.bind g) S).out fun a x s1 ρ1 γ1 Z1 h1 e1 r1 S1 g=>?_) (ER hh);exact (BK g S1 r1).mono fun U U q=>q.ext e1
 | Subscript o i p=>
  cases i with
  | Slice a b c q=>
   cases a with
   | some lo=>
    cases b with
    | none=>
     cases c with
     | none=>refine pM g fun hh g=>?_;refine yk S.stk.choose_spec.choose_spec ((I.e (ao.bind g) S).out fun a x s1 ρ1 γ1 Z1 h1 e1 r1 S1 g=>?_) (uq hh);refine kH ((I.e (ao.bind g) S1).out fun b y s2 ρ2 γ2 Z2 h2 e2 r2 S2 g=>kG ?_);refine iS (A3 g S2 (r1.ext e2) r2) fun l xs lo hi q1 q2 q3 q4 q5 Z fr led Pz k=>?_;exact gJ l xs lo hi q1 q2 q3 q4 q5 Z fr led Pz (fun a h' PE=>(k a h' PE).ext (e1.trans e2))
     | some _=>exact dflt g
    | some _=>exact dflt g
   | none=>
    cases b with
    | some hi=>
     cases c with
     | none=>refine pM g fun hh g=>?_;refine yk S.stk.choose_spec.choose_spec ((I.e (ao.bind g) S).out fun a x s1 ρ1 γ1 Z1 h1 e1 r1 S1 g=>kG ?_) (uq hh);refine kH ((I.e (ao.bind g) S1).out fun b y s2 ρ2 γ2 Z2 h2 e2 r2 S2 g=>?_);refine iS (A4 g S2 (r1.ext e2) r2) fun l xs lo hi q1 q2 q3 q4 q5 Z fr led Pz k=>?_;exact gJ l xs lo hi q1 q2 q3 q4 q5 Z fr led Pz (fun a h' PE=>(k a h' PE).ext (e1.trans e2))
     | some _=>exact dflt g
    | none=>
     cases c with
     | some st=>refine pM g fun hh g=>LM S.stk.choose_spec.choose_spec ((I.e (ao.bind g) S).out fun a x s1 ρ1 γ1 Z1 h1 e1 r1 S1 g=>?_) (uq hh);refine (I.e (ao.bind g) S1).out fun b y s2 ρ2 γ2 Z2 h2 e2 r2 S2 g=>mr g fun xs hx g=>pM g fun hm g=>oA (vP hx) fun hk hl=>?_;obtain rfl:=ET hm;refine oE r2 fun t PQ=>?_;clear r2;subst PQ;refine gg hk S2 (r1.ext e2) fun la vs e3 ha ra=>S2.elim fun Zs ms R l Pz hm hR hc hf=>?_;exact pF la vs t e3 ha (by rw [<- ra.len];exact aJ hl) ⟨rfl,Zs,_,_,Pz,fun a h' PE=>(ng g S2 ra.rev l hm hR hc hf PE).ext (e1.trans e2)⟩
     | none=>exact dflt g
  | _=>exact dflt g
 | Call f args YO p=>
  cases f with
  | Name f p2=>
   cases YO with
   | nil=>refine pM g fun ha g=>GQ ((I.e (ao.bind g) S).out fun f fv s1 ρ1 γ1 Z1 h1 e1 r1 S1 g=>pM g fun hc g=>?_);refine oA (vO (w:=w) hc r1) fun hf hc=>?_;refine (cw_ok I hc ha g S1 fun vs xs s2 ρ2 γ2 Z2 h2 e2 r2 S2 g=>?_).mono fun U U q=>q.ext e1;exact vN g S2 (r1.ext e2) r2
   | cons _ _=>exact ask g
  | Attribute o name apos=>
   cases YO with
   | nil=>refine pM g fun hh g=>?_;have h1:=OW hh;have h2:=OW h1.2;have h3:=OW h2.2;refine vt ((I.e (ao.bind g) S).out fun o ov s1 ρ1 γ1 Z1 h1 e1 r1 S1 g=>mr g fun p hm g2=>?_) (ES h1.1 h2.1 (Pf h3.1) (Ph h3.2));obtain ⟨f,x⟩:=p;refine BU hm S1 r1 fun fv RB TP hc=>?_;subst RB TP;refine (cw_ok I (hc _) h2.1 g2 S1 fun vs xs s2 ρ2 γ2 Z2 h2 e2 r2 S2 g=>?_).mono fun U U q=>q.ext e1;exact vN g S2 (show af ρ2 (.k fv) _ from rfl) ⟨r1.ext e2,r2⟩
   | cons _ _=>exact ask g
  | _=>exact ask g
 | BinOp l op q p=>refine E3 ((I.e (ao.bind g) S).out fun a x s1 ρ1 γ1 Z1 h1 e1 r1 S1 g=>?_);refine (I.e (ao.bind g) S1).out fun b y s2 ρ2 γ2 Z2 h2 e2 r2 S2 g=>?_;exact AN g (fun t hb g=>(EQ hb g S2 (r1.ext e2) r2).mono fun U U q=>q.ext (e1.trans e2)) fun U g=>(kr g S2 (vs:=[x,y]) (cF (r1.ext e2) r2 OU)).mono fun U U q=>q.ext (e1.trans e2)
 | UnaryOp op x p=>
  cases op with
  | USub=>
   dsimp only [Bv] at g;refine zI ((I.e (ao.bind g) S).out fun a x s1 ρ1 γ1 Z1 h1 e1 r1 S1 g=>?_);cases a with
   | int z=>refine oE r1 fun t Q4=>?_;clear r1;subst Q4;exact LD fun k=>(out S1 (show af ρ1 (.int _) _ from ⟨k,rfl⟩) g).ext e1
   | _=>exact (kr g S1 (vs:=[x]) ⟨r1,OU⟩).mono fun U U q=>q.ext e1
  | _=>exact ask g
 | Compare l ops qs p=>
  cases ops with
  | nil=>exact ask g
  | cons op ops=>
   cases ops with
   | cons _ _=>exact ask g
   | nil=>
    cases qs with
    | nil=>exact ask g
    | cons q qs=>
     cases qs with
     | cons _ _=>exact ask g
     | nil=>refine EI g (fun U g=>g.elim) fun hb g=>zJ ((I.e (ao.bind g) S).out fun a x s1 ρ1 γ1 Z1 h1 e1 r1 S1 g=>?_) hb;refine (I.e (ao.bind g) S1).out fun b y s2 ρ2 γ2 Z2 h2 e2 r2 S2 g=>?_;exact (yy g S2 (r1.ext e2) r2).mono fun U U q=>q.ext (e1.trans e2)
 | IfExp c b o p=>
  refine E4 ((I.t (ao.bind g) S).out fun a x s1 ρ1 γ1 Z1 h1 e1 r1 S1 g=>?_);obtain rfl:=r1;cases a with
  | true=>exact zV ((I.e g S1).mono fun U U q=>q.ext e1)
  | false=>exact wS ((I.e g S1).mono fun U U q=>q.ext e1)
 | Tuple es c p=>refine pM g fun hs g=>E7 ((I.es hs (ao.bind g) S).out fun vs xs s1 ρ1 γ1 Z1 h1 e1 r1 S1 g=>pM g fun hl g=>?_);have:=EM g S1 r1 (Pf hl);exact ⟨this.1,this.2.ext e1⟩
 | List es p=>refine pM g fun hs g=>GL ((I.es hs (ao.bind g) S).out fun vs xs s1 ρ1 γ1 Z1 h1 e1 r1 S1 g=>pM g fun hl g=>?_);have hl:=Pf hl;exact EI g (fun U g=>have:=EN g S1 r1 hl;⟨this.1,this.2.ext e1⟩) fun U g=>have:=EO g S1 r1 hl;⟨this.1,this.2.ext e1⟩
 | Dict ks vs p=>
  cases ks with
  | cons _ _=>exact ask g
  | nil=>
   cases vs with
   | cons _ _=>exact ask g
   | nil=>exact BM g S
 | _=>exact ask g
theorem oj (E:bS env F):∀ k,sj w B O (n+2) env (ev F k)
 | 0=>⟨fun g U=>g.elim,fun U g U=>g.elim,fun g U=>g.elim,fun g U=>g.elim⟩
 | k+1=>⟨fun g S=>BZ E (oj E k) g S,fun hs g S=>A2 (oj E k) hs g S,fun g S=>BV (oj E k) g S,fun g S=>BW (oj E k) g S⟩
theorem lY (E:bS env F){x:Str}{a:SV}{Q:QQ Unit}(g:ao w B O n env (mA F x a s) ρ γ Z Q)(S:bL w B O T env s ρ γ Z h)(r:af ρ a v):W PW w n (storeName env x v) (eD w B O T env wv Q ρ) h:=
 S.elim fun Zs ms R l Pz hm hR hc hf=>mr g fun k hk g=>by
  cases k with
  | «local» =>refine mr g fun j hi g=>?_;refine oE (yp hi) fun o hj=>?_;obtain ⟨⟨y,u⟩,h1,h2,h3⟩:=ak.get hm hj;cases h2;refine yh Pz (i:=0) rfl h1 (fun h' PE=>?_) (E.ok hk);exact ⟨(),{s with loc:=s.loc.set j (x,some a)},ρ,γ,Z,.refl _,rfl,⟨S.len,S.ok,Zs,_,R,l,PE,ak.set hm (show x=x/\RO ρ (some a) (some v) from ⟨rfl,r⟩),hR,hc,hf⟩,g⟩
  | cell=>refine mr g fun p hl g=>?_;have hl:=oh (i:=p.1) (v:=p.2) hl;refine ju (ak.get hR hl) fun Qs h1 h2 v' h3 h4=>?_;obtain ⟨c,u⟩:=Qs;cases h3;refine B9 Pz (i:=p.1+1) (c:=c) (vK h1) (fun h' PE=>?_) h2 (E.ok hk);exact ⟨(),{s with led:=s.led.set p.1 (.cel x (some a))},ρ,γ,Z,.refl _,rfl,⟨S.len,S.ok,Zs,ms,R.set p.1 (c,.cel (some v)),l,by rw [Hh h1] at PE;exact PE,hm,ak.set hR (show RE env ρ (.cel x (some a)) (c,.cel (some v)) from (mU h2 _ rfl r)),(vD (b:=.cel x (some a)) hl rfl rfl).trans hc,hf⟩,g⟩
  | _=>exact g.elim
theorem C2 {x:Str}{a:SV}{j:Nat}{p:Pos}{Q:QQ Unit}(hl:look F.names x=some .local)(hj:A0 s.loc x=some j)(q:Q () {s with loc:=s.loc.set j (x,some a)} ρ γ Z):ao w B O n env (yt F (.Name x p) a s) ρ γ Z Q:=by show ao w B O n env (oB _ _ _) ρ γ Z Q;rw [hl];show ao w B O n env (oB _ _ _) ρ γ Z Q;rw [hj];exact q
theorem om {e:Expr}{x:Str}(h:wZ e=some x):∃ p,e=.Name x p:=by
 cases e with
 | Name y p=>exact ⟨p,Pl (Expr.Name · p) (Pd h)⟩
 | _=>exact jc h
theorem nh {e:Expr}{es:List Expr}{xs:List Str}(h:kq (e::es)=some xs):∃ x p Vg,e=.Name x p/\xs=x::Vg/\kq es=some Vg:=gK h fun x h1 h=>gK h fun l h2 h=>oE (om h1) fun p e=>(bR x p l e ((Pd h).symm) h2)
theorem ni {es:List Expr}{xs:List Str}(h:kq es=some xs):(assignEach es env).findIdx? (·.1)=none/\(assignEach es env).length=xs.length:=by
 induction es generalizing xs with
 | nil=>obtain rfl:=Pd h;exact ⟨rfl,rfl⟩
 | cons e es ih=>
  refine fq (nh h) fun x p Vg PZ PQ h2=>?_;subst PZ;subst PQ;refine oA (ih h2) fun h3 h4=>?_;refine ⟨?_,?_⟩
  ·show List.findIdx? (·.1) ((false,assign (.Name x p) env)::assignEach es env)=none;rw [List.findIdx?_cons,h3];rfl
  ·show (assignEach es env).length+1=Vg.length+1;rw [h4]
theorem qX (E:bS env F){es:List Expr}{xs:List Str}{s:bb}{ρ:LV}{γ:List an}{Z:a8}{h:Heap}{Q:QQ Unit}(hn:kq es=some xs)(g:ao w B O n env (lW F xs l s) ρ γ Z Q)(S:bL w B O T env s ρ γ Z h)(r:ak (af ρ) l vs):
  W PW w n (assignInOrder ((assignEach es env).map (·.2)) vs) (eD w B O T env wv Q ρ) h:=by
 induction es generalizing xs l vs s ρ γ Z h with
 | nil=>
  obtain rfl:=Pd hn;cases l with
  | nil=>obtain rfl:=r.nil_r;exact mo (out S (R:=wv) rfl g)
  | cons a l=>exact g.elim
 | cons e es ih=>
  refine fq (nh hn) fun x p Vg Q4 Qu h2=>?_;subst Q4;subst Qu;cases l with
  | nil=>exact g.elim
  | cons a l=>refine et r.cons_r fun v vs Qt r1 r2=>?_;subst Qt;refine lu (jw ((lY E (ao.bind g) S r1).out fun U U s1 ρ1 γ1 Z1 h1 e1 U S1 g=>?_));exact (ih h2 g S1 (RL.ext e1 r2)).mono fun U U q=>q.ext e1
theorem xb (E:bS env F){xs:List Str}{s:bb}{ρ:LV}{γ:List an}{Z:a8}{h:Heap}{Q:QQ Unit}(g:ao w B O n env (lW F xs l s) ρ γ Z Q)(S:bL w B O T env s ρ γ Z h)(r:ak (af ρ) l vs):
  W PW w n (assignInOrder (xs.map fun n=>bindName env n) vs) (eD w B O T env wv Q ρ) h:=by
 induction xs generalizing l vs s ρ γ Z h with
 | nil=>
  cases l with
  | nil=>obtain rfl:=r.nil_r;exact mo (out S (R:=wv) rfl g)
  | cons a l=>exact g.elim
 | cons x xs ih=>
  cases l with
  | nil=>exact g.elim
  | cons a l=>refine et r.cons_r fun v vs R5 r1 r2=>?_;subst R5;refine lu (wO ((lY E (ao.bind g) S r1).out fun U U s1 ρ1 γ1 Z1 h1 e1 U S1 g=>?_));exact (ih g S1 (RL.ext e1 r2)).mono fun U U q=>q.ext e1
theorem qY {a:SV}{k:Nat}{Q:LV->Heap->Prop}(e:pL a s=some l)(S:bL w B O T env s ρ γ Z h)(r:af ρ a v)(hk:k=l.length)
  (q:∀ vs h',ak (af ρ) l vs->bL w B O T env s ρ γ Z h'->Q vs h'):W PW w n (unpackItems v k none) Q h:=by
 cases a with
 | v i=>
  refine S.elim fun Zs ms R l1 Pz hm hR hc hf=>gK e fun c h1 e=>?_;have f:=hf _ (cr h1);cases c with
  | tup ys=>obtain rfl:=Pd e;obtain ⟨a',vs,f1,f2,f3⟩:=f;obtain rfl:=af.det r f1;exact qJ Pz (Pz.z f2) (hk.trans f3.len) fun h' PE=>q _ _ f3 ⟨S.len,S.ok,Zs,ms,R,l1,PE,hm,hR,hc,hf⟩
  | lst ys=>obtain rfl:=Pd e;obtain ⟨a',vs,f1,f2,f3⟩:=f;obtain rfl:=af.det r f1;exact qK Pz (Pz.z f2) (hk.trans f3.len) fun h' PE=>q _ _ f3 ⟨S.len,S.ok,Zs,ms,R,l1,PE,hm,hR,hc,hf⟩
  | _=>exact jc e
 | _=>exact jc e
theorem ur{t:Option Expr}{k:Nat}(hc:qP value=false):swapsWith value t k env=pure false:=by cases value<;>first | rfl | exact nT hc
theorem yz {t : Expr}{k:Nat}(hc:qP value=false):swapsWithSole [t] value k env=pure false:=ur hc
theorem Mr{k:Nat}(hc:Ga value=false):swappedStores [.Tuple ts k Qo] value env=pure none:=by cases value<;>first | rfl | exact nT hc
theorem C3{m:Sem α}{a:α}(h:Gb m=some a):m=pure a:=by
 cases m with
 | pure b=>exact Pd h▸rfl
 | _=>exact nS h
theorem C5 (E:bS env F){vs : List Expr}{k : Nat}{o:Option (List Str)}(h:NZ F ts vs=some o):swappedStores [.Tuple ts k Qo] (.Tuple vs k2 U5) env=pure o:=by
 have hk:env.kindOf=(Bx F).kindOf:=funext fun id=>by unfold Env.kindOf;rw [E.names];rfl
 have hb:env.blockKind=(Bx F).blockKind:=E.block;have h:=C3 h;unfold swappedStores at h ⊢;rw [hk,hb];exact h
theorem Hj (E:bS env F){vs : List Expr}{k : Nat}{xs:List Str}(h:OC F ts vs=some xs):swappedStores [.Tuple ts k Qo] (.Tuple vs k2 U5) env=pure (some xs):=gK h fun o e h=>C5 E (e.trans (Pl some h))
structure C6 (w:World)(B:Heap)(O:aP)(n:Nat)(env:Env)(r:Ex):Prop where
 s:∀ {T e s ρ γ Z h Q},ao w B O n env (r.s e s) ρ γ Z Q->bL w B O T env s ρ γ Z h->W PW w n (exec e env) (eD w B O T env oR Q ρ) h
 ss:∀ {T e s ρ γ Z h Q},ao w B O n env (r.ss e s) ρ γ Z Q->bL w B O T env s ρ γ Z h->W PW w n (execs e env) (eD w B O T env oR Q ρ) h
theorem qZ (E:bS env F){tg:Expr}{a:SV}{Q:QQ Unit}(g:ao w B O n env (yt F tg a s) ρ γ Z Q)(S:bL w B O T env s ρ γ Z h)(r:af ρ a v):W PW w n (assign tg env v) (eD w B O T env wv Q ρ) h:=by
 cases tg with
 | Name x p=>exact jw (lY E g S r)
 | Tuple ts k p=>refine mr g fun xs hx g=>mr g fun l hi g=>pM g fun hl g=>?_;refine oA (ni (env:=env) hx) fun n1 n2=>?_;exact lx (qY hi S r (n2.trans (Ph hl)) fun vs h2 rl S2=>qX E hx g S2 rl) n1
 | _=>exact g.elim
theorem oo (E:bS env F){x:Str}{a:SV}{j:Nat}{p:Pos}{Q:Unit->Heap->Prop}(hl:look F.names x=some .local)(hj:A0 s.loc x=some j)(S:bL w B O T env s ρ γ Z h)(r:af ρ a v)(k:∀ u h',bL w B O T env {s with loc:=s.loc.set j (x,some a)} ρ γ Z h'->Q u h'):W PW w n (assign (.Name x p) env v) Q h:=
 (qZ E (C2 (n:=n) (Q:=fun U s' ρ' γ' Z'=>s'={s with loc:=s.loc.set j (x,some a)}/\ρ'=ρ/\γ'=γ/\Z'=Z) hl hj (fu rfl rfl rfl rfl)) S r).mono fun u h' o=>by obtain ⟨_,s4,ρ4,γ4,Z4,e4,_,S4,rfl,rfl,rfl,rfl⟩:=o;exact k u h' S4
theorem EU (E:bS env F){e:Expr}{a:SV}{Q:VP}(he:(ev F 40).e e s=.ret a s)(S:bL w B O T env s ρ γ Z h)(k:∀ v h',af ρ a v->bL w B O T env s ρ γ Z h'->Q v h'):W PW w (n+2) (eval e env) Q h:=
 ((oj E 40).e (show ao w B O (n+2) env ((ev F 40).e e s) ρ γ Z (fun a' s' ρ' γ' Z'=>a'=a/\s'=s/\ρ'=ρ/\γ'=γ/\Z'=Z) from he▸(mV rfl rfl rfl rfl rfl)) S).mono fun v h' o=>by obtain ⟨a',s4,ρ4,γ4,Z4,e4,r,S4,rfl,rfl,rfl,rfl,rfl⟩:=o;exact k v h' r S4
theorem St.mid{T : dy}(S:St w B O Z (fr::(R++p::T)) h):St w B O Z (fr::p::(R++T)) h:=S.perm (List.perm_middle.cons _)
theorem St.unmid{T : dy}(S:St w B O Z (fr::p::(R++T)) h):St w B O Z (fr::(R++p::T)) h:=S.perm (List.perm_middle.symm.cons _)
theorem bL.drop(S:bL w B O (p::T) env s ρ γ Z h):bL w B O T env s ρ γ Z h:=S.elim fun Zs ms R l Pz hm hR hc hf=>⟨S.len,S.ok,Zs,ms,R,l,Pz.mid.drop1,hm,hR,hc,hf⟩
theorem yA {f:SF}{fl:Flow}{s:bb}{k:bb->IT SF}{Q:QQ SF}{I:Heap->Prop}(g:ao w B O n env (By f s k) ρ γ Z Q)(r:oR ρ f fl)
  (i:ao w B O n env (k s) ρ γ Z Q->I h) {R:Flow->Heap->Prop} (o:∀ f' QF,oR ρ f' QF->Q f' s ρ γ Z->R QF h):o9 I R fl h:=by cases f<;>cases fl<;>first | exact (r:False).elim | exact i g | exact o .next .next OU g | exact o (.ret _) (.ret _) r g
noncomputable def fX (K:um)(la:Addr)(j:Nat):an:=match K with
 | .lst _=>.lit la j
 | .rng N=>.rit j ((N:Int) - j) 1
noncomputable def vQ (ρ:LV)(la:Addr):um->Prop
 | .lst i=>ρ[i]? =some (.ref la)
 | .rng _=>True
theorem vQ.ext {ρ ρ':LV}{la:Addr}(e:iY ρ ρ'):∀ {K:um},vQ ρ la K->vQ ρ' la K
 | .lst _,h=>e.get h
 | .rng _,_=>OU
theorem bL.swapIt{ms:List (Str×Option Value)}{q : Addr×an}(S:bL w B O (p::T) env s ρ γ Z h)(l:Z.le Zs)(hm:RM ρ s.loc ms)(hR:ak (RE env ρ) s.led R)(hc:cont s.led R=γ)(hf:∀ p∈s.fz,bK ρ Zs p.1 p.2)
  (PE:St w B O Zs ((env.locals,.ns ms)::q::(R++T)) h'):bL w B O (q::T) env s ρ γ Z h':=⟨S.len,S.ok,Zs,ms,R,l,PE.unmid,hm,hR,hc,hf⟩
theorem yB {K:um}{j:Nat}{a:SV}{it la:Addr}{Q:Option Value->Heap->Prop}(S:bL w B O ((it,fX K la j)::T) env s ρ γ Z h)(e:te K j s=some (some a))(hr:vQ ρ la K)
  (k:∀ v h',af ρ a v->bL w B O ((it,fX K la (j+1))::T) env s ρ γ Z h'->Q (some v) h'):W PW w n (pyNext (.ref it)) Q h:=by
 refine S.elim fun Zs ms R l Pz hm hR hc hf=>?_;cases K with
 | lst i=>
  refine gK e fun c h1 e=>?_;cases c with
  | lst ys=>
   obtain ⟨b,vs,h1,h2,h3⟩:=(hf _ (cr h1):bK ρ Zs _ (.lst _))
   obtain rfl:=Value.ref.inj (Pd (h1.symm.trans hr));refine bM (ak.get h3 (Pd e)) fun v hv rv=>?_;exact uf Pz.mid (Pz.z h2) hv fun h2 PE=>k v h2 rv (S.swapIt l hm hR hc hf PE)
  | _=>exact jc e
 | rng N=>
  refine vB e (fun U e=>ly e fun U e=>nomatch e) fun hb e=>?_
  ·obtain rfl:=Pd (Pd e);have Rx:j < N:=Nat.lt_of_not_le fun h=>by rw [Nat.ble_eq_true_of_le h] at hb;exact nT hb
   refine Ef Pz.mid (by lia) fun h2 t PE=>k _ h2 ⟨t,rfl⟩ (S.swapIt l hm hR hc hf ?_);have e1:((j+1:Nat):Int)=(j:Int)+1:=by lia
   have e2:(N:Int) - ((j+1:Nat):Int)=(N:Int) - j - 1:=by lia
   unfold fX;dsimp only;rw [e2,e1];exact PE
theorem C7 {K:um}{j:Nat}{it la:Addr}{Q:Option Value->Heap->Prop}(S:bL w B O ((it,fX K la j)::T) env s ρ γ Z h)(e:te K j s=some none)(hr:vQ ρ la K)
  (k:∀ h',bL w B O T env s ρ γ Z h'->Q none h'):W PW w n (pyNext (.ref it)) Q h:=by
 refine S.elim fun Zs ms R l Pz hm hR hc hf=>?_;cases K with
 | lst i=>
  refine gK e fun c h1 e=>?_;cases c with
  | lst ys=>
   obtain ⟨b,vs,h1,h2,h3⟩:=(hf _ (cr h1):bK ρ Zs _ (.lst _))
   obtain rfl:=Value.ref.inj (Pd (h1.symm.trans hr));exact wR Pz.mid (Pz.z h2) (List.getElem?_eq_none (by rw [<- h3.len];exact List.getElem?_eq_none_iff.mp (Pd e))) fun h2 PE=>k h2 ⟨S.len,S.ok,Zs,ms,R,l,PE,hm,hR,hc,hf⟩
  | _=>exact jc e
 | rng N=>refine vB e (fun h1 e=>ly e fun h2 e=>?_) fun U e=>nomatch e;have h1:=Pf h1;have h2:=Pf h2;exact GV Pz.mid (by lia) fun h2 PE=>k h2 ⟨S.len,S.ok,Zs,ms,R,l,PE,hm,hR,hc,hf⟩
inductive O3 (w:World)(B:Heap)(O:aP)(T:dy)(n:Nat)(env:Env)(F:FI)(x:Ex)(tg:Expr)(body:List Stmt)(K:um)(it la:Addr)(Q:QQ SF)(ρ:LV)(k:Nat)(h:Heap):Prop
 | mk (j:Nat) (s:bb) (ρ':LV) (γ:List an) (Z:a8) (e:iY ρ ρ') (S:bL w B O ((it,fX K la j)::T) env s ρ' γ Z h) (g:ao w B O n env (EA F x tg body K k j s) ρ' γ Z Q)
theorem C8 {K:um}{j:Nat}{it la:Addr}(tg:Expr)(S:bL w B O ((it,fX K la j)::T) env s ρ γ Z h)(ht:si tg K=true):∃ SP l i,Value.ref it=.ref SP/\h.IsListIter SP l i\/∀ v,letOwnedTupleGo tg (.ref it) v=pure ():=by
 cases K with
 | lst i=>exact S.elim fun Zs ms R l Pz hm hR hc hf=>qB it la j (.inl ⟨rfl,Pz.mid.get 1 rfl⟩)
 | rng N=>exact qN ht (fun x hx U=>qB it it 0 (.inr fun v=>by refine oE (om hx) fun p Te=>?_;subst Te;rfl)) fun U e=>nomatch e
theorem yC {tg:Expr}{K:um}(ht:si tg K=true):i9 tg=true:=by
 cases K with
 | lst i=>exact ht
 | rng N=>exact qN ht (fun x hx U=>by refine oE (om hx) fun p Sn=>?_;subst Sn;rfl) fun U e=>nomatch e
theorem EV (E:bS env F){x:Ex}(X:C6 w B O n env x){tg:Expr}{body:List Stmt}{K:um}{k:Nat}{it la:Addr}{Q:QQ SF}(ht:si tg K=true)(g:ao w B O n env (EA F x tg body K k 0 s) ρ γ Z Q)(S:bL w B O ((it,fX K la 0)::T) env s ρ γ Z h)(hr:vQ ρ la K):
  zU w n tg body [] env (eD w B O T env oR Q ρ) (.ref it) h:=by
 refine yl (O3 w B O T n env F x tg body K it la Q ρ) (fun k h1 hk=>?_) k ⟨0,s,ρ,γ,Z,.refl _,S,g⟩ (yC ht);obtain ⟨j,s1,ρ1,γ1,Z1,e1,S1,g⟩:=hk;cases k with
 | zero=>refine mr g fun o hn g=>AN g (fun U U g=>g.elim) fun ho g=>?_;subst ho;exact C7 S1 hn (hr.ext e1) fun h2 S2=>dq ((out (R:=oR) (b:=.next) (a:=.next) S2 OU g).ext e1)
 | succ k=>
  refine mr g fun o hn g=>mr g fun b ho g=>?_;subst ho
  ·refine yB S1 hn (hr.ext e1) fun v h2 rv S2=>⟨C8 tg S2 ht,?_⟩
   refine (qZ E (ao.bind g) S2 rv).out fun U U s2 ρ2 γ2 Z2 h3 e2 U S2 g=>?_;refine (X.ss (ao.bind g) S2).out fun f fl s3 ρ3 γ3 Z3 h4 e3 r3 S3 g=>?_;refine yA g r3 (fun g=>bw k (Nat.lt_succ_self _) ⟨j+1,s3,ρ3,γ3,Z3,e1.trans (e2.trans e3),S3,g⟩) fun f' QF r' q=>?_;refine (out (n:=n) (R:=oR) S3.drop r' q).ext (e1.trans (e2.trans e3))
inductive OO (w:World)(B:Heap)(O:aP)(T:dy)(n:Nat)(env:Env)(r:s6)(x:Ex)(test:Expr)(body:List Stmt)(Q:QQ SF)(ρ:LV)(k:Nat)(h:Heap):Prop
 | mk (s:bb) (ρ':LV) (γ:List an) (Z:a8) (e:iY ρ ρ') (S:bL w B O T env s ρ' γ Z h) (g:ao w B O n env (Nd r x test body k s) ρ' γ Z Q)
theorem Hk {r:s6}(I:sj w B O n env r){x:Ex}(X:C6 w B O n env x){test:Expr}{body:List Stmt}{k:Nat}{pos:Pos}{Q:QQ SF}(g:ao w B O n env (Nd r x test body k s) ρ γ Z Q)(S:bL w B O T env s ρ γ Z h):W PW w n (exec (.While test body [] pos) env) (eD w B O T env oR Q ρ) h:=by
 refine Eg (OO w B O T n env r x test body Q ρ) (fun k h1 hk R hR=>?_) k ⟨s,ρ,γ,Z,.refl _,S,g⟩;obtain ⟨s1,ρ1,γ1,Z1,e1,S1,g⟩:=hk;cases k with
 | zero=>exact g.elim
 | succ k=>
  refine (I.t (ao.bind g) S1).out fun a b s2 ρ2 γ2 Z2 h2 e2 r2 S2 g=>?_;obtain rfl:=r2;cases a with
  | true=>refine zV ((X.ss (ao.bind g) S2).out fun f fl s3 ρ3 γ3 Z3 h4 e3 r3 S3 g=>?_);exact hR _ _ (yA g r3 (fun g=>bw k (Nat.lt_succ_self _) ⟨s3,ρ3,γ3,Z3,e1.trans (e2.trans e3),S3,g⟩) fun f' QF r' q=>(out (n:=n) (R:=oR) S3 r' q).ext (e1.trans (e2.trans e3)))
  | false=>exact wS (dq ((out (R:=oR) (b:=.next) (a:=.next) S2 OU g).ext (e1.trans e2)))
theorem C9 {it:Expr}(h:x7 it=false)(x:Value):foldedSetIterable it env x=pure x:=by
 cases it with
 | Set=>exact nT h
 | _=>rfl
theorem ak.erase{R:α->β->Prop}{l:List α}{m:List β}(h:ak R l m):ak R (l.eraseIdx i) (m.eraseIdx i):=h.ind (M:=fun l m=>∀ i,ak R (l.eraseIdx i) (m.eraseIdx i)) (fun U=>OU) (fun r h ih i=>by cases i with
 | zero=>exact h
 | succ i=>exact ⟨r,ih i⟩) i
theorem r6 {a:SL}{l:List SL}:∀ {R:dy} {i:Nat},l[i]? =some a->a.isOpq=false->l.length=R.length->cont (l.eraseIdx i) (R.eraseIdx i)=cont l R:=by
 induction l with
 | nil=>exact fun e=>nS e
 | cons x l ih=>
  intro R i e ha hl;cases R with
  | nil=>exact nomatch hl
  | cons p R=>
   cases i with
   | zero=>exact (f9 (Pd e▸ha)).symm
   | succ i=>exact Bo (ih e ha (Nat.succ.inj hl))
theorem r7{T : dy}{j:Nat}(e:R[j]? =some p):(fr::(R++T)).eraseIdx (j+1)=fr::(R.eraseIdx j++T):=by rw [List.eraseIdx_cons_succ,List.eraseIdx_append_of_lt_length (List.getElem?_eq_some_iff.mp e).1]
theorem r8 {a:SV}{K:um}{k:Nat}{Q:VP}(e:fW a s=some (K,k,s'))(S:bL w B O T env s ρ γ Z h)(r:af ρ a v)
  (q:∀ it la h',vQ ρ la K->bL w B O ((it,fX K la 0)::T) env s' ρ γ Z h'->Q (.ref it) h'):W PW w n (pyIter v) Q h:=by
 cases a with
 | v i=>
  refine S.elim fun Zs ms R l Pz hm hR hc hf=>qN e (fun c h1 e=>?_) fun U e=>gK e fun p h1 e=>?_
  ·have f:=hf _ (cr h1);cases c with
   | lst ys=>cases e;obtain ⟨la,vs,h1,h2,h3⟩:=f;obtain rfl:=af.det r h1;exact pG Pz (Pz.z h2) fun it h2 PE=>q it la h2 h1 ⟨S.len,S.ok,Zs,ms,R,l,PE.unmid,hm,hR,hc,hf⟩
   | rng N=>refine ly e fun hN e=>?_;cases e;obtain ⟨la,t,u,v',h1,h2⟩:=f;obtain rfl:=af.det r h1;refine Ee Pz (Pz.z h2) (Pg (Pf hN) OV) fun it h2 PE=>q it la h2 OU ⟨S.len,S.ok,Zs,ms,R,l,?_,hm,hR,hc,hf⟩;unfold fX;dsimp only;rw [show (k:Int) - ((0:Nat):Int)=k by lia];exact PE.unmid
   | _=>exact jc e
  ·have hx:=oi (j:=p.1) (xs:=p.2) h1;cases e;refine ju (ak.get hR hx) fun z_9 h1 h2 vs h3 h4=>?_;obtain ⟨la,c⟩:=z_9;cases h3;refine d6 (Pz.fzl _ (vK h1)) fun Z' l' z PE=>?_;rw [r7 h1] at PE;obtain rfl:=af.det r h2;refine pG PE (PE.z z) fun it RR Q0=>q it la RR h2 ⟨S.len,S.ok,Z',ms,_,l.trans l',Q0.unmid,hm,hR.erase,(r6 hx rfl hR.len).trans hc,fun p hp=>?_⟩;rcases OY hp with rfl | hp
   ·exact ⟨la,vs,h2,z,h4⟩
   ·exact (hf p hp).ext (.refl _) l'
 | _=>exact jc e
theorem Hl (E:bS env F){vs : List Expr}{k : Nat}(h:OD F ts vs=true):swappedStores [.Tuple ts k Qo] (.Tuple vs k2 U5) env=pure none:=qN h (fun o e h=>C5 E (e.trans (Pl some (Option.isNone_iff_eq_none.mp h)))) fun U h=>nB h
theorem yD (E:bS env F){r:s6}(I:sj w B O n env r){k:Nat}{pos : Pos}{Q:QQ SF}(hc:qP value=false)(hw:swappedStores [.Tuple ts k Qo] value env=pure none)(g:ao w B O n env (Hb F r ts value s) ρ γ Z Q)(S:bL w B O T env s ρ γ Z h):
  W PW w n (exec (.Assign [.Tuple ts k Qo] value pos) env) (eD w B O T env oR Q ρ) h:=by refine mr g fun xs hx g=>?_;refine zO ((I.e (ao.bind g) S).out fun a v s1 ρ1 γ1 Z1 h1 e1 r1 S1 g=>mr g fun l hi g=>pM g fun hl g=>?_) (yz hc) hw;refine oA (ni (env:=env) hx) fun n1 n2=>?_;refine lx (qY hi S1 r1 (n2.trans (Ph hl)) fun vs h2 rl S2=>?_) n1;refine (qX E hx (ao.bind g) S2 rl).out fun U U s2 ρ2 γ2 Z2 h2 e2 U S2 g=>?_;exact (out S2 (show oR _ .next .next from OU) g).ext (e1.trans e2)
theorem Ca (E:bS env F){r:s6}{x:Ex}(I:sj w B O n env r)(X:C6 w B O n env x){st:Stmt}{Q:QQ SF}(g:ao w B O n env (Gc F r x st s) ρ γ Z Q)(S:bL w B O T env s ρ γ Z h):W PW w n (exec st env) (eD w B O T env oR Q ρ) h:=by
 have R6:∀ {s ρ γ Z h} {Q:QQ SF},bL w B O T env s ρ γ Z h->ao w B O n env (.ret .next s) ρ γ Z Q->eD w B O T env oR Q ρ .next h:=fun S g=>out S (show oR _ .next .next from OU) g;cases st with
 | Assign ts value p=>
  cases ts with
  | nil=>exact g _ _ S
  | cons t ts=>
   cases ts with
   | cons _ _=>exact g _ _ S
   | nil=>
    refine EI g (fun U g=>g _ _ S) fun hc g=>?_;cases t with
    | Name x q=>refine s9 ((I.e (ao.bind g) S).out fun a x s1 ρ1 γ1 Z1 h1 e1 r1 S1 g=>?_) (ur hc);refine (lY E (ao.bind g) S1 r1).out fun U U s2 ρ2 γ2 Z2 h2 e2 U S2 g=>?_;exact (R6 S2 g).ext (e1.trans e2)
    | Subscript o i q=>refine vp ((I.e (ao.bind g) S).out fun a x s1 ρ1 γ1 Z1 h1 e1 r1 S1 g=>?_) (ur hc);refine (I.e (ao.bind g) S1).out fun b y s2 ρ2 γ2 Z2 h2 e2 r2 S2 g=>?_;refine (I.e (ao.bind g) S2).out fun c z s3 ρ3 γ3 Z3 h3 e3 r3 S3 g=>?_;refine (g _ _ _ _ _ S3 (r2.ext e3) r3 (r1.ext (e2.trans e3))).mono fun U h4 o=>?_;obtain ⟨_,s4,ρ4,γ4,Z4,e4,_,S4,g⟩:=o;exact (R6 S4 g).ext (e1.trans (e2.trans (e3.trans e4)))
    | Tuple ts c q=>
     refine EI g (fun U g=>?_) fun ht g=>yD E I hc (Mr ht) g S;cases value with
     | Tuple vs c2 p2=>refine AN g (fun xs hx g=>?_) fun U g=>pM g fun hp g=>yD E I hc (Hl E hp) g S;refine wP xs ((I.e (ao.bind g) S).out fun a v s1 ρ1 γ1 Z1 h1 e1 r1 S1 g=>mr g fun l hi g=>pM g fun hl g=>?_) (yz hc) (Hj E hx);refine qY hi S1 r1 (Ph hl) fun vs h2 rl S2=>?_;refine (xb E (ao.bind g) S2 rl.rev).out fun U U s2 ρ2 γ2 Z2 h2 e2 U S2 g=>?_;exact (R6 S2 g).ext (e1.trans e2)
     | _=>exact g.elim
    | _=>exact g _ _ S
 | For tg it body U4 p=>
  cases U4 with
  | cons _ _=>exact g _ _ S
  | nil=>refine EI g (fun U g=>g.elim) fun hc g=>FS ((I.e (ao.bind g) S).out fun a v s1 ρ1 γ1 Z1 h1 e1 r1 S1 g=>?_) (C9 hc);refine AN g (fun p hp g=>pM g fun ht g=>r8 hp S1 r1 fun it la h2 hr S2=>RY.mono (fun U U q=>q.ext e1) (EV E X ht g S2 hr)) fun U g=>(g _ _ _ S1 r1).mono fun U U q=>RY.mono (fun U U q=>q.ext e1) q
 | While test body U4 p=>
  cases U4 with
  | cons _ _=>exact g _ _ S
  | nil=>exact Hk I X g S
 | Return v p=>
  cases v with
  | none=>exact g _ _ S
  | some e=>refine B3 ((I.e (ao.bind g) S).out fun a x s1 ρ1 γ1 Z1 h1 e1 r1 S1 g=>?_);exact (out S1 (show oR ρ1 (.ret a) (.ret x) from r1) g).ext e1
 | If test body orelse p=>
  refine NP ((I.t (ao.bind g) S).out fun a x s1 ρ1 γ1 Z1 h1 e1 r1 S1 g=>?_);obtain rfl:=r1;cases a with
  | true=>exact zV ((X.ss g S1).mono fun U U q=>q.ext e1)
  | false=>exact wS ((X.ss g S1).mono fun U U q=>q.ext e1)
 | Expr e p=>refine EI g (fun U g=>g.elim) fun hc g=>B4 ((I.e (ao.bind g) S).out fun a x s1 ρ1 γ1 Z1 h1 e1 r1 S1 g=>pM g fun hn g=>?_) E.interactive (ur hc);exact ⟨qU hn r1,(R6 S1 g).ext e1⟩
 | _=>exact g _ _ S
theorem A5 {x:Ex}(X:C6 w B O n env x){l:List Stmt}{Q:QQ SF}(g:ao w B O n env (Bz x l s) ρ γ Z Q)(S:bL w B O T env s ρ γ Z h):W PW w n (execs l env) (eD w B O T env oR Q ρ) h:=by
 cases l with
 | nil=>exact dq (out S (show oR ρ .next .next from OU) g)
 | cons st l=>
  refine f8 ((X.s (ao.bind g) S).out fun a x s1 ρ1 γ1 Z1 h1 e1 r1 S1 g=>?_);cases a with
  | next=>cases x<;>first | exact (r1:False).elim | exact (X.ss g S1).mono fun U U q=>q.ext e1
  | brk=>cases x<;>first | exact (r1:False).elim | exact (out S1 (show oR ρ1 .brk .brk from OU) g).ext e1
  | cont=>cases x<;>first | exact (r1:False).elim | exact (out S1 (show oR ρ1 .cont .cont from OU) g).ext e1
  | ret a=>cases x<;>first | exact (r1:False).elim | exact (out S1 (show oR ρ1 (.ret a) (.ret _) from r1) g).ext e1
theorem A6 (E:bS env F):∀ k,C6 w B O (n+2) env (ex F k)
 | 0=>⟨fun g U=>g.elim,fun g U=>g.elim⟩
 | k+1=>⟨fun g S=>Ca E (oj E 40) (A6 E k) g S,fun g S=>A5 (A6 E k) g S⟩
noncomputable def iU (k:NameKind):List (Str×NameKind)->List Str
 | []=>[]
 | (x,k')::l=>match decide (k'=k) with
  | true=>x::iU k l
  | false=>iU k l
abbrev lD (P9:FuncData):List Str:=iU .local P9.scope.names
abbrev cW (P9:FuncData):List Str:=iU .cell P9.scope.names
noncomputable abbrev eh (P9:FuncData):List Str:=P9.params.args.map (·.arg)
def xc (nm:List (Str×NameKind))(k:NameKind):List (Str×SV)->(Str->Option SV)->Str->Option SV
 | [],m=>m
 | p::r,m=>xc nm k r (oB (look nm p.1) (fun k'=>bB (decide (k'=k)) (fun y=>bB (seq p.1 y) (some p.2) (m y)) m) m)
noncomputable def uQ (P9:FuncData):List Stmt:=match P9.body with
 | .stmts b=>b
 | _=>[]
end
structure bU (P:Params)(P9:FuncData)(f:Addr)(k:Nat):Prop where
 f:(KF P).lookup f=some (fo P9)
 cd:codeIn (KF P) P9.code P9.qualname=true
 body:P9.body=.stmts (uQ P9)
 clo:P9.closure=[]
 bind:∀ vals:LV,vals.length=k->bindArgs P9 ⟨vals,[]⟩=pure ((eh P9).zip vals)
 kind:((eh P9).all fun x=>match look P9.scope.names x with
  | some .local=>true
  | some .cell=>my (cW P9) x
  | _=>false)=true
 cs:∀ L,cellsFrom (L+1) P9.scope.names []=bz (L+1) ((cW P9).map fun x=>(x,none)) []
 nd:(lD P9).Nodup/\(cW P9).Nodup
 co:(P9.scope.isCoroutine || (P9.scope.isGenerator || !decide (P9.scope.kind=.function)))=false
 gb:P9.globals=mainGlobals/\P9.builtins=builtinsNs
 dbg:(P9.scope.names.all fun p=>(p.1==("__debug__" :Str))==false && (p.1==("__classdict__" :Str))==false)=true
noncomputable abbrev fi (P9:FuncData)(frz:Bool):FI:=⟨P9.scope.names,frz⟩
theorem bU.env {P:Params}{P9:FuncData}{f:Addr}{k:Nat}(D:bU P P9 f k)(b:Bool)(L:Addr):bS (callEnvC P9 L f) (fi P9 b) where
 names:=rfl
 kind:=by have:=D.co;rw [Bool.or_eq_false_iff,Bool.or_eq_false_iff,Bool.not_eq_false'] at this;exact Pp this.2.2
 glob:=D.gb.1
 bi:=D.gb.2
 dbg:=D.dbg
def start (P9:FuncData)(PD:List SV)(led:List SL)(fz:List (Nat×aE))(nv:Nat):bb where
 loc:=(lD P9).map fun x=>(x,xc P9.scope.names .local ((eh P9).zip PD) (fun U=>none) x)
 led:=((cW P9).map fun x=>.cel x (xc P9.scope.names .cell ((eh P9).zip PD) (fun U=>none) x))++led
 fz:=fz
 nv:=nv
theorem mt {cs:List (Str×Option Value)}{L:Nat}{acc:List (Str×Addr)}:bz L cs acc=bz L ((cs.map (·.1)).map fun x=>(x,none)) acc:=by
 induction cs generalizing L acc with
 | nil=>rfl
 | cons p cs ih=>exact ih
theorem nj {cs YQ:List (Str×Option Value)}{L:Nat}{acc:List (Str×Addr)}(h:cs.map (·.1)=YQ.map (·.1)):bz L cs acc=bz L YQ acc:=by rw [mt,h];exact mt.symm
theorem OE {ρ:LV}{p y:Str}{sv:SV}{v:Value}{o:Option SV}{o':Option Value}(r:af ρ sv v)(h:RO ρ o o'):RO ρ (bB (seq p y) (some sv) o) (if y=p then some v else o'):=by
 cases q:seq p y with
 | true=>rw [if_pos (iu q).symm];exact r
 | false=>rw [if_neg (fun e=>by rw [e,nb] at q;exact nT q)];exact h
theorem xd {ρ:LV}{nm:List (Str×NameKind)}{K:Str->Option NameKind}(hK:∀ x,K x=look nm x){PD:List SV}{vals:LV}(r:ak (af ρ) PD vals):∀ {ps:List Str} {m:Str->Option SV} {m':Str->Option Value} (_:∀ x,∃ _:True,RO ρ (m x) (m' x)) (x:Str),
  RO ρ (xc nm .local (ps.zip PD) m x) (bindL K (ps.zip vals) m' x):=
 r.ind (M:=fun PD vals=>∀ {ps:List Str} {m:Str->Option SV} {m':Str->Option Value} (_:∀ x,∃ _:True,RO ρ (m x) (m' x)) (x:Str),RO ρ (xc nm .local (ps.zip PD) m x) (bindL K (ps.zip vals) m' x)) (fun {ps _ _} hm x=>by cases ps<;>exact (hm x).2) fun {sv v PD vals} r _ ih ps m m' hm x=>by
  cases ps with
  | nil=>exact (hm x).2
  | cons p ps=>
   refine ih (ps:=ps) (fun y=>⟨OU,?_⟩) x;have e:=hK p
   by_cases h:look nm p=some .local
   ·rw [if_pos (e.trans h),h];exact OE r (hm y).2
   ·rw [if_neg (fun k=>h (e.symm.trans k))];cases q:look nm p with
    | none=>exact (hm y).2
    | some k=>show RO ρ ((bB (decide (k=.local)) _ m) y) _;rw [Pr fun e:k=.local=>h (e▸q)];exact (hm y).2
theorem xe {ρ:LV}{nm:List (Str×NameKind)}{K:Str->Option NameKind}(hK:∀ x,K x=look nm x){PD:List SV}{vals:LV}(r:ak (af ρ) PD vals):∀ {ps:List Str} {m:Str->Option SV} {m':Str->Option Value} (_:ps.all (fun x=>match look nm x with
  | some .local=>true
  | some .cell=>my (iU .cell nm) x
  | _=>false)=true) (_:∀ x,∃ _:True,RO ρ (m x) (m' x)) (x:Str),
  RO ρ (xc nm .cell (ps.zip PD) m x) (bindC K (ps.zip vals) m' x):=
 r.ind (M:=fun PD vals=>∀ {ps:List Str} {m:Str->Option SV} {m':Str->Option Value} (_:ps.all (fun x=>match look nm x with
  | some .local=>true
  | some .cell=>my (iU .cell nm) x
  | _=>false)=true) (_:∀ x,∃ _:True,RO ρ (m x) (m' x)) (x:Str),RO ρ (xc nm .cell (ps.zip PD) m x) (bindC K (ps.zip vals) m' x)) (fun {ps _ _} _ hm x=>by cases ps<;>exact (hm x).2) fun {sv v PD vals} r _ ih ps m m' hp hm x=>by
  cases ps with
  | nil=>exact (hm x).2
  | cons p ps=>
   have hp:=OW hp;refine ih (ps:=ps) hp.2 (fun y=>⟨OU,?_⟩) x;have e:=hK p;have hp:=hp.1;simp only at hp;cases hk:look nm p with
   | none=>rw [hk] at hp;exact nB hp
   | some k=>
    rw [hk] at hp;cases k with
    | «local» =>rw [if_pos (e.trans hk)];exact (hm y).2
    | cell=>rw [if_neg (by rw [e,hk];simp)];exact OE r (hm y).2
    | _=>exact nB hp
theorem RM.of {ρ:LV}{f:Str->Option SV}{g:Str->Option Value}(h:∀ x,RO ρ (f x) (g x)):∀ l:List Str,RM ρ (l.map fun x=>(x,f x)) (l.map fun x=>(x,g x))
 | []=>OU
 | x::l=>⟨⟨rfl,h x⟩,RM.of h l⟩
theorem Cb {env:Env}{ρ:LV}{f:Str->Option SV}{g:Str->Option Value}(h:∀ x,RO ρ (f x) (g x)){l:List Str}{L:Nat}(hl:∀ p∈(fO L (l.map fun x=>(x,g x))).zip l,env.cells.lookup p.2=some p.1.1):
  ak (RE env ρ) (l.map fun x=>.cel x (f x)) (fO L (l.map fun x=>(x,g x))):=by
 induction l generalizing L with
 | nil=>(trivial)
 | cons x l ih=>exact ⟨(mU (hl ((L,.cel (g x)),x) (.head _)) _ rfl (h x)),ih fun p hp=>hl p (.tail _ hp)⟩
theorem Cd {l':List SL}{R':dy}{l:List SL}:∀ {R:dy},l.length=R.length->cont (l++l') (R++R')=cont l R++cont l' R':=by
 induction l with
 | nil=>intro R h;cases R with
  | nil=>rfl
  | cons=>exact nomatch h
 | cons a l ih=>intro R h;cases R with
  | nil=>exact nomatch h
  | cons p R=>show cond a.isOpq (p.2::cont (l++l') (R++R')) (cont (l++l') (R++R'))=cond a.isOpq (p.2::cont l R) (cont l R)++cont l' R';rw [ih (Nat.succ.inj h)];cases a.isOpq<;>rfl
theorem tw {f:Str->Option SV}:∀ {l:List Str} {R:dy},cont (l.map fun x=>.cel x (f x)) R=[]
 | [],_=>rfl
 | _::_,[]=>rfl
 | _::l,_::R=>tw (l:=l) (R:=R)
theorem vR {cs:List (Str×Option Value)}{c i:Nat}{p:Addr×an}(h:(fO c cs)[i]? =some p):∃ x v,cs[i]? =some (x,v)/\p=(c+i,.cel v):=by
 induction cs generalizing c i with
 | nil=>exact nS h
 | cons q r ih=>cases i with
  | zero=>exact me q.1 q.2 rfl (Pd h).symm
  | succ i=>refine iQ (ih h) fun y u h1 h2=>?_;exact me y u h1 (h2.trans (by rw [Nat.add_right_comm];rfl))
theorem oT:∀ {cs:List (Str×Option Value)} {L:Nat},(fO L cs).length=cs.length
 | [],_=>rfl
 | _::_,_=>Pl (· +1) oT
section
variable {w:World}{B:Heap}{O:aP}{T:dy}{n:Nat}{h:Heap}{ρ:LV}{γ:List an}{Z:a8}
def ut (ρ:LV):SF->Value->Prop
 | .ret a,v=>af ρ a v
 | _,v=>v=.none
def O4 (w:World)(B:Heap)(O:aP)(T:dy)(env:Env)(Q:VP):QQ SF:=fun sf s ρ γ Z=>∀ h v,bL w B O T env s ρ γ Z h->ut ρ sf v->Q v h
theorem yE {P9:FuncData}{f:Addr}{k:Nat}{vals:LV}{PD:List SV}{R7:List SL}{fz:List (Nat×aE)}{led:dy}{Q:VP}(b:Bool)(D:bU w.params P9 f k)
  (S:St w B O Z led h) (hv:ak (af ρ) PD vals) (hk:vals.length=k) (hρ:∀ x∈ρ,bA x=true) (hR:∀ env,ak (RE env ρ) R7 led) (hc:cont R7 led=γ) (hf:∀ p∈fz,bK ρ Z p.1 p.2)
  (g:∀ L,ae w B O (n+2) (callEnvC P9 L f) ((ex (fi P9 b) 60).ss (uQ P9) (start P9 PD R7 fz ρ.length)) ρ γ Z (O4 w B O [] (callEnvC P9 L f) Q)):W PW w (n+3) (call (.ref f) vals) Q h:=by
 have Rq:=D.co;rw [Bool.or_eq_false_iff,Bool.or_eq_false_iff,Bool.not_eq_false'] at Rq;have R8:∀ L,(callEnvC P9 L f).kindOf=fun y=>P9.scope.names.lookup y:=fun U=>rfl
 refine wG (FM (P9:=P9) (body:=uQ P9) (ms:=(lD P9).map fun x=>(x,bindL (fun y=>P9.scope.names.lookup y) ((eh P9).zip vals) (fun U=>none) x)) (cs:=(cW P9).map fun x=>(x,bindC (fun y=>P9.scope.names.lookup y) ((eh P9).zip vals) (fun U=>none) x)) S D.body (fun L h₁ hL S=>?_)
  D.f D.cd D.clo (D.bind _ hk) ?_ (fun L=>(D.cs L).trans (nj (by simp))) (by rw [List.map_map];exact (List.map_id _).symm▸D.nd.2) (fun L=>by rw [R8,List.map_map,List.map_map];rfl) (fun L=>by rw [R8,List.map_map,List.map_map];rfl) (by rw [List.map_map];exact (List.map_id _).symm▸D.nd.1) Rq.1 Rq.2.1 (Pp Rq.2.2))
 ·have X9:bL w B O [] (callEnvC P9 L f) (start P9 PD R7 fz ρ.length) ρ γ Z h₁:=by
   have S2:=S;rw [<- List.append_nil (fO (L+1) _++led)] at S2;refine ⟨rfl,hρ,Z,_,_,.refl _,S2,RM.of (xd (m:=fun U=>none) (m':=fun U=>none) (fun U=>ic) hv fun U=>⟨OU,OU⟩) _,ak.app (Cb (xe (m:=fun U=>none) (m':=fun U=>none) (fun U=>ic) hv D.kind fun U=>⟨OU,OU⟩) ?_) (hR _),?_,hf⟩
   ·intro p hp;have e1:(callEnvC P9 L f).cells=bz (L+1) ((cW P9).map fun x=>(x,bindC (fun y=>P9.scope.names.lookup y) ((eh P9).zip vals) (fun U=>none) x)) []:=(D.cs L).trans (nj (by simp));rw [e1];refine oE (List.getElem?_of_mem hp) fun i hi=>?_;refine oA (List.getElem?_zip_eq_some.mp hi) fun h1 h2=>?_;refine iQ (vR h1) fun x v h3 h4=>?_;rw [List.getElem?_map,h2] at h3;simp only [Option.map_some,Option.some.injEq,Prod.mk.injEq] at h3;rw [h4];refine fw (kh (i:=i) (x:=p.2) (v:=v) ?_) ?_
    ·rw [List.getElem?_map,h2];simp [h3.2]
    ·rw [kE,List.map_nil,List.append_nil,List.map_map];have:((cW P9).map ((fun p:Str×Option Value=>p.1)∘fun x=>(x,bindC (fun y=>P9.scope.names.lookup y) ((eh P9).zip vals) (fun U=>none) x)))=cW P9:=List.map_id _;rw [this];exact List.pairwise_reverse.mpr (D.nd.2.imp fun h e=>h e.symm)
   ·show cont (_++R7) _=γ;rw [Cd (by rw [oT,List.length_map,List.length_map]),tw];exact hc
  refine ((A6 (D.env b L) 60).ss (g L).run X9).mono fun fl h' ⟨sf,s',ρ',γ',Z',e,r,S',q⟩=>?_;refine q h' _ S' ?_;cases sf<;>cases fl<;>first | exact r.elim | exact rfl | exact r
 ·refine List.all_eq_true.mpr fun x hx=>?_;have:=OZ D.kind x hx;rw [ic];cases hk:look P9.scope.names x with
  | none=>rw [hk] at this;exact nB this
  | some k=>
   rw [hk] at this;cases k with
   | «local» =>simp
   | cell=>have m:=vH this;simp only [decide_true,Bool.true_and,Bool.or_eq_true];refine .inr (List.contains_iff_mem.mpr ?_);rw [List.map_map];exact (List.map_id _).symm▸m
   | free=>exact nB this
   | globalExplicit=>exact nB this
   | globalImplicit=>exact nB this
noncomputable def bb.ext (s:bb)(k:Nat)(fz:List (Nat×aE)):bb:={s with nv:=s.nv+k,fz:=fz++s.fz}
noncomputable def bb.opn (k:Nat)(s:bb):bb:={s with led:=.own s.nv (.opq k)::s.led,nv:=s.nv+1}
noncomputable def Ms:bb:=⟨[],[],[],0⟩
end
namespace IT
variable {α:Type}
def st:IT α->bb
 | .ret _ s=>s
 | .askE _ _ s _=>s
 | .askS _ s _=>s
 | .askB _ s _=>s
 | .askU _ _ _ s _=>s
 | .askL _ _ _ s _=>s
 | .al _=>Ms
 | .ter=>Ms
noncomputable def isAl:IT α->Bool
 | .al _=>true
 | _=>false
noncomputable def un:IT α->IT α
 | .al t=>t
 | t=>t
noncomputable def qop:IT α->Option Op
 | .askE op _ _ _=>some op
 | _=>none
noncomputable def args:IT α->List SV
 | .askE _ a _ _=>a
 | .askB a _ _=>[a]
 | .askU o i a _ _=>[o,i,a]
 | .askL _ _ a _ _=>[a]
 | _=>[]
noncomputable def nx:IT α->SV->bb->IT α
 | .askE _ _ _ k,v,s=>k v s
 | t,_,_=>t
noncomputable def isB:IT α->Bool
 | .askB .. =>true
 | _=>false
noncomputable def nxB:IT α->Bool->bb->IT α
 | .askB _ _ k,v,s=>k v s
 | t,_,_=>t
noncomputable def isU:IT α->Bool
 | .askU .. =>true
 | _=>false
noncomputable def nxU:IT α->bb->IT α
 | .askU _ _ _ _ k,s=>k s
 | t,_=>t
def qst:IT α->Option Stmt
 | .askS st _ _=>some st
 | _=>none
noncomputable def isL:IT α->Bool
 | .askL .. =>true
 | _=>false
noncomputable def tgL:IT α->Expr
 | .askL tg _ _ _ _=>tg
 | _=>.Tuple [] 0 default
noncomputable def bdL:IT α->List Stmt
 | .askL _ b _ _ _=>b
 | _=>[]
noncomputable def nxS:IT α->SF->bb->IT α
 | .askS _ _ k,v,s=>k v s
 | .askL _ _ _ _ k,v,s=>k v s
 | t,_,_=>t
noncomputable def isRet:IT α->Bool
 | .ret .. =>true
 | _=>false
noncomputable def isAsk:IT α->Bool
 | .ret .. =>false
 | .al _=>false
 | .ter=>false
 | _=>true
def wst:IT α->bb->IT α
 | .askE op a _ k,s=>.askE op a s k
 | .askS st _ k,s=>.askS st s k
 | .askB a _ k,s=>.askB a s k
 | .askU o i a _ k,s=>.askU o i a s k
 | .askL tg b a _ k,s=>.askL tg b a s k
 | t,_=>t
end IT
noncomputable def IT.retA:IT SF->SF
 | .ret a _=>a
 | _=>.brk
noncomputable def Hm (ρ:LV)(t:Tok):SV->Option Value
 | .v i=>ρ[i]?
 | .k x=>some x
 | .int z=>some (.int z t)
 | .str s=>some (.str s t)
def eO (ρ:LV)(tk:Nat->Tok):Nat->List SV->Option (LV)
 | _,[]=>some []
 | i,a::l=>(Hm ρ (tk i) a).bind fun x=>(eO ρ tk (i+1) l).map (x:: ·)
theorem mC {ρ:LV}{tk:Nat->Tok}{i:Nat}{a:SV}{l:List SV}:eO ρ tk i (a::l)=(Hm ρ (tk i) a).bind fun x=>(eO ρ tk (i+1) l).map (x:: ·):=rfl
theorem EW {ρ:LV}{a:SV}{y:Value}(r:af ρ a y):∃ t,Hm ρ t a=some y:=by
 cases a with
 | v i=>exact ⟨0,r⟩
 | k x=>exact ⟨0,Pl some (show y=x from r).symm⟩
 | int z=>refine oE r fun t PL=>?_;clear r;subst PL;exact ⟨t,rfl⟩
 | str z=>refine oE r fun t PZ=>?_;clear r;subst PZ;exact ⟨t,rfl⟩
theorem Ce {ρ:LV}{l:List SV}{ys:LV}(i:Nat)(h:ak (af ρ) l ys):∃ tk,eO ρ tk i l=some ys:=
 h.ind (M:=fun l ys=>∀ i,∃ tk,eO ρ tk i l=some ys) (fun U=>⟨fun U=>0,rfl⟩) (fun {a y l ys} r _ ih i=>by
  refine oE (EW r) fun t h1=>?_;refine oE (ih (i+1)) fun tk h2=>?_;refine ⟨fun j=>if j=i then t else tk j,?_⟩
  have key:∀ {l:List SV} {j:Nat},i < j->eO ρ (fun j=>if j=i then t else tk j) j l=eO ρ tk j l:=by
   intro l
   induction l with
   | nil=>intro j _;rfl
   | cons b l ih=>intro j hj;rw [mC,mC,ih (j:=j+1) lw,if_neg (by lia)]
  rw [mC,key (Nat.lt_succ_self i),if_pos rfl,h1,h2];rfl) i
section
variable (w:World)(n:Nat)
def yF (m:Sem Value)(a:Addr)(c:an)(P:a8->Value->an->Prop)(Z:a8):Prop:=
 ∀ (B:Heap) (O:aP) (Z':a8) (led:dy) (h:Heap) (Q:VP) (i:Nat),Z.le Z'->St w B O Z' led h->led[i]? =some (a,c)->
  (∀ v Qr h' c',Z'.le Qr->P Qr v c'->St w B O Qr (led.set i (a,c')) h'->Q v h')->W PW w n m Q h
def r9 (m:Sem Value)(a b:Addr)(c d:an)(P:a8->Value->an->an->Prop)(Z:a8):Prop:=
 ∀ (B:Heap) (O:aP) (Z':a8) (led:dy) (h:Heap) (Q:VP) (i j:Nat),i≠j->Z.le Z'->St w B O Z' led h->led[i]? =some (a,c)->led[j]? =some (b,d)->
  (∀ v Qr h' c' d',Z'.le Qr->P Qr v c' d'->St w B O Qr ((led.set i (a,c')).set j (b,d')) h'->Q v h')->W PW w n m Q h
end
noncomputable def vS:an->an
 | .pls xs=>.lst xs
 | c=>c
def xg (ρ:LV)(Z:a8):List SL->List an->Prop
 | .own i (.opq _)::l,c::γ=>(∃ a,ρ[i]? =some (.ref a)/\Z a=some (vS c))/\xg ρ Z l γ
 | .own i c::l,γ=>bK ρ Z i c/\xg ρ Z l γ
 | _::l,γ=>xg ρ Z l γ
 | [],_=>True
noncomputable def Mt:aE->Option Nat
 | .opq k=>some k
 | _=>none
def OF (i:Nat):SL->Option Nat
 | .own j c=>cond (Nat.beq j i) (Mt c) none
 | _=>none
def iV:List SL->Nat->Option (Nat×Nat×Nat)
 | [],_=>none
 | a::l,i=>oB (OF i a) (fun k=>some (0,0,k)) ((iV l i).map fun p=>(p.1+1,cond a.isOpq (p.2.1+1) p.2.1,p.2.2))
noncomputable def ww:Nat->an->Bool
 | 1,.pls _=>true
 | 1,_=>false
 | 2,.dct _=>true
 | 2,_=>false
 | _,_=>true
def fy (l:List SL)(i:Nat):Nat:=match iV l i with
 | some p=>p.1
 | none=>0
def bb.era (i:Nat)(s:bb):bb:={s with led:=s.led.eraseIdx (fy s.led i)}
def jF (l:List SL)(i:Nat):Option Nat:=match iV l i with
 | some p=>some p.2.1
 | none=>none
def pA (l:List SL)(i:Nat):Nat:=match iV l i with
 | some p=>p.2.2
 | none=>0
theorem jG {l:List SL}{i g:Nat}(h:jF l i=some g):iV l i=some (fy l i,g,pA l i):=by
 unfold jF at h;unfold fy pA;cases e:iV l i with
 | none=>rw [e] at h;exact nS h
 | some p=>rw [e] at h;cases h;rfl
section
variable {env:Env}{ρ:LV}
variable {P9 : FuncData} {f : Addr} {N kd : Nat} {vals : LV} {PD : List SV}
theorem RE.mkOpq {i k:Nat}{a:Addr}{c:an}(hi:ρ[i]? =some (.ref a))(hc:ww k c=true):RE env ρ (.own i (.opq k)) (a,c):=by
 refine cF hi ?_ ?_
 ·intro e;subst e;cases c<;>first | exact ⟨_,rfl⟩ | exact nB hc
 ·intro e;subst e;cases c<;>first | exact ⟨_,rfl⟩ | exact nB hc
theorem RE.opq {i k:Nat}{p:Addr×an}(h:RE env ρ (.own i (.opq k)) p){c:an}(hc:ww k c=true):RE env ρ (.own i (.opq k)) (p.1,c):=.mkOpq (pN h) hc
inductive Mu (x:SL)(l:List SL)(i j g k:Nat):Prop
 | here (_:x=.own i (.opq k)) (_:j=0) (_:g=0)
 | opq (j' g':Nat) (_:j=j'+1) (_:iV l i=some (j',g',k)) (_:x.isOpq=true) (_:g=g'+1)
 | oth (j' g':Nat) (_:j=j'+1) (_:iV l i=some (j',g',k)) (_:x.isOpq=false) (_:g=g')
theorem Hn {i k:Nat}{a:SL}(h:OF i a=some k):a=.own i (.opq k):=by
 cases a with
 | own j c=>
  have h:cond (Nat.beq j i) (Mt c) none=some k:=h;cases e:Nat.beq j i with
  | true=>
   rw [e] at h;rw [Ph e];cases c with
   | opq q=>exact Pd h▸rfl
   | _=>exact nS h
  | false=>rw [e] at h;exact nS h
 | _=>exact nS h
theorem tA {x:SL}{l:List SL}{i j g k:Nat}(h:iV (x::l) i=some (j,g,k)):Mu x l i j g k:=
 qN h (fun q e h=>by cases h;exact .here (Hn e) rfl rfl) fun U h=>bM (Option.map_eq_some_iff.mp h) fun p e q=>by
  obtain ⟨a,b,c⟩:=p;cases hx:x.isOpq with
  | true=>rw [hx] at q;cases q;exact .opq a b rfl e hx rfl
  | false=>rw [hx] at q;cases q;exact .oth a b rfl e hx rfl
inductive Mv (env:Env)(ρ:LV)(l:List SL)(R:dy)(i j g k:Nat):Prop
 | mk (a:Addr) (c:an) (at':R[j]? =some (a,c)) (atom:ρ[i]? =some (.ref a)) (co:(cont l R)[g]? =some c) (re:RE env ρ (.own i (.opq k)) (a,c)) (el:l[j]? =some (.own i (.opq k)))
  (set:∀ c',ww k c'=true->ak (RE env ρ) l (R.set j (a,c'))/\cont l (R.set j (a,c'))=(cont l R).set g c') (er:cont (l.eraseIdx j) (R.eraseIdx j)=(cont l R).eraseIdx g)
theorem rd {i k:Nat}{l:List SL}:∀ {R:dy} {j g:Nat},iV l i=some (j,g,k)->ak (RE env ρ) l R->Mv env ρ l R i j g k:=by
 induction l with
 | nil=>exact fun h=>nomatch h
 | cons x l ih=>
  intro R j g h r;refine et r.cons_r fun p R PQ r1 r2=>?_;subst PQ;cases tA h with
  | here e1 e2 e3=>subst e1 e2 e3;exact ⟨p.1,p.2,rfl,pN r1,rfl,r1,rfl,fun c' hc=>⟨⟨r1.opq hc,r2⟩,rfl⟩,rfl⟩
  | opq j' g' e1 h2 hx e2=>
   subst e1 e2;obtain ⟨a,c,h5,h6,h7,h8,h9,Vh,Xa⟩:=ih h2 r2;refine ⟨a,c,h5,h6,by rw [lB hx];exact h7,h8,h9,fun c' hc=>⟨⟨r1,(Vh c' hc).1⟩,?_⟩,?_⟩
   ·rw [List.set_cons_succ,lB hx,lB hx,(Vh c' hc).2];rfl
   ·rw [List.eraseIdx_cons_succ,List.eraseIdx_cons_succ,lB hx,lB hx,Xa];rfl
  | oth j' g' e1 h2 hx e2=>
   subst e1 e2;obtain ⟨a,c,h5,h6,h7,h8,h9,Vh,Xa⟩:=ih h2 r2;refine ⟨a,c,h5,h6,by rw [f9 hx];exact h7,h8,h9,fun c' hc=>⟨⟨r1,(Vh c' hc).1⟩,?_⟩,?_⟩
   ·rw [List.set_cons_succ,f9 hx,f9 hx];exact (Vh c' hc).2
   ·rw [List.eraseIdx_cons_succ,List.eraseIdx_cons_succ,f9 hx,f9 hx];exact Xa
variable {w:World}{B:Heap}{O:aP}{T:dy}{n:Nat}{s:bb}{γ:List an}{Z:a8}{h:Heap}{α:Type}{t:IT α}{Q:QQ α}
theorem ao.mono {Q':QQ α}(f:∀ a s ρ' γ' Z',Q a s ρ' γ' Z'->Q' a s ρ' γ' Z'){t:IT α}:∀ {ρ:LV} {γ:List an} {Z:a8},ao w B O n env t ρ γ Z Q->ao w B O n env t ρ γ Z Q':=by
 induction t with
 | ret=>exact fun h=>f _ _ _ _ _ h
 | ter=>exact fun h=>h
 | askE _ _ _ _ ih=>exact fun h T hp vs S r=>(h T hp vs S r).mono fun U U x=>x.mono fun U U U U U g=>ih _ _ g
 | askS _ _ _ ih=>exact fun h T hp S=>(h T hp S).mono fun U U x=>x.mono fun U U U U U g=>ih _ _ g
 | askB _ _ _ ih=>exact fun h T hp x S r=>(h T hp x S r).mono fun U U x=>x.mono fun U U U U U g=>ih _ _ g
 | askU _ _ _ _ _ ih=>exact fun h T hp x y z S r1 r2 r3=>(h T hp x y z S r1 r2 r3).mono fun U U x=>x.mono fun U U U U U g=>ih _ g
 | askL _ _ _ _ _ ih=>exact fun h T hp x S r=>(h T hp x S r).mono fun U U x=>RY.mono (fun U U x=>x.mono fun U U U U U g=>ih _ _ g) x
 | al _ ih=>exact fun h a=>ih (h a)
theorem ae.mono {Q':QQ α}(f:∀ a s ρ' γ' Z',Q a s ρ' γ' Z'->Q' a s ρ' γ' Z')(g:ae w B O n env t ρ γ Z Q):ae w B O n env t ρ γ Z Q':=⟨g.run.mono f⟩
theorem St.fzw {a:Addr}{c:an}{led:dy}(S:St w B O Z ((a,c)::led) h):∃ Z',Z.le Z'/\Z' a=some (vS c)/\St w B O Z' led h:=by
 cases c with
 | pls xs=>exact (S.weakL (i:=0) rfl).fz0
 | lst=>exact S.fz0
 | tup=>exact S.fz0
 | dct=>exact S.fz0
 | ins=>exact S.fz0
 | att=>exact S.fz0
 | ns=>exact S.fz0
 | cel=>exact S.fz0
 | lit=>exact S.fz0
 | rit=>exact S.fz0
 | obj=>exact S.fz0
 | dce=>exact S.fz0
 | kit=>exact S.fz0
theorem RE.fact {i:Nat}{c:aE}{a:Addr}{C:an}(r:RE env ρ (.own i c) (a,C))(hc:(SL.own i c).isOpq=false)(z:Z a=some (vS C)):bK ρ Z i c:=by
 cases c with
 | lst=>refine kM r fun h1 vs Q4 h3=>?_;clear r;subst Q4;exact ⟨a,vs,h1,z,h3⟩
 | dct=>refine kM r fun h1 vs Qu h3=>?_;clear r;subst Qu;exact ⟨a,vs,h1,z,h3⟩
 | opq=>exact nT hc
 | tup=>exact r.elim
 | obj=>exact r.elim
 | isL=>exact r.elim
 | rng=>exact r.elim
theorem uu {L:List SL}{R:dy}{Z:a8}(r:ak (RE env ρ) L R)(S:St w B O Z (R++T) h):∃ Z',Z.le Z'/\St w B O Z' T h/\xg ρ Z' L (cont L R):=
 r.ind (M:=fun L R=>∀ {Z:a8},St w B O Z (R++T) h->∃ Z',Z.le Z'/\St w B O Z' T h/\xg ρ Z' L (cont L R)) (fun {Z} S=>iG Z (.refl _) S OU) (fun {a p L R} r _ ih {Z} S=>by
  refine d6 S.fzw fun Z1 l1 z1 S1=>?_;refine d6 (ih S1) fun Z2 l2 S2 f=>?_;refine iG Z2 (l1.trans l2) S2 ?_;cases a with
  | own i d=>
   cases d with
   | opq k=>exact ⟨(bw p.1 (pN r) (l2 _ _ z1)),f⟩
   | lst=>exact ⟨r.fact rfl (l2 _ _ z1),f⟩
   | dct=>exact ⟨r.fact rfl (l2 _ _ z1),f⟩
   | _=>exact (r:False).elim
  | _=>exact f) S
def xh (P:a8->Value->Prop):QQ SF:=fun sf s ρ γ Z=>∀ Zs v,Z.le Zs->(∀ p∈s.fz,bK ρ Zs p.1 p.2)->xg ρ Zs s.led γ->ut ρ sf v->P Zs v
def Mw (i:Nat)(P:a8->Value->an->Prop):QQ SF:=fun sf s ρ γ Z=>∃ g c,jF s.led i=some g/\γ[g]? =some c/\∀ Zs v,Z.le Zs->(∀ p∈s.fz,bK ρ Zs p.1 p.2)->xg ρ Zs (s.led.eraseIdx (fy s.led i)) (γ.eraseIdx g)->ut ρ sf v->P Zs v c
def Gf (i j:Nat)(P:a8->Value->an->an->Prop):QQ SF:=fun sf s ρ γ Z=>∃ g g' c d,jF s.led i=some g/\γ[g]? =some c/\jF (s.led.eraseIdx (fy s.led i)) j=some g'/\(γ.eraseIdx g)[g']? =some d/\
 ∀ Zs v,Z.le Zs->(∀ p∈s.fz,bK ρ Zs p.1 p.2)->xg ρ Zs ((s.led.eraseIdx (fy s.led i)).eraseIdx (fy (s.led.eraseIdx (fy s.led i)) j)) ((γ.eraseIdx g).eraseIdx g')->ut ρ sf v->P Zs v c d
theorem iW {α:Type}:∀ {l:List α} {j:Nat} {a:α},l[j]? =some a->List.Perm l (a::l.eraseIdx j)
 | b::l,0,a,h=>by cases h;exact .refl _
 | b::l,j+1,a,h=>by have:=iW (l:=l) (j:=j) (a:=a) (by simpa using h);exact (this.cons b).trans (.swap _ _ _)
 | [],_,_,h=>by simp at h
theorem Mx{k : Nat}{fz:List (Nat×aE)}{P:a8->Value->Prop}(b:Bool)(D:bU w.params P9 f k)
  (RZ:ak (af ρ) PD vals) (hk:vals.length=k) (hρ:∀ x∈ρ,bA x=true) (hf:∀ p∈fz,bK ρ Z p.1 p.2) (hN:ρ.length=N)
  (g:∀ B O L Z1,Z.le Z1->ae w B O (n+2) (callEnvC P9 L f) ((ex (fi P9 b) 60).ss (uQ P9) (start P9 PD [] fz N)) ρ [] Z1 (xh P)):RT w (n+3) f vals P Z:=by intro B O Z1 led h Q l S q;subst hN;refine yE (ρ:=ρ) (R7:=[]) (γ:=[]) (PD:=PD) (fz:=fz) b D S.start0 RZ hk hρ (fun U=>OU) rfl (fun p hp=>(hf p hp).ext (.refl _) l) fun L=>?_;refine (g B ⟨fun U=>False,h,Z1⟩ L Z1 l).mono fun sf s ρ' γ' Z2 g=>?_;intro h' v S' r;refine S'.elim fun Zs ms R l2 Pz hm hR hc hf=>?_;refine d6 (uu hR (Pz.erase 0)) fun Z3 l3 Q0 fz=>?_;exact q v Z3 h' Q0.hist.ext (g Z3 v (l2.trans l3) (fun p hp=>(hf p hp).ext (.refl _) l3) (hc▸fz) r) (S.done0 Q0)
theorem Ho{a : Addr}{c:an}{k i : Nat}{fz:List (Nat×aE)}{P:a8->Value->an->Prop}(b:Bool)(D:bU w.params P9 f k)
  (RZ:ak (af ρ) PD vals) (hk:vals.length=k) (hρ:∀ x∈ρ,bA x=true) (hf:∀ p∈fz,bK ρ Z p.1 p.2) (hN:ρ.length=N) (hi:ρ[i]? =some (.ref a)) (R8:ww kd c=true)
  (g:∀ B O L Z1,Z.le Z1->ae w B O (n+2) (callEnvC P9 L f) ((ex (fi P9 b) 60).ss (uQ P9) (start P9 PD [.own i (.opq kd)] fz N)) ρ [c] Z1 (fun sf s ρ' γ' Z'=>ρ'[i]? =some (.ref a)/\Mw i P sf s ρ' γ' Z')):yF w (n+3) (call (.ref f) vals) a c P Z:=by
 intro B O Z1 led h Q ix l S he q;subst hN;refine yE (ρ:=ρ) (R7:=[.own i (.opq kd)]) (γ:=[c]) (PD:=PD) (fz:=fz) b D (S.start1 ix he) RZ hk hρ (fun U=>⟨.mkOpq hi R8,OU⟩) rfl (fun p hp=>(hf p hp).ext (.refl _) l) fun L=>?_;refine (g B ⟨fun x=>x=a,h,Z1⟩ L Z1 l).mono fun sf s ρ' γ' Z2 g=>?_;refine o4 g fun hx gi c' g1 g2 g=>?_;intro h' v S' r;refine S'.elim fun Zs ms R l2 Pz hm hR hc hf=>?_;obtain ⟨a',c2,k1,k2,k3,k4,k5,k6,k7⟩:=rd (jG g1) hR;rw [hx] at k2;cases k2;rw [hc,g2] at k3;cases k3;have P:List.Perm (R++[]) (R.eraseIdx (fy s.led i)++[(a,c')]):=by rw [List.append_nil];exact (iW k1).trans (List.perm_append_comm (l₁:=[(a,c')]))
 refine d6 (uu (T:=[(a,c')]) hR.erase ((Pz.erase 0).perm P)) fun Z3 l3 Q0 fz=>?_;rw [k7,hc] at fz;exact q v Z3 h' c' Q0.hist.ext (g Z3 v (l2.trans l3) (fun p hp=>(hf p hp).ext (.refl _) l3) fz r) (S.done1 he Q0 (j:=0) rfl)
theorem Hp{a a2 : Addr}{c c2:an}{k i j UI : Nat}{fz:List (Nat×aE)}{P:a8->Value->an->an->Prop}(b:Bool)(D:bU w.params P9 f k)
  (RZ:ak (af ρ) PD vals) (hk:vals.length=k) (hρ:∀ x∈ρ,bA x=true) (hf:∀ p∈fz,bK ρ Z p.1 p.2) (hN:ρ.length=N) (hi:ρ[i]? =some (.ref a)) (hj:ρ[j]? =some (.ref a2)) (R8:(ww kd c && ww UI c2)=true)
  (g:∀ B O L Z1,Z.le Z1->ae w B O (n+2) (callEnvC P9 L f) ((ex (fi P9 b) 60).ss (uQ P9) (start P9 PD [.own i (.opq kd),.own j (.opq UI)] fz N)) ρ [c,c2] Z1 (fun sf s ρ' γ' Z'=>(ρ'[i]? =some (.ref a)/\ρ'[j]? =some (.ref a2))/\Gf i j P sf s ρ' γ' Z')):r9 w (n+3) (call (.ref f) vals) a a2 c c2 P Z:=by
 intro B O Z1 led h Q ix ix2 QP l S he YR q;subst hN;rw [Bool.and_eq_true] at R8;refine yE (ρ:=ρ) (R7:=[.own i (.opq kd),.own j (.opq UI)]) (γ:=[c,c2]) (PD:=PD) (fz:=fz) b D (S.start2 ix ix2 he YR QP) RZ hk hρ (fun U=>cF (.mkOpq hi R8.1) (.mkOpq hj R8.2) OU) rfl (fun p hp=>(hf p hp).ext (.refl _) l) fun L=>?_;refine (g B ⟨fun x=>x=a\/x=a2,h,Z1⟩ L Z1 l).mono fun sf s ρ' γ' Z2 g=>?_;refine E1 g fun hx gi Vi=>?_;clear g;refine fq Vi fun gj c' d' g1 g2 Vj=>?_;clear Vi;refine ub Vj fun g3 g4 g=>?_;clear Vj;intro h' v S' r;refine S'.elim fun Zs ms R l2 Pz hm hR hc hf=>?_;obtain ⟨a',d2,k1,k2,k3,k4,k5,k6,k7⟩:=rd (jG g1) hR;rw [hx.1] at k2;cases k2;rw [hc,g2] at k3;cases k3;obtain ⟨a'',d3,m1,m2,m3,m4,m5,m6,m7⟩:=rd (jG g3) hR.erase;rw [hx.2] at m2;cases m2;rw [k7,hc,g4] at m3;cases m3
 have P:List.Perm (R++[]) (((R.eraseIdx (fy s.led i)).eraseIdx (fy (s.led.eraseIdx (fy s.led i)) j))++[(a,c'),(a2,d')]):=by rw [List.append_nil];exact ((iW k1).trans ((iW m1).cons _)).trans (List.perm_append_comm (l₁:=[(a,c'),(a2,d')]))
 refine d6 (uu (T:=[(a,c'),(a2,d')]) hR.erase.erase ((Pz.erase 0).perm P)) fun Z3 l3 Q0 fz=>?_;rw [m7,k7,hc] at fz;exact q v Z3 h' c' d' Q0.hist.ext (g Z3 v (l2.trans l3) (fun p hp=>(hf p hp).ext (.refl _) l3) fz r) (S.done2 he YR Q0 (i':=0) (j':=1) QP rfl rfl)
noncomputable def IT.n1 {α:Type}(t:IT α):IT α:=t.nx (.v t.st.nv) (t.st.ext 1 [])
noncomputable def IT.nk {α:Type}(t:IT α)(v:SV):IT α:=t.nx v (t.st.ext 0 [])
noncomputable abbrev sn (ρ:LV)(x:Value):LV:=ρ++[x]
abbrev TV:=(Nat->Tok)->LV
abbrev TO:=(Nat->Tok)->Option (LV)
def qa {α:Type}(t:IT α)(ρ:LV):Option Op×TO:=(t.qop,fun tk=>eO ρ tk 0 t.args)
def qg {α:Type}(t:IT α)(ρ:LV)(i:Nat):(Option Op×Option Nat)×TO:=((t.qop,jF t.st.led i),fun tk=>eO ρ tk 0 t.args)
def qo {α:Type}(t:IT α)(ρ:LV)(i:Nat):(Option Op×Nat×Option Nat)×TO:=((t.qop,(pA t.st.led i,jF t.st.led i)),fun tk=>eO ρ tk 0 t.args)
def qu {α:Type}(t:IT α)(ρ:LV)(i:Nat):(Bool×Nat×Option Nat)×TO:=((t.isU,(pA t.st.led i,jF t.st.led i)),fun tk=>eO ρ tk 0 t.args)
def q2 {α:Type}(t:IT α)(ρ:LV)(i i':Nat):(Option Op×(Nat×Option Nat)×(Nat×Option Nat)×Bool)×TO:=((t.qop,((pA t.st.led i,jF t.st.led i),((pA t.st.led i',jF t.st.led i'),Nat.beq (fy t.st.led i) (fy t.st.led i')))),fun tk=>eO ρ tk 0 t.args)
def qz {α:Type}(t:IT α)(i:Nat):Bool×Option Nat:=(t.isAsk,jF t.st.led i)
def qe {α:Type}(t:IT α)(i:Nat):Bool×Option aE:=(t.isAsk,gQ t.st.fz i)
noncomputable def ra (op:Op)(vs:TV):Option Op×TO:=(some op,fun tk=>some (vs tk))
noncomputable def rc (f:Addr)(vs:TV):Option Op×TO:=(some .call,fun tk=>some (.ref f::vs tk))
noncomputable def rg (op:Op)(g:Nat)(vs:TV):(Option Op×Option Nat)×TO:=((some op,some g),fun tk=>some (vs tk))
noncomputable def ro (K g:Nat)(vs:TV):(Option Op×Nat×Option Nat)×TO:=((some .call,(K,some g)),fun tk=>some (vs tk))
noncomputable def OG (K g:Nat)(f:Addr)(vs:TV):(Option Op×Nat×Option Nat)×TO:=((some .call,(K,some g)),fun tk=>some (.ref f::vs tk))
noncomputable def ru (K g:Nat)(vs:TV):(Bool×Nat×Option Nat)×TO:=((true,(K,some g)),fun tk=>some (vs tk))
noncomputable def r2 (K g K' g':Nat)(vs:TV):(Option Op×(Nat×Option Nat)×(Nat×Option Nat)×Bool)×TO:=((some .call,((K,some g),((K',some g'),false))),fun tk=>some (vs tk))
noncomputable def Nf (K g K' g':Nat)(f:Addr)(vs:TV):(Option Op×(Nat×Option Nat)×(Nat×Option Nat)×Bool)×TO:=((some .call,((K,some g),((K',some g'),false))),fun tk=>some (.ref f::vs tk))
noncomputable def rz (g:Nat):Bool×Option Nat:=(true,some g)
noncomputable def re (c:aE):Bool×Option aE:=(true,some c)
end
section
variable {w:World}{B:Heap}{O:aP}{T:dy}{n m:Nat}{env:Env}{s:bb}{ρ:LV}{γ:List an}{Z Zs:a8}{h:Heap}{α:Type}{t:IT α}{Q:QQ α}{ms:List (Str×Option Value)}{R:dy}
theorem sh (t:IT α):(∀ op,t.qop=some op->t=.askE op t.args t.st fun v s=>t.nx v s)/\(∀ st,t.qst=some st->t=.askS st t.st fun v s=>t.nxS v s)/\(t.isB=true->∃ a,t.args=[a]/\t=.askB a t.st fun v s=>t.nxB v s)/\(t.isU=true->∃ o i a,t.args=[o,i,a]/\t=.askU o i a t.st fun s=>t.nxU s)/\(t.isL=true->∃ a,t.args=[a]/\t=.askL t.tgL t.bdL a t.st fun v s=>t.nxS v s)/\(t.isAsk=true->t.wst t.st=t)/\(t.isAl=true->t=.al t.un):=by cases t<;>exact ⟨fun op h=>by first | exact nS h | exact Pd h▸rfl,fun op h=>by first | exact nS h | exact Pd h▸rfl,fun h=>by first | exact nB h | exact ⟨_,rfl,rfl⟩,fun h=>by first | exact nB h | exact ⟨_,_,_,rfl,rfl⟩,fun h=>by first | exact nB h | exact ⟨_,rfl,rfl⟩,fun h=>by first | exact nB h | rfl,fun h=>by first | exact nB h | rfl⟩
theorem OP {op:Op}(hq:t.qop=some op):t=.askE op t.args t.st fun v s=>t.nx v s:=(sh t).1 _ hq
theorem OQ {st:Stmt}{t:IT SF}(hq:t.qst=some st):t=.askS st t.st fun v s=>t.nxS v s:=(sh t).2.1 _ hq
theorem Cf (ha:t.isAsk=true):t.wst t.st=t:=(sh t).2.2.2.2.2.1 ha
theorem ao.sh {u:IT α}(e:t=u)(g:ao w B O n env u ρ γ Z Q):ae w B O n env t ρ γ Z Q:=⟨e▸g⟩
theorem ae.al (ha:autoParam (t.isAl=true) tac0)(g:∀ a:Addr,ae w B O n env t.un (sn ρ (.ref a)) γ Z Q):ae w B O n env t ρ γ Z Q:=ao.sh ((sh t).2.2.2.2.2.2 ha) fun a=>(g a).run
theorem ae.al2 (g:∀ a b:Addr,ae w B O n env t.un.un (sn (sn ρ (.ref a)) (.ref b)) γ Z Q)(ha:autoParam ((t.isAl && t.un.isAl)=true) tac0):ae w B O n env t ρ γ Z Q:=.al (OW ha).1 fun a=>.al (OW ha).2 fun b=>g a b
theorem ae.al3 (g:∀ a b c:Addr,ae w B O n env t.un.un.un (sn (sn (sn ρ (.ref a)) (.ref b)) (.ref c)) γ Z Q)(ha:autoParam ((t.isAl && (t.un.isAl && t.un.un.isAl))=true) tac0):ae w B O n env t ρ γ Z Q:=.al (OW ha).1 fun a=>.al2 (g a) (OW ha).2
theorem ae.al1 (g:∀ a:Addr,ae w B O n env t.un (sn ρ (.ref a)) γ Z Q)(ha:autoParam (t.isAl=true) tac0):ae w B O n env t ρ γ Z Q:=.al ha g
variable (w B O T n env) in
inductive Ng (t:IT α)(ρ:LV)(Q:QQ α)(h:Heap):Prop
 | mk (s':bb) (ρ':LV) (γ':List an) (Z':a8) (_:iY ρ ρ') (_:bL w B O T env s' ρ' γ' Z' h) (_:ae w B O n env (t.wst s') ρ' γ' Z' Q):Ng t ρ Q h
theorem Ng.elim {P:Prop}(p:Ng w B O T n env t ρ Q h)(k:∀ s' ρ' γ' Z',iY ρ ρ'->bL w B O T env s' ρ' γ' Z' h->ao w B O n env (t.wst s') ρ' γ' Z' Q->P):P:=match p with| .mk s' ρ' γ' Z' e S g=>k s' ρ' γ' Z' e S g.run
variable (w B O n env) in
noncomputable def O5 (t:IT α)(ρ:LV)(γ:List an)(Z:a8)(Q:QQ α):Prop:=∀ T h,bL w B O T env t.st ρ γ Z h->Ng w B O T n env t ρ Q h
theorem ae.pre (ha:t.isAsk=true)(f:O5 w B O n env t ρ γ Z Q):ae w B O n env t ρ γ Z Q:=by
 cases t with
 | askE op a s k=>exact ⟨fun T h xs S r=>(f T h S).elim fun s' ρ' γ' Z' e S' g=>(g T h xs S' (RL.ext e r)).mono fun U U x=>x.ext e⟩
 | askS st s k=>exact ⟨fun T h S=>(f T h S).elim fun s' ρ' γ' Z' e S' g=>(g T h S').mono fun U U x=>x.ext e⟩
 | askB a s k=>exact ⟨fun T h x S r=>(f T h S).elim fun s' ρ' γ' Z' e S' g=>(g T h x S' (r.ext e)).mono fun U U x=>x.ext e⟩
 | askU o i a s k=>exact ⟨fun T h x y z S r1 r2 r3=>(f T h S).elim fun s' ρ' γ' Z' e S' g=>(g T h x y z S' (r1.ext e) (r2.ext e) (r3.ext e)).mono fun U U x=>x.ext e⟩
 | askL tg b a s k=>exact ⟨fun T h x S r=>(f T h S).elim fun s' ρ' γ' Z' e S' g=>(g T h x S' (r.ext e)).mono fun U U x=>RY.mono (fun U U x=>x.ext e) x⟩
 | _=>exact nB ha
variable (w B O T env)
structure rf (s:bb)(ρ:LV)(γ:List an)(Zs:a8)(ms:List (Str×Option Value))(R:dy)(h:Heap):Prop where
 ln:ρ.length=s.nv
 ok:∀ x∈ρ,bA x=true
 st:St w B O Zs ((env.locals,.ns ms)::(R++T)) h
 rm:RM ρ s.loc ms
 re:ak (RE env ρ) s.led R
 co:cont s.led R=γ
 fz:∀ p∈s.fz,bK ρ Zs p.1 p.2
def fk (s:bb)(ρ:LV)(γ:List an)(Z:a8)(a:Addr)(c:an):Prop:=∀ T h Zs ms R,Z.le Zs->rf w B O T env s ρ γ Zs ms R h->ci w h a c
def Pk {β:Type}(n:Nat)(s:bb)(ρ:LV)(γ:List an)(Z:a8)(m:Sem β)(P:β->Prop):Prop:=∀ T h Zs ms R,Z.le Zs->rf w B O T env s ρ γ Zs ms R h->∀ Q':β->Heap->Prop,(∀ v h',St w B O Zs ((env.locals,.ns ms)::(R++T)) h'->P v->Q' v h')->W PW w n m Q' h
inductive Co (n:Nat)(t:IT α)(ρ:LV)(γ:List an)(Z:a8)(Q:QQ α)(v:Value):Prop
 | mk (sv:SV) (vs:LV) (fz:List (Nat×aE)) (hr:ρ.length=t.st.nv->af (ρ++vs) sv v) (ho:∀ x∈vs,bA x=true) (hf:ρ.length=t.st.nv->∀ p∈fz,bK (ρ++vs) Z p.1 p.2)
  (g:ae w B O n env (t.nx sv (t.st.ext vs.length fz)) (ρ++vs) γ Z Q)
inductive O6 (n:Nat)(t:IT α)(ρ:LV)(ms:List (Str×Option Value))(Zs:a8)(Q:QQ α)(v:Value)(h':Heap):Prop
 | mk (Zl UJ:a8) (R':dy) (PM:List SL) (sv:SV) (vs:LV) (fz:List (Nat×aE)) (l:Zl.le UJ) (le:Zs.le UJ) (st:St w B O UJ ((env.locals,.ns ms)::(R'++T)) h') (hR:ak (RE env (ρ++vs)) PM R')
  (hr:af (ρ++vs) sv v) (ho:∀ x∈vs,bA x=true) (hf:∀ p∈fz,bK (ρ++vs) UJ p.1 p.2)
  (g:ae w B O n env (t.nx sv {t.st with led:=PM,nv:=t.st.nv+vs.length,fz:=fz++t.st.fz}) (ρ++vs) (cont PM R') Zl Q)
variable {w B O T env}
theorem bL.here {P:Prop}(S:bL w B O T env s ρ γ Z h)(k:∀ Zs ms R,Z.le Zs->rf w B O T env s ρ γ Zs ms R h->P):P:=S.elim fun Zs ms R l a b c d e=>k Zs ms R l ⟨S.len,S.ok,a,b,c,d,e⟩
theorem rf.sat (H:rf w B O T env s ρ γ Zs ms R h)(l:Z.le Zs):bL w B O T env s ρ γ Z h:=⟨H.ln,H.ok,Zs,ms,R,l,H.st,H.rm,H.re,H.co,H.fz⟩
theorem kt {ρ:LV}{l:List SL}{R:dy}(vs:LV)(h:ak (RE env ρ) l R):ak (RE env (ρ++vs)) l R:=ak.mono (fun U U x=>x.ext ⟨_,rfl⟩) h
theorem cG {l r:LV}{x:Value}{k:Nat}(e:l.length=k):(l++x::r)[k]? =some x:=by subst e;simp
theorem DO {v:Value}(h:bA v=true):∀ x∈[v],bA x=true:=fun x hx=>by rcases List.mem_singleton.mp hx with rfl;exact h
theorem Co.one {v:Value}(ho:bA v=true)(g:ae w B O n env t.n1 (sn ρ v) γ Z Q):Co w B O env n t ρ γ Z Q v:=.mk (.v t.st.nv) [v] [] cG (DO ho) (fun U U hp=>nomatch hp) g
theorem Co.k (sv:SV){v:Value}(hr:af ρ sv v)(g:ae w B O n env (t.nk sv) ρ γ Z Q):Co w B O env n t ρ γ Z Q v:=.mk sv [] [] (fun U=>by rw [List.append_nil];exact hr) (fun U h=>nomatch h) (fun U U h=>nomatch h) (by rw [List.append_nil];exact g)
theorem Co.ans {v:Value}{Z':a8}{h':Heap}(c:Co w B O env n t ρ γ Z' Q v)(H:rf w B O T env t.st ρ γ Zs ms R h){R':dy}(le:Zs.le Z')(st:St w B O Z' ((env.locals,.ns ms)::(R'++T)) h')(hR:ak (RE env ρ) t.st.led R')(hc:cont t.st.led R'=γ):O6 w B O T env n t ρ ms Zs Q v h':=by obtain ⟨sv,vs,fz,hr,ho,hf,g⟩:=c;exact ⟨Z',Z',R',t.st.led,sv,vs,fz,.refl _,le,st,kt vs hR,hr H.ln,ho,hf H.ln,hc▸g⟩
theorem ff {α β:Type}{a b:α}{c d:β}(h:(a,c)=(b,d)):a=b:=(Pc h).1
theorem pQ {α β γ:Type}{a b:α}{c d:β->γ}(h:(a,c)=(b,d))(x:β):c x=d x:=congrFun (Pc h).2 x
theorem vT {l:List SV}{xs:LV}{vs:(Nat->Tok)->LV}(r:ak (af ρ) l xs)(hv:∀ tk,eO ρ tk 0 l=some (vs tk)):∃ tk,xs=vs tk:=oE (Ce 0 r) fun tk e=>⟨tk,(Pd ((hv tk).symm.trans e)).symm⟩
theorem ae.ofE {op:Op}(hq:t.qop=some op)(f:∀ T h xs,bL w B O T env t.st ρ γ Z h->ak (af ρ) t.args xs->W PW w n (gL env op xs) (eD w B O T env af (fun v s' ρ' γ' Z'=>ae w B O n env (t.nx v s') ρ' γ' Z' Q) ρ) h):ae w B O n env t ρ γ Z Q:=ao.sh (OP hq) fun T h xs S r=>(f T h xs S r).mono fun U U x=>x.mono fun U U U U U g=>g.run
theorem ae.ofS {st:Stmt}{t:IT SF}{Q:QQ SF}(hq:t.qst=some st)(f:∀ T h,bL w B O T env t.st ρ γ Z h->W PW w n (exec st env) (eD w B O T env oR (fun v s' ρ' γ' Z'=>ae w B O n env (t.nxS v s') ρ' γ' Z' Q) ρ) h):ae w B O n env t ρ γ Z Q:=ao.sh (OQ hq) fun T h S=>(f T h S).mono fun U U x=>x.mono fun U U U U U g=>g.run
theorem ae.ofB (hq:t.isB=true)(f:∀ T h x,bL w B O T env t.st ρ γ Z h->ak (af ρ) t.args [x]->W PW w n (truthy x) (eD w B O T env (fun U a b=>a=b) (fun v s' ρ' γ' Z'=>ae w B O n env (t.nxB v s') ρ' γ' Z' Q) ρ) h):ae w B O n env t ρ γ Z Q:=bM ((sh t).2.2.1 hq) fun a ea e=>ao.sh e fun T h x S r=>(f T h x S (ea▸⟨r,OU⟩)).mono fun U U x=>x.mono fun U U U U U g=>g.run
theorem ae.ofU (hq:t.isU=true)(f:∀ T h x y z,bL w B O T env t.st ρ γ Z h->ak (af ρ) t.args [x,y,z]->W PW w n (setItem x y z) (eD w B O T env (fun U U U=>True) (fun (U:Unit) s' ρ' γ' Z'=>ae w B O n env (t.nxU s') ρ' γ' Z' Q) ρ) h):ae w B O n env t ρ γ Z Q:=o3 ((sh t).2.2.2.1 hq) fun o i a e=>ao.sh e.2 fun T h x y z S r1 r2 r3=>(f T h x y z S (e.1▸⟨r1,r2,r3,OU⟩)).mono fun U U x=>x.mono fun U U U U U g=>g.run
theorem ae.ofL {t:IT SF}{Q:QQ SF}(hq:t.isL=true)(f:∀ T h x,bL w B O T env t.st ρ γ Z h->ak (af ρ) t.args [x]->W PW w n (pyIter x) (zU w n t.tgL t.bdL [] env (eD w B O T env oR (fun v s' ρ' γ' Z'=>ae w B O n env (t.nxS v s') ρ' γ' Z' Q) ρ)) h):ae w B O n env t ρ γ Z Q:=bM ((sh t).2.2.2.2.1 hq) fun a ea e=>ao.sh e fun T h x S r=>(f T h x S (ea▸⟨r,OU⟩)).mono fun U U x=>RY.mono (fun U U x=>x.mono fun U U U U U g=>g.run) x
theorem ae.askG {op:Op}(hq:t.qop=some op)(hv:∀ T h xs Zs ms R,Z.le Zs->rf w B O T env t.st ρ γ Zs ms R h->ak (af ρ) t.args xs->W PW w n (gL env op xs) (O6 w B O T env n t ρ ms Zs Q) h):ae w B O n env t ρ γ Z Q:=by refine .ofE hq fun T h xs S r=>S.here fun Zs ms R l H=>(hv T h xs Zs ms R l H r).mono fun v h' a=>?_;obtain ⟨Zl,UJ,R',PM,sv,vs,fz,l2,l',st1,hR,hr,ho,hf,g⟩:=a;exact ⟨sv,{t.st with led:=PM,nv:=t.st.nv+vs.length,fz:=fz++t.st.fz},ρ++vs,_,Zl,⟨_,rfl⟩,hr,⟨by rw [List.length_append,S.len],fun x hx=>(OX hx).elim (S.ok x) (ho x),UJ,ms,R',l2,st1,H.rm.ext ⟨_,rfl⟩,hR,rfl,fun p hp=>(OX hp).elim (hf p) fun hp=>(H.fz p hp).ext ⟨_,rfl⟩ l'⟩,g⟩
theorem ae.askT {op:Op}{vs:(Nat->Tok)->LV}(hq:t.qop=some op)(hv:∀ tk,eO ρ tk 0 t.args=some (vs tk))(c:∀ tk T h Zs ms R,Z.le Zs->rf w B O T env t.st ρ γ Zs ms R h->W PW w n (gL env op (vs tk)) (O6 w B O T env n t ρ ms Zs Q) h):ae w B O n env t ρ γ Z Q:=ae.askG hq fun T h xs Zs ms R l H r=>oE (vT r hv) fun tk e=>e▸c tk T h Zs ms R l H
theorem ae.pk {op:Op}{vs:(Nat->Tok)->LV}{P:Value->Prop}(c:∀ tk,Pk w B O env n t.st ρ γ Z (gL env op (vs tk)) P)(g:∀ v,P v->Co w B O env n t ρ γ Z Q v)
  (Py:autoParam (qa t ρ=ra op vs) tac0):ae w B O n env t ρ γ Z Q:=
 ae.askT (ff Py) (pQ Py) fun tk T h Zs ms R l H=>c tk T h Zs ms R l H _ fun v h' Pz p=>by obtain ⟨sv,vs,fz,hr,ho,hf,g⟩:=g v p;exact ⟨Z,Zs,R,t.st.led,sv,vs,fz,l,.refl _,Pz,kt vs H.re,hr H.ln,ho,fun p hp=>(hf H.ln p hp).ext (.refl _) l,H.co▸g⟩
theorem ae.rt {f:Addr}{vs:(Nat->Tok)->LV}{P:a8->Value->Prop}(c:∀ tk,RT w m f (vs tk) P Z)(g:∀ v Z',Z.le Z'->P Z' v->Co w B O env n t ρ γ Z' Q v)(hm:autoParam (m<=n) tac9)
  (Py:autoParam (qa t ρ=rc f vs) tac0):ae w B O n env t ρ γ Z Q:=ae.askT (ff Py) (pQ Py) fun tk T h Zs ms R l H=>(c tk B O Zs _ h _ l H.st fun v Z' h' l' p Pz=>(g v Z' (l.trans l') p).ans H l' Pz H.re H.co).le hm
theorem mD {fr p:Addr×an}{j:Nat}(e:R[j]? =some p):(fr::(R++T))[j+1]? =some p:=vK e
theorem ku {fr p q:Addr×an}{j:Nat}(e:R[j]? =some p):(fr::(R++T)).set (j+1) q=fr::(R.set j q++T):=Hh e
inductive My (T:dy)(env:Env)(s:bb)(ρ:LV)(γ:List an)(i g:Nat)(a:Addr)(c:an)(ms:List (Str×Option Value))(R:dy):Prop
 | mk (at':((env.locals,an.ns ms)::(R++T))[fy s.led i+1]? =some (a,c)) (atR:R[fy s.led i]? =some (a,c))
  (set:∀ c',ww (pA s.led i) c'=true->ak (RE env ρ) s.led (R.set (fy s.led i) (a,c'))/\cont s.led (R.set (fy s.led i) (a,c'))=γ.set g c') (er:cont (s.led.eraseIdx (fy s.led i)) (R.eraseIdx (fy s.led i))=γ.eraseIdx g)
theorem rf.opq (H:rf w B O T env s ρ γ Zs ms R h){i g:Nat}{a:Addr}{c:an}(hp:jF s.led i=some g)(ha:ρ[i]? =some (.ref a))(hc:γ[g]? =some c):My T env s ρ γ i g a c ms R:=by obtain ⟨a',c',h1,h2,h3,h4,h5,h6,h7⟩:=rd (jG hp) H.re;rw [ha] at h2;cases h2;rw [H.co,hc] at h3;cases h3;exact ⟨mD h1,h1,fun c' hk=>⟨(h6 c' hk).1,by rw [(h6 c' hk).2,H.co]⟩,by rw [h7,H.co]⟩
theorem fk.z {a:Addr}{c:an}(z:Z a=some c):fk w B O env s ρ γ Z a c:=fun U U U U U l H=>H.st.z (l _ _ z)
theorem fk.o {c:an}(a:Addr)(i g:Nat)(hp:autoParam (jF s.led i=some g) tac0)(ha:autoParam (ρ[i]? =some (.ref a)) tac10)(hc:autoParam (γ[g]? =some c) tac10):fk w B O env s ρ γ Z a c:=fun U U U U U U H=>by obtain ⟨h1,_,_,_⟩:=H.opq hp ha hc;exact H.st.get _ h1
theorem fk.nil {a:Addr}(i:Nat)(hp:autoParam (mq s.led i=some (.lst [])) tac0)(ha:autoParam (ρ[i]? =some (.ref a)) tac10):fk w B O env s ρ γ Z a (.lst []):=fun U U U U U U H=>by refine oE (jE hp) fun j hj=>?_;refine ju (ak.get H.re hj) fun Qs h2 h3 vs h4 h5=>?_;obtain ⟨b,c⟩:=Qs;obtain rfl:=h5.nil_r;rw [ha] at h3;cases h3;dsimp only at h4;subst h4;exact ci.l (H.st.get _ (mD h2))
theorem ae.mt1 {op:Op}{a:Addr}{vs:(Nat->Tok)->LV}{c:an}{P:a8->Value->an->Prop}(i g:Nat)(cn:∀ tk,yF w m (gL env op (vs tk)) a c P Z)
  (k:∀ v Z' c',Z.le Z'->P Z' v c'->ww (pA t.st.led i) c'=true/\Co w B O env n t ρ (γ.set g c') Z' Q v) (hm:autoParam (m<=n) tac9)
  (Py:autoParam (qg t ρ i=rg op g vs) tac0) (ha:autoParam (ρ[i]? =some (.ref a)) tac10) (hc:autoParam (γ[g]? =some c) tac10):ae w B O n env t ρ γ Z Q:=
 ae.askT (ff (ff Py)) (pQ Py) fun tk T h Zs ms R l H=>by have hp:=(Pc (ff Py)).2;obtain ⟨h1,h2,h3,_⟩:=H.opq hp ha hc;refine (cn tk B O Zs _ h _ _ l H.st h1 fun v Z' h' c' l' p PE=>?_).le hm;refine oA (k v Z' c' (l.trans l') p) fun hk co=>?_;rw [ku h2] at PE;refine oA (h3 c' hk) fun e1 e2=>?_;obtain ⟨sv,vs,fz,hr,ho,hf,g⟩:=co;exact ⟨Z',Z',R.set _ (a,c'),t.st.led,sv,vs,fz,.refl _,l',PE,kt vs e1,hr H.ln,ho,hf H.ln,e2▸g⟩
theorem ae.mt2 {op:Op}{a b:Addr}{vs:(Nat->Tok)->LV}{c d:an}{P:a8->Value->an->an->Prop}(i g i' g':Nat)(cn:∀ tk,r9 w m (gL env op (vs tk)) a b c d P Z)
  (k:∀ v Z' c' d',Z.le Z'->P Z' v c' d'->(ww (pA t.st.led i) c' && ww (pA t.st.led i') d')=true/\Co w B O env n t ρ ((γ.set g c').set g' d') Z' Q v) (hm:autoParam (m<=n) tac9) (hii:autoParam (Nat.beq (fy t.st.led i) (fy t.st.led i')=false) tac0)
  (Py:autoParam (qg t ρ i=rg op g vs) tac0) (ha:autoParam (ρ[i]? =some (.ref a)) tac10) (hc:autoParam (γ[g]? =some c) tac10)
  (Sf:autoParam (jF t.st.led i'=some g') tac0) (hb:autoParam (ρ[i']? =some (.ref b)) tac10) (hd:autoParam (γ[g']? =some d) tac10):ae w B O n env t ρ γ Z Q:=
 ae.askT (ff (ff Py)) (pQ Py) fun tk T h Zs ms R l H=>by have hp:=(Pc (ff Py)).2;obtain ⟨h1,h2,h3,_⟩:=H.opq hp ha hc;obtain ⟨Xb,RR,_,_⟩:=H.opq Sf hb hd;have QP:=Nat.ne_of_beq_eq_false hii;refine (cn tk B O Zs _ h _ _ _ (by lia) l H.st h1 Xb fun v Z' h' c' d' l' p PE=>?_).le hm;refine oA (k v Z' c' d' (l.trans l') p) fun hk co=>?_;rw [Bool.and_eq_true] at hk;refine oA (h3 c' hk.1) fun re1 co1=>?_;obtain ⟨b',d2,e1,e2,e3,_,_,e4,_⟩:=rd (jG Sf) re1;rw [hb] at e2;cases e2;refine oA (e4 d' hk.2) fun re2 co2=>?_;have e5:(R.set (fy t.st.led i) (a,c'))[fy t.st.led i']? =some (b,d2):=e1;rw [ku h2,ku e5] at PE;obtain ⟨sv,vs,fz,hr,ho,hf,g⟩:=co;exact ⟨Z',Z',_,t.st.led,sv,vs,fz,.refl _,l',PE,kt vs re2,hr H.ln,ho,hf H.ln,(co2.trans (Pl (·.set g' d') co1))▸g⟩
def Mz (n:Nat)(w:World)(B:Heap)(O:aP)(env:Env)(s:bb)(ρ:LV)(γ:List an)(Z:a8)(m:Sem Value)(c:an):Prop:=∀ T h Zs ms R,Z.le Zs->rf w B O T env s ρ γ Zs ms R h->∀ Q:VP,(∀ (a:Addr) h',St w B O Zs ((env.locals,.ns ms)::(a,c)::(R++T)) h'->Q (.ref a) h')->W PW w n m Q h
theorem ae.nw {op:Op}{vs:(Nat->Tok)->LV}{c:an}(k:Nat)(cn:∀ tk,Mz n w B O env t.st ρ γ Z (gL env op (vs tk)) c)
  (g:∀ a:Addr,ae w B O n env (t.nx (.v t.st.nv) (t.st.opn k)) (sn ρ (.ref a)) (c::γ) Z Q) (hk:autoParam (ww k c=true) tac0)
  (Py:autoParam (qa t ρ=ra op vs) tac0):ae w B O n env t ρ γ Z Q:=
 ae.askT (ff Py) (pQ Py) fun tk T h Zs ms R l H=>cn tk T h Zs ms R l H _ fun a h' Pz=>
  ⟨Z,Zs,(a,c)::R,.own t.st.nv (.opq k)::t.st.led,.v t.st.nv,[.ref a],[],l,.refl _,Pz,⟨.mkOpq (cG H.ln) hk,kt _ H.re⟩,cG H.ln,DO rfl,(fun U h=>nomatch h),by
   show ae w B O n env _ _ (c::cont t.st.led R) Z Q;rw [H.co];exact g a⟩
theorem ae.nf {op:Op}{vs:(Nat->Tok)->LV}{c:an}(cn:∀ tk,Mz n w B O env t.st ρ γ Z (gL env op (vs tk)) c)(g:∀ (a:Addr) Z',Z.le Z'->Z' a=some (vS c)->Co w B O env n t ρ γ Z' Q (.ref a))
  (Py:autoParam (qa t ρ=ra op vs) tac0):ae w B O n env t ρ γ Z Q:=
 ae.askT (ff Py) (pQ Py) fun tk T h Zs ms R l H=>cn tk T h Zs ms R l H _ fun a h' Pz=>by refine d6 Pz.swap.fzw fun Z' l' z PE=>?_;exact (g a Z' (l.trans l') z).ans H l' PE H.re H.co
theorem ae.tr {x:(Nat->Tok)->Value}(b:Bool)(c:∀ tk,Pk w B O env n t.st ρ γ Z (truthy (x tk)) (· =b))(g:ae w B O n env (t.nxB b t.st) ρ γ Z Q)(Py:autoParam ((t.isB,fun tk=>eO ρ tk 0 t.args)=(true,fun tk=>some [x tk])) tac0):ae w B O n env t ρ γ Z Q:=by refine .ofB (ff Py) fun T h y S r=>oE (vT r (pQ Py)) fun tk e=>?_;cases e;exact S.here fun Zs ms R l H=>c tk T h Zs ms R l H _ fun v h' Pz p=>⟨b,t.st,ρ,γ,Z,.refl _,p.symm,⟨S.len,S.ok,Zs,ms,R,l,Pz,H.rm,H.re,H.co,H.fz⟩,g⟩
theorem ae.set {K:Nat}{a:Addr}{c c':an}{x v:(Nat->Tok)->Value}(i g:Nat)(cn:∀ tk Zs led h j (Q:Unit->Heap->Prop),St w B O Zs led h->led[j]? =some (a,c)->(∀ h',St w B O Zs (led.set j (a,c')) h'->Q () h')->W PW w n (setItem (.ref a) (x tk) (v tk)) Q h)(k:ae w B O n env (t.nxU t.st) ρ (γ.set g c') Z Q)
  (hk:ww K c'=true) (Py:qu t ρ i=ru K g (fun tk=>[.ref a,x tk,v tk])) (ha:autoParam (ρ[i]? =some (.ref a)) tac10) (hc:autoParam (γ[g]? =some c) tac10):ae w B O n env t ρ γ Z Q:=by have hp:=(Pc (Pc (ff Py)).2).2;have hk:ww (pA t.st.led i) c'=true:=(Pc (Pc (ff Py)).2).1▸hk;refine .ofU (Pc (ff Py)).1 fun T h x1 x2 x3 S r=>oE (vT r (pQ Py)) fun tk e=>?_;cases e;refine S.here fun Zs ms R l H=>?_;obtain ⟨h1,h2,h3,_⟩:=H.opq hp ha hc;refine oA (h3 c' hk) fun h4 h5=>cn tk _ _ _ _ _ H.st h1 fun h' PE=>?_;rw [ku h2] at PE;exact ⟨(),t.st,ρ,_,Z,.refl _,OU,⟨S.len,S.ok,Zs,ms,_,l,PE,H.rm,h4,h5,H.fz⟩,k⟩
theorem ae.frz {a:Addr}{c:an}(i g:Nat)(k:∀ Z',Z.le Z'->Z' a=some (vS c)->ae w B O n env (t.wst (t.st.era i)) ρ (γ.eraseIdx g) Z' Q)
  (Py:autoParam (qz t i=rz g) tac0) (ha:autoParam (ρ[i]? =some (.ref a)) tac10) (hc:autoParam (γ[g]? =some c) tac10):ae w B O n env t ρ γ Z Q:=
 ae.pre (ff Py) fun T h S=>S.here fun Zs ms R l H=>by have hp:=(Pc Py).2;obtain ⟨h1,h2,h3,h4⟩:=H.opq hp ha hc;refine d6 ((H.st.front h1).fzw) fun Z' l' z PE=>?_;rw [r7 h2] at PE;exact ⟨t.st.era i,ρ,_,Z',.refl _,⟨S.len,S.ok,Z',ms,_,.refl _,PE,H.rm,H.re.erase,h4,fun p hp=>(H.fz p hp).ext (.refl _) l'⟩,k Z' (l.trans l') z⟩
theorem ae.see {i:Nat}{c:aE}(g:∀ Z',Z.le Z'->bK ρ Z' i c->ae w B O n env t ρ γ Z' Q)(Py:autoParam (qe t i=re c) tac0):ae w B O n env t ρ γ Z Q:=
 have ha:=ff Py;have hi:=(Pc Py).2
 ae.pre ha fun T h S=>S.here fun Zs ms R l H=>⟨t.st,ρ,γ,Zs,.refl _,H.sat (.refl _),by
  rw [Cf ha];exact g Zs l (H.fz _ (cr hi))⟩
end
def vU (F:FI)(l:List (Str×NameKind)):List (Str×NameKind):=l.map fun p=>match p.2 with
 | .free=>match look F.names p.1 with
  | some .cell=>(p.1,.cell)
  | _=>p
 | _=>p
def Nh (cells:List (Str×Addr)):List (Str×NameKind)->List (Str×Addr)->List (Str×Addr)
 | [],acc=>acc
 | (x,.free)::l,acc=>match look cells x with
  | some a=>Nh cells l ((x,a)::acc)
  | none=>Nh cells l acc
 | _::l,acc=>Nh cells l acc
noncomputable def EX:List SL->List Str
 | []=>[]
 | .cel x _::l=>x::EX l
 | _::l=>EX l
def aU (cl cells:List (Str×Addr))(l:List SL):Prop:=(EX l).map (cl.lookup ·)=(EX l).map (cells.lookup ·)
def cX (l:List (Str×NameKind)):List Str:=iU .local l
def vV (F:FI)(tg elt:Expr)(ifs:List Expr)(K:um):Nat->Nat->List SV->bb->IT (List SV)
 | 0,j,acc,s=>oB (te K j s) (fun o=>oB o (fun U=>.ter) (.ret acc s)) .ter
 | k+1,j,acc,s=>oB (te K j s) (fun o=>oB o (fun a=>(yt F tg a s).bind fun U s=>oB ifs.head? (fun c=>((ev F 40).t c s).bind fun b s=>bB b (((ev F 40).e elt s).bind fun v s=>vV F tg elt ifs K k (j+1) (acc++[v]) s) (vV F tg elt ifs K k (j+1) acc s)) (((ev F 40).e elt s).bind fun v s=>vV F tg elt ifs K k (j+1) (acc++[v]) s)) .ter) .ter
noncomputable def sk (names:List Str)(s:bb):bb:={s with loc:=names.map fun x=>(x,none)}
abbrev DP (scope:Scope)(env:Env):List (Str×Addr):=Nh env.cells scope.names []
abbrev Cg (scope:Scope)(env:Env)(L:Addr):Env:=compEnvC scope (DP scope env) L env
section
variable {w:World}{B:Heap}{O:aP}{T:dy}{n m:Nat}{env RC:Env}{F:FI}{s:bb}{ρ:LV}{γ:List an}{Z Zs:a8}{h:Heap}{α:Type}{t:IT α}{Q:QQ α}{ms:List (Str×Option Value)}{R:dy}
variable {cl : List (Str×Addr)} {L : List SL} {pos : Pos} {b a f : Addr} {R6 : Nat->List SV->bb->LV->List an->a8->Prop} {vs : (Nat->Tok)->LV} {Z' : a8} {u : IT SV} {β : Type} {is : List Nat} {i N k0 : Nat} {x v : Value} {xs vals : LV} {c : an} {d : aE} {PJ : List (Nat×aE)} {P9 : FuncData} {PD : List SV}
local macro_rules |`(tactic|ac_rfl)=>`(tactic|(unfold aU;kernel_rfl!))
theorem bS.comp (E:bS env F){scope:Scope}{L:Addr}(b:Bool)(hk:scope.kind=.function)(hd:((vU F scope.names).all fun p=>(p.1==("__debug__" :Str))==false && (p.1==("__classdict__" :Str))==false)=true):
  bS (compEnvC scope cl L env) ⟨vU F scope.names,b⟩ where
 names:=by
  show (scope.names.map fun (n,k)=>if (k==NameKind.free && env.scope.kind==.function && env.kindOf n==some .cell) then (n,NameKind.cell) else (n,k))=vU F scope.names;refine List.map_congr_left fun p U=>?_;obtain ⟨x,k⟩:=p;have e:env.kindOf x=look F.names x:=by unfold Env.kindOf;rw [E.names,ic]
  show (if (k==NameKind.free && env.scope.kind==.function && env.kindOf x==some .cell)=true then _ else _)=_;rw [e,E.kind];cases k with
  | free=>
   dsimp only;cases h:look F.names x with
   | none=>rfl
   | some k=>cases k<;>rfl
  | _=>rfl
 kind:=hk
 glob:=E.glob
 bi:=E.bi
 dbg:=hd
theorem aU.re(Sp:RC.cells=cl){l:List SL}{R:dy}(hc:aU cl env.cells l)(r:ak (RE env ρ) l R):ak (RE RC ρ) l R:=
 r.ind (M:=fun l R=>aU cl env.cells l->ak (RE RC ρ) l R) (fun U=>OU) (fun {x p l R} r _ ih hc=>by
  cases x with
  | own i c=>exact ⟨by cases c<;>exact r,ih hc⟩
  | cel x v=>exact oA (List.cons.inj hc) fun h1 h2=>⟨⟨by rw [Sp];exact h1.trans r.1,r.2⟩,ih h2⟩
  | oth=>exact ⟨OU,ih hc⟩) hc
theorem aU.er(Sp:RC.cells=cl){l:List SL}{R:dy}(h:aU cl env.cells l)(r:ak (RE RC ρ) l R):ak (RE env ρ) l R:=aU.re (env:=RC) (RC:=env) (cl:=env.cells) rfl (by unfold aU at *;rw [Sp];exact h.symm) r
inductive MA (w:World)(B:Heap)(O:aP)(T:dy)(n:Nat)(env:Env)(F:FI)(tg elt:Expr)(ifs:List Expr)(K:um)(it la D:Addr)(fr:Addr×an)(Q:QQ (List SV))(ρ:LV)(k:Nat)(h:Heap):Prop
 | mk (j:Nat) (acc:List SV) (ys:LV) (s:bb) (ρ':LV) (γ:List an) (Z:a8) (e:iY ρ ρ') (S:bL w B O ((it,fX K la j)::(D,.pls ys)::fr::T) env s ρ' γ Z h) (ra:ak (af ρ') acc ys) (hk:ys.length+k<=1000)
  (g:ao w B O n env (vV F tg elt ifs K k j acc s) ρ' γ Z Q)
theorem bL.app {p fr:Addr×an}{D:Addr}{ys:LV}{y:Value}{Q:VP}(S:bL w B O (p::(D,.pls ys)::fr::T) env s ρ γ Z h)(hz:ys.length<=1000)(q:∀ h',bL w B O (p::(D,.pls (ys++[y]))::fr::T) env s ρ γ Z h'->Q .none h'):W PW w n (call (.builtin "list.append") [.ref D,y]) Q h:=by
 refine S.elim fun Zs ms R l Pz hm hR hc hf=>?_
 have P:∀ c,List.Perm ((env.locals,.ns ms)::(R++p::(D,c)::fr::T)) ((D,c)::(env.locals,.ns ms)::(R++p::fr::T)):=fun c=>((List.perm_append_comm_assoc R [p,(D,c)] (fr::T)).trans ((List.Perm.swap (D,c) p _).trans (((List.perm_append_comm_assoc [p] R (fr::T))).cons _))).cons _ |>.trans (.swap _ _ _)
 exact qL (Pz.perm (P _)) (i:=0) rfl hz fun h' PE=>q h' ⟨S.len,S.ok,Zs,ms,R,l,PE.perm (P _).symm,hm,hR,hc,hf⟩
theorem Ch {scope:Scope}{tg elt iter:Expr}{ifs:List Expr}{K:um}{k:Nat}{it la D:Addr}{fr:Addr×an}{Q:QQ (List SV)}{Rr:Heap->Prop}(E:bS env F)(ht:si tg K=true)(hi:ifs.length<=1)(hk:k<=1000)(hr:vQ ρ la K)
  (S:bL w B O ((it,fX K la 0)::(D,.pls [])::fr::T) env s ρ γ Z h) (g:ao w B O (n+2) env (vV F tg elt ifs K k 0 [] s) ρ γ Z Q)
  (fin:∀ vs ys s' ρ' γ' Z' h',iY ρ ρ'->ak (af ρ') vs ys->bL w B O ((D,.pls ys)::fr::T) env s' ρ' γ' Z' h'->Q vs s' ρ' γ' Z'->Rr h'):
  C PW w (n+2) (.compLoop (.ListComp elt [⟨tg,iter,ifs,0⟩] scope pos) 0 (.ref it) (.ref D) env) (fun U h'=>Rr h') h:=by
 refine Bh (MA w B O T (n+2) env F tg elt ifs K it la D fr Q ρ) (fun k h1 hk=>?_) k ⟨0,[],[],s,ρ,γ,Z,.refl _,S,OU,by show 0+k<=1000;exact aJ hk,g⟩ (yC ht) hi;obtain ⟨j,acc,ys,s1,ρ1,γ1,Z1,e1,S1,ra,hk,g⟩:=hk;cases k with
 | zero=>refine mr (α:=List SV) g fun o h0 g=>AN (α:=List SV) g (fun U U g=>g.elim) fun h1 g=>?_;subst h1;exact C7 S1 h0 (hr.ext e1) fun h2 S2=>fin _ _ _ _ _ _ _ e1 ra S2 g
 | succ k=>
  refine mr (α:=List SV) g fun o h0 g=>mr (α:=List SV) g fun a h1 g=>?_;subst h1;refine yB S1 h0 (hr.ext e1) fun v h2 rv S2=>⟨C8 tg S2 ht,?_⟩
  refine (qZ E (ao.bind g) S2 rv).out fun U U s2 ρ2 γ2 Z2 h3 e2 U S2 g=>?_
  have one:∀ {s2 ρ2 γ2 Z2 h3},iY ρ ρ2->ak (af ρ2) acc ys->bL w B O ((it,fX K la (j+1))::(D,.pls ys)::fr::T) env s2 ρ2 γ2 Z2 h3->ao w B O (n+2) env (((ev F 40).e elt s2).bind fun v s=>vV F tg elt ifs K k (j+1) (acc++[v]) s) ρ2 γ2 Z2 Q->
    W PW w (n+2) (eval elt env) (fun x h4=>W PW w (n+2) (call (.builtin "list.append") [.ref D,x]) (fun U h5=>∃ m,m < k+1/\MA w B O T (n+2) env F tg elt ifs K it la D fr Q ρ m h5) h4) h3:=fun {s2 ρ2 γ2 Z2 h3} e2 ra S2 g=>
   ((oj E 40).e (ao.bind g) S2).out fun a x s3 ρ3 γ3 Z3 h4 e3 r3 S3 g=>S3.app lw fun h5 S4=>(bw k (Nat.lt_succ_self _) ⟨j+1,acc++[a],ys++[x],s3,ρ3,γ3,Z3,e2.trans e3,S4,ak.app (RL.ext e3 ra) ⟨r3,OU⟩,by rw [List.length_append];show ys.length+1+k<=1000;exact aJ hk,g⟩)
  cases ifs with
  | nil=>exact n7.t (one (e1.trans e2) (RL.ext e2 ra) S2 g)
  | cons c ifs=>
   cases ifs with
   | cons _ _=>exact absurd hi (by simp)
   | nil=>
    refine ((oj E 40).t (ao.bind g) S2).out fun a b s3 ρ3 γ3 Z3 h4 e3 r3 S3 g=>?_;obtain rfl:=r3;cases a with
    | true=>exact n7.t (one (e1.trans (e2.trans e3)) (RL.ext e3 (RL.ext e2 ra)) S3 g)
    | false=>exact n7.f (bw k (Nat.lt_succ_self _) ⟨j+1,acc,ys,s3,ρ3,γ3,Z3,e1.trans (e2.trans e3),S3,RL.ext e3 (RL.ext e2 ra),lw,g⟩)
def Ni:List Str->Bool
 | []=>true
 | x::l=> !my l x && Ni l
theorem Ci {l:List Str}(h:Ni l=true):l.Nodup:=by
 induction l with
 | nil=>exact .nil
 | cons x l ih=>have h:=OW (show (!my l x && Ni l)=true from h);refine List.nodup_cons.mpr ⟨fun m=>?_,ih h.2⟩;have e:my l x=true:=List.any_eq_true.mpr ⟨x,m,nb x⟩;rw [e] at h;exact nB h.1
structure A7 (F:FI)(env:Env)(tg iter:Expr)(ifs:List Expr)(scope:Scope):Prop where
 clos:closureFor scope env=pure (DP scope env)
 nd:Ni (cX scope.names)=true
 ok:(scope.names.all fun y=>decide (y.2≠.cell) && (decide (y.2=.local->scope.names.lookup y.1=some .local)))=true
 kind:scope.kind=.function
 set:x7 iter=false
 ifs:Nat.ble ifs.length 1=true
 dbg:((vU F scope.names).all fun p=>(p.1==("__debug__" :Str))==false && (p.1==("__classdict__" :Str))==false)=true
def Hq (w:World)(B:Heap)(O:aP)(n:Nat)(env:Env)(F:FI)(tg elt:Expr)(ifs:List Expr)(scope:Scope)(b:Bool)(R6:Nat->List SV->bb->LV->List an->a8->Prop):QQ SV:=fun a s1 ρ1 γ1 Z1=>∃ K k s2,fW a s1=some (K,k,s2)/\(si tg K && Nat.ble k 1000)=true/\aU (DP scope env) env.cells s2.led/\
 ∀ L,ae w B O n (Cg scope env L) (vV ⟨vU F scope.names,b⟩ tg elt ifs K k 0 [] (sk (cX scope.names) s2)) ρ1 γ1 Z1 (fun vs s3 ρ3 γ3 Z3=>aU (DP scope env) env.cells s3.led/\∀ a:Addr,R6 s3.nv vs {s3 with loc:=s2.loc} (ρ3++[.ref a]) γ3 Z3)
theorem xj {scope:Scope}{tg elt iter:Expr}{ifs:List Expr}{p : Pos}{b:Bool}{use:Option (Value->Sem Unit)}{Q:VP}(E:bS env F)(X:A7 F env tg iter ifs scope)
  (S:bL w B O T env s ρ γ Z h) (g:ae w B O (n+2) env ((ev F 40).e iter s) ρ γ Z (Hq w B O (n+2) env F tg elt ifs scope b R6))
  (fin:∀ (vs:List SV) (ys:LV) (s':bb) (ρ':LV) (γ':List an) (Z' Zs:a8) (D:Addr) ms m R h',iY ρ ρ'->ak (af ρ') vs ys->ρ'.length=s'.nv->(∀ x∈ρ',bA x=true)->Z'.le Zs->RM ρ' s'.loc ms->ak (RE env ρ') s'.led R->cont s'.led R=γ'->(∀ p∈s'.fz,bK ρ' Zs p.1 p.2)->∀ Cc,St w B O Zs ((Cc,.ns m)::(D,.pls ys)::(env.locals,.ns ms)::(R++T)) h'->
   (∀ a,R6 s'.nv vs s' (ρ'++[.ref a]) γ' Z')->pH w (n+2) B O use Q D Cc h'):
  W PW w (n+2) (comprehension (LC elt tg iter ifs scope pos) scope env p (newList []) false (eval iter env) use) Q h:=by
 have QJ:(scope.names.all fun y=>decide (y.2≠.cell))=true:=List.all_eq_true.mpr fun y hy=>(OW (OZ X.ok y hy)).1;have Sq:(scope.names.all fun y=>decide (y.2=.local->scope.names.lookup y.1=some .local))=true:=List.all_eq_true.mpr fun y hy=>(OW (OZ X.ok y hy)).2;refine Bi (B:=B) (O:=O) (cX scope.names) (((oj E 40).e g.run S).mono fun xv h1 o=>?_) X.clos (Ci X.nd) QJ X.kind Sq (C9 X.set);obtain ⟨a,s1,ρ1,γ1,Z1,e1,r1,S1,K,k,s2,Xc,Xd,Rc,g⟩:=o;rw [Bool.and_eq_true] at Xd;refine r8 Xc S1 r1 fun it la h2 hr S2=>S2.elim fun Zs ms R l Pz hm hR hc hf=>?_;refine ⟨it,fX K la 0,Zs,(env.locals,.ns ms),R++T,rfl,Pz.mid,?_,fun Cc D h3 Q0=>?_⟩
 ·cases K with
  | lst=>exact t8
  | rng=>exact zW
 ·have UK:St w B O Zs ((Cc,.ns ((cX scope.names).map fun x=>(x,none)))::(R++(it,fX K la 0)::(D,.pls [])::(env.locals,.ns ms)::T)) h3:=Q0.perm ((List.perm_append_comm_assoc [_,_,_] R T).cons _)
  have Xe:bL w B O ((it,fX K la 0)::(D,.pls [])::(env.locals,.ns ms)::T) (Cg scope env Cc) (sk (cX scope.names) s2) ρ1 γ1 Z1 h3:=⟨S2.len,S2.ok,Zs,_,R,l,UK,RM.of (f:=fun U=>none) (g:=fun U=>none) (fun U=>OU) _,aU.re rfl Rc hR,hc,hf⟩
  refine Ch (bS.comp E b X.kind X.dbg) Xd.1 (Pf X.ifs) (Pf Xd.2) hr Xe (g Cc).run fun vs ys s3 ρ3 γ3 Z3 h4 e3 ra S3 q=>?_;refine S3.elim fun UL Sr R3 l3 Xf hm3 Vk Xg Vl=>?_;refine fin vs ys {s3 with loc:=s2.loc} ρ3 γ3 Z3 UL D ms Sr R3 h4 (e1.trans e3) ra S3.len S3.ok l3 (hm.ext e3) (aU.er rfl q.1 Vk) Xg Vl Cc ?_ q.2;exact Xf.perm ((List.perm_append_comm_assoc R3 [_,_] T).cons _)
theorem tB {D:Addr}{vs:List SV}{ys:LV}(hl:ρ.length=s.nv)(ho:∀ x∈ρ,bA x=true)(l:Z.le Zs)(hm:RM ρ s.loc ms)(hR:ak (RE env ρ) s.led R)(hc:cont s.led R=γ)(hf:∀ p∈s.fz,bK ρ Zs p.1 p.2)(ra:ak (af ρ) vs ys)
  (l':Zs.le Z') (z:Z' D=some (.lst ys)) (Pz:St w B O Z' ((env.locals,.ns ms)::(R++T)) h):bL w B O T env (fj (.lst vs) s) (ρ++[.ref D]) γ Z h where
 len:=by rw [List.length_append,hl];rfl
 ok:=fun x hx=>(OX hx).elim (ho x) (DO rfl x)
 st:=⟨Z',ms,R,l.trans l',Pz,hm.ext (.one _ _),kt _ hR,hc,fun p hp=>by
  rcases OY hp with rfl | hp
  ·exact ⟨D,ys,cG hl,z,RL.ext (.one _ _) ra⟩
  ·exact (hf p hp).ext (.one _ _) l'⟩
noncomputable def MB:Expr->Expr
 | .ListComp elt _ _ _=>elt
 | e=>e
noncomputable def O7:Expr->Comprehension
 | .ListComp _ (g::_) _ _=>g
 | e=>⟨e,e,[],0⟩
noncomputable def EY (d:Scope):Expr->Scope
 | .ListComp _ _ sc _=>sc
 | _=>d
noncomputable def rh:Expr->Pos
 | .ListComp _ _ _ p=>p
 | _=>default
noncomputable def IT.qE:IT α->Expr
 | .askE (.expr e) _ _ _=>e
 | .askS (.Assign _ e _) _ _=>e
 | _=>.Tuple [] 0 default
def IT.asN:IT α->Str×Pos×Pos
 | .askS (.Assign [.Name y py] _ sp) _ _=>(y,py,sp)
 | _=>(am,default,default)
noncomputable def IT.ansD (d:α):IT α->α
 | .ret a _=>a
 | _=>d
def np (t:IT SV):Option (um×Nat×bb):=match t with
 | .ret a s=>fW a s
 | _=>none
def Hr (t:IT SV):um:=match np t with
 | some p=>p.1
 | none=>.rng 0
def Hs (t:IT SV):Nat:=match np t with
 | some p=>p.2.1
 | none=>0
def Gg (t:IT SV):bb:=match np t with
 | some p=>p.2.2
 | none=>t.st
noncomputable def Cj {β:Type}:Option β->Bool
 | some _=>true
 | none=>false
theorem ae.done (d:α)(f:Q (t.ansD d) t.st ρ γ Z)(ha:autoParam (t.isRet=true) tac0):ae w B O n env t ρ γ Z Q:=by cases t<;>first | (exact nB ha;done) | exact ⟨f⟩
abbrev oq (t:IT α):Expr:=MB t.qE
abbrev oU (t:IT α):Expr:=(O7 t.qE).target
abbrev iy (t:IT α):Expr:=(O7 t.qE).iter
abbrev mi (t:IT α):List Expr:=(O7 t.qE).ifs
abbrev bF (t:IT α):Scope:=EY ⟨.function,[],false,false,[]⟩ t.qE
abbrev ie (F:FI)(t:IT α):IT SV:=(ev F 40).e (iy t) t.st
theorem Ck{Q:QQ SV}(h:Cj (np u)=true)(g:∀ a s,fW a s=some (Hr u,Hs u,Gg u)->Q a s ρ γ Z):ae w B O n env u ρ γ Z Q:=by
 cases u with
 | ret a s=>
  refine ⟨g a s ?_⟩;unfold Hr Hs Gg;have e:np (.ret a s)=fW a s:=rfl;rw [e] at h ⊢;cases q:fW a s with
  | none=>rw [q] at h;exact nB h
  | some p=>rfl
 | _=>exact nB h
abbrev Nj (w:World)(B:Heap)(O:aP)(n:Nat)(env:Env)(F:FI)(t:IT α)(u:IT SV)(sc:Scope)(b:Bool)(ρ:LV)(γ:List an)(Z:a8)(R6:Nat->List SV->bb->LV->List an->a8->Prop):Prop:=∀ L,ae w B O n (Cg sc env L) (vV ⟨vU F sc.names,b⟩ (oU t) (oq t) (mi t) (Hr u) (Hs u) 0 [] (sk (cX sc.names) (Gg u))) ρ γ Z (fun vs s3 ρ3 γ3 Z3=>aU (DP sc env) env.cells s3.led/\∀ a:Addr,R6 s3.nv vs {s3 with loc:=(Gg u).loc} (ρ3++[.ref a]) γ3 Z3)
theorem kw{sc:Scope}{b:Bool}(g:Nj w B O (n+2) env F t u sc b ρ γ Z R6)(h1:Cj (np u)=true)(h2:(si (oU t) (Hr u) && Nat.ble (Hs u) 1000)=true)(h3:aU (DP sc env) env.cells (Gg u).led):
  ae w B O (n+2) env u ρ γ Z (Hq w B O (n+2) env F (oU t) (oq t) (mi t) sc b R6):=Ck h1 fun a s e=>pF _ _ _ e h2 h3 g
theorem ae.comp (b:Bool)(F:FI)(E:bS env F)(g:Nj w B O (n+2) env F t (ie F t) (bF t) b ρ γ Z fun i vs s ρ γ Z=>ae w B O (n+2) env (t.nx (.v i) (fj (.lst vs) s)) ρ γ Z Q)
  (X:autoParam (A7 F env (oU t) (iy t) (mi t) (bF t)) tac11)
  (h1:autoParam (Cj (np (ie F t))=true) tac0) (h2:autoParam ((si (oU t) (Hr (ie F t)) && Nat.ble (Hs (ie F t)) 1000)=true) tac0) (h3:autoParam (aU (DP (bF t) env) env.cells (Gg (ie F t)).led) tac12)
  (hq:autoParam (t.qop=some (.expr (LC (oq t) (oU t) (iy t) (mi t) (bF t) (rh t.qE)))) tac0):ae w B O (n+2) env t ρ γ Z Q:=
 .ofE hq fun T h xs S r=>xj (B:=B) (O:=O) (T:=T) (iter:=iy t) E X S (kw g h1 h2 h3) fun vs ys s' ρ' γ' Z' Zs D ms m R h' e ra hl ho l hm hR hc hf Cc Pz R6=>kj Pz fun h' PE=>d6 PE.fzL1 fun Z5 l5 z Q0=>⟨.v s'.nv,fj (.lst vs) s',ρ'++[Value.ref D],γ',Z',e.trans (.one _ (Value.ref D)),cG hl,tB hl ho l hm hR hc hf ra l5 z Q0,R6 D⟩
theorem ae.compAq {t:IT SF}{Q:QQ SF}(b:Bool)(F:FI)(E:bS env F)(g:ae w B O (n+2) env (ie F t) ρ γ Z (Hq w B O (n+2) env F (oU t) (oq t) (mi t) (bF t) b fun i vs s ρ γ Z=>ae w B O (n+2) env ((mA F t.asN.1 (.v i) (fj (.lst vs) s)).bind fun U s=>t.nxS .next s) ρ γ Z Q))
  (X:autoParam (A7 F env (oU t) (iy t) (mi t) (bF t)) tac11)
  (hl:autoParam (look F.names t.asN.1=some .local) tac0) (V5:autoParam (swapsWith (LC (oq t) (oU t) (iy t) (mi t) (bF t) (rh t.qE)) (some (.Name t.asN.1 t.asN.2.1)) t.asN.2.2.line env=pure true) tac0)
  (hq:autoParam (t.qst=some (.Assign [.Name t.asN.1 t.asN.2.1] (LC (oq t) (oU t) (iy t) (mi t) (bF t) (rh t.qE)) t.asN.2.2)) tac0):ae w B O (n+2) env t ρ γ Z Q:=by
 refine .ofS hq fun T h S=>zX (e:=iy t) (xj (B:=B) (O:=O) (T:=T) E X S g fun vs ys s' ρ' γ' Z' Zs D ms m R h' e ra Xh ho l hm hR hc hf Cc Pz R6=>?_) V5;have g:=(R6 D).run;unfold mA at g;rw [hl] at g;dsimp only [oB] at g;cases hi:A0 (fj (.lst vs) s').loc t.asN.1 with
 | none=>rw [hi] at g;exact g.elim
 | some j=>rw [hi] at g;refine oE (yp hi) fun o hj=>?_;refine bM (ak.get hm hj) fun y' h1 h2=>?_;obtain ⟨y',u⟩:=y';have h2:t.asN.1=y':=h2.1;refine vw Pz (h2▸h1) (fun h' PE=>?_) (E.ok hl);refine d6 PE.fzL1 fun Z5 l5 z Q0=>?_;exact ⟨.next,{fj (.lst vs) s' with loc:=(fj (.lst vs) s').loc.set j (t.asN.1,some (.v s'.nv))},ρ'++[Value.ref D],γ',Z',e.trans (.one _ (Value.ref D)),OU,⟨by rw [List.length_append,Xh];rfl,fun x hx=>(OX hx).elim (ho x) (DO rfl x),Z5,_,R,l.trans l5,Q0,ak.set (hm.ext (.one _ _)) ⟨rfl,(cG Xh:(ρ'++[Value.ref D])[s'.nv]? =some (Value.ref D))⟩,kt _ hR,hc,fun p hp=>(OY hp).elim (fun e=>e▸⟨D,ys,cG Xh,z,RL.ext (.one _ _) ra⟩) fun hp=>(hf p hp).ext (.one _ _) l5⟩,⟨g⟩⟩
theorem ae.compA {t:IT SF}{Q:QQ SF}(b:Bool)(F:FI)(E:bS env F)(g:Nj w B O (n+2) env F t (ie F t) (bF t) b ρ γ Z fun i vs s ρ γ Z=>ae w B O (n+2) env ((mA F t.asN.1 (.v i) (fj (.lst vs) s)).bind fun U s=>t.nxS .next s) ρ γ Z Q)
  (X:autoParam (A7 F env (oU t) (iy t) (mi t) (bF t)) tac11)
  (h1:autoParam (Cj (np (ie F t))=true) tac0) (h2:autoParam ((si (oU t) (Hr (ie F t)) && Nat.ble (Hs (ie F t)) 1000)=true) tac0) (h3:autoParam (aU (DP (bF t) env) env.cells (Gg (ie F t)).led) tac12)
  (hl:autoParam (look F.names t.asN.1=some .local) tac0) (V5:autoParam (swapsWith (LC (oq t) (oU t) (iy t) (mi t) (bF t) (rh t.qE)) (some (.Name t.asN.1 t.asN.2.1)) t.asN.2.2.line env=pure true) tac0)
  (hq:autoParam (t.qst=some (.Assign [.Name t.asN.1 t.asN.2.1] (LC (oq t) (oU t) (iy t) (mi t) (bF t) (rh t.qE)) t.asN.2.2)) tac0):ae w B O (n+2) env t ρ γ Z Q:=.compAq b F E (kw g h1 h2 h3) X hl V5 hq
def ac (ρ:LV)(Z:a8):List (Nat×aE)->Prop
 | []=>True
 | p::l=>bK ρ Z p.1 p.2/\ac ρ Z l
theorem ac.mem {l:List (Nat×aE)}(h:ac ρ Z l):∀ p∈l,bK ρ Z p.1 p.2:=by
 induction l with
 | nil=>exact fun U h=>nomatch h
 | cons q l ih=>exact fun p hp=>(OY hp).elim (fun e=>e▸h.1) (ih h.2 p)
theorem ac.of:∀ {l:List (Nat×aE)},(∀ p∈l,bK ρ Z p.1 p.2)->ac ρ Z l
 | [],_=>OU
 | q::l,h=>⟨h q (.head _),ac.of fun p hp=>h p (.tail _ hp)⟩
theorem ac.ext {ρ':LV}{Z':a8}(e:iY ρ ρ')(l:Z.le Z'){fz:List (Nat×aE)}(h:ac ρ Z fz):ac ρ' Z' fz:=.of fun p hp=>(h.mem p hp).ext e l
theorem ac.more (vs:LV)(l:Z.le Z'){fz:List (Nat×aE)}(h:ac ρ Z fz):ac (ρ++vs) Z' fz:=h.ext ⟨_,rfl⟩ l
def vW (is:List Nat)(a b:SV):Bool:=match a with
 | .v i=>(match b with
  | .v j=>(match is[i]? with
   | some k=>Nat.beq k j
   | none=>false)
  | _=>false)
 | .int x=>(match b with
  | .int y=>decide (x=y)
  | _=>false)
 | .str x=>(match b with
  | .str y=>seq x y
  | _=>false)
 | .k x=>(match b with
  | .k y=>Id x y
  | _=>false)
noncomputable def Cl {α β:Type}(f:α->β->Bool):List α->List β->Bool
 | [],[]=>true
 | a::l,b::m=>f a b && Cl f l m
 | _,_=>false
theorem yG {α γ : Type}{f:α->β->Bool}{R:β->γ->Prop}{R':α->γ->Prop}(k:∀ a b x,f a b=true->R b x->R' a x)(l:List α):∀ {m:List β} {xs:List γ},Cl f l m=true->ak R m xs->ak R' l xs:=by
 induction l with
 | nil=>intro m xs e r;cases m with
  | nil=>cases xs with
   | nil=>(trivial)
   | cons=>exact r.elim
  | cons=>exact nB e
 | cons a l ih=>intro m xs e r;cases m with
  | nil=>exact nB e
  | cons b m=>cases xs with
   | nil=>exact r.elim
   | cons x xs=>have e:=OW e;exact ⟨k a b x e.1 r.1,ih e.2 r.2⟩
theorem yH {α γ : Type}{f:α->β->Bool}{R:β->γ->Prop}{R':α->γ->Prop}(k:∀ a b x,f a b=true->R' a x->R b x)(l:List α):∀ {m:List β} {xs:List γ},Cl f l m=true->ak R' l xs->ak R m xs:=by
 induction l with
 | nil=>intro m xs e r;cases m with
  | nil=>cases xs with
   | nil=>(trivial)
   | cons=>exact r.elim
  | cons=>exact nB e
 | cons a l ih=>intro m xs e r;cases m with
  | nil=>exact nB e
  | cons b m=>cases xs with
   | nil=>exact r.elim
   | cons x xs=>have e:=OW e;exact ⟨k a b x e.1 r.1,ih e.2 r.2⟩
def yI (is:List Nat):List SV->List SV->Bool:=Cl (vW is)
def EZ (is:List Nat):List (Str×SV)->List (Str×SV)->Bool:=Cl fun a b=>seq a.1 b.1 && vW is a.2 b.2
def uv (is:List Nat)(c d:aE):Bool:=match c with
 | .lst a=>(match d with
  | .lst b=>yI is a b
  | _=>false)
 | .tup a=>(match d with
  | .tup b=>yI is a b
  | _=>false)
 | .obj C a=>(match d with
  | .obj D b=>Nat.beq C D && EZ is a b
  | _=>false)
 | .dct a=>(match d with
  | .dct b=>EZ is a b
  | _=>false)
 | _=>false
def rj (is:List Nat)(fz:List (Nat×aE)):List (Nat×aE)->Bool
 | []=>true
 | p::l=>(match is[p.1]? with
  | some i=>match gQ fz i with
   | some c=>uv is p.2 c
   | none=>false
  | none=>false) && rj is fz l
noncomputable def mJ (is:List Nat)(ρ ρ':LV):Prop:=is.map (ρ[·]?)=ρ'.map some
theorem mJ.get{ρ ρ':LV}(h:mJ is ρ ρ'){k : Nat}(e:is[i]? =some k):ρ'[i]? =ρ[k]? :=by
 have:=Pl (·[i]?) h;simp only [List.getElem?_map,e,Option.map_some] at this;cases q:ρ'[i]? with
 | none=>rw [q] at this;exact nO this
 | some x=>rw [q] at this;exact (Pd this).symm
theorem yJ{ρ ρ':LV}(h:mJ is ρ ρ'){a b:SV}(e:vW is a b=true)(r:af ρ b x):af ρ' a x:=by
 cases a with
 | v i=>
  cases b with
  | v j=>
   have e:(match is[i]? with
    | some k=>Nat.beq k j
    | none=>false)=true:=e
   cases hk:is[i]? with
   | none=>rw [hk] at e;exact nB e
   | some k=>rw [hk] at e;obtain rfl:=Ph e;exact (h.get hk).trans r
  | _=>exact nB e
 | int y=>
  cases b with
  | int z=>obtain rfl:y=z:=Pp e;exact r
  | _=>exact nB e
 | str y=>
  cases b with
  | str z=>obtain rfl:=iu e;exact r
  | _=>exact nB e
 | k y=>
  cases b with
  | k z=>obtain rfl:=qQ e;exact r
  | _=>exact nB e
theorem vX{ρ ρ':LV}(h:mJ is ρ ρ'){l m:List SV}(e:yI is l m=true)(r:ak (af ρ) m xs):ak (af ρ') l xs:=yG (f:=vW is) (R:=af ρ) (R':=af ρ') (fun U U U e r=>yJ h e r) l e r
theorem yK{ρ ρ':LV}(h:mJ is ρ ρ'){l m:List (Str×SV)}{xs:KV}(e:EZ is l m=true)(r:RF ρ m xs):RF ρ' l xs:=yG (α:=Str×SV) (β:=Str×SV) (γ:=Str×Value) (f:=fun a b=>seq a.1 b.1 && vW is a.2 b.2) (R:=fun p q=>p.1=q.1/\af ρ p.2 q.2) (R':=fun p q=>p.1=q.1/\af ρ' p.2 q.2) (fun U U U e r=>have e:=OW e;⟨(iu e.1).trans r.1,yJ h e.2 r.2⟩) l e r
theorem A8{ρ ρ':LV}(h:mJ is ρ ρ'){j : Nat}(hi:is[i]? =some j){c : aE}(e:uv is c d=true)(f:bK ρ Z j d):bK ρ' Z i c:=by
 cases c with
 | lst x=>
  cases d with
  | lst y=>obtain ⟨a,vs,h1,h2,h3⟩:=f;exact ⟨a,vs,(h.get hi).trans h1,h2,vX h e h3⟩
  | _=>exact nB e
 | tup x=>
  cases d with
  | tup y=>obtain ⟨a,vs,h1,h2,h3⟩:=f;exact ⟨a,vs,(h.get hi).trans h1,h2,vX h e h3⟩
  | _=>exact nB e
 | obj C x=>
  cases d with
  | obj D y=>obtain ⟨a,dx,fv,h1,h2,h3,h4⟩:=f;have e:=OW e;obtain rfl:=Ph e.1;exact ⟨a,dx,fv,(h.get hi).trans h1,h2,h3,yK h e.2 h4⟩
  | _=>exact nB e
 | dct x=>
  cases d with
  | dct y=>obtain ⟨a,vs,h1,h2,h3⟩:=f;exact ⟨a,vs,(h.get hi).trans h1,h2,yK h e h3⟩
  | _=>exact nB e
 | _=>exact nB e
theorem ac.sel (is:List Nat){ρ ρ':LV}{fz:List (Nat×aE)}(h:ac ρ Z fz)(he:autoParam (mJ is ρ ρ') tac13)(e:rj is fz PJ=true):ac ρ' Z PJ:=by
 induction PJ with
 | nil=>(trivial)
 | cons p l ih=>
  have e:=OW e;refine ⟨?_,ih e.2⟩;have e:=e.1
  split at e
  ·split at e
   ·exact A8 he ‹_› e (h.mem _ (cr ‹_›))
   ·exact nB e
  ·exact nB e
theorem mu (h:ρ.all bA=true):∀ x∈ρ,bA x=true:=OZ h
theorem bu{k : Nat}{fz:List (Nat×aE)}{P:a8->Value->Prop}(ρ:LV)(b:Bool)(D:bU w.params P9 f k)(hf:ac ρ Z fz)
  (g:∀ B O L Z1,Z.le Z1->ae w B O (n+2) (callEnvC P9 L f) ((ex (fi P9 b) 60).ss (uQ P9) (start P9 PD [] fz N)) ρ [] Z1 (xh P))
  (RZ:ak (af ρ) PD vals) (hk:autoParam (vals.length=k) tac4) (hρ:autoParam (ρ.all bA=true) tac4) (hN:autoParam (ρ.length=N) tac4):RT w (n+3) f vals P Z:=Mx b D RZ hk (mu hρ) hf.mem hN g
theorem ae.retS {t:IT SF}{Q:QQ SF}(ha:t.isRet=true)(f:Q t.retA t.st ρ γ Z):ae w B O n env t ρ γ Z Q:=by cases t<;>first | (exact nB ha;done) | exact ⟨f⟩
theorem ae.finV {t:IT SF}{P:a8->Value->Prop}(i:Nat)(p:∀ Zs,Z.le Zs->P Zs x)(hi:autoParam (ρ[i]? =some x) tac4)(ha:autoParam (t.isRet=true) tac0)(he:autoParam (t.retA=.ret (.v i)) tac0):ae w B O n env t ρ γ Z (xh P):=
 ae.retS ha fun Zs v l U U r=>by rw [he] at r;obtain rfl:=af.det (show af ρ (.v i) v from r) hi;exact p Zs l
theorem ae.finA {t:IT SF}{P:a8->Value->Prop}(a:SF)(p:∀ Zs v,Z.le Zs->ut ρ a v->P Zs v)(ha:autoParam (t.isRet=true) tac0)(he:autoParam (t.retA=a) tac0):ae w B O n env t ρ γ Z (xh P):=ae.retS ha fun Zs v l hf hF r=>p Zs v l (he▸r)
theorem ae.finF {t:IT SF}{P:a8->Value->Prop}(a:SF)(fz:List (Nat×aE))(p:∀ Zs v,Z.le Zs->ac ρ Zs fz->ut ρ a v->P Zs v)(ha:autoParam (t.isRet=true) tac0)(he:autoParam (t.retA=a) tac0)(hz:autoParam (t.st.fz=fz) tac0):ae w B O n env t ρ γ Z (xh P):=ae.retS ha fun Zs v l hf hF r=>p Zs v l (hz▸.of hf) (he▸r)
theorem Pk.of{m:Sem β}{P:β->Prop}(r:∀ h (Q:β->Heap->Prop),(∀ v,P v->Q v h)->W PW w n m Q h):Pk w B O env n s ρ γ Z m P:=fun T h Zs ms R l H Q' q=>r h Q' fun v p=>q v h H.st p
theorem Pk.at{m:Sem β}{P:β->Prop}(ha:fk w B O env s ρ γ Z a c)(r:∀ h (Q:β->Heap->Prop),ci w h a c->(∀ v,P v->Q v h)->W PW w n m Q h):Pk w B O env n s ρ γ Z m P:=fun T h Zs ms R l H Q' q=>r h Q' (ha T h Zs ms R l H) fun v p=>q v h H.st p
theorem ae.opI (op:Op)(vs:(Nat->Tok)->LV)(v:Int)(c:∀ tk,Pk w B O env n t.st ρ γ Z (gL env op (vs tk)) (M1 · v))(g:∀ k,ae w B O n env t.n1 (sn ρ (.int v k)) γ Z Q)
  (Py:autoParam (qa t ρ=ra op vs) tac0):ae w B O n env t ρ γ Z Q:=ae.pk c (fun x Xi=>oE Xi fun k e=>by subst e;exact .one rfl (g k)) Py
theorem ae.opS (op:Op)(vs:(Nat->Tok)->LV)(v:Str)(c:∀ tk,Pk w B O env n t.st ρ γ Z (gL env op (vs tk)) (Ic · v))(g:∀ k,ae w B O n env t.n1 (sn ρ (.str v k)) γ Z Q)
  (Py:autoParam (qa t ρ=ra op vs) tac0):ae w B O n env t ρ γ Z Q:=ae.pk c (fun x U1=>oE U1 fun k e=>by subst e;exact .one rfl (g k)) Py
theorem ae.opB (op:Op)(vs:(Nat->Tok)->LV)(b:Bool)(c:∀ tk,Pk w B O env n t.st ρ γ Z (gL env op (vs tk)) (· =.bool b))(g:ae w B O n env (t.nx (.k (.bool b)) (t.st.ext 0 [])) ρ γ Z Q)
  (Py:autoParam (qa t ρ=ra op vs) tac0):ae w B O n env t ρ γ Z Q:=ae.pk c (fun x e=>.k (.k (.bool b)) e g) Py
theorem ae.opi (op:Op)(vs:(Nat->Tok)->LV)(v:Int)(c:∀ tk h (Q:VP),(∀ x,M1 x v->Q x h)->W PW w n (gL env op (vs tk)) Q h)(g:∀ k,ae w B O n env t.n1 (sn ρ (.int v k)) γ Z Q)(Py:autoParam (qa t ρ=ra op vs) tac0):ae w B O n env t ρ γ Z Q:=.opI op vs v (fun tk=>.of (c tk)) g Py
theorem ae.opss (op:Op)(vs:(Nat->Tok)->LV)(v:Str)(c:∀ tk h (Q:VP),(∀ x,Ic x v->Q x h)->W PW w n (gL env op (vs tk)) Q h)(g:∀ k,ae w B O n env t.n1 (sn ρ (.str v k)) γ Z Q)(Py:autoParam (qa t ρ=ra op vs) tac0):ae w B O n env t ρ γ Z Q:=.opS op vs v (fun tk=>.of (c tk)) g Py
theorem ae.opb (op:Op)(vs:(Nat->Tok)->LV)(b:Bool)(c:∀ tk h (Q:VP),(∀ x,x=.bool b->Q x h)->W PW w n (gL env op (vs tk)) Q h)(g:ae w B O n env (t.nk (.k (.bool b))) ρ γ Z Q)(Py:autoParam (qa t ρ=ra op vs) tac0):ae w B O n env t ρ γ Z Q:=.opB op vs b (fun tk=>.of (c tk)) g Py
theorem ae.rtI{k:Int}(c:∀ tk,RT w m f (vs tk) (iH k) Z)(g:∀ u Z',Z.le Z'->ae w B O n env t.n1 (sn ρ (.int k u)) γ Z' Q)(hm:autoParam (m<=n) tac9)
  (Py:autoParam (qa t ρ=rc f vs) tac0):ae w B O n env t ρ γ Z Q:=ae.rt c (fun v Z' l U8=>oE U8 fun u e=>by subst e;exact .one rfl (g u Z' l)) hm Py
def qt (t:IT SF)(ρ:LV):(Option Op×(Value->Bool×SF))×TO:=((t.qop,fun v=>((t.nk (.k v)).isRet,(t.nk (.k v)).retA)),fun tk=>eO ρ tk 0 t.args)
noncomputable def OR (f:Addr)(vs:TV):(Option Op×(Value->Bool×SF))×TO:=((some .call,fun v=>(true,.ret (.k v))),fun tk=>some (.ref f::vs tk))
theorem ae.tail {t:IT SF}{P:a8->Value->Prop}(c:∀ tk,RT w m f (vs tk) P Z)(hP:∀ Z Z' v,Z.le Z'->P Z v->P Z' v)(hm:autoParam (m<=n) tac9)
  (Py:autoParam (qt t ρ=OR f vs) tac0):ae w B O n env t ρ γ Z (xh P):=
 have hr:=fun v=>ff (pQ (ff Py) v);have he:=fun v=>(Pc (pQ (ff Py) v)).2
 ae.rt c (fun v Z' l p=>.k (.k v) rfl (ae.retS (hr v) fun Zs x l' U U r=>by rw [he v] at r;obtain rfl:x=v:=r;exact hP _ _ _ l' p)) hm (Prod.ext (ff (ff Py)) (funext (pQ Py)))
noncomputable def vY:List SL->List (Nat×aE)
 | []=>[]
 | .own _ (.opq _)::l=>vY l
 | .own i c::l=>(i,c)::vY l
 | _::l=>vY l
variable {ρ':LV}
def qb {α:Type}(t:IT α)(is:List Nat)(fz:List (Nat×aE)):Bool:=t.isAsk && rj is t.st.fz fz
theorem ae.facts (is:List Nat)(fz:List (Nat×aE))(g:∀ Z',Z.le Z'->ac ρ' Z' fz->ae w B O n env t ρ γ Z' Q)(Py:autoParam (qb t is fz=true) tac0)(he:autoParam (mJ is ρ ρ') tac13):ae w B O n env t ρ γ Z Q:=
 have ha:=(OW Py).1;have e:=(OW Py).2
 ae.pre ha fun T h S=>S.here fun Zs ms R l H=>⟨t.st,ρ,γ,Zs,.refl _,H.sat (.refl _),by
  rw [Cf ha];exact g Zs l ((ac.of H.fz).sel is he e)⟩
theorem xg.own {l:List SL}:∀ {γ:List an},xg ρ Z l γ->(∀ p∈vY l,bK ρ Z p.1 p.2):=by
 induction l with
 | nil=>exact fun U p hp=>nomatch hp
 | cons x l ih=>
  intro γ h p hp;cases x with
  | own i c=>
   cases c with
   | opq k=>cases γ<;>exact ih h.2 p hp
   | _=>exact (OY hp).elim (fun e=>e▸h.1) (ih h.2 p)
  | _=>exact ih h p hp
noncomputable def MC (ρ:LV):SV->Option Value
 | .v i=>ρ[i]?
 | .k x=>some x
 | _=>none
def tC (ρ:LV):List SV->Option LV
 | []=>some []
 | a::l=>oB (MC ρ a) (fun x=>(tC ρ l).map (x:: ·)) none
theorem F0 {a:SV}{y : Value}(h:MC ρ a=some y)(r:af ρ a x):x=y:=by
 cases a with
 | v i=>exact Pd ((show ρ[i]? =some x from r).symm.trans h)
 | k z=>exact (show x=z from r).trans (Pd h)
 | _=>exact nS h
theorem rk {l:List SV}{ys : LV}(h:tC ρ l=some ys)(r:ak (af ρ) l xs):xs=ys:=r.ind (M:=fun l xs=>∀ {ys},tC ρ l=some ys->xs=ys) (fun h=>Pd h) (fun {a x l xs} r _ ih {ys} h=>gK h fun y e h=>bM (Option.map_eq_some_iff.mp h) fun zs q k=>by rw [<- k,ih q,F0 e r]) h
theorem bK.lv{xs:List SV}{ys:LV}(h:bK ρ Z i (.lst xs))(ha:autoParam (ρ[i]? =some (.ref a)) tac10)(hv:autoParam (tC ρ xs=some ys) tac10):Z a=some (.lst ys):=by obtain ⟨b,vs,h1,h2,h3⟩:=h;rw [ha] at h1;cases h1;rw [h2,rk hv h3]
theorem bK.tv{xs:List SV}{ys:LV}(h:bK ρ Z i (.tup xs))(ha:autoParam (ρ[i]? =some (.ref a)) tac10)(hv:autoParam (tC ρ xs=some ys) tac10):Z a=some (.tup ys):=by obtain ⟨b,vs,h1,h2,h3⟩:=h;rw [ha] at h1;cases h1;rw [h2,rk hv h3]
def yL (is:List Nat):List (Nat×aE)->List (Nat×aE)->Bool
 | [],[]=>true
 | p::l,q::m=>(match is[p.1]? with
  | some i=>Nat.beq i q.1 && uv is p.2 q.2
  | none=>false) && yL is l m
 | _,_=>false
theorem yM(h:mJ is ρ ρ'){a b:SV}(e:vW is a b=true)(r:af ρ' a x):af ρ b x:=by
 cases a with
 | v i=>
  cases b with
  | v j=>
   have e:(match is[i]? with
    | some k=>Nat.beq k j
    | none=>false)=true:=e
   cases hk:is[i]? with
   | none=>rw [hk] at e;exact nB e
   | some k=>rw [hk] at e;obtain rfl:=Ph e;exact (h.get hk).symm.trans r
  | _=>exact nB e
 | int y=>
  cases b with
  | int z=>obtain rfl:y=z:=Pp e;exact r
  | _=>exact nB e
 | str y=>
  cases b with
  | str z=>obtain rfl:=iu e;exact r
  | _=>exact nB e
 | k y=>
  cases b with
  | k z=>obtain rfl:=qQ e;exact r
  | _=>exact nB e
theorem vZ(h:mJ is ρ ρ'){l m:List SV}(e:yI is l m=true)(r:ak (af ρ') l xs):ak (af ρ) m xs:=yH (f:=vW is) (R:=af ρ) (R':=af ρ') (fun U U U e r=>yM h e r) l e r
theorem yN(h:mJ is ρ ρ'){l m:List (Str×SV)}{xs:KV}(e:EZ is l m=true)(r:RF ρ' l xs):RF ρ m xs:=yH (α:=Str×SV) (β:=Str×SV) (γ:=Str×Value) (f:=fun a b=>seq a.1 b.1 && vW is a.2 b.2) (R:=fun p q=>p.1=q.1/\af ρ p.2 q.2) (R':=fun p q=>p.1=q.1/\af ρ' p.2 q.2) (fun U U U e r=>have e:=OW e;⟨(iu e.1).symm.trans r.1,yM h e.2 r.2⟩) l e r
theorem A9(h:mJ is ρ ρ'){j : Nat}(hi:is[i]? =some j){c : aE}(e:uv is c d=true)(f:bK ρ' Z i c):bK ρ Z j d:=by
 cases c with
 | lst x=>
  cases d with
  | lst y=>obtain ⟨a,vs,h1,h2,h3⟩:=f;exact ⟨a,vs,(h.get hi).symm.trans h1,h2,vZ h e h3⟩
  | _=>exact nB e
 | tup x=>
  cases d with
  | tup y=>obtain ⟨a,vs,h1,h2,h3⟩:=f;exact ⟨a,vs,(h.get hi).symm.trans h1,h2,vZ h e h3⟩
  | _=>exact nB e
 | obj C x=>
  cases d with
  | obj D y=>obtain ⟨a,dx,fv,h1,h2,h3,h4⟩:=f;have e:=OW e;obtain rfl:=Ph e.1;exact ⟨a,dx,fv,(h.get hi).symm.trans h1,h2,h3,yN h e.2 h4⟩
  | _=>exact nB e
 | dct x=>
  cases d with
  | dct y=>obtain ⟨a,vs,h1,h2,h3⟩:=f;exact ⟨a,vs,(h.get hi).symm.trans h1,h2,yN h e h3⟩
  | _=>exact nB e
 | _=>exact nB e
theorem ac.put (is:List Nat)(he:mJ is ρ ρ'){fz : List (Nat×aE)}(h:ac ρ' Z fz)(e:yL is fz PJ=true):ac ρ Z PJ:=by
 induction fz generalizing PJ with
 | nil=>cases PJ with
  | nil=>(trivial)
  | cons=>exact nB e
 | cons p l ih=>cases PJ with
  | nil=>exact nB e
  | cons q m=>
  refine oA (OW e) fun e1 e2=>?_;refine ⟨?_,ih h.2 e2⟩;cases hi:is[p.1]? with
  | none=>rw [hi] at e1;exact nB e1
  | some i=>rw [hi] at e1;refine oA (OW e1) fun e3 e4=>?_;obtain rfl:=Ph e3;exact A9 he hi e4 h.1
theorem ac.pt (is:List Nat){fz : List (Nat×aE)}(h:ac ρ' Z fz)(he:autoParam (mJ is ρ ρ') tac13)(e:autoParam (yL is fz PJ=true) tac0):ac ρ Z PJ:=h.put is he e
theorem ac.sl (is:List Nat){fz : List (Nat×aE)}(h:ac ρ Z fz)(he:autoParam (mJ is ρ ρ') tac14)(e:autoParam (rj is fz PJ=true) tac0):ac ρ' Z PJ:=h.sel is he e
theorem Co.fx (sv:SV)(k:Nat)(vs:LV)(is:List Nat)(PJ:List (Nat×aE)){fz:List (Nat×aE)}(hf:ac ρ' Z fz)(g:ae w B O n env (t.nx sv (t.st.ext k PJ)) (ρ++vs) γ Z Q)(hr:autoParam (af (ρ++vs) sv v) tac14)(he:autoParam (mJ is (ρ++vs) ρ') tac13)(e:autoParam (yL is fz PJ=true) tac0)(ho:autoParam (vs.all bA=true) tac4)(hk:autoParam (vs.length=k) tac4):Co w B O env n t ρ γ Z Q v:=.mk sv vs PJ (fun U=>hr) (mu ho) (fun U=>(hf.put is he e).mem) (hk▸g)
theorem xg.opq {i k:Nat}{l:List SL}:∀ {γ:List an} {j g:Nat},xg ρ Z l γ->iV l i=some (j,g,k)->∀ a c,ρ[i]? =some (.ref a)->γ[g]? =some c->Z a=some (vS c):=by
 induction l with
 | nil=>exact fun U h=>nomatch h
 | cons x l ih=>
  intro γ j g f h a c ha hc;cases tA h with
  | here e1 e2 e3=>
   subst e1 e2 e3;cases γ with
   | nil=>exact nS hc
   | cons d γ=>cases hc;refine oA f fun Qs U=>?_;refine bM Qs fun b h1 h2=>?_;rw [ha] at h1;cases h1;exact h2
  | opq j' g' e1 h2 hx e2=>
   subst e1 e2;cases γ with
   | nil=>exact nS hc
   | cons d γ=>
    refine ih ?_ h2 a c ha hc;cases x with
    | own m e=>cases e<;>first | exact f.2 | exact nB hx | exact nT hx
    | _=>exact nB hx
  | oth j' g' e1 h2 hx e2=>
   subst e1 e2;refine ih ?_ h2 a c ha hc;cases x with
   | own m e=>cases e<;>first | exact f.2 | exact nB hx | exact nT hx
   | _=>exact f
def Cm (l:List SL):List (Nat×Nat)->Bool
 | []=>true
 | p::os=>(match jF l p.1 with
  | some g=>Nat.beq g p.2
  | none=>false) && Cm l os
def Cn (ρ:LV)(γ:List an)(Z:a8):List (Nat×Nat)->Prop
 | []=>True
 | p::os=>(∀ a c,ρ[p.1]? =some (.ref a)->γ[p.2]? =some c->Z a=some (vS c))/\Cn ρ γ Z os
theorem xg.os {l:List SL}(f:xg ρ Z l γ){os:List (Nat×Nat)}(h:Cm l os=true):Cn ρ γ Z os:=by
 induction os with
 | nil=>(trivial)
 | cons p os ih=>
  refine oA (OW h) fun h1 h2=>?_;refine ⟨fun a c ha hc=>?_,ih h2⟩;cases e:jF l p.1 with
  | none=>rw [e] at h1;exact nB h1
  | some g=>rw [e] at h1;obtain rfl:=Ph h1;exact f.opq (jG e) a c ha hc
theorem uw {s:bb}{l:List SL}(hf:∀ p∈s.fz,bK ρ Z p.1 p.2)(f:xg ρ Z l γ):ac ρ Z (s.fz++vY l):=.of fun p hp=>(OX hp).elim (hf p) (f.own p)
def qf (t:IT SF)(is:List Nat)(fz:List (Nat×aE))(os:List (Nat×Nat)):Bool×SF:=(t.isRet && (rj is (t.st.fz++vY t.st.led) fz && Cm t.st.led os),t.retA)
def qm (t:IT SF)(is:List Nat)(fz:List (Nat×aE))(os:List (Nat×Nat))(i:Nat):Bool×SF×Option Nat:=(t.isRet && (rj is (t.st.fz++vY (t.st.led.eraseIdx (fy t.st.led i))) fz && Cm (t.st.led.eraseIdx (fy t.st.led i)) os),(t.retA,jF t.st.led i))
def qn (t:IT SF)(is:List Nat)(fz:List (Nat×aE))(os:List (Nat×Nat))(i j:Nat):Bool×SF×Option Nat×Option Nat:=(t.isRet && (rj is (t.st.fz++vY ((t.st.led.eraseIdx (fy t.st.led i)).eraseIdx (fy (t.st.led.eraseIdx (fy t.st.led i)) j))) fz && Cm ((t.st.led.eraseIdx (fy t.st.led i)).eraseIdx (fy (t.st.led.eraseIdx (fy t.st.led i)) j)) os),(t.retA,(jF t.st.led i,jF (t.st.led.eraseIdx (fy t.st.led i)) j)))
theorem ae.finO {t:IT SF}{P:a8->Value->Prop}(a:SF)(is:List Nat)(fz:List (Nat×aE))(os:List (Nat×Nat))(p:∀ Zs v,Z.le Zs->ac ρ' Zs fz->Cn ρ γ Zs os->ut ρ a v->P Zs v)
  (Py:autoParam (qf t is fz os=(true,a)) tac0) (hs:autoParam (mJ is ρ ρ') tac13):ae w B O n env t ρ γ Z (xh P):=
 have h0:=OW (ff Py);have ha:=h0.1;have he:=(Pc Py).2;have e:=(OW h0.2).1;have eo:=(OW h0.2).2
 ae.retS ha fun Zs v l hf hF r=>p Zs v l ((uw hf hF).sel is hs e) (hF.os eo) (he▸r)
def yO (i:Nat)(a:Addr)(P:a8->Value->an->Prop):QQ SF:=fun sf s ρ γ Z=>ρ[i]? =some (.ref a)/\Mw i P sf s ρ γ Z
def yP (i j:Nat)(a b:Addr)(P:a8->Value->an->an->Prop):QQ SF:=fun sf s ρ γ Z=>(ρ[i]? =some (.ref a)/\ρ[j]? =some (.ref b))/\Gf i j P sf s ρ γ Z
theorem ae.finM {t:IT SF}{P:a8->Value->an->Prop}(g:Nat)(a:SF)(is:List Nat)(fz:List (Nat×aE))(os:List (Nat×Nat))(p:∀ Zs v,Z.le Zs->ac ρ' Zs fz->Cn ρ (γ.eraseIdx g) Zs os->ut ρ a v->P Zs v c)(hc:autoParam (γ[g]? =some c) tac10)
  (Py:autoParam (qm t is fz os i=(true,(a,some g))) tac0) (hs:autoParam (mJ is ρ ρ') tac13) (hb:autoParam (ρ[i]? =some (.ref b)) tac10):ae w B O n env t ρ γ Z (yO i b P):=
 have h0:=OW (ff Py);have ha:=h0.1;have he:=(Pc (Pc Py).2).1;have hg:=(Pc (Pc Py).2).2;have e:=(OW h0.2).1;have eo:=(OW h0.2).2
 ae.retS ha (jv hb g c hg hc (fun Zs v l hf hF r=>p Zs v l ((uw hf hF).sel is hs e) (hF.os eo) (he▸r)))
theorem ae.finM2 {t:IT SF}{P:a8->Value->an->an->Prop}{j : Nat}{b2 : Addr}(g g2:Nat){d : an}(a:SF)(is:List Nat)(fz:List (Nat×aE))(os:List (Nat×Nat))(p:∀ Zs v,Z.le Zs->ac ρ' Zs fz->Cn ρ ((γ.eraseIdx g).eraseIdx g2) Zs os->ut ρ a v->P Zs v c d)(hc:autoParam (γ[g]? =some c) tac10)(hd:autoParam ((γ.eraseIdx g)[g2]? =some d) tac10)
  (Py:autoParam (qn t is fz os i j=(true,(a,(some g,some g2)))) tac0) (hs:autoParam (mJ is ρ ρ') tac13) (hb:autoParam (ρ[i]? =some (.ref b)) tac10) (Rj:autoParam (ρ[j]? =some (.ref b2)) tac10):ae w B O n env t ρ γ Z (yP i j b b2 P):=
 have h0:=OW (ff Py);have ha:=h0.1;have he:=(Pc (Pc Py).2).1;have hg:=(Pc (Pc (Pc Py).2).2).1;have Wf:=(Pc (Pc (Pc Py).2).2).2;have e:=(OW h0.2).1;have eo:=(OW h0.2).2
 ae.retS ha ⟨⟨hb,Rj⟩,g,g2,c,d,hg,hc,Wf,hd,fun Zs v l hf hF r=>p Zs v l ((uw hf hF).sel is hs e) (hF.os eo) (he▸r)⟩
theorem kx{k : Nat}{fz:List (Nat×aE)}{P:a8->Value->an->Prop}(ρ:LV)(b:Bool)(i kd:Nat)(D:bU w.params P9 f k)(hf:ac ρ Z fz)
  (g:∀ B O L Z1,Z.le Z1->ae w B O (n+2) (callEnvC P9 L f) ((ex (fi P9 b) 60).ss (uQ P9) (start P9 PD [.own i (.opq kd)] fz N)) ρ [c] Z1 (yO i a P))
  (RZ:ak (af ρ) PD vals) (hk:autoParam (vals.length=k) tac4) (hρ:autoParam (ρ.all bA=true) tac4) (hN:autoParam (ρ.length=N) tac4) (hi:autoParam (ρ[i]? =some (.ref a)) tac4) (R8:autoParam (ww kd c=true) tac4):yF w (n+3) (call (.ref f) vals) a c P Z:=Ho b D RZ hk (mu hρ) hf.mem hN hi R8 g
theorem fA{k : Nat}{fz:List (Nat×aE)}{P:a8->Value->an->an->Prop}{a2 : Addr}{c2 : an}(ρ:LV)(b:Bool)(i j kd UI:Nat)(D:bU w.params P9 f k)(hf:ac ρ Z fz)
  (g:∀ B O L Z1,Z.le Z1->ae w B O (n+2) (callEnvC P9 L f) ((ex (fi P9 b) 60).ss (uQ P9) (start P9 PD [.own i (.opq kd),.own j (.opq UI)] fz N)) ρ [c,c2] Z1 (yP i j a a2 P))
  (RZ:ak (af ρ) PD vals) (hk:autoParam (vals.length=k) tac4) (hρ:autoParam (ρ.all bA=true) tac4) (hN:autoParam (ρ.length=N) tac4) (hi:autoParam (ρ[i]? =some (.ref a)) tac4) (hj:autoParam (ρ[j]? =some (.ref a2)) tac4) (R8:autoParam ((ww kd c && ww UI c2)=true) tac4):r9 w (n+3) (call (.ref f) vals) a a2 c c2 P Z:=Hp b D RZ hk (mu hρ) hf.mem hN hi hj R8 g
noncomputable def bb.zip5 (s:bb):bb:={s with led:=.own s.nv (.opq 0)::.own (s.nv+1) (.opq 0)::.own (s.nv+2) (.opq 0)::.own (s.nv+3) (.opq 0)::.own (s.nv+4) (.opq 0)::s.led,nv:=s.nv+5}
noncomputable def bb.unz (s:bb):bb:={s with led:=.own s.nv (.opq 2)::s.led.drop 5,nv:=s.nv+1}
theorem St.ne_z {w:World}{B:Heap}{O:aP}{Z:a8}{led:dy}{h:Heap}{x : an}(S:St w B O Z led h)(e:led[i]? =some (a,c))(z:Z b=some x):a≠b:=fun r=>by subst r;have:=(S.cells _ (bx e)).2.1;rw [z] at this;exact nO this
theorem ae.zip {a b:Addr}{xs ys:LV}(ha:fk w B O env t.st ρ γ Z a (.lst xs))(hb:fk w B O env t.st ρ γ Z b (.lst ys))
  (g:∀ z TI TO i1 i2:Addr,ae w B O n env (t.nx (.v t.st.nv) t.st.zip5) (ρ++[.ref z,.ref TI,.ref TO,.ref i1,.ref i2]) (.obj (fV .none false TI TO)::.obj (eu (.ref i1) (.ref i2))::.obj (eu .none .none)::.lit a 0::.lit b 0::γ) Z Q)
  (Py:autoParam (qa t ρ=ra .call (fun tk=>[.type "zip",.ref a,.ref b])) tac0):ae w B O n env t ρ γ Z Q:=
 ae.askT (vs:=fun U=>[.type "zip",.ref a,.ref b]) (ff Py) (pQ Py) fun tk T h Zs ms R l H=>LN H.st (ha T h Zs ms R l H) (hb T h Zs ms R l H) fun z TI TO i1 i2 h' S2=>by
  have e:∀ i x,[Value.ref z,.ref TI,.ref TO,.ref i1,.ref i2][i]? =some x->(ρ++[Value.ref z,.ref TI,.ref TO,.ref i1,.ref i2])[t.st.nv+i]? =some x:=fun i x hx=>by rw [<- H.ln,List.getElem?_append_right (Pq _ _),Nat.add_sub_cancel_left];exact hx
  exact ⟨Z,Zs,(z,_)::(TI,_)::(TO,_)::(i1,_)::(i2,_)::R,t.st.zip5.led,.v t.st.nv,[.ref z,.ref TI,.ref TO,.ref i1,.ref i2],[],l,.refl _,S2,(qC (.mkOpq (e 0 _ rfl) rfl) (.mkOpq (e 1 _ rfl) rfl) (.mkOpq (e 2 _ rfl) rfl) (.mkOpq (e 3 _ rfl) rfl) (.mkOpq (e 4 _ rfl) rfl) (kt _ H.re)),e 0 _ rfl,mu rfl,(fun U h=>nomatch h),by
   show ae w B O n env _ _ (_::_::_::_::_::cont t.st.led R) Z Q;rw [H.co];exact g z TI TO i1 i2⟩
inductive O8 (env:Env)(ρ:LV)(l:List SL)(R:dy)(z TI TO i1 i2:Addr)(c0 c1 c2 c3 c4:an)(γ:List an):Prop
 | mk (R':dy) (e:R=(z,c0)::(TI,c1)::(TO,c2)::(i1,c3)::(i2,c4)::R') (re:ak (RE env ρ) (l.drop 5) R') (co:cont (l.drop 5) R'=γ)
theorem nq{R:dy}{z:Addr}{c0:an}{δ:List an}{P:Prop}(r:ak (RE env ρ) (.own k0 (.opq 0)::L) R)(co:cont (.own k0 (.opq 0)::L) R=c0::δ)(h0:ρ[k0]? =some (.ref z))(k:∀ R',R=(z,c0)::R'->ak (RE env ρ) L R'->cont L R'=δ->P):P:=by obtain ⟨⟨a0,d0⟩,R,rfl,q0,r⟩:=r.cons_r;cases Value.ref.inj (Pd (q0.1.symm.trans h0));cases (List.cons.inj co).1;exact k R rfl r (List.cons.inj co).2
theorem F1 {l : List SL}{R:dy}{k1 k2 k3 k4 : Nat}{z TI TO i1 i2:Addr}{c0 c1 c2 c3 c4:an}(hl:l=.own k0 (.opq 0)::.own k1 (.opq 0)::.own k2 (.opq 0)::.own k3 (.opq 0)::.own k4 (.opq 0)::L)(r:ak (RE env ρ) l R)(co:cont l R=c0::c1::c2::c3::c4::γ)
  (h0:ρ[k0]? =some (.ref z)) (h1:ρ[k1]? =some (.ref TI)) (h2:ρ[k2]? =some (.ref TO)) (h3:ρ[k3]? =some (.ref i1)) (h4:ρ[k4]? =some (.ref i2)):O8 env ρ l R z TI TO i1 i2 c0 c1 c2 c3 c4 γ:=by subst hl;exact nq r co h0 fun U e r co=>nq r co h1 fun U e1 r co=>nq r co h2 fun U e2 r co=>nq r co h3 fun U e3 r co=>nq r co h4 fun R e4 r co=>⟨R,by rw [e,e1,e2,e3,e4],r,co⟩
theorem ae.dictZ {z TI TO i1 i2 : Addr}{x y:Str}{tx ty:Tok}{u : Value}(k0:Nat)(ha:fk w B O env t.st ρ (.obj (fV .none false TI TO)::.obj (eu (.ref i1) (.ref i2))::.obj (eu .none .none)::.lit a 0::.lit b 0::γ) Z a (.lst [.str x tx,.str y ty]))(hb:fk w B O env t.st ρ (.obj (fV .none false TI TO)::.obj (eu (.ref i1) (.ref i2))::.obj (eu .none .none)::.lit a 0::.lit b 0::γ) Z b (.lst [u,v]))
  (g:∀ d:Addr,ae w B O n env (t.nx (.v t.st.nv) t.st.unz) (sn ρ (.ref d)) (.dct (merged [] [(x,u),(y,v)])::γ) Z Q)
  (Py:autoParam (((t.qop,t.st.led),fun tk=>eO ρ tk 0 t.args)=((some .call,.own k0 (.opq 0)::.own (k0+1) (.opq 0)::.own (k0+2) (.opq 0)::.own (k0+3) (.opq 0)::.own (k0+4) (.opq 0)::t.st.led.drop 5),fun tk=>some [.type "dict",.ref z])) tac0)
  (h0:autoParam (ρ[k0]? =some (.ref z)) tac10) (h1:autoParam (ρ[k0+1]? =some (.ref TI)) tac10) (h2:autoParam (ρ[k0+2]? =some (.ref TO)) tac10) (h3:autoParam (ρ[k0+3]? =some (.ref i1)) tac10) (h4:autoParam (ρ[k0+4]? =some (.ref i2)) tac10):ae w B O n env t ρ (.obj (fV .none false TI TO)::.obj (eu (.ref i1) (.ref i2))::.obj (eu .none .none)::.lit a 0::.lit b 0::γ) Z Q:=
 ae.askT (vs:=fun U=>[.type "dict",.ref z]) (ff (ff Py)) (pQ Py) fun tk T h Zs ms R l H=>by
  have hl:=(Pc (ff Py)).2;obtain ⟨R',rfl,re,co⟩:=F1 hl H.re H.co h0 h1 h2 h3 h4;refine En (S:=H.st) (ha T h Zs ms _ l H) (hb T h Zs ms _ l H) fun d h' S2=>?_
  exact ⟨Z,Zs,(d,_)::R',t.st.unz.led,.v t.st.nv,[.ref d],[],l,.refl _,S2,⟨.mkOpq (cG H.ln) rfl,kt _ re⟩,cG H.ln,DO rfl,(fun U h=>nomatch h),by
   show ae w B O n env _ _ (_::cont (t.st.led.drop 5) R') Z Q;rw [co];exact g d⟩
theorem ae.update {d o:Addr}{P7 more:KV}(i g:Nat)(ho:Z o=some (.dct more))(hz:P7.length+more.length<=1000)(k:ae w B O n env (t.nk (.k .none)) ρ (γ.set g (.dct (merged P7 more))) Z Q)(hc:autoParam (γ[g]? =some (.dct P7)) tac10)(ha:autoParam (ρ[i]? =some (.ref d)) tac10)
  (Py:autoParam (qo t ρ i=ro 2 g (fun tk=>[.builtin "dict.update",.ref d,.ref o])) tac0):ae w B O n env t ρ γ Z Q:=
 ae.askT (vs:=fun U=>[.builtin "dict.update",.ref d,.ref o]) (ff (ff Py)) (pQ Py) fun tk T h Zs ms R l H=>by
  have hp:=(Pc (Pc (ff Py)).2).2;have hk:=(Pc (Pc (ff Py)).2).1;obtain ⟨h1,h2,h3,_⟩:=H.opq hp ha hc;refine Bg H.st h1 (H.st.z (l _ _ ho)) (H.st.ne_z h1 (l _ _ ho)) hz fun h' S2=>?_;rw [ku h2] at S2;obtain ⟨e1,e2⟩:=h3 (.dct (merged P7 more)) (by rw [hk];rfl)
  exact (Co.k (.k .none) rfl (e2▸k:ae w B O n env _ ρ (cont t.st.led _) Z Q):Co w B O env n t ρ _ Z Q .none) |> fun c=>by obtain ⟨sv,vs,fz,hr,ho,hf,g⟩:=c;exact ⟨Z,Zs,_,t.st.led,sv,vs,fz,l,.refl _,S2,kt vs e1,hr H.ln,ho,(fun p hp=>(hf H.ln p hp).ext (.refl _) l),g⟩
noncomputable def SV.lt (n:Nat):SV->Bool
 | .v i=>Nat.blt i n
 | _=>true
noncomputable def Nk (n:Nat):Option SV->Bool
 | some a=>a.lt n
 | none=>true
def SL.lt (n:Nat):SL->Bool
 | .own i (.lst xs)=>Nat.blt i n && xs.all (SV.lt n)
 | .own i (.dct P7)=>Nat.blt i n && P7.all fun p=>p.2.lt n
 | .own i (.opq _)=>Nat.blt i n
 | .cel _ v=>Nk n v
 | .oth=>true
 | _=>false
def Cp (n:Nat)(s:bb):Bool:=s.loc.all (fun p=>Nk n p.2) && s.led.all (SL.lt n)
theorem iY.back(e:iY ρ ρ')(h:Nat.blt i ρ.length=true):ρ[i]? =ρ'[i]? :=by refine oE e fun x PL=>?_;clear e;subst PL;exact (List.getElem?_append_left (Pf h)).symm
theorem af.back (e:iY ρ ρ'){a:SV}{x:Value}(h:a.lt ρ.length=true)(r:af ρ' a x):af ρ a x:=by
 cases a with
 | v i=>exact (e.back h).trans r
 | _=>exact r
theorem RL.back (e:iY ρ ρ'):∀ {l:List SV} {m:LV},l.all (SV.lt ρ.length)=true->ak (af ρ') l m->ak (af ρ) l m
 | [],[],_,_=>OU
 | a::l,b::m,h,r=>by rw [List.all_cons,Bool.and_eq_true] at h;exact ⟨r.1.back e h.1,RL.back e h.2 r.2⟩
 | [],_::_,_,r=>r.elim
 | _::_,[],_,r=>r.elim
theorem ak.back {α : Type}{R R':α->β->Prop}{q:α->Bool}(f:∀ {a b},q a=true->R' a b->R a b){l:List α}{m:List β}(h:l.all q=true)(r:ak R' l m):ak R l m:=r.ind (M:=fun l m=>l.all q=true->ak R l m) (fun U=>OU) (fun r U ih h=>oA (OW h) fun h1 h2=>⟨f h1 r,ih h2⟩) h
theorem RF.back (e:iY ρ ρ'){l:List (Str×SV)}{m:KV}(h:l.all (fun p=>p.2.lt ρ.length)=true)(r:RF ρ' l m):RF ρ l m:=ak.back (fun h r=>⟨r.1,r.2.back e h⟩) h r
theorem RO.back (e:iY ρ ρ'){o:Option SV}{u:Option Value}(h:Nk ρ.length o=true)(r:RO ρ' o u):RO ρ o u:=by
 cases o with
 | none=>(trivial)
 | some a=>
  cases u with
  | none=>exact r.elim
  | some b=>exact af.back e h r
theorem RM.back (e:iY ρ ρ'){l:List (Str×Option SV)}{m:List (Str×Option Value)}(h:l.all (fun p=>Nk ρ.length p.2)=true)(r:RM ρ' l m):RM ρ l m:=ak.back (fun h r=>⟨r.1,r.2.back e h⟩) h r
theorem RE.back (e:iY ρ ρ'){a:SL}{p:Addr×an}(h:a.lt ρ.length=true)(r:RE env ρ' a p):RE env ρ a p:=by
 cases a with
 | own i c=>
  cases c with
  | lst xs=>refine oA (OW h) fun h1 h2=>?_;refine kM r fun r1 vs r2 r3=>?_;clear r;exact mU ((e.back h1).trans r1) vs r2 (RL.back e h2 r3)
  | dct xs=>refine oA (OW h) fun h1 h2=>?_;refine kM r fun r1 vs r2 r3=>?_;clear r;exact mU ((e.back h1).trans r1) vs r2 (RF.back e h2 r3)
  | opq k=>exact ⟨(e.back h).trans r.1,r.2⟩
  | _=>exact nB h
 | cel x v=>exact ⟨r.1,r.2.imp fun U q=>⟨q.1,q.2.back e h⟩⟩
 | oth=>(trivial)
theorem REs.back (e:iY ρ ρ'){l:List SL}{R:dy}(h:l.all (SL.lt ρ.length)=true)(r:ak (RE env ρ') l R):ak (RE env ρ) l R:=ak.back (fun h r=>r.back e h) h r
noncomputable def iZ:List SL->Nat
 | []=>0
 | x::l=>cond x.isOpq (iZ l+1) (iZ l)
theorem Aa {k:Nat}{l:List SL}{R:dy}(r:ak (RE env ρ) l R):cont (l.drop k) (R.drop k)=(cont l R).drop (iZ (l.take k)):=
 r.ind (M:=fun l R=>∀ k,cont (l.drop k) (R.drop k)=(cont l R).drop (iZ (l.take k))) (fun k=>by cases k<;>rfl) (fun {x p l R} _ _ ih k=>by
  cases k with
  | zero=>rfl
  | succ k=>refine (ih k).trans ?_;show _=List.drop (cond x.isOpq _ _) (cond x.isOpq _ _);cases x.isOpq<;>rfl) k
theorem Gh {x:SL}{p:Addr×an}{l m : List SL}{R' R:dy}(e:cont L R'=(cont l R).take (iZ m)++c::(cont l R).drop (iZ m)):cont (x::L) (p::R')=(cont (x::l) (p::R)).take (iZ (x::m))++c::(cont (x::l) (p::R)).drop (iZ (x::m)):=by show cond x.isOpq _ _=List.take (cond x.isOpq _ _) (cond x.isOpq _ _)++c::List.drop (cond x.isOpq _ _) (cond x.isOpq _ _);rw [e];cases x.isOpq<;>rfl
end
local macro_rules |`(tactic|symm)=>`(tactic|simp only [List.length_cons,List.length_nil])
structure F2 (Hd:bb)(j:Nat)(x:Str)(ρ:LV)(J:List an->a8->Prop)(s:bb)(ρ':LV)(γ':List an)(Z':a8):Prop where
 ext:ρ'.take ρ.length=ρ
 nm:(s.loc[j]?).map (·.1)=some x
 at':∃ k,s.led.drop k=Hd.led/\s.loc.set j (x,none)=Hd.loc/\J (γ'.drop (iZ (s.led.take k))) Z'
section
variable {w:World}{n m:Nat}{Z:a8}{B:Heap}{O:aP}{env:Env}{ρ ρ':LV}{γ:List an}{α:Type}{T:dy}{h:Heap}
variable {led R : dy} {Z' Z0 : a8} {ρ0 xs ks cs Qb Qk RD : LV} {P9 : FuncData} {t1 t0 : Tok} {PF : a8->Value->Prop} {e2 QV m0 f0 p0 q0 QB m1 f1 p1 q1 m2 f2 p2 b0 b1 v2 l2 bl C1 C0 : Addr} {x2 x0 x1 : Str} {cc ib i0 i1 i2 s2 s1 s0 : Nat} {base Pw : KV} {Ql Rd ns : List (Str×Tok)} {arg : Value} {o2 o0 o1 : Option Str} {fb Rf Ss Rg R0 R1 : List Str}
theorem RM.setN {x:Str}{l:List (Str×Option SV)}{m:List (Str×Option Value)}{j:Nat}(r:RM ρ l m)(h:(l[j]?).map (·.1)=some x):RM ρ (l.set j (x,none)) m:=
 ak.ind (M:=fun l m=>∀ j,(l[j]?).map (·.1)=some x->RM ρ (l.set j (x,none)) m) r (fun U U=>OU) (fun {a b l m} r t ih j h=>by cases j with
  | zero=>exact ⟨⟨(Pd h).symm.trans r.1,OU⟩,t⟩
  | succ j=>exact ⟨r,ih j h⟩) j h
theorem St.subl {PM : dy}(S:St w B O Z led h)(s:PM.Sublist led):St w B O Z PM h:=⟨S.base,S.keepB,S.sub,fun p hp=>S.cells p (s.subset hp),S.nd.sublist (s.map _),S.hist⟩
theorem F2.sat {Hd s:bb}{j:Nat}{x:Str}{J:List an->a8->Prop}{γ':List an}{UM : a8}(b:F2 Hd j x ρ J s ρ' γ' Z')(S:bL w B O T env s ρ' γ' Z' h)(hn:ρ.length=Hd.nv)(hl:Cp Hd.nv Hd=true)(hf:∀ p∈Hd.fz,bK ρ UM p.1 p.2)(l0:UM.le Z'):∃ γ,J γ Z'/\bL w B O T env Hd ρ γ Z' h:=by
 obtain ⟨hx,U9,k,h1,h2,h3⟩:=b;have e:iY ρ ρ':=⟨ρ'.drop ρ.length,by conv=>lhs;rw [<- List.take_append_drop ρ.length ρ',hx]⟩
 refine oA (OW hl) fun PY Qh=>?_;rw [<- hn] at PY Qh;refine S.elim fun Zs ms R l Pz hm hR hc YS=>bw _ h3 ⟨hn,fun y hy=>S.ok y (e.elim fun z hz=>hz▸List.mem_append_left _ hy),Zs,ms,R.drop k,l,Pz.subl ((List.Sublist.append (List.drop_sublist k R) (.refl T)).cons_cons _),?_,?_,?_,fun p hp=>(hf p hp).ext (.refl _) (l0.trans l)⟩
 ·refine RM.back e PY ?_;exact h2▸hm.setN U9
 ·exact REs.back e Qh (h1▸hR.drop k)
 ·rw [<- hc,<- Aa hR,h1]
noncomputable def bb.hd (x:Str)(j:Nat)(s:bb):bb:={s with loc:=s.loc.set j (x,none)}
noncomputable def bb.bd (x:Str)(j:Nat)(s:bb):bb:={s with loc:=s.loc.set j (x,some (.v s.nv)),nv:=s.nv+1}
noncomputable def Cq (Hd:bb)(j:Nat)(x:Str)(ρ:LV)(J:List an->a8->Prop)(Z0:a8):QQ SF:=fun sf s ρ' γ' Z'=>(sf=.next\/sf=.cont)/\Z0.le Z'/\F2 Hd j x ρ J s ρ' γ' Z'
inductive MD (w:World)(B:Heap)(O:aP)(T:dy)(env:Env)(Hd:bb)(it la:Addr)(N:Nat)(ρ:LV)(J:Nat->List an->a8->Prop)(UM:a8)(k:Nat)(h:Heap):Prop
 | mk (i:Nat) (γ:List an) (Z:a8) (hi:i+k=N) (l:UM.le Z) (j:J i γ Z) (S:bL w B O ((it,.lit la i)::T) env Hd ρ γ Z h)
def IT.nmL:IT α->Str
 | .askL (.Name x _) _ _ _ _=>x
 | _=>am
noncomputable def IT.posL:IT α->Pos
 | .askL (.Name _ p) _ _ _ _=>p
 | _=>default
inductive Cr (w:World)(B:Heap)(O:aP)(n:Nat)(env:Env)(F:FI)(body:List Stmt)(s:bb)(ρ:LV)(γ:List an)(Z:a8)(Q:QQ SF):Prop
 | pl (g:ae w B O n env ((ex F 40).ss body s) ρ γ Z Q)
 | mk (vs:LV) (fz:List (Nat×aE)) (ho:vs.all bA=true) (hf:∀ p∈fz,bK (ρ++vs) Z p.1 p.2) (g:ae w B O n env ((ex F 40).ss body (s.ext vs.length fz)) (ρ++vs) γ Z Q)
theorem Cr.run {F:FI}{body:List Stmt}{s:bb}{Q:QQ SF}(b:Cr w B O (n+2) env F body s ρ γ Z Q)(E:bS env F)(S:bL w B O T env s ρ γ Z h):W PW w (n+2) (execs body env) (eD w B O T env oR Q ρ) h:=by
 cases b with
 | pl g=>exact (A6 E 40).ss g.run S
 | mk vs fz ho hf g=>
  refine ((A6 E 40).ss g.run (S.elim fun Zs ms R l Pz hm hR hc YS=>⟨by rw [List.length_append,S.len];rfl,fun x hx=>(OX hx).elim (S.ok x) (mu ho x),Zs,ms,R,l,Pz,hm.ext ⟨_,rfl⟩,kt vs hR,hc,fun p hp=>?_⟩:bL w B O T env (s.ext vs.length fz) (ρ++vs) γ Z h)).mono fun U U x=>x.ext ⟨_,rfl⟩;rcases OX hp with hp | hp
  ·exact (hf p hp).ext (.refl _) l
  ·exact (YS p hp).ext ⟨_,rfl⟩ (.refl _)
theorem ae.forL {t:IT SF}{Q:QQ SF}(F:FI)(E:bS env F)(j:Nat)(la:Addr)(xs:LV)(J:Nat->List an->a8->Prop)(ha:Z la=some (.lst xs))(hk:∀ a∈xs,bA a=true)(j0:∀ Z',Z.le Z'->J 0 γ Z')
  (step:∀ i v γ' Z',xs[i]? =some v->Z.le Z'->J i γ' Z'->Cr w B O (n+2) env F t.bdL ((t.st.hd t.nmL j).bd t.nmL j) (ρ++[v]) γ' Z' (Cq (t.st.hd t.nmL j) j t.nmL ρ (J (i+1)) Z'))
  (fin:∀ γ' Z',Z.le Z'->J xs.length γ' Z'->ae w B O (n+2) env (t.nxS .next (t.st.hd t.nmL j)) ρ γ' Z' Q)
  (Py:autoParam (((t.isL && Cp t.st.nv (t.st.hd t.nmL j),(t.tgL,(look F.names t.nmL,(A0 (t.st.hd t.nmL j).loc t.nmL,(t.st.loc[j]?).map (·.1))))),fun tk=>eO ρ tk 0 t.args)=((true,(.Name t.nmL t.posL,(some .local,(some j,some t.nmL)))),fun tk=>some [.ref la])) tac0):ae w B O (n+2) env t ρ γ Z Q:=by
 have hv:=pQ Py;refine oA (Pc (ff Py)) fun h1 h2=>?_;refine oA (OW h1) fun hq Rx=>?_;refine oA (Pc h2) fun ht h2=>?_;refine oA (Pc h2) fun hl h2=>?_;refine oA (Pc h2) fun hj hn=>?_;clear Py h1 h2;refine .ofL hq fun T h v S r=>?_;rw [ht];refine oE (vT r hv) fun tk e=>?_;cases e;refine S.here fun Zs ms R l H=>pG H.st (H.st.z (l _ _ ha)) fun it h1 Pz=>?_;have hfz:=H.fz;have S0:bL w B O ((it,.lit la 0)::T) env (t.st.hd t.nmL j) ρ γ Zs h1:=⟨H.ln,H.ok,Zs,ms,R,.refl _,Pz.unmid,H.rm.setN hn,H.re,H.co,H.fz⟩
 refine yl (MD w B O T env (t.st.hd t.nmL j) it la xs.length ρ J Zs) (fun k2 h2 hI=>?_) xs.length ⟨0,γ,Zs,by lia,.refl _,j0 Zs l,S0⟩ rfl;obtain ⟨i,γ2,Z2,hi,l2,jj,S2⟩:=hI;refine S2.elim fun Tz R1 R2 l3 PE R4 RG Rc SR=>?_;have Vm:ci w h2 la (.lst xs):=PE.z ((l.trans (l2.trans l3)) _ _ ha);cases k2 with
 | zero=>refine wR PE.mid Vm (List.getElem?_eq_none (by lia)) fun h3 Q0=>dq ?_;exact ⟨.next,t.st.hd t.nmL j,ρ,γ2,Z2,.refl _,OU,⟨S2.len,S2.ok,Tz,R1,R2,l3,Q0,R4,RG,Rc,SR⟩,fin γ2 Z2 (l.trans l2) ((show i=xs.length by lia)▸jj)⟩
 | succ k2=>
  obtain ⟨v,Rm⟩:∃ v,xs[i]? =some v:=⟨_,List.getElem?_eq_getElem (aJ (Nat.le_of_eq hi))⟩
  refine uf PE.mid Vm Rm fun h3 Q0=>⟨⟨it,la,i+1,.inl ⟨rfl,Q0.get 1 rfl⟩⟩,?_⟩
  have Xj:=hk v (Pn Rm)
  have S3:bL w B O ((it,.lit la (i+1))::T) env {t.st.hd t.nmL j with nv:=t.st.nv+1} (ρ++[v]) γ2 Z2 h3:=⟨by rw [List.length_append,S2.len];rfl,fun y hy=>(OX hy).elim (S2.ok y) (DO Xj y),Tz,R1,R2,l3,Q0.unmid,R4.ext (.one _ _),kt _ RG,Rc,fun p hp=>(SR p hp).ext (.one _ _) (.refl _)⟩
  refine oo E (a:=.v t.st.nv) (s:={t.st.hd t.nmL j with nv:=t.st.nv+1}) hl hj S3 (cG S2.len) fun U h4 S4=>?_;refine ((step i v _ _ Rm (l.trans l2) jj).run E S4).mono fun fl h5 o5=>?_;obtain ⟨f,s5,ρ5,γ5,Z5,e5,r5,S5,Tf,l5,bk⟩:=o5;refine bM (bk.sat S5 S2.len Rx hfz (l2.trans l5)) fun γ6 j6 S6=>?_;have Ua:∃ m,m < k2+1/\MD w B O T env (t.st.hd t.nmL j) it la xs.length ρ J Zs m h5:=⟨k2,Nat.lt_succ_self _,i+1,γ6,Z5,by lia,l2.trans l5,j6,S6⟩
  rcases Tf with rfl | rfl<;>cases fl<;>first | exact (r5:False).elim | exact Ua
theorem ae.turn {t:IT SF}{Hd:bb}{j:Nat}{x:Str}{J:List an->a8->Prop}(k q:Nat)(hJ:J (γ.drop q) Z)(l:Z0.le Z)(Py:autoParam ((t.isRet,(t.retA,(t.st.led.drop k,(iZ (t.st.led.take k),(t.st.loc.set j (x,none),(t.st.loc[j]?).map (·.1))))))=(true,(.next,(Hd.led,(q,(Hd.loc,some x)))))) tac0)(hx:autoParam (ρ.take ρ0.length=ρ0) tac0):ae w B O n env t ρ γ Z (Cq Hd j x ρ0 J Z0):=
 have h1:=Pc Py;have h2:=Pc h1.2;have h3:=Pc h2.2;have h4:=Pc h3.2;have h5:=Pc h4.2
 ae.retS h1.1 (cF (.inl h2.1) l ⟨hx,h5.2,k,h3.1,h5.1,h4.1▸hJ⟩)
variable {t:IT α}{Q:QQ α}
inductive O9 (w:World)(B:Heap)(O:aP)(T:dy)(env:Env)(Hd:bb)(it la D:Addr)(fr:Addr×an)(N:Nat)(ρ:LV)(γ:List an)(UM:a8)(k:Nat)(h:Heap):Prop
 | mk (i:Nat) (Z:a8) (hi:i+k=N) (l:UM.le Z) (S:bL w B O ((it,.lit la i)::(D,.pls [])::fr::T) env Hd ρ γ Z h)
noncomputable def Cs (Hd:bb)(j:Nat)(x:Str)(ρ:LV)(γ:List an)(Z0:a8):QQ Bool:=fun b s ρ' γ' Z'=>b=false/\Z0.le Z'/\F2 Hd j x ρ (fun g U=>g=γ) s ρ' γ' Z'
noncomputable def xk:Expr->Str
 | .Name x _=>x
 | _=>⟨⟨[]⟩⟩
noncomputable def Gi:Expr->Pos
 | .Name _ p=>p
 | _=>default
noncomputable def Oa (d:Expr):List Expr->Expr
 | a::_=>a
 | []=>d
theorem Ab {scope:Scope}{F:FI}{elt iter c:Expr}{x:Str}{tp pos:Pos}{it la D:Addr}{fr:Addr×an}{j:Nat}{s:bb}{Rr:Heap->Prop}(E:bS env F)(hs:s.loc.set j (x,none)=s.loc)
  (ha:Z la=some (.lst xs)) (hk:∀ a∈xs,bA a=true) (hl:look F.names x=some .local) (hj:A0 s.loc x=some j) (Rx:Cp s.nv s=true) (S:bL w B O ((it,.lit la 0)::(D,.pls [])::fr::T) env s ρ γ Z h) (hf:∀ p∈s.fz,bK ρ Z p.1 p.2)
  (step:∀ (i:Nat) v Z',xs[i]? =some v->Z.le Z'->ae w B O (n+2) env ((ev F 40).t c (s.bd x j)) (ρ++[v]) γ Z' (Cs s j x ρ γ Z'))
  (fin:∀ Z' h',Z.le Z'->bL w B O ((D,.pls [])::fr::T) env s ρ γ Z' h'->Rr h'):
  C PW w (n+2) (.compLoop (.ListComp elt [⟨.Name x tp,iter,[c],0⟩] scope pos) 0 (.ref it) (.ref D) env) (fun U h'=>Rr h') h:=by
 refine Bh (O9 w B O T env s it la D fr xs.length ρ γ Z) (fun k2 h2 hI=>?_) xs.length ⟨0,Z,by lia,.refl _,S⟩ rfl (Pm 1);obtain ⟨i,Z2,hi,l2,S2⟩:=hI;refine S2.elim fun Tz R1 R2 l3 PE R4 RG Rc SR=>?_;have Vm:ci w h2 la (.lst xs):=PE.z ((l2.trans l3) _ _ ha);cases k2 with
 | zero=>exact wR PE.mid Vm (List.getElem?_eq_none (by lia)) fun h3 Q0=>fin Z2 h3 l2 ⟨S2.len,S2.ok,Tz,R1,R2,l3,Q0,R4,RG,Rc,SR⟩
 | succ k2=>
  obtain ⟨v,Rm⟩:∃ v,xs[i]? =some v:=⟨_,List.getElem?_eq_getElem (aJ (Nat.le_of_eq hi))⟩
  refine uf PE.mid Vm Rm fun h3 Q0=>⟨(qB it la (i+1) (.inl ⟨rfl,Q0.get 1 rfl⟩)),?_⟩
  have Xj:=hk v (Pn Rm)
  have S3:bL w B O ((it,.lit la (i+1))::(D,.pls [])::fr::T) env {s with nv:=s.nv+1} (ρ++[v]) γ Z2 h3:=⟨by rw [List.length_append,S2.len];rfl,fun y hy=>(OX hy).elim (S2.ok y) (DO Xj y),Tz,R1,R2,l3,Q0.unmid,R4.ext (.one _ _),kt _ RG,Rc,fun p hp=>(SR p hp).ext (.one _ _) (.refl _)⟩
  refine oo E (a:=.v s.nv) (s:={s with nv:=s.nv+1}) hl hj S3 (cG S2.len) fun U h4 S4=>?_;refine ((oj E 40).t (step i v _ Rm l2).run S4).mono fun fl h5 o5=>?_;obtain ⟨f,s5,ρ5,γ5,Z5,e5,r5,S5,Tf,l5,bk⟩:=o5;refine bM (bk.sat S5 S2.len Rx hf (l2.trans l5)) fun γ6 j6 S6=>?_;subst Tf r5 j6;exact wS (bw k2 (Nat.lt_succ_self _) ⟨i+1,Z5,by lia,l2.trans l5,S6⟩)
theorem ae.compN (b:Bool)(F:FI)(E:bS env F)(j i0:Nat)(la:Addr)(xs:LV)(ha:Z la=some (.lst xs))(hk:∀ a∈xs,bA a=true)
  (step:∀ (i:Nat) v Z',xs[i]? =some v->Z.le Z'->∀ L,ae w B O (n+2) (Cg (bF t) env L) ((ev ⟨vU F (bF t).names,b⟩ 40).t (Oa (oq t) (mi t)) ((sk (cX (bF t).names) t.st).bd (xk (oU t)) j)) (ρ++[v]) γ Z' (Cs (sk (cX (bF t).names) t.st) j (xk (oU t)) ρ γ Z'))
  (g:∀ Z',Z.le Z'->∀ a:Addr,ae w B O (n+2) env (t.nx (.v t.st.nv) (fj (.lst []) t.st)) (ρ++[.ref a]) γ Z' Q) (hi:autoParam (ρ[i0]? =some (.ref la)) tac10)
  (X:autoParam (A7 F env (.Name (xk (oU t)) (Gi (oU t))) (iy t) [Oa (oq t) (mi t)] (bF t)) tac11)
  (hit:autoParam (ie F t=.ret (.v i0) t.st) tac0) (h3:autoParam (aU (DP (bF t) env) env.cells t.st.led) tac12)
  (hs:autoParam ((sk (cX (bF t).names) t.st).loc.set j (xk (oU t),none)=(sk (cX (bF t).names) t.st).loc) tac0) (hl:autoParam (look (vU F (bF t).names) (xk (oU t))=some .local) tac0) (hj:autoParam (A0 (sk (cX (bF t).names) t.st).loc (xk (oU t))=some j) tac0) (Rx:autoParam (Cp t.st.nv (sk (cX (bF t).names) t.st)=true) tac0)
  (hq:autoParam (t.qop=some (.expr (LC (oq t) (.Name (xk (oU t)) (Gi (oU t))) (iy t) [Oa (oq t) (mi t)] (bF t) (rh t.qE)))) tac0):ae w B O (n+2) env t ρ γ Z Q:=by
 refine .ofE hq fun T h ys S r=>?_;have QJ:((bF t).names.all fun y=>decide (y.2≠.cell))=true:=List.all_eq_true.mpr fun y hy=>(OW (OZ X.ok y hy)).1;have Sq:((bF t).names.all fun y=>decide (y.2=.local->(bF t).names.lookup y.1=some .local))=true:=List.all_eq_true.mpr fun y hy=>(OW (OZ X.ok y hy)).2;refine Bi (B:=B) (O:=O) (cX (bF t).names) (EU E hit S fun xv h1 r1 S1=>?_) X.clos (Ci X.nd) QJ X.kind Sq (C9 X.set);obtain rfl:=af.det r1 hi;refine S1.here fun Zs ms R l H=>pG H.st (H.st.z (l _ _ ha)) fun it h2 PE=>?_;refine ⟨it,.lit la 0,Zs,(env.locals,.ns ms),R++T,rfl,PE,t8,fun Cc D UN Q0=>?_⟩;have UK:St w B O Zs ((Cc,.ns ((cX (bF t).names).map fun x=>(x,none)))::(R++(it,.lit la 0)::(D,.pls [])::(env.locals,.ns ms)::T)) UN:=Q0.perm ((List.perm_append_comm_assoc [_,_,_] R T).cons _)
 have Xe:bL w B O ((it,.lit la 0)::(D,.pls [])::(env.locals,.ns ms)::T) (Cg (bF t) env Cc) (sk (cX (bF t).names) t.st) ρ γ Zs UN:=⟨H.ln,H.ok,Zs,_,R,.refl _,UK,RM.of (f:=fun U=>none) (g:=fun U=>none) (fun U=>OU) _,aU.re rfl h3 H.re,H.co,H.fz⟩
 refine Ab (bS.comp E b X.kind X.dbg) hs (l _ _ ha) hk hl hj Rx Xe H.fz (fun i v Z' h1 l'=>step i v Z' h1 (l.trans l') Cc) fun Z' h4 l4 S4=>?_;refine S4.elim fun UL Sr R3 l3 Xf hm3 Vk Xg Vl=>?_;have St6:St w B O UL ((Cc,.ns Sr)::(D,.pls [])::(env.locals,.ns ms)::(R3++T)) h4:=Xf.perm ((List.perm_append_comm_assoc R3 [_,_] T).cons _);refine kj St6 fun h5 St7=>?_;refine d6 St7.fzL1 fun Z5 l5 z St8=>?_;exact ⟨.v t.st.nv,fj (.lst []) t.st,ρ++[Value.ref D],γ,Z',.one _ (Value.ref D),cG H.ln,tB (ys:=[]) H.ln H.ok l3 H.rm (aU.er rfl h3 Vk) Xg Vl OU l5 z St8,g Z' (l.trans l4) D⟩
theorem ae.no {t:IT Bool}{Hd:bb}{j:Nat}{x:Str}{γ0:List an}(k q:Nat)(hJ:γ.drop q=γ0)(l:Z0.le Z)(Py:autoParam ((t.isRet,(t.ansD true,(t.st.led.drop k,(iZ (t.st.led.take k),(t.st.loc.set j (x,none),(t.st.loc[j]?).map (·.1))))))=(true,(false,(Hd.led,(q,(Hd.loc,some x)))))) tac0)(hx:autoParam (ρ.take ρ0.length=ρ0) tac0):ae w B O n env t ρ γ Z (Cs Hd j x ρ0 γ0 Z0):=
 have h1:=Pc Py;have h2:=Pc h1.2;have h3:=Pc h2.2;have h4:=Pc h3.2;have h5:=Pc h4.2
 ae.done true (cF h2.1 l ⟨hx,h5.2,k,h3.1,h5.1,h4.1▸hJ⟩) h1.1
noncomputable def ME (d:Bool):aE:=match d with
 | true=>.dct []
 | false=>.lst []
noncomputable def MF (d:Bool):an:=match d with
 | true=>.dct []
 | false=>.pls []
noncomputable def Ie (d:Bool):Nat:=match d with
 | true=>2
 | false=>1
def bb.opA (i j:Nat)(d:Bool)(s:bb):bb:={s with led:=s.led.set j (.own i (.opq (Ie d)))}
theorem RE.opn {i:Nat}{d:Bool}{p:Addr×an}(r:RE env ρ (.own i (ME d)) p):p.2=MF d/\RE env ρ (.own i (.opq (Ie d))) p:=by
 cases d with
 | true=>refine kM r fun r1 kv r2 r3=>?_;obtain rfl:=ak.nil_r r3;exact cF r2 r1 ⟨fun e=>(by cases e),fun U=>⟨_,r2⟩⟩
 | false=>refine kM r fun r1 kv r2 r3=>?_;obtain rfl:=ak.nil_r r3;exact cF r2 r1 ⟨fun U=>⟨_,r2⟩,fun e=>(by cases e)⟩
theorem Ht {i j:Nat}{d:Bool}{l:List SL}(h:l[j]? =some (.own i (ME d)))(r:ak (RE env ρ) l R):ak (RE env ρ) (l.set j (.own i (.opq (Ie d)))) R/\cont (l.set j (.own i (.opq (Ie d)))) R=(cont l R).take (iZ (l.take j))++MF d::(cont l R).drop (iZ (l.take j)):=
 r.ind (M:=fun l R=>∀ j,l[j]? =some (.own i (ME d))->ak (RE env ρ) (l.set j (.own i (.opq (Ie d)))) R/\cont (l.set j (.own i (.opq (Ie d)))) R=(cont l R).take (iZ (l.take j))++MF d::(cont l R).drop (iZ (l.take j))) (fun U e=>nS e) (fun {x p l R} r r2 ih j h=>by
  cases j with
  | zero=>
   obtain rfl:=Pd h;refine oA r.opn fun e r1=>⟨⟨r1,r2⟩,?_⟩
   rw [show cont (SL.own i (ME d)::l) (p::R)=cont l R by cases d<;>rfl];show p.2::cont l R=_;rw [e];rfl
  | succ j=>exact oA (ih j h) fun h1 h2=>⟨⟨r,h1⟩,Gh h2⟩) j h
theorem ae.opn {t:IT α}{Q:QQ α}(i j q:Nat)(d:Bool)(k:ae w B O n env (t.wst (t.st.opA i j d)) ρ (γ.take q++MF d::γ.drop q) Z Q)(Py:autoParam ((t.isAsk,(t.st.led[j]?,iZ (t.st.led.take j)))=(true,(some (.own i (ME d)),q))) tac0):ae w B O n env t ρ γ Z Q:=
 ae.pre (ff Py) fun T h S=>S.here fun Zs ms R l H=>by refine oA (Pc (Pc Py).2) fun hj hc=>?_;refine oA (Ht hj H.re) fun h1 h2=>?_;rw [H.co,hc] at h2;exact ⟨t.st.opA i j d,ρ,_,Z,.refl _,⟨S.len,S.ok,Zs,ms,R,l,H.st,H.rm,h1,h2,H.fz⟩,k⟩
theorem bU.mk1 {P:Params}{f:Addr}(hf:autoParam (∀ P,(KF P).lookup f=some (fo P9)) tac7)(cd:autoParam (∀ P,codeIn (KF P) P9.code P9.qualname=true) tac7)(body:autoParam (P9.body=.stmts (uQ P9)) tac0)(clo:autoParam (P9.closure=[]) tac0)
  (bind:autoParam (∀ a,bindArgs P9 ⟨[a],[]⟩=pure ((eh P9).zip [a])) tac7) (kind:autoParam (((eh P9).all fun x=>match look P9.scope.names x with
  | some .local=>true
  | some .cell=>my (cW P9) x
  | _=>false)=true) tac0) (cs:autoParam (∀ L,cellsFrom (L+1) P9.scope.names []=bz (L+1) ((cW P9).map fun x=>(x,none)) []) tac7) (nd:autoParam ((lD P9).Nodup/\(cW P9).Nodup) tac3)
  (co:autoParam ((P9.scope.isCoroutine || (P9.scope.isGenerator || !decide (P9.scope.kind=.function)))=false) tac0) (gb:autoParam (P9.globals=mainGlobals/\P9.builtins=builtinsNs) tac15) (dbg:autoParam ((P9.scope.names.all fun p=>(p.1==("__debug__" :Str))==false && (p.1==("__classdict__" :Str))==false)=true) tac0):bU P P9 f 1:=⟨hf P,cd P,body,clo,fun vals h=>(by refine oE (uo h.symm) fun a PL=>?_;subst PL;exact bind a),kind,cs,nd,co,gb,dbg⟩
theorem bU.mk2 {P:Params}{f:Addr}(hf:autoParam (∀ P,(KF P).lookup f=some (fo P9)) tac7)(cd:autoParam (∀ P,codeIn (KF P) P9.code P9.qualname=true) tac7)(body:autoParam (P9.body=.stmts (uQ P9)) tac0)(clo:autoParam (P9.closure=[]) tac0)
  (bind:autoParam (∀ a b,bindArgs P9 ⟨[a,b],[]⟩=pure ((eh P9).zip [a,b])) tac6) (kind:autoParam (((eh P9).all fun x=>match look P9.scope.names x with
  | some .local=>true
  | some .cell=>my (cW P9) x
  | _=>false)=true) tac0) (cs:autoParam (∀ L,cellsFrom (L+1) P9.scope.names []=bz (L+1) ((cW P9).map fun x=>(x,none)) []) tac7) (nd:autoParam ((lD P9).Nodup/\(cW P9).Nodup) tac3)
  (co:autoParam ((P9.scope.isCoroutine || (P9.scope.isGenerator || !decide (P9.scope.kind=.function)))=false) tac0) (gb:autoParam (P9.globals=mainGlobals/\P9.builtins=builtinsNs) tac15) (dbg:autoParam ((P9.scope.names.all fun p=>(p.1==("__debug__" :Str))==false && (p.1==("__classdict__" :Str))==false)=true) tac0):bU P P9 f 2:=⟨hf P,cd P,body,clo,fun vals h=>(by refine kC (A1 h.symm) fun a b PZ=>?_;subst PZ;exact bind a b),kind,cs,nd,co,gb,dbg⟩
theorem bU.mk3 {P:Params}{f:Addr}(hf:autoParam (∀ P,(KF P).lookup f=some (fo P9)) tac7)(cd:autoParam (∀ P,codeIn (KF P) P9.code P9.qualname=true) tac7)(body:autoParam (P9.body=.stmts (uQ P9)) tac0)(clo:autoParam (P9.closure=[]) tac0)
  (bind:autoParam (∀ a b c,bindArgs P9 ⟨[a,b,c],[]⟩=pure ((eh P9).zip [a,b,c])) tac16) (kind:autoParam (((eh P9).all fun x=>match look P9.scope.names x with
  | some .local=>true
  | some .cell=>my (cW P9) x
  | _=>false)=true) tac0) (cs:autoParam (∀ L,cellsFrom (L+1) P9.scope.names []=bz (L+1) ((cW P9).map fun x=>(x,none)) []) tac7) (nd:autoParam ((lD P9).Nodup/\(cW P9).Nodup) tac3)
  (co:autoParam ((P9.scope.isCoroutine || (P9.scope.isGenerator || !decide (P9.scope.kind=.function)))=false) tac0) (gb:autoParam (P9.globals=mainGlobals/\P9.builtins=builtinsNs) tac15) (dbg:autoParam ((P9.scope.names.all fun p=>(p.1==("__debug__" :Str))==false && (p.1==("__classdict__" :Str))==false)=true) tac0):bU P P9 f 3:=⟨hf P,cd P,body,clo,fun vals h=>(by refine o3 (He h.symm) fun a b c PQ=>?_;subst PQ;exact bind a b c),kind,cs,nd,co,gb,dbg⟩
theorem xl {P:Params}:bU P pw fN 3:=.mk3
theorem du {P:Params}:bU P iF aw 2:=.mk2
def Nl (op:Str)(a b:Int):Int:=if op=fD then a+b else if op=ia then a - b else a*b
theorem yQ {op:Str}{a b:Int}{t t2 : Tok}(hm:op=ds->b.natAbs < 2 ^ 63)(ho:op=fD\/op=ia\/op=ds):RT w 3 fN [.str op t,.int a t1,.int b t2] (iH (Nl op a b)) Z:=by
 rcases ho with rfl | rfl | rfl
 ·refine bu (N:=2) [.int a t1,.int b t2] (PD:=[.str fD,.v 0,.v 1]) (fz:=[]) true xl OU (fun B O L Z1 l1=>?_) (fu ⟨_,rfl⟩ rfl rfl OU);exact .opi (.bin .Add) (fun U=>[.int a t1,.int b t2]) (a+b) (fun tk h Q q=>lk fun k=>q _ ⟨k,rfl⟩) fun k=>.finV 2 fun U U=>⟨_,rfl⟩
 ·refine bu (N:=2) [.int a t1,.int b t2] (PD:=[.str ia,.v 0,.v 1]) (fz:=[]) true xl OU (fun B O L Z1 l1=>?_) (fu ⟨_,rfl⟩ rfl rfl OU);exact .opi (.bin .Sub) (fun U=>[.int a t1,.int b t2]) (a - b) (fun tk h Q q=>mZ fun k=>q _ ⟨k,rfl⟩) fun k=>.finV 2 fun U U=>⟨_,rfl⟩
 ·refine bu (N:=2) [.int a t1,.int b t2] (PD:=[.str ds,.v 0,.v 1]) (fz:=[]) true xl OU (fun B O L Z1 l1=>?_) (fu ⟨_,rfl⟩ rfl rfl OU);exact .opi (.bin .Mult) (fun U=>[.int a t1,.int b t2]) (a*b) (fun tk h Q q=>jC (jD (hm rfl)) fun k=>q _ ⟨k,rfl⟩) fun k=>.finV 2 fun U U=>⟨_,rfl⟩
theorem ae.opK {w:World}{B:Heap}{O:aP}{n:Nat}{env:Env}{ρ:LV}{γ:List an}{Z:a8}{α:Type}{t:IT α}{Q:QQ α}(op:Op)(vs:(Nat->Tok)->LV)(sv:SV)(c:∀ tk,Pk w B O env n t.st ρ γ Z (gL env op (vs tk)) (af ρ sv))(g:ae w B O n env (t.nk sv) ρ γ Z Q)
  (Py:autoParam (qa t ρ=ra op vs) tac0):ae w B O n env t ρ γ Z Q:=ae.pk c (fun y e=>.k sv e g) Py
def pB:List (Nat×aE):=[(0,.obj eK [(fS,.str bt),(bG,.v 1)])]
def nr:List (Nat×aE):=[(0,.obj fB [(am,.v 1)])]
def nt:List (Nat×aE):=[(0,.obj dw [(eB,.v 4),(br,.v 3)]),(3,.lst [.v 1,.v 2])]
def tD:List (Nat×aE):=[(0,.obj gH [(kS,.v 1),(br,.v 3)]),(3,.lst [.v 2])]
def yR:List (Nat×aE):=[(0,.obj gH [(kS,.v 1),(br,.v 4)]),(4,.lst [.v 2,.v 3])]
def Hu:List (Nat×aE):=[(0,.obj kY [(am,.v 4),(br,.v 3)]),(3,.lst [.v 1,.v 2])]
def tE:List (Nat×aE):=[(0,.obj dZ [(aO,.v 2),(aB,.v 1)]),(2,.lst [.v 3])]
def yS:List (Nat×aE):=[(0,.obj dZ [(aO,.v 2),(aB,.v 1)]),(2,.lst [.v 3,.v 4])]
theorem F3 {v d:Addr}{k:Int}{t:Tok}(hf:ac [.ref v,.int k t] Z pB):RT w 3 aw [.ref v,.ref d] (iH k) Z:=bu (N:=3) [.ref v,.int k t,.ref d] (PD:=[.v 0,.v 2]) true du (hf.more [.ref d] (.refl _)) (fun B O L Z1 l1=>.finV 1 fun U U=>⟨_,rfl⟩) (cF rfl rfl OU)
noncomputable def IT.sub1 {α:Type}:IT α->Expr
 | .askE (.sub v _) _ _ _=>v
 | _=>.Tuple [] 0 default
noncomputable def IT.sub2 {α:Type}:IT α->Expr
 | .askE (.sub _ i) _ _ _=>i
 | _=>.Tuple [] 0 default
def qs {α:Type}(t:IT α)(ρ:LV):(Option Op×Bool)×TO:=((t.qop,dz t.sub2),fun tk=>eO ρ tk 0 t.args)
noncomputable def rs {α:Type}(t:IT α)(vs:TV):(Option Op×Bool)×TO:=((some (.sub t.sub1 t.sub2),true),fun tk=>some (vs tk))
theorem ae.itD {B:Heap}{O:aP}{n:Nat}{env:Env}{ρ:LV}{γ:List an}{α:Type}{t:IT α}{Q:QQ α}{a:Addr}{P7:KV}{x:Str}{tx:(Nat->Tok)->Tok}{v:Value}(ha:fk w B O env t.st ρ γ Z a (.dct P7))(hx:valueAt P7 x=some v)(g:Co w B O env n t ρ γ Z Q v)
  (Py:autoParam (qs t ρ=rs t (fun tk=>[.ref a,.str x (tx tk)])) tac0):ae w B O n env t ρ γ Z Q:=ae.pk (vs:=fun tk=>[.ref a,.str x (tx tk)]) (fun tk=>.at ha fun h Q hd q=>yj hd hx (q v rfl) (Pc (ff Py)).2) (fun y e=>by subst e;exact g) (Prod.ext (ff (ff Py)) (funext (pQ Py)))
theorem Ct {v d:Addr}{x:Str}{t t2:Tok}{P7:KV}{k:Int}(hf:ac [.ref v,.str x t] Z nr)(hd:Z d=some (.dct P7))(hx:valueAt P7 x=some (.int k t2)):RT w 3 aw [.ref v,.ref d] (iH k) Z:=bu (N:=3) [.ref v,.str x t,.ref d] (PD:=[.v 0,.v 2]) true du (hf.more [.ref d] (.refl _)) (fun B O L Z1 l1=>.itD (tx:=fun U=>t) (.z (l1 _ _ hd)) hx (.k (.int k) ⟨_,rfl⟩ (.finA (.ret (.int k)) fun U U U r=>r))) (cF rfl rfl OU)
def w0:List (Nat×aE):=[(0,.tup [.str vA,.v 1,.v 2,.v 3]),(1,.lst [.v 4])]
def yT:List (Nat×aE):=[(0,.tup [.str vA,.v 1,.v 2,.v 3]),(1,.lst [.v 4,.v 5])]
inductive w1 (Z:a8)(r:Value)(b d:Addr)(x:Str):Prop
 | mk (tp pl t) (_:r=.ref tp) (_:ac [.ref tp,.ref pl,.ref b,.ref d,.str x t] Z w0):w1 Z r b d x
inductive Cu (Z:a8)(r:Value)(b d:Addr)(x y:Str):Prop
 | mk (tp pl t u) (_:r=.ref tp) (_:ac [.ref tp,.ref pl,.ref b,.ref d,.str x t,.str y u] Z yT):Cu Z r b d x y
theorem nu {v b l d:Addr}{x:Str}{t:Tok}(hf:ac [.ref v,.ref b,.ref l,.str x t] Z tE):RT w 3 aw [.ref v,.ref d] (fun Z r=>w1 Z r b d x) Z:=
 bu (N:=5) [.ref v,.ref b,.ref l,.str x t,.ref d] (PD:=[.v 0,.v 4]) true du (hf.more [.ref d] (.refl _)) (fun B O L Z1 l1=>.al (g:=fun l2=>.al (g:=fun tp=>.finF (.ret (.v 6)) ((6,.tup [.str vA,.v 5,.v 1,.v 4])::(5,.lst [.v 3])::tE)
  fun Zs v U hf r=>⟨tp,l2,t,af.det r rfl,hf.sl [6,5,1,4,3]⟩))) (cF rfl rfl OU)
theorem Cv {v b l d:Addr}{x y:Str}{t u:Tok}(hf:ac [.ref v,.ref b,.ref l,.str x t,.str y u] Z yS):RT w 3 aw [.ref v,.ref d] (fun Z r=>Cu Z r b d x y) Z:=
 bu (N:=6) [.ref v,.ref b,.ref l,.str x t,.str y u,.ref d] (PD:=[.v 0,.v 5]) true du (hf.more [.ref d] (.refl _)) (fun B O L Z1 l1=>.al (g:=fun l2=>.al (g:=fun tp=>.finF (.ret (.v 7)) ((7,.tup [.str vA,.v 6,.v 1,.v 5])::(6,.lst [.v 3,.v 4])::yS)
  fun Zs v U hf r=>⟨tp,l2,t,u,af.det r rfl,hf.sl [7,6,1,5,3,4]⟩))) (cF rfl rfl OU)
theorem Cw {v a b l d:Addr}{op:Str}{t:Tok}{x y:Int}(hf:ac [.ref v,.ref a,.ref b,.ref l,.str op t] Z nt)(ha:RT w (m+3) aw [.ref a,.ref d] (iH x) Z)(hb:RT w (m+3) aw [.ref b,.ref d] (iH y) Z)
  (hm:op=ds->y.natAbs < 2 ^ 63) (Qc:op=fD\/op=ia\/op=ds):RT w (m+4) aw [.ref v,.ref d] (iH (Nl op x y)) Z:=
 bu (N:=6) [.ref v,.ref a,.ref b,.ref l,.str op t,.ref d] (PD:=[.v 0,.v 5]) true du (hf.more [.ref d] (.refl _)) (fun B O L Z1 l1=>
  .rtI (vs:=fun U=>[.ref a,.ref d]) (fun U=>ha.le l1 ll) fun t1 Z2 l2=>.rtI (vs:=fun U=>[.ref b,.ref d]) (fun U=>hb.le (l1.trans l2) ll) fun t2 Z3 l3=>.tail (vs:=fun U=>[.str op t,.int x t1,.int y t2]) (fun U=>yQ hm Qc) (fun U U U U p=>p)) (cF rfl rfl OU)
theorem yU {P:Params}:bU P wF bT 3:=.mk3
theorem ae.dictC {a:Addr}{P7:KV}(ha:fk w B O env t.st ρ γ Z a (.dct P7))(hz:P7.length<=1000)
  (g:∀ a:Addr,ae w B O n env (t.nx (.v t.st.nv) (t.st.opn 2)) (sn ρ (.ref a)) (.dct P7::γ) Z Q)
  (Py:autoParam (qa t ρ=ra .call (fun tk=>[.type "dict",.ref a])) tac0):ae w B O n env t ρ γ Z Q:=.nw (vs:=fun U=>[.type "dict",.ref a]) 2 (fun tk T h Zs ms R l H Q q=>GT H.st (ha T h Zs ms R l H) hz q) g rfl Py
theorem ae.setD {P7:KV}(i g:Nat)(a:Addr)(x:Str)(tx:(Nat->Tok)->Tok)(v:Value)(hc:γ[g]? =some (.dct P7))(hz:P7.length<=1000)(k:ae w B O n env (t.nxU t.st) ρ (γ.set g (.dct (stored P7 x v))) Z Q)
  (Py:autoParam (qu t ρ i=ru 2 g (fun tk=>[.ref a,.str x (tx tk),v])) tac0) (ha:autoParam (ρ[i]? =some (.ref a)) tac10):ae w B O n env t ρ γ Z Q:=.set (x:=fun tk=>.str x (tx tk)) (v:=fun U=>v) i g (c:=.dct P7) (fun tk Zs led h j Q S e q=>GO S e q hz) k rfl Py ha hc
theorem OH {a:Value}(h:bA a=true):(bA a && true)=true:=by rw [h];rfl
theorem F4 {a b:Value}(h:bA a=true)(h2:bA b=true):(bA a && (bA b && true))=true:=by rw [h,h2];rfl
theorem Hv (s:kN){v:Value}{b d al:Addr}{x:Str}{a:Value}{P7:KV}{P:a8->Value->Prop}(ht:w1 Z v b d x)(hd:Z d=some (.dct P7))(hz:P7.length<=990)(ha:Z al=some (.lst [a]))(oa:bA a=true)
  (hb:∀ Z' d',Z.le Z'->Z' d'=some (.dct (stored P7 x a))->RT w (n+3) (oQ s) [.ref b,.ref d'] P Z') (hP:∀ Z Z' v,Z.le Z'->P Z v->P Z' v):RT w (n+4) bT [v,.ref al,.ref (oQ s)] P Z:=by
 obtain ⟨tp,pl,tk,rfl,hf⟩:=ht
 cases s<;>exact bu (N:=7) [.ref tp,.ref pl,.ref b,.ref d,.str x tk,.ref al,a] (PD:=[.v 0,.v 5,.k _]) (fz:=(5,.lst [.v 6])::w0) true yU ⟨⟨al,_,rfl,ha,rfl,OU⟩,hf.more [.ref al,a] (.refl _)⟩ (fun B O L Z1 l1=>
  .al1 fun U=>.dictC (.z (l1 _ _ hd)) lw fun d2=>.al2 fun U U=>.setD 8 0 d2 x (fun U=>tk) a rfl lw (.frz 8 0 fun Z2 l2 z2=>
  .rt (vs:=fun U=>[.ref b,.ref d2]) (fun U=>hb Z2 d2 (l1.trans l2) z2) fun v Z3 l3 p=>.k (.k v) rfl (.al3 fun U U U=>.finA (.ret (.k v)) fun Zs u l r=>(show u=v from r)▸hP _ _ _ l p))) (fu rfl rfl rfl OU) (hρ:=(OH oa :))
theorem MG (s:kN){v:Value}{b d al:Addr}{x y:Str}{a a2:Value}{P7:KV}{P:a8->Value->Prop}(ht:Cu Z v b d x y)(hd:Z d=some (.dct P7))(hz:P7.length<=990)(ha:Z al=some (.lst [a,a2]))(oa:bA a=true)(Xk:bA a2=true)
  (hb:∀ Z' d',Z.le Z'->Z' d'=some (.dct (stored (stored P7 x a) y a2))->RT w (n+3) (oQ s) [.ref b,.ref d'] P Z') (hP:∀ Z Z' v,Z.le Z'->P Z v->P Z' v):RT w (n+4) bT [v,.ref al,.ref (oQ s)] P Z:=by
 obtain ⟨tp,pl,tk,Qj,rfl,hf⟩:=ht;have Q3:(stored P7 x a).length<=1000:=Pg aG (aJ hz)
 cases s<;>exact bu (N:=9) [.ref tp,.ref pl,.ref b,.ref d,.str x tk,.str y Qj,.ref al,a,a2] (PD:=[.v 0,.v 6,.k _]) (fz:=(6,.lst [.v 7,.v 8])::yT) true yU ⟨⟨al,_,rfl,ha,rfl,rfl,OU⟩,hf.more [.ref al,a,a2] (.refl _)⟩ (fun B O L Z1 l1=>
  .al1 fun U=>.dictC (.z (l1 _ _ hd)) (aJ hz) fun d2=>.al2 fun U U=>.setD 10 0 d2 x (fun U=>tk) a rfl (aJ hz) (.setD 10 0 d2 y (fun U=>Qj) a2 rfl Q3 (.frz 10 0 fun Z2 l2 z2=>
  .rt (vs:=fun U=>[.ref b,.ref d2]) (fun U=>hb Z2 d2 (l1.trans l2) z2) fun v Z3 l3 p=>.k (.k v) rfl (.al3 fun U U U=>.finA (.ret (.k v)) fun Zs u l r=>(show u=v from r)▸hP _ _ _ l p)))) (fu rfl rfl rfl OU) (hρ:=(F4 oa Xk :))
theorem Ob {v:Value}{b d al:Addr}{x y:Str}{a:Value}{P7:KV}(ht:Cu Z v b d x y)(hd:Z d=some (.dct P7))(hz:P7.length<=990)(ha:Z al=some (.lst [a]))(oa:bA a=true):
  RT w (n+4) bT [v,.ref al,.ref aw] (fun Z r=>∃ d',Z d'=some (.dct (stored P7 x a))/\w1 Z r b d' y) Z:=by
 obtain ⟨tp,pl,tk,Qj,rfl,hf⟩:=ht
 exact bu (N:=8) [.ref tp,.ref pl,.ref b,.ref d,.str x tk,.str y Qj,.ref al,a] (PD:=[.v 0,.v 6,.k (.ref aw)]) (fz:=(6,.lst [.v 7])::yT) true yU ⟨⟨al,_,rfl,ha,rfl,OU⟩,hf.more [.ref al,a] (.refl _)⟩ (fun B O L Z1 l1=>
  .al1 fun U=>.dictC (.z (l1 _ _ hd)) lw fun d2=>.al2 fun U U=>.setD 9 0 d2 x (fun U=>tk) a rfl lw (.al2 fun QW PT=>.finO (.ret (.v 13)) (ρ':=[.ref PT,.ref QW,.ref b,.ref d2,.str y Qj]) [13,12,2,9,5] w0 [(9,0)] fun Zs v U hf hO r=>bw d2 (hO.1 _ _ rfl rfl) ⟨PT,QW,Qj,af.det r rfl,hf⟩)) (fu rfl rfl rfl OU) (hρ:=(OH oa :))
theorem Oc {v:Value}{b b2 d al:Addr}{x y:Str}{a a2:Value}{P7:KV}{P:a8->Value->Prop}(ht:w1 Z v b d x)(hd:Z d=some (.dct P7))(hz:P7.length<=990)(ha:Z al=some (.lst [a,a2]))(oa:bA a=true)(Xk:bA a2=true)
  (hb:∀ Z' d',Z.le Z'->Z' d'=some (.dct (stored P7 x a))->RT w (n+3) aw [.ref b,.ref d'] (fun Z r=>w1 Z r b2 d' y) Z')
  (Rj:∀ Z' d',Z.le Z'->Z' d'=some (.dct (stored (stored P7 x a) y a2))->RT w (n+3) aw [.ref b2,.ref d'] P Z') (hP:∀ Z Z' v,Z.le Z'->P Z v->P Z' v):RT w (n+4) bT [v,.ref al,.ref aw] P Z:=by
 obtain ⟨tp,pl,tk,rfl,hf⟩:=ht;have Q3:(stored P7 x a).length<=1000:=Pg aG (aJ hz)
 refine bu (N:=8) [.ref tp,.ref pl,.ref b,.ref d,.str x tk,.ref al,a,a2] (PD:=[.v 0,.v 5,.k (.ref aw)]) (fz:=(5,.lst [.v 6,.v 7])::w0) true yU ⟨⟨al,_,rfl,ha,rfl,rfl,OU⟩,hf.more [.ref al,a,a2] (.refl _)⟩ (fun B O L Z1 l1=>
  .al1 fun U=>.dictC (.z (l1 _ _ hd)) (aJ hz) fun d2=>.al2 fun U U=>.setD 9 0 d2 x (fun U=>tk) a rfl (aJ hz) (.frz 9 0 fun Z2 l2 z2=>.rt (vs:=fun U=>[.ref b,.ref d2]) (fun U=>hb Z2 d2 (l1.trans l2) z2) fun v Z3 l3 p=>?_)) (fu rfl rfl rfl OU) (hρ:=(F4 oa Xk :))
 obtain ⟨tp3,pl3,RW,rfl,Vl⟩:=p
 refine .fx (.v 12) 4 [.ref tp3,.ref pl3,.ref b2,.str y RW] [12,13,14,9,15] [(12,.tup [.str vA,.v 13,.v 14,.v 9]),(13,.lst [.v 15])] Vl (.al3 fun U U U=>.dictC (.z (l3 _ _ z2)) Q3 fun d3=>.al2 fun U U=>.setD 19 0 d3 y (fun U=>RW) a2 rfl Q3 (.frz 19 0 fun Z4 l4 z4=>
  .rt (vs:=fun U=>[.ref b2,.ref d3]) (fun U=>Rj Z4 d3 (l1.trans (l2.trans (l3.trans l4))) z4) fun v Z3 l3 p=>.k (.k v) rfl (.al3 fun U U U=>.finA (.ret (.k v)) fun Zs u l r=>(show u=v from r)▸hP _ _ _ l p)))
variable {c:Nat}
theorem TH.ok {s:kN}{x:Int}{v:Value}(h:TH w s c x Z v):bA v=true:=by
 rcases h with ⟨t,rfl⟩ | h
 ·rfl
 ·cases s with
  | src=>refine sW h fun l U U PL U=>?_;clear h;subst PL;rfl
  | stg=>refine bM h fun l PZ U=>?_;clear h;subst PZ;rfl
theorem rn {v d:Addr}{x:Str}{t:Tok}{u:Value}{P7:KV}{P:a8->Value->Prop}(hf:ac [.ref v,.str x t] Z nr)(hd:Z d=some (.dct P7))(hx:valueAt P7 x=some u)(hu:uP w c P Z u .src)(hP:∀ Z Z' v,Z.le Z'->P Z v->P Z' v):RT w (c+3) aw [.ref v,.ref d] P Z:=by
 refine fq hu fun l e d2 PQ h1 h2=>?_;clear hu;subst PQ
 exact bu (N:=3) [.ref v,.str x t,.ref d] (PD:=[.v 0,.v 2]) true du (hf.more [.ref d] (.refl _)) (fun B O L Z1 l1=>.itD (x:=x) (tx:=fun U=>t) (v:=.ref l) (.z (l1 _ _ hd)) hx (.fx (.v 3) 3 [.ref l,.ref e,.ref d2] [3,4,5] [(3,.lst [.v 4,.v 5])] (ρ':=[.ref l,.ref e,.ref d2]) (fz:=[(0,.lst [.v 1,.v 2])]) ⟨⟨l,_,rfl,l1 _ _ h1,rfl,rfl,OU⟩,OU⟩
  (.opb (.cmp .Is) (fun U=>[.ref d2,.none]) false (fun tk h Q q=>lp (q _ rfl)) (.tail (vs:=fun U=>[.ref e,.ref d2]) (fun U=>h2.le l1 ll) hP)))) (cF rfl rfl OU)
theorem rp {v f a l d:Addr}{P : a8->Value->Prop}(hv:ac [.ref v,.ref f,.ref a,.ref l] Z tD)(hf:RT w c aw [.ref f,.ref d] PF Z)
  (hp:∀ Z1 r al l1,Z.le Z1->PF Z1 r->Z1 al=some (.lst [.ref l1])->Z1 l1=some (.lst [.ref a,.ref d])->RT w c bT [r,.ref al,.ref aw] P Z1) (hF:∀ Z Z' v,Z.le Z'->PF Z v->PF Z' v) (hP:∀ Z Z' v,Z.le Z'->P Z v->P Z' v):RT w (c+3) aw [.ref v,.ref d] P Z:=
 bu (N:=5) [.ref v,.ref f,.ref a,.ref l,.ref d] (PD:=[.v 0,.v 4]) true du (hv.more [.ref d] (.refl _)) (fun B O L Z1 l1=>.rt (vs:=fun U=>[.ref f,.ref d]) (fun U=>hf.le l1 ll) fun r Z2 l2 p=>.k (.k r) rfl
  (.comp true (fi iF true) ((du (P:=w.params)).env true L) fun U=>.al1 fun m1=>.done [] ⟨by ac_rfl,fun al=>
  .facts [6,5,2,4] [(0,.lst [.v 1]),(1,.lst [.v 2,.v 3])] (ρ':=[.ref al,.ref m1,.ref a,.ref d]) fun Z3 l3 h=>.tail (vs:=fun U=>[r,.ref al,.ref aw]) (fun U=>hp Z3 r al m1 (l1.trans (l2.trans l3)) (hF _ _ _ l3 p) h.1.lv h.2.1.lv) hP⟩)) (cF rfl rfl OU)
theorem Cx {v f a b l d:Addr}{P : a8->Value->Prop}(hv:ac [.ref v,.ref f,.ref a,.ref b,.ref l] Z yR)(hf:RT w c aw [.ref f,.ref d] PF Z)
  (hp:∀ Z1 r al l1 l2,Z.le Z1->PF Z1 r->Z1 al=some (.lst [.ref l1,.ref l2])->Z1 l1=some (.lst [.ref a,.ref d])->Z1 l2=some (.lst [.ref b,.ref d])->RT w c bT [r,.ref al,.ref aw] P Z1) (hF:∀ Z Z' v,Z.le Z'->PF Z v->PF Z' v) (hP:∀ Z Z' v,Z.le Z'->P Z v->P Z' v):RT w (c+3) aw [.ref v,.ref d] P Z:=
 bu (N:=6) [.ref v,.ref f,.ref a,.ref b,.ref l,.ref d] (PD:=[.v 0,.v 5]) true du (hv.more [.ref d] (.refl _)) (fun B O L Z1 l1=>.rt (vs:=fun U=>[.ref f,.ref d]) (fun U=>hf.le l1 ll) fun r Z2 l2 p=>.k (.k r) rfl
  (.comp true (fi iF true) ((du (P:=w.params)).env true L) fun U=>.al2 fun m1 m2=>.done [] ⟨by ac_rfl,fun al=>
  .facts [8,6,7,2,3,5] [(0,.lst [.v 1,.v 2]),(1,.lst [.v 3,.v 5]),(2,.lst [.v 4,.v 5])] (ρ':=[.ref al,.ref m1,.ref m2,.ref a,.ref b,.ref d]) fun Z3 l3 h=>.tail (vs:=fun U=>[r,.ref al,.ref aw]) (fun U=>hp Z3 r al m1 m2 (l1.trans (l2.trans l3)) (hF _ _ _ l3 p) h.1.lv h.2.1.lv h.2.2.1.lv) hP⟩)) (cF rfl rfl OU)
def w3:List (Nat×aE):=[(0,.tup [.str n9,.v 1,.v 2]),(2,.lst [.v 3,.v 4])]
inductive xm (w:World)(s:kN)(c:Nat)(x y:Int)(Z:a8)(v:Value):Prop
 | mk (tp nm t tl u1 u2) (_:v=.ref tp) (_:ac [.ref tp,.str nm t,.ref tl,u1,u2] Z w3) (_:TH w s c x Z u1) (_:TH w s c y Z u2):xm w s c x y Z v
theorem F5 {v a b l d:Addr}{nm:Str}{t:Tok}{P:a8->Value->Prop}(hv:ac [.ref v,.ref a,.ref b,.ref l,.str nm t] Z Hu)
  (hp:∀ Z1 tp tl l1 l2,Z.le Z1->ac [.ref tp,.str nm t,.ref tl,.ref l1,.ref l2] Z1 w3->Z1 l1=some (.lst [.ref a,.ref d])->Z1 l2=some (.lst [.ref b,.ref d])->P Z1 (.ref tp)):RT w 3 aw [.ref v,.ref d] P Z:=
 bu (N:=6) [.ref v,.ref a,.ref b,.ref l,.str nm t,.ref d] (PD:=[.v 0,.v 5]) true du (hv.more [.ref d] (.refl _)) (fun B O L Z1 l1=>
  .comp true (fi iF true) ((du (P:=w.params)).env true L) fun U=>.al2 fun m1 m2=>.done [] ⟨by ac_rfl,fun al=>.al1 fun tp=>.finO (.ret (.v 9)) [9,4,8,6,7,1,2,5] ((3,.lst [.v 5,.v 7])::(4,.lst [.v 6,.v 7])::w3) [] (ρ':=[.ref tp,.str nm t,.ref al,.ref m1,.ref m2,.ref a,.ref b,.ref d]) fun Zs r l h U e=>(af.det e rfl:r=.ref tp)▸hp Zs tp al m1 m2 (l1.trans l) (h.2.2.sl [0,1,2,3,4]) h.1.lv h.2.1.lv⟩) (cF rfl rfl OU)
def w5:List (Nat×aE):=[(0,.obj jB [(aR,.v 2),(aB,.v 1),(gw,.v 6)]),(2,.lst [.v 3]),(3,.tup [.v 4,.v 5])]
def yV:List (Nat×aE):=[(0,.obj jB [(aR,.v 2),(aB,.v 1),(gw,.v 9)]),(2,.lst [.v 3,.v 6]),(3,.tup [.v 4,.v 5]),(6,.tup [.v 7,.v 8])]
theorem w6 {v b l tp e d:Addr}{x:Str}{t:Tok}{r:Bool}{P7:KV}{P:a8->Value->Prop}(hv:ac [.ref v,.ref b,.ref l,.ref tp,.str x t,.ref e,.bool r] Z w5)(hd:Z d=some (.dct P7))(hz:P7.length<=990)
  (hb:∀ Z1 d' l1,Z.le Z1->Z1 d'=some (.dct (stored P7 x (.ref l1)))->Z1 l1=some (.lst [.ref e,.ref d'])->RT w c aw [.ref b,.ref d'] P Z1) (hP:∀ Z Z' v,Z.le Z'->P Z v->P Z' v):RT w (c+3) aw [.ref v,.ref d] P Z:=
 bu (N:=8) [.ref v,.ref b,.ref l,.ref tp,.str x t,.ref e,.bool r,.ref d] (PD:=[.v 0,.v 7]) true du (hv.more [.ref d] (.refl _)) (fun B O L Z1 l1=>
  .dictC (.z (l1 _ _ hd)) lw fun d2=>.al1 fun m1=>.setD 8 0 d2 x (fun U=>t) (.ref m1) rfl lw (.frz 8 0 fun Z2 l2 z2=>
  .facts [9,5,8] [(0,.lst [.v 1,.v 2])] (ρ':=[.ref m1,.ref e,.ref d2]) fun Z3 l3 h=>.tail (vs:=fun U=>[.ref b,.ref d2]) (fun U=>hb Z3 d2 m1 (l1.trans (l2.trans l3)) (l3 _ _ z2) h.1.lv) hP)) (cF rfl rfl OU)
theorem Cy {v b l tp e PT d : Addr}{x : Str}{t t2:Tok}{r:Bool}{P7:KV}{P:a8->Value->Prop}(hv:ac [.ref v,.ref b,.ref l,.ref tp,.str x t,.ref e,.ref PT,.str x2 t2,.ref e2,.bool r] Z yV)(hd:Z d=some (.dct P7))(hz:P7.length<=990)
  (hb:∀ Z1 d' l1 l2,Z.le Z1->Z1 d'=some (.dct (stored (stored P7 x (.ref l1)) x2 (.ref l2)))->Z1 l1=some (.lst [.ref e,.ref d'])->Z1 l2=some (.lst [.ref e2,.ref d'])->RT w c aw [.ref b,.ref d'] P Z1) (hP:∀ Z Z' v,Z.le Z'->P Z v->P Z' v):RT w (c+3) aw [.ref v,.ref d] P Z:=
 have Q3:∀ {u},(stored P7 x u).length<=1000:=Pg aG (aJ hz)
 bu (N:=11) [.ref v,.ref b,.ref l,.ref tp,.str x t,.ref e,.ref PT,.str x2 t2,.ref e2,.bool r,.ref d] (PD:=[.v 0,.v 10]) true du (hv.more [.ref d] (.refl _)) (fun B O L Z1 l1=>
  .dictC (.z (l1 _ _ hd)) lw fun d2=>.al1 fun m1=>.setD 11 0 d2 x (fun U=>t) (.ref m1) rfl lw (.al1 fun m2=>.setD 11 0 d2 x2 (fun U=>t2) (.ref m2) rfl Q3 (.frz 11 0 fun Z2 l2 z2=>
  .facts [12,5,11,13,8] [(0,.lst [.v 1,.v 2]),(3,.lst [.v 4,.v 2])] (ρ':=[.ref m1,.ref e,.ref d2,.ref m2,.ref e2]) fun Z3 l3 h=>.tail (vs:=fun U=>[.ref b,.ref d2]) (fun U=>hb Z3 d2 m1 m2 (l1.trans (l2.trans l3)) (l3 _ _ z2) h.1.lv h.2.1.lv) hP))) (cF rfl rfl OU)
def ux:List (Nat×aE):=[(0,.obj gI [(bG,.v 1),(am,.v 2),(bY,.v 3),(bn,.v 4)]),(3,.lst [.v 5]),(5,.obj oK [(i6,.v 6),(bX,.v 7),(aB,.v 8)]),(6,.tup [.str bW,.str bt,.v 9]),(7,.lst [])]
theorem Ac {v e al o a ky nl b d:Addr}{x:Str}{t tk:Tok}{k0 k:Int}{P7:KV}{P:a8->Value->Prop}(hv:ac [.ref v,.ref e,.str x t,.ref al,.ref o,.ref a,.ref ky,.ref nl,.ref b,.int k0 tk] Z ux)(hd:Z d=some (.dct P7))(hz:P7.length<=990)
  (he:RT w c aw [.ref e,.ref d] (iH k) Z) (hb:∀ Z1 d' u,Z.le Z1->Z1 d'=some (.dct (stored P7 x (.int k u)))->RT w c aw [.ref (if k0=k then b else o),.ref d'] P Z1) (hP:∀ Z Z' v,Z.le Z'->P Z v->P Z' v):RT w (c+3) aw [.ref v,.ref d] P Z:=by
 by_cases hk:k0=k
 ·have PG:(k0==k)=true:=by rw [hk];exact beq_self_eq_true k
  exact bu (N:=11) [.ref v,.ref e,.str x t,.ref al,.ref o,.ref a,.ref ky,.ref nl,.ref b,.int k0 tk,.ref d] (PD:=[.v 0,.v 10]) true du (hv.more [.ref d] (.refl _)) (fun B O L Z1 l1=>
  .rtI (vs:=fun U=>[.ref e,.ref d]) (fun U=>he.le l1 ll) fun u Z2 l2=>.dictC (.z ((l1.trans l2) _ _ hd)) lw fun d2=>.setD 12 0 d2 x (fun U=>t) (.int k u) rfl lw
   (.opb (.cmp .Eq) (fun U=>[.int k0 tk,.int k u]) true (fun tk h Q q=>kD (q _ (Pl _ PG))) (.frz 12 0 fun Z3 l3 z3=>.tail (vs:=fun U=>[.ref b,.ref d2]) (fun U=>(if_pos hk:(if k0=k then b else o)=b)▸hb Z3 d2 u (l1.trans (l2.trans l3)) z3) hP))) (cF rfl rfl OU)
 ·have PG:(k0==k)=false:=beq_eq_false_iff_ne.mpr hk;exact bu (N:=11) [.ref v,.ref e,.str x t,.ref al,.ref o,.ref a,.ref ky,.ref nl,.ref b,.int k0 tk,.ref d] (PD:=[.v 0,.v 10]) true du (hv.more [.ref d] (.refl _)) (fun B O L Z1 l1=>
  .rtI (vs:=fun U=>[.ref e,.ref d]) (fun U=>he.le l1 ll) fun u Z2 l2=>.dictC (.z ((l1.trans l2) _ _ hd)) lw fun d2=>.setD 12 0 d2 x (fun U=>t) (.int k u) rfl lw
   (.opb (.cmp .Eq) (fun U=>[.int k0 tk,.int k u]) false (fun tk h Q q=>kD (q _ (Pl _ PG))) (.frz 12 0 fun Z3 l3 z3=>.tail (vs:=fun U=>[.ref o,.ref d2]) (fun U=>(if_neg hk:(if k0=k then b else o)=o)▸hb Z3 d2 u (l1.trans (l2.trans l3)) z3) hP))) (cF rfl rfl OU)
def uy:List (Nat×aE):=[(0,.obj gI [(bG,.v 1),(am,.v 2),(bY,.v 3),(bn,.k .none)]),(3,.lst [.v 4]),(4,.obj oK [(i6,.v 5),(bX,.v 6),(aB,.v 7)]),(5,.tup [.str n9,.v 10]),(6,.lst [.v 8,.v 9])]
theorem Ad {v e al a ky nl b d:Addr}{x f g nm:Str}{t tf tg tn:Tok}{i j:Int}{P7:KV}{P:a8->Value->Prop}(hv:ac [.ref v,.ref e,.str x t,.ref al,.ref a,.ref ky,.ref nl,.ref b,.str f tf,.str g tg,.str nm tn] Z uy)(hd:Z d=some (.dct P7))(hz:P7.length<=990)
  (he:RT w c aw [.ref e,.ref d] (xm w .src cc i j) Z) (hb:∀ Z1 d' r u1 u2,Z.le Z1->Z1 d'=some (.dct (merged (stored P7 x r) (merged [] [(f,u1),(g,u2)])))->TH w .src cc i Z1 u1->TH w .src cc j Z1 u2->RT w c aw [.ref b,.ref d'] P Z1) (hP:∀ Z Z' v,Z.le Z'->P Z v->P Z' v):RT w (c+3) aw [.ref v,.ref d] P Z:=by
 have hn:Z nl=some (.lst [.str f tf,.str g tg]):=hv.2.2.2.2.1.lv;have hm:∀ {r u1 u2},(stored P7 x r).length+(merged [] [(f,u1),(g,u2)]).length<=1000:=fun {r u1 u2}=>by have:=@aG P7 x r;have:=merged_length_le (K:=Str) [] [(f,u1),(g,u2)];simp only [List.length_cons,List.length_nil] at this;lia
 refine bu (N:=12) [.ref v,.ref e,.str x t,.ref al,.ref a,.ref ky,.ref nl,.ref b,.str f tf,.str g tg,.str nm tn,.ref d] (PD:=[.v 0,.v 11]) true du (hv.more [.ref d] (.refl _)) (fun B O L Z1 l1=>.rt (vs:=fun U=>[.ref e,.ref d]) (fun U=>he.le l1 ll) fun r Z2 l2 p=>?_) (cF rfl rfl OU)
 obtain ⟨tp,Xl,Xm,tl,u1,u2,rfl,hf,p1,p2⟩:=p
 refine .fx (.v 12) 5 [.ref tp,.str Xl Xm,.ref tl,u1,u2] [12,13,14,15,16] [(12,.tup [.str n9,.v 13,.v 14]),(14,.lst [.v 15,.v 16])] hf (.dictC (.z ((l1.trans l2) _ _ hd)) lw fun d2=>.setD 17 0 d2 x (fun U=>t) (.ref tp) rfl lw
  (.zip (.z ((l1.trans l2) _ _ hn)) (.z hf.2.1.lv) fun z TI TO i1 i2=>.dictZ (z:=z) 18 (.z ((l1.trans l2) _ _ hn)) (.z hf.2.1.lv) fun d3=>.frz 23 0 (a:=d3) (c:=.dct (merged [] [(f,u1),(g,u2)])) fun Z3 l3 z3=>.update (d:=d2) 17 0 z3 hm (.frz 17 0 fun Z4 l4 z4=>.tail (vs:=fun U=>[.ref b,.ref d2]) (fun U=>hb Z4 d2 _ _ _ (l1.trans (l2.trans (l3.trans l4))) z4 (p1.le (l3.trans l4) ll) (p2.le (l3.trans l4) ll)) hP))) (ho:=(F4 p1.ok p2.ok :))
theorem Cz {P:Params}:bU P vd j8 2:=.mk2
theorem ny {P:Params}:bU P s8 bJ 1:=.mk1
theorem cv {P:Params}:bU P cu aC 2:=.mk2
def rq:List (Nat×aE):=[(0,.tup [.str am,.v 1])]
def rr:List (Nat×aE):=[(0,.tup [.str bW,.str bt,.v 1])]
def CA (Z:a8)(a:Addr)(x:Str):Prop:=∃ t,ac [.ref a,.str x t] Z rq
def MH (Z:a8)(a:Addr)(k:Int):Prop:=∃ t,ac [.ref a,.int k t] Z rr
def nz (Z:a8)(a:Addr)(P7:KV)(u:Value):Prop:=(∃ k t,u=.int k t/\ac [.ref a,.int k t] Z rr)\/∃ x,CA Z a x/\valueAt P7 x=some u
theorem nz.le{a:Addr}{P7:KV}{u:Value}(l:Z.le Z')(h:nz Z a P7 u):nz Z' a P7 u:=Or.imp (fun h=>iQ h fun k t e f=>me k t e (f.ext (.refl _) l)) (fun h=>bM h fun x f e=>bw x (oE f fun t f=>⟨t,f.ext (.refl _) l⟩) e) h
theorem jd {a d:Addr}{P7:KV}{u:Value}(h:nz Z a P7 u)(hd:Z d=some (.dct P7)):RT w 3 j8 [.ref a,.ref d] (fun U v=>v=u) Z:=by
 rcases h with ⟨k,t,rfl,f⟩ | ⟨x,⟨t,f⟩,hx⟩
 ·exact bu (N:=3) [.ref a,.int k t,.ref d] (PD:=[.v 0,.v 2]) true Cz (f.more [.ref d] (.refl _)) (fun B O L Z1 l1=>.finV 1 fun U U=>rfl) (cF rfl rfl OU)
 ·exact bu (N:=3) [.ref a,.str x t,.ref d] (PD:=[.v 0,.v 2]) true Cz (f.more [.ref d] (.refl _)) (fun B O L Z1 l1=>.itD (x:=x) (tx:=fun U=>t) (v:=u) (.z (l1 _ _ hd)) hx (.k (.k u) rfl (.finA (.ret (.k u)) fun U U U r=>r))) (cF rfl rfl OU)
theorem xn {k:Int}{t:Tok}:RT w 3 bJ [.int k t] (iH k) Z:=bu (N:=1) [.int k t] (PD:=[.int k]) (fz:=[]) true ny OU (fun B O L Z1 l1=>.finA (.ret (.int k)) fun U U U r=>r) ⟨⟨_,rfl⟩,OU⟩
theorem TH.forced {x:Int}{v:Value}(h:TH w .stg c x Z v)(hc:3<=c):RT w c bJ [v] (iH x) Z:=by
 rcases h with ⟨t,rfl⟩ | ⟨l,rfl,_,h⟩
 ·exact xn.le (.refl _) hc
 ·exact h
def Gj:List (Nat×aE):=[(0,.obj bh [(ck,.v 1),(aO,.v 2),(aB,.v 3),(aL,.k (.bool true))]),(2,.lst [])]
def Gk:List (Nat×aE):=[(0,.obj bh [(ck,.v 1),(aO,.v 2),(aB,.v 3),(aL,.k (.bool false))]),(2,.lst [.v 4])]
def Gl:List (Nat×aE):=[(0,.obj bh [(ck,.v 1),(aO,.v 2),(aB,.v 3),(aL,.k (.bool false))]),(2,.lst [.v 4,.v 5])]
theorem uz {l m f p b d:Addr}{P:a8->Value->Prop}(hl:Z l=some (.lst [.ref m,.ref d]))(hm:ac [.ref m,.ref f,.ref p,.ref b] Z Gj)(hb:RT w c aC [.ref b,.ref d] P Z)(hP:∀ Z Z' v,Z.le Z'->P Z v->P Z' v):RT w (c+3) bJ [.ref l] P Z:=
 bu (N:=6) [.ref m,.ref f,.ref p,.ref b,.ref l,.ref d] (PD:=[.v 4]) (fz:=(4,.lst [.v 0,.v 5])::Gj) true ny ⟨⟨l,_,rfl,hl,rfl,rfl,OU⟩,hm.more [.ref l,.ref d] (.refl _)⟩ (fun B O L Z1 l1=>.al1 fun U=>.tail (vs:=fun U=>[.ref b,.ref d]) (fun U=>hb.le l1 ll) hP) ⟨rfl,OU⟩
theorem w8 {l m f p b d:Addr}{x:Str}{t:Tok}(hl:Z l=some (.lst [.ref m,.ref d]))(hm:ac [.ref m,.ref f,.ref p,.ref b,.str x t] Z Gk):RT w 3 bJ [.ref l] (fun Z r=>w1 Z r b d x) Z:=
 bu (N:=7) [.ref m,.ref f,.ref p,.ref b,.str x t,.ref l,.ref d] (PD:=[.v 5]) (fz:=(5,.lst [.v 0,.v 6])::Gk) true ny ⟨⟨l,_,rfl,hl,rfl,rfl,OU⟩,hm.more [.ref l,.ref d] (.refl _)⟩ (fun B O L Z1 l1=>.al3 fun U p2 tp=>.finO (.ret (.v 9)) [9,8,3,6,4] w0 [] (ρ':=[.ref tp,.ref p2,.ref b,.ref d,.str x t]) fun Zs r U h U e=>⟨tp,p2,t,af.det e rfl,h⟩) ⟨rfl,OU⟩
theorem wa {l m f p b d:Addr}{x y:Str}{t u:Tok}(hl:Z l=some (.lst [.ref m,.ref d]))(hm:ac [.ref m,.ref f,.ref p,.ref b,.str x t,.str y u] Z Gl):RT w 3 bJ [.ref l] (fun Z r=>Cu Z r b d x y) Z:=
 bu (N:=8) [.ref m,.ref f,.ref p,.ref b,.str x t,.str y u,.ref l,.ref d] (PD:=[.v 6]) (fz:=(6,.lst [.v 0,.v 7])::Gl) true ny ⟨⟨l,_,rfl,hl,rfl,rfl,OU⟩,hm.more [.ref l,.ref d] (.refl _)⟩ (fun B O L Z1 l1=>.al3 fun U p2 tp=>.finO (.ret (.v 10)) [10,9,3,7,4,5] yT [] (ρ':=[.ref tp,.ref p2,.ref b,.ref d,.str x t,.str y u]) fun Zs r U h U e=>⟨tp,p2,t,u,af.det e rfl,h⟩) ⟨rfl,OU⟩
def lE:List (Nat×aE):=[(0,.obj hW [(fm,.v 1)])]
def rA:List (Nat×aE):=[(0,.obj dF [(am,.v 1),(aK,.v 2)]),(2,.lst [.v 3])]
def rB:List (Nat×aE):=[(0,.obj dF [(am,.v 1),(aK,.v 2)]),(2,.lst [.v 3,.v 4])]
def wb:List (Nat×aE):=[(0,.obj fT [(iN,.v 1),(aK,.v 2)]),(2,.lst [.v 3,.v 4])]
def lF:List (Nat×aE):=[(0,.obj di [(eB,.v 1),(aK,.v 2)]),(2,.lst [.v 3,.v 4])]
theorem rC {v a d:Addr}{u:Value}{P7:KV}{P:a8->Value->Prop}(hv:ac [.ref v,.ref a] Z lE)(ha:nz Z a P7 u)(hd:Z d=some (.dct P7))(hu:RT w c bJ [u] P Z)(hP:∀ Z Z' v,Z.le Z'->P Z v->P Z' v):RT w (c+4) aC [.ref v,.ref d] P Z:=bu (N:=3) [.ref v,.ref a,.ref d] (PD:=[.v 0,.v 2]) true cv (hv.more [.ref d] (.refl _)) (fun B O L Z1 l1=>.rt (vs:=fun U=>[.ref a,.ref d]) (fun U=>jd (ha.le l1) (l1 _ _ hd)) fun r Z2 l2 e=>.k (.k u) e (.tail (vs:=fun U=>[u]) (fun U=>hu.le (l1.trans l2) ll) hP)) (cF rfl rfl OU)
theorem xo {v l a d:Addr}{x:Str}{t:Tok}{f u:Value}{P7:KV}{P : a8->Value->Prop}(hv:ac [.ref v,.str x t,.ref l,.ref a] Z rA)(ha:nz Z a P7 u)(hd:Z d=some (.dct P7))(hx:valueAt P7 x=some f)(hf:RT w c bJ [f] PF Z)
  (hp:∀ Z1 r al,Z.le Z1->PF Z1 r->Z1 al=some (.lst [u])->RT w c bT [r,.ref al,.ref aC] P Z1) (hF:∀ Z Z' v,Z.le Z'->PF Z v->PF Z' v) (hP:∀ Z Z' v,Z.le Z'->P Z v->P Z' v):RT w (c+4) aC [.ref v,.ref d] P Z:=
 bu (N:=5) [.ref v,.str x t,.ref l,.ref a,.ref d] (PD:=[.v 0,.v 4]) true cv (hv.more [.ref d] (.refl _)) (fun B O L Z1 l1=>.itD (x:=x) (tx:=fun U=>t) (v:=f) (.z (l1 _ _ hd)) hx (.k (.k f) rfl (.rt (vs:=fun U=>[f]) (fun U=>hf.le l1 ll) fun r Z2 l2 p=>.k (.k r) rfl
  (.comp true (fi cu true) ((cv (P:=w.params)).env true L) fun U=>.rt (vs:=fun U=>[.ref a,.ref d]) (fun U=>jd (ha.le (l1.trans l2)) ((l1.trans l2) _ _ hd)) fun u' Z3 l3 e=>.k (.k u) e (.done [] ⟨by ac_rfl,fun al=>.see (i:=5) (c:=.lst [.k u]) fun Z4 l4 h=>.tail (vs:=fun U=>[r,.ref al,.ref aC]) (fun U=>hp Z4 r al (l1.trans (l2.trans (l3.trans l4))) (hF _ _ _ (l3.trans l4) p) h.lv) hP⟩))))) (cF rfl rfl OU)
theorem xp {v l a b d:Addr}{x:Str}{t:Tok}{f u u2:Value}{P7:KV}{P : a8->Value->Prop}(hv:ac [.ref v,.str x t,.ref l,.ref a,.ref b] Z rB)(ha:nz Z a P7 u)(hb:nz Z b P7 u2)(hd:Z d=some (.dct P7))(hx:valueAt P7 x=some f)(hf:RT w c bJ [f] PF Z)
  (hp:∀ Z1 r al,Z.le Z1->PF Z1 r->Z1 al=some (.lst [u,u2])->RT w c bT [r,.ref al,.ref aC] P Z1) (hF:∀ Z Z' v,Z.le Z'->PF Z v->PF Z' v) (hP:∀ Z Z' v,Z.le Z'->P Z v->P Z' v):RT w (c+4) aC [.ref v,.ref d] P Z:=
 bu (N:=6) [.ref v,.str x t,.ref l,.ref a,.ref b,.ref d] (PD:=[.v 0,.v 5]) true cv (hv.more [.ref d] (.refl _)) (fun B O L Z1 l1=>.itD (x:=x) (tx:=fun U=>t) (v:=f) (.z (l1 _ _ hd)) hx (.k (.k f) rfl (.rt (vs:=fun U=>[f]) (fun U=>hf.le l1 ll) fun r Z2 l2 p=>.k (.k r) rfl
  (.comp true (fi cu true) ((cv (P:=w.params)).env true L) fun U=>.rt (vs:=fun U=>[.ref a,.ref d]) (fun U=>jd (ha.le (l1.trans l2)) ((l1.trans l2) _ _ hd)) fun u' Z3 l3 e=>.k (.k u) e
  (.rt (vs:=fun U=>[.ref b,.ref d]) (fun U=>jd (hb.le (l1.trans (l2.trans l3))) ((l1.trans (l2.trans l3)) _ _ hd)) fun u' Z4 l4 e=>.k (.k u2) e (.done [] ⟨by ac_rfl,fun al=>.see (i:=6) (c:=.lst [.k u,.k u2]) fun Z5 l5 h=>.tail (vs:=fun U=>[r,.ref al,.ref aC]) (fun U=>hp Z5 r al (l1.trans (l2.trans (l3.trans (l4.trans l5)))) (hF _ _ _ (l3.trans (l4.trans l5)) p) h.lv) hP⟩)))))) (cF rfl rfl OU)
theorem Ae {v l a b d:Addr}{nm:Str}{t:Tok}{u u2:Value}{P7:KV}{P:a8->Value->Prop}(hv:ac [.ref v,.str nm t,.ref l,.ref a,.ref b] Z wb)(ha:nz Z a P7 u)(hb:nz Z b P7 u2)(ou:bA u=true)(ou2:bA u2=true)(hd:Z d=some (.dct P7))
  (hp:∀ Z1 tp tl,Z.le Z1->ac [.ref tp,.str nm t,.ref tl,u,u2] Z1 w3->P Z1 (.ref tp)):RT w 4 aC [.ref v,.ref d] P Z:=
 bu (N:=6) [.ref v,.str nm t,.ref l,.ref a,.ref b,.ref d] (PD:=[.v 0,.v 5]) true cv (hv.more [.ref d] (.refl _)) (fun B O L Z1 l1=>
  .comp true (fi cu true) ((cv (P:=w.params)).env true L) fun U=>.rt (vs:=fun U=>[.ref a,.ref d]) (fun U=>jd (ha.le l1) (l1 _ _ hd)) fun u' Z3 l3 e=>e▸.one (e▸ou)
  (.rt (vs:=fun U=>[.ref b,.ref d]) (fun U=>jd (hb.le (l1.trans l3)) ((l1.trans l3) _ _ hd)) fun u' Z4 l4 e=>e▸.one (e▸ou2) (.done [] ⟨by ac_rfl,fun al=>.al1 fun tp=>.finO (.ret (.v 9)) [9,1,8,6,7] w3 [] (ρ':=[.ref tp,.str nm t,.ref al,_,_]) fun Zs r l5 h U e=>(af.det e rfl:r=.ref tp)▸hp Zs tp al (l1.trans (l3.trans (l4.trans l5))) h⟩))) (cF rfl rfl OU)
theorem kz {v l a b d:Addr}{op:Str}{t ta tb:Tok}{x y:Int}{P7:KV}(hv:ac [.ref v,.str op t,.ref l,.ref a,.ref b] Z lF)(ha:nz Z a P7 (.int x ta))(hb:nz Z b P7 (.int y tb))(hd:Z d=some (.dct P7))
  (hm:op=ds->y.natAbs < 2 ^ 63) (Qc:op=fD\/op=ia\/op=ds):RT w 4 aC [.ref v,.ref d] (iH (Nl op x y)) Z:=
 bu (N:=6) [.ref v,.str op t,.ref l,.ref a,.ref b,.ref d] (PD:=[.v 0,.v 5]) true cv (hv.more [.ref d] (.refl _)) (fun B O L Z1 l1=>
  .rt (vs:=fun U=>[.ref a,.ref d]) (fun U=>jd (ha.le l1) (l1 _ _ hd)) fun u' Z3 l3 e=>.k (.k (.int x ta)) e
  (.rt (vs:=fun U=>[.ref b,.ref d]) (fun U=>jd (hb.le (l1.trans l3)) ((l1.trans l3) _ _ hd)) fun u' Z4 l4 e=>.k (.k (.int y tb)) e (.tail (vs:=fun U=>[.str op t,.int x ta,.int y tb]) (fun U=>yQ hm Qc) (fun U U U U p=>p)))) (cF rfl rfl OU)
noncomputable def eP (base PA:KV)(fs:List (Str×Tok)):KV:=fs.foldl (fun acc p=>stored acc p.1 ((valueAt PA p.1).getD .none)) base
theorem rD {PA:KV}:∀ {fs:List (Str×Tok)} {base:KV},(eP base PA fs).length<=base.length+fs.length
 | [],_=>Pm _
 | p::fs,base=>by have h1:=@rD PA fs (stored base p.1 ((valueAt PA p.1).getD .none));have h2:=@aG base p.1 ((valueAt PA p.1).getD .none);show (eP (stored base p.1 ((valueAt PA p.1).getD .none)) PA fs).length<=_;simp only [List.length_cons];exact bo h1 h2
theorem Af {PA : KV}{fs:List (Str×Tok)}{p:Str×Tok}{i:Nat}(h:fs[i]? =some p):eP base PA (fs.take (i+1))=stored (eP base PA (fs.take i)) p.1 ((valueAt PA p.1).getD .none):=by unfold eP;rw [List.take_add_one,h];simp [List.foldl_append]
noncomputable def bN (p:Str×Tok):Value:=.str p.1 p.2
theorem ae.lastO (i:Nat)(xs:List SV)(a:SV)(l:Addr)(g:ae w B O n env (t.nk a) ρ γ Z Q)(hi:autoParam (ρ[i]? =some (.ref l)) tac10)(Py:autoParam (((t.qop,(mq t.st.led i,dz t.sub2 && Nat.ble xs.length 100)),fun tk=>eO ρ tk 0 t.args)=((some (.sub t.sub1 t.sub2),(some (.lst (xs++[a])),true)),fun tk=>some [.ref l,.int (-1) (tk 1)])) tac0):ae w B O n env t ρ γ Z Q:=
 have h0:=Pc (Pc (ff Py)).2;have ho:=h0.1;have hx:=(OW h0.2).2;have hs:=(OW h0.2).1
 .opK (.sub t.sub1 t.sub2) (fun tk=>[.ref l,.int (-1) (tk 1)]) a (fun tk T h Zs ms R l1 H Q q=>by refine oE (jE ho) fun j hj=>?_;refine ju (ak.get H.re hj) fun Qs h2 h3 vs h4 h5=>?_;obtain ⟨b,c⟩:=Qs;rw [hi] at h3;cases h3;dsimp only at h4;subst h4;have hl:=h5.len;rw [List.length_append] at hl;have hl:xs.length+1=vs.length:=hl;have hb:=Pf hx;refine bM (ak.get h5 (i:=xs.length) (a:=a) (by rw [List.getElem?_append_right ll,Nat.sub_self];rfl)) fun x Vn SU=>?_;exact E8 (H.st.get _ (mD h2)).l OV (by lia) OV (by rw [show ((-1:Int)+(vs.length:Nat)).toNat=xs.length by lia];exact Vn) (q _ _ H.st SU) hs) g (Prod.ext (ff (ff Py)) (funext (pQ Py)))
inductive eQ (Z:a8)(m f p b:Addr)(u:Bool):Prop
 | mk (dx) (_:Z m=some (.ins bh dx)) (_:Z dx=some (.att [(ck,.ref f),(aO,.ref p),(aB,.ref b),(aL,.bool u)])):eQ Z m f p b u
theorem eQ.fact {m f p b:Addr}{u:Bool}{ρ:LV}{i j k l q:Nat}(h:eQ Z m f p b u)(hi:ρ[i]? =some (.ref m))(hj:ρ[j]? =some (.ref f))(hk:ρ[k]? =some (.ref p))(hl:ρ[l]? =some (.ref b))(hq:ρ[q]? =some (.bool u)):bK ρ Z i (.obj bh [(ck,.v j),(aO,.v k),(aB,.v l),(aL,.v q)]):=by obtain ⟨dx,h1,h2⟩:=h;exact ⟨m,dx,_,hi,h1,h2,⟨rfl,hj⟩,⟨rfl,hk⟩,⟨rfl,hl⟩,⟨rfl,hq⟩,OU⟩
def dS (P8:KV)(gd:Addr):KV:=stored (merged [] P8) aM (.ref gd)
inductive pC (Z:a8)(P8 PA:KV)(gd m:Addr)(fs:List (Str×Tok))(rw:Addr):Prop
 | mk (cp) (_:Z rw=some (.lst [.ref m,.ref cp])) (_:Z cp=some (.dct (eP (dS P8 gd) PA fs))):pC Z P8 PA gd m fs rw
theorem wc {P8:KV}{gd:Addr}(hz:P8.length<=10):(dS P8 gd).length<=11:=by have h1:=@aG (merged [] P8) aM (.ref gd);have h2:=merged_length_le (K:=Str) [] P8;unfold dS;simp only [List.length_nil] at h2;exact ja hz h1 h2
theorem yW {fs:List (Str×Tok)}:∀ a∈fs.map bN,bA a=true:=fun a ha=>by refine bM (Pa ha) fun p U PZ=>?_;subst PZ;rfl
theorem yX {fs:List (Str×Tok)}{i:Nat}{v:Value}(h:(fs.map bN)[i]? =some v):∃ p,fs[i]? =some p/\v=.str p.1 p.2:=by
 rw [List.getElem?_map] at h;cases e:fs[i]? with
 | none=>rw [e] at h;exact nS h
 | some p=>rw [e] at h;cases h;exact bw p rfl rfl
theorem ae.forS {B:Heap}{O:aP}{env:Env}{ρ:LV}{γ:List an}{t:IT SF}{Q:QQ SF}(F:FI)(E:bS env F)(j:Nat)(la:Addr)(fs:List (Str×Tok))(Γ:Nat->List an)(ha:Z la=some (.lst (fs.map bN)))(g0:γ=Γ 0)
  (step:∀ (i:Nat) q Z',fs[i]? =some q->Z.le Z'->ae w B O (n+2) env ((ex F 40).ss t.bdL ((t.st.hd t.nmL j).bd t.nmL j)) (ρ++[.str q.1 q.2]) (Γ i) Z' (Cq (t.st.hd t.nmL j) j t.nmL ρ (fun g U=>g=Γ (i+1)) Z'))
  (fin:∀ Z',Z.le Z'->ae w B O (n+2) env (t.nxS .next (t.st.hd t.nmL j)) ρ (Γ fs.length) Z' Q)
  (Py:autoParam (((t.isL && Cp t.st.nv (t.st.hd t.nmL j),(t.tgL,(look F.names t.nmL,(A0 (t.st.hd t.nmL j).loc t.nmL,(t.st.loc[j]?).map (·.1))))),fun tk=>eO ρ tk 0 t.args)=((true,(.Name t.nmL t.posL,(some .local,(some j,some t.nmL)))),fun tk=>some [.ref la])) tac0):ae w B O (n+2) env t ρ γ Z Q:=
 .forL F E j la (fs.map bN) (fun i g U=>g=Γ i) ha yW (fun U U=>g0) (fun i v γ' Z' hv l hj=>by
  refine bM (yX hv) fun p hp PQ=>?_;subst PQ;subst hj;exact .pl (step i p Z' hp l)) (fun γ' Z' l hj=>by rw [List.length_map] at hj;subst hj;exact fin Z' l) Py
theorem ow {P8 PA:KV}{gd:Addr}{fs:List (Str×Tok)}{i:Nat}(h:fs.length<=800)(hz:P8.length<=10):(eP (dS P8 gd) PA (fs.take i)).length<=1000:=by have h1:=@rD PA (fs.take i) (dS P8 gd);have h2:=wc (gd:=gd) hz;have h3:(fs.take i).length<=fs.length:=List.length_take_le' ..;lia
theorem jH {PA : KV}{fs:List (Str×Tok)}{p:Str×Tok}{i:Nat}{v:Value}{L:List an}(h:fs[i]? =some p)(hv:valueAt PA p.1=some v):an.dct (stored (eP base PA (fs.take i)) p.1 v)::L=an.dct (eP base PA (fs.take (i+1)))::L:=by rw [Af h,hv];rfl
theorem lZ {PA : KV}{fs:List (Str×Tok)}{o:Option an}(h:o=some (vS (.dct (eP base PA (fs.take fs.length))))):o=some (.dct (eP base PA fs)):=by rw [List.take_length] at h;exact h
theorem yY {P7:KV}(hz:P7.length<=980){x:Str}{v:Value}:(stored P7 x v).length<=1000:=Pg aG (aJ hz)
theorem F6 {P7:KV}(hz:P7.length<=980){x y:Str}{v u:Value}:(stored (stored P7 x v) y u).length<=1000:=Pg aG (Nat.succ_le_succ (Pg aG (aJ hz:P7.length+1<=999)))
def mE:List (Nat×aE):=[(0,.obj cV [(aR,.v 1),(aB,.v 2)]),(1,.lst [.v 3]),(3,.tup [.v 4,.v 5])]
theorem xq {v l b d gd : Addr}{u0:Bool}{P7 P8:KV}{P:a8->Value->Prop}(hv:ac [.ref v,.ref l,.ref b,.ref QV,.str x0 t0,.ref m0] Z mE)(Vo:eQ Z m0 f0 p0 q0 u0)(Vp:Z f0=some (.lst (Ql.map bN)))(Vq:Ql.length<=800)(Vr:∀ r0,∀ y∈Ql,(valueAt (stored P7 x0 r0) y.1).isSome=true)
  (hd:Z d=some (.dct P7)) (hg:valueAt P7 aM=some (.ref gd)) (Sj:Z gd=some (.dct P8)) (QX:P8.length<=10) (hz:P7.length<=980)
  (hb:∀ Z1 d2 PN,Z.le Z1->Z1 d2=some (.dct (stored P7 x0 (.ref PN)))->pC Z1 P8 (stored P7 x0 (.ref PN)) gd m0 Ql PN->RT w c aC [.ref b,.ref d2] P Z1) (hP:∀ Z Z' v,Z.le Z'->P Z v->P Z' v):RT w (c+4) aC [.ref v,.ref d] P Z:=by
 have hF:ac [.ref v,.ref l,.ref b,.ref QV,.str x0 t0,.ref m0,.ref f0,.ref d,.ref p0,.ref q0,.bool u0] Z [(0,.obj cV [(aR,.v 1),(aB,.v 2)]),(1,.lst [.v 3]),(3,.tup [.v 4,.v 5])]:=hv.pt [0,1,2,3,4,5];have TA:(merged [] P8).length<=1000:=by have h2:=merged_length_le (K:=Str) [] P8;simp only [List.length_nil] at h2;exact bo QX h2
 refine bu (N:=11) [.ref v,.ref l,.ref b,.ref QV,.str x0 t0,.ref m0,.ref f0,.ref d,.ref p0,.ref q0,.bool u0] (PD:=[.v 0,.v 7]) (fz:=(5,.obj bh [(ck,.v 6),(aO,.v 8),(aB,.v 9),(aL,.v 10)])::[(0,.obj cV [(aR,.v 1),(aB,.v 2)]),(1,.lst [.v 3]),(3,.tup [.v 4,.v 5])]) true cv ⟨Vo.fact rfl rfl rfl rfl rfl,hF⟩ (fun B O L Z1 l1=>?_) (cF rfl rfl OU);refine .dictC (.z (l1 _ _ hd)) (aJ hz) fun d2=>.al2 fun rl U=>.al2 fun Rn PN=>.lastO 12 [] (.v 15) rl (.setD 11 0 d2 x0 (fun U=>t0) (.ref PN) rfl (aJ hz) (?_))
 refine .itD (x:=aM) (tx:=fun tk=>tk 1) (v:=.ref gd) (.z (l1 _ _ hd)) hg (.one rfl (.opn 14 0 0 true (.update (d:=Rn) 14 0 (l1 _ _ Sj) (by simp only [List.length_nil];exact aJ QX)
  (.itD (x:=aM) (tx:=fun tk=>tk 1) (v:=.ref gd) (.z (l1 _ _ hd)) hg (.one rfl (.setD 14 0 Rn aM (fun tk=>tk 1) (.ref gd) rfl TA ?_))))))
 refine .forS (fi cu true) ((cv (P:=w.params)).env true L) 3 f0 Ql (fun i=>[.dct (eP (dS P8 gd) (stored P7 x0 (.ref PN)) (Ql.take i)),.dct (stored P7 x0 (.ref PN))]) (l1 _ _ Vp) rfl (fun i q Z' hq k'=>?_) fun Z2 k0=>?_
 ·have Qa:=Option.eq_some_of_isSome (Vr (.ref PN) q (Pn hq));exact .itD (x:=q.1) (tx:=fun U=>q.2) (.o d2 11 1) Qa (.k (.k _) rfl (.setD 14 0 Rn q.1 (fun U=>q.2) ((valueAt (stored P7 x0 (.ref PN)) q.1).get _) rfl (ow Vq QX) (.turn 0 0 (jH hq Qa) (.refl _))))
 exact .frz 14 0 (a:=Rn) (c:=.dct (eP (dS P8 gd) (stored P7 x0 (.ref PN)) (Ql.take Ql.length))) fun U h0 z0=>.frz 11 0 (a:=d2) (c:=.dct (stored P7 x0 (.ref PN))) fun U h9 z9=>.see (i:=15) (c:=.lst [.v 5,.v 14]) fun U g0 e0=>.tail (vs:=fun U=>[.ref b,.ref d2]) (fun U=>hb _ d2 PN (l1.trans (k0.trans (h0.trans (h9.trans g0)))) (g0 _ _ z9) ⟨Rn,e0.lv,(h9.trans g0) _ _ (lZ z0)⟩) hP
def mF:List (Nat×aE):=[(0,.obj cV [(aR,.v 1),(aB,.v 2)]),(1,.lst [.v 3,.v 6]),(3,.tup [.v 4,.v 5]),(6,.tup [.v 7,.v 8])]
theorem xr {v l b d gd : Addr}{u0 u1:Bool}{P7 P8:KV}{P:a8->Value->Prop}(hv:ac [.ref v,.ref l,.ref b,.ref QV,.str x0 t0,.ref m0,.ref QB,.str x1 t1,.ref m1] Z mF)(Vo:eQ Z m0 f0 p0 q0 u0)(Vp:Z f0=some (.lst (Ql.map bN)))(Vq:Ql.length<=800)(Vr:∀ r0 r1,∀ y∈Ql,(valueAt (stored (stored P7 x0 r0) x1 r1) y.1).isSome=true)(Xn:eQ Z m1 f1 p1 q1 u1)(RS:Z f1=some (.lst (Rd.map bN)))(PY:Rd.length<=800)(Tc:∀ r0 r1,∀ y∈Rd,(valueAt (stored (stored P7 x0 r0) x1 r1) y.1).isSome=true)
  (hd:Z d=some (.dct P7)) (hg:valueAt P7 aM=some (.ref gd)) (Sj:Z gd=some (.dct P8)) (QX:P8.length<=10) (hz:P7.length<=980)
  (hb:∀ Z1 d2 PN Q1,Z.le Z1->Z1 d2=some (.dct (stored (stored P7 x0 (.ref PN)) x1 (.ref Q1)))->pC Z1 P8 (stored (stored P7 x0 (.ref PN)) x1 (.ref Q1)) gd m0 Ql PN->pC Z1 P8 (stored (stored P7 x0 (.ref PN)) x1 (.ref Q1)) gd m1 Rd Q1->RT w c aC [.ref b,.ref d2] P Z1) (hP:∀ Z Z' v,Z.le Z'->P Z v->P Z' v):RT w (c+4) aC [.ref v,.ref d] P Z:=by
 have hF:ac [.ref v,.ref l,.ref b,.ref QV,.str x0 t0,.ref m0,.ref f0,.ref QB,.str x1 t1,.ref m1,.ref f1,.ref d,.ref p0,.ref q0,.bool u0,.ref p1,.ref q1,.bool u1] Z [(0,.obj cV [(aR,.v 1),(aB,.v 2)]),(1,.lst [.v 3,.v 7]),(3,.tup [.v 4,.v 5]),(7,.tup [.v 8,.v 9])]:=hv.pt [0,1,2,3,4,5,7,8,9];have TA:(merged [] P8).length<=1000:=by have h2:=merged_length_le (K:=Str) [] P8;simp only [List.length_nil] at h2;exact bo QX h2
 refine bu (N:=18) [.ref v,.ref l,.ref b,.ref QV,.str x0 t0,.ref m0,.ref f0,.ref QB,.str x1 t1,.ref m1,.ref f1,.ref d,.ref p0,.ref q0,.bool u0,.ref p1,.ref q1,.bool u1] (PD:=[.v 0,.v 11]) (fz:=(5,.obj bh [(ck,.v 6),(aO,.v 12),(aB,.v 13),(aL,.v 14)])::(9,.obj bh [(ck,.v 10),(aO,.v 15),(aB,.v 16),(aL,.v 17)])::[(0,.obj cV [(aR,.v 1),(aB,.v 2)]),(1,.lst [.v 3,.v 7]),(3,.tup [.v 4,.v 5]),(7,.tup [.v 8,.v 9])]) true cv (cF (Vo.fact rfl rfl rfl rfl rfl) (Xn.fact rfl rfl rfl rfl rfl) hF) (fun B O L Z1 l1=>?_) (cF rfl rfl OU);refine .dictC (.z (l1 _ _ hd)) (aJ hz) fun d2=>.al2 fun rl U=>.al2 fun Rn PN=>.lastO 19 [] (.v 22) rl (.setD 18 0 d2 x0 (fun U=>t0) (.ref PN) rfl (aJ hz) (.al2 fun Su Q1=>.lastO 19 [.v 22] (.v 24) rl (.setD 18 0 d2 x1 (fun U=>t1) (.ref Q1) rfl (yY hz) (?_))))
 refine .itD (x:=aM) (tx:=fun tk=>tk 1) (v:=.ref gd) (.z (l1 _ _ hd)) hg (.one rfl (.opn 21 1 0 true (.update (d:=Rn) 21 0 (l1 _ _ Sj) (by simp only [List.length_nil];exact aJ QX)
  (.itD (x:=aM) (tx:=fun tk=>tk 1) (v:=.ref gd) (.z (l1 _ _ hd)) hg (.one rfl (.setD 21 0 Rn aM (fun tk=>tk 1) (.ref gd) rfl TA ?_))))))
 refine .forS (fi cu true) ((cv (P:=w.params)).env true L) 3 f0 Ql (fun i=>[.dct (eP (dS P8 gd) (stored (stored P7 x0 (.ref PN)) x1 (.ref Q1)) (Ql.take i)),.dct (stored (stored P7 x0 (.ref PN)) x1 (.ref Q1))]) (l1 _ _ Vp) rfl (fun i q Z' hq k'=>?_) fun Z2 k0=>?_
 ·have Qa:=Option.eq_some_of_isSome (Vr (.ref PN) (.ref Q1) q (Pn hq));exact .itD (x:=q.1) (tx:=fun U=>q.2) (.o d2 18 1) Qa (.k (.k _) rfl (.setD 21 0 Rn q.1 (fun U=>q.2) ((valueAt (stored (stored P7 x0 (.ref PN)) x1 (.ref Q1)) q.1).get _) rfl (ow Vq QX) (.turn 0 0 (jH hq Qa) (.refl _))))
 refine .itD (x:=aM) (tx:=fun tk=>tk 1) (v:=.ref gd) (.z ((l1.trans k0) _ _ hd)) hg (.one rfl (.opn 23 0 0 true (.update (d:=Su) 23 0 ((l1.trans k0) _ _ Sj) (by simp only [List.length_nil];exact aJ QX)
  (.itD (x:=aM) (tx:=fun tk=>tk 1) (v:=.ref gd) (.z ((l1.trans k0) _ _ hd)) hg (.one rfl (.setD 23 0 Su aM (fun tk=>tk 1) (.ref gd) rfl TA ?_))))))
 refine .forS (fi cu true) ((cv (P:=w.params)).env true L) 3 f1 Rd (fun i=>[.dct (eP (dS P8 gd) (stored (stored P7 x0 (.ref PN)) x1 (.ref Q1)) (Rd.take i)),.dct (eP (dS P8 gd) (stored (stored P7 x0 (.ref PN)) x1 (.ref Q1)) (Ql.take Ql.length)),.dct (stored (stored P7 x0 (.ref PN)) x1 (.ref Q1))]) ((l1.trans k0) _ _ RS) rfl (fun i q Z' hq k'=>?_) fun Z3 k1=>?_
 ·have Qa:=Option.eq_some_of_isSome (Tc (.ref PN) (.ref Q1) q (Pn hq));exact .itD (x:=q.1) (tx:=fun U=>q.2) (.o d2 18 2) Qa (.k (.k _) rfl (.setD 23 0 Su q.1 (fun U=>q.2) ((valueAt (stored (stored P7 x0 (.ref PN)) x1 (.ref Q1)) q.1).get _) rfl (ow PY QX) (.turn 0 0 (jH hq Qa) (.refl _))))
 exact .frz 23 0 (a:=Su) (c:=.dct (eP (dS P8 gd) (stored (stored P7 x0 (.ref PN)) x1 (.ref Q1)) (Rd.take Rd.length))) fun U h1 z1=>.frz 21 0 (a:=Rn) (c:=.dct (eP (dS P8 gd) (stored (stored P7 x0 (.ref PN)) x1 (.ref Q1)) (Ql.take Ql.length))) fun U h0 z0=>.frz 18 0 (a:=d2) (c:=.dct (stored (stored P7 x0 (.ref PN)) x1 (.ref Q1))) fun U h9 z9=>.see (i:=22) (c:=.lst [.v 5,.v 21]) fun U g0 e0=>.see (i:=24) (c:=.lst [.v 9,.v 23]) fun U g1 e1=>.tail (vs:=fun U=>[.ref b,.ref d2]) (fun U=>hb _ d2 PN Q1 (l1.trans (k0.trans (k1.trans (h1.trans (h0.trans (h9.trans (g0.trans g1))))))) ((g0.trans g1) _ _ z9) ⟨Rn,(g1 _ _ e0.lv),(h9.trans (g0.trans g1)) _ _ (lZ z0)⟩ ⟨Su,e1.lv,(h0.trans (h9.trans (g0.trans g1))) _ _ (lZ z1)⟩) hP
def uA:List (Nat×aE):=[(0,.obj cV [(aR,.v 1),(aB,.v 2)]),(1,.lst [.v 3,.v 6,.v 9]),(3,.tup [.v 4,.v 5]),(6,.tup [.v 7,.v 8]),(9,.tup [.v 10,.v 11])]
theorem xt {v l b d gd PT : Addr}{t2 : Tok}{q2 : Addr}{u0 u1 u2:Bool}{TB : List (Str×Tok)}{P7 P8:KV}{P:a8->Value->Prop}(hv:ac [.ref v,.ref l,.ref b,.ref QV,.str x0 t0,.ref m0,.ref QB,.str x1 t1,.ref m1,.ref PT,.str x2 t2,.ref m2] Z uA)(Vo:eQ Z m0 f0 p0 q0 u0)(Vp:Z f0=some (.lst (Ql.map bN)))(Vq:Ql.length<=800)(Vr:∀ r0 r1 r2,∀ y∈Ql,(valueAt (stored (stored (stored P7 x0 r0) x1 r1) x2 r2) y.1).isSome=true)(Xn:eQ Z m1 f1 p1 q1 u1)(RS:Z f1=some (.lst (Rd.map bN)))(PY:Rd.length<=800)(Tc:∀ r0 r1 r2,∀ y∈Rd,(valueAt (stored (stored (stored P7 x0 r0) x1 r1) x2 r2) y.1).isSome=true)(R4:eQ Z m2 f2 p2 q2 u2)(SR:Z f2=some (.lst (TB.map bN)))(Qh:TB.length<=800)(UE:∀ r0 r1 r2,∀ y∈TB,(valueAt (stored (stored (stored P7 x0 r0) x1 r1) x2 r2) y.1).isSome=true)
  (hd:Z d=some (.dct P7)) (hg:valueAt P7 aM=some (.ref gd)) (Sj:Z gd=some (.dct P8)) (QX:P8.length<=10) (hz:P7.length<=980)
  (hb:∀ Z1 d2 PN Q1 Qv,Z.le Z1->Z1 d2=some (.dct (stored (stored (stored P7 x0 (.ref PN)) x1 (.ref Q1)) x2 (.ref Qv)))->pC Z1 P8 (stored (stored (stored P7 x0 (.ref PN)) x1 (.ref Q1)) x2 (.ref Qv)) gd m0 Ql PN->pC Z1 P8 (stored (stored (stored P7 x0 (.ref PN)) x1 (.ref Q1)) x2 (.ref Qv)) gd m1 Rd Q1->pC Z1 P8 (stored (stored (stored P7 x0 (.ref PN)) x1 (.ref Q1)) x2 (.ref Qv)) gd m2 TB Qv->RT w c aC [.ref b,.ref d2] P Z1) (hP:∀ Z Z' v,Z.le Z'->P Z v->P Z' v):RT w (c+4) aC [.ref v,.ref d] P Z:=by
 have hF:ac [.ref v,.ref l,.ref b,.ref QV,.str x0 t0,.ref m0,.ref f0,.ref QB,.str x1 t1,.ref m1,.ref f1,.ref PT,.str x2 t2,.ref m2,.ref f2,.ref d,.ref p0,.ref q0,.bool u0,.ref p1,.ref q1,.bool u1,.ref p2,.ref q2,.bool u2] Z [(0,.obj cV [(aR,.v 1),(aB,.v 2)]),(1,.lst [.v 3,.v 7,.v 11]),(3,.tup [.v 4,.v 5]),(7,.tup [.v 8,.v 9]),(11,.tup [.v 12,.v 13])]:=hv.pt [0,1,2,3,4,5,7,8,9,11,12,13];have TA:(merged [] P8).length<=1000:=by have h2:=merged_length_le (K:=Str) [] P8;simp only [List.length_nil] at h2;exact bo QX h2
 refine bu (N:=25) [.ref v,.ref l,.ref b,.ref QV,.str x0 t0,.ref m0,.ref f0,.ref QB,.str x1 t1,.ref m1,.ref f1,.ref PT,.str x2 t2,.ref m2,.ref f2,.ref d,.ref p0,.ref q0,.bool u0,.ref p1,.ref q1,.bool u1,.ref p2,.ref q2,.bool u2] (PD:=[.v 0,.v 15]) (fz:=(5,.obj bh [(ck,.v 6),(aO,.v 16),(aB,.v 17),(aL,.v 18)])::(9,.obj bh [(ck,.v 10),(aO,.v 19),(aB,.v 20),(aL,.v 21)])::(13,.obj bh [(ck,.v 14),(aO,.v 22),(aB,.v 23),(aL,.v 24)])::[(0,.obj cV [(aR,.v 1),(aB,.v 2)]),(1,.lst [.v 3,.v 7,.v 11]),(3,.tup [.v 4,.v 5]),(7,.tup [.v 8,.v 9]),(11,.tup [.v 12,.v 13])]) true cv (fu (Vo.fact rfl rfl rfl rfl rfl) (Xn.fact rfl rfl rfl rfl rfl) (R4.fact rfl rfl rfl rfl rfl) hF) (fun B O L Z1 l1=>?_) (cF rfl rfl OU);refine .dictC (.z (l1 _ _ hd)) (aJ hz) fun d2=>.al2 fun rl U=>.al2 fun Rn PN=>.lastO 26 [] (.v 29) rl (.setD 25 0 d2 x0 (fun U=>t0) (.ref PN) rfl (aJ hz) (.al2 fun Su Q1=>.lastO 26 [.v 29] (.v 31) rl (.setD 25 0 d2 x1 (fun U=>t1) (.ref Q1) rfl (yY hz) (.al2 fun Vs Qv=>.lastO 26 [.v 29,.v 31] (.v 33) rl (.setD 25 0 d2 x2 (fun U=>t2) (.ref Qv) rfl (F6 hz) (?_))))))
 refine .itD (x:=aM) (tx:=fun tk=>tk 1) (v:=.ref gd) (.z (l1 _ _ hd)) hg (.one rfl (.opn 28 2 0 true (.update (d:=Rn) 28 0 (l1 _ _ Sj) (by simp only [List.length_nil];exact aJ QX)
  (.itD (x:=aM) (tx:=fun tk=>tk 1) (v:=.ref gd) (.z (l1 _ _ hd)) hg (.one rfl (.setD 28 0 Rn aM (fun tk=>tk 1) (.ref gd) rfl TA ?_))))))
 refine .forS (fi cu true) ((cv (P:=w.params)).env true L) 3 f0 Ql (fun i=>[.dct (eP (dS P8 gd) (stored (stored (stored P7 x0 (.ref PN)) x1 (.ref Q1)) x2 (.ref Qv)) (Ql.take i)),.dct (stored (stored (stored P7 x0 (.ref PN)) x1 (.ref Q1)) x2 (.ref Qv))]) (l1 _ _ Vp) rfl (fun i q Z' hq k'=>?_) fun Z2 k0=>?_
 ·have Qa:=Option.eq_some_of_isSome (Vr (.ref PN) (.ref Q1) (.ref Qv) q (Pn hq));exact .itD (x:=q.1) (tx:=fun U=>q.2) (.o d2 25 1) Qa (.k (.k _) rfl (.setD 28 0 Rn q.1 (fun U=>q.2) ((valueAt (stored (stored (stored P7 x0 (.ref PN)) x1 (.ref Q1)) x2 (.ref Qv)) q.1).get _) rfl (ow Vq QX) (.turn 0 0 (jH hq Qa) (.refl _))))
 refine .itD (x:=aM) (tx:=fun tk=>tk 1) (v:=.ref gd) (.z ((l1.trans k0) _ _ hd)) hg (.one rfl (.opn 30 1 0 true (.update (d:=Su) 30 0 ((l1.trans k0) _ _ Sj) (by simp only [List.length_nil];exact aJ QX)
  (.itD (x:=aM) (tx:=fun tk=>tk 1) (v:=.ref gd) (.z ((l1.trans k0) _ _ hd)) hg (.one rfl (.setD 30 0 Su aM (fun tk=>tk 1) (.ref gd) rfl TA ?_))))))
 refine .forS (fi cu true) ((cv (P:=w.params)).env true L) 3 f1 Rd (fun i=>[.dct (eP (dS P8 gd) (stored (stored (stored P7 x0 (.ref PN)) x1 (.ref Q1)) x2 (.ref Qv)) (Rd.take i)),.dct (eP (dS P8 gd) (stored (stored (stored P7 x0 (.ref PN)) x1 (.ref Q1)) x2 (.ref Qv)) (Ql.take Ql.length)),.dct (stored (stored (stored P7 x0 (.ref PN)) x1 (.ref Q1)) x2 (.ref Qv))]) ((l1.trans k0) _ _ RS) rfl (fun i q Z' hq k'=>?_) fun Z3 k1=>?_
 ·have Qa:=Option.eq_some_of_isSome (Tc (.ref PN) (.ref Q1) (.ref Qv) q (Pn hq));exact .itD (x:=q.1) (tx:=fun U=>q.2) (.o d2 25 2) Qa (.k (.k _) rfl (.setD 30 0 Su q.1 (fun U=>q.2) ((valueAt (stored (stored (stored P7 x0 (.ref PN)) x1 (.ref Q1)) x2 (.ref Qv)) q.1).get _) rfl (ow PY QX) (.turn 0 0 (jH hq Qa) (.refl _))))
 refine .itD (x:=aM) (tx:=fun tk=>tk 1) (v:=.ref gd) (.z ((l1.trans (k0.trans k1)) _ _ hd)) hg (.one rfl (.opn 32 0 0 true (.update (d:=Vs) 32 0 ((l1.trans (k0.trans k1)) _ _ Sj) (by simp only [List.length_nil];exact aJ QX)
  (.itD (x:=aM) (tx:=fun tk=>tk 1) (v:=.ref gd) (.z ((l1.trans (k0.trans k1)) _ _ hd)) hg (.one rfl (.setD 32 0 Vs aM (fun tk=>tk 1) (.ref gd) rfl TA ?_))))))
 refine .forS (fi cu true) ((cv (P:=w.params)).env true L) 3 f2 TB (fun i=>[.dct (eP (dS P8 gd) (stored (stored (stored P7 x0 (.ref PN)) x1 (.ref Q1)) x2 (.ref Qv)) (TB.take i)),.dct (eP (dS P8 gd) (stored (stored (stored P7 x0 (.ref PN)) x1 (.ref Q1)) x2 (.ref Qv)) (Rd.take Rd.length)),.dct (eP (dS P8 gd) (stored (stored (stored P7 x0 (.ref PN)) x1 (.ref Q1)) x2 (.ref Qv)) (Ql.take Ql.length)),.dct (stored (stored (stored P7 x0 (.ref PN)) x1 (.ref Q1)) x2 (.ref Qv))]) ((l1.trans (k0.trans k1)) _ _ SR) rfl (fun i q Z' hq k'=>?_) fun Z4 k2=>?_
 ·have Qa:=Option.eq_some_of_isSome (UE (.ref PN) (.ref Q1) (.ref Qv) q (Pn hq));exact .itD (x:=q.1) (tx:=fun U=>q.2) (.o d2 25 3) Qa (.k (.k _) rfl (.setD 32 0 Vs q.1 (fun U=>q.2) ((valueAt (stored (stored (stored P7 x0 (.ref PN)) x1 (.ref Q1)) x2 (.ref Qv)) q.1).get _) rfl (ow Qh QX) (.turn 0 0 (jH hq Qa) (.refl _))))
 exact .frz 32 0 (a:=Vs) (c:=.dct (eP (dS P8 gd) (stored (stored (stored P7 x0 (.ref PN)) x1 (.ref Q1)) x2 (.ref Qv)) (TB.take TB.length))) fun U h2 z2=>.frz 30 0 (a:=Su) (c:=.dct (eP (dS P8 gd) (stored (stored (stored P7 x0 (.ref PN)) x1 (.ref Q1)) x2 (.ref Qv)) (Rd.take Rd.length))) fun U h1 z1=>.frz 28 0 (a:=Rn) (c:=.dct (eP (dS P8 gd) (stored (stored (stored P7 x0 (.ref PN)) x1 (.ref Q1)) x2 (.ref Qv)) (Ql.take Ql.length))) fun U h0 z0=>.frz 25 0 (a:=d2) (c:=.dct (stored (stored (stored P7 x0 (.ref PN)) x1 (.ref Q1)) x2 (.ref Qv))) fun U h9 z9=>.see (i:=29) (c:=.lst [.v 5,.v 28]) fun U g0 e0=>.see (i:=31) (c:=.lst [.v 9,.v 30]) fun U g1 e1=>.see (i:=33) (c:=.lst [.v 13,.v 32]) fun U g2 e2=>.tail (vs:=fun U=>[.ref b,.ref d2]) (fun U=>hb _ d2 PN Q1 Qv (l1.trans (k0.trans (k1.trans (k2.trans (h2.trans (h1.trans (h0.trans (h9.trans (g0.trans (g1.trans g2)))))))))) ((g0.trans (g1.trans g2)) _ _ z9) ⟨Rn,((g1.trans g2) _ _ e0.lv),(h9.trans (g0.trans (g1.trans g2))) _ _ (lZ z0)⟩ ⟨Su,(g2 _ _ e1.lv),(h0.trans (h9.trans (g0.trans (g1.trans g2)))) _ _ (lZ z1)⟩ ⟨Vs,e2.lv,(h1.trans (h0.trans (h9.trans (g0.trans (g1.trans g2))))) _ _ (lZ z2)⟩) hP
def nA:List (Nat×aE):=[(0,.obj cL [(cj,.v 1),(am,.v 2),(bY,.v 3),(bn,.v 4)]),(3,.lst [.v 5]),(5,.obj ka [(i6,.v 6),(bX,.v 7),(aB,.v 8)]),(6,.tup [.str bW,.str bt,.v 9]),(7,.lst [])]
theorem we {v e al o a ky nl b d:Addr}{x:Str}{t tk:Tok}{k0 k:Int}{P7:KV}{P:a8->Value->Prop}(hv:ac [.ref v,.ref e,.str x t,.ref al,.ref o,.ref a,.ref ky,.ref nl,.ref b,.int k0 tk] Z nA)(hd:Z d=some (.dct P7))(hz:P7.length<=990)
  (he:RT w c aC [.ref e,.ref d] (iH k) Z) (hb:∀ Z1 d' u,Z.le Z1->Z1 d'=some (.dct (stored P7 x (.int k u)))->RT w c aC [.ref (if k0=k then b else o),.ref d'] P Z1) (hP:∀ Z Z' v,Z.le Z'->P Z v->P Z' v):RT w (c+3) aC [.ref v,.ref d] P Z:=by
 by_cases hk:k0=k
 ·have PG:(k0==k)=true:=by rw [hk];exact beq_self_eq_true k
  exact bu (N:=11) [.ref v,.ref e,.str x t,.ref al,.ref o,.ref a,.ref ky,.ref nl,.ref b,.int k0 tk,.ref d] (PD:=[.v 0,.v 10]) true cv (hv.more [.ref d] (.refl _)) (fun B O L Z1 l1=>
  .rtI (vs:=fun U=>[.ref e,.ref d]) (fun U=>he.le l1 ll) fun u Z2 l2=>.dictC (.z ((l1.trans l2) _ _ hd)) lw fun d2=>.al1 fun U=>.setD 12 0 d2 x (fun U=>t) (.int k u) rfl lw
   (.opb (.cmp .Eq) (fun U=>[.int k0 tk,.int k u]) true (fun tk h Q q=>kD (q _ (Pl _ PG))) (.frz 12 0 (a:=d2) (c:=.dct _) fun Z3 l3 z3=>.tail (vs:=fun U=>[.ref b,.ref d2]) (fun U=>(if_pos hk:(if k0=k then b else o)=b)▸hb Z3 d2 u (l1.trans (l2.trans l3)) z3) hP))) (cF rfl rfl OU)
 ·have PG:(k0==k)=false:=beq_eq_false_iff_ne.mpr hk;exact bu (N:=11) [.ref v,.ref e,.str x t,.ref al,.ref o,.ref a,.ref ky,.ref nl,.ref b,.int k0 tk,.ref d] (PD:=[.v 0,.v 10]) true cv (hv.more [.ref d] (.refl _)) (fun B O L Z1 l1=>
  .rtI (vs:=fun U=>[.ref e,.ref d]) (fun U=>he.le l1 ll) fun u Z2 l2=>.dictC (.z ((l1.trans l2) _ _ hd)) lw fun d2=>.al1 fun U=>.setD 12 0 d2 x (fun U=>t) (.int k u) rfl lw
   (.opb (.cmp .Eq) (fun U=>[.int k0 tk,.int k u]) false (fun tk h Q q=>kD (q _ (Pl _ PG))) (.frz 12 0 (a:=d2) (c:=.dct _) fun Z3 l3 z3=>.tail (vs:=fun U=>[.ref o,.ref d2]) (fun U=>(if_neg hk:(if k0=k then b else o)=o)▸hb Z3 d2 u (l1.trans (l2.trans l3)) z3) hP))) (cF rfl rfl OU)
def je:List (Nat×aE):=[(0,.obj cL [(cj,.v 1),(am,.v 2),(bY,.v 3),(bn,.v 4)]),(3,.lst [])]
theorem jf {v e al o d:Addr}{x:Str}{t:Tok}{k:Int}{P7:KV}{P:a8->Value->Prop}(hv:ac [.ref v,.ref e,.str x t,.ref al,.ref o] Z je)(hd:Z d=some (.dct P7))(hz:P7.length<=990)
  (he:RT w c aC [.ref e,.ref d] (iH k) Z) (hb:∀ Z1 d' u,Z.le Z1->Z1 d'=some (.dct (stored P7 x (.int k u)))->RT w c aC [.ref o,.ref d'] P Z1) (hP:∀ Z Z' v,Z.le Z'->P Z v->P Z' v):RT w (c+3) aC [.ref v,.ref d] P Z:=
 bu (N:=6) [.ref v,.ref e,.str x t,.ref al,.ref o,.ref d] (PD:=[.v 0,.v 5]) true cv (hv.more [.ref d] (.refl _)) (fun B O L Z1 l1=>
  .rtI (vs:=fun U=>[.ref e,.ref d]) (fun U=>he.le l1 ll) fun u Z2 l2=>.dictC (.z ((l1.trans l2) _ _ hd)) lw fun d2=>.al1 fun U=>.setD 7 0 d2 x (fun U=>t) (.int k u) rfl lw
   (.frz 7 0 (a:=d2) (c:=.dct _) fun Z3 l3 z3=>.tail (vs:=fun U=>[.ref o,.ref d2]) (fun U=>hb Z3 d2 u (l1.trans (l2.trans l3)) z3) hP)) (cF rfl rfl OU)
def nC:List (Nat×aE):=[(0,.obj cL [(cj,.v 1),(am,.v 2),(bY,.v 3),(bn,.k .none)]),(3,.lst [.v 4]),(4,.obj ka [(i6,.v 5),(bX,.v 6),(aB,.v 7)]),(5,.tup [.str n9,.v 10]),(6,.lst [.v 8,.v 9])]
theorem wf {v e al a ky nl b d:Addr}{x f g nm:Str}{t tf tg tn:Tok}{i j:Int}{P7:KV}{P:a8->Value->Prop}(hv:ac [.ref v,.ref e,.str x t,.ref al,.ref a,.ref ky,.ref nl,.ref b,.str f tf,.str g tg,.str nm tn] Z nC)(hd:Z d=some (.dct P7))(hz:P7.length<=990)
  (he:RT w c aC [.ref e,.ref d] (xm w .stg cc i j) Z) (hb:∀ Z1 d' r u1 u2,Z.le Z1->Z1 d'=some (.dct (merged (stored P7 x r) (merged [] [(f,u1),(g,u2)])))->TH w .stg cc i Z1 u1->TH w .stg cc j Z1 u2->RT w c aC [.ref b,.ref d'] P Z1) (hP:∀ Z Z' v,Z.le Z'->P Z v->P Z' v):RT w (c+3) aC [.ref v,.ref d] P Z:=by
 have hn:Z nl=some (.lst [.str f tf,.str g tg]):=hv.2.2.2.2.1.lv;have hm:∀ {r u1 u2},(stored P7 x r).length+(merged [] [(f,u1),(g,u2)]).length<=1000:=fun {r u1 u2}=>by have:=@aG P7 x r;have:=merged_length_le (K:=Str) [] [(f,u1),(g,u2)];simp only [List.length_cons,List.length_nil] at this;lia
 refine bu (N:=12) [.ref v,.ref e,.str x t,.ref al,.ref a,.ref ky,.ref nl,.ref b,.str f tf,.str g tg,.str nm tn,.ref d] (PD:=[.v 0,.v 11]) true cv (hv.more [.ref d] (.refl _)) (fun B O L Z1 l1=>.rt (vs:=fun U=>[.ref e,.ref d]) (fun U=>he.le l1 ll) fun r Z2 l2 p=>?_) (cF rfl rfl OU)
 obtain ⟨tp,Xl,Xm,tl,u1,u2,rfl,hf,p1,p2⟩:=p
 refine .fx (.v 12) 5 [.ref tp,.str Xl Xm,.ref tl,u1,u2] [12,13,14,15,16] [(12,.tup [.str n9,.v 13,.v 14]),(14,.lst [.v 15,.v 16])] hf (.dictC (.z ((l1.trans l2) _ _ hd)) lw fun d2=>.al1 fun U=>.setD 17 0 d2 x (fun U=>t) (.ref tp) rfl lw
  (.zip (.z ((l1.trans l2) _ _ hn)) (.z hf.2.1.lv) fun z TI TO i1 i2=>.dictZ (z:=z) 19 (.z ((l1.trans l2) _ _ hn)) (.z hf.2.1.lv) fun d3=>.frz 24 0 (a:=d3) (c:=.dct (merged [] [(f,u1),(g,u2)])) fun Z3 l3 z3=>.update (d:=d2) 17 0 z3 hm (.frz 17 0 (a:=d2) (c:=.dct _) fun Z4 l4 z4=>.tail (vs:=fun U=>[.ref b,.ref d2]) (fun U=>hb Z4 d2 _ _ _ (l1.trans (l2.trans (l3.trans l4))) z4 (p1.le (l3.trans l4) ll) (p2.le (l3.trans l4) ll)) hP))) (ho:=(F4 p1.ok p2.ok :))
theorem Od {α:Type}{l:List α}(h:5=l.length):∃ a b c d e,l=[a,b,c,d,e]:=iQ (BI h) fun a m e h=>oE (Hf h) fun b y=>o3 y fun c d g k=>qB a b c (wu d g (by rw [e,k]))
theorem bU.mk4 {P:Params}{f:Addr}(hf:autoParam (∀ P,(KF P).lookup f=some (fo P9)) tac7)(cd:autoParam (∀ P,codeIn (KF P) P9.code P9.qualname=true) tac7)(body:autoParam (P9.body=.stmts (uQ P9)) tac0)(clo:autoParam (P9.closure=[]) tac0)
  (bind:autoParam (∀ a b c d,bindArgs P9 ⟨[a,b,c,d],[]⟩=pure ((eh P9).zip [a,b,c,d])) tac17) (kind:autoParam (((eh P9).all fun x=>match look P9.scope.names x with
  | some .local=>true
  | some .cell=>my (cW P9) x
  | _=>false)=true) tac0) (cs:autoParam (∀ L,cellsFrom (L+1) P9.scope.names []=bz (L+1) ((cW P9).map fun x=>(x,none)) []) tac7) (nd:autoParam ((lD P9).Nodup/\(cW P9).Nodup) tac3)
  (co:autoParam ((P9.scope.isCoroutine || (P9.scope.isGenerator || !decide (P9.scope.kind=.function)))=false) tac0) (gb:autoParam (P9.globals=mainGlobals/\P9.builtins=builtinsNs) tac15) (dbg:autoParam ((P9.scope.names.all fun p=>(p.1==("__debug__" :Str))==false && (p.1==("__classdict__" :Str))==false)=true) tac0):bU P P9 f 4:=⟨hf P,cd P,body,clo,fun vals h=>(by refine o3 (Hf h.symm) fun a b c YT=>?_;refine oE YT fun d PL=>?_;clear YT;subst PL;exact bind a b c d),kind,cs,nd,co,gb,dbg⟩
theorem bU.mk5 {P:Params}{f:Addr}(hf:autoParam (∀ P,(KF P).lookup f=some (fo P9)) tac7)(cd:autoParam (∀ P,codeIn (KF P) P9.code P9.qualname=true) tac7)(body:autoParam (P9.body=.stmts (uQ P9)) tac0)(clo:autoParam (P9.closure=[]) tac0)
  (bind:autoParam (∀ a b c d e,bindArgs P9 ⟨[a,b,c,d,e],[]⟩=pure ((eh P9).zip [a,b,c,d,e])) tac18) (kind:autoParam (((eh P9).all fun x=>match look P9.scope.names x with
  | some .local=>true
  | some .cell=>my (cW P9) x
  | _=>false)=true) tac0) (cs:autoParam (∀ L,cellsFrom (L+1) P9.scope.names []=bz (L+1) ((cW P9).map fun x=>(x,none)) []) tac7) (nd:autoParam ((lD P9).Nodup/\(cW P9).Nodup) tac3)
  (co:autoParam ((P9.scope.isCoroutine || (P9.scope.isGenerator || !decide (P9.scope.kind=.function)))=false) tac0) (gb:autoParam (P9.globals=mainGlobals/\P9.builtins=builtinsNs) tac15) (dbg:autoParam ((P9.scope.names.all fun p=>(p.1==("__debug__" :Str))==false && (p.1==("__classdict__" :Str))==false)=true) tac0):bU P P9 f 5:=⟨hf P,cd P,body,clo,fun vals h=>(by refine o3 (Od h.symm) fun a b c Ub=>?_;refine kC Ub fun d e PQ=>?_;clear Ub;subst PQ;exact bind a b c d e),kind,cs,nd,co,gb,dbg⟩
noncomputable def rE (P8 Px Pw:KV)(x:Str):KV:=if (valueAt Px x).isNone=true/\(valueAt P8 x).isNone=true then stored Pw x (.bool true) else Pw
def aY (P8 Px Pw:KV)(xs:List Str):KV:=xs.foldl (rE P8 Px) Pw
theorem CB {P8 Px Pw:KV}{x:Str}:(rE P8 Px Pw x).length<=Pw.length+1:=by
 unfold rE;split
 ·exact aG
 ·exact cZ
theorem fg {P8 Px:KV}{xs:List Str}{Pw:KV}:(aY P8 Px Pw xs).length<=Pw.length+xs.length:=by
 induction xs generalizing Pw with
 | nil=>exact Pm _
 | cons x xs ih=>have h1:=@ih (rE P8 Px Pw x);have h2:=@CB P8 Px Pw x;show (aY P8 Px (rE P8 Px Pw x) xs).length<=_;simp only [List.length_cons];exact bo h1 h2
theorem cw {P8 Px : KV}{xs ys:List Str}:aY P8 Px Pw (xs++ys)=aY P8 Px (aY P8 Px Pw xs) ys:=List.foldl_append
noncomputable def ch (Px:KV)(ns:List (Str×Tok)):KV:=ns.foldl (fun acc p=>stored acc p.1 (.bool true)) Px
theorem fY {ns:List (Str×Tok)}{Px:KV}:(ch Px ns).length<=Px.length+ns.length:=by
 induction ns generalizing Px with
 | nil=>exact Pm _
 | cons p ns ih=>have h1:=@ih (stored Px p.1 (.bool true));have h2:=@aG Px p.1 (.bool true);show (ch (stored Px p.1 (.bool true)) ns).length<=_;simp only [List.length_cons];exact bo h1 h2
theorem ox {x:Str}{Px:KV}:(valueAt (ch Px ns) x).isNone=((valueAt Px x).isNone && !(ns.map (·.1)).contains x):=by
 induction ns generalizing Px with
 | nil=>simp [ch]
 | cons p ns ih=>
  show (valueAt (ch (stored Px p.1 (.bool true)) ns) x).isNone=_;rw [ih,bZ]
  by_cases h:x=p.1
  ·simp [h]
  ·have h2:(x==p.1)=false:=beq_false_of_ne h;rw [if_neg h,List.map_cons,List.contains_cons,h2,Bool.false_or]
theorem gM {P8 Px:KV}{xs:List Str}:aY P8 (ch Px ns) Pw xs=aY P8 Px Pw (xs.filter fun x=> !(ns.map (·.1)).contains x):=by
 induction xs generalizing Pw with
 | nil=>rfl
 | cons x xs ih=>
  show aY P8 (ch Px ns) (rE P8 (ch Px ns) Pw x) xs=_;rw [ih,List.filter_cons]
  by_cases h:(ns.map (·.1)).contains x=true
  ·rw [show rE P8 (ch Px ns) Pw x=Pw from if_neg (by rw [ox,h];simp)];rw [h];rfl
  ·have h:(ns.map (·.1)).contains x=false:=by simpa using h
   rw [h];show _=aY P8 Px (rE P8 Px Pw x) _;congr 1;unfold rE;rw [ox,h];simp
def Hw:List (Nat×aE):=[(0,.obj ge [(dY,.v 1)])]
def bO (w:World)(f:Addr)(arg:Value)(n:Nat)(fl:List Str)(Z:a8):Prop:=
 ∀ (Z':a8) (fn gd bd fd:Addr) (P8 Px Pw:KV),Z.le Z'->ac [.ref fn,.ref gd] Z' Hw->Z' gd=some (.dct P8)->Z' bd=some (.dct Px)->Pw.length+n<=900->Px.length+n<=900->
  yF w n (call (.ref f) [.ref fn,arg,.ref bd,.ref fd]) fd (.dct Pw) (fun U v c=>v=.none/\c=.dct (aY P8 Px Pw fl)) Z'
theorem F7 {P:Params}:bU P nY eY 4:=.mk4
theorem bO.le {f:Addr}{arg:Value}{fl:List Str}{Z':a8}{n':Nat}(x:bO w f arg n fl Z)(l:Z.le Z')(hn:n<=n'):bO w f arg n' fl Z':=fun Z1 fn gd bd fd P8 Px Pw l1 h1 h2 h3 h4 h5 B O Z2 led h Q i l2 S e q=>(x Z1 fn gd bd fd P8 Px Pw (l.trans l1) h1 h2 h3 (bo hn h4) lw B O Z2 led h Q i l2 S e q).le hn
theorem bO.in{f:Addr}{fl:List Str}{N:Nat}(ρe:LV)(sv:SV)(SW:List (Nat×aE))(D:bU w.params P9 f 4)(hA:∀ fn gd bd fd:Addr,ac (.ref fn::.ref gd::.ref bd::.ref fd::ρe) Z SW)
  (g:∀ (fn gd bd fd:Addr) (P8 Px Pw:KV) B O L Z1,Z.le Z1->ac [.ref fn,.ref gd] Z1 Hw->Z1 gd=some (.dct P8)->Z1 bd=some (.dct Px)->Pw.length+(n+3)<=900->Px.length+(n+3)<=900->
   ae w B O (n+2) (callEnvC P9 L f) ((ex (fi P9 true) 60).ss (uQ P9) (start P9 [.v 0,sv,.v 2,.v 3] [.own 3 (.opq 2)] (Hw++SW) N)) (.ref fn::.ref gd::.ref bd::.ref fd::ρe) [.dct Pw] Z1 (yO 3 fd fun U v c=>v=.none/\c=.dct (aY P8 Px Pw fl)))
  (Xo:autoParam (∀ fn gd bd fd:Addr,af (.ref fn::.ref gd::.ref bd::.ref fd::ρe) sv arg) tac19) (hρ:autoParam (ρe.all bA=true) tac4) (hN:autoParam (4+ρe.length=N) tac4):bO w f arg (n+3) fl Z:=by intro Z1 fn gd bd fd P8 Px Pw l1 hf hg hb h1 h2;refine kx (.ref fn::.ref gd::.ref bd::.ref fd::ρe) (PD:=[.v 0,sv,.v 2,.v 3]) true 3 2 D (fz:=Hw++SW) ?_ (fun B O L Z2 l2=>g fn gd bd fd P8 Px Pw B O L Z2 (l1.trans l2) (hf.ext (.refl _) l2) (l2 _ _ hg) (l2 _ _ hb) h1 h2) (mV rfl (Xo fn gd bd fd) rfl rfl OU) rfl hρ (by rw [<- hN];simp only [List.length_cons];lia);exact ⟨(hf.ext (ρ':=.ref fn::.ref gd::.ref bd::.ref fd::ρe) ⟨_,rfl⟩ (.refl _)).1,(hA fn gd bd fd).ext (.refl _) l1⟩
theorem ae.free {B:Heap}{O:aP}{env:Env}{ρ:LV}{γ:List an}{α:Type}{t:IT α}{Q:QQ α}{f:Addr}{fl:List Str}{P8 Px : KV}(i g:Nat)(fn gd bd fd:Addr)(c:bO w f arg m fl Z)(hf:ac [.ref fn,.ref gd] Z Hw)(hg:Z gd=some (.dct P8))(hb:Z bd=some (.dct Px))(h1:Pw.length+m<=900)(h2:Px.length+m<=900)
  (k:∀ Z',Z.le Z'->ae w B O n env (t.nk (.k .none)) ρ (γ.set g (.dct (aY P8 Px Pw fl))) Z' Q) (hm:autoParam (m<=n) tac9) (hc:autoParam (γ[g]? =some (.dct Pw)) tac14)
  (Py:autoParam (qo t ρ i=ro 2 g (fun tk=>[.ref f,.ref fn,arg,.ref bd,.ref fd])) tac0) (ha:autoParam (ρ[i]? =some (.ref fd)) tac0):ae w B O n env t ρ γ Z Q:=
 .mt1 (P:=fun U v c=>v=.none/\c=.dct (aY P8 Px Pw fl)) (vs:=fun U=>[.ref f,.ref fn,arg,.ref bd,.ref fd]) i g (fun U=>c Z fn gd bd fd P8 Px Pw (.refl _) hf hg hb h1 h2) (fun v Z' c' l p=>by
  refine oA p fun Qu Qt=>?_;clear p;subst Qu;subst Qt;exact ⟨by rw [(Pc (Pc (ff Py)).2).1];rfl,.k (.k .none) rfl (k Z' l)⟩) hm (by have h:=Pc (ff Py);unfold qg rg;rw [h.1,(Pc h.2).2,(Pc Py).2]) ha hc
theorem m8 {x:Str}{t:Tok}:bO w eY (.str x t) 3 [x] Z:=by
 refine .in [.str x t] (.v 4) [] F7 (fun U U U U=>OU) fun fn gd bd fd P8 Px Pw B O L Z1 l1 hf hg hb h1 h2=>?_;cases e1:valueAt Px x with
 | some u=>
  have hx:aY P8 Px Pw [x]=Pw:=if_neg (by rw [e1];simp)
  exact .opB (.cmp .NotIn) (fun U=>[.str x t,.ref bd]) false (fun tk=>.at (.z hb) fun h Q hd q=>ls hd (q _ (by rw [e1];rfl)))
   (.finM 0 .next [] [] [] (ρ':=[]) fun U v U U U r=>⟨r,by rw [hx]⟩)
 | none=>
  cases e2:valueAt P8 x with
  | some u=>
   have hx:aY P8 Px Pw [x]=Pw:=if_neg (by rw [e2];simp)
   exact .opB (.cmp .NotIn) (fun U=>[.str x t,.ref bd]) true (fun tk=>.at (.z hb) fun h Q hd q=>ls hd (q _ (by rw [e1];rfl)))
    (.opB (.cmp .NotIn) (fun U=>[.str x t,.ref gd]) false (fun tk=>.at (.z hg) fun h Q hd q=>ls hd (q _ (by rw [e2];rfl)))
    (.finM 0 .next [] [] [] (ρ':=[]) fun U v U U U r=>⟨r,by rw [hx]⟩))
  | none=>
   have hx:aY P8 Px Pw [x]=stored Pw x (.bool true):=if_pos ⟨by rw [e1];rfl,by rw [e2];rfl⟩
   exact .opB (.cmp .NotIn) (fun U=>[.str x t,.ref bd]) true (fun tk=>.at (.z hb) fun h Q hd q=>ls hd (q _ (by rw [e1];rfl)))
    (.opB (.cmp .NotIn) (fun U=>[.str x t,.ref gd]) true (fun tk=>.at (.z hg) fun h Q hd q=>ls hd (q _ (by rw [e2];rfl)))
    (.setD 3 0 fd x (fun U=>t) (.bool true) rfl (aJ h1) (.finM 0 .next [] [] [] (ρ':=[]) fun U v U U U r=>⟨r,by rw [hx]⟩)))
theorem CC {P:Params}:bU P iw aZ 4:=.mk4
theorem oy {α:Type}{l:List α}{i:Nat}{x:α}(h:l[i]? =some x):l.take (i+1)=l.take i++[x]:=by rw [List.take_add_one,h];rfl
theorem jI {a fl p b:Addr}{u:Bool}{fs:List (Str×Tok)}(hm:eQ Z a fl p b u)(hl:Z fl=some (.lst (fs.map bN)))(hn:fs.length<=n):bO w aZ (.ref a) (n+6) (fs.map (·.1)) Z:=
 .in (n:=n+3) (N:=9) [.ref a,.ref fl,.ref p,.ref b,.bool u] (.v 4) [(4,.obj bh [(ck,.v 5),(aO,.v 6),(aB,.v 7),(aL,.v 8)])] CC (fun U U U U=>⟨hm.fact rfl rfl rfl rfl rfl,OU⟩) fun fn gd bd fd P8 Px Pw B O L Z1 l1 hf hg hb h1 h2=>
 .forS (fi iw true) ((CC (P:=w.params)).env true L) 4 fl fs (fun i=>[.dct (aY P8 Px Pw ((fs.take i).map (·.1)))]) (l1 _ _ hl) rfl
  (fun i q Z' hq l2=>.free (Pw:=aY P8 Px Pw ((fs.take i).map (·.1))) 3 0 fn gd bd fd (m8 (t:=q.2)) (hf.ext (.refl _) l2) (l2 _ _ hg) (l2 _ _ hb) (by have:=@fg P8 Px ((fs.take i).map (·.1)) Pw;have:(fs.take i).length<=fs.length:=List.length_take_le' ..;rw [List.length_map] at *;lia) lw
   fun Z3 l3=>.turn 0 0 (by rw [oy hq,List.map_append,cw];rfl) l3)
  fun Z' l2=>.finM (c:=.dct (aY P8 Px Pw ((fs.take fs.length).map (·.1)))) 0 .next [] [] [] (ρ':=[]) fun U v U U U r=>⟨r,by rw [List.take_length]⟩
def cg (Z:a8)(a:Addr):Option Str->Prop
 | some x=>CA Z a x
 | none=>∃ k,MH Z a k
theorem cg.le{a:Addr}{o:Option Str}(l:Z.le Z')(h:cg Z a o):cg Z' a o:=match o,h with
 | some _,⟨t,h⟩=>⟨t,h.ext (.refl _) l⟩
 | none,⟨k,t,h⟩=>wu k t (h.ext (.refl _) l)
noncomputable def CD {α:Type}(p:Addr×α):Value:=.ref p.1
theorem F8 {α:Type}{as:List (Addr×α)}:∀ a∈as.map CD,bA a=true:=fun a ha=>by refine bM (Pa ha) fun p U R5=>?_;subst R5;rfl
theorem F9 {α:Type}{as:List (Addr×α)}{i:Nat}{v:Value}(h:(as.map CD)[i]? =some v):∃ p,as[i]? =some p/\v=.ref p.1:=by
 rw [List.getElem?_map] at h;cases e:as[i]? with
 | none=>rw [e] at h;exact nS h
 | some p=>rw [e] at h;cases h;exact bw p rfl rfl
noncomputable def wx (as:List (Addr×Option Str)):List Str:=as.filterMap (·.2)
theorem wg {P:Params}:bU P j9 eq 4:=.mk4
theorem iX {al:Addr}{as:List (Addr×Option Str)}(hl:Z al=some (.lst (as.map CD)))(ha:∀ p∈as,cg Z p.1 p.2)(hn:as.length<=n):bO w eq (.ref al) (n+6) (wx as) Z:=by
 refine .in (n:=n+3) (N:=5) [.ref al] (.v 4) [] wg (fun U U U U=>OU) fun fn gd bd fd P8 Px Pw B O L Z1 l1 hf hg hb h1 h2=>?_;refine .forL (fi j9 true) ((wg (P:=w.params)).env true L) 4 al (as.map CD) (fun i g U=>g=[.dct (aY P8 Px Pw (wx (as.take i)))]) (l1 _ _ hl) F8 (fun U U=>rfl) (fun i v γ' Z' hv l2 j=>?_) fun γ' Z' l2 j=>?_
 ·refine bM (F9 hv) fun Xp hp Sn=>?_;obtain ⟨a,o⟩:=Xp;subst Sn;have hz:=@fg P8 Px (wx (as.take i)) Pw;have Q3:(wx (as.take i)).length<=as.length:=Pg (List.length_filterMap_le ..) (List.length_take_le' ..);have Wg:=(ha _ (Pn hp)).le (l1.trans l2);have e:wx (as.take (i+1))=wx (as.take i)++o.toList:=by unfold wx;rw [oy hp,List.filterMap_append];cases o<;>rfl
  rw [e,cw];subst j;cases o with
  | some x=>
   refine oE Wg fun t hx=>?_;clear Wg
   exact .mk [.str x t] [(5,.tup [.str am,.v 6])] rfl (hx.pt [5,6] (PJ:=[(5,.tup [.str am,.v 6])])).mem
    (.free (Pw:=aY P8 Px Pw (wx (as.take i))) 3 0 fn gd bd fd (m8 (t:=t)) (hf.ext (.refl _) l2) (l2 _ _ hg) (l2 _ _ hb) (by lia) (aJ h2) fun Z3 l3=>.turn 0 0 rfl l3)
  | none=>refine kC Wg fun k t hx=>?_;clear Wg;exact .mk [.int k t] [(5,.tup [.str bW,.str bt,.v 6])] rfl (hx.pt [5,6] (PJ:=[(5,.tup [.str bW,.str bt,.v 6])])).mem (.turn 0 0 rfl (.refl _))
 ·subst j;exact .finM (c:=.dct (aY P8 Px Pw (wx (as.take (as.map CD).length)))) 0 .next [] [] [] (ρ':=[]) fun U v U U U r=>⟨r,by rw [List.length_map,List.take_length]⟩
theorem wh {P:Params}:bU P mS iE 2:=.mk2
theorem dA {bd nl:Addr}{Px:KV}(hb:Z bd=some (.dct Px))(hn:Z nl=some (.lst (ns.map bN)))(hz:Px.length+ns.length<=900):RT w 5 iE [.ref bd,.ref nl] (fun Z r=>∃ d,r=.ref d/\Z d=some (.dct (ch Px ns))) Z:=
 bu (n:=2) (N:=2) [.ref bd,.ref nl] (PD:=[.v 0,.v 1]) (fz:=[]) true wh OU (fun B O L Z1 l1=>.dictC (.z (l1 _ _ hb)) lw fun d2=>
  .forS (fi mS true) ((wh (P:=w.params)).env true L) 3 nl ns (fun i=>[.dct (ch Px (ns.take i))]) (l1 _ _ hn) rfl
   (fun i q Z' hq l2=>.setD 2 0 d2 q.1 (fun U=>q.2) (.bool true) rfl (by have:=@fY (ns.take i) Px;have:(ns.take i).length<=ns.length:=List.length_take_le' ..;lia) (.turn 0 0 (by rw [oy hq];unfold ch;rw [List.foldl_append];rfl) (.refl _)))
   fun Z' l2=>.finO (.ret (.v 2)) [] [] [(2,0)] (ρ':=[]) fun Zs v l hf hO r=>bw d2 (af.det r rfl) (by have:=hO.1 d2 _ rfl rfl;rw [List.take_length] at this;exact this)) (cF rfl rfl OU)
theorem fP {P:Params}:bU P cM ah 4:=.mk4
theorem rF {v a:Addr}{o:Option Str}(hv:ac [.ref v,.ref a] Z lE)(ha:cg Z a o):bO w ah (.ref v) 8 o.toList Z:=by refine .in (n:=5) (N:=6) [.ref v,.ref a] (.v 4) [(4,.obj hW [(fm,.v 5)])] fP (fun U U U U=>hv.pt [4,5]) fun fn gd bd fd P8 Px Pw B O L Z1 l1 hf hg hb h1 h2=>.al1 fun l2=>.see (i:=6) (c:=.lst [.v 5]) fun Z2 l2 h=>?_;refine .free (Pw:=Pw) 3 0 fn gd bd fd (iX (n:=1) (as:=[(a,o)]) h.lv (fun p hp=>by rcases List.mem_singleton.mp hp with rfl;exact ha.le (l1.trans l2)) ll) (hf.ext (.refl _) l2) (l2 _ _ hg) (l2 _ _ hb) lw lw fun Z3 l3=>?_;exact .finM (c:=.dct (aY P8 Px Pw (wx [(a,o)]))) 0 .next [] [] [] (ρ':=[]) fun U v U U U r=>⟨r,by cases o<;>rfl⟩
noncomputable def uB (os:List (Option Str)):List Str:=os.filterMap id
theorem Oe {a:Addr}{o:Option Str}:wx [(a,o)]=uB [o]:=by cases o<;>rfl
theorem Hx {a b:Addr}{o : Option Str}:wx [(a,o),(b,o2)]=uB [o,o2]:=by cases o<;>cases o2<;>rfl
theorem Of{a:Addr}{o:Option Str}(ha:cg Z a o)(l:Z.le Z'):∀ p∈[(a,o)],cg Z' p.1 p.2:=fun p hp=>by rcases List.mem_singleton.mp hp with rfl;exact ha.le l
theorem Hy{a b:Addr}{o : Option Str}(ha:cg Z a o)(hb:cg Z b o2)(l:Z.le Z'):∀ p∈[(a,o),(b,o2)],cg Z' p.1 p.2:=fun p hp=>by
 rcases OY hp with rfl | hp
 ·exact ha.le l
 ·rcases List.mem_singleton.mp hp with rfl;exact hb.le l
theorem xu {v l a:Addr}{x:Str}{t:Tok}{o:Option Str}(hv:ac [.ref v,.str x t,.ref l,.ref a] Z rA)(ha:cg Z a o):bO w ah (.ref v) 11 ([x]++uB [o]) Z:=
 .in (n:=8) (N:=8) [.ref v,.str x t,.ref l,.ref a] (.v 4) [(4,.obj dF [(am,.v 5),(aK,.v 6)]),(6,.lst [.v 7])] fP (fun U U U U=>hv.pt [4,5,6,7]) fun fn gd bd fd P8 Px Pw B O L Z1 l1 hf hg hb h1 h2=>
  .free (Pw:=Pw) 3 0 fn gd bd fd (m8 (t:=t)) hf hg hb (aJ h1) lw fun Z2 l2=>
  .free (Pw:=aY P8 Px Pw [x]) 3 0 fn gd bd fd (iX (n:=1) (as:=[(a,o)]) ((l1.trans l2) _ _ hv.2.1.lv) (Of ha (l1.trans l2)) ll) (hf.ext (.refl _) l2) (l2 _ _ hg) (l2 _ _ hb) (by have:=@fg P8 Px [x] Pw;simp only [List.length_cons,List.length_nil] at this;exact bo h1 this) lw fun Z3 l3=>.finM (c:=.dct (aY P8 Px (aY P8 Px Pw [x]) (wx [(a,o)]))) 0 .next [] [] [] (ρ':=[]) fun U v U U U r=>⟨r,by rw [cw,Oe]⟩
theorem xw {v l a b:Addr}{x:Str}{t:Tok}{o : Option Str}(hv:ac [.ref v,.str x t,.ref l,.ref a,.ref b] Z rB)(ha:cg Z a o)(Rt:cg Z b o2):bO w ah (.ref v) 11 ([x]++uB [o,o2]) Z:=
 .in (n:=8) (N:=9) [.ref v,.str x t,.ref l,.ref a,.ref b] (.v 4) [(4,.obj dF [(am,.v 5),(aK,.v 6)]),(6,.lst [.v 7,.v 8])] fP (fun U U U U=>hv.pt [4,5,6,7,8]) fun fn gd bd fd P8 Px Pw B O L Z1 l1 hf hg hb h1 h2=>
  .free (Pw:=Pw) 3 0 fn gd bd fd (m8 (t:=t)) hf hg hb (aJ h1) lw fun Z2 l2=>
  .free (Pw:=aY P8 Px Pw [x]) 3 0 fn gd bd fd (iX (n:=2) (as:=[(a,o),(b,o2)]) ((l1.trans l2) _ _ hv.2.1.lv) (Hy ha Rt (l1.trans l2)) ll) (hf.ext (.refl _) l2) (l2 _ _ hg) (l2 _ _ hb) (by have:=@fg P8 Px [x] Pw;simp only [List.length_cons,List.length_nil] at this;exact bo h1 this) lw fun Z3 l3=>.finM (c:=.dct (aY P8 Px (aY P8 Px Pw [x]) (wx [(a,o),(b,o2)]))) 0 .next [] [] [] (ρ':=[]) fun U v U U U r=>⟨r,by rw [cw,Hx]⟩
theorem Ag {v l a b:Addr}{x:Str}{t:Tok}{o : Option Str}(hv:ac [.ref v,.str x t,.ref l,.ref a,.ref b] Z wb)(ha:cg Z a o)(Rt:cg Z b o2):bO w ah (.ref v) 11 (uB [o,o2]) Z:=
 .in (n:=8) (N:=9) [.ref v,.str x t,.ref l,.ref a,.ref b] (.v 4) [(4,.obj fT [(iN,.v 5),(aK,.v 6)]),(6,.lst [.v 7,.v 8])] fP (fun U U U U=>hv.pt [4,5,6,7,8]) fun fn gd bd fd P8 Px Pw B O L Z1 l1 hf hg hb h1 h2=>
  .free (Pw:=Pw) 3 0 fn gd bd fd (iX (n:=2) (as:=[(a,o),(b,o2)]) (l1 _ _ hv.2.1.lv) (Hy ha Rt l1) ll) hf hg hb lw lw fun Z3 l3=>.finM (c:=.dct (aY P8 Px Pw (wx [(a,o),(b,o2)]))) 0 .next [] [] [] (ρ':=[]) fun U v U U U r=>⟨r,by rw [Hx]⟩
theorem xx {v l a b:Addr}{x:Str}{t:Tok}{o : Option Str}(hv:ac [.ref v,.str x t,.ref l,.ref a,.ref b] Z lF)(ha:cg Z a o)(Rt:cg Z b o2):bO w ah (.ref v) 11 (uB [o,o2]) Z:=
 .in (n:=8) (N:=9) [.ref v,.str x t,.ref l,.ref a,.ref b] (.v 4) [(4,.obj di [(eB,.v 5),(aK,.v 6)]),(6,.lst [.v 7,.v 8])] fP (fun U U U U=>hv.pt [4,5,6,7,8]) fun fn gd bd fd P8 Px Pw B O L Z1 l1 hf hg hb h1 h2=>
  .free (Pw:=Pw) 3 0 fn gd bd fd (iX (n:=2) (as:=[(a,o),(b,o2)]) (l1 _ _ hv.2.1.lv) (Hy ha Rt l1) ll) hf hg hb lw lw fun Z3 l3=>.finM (c:=.dct (aY P8 Px Pw (wx [(a,o),(b,o2)]))) 0 .next [] [] [] (ρ':=[]) fun U v U U U r=>⟨r,by rw [Hx]⟩
theorem CE {P:Params}:bU P ld bp 4:=.mk4
noncomputable def wo (ns:List Str)(fl:List Str):List Str:=fl.filter fun x=> !ns.contains x
theorem uC {ns fl:List Str}:(wo ns fl).length<=fl.length:=List.length_filter_le ..
theorem CF {v e al a ky nl b:Addr}{x f g nm:Str}{t tf tg tn:Tok}(hv:ac [.ref v,.ref e,.str x t,.ref al,.ref a,.ref ky,.ref nl,.ref b,.str f tf,.str g tg,.str nm tn] Z nC)(hb:bO w ah (.ref b) m fb Z):bO w bp (.ref v) (m+8) (wo [f,g] fb) Z:=by
 refine .in (n:=m+5) (N:=15) [.ref v,.ref e,.str x t,.ref al,.ref a,.ref ky,.ref nl,.ref b,.str f tf,.str g tg,.str nm tn] (.v 4) [(4,.obj cL [(cj,.v 5),(am,.v 6),(bY,.v 7),(bn,.k .none)]),(7,.lst [.v 8]),(8,.obj ka [(i6,.v 9),(bX,.v 10),(aB,.v 11)]),(9,.tup [.str n9,.v 14]),(10,.lst [.v 12,.v 13])] CE
  (fun U U U U=>hv.pt [4,5,6,7,8,9,10,11,12,13,14]) fun fn gd bd fd P8 Px Pw B O L Z1 l1 hf hg Qw h1 h2=>?_
 refine .rt (vs:=fun U=>[.ref bd,.ref nl]) (fun U=>dA (ns:=[(f,tf),(g,tg)]) Qw (l1 _ _ hv.2.2.2.2.1.lv) (by symm;exact aJ h2)) fun r Z2 l2 p=>?_;refine bM p fun d2 PL hd2=>?_;clear p;subst PL;refine .one rfl (.free (Pw:=Pw) 3 0 fn gd d2 fd (hb.le (l1.trans l2) ll) (hf.ext (.refl _) l2) (l2 _ _ hg) hd2 (aJ h1) (by have:=@fY [(f,tf),(g,tg)] Px;simp only [List.length_cons,List.length_nil] at this;exact bo h2 this) fun Z3 l3=>?_);exact .finM (c:=.dct (aY P8 (ch Px [(f,tf),(g,tg)]) Pw fb)) 0 .next [] [] [] (ρ':=[]) fun U v U U U r=>⟨r,by rw [gM];rfl⟩
theorem CG {v e al o a ky nl b:Addr}{x:Str}{t tk:Tok}{k0:Int}{fo : List Str}(hv:ac [.ref v,.ref e,.str x t,.ref al,.ref o,.ref a,.ref ky,.ref nl,.ref b,.int k0 tk] Z nA)(hb:bO w ah (.ref b) m fb Z){io:Nat}(ho:bO w ah (.ref o) io fo Z)(hn:fb.length<=m):bO w bp (.ref v) (m+io+8) (fb++fo) Z:=by
 refine .in (n:=m+io+5) (N:=14) [.ref v,.ref e,.str x t,.ref al,.ref o,.ref a,.ref ky,.ref nl,.ref b,.int k0 tk] (.v 4) [(4,.obj cL [(cj,.v 5),(am,.v 6),(bY,.v 7),(bn,.v 8)]),(7,.lst [.v 9]),(9,.obj ka [(i6,.v 10),(bX,.v 11),(aB,.v 12)]),(10,.tup [.str bW,.str bt,.v 13]),(11,.lst [])] CE
  (fun U U U U=>hv.pt [4,5,6,7,8,9,10,11,12,13]) fun fn gd bd fd P8 Px Pw B O L Z1 l1 hf hg Qw h1 h2=>?_
 refine .rt (vs:=fun U=>[.ref bd,.ref nl]) (fun U=>dA (ns:=[]) Qw (l1 _ _ hv.2.2.2.2.1.lv) (by simp only [List.length_nil];exact aJ h2)) fun r Z2 l2 p=>?_;refine bM p fun d2 PZ hd2=>?_;clear p;subst PZ;refine .one rfl (.free (Pw:=Pw) 3 0 fn gd d2 fd (hb.le (l1.trans l2) ll) (hf.ext (.refl _) l2) (l2 _ _ hg) hd2 (aJ h1) (by show Px.length+m<=900;exact aJ h2) fun Z3 l3=>?_);refine .opb (.cmp .IsNot) (fun U=>[.ref o,.none]) true (fun tk h Q q=>lq (q _ rfl)) ?_;refine .free (Pw:=aY P8 Px Pw fb) 3 0 fn gd bd fd (ho.le (l1.trans (l2.trans l3)) ll) (hf.ext (.refl _) (l2.trans l3)) ((l2.trans l3) _ _ hg) ((l2.trans l3) _ _ Qw) (by have:=@fg P8 Px fb Pw;exact ja hn h1 this) (aJ h2) fun Z4 l4=>?_;exact .finM (c:=.dct (aY P8 Px (aY P8 Px Pw fb) fo)) 0 .next [] [] [] (ρ':=[]) fun U v U U U r=>⟨r,by rw [cw]⟩
theorem CH {v e al o:Addr}{x:Str}{t:Tok}{fo:List Str}(hv:ac [.ref v,.ref e,.str x t,.ref al,.ref o] Z je)(ho:bO w ah (.ref o) m fo Z):bO w bp (.ref v) (m+8) fo Z:=by
 refine .in (n:=m+5) (N:=9) [.ref v,.ref e,.str x t,.ref al,.ref o] (.v 4) [(4,.obj cL [(cj,.v 5),(am,.v 6),(bY,.v 7),(bn,.v 8)]),(7,.lst [])] CE
  (fun U U U U=>hv.pt [4,5,6,7,8]) fun fn gd bd fd P8 Px Pw B O L Z1 l1 hf hg Qw h1 h2=>?_
 refine .opb (.cmp .IsNot) (fun U=>[.ref o,.none]) true (fun tk h Q q=>lq (q _ rfl)) ?_;exact .free (Pw:=Pw) 3 0 fn gd bd fd (ho.le l1 ll) hf hg Qw (aJ h1) lw fun Z4 l4=>.finM (c:=.dct (aY P8 Px Pw fo)) 0 .next [] [] [] (ρ':=[]) fun U v U U U r=>⟨r,rfl⟩
inductive uD (Z:a8)(v e:Addr)(x:Str)(t:Tok)(al o:Value):Prop
 | mk (dx) (_:Z v=some (.ins cL dx)) (_:Z dx=some (.att [(cj,.ref e),(am,.str x t),(bY,al),(bn,o)])):uD Z v e x t al o
theorem rG {v e:Addr}{x:Str}{t:Tok}{al o:Value}{fe : List Str}(hv:uD Z v e x t al o)(he:bO w ah (.ref e) m fe Z)(hb:bO w bp (.ref v) ib fb Z)(hn:fe.length<=m):bO w ah (.ref v) (m+ib+8) (fe++wo [x] fb) Z:=by
 refine .in (n:=m+ib+5) (N:=7) [.ref v,.ref e,.str x t] (.v 4) [(4,.obj cL [(cj,.v 5),(am,.v 6),(bY,.k al),(bn,.k o)])] fP
  (fun U U U U=>⟨(by obtain ⟨dx,h1,h2⟩:=hv;exact ⟨v,dx,_,rfl,h1,h2,⟨rfl,rfl⟩,⟨rfl,rfl⟩,⟨rfl,rfl⟩,⟨rfl,rfl⟩,OU⟩),OU⟩) fun fn gd bd fd P8 Px Pw B O L Z1 l1 hf hg Qw h1 h2=>?_
 refine .free (Pw:=Pw) 3 0 fn gd bd fd (he.le l1 ll) hf hg Qw (aJ h1) lw fun Z2 l2=>.al1 fun nl=>.see (i:=7) (c:=.lst [.v 6]) fun Z3 l3 h=>?_;refine .rt (vs:=fun U=>[.ref bd,.ref nl]) (fun U=>dA (ns:=[(x,t)]) ((l2.trans l3) _ _ Qw) h.lv (by symm;exact aJ h2)) fun r Z4 l4 p=>?_;refine bM p fun d2 PQ hd2=>?_;clear p;subst PQ;refine .one rfl (.free (Pw:=aY P8 Px Pw fe) 3 0 fn gd d2 fd (hb.le (l1.trans (l2.trans (l3.trans l4))) ll) (hf.ext (.refl _) (l2.trans (l3.trans l4))) ((l2.trans (l3.trans l4)) _ _ hg) hd2 (by have:=@fg P8 Px fe Pw;exact ja hn h1 this) (by have:=@fY [(x,t)] Px;simp only [List.length_cons,List.length_nil] at this;exact bo h2 this) fun Z5 l5=>?_);exact .finM (c:=.dct (aY P8 (ch Px [(x,t)]) (aY P8 Px Pw fe) fb)) 0 .next [] [] [] (ρ':=[]) fun U v U U U r=>⟨r,by rw [cw,gM];rfl⟩
theorem ae.listD {B:Heap}{O:aP}{env:Env}{ρ:LV}{γ:List an}{α:Type}{t:IT α}{Q:QQ α}{d:Addr}{P7:KV}(hd:fk w B O env t.st ρ γ Z d (.dct P7))(hz:P7.length<=1000)
  (g:∀ (l:Addr) (ps:List (Str×Tok)) Z',Z.le Z'->ps.map (·.1)=P7.map (·.1)->Z' l=some (.lst (ps.map bN))->Co w B O env n t ρ γ Z' Q (.ref l))
  (Py:autoParam (qa t ρ=ra .call (fun tk=>[.type "list",.ref d])) tac0):ae w B O n env t ρ γ Z Q:=
 ae.askT (vs:=fun U=>[.type "list",.ref d]) (ff Py) (pQ Py) fun tk T h Zs ms R l H=>Eo H.st (hd T h Zs ms R l H) hz fun a ps h' hp Pz=>by refine d6 Pz.swap.fzw fun Z' l' z PE=>?_;exact (g a ps Z' (l.trans l') hp z).ans H l' PE H.re H.co
theorem CI {P:Params}:bU P md dE 3:=.mk3
theorem rH {fn gd pl sb:Addr}{P8:KV}{ps:List (Str×Tok)}{fl:List Str}(hf:ac [.ref fn,.ref gd] Z Hw)(hg:Z gd=some (.dct P8))(hp:Z pl=some (.lst (ps.map bN)))(hb:bO w ah (.ref sb) m fl Z)(hn:fl.length<=m)(hm:m<=800)(h2:ps.length<=20):
  RT w (m+8) dE [.ref fn,.ref pl,.ref sb] (fun Z r=>∃ (a:Addr) (fs:List (Str×Tok)),r=.ref a/\Z a=some (.lst (fs.map bN))/\fs.map (·.1)=(aY P8 (ch [] ps) [] fl).map (·.1)) Z:=by refine bu (n:=m+5) (N:=4) [.ref fn,.ref gd,.ref pl,.ref sb] (PD:=[.v 0,.v 2,.v 3]) true CI (hf.more [.ref pl,.ref sb] (.refl _)) (fun B O L Z1 l1=>.al2 fun fd YU=>.opn 5 0 0 true (.frz 5 0 (a:=YU) (c:=.dct []) fun Z2 l2 z2=>.rt (vs:=fun U=>[.ref YU,.ref pl]) (fun U=>dA (ns:=ps) z2 ((l1.trans l2) _ _ hp) (by simp only [List.length_nil];exact aJ h2)) fun r Z3 l3 p=>?_)) (fu rfl rfl rfl OU);refine bM p fun d2 Q4 hd2=>?_;clear p;subst Q4;have hw:=@fY ps [];have hk:=@fg P8 (ch [] ps) fl [];simp only [List.length_nil] at hw hk;refine .one rfl (.opn 4 0 0 true (.free (Pw:=[]) 4 0 fn gd d2 fd (hb.le (l1.trans (l2.trans l3)) ll) (hf.ext (.refl _) (l1.trans (l2.trans l3))) ((l1.trans (l2.trans l3)) _ _ hg) hd2 (by simp only [List.length_nil];exact aJ hm) (ja hm h2 hw) fun Z4 l4=>?_));exact .listD (d:=fd) (P7:=aY P8 (ch [] ps) [] fl) (.o fd 4 0) (ja hn hm hk) fun l fs Z5 l5 e z=>.k (.k (.ref l)) rfl (.finA (.ret (.k (.ref l))) fun Zs v l6 r=>yf l fs r (l6 _ _ z) e)
structure FE (Z:a8)(fn gd bd:Addr)(P8 Px:KV):Prop where
 f:ac [.ref fn,.ref gd] Z Hw
 g:Z gd=some (.dct P8)
 b:Z bd=some (.dct Px)
theorem ae.freeA {B:Heap}{O:aP}{env:Env}{ρ:LV}{γ:List an}{α:Type}{t:IT α}{Q:QQ α}{f:Addr}{fl:List Str}{P8 Px : KV}{fn gd bd:Addr}{y:Nat}(dn:List Str)(i g:Nat)(fd:Addr)(l:Z0.le Z)(I:FE Z fn gd bd P8 Px)(c:bO w f arg m fl Z0)(hn:fl.length<=m)(h1:(aY P8 Px Pw dn).length+(m+y)<=900)(h2:Px.length+m<=900)
  (k:∀ Z',Z0.le Z'->FE Z' fn gd bd P8 Px->(aY P8 Px Pw (dn++fl)).length+y<=900->ae w B O n env (t.nk (.k .none)) ρ (γ.set g (.dct (aY P8 Px Pw (dn++fl)))) Z' Q) (hm:autoParam (m<=n) tac9) (hc:autoParam (γ[g]? =some (.dct (aY P8 Px Pw dn))) tac14)
  (Py:autoParam (qo t ρ i=ro 2 g (fun tk=>[.ref f,.ref fn,arg,.ref bd,.ref fd])) tac0) (ha:autoParam (ρ[i]? =some (.ref fd)) tac0):ae w B O n env t ρ γ Z Q:=
 .free i g fn gd bd fd (c.le l ll) I.f I.g I.b (aJ h1) h2 (fun Z' l'=>by have e:=@fg P8 Px fl (aY P8 Px Pw dn);rw [<- cw] at e ⊢;exact k Z' (l.trans l') ⟨I.f.ext (.refl _) l',l' _ _ I.g,l' _ _ I.b⟩ (ja hn h1 e)) hm hc Py ha
theorem xy {v l b : Addr}(hv:ac [.ref v,.ref l,.ref b,.ref QV,.str x0 t0,.ref m0] Z mE)(q0:bO w aZ (.ref m0) i0 Rf Z)(n0:Rf.length<=i0)(hb:bO w ah (.ref b) ib fb Z):bO w ah (.ref v) (i0+ib+12) (wo [x0] (Rf++(fb))) Z:=by
 refine .in (n:=i0+ib+9) (N:=10) [.ref v,.ref l,.ref b,.ref QV,.str x0 t0,.ref m0] (.v 4) [(4,.obj cV [(aR,.v 5),(aB,.v 6)]),(5,.lst [.v 7]),(7,.tup [.v 8,.v 9])] fP
  (fun U U U U=>hv.pt [4,5,6,7,8,9]) fun fn gd bd fd P8 Px Pw B O L Z1 l1 hf hg Qw h1 h2=>?_
 refine .comp true (fi cM true) ((fP (P:=w.params)).env true L) fun U=>.done [] ⟨by ac_rfl,fun nl=>.see (i:=10) (c:=.lst [.v 8]) fun Z2 l2 h=>?_⟩;refine .rt (vs:=fun U=>[.ref bd,.ref nl]) (fun U=>dA (ns:=[(x0,t0)]) (l2 _ _ Qw) h.lv (by symm;exact aJ h2)) fun r Z3 l3 p=>?_;refine bM p fun d2 Qu hd2=>?_;clear p;subst Qu;have hw:=@fY [(x0,t0)] Px;simp only [List.length_cons,List.length_nil] at hw;have fz:Pw.length+(i0+(ib+(0)))<=900:=aJ h1;have I:FE Z3 fn gd d2 P8 (ch Px [(x0,t0)]):=⟨hf.ext (.refl _) (l2.trans l3),(l2.trans l3) _ _ hg,hd2⟩
 have l:=l1.trans (l2.trans l3);clear hf hg Qw h l1 l2 l3;generalize Vt:ch Px [(x0,t0)]=bk at*;refine .one rfl (.freeA (Pw:=Pw) ([]) 3 0 fd l I q0 n0 fz (bo h2 hw) fun U l I fz=>.free (Pw:=aY P8 bk Pw ([]++Rf)) 3 0 fn gd d2 fd (hb.le l ll) I.f I.g I.b lw (bo h2 hw) fun U U=>?_);exact .finM (c:=.dct (aY P8 bk (aY P8 bk Pw ([]++Rf)) fb)) 0 .next [] [] [] (ρ':=[]) fun U v U U U r=>⟨r,by rw [<- Vt,<- cw,gM];simp only [List.nil_append,List.append_assoc];rfl⟩
theorem xz {v l b : Addr}(hv:ac [.ref v,.ref l,.ref b,.ref QV,.str x0 t0,.ref m0,.ref QB,.str x1 t1,.ref m1] Z mF)(q0:bO w aZ (.ref m0) i0 Rf Z)(n0:Rf.length<=i0)(q1:bO w aZ (.ref m1) i1 Ss Z)(n1:Ss.length<=i1)(hb:bO w ah (.ref b) ib fb Z):bO w ah (.ref v) (i0+i1+ib+12) (wo [x0,x1] (Rf++(Ss++(fb)))) Z:=by
 refine .in (n:=i0+i1+ib+9) (N:=13) [.ref v,.ref l,.ref b,.ref QV,.str x0 t0,.ref m0,.ref QB,.str x1 t1,.ref m1] (.v 4) [(4,.obj cV [(aR,.v 5),(aB,.v 6)]),(5,.lst [.v 7,.v 10]),(7,.tup [.v 8,.v 9]),(10,.tup [.v 11,.v 12])] fP
  (fun U U U U=>hv.pt [4,5,6,7,8,9,10,11,12]) fun fn gd bd fd P8 Px Pw B O L Z1 l1 hf hg Qw h1 h2=>?_
 refine .comp true (fi cM true) ((fP (P:=w.params)).env true L) fun U=>.done [] ⟨by ac_rfl,fun nl=>.see (i:=13) (c:=.lst [.v 8,.v 11]) fun Z2 l2 h=>?_⟩;refine .rt (vs:=fun U=>[.ref bd,.ref nl]) (fun U=>dA (ns:=[(x0,t0),(x1,t1)]) (l2 _ _ Qw) h.lv (by symm;exact aJ h2)) fun r Z3 l3 p=>?_;refine bM p fun d2 Qt hd2=>?_;clear p;subst Qt;have hw:=@fY [(x0,t0),(x1,t1)] Px;simp only [List.length_cons,List.length_nil] at hw;have fz:Pw.length+(i0+(i1+(ib+(0))))<=900:=aJ h1;have I:FE Z3 fn gd d2 P8 (ch Px [(x0,t0),(x1,t1)]):=⟨hf.ext (.refl _) (l2.trans l3),(l2.trans l3) _ _ hg,hd2⟩
 have l:=l1.trans (l2.trans l3);clear hf hg Qw h l1 l2 l3;generalize Vt:ch Px [(x0,t0),(x1,t1)]=bk at*;refine .one rfl (.freeA (Pw:=Pw) ([]) 3 0 fd l I q0 n0 fz (bo h2 hw) fun U l I fz=>.freeA (Pw:=Pw) ([]++Rf) 3 0 fd l I q1 n1 fz (bo h2 hw) fun U l I fz=>.free (Pw:=aY P8 bk Pw ([]++Rf++Ss)) 3 0 fn gd d2 fd (hb.le l ll) I.f I.g I.b lw (bo h2 hw) fun U U=>?_);exact .finM (c:=.dct (aY P8 bk (aY P8 bk Pw ([]++Rf++Ss)) fb)) 0 .next [] [] [] (ρ':=[]) fun U v U U U r=>⟨r,by rw [<- Vt,<- cw,gM];simp only [List.nil_append,List.append_assoc];rfl⟩
theorem xA {v l b PT : Addr}{t2 : Tok}{Vu : List Str}(hv:ac [.ref v,.ref l,.ref b,.ref QV,.str x0 t0,.ref m0,.ref QB,.str x1 t1,.ref m1,.ref PT,.str x2 t2,.ref m2] Z uA)(q0:bO w aZ (.ref m0) i0 Rf Z)(n0:Rf.length<=i0)(q1:bO w aZ (.ref m1) i1 Ss Z)(n1:Ss.length<=i1)(q2:bO w aZ (.ref m2) i2 Vu Z)(n2:Vu.length<=i2)(hb:bO w ah (.ref b) ib fb Z):bO w ah (.ref v) (i0+i1+i2+ib+12) (wo [x0,x1,x2] (Rf++(Ss++(Vu++(fb))))) Z:=by
 refine .in (n:=i0+i1+i2+ib+9) (N:=16) [.ref v,.ref l,.ref b,.ref QV,.str x0 t0,.ref m0,.ref QB,.str x1 t1,.ref m1,.ref PT,.str x2 t2,.ref m2] (.v 4) [(4,.obj cV [(aR,.v 5),(aB,.v 6)]),(5,.lst [.v 7,.v 10,.v 13]),(7,.tup [.v 8,.v 9]),(10,.tup [.v 11,.v 12]),(13,.tup [.v 14,.v 15])] fP
  (fun U U U U=>hv.pt [4,5,6,7,8,9,10,11,12,13,14,15]) fun fn gd bd fd P8 Px Pw B O L Z1 l1 hf hg Qw h1 h2=>?_
 refine .comp true (fi cM true) ((fP (P:=w.params)).env true L) fun U=>.done [] ⟨by ac_rfl,fun nl=>.see (i:=16) (c:=.lst [.v 8,.v 11,.v 14]) fun Z2 l2 h=>?_⟩;refine .rt (vs:=fun U=>[.ref bd,.ref nl]) (fun U=>dA (ns:=[(x0,t0),(x1,t1),(x2,t2)]) (l2 _ _ Qw) h.lv (by symm;exact aJ h2)) fun r Z3 l3 p=>?_;refine bM p fun d2 R5 hd2=>?_;clear p;subst R5;have hw:=@fY [(x0,t0),(x1,t1),(x2,t2)] Px;simp only [List.length_cons,List.length_nil] at hw;have fz:Pw.length+(i0+(i1+(i2+(ib+(0)))))<=900:=aJ h1;have I:FE Z3 fn gd d2 P8 (ch Px [(x0,t0),(x1,t1),(x2,t2)]):=⟨hf.ext (.refl _) (l2.trans l3),(l2.trans l3) _ _ hg,hd2⟩
 have l:=l1.trans (l2.trans l3);clear hf hg Qw h l1 l2 l3;generalize Vt:ch Px [(x0,t0),(x1,t1),(x2,t2)]=bk at*;refine .one rfl (.freeA (Pw:=Pw) ([]) 3 0 fd l I q0 n0 fz (bo h2 hw) fun U l I fz=>.freeA (Pw:=Pw) ([]++Rf) 3 0 fd l I q1 n1 fz (bo h2 hw) fun U l I fz=>.freeA (Pw:=Pw) ([]++Rf++Ss) 3 0 fd l I q2 n2 fz (bo h2 hw) fun U l I fz=>.free (Pw:=aY P8 bk Pw ([]++Rf++Ss++Vu)) 3 0 fn gd d2 fd (hb.le l ll) I.f I.g I.b lw (bo h2 hw) fun U U=>?_);exact .finM (c:=.dct (aY P8 bk (aY P8 bk Pw ([]++Rf++Ss++Vu)) fb)) 0 .next [] [] [] (ρ':=[]) fun U v U U U r=>⟨r,by rw [<- Vt,<- cw,gM];simp only [List.nil_append,List.append_assoc];rfl⟩
theorem ae.compO (b:Bool)(F:FI)(E:bS env F)(g:Nj w B O (n+2) env F t (ie F t) (bF t) b ρ γ Z fun i vs s ρ γ Z=>ae w B O (n+2) env (t.nx (.v i) (nc (.lst vs) s)) ρ γ Z Q)
  (X:autoParam (A7 F env (oU t) (iy t) (mi t) (bF t)) tac11)
  (h1:autoParam (Cj (np (ie F t))=true) tac0) (h2:autoParam ((si (oU t) (Hr (ie F t)) && Nat.ble (Hs (ie F t)) 1000)=true) tac0) (h3:autoParam (aU (DP (bF t) env) env.cells (Gg (ie F t)).led) tac12)
  (hq:autoParam (t.qop=some (.expr (LC (oq t) (oU t) (iy t) (mi t) (bF t) (rh t.qE)))) tac0):ae w B O (n+2) env t ρ γ Z Q:=
 .ofE hq fun T h xs S r=>xj (B:=B) (O:=O) (T:=T) (iter:=iy t) E X S (kw g h1 h2 h3) fun vs ys s' ρ' γ' Z' Zs D ms m R h' e ra hl ho l hm hR hc hf Cc Pz R6=>kj Pz fun h' PE=>⟨.v s'.nv,nc (.lst vs) s',ρ'++[Value.ref D],γ',Z',e.trans (.one _ (Value.ref D)),cG hl,⟨by rw [List.length_append,hl];rfl,fun x hx=>(OX hx).elim (ho x) (DO rfl x),Zs,ms,(D,.pls ys)::R,l,PE,hm.ext (.one _ _),⟨(mU (cG hl) ys rfl (RL.ext (.one _ _) ra)),kt _ hR⟩,hc,fun p hp=>(hf p hp).ext (.one _ _) (.refl _)⟩,R6 D⟩
theorem ae.extend {fs:LV}(i g j:Nat)(a b:Addr)(vs:List SV)(ys:LV)(hc:γ[g]? =some (.pls fs))(hz:fs.length+ys.length<=1000)(hv:tC ρ vs=some ys)(k:ae w B O n env (t.nk (.k .none)) ρ (γ.set g (.pls (fs++ys))) Z Q)
  (Py:autoParam (((t.qop,(mq t.st.led j,(pA t.st.led i,jF t.st.led i))),fun tk=>eO ρ tk 0 t.args)=((some .call,(some (.lst vs),(1,some g))),fun tk=>some [.builtin "list.extend",.ref a,.ref b])) tac0) (ha:autoParam (ρ[i]? =some (.ref a)) tac0) (hb:autoParam (ρ[j]? =some (.ref b)) tac0):ae w B O n env t ρ γ Z Q:=
 ae.askT (vs:=fun U=>[.builtin "list.extend",.ref a,.ref b]) (ff (ff Py)) (pQ Py) fun tk T h Zs ms R l H=>by have q1:=Pc (Pc (ff Py)).2;have q2:=Pc q1.2;obtain ⟨h1,h2,h3,_⟩:=H.opq q2.2 ha hc;refine oE (jE q1.1) fun jj hj=>?_;refine ju (ak.get H.re hj) fun Qs r2 r3 us r4 r5=>?_;obtain ⟨b',c⟩:=Qs;rw [hb] at r3;cases r3;dsimp only at r4;subst r4;obtain rfl:=rk hv r5;refine Bf H.st h1 (H.st.get _ (mD r2)) hz fun h' S2=>?_;rw [ku h2] at S2;refine oA (h3 (.pls (fs++us)) (by rw [q2.1];rfl)) fun e1 e2=>?_;exact ⟨Z,Zs,_,t.st.led,.k .none,[],[],l,.refl _,S2,kt [] e1,rfl,(fun U h=>nomatch h),(fun U h=>nomatch h),by rw [e2,List.append_nil];exact k⟩
theorem ae.append {fs:LV}(i g:Nat)(a:Addr)(x:(Nat->Tok)->Value)(y:Value)(hc:γ[g]? =some (.pls fs))(hz:fs.length<=1000)(hx:∀ tk,x tk=y)(k:ae w B O n env (t.nk (.k .none)) ρ (γ.set g (.pls (fs++[y]))) Z Q)
  (Py:autoParam (qo t ρ i=ro 1 g (fun tk=>[.builtin "list.append",.ref a,x tk])) tac0) (ha:autoParam (ρ[i]? =some (.ref a)) tac0):ae w B O n env t ρ γ Z Q:=
 ae.askT (vs:=fun tk=>[.builtin "list.append",.ref a,x tk]) (ff (ff Py)) (pQ Py) fun tk T h Zs ms R l H=>by have q2:=Pc (Pc (ff Py)).2;obtain ⟨h1,h2,h3,_⟩:=H.opq q2.2 ha hc;show W PW w n (call _ [_,x tk]) _ _;rw [hx tk];refine qL H.st h1 hz fun h' S2=>?_;rw [ku h2] at S2;refine oA (h3 (.pls (fs++[y])) (by rw [q2.1];rfl)) fun e1 e2=>?_;exact ⟨Z,Zs,_,t.st.led,.k .none,[],[],l,.refl _,S2,kt [] e1,rfl,(fun U h=>nomatch h),(fun U h=>nomatch h),by rw [e2,List.append_nil];exact k⟩
def Hz (fs cs:LV)(ms:List Str)(ks:LV):a8->Value->an->an->Prop:=fun U r c d=>r=.none/\∃ ps:List (Str×Tok),ps.map (·.1)=ms/\c=.pls (fs++ps.map bN)/\d=.pls (cs++ks)
def dG (w:World)(v:Addr)(n:Nat)(ms:List Str)(ks:LV)(Z:a8):Prop:=∀ (Z':a8) (fa ca:Addr) (fs cs:LV),Z.le Z'->fs.length+n<=900->cs.length+n<=900->r9 w n (call (.ref cT) [.ref v,.ref fa,.ref ca]) fa ca (.pls fs) (.pls cs) (Hz fs cs ms ks) Z'
theorem dG.le {v:Addr}{n':Nat}{ms:List Str}{ks:LV}{Z':a8}(x:dG w v n ms ks Z)(l:Z.le Z')(hn:n<=n'):dG w v n' ms ks Z':=fun Z1 fa ca fs cs l1 h1 h2 B O Z2 led h Q i j QT l2 S e1 e2 q=>(x Z1 fa ca fs cs (l.trans l1) (bo hn h1) lw B O Z2 led h Q i j QT l2 S e1 e2 q).le hn
theorem bq {P:Params}:bU P aF cT 3:=.mk3
theorem dG.in {v:Addr}{ms:List Str}{N:Nat}(ρe:LV)(SW:List (Nat×aE))(hA:∀ fa ca:Addr,ac (.ref v::.ref fa::.ref ca::ρe) Z SW)
  (g:∀ (fa ca:Addr) (fs cs:LV) B O L Z1,Z.le Z1->fs.length+(n+3)<=900->cs.length+(n+3)<=900->ae w B O (n+2) (callEnvC aF L cT) ((ex (fi aF true) 60).ss (uQ aF) (start aF [.v 0,.v 1,.v 2] [.own 1 (.opq 1),.own 2 (.opq 1)] SW N)) (.ref v::.ref fa::.ref ca::ρe) [.pls fs,.pls cs] Z1 (yP 1 2 fa ca (Hz fs cs ms ks)))
  (hρ:autoParam (ρe.all bA=true) tac4) (hN:autoParam (3+ρe.length=N) tac4):dG w v (n+3) ms ks Z:=fun Z1 fa ca fs cs l1 h1 h2=>fA (.ref v::.ref fa::.ref ca::ρe) (PD:=[.v 0,.v 1,.v 2]) true 1 2 1 1 bq ((hA fa ca).ext (.refl _) l1) (fun B O L Z2 l2=>g fa ca fs cs B O L Z2 (l1.trans l2) h1 h2) (fu rfl rfl rfl OU) rfl hρ (by rw [<- hN];simp only [List.length_cons];lia)
theorem tF {v a0:Addr}(hv:ac [.ref v,.ref a0] Z lE)(h0:cg Z a0 o0):dG w v 8 (uB [o0]) [] Z:=by
 cases o0 with
 | some y0=>
  refine oE h0 fun u0 h0=>?_
  exact .in (n:=5) (N:=5) [.ref a0,.str y0 u0] ((3,.tup [.str am,.v 4])::[(0,.obj hW [(fm,.v 3)])]) (fun U U=>⟨(h0.pt [3,4] (PJ:=[(3,.tup [.str am,.v 4])])).1,hv.pt [0,3] (PJ:=[(0,.obj hW [(fm,.v 3)])])⟩) fun fa ca fs cs B O L Z1 l1 z1 z2=>.al1 fun U=>.compO true (fi aF true) ((bq (P:=w.params)).env true L) fun U=>.done [] ⟨by ac_rfl,fun nl=>.extend 1 0 6 fa nl [.v 4] [.str y0 u0] rfl (by symm;exact aJ z1) rfl (.finM2 (c:=.pls (fs++[.str y0 u0])) (d:=.pls cs) 0 0 .next [] [] [] (ρ':=[]) fun U v U U U r=>fC r [(y0,u0)] rfl rfl (by rw [List.append_nil]))⟩
 | none=>
  refine kC h0 fun k0 u0 h0=>?_
  exact .in (n:=5) (N:=5) [.ref a0,.int k0 u0] ((3,.tup [.str bW,.str bt,.v 4])::[(0,.obj hW [(fm,.v 3)])]) (fun U U=>⟨(h0.pt [3,4] (PJ:=[(3,.tup [.str bW,.str bt,.v 4])])).1,hv.pt [0,3] (PJ:=[(0,.obj hW [(fm,.v 3)])])⟩) fun fa ca fs cs B O L Z1 l1 z1 z2=>.al1 fun U=>.compO true (fi aF true) ((bq (P:=w.params)).env true L) fun U=>.done [] ⟨by ac_rfl,fun nl=>.extend 1 0 6 fa nl [] [] rfl (by symm;exact aJ z1) rfl (.finM2 (c:=.pls (fs++[])) (d:=.pls cs) 0 0 .next [] [] [] (ρ':=[]) fun U v U U U r=>fC r [] rfl rfl (by rw [List.append_nil]))⟩
theorem Ah {v l a0:Addr}{x:Str}{t:Tok}(hv:ac [.ref v,.str x t,.ref l,.ref a0] Z rA)(h0:cg Z a0 o0):dG w v 8 (uB [o0]++[x]) [] Z:=by
 cases o0 with
 | some y0=>
  refine oE h0 fun u0 h0=>?_
  exact .in (n:=5) (N:=7) [.str x t,.ref l,.ref a0,.str y0 u0] ((5,.tup [.str am,.v 6])::[(0,.obj dF [(am,.v 3),(aK,.v 4)]),(4,.lst [.v 5])]) (fun U U=>⟨(h0.pt [5,6] (PJ:=[(5,.tup [.str am,.v 6])])).1,hv.pt [0,3,4,5] (PJ:=[(0,.obj dF [(am,.v 3),(aK,.v 4)]),(4,.lst [.v 5])])⟩) fun fa ca fs cs B O L Z1 l1 z1 z2=>.al3 fun U U U=>.compO true (fi aF true) ((bq (P:=w.params)).env true L) fun U=>.done [] ⟨by ac_rfl,fun nl=>.extend 1 0 10 fa nl [.v 6,.v 3] [.str y0 u0,.str x t] rfl (by symm;exact aJ z1) rfl (.finM2 (c:=.pls (fs++[.str y0 u0,.str x t])) (d:=.pls cs) 0 0 .next [] [] [] (ρ':=[]) fun U v U U U r=>fC r [(y0,u0),(x,t)] rfl rfl (by rw [List.append_nil]))⟩
 | none=>
  refine kC h0 fun k0 u0 h0=>?_
  exact .in (n:=5) (N:=7) [.str x t,.ref l,.ref a0,.int k0 u0] ((5,.tup [.str bW,.str bt,.v 6])::[(0,.obj dF [(am,.v 3),(aK,.v 4)]),(4,.lst [.v 5])]) (fun U U=>⟨(h0.pt [5,6] (PJ:=[(5,.tup [.str bW,.str bt,.v 6])])).1,hv.pt [0,3,4,5] (PJ:=[(0,.obj dF [(am,.v 3),(aK,.v 4)]),(4,.lst [.v 5])])⟩) fun fa ca fs cs B O L Z1 l1 z1 z2=>.al3 fun U U U=>.compO true (fi aF true) ((bq (P:=w.params)).env true L) fun U=>.done [] ⟨by ac_rfl,fun nl=>.extend 1 0 10 fa nl [.v 3] [.str x t] rfl (by symm;exact aJ z1) rfl (.finM2 (c:=.pls (fs++[.str x t])) (d:=.pls cs) 0 0 .next [] [] [] (ρ':=[]) fun U v U U U r=>fC r [(x,t)] rfl rfl (by rw [List.append_nil]))⟩
theorem Ai {v l a0 a1:Addr}{x:Str}{t:Tok}(hv:ac [.ref v,.str x t,.ref l,.ref a0,.ref a1] Z rB)(h0:cg Z a0 o0)(h1:cg Z a1 o1):dG w v 8 (uB [o0,o1]++[x]) [] Z:=by
 cases o0 with
 | some y0=>
  refine oE h0 fun u0 h0=>?_;cases o1 with
  | some y1=>
   refine oE h1 fun u1 h1=>?_
   exact .in (n:=5) (N:=9) [.str x t,.ref l,.ref a0,.ref a1,.str y0 u0,.str y1 u1] ((6,.tup [.str am,.v 8])::(5,.tup [.str am,.v 7])::[(0,.obj dF [(am,.v 3),(aK,.v 4)]),(4,.lst [.v 5,.v 6])]) (fun U U=>⟨(h1.pt [6,8] (PJ:=[(6,.tup [.str am,.v 8])])).1,⟨(h0.pt [5,7] (PJ:=[(5,.tup [.str am,.v 7])])).1,hv.pt [0,3,4,5,6] (PJ:=[(0,.obj dF [(am,.v 3),(aK,.v 4)]),(4,.lst [.v 5,.v 6])])⟩⟩) fun fa ca fs cs B O L Z1 l1 z1 z2=>.al3 fun U U U=>.compO true (fi aF true) ((bq (P:=w.params)).env true L) fun U=>.done [] ⟨by ac_rfl,fun nl=>.extend 1 0 12 fa nl [.v 7,.v 8,.v 3] [.str y0 u0,.str y1 u1,.str x t] rfl (by symm;exact aJ z1) rfl (.finM2 (c:=.pls (fs++[.str y0 u0,.str y1 u1,.str x t])) (d:=.pls cs) 0 0 .next [] [] [] (ρ':=[]) fun U v U U U r=>fC r [(y0,u0),(y1,u1),(x,t)] rfl rfl (by rw [List.append_nil]))⟩
  | none=>
   refine kC h1 fun k1 u1 h1=>?_
   exact .in (n:=5) (N:=9) [.str x t,.ref l,.ref a0,.ref a1,.str y0 u0,.int k1 u1] ((6,.tup [.str bW,.str bt,.v 8])::(5,.tup [.str am,.v 7])::[(0,.obj dF [(am,.v 3),(aK,.v 4)]),(4,.lst [.v 5,.v 6])]) (fun U U=>⟨(h1.pt [6,8] (PJ:=[(6,.tup [.str bW,.str bt,.v 8])])).1,⟨(h0.pt [5,7] (PJ:=[(5,.tup [.str am,.v 7])])).1,hv.pt [0,3,4,5,6] (PJ:=[(0,.obj dF [(am,.v 3),(aK,.v 4)]),(4,.lst [.v 5,.v 6])])⟩⟩) fun fa ca fs cs B O L Z1 l1 z1 z2=>.al3 fun U U U=>.compO true (fi aF true) ((bq (P:=w.params)).env true L) fun U=>.done [] ⟨by ac_rfl,fun nl=>.extend 1 0 12 fa nl [.v 7,.v 3] [.str y0 u0,.str x t] rfl (by symm;exact aJ z1) rfl (.finM2 (c:=.pls (fs++[.str y0 u0,.str x t])) (d:=.pls cs) 0 0 .next [] [] [] (ρ':=[]) fun U v U U U r=>fC r [(y0,u0),(x,t)] rfl rfl (by rw [List.append_nil]))⟩
 | none=>
  refine kC h0 fun k0 u0 h0=>?_;cases o1 with
  | some y1=>
   refine oE h1 fun u1 h1=>?_
   exact .in (n:=5) (N:=9) [.str x t,.ref l,.ref a0,.ref a1,.int k0 u0,.str y1 u1] ((6,.tup [.str am,.v 8])::(5,.tup [.str bW,.str bt,.v 7])::[(0,.obj dF [(am,.v 3),(aK,.v 4)]),(4,.lst [.v 5,.v 6])]) (fun U U=>⟨(h1.pt [6,8] (PJ:=[(6,.tup [.str am,.v 8])])).1,⟨(h0.pt [5,7] (PJ:=[(5,.tup [.str bW,.str bt,.v 7])])).1,hv.pt [0,3,4,5,6] (PJ:=[(0,.obj dF [(am,.v 3),(aK,.v 4)]),(4,.lst [.v 5,.v 6])])⟩⟩) fun fa ca fs cs B O L Z1 l1 z1 z2=>.al3 fun U U U=>.compO true (fi aF true) ((bq (P:=w.params)).env true L) fun U=>.done [] ⟨by ac_rfl,fun nl=>.extend 1 0 12 fa nl [.v 8,.v 3] [.str y1 u1,.str x t] rfl (by symm;exact aJ z1) rfl (.finM2 (c:=.pls (fs++[.str y1 u1,.str x t])) (d:=.pls cs) 0 0 .next [] [] [] (ρ':=[]) fun U v U U U r=>fC r [(y1,u1),(x,t)] rfl rfl (by rw [List.append_nil]))⟩
  | none=>
   refine kC h1 fun k1 u1 h1=>?_
   exact .in (n:=5) (N:=9) [.str x t,.ref l,.ref a0,.ref a1,.int k0 u0,.int k1 u1] ((6,.tup [.str bW,.str bt,.v 8])::(5,.tup [.str bW,.str bt,.v 7])::[(0,.obj dF [(am,.v 3),(aK,.v 4)]),(4,.lst [.v 5,.v 6])]) (fun U U=>⟨(h1.pt [6,8] (PJ:=[(6,.tup [.str bW,.str bt,.v 8])])).1,⟨(h0.pt [5,7] (PJ:=[(5,.tup [.str bW,.str bt,.v 7])])).1,hv.pt [0,3,4,5,6] (PJ:=[(0,.obj dF [(am,.v 3),(aK,.v 4)]),(4,.lst [.v 5,.v 6])])⟩⟩) fun fa ca fs cs B O L Z1 l1 z1 z2=>.al3 fun U U U=>.compO true (fi aF true) ((bq (P:=w.params)).env true L) fun U=>.done [] ⟨by ac_rfl,fun nl=>.extend 1 0 12 fa nl [.v 3] [.str x t] rfl (by symm;exact aJ z1) rfl (.finM2 (c:=.pls (fs++[.str x t])) (d:=.pls cs) 0 0 .next [] [] [] (ρ':=[]) fun U v U U U r=>fC r [(x,t)] rfl rfl (by rw [List.append_nil]))⟩
theorem CJ {v l a0 a1:Addr}{x:Str}{t:Tok}(hv:ac [.ref v,.str x t,.ref l,.ref a0,.ref a1] Z wb)(h0:cg Z a0 o0)(h1:cg Z a1 o1):dG w v 8 (uB [o0,o1]) [] Z:=by
 cases o0 with
 | some y0=>
  refine oE h0 fun u0 h0=>?_;cases o1 with
  | some y1=>
   refine oE h1 fun u1 h1=>?_
   exact .in (n:=5) (N:=9) [.str x t,.ref l,.ref a0,.ref a1,.str y0 u0,.str y1 u1] ((6,.tup [.str am,.v 8])::(5,.tup [.str am,.v 7])::[(0,.obj fT [(iN,.v 3),(aK,.v 4)]),(4,.lst [.v 5,.v 6])]) (fun U U=>⟨(h1.pt [6,8] (PJ:=[(6,.tup [.str am,.v 8])])).1,⟨(h0.pt [5,7] (PJ:=[(5,.tup [.str am,.v 7])])).1,hv.pt [0,3,4,5,6] (PJ:=[(0,.obj fT [(iN,.v 3),(aK,.v 4)]),(4,.lst [.v 5,.v 6])])⟩⟩) fun fa ca fs cs B O L Z1 l1 z1 z2=>.al2 fun U U=>.compO true (fi aF true) ((bq (P:=w.params)).env true L) fun U=>.done [] ⟨by ac_rfl,fun nl=>.extend 1 0 11 fa nl [.v 7,.v 8] [.str y0 u0,.str y1 u1] rfl (by symm;exact aJ z1) rfl (.finM2 (c:=.pls (fs++[.str y0 u0,.str y1 u1])) (d:=.pls cs) 0 0 .next [] [] [] (ρ':=[]) fun U v U U U r=>fC r [(y0,u0),(y1,u1)] rfl rfl (by rw [List.append_nil]))⟩
  | none=>
   refine kC h1 fun k1 u1 h1=>?_
   exact .in (n:=5) (N:=9) [.str x t,.ref l,.ref a0,.ref a1,.str y0 u0,.int k1 u1] ((6,.tup [.str bW,.str bt,.v 8])::(5,.tup [.str am,.v 7])::[(0,.obj fT [(iN,.v 3),(aK,.v 4)]),(4,.lst [.v 5,.v 6])]) (fun U U=>⟨(h1.pt [6,8] (PJ:=[(6,.tup [.str bW,.str bt,.v 8])])).1,⟨(h0.pt [5,7] (PJ:=[(5,.tup [.str am,.v 7])])).1,hv.pt [0,3,4,5,6] (PJ:=[(0,.obj fT [(iN,.v 3),(aK,.v 4)]),(4,.lst [.v 5,.v 6])])⟩⟩) fun fa ca fs cs B O L Z1 l1 z1 z2=>.al2 fun U U=>.compO true (fi aF true) ((bq (P:=w.params)).env true L) fun U=>.done [] ⟨by ac_rfl,fun nl=>.extend 1 0 11 fa nl [.v 7] [.str y0 u0] rfl (by symm;exact aJ z1) rfl (.finM2 (c:=.pls (fs++[.str y0 u0])) (d:=.pls cs) 0 0 .next [] [] [] (ρ':=[]) fun U v U U U r=>fC r [(y0,u0)] rfl rfl (by rw [List.append_nil]))⟩
 | none=>
  refine kC h0 fun k0 u0 h0=>?_;cases o1 with
  | some y1=>
   refine oE h1 fun u1 h1=>?_
   exact .in (n:=5) (N:=9) [.str x t,.ref l,.ref a0,.ref a1,.int k0 u0,.str y1 u1] ((6,.tup [.str am,.v 8])::(5,.tup [.str bW,.str bt,.v 7])::[(0,.obj fT [(iN,.v 3),(aK,.v 4)]),(4,.lst [.v 5,.v 6])]) (fun U U=>⟨(h1.pt [6,8] (PJ:=[(6,.tup [.str am,.v 8])])).1,⟨(h0.pt [5,7] (PJ:=[(5,.tup [.str bW,.str bt,.v 7])])).1,hv.pt [0,3,4,5,6] (PJ:=[(0,.obj fT [(iN,.v 3),(aK,.v 4)]),(4,.lst [.v 5,.v 6])])⟩⟩) fun fa ca fs cs B O L Z1 l1 z1 z2=>.al2 fun U U=>.compO true (fi aF true) ((bq (P:=w.params)).env true L) fun U=>.done [] ⟨by ac_rfl,fun nl=>.extend 1 0 11 fa nl [.v 8] [.str y1 u1] rfl (by symm;exact aJ z1) rfl (.finM2 (c:=.pls (fs++[.str y1 u1])) (d:=.pls cs) 0 0 .next [] [] [] (ρ':=[]) fun U v U U U r=>fC r [(y1,u1)] rfl rfl (by rw [List.append_nil]))⟩
  | none=>
   refine kC h1 fun k1 u1 h1=>?_
   exact .in (n:=5) (N:=9) [.str x t,.ref l,.ref a0,.ref a1,.int k0 u0,.int k1 u1] ((6,.tup [.str bW,.str bt,.v 8])::(5,.tup [.str bW,.str bt,.v 7])::[(0,.obj fT [(iN,.v 3),(aK,.v 4)]),(4,.lst [.v 5,.v 6])]) (fun U U=>⟨(h1.pt [6,8] (PJ:=[(6,.tup [.str bW,.str bt,.v 8])])).1,⟨(h0.pt [5,7] (PJ:=[(5,.tup [.str bW,.str bt,.v 7])])).1,hv.pt [0,3,4,5,6] (PJ:=[(0,.obj fT [(iN,.v 3),(aK,.v 4)]),(4,.lst [.v 5,.v 6])])⟩⟩) fun fa ca fs cs B O L Z1 l1 z1 z2=>.al2 fun U U=>.compO true (fi aF true) ((bq (P:=w.params)).env true L) fun U=>.done [] ⟨by ac_rfl,fun nl=>.extend 1 0 11 fa nl [] [] rfl (by symm;exact aJ z1) rfl (.finM2 (c:=.pls (fs++[])) (d:=.pls cs) 0 0 .next [] [] [] (ρ':=[]) fun U v U U U r=>fC r [] rfl rfl (by rw [List.append_nil]))⟩
theorem Aj {v l a0 a1:Addr}{x:Str}{t:Tok}(hv:ac [.ref v,.str x t,.ref l,.ref a0,.ref a1] Z lF)(h0:cg Z a0 o0)(h1:cg Z a1 o1):dG w v 8 (uB [o0,o1]) [] Z:=by
 cases o0 with
 | some y0=>
  refine oE h0 fun u0 h0=>?_;cases o1 with
  | some y1=>
   refine oE h1 fun u1 h1=>?_
   exact .in (n:=5) (N:=9) [.str x t,.ref l,.ref a0,.ref a1,.str y0 u0,.str y1 u1] ((6,.tup [.str am,.v 8])::(5,.tup [.str am,.v 7])::[(0,.obj di [(eB,.v 3),(aK,.v 4)]),(4,.lst [.v 5,.v 6])]) (fun U U=>⟨(h1.pt [6,8] (PJ:=[(6,.tup [.str am,.v 8])])).1,⟨(h0.pt [5,7] (PJ:=[(5,.tup [.str am,.v 7])])).1,hv.pt [0,3,4,5,6] (PJ:=[(0,.obj di [(eB,.v 3),(aK,.v 4)]),(4,.lst [.v 5,.v 6])])⟩⟩) fun fa ca fs cs B O L Z1 l1 z1 z2=>.al2 fun U U=>.compO true (fi aF true) ((bq (P:=w.params)).env true L) fun U=>.done [] ⟨by ac_rfl,fun nl=>.extend 1 0 11 fa nl [.v 7,.v 8] [.str y0 u0,.str y1 u1] rfl (by symm;exact aJ z1) rfl (.finM2 (c:=.pls (fs++[.str y0 u0,.str y1 u1])) (d:=.pls cs) 0 0 .next [] [] [] (ρ':=[]) fun U v U U U r=>fC r [(y0,u0),(y1,u1)] rfl rfl (by rw [List.append_nil]))⟩
  | none=>
   refine kC h1 fun k1 u1 h1=>?_
   exact .in (n:=5) (N:=9) [.str x t,.ref l,.ref a0,.ref a1,.str y0 u0,.int k1 u1] ((6,.tup [.str bW,.str bt,.v 8])::(5,.tup [.str am,.v 7])::[(0,.obj di [(eB,.v 3),(aK,.v 4)]),(4,.lst [.v 5,.v 6])]) (fun U U=>⟨(h1.pt [6,8] (PJ:=[(6,.tup [.str bW,.str bt,.v 8])])).1,⟨(h0.pt [5,7] (PJ:=[(5,.tup [.str am,.v 7])])).1,hv.pt [0,3,4,5,6] (PJ:=[(0,.obj di [(eB,.v 3),(aK,.v 4)]),(4,.lst [.v 5,.v 6])])⟩⟩) fun fa ca fs cs B O L Z1 l1 z1 z2=>.al2 fun U U=>.compO true (fi aF true) ((bq (P:=w.params)).env true L) fun U=>.done [] ⟨by ac_rfl,fun nl=>.extend 1 0 11 fa nl [.v 7] [.str y0 u0] rfl (by symm;exact aJ z1) rfl (.finM2 (c:=.pls (fs++[.str y0 u0])) (d:=.pls cs) 0 0 .next [] [] [] (ρ':=[]) fun U v U U U r=>fC r [(y0,u0)] rfl rfl (by rw [List.append_nil]))⟩
 | none=>
  refine kC h0 fun k0 u0 h0=>?_;cases o1 with
  | some y1=>
   refine oE h1 fun u1 h1=>?_
   exact .in (n:=5) (N:=9) [.str x t,.ref l,.ref a0,.ref a1,.int k0 u0,.str y1 u1] ((6,.tup [.str am,.v 8])::(5,.tup [.str bW,.str bt,.v 7])::[(0,.obj di [(eB,.v 3),(aK,.v 4)]),(4,.lst [.v 5,.v 6])]) (fun U U=>⟨(h1.pt [6,8] (PJ:=[(6,.tup [.str am,.v 8])])).1,⟨(h0.pt [5,7] (PJ:=[(5,.tup [.str bW,.str bt,.v 7])])).1,hv.pt [0,3,4,5,6] (PJ:=[(0,.obj di [(eB,.v 3),(aK,.v 4)]),(4,.lst [.v 5,.v 6])])⟩⟩) fun fa ca fs cs B O L Z1 l1 z1 z2=>.al2 fun U U=>.compO true (fi aF true) ((bq (P:=w.params)).env true L) fun U=>.done [] ⟨by ac_rfl,fun nl=>.extend 1 0 11 fa nl [.v 8] [.str y1 u1] rfl (by symm;exact aJ z1) rfl (.finM2 (c:=.pls (fs++[.str y1 u1])) (d:=.pls cs) 0 0 .next [] [] [] (ρ':=[]) fun U v U U U r=>fC r [(y1,u1)] rfl rfl (by rw [List.append_nil]))⟩
  | none=>
   refine kC h1 fun k1 u1 h1=>?_
   exact .in (n:=5) (N:=9) [.str x t,.ref l,.ref a0,.ref a1,.int k0 u0,.int k1 u1] ((6,.tup [.str bW,.str bt,.v 8])::(5,.tup [.str bW,.str bt,.v 7])::[(0,.obj di [(eB,.v 3),(aK,.v 4)]),(4,.lst [.v 5,.v 6])]) (fun U U=>⟨(h1.pt [6,8] (PJ:=[(6,.tup [.str bW,.str bt,.v 8])])).1,⟨(h0.pt [5,7] (PJ:=[(5,.tup [.str bW,.str bt,.v 7])])).1,hv.pt [0,3,4,5,6] (PJ:=[(0,.obj di [(eB,.v 3),(aK,.v 4)]),(4,.lst [.v 5,.v 6])])⟩⟩) fun fa ca fs cs B O L Z1 l1 z1 z2=>.al2 fun U U=>.compO true (fi aF true) ((bq (P:=w.params)).env true L) fun U=>.done [] ⟨by ac_rfl,fun nl=>.extend 1 0 11 fa nl [] [] rfl (by symm;exact aJ z1) rfl (.finM2 (c:=.pls (fs++[])) (d:=.pls cs) 0 0 .next [] [] [] (ρ':=[]) fun U v U U U r=>fC r [] rfl rfl (by rw [List.append_nil]))⟩
theorem ae.insB {B:Heap}{O:aP}{env:Env}{ρ:LV}{γ:List an}{α:Type}{t:IT α}{Q:QQ α}{v:Addr}{fs : LV}{ms:List Str}(i g i' g':Nat)(fa ca:Addr)(c:dG w v m ms ks Z)(h1:fs.length+m<=900)(h2:cs.length+m<=900)
  (k:∀ (ps:List (Str×Tok)) Z',ps.map (·.1)=ms->Z.le Z'->ae w B O n env (t.nk (.k .none)) ρ ((γ.set g (.pls (fs++ps.map bN))).set g' (.pls (cs++ks))) Z' Q) (hm:autoParam (m<=n) tac9) (hc:autoParam (γ[g]? =some (.pls fs)) tac14) (hd:autoParam (γ[g']? =some (.pls cs)) tac14)
  (Py:autoParam (q2 t ρ i i'=r2 1 g 1 g' (fun tk=>[.ref cT,.ref v,.ref fa,.ref ca])) tac0) (ha:autoParam (ρ[i]? =some (.ref fa)) tac0) (hb:autoParam (ρ[i']? =some (.ref ca)) tac0):ae w B O n env t ρ γ Z Q:=by have q1:=Pc (ff Py);have q2:=Pc q1.2;have q3:=Pc q2.1;have q4:=Pc q2.2;have q5:=Pc q4.1;refine .mt2 (op:=.call) (P:=Hz fs cs ms ks) (vs:=fun U=>[.ref cT,.ref v,.ref fa,.ref ca]) i g i' g' (fun U=>c Z fa ca fs cs (.refl _) h1 h2) (fun v Z' c' d' l p=>?_) hm q4.2 (by unfold qg rg;rw [q1.1,q3.2,(Pc Py).2]) ha hc q5.2 hb hd;refine kM p fun PL ps hp Ub=>?_;clear p;refine oA Ub fun PZ PQ=>?_;clear Ub;subst PL;subst PZ;subst PQ;exact ⟨by rw [q3.1,q5.1];rfl,.k (.k .none) rfl (k ps Z' hp l)⟩
theorem CK {ps:List (Str×Tok)}{ms:List Str}(e:ps.map (·.1)=ms)(h:ms.length<=m):(ps.map bN).length<=m:=by rw [List.length_map,<- List.length_map (f:=(·.1)) (as:=ps),e];exact h
theorem wi {α:Type}{a b:List α}{m r:Nat}(h:b.length<=m)(h9:a.length+(m+r)<=900):(a++b).length+r<=900:=by rw [List.length_append];exact bo h h9
theorem AO {a b:Nat}(h:a+b<=900):a<=1000:=Pg (Pq _ _) (Pg h OV)
theorem ae.ins {B:Heap}{O:aP}{env:Env}{ρ:LV}{γ:List an}{α:Type}{t:IT α}{Q:QQ α}{v:Addr}{fs : LV}{ms:List Str}(i g i' g':Nat)(fa ca:Addr){y1 y2:Nat}(l0:Z0.le Z)(c:dG w v m ms ks Z0)(n0:ms.length<=m)(c0:ks.length<=m)(h1:fs.length+(m+y1)<=900)(h2:cs.length+(m+y2)<=900)
  (k:∀ (ps:List (Str×Tok)) Z',ps.map (·.1)=ms->(fs++ps.map bN).length+y1<=900->(cs++ks).length+y2<=900->Z0.le Z'->ae w B O n env (t.nk (.k .none)) ρ ((γ.set g (.pls (fs++ps.map bN))).set g' (.pls (cs++ks))) Z' Q) (hm:autoParam (m<=n) tac9) (hc:autoParam (γ[g]? =some (.pls fs)) tac14) (hd:autoParam (γ[g']? =some (.pls cs)) tac14)
  (Py:autoParam (q2 t ρ i i'=r2 1 g 1 g' (fun tk=>[.ref cT,.ref v,.ref fa,.ref ca])) tac0) (ha:autoParam (ρ[i]? =some (.ref fa)) tac0) (hb:autoParam (ρ[i']? =some (.ref ca)) tac0):ae w B O n env t ρ γ Z Q:=.insB i g i' g' fa ca (c.le l0 ll) (Pg (Nat.add_le_add_left (Pq _ _) _) h1) (Pg (Nat.add_le_add_left (Pq _ _) _) h2) (fun ps Z' hp l=>k ps Z' hp (wi (CK hp n0) h1) (wi c0 h2) (l0.trans l)) hm hc hd Py ha hb
theorem xB {v e al o a ky nl b:Addr}{x:Str}{t tk:Tok}{k0:Int}(hv:ac [.ref v,.ref e,.str x t,.ref al,.ref o,.ref a,.ref ky,.ref nl,.ref b,.int k0 tk] Z nA)(q0:dG w e i0 Rg Qb Z)(q1:dG w b i1 R0 Qk Z)(q2:dG w o i2 R1 RD Z)(n0:Rg.length<=i0)(c0:Qb.length<=i0)(n1:R0.length<=i1)(c1:Qk.length<=i1)(n2:R1.length<=i2)(c2:RD.length<=i2):dG w v (i0+i1+i2+12) (Rg++(R0++(R1))) (Qb++(Qk++(RD))) Z:=by refine .in (n:=i0+i1+i2+9) (N:=12) [.ref e,.str x t,.ref al,.ref o,.ref a,.ref ky,.ref nl,.ref b,.int k0 tk] [(0,.obj cL [(cj,.v 3),(am,.v 4),(bY,.v 5),(bn,.v 6)]),(5,.lst [.v 7]),(7,.obj ka [(i6,.v 8),(bX,.v 9),(aB,.v 10)]),(8,.tup [.str bW,.str bt,.v 11]),(9,.lst [])] (fun U U=>hv.pt [0,3,4,5,6,7,8,9,10,11]) fun fa ca fs cs B O L Z1 l1 z1 z2=>?_;have fz:fs.length+(i0+(i1+(i2+(12))))<=900:=aJ z1;have cz:cs.length+(i0+(i1+(i2+(12))))<=900:=aJ z2;refine .al2 fun U U=>.comp true (fi aF true) ((bq (P:=w.params)).env true L) fun U=>.done [] ⟨by ac_rfl,fun U=>.al1 fun U=>.opb (.cmp .Is) (fun U=>[.ref o,.none]) false (fun tk h Q q=>lp (q _ rfl)) (.al2 fun U U=>?_)⟩;refine .ins (fs:=fs) (cs:=cs) 1 0 2 1 fa ca l1 q0 n0 c0 fz cz fun p0 U e0 fz0 S7 l1=>?_;refine .ins (fs:=fs++p0.map bN) (cs:=cs++Qb) 1 0 2 1 fa ca l1 q1 n1 c1 fz0 S7 fun p1 U e1 fz1 Tg l1=>?_;refine .ins (fs:=fs++p0.map bN++p1.map bN) (cs:=cs++Qb++Qk) 1 0 2 1 fa ca l1 q2 n2 c2 fz1 Tg fun p2 U e2 Vv Xq l1=>?_;exact .compO true (fi aF true) ((bq (P:=w.params)).env true L) fun U=>.done [] ⟨by ac_rfl,fun nl=>.extend 1 0 18 fa nl [] [] rfl (AO Vv) rfl (.finM2 (c:=.pls (fs++p0.map bN++p1.map bN++p2.map bN++[])) (d:=.pls (cs++Qb++Qk++RD)) 0 0 .next [] [] [] (ρ':=[]) fun U v U U U r=>fC r (p0++(p1++(p2))) (by simp only [List.map_append,e0,e1,e2]) (by simp only [List.map_append,List.append_assoc,List.append_nil]) (by simp only [List.append_assoc]))⟩
theorem xC {v e al o:Addr}{x:Str}{t:Tok}(hv:ac [.ref v,.ref e,.str x t,.ref al,.ref o] Z je)(q0:dG w e i0 Rg Qb Z)(q1:dG w o i1 R0 Qk Z)(n0:Rg.length<=i0)(c0:Qb.length<=i0)(n1:R0.length<=i1)(c1:Qk.length<=i1):dG w v (i0+i1+12) (Rg++(R0)) (Qb++(Qk)) Z:=by refine .in (n:=i0+i1+9) (N:=7) [.ref e,.str x t,.ref al,.ref o] [(0,.obj cL [(cj,.v 3),(am,.v 4),(bY,.v 5),(bn,.v 6)]),(5,.lst [])] (fun U U=>hv.pt [0,3,4,5,6]) fun fa ca fs cs B O L Z1 l1 z1 z2=>?_;have fz:fs.length+(i0+(i1+(12)))<=900:=lw;have cz:cs.length+(i0+(i1+(12)))<=900:=lw;refine .al2 fun U U=>.comp true (fi aF true) ((bq (P:=w.params)).env true L) fun U=>.done [] ⟨by ac_rfl,fun U=>.al1 fun U=>.opb (.cmp .Is) (fun U=>[.ref o,.none]) false (fun tk h Q q=>lp (q _ rfl)) (.al2 fun U U=>?_)⟩;refine .ins (fs:=fs) (cs:=cs) 1 0 2 1 fa ca l1 q0 n0 c0 fz cz fun p0 U e0 fz0 S7 l1=>?_;refine .ins (fs:=fs++p0.map bN) (cs:=cs++Qb) 1 0 2 1 fa ca l1 q1 n1 c1 fz0 S7 fun p1 U e1 fz1 Tg l1=>?_;exact .compO true (fi aF true) ((bq (P:=w.params)).env true L) fun U=>.done [] ⟨by ac_rfl,fun nl=>.extend 1 0 13 fa nl [] [] rfl (AO fz1) rfl (.finM2 (c:=.pls (fs++p0.map bN++p1.map bN++[])) (d:=.pls (cs++Qb++Qk)) 0 0 .next [] [] [] (ρ':=[]) fun U v U U U r=>fC r (p0++(p1)) (by simp only [List.map_append,e0,e1]) (by simp only [List.map_append,List.append_assoc,List.append_nil]) (by simp only [List.append_assoc]))⟩
theorem xD {v e al a ky nl b:Addr}{x f g nm:Str}{t tf tg tn:Tok}(hv:ac [.ref v,.ref e,.str x t,.ref al,.ref a,.ref ky,.ref nl,.ref b,.str f tf,.str g tg,.str nm tn] Z nC)(q0:dG w e i0 Rg Qb Z)(q1:dG w b i1 R0 Qk Z)(n0:Rg.length<=i0)(c0:Qb.length<=i0)(n1:R0.length<=i1)(c1:Qk.length<=i1):dG w v (i0+i1+12) (Rg++(R0)) (Qb++(Qk)) Z:=by refine .in (n:=i0+i1+9) (N:=13) [.ref e,.str x t,.ref al,.ref a,.ref ky,.ref nl,.ref b,.str f tf,.str g tg,.str nm tn] [(0,.obj cL [(cj,.v 3),(am,.v 4),(bY,.v 5),(bn,.k .none)]),(5,.lst [.v 6]),(6,.obj ka [(i6,.v 7),(bX,.v 8),(aB,.v 9)]),(7,.tup [.str n9,.v 12]),(8,.lst [.v 10,.v 11])] (fun U U=>hv.pt [0,3,4,5,6,7,8,9,10,11,12]) fun fa ca fs cs B O L Z1 l1 z1 z2=>?_;have fz:fs.length+(i0+(i1+(12)))<=900:=lw;have cz:cs.length+(i0+(i1+(12)))<=900:=lw;refine .al2 fun U U=>.comp true (fi aF true) ((bq (P:=w.params)).env true L) fun U=>.done [] ⟨by ac_rfl,fun U=>.al3 fun U U U=>?_⟩;refine .ins (fs:=fs) (cs:=cs) 1 0 2 1 fa ca l1 q0 n0 c0 fz cz fun p0 U e0 fz0 S7 l1=>?_;refine .ins (fs:=fs++p0.map bN) (cs:=cs++Qb) 1 0 2 1 fa ca l1 q1 n1 c1 fz0 S7 fun p1 U e1 fz1 Tg l1=>?_;exact .compO true (fi aF true) ((bq (P:=w.params)).env true L) fun U=>.done [] ⟨by ac_rfl,fun nl=>.extend 1 0 19 fa nl [] [] rfl (AO fz1) rfl (.finM2 (c:=.pls (fs++p0.map bN++p1.map bN++[])) (d:=.pls (cs++Qb++Qk)) 0 0 .next [] [] [] (ρ':=[]) fun U v U U U r=>fC r (p0++(p1)) (by simp only [List.map_append,e0,e1]) (by simp only [List.map_append,List.append_assoc,List.append_nil]) (by simp only [List.append_assoc]))⟩
theorem Ak {v l b : Addr}{u0:Bool}(hv:ac [.ref v,.ref l,.ref b,.ref QV,.str x0 t0,.ref m0] Z mE)(h0:eQ Z m0 f0 p0 b0 u0)(q0:dG w b0 i0 Rg Qb Z)(q1:dG w b i1 R0 Qk Z)(n0:Rg.length<=i0)(c0:Qb.length<=i0)(n1:R0.length<=i1)(c1:Qk.length<=i1):dG w v (i0+i1+20) (Rg++(R0)) ([.ref m0]++(Qb++(Qk))) Z:=by refine .in (n:=i0+i1+17) (N:=12) [.ref l,.ref b,.ref QV,.str x0 t0,.ref m0,.ref b0,.ref f0,.ref p0,.bool u0] ((7,.obj bh [(ck,.v 9),(aO,.v 10),(aB,.v 8),(aL,.v 11)])::[(0,.obj cV [(aR,.v 3),(aB,.v 4)]),(3,.lst [.v 5]),(5,.tup [.v 6,.v 7])]) (fun U U=>⟨h0.fact rfl rfl rfl rfl rfl,hv.pt [0,3,4,5,6,7] (PJ:=[(0,.obj cV [(aR,.v 3),(aB,.v 4)]),(3,.lst [.v 5]),(5,.tup [.v 6,.v 7])])⟩) fun fa ca fs cs B O L Z1 l1 z1 z2=>?_;have fz:fs.length+(i0+(i1+(12)))<=900:=aJ z1;have cz:cs.length+(1+(i0+(i1+(12))))<=900:=aJ z2;refine .al1 fun U=>?_;refine .append 2 1 ca (fun U=>.ref m0) (.ref m0) rfl (AO cz) (fun U=>rfl) (.ins (fs:=fs) (cs:=cs++[.ref m0]) 1 0 2 1 fa ca l1 q0 n0 c0 fz (wi (Pm 1) cz) fun p0 U e0 fz0 S7 l1=>?_);refine .ins (fs:=fs++p0.map bN) (cs:=cs++[.ref m0]++Qb) 1 0 2 1 fa ca l1 q1 n1 c1 fz0 S7 fun p1 U e1 fz1 Tg l1=>?_;exact .compO true (fi aF true) ((bq (P:=w.params)).env true L) fun U=>.done [] ⟨by ac_rfl,fun nl=>.extend 1 0 13 fa nl [] [] rfl (AO fz1) rfl (.finM2 (c:=.pls (fs++p0.map bN++p1.map bN++[])) (d:=.pls (cs++[.ref m0]++Qb++Qk)) 0 0 .next [] [] [] (ρ':=[]) fun U v U U U r=>fC r (p0++(p1)) (by simp only [List.map_append,e0,e1]) (by simp only [List.map_append,List.append_assoc,List.append_nil]) (by simp only [List.append_assoc]))⟩
theorem Al {v l b : Addr}{u0 u1:Bool}(hv:ac [.ref v,.ref l,.ref b,.ref QV,.str x0 t0,.ref m0,.ref QB,.str x1 t1,.ref m1] Z mF)(h0:eQ Z m0 f0 p0 b0 u0)(h1:eQ Z m1 f1 p1 b1 u1)(q0:dG w b0 i0 Rg Qb Z)(q1:dG w b1 i1 R0 Qk Z)(q2:dG w b i2 R1 RD Z)(n0:Rg.length<=i0)(c0:Qb.length<=i0)(n1:R0.length<=i1)(c1:Qk.length<=i1)(n2:R1.length<=i2)(c2:RD.length<=i2):dG w v (i0+i1+i2+20) (Rg++(R0++(R1))) ([.ref m0]++(Qb++([.ref m1]++(Qk++(RD))))) Z:=by refine .in (n:=i0+i1+i2+17) (N:=19) [.ref l,.ref b,.ref QV,.str x0 t0,.ref m0,.ref b0,.ref QB,.str x1 t1,.ref m1,.ref b1,.ref f0,.ref p0,.bool u0,.ref f1,.ref p1,.bool u1] ((7,.obj bh [(ck,.v 13),(aO,.v 14),(aB,.v 8),(aL,.v 15)])::(11,.obj bh [(ck,.v 16),(aO,.v 17),(aB,.v 12),(aL,.v 18)])::[(0,.obj cV [(aR,.v 3),(aB,.v 4)]),(3,.lst [.v 5,.v 9]),(5,.tup [.v 6,.v 7]),(9,.tup [.v 10,.v 11])]) (fun U U=>⟨h0.fact rfl rfl rfl rfl rfl,h1.fact rfl rfl rfl rfl rfl,hv.pt [0,3,4,5,6,7,9,10,11] (PJ:=[(0,.obj cV [(aR,.v 3),(aB,.v 4)]),(3,.lst [.v 5,.v 9]),(5,.tup [.v 6,.v 7]),(9,.tup [.v 10,.v 11])])⟩) fun fa ca fs cs B O L Z1 l1 z1 z2=>?_;have fz:fs.length+(i0+(i1+(i2+(12))))<=900:=aJ z1;have cz:cs.length+(1+(i0+(1+(i1+(i2+(12))))))<=900:=aJ z2;refine .al1 fun U=>?_;refine .append 2 1 ca (fun U=>.ref m0) (.ref m0) rfl (AO cz) (fun U=>rfl) (.ins (fs:=fs) (cs:=cs++[.ref m0]) 1 0 2 1 fa ca l1 q0 n0 c0 fz (wi (Pm 1) cz) fun p0 U e0 fz0 S7 l1=>?_);refine .append 2 1 ca (fun U=>.ref m1) (.ref m1) rfl (AO S7) (fun U=>rfl) (.ins (fs:=fs++p0.map bN) (cs:=cs++[.ref m0]++Qb++[.ref m1]) 1 0 2 1 fa ca l1 q1 n1 c1 fz0 (wi (Pm 1) S7) fun p1 U e1 fz1 Tg l1=>?_);refine .ins (fs:=fs++p0.map bN++p1.map bN) (cs:=cs++[.ref m0]++Qb++[.ref m1]++Qk) 1 0 2 1 fa ca l1 q2 n2 c2 fz1 Tg fun p2 U e2 Vv Xq l1=>?_;exact .compO true (fi aF true) ((bq (P:=w.params)).env true L) fun U=>.done [] ⟨by ac_rfl,fun nl=>.extend 1 0 20 fa nl [] [] rfl (AO Vv) rfl (.finM2 (c:=.pls (fs++p0.map bN++p1.map bN++p2.map bN++[])) (d:=.pls (cs++[.ref m0]++Qb++[.ref m1]++Qk++RD)) 0 0 .next [] [] [] (ρ':=[]) fun U v U U U r=>⟨r,p0++(p1++(p2)),by simp only [List.map_append,e0,e1,e2],by simp only [List.map_append,List.append_assoc,List.append_nil],by simp only [List.append_assoc]⟩)⟩
theorem Am {v l b PT b2 : Addr}{t2 : Tok}{u0 u1 u2:Bool}{i3 : Nat}{Sr : List Str}{Vw : LV}(hv:ac [.ref v,.ref l,.ref b,.ref QV,.str x0 t0,.ref m0,.ref QB,.str x1 t1,.ref m1,.ref PT,.str x2 t2,.ref m2] Z uA)(h0:eQ Z m0 f0 p0 b0 u0)(h1:eQ Z m1 f1 p1 b1 u1)(h2:eQ Z m2 f2 p2 b2 u2)(q0:dG w b0 i0 Rg Qb Z)(q1:dG w b1 i1 R0 Qk Z)(q2:dG w b2 i2 R1 RD Z)(q3:dG w b i3 Sr Vw Z)(n0:Rg.length<=i0)(c0:Qb.length<=i0)(n1:R0.length<=i1)(c1:Qk.length<=i1)(n2:R1.length<=i2)(c2:RD.length<=i2)(n3:Sr.length<=i3)(c3:Vw.length<=i3):dG w v (i0+i1+i2+i3+20) (Rg++(R0++(R1++(Sr)))) ([.ref m0]++(Qb++([.ref m1]++(Qk++([.ref m2]++(RD++(Vw))))))) Z:=by refine .in (n:=i0+i1+i2+i3+17) (N:=26) [.ref l,.ref b,.ref QV,.str x0 t0,.ref m0,.ref b0,.ref QB,.str x1 t1,.ref m1,.ref b1,.ref PT,.str x2 t2,.ref m2,.ref b2,.ref f0,.ref p0,.bool u0,.ref f1,.ref p1,.bool u1,.ref f2,.ref p2,.bool u2] ((7,.obj bh [(ck,.v 17),(aO,.v 18),(aB,.v 8),(aL,.v 19)])::(11,.obj bh [(ck,.v 20),(aO,.v 21),(aB,.v 12),(aL,.v 22)])::(15,.obj bh [(ck,.v 23),(aO,.v 24),(aB,.v 16),(aL,.v 25)])::[(0,.obj cV [(aR,.v 3),(aB,.v 4)]),(3,.lst [.v 5,.v 9,.v 13]),(5,.tup [.v 6,.v 7]),(9,.tup [.v 10,.v 11]),(13,.tup [.v 14,.v 15])]) (fun U U=>⟨h0.fact rfl rfl rfl rfl rfl,h1.fact rfl rfl rfl rfl rfl,h2.fact rfl rfl rfl rfl rfl,hv.pt [0,3,4,5,6,7,9,10,11,13,14,15] (PJ:=[(0,.obj cV [(aR,.v 3),(aB,.v 4)]),(3,.lst [.v 5,.v 9,.v 13]),(5,.tup [.v 6,.v 7]),(9,.tup [.v 10,.v 11]),(13,.tup [.v 14,.v 15])])⟩) fun fa ca fs cs B O L Z1 l1 z1 z2=>?_;have fz:fs.length+(i0+(i1+(i2+(i3+(12)))))<=900:=aJ z1;have cz:cs.length+(1+(i0+(1+(i1+(1+(i2+(i3+(12))))))))<=900:=aJ z2;refine .al1 fun U=>?_;refine .append 2 1 ca (fun U=>.ref m0) (.ref m0) rfl (AO cz) (fun U=>rfl) (.ins (fs:=fs) (cs:=cs++[.ref m0]) 1 0 2 1 fa ca l1 q0 n0 c0 fz (wi (Pm 1) cz) fun p0 U e0 fz0 S7 l1=>?_);refine .append 2 1 ca (fun U=>.ref m1) (.ref m1) rfl (AO S7) (fun U=>rfl) (.ins (fs:=fs++p0.map bN) (cs:=cs++[.ref m0]++Qb++[.ref m1]) 1 0 2 1 fa ca l1 q1 n1 c1 fz0 (wi (Pm 1) S7) fun p1 U e1 fz1 Tg l1=>?_);refine .append 2 1 ca (fun U=>.ref m2) (.ref m2) rfl (AO Tg) (fun U=>rfl) (.ins (fs:=fs++p0.map bN++p1.map bN) (cs:=cs++[.ref m0]++Qb++[.ref m1]++Qk++[.ref m2]) 1 0 2 1 fa ca l1 q2 n2 c2 fz1 (wi (Pm 1) Tg) fun p2 U e2 Vv Xq l1=>?_);refine .ins (fs:=fs++p0.map bN++p1.map bN++p2.map bN) (cs:=cs++[.ref m0]++Qb++[.ref m1]++Qk++[.ref m2]++RD) 1 0 2 1 fa ca l1 q3 n3 c3 Vv Xq fun p3 U e3 fz3 cz3 l1=>?_;exact .compO true (fi aF true) ((bq (P:=w.params)).env true L) fun U=>.done [] ⟨by ac_rfl,fun nl=>.extend 1 0 27 fa nl [] [] rfl (AO fz3) rfl (.finM2 (c:=.pls (fs++p0.map bN++p1.map bN++p2.map bN++p3.map bN++[])) (d:=.pls (cs++[.ref m0]++Qb++[.ref m1]++Qk++[.ref m2]++RD++Vw)) 0 0 .next [] [] [] (ρ':=[]) fun U v U U U r=>⟨r,p0++(p1++(p2++(p3))),by simp only [List.map_append,e0,e1,e2,e3],by simp only [List.map_append,List.append_assoc,List.append_nil],by simp only [List.append_assoc]⟩)⟩
theorem yZ {ps:List (Str×Tok)}{x:Str}:(ps.map bN).any (sY x)=(ps.map (·.1)).contains x:=by
 induction ps with
 | nil=>rfl
 | cons p ps ih=>rw [List.map_cons,List.any_cons,ih,List.map_cons,List.contains_cons];show (p.1==x || _)=(x==p.1 || _);rw [show (p.1==x)=(x==p.1) from Bool.beq_comm]
theorem z7 {ps:List (Str×Tok)}:∀ y∈ps.map bN,∃ z t,y=.str z t:=fun y hy=>by refine bM (Pa hy) fun p U PL=>?_;subst PL;exact wu _ _ rfl
theorem uE {P:Params}:bU P ee bQ 2:=.mk2
def SL.fgt (xs:List Str)(a:SL):SL:=match a with
 | .cel x v=>(match my xs x with
  | true=>.oth
  | false=>.cel x v)
 | .own i c=>.own i c
 | .oth=>.oth
def bb.fgt (xs:List Str)(s:bb):bb:={s with led:=s.led.map (SL.fgt xs)}
theorem CL {env:Env}{ρ:LV}(xs:List Str){l:List SL}(r:ak (RE env ρ) l R):ak (RE env ρ) (l.map (SL.fgt xs)) R/\cont (l.map (SL.fgt xs)) R=cont l R:=
 r.ind (M:=fun l R=>ak (RE env ρ) (l.map (SL.fgt xs)) R/\cont (l.map (SL.fgt xs)) R=cont l R) ⟨OU,rfl⟩ fun {a p l R} r _ ih=>by
  cases a with
  | own i c=>exact ⟨⟨r,ih.1⟩,Bo ih.2⟩
  | oth=>exact ⟨⟨OU,ih.1⟩,ih.2⟩
  | cel x v=>
   rw [List.map_cons];unfold SL.fgt;dsimp only
   split
   ·exact ⟨⟨OU,ih.1⟩,ih.2⟩
   ·exact ⟨⟨r,ih.1⟩,ih.2⟩
theorem ae.forget {B:Heap}{O:aP}{env:Env}{ρ:LV}{γ:List an}{α:Type}{t:IT α}{Q:QQ α}(xs:List Str)(k:ae w B O n env (t.wst (t.st.fgt xs)) ρ γ Z Q)(hq:autoParam (t.isAsk=true) tac0):ae w B O n env t ρ γ Z Q:=ae.pre hq fun T h S=>S.here fun Zs ms R l H=>⟨t.st.fgt xs,ρ,γ,Z,.refl _,⟨S.len,S.ok,Zs,ms,R,l,H.st,H.rm,(CL xs H.re).1,(CL xs H.re).2.trans H.co,H.fz⟩,k⟩
noncomputable abbrev HA:Str:={cps:={toList:=[109,97,100,101]}}
noncomputable abbrev Fa:Str:={cps:={toList:=[110,97,109,101,115]}}
inductive mG (w:World)(n:Nat)(kd:Addr)(Z:a8)(v:Value):Prop
 | mk (a) (_:v=.ref a) (_:RT w n bQ [.ref a,.ref kd] (fun U r=>r=.bool true) Z):mG w n kd Z v
theorem rI {a fl pl b kd:Addr}{fs ps:List (Str×Tok)}{P8:KV}{ms:List Str}(hm:eQ Z a fl pl b ps.isEmpty)(Th:Z fl=some (.lst (fs.map bN)))(Sk:Z pl=some (.lst (ps.map bN)))(R8:Z kd=some (.dct P8))
  (hi:dG w b m ms ks Z) (TS:∀ p∈fs,p.1∈ms/\valueAt P8 p.1=none/\p.1∉ps.map (·.1)) (hk:∀ v∈ks,mG w m kd Z v) (hz:m<=800):RT w (m+6) bQ [.ref a,.ref kd] (fun U r=>r=.bool true) Z:=by
 refine bu (n:=m+3) (N:=6) [.ref a,.ref fl,.ref pl,.ref b,.bool ps.isEmpty,.ref kd] (PD:=[.v 0,.v 5]) (fz:=[(0,.obj bh [(ck,.v 1),(aO,.v 2),(aB,.v 3),(aL,.v 4)])]) true uE (by obtain ⟨dx,h1,h2⟩:=hm;exact ⟨⟨a,dx,_,rfl,h1,h2,⟨rfl,rfl⟩,⟨rfl,rfl⟩,⟨rfl,rfl⟩,⟨rfl,rfl⟩,OU⟩,OU⟩) (fun B O L Z1 l1=>?_) (cF rfl rfl OU)
 refine .al3 fun nl il U=>?_;refine .opn 6 1 0 false (.opn 7 0 0 false (.insB (fs:=[]) (cs:=[]) 6 1 7 0 nl il (hi.le l1 ll) (by simp only [List.length_nil];exact aJ hz) (by simp only [List.length_nil];exact aJ hz) fun qs Z2 hq l2=>?_))
 refine .al1 fun nn=>.opB (.cmp .NotEq) (fun U=>[.ref pl,.ref nn]) (!ps.isEmpty) (fun tk T h Zs ms R l H Q q=>jb (H.st.z ((l1.trans (l2.trans l)) _ _ Sk)) (fk.nil (Z:=Z2) (a:=nn) 9 OT OT T h Zs ms R l H) (q _ _ H.st (by rw [List.isEmpty_map])))
  (.opb (.cmp .Eq) (fun U=>[.bool (!ps.isEmpty),.bool ps.isEmpty]) false (fun tk h Q q=>FW (q _ (by cases ps.isEmpty<;>rfl))) ?_)
 refine .compN true (fi ee true) ((uE (P:=w.params)).env true L) 1 1 fl (fs.map bN) ((l1.trans l2) _ _ Th) yW (fun i v Z' hv l' L2=>?_) fun Z3 l3 rl=>?_
 ·refine bM (yX hv) fun p hp PZ=>?_;subst PZ;refine ub (TS p (Pn hp)) fun c1 c2 c3=>?_;refine .opB (.cmp .NotIn) (fun U=>[.str p.1 p.2,.ref nl]) false (fun tk=>.at (.o (c:=.pls (qs.map bN)) nl 6 1) fun h Q hd q=>Bc hd.l z7 (q _ (by rw [yZ,hq];exact Pl (fun b=>Value.bool (!b)) (List.contains_iff_mem.mpr c1)))) ?_;refine .opB (.cmp .In) (fun U=>[.str p.1 p.2,.ref kd]) false (fun tk=>.at (.z ((l1.trans (l2.trans l')) _ _ R8)) fun h Q hd q=>FN hd (q _ (by rw [c2];rfl))) ?_;refine .opB (.cmp .In) (fun U=>[.str p.1 p.2,.ref pl]) false (fun tk=>.at (.z ((l1.trans (l2.trans l')) _ _ Sk)) fun h Q hd q=>LI hd z7 (q _ (by rw [yZ];exact Pl Value.bool (Bool.eq_false_iff.mpr fun e=>c3 (List.contains_iff_mem.mp e))))) ?_;exact .no 0 0 rfl (.refl _)
 refine .al1 fun n2=>.frz 7 0 (a:=il) (c:=.pls ks) fun Z4 l4 z4=>.forget [HA,Fa] <| .compN true (fi ee true) ((uE (P:=w.params)).env true L) 1 7 il ks z4 (fun v hv=>by obtain ⟨c,rfl,_⟩:=hk v hv;rfl) (fun i v Z' hv l' L2=>?_) fun Z5 l5 rl2=>?_
 ·obtain ⟨c,rfl,hc⟩:=hk v (Pn hv);exact .rt (vs:=fun U=>[.ref c,.ref kd]) (fun U=>hc.le (l1.trans (l2.trans (l3.trans (l4.trans l')))) ll) fun r Z6 l6 p=>.k (.k (.bool true)) p (.no 0 0 rfl l6)
 exact .al1 fun U=>.finA (.ret (.k (.bool true))) fun U U U r=>r
noncomputable def bump (N:Str->Nat)(s:Str):Str->Nat:=fun b=>if b=s then N s+1 else N b
noncomputable def gN (P7:KV)(N:Str->Nat):Prop:=∀ b,(N b=0/\valueAt P7 b=none)\/∃ t,valueAt P7 b=some (.int (N b) t)
noncomputable def jJ (k:Nat):Str:=Str.ofString (toString (k:Int))
noncomputable def MI (s:Str):Nat:=s.cps.foldl (fun a c=>10*a+(c - 48)) 0
theorem rJ:∀ k,k < 300->MI (jJ k)=k:=by decide +kernel
theorem CM:∀ k,k < 300->(jJ k).length<=3:=by decide +kernel
theorem CN {i j:Nat}(hi:i < 300)(hj:j < 300)(e:jJ i=jJ j):i=j:=by rw [<- rJ i hi,<- rJ j hj,e]
def nm (b:Str)(k:Nat):Str:=b++ew++jJ k
theorem rK (x y:Str):(x++y).length=x.length+y.length:=Array.size_append
theorem z8 {b:Str}{k:Nat}(hb:b.length<=10)(hk:k < 300):(b++ew).length+(jJ k).length<=1000:=by have:=CM k hk;rw [rK];have:ew.length=1:=rfl;lia
theorem gN.bump {P7:KV}{N:Str->Nat}{s:Str}{t:Tok}(h:gN P7 N):gN (stored P7 s (.int (N s+1:Nat) t)) (bump N s):=fun b=>by
 by_cases e:b=s
 ·subst e;exact .inr ⟨t,by rw [bD];unfold M.Internal.bump;rw [if_pos rfl]⟩
 ·rw [bH e];unfold M.Internal.bump;rw [if_neg e];exact h b
theorem gN.get {P7:KV}{N:Str->Nat}(h:gN P7 N)(s:Str)(t:Tok):∃ u,(valueAt P7 s).getD (.int 0 t)=.int (N s) u:=by
 rcases h s with ⟨h1,h2⟩ | ⟨u,h⟩
 ·exact ⟨t,by rw [h2,h1];rfl⟩
 ·exact ⟨u,by rw [h];rfl⟩
theorem CO {P:Params}:bU P zH lT 1:=.mk1
theorem xE {s:Str}{t:Tok}(hs:¬ (Txt.rfind s ew:Int) > 0):RT w 3 lT [.str s t] (fun U v=>Ic v s) Z:=
 bu (n:=0) (N:=0) [] (PD:=[.str s]) (fz:=[]) true CO OU (fun B O L Z1 l1=>.opi .call (fun tk=>[.builtin "str.rfind",.str s (tk 1),.str ew (tk 2)]) (Txt.rfind s ew) (fun tk h Q q=>Ec fun k=>q _ ⟨k,rfl⟩) fun k=>.opb (.cmp .Gt) (fun tk=>[.int (Txt.rfind s ew) k,.int 0 (tk 1)]) false (fun tk h Q q=>qD (q _ (Pl _ (Pr hs)))) (.finA (.ret (.str s)) fun U U U r=>r)) ⟨⟨t,rfl⟩,OU⟩
theorem HB {P:Params}:bU P ua f7 2:=.mk2
def rL:List (Nat×aE):=[(0,.obj fM [(cm,.v 1),(gc,.v 2)])]
theorem Fb {fr av nd:Addr}{s:Str}{t:Tok}{P7:KV}{N:Str->Nat}(hs:¬ (Txt.rfind s ew:Int) > 0)(hl:s.length<=10)(hf:ac [.ref fr,.ref av,.ref nd] Z rL)(ha:Z av=some (.dct []))(hN:gN P7 N)(hz:P7.length<=900)(hb:N s < 299):
  yF w 6 (call (.ref f7) [.ref fr,.str s t]) nd (.dct P7) (fun U v c=>Ic v (nm s (N s+1))/\∃ PH,c=.dct PH/\gN PH (bump N s)/\PH.length<=P7.length+1) Z:=by
 refine kx (n:=3) (N:=3) [.ref fr,.ref av,.ref nd] (PD:=[.v 0,.str s]) true 2 2 HB hf (fun B O L Z1 l1=>?_) (cF rfl ⟨t,rfl⟩ OU);have hk:((N s:Int)+1).natAbs < 2 ^ 64:=by lia
 have PY:s.length+ew.length<=1000:=by have:ew.length=1:=rfl;exact bo hl (Nat.le_of_eq this)
 have Qh:=z8 (b:=s) (k:=N s+1) hl (aJ hb)
 refine .rt (vs:=fun tk=>[.str s (tk 1)]) (fun tk=>xE hs) fun v Z2 l2 p=>.k (.str s) p
  (.opI .call (fun tk=>[.builtin "dict.get",.ref nd,.str s (tk 2),.int 0 (tk 3)]) (N s) (fun tk=>.at (.o (c:=.dct P7) nd 2 0) fun h Q hd q=>LL hd (q _ (hN.get s _))) fun k0=>
  .opi (.bin .Add) (fun tk=>[.int (N s) k0,.int 1 (tk 1)]) ((N s+1:Nat):Int) (fun tk h Q q=>lk fun k=>q _ ⟨k,rfl⟩) fun k1=>
  .opss (.bin .Add) (fun tk=>[.str s (tk 0),.str ew (tk 1)]) (s++ew) (fun tk h Q q=>o7 PY fun k=>q _ ⟨k,rfl⟩) fun k2=>
  .opss .call (fun tk=>[.type "str",.int ((N s+1:Nat):Int) k1]) (jJ (N s+1)) (fun tk h Q q=>wL hk fun k=>q _ ⟨k,rfl⟩) fun k3=>
  .opss (.bin .Add) (fun tk=>[.str (s++ew) k2,.str (jJ (N s+1)) k3]) (nm s (N s+1)) (fun tk h Q q=>o7 Qh fun k=>q _ ⟨k,rfl⟩) fun k4=>
  .opB (.cmp .In) (fun U=>[.str (nm s (N s+1)) k4,.ref av]) false (fun tk=>.at (.z ((l1.trans l2) _ _ ha)) fun h Q hd q=>FN hd (q _ rfl))
  (.setD 2 0 nd s (fun tk=>tk 1) (.int ((N s+1:Nat):Int) k1) rfl (aJ hz)
  (.opss (.bin .Add) (fun tk=>[.str s (tk 0),.str ew (tk 1)]) (s++ew) (fun tk h Q q=>o7 PY fun k=>q _ ⟨k,rfl⟩) fun k5=>
  .opss .call (fun tk=>[.type "str",.int ((N s+1:Nat):Int) k1]) (jJ (N s+1)) (fun tk h Q q=>wL hk fun k=>q _ ⟨k,rfl⟩) fun k6=>
  .opss (.bin .Add) (fun tk=>[.str (s++ew) k5,.str (jJ (N s+1)) k6]) (nm s (N s+1)) (fun tk h Q q=>o7 Qh fun k=>q _ ⟨k,rfl⟩) fun k7=>.finM (c:=.dct (stored P7 s (.int ((N s+1:Nat):Int) k1))) 0 (.ret (.v 10)) [] [] [] (ρ':=[]) fun U v U U U r=>fC ⟨k7,af.det r rfl⟩ _ rfl hN.bump aG)))
inductive ig (Z:a8)(v C:Addr):Prop
 | mk (dx fs) (_:Z v=some (.ins C dx)) (_:Z dx=some (.att fs)):ig Z v C
theorem ig.le{v C:Addr}(l:Z.le Z')(h:ig Z v C):ig Z' v C:=let ⟨a,b,h1,h2⟩:=h;⟨a,b,l _ _ h1,l _ _ h2⟩
def oV:List Addr:=[fB,eK,gH,jB,gI,kY,dw]
def oz:List Addr:=[gH,dZ,jB,gI,kY,dw]
theorem nD {B:Heap}{O:aP}{h:Heap}{v C:Addr}{Q:VP}(S:St w B O Z led h)(hv:ig Z v C)(hC:C∈oV)(q:Q (.bool false) h):W PW w n (call (.builtin "isinstance") [.ref v,.ref dZ]) Q h:=by obtain ⟨dx,fs,h1,h2⟩:=hv;simp only [oV,List.mem_cons,List.not_mem_nil,or_false] at hC;rcases hC with rfl | rfl | rfl | rfl | rfl | rfl | rfl<;>exact wQ false S (S.z h1) (S.z h2) q
theorem CP {B:Heap}{O:aP}{h:Heap}{v C:Addr}{Q:VP}(S:St w B O Z led h)(hv:ig Z v C)(hC:C∈oz)(q:Q (.bool false) h):W PW w n (call (.builtin "isinstance") [.ref v,.ref fB]) Q h:=by obtain ⟨dx,fs,h1,h2⟩:=hv;simp only [oz,List.mem_cons,List.not_mem_nil,or_false] at hC;rcases hC with rfl | rfl | rfl | rfl | rfl | rfl<;>exact wQ false S (S.z h1) (S.z h2) q
theorem CQ {B:Heap}{O:aP}{h:Heap}{v C:Addr}{Q:VP}(S:St w B O Z led h)(hv:ig Z v C)(hC:C∈oz)(q:Q (.bool false) h):W PW w n (call (.builtin "isinstance") [.ref v,.ref eK]) Q h:=by obtain ⟨dx,fs,h1,h2⟩:=hv;simp only [oz,List.mem_cons,List.not_mem_nil,or_false] at hC;rcases hC with rfl | rfl | rfl | rfl | rfl | rfl<;>exact wQ false S (S.z h1) (S.z h2) q
def HC:List (Nat×aE):=[(0,.obj mN [(iz,.v 1),(mL,.v 2)]),(1,.obj ge [(dY,.v 3)]),(2,.obj fM [(cm,.v 4),(gc,.v 5)])]
structure fQ (Z:a8)(mk fn fr gd av nd:Addr)(P8:KV):Prop where
 f:ac [.ref mk,.ref fn,.ref fr,.ref gd,.ref av,.ref nd] Z HC
 g:Z gd=some (.dct P8)
 a:Z av=some (.dct [])
theorem fQ.le{mk fn fr gd av nd:Addr}{P8:KV}(h:fQ Z mk fn fr gd av nd P8)(l:Z.le Z'):fQ Z' mk fn fr gd av nd P8:=⟨h.f.ext (.refl _) l,l _ _ h.g,l _ _ h.a⟩
structure wj (s:Nat)(P7:KV)(N:Str->Nat)(PH:KV)(N':Str->Nat):Prop where
 at':gN PH N'
 le:∀ b,N b<=N' b
 up:∀ b,N' b<=N b+s
 len:PH.length<=P7.length+s
theorem wj.trans {s s':Nat}{k k' YV:KV}{N N' YW:Str->Nat}(a:wj s k N k' N')(b:wj s' k' N' YV YW):wj (s+s') k N YV YW:=⟨b.at',fun x=>Pg (a.le x) (b.le x),fun x=>by have:=a.up x;have:=b.up x;lia,by have:=a.len;have:=b.len;lia⟩
inductive Nn (s:Nat)(P7:KV)(N:Str->Nat)(P:a8->Value->Prop)(Z:a8)(r:Value)(c:an):Prop
 | mk (PH:KV) (N':Str->Nat) (_:c=.dct PH) (_:wj s P7 N PH N') (_:P Z r):Nn s P7 N P Z r c
def gR (w:World)(n s:Nat)(f:Addr)(arg:Value)(P8:KV)(P:a8->Value->Prop)(Z:a8):Prop:=
 ∀ (Z':a8) (mk fn fr gd av nd:Addr) (P7:KV) (N:Str->Nat),Z.le Z'->fQ Z' mk fn fr gd av nd P8->gN P7 N->(∀ b,N b+s<=100)->P7.length+s<=300->
  yF w n (call (.ref f) [.ref mk,arg]) nd (.dct P7) (Nn s P7 N P) Z'
theorem gR.le {f:Addr}{arg:Value}{s n':Nat}{P8:KV}{P:a8->Value->Prop}{Z':a8}(x:gR w n s f arg P8 P Z)(l:Z.le Z')(hn:n<=n'):gR w n' s f arg P8 P Z':=fun Z1 mk fn fr gd av nd P7 N l1 h1 h2 h3 h4 B O Z2 led h Q i l2 S e q=>(x Z1 mk fn fr gd av nd P7 N (l.trans l1) h1 h2 h3 h4 B O Z2 led h Q i l2 S e q).le hn
theorem gR.in{f:Addr}{s N:Nat}{P8:KV}{P:a8->Value->Prop}(ρe:LV)(sv:SV)(SW:List (Nat×aE))(D:bU w.params P9 f 2)(hA:∀ mk fn fr gd av nd:Addr,ac (.ref mk::.ref fn::.ref fr::.ref gd::.ref av::.ref nd::ρe) Z SW)
  (g:∀ (mk fn fr gd av nd:Addr) (P7:KV) (M:Str->Nat) B O L Z1,Z.le Z1->fQ Z1 mk fn fr gd av nd P8->gN P7 M->(∀ b,M b+s<=100)->P7.length+s<=300->
   ae w B O (n+2) (callEnvC P9 L f) ((ex (fi P9 true) 60).ss (uQ P9) (start P9 [.v 0,sv] [.own 5 (.opq 2)] (HC++SW) N)) (.ref mk::.ref fn::.ref fr::.ref gd::.ref av::.ref nd::ρe) [.dct P7] Z1 (yO 5 nd (Nn s P7 M P)))
  (Xo:autoParam (∀ mk fn fr gd av nd:Addr,af (.ref mk::.ref fn::.ref fr::.ref gd::.ref av::.ref nd::ρe) sv arg) tac19) (hρ:autoParam (ρe.all bA=true) tac4) (hN:autoParam (6+ρe.length=N) tac4):gR w (n+3) s f arg P8 P Z:=by intro Z1 mk fn fr gd av nd P7 M l1 hm h1 h2 h3;refine kx (.ref mk::.ref fn::.ref fr::.ref gd::.ref av::.ref nd::ρe) (PD:=[.v 0,sv]) true 5 2 D (fz:=HC++SW) ?_ (fun B O L Z2 l2=>g mk fn fr gd av nd P7 M B O L Z2 (l1.trans l2) (hm.le l2) h1 h2 h3) (cF rfl (Xo mk fn fr gd av nd) OU) rfl hρ (by rw [<- hN];simp only [List.length_cons];lia);have:=hm.f.ext (ρ':=.ref mk::.ref fn::.ref fr::.ref gd::.ref av::.ref nd::ρe) ⟨_,rfl⟩ (.refl _);exact fu this.1 this.2.1 this.2.2.1 ((hA mk fn fr gd av nd).ext (.refl _) l1)
theorem ae.mkr {B:Heap}{O:aP}{env:Env}{ρ:LV}{γ:List an}{α:Type}{t:IT α}{Q:QQ α}{f:Addr}{s:Nat}{P8 P7:KV}{N:Str->Nat}{P:a8->Value->Prop}(i g:Nat){mk fn fr gd av nd:Addr}(c:gR w m s f arg P8 P Z)(hm:fQ Z mk fn fr gd av nd P8)(h1:gN P7 N)(h2:∀ b,N b+s<=100)(h3:P7.length+s<=300)
  (k:∀ v Z' PH N',Z.le Z'->wj s P7 N PH N'->P Z' v->Co w B O env n t ρ (γ.set g (.dct PH)) Z' Q v) (Ru:autoParam (m<=n) tac9) (hc:autoParam (γ[g]? =some (.dct P7)) tac14)
  (Py:autoParam (qo t ρ i=ro 2 g (fun tk=>[.ref f,.ref mk,arg])) tac0) (ha:autoParam (ρ[i]? =some (.ref nd)) tac0):ae w B O n env t ρ γ Z Q:=
 .mt1 (P:=Nn s P7 N P) (vs:=fun U=>[.ref f,.ref mk,arg]) i g (fun U=>c Z mk fn fr gd av nd P7 N (.refl _) hm h1 h2 h3) (fun v Z' c' l p=>by
  obtain ⟨PH,N',rfl,hct,hp⟩:=p;exact ⟨by rw [(Pc (Pc (ff Py)).2).1];rfl,k v Z' PH N' l hct hp⟩) Ru (by have h:=Pc (ff Py);unfold qg rg;rw [h.1,(Pc h.2).2,(Pc Py).2]) ha hc
theorem CR {P:Params}:bU P pu ba 2:=.mk2
inductive HD (w:World)(m:Nat)(PB:List Str->a8->Addr->Prop)(Z:a8)(r:Value):Prop
 | mk (S:Addr) (fl:List Str) (_:r=.ref S) (_:bO w ah (.ref S) m fl Z) (_:fl.length<=m) (_:PB fl Z S):HD w m PB Z r
inductive oC (P8:KV)(ps:List (Str×Tok))(PB:List Str->a8->Addr->Prop)(Z:a8)(r:Value):Prop
 | mk (a f pl S:Addr) (fs:List (Str×Tok)) (fl:List Str) (_:r=.ref a) (_:eQ Z a f pl S ps.isEmpty) (_:Z pl=some (.lst (ps.map bN))) (_:Z f=some (.lst (fs.map bN))) (_:fs.map (·.1)=(aY P8 (ch [] ps) [] fl).map (·.1)) (_:PB fl Z S):oC P8 ps PB Z r
theorem eQ.of {ρ:LV}{i j:Nat}{m f pv bv:Addr}{p b:SV}{u:Bool}(h:bK ρ Z i (.obj bh [(ck,.v j),(aO,p),(aB,b),(aL,.k (.bool u))]))(hi:ρ[i]? =some (.ref m))(hj:ρ[j]? =some (.ref f))(hp:∀ x,af ρ p x->x=.ref pv)(hb:∀ x,af ρ b x->x=.ref bv):eQ Z m f pv bv u:=by obtain ⟨a,dx,fv,h1,h2,h3,h4⟩:=h;rw [hi] at h1;cases h1;obtain ⟨⟨x1,y1⟩,fv,rfl,e1,h4⟩:=ak.cons_r h4;obtain ⟨⟨x2,y2⟩,fv,rfl,e2,h4⟩:=ak.cons_r h4;obtain ⟨⟨x3,y3⟩,fv,rfl,e3,h4⟩:=ak.cons_r h4;obtain ⟨⟨x4,y4⟩,fv,rfl,e4,h4⟩:=ak.cons_r h4;obtain rfl:=ak.nil_r h4;obtain ⟨rfl,e1⟩:=e1;obtain ⟨rfl,e2⟩:=e2;obtain ⟨rfl,e3⟩:=e3;obtain ⟨rfl,e4⟩:=e4;have q1:ρ[j]? =some y1:=e1;rw [hj] at q1;cases q1;obtain rfl:=hp _ e2;obtain rfl:=hb _ e3;obtain rfl:y4=.bool u:=e4;exact ⟨dx,h2,h3⟩
theorem za {v C:Addr}{s:Nat}{P8:KV}{PB:List Str->a8->Addr->Prop}(hv:ig Z v C)(hC:C∈oV)(he:gR w c s aq (.ref v) P8 (HD w m PB) Z)(hm:m+8<=c)(R4:m<=800)(hP:∀ fl Z Z' a,Z.le Z'->PB fl Z a->PB fl Z' a):gR w (c+3) s ba (.ref v) P8 (oC P8 [] PB) Z:=by
 refine .in (n:=c) (N:=7) [.ref v] (.v 6) [] CR (fun U U U U U U=>OU) fun mk fn fr gd av nd P7 M B O L Z1 l1 PX hN h2 h3=>?_;refine .opB .call (fun U=>[.builtin "isinstance",.ref v,.ref dZ]) false (fun tk T h Zs ms R l H Q q=>nD H.st (hv.le (l1.trans l)) hC (q _ _ H.st rfl)) ?_;refine .mkr (P7:=P7) 5 0 (he.le l1 ll) PX hN h2 h3 fun r Z2 PK N2 l2 ct p=>?_;obtain ⟨S,fl,rfl,Sv,hn,Xr⟩:=p;refine .one rfl ?_;refine .al1 fun YX=>.opn 8 0 0 false (.frz 8 0 (a:=YX) (c:=.pls []) fun Z3 l3 z3=>.rt (vs:=fun U=>[.ref fn,.ref YX,.ref S]) (fun U=>rH (ps:=[]) (fl:=fl) (m:=m) ?_ ((l2.trans l3) _ _ PX.g) z3 (Sv.le l3 ll) hn R4 (by simp only [List.length_nil];exact cZ)) fun r Z4 l4 p=>?_)
 ·exact (PX.f.ext (.refl _) (l2.trans l3)).sel [1,3] (by first | (unfold mJ;kernel_rfl!) | exact rfl) OT
 refine et p fun f fs PL zf ef=>?_;clear p;subst PL;refine .one rfl (.al2 fun pl a=>?_)
 exact .finM (c:=.dct PK) 0 (.ret (.v 11)) [11,9,10,7] [(0,.obj bh [(ck,.v 1),(aO,.v 2),(aB,.v 3),(aL,.k (.bool true))]),(2,.lst [])] [] (ρ':=[.ref a,.ref f,.ref pl,.ref S]) fun Zs v l5 h U r=>⟨PK,N2,rfl,ct,a,f,pl,S,fs,fl,af.det r rfl,eQ.of h.1 rfl rfl (fun x e=>af.det e rfl) (fun x e=>af.det e rfl),h.2.1.lv,l5 _ _ zf,ef,hP _ _ _ _ (l3.trans (l4.trans l5)) Xr⟩
theorem xF {P:Params}:bU P tZ dj 1:=.mk1
inductive An (ps:List (Str×Tok))(b:Addr)(Z:a8)(r:Value):Prop
 | mk (tp pl) (_:r=.ref tp) (_:Z tp=some (.tup [.ref pl,.ref b])) (_:Z pl=some (.lst (ps.map bN))):An ps b Z r
theorem MJ {v b l C:Addr}{x:Str}{t:Tok}(hf:ac [.ref v,.ref b,.ref l,.str x t] Z tE)(hb:ig Z b C)(hC:C∈oV):RT w 5 dj [.ref v] (An [(x,t)] b) Z:=
 bu (n:=2) (N:=4) [.ref v,.ref b,.ref l,.str x t] (PD:=[.v 0]) true xF hf (fun B O L Z1 l1=>.al3 fun U U pl=>
  .opB .call (fun U=>[.builtin "isinstance",.ref b,.ref dZ]) false (fun tk T h Zs ms R l H Q q=>nD H.st (hb.le (l1.trans l)) hC (q _ _ H.st rfl)) (.al1 fun tp=>.finO (.ret (.v 7)) [7,6,1,3] [(0,.tup [.v 1,.v 2]),(1,.lst [.v 3])] [] (ρ':=[.ref tp,.ref pl,.ref b,.str x t]) fun Zs r l h U e=>⟨tp,pl,af.det e rfl,h.1.tv,h.2.1.lv⟩)) ⟨rfl,OU⟩
theorem MK {v b l C:Addr}{x y:Str}{t u:Tok}(hf:ac [.ref v,.ref b,.ref l,.str x t,.str y u] Z yS)(hb:ig Z b C)(hC:C∈oV):RT w 5 dj [.ref v] (An [(x,t),(y,u)] b) Z:=
 bu (n:=2) (N:=5) [.ref v,.ref b,.ref l,.str x t,.str y u] (PD:=[.v 0]) true xF hf (fun B O L Z1 l1=>.al3 fun U U pl=>
  .opB .call (fun U=>[.builtin "isinstance",.ref b,.ref dZ]) false (fun tk T h Zs ms R l H Q q=>nD H.st (hb.le (l1.trans l)) hC (q _ _ H.st rfl)) (.al1 fun tp=>.finO (.ret (.v 8)) [8,7,1,3,4] [(0,.tup [.v 1,.v 2]),(1,.lst [.v 3,.v 4])] [] (ρ':=[.ref tp,.ref pl,.ref b,.str x t,.str y u]) fun Zs r l h U e=>⟨tp,pl,af.det e rfl,h.1.tv,h.2.1.lv⟩)) ⟨rfl,OU⟩
def CS:List (Nat×aE):=[(0,.obj dZ [(aO,.v 2),(aB,.v 1)]),(2,.lst [.v 3]),(1,.obj dZ [(aO,.v 5),(aB,.v 4)]),(5,.lst [.v 6])]
theorem HE {v b l C : Addr}{x y:Str}{t u:Tok}(hf:ac [.ref v,.ref v2,.ref l,.str x t,.ref b,.ref l2,.str y u] Z CS)(hb:ig Z b C)(hC:C∈oV):RT w 5 dj [.ref v] (An [(x,t),(y,u)] b) Z:=
 bu (n:=2) (N:=7) [.ref v,.ref v2,.ref l,.str x t,.ref b,.ref l2,.str y u] (PD:=[.v 0]) true xF hf (fun B O L Z1 l1=>.al3 fun U U U=>.al2 fun U pl=>
  .opB .call (fun U=>[.builtin "isinstance",.ref b,.ref dZ]) false (fun tk T h Zs ms R l H Q q=>nD H.st (hb.le (l1.trans l)) hC (q _ _ H.st rfl)) (.al1 fun tp=>.finO (.ret (.v 12)) [12,11,4,3,6] [(0,.tup [.v 1,.v 2]),(1,.lst [.v 3,.v 4])] [] (ρ':=[.ref tp,.ref pl,.ref b,.str x t,.str y u]) fun Zs r l h U e=>⟨tp,pl,af.det e rfl,h.1.tv,h.2.1.lv⟩)) ⟨rfl,OU⟩
inductive sm (Z:a8)(v:Addr)(p b:Value):Prop
 | mk (dx) (_:Z v=some (.ins dZ dx)) (_:Z dx=some (.att [(aO,p),(aB,b)])):sm Z v p b
theorem Fc {v b:Addr}{p0 b0:Value}{s:Nat}{ps:List (Str×Tok)}{P8:KV}{PB:List Str->a8->Addr->Prop}(hv:sm Z v p0 b0)(SX:ps≠[])(Xs:ps.length<=20)(ha:∀ Z',Z.le Z'->RT w 5 dj [.ref v] (An ps b) Z')(he:gR w c s aq (.ref b) P8 (HD w m PB) Z)(hm:m+8<=c)(R4:m<=800)(hP:∀ fl Z Z' a,Z.le Z'->PB fl Z a->PB fl Z' a):gR w (c+3) s ba (.ref v) P8 (oC P8 ps PB) Z:=by
 refine .in (n:=c) (N:=7) [.ref v] (.v 6) [(6,.obj dZ [(aO,.k p0),(aB,.k b0)])] CR (fun U U U U U U=>⟨by obtain ⟨dx,h1,h2⟩:=hv;exact ⟨v,dx,_,rfl,h1,h2,⟨rfl,rfl⟩,⟨rfl,rfl⟩,OU⟩,OU⟩) fun mk fn fr gd av nd P7 M B O L Z1 l1 PX hN h2 h3=>?_;refine .rt (vs:=fun U=>[.ref v]) (fun U=>ha Z1 l1) fun r Z2 l2 p=>?_;obtain ⟨tp,pl,rfl,z1,z2⟩:=p;refine .fx (.v 7) 3 [.ref tp,.ref pl,.ref b] [7,8,9] [(7,.tup [.v 8,.v 9])] (ρ':=[.ref tp,.ref pl,.ref b]) (fz:=[(0,.tup [.v 1,.v 2])]) ⟨⟨tp,_,rfl,z1,rfl,rfl,OU⟩,OU⟩ ?_;refine .mkr (P7:=P7) 5 0 (he.le (l1.trans l2) ll) (PX.le l2) hN h2 h3 fun r Z3 PK N2 l3 ct p=>?_;obtain ⟨S,fl,rfl,Sv,hn,Xr⟩:=p;refine .one rfl (.rt (vs:=fun U=>[.ref fn,.ref pl,.ref S]) (fun U=>rH (ps:=ps) (fl:=fl) (m:=m) ?_ ((l2.trans l3) _ _ PX.g) (l3 _ _ z2) Sv hn R4 Xs) fun r Z4 l4 p=>?_)
 ·exact (PX.f.ext (.refl _) (l2.trans l3)).sel [1,3] (by first | (unfold mJ;kernel_rfl!) | exact rfl) OT
 refine et p fun f fs PL zf ef=>?_;clear p;subst PL;refine .one rfl (.al1 fun a=>?_);have hu:ps.isEmpty=false:=by cases ps;exact absurd rfl SX;rfl
 exact .finM (c:=.dct PK) 0 (.ret (.v 12)) [12,11,8,10] [(0,.obj bh [(ck,.v 1),(aO,.v 2),(aB,.v 3),(aL,.k (.bool false))])] [] (ρ':=[.ref a,.ref f,.ref pl,.ref S]) fun Zs v l5 h U r=>⟨PK,N2,rfl,ct,a,f,pl,S,fs,fl,af.det r rfl,hu▸eQ.of h.1 rfl rfl (fun x e=>af.det e rfl) (fun x e=>af.det e rfl),(l3.trans (l4.trans l5)) _ _ z2,l5 _ _ zf,ef,hP _ _ _ _ (l4.trans l5) Xr⟩
theorem Og:¬ (Txt.rfind mf ew:Int) > 0:=by decide +kernel
theorem Oh:¬ (Txt.rfind nH ew:Int) > 0:=by decide +kernel
theorem Fd:¬ (Txt.rfind hZ ew:Int) > 0:=by decide +kernel
set_option genCtorIdx true in
inductive AK where
 | var (x:Str)
 | lit (k:Int)
 | th (PB:List Str->a8->Addr->Prop)
noncomputable def AK.mono:AK->Prop
 | .th PB=>∀ fl Z Z' a,Z.le Z'->PB fl Z a->PB fl Z' a
 | _=>True
def AP (P8:KV)(N:Str->Nat)(Z:a8)(a:Addr)(bs:LV):AK->Prop
 | .var x=>CA Z a x/\bs=[]
 | .lit k=>MH Z a k/\bs=[]
 | .th PB=>∃ tp cl t,CA Z a (nm mf (N mf+1))/\bs=[.ref tp]/\Z tp=some (.tup [.str (nm mf (N mf+1)) t,.ref cl])/\oC P8 [] PB Z (.ref cl)
inductive Oi (s:Nat)(P8 P7:KV)(N:Str->Nat)(bs:LV)(k:AK)(Z:a8)(r:Value)(c d:an):Prop
 | mk (PH:KV) (N':Str->Nat) (a:Addr) (R9:LV) (_:r=.ref a) (_:c=.dct PH) (_:d=.pls (bs++R9)) (_:wj s P7 N PH N') (_:∀ PB,k=.th PB->N mf+1<=N' mf) (_:R9.length<=1) (_:AP P8 N Z a R9 k):Oi s P8 P7 N bs k Z r c d
def zb (w:World)(n s:Nat)(v:Addr)(P8:KV)(k:AK)(Z:a8):Prop:=
 ∀ (Z':a8) (mk fn fr gd av nd bl:Addr) (P7:KV) (N:Str->Nat) (bs:LV),Z.le Z'->fQ Z' mk fn fr gd av nd P8->gN P7 N->(∀ b,N b+s<=100)->P7.length+s<=300->bs.length<=100->
  r9 w n (call (.ref eZ) [.ref mk,.ref v,.ref bl]) nd bl (.dct P7) (.pls bs) (Oi s P8 P7 N bs k) Z'
theorem uF {P:Params}:bU P tX eZ 3:=.mk3
theorem CT {v:Addr}{x:Str}{t:Tok}{P8:KV}(hv:ac [.ref v,.str x t] Z nr):zb w 3 0 v P8 (.var x) Z:=by
 intro Z1 mk fn fr gd av nd bl P7 N bs l1 hm hN h2 h3 h4
 exact fA (N:=9) [.ref mk,.ref fn,.ref fr,.ref gd,.ref av,.ref nd,.ref bl,.ref v,.str x t] (PD:=[.v 0,.v 7,.v 6]) true 5 6 2 1 uF (fz:=[(7,.obj fB [(am,.v 8)])])
  (hv.pt [7,8] |>.ext (.refl _) l1) (fun B O L Z2 l2=>.al1 fun a=>.finM2 (c:=.dct P7) (d:=.pls bs) 0 0 (.ret (.v 9)) [9,8] rq [] (ρ':=[.ref a,.str x t]) fun Zs r l h U e=>⟨P7,N,a,[],af.det e rfl,rfl,by rw [List.append_nil],⟨hN,fun U=>Pm _,fun U=>Pm _,Pm _⟩,(fun U e=>nomatch e),Nat.zero_le _,⟨t,h⟩,rfl⟩) (fu rfl rfl rfl OU)
theorem CU {v:Addr}{x:Int}{t:Tok}{P8:KV}(hv:ac [.ref v,.int x t] Z pB):zb w 3 0 v P8 (.lit x) Z:=by
 intro Z1 mk fn fr gd av nd bl P7 N bs l1 hm hN h2 h3 h4
 exact fA (N:=9) [.ref mk,.ref fn,.ref fr,.ref gd,.ref av,.ref nd,.ref bl,.ref v,.int x t] (PD:=[.v 0,.v 7,.v 6]) true 5 6 2 1 uF (fz:=[(7,.obj eK [(fS,.str bt),(bG,.v 8)])])
  (hv.pt [7,8] |>.ext (.refl _) l1) (fun B O L Z2 l2=>.al1 fun a=>.finM2 (c:=.dct P7) (d:=.pls bs) 0 0 (.ret (.v 9)) [9,8] rr [] (ρ':=[.ref a,.int x t]) fun Zs r l h U e=>⟨P7,N,a,[],af.det e rfl,rfl,by rw [List.append_nil],⟨hN,fun U=>Pm _,fun U=>Pm _,Pm _⟩,(fun U e=>nomatch e),Nat.zero_le _,⟨t,h⟩,rfl⟩) (fu rfl rfl rfl OU)
theorem ae.next {B:Heap}{O:aP}{env:Env}{ρ:LV}{γ:List an}{α:Type}{t:IT α}{Q:QQ α}{P7 P8:KV}{N:Str->Nat}(i g:Nat)(mk fn fr gd av nd:Addr)(s:Str)(tx:(Nat->Tok)->Tok)(hm:fQ Z mk fn fr gd av nd P8)(hs:¬ (Txt.rfind s ew:Int) > 0)(hl:s.length<=10)(hN:gN P7 N)(hz:P7.length<=900)(hb:N s < 299)
  (k:∀ tk Z' PH,Z.le Z'->gN PH (bump N s)->PH.length<=P7.length+1->ae w B O n env t.n1 (sn ρ (.str (nm s (N s+1)) tk)) (γ.set g (.dct PH)) Z' Q) (Ru:autoParam (6<=n) tac9) (hc:autoParam (γ[g]? =some (.dct P7)) tac14)
  (Py:autoParam (qo t ρ i=ro 2 g (fun tk=>[.ref f7,.ref fr,.str s (tx tk)])) tac0) (ha:autoParam (ρ[i]? =some (.ref nd)) tac0):ae w B O n env t ρ γ Z Q:=
 .mt1 (P:=fun U v c=>Ic v (nm s (N s+1))/\∃ PH,c=.dct PH/\gN PH (bump N s)/\PH.length<=P7.length+1) (vs:=fun tk=>[.ref f7,.ref fr,.str s (tx tk)]) i g (fun tk=>Fb hs hl (hm.f.sl [2,4,5]) hm.a hN hz hb) (fun v Z' c' l p=>by
  refine kM p fun Qs PH PZ Vx=>?_;clear p;refine oA Vx fun h1 h2=>?_;clear Vx;refine oE Qs fun tk Q4=>?_;clear Qs;subst Q4;subst PZ;exact ⟨by rw [(Pc (Pc (ff Py)).2).1];rfl,.one rfl (k tk Z' PH l h1 h2)⟩) Ru (by have h:=Pc (ff Py);unfold qg rg;rw [h.1,(Pc h.2).2,(Pc Py).2]) ha hc
theorem tG {N:Str->Nat}{s:Str}:bump N s s=N s+1:=if_pos rfl
theorem jK {P7 Q7:KV}{N:Str->Nat}{s:Str}(h1:gN Q7 (bump N s))(h2:Q7.length<=P7.length+1):wj 1 P7 N Q7 (bump N s):=⟨h1,fun b=>by unfold bump;split<;>rename_i e;{subst e;exact cZ};exact Pm _,fun b=>by unfold bump;split<;>rename_i e;{subst e;exact cZ};exact cZ,h2⟩
theorem ML {v C:Addr}{s:Nat}{PB:List Str->a8->Addr->Prop}{P8:KV}(hv:ig Z v C)(hC:C∈oz)(hc:gR w c s ba (.ref v) P8 (oC P8 [] PB) Z)(h6:6<=c)(hP:∀ Z Z' r,Z.le Z'->oC P8 [] PB Z r->oC P8 [] PB Z' r):zb w (c+3) (s+1) v P8 (.th PB) Z:=by
 intro Z1 mk fn fr gd av nd bl P7 N bs l1 hm hN h2 h3 h4;refine fA (n:=c) (N:=8) [.ref mk,.ref fn,.ref fr,.ref gd,.ref av,.ref nd,.ref bl,.ref v] (PD:=[.v 0,.v 7,.v 6]) true 5 6 2 1 uF (fz:=HC) (hm.f.ext ⟨_,rfl⟩ (.refl _)) (fun B O L Z2 l2=>?_) (fu rfl rfl rfl OU);refine .opB .call (fun U=>[.builtin "isinstance",.ref v,.ref fB]) false (fun tk T h Zs ms R l H Q q=>CP H.st (hv.le (l1.trans (l2.trans l))) hC (q _ _ H.st rfl)) (.opB .call (fun U=>[.builtin "isinstance",.ref v,.ref eK]) false (fun tk T h Zs ms R l H Q q=>CQ H.st (hv.le (l1.trans (l2.trans l))) hC (q _ _ H.st rfl)) ?_);have hb:=h2 mf;refine .next (P7:=P7) (N:=N) 5 0 mk fn fr gd av nd mf (fun tk=>tk 2) (hm.le l2) Og OV hN (aJ h3) (aJ hb) fun tk Z3 Q7 l3 n1 n2=>?_;have ct:=jK n1 n2;refine .mkr (P7:=Q7) 5 0 (hc.le (l1.trans (l2.trans l3)) ll) (hm.le (l2.trans l3)) n1 (fun b=>by have:=h2 b;have:=ct.up b;lia) (bo h3 n2) fun r Z4 PK N2 l4 Sw p=>?_;have p0:=p;obtain ⟨cl,f,pl,S,fs,fl,rfl,_⟩:=p0;refine .one rfl (.al1 fun tp=>.append 6 1 bl (fun U=>.ref tp) (.ref tp) rfl (aJ h4) (fun U=>rfl) (.al1 fun a=>?_))
 exact .finM2 (c:=.dct PK) (d:=.pls (bs++[.ref tp])) 0 0 (.ret (.v 11)) [11,8,10,9] ((2,.tup [.v 1,.v 3])::rq) [] (ρ':=[.ref a,.str (nm mf (N mf+1)) tk,.ref tp,.ref cl]) fun Zs r l h U e=>⟨PK,N2,a,[.ref tp],af.det e rfl,rfl,rfl,Nat.add_comm 1 s▸ct.trans Sw,fun U U=>tG▸Sw.le mf,Pm _,tp,cl,tk,⟨tk,h.2.sl [0,1]⟩,rfl,h.1.tv,hP _ _ _ l p⟩
theorem eQ.le{m f p b:Addr}{u:Bool}(l:Z.le Z')(h:eQ Z m f p b u):eQ Z' m f p b u:=let ⟨a,h1,h2⟩:=h;⟨a,l _ _ h1,l _ _ h2⟩
theorem oC.le {Z':a8}{P8:KV}{ps:List (Str×Tok)}{PB:List Str->a8->Addr->Prop}{r:Value}(hP:∀ fl Z Z' a,Z.le Z'->PB fl Z a->PB fl Z' a)(l:Z.le Z')(h:oC P8 ps PB Z r):oC P8 ps PB Z' r:=by obtain ⟨a,f,pl,S,fs,fl,h1,h2,h3,h4,h5,h6⟩:=h;exact ⟨a,f,pl,S,fs,fl,h1,h2.le l,l _ _ h3,l _ _ h4,h5,hP _ _ _ _ l h6⟩
theorem AP.le {Z':a8}{P8:KV}{N:Str->Nat}{a:Addr}{bs:LV}{k:AK}(hk:k.mono)(l:Z.le Z')(h:AP P8 N Z a bs k):AP P8 N Z' a bs k:=by
 cases k with
 | var x=>exact ⟨oE h.1 fun t h1=>⟨t,h1.ext (.refl _) l⟩,h.2⟩
 | lit x=>exact ⟨oE h.1 fun t h1=>⟨t,h1.ext (.refl _) l⟩,h.2⟩
 | th=>exact fq h fun tp cl t hu h2 y=>pF tp cl t (oE hu fun u h1=>⟨u,h1.ext (.refl _) l⟩) h2 (l _ _ y.1) (oC.le hk l y.2)
theorem zb.le {v:Addr}{s n':Nat}{P8:KV}{k:AK}{Z':a8}(x:zb w n s v P8 k Z)(l:Z.le Z')(hn:n<=n'):zb w n' s v P8 k Z':=fun Z1 mk fn fr gd av nd bl P7 N bs l1 h1 h2 h3 h4 h5 B O Z2 led h Q i j QT l2 S e1 e2 q=>(x Z1 mk fn fr gd av nd bl P7 N bs (l.trans l1) h1 h2 h3 h4 h5 B O Z2 led h Q i j QT l2 S e1 e2 q).le hn
def zc (N N':Str->Nat)(k:AK):Prop:=(∀ b,N b<=N' b)/\∀ PB,k=.th PB->N mf+1<=N' mf
inductive CV (P8:KV)(N N':Str->Nat)(Z:a8)(al:Addr)(bs:LV)(k:AK):Prop
 | mk (a) (_:Z al=some (.lst [.ref a])) (_:AP P8 N Z a bs k) (_:zc N N' k) (_:bs.length<=1):CV P8 N N' Z al bs k
inductive Ao (P8:KV)(N N':Str->Nat)(Z:a8)(al:Addr)(bs:LV)(k k2:AK):Prop
 | mk (a a2 b b2 M) (_:bs=b++b2) (_:Z al=some (.lst [.ref a,.ref a2])) (_:AP P8 N Z a b k) (_:zc N M k) (_:AP P8 M Z a2 b2 k2) (_:zc M N' k2) (_:b.length<=1) (_:b2.length<=1):Ao P8 N N' Z al bs k k2
inductive HG (s:Nat)(P7:KV)(N:Str->Nat)(bs:LV)(P:(Str->Nat)->(Str->Nat)->a8->Addr->LV->Prop)(Z:a8)(r:Value)(c d:an):Prop
 | mk (PH:KV) (N':Str->Nat) (a:Addr) (R9:LV) (_:r=.ref a) (_:c=.dct PH) (_:d=.pls (bs++R9)) (_:wj s P7 N PH N') (_:P N N' Z a R9):HG s P7 N bs P Z r c d
def sq (w:World)(n s:Nat)(l:Addr)(P8:KV)(P:(Str->Nat)->(Str->Nat)->a8->Addr->LV->Prop)(Z:a8):Prop:=
 ∀ (Z':a8) (mk fn fr gd av nd bl:Addr) (P7:KV) (N:Str->Nat) (bs:LV),Z.le Z'->fQ Z' mk fn fr gd av nd P8->gN P7 N->(∀ b,N b+s<=100)->P7.length+s<=300->bs.length<=90->
  r9 w n (call (.ref e8) [.ref mk,.ref l,.ref bl]) nd bl (.dct P7) (.pls bs) (HG s P7 N bs P) Z'
theorem ae.atom {B:Heap}{O:aP}{env:Env}{ρ:LV}{γ:List an}{α:Type}{t:IT α}{Q:QQ α}{s:Nat}{v:Addr}{P8 P7:KV}{bs:LV}{N:Str->Nat}{k:AK}(i g i' g':Nat){mk fn fr gd av nd : Addr}(c:zb w m s v P8 k Z)(hm:fQ Z mk fn fr gd av nd P8)(h1:gN P7 N)(h2:∀ b,N b+s<=100)(h3:P7.length+s<=300)(h4:bs.length<=100)
  (kk:∀ a Z' PH N' R9,Z.le Z'->wj s P7 N PH N'->zc N N' k->R9.length<=1->AP P8 N Z' a R9 k->ae w B O n env t.n1 (sn ρ (.ref a)) ((γ.set g (.dct PH)).set g' (.pls (bs++R9))) Z' Q) (Ru:autoParam (m<=n) tac9) (hc:autoParam (γ[g]? =some (.dct P7)) tac14) (hd:autoParam (γ[g']? =some (.pls bs)) tac14)
  (Py:autoParam (q2 t ρ i i'=r2 2 g 1 g' (fun tk=>[.ref eZ,.ref mk,.ref v,.ref bl])) tac0) (ha:autoParam (ρ[i]? =some (.ref nd)) tac0) (hb:autoParam (ρ[i']? =some (.ref bl)) tac0):ae w B O n env t ρ γ Z Q:=by have q1:=Pc (ff Py);have q2:=Pc q1.2;have q3:=Pc q2.1;have q4:=Pc q2.2;have q5:=Pc q4.1;refine .mt2 (op:=.call) (P:=Oi s P8 P7 N bs k) (vs:=fun U=>[.ref eZ,.ref mk,.ref v,.ref bl]) i g i' g' (fun U=>c Z mk fn fr gd av nd bl P7 N bs (.refl _) hm h1 h2 h3 h4) (fun v Z' c' d' l p=>?_) Ru q4.2 (by unfold qg rg;rw [q1.1,q3.2,(Pc Py).2]) ha hc q5.2 hb hd;obtain ⟨PH,N',a,R9,rfl,rfl,rfl,ct,st,p1,p2⟩:=p;exact ⟨by rw [q3.1,q5.1];rfl,.one rfl (kk a Z' PH N' R9 l ct ⟨ct.le,st⟩ p1 p2)⟩
theorem nE {P:Params}:bU P js e8 3:=.mk3
theorem Oj {l v:Addr}{s:Nat}{P8:KV}{k:AK}(hl:Z l=some (.lst [.ref v]))(hv:zb w c s v P8 k Z)(hk:k.mono):sq w (c+3) s l P8 (fun N N' Z al bs=>CV P8 N N' Z al bs k) Z:=by intro Z1 mk fn fr gd av nd bl P7 N bs l1 hm hN h2 h3 h4;refine fA (n:=c) (N:=9) [.ref mk,.ref fn,.ref fr,.ref gd,.ref av,.ref nd,.ref bl,.ref l,.ref v] (PD:=[.v 0,.v 7,.v 6]) true 5 6 2 1 nE (fz:=(7,.lst [.v 8])::HC) ⟨⟨l,_,rfl,l1 _ _ hl,rfl,OU⟩,hm.f.ext ⟨_,rfl⟩ (.refl _)⟩ (fun B O L Z2 l2=>?_) (fu rfl rfl rfl OU);refine .comp true (fi js true) ((nE (P:=w.params)).env true L) fun U=>?_;refine .atom (bl:=bl) (P7:=P7) (bs:=bs) (N:=N) 5 0 6 1 (hv.le (l1.trans l2) ll) (hm.le l2) hN h2 h3 lw fun a Z3 Q7 N1 Sx l3 ct st z5 p=>.done [] ⟨by ac_rfl,fun al=>?_⟩;exact .finM2 (c:=.dct Q7) (d:=.pls (bs++Sx)) 0 0 (.ret (.v 10)) [10,9] [(0,.lst [.v 1])] [] (ρ':=[.ref al,.ref a]) fun Zs r l4 h U e=>⟨Q7,N1,al,Sx,af.det e rfl,rfl,rfl,ct,a,h.1.lv,p.le hk l4,st,z5⟩
theorem HH {l v : Addr}{s : Nat}{P8:KV}{k k2:AK}(hl:Z l=some (.lst [.ref v,.ref v2]))(hv:zb w c s v P8 k Z)(Rm:zb w c s2 v2 P8 k2 Z)(hk:k.mono)(PG:k2.mono):sq w (c+3) (s+s2) l P8 (fun N N' Z al bs=>Ao P8 N N' Z al bs k k2) Z:=by
 intro Z1 mk fn fr gd av nd bl P7 N bs l1 hm hN h2 h3 h4;refine fA (n:=c) (N:=10) [.ref mk,.ref fn,.ref fr,.ref gd,.ref av,.ref nd,.ref bl,.ref l,.ref v,.ref v2] (PD:=[.v 0,.v 7,.v 6]) true 5 6 2 1 nE (fz:=(7,.lst [.v 8,.v 9])::HC) ⟨⟨l,_,rfl,l1 _ _ hl,rfl,rfl,OU⟩,hm.f.ext ⟨_,rfl⟩ (.refl _)⟩ (fun B O L Z2 l2=>?_) (fu rfl rfl rfl OU);refine .comp true (fi js true) ((nE (P:=w.params)).env true L) fun U=>?_;refine .atom (bl:=bl) (P7:=P7) (bs:=bs) (N:=N) 5 0 6 1 (hv.le (l1.trans l2) ll) (hm.le l2) hN (fun b=>by have:=h2 b;exact aJ this) (aJ h3) lw fun a Z3 Q7 N1 Sx l3 ct st z5 p=>?_;have hz:=ct.len;refine .atom (bl:=bl) (P7:=Q7) (bs:=bs++Sx) (N:=N1) 5 0 6 1 (Rm.le (l1.trans (l2.trans l3)) ll) (hm.le (l2.trans l3)) ct.at' (fun b=>by have:=h2 b;have:=ct.up b;lia) (bo h3 hz) (by rw [List.length_append];exact bo h4 z5) fun a2 Z4 PK N2 Sy l4 Sw Ig z6 p2=>.done [] ⟨by ac_rfl,fun al=>?_⟩
 exact .finM2 (c:=.dct PK) (d:=.pls (bs++Sx++Sy)) 0 0 (.ret (.v 12)) [12,10,11] [(0,.lst [.v 1,.v 2])] [] (ρ':=[.ref al,.ref a,.ref a2]) fun Zs r l5 h U e=>⟨PK,N2,al,Sx++Sy,af.det e rfl,rfl,by rw [List.append_assoc],ct.trans Sw,a,a2,Sx,Sy,N1,rfl,h.1.lv,p.le hk (l4.trans l5),st,p2.le PG l5,Ig,z5,z6⟩
theorem rM {B:Heap}{O:aP}{h:Heap}{v C:Addr}{Q:VP}(S:St w B O Z led h)(hv:ig Z v C)(hC:C=fB\/C=dZ)(q:Q (.bool false) h):W PW w n (call (.builtin "isinstance") [.ref v,.ref gH]) Q h:=by obtain ⟨dx,fs,h1,h2⟩:=hv;rcases hC with rfl | rfl<;>exact wQ false S (S.z h1) (S.z h2) q
theorem xG {P:Params}:bU P uT dl 1:=.mk1
inductive rN (hd:Addr)(as:LV)(Z:a8)(r:Value):Prop
 | mk (tp al) (_:r=.ref tp) (_:Z tp=some (.tup [.ref hd,.ref al])) (_:Z al=some (.lst as)):rN hd as Z r
theorem MM {v h a l C:Addr}(hf:ac [.ref v,.ref h,.ref a,.ref l] Z tD)(hb:ig Z h C)(hC:C=fB\/C=dZ):RT w 5 dl [.ref v] (rN h [.ref a]) Z:=
 bu (n:=2) (N:=4) [.ref v,.ref h,.ref a,.ref l] (PD:=[.v 0]) true xG hf (fun B O L Z1 l1=>.al3 fun U U al=>
  .opB .call (fun U=>[.builtin "isinstance",.ref h,.ref gH]) false (fun tk T h Zs ms R l H Q q=>rM H.st (hb.le (l1.trans l)) hC (q _ _ H.st rfl)) (.al1 fun tp=>.finO (.ret (.v 7)) [7,1,6,2] [(0,.tup [.v 1,.v 2]),(2,.lst [.v 3])] [] (ρ':=[.ref tp,.ref h,.ref al,.ref a]) fun Zs r l h U e=>⟨tp,al,af.det e rfl,h.1.tv,h.2.1.lv⟩)) ⟨rfl,OU⟩
theorem MN {v h a b l C:Addr}(hf:ac [.ref v,.ref h,.ref a,.ref b,.ref l] Z yR)(hb:ig Z h C)(hC:C=fB\/C=dZ):RT w 5 dl [.ref v] (rN h [.ref a,.ref b]) Z:=
 bu (n:=2) (N:=5) [.ref v,.ref h,.ref a,.ref b,.ref l] (PD:=[.v 0]) true xG hf (fun B O L Z1 l1=>.al3 fun U U al=>
  .opB .call (fun U=>[.builtin "isinstance",.ref h,.ref gH]) false (fun tk T h Zs ms R l H Q q=>rM H.st (hb.le (l1.trans l)) hC (q _ _ H.st rfl)) (.al1 fun tp=>.finO (.ret (.v 8)) [8,1,7,2,3] [(0,.tup [.v 1,.v 2]),(2,.lst [.v 3,.v 4])] [] (ρ':=[.ref tp,.ref h,.ref al,.ref a,.ref b]) fun Zs r l h U e=>⟨tp,al,af.det e rfl,h.1.tv,h.2.1.lv⟩)) ⟨rfl,OU⟩
def xH:List (Nat×aE):=[(0,.obj gH [(kS,.v 1),(br,.v 3)]),(3,.lst [.v 2]),(1,.obj gH [(kS,.v 4),(br,.v 6)]),(6,.lst [.v 5])]
theorem HI {v h a b l C : Addr}(hf:ac [.ref v,.ref v2,.ref b,.ref l,.ref h,.ref a,.ref l2] Z xH)(hb:ig Z h C)(hC:C=fB\/C=dZ):RT w 5 dl [.ref v] (rN h [.ref a,.ref b]) Z:=
 bu (n:=2) (N:=7) [.ref v,.ref v2,.ref b,.ref l,.ref h,.ref a,.ref l2] (PD:=[.v 0]) true xG hf (fun B O L Z1 l1=>.al3 fun U U U=>.al2 fun U al=>
  .opB .call (fun U=>[.builtin "isinstance",.ref h,.ref gH]) false (fun tk T h Zs ms R l H Q q=>rM H.st (hb.le (l1.trans l)) hC (q _ _ H.st rfl)) (.al1 fun tp=>.finO (.ret (.v 12)) [12,4,11,5,2] [(0,.tup [.v 1,.v 2]),(2,.lst [.v 3,.v 4])] [] (ρ':=[.ref tp,.ref h,.ref al,.ref a,.ref b]) fun Zs r l h U e=>⟨tp,al,af.det e rfl,h.1.tv,h.2.1.lv⟩)) ⟨rfl,OU⟩
theorem Fe {P:Params}:bU P B0 mP 2:=.mk2
def mj (bs:LV)(S:Addr):a8->Value->Prop:=fun Z r=>(bs=[]/\r=.ref S)\/(bs≠[]/\∃ a l,r=.ref a/\ac [.ref a,.ref l,.ref S] Z [(0,.obj cV [(aR,.v 1),(aB,.v 2)])]/\Z l=some (.lst bs))
theorem tH {h:Heap}{l:Addr}{Q:Bool->Heap->Prop}(hl:ci w h l (.lst xs))(hz:xs.length<=1000)(q:Q (!xs.isEmpty) h):W PW w n (truthy (.ref l)) Q h:=.mk fun A g d tk os hA=>
 wpAny_truthy_list (items:=⟨xs⟩) hl (by show (xs.length:Int) < _;lia) (by
  have e:(⟨xs⟩:Array Value).isEmpty=xs.isEmpty:=by cases xs<;>rfl
  rw [e];exact aI q)
theorem oD {S : Addr}{bs:LV}(hb:Z bl=some (.lst bs))(hz:bs.length<=100):RT w 3 mP [.ref bl,.ref S] (mj bs S) Z:=by
 have ent:=fun g=>bu (w:=w) (P:=mj bs S) (n:=0) (N:=2) (vals:=[.ref bl,.ref S]) [.ref bl,.ref S] (PD:=[.v 0,.v 1]) (fz:=[]) true Fe (Z:=Z) OU g (cF rfl rfl OU);cases bs with
 | nil=>exact ent fun B O L Z1 l1=>.tr (x:=fun U=>.ref bl) false (fun tk=>.at (.z (l1 _ _ hb)) fun h Q hd q=>tH hd lw (q _ rfl)) (.finV 1 fun U U=>.inl ⟨rfl,rfl⟩)
 | cons y ys=>exact ent fun B O L Z1 l1=>.tr (x:=fun U=>.ref bl) true (fun tk=>.at (.z (l1 _ _ hb)) fun h Q hd q=>tH hd lw (q _ rfl)) (.al1 fun a=>.finO (.ret (.v 2)) [2,0,1] [(0,.obj cV [(aR,.v 1),(aB,.v 2)])] [] (ρ':=[.ref a,.ref bl,.ref S]) fun Zs r l h U e=>.inr (jv (by simp) a bl (af.det e rfl) h (l _ _ (l1 _ _ hb))))
theorem ae.atoms {B:Heap}{O:aP}{env:Env}{ρ:LV}{γ:List an}{α:Type}{t:IT α}{Q:QQ α}{s:Nat}{P8 P7:KV}{bs:LV}{N:Str->Nat}{P:(Str->Nat)->(Str->Nat)->a8->Addr->LV->Prop}(i g i' g':Nat){mk fn fr gd av nd:Addr}(l bl:Addr)(c:sq w m s l P8 P Z)(hm:fQ Z mk fn fr gd av nd P8)(h1:gN P7 N)(h2:∀ b,N b+s<=100)(h3:P7.length+s<=300)(h4:bs.length<=90)
  (kk:∀ a Z' PH N' R9,Z.le Z'->wj s P7 N PH N'->P N N' Z' a R9->ae w B O n env t.n1 (sn ρ (.ref a)) ((γ.set g (.dct PH)).set g' (.pls (bs++R9))) Z' Q) (Ru:autoParam (m<=n) tac9) (hc:autoParam (γ[g]? =some (.dct P7)) tac14) (hd:autoParam (γ[g']? =some (.pls bs)) tac14)
  (Py:autoParam (q2 t ρ i i'=r2 2 g 1 g' (fun tk=>[.ref e8,.ref mk,.ref l,.ref bl])) tac0) (ha:autoParam (ρ[i]? =some (.ref nd)) tac0) (hb:autoParam (ρ[i']? =some (.ref bl)) tac0):ae w B O n env t ρ γ Z Q:=by have q1:=Pc (ff Py);have q2:=Pc q1.2;have q3:=Pc q2.1;have q4:=Pc q2.2;have q5:=Pc q4.1;refine .mt2 (op:=.call) (P:=HG s P7 N bs P) (vs:=fun U=>[.ref e8,.ref mk,.ref l,.ref bl]) i g i' g' (fun U=>c Z mk fn fr gd av nd bl P7 N bs (.refl _) hm h1 h2 h3 h4) (fun v Z' c' d' l p=>?_) Ru q4.2 (by unfold qg rg;rw [q1.1,q3.2,(Pc Py).2]) ha hc q5.2 hb hd;obtain ⟨PH,N',a,R9,rfl,rfl,rfl,ct,p⟩:=p;exact ⟨by rw [q3.1,q5.1];rfl,.one rfl (kk a Z' PH N' R9 l ct p)⟩
theorem sq.le {l:Addr}{s n':Nat}{P8:KV}{P:(Str->Nat)->(Str->Nat)->a8->Addr->LV->Prop}{Z':a8}(x:sq w n s l P8 P Z)(l':Z.le Z')(hn:n<=n'):sq w n' s l P8 P Z':=fun Z1 mk fn fr gd av nd bl P7 N bs l1 h1 h2 h3 h4 h5 B O Z2 led h Q i j QT l2 S e1 e2 q=>(x Z1 mk fn fr gd av nd bl P7 N bs (l'.trans l1) h1 h2 h3 h4 h5 B O Z2 led h Q i j QT l2 S e1 e2 q).le hn
def rO:List (Nat×aE):=[(0,.obj dF [(am,.v 1),(aK,.v 2)])]
theorem zd {P:Params}:bU P tY dW 2:=.mk2
abbrev wk:=(Str->Nat)->(Str->Nat)->a8->Addr->LV->Prop
theorem mj.le{bs:LV}{S:Addr}{r:Value}(l:Z.le Z')(h:mj bs S Z r):mj bs S Z' r:=Or.imp id (fun h=>o4 h fun h a b h1 h2 h3=>jv h a b h1 (h2.ext (.refl _) l) (l _ _ h3)) h
inductive Gm (x:Str)(P:wk)(Z:a8)(r:Value):Prop
 | mk (N N':Str->Nat) (bs:LV) (S al:Addr) (t:Tok) (_:mj bs S Z r) (_:ac [.ref S,.str x t,.ref al] Z rO) (_:P N N' Z al bs) (_:∀ b,N' b<=100):Gm x P Z r
theorem CW {v h C:Addr}{as:LV}{x:Str}{t:Tok}{s:Nat}{P8:KV}{P:wk}(hf:∀ Z',Z.le Z'->RT w 5 dl [.ref v] (rN h as) Z')(hh:ac [.ref h,.str x t] Z nr)(ha:∀ Z' al,Z.le Z'->Z' al=some (.lst as)->sq w c s al P8 P Z')(hc:6<=c)(hP:∀ N N' Z Z' a bs,Z.le Z'->P N N' Z a bs->P N N' Z' a bs/\bs.length<=2):
  gR w (c+3) s dW (.ref v) P8 (Gm x P) Z:=by refine .in (n:=c) (N:=9) [.ref v,.ref h,.str x t] (.v 6) [(7,.obj fB [(am,.v 8)])] zd (fun U U U U U U=>hh.pt [7,8]) fun mk fn fr gd av nd P7 M B O L Z1 l1 PX hN h2 h3=>?_;refine .rt (vs:=fun U=>[.ref v]) (fun U=>hf Z1 l1) fun r Z2 l2 p=>?_;obtain ⟨tp,al,rfl,z1,z2⟩:=p;refine .fx (.v 9) 2 [.ref tp,.ref al] [9,7,10] [(9,.tup [.v 7,.v 10])] (ρ':=[.ref tp,.ref h,.ref al]) (fz:=[(0,.tup [.v 1,.v 2])]) ⟨⟨tp,_,rfl,z1,rfl,rfl,OU⟩,OU⟩ (.al1 fun bl=>?_);refine .opn 11 0 0 false (.atoms (P7:=P7) (bs:=[]) (N:=M) 5 1 11 0 al bl (ha Z2 al (l1.trans l2) z2) (PX.le l2) hN h2 h3 (by simp only [List.length_nil];exact cZ) fun a Z3 PK N2 Sy l3 ct p=>.al1 fun S=>?_);refine .frz 11 0 (a:=bl) (c:=.pls Sy) fun Z4 l4 z4=>?_;have hp2:=hP _ _ _ _ _ _ (l4) p;refine .rt (vs:=fun U=>[.ref bl,.ref S]) (fun U=>oD (bs:=Sy) z4 (by lia)) fun r Z5 l5 q=>.k (.k r) rfl ?_;exact .finM (c:=.dct PK) 0 (.ret (.k r)) [13,8,12] rO [] (ρ':=[.ref S,.str x t,.ref a]) fun Zs v l6 h U e=>⟨PK,N2,rfl,ct,M,N2,Sy,S,a,t,(show v=r from e)▸q.le l6,h,(hP _ _ _ _ _ _ (l4.trans (l5.trans l6)) p).1,fun b=>by have:=h2 b;have:=ct.up b;lia⟩
inductive eF (P:a8->Addr->Prop)(Z:a8)(r:Value):Prop
 | mk (a) (_:r=.ref a) (_:P Z a):eF P Z r
noncomputable def jL (P:a8->Addr->Prop):Prop:=∀ Z Z' a,Z.le Z'->P Z a->P Z' a
inductive Gn (PC:a8->Addr->Prop)(P:wk)(Z:a8)(r:Value):Prop
 | mk (k:Nat) (N N':Str->Nat) (bs:LV) (S al tp cl:Addr) (t t2:Tok) (_:mj (.ref tp::bs) S Z r) (_:ac [.ref S,.str (nm nH k) t,.ref al] Z rO) (_:Z tp=some (.tup [.str (nm nH k) t2,.ref cl])) (_:PC Z cl) (_:P N N' Z al bs) (_:(∀ b,N' b<=100)) (_:k<=100):Gn PC P Z r
theorem Ap {B:Heap}{O:aP}{h:Heap}{v:Addr}{p b:Value}{Q:VP}(S:St w B O Z led h)(hv:sm Z v p b)(q:Q (.bool false) h):W PW w n (call (.builtin "isinstance") [.ref v,.ref fB]) Q h:=by obtain ⟨dx,h1,h2⟩:=hv;exact wQ false S (S.z h1) (S.z h2) q
theorem sm.le{v:Addr}{p b:Value}(l:Z.le Z')(h:sm Z v p b):sm Z' v p b:=let ⟨a,h1,h2⟩:=h;⟨a,l _ _ h1,l _ _ h2⟩
theorem CY {v h:Addr}{p0 b0:Value}{as:LV}{s : Nat}{PC:a8->Addr->Prop}{P8:KV}{P:wk}(hf:∀ Z',Z.le Z'->RT w 5 dl [.ref v] (rN h as) Z')(hh:sm Z h p0 b0)(Sp:gR w c s2 ba (.ref h) P8 (eF PC) Z)(Vy:jL PC)
  (ha:∀ Z' al,Z.le Z'->Z' al=some (.lst as)->sq w c s al P8 P Z') (hc:6<=c) (hP:∀ N N' Z Z' a bs,Z.le Z'->P N N' Z a bs->P N N' Z' a bs/\bs.length<=2):gR w (c+3) (1+s2+s) dW (.ref v) P8 (Gn PC P) Z:=by
 refine .in (n:=c) (N:=8) [.ref v,.ref h] (.v 6) [] zd (fun U U U U U U=>OU) fun mk fn fr gd av nd P7 M B O L Z1 l1 PX hN h2 h3=>?_;refine .rt (vs:=fun U=>[.ref v]) (fun U=>hf Z1 l1) fun r Z2 l2 p=>?_;obtain ⟨tp,al,rfl,z1,z2⟩:=p;refine .fx (.v 8) 2 [.ref tp,.ref al] [8,7,9] [(8,.tup [.v 7,.v 9])] (ρ':=[.ref tp,.ref h,.ref al]) (fz:=[(0,.tup [.v 1,.v 2])]) ⟨⟨tp,_,rfl,z1,rfl,rfl,OU⟩,OU⟩ (.al1 fun bl=>?_);refine .opB .call (fun U=>[.builtin "isinstance",.ref h,.ref fB]) false (fun tk T h Zs ms R l H Q q=>Ap H.st (hh.le (l1.trans (l2.trans l))) (q _ _ H.st rfl)) ?_;have hb:=h2 nH;refine .opn 10 0 0 false (.next (P7:=P7) (N:=M) 5 1 mk fn fr gd av nd nH (fun tk=>tk 2) (PX.le l2) Oh OV hN (aJ h3) (aJ hb) fun tk Z3 Q7 l3 n1 n2=>?_);have ct:=jK n1 n2;refine .mkr (P7:=Q7) 5 1 (Sp.le (l1.trans (l2.trans l3)) ll) (PX.le (l2.trans l3)) n1 (fun b=>by have:=h2 b;have:=ct.up b;lia) (bo h3 n2) fun r Z4 PK N2 l4 Sw p=>?_;obtain ⟨cl,rfl,pc⟩:=p;have Rv:=ct.trans Sw;have S8:=Rv.len;refine .one rfl (.al1 fun PT=>.append 10 0 bl (fun U=>.ref PT) (.ref PT) rfl (by simp only [MF,List.length_nil];exact cZ) (fun U=>rfl) (.atoms (P7:=PK) (bs:=[.ref PT]) (N:=N2) 5 1 10 0 al bl (ha Z4 al (l1.trans (l2.trans (l3.trans l4))) ((l3.trans l4) _ _ z2)) (PX.le (l2.trans (l3.trans l4))) Rv.at' (fun b=>by have:=h2 b;have:=Rv.up b;lia) (bo h3 S8) (by symm;exact cZ) fun a Z5 Qi N3 Xu l5 Xv q=>.al1 fun S=>.frz 10 0 (a:=bl) (c:=.pls (.ref PT::Xu)) fun Z6 l6 z6=>?_));have RQ:=(hP _ _ _ _ _ _ l6 q).2;have YY:=Rv.trans Xv;refine .rt (vs:=fun U=>[.ref bl,.ref S]) (fun U=>oD (bs:=.ref PT::Xu) z6 (by simp only [List.length_cons];exact aJ RQ)) fun r Z7 l7 q7=>.k (.k r) rfl ?_
 exact .finM (c:=.dct Qi) 0 (.ret (.k r)) [15,11,14,13,12] ((3,.tup [.v 1,.v 4])::rO) [] (ρ':=[.ref S,.str (nm nH (M nH+1)) tk,.ref a,.ref PT,.ref cl]) fun Zs v l8 h U e=>⟨Qi,N3,rfl,YY,M nH+1,N2,N3,Xu,S,a,PT,cl,tk,tk,(show v=r from e)▸q7.le l8,h.2.sl [0,1,2],h.1.tv,Vy _ _ _ (l5.trans (l6.trans (l7.trans l8))) pc,(hP _ _ _ _ _ _ (l6.trans (l7.trans l8)) q).1,(fun b=>by have:=h2 b;have:=YY.up b;lia),aJ hb⟩
theorem i4 {P:Params}:bU P fU aq 2:=.mk2
inductive HJ (k:AK)(Z:a8)(r:Value):Prop
 | mk (S a gk N bs) (_:r=.ref S) (_:ac [.ref S,.ref a] Z lE) (_:AP gk N Z a bs k):HJ k Z r
theorem HL {v:Addr}{x:Str}{t:Tok}{P8:KV}(hv:ac [.ref v,.str x t] Z nr):gR w 6 0 aq (.ref v) P8 (HJ (.var x)) Z:=by refine .in (n:=3) (N:=8) [.ref v,.str x t] (.v 6) [(6,.obj fB [(am,.v 7)])] i4 (fun U U U U U U=>hv.pt [6,7]) fun mk fn fr gd av nd P7 M B O L Z1 l1 PX hN h2 h3=>?_;refine .al2 fun U bl=>.opn 9 0 0 false (.atom (bl:=bl) (P7:=P7) (bs:=[]) (N:=M) 5 1 9 0 (CT (hv.ext (.refl _) l1)) PX hN h2 h3 (Nat.zero_le _) fun a Z3 Q7 N1 Sx l3 ct st z5 p=>.al1 fun S=>?_);exact .finM (c:=.dct Q7) 1 (.ret (.v 11)) [11,10] lE [] (ρ':=[.ref S,.ref a]) fun Zs v l6 h U e=>⟨Q7,N1,rfl,ct,S,a,P8,M,Sx,af.det e rfl,h,p.le OU l6⟩
theorem HM {v:Addr}{x:Int}{t:Tok}{P8:KV}(hv:ac [.ref v,.int x t] Z pB):gR w 6 0 aq (.ref v) P8 (HJ (.lit x)) Z:=by refine .in (n:=3) (N:=8) [.ref v,.int x t] (.v 6) [(6,.obj eK [(fS,.str bt),(bG,.v 7)])] i4 (fun U U U U U U=>hv.pt [6,7]) fun mk fn fr gd av nd P7 M B O L Z1 l1 PX hN h2 h3=>?_;refine .al2 fun U bl=>.opn 9 0 0 false (.atom (bl:=bl) (P7:=P7) (bs:=[]) (N:=M) 5 1 9 0 (CU (hv.ext (.refl _) l1)) PX hN h2 h3 (Nat.zero_le _) fun a Z3 Q7 N1 Sx l3 ct st z5 p=>.al1 fun S=>?_);exact .finM (c:=.dct Q7) 1 (.ret (.v 11)) [11,10] lE [] (ρ':=[.ref S,.ref a]) fun Zs v l6 h U e=>⟨Q7,N1,rfl,ct,S,a,P8,M,Sx,af.det e rfl,h,p.le OU l6⟩
theorem xI {v:Addr}{f0 a0:Value}{s:Nat}{P8:KV}{P:a8->Value->Prop}(hv:∃ dx,Z v=some (.ins gH dx)/\Z dx=some (.att [(kS,f0),(br,a0)]))(hc:gR w c s dW (.ref v) P8 P Z)(hP:∀ Z Z' r,Z.le Z'->P Z r->P Z' r):gR w (c+3) s aq (.ref v) P8 P Z:=by refine .in (n:=c) (N:=7) [.ref v] (.v 6) [(6,.obj gH [(kS,.k f0),(br,.k a0)])] i4 (fun U U U U U U=>⟨(by refine bM hv fun dx h1 h2=>?_;exact ⟨v,dx,_,rfl,h1,h2,⟨rfl,rfl⟩,⟨rfl,rfl⟩,OU⟩),OU⟩) fun mk fn fr gd av nd P7 M B O L Z1 l1 PX hN h2 h3=>?_;refine .al1 fun U=>.mkr (P7:=P7) 5 0 (hc.le l1 ll) PX hN h2 h3 fun r Z2 PK N2 l2 ct p=>.k (.k r) rfl ?_;exact .finM (c:=.dct PK) 0 (.ret (.k r)) [] [] [] (ρ':=[]) fun Zs v l6 h U e=>⟨PK,N2,rfl,ct,(show v=r from e)▸hP _ _ _ l6 p⟩
inductive HN (P:wk)(S9:Str)(Z:a8)(r:Value):Prop
 | mk (N N':Str->Nat) (bs:LV) (S al:Addr) (t:Tok) (_:mj bs S Z r) (_:ac [.ref S,.str S9 t,.ref al] Z [(0,.obj fT [(iN,.v 1),(aK,.v 2)])]) (_:P N N' Z al bs) (_:∀ b,N' b<=100):HN P S9 Z r
theorem HO {v l:Addr}{as:LV}{x:Str}{t:Tok}{s:Nat}{P8:KV}{P:wk}(hv:ac [.ref v,.str x t,.ref l] Z [(0,.obj kY [(am,.v 1),(br,.v 2)])])(ha:sq w c s l P8 P Z)(hc:6<=c)(hP:∀ N N' Z Z' a bs,Z.le Z'->P N N' Z a bs->P N N' Z' a bs/\bs.length<=2):gR w (c+3) s aq (.ref v) P8 (HN P x) Z:=by refine .in (n:=c) (N:=9) [.ref v,.str x t,.ref l] (.v 6) [(6,.obj kY [(am,.v 7),(br,.v 8)])] i4 (fun U U U U U U=>hv.pt [6,7,8]) fun mk fn fr gd av nd P7 M B O L Z1 l1 PX hN h2 h3=>?_;refine .al2 fun U bl=>?_;refine .opn 10 0 0 false (.atoms (P7:=P7) (bs:=[]) (N:=M) 5 1 10 0 l bl (ha.le l1 ll) PX hN h2 h3 (by simp only [List.length_nil];exact cZ) fun a Z3 PK N2 Sy l3 ct p=>.al1 fun S=>.frz 10 0 (a:=bl) (c:=.pls Sy) fun Z4 l4 z4=>?_);have hp2:=hP _ _ _ _ _ _ (l4) p;refine .rt (vs:=fun U=>[.ref bl,.ref S]) (fun U=>oD (bs:=Sy) z4 (by lia)) fun r Z5 l5 q=>.k (.k r) rfl ?_;exact .finM (c:=.dct PK) 0 (.ret (.k r)) [12,7,11] [(0,.obj fT [(iN,.v 1),(aK,.v 2)])] [] (ρ':=[.ref S,.str x t,.ref a]) fun Zs v l6 h U e=>⟨PK,N2,rfl,ct,M,N2,Sy,S,a,t,(show v=r from e)▸q.le l6,h,(hP _ _ _ _ _ _ (l4.trans (l5.trans l6)) p).1,fun b=>by have:=h2 b;have:=ct.up b;lia⟩
inductive ze (x:Str)(t:Tok)(PC PB:a8->Addr->Prop)(Z:a8)(S:Addr):Prop
 | mk (l b tp cl) (_:ac [.ref S,.ref l,.ref b,.ref tp,.str x t,.ref cl] Z mE) (_:PC Z cl) (_:PB Z b):ze x t PC PB Z S
theorem zh {v b l tp e:Addr}{x:Str}{t:Tok}{r:Bool}{s : Nat}{P8:KV}{PC PB:a8->Addr->Prop}(hv:ac [.ref v,.ref b,.ref l,.ref tp,.str x t,.ref e,.bool r] Z w5)(hc:gR w c s ba (.ref e) P8 (eF PC) Z)(hb:gR w c s2 aq (.ref b) P8 (eF PB) Z)(Vy:jL PC)(Uc:jL PB):gR w (c+3) (s+s2) aq (.ref v) P8 (eF (ze x t PC PB)) Z:=by refine .in (n:=c) (N:=13) [.ref v,.ref b,.ref l,.ref tp,.str x t,.ref e,.bool r] (.v 6) [(6,.obj jB [(aR,.v 8),(aB,.v 7),(gw,.v 12)]),(8,.lst [.v 9]),(9,.tup [.v 10,.v 11])] i4 (fun U U U U U U=>hv.pt [6,7,8,9,10,11,12]) fun mk fn fr gd av nd P7 M B O L Z1 l1 PX hN h2 h3=>?_;refine .al1 fun U=>?_;refine .compA true (fi fU true) ((i4 (P:=w.params)).env true L) fun U=>?_;refine .mkr (P7:=P7) 5 0 (hc.le l1 ll) PX hN (fun b=>by have:=h2 b;exact aJ this) lw fun r Z2 PK N2 l2 ct p=>?_;obtain ⟨cl,rfl,pc⟩:=p;have hz:=ct.len;refine .one rfl (.al1 fun PT=>.done [] ⟨by ac_rfl,fun bl=>?_⟩);refine .mkr (P7:=PK) 5 0 (hb.le (l1.trans l2) ll) (PX.le l2) ct.at' (fun b=>by have:=h2 b;have:=ct.up b;lia) (bo h3 hz) fun r Z3 Qi N3 l3 Sw p=>?_;obtain ⟨bd,rfl,pb⟩:=p;refine .one rfl (.al1 fun S=>?_);exact .finM (c:=.dct Qi) 0 (.ret (.v 18)) [18,16,17,15,10,14] mE [] (ρ':=[.ref S,.ref bl,.ref bd,.ref PT,.str x t,.ref cl]) fun Zs v l4 h U e=>⟨Qi,N3,rfl,ct.trans Sw,S,af.det e rfl,bl,bd,PT,cl,h,Vy _ _ _ (l3.trans l4) pc,Uc _ _ _ l4 pb⟩
inductive CZ (x:Str)(t:Tok)(y:Str)(u:Tok)(PC UO PB:a8->Addr->Prop)(Z:a8)(S:Addr):Prop
 | mk (l b tp cl PT Ti) (_:ac [.ref S,.ref l,.ref b,.ref tp,.str x t,.ref cl,.ref PT,.str y u,.ref Ti] Z mF) (_:PC Z cl) (_:UO Z Ti) (_:PB Z b):CZ x t y u PC UO PB Z S
theorem Ff {v b l tp e PT : Addr}{x y:Str}{t u:Tok}{r:Bool}{s : Nat}{P8:KV}{PC UO PB:a8->Addr->Prop}(hv:ac [.ref v,.ref b,.ref l,.ref tp,.str x t,.ref e,.ref PT,.str y u,.ref e2,.bool r] Z yV)(hc:gR w c s ba (.ref e) P8 (eF PC) Z)(Rc:gR w c s1 ba (.ref e2) P8 (eF UO) Z)(hb:gR w c s2 aq (.ref b) P8 (eF PB) Z)(Vy:jL PC)(Xw:jL UO)(Uc:jL PB):gR w (c+3) (s+s1+s2) aq (.ref v) P8 (eF (CZ x t y u PC UO PB)) Z:=by refine .in (n:=c) (N:=16) [.ref v,.ref b,.ref l,.ref tp,.str x t,.ref e,.ref PT,.str y u,.ref e2,.bool r] (.v 6) [(6,.obj jB [(aR,.v 8),(aB,.v 7),(gw,.v 15)]),(8,.lst [.v 9,.v 12]),(9,.tup [.v 10,.v 11]),(12,.tup [.v 13,.v 14])] i4 (fun U U U U U U=>hv.pt [6,7,8,9,10,11,12,13,14,15]) fun mk fn fr gd av nd P7 M B O L Z1 l1 PX hN h2 h3=>?_;refine .al1 fun U=>.compA true (fi fU true) ((i4 (P:=w.params)).env true L) fun U=>?_;refine .mkr (P7:=P7) 5 0 (hc.le l1 ll) PX hN (fun b=>by have:=h2 b;exact aJ this) lw fun r Z2 PK N2 l2 ct p=>?_;obtain ⟨cl,rfl,pc⟩:=p;have hz:=ct.len;refine .one rfl (.al1 fun tq=>.mkr (P7:=PK) 5 0 (Rc.le (l1.trans l2) ll) (PX.le l2) ct.at' (fun b=>by have:=h2 b;have:=ct.up b;lia) (bo h3 hz) fun r Z2' Vz N2' Xx VA p=>?_);obtain ⟨Ti,rfl,pc2⟩:=p;have Rv:=ct.trans VA;have S8:=Rv.len;refine .one rfl (.al1 fun YZ=>.done [] ⟨by ac_rfl,fun bl=>?_⟩);refine .mkr (P7:=Vz) 5 0 (hb.le (l1.trans (l2.trans Xx)) ll) (PX.le (l2.trans Xx)) Rv.at' (fun b=>by have:=h2 b;have:=Rv.up b;lia) (bo h3 S8) fun r Z3 Qi N3 l3 Sw p=>?_;obtain ⟨bd,rfl,pb⟩:=p;refine .one rfl (.al1 fun S=>?_);exact .finM (c:=.dct Qi) 0 (.ret (.v 23)) [23,21,22,18,10,17,20,13,19] mF [] (ρ':=[.ref S,.ref bl,.ref bd,.ref tq,.str x t,.ref cl,.ref YZ,.str y u,.ref Ti]) fun Zs v l4 h U e=>⟨Qi,N3,rfl,Rv.trans Sw,S,af.det e rfl,bl,bd,tq,cl,YZ,Ti,h,Vy _ _ _ (Xx.trans (l3.trans l4)) pc,Xw _ _ _ (l3.trans l4) pc2,Uc _ _ _ l4 pb⟩
theorem pR {P:Params}:bU P kg f6 2:=.mk2
theorem zi {v:Addr}{f0 a0 c0 d0:Value}{s:Nat}{P8:KV}{P:a8->Addr->Prop}(hv:∃ dx,Z v=some (.ins gI dx)/\Z dx=some (.att [(bG,f0),(am,a0),(bY,c0),(bn,d0)]))(hc:gR w c s f6 (.ref v) P8 (eF P) Z)(hP:jL P):gR w (c+3) s aq (.ref v) P8 (eF P) Z:=by refine .in (n:=c) (N:=7) [.ref v] (.v 6) [(6,.obj gI [(bG,.k f0),(am,.k a0),(bY,.k c0),(bn,.k d0)])] i4 (fun U U U U U U=>⟨(by refine bM hv fun dx h1 h2=>?_;exact ⟨v,dx,_,rfl,h1,h2,⟨rfl,rfl⟩,⟨rfl,rfl⟩,⟨rfl,rfl⟩,⟨rfl,rfl⟩,OU⟩),OU⟩) fun mk fn fr gd av nd P7 M B O L Z1 l1 PX hN h2 h3=>?_;refine .al1 fun U=>.mkr (P7:=P7) 5 0 (hc.le l1 ll) PX hN h2 h3 fun r Z2 PK N2 l2 ct p=>.k (.k r) rfl ?_;obtain ⟨a,rfl,p⟩:=p;exact .finM (c:=.dct PK) 0 (.ret (.k (.ref a))) [] [] [] (ρ':=[]) fun Zs v l6 h U e=>⟨PK,N2,rfl,ct,a,e,hP _ _ _ l6 p⟩
inductive xJ (x:Str)(t:Tok)(k0:Int)(tk:Tok)(PV PB PO:a8->Addr->Prop)(Z:a8)(S:Addr):Prop
 | mk (e al o a ky nl b) (_:ac [.ref S,.ref e,.str x t,.ref al,.ref o,.ref a,.ref ky,.ref nl,.ref b,.int k0 tk] Z nA) (_:PV Z e) (_:PB Z b) (_:PO Z o):xJ x t k0 tk PV PB PO Z S
theorem D0 {v e al o a ky nl b:Addr}{x:Str}{t tk:Tok}{k0:Int}{s : Nat}{P8:KV}{PV PB PO:a8->Addr->Prop}(hv:ac [.ref v,.ref e,.str x t,.ref al,.ref o,.ref a,.ref ky,.ref nl,.ref b,.int k0 tk] Z ux)(he:gR w c s aq (.ref e) P8 (eF PV) Z)(hb:gR w c s1 aq (.ref b) P8 (eF PB) Z)(ho:gR w c s2 aq (.ref o) P8 (eF PO) Z)(Xy:jL PV)(Uc:jL PB)(hPO:jL PO):
  gR w (c+3) (s+s1+s2) f6 (.ref v) P8 (eF (xJ x t k0 tk PV PB PO)) Z:=by refine .in (n:=c) (N:=16) [.ref v,.ref e,.str x t,.ref al,.ref o,.ref a,.ref ky,.ref nl,.ref b,.int k0 tk] (.v 6) [(6,.obj gI [(bG,.v 7),(am,.v 8),(bY,.v 9),(bn,.v 10)]),(9,.lst [.v 11]),(11,.obj oK [(i6,.v 12),(bX,.v 13),(aB,.v 14)]),(12,.tup [.str bW,.str bt,.v 15]),(13,.lst [])] pR (fun U U U U U U=>hv.pt [6,7,8,9,10,11,12,13,14,15]) fun mk fn fr gd av nd P7 M B O L Z1 l1 PX hN h2 h3=>?_;refine .mkr (P7:=P7) 5 0 (he.le l1 ll) PX hN (fun b=>by have:=h2 b;exact aJ this) lw fun r Z2 PK N2 l2 ct p=>?_;obtain ⟨e',rfl,pe⟩:=p;have hz:=ct.len;refine .one rfl (.compA true (fi kg true) ((pR (P:=w.params)).env true L) fun U=>.al1 fun VB=>?_);refine .mkr (P7:=PK) 5 0 (hb.le (l1.trans l2) ll) (PX.le l2) ct.at' (fun b=>by have:=h2 b;have:=ct.up b;lia) (bo h3 hz) fun r Z3 Qi N3 l3 VA p=>?_;obtain ⟨b',rfl,pb⟩:=p;have Rv:=ct.trans VA;have S8:=Rv.len;refine .one rfl (.al1 fun a'=>.done [] ⟨by ac_rfl,fun Tj=>?_⟩);refine .opb (.cmp .Is) (fun U=>[.ref o,.none]) false (fun tk h Q q=>lp (q _ rfl)) ?_;refine .mkr (P7:=Qi) 5 0 (ho.le (l1.trans (l2.trans l3)) ll) (PX.le (l2.trans l3)) Rv.at' (fun b=>by have:=h2 b;have:=Rv.up b;lia) (bo h3 S8) fun r Z4 VC N4 l4 Xv p=>?_;obtain ⟨o',rfl,po⟩:=p;refine .one rfl (.al1 fun S=>?_);exact .finM (c:=.dct VC) 0 (.ret (.v 22)) [22,16,8,20,21,19,12,17,18,15] nA [] (ρ':=[.ref S,.ref e',.str x t,.ref Tj,.ref o',.ref a',.ref ky,.ref VB,.ref b',.int k0 tk]) fun Zs v l5 h U e=>⟨VC,N4,rfl,Rv.trans Xv,S,af.det e rfl,e',Tj,o',a',ky,VB,b',h,Xy _ _ _ (l3.trans (l4.trans l5)) pe,Uc _ _ _ (l4.trans l5) pb,hPO _ _ _ l5 po⟩
inductive xK (x:Str)(t:Tok)(f g S9:Str)(tf tg tn:Tok)(PV PB:a8->Addr->Prop)(Z:a8)(S:Addr):Prop
 | mk (e al a ky nl b) (_:ac [.ref S,.ref e,.str x t,.ref al,.ref a,.ref ky,.ref nl,.ref b,.str f tf,.str g tg,.str S9 tn] Z nC) (_:PV Z e) (_:PB Z b):xK x t f g S9 tf tg tn PV PB Z S
theorem D1 {v e al a ky nl b:Addr}{x f g S9:Str}{t tf tg tn:Tok}{s : Nat}{P8:KV}{PV PB:a8->Addr->Prop}(hv:ac [.ref v,.ref e,.str x t,.ref al,.ref a,.ref ky,.ref nl,.ref b,.str f tf,.str g tg,.str S9 tn] Z uy)(he:gR w c s aq (.ref e) P8 (eF PV) Z)(hb:gR w c s1 aq (.ref b) P8 (eF PB) Z)(Xy:jL PV)(Uc:jL PB):
  gR w (c+3) (s+s1) f6 (.ref v) P8 (eF (xK x t f g S9 tf tg tn PV PB)) Z:=by refine .in (n:=c) (N:=17) [.ref v,.ref e,.str x t,.ref al,.ref a,.ref ky,.ref nl,.ref b,.str f tf,.str g tg,.str S9 tn] (.v 6) [(6,.obj gI [(bG,.v 7),(am,.v 8),(bY,.v 9),(bn,.k .none)]),(9,.lst [.v 10]),(10,.obj oK [(i6,.v 11),(bX,.v 12),(aB,.v 13)]),(11,.tup [.str n9,.v 16]),(12,.lst [.v 14,.v 15])] pR (fun U U U U U U=>hv.pt [6,7,8,9,10,11,12,13,14,15,16]) fun mk fn fr gd av nd P7 M B O L Z1 l1 PX hN h2 h3=>?_;refine .mkr (P7:=P7) 5 0 (he.le l1 ll) PX hN (fun b=>by have:=h2 b;exact aJ this) lw fun r Z2 PK N2 l2 ct p=>?_;obtain ⟨e',rfl,pe⟩:=p;have hz:=ct.len;refine .one rfl (.compA true (fi kg true) ((pR (P:=w.params)).env true L) fun U=>.al1 fun VB=>?_);refine .mkr (P7:=PK) 5 0 (hb.le (l1.trans l2) ll) (PX.le l2) ct.at' (fun b=>by have:=h2 b;have:=ct.up b;lia) (bo h3 hz) fun r Z3 Qi N3 l3 VA p=>?_;obtain ⟨b',rfl,pb⟩:=p;have Rv:=ct.trans VA;refine .one rfl (.al1 fun a'=>.done [] ⟨by ac_rfl,fun Tj=>.al1 fun S=>?_⟩);exact .finM (c:=.dct Qi) 0 (.ret (.v 22)) [22,17,8,21,20,11,18,19,14,15,16] nC [] (ρ':=[.ref S,.ref e',.str x t,.ref Tj,.ref a',.ref ky,.ref VB,.ref b',.str f tf,.str g tg,.str S9 tn]) fun Zs v l5 h U e=>⟨Qi,N3,rfl,Rv,S,af.det e rfl,e',Tj,a',ky,VB,b',h,Xy _ _ _ (l3.trans l5) pe,Uc _ _ _ l5 pb⟩
theorem pS {P:Params}:bU P mT bC 2:=.mk2
def oW:List Addr:=[fB,gH,jB,gI,kY,dw]
theorem m9 {B:Heap}{O:aP}{h:Heap}{v C:Addr}{Q:VP}(S:St w B O Z led h)(hv:ig Z v C)(hC:C∈oW)(q:Q (.bool false) h):W PW w n (call (.builtin "isinstance") [.ref v,.ref eK]) Q h:=by obtain ⟨dx,fs,h1,h2⟩:=hv;simp only [oW,List.mem_cons,List.not_mem_nil,or_false] at hC;rcases hC with rfl | rfl | rfl | rfl | rfl | rfl<;>exact wQ false S (S.z h1) (S.z h2) q
theorem uG {B:Heap}{O:aP}{h:Heap}{op:Str}{t:Tok}{Q:VP}(S:St w B O Z led h)(Qc:op=fD\/op=ia\/op=ds)(q:Q (.bool false) h):W PW w n (compareOp .In (.str op t) (.ref 657)) Q h:=.mk fun A g d tk os hA=>by have hk:h.get? 657=some DX:=S.k 657 DX OT;refine in_tuple_strs (items:= #[.str tP 1091]) (ys:=[tP]) (vg _ hk rfl _ rfl) (.cons _ _ .nil) (aI ?_);rcases Qc with rfl | rfl | rfl<;>exact q
abbrev sr (op:Str):Prop:=op=fD\/op=ia\/op=ds
def zj:List (Nat×aE):=[(0,.obj di [(eB,.v 1),(aK,.v 2)]),(2,.lst [.v 3,.v 4]),(3,.tup [.str bW,.str bt,.v 5]),(4,.tup [.str bW,.str bt,.v 6])]
inductive xL (op:Str)(k0 k1:Int)(Z:a8)(S:Addr):Prop
 | mk (la a0 a1:Addr) (t u0 u1:Tok) (_:ac [.ref S,.str op t,.ref la,.ref a0,.ref a1,.int k0 u0,.int k1 u1] Z zj):xL op k0 k1 Z S
theorem Aq {v e l : Addr}{op:Str}{t:Tok}{k0:Int}{u0:Tok}{k1:Int}{u1:Tok}{P8:KV}(hv:ac [.ref v,.ref e,.ref e2,.ref l,.str op t] Z nt)(Qc:sr op)(h0:ac [.ref e,.int k0 u0] Z pB)(h1:ac [.ref e2,.int k1 u1] Z pB):gR w (c+3) (0) bC (.ref v) P8 (eF (xL op k0 k1)) Z:=by refine .in (n:=c) (N:=13) [.ref v,.ref e,.ref e2,.ref l,.str op t,.int k0 u0,.int k1 u1] (.v 6) [(6,.obj dw [(eB,.v 10),(br,.v 9)]),(9,.lst [.v 7,.v 8]),(7,.obj eK [(fS,.str bt),(bG,.v 11)]),(8,.obj eK [(fS,.str bt),(bG,.v 12)])] pS (fun U U U U U U=>let f0:=hv.put [6,7,8,9,10] (PJ:=[(6,.obj dw [(eB,.v 10),(br,.v 9)]),(9,.lst [.v 7,.v 8])]) (by first | (unfold mJ;kernel_rfl!) | exact rfl) OT;(mV f0.1 f0.2.1 (h0.put [7,11] (PJ:=[(7,.obj eK [(fS,.str bt),(bG,.v 11)])]) (by first | (unfold mJ;kernel_rfl!) | exact rfl) OT |>.1) (h1.put [8,12] (PJ:=[(8,.obj eK [(fS,.str bt),(bG,.v 12)])]) (by first | (unfold mJ;kernel_rfl!) | exact rfl) OT |>.1) OU)) fun mk fn fr gd av nd P7 M B O L Z1 l1 PX hN RR h3=>?_;refine .opB (.cmp .In) (fun U=>[.str op t,.ref 657]) false (fun tk T h Zs ms R l H Q q=>uG H.st Qc (q _ _ H.st rfl)) ?_;refine .al3 fun la U U=>.al1 fun a0=>.al1 fun a1=>.al1 fun sp=>?_;refine .al1 fun U=>?_;exact .finM (c:=.dct P7) 0 (.ret (.v 18)) [18,10,13,16,17,11,12] zj [] (ρ':=[.ref sp,.str op t,.ref la,.ref a0,.ref a1,.int k0 u0,.int k1 u1]) fun Zs v lz h U e=>⟨P7,M,rfl,⟨hN,fun U=>Pm _,fun U=>Pm _,Pm _⟩,sp,(af.det e OT:v=.ref sp),la,a0,a1,t,u0,u1,h⟩
def zk:List (Nat×aE):=[(0,.obj cL [(cj,.v 1),(am,.v 2),(bY,.v 3),(bn,.v 4)]),(3,.lst []),(4,.obj di [(eB,.v 5),(aK,.v 6)]),(6,.lst [.v 7,.v 8]),(7,.tup [.str bW,.str bt,.v 9]),(8,.tup [.str am,.v 2])]
inductive xM (op:Str)(k0:Int)(P1:a8->Addr->Prop)(Z:a8)(S:Addr):Prop
 | mk (QR sp la a0 a1 RB:Addr) (t Q9 u0:Tok) (j1:Nat) (_:ac [.ref S,.ref RB,.str (nm hZ j1) Q9,.ref QR,.ref sp,.str op t,.ref la,.ref a0,.ref a1,.int k0 u0] Z zk) (_:P1 Z RB) (_:j1<=100):xM op k0 P1 Z S
theorem Ar {v e l : Addr}{op:Str}{t:Tok}{k0:Int}{u0:Tok}{P1:a8->Addr->Prop}{P8:KV}(hv:ac [.ref v,.ref e,.ref e2,.ref l,.str op t] Z nt)(Qc:sr op)(h0:ac [.ref e,.int k0 u0] Z pB)(h1:ig Z e2 C1)(Xz:C1∈oW)(q1:gR w c s1 aq (.ref e2) P8 (eF P1) Z)(XA:jL P1)(h6:6<=c):gR w (c+3) (s1+1) bC (.ref v) P8 (eF (xM op k0 P1)) Z:=by
 refine .in (n:=c) (N:=12) [.ref v,.ref e,.ref e2,.ref l,.str op t,.int k0 u0] (.v 6) [(6,.obj dw [(eB,.v 10),(br,.v 9)]),(9,.lst [.v 7,.v 8]),(7,.obj eK [(fS,.str bt),(bG,.v 11)])] pS (fun U U U U U U=>let f0:=hv.put [6,7,8,9,10] (PJ:=[(6,.obj dw [(eB,.v 10),(br,.v 9)]),(9,.lst [.v 7,.v 8])]) (by first | (unfold mJ;kernel_rfl!) | exact rfl) OT;(fu f0.1 f0.2.1 (h0.put [7,11] (PJ:=[(7,.obj eK [(fS,.str bt),(bG,.v 11)])]) (by first | (unfold mJ;kernel_rfl!) | exact rfl) OT |>.1) OU)) fun mk fn fr gd av nd P7 M B O L Z1 l1 PX hN RR h3=>?_;refine .opB (.cmp .In) (fun U=>[.str op t,.ref 657]) false (fun tk T h Zs ms R l H Q q=>uG H.st Qc (q _ _ H.st rfl)) ?_;refine .al3 fun la U U=>.al1 fun a0=>.opB .call (fun U=>[.builtin "isinstance",.ref e2,.ref eK]) false (fun tk T h Zs ms R l H Q q=>m9 H.st (h1.le (l1.trans l)) Xz (q _ _ H.st rfl)) ?_;have RU:=RR hZ;refine .next (P7:=P7) (N:=M) 5 0 mk fn fr gd av nd hZ (fun tk=>tk 2) PX Fd OV hN (aJ h3) (aJ RU) fun Q9 Z1a XB l2 VD VE=>?_;have Ud:=jK VD VE;have VG:=Ud.len;refine .mkr (P7:=XB) 5 0 (q1.le (l1.trans l2) ll) (PX.le l2) VD (fun b=>by have:=RR b;have:=Ud.up b;lia) (bo h3 VE) fun r Z1b kb1 N1 l3 XC p=>?_;obtain ⟨RB,rfl,XD⟩:=p;have Sa:=Ud.trans XC;have XE:=Sa.up hZ;have VH:=Sa.len;refine .one rfl <| .al2 fun U a1=>.al1 fun sp=>?_
 refine .al3 fun U QR RH=>?_;have Sz:wj (s1+1) P7 M kb1 N1:=⟨Sa.at',Sa.le,fun b=>by have:=Sa.up b;exact aJ this,by have:=Sa.len;exact aJ VH⟩
 exact .finM (c:=.dct kb1) 0 (.ret (.v 23)) [23,17,16,22,20,10,12,15,19,11] zk [] (ρ':=[.ref RH,.ref RB,.str (nm hZ (M hZ+1)) Q9,.ref QR,.ref sp,.str op t,.ref la,.ref a0,.ref a1,.int k0 u0]) fun Zs v lz h U e=>⟨kb1,N1,rfl,Sz,RH,(af.det e OT:v=.ref RH),QR,sp,la,a0,a1,RB,t,Q9,u0,M hZ+1,h,XA _ _ _ lz XD,aJ RU⟩
def zl:List (Nat×aE):=[(0,.obj cL [(cj,.v 1),(am,.v 2),(bY,.v 3),(bn,.v 4)]),(3,.lst []),(4,.obj di [(eB,.v 5),(aK,.v 6)]),(6,.lst [.v 7,.v 8]),(7,.tup [.str am,.v 2]),(8,.tup [.str bW,.str bt,.v 9])]
inductive xN (op:Str)(P0:a8->Addr->Prop)(k1:Int)(Z:a8)(S:Addr):Prop
 | mk (QR sp la a0 a1 SA:Addr) (t QG u1:Tok) (j0:Nat) (_:ac [.ref S,.ref SA,.str (nm hZ j0) QG,.ref QR,.ref sp,.str op t,.ref la,.ref a0,.ref a1,.int k1 u1] Z zl) (_:P0 Z SA) (_:j0<=100):xN op P0 k1 Z S
theorem As {v e l : Addr}{op:Str}{t:Tok}{P0:a8->Addr->Prop}{k1:Int}{u1:Tok}{P8:KV}(hv:ac [.ref v,.ref e,.ref e2,.ref l,.str op t] Z nt)(Qc:sr op)(h0:ig Z e C0)(XF:C0∈oW)(q0:gR w c s0 aq (.ref e) P8 (eF P0) Z)(XG:jL P0)(h1:ac [.ref e2,.int k1 u1] Z pB)(h6:6<=c):gR w (c+3) (s0+1) bC (.ref v) P8 (eF (xN op P0 k1)) Z:=by
 refine .in (n:=c) (N:=12) [.ref v,.ref e,.ref e2,.ref l,.str op t,.int k1 u1] (.v 6) [(6,.obj dw [(eB,.v 10),(br,.v 9)]),(9,.lst [.v 7,.v 8]),(8,.obj eK [(fS,.str bt),(bG,.v 11)])] pS (fun U U U U U U=>let f0:=hv.put [6,7,8,9,10] (PJ:=[(6,.obj dw [(eB,.v 10),(br,.v 9)]),(9,.lst [.v 7,.v 8])]) (by first | (unfold mJ;kernel_rfl!) | exact rfl) OT;(fu f0.1 f0.2.1 (h1.put [8,11] (PJ:=[(8,.obj eK [(fS,.str bt),(bG,.v 11)])]) (by first | (unfold mJ;kernel_rfl!) | exact rfl) OT |>.1) OU)) fun mk fn fr gd av nd P7 M B O L Z1 l1 PX hN RR h3=>?_;refine .opB (.cmp .In) (fun U=>[.str op t,.ref 657]) false (fun tk T h Zs ms R l H Q q=>uG H.st Qc (q _ _ H.st rfl)) ?_;refine .al3 fun la U U=>.opB .call (fun U=>[.builtin "isinstance",.ref e,.ref eK]) false (fun tk T h Zs ms R l H Q q=>m9 H.st (h0.le (l1.trans l)) XF (q _ _ H.st rfl)) ?_;have RU:=RR hZ;refine .next (P7:=P7) (N:=M) 5 0 mk fn fr gd av nd hZ (fun tk=>tk 2) PX Fd OV hN (aJ h3) (aJ RU) fun QG Z0a XH l2 VJ VK=>?_;have Ue:=jK VJ VK;have hz0:=Ue.len;refine .mkr (P7:=XH) 5 0 (q0.le (l1.trans l2) ll) (PX.le l2) VJ (fun b=>by have:=RR b;have:=Ue.up b;lia) (bo h3 VK) fun r Z0b VL N0 l3 Wh p=>?_;obtain ⟨SA,rfl,XI⟩:=p;have SD:=Ue.trans Wh;have Ug:=SD.up hZ;have Wi:=SD.len;refine .one rfl <| .al2 fun U a0=>.al1 fun a1=>.al1 fun sp=>?_
 refine .al3 fun U QR RH=>?_;have Sz:wj (s0+1) P7 M VL N0:=⟨SD.at',SD.le,fun b=>by have:=SD.up b;exact aJ this,by have:=SD.len;exact aJ Wi⟩
 exact .finM (c:=.dct VL) 0 (.ret (.v 23)) [23,16,15,22,20,10,12,18,19,11] zl [] (ρ':=[.ref RH,.ref SA,.str (nm hZ (M hZ+1)) QG,.ref QR,.ref sp,.str op t,.ref la,.ref a0,.ref a1,.int k1 u1]) fun Zs v lz h U e=>⟨VL,N0,rfl,Sz,RH,(af.det e OT:v=.ref RH),QR,sp,la,a0,a1,SA,t,QG,u1,M hZ+1,h,XG _ _ _ lz XI,aJ RU⟩
def zm:List (Nat×aE):=[(0,.obj cL [(cj,.v 1),(am,.v 2),(bY,.v 3),(bn,.v 4)]),(3,.lst []),(4,.obj cL [(cj,.v 5),(am,.v 6),(bY,.v 7),(bn,.v 8)]),(7,.lst []),(8,.obj di [(eB,.v 9),(aK,.v 10)]),(10,.lst [.v 11,.v 12]),(11,.tup [.str am,.v 2]),(12,.tup [.str am,.v 6])]
inductive xO (op:Str)(P0 P1:a8->Addr->Prop)(Z:a8)(S:Addr):Prop
 | mk (RH QR al1 sp la a0 a1 SA RB:Addr) (t QG Q9:Tok) (j0 j1:Nat) (_:ac [.ref S,.ref SA,.str (nm hZ j0) QG,.ref al1,.ref RH,.ref RB,.str (nm hZ j1) Q9,.ref QR,.ref sp,.str op t,.ref la,.ref a0,.ref a1] Z zm) (_:P0 Z SA) (_:P1 Z RB) (_:j0<=100) (_:j1<=100) (_:j0 < j1):xO op P0 P1 Z S
theorem At {v e l : Addr}{op:Str}{t:Tok}{P0:a8->Addr->Prop}{P1:a8->Addr->Prop}{P8:KV}(hv:ac [.ref v,.ref e,.ref e2,.ref l,.str op t] Z nt)(Qc:sr op)(h0:ig Z e C0)(XF:C0∈oW)(q0:gR w c s0 aq (.ref e) P8 (eF P0) Z)(XG:jL P0)(h1:ig Z e2 C1)(Xz:C1∈oW)(q1:gR w c s1 aq (.ref e2) P8 (eF P1) Z)(XA:jL P1)(h6:6<=c):gR w (c+3) (s0+s1+2) bC (.ref v) P8 (eF (xO op P0 P1)) Z:=by
 refine .in (n:=c) (N:=11) [.ref v,.ref e,.ref e2,.ref l,.str op t] (.v 6) [(6,.obj dw [(eB,.v 10),(br,.v 9)]),(9,.lst [.v 7,.v 8])] pS (fun U U U U U U=>let f0:=hv.put [6,7,8,9,10] (PJ:=[(6,.obj dw [(eB,.v 10),(br,.v 9)]),(9,.lst [.v 7,.v 8])]) (by first | (unfold mJ;kernel_rfl!) | exact rfl) OT;(cF f0.1 f0.2.1 OU)) fun mk fn fr gd av nd P7 M B O L Z1 l1 PX hN RR h3=>?_;refine .opB (.cmp .In) (fun U=>[.str op t,.ref 657]) false (fun tk T h Zs ms R l H Q q=>uG H.st Qc (q _ _ H.st rfl)) ?_;refine .al3 fun la U U=>.opB .call (fun U=>[.builtin "isinstance",.ref e,.ref eK]) false (fun tk T h Zs ms R l H Q q=>m9 H.st (h0.le (l1.trans l)) XF (q _ _ H.st rfl)) ?_;have RU:=RR hZ;refine .next (P7:=P7) (N:=M) 5 0 mk fn fr gd av nd hZ (fun tk=>tk 2) PX Fd OV hN (aJ h3) (aJ RU) fun QG Z0a XH l2 VJ VK=>?_;have Ue:=jK VJ VK;have hz0:=Ue.len;refine .mkr (P7:=XH) 5 0 (q0.le (l1.trans l2) ll) (PX.le l2) VJ (fun b=>by have:=RR b;have:=Ue.up b;lia) (bo h3 VK) fun r Z0b VL N0 l3 Wh p=>?_;obtain ⟨SA,rfl,XI⟩:=p;have SD:=Ue.trans Wh;have Ug:=SD.up hZ;have Wi:=SD.len;refine .one rfl <| .al2 fun U a0=>.opB .call (fun U=>[.builtin "isinstance",.ref e2,.ref eK]) false (fun tk T h Zs ms R l H Q q=>m9 H.st (h1.le (l1.trans (l2.trans (l3.trans l)))) Xz (q _ _ H.st rfl)) ?_
 refine .next (P7:=VL) (N:=N0) 5 0 mk fn fr gd av nd hZ (fun tk=>tk 2) (PX.le (l2.trans l3)) Fd OV SD.at' (bo h3 Wi) (bo RU Ug) fun Q9 Z1a XB l4 VD VE=>?_;have Ud:=SD.trans (jK VD VE);have VG:=Ud.len;refine .mkr (P7:=XB) 5 0 (q1.le (l1.trans (l2.trans (l3.trans l4))) ll) (PX.le (l2.trans (l3.trans l4))) VD (fun b=>by have:=RR b;have:=Ud.up b;lia) (ja h3 Wi VE) fun r Z1b kb1 N1 l5 XC p=>?_;obtain ⟨RB,rfl,XD⟩:=p;have Sa:=Ud.trans XC;have XE:=Sa.up hZ;have VH:=Sa.len;refine .one rfl <| .al2 fun U a1=>.al1 fun sp=>?_
 refine .al3 fun U QR RH=>?_;refine .al2 fun al1 XJ=>?_;have h7:M hZ+1<=N0 hZ:=tG▸Wh.le hZ;have Sz:wj (s0+s1+2) P7 M kb1 N1:=⟨Sa.at',Sa.le,fun b=>by have:=Sa.up b;exact aJ this,by have:=Sa.len;exact aJ VH⟩
 exact .finM (c:=.dct kb1) 0 (.ret (.v 27)) [27,15,14,26,25,19,18,24,22,10,11,17,21] zm [] (ρ':=[.ref XJ,.ref SA,.str (nm hZ (M hZ+1)) QG,.ref al1,.ref RH,.ref RB,.str (nm hZ (N0 hZ+1)) Q9,.ref QR,.ref sp,.str op t,.ref la,.ref a0,.ref a1]) fun Zs v lz h U e=>⟨kb1,N1,rfl,Sz,XJ,(af.det e OT:v=.ref XJ),RH,QR,al1,sp,la,a0,a1,SA,RB,t,QG,Q9,M hZ+1,N0 hZ+1,h,XG _ _ _ (l4.trans (l5.trans lz)) XI,XA _ _ _ lz XD,aJ RU,bo RU Ug,aJ h7⟩
theorem Fg {v:Addr}{f0 a0:Value}{s:Nat}{P8:KV}{P:a8->Addr->Prop}(hv:∃ dx,Z v=some (.ins dw dx)/\Z dx=some (.att [(eB,f0),(br,a0)]))(hc:gR w c s bC (.ref v) P8 (eF P) Z)(hP:jL P):gR w (c+3) s aq (.ref v) P8 (eF P) Z:=by refine .in (n:=c) (N:=7) [.ref v] (.v 6) [(6,.obj dw [(eB,.k f0),(br,.k a0)])] i4 (fun U U U U U U=>⟨(by refine bM hv fun dx h1 h2=>?_;exact ⟨v,dx,_,rfl,h1,h2,⟨rfl,rfl⟩,⟨rfl,rfl⟩,OU⟩),OU⟩) fun mk fn fr gd av nd P7 M B O L Z1 l1 PX hN h2 h3=>?_;refine .al1 fun U=>.mkr (P7:=P7) 5 0 (hc.le l1 ll) PX hN h2 h3 fun r Z2 PK N2 l2 ct p=>.k (.k r) rfl ?_;obtain ⟨a,rfl,p⟩:=p;exact .finM (c:=.dct PK) 0 (.ret (.k (.ref a))) [] [] [] (ρ':=[]) fun Zs v l6 h U e=>⟨PK,N2,rfl,ct,a,e,hP _ _ _ l6 p⟩
noncomputable abbrev cx:Str:={cps:={toList:=[77,97,105,110,46,109,97,105,110]}}
noncomputable abbrev bj:Str:={cps:={toList:=[77,97,105,110,46,103]}}
theorem uH {b:Str}{k:Nat}(h:b.length=1):∃ c,(nm b k).cps.toList=c::46::(jJ k).cps.toList:=by
 obtain ⟨⟨l⟩⟩:=b
 match l,h with| [c],_=>exact ⟨c,by show ((#[c]++ #[46])++(jJ k).cps).toList=_;rw [Array.toList_append];rfl⟩
theorem rP {b b':Str}{k k':Nat}(h:b.length=1)(h':b'.length=1)(hk:k < 300)(Ta:k' < 300)(e:nm b k=nm b' k'):k=k':=by obtain ⟨c,h1⟩:=uH (k:=k) h;obtain ⟨c',h2⟩:=uH (k:=k') h';rw [e,h2] at h1;have:=(List.cons.inj (List.cons.inj h1).2).2;refine CN hk Ta ?_;have e2:∀ s:Str,s=⟨⟨s.cps.toList⟩⟩:=fun s=>rfl;rw [e2 (jJ k),e2 (jJ k'),this]
theorem tI {b:Str}{k:Nat}(h:b.length=1){s:Str}{d:Nat}(hs:(s.cps.toList)[1]? =some d)(hd:d≠46):nm b k≠s:=fun e=>by obtain ⟨c,h1⟩:=uH (k:=k) h;rw [e] at h1;rw [h1] at hs;exact hd (Pd hs).symm
end
inductive gO (lo K:Nat)(x:Str):Prop
 | mk (b k) (_:x=nm b k) (_:b.length=1) (_:lo < k) (_:k<=K):gO lo K x
theorem gO.Mg {lo K:Nat}{x:Str}(h:gO lo K x):x≠bj:=by obtain ⟨b,k,rfl,h1,_⟩:=h;exact tI h1 (d:=97) rfl OV
theorem gO.Mm {lo K:Nat}{x:Str}(h:gO lo K x):x≠cx:=by obtain ⟨b,k,rfl,h1,_⟩:=h;exact tI h1 (d:=97) rfl OV
theorem gO.gl {lo K:Nat}{x:Str}(h:gO lo K x):x≠aM:=by obtain ⟨b,k,rfl,h1,_⟩:=h;exact tI h1 (d:=108) rfl OV
theorem gO.le {lo K K':Nat}{x:Str}(h:gO lo K x)(l:K<=K'):gO lo K' x:=by obtain ⟨b,k,h0,h1,h2,h3⟩:=h;exact ⟨b,k,h0,h1,h2,Pg h3 l⟩
theorem gO.ne {lo K Za K':Nat}{x y:Str}(h:gO lo K x)(h':gO Za K' y)(l:K<=Za\/K'<=lo)(hK:K < 300)(XK:K' < 300):x≠y:=by obtain ⟨b,k,rfl,h1,h2,h3⟩:=h;obtain ⟨b',k',rfl,Xb,RR,UN⟩:=h';intro e;have:=rP h1 Xb (bo hK h3) (bo XK UN) e;lia
def Sc (K:Nat)(Γ:List (Str×cU)):Prop:=∀ p∈Γ,p.1=bj\/gO 100 K p.1
theorem Sc.le {K K':Nat}{Γ:List (Str×cU)}(h:Sc K Γ)(l:K<=K'):Sc K' Γ:=fun p hp=>(h p hp).imp id (·.le l)
theorem Sc.fresh {K lo K':Nat}{Γ:List (Str×cU)}{y:Str}(h:Sc K Γ)(hy:gO lo K' y)(l:K<=lo\/K'<=100)(hK:K < 300)(XK:K' < 300):∀ p∈Γ,p.1≠y:=fun p hp e=>by
 rcases h p hp with h | h
 ·exact hy.Mg (e.symm.trans h)
 ·exact h.ne hy l hK XK e
theorem Sc.cons {K K':Nat}{Γ:List (Str×cU)}{y:Str}{k:cU}(h:Sc K Γ)(l:K<=K')(hy:gO 100 K' y):Sc K' ((y,k)::Γ):=fun p hp=>by
 rcases OY hp with rfl | hp
 ·exact .inr hy
 ·exact h.le l p hp
theorem rQ {P7:KV}{x y:Str}{v:Value}:(valueAt (stored P7 y v) x).isSome=(decide (x=y) || (valueAt P7 x).isSome):=by
 rw [bZ]
 by_cases e:x=y
 ·rw [if_pos e,Pt e];rfl
 ·rw [if_neg e,Pr e];rfl
theorem Fh {P7:KV}{x:Str}:x∈P7.map (·.1)↔(valueAt P7 x).isSome=true:=by unfold valueAt;rw [Option.isSome_map,List.find?_isSome,List.mem_map];exact ⟨fun U1=>bM U1 fun p h1 h2=>bw p h1 (Pt h2),fun U8=>bM U8 fun p h1 h2=>bw p h1 (Pp h2)⟩
theorem Au {gk bk:KV}{x:Str}{xs:List Str}{acc:KV}:(valueAt (aY gk bk acc xs) x).isSome=true↔(valueAt acc x).isSome=true\/(x∈xs/\valueAt bk x=none/\valueAt gk x=none):=by
 induction xs generalizing acc with
 | nil=>simp [aY]
 | cons y xs ih=>
  rw [show aY gk bk acc (y::xs)=aY gk bk (rE gk bk acc y) xs from rfl,ih];unfold rE
  by_cases h:(valueAt bk y).isNone=true/\(valueAt gk y).isNone=true
  ·rw [if_pos h,rQ,Bool.or_eq_true,decide_eq_true_eq,List.mem_cons];rw [Option.isNone_iff_eq_none,Option.isNone_iff_eq_none] at h;constructor
   ·rintro ((rfl | h1) | h1)
    ·exact .inr ⟨.inl rfl,h⟩
    ·exact .inl h1
    ·exact .inr ⟨.inr h1.1,h1.2⟩
   ·rintro (h1 | ⟨rfl | h1,h2⟩)
    ·exact .inl (.inr h1)
    ·exact .inl (.inl rfl)
    ·exact .inr ⟨h1,h2⟩
  ·rw [if_neg h,List.mem_cons];rw [Option.isNone_iff_eq_none,Option.isNone_iff_eq_none] at h;constructor
   ·rintro (h1 | h1)
    ·exact .inl h1
    ·exact .inr ⟨.inr h1.1,h1.2⟩
   ·rintro (h1 | ⟨rfl | h1,h2⟩)
    ·exact .inl h1
    ·exact absurd h2 h
    ·exact .inr ⟨h1,h2⟩
theorem wl {x:Str}{ps:List (Str×Tok)}:valueAt (ch [] ps) x=none↔x∉ps.map (·.1):=by rw [<- Option.isNone_iff_eq_none,ox];simp [valueAt]
theorem lG {gk:KV}{ps fs:List (Str×Tok)}{fl:List Str}(e:fs.map (·.1)=(aY gk (ch [] ps) [] fl).map (·.1)){x:Str}:x∈fs.map (·.1)↔x∈fl/\x∉ps.map (·.1)/\valueAt gk x=none:=by rw [e,Fh,Au,wl];simp [valueAt]
theorem uI {PA:KV}{x:Str}{fs:List (Str×Tok)}{base:KV}:valueAt (eP base PA fs) x=if x∈fs.map (·.1) then some ((valueAt PA x).getD .none) else valueAt base x:=by
 induction fs generalizing base with
 | nil=>simp [eP]
 | cons p fs ih=>
  rw [show eP base PA (p::fs)=eP (stored base p.1 ((valueAt PA p.1).getD .none)) PA fs from rfl,ih,List.map_cons,bZ]
  by_cases h:x∈fs.map (·.1)
  ·rw [if_pos h,if_pos (List.mem_cons_of_mem _ h)]
  ·rw [if_neg h]
   by_cases e:x=p.1
   ·subst e;rw [if_pos rfl,if_pos (List.mem_cons_self ..)]
   ·rw [if_neg e,if_neg];intro h2;rcases OY h2 with h2 | h2
    ·exact e h2
    ·exact h h2
def ii (gk:KV):Prop:=gk.length<=10/\∀ x,valueAt gk x=none↔x≠cx/\x≠bj
structure ik where
 tp:Addr
 x:Str
 t:Tok
 m:Addr
 f:Addr
 p:Addr
 b:Addr
 u:Bool
 fs:List (Str×Tok)
 i:Nat
 ms:List Str
 ks:LV
structure ik.ok (w:World)(Z:a8)(r:ik):Prop where
 z:Z r.tp=some (.tup [.str r.x r.t,.ref r.m])
 l:eQ Z r.m r.f r.p r.b r.u
 f:Z r.f=some (.lst (r.fs.map bN))
 n:r.fs.length<=800
 q:dG w r.b r.i r.ms r.ks Z
 h1:r.ms.length<=r.i
 h2:r.ks.length<=r.i
def mH (Z:a8)(rs:List ik)(S v:Addr):Prop:=mj (rs.map fun r=>.ref r.tp) S Z (.ref v)
noncomputable def eA (P7:KV):List ik->LV->KV
 | r::rs,a::as=>eA (stored P7 r.x a) rs as
 | _,_=>P7
section
variable {w:World}{n m c:Nat}{Z:a8}{S v:Addr}{r0 r1 r2:ik}{rs:List ik}
variable {α : Type} {P7 : KV} {ib : Nat}
theorem D2 (h:mH Z [r0] S v)(h0:r0.ok w Z):∃ l,ac [.ref v,.ref l,.ref S,.ref r0.tp,.str r0.x r0.t,.ref r0.m] Z mE:=by
 rcases h with ⟨h,_⟩ | ⟨_,a,l,e,f,z⟩
 ·cases h
 ·cases e;exact mW l (f.1.ext ⟨_,rfl⟩ (.refl _)) ⟨l,_,rfl,z,rfl,OU⟩ ⟨r0.tp,_,rfl,h0.z,rfl,rfl,OU⟩ OU
theorem D4 (h:mH Z [r0,r1] S v)(h0:r0.ok w Z)(h1:r1.ok w Z):∃ l,ac [.ref v,.ref l,.ref S,.ref r0.tp,.str r0.x r0.t,.ref r0.m,.ref r1.tp,.str r1.x r1.t,.ref r1.m] Z mF:=by
 rcases h with ⟨h,_⟩ | ⟨_,a,l,e,f,z⟩
 ·cases h
 ·cases e;exact mW l (f.1.ext ⟨_,rfl⟩ (.refl _)) ⟨l,_,rfl,z,rfl,rfl,OU⟩ ⟨r0.tp,_,rfl,h0.z,rfl,rfl,OU⟩ ⟨⟨r1.tp,_,rfl,h1.z,rfl,rfl,OU⟩,OU⟩
theorem D5 (h:mH Z [r0,r1,r2] S v)(h0:r0.ok w Z)(h1:r1.ok w Z)(h2:r2.ok w Z):∃ l,ac [.ref v,.ref l,.ref S,.ref r0.tp,.str r0.x r0.t,.ref r0.m,.ref r1.tp,.str r1.x r1.t,.ref r1.m,.ref r2.tp,.str r2.x r2.t,.ref r2.m] Z uA:=by
 rcases h with ⟨h,_⟩ | ⟨_,a,l,e,f,z⟩
 ·cases h
 ·cases e;exact mW l (f.1.ext ⟨_,rfl⟩ (.refl _)) ⟨l,_,rfl,z,rfl,rfl,rfl,OU⟩ ⟨r0.tp,_,rfl,h0.z,rfl,rfl,OU⟩ (cF ⟨r1.tp,_,rfl,h1.z,rfl,rfl,OU⟩ ⟨r2.tp,_,rfl,h2.z,rfl,rfl,OU⟩ OU)
theorem MO{a b c d:α}{l:List α}{P:Prop}(h:(a::b::c::d::l).length<=3):P:=by simp only [List.length_cons] at h;lia
theorem fZ{a:α}{P:α->Prop}(h:P a):∀ x∈[a],P x:=fun x hx=>by rcases List.mem_singleton.mp hx with rfl;exact h
theorem kO{a:α}{l:List α}{P:α->Prop}(h:P a)(h2:∀ x∈l,P x):∀ x∈a::l,P x:=fun x hx=>by
 rcases OY hx with rfl | hx
 ·exact h
 ·exact h2 x hx
theorem nF{P:α->Prop}:∀ x∈([]:List α),P x:=fun U h=>nomatch h
def xP (P7:KV)(rs:List ik):Prop:=∀ as:LV,as.length=rs.length->∀ r∈rs,∀ y∈r.fs,(valueAt (eA P7 rs as) y.1).isSome=true
theorem xP.at(h:xP P7 rs)(as:LV)(ha:as.length=rs.length){i:Nat}{r:ik}(hi:rs[i]? =some r):∀ y∈r.fs,(valueAt (eA P7 rs as) y.1).isSome=true:=h as ha r (Pn hi)
@[elab_as_elim] theorem Uh {M:List ik->Prop} {rs:List ik} (n:M []) (a:∀ r0,M [r0]) (b:∀ r0 r1,M [r0,r1]) (c:∀ r0 r1 r2,M [r0,r1,r2]) (h:rs.length<=3):M rs:=by
 cases rs with
 | nil=>exact n
 | cons r0 rs=>cases rs with
  | nil=>exact a r0
  | cons r1 rs=>cases rs with
   | nil=>exact b r0 r1
   | cons r2 rs=>cases rs with
    | nil=>exact c r0 r1 r2
    | cons _ _=>exact MO h
theorem HP {P:Prop}(h:mH Z [] S v)(k:v=S->P):P:=h.elim (fun h=>k (Value.ref.inj h.2)) fun h=>absurd rfl h.1
theorem xQ {d gd:Addr}{P8 : KV}{P:a8->Value->Prop}(hd:Z d=some (.dct P7))(hg:valueAt P7 aM=some (.ref gd))(Sj:Z gd=some (.dct P8))(QX:P8.length<=10)(hz:P7.length<=980)(hP:∀ Z Z' v,Z.le Z'->P Z v->P Z' v):∀ {rs:List ik},rs.length<=3->mH Z rs S v->(∀ r∈rs,r.ok w Z)->xP P7 rs->
  (∀ Z1 d2 (as:List Addr),as.length=rs.length->Z.le Z1->Z1 d2=some (.dct (eA P7 rs (as.map .ref)))->(∀ p∈rs.zip as,pC Z1 P8 (eA P7 rs (as.map .ref)) gd p.1.m p.1.fs p.2)->RT w c aC [.ref S,.ref d2] P Z1)->RT w (c+4) aC [.ref v,.ref d] P Z:=fun {rs} h3=>Uh (fun hl U U hb=>HP hl fun e=>by subst e;exact (hb Z d [] rfl (.refl _) hd nF).le (.refl _) (Pq _ _))
  (fun r0 hl hr hi hb=>by have k0:=hr r0 (.head _);obtain ⟨l,f⟩:=D2 hl k0;exact xq f k0.l k0.f k0.n (fun a=>hi.at [a] rfl (i:=0) rfl) hd hg Sj QX hz (fun Z1 d2 a l z q=>hb Z1 d2 [a] rfl l z (fZ q)) hP)
  (fun r0 r1 hl hr hi hb=>by have k0:=hr r0 (.head _);have k1:=hr r1 (.tail _ (.head _));obtain ⟨l,f⟩:=D4 hl k0 k1;exact xr f k0.l k0.f k0.n (fun a b=>hi.at [a,b] rfl (i:=0) rfl) k1.l k1.f k1.n (fun a b=>hi.at [a,b] rfl (i:=1) rfl) hd hg Sj QX hz (fun Z1 d2 a b l z q q'=>hb Z1 d2 [a,b] rfl l z (kO q (fZ q'))) hP)
  (fun r0 r1 r2 hl hr hi hb=>by have k0:=hr r0 (.head _);have k1:=hr r1 (.tail _ (.head _));have k2:=hr r2 (.tail _ (.tail _ (.head _)));obtain ⟨l,f⟩:=D5 hl k0 k1 k2;exact xt f k0.l k0.f k0.n (fun a b c=>hi.at [a,b,c] rfl (i:=0) rfl) k1.l k1.f k1.n (fun a b c=>hi.at [a,b,c] rfl (i:=1) rfl) k2.l k2.f k2.n (fun a b c=>hi.at [a,b,c] rfl (i:=2) rfl) hd hg Sj QX hz (fun Z1 d2 a b c l z q q' q2=>hb Z1 d2 [a,b,c] rfl l z (kO q (kO q' (fZ q2)))) hP) h3
noncomputable def gU (rs:List ik):List Str:=rs.flatMap fun r=>r.fs.map (·.1)
noncomputable def mv (rs:List ik):Nat:=(rs.map fun r=>r.fs.length+6).sum
theorem Av {fb:List Str}(hb:bO w ah (.ref S) ib fb Z):∀ {rs:List ik},rs.length<=3->mH Z rs S v->(∀ r∈rs,r.ok w Z)->bO w ah (.ref v) (mv rs+ib+12) (wo (rs.map (·.x)) (gU rs++fb)) Z:=fun {rs} h3=>Uh (fun hl U=>HP hl fun e=>by
  subst e;rw [show wo (([]:List ik).map (·.x)) (gU []++fb)=fb from List.filter_eq_self.mpr fun U U=>rfl];exact hb.le (.refl _) (by unfold mv;exact cZ))
  (fun r0 hl hr=>by
   have k0:=hr r0 (.head _);obtain ⟨l,f⟩:=D2 hl k0;have:=xy f (jI k0.l k0.f ll) (by rw [List.length_map];exact cZ) hb
   simpa only [mv,gU,List.map_cons,List.map_nil,List.sum_cons,List.sum_nil,List.flatMap_cons,List.flatMap_nil,List.append_nil,List.append_assoc,Nat.add_zero,Nat.add_assoc] using this)
  (fun r0 r1 hl hr=>by
   have k0:=hr r0 (.head _);have k1:=hr r1 (.tail _ (.head _));obtain ⟨l,f⟩:=D4 hl k0 k1;have:=xz f (jI k0.l k0.f ll) (by rw [List.length_map];exact cZ) (jI k1.l k1.f ll) (by rw [List.length_map];exact cZ) hb
   simpa only [mv,gU,List.map_cons,List.map_nil,List.sum_cons,List.sum_nil,List.flatMap_cons,List.flatMap_nil,List.append_nil,List.append_assoc,Nat.add_zero,Nat.add_assoc] using this)
  (fun r0 r1 r2 hl hr=>by
   have k0:=hr r0 (.head _);have k1:=hr r1 (.tail _ (.head _));have k2:=hr r2 (.tail _ (.tail _ (.head _)));obtain ⟨l,f⟩:=D5 hl k0 k1 k2;have:=xA f (jI k0.l k0.f ll) (by rw [List.length_map];exact cZ) (jI k1.l k1.f ll) (by rw [List.length_map];exact cZ) (jI k2.l k2.f ll) (by rw [List.length_map];exact cZ) hb
   simpa only [mv,gU,List.map_cons,List.map_nil,List.sum_cons,List.sum_nil,List.flatMap_cons,List.flatMap_nil,List.append_nil,List.append_assoc,Nat.add_zero,Nat.add_assoc] using this) h3
noncomputable def tJ (rs:List ik):List Str:=rs.flatMap (·.ms)
noncomputable def tK (rs:List ik):LV:=rs.flatMap fun r=>.ref r.m::r.ks
noncomputable def kJ (rs:List ik):Nat:=(rs.map (·.i)).sum
theorem D6 {ms:List Str}{ks:LV}(hb:dG w S ib ms ks Z)(h1:ms.length<=ib)(h2:ks.length<=ib):∀ {rs:List ik},rs.length<=3->mH Z rs S v->(∀ r∈rs,r.ok w Z)->dG w v (kJ rs+ib+20) (tJ rs++ms) (tK rs++ks) Z:=fun {rs} h3=>Uh (fun hl U=>HP hl fun e=>by subst e;exact hb.le (.refl _) (by unfold kJ;exact cZ))
  (fun r0 hl hr=>by
   have k0:=hr r0 (.head _);obtain ⟨l,f⟩:=D2 hl k0;have:=Ak f k0.l k0.q hb k0.h1 k0.h2 h1 h2
   simpa only [kJ,tJ,tK,List.map_cons,List.map_nil,List.sum_cons,List.sum_nil,List.flatMap_cons,List.flatMap_nil,List.append_nil,List.nil_append,List.cons_append,List.append_assoc,Nat.add_zero,Nat.add_assoc] using this)
  (fun r0 r1 hl hr=>by
   have k0:=hr r0 (.head _);have k1:=hr r1 (.tail _ (.head _));obtain ⟨l,f⟩:=D4 hl k0 k1;have:=Al f k0.l k1.l k0.q k1.q hb k0.h1 k0.h2 k1.h1 k1.h2 h1 h2
   simpa only [kJ,tJ,tK,List.map_cons,List.map_nil,List.sum_cons,List.sum_nil,List.flatMap_cons,List.flatMap_nil,List.append_nil,List.nil_append,List.cons_append,List.append_assoc,Nat.add_zero,Nat.add_assoc] using this)
  (fun r0 r1 r2 hl hr=>by
   have k0:=hr r0 (.head _);have k1:=hr r1 (.tail _ (.head _));have k2:=hr r2 (.tail _ (.tail _ (.head _)));obtain ⟨l,f⟩:=D5 hl k0 k1 k2;have:=Am f k0.l k1.l k2.l k0.q k1.q k2.q hb k0.h1 k0.h2 k1.h1 k1.h2 k2.h1 k2.h2 h1 h2
   simpa only [kJ,tJ,tK,List.map_cons,List.map_nil,List.sum_cons,List.sum_nil,List.flatMap_cons,List.flatMap_nil,List.append_nil,List.nil_append,List.cons_append,List.append_assoc,Nat.add_zero,Nat.add_assoc] using this) h3
end
structure lH (gd:Addr)(gr P7:KV)(Z:a8):Prop where
 at':valueAt P7 aM=some (.ref gd)
 z:Z gd=some (.dct gr)
 len:gr.length<=10
 g:valueAt P7 bj=valueAt (merged [] gr) bj
def bc (w:World)(s:kN)(Γ:List (Str×cU))(fl:List Str)(c:Nat)(ρ:Ev)(Z:a8)(P7:KV):Prop:=∀ p∈Γ,p.1∈fl\/p.1=bj->∃ v,valueAt P7 p.1=some v/\jN w s c ρ Z p.1 v p.2
abbrev PV:=Nat->Ev->a8->Value->Prop
abbrev IV (e:Ev->Int):PV:=fun U ρ=>iH (e ρ)
def jx (w:World)(Γ:List (Str×cU))(P:PV)(m:Nat)(fl:List Str)(Z:a8)(S:Addr):Prop:=∀ c ρ Z' P7 d gd gr,Z.le Z'->Z' d=some (.dct P7)->lH gd gr P7 Z'->bc w .stg Γ fl c ρ Z' P7->3<=c->c+m<=600->P7.length+m<=900->RT w (c+m) aC [.ref S,.ref d] (P c ρ) Z'
def lI (w:World)(i:Nat)(Z:a8)(v:Value):Prop:=∀ Z' kd kk,Z.le Z'->Z' kd=some (.dct kk)->ii kk->mG w i kd Z' v
inductive MP (w:World)(i:Nat)(fl:List Str)(Z:a8)(S:Addr):Prop
 | mk (ms:List Str) (ks:LV) (_:dG w S i ms ks Z) (_:ms.length<=i) (_:ks.length<=i) (_:∀ x∈fl,x∈ms) (_:∀ v∈ks,lI w i Z v):MP w i fl Z S
structure SB (w:World)(N:List Str)(f i:Nat)(fl:List Str)(Z:a8)(S:Addr):Prop where
 free:bO w ah (.ref S) f fl Z
 fln:fl.length<=f
 sub:∀ x∈fl,x∈N
 ins:MP w i fl Z S
structure SG (w:World)(Γ:List (Str×cU))(P:PV)(m f i:Nat)(fl:List Str)(Z:a8)(S:Addr):Prop where
 worth:jx w Γ P m fl Z S
 sb:SB w (Γ.map (·.1)) f i fl Z S
noncomputable def im (w:World)(Γ:List (Str×cU))(P:PV)(m f i:Nat)(Z:a8)(S:Addr):Prop:=∃ fl,SG w Γ P m f i fl Z S
section
variable {w:World}{s:kN}{n m f i c c':Nat}{Z Z':a8}{Γ Γ':List (Str×cU)}{fl QF:List Str}{ρ ρ':Ev}{P7 gr gk:KV}{gd S:Addr}{e:Ev->Int}{P:PV}
variable {y p : Str} {k : cU} {l cp pl : Addr} {kv : KV} {t u : Tok} {ps : List (Str×Tok)} {as : LV} {flb : List Str}
theorem bc.le (h:bc w s Γ fl c ρ Z P7)(l:Z.le Z')(hc:c<=c'):bc w s Γ fl c' ρ Z' P7:=fun p hp q=>bM (h p hp q) fun v h1 h2=>(bw v h1 (h2.le l hc))
theorem bc.sub (h:bc w s Γ fl c ρ Z P7)(hs:∀ x∈QF,x∈fl):bc w s Γ QF c ρ Z P7:=fun p hp q=>h p hp (q.imp (hs _) id)
noncomputable def SameBut (y:Str)(ρ ρ':Ev):Prop:=∀ z,z≠y->ρ.i z=ρ'.i z/\ρ.f z=ρ'.f z
theorem d7{k:Int}:SameBut y ρ (ρ.setI y k):=fun U h=>⟨Ev.setI_ne h,rfl⟩
theorem D7{g:Int->Int->Int}:SameBut y ρ (ρ.setF y g):=fun U h=>⟨rfl,Ev.setF_ne h⟩
theorem bc.put{v:Value}(h:bc w s Γ (wo [y] fl) c ρ Z P7)(hy:∀ p∈Γ,p.1≠y)(sb:SameBut y ρ ρ')(he:jN w s c ρ' Z y v k):bc w s ((y,k)::Γ) fl c ρ' Z (stored P7 y v):=fun p hp q=>by
 rcases OY hp with rfl | hp
 ·exact bw v bD he
 ·have hn:=hy p hp;refine bM (h p hp (q.imp (fun q=>List.mem_filter.mpr ⟨q,by simpa using hn⟩) id)) fun u h1 h2=>?_;exact bw u ((bH hn).trans h1) (h2.ev (sb _ hn).1 (sb _ hn).2)
theorem kn.put{v:Value}(h:kn w s Γ c ρ Z P7)(hy:∀ p∈Γ,p.1≠y)(sb:SameBut y ρ ρ')(he:jN w s c ρ' Z y v k):kn w s ((y,k)::Γ) c ρ' Z (stored P7 y v):=fun p hp=>by
 rcases OY hp with rfl | hp
 ·exact bw v bD he
 ·have hn:=hy p hp;refine bM (h p hp) fun u h1 h2=>?_;exact bw u ((bH hn).trans h1) (h2.ev (sb _ hn).1 (sb _ hn).2)
theorem bc.store{v:Value}(h:bc w s Γ fl c ρ Z P7)(hy:∀ p∈Γ,p.1≠y):bc w s Γ fl c ρ Z (stored P7 y v):=fun p hp q=>bM (h p hp q) fun u h1 h2=>(bw u ((bH (hy p hp)).trans h1) h2)
theorem lH.store{v:Value}(h:lH gd gr P7 Z)(h1:y≠aM)(h2:y≠bj):lH gd gr (stored P7 y v) Z:=⟨(bH (Ne.symm h1)).trans h.at',h.z,h.len,(bH (Ne.symm h2)).trans h.g⟩
theorem lH.le (h:lH gd gr P7 Z)(l:Z.le Z'):lH gd gr P7 Z':=⟨h.at',l _ _ h.z,h.len,h.g⟩
theorem jx.le (h:jx w Γ P m fl Z S)(l:Z.le Z'):jx w Γ P m fl Z' S:=fun c ρ Z2 P7 d gd gr l2=>h c ρ Z2 P7 d gd gr (l.trans l2)
theorem mG.le {kd:Addr}{v:Value}{n':Nat}(h:mG w n kd Z v)(hn:n<=n'):mG w n' kd Z v:=let ⟨a,e,r⟩:=h;⟨a,e,r.le (.refl _) hn⟩
theorem lI.le {i':Nat}{v:Value}(h:lI w i Z v)(l:Z.le Z')(hi:i<=i'):lI w i' Z' v:=fun Z2 kd kk l2 h1 h2=>(h Z2 kd kk (l.trans l2) h1 h2).le hi
theorem SB.le {N:List Str}{f' i':Nat}(h:SB w N f i fl Z S)(l:Z.le Z')(hf:f<=f')(hi:i<=i'):SB w N f' i' fl Z' S:=
 let ⟨ms,ks,a,b,c,d,e⟩:=h.ins
 ⟨h.free.le l hf,Pg h.fln hf,h.sub,ms,ks,a.le l hi,Pg b hi,Pg c hi,d,fun v hv=>(e v hv).le l hi⟩
theorem SG.le (h:SG w Γ P m f i fl Z S)(l:Z.le Z'):SG w Γ P m f i fl Z' S:=⟨h.worth.le l,h.sb.le l ll ll⟩
theorem SG.up {m' f' i':Nat}(h:SG w Γ P m f i fl Z S)(hm:m<=m')(hf:f<=f')(hi:i<=i'):SG w Γ P m' f' i' fl Z S:=⟨fun c ρ Z2 P7 d gd gr l2 h1 h2 h3 h4 h5 h6=>(h.worth c ρ Z2 P7 d gd gr l2 h1 h2 h3 h4 (bo hm h5) lw).le (.refl _) lw,h.sb.le (.refl _) hf hi⟩
theorem im.mono:jL (im w Γ P m f i):=fun U U U l U8=>oE U8 fun fl h=>⟨fl,h.le l⟩
theorem SG.monoL:∀ fl Z Z' a,Z.le Z'->SG w Γ P m f i fl Z a->SG w Γ P m f i fl Z' a:=fun U U U U l h=>h.le l
noncomputable def D8 (ps:List (Str×Tok)):List (Str×cU):=ps.map fun p=>(p.1,.int)
noncomputable def rR (ρ:Ev):List (Str×Tok)->Int->Int->Ev
 | [p],a,_=>ρ.setI p.1 a
 | [p,q],a,b=>(ρ.setI p.1 a).setI q.1 b
 | _,_,_=>ρ
def jy (w:World)(gk:KV)(ps:List (Str×Tok))(Γ:List (Str×cU))(e:Ev->Int)(m f i:Nat)(Z:a8)(cl:Addr):Prop:=oC gk ps (SG w Γ (IV e) m f i) Z (.ref cl)
theorem zn {cl : Addr}{fo : Addr}(hc:eQ Z cl fo pl S true)(hp:Z pl=some (.lst []))(hb:jx w Γ (IV e) m fl Z S)(hl:Z l=some (.lst [.ref cl,.ref cp]))(hk:Z cp=some (.dct kv))(he:lH gd gr kv Z)(hr:bc w .stg Γ fl c ρ Z kv)(h3:3<=c)(h6:c+m<=600)(h9:kv.length+m<=900):TH w .stg (c+m+3) (e ρ) Z (.ref l):=by obtain ⟨dx,h1,h2⟩:=hc;refine .inr (iG l rfl ⟨_,hl⟩ (uz hl (m:=cl) (f:=fo) (p:=pl) (b:=S) (cF ⟨cl,dx,_,rfl,h1,h2,⟨rfl,rfl⟩,⟨rfl,rfl⟩,⟨rfl,rfl⟩,⟨rfl,rfl⟩,OU⟩ ⟨pl,_,rfl,hp,OU⟩ OU) (hb c ρ Z kv cp gd gr (.refl _) hk he hr h3 h6 h9) fun U U U U p=>p))
theorem zo {cl : Addr}{fo : Addr}{x:Str}(hc:eQ Z cl fo pl S false)(hp:Z pl=some (.lst [.str x t]))(hb:jx w ((x,.int)::Γ) (IV e) m fl Z S)(hx:∀ p∈Γ,p.1≠x)(Vn:x≠aM)(SU:x≠bj)(hl:Z l=some (.lst [.ref cl,.ref cp]))(hk:Z cp=some (.dct kv))(he:lH gd gr kv Z)(hr:bc w .stg Γ (wo [x] fl) c ρ Z kv)(h3:3<=c)(h9:kv.length+m<=890)(h6:m<=600):uP w c (ir w .stg 1 c (m+1) fun a b=>e (rR ρ [(x,t)] a b)) Z (.ref l) .stg:=by obtain ⟨dx,h1,h2⟩:=hc;refine iG l rfl ⟨_,hl⟩ (((w8 hl (m:=cl) (f:=fo) (p:=pl) (b:=S) (x:=x) (t:=t) (cF ⟨cl,dx,_,rfl,h1,h2,⟨rfl,rfl⟩,⟨rfl,rfl⟩,⟨rfl,rfl⟩,⟨rfl,rfl⟩,OU⟩ ⟨pl,_,rfl,hp,rfl,OU⟩ OU)).le (.refl _) h3).imp fun Z2 r l2 ht=>?_);unfold ir;rw [if_pos rfl];intro c1 Z3 al a k Rh UP l3 Qf ha;refine (Hv .stg (n:=c1+m - 3) (by obtain ⟨tp,QW,t2,e2,f2⟩:=ht;exact ⟨tp,QW,t2,e2,f2.ext (.refl _) l3⟩) ((l2.trans l3) _ _ hk) (aJ h9) Qf ha.ok (fun Z4 d4 l4 RA=>?_) fun U U U U p=>p).le (.refl _) (by lia);have hz:=@aG kv x a;have:=hb c1 (ρ.setI x k) Z4 (stored kv x a) d4 gd gr (l2.trans (l3.trans l4)) RA ((he.le (l2.trans (l3.trans l4))).store Vn SU) ((hr.le (l2.trans (l3.trans l4)) Rh).put hx d7 (by unfold jN;rw [Ev.setI_i];exact ha.le l4 ll)) (bo h3 Rh) lw (bo h9 hz);exact this.le (.refl _) (by lia)
theorem zp {cl : Addr}{fo : Addr}{x : Str}(hc:eQ Z cl fo pl S false)(hp:Z pl=some (.lst [.str x t,.str y u]))(hb:jx w ((y,.int)::(x,.int)::Γ) (IV e) m fl Z S)(hx:∀ p∈Γ,p.1≠x)(Vn:x≠aM)(SU:x≠bj)(hy:∀ p∈Γ,p.1≠y)(VH:y≠aM)(hy2:y≠bj)(Ui:x≠y)(hl:Z l=some (.lst [.ref cl,.ref cp]))(hk:Z cp=some (.dct kv))(he:lH gd gr kv Z)(hr:bc w .stg Γ (wo [x,y] fl) c ρ Z kv)(h3:3<=c)(h9:kv.length+m<=890)(h6:m<=600):uP w c (ir w .stg 2 c (m+1) fun a b=>e (rR ρ [(x,t),(y,u)] a b)) Z (.ref l) .stg:=by
 obtain ⟨dx,h1,h2⟩:=hc;refine iG l rfl ⟨_,hl⟩ (((wa hl (m:=cl) (f:=fo) (p:=pl) (b:=S) (x:=x) (t:=t) (y:=y) (u:=u) (cF ⟨cl,dx,_,rfl,h1,h2,⟨rfl,rfl⟩,⟨rfl,rfl⟩,⟨rfl,rfl⟩,⟨rfl,rfl⟩,OU⟩ ⟨pl,_,rfl,hp,rfl,rfl,OU⟩ OU)).le (.refl _) h3).imp fun Z2 r l2 ht=>?_);unfold ir;rw [if_neg OV];refine ⟨fun h=>(by cases h),fun c1 Z3 al a b k k2 Rh UP l3 Qf ha Rj=>?_⟩;refine (MG .stg (n:=c1+m - 3) (by obtain ⟨tp,QW,t2,u2,e2,f2⟩:=ht;exact ⟨tp,QW,t2,u2,e2,f2.ext (.refl _) l3⟩) ((l2.trans l3) _ _ hk) (aJ h9) Qf ha.ok Rj.ok (fun Z4 d4 l4 RA=>?_) fun U U U U p=>p).le (.refl _) (by lia);have hz:=@aG kv x a;have Q3:=@aG (stored kv x a) y b;have XM:=l2.trans (l3.trans l4)
 have UQ:=bc.put (v:=a) ((hr.sub (fun z hz=>by refine oA (List.mem_filter.mp hz) fun hz h1=>?_;refine oA (List.mem_filter.mp hz) fun hz h2=>?_;refine List.mem_filter.mpr ⟨hz,?_⟩;simp at h1 h2 ⊢;exact ⟨h1,h2⟩)).le XM Rh:bc w .stg Γ (wo [x] (wo [y] fl)) c1 ρ Z4 kv) hx d7 (k:=.int) (ρ':=ρ.setI x k) (by unfold jN;rw [Ev.setI_i];exact ha.le l4 ll)
 have:=hb c1 ((ρ.setI x k).setI y k2) Z4 (stored (stored kv x a) y b) d4 gd gr XM RA (((he.le XM).store Vn SU).store VH hy2) (UQ.put (fun p hp=>by
  rcases OY hp with rfl | hp
  ·exact Ui
  ·exact hy p hp) d7 (by unfold jN;rw [Ev.setI_i];exact Rj.le l4 ll)) (bo h3 Rh) lw (ja h9 hz Q3)
 exact this.le (.refl _) (by lia)
theorem Fi {PA:KV}{fs:List (Str×Tok)}(he:lH gd gr PA Z)(hf:∀ x∈fs.map (·.1),x≠aM/\x≠bj)(hr:bc w .stg Γ (fs.map (·.1)) c ρ Z PA):lH gd gr (eP (dS gr gd) PA fs) Z/\bc w .stg Γ (fs.map (·.1)) c ρ Z (eP (dS gr gd) PA fs)/\(eP (dS gr gd) PA fs).length<=11+fs.length:=by
 have hM:bj≠aM:=by decide
 have hg:valueAt (dS gr gd) bj=valueAt (merged [] gr) bj:=bH hM
 have hk:∀ x,x∈fs.map (·.1)\/x=bj->∀ v,valueAt PA x=some v->valueAt (eP (dS gr gd) PA fs) x=some v:=fun x hx v hv=>by
  rw [uI]
  by_cases h:x∈fs.map (·.1)
  ·rw [if_pos h,hv];rfl
  ·rw [if_neg h];rcases hx with hx | rfl
   ·exact absurd hx h
   ·rw [hg,<- he.g,hv]
 refine cF ⟨?_,he.z,he.len,?_⟩ (fun p hp q=>?_) (Pg rD (Nat.add_le_add_right (wc he.len) _))
 ·rw [uI,if_neg (fun h=>(hf _ h).1 rfl)];exact bD
 ·rw [uI,if_neg (fun h=>(hf _ h).2 rfl),hg]
 ·refine bM (hr p hp q) fun v h1 h2=>?_;exact bw v (hk _ q v h1) h2
variable {K:Nat}{cl tp:Addr}
theorem Sc.Mm (h:Sc K Γ):∀ p∈Γ,p.1≠cx/\p.1≠aM:=fun p hp=>by
 rcases h p hp with h | h
 ·rw [h];decide
 ·exact ⟨h.Mm,h.gl⟩
theorem zq {x:Str}(h:ii gk)(h1:x≠cx)(h2:x≠bj):valueAt gk x=none:=(h.2 x).mpr ⟨h1,h2⟩
theorem Fj {fs : List (Str×Tok)}(hk:fs.map (·.1)=(aY gk (ch [] ps) [] fl).map (·.1))(hg:ii gk)(hΓ:Sc K Γ)(h:bc w s Γ (fs.map (·.1)) c ρ Z P7):bc w s Γ (wo (ps.map (·.1)) fl) c ρ Z P7:=fun p hp q=>by
 refine h p hp ?_
 by_cases e:p.1=bj
 ·exact .inr e
 ·rcases q with q | q
  ·refine oA (List.mem_filter.mp q) fun q1 q2=>?_;exact .inl ((lG hk).mpr (cF q1 (by simpa using q2) (zq hg (hΓ.Mm p hp).1 e)))
  ·exact absurd q e
structure pD (w:World)(Γ:List (Str×cU))(m f i:Nat)(V:Nat->Ev->a8->Value->Prop)(Z:a8)(r:ik):Prop where
 ok:r.ok w Z
 ri:r.i<=i
 fn:r.fs.length<=f
 sub:∀ x∈r.fs.map (·.1),x∈Γ.map (·.1)/\x≠bj/\x∈r.ms
 right:∀ v∈Value.ref r.m::r.ks,lI w (i+6) Z v
 sem:∀ Z' PA gr gd c ρ a,Z.le Z'->pC Z' gr PA gd r.m r.fs a->lH gd gr PA Z'->bc w .stg Γ (r.fs.map (·.1)) c ρ Z' PA->3<=c->c+m<=600->V c ρ Z' (.ref a)
def VI (w:World)(e:Ev->Int)(m:Nat):Nat->Ev->a8->Value->Prop:=fun c ρ Z v=>TH w .stg (c+m+3) (e ρ) Z v
def VF (w:World)(k:Nat)(g:Ev->Int->Int->Int)(K:Nat):Nat->Ev->a8->Value->Prop:=fun c ρ Z v=>uP w c (ir w .stg k c K (g ρ)) Z v .stg
theorem zu{x:Str}(h:x∈(D8 ps++Γ).map (·.1))(hn:x∉ps.map (·.1)):x∈Γ.map (·.1):=by
 rw [List.map_append,List.mem_append] at h;rcases h with h | h
 ·unfold D8 at h;rw [List.map_map] at h;exact absurd h hn
 ·exact h
theorem oF(hg:ii gk)(hi:i<=800)(h:jy w gk ps Γ e m f i Z cl):lI w (i+6) Z (.ref cl):=by obtain ⟨a,fo,pl,S,fs,fl,Uj,hl,Sk,VM,hk,sg⟩:=h;cases Uj;obtain ⟨ms,ks,h1,h2,h3,h4,h5⟩:=sg.sb.ins;intro Z' kd kk l R8 QY;refine ⟨cl,rfl,rI (hl.le l) (l _ _ VM) (l _ _ Sk) R8 (h1.le l ll) (fun p hp=>?_) (fun v hv=>h5 v hv Z' kd kk l R8 QY) hi⟩;refine ub ((lG hk (x:=p.1)).mp (Pb (bw p hp rfl))) fun q1 q2 q3=>?_;refine oA ((hg.2 p.1).mp q3) fun q4 q5=>?_;exact cF (h4 _ q1) (zq QY q4 q5) q2
theorem xR{x:Str}{V:Nat->Ev->a8->Value->Prop}(hg:ii gk)(hΓ:Sc K Γ)(hi:i<=800)(hf:f<=800)(hz:Z tp=some (.tup [.str x t,.ref cl]))(h:jy w gk ps (D8 ps++Γ) e m f i Z cl)
  (hV:∀ (fo pl S:Addr) (fl:List Str) Z' l cp kv gr gd c ρ,Z.le Z'->eQ Z' cl fo pl S ps.isEmpty->Z' pl=some (.lst (ps.map bN))->jx w (D8 ps++Γ) (IV e) m fl Z' S->Z' l=some (.lst [.ref cl,.ref cp])->Z' cp=some (.dct kv)->lH gd gr kv Z'->bc w .stg Γ (wo (ps.map (·.1)) fl) c ρ Z' kv->kv.length<=f+11->3<=c->c+m<=600->V c ρ Z' (.ref l)):
  ∃ r:ik,r.tp=tp/\r.x=x/\r.m=cl/\pD w Γ m f i V Z r:=by
 have hr:=oF hg hi h;obtain ⟨a,fo,pl,S,fs,fl,Uj,hl,Sk,VM,hk,sg⟩:=h;cases Uj;obtain ⟨ms,ks,h1,h2,h3,h4,h5⟩:=sg.sb.ins
 have hlen:fs.length<=f:=by have e1:=Pl List.length hk;rw [List.length_map,List.length_map] at e1;have:=@fg gk (ch [] ps) fl [];have:=sg.sb.fln;simp only [List.length_nil] at*;lia
 refine mW ⟨tp,x,t,cl,fo,pl,S,ps.isEmpty,fs,i,ms,ks⟩ rfl rfl rfl ⟨⟨hz,hl,VM,Pg hlen hf,h1,h2,h3⟩,Pm _,hlen,fun y hy=>?_,kO hr fun v hv=>(h5 v hv).le (.refl _) (Pq _ _),?_⟩
 ·refine ub ((lG hk).mp hy) fun q1 q2 q3=>?_;exact cF (zu (sg.sb.sub _ q1) q2) (((hg.2 y).mp q3).2) (h4 _ q1)
 ·intro Z' PA gr gd c ρ a l Qg he Q6 hc PI;obtain ⟨cp,z1,z2⟩:=Qg
  refine ub (Fi he (fun y hy=>by obtain ⟨q1,q2,q3⟩:=(lG hk).mp hy;have:=zu (sg.sb.sub _ q1) q2;obtain ⟨p,hp,rfl⟩:=Pa this;exact ⟨(hΓ.Mm p hp).2,((hg.2 _).mp q3).2⟩) Q6) fun e1 e2 e3=>?_
  exact hV fo pl S fl Z' a cp _ gr gd c ρ l (hl.le l) (l _ _ Sk) (sg.worth.le l) z1 z2 e1 (Fj hk hg hΓ e2) (by have:fs.length<=f:=hlen;exact bo hlen e3) hc PI
theorem pT {x:Str}(hg:ii gk)(hΓ:Sc K Γ)(hi:i<=800)(hf:f<=800)(Uk:f+m+11<=890)(hz:Z tp=some (.tup [.str x t,.ref cl]))(h:jy w gk [] Γ e m f i Z cl):∃ r:ik,r.tp=tp/\r.x=x/\r.m=cl/\pD w Γ m f i (VI w e m) Z r:=
 xR (ps:=[]) hg hΓ hi hf hz h fun fo pl S fl Z' l cp kv gr gd c ρ l' hl hp hb VN VO he hr hk hc PI=>by rw [show wo (([]:List (Str×Tok)).map (·.1)) fl=fl from List.filter_eq_self.mpr fun U U=>rfl] at hr;exact zn hl hp hb VN VO he hr hc PI (bo Uk hk)
theorem Fk {x : Str}(hg:ii gk)(hΓ:Sc K Γ)(hi:i<=800)(hf:f<=800)(Uk:f+m+11<=890)(hz:Z tp=some (.tup [.str x t,.ref cl]))(hp:gO K 250 p)(hK:100<=K/\K < 300)(h:jy w gk [(p,u)] ((p,.int)::Γ) e m f i Z cl):∃ r:ik,r.tp=tp/\r.x=x/\r.m=cl/\pD w Γ m f i (VF w 1 (fun ρ a b=>e (rR ρ [(p,u)] a b)) (m+1)) Z r:=
 xR (ps:=[(p,u)]) hg hΓ hi hf hz h fun fo pl S fl Z' l cp kv gr gd c ρ l' hl Sk hb VN VO he hr hk hc PI=>zo hl Sk hb (hΓ.fresh hp (.inl ll) hK.2 OV) hp.gl hp.Mg VN VO he hr hc (bo Uk hk) lw
theorem Fl {x q : Str}{u2 : Tok}(hg:ii gk)(hΓ:Sc K Γ)(hi:i<=800)(hf:f<=800)(Uk:f+m+11<=890)(hz:Z tp=some (.tup [.str x t,.ref cl]))(hp:gO K 250 p)(hq:gO K 250 q)(hpq:p≠q)(hK:100<=K/\K < 300)(h:jy w gk [(p,u),(q,u2)] ((p,.int)::(q,.int)::Γ) e m f i Z cl):∃ r:ik,r.tp=tp/\r.x=x/\r.m=cl/\pD w Γ m f i (VF w 2 (fun ρ a b=>e (rR ρ [(p,u),(q,u2)] a b)) (m+1)) Z r:=
 xR (ps:=[(p,u),(q,u2)]) hg hΓ hi hf hz h fun fo pl S fl Z' l cp kv gr gd c ρ l' hl Sk hb VN VO he hr hk hc PI=>zp hl Sk (fun c ρ Z2 P7 d gd gr l h1 h2 h3=>hb c ρ Z2 P7 d gd gr l h1 h2 (fun a ha=>h3 a (by simp only [D8,List.map_cons,List.map_nil,List.cons_append,List.nil_append,List.mem_cons] at ha ⊢;rcases ha with h | h | h<;>simp [h]))) (hΓ.fresh hp (.inl ll) hK.2 OV) hp.gl hp.Mg (hΓ.fresh hq (.inl ll) hK.2 OV) hq.gl hq.Mg hpq VN VO he hr hc (bo Uk hk) lw
variable {v:Addr}{rs:List ik}
theorem wm {x:Str}{rs:List ik}{P7:KV}(h:x∉rs.map (·.x)):valueAt (eA P7 rs as) x=valueAt P7 x:=by
 induction rs generalizing as P7 with
 | nil=>rfl
 | cons r rs ih=>cases as with
  | nil=>rfl
  | cons a as=>rw [List.map_cons,List.mem_cons,not_or] at h;exact (ih h.2).trans (bH h.1)
theorem D9 {rs:List ik}{P7:KV}(nd:(rs.map (·.x)).Nodup)(p:ik×Value)(h:p∈rs.zip as):valueAt (eA P7 rs as) p.1.x=some p.2:=by
 induction rs generalizing as P7 with
 | nil=>exact (List.not_mem_nil h).elim
 | cons r rs ih=>cases as with
  | nil=>exact (List.not_mem_nil h).elim
  | cons a as=>
  rw [List.map_cons,List.nodup_cons] at nd;rw [List.zip_cons_cons] at h;rcases OY h with rfl | h
  ·exact (wm (rs:=rs) nd.1).trans bD
  ·exact ih nd.2 h
theorem xS {x:Str}{rs:List ik}{P7:KV}(e:as.length=rs.length)(h:x∈rs.map (·.x)\/(valueAt P7 x).isSome=true):(valueAt (eA P7 rs as) x).isSome=true:=by
 induction rs generalizing as P7 with
 | nil=>exact h.elim (fun h=>(List.not_mem_nil h).elim) id
 | cons r rs ih=>cases as with
  | nil=>exact (Nat.succ_ne_zero _ e.symm).elim
  | cons a as=>
  refine ih (Nat.succ.inj e) ?_;rw [rQ,Bool.or_eq_true,decide_eq_true_eq];rw [List.map_cons,List.mem_cons] at h;rcases h with (h | h) | h
  ·exact .inr (.inl h)
  ·exact .inl h
  ·exact .inr (.inr h)
theorem Aw {rs:List ik}{as:LV}{P7:KV}:(eA P7 rs as).length<=P7.length+rs.length:=by
 induction rs generalizing as P7 with
 | nil=>exact Pm _
 | cons r rs ih=>cases as with
  | nil=>exact Pq _ _
  | cons a as=>have h1:=@ih as (stored P7 r.x a);have h2:=@aG P7 r.x a;show (eA (stored P7 r.x a) rs as).length<=_;simp only [List.length_cons];exact bo h1 h2
structure xT (w:World)(N xs:List Str)(i:Nat)(Z:a8)(r:ik):Prop where
 ok:r.ok w Z
 sub:∀ x∈r.fs.map (·.1),(x∈N\/x∈xs)/\x∈r.ms
 right:∀ v∈Value.ref r.m::r.ks,lI w i Z v
theorem pD.b {V:Nat->Ev->a8->Value->Prop}{r:ik}(h:pD w Γ m f i V Z r)(xs:List Str){i':Nat}(hi:i+6<=i'):xT w (Γ.map (·.1)) xs i' Z r:=⟨h.ok,fun x hx=>ub (h.sub x hx) fun a b c=>⟨.inl a,c⟩,fun v hv=>(h.right v hv).le (.refl _) hi⟩
theorem ik.ok.le {r:ik}(h:r.ok w Z)(l:Z.le Z'):r.ok w Z':=⟨l _ _ h.z,h.l.le l,l _ _ h.f,h.n,h.q.le l ll,h.h1,h.h2⟩
theorem mH.le (h:mH Z rs S v)(l:Z.le Z'):mH Z' rs S v:=mj.le l h
theorem Ax {rs:List ik}(h:∀ r∈rs,r.ms.length<=r.i):(tJ rs).length<=kJ rs:=by
 induction rs with
 | nil=>exact Pm _
 | cons r rs ih=>have h1:=h r (.head _);have h2:=ih fun r hr=>h r (.tail _ hr);clear ih;unfold tJ kJ at*;rw [List.flatMap_cons,List.length_append,List.map_cons,List.sum_cons];exact bo h1 h2
theorem Ay {rs:List ik}(h:∀ r∈rs,r.ks.length<=r.i):(tK rs).length<=kJ rs+rs.length:=by
 induction rs with
 | nil=>exact Pm _
 | cons r rs ih=>have h1:=h r (.head _);have h2:=ih fun r hr=>h r (.tail _ hr);clear ih;unfold tK kJ at*;rw [List.flatMap_cons,List.length_append,List.map_cons,List.sum_cons,List.length_cons,List.length_cons];exact bo h1 h2
theorem pU {N:List Str}{fb ib F I:Nat}(h3:rs.length<=3)(hl:mH Z rs S v)(hr:∀ r∈rs,xT w N (rs.map (·.x)) (I+ib+20) Z r)(hF:mv rs<=F)(hI:kJ rs<=I)(hb:SB w (rs.map (·.x)++N) fb ib flb Z S):SB w N (F+fb+12) (I+ib+20) (wo (rs.map (·.x)) (gU rs++flb)) Z v:=by
 obtain ⟨msb,ksb,Ul,Tc,UE,Zb,hi4⟩:=hb.ins;refine ⟨(Av hb.free h3 hl fun r QD=>(hr r QD).ok).le (.refl _) lw,?_,fun x RK=>?_,_,_,(D6 Ul Tc UE h3 hl fun r QD=>(hr r QD).ok).le (.refl _) lw,?_,?_,fun x RK=>?_,fun v hv=>?_⟩
 ·refine Pg uC ?_;rw [List.length_append]
  have:(gU rs).length<=mv rs:=by
   unfold gU mv;clear hr hF hI hb Zb h3 hl
   induction rs with
   | nil=>exact Pm _
   | cons r rs ih=>rw [List.flatMap_cons,List.length_append,List.map_cons,List.sum_cons,List.length_map];exact aJ ih
  have:=hb.fln;lia
 ·refine oA (List.mem_filter.mp RK) fun h1 h2=>?_;have h2:x∉rs.map (·.x):=by simpa using h2
  rcases OX h1 with h1 | h1
  ·refine bM (List.mem_flatMap.mp h1) fun r QD XN=>?_;exact ((hr r QD).sub x XN).1.elim id fun q=>absurd q h2
  ·exact (OX (hb.sub x h1)).elim (fun q=>absurd q h2) id
 ·rw [List.length_append];have:=Ax fun r QD=>(hr r QD).ok.h1;exact ja hI Tc this
 ·rw [List.length_append];have:=Ay fun r QD=>(hr r QD).ok.h2;lia
 ·refine oA (List.mem_filter.mp RK) fun h1 h2=>?_;rcases OX h1 with h1 | h1
  ·refine bM (List.mem_flatMap.mp h1) fun r QD XN=>?_;exact List.mem_append_left _ (List.mem_flatMap.mpr (bw r QD (((hr r QD).sub x XN).2)))
  ·exact List.mem_append_right _ (Zb x h1)
 ·rcases OX hv with hv | hv
  ·refine bM (List.mem_flatMap.mp hv) fun r QD hv=>?_;exact (hr r QD).right v hv
  ·exact (hi4 v hv).le (.refl _) lw
theorem jg {xs:List Str}{mb i:Nat}(h3:rs.length<=3)(hl:mH Z rs S v)(hr:∀ r∈rs,xT w (Γ.map (·.1)) (rs.map (·.x)) i Z r)(hx:∀ r∈rs,(∀ p∈Γ,p.1≠r.x)/\r.x≠aM/\r.x≠bj)(nd:(rs.map (·.x)).Nodup)
  (hP:∀ c ρ Z Z' v,Z.le Z'->P c ρ Z v->P c ρ Z' v)
  (body:∀ Z' P7 (as:List Addr) c ρ d2 gd gr,Z.le Z'->as.length=rs.length->Z' d2=some (.dct (eA P7 rs (as.map .ref)))->lH gd gr (eA P7 rs (as.map .ref)) Z'->bc w .stg Γ (wo (rs.map (·.x)) (gU rs++flb)) c ρ Z' (eA P7 rs (as.map .ref))->(∀ p∈rs.zip as,valueAt (eA P7 rs (as.map .ref)) p.1.x=some (.ref p.2)/\pC Z' gr (eA P7 rs (as.map .ref)) gd p.1.m p.1.fs p.2)->3<=c->c+mb<=596->(eA P7 rs (as.map .ref)).length+mb<=899->RT w (c+mb) aC [.ref S,.ref d2] (P c ρ) Z'):
  jx w Γ P (mb+4) (wo (rs.map (·.x)) (gU rs++flb)) Z v:=fun c ρ Z' P7 d gd gr l hd he Q6 hc PI hlen=>by
 refine xQ hd he.at' he.z he.len lw (hP c ρ) h3 (hl.le l) (fun r QD=>(hr r QD).ok.le l) (fun as ha r QD y hy=>xS ha ?_) fun Z1 d2 as ha l1 hd2 Qg=>?_
 ·by_cases e:y.1∈rs.map (·.x)
  ·exact .inl e
  ·rcases ((hr r QD).sub y.1 (Pb (bw y hy rfl))).1 with q | q
   ·refine bM (Pa q) fun p hp e2=>?_;refine bM (Q6 p hp (.inl (List.mem_filter.mpr ⟨e2▸List.mem_append_left _ (List.mem_flatMap.mpr (bw r QD (Pb (bw y hy rfl)))),by rw [e2];simpa using e⟩))) fun u h1 U=>?_;exact .inr (by rw [<- e2,h1];rfl)
   ·exact absurd q e
 ·have QP:∀ x,(∀ r∈rs,x≠r.x)->valueAt (eA P7 rs (as.map .ref)) x=valueAt P7 x:=fun x h=>wm fun q=>by refine bM (Pa q) fun r h1 PL=>?_;subst PL;exact h r h1 rfl
  have hbl:=@Aw rs (as.map .ref) P7;refine body Z1 P7 as c ρ d2 gd gr (l.trans l1) ha hd2 ⟨(QP _ fun r QD=>Ne.symm (hx r QD).2.1).trans he.at',l1 _ _ he.z,he.len,(QP _ fun r QD=>Ne.symm (hx r QD).2.2).trans he.g⟩ (fun p hp q=>?_) (fun p hp=>⟨?_,Qg p hp⟩) hc (aJ PI) (ja h3 hlen hbl)
  ·refine bM (Q6 p hp q) fun u h1 h2=>?_;exact bw u ((QP _ fun r QD=>(hx r QD).1 p hp).trans h1) (h2.le l1 ll)
  ·refine D9 nd (p.1,.ref p.2) ?_;rw [List.zip_map_right];exact Pb (bw p hp rfl)
def Da:List Addr:=[gH,jB,gI,dw]
end
inductive oX (Γ:List (Str×cU))(e:Ev->Int)(Z:a8)(v:Addr):Prop
 | var (x:Str) (t:Tok) (k:cU) (h:ac [.ref v,.str x t] Z nr) (hx:(x,k)∈Γ) (hk:k=.int\/k=.val) (he:∀ ρ,e ρ=ρ.i x)
 | lit (n:Int) (t:Tok) (h:ac [.ref v,.int n t] Z pB) (he:∀ ρ,e ρ=n)
 | oth (C:Addr) (h:ig Z v C) (hC:C∈Da)
def rS (w:World)(Γ:List (Str×cU))(P:PV)(m:Nat)(Z:a8)(v:Addr):Prop:=∀ c ρ Z' P7 d,Z.le Z'->Z' d=some (.dct P7)->kn w .src Γ c ρ Z' P7->c+m<=600->P7.length+m<=900->RT w (c+m) aw [.ref v,.ref d] (P c ρ) Z'
structure CX (w:World)(Γ:List (Str×cU))(e:Ev->Int)(m s f i q:Nat)(Z:a8)(v:Addr):Prop where
 val:rS w Γ (IV e) m Z v
 mkc:∀ gk,ii gk->gR w q s aq (.ref v) gk (eF (im w Γ (IV e) m f i)) Z
 at':oX Γ e Z v
section
variable {w:World}{s:kN}{n m f i c c' K sz q:Nat}{Z Z':a8}{Γ Γ':List (Str×cU)}{fl QF:List Str}{ρ ρ':Ev}{P7 gr gk:KV}{gd S v cl tp:Addr}{e e1 e2:Ev->Int}{P:PV}{rs:List ik}
variable {s' n' j' : Nat} {o2 : Option Str} {Ro flb : List Str} {k0 k1 : Int} {ρ0 : LV} {rb : Bool} {PT ky nl : Addr} {tx ty tk tf tg tn : Tok} {k2 : AK} {x3 x4 : SV} {fn gn S9 : Str}
theorem oX.le (h:oX Γ e Z v)(l:Z.le Z'):oX Γ e Z' v:=by
 cases h with
 | var x t k h h1 h2 h3=>exact .var x t k (h.ext (.refl _) l) h1 h2 h3
 | lit n t h h1=>exact .lit n t (h.ext (.refl _) l) h1
 | oth C h h1=>exact .oth C (h.le l) h1
theorem rS.le (h:rS w Γ P m Z v)(l:Z.le Z'):rS w Γ P m Z' v:=fun c ρ Z2 P7 d l2=>h c ρ Z2 P7 d (l.trans l2)
theorem rS.up {m':Nat}(h:rS w Γ P m Z v)(hm:m<=m'):rS w Γ P m' Z v:=fun c ρ Z2 P7 d l2 h1 h2 h3 h4=>(h c ρ Z2 P7 d l2 h1 h2 (bo hm h3) lw).le (.refl _) lw
theorem wj.up' {s : Nat}{k k':KV}{N N':Str->Nat}(h:wj s k N k' N')(l:s<=s'):wj s' k N k' N':=⟨h.at',h.le,fun b=>Pg (h.up b) (Nat.add_le_add_left l _),Pg h.len (Nat.add_le_add_left l _)⟩
theorem gR.up {s : Nat}{fa:Addr}{arg:Value}{P P':a8->Value->Prop}(x:gR w n s fa arg gk P Z)(hP:∀ Z' r,Z.le Z'->P Z' r->P' Z' r)(hn:n<=n')(hs:s<=s'):gR w n' s' fa arg gk P' Z:=
 fun Z1 mk fn fr gd av nd P7 N l1 h1 h2 h3 h4 B O Z2 led h Q i l2 S e q=>(x Z1 mk fn fr gd av nd P7 N l1 h1 h2 (fun b=>Pg (Nat.add_le_add_left hs _) (h3 b)) (Pg (Nat.add_le_add_left hs _) h4) B O Z2 led h Q i l2 S e fun v Z3 h' c' l3 p S'=>q v Z3 h' c' l3 (by obtain ⟨PH,N',e1,e2,e3⟩:=p;exact ⟨PH,N',e1,e2.up' hs,hP _ _ (l1.trans (l2.trans l3)) e3⟩) S').le hn
theorem im.up {m' f' i':Nat}(h:im w Γ P m f i Z S)(hm:m<=m')(hf:f<=f')(hi:i<=i'):im w Γ P m' f' i' Z S:=oE (h) fun fl h=>⟨fl,h.up hm hf hi⟩
theorem CX.le (h:CX w Γ e m sz f i q Z v)(l:Z.le Z'):CX w Γ e m sz f i q Z' v:=⟨h.val.le l,fun gk hg=>(h.mkc gk hg).le l ll,h.at'.le l⟩
theorem CX.up {m' s' f' i' q':Nat}(h:CX w Γ e m sz f i q Z v)(hm:m<=m')(hs:sz<=s')(hf:f<=f')(hi:i<=i')(hq:q<=q'):CX w Γ e m' s' f' i' q' Z v:=⟨h.val.up hm,fun gk hg=>(h.mkc gk hg).up (fun _ _ _ ⟨a,e,p⟩=>⟨a,e,p.up hm hf hi⟩) hq hs,h.at'⟩
theorem xU {s:kN}{x:Str}{u:Value}{k:cU}(hk:k=.int\/k=.val)(h:jN w s c ρ Z x u k):TH w s c (ρ.i x) Z u:=by
 rcases hk with rfl | rfl
 ·exact h
 ·exact .inl h
theorem ma {N ms:List Str}(h1:bO w ah (.ref S) f fl Z)(h2:dG w S i ms [] Z)(hf:fl.length<=f)(hi:ms.length<=i)(hm:∀ x∈fl,x∈ms/\x∈N):SB w N f i fl Z S:=⟨h1,hf,fun x hx=>(hm x hx).2,ms,[],h2,hi,Nat.zero_le _,fun x hx=>(hm x hx).1,fun U h=>nomatch h⟩
theorem oY {a:Addr}(hv:ac [.ref S,.ref a] Z lE)(ha:∀ c ρ Z' P7,Z.le Z'->bc w .stg Γ fl c ρ Z' P7->∃ u,nz Z' a P7 u/\TH w .stg c (e ρ) Z' u):jx w Γ (IV e) 4 fl Z S:=fun c ρ Z' P7 d gd gr l hd he hr hc PI hlen=>by refine bM (ha c ρ Z' P7 l hr) fun u h1 h2=>?_;exact rC (hv.ext (.refl _) l) h1 hd (h2.forced hc) fun U U U U p=>p
theorem Db {x:Str}{t:Tok}{k:cU}(hf:ac [.ref v,.str x t] Z nr)(hx:(x,k)∈Γ)(hk:k=.int\/k=.val):CX w Γ (fun ρ=>ρ.i x) 4 0 8 8 6 Z v where
 val:=fun c ρ Z' P7 d l hd hr PI hlen=>by
  refine bM (hr _ hx) fun u h1 h2=>?_;rcases xU hk h2 with ⟨t2,rfl⟩ | h3
  ·exact (Ct (hf.ext (.refl _) l) hd h1).le (.refl _) lw
  ·exact (rn (hf.ext (.refl _) l) hd h1 h3 fun U U U U p=>p).le (.refl _) lw
 mkc:=fun gk hg=>(HL hf).up (fun Z' r l ⟨S,a,gk,N,bs,e,h1,h2,_⟩=>⟨S,e,[x],oY h1 fun c ρ Z2 P7 l2 hr=>by refine bM (hr _ hx (.inl (.head _))) fun u h3 h4=>?_;exact bw u (.inr (bw x ((show cg Z' a (some x) from h2).le l2) h3)) (xU hk h4),ma (rF h1 (o:=some x) h2) (tF h1 (o0:=some x) h2) (by show 1<=8;exact cZ) (by show 1<=8;exact cZ) (fZ ⟨List.mem_singleton.mpr rfl,Pb (bw _ hx rfl)⟩)⟩) ll ll
 at':=.var x t k hf hx hk fun U=>rfl
theorem xV {k:Int}{t:Tok}(hf:ac [.ref v,.int k t] Z pB):CX w Γ (fun U=>k) 4 0 8 8 6 Z v where
 val:=fun c ρ Z' P7 d l hd hr PI hlen=>(F3 (hf.ext (.refl _) l)).le (.refl _) lw
 mkc:=fun gk hg=>(HM hf).up (fun Z' r l ⟨S,a,gk,N,bs,e,h1,h2,_⟩=>⟨S,e,[],oY h1 fun c ρ Z2 P7 l2 hr=>by refine oE h2 fun u h3=>?_;exact bw (.int k u) (.inl (me k u rfl (h3.ext (.refl _) l2))) (.inl ⟨u,rfl⟩),ma (rF h1 (o:=none) ⟨k,h2⟩) (tF h1 (o0:=none) ⟨k,h2⟩) (Nat.zero_le _) (Nat.zero_le _) nF⟩) ll ll
 at':=.lit k t hf fun U=>rfl
theorem xW {o : Option Str}{x:Str}:x∈uB [o,o2]↔o=some x\/o2=some x:=by unfold uB;simp [eq_comm]
theorem jh {os:List (Option Str)}:(uB os).length<=os.length:=List.length_filterMap_le ..
theorem pV {N:List Str}{l a b:Addr}{x:Str}{t:Tok}{o : Option Str}(hv:ac [.ref S,.str x t,.ref l,.ref a,.ref b] Z lF)(ha:cg Z a o)(hb:cg Z b o2)(h1:∀ y,o=some y->y∈N)(h2:∀ y,o2=some y->y∈N):SB w N 11 8 (uB [o,o2]) Z S:=ma (xx hv ha hb) (Aj hv ha hb) (Pg jh (by symm;exact cZ)) (Pg jh (by symm;exact cZ)) fun y hy=>⟨hy,(xW.mp hy).elim (h1 y) (h2 y)⟩
theorem nG {N:List Str}{e al o:Addr}{x:Str}{t:Tok}{f1 i1 f2 i2:Nat}(hv:ac [.ref S,.ref e,.str x t,.ref al,.ref o] Z je)(he:SB w N f1 i1 Ro Z e)(hb:SB w (x::N) f2 i2 flb Z o):SB w N (f1+f2+16) (i1+i2+12) (Ro++wo [x] flb) Z S:=by
 obtain ⟨ms,ks,a1,a2,a3,a4,a5⟩:=he.ins;obtain ⟨ms',ks',b1,b2,b3,b4,b5⟩:=hb.ins;have hw:=@uC [x] flb;refine ⟨(rG (al:=.ref al) (o:=.ref o) (x:=x) (t:=t) ?_ he.free (CH hv hb.free) he.fln).le (.refl _) lw,?_,fun y hy=>?_,_,_,xC hv a1 b1 a2 a3 b2 b3,?_,?_,fun y hy=>?_,fun u hu=>?_⟩
 ·obtain ⟨⟨a,dx,fv,h1,h2,h3,h4⟩,_⟩:=hv;cases h1;obtain ⟨⟨x1,y1⟩,fv,rfl,e1,h4⟩:=ak.cons_r h4;obtain ⟨⟨x2,y2⟩,fv,rfl,e2,h4⟩:=ak.cons_r h4;obtain ⟨⟨x3,y3⟩,fv,rfl,e3,h4⟩:=ak.cons_r h4;obtain ⟨⟨x4,y4⟩,fv,rfl,e4,h4⟩:=ak.cons_r h4;obtain rfl:=ak.nil_r h4;obtain ⟨rfl,e1⟩:=e1;obtain ⟨rfl,e2⟩:=e2;obtain ⟨rfl,e3⟩:=e3;obtain ⟨rfl,e4⟩:=e4;cases e1;cases e2;cases e3;cases e4;exact ⟨dx,h2,h3⟩
 ·rw [List.length_append];have:=he.fln;have:=hb.fln;lia
 ·rcases OX hy with hy | hy
  ·exact he.sub y hy
  ·obtain ⟨h1,h2⟩:=List.mem_filter.mp hy;exact (OY (hb.sub y h1)).elim (fun e=>by subst e;simp at h2) id
 ·rw [List.length_append];exact bo a2 b2
 ·rw [List.length_append];exact bo a3 b3
 ·rcases OX hy with hy | hy
  ·exact List.mem_append_left _ (a4 y hy)
  ·exact List.mem_append_right _ (b4 y (List.mem_filter.mp hy).1)
 ·rcases OX hu with hu | hu
  ·exact (a5 u hu).le (.refl _) lw
  ·exact (b5 u hu).le (.refl _) (cZ)
variable {op:Str}{m1 m2 s1 s2 f1 f2 i1 i2:Nat}
theorem SB.names {N N':List Str}(h:SB w N f i fl Z S)(hN:∀ x∈N,x∈N'):SB w N' f i fl Z S:=⟨h.free,h.fln,fun x hx=>hN x (h.sub x hx),h.ins⟩
abbrev HQ (op:Str)(e1 e2:Ev->Int):Ev->Int:=fun ρ=>Nl op (e1 ρ) (e2 ρ)
def wn (op:Str)(e2:Ev->Int):Prop:=∀ ρ,op=ds->(e2 ρ).natAbs < 2 ^ 63
theorem ji {k:Int}:∀ Z Z' v,Z.le Z'->iH k Z v->iH k Z' v:=fun U U U U p=>p
theorem v1:hZ.length=1:=rfl
theorem Sc.fr {b:Str}{j:Nat}(h:Sc K Γ)(hK:K < 300)(hb:b.length=1)(hj:j<=100):∀ p∈Γ,p.1≠nm b j:=fun p hp e=>by
 rcases h p hp with h | ⟨b',k,h1,h2,h3,h4⟩
 ·exact tI hb (d:=97) rfl OV (e.symm.trans h)
 ·have:=rP hb h2 (aJ hj) (bo hK h4) (e.symm.trans h1);lia
theorem Ok {b:Str}{j:Nat}(hb:b.length=1):nm b j≠aM/\nm b j≠bj:=⟨tI hb (d:=108) rfl OV,tI hb (d:=97) rfl OV⟩
theorem Az(Qc:sr op)(hm:wn op fun U=>k1)(h:xL op k0 k1 Z S):im w Γ (IV (HQ op (fun U=>k0) fun U=>k1)) 8 11 8 Z S:=by obtain ⟨la,a0,a1,t,u0,u1,h⟩:=h;have hp:ac [.ref S,.str op t,.ref la,.ref a0,.ref a1] Z lF:=h.sl [0,1,2,3,4];have h0:ac [.ref a0,.int k0 u0] Z rr:=h.sl [3,5];have h1:ac [.ref a1,.int k1 u1] Z rr:=h.sl [4,6];refine ⟨_,fun c ρ Z' P7 d gd gr l hd he hr hc PI hlen=>?_,pV (o:=none) (o2:=none) hp (wu k0 u0 h0) (wu k1 u1 h1) (fun U h=>nomatch h) (fun U h=>nomatch h)⟩;exact (kz (hp.ext (.refl _) l) (.inl (me k0 u0 rfl (h0.ext (.refl _) l))) (.inl (me k1 u1 rfl (h1.ext (.refl _) l))) hd (hm ρ) Qc).le (.refl _) lw
theorem AA{Γ:List (Str×cU)}(Qc:sr op)(hm:wn op fun U=>k1)(h:xN op (im w Γ (IV e1) m1 f1 i1) k1 Z S):im w Γ (IV (HQ op e1 fun U=>k1)) (m1+8) (f1+11+16) (i1+8+12) Z S:=by obtain ⟨QR,sp,la,a0,a1,e0,t,QG,u1,j0,h,⟨Ro,Sl⟩,hj⟩:=h;have hs:ac [.ref S,.ref e0,.str (nm hZ j0) QG,.ref QR,.ref sp] Z je:=h.sl [0,1,2,3,4];have hp:ac [.ref sp,.str op t,.ref la,.ref a0,.ref a1] Z lF:=h.sl [4,5,6,7,8];have h0:ac [.ref a0,.str (nm hZ j0) QG] Z rq:=h.sl [7,2];have h1:ac [.ref a1,.int k1 u1] Z rr:=h.sl [8,9];refine ⟨_,fun c ρ Z' P7 d gd gr l hd he hr hc PI hlen=>?_,nG hs Sl.sb (pV (o:=some (nm hZ j0)) (o2:=none) hp ⟨QG,h0⟩ (wu k1 u1 h1) (fun U h=>by cases h;exact .head _) (fun U h=>nomatch h))⟩;refine (jf (c:=c+m1+4) (hs.ext (.refl _) l) hd lw ((Sl.worth c ρ Z' P7 d gd gr l hd he (hr.sub fun x hx=>List.mem_append_left _ hx) hc (aJ PI) lw).le (.refl _) lw) (fun Z1 d' u l1 Q8=>?_) ji).le (.refl _) lw;have l':=l.trans l1;exact (kz (hp.ext (.refl _) l') (.inr (bw _ ⟨QG,h0.ext (.refl _) l'⟩ bD)) (.inl (me k1 u1 rfl (h1.ext (.refl _) l'))) Q8 (hm ρ) Qc).le (.refl _) lw
theorem AB{Γ:List (Str×cU)}(Qc:sr op)(hm:wn op e2)(h:xM op k0 (im w Γ (IV e2) m2 f2 i2) Z S):im w Γ (IV (HQ op (fun U=>k0) e2)) (m2+8) (f2+11+16) (i2+8+12) Z S:=by obtain ⟨QR,sp,la,a0,a1,e0,t,QG,u1,j0,h,⟨Ro,Sl⟩,hj⟩:=h;have hs:ac [.ref S,.ref e0,.str (nm hZ j0) QG,.ref QR,.ref sp] Z je:=h.sl [0,1,2,3,4];have hp:ac [.ref sp,.str op t,.ref la,.ref a0,.ref a1] Z lF:=h.sl [4,5,6,7,8];have h0:ac [.ref a1,.str (nm hZ j0) QG] Z rq:=h.sl [8,2];have h1:ac [.ref a0,.int k0 u1] Z rr:=h.sl [7,9];refine ⟨_,fun c ρ Z' P7 d gd gr l hd he hr hc PI hlen=>?_,nG hs Sl.sb (pV (o:=none) (o2:=some (nm hZ j0)) hp (wu k0 u1 h1) ⟨QG,h0⟩ (fun U h=>nomatch h) (fun U h=>by cases h;exact .head _))⟩;refine (jf (c:=c+m2+4) (hs.ext (.refl _) l) hd lw ((Sl.worth c ρ Z' P7 d gd gr l hd he (hr.sub fun x hx=>List.mem_append_left _ hx) hc (aJ PI) lw).le (.refl _) lw) (fun Z1 d' u l1 Q8=>?_) ji).le (.refl _) lw;have l':=l.trans l1;exact (kz (hp.ext (.refl _) l') (.inl (me k0 u1 rfl (h1.ext (.refl _) l'))) (.inr (bw _ ⟨QG,h0.ext (.refl _) l'⟩ bD)) Q8 (hm ρ) Qc).le (.refl _) lw
theorem AC (hΓ:Sc K Γ)(hK:K < 300)(Qc:sr op)(hm:wn op e2)(h:xO op (im w Γ (IV e1) m1 f1 i1) (im w Γ (IV e2) m2 f2 i2) Z S):im w Γ (IV (HQ op e1 e2)) (m1+m2+12) (f1+(f2+11+16)+16) (i1+(i2+8+12)+12) Z S:=by
 obtain ⟨RH,QR,al1,sp,la,a0,a1,e0,RB,t,QG,Q9,j0,j1,h,⟨Ro,Sl⟩,⟨QH,Sb⟩,Zc,hj1,Rx⟩:=h;have hs:ac [.ref S,.ref e0,.str (nm hZ j0) QG,.ref al1,.ref RH] Z je:=h.sl [0,1,2,3,4];have Qm:ac [.ref RH,.ref RB,.str (nm hZ j1) Q9,.ref QR,.ref sp] Z je:=h.sl [4,5,6,7,8];have hp:ac [.ref sp,.str op t,.ref la,.ref a0,.ref a1] Z lF:=h.sl [8,9,10,11,12];have h0:ac [.ref a0,.str (nm hZ j0) QG] Z rq:=h.sl [11,2];have h1:ac [.ref a1,.str (nm hZ j1) Q9] Z rq:=h.sl [12,6];have QP:nm hZ j0≠nm hZ j1:=fun e=>by have:=rP v1 v1 (aJ Zc) (aJ hj1) e;lia
 have Qn:=hΓ.fr hK v1 Zc;refine ⟨_,fun c ρ Z' P7 d gd gr l hd he hr hc PI hlen=>?_,nG hs Sl.sb (nG Qm (Sb.sb.names fun x hx=>.tail _ hx) (pV (o:=some (nm hZ j0)) (o2:=some (nm hZ j1)) hp ⟨QG,h0⟩ ⟨Q9,h1⟩ (fun U h=>by cases h;exact .tail _ (.head _)) (fun U h=>by cases h;exact .head _)))⟩;have UQ:=hr.sub (QF:=Ro) fun x hx=>List.mem_append_left _ hx;have Ra:bc w .stg Γ QH c ρ Z' P7:=fun p hp q=>hr p hp (q.imp (fun q=>List.mem_append_right _ (List.mem_filter.mpr ⟨List.mem_append_left _ q,by simpa using Qn p hp⟩)) id);refine (jf (c:=c+m1+m2+7) (hs.ext (.refl _) l) hd lw ((Sl.worth c ρ Z' P7 d gd gr l hd he UQ hc (aJ PI) lw).le (.refl _) lw) (fun Z1 d' u l1 Q8=>?_) ji).le (.refl _) (cZ);have l':=l.trans l1;have hz:=@aG P7 (nm hZ j0) (.int (e1 ρ) u);refine (jf (c:=c+m2+4) (Qm.ext (.refl _) l') Q8 (bo hlen hz) ((Sb.worth c ρ Z1 _ d' gd gr l' Q8 ((he.le l1).store (Ok v1).1 (Ok v1).2) ((Ra.le l1 ll).store Qn) hc (aJ PI) (bo hlen hz)).le (.refl _) lw) (fun Z2 d2 u2 l2 hd2=>?_) ji).le (.refl _) (cZ);have l3:=l'.trans l2;exact (kz (hp.ext (.refl _) l3) (.inr (bw _ ⟨QG,h0.ext (.refl _) l3⟩ ((bH QP).trans bD))) (.inr (bw _ ⟨Q9,h1.ext (.refl _) l3⟩ bD)) hd2 (hm ρ) Qc).le (.refl _) lw
theorem fh{C:Addr}{fs:List (Str×SV)}(h:bK (.ref v::ρ0) Z 0 (.obj C fs)):ig Z v C:=by obtain ⟨a,dx,fv,h1,h2,h3,_⟩:=h;cases h1;exact ⟨dx,fv,h2,h3⟩
theorem kA:∀ C∈Da,C∈oW/\C∈oz/\C∈oV:=by decide +kernel
theorem oX.nolit {a:Addr}(h:oX Γ e Z a):(∃ n t,ac [.ref a,.int n t] Z pB/\∀ ρ,e ρ=n)\/∃ C,ig Z a C/\C∈oW:=by
 cases h with
 | var x t k h h1 h2 h3=>exact .inr (bw _ (fh h.1) OV)
 | lit n t h h1=>exact .inl (me n t h h1)
 | oth C h h1=>exact .inr (bw C h ((kA C h1).1))
theorem jM{C:Addr}{fs:List (Str×SV)}(h:bK (.ref v::ρ0) Z 0 (.obj C fs)):∃ dx fv,Z v=some (.ins C dx)/\Z dx=some (.att fv)/\RF (.ref v::ρ0) fs fv:=by obtain ⟨a,dx,fv,h1,h2,h3,h4⟩:=h;cases h1;exact yf dx fv h2 h3 h4
theorem uJ {a b l:Addr}{t:Tok}(hv:ac [.ref v,.ref a,.ref b,.ref l,.str op t] Z nt)(hΓ:Sc K Γ)(hK:K < 300)(Qc:sr op)(hm:wn op e2)(ha:CX w Γ e1 m1 s1 f1 i1 q Z a)(hb:CX w Γ e2 m2 s2 f2 i2 q Z b)(hq:6<=q):CX w Γ (HQ op e1 e2) (m1+m2+12) (s1+s2+2) (f1+f2+43) (i1+i2+32) (q+6) Z v where
 val:=fun c ρ Z' P7 d l hd hr PI hlen=>(Cw (m:=c+m1+m2) (hv.ext (.refl _) l) ((ha.val c ρ Z' P7 d l hd hr (aJ PI) lw).le (.refl _) lw) ((hb.val c ρ Z' P7 d l hd hr (aJ PI) lw).le (.refl _) lw) (hm ρ) Qc).le (.refl _) (cZ)
 mkc:=fun gk hg=>by
  have XO:∃ f0 a0 dx,Z v=some (.ins dw dx)/\Z dx=some (.att [(eB,f0),(br,a0)]):=by refine et (jM hv.1) fun dx fv h1 h2 h3=>?_;refine et (ak.cons_r h3) fun Qs fv PZ e1 h4=>?_;obtain ⟨x1,y1⟩:=Qs;subst PZ;obtain ⟨⟨x2,y2⟩,fv,rfl,e2,h4⟩:=ak.cons_r h4;obtain rfl:=ak.nil_r h4;refine oA e1 fun PQ e1=>?_;subst PQ;refine oA e2 fun Q4 e2=>?_;subst Q4;exact yg _ _ dx h1 h2
  refine kC XO fun f0 a0 Um=>?_
  have fin:∀ {P:a8->Addr->Prop} {m' f' i' s':Nat},gR w (q+3) s' bC (.ref v) gk (eF P) Z->(∀ Z S,P Z S->im w Γ (IV (HQ op e1 e2)) m' f' i' Z S)->s'<=s1+s2+2->m'<=m1+m2+12->f'<=f1+f2+43->i'<=i1+i2+32->gR w (q+6) (s1+s2+2) aq (.ref v) gk (eF (im w Γ (IV (HQ op e1 e2)) (m1+m2+12) (f1+f2+43) (i1+i2+32))) Z:=fun h hP hs h1 h2 h3=>Fg Um (h.up (fun Z' r _ ⟨S,e,p⟩=>⟨S,e,(hP _ _ p).up h1 h2 h3⟩) ll hs) im.mono
  have e0:∀ {k:Int} {e:Ev->Int},(∀ ρ,e ρ=k)->e=fun U=>k:=fun h=>funext h;rcases ha.at'.nolit with ⟨k0,u0,g0,h0⟩ | ⟨C0,g0,h0⟩<;>rcases hb.at'.nolit with ⟨k1,u1,g1,h1⟩ | ⟨C1,g1,h1⟩
  ·obtain rfl:=e0 h0;obtain rfl:=e0 h1;exact fin (Aq hv Qc g0 g1) (fun Z S=>Az Qc hm) lw lw lw lw
  ·obtain rfl:=e0 h0;exact fin (Ar hv Qc g0 g1 h1 (hb.mkc gk hg) im.mono hq) (fun Z S=>AB Qc hm) lw lw (cZ) (cZ)
  ·obtain rfl:=e0 h1;exact fin (As hv Qc g0 h0 (ha.mkc gk hg) im.mono g1 hq) (fun Z S=>AA Qc hm) lw lw (cZ) (cZ)
  ·exact fin (At hv Qc g0 h0 (ha.mkc gk hg) im.mono g1 h1 (hb.mkc gk hg) im.mono hq) (fun Z S=>AC hΓ hK Qc hm) lw lw lw lw
 at':=.oth _ (fh hv.1) OV
variable {e3:Ev->Int}{m3 s3 f3 i3:Nat}
theorem kn.add {y:Str}{k:cU}{v:Value}(h:kn w s Γ c ρ Z P7)(hv:valueAt P7 y=some v)(hy:∀ p∈Γ,p.1≠y)(sb:SameBut y ρ ρ')(he:jN w s c ρ' Z y v k):kn w s ((y,k)::Γ) c ρ' Z P7:=kO (bw v hv he) fun p hp=>bM (h p hp) fun u h1 h2=>(bw u h1 (h2.ev (sb _ (hy p hp)).1 (sb _ (hy p hp)).2))
theorem bc.add {y:Str}{k:cU}{v:Value}(h:bc w s Γ (wo [y] fl) c ρ Z P7)(hv:valueAt P7 y=some v)(hy:∀ p∈Γ,p.1≠y)(sb:SameBut y ρ ρ')(he:jN w s c ρ' Z y v k):bc w s ((y,k)::Γ) fl c ρ' Z P7:=kO (fun U=>bw v hv he) fun p hp q=>bM (h p hp (q.imp (fun q=>List.mem_filter.mpr ⟨q,by simpa using hy p hp⟩) id)) fun u h1 h2=>(bw u h1 (h2.ev (sb _ (hy p hp)).1 (sb _ (hy p hp)).2))
theorem bc.thin {xs:List Str}(h:bc w s Γ (wo xs QF) c ρ Z P7)(hx:∀ x∈xs,∀ p∈Γ,p.1≠x)(hs:∀ x∈fl,x∈QF):bc w s Γ fl c ρ Z P7:=fun p hp q=>h p hp (q.imp (fun q=>List.mem_filter.mpr ⟨hs _ q,by
 simp only [List.contains_eq_mem,Bool.not_eq_true',decide_eq_false_iff_not];exact fun e=>hx _ e p hp rfl⟩) id)
noncomputable def d5 (m f i:Nat):Prop:=f<=800/\i<=800/\f+m+11<=890
theorem oX.nolam (h:oX Γ e Z v):∃ C,ig Z v C/\C∈oV:=by
 cases h with
 | var x t k h h1 h2 h3=>exact bw _ (fh h.1) OV
 | lit n t h h1=>exact bw _ (fh h.1) OV
 | oth C h h1=>exact bw C h ((kA C h1).2.2)
theorem CX.clo (h:CX w Γ e m sz f i q Z v)(hq:f+8<=q)(hf:f<=800)(hg:ii gk):gR w (q+3) sz ba (.ref v) gk (eF fun Z cl=>jy w gk [] Γ e m f i Z cl) Z:=by
 refine bM h.at'.nolam fun C h1 h2=>?_
 exact (za h1 h2 ((h.mkc gk hg).up (fun Z' r _ ⟨S,e,fl,sg⟩=>⟨S,fl,e,sg.sb.free,sg.sb.fln,sg⟩) ll ll) hq hf SG.monoL).up (fun Z' r U p=>by have p0:=p;obtain ⟨a,_,_,_,_,_,rfl,_⟩:=p0;exact ⟨a,rfl,p⟩) ll ll
theorem jy.mono {ps:List (Str×Tok)}:jL (jy w gk ps Γ e m f i):=fun U U U l h=>oC.le SG.monoL l h
theorem zv {l b:Addr}{x:Str}{t:Tok}{r:ik}(h:ac [.ref S,.ref l,.ref b,.ref tp,.str x t,.ref cl] Z mE)(hr:r.tp=tp):mH Z [r] b S/\Z tp=some (.tup [.str x t,.ref cl]):=by subst hr;exact ⟨.inr (jv (by simp) S l rfl (h.sl [0,1,2]) h.2.1.lv),h.2.2.1.tv⟩
theorem Fm {x:Str}{t:Tok}(hg:ii gk)(hΓ:Sc K Γ)(hK:100<=K/\K < 300)(hx:gO K 250 x)(h8:d5 m1 f1 i1)(h:ze x t (jy w gk [] Γ e1 m1 f1 i1) (im w ((x,.int)::Γ) (IV e2) m2 f2 i2) Z S):im w Γ (IV fun ρ=>e2 (ρ.setI x (e1 ρ))) (m1+m2+7) (f1+f2+18) (i1+i2+20) Z S:=by obtain ⟨l,b,tp,cl,hf,Sp,QH,Sb⟩:=h;have ⟨_,hz⟩:=zv (r:=⟨tp,x,t,0,0,0,0,true,[],0,[],[]⟩) hf rfl;refine sV (pT hg hΓ h8.2.1 h8.1 h8.2.2 hz Sp) fun r PL PZ PQ hr=>?_;subst PL;subst PZ;subst PQ;refine oA (zv hf rfl) fun hL U=>?_;have Qn:=hΓ.fresh hx (.inl ll) hK.2 OV;have hB:∀ r'∈[r],xT w (Γ.map (·.1)) ([r].map (·.x)) (i1+i2+20) Z r':=fZ (hr.b _ lw);refine ⟨_,(jg (xs:=[r.x]) (mb:=m1+m2+3) (flb:=QH) (by show 1<=3;exact cZ) hL hB (fZ (cF Qn hx.gl hx.Mg)) (by simp) (fun U U U U U U p=>p) fun Z' P7 as c ρ d2 gd gr l has hd he Q6 Qg hc PI hlen=>?_),(pU (F:=f1+6) (I:=i1) (by show 1<=3;exact cZ) hL hB (by show r.fs.length+6+0<=_;have:=hr.fn;exact aJ this) (by show r.i+0<=_;have:=hr.ri;exact aJ this) Sb.sb).le (.refl _) (cZ) lw⟩;refine oE (uo has.symm) fun a Q4=>?_;subst Q4;refine oA (Qg _ (List.mem_singleton.mpr rfl)) fun h1 h2=>?_;have QC:∀ {fl},(∀ x∈fl,x∈gU [r]++QH)->bc w .stg Γ fl c ρ Z' (eA P7 [r] ([a].map .ref)):=fun hs=>Q6.thin (fZ Qn) hs;have hV:=hr.sem Z' _ gr gd c ρ a l h2 he (QC fun x hx=>List.mem_append_left _ (List.mem_flatMap.mpr (bw r (.head _) hx))) hc (aJ PI);have:=Sb.worth (c+m1+3) (ρ.setI r.x (e1 ρ)) Z' _ d2 gd gr l hd he (((QC (fl:=wo [r.x] QH) fun x hx=>List.mem_append_right _ (List.mem_filter.mp hx).1).le (.refl _) lw).add h1 Qn d7 (by unfold jN;rw [Ev.setI_i];exact hV)) lw (aJ PI) lw;exact this.le (.refl _) (cZ)
theorem Fn {a b l:Addr}{x:Str}{t:Tok}(hv:ac [.ref v,.ref b,.ref l,.ref tp,.str x t,.ref a,.bool rb] Z w5)(hΓ:Sc K Γ)(hK:100<=K/\K < 300)(hx:gO K 250 x)(h8:d5 m1 f1 i1)(ha:CX w Γ e1 m1 s1 f1 i1 q Z a)(hb:CX w ((x,.int)::Γ) e2 m2 s2 f2 i2 q Z b)(hq:f1+8<=q):
  CX w Γ (fun ρ=>e2 (ρ.setI x (e1 ρ))) (m1+m2+7) (s1+s2) (f1+f2+18) (i1+i2+20) (q+6) Z v where
 val:=fun c ρ Z' P7 d l hd hr PI hlen=>by have Qn:=hΓ.fresh hx (.inl ll) hK.2 OV;refine (w6 (c:=c+m1+m2) (hv.ext (.refl _) l) hd lw (fun Z1 d' l1 l2 Q8 PY=>?_) fun U U U U p=>p).le (.refl _) (cZ);have l':=l.trans l2;have hz:=@aG P7 x (.ref l1);have hR:kn w .src Γ c ρ Z1 (stored P7 x (.ref l1)):=fun p hp=>let ⟨u,h1,h2⟩:=hr p hp;(bw u ((bH (Qn p hp)).trans h1) (h2.le l2 ll));have h1:=ha.val c ρ Z1 _ d' l' Q8 hR (aJ PI) (bo hlen hz);exact (hb.val (c+m1) (ρ.setI x (e1 ρ)) Z1 _ d' l' Q8 ((hR.le (.refl _) lw).add bD Qn d7 (by unfold jN;rw [Ev.setI_i];exact .inr (bR l1 a d' rfl PY h1))) (aJ PI) (bo hlen hz)).le (.refl _) lw
 mkc:=fun gk hg=>(zh hv (ha.clo hq h8.1 hg) ((hb.mkc gk hg).le (.refl _) lw) jy.mono im.mono).up (fun Z' r _ ⟨S,e,p⟩=>⟨S,e,Fm hg hΓ hK hx h8 p⟩) lw ll
 at':=.oth _ (fh hv.1) OV
inductive AD (w:World)(gk:KV)(Γ:List (Str×cU))(k:Nat)(g:Ev->Int->Int->Int)(m f i:Nat)(Z:a8)(cl:Addr):Prop
 | mk (K:Nat) (ps:List (Str×Tok)) (e:Ev->Int) (_:Sc K Γ) (_:(100<=K/\K < 300)) (_:ps.length=k) (_:(k=1\/k=2)) (_:(∀ p∈ps,gO K 250 p.1)) (_:(ps.map (·.1)).Nodup) (_:g=(fun ρ a b=>e (rR ρ ps a b))) (_:jy w gk ps (D8 ps++Γ) e m f i Z cl):AD w gk Γ k g m f i Z cl
theorem AD.mono {k:Nat}{g:Ev->Int->Int->Int}:jL (AD w gk Γ k g m f i):=fun _ _ _ l ⟨K,ps,e,h1,h2,h3,h4,h5,h6,h7,h8⟩=>⟨K,ps,e,h1,h2,h3,h4,h5,h6,h7,jy.mono _ _ _ l h8⟩
structure FX (w:World)(Γ:List (Str×cU))(k:Nat)(g:Ev->Int->Int->Int)(m s f i q:Nat)(Z:a8)(v:Addr):Prop where
 val:∀ c ρ Z' P7 d,Z.le Z'->Z' d=some (.dct P7)->kn w .src Γ c ρ Z' P7->P7.length+m<=890->RT w 3 aw [.ref v,.ref d] (ir w .src k c (m+1) (g ρ)) Z'
 lam:∃ p b,sm Z v p b
 mkc:∀ gk,ii gk->gR w q s ba (.ref v) gk (eF (AD w gk Γ k g m f i)) Z
theorem Dc {x:Str}{t:Tok}{k:Nat}{g:Ev->Int->Int->Int}(hg:ii gk)(h8:d5 m f i)(hz:Z tp=some (.tup [.str x t,.ref cl]))(h:AD w gk Γ k g m f i Z cl):∃ r:ik,r.tp=tp/\r.x=x/\r.m=cl/\pD w Γ m f i (VF w k g (m+1)) Z r:=by
 obtain ⟨K,ps,e,h1,h2,h3,h4,h5,h6,rfl,h9⟩:=h;rcases h4 with rfl | rfl
 ·refine oE (uo h3.symm) fun TC Qt=>?_;obtain ⟨p,u⟩:=TC;subst Qt;exact Fk hg h1 h8.2.1 h8.1 h8.2.2 hz (h5 _ (.head _)) h2 h9
 ·refine kC (A1 h3.symm) fun z_6 Xp Sn=>?_;obtain ⟨p,u⟩:=z_6;obtain ⟨p2,u2⟩:=Xp;subst Sn;exact Fl hg h1 h8.2.1 h8.1 h8.2.2 hz (h5 _ (.head _)) (h5 _ (.tail _ (.head _))) (by simpa using h6) h2 h9
theorem Fo {x:Str}{t:Tok}{k:Nat}{g:Ev->Int->Int->Int}(hg:ii gk)(hΓ:Sc K Γ)(hK:100<=K/\K < 300)(hx:gO K 250 x)(h8:d5 m1 f1 i1)(h:ze x t (AD w gk Γ k g m1 f1 i1) (im w ((x,.fn k (m1+1))::Γ) (IV e2) m2 f2 i2) Z S):im w Γ (IV fun ρ=>e2 (ρ.setF x (g ρ))) (m1+m2+7) (f1+f2+18) (i1+i2+20) Z S:=by obtain ⟨l,b,tp,cl,hf,Sp,QH,Sb⟩:=h;have ⟨_,hz⟩:=zv (r:=⟨tp,x,t,0,0,0,0,true,[],0,[],[]⟩) hf rfl;refine sV (Dc hg h8 hz Sp) fun r Vf So U6 hr=>?_;subst Vf;subst So;subst U6;refine oA (zv hf rfl) fun hL U=>?_;have Qn:=hΓ.fresh hx (.inl ll) hK.2 OV;have hB:∀ r'∈[r],xT w (Γ.map (·.1)) ([r].map (·.x)) (i1+i2+20) Z r':=fZ (hr.b _ lw);refine ⟨_,(jg (xs:=[r.x]) (mb:=m1+m2+3) (flb:=QH) (by show 1<=3;exact cZ) hL hB (fZ (cF Qn hx.gl hx.Mg)) (by simp) (fun U U U U U U p=>p) fun Z' P7 as c ρ d2 gd gr l has hd he Q6 Qg hc PI hlen=>?_),(pU (F:=f1+6) (I:=i1) (by show 1<=3;exact cZ) hL hB (by show r.fs.length+6+0<=_;have:=hr.fn;exact aJ this) (by show r.i+0<=_;have:=hr.ri;exact aJ this) Sb.sb).le (.refl _) (cZ) lw⟩;refine oE (uo has.symm) fun a U7=>?_;subst U7;refine oA (Qg _ (List.mem_singleton.mpr rfl)) fun h1 h2=>?_;have QC:∀ {fl},(∀ x∈fl,x∈gU [r]++QH)->bc w .stg Γ fl c ρ Z' (eA P7 [r] ([a].map .ref)):=fun hs=>Q6.thin (fZ Qn) hs;have hV:=hr.sem Z' _ gr gd c ρ a l h2 he (QC fun x hx=>List.mem_append_left _ (List.mem_flatMap.mpr (bw r (.head _) hx))) hc (aJ PI);have:=Sb.worth c (ρ.setF r.x (g ρ)) Z' _ d2 gd gr l hd he ((QC (fl:=wo [r.x] QH) fun x hx=>List.mem_append_right _ (List.mem_filter.mp hx).1).add h1 Qn D7 (by unfold jN;rw [Ev.setF_f];exact hV)) hc (aJ PI) lw;exact this.le (.refl _) lw
theorem Fp {a b l:Addr}{x:Str}{t:Tok}{k:Nat}{g:Ev->Int->Int->Int}(hv:ac [.ref v,.ref b,.ref l,.ref tp,.str x t,.ref a,.bool rb] Z w5)(hΓ:Sc K Γ)(hK:100<=K/\K < 300)(hx:gO K 250 x)(h8:d5 m1 f1 i1)(ha:FX w Γ k g m1 s1 f1 i1 (q+3) Z a)(hb:CX w ((x,.fn k (m1+1))::Γ) e2 m2 s2 f2 i2 q Z b):
  CX w Γ (fun ρ=>e2 (ρ.setF x (g ρ))) (m1+m2+11) (s1+s2) (f1+f2+18) (i1+i2+20) (q+6) Z v where
 val:=fun c ρ Z' P7 d l hd hr PI hlen=>by have Qn:=hΓ.fresh hx (.inl ll) hK.2 OV;refine (w6 (c:=c+m1+m2+3) (hv.ext (.refl _) l) hd lw (fun Z1 d' l1 l2 Q8 PY=>?_) fun U U U U p=>p).le (.refl _) (cZ);have l':=l.trans l2;have hz:=@aG P7 x (.ref l1);have hR:kn w .src Γ (c+3) ρ Z1 (stored P7 x (.ref l1)):=fun p hp=>let ⟨u,h1,h2⟩:=hr p hp;(bw u ((bH (Qn p hp)).trans h1) (h2.le l2 lw));have h1:=ha.val (c+3) ρ Z1 _ d' l' Q8 hR (bo hlen hz);exact (hb.val (c+3) (ρ.setF x (g ρ)) Z1 _ d' l' Q8 (hR.add bD Qn D7 (by unfold jN;rw [Ev.setF_f];exact bR l1 a d' rfl PY (h1.le (.refl _) lw))) (aJ PI) (bo hlen hz)).le (.refl _) (cZ)
 mkc:=fun gk hg=>(zh hv (ha.mkc gk hg) ((hb.mkc gk hg).le (.refl _) lw) AD.mono im.mono).up (fun Z' r _ ⟨S,e,p⟩=>⟨S,e,(Fo hg hΓ hK hx h8 p).up lw ll ll⟩) lw ll
 at':=.oth _ (fh hv.1) OV
variable {K1:Nat}
theorem MQ {l b Ti : Addr}{x y:Str}{t u:Tok}{r r2:ik}(h:ac [.ref S,.ref l,.ref b,.ref tp,.str x t,.ref cl,.ref PT,.str y u,.ref Ti] Z mF)(hr:r.tp=tp)(Ra:r2.tp=PT):mH Z [r,r2] b S:=by subst hr Ra;exact .inr (jv (by simp) S l rfl (h.sl [0,1,2]) h.2.1.lv)
noncomputable abbrev Go (x y:Str)(e1 e2 e3:Ev->Int):Ev->Int:=fun ρ=>e3 ((ρ.setI x (e1 ρ)).setI y (e2 (ρ.setI x (e1 ρ))))
theorem Fq {x y:Str}(hg:ii gk)(hΓ:Sc K Γ)(hK:100<=K/\K<=K1/\K1 < 300)(hx:gO K K1 x)(hy:gO K1 250 y)(h8:d5 m1 f1 i1)(h9:d5 m2 f2 i2)(h:CZ y ty x tx (jy w gk [] ((x,.int)::Γ) e2 m2 f2 i2) (jy w gk [] Γ e1 m1 f1 i1) (im w ((y,.int)::(x,.int)::Γ) (IV e3) m3 f3 i3) Z S):im w Γ (IV (Go x y e1 e2 e3)) (m1+m2+m3+10) (f1+f2+f3+24) (i1+i2+i3+20) Z S:=by
 obtain ⟨l,b,tp,cl,PT,Ti,hf,Sp,XQ,Un,Zd⟩:=h;have VG:=hf.2.2.1.tv (ys:=[.str y ty,.ref cl]) (a:=tp);have Q3:=hf.2.2.2.1.tv (ys:=[.str x tx,.ref Ti]) (a:=PT);have Wj:Sc K1 ((x,.int)::Γ):=hΓ.cons hK.2.1 (let ⟨b,k,h0,h1,h2,h3⟩:=hx;⟨b,k,h0,h1,by lia,h3⟩);refine sV (pT hg Wj h9.2.1 h9.1 h9.2.2 VG Sp) fun ry PL PZ PQ UR=>?_;subst PL;subst PZ;subst PQ;refine sV (pT hg hΓ h8.2.1 h8.1 h8.2.2 Q3 XQ) fun rx Q4 Qu Qt Wl=>?_;subst Q4;subst Qu;subst Qt;have hL:=MQ (r:=ry) (r2:=rx) hf rfl rfl;have Qx:=hΓ.fresh hx (.inl ll) (by lia) (by lia);have Qy:=Wj.fresh hy (.inl ll) (by lia) OV;have US:∀ p∈Γ,p.1≠ry.x:=fun p hp=>Qy p (.tail _ hp);have Ui:rx.x≠ry.x:=Qy _ (.head _);have hB:∀ r'∈[ry,rx],xT w (Γ.map (·.1)) ([ry,rx].map (·.x)) (i1+i2+i3+20) Z r':=kO ⟨UR.ok,fun z hz=>ub (UR.sub z hz) fun a b c=>⟨(OY a).elim (fun e=>.inr (e▸.tail _ (.head _))) .inl,c⟩,fun u hu=>(UR.right u hu).le (.refl _) lw⟩ (fZ (Wl.b _ lw));refine ⟨_,(jg (xs:=[]) (mb:=m1+m2+m3+6) (flb:=Un) (by show 2<=3;exact cZ) hL hB (kO ⟨US,hy.gl,hy.Mg⟩ (fZ ⟨Qx,hx.gl,hx.Mg⟩)) (by simp [Ne.symm Ui]) (fun U U U U U U p=>p) fun Z' P7 as c ρ d2 gd gr l has hd he Q6 Qg hc PI hlen=>?_),((pU (F:=f1+f2+12) (I:=i1+i2) (by show 2<=3;exact cZ) hL hB (by show ry.fs.length+6+(rx.fs.length+6+0)<=_;have:=Wl.fn;have:=UR.fn;lia) (by show ry.i+(rx.i+0)<=_;have:=Wl.ri;have:=UR.ri;lia) Zd.sb).le (.refl _) (cZ) lw)⟩;refine kC (A1 has.symm) fun ay ax R5=>?_;subst R5;refine oA (Qg (ry,ay) (.head _)) fun h1 h2=>?_;refine oA (Qg (rx,ax) (.tail _ (.head _))) fun h3 h4=>?_;have QC:∀ {fl},(∀ x∈fl,x∈gU [ry,rx]++Un)->bc w .stg Γ fl c ρ Z' (eA P7 [ry,rx] ([ay,ax].map .ref)):=fun hs=>Q6.thin (kO US (fZ Qx)) hs;have hVx:=Wl.sem Z' _ gr gd c ρ ax l h4 he (QC fun z hz=>List.mem_append_left _ (List.mem_flatMap.mpr ⟨rx,.tail _ (.head _),hz⟩)) hc (aJ PI)
 have VQ:∀ {fl},(∀ x∈fl,x∈gU [ry,rx]++Un)->bc w .stg ((rx.x,.int)::Γ) fl (c+m1+3) (ρ.setI rx.x (e1 ρ)) Z' (eA P7 [ry,rx] ([ay,ax].map .ref)):=fun {fl} hs=>((QC (fl:=wo [rx.x] fl) fun z hz=>hs z (List.mem_filter.mp hz).1).le (.refl _) lw).add h3 Qx d7 (by unfold jN;rw [Ev.setI_i];exact hVx)
 have hVy:=UR.sem Z' _ gr gd (c+m1+3) (ρ.setI rx.x (e1 ρ)) ay l h2 he (VQ fun z hz=>List.mem_append_left _ (List.mem_flatMap.mpr ⟨ry,.head _,hz⟩)) lw (aJ PI);have:=Zd.worth (c+m1+3+m2+3) ((ρ.setI rx.x (e1 ρ)).setI ry.x (e2 (ρ.setI rx.x (e1 ρ)))) Z' _ d2 gd gr l hd he (((VQ (fl:=wo [ry.x] Un) fun z hz=>List.mem_append_right _ (List.mem_filter.mp hz).1).le (.refl _) lw).add h1 Qy d7 (by unfold jN;rw [Ev.setI_i];exact hVy)) lw (aJ PI) lw;exact this.le (.refl _) (cZ)
theorem Fr {a1 a2 b l : Addr}{x y:Str}(hv:ac [.ref v,.ref b,.ref l,.ref tp,.str y ty,.ref a2,.ref PT,.str x tx,.ref a1,.bool rb] Z yV)(hΓ:Sc K Γ)(hK:100<=K/\K<=K1/\K1 < 300)(hx:gO K K1 x)(hy:gO K1 250 y)(h8:d5 m1 f1 i1)(h9:d5 m2 f2 i2)(ha:CX w Γ e1 m1 s1 f1 i1 q Z a1)(Rt:CX w ((x,.int)::Γ) e2 m2 s2 f2 i2 q Z a2)(hb:CX w ((y,.int)::(x,.int)::Γ) e3 m3 s3 f3 i3 q Z b)(hq:f1+8<=q)(RQ:f2+8<=q):
  CX w Γ (Go x y e1 e2 e3) (m1+m2+m3+10) (s1+s2+s3) (f1+f2+f3+24) (i1+i2+i3+20) (q+6) Z v where
 val:=fun c ρ Z' P7 d l hd hr PI hlen=>by
  have Wj:Sc K1 ((x,.int)::Γ):=hΓ.cons hK.2.1 (let ⟨b,k,h0,h1,h2,h3⟩:=hx;⟨b,k,h0,h1,by lia,h3⟩);have Qx:=hΓ.fresh hx (.inl ll) (by lia) (by lia);have Qy:=Wj.fresh hy (.inl ll) (by lia) OV;refine (Cy (c:=c+m1+m2+m3) (hv.ext (.refl _) l) hd lw (fun Z1 d' l1 l2 l3 Q8 PY Qh=>?_) fun U U U U p=>p).le (.refl _) (cZ);have l':=l.trans l3;have hz:=@aG P7 y (.ref l1);have Q3:=@aG (stored P7 y (.ref l1)) x (.ref l2);have hR:kn w .src Γ c ρ Z1 (stored (stored P7 y (.ref l1)) x (.ref l2)):=fun p hp=>bM (hr p hp) fun u h1 h2=>(bw u ((bH (Qx p hp)).trans ((bH (Qy p (.tail _ hp))).trans h1)) (h2.le l3 ll))
  have h1:=ha.val c ρ Z1 _ d' l' Q8 hR (aJ PI) (ja hlen hz Q3);have RG:=(hR.le (.refl _) (Pq c m1)).add (k:=.int) (ρ':=ρ.setI x (e1 ρ)) bD Qx d7 (by unfold jN;rw [Ev.setI_i];exact .inr (bR l2 a1 d' rfl Qh h1));have h2:=Rt.val (c+m1) _ Z1 _ d' l' Q8 RG (aJ PI) (ja hlen hz Q3);have Vk:=(RG.le (.refl _) (Pq (c+m1) m2)).add (k:=.int) (ρ':=(ρ.setI x (e1 ρ)).setI y (e2 (ρ.setI x (e1 ρ)))) ((bH (Ne.symm (Qy _ (.head _)))).trans bD) Qy d7 (by unfold jN;rw [Ev.setI_i];exact .inr ⟨l1,a2,d',rfl,PY,h2⟩);exact (hb.val (c+m1+m2) _ Z1 _ d' l' Q8 Vk (aJ PI) (ja hlen hz Q3)).le (.refl _) lw
 mkc:=fun gk hg=>(Ff hv (Rt.clo RQ h9.1 hg) (ha.clo hq h8.1 hg) ((hb.mkc gk hg).le (.refl _) lw) jy.mono jy.mono im.mono).up (fun Z' r _ ⟨S,e,p⟩=>⟨S,e,Fq hg hΓ hK hx hy h8 h9 p⟩) lw (cZ)
 at':=.oth _ (fh hv.1) OV
variable {k M:Nat}
abbrev Dd:=Nat->Ev->a8->KV->Prop
structure lJ (w:World)(Γ:List (Str×cU))(M f i:Nat)(b:Str)(Z:a8)(rs:List ik)(o:Option Str)(Sem:Dd):Prop where
 len:rs.length<=1
 g:∀ r∈rs,(∃ m V,pD w Γ m f i V Z r)/\∃ j,j<=100/\r.x=nm b j
 on:∀ y,o=some y->y∈Γ.map (·.1)\/y∈rs.map (·.x)
 sem:∀ fl Z' PA gr gd c ρ,Z.le Z'->lH gd gr PA Z'->bc w .stg Γ fl c ρ Z' PA->(∀ y,o=some y->y∈fl\/y∈rs.map (·.x))->(∀ x∈gU rs,x∈fl)->(∀ r∈rs,∃ a,valueAt PA r.x=some (.ref a)/\pC Z' gr PA gd r.m r.fs a)->3<=c->c+M<=600->Sem c ρ Z' PA
theorem zw {b:Str}:lJ w Γ M f i b Z [] none fun U U U U=>True:=⟨Nat.zero_le _,nF,(fun U h=>nomatch h),fun U U U U U U U U U U U U U U U=>OU⟩
theorem Fs {b b':Str}{j : Nat}(h:b.length=1)(h':b'.length=1)(e:nm b j=nm b' j'):b=b':=by
 obtain ⟨⟨l⟩⟩:=b;obtain ⟨⟨l'⟩⟩:=b';refine oE (uo (l:=l) h.symm) fun c y=>oE (uo (l:=l') h'.symm) fun c' y'=>?_;subst y y';have h1:(nm ⟨⟨[c]⟩⟩ j).cps.toList=c::46::(jJ j).cps.toList:=by show ((#[c]++ #[46])++(jJ j).cps).toList=_;rw [Array.toList_append];rfl
 have h2:(nm ⟨⟨[c']⟩⟩ j').cps.toList=c'::46::(jJ j').cps.toList:=by show ((#[c']++ #[46])++(jJ j').cps).toList=_;rw [Array.toList_append];rfl
 rw [e,h2] at h1;rw [(List.cons.inj h1).1]
theorem wp:∀ {rs:List ik},(∀ r∈rs,r.fs.length<=f)->mv rs<=rs.length*(f+6)
 | [],_=>Nat.zero_le _
 | r::rs,h=>by have h1:=h r (.head _);have h2:=wp fun r hr=>h r (.tail _ hr);unfold mv at*;rw [List.map_cons,List.sum_cons,List.length_cons,Nat.succ_mul];exact bo h1 h2
theorem wq:∀ {rs:List ik},(∀ r∈rs,r.i<=i)->kJ rs<=rs.length*i
 | [],_=>Nat.zero_le _
 | r::rs,h=>by have h1:=h r (.head _);have h2:=wq fun r hr=>h r (.tail _ hr);unfold kJ at*;rw [List.map_cons,List.sum_cons,List.length_cons,Nat.succ_mul];exact bo h1 h2
theorem rT {b0 b1 b2:Str}{QL QM QN:List ik}{o0 o1 : Option Str}{S0 S1 S2:Dd}{mb:Nat}{VR:List Str}(h0:lJ w Γ M f i b0 Z QL o0 S0)(h1:lJ w Γ M f i b1 Z QM o1 S1)(h2:lJ w Γ M f i b2 Z QN o2 S2)(RU:b0.length=1)(VS:b1.length=1)(Rj:b2.length=1)
  (hΓ:Sc K Γ) (hK:K < 300) (nd:((QL++(QM++QN)).map (·.x)).Nodup) (hL:mH Z (QL++(QM++QN)) S v) (hS:SB w ((QL++(QM++QN)).map (·.x)++Γ.map (·.1)) 11 8 VR Z S) (Th:∀ y,o0=some y\/o1=some y\/o2=some y->y∈VR) (hM:M<=mb)
  (hP:∀ c ρ Z Z' v,Z.le Z'->P c ρ Z v->P c ρ Z' v)
  (body:∀ Z' PA c ρ d2,Z.le Z'->Z' d2=some (.dct PA)->S0 c ρ Z' PA->S1 c ρ Z' PA->S2 c ρ Z' PA->3<=c->c+mb<=596->PA.length+mb<=899->RT w (c+mb) aC [.ref S,.ref d2] (P c ρ) Z'):
  im w Γ P (mb+4) (3*(f+6)+23) (3*i+28) Z v:=by
 have hlen:(QL++(QM++QN)).length<=3:=by have:=h0.len;have:=h1.len;have:=h2.len;simp only [List.length_append];lia
 have hG:∀ r∈QL++(QM++QN),(∃ m V,pD w Γ m f i V Z r)/\∃ b j,b.length=1/\j<=100/\r.x=nm b j:=fun r hr=>by
  rcases OX hr with hr | hr
  ·refine kM (h0.g r hr) fun a j b c=>?_;exact jv a b0 j RU b c
  ·rcases OX hr with hr | hr
   ·refine kM (h1.g r hr) fun a j b c=>?_;exact jv a b1 j VS b c
   ·refine kM (h2.g r hr) fun a j b c=>?_;exact jv a b2 j Rj b c
 have hB:∀ r∈QL++(QM++QN),xT w (Γ.map (·.1)) ((QL++(QM++QN)).map (·.x)) (3*i+8+20) Z r:=fun r hr=>let ⟨⟨m,V,g⟩,_⟩:=hG r hr;g.b _ (cZ)
 have Qn:∀ r∈QL++(QM++QN),(∀ p∈Γ,p.1≠r.x)/\r.x≠aM/\r.x≠bj:=fun r hr=>by refine o4 (hG r hr) fun U b j h1 h2 h3=>?_;rw [h3];exact ⟨hΓ.fr hK h1 h2,Ok h1⟩
 have XR:∀ x∈(QL++(QM++QN)).map (·.x),∀ p∈Γ,p.1≠x:=fun x hx=>by refine bM (Pa hx) fun r hr PQ=>?_;subst PQ;exact (Qn r hr).1
 refine ⟨_,jg (xs:=[]) (mb:=mb) (flb:=VR) hlen hL hB Qn nd hP fun Z' P7 as c ρ d2 gd gr l has hd he Q6 Qg hc PI VT=>?_,(pU (F:=3*(f+6)) (I:=3*i) hlen hL hB ?_ ?_ hS).le (.refl _) lw lw⟩
 ·have Ra:bc w .stg Γ (gU (QL++(QM++QN))++VR) c ρ Z' (eA P7 (QL++(QM++QN)) (as.map .ref)):=Q6.thin XR fun U h=>h
  have SE:∀ r∈QL++(QM++QN),∃ a,valueAt (eA P7 (QL++(QM++QN)) (as.map .ref)) r.x=some (.ref a)/\pC Z' gr (eA P7 (QL++(QM++QN)) (as.map .ref)) gd r.m r.fs a:=fun r hr=>by
   obtain ⟨n,hn,rfl⟩:=List.mem_iff_getElem.mp hr;have YA:n < as.length:=by rw [has];exact hn
   have:((QL++(QM++QN))[n],as[n])∈(QL++(QM++QN)).zip as:=List.mem_iff_getElem.mpr ⟨n,by rw [List.length_zip];lia,by rw [List.getElem_zip]⟩;exact ⟨_,Qg _ this⟩
  have Uo:∀ {Ze},(∀ r∈Ze,r∈QL++(QM++QN))->∀ x∈gU Ze,x∈gU (QL++(QM++QN))++VR:=fun h x hx=>by refine bM (List.mem_flatMap.mp hx) fun r hr hx=>?_;exact List.mem_append_left _ (List.mem_flatMap.mpr (bw r (h r hr) hx))
  have m0:∀ r∈QL,r∈QL++(QM++QN):=fun r hr=>List.mem_append_left _ hr;have m1:∀ r∈QM,r∈QL++(QM++QN):=fun r hr=>List.mem_append_right _ (List.mem_append_left _ hr);have m2:∀ r∈QN,r∈QL++(QM++QN):=fun r hr=>List.mem_append_right _ (List.mem_append_right _ hr)
  exact body Z' _ c ρ d2 l hd (h0.sem _ Z' _ gr gd c ρ l he Ra (fun y hy=>.inl (List.mem_append_right _ (Th y (.inl hy)))) (Uo m0) (fun r hr=>SE r (m0 r hr)) hc (bo hM PI))
   (h1.sem _ Z' _ gr gd c ρ l he Ra (fun y hy=>.inl (List.mem_append_right _ (Th y (.inr (.inl hy))))) (Uo m1) (fun r hr=>SE r (m1 r hr)) hc (bo hM PI))
   (h2.sem _ Z' _ gr gd c ρ l he Ra (fun y hy=>.inl (List.mem_append_right _ (Th y (.inr (.inr hy))))) (Uo m2) (fun r hr=>SE r (m2 r hr)) hc (bo hM PI)) hc PI VT
 ·refine Pg (wp fun r hr=>?_) (Nat.mul_le_mul_right _ hlen);refine oA (hG r hr) fun TG U=>?_;refine kC TG fun m V g=>?_;exact g.fn
 ·refine Pg (wq fun r hr=>?_) (Nat.mul_le_mul_right _ hlen);refine oA (hG r hr) fun TC U=>?_;refine kC TC fun m V g=>?_;exact g.ri
variable {a:Addr}{N N':Str->Nat}{bs:LV}
def rU (w:World)(Γ:List (Str×cU))(e:Ev->Int)(m f i:Nat):AK->Prop
 | .var x=>(∃ kd,(x,kd)∈Γ/\(kd=.int\/kd=.val))/\e=fun ρ=>ρ.i x
 | .lit n=>e=fun U=>n
 | .th PB=>PB=SG w Γ (IV e) m f i
abbrev Ol (w:World)(e:Ev->Int)(m:Nat)(a:Addr):Dd:=fun c ρ Z' PA=>∃ u,nz Z' a PA u/\TH w .stg (c+m+3) (e ρ) Z' u
abbrev HR (w:World)(k:Nat)(g:Ev->Int->Int->Int)(K:Nat)(h:Str):Dd:=fun c ρ Z' PA=>∃ u,valueAt PA h=some u/\uP w c (ir w .stg k c K (g ρ)) Z' u .stg
theorem lK {k:AK}(hg:ii gk)(hΓ:Sc K Γ)(h8:d5 m f i)(hk:rU w Γ e m f i k)(hN:∀ PB,k=.th PB->N mf+1<=100)(h:AP gk N Z a bs k):∃ (rs:List ik) (o:Option Str),rs.map (fun r=>Value.ref r.tp)=bs/\(∀ r∈rs,r.x=nm mf (N mf+1)/\∃ PB,k=.th PB)/\cg Z a o/\lJ w Γ m f i mf Z rs o (Ol w e m a):=by
 cases k with
 | var x=>refine oA h fun h1 PL=>?_;clear h;subst PL;refine oA hk fun QI PQ=>?_;clear hk;refine bM QI fun kd hx R8=>?_;clear QI;subst PQ;refine o6 [] (some x) rfl nF h1 ⟨Nat.zero_le _,nF,(fun y hy=>by cases hy;exact .inl (Pb (bw _ hx rfl))),fun fl Z' PA gr gd c ρ l he hr ho hf U hc PI=>?_⟩;refine bM (hr _ hx (.inl ((ho x rfl).elim id fun h=>nomatch h))) fun u h3 h4=>?_;exact bw u (.inr (bw x (show cg Z' a (some x) from cg.le (o:=some x) l h1) h3)) ((xU R8 h4).le (.refl _) lw)
 | lit n=>refine oA h fun TG Qu=>?_;clear h;refine oE TG fun t h1=>?_;clear TG;subst Qu;obtain rfl:=hk;exact o6 [] none rfl nF (wu n t h1) ⟨Nat.zero_le _,nF,(fun y hy=>nomatch hy),fun fl Z' PA gr gd c ρ l he hr ho hf U hc PI=>bw (.int n t) (.inl (me n t rfl (h1.ext (.refl _) l))) (.inl ⟨t,rfl⟩)⟩
 | th PB=>refine fq h fun tp cl t h1 Qt Vj=>?_;clear h;refine oA Vj fun hz hc=>?_;clear Vj;subst Qt;obtain rfl:=hk;have hj:=hN _ rfl;refine sV (pT hg hΓ h8.2.1 h8.1 h8.2.2 hz hc) fun r Te hx Sn hr=>?_;subst Te;subst Sn;refine o6 [r] (some (nm mf (N mf+1))) rfl (fZ ⟨hx,_,rfl⟩) h1 ⟨Pm _,fZ (mU (wu _ _ hr) _ hj hx),(fun y hy=>by cases hy;exact .inr (hx▸.head _)),fun fl Z' PA gr gd c ρ l he Ra ho hf Qg hc PI=>?_⟩;refine bM (Qg r (.head _)) fun b h3 h4=>?_;exact bw (.ref b) (.inr (bw _ (show cg Z' a (some _) from cg.le (o:=some _) l h1) (hx▸h3))) (hr.sem Z' PA gr gd c ρ b l h4 he (Ra.sub fun x hx=>hf x (List.mem_flatMap.mpr (bw r (.head _) hx))) hc PI)
theorem De {h:Str}{k K:Nat}(hx:(h,.fn k K)∈Γ):lJ w Γ M f i nH Z [] (some h) (HR w k (fun ρ=>ρ.f h) K h):=⟨Nat.zero_le _,nF,(fun y hy=>by cases hy;exact .inl (Pb (bw _ hx rfl))),fun fl Z' PA gr gd c ρ l he hr ho hf U hc PI=>hr _ hx (.inl ((ho h rfl).elim id fun h=>nomatch h))⟩
theorem Df {k j:Nat}{t:Tok}{g:Ev->Int->Int->Int}(hg:ii gk)(h8:d5 m f i)(hz:Z tp=some (.tup [.str (nm nH j) t,.ref cl]))(h:AD w gk Γ k g m f i Z cl)(hj:j<=100):∃ r:ik,r.tp=tp/\r.x=nm nH j/\lJ w Γ m f i nH Z [r] (some (nm nH j)) (HR w k g (m+1) (nm nH j)):=by refine sV (Dc hg h8 hz h) fun r Vf hx So hr=>?_;subst Vf;subst So;refine iG r rfl hx ⟨Pm _,fZ (mU (wu _ _ hr) j hj hx),(fun y hy=>by cases hy;exact .inr (hx▸.head _)),fun fl Z' PA gr gd c ρ l he Ra ho hf Qg hc PI=>?_⟩;refine bM (Qg r (.head _)) fun b h3 h4=>?_;exact bw (.ref b) (hx▸h3) (hr.sem Z' PA gr gd c ρ b l h4 he (Ra.sub fun x hx=>hf x (List.mem_flatMap.mpr (bw r (.head _) hx))) hc PI)
theorem pD.up {V:Nat->Ev->a8->Value->Prop}{r:ik}{m' f' i':Nat}(h:pD w Γ m f i V Z r)(hm:m<=m')(hf:f<=f')(hi:i<=i'):pD w Γ m' f' i' V Z r:=⟨h.ok,Pg h.ri hi,Pg h.fn hf,h.sub,fun v hv=>(h.right v hv).le (.refl _) lw,fun Z' PA gr gd c ρ a l h1 h2 h3 h4 h5=>h.sem Z' PA gr gd c ρ a l h1 h2 h3 h4 lw⟩
theorem lJ.up {b:Str}{o:Option Str}{Sm:Dd}{M' f' i':Nat}(h:lJ w Γ M f i b Z rs o Sm)(hm:M<=M')(hf:f<=f')(hi:i<=i'):lJ w Γ M' f' i' b Z rs o Sm:=⟨h.len,fun r hr=>let ⟨⟨m,V,g⟩,x⟩:=h.g r hr;⟨(wu m V (g.up ll hf hi)),x⟩,h.on,fun fl Z' PA gr gd c ρ l h1 h2 h3 h4 h5 h6 h7=>h.sem fl Z' PA gr gd c ρ l h1 h2 h3 h4 h5 h6 lw⟩
theorem Om {α:Type}:∀ {l0 l1 l2:List α},l0.length<=1->l1.length<=1->l2.length<=1->(∀ x∈l0,∀ y∈l1,x≠y)->(∀ x∈l0,∀ y∈l2,x≠y)->(∀ x∈l1,∀ y∈l2,x≠y)->(l0++(l1++l2)).Nodup:=fun {l0 l1 l2} h0 h1 h2 h3 h4 h5=>by
 have one:∀ {l:List α},l.length<=1->l.Nodup:=fun {l} h=>match l,h with
  | [],_=>List.nodup_nil
  | [a],_=>by simp
 refine List.nodup_append.mpr (cF (one h0) (List.nodup_append.mpr (cF (one h1) (one h2) h5)) (fun x hx y hy=>?_));rcases OX hy with hy | hy
 ·exact h3 x hx y hy
 ·exact h4 x hx y hy
theorem zb.up{k:AK}(x:zb w n sz v gk k Z)(hn:n<=n')(hs:sz<=s'):zb w n' s' v gk k Z:=
 fun Z1 mk fn fr gd av nd bl P7 N bs l1 h1 h2 h3 h4 h5 B O Z2 led h Q i j QT l2 S e1 e2 q=>(x Z1 mk fn fr gd av nd bl P7 N bs l1 h1 h2 (fun b=>Pg (Nat.add_le_add_left hs _) (h3 b)) (Pg (Nat.add_le_add_left hs _) h4) h5 B O Z2 led h Q i j QT l2 S e1 e2 fun v Z3 h' c' d' l3 p S'=>q v Z3 h' c' d' l3 (by obtain ⟨PH,N',a,R9,e1,e2,e3,e4,r1,r2,r3⟩:=p;exact ⟨PH,N',a,R9,e1,e2,e3,e4.up' hs,r1,r2,r3⟩) S').le hn
theorem CX.atc (h:CX w Γ e m sz f i q Z v)(hg:ii gk)(hq:f+8<=q)(hf:f<=800):∃ k:AK,k.mono/\rU w Γ e m f i k/\zb w (q+6) (sz+1) v gk k Z:=by
 cases h.at' with
 | var x t kd h1 h2 h3 h4=>exact iG (.var x) OU ⟨(bw kd h2 h3),funext h4⟩ ((CT h1).up lw (Nat.zero_le _))
 | lit n t h1 h2=>exact iG (.lit n) OU (funext h2) ((CU h1).up lw (Nat.zero_le _))
 | oth C h1 h2=>exact iG (.th (SG w Γ (IV e) m f i)) SG.monoL rfl (ML h1 (kA C h2).2.1 (za h1 (kA C h2).2.2 ((h.mkc gk hg).up (fun Z' r _ ⟨S,e,fl,sg⟩=>⟨S,fl,e,sg.sb.free,sg.sb.fln,sg⟩) ll ll) hq hf SG.monoL) (aJ hq) fun U U U l p=>p.le SG.monoL l)
theorem Ft {N:List Str}{l:Addr}{x:Str}{t:Tok}{o:Option Str}(hv:ac [.ref S,.str x t,.ref l,.ref a] Z rA)(ha:cg Z a o)(h1:x∈N)(h2:∀ y,o=some y->y∈N):SB w N 11 8 ([x]++uB [o]) Z S:=
 ma (xu hv ha) (Ah hv ha) (by rw [List.length_append];have:=@jh [o];simp only [List.length_cons,List.length_nil] at *;exact aJ this) (by rw [List.length_append];have:=@jh [o];simp only [List.length_cons,List.length_nil] at *;exact aJ this) fun y hy=>by
  rcases OX hy with hy | hy
  ·obtain rfl:=List.mem_singleton.mp hy;exact ⟨List.mem_append_right _ hy,h1⟩
  ·exact ⟨List.mem_append_left _ hy,h2 y (by unfold uB at hy;simpa [eq_comm] using hy)⟩
theorem Fu {N:List Str}{l b:Addr}{x:Str}{t:Tok}{o : Option Str}(hv:ac [.ref S,.str x t,.ref l,.ref a,.ref b] Z rB)(ha:cg Z a o)(hb:cg Z b o2)(h1:x∈N)(h2:∀ y,o=some y->y∈N)(h3:∀ y,o2=some y->y∈N):SB w N 11 8 ([x]++uB [o,o2]) Z S:=
 ma (xw hv ha hb) (Ai hv ha hb) (by rw [List.length_append];have:=@jh [o,o2];simp only [List.length_cons,List.length_nil] at *;exact aJ this) (by rw [List.length_append];have:=@jh [o,o2];simp only [List.length_cons,List.length_nil] at *;exact aJ this) fun y hy=>by
  rcases OX hy with hy | hy
  ·obtain rfl:=List.mem_singleton.mp hy;exact ⟨List.mem_append_right _ hy,h1⟩
  ·exact ⟨List.mem_append_left _ hy,(xW.mp hy).elim (h2 y) (h3 y)⟩
theorem HS {N:List Str}{l b:Addr}{x:Str}{t:Tok}{o : Option Str}(hv:ac [.ref S,.str x t,.ref l,.ref a,.ref b] Z wb)(ha:cg Z a o)(hb:cg Z b o2)(h1:∀ y,o=some y->y∈N)(h2:∀ y,o2=some y->y∈N):SB w N 11 8 (uB [o,o2]) Z S:=ma (Ag hv ha hb) (CJ hv ha hb) (Pg jh (by symm;exact cZ)) (Pg jh (by symm;exact cZ)) fun y hy=>⟨hy,(xW.mp hy).elim (h1 y) (h2 y)⟩
variable {sH G:Nat}{b h:Addr}{g:Ev->Int->Int->Int}
inductive zx (w:World)(Γ:List (Str×cU))(k:Nat)(g:Ev->Int->Int->Int)(G M f i:Nat)(P:wk)(Z:a8)(v:Addr):Prop
 | mk (N N':Str->Nat) (bs:LV) (S al:Addr) (x:Str) (t:Tok) (rs:List ik) (_:mj (rs.map (fun r=>.ref r.tp)++bs) S Z (.ref v)) (_:ac [.ref S,.str x t,.ref al] Z rO) (_:lJ w Γ M f i nH Z rs (some x) (HR w k g G x)) (_:P N N' Z al bs) (_:∀ b,N' b<=100):zx w Γ k g G M f i P Z v
structure HX (w:World)(Γ:List (Str×cU))(k:Nat)(g:Ev->Int->Int->Int)(G M s f i q:Nat)(Z:a8)(h:Addr):Prop where
 val:∀ c ρ Z' P7 d,Z.le Z'->Z' d=some (.dct P7)->kn w .src Γ c ρ Z' P7->P7.length+M<=890->RT w (c+3) aw [.ref h,.ref d] (ir w .src k c G (g ρ)) Z'
 cls:∃ C,ig Z h C/\(C=fB\/C=dZ)
 mkc:∀ gk,ii gk->∀ (c sA:Nat) (v:Addr) (as:LV) (P:wk) (Z':a8),Z.le Z'->(∀ Qr,Z'.le Qr->RT w 5 dl [.ref v] (rN h as) Qr)->(∀ Qr al,Z'.le Qr->Qr al=some (.lst as)->sq w c sA al gk P Qr)->6<=c->q<=c->(∀ N N' Z Z' a bs,Z.le Z'->P N N' Z a bs->P N N' Z' a bs/\bs.length<=2)->gR w (c+3) (s+sA) dW (.ref v) gk (eF (zx w Γ k g G M f i P)) Z'
theorem mj.ref {r:Value}(h:mj bs S Z r):∃ a,r=.ref a:=by
 rcases h with ⟨_,rfl⟩ | ⟨_,a,l,rfl,_⟩
 ·exact ⟨_,rfl⟩
 ·exact ⟨_,rfl⟩
theorem Dg {x:Str}{t:Tok}(hh:ac [.ref h,.str x t] Z nr)(hx:(x,.fn k G)∈Γ):HX w Γ k (fun ρ=>ρ.f x) G M 0 f i q Z h where
 val:=fun c ρ Z' P7 d l hd hr hlen=>by refine bM (hr _ hx) fun u h1 h2=>?_;exact rn (hh.ext (.refl _) l) hd h1 h2 fun U U U l p=>p.le l ll
 cls:=bw _ (fh hh.1) (.inl rfl)
 mkc:=fun gk hg c sA v as P Z' l hf ha h6 hq hP=>(CW (C:=0) hf (hh.ext (.refl _) l) ha h6 hP).up (fun Z2 r _ ⟨N,N',bs,S,al,t,h1,h2,h3,h4⟩=>by refine oE h1.ref fun a PL=>?_;subst PL;exact ⟨a,rfl,N,N',bs,S,al,x,t,[],h1,h2,De hx,h3,h4⟩) ll lw
theorem Dh (h8:d5 m f i)(hm:m<=M)(hv:FX w Γ k g m sz f i q Z h):HX w Γ k g (m+1) M (sz+1) f i q Z h where
 val:=fun c ρ Z' P7 d l hd hr hlen=>(hv.val c ρ Z' P7 d l hd hr lw).le (.refl _) lw
 cls:=by refine kC hv.lam fun p b QI=>?_;obtain ⟨dx,h1,h2⟩:=QI;exact bw _ ⟨dx,_,h1,h2⟩ (.inr rfl)
 mkc:=fun gk hg c sA v as P Z' l hf ha h6 hq hP=>by
  refine kC hv.lam fun p b hl=>?_
  exact (CY hf (hl.le l) ((hv.mkc gk hg).le l hq) AD.mono ha h6 hP).up (fun Z2 r _ ⟨j,N,N',bs,S,al,tp,cl,t,t2,h1,h2,h3,h4,h5,h6,h7⟩=>by refine oE h1.ref fun a PQ=>?_;subst PQ;refine d6 (Df hg h8 h3 h4 h7) fun r Q4 hx hp=>?_;subst Q4;exact ⟨a,rfl,N,N',bs,S,al,_,t,[r],h1,h2,hp.up hm ll ll,h5,h6⟩) ll (cZ)
theorem AP.mono' {k:AK}(hk:k.mono):∀ N N' Z Z' (a:Addr) (bs:LV),Z.le Z'->(fun N N' Z al bs=>CV gk N N' Z al bs k) N N' Z a bs->(fun N N' Z al bs=>CV gk N N' Z al bs k) N N' Z' a bs/\bs.length<=2:=fun N N' Z Z' al bs l ⟨a,h1,h2,h3,h4⟩=>⟨⟨a,l _ _ h1,h2.le hk l,h3,h4⟩,lw⟩
theorem oG {k : AK}(hk:k.mono)(PG:k2.mono):∀ N N' Z Z' (a:Addr) (bs:LV),Z.le Z'->(fun N N' Z al bs=>Ao gk N N' Z al bs k k2) N N' Z a bs->(fun N N' Z al bs=>Ao gk N N' Z al bs k k2) N N' Z' a bs/\bs.length<=2:=fun N N' Z Z' al bs l ⟨a,a2,b,b2,M,e,h1,h2,h3,h4,h5,h6,h7⟩=>⟨⟨a,a2,b,b2,M,e,l _ _ h1,h2.le hk l,h3,h4.le PG l,h5,h6,h7⟩,by rw [e,List.length_append];exact bo h6 h7⟩
theorem Gp {j : Nat}:nm nH j≠nm mf j':=fun e=>absurd (Fs (by rfl) (by rfl) e) OV
theorem gh {P:Str->Prop}{rs:List ik}(h:∀ r∈rs,P r.x):∀ x∈rs.map (·.x),P x:=fun x hx=>by refine bM (Pa hx) fun r hr Qu=>?_;subst Qu;exact h r hr
theorem Di {k:AK}(hg:ii gk)(hΓ:Sc K Γ)(hK:K < 300)(h8:d5 M f i)(hk:rU w Γ e M f i k)(h:zx w Γ 1 g G M f i (fun N N' Z al bs=>CV gk N N' Z al bs k) Z v):im w Γ (IV fun ρ=>g ρ (e ρ) 0) (M+G+11) (3*(f+6)+23) (3*i+28) Z v:=by
 obtain ⟨N,N',bs,S,al,x,t,UT,hL,hS,hH,⟨a,hz,hA,Up,_⟩,hN⟩:=h;refine li (lK hg hΓ h8 hk (fun PB e=>by have:=Up.2 PB e;have:=hN mf;lia) hA) fun TJ o Qt hx VU hP=>?_;subst Qt;have hF:ac [.ref S,.str x t,.ref al,.ref a] Z rA:=cF (hS.1.ext ⟨_,rfl⟩ (.refl _)) ⟨al,_,rfl,hz,rfl,OU⟩ OU
 have QO:∀ {y},(y∈Γ.map (·.1)\/y∈UT.map (·.x))\/(y∈Γ.map (·.1)\/y∈TJ.map (·.x))->y∈(UT++(TJ++([]:List ik))).map (·.x)++Γ.map (·.1):=fun {y} h=>by simp only [List.append_nil,List.map_append,List.mem_append];rcases h with (h | h) | h | h<;>simp [h]
 refine rT hH hP (zw (b:=mf)) rfl rfl rfl hΓ hK ?_ ?_ (Ft hF VU (QO (.inl (hH.on _ rfl))) fun y hy=>QO (.inr (hP.on _ hy))) (fun y hy=>?_) (mb:=M+G+7) lw (fun U U U U U U p=>p) fun Z' PA c ρ d2 l hd y4_ y5_ U hc PI hlen=>bM y5_ fun u2 h3 h4=>bM y4_ fun u h1 h2=>?_
 ·rw [List.map_append,List.map_append];refine Om (by rw [List.length_map];exact hH.len) (by rw [List.length_map];exact hP.len) (Nat.zero_le _) (gh fun r hr=>gh fun r2 Ra=>?_) (fun U U U h=>nomatch h) (fun U U U h=>nomatch h);refine kM (hH.g r hr) fun U j U e=>?_;rw [e,(hx r2 Ra).1];exact Gp
 ·show mj _ S Z (.ref v);rw [List.append_nil,List.map_append];exact hL
 ·rcases hy with hy | hy | hy
  ·cases hy;exact .head _
  ·subst hy;exact .tail _ (List.mem_singleton.mpr rfl)
  ·exact nS hy
 ·refine (xo (c:=c+M+3+G) (PF:=ir w .stg 1 c G (g ρ)) (hF.ext (.refl _) l) h3 hd h1 (?_) (fun Z1 r Tj l1 pf Qf=>?_) (fun U U U l p=>p.le l ll) fun U U U U p=>p).le (.refl _) (cZ)
  ·obtain ⟨l',rfl,_,h2⟩:=h2;exact h2.le (.refl _) lw
  ·exact (show oe w .stg c G (fun x=>g ρ x 0) Z1 r from pf) (c+M+3) Z1 Tj u2 _ lw (aJ PI) (.refl _) Qf (h4.le l1 ll)
theorem wr {k : AK}(hg:ii gk)(hΓ:Sc K Γ)(hK:K < 300)(h8:d5 M f i)(hk:rU w Γ e1 M f i k)(PG:rU w Γ e2 M f i k2)(h:zx w Γ 2 g G M f i (fun N N' Z al bs=>Ao gk N N' Z al bs k k2) Z v):im w Γ (IV fun ρ=>g ρ (e1 ρ) (e2 ρ)) (M+G+11) (3*(f+6)+23) (3*i+28) Z v:=by
 obtain ⟨N,N',bs,S,al,x,t,UT,hL,hS,hH,⟨a,a2,b,b2,N1,rfl,hz,hA,Up,XS,RI,_⟩,hN⟩:=h;have XT:N1 mf<=N' mf:=RI.1 mf;have Tn:=hN mf;refine li (lK hg hΓ h8 hk (fun PB e=>by have:=Up.2 PB e;exact ja XT Tn this) hA) fun TJ o R5 hx VU hP=>?_;subst R5;refine li (lK hg hΓ h8 PG (fun PB e=>by have:=RI.2 PB e;exact bo Tn this) XS) fun VV o2 Te SU Uq Ur=>?_;subst Te;have hF:ac [.ref S,.str x t,.ref al,.ref a,.ref a2] Z rB:=cF (hS.1.ext ⟨_,rfl⟩ (.refl _)) ⟨al,_,rfl,hz,rfl,rfl,OU⟩ OU
 have QO:∀ {y},(y∈Γ.map (·.1)\/y∈UT.map (·.x))\/(y∈Γ.map (·.1)\/y∈TJ.map (·.x))\/(y∈Γ.map (·.1)\/y∈VV.map (·.x))->y∈(UT++(TJ++VV)).map (·.x)++Γ.map (·.1):=fun {y} h=>by simp only [List.map_append,List.mem_append];rcases h with (h | h) | (h | h) | (h | h)<;>simp [h]
 have QP:∀ {Zf:List ik},(∀ r∈Zf,∃ j,r.x=nm mf j)->∀ y∈UT.map (·.x),∀ z∈Zf.map (·.x),y≠z:=fun hX=>gh fun r hr=>gh fun r2 Ra=>by refine kM (hH.g r hr) fun U j U e=>?_;refine oE (hX r2 Ra) fun j2 e2=>?_;rw [e,e2];exact Gp
 refine rT hH hP Ur rfl rfl rfl hΓ hK ?_ ?_ (Fu hF VU Uq (QO (.inl (hH.on _ rfl))) (fun y hy=>QO (.inr (.inl (hP.on _ hy)))) fun y hy=>QO (.inr (.inr (Ur.on _ hy)))) (fun y hy=>?_) (mb:=M+G+7) lw (fun U U U U U U p=>p) fun Z' PA c ρ d2 l hd U8 U1 Xi hc PI hlen=>bM Xi fun u3 h5 h6=>bM U1 fun u2 h3 h4=>bM U8 fun u h1 h2=>?_
 ·rw [List.map_append,List.map_append];refine Om (by rw [List.length_map];exact hH.len) (by rw [List.length_map];exact hP.len) (by rw [List.length_map];exact Ur.len) (QP fun r hr=>⟨_,(hx r hr).1⟩) (QP fun r hr=>⟨_,(SU r hr).1⟩) (gh fun r hr=>gh fun r2 Ra=>?_);refine E1 (hx r hr) fun q1 PB q2=>?_;refine E1 (SU r2 Ra) fun q3 XU q4=>?_;have q5:=Up.2 PB q2;have q6:=RI.2 XU q4;rw [q1,q3];exact fun e=>by have:=rP (by rfl) (by rfl) (ja Tn q5 q6) (bo Tn q6) e;lia
 ·show mj _ S Z (.ref v);rw [List.map_append,List.map_append];exact hL
 ·rcases hy with hy | hy | hy
  ·cases hy;exact .head _
  ·exact .tail _ (xW.mpr (.inl hy))
  ·exact .tail _ (xW.mpr (.inr hy))
 ·refine (xp (c:=c+M+3+G) (PF:=ir w .stg 2 c G (g ρ)) (hF.ext (.refl _) l) h3 h5 hd h1 (?_) (fun Z1 r Tj l1 pf Qf=>?_) (fun U U U l p=>p.le l ll) fun U U U U p=>p).le (.refl _) (cZ)
  ·obtain ⟨l',rfl,_,h2⟩:=h2;exact h2.le (.refl _) lw
  ·exact (show wV w .stg c G (g ρ) Z1 r from pf).2 (c+M+3) Z1 Tj u2 u3 _ _ lw (aJ PI) (.refl _) Qf (h4.le l1 ll) (h6.le l1 ll)
variable {v2 l l2:Addr}
theorem uK{x y:SV}(h:bK (.ref v::ρ0) Z 0 (.obj gH [(kS,x),(br,y)])):∃ f0 a0 dx,Z v=some (.ins gH dx)/\Z dx=some (.att [(kS,f0),(br,a0)]):=by refine et (jM h) fun dx fv h1 h2 h3=>?_;refine et (ak.cons_r h3) fun Qs fv PZ e1 h4=>?_;obtain ⟨x1,y1⟩:=Qs;subst PZ;obtain ⟨⟨x2,y2⟩,fv,rfl,e2,h4⟩:=ak.cons_r h4;obtain rfl:=ak.nil_r h4;refine oA e1 fun PQ e1=>?_;subst PQ;refine oA e2 fun Q4 e2=>?_;subst Q4;exact yg _ _ dx h1 h2
theorem oe.at {x:Int}{r u:Value}{al:Addr}{G':Int->Int}(h:oe w s c G G' Z r)(Qf:Z al=some (.lst [u]))(hu:TH w s c' x Z u)(h1:c<=c')(h2:c'+G<=600):RT w (c'+G) bT [r,.ref al,.ref (oQ s)] (iH (G' x)) Z:=h c' Z al u x h1 h2 (.refl _) Qf hu
theorem CX.th (h:CX w Γ e M sz f i q Z a)(hl:Z.le Z'){d l1:Addr}(hd:Z' d=some (.dct P7))(hr:kn w .src Γ c ρ Z' P7)(h1:c+M<=600)(h2:P7.length+M<=900)(PY:Z' l1=some (.lst [.ref a,.ref d])):TH w .src (c+M) (e ρ) Z' (.ref l1):=.inr (bR l1 a d rfl PY (h.val c ρ Z' P7 d hl hd hr h1 h2))
theorem Dj (hv:ac [.ref v,.ref h,.ref a,.ref l] Z tD)(hΓ:Sc K Γ)(hK:K < 300)(h8:d5 M f i)(hh:HX w Γ 1 g G M sH f i (q+9) Z h)(ha:CX w Γ e M sz f i q Z a)(hq:f+8<=q):CX w Γ (fun ρ=>g ρ (e ρ) 0) (M+G+11) (sH+(sz+1)) (3*(f+6)+23) (3*i+28) (q+15) Z v where
 val:=fun c ρ Z' P7 d hl hd hr PI hlen=>by refine (rp (c:=c+M+G+3) (PF:=ir w .src 1 c G (g ρ)) (hv.ext (.refl _) hl) ((hh.val c ρ Z' P7 d hl hd hr (aJ hlen)).le (.refl _) lw) (fun Z1 r al l1 k1 pf Qf PY=>?_) (fun U U U l p=>p.le l ll) fun U U U U p=>p).le (.refl _) (cZ);exact ((show oe w .src c G (fun x=>g ρ x 0) Z1 r from pf).at Qf (ha.th (hl.trans k1) (k1 _ _ hd) (hr.le k1 ll) (aJ PI) lw PY) lw (aJ PI)).le (.refl _) lw
 mkc:=fun gk hg=>by refine kC (uK hv.1) fun f0 a0 Um=>?_;refine bM hh.cls fun C h1 h2=>?_;refine d6 (ha.atc hg hq h8.1) fun k k1 k2 k3=>?_;exact xI Um ((hh.mkc gk hg (q+9) (sz+1) v [.ref a] _ Z (.refl _) (fun Z2 l=>MM (hv.ext (.refl _) l) (h1.le l) h2) (fun Z2 al l Qf=>Oj Qf (k3.le l ll) k1) lw ll (AP.mono' k1)).up (fun Z2 r _ ⟨S,e,p⟩=>⟨S,e,Di hg hΓ hK h8 k2 p⟩) ll ll) fun _ _ _ l ⟨S,e,p⟩=>⟨S,e,im.mono _ _ _ l p⟩
 at':=.oth _ (fh hv.1) OV
theorem Dk (hv:ac [.ref v,.ref h,.ref a,.ref b,.ref l] Z yR)(hΓ:Sc K Γ)(hK:K < 300)(h8:d5 M f i)(hh:HX w Γ 2 g G M sH f i (q+9) Z h)(ha:CX w Γ e1 M sz f i q Z a)(hb:CX w Γ e2 M sz f i q Z b)(hq:f+8<=q):CX w Γ (fun ρ=>g ρ (e1 ρ) (e2 ρ)) (M+G+11) (sH+(sz+1+(sz+1))) (3*(f+6)+23) (3*i+28) (q+15) Z v where
 val:=fun c ρ Z' P7 d hl hd hr PI hlen=>by refine (Cx (c:=c+M+G+3) (PF:=ir w .src 2 c G (g ρ)) (hv.ext (.refl _) hl) ((hh.val c ρ Z' P7 d hl hd hr (aJ hlen)).le (.refl _) lw) (fun Z1 r al l1 l2 k1 pf Qf PY Qh=>?_) (fun U U U l p=>p.le l ll) fun U U U U p=>p).le (.refl _) (cZ);have UQ:=hr.le k1 ll;exact ((show wV w .src c G (g ρ) Z1 r from pf).2 (c+M) Z1 al _ _ _ _ lw (aJ PI) (.refl _) Qf (ha.th (hl.trans k1) (k1 _ _ hd) UQ (aJ PI) lw PY) (hb.th (hl.trans k1) (k1 _ _ hd) UQ (aJ PI) lw Qh)).le (.refl _) lw
 mkc:=fun gk hg=>by refine kC (uK hv.1) fun f0 a0 Um=>?_;refine bM hh.cls fun C h1 h2=>?_;refine d6 (ha.atc hg hq h8.1) fun k k1 k2 k3=>?_;refine d6 (hb.atc hg hq h8.1) fun k' j1 j2 j3=>?_;exact xI Um ((hh.mkc gk hg (q+9) (sz+1+(sz+1)) v [.ref a,.ref b] _ Z (.refl _) (fun Z2 l=>MN (hv.ext (.refl _) l) (h1.le l) h2) (fun Z2 al l Qf=>HH Qf (k3.le l ll) (j3.le l ll) k1 j1) lw ll (oG k1 j1)).up (fun Z2 r _ ⟨S,e,p⟩=>⟨S,e,wr hg hΓ hK h8 k2 j2 p⟩) ll ll) fun _ _ _ l ⟨S,e,p⟩=>⟨S,e,im.mono _ _ _ l p⟩
 at':=.oth _ (fh hv.1) OV
theorem AE (hv:ac [.ref v,.ref v2,.ref b,.ref l,.ref h,.ref a,.ref l2] Z xH)(hΓ:Sc K Γ)(hK:K < 300)(h8:d5 M f i)(hh:HX w Γ 2 g G M sH f i (q+9) Z h)(ha:CX w Γ e1 M sz f i q Z a)(hb:CX w Γ e2 M sz f i q Z b)(hq:f+8<=q):CX w Γ (fun ρ=>g ρ (e1 ρ) (e2 ρ)) (M+G+11) (sH+(sz+1+(sz+1))) (3*(f+6)+23) (3*i+28) (q+15) Z v where
 val:=fun c ρ Z' P7 d hl hd hr PI hlen=>by
  have hv1:ac [.ref v,.ref v2,.ref b,.ref l] Z tD:=hv.sl [0,1,2,3];have Rm:ac [.ref v2,.ref h,.ref a,.ref l2] Z tD:=hv.sl [1,4,5,6];refine (rp (c:=c+M+G+6) (PF:=oe w .src (c+M) G (g ρ (e1 ρ))) (hv1.ext (.refl _) hl) (rp (c:=c+M+G+3) (PF:=ir w .src 2 c G (g ρ)) (Rm.ext (.refl _) hl) ((hh.val c ρ Z' P7 d hl hd hr (aJ hlen)).le (.refl _) lw) (fun Z1 r al l1 k1 pf Qf PY=>?_) (fun U U U l p=>p.le l ll) fun U U U l p=>p.le l ll) (fun Z1 r al l1 k1 pf Qf PY=>?_) (fun U U U l p=>p.le l ll) fun U U U U p=>p).le (.refl _) (cZ)
  ·exact ((show wV w .src c G (g ρ) Z1 r from pf).1 rfl (c+M) Z1 al _ _ lw (aJ PI) (.refl _) Qf (ha.th (hl.trans k1) (k1 _ _ hd) (hr.le k1 ll) (aJ PI) lw PY)).le (.refl _) lw
  ·exact ((show oe w .src (c+M) G (g ρ (e1 ρ)) Z1 r from pf).at Qf (hb.th (hl.trans k1) (k1 _ _ hd) (hr.le k1 ll) (aJ PI) lw PY) lw (aJ PI)).le (.refl _) lw
 mkc:=fun gk hg=>by refine kC (uK hv.1) fun f0 a0 Um=>?_;refine bM hh.cls fun C h1 h2=>?_;refine d6 (ha.atc hg hq h8.1) fun k k1 k2 k3=>?_;refine d6 (hb.atc hg hq h8.1) fun k' j1 j2 j3=>?_;exact xI Um ((hh.mkc gk hg (q+9) (sz+1+(sz+1)) v [.ref a,.ref b] _ Z (.refl _) (fun Z2 l=>HI (hv.ext (.refl _) l) (h1.le l) h2) (fun Z2 al l Qf=>HH Qf (k3.le l ll) (j3.le l ll) k1 j1) lw ll (oG k1 j1)).up (fun Z2 r _ ⟨S,e,p⟩=>⟨S,e,wr hg hΓ hK h8 k2 j2 p⟩) ll ll) fun _ _ _ l ⟨S,e,p⟩=>⟨S,e,im.mono _ _ _ l p⟩
 at':=.oth _ (fh hv.1) OV
variable {d:Addr}{x y:Str}{t u:Tok}
theorem rV {r:Value}(ht:w1 Z r b d x)(hd:Z d=some (.dct P7))(hb:rS w ((x,.int)::Γ) (IV e) m Z b)(hx:∀ p∈Γ,p.1≠x)(hr:kn w .src Γ c ρ Z P7)(hz:P7.length+m<=891)(h3:3<=m):oe w .src c (m+1) (fun k=>e (ρ.setI x k)) Z r:=by intro c1 Z3 al a k Rh UP l3 Qf ha;refine (Hv .src (n:=c1+m - 3) (by obtain ⟨tp,QW,t2,e2,f2⟩:=ht;exact ⟨tp,QW,t2,e2,f2.ext (.refl _) l3⟩) (l3 _ _ hd) (bo hz h3) Qf ha.ok (fun Z4 d4 l4 RA=>?_) fun U U U U p=>p).le (.refl _) (by lia);have hz:=@aG P7 x a;exact (hb c1 (ρ.setI x k) Z4 (stored P7 x a) d4 (l3.trans l4) RA ((hr.le (l3.trans l4) Rh).put hx d7 (by unfold jN;rw [Ev.setI_i];exact ha.le l4 ll)) lw (by lia)).le (.refl _) (by lia)
theorem mc{x y:SV}(h:bK (.ref v::ρ0) Z 0 (.obj dZ [(aO,x),(aB,y)])):∃ p b,sm Z v p b:=by refine et (jM h) fun dx fv h1 h2 h3=>?_;refine et (ak.cons_r h3) fun Qs fv PZ e1 h4=>?_;obtain ⟨x1,y1⟩:=Qs;subst PZ;obtain ⟨⟨x2,y2⟩,fv,rfl,e2,h4⟩:=ak.cons_r h4;obtain rfl:=ak.nil_r h4;refine oA e1 fun PQ e1=>?_;subst PQ;refine oA e2 fun Q4 e2=>?_;subst Q4;exact wu _ _ ⟨dx,h1,h2⟩
theorem Dl {ps:List (Str×Tok)}{p0 b0:Value}(hl:sm Z v p0 b0)(hg:ii gk)(hΓ:Sc K Γ)(hK:100<=K/\K < 300)(SX:ps.length=1\/ps.length=2)(hN:∀ p∈ps,gO K 250 p.1)(nd:(ps.map (·.1)).Nodup)(ha:∀ Z',Z.le Z'->RT w 5 dj [.ref v] (An ps b) Z')(hb:CX w (D8 ps++Γ) e m sz f i q Z b)(hq:f+8<=q)(hf:f<=800):
  gR w (q+3) sz ba (.ref v) gk (eF (AD w gk Γ ps.length (fun ρ a b=>e (rR ρ ps a b)) m f i)) Z:=
 (Fc hl (fun e=>by rw [e] at SX;simp at SX) (by lia) ha ((hb.mkc gk hg).up (fun Z' r _ ⟨S,e,fl,sg⟩=>⟨S,fl,e,sg.sb.free,sg.sb.fln,sg⟩) ll ll) hq hf SG.monoL).up (fun Z' r U p=>by have p0:=p;obtain ⟨a,_,_,_,_,_,rfl,_⟩:=p0;exact ⟨a,rfl,K,ps,e,hΓ,hK,rfl,SX,hN,nd,rfl,p⟩) ll ll
theorem Fv (hv:ac [.ref v,.ref b,.ref l,.str x t] Z tE)(hΓ:Sc K Γ)(hK:100<=K/\K < 300)(hx:gO K 250 x)(hb:CX w ((x,.int)::Γ) e m sz f i q Z b)(hq:f+8<=q)(hf:f<=800)(h3:3<=m):FX w Γ 1 (fun ρ a b=>e (rR ρ [(x,t)] a b)) m sz f i (q+3) Z v where
 val:=fun c ρ Z' P7 d hl hd hr hlen=>(nu (hv.ext (.refl _) hl)).imp fun Z2 r l2 ht=>by unfold ir;rw [if_pos rfl];exact rV ht (l2 _ _ hd) (hb.val.le (hl.trans l2)) (hΓ.fresh hx (.inl ll) hK.2 OV) (hr.le l2 ll) lw h3
 lam:=mc hv.1
 mkc:=fun gk hg=>by refine kC (mc hv.1) fun p b0 hl=>?_;refine bM hb.at'.nolam fun C h1 h2=>?_;exact Dl (ps:=[(x,t)]) hl hg hΓ hK (.inl rfl) (fZ hx) (by simp) (fun Z' l=>MJ (hv.ext (.refl _) l) (h1.le l) h2) hb hq hf
theorem Fw (hv:ac [.ref v,.ref b,.ref l,.str x t,.str y u] Z yS)(hΓ:Sc K Γ)(hK:100<=K/\K<=K1/\K1 < 300)(hx:gO K K1 x)(hy:gO K1 250 y)(Us:K1<=250)(hb:CX w ((x,.int)::(y,.int)::Γ) e m sz f i q Z b)(hq:f+8<=q)(hf:f<=800)(h3:3<=m):FX w Γ 2 (fun ρ a b=>e (rR ρ [(x,t),(y,u)] a b)) m sz f i (q+3) Z v where
 val:=fun c ρ Z' P7 d hl hd hr hlen=>(Cv (hv.ext (.refl _) hl)).imp fun Z2 r l2 ht=>by
  have Qx:=hΓ.fresh hx (.inl ll) (by lia) (aJ Us);have US:=hΓ.fresh hy (.inl (by lia)) (by lia) OV;have Ui:x≠y:=hx.ne hy (.inl ll) (aJ Us) OV;have Rj:rS w ((y,.int)::(x,.int)::Γ) (IV e) m Z2 b:=fun c ρ Z3 P7 d l3 h1 h2=>hb.val c ρ Z3 P7 d (hl.trans (l2.trans l3)) h1 fun p hp=>h2 p (by simp only [List.mem_cons] at hp ⊢;rcases hp with h | h | h<;>simp [h]);have Qy:∀ p∈(x,cU.int)::Γ,p.1≠y:=kO Ui US;unfold ir;rw [if_neg OV];refine ⟨fun U c1 Z3 al a k Rh UP l3 Qf ha=>?_,fun c1 Z3 al a a2 k k2 Rh UP l3 Qf ha Rt=>?_⟩
  ·refine ((Ob (n:=c1+m - 3) (by obtain ⟨tp,QW,t2,u2,e2,f2⟩:=ht;exact ⟨tp,QW,t2,u2,e2,f2.ext (.refl _) l3⟩) ((l2.trans l3) _ _ hd) (bo h3 hlen) Qf ha.ok).imp fun Z4 r' l4 p=>?_).le (.refl _) (by lia);refine bM p fun d' Q8 XW=>?_;have hz:=@aG P7 x a;exact rV XW Q8 (Rj.le (l3.trans l4)) Qy ((hr.le (l2.trans (l3.trans l4)) Rh).put Qx d7 (by unfold jN;rw [Ev.setI_i];exact ha.le l4 ll)) (bo hlen hz) h3
  ·refine (MG .src (n:=c1+m - 3) (by obtain ⟨tp,QW,t2,u2,e2,f2⟩:=ht;exact ⟨tp,QW,t2,u2,e2,f2.ext (.refl _) l3⟩) ((l2.trans l3) _ _ hd) (bo h3 hlen) Qf ha.ok Rt.ok (fun Z4 d4 l4 RA=>?_) fun U U U U p=>p).le (.refl _) (by lia);have hz:=@aG P7 x a;have Q3:=@aG (stored P7 x a) y a2;exact (Rj c1 ((ρ.setI x k).setI y k2) Z4 _ d4 (l3.trans l4) RA (((hr.le (l2.trans (l3.trans l4)) Rh).put Qx d7 (by unfold jN;rw [Ev.setI_i];exact ha.le l4 ll)).put Qy d7 (by unfold jN;rw [Ev.setI_i];exact Rt.le l4 ll)) lw (ja hlen hz Q3)).le (.refl _) (by lia)
 lam:=mc hv.1
 mkc:=fun gk hg=>by refine kC (mc hv.1) fun p b0 hl=>?_;refine bM hb.at'.nolam fun C h1 h2=>?_;exact Dl (ps:=[(x,t),(y,u)]) hl hg hΓ (by lia) (.inr rfl) (kO (hx.le lw) (fZ (let ⟨b,k,h0,h1,h2,h3⟩:=hy;⟨b,k,h0,h1,by lia,h3⟩))) (by simp [hx.ne hy (.inl ll) (aJ Us) OV]) (fun Z' l=>MK (hv.ext (.refl _) l) (h1.le l) h2) hb hq hf
theorem Dm (hv:ac [.ref v,.ref v2,.ref l,.str x t,.ref b,.ref l2,.str y u] Z CS)(hΓ:Sc K Γ)(hK:100<=K/\K<=K1/\K1 < 300)(hx:gO K K1 x)(hy:gO K1 250 y)(Us:K1<=250)(hb:CX w ((x,.int)::(y,.int)::Γ) e m sz f i q Z b)(hq:f+8<=q)(hf:f<=800)(h3:3<=m):FX w Γ 2 (fun ρ a b=>e (rR ρ [(x,t),(y,u)] a b)) m sz f i (q+3) Z v where
 val:=fun c ρ Z' P7 d hl hd hr hlen=>(nu (b:=v2) (l:=l) (x:=x) (t:=t) ((hv.sl [0,1,2,3]:ac [.ref v,.ref v2,.ref l,.str x t] Z tE).ext (.refl _) hl)).imp fun Z2 r lz ht=>by
  have Qx:=hΓ.fresh hx (.inl ll) (by lia) (aJ Us);have US:=hΓ.fresh hy (.inl (by lia)) (by lia) OV;have Ui:x≠y:=hx.ne hy (.inl ll) (aJ Us) OV;have Rj:rS w ((y,.int)::(x,.int)::Γ) (IV e) m Z2 b:=fun c ρ Z3 P7 d l3 h1 h2=>hb.val c ρ Z3 P7 d (hl.trans (lz.trans l3)) h1 fun p hp=>h2 p (by simp only [List.mem_cons] at hp ⊢;rcases hp with h | h | h<;>simp [h]);have Qy:∀ p∈(x,cU.int)::Γ,p.1≠y:=kO Ui US;have Rm:ac [.ref v2,.ref b,.ref l2,.str y u] Z tE:=hv.sl [1,4,5,6];unfold ir;rw [if_neg OV];refine ⟨fun U c1 Z3 al a k Rh UP l3 Qf ha=>?_,fun c1 Z3 al a a2 k k2 Rh UP l3 Qf ha Rt=>?_⟩
  ·refine (Hv .src (n:=c1+m - 3) (P:=oe w .src c1 (m+1) fun n=>e ((ρ.setI x k).setI y n)) (by obtain ⟨tp,QW,t2,e2,f2⟩:=ht;exact ⟨tp,QW,t2,e2,f2.ext (.refl _) l3⟩) ((lz.trans l3) _ _ hd) (bo h3 hlen) Qf ha.ok (fun Z4 d4 l4 RA=>?_) fun U U U l p=>p.le l ll).le (.refl _) (by lia);refine ((nu (Rm.ext (.refl _) (hl.trans (lz.trans (l3.trans l4))))).imp fun Z5 r' l5 XW=>?_).le (.refl _) lw;have hz:=@aG P7 x a;exact rV XW (l5 _ _ RA) (Rj.le (l3.trans (l4.trans l5))) Qy ((hr.le (lz.trans (l3.trans (l4.trans l5))) Rh).put Qx d7 (by unfold jN;rw [Ev.setI_i];exact ha.le (l4.trans l5) ll)) (bo hlen hz) h3
  ·refine (Oc (n:=c1+m - 3) (b2:=b) (y:=y) (by obtain ⟨tp,QW,t2,e2,f2⟩:=ht;exact ⟨tp,QW,t2,e2,f2.ext (.refl _) l3⟩) ((lz.trans l3) _ _ hd) (bo h3 hlen) Qf ha.ok Rt.ok (fun Z4 d4 l4 RA=>(nu (Rm.ext (.refl _) (hl.trans (lz.trans (l3.trans l4))))).le (.refl _) lw) (fun Z4 d4 l4 RA=>?_) fun U U U U p=>p).le (.refl _) (by lia);have hz:=@aG P7 x a;have Q3:=@aG (stored P7 x a) y a2;exact (Rj c1 ((ρ.setI x k).setI y k2) Z4 _ d4 (l3.trans l4) RA (((hr.le (lz.trans (l3.trans l4)) Rh).put Qx d7 (by unfold jN;rw [Ev.setI_i];exact ha.le l4 ll)).put Qy d7 (by unfold jN;rw [Ev.setI_i];exact Rt.le l4 ll)) lw (ja hlen hz Q3)).le (.refl _) (by lia)
 lam:=mc hv.1
 mkc:=fun gk hg=>by refine kC (mc hv.1) fun p b0 hl=>?_;refine bM hb.at'.nolam fun C h1 h2=>?_;exact Dl (ps:=[(x,t),(y,u)]) hl hg hΓ (by lia) (.inr rfl) (kO (hx.le lw) (fZ (let ⟨b,k,h0,h1,h2,h3⟩:=hy;⟨b,k,h0,h1,by lia,h3⟩))) (by simp [hx.ne hy (.inl ll) (aJ Us) OV]) (fun Z' l=>HE (hv.ext (.refl _) l) (h1.le l) h2) hb hq hf
variable {m':Nat}
noncomputable abbrev zy (w:World)(s:kN)(e1 e2:Ev->Int)(M:Nat):PV:=fun c ρ=>xm w s (c+M) (e1 ρ) (e2 ρ)
theorem xm.le {i j:Int}{r:Value}(l:Z.le Z')(h:xm w s c i j Z r):xm w s c i j Z' r:=by obtain ⟨tp,nm,t,tl,u1,u2,e,hf,h1,h2⟩:=h;exact ⟨tp,nm,t,tl,u1,u2,e,hf.ext (.refl _) l,h1.le l ll,h2.le l ll⟩
theorem HT {k : AK}(hg:ii gk)(hΓ:Sc K Γ)(hK:K < 300)(h8:d5 M f i)(hk:rU w Γ e1 M f i k)(PG:rU w Γ e2 M f i k2)(h:HN (fun N N' Z al bs=>Ao gk N N' Z al bs k k2) x Z (.ref v)):im w Γ (zy w .stg e1 e2 (M+3)) (M+8) (3*(f+6)+23) (3*i+28) Z v:=by
 obtain ⟨N,N',bs,S,al,t,hL,hS,⟨a,a2,b,b2,N1,rfl,hz,hA,Up,XS,RI,_⟩,hN⟩:=h;have XT:N1 mf<=N' mf:=RI.1 mf;have Tn:=hN mf;refine li (lK hg hΓ h8 hk (fun PB e=>by have:=Up.2 PB e;exact ja XT Tn this) hA) fun TJ o PL hx VU hP=>?_;subst PL;refine li (lK hg hΓ h8 PG (fun PB e=>by have:=RI.2 PB e;exact bo Tn this) XS) fun VV o2 PZ SU Uq Ur=>?_;subst PZ;have hF:ac [.ref S,.str x t,.ref al,.ref a,.ref a2] Z wb:=cF (hS.1.ext ⟨_,rfl⟩ (.refl _)) ⟨al,_,rfl,hz,rfl,rfl,OU⟩ OU
 have QO:∀ {y},(y∈Γ.map (·.1)\/y∈TJ.map (·.x))\/(y∈Γ.map (·.1)\/y∈VV.map (·.x))->y∈(([]:List ik)++(TJ++VV)).map (·.x)++Γ.map (·.1):=fun {y} h=>by simp only [List.nil_append,List.map_append,List.mem_append];rcases h with (h | h) | (h | h)<;>simp [h]
 refine rT (zw (b:=mf)) hP Ur rfl rfl rfl hΓ hK ?_ ?_ (HS hF VU Uq (fun y hy=>QO (.inl (hP.on _ hy))) fun y hy=>QO (.inr (Ur.on _ hy))) (fun y hy=>?_) (mb:=M+4) lw (fun U U U U U l p=>p.le l) fun Z' PA c ρ d2 l hd U XX XY hc PI hlen=>bM XY fun u3 h5 h6=>bM XX fun u2 h3 h4=>?_
 ·rw [List.map_append,List.map_append];refine Om (Nat.zero_le _) (by rw [List.length_map];exact hP.len) (by rw [List.length_map];exact Ur.len) (fun U h=>nomatch h) (fun U h=>nomatch h) (gh fun r hr=>gh fun r2 Ra=>?_);refine E1 (hx r hr) fun q1 PB q2=>?_;refine E1 (SU r2 Ra) fun q3 XU q4=>?_;have q5:=Up.2 PB q2;have q6:=RI.2 XU q4;rw [q1,q3];exact fun e=>by have:=rP (by rfl) (by rfl) (ja Tn q5 q6) (bo Tn q6) e;lia
 ·show mj _ S Z (.ref v);rw [List.nil_append,List.map_append];exact hL
 ·rcases hy with hy | hy | hy
  ·exact nS hy
  ·exact xW.mpr (.inl hy)
  ·exact xW.mpr (.inr hy)
 ·exact (Ae (hF.ext (.refl _) l) h3 h5 h4.ok h6.ok hd fun Z1 tp tl l1 hf=>⟨tp,x,t,tl,u2,u3,rfl,hf,h4.le l1 lw,h6.le l1 lw⟩).le (.refl _) lw
structure OI (w:World)(Γ:List (Str×cU))(e1 e2:Ev->Int)(M m s f i q:Nat)(Z:a8)(v:Addr):Prop where
 val:rS w Γ (zy w .src e1 e2 M) m Z v
 mkc:∀ gk,ii gk->gR w q s aq (.ref v) gk (eF (im w Γ (zy w .stg e1 e2 M) m f i)) Z
theorem Fx (hv:ac [.ref v,.ref a,.ref b,.ref l,.str x t] Z Hu)(hΓ:Sc K Γ)(hK:K < 300)(h8:d5 M f i)(ha:CX w Γ e1 M sz f i q Z a)(hb:CX w Γ e2 M sz f i q Z b)(hq:f+8<=q):OI w Γ e1 e2 (M+3) (M+8) (sz+1+(sz+1)) (3*(f+6)+23) (3*i+28) (q+12) Z v where
 val:=fun c ρ Z' P7 d hl hd hr PI hlen=>(F5 (hv.ext (.refl _) hl) fun Z1 tp tl l1 l2 k1 hf PY Qh=>⟨tp,x,t,tl,.ref l1,.ref l2,rfl,hf,(ha.th (hl.trans k1) (k1 _ _ hd) (hr.le k1 ll) (aJ PI) lw PY).le (.refl _) lw,(hb.th (hl.trans k1) (k1 _ _ hd) (hr.le k1 ll) (aJ PI) lw Qh).le (.refl _) lw⟩).le (.refl _) lw
 mkc:=fun gk hg=>by
  refine d6 (ha.atc hg hq h8.1) fun k k1 k2 k3=>?_;refine d6 (hb.atc hg hq h8.1) fun k' j1 j2 j3=>?_
  exact (HO (as:=[]) (x:=x) (t:=t) (l:=l) (hv.sl [0,4,3]) (HH hv.2.1.lv k3 j3 k1 j1) lw (oG k1 j1)).up (fun Z2 r U p=>by have p0:=p;obtain ⟨_,_,_,S,_,_,hL,_⟩:=p0;refine oE hL.ref fun a PQ=>?_;subst PQ;exact ⟨a,rfl,HT hg hΓ hK h8 k2 j2 p⟩) ll ll
theorem oH{C:Addr}{n1 n2 n3 n4:Str}{x1 x2 : SV}(h:bK (.ref v::ρ0) Z 0 (.obj C [(n1,x1),(n2,x2),(n3,x3),(n4,x4)])):∃ a1 a2 a3 a4 dx,Z v=some (.ins C dx)/\Z dx=some (.att [(n1,a1),(n2,a2),(n3,a3),(n4,a4)])/\af (.ref v::ρ0) x1 a1/\af (.ref v::ρ0) x2 a2:=by obtain ⟨dx,fv,h1,h2,h3⟩:=jM h;obtain ⟨⟨x1,y1⟩,fv,rfl,e1,h4⟩:=ak.cons_r h3;obtain ⟨⟨x2,y2⟩,fv,rfl,e2,h4⟩:=ak.cons_r h4;obtain ⟨⟨x3,y3⟩,fv,rfl,e3,h4⟩:=ak.cons_r h4;obtain ⟨⟨x4,y4⟩,fv,rfl,e4,h4⟩:=ak.cons_r h4;obtain rfl:=ak.nil_r h4;obtain ⟨rfl,e1⟩:=e1;obtain ⟨rfl,e2⟩:=e2;obtain ⟨rfl,e3⟩:=e3;obtain ⟨rfl,e4⟩:=e4;exact gY _ _ _ _ dx h1 h2 e1 e2
theorem tL {ev:Addr}{i j:Nat}(h:bK (.ref S::ρ0) Z 0 (.obj cL [(cj,.v i),(am,.v j),(bY,x3),(bn,x4)]))(h1:(Value.ref S::ρ0)[i]? =some (.ref ev))(h2:(Value.ref S::ρ0)[j]? =some (.str x t)):∃ t al o,uD Z S ev x t al o:=by refine iJ (oH h) fun a1 a2 a3 a4 dx k1 k2 k3 k4=>?_;obtain rfl:=af.det k3 h1;obtain rfl:=af.det k4 h2;exact qB _ _ _ ⟨dx,k1,k2⟩
theorem zz {Nm:List Str}{ev:Addr}{f1 i1 fb:Nat}{ms:List Str}{ks:LV}(hs:∃ t al o,uD Z S ev x t al o)(he:SB w Nm f1 i1 Ro Z ev)(hbr:bO w bp (.ref S) fb flb Z)(hlen:flb.length<=fb)(QO:∀ y∈flb,y∈x::Nm)
  (Ul:dG w S i ms ks Z) (h1:ms.length<=i) (h2:ks.length<=i) (hm:∀ y∈Ro++flb,y∈ms) (hk:∀ v∈ks,lI w i Z v):SB w Nm (f1+fb+8) i (Ro++wo [x] flb) Z S:=
 ⟨(o3 (hs) fun U U U hs=>rG hs he.free hbr he.fln),by rw [List.length_append];have:=he.fln;have:=@uC [x] flb;lia,fun y hy=>by
  rcases OX hy with hy | hy
  ·exact he.sub y hy
  ·refine oA (List.mem_filter.mp hy) fun h1 h2=>?_
   exact (OY (QO y h1)).elim (fun e=>by subst e;simp at h2) id,ms,ks,Ul,h1,h2,fun y hy=>hm y (by
    rcases OX hy with hy | hy
    ·exact List.mem_append_left _ hy
    ·exact List.mem_append_right _ (List.mem_filter.mp hy).1),hk⟩
noncomputable abbrev Gq (k0:Int)(x:Str)(e1 e2 e3:Ev->Int):Ev->Int:=fun ρ=>if k0=e1 ρ then e2 (ρ.setI x (e1 ρ)) else e3 (ρ.setI x (e1 ρ))
theorem Dn{m1 f1 i1 m2 f2 i2 m3 f3 i3:Nat}(hΓ:Sc K Γ)(hK:100<=K/\K < 300)(hx:gO K 250 x)(h:xJ x t k0 tk (im w Γ (IV e1) m1 f1 i1) (im w ((x,.val)::Γ) (IV e2) m2 f2 i2) (im w ((x,.val)::Γ) (IV e3) m3 f3 i3) Z S):im w Γ (IV (Gq k0 x e1 e2 e3)) (m1+m2+m3+3) (f1+f2+f3+16) (i1+i2+i3+12) Z S:=by
 obtain ⟨ev,al,o,a,ky,nl,b,hf,⟨Ro,g1⟩,⟨QH,g2⟩,⟨Un,g3⟩⟩:=h;have Qn:=hΓ.fresh hx (.inl ll) hK.2 OV;obtain ⟨R0,Qk,a1,a2,a3,a4,a5⟩:=g1.sb.ins;obtain ⟨R1,RD,b1,b2,b3,b4,b5⟩:=g2.sb.ins;obtain ⟨Sr,Vw,c1,c2,c3,c4,c5⟩:=g3.sb.ins;refine ⟨Ro++wo [x] (QH++Un),fun c ρ Z' P7 d gd gr l hd he hr hc PI hlen=>?_,(zz ?_ g1.sb (CG hf g2.sb.free g3.sb.free g2.sb.fln) (by rw [List.length_append];have:=g2.sb.fln;have:=g3.sb.fln;lia) (fun y hy=>?_) (xB hf a1 b1 c1 a2 a3 b2 b3 c2 c3) (by simp only [List.length_append];exact ja a2 b2 c2) (by simp only [List.length_append];exact ja a3 b3 c3) (fun y hy=>?_) fun v hv=>?_).le (.refl _) (cZ) lw⟩
 ·refine (we (c:=c+m1+m2+m3) (hf.ext (.refl _) l) hd lw ((g1.worth c ρ Z' P7 d gd gr l hd he (hr.sub fun x hx=>List.mem_append_left _ hx) hc (aJ PI) lw).le (.refl _) lw) (fun Z1 d' u l1 Q8=>?_) ji).le (.refl _) (cZ);have hz:=@aG P7 x (.int (e1 ρ) u);have hE:=(he.le l1).store (v:=.int (e1 ρ) u) hx.gl hx.Mg;have hR:∀ {fl},(∀ y∈fl,y∈QH++Un)->bc w .stg ((x,.val)::Γ) fl c (ρ.setI x (e1 ρ)) Z1 (stored P7 x (.int (e1 ρ) u)):=fun {fl} hs=>bc.put ((hr.sub (QF:=wo [x] fl) fun y hy=>List.mem_append_right _ (List.mem_filter.mpr ⟨hs y (List.mem_filter.mp hy).1,(List.mem_filter.mp hy).2⟩)).le l1 ll) Qn d7 (by unfold jN;rw [Ev.setI_i];exact ⟨u,rfl⟩);show RT w _ _ _ (iH (if k0=e1 ρ then _ else _)) _
  by_cases hk:k0=e1 ρ
  ·rw [if_pos hk,if_pos hk];exact (g2.worth c _ Z1 _ d' gd gr (l.trans l1) Q8 hE (hR fun y hy=>List.mem_append_left _ hy) hc (aJ PI) (bo hlen hz)).le (.refl _) lw
  ·rw [if_neg hk,if_neg hk];exact (g3.worth c _ Z1 _ d' gd gr (l.trans l1) Q8 hE (hR fun y hy=>List.mem_append_right _ hy) hc (aJ PI) (bo hlen hz)).le (.refl _) lw
 ·exact tL hf.1 rfl rfl
 ·exact (OX hy).elim (g2.sb.sub y) (g3.sb.sub y)
 ·simp only [List.mem_append] at hy ⊢;rcases hy with hy | hy | hy
  ·exact .inl (a4 y hy)
  ·exact .inr (.inl (b4 y hy))
  ·exact .inr (.inr (c4 y hy))
 ·simp only [List.mem_append] at hv;rcases hv with hv | hv | hv
  ·exact (a5 v hv).le (.refl _) lw
  ·exact (b5 v hv).le (.refl _) (cZ)
  ·exact (c5 v hv).le (.refl _) (cZ)
theorem Do {o ev al : Addr}{m1 f1 i1 s1 m2 f2 i2 s2 m3 f3 i3 s3:Nat}(hv:ac [.ref v,.ref ev,.str x t,.ref al,.ref o,.ref a,.ref ky,.ref nl,.ref b,.int k0 tk] Z ux)(hΓ:Sc K Γ)(hK:100<=K/\K < 300)(hx:gO K 250 x)(he:CX w Γ e1 m1 s1 f1 i1 q Z ev)(hb:CX w ((x,.val)::Γ) e2 m2 s2 f2 i2 q Z b)(ho:CX w ((x,.val)::Γ) e3 m3 s3 f3 i3 q Z o):
  CX w Γ (Gq k0 x e1 e2 e3) (m1+m2+m3+3) (s1+s2+s3) (f1+f2+f3+16) (i1+i2+i3+12) (q+6) Z v where
 val:=fun c ρ Z' P7 d l hd hr PI hlen=>by
  have Qn:=hΓ.fresh hx (.inl ll) hK.2 OV;refine (Ac (c:=c+m1+m2+m3) (hv.ext (.refl _) l) hd lw ((he.val c ρ Z' P7 d l hd hr (aJ PI) lw).le (.refl _) lw) (fun Z1 d' u l1 Q8=>?_) ji).le (.refl _) (cZ);have hz:=@aG P7 x (.int (e1 ρ) u);have hR:=((hr.le l1 ll).put (k:=.val) (v:=.int (e1 ρ) u) (ρ':=ρ.setI x (e1 ρ)) Qn d7 (by unfold jN;rw [Ev.setI_i];exact ⟨u,rfl⟩))
  show RT w _ _ _ (iH (if k0=e1 ρ then _ else _)) _
  by_cases hk:k0=e1 ρ
  ·rw [if_pos hk,if_pos hk];exact (hb.val c _ Z1 _ d' (l.trans l1) Q8 hR (aJ PI) (bo hlen hz)).le (.refl _) lw
  ·rw [if_neg hk,if_neg hk];exact (ho.val c _ Z1 _ d' (l.trans l1) Q8 hR (aJ PI) (bo hlen hz)).le (.refl _) lw
 mkc:=fun gk hg=>by refine o3 (oH hv.1) fun U U U Ub=>?_;refine et Ub fun U dx h1 h2 U=>?_;exact zi (bw dx h1 h2) ((D0 hv (he.mkc gk hg) (hb.mkc gk hg) (ho.mkc gk hg) im.mono im.mono im.mono).up (fun Z2 r _ ⟨S,e,p⟩=>⟨S,e,Dn hΓ hK hx p⟩) ll ll) im.mono
 at':=.oth _ (fh hv.1) OV
noncomputable abbrev Dp (fn gn:Str)(e1 e2 e3:Ev->Int):Ev->Int:=fun ρ=>e3 ((ρ.setI fn (e1 ρ)).setI gn (e2 ρ))
theorem zA{u1 u2:Value}(h:fn≠gn):merged P7 (merged [] [(fn,u1),(gn,u2)])=stored (stored P7 fn u1) gn u2:=by
 rw [merged_nil_of_nodup _ (by simp [h])]
 rfl
theorem Dq{m1 f1 i1 m2 f2 i2:Nat}(hΓ:Sc K Γ)(hK:100<=K/\K<=K1/\K1 < 300)(hx:gO K 250 x)(RS:gO K K1 fn)(SY:gO K1 250 gn)(h:xK x t fn gn S9 tf tg tn (im w Γ (zy w .stg e1 e2 M) m1 f1 i1) (im w ((gn,.int)::(fn,.int)::Γ) (IV e3) m2 f2 i2) Z S):im w Γ (IV (Dp fn gn e1 e2 e3)) (M+m1+m2+6) (f1+f2+16) (i1+i2+12) Z S:=by
 obtain ⟨ev,al,a,ky,nl,b,hf,⟨Ro,g1⟩,⟨QH,g2⟩⟩:=h;have Qn:=hΓ.fresh hx (.inl ll) (by lia) OV;have UU:=hΓ.fresh RS (.inl ll) (by lia) (by lia);have Wm:=hΓ.fresh SY (.inl (by lia)) (by lia) OV;have VW:fn≠gn:=RS.ne SY (.inl ll) (by lia) OV;obtain ⟨R0,Qk,a1,a2,a3,a4,a5⟩:=g1.sb.ins;obtain ⟨R1,RD,b1,b2,b3,b4,b5⟩:=g2.sb.ins;refine ⟨Ro++wo [x] (wo [fn,gn] QH),fun c ρ Z' P7 d gd gr l hd he hr hc PI hlen=>?_,(zz ?_ g1.sb (CF hf g2.sb.free) (by have:=g2.sb.fln;have:=@uC [fn,gn] QH;lia) (fun y hy=>?_) (xD hf a1 b1 a2 a3 b2 b3) (by simp only [List.length_append];exact bo a2 b2) (by simp only [List.length_append];exact bo a3 b3) (fun y hy=>?_) fun v hv=>?_).le (.refl _) lw lw⟩
 ·refine (wf (c:=c+M+m1+m2) (cc:=c+M) (hf.ext (.refl _) l) hd lw ((g1.worth c ρ Z' P7 d gd gr l hd he (hr.sub fun x hx=>List.mem_append_left _ hx) hc (aJ PI) (aJ hlen)).le (.refl _) lw) (fun Z1 d' r u1 u2 l1 Q8 XZ Y0=>?_) ji).le (.refl _) (cZ);rw [zA VW] at Q8;have hz:=@aG P7 x r;have VG:=@aG (stored P7 x r) fn u1;have Q3:=@aG (stored (stored P7 x r) fn u1) gn u2
  have hRz:bc w .stg Γ (wo [fn] (wo [gn] QH)) c ρ Z' P7:=fun p hp q=>hr p hp (q.imp (fun q=>List.mem_append_right _ (List.mem_filter.mpr ⟨List.mem_filter.mpr ⟨(List.mem_filter.mp (List.mem_filter.mp q).1).1,by
   have h1:=UU p hp;have h2:=Wm p hp;simp [h1,h2]⟩,by simpa using Qn p hp⟩)) id)
  have Y1:=(hRz.le l1 (Pq c M)).store (v:=r) Qn;have Y2:=Y1.put (k:=.int) (v:=u1) (ρ':=ρ.setI fn (e1 ρ)) UU d7 (by unfold jN;rw [Ev.setI_i];exact XZ);have RG:=Y2.put (k:=.int) (v:=u2) (ρ':=(ρ.setI fn (e1 ρ)).setI gn (e2 ρ)) (kO VW Wm) d7 (by unfold jN;rw [Ev.setI_i];exact Y0);exact (g2.worth (c+M) _ Z1 _ d' gd gr (l.trans l1) Q8 ((((he.le l1).store hx.gl hx.Mg).store RS.gl RS.Mg).store SY.gl SY.Mg) RG lw (aJ PI) (by lia)).le (.refl _) lw
 ·exact tL hf.1 rfl rfl
 ·refine oA (List.mem_filter.mp hy) fun h1 h2=>?_;have:=g2.sb.sub y h1;simp only [List.map_cons,List.mem_cons] at this h2 ⊢;rcases this with rfl | rfl | h
  ·simp at h2
  ·simp at h2
  ·exact .inr h
 ·rcases OX hy with hy | hy
  ·exact List.mem_append_left _ (a4 y hy)
  ·exact List.mem_append_right _ (b4 y (List.mem_filter.mp hy).1)
 ·rcases OX hv with hv | hv
  ·exact (a5 v hv).le (.refl _) lw
  ·exact (b5 v hv).le (.refl _) (cZ)
theorem Dr{ev al : Addr}{m1 f1 i1 s1 m2 f2 i2 s2:Nat}(hv:ac [.ref v,.ref ev,.str x t,.ref al,.ref a,.ref ky,.ref nl,.ref b,.str fn tf,.str gn tg,.str S9 tn] Z uy)(hΓ:Sc K Γ)(hK:100<=K/\K<=K1/\K1 < 300)(hx:gO K 250 x)(RS:gO K K1 fn)(SY:gO K1 250 gn)(he:OI w Γ e1 e2 M m1 s1 f1 i1 q Z ev)(hb:CX w ((gn,.int)::(fn,.int)::Γ) e3 m2 s2 f2 i2 q Z b):
  CX w Γ (Dp fn gn e1 e2 e3) (M+m1+m2+6) (s1+s2) (f1+f2+16) (i1+i2+12) (q+6) Z v where
 val:=fun c ρ Z' P7 d l hd hr PI hlen=>by
  have Qn:=hΓ.fresh hx (.inl ll) (by lia) OV;have UU:=hΓ.fresh RS (.inl ll) (by lia) (by lia);have Wm:=hΓ.fresh SY (.inl (by lia)) (by lia) OV;have VW:fn≠gn:=RS.ne SY (.inl ll) (by lia) OV;refine (Ad (c:=c+M+m1+m2) (cc:=c+M) (hv.ext (.refl _) l) hd lw ((he.val c ρ Z' P7 d l hd hr (aJ PI) (aJ hlen)).le (.refl _) lw) (fun Z1 d' r u1 u2 l1 Q8 XZ Y0=>?_) ji).le (.refl _) (cZ);rw [zA VW] at Q8;have hz:=@aG P7 x r;have VG:=@aG (stored P7 x r) fn u1;have Q3:=@aG (stored (stored P7 x r) fn u1) gn u2;have Y1:kn w .src Γ (c+M) ρ Z1 (stored P7 x r):=fun p hp=>bM (hr p hp) fun u h1 h2=>(bw u ((bH (Qn p hp)).trans h1) (h2.le l1 lw))
  have Y2:=Y1.put (k:=.int) (v:=u1) (ρ':=ρ.setI fn (e1 ρ)) UU d7 (by unfold jN;rw [Ev.setI_i];exact XZ);have RG:=Y2.put (k:=.int) (v:=u2) (ρ':=(ρ.setI fn (e1 ρ)).setI gn (e2 ρ)) (kO VW Wm) d7 (by unfold jN;rw [Ev.setI_i];exact Y0);exact (hb.val (c+M) _ Z1 _ d' (l.trans l1) Q8 RG (aJ PI) (by lia)).le (.refl _) lw
 mkc:=fun gk hg=>by refine o3 (oH hv.1) fun U U U We=>?_;refine et We fun U dx h1 h2 U=>?_;exact zi (bw dx h1 h2) ((D1 hv (he.mkc gk hg) (hb.mkc gk hg) im.mono im.mono).up (fun Z2 r _ ⟨S,e,p⟩=>⟨S,e,Dq hΓ hK hx RS SY p⟩) ll ll) im.mono
 at':=.oth _ (fh hv.1) OV
end
section
variable {w:World}{n m:Nat}{Z:a8}{B:Heap}{O:aP}{env:Env}{ρ:LV}{γ:List an}{α:Type}{t:IT α}{Q:QQ α}
variable {xs ys : LV} {x y : Str} {vs : (Nat->Tok)->LV} {k' mI sI fI iI qI Wn mR sR fR iR qR j G sH lo : Nat} {Γ' : List (Str×cU)} {rb : Bool}
theorem ae.itL {a:Addr}{k:Int}{tx:(Nat->Tok)->Tok}{x:Value}(ha:fk w B O env t.st ρ γ Z a (.lst xs))(h0:0<=k)(h1:k < 2 ^ 63)(hx:xs[k.toNat]? =some x)(g:Co w B O env n t ρ γ Z Q x)
  (Py:autoParam (qs t ρ=rs t (fun tk=>[.ref a,.int k (tx tk)])) tac0):ae w B O n env t ρ γ Z Q:=ae.pk (vs:=fun tk=>[.ref a,.int k (tx tk)]) (fun tk=>.at ha fun h Q hd q=>yi hd h0 h1 hx (q x rfl) (Pc (ff Py)).2) (fun y e=>by subst e;exact g) (Prod.ext (ff (ff Py)) (funext (pQ Py)))
theorem ae.setL(i g:Nat)(a:Addr)(k:Int)(tx:(Nat->Tok)->Tok)(v:Value)(hc:γ[g]? =some (.lst xs))(h0:0<=k)(h1:k < 2 ^ 63)(h2:k < xs.length)(kk:ae w B O n env (t.nxU t.st) ρ (γ.set g (.lst (xs.set k.toNat v))) Z Q)
  (Py:autoParam (qu t ρ i=ru 0 g (fun tk=>[.ref a,.int k (tx tk),v])) tac0) (ha:autoParam (ρ[i]? =some (.ref a)) tac10):ae w B O n env t ρ γ Z Q:=.set (x:=fun tk=>.int k (tx tk)) (v:=fun U=>v) i g (c:=.lst xs) (fun tk Zs led h j Q S e q=>GP S e h0 h1 h2 q) kk rfl Py ha hc
theorem HU {P:Params}:bU P uV gf 2:=.mk2
inductive gP (c:an):Prop
 | mk (a b t u) (_:c=.lst [.int a t,.int b u]) (_:0<=b) (_:b < 2147483647):gP c
theorem Fy {so:Addr}{c:an}{top:Int}{tt:Tok}(hs:gP c)(h0:0 < top)(h1:top<=100):yF w 3 (call (.ref gf) [.ref so,.int top tt]) so c (fun U r c'=>gP c'/\∃ p t,r=.int p t/\0<=p/\p < top) Z:=by
 obtain ⟨a,b,t,u,rfl,RU,VS⟩:=hs;have x0:∀ {xs:LV},(0:Int) < (xs.length+1:Nat):=by intro xs;lia
 refine kx (n:=0) (N:=2) [.ref so,.int top tt] (PD:=[.v 0,.v 1]) (fz:=[]) true 0 0 HU OU (fun B O L Z1 l1=>?_) (cF rfl rfl OU);refine .itL (k:=0) (tx:=fun tk=>tk 1) (x:=.int a t) (.o (c:=.lst [.int a t,.int b u]) so 0 0) OV OV rfl (.k (.k (.int a t)) rfl ?_)
 by_cases ha:a > 0
 ·refine .opb (.cmp .Gt) (fun tk=>[.int a t,.int 0 (tk 1)]) true (fun tk h Q q=>qD (q _ (Pl _ (Pt ha)))) ?_;refine .itL (k:=0) (tx:=fun tk=>tk 1) (x:=.int a t) (.o (c:=.lst [.int a t,.int b u]) so 0 0) OV OV rfl (.k (.k (.int a t)) rfl ?_);refine .opi .call (fun U=>[.type "int",.int a t]) a (fun tk h Q q=>kF fun k=>q _ ⟨k,rfl⟩) fun u1=>.opi (.bin .Mod) (fun U=>[.int a u1,.int top tt]) (a.fmod top) (fun tk h Q q=>oL (by lia) fun k=>q _ ⟨k,rfl⟩) fun u2=>?_;refine .itL (k:=0) (tx:=fun tk=>tk 1) (x:=.int a t) (.o (c:=.lst [.int a t,.int b u]) so 0 0) OV OV rfl (.k (.k (.int a t)) rfl ?_);refine .opi (.bin .FloorDiv) (fun U=>[.int a t,.int top tt]) (a.fdiv top) (fun tk h Q q=>B6 (by lia) (Bm _ _ (by lia)) fun k=>q _ ⟨k,rfl⟩) fun u3=>?_;refine .setL 0 0 so 0 (fun tk=>tk 1) (.int (a.fdiv top) u3) rfl OV OV x0 ?_;exact .finM (c:=.lst [.int (a.fdiv top) u3,.int b u]) 0 (.ret (.v 3)) [] [] [] (ρ':=[]) fun U v U U U r=>jv ⟨_,_,_,_,rfl,RU,VS⟩ (a.fmod top) u2 (af.det r rfl) (Int.fmod_nonneg_of_pos _ h0) (Int.fmod_lt_of_pos _ h0)
 ·refine .opb (.cmp .Gt) (fun tk=>[.int a t,.int 0 (tk 1)]) false (fun tk h Q q=>qD (q _ (Pl _ (Pr ha)))) ?_;refine .itL (k:=1) (tx:=fun tk=>tk 1) (x:=.int b u) (.o (c:=.lst [.int a t,.int b u]) so 0 0) OV OV rfl (.k (.k (.int b u)) rfl ?_);refine .opi (.bin .Mult) (fun tk=>[.int b u,.int 39373 (tk 1)]) (b*39373) (fun tk h Q q=>jC (jD OV) fun k=>q _ ⟨k,rfl⟩) fun u1=>.opi (.bin .Add) (fun tk=>[.int (b*39373) u1,.int 7 (tk 1)]) (b*39373+7) (fun tk h Q q=>lk fun k=>q _ ⟨k,rfl⟩) fun u2=>?_;refine .opi .call (fun U=>[.type "int",.int (b*39373+7) u2]) (b*39373+7) (fun tk h Q q=>kF fun k=>q _ ⟨k,rfl⟩) fun u3=>.opi (.bin .Mod) (fun tk=>[.int (b*39373+7) u3,.int 2147483647 (tk 1)]) ((b*39373+7).fmod 2147483647) (fun tk h Q q=>oL OV fun k=>q _ ⟨k,rfl⟩) fun u4=>?_;have c0:=Int.fmod_nonneg_of_pos (b*39373+7) (b:=2147483647) OV;have c1:=Int.fmod_lt_of_pos (b*39373+7) (b:=2147483647) OV
  revert c0 c1
  generalize (b*39373+7).fmod 2147483647=y;intro c0 c1;refine .setL 0 0 so 1 (fun tk=>tk 1) (.int y u4) rfl OV OV (by show (1:Int) < 2;decide) ?_;refine .itL (k:=1) (tx:=fun tk=>tk 1) (x:=.int y u4) (.o (c:=.lst [.int a t,.int y u4]) so 0 0) OV OV rfl (.k (.k (.int y u4)) rfl ?_);refine .itL (k:=1) (tx:=fun tk=>tk 1) (x:=.int y u4) (.o (c:=.lst [.int a t,.int y u4]) so 0 0) OV OV rfl (.k (.k (.int y u4)) rfl ?_);refine .opi (.bin .Mult) (fun tk=>[.int y u4,.int y u4]) (y*y) (fun tk h Q q=>jC (jD (by lia)) fun k=>q _ ⟨k,rfl⟩) fun u5=>.opi .call (fun U=>[.type "int",.int (y*y) u5]) (y*y) (fun tk h Q q=>kF fun k=>q _ ⟨k,rfl⟩) fun u6=>?_;refine .opi (.bin .Mod) (fun tk=>[.int (y*y) u6,.int 2147483629 (tk 1)]) ((y*y).fmod 2147483629) (fun tk h Q q=>oL OV fun k=>q _ ⟨k,rfl⟩) fun u7=>.opi (.bin .FloorDiv) (fun tk=>[.int ((y*y).fmod 2147483629) u7,.int 32 (tk 1)]) (((y*y).fmod 2147483629).fdiv 32) (fun tk h Q q=>B6 OV (Bm _ _ OV) fun k=>q _ ⟨k,rfl⟩) fun u8=>?_;refine .opi .call (fun U=>[.type "int",.int (((y*y).fmod 2147483629).fdiv 32) u8]) (((y*y).fmod 2147483629).fdiv 32) (fun tk h Q q=>kF fun k=>q _ ⟨k,rfl⟩) fun u9=>.opi (.bin .Mod) (fun U=>[.int (((y*y).fmod 2147483629).fdiv 32) u9,.int top tt]) ((((y*y).fmod 2147483629).fdiv 32).fmod top) (fun tk h Q q=>oL (by lia) fun k=>q _ ⟨k,rfl⟩) fun u10=>?_;exact .finM (c:=.lst [.int a t,.int y u4]) 0 (.ret (.v 11)) [] [] [] (ρ':=[]) fun U v U U U r=>jv ⟨_,_,_,_,rfl,c0,c1⟩ _ u10 (af.det r rfl) (Int.fmod_nonneg_of_pos _ h0) (Int.fmod_lt_of_pos _ h0)
theorem ae.m1 {f a:Addr}{c:an}{P:a8->Value->an->Prop}(i g:Nat)(cn:∀ tk,yF w m (call (.ref f) (vs tk)) a c P Z)(kk:∀ v Z' c',Z.le Z'->P Z' v c'->Co w B O env n t ρ (γ.set g c') Z' Q v)(hm:autoParam (m<=n) tac9)(hc:autoParam (γ[g]? =some c) tac14)
  (Py:autoParam (qo t ρ i=OG 0 g f vs) tac0) (ha:autoParam (ρ[i]? =some (.ref a)) tac0):ae w B O n env t ρ γ Z Q:=
 .mt1 (op:=.call) (P:=P) (vs:=fun tk=>.ref f::vs tk) i g cn (fun v Z' c' l p=>⟨by rw [(Pc (Pc (ff Py)).2).1];rfl,kk v Z' c' l p⟩) hm (by have h:=Pc (ff Py);unfold qg rg;rw [h.1,(Pc h.2).2,(Pc Py).2]) ha hc
theorem ae.take {c:an}(i g:Nat)(so:Addr)(top:Int)(tx:(Nat->Tok)->Tok)(hs:gP c)(h0:0 < top)(h1:top<=100)(kk:∀ p u Z' c',Z.le Z'->gP c'->0<=p->p < top->Co w B O env n t ρ (γ.set g c') Z' Q (.int p u))(hm:autoParam (3<=n) tac9)(hc:autoParam (γ[g]? =some c) tac14)
  (Py:autoParam (qo t ρ i=ro 0 g (fun tk=>[.ref gf,.ref so,.int top (tx tk)])) tac0) (ha:autoParam (ρ[i]? =some (.ref so)) tac0):ae w B O n env t ρ γ Z Q:=
 .m1 (vs:=fun tk=>[.ref so,.int top (tx tk)]) i g (fun tk=>Fy hs h0 h1) (fun v Z' c' l p=>by obtain ⟨Qe,p,u,rfl,p0,p1⟩:=p;exact kk p u Z' c' l Qe p0 p1) hm hc Py ha
theorem MR {P:Params}:bU P wE ke 2:=.mk2
theorem xX {so l:Addr}{c:an}(hs:gP c)(hl:Z l=some (.lst ys))(h0:ys≠[])(h1:ys.length<=100):yF w 6 (call (.ref ke) [.ref so,.ref l]) so c (fun U r c'=>gP c'/\r∈ys) Z:=by
 have h2:0 < ys.length:=List.length_pos_iff.mpr h0;refine kx (n:=3) (N:=2) [.ref so,.ref l] (PD:=[.v 0,.v 1]) (fz:=[]) true 0 0 MR OU (fun B O L Z1 l1=>?_) (cF rfl rfl OU);refine .opI .call (fun U=>[.builtin "len",.ref l]) ys.length (fun tk=>.at (.z (l1 _ _ hl)) fun h Q hd q=>wM hd (aJ h1) fun k=>q _ ⟨k,rfl⟩) fun u1=>.take 0 0 so ys.length (fun U=>u1) hs (by lia) (by lia) fun p u Z2 c' l2 Qe p0 p1=>?_;have hp:p.toNat < ys.length:=by lia
 refine .one rfl (.itL (tx:=fun U=>u) (x:=ys[p.toNat]) (.z ((l1.trans l2) _ _ hl)) p0 (by lia) (List.getElem?_eq_getElem hp) (.k (.k ys[p.toNat]) rfl ?_));exact .finM (c:=c') 0 (.ret (.k ys[p.toNat])) [] [] [] (ρ':=[]) fun U v U U U r=>⟨Qe,(show v=_ from r)▸List.getElem_mem hp⟩
theorem HV {P:Params}:bU P uW i8 2:=.mk2
def HW:List (Nat×aE):=[(0,.dct [(oc,.v 1),(od,.v 2),(lV,.v 3)])]
theorem Fz {sc il fl co:Addr}{k:Nat}{tk tb:Tok}{b:Str}(hf:ac [.ref sc,.ref il,.ref fl,.ref co] Z HW)(hb:b.length<=10)(hk:k < 290):yF w 3 (call (.ref i8) [.ref sc,.str b tb]) co (.lst [.int k tk]) (fun U r c'=>Ic r (nm b (k+1))/\∃ t,c'=.lst [.int (k+1:Nat) t]) Z:=by refine kx (n:=0) (N:=4) [.ref sc,.ref il,.ref fl,.ref co] (PD:=[.v 0,.str b]) true 3 0 HV hf (fun B O L Z1 l1=>?_) ⟨rfl,⟨tb,rfl⟩,OU⟩;have hd:=z8 (k:=k+1) hb (aJ hk);refine .itL (k:=0) (tx:=fun tk=>tk 1) (x:=.int k tk) (.o (c:=.lst [.int k tk]) co 3 0) OV OV rfl (.k (.k (.int k tk)) rfl ?_);refine .opi (.bin .Add) (fun PS=>[.int k tk,.int 1 (PS 1)]) ((k+1:Nat):Int) (fun tk h Q q=>lk fun k=>q _ ⟨k,rfl⟩) fun k1=>?_;refine .setL 3 0 co 0 (fun tk=>tk 1) (.int (k+1:Nat) k1) rfl OV OV (by show (0:Int) < 1;decide) ?_;refine .opss (.bin .Add) (fun tk=>[.str b (tk 0),.str ew (tk 1)]) (b++ew) (fun tk h Q q=>o7 (by have:ew.length=1:=rfl;exact bo hb (Nat.le_of_eq this)) fun k=>q _ ⟨k,rfl⟩) fun k2=>?_;refine .itL (k:=0) (tx:=fun tk=>tk 1) (x:=.int (k+1:Nat) k1) (.o (c:=.lst [.int (k+1:Nat) k1]) co 3 0) OV OV rfl (.k (.k (.int (k+1:Nat) k1)) rfl ?_);refine .opss .call (fun tk=>[.type "str",.int ((k+1:Nat):Int) k1]) (jJ (k+1)) (fun tk h Q q=>wL (by lia) fun k=>q _ ⟨k,rfl⟩) fun k3=>?_;refine .opss (.bin .Add) (fun tk=>[.str (b++ew) k2,.str (jJ (k+1)) k3]) (nm b (k+1)) (fun tk h Q q=>o7 hd fun k=>q _ ⟨k,rfl⟩) fun k4=>?_;exact .finM (c:=.lst [.int (k+1:Nat) k1]) 0 (.ret (.v 7)) [] [] [] (ρ':=[]) fun U v U U U r=>⟨⟨k4,af.det r rfl⟩,k1,rfl⟩
noncomputable def MS:Expr:=.Tuple [] 0 default
def dk (i:Nat):Expr->Expr
 | .Dict ks _ _=>(ks[i]?.getD none).getD MS
 | e=>e
noncomputable def cD:Expr->Nat
 | .Constant _ d _=>d
 | _=>0
noncomputable def cP:Expr->Pos
 | .Constant _ _ p=>p
 | _=>default
def dv (i:Nat):Expr->Expr
 | .Dict _ vs _=>vs[i]?.getD MS
 | e=>e
noncomputable def dp:Expr->Pos
 | .Dict _ _ p=>p
 | _=>default
abbrev D3 (k1 k2 k3:Str)(e:Expr):Expr:=.Dict [some (.Constant (.str k1) (cD (dk 0 e)) (cP (dk 0 e))),some (.Constant (.str k2) (cD (dk 1 e)) (cP (dk 1 e))),some (.Constant (.str k3) (cD (dk 2 e)) (cP (dk 2 e)))] [dv 0 e,dv 1 e,dv 2 e] (dp e)
def OJ {α:Type}(F:FI)(t:IT α):IT (List SV):=((ev F 40).e (dv 0 t.qE) t.st).bind fun v1 s=>((ev F 40).e (dv 1 t.qE) s).bind fun v2 s=>((ev F 40).e (dv 2 t.qE) s).bind fun v3 s=>.ret [v1,v2,v3] s
noncomputable def OK (k1 k2 k3:Str):List SV->List (Str×SV)
 | [a,b,c]=>[(k1,a),(k2,b),(k3,c)]
 | _=>[]
variable {F:FI}
theorem ae.dict3 (k1 k2 k3:Str)(F:FI)(E:bS env F)(hk:[k1,k2,k3].Nodup)(g:ae w B O (n+2) env (OJ F t) ρ γ Z fun vs s ρ γ Z=>∀ d:Addr,ae w B O (n+2) env (t.nx (.v s.nv) (nc (.dct (OK k1 k2 k3 vs)) s)) (ρ++[.ref d]) γ Z Q)
  (hq:autoParam (t.qop=some (.expr (D3 k1 k2 k3 t.qE))) tac0):ae w B O (n+2) env t ρ γ Z Q:=by
 have g:=g.run;unfold OJ at g;refine .ofE hq fun T h xs S r=>?_;refine S.here fun Zs ms R l H=>Eh H.st fun d h0 St0=>?_;have S0:bL w B O ((d,.dct [])::T) env t.st ρ γ Z h0:=⟨H.ln,H.ok,Zs,ms,R,l,St0.unmid,H.rm,H.re,H.co,H.fz⟩
 refine ((oj E 40).e (ao.bind g) S0).out fun a x s1 ρ1 γ1 Z1 h1 x1 r1 S1 g=>?_;refine ((oj E 40).e (ao.bind g) S1).out fun b y s2 ρ2 γ2 Z2 h2 x2 r2 S2 g=>?_;refine ((oj E 40).e (ao.bind g) S2).out fun c z s3 ρ3 γ3 Z3 h3 x3 r3 S3 g=>?_;refine S3.here fun UL Sr R3 l3 H3=>bR UL 0 ((d,.dct [])::(env.locals,.ns Sr)::(R3++T)) H3.st.mid.swap rfl (fun h' UK=>?_);have hm:merged [] [(k1,x),(k2,y),(k3,z)]=[(k1,x),(k2,y),(k3,z)]:=merged_nil_of_nodup _ hk;rw [List.set_cons_zero,hm] at UK;exact ⟨.v s3.nv,nc (.dct (OK k1 k2 k3 [a,b,c])) s3,ρ3++[Value.ref d],γ3,Z3,x1.trans (x2.trans (x3.trans (.one _ _))),cG H3.ln,⟨by rw [List.length_append,H3.ln];rfl,fun x hx=>(OX hx).elim (H3.ok x) (DO rfl x),UL,Sr,(d,.dct [(k1,x),(k2,y),(k3,z)])::R3,l3,UK.swap,H3.rm.ext (.one _ _),⟨(mU (cG H3.ln) _ rfl ⟨⟨rfl,r1.ext (x2.trans (x3.trans (.one _ _)))⟩,⟨rfl,r2.ext (x3.trans (.one _ _))⟩,⟨rfl,r3.ext (.one _ _)⟩,OU⟩),kt _ H3.re⟩,H3.co,fun p hp=>(H3.fz p hp).ext (.one _ _) (.refl _)⟩,g d⟩
noncomputable def bb.frK (j:Nat)(s:bb):bb:=match s.led[j]? with
 | some (.own i c)=>{s with led:=s.led.eraseIdx j,fz:=(i,c)::s.fz}
 | _=>s
theorem ae.frzK (i j:Nat)(c:aE)(k:∀ Z',Z.le Z'->ae w B O n env (t.wst (t.st.frK j)) ρ γ Z' Q)(Py:autoParam ((t.isAsk,(t.st.led[j]?,(SL.own i c).isOpq))=(true,(some (.own i c),false))) tac0):ae w B O n env t ρ γ Z Q:=
 ae.pre (ff Py) fun T h S=>S.here fun Zs ms R l H=>by
  have hj:=(Pc (Pc Py).2).1;have ho:=(Pc (Pc Py).2).2;refine bM (ak.get H.re hj) fun Qs h2 h3=>?_;obtain ⟨a,C⟩:=Qs;refine d6 ((H.st.front (mD h2)).fzw) fun Z' l' z PE=>?_;rw [r7 h2] at PE;have e:t.st.frK j={t.st with led:=t.st.led.eraseIdx j,fz:=(i,c)::t.st.fz}:=by unfold bb.frK;rw [hj]
  refine ⟨t.st.frK j,ρ,γ,Z',.refl _,?_,k Z' (l.trans l')⟩;rw [e]
  exact ⟨S.len,S.ok,Z',ms,_,.refl _,PE,H.rm,H.re.erase,(r6 hj ho H.re.len).trans H.co,fun p hp=>by
   rcases OY hp with rfl | hp
   ·exact h3.fact ho z
   ·exact (H.fz p hp).ext (.refl _) l'⟩
theorem ws {P:Params}:bU P ml e9 3:=.mk3
theorem oI {sc il fl co a b:Addr}{us vs : LV}(hf:ac [.ref sc,.ref il,.ref fl,.ref co] Z HW)(hi:Z il=some (.lst xs))(hl:Z fl=some (.lst ys))(ha:Z a=some (.lst us))(hb:Z b=some (.lst vs))(h1:xs.length+us.length<=200)(h2:ys.length+vs.length<=200):
  RT w 3 e9 [.ref sc,.ref a,.ref b] (fun Z r=>∃ Q2 SH QF,r=.ref Q2/\ac [.ref Q2,.ref SH,.ref QF,.ref co] Z HW/\Z SH=some (.lst (xs++us))/\Z QF=some (.lst (ys++vs))) Z:=by refine bu (n:=0) (N:=6) [.ref sc,.ref il,.ref fl,.ref co,.ref a,.ref b] (PD:=[.v 0,.v 4,.v 5]) true ws (hf.more [.ref a,.ref b] (.refl _)) (fun B O L Z1 l1=>?_) (fu rfl rfl rfl OU);refine .dict3 oc od lV (fi ml true) ((ws (P:=w.params)).env true L) OV ?_;refine .nf (op:=.bin .Add) (vs:=fun U=>[.ref il,.ref a]) (c:=.pls (xs++us)) (fun tk T h Zs ms R l H Q q=>wN H.st (H.st.z ((l1.trans l) _ _ hi)) (H.st.z ((l1.trans l) _ _ ha)) (aJ h1) q) fun SH Z2 l2 z2=>.one rfl ?_;refine .nf (op:=.bin .Add) (vs:=fun U=>[.ref fl,.ref b]) (c:=.pls (ys++vs)) (fun tk T h Zs ms R l H Q q=>wN H.st (H.st.z ((l1.trans (l2.trans l)) _ _ hl)) (H.st.z ((l1.trans (l2.trans l)) _ _ hb)) lw q) fun QF Z3 l3 z3=>.one rfl ?_;exact .done [] fun Q2=>.finO (.ret (.v 8)) [8,6,7,3] HW [] (ρ':=[.ref Q2,.ref SH,.ref QF,.ref co]) fun Zs v l4 h U r=>pF Q2 SH QF (af.det r rfl) h ((l3.trans l4) _ _ z2) (l4 _ _ z3)
variable {KB QS k:Nat}{Z':a8}{Γ:List (Str×cU)}{sc co so:Addr}{c:an}
structure oJ (Γ:List (Str×cU))(KB k:Nat)(Z:a8)(sc co:Addr):Prop where
 s:Sc k Γ
 ex:∃ (il fl:Addr) (xi:List (Str×Tok)) (xf:List Addr),ac [.ref sc,.ref il,.ref fl,.ref co] Z HW/\Z il=some (.lst (xi.map bN))/\Z fl=some (.lst (xf.map .ref))/\xi.length+100<=k/\xf.length+99<=k/\
  (∀ p∈xi,∃ k,(p.1,k)∈Γ/\(k=.int\/k=.val))/\∀ a∈xf,∃ h t k u K,Z a=some (.tup [.str h t,.int (k:Nat) u])/\(h,.fn k K)∈Γ/\(k=1\/k=2)/\K<=KB
theorem oJ.le (h:oJ Γ KB k Z sc co)(l:Z.le Z'):oJ Γ KB k Z' sc co:=by refine ⟨h.s,?_⟩;refine dR h.ex fun il fl xi xf h1 h2 h3 h4 h5 h6 h7=>?_;exact lj il fl xi xf (h1.ext (.refl _) l) (l _ _ h2) (l _ _ h3) h4 h5 h6 (fun a ha=>o3 (h7 a ha) fun h t k y=>iQ y fun u K e r=>E2 h t k u K (l _ _ e) r)
theorem HY {P:Params}:bU P uX j7 2:=.mk2
noncomputable def pE (w:World)(Γ:List (Str×cU))(m s f i q:Nat):a8->Value->Prop:=fun Z r=>∃ v e,r=.ref v/\CX w Γ e m s f i q Z v
noncomputable def MT (w:World)(Γ:List (Str×cU)):a8->Value->an->Prop:=fun Z r c'=>gP c'/\∃ v e,r=.ref v/\CX w Γ e 4 0 8 8 6 Z v
theorem uL (hs:gP c)(hz:oJ Γ KB k Z sc co)(hn:k<=200):yF w 9 (call (.ref j7) [.ref so,.ref sc]) so c (MT w Γ) Z:=by
 refine dR hz.ex fun il fl xi xf h1 h2 h3 h4 h5 h6 h7=>?_;refine kx (n:=6) (N:=5) [.ref so,.ref sc,.ref il,.ref fl,.ref co] (PD:=[.v 0,.v 1]) true 0 0 HY (fz:=[(1,.dct [(oc,.v 2),(od,.v 3),(lV,.v 4)])]) (h1.pt [1,2,3,4]) (fun B O L Z1 l1=>?_) (cF rfl rfl OU);have Y3:=l1 _ _ h2;refine .al1 fun nn=>?_;cases xi with
 | nil=>refine .opB (.cmp .NotEq) (fun U=>[.ref il,.ref nn]) false (fun tk T h Zs ms R l H Q q=>jb (H.st.z (l _ _ Y3)) (fk.nil (Z:=Z1) (a:=nn) 5 OT OT T h Zs ms R l H) (q _ _ H.st rfl)) ?_;refine .take 0 0 so 7 (fun tk=>tk 2) hs OV OV fun p u Z2 c' l2 Qe p0 p1=>.one rfl (.al1 fun v=>?_);exact .finM (c:=c') 0 (.ret (.v 7)) [7,6] pB [] (ρ':=[.ref v,.int p u]) fun Zs r l3 h U e=>ye Qe v _ (af.det e rfl) (xV h)
 | cons x0 xs=>
  refine .opB (.cmp .NotEq) (fun U=>[.ref il,.ref nn]) true (fun tk T h Zs ms R l H Q q=>jb (H.st.z (l _ _ Y3)) (fk.nil (Z:=Z1) (a:=nn) 5 OT OT T h Zs ms R l H) (q _ _ H.st rfl)) ?_;refine .take 0 0 so 3 (fun tk=>tk 2) hs OV OV fun p u Z2 c' l2 Qe p0 p1=>.one rfl ?_
  by_cases hp:p > 0
  ·refine .opb (.cmp .Gt) (fun tk=>[.int p u,.int 0 (tk 1)]) true (fun tk h Q q=>qD (q _ (Pl _ (Pt hp)))) ?_;refine .m1 (vs:=fun U=>[.ref so,.ref il]) 0 0 (fun U=>xX Qe (l2 _ _ Y3) (by simp) (by rw [List.length_map];exact bo hn h4)) fun v Z3 c2 l3 pv=>?_;refine oA pv fun Qm hv=>?_;clear pv;refine bM (Pa hv) fun q hq PL=>?_;subst PL;refine .one rfl (.al1 fun v=>?_);exact .finM (c:=c2) 0 (.ret (.v 8)) [8,7] nr [] (ρ':=[.ref v,.str q.1 q.2]) fun Zs r l3 h U e=>bM (h6 q hq) fun k hk PG=>(ye Qm v _ (af.det e rfl) (Db h hk PG))
  ·refine .opb (.cmp .Gt) (fun tk=>[.int p u,.int 0 (tk 1)]) false (fun tk h Q q=>qD (q _ (Pl _ (Pr hp)))) ?_;refine .take 0 0 so 7 (fun tk=>tk 2) Qe OV OV fun p u Z2 c' l2 Qe p0 p1=>.one rfl (.al1 fun v=>?_);exact .finM (c:=c') 0 (.ret (.v 8)) [8,7] pB [] (ρ':=[.ref v,.int p u]) fun Zs r l3 h U e=>ye Qe v _ (af.det e rfl) (xV h)
theorem oJ.up(h:oJ Γ KB k Z sc co)(hk:k<=k')(To:KB<=QS):oJ Γ QS k' Z sc co:=by refine ⟨h.s.le hk,?_⟩;refine dR h.ex fun il fl xi xf h1 h2 h3 h4 h5 h6 h7=>?_;exact lj il fl xi xf h1 h2 h3 (bo hk h4) lw h6 (fun a ha=>iJ (h7 a ha) fun h t k u K e r1 r2 r3=>gY h t k u K e r1 r2 (Pg r3 To))
theorem oJ.wide(h:oJ Γ KB k Z sc co)(hs:Sc k' Γ')(hk:k<=k')(sub:∀ p∈Γ,p∈Γ'):oJ Γ' KB k' Z sc co:=by refine ⟨hs,?_⟩;refine dR h.ex fun il fl xi xf h1 h2 h3 h4 h5 h6 h7=>?_;exact lj il fl xi xf h1 h2 h3 (bo hk h4) lw (fun p hp=>bM (h6 p hp) fun k a b=>bw k (sub _ a) b) (fun a ha=>iJ (h7 a ha) fun h t k u K e r1 r2 r3=>gY h t k u K e (sub _ r1) r2 r3)
theorem go {a b:Addr}{ns:List (Str×Tok)}(hz:oJ Γ KB k Z sc co)(ha:Z a=some (.lst (ns.map bN)))(hb:Z b=some (.lst []))(hk:k+ns.length<=k')(PG:k'<=200)(hs:Sc k' Γ')(sub:∀ p∈Γ,p∈Γ')(hn:∀ p∈ns,∃ kd,(p.1,kd)∈Γ'/\(kd=.int\/kd=.val)):
  RT w 3 e9 [.ref sc,.ref a,.ref b] (fun Z r=>∃ Q2,r=.ref Q2/\oJ Γ' KB k' Z Q2 co) Z:=by
 refine dR hz.ex fun il fl xi xf h1 h2 h3 h4 h5 h6 h7=>?_;refine (oI h1 h2 h3 ha hb (by simp only [List.length_map];exact ja hk PG h4) (by simp only [List.length_map,List.length_nil];exact ja hk PG h5)).imp fun Z' r l y=>fq y fun Q2 SH QF e hf y=>oA y fun hi hl=>bw Q2 e ⟨hs,SH,QF,xi++ns,xf,hf,by rw [List.map_append];exact hi,by rw [List.append_nil] at hl;exact hl,by rw [List.length_append];exact bo hk h4,bo hk h5,fun p hp=>?_,fun a ha=>iJ (h7 a ha) fun h t k u K e r1 r2 r3=>gY h t k u K (l _ _ e) (sub _ r1) r2 r3⟩;rcases OX hp with hp | hp
 ·refine bM (h6 p hp) fun k a b=>?_;exact bw k (sub _ a) b
 ·exact hn p hp
theorem xY {a b tp:Addr}{kk K : Nat}{h:Str}{t u:Tok}(hz:oJ Γ KB k Z sc co)(ha:Z a=some (.lst []))(hb:Z b=some (.lst [.ref tp]))(Y4:Z tp=some (.tup [.str h t,.int (kk:Nat) u]))(hk:k+1<=k')(PG:k'<=200)(hs:Sc k' Γ')(sub:∀ p∈Γ,p∈Γ')(hn:(h,.fn kk K)∈Γ')(QY:kk=1\/kk=2)(To:KB<=QS)(hK:K<=QS):
  RT w 3 e9 [.ref sc,.ref a,.ref b] (fun Z r=>∃ Q2,r=.ref Q2/\oJ Γ' QS k' Z Q2 co) Z:=by
 refine dR hz.ex fun il fl xi xf h1 h2 h3 h4 h5 h6 h7=>?_;refine (oI h1 h2 h3 ha hb (by simp only [List.length_map,List.length_nil];exact ja hk PG h4) (by simp only [List.length_map,List.length_cons,List.length_nil];exact ja hk PG h5)).imp fun Z' r l y=>fq y fun Q2 SH QF e hf y=>oA y fun hi hl=>bw Q2 e ⟨hs,SH,QF,xi,xf++[tp],hf,by rw [List.append_nil] at hi;exact hi,by rw [List.map_append];exact hl,bo hk h4,by rw [List.length_append];symm;exact bo hk h5,fun p hp=>bM (h6 p hp) fun k a b=>bw k (sub _ a) b,fun a ha=>?_⟩;rcases OX ha with ha | ha
 ·refine iJ (h7 a ha) fun h t k u K e r1 r2 r3=>?_;exact gY h t k u K (l _ _ e) (sub _ r1) r2 (Pg r3 To)
 ·obtain rfl:=List.mem_singleton.mp ha;exact gY h t kk u K (l _ _ Y4) hn QY hK
noncomputable def lL (k cn:Nat)(P:a8->Value->Prop):a8->Value->an->an->Prop:=fun Z r c d=>gP c/\∃ k' PS,d=.lst [.int (k':Nat) PS]/\k<=k'/\k'<=k+cn/\P Z r
theorem ae.gen {f:Addr}{cn:Nat}{tk:Tok}{P:a8->Value->Prop}(i i':Nat)(h:∀ PS,r9 w m (call (.ref f) (vs PS)) so co c (.lst [.int k tk]) (lL k cn P) Z)(kk:∀ v Z' c' k' PS,Z.le Z'->gP c'->k<=k'->k'<=k+cn->P Z' v->Co w B O env n t ρ [c',.lst [.int k' PS]] Z' Q v)(hm:autoParam (m<=n) tac9)
  (Py:autoParam (q2 t ρ i i'=Nf 0 0 0 1 f vs) tac0) (ha:autoParam (ρ[i]? =some (.ref so)) tac0) (hb:autoParam (ρ[i']? =some (.ref co)) tac0):ae w B O n env t ρ [c,.lst [.int k tk]] Z Q:=by have q1:=Pc (ff Py);have q2:=Pc q1.2;have q3:=Pc q2.1;have q4:=Pc q2.2;have q5:=Pc q4.1;refine .mt2 (op:=.call) (P:=lL k cn P) (vs:=fun tk=>.ref f::vs tk) i 0 i' 1 h (fun v Z' c' d' l p=>?_) hm q4.2 (by unfold qg rg;rw [q1.1,q3.2,(Pc Py).2]) ha rfl q5.2 hb rfl;refine o4 p fun hs k' PS PZ p1 Vx=>?_;clear p;refine oA Vx fun p2 p3=>?_;clear Vx;subst PZ;exact ⟨by rw [q3.1,q5.1];rfl,kk v Z' c' k' PS l hs p1 p2 p3⟩
theorem ae.genI {f:Addr}{cn : Nat}{tk:Tok}(i i':Nat)(h:∀ PS,r9 w m (call (.ref f) (vs PS)) so co c (.lst [.int k tk]) (lL k cn (pE w Γ mI sI fI iI qI)) Z)(kk:∀ b e Z' c' k' PS,Z.le Z'->gP c'->k<=k'->k'<=k+cn->CX w Γ e mI sI fI iI qI Z' b->ae w B O n env t.n1 (sn ρ (.ref b)) [c',.lst [.int k' PS]] Z' Q)(hm:autoParam (m<=n) tac9)
  (Py:autoParam (q2 t ρ i i'=Nf 0 0 0 1 f vs) tac0) (ha:autoParam (ρ[i]? =some (.ref so)) tac0) (hb:autoParam (ρ[i']? =some (.ref co)) tac0):ae w B O n env t ρ [c,.lst [.int k tk]] Z Q:=.gen i i' h (fun v Z' c' k' PS l h1 h2 h3 p=>by refine iQ p fun b e Q4 hb=>?_;clear p;subst Q4;exact .one rfl (kk b e Z' c' k' PS l h1 h2 h3 hb)) hm Py ha hb
theorem ae.genT {t:IT SF}{f:Addr}{cn kR : Nat}{tk:Tok}(i i' J:Nat)(h:∀ PS,r9 w m (call (.ref f) (vs PS)) so co c (.lst [.int k tk]) (lL k cn (pE w Γ mI sI fI iI qI)) Z)(hk:kR<=k)(TU:k+cn<=kR+Wn)(b1:mI<=mR)(b2:sI<=sR)(b3:fI<=fR)(b4:iI<=iR)(b5:qI<=qR)(hm:autoParam (m<=n) tac9)
  (Py:autoParam (q2 t ρ i i'=Nf 0 0 0 1 f vs) tac0) (ha:autoParam (ρ[i]? =some (.ref so)) tac0) (hb:autoParam (ρ[i']? =some (.ref co)) tac0) (hq:autoParam (qn t.n1 [] [] [] i i'=(true,(.ret (.v J),(some 0,some 0)))) tac0) (hJ:autoParam (ρ.length=J) tac4):ae w B O n env t ρ [c,.lst [.int k tk]] Z (yP i i' so co (lL kR Wn (pE w Γ mR sR fR iR qR))):=.genI i i' h (fun b e Z' c' k' PS l h1 h2 h3 hb'=>.finM2 (c:=c') (d:=.lst [.int k' PS]) 0 0 (.ret (.v J)) [] [] [] (ρ':=[]) (fun Zs r l7 U U er=>dX h1 k' PS rfl (Pg hk h2) (Pg h3 TU) b e (af.det er (cG hJ)) ((hb'.le l7).up b1 b2 b3 b4 b5)) rfl rfl hq rfl (iY.get (.one _ _) ha) (iY.get (.one _ _) hb)) hm Py ha hb
theorem ae.tk {tk:Tok}{cs:an}(i:Nat)(so:Addr)(top:Int)(tx:(Nat->Tok)->Tok)(hs:gP c)(h0:0 < top)(h1:top<=100)(kk:∀ p u Z' c',Z.le Z'->gP c'->0<=p->p < top->Co w B O env n t ρ [c',cs] Z' Q (.int p u))(hm:autoParam (3<=n) tac9)
  (Py:autoParam (qo t ρ i=ro 0 0 (fun tk=>[.ref gf,.ref so,.int top (tx tk)])) tac0) (ha:autoParam (ρ[i]? =some (.ref so)) tac0):ae w B O n env t ρ [c,cs] Z Q:=.take i 0 so top tx hs h0 h1 kk hm rfl Py ha
theorem ae.nam {tk:Tok}(i:Nat)(b:Str)(tx:(Nat->Tok)->Tok)(hz:oJ Γ KB k Z sc co)(hb:b.length<=10){k1:Nat}(hk:k1 < 290)(kk:∀ u Z' PS,Z.le Z'->ae w B O n env t.n1 (sn ρ (.str (nm b (k1+1)) u)) [c,.lst [.int (k1+1:Nat) PS]] Z' Q)(hm:autoParam (3<=n) tac9)
  (Py:autoParam (qo t ρ i=ro 0 1 (fun tk=>[.ref i8,.ref sc,.str b (tx tk)])) tac0) (ha:autoParam (ρ[i]? =some (.ref co)) tac0):ae w B O n env t ρ [c,.lst [.int k1 tk]] Z Q:=by
 refine dR hz.ex fun il fl xi xf h1 h2 h3 h4 h5 h6 h7=>?_
 exact .m1 (vs:=fun tk=>[.ref sc,.str b (tx tk)]) i 1 (fun U=>Fz h1 hb hk) (fun v Z' c' l p=>by refine E1 p fun TC PS Qt=>?_;clear p;refine oE TC fun u R5=>?_;clear TC;subst R5;subst Qt;exact .one rfl (kk u Z' PS l)) hm rfl Py ha
def gp (w:World)(n d KB m s f i q cn:Nat):Prop:=∀ (Z:a8) (so sc co:Addr) (c:an) (k:Nat) (tk td:Tok) (Γ:List (Str×cU)),oJ Γ KB k Z sc co->100<=k->k+cn<=200->gP c->
 r9 w n (call (.ref aS) [.ref so,.ref sc,.int (d:Nat) td]) so co c (.lst [.int (k:Nat) tk]) (lL k cn (pE w Γ m s f i q)) Z
inductive MU (w:World)(Γ:List (Str×cU))(m s f i q:Nat)(Z:a8)(r:Value):Prop
 | mk (l v kk u g) (_:r=.ref l) (_:Z l=some (.lst [.ref v,.int (kk:Nat) u])) (_:(kk=1\/kk=2)) (_:FX w Γ kk g m s f i q Z v):MU w Γ m s f i q Z r
def HZ (w:World)(n d KB m s f i q cn:Nat):Prop:=∀ (Z:a8) (so sc co:Addr) (c:an) (k:Nat) (tk td:Tok) (Γ:List (Str×cU)),oJ Γ KB k Z sc co->100<=k->k+cn<=200->gP c->
 r9 w n (call (.ref cf) [.ref so,.ref sc,.int (d:Nat) td]) so co c (.lst [.int (k:Nat) tk]) (lL k cn (MU w Γ m s f i q)) Z
theorem FA {d:Nat}{td u:Tok}{h:Heap}{Q:VP}(q:∀ k,Q (.int (d:Nat) k) h):W PW w n (binaryOp .Sub (.int (d+1:Nat) td) (.int 1 u)) Q h:=mZ fun k=>by
 have e:((d+1:Nat):Int) - 1=(d:Nat):=by lia
 rw [e];exact q k
theorem ae.dec {d:Nat}(td:Tok)(g:∀ k,ae w B O n env t.n1 (sn ρ (.int (d:Nat) k)) γ Z Q)(Py:autoParam (qa t ρ=ra (.bin .Sub) (fun tk=>[.int (d+1:Nat) td,.int 1 (tk 1)])) tac0):ae w B O n env t ρ γ Z Q:=.opi (.bin .Sub) (fun tk=>[.int (d+1:Nat) td,.int 1 (tk 1)]) d (fun tk h Q q=>FA fun k=>q _ ⟨k,rfl⟩) g Py
theorem bK.l2i {i : Nat}{k:Int}{a:Addr}{x:Value}(h:bK ρ Z i (.lst [.v j,.int k]))(ha:autoParam (ρ[i]? =some (.ref a)) tac10)(hx:autoParam (ρ[j]? =some x) tac10):∃ t,Z a=some (.lst [x,.int k t]):=by obtain ⟨b,vs,h1,h2,h3⟩:=h;rw [ha] at h1;cases h1;obtain ⟨y,vs,rfl,h4,h3⟩:=ak.cons_r h3;obtain ⟨z,Tp,rfl,h5,h6⟩:=ak.cons_r h3;obtain rfl:=ak.nil_r h6;refine oE h5 fun t PL=>?_;clear h5;subst PL;obtain rfl:=af.det h4 hx;exact ⟨t,h2⟩
theorem rW {P:Params}:bU P kB cf 3:=.mk3
theorem uM {d KB m s f i q cn:Nat}(hc:gp w n d KB m s f i q cn)(hn:9<=n)(hq:f+8<=q)(hf:f<=800)(h3:3<=m):HZ w (n+3) (d+1) KB m s f i (q+3) (cn+2):=by
 intro Z so sc co c k tk td Γ hz hk PG hs;refine fA (n:=n) (N:=4) [.ref so,.ref sc,.ref co,.int (d+1:Nat) td] (PD:=[.v 0,.v 1,.v 3]) true 0 2 0 0 rW (fz:=[]) OU (fun B O L Z1 l1=>?_) (fu rfl rfl rfl OU);refine .compAq true (fi kB true) ((rW (P:=w.params)).env true L) ?_;refine .tk (tk:=tk) 0 so 2 (fun tk=>tk 2) hs OV OV fun p u Z2 c' l2 Qe p0 p1=>?_;have hp:p=0\/p=1:=by lia
 rcases hp with rfl | rfl
 ·refine .k (.int 0) ⟨u,rfl⟩ (.al1 fun U=>kw (fun L'=>?_) OT OT (by ac_rfl));refine .nam (k:=k) (k1:=k) (tk:=tk) 2 na (fun tk=>tk 2) (hz.le (l1.trans l2)) OV (aJ PG) fun u1 Z3 Q9 l3=>.done [] ⟨by ac_rfl,fun nl=>?_⟩;have hx:gO k 250 (nm na (k+1)):=⟨na,k+1,rfl,rfl,lw,lw⟩
  have RK:gO 100 (k+1) (nm na (k+1)):=⟨na,k+1,rfl,rfl,aJ hk,lw⟩
  have hΓ:Sc (k+1) ((nm na (k+1),.int)::Γ):=hz.s.cons lw RK;refine .al1 fun el=>.frzK 7 0 (.lst []) fun Z4 l4=>.facts [6,5,7] [(0,.lst [.v 1]),(2,.lst [])] (ρ':=[.ref nl,.str (nm na (k+1)) u1,.ref el]) fun Z5 l5 VX=>?_;have UW:=l1.trans (l2.trans (l3.trans (l4.trans l5)));refine .rt (vs:=fun U=>[.ref sc,.ref nl,.ref el]) (fun U=>go (ns:=[(nm na (k+1),u1)]) (k':=k+1) (hz.le UW) VX.1.lv VX.2.1.lv ll lw hΓ (fun p hp=>.tail _ hp) (fZ (bw _ (.head _) (.inl rfl)))) fun r Z6 l6 p=>?_;refine bM p fun Q2 PZ Rw=>?_;clear p;subst PZ;refine .one rfl ?_;refine .dec (d:=d) td fun u2=>?_;refine .genI (f:=aS) (vs:=fun U=>[.ref so,.ref Q2,.int (d:Nat) u2]) (cn:=cn) 0 2 (fun U=>hc Z6 so Q2 co c' (k+1) Q9 u2 _ Rw lw (aJ PG) Qe) fun b e Z7 c2 k2 Qj l7 Qm RP Q5 hb=>?_;refine .al2 fun v lr=>?_
  exact .finM2 (c:=c2) (d:=.lst [.int k2 Qj]) 0 0 (.ret (.v 12)) [12,11,10,6,5] [(0,.lst [.v 1,.int 1]),(1,.obj dZ [(aO,.v 3),(aB,.v 2)]),(3,.lst [.v 4])] [] (ρ':=[.ref lr,.ref v,.ref b,.ref nl,.str (nm na (k+1)) u1]) fun Zs r l8 h U e=>mX Qm k2 Qj rfl lw (aJ Q5) (by refine oE h.1.l2i fun t1 z1=>?_;exact ⟨lr,v,1,t1,_,af.det e rfl,z1,.inl rfl,Fv (h.sl [1,2,3,4]) hz.s (by lia) hx (hb.le l8) hq hf h3⟩)
 ·refine .k (.int 1) ⟨u,rfl⟩ (.al1 fun U=>kw (fun L'=>?_) OT OT (by ac_rfl));refine .nam (k:=k) (k1:=k) (tk:=tk) 2 na (fun tk=>tk 2) (hz.le (l1.trans l2)) OV (aJ PG) fun u1 Z3 Q9 l3=>?_;refine .nam (k:=k) (k1:=k+1) (tk:=Q9) 2 na (fun tk=>tk 2) (hz.le (l1.trans (l2.trans l3))) OV (aJ PG) fun TK Z3' Y5 l3'=>.done [] ⟨by ac_rfl,fun nl=>?_⟩;have hx:gO k (k+1) (nm na (k+1)):=⟨na,k+1,rfl,rfl,lw,lw⟩
  have hy:gO (k+1) 250 (nm na (k+1+1)):=⟨na,k+2,rfl,rfl,lw,lw⟩
  have hy':gO 100 (k+2) (nm na (k+1+1)):=⟨na,k+2,rfl,rfl,aJ hk,lw⟩
  have RK:gO 100 (k+2) (nm na (k+1)):=⟨na,k+1,rfl,rfl,aJ hk,lw⟩
  have hΓ:Sc (k+2) ((nm na (k+1),.int)::(nm na (k+1+1),.int)::Γ):=(hz.s.cons lw hy').cons ll RK;refine .al1 fun el=>.frzK 8 0 (.lst []) fun Z4 l4=>.facts [7,5,6,8] [(0,.lst [.v 1,.v 2]),(3,.lst [])] (ρ':=[.ref nl,.str (nm na (k+1)) u1,.str (nm na (k+1+1)) TK,.ref el]) fun Z5 l5 VX=>?_;have UW:=l1.trans (l2.trans (l3.trans (l3'.trans (l4.trans l5))));refine .rt (vs:=fun U=>[.ref sc,.ref nl,.ref el]) (fun U=>go (ns:=[(nm na (k+1),u1),(nm na (k+1+1),TK)]) (k':=k+2) (hz.le UW) VX.1.lv VX.2.1.lv ll lw hΓ (fun p hp=>.tail _ (.tail _ hp)) (kO (bw _ (.head _) (.inl rfl)) (fZ (bw _ (.tail _ (.head _)) (.inl rfl))))) fun r Z6 l6 p=>?_;refine bM p fun Q2 PQ Rw=>?_;clear p;subst PQ;refine .one rfl (.dec (d:=d) td fun u2=>?_);refine .genI (f:=aS) (vs:=fun U=>[.ref so,.ref Q2,.int (d:Nat) u2]) (cn:=cn) 0 2 (fun U=>hc Z6 so Q2 co c' (k+2) Y5 u2 _ Rw lw (aJ PG) Qe) fun b e Z7 c2 k2 Qj l7 Qm RP Q5 hb=>?_;refine .tk (tk:=tk) 0 so 2 (fun tk=>tk 2) Qm OV OV fun p u3 Z8 c3 l8 TL p0 p1=>.one rfl ?_
  by_cases hp:p=0
  ·refine .opb (.cmp .Eq) (fun tk=>[.int p u3,.int 0 (tk 1)]) true (fun tk h Q q=>kD (q _ (by rw [hp];rfl))) ?_;refine .al3 fun Y6 Y7 v2=>.al2 fun v lr=>?_
   exact .finM2 (c:=c3) (d:=.lst [.int k2 Qj]) 0 0 (.ret (.v 17)) [17,16,15,13,5,11,14,6] [(0,.lst [.v 1,.int 2]),(1,.obj dZ [(aO,.v 3),(aB,.v 2)]),(3,.lst [.v 4]),(2,.obj dZ [(aO,.v 6),(aB,.v 5)]),(6,.lst [.v 7])] [] (ρ':=[.ref lr,.ref v,.ref v2,.ref Y6,.str (nm na (k+1)) u1,.ref b,.ref Y7,.str (nm na (k+1+1)) TK]) fun Zs r l9 h U e=>mX TL k2 Qj rfl lw (aJ Q5) (by refine oE h.1.l2i fun t1 z1=>?_;exact ⟨lr,v,2,t1,_,(af.det e OT:r=.ref lr),z1,.inr rfl,Dm (K1:=k+1) (h.sl [1,2,3,4,5,6,7]) hz.s (by lia) hx hy (aJ PG) (hb.le (l8.trans l9)) hq hf h3⟩)
  ·refine .opb (.cmp .Eq) (fun tk=>[.int p u3,.int 0 (tk 1)]) false (fun tk h Q q=>kD (q _ (Pl Value.bool (beq_eq_false_iff_ne.mpr hp)))) ?_;refine .al2 fun v lr=>?_
   exact .finM2 (c:=c3) (d:=.lst [.int k2 Qj]) 0 0 (.ret (.v 14)) [14,13,11,7,5,6] [(0,.lst [.v 1,.int 2]),(1,.obj dZ [(aO,.v 3),(aB,.v 2)]),(3,.lst [.v 4,.v 5])] [] (ρ':=[.ref lr,.ref v,.ref b,.ref nl,.str (nm na (k+1)) u1,.str (nm na (k+1+1)) TK]) fun Zs r l9 h U e=>mX TL k2 Qj rfl lw (aJ Q5) (by refine oE h.1.l2i fun t1 z1=>?_;exact ⟨lr,v,2,t1,_,(af.det e OT:r=.ref lr),z1,.inr rfl,Fw (K1:=k+1) (h.sl [1,2,3,4,5]) hz.s (by lia) hx hy (aJ PG) (hb.le (l8.trans l9)) hq hf h3⟩)
variable {h:Addr}{g:Ev->Int->Int->Int}
theorem uN {P:Params}:bU P lg cS 5:=.mk5
theorem HX.le {kk G M s f i q:Nat}(x:HX w Γ kk g G M s f i q Z h)(l:Z.le Z'):HX w Γ kk g G M s f i q Z' h:=⟨fun c ρ Z2 P7 d l2=>x.val c ρ Z2 P7 d (l.trans l2),(bM (x.cls) fun C a b=>(bw C (a.le l) b)),fun gk hg c sA v as P Z2 l2=>x.mkc gk hg c sA v as P Z2 (l.trans l2)⟩
theorem Dt {d KB m s f i q cn M k : Nat}{tk td u:Tok}(hc:gp w n d KB m s f i q cn)(hh:HX w Γ 1 g G M sH f i (q+9) Z h)(hm:m<=M)(h8:d5 M f i)(hq:f+8<=q)(hz:oJ Γ KB k Z sc co)(hk:100<=k)(PG:k+cn<=200)(hs:gP c):
  r9 w (n+3) (call (.ref cS) [.ref so,.ref sc,.ref h,.int 1 u,.int (d+1:Nat) td]) so co c (.lst [.int (k:Nat) tk]) (lL k (cn+cn) (pE w Γ (M+G+11) (sH+(s+1+(s+1))) (3*(f+6)+23) (3*i+28) (q+15))) Z:=by refine fA (n:=n) (N:=5) [.ref so,.ref sc,.ref h,.ref co,.int (d+1:Nat) td] (PD:=[.v 0,.v 1,.v 2,.int 1,.v 4]) true 0 3 0 0 uN (fz:=[]) OU (fun B O L Z1 l1=>?_) (qC rfl rfl rfl ⟨u,rfl⟩ rfl OU);refine .compAq true (fi lg true) ((uN (P:=w.params)).env true L) (.al1 fun U=>kw (fun L'=>?_) OT OT (by ac_rfl));refine .dec (d:=d) td fun u1=>?_;refine .genI (f:=aS) (vs:=fun U=>[.ref so,.ref sc,.int (d:Nat) u1]) (cn:=cn) 0 3 (fun U=>hc Z1 so sc co c k tk u1 _ (hz.le l1) hk PG hs) fun a e Z2 c2 k2 Qj l2 Qm RP Q5 ha=>?_;refine .done [] ⟨by ac_rfl,fun al=>?_⟩;refine .al1 fun v=>?_;exact .finM2 (c:=c2) (d:=.lst [.int k2 Qj]) 0 0 (.ret (.v 9)) [9,2,7,8] tD [] (ρ':=[.ref v,.ref h,.ref a,.ref al]) fun Zs r l8 hf U e=>dX Qm k2 Qj rfl RP lw v _ (af.det e rfl) ((Dj hf hz.s (aJ PG) h8 (hh.le (l1.trans (l2.trans l8))) ((ha.le l8).up hm ll ll ll ll) hq).up ll lw ll ll ll)
theorem Du {d KB m s f i q cn M k : Nat}{tk td u:Tok}(hc:gp w n d KB m s f i q cn)(hh:HX w Γ 2 g G M sH f i (q+9) Z h)(hm:m<=M)(h8:d5 M f i)(hq:f+8<=q)(hz:oJ Γ KB k Z sc co)(hk:100<=k)(PG:k+(cn+cn)<=200)(hs:gP c)(hn:3<=n):
  r9 w (n+3) (call (.ref cS) [.ref so,.ref sc,.ref h,.int 2 u,.int (d+1:Nat) td]) so co c (.lst [.int (k:Nat) tk]) (lL k (cn+cn) (pE w Γ (M+G+11) (sH+(s+1+(s+1))) (3*(f+6)+23) (3*i+28) (q+15))) Z:=by
 refine fA (n:=n) (N:=5) [.ref so,.ref sc,.ref h,.ref co,.int (d+1:Nat) td] (PD:=[.v 0,.v 1,.v 2,.int 2,.v 4]) true 0 3 0 0 uN (fz:=[]) OU (fun B O L Z1 l1=>?_) (qC rfl rfl rfl ⟨u,rfl⟩ rfl OU);refine .compAq true (fi lg true) ((uN (P:=w.params)).env true L) (.al1 fun U=>kw (fun L'=>?_) OT OT (by ac_rfl));refine .dec (d:=d) td fun u1=>?_;refine .genI (f:=aS) (vs:=fun U=>[.ref so,.ref sc,.int (d:Nat) u1]) (cn:=cn) 0 3 (fun U=>hc Z1 so sc co c k tk u1 _ (hz.le l1) hk (aJ PG) hs) fun a e Z2 c2 k2 Qj l2 Qm RP Q5 ha=>?_;refine .dec (d:=d) td fun u2=>?_;refine .genI (f:=aS) (vs:=fun U=>[.ref so,.ref sc,.int (d:Nat) u2]) (cn:=cn) 0 3 (fun U=>hc Z2 so sc co c2 k2 Qj u2 _ ((hz.le (l1.trans l2)).up RP ll) (bo hk RP) (bo PG Q5) Qm) fun b e2 Z3 c3 k3 RW l3 TL QA Tq hb=>?_;refine .done [] ⟨by ac_rfl,fun al=>?_⟩;refine .tk (tk:=tk) 0 so 2 (fun tk=>tk 2) TL OV OV fun p u3 Z4 c4 l4 Rl p0 p1=>.one rfl ?_
 by_cases hp:p=0
 ·refine .opb (.cmp .Eq) (fun tk=>[.int p u3,.int 0 (tk 1)]) true (fun tk h Q q=>kD (q _ (by rw [hp];rfl))) ?_;refine .al2 fun Y6 v2=>.al2 fun Y7 v=>?_;exact .finM2 (c:=c4) (d:=.lst [.int k3 RW]) 0 0 (.ret (.v 15)) [15,13,9,14,2,7,12] xH [] (ρ':=[.ref v,.ref v2,.ref b,.ref Y7,.ref h,.ref a,.ref Y6]) fun Zs r l8 hf U e=>dX Rl k3 RW rfl (bo RP QA) (bo Q5 Tq) v _ (af.det e OT:r=.ref v) (AE hf hz.s (aJ PG) h8 (hh.le (l1.trans (l2.trans (l3.trans (l4.trans l8))))) ((ha.le (l3.trans (l4.trans l8))).up hm ll ll ll ll) ((hb.le (l4.trans l8)).up hm ll ll ll ll) hq)
 ·refine .opb (.cmp .Eq) (fun tk=>[.int p u3,.int 0 (tk 1)]) false (fun tk h Q q=>kD (q _ (Pl Value.bool (beq_eq_false_iff_ne.mpr hp)))) ?_;refine .al1 fun v=>?_;exact .finM2 (c:=c4) (d:=.lst [.int k3 RW]) 0 0 (.ret (.v 12)) [12,2,7,9,10] yR [] (ρ':=[.ref v,.ref h,.ref a,.ref b,.ref al]) fun Zs r l8 hf U e=>dX Rl k3 RW rfl (bo RP QA) (bo Q5 Tq) v _ (af.det e OT:r=.ref v) (Dk hf hz.s (aJ PG) h8 (hh.le (l1.trans (l2.trans (l3.trans (l4.trans l8))))) ((ha.le (l3.trans (l4.trans l8))).up hm ll ll ll ll) ((hb.le (l4.trans l8)).up hm ll ll ll ll) hq)
variable {d m' s f i q cn:Nat}{tk td u:Tok}
theorem xZ {P:Params}:bU P uY dm 4:=.mk4
theorem tM {k : Nat}{b:Str}(hb:b.length=1)(h1:lo < k)(h2:k<=250):gO lo 250 (nm b k):=⟨b,k,rfl,hb,h1,h2⟩
theorem uO {k : Nat}{b:Str}(hb:b.length=1)(h1:lo < k):gO lo k (nm b k):=⟨b,k,rfl,hb,h1,Pm _⟩
theorem Dv {ρ:LV}{C:Addr}{x1 x2:SV}{n1 n2 n3:Str}{b:Bool}(h:bK ρ Z 0 (.obj C [(n1,x1),(n2,x2),(n3,.k (.bool b))]))(hj:(ρ++[.bool b])[j]? =some (.bool b)):bK (ρ++[.bool b]) Z 0 (.obj C [(n1,x1),(n2,x2),(n3,.v j)]):=by
 obtain ⟨a,dx,fv,h1,h2,h3,h4⟩:=h;have e:iY ρ (ρ++[.bool b]):=⟨_,rfl⟩
 refine ⟨a,dx,fv,e.get h1,h2,h3,?_⟩;obtain ⟨⟨y1,z1⟩,fv,rfl,e1,h4⟩:=ak.cons_r h4;obtain ⟨⟨y2,z2⟩,fv,rfl,e2,h4⟩:=ak.cons_r h4;obtain ⟨⟨y3,z3⟩,fv,rfl,e3,h4⟩:=ak.cons_r h4;obtain rfl:=ak.nil_r h4;refine fu ⟨e1.1,e1.2.ext e⟩ ⟨e2.1,e2.2.ext e⟩ ⟨e3.1,?_⟩ OU;obtain rfl:z3=.bool b:=e3.2;exact hj
def Dw (b:Bool):List (Nat×aE):=[(0,.obj jB [(aR,.v 2),(aB,.v 1),(gw,.k (.bool b))]),(2,.lst [.v 3]),(3,.tup [.v 4,.v 5])]
def Dx (b:Bool):List (Nat×aE):=[(0,.obj jB [(aR,.v 2),(aB,.v 1),(gw,.k (.bool b))]),(2,.lst [.v 3,.v 6]),(3,.tup [.v 4,.v 5]),(6,.tup [.v 7,.v 8])]
theorem zB {v b l tp e:Addr}{t:Tok}(h:ac [.ref v,.ref b,.ref l,.ref tp,.str x t,.ref e] Z (Dw rb)):ac [.ref v,.ref b,.ref l,.ref tp,.str x t,.ref e,.bool rb] Z w5:=⟨Dv h.1 rfl,h.2.ext ⟨_,rfl⟩ (.refl _)⟩
theorem FB {v b l tp e PT e2:Addr}{t u:Tok}(h:ac [.ref v,.ref b,.ref l,.ref tp,.str x t,.ref e,.ref PT,.str y u,.ref e2] Z (Dx rb)):ac [.ref v,.ref b,.ref l,.ref tp,.str x t,.ref e,.ref PT,.str y u,.ref e2,.bool rb] Z yV:=⟨Dv h.1 rfl,h.2.ext ⟨_,rfl⟩ (.refl _)⟩
def Gr (s:Str):List (Nat×aE):=[(0,.obj dw [(eB,.str s),(br,.v 3)]),(3,.lst [.v 1,.v 2])]
theorem FC {v a b l:Addr}{s:Str}(h:ac [.ref v,.ref a,.ref b,.ref l] Z (Gr s)):∃ t,ac [.ref v,.ref a,.ref b,.ref l,.str s t] Z nt:=by refine et (jM h.1) fun dx fv h2 h3 h4=>?_;obtain ⟨⟨y1,z1⟩,fv,rfl,e1,h4⟩:=ak.cons_r h4;obtain ⟨⟨y2,z2⟩,fv,rfl,e2,h4⟩:=ak.cons_r h4;obtain rfl:=ak.nil_r h4;refine E1 e1 fun PL t PZ=>?_;clear e1;subst PL;subst PZ;exact bw t ⟨v,dx,_,rfl,h2,h3,⟨rfl,rfl⟩,⟨e2.1,e2.2.ext ⟨_,rfl⟩⟩,OU⟩ (h.2.ext ⟨_,rfl⟩ (.refl _))
theorem Dy (hc:gp w n d KB m s f i q cn)(h8:d5 m f i)(hq:f+8<=q)(hz:oJ Γ KB k Z sc co)(hk:100<=k)(PG:k+(cn+cn+2)<=200)(hs:gP c)(hn:3<=n):
  r9 w (n+3) (call (.ref dm) [.ref so,.ref sc,.int 0 u,.int (d+1:Nat) td]) so co c (.lst [.int (k:Nat) tk]) (lL k (cn+cn+2) (pE w Γ (m+m+7) (s+s) (f+f+18) (i+i+20) (q+6))) Z:=by refine fA (n:=n) (N:=4) [.ref so,.ref sc,.ref co,.int (d+1:Nat) td] (PD:=[.v 0,.v 1,.int 0,.v 3]) true 0 2 0 0 xZ (fz:=[]) OU (fun B O L Z1 l1=>?_) (mV rfl rfl ⟨u,rfl⟩ rfl OU);refine .nam (k:=k) (k1:=k) (tk:=tk) 2 rZ (fun tk=>tk 2) (hz.le l1) OV (aJ PG) fun u1 Z2 Q9 l2=>?_;refine .nam (k:=k) (k1:=k+1) (tk:=Q9) 2 Es (fun tk=>tk 2) (hz.le (l1.trans l2)) OV (aJ PG) fun u2 Z3 Qj l3=>?_;have S8:=(hz.le (l1.trans (l2.trans l3))).up (k':=k+1+1) (QS:=KB) lw ll;refine .al1 fun U=>.dec (d:=d) td fun u3=>?_;refine .genI (f:=aS) (vs:=fun U=>[.ref so,.ref sc,.int (d:Nat) u3]) (cn:=cn) 0 2 (fun U=>hc Z3 so sc co c (k+1+1) Qj u3 _ S8 lw (aJ PG) hs) fun a e Z4 c4 k4 Sh l4 Rl Q5 PU ha=>?_;have hΓ:Sc k4 ((nm rZ (k+1),.int)::Γ):=hz.s.cons lw ((uO rfl (aJ hk)).le lw);refine .al2 fun tp bl=>.al2 fun nl el=>.frzK 12 0 (.lst []) fun Z5 l5=>.facts [11,4,12] [(0,.lst [.v 1]),(2,.lst [])] (ρ':=[.ref nl,.str (nm rZ (k+1)) u1,.ref el]) fun Z6 l6 VY=>?_;have Ut:=l1.trans (l2.trans (l3.trans (l4.trans (l5.trans l6))));refine .rt (vs:=fun U=>[.ref sc,.ref nl,.ref el]) (fun U=>go (ns:=[(nm rZ (k+1),u1)]) (k':=k4) (hz.le Ut) VY.1.lv VY.2.1.lv (by symm;exact aJ Q5) (bo PG PU) hΓ (fun p hp=>.tail _ hp) (fZ (bw _ (.head _) (.inl rfl)))) fun r Z7 l7 p=>?_;refine bM p fun Q2 PQ Rw=>?_;clear p;subst PQ;refine .one rfl (.dec (d:=d) td fun u4=>?_);refine .genI (f:=aS) (vs:=fun U=>[.ref so,.ref Q2,.int (d:Nat) u4]) (cn:=cn) 0 2 (fun U=>hc Z7 so Q2 co c4 k4 Sh u4 _ Rw (bo hk Q5) (bo PG PU) Rl) fun b e2 Z8 c8 k8 Zg l8 Y8 hk8 Y9 hb=>?_;refine .al1 fun v=>?_;exact .finM2 (c:=c8) (d:=.lst [.int k8 Zg]) 0 0 (.ret (.v 16)) [16,15,10,9,4,8] (Dw false) [] (ρ':=[.ref v,.ref b,.ref bl,.ref tp,.str (nm rZ (k+1)) u1,.ref a]) fun Zs r l9 hf U e=>dX Y8 k8 Zg rfl (bo Q5 hk8) (bo PU Y9) v _ (af.det e OT:r=.ref v) (Fn (zB hf) hz.s (by lia) (tM rfl lw (aJ PG)) h8 (ha.le (l5.trans (l6.trans (l7.trans (l8.trans l9))))) (hb.le l9) hq)
theorem Dz (hc:gp w n d KB m s f i q cn)(h8:d5 m f i)(h9:d5 (4+4+12) (8+8+43) (8+8+32))(hq:f+8<=q)(RQ:67<=q)(hz:oJ Γ KB k Z sc co)(hk:100<=k)(PG:k+(cn+cn+2)<=200)(hs:gP c)(hn:9<=n):
  r9 w (n+3) (call (.ref dm) [.ref so,.ref sc,.int 1 u,.int (d+1:Nat) td]) so co c (.lst [.int (k:Nat) tk]) (lL k (cn+cn+2) (pE w Γ (m+(4+4+12)+m+10) (s+(0+0+2)+s) (f+(8+8+43)+f+24) (i+(8+8+32)+i+20) (q+6))) Z:=by
 refine fA (n:=n) (N:=4) [.ref so,.ref sc,.ref co,.int (d+1:Nat) td] (PD:=[.v 0,.v 1,.int 1,.v 3]) true 0 2 0 0 xZ (fz:=[]) OU (fun B O L Z1 l1=>?_) (mV rfl rfl ⟨u,rfl⟩ rfl OU);refine .nam (k:=k) (k1:=k) (tk:=tk) 2 rZ (fun tk=>tk 2) (hz.le l1) OV (aJ PG) fun u1 Z2 Q9 l2=>?_;refine .nam (k:=k) (k1:=k+1) (tk:=Q9) 2 Es (fun tk=>tk 2) (hz.le (l1.trans l2)) OV (aJ PG) fun u2 Z3 Qj l3=>?_;have S8:=(hz.le (l1.trans (l2.trans l3))).up (k':=k+1+1) (QS:=KB) lw ll;refine .al1 fun U=>.dec (d:=d) td fun u3=>?_;refine .genI (f:=aS) (vs:=fun U=>[.ref so,.ref sc,.int (d:Nat) u3]) (cn:=cn) 0 2 (fun U=>hc Z3 so sc co c (k+1+1) Qj u3 _ S8 lw (aJ PG) hs) fun a e Z4 c4 k4 Sh l4 Rl Q5 PU ha=>?_;have hx:gO k (k+1) (nm rZ (k+1)):=uO rfl lw;have hx4:gO 100 k4 (nm rZ (k+1)):=(uO rfl (aJ hk)).le lw;have hy4:gO 100 k4 (nm Es (k+1+1)):=(uO rfl (aJ hk)).le lw;have hy:gO (k+1) 250 (nm Es (k+1+1)):=tM rfl lw (aJ PG);have hΓ:Sc k4 ((nm rZ (k+1),.int)::Γ):=hz.s.cons lw hx4;have hΓ2:Sc k4 ((nm Es (k+1+1),.int)::(nm rZ (k+1),.int)::Γ):=hΓ.cons ll hy4;refine .al1 fun vx=>.m1 (vs:=fun U=>[.ref so,.ref sc]) 0 0 (fun U=>uL Rl ((S8.le l4).wide hΓ lw fun p hp=>.tail _ hp) (bo PG PU)) fun v Z5 c5 l5 p=>?_;refine ve p fun SI lf e5 Q4 hlf=>?_;clear p;subst Q4;refine .one rfl ?_;refine .al2 fun pl pr=>.al2 fun nl el=>.frzK 14 0 (.lst []) fun Z6 l6=>.facts [13,4,5,14] [(0,.lst [.v 1,.v 2]),(3,.lst [])] (ρ':=[.ref nl,.str (nm rZ (k+1)) u1,.str (nm Es (k+1+1)) u2,.ref el]) fun Z7 l7 UX=>?_;have Uu:=l1.trans (l2.trans (l3.trans (l4.trans (l5.trans (l6.trans l7)))));refine .rt (vs:=fun U=>[.ref sc,.ref nl,.ref el]) (fun U=>go (ns:=[(nm rZ (k+1),u1),(nm Es (k+1+1),u2)]) (k':=k4) (hz.le Uu) UX.1.lv UX.2.1.lv (by symm;exact aJ Q5) (bo PG PU) hΓ2 (fun p hp=>.tail _ (.tail _ hp)) (kO (bw _ (.tail _ (.head _)) (.inl rfl)) (fZ (bw _ (.head _) (.inl rfl))))) fun r Z8 l8 p=>?_;refine bM p fun Q2 Qu Rw=>?_;clear p;subst Qu;refine .one rfl (.dec (d:=d) td fun u4=>?_);refine .genI (c:=c5) (f:=aS) (vs:=fun U=>[.ref so,.ref Q2,.int (d:Nat) u4]) (cn:=cn) 0 2 (fun U=>hc Z8 so Q2 co c5 k4 Sh u4 _ Rw (bo hk Q5) (bo PG PU) SI) fun b e2 Z9 c9 k9 Wo l9 Yb VZ Tr hb=>?_;refine .al2 fun tp PT=>.al2 fun bl v=>?_
 exact .finM2 (c:=c9) (d:=.lst [.int k9 Wo]) 0 0 (.ret (.v 21)) [21,17,20,18,5,12,19,4,8,9,10,11] (Dx true++[(5,.obj dw [(eB,.str fD),(br,.v 11)]),(11,.lst [.v 9,.v 10]),(9,.obj fB [(am,.v 7)])]) [] (ρ':=[.ref v,.ref b,.ref bl,.ref tp,.str (nm Es (k+1+1)) u2,.ref pr,.ref PT,.str (nm rZ (k+1)) u1,.ref a,.ref vx,.ref lf,.ref pl]) fun Zs r Ri hf U e=>mX Yb k9 Wo rfl (bo Q5 VZ) (bo PU Tr) ⟨v,by
  refine oE (FC (hf.sel [5,9,10,11] (PJ:=Gr fD) (by exact rfl) OT)) fun t hp=>?_;have W0:ac [.ref vx,.str (nm rZ (k+1)) u1] Zs nr:=hf.sl [9,7];have W2:=l6.trans (l7.trans (l8.trans (l9.trans Ri)));have h2:=uJ hp hΓ (bo PG PU) (.inl rfl) (fun U h=>absurd h OV) (Db (w:=w) W0 (.head _) (.inl rfl)) (hlf.le W2) ll;exact bw _ (af.det e OT:r=.ref v) (Fr (K1:=k+1) (FB (hf.sel [0,1,2,3,4,5,6,7,8] (PJ:=Dx true) (by exact rfl) OT)) hz.s (by lia) hx hy h8 h9 (ha.le (l5.trans W2)) (h2.up ll ll ll ll (aJ RQ)) (hb.le Ri) hq lw)⟩
variable {v:Addr}
theorem FX.up {kk q':Nat}(x:FX w Γ kk g m s f i q Z v)(hq:q<=q'):FX w Γ kk g m s f i q' Z v:=⟨x.val,x.lam,fun gk hg=>(x.mkc gk hg).le (.refl _) hq⟩
theorem FX.le {kk:Nat}(x:FX w Γ kk g m s f i q Z v)(l:Z.le Z'):FX w Γ kk g m s f i q Z' v:=⟨fun c ρ Z2 P7 d l2=>x.val c ρ Z2 P7 d (l.trans l2),(kC (x.lam) fun p b h=>(wu p b (h.le l))),fun gk hg=>(x.mkc gk hg).le l ll⟩
theorem pW {kk M : Nat}(QY:kk=1\/kk=2)(hc:gp w n d KB m s f i q cn)(hh:HX w Γ kk g G M sH f i (q+9) Z h)(hm:m<=M)(h8:d5 M f i)(hq:f+8<=q)(hz:oJ Γ KB k Z sc co)(hk:100<=k)(PG:k+(cn+cn)<=200)(hs:gP c)(hn:3<=n):
  r9 w (n+3) (call (.ref cS) [.ref so,.ref sc,.ref h,.int (kk:Nat) u,.int (d+1:Nat) td]) so co c (.lst [.int (k:Nat) tk]) (lL k (cn+cn) (pE w Γ (M+G+11) (sH+(s+1+(s+1))) (3*(f+6)+23) (3*i+28) (q+15))) Z:=by
 rcases QY with rfl | rfl
 ·exact Dt hc hh hm h8 hq hz hk (aJ PG) hs
 ·exact Du hc hh hm h8 hq hz hk PG hs hn
theorem r9.le {mm:Sem Value}{a b:Addr}{c d:an}{P:a8->Value->an->an->Prop}{n':Nat}(x:r9 w n mm a b c d P Z)(hn:n<=n'):r9 w n' mm a b c d P Z:=fun B O Z2 led h Q i j QT l S e1 e2 q=>(x B O Z2 led h Q i j QT l S e1 e2 q).le hn
theorem DA {n':Nat}(hf:HZ w n' (d+1) KB m s f i (q+3) (cn+2))(Wz:n'<=n+3)(hc:gp w n d QS m' s f i q cn)(h8:d5 m f i)(h9:d5 m' f i)(hq:f+8<=q)(To:KB<=QS)(Uv:m+1<=QS)(hz:oJ Γ KB k Z sc co)(hk:100<=k)(PG:k+(cn+cn+cn+cn+4)<=200)(hs:gP c)(hn:9<=n)(hc0:gp w n d KB m s f i q cn):
  r9 w (n+6) (call (.ref dm) [.ref so,.ref sc,.int 2 u,.int (d+1:Nat) td]) so co c (.lst [.int (k:Nat) tk]) (lL k (cn+cn+cn+cn+4) (pE w Γ (m+(m'+(m+1)+11)+11) (s+(0+(s+1+(s+1)))) (f+(3*(f+6)+23)+18) (i+(3*i+28)+20) (q+15+6))) Z:=by refine fA (n:=n+3) (N:=4) [.ref so,.ref sc,.ref co,.int (d+1:Nat) td] (PD:=[.v 0,.v 1,.int 2,.v 3]) true 0 2 0 0 xZ (fz:=[]) OU (fun B O L Z1 l1=>?_) (mV rfl rfl ⟨u,rfl⟩ rfl OU);refine .nam (k:=k) (k1:=k) (tk:=tk) 2 rZ (fun tk=>tk 2) (hz.le l1) OV (aJ PG) fun u1 Z2 Q9 l2=>?_;refine .nam (k:=k) (k1:=k+1) (tk:=Q9) 2 Es (fun tk=>tk 2) (hz.le (l1.trans l2)) OV (aJ PG) fun u2 Z3 Qj l3=>?_;have S8:=(hz.le (l1.trans (l2.trans l3))).up (k':=k+1+1) (QS:=KB) lw ll;refine .al1 fun U=>.dec (d:=d) td fun u3=>?_;refine .genI (f:=aS) (vs:=fun U=>[.ref so,.ref sc,.int (d:Nat) u3]) (cn:=cn) 0 2 (fun U=>hc0 Z3 so sc co c (k+1+1) Qj u3 _ S8 lw (aJ PG) hs) fun a e Z4 c4 k4 Sh l4 Rl Q5 PU ha=>?_;refine .gen (f:=cf) (vs:=fun U=>[.ref so,.ref sc,.int (d+1:Nat) td]) (cn:=cn+2) 0 2 (fun U=>(hf Z4 so sc co c4 k4 Sh td _ ((S8.le l4).up Q5 ll) (bo hk Q5) (bo PG PU) Rl).le Wz) fun v Z5 c5 k5 TZ l5 SI QA QE p=>?_;obtain ⟨lr,fn,kk,u5,g,rfl,zr,QY,Qx⟩:=p;refine .fx (.v 9) 3 [.ref lr,.ref fn,.int kk u5] [9,10,11] [(9,.lst [.v 10,.v 11])] (ρ':=[.ref lr,.ref fn,.int kk u5]) (fz:=[(0,.lst [.v 1,.v 2])]) ⟨⟨lr,_,rfl,zr,rfl,rfl,OU⟩,OU⟩ ?_;have hx5:gO 100 k5 (nm rZ (k+1)):=(uO rfl (aJ hk)).le (bo Q5 QA);have hΓ:Sc k5 ((nm rZ (k+1),.fn kk (m+1))::Γ):=hz.s.cons (bo Q5 QA) hx5;refine .al3 fun el tp fl=>.frzK 12 0 (.lst []) fun Z6 l6=>.facts [12,14,13,4,11] [(0,.lst []),(1,.lst [.v 2]),(2,.tup [.v 3,.v 4])] (ρ':=[.ref el,.ref fl,.ref tp,.str (nm rZ (k+1)) u1,.int kk u5]) fun Z7 l7 UX=>?_;have Uu:=l1.trans (l2.trans (l3.trans (l4.trans (l5.trans (l6.trans l7)))));refine .rt (vs:=fun U=>[.ref sc,.ref el,.ref fl]) (fun U=>xY (tp:=tp) (k':=k5) (K:=m+1) (h:=nm rZ (k+1)) (hz.le Uu) UX.1.lv UX.2.1.lv UX.2.2.1.tv (bo Q5 QA) (ja PG PU QE) hΓ (fun p hp=>.tail _ hp) (.head _) QY To Uv) fun r Z8 l8 p=>?_;refine bM p fun Q2 PL Rw=>?_;clear p;subst PL;refine .one rfl ?_;refine .al3 fun PT bl vx=>.facts [18,4] nr (ρ':=[.ref vx,.str (nm rZ (k+1)) u1]) fun Z9 l9 W0=>?_;refine .genI (f:=cS) (vs:=fun U=>[.ref so,.ref Q2,.ref vx,.int kk u5,.int (d+1:Nat) td]) (cn:=cn+cn) 0 2 (fun U=>pW (M:=m') (G:=m+1) QY hc (Dg (w:=w) (Γ:=(nm rZ (k+1),.fn kk (m+1))::Γ) W0 (.head _)) ll h9 hq (Rw.le l9) (ja hk Q5 QA) (ja PG PU QE) SI (aJ hn)) fun b e2 Uw Yc TN SJ Ri Ux Uy SK hb=>?_;refine .al1 fun v=>?_;exact .finM2 (c:=Yc) (d:=.lst [.int TN SJ]) 0 0 (.ret (.v 20)) [20,19,17,16,4,10] (Dw false) [] (ρ':=[.ref v,.ref b,.ref bl,.ref PT,.str (nm rZ (k+1)) u1,.ref fn]) fun Zs r Rp hf U e=>dX Ux TN SJ rfl (ja Q5 QA Uy) (ja PU QE SK) v _ (af.det e OT:r=.ref v) (Fp (zB hf) hz.s (by lia) (tM rfl lw (aJ PG)) h8 ((Qx.le (l6.trans (l7.trans (l8.trans (l9.trans (Ri.trans Rp)))))).up lw) (hb.le Rp))
theorem DB {P:Params}:bU P uZ eM 4:=.mk4
theorem DC (hc:gp w n d KB m s f i q cn)(hz:oJ Γ KB k Z sc co)(hk:100<=k)(PG:k+(cn+cn+cn+3)<=200)(hs:gP c)(hn:9<=n):
  r9 w (n+3) (call (.ref eM) [.ref so,.ref sc,.int 0 u,.int (d+1:Nat) td]) so co c (.lst [.int (k:Nat) tk]) (lL k (cn+cn+cn+3) (pE w Γ (m+m+m+3) (s+s+s) (f+f+f+16) (i+i+i+12) (q+6))) Z:=by refine fA (n:=n) (N:=4) [.ref so,.ref sc,.ref co,.int (d+1:Nat) td] (PD:=[.v 0,.v 1,.int 0,.v 3]) true 0 2 0 0 DB (fz:=[]) OU (fun B O L Z1 l1=>?_) (mV rfl rfl ⟨u,rfl⟩ rfl OU);refine .nam (k:=k) (k1:=k) (tk:=tk) 2 hZ (fun tk=>tk 2) (hz.le l1) OV (aJ PG) fun u1 Z2 Q9 l2=>.dec (d:=d) td fun u3=>?_;have Q3:=(hz.le (l1.trans l2)).up (k':=k+1) (QS:=KB) lw ll;refine .genI (f:=aS) (vs:=fun U=>[.ref so,.ref sc,.int (d:Nat) u3]) (cn:=cn) 0 2 (fun U=>hc Z2 so sc co c (k+1) Q9 u3 _ Q3 lw (aJ PG) hs) fun a e Z4 c4 k4 Sh l4 Rl Q5 PU ha=>?_;have hΓ:Sc k4 ((nm hZ (k+1),.val)::Γ):=hz.s.cons lw ((uO rfl (aJ hk)).le lw);refine .al3 fun U nl el=>.frzK 9 0 (.lst []) fun Z5 l5=>.facts [8,4,9] [(0,.lst [.v 1]),(2,.lst [])] (ρ':=[.ref nl,.str (nm hZ (k+1)) u1,.ref el]) fun Z6 l6 VY=>?_;have Ut:=l1.trans (l2.trans (l4.trans (l5.trans l6)));refine .rt (vs:=fun U=>[.ref sc,.ref nl,.ref el]) (fun U=>go (ns:=[(nm hZ (k+1),u1)]) (k':=k4) (hz.le Ut) VY.1.lv VY.2.1.lv (by symm;exact aJ Q5) (bo PG PU) hΓ (fun p hp=>.tail _ hp) (fZ (bw _ (.head _) (.inr rfl)))) fun r Z7 l7 p=>?_;refine bM p fun Q2 PL Rw=>?_;clear p;subst PL;refine .one rfl (.tk (tk:=tk) 0 so 7 (fun tk=>tk 2) Rl OV OV fun p u4 Z8 c8 l8 Y8 p0 p1=>.one rfl ?_);refine .al2 fun ky nl2=>.dec (d:=d) td fun u5=>?_;refine .genI (c:=c8) (f:=aS) (vs:=fun U=>[.ref so,.ref Q2,.int (d:Nat) u5]) (cn:=cn) 0 2 (fun U=>hc Z8 so Q2 co c8 k4 Sh u5 _ (Rw.le l8) (bo hk Q5) (bo PG PU) Y8) fun b e2 Z9 c9 k9 Wo l9 Yb VZ Tr hb=>?_;refine .al2 fun alt al=>.dec (d:=d) td fun u6=>?_;refine .genI (f:=aS) (vs:=fun U=>[.ref so,.ref Q2,.int (d:Nat) u6]) (cn:=cn) 0 2 (fun U=>hc Z9 so Q2 co c9 k9 Wo u6 _ ((Rw.le (l8.trans l9)).up VZ ll) (ja hk Q5 VZ) (ja PG PU Tr) Yb) fun o e3 Uw Yc TN SJ Ri Ux Uy SK ho=>?_;refine .al1 fun v=>?_;exact .finM2 (c:=Yc) (d:=.lst [.int TN SJ]) 0 0 (.ret (.v 20)) [20,6,4,17,19,16,12,13,15,11] ux [] (ρ':=[.ref v,.ref a,.str (nm hZ (k+1)) u1,.ref al,.ref o,.ref alt,.ref ky,.ref nl2,.ref b,.int p u4]) fun Zs r Rp hf U e=>dX Ux TN SJ rfl (ja Q5 VZ Uy) (ja PU Tr SK) v _ (af.det e OT:r=.ref v) (Do hf hz.s (by lia) (tM rfl lw (aJ PG)) (ha.le (l5.trans (l6.trans (l7.trans (l8.trans (l9.trans (Ri.trans Rp))))))) (hb.le (Ri.trans Rp)) (ho.le Rp))
noncomputable abbrev FD:Str:={cps:={toList:=[77,97,105,110,46,80]}}
def MV (s:Str):List (Nat×aE):=[(0,.obj kY [(am,.str s),(br,.v 3)]),(3,.lst [.v 1,.v 2])]
theorem I0 {v a b l:Addr}{s:Str}(h:ac [.ref v,.ref a,.ref b,.ref l] Z (MV s)):∃ t,ac [.ref v,.ref a,.ref b,.ref l,.str s t] Z Hu:=by refine et (jM h.1) fun dx fv h2 h3 h4=>?_;obtain ⟨⟨y1,z1⟩,fv,rfl,e1,h4⟩:=ak.cons_r h4;obtain ⟨⟨y2,z2⟩,fv,rfl,e2,h4⟩:=ak.cons_r h4;obtain rfl:=ak.nil_r h4;refine E1 e1 fun PZ t PQ=>?_;clear e1;subst PZ;subst PQ;exact bw t ⟨v,dx,_,rfl,h2,h3,⟨rfl,rfl⟩,⟨e2.1,e2.2.ext ⟨_,rfl⟩⟩,OU⟩ (h.2.ext ⟨_,rfl⟩ (.refl _))
def y5 (s:Str):List (Nat×aE):=[(5,.tup [.str n9,.str s]),(0,.obj gI [(bG,.v 1),(am,.v 2),(bY,.v 3),(bn,.k .none)]),(3,.lst [.v 4]),(4,.obj oK [(i6,.v 5),(bX,.v 6),(aB,.v 7)]),(6,.lst [.v 8,.v 9])]
theorem DD {v e al a ky nl b:Addr}{f g s : Str}{t tf tg:Tok}(h:ac [.ref v,.ref e,.str x t,.ref al,.ref a,.ref ky,.ref nl,.ref b,.str f tf,.str g tg] Z (y5 s)):∃ tn,ac [.ref v,.ref e,.str x t,.ref al,.ref a,.ref ky,.ref nl,.ref b,.str f tf,.str g tg,.str s tn] Z uy:=by
 refine oA h fun TG hr=>?_;clear h;obtain ⟨p,vs,h1,h2,h3⟩:=TG;refine et (ak.cons_r h3) fun y Tp Qu e1 h4=>?_;subst Qu;refine et (ak.cons_r h4) fun z Tp Qt e2 h5=>?_;subst Qt;obtain rfl:=ak.nil_r h5;refine oE e2 fun tn R5=>?_;clear e2;subst R5;have hr:=hr.ext (ρ':=[.ref v,.ref e,.str x t,.ref al,.ref a,.ref ky,.ref nl,.ref b,.str f tf,.str g tg,.str s tn]) ⟨[_],rfl⟩ (.refl _);have ext:iY [.ref v,.ref e,.str x t,.ref al,.ref a,.ref ky,.ref nl,.ref b,.str f tf,.str g tg] [.ref v,.ref e,.str x t,.ref al,.ref a,.ref ky,.ref nl,.ref b,.str f tf,.str g tg,.str s tn]:=⟨[_],rfl⟩
 exact mW tn hr.1 hr.2.1 hr.2.2.1 (cF ⟨p,_,ext.get h1,h2,e1.ext ext,rfl,OU⟩ hr.2.2.2.1 OU)
theorem DE (hc:gp w n d KB m s f i q cn)(h8:d5 m f i)(hq:f+8<=q)(hz:oJ Γ KB k Z sc co)(hk:100<=k)(PG:k+(cn+cn+cn+3)<=200)(hs:gP c)(hn:9<=n):
  r9 w (n+3) (call (.ref eM) [.ref so,.ref sc,.int 1 u,.int (d+1:Nat) td]) so co c (.lst [.int (k:Nat) tk]) (lL k (cn+cn+cn+3) (pE w Γ (m+3+(m+8)+m+6) (s+1+(s+1)+s) (3*(f+6)+23+f+16) (3*i+28+i+12) (q+12+6))) Z:=by
 refine fA (n:=n) (N:=4) [.ref so,.ref sc,.ref co,.int (d+1:Nat) td] (PD:=[.v 0,.v 1,.int 1,.v 3]) true 0 2 0 0 DB (fz:=[]) OU (fun B O L Z1 l1=>?_) (mV rfl rfl ⟨u,rfl⟩ rfl OU);refine .nam (k:=k) (k1:=k) (tk:=tk) 2 hZ (fun tk=>tk 2) (hz.le l1) OV (aJ PG) fun u1 Z2 Q9 l2=>.dec (d:=d) td fun u3=>?_;have Q3:=(hz.le (l1.trans l2)).up (k':=k+1) (QS:=KB) lw ll;refine .genI (f:=aS) (vs:=fun U=>[.ref so,.ref sc,.int (d:Nat) u3]) (cn:=cn) 0 2 (fun U=>hc Z2 so sc co c (k+1) Q9 u3 _ Q3 lw (aJ PG) hs) fun a e Z4 c4 k4 Sh l4 Rl Q5 PU ha=>?_;have Td:=(Q3.le l4).up Q5 ll;refine .al1 fun U=>.nam (k:=k4) (k1:=k4) (tk:=Sh) 2 nH (fun tk=>tk 2) Td OV (bo PG PU) fun u5 Z5 TZ l5=>?_;refine .nam (k:=k4) (k1:=k4+1) (tk:=TZ) 2 nH (fun tk=>tk 2) (Td.le l5) OV (bo PG PU) fun u6 Z6 SQ l6=>?_;have hz6:=(Td.le (l5.trans l6)).up (k':=k4+1+1) (QS:=KB) lw ll;refine .al1 fun fl=>.dec (d:=d) td fun u7=>?_;refine .genI (f:=aS) (vs:=fun U=>[.ref so,.ref sc,.int (d:Nat) u7]) (cn:=cn) 0 2 (fun U=>hc Z6 so sc co c4 (k4+1+1) SQ u7 _ hz6 (bo hk Q5) (bo PG PU) Rl) fun a2 e2 Z7 c7 k7 tk7 l7 hs7 Wq Uz Rt=>?_;have RS:gO k (k4+1) (nm nH (k4+1)):=uO rfl lw;have SY:gO (k4+1) 250 (nm nH (k4+1+1)):=tM rfl lw (bo PG PU);have hΓ:Sc k7 ((nm nH (k4+1+1),.int)::(nm nH (k4+1),.int)::Γ):=(hz.s.cons (bo Q5 Wq) ((uO rfl (bo hk Q5)).le lw)).cons ll ((uO rfl (bo hk Q5)).le lw);refine .al3 fun QR pr el=>.frzK 15 0 (.lst []) fun Z8 l8=>.facts [10,8,9,15] [(0,.lst [.v 1,.v 2]),(3,.lst [])] (ρ':=[.ref fl,.str (nm nH (k4+1)) u5,.str (nm nH (k4+1+1)) u6,.ref el]) fun Z9 l9 UY=>?_;have Zh:=l1.trans (l2.trans (l4.trans (l5.trans (l6.trans (l7.trans (l8.trans l9))))));refine .rt (vs:=fun U=>[.ref sc,.ref fl,.ref el]) (fun U=>go (ns:=[(nm nH (k4+1),u5),(nm nH (k4+1+1),u6)]) (k':=k7) (hz.le Zh) UY.1.lv UY.2.1.lv (by symm;exact bo Q5 Wq) (ja PG PU Uz) hΓ (fun p hp=>.tail _ (.tail _ hp)) (kO (bw _ (.tail _ (.head _)) (.inl rfl)) (fZ (bw _ (.head _) (.inl rfl))))) fun r Uw Ri p=>?_;refine bM p fun Q2 Te Rw=>?_;clear p;subst Te;refine .one rfl (.dec (d:=d) td fun u8=>?_);refine .genI (f:=aS) (vs:=fun U=>[.ref so,.ref Q2,.int (d:Nat) u8]) (cn:=cn) 0 2 (fun U=>hc Uw so Q2 co c7 k7 tk7 u8 _ Rw (ja hk Q5 Wq) (ja PG PU Uz) hs7) fun b e3 Wr Yd V0 UA Rp W3 W4 TM hb=>?_;refine .al2 fun ky alt=>.al2 fun al v=>?_
 exact .finM2 (c:=Yd) (d:=.lst [.int V0 UA]) 0 0 (.ret (.v 22)) [22,14,4,21,20,19,10,18,8,9,6,12,13] (y5 FD++[(1,.obj kY [(am,.str FD),(br,.v 12)]),(12,.lst [.v 10,.v 11])]) [] (ρ':=[.ref v,.ref pr,.str (nm hZ (k+1)) u1,.ref al,.ref alt,.ref ky,.ref fl,.ref b,.str (nm nH (k4+1)) u5,.str (nm nH (k4+1+1)) u6,.ref a,.ref a2,.ref QR]) fun Zs r T7 hf U e=>mX W3 V0 UA rfl (ja Q5 Wq W4) (ja PU Uz TM) ⟨v,by
  refine oE (DD (hf.sel [0,1,2,3,4,5,6,7,8,9] (PJ:=y5 FD) (by exact rfl) OT)) fun tn hp=>?_;refine oE (I0 (hf.sel [1,10,11,12] (PJ:=MV FD) (by exact rfl) OT)) fun tc TU=>?_;have W5:=l8.trans (l9.trans (Ri.trans (Rp.trans T7)));exact bw _ (af.det e OT:r=.ref v) (Dr (K1:=k4+1) hp hz.s (by lia) (tM rfl lw (aJ PG)) RS SY (Fx TU hz.s (aJ PG) h8 (ha.le (l5.trans (l6.trans (l7.trans W5)))) (Rt.le W5) hq) ((hb.le T7).up ll ll ll ll lw))⟩
theorem DF {P:Params}:bU P vc aS 3:=.mk3
theorem DG:gp w 12 0 KB 4 0 8 8 6 0:=by intro Z so sc co c k tk td Γ hz hk PG hs;refine fA (n:=9) (N:=3) [.ref so,.ref sc,.ref co] (PD:=[.v 0,.v 1,.int 0]) true 0 2 0 0 DF (fz:=[]) OU (fun B O L Z1 l1=>?_) (fu rfl rfl ⟨td,rfl⟩ OU);refine .m1 (vs:=fun U=>[.ref so,.ref sc]) 0 0 (fun U=>uL hs (hz.le l1) lw) fun v Z2 c2 l2 p=>?_;refine ve p fun Qm v e PL hv=>?_;clear p;subst PL;refine .one rfl ?_;exact .finM2 (c:=c2) (d:=.lst [.int k tk]) 0 0 (.ret (.v 3)) [] [] [] (ρ':=[]) fun Zs r l3 U U e=>dX Qm k tk rfl (Pm _) (Pm _) v _ (af.det e rfl) (hv.le l3)
theorem gp.up {m' s' f' i' q' Zi n' QS:Nat}(x:gp w n d KB m s f i q cn)(hn:n<=n')(To:QS<=KB)(hm:m<=m')(hs:s<=s')(hf:f<=f')(hi:i<=i')(hq:q<=q')(TU:cn<=Zi):gp w n' d QS m' s' f' i' q' Zi:=fun Z so sc co c k tk td Γ hz hk PG Qe=>fun B O Z2 led h Q i j QT l S e1 e2 kk=>(x Z so sc co c k tk td Γ (hz.up ll To) hk lw Qe B O Z2 led h Q i j QT l S e1 e2 fun v Z3 h3 c3 d3 l3 p S3=>oA p fun p1 y=>et y fun k' PS p2 p3 y=>oA y fun p4 y=>iQ y fun v' e p5 p6=>kk v Z3 h3 c3 d3 l3 (dX p1 k' PS p2 p3 lw v' e p5 (p6.up hm hs hf hi hq)) S3).le hn
theorem bK.l3s {i:Nat}{a:Addr}{z : Str}(h:bK ρ Z i (.lst [.str x,.str y,.str z]))(ha:autoParam (ρ[i]? =some (.ref a)) tac10):∃ t u v,Z a=some (.lst [.str x t,.str y u,.str z v]):=by obtain ⟨b,vs,h1,h2,h3⟩:=h;rw [ha] at h1;cases h1;obtain ⟨y1,vs,rfl,h4,h3⟩:=ak.cons_r h3;obtain ⟨y2,Tp,rfl,h5,h6⟩:=ak.cons_r h3;refine et (ak.cons_r h6) fun y3 Tp PZ h7 h8=>?_;subst PZ;obtain rfl:=ak.nil_r h8;refine oE h4 fun t PQ=>?_;clear h4;subst PQ;refine oE h5 fun t2 Q4=>?_;clear h5;subst Q4;refine oE h7 fun t3 Qu=>?_;clear h7;subst Qu;exact qB t t2 t3 h2
theorem tN(hc:gp w n d KB m s f i q cn)(WA:gp w n d QS m' s f i q cn)(hn:12<=n)(h8:d5 m f i)(h9:d5 m' f i)(hq:f+8<=q)(RQ:67<=q)(h3:3<=m)(To:KB<=QS)(Uv:m+1<=QS)
  (b1:3*m+40<=mR) (b2:m+m+m'+30<=mR) (b3:m+KB+11<=mR) (b4:3*s+3<=sR) (b5:4*f+59<=fR) (b6:2*f+83<=fR) (b7:4*i+48<=iR) (b8:2*i+68<=iR) (b9:q+21<=qR) (Qz:4*cn+4<=Wn):gp w (n+9) (d+1) KB mR sR fR iR qR Wn:=by
 intro Z so sc co c k tk td Γ hz hk PG hs;refine dR hz.ex fun il fl xi xf h1 h2 UN h4 h5 h6 h7=>?_;refine fA (n:=n+6) (N:=6) [.ref so,.ref sc,.ref il,.ref fl,.ref co,.int (d+1:Nat) td] (PD:=[.v 0,.v 1,.v 5]) true 0 4 0 0 DF (fz:=[(1,.dct [(oc,.v 2),(od,.v 3),(lV,.v 4)])]) (h1.pt [1,2,3,4]) (fun B O L Z1 l1=>?_) ⟨rfl,rfl,rfl,OU⟩;refine .opb (.cmp .Gt) (fun tk=>[.int (d+1:Nat) td,.int 0 (tk 1)]) true (fun tk h Q q=>qD (q _ (Pl _ (Pt (by lia))))) ?_;refine .tk (tk:=tk) 0 so 11 (fun tk=>tk 2) hs OV OV fun p u Z2 c2 l2 Qm p0 p1=>.one rfl ?_;have Q3:=hz.le (l1.trans l2)
 by_cases w2:p < 2
 ·refine .opb (.cmp .Lt) (fun tk=>[.int p u,.int 2 (tk 1)]) true (fun tk h Q q=>lm (q _ (Pl _ (Pt w2)))) ?_;refine .m1 (vs:=fun U=>[.ref so,.ref sc]) 0 0 (fun U=>uL Qm Q3 (bo Qz PG)) fun v Z3 c3 l3 p=>?_;refine ve p fun TL v e Qt hv=>?_;clear p;subst Qt;refine .one rfl ?_;exact .finM2 (c:=c3) (d:=.lst [.int k tk]) 0 0 (.ret (.v 7)) [] [] [] (ρ':=[]) fun Zs r l4 U U e=>⟨TL,k,tk,rfl,Pm _,cZ,v,_,af.det e rfl,(hv.le l4).up (bo h3 b1) (cZ) (aJ b6) (aJ b8) (bo RQ b9)⟩
 refine .opb (.cmp .Lt) (fun tk=>[.int p u,.int 2 (tk 1)]) false (fun tk h Q q=>lm (q _ (Pl _ (Pr w2)))) ?_
 by_cases w4:p < 4
 ·refine .opb (.cmp .Lt) (fun tk=>[.int p u,.int 4 (tk 1)]) true (fun tk h Q q=>lm (q _ (Pl _ (Pt w4)))) ?_;refine .al1 fun ol=>.see (i:=7) (c:=.lst [.str fD,.str ia,.str ds]) fun Z3 l3 Ye=>?_;refine o3 (Ye.l3s (a:=ol)) fun t1 t2 t3 Ye=>?_;refine .m1 (vs:=fun U=>[.ref so,.ref ol]) 0 0 (fun U=>xX Qm Ye (by simp) (by simp)) fun v Z4 c4 l4 pv=>?_;refine oA pv fun Rl hv=>?_;clear pv
  obtain ⟨op,to,rfl,Qc⟩:∃ op to,v=.str op to/\sr op:=by
   simp only [List.mem_cons,List.not_mem_nil,or_false] at hv;rcases hv with rfl | rfl | rfl
   ·exact ⟨_,_,rfl,.inl rfl⟩
   ·exact ⟨_,_,rfl,.inr (.inl rfl)⟩
   ·exact ⟨_,_,rfl,.inr (.inr rfl)⟩
  have Td:=Q3.le (l3.trans l4);refine .one rfl ?_
  by_cases hm:op=ds
  ·refine .opb (.cmp .Eq) (fun tk=>[.str op to,.str ds (tk 1)]) true (fun tk h Q q=>B7 (q _ (by rw [hm];rfl))) ?_;refine .tk (tk:=tk) 0 so 3 (fun tk=>tk 2) Rl OV OV fun p2 u2 Z5 c5 l5 SI q0 q1=>.one rfl ?_;refine .al1 fun b=>.dec (d:=d) td fun u3=>?_;refine .genI (c:=c5) (f:=aS) (vs:=fun U=>[.ref so,.ref sc,.int (d:Nat) u3]) (cn:=cn) 0 4 (fun U=>hc Z5 so sc co c5 k tk u3 _ (Td.le l5) hk (bo Qz PG) SI) fun a e Z6 c6 k6 SQ l6 U2 Tq SM ha=>?_;refine .al2 fun al v=>?_;exact .finM2 (c:=c6) (d:=.lst [.int k6 SQ]) 0 0 (.ret (.v 14)) [14,12,10,13,8,9] (nt++[(2,.obj eK [(fS,.str bt),(bG,.v 5)])]) [] (ρ':=[.ref v,.ref a,.ref b,.ref al,.str op to,.int p2 u2]) fun Zs r l7 hf U e=>⟨U2,k6,SQ,rfl,aJ Tq,bo Qz SM,v,_,af.det e rfl,(uJ (hf.sl [0,1,2,3,4]) hz.s (bo Qz PG) Qc (fun U U=>by show p2.natAbs < _;lia) (ha.le l7) ((xV (hf.sl [2,5])).up ll ll ll ll (aJ RQ)) (aJ RQ)).up (bo h3 b1) (aJ b4) (aJ b6) (aJ b8) (aJ b9)⟩
  ·refine .opb (.cmp .Eq) (fun tk=>[.str op to,.str ds (tk 1)]) false (fun tk h Q q=>B7 (q _ (Pl Value.bool (beq_eq_false_iff_ne.mpr hm)))) ?_;refine .dec (d:=d) td fun u3=>?_;refine .genI (c:=c4) (f:=aS) (vs:=fun U=>[.ref so,.ref sc,.int (d:Nat) u3]) (cn:=cn) 0 4 (fun U=>hc Z4 so sc co c4 k tk u3 _ Td hk (bo Qz PG) Rl) fun b e2 Z5 c5 k5 TZ l5 SI QA QE hb=>?_;refine .dec (d:=d) td fun u4=>?_;refine .genI (f:=aS) (vs:=fun U=>[.ref so,.ref sc,.int (d:Nat) u4]) (cn:=cn) 0 4 (fun U=>hc Z5 so sc co c5 k5 TZ u4 _ ((Td.le l5).up QA ll) (bo hk QA) (ja Qz PG QE) SI) fun a e Z6 c6 k6 SQ l6 U2 Tq SM ha=>?_;refine .al2 fun al v=>?_;exact .finM2 (c:=c6) (d:=.lst [.int k6 SQ]) 0 0 (.ret (.v 14)) [14,12,10,13,8] nt [] (ρ':=[.ref v,.ref a,.ref b,.ref al,.str op to]) fun Zs r l7 hf U e=>⟨U2,k6,SQ,rfl,bo QA Tq,ja Qz QE SM,v,_,af.det e rfl,(uJ hf hz.s (bo Qz PG) Qc (fun U h=>absurd h hm) (ha.le l7) (hb.le (l6.trans l7)) (aJ RQ)).up (bo h3 b1) (aJ b4) (aJ b6) (aJ b8) (aJ b9)⟩
 refine .opb (.cmp .Lt) (fun tk=>[.int p u,.int 4 (tk 1)]) false (fun tk h Q q=>lm (q _ (Pl _ (Pr w4)))) ?_
 by_cases w7:p < 7
 ·refine .opb (.cmp .Lt) (fun tk=>[.int p u,.int 7 (tk 1)]) true (fun tk h Q q=>lm (q _ (Pl _ (Pt w7)))) ?_;have hp:p=4\/p=5\/p=6:=by lia
  rcases hp with rfl | rfl | rfl
  ·refine .opi (.bin .Sub) (fun tk=>[.int 4 u,.int 4 (tk 1)]) 0 (fun tk h Q q=>mZ fun k=>q _ ⟨k,rfl⟩) fun u2=>?_;exact .genT (c:=c2) (f:=dm) (vs:=fun U=>[.ref so,.ref sc,.int 0 u2,.int (d+1:Nat) td]) (cn:=cn+cn+2) 0 4 8 (fun U=>Dy hc h8 hq Q3 hk (bo Qz PG) Qm (aJ hn)) (cZ) (aJ Qz) (bo h3 b1) (aJ b4) (aJ b6) (aJ b8) (aJ b9)
  ·refine .opi (.bin .Sub) (fun tk=>[.int 5 u,.int 4 (tk 1)]) 1 (fun tk h Q q=>mZ fun k=>q _ ⟨k,rfl⟩) fun u2=>?_;exact .genT (c:=c2) (f:=dm) (vs:=fun U=>[.ref so,.ref sc,.int 1 u2,.int (d+1:Nat) td]) (cn:=cn+cn+2) 0 4 8 (fun U=>Dz hc h8 ⟨by decide,by decide,by decide⟩ hq RQ Q3 hk (bo Qz PG) Qm (aJ hn)) (cZ) (aJ Qz) (bo h3 b1) (aJ b4) (aJ b6) (aJ b8) (aJ b9)
  ·refine .opi (.bin .Sub) (fun tk=>[.int 6 u,.int 4 (tk 1)]) 2 (fun tk h Q q=>mZ fun k=>q _ ⟨k,rfl⟩) fun u2=>?_;exact .genT (c:=c2) (f:=dm) (vs:=fun U=>[.ref so,.ref sc,.int 2 u2,.int (d+1:Nat) td]) (cn:=cn+cn+cn+cn+4) 0 4 8 (fun U=>DA (n:=n) (uM hc (aJ hn) hq h8.1 h3) ll WA h8 h9 hq To Uv Q3 hk (bo Qz PG) Qm (aJ hn) hc) (cZ) (aJ Qz) (aJ b2) (aJ b4) (aJ b5) (aJ b7) (aJ b9)
 refine .opb (.cmp .Lt) (fun tk=>[.int p u,.int 7 (tk 1)]) false (fun tk h Q q=>lm (q _ (Pl _ (Pr w7)))) ?_
 by_cases w9:p < 9
 ·refine .opb (.cmp .Lt) (fun tk=>[.int p u,.int 9 (tk 1)]) true (fun tk h Q q=>lm (q _ (Pl _ (Pt w9)))) ?_;have hp:p=7\/p=8:=by lia
  rcases hp with rfl | rfl
  ·refine .opi (.bin .Sub) (fun tk=>[.int 7 u,.int 7 (tk 1)]) 0 (fun tk h Q q=>mZ fun k=>q _ ⟨k,rfl⟩) fun u2=>?_;exact .genT (c:=c2) (f:=eM) (vs:=fun U=>[.ref so,.ref sc,.int 0 u2,.int (d+1:Nat) td]) (cn:=cn+cn+cn+3) 0 4 8 (fun U=>DC hc Q3 hk (bo Qz PG) Qm (aJ hn)) (cZ) (aJ Qz) (aJ b1) (aJ b4) (aJ b5) (aJ b7) (aJ b9)
  ·refine .opi (.bin .Sub) (fun tk=>[.int 8 u,.int 7 (tk 1)]) 1 (fun tk h Q q=>mZ fun k=>q _ ⟨k,rfl⟩) fun u2=>?_;exact .genT (c:=c2) (f:=eM) (vs:=fun U=>[.ref so,.ref sc,.int 1 u2,.int (d+1:Nat) td]) (cn:=cn+cn+cn+3) 0 4 8 (fun U=>DE hc h8 hq Q3 hk (bo Qz PG) Qm (aJ hn)) (cZ) (aJ Qz) (aJ b1) (aJ b4) (aJ b5) (aJ b7) (aJ b9)
 refine .opb (.cmp .Lt) (fun tk=>[.int p u,.int 9 (tk 1)]) false (fun tk h Q q=>lm (q _ (Pl _ (Pr w9)))) ?_
 by_cases Zj:p=9
 ·refine .opb (.cmp .Eq) (fun tk=>[.int p u,.int 9 (tk 1)]) true (fun tk h Q q=>kD (q _ (by rw [Zj];rfl))) ?_;have Th:=(l1.trans l2) _ _ UN;refine .al1 fun nn=>?_;cases xf with
  | nil=>refine .opB (.cmp .NotEq) (fun U=>[.ref fl,.ref nn]) false (fun tk T h Zs ms R l H Q q=>jb (H.st.z (l _ _ Th)) (fk.nil (Z:=Z2) (a:=nn) 7 OT OT T h Zs ms R l H) (q _ _ H.st rfl)) ?_;refine .gen (c:=c2) (f:=cf) (vs:=fun U=>[.ref so,.ref sc,.int (d+1:Nat) td]) (cn:=cn+2) 0 4 (fun U=>(uM hc (aJ hn) hq h8.1 h3) _ so sc co c2 k tk td _ Q3 hk (bo Qz PG) Qm) fun v Z5 c5 k5 TZ l5 SI QA QE p=>?_;obtain ⟨lr,fn,kk,u5,g,rfl,zr,QY,Qx⟩:=p;refine .fx (.v 8) 3 [.ref lr,.ref fn,.int kk u5] [8,9,10] [(8,.lst [.v 9,.v 10])] (ρ':=[.ref lr,.ref fn,.int kk u5]) (fz:=[(0,.lst [.v 1,.v 2])]) ⟨⟨lr,_,rfl,zr,rfl,rfl,OU⟩,OU⟩ ?_;exact .genT (c:=c5) (f:=cS) (vs:=fun U=>[.ref so,.ref sc,.ref fn,.int kk u5,.int (d+1:Nat) td]) (cn:=cn+cn) 0 4 11 (fun U=>pW (M:=m) QY hc (Dh h8 ll (Qx.up (cZ))) ll h8 hq ((Q3.le l5).up QA ll) (bo hk QA) (ja Qz PG QE) SI (aJ hn)) (aJ QA) (bo Qz QE) (bo h3 b1) (aJ b4) (aJ b5) (aJ b7) (aJ b9)
  | cons x0 xs=>refine .opB (.cmp .NotEq) (fun U=>[.ref fl,.ref nn]) true (fun tk T h Zs ms R l H Q q=>jb (H.st.z (l _ _ Th)) (fk.nil (Z:=Z2) (a:=nn) 7 OT OT T h Zs ms R l H) (q _ _ H.st rfl)) ?_;refine .m1 (vs:=fun U=>[.ref so,.ref fl]) 0 0 (fun U=>xX Qm Th (by simp) (by rw [List.length_map];exact ja Qz PG h5)) fun v Z3 c3 l3 pv=>?_;refine oA pv fun TL hv=>?_;clear pv;refine bM (Pa hv) fun fa Yg R5=>?_;subst R5;refine iJ (h7 fa Yg) fun Yh t1 kk u5 K zt hx QY hKK=>?_;refine .fx (.v 8) 3 [.ref fa,.str Yh t1,.int kk u5] [8,9,10] [(8,.tup [.v 9,.v 10])] (ρ':=[.ref fa,.str Yh t1,.int kk u5]) (fz:=[(0,.tup [.v 1,.v 2])]) ⟨⟨fa,_,rfl,(l1.trans (l2.trans l3)) _ _ zt,rfl,rfl,OU⟩,OU⟩ ?_;refine .al1 fun vx=>.facts [11,9] nr (ρ':=[.ref vx,.str Yh t1]) fun Z4 l4 W0=>?_;exact .genT (c:=c3) (f:=cS) (vs:=fun U=>[.ref so,.ref sc,.ref vx,.int kk u5,.int (d+1:Nat) td]) (cn:=cn+cn) 0 4 12 (fun U=>pW (M:=m) QY hc (Dg (w:=w) W0 hx) ll h8 hq (Q3.le (l3.trans l4)) hk (bo Qz PG) TL (aJ hn)) (cZ) (aJ Qz) (bo b3 hKK) (aJ b4) (aJ b5) (aJ b7) (aJ b9)
 ·refine .opb (.cmp .Eq) (fun tk=>[.int p u,.int 9 (tk 1)]) false (fun tk h Q q=>kD (q _ (Pl Value.bool (beq_eq_false_iff_ne.mpr Zj)))) ?_;refine .gen (c:=c2) (f:=cf) (vs:=fun U=>[.ref so,.ref sc,.int (d+1:Nat) td]) (cn:=cn+2) 0 4 (fun U=>(uM hc (aJ hn) hq h8.1 h3) _ so sc co c2 k tk td _ Q3 hk (bo Qz PG) Qm) fun v Z5 c5 k5 TZ l5 SI QA QE p=>?_;obtain ⟨lr,fn,kk,u5,g,rfl,zr,QY,Qx⟩:=p;refine .fx (.v 7) 3 [.ref lr,.ref fn,.int kk u5] [7,8,9] [(7,.lst [.v 8,.v 9])] (ρ':=[.ref lr,.ref fn,.int kk u5]) (fz:=[(0,.lst [.v 1,.v 2])]) ⟨⟨lr,_,rfl,zr,rfl,rfl,OU⟩,OU⟩ ?_;exact .genT (c:=c5) (f:=cS) (vs:=fun U=>[.ref so,.ref sc,.ref fn,.int kk u5,.int (d+1:Nat) td]) (cn:=cn+cn) 0 4 10 (fun U=>pW (M:=m) QY hc (Dh h8 ll (Qx.up (cZ))) ll h8 hq ((Q3.le l5).up QA ll) (bo hk QA) (ja Qz PG QE) SI (aJ hn)) (aJ QA) (bo Qz QE) (bo h3 b1) (aJ b4) (aJ b5) (aJ b7) (aJ b9)
theorem zC {i : Nat}{xs:List SV}{l:List SL}{R:dy}(h:l[j]? =some (.own i (.lst xs)))(r:ak (RE env ρ) l R):∃ a vs,R[j]? =some (a,.pls vs)/\ak (af ρ) xs vs/\ak (RE env ρ) (l.set j (.own i (.opq 0))) (R.set j (a,.lst vs))/\cont (l.set j (.own i (.opq 0))) (R.set j (a,.lst vs))=(cont l R).take (iZ (l.take j))++.lst vs::(cont l R).drop (iZ (l.take j)):=
 r.ind (M:=fun l R=>∀ j,l[j]? =some (.own i (.lst xs))->∃ a vs,R[j]? =some (a,.pls vs)/\ak (af ρ) xs vs/\ak (RE env ρ) (l.set j (.own i (.opq 0))) (R.set j (a,.lst vs))/\cont (l.set j (.own i (.opq 0))) (R.set j (a,.lst vs))=(cont l R).take (iZ (l.take j))++.lst vs::(cont l R).drop (iZ (l.take j))) (fun U e=>nS e) (fun {x p l R} r r2 ih j h=>by
  cases j with
  | zero=>obtain rfl:=Pd h;refine kM r fun h1 vs h2 h3=>?_;obtain ⟨a,c⟩:=p;obtain rfl:c=.pls vs:=h2;exact o6 a vs rfl h3 ⟨(cF h1 (fun e=>by cases e) (fun e=>by cases e)),r2⟩ rfl
  | succ j=>exact li (ih j h) fun a vs h1 h2 h3 h4=>o6 a vs h1 h2 ⟨r,h3⟩ (Gh h4)) j h
noncomputable def bb.opL (i j:Nat)(s:bb):bb:={s with led:=s.led.set j (.own i (.opq 0))}
theorem ae.opnL (i j q:Nat)(k:Int)(g:∀ u,ae w B O n env (t.wst (t.st.opL i j)) ρ (γ.take q++.lst [.int k u]::γ.drop q) Z Q)(Py:autoParam ((t.isAsk,(t.st.led[j]?,iZ (t.st.led.take j)))=(true,(some (.own i (.lst [.int k])),q))) tac0):ae w B O n env t ρ γ Z Q:=
 ae.pre (ff Py) fun T h S=>S.here fun Zs ms R l H=>by refine oA (Pc (Pc Py).2) fun hj hc=>?_;refine li (zC hj H.re) fun a vs h1 h2 h3 h4=>?_;rw [H.co,hc] at h4;refine et (ak.cons_r h2) fun x Tp PL QI h6=>?_;subst PL;refine oE QI fun u PQ=>?_;clear QI;subst PQ;obtain rfl:=ak.nil_r h6;have PE:=H.st.weakL (mD h1);rw [ku h1] at PE;exact ⟨t.st.opL i j,ρ,_,Z,.refl _,⟨S.len,S.ok,Zs,ms,_,l,PE,H.rm,h3,h4,H.fz⟩,g u⟩
theorem bK.t2s {i : Nat}{a:Addr}{s:Str}{x:Value}(h:bK ρ Z i (.tup [.str s,.v j]))(ha:autoParam (ρ[i]? =some (.ref a)) tac10)(hx:autoParam (ρ[j]? =some x) tac10):∃ t,Z a=some (.tup [.str s t,x]):=by obtain ⟨b,vs,h1,h2,h3⟩:=h;rw [ha] at h1;cases h1;obtain ⟨y,vs,rfl,h4,h3⟩:=ak.cons_r h3;obtain ⟨z,Tp,rfl,h5,h6⟩:=ak.cons_r h3;obtain rfl:=ak.nil_r h6;refine oE h4 fun t Q4=>?_;clear h4;subst Q4;obtain rfl:=af.det h5 hx;exact ⟨t,h2⟩
theorem ae.genR {f:Addr}{cn:Nat}{tk:Tok}{P:a8->Value->Prop}(i i':Nat)(h:∀ PS,r9 w m (call (.ref f) (vs PS)) so co c (.lst [.int k tk]) (lL k cn P) Z)(kk:∀ v Z' c' k' PS,Z.le Z'->gP c'->k<=k'->k'<=k+cn->P Z' v->Co w B O env n t ρ [.lst [.int k' PS],c'] Z' Q v)(hm:autoParam (m<=n) tac9)
  (Py:autoParam (q2 t ρ i i'=Nf 0 1 0 0 f vs) tac0) (ha:autoParam (ρ[i]? =some (.ref so)) tac0) (hb:autoParam (ρ[i']? =some (.ref co)) tac0):ae w B O n env t ρ [.lst [.int k tk],c] Z Q:=by have q1:=Pc (ff Py);have q2:=Pc q1.2;have q3:=Pc q2.1;have q4:=Pc q2.2;have q5:=Pc q4.1;refine .mt2 (op:=.call) (P:=lL k cn P) (vs:=fun tk=>.ref f::vs tk) i 1 i' 0 h (fun v Z' c' d' l p=>?_) hm q4.2 (by unfold qg rg;rw [q1.1,q3.2,(Pc Py).2]) ha rfl q5.2 hb rfl;refine o4 p fun hs k' PS Qu p1 Vi=>?_;clear p;refine oA Vi fun p2 p3=>?_;clear Vi;subst Qu;exact ⟨by rw [q3.1,q5.1];rfl,kk v Z' c' k' PS l hs p1 p2 p3⟩
theorem tO {P:Params}:bU P lh eN 1:=.mk1
theorem DH (KB:Nat):gp w 12 0 KB 4 0 8 8 67 0:=fun Z so sc co c k tk td Γ hz=>(DG (w:=w) (KB:=KB)).up ll ll ll ll ll ll OV ll Z so sc co c k tk td Γ hz
theorem y6 {KB m:Nat}(h1:52<=m)(h2:KB+15<=m):gp w 21 1 KB m 3 99 84 107 4:=tN (QS:=KB+5) (DH _) (DH _) lw (cF lw lw lw) (cF lw lw lw) lw lw lw lw lw lw (aJ h1) (aJ h2) lw lw lw lw lw lw lw
theorem On:HZ w 24 2 0 52 3 99 84 110 6:=uM (y6 lw lw) lw lw lw lw
theorem I2:gp w 30 2 53 250 12 455 384 463 20:=tN (QS:=69) (m:=68) (m':=84) (y6 lw lw) (y6 lw lw) lw (cF lw lw lw) (cF lw lw lw) lw lw lw lw lw lw lw lw lw lw lw lw lw lw lw
def zD:List (Nat×aE):=[(0,.obj e7 [(aR,.v 1),(gX,.v 2),(gE,.str cx)]),(1,.lst [.v 3,.v 5]),(3,.tup [.str cx,.v 4]),(5,.tup [.str bj,.v 6]),(2,.dct [])]
inductive DI (w:World)(Z:a8)(r:Value):Prop
 | mk (pr bl cd QB mn PT gn:Addr) (kk:Nat) (g:Ev->Int->Int->Int) (e:Ev->Int) (_:r=.ref pr) (_:ac [.ref pr,.ref bl,.ref cd,.ref QB,.ref mn,.ref PT,.ref gn] Z zD) (_:FX w [] kk g 52 3 99 84 110 Z gn) (_:CX w [(bj,.fn kk 53)] e 250 12 455 384 463 Z mn):DI w Z r
theorem FG {so:Addr}{c:an}(hs:gP c):yF w 36 (call (.ref eN) [.ref so]) so c (fun Z r c'=>DI w Z r) Z:=by
 refine kx (n:=33) (N:=1) [.ref so] (PD:=[.v 0]) (fz:=[]) false 0 0 tO OU (fun B O L Z1 l1=>?_) ⟨rfl,OU⟩;refine .dict3 oc od lV (fi lh false) ((tO (P:=w.params)).env false L) OV (.al3 fun il fl co=>.done [] fun sc=>?_);refine .opnL 3 1 0 100 fun tk=>.frzK 4 0 (.dct [(oc,.v 1),(od,.v 2),(lV,.v 3)]) fun Z2 l2=>.frzK 2 1 (.lst []) fun Z3 l3=>.frzK 1 1 (.lst []) fun Z4 l4=>.facts [4,1,2,3] (HW++[(1,.lst []),(2,.lst [])]) (ρ':=[.ref sc,.ref il,.ref fl,.ref co]) fun Z5 l5 hf=>?_;have hz:oJ [] 0 100 Z5 sc co:=⟨(fun U h=>nomatch h),il,fl,[],[],hf.sl [0,1,2,3],hf.2.1.lv,hf.2.2.1.lv,by simp,by simp,(fun U h=>nomatch h),(fun U h=>nomatch h)⟩
 refine .genR (c:=c) (f:=cf) (vs:=fun tk=>[.ref so,.ref sc,.int 2 (tk 3)]) (k:=100) (tk:=tk) (cn:=6) 0 3 (fun PS=>On Z5 so sc co c 100 tk _ [] hz lw lw hs) fun v Z6 c6 k6 SQ l6 U2 Tq SM p=>?_;obtain ⟨lr,fn,kk,u5,g,rfl,zr,QY,Qx⟩:=p;refine .fx (.v 5) 3 [.ref lr,.ref fn,.int kk u5] [5,6,7] [(5,.lst [.v 6,.v 7])] (ρ':=[.ref lr,.ref fn,.int kk u5]) (fz:=[(0,.lst [.v 1,.v 2])]) ⟨⟨lr,_,rfl,zr,rfl,rfl,OU⟩,OU⟩ ?_;refine .al3 fun el tp QH=>.frzK 10 0 (.lst [.v 9]) fun Z7 l7=>.frzK 8 0 (.lst []) fun Z8 l8=>.facts [8,10,9,7] [(0,.lst []),(1,.lst [.v 2]),(2,.tup [.str bj,.v 3])] (ρ':=[.ref el,.ref QH,.ref tp,.int kk u5]) fun Z9 l9 UY=>?_;refine oE (UY.2.2.1.t2s (a:=tp) (x:=.int kk u5)) fun t2 Y4=>?_;have Yi:=l6.trans (l7.trans (l8.trans l9));refine .rt (vs:=fun U=>[.ref sc,.ref el,.ref QH]) (fun U=>oI ((hf.sl [0,1,2,3]:ac [.ref sc,.ref il,.ref fl,.ref co] Z5 HW).ext (.refl _) Yi) (Yi _ _ (hf.2.1.lv (ys:=[]))) (Yi _ _ (hf.2.2.1.lv (ys:=[]))) UY.1.lv UY.2.1.lv (by show 0+0<=200;exact cZ) (by show 0+1<=200;exact cZ)) fun r Uw Ri p=>?_;refine fq p fun Q2 SH QF R5 Tf Zk=>?_;clear p;refine oA Zk fun hi' TX=>?_;clear Zk;subst R5;have Rw:oJ [(bj,.fn kk 53)] 53 k6 Uw Q2 co:=⟨fZ (.inl rfl),SH,QF,[],[tp],Tf,hi',TX,by simp only [List.length_nil];exact aJ Tq,by symm;exact aJ Tq,nF,fZ (gY bj t2 kk u5 53 (Ri _ _ Y4) (.head _) QY (Pm _))⟩
 refine .one rfl ?_;refine .genR (f:=aS) (vs:=fun tk=>[.ref so,.ref Q2,.int 2 (tk 3)]) (cn:=20) 0 3 (fun PS=>I2 Uw so Q2 co c6 k6 SQ _ _ Rw lw (aJ SM) U2) fun v Wr Yd V0 UA Rp W3 W4 TM p=>?_;refine iQ p fun mn e Sn Ru=>?_;clear p;subst Sn;refine .one rfl ?_;refine .al2 fun QB PT=>.al3 fun bl cd pr=>?_;exact .finM (c:=Yd) 1 (.ret (.v 17)) [17,15,16,13,12,14,6] zD [] (ρ':=[.ref pr,.ref bl,.ref cd,.ref QB,.ref mn,.ref PT,.ref fn]) fun Zs r T7 hp U e=>⟨pr,bl,cd,QB,mn,PT,fn,kk,g,_,(af.det e OT:r=.ref pr),hp,Qx.le (l7.trans (l8.trans (l9.trans (Ri.trans (Rp.trans T7))))),Ru.le T7⟩
theorem MW {P:Params}:bU P wD iP 2:=.mk2
def DJ:KV:=stored (stored [] cx (.bool true)) bj (.bool true)
theorem rX:ii DJ:=⟨by decide,fun x=>by
 unfold DJ;rw [bZ,bZ]
 by_cases h1:x=bj
 ·rw [if_pos h1];simp [h1]
 ·rw [if_neg h1]
  by_cases h2:x=cx
  ·rw [if_pos h2];simp [h2]
  ·rw [if_neg h2];simp [h1,h2,valueAt]⟩
inductive I3 (w:World)(kk:Nat)(g:Ev->Int->Int->Int)(e:Ev->Int)(Z:a8)(r:Value):Prop
 | mk (sp bd cd c1 c2:Addr) (_:r=.ref sp) (_:ac [.ref sp,.ref bd,.ref cd] Z [(0,.obj dU [(aR,.v 1),(gX,.v 2),(gE,.str cx)])]) (_:Z bd=some (.dct (stored (stored [] cx (.ref c1)) bj (.ref c2)))) (_:jy w DJ [] [(bj,.fn kk 53)] e 250 455 384 Z c1) (_:AD w DJ [] kk g 52 99 84 Z c2):I3 w kk g e Z r
theorem I4 {pr bl cd QB mn PT gn fr av nd:Addr}{kk:Nat}{g:Ev->Int->Int->Int}{e:Ev->Int}(UB:ac [.ref pr,.ref bl,.ref cd,.ref QB,.ref mn,.ref PT,.ref gn] Z zD)(Qx:FX w [] kk g 52 3 99 84 110 Z gn)(Ru:CX w [(bj,.fn kk 53)] e 250 12 455 384 463 Z mn)(hf:ac [.ref fr,.ref av,.ref nd] Z rL)(ha:Z av=some (.dct [])):yF w 480 (call (.ref iP) [.ref pr,.ref fr]) nd (.dct []) (fun Z r c=>I3 w kk g e Z r) Z:=by
 have Qn:ac [.ref pr,.ref bl,.ref cd,.ref QB,.ref mn,.ref PT,.ref gn,.ref fr,.ref av,.ref nd] Z [(7,.obj fM [(cm,.v 8),(gc,.v 9)])]:=hf.pt [7,8,9];refine kx (n:=477) (N:=10) [.ref pr,.ref bl,.ref cd,.ref QB,.ref mn,.ref PT,.ref gn,.ref fr,.ref av,.ref nd] (PD:=[.v 0,.v 7]) (fz:=[(0,.obj e7 [(aR,.v 1),(gX,.v 2),(gE,.str cx)]),(1,.lst [.v 3,.v 5]),(3,.tup [.str cx,.v 4]),(5,.tup [.str bj,.v 6]),(7,.obj fM [(cm,.v 8),(gc,.v 9)])]) true 9 2 MW ((qC (UB.1.ext ⟨_,rfl⟩ (.refl _)) (UB.2.1.ext ⟨_,rfl⟩ (.refl _)) (UB.2.2.1.ext ⟨_,rfl⟩ (.refl _)) (UB.2.2.2.1.ext ⟨_,rfl⟩ (.refl _)) Qn.1 OU)) (fun B O L Z1 l1=>?_) (cF rfl rfl OU);refine .al1 fun gd=>.opn 10 0 0 true (.setD 10 0 gd cx (fun tk=>tk 1) (.bool true) rfl OV (.setD 10 0 gd bj (fun tk=>tk 1) (.bool true) rfl OV ?_));refine .al3 fun fn mk bd=>.frz 10 0 (a:=gd) (c:=.dct DJ) fun Z2 l2 zg=>.facts [12,11,7,10,8,9] HC (ρ':=[.ref mk,.ref fn,.ref fr,.ref gd,.ref av,.ref nd]) fun Z3 l3 Uk=>?_;have hm:fQ Z3 mk fn fr gd av nd DJ:=⟨Uk,l3 _ _ zg,(l1.trans (l2.trans l3)) _ _ ha⟩
 have W6:=l1.trans (l2.trans l3);refine .mkr (P7:=[]) (N:=fun U=>0) 9 0 (((Ru.clo ll OV rX).le W6 ll)) hm (fun b=>.inl ⟨rfl,rfl⟩) (fun b=>by decide) OV fun v Z4 PK N2 l4 ct p=>?_;obtain ⟨c1,rfl,p1⟩:=p;have hz:=ct.len;refine .one rfl ?_;refine .opn 13 0 0 true (.setD 13 0 bd cx (fun tk=>tk 1) (.ref c1) rfl OV ?_);refine .mkr (P7:=PK) (N:=N2) 9 1 (((Qx.mkc DJ rX).le (W6.trans l4) ll)) (hm.le l4) ct.at' (fun b=>by have:=ct.up b;exact aJ this) (by simp only [List.length_nil] at hz;exact aJ hz) fun v Z5 Qi N3 l5 Sw p=>?_;obtain ⟨c2,rfl,p2⟩:=p;refine .one rfl (.setD 13 0 bd bj (fun tk=>tk 1) (.ref c2) rfl (Pg aG OV) (.al1 fun sp=>?_));exact .finM (c:=.dct Qi) 1 (.ret (.v 16)) [16,13,2] [(0,.obj dU [(aR,.v 1),(gX,.v 2),(gE,.str cx)])] [(13,0)] (ρ':=[.ref sp,.ref bd,.ref cd]) fun Zs v l6 h hO r=>⟨sp,bd,cd,c1,c2,(af.det r OT:v=.ref sp),h,hO.1 bd _ OT rfl,jy.mono _ _ _ (l5.trans l6) p1,AD.mono _ _ _ l6 p2⟩
end
section
variable {w:World}{n:Nat}{Z Z':a8}{B:Heap}{O:aP}{led:dy}{h:Heap}
variable {x : Str} {ip fp : Pos} {fb body : List Stmt} {P9 : FuncData} {f : Addr} {vals : LV} {fr : Addr×an} {vs : (Nat->Tok)->LV} {F : FI} {j : Nat} {fin : bb->LV->List an->a8->Prop} {ks : List Str}
noncomputable def y7 (a:Addr):Obj:={cls:=.type "tuple_iterator",data:=.fields #[.ref a,.int 0 0]}
theorem AF {x:Addr}{tp : Pos}{Q:VP}(Qp:jt.body=.stmts [.For (.Name am tp) (.Name bX ip) fb [] fp])(S:St w B O Z led h)(ht:∀ h':Heap,(∀ a o,B.get? a=some o->h'.get? a=some o)->h'.IsTuple 764 ⟨[]⟩)(q:∀ h',St w B O Z led h'->Q .none h'):W PW w (n+1) (call (.ref hY) [.ref x,.ref 764]) Q h:=by refine wG (B8 (P9:=jt) (ms:=[(aH,some (.ref x)),(bX,some (.ref 764)),(am,none)]) S Qp fun L h₁ hL S=>?_);refine f8 (FS (oN S (i:=0) (j:=1) rfl rfl ?_) fun x=>rfl);refine .mk fun A g d tk os hA=>wpAny_pyIter_tuple (items:=⟨[]⟩) (ht _ S.keepB) (aI ?_);have S1:=S.push1 (y7 764) (.obj (y7 764)) (Heap.get?_push_size _ rfl);refine yl (fun k h'=>St w B O Z ((L,.ns [(aH,some (.ref x)),(bX,some (.ref 764)),(am,none)])::(h₁.objs.size,.obj (y7 764))::led) h') (fun k h' S2=>?_) 0 S1 rfl;refine .mk fun A g d tk os hA=>wpAny_pyNext_tuple_end (items:=⟨[]⟩) (i:=0) hA.2.2 (iG _ (S2.get 1 rfl) rfl rfl) (ht _ S2.keepB) rfl fun h2 hx=>aI (dq (dq (q _ ((S2.extBut hx).drop 1))))
theorem I5{ms:List (Str×Option Value)}{binds:KV}{Q:VP}(S:St w B O Z led h)
  (Qp:P9.body=.stmts body)
  (k:∀ L h₁,h.objs.size=L->St w B O Z ((L,.ns ms)::led) h₁->W PW w n (execs body (callEnvC P9 L f)) (fun fl h'=>Q (match fl with | .ret v=>v | _=>.none) h') h₁)
  (Rk:∀ s:Shared,s.heap=h->BindsTo s P9 ⟨vals,[]⟩ binds) (TS:ms.map (fun p=>binds.reverse.lookup p.1)=ms.map (·.2)) (RJ:(ms.map (·.1)).Nodup)
  (hf:autoParam ((KF w.params).lookup f=some (fo P9)) tac0) (TQ:autoParam (codeIn (KF w.params) P9.code P9.qualname=true) tac0)
  (QJ:autoParam ((P9.scope.names.all fun x=>decide (x.2≠.cell))=true) tac0) (Sq:autoParam ((binds.all fun x=>decide (P9.scope.names.lookup x.1=some .local))=true) tac0)
  (hce:autoParam (∀ L,callEnv P9 L f=callEnvC P9 L f) tac7) (Rq:autoParam ((P9.scope.isCoroutine || P9.scope.isGenerator || !decide (P9.scope.kind=.function))=false) tac0):C PW w (n+1) (.call (.ref f) ⟨vals,[]⟩) (mY Q) h:=by
 rw [Bool.or_eq_false_iff,Bool.or_eq_false_iff,Bool.not_eq_false'] at Rq;refine .mk fun A g d tk os hb=>codeAny_call_def (fd:=P9) (body:=body) (binds:=binds) hb.room (S.k _ _ hf) rfl S.nolimit (codeRec_of S.k TQ) Qp (Rk _ rfl) (fun x hx=>Pp (OZ QJ x hx)) (fun x hx=>Pp (OZ Sq x hx)) (fun h₁ hn kp=>?_) Rq.1.1 Rq.1.2 (Pp Rq.2)
 have Pz:St w B O Z ((h.objs.size,.ns ms)::led) h₁:=S.grow1 kp (iG _ hn (fun q hq=>by refine oE (List.getElem?_of_mem hq) fun i hi=>?_;have e:=Pl (·[i]?) TS;simp only [List.getElem?_map,hi,Option.map_some,Option.some.injEq] at e;exact e) RJ) ll
 rw [hce];exact (k _ h₁ rfl Pz).to (hb.deeper _) fun fl h' PS q=>aI (by cases fl<;>exact q)
theorem AG{p1 q1 d1 s1 p2 q2 d2 s2 p3 q3 p4 c3 e3:Pos}{tp : Pos}{Q:VP}(Yj:jt.body=.stmts [.For (.Name am tp) (.Name bX ip) fb [] fp])
  (Qp:bV.body=.stmts [.Assign [.Attribute (.Name aH p1) cm q1] (.Dict [] [] d1) s1,.Assign [.Attribute (.Name aH p2) gc q2] (.Dict [] [] d2) s2,.Expr (.Call (.Attribute (.Name aH p3) jY q3) [.Name cm p4] [] c3) e3])
  (hs1:∀ L,swapsWith (.Dict [] [] d1) (some (.Attribute (.Name aH p1) cm q1)) s1.line (callEnvC bV L cq)=pure false) (Qm:∀ L,swapsWith (.Dict [] [] d2) (some (.Attribute (.Name aH p2) gc q2)) s2.line (callEnvC bV L cq)=pure false)
  (hm:∀ L,eval (.Call (.Attribute (.Name aH p3) jY q3) [.Name cm p4] [] c3) (callEnvC bV L cq)=(do
   let ov <- eval (.Name aH p3) (callEnvC bV L cq)
   standAt q3.atName
   let (f,first) <- holding [ov] (getMethod ov jY (do return (<- importBound (.Name aH p3) (callEnvC bV L cq)).getD true))
   callWith c3 f first (backTo c3 (starEach [.Name cm p4] (callEnvC bV L cq))) []))
  (S:St w B O Z (fr::led) h) (ht:∀ h':Heap,(∀ a o,B.get? a=some o->h'.get? a=some o)->h'.IsTuple 764 ⟨[]⟩)
  (q:∀ (x av nd:Addr) Z' h',Z.le Z'->ac [.ref x,.ref av,.ref nd] Z' rL->Z' av=some (.dct [])->St w B O Z' (fr::(nd,.dct [])::led) h'->Q (.ref x) h'):W PW w (n+3) (call (.ref fM) []) Q h:=by
 refine FR (f:=cq) S fun x dx h1 S=>?_;refine I5 (n:=n+1) (P9:=bV) (ms:=[(aH,some (.ref x)),(cm,some (.ref 764))]) (binds:=[(aH,.ref x),(cm,.ref 764)]) S Qp (fun L h₁ hL S=>?_) (fun s e=>.of_defaults (T:=765) (o:=DY) (items:=⟨[.ref 764]⟩) rfl (e▸S.k 765 DY OT) rfl rfl rfl) rfl (show [aH,cm].Nodup by decide)
 ·refine f8 (km (ug S fun av h2 S=>?_) (hs1 L));refine oN S (i:=0) (j:=0) rfl rfl ?_;refine o8 S (S.get 3 rfl) (j:=4) rfl rfl (by simp) fun h3 S=>?_;dsimp only [List.set,List.nil_append,List.cons_append] at S;refine f8 (km (ug S fun nd h4 S=>?_) (Qm L));refine oN S (i:=0) (j:=0) rfl rfl ?_;refine o8 S (S.get 4 rfl) (j:=5) rfl OT (by simp) fun h5 S=>?_;dsimp only [List.set,List.nil_append,List.cons_append] at S;refine f8 (B4 (vt (oN S (i:=0) (j:=0) rfl rfl ?_) (hm L)));refine oP (f:=hY) S (S.get 4 rfl) (S.get 5 rfl) OT ?_;refine GY S (n6 (oN S (i:=0) (j:=1) rfl rfl (oO ⟨S.k,?_⟩)));refine AF Yj S ht fun h6 S=>⟨rfl,dq ⟨rfl,?_⟩⟩
  refine d6 (S.front (i:=5) rfl).fz0 fun Z1 l1 z1 S3=>?_;refine d6 (S3.front (i:=4) rfl).fz0 fun Z2 l2 z2 S4=>?_;refine d6 (S4.front (i:=2) rfl).fz0 fun Z3 l3 z3 S5=>?_;exact q x av nd Z3 h6 (l1.trans (l2.trans l3)) ⟨⟨x,dx,_,rfl,l3 _ _ z2,(l2.trans l3) _ _ z1,⟨rfl,rfl⟩,⟨rfl,rfl⟩,OU⟩,OU⟩ z3 (.swap (S5.drop 1))
theorem AH{Q:VP}(S:St w B O Z (fr::led) h)(ht:∀ h':Heap,(∀ a o,B.get? a=some o->h'.get? a=some o)->h'.IsTuple 764 ⟨[]⟩)
  (q:∀ (x av nd:Addr) Z' h',Z.le Z'->ac [.ref x,.ref av,.ref nd] Z' rL->Z' av=some (.dct [])->St w B O Z' (fr::(nd,.dct [])::led) h'->Q (.ref x) h'):W PW w (n+3) (call (.ref fM) []) Q h:=AG rfl rfl (by intro L;kernel_rfl!) (by intro L;kernel_rfl!) (by intro L;kernel_rfl!) S ht q
variable {m:Nat}{env:Env}{ρ:LV}{γ:List an}{α:Type}{t:IT α}{Q:QQ α}
def NW (w:World)(n:Nat)(m:Sem Value)(P:an->Prop)(Z:a8):Prop:=
 ∀ (B:Heap) (O:aP) (Z':a8) (led:dy) (h:Heap) (Q:VP),Z.le Z'->St w B O Z' led h->
  (∀ (a:Addr) c Qr h',Z'.le Qr->P c->St w B O Qr ((a,c)::led) h'->Q (.ref a) h')->W PW w n m Q h
def MX (P:an->Prop):QQ SF:=fun sf s ρ γ Z=>∃ (i j:Nat) (xs:List SV),sf=.ret (.v i)/\s.led[j]? =some (SL.own i (.lst xs))/\∀ vs,ak (af ρ) xs vs->P (.lst vs)
theorem MY{k N:Nat}{PD:List SV}{fz:List (Nat×aE)}{P:an->Prop}(ρ:LV)(b:Bool)(D:bU w.params P9 f k)(hf:ac ρ Z fz)
  (g:∀ B O L Z1,Z.le Z1->ae w B O (n+2) (callEnvC P9 L f) ((ex (fi P9 b) 60).ss (uQ P9) (start P9 PD [] fz N)) ρ [] Z1 (MX P))
  (RZ:ak (af ρ) PD vals) (hk:autoParam (vals.length=k) tac4) (hρ:autoParam (ρ.all bA=true) tac4) (hN:autoParam (ρ.length=N) tac4):NW w (n+3) (call (.ref f) vals) P Z:=by
 intro B O Z1 led h Q l S q;subst hN;refine yE (ρ:=ρ) (R7:=[]) (γ:=[]) (PD:=PD) (fz:=fz) b D S.start0 RZ hk (mu hρ) (fun U=>OU) rfl (fun p hp=>(hf.mem p hp).ext (.refl _) l) fun L=>?_;refine (g B ⟨fun U=>False,h,Z1⟩ L Z1 l).mono fun sf s ρ' γ' Z2 g=>?_;intro h' v S' r;refine fq g fun i j xs PL hj hp=>?_;clear g;subst PL;refine S'.elim fun Zs ms R l2 Pz hm hR hc hf=>?_;refine ju (ak.get hR hj) fun QI h2 h3 vs PQ h5=>?_;obtain ⟨a,c⟩:=QI;subst PQ;obtain rfl:=af.det r h3;have P1:List.Perm (R++[]) (R.eraseIdx j++[((a,an.pls vs):Addr×an)]):=by rw [List.append_nil];exact (iW h2).trans (List.perm_append_comm (l₁:=[((a,an.pls vs):Addr×an)]))
 refine d6 (uu (T:=[(a,an.pls vs)]) hR.erase ((Pz.erase 0).perm P1)) fun Z3 l3 Q0 U=>?_
 have hn:h.get? a=none:=by
  rcases (Q0.cells _ (.head _)).2.2.1 with h | h
  ·exact h.elim
  ·exact h
 have S3:St w B O Z3 led h':=S.back Q0.ret
 have hold:O.mod a\/O.h.get? a=none:=by
  by_cases m:O.mod a
  ·exact .inl m
  ·cases e:O.h.get? a with
   | none=>exact .inr rfl
   | some o=>have:=S.hist.keep _ _ e m;rw [hn] at this;exact nS this
 have C4:∀ p∈(a,an.pls vs)::led,_:=fun p hp=>(OY hp).elim (fun e=>e▸(fu ((Q0.cells _ (.head _)).1) ((Q0.cells _ (.head _)).2.1) hold ((Q0.cells _ (.head _)).2.2.2))) (S3.cells p)
 have N4:a∉led.map Prod.fst:=fun hm=>by refine bM (Pa hm) fun p hp e=>?_;refine oE ((S.cells p hp).1.live) fun o ho=>?_;rw [show p.1=a from e,hn] at ho;exact nS ho
 have S4:St w B O Z3 ((a,an.pls vs)::led) h':=⟨S3.base,S3.keepB,S3.sub,C4,List.nodup_cons.mpr ⟨N4,S3.nd⟩,S3.hist⟩
 exact q a (.lst vs) Z3 h' Q0.hist.ext (hp vs h5) (S4.weakL (i:=0) rfl)
theorem ae.finN {t:IT SF}{P:an->Prop}(i j:Nat)(xs:List SV)(p:∀ vs,ak (af ρ) xs vs->P (.lst vs))(Py:autoParam ((t.isRet,(t.retA,t.st.led[j]?))=(true,(.ret (.v i),some (.own i (.lst xs))))) tac0):ae w B O n env t ρ γ Z (MX P):=
 have h1:=Pc Py;have h2:=Pc h1.2
 ae.retS h1.1 (bR i j xs h2.1 h2.2 p)
theorem ae.nwX{P:an->Prop}(cn:∀ tk,NW w m (call (.ref f) (vs tk)) P Z)(g:∀ (a:Addr) c Z',Z.le Z'->P c->ae w B O n env (t.nx (.v t.st.nv) (t.st.opn 0)) (sn ρ (.ref a)) (c::γ) Z' Q)(hm:autoParam (m<=n) tac9)
  (Py:autoParam (qa t ρ=rc f vs) tac0):ae w B O n env t ρ γ Z Q:=
 ae.askT (vs:=fun tk=>.ref f::vs tk) (ff Py) (pQ Py) fun tk T h Zs ms R l H=>(cn tk B O Zs _ h _ l H.st fun a c Z' h' l' p Pz=>
  ⟨Z',Z',(a,c)::R,.own t.st.nv (.opq 0)::t.st.led,.v t.st.nv,[.ref a],[],.refl _,l',Pz.swap,⟨.mkOpq (cG H.ln) rfl,kt _ H.re⟩,cG H.ln,DO rfl,(fun U h=>nomatch h),by
   show ae w B O n env _ _ (c::cont t.st.led R) Z' Q;rw [H.co];exact g a c Z' (l.trans l') p⟩).le hm
theorem MZ (a:Int):∃ z:Int,a.fmod 2147483647=z/\0<=z/\z < 2147483647:=iG _ rfl (Int.fmod_nonneg_of_pos a (b:=2147483647) OV) (Int.fmod_lt_of_pos a (b:=2147483647) OV)
theorem DK {a b:Nat}{x y:Value}{vs:LV}(ha:ρ[a]? =some x)(hb:ρ[b]? =some y)(r:ak (af ρ) [.v a,.v b] vs):an.lst vs=an.lst [x,y]:=by
 obtain ⟨x',Tp,rfl,r1,r⟩:=ak.cons_r r;obtain ⟨y',Tp,rfl,r2,r⟩:=ak.cons_r r;obtain rfl:=ak.nil_r r;obtain rfl:=af.det r1 ha;obtain rfl:=af.det r2 hb
 rfl
theorem I6 {P:Params}:bU P uU j5 2:=.mk2
theorem FH {sl:Addr}{xs:LV}{tz:Tok}(hl:Z sl=some (.lst xs))(hx:∀ x∈xs,∃ v t,x=.int v t)(hz:xs.length<=100):NW w 3 (call (.ref j5) [.ref sl,.int 0 tz]) gP Z:=by
 refine MY (n:=0) (N:=1) [.ref sl] (PD:=[.v 0,.int 0]) (fz:=[]) false I6 OU (fun B O L Z1 l1=>?_) (cF rfl ⟨tz,rfl⟩ OU);refine .opI .call (fun U=>[.builtin "len",.ref sl]) xs.length (fun tk=>.at (.z (l1 _ _ hl)) fun h Q hd q=>wM hd (aJ hz) fun k=>q _ ⟨k,rfl⟩) fun u1=>?_;cases xs with
 | nil=>
  obtain ⟨g,eg⟩:∃ g:Int,(if (-1) > 0 then (-1) else 0)=g:=⟨_,rfl⟩
  obtain ⟨y,ey⟩:∃ y:Int,g.fmod 2147483629=y:=⟨_,rfl⟩
  obtain ⟨x0,Yk⟩:∃ x0:Int,(y+0+0+17)*48271=x0:=⟨_,rfl⟩
  refine d6 (MZ x0) fun z ez c0 c1=>?_;obtain ⟨b,eb⟩:∃ b:Bool,decide (g≥1000000000000000000)=b:=⟨_,rfl⟩
  obtain ⟨b1,Yl,VS⟩:∃ b1:Int,(if b then 1 else 0)=b1/\b1.natAbs < 2:=bw _ rfl (by cases b<;>decide);refine .opb (.cmp .Lt) (fun tk=>[.int 0 (tk 0),.int 0 u1]) false (fun tk h Q q=>lm (q _ rfl)) ?_;refine .opi .call (fun tk=>[.type "int",.int 0 (tk 1)]) 0 (fun tk h Q q=>kF fun k=>q _ ⟨k,rfl⟩) fun TK=>?_;refine .opi .call (fun tk=>[.type "int",.int (-1) (tk 1)]) (-1) (fun tk h Q q=>kF fun k=>q _ ⟨k,rfl⟩) fun u4=>?_;refine .opI .call (fun U=>[.builtin "max",.int 0 TK,.int (-1) u4]) g (fun tk T h Zs ms R l H Q q=>FP H.st fun h' t S=>q _ h' S ⟨t,eg▸rfl⟩) fun u5=>?_;refine .opi .call (fun tk=>[.type "int",.int g u5]) (g) (fun tk h Q q=>kF fun k=>q _ ⟨k,rfl⟩) fun u6=>?_;refine .opi (.bin .Mod) (fun tk=>[.int g u6,.int 2147483629 (tk 1)]) (y) (fun tk h Q q=>oL OV fun k=>q _ ⟨k,ey▸rfl⟩) fun u7=>?_;refine .opi (.bin .Mult) (fun tk=>[.int 7919 (tk 0),.int 0 (tk 1)]) (0) (fun tk h Q q=>jC (jD OV) fun k=>q _ ⟨k,rfl⟩) fun v1=>?_;refine .opi (.bin .Mult) (fun tk=>[.int 0 v1,.int 0 (tk 1)]) (0) (fun tk h Q q=>jC (jD OV) fun k=>q _ ⟨k,rfl⟩) fun v2=>?_;refine .opi (.bin .Add) (fun tk=>[.int y u7,.int 0 v2]) (y+0) (fun tk h Q q=>lk fun k=>q _ ⟨k,rfl⟩) fun v3=>?_;refine .opi (.bin .Mult) (fun tk=>[.int 31 (tk 0),.int 0 (tk 1)]) (0) (fun tk h Q q=>jC (jD OV) fun k=>q _ ⟨k,rfl⟩) fun v4=>?_;refine .opi (.bin .Add) (fun tk=>[.int (y+0) v3,.int 0 v4]) (y+0+0) (fun tk h Q q=>lk fun k=>q _ ⟨k,rfl⟩) fun v5=>?_;refine .opi (.bin .Add) (fun tk=>[.int (y+0+0) v5,.int 17 (tk 1)]) (y+0+0+17) (fun tk h Q q=>lk fun k=>q _ ⟨k,rfl⟩) fun v6=>?_;refine .opi (.bin .Mult) (fun tk=>[.int (y+0+0+17) v6,.int 48271 (tk 1)]) (x0) (fun tk h Q q=>jC (jD OV) fun k=>q _ ⟨k,Yk▸rfl⟩) fun v7=>?_;refine .opi .call (fun tk=>[.type "int",.int x0 v7]) (x0) (fun tk h Q q=>kF fun k=>q _ ⟨k,rfl⟩) fun v8=>?_;refine .opi (.bin .Mod) (fun tk=>[.int x0 v8,.int 2147483647 (tk 1)]) (z) (fun tk h Q q=>oL OV fun k=>q _ ⟨k,ez▸rfl⟩) fun v9=>?_;refine .opi (.bin .Pow) (fun tk=>[.int 10 (tk 0),.int 18 (tk 1)]) (1000000000000000000) (fun tk h Q q=>ym fun k=>q _ ⟨k,rfl⟩) fun v10=>?_;refine .opb (.cmp .GtE) (fun tk=>[.int g u5,.int 1000000000000000000 v10]) b (fun tk h Q q=>FL (q _ (eb▸rfl))) ?_;refine .opi .call (fun tk=>[.type "int",.bool b]) (b1) (fun tk h Q q=>Bb fun k=>q _ ⟨k,Yl▸rfl⟩) fun v11=>?_;refine .opi (.bin .Mult) (fun tk=>[.int g u5,.int b1 v11]) (g*b1) (fun tk h Q q=>jC (jD lw) fun k=>q _ ⟨k,rfl⟩) fun Ym=>?_;exact .al1 fun a=>.finN 19 0 [.v 18,.v 15] fun vs r=>⟨g*b1,z,Ym,v9,DK OT OT r,c0,c1⟩
 | cons x xs=>
  refine kC (hx x (.head _)) fun v tv Q4=>?_;subst Q4;obtain ⟨g,eg⟩:∃ g:Int,(if (-1 - v) > v then (-1 - v) else v)=g:=⟨_,rfl⟩
  obtain ⟨y,ey⟩:∃ y:Int,g.fmod 2147483629=y:=⟨_,rfl⟩
  obtain ⟨x0,Yk⟩:∃ x0:Int,(y+0+0+17)*48271=x0:=⟨_,rfl⟩
  refine d6 (MZ x0) fun z ez c0 c1=>?_;obtain ⟨b,eb⟩:∃ b:Bool,decide (g≥1000000000000000000)=b:=⟨_,rfl⟩
  obtain ⟨b1,Yl,VS⟩:∃ b1:Int,(if b then 1 else 0)=b1/\b1.natAbs < 2:=bw _ rfl (by cases b<;>decide);refine .opb (.cmp .Lt) (fun tk=>[.int 0 (tk 0),.int (xs.length+1:Nat) u1]) true (fun tk h Q q=>lm (q _ (Pl _ (Pt (by lia))))) ?_;refine .itL (k:=0) (tx:=fun tk=>tk 1) (x:=.int v tv) (.z (l1 _ _ hl)) OV OV rfl (.one rfl ?_);refine .opi .call (fun U=>[.type "int",.int v tv]) v (fun tk h Q q=>kF fun k=>q _ ⟨k,rfl⟩) fun TK=>?_;refine .opi (.bin .Sub) (fun tk=>[.int (-1) (tk 0),.int v tv]) (-1 - v) (fun tk h Q q=>mZ fun k=>q _ ⟨k,rfl⟩) fun u3=>?_;refine .opi .call (fun tk=>[.type "int",.int (-1 - v) u3]) (-1 - v) (fun tk h Q q=>kF fun k=>q _ ⟨k,rfl⟩) fun u4=>?_;refine .opI .call (fun U=>[.builtin "max",.int v TK,.int (-1 - v) u4]) g (fun tk T h Zs ms R l H Q q=>FP H.st fun h' t S=>q _ h' S ⟨t,eg▸rfl⟩) fun u5=>?_;refine .opi .call (fun tk=>[.type "int",.int g u5]) (g) (fun tk h Q q=>kF fun k=>q _ ⟨k,rfl⟩) fun u6=>?_;refine .opi (.bin .Mod) (fun tk=>[.int g u6,.int 2147483629 (tk 1)]) (y) (fun tk h Q q=>oL OV fun k=>q _ ⟨k,ey▸rfl⟩) fun u7=>?_;refine .opi (.bin .Mult) (fun tk=>[.int 7919 (tk 0),.int 0 (tk 1)]) (0) (fun tk h Q q=>jC (jD OV) fun k=>q _ ⟨k,rfl⟩) fun v1=>?_;refine .opi (.bin .Mult) (fun tk=>[.int 0 v1,.int 0 (tk 1)]) (0) (fun tk h Q q=>jC (jD OV) fun k=>q _ ⟨k,rfl⟩) fun v2=>?_;refine .opi (.bin .Add) (fun tk=>[.int y u7,.int 0 v2]) (y+0) (fun tk h Q q=>lk fun k=>q _ ⟨k,rfl⟩) fun v3=>?_;refine .opi (.bin .Mult) (fun tk=>[.int 31 (tk 0),.int 0 (tk 1)]) (0) (fun tk h Q q=>jC (jD OV) fun k=>q _ ⟨k,rfl⟩) fun v4=>?_;refine .opi (.bin .Add) (fun tk=>[.int (y+0) v3,.int 0 v4]) (y+0+0) (fun tk h Q q=>lk fun k=>q _ ⟨k,rfl⟩) fun v5=>?_;refine .opi (.bin .Add) (fun tk=>[.int (y+0+0) v5,.int 17 (tk 1)]) (y+0+0+17) (fun tk h Q q=>lk fun k=>q _ ⟨k,rfl⟩) fun v6=>?_;refine .opi (.bin .Mult) (fun tk=>[.int (y+0+0+17) v6,.int 48271 (tk 1)]) (x0) (fun tk h Q q=>jC (jD OV) fun k=>q _ ⟨k,Yk▸rfl⟩) fun v7=>?_;refine .opi .call (fun tk=>[.type "int",.int x0 v7]) (x0) (fun tk h Q q=>kF fun k=>q _ ⟨k,rfl⟩) fun v8=>?_;refine .opi (.bin .Mod) (fun tk=>[.int x0 v8,.int 2147483647 (tk 1)]) (z) (fun tk h Q q=>oL OV fun k=>q _ ⟨k,ez▸rfl⟩) fun v9=>?_;refine .opi (.bin .Pow) (fun tk=>[.int 10 (tk 0),.int 18 (tk 1)]) (1000000000000000000) (fun tk h Q q=>ym fun k=>q _ ⟨k,rfl⟩) fun v10=>?_;refine .opb (.cmp .GtE) (fun tk=>[.int g u5,.int 1000000000000000000 v10]) b (fun tk h Q q=>FL (q _ (eb▸rfl))) ?_;refine .opi .call (fun tk=>[.type "int",.bool b]) (b1) (fun tk h Q q=>Bb fun k=>q _ ⟨k,Yl▸rfl⟩) fun v11=>?_;refine .opi (.bin .Mult) (fun tk=>[.int g u5,.int b1 v11]) (g*b1) (fun tk h Q q=>jC (jD lw) fun k=>q _ ⟨k,rfl⟩) fun Ym=>?_;exact .al1 fun a=>.finN 21 0 [.v 20,.v 17] fun vs r=>⟨g*b1,z,Ym,v9,DK OT OT r,c0,c1⟩
variable {PM:dy}{h':Heap}{T:dy}
theorem ae.opnV (i j q i1 i2:Nat)(x y:Value)(k:ae w B O n env (t.wst (t.st.opL i j)) ρ (γ.take q++.lst [x,y]::γ.drop q) Z Q)(Py:autoParam ((t.isAsk,(t.st.led[j]?,iZ (t.st.led.take j)))=(true,(some (.own i (.lst [.v i1,.v i2])),q))) tac0)(h1:autoParam (ρ[i1]? =some x) tac0)(h2:autoParam (ρ[i2]? =some y) tac0):ae w B O n env t ρ γ Z Q:=
 ae.pre (ff Py) fun T h S=>S.here fun Zs ms R l H=>by
  refine oA (Pc (Pc Py).2) fun hj hc=>?_;refine li (zC hj H.re) fun a vs e1 e2 e3 e4=>?_;have q5:=DK h1 h2 e2;injection q5 with q5
  subst q5;rw [H.co,hc] at e4;have PE:=H.st.weakL (mD e1);rw [ku e1] at PE;exact ⟨t.st.opL i j,ρ,_,Z,.refl _,⟨S.len,S.ok,Zs,ms,_,l,PE,H.rm,e3,e4,H.fz⟩,k⟩
theorem St.outer (S1:St w B O Z led h)(S:St w B ⟨fun a=>a∈led.map (·.1),h,Z⟩ Z' PM h'):St w B O Z' PM h':=by
 have hn:∀ a,a∈led.map (·.1)->O.mod a\/O.h.get? a=none:=fun a ha=>by refine bM (Pa ha) fun p hp e=>?_;exact e▸(S1.cells p hp).2.2.1
 have hm:∀ a o,O.h.get? a=some o->¬ O.mod a->¬ a∈led.map (·.1):=fun a o e m ha=>(hn a ha).elim m fun e2=>by rw [e] at e2;exact nO e2
 refine ⟨S.base,S.keepB,S.sub,fun p hp=>?_,S.nd,⟨S1.hist.ext.trans S.hist.ext,fun a o q m=>(S.hist.new a o (S1.hist.keep a o q m) (hm a o q m)).trans (S1.hist.new a o q m),fun a o e m=>S.hist.keep a o (S1.hist.keep a o e m) (hm a o e m)⟩⟩;refine qA (S.cells p hp) fun c1 c2 c3 c4=>?_;refine fu c1 c2 (c3.elim (hn _) fun e=>?_) c4
 by_cases m:O.mod p.1
 ·exact .inl m
 ·cases e2:O.h.get? p.1 with
  | none=>exact .inr rfl
  | some o=>have:=S1.hist.keep _ _ e2 m;rw [show h.get? p.1=none from e] at this;exact nS this
theorem St.inner (S1:St w B O Z led h):St w B ⟨fun a=>a∈led.map (·.1),h,Z⟩ Z led h:=S1.start (fun U hp=>hp) S1.nd fun p hp=>Pb (bw p hp rfl)
theorem St.inr {P:Prop}{d:Addr}{ep:Nat}{P7:KV}(S1:St w B O Z led h)(hd:Z d=some (.dct P7))(Yn:ci w h d (.dce P7 ep))(k:∀ O',St w B O' Z led h->(∀ {Z' PM h'},St w B O' Z' PM h'->St w B O Z' PM h')->(∀ {Z' PM h'},St w B O' Z' PM h'->ci w h' d (.dce P7 ep))->P):P:=
 k _ S1.inner S1.outer fun S2=>Yn.keeps fun o e=>S2.hist.keep _ _ e fun hm=>by refine bM (Pa hm) fun p hp e=>?_;have:=(S1.cells p hp).2.1;rw [e,hd] at this;exact nO this
noncomputable def jz (w:World)(B:Heap)(O:aP)(n:Nat)(env:Env)(F:FI)(body:List Stmt)(x:Str)(j:Nat)(fin:bb->LV->List an->a8->Prop):List Str->bb->LV->List an->a8->Prop
 | [],s,ρ,γ,Z=>fin s ρ γ Z
 | k::ks,s,ρ,γ,Z=>A0 s.loc x=some j/\ae w B O n env ((ex F 40).ss body {s with loc:=s.loc.set j (x,some (.str k))}) ρ γ Z fun sf s' ρ' γ' Z'=>(sf=.next\/sf=.cont)/\jz w B O n env F body x j fin ks s' ρ' γ' Z'
def N5 (w:World)(B:Heap)(O:aP)(n:Nat)(env:Env)(F:FI)(body:List Stmt)(x:Str)(j:Nat)(fin:bb->LV->List an->a8->Prop)(ks:List Str):QQ SF:=fun sf s' ρ' γ' Z'=>(sf=.next\/sf=.cont)/\jz w B O n env F body x j fin ks s' ρ' γ' Z'
noncomputable def I7 (w:World)(B:Heap)(O:aP)(n:Nat)(env:Env)(t:IT SF)(Q:QQ SF):bb->LV->List an->a8->Prop:=fun s ρ γ Z=>ae w B O n env (t.nxS .next s) ρ γ Z Q
inductive N6 (w:World)(B:Heap)(O:aP)(T:dy)(env:Env)(it d ep:Addr)(len:Nat)(G:Nat->bb->LV->List an->a8->Prop)(ρ0:LV)(k:Nat)(h:Heap):Prop
 | mk (i:Nat) (s:bb) (ρ:LV) (γ:List an) (Z:a8) (hi:i+k=len) (e:iY ρ0 ρ) (g:G i s ρ γ Z) (S:bL w B O ((it,.kit d i len ep)::T) env s ρ γ Z h)
theorem ae.forD {t:IT SF}{Q:QQ SF}(F:FI)(E:bS env F)(j:Nat)(d:Addr)(P7:KV)(ks:List Str)(hd:Z d=some (.dct P7))
  (g:∀ O',jz w B O' (n+2) env F t.bdL t.nmL j (I7 w B O (n+2) env t Q) ks t.st ρ γ Z) (hks:autoParam (P7.map (·.1)=ks) tac4)
  (Py:autoParam (((t.isL,(t.tgL,look F.names t.nmL)),fun tk=>eO ρ tk 0 t.args)=((true,(.Name t.nmL t.posL,some .local)),fun tk=>some [.ref d])) tac0):ae w B O (n+2) env t ρ γ Z Q:=by
 subst hks;have hv:=pQ Py;refine oA (Pc (ff Py)) fun h1 h2=>?_;refine oA (Pc h2) fun ht hl=>?_;clear Py h2;refine .ofL h1 fun T h v S r=>?_;rw [ht];refine oE (vT r hv) fun tk e=>?_;cases e;refine S.here fun Zs ms R l H=>Ej H.st (H.st.z (l _ _ hd)) fun it ep h1 Yn Pz=>?_;refine Pz.inr (l _ _ hd) Yn fun O' inn out keep=>?_;have S0:bL w B O' ((it,.kit d 0 P7.length ep)::T) env t.st ρ γ Z h1:=⟨H.ln,H.ok,Zs,ms,R,l,inn.unmid,H.rm,H.re,H.co,H.fz⟩
 refine yl (N6 w B O' T env it d ep P7.length (fun i s ρ γ Z=>jz w B O' (n+2) env F t.bdL t.nmL j (I7 w B O (n+2) env t Q) ((P7.map (·.1)).drop i) s ρ γ Z) ρ) (fun k2 h2 hI=>?_) P7.length ⟨0,t.st,ρ,γ,Z,by lia,.refl _,g _,S0⟩ rfl;obtain ⟨i,s2,ρ2,γ2,Z2,hi,e2,g2,S2⟩:=hI;refine S2.elim fun Tz R1 R2 l3 PE R4 RG Rc SR=>?_;cases k2 with
 | zero=>refine GX PE.mid (keep PE) (List.getElem?_eq_none (by lia)) fun h3 Q0=>dq ?_;rw [List.drop_eq_nil_of_le (by rw [List.length_map];lia)] at g2;exact ⟨.next,s2,ρ2,γ2,Z2,e2,OU,⟨S2.len,S2.ok,Tz,R1,R2,l3,out Q0,R4,RG,Rc,SR⟩,g2⟩
 | succ k2=>
  obtain ⟨⟨y,v⟩,Rm⟩:∃ v,P7[i]? =some v:=⟨_,List.getElem?_eq_getElem (by lia)⟩
  have hdr:(P7.map (·.1)).drop i=y::(P7.map (·.1)).drop (i+1):=by
   have e1:i < (P7.map (·.1)).length:=by rw [List.length_map];lia
   rw [List.drop_eq_getElem_cons e1];congr 1;rw [List.getElem_map];have:=List.getElem_eq_iff (h:=by lia) |>.mpr Rm
   rw [this]
  rw [hdr] at g2;refine oA g2 fun hj g2=>?_;refine Ek PE.mid (keep PE) Rm fun u h3 hde3 Q0=>⟨(qB it d (i+1) (.inr ?_)),?_⟩
  ·exact fun U=>rfl
  ·have S3:bL w B O' ((it,.kit d (i+1) P7.length ep)::T) env s2 ρ2 γ2 Z2 h3:=⟨S2.len,S2.ok,Tz,R1,R2,l3,Q0.unmid,R4,RG,Rc,SR⟩
   refine oo E (a:=.str y) (s:=s2) hl hj S3 ⟨u,rfl⟩ fun U h4 S4=>?_;refine ((A6 E 40).ss g2.run S4).mono fun fl h5 o5=>?_;obtain ⟨f,s5,ρ5,γ5,Z5,e5,r5,S5,Tf,g5⟩:=o5;have Ua:∃ m,m < k2+1/\N6 w B _ T env it d ep P7.length (fun i s ρ γ Z=>jz w B O' (n+2) env F t.bdL t.nmL j (I7 w B O (n+2) env t Q) ((P7.map (·.1)).drop i) s ρ γ Z) ρ m h5:=bw k2 (Nat.lt_succ_self _) ⟨i+1,s5,ρ5,γ5,Z5,by lia,e2.trans e5,g5,S5⟩;rcases Tf with rfl | rfl<;>cases fl<;>first | exact (r5:False).elim | exact Ua
theorem ae.gm (γ':List an)(g:ae w B O n env t ρ γ' Z Q)(e:autoParam (γ=γ') tac0):ae w B O n env t ρ γ Z Q:=e▸g
theorem ae.round {t:IT SF}(g:jz w B O n env F body x j fin ks t.st ρ γ Z)(Py:autoParam ((t.isRet,t.retA)=(true,.next)) tac0):ae w B O n env t ρ γ Z (N5 w B O n env F body x j fin ks):=ae.retS (Pc Py).1 ⟨.inl (Pc Py).2,g⟩
theorem jz.one{s:bb}{k:Str}(g:ae w B O n env ((ex F 40).ss body {s with loc:=s.loc.set j (x,some (.str k))}) ρ γ Z (N5 w B O n env F body x j fin ks))(h:autoParam (A0 s.loc x=some j) tac0):jz w B O n env F body x j fin (k::ks) s ρ γ Z:=⟨h,g⟩
theorem jz.nil{s:bb}(g:fin s ρ γ Z):jz w B O n env F body x j fin [] s ρ γ Z:=g
theorem ae.mt0 {a : Addr}{c:an}{P:a8->Value->an->Prop}(i g:Nat)(cn:∀ tk,yF w m (call (.ref f) (vs tk)) a c P Z)(k:∀ v Z' c',Z.le Z'->P Z' v c'->Co w B O env n t ρ (γ.set g c') Z' Q v)(hm:autoParam (m<=n) tac9)
  (Py:autoParam (qo t ρ i=OG 0 g f vs) tac0) (ha:autoParam (ρ[i]? =some (.ref a)) tac0) (hc:autoParam (γ[g]? =some c) tac0):ae w B O n env t ρ γ Z Q:=by have q1:=Pc (Pc Py).1;have q2:=Pc q1.2;exact .mt1 (op:=.call) (vs:=fun tk=>.ref f::vs tk) i g cn (fun v Z' c' l p=>⟨by rw [q2.1];rfl,k v Z' c' l p⟩) hm (by unfold qg rg;rw [q1.1,q2.2,(Pc Py).2]) ha hc
theorem I8 (b:wH w B):∀ h':Heap,(∀ a o,B.get? a=some o->h'.get? a=some o)->h'.IsTuple 764 ⟨[]⟩:=fun h' hk=>vg _ (hk _ _ (b.k 764 GC OT)) rfl _ rfl
theorem ae.freshC (g:∀ (x av nd:Addr) Z',Z.le Z'->ac [.ref x,.ref av,.ref nd] Z' rL->Z' av=some (.dct [])->ae w B O n env (t.nx (.v t.st.nv) {t.st with led:=.own (t.st.nv+1) (.opq 0)::t.st.led,nv:=t.st.nv+2}) (ρ++[.ref x,.ref nd]) (.dct []::γ) Z' Q)(hm:autoParam (3<=n) tac9)
  (Py:autoParam (qa t ρ=ra .call (fun tk=>[.ref fM])) tac0):ae w B O n env t ρ γ Z Q:=
 ae.askT (vs:=fun tk=>[.ref fM]) (ff Py) (pQ Py) fun tk T h Zs ms R l H=>(AH (n:=0) H.st (I8 H.st.base) fun x av nd Z' h' l' hf ha Pz=>
  ⟨Z',Z',(nd,.dct [])::R,.own (t.st.nv+1) (.opq 0)::t.st.led,.v t.st.nv,[.ref x,.ref nd],[],.refl _,l',Pz,⟨.mkOpq (by rw [<- H.ln];simp) rfl,kt _ H.re⟩,cG H.ln,mu rfl,(fun U h=>nomatch h),by
   show ae w B O n env _ _ (.dct []::cont t.st.led R) Z' Q;rw [H.co];exact g x av nd Z' (l.trans l') hf ha⟩).le hm
end
section
theorem Ig:stored (stored [] cx a) bj b=[(cx,a),(bj,b)]:=by kernel_rfl!
theorem OL:ii [(cx,a),(bj,b)]:=⟨by show 2<=10;decide,fun x=>by
 rw [<- Ig,bZ,bZ]
 by_cases h1:x=bj
 ·rw [if_pos h1];simp [h1]
 ·rw [if_neg h1]
  by_cases h2:x=cx
  ·rw [if_pos h2];simp [h2]
  ·rw [if_neg h2];simp [h1,h2,valueAt]⟩
theorem zE {w:World}{Z:a8}{Γ:List (Str×cU)}(h:jy w DJ ps Γ e m f i Z cl)(hg:∀ p∈Γ,p.1∈ps.map (·.1)\/p.1=bj):∃ (fo pl S:Addr) (fl:List Str),eQ Z cl fo pl S ps.isEmpty/\Z pl=some (.lst (ps.map bN))/\Z fo=some (.lst [])/\SG w Γ (IV e) m f i fl Z S:=by
 obtain ⟨a,fo,pl,S,fs,fl,e0,hl,Sk,VM,hk,sg⟩:=h;cases e0;cases fs with
 | nil=>exact qB fo pl S (mW fl hl Sk VM sg)
 | cons q fs=>
  refine ub ((lG hk (x:=q.1)).mp (Pb (bw q (.head _) rfl))) fun q1 q2 q3=>?_;refine bM (Pa (sg.sb.sub _ q1)) fun p hp e=>?_;rcases hg p hp with h | h
  ·exact absurd (e▸h) q2
  ·exact absurd (e.symm.trans h) ((rX.2 _).mp q3).2
theorem DL {w:World}{Z:a8}{k0:Nat}{P:Prop}(h:jy w DJ [] [(bj,.fn k0 53)] e m f i Z cl)(k:∀ (fo pl S:Addr) (fl:List Str),eQ Z cl fo pl S true->Z pl=some (.lst [])->Z fo=some (.lst [])->SG w [(bj,.fn k0 53)] (IV e) m f i fl Z S->P):P:=oE (zE h (fZ (.inr rfl))) fun fo y=>fq y fun pl S fl h1 h2 y=>k fo pl S fl h1 h2 y.1 y.2
theorem DM {w:World}{Z:a8}{P:Prop}(h:AD w DJ [] kk g m f i Z cl)(k:∀ (K:Nat) (ps:List (Str×Tok)) (e:Ev->Int) (fo pl S:Addr) (fl:List Str),100<=K/\K < 300->ps.length=kk->(kk=1\/kk=2)->(∀ p∈ps,gO K 250 p.1)->(ps.map (·.1)).Nodup->g=(fun ρ a b=>e (rR ρ ps a b))->eQ Z cl fo pl S ps.isEmpty->Z pl=some (.lst (ps.map bN))->Z fo=some (.lst [])->SG w (D8 ps++[]) (IV e) m f i fl Z S->jy w DJ ps (D8 ps++[]) e m f i Z cl->P):P:=
 let ⟨K,ps,e,k1,k2,k3,k4,k5,k6,k7,hc⟩:=h
 oE (zE hc (fun p hp=>.inl (by rw [List.append_nil] at hp;exact Pb (bM (Pa hp) fun q h1 h2=>bw q h1 (h2▸rfl))))) fun fo y=>fq y fun pl S fl h1 h2 y=>k K ps e fo pl S fl k2 k3 k4 k5 k6 k7 h1 h2 y.1 y.2 hc
theorem AI{x:Value}(h:ρ[i]? =some x):af ρ (.v i) x:=h
theorem wt {w:World}{n:Nat}{kd a:Addr}{Z:a8}(h:mG w n kd Z (.ref a)):RT w n bQ [.ref a,.ref kd] (fun U r=>r=.bool true) Z:=by obtain ⟨b,e,r⟩:=h;cases e;exact r
theorem I9:(stored (stored [] cx a) bj b).length<=1000:=by rw [Ig];exact Pf rfl
theorem AJ:valueAt [(cx,a),(bj,b)] cx=some a:=by kernel_rfl!
theorem AL:valueAt [(cx,a),(bj,b)] bj=some b:=by kernel_rfl!
variable {w:World}{Z:a8}
variable {a b : Value} {ps : List (Str×Tok)} {e : Ev->Int} {m f i kk : Nat} {cl vn : Addr} {g : Ev->Int->Int->Int} {ρ : LV}
theorem Oo{v:Addr}{x:Str}(h:bK ρ Z i (.obj fB [(am,.str x)]))(hi:ρ[i]? =some (.ref v)):∃ t,ac [.ref v,.str x t] Z nr:=by obtain ⟨a,dx,fv,h1,h2,h3,h4⟩:=h;rw [hi] at h1;cases h1;obtain ⟨⟨x1,y1⟩,fv,rfl,e1,h4⟩:=ak.cons_r h4;obtain rfl:=ak.nil_r h4;refine E1 e1 fun ex t PL=>?_;clear e1;subst PL;cases ex;exact bw t ⟨v,dx,_,rfl,h2,h3,⟨rfl,rfl⟩,OU⟩ OU
theorem y8{ed em eg mn gn : Addr}{t:Tok}(ρ:Ev)(hv:ac [.ref vn,.str cx t] Z nr)(Ru:CX w [(bj,.fn kk 53)] e 250 12 455 384 463 Z mn)(Qx:FX w [] kk g 52 3 99 84 110 Z gn)(UZ:Z ed=some (.dct [(cx,.ref em),(bj,.ref eg)]))(Yo:Z em=some (.lst [.ref mn,.ref ed]))(Yp:Z eg=some (.lst [.ref gn,.ref ed])):
  RT w 256 aw [.ref vn,.ref ed] (iH (e (ρ.setF bj (g ρ)))) Z:=by
 have h1:uP w 3 (ir w .src kk 3 53 (g ρ)) Z (.ref eg) .src:=bR eg gn ed rfl Yp (Qx.val 3 ρ Z _ ed (.refl _) UZ (fun U h=>nomatch h) (by show 2+52<=890;decide))
 have h2:kn w .src [(bj,.fn kk 53)] 3 (ρ.setF bj (g ρ)) Z [(cx,.ref em),(bj,.ref eg)]:=fZ (bw (.ref eg) AL (by show uP w 3 (ir w .src kk 3 53 ((ρ.setF bj (g ρ)).f bj)) Z (.ref eg) .src;rw [Ev.setF_f];exact h1))
 have h3:=Ru.val 3 _ Z _ ed (.refl _) UZ h2 OV (by show 2+250<=900;decide);exact rn hv UZ AJ (bR em mn ed rfl Yo h3) fun U U U U p=>p
def ij (k1 k2 gd:Addr):KV:=stored [(cx,.ref k1),(bj,.ref k2)] aM (.ref gd)
theorem ya {K : Nat}{e2 : Ev->Int}{at' wd gd k1 k2 c1 c2 Ws Wt S1 Wu QW S2 : Addr}{Ro QH:List Str}(ρ:Ev)(hv:ac [.ref vn,.ref at'] Z lE)(ha:CA Z at' cx)
  (PY:eQ Z c1 Ws Wt S1 true) (UC:Z Wt=some (.lst [])) (Sl:SG w [(bj,.fn kk 53)] (IV e) 250 455 384 Ro Z S1) (hK:100<=K/\K < 300) (SX:ps.length=kk) (QY:kk=1\/kk=2) (U9:∀ p∈ps,gO K 250 p.1) (RJ:(ps.map (·.1)).Nodup) (hg:g=fun ρ a b=>e2 (rR ρ ps a b))
  (Qh:eQ Z c2 Wu QW S2 ps.isEmpty) (Ts:Z QW=some (.lst (ps.map bN))) (Sb:SG w (D8 ps++[]) (IV e2) 52 99 84 QH Z S2) (UD:Z wd=some (.dct (ij k1 k2 gd))) (Wv:Z gd=some (.dct [(cx,.ref k1),(bj,.ref k2)])) (Yq:Z k1=some (.lst [.ref c1,.ref wd])) (Ww:Z k2=some (.lst [.ref c2,.ref wd])):
  RT w 260 aC [.ref vn,.ref wd] (iH (e (ρ.setF bj (g ρ)))) Z:=by
 have Wf:valueAt (ij k1 k2 gd) bj=some (.ref k2):=(bH OV).trans AL;have R4:valueAt (ij k1 k2 gd) cx=some (.ref k1):=(bH OV).trans AJ;have hz:(ij k1 k2 gd).length<=3:=aG;have he:lH gd [(cx,.ref k1),(bj,.ref k2)] (ij k1 k2 gd) Z:=⟨bD,Wv,by show 2<=10;decide,Wf.trans OT⟩
 have h1:uP w 3 (ir w .stg kk 3 53 (g ρ)) Z (.ref k2) .stg:=by
  rw [hg];rcases QY with rfl | rfl
  ·refine oE (uo SX.symm) fun QI PQ=>?_;obtain ⟨p,u⟩:=QI;subst PQ;have hp:=U9 _ (.head _);exact zo (Γ:=[]) (c:=3) (fl:=QH) Qh Ts Sb.worth nF hp.gl hp.Mg Ww UD he nF ll lw OV
  ·refine kC (A1 SX.symm) fun TG TC Qt=>?_;obtain ⟨p,u⟩:=TG;obtain ⟨q,u2⟩:=TC;subst Qt;have hp:=U9 _ (.head _);have hq:=U9 _ (.tail _ (.head _));exact zp (Γ:=[]) (c:=3) (fl:=QH) Qh Ts (fun c ρ Z2 P7 d gd gr l h1 h2 h3=>Sb.worth c ρ Z2 P7 d gd gr l h1 h2 (fun a ha=>h3 a (by simp only [D8,List.map_cons,List.map_nil,List.cons_append,List.nil_append,List.mem_cons] at ha ⊢;rcases ha with h | h | h<;>simp [h]))) nF hp.gl hp.Mg nF hq.gl hq.Mg (by simpa using RJ) Ww UD he nF ll lw OV
 have h2:bc w .stg [(bj,.fn kk 53)] Ro 3 (ρ.setF bj (g ρ)) Z (ij k1 k2 gd):=fun p hp U=>by
  rcases List.mem_singleton.mp hp with rfl
  refine bw (.ref k2) Wf ?_;show uP w 3 (ir w .stg kk 3 53 ((ρ.setF bj (g ρ)).f bj)) Z (.ref k2) .stg;rw [Ev.setF_f];exact h1
 have h3:=zn (c:=3) PY UC Sl.worth Yq UD he h2 ll OV lw;exact rC hv (.inr (bw cx ha R4)) UD (h3.forced OV) fun U U U U p=>p
end
section
variable {w:World}{n:Nat}{Z Z':a8}{B:Heap}{O:aP}{env:Env}{ρ:LV}{γ:List an}{α:Type}{t:IT α}{Q:QQ α}
variable {xs : List Int} {h : Heap} {vs : LV}
theorem Oq {ρ:LV}{i:Nat}{v:Addr}{a x:Str}(h:bK ρ Z i (.tup [.str a,.str x]))(hi:ρ[i]? =some (.ref v)):∃ t,ac [.ref v,.str x t] Z [(0,.tup [.str a,.v 1])]:=by obtain ⟨b,vs,h1,h2,h3⟩:=h;rw [hi] at h1;cases h1;obtain ⟨y,vs,rfl,h4,h3⟩:=ak.cons_r h3;obtain ⟨z,Tp,rfl,h5,h6⟩:=ak.cons_r h3;obtain rfl:=ak.nil_r h6;obtain ⟨t,rfl⟩:=h5;exact bw t ⟨v,_,rfl,h2,h4,rfl,OU⟩ OU
theorem yb {P:Params}:bU P B1 qk 1:=.mk1
theorem Co.mkN {B:Heap}{O:aP}{env:Env}{ρ:LV}{γ:List an}{α:Type}{t:IT α}{Q:QQ α}{v:Value}{n:Nat}(sv:SV)(k:Nat)(vs:LV)(fz:List (Nat×aE))(hr:ρ.length=t.st.nv->af (ρ++vs) sv v)(ho:∀ x∈vs,bA x=true)(hf:ρ.length=t.st.nv->∀ p∈fz,bK (ρ++vs) Z p.1 p.2)(g:ae w B O n env (t.nx sv (t.st.ext k fz)) (ρ++vs) γ Z Q)(hk:autoParam (vs.length=k) tac4):Co w B O env n t ρ γ Z Q v:=.mk sv vs fz hr ho hf (hk▸g)
theorem Ia {sl:Addr}{xs:LV}(hl:Z sl=some (.lst xs))(hx:∀ x∈xs,∃ v t,x=.int v t)(hz:xs.length<=100):RT w 500 qk [.ref sl] (fun Z r=>r=.bool true) Z:=by
 refine bu (n:=497) (N:=1) [.ref sl] (PD:=[.v 0]) (fz:=[]) false yb OU (fun B O L Z1 l1=>?_) ⟨rfl,OU⟩;refine .nwX (P:=gP) (vs:=fun tk=>[.ref sl,.int 0 (tk 2)]) (fun tk=>FH (l1 _ _ hl) hx hz) fun po c Z2 l2 hs=>?_;refine .mt0 (m:=36) (f:=eN) (P:=fun Z r c'=>DI w Z r) (vs:=fun U=>[.ref po]) 1 0 (fun tk=>FG hs) fun v Z3 c' l3 p=>?_;obtain ⟨pr,bl,cd,QB,mn,PT,gn,kk,g,e,rfl,UB,Qx,Ru⟩:=p;refine .fx (.v 2) 7 [.ref pr,.ref bl,.ref cd,.ref QB,.ref mn,.ref PT,.ref gn] [2,3,4,5,6,7,8] [(2,.obj e7 [(aR,.v 3),(gX,.v 4),(gE,.str cx)]),(3,.lst [.v 5,.v 7]),(5,.tup [.str cx,.v 6]),(7,.tup [.str bj,.v 8]),(4,.dct [])] (ρ':=[.ref pr,.ref bl,.ref cd,.ref QB,.ref mn,.ref PT,.ref gn]) (fz:=zD) UB ?_;refine .al2 fun ed em=>.opn 9 1 0 true (.setD 9 0 ed cx (fun tk=>tk 1) (.ref em) rfl OV (.al1 fun eg=>.setD 9 0 ed bj (fun tk=>tk 1) (.ref eg) rfl (Pg aG OV) ?_));refine .freshC fun fr av nd Z4 l4 UU Yj=>?_;refine .mt0 (m:=480) (f:=iP) (P:=fun Z r c=>I3 w kk g e Z r) (vs:=fun U=>[.ref pr,.ref fr]) 13 0 (fun tk=>I4 (UB.ext (.refl _) l4) (Qx.le l4) (Ru.le l4) UU Yj) fun v Z5 c5 l5 p=>?_;obtain ⟨sp,bd,cs,c1,c2,rfl,Tf,Qw,Rh,Rc⟩:=p;refine .fx (.v 14) 3 [.ref sp,.ref bd,.ref cs] [14,15,16] [(14,.obj dU [(aR,.v 15),(gX,.v 16),(gE,.str cx)])] (ρ':=[.ref sp,.ref bd,.ref cs]) (fz:=[(0,.obj dU [(aR,.v 1),(gX,.v 2),(gE,.str cx)])]) Tf ?_;rw [Ig] at Qw;refine .al1 fun kd=>.opn 17 0 0 true (.forD (fi B1 false) ((yb (P:=w.params)).env false L) 3 bd [(cx,.ref c1),(bj,.ref c2)] [cx,bj] Qw fun O'=>.one ?_);refine .itD (x:=cx) (tx:=fun tk=>tk 1) (.z Qw) AJ (.one rfl (.al1 fun k1=>.setD 17 0 kd cx (fun tk=>tk 1) (.ref k1) rfl OV (.round (.one ?_))));refine .itD (x:=bj) (tx:=fun tk=>tk 1) (.z Qw) AL (.one rfl (.al1 fun k2=>.setD 17 0 kd bj (fun tk=>tk 1) (.ref k2) rfl (Pg aG OV) (.round (.nil ?_))));refine .dictC (.o (c:=.dct (stored (stored [] cx (.ref k1)) bj (.ref k2))) kd 17 0) I9 fun wd=>.dictC (.o (c:=.dct (stored (stored [] cx (.ref k1)) bj (.ref k2))) kd 17 1) I9 fun gd=>.setD 22 1 wd aM (fun tk=>tk 1) (.ref gd) rfl I9 ?_;refine .frz 23 0 (a:=gd) (c:=.dct (stored (stored [] cx (.ref k1)) bj (.ref k2))) fun Z6 l6 Wv=>.frz 22 0 (a:=wd) (c:=.dct (stored (stored (stored [] cx (.ref k1)) bj (.ref k2)) aM (.ref gd))) fun Z7 l7 UD=>.frz 17 0 (a:=kd) (c:=.dct (stored (stored [] cx (.ref k1)) bj (.ref k2))) fun Z8 l8 Zm=>.frz 9 1 (a:=ed) (c:=.dct (stored (stored [] cx (.ref em)) bj (.ref eg))) fun Z9 l9 UZ=>?_;refine .opnV 21 0 0 20 17 (.ref c2) (.ref kd) (.opnV 19 1 1 18 17 (.ref c1) (.ref kd) (.opnV 11 3 3 8 9 (.ref gn) (.ref ed) (.opnV 10 4 4 6 9 (.ref mn) (.ref ed) ?_)));refine .frz 10 4 (a:=em) (c:=.lst [.ref mn,.ref ed]) fun Uw Ri Yo=>.frz 11 3 (a:=eg) (c:=.lst [.ref gn,.ref ed]) fun Wr Rp Yp=>.gm [.lst [.ref c2,.ref kd],.lst [.ref c1,.ref kd],c5,c'] ?_;rw [Ig] at Wv UD Zm UZ;have Rb:=l6.trans (l7.trans (l8.trans (l9.trans (Ri.trans Rp))));have Tt:=(l9.trans (Ri.trans Rp)) _ _ Zm;refine DL Rh fun Ws Wt S1 Ro PY UC Yr Sl=>DM Rc fun K ps e2 Wu QW S2 QH hK SX QY U9 RJ hg Qh Ts Ys Sb Yt=>?_;refine .forD (fi B1 false) ((yb (P:=w.params)).env false L) 3 kd [(cx,.ref k1),(bj,.ref k2)] [cx,bj] Tt fun O'=>.one ?_
 refine .itD (x:=cx) (tx:=fun tk=>tk 1) (.z (Rb _ _ Qw)) AJ (.mkN (.v 24) 5 [.ref c1,.ref Ws,.ref Wt,.ref S1,.bool true] [(24,.obj bh [(ck,.v 25),(aO,.v 26),(aB,.v 27),(aL,.v 28)])] (fun U=>AI OT) (mu rfl) (fun U=>fZ ((PY.le Rb).fact OT OT OT OT OT)) ?_);refine .al1 fun nn=>.opB (.cmp .NotEq) (fun U=>[.ref Ws,.ref nn]) false (fun tk T h Zs ms R l H Q q=>jb (H.st.z (l _ _ (Rb _ _ Yr))) (fk.nil (Z:=Wr) (a:=nn) 29 OT OT T h Zs ms R l H) (q _ _ H.st rfl)) ?_;refine .itD (x:=cx) (tx:=fun tk=>tk 1) (.z (Rb _ _ Qw)) AJ (.k (.v 24) (AI OT) ?_);refine .rt (m:=390) (vs:=fun U=>[.ref c1,.ref kd]) (fun U=>wt (oF rX OV Rh Wr kd _ Rb Tt OL)) fun r Zn T7 p=>.k (.k (.bool true)) p ?_;refine .itD (x:=cx) (tx:=fun tk=>tk 1) (.z (T7 _ _ Tt)) AJ (.k (.v 19) (AI OT) ?_);refine .setL 19 1 k1 1 (fun tk=>tk 1) (.ref wd) rfl OV OV (by show (1:Int) < 2;decide) (.round (.one ?_));have W7:=T7 _ _ Tt;have SN:=Rb.trans T7;refine .itD (x:=bj) (tx:=fun tk=>tk 1) (.z (SN _ _ Qw)) AL (.mkN (.v 30) 5 [.ref c2,.ref Wu,.ref QW,.ref S2,.bool ps.isEmpty] [(30,.obj bh [(ck,.v 31),(aO,.v 32),(aB,.v 33),(aL,.v 34)])] (fun U=>AI OT) (mu rfl) (fun U=>fZ ((Qh.le SN).fact OT OT OT OT OT)) ?_);refine .al1 fun Zo=>.opB (.cmp .NotEq) (fun U=>[.ref Wu,.ref Zo]) false (fun tk T h Zs ms R l H Q q=>jb (H.st.z (l _ _ (SN _ _ Ys))) (fk.nil (Z:=Zn) (a:=Zo) 35 OT OT T h Zs ms R l H) (q _ _ H.st rfl)) ?_;refine .itD (x:=bj) (tx:=fun tk=>tk 1) (.z (SN _ _ Qw)) AL (.k (.v 30) (AI OT) ?_);refine .rt (m:=90) (vs:=fun U=>[.ref c2,.ref kd]) (fun U=>wt (oF rX OV Yt Zn kd _ SN W7 OL)) fun r Z13 W6 p=>.k (.k (.bool true)) p ?_;refine .itD (x:=bj) (tx:=fun tk=>tk 1) (.z (W6 _ _ W7)) AL (.k (.v 21) (AI OT) ?_);refine .setL 21 0 k2 1 (fun tk=>tk 1) (.ref wd) rfl OV OV (by show (1:Int) < 2;decide) (.round (.nil (.gm [.lst [.ref c2,.ref wd],.lst [.ref c1,.ref wd],c5,c'] ?_)));refine .al1 fun vn=>.frz 21 0 (a:=k2) (c:=.lst [.ref c2,.ref wd]) fun Z14 l14 Ww=>.frz 19 0 (a:=k1) (c:=.lst [.ref c1,.ref wd]) fun Z15 UW Yq=>.see (i:=36) (c:=.obj fB [(am,.str cx)]) fun Z16 Ut hvf=>?_;refine Exists.elim (Oo hvf (v:=vn) OT) fun tv hv=>?_;have Sd:=(T7.trans (W6.trans (l14.trans (UW.trans Ut))))
 refine .rtI (m:=256) (vs:=fun U=>[.ref vn,.ref ed]) (fun U=>y8 (em:=em) (eg:=eg) ⟨fun U=>0,fun U U U=>0⟩ hv (Ru.le (l4.trans (l5.trans (Rb.trans Sd)))) (Qx.le (l4.trans (l5.trans (Rb.trans Sd)))) ((Ri.trans (Rp.trans Sd)) _ _ UZ) ((Rp.trans Sd) _ _ Yo) (Sd _ _ Yp)) fun u Z17 Uu=>?_;refine .al2 fun at' sa=>?_;refine .facts [39,38] [(0,.obj hW [(fm,.v 1)]),(1,.tup [.str am,.str cx])] (ρ':=[.ref sa,.ref at']) fun Z18 Yu Qm=>Exists.elim (Oq Qm.2.1 (v:=at') OT) fun ta hta=>?_;have SO:=Sd.trans (Uu.trans Yu);have Se:=Rb.trans SO;refine .rtI (m:=260) (vs:=fun U=>[.ref sa,.ref wd]) (fun U=>ya (k1:=k1) (k2:=k2) (gd:=gd) (e:=e) ⟨fun U=>0,fun U U U=>0⟩ ⟨Qm.1,OU⟩ ⟨ta,hta⟩ (PY.le Se) (Se _ _ UC) (Sl.le Se) hK SX QY U9 RJ hg (Qh.le Se) (Se _ _ Ts) (Sb.le Se) ((l8.trans (l9.trans (Ri.trans (Rp.trans SO)))) _ _ UD) ((l7.trans (l8.trans (l9.trans (Ri.trans (Rp.trans SO))))) _ _ Wv) ((Ut.trans (Uu.trans Yu)) _ _ Yq) ((UW.trans (Ut.trans (Uu.trans Yu))) _ _ Ww)) fun u2 Z19 Zh=>?_;refine .opb (.cmp .Eq) (fun U=>[.int (e (Ev.setF ⟨fun U=>0,fun U U U=>0⟩ bj (g ⟨fun U=>0,fun U U U=>0⟩))) u,.int (e (Ev.setF ⟨fun U=>0,fun U U U=>0⟩ bj (g ⟨fun U=>0,fun U U U=>0⟩))) u2]) true (fun tk h Q q=>kD (q _ (by rw [beq_self_eq_true]))) ?_;exact .finA (.ret (.k (.bool true))) fun U U U r=>r
theorem N7 (P:Params):(KF P).map (fun p=>((TF P).get p.1,p.2.isFreed,Nat.ble (p.1+1) 929))=(KF P).map (fun p=>(some p.2,false,true)):=by kernel_rfl!
theorem Gs {w:World}(Y:HK.says w h):(KF w.params).In h:=fun a o e=>by
 have hm:(a,o)∈KF w.params:=by
  revert e
  generalize KF w.params=K
  induction K with
  | nil=>intro e;exact nS e
  | cons p K ih=>
   intro e;obtain ⟨b,u⟩:=p;rw [List.lookup_cons] at e
   by_cases hb:a=b
   ·subst hb;simp at e;subst e;exact .head _
   ·have:(a==b)=false:=by simpa using hb
    rw [this] at e;exact .tail _ (ih e)
 have:=List.map_inj_left.mp (N7 w.params) _ hm;have h1:=Pc this;have h2:=Pc h1.2;exact Y a o h1.1 h2.1 (Pf h2.2)
theorem law_fa {w:World}{mg:Str->Option Value}{fa:Addr}(Y:HK.says w h)(g:h.Ns mainGlobals mg)(hm:mg (Str.ofString "law")=some (.ref fa)):fa=qk:=by
 have:=mg_of (K:=KF w.params) (n:=Str.ofString "law") (v:=.ref qk) (Gs Y) g OT;rw [hm] at this;cases this
 rfl
theorem AM(h:IntsAre vs xs):∀ x∈vs,∃ v t,x=.int v t:=by
 induction h with
 | nil=>exact fun U h=>nomatch h
 | cons _ _ _ ih=>exact fun x hx=>(OY hx).elim (fun e=>e▸wu _ _ rfl) (ih x)
theorem Ib (P:Params):(match (TF P).get sysModules with | some o=> !o.isFreed | none=>false)=true:=by kernel_rfl!
theorem N8 {w:World}(Y:HK.says w h):∃ o,h.get? sysModules=some o:=by
 have:=Ib w.params;cases e:(TF w.params).get sysModules with
 | none=>rw [e] at this;exact nB this
 | some o=>rw [e] at this;exact ⟨o,Y _ o e (by simpa using this) OV⟩
theorem law_run {w:World}{s₁:Shared}{mb:Str->Option Value}{l:Addr}{Q:Value->Shared->Prop}{E:Value->Shared->Prop}(Y:HK.says w s₁.heap)(hnl:s₁.heap.NoLimit)(hb:s₁.heap.Ns builtinsNs mb)(hbb:∀ x:Str,x≠"__name__" ->mb x=bootBuiltins x)(hl:s₁.heap.IsList l vs.toArray)(hI:IntsAre vs xs)(hz:xs.length<=63)(q:∀ s':Shared,OldK s₁.heap s'.heap->s'.os=s₁.os->s'.gens=s₁.gens->Q (.bool true) s'):wpAny (model PW w) callerA (call (.ref qk) [.ref l]) Q E s₁:=by
 obtain ⟨h,g,d,tk,os⟩:=s₁;have base:wH w h:=⟨Gs Y,hnl,(bw mb hb hbb),N8 Y⟩
 have S:St w h ⟨fun U=>False,h,fun a=>if a=l then some (.lst vs) else none⟩ (fun a=>if a=l then some (.lst vs) else none) [] h:=⟨base,fun U U e=>e,(fun a c e=>by
  by_cases ha:a=l
  ·subst ha;rw [if_pos rfl] at e;cases e;exact hl
  ·rw [if_neg ha] at e;exact nS e),(fun U hp=>nomatch hp),List.Pairwise.nil,⟨.refl _,fun U U U U=>rfl,fun U U e U=>e⟩⟩
 have hlen:vs.length=xs.length:=IntsAre.length hI;refine (Ia (w:=w) (if_pos rfl) (AM hI) (bo hz (Nat.le_of_eq hlen)) h _ _ [] h (fun v h'=>v=.bool true/\OldK h h') (.refl _) S fun v Z' h' U p S'=>⟨p,.of_keep fun b o e=>S'.hist.keep b o e id⟩).to (cF OV OV rfl) fun v h' PS p=>?_;obtain ⟨rfl,k⟩:=p;exact q _ k rfl rfl
end
end M.Internal
end
theorem PySem.Challenge.cw_np0242_01_holds : PySem.Challenge.rw_np0242_01.Holds := by
 refine holds_law M.Internal.wsaid fun said=>?_;refine holds_open (q:=M.Internal.qv PySem.Challenge.pw_np0242_01) (loose:=M.Internal.looseN) (Xt:=fun s=>xlAt (M.Internal.qv PySem.Challenge.pw_np0242_01) [] s && recOk (RowW.records PySem.Challenge.rw_np0242_01.row.toRowW) s) (XP:=XL (M.Internal.qv PySem.Challenge.pw_np0242_01) []) (Yf:=Hook.obs M.Internal.HK) (Ya:=Hook.val M.Internal.HK) (YP:=Hook.says M.Internal.HK) (N:=20000) M.Internal.leftP (Hook.of M.Internal.HK) (Hook.keeps M.Internal.HK) (fun s e=>xl_of s (Bool.and_eq_true_iff.mp e).1) XL.keeps (by rfl) (by rfl) (by rfl) (fun s e=>recFacts_of (Bool.and_eq_true_iff.mp e).2) (by rfl) (by assumption) M.Internal.wopen M.Internal.wbare ?hw ?hc
 case hw=>w_witness2
 case hc=>
  intro w s₀ s₁ mg mb G Y fa o pm cd doc dV kV ho hd TQ hD Zp hg args vals as Yv Yw hrd hwl hlo;have Yg:=M.Internal.law_fa Y G.T.g Zp;subst Yg;clear ho hd TQ hD Zp
  wrow_args Yv Yw hrd hwl hlo
  refine M.Internal.law_run Y G.T.nolimit G.T.b G.T.builtins (by assumption) (by assumption) (by omega) fun s' k ho hgs=>?_;refine ⟨.inl ⟨.bool true,.bool true,[],rfl,raisesW_false ?_,.bool true,?_,?_⟩,k,ho,.of_eq (hgs.trans hg)⟩
  ·wrow_none_raised
  ·wrow_post
  ·exact fun U=>⟨List.nodup_nil,fun U h=>nomatch h⟩
