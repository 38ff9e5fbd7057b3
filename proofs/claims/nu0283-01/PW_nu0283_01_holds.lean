import PyProof.Rows.All
import KE.KTryMore
import Wide.FinOn
import OpenK.AllK
import Wide.All
import Lean
import PySem.Challenge.RW_nu0283_01
set_option bootstrap.genMatcherCode false
open PySem PySem.W PySem.Calls PyProof.Rows
set_option Elab.async false
set_option linter.all false
set_option maxRecDepth 1000000
set_option maxHeartbeats 0
set_option tactic.hygienic false
set_option genSizeOf false
set_option genInjectivity false
set_option genCtorIdx false
namespace Mine
noncomputable section
section
set_option backward.match.sparseCases false
noncomputable section
noncomputable abbrev pw:Program:=PySem.Challenge.pw_nu0283_01
noncomputable def vS(s:String)(t:Nat):Value:=.str (Str.ofString s) t
noncomputable def vI(i:Int)(t:Nat):Value:=.int i t
noncomputable def vR(a:Nat):Value:=.ref a
noncomputable def vT(n:String):Value:=.type n
noncomputable def vB(n:String):Value:=.builtin n
noncomputable def oT(vs:List Value):Obj:={cls:=.type "tuple",data:=.seq vs.toArray}
noncomputable def oF(c:String)(vs:List Value):Obj:={cls:=.type c,data:=.fields vs.toArray}
noncomputable def oN(vs:List Value):Obj:={cls:=.none,data:=.fields vs.toArray}
noncomputable def oD(es:List DictEntry)(n:Nat):Obj:={cls:=.type "dict",data:=.dict es.toArray n}
noncomputable def en(P:Params)(s:String)(t:Nat)(v:Value):DictEntry:=⟨PyData.keyHash P (Str.ofString s),.str (Str.ofString s) t,v⟩
noncomputable def tD(k:Nat):Stmt:=pw.main.body.getD k (.Pass ⟨0,0,0,0⟩)
noncomputable def mD(k j:Nat):Stmt:=match tD k with
 |.ClassDef _ _ _ b _ _ _ _ _ _ _=>b.getD j (.Pass ⟨0,0,0,0⟩)
 |s=>s
noncomputable def mJ:Stmt->Arguments
 |.FunctionDef _ a _ _ _ _ _ _ _ _=>a
 |_=>⟨[],[],none,[],[],none,[]⟩
noncomputable def fO:Stmt->List Stmt
 |.FunctionDef _ _ b _ _ _ _ _ _ _=>b
 |_=>[]
noncomputable def bP:Stmt->Scope
 |.FunctionDef _ _ _ _ _ _ s _ _ _=>s
 |_=>default
noncomputable def fn(st:Stmt)(name qual:Str)(globals:Nat)(d kd doc pm code ct:Value)(bl:Nat):FuncData:=
 {name:=name,qualname:=qual,params:=mJ st,body:=.stmts (fO st),scope:=bP st,globals:=globals,closure:=[],defaults:=d,kwdefaults:=kd,doc:=doc,pyModule:=pm,annotations:=none,code:=code,closureTuple:=ct,builtins:=bl}
noncomputable abbrev nd:=BT.node
noncomputable abbrev nl:=BT.nil
noncomputable def fr(l:List (Option Value)):Obj:=⟨(vT "frame"),none,.plain,l.toArray⟩
noncomputable def nv:Array (Option Value):=([]:List (Option Value)).toArray
def f0(s:Stmt)(a b:String):Obj:=⟨.none,none,.func (fn s (Str.ofString a) (Str.ofString b) 0 .none .none .none .none .none .none 0),nv⟩
def fu(s:Stmt)(a b:String)(g:Nat)(d doc pm c ct:Value):Obj:=⟨vT "function",none,.func (fn s (Str.ofString a) (Str.ofString b) g d .none doc pm c ct 0),nv⟩
noncomputable def cq(a:String)(t:Nat)(b:String)(l c d e f r:Nat)(g:Bool)(y:Nat)(z1 z2 z3:Value)(p:Nat):Obj:=oF "code" [vS a t,vS b (t+1),vS "/claim/cut.py" (t+2),vI l 0,vI c 0,vI d 0,vI e 0,vI f 0,vR r,.bool g,vI 181 0,vR y,.none,z1,z2,z3,vI p 0,vI l 0,vS "/claim/cut.py" (p+1)]
noncomputable abbrev lf(x:Obj):=nd x nl nl
def SE:=oT []
def o12:=oN []
def SG:=cq "<module>" 182 "<module>" 1 0 0 0 0 11 false 12 .none .none .none 185
def TT:=fr [some (vR 13),some (vR 3),some (vR 3),none,some (vS "__main__" 164),none,some (vR 0)]
def yO(P:Params):Heap:=⟨⟨[boot_o_0 P,boot_o_1 P,boot_o_2 P,boot_o_3 P,boot_o_4 P,boot_o_5 P,boot_o_6 P,boot_o_7 P,boot_o_8 P,boot_o_9 P,boot_o_10 P,SE,o12,SG,TT]⟩,{}⟩
def tr0(P:Params):BT:=(nd (boot_o_0 P) (nd (boot_o_1 P) (nd (boot_o_3 P) (lf (boot_o_7 P)) (lf SE)) (nd (boot_o_5 P) (lf (boot_o_9 P)) (lf SG))) (nd (boot_o_2 P) (nd (boot_o_4 P) (lf (boot_o_8 P)) (lf o12)) (nd (boot_o_6 P) (lf (boot_o_10 P)) (lf TT))))
def st0(w:World)(os:OsState):SharedT:=⟨tr0 w.params,15,{},#[],{},187,os⟩
noncomputable def TU:Pos:=⟨0,0,0,0⟩
def o3(P:Params):=oD [en P "__name__" 165 (vS "gemrows.things" 274),en P "__doc__" 166 .none,en P "__package__" 167 .none,en P "__loader__" 168 (vB "__main__.__loader__#opaque"),en P "__spec__" 169 .none,en P "__annotations__" 170 (vR 6),en P "__builtins__" 171 (vR 4),en P "__file__" 173 (vS "/claim/cut.py" 172),en P "__cached__" 174 .none,en P "_wall" 193 (vR 21),en P "GemError" 223 (vR 39),en P "StepsOver" 248 (vR 59),en P "Raised" 273 (vR 78)] 13
def SH:=oN [vI 1 0,vI 0 0,vR 20,vI 5 0,vI 0 0,vR 27,vI 10 0,vI 0 0,vR 48,vI 15 0,vI 0 0,vR 67]
def o15:=oT []
def o16:=oN []
def o17:=oT [vS "k" 190]
def o18:=oT []
def o19:=f0 (tD 0) "_wall" "_wall"
def o20:=cq "_wall" 187 "_wall" 1 1 0 0 3 15 true 16 (vR 17) (vR 18) (vR 19) 191
def TV:=fu (tD 0) "_wall" "_wall" 3 .none .none (vS "__main__" 164) (vR 20) .none
def o22:=oT [vT "ValueError"]
def o23:=oF "builtin_function_or_method" [vB "type.__prepare__",vT "type"]
def o24(P:Params):=oD [en P "__module__" 203 (vS "gemrows.errors" 194),en P "__qualname__" 205 (vS "GemError" 204),en P "__firstlineno__" 207 (vI 5 206),en P "__init__" 216 (vR 36),en P "__static_attributes__" 218 (vR 37)] 5
def o25:=oT []
def o26:=oN [vI 7 0,vI 4 0,vR 35]
def o27:=cq "GemError" 198 "GemError" 5 0 0 0 0 25 false 26 .none .none .none 201
def o28:=fr [some (vR 27),some (vR 3),some (vR 24),none,some (vS "gemrows.errors" 194),none,some (vR 0)]
def o29:=oT [vS "" 208]
def o30:=oT []
def o31:=oN []
def o32:=oT [vS "self" 212,vS "reason" 213]
def o33:=oT []
def o34:=f0 (mD 2 0) "__init__" "GemError.__init__"
def o35:=cq "__init__" 209 "GemError.__init__" 7 2 0 0 3 30 true 31 (vR 32) (vR 33) (vR 34) 214
def TW:=fu (mD 2 0) "__init__" "GemError.__init__" 3 (vR 29) .none (vS "gemrows.errors" 194) (vR 35) .none
def o37:=oT [vS "reason" 217]
def o38(P:Params):=oD [en P "__module__" 203 (vS "gemrows.errors" 194),en P "__firstlineno__" 207 (vI 5 206),en P "__init__" 216 (vR 36),en P "__static_attributes__" 218 (vR 37),en P "__weakref__" 220 (vR 40),en P "__doc__" 221 .none] 3
def o39:Obj:=⟨(vT "type"),none,.cls {name:=(Str.ofString "GemError"),bases:=[vT "ValueError"],mro:=[vR 39,vT "ValueError",vT "Exception",vT "BaseException",vT "object"],ns:=38,qualname:=(Str.ofString "GemError"),hasDict:=true,slotNames:=[],subclasses:=[vR 59,vR 78],abstract:=false,collection:=none,hasDel:=false},([some (vR 22),none,some (vS "GemError" 196),some (vS "GemError" 204),some (vB "ValueError.__new__"),some (.bool true)]:List (Option Value)).toArray⟩
def o40:=oF "getset_descriptor" [vS "__weakref__" 219,vR 39,vB "ExceptionGroup.__weakref__",.none]
def o41:=oF "super" [vR 39,vR 39,vR 39]
def o42:=oF "builtin_function_or_method" [vB "object.__init_subclass__",vR 39]
def o43:=oT [vR 39]
def o44:=oF "builtin_function_or_method" [vB "type.__prepare__",vT "type"]
def o45(P:Params):=oD [en P "__module__" 231 (vS "gemrows.errors" 194),en P "__qualname__" 233 (vS "StepsOver" 232),en P "__firstlineno__" 235 (vI 10 234),en P "__init__" 243 (vR 56),en P "__static_attributes__" 245 (vR 57)] 5
def o46:=oT []
def o47:=oN [vI 12 0,vI 4 0,vR 55]
def o48:=cq "StepsOver" 226 "StepsOver" 10 0 0 0 0 46 false 47 .none .none .none 229
def o49:=fr [some (vR 48),some (vR 3),some (vR 45),none,some (vS "gemrows.errors" 194),none,some (vR 0)]
def o50:=oT []
def o51:=oN []
def o52:=oT [vS "self" 239,vS "most" 240]
def o53:=oT []
def o54:=f0 (mD 3 0) "__init__" "StepsOver.__init__"
def o55:=cq "__init__" 236 "StepsOver.__init__" 12 2 0 0 3 50 true 51 (vR 52) (vR 53) (vR 54) 241
def TX:=fu (mD 3 0) "__init__" "StepsOver.__init__" 3 .none .none (vS "gemrows.errors" 194) (vR 55) .none
def o57:=oT [vS "most" 244]
def o58(P:Params):=oD [en P "__module__" 231 (vS "gemrows.errors" 194),en P "__firstlineno__" 235 (vI 10 234),en P "__init__" 243 (vR 56),en P "__static_attributes__" 245 (vR 57),en P "__doc__" 246 .none] 2
def o59:Obj:=⟨(vT "type"),none,.cls {name:=(Str.ofString "StepsOver"),bases:=[vR 39],mro:=[vR 59,vR 39,vT "ValueError",vT "Exception",vT "BaseException",vT "object"],ns:=58,qualname:=(Str.ofString "StepsOver"),hasDict:=true,slotNames:=[],subclasses:=[],abstract:=false,collection:=none,hasDel:=false},([some (vR 43),none,some (vS "StepsOver" 224),some (vS "StepsOver" 232),some (vB "ValueError.__new__"),some (.bool true)]:List (Option Value)).toArray⟩
def o60:=oF "super" [vR 59,vR 59,vR 59]
def o61:=oF "builtin_function_or_method" [vB "object.__init_subclass__",vR 59]
def o62:=oT [vR 39]
def o63:=oF "builtin_function_or_method" [vB "type.__prepare__",vT "type"]
def o64(P:Params):=oD [en P "__module__" 256 (vS "gemrows.errors" 194),en P "__qualname__" 258 (vS "Raised" 257),en P "__firstlineno__" 260 (vI 15 259),en P "__init__" 268 (vR 75),en P "__static_attributes__" 270 (vR 76)] 5
def o65:=oT []
def o66:=oN [vI 17 0,vI 4 0,vR 74]
def o67:=cq "Raised" 251 "Raised" 15 0 0 0 0 65 false 66 .none .none .none 254
def o68:=fr [some (vR 67),some (vR 3),some (vR 64),none,some (vS "gemrows.errors" 194),none,some (vR 0)]
def o69:=oT []
def o70:=oN []
def o71:=oT [vS "self" 264,vS "thing" 265]
def o72:=oT []
def o73:=f0 (mD 4 0) "__init__" "Raised.__init__"
def o74:=cq "__init__" 261 "Raised.__init__" 17 2 0 0 3 69 true 70 (vR 71) (vR 72) (vR 73) 266
def TY:=fu (mD 4 0) "__init__" "Raised.__init__" 3 .none .none (vS "gemrows.errors" 194) (vR 74) .none
def o76:=oT [vS "thing" 269]
def o77(P:Params):=oD [en P "__module__" 256 (vS "gemrows.errors" 194),en P "__firstlineno__" 260 (vI 15 259),en P "__init__" 268 (vR 75),en P "__static_attributes__" 270 (vR 76),en P "__doc__" 271 .none] 2
def o78:Obj:=⟨(vT "type"),none,.cls {name:=(Str.ofString "Raised"),bases:=[vR 39],mro:=[vR 78,vR 39,vT "ValueError",vT "Exception",vT "BaseException",vT "object"],ns:=77,qualname:=(Str.ofString "Raised"),hasDict:=true,slotNames:=[],subclasses:=[],abstract:=false,collection:=none,hasDel:=false},([some (vR 62),none,some (vS "Raised" 249),some (vS "Raised" 257),some (vB "ValueError.__new__"),some (.bool true)]:List (Option Value)).toArray⟩
def o79:=oF "super" [vR 78,vR 78,vR 78]
def o80:=oF "builtin_function_or_method" [vB "object.__init_subclass__",vR 78]
def tr1(P:Params):BT:=(nd (boot_o_0 P) (nd (boot_o_1 P) (nd (o3 P) (nd (boot_o_7 P) (nd o15 (nd o31 (lf o63) nl) (nd o47 (lf o79) nl)) (nd o23 (nd o39 (lf o71) nl) (lf o55))) (nd SE (nd o19 (nd o35 (lf o67) nl) (lf o51)) (nd o27 (nd o43 (lf TY) nl) (lf o59)))) (nd (boot_o_5 P) (nd (boot_o_9 P) (nd o17 (nd o33 (lf o65) nl) (lf o49)) (nd o25 (nd o41 (lf o73) nl) (lf o57))) (nd SG (nd TV (nd o37 (lf o69) nl) (lf o53)) (nd o29 (nd (o45 P) (lf (o77 P)) nl) (lf o61))))) (nd (boot_o_2 P) (nd (boot_o_4 P) (nd (boot_o_8 P) (nd o16 (nd o32 (lf (o64 P)) nl) (nd o48 (lf o80) nl)) (nd (o24 P) (nd o40 (lf o72) nl) (lf TX))) (nd SH (nd o20 (nd TW (lf o68) nl) (lf o52)) (nd o28 (nd o44 (lf o76) nl) (lf o60)))) (nd (boot_o_6 P) (nd (boot_o_10 P) (nd o18 (nd o34 (lf o66) nl) (lf o50)) (nd o26 (nd o42 (lf o74) nl) (lf (o58 P)))) (nd TT (nd o22 (nd (o38 P) (lf o70) nl) (lf o54)) (nd o30 (nd o46 (lf o78) nl) (lf o62))))))
def st1(w:World)(os:OsState):SharedT:=⟨tr1 w.params,81,{},#[],{},276,os⟩
noncomputable def IJ:Pos:=⟨20,0,20,8⟩
def aMG(P:Params):=oD [en P "__name__" 165 (vS "gemrows.things" 274),en P "__doc__" 166 .none,en P "__package__" 167 .none,en P "__loader__" 168 (vB "__main__.__loader__#opaque"),en P "__spec__" 169 .none,en P "__annotations__" 170 (vR 6),en P "__builtins__" 171 (vR 4),en P "__file__" 173 (vS "/claim/cut.py" 172),en P "__cached__" 174 .none,en P "_wall" 193 (vR 21),en P "GemError" 223 (vR 39),en P "StepsOver" 248 (vR 59),en P "Raised" 273 (vR 78),en P "SIMPLE_ESCAPES" 309 (vR 81)] 14
def o81(P:Params):=oD [en P "\\" 276 (vS "\\\\" 277),en P "\"" 278 (vS "\\\"" 279),en P "\n" 280 (vS "\\n" 281),en P "\t" 282 (vS "\\t" 283),en P "\x0d" 284 (vS "\\r" 285),en P "\x1b" 286 (vS "\\e" 287),en P "\x07" 288 (vS "\\a" 289),en P "\x08" 290 (vS "\\b" 291),en P "\x0b" 292 (vS "\\v" 293),en P "\x0c" 294 (vS "\\f" 295),en P "\x7f" 296 (vS "\\x7F" 297)] 11
def tr2(P:Params):BT:=(nd (boot_o_0 P) (nd (boot_o_1 P) (nd (aMG P) (nd (boot_o_7 P) (nd o15 (nd o31 (lf o63) nl) (nd o47 (lf o79) nl)) (nd o23 (nd o39 (lf o71) nl) (lf o55))) (nd SE (nd o19 (nd o35 (lf o67) nl) (lf o51)) (nd o27 (nd o43 (lf TY) nl) (lf o59)))) (nd (boot_o_5 P) (nd (boot_o_9 P) (nd o17 (nd o33 (lf o65) nl) (nd o49 (lf (o81 P)) nl)) (nd o25 (nd o41 (lf o73) nl) (lf o57))) (nd SG (nd TV (nd o37 (lf o69) nl) (lf o53)) (nd o29 (nd (o45 P) (lf (o77 P)) nl) (lf o61))))) (nd (boot_o_2 P) (nd (boot_o_4 P) (nd (boot_o_8 P) (nd o16 (nd o32 (lf (o64 P)) nl) (nd o48 (lf o80) nl)) (nd (o24 P) (nd o40 (lf o72) nl) (lf TX))) (nd SH (nd o20 (nd TW (lf o68) nl) (lf o52)) (nd o28 (nd o44 (lf o76) nl) (lf o60)))) (nd (boot_o_6 P) (nd (boot_o_10 P) (nd o18 (nd o34 (lf o66) nl) (lf o50)) (nd o26 (nd o42 (lf o74) nl) (lf (o58 P)))) (nd TT (nd o22 (nd (o38 P) (lf o70) nl) (lf o54)) (nd o30 (nd o46 (lf o78) nl) (lf o62))))))
def st2(w:World)(os:OsState):SharedT:=⟨tr2 w.params,82,{},#[],{},310,os⟩
noncomputable def IK:Pos:=⟨21,0,21,14⟩
def aMH(P:Params):=oD [en P "__name__" 165 (vS "gemrows.world" 851),en P "__doc__" 166 .none,en P "__package__" 167 .none,en P "__loader__" 168 (vB "__main__.__loader__#opaque"),en P "__spec__" 169 .none,en P "__annotations__" 170 (vR 6),en P "__builtins__" 171 (vR 4),en P "__file__" 173 (vS "/claim/cut.py" 172),en P "__cached__" 174 .none,en P "_wall" 193 (vR 21),en P "GemError" 223 (vR 39),en P "StepsOver" 248 (vR 59),en P "Raised" 273 (vR 78),en P "SIMPLE_ESCAPES" 309 (vR 81),en P "OPERATORS" 337 (vR 82),en P "DEEPEST_KEY" 339 (vI 12 338),en P "Thing" 374 (vR 99),en P "Text" 402 (vR 121),en P "ListThing" 429 (vR 141),en P "TableThing" 481 (vR 179),en P "RangeThing" 512 (vR 199),en P "ProcThing" 555 (vR 220),en P "ErrorThing" 583 (vR 240),en P "FiberThing" 613 (vR 260),en P "ModuleThing" 660 (vR 287),en P "is_int" 667 (vR 296),en P "truth" 674 (vR 303),en P "sort_of" 681 (vR 310),en P "same" 690 (vR 317),en P "code_of" 696 (vR 323),en P "is_word" 704 (vR 330),en P "is_label" 711 (vR 337),en P "is_plain_symbol" 718 (vR 344),en P "full_name" 725 (vR 351),en P "show_letter" 735 (vR 358),en P "show_text" 741 (vR 363),en P "show_symbol" 748 (vR 370),en P "show_pair" 757 (vR 377),en P "show_range" 767 (vR 384),en P "show_thing" 773 (vR 389),en P "show_error" 784 (vR 396),en P "show" 794 (vR 404),en P "has_thing" 805 (vR 411),en P "own_line" 814 (vR 418),en P "ahead_count" 820 (vR 423),en P "made_line" 826 (vR 428),en P "line_of" 834 (vR 435),en P "raise_version" 841 (vR 442),en P "own_module" 850 (vR 449),en P "MODULES" 856 (vR 450)] 50
def SI:=oN [vI 1 0,vI 0 0,vR 20,vI 5 0,vI 0 0,vR 27,vI 10 0,vI 0 0,vR 48,vI 15 0,vI 0 0,vR 67,vI 24 0,vI 0 0,vR 88,vI 33 0,vI 0 0,vR 109,vI 38 0,vI 0 0,vR 129,vI 43 0,vI 0 0,vR 149,vI 63 0,vI 0 0,vR 187,vI 70 0,vI 0 0,vR 207,vI 83 0,vI 0 0,vR 228,vI 89 0,vI 0 0,vR 248,vI 97 0,vI 0 0,vR 268,vI 115 0,vI 0 0,vR 295,vI 117 0,vI 0 0,vR 302,vI 121 0,vI 0 0,vR 309,vI 129 0,vI 0 0,vR 316,vI 134 0,vI 0 0,vR 322,vI 145 0,vI 0 0,vR 329,vI 152 0,vI 0 0,vR 336,vI 154 0,vI 0 0,vR 343,vI 162 0,vI 0 0,vR 350,vI 170 0,vI 0 0,vR 357,vI 180 0,vI 0 0,vR 362,vI 183 0,vI 0 0,vR 369,vI 185 0,vI 0 0,vR 376,vI 189 0,vI 0 0,vR 383,vI 193 0,vI 0 0,vR 388,vI 214 0,vI 0 0,vR 395,vI 220 0,vI 0 0,vR 403,vI 232 0,vI 0 0,vR 410,vI 237 0,vI 0 0,vR 417,vI 245 0,vI 0 0,vR 422,vI 247 0,vI 0 0,vR 427,vI 254 0,vI 0 0,vR 434,vI 258 0,vI 0 0,vR 441,vI 260 0,vI 0 0,vR 448]
def o82:=oT [vS "+" 310,vS "-" 311,vS "*" 312,vS "/" 313,vS "%" 314,vS "**" 315,vS "==" 316,vS "!=" 317,vS "<" 318,vS ">" 319,vS "<=" 320,vS ">=" 321,vS "<=>" 322,vS "===" 323,vS "[]" 324,vS "[]=" 325,vS "<<" 326,vS ">>" 327,vS "!" 328,vS "~" 329,vS "+@" 330,vS "-@" 331,vS "&" 332,vS "|" 333,vS "^" 334,vS "=~" 335,vS "!~" 336]
def o83:=oT []
def o84:=oF "builtin_function_or_method" [vB "type.__prepare__",vT "type"]
def o85(P:Params):=oD [en P "__module__" 347 (vS "gemrows.things" 274),en P "__qualname__" 349 (vS "Thing" 348),en P "__firstlineno__" 351 (vI 24 350),en P "__init__" 360 (vR 96),en P "__static_attributes__" 367 (vR 97)] 5
def o86:=oT []
def o87:=oN [vI 26 0,vI 4 0,vR 95]
def o88:=cq "Thing" 342 "Thing" 24 0 0 0 0 86 false 87 .none .none .none 345
def o89:=fr [some (vR 88),some (vR 3),some (vR 85),none,some (vS "gemrows.things" 274),none,some (vR 0)]
def o90:=oT []
def o91:=oN []
def o92:=oT [vS "self" 355,vS "number" 356,vS "owner" 357]
def o93:=oT []
def o94:=f0 (mD 9 0) "__init__" "Thing.__init__"
def o95:=cq "__init__" 352 "Thing.__init__" 26 3 0 0 3 90 true 91 (vR 92) (vR 93) (vR 94) 358
def o96:=fu (mD 9 0) "__init__" "Thing.__init__" 3 .none .none (vS "gemrows.things" 274) (vR 95) .none
def o97:=oT [vS "fields" 361,vS "frozen" 362,vS "ident" 363,vS "number" 364,vS "own" 365,vS "owner" 366]
def o98(P:Params):=oD [en P "__module__" 347 (vS "gemrows.things" 274),en P "__firstlineno__" 351 (vI 24 350),en P "__init__" 360 (vR 96),en P "__static_attributes__" 367 (vR 97),en P "__dict__" 369 (vR 100),en P "__weakref__" 371 (vR 101),en P "__doc__" 372 .none] 4
def o99:Obj:=⟨(vT "type"),none,.cls {name:=(Str.ofString "Thing"),bases:=[vT "object"],mro:=[vR 99,vT "object"],ns:=98,qualname:=(Str.ofString "Thing"),hasDict:=true,slotNames:=[],subclasses:=[vR 121,vR 141,vR 179,vR 199,vR 220,vR 240,vR 260,vR 287],abstract:=false,collection:=none,hasDel:=false},([none,none,some (vS "Thing" 340),some (vS "Thing" 348),some (vB "object.__new__"),some (.bool true)]:List (Option Value)).toArray⟩
def IM:=oF "getset_descriptor" [vS "__dict__" 368,vR 99,vB "function.__dict__",vB "function.__dict__#set"]
def IN:=oF "getset_descriptor" [vS "__weakref__" 370,vR 99,vB "ExceptionGroup.__weakref__",.none]
def TZ:=oF "super" [vR 99,vR 99,vR 99]
def T0:=oF "builtin_function_or_method" [vB "object.__init_subclass__",vR 99]
def IO:=oT [vR 99]
def T3:=oF "builtin_function_or_method" [vB "type.__prepare__",vT "type"]
def IP(P:Params):=oD [en P "__module__" 382 (vS "gemrows.things" 274),en P "__qualname__" 384 (vS "Text" 383),en P "__firstlineno__" 386 (vI 33 385),en P "__init__" 397 (vR 118),en P "__static_attributes__" 399 (vR 119)] 5
def IQ:=oT []
def T4:=oN [vI 35 0,vI 4 0,vR 117]
def IR:=cq "Text" 377 "Text" 33 0 0 0 0 107 false 108 .none .none .none 380
def T5:=fr [some (vR 109),some (vR 3),some (vR 106),none,some (vS "gemrows.things" 274),none,some (vR 0)]
def IS:=oT [vS "" 387]
def IT:=oT []
def T6:=oN []
def IU:=oT [vS "self" 391,vS "number" 392,vS "owner" 393,vS "text" 394]
def IV:=oT []
def T7:=f0 (mD 10 0) "__init__" "Text.__init__"
def IW:=cq "__init__" 388 "Text.__init__" 35 4 0 0 3 112 true 113 (vR 114) (vR 115) (vR 116) 395
def CV:=fu (mD 10 0) "__init__" "Text.__init__" 3 (vR 111) .none (vS "gemrows.things" 274) (vR 117) .none
def IX:=oT [vS "text" 398]
def IY(P:Params):=oD [en P "__module__" 382 (vS "gemrows.things" 274),en P "__firstlineno__" 386 (vI 33 385),en P "__init__" 397 (vR 118),en P "__static_attributes__" 399 (vR 119),en P "__doc__" 400 .none] 2
def IZ:Obj:=⟨(vT "type"),none,.cls {name:=(Str.ofString "Text"),bases:=[vR 99],mro:=[vR 121,vR 99,vT "object"],ns:=120,qualname:=(Str.ofString "Text"),hasDict:=true,slotNames:=[],subclasses:=[],abstract:=false,collection:=none,hasDel:=false},([some (vR 104),none,some (vS "Text" 375),some (vS "Text" 383),some (vB "object.__new__"),some (.bool true)]:List (Option Value)).toArray⟩
def T8:=oF "super" [vR 121,vR 121,vR 121]
def T9:=oF "builtin_function_or_method" [vB "object.__init_subclass__",vR 121]
def I8:=oT [vR 99]
def UA:=oF "builtin_function_or_method" [vB "type.__prepare__",vT "type"]
def I9(P:Params):=oD [en P "__module__" 410 (vS "gemrows.things" 274),en P "__qualname__" 412 (vS "ListThing" 411),en P "__firstlineno__" 414 (vI 38 413),en P "__init__" 424 (vR 138),en P "__static_attributes__" 426 (vR 139)] 5
def JA:=oT []
def UB:=oN [vI 40 0,vI 4 0,vR 137]
def JC:=cq "ListThing" 405 "ListThing" 38 0 0 0 0 127 false 128 .none .none .none 408
def UC:=fr [some (vR 129),some (vR 3),some (vR 126),none,some (vS "gemrows.things" 274),none,some (vR 0)]
def JD:=oT [.none]
def JE:=oT []
def UD:=oN []
def JF:=oT [vS "self" 418,vS "number" 419,vS "owner" 420,vS "items" 421]
def JG:=oT []
def UE:=f0 (mD 11 0) "__init__" "ListThing.__init__"
def JH:=cq "__init__" 415 "ListThing.__init__" 40 4 0 0 3 132 true 133 (vR 134) (vR 135) (vR 136) 422
def CW:=fu (mD 11 0) "__init__" "ListThing.__init__" 3 (vR 131) .none (vS "gemrows.things" 274) (vR 137) .none
def JI:=oT [vS "items" 425]
def JJ(P:Params):=oD [en P "__module__" 410 (vS "gemrows.things" 274),en P "__firstlineno__" 414 (vI 38 413),en P "__init__" 424 (vR 138),en P "__static_attributes__" 426 (vR 139),en P "__doc__" 427 .none] 2
def JK:Obj:=⟨(vT "type"),none,.cls {name:=(Str.ofString "ListThing"),bases:=[vR 99],mro:=[vR 141,vR 99,vT "object"],ns:=140,qualname:=(Str.ofString "ListThing"),hasDict:=true,slotNames:=[],subclasses:=[],abstract:=false,collection:=none,hasDel:=false},([some (vR 124),none,some (vS "ListThing" 403),some (vS "ListThing" 411),some (vB "object.__new__"),some (.bool true)]:List (Option Value)).toArray⟩
def UF:=oF "super" [vR 141,vR 141,vR 141]
def UG:=oF "builtin_function_or_method" [vB "object.__init_subclass__",vR 141]
def JL:=oT [vR 99]
def UH:=oF "builtin_function_or_method" [vB "type.__prepare__",vT "type"]
def JM(P:Params):=oD [en P "__module__" 437 (vS "gemrows.things" 274),en P "__qualname__" 439 (vS "TableThing" 438),en P "__firstlineno__" 441 (vI 43 440),en P "__init__" 450 (vR 157),en P "put" 461 (vR 164),en P "row" 469 (vR 171),en P "pairs" 475 (vR 176),en P "__static_attributes__" 478 (vR 177)] 8
def JN:=oT []
def UI:=oN [vI 45 0,vI 4 0,vR 156,vI 50 0,vI 4 0,vR 163,vI 58 0,vI 4 0,vR 170,vI 61 0,vI 4 0,vR 175]
def JO:=cq "TableThing" 432 "TableThing" 43 0 0 0 0 147 false 148 .none .none .none 435
def UJ:=fr [some (vR 149),some (vR 3),some (vR 146),none,some (vS "gemrows.things" 274),none,some (vR 0)]
def JP:=oT []
def UK:=oN []
def JQ:=oT [vS "self" 445,vS "number" 446,vS "owner" 447]
def JR:=oT []
def UL:=f0 (mD 12 0) "__init__" "TableThing.__init__"
def JS:=cq "__init__" 442 "TableThing.__init__" 45 3 0 0 3 151 true 152 (vR 153) (vR 154) (vR 155) 448
def CX:=fu (mD 12 0) "__init__" "TableThing.__init__" 3 .none .none (vS "gemrows.things" 274) (vR 156) .none
def JT:=oT []
def UM:=oN []
def JU:=oT [vS "self" 454,vS "key" 455,vS "value" 456,vS "code" 457,vS "row" 458]
def JV:=oT []
def UN:=f0 (mD 12 1) "put" "TableThing.put"
def JW:=cq "put" 451 "TableThing.put" 50 3 0 0 3 158 true 159 (vR 160) (vR 161) (vR 162) 459
def CY:=fu (mD 12 1) "put" "TableThing.put" 3 .none .none (vS "gemrows.things" 274) (vR 163) .none
def JX:=oT []
def UO:=oN []
def JY:=oT [vS "self" 465,vS "key" 466]
def JZ:=oT []
def UP:=f0 (mD 12 2) "row" "TableThing.row"
def J7:=cq "row" 462 "TableThing.row" 58 2 0 0 3 165 true 166 (vR 167) (vR 168) (vR 169) 467
def CZ:=fu (mD 12 2) "row" "TableThing.row" 3 .none .none (vS "gemrows.things" 274) (vR 170) .none
def J8:=oT []
def UQ:=oN []
def UR:=f0 (mD 12 3) "pairs" "TableThing.pairs"
def J9:=cq "pairs" 470 "TableThing.pairs" 61 1 0 0 3 172 true 173 .none .none (vR 174) 473
def C1:=fu (mD 12 3) "pairs" "TableThing.pairs" 3 .none .none (vS "gemrows.things" 274) (vR 175) .none
def KA:=oT [vS "rows" 476,vS "spare" 477]
def KB(P:Params):=oD [en P "__module__" 437 (vS "gemrows.things" 274),en P "__firstlineno__" 441 (vI 43 440),en P "__init__" 450 (vR 157),en P "put" 461 (vR 164),en P "row" 469 (vR 171),en P "pairs" 475 (vR 176),en P "__static_attributes__" 478 (vR 177),en P "__doc__" 479 .none] 2
def KC:Obj:=⟨(vT "type"),none,.cls {name:=(Str.ofString "TableThing"),bases:=[vR 99],mro:=[vR 179,vR 99,vT "object"],ns:=178,qualname:=(Str.ofString "TableThing"),hasDict:=true,slotNames:=[],subclasses:=[],abstract:=false,collection:=none,hasDel:=false},([some (vR 144),none,some (vS "TableThing" 430),some (vS "TableThing" 438),some (vB "object.__new__"),some (.bool true)]:List (Option Value)).toArray⟩
def US:=oF "super" [vR 179,vR 179,vR 179]
def UT:=oF "builtin_function_or_method" [vB "object.__init_subclass__",vR 179]
def KD:=oT [vR 99]
def UU:=oF "builtin_function_or_method" [vB "type.__prepare__",vT "type"]
def KE(P:Params):=oD [en P "__module__" 489 (vS "gemrows.things" 274),en P "__qualname__" 491 (vS "RangeThing" 490),en P "__firstlineno__" 493 (vI 63 492),en P "__init__" 505 (vR 196),en P "__static_attributes__" 509 (vR 197)] 5
def KF:=oT []
def UV:=oN [vI 65 0,vI 4 0,vR 195]
def KG:=cq "RangeThing" 484 "RangeThing" 63 0 0 0 0 185 false 186 .none .none .none 487
def UW:=fr [some (vR 187),some (vR 3),some (vR 184),none,some (vS "gemrows.things" 274),none,some (vR 0)]
def KH:=oT [.none,.none,(.bool false)]
def KI:=oT []
def UX:=oN []
def KJ:=oT [vS "self" 497,vS "number" 498,vS "owner" 499,vS "first" 500,vS "last" 501,vS "is_open" 502]
def KL:=oT []
def UY:=f0 (mD 13 0) "__init__" "RangeThing.__init__"
def KM:=cq "__init__" 494 "RangeThing.__init__" 65 6 0 0 3 190 true 191 (vR 192) (vR 193) (vR 194) 503
def C2:=fu (mD 13 0) "__init__" "RangeThing.__init__" 3 (vR 189) .none (vS "gemrows.things" 274) (vR 195) .none
def KN:=oT [vS "first" 506,vS "last" 507,vS "open" 508]
def KO(P:Params):=oD [en P "__module__" 489 (vS "gemrows.things" 274),en P "__firstlineno__" 493 (vI 63 492),en P "__init__" 505 (vR 196),en P "__static_attributes__" 509 (vR 197),en P "__doc__" 510 .none] 2
def KP:Obj:=⟨(vT "type"),none,.cls {name:=(Str.ofString "RangeThing"),bases:=[vR 99],mro:=[vR 199,vR 99,vT "object"],ns:=198,qualname:=(Str.ofString "RangeThing"),hasDict:=true,slotNames:=[],subclasses:=[],abstract:=false,collection:=none,hasDel:=false},([some (vR 182),none,some (vS "RangeThing" 482),some (vS "RangeThing" 490),some (vB "object.__new__"),some (.bool true)]:List (Option Value)).toArray⟩
def UZ:=oF "super" [vR 199,vR 199,vR 199]
def U0:=oF "builtin_function_or_method" [vB "object.__init_subclass__",vR 199]
def KQ:=oT [vR 99]
def U1:=oF "builtin_function_or_method" [vB "type.__prepare__",vT "type"]
def KS(P:Params):=oD [en P "__module__" 520 (vS "gemrows.things" 274),en P "__qualname__" 522 (vS "ProcThing" 521),en P "__firstlineno__" 524 (vI 70 523),en P "__init__" 542 (vR 217),en P "__static_attributes__" 552 (vR 218)] 5
def KT:=oT []
def U2:=oN [vI 72 0,vI 4 0,vR 216]
def KU:=cq "ProcThing" 515 "ProcThing" 70 0 0 0 0 205 false 206 .none .none .none 518
def U3:=fr [some (vR 207),some (vR 3),some (vR 204),none,some (vS "gemrows.things" 274),none,some (vR 0)]
def KW:=oT []
def KY:=oT [.none,.none,.none,.none,vR 209,.none,.none,(.bool false),.none]
def KZ:=oT []
def U4:=oN []
def K0:=oT [vS "self" 528,vS "number" 529,vS "owner" 530,vS "params" 531,vS "body" 532,vS "env" 533,vS "self_value" 534,vS "nesting" 535,vS "home" 536,vS "site" 537,vS "is_lambda" 538,vS "definer" 539]
def K1:=oT []
def U5:=f0 (mD 14 0) "__init__" "ProcThing.__init__"
def K2:=cq "__init__" 525 "ProcThing.__init__" 72 12 0 0 3 211 true 212 (vR 213) (vR 214) (vR 215) 540
def C3:=fu (mD 14 0) "__init__" "ProcThing.__init__" 3 (vR 210) .none (vS "gemrows.things" 274) (vR 216) .none
def K3:=oT [vS "body" 543,vS "definer" 544,vS "env" 545,vS "home" 546,vS "is_lambda" 547,vS "nesting" 548,vS "params" 549,vS "self_value" 550,vS "site" 551]
def K5(P:Params):=oD [en P "__module__" 520 (vS "gemrows.things" 274),en P "__firstlineno__" 524 (vI 70 523),en P "__init__" 542 (vR 217),en P "__static_attributes__" 552 (vR 218),en P "__doc__" 553 .none] 2
def K6:Obj:=⟨(vT "type"),none,.cls {name:=(Str.ofString "ProcThing"),bases:=[vR 99],mro:=[vR 220,vR 99,vT "object"],ns:=219,qualname:=(Str.ofString "ProcThing"),hasDict:=true,slotNames:=[],subclasses:=[],abstract:=false,collection:=none,hasDel:=false},([some (vR 202),none,some (vS "ProcThing" 513),some (vS "ProcThing" 521),some (vB "object.__new__"),some (.bool true)]:List (Option Value)).toArray⟩
def U6:=oF "super" [vR 220,vR 220,vR 220]
def U7:=oF "builtin_function_or_method" [vB "object.__init_subclass__",vR 220]
def K7:=oT [vR 99]
def U8:=oF "builtin_function_or_method" [vB "type.__prepare__",vT "type"]
def K8(P:Params):=oD [en P "__module__" 563 (vS "gemrows.things" 274),en P "__qualname__" 565 (vS "ErrorThing" 564),en P "__firstlineno__" 567 (vI 83 566),en P "__init__" 577 (vR 237),en P "__static_attributes__" 580 (vR 238)] 5
def K9:=oT []
def U9:=oN [vI 85 0,vI 4 0,vR 236]
def LA:=cq "ErrorThing" 558 "ErrorThing" 83 0 0 0 0 226 false 227 .none .none .none 561
def VA:=fr [some (vR 228),some (vR 3),some (vR 225),none,some (vS "gemrows.things" 274),none,some (vR 0)]
def LB:=oT [.none]
def LC:=oT []
def VB:=oN []
def LD:=oT [vS "self" 571,vS "number" 572,vS "owner" 573,vS "message" 574]
def LF:=oT []
def VC:=f0 (mD 15 0) "__init__" "ErrorThing.__init__"
def LG:=cq "__init__" 568 "ErrorThing.__init__" 85 4 0 0 3 231 true 232 (vR 233) (vR 234) (vR 235) 575
def C4:=fu (mD 15 0) "__init__" "ErrorThing.__init__" 3 (vR 230) .none (vS "gemrows.things" 274) (vR 236) .none
def LH:=oT [vS "cause" 578,vS "message" 579]
def LI(P:Params):=oD [en P "__module__" 563 (vS "gemrows.things" 274),en P "__firstlineno__" 567 (vI 83 566),en P "__init__" 577 (vR 237),en P "__static_attributes__" 580 (vR 238),en P "__doc__" 581 .none] 2
def LJ:Obj:=⟨(vT "type"),none,.cls {name:=(Str.ofString "ErrorThing"),bases:=[vR 99],mro:=[vR 240,vR 99,vT "object"],ns:=239,qualname:=(Str.ofString "ErrorThing"),hasDict:=true,slotNames:=[],subclasses:=[],abstract:=false,collection:=none,hasDel:=false},([some (vR 223),none,some (vS "ErrorThing" 556),some (vS "ErrorThing" 564),some (vB "object.__new__"),some (.bool true)]:List (Option Value)).toArray⟩
def VD:=oF "super" [vR 240,vR 240,vR 240]
def VE:=oF "builtin_function_or_method" [vB "object.__init_subclass__",vR 240]
def LK:=oT [vR 99]
def VF:=oF "builtin_function_or_method" [vB "type.__prepare__",vT "type"]
def LL(P:Params):=oD [en P "__module__" 591 (vS "gemrows.things" 274),en P "__qualname__" 593 (vS "FiberThing" 592),en P "__firstlineno__" 595 (vI 89 594),en P "__init__" 605 (vR 257),en P "__static_attributes__" 610 (vR 258)] 5
def LM:=oT []
def VG:=oN [vI 91 0,vI 4 0,vR 256]
def LN:=cq "FiberThing" 586 "FiberThing" 89 0 0 0 0 246 false 247 .none .none .none 589
def VH:=fr [some (vR 248),some (vR 3),some (vR 245),none,some (vS "gemrows.things" 274),none,some (vR 0)]
def LO:=oT [.none]
def LP:=oT []
def VI:=oN []
def LQ:=oT [vS "self" 599,vS "number" 600,vS "owner" 601,vS "proc" 602]
def LR:=oT []
def VJ:=f0 (mD 16 0) "__init__" "FiberThing.__init__"
def LS:=cq "__init__" 596 "FiberThing.__init__" 91 4 0 0 3 251 true 252 (vR 253) (vR 254) (vR 255) 603
def C5:=fu (mD 16 0) "__init__" "FiberThing.__init__" 3 (vR 250) .none (vS "gemrows.things" 274) (vR 256) .none
def LU:=oT [vS "back" 606,vS "proc" 607,vS "rows" 608,vS "state" 609]
def LV(P:Params):=oD [en P "__module__" 591 (vS "gemrows.things" 274),en P "__firstlineno__" 595 (vI 89 594),en P "__init__" 605 (vR 257),en P "__static_attributes__" 610 (vR 258),en P "__doc__" 611 .none] 2
def LW:Obj:=⟨(vT "type"),none,.cls {name:=(Str.ofString "FiberThing"),bases:=[vR 99],mro:=[vR 260,vR 99,vT "object"],ns:=259,qualname:=(Str.ofString "FiberThing"),hasDict:=true,slotNames:=[],subclasses:=[],abstract:=false,collection:=none,hasDel:=false},([some (vR 243),none,some (vS "FiberThing" 584),some (vS "FiberThing" 592),some (vB "object.__new__"),some (.bool true)]:List (Option Value)).toArray⟩
def VK:=oF "super" [vR 260,vR 260,vR 260]
def VL:=oF "builtin_function_or_method" [vB "object.__init_subclass__",vR 260]
def LX:=oT [vR 99]
def VM:=oF "builtin_function_or_method" [vB "type.__prepare__",vT "type"]
def LY(P:Params):=oD [en P "__module__" 621 (vS "gemrows.things" 274),en P "__qualname__" 623 (vS "ModuleThing" 622),en P "__firstlineno__" 625 (vI 97 624),en P "__init__" 638 (vR 277),en P "is_own" 645 (vR 284),en P "__static_attributes__" 657 (vR 285)] 6
def LZ:=oT []
def VN:=oN [vI 99 0,vI 4 0,vR 276,vI 113 0,vI 4 0,vR 283]
def L5:=cq "ModuleThing" 616 "ModuleThing" 97 0 0 0 0 266 false 267 .none .none .none 619
def VO:=fr [some (vR 268),some (vR 3),some (vR 265),none,some (vS "gemrows.things" 274),none,some (vR 0)]
def L6:=oT [.none,(.bool false),.none,.none]
def L7:=oT []
def VP:=oN []
def L8:=oT [vS "self" 629,vS "number" 630,vS "owner" 631,vS "name" 632,vS "is_class" 633,vS "parent" 634,vS "outer" 635]
def L9:=oT []
def VQ:=f0 (mD 17 0) "__init__" "ModuleThing.__init__"
def MA:=cq "__init__" 626 "ModuleThing.__init__" 99 7 0 0 3 271 true 272 (vR 273) (vR 274) (vR 275) 636
def C6:=fu (mD 17 0) "__init__" "ModuleThing.__init__" 3 (vR 270) .none (vS "gemrows.things" 274) (vR 276) .none
def MB:=oT []
def VS:=oN []
def MC:=oT [vS "self" 642]
def MD:=oT []
def VT:=f0 (mD 17 1) "is_own" "ModuleThing.is_own"
def ME:=cq "is_own" 639 "ModuleThing.is_own" 113 1 0 0 3 278 true 279 (vR 280) (vR 281) (vR 282) 643
def C7:=fu (mD 17 1) "is_own" "ModuleThing.is_own" 3 .none .none (vS "gemrows.things" 274) (vR 283) .none
def MF:=oT [vS "ahead" 646,vS "attached" 647,vS "constants" 648,vS "is_class" 649,vS "kept" 650,vS "methods" 651,vS "mixed" 652,vS "name" 653,vS "native" 654,vS "outer" 655,vS "parent" 656]
def MG(P:Params):=oD [en P "__module__" 621 (vS "gemrows.things" 274),en P "__firstlineno__" 625 (vI 97 624),en P "__init__" 638 (vR 277),en P "is_own" 645 (vR 284),en P "__static_attributes__" 657 (vR 285),en P "__doc__" 658 .none] 2
def MH:Obj:=⟨(vT "type"),none,.cls {name:=(Str.ofString "ModuleThing"),bases:=[vR 99],mro:=[vR 287,vR 99,vT "object"],ns:=286,qualname:=(Str.ofString "ModuleThing"),hasDict:=true,slotNames:=[],subclasses:=[],abstract:=false,collection:=none,hasDel:=false},([some (vR 263),none,some (vS "ModuleThing" 614),some (vS "ModuleThing" 622),some (vB "object.__new__"),some (.bool true)]:List (Option Value)).toArray⟩
def VU:=oF "super" [vR 287,vR 287,vR 287]
def VV:=oF "builtin_function_or_method" [vB "object.__init_subclass__",vR 287]
def MI:=oT []
def VW:=oN []
def MJ:=oT [vS "value" 664]
def MK:=oT []
def VX:=f0 (tD 18) "is_int" "is_int"
def ML:=cq "is_int" 661 "is_int" 115 1 0 0 3 290 true 291 (vR 292) (vR 293) (vR 294) 665
def C8:=fu (tD 18) "is_int" "is_int" 3 .none .none (vS "gemrows.things" 274) (vR 295) .none
def MN:=oT []
def VY:=oN []
def MO:=oT [vS "value" 671]
def MP:=oT []
def VZ:=f0 (tD 19) "truth" "truth"
def MQ:=cq "truth" 668 "truth" 117 1 0 0 3 297 true 298 (vR 299) (vR 300) (vR 301) 672
def C9:=fu (tD 19) "truth" "truth" 3 .none .none (vS "gemrows.things" 274) (vR 302) .none
def MS:=oT []
def V7:=oN []
def MT:=oT [vS "value" 678]
def MU:=oT []
def V8:=f0 (tD 20) "sort_of" "sort_of"
def MV:=cq "sort_of" 675 "sort_of" 121 1 0 0 3 304 true 305 (vR 306) (vR 307) (vR 308) 679
def DA:=fu (tD 20) "sort_of" "sort_of" 3 .none .none (vS "gemrows.things" 274) (vR 309) .none
def MW:=oT []
def V9:=oN []
def MX:=oT [vS "one" 685,vS "other" 686,vS "sort" 687]
def MY:=oT []
def WA:=f0 (tD 21) "same" "same"
def MZ:=cq "same" 682 "same" 129 2 0 0 3 311 true 312 (vR 313) (vR 314) (vR 315) 688
def DB:=fu (tD 21) "same" "same" 3 .none .none (vS "gemrows.things" 274) (vR 316) .none
def M0:=oT [vI 12 338]
def M1:=oT []
def WB:=oN []
def WC:=f0 (tD 22) "code_of" "code_of"
def M2:=cq "code_of" 691 "code_of" 134 2 0 0 3 319 true 320 .none .none (vR 321) 694
def DC:=fu (tD 22) "code_of" "code_of" 3 (vR 318) .none (vS "gemrows.things" 274) (vR 322) .none
def M3:=oT []
def WD:=oN []
def M4:=oT [vS "text" 700,vS "letter" 701]
def M5:=oT []
def WE:=f0 (tD 23) "is_word" "is_word"
def M6:=cq "is_word" 697 "is_word" 145 1 0 0 3 324 true 325 (vR 326) (vR 327) (vR 328) 702
def DD:=fu (tD 23) "is_word" "is_word" 3 .none .none (vS "gemrows.things" 274) (vR 329) .none
def M7:=oT []
def WF:=oN []
def M8:=oT [vS "name" 708]
def M9:=oT []
def WG:=f0 (tD 24) "is_label" "is_label"
def NA:=cq "is_label" 705 "is_label" 152 1 0 0 3 331 true 332 (vR 333) (vR 334) (vR 335) 709
def DE:=fu (tD 24) "is_label" "is_label" 3 .none .none (vS "gemrows.things" 274) (vR 336) .none
def NB:=oT []
def WH:=oN []
def NC:=oT [vS "name" 715]
def ND:=oT []
def WI:=f0 (tD 25) "is_plain_symbol" "is_plain_symbol"
def NE:=cq "is_plain_symbol" 712 "is_plain_symbol" 154 1 0 0 3 338 true 339 (vR 340) (vR 341) (vR 342) 716
def DF:=fu (tD 25) "is_plain_symbol" "is_plain_symbol" 3 .none .none (vS "gemrows.things" 274) (vR 343) .none
def NF:=oT []
def WJ:=oN []
def NG:=oT [vS "module" 722]
def NH:=oT []
def WK:=f0 (tD 26) "full_name" "full_name"
def NI:=cq "full_name" 719 "full_name" 162 1 0 0 3 345 true 346 (vR 347) (vR 348) (vR 349) 723
def DG:=fu (tD 26) "full_name" "full_name" 3 .none .none (vS "gemrows.things" 274) (vR 350) .none
def NJ:=oT []
def WL:=oN []
def NK:=oT [vS "letter" 729,vS "follower" 730,vS "number" 731,vS "figures" 732]
def NL:=oT []
def WM:=f0 (tD 27) "show_letter" "show_letter"
def NM:=cq "show_letter" 726 "show_letter" 170 2 0 0 3 352 true 353 (vR 354) (vR 355) (vR 356) 733
def DH:=fu (tD 27) "show_letter" "show_letter" 3 .none .none (vS "gemrows.things" 274) (vR 357) .none
def NN:=oT []
def WN:=oN []
def WO:=f0 (tD 28) "show_text" "show_text"
def NO:=cq "show_text" 736 "show_text" 180 1 0 0 3 359 true 360 .none .none (vR 361) 739
def DI:=fu (tD 28) "show_text" "show_text" 3 .none .none (vS "gemrows.things" 274) (vR 362) .none
def NP:=oT []
def WP:=oN []
def NQ:=oT [vS "name" 745]
def NR:=oT []
def WQ:=f0 (tD 29) "show_symbol" "show_symbol"
def NS:=cq "show_symbol" 742 "show_symbol" 183 1 0 0 3 364 true 365 (vR 366) (vR 367) (vR 368) 746
def DJ:=fu (tD 29) "show_symbol" "show_symbol" 3 .none .none (vS "gemrows.things" 274) (vR 369) .none
def NU:=oT []
def WR:=oN []
def NV:=oT [vS "key" 752,vS "value" 753,vS "deep" 754]
def NW:=oT []
def WS:=f0 (tD 30) "show_pair" "show_pair"
def NX:=cq "show_pair" 749 "show_pair" 185 3 0 0 3 371 true 372 (vR 373) (vR 374) (vR 375) 755
def DK:=fu (tD 30) "show_pair" "show_pair" 3 .none .none (vS "gemrows.things" 274) (vR 376) .none
def NY:=oT []
def WT:=oN []
def NZ:=oT [vS "value" 761,vS "deep" 762,vS "first" 763,vS "last" 764]
def N0:=oT []
def WU:=f0 (tD 31) "show_range" "show_range"
def N1:=cq "show_range" 758 "show_range" 189 2 0 0 3 378 true 379 (vR 380) (vR 381) (vR 382) 765
def DL:=fu (tD 31) "show_range" "show_range" 3 .none .none (vS "gemrows.things" 274) (vR 383) .none
def N2:=oT []
def WV:=oN []
def WW:=f0 (tD 32) "show_thing" "show_thing"
def N3:=cq "show_thing" 768 "show_thing" 193 2 0 0 3 385 true 386 .none .none (vR 387) 771
def DM:=fu (tD 32) "show_thing" "show_thing" 3 .none .none (vS "gemrows.things" 274) (vR 388) .none
def N4:=oT []
def WX:=oN []
def N5:=oT [vS "value" 777,vS "name" 778,vS "deep" 779,vS "message" 780,vS "told" 781]
def N6:=oT []
def WY:=f0 (tD 33) "show_error" "show_error"
def N7:=cq "show_error" 774 "show_error" 214 3 0 0 3 390 true 391 (vR 392) (vR 393) (vR 394) 782
def DN:=fu (tD 33) "show_error" "show_error" 3 .none .none (vS "gemrows.things" 274) (vR 395) .none
def N8:=oT [vI 6 785]
def N9:=oT []
def WZ:=oN []
def OA:=oT [vS "value" 789,vS "deep" 790,vS "sort" 791]
def OB:=oT []
def W0:=f0 (tD 34) "show" "show"
def OC:=cq "show" 786 "show" 220 2 0 0 3 398 true 399 (vR 400) (vR 401) (vR 402) 792
def DO:=fu (tD 34) "show" "show" 3 (vR 397) .none (vS "gemrows.things" 274) (vR 403) .none
def OD:=oT []
def W1:=oN []
def OE:=oT [vS "things" 800,vS "one" 801,vS "thing" 802]
def OF:=oT []
def W2:=f0 (tD 36) "has_thing" "has_thing"
def OG:=cq "has_thing" 797 "has_thing" 232 2 0 0 3 405 true 406 (vR 407) (vR 408) (vR 409) 803
def DP:=fu (tD 36) "has_thing" "has_thing" 3 .none .none (vS "gemrows.lines" 795) (vR 410) .none
def OH:=oT []
def W3:=oN []
def OI:=oT [vS "module" 809,vS "found" 810,vS "one" 811]
def OJ:=oT []
def W4:=f0 (tD 37) "own_line" "own_line"
def OK:=cq "own_line" 806 "own_line" 237 1 0 0 3 412 true 413 (vR 414) (vR 415) (vR 416) 812
def DQ:=fu (tD 37) "own_line" "own_line" 3 .none .none (vS "gemrows.lines" 795) (vR 417) .none
def OL:=oT []
def W5:=oN []
def W6:=f0 (tD 38) "ahead_count" "ahead_count"
def OM:=cq "ahead_count" 815 "ahead_count" 245 1 0 0 3 419 true 420 .none .none (vR 421) 818
def DR:=fu (tD 38) "ahead_count" "ahead_count" 3 .none .none (vS "gemrows.lines" 795) (vR 422) .none
def ON:=oT []
def W7:=oN []
def W8:=f0 (tD 39) "made_line" "made_line"
def OO:=cq "made_line" 821 "made_line" 247 2 0 0 3 424 true 425 .none .none (vR 426) 824
def DS:=fu (tD 39) "made_line" "made_line" 3 .none .none (vS "gemrows.lines" 795) (vR 427) .none
def OP:=oT []
def W9:=oN []
def OQ:=oT [vS "world" 830,vS "module" 831]
def OS:=oT []
def XA:=f0 (tD 40) "line_of" "line_of"
def OT:=cq "line_of" 827 "line_of" 254 2 0 0 3 429 true 430 (vR 431) (vR 432) (vR 433) 832
def DT:=fu (tD 40) "line_of" "line_of" 3 .none .none (vS "gemrows.lines" 795) (vR 434) .none
def OU:=oT []
def XB:=oN []
def OV:=oT [vS "world" 838]
def OW:=oT []
def XC:=f0 (tD 41) "raise_version" "raise_version"
def OX:=cq "raise_version" 835 "raise_version" 258 1 0 0 3 436 true 437 (vR 438) (vR 439) (vR 440) 839
def DU:=fu (tD 41) "raise_version" "raise_version" 3 .none .none (vS "gemrows.lines" 795) (vR 441) .none
def OY:=oT []
def XD:=oN []
def OZ:=oT [vS "world" 845,vS "value" 846,vS "parent" 847]
def O0:=oT []
def XE:=f0 (tD 42) "own_module" "own_module"
def O1:=cq "own_module" 842 "own_module" 260 2 0 0 3 443 true 444 (vR 445) (vR 446) (vR 447) 848
def DV:=fu (tD 42) "own_module" "own_module" 3 .none .none (vS "gemrows.lines" 795) (vR 448) .none
def O2:=oT [vS "Kernel" 853,vS "Comparable" 854,vS "Enumerable" 855]
def tr3(P:Params):BT:=(nd (boot_o_0 P) (nd (boot_o_1 P) (nd (aMH P) (nd (boot_o_7 P) (nd o15 (nd o31 (nd o63 (nd JA (lf VJ) (lf N1)) (nd UX (lf M1) (lf XE))) (nd o95 (nd UM (lf MH) (lf OJ)) (nd K7 (lf DG) nl))) (nd o47 (nd o79 (nd UG (lf L7) (lf WZ)) (nd KU (lf WG) nl)) (nd IS (nd J9 (lf C9) (lf OQ)) (nd (LI P) (lf NR) nl)))) (nd o23 (nd o39 (nd o71 (nd JG (lf LX) (lf WX)) (nd KP (lf M5) nl)) (nd T0 (nd JY (lf ML) (lf DR)) (nd LC (lf NN) nl))) (nd o55 (nd o87 (nd JP (lf VS) (lf OE)) (nd U5 (lf NE) nl)) (nd IX (nd UU (lf MW) (lf OW)) (nd VG (lf WS) nl))))) (nd SE (nd o19 (nd o35 (nd o67 (nd JD (lf (LV P)) (lf WW)) (nd KM (lf DC) nl)) (nd o99 (nd JW (lf VW) (lf OL)) (nd U9 (lf NL) nl))) (nd o51 (nd o83 (nd JN (lf VQ) (lf OC)) (nd KZ (lf WH) nl)) (nd IV (nd KC (lf MU) (lf DT)) (nd LK (lf NU) nl)))) (nd o27 (nd o43 (nd TY (nd JI (lf VN) (lf N7)) (nd U1 (lf M7) nl)) (nd IQ (nd CZ (lf MO) (lf OO)) (nd VC (lf DI) nl))) (nd o59 (nd o91 (nd UL (lf ME) (lf DP)) (nd (K5 P) (lf NG) nl)) (nd T9 (nd KG (lf WA) (lf OY)) (nd LP (lf WT) nl)))))) (nd (boot_o_5 P) (nd (boot_o_9 P) (nd o17 (nd o33 (nd o65 (nd JC (lf C5) (lf N2)) (nd KL (lf WC) (lf DV))) (nd o97 (nd JV (lf VV) (lf OK)) (nd (K8 P) (lf WL) nl))) (nd o49 (nd (o81 P) (nd UH (lf L8) (lf OB)) (nd KW (lf DE) nl)) (nd T6 (nd KA (lf V7) (lf XA)) (nd VD (lf NS) nl)))) (nd o25 (nd o41 (nd o73 (nd JH (lf (LY P)) (lf N6)) (nd U0 (lf M6) nl)) (nd T3 (nd UP (lf MN) (lf W7)) (nd LD (lf WO) nl))) (nd o57 (nd o89 (nd JQ (lf MD) (lf W2)) (nd C3 (lf NF) nl)) (nd IZ (nd KF (lf MX) (lf OX)) (nd VH (lf DK) nl))))) (nd SG (nd TV (nd o37 (nd o69 (nd UD (lf VK) (lf DM)) (nd KN (lf WD) nl)) (nd IN (nd JX (lf MK) (lf W6)) (nd VA (lf NM) nl))) (nd o53 (nd (o85 P) (nd JO (lf C6) (lf OD)) (nd K0 (lf ND) nl)) (nd IW (nd UT (lf MV) (lf XB)) (nd (LL P) (lf NV) nl)))) (nd o29 (nd (o45 P) (nd (o77 P) (nd JK (lf VO) (lf N8)) (nd KT (lf M8) nl)) (nd IR (nd UQ (lf VZ) (lf OP)) (nd C4 (lf WP) nl))) (nd o61 (nd o93 (nd CX (lf MF) (lf W3)) (nd U6 (lf WK) nl)) (nd UA (nd KH (lf DB) (lf OZ)) (nd LQ (lf N0) nl))))))) (nd (boot_o_2 P) (nd (boot_o_4 P) (nd (boot_o_8 P) (nd o16 (nd o32 (nd (o64 P) (nd UB (lf LS) (lf DL)) (nd KJ (lf WB) (lf O1))) (nd o96 (nd JU (lf VU) (lf W4)) (nd U8 (lf NJ) nl))) (nd o48 (nd o80 (nd JL (lf VP) (lf OA)) (nd U3 (lf NA) nl)) (nd IT (nd C1 (lf MS) (lf OS)) (nd LJ (lf WQ) nl)))) (nd (o24 P) (nd o40 (nd o72 (nd UE (lf VM) (lf N5)) (nd UZ (lf WE) nl)) (nd IO (nd JZ (lf C8) (lf ON)) (nd VB (lf WN) nl))) (nd TX (nd o88 (nd UK (lf MC) (lf OF)) (nd K2 (lf DF) nl)) (nd (IY P) (nd (KE P) (lf V9) (lf XC)) (nd LN (lf NX) nl))))) (nd SI (nd o20 (nd TW (nd o68 (nd JE (lf LW) (lf N3)) (nd C2 (lf M3) nl)) (nd IM (nd CY (lf MJ) (lf W5)) (nd LA (lf WM) nl))) (nd o52 (nd o84 (nd UI (lf MA) (lf DO)) (nd U4 (lf NC) nl)) (nd T7 (nd US (lf V8) (lf OU)) (nd VF (lf WR) nl)))) (nd o28 (nd o44 (nd o76 (nd (JJ P) (lf L5) (lf DN)) (nd (KS P) (lf WF) nl)) (nd T4 (nd J8 (lf MP) (lf DS)) (nd LG (lf NP) nl))) (nd o60 (nd o92 (nd JS (lf C7) (lf OH)) (nd K6 (lf NH) nl)) (nd I8 (nd UW (lf MZ) (lf XD)) (nd VI (lf NZ) nl)))))) (nd (boot_o_6 P) (nd (boot_o_10 P) (nd o18 (nd o34 (nd o66 (nd UC (lf LU) (lf WV)) (nd UY (lf M2) (lf O2))) (nd (o98 P) (nd UN (lf MI) (lf DQ)) (nd K9 (lf NK) nl))) (nd o50 (nd o82 (nd (JM P) (lf L9) (lf W0)) (nd KY (lf NB) nl)) (nd IU (nd (KB P) (lf MT) (lf OT)) (nd VE (lf DJ) nl)))) (nd o26 (nd o42 (nd o74 (nd CW (lf LZ) (lf WY)) (nd KQ (lf DD) nl)) (nd (IP P) (nd J7 (lf VY) (lf W8)) (nd LF (lf NO) nl))) (nd (o58 P) (nd o90 (nd JR (lf VT) (lf OG)) (nd K3 (lf WJ) nl)) (nd T8 (nd UV (lf MY) (lf DU)) (nd LO (lf NY) nl))))) (nd TT (nd o22 (nd (o38 P) (nd o70 (nd JF (lf VL) (lf N4)) (nd (KO P) (lf M4) nl)) (nd TZ (nd UO (lf VX) (lf OM)) (nd LB (lf DH) nl))) (nd o54 (nd o86 (nd UJ (lf MB) (lf W1)) (nd K1 (lf WI) nl)) (nd CV (nd KD (lf DA) (lf OV)) (nd LM (lf NW) nl)))) (nd o30 (nd o46 (nd o78 (nd UF (lf L6) (lf N9)) (nd U2 (lf M9) nl)) (nd T5 (nd UR (lf MQ) (lf W9)) (nd LH (lf NQ) nl))) (nd o62 (nd o94 (nd JT (lf (MG P)) (lf OI)) (nd U7 (lf NI) nl)) (nd (I9 P) (nd KI (lf M0) (lf O0)) (nd LR (lf WU) nl))))))))
def st3(w:World)(os:OsState):SharedT:=⟨tr3 w.params,451,{},#[],{},857,os⟩
noncomputable def O3:Pos:=⟨276,0,276,7⟩
def aMN(P:Params):=oD [en P "__name__" 165 (vS "gemrows.world" 851),en P "__doc__" 166 .none,en P "__package__" 167 .none,en P "__loader__" 168 (vB "__main__.__loader__#opaque"),en P "__spec__" 169 .none,en P "__annotations__" 170 (vR 6),en P "__builtins__" 171 (vR 4),en P "__file__" 173 (vS "/claim/cut.py" 172),en P "__cached__" 174 .none,en P "_wall" 193 (vR 21),en P "GemError" 223 (vR 39),en P "StepsOver" 248 (vR 59),en P "Raised" 273 (vR 78),en P "SIMPLE_ESCAPES" 309 (vR 81),en P "OPERATORS" 337 (vR 82),en P "DEEPEST_KEY" 339 (vI 12 338),en P "Thing" 374 (vR 99),en P "Text" 402 (vR 121),en P "ListThing" 429 (vR 141),en P "TableThing" 481 (vR 179),en P "RangeThing" 512 (vR 199),en P "ProcThing" 555 (vR 220),en P "ErrorThing" 583 (vR 240),en P "FiberThing" 613 (vR 260),en P "ModuleThing" 660 (vR 287),en P "is_int" 667 (vR 296),en P "truth" 674 (vR 303),en P "sort_of" 681 (vR 310),en P "same" 690 (vR 317),en P "code_of" 696 (vR 323),en P "is_word" 704 (vR 330),en P "is_label" 711 (vR 337),en P "is_plain_symbol" 718 (vR 344),en P "full_name" 725 (vR 351),en P "show_letter" 735 (vR 358),en P "show_text" 741 (vR 363),en P "show_symbol" 748 (vR 370),en P "show_pair" 757 (vR 377),en P "show_range" 767 (vR 384),en P "show_thing" 773 (vR 389),en P "show_error" 784 (vR 396),en P "show" 794 (vR 404),en P "has_thing" 805 (vR 411),en P "own_line" 814 (vR 418),en P "ahead_count" 820 (vR 423),en P "made_line" 826 (vR 428),en P "line_of" 834 (vR 435),en P "raise_version" 841 (vR 442),en P "own_module" 850 (vR 449),en P "MODULES" 856 (vR 450),en P "BUILTINS" 973 (vR 451),en P "MIXED" 995 (vR 454)] 52
def XF(P:Params):=oD [en P "BasicObject" 857 .none,en P "Object" 859 (vS "BasicObject" 860),en P "Module" 862 (vS "Object" 863),en P "Class" 865 (vS "Module" 866),en P "Kernel" 868 .none,en P "Comparable" 870 .none,en P "Enumerable" 872 .none,en P "NilClass" 874 (vS "Object" 875),en P "TrueClass" 877 (vS "Object" 878),en P "FalseClass" 880 (vS "Object" 881),en P "Numeric" 883 (vS "Object" 884),en P "Integer" 886 (vS "Numeric" 887),en P "String" 889 (vS "Object" 890),en P "Symbol" 892 (vS "Object" 893),en P "Array" 895 (vS "Object" 896),en P "Hash" 898 (vS "Object" 899),en P "Range" 901 (vS "Object" 902),en P "Proc" 904 (vS "Object" 905),en P "Fiber" 907 (vS "Object" 908),en P "Exception" 910 (vS "Object" 911),en P "ScriptError" 913 (vS "Exception" 914),en P "NotImplementedError" 916 (vS "ScriptError" 917),en P "SystemStackError" 919 (vS "Exception" 920),en P "StandardError" 922 (vS "Exception" 923),en P "ArgumentError" 925 (vS "StandardError" 926),en P "UncaughtThrowError" 928 (vS "ArgumentError" 929),en P "FiberError" 931 (vS "StandardError" 932),en P "IndexError" 934 (vS "StandardError" 935),en P "KeyError" 937 (vS "IndexError" 938),en P "StopIteration" 940 (vS "IndexError" 941),en P "LocalJumpError" 943 (vS "StandardError" 944),en P "NameError" 946 (vS "StandardError" 947),en P "NoMethodError" 949 (vS "NameError" 950),en P "NoMatchingPatternError" 952 (vS "StandardError" 953),en P "NoMatchingPatternKeyError" 955 (vS "NoMatchingPatternError" 956),en P "RangeError" 957 (vS "StandardError" 958),en P "RuntimeError" 959 (vS "StandardError" 960),en P "FrozenError" 961 (vS "RuntimeError" 962),en P "TypeError" 963 (vS "StandardError" 964),en P "ZeroDivisionError" 965 (vS "StandardError" 966)] 40
def XG(P:Params):=oD [en P "Proc" 904 (vS "Object" 905),en P "Fiber" 907 (vS "Object" 908),en P "Exception" 910 (vS "Object" 911),en P "ScriptError" 913 (vS "Exception" 914),en P "NotImplementedError" 916 (vS "ScriptError" 917),en P "SystemStackError" 919 (vS "Exception" 920),en P "StandardError" 922 (vS "Exception" 923),en P "ArgumentError" 925 (vS "StandardError" 926),en P "UncaughtThrowError" 928 (vS "ArgumentError" 929),en P "FiberError" 931 (vS "StandardError" 932),en P "IndexError" 934 (vS "StandardError" 935),en P "KeyError" 937 (vS "IndexError" 938),en P "StopIteration" 940 (vS "IndexError" 941),en P "LocalJumpError" 943 (vS "StandardError" 944),en P "NameError" 946 (vS "StandardError" 947),en P "NoMethodError" 949 (vS "NameError" 950),en P "NoMatchingPatternError" 952 (vS "StandardError" 953)] 17
def XH(P:Params):=oD [en P "NoMatchingPatternKeyError" 955 (vS "NoMatchingPatternError" 956),en P "RangeError" 957 (vS "StandardError" 958),en P "RuntimeError" 959 (vS "StandardError" 960),en P "FrozenError" 961 (vS "RuntimeError" 962),en P "TypeError" 963 (vS "StandardError" 964),en P "ZeroDivisionError" 965 (vS "StandardError" 966)] 6
def XI(P:Params):=oD [en P "Object" 974 (vR 455),en P "Numeric" 976 (vR 456),en P "String" 978 (vR 457),en P "Symbol" 980 (vR 458),en P "Array" 982 (vR 459),en P "Hash" 984 (vR 460),en P "Range" 986 (vR 461)] 7
def XJ:=oT [vS "Kernel" 975]
def XK:=oT [vS "Comparable" 977]
def XL:=oT [vS "Comparable" 979]
def XM:=oT [vS "Comparable" 981]
def XN:=oT [vS "Enumerable" 983]
def XO:=oT [vS "Enumerable" 985]
def XQ:=oT [vS "Enumerable" 987]
def tr4(P:Params):BT:=(nd (boot_o_0 P) (nd (boot_o_1 P) (nd (aMN P) (nd (boot_o_7 P) (nd o15 (nd o31 (nd o63 (nd JA (lf VJ) (lf N1)) (nd UX (lf M1) (lf XE))) (nd o95 (nd UM (lf MH) (lf OJ)) (nd K7 (lf DG) nl))) (nd o47 (nd o79 (nd UG (lf L7) (lf WZ)) (nd KU (lf WG) nl)) (nd IS (nd J9 (lf C9) (lf OQ)) (nd (LI P) (lf NR) nl)))) (nd o23 (nd o39 (nd o71 (nd JG (lf LX) (lf WX)) (nd KP (lf M5) (lf XJ))) (nd T0 (nd JY (lf ML) (lf DR)) (nd LC (lf NN) nl))) (nd o55 (nd o87 (nd JP (lf VS) (lf OE)) (nd U5 (lf NE) nl)) (nd IX (nd UU (lf MW) (lf OW)) (nd VG (lf WS) nl))))) (nd SE (nd o19 (nd o35 (nd o67 (nd JD (lf (LV P)) (lf WW)) (nd KM (lf DC) (lf (XF P)))) (nd o99 (nd JW (lf VW) (lf OL)) (nd U9 (lf NL) nl))) (nd o51 (nd o83 (nd JN (lf VQ) (lf OC)) (nd KZ (lf WH) nl)) (nd IV (nd KC (lf MU) (lf DT)) (nd LK (lf NU) nl)))) (nd o27 (nd o43 (nd TY (nd JI (lf VN) (lf N7)) (nd U1 (lf M7) (lf XN))) (nd IQ (nd CZ (lf MO) (lf OO)) (nd VC (lf DI) nl))) (nd o59 (nd o91 (nd UL (lf ME) (lf DP)) (nd (K5 P) (lf NG) nl)) (nd T9 (nd KG (lf WA) (lf OY)) (nd LP (lf WT) nl)))))) (nd (boot_o_5 P) (nd (boot_o_9 P) (nd o17 (nd o33 (nd o65 (nd JC (lf C5) (lf N2)) (nd KL (lf WC) (lf DV))) (nd o97 (nd JV (lf VV) (lf OK)) (nd (K8 P) (lf WL) nl))) (nd o49 (nd (o81 P) (nd UH (lf L8) (lf OB)) (nd KW (lf DE) nl)) (nd T6 (nd KA (lf V7) (lf XA)) (nd VD (lf NS) nl)))) (nd o25 (nd o41 (nd o73 (nd JH (lf (LY P)) (lf N6)) (nd U0 (lf M6) (lf XL))) (nd T3 (nd UP (lf MN) (lf W7)) (nd LD (lf WO) nl))) (nd o57 (nd o89 (nd JQ (lf MD) (lf W2)) (nd C3 (lf NF) nl)) (nd IZ (nd KF (lf MX) (lf OX)) (nd VH (lf DK) nl))))) (nd SG (nd TV (nd o37 (nd o69 (nd UD (lf VK) (lf DM)) (nd KN (lf WD) (lf (XH P)))) (nd IN (nd JX (lf MK) (lf W6)) (nd VA (lf NM) nl))) (nd o53 (nd (o85 P) (nd JO (lf C6) (lf OD)) (nd K0 (lf ND) nl)) (nd IW (nd UT (lf MV) (lf XB)) (nd (LL P) (lf NV) nl)))) (nd o29 (nd (o45 P) (nd (o77 P) (nd JK (lf VO) (lf N8)) (nd KT (lf M8) (lf XQ))) (nd IR (nd UQ (lf VZ) (lf OP)) (nd C4 (lf WP) nl))) (nd o61 (nd o93 (nd CX (lf MF) (lf W3)) (nd U6 (lf WK) nl)) (nd UA (nd KH (lf DB) (lf OZ)) (nd LQ (lf N0) nl))))))) (nd (boot_o_2 P) (nd (boot_o_4 P) (nd (boot_o_8 P) (nd o16 (nd o32 (nd (o64 P) (nd UB (lf LS) (lf DL)) (nd KJ (lf WB) (lf O1))) (nd o96 (nd JU (lf VU) (lf W4)) (nd U8 (lf NJ) nl))) (nd o48 (nd o80 (nd JL (lf VP) (lf OA)) (nd U3 (lf NA) nl)) (nd IT (nd C1 (lf MS) (lf OS)) (nd LJ (lf WQ) nl)))) (nd (o24 P) (nd o40 (nd o72 (nd UE (lf VM) (lf N5)) (nd UZ (lf WE) (lf XK))) (nd IO (nd JZ (lf C8) (lf ON)) (nd VB (lf WN) nl))) (nd TX (nd o88 (nd UK (lf MC) (lf OF)) (nd K2 (lf DF) nl)) (nd (IY P) (nd (KE P) (lf V9) (lf XC)) (nd LN (lf NX) nl))))) (nd SI (nd o20 (nd TW (nd o68 (nd JE (lf LW) (lf N3)) (nd C2 (lf M3) (lf (XG P)))) (nd IM (nd CY (lf MJ) (lf W5)) (nd LA (lf WM) nl))) (nd o52 (nd o84 (nd UI (lf MA) (lf DO)) (nd U4 (lf NC) nl)) (nd T7 (nd US (lf V8) (lf OU)) (nd VF (lf WR) nl)))) (nd o28 (nd o44 (nd o76 (nd (JJ P) (lf L5) (lf DN)) (nd (KS P) (lf WF) (lf XO))) (nd T4 (nd J8 (lf MP) (lf DS)) (nd LG (lf NP) nl))) (nd o60 (nd o92 (nd JS (lf C7) (lf OH)) (nd K6 (lf NH) nl)) (nd I8 (nd UW (lf MZ) (lf XD)) (nd VI (lf NZ) nl)))))) (nd (boot_o_6 P) (nd (boot_o_10 P) (nd o18 (nd o34 (nd o66 (nd UC (lf LU) (lf WV)) (nd UY (lf M2) (lf O2))) (nd (o98 P) (nd UN (lf MI) (lf DQ)) (nd K9 (lf NK) nl))) (nd o50 (nd o82 (nd (JM P) (lf L9) (lf W0)) (nd KY (lf NB) nl)) (nd IU (nd (KB P) (lf MT) (lf OT)) (nd VE (lf DJ) nl)))) (nd o26 (nd o42 (nd o74 (nd CW (lf LZ) (lf WY)) (nd KQ (lf DD) (lf XM))) (nd (IP P) (nd J7 (lf VY) (lf W8)) (nd LF (lf NO) nl))) (nd (o58 P) (nd o90 (nd JR (lf VT) (lf OG)) (nd K3 (lf WJ) nl)) (nd T8 (nd UV (lf MY) (lf DU)) (nd LO (lf NY) nl))))) (nd TT (nd o22 (nd (o38 P) (nd o70 (nd JF (lf VL) (lf N4)) (nd (KO P) (lf M4) (lf (XI P)))) (nd TZ (nd UO (lf VX) (lf OM)) (nd LB (lf DH) nl))) (nd o54 (nd o86 (nd UJ (lf MB) (lf W1)) (nd K1 (lf WI) nl)) (nd CV (nd KD (lf DA) (lf OV)) (nd LM (lf NW) nl)))) (nd o30 (nd o46 (nd o78 (nd UF (lf L6) (lf N9)) (nd U2 (lf M9) nl)) (nd T5 (nd UR (lf MQ) (lf W9)) (nd LH (lf NQ) nl))) (nd o62 (nd o94 (nd JT (lf (MG P)) (lf OI)) (nd U7 (lf NI) nl)) (nd (I9 P) (nd KI (lf M0) (lf O0)) (nd LR (lf WU) nl))))))))
def st4(w:World)(os:OsState):SharedT:=⟨tr4 w.params,462,{},#[],{},996,os⟩
noncomputable def O4:Pos:=⟨278,0,278,5⟩
def aEu(P:Params):=oD [en P "__name__" 165 (vS "law_nu0283_01" 1372),en P "__doc__" 166 .none,en P "__package__" 167 .none,en P "__loader__" 168 (vB "__main__.__loader__#opaque"),en P "__spec__" 169 .none,en P "__annotations__" 170 (vR 6),en P "__builtins__" 171 (vR 4),en P "__file__" 173 (vS "/claim/cut.py" 172),en P "__cached__" 174 .none,en P "_wall" 193 (vR 21),en P "GemError" 223 (vR 39),en P "StepsOver" 248 (vR 59),en P "Raised" 273 (vR 78),en P "SIMPLE_ESCAPES" 309 (vR 81),en P "OPERATORS" 337 (vR 82),en P "DEEPEST_KEY" 339 (vI 12 338),en P "Thing" 374 (vR 99),en P "Text" 402 (vR 121),en P "ListThing" 429 (vR 141),en P "TableThing" 481 (vR 179),en P "RangeThing" 512 (vR 199),en P "ProcThing" 555 (vR 220),en P "ErrorThing" 583 (vR 240),en P "FiberThing" 613 (vR 260),en P "ModuleThing" 660 (vR 287),en P "is_int" 667 (vR 296),en P "truth" 674 (vR 303),en P "sort_of" 681 (vR 310),en P "same" 690 (vR 317),en P "code_of" 696 (vR 323),en P "is_word" 704 (vR 330),en P "is_label" 711 (vR 337),en P "is_plain_symbol" 718 (vR 344),en P "full_name" 725 (vR 351),en P "show_letter" 735 (vR 358),en P "show_text" 741 (vR 363),en P "show_symbol" 748 (vR 370),en P "show_pair" 757 (vR 377),en P "show_range" 767 (vR 384),en P "show_thing" 773 (vR 389),en P "show_error" 784 (vR 396),en P "show" 794 (vR 404),en P "has_thing" 805 (vR 411),en P "own_line" 814 (vR 418),en P "ahead_count" 820 (vR 423),en P "made_line" 826 (vR 428),en P "line_of" 834 (vR 435),en P "raise_version" 841 (vR 442),en P "own_module" 850 (vR 449),en P "MODULES" 856 (vR 450),en P "BUILTINS" 973 (vR 451),en P "MIXED" 995 (vR 454),en P "UNMADE" 1002 (vR 462),en P "World" 1363 (vR 715),en P "is_around" 1371 (vR 726),en P "_law_roots" 1379 (vR 733),en P "_law_take" 1387 (vR 740),en P "_law_word" 1395 (vR 747),en P "_law_kind" 1402 (vR 754),en P "_law_things_right" 1408 (vR 759),en P "_law_spread_right" 1414 (vR 764),en P "_law_keys_right" 1420 (vR 769),en P "_law_frozen_right" 1434 (vR 776),en P "_law_words_right" 1440 (vR 781),en P "_law_steps_right" 1452 (vR 788),en P "_law_built_right" 1458 (vR 793),en P "law" 1464 (vR 798)] 67
def aEv:=oN [vI 1 0,vI 0 0,vR 20,vI 5 0,vI 0 0,vR 27,vI 10 0,vI 0 0,vR 48,vI 15 0,vI 0 0,vR 67,vI 24 0,vI 0 0,vR 88,vI 33 0,vI 0 0,vR 109,vI 38 0,vI 0 0,vR 129,vI 43 0,vI 0 0,vR 149,vI 63 0,vI 0 0,vR 187,vI 70 0,vI 0 0,vR 207,vI 83 0,vI 0 0,vR 228,vI 89 0,vI 0 0,vR 248,vI 97 0,vI 0 0,vR 268,vI 115 0,vI 0 0,vR 295,vI 117 0,vI 0 0,vR 302,vI 121 0,vI 0 0,vR 309,vI 129 0,vI 0 0,vR 316,vI 134 0,vI 0 0,vR 322,vI 145 0,vI 0 0,vR 329,vI 152 0,vI 0 0,vR 336,vI 154 0,vI 0 0,vR 343,vI 162 0,vI 0 0,vR 350,vI 170 0,vI 0 0,vR 357,vI 180 0,vI 0 0,vR 362,vI 183 0,vI 0 0,vR 369,vI 185 0,vI 0 0,vR 376,vI 189 0,vI 0 0,vR 383,vI 193 0,vI 0 0,vR 388,vI 214 0,vI 0 0,vR 395,vI 220 0,vI 0 0,vR 403,vI 232 0,vI 0 0,vR 410,vI 237 0,vI 0 0,vR 417,vI 245 0,vI 0 0,vR 422,vI 247 0,vI 0 0,vR 427,vI 254 0,vI 0 0,vR 434,vI 258 0,vI 0 0,vR 441,vI 260 0,vI 0 0,vR 448,vI 280 0,vI 0 0,vR 468,vI 542 0,vI 0 0,vR 725,vI 549 0,vI 0 0,vR 732,vI 551 0,vI 0 0,vR 739,vI 557 0,vI 0 0,vR 746,vI 562 0,vI 0 0,vR 753,vI 580 0,vI 0 0,vR 758,vI 604 0,vI 0 0,vR 763,vI 625 0,vI 0 0,vR 768,vI 638 0,vI 0 0,vR 775,vI 647 0,vI 0 0,vR 780,vI 670 0,vI 0 0,vR 787,vI 680 0,vI 0 0,vR 792,vI 707 0,vI 0 0,vR 797]
def aEw:=oT [vS "NilClass" 996,vS "TrueClass" 997,vS "FalseClass" 998,vS "Integer" 999,vS "Numeric" 1000,vS "Symbol" 1001]
def aEx:=oT []
def aMO:=oF "builtin_function_or_method" [vB "type.__prepare__",vT "type"]
def aEy(P:Params):=oD [en P "__module__" 1010 (vS "gemrows.world" 851),en P "__qualname__" 1012 (vS "World" 1011),en P "__firstlineno__" 1014 (vI 280 1013),en P "__init__" 1027 (vR 477),en P "tick" 1034 (vR 484),en P "write" 1042 (vR 491),en P "number" 1049 (vR 498),en P "next_ident" 1056 (vR 505),en P "ident" 1065 (vR 512),en P "builtin" 1074 (vR 519),en P "make_builtin" 1080 (vR 524),en P "give_own" 1088 (vR 531),en P "new_module" 1103 (vR 539),en P "class_of" 1111 (vR 546),en P "own_of" 1119 (vR 553),en P "own_behind" 1128 (vR 560),en P "root_of" 1136 (vR 567),en P "real_class" 1144 (vR 574),en P "text" 1152 (vR 581),en P "list_of" 1160 (vR 588),en P "table_of" 1171 (vR 595),en P "key_of" 1180 (vR 602),en P "range_of" 1192 (vR 609),en P "proc" 1209 (vR 616),en P "thing" 1219 (vR 623),en P "is_error_class" 1227 (vR 630),en P "spread" 1233 (vR 635),en P "error" 1242 (vR 642),en P "fail" 1251 (vR 649),en P "need_thawed" 1260 (vR 656),en P "set_field" 1270 (vR 663),en P "describe" 1278 (vR 670),en P "own_constant" 1287 (vR 677),en P "find_constant" 1300 (vR 684),en P "constant" 1311 (vR 691),en P "find_in" 1320 (vR 698),en P "constant_in" 1329 (vR 705),en P "set_constant" 1340 (vR 712),en P "__static_attributes__" 1356 (vR 713)] 39
def aEz:=oT []
def aMP:=oN [vI 282 0,vI 4 0,vR 476,vI 302 0,vI 4 0,vR 483,vI 307 0,vI 4 0,vR 490,vI 310 0,vI 4 0,vR 497,vI 314 0,vI 4 0,vR 504,vI 318 0,vI 4 0,vR 511,vI 334 0,vI 4 0,vR 518,vI 338 0,vI 4 0,vR 523,vI 351 0,vI 4 0,vR 530,vI 355 0,vI 4 0,vR 538,vI 364 0,vI 4 0,vR 545,vI 373 0,vI 4 0,vR 552,vI 380 0,vI 4 0,vR 559,vI 388 0,vI 4 0,vR 566,vI 393 0,vI 4 0,vR 573,vI 398 0,vI 4 0,vR 580,vI 401 0,vI 4 0,vR 587,vI 404 0,vI 4 0,vR 594,vI 410 0,vI 4 0,vR 601,vI 417 0,vI 4 0,vR 608,vI 426 0,vI 4 0,vR 615,vI 430 0,vI 4 0,vR 622,vI 456 0,vI 4 0,vR 629,vI 463 0,vI 4 0,vR 634,vI 474 0,vI 4 0,vR 641,vI 477 0,vI 4 0,vR 648,vI 480 0,vI 4 0,vR 655,vI 485 0,vI 4 0,vR 662,vI 489 0,vI 4 0,vR 669,vI 500 0,vI 4 0,vR 676,vI 507 0,vI 4 0,vR 683,vI 520 0,vI 4 0,vR 690,vI 526 0,vI 4 0,vR 697,vI 529 0,vI 4 0,vR 704,vI 532 0,vI 4 0,vR 711]
def aEA:=cq "World" 1005 "World" 280 0 0 0 0 466 false 467 .none .none .none 1008
def aMQ:=fr [some (vR 468),some (vR 3),some (vR 465),none,some (vS "gemrows.world" 851),none,some (vR 0)]
def aEB:=oT [.none,.none,vI 20000 1015]
def aEC:=oT []
def aMR:=oN []
def aED:=oT [vS "self" 1019,vS "natives" 1020,vS "prelude" 1021,vS "read" 1022,vS "most" 1023,vS "name" 1024]
def aEE:=oT []
def aMS:=f0 (mD 48 0) "__init__" "World.__init__"
def aEF:=cq "__init__" 1016 "World.__init__" 282 5 0 0 3 471 true 472 (vR 473) (vR 474) (vR 475) 1025
def XR:=fu (mD 48 0) "__init__" "World.__init__" 3 (vR 470) .none (vS "gemrows.world" 851) (vR 476) .none
def aEG:=oT []
def aMT:=oN []
def aEH:=oT [vS "self" 1031]
def aEI:=oT []
def aMU:=f0 (mD 48 1) "tick" "World.tick"
def aEJ:=cq "tick" 1028 "World.tick" 302 1 0 0 3 478 true 479 (vR 480) (vR 481) (vR 482) 1032
def XS:=fu (mD 48 1) "tick" "World.tick" 3 .none .none (vS "gemrows.world" 851) (vR 483) .none
def aEK:=oT []
def aMV:=oN []
def aEL:=oT [vS "self" 1038,vS "text" 1039]
def aEM:=oT []
def aMW:=f0 (mD 48 2) "write" "World.write"
def aEN:=cq "write" 1035 "World.write" 307 2 0 0 3 485 true 486 (vR 487) (vR 488) (vR 489) 1040
def XT:=fu (mD 48 2) "write" "World.write" 3 .none .none (vS "gemrows.world" 851) (vR 490) .none
def aEO:=oT []
def aMX:=oN []
def aEP:=oT [vS "self" 1046]
def aEQ:=oT []
def aMY:=f0 (mD 48 3) "number" "World.number"
def aER:=cq "number" 1043 "World.number" 310 1 0 0 3 492 true 493 (vR 494) (vR 495) (vR 496) 1047
def XU:=fu (mD 48 3) "number" "World.number" 3 .none .none (vS "gemrows.world" 851) (vR 497) .none
def aES:=oT []
def aMZ:=oN []
def aET:=oT [vS "self" 1053]
def aEU:=oT []
def aNa:=f0 (mD 48 4) "next_ident" "World.next_ident"
def aEV:=cq "next_ident" 1050 "World.next_ident" 314 1 0 0 3 499 true 500 (vR 501) (vR 502) (vR 503) 1054
def XV:=fu (mD 48 4) "next_ident" "World.next_ident" 3 .none .none (vS "gemrows.world" 851) (vR 504) .none
def aEW:=oT []
def aNb:=oN []
def aEX:=oT [vS "self" 1060,vS "value" 1061,vS "sort" 1062]
def aEY:=oT []
def aNc:=f0 (mD 48 5) "ident" "World.ident"
def aEZ:=cq "ident" 1057 "World.ident" 318 2 0 0 3 506 true 507 (vR 508) (vR 509) (vR 510) 1063
def XW:=fu (mD 48 5) "ident" "World.ident" 3 .none .none (vS "gemrows.world" 851) (vR 511) .none
def aFa:=oT []
def aNd:=oN []
def aFb:=oT [vS "self" 1069,vS "name" 1070,vS "found" 1071]
def aFc:=oT []
def aNe:=f0 (mD 48 6) "builtin" "World.builtin"
def aFd:=cq "builtin" 1066 "World.builtin" 334 2 0 0 3 513 true 514 (vR 515) (vR 516) (vR 517) 1072
def XX:=fu (mD 48 6) "builtin" "World.builtin" 3 .none .none (vS "gemrows.world" 851) (vR 518) .none
def aFe:=oT []
def aNf:=oN []
def aNg:=f0 (mD 48 7) "make_builtin" "World.make_builtin"
def aFf:=cq "make_builtin" 1075 "World.make_builtin" 338 2 0 0 3 520 true 521 .none .none (vR 522) 1078
def XY:=fu (mD 48 7) "make_builtin" "World.make_builtin" 3 .none .none (vS "gemrows.world" 851) (vR 523) .none
def aFg:=oT []
def aNh:=oN []
def aFh:=oT [vS "self" 1084,vS "name" 1085]
def aFi:=oT []
def aNi:=f0 (mD 48 8) "give_own" "World.give_own"
def aFj:=cq "give_own" 1081 "World.give_own" 351 2 0 0 3 525 true 526 (vR 527) (vR 528) (vR 529) 1086
def XZ:=fu (mD 48 8) "give_own" "World.give_own" 3 .none .none (vS "gemrows.world" 851) (vR 530) .none
def aFk:=oT [.none,.none,.none]
def aFl:=oT []
def aNj:=oN []
def aFm:=oT [vS "self" 1092,vS "name" 1093,vS "is_class" 1094,vS "parent" 1095,vS "outer" 1096,vS "attached" 1097,vS "owner" 1098,vS "stands" 1099,vS "found" 1100]
def aFn:=oT []
def aNk:=f0 (mD 48 9) "new_module" "World.new_module"
def aFo:=cq "new_module" 1089 "World.new_module" 355 6 0 0 3 533 true 534 (vR 535) (vR 536) (vR 537) 1101
def X0:=fu (mD 48 9) "new_module" "World.new_module" 3 (vR 532) .none (vS "gemrows.world" 851) (vR 538) .none
def aFp:=oT []
def aNl:=oN []
def aFq:=oT [vS "self" 1107,vS "value" 1108]
def aFr:=oT []
def aNm:=f0 (mD 48 10) "class_of" "World.class_of"
def aFs:=cq "class_of" 1104 "World.class_of" 364 2 0 0 3 540 true 541 (vR 542) (vR 543) (vR 544) 1109
def X1:=fu (mD 48 10) "class_of" "World.class_of" 3 .none .none (vS "gemrows.world" 851) (vR 545) .none
def aFt:=oT []
def aNn:=oN []
def aFu:=oT [vS "self" 1115,vS "value" 1116]
def aFv:=oT []
def aNo:=f0 (mD 48 11) "own_of" "World.own_of"
def aFw:=cq "own_of" 1112 "World.own_of" 373 2 0 0 3 547 true 548 (vR 549) (vR 550) (vR 551) 1117
def X2:=fu (mD 48 11) "own_of" "World.own_of" 3 .none .none (vS "gemrows.world" 851) (vR 552) .none
def aFx:=oT []
def aNp:=oN []
def aFy:=oT [vS "self" 1123,vS "module" 1124,vS "behind" 1125]
def aFz:=oT []
def aNq:=f0 (mD 48 12) "own_behind" "World.own_behind"
def aFA:=cq "own_behind" 1120 "World.own_behind" 380 2 0 0 3 554 true 555 (vR 556) (vR 557) (vR 558) 1126
def X3:=fu (mD 48 12) "own_behind" "World.own_behind" 3 .none .none (vS "gemrows.world" 851) (vR 559) .none
def aFB:=oT []
def aNr:=oN []
def aFC:=oT [vS "self" 1132,vS "module" 1133]
def aFD:=oT []
def aNs:=f0 (mD 48 13) "root_of" "World.root_of"
def aFE:=cq "root_of" 1129 "World.root_of" 388 2 0 0 3 561 true 562 (vR 563) (vR 564) (vR 565) 1134
def X4:=fu (mD 48 13) "root_of" "World.root_of" 3 .none .none (vS "gemrows.world" 851) (vR 566) .none
def aFF:=oT []
def aNt:=oN []
def aFG:=oT [vS "self" 1140,vS "module" 1141]
def aFH:=oT []
def aNu:=f0 (mD 48 14) "real_class" "World.real_class"
def aFI:=cq "real_class" 1137 "World.real_class" 393 2 0 0 3 568 true 569 (vR 570) (vR 571) (vR 572) 1142
def X5:=fu (mD 48 14) "real_class" "World.real_class" 3 .none .none (vS "gemrows.world" 851) (vR 573) .none
def aFJ:=oT []
def aNv:=oN []
def aFK:=oT [vS "self" 1148,vS "text" 1149]
def aFL:=oT []
def aNw:=f0 (mD 48 15) "text" "World.text"
def aFM:=cq "text" 1145 "World.text" 398 2 0 0 3 575 true 576 (vR 577) (vR 578) (vR 579) 1150
def X6:=fu (mD 48 15) "text" "World.text" 3 .none .none (vS "gemrows.world" 851) (vR 580) .none
def aFN:=oT []
def aNx:=oN []
def aFO:=oT [vS "self" 1156,vS "items" 1157]
def aFP:=oT []
def aNy:=f0 (mD 48 16) "list_of" "World.list_of"
def aFQ:=cq "list_of" 1153 "World.list_of" 401 2 0 0 3 582 true 583 (vR 584) (vR 585) (vR 586) 1158
def X7:=fu (mD 48 16) "list_of" "World.list_of" 3 .none .none (vS "gemrows.world" 851) (vR 587) .none
def aFR:=oT []
def aNz:=oN []
def aFS:=oT [vS "self" 1164,vS "pairs" 1165,vS "found" 1166,vS "key" 1167,vS "value" 1168]
def aFT:=oT []
def aNA:=f0 (mD 48 17) "table_of" "World.table_of"
def aFU:=cq "table_of" 1161 "World.table_of" 404 2 0 0 3 589 true 590 (vR 591) (vR 592) (vR 593) 1169
def X8:=fu (mD 48 17) "table_of" "World.table_of" 3 .none .none (vS "gemrows.world" 851) (vR 594) .none
def aFV:=oT []
def aNB:=oN []
def aFW:=oT [vS "self" 1175,vS "key" 1176,vS "found" 1177]
def aFX:=oT []
def aNC:=f0 (mD 48 18) "key_of" "World.key_of"
def aFY:=cq "key_of" 1172 "World.key_of" 410 2 0 0 3 596 true 597 (vR 598) (vR 599) (vR 600) 1178
def X9:=fu (mD 48 18) "key_of" "World.key_of" 3 .none .none (vS "gemrows.world" 851) (vR 601) .none
def aFZ:=oT []
def aND:=oN []
def aGa:=oT [vS "self" 1184,vS "first" 1185,vS "last" 1186,vS "is_open" 1187,vS "is_odd" 1188,vS "found" 1189]
def aGb:=oT []
def aNE:=f0 (mD 48 19) "range_of" "World.range_of"
def aGc:=cq "range_of" 1181 "World.range_of" 417 4 0 0 3 603 true 604 (vR 605) (vR 606) (vR 607) 1190
def YA:=fu (mD 48 19) "range_of" "World.range_of" 3 .none .none (vS "gemrows.world" 851) (vR 608) .none
def aGd:=oT []
def aNF:=oN []
def aGe:=oT [vS "self" 1196,vS "params" 1197,vS "body" 1198,vS "env" 1199,vS "self_value" 1200,vS "nesting" 1201,vS "home" 1202,vS "site" 1203,vS "is_lambda" 1204,vS "definer" 1205,vS "owner" 1206]
def aGf:=oT []
def aNG:=f0 (mD 48 20) "proc" "World.proc"
def aGg:=cq "proc" 1193 "World.proc" 426 10 0 0 3 610 true 611 (vR 612) (vR 613) (vR 614) 1207
def YB:=fu (mD 48 20) "proc" "World.proc" 3 .none .none (vS "gemrows.world" 851) (vR 615) .none
def aGh:=oT []
def aNH:=oN []
def aGi:=oT [vS "self" 1213,vS "module" 1214,vS "root" 1215,vS "number" 1216]
def aGj:=oT []
def aNI:=f0 (mD 48 21) "thing" "World.thing"
def aGk:=cq "thing" 1210 "World.thing" 430 2 0 0 3 617 true 618 (vR 619) (vR 620) (vR 621) 1217
def YC:=fu (mD 48 21) "thing" "World.thing" 3 .none .none (vS "gemrows.world" 851) (vR 622) .none
def aGl:=oT []
def aNJ:=oN []
def aGm:=oT [vS "self" 1223,vS "module" 1224]
def aGn:=oT []
def aNK:=f0 (mD 48 22) "is_error_class" "World.is_error_class"
def aGo:=cq "is_error_class" 1220 "World.is_error_class" 456 2 0 0 3 624 true 625 (vR 626) (vR 627) (vR 628) 1225
def YD:=fu (mD 48 22) "is_error_class" "World.is_error_class" 3 .none .none (vS "gemrows.world" 851) (vR 629) .none
def aGp:=oT []
def aNL:=oN []
def aNM:=f0 (mD 48 23) "spread" "World.spread"
def aGq:=cq "spread" 1228 "World.spread" 463 2 0 0 3 631 true 632 .none .none (vR 633) 1231
def YE:=fu (mD 48 23) "spread" "World.spread" 3 .none .none (vS "gemrows.world" 851) (vR 634) .none
def aGr:=oT []
def aNN:=oN []
def aGs:=oT [vS "self" 1237,vS "name" 1238,vS "message" 1239]
def aGt:=oT []
def aNO:=f0 (mD 48 24) "error" "World.error"
def aGu:=cq "error" 1234 "World.error" 474 3 0 0 3 636 true 637 (vR 638) (vR 639) (vR 640) 1240
def YF:=fu (mD 48 24) "error" "World.error" 3 .none .none (vS "gemrows.world" 851) (vR 641) .none
def aGv:=oT []
def aNP:=oN []
def aGw:=oT [vS "self" 1246,vS "name" 1247,vS "message" 1248]
def aGx:=oT []
def aNQ:=f0 (mD 48 25) "fail" "World.fail"
def aGy:=cq "fail" 1243 "World.fail" 477 3 0 0 3 643 true 644 (vR 645) (vR 646) (vR 647) 1249
def YG:=fu (mD 48 25) "fail" "World.fail" 3 .none .none (vS "gemrows.world" 851) (vR 648) .none
def aGz:=oT []
def aNR:=oN []
def aGA:=oT [vS "self" 1255,vS "value" 1256,vS "name" 1257]
def aGB:=oT []
def aNS:=f0 (mD 48 26) "need_thawed" "World.need_thawed"
def aGC:=cq "need_thawed" 1252 "World.need_thawed" 480 2 0 0 3 650 true 651 (vR 652) (vR 653) (vR 654) 1258
def YH:=fu (mD 48 26) "need_thawed" "World.need_thawed" 3 .none .none (vS "gemrows.world" 851) (vR 655) .none
def aGD:=oT []
def aNT:=oN []
def aGE:=oT [vS "self" 1264,vS "value" 1265,vS "name" 1266,vS "item" 1267]
def aGF:=oT []
def aNU:=f0 (mD 48 27) "set_field" "World.set_field"
def aGG:=cq "set_field" 1261 "World.set_field" 485 4 0 0 3 657 true 658 (vR 659) (vR 660) (vR 661) 1268
def YI:=fu (mD 48 27) "set_field" "World.set_field" 3 .none .none (vS "gemrows.world" 851) (vR 662) .none
def aGH:=oT []
def aNV:=oN []
def aGI:=oT [vS "self" 1274,vS "value" 1275]
def aGJ:=oT []
def aNW:=f0 (mD 48 28) "describe" "World.describe"
def aGK:=cq "describe" 1271 "World.describe" 489 2 0 0 3 664 true 665 (vR 666) (vR 667) (vR 668) 1276
def YJ:=fu (mD 48 28) "describe" "World.describe" 3 .none .none (vS "gemrows.world" 851) (vR 669) .none
def aGL:=oT []
def aNX:=oN []
def aGM:=oT [vS "self" 1282,vS "module" 1283,vS "name" 1284]
def aGN:=oT []
def aNY:=f0 (mD 48 29) "own_constant" "World.own_constant"
def aGO:=cq "own_constant" 1279 "World.own_constant" 500 3 0 0 3 671 true 672 (vR 673) (vR 674) (vR 675) 1285
def YK:=fu (mD 48 29) "own_constant" "World.own_constant" 3 .none .none (vS "gemrows.world" 851) (vR 676) .none
def aGP:=oT []
def aNZ:=oN []
def aGQ:=oT [vS "self" 1291,vS "nesting" 1292,vS "name" 1293,vS "top" 1294,vS "module" 1295,vS "found" 1296,vS "line" 1297]
def aGR:=oT []
def aOa:=f0 (mD 48 30) "find_constant" "World.find_constant"
def aGS:=cq "find_constant" 1288 "World.find_constant" 507 3 0 0 3 678 true 679 (vR 680) (vR 681) (vR 682) 1298
def YL:=fu (mD 48 30) "find_constant" "World.find_constant" 3 .none .none (vS "gemrows.world" 851) (vR 683) .none
def aGT:=oT []
def aOb:=oN []
def aGU:=oT [vS "self" 1304,vS "nesting" 1305,vS "name" 1306,vS "is_there" 1307,vS "value" 1308]
def aGV:=oT []
def aOc:=f0 (mD 48 31) "constant" "World.constant"
def aGW:=cq "constant" 1301 "World.constant" 520 3 0 0 3 685 true 686 (vR 687) (vR 688) (vR 689) 1309
def YM:=fu (mD 48 31) "constant" "World.constant" 3 .none .none (vS "gemrows.world" 851) (vR 690) .none
def aGX:=oT []
def aOd:=oN []
def aGY:=oT [vS "self" 1315,vS "module" 1316,vS "name" 1317]
def aGZ:=oT []
def aOe:=f0 (mD 48 32) "find_in" "World.find_in"
def aHa:=cq "find_in" 1312 "World.find_in" 526 3 0 0 3 692 true 693 (vR 694) (vR 695) (vR 696) 1318
def YN:=fu (mD 48 32) "find_in" "World.find_in" 3 .none .none (vS "gemrows.world" 851) (vR 697) .none
def aHb:=oT []
def aOf:=oN []
def aHc:=oT [vS "self" 1324,vS "module" 1325,vS "name" 1326]
def aHd:=oT []
def aOg:=f0 (mD 48 33) "constant_in" "World.constant_in"
def aHe:=cq "constant_in" 1321 "World.constant_in" 529 3 0 0 3 699 true 700 (vR 701) (vR 702) (vR 703) 1327
def YO:=fu (mD 48 33) "constant_in" "World.constant_in" 3 .none .none (vS "gemrows.world" 851) (vR 704) .none
def aHf:=oT []
def aOh:=oN []
def aHg:=oT [vS "self" 1333,vS "module" 1334,vS "name" 1335,vS "value" 1336,vS "is_bare" 1337]
def aHh:=oT []
def aOi:=f0 (mD 48 34) "set_constant" "World.set_constant"
def aHi:=cq "set_constant" 1330 "World.set_constant" 532 4 0 0 3 706 true 707 (vR 708) (vR 709) (vR 710) 1338
def YQ:=fu (mD 48 34) "set_constant" "World.set_constant" 3 .none .none (vS "gemrows.world" 851) (vR 711) .none
def aHj:=oT [vS "const_version" 1341,vS "globals" 1342,vS "is_ready" 1343,vS "last_ident" 1344,vS "last_number" 1345,vS "made" 1346,vS "main" 1347,vS "most" 1348,vS "natives" 1349,vS "out" 1350,vS "prelude" 1351,vS "read" 1352,vS "symbol_idents" 1353,vS "taken" 1354,vS "version" 1355]
def aHk(P:Params):=oD [en P "__module__" 1010 (vS "gemrows.world" 851),en P "__firstlineno__" 1014 (vI 280 1013),en P "__init__" 1027 (vR 477),en P "tick" 1034 (vR 484),en P "write" 1042 (vR 491),en P "number" 1049 (vR 498),en P "next_ident" 1056 (vR 505),en P "ident" 1065 (vR 512),en P "builtin" 1074 (vR 519),en P "make_builtin" 1080 (vR 524),en P "give_own" 1088 (vR 531),en P "new_module" 1103 (vR 539),en P "class_of" 1111 (vR 546),en P "own_of" 1119 (vR 553),en P "own_behind" 1128 (vR 560),en P "root_of" 1136 (vR 567),en P "real_class" 1144 (vR 574),en P "text" 1152 (vR 581),en P "list_of" 1160 (vR 588),en P "table_of" 1171 (vR 595),en P "key_of" 1180 (vR 602),en P "range_of" 1192 (vR 609),en P "proc" 1209 (vR 616),en P "thing" 1219 (vR 623),en P "is_error_class" 1227 (vR 630),en P "spread" 1233 (vR 635),en P "error" 1242 (vR 642),en P "fail" 1251 (vR 649),en P "need_thawed" 1260 (vR 656),en P "set_field" 1270 (vR 663),en P "describe" 1278 (vR 670),en P "own_constant" 1287 (vR 677),en P "find_constant" 1300 (vR 684),en P "constant" 1311 (vR 691),en P "find_in" 1320 (vR 698),en P "constant_in" 1329 (vR 705),en P "set_constant" 1340 (vR 712),en P "__static_attributes__" 1356 (vR 713),en P "__dict__" 1358 (vR 716),en P "__weakref__" 1360 (vR 717),en P "__doc__" 1361 .none] 4
def aHl:Obj:=⟨(vT "type"),none,.cls {name:=(Str.ofString "World"),bases:=[vT "object"],mro:=[vR 715,vT "object"],ns:=714,qualname:=(Str.ofString "World"),hasDict:=true,slotNames:=[],subclasses:=[],abstract:=false,collection:=none,hasDel:=false},([none,none,some (vS "World" 1003),some (vS "World" 1011),some (vB "object.__new__"),some (.bool true)]:List (Option Value)).toArray⟩
def aHm:=oF "getset_descriptor" [vS "__dict__" 1357,vR 715,vB "function.__dict__",vB "function.__dict__#set"]
def aHn:=oF "getset_descriptor" [vS "__weakref__" 1359,vR 715,vB "ExceptionGroup.__weakref__",.none]
def aOj:=oF "super" [vR 715,vR 715,vR 715]
def aOk:=oF "builtin_function_or_method" [vB "object.__init_subclass__",vR 715]
def aHo:=oT []
def aOl:=oN []
def aHp:=oT [vS "module" 1367,vS "inner" 1368]
def aHq:=oT []
def aOm:=f0 (tD 49) "is_around" "is_around"
def aHr:=cq "is_around" 1364 "is_around" 542 2 0 0 3 720 true 721 (vR 722) (vR 723) (vR 724) 1369
def YR:=fu (tD 49) "is_around" "is_around" 3 .none .none (vS "gemrows.world" 851) (vR 725) .none
def aHs:=oT []
def aOn:=oN []
def aHt:=oT []
def aHu:=oT []
def aOo:=f0 (tD 51) "_law_roots" "_law_roots"
def aHv:=cq "_law_roots" 1374 "_law_roots" 549 0 0 0 3 727 true 728 (vR 729) (vR 730) (vR 731) 1377
def YS:=fu (tD 51) "_law_roots" "_law_roots" 3 .none .none (vS "law_nu0283_01" 1372) (vR 732) .none
def aHw:=oT []
def aOp:=oN []
def aHx:=oT [vS "box" 1383,vS "many" 1384]
def aHy:=oT []
def aOq:=f0 (tD 52) "_law_take" "_law_take"
def aHz:=cq "_law_take" 1380 "_law_take" 551 2 0 0 3 734 true 735 (vR 736) (vR 737) (vR 738) 1385
def YT:=fu (tD 52) "_law_take" "_law_take" 3 .none .none (vS "law_nu0283_01" 1372) (vR 739) .none
def aHA:=oT []
def aOr:=oN []
def aHB:=oT [vS "doing" 1391,vS "error" 1392]
def aHC:=oT []
def aOs:=f0 (tD 53) "_law_word" "_law_word"
def aHD:=cq "_law_word" 1388 "_law_word" 557 1 0 0 3 741 true 742 (vR 743) (vR 744) (vR 745) 1393
def YU:=fu (tD 53) "_law_word" "_law_word" 3 .none .none (vS "law_nu0283_01" 1372) (vR 746) .none
def aHE:=oT []
def aOt:=oN []
def aHF:=oT [vS "thing" 1399]
def aHG:=oT []
def aOu:=f0 (tD 54) "_law_kind" "_law_kind"
def aHH:=cq "_law_kind" 1396 "_law_kind" 562 1 0 0 3 748 true 749 (vR 750) (vR 751) (vR 752) 1400
def YV:=fu (tD 54) "_law_kind" "_law_kind" 3 .none .none (vS "law_nu0283_01" 1372) (vR 753) .none
def aHI:=oT []
def aOv:=oN []
def aOw:=f0 (tD 55) "_law_things_right" "_law_things_right"
def aHJ:=cq "_law_things_right" 1403 "_law_things_right" 580 2 0 0 3 755 true 756 .none .none (vR 757) 1406
def YW:=fu (tD 55) "_law_things_right" "_law_things_right" 3 .none .none (vS "law_nu0283_01" 1372) (vR 758) .none
def aHK:=oT []
def aOx:=oN []
def aOy:=f0 (tD 56) "_law_spread_right" "_law_spread_right"
def aHL:=cq "_law_spread_right" 1409 "_law_spread_right" 604 2 0 0 3 760 true 761 .none .none (vR 762) 1412
def YX:=fu (tD 56) "_law_spread_right" "_law_spread_right" 3 .none .none (vS "law_nu0283_01" 1372) (vR 763) .none
def aHM:=oT []
def aOz:=oN []
def aOA:=f0 (tD 57) "_law_keys_right" "_law_keys_right"
def aHN:=cq "_law_keys_right" 1415 "_law_keys_right" 625 2 0 0 3 765 true 766 .none .none (vR 767) 1418
def YY:=fu (tD 57) "_law_keys_right" "_law_keys_right" 3 .none .none (vS "law_nu0283_01" 1372) (vR 768) .none
def aHO:=oT []
def aOB:=oN []
def aHP:=oT [vS "box" 1424,vS "world" 1425,vS "fresh_class" 1426,vS "thing" 1427,vS "said" 1428,vS "found" 1429]
def aHQ:=oT [vS "world" 1430,vS "some" 1431]
def aOC:=f0 (tD 58) "_law_frozen_right" "_law_frozen_right"
def aHR:=cq "_law_frozen_right" 1421 "_law_frozen_right" 638 2 0 0 3 770 true 771 (vR 772) (vR 773) (vR 774) 1432
def YZ:=fu (tD 58) "_law_frozen_right" "_law_frozen_right" 3 .none .none (vS "law_nu0283_01" 1372) (vR 775) .none
def aHS:=oT []
def aOD:=oN []
def aOE:=f0 (tD 59) "_law_words_right" "_law_words_right"
def aHT:=cq "_law_words_right" 1435 "_law_words_right" 647 2 0 0 3 777 true 778 .none .none (vR 779) 1438
def Y0:=fu (tD 59) "_law_words_right" "_law_words_right" 3 .none .none (vS "law_nu0283_01" 1372) (vR 780) .none
def aHU:=oT []
def aOF:=oN []
def aHV:=oT [vS "box" 1444,vS "most" 1445,vS "laps" 1446,vS "world" 1447,vS "k" 1448,vS "error" 1449]
def aHW:=oT []
def aOG:=f0 (tD 60) "_law_steps_right" "_law_steps_right"
def aHX:=cq "_law_steps_right" 1441 "_law_steps_right" 670 1 0 0 3 782 true 783 (vR 784) (vR 785) (vR 786) 1450
def Y1:=fu (tD 60) "_law_steps_right" "_law_steps_right" 3 .none .none (vS "law_nu0283_01" 1372) (vR 787) .none
def aHY:=oT []
def aOH:=oN []
def aOI:=f0 (tD 61) "_law_built_right" "_law_built_right"
def aHZ:=cq "_law_built_right" 1453 "_law_built_right" 680 2 0 0 3 789 true 790 .none .none (vR 791) 1456
def Y2:=fu (tD 61) "_law_built_right" "_law_built_right" 3 .none .none (vS "law_nu0283_01" 1372) (vR 792) .none
def aIa:=oT []
def aOJ:=oN []
def aOK:=f0 (tD 62) "law" "law"
def aIb:=cq "law" 1459 "law" 707 1 0 0 3 794 true 795 .none .none (vR 796) 1462
def Y3:=fu (tD 62) "law" "law" 3 .none .none (vS "law_nu0283_01" 1372) (vR 797) .none
def tr5(P:Params):BT:=(nd (boot_o_0 P) (nd (boot_o_1 P) (nd (aEu P) (nd (boot_o_7 P) (nd o15 (nd o31 (nd o63 (nd JA (nd VJ (lf aEZ) (lf aOA)) (nd N1 (lf aGt) nl)) (nd UX (nd M1 (lf aFJ) nl) (nd XE (lf aOg) nl))) (nd o95 (nd UM (nd MH (lf aFr) nl) (nd OJ (lf aGL) nl)) (nd K7 (nd DG (lf aNE) nl) (nd aMT (lf aOp) nl)))) (nd o47 (nd o79 (nd UG (nd L7 (lf aFh) (lf aOF)) (nd WZ (lf aGC) nl)) (nd KU (nd WG (lf aFS) nl) (nd aEx (lf aOk) nl))) (nd IS (nd J9 (nd C9 (lf aFA) nl) (nd OQ (lf aGU) nl)) (nd (LI P) (nd NR (lf YC) nl) (nd aEQ (lf aHG) nl))))) (nd o23 (nd o39 (nd o71 (nd JG (nd LX (lf XX) (lf aHR)) (nd WX (lf aNQ) nl)) (nd KP (nd M5 (lf aNx) nl) (nd XJ (lf aHi) nl))) (nd T0 (nd JY (nd ML (lf aNo) nl) (nd DR (lf aNZ) nl)) (nd LC (nd NN (lf aGg) nl) (nd aEL (lf aHB) nl)))) (nd o55 (nd o87 (nd JP (nd VS (lf aFm) (lf aOI)) (nd OE (lf YI) nl)) (nd U5 (nd NE (lf aFX) nl) (nd aEC (lf aHs) nl))) (nd IX (nd UU (nd MW (lf X4) nl) (nd OW (lf aGZ) nl)) (nd VG (nd WS (lf aGp) nl) (nd aNa (lf YW) nl)))))) (nd SE (nd o19 (nd o35 (nd o67 (nd JD (nd (LV P) (lf aFb) (lf aOB)) (nd WW (lf aGv) nl)) (nd KM (nd DC (lf aNw) nl) (nd (XF P) (lf aOh) nl))) (nd o99 (nd JW (nd VW (lf aFt) nl) (nd OL (lf aNY) nl)) (nd U9 (nd NL (lf aNF) nl) (nd aEJ (lf aHz) nl)))) (nd o51 (nd o83 (nd JN (nd VQ (lf XZ) (lf aHX)) (nd OC (lf aGE) nl)) (nd KZ (nd WH (lf X8) nl) (nd aMP (lf aHq) nl))) (nd IV (nd KC (nd MU (lf aFC) nl) (nd DT (lf YM) nl)) (nd LK (nd NU (lf aGn) nl) (nd aES (lf aHI) nl))))) (nd o27 (nd o43 (nd TY (nd JI (nd VN (lf aFf) (lf aOE)) (nd N7 (lf aNR) nl)) (nd U1 (nd M7 (lf aFQ) nl) (nd XN (lf aHl) nl))) (nd IQ (nd CZ (nd MO (lf aNp) nl) (nd OO (lf aGS) nl)) (nd VC (nd DI (lf aGi) nl) (nd XT (lf YU) nl)))) (nd o59 (nd o91 (nd UL (nd ME (lf X0) (lf aOJ)) (nd DP (lf aGJ) nl)) (nd (K5 P) (nd NG (lf aFZ) nl) (nd aMS (lf aOo) nl))) (nd T9 (nd KG (nd WA (lf aFH) nl) (nd OY (lf aHb) nl)) (nd LP (nd WT (lf YE) nl) (nd aNb (lf aHL) nl))))))) (nd (boot_o_5 P) (nd (boot_o_9 P) (nd o17 (nd o33 (nd o65 (nd JC (nd C5 (lf aFa) (lf YY)) (nd N2 (lf aGu) nl)) (nd KL (nd WC (lf aFK) nl) (nd DV (lf YO) nl))) (nd o97 (nd JV (nd VV (lf aFs) nl) (nd OK (lf aGM) nl)) (nd (K8 P) (nd WL (lf YA) nl) (nd aEI (lf aHy) nl)))) (nd o49 (nd (o81 P) (nd UH (nd L8 (lf aNi) (lf aHW)) (nd OB (lf aGD) nl)) (nd KW (nd DE (lf aNA) nl) (nd (aEy P) (lf aOl) nl))) (nd T6 (nd KA (nd V7 (lf aFB) nl) (nd XA (lf aOc) nl)) (nd VD (nd NS (lf aNJ) nl) (nd aER (lf aHH) nl))))) (nd o25 (nd o41 (nd o73 (nd JH (nd (LY P) (lf aNf) (lf aHS)) (nd N6 (lf YG) nl)) (nd U0 (nd M6 (lf aFP) nl) (nd XL (lf aHj) nl))) (nd T3 (nd UP (nd MN (lf X2) nl) (nd W7 (lf aGR) nl)) (nd LD (nd WO (lf aGh) nl) (nd aMW (lf aOs) nl)))) (nd o57 (nd o89 (nd JQ (nd MD (lf aNk) (lf Y2)) (nd W2 (lf aNV) nl)) (nd C3 (nd NF (lf aFY) nl) (nd aED (lf aHt) nl))) (nd IZ (nd KF (nd MX (lf aNt) nl) (nd OX (lf aHa) nl)) (nd VH (nd DK (lf aNM) nl) (nd XV (lf aOx) nl)))))) (nd SG (nd TV (nd o37 (nd o69 (nd UD (nd VK (lf aNe) (lf aHQ)) (nd DM (lf aGw) nl)) (nd KN (nd WD (lf X6) nl) (nd (XH P) (lf aHh) nl))) (nd IN (nd JX (nd MK (lf aFu) nl) (nd W6 (lf YK) nl)) (nd VA (nd NM (lf aGf) nl) (nd aEK (lf aHA) nl)))) (nd o53 (nd (o85 P) (nd JO (nd C6 (lf aFl) (lf aHY)) (nd OD (lf aNU) nl)) (nd K0 (nd ND (lf aNB) nl) (nd aMQ (lf aHr) nl))) (nd IW (nd UT (nd MV (lf aNs) nl) (nd XB (lf aOd) nl)) (nd (LL P) (nd NV (lf aGo) nl) (nd aET (lf aOw) nl))))) (nd o29 (nd (o45 P) (nd (o77 P) (nd JK (nd VO (lf aFg) (lf Y0)) (nd N8 (lf aGB) nl)) (nd KT (nd M8 (lf aFR) nl) (nd XQ (lf aHn) nl))) (nd IR (nd UQ (nd VZ (lf aFz) nl) (nd OP (lf aGT) nl)) (nd C4 (nd WP (lf aNI) nl) (nd aMX (lf aOt) nl)))) (nd o61 (nd o93 (nd CX (nd MF (lf aNl) (lf aIb)) (nd W3 (lf aGK) nl)) (nd U6 (nd WK (lf aGa) nl) (nd XR (lf YS) nl))) (nd UA (nd KH (nd DB (lf aFI) nl) (nd OZ (lf aHc) nl)) (nd LQ (nd N0 (lf aNN) nl) (nd aEY (lf aHM) nl)))))))) (nd (boot_o_2 P) (nd (boot_o_4 P) (nd (boot_o_8 P) (nd o16 (nd o32 (nd (o64 P) (nd UB (nd LS (lf XW) (lf aHN)) (nd DL (lf aNO) nl)) (nd KJ (nd WB (lf aNv) nl) (nd O1 (lf aHe) nl))) (nd o96 (nd JU (nd VU (lf aNm) nl) (nd W4 (lf aNX) nl)) (nd U8 (nd NJ (lf aGc) nl) (nd aEH (lf aHx) nl)))) (nd o48 (nd o80 (nd JL (nd VP (lf aFi) (lf aHV)) (nd OA (lf YH) nl)) (nd U3 (nd NA (lf aFT) nl) (nd aMO (lf aHo) nl))) (nd IT (nd C1 (nd MS (lf X3) nl) (nd OS (lf aGV) nl)) (nd LJ (nd WQ (lf aGl) nl) (nd aMY (lf aOu) nl))))) (nd (o24 P) (nd o40 (nd o72 (nd UE (nd VM (lf aFe) (lf YZ)) (nd N5 (lf aGy) nl)) (nd UZ (nd WE (lf aFO) nl) (nd XK (lf YQ) nl))) (nd IO (nd JZ (nd C8 (lf aFw) nl) (nd ON (lf aGQ) nl)) (nd VB (nd WN (lf YB) nl) (nd aEM (lf aHC) nl)))) (nd TX (nd o88 (nd UK (nd MC (lf aFn) (lf aHZ)) (nd OF (lf aGH) nl)) (nd K2 (nd DF (lf aNC) nl) (nd aMR (lf aOn) nl))) (nd (IY P) (nd (KE P) (nd V9 (lf aFF) nl) (nd XC (lf aOe) nl)) (nd LN (nd NX (lf aNL) nl) (nd aEV (lf aHK) nl)))))) (nd aEv (nd o20 (nd TW (nd o68 (nd JE (nd LW (lf aFc) (lf aHP)) (nd N3 (lf aNP) nl)) (nd C2 (nd M3 (lf aFM) nl) (nd (XG P) (lf aHg) nl))) (nd IM (nd CY (nd MJ (lf aNn) nl) (nd W5 (lf aGO) nl)) (nd LA (nd WM (lf aGe) nl) (nd XS (lf YT) nl)))) (nd o52 (nd o84 (nd UI (nd MA (lf aFk) (lf Y1)) (nd DO (lf aGF) nl)) (nd U4 (nd NC (lf aFV) nl) (nd aEA (lf aOm) nl))) (nd T7 (nd US (nd V8 (lf aFD) nl) (nd OU (lf aGX) nl)) (nd VF (nd WR (lf aNK) nl) (nd aMZ (lf aOv) nl))))) (nd o28 (nd o44 (nd o76 (nd (JJ P) (nd L5 (lf XY) (lf aHT)) (nd DN (lf aGA) nl)) (nd (KS P) (nd WF (lf X7) nl) (nd XO (lf aHm) nl))) (nd T4 (nd J8 (nd MP (lf aFy) nl) (nd DS (lf YL) nl)) (nd LG (nd NP (lf aGj) nl) (nd aEO (lf aHE) nl)))) (nd o60 (nd o92 (nd JS (nd C7 (lf aFp) (lf aOK)) (nd OH (lf aNW) nl)) (nd K6 (nd NH (lf aND) nl) (nd aEF (lf aHv) nl))) (nd I8 (nd UW (nd MZ (lf aNu) nl) (nd XD (lf aOf) nl)) (nd VI (nd NZ (lf aGr) nl) (nd aEX (lf YX) nl))))))) (nd (boot_o_6 P) (nd (boot_o_10 P) (nd o18 (nd o34 (nd o66 (nd UC (nd LU (lf aNd) (lf aHO)) (nd WV (lf YF) nl)) (nd UY (nd M2 (lf aFL) nl) (nd O2 (lf aHf) nl))) (nd (o98 P) (nd UN (nd MI (lf X1) nl) (nd DQ (lf aGN) nl)) (nd K9 (nd NK (lf aGd) nl) (nd aMU (lf aOq) nl)))) (nd o50 (nd o82 (nd (JM P) (nd L9 (lf aFj) (lf aOG)) (nd W0 (lf aNT) nl)) (nd KY (nd NB (lf aFU) nl) (nd aEz (lf aHp) nl))) (nd IU (nd (KB P) (nd MT (lf aNr) nl) (nd OT (lf aGW) nl)) (nd VE (nd DJ (lf aGm) nl) (nd XU (lf YV) nl))))) (nd o26 (nd o42 (nd o74 (nd CW (nd LZ (lf aNg) (lf aOD)) (nd WY (lf aGz) nl)) (nd KQ (nd DD (lf aNy) nl) (nd XM (lf (aHk P)) nl))) (nd (IP P) (nd J7 (nd VY (lf aFx) nl) (nd W8 (lf aOa) nl)) (nd LF (nd NO (lf aNH) nl) (nd aEN (lf aHD) nl)))) (nd (o58 P) (nd o90 (nd JR (nd VT (lf aFo) (lf aIa)) (nd OG (lf aGI) nl)) (nd K3 (nd WJ (lf X9) nl) (nd aEE (lf aHu) nl))) (nd T8 (nd UV (nd MY (lf aFG) nl) (nd DU (lf YN) nl)) (nd LO (nd NY (lf aGq) nl) (nd aEW (lf aOy) nl)))))) (nd TT (nd o22 (nd (o38 P) (nd o70 (nd JF (nd VL (lf aFd) (lf aOC)) (nd N4 (lf aGx) nl)) (nd (KO P) (nd M4 (lf aFN) nl) (nd (XI P) (lf aOi) nl))) (nd TZ (nd UO (nd VX (lf aFv) nl) (nd OM (lf aGP) nl)) (nd LB (nd DH (lf aNG) nl) (nd aMV (lf aOr) nl)))) (nd o54 (nd o86 (nd UJ (nd MB (lf aNj) (lf aOH)) (nd W1 (lf aGG) nl)) (nd K1 (nd WI (lf aFW) nl) (nd aEB (lf YR) nl))) (nd CV (nd KD (nd DA (lf aFE) nl) (nd OV (lf aGY) nl)) (nd LM (nd NW (lf YD) nl) (nd aEU (lf aHJ) nl))))) (nd o30 (nd o46 (nd o78 (nd UF (nd L6 (lf aNh) (lf aHU)) (nd N9 (lf aNS) nl)) (nd U2 (nd M9 (lf aNz) nl) (nd aEw (lf aOj) nl))) (nd T5 (nd UR (nd MQ (lf aNq) nl) (nd W9 (lf aOb) nl)) (nd LH (nd NQ (lf aGk) nl) (nd aEP (lf aHF) nl)))) (nd o62 (nd o94 (nd JT (nd (MG P) (lf aFq) (lf Y3)) (nd OI (lf YJ) nl)) (nd U7 (nd NI (lf aGb) nl) (nd aEG (lf aHw) nl))) (nd (I9 P) (nd KI (nd M0 (lf X5) nl) (nd O0 (lf aHd) nl)) (nd LR (nd WU (lf aGs) nl) (nd aNc (lf aOz) nl)))))))))
def st5(w:World)(os:OsState):SharedT:=⟨tr5 w.params,799,{},#[],{},1465,os⟩
noncomputable def aId:Pos:=⟨707,0,717,15⟩
noncomputable abbrev ann:Option Value:=some (.ref 6)
abbrev body:List Stmt:=behindTheImports pw
def jY:Env:={scope:=pw.main.scope,locals:=mainNs,globals:=mainNs,cells:=[],code:=.ref 13,frame:=some 14}
abbrev lV:Code:=.body body jY
noncomputable abbrev O5:Pos:=⟨0,0,0,0⟩
noncomputable abbrev B0:List Frame:=[topFrame O5]
def qO(a n:Nat):List Stmt:=(body.drop a).take n
theorem aOL(w:World)(os:OsState):segRunT treeTable pw w 11 ann 1 800 (st0 w os) (piecesOf (qO 0 6) jY lV TU B0)=some (.next,st1 w os,lV,IJ):=by
 rw[PySem.W.Fast.te10110043849684766642,PySem.W.Fast.te14364793385576792824];kernel_rfl
theorem aOM(w:World)(os:OsState):segRunT treeTable pw w 11 ann 1 200 (st1 w os) (piecesOf (qO 6 1) jY lV IJ B0)=some (.next,st2 w os,lV,IK):=by
 have h:∀w:World,∀os,segRunT treeTable pw w 11 ann 1 200 (st1 w os) (piecesOf (qO 6 1) jY lV IJ B0)=some (.next,st2 w os,lV,IK):=by
  refine byRow2 "special-get-raises" (P:=λw=>∀os,segRunT treeTable pw w 11 ann 1 200 (st1 w os) (piecesOf (qO 6 1) jY lV IJ B0)=some (.next,st2 w os,lV,IK)) (λw os=>?_) (λw os=>?_)
  ·rw[PySem.W.Fast.te10110043849684766642,PySem.W.Fast.te14364793385576792824];kernel_rfl
  ·rw[PySem.W.Fast.te10110043849684766642,PySem.W.Fast.te14364793385576792824];kernel_rfl
 exact h w os
theorem aON(w:World)(os:OsState):segRunT treeTable pw w 11 ann 1 3300 (st2 w os) (piecesOf (qO 7 38) jY lV IK B0)=some (.next,st3 w os,lV,O3):=by
 rw[PySem.W.Fast.te10110043849684766642,PySem.W.Fast.te14364793385576792824];kernel_rfl
theorem aOO(w:World)(os:OsState):segRunT treeTable pw w 11 ann 1 950 (st3 w os) (piecesOf (qO 45 2) jY lV O3 B0)=some (.next,st4 w os,lV,O4):=by
 have h:∀w:World,∀os,segRunT treeTable pw w 11 ann 1 950 (st3 w os) (piecesOf (qO 45 2) jY lV O3 B0)=some (.next,st4 w os,lV,O4):=by
  refine byRow2 "special-get-raises" (P:=λw=>∀os,segRunT treeTable pw w 11 ann 1 950 (st3 w os) (piecesOf (qO 45 2) jY lV O3 B0)=some (.next,st4 w os,lV,O4)) (λw os=>?_) (λw os=>?_)
  ·rw[PySem.W.Fast.te10110043849684766642,PySem.W.Fast.te14364793385576792824];kernel_rfl
  ·rw[PySem.W.Fast.te10110043849684766642,PySem.W.Fast.te14364793385576792824];kernel_rfl
 exact h w os
theorem aOP(w:World)(os:OsState):segRunT treeTable pw w 11 ann 1 1850 (st4 w os) (piecesOf (qO 47 16) jY lV O4 B0)=some (.next,st5 w os,lV,aId):=by
 rw[PySem.W.Fast.te10110043849684766642,PySem.W.Fast.te14364793385576792824];kernel_rfl
end
end
section
noncomputable section
theorem O6:body=qO 0 6++(qO 6 1++(qO 7 38++(qO 45 2++(qO 47 16++[])))):=by kernel_rfl
theorem Y4(w:World)(os:OsState):topGo treeTable pw w 11 ann 12 ⟨boot_heap w.params,#[],boot_drawn,boot_toks,os⟩ (topStub pw)=some (⟨yO w.params,#[],{},187,os⟩,⟨denote treeTable lV,lV,O5,B0⟩):=by
 rw[PySem.W.Fast.te15667345088766844465,PySem.W.Fast.te14364793385576792824,PySem.W.Fast.te11892475500146522536];kernel_rfl
theorem DW(w:World)(os:OsState):segRun treeTable pw w 11 ann 1 1 ⟨yO w.params,#[],{},187,os⟩ (blockOf body jY lV O5 B0)=some (.next,(st0 w os).abs,lV,TU):=by
 rw[PySem.W.Fast.te14374325043358763698,PySem.W.Fast.te14364793385576792824];kernel_rfl
theorem Y5(w:World)(os:OsState):topRun treeTable pw w 11 ann 2 (st5 w os).abs ⟨doneF .next,lV,aId,B0⟩=some (st5 w os).abs:=by
 rw[PySem.W.Fast.te14082659384304107361,PySem.W.Fast.te14364793385576792824];kernel_rfl
theorem Y6(w:World)(os:OsState):topRun treeTable pw w 11 ann (12+(1+(800+(200+(3300+(950+(1850+2))))))) ⟨boot_heap w.params,#[],boot_drawn,boot_toks,os⟩ (topStub pw)=some (st5 w os).abs:=by
 refine go_top (Y4 w os) ?_
 refine piece_block (q:=O5) (env:=jY) (DW w os) ?_
 have h:topRun treeTable pw w 11 ann (800+(200+(3300+(950+(1850+2))))) (st0 w os).abs (restOf (qO 0 6++(qO 6 1++(qO 7 38++(qO 45 2++(qO 47 16++[]))))) jY lV TU B0)=some (st5 w os).abs:=
  piece_app (segRun_of (aOL w os)) (piece_app (segRun_of (aOM w os)) (piece_app (segRun_of (aON w os)) (piece_app (segRun_of (aOO w os)) (piece_app (segRun_of (aOP w os)) (piece_nil (Y5 w os))))))
 rw[<-O6]at h
 exact h
theorem O7:∀w:World,(fencedOpening treeTable pw w 20000).map (λs=>(s.heap,s.gens,s.drawn,s.toks))=some (boot_heap w.params,#[],boot_drawn,boot_toks):=
 boot_open (by kernel_rfl) (by decide) (λs=>by kernel_rfl)
theorem O8:∀w:World,((boot_heap w.params).isNs mainGlobals&&(#[]:Array GenState).size==0,(boot_heap w.params).objs.size,(boot_heap w.params).nsMap mainGlobals "__annotations__")=(true,11,ann):=λw=>by kernel_rfl
end
end
section
noncomputable section
noncomputable def lawSt:Stmt:=tD 62
noncomputable def qv:Program:={pw with main:={pw.main with body:=[lawSt]}}
noncomputable def jZ:List Str:=pw.boundNames.filter λn=>n !=Str.ofString "law"
noncomputable abbrev sF(w:World)(os:OsState):Shared:=(st5 w os).abs
theorem look1(w:World)(os:OsState):staticsOk (importedModules pw.main.body) (boot_heap w.params) (sF w os).heap=true:=by
 kernel_rfl
theorem look2(w:World)(os:OsState):namesBound pw (sF w os).heap=true:=by kernel_rfl
theorem look3(w:World)(os:OsState):gensDone (sF w os)=true:=by kernel_rfl
theorem look4(w:World)(os:OsState):laidKept (boot_heap w.params) (sF w os).heap=true:=by kernel_rfl
theorem look5(w:World)(os:OsState):openSeen qv jZ (importedModules pw.main.body) (λO=>true) true (sF w os)=openGood qv jZ:=by
 rw[PySem.W.Fast.te4187177175401517315]
 kernel_rfl
end
end
section
theorem aOQ:PySem.Challenge.rw_nu0283_01.wellSaid=true:=by
 delta OpenLaw.wellSaid
 repeat' (first|(with_reducible refine look_both ?_ ?_)|delta OpenRow.wellSaid|delta OpenRow.partSaid|delta looksOpen)
 ·rw[PySem.W.Fast.te11788848310118352699,PySem.W.Fast.te2368527892694137696];decide+kernel
 ·rw[PySem.W.Fast.te9807087744658564304,PySem.W.Fast.te2368527892694137696,PySem.W.Fast.te12862048085361865435];decide+kernel
 ·rw[PySem.W.Fast.te8377067652309620493,PySem.W.Fast.te2368527892694137696];decide+kernel
 ·rw[PySem.W.R.allR_eq];decide+kernel
 ·rw[PySem.W.Fast.te8326940854005059898];decide+kernel
 ·rw[PySem.W.Fast.te17119622794617984870,PySem.W.Fast.te2368527892694137696,PySem.W.Fast.te17868728402115742887];decide+kernel
 ·rw[PySem.W.Fast.te2368527892694137696];decide+kernel
 ·rw[PySem.W.Fast.te2368527892694137696];decide+kernel
 ·rw[PySem.W.Fast.te2368527892694137696,PySem.W.R.allR_eq,PySem.W.Fast.te9706382859710513879];decide+kernel
 ·rw[PySem.W.R.allR_eq];decide+kernel
 ·rw[PySem.W.R.mapR_eq,PySem.W.Fast.te2368527892694137696,PySem.W.Fast.sDec_eq];decide+kernel
 ·rw[PySem.W.R.allR_eq];decide+kernel
 ·rw[PySem.W.Fast.te13582783067957832011,PySem.W.Fast.te2368527892694137696];decide+kernel
 ·rw[PySem.W.Fast.te5318747976498570220,PySem.W.Fast.te2368527892694137696];decide+kernel
 ·rw[PySem.W.Fast.te5318747976498570220,PySem.W.Fast.te2368527892694137696];decide+kernel
 ·rw[PySem.W.R.allR_eq,PySem.W.Fast.te2368527892694137696,PySem.W.Fast.te5318747976498570220];decide+kernel
 ·rw[PySem.W.R.allR_eq];decide+kernel
 ·rw[PySem.W.R.allR_eq,PySem.W.Fast.te2368527892694137696];decide+kernel
 ·rw[PySem.W.Fast.te2368527892694137696];decide+kernel
 ·rw[PySem.W.Fast.te3471404346716756564];decide+kernel
 ·rw[PySem.W.Fast.te3471404346716756564];decide+kernel
 ·decide+kernel
 ·rw[PySem.W.R.allR_eq,PySem.W.Fast.te10501279942588096481];decide+kernel
 ·rw[PySem.W.Fast.te8179353310426384613];decide+kernel
 ·decide+kernel
 ·decide+kernel
 ·rw[PySem.W.Fast.te8326940854005059898,PySem.W.Fast.te797321630700447069,PySem.W.Fast.te9572597257264208301];decide+kernel
 ·rw[PySem.W.Fast.te9558739934217749035];decide+kernel
 ·rw[PySem.W.Fast.te16286561074155671207];decide+kernel
 ·rw[PySem.W.R.allR_eq,PySem.W.Fast.sDec_eq];decide+kernel
 ·rw[PySem.W.R.allR_eq];decide+kernel
 ·rw[PySem.W.R.allR_eq];decide+kernel
 ·rw[PySem.W.R.allR_eq];decide+kernel
 ·rw[PySem.W.Fast.te17119622794617984870];decide+kernel
 ·rw[PySem.W.Fast.te3471404346716756564,PySem.W.Fast.sDec_eq,PySem.W.Fast.te10792542408131684335];decide+kernel
 ·rw[PySem.W.Fast.te7723801398212525404,PySem.W.Fast.sDec_eq,PySem.W.Fast.te10792542408131684335];decide+kernel
 ·rw[PySem.W.R.allR_eq,PySem.W.Fast.te10792542408131684335,PySem.W.Fast.named_eq];decide+kernel
 ·rw[PySem.W.Fast.te17119622794617984870];decide+kernel
 ·rw[PySem.W.Fast.te17119622794617984870,PySem.W.Fast.sDec_eq];decide+kernel
end
section
noncomputable section
def K(P:Params):Frag:=[(0,boot_o_0 P),(1,boot_o_1 P),(2,boot_o_2 P),(3,aEu P),(4,boot_o_4 P),(5,boot_o_5 P),(6,boot_o_6 P),(7,boot_o_7 P),(9,boot_o_9 P),(11,SE),(13,SG),(15,o15),(17,o17),(18,o18),(20,o20),(21,TV),(22,o22),(24,o24 P),(25,o25),(27,o27),(29,o29),(30,o30),(32,o32),(33,o33),(35,o35),(36,TW),(37,o37),(38,o38 P),(39,o39),(40,o40),(43,o43),(45,o45 P),(46,o46),(48,o48),(50,o50),(52,o52),(53,o53),(55,o55),(56,TX),(57,o57),(58,o58 P),(59,o59),(62,o62),(64,o64 P),(65,o65),(67,o67),(69,o69),(71,o71),(72,o72),(74,o74),(75,TY),(76,o76),(77,o77 P),(78,o78),(81,o81 P),(82,o82),(83,o83),(85,o85 P),(86,o86),(88,o88),(90,o90),(92,o92),(93,o93),(95,o95),(96,o96),(97,o97),(98,o98 P),(99,o99),(100,IM),(101,IN),(104,IO),(106,IP P),(107,IQ),(109,IR),(111,IS),(112,IT),(114,IU),(115,IV),(117,IW),(118,CV),(119,IX),(120,IY P),(121,IZ),(124,I8),(126,I9 P),(127,JA),(129,JC),(131,JD),(132,JE),(134,JF),(135,JG),(137,JH),(138,CW),(139,JI),(140,JJ P),(141,JK),(144,JL),(146,JM P),(147,JN),(149,JO),(151,JP),(153,JQ),(154,JR),(156,JS),(157,CX),(158,JT),(160,JU),(161,JV),(163,JW),(164,CY),(165,JX),(167,JY),(168,JZ),(170,J7),(171,CZ),(172,J8),(175,J9),(176,C1),(177,KA),(178,KB P),(179,KC),(182,KD),(184,KE P),(185,KF),(187,KG),(189,KH),(190,KI),(192,KJ),(193,KL),(195,KM),(196,C2),(197,KN),(198,KO P),(199,KP),(202,KQ),(204,KS P),(205,KT),(207,KU),(209,KW),(210,KY),(211,KZ),(213,K0),(214,K1),(216,K2),(217,C3),(218,K3),(219,K5 P),(220,K6),(223,K7),(225,K8 P),(226,K9),(228,LA),(230,LB),(231,LC),(233,LD),(234,LF),(236,LG),(237,C4),(238,LH),(239,LI P),(240,LJ),(243,LK),(245,LL P),(246,LM),(248,LN),(250,LO),(251,LP),(253,LQ),(254,LR),(256,LS),(257,C5),(258,LU),(259,LV P),(260,LW),(263,LX),(265,LY P),(266,LZ),(268,L5),(270,L6),(271,L7),(273,L8),(274,L9),(276,MA),(277,C6),(278,MB),(280,MC),(281,MD),(283,ME),(284,C7),(285,MF),(286,MG P),(287,MH),(290,MI),(292,MJ),(293,MK),(295,ML),(296,C8),(297,MN),(299,MO),(300,MP),(302,MQ),(303,C9),(304,MS),(306,MT),(307,MU),(309,MV),(310,DA),(311,MW),(313,MX),(314,MY),(316,MZ),(317,DB),(318,M0),(319,M1),(322,M2),(323,DC),(324,M3),(326,M4),(327,M5),(329,M6),(330,DD),(331,M7),(333,M8),(334,M9),(336,NA),(337,DE),(338,NB),(340,NC),(341,ND),(343,NE),(344,DF),(345,NF),(347,NG),(348,NH),(350,NI),(351,DG),(352,NJ),(354,NK),(355,NL),(357,NM),(358,DH),(359,NN),(362,NO),(363,DI),(364,NP),(366,NQ),(367,NR),(369,NS),(370,DJ),(371,NU),(373,NV),(374,NW),(376,NX),(377,DK),(378,NY),(380,NZ),(381,N0),(383,N1),(384,DL),(385,N2),(388,N3),(389,DM),(390,N4),(392,N5),(393,N6),(395,N7),(396,DN),(397,N8),(398,N9),(400,OA),(401,OB),(403,OC),(404,DO),(405,OD),(407,OE),(408,OF),(410,OG),(411,DP),(412,OH),(414,OI),(415,OJ),(417,OK),(418,DQ),(419,OL),(422,OM),(423,DR),(424,ON),(427,OO),(428,DS),(429,OP),(431,OQ),(432,OS),(434,OT),(435,DT),(436,OU),(438,OV),(439,OW),(441,OX),(442,DU),(443,OY),(445,OZ),(446,O0),(448,O1),(449,DV),(450,O2),(451,XF P),(452,XG P),(453,XH P),(454,XI P),(455,XJ),(456,XK),(457,XL),(458,XM),(459,XN),(460,XO),(461,XQ),(462,aEw),(463,aEx),(465,aEy P),(466,aEz),(468,aEA),(470,aEB),(471,aEC),(473,aED),(474,aEE),(476,aEF),(477,XR),(478,aEG),(480,aEH),(481,aEI),(483,aEJ),(484,XS),(485,aEK),(487,aEL),(488,aEM),(490,aEN),(491,XT),(492,aEO),(494,aEP),(495,aEQ),(497,aER),(498,XU),(499,aES),(501,aET),(502,aEU),(504,aEV),(505,XV),(506,aEW),(508,aEX),(509,aEY),(511,aEZ),(512,XW),(513,aFa),(515,aFb),(516,aFc),(518,aFd),(519,XX),(520,aFe),(523,aFf),(524,XY),(525,aFg),(527,aFh),(528,aFi),(530,aFj),(531,XZ),(532,aFk),(533,aFl),(535,aFm),(536,aFn),(538,aFo),(539,X0),(540,aFp),(542,aFq),(543,aFr),(545,aFs),(546,X1),(547,aFt),(549,aFu),(550,aFv),(552,aFw),(553,X2),(554,aFx),(556,aFy),(557,aFz),(559,aFA),(560,X3),(561,aFB),(563,aFC),(564,aFD),(566,aFE),(567,X4),(568,aFF),(570,aFG),(571,aFH),(573,aFI),(574,X5),(575,aFJ),(577,aFK),(578,aFL),(580,aFM),(581,X6),(582,aFN),(584,aFO),(585,aFP),(587,aFQ),(588,X7),(589,aFR),(591,aFS),(592,aFT),(594,aFU),(595,X8),(596,aFV),(598,aFW),(599,aFX),(601,aFY),(602,X9),(603,aFZ),(605,aGa),(606,aGb),(608,aGc),(609,YA),(610,aGd),(612,aGe),(613,aGf),(615,aGg),(616,YB),(617,aGh),(619,aGi),(620,aGj),(622,aGk),(623,YC),(624,aGl),(626,aGm),(627,aGn),(629,aGo),(630,YD),(631,aGp),(634,aGq),(635,YE),(636,aGr),(638,aGs),(639,aGt),(641,aGu),(642,YF),(643,aGv),(645,aGw),(646,aGx),(648,aGy),(649,YG),(650,aGz),(652,aGA),(653,aGB),(655,aGC),(656,YH),(657,aGD),(659,aGE),(660,aGF),(662,aGG),(663,YI),(664,aGH),(666,aGI),(667,aGJ),(669,aGK),(670,YJ),(671,aGL),(673,aGM),(674,aGN),(676,aGO),(677,YK),(678,aGP),(680,aGQ),(681,aGR),(683,aGS),(684,YL),(685,aGT),(687,aGU),(688,aGV),(690,aGW),(691,YM),(692,aGX),(694,aGY),(695,aGZ),(697,aHa),(698,YN),(699,aHb),(701,aHc),(702,aHd),(704,aHe),(705,YO),(706,aHf),(708,aHg),(709,aHh),(711,aHi),(712,YQ),(713,aHj),(714,aHk P),(715,aHl),(716,aHm),(717,aHn),(720,aHo),(722,aHp),(723,aHq),(725,aHr),(726,YR),(727,aHs),(729,aHt),(730,aHu),(732,aHv),(733,YS),(734,aHw),(736,aHx),(737,aHy),(739,aHz),(740,YT),(741,aHA),(743,aHB),(744,aHC),(746,aHD),(747,YU),(748,aHE),(750,aHF),(751,aHG),(753,aHH),(754,YV),(755,aHI),(758,aHJ),(759,YW),(760,aHK),(763,aHL),(764,YX),(765,aHM),(768,aHN),(769,YY),(770,aHO),(772,aHP),(773,aHQ),(775,aHR),(776,YZ),(777,aHS),(780,aHT),(781,Y0),(782,aHU),(784,aHV),(785,aHW),(787,aHX),(788,Y1),(789,aHY),(792,aHZ),(793,Y2),(794,aIa),(797,aIb),(798,Y3)]
noncomputable def kAs:List Addr:=[0,1,2,3,4,5,6,7,9,11,13,15,17,18,20,21,22,24,25,27,29,30,32,33,35,36,37,38,39,40,43,45,46,48,50,52,53,55,56,57,58,59,62,64,65,67,69,71,72,74,75,76,77,78,81,82,83,85,86,88,90,92,93,95,96,97,98,99,100,101,104,106,107,109,111,112,114,115,117,118,119,120,121,124,126,127,129,131,132,134,135,137,138,139,140,141,144,146,147,149,151,153,154,156,157,158,160,161,163,164,165,167,168,170,171,172,175,176,177,178,179,182,184,185,187,189,190,192,193,195,196,197,198,199,202,204,205,207,209,210,211,213,214,216,217,218,219,220,223,225,226,228,230,231,233,234,236,237,238,239,240,243,245,246,248,250,251,253,254,256,257,258,259,260,263,265,266,268,270,271,273,274,276,277,278,280,281,283,284,285,286,287,290,292,293,295,296,297,299,300,302,303,304,306,307,309,310,311,313,314,316,317,318,319,322,323,324,326,327,329,330,331,333,334,336,337,338,340,341,343,344,345,347,348,350,351,352,354,355,357,358,359,362,363,364,366,367,369,370,371,373,374,376,377,378,380,381,383,384,385,388,389,390,392,393,395,396,397,398,400,401,403,404,405,407,408,410,411,412,414,415,417,418,419,422,423,424,427,428,429,431,432,434,435,436,438,439,441,442,443,445,446,448,449,450,451,452,453,454,455,456,457,458,459,460,461,462,463,465,466,468,470,471,473,474,476,477,478,480,481,483,484,485,487,488,490,491,492,494,495,497,498,499,501,502,504,505,506,508,509,511,512,513,515,516,518,519,520,523,524,525,527,528,530,531,532,533,535,536,538,539,540,542,543,545,546,547,549,550,552,553,554,556,557,559,560,561,563,564,566,567,568,570,571,573,574,575,577,578,580,581,582,584,585,587,588,589,591,592,594,595,596,598,599,601,602,603,605,606,608,609,610,612,613,615,616,617,619,620,622,623,624,626,627,629,630,631,634,635,636,638,639,641,642,643,645,646,648,649,650,652,653,655,656,657,659,660,662,663,664,666,667,669,670,671,673,674,676,677,678,680,681,683,684,685,687,688,690,691,692,694,695,697,698,699,701,702,704,705,706,708,709,711,712,713,714,715,716,717,720,722,723,725,726,727,729,730,732,733,734,736,737,739,740,741,743,744,746,747,748,750,751,753,754,755,758,759,760,763,764,765,768,769,770,772,773,775,776,777,780,781,782,784,785,787,788,789,792,793,794,797,798]
theorem vW(P:Params):kAs=(K P).map (·.1):=by kernel_rfl
noncomputable def tabs:List Addr:=[756,761,771]
def hook:Hook:=kmHook K kAs vW tabs
theorem DX{t:BT}{n:Nat}{life:Life}:∀{as:List Addr},(as.all λa=>Nat.blt a n&&(t.get a).isSome)=true->as.map (absHeap t n life).get?=as.map λa=>(t.get a).bind alive:=by
 intro as
 induction as with
 |nil=>
  intro O
  exact rfl
 |cons a as rec_=>
  intro h
  rw[List.all_cons,Bool.and_eq_true,Bool.and_eq_true]at h
  obtain⟨⟨h1,h2⟩,h3⟩:=h
  obtain⟨o,ho⟩:=Option.isSome_iff_exists.mp h2
  rw[List.map_cons,List.map_cons,rec_ h3,abs_get (Nat.le_of_ble_eq_true h1) ho,ho];rfl
theorem O9(P:Params):((kAs++tabs).all λa=>Nat.blt a 799&&((tr5 P).get a).isSome)=true:=by kernel_rfl
theorem Y7(P:Params):((kAs++tabs).map λa=>((tr5 P).get a).bind alive)=((K P).map λp=>some p.2)++tabs.map λO=>some (tabObj #[]):=by kernel_rfl
theorem PA(w:World)(os:OsState):hook.obs (sF w os)=hook.val w:=by
 have h:=(DX (life:={}) (O9 w.params)).trans (Y7 w.params)
 rw[List.map_append]at h
 have l:(kAs.map (absHeap (tr5 w.params) 799 {}).get?).length=((K w.params).map λp=>some p.2).length:=by
  rw[List.length_map,List.length_map,vW w.params,List.length_map]
 obtain⟨h1,h2⟩:=List.append_inj h l
 exact Prod.ext h1 h2
theorem PB:LeftO pw qv jZ (λO=>true) hook.obs hook.val 20000:=
 LeftO.of_pieces (H₀:=boot_heap) (H₁:=λP=>absHeap (tr5 P) 799 {}) (gs₀:= #[]) (gs₁:= #[]) (d₀:=boot_drawn) (d₁:={}) (k₀:=boot_toks) (k₁:=1465) (m₀:=11) (ann:=ann)
  (M:=12+(1+(800+(200+(3300+(950+(1850+2)))))))
  O7 O8 Y6 (by decide) λw=>funext λos=>by
   refine Prod.ext ?_ (Prod.ext ?_ ?_)
   ·show(staticsOk (importedModules pw.main.body) (boot_heap w.params) (sF w os).heap&&namesBound pw (sF w os).heap&&gensDone (sF w os)&&laidKept (boot_heap w.params) (sF w os).heap)=true
    rw[look1,look2,look3,look4];rfl
   ·exact look5 w os
   ·exact PA w os
noncomputable abbrev rowL:OpenRow:=OpenLaw.row PySem.Challenge.rw_nu0283_01
noncomputable def lawD:DefRec:={name:=Str.ofString "law",params:=mJ lawSt,body:=fO lawSt,scope:=bP lawSt,pos:=lawSt.pos}
theorem DY(walk:WalkO qv jZ (λO O=>True) hook.says rowL.toRowW lawD [] λf vs=>PySem.call f vs):PySem.Challenge.rw_nu0283_01.Holds:=
 holds_law aOQ λk1=>PySem.W.holds_open (r:=rowL) (q:=qv) (loose:=jZ) (Xt:=λO=>true) (XP:=λO O=>True) (Yf:=hook.obs) (Ya:=hook.val) (YP:=hook.says) (d:=lawD) (kwd:=[]) (N:=20000)
  PB hook.of hook.keeps (λO O=>trivial) (λO O O O O=>trivial) (by kernel_rfl) (by kernel_rfl) (by kernel_rfl) (λs O=>recFacts_nil rfl) (by rfl) k1 (by kernel_rfl) ⟨rfl,rfl,rfl,rfl,rfl,by decide+kernel⟩
  ⟨[WData.list []],by decide+kernel,by decide+kernel⟩ walk
end
end
section
set_option backward.match.sparseCases false
open PySem PySem.W
noncomputable section
abbrev Nm:=List Nat
noncomputable def nm(s:String):Nm:=(Str.ofString s).cps.toList
def code(l:Nm):Nat:=List.rec (motive:=λO=>Nat) 0 (λc O n=>Nat.mul (Nat.pow 2 c) (Nat.succ (Nat.mul 2 n))) l
def cC(a b:Nm):Bool:=Nat.beq (code a) (code b)
inductive NT(α:Type) where
 |nil|node (k:Nm) (v:α) (l r:NT α)
def NT.get{α:Type}(t:NT α)(n:Nm):Option α:=
 NT.rec (motive:=λO=>Option α) none (λk v O O gl gr=>
  Bool.rec (motive:=λO=>Option α) (Bool.rec (motive:=λO=>Option α) gr gl (Nat.blt (code n) (code k)))
   (some v) (Nat.beq (code n) (code k))) t
inductive BN(α:Type) where
 |nil|node (k:Nat) (v:α) (l r:BN α)
def aE{α:Type}(t:BN α)(n:Nat):Option α:=
 BN.rec (motive:=λO=>Option α) none (λk v O O gl gr=>
  Bool.rec (motive:=λO=>Option α) (Bool.rec (motive:=λO=>Option α) gr gl (Nat.blt n k)) (some v) (Nat.beq n k)) t
set_option genCtorIdx true in
set_option genInjectivity true in
inductive SV where
 |none|bool (b:Bool)|int (i:Int)|lin (c:Int)|str (s:Nm)|ref (i:Nat)|fn (a:Nat)|cls (a:Nat)|bi (k:Nat)|kref (a:Nat)|opq (k:Nat)|any|scr|one (l:List Nm)
set_option genCtorIdx true in
inductive SObj where
 |inst (C:Nat) (es:List (Nm×SV))|exc (C:Nat) (es:List (Nm×SV))|dict (es:List (SV×SV))|list (xs:List SV)|tup (xs:List SV)
 |range (a:Int) (n:Nat)|lrange (a:Int) (n:Nat)|vals (i:Nat)
 |cell (v:Option SV)|lam (ps:Arguments) (b:Expr) (sc:Scope) (cs:List (Nm×Nat))|box
 |boxd (j m d:Nat)|mdict (es:List (Nm×SV)) (ab:List Nm)
inductive PT where
 |nil|node (v:SObj) (l r:PT)
def PT.get(t:PT):Nat->Option SObj:=
 PT.rec (motive:=λO=>Nat->Option SObj) (λO=>none) (λv O O gl gr i=>
  Bool.rec (motive:=λO=>Option SObj)
   (Bool.rec (motive:=λO=>Option SObj) (gr (Nat.sub (Nat.div i 2) 1)) (gl (Nat.div i 2)) (Nat.beq (Nat.mod i 2) 1))
   (some v) (Nat.beq i 0)) t
def PT.put(o:SObj)(t:PT):Nat->(PT->Bool)->Bool:=
 PT.rec (motive:=λO=>Nat->(PT->Bool)->Bool) (λi k=>Bool.rec (motive:=λO=>Bool) false (k (.node o .nil .nil)) (Nat.beq i 0)) (λv l r pl pr i k=>
  Bool.rec (motive:=λO=>Bool)
   (Bool.rec (motive:=λO=>Bool) (pr (Nat.sub (Nat.div i 2) 1) λr'=>k (.node v l r')) (pl (Nat.div i 2) λl'=>k (.node v l' r)) (Nat.beq (Nat.mod i 2) 1))
   (k (.node o l r)) (Nat.beq i 0)) t
structure St where
 T:PT
 n:Nat
 L:List (Nm×SV)
 sy:Bool
structure Cx where
 names:List (Str×NameKind)
 cells:List (Nm×Nat)
 tab:Nat
set_option genCtorIdx true in
inductive Rs where
 |val (v:SV)|next|ret (v:SV)
set_option genCtorIdx true in
inductive Tk where
 |ev (e:Expr) (c:Cx)
 |exs (ss:List Stmt) (c:Cx)
 |call (f:SV) (as:List SV)
abbrev KK:=Rs->St->Bool
abbrev KX:=SV->St->Bool
abbrev KV:=SV->St->Bool
abbrev Ih:=Tk->St->KK->KX->Bool
noncomputable def gtab:NT SV:=(.node (nm "full_name") (.fn 351) (.node (nm "OPERATORS") (.kref 82) (.node (nm "World") (.cls 715) (.node (nm "same") (.fn 317) (.node (nm "MIXED") (.kref 454) (.node (nm "law") (.fn 798) .nil .nil) (.node (nm "Text") (.cls 121) .nil .nil)) (.node (nm "show") (.fn 404) (.node (nm "UNMADE") (.kref 462) .nil .nil) (.node (nm "Thing") (.cls 99) .nil .nil))) (.node (nm "Raised") (.cls 78) (.node (nm "MODULES") (.kref 450) (.node (nm "_wall") (.fn 21) .nil .nil) (.node (nm "truth") (.fn 303) .nil .nil)) (.node (nm "is_int") (.fn 296) (.node (nm "BUILTINS") (.kref 451) .nil .nil) .nil))) (.node (nm "own_line") (.fn 418) (.node (nm "sort_of") (.fn 310) (.node (nm "line_of") (.fn 435) (.node (nm "code_of") (.fn 323) .nil .nil) (.node (nm "is_word") (.fn 330) .nil .nil)) (.node (nm "is_label") (.fn 337) (.node (nm "GemError") (.cls 39) .nil .nil) (.node (nm "DEEPEST_KEY") (.int 12) .nil .nil))) (.node (nm "_law_take") (.fn 740) (.node (nm "ListThing") (.cls 141) (.node (nm "ProcThing") (.cls 220) .nil .nil) (.node (nm "made_line") (.fn 428) .nil .nil)) (.node (nm "StepsOver") (.cls 59) (.node (nm "_law_kind") (.fn 754) .nil .nil) .nil)))) (.node (nm "show_error") (.fn 396) (.node (nm "RangeThing") (.cls 199) (.node (nm "show_pair") (.fn 377) (.node (nm "_law_word") (.fn 747) (.node (nm "has_thing") (.fn 411) .nil .nil) (.node (nm "is_around") (.fn 726) .nil .nil)) (.node (nm "TableThing") (.cls 179) (.node (nm "FiberThing") (.cls 260) .nil .nil) (.node (nm "show_text") (.fn 363) .nil .nil))) (.node (nm "_law_roots") (.fn 733) (.node (nm "show_range") (.fn 384) (.node (nm "ErrorThing") (.cls 240) .nil .nil) (.node (nm "SIMPLE_ESCAPES") (.kref 81) .nil .nil)) (.node (nm "show_thing") (.fn 389) (.node (nm "own_module") (.fn 449) .nil .nil) .nil))) (.node (nm "is_plain_symbol") (.fn 344) (.node (nm "show_symbol") (.fn 370) (.node (nm "ahead_count") (.fn 423) (.node (nm "ModuleThing") (.cls 287) .nil .nil) (.node (nm "show_letter") (.fn 358) .nil .nil)) (.node (nm "_law_keys_right") (.fn 769) (.node (nm "raise_version") (.fn 442) .nil .nil) .nil)) (.node (nm "_law_spread_right") (.fn 764) (.node (nm "_law_steps_right") (.fn 788) (.node (nm "_law_built_right") (.fn 793) .nil .nil) (.node (nm "_law_words_right") (.fn 781) .nil .nil)) (.node (nm "_law_frozen_right") (.fn 776) (.node (nm "_law_things_right") (.fn 759) .nil .nil) .nil)))))
noncomputable def aO:BN (List Nat×NT Nat):=(.node 179 ([179,99],(.node (nm "pairs") (176) (.node (nm "put") (164) (.node (nm "row") (171) .nil .nil) .nil) (.node (nm "__init__") (157) .nil .nil))) (.node 99 ([99],(.node (nm "__init__") (96) .nil .nil)) (.node 59 ([59,39],(.node (nm "__init__") (56) .nil .nil)) (.node 39 ([39],(.node (nm "__init__") (36) .nil .nil)) .nil .nil) (.node 78 ([78,39],(.node (nm "__init__") (75) .nil .nil)) .nil .nil)) (.node 141 ([141,99],(.node (nm "__init__") (138) .nil .nil)) (.node 121 ([121,99],(.node (nm "__init__") (118) .nil .nil)) .nil .nil) .nil)) (.node 260 ([260,99],(.node (nm "__init__") (257) .nil .nil)) (.node 220 ([220,99],(.node (nm "__init__") (217) .nil .nil)) (.node 199 ([199,99],(.node (nm "__init__") (196) .nil .nil)) .nil .nil) (.node 240 ([240,99],(.node (nm "__init__") (237) .nil .nil)) .nil .nil)) (.node 715 ([715],(.node (nm "table_of") (595) (.node (nm "key_of") (602) (.node (nm "ident") (512) (.node (nm "proc") (616) (.node (nm "tick") (484) (.node (nm "fail") (649) .nil .nil) .nil) (.node (nm "text") (581) .nil .nil)) (.node (nm "error") (642) (.node (nm "thing") (623) .nil .nil) (.node (nm "write") (491) .nil .nil))) (.node (nm "list_of") (588) (.node (nm "number") (498) (.node (nm "own_of") (553) (.node (nm "spread") (635) .nil .nil) .nil) (.node (nm "find_in") (698) .nil .nil)) (.node (nm "root_of") (567) (.node (nm "builtin") (519) .nil .nil) (.node (nm "__init__") (477) .nil .nil)))) (.node (nm "new_module") (539) (.node (nm "constant") (691) (.node (nm "class_of") (546) (.node (nm "describe") (670) (.node (nm "range_of") (609) .nil .nil) .nil) (.node (nm "give_own") (531) .nil .nil)) (.node (nm "real_class") (574) (.node (nm "set_field") (663) .nil .nil) (.node (nm "own_behind") (560) .nil .nil))) (.node (nm "set_constant") (712) (.node (nm "constant_in") (705) (.node (nm "need_thawed") (656) (.node (nm "next_ident") (505) .nil .nil) .nil) (.node (nm "make_builtin") (524) .nil .nil)) (.node (nm "find_constant") (684) (.node (nm "own_constant") (677) .nil .nil) (.node (nm "is_error_class") (630) .nil .nil)))))) (.node 287 ([287,99],(.node (nm "__init__") (277) (.node (nm "is_own") (284) .nil .nil) .nil)) .nil .nil) .nil)))
noncomputable def iJ:BN (Stmt×List SV):=(.node 498 (mD 48 3,[]) (.node 330 (tD 23,[]) (.node 196 (mD 13 0,[.none,.none,.bool false]) (.node 118 (mD 10 0,[.str (nm "")]) (.node 56 (mD 3 0,[]) (.node 36 (mD 2 0,[.str (nm "")]) (.node 21 (tD 0,[]) .nil .nil) .nil) (.node 96 (mD 9 0,[]) (.node 75 (mD 4 0,[]) .nil .nil) .nil)) (.node 164 (mD 12 1,[]) (.node 157 (mD 12 0,[]) (.node 138 (mD 11 0,[.none]) .nil .nil) .nil) (.node 176 (mD 12 3,[]) (.node 171 (mD 12 2,[]) .nil .nil) .nil))) (.node 296 (tD 18,[]) (.node 257 (mD 16 0,[.none]) (.node 237 (mD 15 0,[.none]) (.node 217 (mD 14 0,[.none,.none,.none,.none,.kref 209,.none,.none,.bool false,.none]) .nil .nil) .nil) (.node 284 (mD 17 1,[]) (.node 277 (mD 17 0,[.none,.bool false,.none,.none]) .nil .nil) .nil)) (.node 317 (tD 21,[]) (.node 310 (tD 20,[]) (.node 303 (tD 19,[]) .nil .nil) .nil) (.node 323 (tD 22,[.int 12]) .nil .nil)))) (.node 404 (tD 34,[.int 6]) (.node 370 (tD 29,[]) (.node 351 (tD 26,[]) (.node 344 (tD 25,[]) (.node 337 (tD 24,[]) .nil .nil) .nil) (.node 363 (tD 28,[]) (.node 358 (tD 27,[]) .nil .nil) .nil)) (.node 389 (tD 32,[]) (.node 384 (tD 31,[]) (.node 377 (tD 30,[]) .nil .nil) .nil) (.node 396 (tD 33,[]) .nil .nil))) (.node 442 (tD 41,[]) (.node 423 (tD 38,[]) (.node 418 (tD 37,[]) (.node 411 (tD 36,[]) .nil .nil) .nil) (.node 435 (tD 40,[]) (.node 428 (tD 39,[]) .nil .nil) .nil)) (.node 484 (mD 48 1,[]) (.node 477 (mD 48 0,[.none,.none,.int 20000]) (.node 449 (tD 42,[]) .nil .nil) .nil) (.node 491 (mD 48 2,[]) .nil .nil))))) (.node 656 (mD 48 26,[]) (.node 581 (mD 48 15,[]) (.node 539 (mD 48 9,[.none,.none,.none]) (.node 519 (mD 48 6,[]) (.node 512 (mD 48 5,[]) (.node 505 (mD 48 4,[]) .nil .nil) .nil) (.node 531 (mD 48 8,[]) (.node 524 (mD 48 7,[]) .nil .nil) .nil)) (.node 560 (mD 48 12,[]) (.node 553 (mD 48 11,[]) (.node 546 (mD 48 10,[]) .nil .nil) .nil) (.node 574 (mD 48 14,[]) (.node 567 (mD 48 13,[]) .nil .nil) .nil))) (.node 623 (mD 48 21,[]) (.node 602 (mD 48 18,[]) (.node 595 (mD 48 17,[]) (.node 588 (mD 48 16,[]) .nil .nil) .nil) (.node 616 (mD 48 20,[]) (.node 609 (mD 48 19,[]) .nil .nil) .nil)) (.node 642 (mD 48 24,[]) (.node 635 (mD 48 23,[]) (.node 630 (mD 48 22,[]) .nil .nil) .nil) (.node 649 (mD 48 25,[]) .nil .nil)))) (.node 740 (tD 52,[]) (.node 698 (mD 48 32,[]) (.node 677 (mD 48 29,[]) (.node 670 (mD 48 28,[]) (.node 663 (mD 48 27,[]) .nil .nil) .nil) (.node 691 (mD 48 31,[]) (.node 684 (mD 48 30,[]) .nil .nil) .nil)) (.node 726 (tD 49,[]) (.node 712 (mD 48 34,[]) (.node 705 (mD 48 33,[]) .nil .nil) .nil) (.node 733 (tD 51,[]) .nil .nil))) (.node 776 (tD 58,[]) (.node 759 (tD 55,[]) (.node 754 (tD 54,[]) (.node 747 (tD 53,[]) .nil .nil) .nil) (.node 769 (tD 57,[]) (.node 764 (tD 56,[]) .nil .nil) .nil)) (.node 793 (tD 61,[]) (.node 788 (tD 60,[]) (.node 781 (tD 59,[]) .nil .nil) .nil) (.node 798 (tD 62,[]) .nil .nil))))))
noncomputable def d5:BN SObj:=(.node 456 (.tup [.str (nm "Comparable")]) (.node 450 (.tup [.str (nm "Kernel"),.str (nm "Comparable"),.str (nm "Enumerable")]) (.node 82 (.tup [.str (nm "+"),.str (nm "-"),.str (nm "*"),.str (nm "/"),.str (nm "%"),.str (nm "**"),.str (nm "=="),.str (nm "!="),.str (nm "<"),.str (nm ">"),.str (nm "<="),.str (nm ">="),.str (nm "<=>"),.str (nm "==="),.str (nm "[]"),.str (nm "[]="),.str (nm "<<"),.str (nm ">>"),.str (nm "!"),.str (nm "~"),.str (nm "+@"),.str (nm "-@"),.str (nm "&"),.str (nm "|"),.str (nm "^"),.str (nm "=~"),.str (nm "!~")]) (.node 7 (.tup []) .nil .nil) (.node 209 (.tup []) .nil .nil)) (.node 454 (.dict [(.str (nm "Object"),.kref 455),(.str (nm "Numeric"),.kref 456),(.str (nm "String"),.kref 457),(.str (nm "Symbol"),.kref 458),(.str (nm "Array"),.kref 459),(.str (nm "Hash"),.kref 460),(.str (nm "Range"),.kref 461)]) (.node 451 (.dict [(.str (nm "BasicObject"),.none),(.str (nm "Object"),.str (nm "BasicObject")),(.str (nm "Module"),.str (nm "Object")),(.str (nm "Class"),.str (nm "Module")),(.str (nm "Kernel"),.none),(.str (nm "Comparable"),.none),(.str (nm "Enumerable"),.none),(.str (nm "NilClass"),.str (nm "Object")),(.str (nm "TrueClass"),.str (nm "Object")),(.str (nm "FalseClass"),.str (nm "Object")),(.str (nm "Numeric"),.str (nm "Object")),(.str (nm "Integer"),.str (nm "Numeric")),(.str (nm "String"),.str (nm "Object")),(.str (nm "Symbol"),.str (nm "Object")),(.str (nm "Array"),.str (nm "Object")),(.str (nm "Hash"),.str (nm "Object")),(.str (nm "Range"),.str (nm "Object")),(.str (nm "Proc"),.str (nm "Object")),(.str (nm "Fiber"),.str (nm "Object")),(.str (nm "Exception"),.str (nm "Object")),(.str (nm "ScriptError"),.str (nm "Exception")),(.str (nm "NotImplementedError"),.str (nm "ScriptError")),(.str (nm "SystemStackError"),.str (nm "Exception")),(.str (nm "StandardError"),.str (nm "Exception")),(.str (nm "ArgumentError"),.str (nm "StandardError")),(.str (nm "UncaughtThrowError"),.str (nm "ArgumentError")),(.str (nm "FiberError"),.str (nm "StandardError")),(.str (nm "IndexError"),.str (nm "StandardError")),(.str (nm "KeyError"),.str (nm "IndexError")),(.str (nm "StopIteration"),.str (nm "IndexError")),(.str (nm "LocalJumpError"),.str (nm "StandardError")),(.str (nm "NameError"),.str (nm "StandardError")),(.str (nm "NoMethodError"),.str (nm "NameError")),(.str (nm "NoMatchingPatternError"),.str (nm "StandardError")),(.str (nm "NoMatchingPatternKeyError"),.str (nm "NoMatchingPatternError")),(.str (nm "RangeError"),.str (nm "StandardError")),(.str (nm "RuntimeError"),.str (nm "StandardError")),(.str (nm "FrozenError"),.str (nm "RuntimeError")),(.str (nm "TypeError"),.str (nm "StandardError")),(.str (nm "ZeroDivisionError"),.str (nm "StandardError"))]) .nil .nil) (.node 455 (.tup [.str (nm "Kernel")]) .nil .nil))) (.node 460 (.tup [.str (nm "Enumerable")]) (.node 458 (.tup [.str (nm "Comparable")]) (.node 457 (.tup [.str (nm "Comparable")]) .nil .nil) (.node 459 (.tup [.str (nm "Enumerable")]) .nil .nil)) (.node 462 (.tup [.str (nm "NilClass"),.str (nm "TrueClass"),.str (nm "FalseClass"),.str (nm "Integer"),.str (nm "Numeric"),.str (nm "Symbol")]) (.node 461 (.tup [.str (nm "Enumerable")]) .nil .nil) .nil)))
noncomputable def attrNames:NT Bool:=(.node (nm "reason") (true) (.node (nm "rows") (true) (.node (nm "main") (true) (.node (nm "put") (true) (.node (nm "own") (true) (.node (nm "env") (true) (.node (nm "get") (true) .nil .nil) .nil) (.node (nm "out") (true) (.node (nm "row") (true) .nil .nil) .nil)) (.node (nm "fail") (true) (.node (nm "made") (true) (.node (nm "back") (true) .nil .nil) .nil) (.node (nm "name") (true) (.node (nm "read") (true) .nil .nil) .nil))) (.node (nm "last") (true) (.node (nm "body") (true) (.node (nm "tick") (true) (.node (nm "home") (true) .nil .nil) .nil) (.node (nm "open") (true) (.node (nm "join") (true) .nil .nil) .nil)) (.node (nm "site") (true) (.node (nm "proc") (true) (.node (nm "kept") (true) .nil .nil) .nil) (.node (nm "text") (true) (.node (nm "most") (true) .nil .nil) .nil)))) (.node (nm "first") (true) (.node (nm "index") (true) (.node (nm "taken") (true) (.node (nm "cause") (true) (.node (nm "ahead") (true) .nil .nil) .nil) (.node (nm "mixed") (true) (.node (nm "ident") (true) .nil .nil) .nil)) (.node (nm "pairs") (true) (.node (nm "spare") (true) (.node (nm "thing") (true) .nil .nil) .nil) (.node (nm "items") (true) (.node (nm "state") (true) .nil .nil) .nil))) (.node (nm "append") (true) (.node (nm "split") (true) (.node (nm "owner") (true) (.node (nm "error") (true) .nil .nil) .nil) (.node (nm "fields") (true) (.node (nm "outer") (true) .nil .nil) .nil)) (.node (nm "params") (true) (.node (nm "spread") (true) (.node (nm "key_of") (true) .nil .nil) .nil) (.node (nm "native") (true) .nil .nil))))) (.node (nm "describe") (true) (.node (nm "list_of") (true) (.node (nm "values") (true) (.node (nm "number") (true) (.node (nm "extend") (true) (.node (nm "own_of") (true) .nil .nil) .nil) (.node (nm "is_own") (true) (.node (nm "parent") (true) .nil .nil) .nil)) (.node (nm "globals") (true) (.node (nm "definer") (true) (.node (nm "frozen") (true) .nil .nil) .nil) (.node (nm "isdigit") (true) (.node (nm "message") (true) .nil .nil) .nil))) (.node (nm "isalnum") (true) (.node (nm "builtin") (true) (.node (nm "methods") (true) (.node (nm "prelude") (true) .nil .nil) .nil) (.node (nm "root_of") (true) (.node (nm "nesting") (true) .nil .nil) .nil)) (.node (nm "table_of") (true) (.node (nm "version") (true) (.node (nm "natives") (true) .nil .nil) .nil) (.node (nm "range_of") (true) (.node (nm "attached") (true) .nil .nil) .nil)))) (.node (nm "new_module") (true) (.node (nm "set_field") (true) (.node (nm "is_class") (true) (.node (nm "is_ready") (true) (.node (nm "class_of") (true) .nil .nil) .nil) (.node (nm "is_lambda") (true) (.node (nm "give_own") (true) .nil .nil) .nil)) (.node (nm "own_behind") (true) (.node (nm "real_class") (true) (.node (nm "constants") (true) .nil .nil) .nil) (.node (nm "last_ident") (true) (.node (nm "self_value") (true) .nil .nil) .nil))) (.node (nm "own_constant") (true) (.node (nm "last_number") (true) (.node (nm "need_thawed") (true) (.node (nm "next_ident") (true) .nil .nil) .nil) (.node (nm "set_constant") (true) (.node (nm "make_builtin") (true) .nil .nil) .nil)) (.node (nm "const_version") (true) (.node (nm "symbol_idents") (true) (.node (nm "find_constant") (true) .nil .nil) .nil) (.node (nm "is_error_class") (true) .nil .nil))))))
noncomputable def builtins:NT SV:=(.node (nm "bool") (.bi 7) (.node (nm "int") (.bi 5) (.node (nm "min") (.bi 6) (.node (nm "len") (.bi 0) .nil .nil) .nil) (.node (nm "str") (.bi 2) .nil .nil)) (.node (nm "ValueError") (.bi 8) (.node (nm "range") (.bi 4) (.node (nm "list") (.bi 3) .nil .nil) .nil) (.node (nm "isinstance") (.bi 1) .nil .nil)))
def aL(f:KV)(r:Rs)(J:St):Bool:=Rs.rec (motive:=λO=>Bool) (λv=>f v J) false (λO=>false) r
@[reducible] def some?{α:Type}(o:Option α)(f:α->Bool):Bool:=Option.rec (motive:=λO=>Bool) false f o
noncomputable def kv(k:KK):KV:=λv J=>k (.val v) J
def fA{α:Type}(b:Bool)(x y:α):α:=Bool.rec (motive:=λO=>α) y x b
def j0{α:Type}(l:List α):Bool:=List.rec (motive:=λO=>Bool) true (λO O O=>false) l
def one{α:Type}(l:List α)(f:α->Bool):Bool:=List.rec (motive:=λO=>Bool) false (λv l O=>Bool.rec (motive:=λO=>Bool) false (f v) (j0 l)) l
def h9(o:Option SObj)(f:List SV->Bool):Bool:=some? o λo=>SObj.rec (motive:=λO=>Bool) (λO O=>false) (λO O=>false) (λO=>false) f (λO=>false) (λO O=>false) (λO O=>false) (λO=>false) (λO=>false) (λO O O O=>false) false (λO O O=>false) (λO O=>false) o
def vZ(v:SV)(f:Nm->Bool):Bool:=SV.rec (motive:=λO=>Bool) false (λO=>false) (λO=>false) (λO=>false) f (λO=>false) (λO=>false) (λO=>false) (λO=>false) (λO=>false) (λO=>false) false false (λO=>false) v
def lL(v:SV)(f:Nat->Bool):Bool:=SV.rec (motive:=λO=>Bool) false (λO=>false) (λO=>false) (λO=>false) (λO=>false) f (λO=>false) (λO=>false) (λO=>false) (λO=>false) (λO=>false) false false (λO=>false) v
def sY(v:SV)(f:Bool->Bool):Bool:=SV.rec (motive:=λO=>Bool) false f (λO=>false) (λO=>false) (λO=>false) (λO=>false) (λO=>false) (λO=>false) (λO=>false) (λO=>false) (λO=>false) false false (λO=>false) v
def DZ(v:SV)(f:Int->Bool):Bool:=SV.rec (motive:=λO=>Bool) false (λO=>false) f (λO=>false) (λO=>false) (λO=>false) (λO=>false) (λO=>false) (λO=>false) (λO=>false) (λO=>false) false false (λO=>false) v
def PC(v:SV)(f:Int->Bool):Bool:=SV.rec (motive:=λO=>Bool) false (λO=>false) (λO=>false) f (λO=>false) (λO=>false) (λO=>false) (λO=>false) (λO=>false) (λO=>false) (λO=>false) false false (λO=>false) v
def v7(v:SV)(f:Nat->Bool):Bool:=DZ v λi=>Int.rec (motive:=λO=>Bool) f (λO=>false) i
def two{α:Type}(l:List α)(f:α->α->Bool):Bool:=List.rec (motive:=λO=>Bool) false (λv l O=>one l (f v)) l
def v8{α:Type}(l:List α)(f:α->Bool)(g:α->α->Bool):Bool:=List.rec (motive:=λO=>Bool) false (λv l O=>List.rec (motive:=λO=>Bool) (f v) (λw l O=>Bool.rec (motive:=λO=>Bool) false (g v w) (j0 l)) l) l
def aIe(v:SV):Bool:=SV.rec (motive:=λO=>Bool) true (λO=>false) (λO=>false) (λO=>false) (λO=>false) (λO=>false) (λO=>false) (λO=>false) (λO=>false) (λO=>false) (λO=>false) false false (λO=>false) v
def ilV(v:SV)(f g:Int->Bool):Bool:=SV.rec (motive:=λO=>Bool) false (λO=>false) f g (λO=>false) (λO=>false) (λO=>false) (λO=>false) (λO=>false) (λO=>false) (λO=>false) false false (λO=>false) v
def aD{α:Type}(l:List (Nm×α))(n:Nm):Option α:=
 List.rec (motive:=λO=>Option α) none (λp O ih=>Prod.rec (motive:=λO=>Option α) (λm v=>Bool.rec (motive:=λO=>Option α) ih (some v) (cC m n)) p) l
def lM(n:Nm)(v:SV)(l:List (Nm×SV)):(List (Nm×SV)->Bool)->Bool:=
 List.rec (motive:=λO=>(List (Nm×SV)->Bool)->Bool) (λk=>k [(n,v)])
  (λp l ih k=>Prod.rec (motive:=λO=>Bool) (λm O=>Bool.rec (motive:=λO=>Bool) (ih λl'=>k (p::l')) (k ((n,v)::l)) (cC m n)) p) l
def aF(l:List (Str×NameKind))(n:Nm):Option NameKind:=
 List.rec (motive:=λO=>Option NameKind) none (λp O ih=>Bool.rec (motive:=λO=>Option NameKind) ih (some p.2) (cC p.1.cps.toList n)) l
def alloc(J:St)(o:SObj)(k:KV):Bool:=PT.put o J.T J.n λT=>k (.ref J.n) ⟨T,Nat.succ J.n,J.L,J.sy⟩
def store(J:St)(i:Nat)(o:SObj)(k:St->Bool):Bool:=PT.put o J.T i λT=>k ⟨T,J.n,J.L,J.sy⟩
def bG{α:Type}(f:α->Bool)(l:List α):Bool:=List.rec (motive:=λO=>Bool) true (λa O ih=>Bool.rec (motive:=λO=>Bool) false ih (f a)) l
def bA{α:Type}(l:List α):Nat:=List.rec (motive:=λO=>Nat) 0 (λO O n=>Nat.succ n) l
def cP{α:Type}(l:List α):Bool:=Nat.ble (bA l) 1000
def cT(J:St)(xs:List SV)(k:KV):Bool:=Bool.rec (motive:=λO=>Bool) false (alloc J (.list xs) k) (cP xs)
def qP(J:St)(xs:List SV)(k:KV):Bool:=Bool.rec (motive:=λO=>Bool) false (alloc J (.tup xs) k) (cP xs)
def D0(J:St)(xs:List (SV×SV))(k:KV):Bool:=Bool.rec (motive:=λO=>Bool) false (alloc J (.dict xs) k) (cP xs)
def j4(J:St)(i:Nat)(xs:List SV)(k:St->Bool):Bool:=Bool.rec (motive:=λO=>Bool) false (store J i (.list xs) k) (cP xs)
def qQ(J:St)(i:Nat)(xs:List (SV×SV))(k:St->Bool):Bool:=Bool.rec (motive:=λO=>Bool) false (store J i (.dict xs) k) (cP xs)
def iV(J:St)(v:SV):Option SObj:=match v with
 |.ref i=>J.T.get i
 |.kref a=>aE d5 a
 |_=>none
def cQ(a b:Int):Bool:=Int.rec (motive:=λO=>Bool) (λa=>Int.rec (motive:=λO=>Bool) (λb=>Nat.beq a b) (λO=>false) b) (λa=>Int.rec (motive:=λO=>Bool) (λO=>false) (λb=>Nat.beq a b) b) a
def fT(a b:Int):Bool:=Int.rec (motive:=λO=>Bool) (λn=>Nat.blt 0 n) (λO=>false) (Int.sub b a)
def mroOf(C:Nat):List Nat:=match aE aO C with|some p=>p.1|none=>[]
def aP(l:List Nat)(b:Nat):Bool:=List.rec (motive:=λO=>Bool) false (λa O ih=>Bool.rec (motive:=λO=>Bool) ih true (Nat.beq a b)) l
noncomputable def eG(f:SV->SV->Option Bool):List SV->List SV->Option Bool
 | [],[]=>some true
 |a::x,b::y=>Option.rec (motive:=λO=>Option Bool) none (λr=>(eG f x y).map λr'=>Bool.rec (motive:=λO=>Bool) false r' r) (f a b)
 |_,_=>some false
def yP(b:Bool):Int:=Bool.rec (motive:=λO=>Int) 0 1 b
noncomputable def fB(o:Option SObj):Option Bool:=match o with
 |some (.inst ..)=>some false
 |_=>none
def SJ(f:SV->SV->Option Bool)(a b:SObj):Option Bool:=match a with
 |.list x=>(match b with|.list y=>eG f x y|_=>none)
 |.tup x=>(match b with|.tup y=>eG f x y|_=>none)
 |_=>none
def sZ(f:SV->SV->Option Bool)(a b:Option SObj):Option Bool:=Option.rec (motive:=λO=>Option Bool) none (λx=>Option.rec (motive:=λO=>Option Bool) none (SJ f x) b) a
def D3(f:SV->SV->Option Bool)(J:St)(i:Nat)(b:SV):Option Bool:=match b with
 |.ref j=>Bool.rec (motive:=λO=>Option Bool) (sZ f (J.T.get i) (J.T.get j)) (some true) (Nat.beq i j)
 |.int _=>fB (J.T.get i)
 |.bool _=>fB (J.T.get i)
 |.str _=>fB (J.T.get i)
 |.none=>fB (J.T.get i)
 |_=>none
def below(x c:Int):Option Bool:=match fT x c with|true=>some false|false=>none
def SK(J:St)(x:Int)(b:SV):Option Bool:=match b with
 |.int y=>some (cQ x y)
 |.lin c=>below x c
 |.bool y=>some (cQ x (yP y))
 |.str _=>some false
 |.none=>some false
 |.ref j=>fB (J.T.get j)
 |_=>none
def aIf(J:St)(x:Bool)(b:SV):Option Bool:=match b with
 |.int y=>some (cQ (yP x) y)
 |.bool y=>some (cQ (yP x) (yP y))
 |.str _=>some false
 |.none=>some false
 |.ref j=>fB (J.T.get j)
 |_=>none
noncomputable def SL(x:Nat)(b:SV):Option Bool:=match b with
 |.opq y=>(match Nat.beq x y with|true=>some true|false=>none)
 |_=>none
def SM(c:Int)(b:SV):Option Bool:=match b with
 |.lin d=>some (cQ c d)
 |.int x=>below x c
 |.str _=>some false
 |.none=>some false
 |_=>none
def SN(J:St)(x:Nm)(b:SV):Option Bool:=match b with
 |.str y=>some (cC x y)
 |.int _=>some false
 |.lin _=>some false
 |.bool _=>some false
 |.none=>some false
 |.ref j=>fB (J.T.get j)
 |_=>none
def D4(J:St)(b:SV):Option Bool:=match b with
 |.none=>some true
 |.str _=>some false
 |.int _=>some false
 |.lin _=>some false
 |.bool _=>some false
 |.ref j=>fB (J.T.get j)
 |_=>none
def Y8(f:SV->SV->Option Bool)(J:St)(a b:SV):Option Bool:=match a with
 |.none=>D4 J b
 |.bool x=>aIf J x b
 |.int x=>SK J x b
 |.lin c=>SM c b
 |.str x=>SN J x b
 |.ref i=>D3 f J i b
 |.opq x=>SL x b
 |_=>none
def c8(J:St)(n:Nat):SV->SV->Option Bool:=Nat.rec (motive:=λO=>SV->SV->Option Bool) (λO O=>none) (λO ih=>Y8 ih J) n
def pA(v:SV)(n:Nm):Bool:=vZ v λs=>cC s n
def cR(l:List (SV×SV))(n:Nm):Option SV:=
 List.rec (motive:=λO=>Option SV) none (λp O ih=>Bool.rec (motive:=λO=>Option SV) ih (some p.2) (pA p.1 n)) l
def yQ(n:Nm)(v:SV)(l:List (SV×SV)):(List (SV×SV)->Bool)->Bool:=
 List.rec (motive:=λO=>(List (SV×SV)->Bool)->Bool) (λk=>k [(.str n,v)])
  (λp l ih k=>Bool.rec (motive:=λO=>Bool) (ih λl'=>k (p::l')) (k ((p.1,v)::l)) (pA p.1 n)) l
noncomputable def iA(es:List (SV×SV)):Bool:=match es with
 | []=>true
 |p::_=>(match p.1 with|.str _=>true|_=>false)
noncomputable def fU(es:List (SV×SV)):Bool:=match es with
 | []=>true
 |p::_=>(match p.1 with|.ref _=>true|_=>false)
noncomputable def SO(v:SV):Bool:=match v with
 |.int _=>true|.lin _=>true|.str _=>true
 |_=>false
def iW(l:List SV):Bool:=List.rec (motive:=λO=>Bool) true (λv O ih=>Bool.rec (motive:=λO=>Bool) false ih (SO v)) l
def s7(o:Option SObj):Bool:=match o with
 |some (.tup xs)=>iW xs
 |_=>false
noncomputable def mK(J:St):List (SV×SV)->SV->Option (Option SV)
 | [],_=>some none
 |p::l,k=>match c8 J 5 p.1 k with
  |some true=>some (some p.2)
  |some false=>mK J l k
  |none=>none
def D5(J:St)(es:List (SV×SV))(k:SV):Option (Option SV):=match k with
 |.str n=>Bool.rec (motive:=λO=>Option (Option SV)) none (some (cR es n)) (iA es)
 |.ref j=>Bool.rec (motive:=λO=>Option (Option SV)) none (Bool.rec (motive:=λO=>Option (Option SV)) none (mK J es k) (fU es)) (s7 (J.T.get j))
 |_=>none
noncomputable def mL(J:St):List (SV×SV)->SV->SV->Option (List (SV×SV))
 | [],k,v=>some [(k,v)]
 |p::l,k,v=>match c8 J 5 p.1 k with
  |some true=>some ((p.1,v)::l)
  |some false=>match mL J l k v with|some r=>some (p::r)|none=>none
  |none=>none
def aIg(J:St)(es:List (SV×SV))(k v:SV)(c:List (SV×SV)->Bool):Bool:=match k with
 |.str n=>Bool.rec (motive:=λO=>Bool) false (yQ n v es c) (iA es)
 |.ref j=>Bool.rec (motive:=λO=>Bool) false (Bool.rec (motive:=λO=>Bool) false (some? (mL J es k v) c) (fU es)) (s7 (J.T.get j))
 |_=>false
noncomputable def truthy(_J:St)(v:SV):Option Bool:=match v with
 |.none=>some false
 |.bool b=>some b
 |_=>none
def cE(n:Nm):Bool:=match attrNames.get n with|some _=>true|none=>false
def pB(o:Option SObj)(n:Nm):Option SV:=match o with
 |some (.inst _ es)=>aD es n
 |some (.exc _ es)=>aD es n
 |_=>none
def aIh(J:St)(o:SV)(n:Nm):Option SV:=match o with
 |.ref i=>Bool.rec (motive:=λO=>Option SV) none (pB (J.T.get i) n) (cE n)
 |_=>none
noncomputable def v9:Nat->Nat->List Nat->List Nat
 |0,_,acc=>acc
 |f+1,n,acc=>match Nat.beq (n / 10) 0 with
  |true=>(48+n%10)::acc
  |false=>v9 f (n / 10) ((48+n%10)::acc)
noncomputable def wA:Int->Nm
 |.ofNat n=>v9 30 n []
 |.negSucc n=>45::v9 30 (n+1) []
def cU(i:Int)(k:Int->Bool):Bool:=Int.rec (motive:=λO=>Bool) (λn=>Nat.rec (motive:=λO=>Bool) (k (.ofNat 0)) (λm O=>k (.ofNat (Nat.succ m))) n) (λn=>k (.negSucc n)) i
def yR(v:SV):Bool:=sY v λO=>true
def D6(v:SV):Bool:=sY v (λO=>true)||DZ v (λO=>true)||PC v (λO=>true)
def D7(v:SV):Bool:=vZ v λO=>true
def AN(v c:SV):Option Bool:=match c with
 |.bi k=>fA (Nat.beq k 7) (some (yR v)) (fA (Nat.beq k 5) (some (D6 v)) (fA (Nat.beq k 2) (some (D7 v)) none))
 |.cls C=>(aE aO C).map λO=>false
 |_=>none
def aOR(D:Nat)(c:SV):Option Bool:=match c with
 |.bi k=>fA (Nat.beq k 7||Nat.beq k 5||Nat.beq k 2) (some false) none
 |.cls C=>(aE aO C).map λO=>aP (mroOf D) C
 |_=>none
def SP(c:SV)(o:SObj):Option Bool:=match o with
 |.inst D _=>aOR D c
 |_=>none
def D8(J:St)(v c:SV):Option Bool:=match v with
 |.none=>AN v c
 |.bool _=>AN v c
 |.int _=>AN v c
 |.lin _=>AN v c
 |.str _=>AN v c
 |.ref i=>Option.rec (motive:=λO=>Option Bool) none (SP c) (J.T.get i)
 |_=>none
def aOS(D:Nat)(c:SV):Option Bool:=match c with
 |.cls C=>Option.rec (motive:=λO=>Option Bool) none (λq=>fA (aP q.1 39) (some (aP (mroOf D) C)) none) (aE aO C)
 |_=>none
def SQ(c:SV)(o:SObj):Option Bool:=match o with
 |.exc D _=>aOS D c
 |_=>none
def D9(J:St)(x c:SV):Option Bool:=match x with
 |.ref i=>Option.rec (motive:=λO=>Option Bool) none (SQ c) (J.T.get i)
 |_=>none
noncomputable def pC{α:Type}:Nat->List α->List α
 |0,_=>[]
 |_,[]=>[]
 |n+1,a::l=>a::pC n l
noncomputable def s8{α:Type}:Nat->List α->List α
 |0,l=>l
 |_,[]=>[]
 |n+1,_::l=>s8 n l
def bI{α:Type}(l:List α):Nat->Option α:=
 List.rec (motive:=λO=>Nat->Option α) (λO=>none) (λa O ih i=>Bool.rec (motive:=λO=>Option α) (ih (Nat.sub i 1)) (some a) (Nat.beq i 0)) l
noncomputable def PD{α:Type}:List α->Nat->α->Option (List α)
 | [],_,_=>none
 |a::l,i,x=>match Nat.beq i 0 with|true=>some (x::l)|false=>(PD l (i-1) x).map (a::·)
def mM{α:Type}(x:α)(l:List α):(List α->Bool)->Bool:=
 List.rec (motive:=λO=>(List α->Bool)->Bool) (λk=>k [x]) (λa O ih k=>ih λl'=>k (a::l')) l
def wB{α:Type}(x y:List α):(List α->Bool)->Bool:=
 List.rec (motive:=λO=>(List α->Bool)->Bool) (λk=>k y) (λa O ih k=>ih λl'=>k (a::l')) x
noncomputable def idx(n:Nat):Int->Option Nat
 |.ofNat i=>some i
 |.negSucc i=>match Nat.ble (i+1) n with|true=>some (n-(i+1))|false=>none
noncomputable def mN:List Nm->List SV->List SV->Option (List (Nm×SV))
 | [],[],_=>some []
 |p::ps,a::as,ds=>(mN ps as ds).map ((p,a)::·)
 |p::ps,[],ds=>match bI ds (bA ds-bA (p::ps))with
  |some d=>match Nat.ble (bA (p::ps)) (bA ds)with|true=>(mN ps [] ds).map ((p,d)::·)|false=>none
  |none=>none
 | [],_::_,_=>none
def PE(l:Nm):Nm->(Nm->Bool)->Bool:=List.rec (motive:=λO=>Nm->(Nm->Bool)->Bool) (λr k=>k r) (λc O ih r k=>ih (c::r) k) l
def qR(l:Nm):Nm->(List SV->Bool)->Bool:=List.rec (motive:=λO=>Nm->(List SV->Bool)->Bool) (λacc k=>PE acc [] λw=>k [.str w])
 (λc O ih acc k=>Bool.rec (motive:=λO=>Bool) (ih (c::acc) k) (PE acc [] λw=>ih [] λr=>k (.str w::r)) (Nat.beq c 32)) l
noncomputable def fV:List SV->List Str->Bool
 | [],[]=>true
 |.str x::l,y::m=>match cC x y.cps.toList with|true=>fV l m|false=>false
 |_,_=>false
noncomputable def Y9(v:SV):Bool:=match v with
 |.none=>true|.bool _=>true|.int _=>true|.str _=>true|.ref _=>true
 |_=>false
noncomputable def iX(J:St):List SV->SV->Option (Option Nat)
 | [],_=>some none
 |a::l,v=>match Y9 a,c8 J 5 a v,iX J l v with
  |true,some true,some _=>some (some 0)
  |true,some false,some r=>some (r.map Nat.succ)
  |_,_,_=>none
noncomputable def EA:List SV->Nm->Option Bool
 | [],_=>some false
 |.str a::l,n=>(match EA l n with|some r=>some (Bool.rec (motive:=λO=>Bool) r true (cC a n))|none=>none)
 |_,_=>none
noncomputable def EB(c:Nat):Bool:=(Nat.ble 97 c&&Nat.ble c 122)||(Nat.ble 65 c&&Nat.ble c 90)
noncomputable def pD(c:Nat):Bool:=Nat.ble 48 c&&Nat.ble c 57
noncomputable def cH:List (Str×NameKind)->List (Nm×Nat)->St->(List (Nm×Nat)->St->Bool)->Bool
 | [],cs,J,k=>k cs J
 |(n,.cell)::l,cs,J,k=>PT.put (.cell none) J.T J.n λT=>cH l ((n.cps.toList,J.n)::cs) ⟨T,Nat.succ J.n,J.L,J.sy⟩ k
 |_::l,cs,J,k=>cH l cs J k
def j5(J:St)(i:Nat)(v:SV)(k:St->Bool):Option SObj->Bool
 |some (.cell _)=>store J i (.cell (some v)) k
 |_=>false
def qS(cells:List (Nm×Nat))(n:Nm)(v:SV)(J:St)(k:St->Bool):NameKind->Bool
 |.local=>lM n v J.L λL=>k ⟨J.T,J.n,L,J.sy⟩
 |.cell=>some? (aD cells n) λi=>j5 J i v k (J.T.get i)
 |.free=>some? (aD cells n) λi=>j5 J i v k (J.T.get i)
 |_=>false
def dP(c:Cx)(n:Nm)(v:SV)(J:St)(k:St->Bool):Bool:=Cx.rec (motive:=λO=>Bool) (λnames cells O=>some? (aF names n) (qS cells n v J k)) c
noncomputable def eM(c:Cx):List (Nm×SV)->St->(St->Bool)->Bool
 | [],J,k=>k J
 |(n,v)::l,J,k=>dP c n v J λJ=>eM c l J k
noncomputable def cellOf(o:Option SObj):Option SV:=match o with
 |some (.cell v)=>v
 |_=>none
def dQ(n:Nm):Option SV:=Option.rec (motive:=λO=>Option SV) (builtins.get n) some (gtab.get n)
def s9(cells:List (Nm×Nat))(n:Nm)(J:St)(k:KV):NameKind->Bool
 |.local=>some? (aD J.L n) λv=>k v J
 |.cell=>some? (aD cells n) λi=>some? (cellOf (J.T.get i)) λv=>k v J
 |.free=>some? (aD cells n) λi=>some? (cellOf (J.T.get i)) λv=>k v J
 |.globalImplicit=>some? (dQ n) λv=>k v J
 |_=>false
def eN(c:Cx)(n:Nm)(J:St)(k:KV):Bool:=Cx.rec (motive:=λO=>Bool) (λnames cells O=>some? (aF names n) (s9 cells n J k)) c
def CS(ih:Ih)(c:Cx)(kx:KX)(es:List Expr):St->(List SV->St->Bool)->Bool:=
 List.rec (motive:=λO=>St->(List SV->St->Bool)->Bool) (λJ k=>k [] J) (λe O rest J k=>ih (.ev e c) J (aL λv J=>rest J λvs J=>k (v::vs) J) kx) es
noncomputable def aA(o:Str):Nm:=o.cps.toList
def okB(o:Option Bool)(J:St)(k:KK):Bool:=some? o λb=>k (.val (.bool b)) J
noncomputable def isNone(v:SV):Option Bool:=match v with|.none=>some true|.any=>none|.scr=>none|.one _=>none|_=>some false
def inO(J:St)(o:Option SObj)(a:SV):Option Bool:=match o with
 |some (.tup xs)=>(match a with|.str n=>EA xs n|_=>none)
 |some (.dict es)=>(match a with|.str n=>Bool.rec (motive:=λO=>Option Bool) none (some (cR es n).isSome) (iA es)|_=>none)
 |_=>none
def EC(op:CmpOp)(x y:Int):Option Bool:=match op with
 |.Lt=>some (fT x y)
 |.LtE=>some (!(fT y x))
 |.Gt=>some (fT y x)
 |.GtE=>some (!(fT x y))
 |_=>none
noncomputable def ED(p:SV×SV)(g:Nm->Option Bool):Option Bool:=match p.1 with|.str n=>g n|_=>none
def qT(f:SV->SV->Option Bool)(x y:List (SV×SV)):Option Bool:=
 List.rec (motive:=λO=>Option Bool) (List.rec (motive:=λO=>Option Bool) (some true) (λq O O=>ED q λO=>some false) y)
  (λp x O=>List.rec (motive:=λO=>Option Bool) (ED p λO=>some false) (λq y O=>fA (j0 x&&j0 y) (ED p λk=>ED q λk'=>fA (cC k k') (f p.2 q.2) (some false)) none) y) x
noncomputable def eH(o:Option SObj):Option (List (SV×SV)):=match o with|some o=>(match o with|.dict es=>some es|_=>none)|none=>none
def SR(J:St)(a b:SV)(x y:Option SObj):Option Bool:=
 Option.rec (motive:=λO=>Option Bool) (c8 J 5 a b) (λes=>Option.rec (motive:=λO=>Option Bool) none (qT (c8 J 5) es) (eH y)) (eH x)
def EE(J:St)(a b:SV):Option Bool:=match a with
 |.ref i=>(match b with
  |.ref j=>Bool.rec (motive:=λO=>Option Bool) (SR J a b (J.T.get i) (J.T.get j)) none (Nat.beq i j)
  |_=>none)
 |_=>(match b with
  |.ref _=>none
  |_=>c8 J 5 a b)
def cmp(op:CmpOp)(a b:SV)(J:St):Option Bool:=match op with
 |.Eq=>EE J a b
 |.NotEq=>(EE J a b).map not
 |.Is=>match b with|.none=>isNone a|_=>none
 |.IsNot=>match b with|.none=>(isNone a).map not|_=>none
 |.In=>inO J (iV J b) a
 |.NotIn=>(inO J (iV J b) a).map not
 |op=>match a,b with|.int x,.int y=>EC op x y|_,_=>none
def PF(ih:Ih)(e:Expr)(c:Cx)(J:St)(k:Bool->St->Bool)(kx:KX):Bool:=
 ih (.ev e c) J (aL λv J=>some? (truthy J v) λb=>k b J) kx
noncomputable def gL(ih:Ih)(c:Cx)(isOr:Bool)(kx:KX):List Expr->St->KK->Bool
 | [],_,_=>false
 | [e],J,k=>ih (.ev e c) J k kx
 |e::es,J,k=>ih (.ev e c) J (aL λv J=>some? (truthy J v) λb=>Bool.rec (motive:=λO=>Bool) (gL ih c isOr kx es J k) (k (.val v) J) (b==isOr)) kx
noncomputable def mO(x:Int):Bool:=match x with|.ofNat n=>Nat.blt n 1000|.negSucc n=>Nat.blt n 1000
def SS(op:Operator)(x y:Int)(k:Int->Bool):Bool:=match op with
 |.Add=>cU (Int.add x y) k
 |.Sub=>cU (Int.sub x y) k
 |.Mult=>Bool.rec (motive:=λO=>Bool) false (cU (Int.mul x y) k) (mO x)
 |.Mod=>match y with|.ofNat (n+1)=>cU (Int.emod x (.ofNat (n+1))) k|_=>false
 |_=>false
def aOV(op:Operator)(x y:Int)(k:Int->Bool):Bool:=match op with
 |.Add=>cU (Int.add x y) k
 |.Sub=>cU (Int.sub x y) k
 |_=>false
def ZA(n:Nat)(x:List SV)(k:List SV->Bool):Bool:=Nat.rec (motive:=λO=>(List SV->Bool)->Bool) (λk=>k []) (λO ih k=>ih λl=>wB x l k) n k
def mP(op:Operator)(i:Nat)(b:SV)(J:St)(k:KK):Bool:=match op,b with
 |.Add,.ref j=>match J.T.get i,J.T.get j with
  |some (.list x),some (.list y)=>wB x y λl=>cT J (l) (kv k)
  |_,_=>false
 |.Mult,.int (.ofNat n)=>match J.T.get i with
  |some (.list x)=>Bool.rec (motive:=λO=>Bool) false (ZA n x λl=>cT J (l) (kv k)) (Nat.blt n 1000)
  |_=>false
 |_,_=>false
def yS(op:Operator)(a b:SV)(J:St)(k:KK):Bool:=match a with
 |.int x=>match b with
  |.int y=>SS op x y λz=>k (.val (.int z)) J
  |.lin y=>match op with|.Add=>cU (Int.add x y) λz=>k (.val (.lin z)) J|_=>false
  |_=>false
 |.lin x=>match b with
  |.int y=>aOV op x y λz=>k (.val (.lin z)) J
  |_=>false
 |.str x=>match op,b with
  |.Add,.str y=>wB x y λz=>Bool.rec (motive:=λO=>Bool) false (k (.val (.str z)) J) (cP z)
  |_,_=>false
 |.ref i=>mP op i b J k
 |_=>false
def iY(ih:Ih)(c:Cx)(e:Option Expr)(J:St)(k:KV)(kx:KX):Bool:=match e with
 |none=>k .none J
 |some e=>ih (.ev e c) J (aL k) kx
noncomputable def j6(n:Nat):SV->Nat->Option Nat
 |.none,d=>some d
 |.int (.ofNat i),_=>some (Nat.min i n)
 |.int (.negSucc i),_=>some (n-(i+1))
 |_,_=>none
def cut{α:Type}(l:List α)(a b:SV):Option (List α):=Option.rec (motive:=λO=>Option (List α)) none (λx=>(j6 (bA l) b (bA l)).map λy=>pC (y-x) (s8 x l)) (j6 (bA l) a 0)
def tA(J:St)(i:Nat)(n:Nm)(v:SV)(k:St->Bool):Option SObj->Bool
 |some (.inst C es)=>lM n v es λes'=>Bool.rec (motive:=λO=>Bool) false (store J i (.inst C es') k) (cP es')
 |some (.exc C es)=>lM n v es λes'=>Bool.rec (motive:=λO=>Bool) false (store J i (.exc C es') k) (cP es')
 |_=>false
def setAttr(J:St)(o:SV)(n:Nm)(v:SV)(k:St->Bool):Bool:=match o with
 |.ref i=>Bool.rec (motive:=λO=>Bool) false (tA J i n v k (J.T.get i)) (cE n)
 |_=>false
def aIi(J:St)(a:Nat)(es:List (Nm×SV))(ab:List Nm)(i v:SV)(k:St->Bool):Bool:=match i with
 |.str n=>lM n v es λes'=>Bool.rec (motive:=λO=>Bool) false (store J a (.mdict es' ab) k) (Nat.ble (bA es') 100)
 |_=>false
def iB(l:List Nm)(n:Nm):Bool:=List.rec (motive:=λO=>Bool) false (λa O ih=>Bool.rec (motive:=λO=>Bool) ih true (cC a n)) l
def aIj(J:St)(es:List (Nm×SV))(ab:List Nm)(as:List SV)(k:KK):Bool:=one as λv=>vZ v λn=>
 Option.rec (motive:=λO=>Bool) (Bool.rec (motive:=λO=>Bool) false (k (.val .none) J) (iB ab n)) (λv=>k (.val v) J) (aD es n)
def EF(J:St)(a:Nat)(xs:List SV)(i v:SV)(k:St->Bool):Bool:=v7 i λm=>some? (PD xs m v) λxs'=>j4 J a xs' k
def aOW(J:St)(a:Nat)(i v:SV)(k:St->Bool)(o:SObj):Bool:=match o with
 |.dict es=>aIg J es i v λes'=>qQ J a es' k
 |.mdict es ab=>aIi J a es ab i v k
 |.list xs=>EF J a xs i v k
 |_=>false
def setItem(J:St)(o i v:SV)(k:St->Bool):Bool:=lL o λa=>some? (J.T.get a) (aOW J a i v k)
def iZ(ih:Ih)(c:Cx)(t:Expr)(v:SV)(J:St)(k:St->Bool)(kx:KX):Bool:=match t with
 |.Name n _=>dP c (aA n) v J k
 |.Attribute o n _=>ih (.ev o c) J (aL λov J=>setAttr J ov (aA n) v k) kx
 |.Subscript o i _=>ih (.ev o c) J (aL λov J=>ih (.ev i c) J (aL λiv J=>setItem J ov iv v k) kx) kx
 |_=>false
noncomputable def cI(ih:Ih)(c:Cx):List Expr->List SV->St->(St->Bool)->KX->Bool
 | [],[],J,k,_=>k J
 |t::ts,v::vs,J,k,kx=>iZ ih c t v J (λJ=>cI ih c ts vs J k kx) kx
 |_,_,_,_,_=>false
noncomputable def yT(o:Option SObj):Option (List SV):=match o with
 |some (.tup xs)=>some xs
 |some (.list xs)=>some xs
 |_=>none
noncomputable def gM(e:Expr):Bool:=match e with|.Name .. =>true|.Attribute .. =>true|.Subscript .. =>true|_=>false
def bX(ih:Ih)(c:Cx)(t:Expr)(v:SV)(J:St)(k:St->Bool)(kx:KX):Bool:=match t with
 |.Tuple ts _ _=>some? (yT (iV J v)) λxs=>Bool.rec (motive:=λO=>Bool) false (Bool.rec (motive:=λO=>Bool) false (cI ih c ts xs J k kx) (bG gM ts)) (Nat.beq (bA ts) (bA xs))
 |t=>iZ ih c t v J k kx
noncomputable def EG(k:ScopeKind):Bool:=match k with|.function=>true|_=>false
noncomputable def wC(o:Option NameKind):Bool:=match o with|none=>true|some _=>false
def dM(l:List (Str×NameKind)):Bool:=List.rec (motive:=λO=>Bool) true (λp l ih=>Bool.rec (motive:=λO=>Bool) false ih (wC (aF l (aA p.1)))) l
noncomputable def yU:Nm:=[95,95,100,101,98,117,103,95,95]
noncomputable def EH:Nm:=[95,95,99,108,97,115,115,100,105,99,116,95,95]
noncomputable def yV:Nm:=[115,117,112,101,114]
def ZB(l:List (Str×NameKind)):Bool:=wC (aF l yU)&&wC (aF l EH)&&wC (aF l yV)
def lW(l:List (Str×NameKind)):Bool:=bG (λp=>match p.2 with|.cell=>false|_=>true) l
noncomputable def ZC(o:Option NameKind):Bool:=match o with|some .cell=>true|some .free=>true|_=>false
def ZD(onames:List (Str×NameKind))(cells:List (Nm×Nat))(l:List (Str×NameKind)):Bool:=bG (λp=>match p.2 with
 |.free=>(match aD cells (aA p.1)with|some _=>ZC (aF onames (aA p.1))|none=>false)
 |_=>true) l
def AO(sc:Scope):Bool:=EG sc.kind&& !sc.isGenerator&& !sc.isCoroutine&&dM sc.names&&ZB sc.names
def EI(sc:Scope)(c:Cx):Bool:=Cx.rec (motive:=λO=>Bool) (λonames cells O=>AO sc&&lW sc.names&&ZD onames cells sc.names) c
def d6(n:Nat):Expr->Bool:=Nat.rec (motive:=λO=>Expr->Bool) (λO=>false) (λO r e=>match e with
 |.Constant .. =>true
 |.Name .. =>true
 |.Tuple es _ _=>bG r es
 |.Subscript o (.Constant ..) _=>r o
 |_=>false) n
def AP(e:Expr)(l:List (Str×NameKind)):Bool:=match e with|.Name x _=>(match aF l (aA x)with|some .local=>true|_=>false)|_=>false
inductive Src where
 |list (i:Nat)
 |tup (i:Nat)
 |kt (a:Nat)
 |str (s:Nm)
 |range (a:Int) (n:Nat)
 |lrange (a:Int) (n:Nat)
 |vals (i:Nat) (xs:List SV)
def pE(J:St)(v:SV):Option Src:=match v with
 |.ref i=>match J.T.get i with
  |some (.list _)=>some (.list i)
  |some (.tup _)=>some (.tup i)
  |some (.range a n)=>some (.range a n)
  |some (.lrange a n)=>some (.lrange a n)
  |_=>none
 |.kref a=>match aE d5 a with
  |some (.tup _)=>some (.kt a)
  |_=>none
 |.str s=>some (.str s)
 |_=>none
def ST(J:St)(o:SObj):Option Src:=match o with
 |.vals j=>(eH (J.T.get j)).map λes=>.vals j (es.map (·.2))
 |_=>none
def aIk(J:St)(v:SV):Option Src:=match v with
 |.ref i=>Option.rec (motive:=λO=>Option Src) none (ST J) (J.T.get i)
 |_=>none
def AQ(J:St)(s:Src)(j:Nat):Option (Option SV):=match s with
 |.list i=>match J.T.get i with|some (.list xs)=>some (bI xs j)|_=>none
 |.tup i=>match J.T.get i with|some (.tup xs)=>some (bI xs j)|_=>none
 |.kt a=>match aE d5 a with|some (.tup xs)=>some (bI xs j)|_=>none
 |.str s=>some ((bI s j).map λc=>.str [c])
 |.range a n=>some (Bool.rec (motive:=λO=>Option SV) none (some (.int (Int.add a (.ofNat j)))) (Nat.blt j n))
 |.lrange a n=>some (Bool.rec (motive:=λO=>Option SV) none (some (.lin (Int.add a (.ofNat j)))) (Nat.blt j n))
 |.vals _ xs=>some (bI xs j)
def j7(v:SV)(k:SV->Bool):Bool:=match v with
 |.int i=>cU i λi=>k (.int i)
 |.lin i=>cU i λi=>k (.lin i)
 |v=>k v
def ZE(ih:Ih)(c:Cx)(t:Expr)(body:List Stmt)(s:Src)(kx:KX)(f:Nat):Nat->St->KK->Bool:=
 Nat.rec (motive:=λO=>Nat->St->KK->Bool) (λO O O=>false) (λO rest j J k=>some? (AQ J s j) λd=>
  Option.rec (motive:=λO=>Bool) (k .next J) (λv=>j7 v λv=>bX ih c t v J (λJ=>ih (.exs body c) J (λr J=>
   Rs.rec (motive:=λO=>Bool) (λO=>false) (rest (Nat.succ j) J k) (λv=>k (.ret v) J) r) kx) kx) d) f
noncomputable def qU(ih:Ih)(c:Cx)(t:Expr)(body:List Stmt)(kx:KX):Nat->St->KK->Bool
 |0,_,_=>false
 |n+1,J,k=>PF ih t c J (λb J=>match b with
  |false=>k .next J
  |true=>ih (.exs body c) J (λr J=>match r with
   |.next=>qU ih c t body kx n J k
   |.ret v=>k (.ret v) J
   |_=>false) kx) kx
def i5(ih:Ih)(c:Cx)(kx:KX)(es:List Expr)(J:St)(k:Bool->St->Bool):Bool:=match es with
 | []=>k true J
 | [e]=>PF ih e c J k kx
 |_=>false
noncomputable def d7(ih:Ih)(c:Cx)(t:Expr)(ifs:List Expr)(e:Expr)(acc:Nat)(s:Src)(kx:KX):Nat->Nat->St->(St->Bool)->Bool
 |0,_,_,_=>false
 |f+1,j,J,k=>some? (AQ J s j) λd=>match d with
  |none=>k J
  |some v=>j7 v λv=>bX ih c t v J (λJ=>i5 ih c kx ifs J (λb J=>match b with
   |true=>ih (.ev e c) J (aL λx J=>h9 (J.T.get acc) λxs=>mM x xs λxs'=>j4 J acc (xs') λJ=>d7 ih c t ifs e acc s kx f (Nat.succ j) J k) kx
   |false=>d7 ih c t ifs e acc s kx f (Nat.succ j) J k)) kx
noncomputable def kW(L:List (Nm×SV))(k:KK)(v:SV)(J:St):Bool:=k (.val v) ⟨J.T,J.n,L,J.sy⟩
def aIl(L:List (Nm×SV))(k:KK)(r:Rs)(J:St):Bool:=Rs.rec (motive:=λO=>Bool) (λO=>false) (kW L k .none J) (λv=>kW L k v J) r
noncomputable def i6(L:List (Nm×SV))(kx:KX)(x:SV)(J:St):Bool:=kx x ⟨J.T,J.n,L,J.sy⟩
def dR(st:Stmt):List Nm:=(mJ st).args.map λa=>aA a.arg
def callFn(ih:Ih)(tb:Nat)(st:Stmt)(ds as:List SV)(J:St)(k:KK)(kx:KX):Bool:=
 some? (mN (dR st) as ds) λbs=>
  cH (bP st).names [] ⟨J.T,J.n,[],J.sy⟩ λcs τ=>
   eM ⟨(bP st).names,cs,tb⟩ bs τ λτ=>ih (.exs (fO st) ⟨(bP st).names,cs,tb⟩) τ (aIl J.L k) (i6 J.L kx)
def wD(a b:Int):Bool:=mO a&&mO b
def aIm(J:St)(k:KK)(o:SObj):Bool:=match o with
 |.list xs=>cT J xs (kv k)
 |.tup xs=>cT J xs (kv k)
 |.dict es=>Bool.rec (motive:=λO=>Bool) false (cT J (es.map (·.1)) (kv k)) (iA es)
 |.range a n=>cT J ((List.range n).map λ(j:Nat)=>SV.int (a+j)) (kv k)
 |.lrange a n=>cT J ((List.range n).map λ(j:Nat)=>SV.lin (a+j)) (kv k)
 |_=>false
def aOX(J:St)(k:KK)(v:SV):Bool:=v7 v λn=>Bool.rec (motive:=λO=>Bool) false (alloc J (.range 0 n) (kv k)) (Nat.blt n 1000)
def aIn(J:St)(k:KK)(v w:SV):Bool:=
 ilV v (λa=>DZ w λb=>Bool.rec (motive:=λO=>Bool) false (alloc J (.range a (Int.toNat (b-a))) (kv k)) (wD a b))
  (λa=>PC w λb=>Bool.rec (motive:=λO=>Bool) false (alloc J (.lrange a (Int.toNat (b-a))) (kv k)) (wD a b))
noncomputable def aOY(J:St)(k:KK)(o:SObj):Bool:=match o with|.exc .. =>k (.val .none) J|_=>false
def SU(as:List SV)(J:St)(k:KK):Bool:=one as λv=>lL v λi=>h9 (J.T.get i) λxs=>k (.val (.int (.ofNat (bA xs)))) J
def aIo(as:List SV)(J:St)(k:KK):Bool:=two as λv t=>okB (D8 J v t) J k
def SW(as:List SV)(J:St)(k:KK):Bool:=one as λv=>v7 v λn=>Bool.rec (motive:=λO=>Bool) false (k (.val (.str (wA (.ofNat n)))) J) (Nat.blt n 10)
def aIp(as:List SV)(J:St)(k:KK):Bool:=one as λv=>lL v λi=>some? (J.T.get i) (aIm J k)
def SX(as:List SV)(J:St)(k:KK):Bool:=v8 as (aOX J k) (aIn J k)
def SY(as:List SV)(J:St)(k:KK):Bool:=one as λv=>sY v λb=>k (.val (.int (yP b))) J
def aIq(as:List SV)(J:St)(k:KK):Bool:=two as λv w=>lL v λi=>vZ w λO=>some? (J.T.get i) (aOY J k)
def EJ(b:Nat)(as:List SV)(J:St)(k:KK):Bool:=
 fA (Nat.beq b 0) (SU as J k)<|fA (Nat.beq b 1) (aIo as J k)<|fA (Nat.beq b 2) (SW as J k)<|fA (Nat.beq b 3) (aIp as J k)<|
 fA (Nat.beq b 4) (SX as J k)<|fA (Nat.beq b 5) (SY as J k)<|fA (Nat.beq b 9) (aIq as J k) false
noncomputable def wE(n:Nat):List Nat:=List.range n
def lX(ih:Ih)(C:Nat)(as:List SV)(J:St)(k:KK)(kx:KX):Bool:=some? (aE aO C) λp=>
 some? (p.2.get (nm "__init__")) λf=>
  alloc J (Bool.rec (motive:=λO=>SObj) (.inst C []) (.exc C []) (aP p.1 39)) λx J=>
   ih (.call (.fn f) (x::as)) J (aL λv J=>match v with|.none=>k (.val x) J|_=>false) kx
def i7(m:Nat)(J:St)(k:KK):Bool:=Bool.rec (motive:=λO=>Bool) (bG (λd=>k (.val (.int (.ofNat d))) J) (wE m)) (k (.val (.lin 0)) ⟨J.T,J.n,J.L,false⟩) J.sy
def wF(i m:Nat)(J:St)(k:KK)(o:Option SObj):Bool:=match o with
 |some .box=>i7 m J k
 |some (.boxd j m' d)=>(match j with
  |0=>(match Nat.beq m m' with|true=>store J i .box (k (.val (.int (.ofNat d))))|false=>false)
  |j+1=>store J i (.boxd j m' d) λJ=>i7 m J k)
 |_=>false
def take(as:List SV)(J:St)(k:KK):Bool:=match as with
 | [.ref i,.int (.ofNat m)]=>Bool.rec (motive:=λO=>Bool) false (wF i m J k (J.T.get i)) (Nat.blt 0 m&&Nat.blt m 1000)
 |_=>false
noncomputable def qV(o:Option SObj):Bool:=match o with|some .box=>true|some (.boxd _ _ _)=>true|_=>false
def wG(as:List SV)(J:St):Bool:=match as with|.ref i::_=>qV (J.T.get i)|_=>false
def qW(ih:Ih)(o:Option SObj)(as:List SV)(J:St)(k:KK)(kx:KX):Bool:=match o,as with
 |some (.lam _ b sc cs),[]=>ih (.ev b ⟨sc.names,cs,0⟩) ⟨J.T,J.n,[],J.sy⟩ (aL (kW J.L k)) (i6 J.L kx)
 |_,_=>false
def cS(a:Nat):Nat:=fA (Nat.beq a 759) 756 (fA (Nat.beq a 764) 761 (fA (Nat.beq a 776) 771 0))
def callFn?(ih:Ih)(a:Nat)(as:List SV)(J:St)(k:KK)(kx:KX):Bool:=some? (aE iJ a) λp=>callFn ih (cS a) p.1 p.2 as J k kx
def tB(ih:Ih)(f:SV)(as:List SV)(J:St)(k:KK)(kx:KX):Bool:=match f with
 |.fn a=>Bool.rec (motive:=λO=>Bool) (callFn? ih a as J k kx) (take as J k) (match Nat.beq a 740 with|true=>wG as J|false=>false)
 |.cls C=>Bool.rec (motive:=λO=>Bool) false (lX ih C as J k kx) (Nat.blt (bA as) 20)
 |.bi b=>EJ b as J k
 |.ref i=>qW ih (J.T.get i) as J k kx
 |_=>false
def dE(C:Nat)(n:Nm):Option Nat:=match aE aO C with|some p=>p.2.get n|none=>none
def dictGet(J:St)(es:List (SV×SV))(as:List SV)(k:KK):Bool:=
 v8 as (λa=>some? (D5 J es a) λr=>k (.val (r.getD .none)) J) (λa d=>some? (D5 J es a) λr=>k (.val (r.getD d)) J)
inductive PM where
 |fn (f:Nat)|cf (f:Nat)|lapp (i:Nat)|lidx (i:Nat)|dget (o:SV)|dval (i:Nat)|ssplit (s:Nm)|sdig (s:Nm)|saln (s:Nm)|vinit
noncomputable def fW:Nm:=[95,95,105,110,105,116,95,95]
noncomputable def tC:Nm:=[97,112,112,101,110,100]
noncomputable def yW:Nm:=[105,110,100,101,120]
noncomputable def pF:Nm:=[103,101,116]
noncomputable def tE:Nm:=[118,97,108,117,101,115]
noncomputable def yX:Nm:=[115,112,108,105,116]
noncomputable def pG:Nm:=[105,115,100,105,103,105,116]
noncomputable def pH:Nm:=[105,115,97,108,110,117,109]
def aIr(i:Nat)(n:Nm):SObj->Option PM
 |.inst C es=>fA (cE n) (Option.rec (motive:=λO=>Option PM) ((dE C n).map .fn) (λO=>none) (aD es n)) none
 |.list _=>fA (cC n tC) (some (.lapp i)) (fA (cC n yW) (some (.lidx i)) none)
 |.dict _=>fA (cC n pF) (some (.dget (.ref i))) (fA (cC n tE) (some (.dval i)) none)
 |.mdict _ _=>fA (cC n pF) (some (.dget (.ref i))) none
 |_=>none
def aIs(J:St)(o:SV)(n:Nm):Option PM:=match o with
 |.ref i=>(match J.T.get i with|some ob=>aIr i n ob|none=>none)
 |.kref a=>(match aE d5 a with|some (.dict _)=>fA (cC n pF) (some (.dget (.kref a))) none|_=>none)
 |.cls C=>fA (cC n fW) ((dE C n).map .cf) none
 |.bi b=>fA (Nat.beq b 8&&cC n fW) (some .vinit) none
 |.str s=>fA (cC n yX) (some (.ssplit s)) (fA (cC n pG) (some (.sdig s)) (fA (cC n pH) (some (.saln s)) none))
 |_=>none
def EK(s:Nm):Bool:=bG (λc=>Nat.blt c 128) s
def EL(ih:Ih)(o:SV)(as:List SV)(J:St)(k:KK)(kx:KX):PM->Bool
 |.fn f=>ih (.call (.fn f) (o::as)) J k kx
 |.cf f=>ih (.call (.fn f) as) J k kx
 |.vinit=>ih (.call (.bi 9) as) J k kx
 |.lapp i=>one as λv=>h9 (J.T.get i) λxs=>mM v xs λxs'=>j4 J i (xs') λJ=>k (.val .none) J
 |.lidx i=>one as λv=>h9 (J.T.get i) λxs=>some? (iX J xs v) λr=>some? r λj=>k (.val (.int (.ofNat j))) J
 |.dget o=>some? (iV J o) λob=>(match ob with|.dict es=>dictGet J es as k|.mdict es ab=>aIj J es ab as k|_=>false)
 |.dval i=>Bool.rec (motive:=λO=>Bool) false (some? (J.T.get i) λob=>(match ob with|.dict _=>alloc J (.vals i) (kv k)|_=>false)) (j0 as)
 |.ssplit s=>one as λv=>vZ v λsep=>Bool.rec (motive:=λO=>Bool) false (qR s [] λps=>Bool.rec (motive:=λO=>Bool) false (cT J ps (kv k)) (fV ps (Txt.split ⟨s.toArray⟩ ⟨[32].toArray⟩))) (cC sep [32]&&cP s)
 |.sdig s=>Bool.rec (motive:=λO=>Bool) false (one s λc=>Bool.rec (motive:=λO=>Bool) false (k (.val (.bool (pD c))) J) (EK s)) (j0 as)
 |.saln s=>Bool.rec (motive:=λO=>Bool) false (one s λc=>Bool.rec (motive:=λO=>Bool) false (k (.val (.bool (pD c||EB c))) J) (EK s)) (j0 as)
noncomputable def yY(ih:Ih)(c:Cx):List (Option Expr)->List Expr->St->(List (SV×SV)->St->Bool)->KX->Bool
 | [],[],J,k,_=>k [] J
 |some e::ks,v::vs,J,k,kx=>ih (.ev e c) J (aL λkv J=>ih (.ev v c) J (aL λvv J=>yY ih c ks vs J (λes J=>k ((kv,vv)::es) J) kx) kx) kx
 |_,_,_,_,_=>false
noncomputable def qX:List (SV×SV)->Bool
 | []=>true
 |p::l=>match p.1 with
  |.str n=>(match cR l n with|none=>qX l|some _=>false)
  |_=>false
def sub(J:St)(o i:SV)(k:KK):Bool:=match iV J o with
 |some (.list xs)=>match i with
  |.int z=>some? (idx (bA xs) z) λm=>some? (bI xs m) λv=>k (.val v) J
  |_=>false
 |some (.tup xs)=>match i with
  |.int z=>some? (idx (bA xs) z) λm=>some? (bI xs m) λv=>k (.val v) J
  |_=>false
 |some (.dict es)=>match D5 J es i with|some (some v)=>k (.val v) J|_=>false
 |_=>match o,i with
  |.str s,.int z=>Bool.rec (motive:=λO=>Bool) false (some? (idx (bA s) z) λm=>some? (bI s m) λc=>k (.val (.str [c])) J) (cP s)
  |_,_=>false
def qY(a:Const)(J:St)(k:KK):Bool:=match a with
 |.none=>k (.val .none) J
 |.bool b=>k (.val (.bool b)) J
 |.int i=>k (.val (.int i)) J
 |.str s=>k (.val (.str (aA s))) J
 |_=>false
def EM(ih:Ih)(o:Expr)(n:Str)(c:Cx)(J:St)(k:KK)(kx:KX):Bool:=ih (.ev o c) J (aL λv J=>some? (aIh J v (aA n)) λr=>k (.val r) J) kx
def yZ(ih:Ih)(o:Expr)(n:Str)(as:List Expr)(c:Cx)(J:St)(k:KK)(kx:KX):Bool:=
 ih (.ev o c) J (aL λov J=>some? (aIs J ov (aA n)) λpm=>CS ih c kx as J λvs J=>EL ih ov vs J k kx pm) kx
def y5(ih:Ih)(f:Expr)(as:List Expr)(c:Cx)(J:St)(k:KK)(kx:KX):Bool:=
 ih (.ev f c) J (aL λfv J=>CS ih c kx as J λvs J=>ih (.call fv vs) J k kx) kx
noncomputable def noStar(e:Expr):Bool:=match e with|.Starred .. =>false|_=>true
def PG(ih:Ih)(f:Expr)(as:List Expr)(pos:Pos)(c:Cx)(J:St)(k:KK)(kx:KX):Bool:=match f with
 |.Attribute o n apos=>Bool.rec (motive:=λO=>Bool) false (yZ ih o n as c J k kx) (Nat.beq apos.endLine pos.line&&Nat.blt (bA as) 20)
 |f=>y5 ih f as c J k kx
def EN(ih:Ih)(f:Expr)(as:List Expr)(kws:List Keyword)(pos:Pos)(c:Cx)(J:St)(k:KK)(kx:KX):Bool:=match kws with
 | []=>Bool.rec (motive:=λO=>Bool) false (PG ih f as pos c J k kx) (bG noStar as)
 |_=>false
noncomputable def isOr:BoolOp->Bool|.Or=>true|.And=>false
def aIt(ih:Ih)(op:UnaryOp)(x:Expr)(c:Cx)(J:St)(k:KK)(kx:KX):Bool:=match op with
 |.Not=>PF ih x c J (λb J=>k (.val (.bool (!b))) J) kx
 |.USub=>ih (.ev x c) J (aL λv J=>match v with|.int i=>cU (Int.neg i) λz=>k (.val (.int z)) J|_=>false) kx
 |_=>false
def EO(ih:Ih)(a b:Tk)(k:KK)(kx:KX)(r:Bool)(J:St):Bool:=Bool.rec (motive:=λO=>Bool) (ih b J k kx) (ih a J k kx) r
def ZF(ih:Ih)(t a b:Expr)(c:Cx)(J:St)(k:KK)(kx:KX):Bool:=PF ih t c J (EO ih (.ev a c) (.ev b c) k kx) kx
def mQ(ih:Ih)(l r:Expr)(c:Cx)(J:St)(f:SV->SV->St->Bool)(kx:KX):Bool:=
 ih (.ev l c) J (aL λa J=>ih (.ev r c) J (aL λb J=>f a b J) kx) kx
def tF(ih:Ih)(l:Expr)(ops:List CmpOp)(rs:List Expr)(c:Cx)(J:St)(k:KK)(kx:KX):Bool:=match ops,rs with
 | [op],[r]=>mQ ih l r c J (λa b J=>okB (cmp op a b J) J k) kx
 |_,_=>false
def qZ(k:KK)(vs:List SV)(J:St):Bool:=cT J (vs) (kv k)
def y6(k:KK)(vs:List SV)(J:St):Bool:=qP J vs (kv k)
noncomputable def rA:List (Option Expr)->List Expr->Bool
 | [],[]=>true
 |some _::ks,_::vs=>rA ks vs
 |_,_=>false
def EP(ih:Ih)(ks:List (Option Expr))(vs:List Expr)(c:Cx)(J:St)(k:KK)(kx:KX):Bool:=
 Bool.rec (motive:=λO=>Bool) false (yY ih c ks vs J (λes J=>Bool.rec (motive:=λO=>Bool) false (D0 J (es) (kv k)) (qX es)) kx) (rA ks vs&&Nat.ble (bA vs) 15)
def aIu{α:Type}(n:Nat)(l:List α):Bool:=Nat.blt n (bA l)
def tG(xs:List SV)(a b:SV)(J:St)(k:KK):Bool:=Bool.rec (motive:=λO=>Bool) false (v7 b λn=>Bool.rec (motive:=λO=>Bool) false (y6 k (pC n xs) J) (aIu n xs)) (aIe a)
def ZG(a b:SV)(J:St)(k:KK)(o:SObj):Bool:=match o with
 |.tup xs=>tG xs a b J k
 |.list xs=>some? (cut xs a b) λys=>qZ k ys J
 |_=>false
def rB(ov a b:SV)(J:St)(k:KK):Bool:=match ov with
 |.str x=>Bool.rec (motive:=λO=>Bool) false (some? (cut x a b) λy=>k (.val (.str y)) J) (cP x)
 |.ref i=>some? (J.T.get i) (ZG a b J k)
 |_=>false
def SZ(ih:Ih)(o s:Expr)(c:Cx)(J:St)(k:KK)(kx:KX):Bool:=match s with
 |.Slice lo hi none _=>ih (.ev o c) J (aL λov J=>iY ih c lo J (λa J=>iY ih c hi J (λb J=>rB ov a b J k) kx) kx) kx
 |s=>mQ ih o s c J (λov iv J=>sub J ov iv k) kx
def ZH(J:St)(v:SV)(ifs:List Expr)(e:Expr):Option Src:=
 Option.rec (motive:=λO=>Option Src) (fA (j0 ifs&&d6 4 e) (aIk J v) none) some (pE J v)
def j8(ih:Ih)(e:Expr)(gs:List Comprehension)(sc:Scope)(c:Cx)(J:St)(k:KK)(kx:KX):Bool:=match gs with
 | [⟨t,it,ifs,.ofNat 0⟩]=>Bool.rec (motive:=λO=>Bool) false (Bool.rec (motive:=λO=>Bool) false (ih (.ev it c) J (aL λv J=>some? (ZH J v ifs e) λs=>
     alloc J (.list []) λav τ=>match av with
      |.ref acc=>d7 ih ⟨sc.names,c.cells,0⟩ t ifs e acc s (i6 J.L kx) 100 0 ⟨τ.T,τ.n,[],τ.sy⟩ (λτ=>kW J.L k (.ref acc) τ)
      |_=>false) kx) (EI sc c)) (AP t sc.names)
 |_=>false
noncomputable def S0(ps:Arguments):Bool:=ps.posonlyargs.isEmpty&&ps.args.isEmpty&&ps.vararg.isNone&&ps.kwonlyargs.isEmpty&&ps.kw_defaults.isEmpty&&ps.kwarg.isNone&&ps.defaults.isEmpty
def EQ(ps:Arguments)(b:Expr)(sc:Scope)(c:Cx)(J:St)(k:KK):Bool:=Bool.rec (motive:=λO=>Bool) false (alloc J (.lam ps b sc c.cells) (kv k)) (!(Nat.beq c.tab 0)&&S0 ps&&EI sc c)
def evE(ih:Ih)(e:Expr)(c:Cx)(J:St)(k:KK)(kx:KX):Bool:=match e with
 |.Constant a _ _=>qY a J k
 |.Name n _=>eN c (aA n) J (kv k)
 |.Attribute o n _=>EM ih o n c J k kx
 |.Call f as kws p=>EN ih f as kws p c J k kx
 |.BoolOp op vs _=>gL ih c (isOr op) kx vs J k
 |.UnaryOp op x _=>aIt ih op x c J k kx
 |.IfExp t a b _=>ZF ih t a b c J k kx
 |.Compare l ops rs _=>tF ih l ops rs c J k kx
 |.BinOp l op r _=>mQ ih l r c J (λa b J=>yS op a b J k) kx
 |.List es _=>CS ih c kx es J (qZ k)
 |.Tuple es _ _=>CS ih c kx es J (y6 k)
 |.Dict ks vs _=>EP ih ks vs c J k kx
 |.Lambda ps b sc _=>EQ ps b sc c J k
 |.Subscript o s _=>SZ ih o s c J k kx
 |.ListComp e gs sc _=>j8 ih e gs sc c J k kx
 |_=>false
def S3(ih:Ih)(e:Option Expr)(c:Cx)(J:St)(k:KK)(kx:KX):Bool:=match e with
 |none=>k (.ret .none) J
 |some e=>ih (.ev e c) J (aL λv J=>k (.ret v) J) kx
noncomputable def mR(e:Expr):Bool:=match e with|.Call .. =>true|_=>false
noncomputable def rC(e:Expr):Bool:=match e with|.Tuple .. =>true|_=>false
def d8(es:List Expr):Bool:=List.rec (motive:=λO=>Bool) false (λe O ih=>Bool.rec (motive:=λO=>Bool) ih true (mR e)) es
noncomputable def i8(e:Expr):Bool:=match e with|.List .. =>false|_=>true
def aIv(t e:Expr):Bool:=match e with
 |.Tuple es _ _=>Bool.rec (motive:=λO=>Bool) (i8 t) (d8 es) (rC t)
 |_=>i8 t
def y7(ih:Ih)(ts:List Expr)(e:Expr)(c:Cx)(J:St)(k:KK)(kx:KX):Bool:=match ts with
 | [t]=>Bool.rec (motive:=λO=>Bool) false (ih (.ev e c) J (aL λv J=>bX ih c t v J (k .next) kx) kx) (aIv t e)
 |_=>false
def aIw(op:Operator)(a b:SV)(k:SV->Bool):Bool:=match op with
 |.Add=>(match a with
  |.int x=>(match b with|.int y=>cU (Int.add x y) λz=>k (.int z)|_=>false)
  |.lin x=>(match b with|.int y=>cU (Int.add x y) λz=>k (.lin z)|_=>false)
  |_=>false)
 |_=>false
def S4(ih:Ih)(t:Expr)(op:Operator)(e:Expr)(c:Cx)(J:St)(k:KK)(kx:KX):Bool:=match t with
 |.Attribute o n _=>ih (.ev o c) J (aL λov J=>some? (aIh J ov (aA n)) λold=>
    ih (.ev e c) J (aL λv J=>aIw op old v λz=>setAttr J ov (aA n) z (k .next)) kx) kx
 |_=>false
def S5(ih:Ih)(t it:Expr)(body:List Stmt)(c:Cx)(J:St)(k:KK)(kx:KX):Bool:=
 ih (.ev it c) J (aL λv J=>some? (pE J v) λs=>ZE ih c t body s kx 100 0 J k) kx
def cX(n:Nat):Expr->Bool:=Nat.rec (motive:=λO=>Expr->Bool) (λO=>false) (λO r e=>match e with
 |.Constant .. =>true
 |.Name .. =>true
 |.Attribute o _ _=>r o
 |.Tuple es _ _=>bG r es
 |.BoolOp _ es _=>bG r es
 |.Compare l _ rs _=>r l&&bG r rs
 |.BinOp l _ x _=>r l&&r x
 |_=>false) n
def aIx(s:Stmt)(f:Expr->Bool):Bool:=match s with
 |.Return e _=>some? e f
 |_=>false
def dS(ss:List Stmt):Bool:=one ss λs=>aIx s (cX 8)
noncomputable def mS(n:Nm):List (Nm×SV)->List (Nm×SV)
 | []=>[]
 |p::l=>match cC p.1 n with|true=>mS n l|false=>p::mS n l
def y8(c:Cx)(n:Nm):Bool:=match aF c.names n with|some .local=>true|_=>false
def wH(ih:Ih)(n:Option Str)(h:List Stmt)(c:Cx)(k:KK)(x:SV)(J:St):Bool:=match n with
 |some n=>Bool.rec (motive:=λO=>Bool) false (dP c (aA n) x J λJ=>ih (.exs h c) J (λr J=>k r ⟨J.T,J.n,mS (aA n) J.L,J.sy⟩) (λO O=>false)) (y8 c (aA n))
 |none=>ih (.exs h c) J k (λO O=>false)
def ER(ih:Ih)(body:List Stmt)(hs:List ExceptHandler)(c:Cx)(J:St)(k:KK)(kx:KX):Bool:=match hs with
 | [.ExceptHandler (some t) n h _]=>Bool.rec (motive:=λO=>Bool) false (ih (.exs body c) J k (λx J=>ih (.ev t c) J (aL λtv J=>some? (D9 J x tv) λb=>fA b (wH ih n h c k x J) (kx x J)) (λO O=>false))) (d6 4 t&&dS h)
 |_=>false
def aIy(v:SV)(J:St)(kx:KX):Bool:=match v with
 |.ref i=>(match J.T.get i with|some (.exc ..)=>kx v J|_=>false)
 |_=>false
def y9(ih:Ih)(e:Option Expr)(c:Cx)(J:St)(kx:KX):Bool:=match e with
 |some e=>ih (.ev e c) J (aL λv J=>aIy v J kx) kx
 |none=>false
def ES(ih:Ih)(e:Expr)(c:Cx)(J:St)(k:KK)(kx:KX):Bool:=match e with
 |.ListComp .. =>false
 |.SetComp .. =>false
 |.DictComp .. =>false
 |e=>ih (.ev e c) J (aL λO J=>k .next J) kx
def exE(ih:Ih)(s:Stmt)(c:Cx)(J:St)(k:KK)(kx:KX):Bool:=match s with
 |.Expr e _=>ES ih e c J k kx
 |.Return e _=>S3 ih e c J k kx
 |.Assign ts e _=>y7 ih ts e c J k kx
 |.AugAssign t op e _=>S4 ih t op e c J k kx
 |.If t a b _=>PF ih t c J (EO ih (.exs a c) (.exs b c) k kx) kx
 |.For t it body [] _=>S5 ih t it body c J k kx
 |.While t body [] _=>qU ih c t body kx 20 J k
 |.Raise e none _=>y9 ih e c J kx
 |.Try body hs [] [] _=>ER ih body hs c J k kx
 |.Pass _=>k .next J
 |_=>false
def exS(ih:Ih)(ss:List Stmt)(c:Cx)(J:St)(k:KK)(kx:KX):Bool:=match ss with
    | []=>k .next J
    |s::ss=>exE ih s c J (λr J=>Rs.rec (motive:=λO=>Bool) (λO=>false) (ih (.exs ss c) J k kx) (λv=>k (.ret v) J) r) kx
def step(ih:Ih):Ih:=λt J k kx=>Tk.rec (motive:=λO=>Bool) (λe c=>evE ih e c J k kx) (λss c=>exS ih ss c J k kx) (λf as=>tB ih f as J k kx) t
def run(n:Nat):Ih:=Nat.rec (motive:=λO=>Ih) (λO O O O=>false) (λO ih=>step ih) n
def isTrue(r:Rs):Bool:=match r with|.val (.bool b)=>b|_=>false
def dN:KX:=λO O=>false
end
end
section
theorem i9{k n a:Nat}(h:Nat.ble (n+1) k=true):¬a+k≤n:=Nat.not_le_of_gt (Nat.lt_of_lt_of_le (Nat.le_of_ble_eq_true h) (Nat.le_add_left k a))
theorem bnd{a x m n k:Nat}(h:a+x<m)(hk:Nat.ble (m+k) n=true):a+k<n:=Nat.lt_of_lt_of_le (Nat.add_lt_add_right (Nat.lt_of_le_of_lt (Nat.le_add_right a x) h) k) (Nat.le_of_ble_eq_true hk)
theorem ET{a:Nat}(h:a≤1000):(a:Int)<2^63:=Int.lt_of_le_of_lt (Int.ofNat_le.mpr h) (by decide)
theorem aOZ{a b:Nat}:a+12*(b+1)<9800->a+1+12*b<9800:=λh=>Nat.lt_of_le_of_lt (Nat.le_trans (Nat.le_of_eq (Nat.add_right_comm a 1 _)) (Nat.add_le_add_left (Nat.le_add_right 1 11) (a+12*b))) h
theorem aIz{a b c:Nat}:a+1≤b+c->c<a->b-1<b:=λh i=>Nat.sub_lt (Nat.pos_of_ne_zero λe=>Nat.not_lt_of_le (Nat.le_of_succ_le (Nat.le_trans h (Nat.le_of_eq (e▸Nat.zero_add c)))) i) Nat.one_pos
theorem aIA{a b c:Nat}:a+1≤b+c->a+1≤b-1+(c+1):=λh=>Nat.le_trans h (match b with|0=>Nat.add_le_add_left (Nat.le_add_right c 1) 0|b+1=>Nat.le_of_eq (Nat.succ_add_eq_add_succ b c))
theorem aIB{a b:Nat}:2*a+1=2*b->False:=λh=>absurd (congrArg (· %2) h) (by rw[Nat.mul_add_mod,Nat.mul_mod_right];decide)
theorem aPa{a b:Nat}:2*a=2*b+1->False:=λh=>aIB h.symm
theorem ZI{a b c:Int}:a<b->0≤c->a≠c+b:=λh i e=>Int.not_lt.mpr (Int.le_trans (Int.le_of_eq (Int.zero_add b).symm) (Int.add_le_add_right i b)) (e▸h)
theorem aIC{a b c:Int}:a<b->0≤c->c+b≠a:=λh i e=>ZI h i e.symm
theorem aPb{a b:Nat}{c:Int}:a<b->b≤1000->c=(↑a:Int)->c<2^63:=λh1 h2 h3=>h3▸ET (Nat.le_of_lt (Nat.lt_of_lt_of_le h1 h2))
theorem aID{a:Int}{b c:Nat}:a+(↑b:Int)=(↑c:Int)-> -(↑b:Int)≤a:=λh=>Int.neg_le_of_neg_le (Int.le_of_sub_nonneg (by rw[Int.sub_neg,Int.add_comm,h];exact Int.natCast_nonneg c))
theorem aIE{a:Nat}{b:Int}{c:Nat}:a≤1000->b+(↑a:Int)=(↑c:Int)-> -2^63≤b:=λh i=>Int.le_trans (Int.le_trans (by decide) (Int.neg_le_neg (Int.ofNat_le.mpr h))) (aID i)
theorem aIF{a:Nat}{b:Int}{c:Nat}:a≤1000->0≤b/\b=(↑c:Int)∨b<0/\b+(↑a:Int)=(↑c:Int)-> -2^63≤b:=λh i=>i.elim (λi=>Int.le_trans (by decide) i.1) λi=>aIE h i.2
theorem aIG{a b:Nat}{c:Int}:a<b->b≤1000->0≤c/\c=(↑a:Int)∨c<0/\c+(↑b:Int)=(↑a:Int)->c<2^63:=λh i j=>j.elim (λj=>aPb h i j.2) λj=>Int.lt_trans j.1 (by decide)
theorem aPc{a b:Nat}{c:Int}:a≤1000->b<a->0≤c/\c=(↑b:Int)∨c<0/\c+(↑a:Int)=(↑b:Int)->¬c< -2^63/\¬c≥2^63:=λh i j=>⟨Int.not_lt.mpr (aIF h j),Int.not_le.mpr (aIG i h j)⟩
theorem aPd{a:Nat}:3<0+1+1+1+1+1+a:=Nat.le_add_right_of_le (m:=5) (by decide)
theorem aPe{a b:Int}:a<b->b-a-1+1=(↑(b-a).toNat:Int):=λh=>(Int.sub_add_cancel (b-a) 1).trans (Int.toNat_of_nonneg (Int.sub_nonneg_of_le (Int.le_of_lt h))).symm
theorem aPf{a b:Int}:¬a<b->0=(↑(b-a).toNat:Int):=λh=>congrArg Int.ofNat (Int.toNat_of_nonpos (Int.sub_nonpos_of_le (Int.not_lt.mp h))).symm
theorem aPg{a b:Int}: -5000<a->b<5000->(↑(b-a).toNat:Int)<20000:=λh i=>(Int.toNat_eq_max (b-a)).symm▸Int.max_lt.mpr ⟨Int.lt_of_le_of_lt (Int.sub_le_sub (Int.le_of_lt i) (Int.le_of_lt h)) (by decide),by decide⟩
theorem aIH{a:Nat}{b:Int}{c:Nat}:(↑a:Int)=Max.max 0 (Min.min b (↑c:Int))->a≤c:=λh=>Int.ofNat_le.mp (Int.le_trans (Int.le_of_eq h) (Int.max_le.mpr ⟨Int.natCast_nonneg c,Int.min_le_right b c⟩))
theorem aII{a b c:Nat}:a≤b->c≤b->c-a=b->a=0/\c=b:=λh i j=>have:c=b:=Nat.le_antisymm i (j▸Nat.sub_le c a);⟨Nat.eq_zero_of_not_pos λq=>Nat.ne_of_lt (Nat.sub_lt (Nat.lt_of_lt_of_le q (this▸h)) q) (j.trans this.symm),this⟩
theorem aIJ{a:Nat}:((↑a:Int)-0-1+1).toNat=a:=by rw[Int.sub_zero,Int.sub_add_cancel];rfl
theorem aIK{a:Nat}:(0+(↑a:Int)*1).toNat=0+a:=by rw[Int.zero_add,Int.mul_one,Nat.zero_add];rfl
theorem S6{a b:Int}: -5000<a->b<5000->(b-a).toNat≤2^24:=λh i=>Int.toNat_le.mpr (Int.le_trans (Int.sub_le_sub (Int.le_of_lt i) (Int.le_of_lt h)) (by decide))
theorem S7{a b c:Nat}:a≤b->b-a≤c->a+(c-(c-(b-a)))=b:=λh i=>by rw[Nat.sub_sub_self i,Nat.add_sub_cancel' h]
theorem aIL{a b:Int}: -1001<a/\a<1000/\ -1001<b/\b<1000-> -5000<a/\a<5000/\ -5000<b/\b<5000:=λ⟨h,i,j,k⟩=>⟨Int.lt_trans (by decide) h,Int.lt_trans i (by decide),Int.lt_trans (by decide) j,Int.lt_trans k (by decide)⟩
theorem aIM{a b c:Int}: -1001<a/\a<1000/\ -1001<b/\b<1000->0≤c/\c<1000-> -5000<c+a/\c+a<5000/\ -5000<c+b/\c+b<5000:=λ⟨h,i,j,k⟩ ⟨l,m⟩=>have A:∀{x:Int},-1001<x-> -5000<c+x:=λq=>Int.lt_of_lt_of_le (Int.lt_trans (by decide) q) (Int.le_add_of_nonneg_left l);have B:∀{x:Int},x<1000->c+x<5000:=λq=>Int.lt_trans (Int.add_lt_add m q) (by decide);⟨A h,B i,A j,B k⟩
theorem aIN{a b:Nat}:a+12*(b+1)<9800->a+3+12*b<9800:=λh=>Nat.lt_of_le_of_lt (Nat.le_trans (Nat.le_of_eq (Nat.add_right_comm a 3 _)) (Nat.add_le_add_left (Nat.le_add_right 3 9) (a+12*b))) h
theorem aIO{a b c d e f:Nat}:a-b≤c->a=d->b=e->c=f->d-e≤f:=λh i j k=>i▸j▸k▸h
theorem aIP{a b c:Nat}:a-b=c+1->¬b=a:=λh e=>Nat.succ_ne_zero _ (h.symm.trans (e▸Nat.sub_self _))
theorem aIQ{a b c:Nat}:a-b=c+1->b+1≤a:=λh=>Nat.lt_of_sub_pos (Nat.lt_of_lt_of_eq (Nat.succ_pos c) h.symm)
theorem aIR{a:Nat}:(↑(a+1):Int)-1=(↑a:Int):=Int.add_sub_cancel (a:Int) 1
theorem aIS{a b:Nat}:a=Min.min 40 b->b=0->a=0:=λh i=>h.trans (i▸Nat.min_zero 40)
theorem aIT{a:Nat}: -5000<(0:Int)/\(0:Int)<5000/\ -5000<(↑(1+Min.min 2 (a / 8)):Int)/\(↑(1+Min.min 2 (a / 8)):Int)<5000:=⟨by decide,by decide,Int.lt_of_lt_of_le (by decide) (Int.natCast_nonneg _),Int.lt_of_le_of_lt (Int.ofNat_le.mpr (Nat.add_le_add_left (Nat.min_le_left 2 (a/8)) 1)) (by decide)⟩
theorem aIU{a:Nat}:Min.min 2 (a / 8)=0∨Min.min 2 (a / 8)=1∨Min.min 2 (a / 8)=2:=have h:min 2 (a/8)≤2:=Nat.min_le_left _ _;match min 2 (a/8),h with|0,_=>.inl rfl|1,_=>.inr (.inl rfl)|2,_=>.inr (.inr rfl)
theorem aIV{a b c:Nat}:a+1≤b/\b<a+1+c->b-a=b-(a+1)+1:=λh=>(Nat.sub_add_cancel (Nat.sub_pos_of_lt h.1)).symm
theorem aIW{a b c:Nat}:¬a=b->¬(b+1≤a/\a<b+1+c)->¬(b≤a/\a<b+(c+1)):=λh i j=>i ⟨Nat.lt_of_le_of_ne j.1 λe=>h e.symm,Nat.lt_of_lt_of_eq j.2 (Nat.succ_add_eq_add_succ b c).symm⟩
theorem aIX{a:Int}:6≤a->a<900->0≤a-6/\a-6<1000:=λh i=>⟨Int.sub_nonneg_of_le h,Int.lt_of_le_of_lt (Int.sub_le_self a (by decide)) (Int.lt_trans i (by decide))⟩
theorem aIY{a:Int}{b:Nat}:6≤a->6≤b->6≤a-6+(↑b:Int):=λh i=>Int.le_trans (Int.ofNat_le.mpr i) (Int.le_add_of_nonneg_left (Int.sub_nonneg_of_le h))
theorem aIZ{a:Nat}{b:Int}:a≤20->b-6+(↑a:Int)≤b+14:=λh=>Int.le_trans (Int.add_le_add_left (Int.ofNat_le.mpr h) (b-6)) (Int.le_of_eq (by rw[Int.sub_eq_add_neg,Int.add_assoc];rfl))
theorem aJa{a b c d:Nat}:a≤b+c->c≤15->d=5->a≤b+10+d:=λh i j=>Nat.le_trans h (Nat.le_trans (Nat.add_le_add_left i b) (Nat.le_of_eq (j▸rfl)))
theorem aJb{a:Nat}{b:Int}:a<4->b≤6+14*(↑a:Int)->b<900:=λh i=>Int.lt_of_le_of_lt i (Int.lt_of_le_of_lt (Int.add_le_add_left (Int.mul_le_mul_of_nonneg_left (Int.ofNat_le.mpr (Nat.le_of_lt h)) (by decide)) 6) (by decide))
theorem aJc{a b:Nat}:a<4->b≤10*a->b+10≤900:=λh i=>Nat.le_trans (Nat.add_le_add_right (Nat.le_trans i (Nat.mul_le_mul_left 10 (Nat.le_of_lt h))) 10) (by decide)
theorem aJd{a:Int}{b:Nat}{c:Int}:a≤6+14*(↑b:Int)->c≤a+14->c≤6+14*((↑b:Int)+1):=λh i=>Int.le_trans i (Int.le_trans (Int.add_le_add_right h 14) (Int.le_of_eq (by rw[Int.mul_add,Int.add_assoc];rfl)))
theorem ngl{n m:Nat}(h:n<m):Int.negSucc m<Int.negSucc n:=Int.neg_lt_neg (Int.ofNat_lt.mpr (Nat.succ_lt_succ h))
end
section
theorem ff{P:Prop}(h:false=true):P:=by cases h
theorem fo{α:Type _}{a:α}{P:Prop}(h:(none:Option α)=some a):P:=by cases h
theorem hold{P:Prop}(h:∀G:Prop,(P->G)->G):P:=h P id
theorem os{α:Type _}{a b:α}{P:α->Prop}(h:some a=some b)(p:P a):P b:=Option.some.inj h▸p
theorem aM(h:(a&&b)=true):a=true/\b=true:=Bool.and_eq_true_iff.mp h
theorem hV(h:(a&&b&&c)=true):(a=true/\b=true)/\c=true:=⟨aM (aM h).1,(aM h).2⟩
theorem tH(h:(a&&b&&c&&d)=true):((a=true/\b=true)/\c=true)/\d=true:=⟨hV (aM h).1,(aM h).2⟩
theorem EU(h:(a&&b&&c&&d&&e)=true):(((a=true/\b=true)/\c=true)/\d=true)/\e=true:=⟨tH (aM h).1,(aM h).2⟩
theorem EV(h:(a&&b&&c&&d&&e&&f)=true):((((a=true/\b=true)/\c=true)/\d=true)/\e=true)/\f=true:=⟨EU (aM h).1,(aM h).2⟩
theorem PH(h:(a&&b&&c&&d&&e&&f&&g)=true):(((((a=true/\b=true)/\c=true)/\d=true)/\e=true)/\f=true)/\g=true:=⟨EV (aM h).1,(aM h).2⟩
theorem eO(h:fA b (some x) o=some y):(b=true/\x=y)∨o=some y:=by
 induction b with
 |true=>exact .inl ⟨rfl,Option.some.inj h⟩
 |false=>exact .inr h
theorem bL{α:Type}{b:Bool}{y:α}{o:Option α}(h:fA b o none=some y):b=true/\o=some y:=by
 induction b with
 |true=>exact⟨rfl,h⟩
 |false=>exact fo h
theorem fC{α:Type}{l:List α}(h:j0 l=true):l=[]:=by induction l using List.casesOn with|cons a l=>exact ff h|nil=>rfl
theorem dF{α:Type}{l:List α}{f:α->Bool}(h:one l f=true):∃v,l=[v]/\f v=true:=by
 induction l using List.casesOn with
 |nil=>exact ff h
 |cons v l=>induction l using List.casesOn with
  |nil=>exact⟨v,rfl,h⟩
  |cons _ _=>exact ff h
theorem c9{o:Option SObj}{f:List SV->Bool}(h:h9 o f=true):∃xs,o=some (.list xs)/\f xs=true:=by
 induction o with
 |none=>exact ff h
 |some o=>induction o with
  |list xs=>exact⟨xs,rfl,h⟩
  |_=>exact ff h
theorem lY{v:SV}{f:Nm->Bool}(h:vZ v f=true):∃n,v= .str n/\f n=true:=by induction v with|str n=>exact⟨n,rfl,h⟩|_=>exact ff h
theorem dT(h:fA b x y=true):(b=true/\x=true)∨y=true:=by
 induction b with
 |true=>exact .inl ⟨rfl,h⟩
 |false=>exact .inr h
theorem d9{v:SV}{f:Nat->Bool}(h:lL v f=true):∃n,v= .ref n/\f n=true:=by induction v with|ref n=>exact⟨n,rfl,h⟩|_=>exact ff h
theorem tI{v:SV}{f:Bool->Bool}(h:sY v f=true):∃n,v= .bool n/\f n=true:=by induction v with|bool n=>exact⟨n,rfl,h⟩|_=>exact ff h
theorem rE{v:SV}{f:Int->Bool}(h:DZ v f=true):∃n,v= .int n/\f n=true:=by induction v with|int n=>exact⟨n,rfl,h⟩|_=>exact ff h
theorem zA{v:SV}{f:Int->Bool}(h:PC v f=true):∃n,v= .lin n/\f n=true:=by induction v with|lin n=>exact⟨n,rfl,h⟩|_=>exact ff h
theorem gN{v:SV}{f:Nat->Bool}(h:v7 v f=true):∃n,v= .int (.ofNat n)/\f n=true:=by
 obtain⟨z,rfl,h⟩:=rE h
 induction z with
 |ofNat n=>exact⟨n,rfl,h⟩
 |negSucc _=>exact ff h
theorem wI{α:Type}{l:List α}{f:α->α->Bool}(h:two l f=true):∃v w,l=[v,w]/\f v w=true:=by
 induction l using List.casesOn with
 |nil=>exact ff h
 |cons v l=>obtain⟨w,rfl,h⟩:=dF h;exact⟨v,w,rfl,h⟩
theorem pI{α:Type}{l:List α}{f:α->Bool}{g:α->α->Bool}(h:v8 l f g=true):(∃v,l=[v]/\f v=true)∨∃v w,l=[v,w]/\g v w=true:=by
 induction l using List.casesOn with
 |nil=>exact ff h
 |cons v l=>induction l using List.casesOn with
  |nil=>exact .inl ⟨v,rfl,h⟩
  |cons w l=>induction l using List.casesOn with
   |nil=>exact .inr ⟨v,w,rfl,h⟩
   |cons _ _=>exact ff h
theorem ZJ{v:SV}{f g:Int->Bool}(h:ilV v f g=true):(∃n,v= .int n/\f n=true)∨∃n,v= .lin n/\g n=true:=by
 induction v with
 |int n=>exact .inl ⟨n,rfl,h⟩
 |lin n=>exact .inr ⟨n,rfl,h⟩
 |_=>exact ff h
def EW(f:Bool->Bool)(v:Value):Bool:=Value.rec (motive:=λO=>Bool) false false false f (λO O=>false) (λO O=>false) (λO O=>false) (λO O=>false) (λO=>false) (λO=>false) (λO=>false) v
def S8(f:Int->Bool)(v:Value):Bool:=Value.rec (motive:=λO=>Bool) false false false (λO=>false) (λi O=>f i) (λO O=>false) (λO O=>false) (λO O=>false) (λO=>false) (λO=>false) (λO=>false) v
def kX(f:Str->Bool)(v:Value):Bool:=Value.rec (motive:=λO=>Bool) false false false (λO=>false) (λO O=>false) (λO O=>false) (λx O=>f x) (λO O=>false) (λO=>false) (λO=>false) (λO=>false) v
def EX(f:String->Bool)(v:Value):Bool:=Value.rec (motive:=λO=>Bool) false false false (λO=>false) (λO O=>false) (λO O=>false) (λO O=>false) (λO O=>false) f (λO=>false) (λO=>false) v
def S9(f:String->Bool)(v:Value):Bool:=Value.rec (motive:=λO=>Bool) false false false (λO=>false) (λO O=>false) (λO O=>false) (λO O=>false) (λO O=>false) (λO=>false) f (λO=>false) v
def mT(f:Addr->Bool)(v:Value):Bool:=Value.rec (motive:=λO=>Bool) false false false (λO=>false) (λO O=>false) (λO O=>false) (λO O=>false) (λO O=>false) (λO=>false) (λO=>false) f v
theorem AS(h:EW f v=true):∃b,v= .bool b/\f b=true:=by induction v with|bool b=>exact⟨b,rfl,h⟩|_=>exact ff h
theorem EY(h:S8 f v=true):∃i t,v= .int i t/\f i=true:=by induction v with|int i t=>exact⟨i,t,rfl,h⟩|_=>exact ff h
theorem fX(h:kX f v=true):∃x t,v= .str x t/\f x=true:=by induction v with|str x t=>exact⟨x,t,rfl,h⟩|_=>exact ff h
theorem AT(h:EX f v=true):∃x,v= .type x/\f x=true:=by induction v with|type x=>exact⟨x,rfl,h⟩|_=>exact ff h
theorem EZ(h:S9 f v=true):∃x,v= .builtin x/\f x=true:=by induction v with|builtin x=>exact⟨x,rfl,h⟩|_=>exact ff h
theorem eP(h:mT f v=true):∃x,v= .ref x/\f x=true:=by induction v with|ref x=>exact⟨x,rfl,h⟩|_=>exact ff h
def E0(f:Array Value->Bool)(d:Data):Bool:=Data.rec (motive:=λO=>Bool) false (λO=>false) (λvs O=>f vs) (λO O=>false) (λO O O=>false) (λO O=>false) (λO=>false) (λO=>false) (λO=>false) (λO=>false) false d
def wJ(f:Array DictEntry->Bool)(d:Data):Bool:=Data.rec (motive:=λO=>Bool) false (λO=>false) (λO O=>false) (λes O=>f es) (λO O O=>false) (λO O=>false) (λO=>false) (λO=>false) (λO=>false) (λO=>false) false d
def E3(f:ClassData->Bool)(d:Data):Bool:=Data.rec (motive:=λO=>Bool) false (λO=>false) (λO O=>false) (λO O=>false) (λO O O=>false) (λO O=>false) (λO=>false) (λO=>false) f (λO=>false) false d
def tJ(f:Array Value->Bool)(d:Data):Bool:=Data.rec (motive:=λO=>Bool) false (λO=>false) (λO O=>false) (λO O=>false) (λO O O=>false) (λO O=>false) (λO=>false) (λO=>false) (λO=>false) f false d
theorem tK(h:E0 f d=true):∃vs ep,d= .seq vs ep/\f vs=true:=by induction d with|seq vs ep=>exact⟨vs,ep,rfl,h⟩|_=>exact ff h
theorem pJ(h:wJ f d=true):∃vs ep,d= .dict vs ep/\f vs=true:=by induction d with|dict vs ep=>exact⟨vs,ep,rfl,h⟩|_=>exact ff h
theorem tL(h:E3 f d=true):∃c,d= .cls c/\f c=true:=by induction d with|cls c=>exact⟨c,rfl,h⟩|_=>exact ff h
theorem tM(h:tJ f d=true):∃vs,d= .fields vs/\f vs=true:=by induction d with|fields vs=>exact⟨vs,rfl,h⟩|_=>exact ff h
def cJ{α:Type}(f:α->List α->Bool)(l:List α):Bool:=List.rec (motive:=λO=>Bool) false (λa l O=>f a l) l
def pK{α:Type}(l:List α):Bool:=List.rec (motive:=λO=>Bool) true (λO O O=>false) l
theorem bC(h:cJ f l=true):∃a l',l=a::l'/\f a l'=true:=by induction l using List.casesOn with|cons a l=>exact⟨a,l,rfl,h⟩|nil=>exact ff h
theorem jA(h:pK l=true):l=[]:=by induction l using List.casesOn with|cons a l=>exact ff h|nil=>rfl
theorem tN(h:2^a*(2*x+1)=2^b*(2*y+1)):a=b/\x=y:=by
 induction a generalizing b with
 |zero=>
  induction b using Nat.casesOn with
  |zero=>exact⟨rfl,by simp only[Nat.pow_zero,Nat.one_mul]at h;exact Nat.eq_of_mul_eq_mul_left (by decide) (Nat.succ.inj h)⟩
  |succ b=>exfalso;rw[Nat.pow_zero,Nat.one_mul,Nat.pow_succ,Nat.mul_comm (2^b) 2,Nat.mul_assoc]at h;exact aIB h
 |succ a ih=>
  induction b using Nat.casesOn with
  |zero=>exfalso;rw[Nat.pow_zero,Nat.one_mul,Nat.pow_succ,Nat.mul_comm (2^a) 2,Nat.mul_assoc]at h;exact aPa h
  |succ b=>
   rw[Nat.pow_succ,Nat.pow_succ,Nat.mul_comm (2^a) 2,Nat.mul_comm (2^b) 2,Nat.mul_assoc,Nat.mul_assoc]at h
   obtain⟨h1,h2⟩:=ih (Nat.eq_of_mul_eq_mul_left (by decide) h)
   exact⟨by rw[h1],h2⟩
theorem gO(c:Nat)(l:Nm):code (c::l)=2^c*(2*code l+1):=rfl
theorem mU:∀{a b:Nm},code a=code b->a=b
 | [],[],_=>rfl
 | [],c::l,h=>by
   exfalso
   rw[gO]at h
   have:0<2^c*(2*code l+1):=Nat.mul_pos (Nat.pow_pos (by decide)) (Nat.zero_lt_succ _)
   have h0:code ([]:Nm)=0:=rfl
   exact Nat.ne_of_gt this (h▸h0)
 |c::l,[],h=>by
  exfalso
  rw[gO]at h
  have:0<2^c*(2*code l+1):=Nat.mul_pos (Nat.pow_pos (by decide)) (Nat.zero_lt_succ _)
  have h0:code ([]:Nm)=0:=rfl
  exact Nat.ne_of_gt this (h▸h0)
 |c::l,d::m,h=>by
  rw[gO,gO]at h
  obtain⟨h1,h2⟩:=tN h
  rw[h1,mU h2]
theorem sEq_iff:cC a b=true↔a=b:=by
 unfold cC
 constructor
 ·intro h;exact mU (Nat.eq_of_beq_eq_true h)
 ·rintro rfl;exact Nat.beq_refl _
theorem cV(a b:Nm):cC a b=decide (a=b):=by
 by_cases h:a=b
 ·rw[decide_eq_true h];exact sEq_iff.mpr h
 ·rw[decide_eq_false h]
  induction q:cC a b with
  |false=>rfl
  |true=>exact absurd (sEq_iff.mp q) h
noncomputable abbrev tx(n:Nm):Str:=⟨n.toArray⟩
theorem aJ(x:Str):tx (aA x)=x:=rfl
theorem fD(h:tx a=tx b):a=b:=by
 have:=congrArg (λx:Str=>x.cps.toList) h
 simpa using this
theorem AU{α:Type}(n:Nm):aD ([]:List (Nm×α)) n=none:=rfl
theorem aH{α:Type}(p:Nm×α)(l:List (Nm×α))(n:Nm):aD (p::l) n=if p.1=n then some p.2 else aD l n:=by
 obtain⟨m,v⟩:=p
 show Bool.rec (motive:=λO=>Option α) (aD l n) (some v) (cC m n)=_
 rw[cV]
 by_cases h:m=n
 ·simp[h]
 ·simp[h]
noncomputable def dI(n:Nm)(v:SV):List (Nm×SV)->List (Nm×SV)
 | []=>[(n,v)]
 |p::l=>if p.1=n then(n,v)::l else p::dI n v l
theorem gP(n:Nm)(v:SV):∀(l:List (Nm×SV)) (k:List (Nm×SV)->Bool),lM n v l k=k (dI n v l):=by
 intro l
 induction l with
 |nil=>
  intro k
  exact rfl
 |cons p_ l rec_=>
  obtain⟨m,u⟩:=p_
  intro k
  show Bool.rec (motive:=λO=>Bool) (lM n v l λl'=>k ((m,u)::l')) (k ((n,v)::l)) (cC m n)=_
  rw[cV,dI]
  by_cases h:m=n
  ·simp[h]
  ·simp only[h,decide_false,if_false]
   exact rec_ _
theorem fE(n:Nm)(v:SV):∀(l:List (Nm×SV)) (x:Nm),aD (dI n v l) x=if n=x then some v else aD l x:=by
 intro l
 induction l with
 |nil=>
  intro x
  rw[dI,aH,AU]
 |cons p l rec_=>
  intro x
  rw[dI]
  by_cases h:p.1=n
  ·rw[if_pos h,aH,aH]
   by_cases q:n=x
   ·simp[q]
   ·rw[if_neg q,if_neg q,if_neg (λe=>q (h.symm.trans e))]
  ·rw[if_neg h,aH,aH,rec_ x]
   by_cases q:p.1=x
   ·rw[if_pos q,if_pos q,if_neg (λe=>h (q.trans e.symm))]
   ·rw[if_neg q,if_neg q]
noncomputable def PT.set?(o:SObj):PT->Nat->Option PT
 |.nil,i=>if i=0 then some (.node o .nil .nil)else none
 |.node v l r,i=>if i=0 then some (.node o l r)else if i%2=1 then(l.set? o (i / 2)).map λl'=>.node v l' r else(r.set? o (i / 2-1)).map λr'=>.node v l r'
theorem b9(a b:Nat):Nat.beq a b=decide (a=b):=BT.beq_eq a b
theorem PT.get_nil(i:Nat):PT.get .nil i=none:=rfl
theorem PT.get_node(v:SObj)(l r:PT)(i:Nat):PT.get (.node v l r) i=if i=0 then some v else if i%2=1 then l.get (i / 2)else r.get (i / 2-1):=by
 show Bool.rec (motive:=λO=>Option SObj) (Bool.rec (motive:=λO=>Option SObj) (r.get (i / 2-1)) (l.get (i / 2)) (Nat.beq (i%2) 1)) (some v) (Nat.beq i 0)=_
 rw[b9,b9]
 by_cases h:i=0
 ·simp[h]
 ·by_cases q:i%2=1<;>simp[h,q]
theorem PT.put_eq(o:SObj):∀(t:PT) (i:Nat) (k:PT->Bool),PT.put o t i k=match t.set? o i with|some t'=>k t'|none=>false
 |.nil,i,k=>by
  show Bool.rec (motive:=λO=>Bool) false (k (.node o .nil .nil)) (Nat.beq i 0)=_
  rw[b9,PT.set?]
  by_cases h:i=0<;>simp[h]
 |.node v l r,i,k=>by
  show Bool.rec (motive:=λO=>Bool) (Bool.rec (motive:=λO=>Bool) (PT.put o r (i / 2-1) λr'=>k (.node v l r')) (PT.put o l (i / 2) λl'=>k (.node v l' r)) (Nat.beq (i%2) 1)) (k (.node o l r)) (Nat.beq i 0)=_
  rw[b9,b9,PT.set?]
  by_cases h:i=0
  ·simp[h]
  ·by_cases q:i%2=1
   ·simp-iota only[h,q,decide_true,decide_false,if_false,if_true,PT.put_eq o l]
    cases l.set? o (i / 2)<;>rfl
   ·simp-iota only[h,q,decide_false,if_false,PT.put_eq o r]
    cases r.set? o (i / 2-1)<;>rfl
theorem wK(h:j%2=1):2*(j / 2)+1=j:=by
 have:=Nat.div_add_mod j 2
 rwa [h]at this
theorem E4(h:¬j%2=1)(h0:¬j=0):2*(j / 2-1)+2=j:=by
 have e:=Nat.div_add_mod j 2
 rw[(Nat.mod_two_eq_zero_or_one j).resolve_right h,Nat.add_zero]at e
 have z:j / 2≠0:=λz=>h0 (by rw[<-e,z])
 show 2*((j / 2-1)+1)=j
 rw[Nat.sub_add_cancel (Nat.pos_of_ne_zero z)];exact e
theorem PT.get_set(o:SObj)(t:PT):∀(i:Nat) (t':PT),t.set? o i=some t'->∀j,t'.get j=if j=i then some o else t.get j:=by
 induction t with
 |nil=>
  intro i t' h j
  rw[PT.set?]at h
  by_cases hi:i=0
  ·rw[if_pos hi]at h;obtain rfl:=Option.some.inj h
   rw[PT.get_node]
   by_cases hj:j=0
   ·simp[hj,hi]
   ·have:j≠i:=λe=>hj (e.trans hi)
    simp only[hj,this,if_false,PT.get_nil];split<;>rfl
  ·rw[if_neg hi]at h;exact fo h
 |node v l r il ir=>
  intro i t' h j
  rw[PT.set?]at h
  by_cases hi:i=0
  ·rw[if_pos hi]at h;obtain rfl:=Option.some.inj h
   rw[PT.get_node,PT.get_node]
   by_cases hj:j=0
   ·simp[hj,hi]
   ·have:j≠i:=λe=>hj (e.trans hi)
    simp[hj,this]
  ·rw[if_neg hi]at h
   by_cases pi:i%2=1
   ·rw[if_pos pi]at h
    obtain⟨l',hl,rfl⟩:=Option.map_eq_some_iff.mp h
    rw[PT.get_node,PT.get_node,il _ _ hl]
    by_cases hj:j=0
    ·have:j≠i:=λe=>hi (e.symm.trans hj)
     simp[hj,Ne.symm hi]
    ·by_cases pj:j%2=1
     ·have:j / 2=i / 2↔j=i:=⟨λe=>by rw[<-wK pj,<-wK pi,e],λe=>by rw[e]⟩
      simp only[hj,pj,if_true,if_false,this]
     ·have:j≠i:=λe=>pj (e▸pi)
      simp[hj,pj,this]
   ·rw[if_neg pi]at h
    obtain⟨r',hr,rfl⟩:=Option.map_eq_some_iff.mp h
    rw[PT.get_node,PT.get_node,ir _ _ hr]
    by_cases hj:j=0
    ·simp[hj,Ne.symm hi]
    ·by_cases pj:j%2=1
     ·have:j≠i:=λe=>pi (e▸pj)
      simp[hj,pj,this]
     ·have:j / 2-1=i / 2-1↔j=i:=⟨λe=>by rw[<-E4 pj hj,<-E4 pi hi,e],λe=>by rw[e]⟩
      simp only[hj,pj,if_false,this]
end
section
set_option backward.match.sparseCases false
set_option genCtorIdx true in
set_option genInjectivity true in
inductive Own where
 |obj (i:Nat)|dict (i:Nat)|tb (i:Nat)|fr (d:Nat)|ext (k:Nat)|code
abbrev bT:=Sum Str Int
structure Vl where
 ρ:Nat->Addr
 own:Addr->Option Own
 X:Option Int
 n:Nat
 tk:Nat->Option (List bT)
 R:Option (Nat×(Str->Option Value))
 Y:Nat->Option Int
 S:Value
structure Vl.Le(V V':Vl):Prop where
 n:V.n≤V'.n
 ρ:∀i,i<V.n->V'.ρ i=V.ρ i
 own:∀a o,V.own a=some o->V'.own a=some o
 X:∀x,V.X=some x->V'.X=some x
 tk:∀i ks,V.tk i=some ks->V'.tk i=some ks
 R:∀r,V.R=some r->V'.R=some r
 Y:∀k z,V.Y k=some z->V'.Y k=some z
 S:V'.S=V.S
theorem Vl.Le.refl(V:Vl):V.Le V:=⟨Nat.le_refl _,λO O=>rfl,λO O e=>e,λO e=>e,λO O e=>e,λO e=>e,λO O e=>e,rfl⟩
theorem Vl.Le.trans{V₁ V₂ V₃:Vl}(x:V₁.Le V₂)(y:V₂.Le V₃):V₁.Le V₃:=
 ⟨Nat.le_trans x.n y.n,λi h=>(y.ρ i (Nat.lt_of_lt_of_le h x.n)).trans (x.ρ i h),λa o e=>y.own a o (x.own a o e),λz e=>y.X z (x.X z e),λi ks e=>y.tk i ks (x.tk i ks e),λr e=>y.R r (x.R r e),λk z e=>y.Y k z (x.Y k z e),y.S.trans x.S⟩
noncomputable def biL:List Value:=[.builtin "len",.builtin "isinstance",.type "str",.type "list",.type "range",.type "int",.builtin "min",.type "bool",.type "ValueError",.builtin "ValueError.__init__"]
def pL(k:Nat):Option Value:=bI biL k
theorem lZ{α:Type}(l:List α)(m:Nat):bI l m=l[m]?:=by
 induction l generalizing m with
 |nil=>rfl
 |cons a l ih=>induction m using Nat.casesOn with
  |zero=>rfl
  |succ m=>exact ih m
theorem j9(hp:biL.all p=true)(h:pL k=some v):p v=true:=List.all_eq_true.mp hp v (List.mem_of_getElem? ((lZ _ _).symm.trans h))
noncomputable def AV(v:Value):Nat:=match v with
 |.none=>0|.ellipsis=>1|.notImplemented=>2|.bool _=>3|.int .. =>4|.float .. =>5|.str .. =>6|.bytes .. =>7|.type _=>8|.builtin _=>9|.ref _=>10
theorem vff{P:Prop}{u v:Value}(e:u=v)(h:Nat.beq (AV u) (AV v)=false):P:=by
 rw[e]at h;exact absurd h (by rw[Nat.beq_refl];exact nofun)
theorem mV(h:pL k=some v):AV v=8∨AV v=9:=
 (Bool.or_eq_true_iff.mp (j9 (p:=λv=>Nat.beq (AV v) 8||Nat.beq (AV v) 9) rfl h)).imp Nat.eq_of_beq_eq_true Nat.eq_of_beq_eq_true
theorem jB{x:Option Obj}{c c':Value}{d d':Option Addr}{sl sl':Array (Option Value)}{vs vs':Array Value}{ep ep':Nat}(h:x=some ⟨c,d,.seq vs ep,sl⟩)(h':x=some ⟨c',d',.seq vs' ep',sl'⟩):c=c'/\vs=vs'/\ep=ep':=by
 have:=Option.some.inj (h.symm.trans h')
 exact⟨congrArg Obj.cls this,Data.seq.inj (congrArg Obj.data this)⟩
inductive VR(V:Vl):SV->Value->Prop
 |none:VR V .none .none
 |bool (b:Bool):VR V (.bool b) (.bool b)
 |int (i:Int) (t:Tok):VR V (.int i) (.int i t)
 |lin (x c:Int) (t:Tok):V.X=some x->VR V (.lin c) (.int (x+c) t)
 |str (s:Nm) (t:Tok):VR V (.str s) (.str (tx s) t)
 |ref (i:Nat):i<V.n->VR V (.ref i) (.ref (V.ρ i))
 |fn (a:Nat):VR V (.fn a) (.ref a)
 |cls (a:Nat):VR V (.cls a) (.ref a)
 |kref (a:Nat):VR V (.kref a) (.ref a)
 |bi (k:Nat) (v:Value):pL k=some v->VR V (.bi k) v
 |opq (k:Nat) (z:Int) (t:Tok):V.Y k=some z->VR V (.opq k) (.int z t)
 |any (v:Value):handedIn v=true->VR V .any v
 |scr:handedIn V.S=true->VR V .scr V.S
 |one (l:List Nm) (n:Nm) (t:Tok):n∈l->VR V (.one l) (.str (tx n) t)
@[elab_as_elim] theorem VR.el_bool{V:Vl}{b:Bool}{u:Value}{P:Value->Prop}(h:VR V (.bool b) u)(k:P (.bool b)):P u:=by cases h with|bool _=>exact k
@[elab_as_elim] theorem VR.el_int{V:Vl}{i:Int}{u:Value}{P:Value->Prop}(h:VR V (.int i) u)(k:∀t,P (.int i t)):P u:=by cases h with|int _ t=>exact k t
@[elab_as_elim] theorem VR.el_lin{V:Vl}{c:Int}{u:Value}{P:Value->Prop}(h:VR V (.lin c) u)(k:∀x t,V.X=some x->P (.int (x+c) t)):P u:=by cases h with|lin x _ t hx=>exact k x t hx
@[elab_as_elim] theorem VR.el_str{V:Vl}{n:Nm}{u:Value}{P:Value->Prop}(h:VR V (.str n) u)(k:∀t,P (.str (tx n) t)):P u:=by cases h with|str _ t=>exact k t
@[elab_as_elim] theorem VR.el_ref{V:Vl}{i:Nat}{u:Value}{P:Value->Prop}(h:VR V (.ref i) u)(k:i<V.n->P (.ref (V.ρ i))):P u:=by cases h with|ref _ hi=>exact k hi
@[elab_as_elim] theorem VR.el_scr{V:Vl}{u:Value}{P:Value->Prop}(h:VR V .scr u)(k:handedIn V.S=true->P V.S):P u:=by cases h with|scr hs=>exact k hs
theorem VR.mono(e:V.Le V')(h:VR V s v):VR V' s v:=by
 induction h with
 |ref i hi=>rw[<-e.ρ i hi];exact .ref i (Nat.lt_of_lt_of_le hi e.n)
 |lin x c t hx=>exact .lin x c t (e.X x hx)
 |bi k v hk=>exact .bi k v hk
 |opq k z t hz=>exact .opq k z t (e.Y k z hz)
 |any v hv=>exact .any v hv
 |scr hv=>rw[<-e.S];exact .scr (by rw[e.S];exact hv)
 |one l n t h=>exact .one l n t h
 |none=>exact .none
 |bool b=>exact .bool b
 |int i t=>exact .int i t
 |str s t=>exact .str s t
 |fn a=>exact .fn a
 |cls a=>exact .cls a
 |kref a=>exact .kref a
noncomputable def VRs(V:Vl):List SV->List Value->Prop
 | [],[]=>True
 |s::ss,v::vs=>VR V s v/\VRs V ss vs
 |_,_=>False
@[elab_as_elim] theorem VRs.ind{V:Vl}{P:List SV->List Value->Prop}{s:List SV}{v:List Value}(h:VRs V s v)(n:P [] [])(c:∀a l b m,VR V a b->VRs V l m->P l m->P (a::l) (b::m)):P s v:=by
  induction s generalizing v with
  |nil=>induction v using List.casesOn with
   |nil=>exact n
   |cons _ _=>exact h.elim
  |cons a s ih=>induction v using List.casesOn with
   |nil=>exact h.elim
   |cons _ _=>exact c _ _ _ _ h.1 h.2 (ih h.2)
theorem VRs.nil_inv(h:VRs V [] us):us=[]:=by induction us using List.casesOn with|nil=>rfl|cons _ _=>exact h.elim
theorem VRs.cons_inv(h:VRs V (x::xs) us):∃u us',us=u::us'/\VR V x u/\VRs V xs us':=by
 induction us using List.casesOn with|nil=>exact h.elim|cons u us=>exact⟨u,us,rfl,h⟩
theorem VRs.one(h:VRs V [x] us):∃u,us=[u]/\VR V x u:=by
 obtain⟨u,us',rfl,r,h⟩:=h.cons_inv
 rw[h.nil_inv];exact⟨u,rfl,r⟩
theorem VRs.two(h:VRs V [x,y] us):∃u w,us=[u,w]/\VR V x u/\VR V y w:=by
 obtain⟨u,us',rfl,r,h⟩:=h.cons_inv
 obtain⟨w,rfl,r'⟩:=h.one
 exact⟨u,w,rfl,r,r'⟩
theorem VRs.mono{V V':Vl}(e:V.Le V'){s:List SV}{v:List Value}(h:VRs V s v):VRs V' s v:=h.ind trivial λO O O O r O ih=>⟨r.mono e,ih⟩
def AR(V:Vl)(es:List (Nm×SV))(m:Str->Option Value):Prop:=∀n:Nm,match aD es n with
 |some v=>∃u,m (tx n)=some u/\VR V v u
 |none=>m (tx n)=none
theorem AR.mono(e:V.Le V')(h:AR V es m):AR V' es m:=λn=>by
 have:=h n
 induction q:aD es n with
 |none=>rw[q]at this;exact this
 |some v=>rw[q]at this;obtain⟨u,a,b⟩:=this;exact⟨u,a,b.mono e⟩
theorem AR.nil(V:Vl):AR V [] λO=>none:=λO=>rfl
theorem AR.put(h:AR V es m)(hv:VR V v u):
 AR V (dI n v es) λx=>if x=tx n then some u else m x:=λx=>by
 rw[fE]
 by_cases q:n=x
 ·rw[if_pos q];subst q;exact⟨u,if_pos rfl,hv⟩
 ·rw[if_neg q]
  have ne:¬tx x=tx n:=λe=>q (fD e).symm
  have:=h x
  induction z:aD es x with
  |none=>rw[z]at this;show(if tx x=tx n then some u else m (tx x))=none;rw[if_neg ne];exact this
  |some v=>rw[z]at this;obtain⟨u',a,b⟩:=this;exact⟨u',(if_neg ne).trans a,b⟩
structure Gd where
 w:World
 s0:Shared
 S:Value
noncomputable abbrev Gd.P(Z:Gd):Params:=Z.w.params
noncomputable abbrev Gd.M(Z:Gd):Model:=model pw Z.w
noncomputable def cK:bT->Value->Bool
 |.inl x,v=>Value.isStrOf x v
 |.inr n,v=>Value.isInt n v
theorem aN(h:cK k v=true):(∃x t,k= .inl x/\v= .str x t)∨∃n t,k= .inr n/\v= .int n t:=by
 induction k with
 |inl x=>obtain⟨t,rfl⟩:=Value.isStrOf_shape h;exact .inl ⟨x,t,rfl,rfl⟩
 |inr n=>obtain⟨t,rfl⟩:=Value.isInt_shape h;exact .inr ⟨n,t,rfl,rfl⟩
noncomputable def DRs(V:Vl):List (SV×SV)->List (Str×Value)->Prop
 | [],[]=>True
 |p::es,e::ents=>((∃n,p.1= .str n/\e.1=tx n)/\VR V p.2 e.2)/\DRs V es ents
 |_,_=>False
noncomputable def DRt(V:Vl):List (SV×SV)->List (List bT×Addr×Value)->Prop
 | [],[]=>True
 |p::es,e::ents=>((∃j,p.1= .ref j/\j<V.n/\V.tk j=some e.1/\e.2.1=V.ρ j)/\VR V p.2 e.2.2)/\DRt V es ents
 |_,_=>False
@[elab_as_elim] theorem DRs.ind{V:Vl}{P:List (SV×SV)->List (Str×Value)->Prop}{s:List (SV×SV)}{v:List (Str×Value)}(h:DRs V s v)(n:P [] [])(c:∀p l e m,((∃n,p.1= .str n/\e.1=tx n)/\VR V p.2 e.2)->DRs V l m->P l m->P (p::l) (e::m)):P s v:=by
  induction s generalizing v with
  |nil=>induction v using List.casesOn with
   |nil=>exact n
   |cons _ _=>exact h.elim
  |cons a s ih=>induction v using List.casesOn with
   |nil=>exact h.elim
   |cons _ _=>exact c _ _ _ _ h.1 h.2 (ih h.2)
@[elab_as_elim] theorem DRt.ind{V:Vl}{P:List (SV×SV)->List (List bT×Addr×Value)->Prop}{s:List (SV×SV)}{v:List (List bT×Addr×Value)}(h:DRt V s v)(n:P [] [])(c:∀p l e m,((∃j,p.1= .ref j/\j<V.n/\V.tk j=some e.1/\e.2.1=V.ρ j)/\VR V p.2 e.2.2)->DRt V l m->P l m->P (p::l) (e::m)):P s v:=by
  induction s generalizing v with
  |nil=>induction v using List.casesOn with
   |nil=>exact n
   |cons _ _=>exact h.elim
  |cons a s ih=>induction v using List.casesOn with
   |nil=>exact h.elim
   |cons _ _=>exact c _ _ _ _ h.1 h.2 (ih h.2)
theorem DRs.mono{V V':Vl}(e:V.Le V'){s:List (SV×SV)}{v:List (Str×Value)}(h:DRs V s v):DRs V' s v:=h.ind trivial λO O O O r O ih=>⟨⟨r.1,r.2.mono e⟩,ih⟩
theorem DRt.mono{V V':Vl}(e:V.Le V'){s:List (SV×SV)}{v:List (List bT×Addr×Value)}(h:DRt V s v):DRt V' s v:=
 h.ind trivial λO O O O r O ih=>⟨⟨r.1.imp λj q=>⟨q.1,Nat.lt_of_lt_of_le q.2.1 e.n,e.tk _ _ q.2.2.1,q.2.2.2.trans (e.ρ j q.2.1).symm⟩,r.2.mono e⟩,ih⟩
theorem DRs.length{V:Vl}{es:List (SV×SV)}{kvs:List (Str×Value)}(h:DRs V es kvs):es.length=kvs.length:=h.ind rfl λO O O O O O ih=>congrArg Nat.succ ih
theorem DRt.length{V:Vl}{es:List (SV×SV)}{kvs:List (List bT×Addr×Value)}(h:DRt V es kvs):es.length=kvs.length:=h.ind rfl λO O O O O O ih=>congrArg Nat.succ ih
noncomputable def tO(w:World):bT->Int
 |.inl x=>hashStr w x
 |.inr n=>hashInt n
def zB(w:World)(ks:List bT):Int:=reduceHash (Builtin.Tuple.tupleHashOf (ks.map (tO w)))
inductive CodeK(Z:Gd)(V:Vl)(h:Heap)(cd:Value)(q:Str):Prop
 |mk (c:Addr) (o:Obj) (vs:Array Value) (t:Tok) (h1:cd= .ref c) (h2:h.get? c=some o) (h3:o.data= .fields vs) (h4:vs[1]?=some (.str q t)) (h5:(Z.s0.heap.get? c=some o/\c∉tabs)∨V.own c=some .code)
noncomputable def Vl.note(V:Vl)(T:Addr)(o:Own):Vl:={V with own:=λb=>if b=T then some o else V.own b}
def ExcD(V:Vl)(h:Heap)(i:Nat)(es:List (Nm×SV)):Option Addr->Prop
 |none=>es=[]
 |some d=>∃m,V.own d=some (.dict i)/\h.Ns1 d m/\AR V es m
theorem ExcD.keep(e:V.Le V')(hi:∀b o,V.own b=some (.dict i)->h.get? b=some o->h'.get? b=some o)(x:ExcD V h i es d):ExcD V' h' i es d:=by
 induction d with
 |none=>exact x
 |some d=>obtain⟨m,e2,e3,e4⟩:=x;exact⟨m,e.own _ _ e2,e3.at λo q=>hi d o e2 q,e4.mono e⟩
noncomputable def gQ(p c:Nat)(xs:Array Value):Int:=match xs[p]? with|some (.int z _)=>z|_=>(Int.ofNat (c+1)).fmod 3
noncomputable def tP(p c:Nat)(xs:Array Value):Nat:=match xs[p]? with|some _=>c|none=>c+1
noncomputable def tQ:Nat->Nat->Nat->Array Value->Int
 |0,p,c,xs=>gQ p c xs
 |j+1,p,c,xs=>tQ j (p+1) (tP p c xs) xs
inductive aJe(V:Vl)(h:Heap)(i:Nat)(a:Addr)(C:Nat)(es:List (Nm×SV)):Prop
 |mk (e0:es.length≤1000/\∃p,aE aO C=some p/\aP p.1 39=false) (d:Addr) (m:Str->Option Value) (h1:h.get? a=some (instObj C d)) (h2:V.own d=some (.dict i)) (h3:h.Ns1 d m) (h4:AR V es m)
inductive aPi(V:Vl)(h:Heap)(i:Nat)(a:Addr)(C:Nat)(es:List (Nm×SV)):Prop
 |mk (e0:es.length≤1000/\∃p,aE aO C=some p/\aP p.1 39=true) (d:Option Addr) (vs:Array Value) (h1:h.get? a=some ⟨.ref C,d,.fields vs,#[]⟩) (h2:ExcD V h i es d) (h3:4<vs.size)
   (h4:vs[1]?=some .none∨∃T oT ts,vs[1]?=some (.ref T)/\V.own T=some (.tb i)/\h.get? T=some oT/\oT.data= .fields ts/\3<ts.size)
inductive aJf(Z:Gd)(V:Vl)(h:Heap)(a:Addr)(es:List (SV×SV)):Prop
 |mk (l:es.length≤1000) (o:Obj) (ents:Array DictEntry) (ep:Nat) (h1:h.get? a=some o) (h2:o.ExactDict) (h3:o.data= .dict ents ep)
   (h4:(∃kvs,DRs V es kvs/\KeysOf (strKind pw Z.w) ents/\Pairs (strKind pw Z.w) ents.toList kvs/\(kvs.map (·.1)).Nodup)∨
    (∃xs,DRt V es xs/\ents.toList=xs.map (λx=>⟨zB Z.w x.1,.ref x.2.1,x.2.2⟩)/\(xs.map (·.1)).Nodup))
inductive aJg(V:Vl)(h:Heap)(a:Addr)(T:String)(xs:List SV):Prop
 |mk (l:xs.length≤1000) (vs:Array Value) (ep:Nat) (h1:h.get? a=some ⟨.type T,none,.seq vs ep,#[]⟩) (h2:VRs V xs vs.toList)
inductive ZK(h:Heap)(a:Addr)(b:Int)(n:Nat):Prop
 |mk (c:Int) (t u v:Tok) (h1:IsRange h a b c 1 t u v) (h2:(c-b).toNat=n/\ -5000<b/\b<5000/\ -5000<c/\c<5000)
inductive PI(V:Vl)(h:Heap)(a:Addr)(b:Int)(n:Nat):Prop
 |mk (x c:Int) (t u v:Tok) (h0:V.X=some x) (h1:IsRange h a (x+b) c 1 t u v) (h2:(c-(x+b)).toNat=n/\ -5000<x+b/\x+b<5000/\ -5000<c/\c<5000)
inductive aPj(Z:Gd)(V:Vl)(h:Heap)(a:Addr)(ps:Arguments)(b:Expr)(sc:Scope)(cs:List (Nm×Nat)):Prop
 |mk (name qual:Str) (cl:List (Str×Addr)) (pm cdv ct:Value) (o:Obj) (h1:h.get? a=some o) (h2:o.data= .func (kla_fn name qual ps b sc cl pm cdv ct)) (h3:CodeK Z V h cdv qual)
   (h4:∀n j,aD cs n=some j->aF sc.names n=some .free->j<V.n/\cl.lookup (tx n)=some (V.ρ j)) (h5:AO sc=true/\lW sc.names=true/\ps=⟨[],[],none,[],[],none,[]⟩)
inductive aPk(V:Vl)(h:Heap)(i:Nat)(a:Addr):Prop
 |mk (ep ep':Nat) (L:Addr) (p:Nat) (t:Tok) (c:Nat) (u:Tok) (xs:Array Value) (h1:h.get? a=some ⟨.type "list",none,.seq #[.ref L,.int (Int.ofNat p) t,.int (Int.ofNat c) u] ep,#[]⟩) (h2:V.own L=some (.dict i))
   (h3:h.get? L=some ⟨.type "list",none,.seq xs ep',#[]⟩) (h4:(∀v,v∈xs.toList->∃z t,v= .int z t)/\xs.size≤1000)
inductive aJh(V:Vl)(h:Heap)(i:Nat)(a:Addr)(j m d:Nat):Prop
 |mk (ep ep':Nat) (L:Addr) (p:Nat) (t:Tok) (c:Nat) (u:Tok) (xs:Array Value) (h1:h.get? a=some ⟨.type "list",none,.seq #[.ref L,.int (Int.ofNat p) t,.int (Int.ofNat c) u] ep,#[]⟩) (h2:V.own L=some (.dict i))
   (h3:h.get? L=some ⟨.type "list",none,.seq xs ep',#[]⟩) (h4:(∀v,v∈xs.toList->∃z t,v= .int z t)/\xs.size≤1000/\(tQ j p c xs).fmod (Int.ofNat m)=Int.ofNat d)
inductive ZL(Z:Gd)(V:Vl)(h:Heap)(a:Addr)(es:List (Nm×SV))(ab:List Nm):Prop
 |mk (l:es.length≤100) (kvs:List (Str×Value)) (B:Nat) (r:Str->Option Value) (h1:h.DictOf (strKind pw Z.w) a kvs) (h2:kvs.length≤B+es.length) (h3:B≤900) (h4:V.R=some (B,r))
   (h5:∀n,match aD es n with|some v=>∃u,valueAt kvs (tx n)=some u/\VR V v u|none=>valueAt kvs (tx n)=r (tx n)) (h6:∀n,iB ab n=true->r (tx n)=none)
def OR(Z:Gd)(V:Vl)(h:Heap)(i:Nat)(a:Addr):SObj->Prop
 |.inst C es=>aJe V h i a C es
 |.exc C es=>aPi V h i a C es
 |.dict es=>aJf Z V h a es
 |.list xs=>aJg V h a "list" xs
 |.tup xs=>aJg V h a "tuple" xs
 |.range b n=>ZK h a b n
 |.lrange b n=>PI V h a b n
 |.vals j=>j<V.n/\h.get? a=some ⟨.type "dict_values",none,.fields #[.ref (V.ρ j)],#[]⟩
 |.cell v=>h.get? a=some ⟨.type "cell",none,.cell none,#[]⟩/\v=none∨∃u v',h.get? a=some ⟨.type "cell",none,.cell (some u),#[]⟩/\v=some v'/\VR V v' u
 |.lam ps b sc cs=>aPj Z V h a ps b sc cs
 |.box=>aPk V h i a
 |.boxd j m d=>aJh V h i a j m d
 |.mdict es ab=>ZL Z V h a es ab
theorem CodeK.mono(e:V.Le V')(hk:∀b o,Z.s0.heap.get? b=some o->b∉tabs->h.get? b=some o->h'.get? b=some o)(ho:∀b o,V.own b=some .code->h.get? b=some o->h'.get? b=some o)(x:CodeK Z V h cd q):CodeK Z V' h' cd q:=by
 obtain⟨c,o,vs,t,e1,e2,e3,e4,e5⟩:=x
 rcases e5 with⟨a,b⟩|a
 ·exact⟨c,o,vs,t,e1,hk _ _ a b e2,e3,e4,.inl ⟨a,b⟩⟩
 ·exact⟨c,o,vs,t,e1,ho _ _ a e2,e3,e4,.inr (e.own _ _ a)⟩
theorem OR.keep(e:V.Le V')(hk:∀b o,Z.s0.heap.get? b=some o->b∉tabs->h.get? b=some o->h'.get? b=some o)(hc:∀b o,V.own b=some .code->h.get? b=some o->h'.get? b=some o)(ha:∀o,h.get? a=some o->h'.get? a=some o)(hi:∀b o,V.own b=some (.dict i)∨V.own b=some (.tb i)->h.get? b=some o->h'.get? b=some o)(x:OR Z V h i a o):OR Z V' h' i a o:=by
 induction o with
 |inst C es=>obtain⟨e0,d,m,e1,e2,e3,e4⟩:=x;exact⟨e0,d,m,ha _ e1,e.own _ _ e2,e3.at λo q=>hi d o (.inl e2) q,e4.mono e⟩
 |exc C es=>
  obtain⟨e0,d,vs,e1,e2,e5,e6⟩:=x
  refine⟨e0,d,vs,ha _ e1,e2.keep e λb o q=>hi b o (.inl q),e5,e6.imp id ?_⟩
  rintro ⟨T,oT,ts,f1,f2,f3,f4⟩
  exact⟨T,oT,ts,f1,e.own _ _ f2,hi T oT (.inr f2) f3,f4⟩
 |dict es=>
  obtain⟨e0,o,ents,ep,e1,e2,e3,e4⟩:=x
  exact⟨e0,o,ents,ep,ha _ e1,e2,e3,e4.imp (λ⟨kvs,q,r⟩=>⟨kvs,q.mono e,r⟩) λ⟨xs,q,r⟩=>⟨xs,q.mono e,r⟩⟩
 |list xs=>obtain⟨e0,vs,ep,e1,e2⟩:=x;exact⟨e0,vs,ep,ha _ e1,e2.mono e⟩
 |tup xs=>obtain⟨e0,vs,ep,e1,e2⟩:=x;exact⟨e0,vs,ep,ha _ e1,e2.mono e⟩
 |range b n=>obtain⟨c,t,u,v,e1,e2⟩:=x;exact⟨c,t,u,v,ha _ e1,e2⟩
 |lrange b n=>obtain⟨y,c,t,u,v,e0,e1,e2⟩:=x;exact⟨y,c,t,u,v,e.X _ e0,ha _ e1,e2⟩
 |vals j=>exact⟨Nat.lt_of_lt_of_le x.1 e.n,by rw[e.ρ j x.1];exact ha _ x.2⟩
 |cell v=>exact x.imp (λq=>⟨ha _ q.1,q.2⟩) λ⟨u,v',q1,q2,q3⟩=>⟨u,v',ha _ q1,q2,q3.mono e⟩
 |lam ps b sc cs=>
  obtain⟨name,qual,cl,pm,cdv,ct,o,e1,e2,e3,e4,e5⟩:=x
  refine⟨name,qual,cl,pm,cdv,ct,o,ha _ e1,e2,e3.mono e hk hc,λn j q r=>?_,e5⟩
  obtain⟨x1,x2⟩:=e4 n j q r
  exact⟨Nat.lt_of_lt_of_le x1 e.n,by rw[e.ρ j x1];exact x2⟩
 |box=>
  obtain⟨ep,ep',L,p,t,c,u,xs,e1,e2,e3,e4⟩:=x
  exact⟨ep,ep',L,p,t,c,u,xs,ha _ e1,e.own _ _ e2,hi _ _ (.inl e2) e3,e4⟩
 |boxd j m d=>
  obtain⟨ep,ep',L,p,t,c,u,xs,e1,e2,e3,e4⟩:=x
  exact⟨ep,ep',L,p,t,c,u,xs,ha _ e1,e.own _ _ e2,hi _ _ (.inl e2) e3,e4⟩
 |mdict es ab=>
  obtain⟨e0,kvs,B,r,e1,e2,e2',e3,e4,e5⟩:=x
  refine⟨e0,kvs,B,r,e1.at ha,e2,e2',e.R _ e3,λn=>?_,e5⟩
  have:=e4 n
  induction q:aD es n with
  |none=>rw[q]at this;exact this
  |some v=>rw[q]at this;obtain⟨u,f1,f2⟩:=this;exact⟨u,f1,f2.mono e⟩
end
section
set_option backward.match.sparseCases false
structure Cf where
 L:Addr
 ext:List (Addr×Obj)
 frs:List (Addr×Data)
 envs:List Env
noncomputable def kA(a:Addr):Str:=if a=756 then Str.ofString "_law_things_right.<locals>.<lambda>" else if a=761 then Str.ofString "_law_spread_right.<locals>.<lambda>" else Str.ofString "_law_frozen_right.<locals>.<lambda>"
def TA(Z:Gd)(V:Vl)(h:Heap)(a:Addr):Prop:=
 ∃ps,h.get? a=some (tabObj ps)/\TriplesOk ps.toList/\∀pos cv,codeAmong pos ps.toList=some cv->CodeK Z V h cv (kA a)
noncomputable def AtomsAre:List bT->List Value->Prop
 | [],[]=>True
 |k::ks,v::vs=>cK k v=true/\AtomsAre ks vs
 |_,_=>False
def TupAt(h:Heap)(a:Addr)(ks:List bT):Prop:=∃vs ep,h.get? a=some ⟨.type "tuple",none,.seq vs ep,#[]⟩/\AtomsAre ks vs.toList
structure aJi(Z:Gd)(s:Shared):Prop where
 like:s={Z.s0 with heap:=s.heap,toks:=s.toks}
 old:∀a o,Z.s0.heap.get? a=some o->a∉tabs->s.heap.get? a=some o
abbrev XOk(b:Bool)(X:Option Int):Prop:=(b=true->X=none)/\∀x,X=some x->0≤x/\x<1000
def tagIn(n:Nat):Own->Prop
 |.obj i=>i<n
 |.dict i=>i<n
 |.tb i=>i<n
 |_=>True
theorem tagIn.le(h:n≤m):∀{o:Own},tagIn n o->tagIn m o
 |.obj _,x=>Nat.lt_of_lt_of_le x h
 |.dict _,x=>Nat.lt_of_lt_of_le x h
 |.tb _,x=>Nat.lt_of_lt_of_le x h
 |.fr _,_=>trivial
 |.ext _,_=>trivial
 |.code,_=>trivial
theorem l6{V:Vl}{T:Addr}{o:Own}(h:tagIn V.n o):∀a w,(V.note T o).own a=some w->V.own a=some w∨tagIn (V.note T o).n w:=λa w e=>by
 change(if a=T then some o else V.own a)=some w at e
 by_cases q:a=T
 ·rw[if_pos q]at e;obtain rfl:=Option.some.inj e;exact .inr h
 ·rw[if_neg q]at e;exact .inl e
structure Inv(Z:Gd)(C:Cf)(V:Vl)(J:St)(s:Shared):Prop where
 base:aJi Z s
 tab:∀a,a∈tabs->TA Z V s.heap a
 own:∀a o,V.own a=some o->Z.s0.heap.get? a=none/\∃x,s.heap.get? a=some x
 n:J.n=V.n
 T:∀i o,J.T.get i=some o->i<V.n/\V.own (V.ρ i)=some (.obj i)/\OR Z V s.heap i (V.ρ i) o
 L:V.own C.L=some (.fr C.frs.length)/\∃m,s.heap.Ns1 C.L m/\AR V J.L m
 frs:∀k a d,C.frs[k]?=some (a,d)->V.own a=some (.fr k)/\∃o,s.heap.get? a=some o/\o.data=d
 ext:∀(k:Nat) (a:Addr) (o:Obj),C.ext[k]?=some (a,o)->V.own a=none/\Z.s0.heap.get? a=none/\s.heap.get? a=some o
 tk:∀i ks,V.tk i=some ks->i<V.n/\V.own (V.ρ i)=some (.obj i)/\TupAt s.heap (V.ρ i) ks
 X:XOk J.sy V.X
 tabLo:∀a,a∈tabs->∃o,Z.s0.heap.get? a=some o
 sm:∃o,Z.s0.heap.get? sysModules=some o
 sc:V.S=Z.S
 tg:∀a o,V.own a=some o->tagIn V.n o
theorem Inv.base_own(I:Inv Z C V J s)(h:Z.s0.heap.get? a=some o):V.own a=none:=by
 induction e:V.own a with
 |none=>rfl
 |some w=>rw[(I.own a w e).1]at h;exact fo h
theorem Inv.tab_own(I:Inv Z C V J s)(h:a∈tabs):V.own a=none:=by
 induction e:V.own a with
 |none=>rfl
 |some w=>obtain⟨o,ho⟩:=I.tabLo a h;rw[(I.own a w e).1]at ho;exact fo ho
theorem Inv.fresh(I:Inv Z C V J s)(h:s.heap.objs.size≤a):Z.s0.heap.get? a=none:=by
 induction e:Z.s0.heap.get? a with
 |none=>rfl
 |some o=>
  exfalso
  by_cases ht:a∈tabs
  ·obtain⟨ps,h1,_⟩:=I.tab a ht
   exact absurd (Heap.lt_size h1) (Nat.not_lt.mpr h)
  ·exact absurd (Heap.lt_size (I.base.old a o e ht)) (Nat.not_lt.mpr h)
theorem aZ(hs:Heap.SameBut d h h')(hd:∃y,h'.get? d=some y):∀b x,h.get? b=some x->∃y,h'.get? b=some y:=λb x e=>by
 by_cases q:b=d
 ·exact q▸hd
 ·exact⟨x,(hs.2 b q).trans e⟩
theorem Inv.tok(I:Inv Z C V J s)(t:Nat):Inv Z C V J {s with toks:=t}:=
 ⟨⟨by have:=I.base.like;rw[this],I.base.old⟩,I.tab,I.own,I.n,I.T,I.L,I.frs,I.ext,I.tk,I.X,I.tabLo,I.sm,I.sc,I.tg⟩
theorem Inv.new_none(I:Inv Z C V J s)(h:s.heap.objs.size≤a):V.own a=none/\Z.s0.heap.get? a=none/\∀(k:Nat) (o:Obj),C.ext[k]?≠some (a,o):=by
 refine⟨?_,I.fresh h,λk o e=>absurd (Heap.lt_size (I.ext k a o e).2.2) (Nat.not_lt.mpr h)⟩
 induction e:V.own a with
 |none=>rfl
 |some w=>obtain⟨x,hx⟩:=(I.own a w e).2;exact absurd (Heap.lt_size hx) (Nat.not_lt.mpr h)
theorem Inv.goF(I:Inv Z C V J s)(le:V.Le V')(ch:Own->Prop)(free:Addr->Prop)(hfree:∀b,free b->V.own b=none/\(b∉tabs->Z.s0.heap.get? b=none)/\∀(k:Nat) (o:Obj),C.ext[k]?≠some (b,o))(htab:∀a,a∈tabs->¬free a∨TA Z V' s'.heap a)(like:s'={s with heap:=s'.heap,toks:=s'.toks})(live:∀b x,(∃w,V.own b=some w)->s.heap.get? b=some x->∃y,s'.heap.get? b=some y)(own:∀a o,V'.own a=some o->V.own a=some o∨((V.own a=none/\Z.s0.heap.get? a=none/\∀(k:Nat) (o:Obj),C.ext[k]?≠some (a,o))/\∃x,s'.heap.get? a=some x))(keep:∀b o,¬free b->(∀w,V.own b=some w->¬ch w)->s.heap.get? b=some o->s'.heap.get? b=some o)(n:J'.n=V'.n)(T:∀j o,J'.T.get j=some o->(J.T.get j=some o/\¬ch (.obj j)/\¬ch (.dict j)/\¬ch (.tb j))∨(j<V'.n/\V'.own (V'.ρ j)=some (.obj j)/\OR Z V' s'.heap j (V'.ρ j) o))(L:(J'.L=J.L/\¬ch (.fr C.frs.length))∨∃m,s'.heap.Ns1 C.L m/\AR V' J'.L m)(hfr:∀k a d,C.frs[k]?=some (a,d)->¬ch (.fr k)∨∃o,s'.heap.get? a=some o/\o.data=d)(hext:∀k,¬ch (.ext k))(hcode:¬ch .code)(tk:∀i ks,V'.tk i=some ks->(V.tk i=some ks/\¬ch (.obj i))∨(i<V'.n/\V'.own (V'.ρ i)=some (.obj i)/\TupAt s'.heap (V'.ρ i) ks))(X:XOk J'.sy V'.X)(htg:∀a o,V'.own a=some o->V.own a=some o∨tagIn V'.n o:=by exact λO O h=>.inl h):Inv Z C V' J' s':=by
 have kb:∀b o,Z.s0.heap.get? b=some o->b∉tabs->s.heap.get? b=some o->s'.heap.get? b=some o:=λb o h hb e=>keep b o (λq=>by rw[(hfree b q).2.1 hb]at h;exact fo h) (λw hw=>by rw[I.base_own h]at hw;exact fo hw) e
 have kc:∀b o,V.own b=some .code->s.heap.get? b=some o->s'.heap.get? b=some o:=λb o h e=>keep b o (λq=>by rw[(hfree b q).1]at h;exact fo h) (λw hw=>by rw[h]at hw;obtain rfl:=Option.some.inj hw;exact hcode) e
 refine⟨⟨by rw[like,I.base.like],λa o h ht=>kb a o h ht (I.base.old a o h ht)⟩,λa ha=>?_,λa o h=>?_,n,λj o h=>?_,⟨le.own _ _ I.L.1,?_⟩,λk a d h=>?_,λk a o h=>?_,λi ks h=>?_,X,I.tabLo,I.sm,le.S.trans I.sc,λa o h=>(htg a o h).elim (λh=>(I.tg a o h).le le.n) id⟩
 ·refine(htab a ha).elim (λq=>?_) id
  obtain⟨ps,h1,h2,h3⟩:=I.tab a ha
  exact⟨ps,keep a _ q (λw hw=>by rw[I.tab_own ha]at hw;exact fo hw) h1,h2,λpos cv e=>(h3 pos cv e).mono le kb kc⟩
 ·rcases own a o h with h|⟨h1,h2⟩
  ·obtain⟨x,hx⟩:=(I.own a o h).2
   exact⟨(I.own a o h).1,live a x ⟨_,h⟩ hx⟩
  ·exact⟨h1.2.1,h2⟩
 ·rcases T j o h with⟨h,c1,c2,c3⟩|h
  ·obtain⟨t1,t2,t3⟩:=I.T j o h
   refine⟨Nat.lt_of_lt_of_le t1 le.n,by rw[le.ρ j t1];exact le.own _ _ t2,?_⟩
   rw[le.ρ j t1]
   exact t3.keep le kb kc (λo e=>keep _ o (λq=>by rw[(hfree _ q).1]at t2;exact fo t2) (λw hw=>by rw[t2]at hw;obtain rfl:=Option.some.inj hw;exact c1) e)
    λb o hb e=>keep b o (λq=>by rw[(hfree _ q).1]at hb;rcases hb with hb|hb<;>exact fo hb) (λw hw=>by rcases hb with hb|hb<;>rw[hb]at hw<;>obtain rfl:=Option.some.inj hw<;>assumption) e
  ·exact h
 ·rcases L with⟨e,c⟩|h
  ·obtain⟨m,h1,h2⟩:=I.L.2
   exact⟨m,h1.at λo q=>keep _ o (λq'=>by have:=I.L.1;rw[(hfree _ q').1]at this;exact fo this) (λw hw=>by rw[I.L.1]at hw;obtain rfl:=Option.some.inj hw;exact c) q,e▸h2.mono le⟩
  ·exact h
 ·obtain⟨h1,o,h2,h3⟩:=I.frs k a d h
  rcases hfr k a d h with c|c
  ·exact⟨le.own _ _ h1,o,keep a o (λq=>by rw[(hfree _ q).1]at h1;exact fo h1) (λw hw=>by rw[h1]at hw;obtain rfl:=Option.some.inj hw;exact c) h2,h3⟩
  ·exact⟨le.own _ _ h1,c⟩
 ·obtain⟨h1,h0,h2⟩:=I.ext k a o h
  refine⟨?_,h0,keep a o (λq=>(hfree _ q).2.2 _ _ h) (λw hw=>by rw[h1]at hw;exact fo hw) h2⟩
  induction e:V'.own a with
  |none=>rfl
  |some w=>
   rcases own a w e with e'|⟨e1,_⟩
   ·rw[h1]at e';exact fo e'
   ·exact absurd h (e1.2.2 k o)
 ·rcases tk i ks h with⟨h,c⟩|h
  ·obtain⟨t1,t2,vs,ep,t3,t4⟩:=I.tk i ks h
   exact⟨Nat.lt_of_lt_of_le t1 le.n,by rw[le.ρ i t1];exact le.own _ _ t2,vs,ep,by rw[le.ρ i t1];exact keep _ _ (λq=>by rw[(hfree _ q).1]at t2;exact fo t2) (λw hw=>by rw[t2]at hw;obtain rfl:=Option.some.inj hw;exact c) t3,t4⟩
  ·exact h
theorem Inv.go(I:Inv Z C V J s)(le:V.Le V')(ch:Own->Prop)(like:s'={s with heap:=s'.heap,toks:=s'.toks})(live:∀b x,s.heap.get? b=some x->∃y,s'.heap.get? b=some y)(own:∀a o,V'.own a=some o->V.own a=some o∨(s.heap.objs.size≤a/\∃x,s'.heap.get? a=some x))(keep:∀b o,(∀w,V.own b=some w->¬ch w)->s.heap.get? b=some o->s'.heap.get? b=some o)(n:J'.n=V'.n)(T:∀j o,J'.T.get j=some o->(J.T.get j=some o/\¬ch (.obj j)/\¬ch (.dict j)/\¬ch (.tb j))∨(j<V'.n/\V'.own (V'.ρ j)=some (.obj j)/\OR Z V' s'.heap j (V'.ρ j) o))(L:(J'.L=J.L/\¬ch (.fr C.frs.length))∨∃m,s'.heap.Ns1 C.L m/\AR V' J'.L m)(hfr:∀k,k<C.frs.length->¬ch (.fr k))(hext:∀k,¬ch (.ext k))(hcode:¬ch .code)(tk:∀i ks,V'.tk i=some ks->(V.tk i=some ks/\¬ch (.obj i))∨(i<V'.n/\V'.own (V'.ρ i)=some (.obj i)/\TupAt s'.heap (V'.ρ i) ks))(X:XOk J'.sy V'.X)(htg:∀a o,V'.own a=some o->V.own a=some o∨tagIn V'.n o:=by exact λO O h=>.inl h):Inv Z C V' J' s':=
 I.goF le ch (λO=>False) nofun (λO O=>.inl id) like (λb x O=>live b x) (λa o h=>(own a o h).imp id λ⟨x,y⟩=>⟨I.new_none x,y⟩) (λb o O=>keep b o) n T L (λk a d h=>.inl (hfr k (List.getElem?_eq_some_iff.mp h).1)) hext hcode tk X htg
theorem Inv.local(I:Inv Z C V J s)(hs:Heap.SameBut C.L s.heap h')(hn:h'.Ns1 C.L m)(ha:AR V L' m):Inv Z C V ⟨J.T,J.n,L',J.sy⟩ {s with heap:=h',toks:=t}:=by
 refine I.go (Vl.Le.refl V) (λw=>w= .fr C.frs.length) rfl (aZ hs (let⟨o,_,_,ho,_⟩:=hn;⟨o,ho⟩)) (λa o h=>.inl h) (λb o hb e=>?_) I.n
  (λj o h=>.inl ⟨h,nofun,nofun,nofun⟩) (.inr ⟨m,hn,ha⟩) (λk hk e=>by cases e;exact Nat.lt_irrefl _ hk) (λO=>nofun) nofun (λi ks h=>.inl ⟨h,nofun⟩) I.X
 exact(hs.2 b λq=>hb _ (q▸I.L.1) rfl).trans e
theorem Inv.store(I:Inv Z C V J s)(hi:J.T.get i=some o)(hT:J.T.set? o' i=some T')(hnt:∀x,s.heap.get? (V.ρ i)=some x->x.cls≠ .type "tuple")(live:∀b x,s.heap.get? b=some x->∃y,h'.get? b=some y)(keep:∀b x,V.own b≠some (.obj i)->V.own b≠some (.dict i)->V.own b≠some (.tb i)->s.heap.get? b=some x->h'.get? b=some x)(ho:OR Z V h' i (V.ρ i) o'):Inv Z C V ⟨T',J.n,J.L,J.sy⟩ {s with heap:=h',toks:=t}:=by
 refine hold λG_ fin_=>?_
 obtain⟨t1,t2,t3⟩:=I.T i o hi
 refine fin_ ?_
 refine I.go (Vl.Le.refl V) (λw=>w= .obj i∨w= .dict i∨w= .tb i) rfl live (λa o h=>.inl h) (λb x hb e=>keep b x (λq=>hb _ q (.inl rfl)) (λq=>hb _ q (.inr (.inl rfl))) (λq=>hb _ q (.inr (.inr rfl))) e) I.n
  (λj x h=>?_) (.inl ⟨rfl,by simp⟩) (λk hk=>by simp) (λO=>by simp) (by simp) (λj ks h=>.inl ⟨h,?_⟩) I.X
 ·rw[PT.get_set _ _ _ _ hT]at h
  by_cases q:j=i
  ·subst q;rw[if_pos rfl]at h;obtain rfl:=Option.some.inj h;exact .inr ⟨t1,t2,ho⟩
  ·rw[if_neg q]at h;exact .inl ⟨h,by simp[q],by simp[q],by simp[q]⟩
 ·intro q
  obtain⟨k1,k2,vs,ep,k3,k4⟩:=I.tk j ks h
  rcases q with q|q|q<;>cases q
  exact hnt _ k3 rfl
noncomputable def Vl.add(V:Vl)(a:Addr)(xs:List (Addr×Own))(t:Option (List bT)):Vl where
 ρ:=λj=>if j=V.n then a else V.ρ j
 own:=λb=>if b=a then some (.obj V.n)else match xs.find? (λp=>p.1==b)with|some p=>some p.2|none=>V.own b
 X:=V.X
 n:=V.n+1
 tk:=λj=>if j=V.n then t else V.tk j
 R:=V.R
 Y:=V.Y
 S:=V.S
theorem Inv.add_le(I:Inv Z C V J s)(ha:s.heap.objs.size≤a)(hx:∀p,p∈xs->s.heap.objs.size≤p.1):V.Le (V.add a xs t):=by
 refine⟨Nat.le_succ _,λi h=>if_neg (Nat.ne_of_lt h),λb o h=>?_,λO e=>e,λi ks h=>?_,λO e=>e,λO O e=>e,rfl⟩
 ·obtain⟨x0,hx0⟩:=(I.own b o h).2
  have:=Heap.lt_size hx0
  show(if b=a then _ else _)=_
  rw[if_neg (Nat.ne_of_lt (Nat.lt_of_lt_of_le this ha))]
  induction q:xs.find? (λp=>p.1==b)with
  |none=>exact h
  |some p=>
   have:=hx p (List.mem_of_find?_eq_some q)
   have e:=List.find?_some q
   rw[beq_iff_eq]at e
   exact absurd (Nat.lt_of_lt_of_le (e▸Heap.lt_size hx0) (hx p (List.mem_of_find?_eq_some q))) (Nat.lt_irrefl _)
 ·exact(if_neg (Nat.ne_of_lt (I.tk i ks h).1)).trans h
theorem Inv.alloc{Z:Gd}{C:Cf}{V:Vl}{J:St}{s:Shared}(I:Inv Z C V J s){o:SObj}{T':PT}{h':Heap}{a:Addr}{xs:List (Addr×Own)}{t:Option (List bT)}{tk:Nat}
 (hT:J.T.set? o J.n=some T') (ha:s.heap.objs.size≤a) (hah:∃x,h'.get? a=some x) (hx:∀p,p∈xs->s.heap.objs.size≤p.1/\∃x,h'.get? p.1=some x)
 (keep:∀b x,s.heap.get? b=some x->h'.get? b=some x)
 (ho:OR Z (V.add a xs t) h' V.n a o) (ht:∀ks,t=some ks->TupAt h' a ks) (hxt:∀p,p∈xs->tagIn (V.n+1) p.2:=by first|(intro p hp;cases hp;done)|(intro p hp;simp only[List.mem_singleton]at hp;subst hp;exact Nat.lt_succ_self _)):
 V.Le (V.add a xs t)/\VR (V.add a xs t) (.ref J.n) (.ref a)/\Inv Z C (V.add a xs t) ⟨T',Nat.succ J.n,J.L,J.sy⟩ {s with heap:=h',toks:=tk}:=by
 have le:=I.add_le (t:=t) ha λp hp=>(hx p hp).1
 have en:(V.add a xs t).ρ V.n=a:=if_pos rfl
 have eo:(V.add a xs t).own a=some (.obj V.n):=if_pos rfl
 refine⟨le,?_,?_⟩
 ·rw[I.n];have:=VR.ref (V:=V.add a xs t) V.n (Nat.lt_succ_self _);rwa [en]at this
 refine I.go le (λO=>False) rfl (λb x e=>⟨x,keep b x e⟩) (λb w h=>?_) (λb x O e=>keep b x e) (by rw[I.n];rfl) (λj x h=>?_) (.inl ⟨rfl,id⟩) (λO O=>id) (λO=>id) id (λj ks h=>?_) I.X (λb w h=>?_)
 ·change(if b=a then some (Own.obj V.n)else _)=some w at h
  by_cases q:b=a
  ·exact .inr ⟨q▸ha,q▸hah⟩
  ·rw[if_neg q]at h
   induction z:xs.find? (λp=>p.1==b)with
   |none=>rw[z]at h;exact .inl h
   |some p=>
    have:=hx p (List.mem_of_find?_eq_some z)
    have e:=List.find?_some z
    rw[beq_iff_eq]at e
    exact .inr (e▸this)
 ·rw[PT.get_set _ _ _ _ hT,I.n]at h
  by_cases q:j=V.n
  ·subst q;rw[if_pos rfl]at h;obtain rfl:=Option.some.inj h
   exact .inr ⟨Nat.lt_succ_self _,by rw[en];exact eo,by rw[en];exact ho⟩
  ·rw[if_neg q]at h;exact .inl ⟨h,id,id,id⟩
 ·change(if j=V.n then t else V.tk j)=some ks at h
  by_cases q:j=V.n
  ·subst q;rw[if_pos rfl]at h
   exact .inr ⟨Nat.lt_succ_self _,by rw[en];exact eo,by rw[en];exact ht ks h⟩
  ·rw[if_neg q]at h;exact .inl ⟨h,id⟩
 ·change(if b=a then some (Own.obj V.n)else match xs.find? (λp=>p.1==b)with|some p=>some p.2|none=>V.own b)=some w at h
  by_cases q:b=a
  ·rw[if_pos q]at h;obtain rfl:=Option.some.inj h;exact .inr (Nat.lt_succ_self _)
  ·rw[if_neg q]at h
   induction z:xs.find? (λp=>p.1==b)with
   |none=>rw[z]at h;exact .inl h
   |some p=>rw[z]at h;obtain rfl:=Option.some.inj h;exact .inr (hxt p (List.mem_of_find?_eq_some z))
theorem Inv.but(I:Inv Z C V J s)(h0:V.own it=none)(hb:Z.s0.heap.get? it=none)(he:∀(k:Nat) (o:Obj),C.ext[k]?≠some (it,o))(hk:∀b o,b≠it->s.heap.get? b=some o->h'.get? b=some o):Inv Z C V J {s with heap:=h',toks:=t}:=
 I.goF (Vl.Le.refl V) (λO=>False) (λb=>b=it) (λb q=>by subst q;exact⟨h0,λO=>hb,he⟩) (λa ha=>.inl λq=>by obtain⟨o,ho⟩:=I.tabLo a ha;rw[q,hb]at ho;exact fo ho) rfl (λb x ⟨w,hw⟩ e=>⟨x,hk b x (λq=>by rw[q,h0]at hw;exact fo hw) e⟩) (λa o h=>.inl h) (λb x q O e=>hk b x q e) I.n
  (λk x h=>.inl ⟨h,id,id,id⟩) (.inl ⟨rfl,id⟩) (λk a d h=>.inl id) (λO=>id) id (λi ks e=>.inl ⟨e,id⟩) I.X
noncomputable abbrev Cf.hold(C:Cf)(a:Addr)(o:Obj):Cf:=⟨C.L,(a,o)::C.ext,C.frs,C.envs⟩
theorem Inv.hold(I:Inv Z C V J s)(h0:V.own a=none)(hb:Z.s0.heap.get? a=none)(ho:s.heap.get? a=some o):Inv Z (C.hold a o) V J s:=
 ⟨I.base,I.tab,I.own,I.n,I.T,I.L,I.frs,λk b x h=>by
   induction k using Nat.casesOn with
   |zero=>cases h;exact⟨h0,hb,ho⟩
   |succ k=>exact I.ext k b x h,I.tk,I.X,I.tabLo,I.sm,I.sc,I.tg⟩
theorem Inv.unhold(I:Inv Z (C.hold a o) V J s):Inv Z C V J s:=
 ⟨I.base,I.tab,I.own,I.n,I.T,I.L,I.frs,λk b x h=>I.ext (k+1) b x h,I.tk,I.X,I.tabLo,I.sm,I.sc,I.tg⟩
theorem Inv.held{Z:Gd}{C:Cf}{V:Vl}{J:St}{s:Shared}{a:Addr}{o:Obj}(I:Inv Z (C.hold a o) V J s):V.own a=none/\Z.s0.heap.get? a=none/\s.heap.get? a=some o:=I.ext 0 a o rfl
theorem Inv.adopt{Z:Gd}{C:Cf}{V:Vl}{J:St}{s:Shared}(I:Inv Z C V J s){o:SObj}{T':PT}{h':Heap}{a:Addr}{tk:Nat}(hT:J.T.set? o J.n=some T')(h0:V.own a=none)(hb:Z.s0.heap.get? a=none)(he:∀(k:Nat) (o:Obj),C.ext[k]?≠some (a,o))
 (hah:∃x,h'.get? a=some x) (keep:∀b x,b≠a->s.heap.get? b=some x->h'.get? b=some x) (ho:OR Z (V.add a [] none) h' V.n a o):
 V.Le (V.add a [] none)/\VR (V.add a [] none) (.ref J.n) (.ref a)/\Inv Z C (V.add a [] none) ⟨T',Nat.succ J.n,J.L,J.sy⟩ {s with heap:=h',toks:=tk}:=by
 have le:V.Le (V.add a [] none):=⟨Nat.le_succ _,λi h=>if_neg (Nat.ne_of_lt h),λb o h=>(if_neg (λq=>by rw[q,h0]at h;exact fo h)).trans h,λO e=>e,λi ks h=>(if_neg (Nat.ne_of_lt (I.tk i ks h).1)).trans h,λO e=>e,λO O e=>e,rfl⟩
 have en:(V.add a [] none).ρ V.n=a:=if_pos rfl
 have eo:(V.add a [] none).own a=some (.obj V.n):=if_pos rfl
 refine⟨le,?_,?_⟩
 ·rw[I.n];have:=VR.ref (V:=V.add a [] none) V.n (Nat.lt_succ_self _);rwa [en]at this
 refine I.goF le (λO=>False) (λb=>b=a) (λb q=>by subst q;exact⟨h0,λO=>hb,he⟩) (λc hc=>.inl λq=>by obtain⟨o,ho⟩:=I.tabLo c hc;rw[q,hb]at ho;exact fo ho) rfl
  (λb x ⟨w,hw⟩ e=>⟨x,keep b x (λq=>by rw[q,h0]at hw;exact fo hw) e⟩) (λb w h=>?_) (λb x q O e=>keep b x q e) (by rw[I.n];rfl) (λj x h=>?_) (.inl ⟨rfl,id⟩) (λO O O O=>.inl id) (λO=>id) id (λj ks h=>?_) I.X (λb w h=>?_)
 ·change(if b=a then some (Own.obj V.n)else V.own b)=some w at h
  by_cases q:b=a
  ·exact .inr ⟨q▸⟨h0,hb,he⟩,q▸hah⟩
  ·rw[if_neg q]at h;exact .inl h
 ·rw[PT.get_set _ _ _ _ hT,I.n]at h
  by_cases q:j=V.n
  ·subst q;rw[if_pos rfl]at h;obtain rfl:=Option.some.inj h
   exact .inr ⟨Nat.lt_succ_self _,by rw[en];exact eo,by rw[en];exact ho⟩
  ·rw[if_neg q]at h;exact .inl ⟨h,id,id,id⟩
 ·change(if j=V.n then none else V.tk j)=some ks at h
  by_cases q:j=V.n
  ·rw[if_pos q]at h;exact fo h
  ·rw[if_neg q]at h;exact .inl ⟨h,id⟩
 ·change(if b=a then some (Own.obj V.n)else V.own b)=some w at h
  by_cases q:b=a
  ·rw[if_pos q]at h;obtain rfl:=Option.some.inj h;exact .inr (Nat.lt_succ_self _)
  ·rw[if_neg q]at h;exact .inl h
end
section
inductive KindRel:Option NameKind->Option NameKind->Prop
 |none:KindRel none none
 |same (k:NameKind):KindRel (some k) (some k)
 |cell:KindRel (some .free) (some .cell)
noncomputable def fF(P:Addr):Addr:=if P=756 then 758 else if P=761 then 763 else 775
theorem KindRel.loc{z:Option NameKind}(h:KindRel (some .local) z):z=some .local:=by cases h;rfl
theorem KindRel.loc'{z:Option NameKind}(h:KindRel z (some .local)):z=some .local:=by cases h;rfl
structure EnvOk(C:Cf)(V:Vl)(c:Cx)(env:Env):Prop where
 kind:env.scope.kind= .function
 loc:env.locals=C.L
 glob:env.globals=mainGlobals
 bui:env.builtins=builtinsNs
 kinds:∀n,KindRel (aF c.names n) (env.kindOf (tx n))
 dbg:env.kindOf "__debug__" =none
 cld:env.kindOf "__classdict__" =none
 sup:env.kindOf "super" =none
 cells:∀n j,aD c.cells n=some j->(aF c.names n=some .cell∨aF c.names n=some .free)->j<V.n/\env.cells.lookup (tx n)=some (V.ρ j)
 frm:∃e0 rest a,C.envs=e0::rest/\e0.frame=some a/\env.frame=some a
 lam:c.tab≠0->c.tab∈tabs/\env.code= .ref (fF c.tab)/\env.qual++("<lambda>" :Str)=kA c.tab
theorem EnvOk.mono{C:Cf}{V V':Vl}{c:Cx}{env:Env}(e:V.Le V')(h:EnvOk C V c env):EnvOk C V' c env:=
 ⟨h.kind,h.loc,h.glob,h.bui,h.kinds,h.dbg,h.cld,h.sup,λn j q q'=>let⟨a,b⟩:=h.cells n j q q';⟨Nat.lt_of_lt_of_le a e.n,by rw[e.ρ j a];exact b⟩,h.frm,h.lam⟩
structure AOk(C:Cf)(A:Around)(n:Nat):Prop where
 depth:A.depth+n<990
 units:A.units+12*n<9800
 frames:A.frames=some C.envs
 fr:∀e,e∈C.envs->e.scope.kind≠ .module/\∃a,e.frame=some a/\(a=C.L∨∃(k:Nat) (es:Array DictEntry) (ep:Nat),C.frs[k]?=some (a,PySem.Data.dict es ep))
theorem AOk.le{C:Cf}{A:Around}{n m:Nat}(h:AOk C A n)(l:m≤n):AOk C A m:=⟨by have:=h.depth;exact Nat.lt_of_le_of_lt (Nat.add_le_add_left l _) this,by have:=h.units;exact Nat.lt_of_le_of_lt (Nat.add_le_add_left (Nat.mul_le_mul_left 12 l) _) this,h.frames,h.fr⟩
abbrev QV(Z:Gd)(C:Cf)(V:Vl)(k:KK)(Q:Value->Shared->Prop):Prop:=
 ∀v u J V' s,k (.val v) J=true->V.Le V'->Inv Z C V' J s->VR V' v u->Q u s
def zC(J:St)(x:SV):Prop:=∃i K es,x= .ref i/\J.T.get i=some (.exc K es)
abbrev QX(Z:Gd)(C:Cf)(V:Vl)(kx:KX)(E:Value->Shared->Prop):Prop:=
 ∀x u J V' s,kx x J=true->V.Le V'->Inv Z C V' J s->VR V' x u->zC J x->E u s
theorem QV.mono{Z:Gd}{C:Cf}{V V':Vl}{k:KK}{Q:Value->Shared->Prop}(h:QV Z C V k Q)(e:V.Le V'):QV Z C V' k Q:=λv u J W s a b=>h v u J W s a (e.trans b)
theorem QX.mono{Z:Gd}{C:Cf}{V V':Vl}{k:KX}{Q:Value->Shared->Prop}(h:QX Z C V k Q)(e:V.Le V'):QX Z C V' k Q:=λv u J W s a b=>h v u J W s a (e.trans b)
def rF(Z:Gd):Prop:=∃mg mb,Z.s0.heap.Ns mainGlobals mg/\Z.s0.heap.Ns builtinsNs mb/\mainGlobals∉tabs/\builtinsNs∉tabs/\
 ∀n v,dQ n=some v->∃u,(mg (tx n)=some u∨(mg (tx n)=none/\mb (tx n)=some u))/\∀V,VR V v u
theorem Inv.heap{Z:Gd}{C:Cf}{V:Vl}{J:St}{s:Shared}(I:Inv Z C V J s){a:Addr}{m:Str->Option Value}(h:Z.s0.heap.Ns a m)(ht:a∉tabs):s.heap.Ns a m:=
 h.at' λo e=>I.base.old a o e ht
theorem some?_eq{α:Type}{o:Option α}{f:α->Bool}(h:some? o f=true):∃a,o=some a/\f a=true:=by
 induction o with
 |none=>exact ff h
 |some a=>exact⟨a,rfl,h⟩
theorem gR{M:Model}{A:Around}{E:Value->Shared->Prop}{s:Shared}{env:Env}{name:Str}{m:Str->Option Value}{v:Value}{Q:Unit->Shared->Prop}(hl:env.kindOf name=some .local)(hn:s.heap.Ns1 env.locals m)
 (h:∀h',h'.Ns1 env.locals (λx=>if x=name then some v else m x)->Heap.SameBut env.locals s.heap h'->Q () {s with heap:=h',toks:=s.toks+1})
 (hp:(env.scope.kind== .class||(env.scope.kind== .module&&env.locals !=env.globals))=false):wpAny M A (storeName env name v) Q E s:=by
 rw[storeName_local hl hp];exact wpAny_nsSet1 hn h
theorem eA{Z:Gd}(g:rF Z){C:Cf}{V:Vl}{J:St}{s:Shared}{c:Cx}{env:Env}{A:Around}{n:Nm}{k:KV}{Q:Value->Shared->Prop}{E:Value->Shared->Prop}
 (I:Inv Z C V J s) (en:EnvOk C V c env) (h:eN c n J k=true) (hk:∀v u,k v J=true->VR V v u->Q u s):wpAny Z.M A (loadName env (tx n)) Q E s:=by
 refine hold λG_ fin_=>?_
 obtain⟨names,cells⟩:=c
 change some? (aF names n) (s9 cells n J k)=true at h
 obtain⟨kd,hkd,h⟩:=some?_eq h
 refine fin_ ?_
 have kr:=en.kinds n
 change KindRel (aF names n) _ at kr
 rw[hkd]at kr
 have viaCell:(aF names n=some .cell∨aF names n=some .free)->∀j,aD cells n=some j->some? (Mine.cellOf (J.T.get j)) (λv=>k v J)=true->∃u,s.heap.IsCell (V.ρ j) (some u)/\env.cells.lookup (tx n)=some (V.ρ j)/\Q u s:=λhkk j hj h=>by
  refine hold λG_ fin_=>?_
  obtain⟨v,hv,h⟩:=some?_eq h
  obtain⟨hjn,hl⟩:=en.cells n j hj hkk
  refine fin_ ?_
  induction ho:J.T.get j with
  |none=>rw[ho]at hv;exact fo hv
  |some o=>
   rw[ho]at hv
   induction o with
   |cell w=>
    have hv:w=some v:=hv
    subst hv
    refine hold λG_ fin_=>?_
    obtain⟨_,_,x⟩:=I.T j _ ho
    refine fin_ ?_
    rcases x with⟨_,q⟩|⟨u,v',q1,q2,q3⟩
    ·cases q
    ·obtain rfl:=Option.some.inj q2;exact⟨u,⟨_,q1,rfl⟩,hl,hk v u h q3⟩
   |_=>exact fo hv
 have ncd:(tx n==("__classdict__" :Str))=false:=beq_eq_false_iff_ne.mpr λe=>by
  have:=en.cld;rw[<-e]at this;rw[this]at kr;cases kr
 generalize hko:env.kindOf (tx n)=ko at kr
 cases kr with
 |same=>
  induction kd with
  | «local»=>
    refine hold λG_ fin_=>?_
    obtain⟨v,hv,h⟩:=some?_eq (h:some? (aD J.L n) (λv=>k v J)=true)
    obtain⟨m,hm,ha⟩:=I.L.2
    have:=ha n
    rw[hv]at this
    obtain⟨u,h1,h2⟩:=this
    refine fin_ ?_
    exact wpAny_loadName_local en.kind hko (en.loc▸hm.ns) h1 (hk v u h h2)
  |cell=>
   refine hold λG_ fin_=>?_
   obtain⟨j,hj,h⟩:=some?_eq (h:some? (aD cells n) (λi=>some? (Mine.cellOf (J.T.get i)) λv=>k v J)=true)
   obtain⟨u,h1,h2,h3⟩:=viaCell (.inl hkd) j hj h
   refine fin_ ?_
   exact wpAny_loadName_cell en.kind hko h2 h1 h3
  |free=>
   refine hold λG_ fin_=>?_
   obtain⟨j,hj,h⟩:=some?_eq (h:some? (aD cells n) (λi=>some? (Mine.cellOf (J.T.get i)) λv=>k v J)=true)
   obtain⟨u,h1,h2,h3⟩:=viaCell (.inr hkd) j hj h
   refine fin_ ?_
   exact wpAny_loadName_free en.kind hko h2 h1 h3 ncd
  |globalImplicit=>
   refine hold λG_ fin_=>?_
   obtain⟨v,hv,h⟩:=some?_eq (h:some? (dQ n) (λv=>k v J)=true)
   obtain⟨mg,mb,g1,g2,t1,t2,gg⟩:=g
   obtain⟨u,hu,hvr⟩:=gg n v hv
   refine fin_ ?_
   refine ks_loadName_global en.kind hko ?_
   rcases hu with hu|⟨hu,hu'⟩
   ·exact loadGlobal_global (en.glob.symm▸I.heap g1 t1) hu (hk v u h (hvr V))
   ·exact loadGlobal_builtin (en.glob.symm▸I.heap g1 t1) hu (en.bui.symm▸I.heap g2 t2) hu' (hk v u h (hvr V))
  |_=>exact ff h
 |cell=>
  refine hold λG_ fin_=>?_
  obtain⟨j,hj,h⟩:=some?_eq (h:some? (aD cells n) (λi=>some? (Mine.cellOf (J.T.get i)) λv=>k v J)=true)
  obtain⟨u,h1,h2,h3⟩:=viaCell (.inr hkd) j hj h
  refine fin_ ?_
  exact wpAny_loadName_cell en.kind hko h2 h1 h3
theorem fG{Z:Gd}{C:Cf}{V:Vl}{J:St}{s:Shared}{c:Cx}{env:Env}{A:Around}{n:Nm}{v:SV}{u:Value}{k:St->Bool}{Q:Unit->Shared->Prop}{E:Value->Shared->Prop}
 (I:Inv Z C V J s) (en:EnvOk C V c env) (hv:VR V v u) (h:dP c n v J k=true) (hk:∀J' s',k J'=true->Inv Z C V J' s'->Q () s'):wpAny Z.M A (storeName env (tx n) u) Q E s:=by
 obtain⟨names,cells⟩:=c
 change some? (aF names n) (qS cells n v J k)=true at h
 obtain⟨kd,hkd,h⟩:=some?_eq h
 have kr:=en.kinds n
 change KindRel (aF names n) _ at kr
 rw[hkd]at kr
 have viaCell:(env.kindOf (tx n)=some .cell∨env.kindOf (tx n)=some .free)->(aF names n=some .cell∨aF names n=some .free)->(some? (aD cells n) λi=>j5 J i v k (J.T.get i))=true->wpAny Z.M A (storeName env (tx n) u) Q E s:=λhko hkk h=>by
  refine hold λG_ fin_=>?_
  obtain⟨j,hj,h⟩:=some?_eq h
  obtain⟨hjn,hl⟩:=en.cells n j hj hkk
  refine fin_ ?_
  induction ho:J.T.get j with
  |none=>rw[ho]at h;exact ff h
  |some o=>
   rw[ho]at h
   induction o with
   |cell w=>
    change Mine.store J j (.cell (some v)) k=true at h
    unfold Mine.store at h
    rw[PT.put_eq]at h
    induction hT:J.T.set? (.cell (some v)) j with
    |none=>rw[hT]at h;exact ff h
    |some T'=>
     rw[hT]at h
     refine hold λG_ fin_=>?_
     obtain⟨t1,t2,t3⟩:=I.T j _ ho
     have hc:∃w',s.heap.get? (V.ρ j)=some ⟨.type "cell",none,.cell w',#[]⟩:=by
      rcases t3 with⟨q,_⟩|⟨u',_,q,_⟩
      ·exact⟨_,q⟩
      ·exact⟨_,q⟩
     obtain⟨w',hc⟩:=hc
     refine fin_ ?_
     have key:∀h':Heap,h'=s.heap.update (V.ρ j) (λo=>{o with data:=.cell (some u)})->Inv Z C V ⟨T',J.n,J.L,J.sy⟩ {s with heap:=h',toks:=s.toks}:=λh' e=>by
      subst e
      refine I.store ho hT (λx q=>by rw[hc]at q;obtain rfl:=Option.some.inj q;exact λy=>absurd (Value.type.inj y) (by decide)) (aZ (Heap.SameBut.update ..) ⟨_,Heap.get?_update_self _ hc rfl⟩) (λb x b1 O O e=>?_) (.inr ⟨u,v,Heap.get?_update_self _ hc rfl,rfl,hv⟩)
      rw[Heap.get?_update_other _ _ (λq=>b1 (by rw[<-q];exact t2))];exact e
     have fin:wpAny Z.M A (PySem.cellSet (V.ρ j) (some u)) Q E s:=by
      unfold PySem.cellSet
      refine wpAny_bind (wpAny_load hc ?_)
      exact wpAny_update hc (hk _ _ h (key _ rfl))
     unfold storeName
     rcases hko with hko|hko<;>(simp-iota only[hko,en.kind];exact wpAny_bind (wpAny_cellOf hl fin))
   |_=>exact ff h
 generalize hko:env.kindOf (tx n)=ko at kr
 cases kr with
 |same=>
  induction kd with
  | «local»=>
    change lM n v J.L (λL=>k ⟨J.T,J.n,L,J.sy⟩)=true at h
    rw[gP]at h
    obtain⟨m,hm,ha⟩:=I.L.2
    refine gR hko (en.loc▸hm) (λh' hn hs=>?_) (by rw[en.kind];rfl)
    rw[en.loc]at hn hs
    exact hk _ _ h (I.local hs hn (ha.put hv))
  |cell=>exact viaCell (.inl hko) (.inl hkd) h
  |free=>exact viaCell (.inr hko) (.inr hkd) h
  |_=>exact ff h
 |cell=>exact viaCell (.inl hko) (.inr hkd) h
end
section
abbrev aV(e:Expr):Prop:=∃m,cX m e=true
abbrev QT(Z:Gd)(C:Cf)(V:Vl)(k:KK)(Q:Bool->Shared->Prop):Prop:=
 ∀v J V' s,k (.val v) J=true->V.Le V'->Inv Z C V' J s->∃b,Mine.truthy J v=some b/\Q b s
structure QF(Z:Gd)(C:Cf)(V:Vl)(k:KK)(Q:Flow->Shared->Prop):Prop where
 next:∀J V' s,k .next J=true->V.Le V'->Inv Z C V' J s->Q .next s
 ret:∀v u J V' s,k (.ret v) J=true->V.Le V'->Inv Z C V' J s->VR V' v u->Q (.ret u) s
def zD(J:St):SV->Prop
 |.fn a=>∃p,aE iJ a=some p
 |.cls C=>∃p,aE aO C=some p
 |.bi _=>True
 |.ref i=>∃ps b sc cs,J.T.get i=some (.lam ps b sc cs)
 |_=>False
abbrev RV(Q:Value->Shared->Prop)(E:Value->Shared->Prop)(r:Result)(s':Shared):Prop:=match r with|.ok (.ret v)=>Q v s'|.ok _=>False|.error e=>E e s'
structure gS(Z:Gd)(n:Nat)(ih:Ih):Prop where
 star:∀e p c J k kx,ih (.ev (.Starred e p) c) J k kx=false
 noset:∀e j p c J k kx,ih (.ev (.Set e j p) c) J k kx=false
 ev:∀{e:Expr} {c:Cx} {J:St} {k:KK} {kx:KX},ih (.ev e c) J k kx=true->∀{C:Cf} {V:Vl} {s:Shared} {A:Around} {env:Env} {Q E:Value->Shared->Prop},
  Inv Z C V J s->AOk C A n->EnvOk C V c env->(A.handled=none∨aV e)->QV Z C V k Q->QX Z C V kx E->wpAny Z.M A (eval e env) Q E s
 pur:∀{m:Nat} {e:Expr} {c:Cx} {J:St} {k:KK} {kx:KX},d6 m e=true->ih (.ev e c) J k kx=true->∀{C:Cf} {V:Vl} {s:Shared} {A:Around} {env:Env} {Q E:Value->Shared->Prop},
  Inv Z C V J s->AOk C A n->EnvOk C V c env->(∀v u J' V' s',k (.val v) J'=true->V.Le V'->Inv Z C V' J' s'->VR V' v u->(∀b x,s.heap.get? b=some x->s'.heap.get? b=some x)->Q u s')->wpAny Z.M A (eval e env) Q E s
 tr:∀{e:Expr} {c:Cx} {J:St} {k:KK} {kx:KX},ih (.ev e c) J k kx=true->∀{C:Cf} {V:Vl} {s:Shared} {A:Around} {env:Env} {Q:Bool->Shared->Prop} {E:Value->Shared->Prop},
  Inv Z C V J s->AOk C A n->EnvOk C V c env->(A.handled=none∨aV e)->QT Z C V k Q->QX Z C V kx E->wpAny Z.M A (PySem.isTrue e env (eval e env)) Q E s
 exs:∀{ss:List Stmt} {c:Cx} {J:St} {k:KK} {kx:KX},ih (.exs ss c) J k kx=true->∀{C:Cf} {V:Vl} {s:Shared} {A:Around} {env:Env} {Q:Flow->Shared->Prop} {E:Value->Shared->Prop},
  Inv Z C V J s->AOk C A n->EnvOk C V c env->(A.handled=none∨dS ss=true)->QF Z C V k Q->QX Z C V kx E->wpAny Z.M A (execs ss env) Q E s
 call:∀{f:SV} {as:List SV} {J:St} {k:KK} {kx:KX},ih (.call f as) J k kx=true->∀{C:Cf} {V:Vl} {s:Shared} {A:Around} {fv:Value} {vs:List Value} {Q E:Value->Shared->Prop},
  Inv Z C V J s->AOk C A n->A.handled=none->VR V f fv->VRs V as vs->QV Z C V k Q->QX Z C V kx E->wpAny Z.M A (PySem.call fv vs) Q E s
 fnc:∀{f:Nat} {as:List SV} {J:St} {k:KK} {kx:KX},ih (.call (.fn f) as) J k kx=true->∀{C:Cf} {V:Vl} {s:Shared} {A:Around} {vs:List Value} {Q E:Value->Shared->Prop},
  Inv Z C V J s->AOk C A n->A.handled=none->VRs V as vs->QV Z C V k Q->QX Z C V kx E->codeAny Z.M A (.call (.ref f) ⟨vs,[]⟩) (RV Q E) s
 cal:∀{f:SV} {as:List SV} {J:St} {k:KK} {kx:KX},ih (.call f as) J k kx=true->zD J f
theorem a0{J:St}{i:Nat}{o:SObj}{k:St->Bool}(h:Mine.store J i o k=true):∃T',J.T.set? o i=some T'/\k ⟨T',J.n,J.L,J.sy⟩=true:=by
 unfold Mine.store at h
 rw[PT.put_eq]at h
 induction hT:J.T.set? o i with
 |none=>rw[hT]at h;exact ff h
 |some T'=>rw[hT]at h;exact⟨T',rfl,h⟩
theorem aK{J:St}{o:SObj}{k:KV}(h:Mine.alloc J o k=true):∃T',J.T.set? o J.n=some T'/\k (.ref J.n) ⟨T',Nat.succ J.n,J.L,J.sy⟩=true:=by
 unfold Mine.alloc at h
 rw[PT.put_eq]at h
 induction hT:J.T.set? o J.n with
 |none=>rw[hT]at h;exact ff h
 |some T'=>rw[hT]at h;exact⟨T',rfl,h⟩
theorem aB{b x:Bool}(h:Bool.rec (motive:=λO=>Bool) false x b=true):b=true/\x=true:=by
 induction b with
 |false=>exact ff h
 |true=>exact⟨rfl,h⟩
theorem aT{α:Type}:∀l:List α,bA l=l.length:=by
 intro l
 induction l with
 |nil=>
  exact rfl
 |cons _ l rec_=>
  exact congrArg Nat.succ (rec_)
theorem aS{α:Type}{l:List α}(h:cP l=true):l.length≤1000:=by
 rw[<-aT];exact Nat.le_of_ble_eq_true h
theorem VRs.length{V:Vl}{s:List SV}{v:List Value}(h:VRs V s v):s.length=v.length:=h.ind rfl λO O O O O O ih=>congrArg Nat.succ ih
theorem dJ{Z:Gd}{V:Vl}{J:St}{s:Shared}{A:Around}{v:SV}{u:Value}{b:Bool}{Q:Bool->Shared->Prop}{E:Value->Shared->Prop}
 (h:Mine.truthy J v=some b) (r:VR V v u) (q:Q b s):wpAny Z.M A (PySem.truthy u) Q E s:=by
 induction r with
 |none=>obtain rfl:=Option.some.inj h;exact λO O O=>q
 |bool c=>obtain rfl:=Option.some.inj h;exact wpAny_truthy_bool q
 |_=>exact fo h
section
variable{Z:Gd}{n:Nat}{ih:Ih}(S:gS Z n ih){C:Cf}{V:Vl}{J:St}{s:Shared}{A:Around}{env:Env}{c:Cx}{k:KK}{kx:KX}{E:Value->Shared->Prop}
theorem onVal_case{f:KV}{v:SV}{J:St}(h:aL f (.val v) J=true):f v J=true:=h
include S in
theorem kC(a:AOk C A n){pos:Pos}:∀(es:List Expr) {J:St} {V:Vl} {s:Shared} {kl:List SV->St->Bool} {Q:List Value->Shared->Prop},CS ih c kx es J kl=true->Inv Z C V J s->EnvOk C V c env->
 (A.handled=none∨∀e,e∈es->aV e)->(∀vs us J' V' s',kl vs J'=true->V.Le V'->Inv Z C V' J' s'->VRs V' vs us->vs.length=es.length->Q us s')->QX Z C V kx E->wpAny Z.M A (spliced (backTo pos (starEach es env))) Q E s
 :=by
 intro es
 induction es with
 |nil=>intro J V s kl Q h I en hh q x;exact wpAny_items_nil (q [] [] J V s h (Vl.Le.refl V) I trivial rfl)
 |cons e es ihe=>
  intro J V s kl Q h I en hh q x
  change ih (.ev e c) J (aL λv J=>CS ih c kx es J λvs J=>kl (v::vs) J) kx=true at h
  have he:starEach (e::es) env=(false,eval e env)::starEach es env:=by
   induction e using PySem.Expr.casesOn with
   |Starred e p=>rw[S.star]at h;exact ff h
   |_=>rfl
  refine wpAny_items_cons (S.ev h I a en (hh.imp id λg=>g e (.head _)) (λv u J' V' s' h' le I' r=>?_) x) he
  refine ihe (onVal_case h') I' (en.mono le) (hh.imp id λg e m=>g e (.tail _ m)) (λvs us J'' V'' s'' h'' le' I'' r' hl=>?_) (x.mono le)
  exact q (v::vs) (u::us) J'' V'' s'' h'' (le.trans le') I'' ⟨r.mono le',r'⟩ (by simp[hl])
theorem oP{xs:List SV}{us:List Value}{kv:KV}{Q:Value->Shared->Prop}(h:cT J xs kv=true)(I:Inv Z C V J s)(r:VRs V xs us)
 (q:∀v u J' V' s',kv v J'=true->V.Le V'->Inv Z C V' J' s'->VR V' v u->Q u s'):wpAny Z.M A (newList us) Q E s:=by
 obtain⟨hl,h⟩:=aB h
 obtain⟨T',hT,h⟩:=aK h
 have hlen:=aS hl
 unfold newList
 refine wpAny_newObj_type ?_ (by show us.toArray.size≤sizeLine;rw[List.size_toArray,<-r.length];exact Nat.le_trans hlen (by decide))
 have g:Heap.get? (s.heap.push {cls:=.type "list",data:=.seq us.toArray}) s.heap.objs.size=some {cls:=.type "list",data:=.seq us.toArray}:=Heap.get?_push_size _ rfl
 obtain⟨le,vr,I'⟩:=I.alloc (h':=s.heap.push {cls:=.type "list",data:=.seq us.toArray}) (a:=s.heap.objs.size) (xs:=[]) (t:=none) (tk:=s.toks) hT (Nat.le_refl _) ⟨_,g⟩ (λp hp=>by cases hp)
  (λb x e=>Heap.get?_push_of_some _ e) ⟨hlen,us.toArray,0,g,by exact r.mono (I.add_le (Nat.le_refl _) (λp hp=>by cases hp))⟩ (λO h=>fo h)
 exact q _ _ _ _ _ h le I' vr
noncomputable def jC:List Value->Option (List bT)
 | []=>some []
 |v::vs=>match v,jC vs with
  |.str x _,some ks=>some (.inl x::ks)
  |.int n _,some ks=>some (.inr n::ks)
  |_,_=>none
set_option tactic.hygienic true in
theorem kY:∀{us:List Value} {ks:List bT},jC us=some ks->AtomsAre ks us:=by
 intro us
 induction us with
 |nil=>
  intro O h
  obtain rfl:=Option.some.inj h;trivial
 |cons v vs rec_=>
  intro ks h
  unfold jC at h
  split at h
  ·rename_i x t ks' e;obtain rfl:=Option.some.inj h;exact⟨by simp[cK,Value.isStrOf],rec_ e⟩
  ·rename_i x t ks' e;obtain rfl:=Option.some.inj h;exact⟨by simp[cK,Value.isInt],rec_ e⟩
  ·exact fo h
theorem mW{xs:List SV}{us:List Value}{kv:KV}{Q:Value->Shared->Prop}(h:qP J xs kv=true)(I:Inv Z C V J s)(r:VRs V xs us)
 (q:∀v u J' V' s',kv v J'=true->V.Le V'->Inv Z C V' J' s'->VR V' v u->Q u s'):wpAny Z.M A (newTuple us) Q E s:=by
 obtain⟨hl,h⟩:=aB h
 obtain⟨T',hT,h⟩:=aK h
 have hlen:=aS hl
 unfold newTuple
 refine wpAny_newObj_type ?_ (by show us.toArray.size≤sizeLine;rw[List.size_toArray,<-r.length];exact Nat.le_trans hlen (by decide))
 have g:Heap.get? (s.heap.push {cls:=.type "tuple",data:=.seq us.toArray}) s.heap.objs.size=some {cls:=.type "tuple",data:=.seq us.toArray}:=Heap.get?_push_size _ rfl
 obtain⟨le,vr,I'⟩:=I.alloc (h':=s.heap.push {cls:=.type "tuple",data:=.seq us.toArray}) (a:=s.heap.objs.size) (xs:=[]) (t:=jC us) (tk:=s.toks) hT (Nat.le_refl _) ⟨_,g⟩ (λp hp=>by cases hp)
  (λb x e=>Heap.get?_push_of_some _ e) ⟨hlen,us.toArray,0,g,by exact r.mono (I.add_le (Nat.le_refl _) (λp hp=>by cases hp))⟩
  λks e=>⟨us.toArray,0,g,by simpa using kY e⟩
 exact q _ _ _ _ _ h le I' vr
include S in
theorem oQ(a:AOk C A n){pos:Pos}{op:BoolOp}{Q:Value->Shared->Prop}:∀(es:List Expr) {J:St} {V:Vl} {s:Shared},gL ih c (isOr op) kx es J k=true->Inv Z C V J s->EnvOk C V c env->
 (A.handled=none∨∀e,e∈es->aV e)->QV Z C V k Q->QX Z C V kx E->wpAny Z.M A (boolOp pos op (evalEach es env)) Q E s
 :=by
 intro es
 induction es with
 |nil=>intro J V s h I en hh q x;exact ff h
 |cons e es ihe=>intro J V s h I en hh q x;induction es using List.casesOn with
 |nil=>exact S.ev h I a en (hh.imp id λg=>g e (.head _)) q x
 |cons e' es=>
  show wpAny Z.M A (do
   let v<-eval e env
   standAt pos
   let t<-holding [v] (PySem.truthy v)
   match op,t with
   |.And,false|.Or,true=>pure v
   |_,_=>boolOp pos op (evalEach (e'::es) env)) Q E s
  refine wpAny_bind (S.ev h I a en (hh.imp id λg=>g e (.head _)) (λv u J' V' s' h' le I' r=>?_) x)
  obtain⟨b,hb,h'⟩:=some?_eq (onVal_case h')
  refine wpAny_bind (wpAny_standAt (wpAny_bind (wpAny_holding (dJ hb r ?_))))
  have go:gL ih c (isOr op) kx (e'::es) J' k=true->wpAny Z.M A (boolOp pos op (evalEach (e'::es) env)) Q E s':=λh'=>
   ihe h' I' (en.mono le) (hh.imp id λg e m=>g e (.tail _ m)) (q.mono le) (x.mono le)
  induction op<;>induction b<;>first|exact go h'|exact wpAny_pure (q v u J' V' s' h' le I' r)
include S in
theorem oR(a:AOk C A n){op:BoolOp}{Q:Bool->Shared->Prop}:∀(es:List Expr) {J:St} {V:Vl} {s:Shared},gL ih c (isOr op) kx es J k=true->Inv Z C V J s->EnvOk C V c env->
 (A.handled=none∨∀e,e∈es->aV e)->QT Z C V k Q->QX Z C V kx E->wpAny Z.M A (allTrue op es env) Q E s
 :=by
 intro es
 induction es with
 |nil=>intro J V s h I en hh q x;exact ff h
 |cons e es ihe=>intro J V s h I en hh q x;induction es using List.casesOn with
 |nil=>
  have:=S.tr h I a en (hh.imp id λg=>g e (.head _)) q x
  induction op
  ·exact wpAny_allTrue_And_cons (wpAny_mono this (λb s' h=>by induction b;exact h;exact wpAny_allTrue_And_nil h) λO O x=>x)
  ·exact wpAny_allTrue_Or_cons (wpAny_mono this (λb s' h=>by induction b;exact wpAny_allTrue_Or_nil h;exact h) λO O x=>x)
 |cons e' es=>
  have:=S.tr (Q:=λb s'=>if isOr op=b then Q b s' else wpAny Z.M A (allTrue op (e'::es) env) Q E s') h I a en (hh.imp id λg=>g e (.head _)) (λv J' V' s' h' le I'=>by
   obtain⟨b,hb,h'⟩:=some?_eq (onVal_case h')
   refine⟨b,hb,?_⟩
   have go:gL ih c (isOr op) kx (e'::es) J' k=true->wpAny Z.M A (allTrue op (e'::es) env) Q E s':=λh'=>
    ihe h' I' (en.mono le) (hh.imp id λg e m=>g e (.tail _ m)) (λv J V' s a b=>q v J V' s a (le.trans b)) (x.mono le)
   have fin:∀b',Mine.truthy J' v=some b'->k (.val v) J'=true->Q b' s':=λb' e h=>by
    obtain⟨b'',e',hq⟩:=q v J' V' s' h le I'
    rw[e]at e';obtain rfl:=Option.some.inj e';exact hq
   induction op<;>induction b<;>first|exact go h'|exact fin _ hb h') x
  induction op
  ·exact wpAny_allTrue_And_cons (wpAny_mono this (λb s' h=>by induction b<;>exact h) λO O x=>x)
  ·exact wpAny_allTrue_Or_cons (wpAny_mono this (λb s' h=>by induction b<;>exact h) λO O x=>x)
end
end
section
open PySem.SeqAt
def iK(u:Value):Prop:=u= .none∨(∃b,u= .bool b)∨(∃i t,u= .int i t)∨∃x t,u= .str x t
def dA(Z:Gd):Prop:=∀{C:Cf} {V:Vl} {J:St} {s:Shared},Inv Z C V J s->∀{i K:Nat} {es:List (Nm×SV)},J.T.get i=some (.inst K es)->∀(A:Around),A.units+1<cLine->∀u,iK u->
 EqAt A s (.ref (V.ρ i)) u false/\EqAt A s u (.ref (V.ρ i)) false
theorem dB(a b:Int):cQ a b=decide (a=b):=by
 unfold cQ
 induction a<;>induction b<;>simp[b9]<;>exact Int.ofNat_inj.symm
theorem fY(a b:Int):fT a b=decide (a<b):=by
 unfold fT
 show Int.rec (motive:=λO=>Bool) (λn=>Nat.blt 0 n) (λO=>false) (b-a)=_
 induction h:b-a with
 |ofNat n=>
  show Nat.blt 0 n=_
  by_cases q:0<n
  ·have:a<b:=by have:(0:Int)<b-a:=by rw[h];exact Int.ofNat_lt.mpr q
                exact Int.lt_of_sub_pos this
   rw[decide_eq_true this];exact Nat.ble_eq_true_of_le q
  ·have n0:n=0:=by exact Nat.eq_zero_of_not_pos q
   have:¬a<b:=by have:b-a=0:=by rw[h,n0];rfl
                 exact Int.not_lt.mpr (Int.le_of_eq (Int.eq_of_sub_eq_zero this))
   rw[decide_eq_false this,n0];rfl
 |negSucc n=>
  have:¬a<b:=by have:b-a<0:=by rw[h];exact Int.negSucc_lt_zero n
                exact Int.not_lt.mpr (Int.le_of_lt (Int.lt_of_sub_neg this))
  rw[decide_eq_false this]
theorem fH(h:below x c=some r):r=false/\x<c:=by
 unfold below at h
 rw[fY]at h
 by_cases q:x<c
 ·rw[decide_eq_true q]at h;obtain rfl:=Option.some.inj h;exact⟨rfl,q⟩
 ·rw[decide_eq_false q]at h;exact fo h
theorem mX(h:SL x b=some r):r=true/\b= .opq x:=by
 induction b with
 |opq y=>
  change(match Nat.beq x y with|true=>some true|false=>none)=some r at h
  induction q:Nat.beq x y with
  |true=>rw[q]at h;obtain rfl:=Option.some.inj h;exact⟨rfl,by rw[Nat.eq_of_beq_eq_true q]⟩
  |false=>rw[q]at h;exact fo h
 |_=>exact fo h
theorem wL(b:Bool):yP b=if b then 1 else 0:=by induction b<;>rfl
theorem ρ_inj(I:Inv Z C V J s)(hi:J.T.get i=some o)(hj:J.T.get j=some o')(e:V.ρ i=V.ρ j):i=j:=by
 have a:=(I.T i o hi).2.1
 have b:=(I.T j o' hj).2.1
 rw[e,b]at a
 cases a;rfl
theorem mY(n:Nat)(e:Nat->Bool):(List.range (n+1)).all e=(e 0&&(List.range n).all λj=>e (j+1)):=by
 rw[List.range_succ_eq_map,List.all_cons,List.all_map];rfl
theorem rG(h:VRs V [] us):us=[]:=List.length_eq_zero_iff.mp h.length.symm
theorem kZ(h:eG f (x::xs) (y::ys)=some r):∃r0 r',f x y=some r0/\eG f xs ys=some r'/\r=(r0&&r'):=by
 change Option.rec (motive:=λO=>Option Bool) none (λr=>(eG f xs ys).map λr'=>Bool.rec (motive:=λO=>Bool) false r' r) (f x y)=some r at h
 induction e:f x y with
 |none=>rw[e]at h;exact fo h
 |some r0=>
  rw[e]at h
  obtain⟨r',e',rfl⟩:=Option.map_eq_some_iff.mp h
  exact⟨r0,r',rfl,e',by induction r0<;>rfl⟩
theorem jD(hf:∀a b r u w,f a b=some r->VR V a u->VR V b w->EqAt A s u w r):
 ∀(xs ys:List SV) (r:Bool) (us ws:List Value),eG f xs ys=some r->VRs V xs us->VRs V ys ws->
  if us.length=ws.length then∃e:Nat->Bool,(∀j (h1:j<us.length) (h2:j<ws.length),EqAt A s us[j] ws[j] (e j))/\r=(List.range us.length).all e
  else r=false/\∃e:Nat->Bool,∀j (h1:j<us.length) (h2:j<ws.length),EqAt A s us[j] ws[j] (e j):=by
 intro xs
 induction xs with
 |nil=>intro ys r us ws h g1 g2;obtain rfl:=rG g1;induction ys using List.casesOn with
  |nil=>obtain rfl:=rG g2;obtain rfl:=Option.some.inj h;exact⟨λO=>true,λj h1=>absurd h1 (Nat.not_lt_zero j),rfl⟩
  |cons b ys=>induction ws using List.casesOn with
   |nil=>exact g2.elim
   |cons w ws=>obtain rfl:=Option.some.inj h;exact⟨rfl,λO=>true,λj h1=>absurd h1 (Nat.not_lt_zero j)⟩
 |cons a xs ih=>intro ys r us ws h h1 h2;induction us using List.casesOn with
  |nil=>exact h1.elim
  |cons u us=>induction ys using List.casesOn with
   |nil=>obtain rfl:=rG h2;obtain rfl:=Option.some.inj h;exact⟨rfl,λO=>true,λj O h2=>absurd h2 (Nat.not_lt_zero j)⟩
   |cons b ys=>induction ws using List.casesOn with
    |nil=>exact h2.elim
    |cons w ws=>
     obtain⟨r0,r',e1,e2,hr⟩:=kZ h
     have e0:=hf a b r0 u w e1 h1.1 h2.1
     have rc:=ih ys r' us ws e2 h1.2 h2.2
     by_cases hl:us.length=ws.length
     ·rw[if_pos hl]at rc
      rw[if_pos (show(u::us).length=(w::ws).length from congrArg Nat.succ hl)]
      refine hold λG_ fin_=>?_
      obtain⟨e,he,hr'⟩:=rc
      refine fin_ ?_
      refine⟨λj=>match j with|0=>r0|j+1=>e j,λj k1 k2=>?_,?_⟩
      ·induction j using Nat.casesOn with
       |zero=>exact e0
       |succ j=>exact he j (Nat.lt_of_succ_lt_succ k1) (Nat.lt_of_succ_lt_succ k2)
      ·rw[hr,hr',List.length_cons,mY]
     ·rw[if_neg hl]at rc
      rw[if_neg (show¬(u::us).length=(w::ws).length from λe=>hl (Nat.succ.inj e))]
      refine hold λG_ fin_=>?_
      obtain⟨hr',e,he⟩:=rc
      refine fin_ ?_
      refine⟨by rw[hr,hr',Bool.and_false],λj=>match j with|0=>r0|j+1=>e j,λj k1 k2=>?_⟩
      induction j using Nat.casesOn with
      |zero=>exact e0
      |succ j=>exact he j (Nat.lt_of_succ_lt_succ k1) (Nat.lt_of_succ_lt_succ k2)
theorem tR(hf:∀a b r u w,f a b=some r->VR V a u->VR V b w->EqAt A.in1 s u w r)(hu:A.units<cLine)(h:eG f xs ys=some r)(hl:s.heap.IsList l us)(hb:s.heap.IsList b ws)(h1:VRs V xs us.toList)(h2:VRs V ys ws.toList):
 RcAt A s (.ref l) (.ref b) r/\RcNeAt A s (.ref l) (.ref b) (!r):=by
 have:=jD hf xs ys r us.toList ws.toList h h1 h2
 by_cases hn:us.toList.length=ws.toList.length
 ·rw[if_pos hn]at this
  refine hold λG_ fin_=>?_
  obtain⟨e,he,rfl⟩:=this
  refine fin_ ?_
  have hn':us.size=ws.size:=hn
  exact⟨RcAt.lists hl hb hn' hu λj k1 k2=>he j k1 k2,RcNeAt.lists hl hb hn' hu λj k1 k2=>he j k1 k2⟩
 ·rw[if_neg hn]at this
  refine hold λG_ fin_=>?_
  obtain⟨rfl,_⟩:=this
  refine fin_ ?_
  have hn':(us.size !=ws.size)=true:=by simpa using hn
  exact⟨RcAt.lists_lengths hl hb hn' hu,RcNeAt.lists_lengths hl hb hn' hu⟩
theorem rH(hf:∀a b r u w,f a b=some r->VR V a u->VR V b w->EqAt A.in1 s u w r)(hu:A.units<cLine)(h:eG f xs ys=some r)(hl:s.heap.IsTuple l us)(hb:s.heap.IsTuple b ws)(h1:VRs V xs us.toList)(h2:VRs V ys ws.toList):
 RcAt A s (.ref l) (.ref b) r/\RcNeAt A s (.ref l) (.ref b) (!r):=by
 have:=jD hf xs ys r us.toList ws.toList h h1 h2
 by_cases hn:us.toList.length=ws.toList.length
 ·rw[if_pos hn]at this
  refine hold λG_ fin_=>?_
  obtain⟨e,he,hr⟩:=this
  refine fin_ ?_
  have hn':us.size=ws.size:=hn
  have er:r=((List.range (min us.size ws.size)).all e&&us.size==ws.size):=by
   rw[hr,<-hn',Nat.min_self,Array.length_toList,beq_self_eq_true,Bool.and_true]
  rw[er]
  exact⟨RcAt.tuples hl hb hu λj k1 k2=>he j k1 k2,RcNeAt.tuples hl hb hu λj k1 k2=>he j k1 k2⟩
 ·rw[if_neg hn]at this
  refine hold λG_ fin_=>?_
  obtain⟨hr,e,he⟩:=this
  refine fin_ ?_
  have hn':(us.size==ws.size)=false:=by simpa using hn
  have er:r=((List.range (min us.size ws.size)).all e&&us.size==ws.size):=by rw[hr,hn',Bool.and_false]
  rw[er]
  exact⟨RcAt.tuples hl hb hu λj k1 k2=>he j k1 k2,RcNeAt.tuples hl hb hu λj k1 k2=>he j k1 k2⟩
def aJj(a b:SV):Prop:=match a,b with
 |.ref i,.ref j=>i≠j
 |.ref _,_=>False
 |_,.ref _=>False
 |_,_=>True
theorem wM(x y:Nm):(tx x==tx y)=cC x y:=by
 rw[cV]
 by_cases h:x=y
 ·subst h;simp
 ·rw[decide_eq_false h];exact beq_eq_false_iff_ne.mpr λe=>h (fD e)
theorem fZ(x:OR Z V h i a (.dict [])):h.DictOf (strKind pw Z.w) a []:=by
 refine hold λG_ fin_=>?_
 obtain⟨_,o,ents,ep,h1,h2,h3,h4⟩:=x
 refine fin_ ?_
 rcases h4 with⟨kvs,q,r1,r2,r3⟩|⟨xs,q,r1,r2⟩
 ·induction kvs using List.casesOn with
  |nil=>exact⟨o,ents,ep,h1,h2,h3,r1,r2,r3⟩
  |cons _ _=>exact q.elim
 ·induction xs with
  |nil=>
   have e:ents= #[]:=by simpa using r1
   subst e
   exact⟨o,#[],ep,h1,h2,h3,(λe he=>by simp at he),.nil,List.nodup_nil⟩
  |cons _ _=>exact q.elim
theorem f7(x:OR Z V h i a (.dict ((.str n,v)::es))):
 ∃kvs,DRs V ((.str n,v)::es) kvs/\h.DictOf (strKind pw Z.w) a kvs:=by
 obtain⟨_,o,ents,ep,h1,h2,h3,h4⟩:=x
 rcases h4 with⟨kvs,q,r1,r2,r3⟩|⟨xs,q,r1,r2⟩
 ·exact⟨kvs,q,o,ents,ep,h1,h2,h3,r1,r2,r3⟩
 ·induction xs with
  |nil=>exact q.elim
  |cons _ _=>obtain⟨j,q,_⟩:=q.1.1;cases q
theorem Inv.big(I:Inv Z C V J s)(h:V.own a=some o):(a==sysModules)=false:=by
 have h1:=(I.own a o h).1
 obtain⟨x,hx⟩:=I.sm
 refine beq_eq_false_iff_ne.mpr λe=>?_
 rw[e,hx]at h1;cases h1
def PyOk(A:Around)(s:Shared)(a b:SV)(u w:Value)(r:Bool):Prop:=EqAt A s u w r/\(aJj a b->RcAt A s u w r/\RcNeAt A s u w (!r))
section
variable{A:Around}{s:Shared}{a b:SV}{u w:Value}{r:Bool}
theorem PyOk.of(h1:EqAt A s u w r)(h2:RcAt A s u w r)(h3:RcNeAt A s u w (!r)):PyOk A s a b u w r:=⟨h1,λO=>⟨h2,h3⟩⟩
theorem PyOk.ii(e:(x==y)=r):PyOk A s a b (.int x t) (.int y t') r:=e▸ .of (EqAt.int_int x t y t') (RcAt.int_int x t y t') (RcNeAt.int_int x t y t')
variable{Z:Gd}(N:dA Z){C:Cf}{V:Vl}{J:St}(I:Inv Z C V J s)
include N I in
theorem cF(hu:A.units+1<cLine)(e:fB (J.T.get i)=some r)(hw:iK w):EqAt A s (.ref (V.ρ i)) w r/\EqAt A s w (.ref (V.ρ i)) r:=by
 induction ho:J.T.get i with
 |none=>rw[ho]at e;exact fo e
 |some o=>
  rw[ho]at e
  induction o with
  |inst K es=>obtain rfl:=Option.some.inj e;exact N I ho A hu w hw
  |_=>exact fo e
include N I in
theorem PJ(hu:A.units+1<cLine)(h:D4 J b=some r)(h2:VR V b w):PyOk A s .none b .none w r:=by
 induction h2 with
 |none=>exact os h (.of (EqAt.same _) RcAt.none_none RcNeAt.none_none)
 |bool c=>exact os h (.of (EqAt.none_bool c) (RcAt.none_bool c) (RcNeAt.none_bool c))
 |int c t=>exact os h (.of (EqAt.none_int c t) (RcAt.none_int c t) (RcNeAt.none_int c t))
 |lin x c t hx=>exact os h (.of (EqAt.none_int _ t) (RcAt.none_int _ t) (RcNeAt.none_int _ t))
 |str c t=>exact os h (.of (EqAt.none_str _ t) (RcAt.none_str _ t) (RcNeAt.none_str _ t))
 |ref j hj=>exact⟨(cF N I hu h (.inl rfl)).2,λq=>q.elim⟩
 |_=>exact fo h
include N I in
theorem PK(hu:A.units+1<cLine)(h:aIf J d b=some r)(h2:VR V b w):PyOk A s (.bool d) b (.bool d) w r:=by
 induction h2 with
 |none=>exact os h (.of (EqAt.bool_none d) (RcAt.bool_none d) (RcNeAt.bool_none d))
 |bool c=>
  have h:some (cQ (yP d) (yP c))=some r:=h
  have e:cQ (yP d) (yP c)=(d==c):=by rw[dB];induction d<;>induction c<;>rfl
  exact os (e▸h) (.of (EqAt.bool_bool d c) (RcAt.bool_bool d c) (RcNeAt.bool_bool d c))
 |int c t=>
  have h:some (cQ (yP d) c)=some r:=h
  have e:cQ (yP d) c=((if d then 1 else 0)==c):=by rw[dB,wL];rfl
  exact os (e▸h) (.of (EqAt.bool_int d c t) (RcAt.bool_int d c t) (RcNeAt.bool_int d c t))
 |str c t=>exact os h (.of (EqAt.bool_str d _ t) (RcAt.bool_str d _ t) (RcNeAt.bool_str d _ t))
 |ref j hj=>exact⟨(cF N I hu h (.inr (.inl ⟨d,rfl⟩))).2,λq=>q.elim⟩
 |_=>exact fo h
include N I in
theorem ZM(hu:A.units+1<cLine)(h:SK J d b=some r)(h2:VR V b w):PyOk A s (.int d) b (.int d t) w r:=by
 induction h2 with
 |none=>exact os h (.of (EqAt.int_none d t) (RcAt.int_none d t) (RcNeAt.int_none d t))
 |bool c=>
  have h:some (cQ d (yP c))=some r:=h
  have e:cQ d (yP c)=(d==(if c then 1 else 0)):=by rw[dB,wL];rfl
  exact os (e▸h) (.of (EqAt.int_bool d t c) (RcAt.int_bool d t c) (RcNeAt.int_bool d t c))
 |int c t'=>
  have h:some (cQ d c)=some r:=h
  rw[dB]at h
  exact .ii (Option.some.inj h)
 |lin x c t' hx=>
  obtain⟨rfl,hl⟩:=fH h
  have h0:=(I.X.2 x hx).1
  exact .ii (beq_eq_false_iff_ne.mpr (ZI hl h0))
 |str c t'=>exact os h (.of (EqAt.int_str d t _ t') (RcAt.int_str d t _ t') (RcNeAt.int_str d t _ t'))
 |ref j hj=>exact⟨(cF N I hu h (.inr (.inr (.inl ⟨d,t,rfl⟩)))).2,λq=>q.elim⟩
 |_=>exact fo h
include I in
theorem ZN(hx:V.X=some x)(h:SM d b=some r)(h2:VR V b w):PyOk A s (.lin d) b (.int (x+d) t) w r:=by
 induction h2 with
 |none=>exact os h (.of (EqAt.int_none _ t) (RcAt.int_none _ t) (RcNeAt.int_none _ t))
 |int c t'=>
  obtain⟨rfl,hl⟩:=fH h
  have h0:=(I.X.2 x hx).1
  exact .ii (beq_eq_false_iff_ne.mpr (aIC hl h0))
 |lin x' c t' hx'=>
  have h:some (cQ d c)=some r:=h
  rw[dB]at h
  obtain rfl:x=x':=Option.some.inj (hx.symm.trans hx')
  refine .ii (Eq.trans ?_ (Option.some.inj h))
  by_cases q:d=c
  ·rw[q,decide_eq_true rfl];exact beq_self_eq_true _
  ·rw[decide_eq_false q];exact beq_eq_false_iff_ne.mpr λe=>q (Int.add_left_cancel e)
 |str c t'=>exact os h (.of (EqAt.int_str _ t _ t') (RcAt.int_str _ t _ t') (RcNeAt.int_str _ t _ t'))
 |_=>exact fo h
include N I in
theorem ZO(hu:A.units+1<cLine)(h:SN J d b=some r)(h2:VR V b w):PyOk A s (.str d) b (.str (tx d) t) w r:=by
 induction h2 with
 |none=>exact os h (.of (EqAt.str_none _ t) (RcAt.str_none _ t) (RcNeAt.str_none _ t))
 |bool c=>exact os h (.of (EqAt.str_bool _ t c) (RcAt.str_bool _ t c) (RcNeAt.str_bool _ t c))
 |int c t'=>exact os h (.of (EqAt.str_int _ t c t') (RcAt.str_int _ t c t') (RcNeAt.str_int _ t c t'))
 |lin x c t' hx=>exact os h (.of (EqAt.str_int _ t _ t') (RcAt.str_int _ t _ t') (RcNeAt.str_int _ t _ t'))
 |str c t'=>
  have h:some (cC d c)=some r:=h
  exact os ((wM d c).symm▸h) (.of (EqAt.str_str _ t _ t') (RcAt.str_str _ t _ t') (RcNeAt.str_str _ t _ t'))
 |ref j hj=>exact⟨(cF N I hu h (.inr (.inr (.inr ⟨_,t,rfl⟩)))).2,λq=>q.elim⟩
 |_=>exact fo h
theorem mZ(h:sZ f x y=some r):∃o o',x=some o/\y=some o'/\SJ f o o'=some r:=by
 induction x with
 |none=>exact fo h
 |some o=>induction y with
  |none=>exact fo h
  |some o'=>exact⟨o,o',rfl,rfl,h⟩
include I in
theorem PL(hf:∀a b r u w,f a b=some r->VR V a u->VR V b w->EqAt A.in1 s u w r)(hu:A.units<cLine)(hij:i≠j)(h:sZ f (J.T.get i) (J.T.get j)=some r):PyOk A s (.ref i) (.ref j) (.ref (V.ρ i)) (.ref (V.ρ j)) r:=by
 obtain⟨ox,oy,hx,hy,h⟩:=mZ h
 have ne:V.ρ i≠V.ρ j:=λe=>hij (ρ_inj I hx hy e)
 have fin:RcAt A s (.ref (V.ρ i)) (.ref (V.ρ j)) r/\RcNeAt A s (.ref (V.ρ i)) (.ref (V.ρ j)) (!r)->PyOk A s (.ref i) (.ref j) (.ref (V.ρ i)) (.ref (V.ρ j)) r:=λq=>⟨EqAt.of_refs ne q.1,λO=>q⟩
 have or1:=(I.T i _ hx).2.2
 have or2:=(I.T j _ hy).2.2
 induction ox with
 |list xs=>
  induction oy with
  |list ys=>
   obtain⟨_,us,ep,g1,g2⟩:=or1
   obtain⟨_,ws,ep',g3,g4⟩:=or2
   exact fin (tR hf hu h ⟨_,g1,rfl,ep,rfl⟩ ⟨_,g3,rfl,ep',rfl⟩ g2 g4)
  |_=>exact fo h
 |tup xs=>
  induction oy with
  |tup ys=>
   obtain⟨_,us,ep,g1,g2⟩:=or1
   obtain⟨_,ws,ep',g3,g4⟩:=or2
   exact fin (rH hf hu h ⟨_,g1,rfl,ep,rfl⟩ ⟨_,g3,rfl,ep',rfl⟩ g2 g4)
  |_=>exact fo h
 |_=>exact fo h
include N I in
theorem ZP(hf:∀a b r u w,f a b=some r->VR V a u->VR V b w->EqAt A.in1 s u w r)(hu:A.units+1<cLine)(h:D3 f J i b=some r)(h2:VR V b w):PyOk A s (.ref i) b (.ref (V.ρ i)) w r:=by
 induction h2 with
 |none=>exact⟨(cF N I hu h (.inl rfl)).1,λq=>q.elim⟩
 |bool c=>exact⟨(cF N I hu h (.inr (.inl ⟨c,rfl⟩))).1,λq=>q.elim⟩
 |int c t=>exact⟨(cF N I hu h (.inr (.inr (.inl ⟨c,t,rfl⟩)))).1,λq=>q.elim⟩
 |str c t=>exact⟨(cF N I hu h (.inr (.inr (.inr ⟨_,t,rfl⟩)))).1,λq=>q.elim⟩
 |ref j hj=>
  have h:Bool.rec (motive:=λO=>Option Bool) (sZ f (J.T.get i) (J.T.get j)) (some true) (Nat.beq i j)=some r:=h
  rw[b9]at h
  by_cases hij:i=j
  ·rw[decide_eq_true hij]at h
   subst hij
   exact os h ⟨EqAt.same _,λq=>absurd rfl q⟩
  ·rw[decide_eq_false hij]at h
   exact PL I hf (Nat.lt_of_succ_lt hu) hij h
 |_=>exact fo h
end
theorem iL(N:dA Z)(I:Inv Z C V J s)(m:Nat):∀(A:Around),A.units+m+1<cLine->∀a b r u w,c8 J m a b=some r->VR V a u->VR V b w->PyOk A s a b u w r:=by
 induction m with
 |zero=>exact λA O a b r u w h O O=>fo h
 |succ m ih=>
  intro A hu a b r u w h h1 h2
  have hu1:A.units+1<cLine:=by exact Nat.lt_of_le_of_lt (Nat.add_le_add_right (Nat.le_add_right _ _) 1) hu
  have hf:∀a b r u w,c8 J m a b=some r->VR V a u->VR V b w->EqAt A.in1 s u w r:=λa b r u w e k1 k2=>(ih A.in1 (by simp only[Around.in1];exact Nat.lt_of_le_of_lt (Nat.le_of_eq (congrArg Nat.succ (Nat.succ_add_eq_add_succ _ _))) hu) a b r u w e k1 k2).1
  induction h1 with
  |none=>exact PJ N I hu1 h h2
  |bool d=>exact PK N I hu1 h h2
  |int d t=>exact ZM N I hu1 h h2
  |lin x d t hx=>exact ZN I hx h h2
  |str d t=>exact ZO N I hu1 h h2
  |ref i hi=>exact ZP N I hf hu1 h h2
  |opq k z t hz=>
   obtain⟨rfl,rfl⟩:=mX h
   cases h2 with
   |opq _ z' t' hz'=>exact .ii (Option.some.inj (hz.symm.trans hz')▸beq_self_eq_true z)
  |_=>exact fo h
theorem l7(h:ED p g=some r):∃n v,p=(.str n,v)/\g n=some r:=by
 obtain⟨k,v⟩:=p
 induction k with
 |str n=>exact⟨n,v,rfl,h⟩
 |_=>exact fo h
theorem rI(hf:∀a b r u w,f a b=some r->VR V a u->VR V b w->EqAt A.in1 s u w r)(hu:A.units<cLine)(h:qT f xs ys=some r)(ox:OR Z V s.heap i a (.dict xs))(oy:OR Z V s.heap j b (.dict ys))(ha:(a==sysModules)=false)(hb:(b==sysModules)=false):
 (Q (.bool r) s->wpAny Z.M A (compareOp .Eq (.ref a) (.ref b)) Q E s)/\(Q (.bool (!r)) s->wpAny Z.M A (compareOp .NotEq (.ref a) (.ref b)) Q E s):=by
 have key:∀{ka kb:List (Str×Value)} {r':Bool},s.heap.DictOf (strKind pw Z.w) a ka->s.heap.DictOf (strKind pw Z.w) b kb->(ka.length=kb.length->KeqHits A.in1 s kb ka r')->r=(ka.length==kb.length&&r')->
  (Q (.bool r) s->wpAny Z.M A (compareOp .Eq (.ref a) (.ref b)) Q E s)/\(Q (.bool (!r)) s->wpAny Z.M A (compareOp .NotEq (.ref a) (.ref b)) Q E s):=λd1 d2 hh e=>by
  subst e
  exact⟨λq=>keq_eq ha hb d1 d2 hu hh q,λq=>keq_ne ha hb d1 d2 hu hh q⟩
 induction xs using List.casesOn with
 |nil=>induction ys using List.casesOn with
  |nil=>exact key (fZ ox) (fZ oy) (λO=>.nil) (Option.some.inj h).symm
  |cons q ys=>
   obtain⟨n,v,rfl,h⟩:=l7 h
   obtain⟨kvs,q,d⟩:=f7 oy
   obtain⟨e,m,rfl⟩:=List.exists_cons_of_length_eq_add_one q.length.symm
   exact key (r':=true) (fZ ox) d (λe=>absurd e nofun) (Option.some.inj h).symm
 |cons p xs=>induction ys using List.casesOn with
  |nil=>
   obtain⟨n,v,rfl,h⟩:=l7 h
   obtain⟨kvs,q,d⟩:=f7 ox
   obtain⟨e,m,rfl⟩:=List.exists_cons_of_length_eq_add_one q.length.symm
   exact key (r':=true) d (fZ oy) (λe=>absurd e nofun) (Option.some.inj h).symm
  |cons q ys=>
   obtain⟨hn,h⟩:=bL h
   obtain rfl:=fC (aM hn).1
   obtain rfl:=fC (aM hn).2
   obtain⟨k,v,rfl,h⟩:=l7 h
   obtain⟨k',v',rfl,h⟩:=l7 h
   obtain⟨kvs,q,d⟩:=f7 ox
   obtain⟨kvs',q',d'⟩:=f7 oy
   obtain⟨⟨x,u⟩,m,rfl⟩:=List.exists_cons_of_length_eq_add_one q.length.symm
   obtain⟨⟨y,w⟩,m',rfl⟩:=List.exists_cons_of_length_eq_add_one q'.length.symm
   obtain rfl:m=[]:=List.length_eq_zero_iff.mp (Nat.succ.inj q.length).symm
   obtain rfl:m'=[]:=List.length_eq_zero_iff.mp (Nat.succ.inj q'.length).symm
   obtain⟨⟨⟨n,e1,e2⟩,vr⟩,_⟩:=q
   obtain⟨⟨⟨n',e1',e2'⟩,vr'⟩,_⟩:=q'
   obtain rfl:=SV.str.inj e1
   obtain rfl:=SV.str.inj e1'
   obtain rfl:x=tx k:=e2
   obtain rfl:y=tx k':=e2'
   have h:fA (cC k k') (f v v') (some false)=some r:=h
   rw[cV]at h
   by_cases hk:k=k'
   ·subst hk
    rw[decide_eq_true rfl]at h
    exact key d d' (r':=r&&true) (λO=>.hit (y:=w) (by simp[valueAt]) (hf v v' r u w h vr vr') .nil) (by simp)
   ·rw[decide_eq_false hk]at h
    exact key d d' (r':=false) (λO=>.miss (by simp[valueAt];exact λe=>hk (by first|exact e|exact e.symm|exact fD e|exact fD e.symm))) (Option.some.inj h).symm
theorem kD(h:eH o=some es):o=some (.dict es):=by
 induction o with
 |none=>exact fo h
 |some o=>induction o with
  |dict l=>rw[Option.some.inj h]
  |_=>exact fo h
theorem k6(N:dA Z)(I:Inv Z C V J s)(hu:A.units+8<cLine)(h:EE J a b=some r)(h1:VR V a u)(h2:VR V b w):
 (Q (.bool r) s->wpAny Z.M A (compareOp .Eq u w) Q E s)/\(Q (.bool (!r)) s->wpAny Z.M A (compareOp .NotEq u w) Q E s):=by
 refine hold λG_ fin_=>?_
 have via:aJj a b->c8 J 5 a b=some r->G_:=λok e=>by
  have:=(iL N I 5 A (Nat.lt_trans (Nat.add_lt_add_left (by decide:6<8) _) hu) a b r u w e h1 h2).2 ok
  exact fin_ ⟨λq=>this.1 pw Z.w E Q q,λq=>this.2 pw Z.w E Q q⟩
 induction a with
 |ref i=>
  induction b with
  |ref j=>
   have h:Bool.rec (motive:=λO=>Option Bool) (SR J (.ref i) (.ref j) (J.T.get i) (J.T.get j)) none (Nat.beq i j)=some r:=h
   rw[b9]at h
   by_cases hij:i=j
   ·rw[decide_eq_true hij]at h;exact fo h
   ·rw[decide_eq_false hij]at h
    have h:Option.rec (motive:=λO=>Option Bool) (c8 J 5 (.ref i) (.ref j)) (λes=>Option.rec (motive:=λO=>Option Bool) none (qT (c8 J 5) es) (eH (J.T.get j))) (eH (J.T.get i))=some r:=h
    induction hx:eH (J.T.get i)with
    |none=>rw[hx]at h;exact via hij h
    |some es=>
     rw[hx]at h
     have h:Option.rec (motive:=λO=>Option Bool) none (qT (c8 J 5) es) (eH (J.T.get j))=some r:=h
     induction hy:eH (J.T.get j)with
     |none=>rw[hy]at h;exact fo h
     |some es'=>
      rw[hy]at h
      obtain⟨_,ow1,or1⟩:=I.T i _ (kD hx)
      obtain⟨_,ow2,or2⟩:=I.T j _ (kD hy)
      exact fin_ (VR.el_ref h1 λO=>VR.el_ref h2 λO=>rI (λa b r u w e k1 k2=>(iL N I 5 A.in1 (by simp only[Around.in1];exact Nat.lt_of_succ_lt hu) a b r u w e k1 k2).1) (Nat.lt_of_add_right_lt hu) h or1 or2 (I.big ow1) (I.big ow2))
  |_=>exact fo h
 |_=>
  induction b with
  |ref _=>exact fo h
  |_=>exact via trivial h
end
section
set_option backward.match.sparseCases false
open PySem.SeqAt
theorem zE{a b:SV}{f:Int->Int->Option Bool}{r:Bool}(h:(match a,b with|.int x,.int y=>f x y|_,_=>none)=some r):∃x y,a= .int x/\b= .int y/\f x y=some r:=by
 induction a with
 |int x=>induction b with
  |int y=>exact⟨x,y,rfl,rfl,h⟩
  |_=>exact fo h
 |_=>exact fo h
theorem VR.inv_int(h:VR V (.int i) u):∃t,u= .int i t:=by
 exact VR.el_int h λt=>by exact⟨t,rfl⟩
def KR(Z:Gd)(a:Addr):SObj->Prop
 |.tup xs=>xs.length≤1000/\∃vs ep,Z.s0.heap.get? a=some ⟨.type "tuple",none,.seq vs ep,#[]⟩/\∀V,VRs V xs vs.toList
 |.dict es=>∃kvs,(∀V,DRs V es kvs)/\Z.s0.heap.DictOf (strKind pw Z.w) a kvs
 |_=>False
def dG(Z:Gd):Prop:=∀a o,aE d5 a=some o->a∉tabs/\(a==sysModules)=false/\KR Z a o
section
variable{Z:Gd}{C:Cf}{V:Vl}{J:St}{s:Shared}{A:Around}{E:Value->Shared->Prop}
theorem jE(K:dG Z)(I:Inv Z C V J s)(h:iV J b=some (.tup xs))(r:VR V b u):
 ∃a vs,u= .ref a/\s.heap.IsTuple a vs/\VRs V xs vs.toList/\xs.length≤1000:=by
 induction r with
 |ref i hi=>
  refine hold λG_ fin_=>?_
  obtain⟨_,_,hl,vs,ep,h1,h2⟩:=I.T i _ (h:J.T.get i=_)
  refine fin_ ?_
  exact⟨_,vs,rfl,⟨_,h1,rfl,ep,rfl⟩,h2,hl⟩
 |kref a=>
  refine hold λG_ fin_=>?_
  obtain⟨ht,_,hl,vs,ep,h1,h2⟩:=K a _ (h:aE d5 a=_)
  refine fin_ ?_
  exact⟨_,vs,rfl,⟨_,I.base.old _ _ h1 ht,rfl,ep,rfl⟩,h2 V,hl⟩
 |_=>exact fo h
theorem kE(K:dG Z)(I:Inv Z C V J s)(h:iV J b=some (.list xs))(r:VR V b u):
 ∃i vs ep,b= .ref i/\J.T.get i=some (.list xs)/\u= .ref (V.ρ i)/\s.heap.get? (V.ρ i)=some ⟨.type "list",none,.seq vs ep,#[]⟩/\VRs V xs vs.toList/\xs.length≤1000:=by
 induction r with
 |ref i hi=>
  refine hold λG_ fin_=>?_
  obtain⟨_,_,hl,vs,ep,h1,h2⟩:=I.T i _ (h:J.T.get i=_)
  refine fin_ ?_
  exact⟨i,vs,ep,rfl,h,rfl,h1,h2,hl⟩
 |kref a=>obtain⟨ht,_,x⟩:=K a _ (h:aE d5 a=_);exact x.elim
 |_=>exact fo h
theorem l8(x:OR Z V h i a (.dict es))(hs:∀p es',es=p::es'->∃n,p.1= .str n):∃kvs,DRs V es kvs/\h.DictOf (strKind pw Z.w) a kvs:=by
 induction es using List.casesOn with
 |nil=>exact⟨[],trivial,fZ x⟩
 |cons p es=>
  obtain⟨n,hn⟩:=hs p es rfl
  obtain⟨k,v⟩:=p
  subst hn
  exact f7 x
theorem DRs.at(n:Nm)(h:DRs V es kvs):match cR es n with
 |some v=>∃u,valueAt kvs (tx n)=some u/\VR V v u
 |none=>valueAt kvs (tx n)=none:=by
 refine h.ind rfl λp es q kvs r O rc=>?_
 obtain⟨k,v⟩:=p
 obtain⟨y,u⟩:=q
 obtain⟨⟨m,e1,e2⟩,vr⟩:=r
 have e1:k= .str m:=e1
 have e2:y=tx m:=e2
 subst e1;subst e2
 have e:cR ((.str m,v)::es) n=if m=n then some v else cR es n:=by
  show Bool.rec (motive:=λO=>Option SV) (cR es n) (some v) (cC m n)=_
  rw[cV];by_cases q:m=n<;>simp[q]
 rw[e]
 by_cases q:m=n
 ·subst q;rw[if_pos rfl];exact⟨u,by simp[valueAt],vr⟩
 ·rw[if_neg q]
  have ne:¬tx m=tx n:=λe=>q (fD e)
  have e':valueAt ((tx m,u)::kvs) (tx n)=valueAt kvs (tx n):=by simp[valueAt,ne]
  rw[e'];exact rc
theorem kF(K:dG Z)(I:Inv Z C V J s)(h:iV J b=some (.dict es))(r:VR V b u)(hs:∀p es',es=p::es'->∃n,p.1= .str n):
 ∃a kvs,u= .ref a/\(a==sysModules)=false/\DRs V es kvs/\s.heap.DictOf (strKind pw Z.w) a kvs:=by
 induction r with
 |ref i hi=>
  refine hold λG_ fin_=>?_
  obtain⟨_,t2,x⟩:=I.T i _ (h:J.T.get i=_)
  obtain⟨kvs,h1,h2⟩:=l8 x hs
  refine fin_ ?_
  exact⟨_,kvs,rfl,I.big t2,h1,h2⟩
 |kref a=>
  refine hold λG_ fin_=>?_
  obtain⟨ht,hs',kvs,h1,h2⟩:=K a _ (h:aE d5 a=_)
  refine fin_ ?_
  exact⟨a,kvs,rfl,hs',h1 V,h2.at λo e=>I.base.old _ _ e ht⟩
 |_=>exact fo h
theorem PN(hv:VRs V xs us):∀(r:Bool),EA xs n=some r->(∀y,y∈us->∃m t,y= .str (tx m) t)/\r=us.any (Value.isStrOf (tx n)):=by
 refine hv.ind (λr h=>by obtain rfl:=Option.some.inj h;exact⟨λO h=>absurd h List.not_mem_nil,rfl⟩) λx xs u us h0 O ih r h=>?_
 induction x with
 |str m=>
  have h:(match EA xs n with|some r=>some (Bool.rec (motive:=λO=>Bool) r true (cC m n))|none=>none)=some r:=h
  induction q:EA xs n with
  |none=>rw[q]at h;exact fo h
  |some r'=>
   rw[q]at h
   obtain⟨i1,i2⟩:=ih _ q
   refine VR.el_str h0 λt=>⟨λy hy=>?_,?_⟩
   ·rcases List.mem_cons.mp hy with rfl|hy
    ·exact⟨m,t,rfl⟩
    ·exact i1 y hy
   ·have e:Value.isStrOf (tx n) (.str (tx m) t)=cC m n:=by rw[<-wM];rfl
    rw[List.any_cons,e,<-i2]
    have h:some (Bool.rec (motive:=λO=>Bool) r' true (cC m n))=some r:=h
    obtain rfl:=Option.some.inj h
    induction cC m n<;>rfl
 |_=>exact fo h
theorem wN(n m:Nm)(t:Tok):Value.isStrOf (tx n) (.str (tx m) t)=(tx m==tx n):=rfl
theorem iM(w:World)(n:Nm)(t:Tok):(strKind pw w).is (tx n) (.str (tx n) t)=true:=by
 show(tx n==tx n)=true;exact beq_self_eq_true _
theorem iN{α:Type}{es:List (SV×SV)}{x:Option α}{r:α}(h:Bool.rec (motive:=λO=>Option α) none x (iA es)=some r):(∀p es',es=p::es'->∃n,p.1= .str n)/\x=some r:=by
 induction q:iA es with
 |false=>rw[q]at h;exact fo h
 |true=>
  rw[q]at h
  refine⟨λp es' e=>?_,h⟩
  subst e
  obtain⟨k,v⟩:=p
  induction k<;>first|exact⟨_,rfl⟩|exact ff q
set_option tactic.hygienic true in
theorem tS(K:dG Z)(I:Inv Z C V J s){a b:SV}{u w:Value}{r:Bool}{Q:Value->Shared->Prop}(h:inO J (iV J b) a=some r)(h1:VR V a u)(h2:VR V b w):
 ((∀t,Q (.bool r) {s with toks:=t})->wpAny Z.M A (compareOp .In u w) Q E s)/\((∀t,Q (.bool (!r)) {s with toks:=t})->wpAny Z.M A (compareOp .NotIn u w) Q E s):=by
 unfold inO at h
 split at h
 ·rename_i xs hx
  split at h
  ·rename_i n
   exact VR.el_str h1 λt=>by
    refine hold λG_ fin_=>?_
    obtain⟨a,vs,rfl,ht,hv,_⟩:=jE K I hx h2
    obtain⟨i1,rfl⟩:=PN hv _ h
    refine fin_ ?_
    have e:vs.toList.any (Value.isStrOf (tx n))=vs.any (Value.isStrOf (tx n)):=by simp
    have he:∀y,y∈vs->EqAt A.in1 s y (.str (tx n) t) (Value.isStrOf (tx n) y):=λy hy=>by
     obtain⟨m,t',rfl⟩:=i1 y (by simpa using hy)
     rw[wN];exact EqAt.str_str _ _ _ _
    rw[e]
    exact⟨λq=>in_tupleAt _ ht he (q s.toks),λq=>notIn_tupleAt _ ht he (q s.toks)⟩
  ·exact fo h
 ·rename_i es hx
  split at h
  ·rename_i n
   exact VR.el_str h1 λt=>by
    obtain⟨hh,h⟩:=iN h
    obtain⟨d,kvs,rfl,hd,hr,hm⟩:=kF K I hx h2 hh
    have:=hr.at n
    have e:r=(valueAt kvs (tx n)).isSome:=by
     obtain rfl:=Option.some.inj h
     induction q:cR es n with
     |none=>rw[q]at this;rw[this];rfl
     |some v=>rw[q]at this;obtain⟨u,e,_⟩:=this;rw[e];rfl
    subst e
    have hk:(strKind pw Z.w).is (tx n) (.str (tx n) t)=true:=iM Z.w n t
    exact⟨λq=>wpAny_in_of hk hd hm.mapOf (q _),λq=>wpAny_notIn_of hk hd hm.mapOf (q _)⟩
  ·exact fo h
 ·exact fo h
theorem bD(h:cU i k=true):k i=true:=by
 induction i with
 |ofNat n=>induction n<;>exact h
 |negSucc n=>exact h
theorem jF(h:isNone a=some r)(h1:VR V a u):(u==Value.none)=r:=by
 induction h1 with
 |any v _=>exact fo h
 |scr _=>exact fo h
 |one _ _ _ _=>exact fo h
 |bi k u hk=>
  obtain rfl:=Option.some.inj h
  exact(Bool.not_eq_true' _).mp (j9 (p:=λv=> !(v==Value.none)) rfl hk)
 |_=>obtain rfl:=Option.some.inj h;rfl
theorem pM(N:dA Z)(K:dG Z)(I:Inv Z C V J s)(hu:A.units+8<cLine){op:CmpOp}{a b:SV}{u w:Value}{r:Bool}{Q:Value->Shared->Prop}(h:cmp op a b J=some r)(h1:VR V a u)(h2:VR V b w)
 (q:∀t,Q (.bool r) {s with toks:=t}):wpAny Z.M A (compareOp op u w) Q E s:=by
 have neg:∀{o:Option Bool},o.map not=some r->o=some (!r):=λ{o} e=>by
  induction o with
  |none=>exact fo e
  |some x=>cases e;cases x<;>rfl
 induction op with
 |Eq=>exact(k6 N I hu h h1 h2).1 (q s.toks)
 |NotEq=>exact(k6 N I hu (neg h) h1 h2).2 (by rw[Bool.not_not];exact q s.toks)
 |In=>exact(tS K I h h1 h2).1 q
 |NotIn=>exact(tS K I (neg h) h1 h2).2 (by rw[Bool.not_not];exact q)
 |Is=>
  induction h2 with
  |none=>
   refine is_none ?_
   rw[jF h h1];exact q s.toks
  |_=>exact fo h
 |IsNot=>
  induction h2 with
  |none=>
   refine isNot_none ?_
   rw[jF (neg h) h1,Bool.not_not];exact q s.toks
  |_=>exact fo h
 |Lt=>
  refine hold λG_ fin_=>?_
  obtain⟨x,y,rfl,rfl,h⟩:=zE (f:=EC .Lt) h
  obtain⟨t,rfl⟩:=h1.inv_int
  obtain⟨t',rfl⟩:=h2.inv_int
  refine fin_ ?_
  have h:some (fT x y)=some r:=h
  rw[fY]at h;obtain rfl:=Option.some.inj h;exact P.lt_int (q s.toks)
 |LtE=>
  refine hold λG_ fin_=>?_
  obtain⟨x,y,rfl,rfl,h⟩:=zE (f:=EC .LtE) h
  obtain⟨t,rfl⟩:=h1.inv_int
  obtain⟨t',rfl⟩:=h2.inv_int
  refine fin_ ?_
  have h:some (!(fT y x))=some r:=h
  rw[fY]at h
  have e:r=decide (x≤y):=by obtain rfl:=Option.some.inj h;by_cases z:y<x<;>simp[z]<;>exact Int.not_lt.mp z
  subst e;exact P.le_int (q s.toks)
 |Gt=>
  refine hold λG_ fin_=>?_
  obtain⟨x,y,rfl,rfl,h⟩:=zE (f:=EC .Gt) h
  obtain⟨t,rfl⟩:=h1.inv_int
  obtain⟨t',rfl⟩:=h2.inv_int
  refine fin_ ?_
  have h:some (fT y x)=some r:=h
  rw[fY]at h;obtain rfl:=Option.some.inj h;exact P.gt_int (q s.toks)
 |GtE=>
  refine hold λG_ fin_=>?_
  obtain⟨x,y,rfl,rfl,h⟩:=zE (f:=EC .GtE) h
  obtain⟨t,rfl⟩:=h1.inv_int
  obtain⟨t',rfl⟩:=h2.inv_int
  refine fin_ ?_
  have h:some (!(fT x y))=some r:=h
  rw[fY]at h
  have e:r=decide (x≥y):=by obtain rfl:=Option.some.inj h;by_cases z:x<y<;>simp[z]<;>exact Int.not_lt.mp z
  subst e;exact P.ge_int (q s.toks)
end
end
section
theorem rJ{α:Type}(y:List α):∀(x:List α) (k:List α->Bool),wB x y k=k (x++y):=by
 intro x
 induction x with
 |nil=>
  intro k
  exact rfl
 |cons a x rec_=>
  intro k
  show wB x y (λl'=>k (a::l'))=_
  rw[rec_];rfl
theorem PO(x:List SV):∀(n:Nat) (k:List SV->Bool),ZA n x k=k (List.replicate n x).flatten:=by
 intro n
 induction n with
 |zero=>
  intro k
  exact rfl
 |succ n rec_=>
  intro k
  show ZA n x (λl=>wB x l k)=_
  rw[rec_,rJ,List.replicate_succ,List.flatten_cons]
theorem VRs.append(h:VRs V x u)(h':VRs V y w):VRs V (x++y) (u++w):=h.ind h' λO O O O r O ih=>⟨r,ih⟩
theorem VRs.rep(h:VRs V x u):∀n,VRs V (List.replicate n x).flatten (List.replicate n u).flatten
 |0=>trivial
 |n+1=>by rw[List.replicate_succ,List.replicate_succ,List.flatten_cons,List.flatten_cons];exact h.append (VRs.rep h n)
theorem AW(x y:Nm):tx x++tx y=tx (x++y):=by
 show(⟨x.toArray++y.toArray⟩:Str)=⟨(x++y).toArray⟩
 simp
theorem eQ(x:Nm):(tx x).length=x.length:=by
 show(x.toArray).size=_
 simp
section
variable{Z:Gd}{C:Cf}{V:Vl}{J:St}{s:Shared}{A:Around}{E:Value->Shared->Prop}
theorem m9{xs:List SV}{vs:Array Value}{k:KV}{Q:Value->Shared->Prop}(h:cT J xs k=true)(I:Inv Z C V J s)(r:VRs V xs vs.toList)
 (q:∀v u J' V' s',k v J'=true->V.Le V'->Inv Z C V' J' s'->VR V' v u->Q u s') (t:Tok):Q (.ref s.heap.objs.size) {s with heap:=s.heap.push {cls:=.type "list",data:=.seq vs},toks:=t}:=by
 refine hold λG_ fin_=>?_
 obtain⟨hl,h⟩:=aB h
 obtain⟨T',hT,h⟩:=aK h
 have g:Heap.get? (s.heap.push {cls:=.type "list",data:=.seq vs}) s.heap.objs.size=some {cls:=.type "list",data:=.seq vs}:=Heap.get?_push_size _ rfl
 obtain⟨le,vr,I'⟩:=I.alloc (h':=s.heap.push {cls:=.type "list",data:=.seq vs}) (a:=s.heap.objs.size) (xs:=[]) (t:=none) (tk:=t) hT (Nat.le_refl _) ⟨_,g⟩ (λp hp=>by cases hp)
  (λb x e=>Heap.get?_push_of_some _ e) ⟨aS hl,vs,0,g,r.mono (I.add_le (Nat.le_refl _) (λp hp=>by cases hp))⟩ (λO h=>fo h)
 refine fin_ ?_
 exact q _ _ _ _ _ h le I' vr
theorem tT(hl:s.heap.get? l=some {cls:=.type "list",dict:=none,data:=.seq items k,slots:= #[]})(hlo: -(2^63:Int)≤x)(hhi:x<2^63)(hsz:items.size*x.toNat≤2^24)(h:Q (.ref s.heap.objs.size) {s with heap:=s.heap.push {cls:=.type "list",data:=.seq (List.replicate x.toNat items.toList).flatten.toArray}}):wpAny Z.M A (binaryOp .Mult (.ref l) (.int x u)) Q E s:=by
 rw[<-listMul_foldl_if items x.toNat]at h
 exact wpAny_binaryOp_repeat_ref (T:= "list") (U:= "int") (by decide) ⟨_,hl,rfl⟩ (λs'=>typeIs_int s' x u) noFill_list_mul F.fills_int_mul F.slot_int_rmul repeat_list F.slot_int_index.lookup
  (call_meets F.slot_int_rmul (typeIs_int s x u) F.entry_int_rmul (F.args_int_rmul_2 _ _) (int___rmul___int_list x u l items k)
    ⟨hl,rfl,⟨_,hl,rfl⟩,call_meets F.slot_list_mul ⟨_,hl,rfl⟩ F.entry_list_mul (F.args_list_mul_2 _ _)
      (AutoListH.list___mul___list_int_3 l items k x u (by simp[Builtin.List.listFitsIndex];exact⟨hlo,hhi⟩) (Nat.not_lt.mpr (Nat.le_trans hsz (by decide))) (by simp[Builtin.List.listTooLong,sizeLine];exact hsz)) ⟨hl,h⟩⟩)
theorem aJk(h:mO x=true):IntMulOk x y:=by
 refine IntMulOk.of_left (intBits_le_64 ?_ ?_)<;>(induction x with
  |ofNat n=>
   have:n<1000:=Nat.lt_of_succ_le (Nat.le_of_ble_eq_true (n:=n+1) h)
   simp only[Int.ofNat_eq_natCast];(first|exact Int.lt_of_lt_of_le (by decide) (Int.natCast_nonneg _)|exact Int.lt_trans (Int.ofNat_lt.mpr this) (by decide))
  |negSucc n=>
   have:n<1000:=Nat.lt_of_succ_le (Nat.le_of_ble_eq_true (n:=n+1) h)
   first|exact Int.lt_trans (by decide) (ngl this)|exact Int.lt_trans (Int.negSucc_lt_zero n) (by decide))
inductive aJl(op:Operator)(a b:SV):Prop
 |ii (x y:Int) (ea:a= .int x) (eb:b= .int y)
 |il (x y:Int) (ea:a= .int x) (eb:b= .lin y) (eo:op= .Add)
 |li (x y:Int) (ea:a= .lin x) (eb:b= .int y)
 |ss (x y:Nm) (ea:a= .str x) (eb:b= .str y) (eo:op= .Add)
 |ra (i j:Nat) (ea:a= .ref i) (eb:b= .ref j) (eo:op= .Add)
 |rm (i n:Nat) (ea:a= .ref i) (eb:b= .int (.ofNat n)) (eo:op= .Mult)
theorem E5(h:yS op a b J k=true):aJl op a b:=by
 induction a with
 |int x=>induction b with
  |int y=>exact .ii x y rfl rfl
  |lin y=>induction op with
   |Add=>exact .il x y rfl rfl rfl
   |_=>exact ff h
  |_=>exact ff h
 |lin x=>induction b with
  |int y=>exact .li x y rfl rfl
  |_=>exact ff h
 |str x=>induction op with
  |Add=>induction b with
   |str y=>exact .ss x y rfl rfl rfl
   |_=>exact ff h
  |_=>induction b<;>exact ff h
 |ref i=>induction op with
  |Add=>induction b with
   |ref j=>exact .ra i j rfl rfl rfl
   |_=>exact ff h
  |Mult=>induction b with
   |int z=>induction z with
    |ofNat n=>exact .rm i n rfl rfl rfl
    |negSucc n=>exact ff h
   |_=>exact ff h
  |_=>induction b<;>exact ff h
 |_=>exact ff h
theorem VR.inv_lin(h:VR V (.lin c) u):∃x t,V.X=some x/\u= .int (x+c) t:=by
 exact VR.el_lin h λx t hx=>by exact⟨x,t,hx,rfl⟩
theorem VR.inv_str(h:VR V (.str n) u):∃t,u= .str (tx n) t:=by
 exact VR.el_str h λt=>by exact⟨t,rfl⟩
theorem VR.inv_ref(h:VR V (.ref i) u):i<V.n/\u= .ref (V.ρ i):=by
 exact VR.el_ref h λhi=>by exact⟨hi,rfl⟩
set_option tactic.hygienic true in
theorem tU(I:Inv Z C V J s){op:Operator}{a b:SV}{u w:Value}{k:KK}{Q:Value->Shared->Prop}(h:yS op a b J k=true)(h1:VR V a u)(h2:VR V b w)
 (q:QV Z C V k Q):wpAny Z.M A (binaryOp op u w) Q E s:=by
 have fin:∀v u t,k (.val v) J=true->VR V v u->Q u {s with toks:=t}:=λv u t h r=>q v u J V _ h (Vl.Le.refl V) (I.tok t) r
 induction E5 h with
 |ii x y ea eb=>
  subst ea;subst eb
  obtain⟨t,rfl⟩:=h1.inv_int
  obtain⟨t',rfl⟩:=h2.inv_int
  have h:SS op x y (λz=>k (.val (.int z)) J)=true:=h
  induction op with
  |Add=>exact P.add_int (fin _ _ _ (bD (k:=λz=>k (.val (.int z)) J) (i:=Int.add x y) h) (.int _ _))
  |Sub=>exact P.sub_int (fin _ _ _ (bD (k:=λz=>k (.val (.int z)) J) (i:=Int.sub x y) h) (.int _ _))
  |Mult=>
   obtain⟨h0,h⟩:=aB h
   exact P.mul_int (fin _ _ _ (bD (k:=λz=>k (.val (.int z)) J) (i:=Int.mul x y) h) (.int _ _)) (aJk h0)
  |Mod=>
   induction y with
   |ofNat n=>
    induction n using Nat.casesOn with
    |zero=>exact ff h
    |succ n=>
     have h:=bD (k:=λz=>k (.val (.int z)) J) (i:=Int.emod x (.ofNat (n+1))) h
     have e:Int.emod x (.ofNat (n+1))=x.fmod (.ofNat (n+1)):=(Int.fmod_eq_emod_of_nonneg _ (Int.natCast_nonneg _)).symm
     rw[e]at h
     exact PyProof.Rows.mod_int (by simp only[Int.ofNat_eq_natCast];exact nofun) (fin _ _ _ h (.int _ _))
   |negSucc n=>exact ff h
  |_=>exact ff h
 |il x y ea eb eo=>
  subst ea;subst eb;subst eo
  refine hold λG_ fin_=>?_
  obtain⟨t,rfl⟩:=h1.inv_int
  obtain⟨x',t',hx,rfl⟩:=h2.inv_lin
  refine fin_ ?_
  have h:=bD (k:=λz=>k (.val (.lin z)) J) (i:=Int.add x y) h
  refine P.add_int (fin _ _ _ h ?_)
  have e:x+(x'+y)=x'+Int.add x y:=by show _=x'+(x+y);exact Int.add_left_comm _ _ _
  rw[e];exact .lin _ _ _ hx
 |li y z ea eb=>
  subst ea;subst eb
  obtain⟨x',t,hx,rfl⟩:=h1.inv_lin
  obtain⟨t',rfl⟩:=h2.inv_int
  induction op with
  |Add=>
   have h:=bD (k:=λz=>k (.val (.lin z)) J) (i:=Int.add y z) h
   refine P.add_int (fin _ _ _ h ?_)
   have e:x'+y+z=x'+Int.add y z:=by show _=x'+(y+z);exact Int.add_assoc _ _ _
   rw[e];exact .lin _ _ _ hx
  |Sub=>
   have h:=bD (k:=λz=>k (.val (.lin z)) J) (i:=Int.sub y z) h
   refine P.sub_int (fin _ _ _ h ?_)
   have e:x'+y-z=x'+Int.sub y z:=by show _=x'+(y-z);exact Int.add_sub_assoc _ _ _
   rw[e];exact .lin _ _ _ hx
  |_=>exact ff h
 |ss x y ea eb eo=>
  subst ea;subst eb;subst eo
  obtain⟨t,rfl⟩:=h1.inv_str
  obtain⟨t',rfl⟩:=h2.inv_str
  have h:wB x y (λz=>Bool.rec (motive:=λO=>Bool) false (k (.val (.str z)) J) (cP z))=true:=h
  rw[rJ]at h
  obtain⟨hl,h⟩:=aB h
  have hl:=aS hl
  rw[List.length_append]at hl
  refine PyProof.Rows.add_str (λt' tk=>?_) (by rw[eQ,eQ];exact Nat.le_trans hl (by decide))
  rw[AW];exact fin _ _ _ h (.str _ _)
 |ra i j ea eb eo=>
  subst ea;subst eb;subst eo
  obtain⟨hi,rfl⟩:=h1.inv_ref
  obtain⟨hj,rfl⟩:=h2.inv_ref
  have h:mP .Add i (.ref j) J k=true:=h
  unfold mP at h
  dsimp only at h
  split at h
  ·rename_i xs ys hx hy
   refine hold λG_ fin_=>?_
   obtain⟨_,_,l1,us,ep,g1,g2⟩:=I.T i _ hx
   obtain⟨_,_,l2,ws,ep',g3,g4⟩:=I.T j _ hy
   refine fin_ ?_
   rw[rJ]at h
   have le1:us.size=xs.length:=by rw[g2.length];simp
   have le2:ws.size=ys.length:=by rw[g4.length];simp
   exact P.add_list g1 g3 (m9 h I (by simpa using g2.append g4) q s.toks) (by rw[le1,le2];exact Nat.le_trans (Nat.add_le_add l1 l2) (by decide))
  ·exact ff h
 |rm i n ea eb eo=>
  subst ea;subst eb;subst eo
  obtain⟨hi,rfl⟩:=h1.inv_ref
  obtain⟨t',rfl⟩:=h2.inv_int
  have h:mP .Mult i (.int (.ofNat n)) J k=true:=h
  unfold mP at h
  dsimp only at h
  split at h
  ·rename_i xs hx
   refine hold λG_ fin_=>?_
   obtain⟨_,_,l1,us,ep,g1,g2⟩:=I.T i _ hx
   obtain⟨hn,h⟩:=aB h
   refine fin_ ?_
   rw[PO]at h
   have hn:n<1000:=Nat.lt_of_succ_le (Nat.le_of_ble_eq_true (n:=n+1) hn)
   have le1:us.size=xs.length:=by rw[g2.length];simp
   have hz:us.size*n≤2^24:=by
    rw[le1]
    exact Nat.le_trans (Nat.mul_le_mul l1 (Nat.le_of_lt hn)) (by decide)
   have fin:=m9 (s:=s) (vs:=(List.replicate n us.toList).flatten.toArray) h I (by simpa using g2.rep n) q s.toks
   exact tT g1 (by simp only[Int.ofNat_eq_natCast];exact Int.neg_ofNat_le_natCast (2^63) _) (by simp only[Int.ofNat_eq_natCast];exact ET (Nat.le_of_lt hn)) hz fin
  ·exact ff h
end
end
section
def aX(Z:Gd):Prop:=(K Z.P).In Z.s0.heap/\∀a o,(K Z.P).lookup a=some o->a∉tabs
theorem Inv.K(I:Inv Z C V J s)(k:aX Z):(K Z.P).In s.heap:=λa o e=>I.base.old a o (k.1 a o e) (k.2 a o e)
structure l9(K:Frag)(C:Nat):Prop where
 cd:∃cd,clsIn K C=some cd/\cd.hasDict=true
 ga:(∀p,aE aO C=some p->aP p.1 39=false)->findIn K (.ref C) "__getattribute__" =some (some (.builtin "object.__getattribute__"))
 gx:(∀p,aE aO C=some p->aP p.1 39=true)->findIn K (.ref C) "__getattribute__" =some (some (.builtin "BaseException.__getattribute__"))/\mroIn K C (.type "BaseException")=some true
 gt:findIn K (.ref C) "__getattr__" =some none
 attr:∀n,cE n=true->copiedNames.contains (tx n)=false/\((dE C n=none/\findIn K (.ref C) (tx n)=some none)∨∃f,dE C n=some f/\findIn K (.ref C) (tx n)=some (some (.ref f))/\typeIn K (.ref f)=some (.type "function"))
def tV(Z:Gd):Prop:=∀C p,aE aO C=some p->l9 (K Z.P) C
structure rK(K:Frag)(C:Nat):Prop where
 sa:findIn K (.ref C) "__setattr__" =some (some (.builtin "object.__setattr__"))
 over:∃cd,clsIn K C=some cd/\cd.mro.isEmpty=false/\cd.mro.contains (.type "object")=true/\∀self,refuseLoop self "__setattr__" cd.mro=pure ()
def zF(Z:Gd):Prop:=∀C p,aE aO C=some p->rK (K Z.P) C
open Builtin Builtin.ObjectAttr in
theorem pN{prog:Program}{w:World}{A:Around}{K:Frag}{C x:Addr}{R:Result->Shared->Prop}{s:Shared}{ox:Obj}{od:Option Obj}{name:Str}{tk:Tok}{v:Value}{r:Option Value}(X:K.In s.heap)(I:InstAt s.heap x ox C od)(hp:rK K C)(ht:takerIn K C name=some r)
 (h:∀b,wpAny (model prog w) A.in1 (match r with|some a=>setByDescriptor a (.ref x) v|none=>storeInOwnDict (.ref x) (.ref C) (.str name tk) name v b)
   (λfin s'=>match fin with|.done f=>R (.ok f) s'|.again c'=>c'.quiet=true/\codeAny (model prog w) A c' R s') (λe s'=>R (.error e) s') s):
 codeAny (model prog w) A (.call (.builtin "object.__setattr__") ⟨[.ref x,.str name tk,v],[]⟩) R s:=by
 have SF:=PySem.F.store_object
 refine hold λG_ fin_=>?_
 obtain⟨cd,hc,ne,hasO,ho⟩:=hp.over
 refine fin_ ?_
 have sub:Looks (model prog w) s.heap (PySem.isInstance (.ref x) (.type "object")) true:=I.type.andThen (looks_mroIn X (by unfold mroIn;rw[hc,Option.bind_some,if_neg (by rw[ne];decide),hasO]))
 refine codeAny_call_builtin SF.slot.plain SF.entry (@check_slot (model prog w) _ _ s "object.__setattr__" "object" "__setattr__" (.ref x) [.str name tk,v] [] _ SF.kind SF.split sub (SF.args (.ref x) (.str name tk) v) ?_)
 obtain⟨attr,ha,hr⟩:=Option.bind_eq_some_iff.mp ht
 have hm:Looks (model prog w) s.heap (PySem.mroOf (.ref C)) cd.mro:=(looks_clsIn X hc).andThen .now
 have L3:Looks (model prog w) s.heap (storeTaker? attr) r:=by
  induction attr with
  |none=>exact os hr (.now)
  |some a=>
   obtain⟨b,hb,rfl⟩:=Option.map_eq_some_iff.mp hr
   refine(looks_takesIn X hb).andThen ?_
   induction b<;>exact .now
 rw[osa_eq,refuse_eq]
 refine wpAny_bind (wpAny_bind (I.type.here (wpAny_bind (hm.here ?_))))
 rw[ho]
 exact wpAny_pure (wpAny_bind (I.type.here (wpAny_bind ((looks_findIn X ha).here (wpAny_bind (L3.here (h _)))))))
theorem ZQ{K:Frag}{f:Addr}(h:typeIn K (.ref f)=some (.type "function")):∃g,specialIn K (.ref f) "__get__" =some (some g):=by
 unfold specialIn
 rw[h]
 exact⟨.builtin "function.__get__",by kernel_rfl⟩
theorem tW{K:Frag}{f:Addr}(h:typeIn K (.ref f)=some (.type "function")):takesIn K (.ref f)=some false:=by
 have a:specialIn K (.ref f) "__set__" =some none:=by unfold specialIn;rw[h];kernel_rfl
 have b:specialIn K (.ref f) "__delete__" =some none:=by unfold specialIn;rw[h];kernel_rfl
 unfold takesIn;rw[a,b];rfl
theorem pO{h:Heap}{d:Addr}{m:Str->Option Value}(x:h.Ns d m){o:Obj}(ho:h.get? d=some o)(n:Str):lookIn n o=some (m n):=by
 obtain⟨o',es,ep,e1,e2,e3,e4⟩:=x
 rw[e1]at ho;obtain rfl:=Option.some.inj ho
 unfold lookIn
 rw[e2]
 dsimp only
 rw[<-e4 n]
 unfold nsFind findBy
 rw[<-Array.find?_toList]
 induction q:es.toList.find? (λe=>e.key.isStr n)with
 |some e=>rfl
 |none=>
  have:es.toList.any (·.refKey)=false:=by
   rw[List.any_eq_false]
   intro e he
   obtain⟨n',t,hk⟩:=e3 e (Array.mem_toList_iff.mp he)
   simp[DictEntry.refKey,hk]
  dsimp only
  rw[if_neg (by rw[this];exact Bool.false_ne_true)];rfl
theorem E6{cd:ClassData}(hd:cd.hasDict=true){h:Heap}{d:Addr}{m:Str->Option Value}(x:h.Ns d m){o:Obj}(ho:h.get? d=some o)(n:Str):W.ownOf cd (some o) n=some (m n):=by
 unfold W.ownOf;rw[if_pos hd];exact pO x ho n
theorem k7{K:Frag}{C:Nat}(F:l9 K C){h:Heap}{d:Addr}{m:Str->Option Value}(x:h.Ns d m){o:Obj}(ho:h.get? d=some o){n:Nm}(hn:cE n=true){v:Value}(hv:m (tx n)=some v):
 findObj K C (some o) (tx n)=some (.value v):=by
 obtain⟨cd,hcd,hd⟩:=F.cd
 have own:=E6 hd x ho (tx n)
 rw[hv]at own
 unfold findObj
 rw[hcd,Option.bind_some]
 rcases(F.attr n hn).2 with⟨_,q⟩|⟨f,_,q,ht⟩
 ·rw[q,Option.bind_some]
  exact Option.bind_eq_some_iff.mpr ⟨none,rfl,Option.bind_eq_some_iff.mpr ⟨false,rfl,Option.bind_eq_some_iff.mpr ⟨_,own,rfl⟩⟩⟩
 ·obtain⟨g,hg⟩:=ZQ ht
  rw[q,Option.bind_some]
  exact Option.bind_eq_some_iff.mpr ⟨some g,hg,Option.bind_eq_some_iff.mpr ⟨false,tW ht,Option.bind_eq_some_iff.mpr ⟨_,own,rfl⟩⟩⟩
section
variable{prog:Program}{w:World}{A:Around}{E:Value->Shared->Prop}{K:Frag}{C x:Addr}{s:Shared}{ox:Obj}{od:Option Obj}{name:Str}
theorem E7:builtinKind "BaseException.__getattribute__" =some .slot:=by decide+kernel
theorem AX:splitId "BaseException.__getattribute__" =some ("BaseException","__getattribute__"):=by decide+kernel
theorem ZR:(Value.builtin "BaseException.__getattribute__" ==Value.builtin "object.__getattribute__")=false:=by decide+kernel
theorem E8(expr:Bool):(expr&&onTheHeap (Value.builtin "BaseException.__getattribute__"))=false:=by induction expr<;>rfl
theorem AY(X:K.In s.heap)(I:InstAt s.heap x ox C od)(hga:findIn K (.ref C) "__getattribute__" =some (some (.builtin "BaseException.__getattribute__")))(hgt:findIn K (.ref C) "__getattr__" =some none)(hb:mroIn K C (.type "BaseException")=some true)(hf:findObj K C od name=some (.value v))(hh:handedIn v=true)(h:Q v {s with toks:=s.toks+1}):wpAny (model prog w) A (getAttr (.ref x) name expr) Q E s:=by
 obtain⟨hp,g,d,t,os⟩:=s
 have L0:=I.type (M:=model prog w)
 have L1:=looks_findIn (M:=model prog w) X hga
 have L2:=looks_find (M:=model prog w) X I hf
 have L3:Looks (model prog w) hp (hookBefore (.ref C)) none:=looks_hook X (by rw[if_pos (show onTheHeap (.ref C)=true from rfl)];exact hgt)
 have L4:Looks (model prog w) hp (isInstance (.ref x) (.type "BaseException")) true:=L0.andThen (looks_mroIn X hb)
 unfold getAttr getAttrBy
 refine wpAny_bind (wpAny_mkText (wpAny_holding (wpAny_bind (L0.at (wpAny_bind (L1.at ?_))))))
 dsimp only
 rw[ZR,Bool.and_false,if_neg (by decide)]
 unfold getAttrByItsOwn
 refine wpAny_bind (L3.at ?_)
 refine wpAny_bind (wpAny_attempt (wpAny_holding ?_))
 unfold callGetattribute
 rw[E8,if_neg (by decide)]
 unfold boundAndCalled
 rw[PySem.F.attr_ValueError.ga.bind]
 refine wpAny_bind (wpAny_pure ?_)
 refine wpAny_call ?_
 show codeAny _ _ (.call (.builtin "BaseException.__getattribute__") ⟨[.ref x,.str name t],[]⟩) _ _
 refine codeAny_call_builtin (b:=Builtin.«object.__getattribute__») PySem.F.attr_ValueError.ga.plain PySem.F.entry_bexc_ga ?_
 have hck:=λQ' E' q=>check_slot (M:=model prog w) (A:=A.in1) (E:=E') (s:=⟨hp,g,d,t+1,os⟩) (i:= "BaseException.__getattribute__") (owner:= "BaseException") (n:= "__getattribute__") (self:=.ref x) (rest:=[.str name t]) (kw:=[]) (Q:=Q') E7 AX L4 (PySem.F.args_bexc_ga _ _) q
 refine hck _ _ ?_
 unfold Builtin.«object.__getattribute__»
 refine wpAny_bind (wpAny_pure (a:=(Value.ref x,[Value.str name t])) ?_)
 refine wpAny_bind (wpAny_pure (a:=name) ?_)
 refine wpAny_bind (L0.at (wpAny_bind (L2.at ?_)))
 refine wpAny_pure ?_
 show wpAny _ _ (handedOut v) _ _ _
 rw[handedOut_of hh];exact wpAny_pure h
end
theorem VR.handed(h:VR V v u):handedIn u=true:=by
 induction h with
 |bi k _ hk=>exact j9 (by decide+kernel) hk
 |any _ hv=>exact hv
 |scr hv=>exact hv
 |_=>rfl
section
variable{Z:Gd}{C:Cf}{V:Vl}{J:St}{s:Shared}{A:Around}{E:Value->Shared->Prop}
theorem PP(I:Inv Z C V J s)(e:J.T.get i=ob)(h:pB ob n=some v):
 ∃Cl es d m o ox,(∃p,aE aO Cl=some p)/\InstAt s.heap (V.ρ i) ox Cl (some o)/\s.heap.get? d=some o/\s.heap.Ns d m/\AR V es m/\aD es n=some v:=by
 induction ob with
 |none=>exact fo h
 |some x=>
  induction x with
  |inst Cl es=>
   refine hold λG_ fin_=>?_
   obtain⟨_,_,⟨_,p,hp,_⟩,d,m,g1,g2,g3,g4⟩:=I.T i _ e
   obtain⟨o,es',ep,g5,_⟩:=id g3
   refine fin_ ?_
   exact⟨Cl,es,d,m,o,_,⟨p,hp⟩,⟨g1,rfl,rfl,g5⟩,g5,g3.ns,g4,h⟩
  |exc Cl es=>
   refine hold λG_ fin_=>?_
   obtain⟨_,_,⟨_,p,hp,_⟩,d,vs,g1,g2,_⟩:=I.T i _ e
   refine fin_ ?_
   induction d with
   |none=>rw[show es=[]from g2]at h;exact fo h
   |some d=>
   refine hold λG_ fin_=>?_
   obtain⟨m,g2,g3,g4⟩:=g2
   obtain⟨o,es',ep,g5,_⟩:=id g3
   refine fin_ ?_
   exact⟨Cl,es,d,m,o,_,⟨p,hp⟩,⟨g1,rfl,rfl,g5⟩,g5,g3.ns,g4,h⟩
  |_=>exact fo h
theorem jG(ck:tV Z)(kin:aX Z)(I:Inv Z C V J s)(hn:cE n=true)(h:pB (J.T.get i) n=some v)(q:∀u t,VR V v u->Q u {s with toks:=t}):
 wpAny Z.M A (getAttr (.ref (V.ρ i)) (tx n) b) Q E s:=by
 refine hold λG_ fin_=>?_
 obtain⟨Cl,es,d,m,o,ox,⟨p,hp⟩,ia,g1,g2,g3,g4⟩:=PP I rfl h
 have F:=ck Cl p hp
 have:=g3 n
 rw[g4]at this
 obtain⟨u,hu,vr⟩:=this
 refine fin_ ?_
 induction hx:aP p.1 39 with
 |false=>exact get_value (I.K kin) ia (F.ga λp' hp'=>by rw[hp]at hp';obtain rfl:=Option.some.inj hp';exact hx) (k7 F g2 g1 hn hu) vr.handed (q u _ vr)
 |true=>
  obtain⟨x1,x2⟩:=F.gx λp' hp'=>by rw[hp]at hp';obtain rfl:=Option.some.inj hp';exact hx
  exact AY (I.K kin) ia x1 F.gt x2 (k7 F g2 g1 hn hu) vr.handed (q u _ vr)
theorem nA{K:Frag}{Cl:Nat}(F:l9 K Cl){n:Nm}(hn:cE n=true):takerIn K Cl (tx n)=some none:=by
 unfold takerIn
 rcases(F.attr n hn).2 with⟨_,q⟩|⟨f,_,q,ht⟩
 ·rw[q];rfl
 ·rw[q,Option.bind_some];simp only[tW ht];rfl
theorem nB(h:AR V es m):Within m (es.map λp=>tx p.1):=λy hy=>by
 have hx:y=tx (aA y):=(aJ y).symm
 have:=h (aA y)
 induction q:aD es (aA y)with
 |none=>rw[q,<-hx]at this;exact absurd this hy
 |some v=>
  rw[hx]
  have mem:∀l:List (Nm×SV),aD l (aA y)=some v->tx (aA y)∈l.map λp=>tx p.1:=by
   intro l
   induction l with
   |nil=>intro e;exact fo e
   |cons p l ih=>
    intro e
    rw[aH]at e
    by_cases z:p.1=aA y
    ·rw[<-z];exact .head _
    ·rw[if_neg z]at e;exact .tail _ (ih e)
  exact mem es q
theorem zG(ck:tV Z)(sk:zF Z)(kin:aX Z)(I:Inv Z C V J s){n:Nm}{v:SV}{u:Value}{Q:Unit->Shared->Prop}{Cl:Nat}{es:List (Nm×SV)}{x d:Addr}{m:Str->Option Value}{ox:Obj}{p}
 (hn:cE n=true) (hp:aE aO Cl=some p) (hl:(dI n v es).length≤1000) (g1:s.heap.get? x=some ox) (gc:ox.cls= .ref Cl) (gn:notCls ox=true) (gd:ox.dict=some d) (g3:s.heap.Ns1 d m) (g4:AR V es m) (hv:VR V v u)
 (q:∀h' m',h'.Ns1 d m'->AR V (dI n v es) m'->Heap.SameBut d s.heap h'->Q () {s with heap:=h',toks:=s.toks+1+1}):wpAny Z.M A (PySem.setAttr (.ref x) (tx n) u) Q E s:=by
 refine hold λG_ fin_=>?_
 obtain⟨o,es',ep,g5,g6,_⟩:=id g3
 refine fin_ ?_
 have F:=ck Cl p hp
 have SF:=sk Cl p hp
 have X:=I.K kin
 have ia:InstAt s.heap x ox Cl (some o):=⟨g1,gc,gn,by rw[gd];exact g5⟩
 refine set_plain X ia SF.sa (pN (s:={s with toks:=s.toks+1}) (r:=none) X ia SF (nA F hn) λb=>?_)
 refine hold λG_ fin_=>?_
 obtain⟨cd,hc,hd⟩:=F.cd
 obtain⟨oc,odi,oda,osl⟩:=ox
 refine fin_ ?_
 dsimp only at gc gd
 subst gc;subst gd
 refine wpAny_bind (wpAny_pure (wpAny_bind (wpAny_bind (wpAny_loadPart g1 (wpAny_bind ((looks_clsIn X hc) _ _ _ _ (λO O e=>e) ?_))))))
 rw[hd]
 refine wpAny_pure (a:=some d) ?_
 show wpAny _ _ (Builtin.ObjectAttr.storeInDict d (.str (tx n) s.toks) (tx n) u) _ _ _
 refine wpAny_bind (wpAny_pure (wpAny_bind (wpAny_nsSet1 g3 λh' hn' hs'=>?_)))
 have aput:=g4.put (n:=n) hv
 refine hold λG_ fin_=>?_
 obtain⟨oD,esD,epD,hoD,hdD,hcD⟩:=hn'.count (nB aput)
 refine fin_ ?_
 rw[List.length_map]at hcD
 refine wpAny_bind (wpAny_lookBehind hoD (by rw[hdD];exact pastItsLine_dict (Nat.le_trans hcD (Nat.le_trans hl (by decide)))) ?_)
 exact wpAny_pure (q h' _ hn' aput hs')
theorem wO(ck:tV Z)(sk:zF Z)(kin:aX Z)(I:Inv Z C V J s){n:Nm}{v:SV}{u:Value}{Q:Unit->Shared->Prop}{Cl:Nat}{x:Addr}{vs:Array Value}{p}
 (hn:cE n=true) (hp:aE aO Cl=some p) (hl:(dI n v []).length≤1000) (g1:s.heap.get? x=some ⟨.ref Cl,none,.fields vs,#[]⟩) (hv:VR V v u)
 (q:∀h' m',h'.Ns1 s.heap.objs.size m'->AR V (dI n v []) m'->h'.get? x=some ⟨.ref Cl,some s.heap.objs.size,.fields vs,#[]⟩->(∀b o,b≠x->s.heap.get? b=some o->h'.get? b=some o)->Q () {s with heap:=h',toks:=s.toks+1+1}):wpAny Z.M A (PySem.setAttr (.ref x) (tx n) u) Q E s:=by
 have F:=ck Cl p hp
 have SF:=sk Cl p hp
 have X:=I.K kin
 have ia:InstAt s.heap x ⟨.ref Cl,none,.fields vs,#[]⟩ Cl none:=⟨g1,rfl,rfl,trivial⟩
 refine set_plain X ia SF.sa (pN (s:={s with toks:=s.toks+1}) (r:=none) X ia SF (nA F hn) λb=>?_)
 refine hold λG_ fin_=>?_
 obtain⟨cd,hc,hd⟩:=F.cd
 refine fin_ ?_
 have hlt:=Heap.lt_size g1
 refine wpAny_bind (wpAny_pure (wpAny_bind (wpAny_bind (wpAny_loadPart g1 (wpAny_bind ((looks_clsIn X hc) _ _ _ _ (λO O e=>e) ?_))))))
 rw[hd]
 have gx:Heap.get? (s.heap.push emptyDict) x=some ⟨.ref Cl,none,.fields vs,#[]⟩:=Heap.get?_push_of_some _ g1
 have gd:Heap.get? (s.heap.push emptyDict) s.heap.objs.size=some emptyDict:=Heap.get?_push_size _ rfl
 rw[if_neg (by decide)]
 dsimp only
 rw[if_neg (by simp[typeHasDict])]
 refine wpAny_bind (wpAny_alloc ?_)
 refine wpAny_bind (wpAny_update gx ?_)
 have gx':=Heap.get?_update_self (λo:Obj=>{o with dict:=some s.heap.objs.size}) gx rfl
 have gd':((s.heap.push emptyDict).update x λo:Obj=>{o with dict:=some s.heap.objs.size}).get? s.heap.objs.size=some emptyDict:=(Heap.get?_update_other _ _ (Nat.ne_of_lt hlt)).trans gd
 have g3:((s.heap.push emptyDict).update x λo:Obj=>{o with dict:=some s.heap.objs.size}).Ns1 s.heap.objs.size λO=>none:=⟨_,#[],0,gd',rfl,λO he=>by simp at he,List.Pairwise.nil,λO=>rfl⟩
 refine wpAny_pure (a:=some s.heap.objs.size) ?_
 show wpAny _ _ (Builtin.ObjectAttr.storeInDict s.heap.objs.size (.str (tx n) s.toks) (tx n) u) _ _ _
 refine wpAny_bind (wpAny_pure (wpAny_bind (wpAny_nsSet1 g3 λh' hn' hs'=>?_)))
 have aput:=(AR.nil V).put (n:=n) hv
 refine hold λG_ fin_=>?_
 obtain⟨oD,esD,epD,hoD,hdD,hcD⟩:=hn'.count (nB aput)
 refine fin_ ?_
 rw[List.length_map]at hcD
 refine wpAny_bind (wpAny_lookBehind hoD (by rw[hdD];exact pastItsLine_dict (Nat.le_trans hcD (Nat.le_trans hl (by decide)))) ?_)
 refine wpAny_pure (q h' _ hn' aput ((hs'.2 _ (Nat.ne_of_lt hlt)).trans gx') λb o hb e=>?_)
 refine(hs'.2 b (Nat.ne_of_lt (Heap.lt_size e))).trans ?_
 exact(Heap.get?_update_other _ _ (Ne.symm hb)).trans (Heap.get?_push_of_some _ e)
theorem eI(ck:tV Z)(sk:zF Z)(kin:aX Z)(I:Inv Z C V J s){o:SV}{n:Nm}{v:SV}{ou u:Value}{k:St->Bool}{Q:Unit->Shared->Prop}(h:Mine.setAttr J o n v k=true)(ho:VR V o ou)(hv:VR V v u)
 (q:∀J' V' s',k J'=true->V.Le V'->Inv Z C V' J' s'->Q () s'):wpAny Z.M A (PySem.setAttr ou (tx n) u) Q E s:=by
 induction ho with
 |ref i hi=>
  have h:Bool.rec (motive:=λO=>Bool) false (tA J i n v k (J.T.get i)) (cE n)=true:=h
  obtain⟨hn,h⟩:=aB h
  induction hob:J.T.get i with
  |none=>rw[hob]at h;exact ff h
  |some ob=>
   rw[hob]at h
   induction ob with
   |inst Cl es=>
    have h:lM n v es (λes'=>Bool.rec (motive:=λO=>Bool) false (Mine.store J i (.inst Cl es') k) (cP es'))=true:=h
    rw[gP]at h
    refine hold λG_ fin_=>?_
    obtain⟨hl,h⟩:=aB h
    have hl:=aS hl
    obtain⟨T',hT,h⟩:=a0 h
    obtain⟨t1,t2,⟨_,p,hp,hx⟩,d,m,g1,g2,g3,g4⟩:=I.T i _ hob
    refine fin_ ?_
    refine zG ck sk kin I hn hp hl g1 rfl rfl rfl g3 g4 hv λh' m' hn' ha' hs'=>?_
    have ne:V.ρ i≠d:=λe=>by rw[e,g2]at t2;cases t2
    exact q _ _ _ h (Vl.Le.refl V) (I.store (h':=h') (t:=s.toks+1+1) hob hT (λx e=>by rw[g1]at e;obtain rfl:=Option.some.inj e;exact nofun) (aZ hs' (let⟨o,_,_,ho,_⟩:=hn';⟨o,ho⟩))
     (λb x O b2 O e=>(hs'.2 b (λz=>b2 (by rw[z];exact g2))).trans e) ⟨⟨hl,p,hp,hx⟩,d,m',(hs'.2 _ ne).trans g1,g2,hn',ha'⟩)
   |exc Cl es=>
    have h:lM n v es (λes'=>Bool.rec (motive:=λO=>Bool) false (Mine.store J i (.exc Cl es') k) (cP es'))=true:=h
    rw[gP]at h
    obtain⟨hl,h⟩:=aB h
    have hl:=aS hl
    obtain⟨T',hT,h4⟩:=a0 h
    clear h
    refine hold λG_ fin_=>?_
    obtain⟨t1,t2,⟨_,p,hp,hx⟩,d,vs,g1,g2,g5,g6⟩:=I.T i _ hob
    refine fin_ ?_
    induction d with
    |none=>
     have he:es=[]:=g2
     subst he
     refine wO ck sk kin I hn hp hl g1 hv λh' m' hn' ha' hx' hk'=>?_
     obtain⟨n1,n2,n3⟩:=I.new_none (Nat.le_refl s.heap.objs.size)
     have hd':∃y,h'.get? s.heap.objs.size=some y:=let⟨o,_,_,ho,_⟩:=hn';⟨o,ho⟩
     have le:V.Le (V.note s.heap.objs.size (.dict i)):=⟨Nat.le_refl _,λO O=>rfl,λa w e=>(if_neg (λz:a=s.heap.objs.size=>by rw[z,n1]at e;exact fo e)).trans e,λO e=>e,λO O e=>e,λO e=>e,λO O e=>e,rfl⟩
     have ne:∀b w,V.own b=some w->w≠ .obj i->b≠V.ρ i:=λb w e e' z=>by rw[z,t2]at e;obtain rfl:=Option.some.inj e;exact e' rfl
     refine q ⟨T',J.n,J.L,J.sy⟩ _ _ h4 le (I.go le (λw=>w= .obj i) rfl (λb x e=>?_) (λa w e=>?_) (λb o hb e=>hk' b o (λz=>hb _ (z▸t2) rfl) e) I.n (λj x e=>?_) (.inl ⟨rfl,nofun⟩) (λO O=>nofun) (λO=>nofun) nofun (λj ks e=>.inl ⟨e,?_⟩) I.X (l6 t1))
     ·by_cases z:b=V.ρ i
      ·subst z;exact⟨_,hx'⟩
      ·exact⟨x,hk' b x z e⟩
     ·change(if a=s.heap.objs.size then some (Own.dict i)else V.own a)=some w at e
      by_cases z:a=s.heap.objs.size
      ·exact .inr ⟨Nat.le_of_eq z.symm,z▸hd'⟩
      ·rw[if_neg z]at e;exact .inl e
     ·rw[PT.get_set _ _ _ _ hT]at e
      by_cases z:j=i
      ·subst z
       rw[if_pos rfl]at e;obtain rfl:=Option.some.inj e
       refine .inr ⟨t1,le.own _ _ t2,⟨hl,p,hp,hx⟩,_,vs,hx',⟨m',if_pos rfl,hn',ha'.mono le⟩,g5,g6.imp id ?_⟩
       rintro ⟨T,oT,ts,f1,f2,f3,f4⟩
       exact⟨T,oT,ts,f1,le.own _ _ f2,hk' T oT (ne T _ f2 nofun) f3,f4⟩
      ·rw[if_neg z]at e
       exact .inl ⟨e,λq=>z (Own.obj.inj q),nofun,nofun⟩
     ·intro z
      cases z
      obtain⟨_,_,ws,ep,k3,_⟩:=I.tk i ks e
      rw[g1]at k3;cases k3
    |some d=>
    refine hold λG_ fin_=>?_
    obtain⟨m,g2,g3,g4⟩:=g2
    refine fin_ ?_
    refine zG ck sk kin I hn hp hl g1 rfl rfl rfl g3 g4 hv λh' m' hn' ha' hs'=>?_
    have ne:V.ρ i≠d:=λe=>by rw[e,g2]at t2;cases t2
    refine q _ _ _ h4 (Vl.Le.refl V) (I.store (h':=h') (t:=s.toks+1+1) hob hT (λx e=>by rw[g1]at e;obtain rfl:=Option.some.inj e;exact nofun) (aZ hs' (let⟨o,_,_,ho,_⟩:=hn';⟨o,ho⟩))
     (λb x O b2 O e=>(hs'.2 b (λz=>b2 (by rw[z];exact g2))).trans e) ⟨⟨hl,p,hp,hx⟩,d,vs,(hs'.2 _ ne).trans g1,⟨m',g2,hn',ha'⟩,g5,g6.imp id ?_⟩)
    rintro ⟨T,oT,ts,f1,f2,f3,f4⟩
    exact⟨T,oT,ts,f1,f2,(hs'.2 T (λz=>by rw[z,g2]at f2;cases f2)).trans f3,f4⟩
   |_=>exact ff h
 |_=>exact ff h
end
end
section
def E9(K:Frag)(C:Nat):Prop:=∃(nm q:Str) (N:Addr) (bs bm:List Value) (hdct:Bool) (sn:List Str) (sub:List Value) (col:Option Bool) (dd:Option Addr) (k0 k1 k2 k3 k5:Option Value),
 K.lookup C=some (excClassObj nm q C N bs bm hdct sn sub false col dd k0 k1 k2 k3 k5 "ValueError.__new__")/\(Value.ref C::bm).contains (.type "ValueError")=true/\
  (Value.ref C::bm).contains (.type "AttributeError")=false/\(Value.ref C::bm).contains (.type "NameError")=false/\(Value.ref C::bm).contains (.type "BaseException")=true
structure FA(K:Frag)(C:Nat):Prop where
 call:specialIn K (.ref C) "__call__" =some (some (.builtin "type.__call__"))
 obj:∃o cd,K.lookup C=some o/\o.data= .cls cd
 init:∀f,dE C fW=some f->findCls K (.ref C) (.type "type") (tx fW)=some (.val (.ref f))/\findIn K (.ref C) "__init__" =some (some (.ref f))/\typeIn K (.ref f)=some (.type "function")
 reads:readsIn K C (.type "type")=true
 typ:instIn K (.ref C) (.type "type")=some true
 exc:(∀p,aE aO C=some p->aP p.1 39=true)->E9 K C
 makes:(∀p,aE aO C=some p->aP p.1 39=false)->makesIn K C=true
 ga:specialIn K (.ref C) "__getattribute__" =some (some (.builtin "type.__getattribute__"))
structure PQ(K:Frag)(D:Nat):Prop where
 pg:plainGet K D "__class__" =true
 hd:hasDictIn K D=true
 cl:findIn K (.ref D) "__class__" =some (some (.builtin "object.__class__"))
 gt:specialIn K (.builtin "object.__class__") "__get__" =some (some (.builtin "getset_descriptor.__get__"))
 tk:takesIn K (.builtin "object.__class__")=some true
 mo:mroIn K D (.type "object")=some true
structure wP(Z:Gd)(a:Nat)(st:Stmt)(ds:List SV)(o:Obj)(fd:FuncData):Prop where
 get:Z.s0.heap.get? a=some o
 nt:a∉tabs
 data:o.data= .func fd
 body:fd.body= .stmts (fO st)
 scope:fd.scope=bP st
 sc:AO (bP st)=true
 glob:fd.globals=mainGlobals
 bui:fd.builtins=builtinsNs
 clo:fd.closure=[]
 code:∃c oc vs t,fd.code= .ref c/\Z.s0.heap.get? c=some oc/\c∉tabs/\oc.data= .fields vs/\vs[1]?=some (.str fd.qualname t)
 lam:cS a≠0->cS a∈tabs/\fd.code= .ref (fF (cS a))/\(fd.qualname++ ".<locals>.")++("<lambda>" :Str)=kA (cS a)
 par:∃ps kd de,fd.params=⟨[],ps,none,[],kd,none,de⟩/\dR st=ps.map (λx=>aA x.arg)/\(ps.map (·.arg)).Nodup/\ds.length≤ps.length
 defs:(fd.defaults= .none/\ds=[])∨∃T oT items n,fd.defaults= .ref T/\Z.s0.heap.get? T=some oT/\T∉tabs/\oT.data= .seq items n/\∀V,VRs V ds items.toList
structure aU(Z:Gd):Prop where
 glob:rF Z
 kref:dG Z
 kin:aX Z
 cls:tV Z
 set:zF Z
 ne:dA Z
 lam:∀P,P∈tabs->CodeHd Z.s0.heap (fF P) P/\fF P∉tabs
 mkf:∀C p,aE aO C=some p->FA (K Z.P) C
 fn:∀a p,aE iJ a=some p->∃o fd,wP Z a p.1 p.2 o fd
 lim:(∃mc,Z.s0.heap.Ns cStatics mc/\mc "sys.recursionlimit" =none)/\cStatics∉tabs
 xm:∀D p C q,aE aO D=some p->aP p.1 39=true->aE aO C=some q->aP q.1 39=true->exmOne (K Z.P) (.ref D) (.ref C)=some (aP p.1 C)
 isi:∀D p,aE aO D=some p->aP p.1 39=false->PQ (K Z.P) D
 isi1:∀C p,aE aO C=some p->∀T,T∈ ["NoneType","bool","int","str"]->kitOne (K Z.P) (.type T) (.ref C)=some false
 isi2:∀D p C q,aE aO D=some p->aP p.1 39=false->aE aO C=some q->kitOne (K Z.P) (.ref D) (.ref C)=some (aP p.1 C)
 isi3:∀D p,aE aO D=some p->aP p.1 39=false->∀T,T∈ ["bool","int","str"]->kitOne (K Z.P) (.ref D) (.type T)=some false
 bm:∃mg bm o,Z.s0.heap.Ns mainGlobals mg/\mg "__builtins__" =some (.ref bm)/\bm≠builtinsNs/\bm≠mainGlobals/\bm∉tabs/\Z.s0.heap.get? bm=some o/\o.cls= .type "module" /\o.dict=some builtinsNs/\o.data= .plain
section
variable{Z:Gd}(G:aU Z){n:Nat}{ih:Ih}(S:gS Z n ih){C:Cf}{V:Vl}{J:St}{s:Shared}{A:Around}{env:Env}{c:Cx}{k:KK}{kx:KX}{E:Value->Shared->Prop}
theorem FB(I:Inv Z C V J s){a:Const}{x:Nat}{p:Pos}{Q:Value->Shared->Prop}(h:qY a J k=true)(q:QV Z C V k Q):wpAny Z.M A (eval (.Constant a x p) env) Q E s:=by
 induction a with
 |none=>exact wpAny_Constant_none (q _ _ _ _ _ h (Vl.Le.refl V) I .none)
 |bool b=>exact wpAny_Constant_bool (q _ _ _ _ _ h (Vl.Le.refl V) I (.bool b))
 |int i=>exact wpAny_Constant_int (q _ _ _ _ _ h (Vl.Le.refl V) (I.tok _) (.int i _))
 |str t=>
  refine wpAny_Constant_str ?_
  have:=q (.str (aA t)) (.str (tx (aA t)) s.toks) J V _ h (Vl.Le.refl V) (I.tok (s.toks+1)) (.str _ _)
  rwa [aJ]at this
 |_=>exact ff h
include G in
theorem PR(I:Inv Z C V J s)(en:EnvOk C V c env){x:Str}{p:Pos}{Q:Value->Shared->Prop}(h:eN c (aA x) J (kv k)=true)(q:QV Z C V k Q):wpAny Z.M A (eval (.Name x p) env) Q E s:=by
 have:=eA (A:=A) (E:=E) (Q:=Q) G.glob I en h λv u h r=>q v u J V s h (Vl.Le.refl V) I r
 rw[aJ]at this
 refine wpAny_Name this ?_
 refine beq_eq_false_iff_ne.mpr λe=>?_
 obtain⟨names,cells⟩:=c
 obtain⟨kd,hkd,_⟩:=some?_eq (h:some? (aF names (aA x)) (s9 cells (aA x) J (kv k))=true)
 have kr:KindRel (aF names (aA x)) (env.kindOf x):=en.kinds (aA x)
 rw[hkd,show env.kindOf x=none by rw[e];exact en.dbg]at kr
 cases kr
theorem dH{M:Model}{o:Expr}{a:Str}{whole:Sem Value}{Q:Value->Shared->Prop}(h:env.kindOf "super" =none)(w:wpAny M A whole Q E s):wpAny M A (attributeBase o a env whole) Q E s:=by
 have e:(env.kindOf "super" !=some .globalImplicit)=true:=by rw[h];rfl
 induction o using PySem.Expr.casesOn with
 |Call f as ks p=>induction f using PySem.Expr.casesOn with
  |Name x p'=>induction as using List.casesOn with
   |cons _ _=>exact w
   |nil=>induction ks using List.casesOn with
    |cons _ _=>exact w
    |nil=>
     refine wpAny_ite ?_
     rw[if_pos (by rw[e,Bool.or_true,Bool.true_or])]
     exact w
  |_=>exact w
 |_=>exact w
include G S in
theorem PS(I:Inv Z C V J s)(a:AOk C A n)(en:EnvOk C V c env){o:Expr}{x:Str}{p:Pos}(hh:A.handled=none∨aV o){Q:Value->Shared->Prop}(h:EM ih o x c J k kx=true)(q:QV Z C V k Q)(xx:QX Z C V kx E):
 wpAny Z.M A (eval (.Attribute o x p) env) Q E s:=by
 rw[arm_eval_Attribute]
 refine wpAny_bind (dH en.sup (S.ev h I a en hh (λv u J' V' s' h' le I' r=>?_) xx))
 obtain⟨w,hw,h2⟩:=some?_eq (onVal_case h')
 refine wpAny_bind (wpAny_standAt ?_)
 induction r with
 |ref i hi=>
  have hw:Bool.rec (motive:=λO=>Option SV) none (pB (J'.T.get i) (aA x)) (cE (aA x))=some w:=hw
  induction ha:cE (aA x)with
  |false=>rw[ha]at hw;exact fo hw
  |true=>
   rw[ha]at hw
   refine wpAny_bind (wpAny_holding ?_)
   have:=jG (A:=A) (E:=E) (b:=true) (Q:=λr s₁=>wpAny Z.M A (letTemporaryGo o (.ref (V'.ρ i)) r >>= λO=>pure r) Q E s₁) G.cls G.kin I' ha hw λu t r=>wpAny_bind (wpAny_letTemporaryGo (wpAny_pure (q _ _ _ _ _ h2 le (I'.tok t) r)))
   rwa [aJ]at this
 |_=>exact fo hw
include S in
theorem ZS(I:Inv Z C V J s)(a:AOk C A n)(en:EnvOk C V c env){x:Expr}{p:Pos}(hh:A.handled=none∨aV x){Q:Value->Shared->Prop}
 (h:PF ih x c J (λb J=>k (.val (.bool (!b))) J) kx=true) (q:QV Z C V k Q) (xx:QX Z C V kx E):wpAny Z.M A (eval (.UnaryOp .Not x p) env) Q E s:=by
 refine wpAny_UnaryOp (S.ev h I a en hh (λv u J' V' s' h' le I' r=>?_) xx)
 obtain⟨b,hb,h'⟩:=some?_eq (onVal_case h')
 exact PySem.not_value (dJ hb r (q _ _ _ _ _ h' le I' (.bool _)))
include S in
theorem ZT(I:Inv Z C V J s)(a:AOk C A n)(en:EnvOk C V c env){x:Expr}{p:Pos}(hh:A.handled=none∨aV x){Q:Bool->Shared->Prop}{w:Sem Value}
 (h:PF ih x c J (λb J=>k (.val (.bool (!b))) J) kx=true) (q:QT Z C V k Q) (xx:QX Z C V kx E):wpAny Z.M A (PySem.isTrue (.UnaryOp .Not x p) env w) Q E s:=by
 refine wpAny_isTrue_Not (S.tr h I a en hh (λv J' V' s' h' le I'=>?_) xx)
 obtain⟨b,hb,h'⟩:=some?_eq (onVal_case h')
 obtain⟨b',e,hq⟩:=q _ J' V' s' h' le I'
 obtain rfl:=Option.some.inj e
 exact⟨b,hb,hq⟩
include S in
theorem ZU(I:Inv Z C V J s)(a:AOk C A n)(en:EnvOk C V c env){x:Expr}{p:Pos}(hh:A.handled=none∨aV x){Q:Value->Shared->Prop}
 (h:aIt ih .USub x c J k kx=true) (q:QV Z C V k Q) (xx:QX Z C V kx E):wpAny Z.M A (eval (.UnaryOp .USub x p) env) Q E s:=by
 refine wpAny_UnaryOp (S.ev h I a en hh (λv u J' V' s' h' le I' r=>?_) xx)
 induction r with
 |int i t=>
  have h':=bD (i:=Int.neg i) (k:=λz=>k (.val (.int z)) J') (onVal_case h')
  exact P.neg_int (q _ _ _ _ _ h' le (I'.tok _) (.int _ _))
 |_=>exact ff h'
include S in
theorem aJm(I:Inv Z C V J s)(a:AOk C A n)(en:EnvOk C V c env){t x y:Expr}{p:Pos}(hh:A.handled=none){Q:Value->Shared->Prop}
 (h:ZF ih t x y c J k kx=true) (q:QV Z C V k Q) (xx:QX Z C V kx E):wpAny Z.M A (eval (.IfExp t x y p) env) Q E s:=by
 rw[arm_eval_IfExp]
 refine wpAny_bind (S.tr h I a en (.inl hh) (λv J' V' s' h' le I'=>?_) xx)
 obtain⟨b,hb,h'⟩:=some?_eq (onVal_case h')
 refine⟨b,hb,?_⟩
 induction b with
 |true=>exact S.ev h' I' a (en.mono le) (.inl hh) (q.mono le) (xx.mono le)
 |false=>exact S.ev h' I' a (en.mono le) (.inl hh) (q.mono le) (xx.mono le)
include S in
theorem aJn(I:Inv Z C V J s)(a:AOk C A n)(en:EnvOk C V c env){t x y:Expr}{p:Pos}(hh:A.handled=none){Q:Bool->Shared->Prop}{w:Sem Value}
 (h:ZF ih t x y c J k kx=true) (q:QT Z C V k Q) (xx:QX Z C V kx E):wpAny Z.M A (PySem.isTrue (.IfExp t x y p) env w) Q E s:=by
 show wpAny Z.M A (do if<-PySem.isTrue t env (eval t env)then PySem.isTrue x env (eval x env)else PySem.isTrue y env (eval y env)) Q E s
 refine wpAny_bind (S.tr h I a en (.inl hh) (λv J' V' s' h' le I'=>?_) xx)
 obtain⟨b,hb,h'⟩:=some?_eq (onVal_case h')
 refine⟨b,hb,?_⟩
 induction b with
 |true=>exact S.tr h' I' a (en.mono le) (.inl hh) (λv J V' s a b=>q v J V' s a (le.trans b)) (xx.mono le)
 |false=>exact S.tr h' I' a (en.mono le) (.inl hh) (λv J V' s a b=>q v J V' s a (le.trans b)) (xx.mono le)
theorem wQ{l:Expr}{ops:List CmpOp}{rs:List Expr}(h:tF ih l ops rs c J k kx=true):∃op r,ops=[op]/\rs=[r]/\mQ ih l r c J (λa b J=>okB (cmp op a b J) J k) kx=true:=by
 induction ops using List.casesOn with
 |nil=>exact ff h
 |cons op ops=>induction ops using List.casesOn with
  |cons _ _=>exact ff h
  |nil=>induction rs using List.casesOn with
   |nil=>exact ff h
   |cons r rs=>induction rs using List.casesOn with
    |cons _ _=>exact ff h
    |nil=>exact⟨op,r,rfl,rfl,h⟩
include G S in
theorem ZV(I:Inv Z C V J s)(a:AOk C A n)(en:EnvOk C V c env){l:Expr}{ops:List CmpOp}{rs:List Expr}{p:Pos}(hh:A.handled=none∨(aV l/\∀e,e∈rs->aV e)){Q:Value->Shared->Prop}
 (h:tF ih l ops rs c J k kx=true) (q:QV Z C V k Q) (xx:QX Z C V kx E):wpAny Z.M A (eval (.Compare l ops rs p) env) Q E s:=by
 obtain⟨op,r,rfl,rfl,h⟩:=wQ h
 ·skip
  by_cases hm:behindInMarks op r=true
  ·induction r using PySem.Expr.casesOn with
   |Set e j p=>
    rw[eval_Compare1]
    refine wpAny_bind (S.ev h I a en (hh.imp id (·.1)) (λv u J' V' s' h' le I' r1=>?_) xx)
    have h':=onVal_case h'
    rw[S.noset]at h';exact ff h'
   |_=>exact ff hm
  rw[Bool.not_eq_true]at hm
  refine wpAny_Compare1 (S.ev h I a en (hh.imp id (·.1)) (λv u J' V' s' h' le I' r1=>?_) xx) hm
  refine S.ev (onVal_case h') I' a (en.mono le) (hh.imp id λg=>g.2 _ (.head _)) (λv' u' J'' V'' s'' h'' le' I'' r2=>?_) (xx.mono le)
  obtain⟨b,hb,h''⟩:=some?_eq (onVal_case h'')
  exact pM G.ne G.kref I'' (by have:=a.units;unfold cLine;exact bnd this rfl) hb (r1.mono le') r2 λt=>q _ _ _ _ _ h'' (le.trans le') (I''.tok t) (.bool _)
end
end
section
section
variable{Z:Gd}(G:aU Z){n:Nat}{ih:Ih}(S:gS Z n ih){C:Cf}{V:Vl}{J:St}{s:Shared}{A:Around}{env:Env}{c:Cx}{k:KK}{kx:KX}{E:Value->Shared->Prop}
include G S in
set_option tactic.hygienic true in
theorem ZW(I:Inv Z C V J s)(a:AOk C A n)(en:EnvOk C V c env)(hh:A.handled=none∨(aV l/\∀e,e∈rs->aV e))(h:tF ih l ops rs c J k kx=true)(q:QT Z C V k Q)(xx:QX Z C V kx E):wpAny Z.M A (PySem.isTrue (.Compare l ops rs p) env w) Q E s:=by
 unfold tF at h
 split at h
 ·rename_i op r
  rw[isTrue_Compare1]
  refine wpAny_bind (S.ev h I a en (hh.imp id (·.1)) (λv u J' V' s' h' le I' r1=>?_) xx)
  by_cases hm:behindInMarks op r=true
  ·induction r using PySem.Expr.casesOn with
   |Set e j p=>
    have h':=onVal_case h'
    rw[S.noset]at h';exact ff h'
   |_=>exact ff hm
  rw[Bool.not_eq_true]at hm
  rw[markedBehindIn_of_false hm]
  refine wpAny_bind (wpAny_holding (S.ev (onVal_case h') I' a (en.mono le) (hh.imp id λg=>g.2 _ (.head _)) (λv' u' J'' V'' s'' h'' le' I'' r2=>?_) (xx.mono le)))
  obtain⟨b,hb,h''⟩:=some?_eq (onVal_case h'')
  refine wpAny_bind (wpAny_standAt (wpAny_bind (wpAny_operating ?_)))
  refine pM G.ne G.kref I'' (by have:=a.units;unfold cLine;exact bnd this rfl) hb (r1.mono le') r2 λt=>?_
  refine wpAny_holding (wpAny_truthy_bool ?_)
  obtain⟨b',e,hq⟩:=q _ _ _ {s'' with toks:=t} h'' (le.trans le') (I''.tok t)
  obtain rfl:=Option.some.inj e;exact hq
 ·exact ff h
include S in
theorem ZX(I:Inv Z C V J s)(a:AOk C A n)(en:EnvOk C V c env)(hh:A.handled=none∨(aV l/\aV r))(h:mQ ih l r c J (λa b J=>yS op a b J k) kx=true)(q:QV Z C V k Q)(xx:QX Z C V kx E):wpAny Z.M A (eval (.BinOp l op r p) env) Q E s:=by
 refine wpAny_BinOp (S.ev h I a en (hh.imp id (·.1)) (λv u J' V' s' h' le I' r1=>?_) xx)
 refine S.ev (onVal_case h') I' a (en.mono le) (hh.imp id (·.2)) (λv' u' J'' V'' s'' h'' le' I'' r2=>?_) (xx.mono le)
 exact tU I'' (onVal_case h'') (r1.mono le') r2 (q.mono (le.trans le'))
include S in
theorem PU(I:Inv Z C V J s)(a:AOk C A n)(en:EnvOk C V c env)(hh:A.handled=none∨∀e,e∈es->aV e)(h:CS ih c kx es J (qZ k)=true)(q:QV Z C V k Q)(xx:QX Z C V kx E):wpAny Z.M A (eval (.List es p) env) Q E s:=by
 rw[arm_eval_List]
 refine wpAny_bind (wpAny_standAt (wpAny_bind (kC S a es h I en hh (λvs us J' V' s' h' le I' r O=>?_) xx)))
 exact oP h' I' r λv u J'' V'' s'' h'' le' I'' r'=>q _ _ _ _ _ h'' (le.trans le') I'' r'
include S in
theorem FC(I:Inv Z C V J s)(a:AOk C A n)(en:EnvOk C V c env)(hh:A.handled=none∨∀e,e∈es->aV e)(h:CS ih c kx es J (y6 k)=true)(q:QV Z C V k Q)(xx:QX Z C V kx E):wpAny Z.M A (eval (.Tuple es j p) env) Q E s:=by
 rw[arm_eval_Tuple]
 refine wpAny_bind (wpAny_standAt (wpAny_bind (kC S a es h I en hh (λvs us J' V' s' h' le I' r O=>?_) xx)))
 exact mW h' I' r λv u J'' V'' s'' h'' le' I'' r'=>q _ _ _ _ _ h'' (le.trans le') I'' r'
theorem f8(I:Inv Z C V J s)(en:EnvOk C V c env){x:Str}{p:Pos}{v:SV}{u:Value}{k:St->Bool}{Q:Unit->Shared->Prop}(hv:VR V v u)(h:dP c (aA x) v J k=true)
 (q:∀J' s',k J'=true->Inv Z C V J' s'->Q () s'):wpAny Z.M A (assign (.Name x p) env u) Q E s:=by
 show wpAny Z.M A (do standAt p;bindName env x u) Q E s
 refine wpAny_bind (wpAny_standAt (wpAny_bindName ?_))
 have:=fG (A:=A) (E:=E) (Q:=Q) I en hv h q
 rwa [aJ]at this
end
end
section
open PySem.SeqAt
noncomputable section
noncomputable def AZ(n:Nm)(v:SV):List (SV×SV)->List (SV×SV)
 | []=>[(.str n,v)]
 |p::l=>if pA p.1 n=true then(p.1,v)::l else p::AZ n v l
theorem FD(n:Nm)(v:SV):∀(l:List (SV×SV)) (k:List (SV×SV)->Bool),yQ n v l k=k (AZ n v l):=by
 intro l
 induction l with
 |nil=>
  intro k
  exact rfl
 |cons p l rec_=>
  intro k
  show Bool.rec (motive:=λO=>Bool) (yQ n v l λl'=>k (p::l')) (k ((p.1,v)::l)) (pA p.1 n)=_
  induction h:pA p.1 n with
  |true=>simp[AZ,h]
  |false=>simp[AZ,h,rec_]
theorem k8{kvs:List (Str×Value)}{y k:Str}{w v:Value}(hn:((((y,w)::kvs)).map (·.1)).Nodup):stored ((y,w)::kvs) k v=if y=k then(y,v)::kvs else(y,w)::stored kvs k v:=by
 by_cases h:y=k
 ·subst h
  have hy:y∉kvs.map (·.1):=(List.nodup_cons.mp hn).1
  simp[stored,map_store_of_not_mem kvs y v hy]
 ·by_cases ha:kvs.any (λkv=>kv.1=k)=true
  ·simp[stored,h,ha]
  ·rw[Bool.not_eq_true]at ha
   simp only[stored,List.any_cons,decide_eq_false h,Bool.false_or,ha,if_neg h,Bool.false_eq_true,if_false,List.cons_append]
theorem DRs.put{V:Vl}{n:Nm}{v:SV}{u:Value}(hv:VR V v u){es:List (SV×SV)}{kvs:List (Str×Value)}(h:DRs V es kvs):(kvs.map (·.1)).Nodup->DRs V (AZ n v es) (stored kvs (tx n) u):=by
 refine h.ind (λO=>⟨⟨⟨n,rfl,rfl⟩,hv⟩,trivial⟩) λp es q kvs r hr ih hn=>?_
 obtain⟨k,x⟩:=p
 obtain⟨y,w⟩:=q
 obtain⟨⟨m,e1,e2⟩,vr⟩:=r
 have e1:k= .str m:=e1
 have e2:y=tx m:=e2
 subst e1;subst e2
 rw[k8 hn]
 have ek:pA (.str m) n=cC m n:=rfl
 unfold AZ
 rw[ek,cV]
 by_cases q:m=n
 ·subst q
  rw[if_pos rfl,if_pos (decide_eq_true rfl)]
  exact⟨⟨⟨m,rfl,rfl⟩,hv⟩,hr⟩
 ·rw[if_neg (λe=>q (fD e)),if_neg (λe=>q (of_decide_eq_true e))]
  exact⟨⟨⟨m,rfl,rfl⟩,vr⟩,ih (List.nodup_cons.mp hn).2⟩
theorem VRs.at(h:VRs V xs us):∀(m:Nat) (x:SV),xs[m]?=some x->∃u,us[m]?=some u/\VR V x u:=
 h.ind (λO O h=>absurd h (λh=>fo h)) λa l b us r O ih m x h=>by
  induction m using Nat.casesOn with
  |zero=>obtain rfl:=Option.some.inj h;exact⟨b,rfl,r⟩
  |succ m=>exact ih m x h
theorem FE(hv:VR V v u)(h:VRs V xs us):∀(xs':List SV) (m:Nat),PD xs m v=some xs'->m<us.length/\xs'.length=xs.length/\VRs V xs' (us.set m u):=
 h.ind (λO O h=>fo h) λa l b us r rr ih xs' m h=>by
  induction m using Nat.casesOn with
  |zero=>
   have h:some (v::l)=some xs':=h
   obtain rfl:=Option.some.inj h;exact⟨Nat.succ_pos _,rfl,hv,rr⟩
  |succ m=>
   have h:(PD l m v).map (a::·)=some xs':=h
   obtain⟨l',hl,rfl⟩:=Option.map_eq_some_iff.mp h
   obtain⟨i1,i2,i3⟩:=ih _ _ hl
   exact⟨Nat.succ_lt_succ i1,congrArg Nat.succ i2,r,i3⟩
theorem eR(h:bI xs m=some v)(r:VRs V xs us):∃u,us[m]?=some u/\VR V v u:=r.at m v ((lZ xs m).symm.trans h)
theorem gT(h:bI xs m=none)(r:VRs V xs us):us.length≤m:=r.length▸List.getElem?_eq_none_iff.mp ((lZ xs m).symm.trans h)
theorem rL(h:idx n z=some m):(0≤z/\z=(m:Int))∨(z<0/\z+n=(m:Int)):=by
 induction z with
 |ofNat i=>obtain rfl:=Option.some.inj h;exact .inl ⟨Int.natCast_nonneg _,rfl⟩
 |negSucc i=>
  have h:(match Nat.ble (i+1) n with|true=>some (n-(i+1))|false=>none)=some m:=h
  induction hb:Nat.ble (i+1) n with
  |false=>rw[hb]at h;exact fo h
  |true=>
   rw[hb]at h
   have:=Nat.le_of_ble_eq_true hb
   obtain rfl:=Option.some.inj h
   exact .inr ⟨Int.negSucc_lt_zero i,(Int.add_comm _ _).trans (Int.ofNat_sub this).symm⟩
theorem eS(ho:s.heap.get? l=some ⟨.type "list",none,.seq items n,#[]⟩)(h0:0≤k)(hfit:k<2^63)(hn:k<items.size)(hQ:Q () {s with heap:=s.heap.update l (Obj.mapSeq (·.setIfInBounds k.toNat v))}):
 wpAny (model prog w) A (PySem.setItem (.ref l) (.int k t) v) Q E s:=by
 have hl:s.heap.IsList l items:=⟨_,ho,rfl,n,rfl⟩
 unfold PySem.setItem
 try with_reducible refine wpAny_holding ?_
 first|refine wpAny_bind (wpAny_pure ?_)|skip
 refine wpAny_bind (wpAny_sequenceKey hl.typeIs (by decide) ?_)
 refine wpAny_bind (wpAny_callSpecial?_slot (name:=Str.ofString "__setitem__") hl.typeIs slot_list_setitem
  (wpAny_call_entry slot_list_setitem hl.typeIs entry_list_setitem ?_ (args_list_setitem _ _ _)))
 show wpAny _ _ (Builtin.List.listSubscript? (.int k t) >>= _) _ _ s
 refine wpAny_bind (wpAny_listSubscript_int (fitsIndex_of h0 hfit) ?_)
 clear hfit
 obtain⟨j,rfl⟩:=Int.eq_ofNat_of_zero_le h0
 have hj:j<items.size:=by exact Int.ofNat_lt.mp hn
 have hx':items[j]?=some items[j]:=Array.getElem?_eq_getElem hj
 show wpAny _ _ ((seqItemAt l j >>= λr=>pure (r.map (j,·))) >>= _) _ _ s
 refine wpAny_bind (wpAny_bind (wpAny_seqItemAt ho rfl (wpAny_pure ?_)))
 rw[hx']
 show wpAny _ _ (setSeqItemAt l j v >>= _) _ _ s
 refine wpAny_bind (wpAny_setSeqItemAt ho rfl ?_)
 first
  |exact wpAny_bind (wpAny_pure (wpAny_pure ⟨.none,rfl,wpAny_pure hQ⟩))
  |exact wpAny_pure ⟨.none,rfl,wpAny_pure hQ⟩
end
end
section
set_option backward.match.sparseCases false
open PySem.SeqAt
noncomputable def jH(prog:Program)(w:World):KeyKind prog w bT where
 is:=cK
 hash:=tO w
 inj:=λv a b ha hb=>by
  rcases aN ha with⟨x,t,rfl,rfl⟩|⟨x,t,rfl,rfl⟩<;>rcases aN hb with⟨y,t',rfl,e⟩|⟨y,t',rfl,e⟩<;>cases e<;>rfl
 byValue:=λk v h=>by rcases aN h with⟨x,t,rfl,rfl⟩|⟨x,t,rfl,rfl⟩<;>rfl
 pyHash:=λhv h=>by
  rcases aN hv with⟨x,t,rfl,rfl⟩|⟨x,t,rfl,rfl⟩
  ·exact wpAny_pyHash_str h
  ·exact wpAny_pyHash_int h
 eqBool:=λ{A E s a b u v Q} hu hv h=>by
  rcases aN hu with⟨x,t,rfl,rfl⟩|⟨x,t,rfl,rfl⟩<;>rcases aN hv with⟨y,t',rfl,rfl⟩|⟨y,t',rfl,rfl⟩
  ·exact wpAny_eqBool_str (by simpa using h)
  ·exact EqAt.str_int x t y t' prog w E Q (by simpa using h)
  ·exact EqAt.int_str x t y t' prog w E Q (by simpa using h)
  ·exact EqAt.int_int x t y t' prog w E Q (by rw[show(x==y)=decide ((Sum.inr x:bT)=Sum.inr y)from by by_cases q:x=y<;>simp[q]];exact h)
 «strs»:=λk x t v h=>by
  rcases aN h with⟨y,t',rfl,e⟩|⟨y,t',rfl,e⟩
  ·cases e;cases v<;>rfl
  ·cases e
@[elab_as_elim] theorem AtomsAre.ind{P:List bT->List Value->Prop}{ks:List bT}{us:List Value}(h:AtomsAre ks us)(n:P [] [])(c:∀k ks u us,cK k u=true->AtomsAre ks us->P ks us->P (k::ks) (u::us)):P ks us:=by
  induction ks generalizing us with
  |nil=>induction us using List.casesOn with
   |nil=>exact n
   |cons _ _=>exact h.elim
  |cons a s ih=>induction us using List.casesOn with
   |nil=>exact h.elim
   |cons _ _=>exact c _ _ _ _ h.1 h.2 (ih h.2)
theorem tX{prog:Program}{w:World}{ks:List bT}{us:List Value}(h:AtomsAre ks us):ItemsAre (jH prog w) ks us:=h.ind .nil λO O O O r O ih=>.cons r ih
theorem TupAt.key(x:TupAt h a ks)(prog:Program)(w:World):IsTupleKey (jH prog w) h ks a:=by
 refine hold λG_ fin_=>?_
 obtain⟨vs,ep,h1,h2⟩:=x
 refine fin_ ?_
 exact⟨_,vs,ep,h1,rfl,rfl,tX h2⟩
theorem wR(ha:cK a v=true)(hb:cK b v=true):a=b:=by
 rcases aN ha with⟨x,t,rfl,rfl⟩|⟨x,t,rfl,rfl⟩<;>rcases aN hb with⟨y,t',rfl,e⟩|⟨y,t',rfl,e⟩<;>cases e<;>rfl
theorem AtomsAre.nil_inv(h:AtomsAre ks []):ks=[]:=by induction ks using List.casesOn with|nil=>rfl|cons _ _=>exact h.elim
theorem AtomsAre.cons_inv(h:AtomsAre ks (u::us)):∃k ks',ks=k::ks'/\cK k u=true/\AtomsAre ks' us:=by
 induction ks using List.casesOn with|nil=>exact h.elim|cons k ks=>exact⟨k,ks,rfl,h⟩
theorem AtomsAre.inj{ks:List bT}{us:List Value}(h:AtomsAre ks us):∀ks',AtomsAre ks' us->ks=ks':=
 h.ind (λO h=>h.nil_inv.symm) λk ks u us r O ih ks' h=>by
  obtain⟨k',ks',rfl,r',h'⟩:=h.cons_inv
  rw[wR r r',ih _ h']
theorem FF(hv:VRs V xs us):iW xs=true->∃ks,AtomsAre ks us:=by
 refine hv.ind (λO=>⟨[],trivial⟩) λx xs u us r O ih h=>?_
 obtain⟨hx,h⟩:=aB (b:=SO x) (x:=iW xs) h
 obtain⟨ks,hk⟩:=ih h
 induction r with
 |int i t=>exact⟨.inr i::ks,by simp[cK,Value.isInt],hk⟩
 |lin y i t hy=>exact⟨.inr (y+i)::ks,by simp[cK,Value.isInt],hk⟩
 |str n t=>exact⟨.inl (tx n)::ks,by simp[cK,Value.isStrOf],hk⟩
 |_=>exact ff hx
theorem rM(I:Inv Z C V J s)(h:s7 (J.T.get j)=true):∃ks,TupAt s.heap (V.ρ j) ks/\(∀ks',V.tk j=some ks'->ks'=ks)/\j<V.n/\V.own (V.ρ j)=some (.obj j):=by
 induction ho:J.T.get j with
 |none=>rw[ho]at h;exact ff h
 |some o=>
  rw[ho]at h
  induction o with
  |tup xs=>
   obtain⟨t1,t2,_,vs,ep,h1,h2⟩:=I.T j _ ho
   obtain⟨ks,hk⟩:=FF h2 (h:iW xs=true)
   refine⟨ks,⟨vs,ep,h1,hk⟩,λks' e=>?_,t1,t2⟩
   obtain⟨_,_,vs',ep',h1',hk'⟩:=I.tk j ks' e
   obtain⟨_,rfl,_⟩:=jB h1 h1'
   exact hk'.inj _ hk
  |_=>exact ff h
noncomputable def zH(a:SV):Bool:=match a with|.any=>false|.scr=>false|.one _=>false|_=>true
theorem VR.str_inv(h:VR V a u)(l:zH a=true)(e:u= .str x t):∃n,a= .str n/\x=tx n:=by
 induction h with
 |str n _=>exact⟨n,rfl,(Value.str.inj e).1.symm⟩
 |any _ _=>exact ff l
 |scr _=>exact ff l
 |one l _ _ _=>exact ff l
 |bi k _ hk=>subst e;exact(mV hk).elim nofun nofun
 |_=>exact vff e rfl
theorem VR.int_inv(h:VR V a u)(l:zH a=true)(e:u= .int x t):a= .int x∨(∃z c,a= .lin c/\V.X=some z/\x=z+c)∨∃k,a= .opq k/\V.Y k=some x:=by
 induction h with
 |int i _=>exact .inl (congrArg _ (Value.int.inj e).1)
 |lin z c _ hz=>exact .inr (.inl ⟨z,c,rfl,hz,(Value.int.inj e).1.symm⟩)
 |opq k z _ hz=>exact .inr (.inr ⟨k,rfl,(Value.int.inj e).1▸hz⟩)
 |any _ _=>exact ff l
 |scr _=>exact ff l
 |one l _ _ _=>exact ff l
 |bi k _ hk=>subst e;exact(mV hk).elim nofun nofun
 |_=>exact vff e rfl
theorem A0(h:c8 J (m+1) a b=some r):zH a=true/\zH b=true:=by
 refine⟨?_,?_⟩
 ·induction a with
  |any=>exact fo h
  |scr=>exact fo h
  |one _=>exact fo h
  |_=>rfl
 ·induction b with
  |any=>exact fo (a:=r) (by rw[<-h];induction a<;>rfl)
  |scr=>exact fo (a:=r) (by rw[<-h];induction a<;>rfl)
  |one _=>exact fo (a:=r) (by rw[<-h];induction a<;>rfl)
  |_=>rfl
theorem PV:false=decide ((Sum.inl x:bT)=Sum.inr i):=(decide_eq_false nofun).symm
theorem PW:false=decide ((Sum.inr i:bT)=Sum.inl x):=(decide_eq_false nofun).symm
theorem PX:decide ((Sum.inl x:bT)=Sum.inl y)=(x==y):=by by_cases q:x=y<;>simp[q]
theorem PY:decide ((Sum.inr x:bT)=Sum.inr y)=decide (x=y):=by by_cases q:x=y<;>simp[q]
theorem A1{V:Vl}{J:St}{m:Nat}{a b:SV}{r:Bool}{x y:Int}(hX:∀x,V.X=some x->0≤x)(h:c8 J (m+1) a b=some r)(h1:a= .int x∨(∃z c,a= .lin c/\V.X=some z/\x=z+c)∨∃k,a= .opq k/\V.Y k=some x)
 (h2:b= .int y∨(∃z c,b= .lin c/\V.X=some z/\y=z+c)∨∃k,b= .opq k/\V.Y k=some y):r=decide (x=y):=by
 rcases h1 with rfl|⟨z,c,rfl,hz,rfl⟩|⟨k,rfl,hk⟩
 ·rcases h2 with rfl|⟨z',c',rfl,hz',rfl⟩|⟨k',rfl,hk'⟩
  ·have h:some (cQ x y)=some r:=h
   rw[dB]at h;exact(Option.some.inj h).symm
  ·obtain⟨rfl,hl⟩:=fH (x:=x) (c:=c') h
   exact(decide_eq_false (by have:=hX _ hz';exact ZI hl this)).symm
  ·exact fo h
 ·rcases h2 with rfl|⟨z',c',rfl,hz',rfl⟩|⟨k',rfl,hk'⟩
  ·obtain⟨rfl,hl⟩:=fH (x:=y) (c:=c) h
   exact(decide_eq_false (by have:=hX _ hz;exact aIC hl this)).symm
  ·have h:some (cQ c c')=some r:=h
   obtain rfl:z=z':=Option.some.inj (hz.symm.trans hz')
   rw[dB]at h;rw[<-Option.some.inj h]
   by_cases q:c=c'
   ·rw[decide_eq_true q,decide_eq_true (congrArg _ q)]
   ·rw[decide_eq_false q,decide_eq_false λe=>q (Int.add_left_cancel e)]
  ·exact fo h
 ·rcases h2 with rfl|⟨z',c',rfl,hz',rfl⟩|⟨k',rfl,hk'⟩
  ·exact fo h
  ·exact fo h
  ·obtain⟨rfl,e⟩:=mX (x:=k) (b:=.opq k') h
   obtain rfl:=SV.opq.inj e
   exact(decide_eq_true (Option.some.inj (hk.symm.trans hk'))).symm
theorem wS(hX:∀x,V.X=some x->0≤x)(h:c8 J (m+1) a b=some r)(h1:VR V a u)(h2:VR V b w)(a1:cK k u=true)(a2:cK k' w=true):r=decide (k=k'):=by
 obtain⟨l1,l2⟩:=A0 h
 rcases aN a1 with⟨x,t,rfl,e1⟩|⟨x,t,rfl,e1⟩
 ·obtain⟨n,rfl,rfl⟩:=h1.str_inv l1 e1
  rcases aN a2 with⟨y,t',rfl,e2⟩|⟨y,t',rfl,e2⟩
  ·obtain⟨n',rfl,rfl⟩:=h2.str_inv l2 e2
   have h:some (cC n n')=some r:=h
   rw[PX,wM];exact(Option.some.inj h).symm
  ·rw[<-PV]
   rcases h2.int_inv l2 e2 with rfl|⟨z,c,rfl,_⟩|⟨k,rfl,_⟩
   ·exact(Option.some.inj h).symm
   ·exact(Option.some.inj h).symm
   ·exact fo h
 ·rcases aN a2 with⟨y,t',rfl,e2⟩|⟨y,t',rfl,e2⟩
  ·obtain⟨n',rfl,rfl⟩:=h2.str_inv l2 e2
   rw[<-PW]
   rcases h1.int_inv l1 e1 with rfl|⟨z,c,rfl,_⟩|⟨k,rfl,_⟩
   ·exact(Option.some.inj h).symm
   ·exact(Option.some.inj h).symm
   ·exact fo h
  ·rw[PY];exact A1 hX h (h1.int_inv l1 e1) (h2.int_inv l2 e2)
theorem rN(hX:∀x,V.X=some x->0≤x):∀{xs ys:List SV} {r:Bool} {us ws:List Value} {ks ks':List bT},eG (c8 J (m+1)) xs ys=some r->VRs V xs us->VRs V ys ws->AtomsAre ks us->AtomsAre ks' ws->r=decide (ks=ks'):=by
 intro xs
 induction xs with
 |nil=>
  intro ys r us ws ks ks' h v1 v2 a1 a2
  obtain rfl:=v1.nil_inv
  obtain rfl:=a1.nil_inv
  induction ys using List.casesOn with
  |nil=>obtain rfl:=v2.nil_inv;obtain rfl:=a2.nil_inv;obtain rfl:=Option.some.inj h;rfl
  |cons y ys=>
   obtain⟨w,ws,rfl,_,_⟩:=v2.cons_inv
   obtain⟨k,ks',rfl,_,_⟩:=a2.cons_inv
   obtain rfl:=Option.some.inj h;rfl
 |cons x xs ih=>
  intro ys r us ws ks ks' h v1 v2 a1 a2
  obtain⟨u,us,rfl,v3,v4⟩:=v1.cons_inv
  obtain⟨k,ks,rfl,a3,a4⟩:=a1.cons_inv
  induction ys using List.casesOn with
  |nil=>obtain rfl:=v2.nil_inv;obtain rfl:=a2.nil_inv;obtain rfl:=Option.some.inj h;rfl
  |cons y ys=>
   refine hold λG_ fin_=>?_
   obtain⟨w,ws,rfl,v5,v6⟩:=v2.cons_inv
   obtain⟨k',ks',rfl,a5,a6⟩:=a2.cons_inv
   obtain⟨r0,r',e1,e2,rfl⟩:=kZ h
   refine fin_ ?_
   rw[wS hX e1 v3 v5 a3 a5,ih e2 v4 v6 a4 a6]
   by_cases q:k=k'<;>by_cases q':ks=ks'<;>simp[q,q']
theorem pP(I:Inv Z C V J s)(h:c8 J (m+2) (.ref i) (.ref j)=some r)(a1:TupAt s.heap (V.ρ i) ks)(a2:TupAt s.heap (V.ρ j) ks'):
 r=decide (ks=ks'):=by
 obtain⟨vs,ep,g1,g2⟩:=a1
 obtain⟨ws,ep',g3,g4⟩:=a2
 have h:D3 (c8 J (m+1)) J i (.ref j)=some r:=h
 have h:Bool.rec (motive:=λO=>Option Bool) (sZ (c8 J (m+1)) (J.T.get i) (J.T.get j)) (some true) (Nat.beq i j)=some r:=h
 rw[b9]at h
 by_cases q:i=j
 ·subst q
  rw[decide_eq_true rfl]at h
  obtain rfl:=Option.some.inj h
  obtain⟨_,rfl,_⟩:=jB g1 g3
  rw[g2.inj _ g4];exact(decide_eq_true rfl).symm
 ·rw[decide_eq_false q]at h
  obtain⟨ox,oy,hx,hy,h⟩:=mZ h
  ·induction ox with
   |tup xs=>
    induction oy with
    |tup ys=>
     obtain⟨_,_,_,us,e1,f1,f2⟩:=I.T i _ hx
     obtain⟨_,_,_,us',e2,f3,f4⟩:=I.T j _ hy
     obtain⟨_,rfl,_⟩:=jB g1 f1
     obtain⟨_,rfl,_⟩:=jB g3 f3
     exact rN (λx hx=>(I.X.2 x hx).1) h f2 f4 g2 g4
    |_=>exact fo h
   |list xs=>
    refine hold λG_ fin_=>?_
    obtain⟨_,_,_,us,e1,f1,f2⟩:=I.T i _ hx
    refine fin_ ?_
    rw[g1]at f1;exact absurd (Value.type.inj (congrArg Obj.cls (Option.some.inj f1))) (by decide)
   |_=>exact fo h
end
section
set_option backward.match.sparseCases false
open PySem.SeqAt
section
variable{Z:Gd}{C:Cf}{V:Vl}{J:St}{s:Shared}{A:Around}{E:Value->Shared->Prop}
noncomputable abbrev tk(w:World):=tupleKind (jH pw w)
noncomputable def cL{α:Type}(f:Nat->α->Bool):BN α->Bool
 |.nil=>true
 |.node k v l r=>f k v&&(cL f l&&cL f r)
theorem allNB_get{α:Type}{f:Nat->α->Bool}{t:BN α}{a:Nat}{w:α}(hq:cL f t=true)(h:aE t a=some w):f a w=true:=by
 induction t with
 |nil=>exact fo h
 |node k v l r il ir=>
  have h:Bool.rec (motive:=λO=>Option _) (Bool.rec (motive:=λO=>Option _) (aE r a) (aE l a) (Nat.blt a k)) (some v) (Nat.beq a k)=some w:=h
  have hq:(f k v&&(cL f l&&cL f r))=true:=hq
  obtain⟨hq0,hq⟩:=aM hq
  have hq:=And.intro hq0 (aM hq)
  induction e:Nat.beq a k with
  |true=>rw[e]at h;obtain rfl:=Option.some.inj h;rw[Nat.eq_of_beq_eq_true e];exact hq.1
  |false=>
   rw[e]at h
   induction e2:Nat.blt a k with
   |true=>rw[e2]at h;exact il hq.2.1 h
   |false=>rw[e2]at h;exact ir hq.2.2 h
theorem ktab_str:cL (λO o=>match o with|.dict es=> !(fU es)|_=>true) d5=true:=by kernel_rfl
theorem tY{a:Nat}{es:List (SV×SV)}{P:Prop}(h:aE d5 a=some (.dict es))(hr:fU es=true):P:=by
 have:=(Bool.not_eq_true' _).mp (allNB_get ktab_str h:(!(fU es))=true)
 rw[hr]at this;exact ff this.symm
theorem nC(I:Inv Z C V J s){i:Nat}{a:Addr}{es:List (SV×SV)}(x:OR Z V s.heap i a (.dict es))(hr:fU es=true):∃xs,DRt V es xs/\s.heap.DictOfH (tk Z.w) a xs:=by
 obtain⟨_,o,ents,ep,h1,h2,h3,h4⟩:=x
 rcases h4 with⟨kvs,q,r1,r2,r3⟩|⟨xs,q,r1,r2⟩
 ·have e:es=[]:=by
   induction es using List.casesOn with
   |nil=>rfl
   |cons p es=>
    induction kvs using List.casesOn with
    |nil=>exact q.elim
    |cons _ _=>
     obtain⟨⟨⟨n,e,_⟩,_⟩,_⟩:=q
     have hr:(match p.1 with|.ref _=>true|_=>false)=true:=hr
     rw[e]at hr;exact ff hr
  subst e
  obtain rfl:kvs=[]:=List.length_eq_zero_iff.mp q.length.symm
  refine⟨[],trivial,o,ents,ep,h1,h2,h3,?_,(λO h=>(List.not_mem_nil h).elim),List.nodup_nil⟩
  induction r2':ents.toList using List.casesOn with
  |nil=>rfl
  |cons _ _=>rw[r2']at r2;cases r2
 ·refine⟨xs,q,o,ents,ep,h1,h2,h3,r1,?_,r2⟩
  have go:∀{es:List (SV×SV)} {xs:List (List bT×Addr×Value)},DRt V es xs->∀x,x∈xs->IsTupleKey (jH pw Z.w) s.heap x.1 x.2.1:=by
   intro es
   induction es with
   |nil=>intro xs q x hx;induction xs with|nil=>cases hx|cons _ _=>exact q.elim
   |cons p es ih=>
    intro xs q x hx
    induction xs with
    |nil=>exact q.elim
    |cons y ys=>
     refine hold λG_ fin_=>?_
     obtain⟨⟨⟨j,e1,e2,e3,e4⟩,_⟩,hq⟩:=q
     refine fin_ ?_
     rcases List.mem_cons.mp hx with rfl|hx
     ·rw[e4];exact(I.tk j _ e3).2.2.key pw Z.w
     ·exact ih hq x hx
  exact go q
theorem tZ(I:Inv Z C V J s){j:Nat}{ks:List bT}(hk:TupAt s.heap (V.ρ j) ks){es:List (SV×SV)}{xs:List (List bT×Addr×Value)}(q:DRt V es xs):∀(r:Option SV),mK J es (.ref j)=some r->
 (∀v,r=some v->∃p,atKey xs ks=some p/\VR V v p.2)/\(r=none->atKey xs ks=none):=by
 refine q.ind (λr h=>?_) λp es x xs t O ih r h=>?_
 ·obtain rfl:=Option.some.inj h;exact⟨(λO h=>fo h),λO=>rfl⟩
 ·obtain⟨p1,p2⟩:=p
  obtain⟨y,b,w⟩:=x
  obtain⟨⟨i,e1,e2,e3,e4⟩,vr⟩:=t
  have e1:p1= .ref i:=e1
  subst e1
  have key:=λr' (e:c8 J 5 (.ref i) (.ref j)=some r')=>pP (m:=3) I e (I.tk i _ e3).2.2 hk
  have h:(match c8 J 5 (.ref i) (.ref j)with|some true=>some (some p2)|some false=>mK J es (.ref j)|none=>none)=some r:=h
  have at1:atKey ((y,b,w)::xs) ks=if y=ks then some (b,w)else atKey xs ks:=by
   by_cases hy:y=ks<;>simp[atKey,List.find?_cons,hy]
  rw[at1]
  induction hq:c8 J 5 (.ref i) (.ref j)with
  |none=>rw[hq]at h;exact fo h
  |some c=>
   rw[hq]at h
   have:=key _ hq
   induction c with
   |true=>
    rw[if_pos (of_decide_eq_true this.symm)]
    obtain rfl:=Option.some.inj h
    exact⟨λv e=>⟨(b,w),rfl,Option.some.inj e▸vr⟩,nofun⟩
   |false=>rw[if_neg (of_decide_eq_false this.symm)];exact ih _ h
theorem A2(K:dG Z)(I:Inv Z C V J s)(hu:A.units+2<cLine){o i v:SV}{ou iu:Value}{es:List (SV×SV)}{Q:Value->Shared->Prop}(ho:iV J o=some (.dict es))(h:D5 J es i=some (some v))(h1:VR V o ou)(h2:VR V i iu)
 (q:∀w t,VR V v w->Q w {s with toks:=t}):wpAny Z.M A (getItem ou iu) Q E s:=by
 induction h2 with
 |str n t=>
  refine hold λG_ fin_=>?_
  obtain⟨hh,h⟩:=iN (x:=some (cR es n)) (h:Bool.rec (motive:=λO=>Option (Option SV)) none (some (cR es n)) (iA es)=some (some v))
  obtain⟨d,kvs,rfl,hd,hr,hm⟩:=kF K I ho h1 hh
  have:=hr.at n
  have h:cR es n=some v:=Option.some.inj h
  rw[h]at this
  obtain⟨w,e,vr⟩:=this
  refine fin_ ?_
  exact wpAny_getItem_of (iM Z.w n t) hm.mapOf e (q w _ vr)
 |ref j hj=>
  have h:Bool.rec (motive:=λO=>Option (Option SV)) none (Bool.rec (motive:=λO=>Option (Option SV)) none (mK J es (.ref j)) (fU es)) (s7 (J.T.get j))=some (some v):=h
  induction hk:s7 (J.T.get j)with
  |false=>rw[hk]at h;exact fo h
  |true=>
   rw[hk]at h
   induction hr:fU es with
   |false=>rw[hr]at h;exact fo h
   |true=>
    rw[hr]at h
    have h:mK J es (.ref j)=some (some v):=h
    obtain⟨ks,tk1,_⟩:=rM I hk
    induction h1 with
    |ref a ha=>
     refine hold λG_ fin_=>?_
     obtain⟨_,t2,x⟩:=I.T a _ (ho:J.T.get a=_)
     obtain⟨xs,hx,hm⟩:=nC I x hr
     obtain⟨p,e,vr⟩:=(tZ I tk1 hx _ h).1 _ rfl
     refine fin_ ?_
     exact wpAny_getItem_heap (knd:=tk Z.w) (tupleKind_room_in1 (Nat.lt_of_succ_lt hu)) (tk1.key pw Z.w) hm e (q _ _ vr)
    |kref a=>exact tY (ho:aE d5 a=_) hr
    |_=>exact fo ho
 |_=>exact fo h
noncomputable def Vl.withTk(V:Vl)(j:Nat)(ks:List bT):Vl:={V with tk:=λi=>if i=j then some ks else V.tk i}
theorem Inv.withTk(I:Inv Z C V J s){j:Nat}{ks:List bT}(h:TupAt s.heap (V.ρ j) ks)(hs:∀ks',V.tk j=some ks'->ks'=ks)(hj:j<V.n)(ho:V.own (V.ρ j)=some (.obj j)):V.Le (V.withTk j ks)/\Inv Z C (V.withTk j ks) J s:=by
 have le:V.Le (V.withTk j ks):=⟨Nat.le_refl _,λO O=>rfl,λO O e=>e,λO e=>e,λi ks' e=>by
  show(if i=j then some ks else V.tk i)=some ks'
  by_cases q:i=j
  ·subst q;rw[if_pos rfl,hs _ e]
  ·rw[if_neg q];exact e,λO e=>e,λO O e=>e,rfl⟩
 refine⟨le,I.go le (λO=>False) rfl (λb x e=>⟨x,e⟩) (λa o h=>.inl h) (λb x O e=>e) I.n (λk x h=>.inl ⟨h,id,id,id⟩) (.inl ⟨rfl,id⟩) (λO O=>id) (λO=>id) id (λi ks' e=>?_) I.X⟩
 change(if i=j then some ks else V.tk i)=some ks' at e
 by_cases q:i=j
 ·subst q;rw[if_pos rfl]at e;obtain rfl:=Option.some.inj e;exact .inr ⟨hj,ho,h⟩
 ·rw[if_neg q]at e;exact .inl ⟨e,id⟩
theorem rO{xs:List (List bT×Addr×Value)}{y k:List bT}{b a:Addr}{w v:Value}(hn:(((y,b,w)::xs).map (·.1)).Nodup):storedH ((y,b,w)::xs) k a v=if y=k then(y,b,v)::xs else(y,b,w)::storedH xs k a v:=by
 by_cases h:y=k
 ·subst h
  have hy:y∉xs.map (·.1):=(List.nodup_cons.mp hn).1
  rw[if_pos rfl]
  have:(atKey ((y,b,w)::xs) y).isSome=true:=by simp[atKey]
  unfold storedH
  rw[if_pos this,List.map_cons,map_putAt_of_not_mem xs y v hy]
  simp[putAt]
 ·rw[if_neg h]
  have e:atKey ((y,b,w)::xs) k=atKey xs k:=by simp[atKey,List.find?_cons,h]
  unfold storedH
  rw[e]
  split
  ·rw[List.map_cons];simp[putAt,h]
  ·rfl
theorem DRt.put(I:Inv Z C V J s){j:Nat}{ks:List bT}(hk:TupAt s.heap (V.ρ j) ks)(hj:j<V.n)(htk:V.tk j=some ks){v:SV}{u:Value}(hv:VR V v u){es:List (SV×SV)}{xs:List (List bT×Addr×Value)}(q:DRt V es xs):
 ∀(es':List (SV×SV)),mL J es (.ref j) v=some es'->(xs.map (·.1)).Nodup->DRt V es' (storedH xs ks (V.ρ j) u):=by
 refine q.ind (λes' h O=>?_) λp es x xs t hq ih es' h hn=>?_
 ·obtain rfl:=Option.some.inj h;exact⟨⟨⟨j,rfl,hj,htk,rfl⟩,hv⟩,trivial⟩
 ·obtain⟨p1,p2⟩:=p
  obtain⟨y,b,w⟩:=x
  have t0:=t
  obtain⟨⟨i,e1,e2,e3,e4⟩,vr⟩:=t
  have e1:p1= .ref i:=e1
  subst e1
  rw[rO hn]
  have key:=λr' (e:c8 J 5 (.ref i) (.ref j)=some r')=>pP (m:=3) I e (I.tk i _ e3).2.2 hk
  have h:(match c8 J 5 (.ref i) (.ref j)with|some true=>some ((.ref i,v)::es)|some false=>(match mL J es (.ref j) v with|some r=>some ((.ref i,p2)::r)|none=>none)|none=>none)=some es':=h
  induction hc:c8 J 5 (.ref i) (.ref j)with
  |none=>rw[hc]at h;exact fo h
  |some c=>
   rw[hc]at h
   have:=key _ hc
   induction c with
   |true=>
    rw[if_pos (of_decide_eq_true this.symm)]
    obtain rfl:=Option.some.inj h
    exact⟨⟨⟨i,rfl,e2,e3,e4⟩,hv⟩,hq⟩
   |false=>
    rw[if_neg (of_decide_eq_false this.symm)]
    have h:(match mL J es (.ref j) v with|some r=>some ((.ref i,p2)::r)|none=>none)=some es':=h
    induction hd:mL J es (.ref j) v with
    |none=>rw[hd]at h;exact fo h
    |some r=>
     rw[hd]at h
     obtain rfl:=Option.some.inj h
     exact⟨⟨⟨i,rfl,e2,e3,e4⟩,vr⟩,ih _ hd (List.nodup_cons.mp hn).2⟩
theorem nD{kvs:List (Str×Value)}(k x:Str)(v:Value)(hn:(kvs.map (·.1)).Nodup):valueAt (stored kvs k v) x=if k=x then some v else valueAt kvs x:=by
 induction kvs with
 |nil=>
  have e:stored [] k v=[(k,v)]:=rfl
  rw[e]
  by_cases q:k=x<;>simp[valueAt,q]
 |cons p kvs ih=>
  obtain⟨y,w⟩:=p
  rw[k8 hn]
  have ih:=ih (List.nodup_cons.mp hn).2
  have e:∀(y:Str) (w:Value) l,valueAt ((y,w)::l) x=if y=x then some w else valueAt l x:=λy w l=>by
   by_cases q:y=x<;>simp[valueAt,List.find?_cons,q]
  by_cases q:y=k
  ·subst q
   rw[if_pos rfl,e,e]
   by_cases z:y=x
   ·rw[if_pos z,if_pos z]
   ·rw[if_neg z,if_neg z,if_neg z]
  ·rw[if_neg q,e,e,ih]
   by_cases z:y=x
   ·rw[if_pos z,if_pos z,if_neg λh=>q (z.trans h.symm)]
   ·rw[if_neg z,if_neg z]
theorem t5{kvs:List (Str×Value)}{k:Str}{u:Value}(v:Value)(h:valueAt kvs k=some u):(stored kvs k v).length=kvs.length:=by
 unfold stored
 have:(kvs.any λkv=>kv.1=k)=true:=by
  unfold valueAt at h
  induction e:kvs.find? λkv=>kv.1=k with
  |none=>rw[e]at h;exact fo h
  |some p=>rw[List.any_eq_true];exact⟨p,List.mem_of_find?_eq_some e,by have:=List.find?_some e;exact this⟩
 rw[if_pos this,List.length_map]
theorem t6(n:Nm)(v:SV):∀es:List (Nm×SV),(dI n v es).length=es.length+(if(aD es n).isSome then 0 else 1):=by
 intro es
 induction es with
 |nil=>
  exact rfl
 |cons p es rec_=>
  have ih:=rec_
  rw[aH,dI]
  by_cases q:p.1=n
  ·rw[if_pos q,if_pos q];rfl
  ·rw[if_neg q,if_neg q,List.length_cons,ih,List.length_cons];exact Nat.add_right_comm _ _ 1
theorem wT(I:Inv Z C V J s){a:Nat}{es:List (Nm×SV)}{ab:List Nm}{i v:SV}{iu u:Value}{k:St->Bool}{Q:Unit->Shared->Prop}(ho:J.T.get a=some (.mdict es ab))(h:aIi J a es ab i v k=true)(h1:VR V i iu)(hv:VR V v u)
 (q:∀J' V' s',k J'=true->V.Le V'->Inv Z C V' J' s'->Q () s'):wpAny Z.M A (PySem.setItem (.ref (V.ρ a)) iu u) Q E s:=by
 obtain⟨t1,t2,hl0,kvs,B,r,hm,hlen,hB,hR,hat,hab⟩:=I.T a _ ho
 induction h1 with
 |str n t=>
  have h:lM n v es (λes'=>Bool.rec (motive:=λO=>Bool) false (store J a (.mdict es' ab) k) (Nat.ble (bA es') 100))=true:=h
  rw[gP]at h
  refine hold λG_ fin_=>?_
  obtain⟨hl,h⟩:=aB h
  have hl:=Nat.le_of_ble_eq_true hl
  rw[aT]at hl
  obtain⟨T',hT,h⟩:=a0 h
  refine fin_ ?_
  have hcl:∀z,s.heap.get? (V.ρ a)=some z->z.cls≠ .type "tuple" :=λz e=>by
   refine hold λG_ fin_=>?_
   obtain⟨o,ents,ep,g1,g2,_⟩:=hm
   refine fin_ ?_
   rw[g1]at e;obtain rfl:=Option.some.inj e;rw[g2.1];exact λe=>absurd (Value.type.inj e) (by decide)
  have hnd:(kvs.map (·.1)).Nodup:=by obtain⟨_,_,_,_,_,_,_,_,r⟩:=hm;exact r
  refine wpAny_setItem_pairs (iM Z.w n t) hm (λh' hm' hs'=>?_) (Nat.le_trans (Nat.le_trans hlen (Nat.add_le_add hB hl0)) (by decide))
  refine hold λG_ fin_=>?_
  obtain⟨o',es',ep',f1,f2⟩:=hm'
  refine fin_ ?_
  refine q _ _ _ h (Vl.Le.refl V) (I.store (h':=h') (t:=s.toks+1) ho hT hcl (aZ hs' ⟨_,f1⟩) (λb z b1 O O e=>(hs'.2 b (λz=>b1 (by rw[z];exact t2))).trans e)
   ⟨hl,_,B,r,⟨o',es',ep',f1,f2⟩,?_,hB,hR,λx=>?_,hab⟩)
  ·rw[t6]
   have:=hat n
   induction e:aD es n with
   |none=>have:=stored_length_le kvs (tx n) u;simp only[Option.isSome_none,Bool.false_eq_true,if_false];exact Nat.le_trans this (Nat.add_le_add_right hlen 1)
   |some v0=>rw[e]at this;obtain⟨u0,e0,_⟩:=this;rw[t5 _ e0];simpa using hlen
  ·rw[fE,nD _ _ _ hnd]
   by_cases z:n=x
   ·rw[if_pos z,if_pos (by rw[z])];exact⟨u,rfl,hv⟩
   ·rw[if_neg z,if_neg (λe=>z (fD e))];exact hat x
 |_=>exact ff h
theorem oS(I:Inv Z C V J s)(hu:A.units+2<cLine){a:Nat}{i v:SV}{iu u:Value}{k:St->Bool}{Q:Unit->Shared->Prop}{es:List (SV×SV)}(ho:J.T.get a=some (.dict es))(h:aIg J es i v (λes'=>qQ J a es' k)=true)(h1:VR V i iu)(hv:VR V v u)
 (q:∀J' V' s',k J'=true->V.Le V'->Inv Z C V' J' s'->Q () s'):wpAny Z.M A (PySem.setItem (.ref (V.ρ a)) iu u) Q E s:=by
 obtain⟨t1,t2,x⟩:=I.T a _ ho
 have hcl:∀z,s.heap.get? (V.ρ a)=some z->z.cls≠ .type "tuple" :=λz e=>by
  refine hold λG_ fin_=>?_
  obtain⟨_,o,ents,ep,g1,g2,_⟩:=x
  refine fin_ ?_
  rw[g1]at e;obtain rfl:=Option.some.inj e;rw[g2.1];exact λe=>absurd (Value.type.inj e) (by decide)
 induction h1 with
 |str n t=>
  refine hold λG_ fin_=>?_
  obtain⟨hh,h⟩:=aB (b:=iA es) (x:=yQ n v es λes'=>qQ J a es' k) h
  rw[FD]at h
  obtain⟨hl,h⟩:=aB h
  have hl:=aS hl
  obtain⟨T',hT,h⟩:=a0 h
  have hs:∀p es',es=p::es'->∃n,p.1= .str n:=λp es' e=>by
   subst e
   obtain⟨k,v⟩:=p
   induction k<;>first|exact⟨_,rfl⟩|exact ff hh
  obtain⟨kvs,hr,hm⟩:=l8 x hs
  refine fin_ ?_
  have hnd:(kvs.map (·.1)).Nodup:=by obtain⟨_,_,_,_,_,_,_,_,r⟩:=hm;exact r
  refine wpAny_setItem_pairs (iM Z.w n t) hm (λh' hm' hs'=>?_) (by rw[<-hr.length];exact Nat.le_trans x.1 (by decide))
  refine hold λG_ fin_=>?_
  obtain⟨o',es',ep',f1,f2,f3,f4,f5,f6⟩:=hm'
  refine fin_ ?_
  exact q _ _ _ h (Vl.Le.refl V) (I.store (h':=h') (t:=s.toks+1) ho hT hcl (aZ hs' ⟨_,f1⟩) (λb z b1 O O e=>(hs'.2 b (λz=>b1 (by rw[z];exact t2))).trans e)
   ⟨hl,o',es',ep',f1,f2,f3,.inl ⟨_,DRs.put hv hr hnd,f4,f5,f6⟩⟩)
 |ref j hj=>
  have h:Bool.rec (motive:=λO=>Bool) false (Bool.rec (motive:=λO=>Bool) false (some? (mL J es (.ref j) v) λes'=>qQ J a es' k) (fU es)) (s7 (J.T.get j))=true:=h
  refine hold λG_ fin_=>?_
  obtain⟨hk,h⟩:=aB h
  obtain⟨hr,h⟩:=aB h
  obtain⟨es',he,h⟩:=some?_eq h
  obtain⟨hl,h⟩:=aB h
  have hl:=aS hl
  obtain⟨T',hT,h⟩:=a0 h
  obtain⟨ks,tk1,tk2,tk3,tk4⟩:=rM I hk
  obtain⟨le,I'⟩:=I.withTk tk1 tk2 tk3 tk4
  obtain⟨t1',t2',x'⟩:=I'.T a _ ho
  obtain⟨xs,hx,hm⟩:=nC I' x' hr
  refine fin_ ?_
  have hnd:(xs.map (·.1)).Nodup:=by obtain⟨_,_,_,_,_,_,_,_,r⟩:=hm;exact r
  refine wpAny_setItem_heap (knd:=tk Z.w) (k:=ks) (tupleKind_room_in1 (Nat.lt_of_succ_lt hu)) (tk1.key pw Z.w) hm (λh' hm' hs'=>?_) (by rw[<-hx.length];exact Nat.le_trans x.1 (by decide))
  refine hold λG_ fin_=>?_
  obtain⟨o',es'',ep',f1,f2,f3,f4,f5,f6⟩:=hm'
  refine fin_ ?_
  refine q _ _ _ h le (I'.store (h':=h') ho hT hcl (aZ hs' ⟨_,f1⟩) (λb z b1 O O e=>(hs'.2 b (λz=>b1 (by rw[z];exact t2))).trans e)
   ⟨hl,o',es'',ep',f1,f2,f3,.inr ⟨_,DRt.put I' tk1 tk3 (if_pos rfl) (hv.mono le) hx _ he hnd,f4,f6⟩⟩)
 |_=>exact ff h
theorem rP(I:Inv Z C V J s)(hu:A.units+2<cLine){a:Nat}{i v:SV}{iu u:Value}{k:St->Bool}{Q:Unit->Shared->Prop}{xs:List SV}(ho:J.T.get a=some (.list xs))(h:EF J a xs i v k=true)(h1:VR V i iu)(hv:VR V v u)
 (q:∀J' V' s',k J'=true->V.Le V'->Inv Z C V' J' s'->Q () s'):wpAny Z.M A (PySem.setItem (.ref (V.ρ a)) iu u) Q E s:=by
 obtain⟨t1,t2,hl0,us,ep,g1,g2⟩:=I.T a _ ho
 obtain⟨m,rfl,h2⟩:=gN h
 exact VR.el_int h1 λt=>by
  skip
  refine hold λG_ fin_=>?_
  obtain⟨xs',he,h⟩:=some?_eq h2
  obtain⟨hl,h⟩:=aB h
  have hl:=aS hl
  obtain⟨T',hT,h⟩:=a0 h
  obtain⟨i1,i2,i3⟩:=FE hv g2 _ _ he
  refine fin_ ?_
  have i1':m<us.size:=by simpa using i1
  have hsz:us.size≤1000:=by have:=g2.length;simp at this;exact this▸i2▸hl
  refine eS g1 (Int.natCast_nonneg _) (by simp only[Int.ofNat_eq_natCast];exact ET (Nat.le_of_lt (Nat.lt_of_lt_of_le i1' hsz))) (by simp only[Int.ofNat_eq_natCast];exact Int.ofNat_lt.mpr i1') ?_
  have gz:=Heap.get?_update_self (Obj.mapSeq (·.setIfInBounds (Int.ofNat m).toNat u)) g1 rfl
  refine q _ _ _ h (Vl.Le.refl V) (I.store (h':=s.heap.update (V.ρ a) (Obj.mapSeq (·.setIfInBounds (Int.ofNat m).toNat u))) (t:=s.toks) ho hT (λz e=>by rw[g1]at e;obtain rfl:=Option.some.inj e;exact λe=>absurd (Value.type.inj e) (by decide)) (aZ (Heap.SameBut.update ..) ⟨_,gz⟩)
   (λb z b1 O O e=>by rw[Heap.get?_update_other _ _ (λq=>b1 (by rw[<-q];exact t2))];exact e) ⟨hl,_,_,gz,?_⟩)
  simpa using i3
theorem oU(I:Inv Z C V J s)(hu:A.units+2<cLine){o i v:SV}{ou iu u:Value}{k:St->Bool}{Q:Unit->Shared->Prop}(h:Mine.setItem J o i v k=true)(h0:VR V o ou)(h1:VR V i iu)(hv:VR V v u)
 (q:∀J' V' s',k J'=true->V.Le V'->Inv Z C V' J' s'->Q () s'):wpAny Z.M A (PySem.setItem ou iu u) Q E s:=by
 obtain⟨a,rfl,h⟩:=d9 h
 obtain⟨o,ho,h⟩:=some?_eq h
 exact VR.el_ref h0 λha=>by
  induction o with
  |dict es=>exact oS I hu ho h h1 hv q
  |mdict es ab=>exact wT I ho h h1 hv q
  |list xs=>exact rP I hu ho h h1 hv q
  |_=>exact ff h
end
end
section
set_option backward.match.sparseCases false
open PySem.SeqAt
theorem ZY{o i:SV}{f:Nm->Int->Bool}(h:(match o,i with|.str s,.int z=>f s z|_,_=>false)=true):∃s z,o= .str s/\i= .int z/\f s z=true:=by
 induction o with
 |str s=>induction i with
  |int z=>exact⟨s,z,rfl,rfl,h⟩
  |_=>exact ff h
 |_=>exact ff h
theorem cM{prog:Program}{w:World}{A:Around}{E:Value->Shared->Prop}{s:Shared}{value slice:Expr}{o i:Value}{T id:String}{Q:Value->Shared->Prop}(hT:s.TypeIs o T)
 (hl:typeLookup (.type T) "__getitem__" =pure (some (.builtin id))) (h:wpAny (model prog w) A (getItem o i) Q E s) {ops:List Value} (hs:subscripted slice false o i=operate ops (getItem o i)):
 wpAny (model prog w) A (subscriptTail value slice o i) Q E s:=by
 unfold subscriptTail
 refine wpAny_bind ?_
 rw[getitemInPython_of_ne hT.not_modules]
 refine wpAny_bind (wpAny_specialOf hT hl ?_)
 have fin:wpAny (model prog w) A (subscripted slice false o i) (λr s₃=>wpAny (model prog w) A (letTemporaryGo value o r >>= λO=>pure r) Q E s₃) E s:=by
  rw[hs]
  exact wpAny_operating (wpAny_mono h (λr s₃ h₃=>wpAny_bind (wpAny_letTemporaryGo (wpAny_pure h₃))) λO O x=>x)
 first
  |exact wpAny_pure (wpAny_bind fin)
  |exact wpAny_bind (wpAny_pure (wpAny_bind fin))
  |exact wpAny_bind fin
theorem rQ{α:Type}:∀{xs:List α} {m:Nat} {v:α},bI xs m=some v->xs[m]?=some v:=by
 intro xs
 induction xs with
 |nil=>
  intro m v h
  exact fo h
 |cons a xs rec_=>
  intro m v h
  have h:Bool.rec (motive:=λO=>Option α) (bI xs (m-1)) (some a) (Nat.beq m 0)=some v:=h
  rw[b9]at h
  by_cases q:m=0
  ·subst q;exact h
  ·rw[decide_eq_false q]at h
   obtain⟨j,rfl⟩:∃j,m=j+1:=⟨m-1,by exact(Nat.succ_pred_eq_of_ne_zero q).symm⟩
   exact rec_ h
section
variable{Z:Gd}{C:Cf}{V:Vl}{J:St}{s:Shared}{A:Around}{E:Value->Shared->Prop}
theorem k9(h:idx n z=some m)(hm:m<n):seqIndex? z n=some m:=by
 unfold seqIndex?
 rcases rL h with⟨p1,p2⟩|⟨p1,p2⟩
 ·have e:(if z<0 then z+n else z)=(m:Int):=by rw[if_neg (p2▸Int.not_ofNat_neg _),p2]
  simp only[e]
  rw[if_pos (by simp;exact hm)];rfl
 ·have e:(if z<0 then z+n else z)=(m:Int):=by rw[if_pos p1,p2]
  simp only[e]
  rw[if_pos (by simp;exact hm)];rfl
set_option tactic.hygienic true in
theorem pQ(K:dG Z)(I:Inv Z C V J s)(hu:A.units+2<cLine){value slice:Expr}{o i:SV}{ou iu:Value}{k:KK}{Q:Value->Shared->Prop}(h:sub J o i k=true)(h1:VR V o ou)(h2:VR V i iu)
 (hs:subscripted slice false ou iu=operate [ou,iu] (getItem ou iu)) (fin:∀v u t,k (.val v) J=true->VR V v u->Q u {s with toks:=t}):wpAny Z.M A (subscriptTail value slice ou iu) Q E s:=by
 unfold sub at h
 split at h
 ·rename_i xs hx
  split at h
  ·rename_i z
   refine hold λG_ fin_=>?_
   obtain⟨t,rfl⟩:=h2.inv_int
   obtain⟨m,hm,h⟩:=some?_eq h
   obtain⟨v,hv,h⟩:=some?_eq h
   obtain⟨j,vs,ep,rfl,hj,rfl,g1,g2,g3⟩:=kE K I hx h1
   obtain⟨u,e,vr⟩:=eR hv g2
   refine fin_ ?_
   have hl:s.heap.IsList (V.ρ j) vs:=⟨_,g1,rfl,ep,rfl⟩
   have len:bA xs=vs.size:=by rw[aT,g2.length];simp
   have hlt:m<vs.size:=by have:=(List.getElem?_eq_some_iff.mp e).1;simpa using this
   have hsz:vs.size≤1000:=by rw[<-len,aT];exact g3
   rw[len]at hm
   refine cM hl.typeIs slot_list_getitem.lookup ?_ hs
   rcases rL hm with⟨p1,p2⟩|⟨p1,p2⟩
   ·exact wpAny_getItem_list hl p1 (p2▸ET (Nat.le_of_lt (Nat.lt_of_lt_of_le hlt hsz))) (by rw[p2];simpa using e) (fin _ _ s.toks h vr)
   ·exact wpAny_getItem_list_neg hl p1 (aID p2) (aIE hsz p2) (by rw[p2];simpa using e) (fin _ _ s.toks h vr)
  ·exact ff h
 ·rename_i xs hx
  split at h
  ·rename_i z
   refine hold λG_ fin_=>?_
   obtain⟨t,rfl⟩:=h2.inv_int
   obtain⟨m,hm,h⟩:=some?_eq h
   obtain⟨v,hv,h⟩:=some?_eq h
   obtain⟨a,vs,rfl,ht,g2,g3⟩:=jE K I hx h1
   obtain⟨u,e,vr⟩:=eR hv g2
   refine fin_ ?_
   have len:bA xs=vs.size:=by rw[aT,g2.length];simp
   have hlt:m<vs.size:=by have:=(List.getElem?_eq_some_iff.mp e).1;simpa using this
   have hsz:vs.size≤1000:=by rw[<-len,aT];exact g3
   rw[len]at hm
   refine cM ht.typeIs slot_tuple_getitem.lookup ?_ hs
   have:=rL hm
   exact PyProof.Rows.getItem_tuple ht (aIF hsz this) (aIG hlt hsz this) (k9 hm hlt) (by simpa using e) (fin _ _ s.toks h vr)
  ·exact ff h
 ·rename_i es hx
  split at h
  ·rename_i v hv
   have hg:=A2 (A:=A) (E:=E) (Q:=Q) K I hu hx hv h1 h2 λw t vr=>fin _ _ _ h vr
   have hT:s.TypeIs ou "dict" :=by
    induction h1 with
    |ref j hj=>
     refine hold λG_ fin_=>?_
     obtain⟨_,_,_,o,ents,ep,g1,g2,_⟩:=I.T j _ (hx:J.T.get j=_)
     refine fin_ ?_
     exact⟨o,g1,g2.1⟩
    |kref a=>
     refine hold λG_ fin_=>?_
     obtain⟨ht,_,kvs,_,o,ents,ep,g1,g2,_⟩:=K a _ (hx:aE d5 a=_)
     refine fin_ ?_
     exact⟨o,I.base.old _ _ g1 ht,g2.1⟩
    |_=>exact fo hx
   exact cM hT slot_dict_getitem.lookup hg hs
  ·exact ff h
 ·obtain⟨x,z,rfl,rfl,h⟩:=ZY (f:=λs z=>Bool.rec (motive:=λO=>Bool) false (some? (idx (bA s) z) λm=>some? (bI s m) λc=>k (.val (.str [c])) J) (cP s)) h
  refine hold λG_ fin_=>?_
  obtain⟨t,rfl⟩:=h1.inv_str
  obtain⟨t',rfl⟩:=h2.inv_int
  obtain⟨hz,h⟩:=aB h
  have hz:=aS hz
  obtain⟨m,hm,h⟩:=some?_eq h
  obtain⟨c,hc,h⟩:=some?_eq h
  refine fin_ ?_
  have e:=rQ hc
  have hlt:m<x.length:=(List.getElem?_eq_some_iff.mp e).1
  rw[aT]at hm
  have:=rL hm
  refine cM (typeIs_str s _ t) F.slot_str_getitem.lookup ?_ hs
  refine P.getItem_str (c:=c) (by simp only[Bool.or_eq_false_iff,decide_eq_false_iff_not];exact aPc hz hlt this) ?_ (fin _ _ _ h (.str [c] _))
  rw[eQ,k9 hm hlt]
  show(x.toArray)[m]?=some c
  simpa using e
end
end
section
open PySem.SeqAt
theorem Inv.more(I:Inv Z C V J s)(hk:∀b o,s.heap.get? b=some o->h'.get? b=some o):Inv Z C V J {s with heap:=h',toks:=t}:=
 I.go (Vl.Le.refl V) (λO=>False) rfl (λb x e=>⟨x,hk b x e⟩) (λa o h=>.inl h) (λb x O e=>hk b x e) I.n (λk x h=>.inl ⟨h,id,id,id⟩) (.inl ⟨rfl,id⟩) (λO O=>id) (λO=>id) id (λi ks e=>.inl ⟨e,id⟩) I.X
theorem pR(x:Heap.ExtBut h.objs.size h h'):∀b o,h.get? b=some o->h'.get? b=some o:=λb o e=>x b o (Nat.ne_of_lt (Heap.lt_size e)) e
section
variable{Z:Gd}(G:aU Z){n:Nat}{ih:Ih}(S:gS Z n ih){C:Cf}{V:Vl}{J:St}{s:Shared}{A:Around}{env:Env}{c:Cx}{kx:KX}{E:Value->Shared->Prop}
abbrev QU(Z:Gd)(C:Cf)(V:Vl)(k:St->Bool)(Q:Unit->Shared->Prop):Prop:=∀J V' s,k J=true->V.Le V'->Inv Z C V' J s->Q () s
theorem dU(h:Q () s):wpAny M A (release vs keep) Q E s:=λZ p hZ=>by rw[Sem.wp_release];exact h
include G S in
theorem cY(I:Inv Z C V J s)(a:AOk C A n)(en:EnvOk C V c env)(hh:A.handled=none)(h:iZ ih c t v J k kx=true)(hv:VR V v u)(q:QU Z C V k Q)(xx:QX Z C V kx E):wpAny Z.M A (assign t env u) Q E s:=by
 induction t using PySem.Expr.casesOn with
 |Name x p=>exact f8 I en hv h λJ' s' hk I'=>q J' V s' hk (Vl.Le.refl V) I'
 |Attribute o x p=>
  rw[arm_assign_Attribute]
  refine wpAny_bind (wpAny_holding (S.ev h I a en (.inl hh) (λov ou J' V' s' h' le I' r=>?_) xx))
  refine wpAny_bind (wpAny_standAt (wpAny_bind (wpAny_holding ?_)))
  have:=eI (A:=A) (E:=E) (Q:=λO s₁=>wpAny Z.M A (release [u,ou] []) Q E s₁) G.cls G.set G.kin I' (onVal_case h') r (hv.mono le) λJ'' V'' s'' hk le' I''=>dU (q _ _ _ hk (le.trans le') I'')
  rwa [aJ]at this
 |Subscript o i p=>
  rw[arm_assign_Subscript]
  refine wpAny_bind (wpAny_holding (S.ev h I a en (.inl hh) (λov ou J' V' s' h' le I' r=>?_) xx))
  refine wpAny_bind (wpAny_holding (S.ev (onVal_case h') I' a (en.mono le) (.inl hh) (λiv iu J'' V'' s'' h'' le' I'' r'=>?_) (xx.mono le)))
  refine wpAny_bind (wpAny_standAt (wpAny_bind (wpAny_holding ?_)))
  exact oU I'' (by have:=a.units;unfold cLine;exact bnd this rfl) (onVal_case h'') (r.mono le') r' (hv.mono (le.trans le')) λJ3 V3 s3 hk le3 I3=>dU (q _ _ _ hk ((le.trans le').trans le3) I3)
 |_=>exact ff h
theorem cA(h:∀e p,t≠ .Starred e p):assignEach (t::ts) env=(false,assign t env)::assignEach ts env:=by
 induction t using PySem.Expr.casesOn with
 |Starred e p=>exact absurd rfl (h e p)
 |_=>rfl
theorem rR(h:iZ ih c t v J k kx=true):∀e p,t≠ .Starred e p:=λe p q=>by subst q;exact ff h
include G S in
theorem nE(a:AOk C A n)(hh:A.handled=none)(ts:List Expr):∀{vs:List SV} {us:List Value} {J:St} {V:Vl} {s:Shared},cI ih c ts vs J k kx=true->Inv Z C V J s->EnvOk C V c env->VRs V vs us->QU Z C V k Q->QX Z C V kx E->
 wpAny Z.M A (assignInOrder ((assignEach ts env).map (·.2)) us) Q E s:=by
 induction ts with
 |nil=>
  intro vs us J V s h I en hv q x
  induction vs using List.casesOn with
  |cons _ _=>exact ff h
  |nil=>
   induction us using List.casesOn with
   |cons _ _=>exact hv.elim
   |nil=>exact wpAny_pure (q _ _ _ h (Vl.Le.refl V) I)
 |cons t ts ih'=>
  intro vs us J V s h I en hv q x
  induction vs using List.casesOn with
  |nil=>exact ff h
  |cons v vs=>
   induction us using List.casesOn with
   |nil=>exact hv.elim
   |cons u us=>
    have h:iZ ih c t v J (λJ=>cI ih c ts vs J k kx) kx=true:=h
    rw[cA (rR h)]
    show wpAny Z.M A (do holding us (assign t env u);assignInOrder ((assignEach ts env).map (·.2)) us) Q E s
    exact wpAny_bind (wpAny_holding (cY G S I a en hh h hv.1 (λJ' V' s' h' le I'=>ih' h' I' (en.mono le) (hv.2.mono le) (λJ V s a b=>q J V s a (le.trans b)) (x.mono le)) x))
theorem nF(ts:List Expr):(assignEach ts env).length=ts.length:=by
 induction ts with
 |nil=>rfl
 |cons t ts ih=>
  have:(assignEach (t::ts) env).length=(assignEach ts env).length+1:=by cases t<;>rfl
  rw[this,ih];rfl
theorem eB(ts:List Expr)(h:bG gM ts=true):(assignEach ts env).findIdx? (·.1)=none:=by
 induction ts with
 |nil=>rfl
 |cons t ts ih=>
  obtain⟨h1,h2⟩:=aB (b:=gM t) (x:=bG gM ts) h
  have e:assignEach (t::ts) env=(false,assign t env)::assignEach ts env:=cA (λe p q=>by subst q;exact ff h1)
  rw[e,List.findIdx?_cons]
  simp[ih h2]
theorem lA(h:yT o=some xs):o=some (.tup xs)∨o=some (.list xs):=by
 induction o with
 |none=>exact fo h
 |some o=>cases o<;>first|(cases h;exact .inl rfl)|(cases h;exact .inr rfl)|exact fo h
include G S in
theorem eJ(I:Inv Z C V J s)(a:AOk C A n)(en:EnvOk C V c env)(hh:A.handled=none)(h:bX ih c t v J k kx=true)(hv:VR V v u)(q:QU Z C V k Q)(xx:QX Z C V kx E):wpAny Z.M A (assign t env u) Q E s:=by
 induction t using PySem.Expr.casesOn with
 |Tuple ts j p=>
  obtain⟨xs,hx,h⟩:=some?_eq (h:some? (yT (iV J v)) (λxs=>Bool.rec (motive:=λO=>Bool) false (Bool.rec (motive:=λO=>Bool) false (cI ih c ts xs J k kx) (bG gM ts)) (Nat.beq (bA ts) (bA xs)))=true)
  obtain⟨hl,h⟩:=aB h
  obtain⟨hn,h⟩:=aB h
  rw[b9,aT,aT,decide_eq_true_eq]at hl
  have go:∀us:Array Value,VRs V xs us.toList->∀h',Heap.ExtBut s.heap.objs.size s.heap h'->wpAny Z.M A (assignInOrder ((assignEach ts env).map (·.2)) us.toList) Q E {s with heap:=h'}:=λus hu h' he=>
   nE G S a hh ts h (I.more (t:=s.toks) (pR he)) en hu q xx
  have hsz:∀us:Array Value,VRs V xs us.toList->(assignEach ts env).length=us.size:=λus hu=>by rw[nF,hl,hu.length];simp
  rcases lA hx with hx|hx
  ·obtain⟨b,us,rfl,ht,hu,_⟩:=jE G.kref I hx hv
   exact wpAny_assign_Tuple hh ht (hsz us hu) (eB ts hn) (go us hu)
  ·obtain⟨i,us,ep,rfl,hi,rfl,g1,hu,_⟩:=kE G.kref I hx hv
   rw[arm_assign_Tuple]
   refine wpAny_bind (wpAny_standAt ?_)
   unfold unpack
   rw[hsz us hu,eB ts hn]
   exact wpAny_bind (wpAny_holding (kun_itemsOf hh ⟨_,g1,rfl,ep,rfl⟩ (go us hu)))
 |Name x p=>exact cY G S I a en hh h hv q xx
 |Attribute o x p=>exact cY G S I a en hh h hv q xx
 |Subscript o i p=>exact cY G S I a en hh h hv q xx
 |_=>exact ff h
end
end
section
set_option backward.match.sparseCases false
open PySem.SeqAt
section
variable{Z:Gd}(G:aU Z){n:Nat}{ih:Ih}(S:gS Z n ih){C:Cf}{V:Vl}{J:St}{s:Shared}{A:Around}{env:Env}{c:Cx}{k:KK}{kx:KX}{E:Value->Shared->Prop}
theorem QF.mono(h:QF Z C V k Q)(e:V.Le V'):QF Z C V' k Q:=⟨λJ W s a b=>h.next J W s a (e.trans b),λv u J W s a b=>h.ret v u J W s a (e.trans b)⟩
include S in
theorem FG(I:Inv Z C V J s)(a:AOk C A n)(en:EnvOk C V c env)(hh:A.handled=none∨∀x,e=some x->aV x)(h:S3 ih e c J k kx=true)(q:QF Z C V k Q)(xx:QX Z C V kx E):
 wpAny Z.M A (exec (.Return e p) env) Q E s:=by
 induction e with
 |none=>
  rw[exec_Return_none]
  exact wpAny_bind (wpAny_standAt (wpAny_pure (q.ret _ _ _ _ _ h (Vl.Le.refl V) I .none)))
 |some e=>
  rw[exec_Return_some]
  refine wpAny_bind (wpAny_standAt (wpAny_bind (S.ev h I a en (hh.imp id λg=>g e rfl) (λv u J' V' s' h' le I' r=>?_) xx)))
  exact wpAny_pure (q.ret _ _ _ _ _ (onVal_case h') le I' r)
include S in
theorem aJo(I:Inv Z C V J s)(a:AOk C A n)(en:EnvOk C V c env)(hh:A.handled=none)(h:PF ih t c J (EO ih (.exs x c) (.exs y c) k kx) kx=true)(q:QF Z C V k Q)(xx:QX Z C V kx E):wpAny Z.M A (exec (.If t x y p) env) Q E s:=by
 rw[exec_If]
 refine wpAny_bind (wpAny_standAt (wpAny_bind (S.tr h I a en (.inl hh) (λv J' V' s' h' le I'=>?_) xx)))
 obtain⟨b,hb,h'⟩:=some?_eq (onVal_case h')
 refine⟨b,hb,?_⟩
 induction b with
 |true=>exact S.exs h' I' a (en.mono le) (.inl hh) (q.mono le) (xx.mono le)
 |false=>exact S.exs h' I' a (en.mono le) (.inl hh) (q.mono le) (xx.mono le)
theorem PZ(I:Inv Z C V J s)(h:k .next J=true)(q:QF Z C V k Q):wpAny Z.M A (exec (.Pass p) env) Q E s:=by
 rw[exec_Pass]
 exact wpAny_bind (wpAny_standAt (wpAny_pure (q.next _ _ _ h (Vl.Le.refl V) I)))
theorem nG(en:EnvOk C V c env):interactive env=false:=by
 unfold interactive;rw[en.kind];rfl
include S in
theorem P0(I:Inv Z C V J s)(a:AOk C A n)(en:EnvOk C V c env)(hh:A.handled=none)(h:ES ih e c J k kx=true)(q:QF Z C V k Q)(xx:QX Z C V kx E):
 wpAny Z.M A (exec (.Expr e p) env) Q E s:=by
 have main:swapsWith e none p.line env=pure false->ih (.ev e c) J (aL λO J=>k .next J) kx=true->wpAny Z.M A (exec (.Expr e p) env) Q E s:=λhs h=>by
  rw[exec_Expr env e p (nG en) hs]
  refine wpAny_bind (wpAny_standAt (wpAny_bind (S.ev h I a en (.inl hh) (λv u J' V' s' h' le I' r=>?_) xx)))
  exact wpAny_dropValue (q.next _ _ _ (onVal_case h') le I')
 induction e using PySem.Expr.casesOn with
 |ListComp _ _ _ _=>exact ff h
 |SetComp _ _ _ _=>exact ff h
 |DictComp _ _ _ _ _=>exact ff h
 |_=>exact main rfl h
theorem rS{ih:Ih}{t:Expr}{v:SV}{k:St->Bool}(h:bX ih c t v J k kx=true):∀e p,t≠ .Starred e p:=λe p q=>by subst q;exact ff h
include G S in
theorem kG(I:Inv Z C V J s)(a:AOk C A n)(en:EnvOk C V c env)(hh:A.handled=none)(h:ih (.ev e c) J (aL λv J=>bX ih c t v J (k .next) kx) kx=true)(q:QF Z C V k Q)(xx:QX Z C V kx E)(hs:swapsWithSole [t] e p.line env=pure false)(hw:swappedStores [t] e env=pure none):wpAny Z.M A (exec (.Assign [t] e p) env) Q E s:=by
 refine wpAny_Assign_stores (S.ev h I a en (.inl hh) (λv u J' V' s' h' le I' r=>?_) xx) hs hw
 have h':=onVal_case h'
 rw[cA (rS h')]
 exact eJ G S I' a (en.mono le) hh h' r (λJ'' V'' s'' hk le' I''=>q.next _ _ _ hk (le.trans le') I'') (xx.mono le)
noncomputable def FH(t e:Expr):Bool:=match e with
 |.ListComp .. =>false|.SetComp .. =>false|.DictComp .. =>false
 |.Tuple .. => !(rC t)
 |_=>true
include G S in
theorem jI(I:Inv Z C V J s)(a:AOk C A n)(en:EnvOk C V c env)(hh:A.handled=none)(h:ih (.ev e c) J (aL λv J=>bX ih c t v J (k .next) kx) kx=true)(q:QF Z C V k Q)(xx:QX Z C V kx E)(hp:FH t e=true)(ht:∀ts p,t≠ .List ts p):wpAny Z.M A (exec (.Assign [t] e p) env) Q E s:=by
 refine kG G S I a en hh h q xx ?_ ?_
 ·cases e<;>first|rfl|exact ff hp
 ·induction t using PySem.Expr.casesOn with
  |Tuple _ _ _=>induction e using PySem.Expr.casesOn with
   |Tuple _ _ _=>exact ff hp
   |_=>rfl
  |List _ _=>exact absurd rfl (ht _ _)
  |_=>rfl
theorem A3{op:Operator}{a b:SV}{k:SV->Bool}(h:aIw op a b k=true):op= .Add/\∃y,b= .int y/\((∃x,a= .int x/\k (.int (Int.add x y))=true)∨∃x,a= .lin x/\k (.lin (Int.add x y))=true):=by
 induction op with
 |Add=>
  induction a with
  |int x=>induction b with
   |int y=>exact⟨rfl,y,rfl,.inl ⟨x,rfl,bD (i:=Int.add x y) (k:=λz=>k (.int z)) h⟩⟩
   |_=>exact ff h
  |lin x=>induction b with
   |int y=>exact⟨rfl,y,rfl,.inr ⟨x,rfl,bD (i:=Int.add x y) (k:=λz=>k (.lin z)) h⟩⟩
   |_=>exact ff h
  |_=>exact ff h
 |_=>exact ff h
include G S in
theorem Z0(I:Inv Z C V J s)(a:AOk C A n)(en:EnvOk C V c env)(hh:A.handled=none)(h:S4 ih t op e c J k kx=true)(q:QF Z C V k Q)(xx:QX Z C V kx E):
 wpAny Z.M A (exec (.AugAssign t op e p) env) Q E s:=by
 induction t using PySem.Expr.casesOn with
 |Attribute o x p'=>
  refine wpAny_AugAssign_AttributeAny (S.ev h I a en (.inl hh) (λv u J' V' s' h' le I' r=>?_) xx)
  obtain⟨old,hold,h'⟩:=some?_eq (onVal_case h')
  induction r with
  |ref i hi=>
   have hold:Bool.rec (motive:=λO=>Option SV) none (pB (J'.T.get i) (aA x)) (cE (aA x))=some old:=hold
   induction ha:cE (aA x)with
   |false=>rw[ha]at hold;exact fo hold
   |true=>
    rw[ha]at hold
    have:=jG (A:=A) (E:=E) (b:=true) (Q:=λr s₁=>wpAny Z.M A (eval e env) (λv s₃=>wpAny Z.M A (inplaceOp op r v) (λnew s₄=>wpAny Z.M A (PySem.setAttr (.ref (V'.ρ i)) x new) (λO=>Q .next) E s₄) E s₃) E s₁)
     G.cls G.kin I' ha hold λw t r=>?_
    ·rwa [aJ]at this
    refine S.ev h' (I'.tok t) a (en.mono le) (.inl hh) (λv2 u2 J'' V'' s'' h'' le' I'' r2=>?_) (xx.mono le)
    have h'':=onVal_case h''
    obtain⟨rfl,y1,rfl,hc⟩:=A3 h''
    exact VR.el_int r2 λt2=>by
     rcases hc with⟨x1,rfl,hc⟩|⟨x1,rfl,hc⟩
     ·exact VR.el_int r λt1=>by
       refine P.iadd_int ?_
       have:=eI (A:=A) (E:=E) (Q:=λO s₁=>Q .next s₁) G.cls G.set G.kin (I''.tok (s''.toks+1)) hc ((VR.ref i hi).mono le') (.int (Int.add x1 y1) s''.toks) λJ3 V3 s3 hk le3 I3=>q.next _ _ _ hk ((le.trans le').trans le3) I3
       rwa [aJ]at this
     ·exact VR.el_lin r λx' t1 hx=>by
       refine P.iadd_int ?_
       have e:x'+x1+y1=x'+Int.add x1 y1:=Int.add_assoc _ _ _
       rw[e]
       have:=eI (A:=A) (E:=E) (Q:=λO s₁=>Q .next s₁) G.cls G.set G.kin (I''.tok (s''.toks+1)) hc ((VR.ref i hi).mono le') (.lin x' (Int.add x1 y1) s''.toks (le'.X _ hx)) λJ3 V3 s3 hk le3 I3=>q.next _ _ _ hk ((le.trans le').trans le3) I3
       rwa [aJ]at this
  |_=>exact fo hold
 |_=>exact ff h
end
end
section
open PySem.SeqAt
theorem pS{e:Expr}(h:mR e=true):∃f as ks p,e= .Call f as ks p:=by
 induction e using PySem.Expr.casesOn with
 |Call f as ks p=>exact⟨f,as,ks,p,rfl⟩
 |_=>exact ff h
theorem lB{f:Expr->Bool}(hf:∀g as ks p,f (.Call g as ks p)=false){es:List Expr}(h:d8 es=true):es.all f=false:=by
 induction es with
 |nil=>exact ff h
 |cons e es ih=>
  have h:Bool.rec (motive:=λO=>Bool) (d8 es) true (mR e)=true:=h
  rw[List.all_cons]
  induction hc:mR e with
  |true=>obtain⟨_,_,_,_,rfl⟩:=pS hc;rw[hf];rfl
  |false=>rw[hc]at h;rw[ih h,Bool.and_false]
theorem oV{es:List Expr}(h:d8 es=true):es.all (constantsAlone 8)=false:=lB (λO O O O=>rfl) h
theorem nH{es:List Expr}(h:d8 es=true):es.all (foldedForSure 8)=false:=lB (λO O O O=>rfl) h
noncomputable def eC:List Expr->Option (List Str)
 | []=>some []
 |.Name x _::ts=>(eC ts).map (x::·)
 |_::_=>none
theorem lN{f:Expr->Option Str}(hf:∀e,(∃x p,e= .Name x p/\(f e=some x∨f e=none))∨f e=none){ts:List Expr}(h:(ts.filterMap f).length=ts.length):eC ts=some (ts.filterMap f)/\∀e,e∈ts->∃x p,e= .Name x p/\f e=some x:=by
 induction ts with
 |nil=>exact⟨rfl,λO h=>absurd h List.not_mem_nil⟩
 |cons e ts ih=>
  induction he:f e with
  |none=>
   rw[List.filterMap_cons,he]at h
   have:=List.length_filterMap_le f ts
   simp only[List.length_cons]at h
   exact False.elim (Nat.not_succ_le_self _ (h▸this))
  |some x=>
   rw[List.filterMap_cons,he]at h
   have h:(List.filterMap f ts).length=ts.length:=by simpa using h
   obtain⟨i1,i2⟩:=ih h
   rcases hf e with⟨y,p,rfl,hy|hy⟩|hy
   ·rw[he]at hy;obtain rfl:=Option.some.inj hy
    refine⟨by rw[List.filterMap_cons,he];show(eC ts).map (x::·)=_;rw[i1];rfl,λe' hm=>?_⟩
    rcases List.mem_cons.mp hm with rfl|hm
    ·exact⟨x,p,rfl,he⟩
    ·exact i2 e' hm
   ·rw[he]at hy;cases hy
   ·rw[he]at hy;cases hy
theorem FI(b:Str):[b].Nodup:=List.nodup_cons.mpr ⟨List.not_mem_nil,List.nodup_nil⟩
theorem FJ{a b:Str}(e:[a,b].eraseDups.length=2):a≠b:=λq=>by
 subst q;simp[List.eraseDups_cons]at e
theorem P1{α:Type}{l:List α}(h:l.length=2):∃a b,l=[a,b]:=by
 induction l using List.casesOn with
 |nil=>exact absurd h nofun
 |cons a l=>induction l using List.casesOn with
  |nil=>exact absurd h nofun
  |cons b l=>exact⟨a,b,by rw[List.length_eq_zero_iff.mp (Nat.succ.inj (Nat.succ.inj h))]⟩
theorem Z1{α:Type}{l:List α}(h:l.length=3):∃a b c,l=[a,b,c]:=by
 induction l using List.casesOn with
 |nil=>exact absurd h nofun
 |cons a l=>obtain⟨b,c,rfl⟩:=P1 (Nat.succ.inj h);exact⟨a,b,c,rfl⟩
theorem t7{L:List Str}(h:L.length=2∨L.length=3)(e:L.eraseDups.length=L.length):L.Nodup:=by
 rcases h with h|h
 ·obtain⟨a,b,rfl⟩:=P1 h
  exact List.nodup_cons.mpr ⟨λm=>FJ e (List.mem_singleton.mp m),FI b⟩
 ·obtain⟨a,b,c,rfl⟩:=Z1 h
  have e:[a,b,c].eraseDups.length=3:=e
  rw[List.eraseDups_cons]at e
  by_cases q:b=a
  ·subst q
   by_cases q2:c=b<;>simp[List.eraseDups_cons,q2]at e
  ·by_cases q2:c=a
   ·subst q2;simp[List.eraseDups_cons,q]at e
   ·have ef:List.filter (λb=> !b==a) [b,c]=[b,c]:=by simp[q,q2]
    rw[ef]at e
    have q3:=FJ (Nat.succ.inj e)
    refine List.nodup_cons.mpr ⟨λm=>?_,List.nodup_cons.mpr ⟨λm=>q3 (List.mem_singleton.mp m),FI c⟩⟩
    rcases List.mem_cons.mp m with m|m
    ·exact q m.symm
    ·exact q2 (List.mem_singleton.mp m).symm
set_option tactic.hygienic true in
theorem oW{env:Env}{ts vs:List Expr}{j j':Nat}{p p':Pos}(hc:d8 vs=true):
 swappedStores [.Tuple ts j p] (.Tuple vs j' p') env=pure none∨
 ∃names,swappedStores [.Tuple ts j p] (.Tuple vs j' p') env=pure (some names)/\eC ts=some names/\(ts.length=2∨ts.length=3)/\vs.length=ts.length/\names.Nodup/\∀n,n∈names->env.kindOf n=some .local:=by
 unfold swappedStores
 dsimp only
 by_cases c1:(!(ts.length==2||ts.length==3)||vs.length !=ts.length||env.blockKind != .function)=true
 ·rw[if_pos c1];exact .inl rfl
 rw[if_neg c1]
 generalize hst:(vs.any fun|.Starred .. =>true|_=>false)=st
 induction st with
 |true=>exact .inl rfl
 |false=>
  simp-iota only[Bool.false_eq_true,if_false]
  rw[nH hc,oV hc]
  generalize hL:List.filterMap _ ts=L
  by_cases c2:(L.length !=ts.length||L.eraseDups.length !=L.length)=true
  ·rw[if_pos c2];exact .inl rfl
  rw[if_neg c2]
  refine .inr ⟨L,rfl,?_⟩
  rw[Bool.not_eq_true,Bool.or_eq_false_iff]at c2
  have c2a:L.length=ts.length:=by simpa using c2.1
  have c2b:L.eraseDups.length=L.length:=by simpa using c2.2
  rw[Bool.not_eq_true,Bool.or_eq_false_iff,Bool.or_eq_false_iff]at c1
  have c1a:ts.length=2∨ts.length=3:=by
   have:=c1.1.1
   by_cases q:ts.length=2
   ·exact .inl q
   ·exact .inr (by simpa [q]using this)
  have c1b:vs.length=ts.length:=by have:=c1.1.2;simpa using this
  rw[<-hL]at c2a
  obtain⟨i1,i2⟩:=lN (λe=>by
   induction e using PySem.Expr.casesOn with
   |Name x p=>
    refine .inl ⟨x,p,rfl,?_⟩
    dsimp only
    split
    ·exact .inl rfl
    ·exact .inr rfl
   |_=>exact .inr rfl) c2a
  refine⟨by rw[<-hL];exact i1,c1a,c1b,?_,λn hn=>?_⟩
  ·have c3:L.length=2∨L.length=3:=by rw[<-hL,c2a];exact c1a
   exact t7 c3 c2b
  ·rw[<-hL]at hn
   obtain⟨e,he,hf⟩:=List.mem_filterMap.mp hn
   obtain⟨x,p,rfl,hx⟩:=i2 e he
   rw[hx]at hf;obtain rfl:=Option.some.inj hf
   dsimp only at hx
   split at hx
   ·rename_i q
    rw[Bool.and_eq_true]at q
    exact eq_of_beq q.1
   ·exact fo hx
end
section
set_option backward.match.sparseCases false
open PySem.SeqAt
noncomputable section
noncomputable def putAll:List Str->List SV->List (Nm×SV)->List (Nm×SV)
 |n::ns,v::vs,l=>putAll ns vs (dI (aA n) v l)
 |_,_,l=>l
noncomputable def rT:List Str->List Value->(Str->Option Value)->Str->Option Value
 |n::ns,v::vs,m=>rT ns vs λx=>if x=n then some v else m x
 |_,_,m=>m
section
variable{Z:Gd}{C:Cf}{V:Vl}{J:St}{s:Shared}{A:Around}{env:Env}{c:Cx}{kx:KX}{E:Value->Shared->Prop}
theorem lO(en:EnvOk C V c env):∀{ts:List Expr} {names:List Str} {vs:List SV} {J:St},eC ts=some names->(∀n,n∈names->env.kindOf n=some .local)->cI ih c ts vs J k kx=true->
 vs.length=names.length/\k ⟨J.T,J.n,putAll names vs J.L,J.sy⟩=true:=by
 intro ts
 induction ts with
 |nil=>
  intro names vs J hn hl h
  obtain rfl:=Option.some.inj hn
  induction vs using List.casesOn with
  |nil=>exact⟨rfl,h⟩
  |cons _ _=>exact ff h
 |cons t ts ih'=>
  intro names vs J hn hl h
  induction t using PySem.Expr.casesOn with
  |Name x p=>
   obtain⟨ns,hns,rfl⟩:=Option.map_eq_some_iff.mp (hn:(eC ts).map (x::·)=some names)
   induction vs using List.casesOn with
   |nil=>exact ff h
   |cons v vs=>
    obtain⟨nms,cells,tb⟩:=c
    have h:some? (aF nms (aA x)) (qS cells (aA x) v J λJ=>cI ih ⟨nms,cells,tb⟩ ts vs J k kx)=true:=h
    obtain⟨kd,hkd,h⟩:=some?_eq h
    have kr:KindRel (aF nms (aA x)) (env.kindOf x):=en.kinds (aA x)
    rw[hkd,hl x (.head _)]at kr
    cases kr
    have h:lM (aA x) v J.L (λL=>cI ih ⟨nms,cells,tb⟩ ts vs ⟨J.T,J.n,L,J.sy⟩ k kx)=true:=h
    rw[gP]at h
    obtain⟨i1,i2⟩:=ih' hns (λn hm=>hl n (.tail _ hm)) h
    exact⟨congrArg Nat.succ i1,i2⟩
  |_=>exact fo hn
theorem t8(en:EnvOk C V c env):∀{names:List Str} {us:List Value} {s:Shared} {m:Str->Option Value},(∀n,n∈names->env.kindOf n=some .local)->us.length=names.length->s.heap.Ns1 C.L m->
 (∀h' t,h'.Ns1 C.L (rT names us m)->Heap.SameBut C.L s.heap h'->Q () {s with heap:=h',toks:=t})->wpAny M A (assignInOrder (names.map λn=>bindName env n) us) Q E s
 :=by
 intro names
 induction names with
 |nil=>
  intro us s m O h hn q
  obtain rfl:=List.length_eq_zero_iff.mp h
  exact wpAny_pure (q s.heap s.toks hn (Heap.SameBut.refl ..))
 |cons n names ih=>
  intro us s m hl hlen hn q
  induction us using List.casesOn with
  |nil=>exact nomatch hlen
  |cons u us=>
   show wpAny M A (do holding us (bindName env n u);assignInOrder (names.map λn=>bindName env n) us) Q E s
   refine wpAny_bind (wpAny_holding (wpAny_bindName (gR (hl n (.head _)) (en.loc▸hn) (λh' hn' hs'=>?_) (by rw[en.kind];rfl))))
   rw[en.loc]at hn' hs'
   exact ih (λx hx=>hl x (.tail _ hx)) (Nat.succ.inj hlen) hn' λh'' t hn'' hs''=>q h'' t hn'' (hs'.trans hs'')
theorem AR.putAll(hv:VRs V vs us):∀(names:List Str) (es:List (Nm×SV)) (m:Str->Option Value),AR V es m->AR V (putAll names vs es) (rT names us m):=by
 refine hv.ind (λnames O O h=>?_) λv vs u us r O ih names es m h=>?_
 ·induction names using List.casesOn<;>exact h
 ·induction names using List.casesOn with
  |nil=>exact h
  |cons n ns=>
   have:=h.put (n:=aA n) r
   rw[aJ]at this
   exact ih ns _ _ this
theorem AR.congr(h:AR V es m)(e:∀x,aD es' x=aD es x):AR V es' m:=λn=>by
 have:=h n
 rw[<-e n]at this
 exact this
theorem gU(h:aA a=aA b):a=b:=by rw[<-aJ a,h,aJ]
theorem wU(h:names.length=2∨names.length=3)(hl:vs.length=names.length)(hn:names.Nodup)(x:Nm):aD (putAll names vs es) x=aD (putAll names.reverse vs.reverse es) x:=by
 rcases h with h|h
 ·obtain⟨a,b,rfl⟩:=P1 h
  obtain⟨v,w,rfl⟩:=P1 (hl.trans h)
  have ab':aA a≠aA b:=λe=>(List.nodup_cons.mp hn).1 (gU e▸List.mem_singleton_self _)
  show aD (dI (aA b) w (dI (aA a) v es)) x=aD (dI (aA a) v (dI (aA b) w es)) x
  simp only[fE]
  by_cases q:aA b=x
  ·subst q;simp[ab']
  ·simp[q]
 ·obtain⟨a,b,c,rfl⟩:=Z1 h
  obtain⟨v,w,z,rfl⟩:=Z1 (hl.trans h)
  simp only[List.nodup_cons,List.mem_cons,List.not_mem_nil,or_false,not_or]at hn
  have ab':aA a≠aA b:=λe=>hn.1.1 (gU e)
  have ac':aA a≠aA c:=λe=>hn.1.2 (gU e)
  have bc':aA b≠aA c:=λe=>hn.2.1 (gU e)
  show aD (dI (aA c) z (dI (aA b) w (dI (aA a) v es))) x=aD (dI (aA a) v (dI (aA b) w (dI (aA c) z es))) x
  simp only[fE]
  by_cases q:aA c=x
  ·subst q;simp[ac',bc']
  ·by_cases q2:aA b=x
   ·subst q2;simp[ab',q]
   ·simp[q,q2]
end
end
end
section
open PySem.SeqAt
section
variable{Z:Gd}(G:aU Z){n:Nat}{ih:Ih}(S:gS Z n ih){C:Cf}{V:Vl}{J:St}{s:Shared}{A:Around}{env:Env}{c:Cx}{k:KK}{kx:KX}{E:Value->Shared->Prop}
theorem t9:∀{ts:List Expr} {names:List Str},eC ts=some names->names.length=ts.length:=by
 intro ts
 induction ts with
 |nil=>intro names h;obtain rfl:=Option.some.inj h;rfl
 |cons t ts ih=>intro names h;induction t using PySem.Expr.casesOn with
  |Name x p=>
   obtain⟨ns,hns,rfl⟩:=Option.map_eq_some_iff.mp (h:(eC ts).map (x::·)=some names)
   exact congrArg Nat.succ (ih hns)
  |_=>exact fo h
include G S in
theorem uA(I:Inv Z C V J s)(a:AOk C A n)(en:EnvOk C V c env)(hc:d8 vs=true)(hh:A.handled=none)(h:ih (.ev (.Tuple vs j' p2) c) J (aL λv J=>bX ih c (.Tuple ts j p') v J (k .next) kx) kx=true)(q:QF Z C V k Q)(xx:QX Z C V kx E):wpAny Z.M A (exec (.Assign [.Tuple ts j p'] (.Tuple vs j' p2) p) env) Q E s:=by
 rcases oW (env:=env) (ts:=ts) (vs:=vs) (j:=j) (j':=j') (p:=p') (p':=p2) hc with hw|⟨names,hw,hns,hts,hlen,hnd,hloc⟩
 ·exact kG G S I a en hh h q xx rfl hw
 ·rw[exec_Assign_arm]
  refine wpAny_bind (wpAny_standAt (wpAny_bind (wpAny_pure ?_)))
  rw[if_neg (by decide)]
  refine wpAny_bind (S.ev h I a en (.inl hh) (λv u J' V' s' h' le I' r=>?_) xx)
  rw[hw]
  refine wpAny_bind (wpAny_pure ?_)
  show wpAny Z.M A (do
   rule "assign.swapped-stores"
   let items<-unpackItems u names.length none
   assignInOrder (names.reverse.map λn=>bindName env n) items.reverse
   pure .next) Q E s'
  refine wpAny_bind (wpAny_rule ?_)
  obtain⟨xs,hx,h'⟩:=some?_eq (onVal_case h':some? (yT (iV J' v)) (λxs=>Bool.rec (motive:=λO=>Bool) false (Bool.rec (motive:=λO=>Bool) false (cI ih c ts xs J' (k .next) kx) (bG gM ts)) (Nat.beq (bA ts) (bA xs)))=true)
  obtain⟨_,h'⟩:=aB h'
  obtain⟨_,h'⟩:=aB h'
  obtain⟨hl,hk⟩:=lO (en.mono le) hns hloc h'
  have h23:names.length=2∨names.length=3:=by rw[t9 hns];exact hts
  have go:∀us:Array Value,VRs V' xs us.toList->∀h'',Heap.ExtBut s'.heap.objs.size s'.heap h''->wpAny Z.M A (do
   assignInOrder (names.reverse.map λn=>bindName env n) us.toList.reverse
   pure .next) Q E {s' with heap:=h''}:=λus hu h'' he=>by
   have I2:=I'.more (t:=s'.toks) (pR he)
   obtain⟨m,hm,ha⟩:=I2.L.2
   have hul:us.toList.length=names.length:=by rw[<-hu.length,hl]
   have rev:VRs V' xs.reverse us.toList.reverse:=by
    exact hu.ind (P:=λa b=>VRs V' a.reverse b.reverse) trivial λO O O O r O ih=>by rw[List.reverse_cons,List.reverse_cons];exact ih.append ⟨r,trivial⟩
   refine wpAny_bind (t8 (en.mono le) (λx hx=>hloc x (List.mem_reverse.mp hx)) (by simp[hul]) hm λh3 t hn3 hs3=>?_)
   have a3:=(AR.putAll rev names.reverse _ _ ha).congr (wU h23 hl hnd)
   exact wpAny_pure (q.next _ _ _ hk le (I2.local hs3 hn3 a3))
  rcases lA hx with hx|hx
  ·obtain⟨b,us,rfl,ht,hu,_⟩:=jE G.kref I' hx r
   have e:names.length=us.size:=by rw[<-hl,hu.length];simp
   rw[e]
   exact wpAny_bind (wpAny_unpackItems_tuple hh ht (go us hu))
  ·obtain⟨i,us,ep,rfl,hi,rfl,g1,hu,_⟩:=kE G.kref I' hx r
   have e:names.length=us.size:=by rw[<-hl,hu.length];simp
   rw[e]
   exact wpAny_bind (kun_itemsOf hh ⟨_,g1,rfl,ep,rfl⟩ (go us hu))
end
end
section
open PySem.SeqAt
section
variable{Z:Gd}{C:Cf}{V:Vl}{J:St}{s:Shared}{A:Around}{env:Env}{c:Cx}{n:Nat}{kx:KX}{E:Value->Shared->Prop}
theorem Inv.slots(I:Inv Z C V J s)(x:Heap.SlotsOnly S s.heap h')(hS:∀a,a∈S->a=C.L∨∃(k:Nat) (d:PySem.Data),C.frs[k]?=some (a,d)):Inv Z C V J {s with heap:=h'}:=by
 refine I.goF (Vl.Le.refl V) (λw=>∃k,w= .fr k) (λO=>False) nofun (λO O=>.inl id) rfl (λb o O e=>let⟨sl,q⟩:=x.2.2 b o e;⟨_,q⟩) (λa o h=>.inl h) (λb o O hb e=>(x.2.1 b λhm=>?_).trans e) I.n
  (λj o h=>.inl ⟨h,(λ⟨k,e⟩=>by cases e),(λ⟨k,e⟩=>by cases e),(λ⟨k,e⟩=>by cases e)⟩) (.inr ?_) (λk a d h=>.inr ?_) (by rintro k ⟨_,e⟩;cases e) (by rintro ⟨_,e⟩;cases e) (λi ks h=>.inl ⟨h,λ⟨k,e⟩=>by cases e⟩) I.X
 ·rcases hS b hm with rfl|⟨k,d,hk⟩
  ·exact hb _ I.L.1 ⟨_,rfl⟩
  ·exact hb _ (I.frs k b d hk).1 ⟨_,rfl⟩
 ·obtain⟨m,⟨o,es,ep,ho,hd,r⟩,ha⟩:=I.L.2
  obtain⟨sl,hs⟩:=x.2.2 _ o ho
  exact⟨m,⟨_,es,ep,hs,hd,r⟩,ha⟩
 ·obtain⟨_,o,ho,hd⟩:=I.frs k a d h
  obtain⟨sl,hs⟩:=x.2.2 _ o ho
  exact⟨_,hs,hd⟩
theorem wV(I:Inv Z C V J s):∀{l:List Env},(∀e,e∈l->e.scope.kind≠ .module/\∃a,e.frame=some a/\(a=C.L∨∃(k:Nat) (es:Array DictEntry) (ep:Nat),C.frs[k]?=some (a,PySem.Data.dict es ep)))->
 s.heap.FunFrames Z.s0.heap l/\∀b,b∈l.filterMap (·.frame)->b=C.L∨∃(k:Nat) (d:PySem.Data),C.frs[k]?=some (b,d)
 :=by
 intro l
 induction l with
 |nil=>exact λO=>⟨trivial,(λO h=>(List.not_mem_nil h).elim)⟩
 |cons e l ih=>
  intro h
  refine hold λG_ fin_=>?_
  obtain⟨i1,i2⟩:=ih λe he=>h e (.tail _ he)
  obtain⟨hk,a,ha,hw⟩:=h e (.head _)
  refine fin_ ?_
  refine⟨⟨hk,⟨a,?_⟩,i1⟩,λb hb=>?_⟩
  ·rcases hw with rfl|⟨k,es,ep,hk⟩
   ·obtain⟨m,⟨o,es,ep,ho,hd,r⟩,_⟩:=I.L.2
    exact⟨o,ha,(I.own _ _ I.L.1).1,ho,λvs q=>by rw[hd]at q;cases q⟩
   ·obtain⟨h1,o,h2,h3⟩:=I.frs k a _ hk
    exact⟨o,ha,(I.own _ _ h1).1,h2,λvs q=>by rw[h3]at q;cases q⟩
  ·rw[List.filterMap_cons,ha]at hb
   rcases List.mem_cons.mp hb with e|hb
   ·subst e
    exact hw.imp id λ⟨k,es,ep,q⟩=>⟨k,_,q⟩
   ·exact i2 b hb
theorem oX(I:Inv Z C V J s)(a:AOk C A n)(en:EnvOk C V c env)(q:∀b h',Heap.SlotsOnly (C.envs.filterMap (·.frame)) s.heap h'->(∀x,x∈C.envs.filterMap (·.frame)->x=C.L∨∃(k:Nat) (d:PySem.Data),C.frs[k]?=some (x,d))->Q (.ref b) {s with heap:=h'}):wpAny Z.M A (PySem.frameOf env) Q E s:=by
 refine hold λG_ fin_=>?_
 obtain⟨e0,rest,b,h1,h2,h3⟩:=en.frm
 obtain⟨f1,f2⟩:=wV I a.fr
 refine fin_ ?_
 unfold PySem.frameOf
 refine wpAny_bind (wpAny_frameEnvs a.frames ?_)
 have hdw:(C.envs.dropWhile λx=>x.frame !=env.frame)=e0::rest:=by rw[h1];simp[List.dropWhile,h2,h3]
 rw[hdw]
 unfold frameObject
 rw[h1]at f1 f2 q
 refine wpAny_bind (wpAny_bind (wpAny_readyFrames_fun f1 λh' hs'=>wpAny_pure ?_))
 rw[h2]
 exact wpAny_pure (q b h' hs' f2)
def HasTb(V:Vl)(h:Heap)(i:Nat):Prop:=∃K d vs T,h.get? (V.ρ i)=some ⟨.ref K,d,.fields vs,#[]⟩/\vs[1]?=some (.ref T)
theorem wW(I:Inv Z C V J s){i K:Nat}{es:List (Nm×SV)}(ho:J.T.get i=some (.exc K es)){T:Addr}{oT:Obj}{ts:Array Value}(h1:V.own T=some (.tb i))(h2:s.heap.get? T=some oT)(h3:oT.data= .fields ts)(h4:3<ts.size)(x:Value):
 Inv Z C V J {s with heap:=s.heap.update T (Obj.mapFields (·.setIfInBounds 3 x))}/\(HasTb V s.heap i->HasTb V (s.heap.update T (Obj.mapFields (·.setIfInBounds 3 x))) i):=by
 have hd':=Obj.data_mapFields h3 (·.setIfInBounds 3 x)
 have hT':=Heap.get?_update_self (Obj.mapFields (·.setIfInBounds 3 x)) h2 (Obj.isFreed_of_fields hd')
 have other:∀b,b≠T->(s.heap.update T (Obj.mapFields (·.setIfInBounds 3 x))).get? b=s.heap.get? b:=λb hb=>Heap.get?_update_other _ _ (Ne.symm hb)
 obtain⟨t1,t2,t3⟩:=I.T i _ ho
 have ne:V.ρ i≠T:=λe=>by rw[<-e,t2]at h1;cases h1
 refine⟨I.go (Vl.Le.refl V) (λw=>w= .tb i) rfl (aZ (Heap.SameBut.update ..) ⟨_,hT'⟩) (λa o h=>.inl h) (λb o hb e=>(other b λq=>hb _ (q▸h1) rfl).trans e) I.n (λj o h=>?_) (.inl ⟨rfl,nofun⟩) (λO O=>nofun) (λO=>nofun) nofun (λi ks h=>.inl ⟨h,nofun⟩) I.X,?_⟩
 ·by_cases q:j=i
  ·subst q
   rw[ho]at h;obtain rfl:=Option.some.inj h
   refine .inr ⟨t1,t2,?_⟩
   obtain⟨e0,d,vs,e1,e2,e5,e6⟩:=t3
   refine⟨e0,d,vs,(other _ ne).trans e1,e2.keep (Vl.Le.refl V) λb o q z=>(other b λz=>by rw[z,h1]at q;cases q).trans z,e5,e6.imp id ?_⟩
   rintro ⟨T',oT',ts',f1,f2,f3,f4,f5⟩
   by_cases z:T'=T
   ·subst z
    refine⟨T',_,_,f1,f2,hT',hd',?_⟩
    simpa using h4
   ·exact⟨T',oT',ts',f1,f2,(other _ z).trans f3,f4,f5⟩
  ·exact .inl ⟨h,nofun,nofun,λe=>q (Own.tb.inj e)⟩
 ·rintro ⟨K',d,vs,T',g1,g2⟩
  exact⟨K',d,vs,T',(other _ ne).trans g1,g2⟩
theorem Z2(I:Inv Z C V J s){i K:Nat}{es:List (Nm×SV)}(ho:J.T.get i=some (.exc K es)){o:Obj}{ts:Array Value}(h3:o.data= .fields ts)(h4:3<ts.size):
 V.Le (V.note s.heap.objs.size (.tb i))/\Inv Z C (V.note s.heap.objs.size (.tb i)) J {s with heap:=(s.heap.push o).update (V.ρ i) (Obj.mapFields (·.setIfInBounds 1 (.ref s.heap.objs.size)))}/\
  HasTb (V.note s.heap.objs.size (.tb i)) ((s.heap.push o).update (V.ρ i) (Obj.mapFields (·.setIfInBounds 1 (.ref s.heap.objs.size)))) i:=by
 refine hold λG_ fin_=>?_
 obtain⟨t1,t2,t3⟩:=I.T i _ ho
 obtain⟨e0,d,vs,e1,e2,e5,e6⟩:=id t3
 refine fin_ ?_
 have hlt:=Heap.lt_size e1
 have ge:(s.heap.push o).get? (V.ρ i)=some ⟨.ref K,d,.fields vs,#[]⟩:=Heap.get?_push_of_some _ e1
 have gs:=Heap.get?_update_self (Obj.mapFields (·.setIfInBounds 1 (.ref s.heap.objs.size))) ge (Obj.isFreed_of_fields (Obj.data_mapFields (vs:=vs) rfl _))
 have other:∀b x,b≠V.ρ i->s.heap.get? b=some x->((s.heap.push o).update (V.ρ i) (Obj.mapFields (·.setIfInBounds 1 (.ref s.heap.objs.size)))).get? b=some x:=λb x hb e=>
  (Heap.get?_update_other _ _ (Ne.symm hb)).trans (Heap.get?_push_of_some _ e)
 have hT:((s.heap.push o).update (V.ρ i) (Obj.mapFields (·.setIfInBounds 1 (.ref s.heap.objs.size)))).get? s.heap.objs.size=some o:=
  (Heap.get?_update_other _ _ (Nat.ne_of_lt hlt)).trans (Heap.get?_push_size _ (Obj.isFreed_of_fields h3))
 have le:V.Le (V.note s.heap.objs.size (.tb i)):=⟨Nat.le_refl _,λO O=>rfl,λa w h=>by
  obtain⟨y,hy⟩:=(I.own a w h).2
  exact(if_neg (Nat.ne_of_lt (Heap.lt_size hy))).trans h,λO e=>e,λO O e=>e,λO e=>e,λO O e=>e,rfl⟩
 have live:∀b x,s.heap.get? b=some x->∃y,((s.heap.push o).update (V.ρ i) (Obj.mapFields (·.setIfInBounds 1 (.ref s.heap.objs.size)))).get? b=some y:=λb x e=>by
  by_cases q:b=V.ρ i
  ·subst q;exact⟨_,gs⟩
  ·exact⟨x,other b x q e⟩
 refine⟨le,I.go le (λw=>w= .obj i) rfl live (λa w h=>?_) (λb x hb e=>other b x (λq=>hb _ (q▸t2) rfl) e) I.n (λj x h=>?_) (.inl ⟨rfl,nofun⟩) (λO O=>nofun) (λO=>nofun) nofun (λj ks h=>.inl ⟨h,?_⟩) I.X (l6 t1),?_⟩
 ·change(if a=s.heap.objs.size then some (Own.tb i)else V.own a)=some w at h
  by_cases q:a=s.heap.objs.size
  ·exact .inr ⟨Nat.le_of_eq q.symm,by rw[q];exact⟨_,hT⟩⟩
  ·rw[if_neg q]at h;exact .inl h
 ·by_cases q:j=i
  ·subst q
   rw[ho]at h;obtain rfl:=Option.some.inj h
   refine .inr ⟨t1,le.own _ _ t2,e0,d,_,gs,e2.keep le λb o q z=>other b o (λz=>by rw[z,t2]at q;cases q) z,by simpa using e5,.inr ⟨s.heap.objs.size,o,ts,?_,if_pos rfl,hT,h3,h4⟩⟩
   have:1<vs.size:=by exact Nat.lt_of_add_left_lt e5
   simp[this]
  ·exact .inl ⟨h,λe=>q (Own.obj.inj e),nofun,nofun⟩
 ·intro q
  cases q
  obtain⟨_,_,vs',ep,k3,_⟩:=I.tk i ks h
  rw[e1]at k3;cases k3
 ·have:1<vs.size:=by exact Nat.lt_of_add_left_lt e5
  exact⟨K,d,_,s.heap.objs.size,gs,by simp[this]⟩
theorem cB(I:Inv Z C V J s)(a:AOk C A n)(en:EnvOk C V c env){i K:Nat}{es:List (Nm×SV)}(ho:J.T.get i=some (.exc K es)){Q:Unit->Shared->Prop}
 (q:∀V' h',V.Le V'->Inv Z C V' J {s with heap:=h'}->HasTb V' h' i->Q () {s with heap:=h'}):wpAny Z.M A (noteFrame (.ref (V.ρ i)) env) Q E s:=by
 refine hold λG_ fin_=>?_
 obtain⟨_,_,b,_,_,hb⟩:=en.frm
 obtain⟨t1,t2,t3⟩:=I.T i _ ho
 obtain⟨e0,d,vs,e1,e2,e5,e6⟩:=id t3
 refine fin_ ?_
 have entry:∀{s:Shared} {hadNext:Bool} {head:Value},Inv Z C V J s->(∀V' h',V.Le V'->Inv Z C V' J {s with heap:=h'}->HasTb V' h' i->Q () {s with heap:=h'})->
  wpAny Z.M A (do let a<-PySem.frameOf env;let pl<-entryPlaceOf b hadNext;let e<-EntryCells.newEntry head a .none (rawInt b) .none pl;setField (.ref (V.ρ i)) 1 e) Q E s:=λ{s hadNext head} I q=>by
  refine wpAny_bind (oX I a en λb' h₁ hs₁ hS=>?_)
  have I₁:=I.slots hs₁ hS
  refine wpAny_bind (wpAny_entryPlaceOf λpl hpl=>?_)
  unfold EntryCells.newEntry newFields
  refine wpAny_bind (wpAny_newObj_type ?_ (hpl.sizeOk5 _ _ _ _ _))
  refine hold λG_ fin_=>?_
  obtain⟨_,_,t3⟩:=I₁.T i _ ho
  obtain⟨e0,d,vs,e1,e2,e5,e6⟩:=id t3
  obtain⟨le,I₂,hb2⟩:=Z2 I₁ ho (o:={cls:=.type "traceback",dict:=none,data:=.fields ([head,.ref b',.none,rawInt b,.none]++(if pl.isEmpty then List.replicate 6 Value.none else pl)).toArray}) rfl (by
   simp only[List.size_toArray,List.length_append,List.length_cons,List.length_nil];exact aPd)
  refine fin_ ?_
  exact wpAny_setField (Heap.get?_push_of_some _ e1) rfl (Nat.lt_of_add_left_lt e5) (q _ _ le I₂ hb2)
 unfold noteFrame
 simp-iota only[hb]
 rcases e6 with e6|⟨T,oT,ts,f1,f2,f3,f4,f5⟩
 ·refine wpAny_bind (wpAny_field e1 rfl e6 ?_)
  rw[if_neg (by decide)]
  exact entry I q
 ·refine wpAny_bind (wpAny_field e1 rfl f1 ?_)
  rw[if_pos (show(Value.ref T !=Value.none)=true from by simp)]
  refine wpAny_bind (wpAny_field f3 f4 (Array.getElem?_eq_getElem f5) ?_)
  by_cases hx:(ts[3]==rawInt b)=true
  ·rw[if_pos hx]
   exact wpAny_pure (q V s.heap (Vl.Le.refl V) I ⟨K,d,vs,T,e1,f1⟩)
  ·rw[if_neg hx]
   refine wpAny_bind (wpAny_setField f3 f4 f5 ?_)
   exact entry (wW I ho f2 f3 f4 f5 .none).1 q
theorem bE(I:Inv Z C V J s){i K:Nat}{es:List (Nm×SV)}(ho:J.T.get i=some (.exc K es)){f:Option Addr}{Q:Unit->Shared->Prop}
 (q:∀h',Inv Z C V J {s with heap:=h'}->(HasTb V s.heap i->HasTb V h' i)->Q () {s with heap:=h'}):wpAny Z.M A (setFlight (.ref (V.ρ i)) f) Q E s:=by
 refine hold λG_ fin_=>?_
 obtain⟨t1,t2,t3⟩:=I.T i _ ho
 obtain⟨e0,d,vs,e1,e2,e5,e6⟩:=id t3
 refine fin_ ?_
 unfold setFlight
 rcases e6 with e6|⟨T,oT,ts,f1,f2,f3,f4,f5⟩
 ·refine wpAny_bind (wpAny_field e1 rfl e6 ?_)
  rw[if_neg (by decide)]
  exact wpAny_pure (q s.heap I id)
 ·refine wpAny_bind (wpAny_field e1 rfl f1 ?_)
  rw[if_pos (show(Value.ref T !=Value.none)=true from by simp)]
  obtain⟨I',hb⟩:=wW I ho f2 f3 f4 f5 (f.elim .none λf=>rawInt f)
  exact wpAny_setField f3 f4 f5 (q _ I' hb)
theorem iC(I:Inv Z C V J s)(a:AOk C A n)(en:EnvOk C V c env){i K:Nat}{es:List (Nm×SV)}(ho:J.T.get i=some (.exc K es)){Q:Unit->Shared->Prop}
 (q:∀V' h',V.Le V'->Inv Z C V' J {s with heap:=h'}->HasTb V' h' i->Q () {s with heap:=h'}):wpAny Z.M A (leaving env (.ref (V.ρ i))) Q E s:=by
 unfold leaving
 have t1:=(I.T i _ ho).1
 refine wpAny_bind (cB I a en ho λV' h' le I' hb=>?_)
 rw[<-le.ρ i t1]
 exact bE I' ho λh'' I'' hb'=>q V' h'' le I'' (hb' hb)
theorem nI(I:Inv Z C V J s){x:SV}{u:Value}(h:kx x J=true)(r:VR V x u)(hx:zC J x)(xx:QX Z C V kx E)(hb:∀i,x= .ref i->HasTb V s.heap i):cameBackBy Z.M A env E u s:=by
 refine hold λG_ fin_=>?_
 obtain⟨i,K,es,rfl,ho⟩:=hx
 refine fin_ ?_
 exact VR.el_ref r λhi=>by
  refine hold λG_ fin_=>?_
  obtain⟨K',d,vs,T,g1,g2⟩:=hb i rfl
  refine fin_ ?_
  unfold cameBackBy
  refine wpAny_bind (wpAny_field g1 rfl g2 ?_)
  rw[if_neg (show¬((Value.ref T==Value.none)=true)from by simp)]
  exact bE I ho λh' I' O=>xx _ _ _ _ _ h (Vl.Le.refl V) I' (.ref i hi) ⟨i,K,es,rfl,ho⟩
theorem uB(I:Inv Z C V J s)(a:AOk C A n)(en:EnvOk C V c env){x:SV}{u:Value}(h:kx x J=true)(r:VR V x u)(hx:zC J x)(xx:QX Z C V kx E):notedBy Z.M A env (cameBackBy Z.M A env E) u s:=by
 refine hold λG_ fin_=>?_
 obtain⟨i,K,es,rfl,ho⟩:=hx
 refine fin_ ?_
 exact VR.el_ref r λhi=>by
  unfold notedBy
  refine cB I a en ho λV' h' le I' hb=>?_
  rw[<-le.ρ i hi]
  exact nI I' h (.ref i (Nat.lt_of_lt_of_le hi le.n)) ⟨i,K,es,rfl,ho⟩ (xx.mono le) λj e=>by cases e;exact hb
theorem jJ(I:Inv Z C V J s){x:SV}{u:Value}(h:kx x J=true)(r:VR V x u)(hx:zC J x)(xx:QX Z C V kx E)(hb:∀i,x= .ref i->HasTb V s.heap i){α:Type}{Q:α->Shared->Prop}{what:String}:wpAny Z.M A (PySem.passOn what u env:Sem α) Q E s:=by
 refine hold λG_ fin_=>?_
 obtain⟨i,K,es,rfl,ho⟩:=hx
 refine fin_ ?_
 exact VR.el_ref r λhi=>by
  refine hold λG_ fin_=>?_
  obtain⟨K',d,vs,T,g1,g2⟩:=hb i rfl
  refine fin_ ?_
  unfold PySem.passOn
  refine wpAny_bind (wpAny_field g1 rfl g2 ?_)
  rw[if_neg (show¬((Value.ref T==Value.none)=true)from by simp)]
  exact wpAny_bind (bE I ho λh' I' O=>wpAny_throw (xx _ _ _ _ _ h (Vl.Le.refl V) I' (.ref i hi) ⟨i,K,es,rfl,ho⟩))
end
end
section
set_option backward.match.sparseCases false
open PySem.SeqAt
noncomputable def dK(s:Nm):String:=if(tx s).cps.all (· <128)=true then "str_ascii_iterator" else "str_iterator"
def ItO(V:Vl):Src->Nat->Obj->Prop
 |.list i,j,o=>i<V.n/\o.cls= .type "list_iterator" /\o.data= .fields #[.ref (V.ρ i),.int j 0]
 |.tup i,j,o=>i<V.n/\o.cls= .type "tuple_iterator" /\o.data= .fields #[.ref (V.ρ i),.int j 0]
 |.kt a,j,o=>o.cls= .type "tuple_iterator" /\o.data= .fields #[.ref a,.int j 0]
 |.str s,j,o=>o.cls= .type (dK s)/\∃t,o.data= .fields #[.str (tx s) t,.int j 0]
 |.range a n,j,o=>o={cls:=.type "range_iterator",dict:=none,data:=.fields #[rawInt (a+j),rawInt ((n:Int)-j),rawInt 1],slots:= #[]}
 |.lrange a n,j,o=>∃x,V.X=some x/\o={cls:=.type "range_iterator",dict:=none,data:=.fields #[rawInt (x+a+j),rawInt ((n:Int)-j),rawInt 1],slots:= #[]}
 |.vals ..,_,_=>False
theorem ItO.mono(e:V.Le V')(h:ItO V src j o):ItO V' src j o:=by
 induction src with
 |list i=>obtain⟨h1,h2,h3⟩:=h;exact⟨Nat.lt_of_lt_of_le h1 e.n,h2,by rw[e.ρ i h1];exact h3⟩
 |tup i=>obtain⟨h1,h2,h3⟩:=h;exact⟨Nat.lt_of_lt_of_le h1 e.n,h2,by rw[e.ρ i h1];exact h3⟩
 |kt a=>exact h
 |str s=>exact h
 |range a n=>exact h
 |lrange a n=>obtain⟨x,h1,h2⟩:=h;exact⟨x,e.X _ h1,h2⟩
 |vals i xs=>exact h
theorem ItO.kind(h:ItO V src j o):∃T vs,o.cls= .type T/\o.data= .fields vs/\ ["enumerate","zip","dict_itemiterator","dict_reverseitemiterator","odict_iterator","itertools.zip_longest","itertools.pairwise"].contains T=false:=by
 induction src with
 |list i=>exact⟨_,_,h.2.1,h.2.2,by decide⟩
 |tup i=>exact⟨_,_,h.2.1,h.2.2,by decide⟩
 |kt a=>exact⟨_,_,h.1,h.2,by decide⟩
 |str s=>obtain⟨h1,t,h2⟩:=h;exact⟨_,_,h1,h2,by unfold dK;split<;>decide⟩
 |range a n=>have h:o=_:=h;subst h;exact⟨_,_,rfl,rfl,by decide⟩
 |lrange a n=>obtain⟨x,_,h⟩:=h;subst h;exact⟨_,_,rfl,rfl,by decide⟩
 |vals i xs=>exact h.elim
theorem gV(h:mO x=true): -1001<x/\x<1000:=by
 induction x with
 |ofNat n=>
  have:n<1000:=Nat.lt_of_succ_le (Nat.le_of_ble_eq_true (n:=n+1) h)
  simp only[Int.ofNat_eq_natCast];exact⟨Int.lt_of_lt_of_le (by decide) (Int.natCast_nonneg _),Int.ofNat_lt.mpr this⟩
 |negSucc n=>
  have:n<1000:=Nat.lt_of_succ_le (Nat.le_of_ble_eq_true (n:=n+1) h)
  exact⟨ngl this,Int.lt_trans (Int.negSucc_lt_zero n) (by decide)⟩
theorem oY{α:Type}:∀{xs:List α} {m:Nat},bI xs m=none->xs.length≤m:=by
 intro xs
 induction xs with
 |nil=>
  intro m O
  exact Nat.zero_le _
 |cons a xs rec_=>
  intro m h
  have h:Bool.rec (motive:=λO=>Option α) (bI xs (m-1)) (some a) (Nat.beq m 0)=none:=h
  rw[b9]at h
  by_cases q:m=0
  ·subst q
   have h:some a=none:=h
   cases h
  ·rw[decide_eq_false q]at h
   have:=rec_ h
   simp only[List.length_cons];exact Nat.add_le_of_le_sub (Nat.pos_of_ne_zero q) this
section
variable{Z:Gd}{C:Cf}{V:Vl}{J:St}{s:Shared}{A:Around}{env:Env}{c:Cx}{n:Nat}{kx:KX}{E:Value->Shared->Prop}
theorem EnvOk.hold(h:EnvOk C V c env):EnvOk (C.hold a o) V c env:=⟨h.kind,h.loc,h.glob,h.bui,h.kinds,h.dbg,h.cld,h.sup,h.cells,h.frm,h.lam⟩
theorem AOk.hold(h:AOk C A n):AOk (C.hold a o) A n:=⟨h.depth,h.units,h.frames,h.fr⟩
theorem QX.hold(h:QX Z C V kx E):QX Z (C.hold a o) V kx E:=λx u J V' s h1 le I=>h x u J V' s h1 le I.unhold
set_option backward.match.sparseCases true in
theorem wX(ho:s.heap.get? it=some o)(hi:ItO V src j o)(h:Q () s):wpAny Z.M A (letOwnedTupleGo t (.ref it) u) Q E s:=by
 obtain⟨T,vs,h1,h2,h3⟩:=hi.kind
 unfold letOwnedTupleGo
 have main:wpAny Z.M A (do
  let(.ref r,.ref a):=((Value.ref it),u)|return
  let o<-load r
  match o.cls,o.data with
  |.type n,.fields vs=>
   if ["enumerate","zip","dict_itemiterator","dict_reverseitemiterator","odict_iterator","itertools.zip_longest","itertools.pairwise"].contains n&&vs[0]?==some (rawInt a)then
    rule "for.unpacks-the-owned-tuple"
    updateField r 0 .none
  |_,_=>pure ()) Q E s:=by
  induction u with
  |ref a=>
   refine wpAny_bind (wpAny_load ho ?_)
   rw[h1,h2]
   dsimp only
   rw[h3,Bool.false_and,if_neg Bool.false_ne_true]
   exact wpAny_pure h
  |_=>exact wpAny_pure h
 induction t using PySem.Expr.casesOn with
 |Tuple es k p=>exact main
 |List es p=>exact main
 |_=>exact wpAny_pure h
theorem pT(K:dG Z)(I:Inv Z (C.hold it o) V J s)(he:∀(k:Nat) (o:Obj),C.ext[k]?≠some (it,o))(hi:ItO V src j o)(h:AQ J src j=some (some v))(q:∀u h' o' t,VR V v u->ItO V src (j+1) o'->Inv Z (C.hold it o') V J {s with heap:=h',toks:=t}->Q (some u) {s with heap:=h',toks:=t}):wpAny Z.M A (pyNext (.ref it)) Q E s:=by
 obtain⟨k1,k2,k3⟩:=I.held
 have go:∀{u:Value} {h':Heap} {o':Obj} {t:Nat},VR V v u->ItO V src (j+1) o'->h'.get? it=some o'->Heap.SameBut it s.heap h'->Q (some u) {s with heap:=h',toks:=t}:=λ{u h' o' t} vr ho' e hs=>
  q u h' o' t vr ho' ((I.unhold.but (t:=t) k1 k2 he λb x hb e=>(hs.2 b hb).trans e).hold k1 k2 e)
 have cast1:((j:Int)+1)=((j+1:Nat):Int):=by exact rfl
 induction src with
 |list i=>
  refine hold λG_ fin_=>?_
  obtain⟨h1,h2,h3⟩:=hi
  refine fin_ ?_
  induction hx:J.T.get i with
  |none=>change(match J.T.get i with|some (.list xs)=>some (bI xs j)|_=>none)=_ at h;rw[hx]at h;exact fo h
  |some ob=>
   change(match J.T.get i with|some (.list xs)=>some (bI xs j)|_=>none)=_ at h
   rw[hx]at h
   induction ob with
   |list xs=>
    have h:bI xs j=some v:=Option.some.inj h
    refine hold λG_ fin_=>?_
    obtain⟨t1,t2,_,us,ep,g1,g2⟩:=I.T i _ hx
    obtain⟨u,e,vr⟩:=eR h g2
    refine fin_ ?_
    refine wpAny_pyNext_list_item (i:=j) (x:=u) ⟨o,k3,h2,h3⟩ ⟨_,g1,rfl,ep,rfl⟩ (by simpa using e) λh' hit' hs'=>?_
    refine hold λG_ fin_=>?_
    obtain⟨o',f1,f2,f3⟩:=hit'
    refine fin_ ?_
    exact go (t:=s.toks) vr (o':=o') ⟨h1,f2,f3⟩ f1 hs'
   |_=>exact fo h
 |tup i=>
  refine hold λG_ fin_=>?_
  obtain⟨h1,h2,h3⟩:=hi
  refine fin_ ?_
  change(match J.T.get i with|some (.tup xs)=>some (bI xs j)|_=>none)=_ at h
  induction hx:J.T.get i with
  |none=>rw[hx]at h;exact fo h
  |some ob=>
   rw[hx]at h
   induction ob with
   |tup xs=>
    have h:bI xs j=some v:=Option.some.inj h
    refine hold λG_ fin_=>?_
    obtain⟨t1,t2,_,us,ep,g1,g2⟩:=I.T i _ hx
    obtain⟨u,e,vr⟩:=eR h g2
    refine fin_ ?_
    refine wpAny_pyNext_tuple_item (i:=j) (x:=u) ⟨o,k3,h2,h3⟩ ⟨_,g1,rfl,ep,rfl⟩ (by simpa using e) λh' hit' hs'=>?_
    refine hold λG_ fin_=>?_
    obtain⟨o',f1,f2,f3⟩:=hit'
    refine fin_ ?_
    exact go (t:=s.toks) vr (o':=o') ⟨h1,f2,f3⟩ f1 hs'
   |_=>exact fo h
 |kt a=>
  obtain⟨h2,h3⟩:=hi
  change(match aE d5 a with|some (.tup xs)=>some (bI xs j)|_=>none)=_ at h
  induction hx:aE d5 a with
  |none=>rw[hx]at h;exact fo h
  |some ob=>
   rw[hx]at h
   induction ob with
   |tup xs=>
    have h:bI xs j=some v:=Option.some.inj h
    refine hold λG_ fin_=>?_
    obtain⟨ht,_,hl,us,ep,g1,g2⟩:=K a _ hx
    obtain⟨u,e,vr⟩:=eR h (g2 V)
    refine fin_ ?_
    refine wpAny_pyNext_tuple_item (i:=j) (x:=u) ⟨o,k3,h2,h3⟩ ⟨_,I.base.old _ _ g1 ht,rfl,ep,rfl⟩ (by simpa using e) λh' hit' hs'=>?_
    refine hold λG_ fin_=>?_
    obtain⟨o',f1,f2,f3⟩:=hit'
    refine fin_ ?_
    exact go (t:=s.toks) vr (o':=o') ⟨f2,f3⟩ f1 hs'
   |_=>exact fo h
 |str x=>
  obtain⟨h2,t,h3⟩:=hi
  have h:(bI x j).map (λc=>SV.str [c])=some v:=Option.some.inj h
  obtain⟨c,hc,rfl⟩:=Option.map_eq_some_iff.mp h
  have hc:(tx x).cps[j]?=some c:=by simpa using rQ hc
  unfold dK at h2
  by_cases ha:(tx x).cps.all (· <128)=true
  ·rw[if_pos ha]at h2
   refine wpAny_pyNext_ascii_item (i:=j) ⟨o,k3,h2,h3⟩ hc λh' hit' hs'=>?_
   refine hold λG_ fin_=>?_
   obtain⟨o',f1,f2,f3⟩:=hit'
   refine fin_ ?_
   exact go (.str [c] _) (o':=o') ⟨by unfold dK;rw[if_pos ha];exact f2,t,f3⟩ f1 hs'
  ·rw[if_neg ha]at h2
   refine wpAny_pyNext_wide_item (i:=j) ⟨o,k3,h2,h3⟩ hc λh' hit' hs'=>?_
   refine hold λG_ fin_=>?_
   obtain⟨o',f1,f2,f3⟩:=hit'
   refine fin_ ?_
   exact go (.str [c] _) (o':=o') ⟨by unfold dK;rw[if_neg ha];exact f2,t,f3⟩ f1 hs'
 |range a m=>
  have hi:o=_:=hi
  subst hi
  have h:Bool.rec (motive:=λO=>Option SV) none (some (SV.int (Int.add a (.ofNat j)))) (Nat.blt j m)=some v:=Option.some.inj h
  induction hb:Nat.blt j m with
  |false=>rw[hb]at h;exact fo h
  |true=>
   rw[hb]at h
   have hj:j<m:=Nat.lt_of_succ_le (Nat.le_of_ble_eq_true (n:=j+1) hb)
   obtain rfl:=Option.some.inj h
   refine wpAny_pyNext_range_item k3 (Int.sub_pos.mpr (Int.ofNat_lt.mpr hj)) λh' hit' hs'=>?_
   exact go (o':=_) (.int (Int.add a (.ofNat j)) _) (by
    show _=_
    have e1:a+(j:Int)+1=a+((j+1:Nat):Int):=by exact Int.add_assoc _ _ 1
    have e2:(m:Int)-j-1=(m:Int)-((j+1:Nat):Int):=by exact(Int.sub_sub _ _ 1)
    rw[e1,e2]) hit' hs'
 |lrange a m=>
  obtain⟨x,hX,hi⟩:=hi
  subst hi
  have h:Bool.rec (motive:=λO=>Option SV) none (some (SV.lin (Int.add a (.ofNat j)))) (Nat.blt j m)=some v:=Option.some.inj h
  induction hb:Nat.blt j m with
  |false=>rw[hb]at h;exact fo h
  |true=>
   rw[hb]at h
   have hj:j<m:=Nat.lt_of_succ_le (Nat.le_of_ble_eq_true (n:=j+1) hb)
   obtain rfl:=Option.some.inj h
   refine wpAny_pyNext_range_item k3 (Int.sub_pos.mpr (Int.ofNat_lt.mpr hj)) λh' hit' hs'=>?_
   have e0:x+a+(j:Int)=x+Int.add a (.ofNat j):=by show _=x+(a+(j:Int));exact Int.add_assoc _ _ _
   refine go (o':=_) (by rw[e0];exact VR.lin x (Int.add a (.ofNat j)) _ hX) ⟨x,hX,?_⟩ hit' hs'
   have e1:x+a+(j:Int)+1=x+a+((j+1:Nat):Int):=by exact Int.add_assoc _ _ 1
   have e2:(m:Int)-j-1=(m:Int)-((j+1:Nat):Int):=by exact(Int.sub_sub _ _ 1)
   rw[e1,e2]
 |vals i xs=>exact hi.elim
theorem uC(K:dG Z)(hh:A.handled=none)(I:Inv Z (C.hold it o) V J s)(he:∀(k:Nat) (o:Obj),C.ext[k]?≠some (it,o))(hi:ItO V src j o)(h:AQ J src j=some none)(q:∀h',Inv Z C V J {s with heap:=h'}->Q none {s with heap:=h'}):wpAny Z.M A (pyNext (.ref it)) Q E s:=by
 refine hold λG_ fin_=>?_
 obtain⟨k1,k2,k3⟩:=I.held
 refine fin_ ?_
 have go:∀h':Heap,Heap.ExtBut it s.heap h'->Q none {s with heap:=h'}:=λh' hx=>q h' (I.unhold.but (t:=s.toks) k1 k2 he λb x hb e=>hx b x hb e)
 induction src with
 |list i=>
  refine hold λG_ fin_=>?_
  obtain⟨h1,h2,h3⟩:=hi
  refine fin_ ?_
  change(match J.T.get i with|some (.list xs)=>some (bI xs j)|_=>none)=_ at h
  induction hx:J.T.get i with
  |none=>rw[hx]at h;exact fo h
  |some ob=>
   rw[hx]at h
   induction ob with
   |list xs=>
    have h:bI xs j=none:=Option.some.inj h
    refine hold λG_ fin_=>?_
    obtain⟨t1,t2,_,us,ep,g1,g2⟩:=I.T i _ hx
    refine fin_ ?_
    have:=gT h g2
    exact wpAny_pyNext_list_end (i:=j) hh ⟨o,k3,h2,h3⟩ ⟨_,g1,rfl,ep,rfl⟩ (by simpa using this) go
   |_=>exact fo h
 |tup i=>
  refine hold λG_ fin_=>?_
  obtain⟨h1,h2,h3⟩:=hi
  refine fin_ ?_
  change(match J.T.get i with|some (.tup xs)=>some (bI xs j)|_=>none)=_ at h
  induction hx:J.T.get i with
  |none=>rw[hx]at h;exact fo h
  |some ob=>
   rw[hx]at h
   induction ob with
   |tup xs=>
    have h:bI xs j=none:=Option.some.inj h
    refine hold λG_ fin_=>?_
    obtain⟨t1,t2,_,us,ep,g1,g2⟩:=I.T i _ hx
    refine fin_ ?_
    have:=gT h g2
    exact wpAny_pyNext_tuple_end (i:=j) hh ⟨o,k3,h2,h3⟩ ⟨_,g1,rfl,ep,rfl⟩ (by simpa using this) go
   |_=>exact fo h
 |kt a=>
  refine hold λG_ fin_=>?_
  obtain⟨h2,h3⟩:=hi
  refine fin_ ?_
  change(match aE d5 a with|some (.tup xs)=>some (bI xs j)|_=>none)=_ at h
  induction hx:aE d5 a with
  |none=>rw[hx]at h;exact fo h
  |some ob=>
   rw[hx]at h
   induction ob with
   |tup xs=>
    have h:bI xs j=none:=Option.some.inj h
    refine hold λG_ fin_=>?_
    obtain⟨ht,_,hl,us,ep,g1,g2⟩:=K a _ hx
    refine fin_ ?_
    have:=gT h (g2 V)
    exact wpAny_pyNext_tuple_end (i:=j) hh ⟨o,k3,h2,h3⟩ ⟨_,I.base.old _ _ g1 ht,rfl,ep,rfl⟩ (by simpa using this) go
   |_=>exact fo h
 |str x=>
  refine hold λG_ fin_=>?_
  obtain⟨h2,t,h3⟩:=hi
  refine fin_ ?_
  have h:(bI x j).map (λc=>SV.str [c])=none:=Option.some.inj h
  have hc:bI x j=none:=by cases q:bI x j with|none=>rfl|some c=>rw[q]at h;cases h
  have hc:(tx x).cps[j]?=none:=by
   have:=oY hc
   simpa using this
  unfold dK at h2
  by_cases ha:(tx x).cps.all (· <128)=true
  ·rw[if_pos ha]at h2
   exact wpAny_pyNext_ascii_end (i:=j) hh ⟨o,k3,h2,h3⟩ hc go
  ·rw[if_neg ha]at h2
   exact wpAny_pyNext_wide_end (i:=j) hh ⟨o,k3,h2,h3⟩ hc go
 |range a m=>
  have hi:o=_:=hi
  subst hi
  have h:Bool.rec (motive:=λO=>Option SV) none (some (SV.int (Int.add a (.ofNat j)))) (Nat.blt j m)=none:=Option.some.inj h
  induction hb:Nat.blt j m with
  |true=>rw[hb]at h;cases h
  |false=>
   have hj:¬j<m:=λe=>by have:=Nat.ble_eq_true_of_le (n:=j+1) (m:=m) e;rw[show Nat.blt j m=Nat.ble (j+1) m from rfl]at hb;rw[this]at hb;cases hb
   exact wpAny_pyNext_range_end hh k3 (Int.sub_nonpos_of_le (Int.ofNat_le.mpr (Nat.not_lt.mp hj))) go
 |lrange a m=>
  refine hold λG_ fin_=>?_
  obtain⟨x,hX,hi⟩:=hi
  refine fin_ ?_
  subst hi
  have h:Bool.rec (motive:=λO=>Option SV) none (some (SV.lin (Int.add a (.ofNat j)))) (Nat.blt j m)=none:=Option.some.inj h
  induction hb:Nat.blt j m with
  |true=>rw[hb]at h;cases h
  |false=>
   have hj:¬j<m:=λe=>by have:=Nat.ble_eq_true_of_le (n:=j+1) (m:=m) e;rw[show Nat.blt j m=Nat.ble (j+1) m from rfl]at hb;rw[this]at hb;cases hb
   exact wpAny_pyNext_range_end hh k3 (Int.sub_nonpos_of_le (Int.ofNat_le.mpr (Nat.not_lt.mp hj))) go
 |vals i xs=>exact hi.elim
end
end
section
set_option backward.match.sparseCases false
open PySem.SeqAt
section
variable{Z:Gd}{C:Cf}{V:Vl}{J:St}{s:Shared}{A:Around}{env:Env}{c:Cx}{n:Nat}{kx:KX}{E:Value->Shared->Prop}
theorem eT(I:Inv Z C V J s)(hf:o.isFreed=false)(t:Nat):Inv Z (C.hold s.heap.objs.size o) V J {s with heap:=s.heap.push o,toks:=t}/\∀(k:Nat) (o:Obj),C.ext[k]?≠some (s.heap.objs.size,o):=by
 refine hold λG_ fin_=>?_
 obtain⟨h1,h2,h3⟩:=I.new_none (Nat.le_refl s.heap.objs.size)
 refine fin_ ?_
 exact⟨(I.more (t:=t) (h':=s.heap.push o) λb x e=>Heap.get?_push_of_some _ e).hold h1 h2 (Heap.get?_push_size _ hf),h3⟩
theorem jK{a c:Int}(h1: -5000<a)(h2:a<5000)(h3: -5000<c)(h4:c<5000):Builtin.Range.small a c 1=true/\Builtin.Range.rangeSize a c 1=((c-a).toNat:Int):=by
 have e:Builtin.Range.rangeSize a c 1=((c-a).toNat:Int):=by
  unfold Builtin.Range.rangeSize
  rw[if_pos (by decide)]
  by_cases q:a<c
  ·rw[if_pos q,Int.ediv_one];exact aPe q
  ·rw[if_neg q];exact aPf q
 refine⟨?_,e⟩
 unfold Builtin.Range.small
 rw[e]
 have f:∀x:Int,-20000<x->x<20000->Builtin.Range.rangeFitsLong x=true:=λx p q=>by
  unfold Builtin.Range.rangeFitsLong
  rw[Bool.and_eq_true,decide_eq_true_eq,decide_eq_true_eq];exact⟨Int.le_trans (by decide) (Int.le_of_lt p),Int.lt_trans q (by decide)⟩
 rw[f a (Int.lt_trans (by decide) h1) (Int.lt_trans h2 (by decide)),f c (Int.lt_trans (by decide) h3) (Int.lt_trans h4 (by decide)),f 1 (by decide) (by decide),f ((c-a).toNat:Int) (Int.lt_of_lt_of_le (by decide) (Int.natCast_nonneg _)) (aPg h1 h4),if_pos (by decide),f (c+(1-1)) (Int.lt_of_lt_of_le (Int.lt_trans (by decide) h3) (Int.le_of_eq (Int.add_zero _).symm)) (Int.lt_of_le_of_lt (Int.le_of_eq (Int.add_zero _)) (Int.lt_trans h4 (by decide)))]
 simp
set_option tactic.hygienic true in
theorem nJ(K:dG Z)(I:Inv Z C V J s)(h:pE J v=some src)(r:VR V v u)(q:∀it o h',(∀(k:Nat) (o:Obj),C.ext[k]?≠some (it,o))->ItO V src 0 o->Inv Z (C.hold it o) V J {s with heap:=h'}->Q (.ref it) {s with heap:=h'}):wpAny Z.M A (pyIter u) Q E s:=by
 have go:∀{o:Obj},o.isFreed=false->ItO V src 0 o->Q (.ref s.heap.objs.size) {s with heap:=s.heap.push o}:=λ{o} hf hi=>
  q _ o _ (eT I hf s.toks).2 hi (eT I hf s.toks).1
 induction r with
 |ref i hi=>
  change(match(generalizing:=false) J.T.get i with
   |some (.list _)=>some (Src.list i)
   |some (.tup _)=>some (.tup i)
   |some (.range a n)=>some (.range a n)
   |some (.lrange a n)=>some (.lrange a n)
   |_=>none)=some src at h
  split at h
  ·rename_i xs hx
   refine hold λG_ fin_=>?_
   obtain rfl:=Option.some.inj h
   obtain⟨_,_,_,us,ep,g1,g2⟩:=I.T i _ hx
   refine fin_ ?_
   exact wpAny_pyIter_list ⟨_,g1,rfl,ep,rfl⟩ (go rfl ⟨hi,rfl,rfl⟩)
  ·rename_i xs hx
   refine hold λG_ fin_=>?_
   obtain rfl:=Option.some.inj h
   obtain⟨_,_,_,us,ep,g1,g2⟩:=I.T i _ hx
   refine fin_ ?_
   exact wpAny_pyIter_tuple ⟨_,g1,rfl,ep,rfl⟩ (go rfl ⟨hi,rfl,rfl⟩)
  ·rename_i a m hx
   refine hold λG_ fin_=>?_
   obtain rfl:=Option.some.inj h
   obtain⟨_,_,c,t,u,v,g1,g2,b1,b2,b3,b4⟩:=I.T i _ hx
   obtain⟨e1,e2⟩:=jK b1 b2 b3 b4
   refine fin_ ?_
   refine wpAny_pyIter_range g1 e1 ?_
   rw[e2,g2]
   refine go rfl ?_
   show _=_
   simp
  ·rename_i a m hx
   refine hold λG_ fin_=>?_
   obtain rfl:=Option.some.inj h
   obtain⟨_,_,x,c,t,u,v,hX,g1,g2,b1,b2,b3,b4⟩:=I.T i _ hx
   obtain⟨e1,e2⟩:=jK b1 b2 b3 b4
   refine fin_ ?_
   refine wpAny_pyIter_range g1 e1 ?_
   rw[e2,g2]
   refine go rfl ⟨x,hX,?_⟩
   simp
  ·exact fo h
 |kref a=>
  change(match(generalizing:=false) aE d5 a with
   |some (.tup _)=>some (Src.kt a)
   |_=>none)=some src at h
  split at h
  ·rename_i xs hx
   refine hold λG_ fin_=>?_
   obtain rfl:=Option.some.inj h
   obtain⟨ht,_,hl,us,ep,g1,g2⟩:=K a _ hx
   refine fin_ ?_
   exact wpAny_pyIter_tuple ⟨_,I.base.old _ _ g1 ht,rfl,ep,rfl⟩ (go rfl ⟨rfl,rfl⟩)
  ·exact fo h
 |str x t=>
  obtain rfl:=Option.some.inj h
  cases ha:(tx x).cps.all (· <128)
  ·exact wpAny_pyIter_wide ha (go rfl ⟨by unfold dK;rw[ha];rfl,t,rfl⟩)
  ·exact wpAny_pyIter_ascii ha (go rfl ⟨by unfold dK;rw[ha];rfl,t,rfl⟩)
 |_=>exact fo h
theorem kH(h:j7 v k=true):k v=true:=by
 induction v with
 |int i=>exact bD (k:=λi=>k (.int i)) h
 |lin i=>exact bD (k:=λi=>k (.lin i)) h
 |_=>exact h
end
section
variable{Z:Gd}(G:aU Z){n:Nat}{ih:Ih}(S:gS Z n ih){C:Cf}{V:Vl}{J:St}{s:Shared}{A:Around}{env:Env}{c:Cx}{k:KK}{kx:KX}{E:Value->Shared->Prop}
theorem QX.noted(xx:QX Z C V kx E)(a:AOk C A n)(en:EnvOk C V c env):QX Z C V kx (notedBy Z.M A env (cameBackBy Z.M A env E)):=
 λx u J V' s h le I r hx=>uB I a (en.mono le) h r hx (xx.mono le)
include S in
theorem pU(h:ih (.ev e c) J k kx=true):∀x,foldedSetIterable e env x=pure x:=λx=>by
 induction e using PySem.Expr.casesOn with
 |Set es j p=>rw[S.noset]at h;exact ff h
 |_=>rfl
include G S in
theorem Z3(I:Inv Z C V J s)(a:AOk C A n)(en:EnvOk C V c env)(hh:A.handled=none)(h:S5 ih t e bd c J k kx=true)(q:QF Z C V k Q)(xx:QX Z C V kx E):
 wpAny Z.M A (exec (.For t e bd [] p) env) Q E s:=by
 refine wpAny_For (S.ev h I a en (.inl hh) (λv u J' V' s' h' le I' r=>?_) xx) (pU S h)
 refine hold λG_ fin_=>?_
 obtain⟨src,hsrc,h'⟩:=some?_eq (onVal_case h')
 refine fin_ ?_
 refine nJ G.kref I' hsrc r λit o hp he hi I₂=>?_
 refine codeAny_forLoop_any (λm s=>∃j J V2 o,ZE ih c t bd src kx m j J k=true/\V.Le V2/\ItO V2 src j o/\Inv Z (C.hold it o) V2 J s) (λm s hI=>?_) 100 ⟨0,J',V',o,h',le,hi,I₂⟩
 refine hold λG_ fin_=>?_
 obtain⟨j,J,V2,o,h,le,hi,I⟩:=hI
 refine fin_ ?_
 induction m using Nat.casesOn with
 |zero=>exact ff h
 |succ m=>
  refine hold λG_ fin_=>?_
  obtain⟨d,hd,h⟩:=some?_eq (h:some? (AQ J src j) (λd=>
   Option.rec (motive:=λO=>Bool) (k .next J) (λv=>j7 v λv=>bX ih c t v J (λJ=>ih (.exs bd c) J (λr J=>
    Rs.rec (motive:=λO=>Bool) (λO=>false) (ZE ih c t bd src kx m (Nat.succ j) J k) (λv=>k (.ret v) J) r) kx) kx) d)=true)
  refine fin_ ?_
  induction d with
  |none=>exact uC G.kref hh I he hi hd λh' I3=>wpAny_pure (q.next _ _ _ h le I3)
  |some v=>
   have h:=kH h
   refine pT G.kref I he hi hd λu h' o' tk vr hi' I3=>?_
   refine wX I3.held.2.2 hi' ?_
   have x3:QX Z (C.hold it o') V2 kx (notedBy Z.M A env (cameBackBy Z.M A env E)):=((xx.mono le).noted a (en.mono le)).hold
   refine eJ G S I3 a.hold (en.mono le).hold hh h vr (λJ2 V3 s2 hk le3 I4=>?_) x3
   refine S.exs hk I4 a.hold (en.mono (le.trans le3)).hold (.inl hh) ⟨λJ4 V4 s4 h4 le4 I4=>?_,λv u J4 V4 s4 h4 le4 I4 r4=>?_⟩ (x3.mono le3)
   ·exact⟨m,Nat.lt_succ_self _,j+1,J4,V4,o',h4,(le.trans le3).trans le4,hi'.mono (le3.trans le4),I4⟩
   ·exact q.ret _ _ _ _ _ h4 ((le.trans le3).trans le4) I4.unhold r4
include S in
theorem FK(I:Inv Z C V J s)(a:AOk C A n)(en:EnvOk C V c env)(hh:A.handled=none)(h:qU ih c t bd kx f J k=true)(q:QF Z C V k Q)(xx:QX Z C V kx E):
 wpAny Z.M A (exec (.While t bd [] p) env) Q E s:=by
 refine wpAny_While ?_
 refine codeAny_whileLoop (λm s=>∃J V2,qU ih c t bd kx m J k=true/\V.Le V2/\Inv Z C V2 J s) (λm s hI=>?_) f ⟨J,V,h,Vl.Le.refl V,I⟩
 obtain⟨J,V2,h,le,I⟩:=hI
 induction m using Nat.casesOn with
 |zero=>exact ff h
 |succ m=>
  have x3:QX Z C V2 kx (notedBy Z.M A env (cameBackBy Z.M A env E)):=(xx.mono le).noted a (en.mono le)
  refine S.tr h I a (en.mono le) (.inl hh) (λv J' V' s' h' le' I'=>?_) x3
  obtain⟨b,hb,h'⟩:=some?_eq (onVal_case h')
  refine⟨b,hb,?_⟩
  induction b with
  |false=>exact wpAny_pure (q.next _ _ _ h' (le.trans le') I')
  |true=>
   refine S.exs h' I' a (en.mono (le.trans le')) (.inl hh) ⟨λJ4 V4 s4 h4 le4 I4=>?_,λv u J4 V4 s4 h4 le4 I4 r4=>?_⟩ (x3.mono le')
   ·exact⟨m,Nat.lt_succ_self _,J4,V4,h4,(le.trans le').trans le4,I4⟩
   ·exact q.ret _ _ _ _ _ h4 ((le.trans le').trans le4) I4 r4
end
end
section
open PySem.SeqAt
theorem wY(p:Str×NameKind)(l:List (Str×NameKind))(n:Nm):aF (p::l) n=if p.1=tx n then some p.2 else aF l n:=by
 show Bool.rec (motive:=λO=>Option NameKind) (aF l n) (some p.2) (cC p.1.cps.toList n)=_
 rw[cV]
 by_cases h:p.1=tx n
 ·have:p.1.cps.toList=n:=by rw[h]
  rw[if_pos h,decide_eq_true this]
 ·have:¬p.1.cps.toList=n:=λe=>h (by rw[<-e])
  rw[if_neg h,decide_eq_false this]
theorem bU(l:List (Str×NameKind))(n:Nm):aF l n=l.lookup (tx n):=by
 induction l with
 |nil=>rfl
 |cons p l ih=>
  rw[wY,ih,List.lookup_cons]
  by_cases h:p.1=tx n
  ·rw[if_pos h,show(tx n==p.1)=true from beq_iff_eq.mpr h.symm]
  ·rw[if_neg h,show(tx n==p.1)=false from beq_eq_false_iff_ne.mpr λe=>h e.symm]
theorem a8{α:Type}{f:α->Bool}{l:List α}(h:bG f l=true)(x:α)(hx:x∈l):f x=true:=by
 induction l with
 |nil=>exact absurd hx List.not_mem_nil
 |cons a l ih=>
  obtain⟨h1,h2⟩:=aB (b:=f a) (x:=bG f l) h
  rcases List.mem_cons.mp hx with rfl|hx
  ·exact h1
  ·exact ih h2 hx
theorem fP(h:dM l=true)(x:Str×NameKind)(hx:x∈l):l.lookup x.1=some x.2:=by
 induction l with
 |nil=>exact absurd hx List.not_mem_nil
 |cons p l ih=>
  have h:Bool.rec (motive:=λO=>Bool) false (dM l) (wC (aF l (aA p.1)))=true:=h
  obtain⟨h1,h2⟩:=aB h
  rw[List.lookup_cons]
  rcases List.mem_cons.mp hx with rfl|hx
  ·rw[show(x.1==x.1)=true from beq_self_eq_true _]
  ·have e:=ih h2 hx
   have:(x.1==p.1)=false:=beq_eq_false_iff_ne.mpr λq=>by
    rw[bU,aJ,<-q,e]at h1;exact ff h1
   rw[this];exact e
structure zI(sc:Scope):Prop where
 kind:sc.kind= .function
 gen:sc.isGenerator=false
 co:sc.isCoroutine=false
 look:∀x,x∈sc.names->sc.names.lookup x.1=some x.2
 dbg:sc.names.lookup ("__debug__" :Str)=none
 cld:sc.names.lookup ("__classdict__" :Str)=none
 sup:sc.names.lookup ("super" :Str)=none
theorem FL:tx yU=("__debug__" :Str):=by decide+kernel
theorem P2:tx EH=("__classdict__" :Str):=by decide+kernel
theorem FM:tx yV=("super" :Str):=by decide+kernel
theorem mA(h:wC o=true):o=none:=by induction o with|none=>rfl|some _=>exact ff h
theorem dW(h:AO sc=true):zI sc:=by
 obtain⟨⟨⟨⟨e1,e2⟩,e3⟩,e4⟩,e5⟩:=EU h
 obtain⟨⟨d1,d2⟩,d3⟩:=hV e5
 have k:sc.kind= .function:=by
  unfold EG at e1
  generalize sc.kind=k at e1
  induction k with
  |function=>rfl
  |_=>exact ff e1
 refine⟨k,(Bool.not_eq_true' _).mp e2,(Bool.not_eq_true' _).mp e3,fP e4,?_,?_,?_⟩
 ·have:=mA d1;rwa [bU,FL]at this
 ·have:=mA d2;rwa [bU,P2]at this
 ·have:=mA d3;rwa [bU,FM]at this
structure mB(sc:Scope)(c:Cx):Prop where
 base:zI sc
 cell:∀x,x∈sc.names->x.2≠ .cell
 free:∀x,x∈sc.names->x.2= .free->(∃j,aD c.cells (aA x.1)=some j)/\(aF c.names (aA x.1)=some .cell∨aF c.names (aA x.1)=some .free)
theorem fI{l:List (Str×NameKind)}(h:lW l=true):∀x,x∈l->x.2≠ .cell:=λx hx e=>by
 have:=a8 h x hx
 rw[e]at this;exact ff this
theorem nK{sc:Scope}{c:Cx}(h:EI sc c=true):mB sc c:=by
 obtain⟨onames,cells,tb⟩:=c
 obtain⟨⟨e1,e2⟩,e3⟩:=hV h
 refine⟨dW e1,fI e2,λx hx e=>?_⟩
 have:=a8 e3 x hx
 rw[e]at this
 have this:(match aD cells (aA x.1)with|some _=>ZC (aF onames (aA x.1))|none=>false)=true:=this
 induction hj:aD cells (aA x.1)with
 |none=>rw[hj]at this;exact ff this
 |some j=>
  rw[hj]at this
  refine⟨⟨j,rfl⟩,?_⟩
  have this:ZC (aF onames (aA x.1))=true:=this
  show aF onames (aA x.1)=some .cell∨aF onames (aA x.1)=some .free
  generalize aF onames (aA x.1)=o at this
  induction o with
  |none=>exact ff this
  |some k=>induction k with
   |cell=>exact .inl rfl
   |free=>exact .inr rfl
   |_=>exact ff this
theorem f9{env:Env}{g:Str->NameKind->NameKind}:∀(l:List (Str×NameKind)) (x:Str),(l.map λp=>(p.1,g p.1 p.2)).lookup x=(l.lookup x).map (g x)
 | [],x=>rfl
 |p::l,x=>by
  rw[List.map_cons,List.lookup_cons,List.lookup_cons]
  induction q:x==p.1 with
  |true=>rw[beq_iff_eq]at q;subst q;rfl
  |false=>exact f9 (env:=env) l x
theorem iD(sc:Scope)(env:Env)(x:Str):(relabel sc env).names.lookup x=(sc.names.lookup x).map λk=>if(k==NameKind.free&&env.scope.kind== .function&&env.kindOf x==some .cell)=true then .cell else k:=by
 have e:(relabel sc env).names=sc.names.map λp=>(p.1,if(p.2==NameKind.free&&env.scope.kind== .function&&env.kindOf p.1==some .cell)=true then .cell else p.2):=by
  unfold relabel
  refine List.map_congr_left λp O=>?_
  obtain⟨n,k⟩:=p
  dsimp only
  split<;>rfl
 rw[e]
 exact f9 (env:=env) (g:=λn k=>if(k==NameKind.free&&env.scope.kind== .function&&env.kindOf n==some .cell)=true then .cell else k) sc.names x
theorem uD(sc:Scope)(env:Env)(n:Nm)(hc:∀x,x∈sc.names->x.2≠ .cell):KindRel (aF sc.names n) ((relabel sc env).names.lookup (tx n)):=by
 rw[iD,bU]
 induction q:sc.names.lookup (tx n)with
 |none=>exact .none
 |some k=>
  rw[Option.map_some]
  by_cases z:(k==NameKind.free&&env.scope.kind== .function&&env.kindOf (tx n)==some .cell)=true
  ·rw[if_pos z]
   rw[eq_of_beq (hV z).1.1];exact .cell
  ·rw[if_neg z];exact .same k
theorem nL{α β:Type}{f:α->β->Sem (ForInStep β)}{x:α}{l:List α}{b b':β}(h:f x b=pure (.yield b')):(forIn (x::l) b f:Sem β)=forIn l b' f:=by
 rw[List.forIn_cons,h];rfl
theorem wZ:∀(l:List (Str×NameKind)) (cs:List (Str×Addr)),(∀x,x∈l->x.2= .free->∃a,env.cells.lookup x.1=some a)->(∀p,p∈cs->env.cells.lookup p.1=some p.2)->
 ∃cl,(do let mut cs:=cs
         for (name,kind)in l do
          if kind== .free then cs:=(name,<-PySem.cellOf env name)::cs
         return cs:Sem (List (Str×Addr)))=pure cl/\(∀p,p∈cl->env.cells.lookup p.1=some p.2)/\(∀x,x∈l->x.2= .free->∃a,(x.1,a)∈cl)/\∀p,p∈cs->p∈cl
 :=by
 intro l
 induction l with
 |nil=>intro cs O h2;exact⟨cs,rfl,h2,λO h=>absurd h List.not_mem_nil,λp hp=>hp⟩
 |cons p l ih=>
  intro cs h1 h2
  obtain⟨n,k⟩:=p
  by_cases hk:k= .free
  ·subst hk
   refine hold λG_ fin_=>?_
   obtain⟨a,ha⟩:=h1 (n,.free) (.head _) rfl
   obtain⟨cl,e,i1,i2,i3⟩:=ih ((n,a)::cs) (λx hx=>h1 x (.tail _ hx)) (λp hp=>by
    rcases List.mem_cons.mp hp with rfl|hp
    ·exact ha
    ·exact h2 p hp)
   refine fin_ ?_
   refine⟨cl,?_,i1,λx hx hf=>?_,λp hp=>i3 p (.tail _ hp)⟩
   ·rw[<-e]
    have:PySem.cellOf env n=pure a:=by unfold PySem.cellOf;rw[ha]
    refine congrArg (λz:Sem (List (Str×Addr))=>z >>= λs=>pure s) (nL ?_)
    show((if(NameKind.free==NameKind.free)=true then PySem.cellOf env n >>= λd=>pure (ForInStep.yield ((n,d)::cs))else pure (ForInStep.yield cs)):Sem _)=_
    rw[if_pos (show(NameKind.free==NameKind.free)=true from rfl),this]
    rfl
   ·rcases List.mem_cons.mp hx with rfl|hx
    ·exact⟨a,i3 _ (.head _)⟩
    ·exact i2 x hx hf
  ·obtain⟨cl,e,i1,i2,i3⟩:=ih cs (λx hx=>h1 x (.tail _ hx)) h2
   have hb:(k==NameKind.free)=false:=by simpa using hk
   refine⟨cl,?_,i1,λx hx hf=>?_,i3⟩
   ·rw[<-e]
    refine congrArg (λz:Sem (List (Str×Addr))=>z >>= λs=>pure s) (nL ?_)
    show((if(k==NameKind.free)=true then PySem.cellOf env n >>= λd=>pure (ForInStep.yield ((n,d)::cs))else pure (ForInStep.yield cs)):Sem _)=_
    rw[hb,if_neg Bool.false_ne_true]
   ·rcases List.mem_cons.mp hx with rfl|hx
    ·exact absurd hf hk
    ·exact i2 x hx hf
theorem w0{l:List (Str×Addr)}{f:Str->Option Addr}(h:∀p,p∈l->f p.1=some p.2){x:Str}{a:Addr}(hm:(x,a)∈l):l.lookup x=f x:=by
 induction l with
 |nil=>cases hm
 |cons p l ih=>
  rw[List.lookup_cons]
  induction q:x==p.1 with
  |true=>rw[beq_iff_eq]at q;rw[q,h p (.head _)]
  |false=>
   rcases List.mem_cons.mp hm with e|hm
   ·exfalso
    rw[<-e]at q
    rw[beq_self_eq_true]at q;cases q
   ·exact ih (λp hp=>h p (.tail _ hp)) hm
theorem iE{C:Cf}{V:Vl}{c:Cx}{env:Env}{sc:Scope}(en:EnvOk C V c env)(F:mB sc c):
 ∃cl,closureFor sc env=pure cl/\∀n j,aD c.cells n=some j->aF sc.names n=some .free->j<V.n/\cl.lookup (tx n)=some (V.ρ j):=by
 refine hold λG_ fin_=>?_
 obtain⟨cl,e,i1,i2,_⟩:=wZ (env:=env) sc.names [] (λx hx hf=>by
  obtain⟨⟨j,hj⟩,hk⟩:=F.free x hx hf
  have:=(en.cells _ j hj hk).2
  exact⟨_,by rwa [aJ]at this⟩) (λO h=>(List.not_mem_nil h).elim)
 refine fin_ ?_
 refine⟨cl,e,λn j hj hf=>?_⟩
 rw[bU]at hf
 have hm:=mem_of_lookup hf
 have hk':=(F.free _ hm rfl).2
 dsimp only at hk'
 obtain⟨h1,h2⟩:=en.cells n j hj (by have:aA (tx n)=n:=fD (aJ (tx n));rwa [this]at hk')
 obtain⟨a,ha⟩:=i2 _ hm rfl
 exact⟨h1,(w0 (f:=λx=>env.cells.lookup x) i1 ha).trans h2⟩
section
variable{Z:Gd}{C:Cf}{V:Vl}{J:St}{s:Shared}{A:Around}{env:Env}{c:Cx}{n:Nat}{kx:KX}{E:Value->Shared->Prop}
def Saved(C:Cf)(V:Vl)(L:List (Nm×SV))(es:Array DictEntry)(ep:Nat):Prop:=∃m,AR V L m/\∀(o:Obj) (h:Heap),o.data= .dict es ep->h.get? C.L=some o->h.Ns1 C.L m
noncomputable abbrev Cf.into(C:Cf)(Ln:Addr)(es:Array DictEntry)(ep:Nat)(envs:List Env):Cf:=⟨Ln,C.ext,C.frs++[(C.L,PySem.Data.dict es ep)],envs⟩
theorem Inv.enter(I:Inv Z C V J s)(hL:s.heap.objs.size≤Ln)(hk:∀b x,s.heap.get? b=some x->h'.get? b=some x)(hn:h'.Ns1 Ln m')(ha:AR V L' m')(envs:List Env):
 ∃es ep,Saved C V J.L es ep/\V.Le (V.note Ln (.fr (C.frs.length+1)))/\Inv Z (C.into Ln es ep envs) (V.note Ln (.fr (C.frs.length+1))) ⟨J.T,J.n,L',J.sy⟩ {s with heap:=h',toks:=t}:=by
 have hLn:∃y,h'.get? Ln=some y:=let⟨o,_,_,ho,_⟩:=hn;⟨o,ho⟩
 have le:V.Le (V.note Ln (.fr (C.frs.length+1))):=⟨Nat.le_refl _,λO O=>rfl,λa w h=>by
  obtain⟨y,hy⟩:=(I.own a w h).2
  exact(if_neg (λe:a=Ln=>absurd (Heap.lt_size hy) (Nat.not_lt.mpr (by rw[e];exact hL)))).trans h,λO e=>e,λO O e=>e,λO e=>e,λO O e=>e,rfl⟩
 have I₁:Inv Z C (V.note Ln (.fr (C.frs.length+1))) J {s with heap:=h',toks:=t}:=
  I.go le (λO=>False) rfl (λb x e=>⟨x,hk b x e⟩) (λa w h=>by
   change(if a=Ln then some (Own.fr (C.frs.length+1))else V.own a)=some w at h
   by_cases q:a=Ln
   ·exact .inr ⟨q▸hL,q▸hLn⟩
   ·rw[if_neg q]at h;exact .inl h) (λb x O e=>hk b x e) I.n (λk x h=>.inl ⟨h,id,id,id⟩) (.inl ⟨rfl,id⟩) (λO O=>id) (λO=>id) id (λi ks e=>.inl ⟨e,id⟩) I.X (l6 trivial)
 obtain⟨m,⟨o,es,ep,ho,hd,r⟩,har⟩:=I.L.2
 refine⟨es,ep,⟨m,har,λo h hd ho=>⟨o,es,ep,ho,hd,r⟩⟩,le,⟨I₁.base,I₁.tab,I₁.own,I₁.n,I₁.T,⟨?_,m',hn,ha.mono le⟩,λk a d h=>?_,I₁.ext,I₁.tk,I₁.X,I₁.tabLo,I₁.sm,I₁.sc,I₁.tg⟩⟩
 ·show(if Ln=Ln then _ else _)=_
  rw[if_pos rfl,List.length_append];rfl
 ·change(C.frs++[(C.L,PySem.Data.dict es ep)])[k]?=some (a,d)at h
  by_cases hlt:k<C.frs.length
  ·rw[List.getElem?_append_left hlt]at h
   exact I₁.frs k a d h
  ·rw[List.getElem?_append_right (Nat.le_of_not_lt hlt)]at h
   have hk0:k-C.frs.length=0:=by
    induction q:k-C.frs.length using Nat.casesOn with
    |zero=>rfl
    |succ z=>rw[q]at h;exact fo h
   have:k=C.frs.length:=by exact Nat.le_antisymm (Nat.le_of_sub_eq_zero hk0) (Nat.not_lt.mp hlt)
   subst this
   rw[hk0]at h
   cases h
   exact⟨I₁.L.1,o,hk _ _ ho,hd⟩
theorem Inv.leave{Ln:Addr}{es:Array DictEntry}{ep:Nat}{envs:List Env}{V':Vl}{J':St}{s':Shared}{L:List (Nm×SV)}(I:Inv Z (C.into Ln es ep envs) V' J' s')(sv:Saved C V' L es ep):Inv Z C V' ⟨J'.T,J'.n,L,J'.sy⟩ s':=by
 obtain⟨m,ha,hn⟩:=sv
 have hf:=I.frs C.frs.length C.L (.dict es ep) (by simp[Cf.into])
 obtain⟨h1,o,h2,h3⟩:=hf
 exact⟨I.base,I.tab,I.own,I.n,I.T,⟨h1,m,hn o _ h3 h2,ha⟩,λk a d h=>I.frs k a d (by
  rw[List.getElem?_append_left (List.getElem?_eq_some_iff.mp h).1];exact h),I.ext,I.tk,I.X,I.tabLo,I.sm,I.sc,I.tg⟩
theorem Saved.mono(le:V.Le V')(h:Saved C V L es ep):Saved C V' L es ep:=let⟨m,ha,hn⟩:=h;⟨m,ha.mono le,hn⟩
theorem Inv.leave'{Ln:Addr}{es:Array DictEntry}{ep:Nat}{envs:List Env}{V':Vl}{J':St}{s':Shared}{L:List (Nm×SV)}(I:Inv Z (C.into Ln es ep envs) V' J' s')(sv:Saved C V' L es ep){h':Heap}{t:Nat}(hs:Heap.SameBut Ln s'.heap h')(hl:∃y,h'.get? Ln=some y):
 Inv Z C V' ⟨J'.T,J'.n,L,J'.sy⟩ {s' with heap:=h',toks:=t}:=by
 have hown:V'.own Ln=some (.fr (C.frs.length+1)):=by have:=I.L.1;simpa [Cf.into]using this
 refine(I.leave sv).go (Vl.Le.refl V') (λw=>w= .fr (C.frs.length+1)) rfl (aZ hs hl) (λa o h=>.inl h) (λb o hb e=>(hs.2 b λq=>hb _ (q▸hown) rfl).trans e) I.n (λk x h=>.inl ⟨h,nofun,nofun,nofun⟩)
  (.inl ⟨rfl,λe=>?_⟩) (λk hk e=>?_) (λO=>nofun) nofun (λi ks e=>.inl ⟨e,nofun⟩) I.X
 ·have:=Own.fr.inj e;exact Nat.succ_ne_self _ this.symm
 ·have:=Own.fr.inj e;exact Nat.not_lt.mpr (this▸Nat.le_add_right _ 1) hk
theorem AOk.into(h:AOk C A n):AOk (C.into Ln es ep C.envs) A n:=
 ⟨h.depth,h.units,h.frames,λe he=>by
   obtain⟨h1,a,h2,h3⟩:=h.fr e he
   refine⟨h1,a,h2,.inr ?_⟩
   rcases h3 with rfl|⟨k,es',ep',hk⟩
   ·exact⟨C.frs.length,es,ep,by simp[Cf.into]⟩
   ·exact⟨k,es',ep',by
     show(C.frs++_)[k]?=_
     rw[List.getElem?_append_left (List.getElem?_eq_some_iff.mp hk).1];exact hk⟩⟩
theorem w5(ho:s.heap.get? l=some ⟨.type "list",none,.seq items k,#[]⟩)(hsz:items.size≤1000)(h:∀h' k',h'.get? l=some ⟨.type "list",none,.seq (items.push x) k',#[]⟩->Heap.SameBut l s.heap h'->Q .none {s with heap:=h'}):wpAny Z.M A (PySem.call (.builtin "list.append") [.ref l,x]) Q E s:=by
 have hl:s.heap.IsList l items:=⟨_,ho,rfl,k,rfl⟩
 refine wpAny_call_entry slot_list_append hl.typeIs entry_list_append ?_ (args_list_append _ _)
 show wpAny _ _ (updateSeq l (·.push x) >>= λO=>ret .none) _ _ s
 refine wpAny_bind ?_
 obtain⟨n',hd'⟩:=Obj.data_mapSeq (o:=⟨.type "list",none,.seq items k,#[]⟩) rfl (·.push x)
 refine wpAny_updateSeq ho rfl (wpAny_pure ⟨.none,rfl,h _ _ (Heap.get?_update_self _ ho (Obj.isFreed_of_seq hd')) (Heap.SameBut.update ..)⟩)
theorem FN{α:Type}(x:α):∀(l:List α) (k:List α->Bool),mM x l k=k (l++[x]):=by
 intro l
 induction l with
 |nil=>
  intro k
  exact rfl
 |cons a l rec_=>
  intro k
  show mM x l (λl'=>k (a::l'))=_
  rw[rec_];rfl
theorem fJ(I:Inv Z C V J s)(ho:J.T.get i=some (.list xs))(hv:VR V v u)(h:(mM v xs λxs'=>j4 J i xs' k)=true)(q:∀J' h',k J'=true->Inv Z C V J' {s with heap:=h'}->Heap.SameBut (V.ρ i) s.heap h'->Q .none {s with heap:=h'}):wpAny Z.M A (PySem.call (.builtin "list.append") [.ref (V.ρ i),u]) Q E s:=by
 rw[FN]at h
 refine hold λG_ fin_=>?_
 obtain⟨hl,h⟩:=aB h
 obtain⟨T',hT,h⟩:=a0 h
 obtain⟨t1,t2,l1,us,ep,g1,g2⟩:=I.T i _ ho
 refine fin_ ?_
 have lu:us.size=xs.length:=by rw[g2.length];simp
 refine w5 g1 (by rw[lu];exact l1) λh' k' e hs=>q _ h' h (I.store (t:=s.toks) ho hT (λx e=>by rw[g1]at e;obtain rfl:=Option.some.inj e;exact λe=>absurd (Value.type.inj e) (by decide)) (aZ hs ⟨_,e⟩)
  (λb x b1 O O e=>(hs.2 b (λz=>b1 (by rw[z];exact t2))).trans e) ⟨aS hl,_,k',e,?_⟩) hs
 rw[Array.toList_push]
 exact g2.append ⟨hv,trivial⟩
end
end
section
open PySem.SeqAt
section
variable{M:Model}{A:Around}{E:Value->Shared->Prop}{s:Shared}{env:Env}
def iF(M:Model)(A:Around)(E:Value->Shared->Prop)(use:Option (Value->Sem Unit))(Q:Value->Shared->Prop)(acc:Value)(Cn:Addr)(r:Result)(s':Shared):Prop:=
 match r,use with
 |.ok _,none=>∃m,s'.heap.Ns Cn m/\∀h' m',h'.Ns Cn m'->Heap.SameBut Cn s'.heap h'->Q acc {s' with heap:=h'}
 |.ok _,some u=>wpAny M A (u acc) (λO s''=>∃m,s''.heap.Ns Cn m/\∀h' m',h'.Ns Cn m'->Heap.SameBut Cn s''.heap h'->Q .none {s'' with heap:=h'}) E s'
 |.error x,_=>∃m,s'.heap.Ns Cn m/\∀h' m',h'.Ns Cn m'->Heap.SameBut Cn s'.heap h'->∀cenv:Env,wpAny M A (PySem.passOn "comprehension.variables-let-go" x cenv:Sem Value) Q E {s' with heap:=h'}
theorem A4(hcl:clausesOf e=g::gs)(hs:∀x,foldedSetIterable g.iter env x=pure x)(hclos:closureFor scope env=pure cl)(hkind:scope.kind= .function)(hnames:∀x∈scope.names,scope.names.lookup x.1=some x.2)(h:wpAny M A first (λx s₁=>wpAny M A (pyIter x) (λit s₂=>wpAny M A newAcc (λacc s₃=>wpAny M A (newFunctionEnv scope env.globals cl [] env.qual none .none (some env)) (λcenv s₄=>
 codeAny M A (.compStart e 0 it acc {cenv with scope:=relabel scope env}) (iF M A E use Q acc cenv.locals) s₄) E s₃) E s₂) E s₁) E s):wpAny M A (comprehension e scope env pos newAcc false first use) Q E s:=by
 unfold comprehension
 rw[hclos,hcl]
 refine wpAny_bind (wpAny_mono h (λx s₁ h₁=>?_) λO O y=>y)
 refine wpAny_bind (wpAny_standAt (wpAny_bind (wpAny_of_eq (hs x) (wpAny_bind (wpAny_holding (wpAny_mono h₁ (λit s₂ h₂=>?_) λO O y=>y))))))
 refine wpAny_standIf (wpAny_bind (wpAny_mono h₂ (λacc s₃ h₃=>?_) λO O y=>y))
 refine wpAny_bind (wpAny_pure (wpAny_bind (wpAny_mono h₃ (λcenv s₄ h₄=>?_) λO O y=>y)))
 dsimp only
 have loc:∀x,x∈scope.names->x.2= .local->Env.kindOf {cenv with scope:=relabel scope env} x.1=some .local:=λx hx hl=>lookup_relabel_local ((hnames x hx).trans (by rw[hl]))
 have vs:∀l:List (Str×NameKind),(∀x,x∈l->x∈scope.names)->∀x∈l,x.2= .local->Env.kindOf {cenv with scope:=relabel scope env} x.1=some .local:=λl hl x hx=>loc x (hl x hx)
 have inn:∀x,x∈(scope.names.filter λx=>(x.2== .local||x.2== .cell)&&x.1 !=(".0" :Str)).reverse->x∈scope.names:=λx hx=>(List.mem_filter.mp (List.mem_reverse.mp hx)).1
 refine wpAny_holding (wpAny_bind (wpAny_attempt (wpAny_holding (wpAny_run (codeAny_mono h₄ λr s' hr=>?_)))))
 induction r with
 |ok f=>
  induction use with
  |none=>
   refine hold λG_ fin_=>?_
   obtain⟨m,hn,hr⟩:=hr
   refine fin_ ?_
   exact wpAny_bind (wpAny_holding (wpAny_comp_letGo (cenv:={cenv with scope:=relabel scope env}) hkind _ s' m (vs _ inn) hn λh' m' hn' hs'=>wpAny_pure (hr h' m' hn' hs')))
  |some u=>
   refine wpAny_bind (wpAny_rule (wpAny_bind (wpAny_holding (wpAny_mono hr (λO s'' hr'=>?_) λO O y=>y))))
   refine hold λG_ fin_=>?_
   obtain⟨m,hn,hr'⟩:=hr'
   refine fin_ ?_
   refine wpAny_bind (wpAny_comp_letGo (cenv:={cenv with scope:=relabel scope env}) hkind _ s'' m (vs _ λx hx=>?_) hn λh' m' hn' hs'=>wpAny_pure (hr' h' m' hn' hs'))
   rcases List.mem_append.mp hx with h1|h1
   ·exact inn x (List.mem_of_mem_drop h1)
   ·exact inn x (List.mem_of_mem_take h1)
 |error x=>
  have hr:iF M A E none Q acc cenv.locals (.error x) s':=by induction use<;>exact hr
  obtain⟨m,hn,hr⟩:=hr
  exact wpAny_bind (wpAny_holding (wpAny_comp_letGo (cenv:={cenv with scope:=relabel scope env}) hkind _ s' m (vs _ inn) hn λh' m' hn' hs'=>hr h' m' hn' hs' _))
end
section
variable{Z:Gd}{C:Cf}{V:Vl}{J:St}{s:Shared}{A:Around}{env:Env}{c:Cx}{n:Nat}{kx:KX}{E:Value->Shared->Prop}
theorem nM(ho:s.heap.get? it=some o)(hi:ItO V src j o)(q:Q (.ref it) s):wpAny Z.M A (pyIter (.ref it)) Q E s:=by
 induction src with
 |list i=>exact wpAny_pyIter_listiter ⟨o,ho,hi.2.1,hi.2.2⟩ q
 |tup i=>exact wpAny_pyIter_tupleiter ⟨o,ho,hi.2.1,hi.2.2⟩ q
 |kt a=>exact wpAny_pyIter_tupleiter ⟨o,ho,hi.1,hi.2⟩ q
 |str x=>
  obtain⟨h2,t,h3⟩:=hi
  unfold dK at h2
  by_cases ha:(tx x).cps.all (· <128)=true
  ·rw[if_pos ha]at h2;exact wpAny_pyIter_striter_ascii ⟨o,ho,h2,h3⟩ q
  ·rw[if_neg ha]at h2;exact wpAny_pyIter_striter_wide ⟨o,ho,h2,h3⟩ q
 |range a m=>have hi:o=_:=hi;subst hi;exact wpAny_pyIter_rangeiter ho q
 |lrange a m=>obtain⟨x,_,hi⟩:=hi;subst hi;exact wpAny_pyIter_rangeiter ho q
 |vals i xs=>exact hi.elim
theorem FO(en:EnvOk C V c env)(F:mB sc c)(hcl:∀n j,aD c.cells n=some j->aF sc.names n=some .free->j<V.n/\cl.lookup (tx n)=some (V.ρ j))(le:V.Le V'):
 EnvOk (C.into Ln es ep C.envs) V' ⟨sc.names,c.cells,0⟩ (compEnvC sc cl Ln env):=by
 have none_of:∀{x:Str},sc.names.lookup x=none->Env.kindOf (compEnvC sc cl Ln env) x=none:=λ{x} h=>by
  show(relabel sc env).names.lookup x=none
  rw[iD,h];rfl
 refine⟨F.base.kind,rfl,en.glob,en.bui,λn=>uD sc env n F.cell,none_of F.base.dbg,none_of F.base.cld,none_of F.base.sup,λn j hj hk=>?_,en.frm,λq=>absurd rfl q⟩
 have hk:aF sc.names n=some .free:=by
  rcases hk with hk|hk
  ·have hk:aF sc.names n=some .cell:=hk
   rw[bU]at hk
   exact absurd rfl (F.cell _ (mem_of_lookup hk))
  ·exact hk
 obtain⟨h1,h2⟩:=hcl n j hj hk
 exact⟨Nat.lt_of_lt_of_le h1 le.n,by rw[le.ρ j h1];exact h2⟩
end
section
variable{Z:Gd}(G:aU Z){n:Nat}{ih:Ih}(S:gS Z n ih){C:Cf}{V:Vl}{J:St}{s:Shared}{A:Around}{env:Env}{c:Cx}{k:KK}{kx:KX}{E:Value->Shared->Prop}
include S in
theorem uE(I:Inv Z C V J s)(a:AOk C A n)(en:EnvOk C V c env)(hh:A.handled=none)(h:i5 ih c kx ifs J kt=true)(q:∀b J' V' s',kt b J'=true->V.Le V'->Inv Z C V' J' s'->Q b s')(xx:QX Z C V kx E):
 wpAny Z.M A (forIn ifs true λc r=>if r=true then do let ok<-PySem.isTrue c env (eval c env);pure (ForInStep.yield ok)else pure (ForInStep.yield r)) Q E s:=by
 induction ifs using List.casesOn with
 |nil=>exact wpAny_tests_nil (q true J V s h (Vl.Le.refl V) I)
 |cons e es=>
  induction es using List.casesOn with
  |cons _ _=>exact ff h
  |nil=>
   refine wpAny_tests_one (S.tr (h:PF ih e c J kt kx=true) I a en (.inl hh) (λv J' V' s' h' le' I'=>?_) xx)
   obtain⟨b,hb,h'⟩:=some?_eq (onVal_case h')
   exact⟨b,hb,q b J' V' s' h' le' I'⟩
include G S in
theorem A5(a:AOk D A n)(hh:A.handled=none)(en:EnvOk D V cD envD)(I:Inv Z (D.hold it o) V J s)(he:∀(k:Nat) (o:Obj),D.ext[k]?≠some (it,o))(hi:ItO V src 0 o)(hacc:acc<V.n)(h:d7 ih cD (.Name x px) ifs elt acc src kxB 100 0 J kB=true)(hok:∀J' V' s',kB J'=true->V.Le V'->Inv Z D V' J' s'->R (.ok .next) s')(herr:QX Z D V kxB (notedBy Z.M A envD λx s'=>R (.error x) s')):
 codeAny Z.M A (.compLoop (.ListComp elt [⟨.Name x px,iter,ifs,0⟩] scope pos) 0 (.ref it) (.ref (V.ρ acc)) envD) R s:=by
 refine codeAny_compLoop_tests (λm s=>∃j J V2 o,d7 ih cD (.Name x px) ifs elt acc src kxB m j J kB=true/\V.Le V2/\ItO V2 src j o/\Inv Z (D.hold it o) V2 J s) (λm s hI=>?_) 100 ⟨0,J,V,o,h,Vl.Le.refl V,hi,I⟩
 refine hold λG_ fin_=>?_
 obtain⟨j,J,V2,o,h,le,hi,I⟩:=hI
 refine fin_ ?_
 induction m using Nat.casesOn with
 |zero=>exact ff h
 |succ m=>
  obtain⟨d,hd,h⟩:=some?_eq (h:some? (AQ J src j) (λd=>match d with
   |none=>kB J
   |some v=>j7 v λv=>bX ih cD (.Name x px) v J (λJ=>i5 ih cD kxB ifs J (λb J=>match b with
    |true=>ih (.ev elt cD) J (aL λy J=>h9 (J.T.get acc) λxs=>mM y xs λxs'=>j4 J acc (xs') λJ=>d7 ih cD (.Name x px) ifs elt acc src kxB m (Nat.succ j) J kB) kxB
    |false=>d7 ih cD (.Name x px) ifs elt acc src kxB m (Nat.succ j) J kB)) kxB)=true)
  induction d with
  |none=>exact uC G.kref hh I he hi hd λh' I3=>hok _ _ _ h le I3
  |some v=>
   have h:=kH h
   refine pT G.kref I he hi hd λu h' o' tk vr hi' I3=>?_
   have x3:=(herr.mono le).hold (a:=it) (o:=o')
   refine eJ G S I3 a.hold (en.mono le).hold hh h vr (λJ2 V3 s2 hk le3 I4=>?_) x3
   refine uE S I4 a.hold (en.mono (le.trans le3)).hold hh hk (λb J4 V4 s4 h4 le4 I5=>?_) (x3.mono le3)
   have le04:=(le.trans le3).trans le4
   induction b with
   |false=>exact(show∃m',m'<m+1/\_ from⟨m,Nat.lt_succ_self _,j+1,J4,V4,o',h4,le04,hi'.mono (le3.trans le4),I5⟩)
   |true=>
    show wpAny Z.M A (eval elt envD) _ _ s4
    refine S.ev h4 I5 a.hold (en.mono le04).hold (.inl hh) (λy w J5 V5 s5 h5 le5 I6 r6=>?_) (x3.mono (le3.trans le4))
    obtain⟨xs,hx,h5⟩:=c9 (onVal_case h5)
    rw[<-(le04.trans le5).ρ acc hacc]
    exact fJ I6 hx r6 h5 λJ6 h6 hk6 I7 O=>⟨m,Nat.lt_succ_self _,j+1,J6,V5,o',hk6,le04.trans le5,hi'.mono ((le3.trans le4).trans le5),I7⟩
end
end
section
set_option backward.match.sparseCases false
open PySem.SeqAt
section
variable{Z:Gd}(G:aU Z){n:Nat}{ih:Ih}(S:gS Z n ih){C:Cf}{V:Vl}{J:St}{s:Shared}{A:Around}{env:Env}{c:Cx}{k:KK}{kx:KX}{E:Value->Shared->Prop}
theorem FP(a:AOk C A n)(en:EnvOk (C.into Ln es ep C.envs) V₂ cD envD)(sv:Saved C V₂ L es ep)(xx:QX Z C V₂ kx E):
 QX Z (C.into Ln es ep C.envs) V₂ (i6 L kx) (notedBy Z.M A envD λx s'=>iF Z.M A E use Q acc Ln (.error x) s'):=λx u J' V' s' h le I r hx=>by
 obtain⟨i,K,fs,rfl,ho⟩:=hx
 exact VR.el_ref r λhi=>by
  unfold notedBy
  refine cB I a.into (en.mono le) ho λV4 h4 le4 I4 hb=>?_
  have e:iF Z.M A E none Q acc Ln (.error (.ref (V'.ρ i))) {s' with heap:=h4}->iF Z.M A E use Q acc Ln (.error (.ref (V'.ρ i))) {s' with heap:=h4}:=λq=>by induction use<;>exact q
  refine e ?_
  obtain⟨m,hm,_⟩:=I4.L.2
  refine⟨m,hm.ns,λh5 m5 hn5 hs5 cenv=>?_⟩
  have I5:=I4.leave' (sv.mono (le.trans le4)) (t:=s'.toks) hs5 (let⟨o,_,_,ho,_⟩:=hn5;⟨o,ho⟩)
  have ne:V4.ρ i≠Ln:=λq=>by
   have h1:=(I4.T i _ ho).2.1
   have h2:=I4.L.1
   rw[q]at h1
   rw[h1]at h2;cases h2
  rw[<-le4.ρ i hi]
  refine jJ I5 (kx:=kx) h (.ref i (Nat.lt_of_lt_of_le hi le4.n)) ⟨i,K,fs,rfl,ho⟩ (xx.mono (le.trans le4)) λj q=>?_
  cases q
  refine hold λG_ fin_=>?_
  obtain⟨K',d,vs,T,g1,g2⟩:=hb
  refine fin_ ?_
  exact⟨K',d,vs,T,(hs5.2 _ ne).trans g1,g2⟩
theorem nN(I:Inv Z (C.hold it o) V J s)(a:AOk C A n)(en:EnvOk C V c env)(F:mB sc c)(hcl:∀n j,aD c.cells n=some j->aF sc.names n=some .free->j<V.n/\cl.lookup (tx n)=some (V.ρ j))(h:alloc J (.list []) (λav τ=>match av with|.ref acc=>d7 ih ⟨sc.names,c.cells,0⟩ (.Name x px) ifs elt acc src (i6 J.L kx) 100 0 ⟨τ.T,τ.n,[],τ.sy⟩ (λτ=>kW J.L k (.ref acc) τ)|_=>false)=true)(xx:QX Z C V kx E)(self:∀{s':Shared} {Q':Value->Shared->Prop} {E':Value->Shared->Prop},s'.heap.get? it=some o->Q' (.ref it) s'->wpAny Z.M A (pyIter (.ref it)) Q' E' s')(loop:∀{Ln:Addr} {es:Array DictEntry} {ep acc:Nat} {V':Vl} {J':St} {s':Shared} {R:Result->Shared->Prop} {kB:St->Bool},V.Le V'->Inv Z ((C.into Ln es ep C.envs).hold it o) V' J' s'->EnvOk (C.into Ln es ep C.envs) V' ⟨sc.names,c.cells,0⟩ (compEnvC sc cl Ln env)->acc<V'.n->
 (∀b x,s.heap.get? b=some x->s'.heap.get? b=some x)->d7 ih ⟨sc.names,c.cells,0⟩ (.Name x px) ifs elt acc src (i6 J.L kx) 100 0 J' kB=true->
 (∀J'' V'' s'',kB J''=true->V'.Le V''->Inv Z (C.into Ln es ep C.envs) V'' J'' s''->R (.ok .next) s'')->QX Z (C.into Ln es ep C.envs) V' (i6 J.L kx) (notedBy Z.M A (compEnvC sc cl Ln env) λx s'=>R (.error x) s')->
 V.n≤acc->codeAny Z.M A (.compLoop (.ListComp elt [⟨.Name x px,iter,ifs,0⟩] sc pos) 0 (.ref it) (.ref (V'.ρ acc)) (compEnvC sc cl Ln env)) R s') (fin:∀{Ln:Addr} {es:Array DictEntry} {ep acc:Nat} {J':St} {V':Vl} {s':Shared},Saved C V' J.L es ep->k (.val (.ref acc)) ⟨J'.T,J'.n,J.L,J'.sy⟩=true->V.Le V'->Inv Z (C.into Ln es ep C.envs) V' J' s'->acc<V'.n->iF Z.M A E use Q (.ref (V'.ρ acc)) Ln (.ok .next) s'):
 wpAny Z.M A (newList []) (λacc s₃=>wpAny Z.M A (newFunctionEnv sc env.globals cl [] env.qual none .none (some env)) (λcenv s₄=>
  codeAny Z.M A (.compStart (.ListComp elt [⟨.Name x px,iter,ifs,0⟩] sc pos) 0 (.ref it) acc {cenv with scope:=relabel sc env}) (iF Z.M A E use Q acc cenv.locals) s₄) E s₃) E s:=by
 obtain⟨T',hT,h⟩:=aK h
 unfold newList
 refine wpAny_newObj_type (hd:=by size_fits) ?_
 have g:Heap.get? (s.heap.push {cls:=.type "list",data:=.seq ([]:List Value).toArray}) s.heap.objs.size=some {cls:=.type "list",data:=.seq ([]:List Value).toArray}:=Heap.get?_push_size _ rfl
 refine hold λG_ fin_=>?_
 obtain⟨le,vr,I'⟩:=I.alloc (h':=s.heap.push {cls:=.type "list",data:=.seq ([]:List Value).toArray}) (a:=s.heap.objs.size) (xs:=[]) (t:=none) (tk:=s.toks) hT (Nat.le_refl _) ⟨_,g⟩ (λp hp=>by cases hp)
  (λb x e=>Heap.get?_push_of_some _ e) ⟨Nat.zero_le _,#[],0,g,trivial⟩ (λO h=>fo h)
 refine fin_ ?_
 refine wpAny_newFunctionEnv F.cell (by intro y hy;cases hy) (λh₁ hns hsb=>?_) F.base.kind
 have keep:∀b x,(s.heap.push {cls:=.type "list",data:=.seq ([]:List Value).toArray}).get? b=some x->h₁.get? b=some x:=λb x e=>
  hsb.extBut b x (Nat.ne_of_lt (Heap.lt_size e)) (Heap.get?_push_of_some _ e)
 refine hold λG_ fin_=>?_
 obtain⟨es,ep,sv,le2,I2⟩:=I'.enter (t:=s.toks+([]:List (Str×Value)).length) (Nat.le_refl _) keep (Heap.Ns1.of_empty hns) (AR.nil _) C.envs
 refine fin_ ?_
 have le02:=le.trans le2
 have enD:=FO en F hcl (Ln:=(s.heap.push {cls:=.type "list",data:=.seq ([]:List Value).toArray}).objs.size) (es:=es) (ep:=ep) le02
 have sv':Saved C _ J.L es ep:=sv.mono le2
 have eacc:((V.add s.heap.objs.size [] none).note (s.heap.push {cls:=.type "list",data:=.seq ([]:List Value).toArray}).objs.size (.fr ((C.hold it o).frs.length+1))).ρ J.n=s.heap.objs.size:=by
  show(if J.n=V.n then s.heap.objs.size else V.ρ J.n)=_
  rw[I.n,if_pos rfl]
 have hacc:J.n<((V.add s.heap.objs.size [] none).note (s.heap.push {cls:=.type "list",data:=.seq ([]:List Value).toArray}).objs.size (.fr ((C.hold it o).frs.length+1))).n:=by
  show J.n<V.n+1
  rw[I.n];exact Nat.lt_succ_self _
 have fin':codeAny Z.M A (.compLoop (.ListComp elt [⟨.Name x px,iter,ifs,0⟩] sc pos) 0 (.ref it) (.ref s.heap.objs.size) (compEnvC sc cl (s.heap.push {cls:=.type "list",data:=.seq ([]:List Value).toArray}).objs.size env))
  (iF Z.M A E use Q (.ref s.heap.objs.size) (s.heap.push {cls:=.type "list",data:=.seq ([]:List Value).toArray}).objs.size) {s with heap:=h₁,toks:=s.toks+([]:List (Str×Value)).length}:=by
  have:=loop (R:=iF Z.M A E use Q (.ref s.heap.objs.size) (s.heap.push {cls:=.type "list",data:=.seq ([]:List Value).toArray}).objs.size) (kB:=λτ=>kW J.L k (.ref J.n) τ) le02 I2 enD hacc (λb x e=>keep b x (Heap.get?_push_of_some _ e)) h
   (λJ'' V'' s'' hk le3 I3=>by
     have q:=fin (sv'.mono le3) hk (le02.trans le3) I3 (Nat.lt_of_lt_of_le hacc le3.n)
     rwa [le3.ρ _ hacc,eacc]at q) (FP a enD sv' (xx.mono le02)) (Nat.le_of_eq I.n.symm)
  rwa [eacc]at this
 exact codeAny_compStart_list fin' (self (keep it o (Heap.get?_push_of_some _ I.held.2.2)) fin')
end
end
section
open PySem.SeqAt
section
variable{prog:Program}{w:World}{A:Around}{E:Value->Shared->Prop}{s:Shared}
theorem A6(hv:s.heap.IsValuesView v d)(ho:s.heap.get? d=some o)(hd:o.data= .dict es ep)(hQ:Q (.ref s.heap.objs.size) {s with heap:=s.heap.push {cls:=.type "dict_valueiterator",data:=.fields #[.ref d,.int 0 0,.int es.size 0,.int ep 0]}}):wpAny (model prog w) A (pyIter (.ref v)) Q E s:=by
 refine hold λG_ fin_=>?_
 obtain⟨ov,hov,hcv,hdv⟩:=id hv
 refine fin_ ?_
 refine wpAny_pyIter_slot hv.typeIs F.slot_dict_values_iter (wpAny_call_entry F.slot_dict_values_iter hv.typeIs F.entry_dict_values_iter ?_ (F.args_dict_values_iter_1 _))
 unfold Builtin.«dict_values.__iter__»
 refine wpAny_bind (wpAny_pure (wpAny_bind ?_))
 unfold Builtin.Dict_items.dictOf
 refine wpAny_bind (wpAny_field hov hdv (x:=.ref d) rfl (wpAny_pure (wpAny_bind ?_)))
 unfold Builtin.Dict_items.newIterator
 refine wpAny_bind (wpAny_dictEntries ho hd (wpAny_bind (wpAny_dictEpoch ho hd ?_)))
 simp-iota only[show Builtin.Dict_items.ownsTuple "dict_valueiterator" =false from by decide,Bool.false_eq_true,if_false]
 exact wpAny_newObj_type (wpAny_pure ⟨_,rfl,"dict_valueiterator",_,⟨_,Heap.get?_push_size _ rfl,rfl⟩,F.slot_dict_valueiterator_next.lookup,hQ⟩)
theorem nO(hit:s.heap.IsValIter it d i es.size ep)(ho:s.heap.get? d=some o)(hd:o.data= .dict es ep)(hx:es[i]?=some e)(hQ:∀h',h'.IsValIter it d (i+1) es.size ep->Heap.SameBut it s.heap h'->Q (some e.val) {s with heap:=h'}):wpAny (model prog w) A (pyNext (.ref it)) Q E s:=by
 obtain⟨oi,hoi,hci,hdi⟩:=id hit
 obtain⟨hlt,hval⟩:=Array.getElem?_eq_some_iff.mp hx
 unfold pyNext
 refine wpAny_bind (wpAny_attempt (wpAny_callSpecial?_slot (name:=Str.ofString "__next__") hit.typeIs F.slot_dict_valueiterator_next
  (wpAny_call_entry F.slot_dict_valueiterator_next hit.typeIs F.entry_dict_valueiterator_next ?_ (F.args_dict_valueiterator_next_1 _))))
 refine wpAny_bind (wpAny_pure (wpAny_bind (wpAny_bind ?_)))
 first|refine wpAny_bind (wpAny_typeNameOfWhole_valiter hit.typeIs (wpAny_pure ?_))|refine wpAny_bind (wpAny_typeNameOf_valiter hit.typeIs (wpAny_pure ?_))
 refine wpAny_bind (wpAny_fieldsOf hoi hdi ?_)
 simp-iota only[show Builtin.Dict_items.ownsTuple "dict_valueiterator" =false from by decide,Bool.false_eq_true,if_false]
 show wpAny _ _ (if(Value.ref d==Value.none)=true then _ else _) _ _ s
 rw[if_neg (show¬((Value.ref d==Value.none)=true)from Bool.false_ne_true)]
 refine wpAny_bind (wpAny_pure (wpAny_bind (wpAny_dictEntries ho hd ?_)))
 rw[if_neg (by simp)]
 refine wpAny_bind (wpAny_pure (wpAny_bind (wpAny_dictEpoch ho hd ?_)))
 rw[if_neg (by simp)]
 refine wpAny_pure ?_
 simp only[show¬((i:Int)<0)from by exact Int.not_ofNat_neg _,if_false,Int.toNat_natCast,Array.getElem?_eq_getElem hlt]
 refine wpAny_bind ?_
 first|refine wpAny_bind (wpAny_typeNameOfWhole_valiter hit.typeIs (wpAny_pure ?_))|refine wpAny_bind (wpAny_typeNameOf_valiter hit.typeIs (wpAny_pure ?_))
 refine wpAny_bind (wpAny_isOneOf_valiter hit.typeIs ?_)
 show wpAny _ _ (setField (.ref it) 1 (rawInt ((i:Int)+1)) >>= _) _ _ s
 refine wpAny_bind (wpAny_setField hoi hdi (by simp) ?_)
 have hit':(s.heap.update it (Obj.mapFields (·.setIfInBounds 1 (rawInt ((i:Int)+1))))).IsValIter it d (i+1) es.size ep:=
  ⟨_,Heap.get?_update_self _ hoi (Obj.isFreed_of_fields (Obj.data_mapFields hdi _)),(Obj.cls_mapFields ..).trans hci,by rw[Obj.data_mapFields hdi];simp[rawInt]⟩
 refine wpAny_bind (wpAny_holding ?_)
 refine wpAny_bind (wpAny_isOneOf_valiter (s:={s with heap:=s.heap.update it (Obj.mapFields (·.setIfInBounds 1 (rawInt ((i:Int)+1))))}) hit'.typeIs ?_)
 refine wpAny_bind (wpAny_isOneOf_valiter (s:={s with heap:=s.heap.update it (Obj.mapFields (·.setIfInBounds 1 (rawInt ((i:Int)+1))))}) hit'.typeIs ?_)
 show wpAny _ _ (pure es[i].val) _ _ _
 rw[hval]
 exact wpAny_pure (wpAny_pure ⟨_,rfl,wpAny_pure (hQ _ hit' (Heap.SameBut.update ..))⟩)
theorem oZ(hh:A.handled=none)(hit:s.heap.IsValIter it d i es.size ep)(ho:s.heap.get? d=some o)(hd:o.data= .dict es ep)(hx:es.size≤i)(hQ:∀h',Heap.ExtBut it s.heap h'->Q none {s with heap:=h'}):wpAny (model prog w) A (pyNext (.ref it)) Q E s:=by
 refine hold λG_ fin_=>?_
 obtain⟨oi,hoi,hci,hdi⟩:=id hit
 refine fin_ ?_
 unfold pyNext
 refine wpAny_bind (wpAny_attempt (wpAny_callSpecial?_slot (name:=Str.ofString "__next__") hit.typeIs F.slot_dict_valueiterator_next
  (wpAny_call_entry F.slot_dict_valueiterator_next hit.typeIs F.entry_dict_valueiterator_next ?_ (F.args_dict_valueiterator_next_1 _))))
 refine wpAny_bind (wpAny_pure (wpAny_bind (wpAny_bind ?_)))
 first|refine wpAny_bind (wpAny_typeNameOfWhole_valiter hit.typeIs (wpAny_pure ?_))|refine wpAny_bind (wpAny_typeNameOf_valiter hit.typeIs (wpAny_pure ?_))
 refine wpAny_bind (wpAny_fieldsOf hoi hdi ?_)
 simp-iota only[show Builtin.Dict_items.ownsTuple "dict_valueiterator" =false from by decide,Bool.false_eq_true,if_false]
 show wpAny _ _ (if(Value.ref d==Value.none)=true then _ else _) _ _ s
 rw[if_neg (show¬((Value.ref d==Value.none)=true)from Bool.false_ne_true)]
 refine wpAny_bind (wpAny_pure (wpAny_bind (wpAny_dictEntries ho hd ?_)))
 rw[if_neg (by simp)]
 refine wpAny_bind (wpAny_pure (wpAny_bind (wpAny_dictEpoch ho hd ?_)))
 rw[if_neg (by simp)]
 refine wpAny_pure ?_
 simp only[show¬((i:Int)<0)from by exact Int.not_ofNat_neg _,if_false,Int.toNat_natCast,Array.getElem?_eq_none hx]
 refine wpAny_bind ?_
 first|refine wpAny_bind (wpAny_typeNameOfWhole_valiter hit.typeIs (wpAny_pure ?_))|refine wpAny_bind (wpAny_typeNameOf_valiter hit.typeIs (wpAny_pure ?_))
 show wpAny _ _ (setField (.ref it) 0 .none >>= _) _ _ s
 refine wpAny_bind (wpAny_setField hoi hdi (by simp) ?_)
 show wpAny _ _ (newExc (.type "StopIteration") [] >>= _) _ _ _
 refine wpAny_bind ?_
 simp-iota only[newExc,newTuple]
 refine wpAny_bind (wpAny_newObj_type ?_ (by size_fits))
 refine wpAny_bind (m:=firstArgMember _ _) (wpAny_of_eq (a:=Value.none) (by first|rfl|(simp only[firstArgMember];rfl)) ?_)
 refine wpAny_newObj_type ?_ (by size_fits)
 simp-iota only[raiseNew]
 refine wpAny_bind (wpAny_handled ?_)
 rw[show A.in1.handled=none from hh]
 refine wpAny_bind (wpAny_pure (wpAny_throw ?_))
 refine wpAny_bind (wpAny_isInstance (T:= "StopIteration") (b:=true) ⟨_,Heap.get?_push_size _ rfl,rfl⟩ isSubtype_stop ?_)
 exact wpAny_pure (hQ _ (((Heap.SameBut.update ..).extBut.push _).push _))
end
end
section
set_option backward.match.sparseCases false
open PySem.SeqAt
theorem FQ(h:DRs V es kvs):∀(l:List DictEntry),Pairs (strKind pw w) l kvs->VRs V (es.map (·.2)) (l.map (·.val)):=by
 refine h.ind (λl q=>?_) λp es e kvs r O ih l q=>?_
 ·cases q;trivial
 ·cases q with
  |cons h1 h2 h3=>exact⟨(congrArg (VR V p.2) h2).mpr r.2,ih _ h3⟩
theorem FS(h:DRt V es xs):VRs V (es.map (·.2)) ((xs.map (λx=>(⟨zB w x.1,.ref x.2.1,x.2.2⟩:DictEntry))).map (·.val)):=
 h.ind trivial λO O O O r O ih=>⟨r.2,ih⟩
section
variable{Z:Gd}(G:aU Z){n:Nat}{ih:Ih}(S:gS Z n ih){C:Cf}{V:Vl}{J:St}{s:Shared}{A:Around}{env:Env}{c:Cx}{k:KK}{kx:KX}{E:Value->Shared->Prop}
theorem A7(x:OR Z V h i a (.dict es)):∃o ents ep,h.get? a=some o/\o.ExactDict/\o.data= .dict ents ep/\VRs V (es.map (·.2)) (ents.toList.map (·.val)):=by
 refine hold λG_ fin_=>?_
 obtain⟨_,o,ents,ep,g1,g2,g3,g4⟩:=x
 refine fin_ ?_
 refine⟨o,ents,ep,g1,g2,g3,?_⟩
 rcases g4 with⟨kvs,q,_,r,_⟩|⟨xs,q,r,_⟩
 ·exact FQ q _ r
 ·rw[r];exact FS q
theorem nP(I:Inv Z C V J s)(en:EnvOk C V c env)(hx:aF c.names (aA x)=some .local)(hv:VR V v u)(h:dP c (aA x) v J kk=true)(q:∀J' h',kk J'=true->Inv Z C V J' {s with heap:=h',toks:=s.toks+1}->Heap.SameBut C.L s.heap h'->Q () {s with heap:=h',toks:=s.toks+1}):wpAny Z.M A (assign (.Name x px) env u) Q E s:=by
 refine hold λG_ fin_=>?_
 obtain⟨nms,cells,tb⟩:=c
 obtain⟨kd,hkd,h⟩:=some?_eq (h:some? (aF nms (aA x)) (qS cells (aA x) v J kk)=true)
 have hx:aF nms (aA x)=some .local:=hx
 rw[hx]at hkd;obtain rfl:=Option.some.inj hkd
 have kr:KindRel (aF nms (aA x)) (env.kindOf x):=en.kinds (aA x)
 rw[hx]at kr
 have hko:=kr.loc
 have h:lM (aA x) v J.L (λL=>kk ⟨J.T,J.n,L,J.sy⟩)=true:=h
 rw[gP]at h
 obtain⟨m,hm,ha⟩:=I.L.2
 refine fin_ ?_
 show wpAny Z.M A (do standAt px;bindName env x u) Q E s
 refine wpAny_bind (wpAny_standAt (wpAny_bindName ?_))
 refine gR hko (en.loc▸hm) (λh' hn hs=>?_) (by rw[en.kind];rfl)
 rw[en.loc]at hn hs
 refine q _ h' h (I.local hs hn ?_) hs
 have:=ha.put (n:=aA x) hv
 rwa [aJ]at this
include S in
theorem nQ(a:AOk D A n)(hh:A.handled=none)(en:EnvOk D V cD envD)(I:Inv Z (D.hold it oi) V J s)(he:∀(k:Nat) (o:Obj),D.ext[k]?≠some (it,o))(ho:s.heap.get? (V.ρ d)=some od)(hod:od.data= .dict ents ep)(hd:V.own (V.ρ d)=some (.obj d))(hdn:d<V.n)(hv:VRs V xs (ents.toList.map (·.val)))(hi:oi.cls= .type "dict_valueiterator" /\oi.data= .fields #[.ref (V.ρ d),.int 0 0,.int ents.size 0,.int ep 0])(hacc:acc<V.n)(hne:acc≠d)(hp:d6 4 elt=true)(hx:aF cD.names (aA x)=some .local)(h:d7 ih cD (.Name x px) [] elt acc (.vals d xs) kxB 100 0 J kB=true)(hok:∀J' V' s',kB J'=true->V.Le V'->Inv Z D V' J' s'->R (.ok .next) s'):
 codeAny Z.M A (.compLoop (.ListComp elt [⟨.Name x px,iter,[],0⟩] scope pos) 0 (.ref it) (.ref (V.ρ acc)) envD) R s:=by
 refine codeAny_compLoop_tests (λm s=>∃j J V2 o,d7 ih cD (.Name x px) [] elt acc (.vals d xs) kxB m j J kB=true/\V.Le V2/\(o.cls= .type "dict_valueiterator" /\o.data= .fields #[.ref (V.ρ d),.int (j:Nat) 0,.int ents.size 0,.int ep 0])/\Inv Z (D.hold it o) V2 J s/\s.heap.get? (V.ρ d)=some od) (λm s hI=>?_) 100 ⟨0,J,V,oi,h,Vl.Le.refl V,hi,I,ho⟩
 refine hold λG_ fin_=>?_
 obtain⟨j,J,V2,o,h,le,hi,I,ho⟩:=hI
 refine fin_ ?_
 induction m using Nat.casesOn with
 |zero=>exact ff h
 |succ m=>
  have h:(match bI xs j with
   |none=>kB J
   |some v=>j7 v λv=>bX ih cD (.Name x px) v J (λJ=>i5 ih cD kxB [] J (λb J=>match b with
    |true=>ih (.ev elt cD) J (aL λy J=>h9 (J.T.get acc) λxs'=>mM y xs' λxs'=>j4 J acc (xs') λJ=>d7 ih cD (.Name x px) [] elt acc (.vals d xs) kxB m (Nat.succ j) J kB) kxB
    |false=>d7 ih cD (.Name x px) [] elt acc (.vals d xs) kxB m (Nat.succ j) J kB)) kxB)=true:=h
  obtain⟨k1,k2,k3⟩:=I.held
  have hd2:V2.own (V.ρ d)=some (.obj d):=le.own _ _ hd
  have ned:V.ρ d≠it:=λq=>by rw[q,k1]at hd2;exact fo hd2
  induction hj:bI xs j with
  |none=>
   rw[hj]at h
   have hle:=gT hj hv
   rw[List.length_map,Array.length_toList]at hle
   exact oZ hh ⟨o,k3,hi.1,hi.2⟩ ho hod hle λh' hx=>hok _ _ _ h le (I.unhold.but (t:=s.toks) k1 k2 he λb x hb e=>hx b x hb e)
  |some v=>
   rw[hj]at h
   have h:=kH h
   obtain⟨u,hu,vr⟩:=eR hj hv
   rw[List.getElem?_map]at hu
   obtain⟨e,hue,hev⟩:=Option.map_eq_some_iff.mp hu
   subst hev
   refine nO (e:=e) ⟨o,k3,hi.1,hi.2⟩ ho hod (by simpa using hue) λh' hit' hs'=>?_
   obtain⟨o',f1,f2,f3⟩:=hit'
   have I3:Inv Z (D.hold it o') V2 J {s with heap:=h',toks:=s.toks}:=(I.unhold.but (t:=s.toks) k1 k2 he λb x hb e=>(hs'.2 b hb).trans e).hold k1 k2 f1
   have ho3:h'.get? (V.ρ d)=some od:=(hs'.2 _ ned).trans ho
   refine nP I3 (en.mono le).hold hx (vr.mono le) h λJ2 h2 hk I4 hs2=>?_
   have neL:V.ρ d≠D.L:=λq=>by
    have:=I3.L.1
    change V2.own D.L=_ at this
    rw[<-q,hd2]at this;cases this
   have ho4:h2.get? (V.ρ d)=some od:=(hs2.2 _ neL).trans ho3
   refine wpAny_tests_nil ?_
   show wpAny Z.M A (eval elt envD) _ _ _
   refine S.pur hp (hk:ih (.ev elt cD) J2 _ kxB=true) I4 a.hold (en.mono le).hold λy w J5 V5 s5 h5 le5 I5 r5 hk5=>?_
   obtain⟨xs',hxs,h5⟩:=c9 (onVal_case h5)
   have ho5:=hk5 _ _ ho4
   have le05:=le.trans le5
   have hra:=le05.ρ acc hacc
   have oacc:=(I5.T acc _ hxs).2.1
   rw[<-hra]
   refine fJ I5 hxs r5 h5 λJ6 h6 hk6 I7 hs6=>⟨m,Nat.lt_succ_self _,j+1,J6,V5,o',hk6,le05,⟨f2,f3⟩,I7,(hs6.2 _ λq=>?_).trans ho5⟩
   rw[<-q,le05.own _ _ hd]at oacc
   exact hne (Own.obj.inj (Option.some.inj oacc)).symm
theorem uF(h:j8 ih e gs sc c J k kx=true):∃x px iter ifs,gs=[⟨.Name x px,iter,ifs,.ofNat 0⟩]/\aF sc.names (aA x)=some .local/\EI sc c=true/\
 ih (.ev iter c) J (aL λv J=>some? (ZH J v ifs e) λs=>alloc J (.list []) λav τ=>match av with
     |.ref acc=>d7 ih ⟨sc.names,c.cells,0⟩ (.Name x px) ifs e acc s (i6 J.L kx) 100 0 ⟨τ.T,τ.n,[],τ.sy⟩ (λτ=>kW J.L k (.ref acc) τ)
     |_=>false) kx=true:=by
 induction gs using List.casesOn with
 |nil=>exact ff h
 |cons g gs=>
  obtain⟨t,iter,ifs,z⟩:=g
  induction z with
  |negSucc _=>induction gs using List.casesOn<;>exact ff h
  |ofNat z=>induction z using Nat.casesOn with
   |succ _=>induction gs using List.casesOn<;>exact ff h
   |zero=>induction gs using List.casesOn with
    |cons _ _=>exact ff h
    |nil=>
     obtain⟨ht,h⟩:=aB h
     obtain⟨hin,h⟩:=aB h
     induction t using PySem.Expr.casesOn with
     |Name x px=>
      refine⟨x,px,iter,ifs,rfl,?_,hin,h⟩
      have ht:(match aF sc.names (aA x)with|some .local=>true|_=>false)=true:=ht
      generalize aF sc.names (aA x)=o at ht
      induction o with
      |none=>exact ff ht
      |some k=>induction k with
       | «local»=>rfl
       |_=>exact ff ht
     |_=>exact ff ht
theorem A8(h:ZH J v ifs e=some src):pE J v=some src∨(ifs=[]/\d6 4 e=true/\∃i j es,v= .ref i/\J.T.get i=some (.vals j)/\J.T.get j=some (.dict es)/\src= .vals j (es.map (·.2))):=by
 have h:Option.rec (motive:=λO=>Option Src) (fA (j0 ifs&&d6 4 e) (aIk J v) none) some (pE J v)=some src:=h
 induction hs:pE J v with
 |some s=>rw[hs]at h;exact .inl h
 |none=>
  rw[hs]at h
  obtain⟨h1,h⟩:=bL h
  refine .inr ⟨fC (aM h1).1,(aM h1).2,?_⟩
  induction v with
  |ref i=>
   have h:Option.rec (motive:=λO=>Option Src) none (ST J) (J.T.get i)=some src:=h
   induction ho:J.T.get i with
   |none=>rw[ho]at h;exact fo h
   |some o=>
    rw[ho]at h
    induction o with
    |vals j=>
     obtain⟨es,he,rfl⟩:=Option.map_eq_some_iff.mp (h:(eH (J.T.get j)).map (λes=>Src.vals j (es.map (·.2)))=some src)
     exact⟨i,j,es,rfl,ho,kD he,rfl⟩
    |_=>exact fo h
  |_=>exact fo h
include G S in
theorem nR(I:Inv Z C V J s)(a:AOk C A n)(en:EnvOk C V c env)(hh:A.handled=none)(h:j8 ih e gs sc c J k kx=true)(xx:QX Z C V kx E)(fin:∀{Ln:Addr} {es:Array DictEntry} {ep acc:Nat} {L:List (Nm×SV)} {J':St} {V':Vl} {s':Shared},Saved C V' L es ep->k (.val (.ref acc)) ⟨J'.T,J'.n,L,J'.sy⟩=true->V.Le V'->Inv Z (C.into Ln es ep C.envs) V' J' s'->acc<V'.n->iF Z.M A E use Q (.ref (V'.ρ acc)) Ln (.ok .next) s'):
 wpAny Z.M A (comprehension (.ListComp e gs sc p) sc env (firstIterPos gs p) (newList []) (firstAsync gs) (firstIter gs env) use) Q E s:=by
 obtain⟨x,px,iter,ifs,rfl,hx,hin,h⟩:=uF h
 · ·skip
    have F:=nK hin
    obtain⟨cl,hclos,hcl⟩:=iE en F
    refine A4 (gs:=[]) rfl (pU S h) hclos F.base.kind F.base.look ?_
    refine S.ev h I a en (.inl hh) (λv u J' V' s' h' le I' r=>?_) xx
    obtain⟨src,hsrc,h'⟩:=some?_eq (onVal_case h')
    have hcl':∀n j,aD c.cells n=some j->aF sc.names n=some .free->j<V'.n/\cl.lookup (tx n)=some (V'.ρ j):=λn j h1 h2=>by
     obtain⟨q1,q2⟩:=hcl n j h1 h2
     exact⟨Nat.lt_of_lt_of_le q1 le.n,by rw[le.ρ j q1];exact q2⟩
    rcases A8 hsrc with hs'|⟨rfl,hpure,i,d,es,rfl,hv,hdict,rfl⟩
    ·skip
     refine nJ G.kref I' hs' r λit o hp he hi I2=>?_
     exact nN I2 a (en.mono le) F hcl' h' (xx.mono le) (λhg q=>nM hg hi q)
      (λ{Ln es ep acc V2 J2 s2 R kB} le2 I3 en3 hacc _ hc hok herr _=>A5 G S a.into hh en3 I3 he (hi.mono le2) hacc hc hok herr)
      (λsv hk le2 I3 hacc=>fin sv hk (le.trans le2) I3 hacc)
    · · · · ·skip
             obtain⟨_,t2,hdn,g1⟩:=I'.T i _ hv
             obtain⟨_,d2,hdo⟩:=I'.T d _ hdict
             obtain⟨od,ents,ep,f1,f2,f3,f4⟩:=A7 hdo
             obtain⟨hi,rfl⟩:=r.inv_ref
             refine A6 ⟨_,g1,rfl,rfl⟩ f1 f3 ?_
             obtain⟨I2,he⟩:=eT I' (o:={cls:=.type "dict_valueiterator",data:=.fields #[.ref (V'.ρ d),.int 0 0,.int ents.size 0,.int ep 0]}) rfl s'.toks
             refine nN I2 a (en.mono le) F hcl' h' (xx.mono le) (λhg q=>wpAny_pyIter_valiter ⟨_,hg,rfl,rfl⟩ q) (λ{Ln es' ep' acc V2 J2 s2 R kB} le2 I3 en3 hacc hkeep hc hok herr hlo=>?_)
              (λsv hk le2 I3 hacc=>fin sv hk (le.trans le2) I3 hacc)
             have e2:=le2.ρ d hdn
             refine nQ S a.into hh en3 I3 he (d:=d) (od:=od) (ents:=ents) (ep:=ep) ?_ f3 ?_ (Nat.lt_of_lt_of_le hdn le2.n) (f4.mono le2) ?_ hacc (λq=>?_) hpure hx hc hok
             ·rw[e2];exact hkeep _ _ (Heap.get?_push_of_some _ f1)
             ·rw[e2];exact le2.own _ _ d2
             ·rw[e2];exact⟨rfl,rfl⟩
             ·rw[q]at hlo;exact absurd hdn (Nat.not_lt.mpr hlo)
include G S in
theorem P3(I:Inv Z C V J s)(a:AOk C A n)(en:EnvOk C V c env)(hh:A.handled=none)(h:j8 ih e gs sc c J k kx=true)(q:QV Z C V k Q)(xx:QX Z C V kx E):
 wpAny Z.M A (eval (.ListComp e gs sc p) env) Q E s:=by
 rw[eval_ListComp]
 refine nR G S I a en hh h xx (use:=none) λ{Ln es ep acc L J' V' s'} sv hk le I' hacc=>?_
 obtain⟨m,hm,_⟩:=I'.L.2
 refine⟨m,hm.ns,λh' m' hn hs=>?_⟩
 exact q _ _ _ _ _ hk le (I'.leave' sv (t:=s'.toks) hs (let⟨o,_,_,ho,_⟩:=hn;⟨o,ho⟩)) (.ref acc hacc)
theorem w6(en:EnvOk C V c env):swapsWith (.ListComp e gs sc p) (some (.Name x px)) ln env=pure true/\env.kindOf x=some .local∨swapsWith (.ListComp e gs sc p) (some (.Name x px)) ln env=pure false:=by
 have e1:swapsWith (.ListComp e gs sc p) (some (.Name x px)) ln env=pure (env.blockKind== .function&&env.kindOf x==some .local&&px.line==p.line&& !(sc.names.any λ(n,k)=>n==x&&(k== .local||k== .cell))):=rfl
 rw[e1]
 cases hb:(env.blockKind== .function&&env.kindOf x==some .local&&px.line==p.line&& !(sc.names.any λ(n,k)=>n==x&&(k== .local||k== .cell)))with
 |false=>exact .inr rfl
 |true=>
  exact .inl ⟨rfl,by simpa using(tH hb).1.1.2⟩
include G S in
theorem FT(I:Inv Z C V J s)(a:AOk C A n)(en:EnvOk C V c env)(hh:A.handled=none)(h:ih (.ev (.ListComp e gs sc pe) c) J (aL λv J=>bX ih c t v J (k .next) kx) kx=true)(S':gS Z m ih')(hm:m≤n)(h2:j8 ih' e gs sc c J (aL λv J=>bX ih c t v J (k .next) kx) kx=true)(ht:∀ts p,t≠ .List ts p)(q:QF Z C V k Q)(xx:QX Z C V kx E):
 wpAny Z.M A (exec (.Assign [t] (.ListComp e gs sc pe) p) env) Q E s:=by
 have plain:swapsWithSole [t] (.ListComp e gs sc pe) p.line env=pure false->wpAny Z.M A (exec (.Assign [t] (.ListComp e gs sc pe) p) env) Q E s:=λhs=>
  kG G S I a en hh h q xx hs (by induction t using PySem.Expr.casesOn<;>rfl)
 induction t using PySem.Expr.casesOn with
 |Name x px=>
  rcases w6 en (e:=e) (gs:=gs) (sc:=sc) (p:=pe) (px:=px) (x:=x) (ln:=p.line)with⟨hs,hl⟩|hs
  ·rw[exec_Assign_Name_used _ _ _ _ hs]
   refine wpAny_bind (wpAny_standAt (wpAny_bind ?_))
   show wpAny _ A (do let _<-comprehension (.ListComp e gs sc pe) sc env (firstIterPos gs pe) (newList []) (firstAsync gs) (firstIter gs env) (some (assign (.Name x px) env))) _ _ s
   refine wpAny_bind (wpAny_mono (nR (Q:=λO s'=>Q .next s') G S' I (a.le hm) en hh h2 xx (use:=some (assign (.Name x px) env)) λ{Ln es ep acc L J' V' s'} sv hk le I' hacc=>?_) (λO s' hq=>wpAny_pure (wpAny_pure hq)) λO O y=>y)
   have hk:dP c (aA x) (.ref acc) ⟨J'.T,J'.n,L,J'.sy⟩ (k .next)=true:=onVal_case hk
   have Io:=I'.leave sv
   have hx:aF c.names (aA x)=some .local:=by
    have kr:KindRel (aF c.names (aA x)) (env.kindOf x):=en.kinds (aA x)
    rw[hl]at kr
    exact kr.loc'
   obtain⟨m,hm,_⟩:=I'.L.2
   have oL:=I'.L.1
   have ne:Ln≠C.L:=λq=>by
    have:=Io.L.1
    rw[<-q]at this
    change V'.own Ln=some (.fr (C.frs++[_]).length)at oL
    rw[this,List.length_append]at oL
    have:=Own.fr.inj (Option.some.inj oL)
    simp at this
   refine nP Io (en.mono le) hx (.ref acc hacc) hk λJ2 h2 hk2 I2 hs2=>?_
   refine⟨m,hm.ns.at' λo e=>(hs2.2 _ ne).trans e,λh3 m3 hn3 hs3=>q.next J2 V' _ hk2 le (I2.go (Vl.Le.refl V') (λw=>w= .fr (C.frs.length+1)) rfl (aZ hs3 (let⟨o,_,_,ho,_⟩:=hn3;⟨o,ho⟩)) (λa o h=>.inl h) (λb o hb e=>(hs3.2 b λq=>hb _ (q▸ ?_) rfl).trans e) I2.n (λk x h=>.inl ⟨h,nofun,nofun,nofun⟩)
    (.inl ⟨rfl,λe=>?_⟩) (λk hk e=>?_) (λO=>nofun) nofun (λi ks e=>.inl ⟨e,nofun⟩) I2.X)⟩
   ·have:V'.own Ln=some (.fr (C.frs.length+1)):=by simpa [Cf.into]using oL
    exact this
   ·have:=Own.fr.inj e;exact Nat.succ_ne_self _ this.symm
   ·have:=Own.fr.inj e;exact Nat.not_lt.mpr (this▸Nat.le_add_right _ 1) hk
  ·exact plain hs
 |List ts p'=>exact absurd rfl (ht _ _)
 |_=>exact plain rfl
end
end
section
set_option backward.match.sparseCases false
open PySem.SeqAt
noncomputable section
noncomputable def mC(env:Env)(pos:Pos):List (Option Expr)->List Expr->List (Sem Value×Sem Value)
 |some e::ks,v::vs=>(eval e env,do let x<-eval v env;standAt pos;pure x)::mC env pos ks vs
 |_,_=>[]
theorem uG:∀(vs:List Expr),rA ks vs=true->
 (evalEachOpt ks env).zip ((evalEach vs env).map λv=>do let x<-v;standAt pos;pure x)=(mC env pos ks vs).map (λp=>(some p.1,p.2))/\(mC env pos ks vs).length=vs.length:=by
 induction ks with
 |nil=>intro vs h;induction vs using List.casesOn with
  |nil=>exact⟨rfl,rfl⟩
  |cons _ _=>exact ff h
 |cons k ks ih=>intro vs h;induction k with
  |none=>exact ff h
  |some e=>induction vs using List.casesOn with
   |nil=>exact ff h
   |cons v vs=>
    obtain⟨i1,i2⟩:=ih vs h
    refine⟨?_,congrArg Nat.succ i2⟩
    show(evalOpt (some e) env::evalEachOpt ks env).zip ((eval v env::evalEach vs env).map _)=_
    rw[List.map_cons,List.zip_cons_cons,i1];rfl
noncomputable def PRs(V:Vl):List (SV×SV)->List (Value×Value)->Prop
 | [],[]=>True
 |p::ps,q::qs=>(VR V p.1 q.1/\VR V p.2 q.2)/\PRs V ps qs
 |_,_=>False
@[elab_as_elim] theorem PRs.ind{V:Vl}{P:List (SV×SV)->List (Value×Value)->Prop}{s:List (SV×SV)}{v:List (Value×Value)}(h:PRs V s v)(n:P [] [])(c:∀p l e m,VR V p.1 e.1->VR V p.2 e.2->PRs V l m->P l m->P (p::l) (e::m)):P s v:=by
  induction s generalizing v with
  |nil=>induction v using List.casesOn with
   |nil=>exact n
   |cons _ _=>exact h.elim
  |cons a s ih=>induction v using List.casesOn with
   |nil=>exact h.elim
   |cons _ _=>exact c _ _ _ _ h.1.1 h.1.2 h.2 (ih h.2)
theorem rU{kvs:List (Str×Value)}{x:Str}(h:valueAt kvs x=none):x∉kvs.map (·.1):=λhm=>by
 obtain⟨kv,h1,h2⟩:=List.mem_map.mp hm
 unfold valueAt at h
 rw[Option.map_eq_none_iff,List.find?_eq_none]at h
 exact h kv h1 (by simpa using h2)
theorem w7{V:Vl}{w:World}{es:List (SV×SV)}{us:List (Value×Value)}(r:PRs V es us):qX es=true->∃kvs,Carries (strKind pw w) us kvs/\DRs V es kvs/\(kvs.map (·.1)).Nodup:=by
 refine r.ind (λO=>⟨[],trivial,trivial,List.nodup_nil⟩) λp es e us r1 r2 O ih h=>?_
 obtain⟨k,v⟩:=p
 obtain⟨ku,vu⟩:=e
 have r1:VR V k ku:=r1
 induction r1 with
 |str n t=>
  have h:(match(generalizing:=false) cR es n with|none=>qX es|some _=>false)=true:=h
  induction hg:cR es n with
  |some _=>rw[hg]at h;exact ff h
  |none=>
   rw[hg]at h
   obtain⟨kvs,i1,i2,i3⟩:=ih h
   have:=i2.at n
   rw[hg]at this
   exact⟨(tx n,vu)::kvs,⟨iM w n t,rfl,i1⟩,⟨⟨⟨n,rfl,rfl⟩,r2⟩,i2⟩,List.nodup_cons.mpr ⟨rU this,i3⟩⟩
 |_=>exact ff h
set_option tactic.hygienic true in
theorem gA{pos pos':Pos}{c cv:Value}(l:List Value)(h:TriplesOk l)(hc:codeAmong pos' (l++[rawInt pos.line,rawInt pos.col,c])=some cv):codeAmong pos' l=some cv∨cv=c:=by
 fun_induction TriplesOk l with
 |case1=>
  simp only[List.nil_append,codeAmong,rawInt]at hc
  split at hc
  ·obtain rfl:=Option.some.inj hc;exact .inr rfl
  ·exact fo hc
 |case2 a t b u x rest ih=>
  simp only[List.cons_append,codeAmong]at hc⊢
  split at hc
  ·rename_i q;rw[if_pos q];exact .inl hc
  ·rename_i q;rw[if_neg q];exact ih h hc
 |case3 l h1 h2=>exact h.elim
section
variable{Z:Gd}(G:aU Z){n:Nat}{ih:Ih}(S:gS Z n ih){C:Cf}{V:Vl}{J:St}{s:Shared}{A:Around}{env:Env}{c:Cx}{k:KK}{kx:KX}{E:Value->Shared->Prop}
include S in
theorem uH(a:AOk C A n)(hh:A.handled=none):∀(ks:List (Option Expr)) (vs:List Expr) {J:St} {V:Vl} {s:Shared} {kont:List (SV×SV)->St->Bool} {Q:List (Value×Value)->Shared->Prop},yY ih c ks vs J kont kx=true->Inv Z C V J s->EnvOk C V c env->
 (∀es us J' V' s',kont es J'=true->V.Le V'->Inv Z C V' J' s'->PRs V' es us->Q us s')->QX Z C V kx E->wpAny Z.M A (evalPairs (mC env pos ks vs)) Q E s
 :=by
 intro ks
 induction ks with
 |nil=>intro vs J V s kont Q h I en q x;induction vs using List.casesOn with
  |nil=>exact evalPairs_nil (q [] [] J V s h (Vl.Le.refl V) I trivial)
  |cons _ _=>exact ff h
 |cons k ks ihp=>intro vs J V s kont Q h I en q x;induction k with
  |none=>induction vs using List.casesOn<;>exact ff h
  |some e=>induction vs using List.casesOn with
   |nil=>exact ff h
   |cons v vs=>
    have h:ih (.ev e c) J (aL λkv J=>ih (.ev v c) J (aL λvv J=>yY ih c ks vs J (λes J=>kont ((kv,vv)::es) J) kx) kx) kx=true:=h
    refine evalPairs_cons (S.ev h I a en (.inl hh) (λkv ku J1 V1 s1 h1 le1 I1 r1=>?_) x)
    refine wpAny_bind (S.ev (onVal_case h1) I1 a (en.mono le1) (.inl hh) (λvv vu J2 V2 s2 h2 le2 I2 r2=>wpAny_bind (wpAny_standAt (wpAny_pure ?_))) (x.mono le1))
    refine ihp vs (onVal_case h2) I2 (en.mono (le1.trans le2)) (λes us J' V' s' h3 le3 I3 r3=>?_) (x.mono (le1.trans le2))
    exact q _ _ _ _ _ h3 ((le1.trans le2).trans le3) I3 ⟨⟨r1.mono (le2.trans le3),r2.mono le3⟩,r3⟩
include S in
theorem P4(I:Inv Z C V J s)(a:AOk C A n)(en:EnvOk C V c env)(hh:A.handled=none)(h:EP ih ks vs c J k kx=true)(q:QV Z C V k Q)(xx:QX Z C V kx E):
 wpAny Z.M A (eval (.Dict ks vs p) env) Q E s:=by
 obtain⟨hsh,h⟩:=aB h
 obtain⟨hshape,hsh⟩:=aM hsh
 ·have hlen:=Nat.le_of_ble_eq_true hsh
  rw[aT]at hlen
  obtain⟨p1,p2⟩:=uG (env:=env) (pos:=p) _ hshape
  induction vs using List.casesOn with
  |nil=>
   induction ks using List.casesOn with
   |cons kk _=>induction kk<;>exact ff hshape
   |nil=>
    have h:D0 J [] (kv k)=true:=h
    obtain⟨hl,h⟩:=aB (b:=cP ([]:List (SV×SV))) (x:=alloc J (.dict []) (kv k)) h
    obtain⟨T',hT,h⟩:=aK h
    rw[eval_Dict_empty]
    refine wpAny_bind (wpAny_standAt ?_)
    unfold newDict
    refine wpAny_newObj_type ?_ (by size_fits)
    have g:Heap.get? (s.heap.push {cls:=.type "dict",data:=.dict #[]}) s.heap.objs.size=some {cls:=.type "dict",data:=.dict #[]}:=Heap.get?_push_size _ rfl
    obtain⟨le,vr,I'⟩:=I.alloc (h':=s.heap.push {cls:=.type "dict",data:=.dict #[]}) (a:=s.heap.objs.size) (xs:=[]) (t:=none) (tk:=s.toks) hT (Nat.le_refl _) ⟨_,g⟩ (λp hp=>by cases hp)
     (λb x e=>Heap.get?_push_of_some _ e) ⟨Nat.zero_le _,_,#[],0,g,⟨rfl,rfl,rfl⟩,rfl,.inl ⟨[],trivial,(λe he=>by simp at he),.nil,List.nodup_nil⟩⟩ nofun
    exact q _ _ _ _ _ h le I' vr
  |cons v vs=>
   obtain⟨I1,he⟩:=eT I (o:={cls:=.type "dict",data:=.dict #[]}) rfl s.toks
   refine wpAny_Dict_pairs (knd:=strKind pw Z.w) p1 (λe=>by rw[e]at p2;cases p2) (by rw[p2];exact hlen) ?_
   refine uH S a.hold hh ks (v::vs) h I1 en.hold (λes us J' V' s' h' le I2 r=>?_) xx.hold
   refine hold λG_ fin_=>?_
   obtain⟨hk,h'⟩:=aB h'
   obtain⟨hl,h'⟩:=aB h'
   obtain⟨T',hT,h'⟩:=aK h'
   obtain⟨kvs,c1,c2,c3⟩:=w7 (w:=Z.w) r hk
   obtain⟨k1,k2,k3⟩:=I2.held
   refine fin_ ?_
   refine⟨kvs,c1,⟨_,#[],0,k3,⟨rfl,rfl,rfl⟩,rfl,(λe he=>by simp at he),.nil,List.nodup_nil⟩,λh2 hd hs=>?_⟩
   rw[merged_nil_of_nodup kvs c3]at hd
   refine hold λG_ fin_=>?_
   obtain⟨o',es',ep',f1,f2,f3,f4,f5,f6⟩:=hd
   have ad:∀{x},_:=λ{x:DRs V' es kvs->DRs (V'.add s.heap.objs.size [] none) es kvs}=>I2.unhold.adopt (tk:=s'.toks+us.length) hT k1 k2 he ⟨_,f1⟩ (λb x hb e=>(hs.2 b hb).trans e) ⟨aS hl,o',es',ep',f1,f2,f3,.inl ⟨kvs,x c2,f4,f5,f6⟩⟩
   have le2:V'.Le (V'.add s.heap.objs.size [] none):=⟨Nat.le_succ _,λi h=>if_neg (Nat.ne_of_lt h),λb o h=>(if_neg (λq=>by rw[q,k1]at h;exact fo h)).trans h,λO e=>e,λi ks h=>(if_neg (Nat.ne_of_lt (I2.tk i ks h).1)).trans h,λO e=>e,λO O e=>e,rfl⟩
   obtain⟨le3,vr,I3⟩:=ad (x:=λd=>d.mono le2)
   refine fin_ ?_
   exact q _ _ _ _ _ h' (le.trans le3) I3 vr
theorem w8(h:EQ ps b sc c J k=true):Nat.beq c.tab 0=false/\S0 ps=true/\EI sc c=true/\alloc J (.lam ps b sc c.cells) (kv k)=true:=by
 obtain⟨h1,h⟩:=aB h
 obtain⟨⟨a,b⟩,c⟩:=hV h1
 exact⟨(Bool.not_eq_true' _).mp a,b,c,h⟩
include G in
theorem Z4(I:Inv Z C V J s)(en:EnvOk C V c env)(h:EQ ps b sc c J k=true)(q:QV Z C V k Q):wpAny Z.M A (eval (.Lambda ps b sc p) env) Q E s:=by
 obtain⟨e1,e2,e3,h⟩:=w8 h
 ·have e0:c.tab≠0:=λz=>by rw[z]at e1;exact ff e1.symm
  refine hold λG_ fin_=>?_
  obtain⟨hP,hcode,hqual⟩:=en.lam e0
  obtain⟨hC,hC'⟩:=G.lam _ hP
  have F:=nK e3
  obtain⟨a1,a2,a3,a4,a5,a6,a7⟩:=ps
  obtain⟨⟨⟨⟨⟨⟨b1,b2⟩,b3⟩,b4⟩,b5⟩,b6⟩,b7⟩:=PH e2
  obtain rfl:a1=[]:=List.isEmpty_iff.mp b1
  obtain rfl:a2=[]:=List.isEmpty_iff.mp b2
  obtain rfl:a3=none:=Option.isNone_iff_eq_none.mp b3
  obtain rfl:a4=[]:=List.isEmpty_iff.mp b4
  obtain rfl:a5=[]:=List.isEmpty_iff.mp b5
  obtain rfl:a6=none:=Option.isNone_iff_eq_none.mp b6
  obtain rfl:a7=[]:=List.isEmpty_iff.mp b7
  have hsc:AO sc=true/\lW sc.names=true:=by
   obtain⟨on,cs,tb⟩:=c
   exact(hV e3).1
  obtain⟨cl,hclos,hcl⟩:=iE en F
  obtain⟨T',hT,h⟩:=aK h
  obtain⟨mg,bm,ob,g1,g2,g3,g4,g5,g6,g7,g8,g9⟩:=G.bm
  obtain⟨_,_,_,_,gm,_⟩:=G.glob
  obtain⟨tps,t1,t2,t3⟩:=I.tab _ hP
  refine fin_ ?_
  have hg:=I.heap g1 gm
  have hgP:mainGlobals≠c.tab:=λz=>gm (z▸hP)
  have hbP:bm≠c.tab:=λz=>g5 (z▸hP)
  have hC2:CodeHd s.heap (fF c.tab) c.tab:=by
   refine hold λG_ fin_=>?_
   obtain⟨o,vs,file,tf,flags,tg,inF,text,tt,e,r⟩:=hC
   refine fin_ ?_
   exact⟨o,vs,file,tf,flags,tg,inF,text,tt,I.base.old _ _ e hC',r⟩
  have hb:s.heap.BuiltinsAt mg c.tab:=⟨bm,ob,g2,g3,g4,hbP,I.base.old _ _ g6 g5,g7,g8,g9⟩
  refine kla_eval rfl ?_
  have fin:∀{V1:Vl} {h1:Heap} {tk:Nat} {cv ctv:Value},V.Le V1->Inv Z C V1 J {s with heap:=h1,toks:=tk}->CodeK Z V1 h1 cv (kA c.tab)->
   Q (.ref h1.objs.size) {s with heap:=h1.push {cls:=.type "function",data:=.func (kla_fn ("<lambda>" :Str) (env.qual++("<lambda>" :Str)) ⟨[],[],none,[],[],none,[]⟩ b sc cl ((mg "__name__").getD .none) cv ctv)},toks:=tk}:=λ{V1 h1 tk cv ctv} le1 I1 hk=>by
   have g:=Heap.get?_push_size h1 (o:={cls:=.type "function",data:=.func (kla_fn ("<lambda>" :Str) (env.qual++("<lambda>" :Str)) ⟨[],[],none,[],[],none,[]⟩ b sc cl ((mg "__name__").getD .none) cv ctv)}) rfl
   have keep:∀(b':Addr) (x:Obj),h1.get? b'=some x->(h1.push {cls:=.type "function",data:=.func (kla_fn ("<lambda>" :Str) (env.qual++("<lambda>" :Str)) ⟨[],[],none,[],[],none,[]⟩ b sc cl ((mg "__name__").getD .none) cv ctv)}).get? b'=some x:=λb' x e=>Heap.get?_push_of_some _ e
   have hk:CodeK Z V1 h1 cv (env.qual++("<lambda>" :Str)):=by rw[hqual];exact hk
   have le2:=I1.add_le (a:=h1.objs.size) (xs:=[]) (t:=none) (Nat.le_refl _) (λp hp=>by cases hp)
   obtain⟨le,vr,I2⟩:=I1.alloc (h':=h1.push {cls:=.type "function",data:=.func (kla_fn ("<lambda>" :Str) (env.qual++("<lambda>" :Str)) ⟨[],[],none,[],[],none,[]⟩ b sc cl ((mg "__name__").getD .none) cv ctv)}) (a:=h1.objs.size) (xs:=[]) (t:=none) (tk:=tk) hT (Nat.le_refl _) ⟨_,g⟩ (λp hp=>by cases hp) keep
    ⟨_,_,_,_,_,_,_,g,rfl,hk.mono le2 (λb o O O e=>keep b o e) (λb o O e=>keep b o e),λn j h1' h2'=>by
      obtain⟨x1,x2⟩:=hcl n j h1' h2'
      have x1':=Nat.lt_of_lt_of_le x1 le1.n
      exact⟨Nat.lt_of_lt_of_le x1' le2.n,by rw[le2.ρ j x1',le1.ρ j x1];exact x2⟩,hsc.1,hsc.2,rfl⟩ nofun
   exact q _ _ _ _ _ h (le1.trans le) I2 vr
  induction hq:codeAmong p tps.toList with
  |some cv=>
   refine kla_makeFunctionHit (mg:=mg) hclos en.glob hg hcode hC2 t1 t2 hq hb λctv h' tk hk hsz=>?_
   exact fin (Vl.Le.refl V) (I.more (t:=tk) hk) ((t3 p cv hq).mono (Vl.Le.refl V) (λb o O O e=>hk b o e) λb o O e=>hk b o e)
  |none=>
   refine kla_makeFunction (mg:=mg) hclos en.glob hg hcode hC2 t1 t2 hq hgP hb λc' ctv h' tk hx hge hlt hrec htb=>?_
   refine hold λG_ fin_=>?_
   obtain⟨c2,oc,vs,t,r1,r2,r3,r4⟩:=hrec
   refine fin_ ?_
   cases r1
   obtain⟨n1,n2,n3⟩:=I.new_none hge
   have le:V.Le (V.note c' .code):=⟨Nat.le_refl _,λO O=>rfl,λa w h=>(if_neg (λe:a=c'=>by rw[e,n1]at h;exact fo h)).trans h,λO e=>e,λO O e=>e,λO e=>e,λO O e=>e,rfl⟩
   have hPo:=I.tab_own hP
   have kb:∀b o,b≠c.tab->s.heap.get? b=some o->h'.get? b=some o:=λb o hb e=>hx b o hb e
   have hk:CodeK Z (V.note c' .code) h' (.ref c') (kA c.tab):=⟨c',oc,vs,t,rfl,r2,r3,by rw[<-hqual];exact r4,.inr (if_pos rfl)⟩
   refine fin le ?_ hk
   refine I.goF le (λO=>False) (λb=>b=c.tab) (λb z=>by
    subst z
    exact⟨hPo,λz=>absurd hP z,λk o e=>by
     have:=(I.ext k _ o e).2.1
     obtain⟨o',ho'⟩:=I.tabLo _ hP
     rw[this]at ho';exact fo ho'⟩) (λP' hP'=>?_) rfl (λb x ⟨w,hw⟩ e=>⟨x,kb b x (λz=>by rw[z,hPo]at hw;exact fo hw) e⟩) (λb w h=>?_) (λb x z O e=>kb b x z e) I.n (λj x h=>.inl ⟨h,id,id,id⟩) (.inl ⟨rfl,id⟩) (λO O O O=>.inl id) (λO=>id) id (λi ks e=>.inl ⟨e,id⟩) I.X (l6 trivial)
   ·by_cases z:P'=c.tab
    ·subst z
     refine .inr ⟨_,htb,?_,λpos cv e=>?_⟩
     ·rw[Array.toList_append]
      exact TriplesOk_snoc _ _ _ _ t2
     ·rw[Array.toList_append]at e
      rcases gA _ t2 e with e|e
      ·exact(t3 pos cv e).mono le (λb o O hb e=>kb b o (λz=>hb (z▸hP)) e) λb o hb e=>kb b o (λz=>by rw[z,hPo]at hb;exact fo hb) e
      ·subst e;exact hk
    ·exact .inl z
   ·change(if b=c' then some Own.code else V.own b)=some w at h
    by_cases z:b=c'
    ·exact .inr ⟨z▸⟨n1,n2,n3⟩,z▸⟨_,r2⟩⟩
    ·rw[if_neg z]at h;exact .inl h
end
end
end
section
open PySem.SeqAt
theorem nS{α:Type}:∀(n:Nat) (l:List α),pC n l=l.take n
 |0,l=>by induction l<;>rfl
 |n+1,[]=>rfl
 |n+1,a::l=>by
  show a::pC n l=_
  rw[nS n l];rfl
theorem uI{α:Type}:∀(n:Nat) (l:List α),s8 n l=l.drop n
 |0,l=>by induction l<;>rfl
 |n+1,[]=>rfl
 |n+1,a::l=>by
  show s8 n l=_
  rw[uI n l];rfl
theorem VRs.drop(h:VRs V xs us):VRs V (xs.drop n) (us.drop n):=
 h.ind (P:=λxs us=>∀n,VRs V (xs.drop n) (us.drop n)) (λn=>by induction n using Nat.casesOn<;>trivial) (λO O O O r rr ih n=>by
  induction n using Nat.casesOn with
  |zero=>exact⟨r,rr⟩
  |succ n=>exact ih n) n
theorem VRs.take(h:VRs V xs us):VRs V (xs.take n) (us.take n):=
 h.ind (P:=λxs us=>∀n,VRs V (xs.take n) (us.take n)) (λn=>by induction n using Nat.casesOn<;>trivial) (λO O O O r rr ih n=>by
  induction n using Nat.casesOn with
  |zero=>trivial
  |succ n=>exact⟨r,ih n⟩) n
theorem pV(h:j6 n v d=some x)(r:VR V v u):∃p:Option Int,IsPart u p/\x=p.elim d (clipAt n):=by
 induction r with
 |none=>obtain rfl:=Option.some.inj h;exact⟨none,.none,rfl⟩
 |int i t=>
  induction i with
  |ofNat i=>
   have h:some (Nat.min i n)=some x:=h
   obtain rfl:=Option.some.inj h
   exact⟨_,.int _ t,(clipAt_nat n i).symm⟩
  |negSucc i=>
   have h:some (n-(i+1))=some x:=h
   obtain rfl:=Option.some.inj h
   refine⟨_,.int _ t,?_⟩
   have:=clipAt_neg n (i+1) (Nat.le_add_left _ _)
   exact this.symm
 |_=>exact fo h
theorem FU{V:Vl}{α:Type}{l ys:List α}{a b:SV}{ua ub:Value}(h:cut l a b=some ys)(ra:VR V a ua)(rb:VR V b ub):
 ∃lo hi:Option Int,IsPart ua lo/\IsPart ub hi/\ys=(l.drop (lo.elim 0 (clipAt l.length))).take (hi.elim l.length (clipAt l.length)-lo.elim 0 (clipAt l.length)):=by
 have h:Option.rec (motive:=λO=>Option (List α)) none (λx=>(j6 (bA l) b (bA l)).map λy=>pC (y-x) (s8 x l)) (j6 (bA l) a 0)=some ys:=h
 induction e1:j6 (bA l) a 0 with
 |none=>rw[e1]at h;exact fo h
 |some x=>
  rw[e1]at h
  obtain⟨y,e2,rfl⟩:=Option.map_eq_some_iff.mp h
  obtain⟨lo,p1,rfl⟩:=pV e1 ra
  obtain⟨hi,p2,rfl⟩:=pV e2 rb
  rw[aT]
  exact⟨lo,hi,p1,p2,by rw[nS,uI]⟩
theorem pW(n:Nat)(i:Int):clipAt n i≤n:=by
 have:=clipAt_cast n i
 exact aIH this
open Builtin Builtin.Str in
theorem Z5(lo hi:Option Int)(n:Nat):strSliceIndices lo hi 1 n=(List.range (hi.elim n (clipAt n)-lo.elim 0 (clipAt n))).map (lo.elim 0 (clipAt n)+·):=by
 have e:strSliceIndices lo hi 1 n=sliceRange ((lo.elim 0 (clipAt n):Nat):Int) ((hi.elim n (clipAt n):Nat):Int) 1:=by
  unfold strSliceIndices
  induction lo<;>induction hi<;>simp[clipAt_cast]
 rw[e,sliceRange_one]
set_option tactic.hygienic true in
theorem FV(x:Nm)(lo hi:Option Int):Txt.slice (tx x) lo hi=tx ((x.drop (lo.elim 0 (clipAt x.length))).take (hi.elim x.length (clipAt x.length)-lo.elim 0 (clipAt x.length))):=by
 unfold Txt.slice
 rw[eQ,Z5,pick_run]
 have h1:lo.elim 0 (clipAt x.length)≤x.length:=by induction lo with|none=>exact Nat.zero_le _|some i=>exact pW _ _
 have h2:hi.elim x.length (clipAt x.length)≤x.length:=by induction hi with|none=>exact Nat.le_refl _|some i=>exact pW _ _
 generalize lo.elim 0 (clipAt x.length)=a at h1⊢
 generalize hi.elim x.length (clipAt x.length)=b at h2⊢
 split
 ·rename_i q
  rw[Bool.and_eq_true]at q
  have q:=beq_iff_eq.mp q.2
  rw[List.length_map,List.length_range]at q
  have:x≠ []->a=0/\b=x.length:=λO=>by exact aII h1 h2 q
  by_cases hx:x=[]
  ·subst hx;simp
  ·obtain⟨rfl,rfl⟩:=this hx
   simp
 ·rfl
section
variable{Z:Gd}(G:aU Z){n:Nat}{ih:Ih}(S:gS Z n ih){C:Cf}{V:Vl}{J:St}{s:Shared}{A:Around}{env:Env}{c:Cx}{k:KK}{kx:KX}{E:Value->Shared->Prop}
open Builtin in
theorem iO{t sl:Addr}{items:Array Value}{b:Nat}{u:Tok}{Q:Value->Shared->Prop}(ht:PyProof.Rows.IsTup s.heap t items)(hs:s.heap.IsSliceOf sl .none (.int b u) .none)(hb:b<items.size)(hsz:items.size≤1000)
 (h:Q (.ref s.heap.objs.size) {s with heap:=s.heap.push {cls:=.type "tuple",data:=.seq (items.toList.take b).toArray}}):wpAny Z.M A (getItem (.ref t) (.ref sl)) Q E s:=by
 have hok:sizeOk (.seq (items.toList.take b).toArray):=by
  show(items.toList.take b).toArray.size≤sizeLine
  rw[List.size_toArray,List.length_take,Array.length_toList]
  exact Nat.le_trans (Nat.min_le_right _ _) (Nat.le_trans hsz (by decide))
 refine hold λG_ fin_=>?_
 obtain⟨os,hos,hcs,hds⟩:=id hs
 refine fin_ ?_
 have hTs:s.TypeIs (.ref sl) "slice" :=⟨os,hos,hcs⟩
 unfold getItem
 try with_reducible refine wpAny_holding ?_
 first|refine wpAny_bind (wpAny_pure ?_)|skip
 refine wpAny_bind (wpAny_sequenceKey ht.typeIs (by decide) ?_)
 refine wpAny_bind (wpAny_callSpecial?_slot (name:=Str.ofString "__getitem__") ht.typeIs slot_tuple_getitem (wpAny_call_entry slot_tuple_getitem ht.typeIs entry_tuple_getitem ?_ (args_tuple_getitem _ _)))
 show wpAny _ _ (Builtin.Tuple.tupleItemsOf (.ref t) >>= _) _ _ s
 refine wpAny_bind (tupleItemsOf_ ht ?_)
 refine wpAny_bind (wpAny_typeOf hTs ?_)
 rw[if_pos (by decide)]
 have applied:∀{Q:Int×Int×Nat->Shared->Prop},Q (0,1,b) s->wpAny Z.M A.in1 (Builtin.Slice.sliceApplied (.ref sl) (pure (items.size:Int))) Q (λe s'=>E e s') s:=λ{Q} h=>by
  unfold Builtin.Slice.sliceApplied Builtin.Slice.sliceFields
  refine wpAny_bind (wpAny_bind (wpAny_field hos hds (x:=.none) rfl (wpAny_bind (wpAny_field hos hds (x:=.int b u) rfl (wpAny_bind (wpAny_field hos hds (x:=.none) rfl (wpAny_pure ?_)))))))
  refine wpAny_bind (slicePart_none ?_)
  show wpAny _ _ (if((1:Int)==0)=true then _ else _) _ _ s
  rw[if_neg (by decide)]
  refine wpAny_bind (slicePart_none (wpAny_bind (slicePart_int (wpAny_bind (wpAny_pure ?_)))))
  have e1:Builtin.Slice.sliceAdjust none (some (b:Int)) 1 (items.size:Int)=(0,(b:Int)):=by
   unfold Builtin.Slice.sliceAdjust
   have h1:¬((1:Int)<0):=by exact by decide
   have h2:¬((b:Int)<0):=by exact Int.not_ofNat_neg _
   simp only[h1,h2,if_false]
   congr 1
   exact Int.min_eq_left (Int.ofNat_le.mpr (Nat.le_of_lt hb))
  have e2:Builtin.Slice.slicePlaces 0 (b:Int) 1=b:=by
   unfold Builtin.Slice.slicePlaces
   simp only[show(1:Int)>0 from by decide,if_true,Int.ediv_one]
   split
   ·exact aIJ
   ·next h=>exact(Nat.eq_zero_of_not_pos λq=>h (Int.ofNat_lt.mpr q)).symm
  show wpAny _ _ (match Builtin.Slice.sliceAdjust none (some (b:Int)) 1 (items.size:Int)with|(lo,hi)=>pure (lo,(1:Int),Builtin.Slice.slicePlaces lo hi 1)) _ _ s
  rw[e1]
  show wpAny _ _ (pure ((0:Int),(1:Int),Builtin.Slice.slicePlaces 0 (b:Int) 1)) _ _ s
  rw[e2]
  exact wpAny_pure h
 refine wpAny_bind (applied ?_)
 have hno:¬(((0:Int)==0&&(1:Int)==1&&b==items.size)=true):=by
  have:(b==items.size)=false:=by rw[beq_eq_false_iff_ne];exact Nat.ne_of_lt hb
  rw[this];simp
 have pk:((List.range b).filterMap λ(k:Nat)=>items[((0:Int)+(k:Int)*1).toNat]?).toArray=(items.toList.take b).toArray:=by
  have e:(λ(k:Nat)=>items[((0:Int)+(k:Int)*1).toNat]?)=λk=>items[0+k]?:=by
   funext k
   have:((0:Int)+(k:Int)*1).toNat=0+k:=by exact aIK
   rw[this]
  rw[e]
  have:=pick_run items 0 b
  rw[List.filterMap_map]at this
  exact congrArg List.toArray this
 show wpAny _ _ (if((0:Int)==0&&(1:Int)==1&&b==items.size)=true then _ else _) _ _ s
 rw[if_neg hno,pk]
 first
  |exact wpAny_bind (m:=Builtin.Tuple.tupleExact _) (wpAny_newObj_type (wpAny_pure ⟨_,rfl,wpAny_pure h⟩) hok)
  |exact wpAny_bind (m:=Builtin.Tuple.tupleExact _) (wpAny_newObj_type (wpAny_bind (wpAny_pure (wpAny_pure ⟨_,rfl,wpAny_pure h⟩))) hok)
  |exact wpAny_bind (wpAny_bind (m:=Builtin.Tuple.tupleExact _) (wpAny_newObj_type (wpAny_pure (wpAny_pure ⟨_,rfl,wpAny_pure h⟩)) hok))
  |exact wpAny_bind (wpAny_bind (m:=Builtin.Tuple.tupleExact _) (wpAny_newObj_type (wpAny_pure ⟨_,rfl,wpAny_pure h⟩) hok))
include S in
theorem iG(I:Inv Z C V J s)(a:AOk C A n)(en:EnvOk C V c env)(hh:A.handled=none){e:Option Expr}{kv:KV}{Q:Value->Shared->Prop}(h:iY ih c e J kv kx=true)
 (q:∀v u J' V' s',kv v J'=true->V.Le V'->Inv Z C V' J' s'->VR V' v u->Q u s') (xx:QX Z C V kx E):wpAny Z.M A (evalPart e env) Q E s:=by
 induction e with
 |none=>exact wpAny_evalPart_none (q _ _ _ _ _ h (Vl.Le.refl V) I .none)
 |some e=>exact wpAny_evalPart_some (S.ev h I a en (.inl hh) (λv u J' V' s' h' le I' r=>q v u J' V' s' (onVal_case h') le I' r) xx)
theorem A9{xs:List SV}{vs:Array Value}{k:KV}{Q:Value->Shared->Prop}(h:qP J xs k=true)(I:Inv Z C V J s)(r:VRs V xs vs.toList)
 (q:∀v u J' V' s',k v J'=true->V.Le V'->Inv Z C V' J' s'->VR V' v u->Q u s'):Q (.ref s.heap.objs.size) {s with heap:=s.heap.push {cls:=.type "tuple",data:=.seq vs}}:=by
 refine hold λG_ fin_=>?_
 obtain⟨hl,h⟩:=aB h
 obtain⟨T',hT,h⟩:=aK h
 have g:Heap.get? (s.heap.push {cls:=.type "tuple",data:=.seq vs}) s.heap.objs.size=some {cls:=.type "tuple",data:=.seq vs}:=Heap.get?_push_size _ rfl
 obtain⟨le,vr,I'⟩:=I.alloc (h':=s.heap.push {cls:=.type "tuple",data:=.seq vs}) (a:=s.heap.objs.size) (xs:=[]) (t:=none) (tk:=s.toks) hT (Nat.le_refl _) ⟨_,g⟩ (λp hp=>by cases hp)
  (λb x e=>Heap.get?_push_of_some _ e) ⟨aS hl,vs,0,g,r.mono (I.add_le (Nat.le_refl _) (λp hp=>by cases hp))⟩ (λO h=>fo h)
 refine fin_ ?_
 exact q _ _ _ _ _ h le I' vr
theorem BA(I:Inv Z C V J s){value sl:Expr}{a b:SV}{i:Nat}{xs:List SV}{ua ub:Value}{Q:Value->Shared->Prop}(hx:J.T.get i=some (.tup xs))(h:tG xs a b J k=true)(ra:VR V a ua)(rb:VR V b ub)(hs:∀o i,subscripted sl false o i=operate [i,o] (getItem o i))
 (q:QV Z C V k Q):wpAny Z.M A (subscriptTail value sl (.ref (V.ρ i)) (.ref s.heap.objs.size)) Q E {s with heap:=s.heap.push {cls:=.type "slice",data:=.fields #[ua,ub,.none]}}:=by
 have I1:Inv Z C V J {s with heap:=s.heap.push {cls:=.type "slice",data:=.fields #[ua,ub,.none]}}:=I.more (t:=s.toks) λb x e=>Heap.get?_push_of_some _ e
 obtain⟨ha,h1⟩:=aB h
 obtain⟨m,rfl,h2⟩:=gN h1
 obtain⟨hm0,h3⟩:=aB h2
 have hm:m<xs.length:=by rw[<-aT];exact Nat.lt_of_succ_le (Nat.le_of_ble_eq_true (n:=m+1) hm0)
 induction ra with
 |none=>exact VR.el_int (P:=λub=>Inv Z C V J {s with heap:=s.heap.push {cls:=.type "slice",data:=.fields #[.none,ub,.none]}}->wpAny Z.M A (subscriptTail value sl (.ref (V.ρ i)) (.ref s.heap.objs.size)) Q E {s with heap:=s.heap.push {cls:=.type "slice",data:=.fields #[.none,ub,.none]}}) rb (λt I1=>by
  obtain⟨_,_,hl,us,ep,g1,g2⟩:=I.T i _ hx
  have len:us.size=xs.length:=by rw[g2.length];rfl
  have ht:PyProof.Rows.IsTup (s.heap.push {cls:=.type "slice",data:=.fields #[.none,.int (Int.ofNat m) t,.none]}) (V.ρ i) us:=⟨_,Heap.get?_push_of_some _ g1,rfl,ep,rfl⟩
  refine cM ht.typeIs slot_tuple_getitem.lookup (iO ht (Heap.IsSliceOf.new ..) (Nat.lt_of_lt_of_eq hm len.symm) (Nat.le_trans (Nat.le_of_eq len) hl) ?_) (hs _ _)
  refine A9 h3 I1 ?_ q
  rw[nS]
  exact g2.take) I1
 |_=>exact ff ha
theorem BB(I:Inv Z C V J s){value sl:Expr}{a b:SV}{i:Nat}{xs:List SV}{ua ub:Value}{Q:Value->Shared->Prop}(hx:J.T.get i=some (.list xs))(h:some? (cut xs a b) (λys=>qZ k ys J)=true)(ra:VR V a ua)(rb:VR V b ub)(hs:∀o i,subscripted sl false o i=operate [i,o] (getItem o i))
 (q:QV Z C V k Q):wpAny Z.M A (subscriptTail value sl (.ref (V.ρ i)) (.ref s.heap.objs.size)) Q E {s with heap:=s.heap.push {cls:=.type "slice",data:=.fields #[ua,ub,.none]}}:=by
 have I1:Inv Z C V J {s with heap:=s.heap.push {cls:=.type "slice",data:=.fields #[ua,ub,.none]}}:=I.more (t:=s.toks) λb x e=>Heap.get?_push_of_some _ e
 obtain⟨ys,hy,h⟩:=some?_eq h
 obtain⟨lo',hi2,p1,p2,e⟩:=FU hy ra rb
 obtain⟨_,_,hl,us,ep,g1,g2⟩:=I.T i _ hx
 have len:us.size=xs.length:=by rw[g2.length];rfl
 have ht:(s.heap.push {cls:=.type "slice",data:=.fields #[ua,ub,.none]}).IsList (V.ρ i) us:=⟨_,Heap.get?_push_of_some _ g1,rfl,ep,rfl⟩
 refine cM ht.typeIs slot_list_getitem.lookup (wpAny_getItem_list_slice ht (Heap.IsSliceOf.new ..) p1 p2 .none (by simp) ?_ (by rw[len];exact Nat.le_trans hl (by decide))) (hs _ _)
 rw[slicePick_plain,len]
 refine m9 (s:={s with heap:=s.heap.push {cls:=.type "slice",data:=.fields #[ua,ub,.none]}}) h I1 ?_ q s.toks
 rw[e]
 exact g2.drop.take
theorem uJ(I:Inv Z C V J s){value:Expr}{lo hi:Option Expr}{p:Pos}{ov a b:SV}{ou ua ub:Value}{Q:Value->Shared->Prop}(h:rB ov a b J k=true)(ro:VR V ov ou)(ra:VR V a ua)(rb:VR V b ub)(q:QV Z C V k Q):
 wpAny Z.M A (subscriptTail value (.Slice lo hi none p) ou (.ref s.heap.objs.size)) Q E {s with heap:=s.heap.push {cls:=.type "slice",data:=.fields #[ua,ub,.none]}}:=by
 have I1:Inv Z C V J {s with heap:=s.heap.push {cls:=.type "slice",data:=.fields #[ua,ub,.none]}}:=I.more (t:=s.toks) λb x e=>Heap.get?_push_of_some _ e
 have hs:∀o i,subscripted (.Slice lo hi none p) false o i=operate [i,o] (getItem o i):=λO O=>rfl
 induction ro with
 |str x t=>
  obtain⟨hl,h⟩:=aB (b:=cP x) (x:=some? (cut x a b) λy=>k (.val (.str y)) J) h
  have hl:=aS hl
  obtain⟨y,hy,h⟩:=some?_eq h
  obtain⟨lo',hi',p1,p2,e⟩:=FU hy ra rb
  have fin:∀h' t' tk,(∀b o,s.heap.get? b=some o->h'.get? b=some o)->Q (.str (Txt.slice (tx x) lo' hi') t') {s with heap:=h',toks:=tk}:=λh' t' tk hk=>by
   rw[FV,<-e]
   exact q _ _ _ _ _ h (Vl.Le.refl V) (I.more (t:=tk) hk) (.str y t')
  have hk:KeptH (λh':Heap=>∀b o,s.heap.get? b=some o->h'.get? b=some o):=λh' ob hh b o e=>Heap.get?_push_of_some _ (hh b o e)
  have hz:(tx x).length≤sizeLine:=by rw[eQ];exact Nat.le_trans hl (by decide)
  have io:ItemOn Z.M A E (.str (tx x) t) (.ref s.heap.objs.size) Q {s with heap:=s.heap.push {cls:=.type "slice",data:=.fields #[ua,ub,.none]}}:=by
   induction p1 with
   |none=>induction p2 with
    |none=>exact SBH.sliceItem_nn hk (λO O e=>e) fin hz
    |int j tj=>exact SBH.sliceItem_ns hk (λO O e=>e) fin hz
   |int i ti=>induction p2 with
    |none=>exact SBH.sliceItem_sn hk (λO O e=>e) fin hz
    |int j tj=>exact SBH.sliceItem_ss hk (λO O e=>e) fin hz
  obtain⟨T,id,hT,hty,hg⟩:=io
  exact cM hty hT hg (hs _ _)
 |ref i hi'=>
  obtain⟨o,hx,h⟩:=some?_eq h
  induction o with
  |tup xs=>exact BA I hx h ra rb hs q
  |list xs=>exact BB I hx h ra rb hs q
  |_=>exact ff h
 |_=>exact ff h
include G S in
theorem Z6(I:Inv Z C V J s)(a:AOk C A n)(en:EnvOk C V c env)(hh:A.handled=none){o sl:Expr}{p:Pos}{Q:Value->Shared->Prop}(h:SZ ih o sl c J k kx=true)(q:QV Z C V k Q)(xx:QX Z C V kx E):
 wpAny Z.M A (eval (.Subscript o sl p) env) Q E s:=by
 refine PyProof.Rows.Subscript_ ?_
 have plain:mQ ih o sl c J (λov iv J=>sub J ov iv k) kx=true->(∀o i,subscripted sl false o i=operate [o,i] (getItem o i))->wpAny Z.M A (eval o env) (λou s₁=>wpAny Z.M A (eval sl env) (λiu s₂=>wpAny Z.M A (subscriptTail o sl ou iu) Q E s₂) E s₁) E s:=λh hs=>by
  refine S.ev h I a en (.inl hh) (λov ou J1 V1 s1 h1 le1 I1 r1=>?_) xx
  refine S.ev (onVal_case h1) I1 a (en.mono le1) (.inl hh) (λiv iu J2 V2 s2 h2 le2 I2 r2=>?_) (xx.mono le1)
  exact pQ G.kref I2 (by have:=a.units;unfold cLine;exact bnd this rfl) (onVal_case h2) (r1.mono le2) r2 (hs _ _) λv u t hk r=>q v u J2 V2 _ hk (le1.trans le2) (I2.tok t) r
 induction sl using PySem.Expr.casesOn with
 |Slice lo hi st p'=>
  induction st with
  |some _=>exact plain h λO O=>rfl
  |none=>
   have h:ih (.ev o c) J (aL λov J=>iY ih c lo J (λa J=>iY ih c hi J (λb J=>rB ov a b J k) kx) kx) kx=true:=h
   refine S.ev h I a en (.inl hh) (λov ou J1 V1 s1 h1 le1 I1 r1=>?_) xx
   refine wpAny_Slice (iG S I1 a (en.mono le1) hh (onVal_case h1) (λav au J2 V2 s2 h2 le2 I2 r2=>?_) (xx.mono le1))
   refine iG S I2 a (en.mono (le1.trans le2)) hh h2 (λbv bu J3 V3 s3 h3 le3 I3 r3=>?_) (xx.mono (le1.trans le2))
   refine wpAny_evalPart_none ?_
   exact uJ I3 h3 (r1.mono (le2.trans le3)) (r2.mono le3) r3 (q.mono ((le1.trans le2).trans le3))
 |_=>exact plain h λO O=>rfl
end
end
section
open PySem.SeqAt
theorem BC{n:Nat}(h:n<10):(Str.ofString (toString (Int.ofNat n)))=tx (wA (.ofNat n)):=by
 have:((List.range 10).all λn=>decide ((Str.ofString (toString (Int.ofNat n)))=tx (wA (.ofNat n))))=true:=by decide+kernel
 rw[List.all_eq_true]at this
 exact of_decide_eq_true (this n (List.mem_range.mpr h))
theorem rV{V:Vl}{xs:List SV}:∀{us:List Value},xs.length=us.length->(∀(j:Nat) (x:SV) (u:Value),xs[j]?=some x->us[j]?=some u->VR V x u)->VRs V xs us:=by
 induction xs with
 |nil=>intro us h O;induction us using List.casesOn with
  |nil=>trivial
  |cons _ _=>exact absurd h nofun
 |cons x xs ih=>intro us h g;induction us using List.casesOn with
  |nil=>exact absurd h nofun
  |cons u us=>exact⟨g 0 x u rfl rfl,ih (Nat.succ.inj h) λj x u h1 h2=>g (j+1) x u h1 h2⟩
theorem FW{Z:Gd}{C:Cf}{V:Vl}{J:St}{s:Shared}(I:Inv Z C V J s){i D:Nat}{es:List (Nm×SV)}(h:J.T.get i=some (.inst D es)):∃p ox od,aE aO D=some p/\aP p.1 39=false/\InstAt s.heap (V.ρ i) ox D (some od):=by
 refine hold λG_ fin_=>?_
 obtain⟨_,_,⟨_,p,hp,hx⟩,d,m,g1,g2,g3,g4⟩:=I.T i _ h
 obtain⟨o,es',ep,g5,_⟩:=id g3
 refine fin_ ?_
 exact⟨p,_,o,hp,hx,⟨g1,rfl,rfl,g5⟩⟩
section
variable{Z:Gd}(G:aU Z){C:Cf}{V:Vl}{J:St}{s:Shared}{A:Around}{k:KK}{E:Value->Shared->Prop}
include G in
theorem rW(I:Inv Z C V J s){v c:SV}{u cu:Value}{b:Bool}{Q:Value->Shared->Prop}(h:D8 J v c=some b)(rv:VR V v u)(rc:VR V c cu)(q:∀tk,Q (.bool b) {s with toks:=tk}):
 wpAny Z.M A (PySem.call (.builtin "isinstance") [u,cu]) Q E s:=by
 have X:=I.K G.kin
 have plain:∀{T:String},KitX (K Z.P) u (.type T) (λO=>True)->T∈ ["NoneType","bool","int","str"]->u≠ .builtin "__main__.__loader__#opaque" ->
  kitOne (K Z.P) (.type T) (.type "bool")=some (yR v)->kitOne (K Z.P) (.type T) (.type "int")=some (D6 v)->kitOne (K Z.P) (.type T) (.type "str")=some (D7 v)->AN v c=some b->
  wpAny Z.M A (PySem.call (.builtin "isinstance") [u,cu]) Q E s:=λ{T} ZZ hT hne r7 r5 r2 h=>by
  induction rc with
  |bi k _ hk=>
   have go:∀{W:String} {x:Bool},kitOne (K Z.P) (.type T) (.type W)=some x->x=b->wpAny Z.M A (PySem.call (.builtin "isinstance") [u,.type W]) Q E s:=λr e=>kia_one ZZ X trivial (e▸r) hne q
   rcases eO h with⟨e,e'⟩|h
   ·obtain rfl:=Nat.eq_of_beq_eq_true e
    obtain rfl:=Option.some.inj hk
    exact go r7 e'
   rcases eO h with⟨e,e'⟩|h
   ·obtain rfl:=Nat.eq_of_beq_eq_true e
    obtain rfl:=Option.some.inj hk
    exact go r5 e'
   obtain⟨e,h⟩:=bL h
   obtain rfl:=Nat.eq_of_beq_eq_true e
   obtain rfl:=Option.some.inj hk
   exact go r2 (Option.some.inj h)
  |cls C'=>
   obtain⟨p,hp,rfl⟩:=Option.map_eq_some_iff.mp (h:(aE aO C').map (λO=>false)=some b)
   exact kia_one ZZ X trivial (G.isi1 C' p hp T hT) hne q
  |_=>exact fo h
 induction rv with
 |none=>exact plain kitx_none (by simp) nofun (by first|rfl|decide+kernel) (by first|rfl|decide+kernel) (by first|rfl|decide+kernel) h
 |bool x=>exact plain kitx_bool (by simp) nofun (by first|rfl|decide+kernel) (by first|rfl|decide+kernel) (by first|rfl|decide+kernel) h
 |int x t=>exact plain kitx_int (by simp) nofun (by first|rfl|decide+kernel) (by first|rfl|decide+kernel) (by first|rfl|decide+kernel) h
 |lin x c0 t hx=>exact plain kitx_int (by simp) nofun (by first|rfl|decide+kernel) (by first|rfl|decide+kernel) (by first|rfl|decide+kernel) h
 |str x t=>exact plain kitx_str (by simp) nofun (by first|rfl|decide+kernel) (by first|rfl|decide+kernel) (by first|rfl|decide+kernel) h
 |ref i hi=>
  have h:Option.rec (motive:=λO=>Option Bool) none (SP c) (J.T.get i)=some b:=h
  induction hD:J.T.get i with
  |none=>rw[hD]at h;exact fo h
  |some o=>
   rw[hD]at h
   induction o with
   |inst D es=>
    obtain⟨p,ox,od,hp,hx,ia⟩:=FW I hD
    have F:=G.isi D p hp hx
    have ZZ:KitX (K Z.P) (.ref (V.ρ i)) (.ref D) (λh=>InstAt h (V.ρ i) ox D (some od)):=kitx_own F.pg F.hd F.cl F.gt F.tk F.mo
    induction rc with
    |bi k _ hk=>
     obtain⟨e,h⟩:=bL h
     obtain rfl:=Option.some.inj h
     have go:∀{W:String},W∈ ["bool","int","str"]->wpAny Z.M A (PySem.call (.builtin "isinstance") [.ref (V.ρ i),.type W]) Q E s:=λhW=>kia_one ZZ X ia (G.isi3 D p hp hx _ hW) nofun q
     rcases Bool.or_eq_true_iff.mp e with e|e
     ·rcases Bool.or_eq_true_iff.mp e with e|e
      ·obtain rfl:=Nat.eq_of_beq_eq_true e
       obtain rfl:=Option.some.inj hk
       exact go (by simp)
      ·obtain rfl:=Nat.eq_of_beq_eq_true e
       obtain rfl:=Option.some.inj hk
       exact go (by simp)
     ·obtain rfl:=Nat.eq_of_beq_eq_true e
      obtain rfl:=Option.some.inj hk
      exact go (by simp)
    |cls C'=>
     obtain⟨p',hq,rfl⟩:=Option.map_eq_some_iff.mp (h:(aE aO C').map (λO=>aP (mroOf D) C')=some b)
     have e:mroOf D=p.1:=by unfold mroOf;rw[hp]
     rw[e]at q
     exact kia_one ZZ X ia (G.isi2 D p C' p' hp hx hq) nofun q
    |_=>exact fo h
   |_=>exact fo h
 |_=>exact fo h
theorem nT(I:Inv Z C V J s){xs:List SV}{vs:Array Value}{ep:Nat}{kv:KV}{h':Heap}{tk:Nat}{Q:Value->Shared->Prop}(h:cT J xs kv=true)(hk:∀b o,s.heap.get? b=some o->h'.get? b=some o)
 (hg:h'.get? s.heap.objs.size=some ⟨.type "list",none,.seq vs ep,#[]⟩) (r:VRs V xs vs.toList) (q:∀v u J' V' s',kv v J'=true->V.Le V'->Inv Z C V' J' s'->VR V' v u->Q u s'):Q (.ref s.heap.objs.size) {s with heap:=h',toks:=tk}:=by
 obtain⟨hl,h⟩:=aB h
 obtain⟨T',hT,h⟩:=aK h
 obtain⟨le,vr,I'⟩:=I.alloc (h':=h') (a:=s.heap.objs.size) (xs:=[]) (t:=none) (tk:=tk) hT (Nat.le_refl _) ⟨_,hg⟩ (λp hp=>by cases hp) hk
  ⟨aS hl,vs,ep,hg,r.mono (I.add_le (Nat.le_refl _) (λp hp=>by cases hp))⟩ nofun
 exact q _ _ _ _ _ h le I' vr
theorem gW(I:Inv Z C V J s){o:SObj}{ob:Obj}{kv:KV}{tk:Nat}{Q:Value->Shared->Prop}(h:alloc J o kv=true)(hf:ob.isFreed=false)(ho:∀V' h',V.Le V'->h'.get? s.heap.objs.size=some ob->OR Z V' h' V.n s.heap.objs.size o)
 (q:∀v u J' V' s',kv v J'=true->V.Le V'->Inv Z C V' J' s'->VR V' v u->Q u s'):Q (.ref s.heap.objs.size) {s with heap:=s.heap.push ob,toks:=tk}:=by
 refine hold λG_ fin_=>?_
 obtain⟨T',hT,h⟩:=aK h
 have g:Heap.get? (s.heap.push ob) s.heap.objs.size=some ob:=Heap.get?_push_size _ hf
 obtain⟨le,vr,I'⟩:=I.alloc (h':=s.heap.push ob) (a:=s.heap.objs.size) (xs:=[]) (t:=none) (tk:=tk) hT (Nat.le_refl _) ⟨_,g⟩ (λp hp=>by cases hp) (λb x e=>Heap.get?_push_of_some _ e)
  (ho _ _ (I.add_le (Nat.le_refl _) (λp hp=>by cases hp)) g) nofun
 refine fin_ ?_
 exact q _ _ _ _ _ h le I' vr
theorem pX{a b:Int}(h:wD a b=true): -1001<a/\a<1000/\ -1001<b/\b<1000:=by
 obtain⟨h1,h⟩:=aM h
 exact⟨(gV h1).1,(gV h1).2,(gV h).1,(gV h).2⟩
theorem w9{i:Nat}{h:Heap}{a:Addr}{es:List (SV×SV)}(x:OR Z V h i a (.dict es))(hs:∀p es',es=p::es'->∃n,p.1= .str n):∃kvs ep,DRs V es kvs/\h.DictAt (strKind pw Z.w) a kvs ep:=by
 refine hold λG_ fin_=>?_
 obtain⟨kvs,h1,o,ents,ep,r⟩:=l8 x hs
 refine fin_ ?_
 exact⟨kvs,ep,h1,o,ents,r⟩
theorem FY{V:Vl}{es:List (SV×SV)}{kvs:List (Str×Value)}(h:DRs V es kvs):∀(j:Nat) (x:SV),(es.map (·.1))[j]?=some x->∃n v,kvs[j]?=some (tx n,v)/\x= .str n:=by
 refine h.ind (λj x h=>absurd h (λh=>fo h)) λp es e kvs r O ih j x hx=>?_
 induction j using Nat.casesOn with
 |zero=>
  obtain⟨⟨n,e1,e2⟩,_⟩:=r
  obtain⟨y,v⟩:=e
  exact⟨n,v,by rw[show y=tx n from e2];rfl,(Option.some.inj hx).symm.trans e1⟩
 |succ j=>exact ih j x hx
theorem jL{α:Type}{n j:Nat}{f:Nat->α}{x:α}(h:((List.range n).map f)[j]?=some x):x=f j:=by
 rw[List.getElem?_map]at h
 obtain⟨i,hi,rfl⟩:=Option.map_eq_some_iff.mp h
 obtain⟨_,h2⟩:=List.getElem?_eq_some_iff.mp hi
 rw[List.getElem_range]at h2;rw[h2]
include G in
theorem xA(I:Inv Z C V J s)(hh:A.handled=none){i:Nat}{o:SObj}{Q:Value->Shared->Prop}(ho:J.T.get i=some o)(h:aIm J k o=true)(q:QV Z C V k Q):wpAny Z.M A (PySem.call (.type "list") [.ref (V.ρ i)]) Q E s:=by
 obtain⟨_,t2,x⟩:=I.T i _ ho
 induction o with
 |list xs=>
  obtain⟨hl,vs,ep,g1,g2⟩:=x
  exact call_list_seq _ (.inl rfl) g1 rfl rfl (λh' c' hk hg=>nT I (tk:=s.toks) h hk hg g2 q) (by rw[<-Array.length_toList,<-g2.length];exact Nat.le_trans hl (by decide))
 |tup xs=>
  obtain⟨hl,vs,ep,g1,g2⟩:=x
  exact call_list_seq _ (.inr rfl) g1 rfl rfl (λh' c' hk hg=>nT I (tk:=s.toks) h hk hg g2 q) (by rw[<-Array.length_toList,<-g2.length];exact Nat.le_trans hl (by decide))
 |dict es=>
  obtain⟨hs,h⟩:=aB h
  have hs':∀p es',es=p::es'->∃n,p.1= .str n:=λp es' e=>by
   subst e
   obtain⟨k0,v0⟩:=p
   induction k0 with
   |str n=>exact⟨n,rfl⟩
   |_=>exact ff hs
  obtain⟨kvs,ep,d1,d2⟩:=w9 x hs'
  refine kdl_call (kdl_dict (knd:=strKind pw Z.w) (kvs:=kvs) (ep:=ep) (I.big t2)) hh d2 (by rw[<-d1.length];exact Nat.le_trans x.1 (by decide)) λh' tk acc c' hk hg hacc=>nT I h hk hg (rV ?_ λj xv uv hj hu=>?_) q
  ·exact(List.length_map (as:=es) (·.1)).trans (d1.length.trans hacc.1.symm)
  ·obtain⟨n,v0,e1,e2⟩:=FY d1 j _ hj
   obtain⟨k',x',e3,e4⟩:=hacc.2 j uv (by rwa [Array.getElem?_toList]at hu)
   obtain⟨rfl,rfl⟩:=Prod.mk.inj (Option.some.inj (e1.symm.trans e3))
   obtain⟨t,rfl⟩:=Value.isStrOf_shape e4
   rw[e2];exact .str n t
 |range a n=>
  obtain⟨c,t,u,v,g1,g2,b1,b2,b3,b4⟩:=x
  obtain⟨e1,e2⟩:=jK b1 b2 b3 b4
  refine call_list_range hh g1 e1 e2 (S6 b1 b4) λh' tk acc c' hk hg hacc=>nT I h hk hg (rV ?_ λj xv uv hj hu=>?_) q
  ·rw[List.length_map,List.length_range,Array.length_toList,hacc.1,g2]
  ·obtain⟨t',rfl⟩:=hacc.2 j uv (by rwa [Array.getElem?_toList]at hu)
   rw[jL hj,Int.mul_one];exact .int _ _
 |lrange a n=>
  obtain⟨x,c,t,u,v,hX,g1,g2,b1,b2,b3,b4⟩:=x
  obtain⟨e1,e2⟩:=jK b1 b2 b3 b4
  refine call_list_range hh g1 e1 e2 (S6 b1 b4) λh' tk acc c' hk hg hacc=>nT I h hk hg (rV ?_ λj xv uv hj hu=>?_) q
  ·rw[List.length_map,List.length_range,Array.length_toList,hacc.1,g2]
  ·obtain⟨t',rfl⟩:=hacc.2 j uv (by rwa [Array.getElem?_toList]at hu)
   rw[jL hj,Int.mul_one,Int.add_assoc];exact .lin _ _ _ hX
 |_=>exact ff h
theorem xB(I:Inv Z C V J s){v w:SV}{u z:Value}{Q:Value->Shared->Prop}(h:aIn J k v w=true)(r1:VR V v u)(r2:VR V w z)(q:QV Z C V k Q):wpAny Z.M A (PySem.call (.type "range") [u,z]) Q E s:=by
 rcases ZJ h with⟨a,rfl,h1⟩|⟨a,rfl,h1⟩
 ·skip
  obtain⟨b,rfl,h2⟩:=rE h1
  exact VR.el_int r1 λt1=>VR.el_int r2 λt2=>by
   obtain⟨hm,h⟩:=aB h2
   have:=pX hm
   exact call_range_2 (gW I h rfl (λV' h' le g=>⟨_,_,_,_,g,rfl,by exact aIL this⟩) q)
 ·skip
  obtain⟨b,rfl,h2⟩:=zA h1
  exact VR.el_lin r1 λx1 t1 hX1=>VR.el_lin r2 λx2 t2 hX2=>by
   obtain rfl:=Option.some.inj (hX1.symm.trans hX2)
   obtain⟨hm,h⟩:=aB h2
   have:=pX hm
   have hx:=I.X.2 _ hX1
   refine call_range_2 (gW I h rfl (λV' h' le g=>⟨x1,_,_,_,_,le.X _ hX1,g,?_,by exact aIM this hx⟩) q)
   rw[Int.add_sub_add_left]
theorem Inv.fin(I:Inv Z C V J s){Q:Value->Shared->Prop}(q:QV Z C V k Q){v:SV}{u:Value}{t:Tok}(h:k (.val v) J=true)(r:VR V v u):Q u {s with toks:=t}:=q v u J V _ h (Vl.Le.refl V) (I.tok t) r
section
variable(I:Inv Z C V J s){as:List SV}{us:List Value}{Q:Value->Shared->Prop}(rs:VRs V as us)(q:QV Z C V k Q)
include I rs q
theorem uK(h:SU as J k=true):wpAny Z.M A (PySem.call (.builtin "len") us) Q E s:=by
 obtain⟨v,rfl,h⟩:=dF h
 obtain⟨u,rfl,r⟩:=rs.one
 obtain⟨i,rfl,h⟩:=d9 h
 obtain⟨xs,hx,h⟩:=c9 h
 exact VR.el_ref r λhi=>by
  obtain⟨_,_,hl,vs,ep,g1,g2⟩:=I.T i _ hx
  have len:vs.size=xs.length:=by rw[g2.length];rfl
  refine call_len_list ⟨_,g1,rfl,ep,rfl⟩ (ET (Nat.le_trans (Nat.le_of_eq len) hl)) ?_
  rw[len,<-aT]
  exact I.fin q h (.int _ _)
theorem uL(h:SW as J k=true):wpAny Z.M A (PySem.call (.type "str") us) Q E s:=by
 obtain⟨v,rfl,h⟩:=dF h
 obtain⟨u,rfl,r⟩:=rs.one
 obtain⟨m,rfl,h⟩:=gN h
 exact VR.el_int r λt=>by
  obtain⟨hm,h⟩:=aB h
  have hm:m<10:=Nat.lt_of_succ_le (Nat.le_of_ble_eq_true (n:=m+1) hm)
  refine P.str_of_int (shown (N:=10) (by simp only[Int.ofNat_eq_natCast];exact Int.lt_of_lt_of_le (by decide) (Int.natCast_nonneg _)) (by simp only[Int.ofNat_eq_natCast];exact Int.ofNat_lt.mpr hm) (by decide)) ?_
  rw[BC hm];exact I.fin q h (.str _ _)
theorem uM(h:SX as J k=true):wpAny Z.M A (PySem.call (.type "range") us) Q E s:=by
 rcases pI h with⟨v,rfl,h⟩|⟨v,w,rfl,h⟩
 ·obtain⟨u,rfl,r⟩:=rs.one
  obtain⟨m,rfl,h⟩:=gN h
  exact VR.el_int r λt=>by
   obtain⟨hm,h⟩:=aB h
   have hm:m<1000:=Nat.lt_of_succ_le (Nat.le_of_ble_eq_true (n:=m+1) hm)
   refine call_range_1 (gW I h rfl (λV' h' le g=>⟨_,_,_,_,g,?_,?_⟩) q)
   ·simp
   ·simp only[Int.ofNat_eq_natCast];exact⟨by decide,by decide,Int.lt_of_lt_of_le (by decide) (Int.natCast_nonneg _),Int.lt_trans (Int.ofNat_lt.mpr hm) (by decide)⟩
 ·obtain⟨u,z,rfl,r1,r2⟩:=rs.two
  exact xB I h r1 r2 q
theorem uN(h:SY as J k=true):wpAny Z.M A (PySem.call (.type "int") us) Q E s:=by
 obtain⟨v,rfl,h⟩:=dF h
 obtain⟨u,rfl,r⟩:=rs.one
 obtain⟨bb,rfl,h⟩:=tI h
 exact VR.el_bool r (call_int_bool (wL bb▸I.fin q h (.int _ _)))
end
include G in
theorem FZ(I:Inv Z C V J s)(hh:A.handled=none){b:Nat}{as:List SV}{fv:Value}{us:List Value}{Q:Value->Shared->Prop}(h:EJ b as J k=true)(hb:pL b=some fv)(rs:VRs V as us)(q:QV Z C V k Q)
 (vinit:∀{i K:Nat} {es:List (Nm×SV)} {x:Nm} {t:Tok},J.T.get i=some (.exc K es)->(∀h' tk,Inv Z C V J {s with heap:=h',toks:=tk}->Q .none {s with heap:=h',toks:=tk})->wpAny Z.M A (PySem.call (.builtin "ValueError.__init__") [.ref (V.ρ i),.str (tx x) t]) Q E s):
 wpAny Z.M A (PySem.call fv us) Q E s:=by
 rcases dT h with⟨e,h⟩|h
 ·obtain rfl:=Nat.eq_of_beq_eq_true e
  obtain rfl:=Option.some.inj hb
  exact uK I rs q h
 rcases dT h with⟨e,h⟩|h
 ·obtain rfl:=Nat.eq_of_beq_eq_true e
  obtain rfl:=Option.some.inj hb
  obtain⟨v,w,rfl,h⟩:=wI h
  obtain⟨u,z,rfl,r1,r2⟩:=rs.two
  obtain⟨bb,hbb,h⟩:=some?_eq h
  exact rW G I hbb r1 r2 λtk=>I.fin q h (.bool _)
 rcases dT h with⟨e,h⟩|h
 ·obtain rfl:=Nat.eq_of_beq_eq_true e
  obtain rfl:=Option.some.inj hb
  exact uL I rs q h
 rcases dT h with⟨e,h⟩|h
 ·obtain rfl:=Nat.eq_of_beq_eq_true e
  obtain rfl:=Option.some.inj hb
  obtain⟨v,rfl,h⟩:=dF h
  obtain⟨u,rfl,r⟩:=rs.one
  obtain⟨i,rfl,h⟩:=d9 h
  obtain⟨o,hx,h⟩:=some?_eq h
  exact VR.el_ref r λhi=>xA G I hh hx h q
 rcases dT h with⟨e,h⟩|h
 ·obtain rfl:=Nat.eq_of_beq_eq_true e
  obtain rfl:=Option.some.inj hb
  exact uM I rs q h
 rcases dT h with⟨e,h⟩|h
 ·obtain rfl:=Nat.eq_of_beq_eq_true e
  obtain rfl:=Option.some.inj hb
  exact uN I rs q h
 rcases dT h with⟨e,h⟩|h
 ·obtain rfl:=Nat.eq_of_beq_eq_true e
  obtain rfl:=Option.some.inj hb
  obtain⟨v,w,rfl,h⟩:=wI h
  obtain⟨u,z,rfl,r1,r2⟩:=rs.two
  obtain⟨i,rfl,h⟩:=d9 h
  obtain⟨x,rfl,h⟩:=lY h
  obtain⟨o,hx,h⟩:=some?_eq h
  induction o with
  |exc K es=>exact VR.el_ref r1 λhi=>VR.el_str r2 λt=>vinit hx λh' tk I'=>q _ _ _ _ _ h (Vl.Le.refl V) I' .none
  |_=>exact ff h
 ·exact ff h
end
end
section
noncomputable def bM(r:List (Str×Value))(x:Str×Value):List (Str×Value):=if(r.lookup x.1).isNone then r++[x]else r
theorem uO(hf:∀x r,f x r=pure (.yield (bM r x))):∀(l r:List (Str×Value)),(forIn l r f:Sem _)=pure (l.foldl bM r):=by
 intro l
 induction l with
 |nil=>
  intro r
  rw[List.forIn_nil];rfl
 |cons x l rec_=>
  intro r
  rw[List.forIn_cons,hf]
  show(pure (ForInStep.yield (bM r x)) >>= _:Sem _)=_
  exact(rec_ (bM r x))
theorem dX{l:List (Str×Value)}{x:Str}(h:x∈l.map (·.1)):∃v,l.lookup x=some v:=by
 induction l with
 |nil=>cases h
 |cons p l ih=>
  rw[List.lookup_cons]
  induction q:x==p.1 with
  |true=>exact⟨_,rfl⟩
  |false=>
   rw[List.map_cons]at h
   rcases List.mem_cons.mp h with e|h
   ·rw[e,beq_self_eq_true]at q;cases q
   ·exact ih h
theorem iP{l:List (Str×Value)}{x:Str}(h:x∉l.map (·.1)):l.lookup x=none:=by
 induction l with
 |nil=>rfl
 |cons p l ih=>
  rw[List.lookup_cons]
  rw[List.map_cons,List.mem_cons,not_or]at h
  rw[show(x==p.1)=false from beq_eq_false_iff_ne.mpr h.1]
  exact ih h.2
theorem xC:∀(l r:List (Str×Value)),(∀x,x∈l->x.1∈r.map (·.1))->l.foldl bM r=r:=by
 intro l
 induction l with
 |nil=>
  intro r O
  exact rfl
 |cons x l rec_=>
  intro r h
  obtain⟨v,hv⟩:=dX (h x (.head _))
  rw[List.foldl_cons,show bM r x=r from by unfold bM;rw[hv];rfl]
  exact rec_ r λy hy=>h y (.tail _ hy)
theorem BD:∀(l r:List (Str×Value)),((r++l).map (·.1)).Nodup->l.foldl bM r=r++l:=by
 intro l
 induction l with
 |nil=>
  intro r O
  simp
 |cons x l rec_=>
  intro r h
  have hx:x.1∉r.map (·.1):=λhm=>by
   rw[List.map_append,List.map_cons]at h
   exact(List.nodup_append.mp h).2.2 _ hm _ (.head _) rfl
  rw[List.foldl_cons,show bM r x=r++[x]from by unfold bM;rw[iP hx];rfl]
  rw[rec_ (r++[x]) (by simpa using h)]
  simp
theorem xD{α β:Type}{f g:α->Option β}:∀{l:List α},(∀x,x∈l->f x=g x)->l.filterMap f=l.filterMap g:=by
 intro l
 induction l with
 |nil=>
  intro O
  exact rfl
 |cons x l rec_=>
  intro h
  rw[List.filterMap_cons,List.filterMap_cons,h x (.head _),rec_ λy hy=>h y (.tail _ hy)]
theorem jM:∀(names:List Str) (l:List Value),names.Nodup->l.length=names.length->(names.filterMap λn=>((names.zip l).lookup n).map (n,·))=names.zip l
 | [],l,_,_=>by simp
 |n::ns,[],_,h=>by cases h
 |n::ns,v::l,hn,h=>by
  obtain⟨h1,h2⟩:=List.nodup_cons.mp hn
  rw[List.zip_cons_cons,List.filterMap_cons]
  have e:(List.lookup n ((n,v)::ns.zip l))=some v:=by rw[List.lookup_cons,beq_self_eq_true]
  rw[e]
  show(n,v)::_=_
  refine congrArg _ ?_
  refine(xD λm hm=>?_).trans (jM ns l h2 (by simpa using h))
  rw[List.lookup_cons,show(m==n)=false from beq_eq_false_iff_ne.mpr λq=>h1 (q▸hm)]
theorem BE{A B C:List Str}{vals D1 D2:List Value}(hn:(A++B++C).Nodup)(hv:(A++B).length=vals.length)(h1:B.length=D1.length)(h2:C.length=D2.length):
 ((B++C).zip (D1++D2)).foldl bM ((A++B++C).zip vals)=(A++B++C).zip (vals++D2):=by
 have z1:(A++B++C).zip vals=(A++B).zip vals:=by
  have:=List.zip_append (l₁:=A++B) (r₁:=C) (l₂:=vals) (r₂:=[]) hv
  rwa [List.append_nil,List.zip_nil_right,List.append_nil]at this
 have kz:((A++B).zip vals).map (·.1)=A++B:=List.map_fst_zip (Nat.le_of_eq hv)
 have kd:(C.zip D2).map (·.1)=C:=List.map_fst_zip (Nat.le_of_eq h2)
 rw[List.zip_append h1,List.foldl_append,z1,xC (B.zip D1) ((A++B).zip vals) λx hx=>by rw[kz];exact List.mem_append_right _ (List.of_mem_zip hx).1,BD (C.zip D2) ((A++B).zip vals) (by rw[List.map_append,kz,kd];exact hn),List.zip_append hv]
theorem F0{names:List Str}(hn:names.Nodup){vals D:List Value}(h1:vals.length≤names.length)(h2:names.length-vals.length≤D.length)(h3:D.length≤names.length):
 (((names.drop (names.length-D.length)).zip D).foldl bM (names.zip vals))=names.zip (vals++D.drop (D.length-(names.length-vals.length))):=by
 obtain⟨f,hf⟩:=Nat.exists_eq_add_of_le' h3
 have h4:f≤vals.length:=Nat.le_of_add_le_add_left (a:=D.length) (by rw[Nat.add_comm D.length f,<-hf];exact Nat.sub_le_iff_le_add.mp h2)
 obtain⟨j,hj⟩:=Nat.exists_eq_add_of_le h4
 have h5:j≤D.length:=Nat.le_of_add_le_add_left (a:=f) (by rw[<-hj,<-hf];exact h1)
 have e1:names.length-D.length=f:=by rw[hf,Nat.add_sub_cancel]
 have e2:D.length-(names.length-vals.length)=j:=by rw[hf,hj,Nat.add_sub_add_left,Nat.sub_sub_self h5]
 rw[e1,e2]
 have la:(names.take f).length=f:=by rw[List.length_take,hf,Nat.min_eq_left (Nat.le_add_right _ _)]
 have ld:(names.drop f).length=D.length:=by rw[List.length_drop,hf,Nat.add_sub_cancel_left]
 have lb:((names.drop f).take j).length=j:=by rw[List.length_take,ld,Nat.min_eq_left h5]
 have e3:names.take f++(names.drop f).take j++(names.drop f).drop j=names:=by rw[List.append_assoc,List.take_append_drop,List.take_append_drop]
 have:=BE (A:=names.take f) (B:=(names.drop f).take j) (C:=(names.drop f).drop j) (vals:=vals) (D1:=D.take j) (D2:=D.drop j) (by rw[e3];exact hn) (by rw[List.length_append,la,lb,hj])
  (by rw[lb,List.length_take,Nat.min_eq_left h5]) (by rw[List.length_drop,ld,List.length_drop])
 rwa [e3,List.take_append_drop,List.take_append_drop]at this
theorem uP:∀(names:List Str) (vals:List Value),(names.zip vals).map (·.1)=names.take vals.length
 | [],vals=>by simp
 |n::ns,[]=>by simp
 |n::ns,v::vs=>by rw[List.zip_cons_cons,List.map_cons,uP ns vs];rfl
section
variable{M:Model}{A:Around}{E:Value->Shared->Prop}{s:Shared}
theorem gB{fd:FuncData}{ps:List Arg}{kd:List (Option Expr)}{de:List Expr}(hp:fd.params=⟨[],ps,none,[],kd,none,de⟩)(hn:(ps.map (·.arg)).Nodup){vals D:List Value}(h1:vals.length≤ps.length)(h2:ps.length-vals.length≤D.length)(h3:D.length≤ps.length)
 (hd:(fd.defaults= .none/\D=[])∨∃T o items n,fd.defaults= .ref T/\s.heap.get? T=some o/\o.data= .seq items n/\items.toList=D) {Q:List (Str×Value)->Shared->Prop}
 (q:Q ((ps.map (·.arg)).zip (vals++D.drop (D.length-(ps.length-vals.length)))) s):wpAny M A (bindArgs fd ⟨vals,[]⟩) Q E s:=by
 have defs:∀{Q':Option (Array Value)->Shared->Prop},(∀d:Option (Array Value),(d.getD #[]).toList=D->Q' d s)->wpAny M A (seqItems? fd.defaults) Q' E s:=λ{Q'} q'=>by
  rcases hd with⟨e1,e2⟩|⟨T,o,items,n,e1,e2,e3,e4⟩
  ·rw[e1];exact wpAny_bind (wpAny_pure (wpAny_pure (q' none e2.symm)))
  ·rw[e1];exact wpAny_seqItems e2 e3 (q' _ e4)
 unfold bindArgs
 rw[hp]
 dsimp only
 rw[List.map_nil,List.nil_append,List.forIn_nil]
 refine wpAny_bind (wpAny_pure ?_)
 refine wpAny_bind (defs λd hd=>?_)
 dsimp only
 rw[hd]
 have e0:D.drop (D.length-(List.map (λx:Arg=>x.arg) ps).length)=D:=by
  rw[List.length_map,show D.length-ps.length=0 by exact Nat.sub_eq_zero_of_le h3];rfl
 rw[e0]
 rw[if_neg (by simp only[List.length_map,Bool.and_eq_true,decide_eq_true_eq];exact λq=>Nat.not_lt.mpr h1 q.1)]
 have e1:(List.filter (λn=>(List.lookup n ((List.map (λx:Arg=>x.arg) ps).zip vals)).isNone) (List.take ((List.map (λx:Arg=>x.arg) ps).length-D.length) (List.map (λx:Arg=>x.arg) ps)))=[]:=by
  refine List.filter_eq_nil_iff.mpr λx hx=>?_
  have:x∈((List.map (λx:Arg=>x.arg) ps).zip vals).map (·.1):=by
   rw[uP]
   refine(List.take_subset_take_left _ ?_) hx
   rw[List.length_map];exact Nat.sub_le_of_le_add (Nat.le_add_of_sub_le h2|>λh=>Nat.add_comm _ _▸h)
  obtain⟨v,hv⟩:=dX this
  rw[hv];simp
 rw[e1,if_neg (by simp)]
 refine wpAny_bind (wpAny_of_eq (uO (λx r=>?_) _ _) (wpAny_pure ?_))
 ·obtain⟨k,v⟩:=x
  unfold bM
  show(if(List.lookup k r).isNone=true then pure (ForInStep.yield (r++[(k,v)]))else pure (ForInStep.yield r))=pure (ForInStep.yield (if(List.lookup k r).isNone=true then r++[(k,v)]else r))
  by_cases hz:(List.lookup k r).isNone=true
  ·rw[if_pos hz,if_pos hz]
  ·rw[if_neg hz,if_neg hz]
 dsimp only
 rw[F0 hn (by rw[List.length_map];exact h1) (by rw[List.length_map];exact h2) (by rw[List.length_map];exact h3)]
 rw[List.append_nil,jM _ _ hn (by rw[List.length_append,List.length_drop,List.length_map];exact S7 h1 h2),List.length_map]
 exact q
end
end
section
def CellRel(V:Vl)(cs:List (Nm×Nat))(ac:List (Str×Addr)):Prop:=∀n j,aD cs n=some j->j<V.n/\ac.lookup (tx n)=some (V.ρ j)
theorem CellRel.mono(e:V.Le V')(h:CellRel V cs ac):CellRel V' cs ac:=λn j q=>let⟨a,b⟩:=h n j q;⟨Nat.lt_of_lt_of_le a e.n,by rw[e.ρ j a];exact b⟩
theorem xE:∀{as:List SV} {bs:List (Nm×SV)},mN ns as ds=some bs->bs=ns.zip (as++ds.drop (ds.length-(ns.length-as.length)))/\as.length≤ns.length/\ns.length-as.length≤ds.length:=by
 induction ns with
 |nil=>intro as bs h;induction as using List.casesOn with
  |nil=>obtain rfl:=Option.some.inj h;exact⟨rfl,Nat.le_refl _,Nat.zero_le _⟩
  |cons _ _=>exact fo h
 |cons p ps ih=>intro as bs h;induction as using List.casesOn with
  |cons a as=>
   change(mN ps as ds).map ((p,a)::·)=some bs at h
   obtain⟨bs',hb,rfl⟩:=Option.map_eq_some_iff.mp h
   obtain⟨e,h1,h2⟩:=ih hb
   have e0:(p::ps).length-(a::as).length=ps.length-as.length:=Nat.add_sub_add_right _ _ _
   rw[e0,e]
   exact⟨rfl,Nat.succ_le_succ h1,h2⟩
  |nil=>
   change(match bI ds (bA ds-bA (p::ps))with
    |some d=>match Nat.ble (bA (p::ps)) (bA ds)with|true=>(mN ps [] ds).map ((p,d)::·)|false=>none
    |none=>none)=some bs at h
   induction hd:bI ds (bA ds-bA (p::ps))with
   |none=>rw[hd]at h;exact fo h
   |some d=>
    rw[hd]at h
    induction hle:Nat.ble (bA (p::ps)) (bA ds)with
    |false=>rw[hle]at h;exact fo h
    |true=>
     rw[hle]at h
     have hle:(p::ps).length≤ds.length:=by rw[<-aT,<-aT ds];exact Nat.le_of_ble_eq_true hle
     obtain⟨bs',hb,rfl⟩:=Option.map_eq_some_iff.mp (h:(mN ps [] ds).map ((p,d)::·)=some bs)
     obtain⟨e,_⟩:=ih hb
     refine⟨?_,Nat.zero_le _,hle⟩
     rw[aT,aT]at hd
     have hd':ds[ds.length-(p::ps).length]?=some d:=rQ hd
     obtain⟨hlt,he⟩:=List.getElem?_eq_some_iff.mp hd'
     have e1:ds.length-(p::ps).length+1=ds.length-ps.length:=Nat.sub_add_comm hle▸Nat.add_sub_add_right _ _ _
     have hx:ds.drop (ds.length-(p::ps).length)=d::ds.drop (ds.length-ps.length):=by
      rw[List.drop_eq_getElem_cons hlt,he,e1]
     show _=(p::ps).zip (ds.drop (ds.length-(p::ps).length))
     rw[hx,e];rfl
theorem lP(n:Str)(j:Nat)(cs:List (Nm×Nat))(x:Nm):aD ((n.cps.toList,j)::cs) x=if n=tx x then some j else aD cs x:=by
 show Bool.rec (motive:=λO=>Option Nat) (aD cs x) (some j) (cC n.cps.toList x)=_
 rw[cV]
 by_cases h:n=tx x
 ·have:n.cps.toList=x:=by rw[h]
  rw[if_pos h,decide_eq_true this]
 ·have:¬n.cps.toList=x:=λe=>h (by rw[<-e])
  rw[if_neg h,decide_eq_false this]
section
variable{Z:Gd}{C:Cf}{A:Around}{E:Value->Shared->Prop}
theorem lC(f:Str×NameKind->List (Str×Addr)->Sem (ForInStep (List (Str×Addr))))(hf:∀name kind cells,f (name,kind) cells=if kind== .cell then(do let a<-PySem.alloc {cls:=.type "cell",data:=.cell none};pure (.yield ((name,a)::cells)))else pure (.yield cells)):
 ∀(names:List (Str×NameKind)) {V:Vl} {J:St} {s:Shared} {cs:List (Nm×Nat)} {ac:List (Str×Addr)} {k:List (Nm×Nat)->St->Bool} {Q:List (Str×Addr)->Shared->Prop},cH names cs J k=true->Inv Z C V J s->CellRel V cs ac->
  (∀cs' ac' J' V' s',k cs' J'=true->V.Le V'->Inv Z C V' J' s'->CellRel V' cs' ac'->J'.L=J.L->Q ac' s')->wpAny Z.M A (forIn names ac f) Q E s
 :=by
 intro names
 induction names with
 |nil=>intro V J s cs ac k Q h I R q;rw[List.forIn_nil];exact wpAny_pure (q cs ac J V s h (Vl.Le.refl V) I R rfl)
 |cons p r ihc=>
  intro V J s cs ac k Q h I R q
  obtain⟨name,kind⟩:=p
  rw[List.forIn_cons,hf]
  by_cases hk:kind= .cell
  ·subst hk
   rw[if_pos (by decide)]
   change PT.put (.cell none) J.T J.n (λT=>cH r ((name.cps.toList,J.n)::cs) ⟨T,Nat.succ J.n,J.L,J.sy⟩ k)=true at h
   rw[PT.put_eq]at h
   induction hT:J.T.set? (.cell none) J.n with
   |none=>rw[hT]at h;exact ff h
   |some T'=>
    rw[hT]at h
    have g:Heap.get? (s.heap.push {cls:=.type "cell",data:=.cell none}) s.heap.objs.size=some {cls:=.type "cell",data:=.cell none}:=Heap.get?_push_size _ rfl
    obtain⟨le,vr,I'⟩:=I.alloc (h':=s.heap.push {cls:=.type "cell",data:=.cell none}) (a:=s.heap.objs.size) (xs:=[]) (t:=none) (tk:=s.toks) hT (Nat.le_refl _) ⟨_,g⟩ (λp hp=>by cases hp)
     (λb x e=>Heap.get?_push_of_some _ e) (.inl ⟨g,rfl⟩) (λO h=>fo h)
    refine wpAny_bind (wpAny_bind (wpAny_alloc (wpAny_pure ?_)))
    refine ihc (h:cH r ((name.cps.toList,J.n)::cs) ⟨T',Nat.succ J.n,J.L,J.sy⟩ k=true) I' (λx j hj=>?_) (λcs' ac' J' V' s' hk le' I'' R' hl=>q cs' ac' J' V' s' hk (le.trans le') I'' R' hl)
    rw[lP]at hj
    rw[List.lookup_cons]
    by_cases hx:name=tx x
    ·rw[if_pos hx]at hj;obtain rfl:=Option.some.inj hj
     rw[show(tx x==name)=true from beq_iff_eq.mpr hx.symm]
     rw[I.n]
     exact⟨Nat.lt_succ_self _,by show some _=some (if V.n=V.n then _ else _);rw[if_pos rfl]⟩
    ·rw[if_neg hx]at hj
     rw[show(tx x==name)=false from beq_eq_false_iff_ne.mpr λe=>hx e.symm]
     exact R.mono le x j hj
  ·rw[if_neg (by simpa using hk)]
   have h:cH r cs J k=true:=by
    induction kind<;>first|exact h|exact absurd rfl hk
   exact wpAny_bind (wpAny_pure (ihc h I R q))
theorem Inv.stack(I:Inv Z C V J s)(l:List Env):Inv Z ⟨C.L,C.ext,C.frs,l⟩ V J s:=⟨I.base,I.tab,I.own,I.n,I.T,I.L,I.frs,I.ext,I.tk,I.X,I.tabLo,I.sm,I.sc,I.tg⟩
theorem jN(f:Str×Value->PUnit->Sem (ForInStep PUnit))(hf:∀n v u,f (n,v) u=(do storeName env n v;pure (.yield ⟨⟩))):
 ∀(ns:List Str) {V:Vl} {J:St} {s:Shared} {vs:List SV} {us:List Value} {k:St->Bool} {Q:PUnit->Shared->Prop},eM c ((ns.map aA).zip vs) J k=true->Inv Z C V J s->EnvOk C V c env->VRs V vs us->vs.length=ns.length->
  (∀J' s',k J'=true->Inv Z C V J' s'->Q ⟨⟩ s')->wpAny Z.M A (forIn (ns.zip us) ⟨⟩ f) Q E s
 :=by
 intro ns
 induction ns with
 |nil=>intro V J s vs us k Q h I en r hl q;rw[List.zip_nil_left,List.forIn_nil];exact wpAny_pure (q J s h I)
 |cons n ns ihp=>intro V J s vs us k Q h I en r hl q;induction vs using List.casesOn with
 |nil=>exact absurd hl nofun
 |cons v vs=>induction us using List.casesOn with
 |nil=>exact r.elim
 |cons u us=>
  rw[List.zip_cons_cons,List.forIn_cons,hf]
  change dP c (aA n) v J (λJ=>eM c ((ns.map aA).zip vs) J k)=true at h
  refine wpAny_bind (wpAny_bind ?_)
  have:=fG (A:=A) (E:=E) (Q:=λ(O:Unit) s'=>wpAny Z.M A (forIn (ns.zip us) ⟨⟩ f) Q E s') I en r.1 h λJ' s' h' I'=>?_
  ·rw[aJ]at this
   exact wpAny_mono this (λO s' hq=>wpAny_pure hq) λO O x=>x
  ·exact ihp h' I' en r.2 (Nat.succ.inj hl) q
end
end
section
section
variable{Z:Gd}(G:aU Z){n:Nat}{ih:Ih}(S:gS Z n ih){C:Cf}{V:Vl}{J:St}{s:Shared}{A:Around}{k:KK}{kx:KX}{E:Value->Shared->Prop}
theorem Inv.baseAt(I:Inv Z C V J s)(h:Z.s0.heap.get? a=some o)(ht:a∉tabs):s.heap.get? a=some o:=I.base.old a o h ht
theorem F1{a:Nat}{st:Stmt}{ds:List SV}{o:Obj}{fd:FuncData}(F:wP Z a st ds o fd){Ln:Addr}{es:Array DictEntry}{ep:Nat}{cs:List (Nm×Nat)}{ac:List (Str×Addr)}(R:CellRel V cs ac){env:Env}
 (he:env={scope:=fd.scope,locals:=Ln,globals:=fd.globals,cells:=ac,qual:=fd.qualname++ ".<locals>.",func:=some a,code:=fd.code,frame:=some Ln,builtins:=fd.builtins}):
 EnvOk (C.into Ln es ep (env::C.envs)) V ⟨(bP st).names,cs,cS a⟩ env:=by
 have sf:=dW F.sc
 have hs:env.scope=bP st:=by rw[he];exact F.scope
 have hk:∀x,env.kindOf x=(bP st).names.lookup x:=λx=>by show env.scope.names.lookup x=_;rw[hs]
 refine⟨by rw[hs];exact sf.kind,by rw[he],by rw[he];exact F.glob,by rw[he];exact F.bui,λx=>?_,(hk _).trans sf.dbg,(hk _).trans sf.cld,(hk _).trans sf.sup,λx j hj O=>?_,?_,λht=>?_⟩
 ·rw[hk,bU]
  induction (bP st).names.lookup (tx x)with
  |none=>exact .none
  |some kd=>exact .same kd
 ·obtain⟨h1,h2⟩:=R x j hj
  exact⟨h1,by rw[he];exact h2⟩
 ·exact⟨env,C.envs,Ln,rfl,by rw[he],by rw[he]⟩
 ·obtain⟨h1,h2,h3⟩:=F.lam ht
  exact⟨h1,by rw[he];exact h2,by rw[he];exact h3⟩
theorem AOk.deeper(h:AOk C A (n+1))(h1:env.scope.kind= .function)(h2:env.frame=some Ln):AOk (C.into Ln es ep (env::C.envs)) (A.deeper env) n:=by
 have hx:=(h.le (Nat.le_succ n)).into (Ln:=Ln) (es:=es) (ep:=ep)
 refine⟨by have:=h.depth;show A.depth+1+n<990;exact Nat.lt_of_le_of_lt (Nat.le_of_eq (Nat.succ_add_eq_add_succ _ _)) this,by have:=h.units;show A.units+3+12*n<9800;exact aIN this,by show A.frames.map (env::·)=_;rw[h.frames];rfl,λe he=>?_⟩
 rcases List.mem_cons.mp he with rfl|he
 ·exact⟨by rw[h1];decide,Ln,h2,.inl rfl⟩
 ·exact hx.fr e he
include G in
theorem nU{a:Nat}{st:Stmt}{ds:List SV}{o:Obj}{fd:FuncData}(F:wP Z a st ds o fd){as:List SV}{us:List Value}{Q:Value->Shared->Prop}(h:callFn ih (cS a) st ds as J k kx=true)(I:Inv Z C V J s)(aok:AOk C A (n+1))(hh:A.handled=none)(rs:VRs V as us)
 (hB:∀{c:Cx} {J:St} {k:KK} {kx:KX},ih (.exs (fO st) c) J k kx=true->∀{C:Cf} {V:Vl} {s:Shared} {A:Around} {env:Env} {Q:Flow->Shared->Prop} {E:Value->Shared->Prop},
   Inv Z C V J s->AOk C A n->EnvOk C V c env->A.handled=none->QF Z C V k Q->QX Z C V kx E->wpAny Z.M A (execs (fO st) env) Q E s)
 (q:QV Z C V k Q) (xx:QX Z C V kx E):codeAny Z.M A (.call (.ref a) ⟨us,[]⟩) (RV Q E) s:=by
 refine hold λG_ fin_=>?_
 obtain⟨bs,hb,h⟩:=some?_eq h
 obtain⟨rfl,b1,b2⟩:=xE hb
 obtain⟨ps,kd,de,p1,p2,p3,p4⟩:=F.par
 have sf:=dW F.sc
 obtain⟨cc,oc,cvs,ct,c1,c2,c3,c4,c5⟩:=F.code
 have lp:(dR st).length=ps.length:=by rw[p2,List.length_map]
 have la:as.length=us.length:=rs.length
 have hD:∃D,VRs V ds D/\((fd.defaults= .none/\D=[])∨∃T o items n,fd.defaults= .ref T/\s.heap.get? T=some o/\o.data= .seq items n/\items.toList=D):=by
  rcases F.defs with⟨e1,e2⟩|⟨T,oT,items,m,e1,e2,e3,e4,e5⟩
  ·exact⟨[],by rw[e2];trivial,.inl ⟨e1,rfl⟩⟩
  ·exact⟨items.toList,e5 V,.inr ⟨T,oT,items,m,e1,I.baseAt e2 e3,e4,rfl⟩⟩
 obtain⟨D,rD,hD⟩:=hD
 refine fin_ ?_
 have ld:ds.length=D.length:=rD.length
 refine codeAny_call_function (fd:=fd) (body:=fO st) (o:=o) (by have:=aok.depth;show A.depth<1000;exact Nat.lt_of_le_of_lt (Nat.le_add_right _ _) (Nat.lt_trans this (by decide))) (I.baseAt F.get F.nt) F.data (by rw[F.scope];exact sf.co) (by rw[F.scope];exact sf.gen) F.body ⟨cc,oc,cvs,ct,c1,I.baseAt c2 c3,c4,c5⟩ ?_
 refine gB p1 p3 (D:=D) (Nat.le_trans (Nat.le_of_eq la.symm) (lp▸b1)) (aIO b2 lp la ld) (ld▸p4) hD ?_
 have hbind:VRs V (as++ds.drop (ds.length-((dR st).length-as.length))) (us++D.drop (D.length-(ps.length-us.length))):=by
  rw[lp,la,ld];exact VRs.append rs rD.drop
 generalize hus:us++D.drop (D.length-(ps.length-us.length))=us' at hbind⊢
 generalize hvs:as++ds.drop (ds.length-((dR st).length-as.length))=vs' at hbind h
 have hlen:vs'.length=(ps.map (·.arg)).length:=by rw[<-hvs,List.length_append,List.length_drop,List.length_map];exact(S7 b1 b2).trans lp
 rw[F.clo]
 unfold PySem.newFunctionEnv
 simp only[Option.isSome_none,Bool.false_eq_true,if_false]
 refine wpAny_bind (wpAny_alloc ?_)
 refine hold λG_ fin_=>?_
 obtain⟨es,ep,sv,le,I2⟩:=I.enter (t:=s.toks) (Nat.le_refl _) (h':=s.heap.push {cls:=.type "frame",data:=.dict #[]}) (λb x e=>Heap.get?_push_of_some _ e) (Heap.Ns1.of_empty (Heap.Ns.new s.heap (.type "frame"))) (AR.nil V) C.envs
 refine fin_ ?_
 refine wpAny_bind (lC _ (λname kind cells=>by cases hkc:kind==NameKind.cell<;>simp[hkc]) fd.scope.names (by rw[F.scope];exact h) I2 (λx j hj=>by exact fo hj) λcs ac τ V3 s3 h3 le3 I3 R3 hL=>?_)
 generalize henv:({scope:=fd.scope,locals:=s.heap.objs.size,globals:=fd.globals,cells:=ac,qual:=fd.qualname++ ".<locals>.",func:=some a,code:=fd.code,frame:=some s.heap.objs.size,builtins:=fd.builtins}:Env)=env
 have le03:=le.trans le3
 have en:EnvOk (C.into s.heap.objs.size es ep (env::C.envs)) V3 ⟨(bP st).names,cs,cS a⟩ env:=F1 F R3 henv.symm
 refine wpAny_bind (jN _ (λO O O=>rfl) (ps.map (·.arg)) (by rw[List.map_map];rw[p2]at h3;exact h3) (I3.stack (env::C.envs)) en (hbind.mono le03) hlen λτ4 s4 h4 I4=>wpAny_pure ⟨?_,codeAny_func ?_⟩)
 ·obtain⟨⟨mc,l1,l2⟩,l3⟩:=G.lim
  exact⟨mc,I4.heap l1 l3,l2⟩
 ·have a':AOk (C.into s.heap.objs.size es ep (env::C.envs)) (A.deeper env) n:=aok.deeper (by rw[<-henv];exact(by rw[F.scope];exact sf.kind)) (by rw[<-henv])
  refine hB h4 I4 a' en hh ⟨λJ' V' s' h' le' I'=>?_,λv u J' V' s' h' le' I' r=>?_⟩ λx u J' V' s' h' le' I' r hx=>?_
  ·exact q _ _ _ _ _ h' (le03.trans le') (I'.leave (sv.mono (le03.trans le'))) .none
  ·exact q _ _ _ _ _ h' (le03.trans le') (I'.leave (sv.mono (le03.trans le'))) r
  ·obtain⟨i,K,fs,rfl,ho⟩:=hx
   exact VR.el_ref r λhi=>by
    refine iC I' a' (en.mono le') ho λV5 h5 le5 I5 hb=>?_
    have r5:VR V5 (.ref i) (.ref (V'.ρ i)):=by rw[<-le5.ρ i hi];exact .ref i (Nat.lt_of_lt_of_le hi le5.n)
    exact xx _ _ _ _ _ h' ((le03.trans le').trans le5) (I5.leave (sv.mono ((le03.trans le').trans le5))) r5 ⟨i,K,fs,rfl,ho⟩
include G S in
theorem P5{a:Nat}{st:Stmt}{ds:List SV}{o:Obj}{fd:FuncData}(F:wP Z a st ds o fd){as:List SV}{us:List Value}{Q:Value->Shared->Prop}(h:callFn ih (cS a) st ds as J k kx=true)(I:Inv Z C V J s)(aok:AOk C A (n+1))(hh:A.handled=none)(rs:VRs V as us)
 (q:QV Z C V k Q) (xx:QX Z C V kx E):codeAny Z.M A (.call (.ref a) ⟨us,[]⟩) (RV Q E) s:=
 nU G F h I aok hh rs (by intro c J k kx h C V s A env Q E I a en hh q xx;exact S.exs h I a en (.inl hh) q xx) q xx
end
end
section
section
variable{Z:Gd}(G:aU Z){n:Nat}{ih:Ih}(S:gS Z n ih){C:Cf}{V:Vl}{J:St}{s:Shared}{A:Around}{k:KK}{kx:KX}{E:Value->Shared->Prop}
theorem F2(f:Str×NameKind->List (Str×Addr)->Sem (ForInStep (List (Str×Addr))))(hf:∀name kind cells,f (name,kind) cells=if kind== .cell then(do let a<-PySem.alloc {cls:=.type "cell",data:=.cell none};pure (.yield ((name,a)::cells)))else pure (.yield cells)):
 ∀(names:List (Str×NameKind)) (ac:List (Str×Addr)),(∀x,x∈names->x.2≠ .cell)->(forIn names ac f:Sem _)=pure ac:=by
 intro names
 induction names with
 |nil=>
  intro ac O
  rw[List.forIn_nil]
 |cons p_ r rec_=>
  obtain⟨name,kind⟩:=p_
  intro ac h
  rw[List.forIn_cons,hf]
  rw[if_neg (by simpa using h (name,kind) (.head _))]
  exact rec_ ac λx hx=>h x (.tail _ hx)
include G S in
theorem BF(ho:J.T.get i=some (.lam ps b sc cs))(h:ih (.ev b ⟨sc.names,cs,0⟩) ⟨J.T,J.n,[],J.sy⟩ (aL (kW J.L k)) (i6 J.L kx)=true)(I:Inv Z C V J s)(aok:AOk C A (n+1))(hh:A.handled=none)(q:QV Z C V k Q)(xx:QX Z C V kx E):wpAny Z.M A (PySem.call (.ref (V.ρ i)) []) Q E s:=by
 refine hold λG_ fin_=>?_
 obtain⟨t1,t2,name,qual,cl,pm,cdv,ct,o,f1,f2,f3,f4,f5,f6,rfl⟩:=I.T i _ ho
 have sf:=dW f5
 obtain⟨cc,oc,cvs,tq,c1,c2,c3,c4,c5⟩:=f3
 refine fin_ ?_
 refine wpAny_call (kla_callFunE (fd:=kla_fn name qual _ b sc cl pm cdv ct) (body:=b) (o:=o) (by have:=aok.depth;show A.depth<1000;exact Nat.lt_of_le_of_lt (Nat.le_add_right _ _) (Nat.lt_trans this (by decide))) f1 f2 sf.co sf.gen rfl ⟨cc,oc,cvs,tq,c1,c2,c3,c4⟩ ?_)
 refine gB (ps:=[]) (kd:=[]) (de:=[]) rfl (by simp) (D:=[]) (Nat.le_refl _) (Nat.le_refl _) (Nat.le_refl _) (.inl ⟨rfl,rfl⟩) ?_
 unfold PySem.newFunctionEnv
 simp-iota only[Option.isSome_none,Bool.false_eq_true,if_false]
 refine wpAny_bind (wpAny_alloc ?_)
 refine hold λG_ fin_=>?_
 obtain⟨es,ep,sv,le,I2⟩:=I.enter (t:=s.toks) (Nat.le_refl _) (h':=s.heap.push {cls:=.type "frame",data:=.dict #[]}) (λb x e=>Heap.get?_push_of_some _ e) (Heap.Ns1.of_empty (Heap.Ns.new s.heap (.type "frame"))) (AR.nil V) C.envs
 refine fin_ ?_
 refine wpAny_bind (wpAny_of_eq (F2 _ (λname kind cells=>by cases hkc:kind==NameKind.cell<;>simp[hkc]) sc.names cl (fI f6)) (wpAny_pure ?_))
 refine⟨?_,kla_codeExpr ?_⟩
 ·obtain⟨⟨mc,l1,l2⟩,l3⟩:=G.lim
  exact⟨mc,I2.heap l1 l3,l2⟩
 ·generalize henv:({scope:=sc,locals:=s.heap.objs.size,globals:=mainGlobals,cells:=cl,qual:=qual++ ".<locals>.",func:=some (V.ρ i),code:=cdv,frame:=some s.heap.objs.size,builtins:=builtinsNs}:Env)=env
  have hs:env.scope=sc:=by rw[<-henv]
  have hk:∀x,env.kindOf x=sc.names.lookup x:=λx=>by show env.scope.names.lookup x=_;rw[hs]
  have en:EnvOk (C.into s.heap.objs.size es ep (env::C.envs)) (V.note s.heap.objs.size (.fr (C.frs.length+1))) ⟨sc.names,cs,0⟩ env:=by
   refine⟨by rw[hs];exact sf.kind,by rw[<-henv],by rw[<-henv],by rw[<-henv],λx=>?_,(hk _).trans sf.dbg,(hk _).trans sf.cld,(hk _).trans sf.sup,λx j hj hkk=>?_,⟨env,C.envs,s.heap.objs.size,rfl,by rw[<-henv],by rw[<-henv]⟩,λq=>absurd rfl q⟩
   ·rw[hk,bU]
    induction sc.names.lookup (tx x)with
    |none=>exact .none
    |some kd=>exact .same kd
   ·have hfree:aF sc.names x=some .free:=by
     rcases hkk with hkk|hkk
     ·have hkk:aF sc.names x=some .cell:=hkk
      rw[bU]at hkk
      exact absurd rfl (fI f6 _ (mem_of_lookup hkk))
     ·exact hkk
    obtain⟨h1,h2⟩:=f4 x j hj hfree
    exact⟨h1,by rw[<-henv];exact h2⟩
  have a':AOk (C.into s.heap.objs.size es ep (env::C.envs)) (A.deeper env) n:=aok.deeper (by rw[hs];exact sf.kind) (by rw[<-henv])
  refine S.ev h (I2.stack (env::C.envs)) a' en (.inl hh) (λv u J' V' s' h' le' I' r=>?_) λx u J' V' s' h' le' I' r hx=>?_
  ·exact q _ _ _ _ _ (onVal_case h') (le.trans le') (I'.leave (sv.mono (le.trans le'))) r
  ·obtain⟨j,K,fs,rfl,ho⟩:=hx
   exact VR.el_ref r λhi=>by
    refine iC I' a' (en.mono le') ho λV5 h5 le5 I5 hb=>?_
    have r5:VR V5 (.ref j) (.ref (V'.ρ j)):=by rw[<-le5.ρ j hi];exact .ref j (Nat.lt_of_lt_of_le hi le5.n)
    exact xx _ _ _ _ _ h' ((le.trans le').trans le5) (I5.leave (sv.mono ((le.trans le').trans le5))) r5 ⟨j,K,fs,rfl,ho⟩
end
end
section
set_option backward.match.sparseCases false
section
variable{Z:Gd}(G:aU Z){n:Nat}{ih:Ih}(S:gS Z n ih){C:Cf}{V:Vl}{J:St}{s:Shared}{A:Around}{k:KK}{kx:KX}{E:Value->Shared->Prop}
theorem pY:nm "__init__" =fW:=by decide+kernel
theorem BG:tx fW=("__init__" :Str):=by decide+kernel
theorem AOk.create(h:AOk C A (n+1)):AOk C (A.under (.builtin "type.__call__" ⟨.ref l::vs,[]⟩)) n:=by
 have hw:(Code.builtin "type.__call__" ⟨.ref l::vs,[]⟩).weight=1:=by rfl
 have hu:(Code.builtin "type.__call__" ⟨.ref l::vs,[]⟩).cUnits=1:=by rfl
 exact⟨by have:=h.depth;show A.depth+(Code.builtin "type.__call__" ⟨.ref l::vs,[]⟩).weight+n<990;rw[hw];exact Nat.lt_of_le_of_lt (Nat.le_of_eq (Nat.succ_add_eq_add_succ _ _)) this,
  by have:=h.units;show A.units+(Code.builtin "type.__call__" ⟨.ref l::vs,[]⟩).cUnits+12*n<9800;rw[hu];exact aOZ this,h.frames,h.fr⟩
theorem uQ(h:RV (λv s'=>v= .none/\Q (.ref x) s') E r s'):InitBack x (RV Q E) r s':=by
 rcases r with e|(v|_|_|_)<;>exact h
include G S in
theorem BH(hp:aE aO D=some p)(hx:aP p.1 39=false)(hf:p.2.get (nm "__init__")=some f)(h:alloc J (.inst D []) (λx J=>ih (.call (.fn f) (x::as)) J (aL λv J=>match v with|.none=>k (.val x) J|_=>false) kx)=true)(I:Inv Z C V J s)(aok:AOk C A (n+1))(hh:A.handled=none)(rs:VRs V as us)(q:QV Z C V k Q)(xx:QX Z C V kx E):codeAny Z.M A (.call (.ref D) ⟨us,[]⟩) (RV Q E) s:=by
 have X:=I.K G.kin
 have F:=G.mkf D p hp
 have hm:=F.makes λp' hp'=>by rw[hp]at hp';obtain rfl:=Option.some.inj hp';exact hx
 obtain⟨i1,i2,i3⟩:=F.init f (by unfold dE;rw[hp,<-pY];exact hf)
 obtain⟨T',hT,h⟩:=aK h
 obtain⟨hp0,g0,d0,t0,os0⟩:=s
 refine make_core (makes_of X hm) (looks_findIn X i2) (λself=>bind_fn X self i3) (.inl (by simp)) ?_
 have gD:Heap.get? ((hp0.push emptyDict).push (instObj D hp0.objs.size)) hp0.objs.size=some emptyDict:=Heap.get?_push_of_some _ (Heap.get?_push_size _ rfl)
 have gX:Heap.get? ((hp0.push emptyDict).push (instObj D hp0.objs.size)) (hp0.objs.size+1)=some (instObj D hp0.objs.size):=by
  have:=Heap.get?_push_size (hp0.push emptyDict) (o:=instObj D hp0.objs.size) rfl
  rwa [Heap.size_push]at this
 have le:=I.add_le (a:=hp0.objs.size+1) (xs:=[(hp0.objs.size,.dict V.n)]) (t:=none) (Nat.le_succ _) (λp hp=>by cases hp with|head=>exact Nat.le_refl _|tail _ h=>cases h)
 obtain⟨_,vr,I'⟩:=I.alloc (h':=(hp0.push emptyDict).push (instObj D hp0.objs.size)) (a:=hp0.objs.size+1) (xs:=[(hp0.objs.size,.dict V.n)]) (t:=none) (tk:=t0) hT (Nat.le_succ _) ⟨_,gX⟩
  (λp hp=>by cases hp with|head=>exact⟨Nat.le_refl _,_,gD⟩|tail _ h=>cases h) (λb x e=>Heap.get?_push_of_some _ (Heap.get?_push_of_some _ e))
  ⟨⟨Nat.zero_le _,p,hp,hx⟩,hp0.objs.size,λO=>none,gX,by
    show(if hp0.objs.size=hp0.objs.size+1 then _ else _)=_
    rw[if_neg (Nat.ne_add_one _)]
    show(match List.find? (λp=>p.1==hp0.objs.size) [(hp0.objs.size,Own.dict V.n)]with|some p=>some p.2|none=>V.own hp0.objs.size)=_
    rw[List.find?_cons_of_pos (by simp)],⟨_,#[],0,gD,rfl,λO he=>by simp at he,List.Pairwise.nil,λO=>rfl⟩,AR.nil _⟩ (λO h=>fo h)
 refine codeAny_mono (S.fnc (Q:=λv s'=>v= .none/\Q (.ref (hp0.objs.size+1)) s') (E:=E) h I' aok.create hh ⟨vr,rs.mono le⟩ (λv u J' V' s' hk le' I'' r=>?_) (xx.mono le)) λr s' hr=>uQ hr
 have hk:=onVal_case hk
 induction r with
 |none=>
  refine⟨rfl,q (.ref J.n) (.ref (hp0.objs.size+1)) _ _ _ hk (le.trans le') I'' ?_⟩
  exact vr.mono le'
 |_=>exact ff hk
end
end
section
noncomputable abbrev F3:String:= "ValueError"
noncomputable abbrev BI:String:= "ValueError.__new__"
abbrev FnV:=PySem.F.excBase_ValueError
noncomputable abbrev eK(C t:Addr):Obj:={cls:=.ref C,data:=.fields #[.ref t,.none,.none,.none,.bool false,.none]}
section
variable{M:Model}{A:Around}{E:Value->Shared->Prop}{h:Heap}{g:Array GenState}{d:Drawn}{t:Nat}{os:OsState}
variable{nm q:Str}{C N:Addr}{bs bm:List Value}{hdct:Bool}{sn:List Str}{sub:List Value}{ab:Bool}{col:Option Bool}{dd:Option Addr}{k0 k1 k2 k3 k5:Option Value}
theorem BJ(hC:h.get? C=some (excClassObj nm q C N bs bm hdct sn sub ab col dd k0 k1 k2 k3 k5 BI))(hcB:(Value.ref C::bm).contains (.type F3)=true)(hq:Q () ⟨h,g,d,t,os⟩):wpAny M A (checkBuiltinCall BI ⟨.ref C::rest,[]⟩) Q E ⟨h,g,d,t,os⟩:=by
 have hstar:=FnV.noStar
 unfold checkBuiltinCall
 rw[FnV.newKind,FnV.newSplit,FnV.newRow]
 dsimp only
 repeat (first|refine wpAny_loadPart_at hC ?_|(refine wpAny_isSubtype_exc hC ?_;rw[hcB])|refine wpAny_staticBase_exc hC ?_|refine wpAny_madeBy_exc hC ?_|simp-iota only[bne_self_eq_false,Bool.false_eq_true,if_false]|wp_step)
 exact hq
end
section
variable{prog:Program}{w:World}{A:Around}{R:Result->Shared->Prop}{h:Heap}{g:Array GenState}{d:Drawn}{t:Nat}{os:OsState}
variable{nm q:Str}{C N:Addr}{bs bm:List Value}{hdct:Bool}{sn:List Str}{sub:List Value}{ab:Bool}{col:Option Bool}{dd:Option Addr}{k0 k1 k2 k3 k5:Option Value}
theorem P6(hC:h.get? C=some (excClassObj nm q C N bs bm hdct sn sub ab col dd k0 k1 k2 k3 k5 BI))(hcB:(Value.ref C::bm).contains (.type F3)=true)(hcA:(Value.ref C::bm).contains (.type "AttributeError")=false)(hcN:(Value.ref C::bm).contains (.type "NameError")=false)(hq:R (.ok (.ret (.ref (h.objs.size+1)))) ⟨(h.push {cls:=.type "tuple",data:=.seq rest.toArray}).push (eK C h.objs.size),g,d,t,os⟩)(hrest:rest.length≤sizeLine):
 codeAny (model prog w) A (.builtin BI ⟨.ref C::rest,[]⟩) R ⟨h,g,d,t,os⟩:=by
 have hends:=FnV.ends
 refine PySem.codeAny_builtinAt FnV.entry ?_
 unfold Builtin.«BaseException.__new__»
 refine PySem.wpAt_bind ?_
 show PySem.wpAt _ _ _ (stack >>= _) _ _ _
 refine PySem.wpAt_bind (PySem.wpAt_stack λp below=>PySem.wpAt_of_wpAny ?_)
 wp_walk
 refine PySem.wpAt_of_wpAny ?_
 rw[FnV.owner]
 repeat (first|with_reducible refine wpAny_madeHere_exc FnV.canon hC ?_|with_reducible refine wpAny_loadPart_at hC ?_|(with_reducible refine wpAny_isSubtype_exc hC ?_;first|rw[hcB]|rw[hcA]|rw[hcN])|wp_step)
 show R _ _
 rw[Heap.size_push]
 exact hq
theorem F4(hC:h.get? C=some (excClassObj nm q C N bs bm hdct sn sub ab col dd k0 k1 k2 k3 k5 BI))(hcB:(Value.ref C::bm).contains (.type F3)=true)(hcA:(Value.ref C::bm).contains (.type "AttributeError")=false)(hcN:(Value.ref C::bm).contains (.type "NameError")=false)(hab:ab=false)(call:Looks (model prog w) h (specialOf (.ref C) "__call__") (some (.builtin "type.__call__")))(typ:Looks (model prog w) h (isInstance (.ref C) (.type "type")) true)(hi:Looks (model prog w) h (typeLookup (.ref C) "__init__") (some init))(hb:∀self,Looks (model prog w) h (bindSpecial init self) (init,[self]))(hrest:rest.length≤sizeLine)(hq:codeAny (model prog w) (A.under (.builtin "type.__call__" ⟨.ref C::rest,[]⟩)) (.call init ⟨.ref (h.objs.size+1)::rest,[]⟩) (InitBack (h.objs.size+1) R) ⟨(h.push {cls:=.type "tuple",data:=.seq rest.toArray}).push (eK C h.objs.size),g,d,t,os⟩):
 codeAny (model prog w) A (.call (.ref C) ⟨rest,[]⟩) R ⟨h,g,d,t,os⟩:=by
 refine codeAny_of_tree ?_
 show wpAny _ _ (callAny (.ref C) _) _ _ _
 refine nd_load hC ?_
 show wpAny _ _ (callAny.viaDunder (.ref C) _) _ _ _
 unfold callAny.viaDunder
 refine wpAny_bind (call.at ?_)
 dsimp only
 rw[tc_bind]
 refine wpAny_bind (wpAny_pure (wpAny_bind (wpAny_pure ?_)))
 refine wpAny_pure (a:=Fin.again (.call (.builtin "type.__call__") ⟨.ref C::rest,[]⟩)) (And.intro rfl ?_)
 refine codeAny_call_builtin_at (Code.quiet_builtin _ (by decide+kernel)) entry_typeCall (check_slot tc_kind tc_split typ (tc_args _ _ _) ?_)
 unfold Builtin.«type.__call__»
 have hm:Looks (model prog w) h (PySem.mroOf (.ref C)) (.ref C::bm):=((Looks.ld (part:=none) hC).andThen .now).andThen .now
 have made:Looks (model prog w) h (Bind.madeBy (.ref C)) (some BI):=by
  intro A Q E s k z
  obtain⟨h',g',d',t',os'⟩:=s
  exact wpAny_madeBy_exc (k _ _ hC) z
 repeat (first|simp-iota only[hab,Bool.false_eq_true,if_false]|with_reducible refine wpAny_call ?_|lk)
 refine codeAny_call_builtin_code (Code.quiet_builtin _ FnV.quiet) (BJ hC hcB ?_)
 refine P6 hC hcB hcA hcN ?_ hrest
 have k:∀b o,h.get? b=some o->((h.push {cls:=.type "tuple",data:=.seq rest.toArray}).push (eK C h.objs.size)).get? b=some o:=λb o e=>Heap.get?_push_of_some _ (Heap.get?_push_of_some _ e)
 have hx:((h.push {cls:=.type "tuple",data:=.seq rest.toArray}).push (eK C h.objs.size)).get? (h.objs.size+1)=some (eK C h.objs.size):=by heap_get
 have t1:Looks (model prog w) ((h.push {cls:=.type "tuple",data:=.seq rest.toArray}).push (eK C h.objs.size)) (typeOf (.ref (h.objs.size+1))) (.ref C):=(Looks.ld hx).andThen .now
 have self:Looks (model prog w) h (isSubtype (.ref C) (.ref C)) true:=by
  intro A Q E s k z
  obtain⟨h',g',d',t',os'⟩:=s
  refine wpAny_isSubtype_exc (k _ _ hC) ?_
  rw[show(Value.ref C::bm).contains (.ref C)=true by simp]
  exact z
 have s1:=self.keeps k
 have i1:=hi.keeps k
 have b1:=(hb (.ref (h.objs.size+1))).keeps k
 unfold isInstance callSpecial? specialOf
 repeat (first|with_reducible refine wpAny_call ?_|lk)
 refine codeAny_mono hq λr s' z=>?_
 rcases r with e|(v|_|_|_)<;>first|exact z|exact z.elim|skip
 obtain⟨rfl,z⟩:=z
 exact wpAny_pure (wpAny_pure z)
end
end
section
set_option backward.match.sparseCases false
section
variable{Z:Gd}(G:aU Z){n:Nat}{ih:Ih}(S:gS Z n ih){C:Cf}{V:Vl}{J:St}{s:Shared}{A:Around}{k:KK}{kx:KX}{E:Value->Shared->Prop}
include G S in
theorem P7(hp:aE aO D=some p)(hx:aP p.1 39=true)(hf:p.2.get (nm "__init__")=some f)(hl:us.length≤sizeLine)(h:alloc J (.exc D []) (λx J=>ih (.call (.fn f) (x::as)) J (aL λv J=>match v with|.none=>k (.val x) J|_=>false) kx)=true)(I:Inv Z C V J s)(aok:AOk C A (n+1))(hh:A.handled=none)(rs:VRs V as us)(q:QV Z C V k Q)(xx:QX Z C V kx E):codeAny Z.M A (.call (.ref D) ⟨us,[]⟩) (RV Q E) s:=by
 have X:=I.K G.kin
 have F:=G.mkf D p hp
 refine hold λG_ fin_=>?_
 obtain⟨nm',q',N,bs,bm,hdct,sn,sub,col,dd,k0,k1,k2,k3,k5,e1,e2,e3,e4,_⟩:=F.exc λp' hp'=>by rw[hp]at hp';obtain rfl:=Option.some.inj hp';exact hx
 obtain⟨i1,i2,i3⟩:=F.init f (by unfold dE;rw[hp,<-pY];exact hf)
 obtain⟨T',hT,h⟩:=aK h
 obtain⟨hp0,g0,d0,t0,os0⟩:=s
 refine fin_ ?_
 refine F4 (X _ _ e1) e2 e3 e4 rfl (looks_specialIn X F.call) (looks_instIn X F.typ) (looks_findIn X i2) (λself=>bind_fn X self i3) hl ?_
 have gX:Heap.get? ((hp0.push {cls:=.type "tuple",data:=.seq us.toArray}).push (eK D hp0.objs.size)) (hp0.objs.size+1)=some (eK D hp0.objs.size):=by
  have:=Heap.get?_push_size (hp0.push {cls:=.type "tuple",data:=.seq us.toArray}) (o:=eK D hp0.objs.size) rfl
  rwa [Heap.size_push]at this
 have le:=I.add_le (a:=hp0.objs.size+1) (xs:=[]) (t:=none) (Nat.le_succ _) (λp hp=>by cases hp)
 obtain⟨_,vr,I'⟩:=I.alloc (h':=(hp0.push {cls:=.type "tuple",data:=.seq us.toArray}).push (eK D hp0.objs.size)) (a:=hp0.objs.size+1) (xs:=[]) (t:=none) (tk:=t0) hT (Nat.le_succ _) ⟨_,gX⟩
  (λp hp=>by cases hp) (λb x e=>Heap.get?_push_of_some _ (Heap.get?_push_of_some _ e))
  ⟨⟨Nat.zero_le _,p,hp,hx⟩,none,_,gX,rfl,by show 4<6;decide,.inl rfl⟩ (λO h=>fo h)
 refine codeAny_mono (S.fnc (Q:=λv s'=>v= .none/\Q (.ref (hp0.objs.size+1)) s') (E:=E) h I' aok.create hh ⟨vr,rs.mono le⟩ (λv u J' V' s' hk le' I'' r=>?_) (xx.mono le)) λr s' hr=>uQ hr
 have hk:=onVal_case hk
 induction r with
 |none=>
  refine⟨rfl,q (.ref J.n) (.ref (hp0.objs.size+1)) _ _ _ hk (le.trans le') I'' ?_⟩
  exact vr.mono le'
 |_=>exact ff hk
include G S in
theorem BK(h:lX ih D as J k kx=true)(hl:us.length≤sizeLine)(I:Inv Z C V J s)(aok:AOk C A (n+1))(hh:A.handled=none)(rs:VRs V as us)(q:QV Z C V k Q)(xx:QX Z C V kx E):
 wpAny Z.M A (PySem.call (.ref D) us) Q E s:=by
 refine hold λG_ fin_=>?_
 obtain⟨p,hp,h⟩:=some?_eq h
 obtain⟨f,hf,h⟩:=some?_eq h
 refine fin_ ?_
 induction hx:aP p.1 39 with
 |false=>rw[hx]at h;exact wpAny_call (BH G S hp hx hf h I aok hh rs q xx)
 |true=>rw[hx]at h;exact wpAny_call (P7 G S hp hx hf hl h I aok hh rs q xx)
end
end
section
section
variable{M:Model}{A:Around}{E:Value->Shared->Prop}{h:Heap}{g:Array GenState}{d:Drawn}{t:Nat}{os:OsState}
variable{nm q:Str}{C N:Addr}{bs bm:List Value}{hdct:Bool}{sn:List Str}{sub:List Value}{ab:Bool}{col:Option Bool}{dd:Option Addr}{k0 k1 k2 k3 k5:Option Value}{newId:String}
theorem uR(hC:h.get? C=some (excClassObj nm q C N bs bm hdct sn sub ab col dd k0 k1 k2 k3 k5 newId))(hcB:(Value.ref C::bm).contains (.type F3)=true)(he:h.get? e=some oe)(hcls:oe.cls= .ref C)(hq:Q () ⟨h,g,d,t,os⟩):wpAny M A (checkBuiltinCall "ValueError.__init__" ⟨.ref e::rest,[]⟩) Q E ⟨h,g,d,t,os⟩:=by
 have hshort:=FnV.noStar
 simp only[checkBuiltinCall,FnV.initKind,FnV.initSplit,FnV.initRow]
 repeat (first|(with_reducible refine wpAny_loadPart_at he ?_;rw[hcls])|with_reducible refine wpAny_loadPart_at hC ?_|(with_reducible refine wpAny_isSubtype_exc hC ?_;rw[hcB])|wp_step)
 refine wpAny_onRaise ?_
 rw[show∀(a b:String) (n:Nat),Bind.check ⟨.positional,"*",F3,.self,[⟨"args",.varPos,false⟩]⟩ a b n (List.map (λx=>x.fst) ({pos:=Value.ref e::rest}:Args).kw)=pure ()from
  λa b n=>check_star_args _ _ _ _ _ _]
 exact wpAny_pure hq
end
section
variable{Z:Gd}(G:aU Z){C:Cf}{V:Vl}{J:St}{s:Shared}{A:Around}{k:KK}{kx:KX}{E:Value->Shared->Prop}
include G in
theorem uS(I:Inv Z C V J s){i K:Nat}{es:List (Nm×SV)}(ho:J.T.get i=some (.exc K es)){u:Value}{Q:Value->Shared->Prop}(q:∀h' tk,Inv Z C V J {s with heap:=h',toks:=tk}->Q .none {s with heap:=h',toks:=tk}):
 wpAny Z.M A (PySem.call (.builtin "ValueError.__init__") [.ref (V.ρ i),u]) Q E s:=by
 refine hold λG_ fin_=>?_
 obtain⟨t1,t2,⟨hl,p,hp,hx⟩,d,vs,e1,e2,e5,e6⟩:=I.T i _ ho
 have X:=I.K G.kin
 have F:=G.mkf K p hp
 obtain⟨nm',q',N,bs,bm,hdct,sn,sub,col,dd,k0,k1,k2,k3,k5,c1,c2,c3,c4,_⟩:=F.exc λp' hp'=>by rw[hp]at hp';obtain rfl:=Option.some.inj hp';exact hx
 refine fin_ ?_
 refine wpAny_call (codeAny_call_builtin FnV.init.plain FnV.initEntry ?_)
 refine uR (h:=s.heap) (X _ _ c1) c2 e1 rfl ?_
 unfold Builtin.«BaseException.__init__»
 dsimp only
 rw[if_neg (by simp)]
 delta newTuple Builtin.BaseException.bexcPut
 have e1':=Heap.get?_push_of_some (h:=s.heap) {cls:=.type "tuple",data:=.seq [u].toArray} e1
 have hlt:=Heap.lt_size e1
 have h0:vs[0]?=some vs[0]:=Array.getElem?_eq_getElem (Nat.zero_lt_of_lt e5)
 refine wpAny_bind (wpAny_newObj_type (wpAny_bind (wpAny_bind (wpAny_field e1' rfl h0 (wpAny_bind (wpAny_setField e1' rfl (Nat.zero_lt_of_lt e5) ?_))))) (by show [u].toArray.size≤sizeLine;simp[sizeLine]))
 have hd':=Obj.data_mapFields (o:=⟨.ref K,d,.fields vs,#[]⟩) rfl (·.setIfInBounds 0 (.ref s.heap.objs.size))
 have gs:=Heap.get?_update_self (Obj.mapFields (·.setIfInBounds 0 (.ref s.heap.objs.size))) e1' (Obj.isFreed_of_fields hd')
 have other:∀b x,b≠V.ρ i->s.heap.get? b=some x->((s.heap.push {cls:=.type "tuple",data:=.seq [u].toArray}).update (V.ρ i) (Obj.mapFields (·.setIfInBounds 0 (.ref s.heap.objs.size)))).get? b=some x:=λb x hb e=>
  (Heap.get?_update_other _ _ (Ne.symm hb)).trans (Heap.get?_push_of_some _ e)
 have fin:Q .none {s with heap:=(s.heap.push {cls:=.type "tuple",data:=.seq [u].toArray}).update (V.ρ i) (Obj.mapFields (·.setIfInBounds 0 (.ref s.heap.objs.size)))}:=by
  refine q _ s.toks (I.go (Vl.Le.refl V) (λw=>w= .obj i) rfl (λb x e=>?_) (λa w e=>.inl e) (λb x hb e=>other b x (λz=>hb _ (z▸t2) rfl) e) I.n (λj x e=>?_) (.inl ⟨rfl,nofun⟩) (λO O=>nofun) (λO=>nofun) nofun (λj ks e=>.inl ⟨e,?_⟩) I.X)
  ·by_cases z:b=V.ρ i
   ·subst z;exact⟨_,gs⟩
   ·exact⟨x,other b x z e⟩
  ·by_cases z:j=i
   ·subst z
    rw[ho]at e;obtain rfl:=Option.some.inj e
    refine .inr ⟨t1,t2,⟨hl,p,hp,hx⟩,d,_,gs,e2.keep (Vl.Le.refl V) λb o w e=>other b o (λz=>by rw[z,t2]at w;cases w) e,by simpa using e5,?_⟩
    have:(vs.setIfInBounds 0 (.ref s.heap.objs.size))[1]?=vs[1]?:=by simp
    rcases e6 with e6|⟨T,oT,ts,f1,f2,f3,f4⟩
    ·exact .inl (this.trans e6)
    ·exact .inr ⟨T,oT,ts,this.trans f1,f2,other T oT (λz=>by rw[z,t2]at f2;cases f2) f3,f4⟩
   ·exact .inl ⟨e,λw=>z (Own.obj.inj w),nofun,nofun⟩
  ·intro z
   cases z
   obtain⟨_,_,ws,ep,k3,_⟩:=I.tk i ks e
   rw[e1]at k3;cases k3
 induction hz:vs[0]with
 |ref a=>exact wpAny_letGo (wpAny_pure fin)
 |_=>exact wpAny_pure (wpAny_pure fin)
end
end
section
def xF(Z:Gd):Prop:=∀{as:List SV} {J:St} {k:KK},take as J k=true->∀{C:Cf} {V:Vl} {s:Shared} {A:Around} {n:Nat} {vs:List Value} {Q E:Value->Shared->Prop},
    Inv Z C V J s->AOk C A (n+1)->A.handled=none->VRs V as vs->QV Z C V k Q->codeAny Z.M A (.call (.ref 740) ⟨vs,[]⟩) (RV Q E) s
theorem lD(h:tB ih (.fn f) as J k kx=true):(f=740/\take as J k=true)∨∃p,aE iJ f=some p/\callFn ih (cS f) p.1 p.2 as J k kx=true:=by
 have h:Bool.rec (motive:=λO=>Bool) (callFn? ih f as J k kx) (take as J k) (match Nat.beq f 740 with|true=>wG as J|false=>false)=true:=h
 induction hc:(match Nat.beq f 740 with|true=>wG as J|false=>false)with
 |true=>
  rw[hc]at h
  induction hb:Nat.beq f 740 with
  |true=>exact .inl ⟨Nat.eq_of_beq_eq_true hb,h⟩
  |false=>rw[hb]at hc;exact ff hc
 |false=>rw[hc]at h;exact .inr (some?_eq h)
section
variable{Z:Gd}(G:aU Z)(T:xF Z){n:Nat}{ih:Ih}(S:gS Z n ih){C:Cf}{V:Vl}{J:St}{s:Shared}{A:Around}{k:KK}{kx:KX}{E:Value->Shared->Prop}
include G T S in
theorem uT(h:tB ih (.fn f) as J k kx=true)(I:Inv Z C V J s)(a:AOk C A (n+1))(hh:A.handled=none)(rs:VRs V as vs)(q:QV Z C V k Q)(xx:QX Z C V kx E):
 codeAny Z.M A (.call (.ref f) ⟨vs,[]⟩) (RV Q E) s:=by
 rcases lD h with⟨rfl,h1⟩|⟨p,hp,h1⟩
 ·exact T h1 I a hh rs q
 ·obtain⟨o,fd,F⟩:=G.fn f p hp
  exact P5 G S F h1 I a hh rs q xx
include G T S in
theorem BL(h:tB ih f as J k kx=true)(I:Inv Z C V J s)(a:AOk C A (n+1))(hh:A.handled=none)(r:VR V f fv)(rs:VRs V as vs)(q:QV Z C V k Q)(xx:QX Z C V kx E):
 wpAny Z.M A (PySem.call fv vs) Q E s:=by
 induction r with
 |fn f=>exact wpAny_call (uT G T S h I a hh rs q xx)
 |cls D=>
  obtain⟨hl,h⟩:=aB (h:Bool.rec (motive:=λO=>Bool) false (lX ih D as J k kx) (Nat.blt (bA as) 20)=true)
  have hl:bA as<20:=Nat.lt_of_succ_le (Nat.le_of_ble_eq_true hl)
  rw[aT,rs.length]at hl
  exact BK G S h (Nat.le_trans (Nat.le_of_lt hl) (by decide)) I a hh rs q xx
 |bi b fv hb=>exact FZ G I hh h hb rs q λho q=>uS G I ho q
 |ref i hi=>
  have h:qW ih (J.T.get i) as J k kx=true:=h
  induction ho:J.T.get i with
  |none=>rw[ho]at h;exact ff h
  |some ob=>
   rw[ho]at h
   induction ob with
   |lam ps b sc cs=>
    induction as using List.casesOn with
    |nil=>
     induction vs using List.casesOn with
     |nil=>exact BF G S ho h I a hh q xx
     |cons _ _=>exact rs.elim
    |cons _ _=>exact ff h
   |_=>exact ff h
 |_=>exact ff h
theorem F5(h:tB ih f as J k kx=true):zD J f:=by
 induction f with
 |fn f=>
  rcases lD h with⟨rfl,h1⟩|⟨p,hp,h1⟩
  ·have:(aE iJ 740).isSome=true:=by kernel_rfl
   exact Option.isSome_iff_exists.mp this
  ·exact⟨p,hp⟩
 |cls D=>
  obtain⟨hl,h⟩:=aB (h:Bool.rec (motive:=λO=>Bool) false (lX ih D as J k kx) (Nat.blt (bA as) 20)=true)
  obtain⟨p,hp,_⟩:=some?_eq h
  exact⟨p,hp⟩
 |bi b=>trivial
 |ref i=>
  have h:qW ih (J.T.get i) as J k kx=true:=h
  induction ho:J.T.get i with
  |none=>rw[ho]at h;exact ff h
  |some ob=>
   rw[ho]at h
   induction ob with
   |lam ps b sc cs=>exact⟨ps,b,sc,cs,ho⟩
   |_=>exact ff h
 |_=>exact ff h
end
end
section
theorem lE(h:noStar e=true)(es:List Expr)(env:Env):starEach (e::es) env=(false,eval e env)::starEach es env:=by
 cases e<;>first|rfl|exact ff h
theorem lF:∃y,backTo pos (x::l)=(x.1,y)::backTo pos l:=by
 exact⟨_,rfl⟩
theorem pZ:∀{es:List Expr},bG noStar es=true->(backTo pos (starEach es env)).any (·.1)=false:=by
 intro es
 induction es with
 |nil=>
  intro O
  exact rfl
 |cons e es rec_=>
  intro h
  obtain⟨h1,h2⟩:=aB (b:=noStar e) (x:=bG noStar es) h
  rw[lE h1]
  obtain⟨y,hy⟩:=lF (pos:=pos) (x:=(false,eval e env)) (l:=starEach es env)
  rw[hy,List.any_cons,rec_ h2];rfl
abbrev gC(M:Model)(h:Heap)(fv:Value):Prop:=∃k,(k=Keeper.frame∨k=Keeper.machine∨k=Keeper.boundFrame)/\Looks M h (keeperOf fv) k
section
variable{Z:Gd}(G:aU Z){n:Nat}{ih:Ih}(S:gS Z n ih){C:Cf}{V:Vl}{J:St}{s:Shared}{A:Around}{env:Env}{c:Cx}{k:KK}{kx:KX}{E:Value->Shared->Prop}
include S in
theorem gE(a:AOk C A n)(en:EnvOk C V c env)(hh:A.handled=none)(hs:bG noStar as=true)(h:CS ih c kx as J kl=true)(I:Inv Z C V J s)(q:∀vs us J' V' s',kl vs J'=true->V.Le V'->Inv Z C V' J' s'->VRs V' vs us->vs.length=as.length->gC Z.M s'.heap fv/\wpAny Z.M A (PySem.call fv (first++us)) Q E s')(xx:QX Z C V kx E):
 wpAny Z.M A (callWith pos fv first (backTo pos (starEach as env)) []) Q E s:=by
 refine callWith_of (P:=λh=>gC Z.M h fv) (by rw[pZ hs];rfl) (λh x=>x) ?_
 induction as using List.casesOn with
 |nil=>
  have h:kl [] J=true:=h
  exact evalArgs_nil3 (q [] [] J V s h (Vl.Le.refl V) I trivial rfl)
 |cons e es=>
  obtain⟨h1,h2⟩:=aB (b:=noStar e) (x:=bG noStar es) hs
  have E1:=lE h1 es env
  obtain⟨y,hy⟩:=lF (pos:=pos) (x:=(false,eval e env)) (l:=starEach es env)
  have:=kC S a (pos:=pos) (e::es) (Q:=λus s'=>gC Z.M s'.heap fv/\wpAny Z.M A (PySem.call fv (first++us)) Q E s') h I en (.inl hh) q xx
  rw[E1,hy]at this⊢
  exact evalArgs_plain this
include G in
theorem jO(I:Inv Z C V J s)(hc:zD J f)(r:VR V f fv):gC Z.M s.heap fv:=by
 induction r with
 |fn f=>
  obtain⟨p,hp⟩:=hc
  obtain⟨o,fd,F⟩:=G.fn f p hp
  have:=I.baseAt F.get F.nt
  refine⟨.frame,.inl rfl,?_⟩
  refine(Looks.ld (part:=none) this).andThen ?_
  rw[F.data]
  exact .now
 |cls D=>
  obtain⟨p,hp⟩:=hc
  have F:=G.mkf D p hp
  have X:=I.K G.kin
  obtain⟨o,cd,h1,h2⟩:=F.obj
  refine⟨.machine,.inr (.inl rfl),?_⟩
  refine(Looks.ld (part:=none) (X _ _ h1)).andThen ?_
  rw[h2]
  exact(looks_specialIn X F.call).andThen .now
 |bi b fv hb=>
  have:(∃T,fv= .type T)∨∃T,fv= .builtin T:=by
   have:=mV hb
   induction fv with
   |type T=>exact .inl ⟨T,rfl⟩
   |builtin T=>exact .inr ⟨T,rfl⟩
   |_=>exact this.elim nofun nofun
  rcases this with⟨T,rfl⟩|⟨T,rfl⟩<;>exact⟨.machine,.inr (.inl rfl),.now⟩
 |ref i hi=>
  refine hold λG_ fin_=>?_
  obtain⟨ps,b,sc,cs,ho⟩:=hc
  obtain⟨t1,t2,name,qual,cl,pm,cdv,ct,o,f1,f2,_⟩:=I.T i _ ho
  refine fin_ ?_
  refine⟨.frame,.inl rfl,?_⟩
  refine(Looks.ld (part:=none) f1).andThen ?_
  rw[f2]
  exact .now
 |_=>exact hc.elim
end
end
section
set_option backward.match.sparseCases false
inductive MR(V:Vl)(ov:SV):PM->Value->List Value->Prop
 |fn (f:Nat) (ou:Value):VR V ov ou->MR V ov (.fn f) (.ref f) [ou]
 |cf (f:Nat):MR V ov (.cf f) (.ref f) []
 |vinit:MR V ov .vinit (.builtin "ValueError.__init__") []
 |lapp (i:Nat):i<V.n->MR V ov (.lapp i) (.builtin "list.append") [.ref (V.ρ i)]
 |lidx (i:Nat):i<V.n->MR V ov (.lidx i) (.builtin "list.index") [.ref (V.ρ i)]
 |dget (ou:Value):VR V ov ou->MR V ov (.dget ov) (.builtin "dict.get") [ou]
 |dval (i:Nat):i<V.n->MR V ov (.dval i) (.builtin "dict.values") [.ref (V.ρ i)]
 |ssplit (x:Nm) (t:Tok):MR V ov (.ssplit x) (.builtin "str.split") [.str (tx x) t]
 |sdig (x:Nm) (t:Tok):MR V ov (.sdig x) (.builtin "str.isdigit") [.str (tx x) t]
 |saln (x:Nm) (t:Tok):MR V ov (.saln x) (.builtin "str.isalnum") [.str (tx x) t]
theorem MR.mono{V V':Vl}(e:V.Le V'){ov:SV}{pm:PM}{fv:Value}{first:List Value}(h:MR V ov pm fv first):MR V' ov pm fv first:=by
 induction h with
 |fn f ou r=>exact .fn f ou (r.mono e)
 |cf f=>exact .cf f
 |vinit=>exact .vinit
 |lapp i h=>rw[<-e.ρ i h];exact .lapp i (Nat.lt_of_lt_of_le h e.n)
 |lidx i h=>rw[<-e.ρ i h];exact .lidx i (Nat.lt_of_lt_of_le h e.n)
 |dget ou r=>exact .dget ou (r.mono e)
 |dval i h=>rw[<-e.ρ i h];exact .dval i (Nat.lt_of_lt_of_le h e.n)
 |ssplit x t=>exact .ssplit x t
 |sdig x t=>exact .sdig x t
 |saln x t=>exact .saln x t
theorem bB{a b:Nm}(h:cC a b=true):a=b:=by
 rw[cV]at h;exact of_decide_eq_true h
theorem BM:findCls [] (.type "ValueError") (.type "type") "__init__" =some (.val (.builtin "ValueError.__init__")):=by kernel_rfl
theorem BO:handedIn (.builtin "ValueError.__init__")=true:=by decide+kernel
theorem P8:typeOf (.type "ValueError")=pure (.type "type"):=by kernel_rfl
theorem P9:Manifest.isStub "ValueError" =false:=by decide+kernel
theorem xG(b:Addr):Heap.get? ⟨#[],{}⟩ b=none:=Heap.get?_none_of_le (h:=⟨#[],{}⟩) (Nat.zero_le _)
theorem F6:Frag.In [] ⟨#[],{}⟩:=λa o e=>by simp at e
theorem QA{M:Model}{A:Around}{E:Value->Shared->Prop}{prog:Program}{w:World}{s:Shared}{L:Addr}{m:Str->Option Value}(hn:s.heap.Ns L m){pl:Sem Bool}{Q:Value×List Value->Shared->Prop}(q:Q (.builtin "ValueError.__init__",[]) {s with toks:=s.toks+1}):
 wpAny (model prog w) A (getMethod (.type "ValueError") "__init__" pl) Q E s:=
 method_type (T:= "ValueError") (K:=[]) (v:=.builtin "ValueError.__init__") (h₀:=⟨#[],{}⟩) (L:=L) (m:=m) ⟨hn,λb o e=>by(rw[xG]at e;exact fo e),Nat.zero_le _⟩ F6 P8 P9 BM BO q
section
variable{Z:Gd}(G:aU Z){C:Cf}{V:Vl}{J:St}{s:Shared}{A:Around}{E:Value->Shared->Prop}
theorem kI{a:Addr}{n:Nm}{pl:Sem Bool}{Q:Value×List Value->Shared->Prop}(hT:s.TypeIs (.ref a) "dict")(hd:∀b,Value.ref a= .ref b->∃o,s.heap.get? b=some o/\o.dict=none)(e:cC n pF=true)
 (q:Q (.builtin "dict.get",[.ref a]) s):wpAny Z.M A (getMethod (.ref a) (tx n) pl) Q E s:=by
 rw[bB e,show tx pF=("get" :Str) by decide+kernel]
 exact getMethod_builtin hT PySem.F.plainAttrs_dict PySem.F.slot_dict_get PySem.F.type_dict_get hd q
include G in
theorem BP(I:Inv Z C V J s){ov:SV}{ou:Value}{n:Nm}{pm:PM}{pl:Sem Bool}{Q:Value×List Value->Shared->Prop}(h:aIs J ov n=some pm)(r:VR V ov ou)(q:∀fv first tk,MR V ov pm fv first->Q (fv,first) {s with toks:=tk}):
 wpAny Z.M A (getMethod ou (tx n) pl) Q E s:=by
 have X:=I.K G.kin
 induction r with
 |ref i hi=>
  change(match J.T.get i with|some ob=>aIr i n ob|none=>none)=some pm at h
  induction ho:J.T.get i with
  |none=>rw[ho]at h;exact fo h
  |some ob=>
   rw[ho]at h
   induction ob with
   |inst D es=>
    obtain⟨a1,h⟩:=bL h
    have h:Option.rec (motive:=λO=>Option PM) ((dE D n).map .fn) (λO=>none) (aD es n)=some pm:=h
    induction a2:aD es n with
    |some _=>rw[a2]at h;exact fo h
    |none=>
     rw[a2]at h
     obtain⟨f,a3,rfl⟩:=Option.map_eq_some_iff.mp h
     obtain⟨_,_,⟨_,p,hp,hpx⟩,d,m,g1,g2,g3,g4⟩:=I.T i _ ho
     obtain⟨o,es',ep,g5,_⟩:=id g3
     have F:=G.cls D p hp
     rcases(F.attr n a1).2 with⟨b1,_⟩|⟨f',b1,b2,b3⟩
     ·exact fo (b1.symm.trans a3)
     ·obtain rfl:=Option.some.inj (a3.symm.trans b1)
      refine method_fn X (ox:=instObj D d) (od:=some o) ⟨g1,rfl,rfl,g5⟩ (F.ga λp' hp'=>Option.some.inj (hp.symm.trans hp')▸hpx) F.gt b2 b3 ?_ (q _ _ s.toks (.fn f (.ref (V.ρ i)) (.ref i hi)))
      show(lookIn (tx n) o).map (·.isSome)=some false
      rw[pO g3.ns g5]
      have:=g4 n
      rw[a2]at this
      rw[this];rfl
   |list xs=>
    refine hold λG_ fin_=>?_
    obtain⟨_,_,hl,vs,ep,g1,g2⟩:=I.T i _ ho
    refine fin_ ?_
    have hT:s.TypeIs (.ref (V.ρ i)) "list" :=⟨_,g1,rfl⟩
    have hd:∀a,Value.ref (V.ρ i)= .ref a->∃o,s.heap.get? a=some o/\o.dict=none:=λa e=>by cases e;exact⟨_,g1,rfl⟩
    rcases eO h with⟨e1,rfl⟩|h
    ·rw[bB e1,show tx tC=("append" :Str) by decide+kernel]
     exact getMethod_builtin hT PySem.F.plainAttrs_list PySem.F.slot_list_append PySem.F.type_list_append hd (q _ _ s.toks (.lapp i hi))
    ·obtain⟨e1,h⟩:=bL h
     obtain rfl:=Option.some.inj h
     rw[bB e1,show tx yW=("index" :Str) by decide+kernel]
     exact getMethod_builtin hT PySem.F.plainAttrs_list PySem.F.slot_list_index PySem.F.type_list_index hd (q _ _ s.toks (.lidx i hi))
   |dict es=>
    refine hold λG_ fin_=>?_
    obtain⟨_,_,_,o,ents,ep,g1,g2,_⟩:=I.T i _ ho
    refine fin_ ?_
    have hT:s.TypeIs (.ref (V.ρ i)) "dict" :=⟨_,g1,g2.1⟩
    have hd:∀a,Value.ref (V.ρ i)= .ref a->∃o,s.heap.get? a=some o/\o.dict=none:=λa e=>by cases e;exact⟨_,g1,g2.2.1⟩
    rcases eO h with⟨e1,rfl⟩|h
    ·exact kI hT hd e1 (q _ _ s.toks (.dget _ (.ref i hi)))
    ·obtain⟨e1,h⟩:=bL h
     obtain rfl:=Option.some.inj h
     rw[bB e1,show tx tE=("values" :Str) by decide+kernel]
     exact getMethod_builtin hT PySem.F.plainAttrs_dict PySem.F.slot_dict_values PySem.F.type_dict_values hd (q _ _ s.toks (.dval i hi))
   |mdict es ab=>
    obtain⟨_,_,_,kvs,B,r,hm,_⟩:=I.T i _ ho
    obtain⟨o,_,_,g1,⟨c1,c2,c3⟩,_⟩:=id hm
    have hT:s.TypeIs (.ref (V.ρ i)) "dict" :=⟨_,g1,c1⟩
    have hd:∀a,Value.ref (V.ρ i)= .ref a->∃o,s.heap.get? a=some o/\o.dict=none:=λa e=>by cases e;exact⟨_,g1,c2⟩
    obtain⟨e1,h⟩:=bL h
    obtain rfl:=Option.some.inj h
    exact kI hT hd e1 (q _ _ s.toks (.dget _ (.ref i hi)))
   |_=>exact fo h
 |kref a=>
  change(match aE d5 a with|some (.dict _)=>fA (cC n pF) (some (PM.dget (.kref a))) none|_=>none)=some pm at h
  induction hk:aE d5 a with
  |none=>rw[hk]at h;exact fo h
  |some ob=>
   rw[hk]at h
   induction ob with
   |dict es=>
    obtain⟨e1,h⟩:=bL h
    obtain rfl:=Option.some.inj h
    obtain⟨k1,_,kvs,k3,k4⟩:=G.kref a _ hk
    obtain⟨o,_,_,ho,⟨c1,c2,c3⟩,_⟩:=id k4
    have g1:=I.baseAt ho k1
    exact kI ⟨_,g1,c1⟩ (λa' e=>by cases e;exact⟨_,g1,c2⟩) e1 (q _ _ s.toks (.dget _ (.kref a)))
   |_=>exact fo h
 |cls D=>
  obtain⟨e1,h⟩:=bL h
  obtain⟨f,e2,rfl⟩:=Option.map_eq_some_iff.mp h
  have en:=bB e1
  subst en
  obtain⟨p,hp⟩:∃p,aE aO D=some p:=by
   unfold dE at e2
   induction hp:aE aO D with
   |none=>rw[hp]at e2;exact fo e2
   |some p=>exact⟨p,rfl⟩
  have F:=G.mkf D p hp
  obtain⟨i1,i2,i3⟩:=F.init f e2
  exact method_cls X F.ga (cls_value X F.reads i1 rfl (q _ _ _ (.cf f)))
 |bi b v hb=>
  obtain⟨e,h⟩:=bL h
  obtain rfl:=Option.some.inj h
  obtain⟨e1,e2⟩:=aM e
  obtain rfl:=Nat.eq_of_beq_eq_true e1
  obtain rfl:=Option.some.inj hb
  rw[bB e2,BG]
  obtain⟨m,hm,_⟩:=I.L.2
  exact QA (M:=Z.M) hm.ns (q _ _ _ .vinit)
 |str x t=>
  rcases eO h with⟨e1,rfl⟩|h
  ·rw[bB e1,show tx yX=("split" :Str) by decide+kernel]
   exact GM.split (q _ _ s.toks (.ssplit x t))
  rcases eO h with⟨e1,rfl⟩|h
  ·rw[bB e1,show tx pG=("isdigit" :Str) by decide+kernel]
   exact GM.isdigit (q _ _ s.toks (.sdig x t))
  obtain⟨e1,h⟩:=bL h
  obtain rfl:=Option.some.inj h
  rw[bB e1,show tx pH=("isalnum" :Str) by decide+kernel]
  exact GM.isalnum (q _ _ s.toks (.saln x t))
 |_=>exact fo h
end
end
section
open PySem.SeqAt
theorem BQ(h:c<128):Txt.isdigit (tx [c])=pD c:=by
 have:((List.range 128).all λc=>decide (Txt.isdigit (tx [c])=pD c))=true:=by decide+kernel
 rw[List.all_eq_true]at this
 exact of_decide_eq_true (this c (List.mem_range.mpr h))
theorem BR(h:c<128):Txt.isalnum (tx [c])=(pD c||EB c):=by
 have:((List.range 128).all λc=>decide (Txt.isalnum (tx [c])=(pD c||EB c)))=true:=by decide+kernel
 rw[List.all_eq_true]at this
 exact of_decide_eq_true (this c (List.mem_range.mpr h))
theorem xH(l:Addr)(items:Array Value)(n:Nat)(x:Value)(j:Nat)(hj:j<items.size)(upto:Int)(hup:(j:Int)<upto)(k:Nat):
 ∀i:Nat,j-i=k->i≤j->Meets (Builtin.«list.index.loop» ⟨[.ref l,x,rawInt i,rawInt upto],[]⟩)
  (λA R s=>s.heap.get? l=some {cls:=.type "list",dict:=none,data:=.seq items n,slots:= #[]}/\(∀m (hm:m<items.size),m≤j->EqAt A.in1 s items[m] x (decide (m=j)))/\R (.ok (.ret (.int j s.toks))) {s with toks:=s.toks+1}):=by
 induction k with
 |zero=>
  intro i hk hij prog w A R s h
  refine hold λG_ fin_=>?_
  obtain⟨hp,g,d,tk,os⟩:=s;obtain⟨hl,he,h⟩:=h
  obtain rfl:i=j:=by exact Nat.le_antisymm hij (Nat.le_of_sub_eq_zero hk)
  refine fin_ ?_
  wp_walk using wpAny_loadPart' hl
  have hi:(if(i:Int)<upto then items[((i:Nat):Int).toNat]? else none)=some items[i]:=by rw[if_pos hup];simp[hj]
  rw[hi]
  have:=he i hj (Nat.le_refl _)
  rw[decide_eq_true rfl]at this
  refine wpAny_bind (this prog w _ _ ?_)
  wp_walk
  exact h
 |succ k ih=>
  intro i hk hij prog w A R s h
  refine hold λG_ fin_=>?_
  obtain⟨hp,g,d,tk,os⟩:=s;obtain⟨hl,he,h⟩:=h
  refine fin_ ?_
  have hlt:i<items.size:=by exact Nat.lt_of_le_of_lt hij hj
  have hst:(i:Int)<upto:=by exact Int.lt_of_le_of_lt (Int.ofNat_le.mpr hij) hup
  wp_walk using wpAny_loadPart' hl
  have hi:(if(i:Int)<upto then items[((i:Nat):Int).toNat]? else none)=some items[i]:=by rw[if_pos hst];simp[hlt]
  have hc:((i:Int)+1)=((i+1:Nat):Int):=by push_cast;rfl
  rw[hi]
  have:=he i hlt hij
  rw[decide_eq_false (aIP hk)]at this
  refine wpAny_bind (this prog w _ _ ?_)
  wp_walk
  rw[hc]
  exact⟨plainId_quiet MeetsSeq.plain_index_loop _,codeAny_builtin MeetsSeq.entry_index_loop (by
   rw[Around.under_plainId MeetsSeq.plain_index_loop _]
   exact ih (i+1) (congrArg Nat.pred hk) (aIQ hk) prog w A R _ ⟨hl,he,h⟩)⟩
theorem uU(l:Addr)(items:Array Value)(n:Nat)(x:Value)(j:Nat)(hj:j<items.size)(hup:(j:Int)<2^63-1):Meets (Builtin.«list.index» ⟨[.ref l,x],[]⟩)
 (λA R s=>s.heap.get? l=some {cls:=.type "list",dict:=none,data:=.seq items n,slots:= #[]}/\(∀m (hm:m<items.size),m≤j->EqAt A.in1 s items[m] x (decide (m=j)))/\R (.ok (.ret (.int j s.toks))) {s with toks:=s.toks+1}):=by
 intro prog w A R s h
 refine hold λG_ fin_=>?_
 obtain⟨hp,g,d,tk,os⟩:=s;obtain⟨hl,he,h⟩:=h
 refine fin_ ?_
 wp_walk using wpAny_loadPart' hl
 have a1:((λi:Int=>if i<0 then max 0 (i+(items.size:Int))else i) ((none:Option Int).getD 0))=((0:Nat):Int):=by simp
 have a2:((λi:Int=>if i<0 then max 0 (i+(items.size:Int))else i) ((none:Option Int).getD (2^63-1)))=2^63-1:=by simp
 rw[a1,a2]
 exact⟨plainId_quiet MeetsSeq.plain_index_loop _,codeAny_builtin MeetsSeq.entry_index_loop (by
  rw[Around.under_plainId MeetsSeq.plain_index_loop _]
  exact xH l items n x j hj (2^63-1) hup _ 0 rfl (Nat.zero_le _) prog w A R _ ⟨hl,he,h⟩)⟩
set_option tactic.hygienic true in
theorem xI:∀{xs:List SV} {v:SV} {j:Nat},iX J xs v=some (some j)->j<xs.length/\∀m a,m≤j->xs[m]?=some a->c8 J 5 a v=some (decide (m=j))
 :=by
 intro xs
 induction xs with
 |nil=>intro v j h;cases h
 |cons a l ih=>
  intro v j h
  unfold iX at h
  split at h
  ·rename_i r0 e1 e2 e3
   cases h
   refine⟨Nat.zero_lt_succ _,λm b hm hb=>?_⟩
   obtain rfl:m=0:=Nat.le_zero.mp hm
   obtain rfl:=Option.some.inj hb
   exact e2
  ·rename_i r e1 e2 e3
   induction r with
   |none=>cases h
   |some j'=>
    obtain rfl:j'+1=j:=Option.some.inj (Option.some.inj h)
    obtain⟨h1,h2⟩:=ih e3
    refine⟨Nat.succ_lt_succ h1,λm b hm hb=>?_⟩
    induction m using Nat.casesOn with
    |zero=>obtain rfl:=Option.some.inj hb;rw[e2];simp
    |succ m=>
     rw[h2 m b (Nat.le_of_succ_le_succ hm) (by simpa using hb)]
     simp
  ·exact fo h
section
variable{Z:Gd}(G:aU Z){C:Cf}{V:Vl}{J:St}{s:Shared}{A:Around}{k:KK}{E:Value->Shared->Prop}
def xJ(V:Vl)(rr:Option SV)(r:Option Value):Prop:=match rr with|some x=>∃u,r=some u/\VR V x u|none=>r=none
theorem kJ{d:Addr}{key:Value}{rest:List Value}{P:Option Value->Prop}{Q:Value->Shared->Prop}(hs:(d==sysModules)=false)(hT:s.TypeIs (.ref d) "dict")(hl:rest=[]∨∃x,rest=[x])
 (hget:∀{Q':Option Value->Shared->Prop} {E':Value->Shared->Prop},(∀r tk,P r->Q' r {s with toks:=tk})->wpAny Z.M A.in1 (PySem.dictGet d key) Q' E' s) (q:∀r tk,P r->Q (r.getD (rest.headD .none)) {s with toks:=tk}):
 wpAny Z.M A (PySem.call (.builtin "dict.get") (.ref d::key::rest)) Q E s:=by
 rcases hl with rfl|⟨x,rfl⟩
 ·refine wpAny_call (codeAny_call_builtin PySem.F.slot_dict_get.plain PySem.F.entry_dict_get (PySem.F.slot_dict_get.check _ _ _ _ _ _ _ _ hT (PySem.F.args_dict_get_2 _ _) ?_))
  show wpAny _ _ (PySem.dictGet d key >>= _) _ _ s
  refine wpAny_bind (hget λr tk hr=>?_)
  induction r with
  |some v=>exact wpAny_pure (q (some v) tk hr)
  |none=>
   show wpAny _ _ (Builtin.Dict.missed d key >>= _) _ _ _
   exact wpAny_bind (wpAny_missed_other hs (wpAny_pure (q none tk hr)))
 ·refine wpAny_call (codeAny_call_builtin PySem.F.slot_dict_get.plain PySem.F.entry_dict_get (PySem.F.slot_dict_get.check _ _ _ _ _ _ _ _ hT (PySem.F.args_dict_get_3 _ _ _) ?_))
  show wpAny _ _ (PySem.dictGet d key >>= _) _ _ s
  refine wpAny_bind (hget λr tk hr=>?_)
  induction r with
  |some v=>exact wpAny_pure (q (some v) tk hr)
  |none=>
   show wpAny _ _ (Builtin.Dict.missed d key >>= _) _ _ _
   exact wpAny_bind (wpAny_missed_other hs (wpAny_pure (q none tk hr)))
include G in
theorem zJ(I:Inv Z C V J s)(hu:A.units+6<cLine)(ho:iV J o=some (.dict es))(hg:D5 J es a=some rr)(r:VR V o ou)(r1:VR V a ku):
 ∃d,ou= .ref d/\(d==sysModules)=false/\s.TypeIs (.ref d) "dict" /\∀{Q':Option Value->Shared->Prop} {E':Value->Shared->Prop},(∀r tk,xJ V rr r->Q' r {s with toks:=tk})->wpAny Z.M A.in1 (PySem.dictGet d ku) Q' E' s:=by
 induction r1 with
 |str n t=>
  obtain⟨hh',hg⟩:=iN (x:=some (cR es n)) (h:=(hg:Bool.rec (motive:=λO=>Option (Option SV)) none (some (cR es n)) (iA es)=some rr))
  obtain⟨d,kvs,e1,hd,hr,hm⟩:=kF G.kref I ho r hh'
  refine⟨d,e1,hd,hm.typeIs,λ{Q' E'} q'=>wpAny_dictGet_of (iM Z.w n t) hm.mapOf (q' _ _ ?_)⟩
  rw[<-Option.some.inj hg]
  have:=hr.at n
  induction hq:cR es n with
  |some v=>rw[hq]at this;exact this
  |none=>rw[hq]at this;exact this
 |ref j hj=>
  have h:Bool.rec (motive:=λO=>Option (Option SV)) none (Bool.rec (motive:=λO=>Option (Option SV)) none (mK J es (.ref j)) (fU es)) (s7 (J.T.get j))=some rr:=hg
  induction hk':s7 (J.T.get j)with
  |false=>rw[hk']at h;exact fo h
  |true=>
   rw[hk']at h
   induction hr:fU es with
   |false=>rw[hr]at h;exact fo h
   |true=>
    rw[hr]at h
    obtain⟨ks,tk1,_⟩:=rM I hk'
    induction r with
    |ref a' ha=>
     obtain⟨_,t2,x⟩:=I.T a' _ (ho:J.T.get a'=_)
     obtain⟨xs,hx,hm⟩:=nC I x hr
     have:=tZ I tk1 hx _ h
     refine⟨_,rfl,I.big t2,?_,λ{Q' E'} q'=>wpAny_dictGet_heap (knd:=tk Z.w) (tupleKind_room_in1 (Nat.lt_trans (Nat.add_lt_add_left (by decide) _) hu)) (tk1.key pw Z.w) hm (q' _ _ ?_)⟩
     ·obtain⟨o,_,_,g1,g2,_⟩:=hm
      exact⟨o,g1,g2.1⟩
     ·induction rr with
      |some v=>obtain⟨p,e,vr⟩:=this.1 _ rfl;exact⟨p.2,by rw[e];rfl,vr⟩
      |none=>show Option.map _ _=none;rw[this.2 rfl];rfl
    |kref a'=>exact tY (ho:aE d5 a'=_) hr
    |_=>exact fo ho
 |_=>exact fo hg
include G in
theorem xK(I:Inv Z C V J s)(hu:A.units+6<cLine)(hh:A.handled=none){o:SV}{ou:Value}{es:List (SV×SV)}{as:List SV}{us:List Value}{Q:Value->Shared->Prop}(ho:iV J o=some (.dict es))(h:dictGet J es as k=true)(r:VR V o ou)(rs:VRs V as us)(q:QV Z C V k Q):
 wpAny Z.M A (PySem.call (.builtin "dict.get") (ou::us)) Q E s:=by
 rcases pI h with⟨a,rfl,h⟩|⟨a,x,rfl,h⟩
 ·skip
  obtain⟨ku,rfl,r1⟩:=rs.one
  obtain⟨rr,hg,hk⟩:=some?_eq h
  obtain⟨d,rfl,hs,hT,hget⟩:=zJ G I hu ho hg r r1
  refine kJ (P:=xJ V rr) hs hT (.inl rfl) hget λr tk hr=>q _ _ J V _ hk (Vl.Le.refl V) (I.tok tk) ?_
  induction rr with
  |some x=>obtain⟨u,rfl,vr⟩:=hr;exact vr
  |none=>obtain rfl:=hr;exact .none
 ·skip
  obtain⟨ku,du,rfl,r1,r2⟩:=rs.two
  obtain⟨rr,hg,hk⟩:=some?_eq h
  obtain⟨d,rfl,hs,hT,hget⟩:=zJ G I hu ho hg r r1
  refine kJ (P:=xJ V rr) hs hT (.inr ⟨du,rfl⟩) hget λr tk hr=>q _ _ J V _ hk (Vl.Le.refl V) (I.tok tk) ?_
  induction rr with
  |some x=>obtain⟨u,rfl,vr⟩:=hr;exact vr
  |none=>obtain rfl:=hr;exact r2
theorem xL(I:Inv Z C V J s)(hh:A.handled=none)(ho:J.T.get i=some (.dict es))(h:alloc J (.vals i) (kv k)=true)(q:QV Z C V k Q):
 wpAny Z.M A (PySem.call (.builtin "dict.values") [.ref (V.ρ i)]) Q E s:=by
 refine hold λG_ fin_=>?_
 obtain⟨t1,t2,_,o,ents,ep,g1,g2,g3,_⟩:=I.T i _ ho
 have hT:s.TypeIs (.ref (V.ρ i)) "dict" :=⟨_,g1,g2.1⟩
 obtain⟨T',hT',h⟩:=aK h
 refine fin_ ?_
 refine wpAny_call (codeAny_call_builtin PySem.F.slot_dict_values.plain PySem.F.entry_dict_values (PySem.F.slot_dict_values.check _ _ _ _ _ _ _ _ hT (PySem.F.args_dict_values_1 _) ?_))
 refine wpAny_bind ?_
 unfold Builtin.Dict.noArgs
 refine wpAny_bind (wpAny_notOrdered_dict hT ?_)
 show wpAny _ _ (pure (V.ρ i)) _ _ s
 refine wpAny_pure ?_
 show wpAny _ _ (Builtin.Dict.showsAll (V.ρ i) >>= _) _ _ s
 unfold Builtin.Dict.showsAll
 rw[if_neg (by rw[I.big t2];exact Bool.false_ne_true)]
 refine wpAny_bind (wpAny_pure ?_)
 refine wpAny_bind (wpAny_newObj_type (wpAny_pure ?_))
 have g:Heap.get? (s.heap.push {cls:=.type "dict_values",data:=.fields #[.ref (V.ρ i)]}) s.heap.objs.size=some {cls:=.type "dict_values",data:=.fields #[.ref (V.ρ i)]}:=Heap.get?_push_size _ rfl
 have le:=I.add_le (a:=s.heap.objs.size) (xs:=[]) (t:=none) (Nat.le_refl _) (λp hp=>by cases hp)
 obtain⟨_,vr,I'⟩:=I.alloc (h':=s.heap.push {cls:=.type "dict_values",data:=.fields #[.ref (V.ρ i)]}) (a:=s.heap.objs.size) (xs:=[]) (t:=none) (tk:=s.toks) hT' (Nat.le_refl _) ⟨_,g⟩ (λp hp=>by cases hp)
  (λb x e=>Heap.get?_push_of_some _ e) ⟨Nat.lt_of_lt_of_le t1 le.n,by rw[le.ρ i t1];exact g⟩ (λO h=>fo h)
 exact q _ _ _ _ _ h le I' vr
theorem xM(ne:dA Z)(I:Inv Z C V J s)(hu:A.units+8<cLine)(hh:A.handled=none)(ho:J.T.get i=some (.list xs))(h:iX J xs v=some (some j))(r:VR V v u)(q:∀t tk,Q (.int (.ofNat j) t) {s with toks:=tk}):
 wpAny Z.M A (PySem.call (.builtin "list.index") [.ref (V.ρ i),u]) Q E s:=by
 refine hold λG_ fin_=>?_
 obtain⟨h1,h2⟩:=xI h
 obtain⟨_,_,hl,vs,ep,g1,g2⟩:=I.T i _ ho
 refine fin_ ?_
 have len:vs.size=xs.length:=by rw[g2.length];simp
 refine call_meets PySem.F.slot_list_index ⟨_,g1,rfl⟩ PySem.F.entry_list_index (PySem.F.args_list_index_2 _ _) (uU _ vs ep u j (Nat.lt_of_lt_of_eq h1 len.symm) (Int.lt_of_le_of_lt (Int.ofNat_le.mpr (Nat.le_of_lt (Nat.lt_of_lt_of_le h1 hl))) (by decide))) ⟨g1,λm hm hmj=>?_,q _ _⟩
 have hx:xs[m]?=some xs[m]:=List.getElem?_eq_getElem (Nat.lt_of_lt_of_eq hm len)
 obtain⟨w,hw,vr⟩:=g2.at _ _ hx
 have hv:vs[m]?=some vs[m]:=Array.getElem?_eq_getElem hm
 rw[Array.getElem?_toList,hv]at hw
 obtain rfl:=Option.some.inj hw
 exact(iL ne I 5 A.in1 (by simp only[Around.in1];exact Nat.lt_of_succ_lt hu) _ _ _ _ _ (h2 m _ hmj hx) vr r).1
end
end
section
section
variable{Z:Gd}(G:aU Z){n:Nat}{ih:Ih}(S:gS Z n ih){C:Cf}{V:Vl}{J:St}{s:Shared}{A:Around}{env:Env}{c:Cx}{k:KK}{kx:KX}{E:Value->Shared->Prop}
theorem eD(T:String):gC M h (.builtin T):=⟨.machine,.inr (.inl rfl),.now⟩
theorem BS(hy:(y.length==0)=false)(hsz:x.length+2≤sizeLine)(h:∀(l:List (Str×Tok)) tk,l.map (·.1)=Txt.split x y->Q (.ref s.heap.objs.size) {s with heap:=s.heap.push {cls:=.type "list",data:=.seq (strValues l).toArray},toks:=tk}):
 wpAny (model prog w) A (PySem.call (.builtin "str.split") [.str x t,.str y u]) Q E s:=by
 have hn:(Builtin.Str.partsBetween x (Builtin.Str.occurrences x y 0 x.length (x.length+1)) y.length).length≤sizeLine:=by
  have e1:=StrLaws.occ_length_le x y 0 x.length (x.length+1)
  rw[length_partsBetween];exact Nat.le_trans (Nat.add_le_add_right e1 1) hsz
 cases h1:(decide (x.length<y.length)||decide (PySem.Builtin.Str.strKind x<PySem.Builtin.Str.strKind y))
 ·cases hf:(Builtin.Str.occurrences x y 0 x.length (x.length+1)).isEmpty
  ·refine call_meets PySem.F.slot_str_split (typeIs_str _ _ _) PySem.F.entry_str_split (PySem.F.args_str_split_2 _ _) (meets_str_split_sep x y t u h1 hy hf (Nat.le_of_add_right_le hsz) hn) ?_
   show wants Q E _ {s with toks:=_,heap:=s.heap.push {cls:=.type "list",data:=.seq (strsFrom s.toks (Builtin.Str.partsBetween x (Builtin.Str.occurrences x y 0 x.length (x.length+1)) y.length)).toArray}}
   rw[strsFrom_eq]
   exact h (numbered s.toks _) _ ((numbered_texts _ _).trans ((if_neg (ne_true_of_eq_false h1)).trans (if_neg (ne_true_of_eq_false hf))).symm)
  ·exact call_meets PySem.F.slot_str_split (typeIs_str _ _ _) PySem.F.entry_str_split (PySem.F.args_str_split_2 _ _) (meets_str_split_not_found x y t u h1 hy hf)
    (h [(x,t)] s.toks ((if_neg (ne_true_of_eq_false h1)).trans (if_pos hf)).symm)
 ·exact call_meets PySem.F.slot_str_split (typeIs_str _ _ _) PySem.F.entry_str_split (PySem.F.args_str_split_2 _ _) (meets_str_split_cannot_occur x y t u h1)
   (h [(x,t)] s.toks (if_pos h1).symm)
theorem p0{k:Nm->Bool}{l:Nm}:∀(r:Nm),PE l r k=true->∃x,k x=true:=by
 induction l with
 |nil=>exact λr h=>⟨r,h⟩
 |cons c l ih=>exact λr h=>ih (c::r) h
theorem uV{l:Nm}:∀(acc:Nm) (k:List SV->Bool),qR l acc k=true->∃ps,k ps=true:=by
 induction l with
 |nil=>intro acc k h;obtain⟨w,h⟩:=p0 (k:=λw=>k [.str w]) _ h;exact⟨_,h⟩
 |cons c l ih=>
  intro acc k h
  change Bool.rec (motive:=λO=>Bool) (qR l (c::acc) k) (PE acc [] λw=>qR l [] λr=>k (.str w::r)) (Nat.beq c 32)=true at h
  induction q:Nat.beq c 32 with
  |false=>rw[q]at h;exact ih _ _ h
  |true=>
   rw[q]at h
   obtain⟨w,h⟩:=p0 _ h
   obtain⟨ps,h⟩:=ih [] (λr=>k (.str w::r)) h
   exact⟨_,h⟩
theorem rX:∀{l:List (Str×Tok)},fV ps (l.map (·.1))=true->VRs V ps (strValues l):=by
 induction ps with
 |nil=>intro l h;induction l using List.casesOn with
  |nil=>trivial
  |cons _ _=>exact ff h
 |cons p ps ih=>intro l h;induction p with
  |str x=>induction l using List.casesOn with
   |nil=>exact ff h
   |cons y l=>
    obtain⟨y,t⟩:=y
    change(match cC x y.cps.toList with|true=>fV ps (l.map (·.1))|false=>false)=true at h
    induction q:cC x y.cps.toList with
    |false=>rw[q]at h;exact ff h
    |true=>
     rw[q]at h
     obtain rfl:=bB q
     exact⟨.str _ t,ih h⟩
  |_=>induction l using List.casesOn<;>exact ff h
theorem rY(I:Inv Z C V J s)(h:EL ih ov as J k kx (.ssplit x)=true)(rs:VRs V as us)(q:QV Z C V k Q):
 wpAny Z.M A (PySem.call (.builtin "str.split") (.str (tx x) t::us)) Q E s:=by
 obtain⟨v,rfl,h⟩:=dF h
 obtain⟨sep,rfl,h⟩:=lY h
 obtain⟨u,rfl,r⟩:=rs.one
 exact VR.el_str r λu=>by
  obtain⟨hc,h3⟩:=aB h
  obtain⟨h1,h2⟩:=aM hc
  obtain rfl:=bB h1
  have hl:=aS h2
  obtain⟨ps,h3⟩:=uV _ _ h3
  obtain⟨hp,h⟩:=aB (b:=fV ps (Txt.split (tx x) (tx [32]))) (x:=cT J ps (kv k)) h3
  refine BS rfl (by show x.toArray.size+2≤sizeLine;rw[List.size_toArray,sizeLine_eq];exact Nat.le_trans (Nat.add_le_add_right hl 2) (by decide)) λl tk e=>?_
  rw[<-e]at hp
  have rs:=rX (V:=V) hp
  obtain⟨hl',h⟩:=aB h
  obtain⟨T',hT,h⟩:=aK h
  have g:Heap.get? (s.heap.push {cls:=.type "list",data:=.seq (strValues l).toArray}) s.heap.objs.size=some {cls:=.type "list",data:=.seq (strValues l).toArray}:=Heap.get?_push_size _ rfl
  obtain⟨le,vr,I'⟩:=I.alloc (h':=s.heap.push {cls:=.type "list",data:=.seq (strValues l).toArray}) (a:=s.heap.objs.size) (xs:=[]) (t:=none) (tk:=tk) hT (Nat.le_refl _) ⟨_,g⟩ (λp hp=>by cases hp)
   (λb x e=>Heap.get?_push_of_some _ e) ⟨aS hl',(strValues l).toArray,0,g,by exact rs.mono (I.add_le (Nat.le_refl _) (λp hp=>by cases hp))⟩ (λO h=>fo h)
  exact q _ _ _ _ _ h le I' vr
theorem xN(I:Inv Z C V J s)(ho:J.T.get i=some (.mdict es ab))(h:aIj J es ab as k=true)(rs:VRs V as us)(q:QV Z C V k Q):
 wpAny Z.M A (PySem.call (.builtin "dict.get") (.ref (V.ρ i)::us)) Q E s:=by
 obtain⟨_,t2,_,kvs,B,r,hm,_,_,hR,hat,hab⟩:=I.T i _ ho
 obtain⟨v,rfl,h⟩:=dF h
 obtain⟨n,rfl,h⟩:=lY h
 obtain⟨u,rfl,r⟩:=rs.one
 exact VR.el_str r λt=>by
  have hn:=hat n
  refine kJ (P:=λr=>r=valueAt kvs (tx n)) (rest:=[]) (I.big t2) hm.typeIs (.inl rfl) (λq'=>wpAny_dictGet_of (iM Z.w n t) hm.mapOf (q' _ _ rfl)) λr' tk hr=>?_
  subst hr
  have h:Option.rec (motive:=λO=>Bool) (Bool.rec (motive:=λO=>Bool) false (k (.val .none) J) (iB ab n)) (λv=>k (.val v) J) (aD es n)=true:=h
  induction e:aD es n with
  |some v=>
   rw[e]at h hn
   obtain⟨u,e1,vr⟩:=hn
   rw[e1]
   exact q _ _ J V _ h (Vl.Le.refl V) (I.tok tk) vr
  |none=>
   rw[e]at h hn
   obtain⟨e1,h⟩:=aB h
   rw[hn,hab n e1]
   exact q _ _ J V _ h (Vl.Le.refl V) (I.tok tk) .none
include G S in
theorem xO(I:Inv Z C V J s)(a:AOk C A n)(hh:A.handled=none)(h:EL ih ov as J k kx pm=true)(m:MR V ov pm fv first)(rs:VRs V as us)(q:QV Z C V k Q)(xx:QX Z C V kx E):
 gC Z.M s.heap fv/\wpAny Z.M A (PySem.call fv (first++us)) Q E s:=by
 have hu:A.units+8<cLine:=by have:=a.units;unfold cLine;exact bnd this rfl
 induction m with
 |fn f ou r=>exact⟨jO G I (S.cal h) (.fn f),S.call (vs:=ou::us) h I a hh (.fn f) ⟨r,rs⟩ q xx⟩
 |cf f=>exact⟨jO G I (S.cal h) (.fn f),S.call h I a hh (.fn f) rs q xx⟩
 |vinit=>exact⟨eD _,S.call h I a hh (.bi 9 _ rfl) rs q xx⟩
 |lapp i hi=>
  obtain⟨v,rfl,h⟩:=dF h
  obtain⟨xs,ho,h⟩:=c9 h
  obtain⟨u,rfl,r⟩:=rs.one
  exact⟨eD _,fJ I ho r h λJ' h' hk I' O=>q _ _ _ _ _ hk (Vl.Le.refl V) I' .none⟩
 |lidx i hi=>
  obtain⟨v,rfl,h⟩:=dF h
  obtain⟨xs,ho,h⟩:=c9 h
  obtain⟨u,rfl,r⟩:=rs.one
  obtain⟨r',h1,h⟩:=some?_eq h
  obtain⟨j,rfl,h⟩:=some?_eq h
  exact⟨eD _,xM G.ne I hu hh ho h1 r λt tk=>q _ _ _ _ _ h (Vl.Le.refl V) (I.tok tk) (.int _ t)⟩
 |dget ou r=>
  refine⟨eD _,?_⟩
  obtain⟨ob,ho,h2⟩:=some?_eq h
  induction ob with
  |dict es=>exact xK G I (Nat.lt_trans (Nat.add_lt_add_left (by decide) _) hu) hh ho h2 r rs q
  |mdict es ab=>
   induction r with
   |ref i hi=>exact xN I ho h2 rs q
   |kref b=>
    obtain⟨_,_,hk⟩:=G.kref b _ (ho:aE d5 b=_)
    exact hk.elim
   |_=>exact fo ho
  |_=>exact ff h2
 |dval i hi=>
  obtain⟨hn,h⟩:=aB h
  obtain rfl:=fC hn
  obtain rfl:=rs.nil_inv
  obtain⟨ob,ho,h⟩:=some?_eq h
  induction ob with
  |dict es=>exact⟨eD _,xL I hh ho h q⟩
  |_=>exact ff h
 |ssplit x t=>exact⟨eD _,rY I h rs q⟩
 |sdig x t=>
  obtain⟨hn,h⟩:=aB h
  obtain rfl:=fC hn
  obtain rfl:=rs.nil_inv
  obtain⟨c,rfl,h⟩:=dF h
  obtain⟨hc,h⟩:=aB h
  have hc:c<128:=Nat.lt_of_succ_le (Nat.le_of_ble_eq_true (a8 hc c (.head _)))
  exact⟨eD _,SC.isdigit (by rw[BQ hc];exact q _ _ _ _ _ h (Vl.Le.refl V) I (.bool _))⟩
 |saln x t=>
  obtain⟨hn,h⟩:=aB h
  obtain rfl:=fC hn
  obtain rfl:=rs.nil_inv
  obtain⟨c,rfl,h⟩:=dF h
  obtain⟨hc,h⟩:=aB h
  have hc:c<128:=Nat.lt_of_succ_le (Nat.le_of_ble_eq_true (a8 hc c (.head _)))
  exact⟨eD _,SC.isalnum (by rw[BR hc];exact q _ _ _ _ _ h (Vl.Le.refl V) I (.bool _))⟩
include G S in
theorem F7(I:Inv Z C V J s)(a:AOk C A n)(en:EnvOk C V c env)(hh:A.handled=none)(hs:bG noStar as=true)(hp:apos.endLine=pos.line)(hn:as.length<20)(h:yZ ih o x as c J k kx=true)(q:QV Z C V k Q)(xx:QX Z C V kx E):
 wpAny Z.M A (eval (.Call (.Attribute o x apos) as [] pos) env) Q E s:=by
 rw[arm_eval_Call]
 refine wpAny_bind (dH en.sup (S.ev h I a en (.inl hh) (λov ou J' V' s' h' le I' r=>?_) xx))
 obtain⟨pm,hpm,h'⟩:=some?_eq (onVal_case h')
 refine wpAny_bind (wpAny_standAt ?_)
 have hform:methodCallForm (as.length+([]:List Keyword).length) (backTo pos (starEach as env)) (backToKw pos (keywordEach [] env))=true:=by
  unfold methodCallForm
  have e1:(backTo pos (starEach as env)).all (λx=> !x.1)=true:=by
   have:=pZ (pos:=pos) (env:=env) hs
   rw[List.all_eq_true]
   intro y hy
   rw[List.any_eq_false]at this
   simpa using this y hy
  have e2:backToKw pos (keywordEach [] env)=[]:=rfl
  rw[e1,e2]
  simp only[List.all_nil,Bool.and_true,Bool.true_and,List.length_nil,List.isEmpty_nil,if_true,decide_eq_true_eq]
  exact Nat.lt_trans hn (by decide)
 unfold methodCall
 rw[hform]
 refine wpAny_bind (wpAny_holding ?_)
 unfold calleeOf
 rw[if_pos rfl]
 have:=BP G (A:=A) (E:=E) (pl:=do return (<-importBound o env).getD true) (Q:=λfx s₁=>wpAny Z.M A (do
  let callPos<-methodCallPos true o env apos pos
  callWith callPos fx.1 fx.2 (backTo pos (starEach as env)) (backToKw pos (keywordEach [] env))) Q E s₁) I' hpm r λfv first tk m=>?_
 ·rw[aJ]at this
  exact this
 ·unfold methodCallPos
  rw[if_pos (by rw[hp];simp)]
  refine wpAny_bind (wpAny_pure ?_)
  refine gE S a (en.mono le) hh hs h' (I'.tok tk) (λvs us J'' V'' s'' hk le' I'' rs O=>?_) (xx.mono le)
  exact xO G S I'' a hh hk (m.mono le') rs (q.mono (le.trans le')) (xx.mono (le.trans le'))
include G S in
theorem F8(I:Inv Z C V J s)(a:AOk C A n)(en:EnvOk C V c env)(hh:A.handled=none)(hs:bG noStar as=true)(h:y5 ih f as c J k kx=true)(q:QV Z C V k Q)(xx:QX Z C V kx E)(he:eval (.Call f as [] pos) env=(do callWith pos (<-eval f env) [] (backTo pos (starEach as env)) (backToKw pos (keywordEach [] env)))):
 wpAny Z.M A (eval (.Call f as [] pos) env) Q E s:=by
 rw[he]
 refine wpAny_bind (S.ev h I a en (.inl hh) (λfv fu J' V' s' h' le I' r=>?_) xx)
 refine gE S a (en.mono le) hh hs (onVal_case h') I' (λvs us J'' V'' s'' hk le' I'' rs O=>⟨jO G I'' (S.cal hk) (r.mono le'),S.call hk I'' a hh (r.mono le') rs (q.mono (le.trans le')) (xx.mono (le.trans le'))⟩) (xx.mono le)
include G S in
theorem QB(I:Inv Z C V J s)(a:AOk C A n)(en:EnvOk C V c env)(hh:A.handled=none)(h:EN ih f as kws pos c J k kx=true)(q:QV Z C V k Q)(xx:QX Z C V kx E):
 wpAny Z.M A (eval (.Call f as kws pos) env) Q E s:=by
 induction kws using List.casesOn with
 |cons _ _=>exact ff h
 |nil=>
  obtain⟨hs,h⟩:=aB h
  induction f using PySem.Expr.casesOn with
  |Attribute o x apos=>
   obtain⟨hc,h⟩:=aB h
   exact F7 G S I a en hh hs (Nat.eq_of_beq_eq_true (aM hc).1) (by rw[<-aT];exact Nat.lt_of_succ_le (Nat.le_of_ble_eq_true (aM hc).2)) h q xx
  |_=>exact F8 G S I a en hh hs h q xx rfl
end
end
section
set_option backward.match.sparseCases false
section
variable{M:Model}{A:Around}{E:Value->Shared->Prop}{h:Heap}{g:Array GenState}{d:Drawn}{t:Nat}{os:OsState}{env:Env}
variable{nm q:Str}{C N:Addr}{bs bm:List Value}{hdct:Bool}{sn:List Str}{sub:List Value}{ab:Bool}{col:Option Bool}{dd dx:Option Addr}{k0 k1 k2 k3 k5:Option Value}{newId:String}{vs:Array Value}
theorem xP(hh:A.handled=none)(hC:h.get? C=some (excClassObj nm q C N bs bm hdct sn sub ab col dd k0 k1 k2 k3 k5 newId))(hcB:(Value.ref C::bm).contains (.type "BaseException")=true)(he:h.get? e=some ⟨.ref C,dx,.fields vs,#[]⟩)(hq:vs[1]?=some .none/\E (.ref e) ⟨h,g,d,t,os⟩∨∃T oT ts,vs[1]?=some (.ref T)/\h.get? T=some oT/\oT.data= .fields ts/\3<ts.size/\E (.ref e) ⟨h.update T (Obj.mapFields (·.setIfInBounds 3 .none)),g,d,t,os⟩)(hx:wpAny M A x (λv s'=>v= .ref e/\s'=⟨h,g,d,t,os⟩) E s):wpAny M A (raiseStmt env (some x) none) Q E s:=by
 unfold raiseStmt
 refine wpAny_bind (wpAny_mono hx (λv s₁ h₁=>?_) λO O x=>x)
 obtain⟨rfl,rfl⟩:=h₁
 unfold excFromValue isExcClass raisedInstance
 repeat (first|with_reducible refine wpAny_loadPart_at he ?_|with_reducible refine wpAny_loadPart_at hC ?_|(with_reducible refine wpAny_isSubtype_exc hC ?_;rw[hcB])|wp_step)
 rcases hq with⟨h1,hq⟩|⟨T,oT,ts,h1,h2,h3,h4,hq⟩
 ·rw[h1]
  refine wpAny_pure ?_
  rw[if_neg (by decide)]
  exact wpAny_pure (wpAny_raiseNew_none hh hq)
 ·rw[h1]
  refine wpAny_pure ?_
  rw[if_pos (show(Value.ref T !=Value.none)=true from by simp)]
  exact wpAny_setField h2 h3 h4 (wpAny_raiseNew_none hh hq)
end
section
variable{Z:Gd}(G:aU Z){n:Nat}{ih:Ih}(S:gS Z n ih){C:Cf}{V:Vl}{J:St}{s:Shared}{A:Around}{env:Env}{c:Cx}{kx:KX}{E:Value->Shared->Prop}
include G S in
set_option tactic.hygienic true in
theorem F9(I:Inv Z C V J s)(a:AOk C A n)(en:EnvOk C V c env)(hh:A.handled=none)(h:y9 ih e c J kx=true)(xx:QX Z C V kx E):wpAny Z.M A (exec (.Raise e none p) env) Q E s:=by
 induction e with
 |none=>exact ff h
 |some e=>
  rw[arm_exec_Raise]
  refine wpAny_bind (wpAny_standAt ?_)
  show wpAny Z.M A (raiseStmt env (some (do let v<-eval e env;standAt p;pure v)) none) Q E s
  unfold raiseStmt
  refine wpAny_bind (wpAny_bind (S.ev h I a en (.inl hh) (λv u J' V' s' h' le I' r=>wpAny_bind (wpAny_standAt (wpAny_pure ?_))) xx))
  have h':=onVal_case h'
  induction r with
  |ref i hi=>
   change(match(generalizing:=false) J'.T.get i with|some (.exc ..)=>kx (.ref i) J'|_=>false)=true at h'
   split at h'
   ·rename_i K es ho
    refine hold λG_ fin_=>?_
    obtain⟨t1,t2,⟨hl,p',hp,hx⟩,d,vs,e1,e2,e5,e6⟩:=I'.T i _ ho
    have X:=I'.K G.kin
    have F:=G.mkf K p' hp
    obtain⟨nm',q',N,bs,bm,hdct,sn,sub,col,dd,k0,k1,k2,k3,k5,c1,c2,c3,c4,c5⟩:=F.exc λp'' hp'=>by rw[hp]at hp';obtain rfl:=Option.some.inj hp';exact hx
    refine fin_ ?_
    have:=xP (M:=Z.M) (A:=A) (E:=E) (Q:=Q) (env:=env) (h:=s'.heap) (g:=s'.gens) (d:=s'.drawn) (t:=s'.toks) (os:=s'.os) hh (X _ _ c1) c5 e1 (x:=pure (.ref (V'.ρ i))) (s:=s') ?_ (wpAny_pure ⟨rfl,rfl⟩)
    ·exact this
    ·rcases e6 with e6|⟨T,oT,ts,f1,f2,f3,f4,f5⟩
     ·exact .inl ⟨e6,xx _ _ _ _ _ h' le I' (.ref i hi) ⟨i,K,es,rfl,ho⟩⟩
     ·exact .inr ⟨T,oT,ts,f1,f3,f4,f5,xx _ _ _ _ _ h' le (wW I' ho f2 f3 f4 f5 .none).1 (.ref i hi) ⟨i,K,es,rfl,ho⟩⟩
   ·exact ff h'
  |_=>exact ff h'
end
end
section
theorem HasTb.mono(le:V.Le V')(hi:i<V.n)(hk:∀b x,h.get? b=some x->h'.get? b=some x)(x:HasTb V h i):HasTb V' h' i:=by
 obtain⟨K,d,vs,T,g1,g2⟩:=x
 exact⟨K,d,vs,T,by rw[le.ρ i hi];exact hk _ _ g1,g2⟩
theorem AOk.mark(h:AOk C A n)(x:Option Value):AOk C (A.mark x) n:=⟨h.depth,h.units,h.frames,h.fr⟩
theorem xQ(n:Nm):∀(l:List (Nm×SV)) (x:Nm),aD (mS n l) x=if x=n then none else aD l x:=by
 intro l
 induction l with
 |nil=>
  intro x
  show none=_
  by_cases h:x=n
  ·rw[if_pos h]
  ·rw[if_neg h];rfl
 |cons p l rec_=>
  intro x
  have ih:=rec_ x
  unfold mS
  induction hq:cC p.1 n with
  |true=>
   have hp:=bB hq
   show aD (mS n l) x=_
   rw[ih,aH]
   by_cases h:x=n
   ·rw[if_pos h,if_pos h]
   ·rw[if_neg h,if_neg h,if_neg (λe=>h (e.symm.trans hp))]
  |false=>
   have hp:¬p.1=n:=λe=>by rw[cV,decide_eq_true e]at hq;cases hq
   show aD (p::mS n l) x=_
   rw[aH,ih,aH]
   by_cases h:p.1=x
   ·rw[if_pos h,if_pos h,if_neg (λe=>hp (h.trans e))]
   ·rw[if_neg h,if_neg h]
theorem AR.del(h:AR V es m)(n:Nm):AR V (mS n es) λx=>if x=tx n then none else m x:=λx=>by
 rw[xQ]
 by_cases q:x=n
 ·rw[if_pos q];show(if tx x=tx n then none else m (tx x))=none;rw[if_pos (by rw[q])]
 ·rw[if_neg q]
  have ne:¬tx x=tx n:=λe=>q (fD e)
  have:=h x
  induction z:aD es x with
  |none=>rw[z]at this;show(if tx x=tx n then none else m (tx x))=none;rw[if_neg ne];exact this
  |some v=>rw[z]at this;obtain⟨u',a,b⟩:=this;exact⟨u',(if_neg ne).trans a,b⟩
section
variable{Z:Gd}{C:Cf}{V:Vl}{J:St}{s:Shared}{A:Around}{env:Env}{c:Cx}{E:Value->Shared->Prop}
theorem qA(I:Inv Z C V J s)(en:EnvOk C V c env)(hx:env.kindOf x=some .local)(q:∀h',Inv Z C V ⟨J.T,J.n,mS (aA x) J.L,J.sy⟩ {s with heap:=h',toks:=s.toks+1}->Q () {s with heap:=h',toks:=s.toks+1}):
 wpAny Z.M A (do bindName env x .none;unbindBehindTheSuite env x pos) Q E s:=by
 obtain⟨m,hm,ha⟩:=I.L.2
 have hp:(env.scope.kind== .class||(env.scope.kind== .module&&env.locals !=env.globals))=false:=by rw[en.kind];rfl
 refine wpAny_bind (wpAny_bindName (gR hx (en.loc▸hm) (λh₁ hn₁ hs₁=>?_) hp))
 unfold unbindBehindTheSuite
 refine wpAny_onRaise ?_
 unfold unbindName
 refine wpAny_bind (wpAny_point (wpAny_bind ?_))
 unfold deleteName
 simp only[hx,hp]
 rw[if_neg (by decide)]
 refine wpAny_bind (wpAny_nsDel1 hn₁ λh₂ hn₂ hs₂=>?_)
 simp only[if_true,Option.isSome_some,Bool.not_true,Bool.false_eq_true,if_false]
 refine wpAny_pure (wpAny_point (q h₂ (I.local (t:=s.toks+1) (en.loc▸(hs₁.trans hs₂)) (en.loc▸hn₂) ?_)))
 intro y
 have hd:=ha.del (aA x) y
 rw[aJ]at hd
 induction z:aD (mS (aA x) J.L) y with
 |none=>
  rw[z]at hd
  by_cases e:tx y=x
  ·exact if_pos e
  ·have hd:(if tx y=x then none else m (tx y))=none:=hd
   rw[if_neg e]at hd
   show(if tx y=x then none else if tx y=x then some Value.none else m (tx y))=none
   rw[if_neg e,if_neg e];exact hd
 |some v=>
  rw[z]at hd
  obtain⟨u,hu,vr⟩:=hd
  have hu:(if tx y=x then none else m (tx y))=some u:=hu
  by_cases e:tx y=x
  ·rw[if_pos e]at hu;exact fo hu
  ·rw[if_neg e]at hu
   refine⟨u,?_,vr⟩
   show(if tx y=x then none else if tx y=x then some Value.none else m (tx y))=some u
   rw[if_neg e,if_neg e];exact hu
end
end
section
section
variable{Z:Gd}(G:aU Z){n:Nat}{ih:Ih}(S:gS Z n ih){C:Cf}{V:Vl}{J:St}{s:Shared}{A:Around}{env:Env}{c:Cx}{k:KK}{kx:KX}{E:Value->Shared->Prop}
theorem nV{h:List Stmt}(x:dS h=true):∃b l,h=b::l:=by
 induction h with
 |nil=>exact ff x
 |cons b l=>exact⟨b,l,rfl⟩
theorem GA{x:Nm}(h:y8 c x=true):aF c.names x=some .local:=by
 unfold y8 at h
 generalize aF c.names x=o at h
 induction o with
 |none=>exact ff h
 |some k=>induction k with
  | «local»=>rfl
  |_=>exact ff h
theorem xR{i:Nat}{tv:SV}{b:Bool}(h:D9 J (.ref i) tv=some b):∃D es Cc pc,J.T.get i=some (.exc D es)/\tv= .cls Cc/\aE aO Cc=some pc/\aP pc.1 39=true/\b=aP (mroOf D) Cc:=by
 have h:Option.rec (motive:=λO=>Option Bool) none (SQ tv) (J.T.get i)=some b:=h
 induction ho:J.T.get i with
 |none=>rw[ho]at h;exact fo h
 |some ob=>
  rw[ho]at h
  induction ob with
  |exc D es=>
   induction tv with
   |cls Cc=>
    have h:Option.rec (motive:=λO=>Option Bool) none (λq=>fA (aP q.1 39) (some (aP (mroOf D) Cc)) none) (aE aO Cc)=some b:=h
    induction hq:aE aO Cc with
    |none=>rw[hq]at h;exact fo h
    |some q=>
     rw[hq]at h
     obtain⟨h1,h2⟩:=bL h
     exact⟨D,es,Cc,q,rfl,rfl,hq,h1,(Option.some.inj h2).symm⟩
   |_=>exact fo h
  |_=>exact fo h
theorem xS{body:List Stmt}{hs:List ExceptHandler}(h:ER ih body hs c J k kx=true):∃t nm hd pos,hs=[.ExceptHandler (some t) nm hd pos]/\d6 4 t=true/\dS hd=true/\
 ih (.exs body c) J k (λx J=>ih (.ev t c) J (aL λtv J=>some? (D9 J x tv) λb=>fA b (wH ih nm hd c k x J) (kx x J)) (λO O=>false))=true:=by
 induction hs using List.casesOn with
 |nil=>exact ff h
 |cons x l=>
  obtain⟨t,nm,hd,pos⟩:=x
  induction t with
  |none=>induction l using List.casesOn<;>exact ff h
  |some t=>induction l using List.casesOn with
   |nil=>obtain⟨h1,h2⟩:=aB h;exact⟨t,nm,hd,pos,rfl,(aM h1).1,(aM h1).2,h2⟩
   |cons _ _=>exact ff h
include S in
theorem xT(I:Inv Z C V J s)(a:AOk C A n)(en:EnvOk C V c env){i:Nat}(hi:i<V.n){K:Nat}{es:List (Nm×SV)}(ho:J.T.get i=some (.exc K es)){nm:Option Str}{h:List Stmt}{pos:Pos}{rest:List ExceptHandler}{Q:Flow->Shared->Prop}(hs:dS h=true)(hh:wH ih nm h c k (.ref i) J=true)(q:QF Z C V k Q):
 codeAny Z.M (A.mark (some (.ref (V.ρ i)))) (.handlers (.ref (V.ρ i)) [.ExceptHandler none nm h pos] env) (λr s₂=>match(generalizing:=false) r with
  |.ok f=>(match(generalizing:=false) nm with
   |none=>Q f s₂
   |some n=>wpAny Z.M A (do bindName env n .none;unbindBehindTheSuite env n pos) (λO s₃=>Q f s₃) E s₂)
  |.error x=>cameBackBy Z.M A env E x s₂) s:=by
 obtain⟨b₀,l,rfl⟩:=nV hs
 induction nm with
 |none=>
  have hh:ih (.exs (b₀::l) c) J k (λO O=>false)=true:=hh
  refine codeAny_handlers_suite (bE I ho λh' I' O=>?_)
  refine S.exs hh I' (a.mark _) en (.inr hs) ⟨λJ' V' s' h' le I=>q.next J' V' s' h' le I,λv u J' V' s' h' le I r=>q.ret v u J' V' s' h' le I r⟩ λx u J' V' s' h' O O O O=>by exact ff h'
 |some x=>
  obtain⟨hx,hh⟩:=aB (h:=(hh:Bool.rec (motive:=λO=>Bool) false (dP c (aA x) (.ref i) J λJ=>ih (.exs (b₀::l) c) J (λr J=>k r ⟨J.T,J.n,mS (aA x) J.L,J.sy⟩) (λO O=>false)) (y8 c (aA x))=true))
  have hx:=GA hx
  have hko:env.kindOf x=some .local:=by
   have kr:KindRel (aF c.names (aA x)) (env.kindOf x):=en.kinds (aA x)
   rw[hx]at kr
   generalize hz:env.kindOf x=z at kr
   cases kr;rfl
  refine codeAny_handlers_suite_as (bE I ho λh' I' O=>?_)
  have:=fG (A:=A.mark (some (.ref (V.ρ i)))) (E:=notedBy Z.M (A.mark (some (.ref (V.ρ i)))) env (cameBackBy Z.M A env E)) (Q:=λO s₂=>wpAny Z.M (A.mark (some (.ref (V.ρ i)))) (execs (b₀::l) env) (λf s₃=>wpAny Z.M A (do bindName env x .none;unbindBehindTheSuite env x pos) (λO s₃=>Q f s₃) E s₃)
   (λy s₃=>wpAny Z.M (A.mark (some (.ref (V.ρ i)))) (noteFrame y env) (λO s₃'=>wpAny Z.M (A.mark (some (.ref (V.ρ i)))) (do bindName env x .none;unbindBehindTheSuite env x pos)
         (λO s₄=>wpAny Z.M (A.mark (some (.ref (V.ρ i)))) (passOn "try.except-as" y env:Sem Flow) (λO O=>False) (notedBy Z.M (A.mark (some (.ref (V.ρ i)))) env (cameBackBy Z.M A env E)) s₄)
         (λz s₄=>wpAny Z.M (A.mark (some (.ref (V.ρ i)))) (setFlight y none) (λO s₅=>(notedBy Z.M (A.mark (some (.ref (V.ρ i)))) env (cameBackBy Z.M A env E)) z s₅) (notedBy Z.M (A.mark (some (.ref (V.ρ i)))) env (cameBackBy Z.M A env E)) s₄) s₃') (notedBy Z.M (A.mark (some (.ref (V.ρ i)))) env (cameBackBy Z.M A env E)) s₃) s₂) I' en (.ref i hi) hh λJ2 s2 hk I2=>?_
  ·rw[aJ]at this
   exact this
  ·refine S.exs hk I2 (a.mark _) en (.inr hs) ⟨λJ' V' s' h' le I=>?_,λv u J' V' s' h' le I r=>?_⟩ λx u J' V' s' h' O O O O=>by exact ff h'
   ·exact qA I (en.mono le) hko λh'' I''=>q.next _ _ _ h' le I''
   ·exact qA I (en.mono le) hko λh'' I''=>q.ret _ _ _ _ _ h' le I'' r
include G S in
theorem Z7(I:Inv Z C V J s)(a:AOk C A n)(en:EnvOk C V c env)(hh:A.handled=none){body:List Stmt}{hs:List ExceptHandler}{p:Pos}{Q:Flow->Shared->Prop}(h:ER ih body hs c J k kx=true)(q:QF Z C V k Q)(xx:QX Z C V kx E):wpAny Z.M A (exec (.Try body hs [] [] p) env) Q E s:=by
 obtain⟨t,nm,hd,pos,rfl,hp,hg,h⟩:=xS h
 · ·skip
    refine wpAny_Try_except (S.exs h I a en (.inl hh) ⟨λJ' V' s' h' le I'=>wpAny_pure (q.next _ _ _ h' le I'),λv u J' V' s' h' le I' r=>q.ret _ _ _ _ _ h' le I' r⟩ λx u J' V' s' h' le I' r hx=>?_)
    refine hold λG_ fin_=>?_
    obtain⟨i,K,es,rfl,ho⟩:=hx
    refine fin_ ?_
    exact VR.el_ref r λhi=>by
     refine cB I' a (en.mono le) ho λV2 h2 le2 I2 hb2=>?_
     rw[<-le2.ρ i hi]
     refine bE I2 ho λh3 I3 hb3=>?_
     have hb3:=hb3 hb2
     have hi2:=Nat.lt_of_lt_of_le hi le2.n
     have le02:=le.trans le2
     refine wpAny_handleBy_cons (codeAny_handlers_test (S.pur hp h' I3 (a.mark _) (en.mono le02) λtv tu J4 V4 s4 h4 le4 I4 r4 hk4=>?_)) (by intro z;cases z)
     have hb4:=hb3.mono le4 hi2 hk4
     obtain⟨b,hb,h4⟩:=some?_eq (onVal_case h4)
     have hi4:=Nat.lt_of_lt_of_le hi2 le4.n
     rw[<-le4.ρ i hi2]
     refine hold λG_ fin_=>?_
     obtain⟨K4,es4,Cc,pc,ho4,rfl,hpc,hxc,hbb⟩:=xR hb
     obtain⟨_,_,⟨_,p4,hp4,hx4⟩,d4,vs4,e41,_⟩:=I4.T i _ ho4
     refine fin_ ?_
     have X:=I4.K G.kin
     have LT:Looks Z.M s4.heap (typeOf (.ref (V4.ρ i))) (.ref K4):=(Looks.ld e41).andThen .now
     have hm:b=aP p4.1 Cc:=by rw[hbb];unfold Mine.mroOf;rw[hp4]
     have LE:=exm_one X LT (G.xm K4 p4 Cc pc hp4 hx4 hpc hxc)
     rw[<-hm]at LE
     cases r4 with
     |cls=>
      refine LE.here ?_
      induction b with
      |true=>exact xT (E:=E) (rest:=[]) S I4 a (en.mono (le02.trans le4)) hi4 ho4 hg h4 (q.mono (le02.trans le4))
      |false=>
       show wpAny Z.M A (handleBy (.ref (V4.ρ i)) env []) Q E s4
       exact wpAny_handleBy_nil (jJ I4 h4 (.ref i hi4) ⟨i,K4,es4,rfl,ho4⟩ (xx.mono (le02.trans le4)) λj z=>by cases z;exact hb4)
end
end
section
section
variable{Z:Gd}(G:aU Z){n:Nat}{ih:Ih}(S:gS Z n ih){C:Cf}{V:Vl}{J:St}{s:Shared}{A:Around}{env:Env}{c:Cx}{k:KK}{kx:KX}{E:Value->Shared->Prop}
abbrev GB(s s':Shared):Prop:=∀b x,s.heap.get? b=some x->s'.heap.get? b=some x
abbrev QP(Z:Gd)(C:Cf)(V:Vl)(k:KK)(s:Shared)(Q:Value->Shared->Prop):Prop:=
 ∀v u J' V' s',k (.val v) J'=true->V.Le V'->Inv Z C V' J' s'->VR V' v u->GB s s'->Q u s'
theorem BU(I:Inv Z C V J s)(h:qY a J k=true)(q:QP Z C V k s Q):wpAny Z.M A (eval (.Constant a x p) env) Q E s:=by
 induction a with
 |none=>exact wpAny_Constant_none (q _ _ _ _ _ h (Vl.Le.refl V) I .none λO O e=>e)
 |bool b=>exact wpAny_Constant_bool (q _ _ _ _ _ h (Vl.Le.refl V) I (.bool b) λO O e=>e)
 |int i=>exact wpAny_Constant_int (q _ _ _ _ _ h (Vl.Le.refl V) (I.tok _) (.int i _) λO O e=>e)
 |str t=>
  refine wpAny_Constant_str ?_
  have:=q (.str (aA t)) (.str (tx (aA t)) s.toks) J V _ h (Vl.Le.refl V) (I.tok (s.toks+1)) (.str _ _) λO O e=>e
  rwa [aJ]at this
 |_=>exact ff h
include G in
theorem GC(I:Inv Z C V J s)(en:EnvOk C V c env)(h:eN c (aA x) J (kv k)=true)(q:QP Z C V k s Q):wpAny Z.M A (eval (.Name x p) env) Q E s:=by
 have:=eA (A:=A) (E:=E) (Q:=Q) G.glob I en h λv u h r=>q v u J V s h (Vl.Le.refl V) I r λO O e=>e
 rw[aJ]at this
 refine wpAny_Name this ?_
 refine beq_eq_false_iff_ne.mpr λe=>?_
 obtain⟨names,cells⟩:=c
 obtain⟨kd,hkd,_⟩:=some?_eq (h:some? (aF names (aA x)) (s9 cells (aA x) J (kv k))=true)
 have kr:KindRel (aF names (aA x)) (env.kindOf x):=en.kinds (aA x)
 rw[hkd,show env.kindOf x=none by rw[e];exact en.dbg]at kr
 cases kr
include S in
theorem QC(a:AOk C A n):∀(es:List Expr) {J:St} {V:Vl} {s:Shared} {kl:List SV->St->Bool} {Q:List Value->Shared->Prop},bG (d6 m) es=true->CS ih c kx es J kl=true->Inv Z C V J s->EnvOk C V c env->
 (∀vs us J' V' s',kl vs J'=true->V.Le V'->Inv Z C V' J' s'->VRs V' vs us->GB s s'->Q us s')->wpAny Z.M A (spliced (backTo pos (starEach es env))) Q E s:=by
 intro es
 induction es with
 |nil=>
  intro J V s kl Q hp h I en q
  exact wpAny_items_nil (q [] [] J V s h (Vl.Le.refl V) I trivial λO O e=>e)
 |cons e es rec_=>
  intro J V s kl Q hp h I en q
  change ih (.ev e c) J (aL λv J=>CS ih c kx es J λvs J=>kl (v::vs) J) kx=true at h
  obtain⟨p1,p2⟩:=aB (b:=d6 m e) (x:=bG (d6 m) es) hp
  have he:starEach (e::es) env=(false,eval e env)::starEach es env:=by
   induction e using PySem.Expr.casesOn with
   |Starred e p=>rw[S.star]at h;exact ff h
   |_=>rfl
  refine wpAny_items_cons (S.pur p1 h I a en (λv u J' V' s' h' le I' r hk=>?_)) he
  refine rec_ p2 (onVal_case h') I' (en.mono le) (λvs us J'' V'' s'' h'' le' I'' r' hk'=>?_)
  exact q (v::vs) (u::us) J'' V'' s'' h'' (le.trans le') I'' ⟨r.mono le',r'⟩ λb x e=>hk' b x (hk b x e)
theorem rZ{xs:List SV}{us:List Value}{kv:KV}{Q:Value->Shared->Prop}(h:qP J xs kv=true)(I:Inv Z C V J s)(r:VRs V xs us)
 (q:∀v u J' V' s',kv v J'=true->V.Le V'->Inv Z C V' J' s'->VR V' v u->GB s s'->Q u s'):wpAny Z.M A (newTuple us) Q E s:=by
 obtain⟨hl,h⟩:=aB h
 obtain⟨T',hT,h⟩:=aK h
 have hlen:=aS hl
 unfold newTuple
 refine wpAny_newObj_type ?_ (by show us.toArray.size≤sizeLine;rw[List.size_toArray,<-r.length];exact Nat.le_trans hlen (by decide))
 have g:Heap.get? (s.heap.push {cls:=.type "tuple",data:=.seq us.toArray}) s.heap.objs.size=some {cls:=.type "tuple",data:=.seq us.toArray}:=Heap.get?_push_size _ rfl
 obtain⟨le,vr,I'⟩:=I.alloc (h':=s.heap.push {cls:=.type "tuple",data:=.seq us.toArray}) (a:=s.heap.objs.size) (xs:=[]) (t:=jC us) (tk:=s.toks) hT (Nat.le_refl _) ⟨_,g⟩ (λp hp=>by cases hp)
  (λb x e=>Heap.get?_push_of_some _ e) ⟨hlen,us.toArray,0,g,by exact r.mono (I.add_le (Nat.le_refl _) (λp hp=>by cases hp))⟩
  λks e=>⟨us.toArray,0,g,by simpa using kY e⟩
 exact q _ _ _ _ _ h le I' vr λb x e=>Heap.get?_push_of_some _ e
include G S in
theorem GD(a:AOk C A n):∀{m:Nat} {e:Expr},d6 m e=true->evE ih e c J k kx=true->Inv Z C V J s->EnvOk C V c env->∀{Q:Value->Shared->Prop},QP Z C V k s Q->wpAny Z.M A (eval e env) Q E s:=by
 intro m
 induction m with
 |zero=>
  intro e hp O O O O O
  exact ff hp
 |succ m rec_=>
  intro e hp h I en Q q
  induction e using PySem.Expr.casesOn with
  |Constant a _ _=>exact BU I h q
  |Name x _=>exact GC G I en h q
  |Tuple es _ _=>
   have hp:bG (d6 m) es=true:=hp
   rw[arm_eval_Tuple]
   refine wpAny_bind (wpAny_standAt (wpAny_bind (QC S a es hp (h:CS ih c kx es J (y6 k)=true) I en (λvs us J' V' s' h' le I' r hk=>?_))))
   exact rZ h' I' r λv u J'' V'' s'' h'' le' I'' r' hk'=>q _ _ _ _ _ h'' (le.trans le') I'' r' λb x e=>hk' b x (hk b x e)
  |Subscript o sl _=>
   induction sl using PySem.Expr.casesOn with
   |Constant y j p'=>
    have hp:d6 m o=true:=hp
    refine PyProof.Rows.Subscript_ ?_
    have h:mQ ih o (.Constant y j p') c J (λov iv J=>sub J ov iv k) kx=true:=h
    refine S.pur hp h I a en (λov ou J1 V1 s1 h1 le1 I1 r1 hk1=>?_)
    refine S.pur (m:=1) (e:=.Constant y j p') rfl (onVal_case h1) I1 a (en.mono le1) (λiv iu J2 V2 s2 h2 le2 I2 r2 hk2=>?_)
    exact pQ G.kref I2 (by have:=a.units;unfold cLine;exact bnd this rfl) (onVal_case h2) (r1.mono le2) r2 rfl λv u t hk r=>q v u J2 V2 _ hk (le1.trans le2) (I2.tok t) r λb x e=>hk2 b x (hk1 b x e)
   |_=>exact ff hp
  |_=>exact ff hp
end
end
section
set_option backward.match.sparseCases false
theorem BV(h:aV (.Attribute o x p)):aV o:=by
 obtain⟨m,h⟩:=h
 induction m using Nat.casesOn with
 |zero=>exact ff h
 |succ m=>exact⟨m,h⟩
theorem GE(h:aV (.Tuple es j p)):∀e,e∈es->aV e:=by
 obtain⟨m,h⟩:=h
 induction m using Nat.casesOn with
 |zero=>exact ff h
 |succ m=>exact λe he=>⟨m,a8 (h:bG (cX m) es=true) e he⟩
theorem qB(h:aV (.BoolOp op es p)):∀e,e∈es->aV e:=by
 obtain⟨m,h⟩:=h
 induction m using Nat.casesOn with
 |zero=>exact ff h
 |succ m=>exact λe he=>⟨m,a8 (h:bG (cX m) es=true) e he⟩
theorem uW(h:aV (.Compare l ops rs p)):aV l/\∀e,e∈rs->aV e:=by
 obtain⟨m,h⟩:=h
 induction m using Nat.casesOn with
 |zero=>exact ff h
 |succ m=>
  obtain⟨e1,h⟩:=aM (a:=cX m l) (b:=bG (cX m) rs) h
  exact⟨⟨m,e1⟩,λe he=>⟨m,a8 h e he⟩⟩
theorem GF(h:aV (.BinOp l op r p)):aV l/\aV r:=by
 obtain⟨m,h⟩:=h
 induction m using Nat.casesOn with
 |zero=>exact ff h
 |succ m=>
  obtain⟨e1,h⟩:=aM (a:=cX m l) (b:=cX m r) h
  exact⟨⟨m,e1⟩,⟨m,h⟩⟩
theorem cN{A:Around}{e:Expr}(hh:A.handled=none∨aV e)(h:∀m,cX m e=false):A.handled=none:=hh.elim id λ⟨m,x⟩=>by rw[h m]at x;exact ff x
section
variable{Z:Gd}(G:aU Z){n:Nat}{ih:Ih}(S:gS Z n ih){C:Cf}{V:Vl}{J:St}{s:Shared}{A:Around}{env:Env}{c:Cx}{k:KK}{kx:KX}{E:Value->Shared->Prop}
include G S in
theorem zK{e:Expr}(h:evE ih e c J k kx=true)(I:Inv Z C V J s)(a:AOk C A n)(en:EnvOk C V c env)(hh:A.handled=none∨aV e){Q:Value->Shared->Prop}(q:QV Z C V k Q)(xx:QX Z C V kx E):wpAny Z.M A (eval e env) Q E s:=by
 induction e using PySem.Expr.casesOn with
 |Constant x _ _=>exact FB I h q
 |Name x _=>exact PR G I en h q
 |Attribute o x p=>exact PS G S I a en (hh.imp id BV) h q xx
 |Call f as kws p=>exact QB G S I a en (cN hh λm=>by induction m<;>rfl) h q xx
 |BoolOp op vs p=>exact oQ S a vs h I en (hh.imp id qB) q xx
 |UnaryOp op x p=>
  have hh':=cN hh λm=>by induction m<;>rfl
  induction op with
  |Not=>exact ZS S I a en (.inl hh') h q xx
  |USub=>exact ZU S I a en (.inl hh') h q xx
  |_=>exact ff h
 |IfExp t x y p=>exact aJm S I a en (cN hh λm=>by induction m<;>rfl) h q xx
 |Compare l ops rs p=>exact ZV G S I a en (hh.imp id uW) h q xx
 |BinOp l op r p=>exact ZX S I a en (hh.imp id GF) h q xx
 |List es p=>exact PU S I a en (.inl (cN hh λm=>by induction m<;>rfl)) h q xx
 |Tuple es j p=>exact FC S I a en (hh.imp id GE) h q xx
 |Dict ks vs p=>exact P4 S I a en (cN hh λm=>by induction m<;>rfl) h q xx
 |Lambda ps b sc p=>exact Z4 G I en h q
 |Subscript o sl p=>exact Z6 G S I a en (cN hh λm=>by induction m<;>rfl) h q xx
 |ListComp e gs sc p=>exact P3 G S I a en (cN hh λm=>by induction m<;>rfl) h q xx
 |_=>exact ff h
include G S in
theorem QD{e:Expr}(h:evE ih e c J k kx=true)(I:Inv Z C V J s)(a:AOk C A n)(en:EnvOk C V c env)(hh:A.handled=none∨aV e){Q:Bool->Shared->Prop}(q:QT Z C V k Q)(xx:QX Z C V kx E):wpAny Z.M A (PySem.isTrue e env (eval e env)) Q E s:=by
 have plain:PySem.isTrue e env (eval e env)=(do let v<-eval e env;standAt e.pos;holding [v] (PySem.truthy v))->wpAny Z.M A (PySem.isTrue e env (eval e env)) Q E s:=λhe=>by
  refine wpAny_isTrue_value (zK G S h I a en hh (λv u J' V' s' h' le I' r=>?_) xx) he
  obtain⟨b,hb,hq⟩:=q v J' V' s' h' le I'
  exact dJ hb r hq
 induction e using PySem.Expr.casesOn with
 |UnaryOp op x p=>
  induction op with
  |Not=>exact ZT S I a en (.inl (cN hh λm=>by induction m<;>rfl)) h q xx
  |_=>exact plain rfl
 |BoolOp op vs p=>exact wpAny_isTrue_BoolOp (oR S a vs h I en (hh.imp id qB) q xx)
 |IfExp t x y p=>exact aJn S I a en (cN hh λm=>by induction m<;>rfl) h q xx
 |Compare l ops rs p=>exact ZW G S I a en (hh.imp id uW) h q xx
 |_=>exact plain rfl
abbrev nW(Z:Gd)(n:Nat)(ih:Ih):Prop:=∀{e:Expr} {gs:List Comprehension} {sc:Scope} {p:Pos} {c:Cx} {J:St} {k:KK} {kx:KX},ih (.ev (.ListComp e gs sc p) c) J k kx=true->∃m ih',m≤n/\gS Z m ih'/\j8 ih' e gs sc c J k kx=true
abbrev qC(ih:Ih):Prop:=(∀e gs sc p c J k kx,ih (.ev (.SetComp e gs sc p) c) J k kx=false)/\∀e v gs sc p c J k kx,ih (.ev (.DictComp e v gs sc p) c) J k kx=false
theorem iQ(h:i8 t=true):∀ts p,t≠ .List ts p:=λts p e=>by rw[e]at h;exact ff h
theorem xU(h:y7 ih ts e c J k kx=true):∃t,ts=[t]/\y7 ih [t] e c J k kx=true:=by
 induction ts using List.casesOn with
 |nil=>exact ff h
 |cons t ts=>induction ts using List.casesOn with
  |nil=>exact⟨t,rfl,h⟩
  |cons _ _=>exact ff h
noncomputable def Z8(s:Stmt):Bool:=match s with|.Return .. =>true|_=>false
include G S in
theorem GG(H:nW Z n ih)(N:qC ih)(h:y7 ih ts e c J k kx=true)(I:Inv Z C V J s)(a:AOk C A n)(en:EnvOk C V c env)(hh:A.handled=none)(q:QF Z C V k Q)(xx:QX Z C V kx E):wpAny Z.M A (exec (.Assign ts e p) env) Q E s:=by
 obtain⟨t,rfl,h⟩:=xU h
 ·obtain⟨hk,h⟩:=aB h
  induction e using PySem.Expr.casesOn with
  |Tuple es j p2=>
   have hk:Bool.rec (motive:=λO=>Bool) (i8 t) (d8 es) (rC t)=true:=hk
   induction ht:rC t with
   |true=>
    rw[ht]at hk
    induction t using PySem.Expr.casesOn with
    |Tuple ts j' p'=>exact uA G S I a en hk hh h q xx
    |_=>exact ff ht
   |false=>
    rw[ht]at hk
    refine jI G S I a en hh h q xx ?_ (iQ hk)
    induction t using PySem.Expr.casesOn with
    |Tuple _ _ _=>exact ff ht.symm
    |_=>rfl
  |ListComp e' gs sc pe=>
   obtain⟨m,ih',hm,S',h2⟩:=H h
   exact FT G S I a en hh h S' hm h2 (iQ hk) q xx
  |SetComp=>rw[N.1]at h;exact ff h
  |DictComp=>rw[N.2]at h;exact ff h
  |_=>exact jI G S I a en hh h q xx rfl (iQ hk)
include G S in
theorem mE(H:nW Z n ih)(N:qC ih){st:Stmt}(h:exE ih st c J k kx=true)(I:Inv Z C V J s)(a:AOk C A n)(en:EnvOk C V c env)(hh:A.handled=none∨∃e p,st= .Return (some e) p/\aV e){Q:Flow->Shared->Prop}(q:QF Z C V k Q)(xx:QX Z C V kx E):wpAny Z.M A (exec st env) Q E s:=by
 have non:Z8 st=false->A.handled=none:=λx=>hh.elim id λ⟨e,p,y,_⟩=>(by rw[y]at x;exact ff x.symm)
 induction st using PySem.Stmt.casesOn with
 |Return e p=>exact FG S I a en (hh.imp id λ⟨e',p',y,z⟩ x hx=>by cases y;cases hx;exact z) h q xx
 |Expr e p=>exact P0 S I a en (non rfl) h q xx
 |Assign ts e p=>exact GG G S H N h I a en (non rfl) q xx
 |AugAssign t op e p=>exact Z0 G S I a en (non rfl) h q xx
 |If t x y p=>exact aJo S I a en (non rfl) h q xx
 |For t it body els p=>
  induction els using List.casesOn with
  |nil=>exact Z3 G S I a en (non rfl) h q xx
  |cons _ _=>exact ff h
 |While t body els p=>
  induction els using List.casesOn with
  |nil=>exact FK S I a en (non rfl) h q xx
  |cons _ _=>exact ff h
 |Raise e c' p=>
  induction c' with
  |none=>exact F9 G S I a en (non rfl) h xx
  |some _=>exact ff h
 |Try body hs els fin p=>
  induction els using List.casesOn with
  |cons _ _=>exact ff h
  |nil=>induction fin using List.casesOn with
   |cons _ _=>exact ff h
   |nil=>exact Z7 G S I a en (non rfl) h q xx
 |Pass p=>exact PZ I h q
 |_=>exact ff h
theorem sA(h:dS ss=true):∃e p,ss=[.Return (some e) p]/\aV e:=by
 obtain⟨s,rfl,h⟩:=dF h
 induction s using PySem.Stmt.casesOn with
 |Return e p=>obtain⟨e,rfl,h⟩:=some?_eq h;exact⟨e,p,rfl,8,h⟩
 |_=>exact ff h
include G S in
theorem GH(H:nW Z n ih)(N:qC ih){ss:List Stmt}(h:exS ih ss c J k kx=true)(I:Inv Z C V J s)(a:AOk C A n)(en:EnvOk C V c env)(hh:A.handled=none∨dS ss=true){Q:Flow->Shared->Prop}(q:QF Z C V k Q)(xx:QX Z C V kx E):wpAny Z.M A (execs ss env) Q E s:=by
 induction ss using List.casesOn with
 |nil=>exact wpAny_pure (q.next _ _ _ h (Vl.Le.refl V) I)
 |cons st ss=>
  rw[execs_cons]
  have h:exE ih st c J (λr J=>Rs.rec (motive:=λO=>Bool) (λO=>false) (ih (.exs ss c) J k kx) (λv=>k (.ret v) J) r) kx=true:=h
  rcases hh with hh|x
  ·refine wpAny_bind (mE G S H N h I a en (.inl hh) ⟨λJ' V' s' h' le I'=>?_,λv u J' V' s' h' le I' r=>?_⟩ xx)
   ·have h':ih (.exs ss c) J' k kx=true:=h'
    exact S.exs h' I' a (en.mono le) (.inl hh) ⟨λJ'' V'' s'' h'' le' I''=>q.next _ _ _ h'' (le.trans le') I'',λv u J'' V'' s'' h'' le' I'' r=>q.ret _ _ _ _ _ h'' (le.trans le') I'' r⟩ (xx.mono le)
   ·have h':k (.ret v) J'=true:=h'
    exact wpAny_pure (q.ret _ _ _ _ _ h' le I' r)
  ·obtain⟨e,p,e1,e2⟩:=sA x
   cases e1
   refine wpAny_bind (FG (k:=λr J=>Rs.rec (motive:=λO=>Bool) (λO=>false) false (λv=>k (.ret v) J) r) S I a en (.inr λy hy=>by obtain rfl:=Option.some.inj hy;exact e2) h ⟨λJ' V' s' h' le I'=>(by cases h'),λv u J' V' s' h' le I' r=>?_⟩ xx)
   have h':k (.ret v) J'=true:=h'
   exact wpAny_pure (q.ret _ _ _ _ _ h' le I' r)
end
end
section
section
variable{Z:Gd}(G:aU Z)(T:xF Z)
theorem GI:gS Z 0 (run 0) where
 star:=λO O O O O O=>rfl
 noset:=λO O O O O O O=>rfl
 ev:=λh=>by exact ff h
 pur:=λO h=>by exact ff h
 tr:=λh=>by exact ff h
 exs:=λh=>by exact ff h
 call:=λh=>by exact ff h
 fnc:=λh=>by exact ff h
 cal:=λh=>by exact ff h
include G T in
theorem uX(S:gS Z n ih)(H:nW Z n ih)(N:qC ih):gS Z (n+1) (step ih) where
 star:=λO O O O O O=>rfl
 noset:=λO O O O O O O=>rfl
 ev:=by intro e c J k kx h C V s A env Q E I a en hh q xx;exact zK G S h I (a.le (Nat.le_succ n)) en hh q xx
 pur:=by intro m e c J k kx hp h C V s A env Q E I a en q;exact GD G S (a.le (Nat.le_succ n)) hp h I en q
 tr:=by intro e c J k kx h C V s A env Q E I a en hh q xx;exact QD G S h I (a.le (Nat.le_succ n)) en hh q xx
 exs:=by intro ss c J k kx h C V s A env Q E I a en hh q xx;exact GH G S H N h I (a.le (Nat.le_succ n)) en hh q xx
 call:=by intro f as J k kx h C V s A fv vs Q E I a hh r rs q xx;exact BL G T S h I a hh r rs q xx
 fnc:=by intro f as J k kx h C V s A vs Q E I a hh rs q xx;exact uT G T S h I a hh rs q xx
 cal:=by intro f as J k kx h;exact F5 h
theorem BW:∀n,qC (run n)
 |0=>⟨λO O O O O O O O=>rfl,λO O O O O O O O O=>rfl⟩
 |_+1=>⟨λO O O O O O O O=>rfl,λO O O O O O O O O=>rfl⟩
include G T in
theorem mF:∀n,∀m,m≤n->gS Z m (run m)
 |0,m,hm=>by obtain rfl:=Nat.le_zero.mp hm;exact GI
 |n+1,m,hm=>by
  rcases Nat.lt_or_ge m (n+1)with h|h
  ·exact mF n m (Nat.le_of_lt_succ h)
  ·obtain rfl:m=n+1:=Nat.le_antisymm hm h
   refine uX G T (mF n n (Nat.le_refl _)) (λ{e gs sc p c J k kx} hx=>?_) (BW n)
   induction n using Nat.casesOn with
   |zero=>exact ff hx
   |succ j=>exact⟨j,run j,Nat.le_succ j,mF (j+1) j (Nat.le_succ j),hx⟩
include G T in
theorem Z9(n:Nat):gS Z n (run n):=mF G T n n (Nat.le_refl n)
end
end
section
set_option backward.match.sparseCases false
noncomputable section
def QE(K:Frag)(c:Addr)(q:Str):Bool:=some? (K.lookup c) λo=>tJ (λvs=>some? (vs[1]?:Option Value) (kX (· ==q))) o.data
def aJp(a:Arguments)(ds:List SV):Bool:=a.posonlyargs.isEmpty&&a.vararg.isNone&&a.kwonlyargs.isEmpty&&a.kwarg.isNone&&dM (a.args.map λx=>(x.arg,NameKind.local))&&Nat.ble ds.length a.args.length
def GJ(st:Stmt)(ds:List SV):Bool:=aJp (mJ st) ds
def GK(a c:Nat)(q:Str):Bool:=cS a==0||(decide (cS a∈tabs)&&c==fF (cS a)&&((q++ ".<locals>.")++("<lambda>" :Str))==kA (cS a))
def gF(v:SV)(u:Value):Bool:=match v with
 |.none=>u== .none
 |.bool a=>EW (a==·) u
 |.int i=>S8 (i==·) u
 |.str n=>kX (· ==tx n) u
 |.fn a=>mT (a==·) u
 |.cls a=>mT (a==·) u
 |.kref a=>mT (a==·) u
 |.bi k=>some? (pL k) (· ==u)
 |_=>false
theorem gY(h:gF v u=true)(V:Vl):VR V v u:=by
 induction v with
 |bi k=>obtain⟨w,e,h⟩:=some?_eq h;exact .bi k u (e.trans (congrArg some (eq_of_beq h)))
 |none=>rw[eq_of_beq (h:(u== .none)=true)];exact .none
 |bool b=>obtain⟨c,rfl,h⟩:=AS h;rw[eq_of_beq h];exact .bool _
 |int i=>obtain⟨c,t,rfl,h⟩:=EY h;rw[eq_of_beq h];exact .int _ _
 |str n=>obtain⟨c,t,rfl,h⟩:=fX h;rw[eq_of_beq h];exact .str _ _
 |fn a=>obtain⟨c,rfl,h⟩:=eP h;rw[eq_of_beq h];exact .fn _
 |cls a=>obtain⟨c,rfl,h⟩:=eP h;rw[eq_of_beq h];exact .cls _
 |kref a=>obtain⟨c,rfl,h⟩:=eP h;rw[eq_of_beq h];exact .kref _
 |_=>exact ff h
def sB(vs:List SV):List Value->Bool:=List.rec (motive:=λO=>List Value->Bool) pK (λv O ih=>cJ λu us=>gF v u&&ih us) vs
theorem nX:∀{us:List Value},sB vs us=true->∀V,VRs V vs us:=by
 induction vs with
 |nil=>intro us h V;obtain rfl:=jA h;trivial
 |cons v vs ih=>intro us h V;obtain⟨u,us,rfl,h⟩:=bC h;exact⟨gY (aM h).1 V,ih (aM h).2 V⟩
def aAa(K:Frag)(d:Value)(ds:List SV):Bool:=(d== .none&&pK ds)||mT (λT=>some? (K.lookup T) λo=>E0 (λitems=>sB ds items.toList) o.data) d
def GL(K:Frag)(a:Nat)(st:Stmt)(ds:List SV)(q:Str)(d:Value)(c:Nat):Bool:=QE K c q&&AO (bP st)&&GJ st ds&&GK a c q&&aAa K d ds
theorem nY{ps:List Arg}(h:dM (ps.map λx=>(x.arg,NameKind.local))=true):(ps.map (·.arg)).Nodup:=by
 induction ps with
 |nil=>exact List.nodup_nil
 |cons p ps ih=>
  have h:Bool.rec (motive:=λO=>Bool) false (dM (ps.map λx=>(x.arg,NameKind.local))) (wC (aF (ps.map λx=>(x.arg,NameKind.local)) (aA p.arg)))=true:=h
  obtain⟨h1,h2⟩:=aB h
  refine List.nodup_cons.mpr ⟨λhm=>?_,ih h2⟩
  obtain⟨x,hx,e⟩:=List.mem_map.mp hm
  have:=fP h2 (x.arg,.local) (List.mem_map.mpr ⟨x,hx,rfl⟩)
  have h1:=mA h1
  rw[bU,aJ]at h1
  have e:x.arg=p.arg:=e
  rw[<-e]at h1
  rw[show(x.arg,NameKind.local).1=x.arg from rfl,h1]at this
  exact fo this
theorem aJq{Z:Gd}(kin:aX Z){a:Nat}{st:Stmt}{ds:List SV}{cls:Value}{dict:Option Addr}{sl:Array (Option Value)}{name qual:Str}{d doc pm ct:Value}{c:Nat}(h:(K Z.P).lookup a=some ⟨cls,dict,.func (fn st name qual 3 d .none doc pm (.ref c) ct 0),sl⟩)
 (hc:GL (K Z.P) a st ds qual d c=true):∃o fd,wP Z a st ds o fd:=by
 unfold GL at hc
 obtain⟨⟨⟨⟨c1,c2⟩,c3⟩,c4⟩,c5⟩:=EU hc
 refine⟨_,_,⟨kin.1 _ _ h,kin.2 _ _ h,rfl,rfl,rfl,c2,rfl,rfl,rfl,?_,λht=>?_,?_,?_⟩⟩
 ·obtain⟨o,ho,c1⟩:=some?_eq c1
  obtain⟨vs,hd,c1⟩:=tM c1
  obtain⟨x,hx,c1⟩:=some?_eq c1
  obtain⟨x,t,rfl,c1⟩:=fX c1
  exact⟨c,o,vs,t,rfl,kin.1 _ _ ho,kin.2 _ _ ho,hd,hx.trans (congrArg (λz=>some (Value.str z t)) (eq_of_beq c1))⟩
 ·unfold GK at c4
  rw[Bool.or_eq_true,Bool.and_eq_true,Bool.and_eq_true]at c4
  rcases c4 with e|⟨⟨e1,e2⟩,e3⟩
  ·exact absurd (eq_of_beq e) ht
  ·exact⟨of_decide_eq_true e1,congrArg Value.ref (eq_of_beq e2),eq_of_beq e3⟩
 ·have hn:dR st=(mJ st).args.map λx=>aA x.arg:=rfl
  unfold GJ at c3
  show∃ps kd de,mJ st=_/\_
  rw[hn]
  generalize mJ st=a at c3
  obtain⟨po,ps,va,ko,kd,kw,de⟩:=a
  obtain⟨⟨⟨⟨⟨e1,e2⟩,e3⟩,e4⟩,e5⟩,e6⟩:=EV c3
  obtain rfl:=List.isEmpty_iff.mp e1
  obtain rfl:=Option.isNone_iff_eq_none.mp e2
  obtain rfl:=List.isEmpty_iff.mp e3
  obtain rfl:=Option.isNone_iff_eq_none.mp e4
  exact⟨ps,kd,de,rfl,rfl,nY e5,Nat.le_of_ble_eq_true e6⟩
 ·rcases Bool.or_eq_true_iff.mp c5 with c5|c5
  ·exact .inl ⟨eq_of_beq (aM c5).1,jA (aM c5).2⟩
  ·obtain⟨T,e,c5⟩:=eP c5
   obtain⟨o,ho,c5⟩:=some?_eq c5
   obtain⟨vs,ep,hd,c5⟩:=tK c5
   exact .inr ⟨T,o,vs,ep,e,kin.1 _ _ ho,kin.2 _ _ ho,hd,nX c5⟩
noncomputable def AllN{α:Type}(Q:Nat->α->Prop):BN α->Prop
 |.nil=>True
 |.node k v l r=>Q k v/\AllN Q l/\AllN Q r
theorem AllN.get(hq:AllN Q t)(h:aE t a=some w):Q a w:=by
 induction t with
 |nil=>exact fo h
 |node k v l r il ir=>
  have h:Bool.rec (motive:=λO=>Option _) (Bool.rec (motive:=λO=>Option _) (aE r a) (aE l a) (Nat.blt a k)) (some v) (Nat.beq a k)=some w:=h
  induction e:Nat.beq a k with
  |true=>rw[e]at h;obtain rfl:=Option.some.inj h;rw[Nat.eq_of_beq_eq_true e];exact hq.1
  |false=>
   rw[e]at h
   induction e2:Nat.blt a k with
   |true=>rw[e2]at h;exact il hq.2.1 h
   |false=>rw[e2]at h;exact ir hq.2.2 h
abbrev FX(Z:Gd)(a:Nat)(st:Stmt)(ds:List SV):Prop:=∃o fd,wP Z a st ds o fd
theorem ft{Z:Gd}{a c:Nat}{st:Stmt}{n q:String}{d doc pm ct:Value}{ds:List SV}(h:(K Z.P).lookup a=some (fu st n q 3 d doc pm (vR c) ct))(k:aX Z)(hc:GL (K Z.P) a st ds (Str.ofString q) d c=true):FX Z a st ds:=aJq k h hc
theorem aJr(k:aX Z):FX Z 498 (mD 48 3) []:=ft (by kernel_rfl:_=some XU) k (by kernel_rfl)
theorem aJs(k:aX Z):FX Z 330 (tD 23) []:=ft (by kernel_rfl:_=some DD) k (by kernel_rfl)
theorem aJt(k:aX Z):FX Z 196 (mD 13 0) [.none,.none,.bool false]:=ft (by kernel_rfl:_=some C2) k (by kernel_rfl)
theorem aJu(k:aX Z):FX Z 118 (mD 10 0) [.str (nm "")]:=ft (by kernel_rfl:_=some CV) k (by kernel_rfl)
theorem aPm(k:aX Z):FX Z 56 (mD 3 0) []:=ft (by kernel_rfl:_=some TX) k (by kernel_rfl)
theorem aPn(k:aX Z):FX Z 36 (mD 2 0) [.str (nm "")]:=ft (by kernel_rfl:_=some TW) k (by kernel_rfl)
theorem aPo(k:aX Z):FX Z 21 (tD 0) []:=ft (by kernel_rfl:_=some TV) k (by kernel_rfl)
theorem aPp(k:aX Z):FX Z 96 (mD 9 0) []:=ft (by kernel_rfl:_=some o96) k (by kernel_rfl)
theorem aPq(k:aX Z):FX Z 75 (mD 4 0) []:=ft (by kernel_rfl:_=some TY) k (by kernel_rfl)
theorem aJv(k:aX Z):FX Z 164 (mD 12 1) []:=ft (by kernel_rfl:_=some CY) k (by kernel_rfl)
theorem aJw(k:aX Z):FX Z 157 (mD 12 0) []:=ft (by kernel_rfl:_=some CX) k (by kernel_rfl)
theorem aJx(k:aX Z):FX Z 138 (mD 11 0) [.none]:=ft (by kernel_rfl:_=some CW) k (by kernel_rfl)
theorem aJy(k:aX Z):FX Z 176 (mD 12 3) []:=ft (by kernel_rfl:_=some C1) k (by kernel_rfl)
theorem aJz(k:aX Z):FX Z 171 (mD 12 2) []:=ft (by kernel_rfl:_=some CZ) k (by kernel_rfl)
theorem aJA(k:aX Z):FX Z 296 (tD 18) []:=ft (by kernel_rfl:_=some C8) k (by kernel_rfl)
theorem aJB(k:aX Z):FX Z 257 (mD 16 0) [.none]:=ft (by kernel_rfl:_=some C5) k (by kernel_rfl)
theorem aJC(k:aX Z):FX Z 237 (mD 15 0) [.none]:=ft (by kernel_rfl:_=some C4) k (by kernel_rfl)
theorem aJD(k:aX Z):FX Z 217 (mD 14 0) [.none,.none,.none,.none,.kref 209,.none,.none,.bool false,.none]:=ft (by kernel_rfl:_=some C3) k (by kernel_rfl)
theorem aJE(k:aX Z):FX Z 284 (mD 17 1) []:=ft (by kernel_rfl:_=some C7) k (by kernel_rfl)
theorem aJF(k:aX Z):FX Z 277 (mD 17 0) [.none,.bool false,.none,.none]:=ft (by kernel_rfl:_=some C6) k (by kernel_rfl)
theorem aJG(k:aX Z):FX Z 317 (tD 21) []:=ft (by kernel_rfl:_=some DB) k (by kernel_rfl)
theorem aJH(k:aX Z):FX Z 310 (tD 20) []:=ft (by kernel_rfl:_=some DA) k (by kernel_rfl)
theorem aJI(k:aX Z):FX Z 303 (tD 19) []:=ft (by kernel_rfl:_=some C9) k (by kernel_rfl)
theorem aJJ(k:aX Z):FX Z 323 (tD 22) [.int 12]:=ft (by kernel_rfl:_=some DC) k (by kernel_rfl)
theorem aJK(k:aX Z):FX Z 404 (tD 34) [.int 6]:=ft (by kernel_rfl:_=some DO) k (by kernel_rfl)
theorem aJL(k:aX Z):FX Z 370 (tD 29) []:=ft (by kernel_rfl:_=some DJ) k (by kernel_rfl)
theorem aJM(k:aX Z):FX Z 351 (tD 26) []:=ft (by kernel_rfl:_=some DG) k (by kernel_rfl)
theorem aJN(k:aX Z):FX Z 344 (tD 25) []:=ft (by kernel_rfl:_=some DF) k (by kernel_rfl)
theorem aJO(k:aX Z):FX Z 337 (tD 24) []:=ft (by kernel_rfl:_=some DE) k (by kernel_rfl)
theorem aJP(k:aX Z):FX Z 363 (tD 28) []:=ft (by kernel_rfl:_=some DI) k (by kernel_rfl)
theorem aJQ(k:aX Z):FX Z 358 (tD 27) []:=ft (by kernel_rfl:_=some DH) k (by kernel_rfl)
theorem aJR(k:aX Z):FX Z 389 (tD 32) []:=ft (by kernel_rfl:_=some DM) k (by kernel_rfl)
theorem aJS(k:aX Z):FX Z 384 (tD 31) []:=ft (by kernel_rfl:_=some DL) k (by kernel_rfl)
theorem aJT(k:aX Z):FX Z 377 (tD 30) []:=ft (by kernel_rfl:_=some DK) k (by kernel_rfl)
theorem aJU(k:aX Z):FX Z 396 (tD 33) []:=ft (by kernel_rfl:_=some DN) k (by kernel_rfl)
theorem aJV(k:aX Z):FX Z 442 (tD 41) []:=ft (by kernel_rfl:_=some DU) k (by kernel_rfl)
theorem aJW(k:aX Z):FX Z 423 (tD 38) []:=ft (by kernel_rfl:_=some DR) k (by kernel_rfl)
theorem aJX(k:aX Z):FX Z 418 (tD 37) []:=ft (by kernel_rfl:_=some DQ) k (by kernel_rfl)
theorem aJY(k:aX Z):FX Z 411 (tD 36) []:=ft (by kernel_rfl:_=some DP) k (by kernel_rfl)
theorem aJZ(k:aX Z):FX Z 435 (tD 40) []:=ft (by kernel_rfl:_=some DT) k (by kernel_rfl)
theorem aKa(k:aX Z):FX Z 428 (tD 39) []:=ft (by kernel_rfl:_=some DS) k (by kernel_rfl)
theorem aKb(k:aX Z):FX Z 484 (mD 48 1) []:=ft (by kernel_rfl:_=some XS) k (by kernel_rfl)
theorem aKc(k:aX Z):FX Z 477 (mD 48 0) [.none,.none,.int 20000]:=ft (by kernel_rfl:_=some XR) k (by kernel_rfl)
theorem aKd(k:aX Z):FX Z 449 (tD 42) []:=ft (by kernel_rfl:_=some DV) k (by kernel_rfl)
theorem aKe(k:aX Z):FX Z 491 (mD 48 2) []:=ft (by kernel_rfl:_=some XT) k (by kernel_rfl)
theorem aKf(k:aX Z):FX Z 656 (mD 48 26) []:=ft (by kernel_rfl:_=some YH) k (by kernel_rfl)
theorem aKg(k:aX Z):FX Z 581 (mD 48 15) []:=ft (by kernel_rfl:_=some X6) k (by kernel_rfl)
theorem aKh(k:aX Z):FX Z 539 (mD 48 9) [.none,.none,.none]:=ft (by kernel_rfl:_=some X0) k (by kernel_rfl)
theorem aKi(k:aX Z):FX Z 519 (mD 48 6) []:=ft (by kernel_rfl:_=some XX) k (by kernel_rfl)
theorem aKj(k:aX Z):FX Z 512 (mD 48 5) []:=ft (by kernel_rfl:_=some XW) k (by kernel_rfl)
theorem aKk(k:aX Z):FX Z 505 (mD 48 4) []:=ft (by kernel_rfl:_=some XV) k (by kernel_rfl)
theorem aKl(k:aX Z):FX Z 531 (mD 48 8) []:=ft (by kernel_rfl:_=some XZ) k (by kernel_rfl)
theorem aKm(k:aX Z):FX Z 524 (mD 48 7) []:=ft (by kernel_rfl:_=some XY) k (by kernel_rfl)
theorem aKn(k:aX Z):FX Z 560 (mD 48 12) []:=ft (by kernel_rfl:_=some X3) k (by kernel_rfl)
theorem aKo(k:aX Z):FX Z 553 (mD 48 11) []:=ft (by kernel_rfl:_=some X2) k (by kernel_rfl)
theorem aKp(k:aX Z):FX Z 546 (mD 48 10) []:=ft (by kernel_rfl:_=some X1) k (by kernel_rfl)
theorem aKq(k:aX Z):FX Z 574 (mD 48 14) []:=ft (by kernel_rfl:_=some X5) k (by kernel_rfl)
theorem aKr(k:aX Z):FX Z 567 (mD 48 13) []:=ft (by kernel_rfl:_=some X4) k (by kernel_rfl)
theorem aKs(k:aX Z):FX Z 623 (mD 48 21) []:=ft (by kernel_rfl:_=some YC) k (by kernel_rfl)
theorem aKt(k:aX Z):FX Z 602 (mD 48 18) []:=ft (by kernel_rfl:_=some X9) k (by kernel_rfl)
theorem aKu(k:aX Z):FX Z 595 (mD 48 17) []:=ft (by kernel_rfl:_=some X8) k (by kernel_rfl)
theorem aKv(k:aX Z):FX Z 588 (mD 48 16) []:=ft (by kernel_rfl:_=some X7) k (by kernel_rfl)
theorem aKw(k:aX Z):FX Z 616 (mD 48 20) []:=ft (by kernel_rfl:_=some YB) k (by kernel_rfl)
theorem aKx(k:aX Z):FX Z 609 (mD 48 19) []:=ft (by kernel_rfl:_=some YA) k (by kernel_rfl)
theorem aKy(k:aX Z):FX Z 642 (mD 48 24) []:=ft (by kernel_rfl:_=some YF) k (by kernel_rfl)
theorem aKz(k:aX Z):FX Z 635 (mD 48 23) []:=ft (by kernel_rfl:_=some YE) k (by kernel_rfl)
theorem aKA(k:aX Z):FX Z 630 (mD 48 22) []:=ft (by kernel_rfl:_=some YD) k (by kernel_rfl)
theorem aKB(k:aX Z):FX Z 649 (mD 48 25) []:=ft (by kernel_rfl:_=some YG) k (by kernel_rfl)
theorem aKC(k:aX Z):FX Z 740 (tD 52) []:=ft (by kernel_rfl:_=some YT) k (by kernel_rfl)
theorem aKD(k:aX Z):FX Z 698 (mD 48 32) []:=ft (by kernel_rfl:_=some YN) k (by kernel_rfl)
theorem aKE(k:aX Z):FX Z 677 (mD 48 29) []:=ft (by kernel_rfl:_=some YK) k (by kernel_rfl)
theorem aKF(k:aX Z):FX Z 670 (mD 48 28) []:=ft (by kernel_rfl:_=some YJ) k (by kernel_rfl)
theorem aKG(k:aX Z):FX Z 663 (mD 48 27) []:=ft (by kernel_rfl:_=some YI) k (by kernel_rfl)
theorem aKH(k:aX Z):FX Z 691 (mD 48 31) []:=ft (by kernel_rfl:_=some YM) k (by kernel_rfl)
theorem aKI(k:aX Z):FX Z 684 (mD 48 30) []:=ft (by kernel_rfl:_=some YL) k (by kernel_rfl)
theorem aKJ(k:aX Z):FX Z 726 (tD 49) []:=ft (by kernel_rfl:_=some YR) k (by kernel_rfl)
theorem aKK(k:aX Z):FX Z 712 (mD 48 34) []:=ft (by kernel_rfl:_=some YQ) k (by kernel_rfl)
theorem aKL(k:aX Z):FX Z 705 (mD 48 33) []:=ft (by kernel_rfl:_=some YO) k (by kernel_rfl)
theorem aKM(k:aX Z):FX Z 733 (tD 51) []:=ft (by kernel_rfl:_=some YS) k (by kernel_rfl)
theorem aKN(k:aX Z):FX Z 776 (tD 58) []:=ft (by kernel_rfl:_=some YZ) k (by kernel_rfl)
theorem aKO(k:aX Z):FX Z 759 (tD 55) []:=ft (by kernel_rfl:_=some YW) k (by kernel_rfl)
theorem aKP(k:aX Z):FX Z 754 (tD 54) []:=ft (by kernel_rfl:_=some YV) k (by kernel_rfl)
theorem aKQ(k:aX Z):FX Z 747 (tD 53) []:=ft (by kernel_rfl:_=some YU) k (by kernel_rfl)
theorem aKR(k:aX Z):FX Z 769 (tD 57) []:=ft (by kernel_rfl:_=some YY) k (by kernel_rfl)
theorem aKS(k:aX Z):FX Z 764 (tD 56) []:=ft (by kernel_rfl:_=some YX) k (by kernel_rfl)
theorem aKT(k:aX Z):FX Z 793 (tD 61) []:=ft (by kernel_rfl:_=some Y2) k (by kernel_rfl)
theorem aKU(k:aX Z):FX Z 788 (tD 60) []:=ft (by kernel_rfl:_=some Y1) k (by kernel_rfl)
theorem aKV(k:aX Z):FX Z 781 (tD 59) []:=ft (by kernel_rfl:_=some Y0) k (by kernel_rfl)
theorem aKW(k:aX Z):FX Z 798 (tD 62) []:=ft (by kernel_rfl:_=some Y3) k (by kernel_rfl)
theorem aAb(k:aX Z):AllN (λa p=>∃o fd,wP Z a p.1 p.2 o fd) iJ:=⟨aJr k,⟨aJs k,⟨aJt k,⟨aJu k,⟨aPm k,⟨aPn k,⟨aPo k,trivial,trivial⟩,trivial⟩,⟨aPp k,⟨aPq k,trivial,trivial⟩,trivial⟩⟩,⟨aJv k,⟨aJw k,⟨aJx k,trivial,trivial⟩,trivial⟩,⟨aJy k,⟨aJz k,trivial,trivial⟩,trivial⟩⟩⟩,⟨aJA k,⟨aJB k,⟨aJC k,⟨aJD k,trivial,trivial⟩,trivial⟩,⟨aJE k,⟨aJF k,trivial,trivial⟩,trivial⟩⟩,⟨aJG k,⟨aJH k,⟨aJI k,trivial,trivial⟩,trivial⟩,⟨aJJ k,trivial,trivial⟩⟩⟩⟩,⟨aJK k,⟨aJL k,⟨aJM k,⟨aJN k,⟨aJO k,trivial,trivial⟩,trivial⟩,⟨aJP k,⟨aJQ k,trivial,trivial⟩,trivial⟩⟩,⟨aJR k,⟨aJS k,⟨aJT k,trivial,trivial⟩,trivial⟩,⟨aJU k,trivial,trivial⟩⟩⟩,⟨aJV k,⟨aJW k,⟨aJX k,⟨aJY k,trivial,trivial⟩,trivial⟩,⟨aJZ k,⟨aKa k,trivial,trivial⟩,trivial⟩⟩,⟨aKb k,⟨aKc k,⟨aKd k,trivial,trivial⟩,trivial⟩,⟨aKe k,trivial,trivial⟩⟩⟩⟩⟩,⟨aKf k,⟨aKg k,⟨aKh k,⟨aKi k,⟨aKj k,⟨aKk k,trivial,trivial⟩,trivial⟩,⟨aKl k,⟨aKm k,trivial,trivial⟩,trivial⟩⟩,⟨aKn k,⟨aKo k,⟨aKp k,trivial,trivial⟩,trivial⟩,⟨aKq k,⟨aKr k,trivial,trivial⟩,trivial⟩⟩⟩,⟨aKs k,⟨aKt k,⟨aKu k,⟨aKv k,trivial,trivial⟩,trivial⟩,⟨aKw k,⟨aKx k,trivial,trivial⟩,trivial⟩⟩,⟨aKy k,⟨aKz k,⟨aKA k,trivial,trivial⟩,trivial⟩,⟨aKB k,trivial,trivial⟩⟩⟩⟩,⟨aKC k,⟨aKD k,⟨aKE k,⟨aKF k,⟨aKG k,trivial,trivial⟩,trivial⟩,⟨aKH k,⟨aKI k,trivial,trivial⟩,trivial⟩⟩,⟨aKJ k,⟨aKK k,⟨aKL k,trivial,trivial⟩,trivial⟩,⟨aKM k,trivial,trivial⟩⟩⟩,⟨aKN k,⟨aKO k,⟨aKP k,⟨aKQ k,trivial,trivial⟩,trivial⟩,⟨aKR k,⟨aKS k,trivial,trivial⟩,trivial⟩⟩,⟨aKT k,⟨aKU k,⟨aKV k,trivial,trivial⟩,trivial⟩,⟨aKW k,trivial,trivial⟩⟩⟩⟩⟩⟩
end
end
section
set_option backward.match.sparseCases false
noncomputable section
theorem GN{w:World}{s:Shared}{S:Value}(h:hook.says w s.heap):aX ⟨w,s,S⟩:=by
 refine⟨h.1,λa o e ht=>?_⟩
 have hm:a∈kAs:=by
  rw[vW w.params]
  have:∀l:List (Addr×Obj),l.lookup a=some o->a∈l.map (·.1):=by
   intro l
   induction l with
   |nil=>intro h;exact fo h
   |cons p l ih=>
    intro h
    rw[List.lookup_cons]at h
    induction q:a==p.1 with
    |true=>rw[eq_of_beq q];exact .head _
    |false=>rw[q]at h;exact .tail _ (ih h)
  exact this _ e
 have:(kAs.all λa=> !(tabs.contains a))=true:=by kernel_rfl
 rw[List.all_eq_true]at this
 have:=this a hm
 rw[List.contains_iff_mem.mpr ht]at this
 exact ff this
noncomputable def bN(K:Frag)(a:Addr):List DictEntry:=match K.lookup a with
 |some o=>(match o.data with|.dict es _=>es.toList|_=>[])
 |none=>[]
def kK(K:Frag)(a:Addr):Bool:=some? (K.lookup a) λo=>wJ (λes=>es.toList.all λe=>kX (λO=>true) e.key) o.data
noncomputable def jP(es:List DictEntry)(x:Str):Option Value:=(es.find? (·.key.isStr x)).map (·.val)
theorem zL{K:Frag}{h:Heap}(X:K.In h){a:Addr}(e:kK K a=true):h.Ns a (jP (bN K a)):=by
 obtain⟨o,ho,e⟩:=some?_eq e
 obtain⟨es,ep,hd,e⟩:=pJ e
 refine⟨o,es,ep,X _ _ ho,hd,λx hx=>?_,λn=>?_⟩
 ·obtain⟨n,t,he,_⟩:=fX (List.all_eq_true.mp e x (Array.mem_toList_iff.mpr hx))
  exact⟨n,t,he⟩
 ·unfold jP bN
  rw[ho]
  show _=Option.map _ (List.find? _ (match o.data with|.dict es _=>es.toList|_=>[]))
  rw[hd]
  unfold nsFind findBy
  rw[<-Array.find?_toList]
noncomputable def iH{α:Type}(f:Nm->α->Bool):NT α->Bool
 |.nil=>true
 |.node k v l r=>f k v&&(iH f l&&iH f r)
theorem kL{α:Type}{f:Nm->α->Bool}{t:NT α}{n:Nm}{w:α}(hq:iH f t=true)(h:t.get n=some w):f n w=true:=by
 induction t with
 |nil=>exact fo h
 |node k v l r il ir=>
  have h:Bool.rec (motive:=λO=>Option _) (Bool.rec (motive:=λO=>Option _) (r.get n) (l.get n) (Nat.blt (code n) (code k))) (some v) (Nat.beq (code n) (code k))=some w:=h
  have hq:(f k v&&(iH f l&&iH f r))=true:=hq
  obtain⟨hq0,hq⟩:=aM hq
  have hq:=And.intro hq0 (aM hq)
  induction e:Nat.beq (code n) (code k)with
  |true=>rw[e]at h;obtain rfl:=Option.some.inj h;rw[mU (Nat.eq_of_beq_eq_true e)];exact hq.1
  |false=>
   rw[e]at h
   induction e2:Nat.blt (code n) (code k)with
   |true=>rw[e2]at h;exact il hq.2.1 h
   |false=>rw[e2]at h;exact ir hq.2.2 h
def jQ(m b:List DictEntry)(k:Nm)(v:SV):Bool:=Option.rec (motive:=λO=>Bool) (some? (jP b (tx k)) (gF v)) (gF v) (jP m (tx k))
theorem QG{w:World}{s:Shared}{S:Value}(k:aX ⟨w,s,S⟩)(h1:kK (K w.params) mainGlobals=true)(h2:kK (K w.params) builtinsNs=true)(h3:iH (jQ (bN (K w.params) mainGlobals) (bN (K w.params) builtinsNs)) gtab=true)(h4:iH (jQ (bN (K w.params) mainGlobals) (bN (K w.params) builtinsNs)) builtins=true):rF ⟨w,s,S⟩:=by
 refine⟨_,_,zL k.1 h1,zL k.1 h2,by decide,by decide,λn v e=>?_⟩
 have key:jQ (bN (K w.params) mainGlobals) (bN (K w.params) builtinsNs) n v=true:=by
  have e:Option.rec (motive:=λO=>Option SV) (builtins.get n) some (gtab.get n)=some v:=e
  induction hg:gtab.get n with
  |some x=>rw[hg]at e;obtain rfl:=Option.some.inj e;exact kL h3 hg
  |none=>rw[hg]at e;exact kL h4 e
 have key:Option.rec (motive:=λO=>Bool) (some? (jP (bN (K w.params) builtinsNs) (tx n)) (gF v)) (gF v) (jP (bN (K w.params) mainGlobals) (tx n))=true:=key
 induction hn:jP (bN (K w.params) mainGlobals) (tx n)with
 |some u=>rw[hn]at key;exact⟨u,.inl rfl,gY key⟩
 |none=>
  rw[hn]at key
  obtain⟨u,hu,key⟩:=some?_eq key
  exact⟨u,.inr ⟨rfl,hu⟩,gY key⟩
theorem zM(P:Params):kK (K P) mainGlobals=true:=by kernel_rfl
theorem aAc(P:Params):kK (K P) builtinsNs=true:=by kernel_rfl
theorem aAd(P:Params):iH (jQ (bN (K P) mainGlobals) (bN (K P) builtinsNs)) gtab=true:=by kernel_rfl
theorem aAe(P:Params):iH (jQ (bN (K P) mainGlobals) (bN (K P) builtinsNs)) builtins=true:=by kernel_rfl
theorem QH{w:World}{s:Shared}{S:Value}(k:aX ⟨w,s,S⟩):rF ⟨w,s,S⟩:=QG k (zM _) (aAc _) (aAd _) (aAe _)
noncomputable def xV(f:Nm->Bool)(v:SV):Bool:=match v with|.str n=>f n|_=>false
theorem BX{f:Nm->Bool}{v:SV}(h:xV f v=true):∃n,v= .str n/\f n=true:=by induction v with|str n=>exact⟨n,rfl,h⟩|_=>exact ff h
def xW(es:List (SV×SV)):List DictEntry->Bool:=List.rec (motive:=λO=>List DictEntry->Bool) pK (λp O ih=>cJ λe l=>(xV (λn=>kX (λx=>x==tx n&&gF p.2 e.val) e.key) p.1)&&ih l) es
noncomputable def nZ(v:Value):Str:=match v with|.str x _=>x|_=>⟨#[]⟩
def kM(l:List DictEntry):Bool:=List.rec (motive:=λO=>Bool) true (λe l ih=>kX (λx=> !(l.any λf=>nZ f.key==x)) e.key&&ih) l
def GO(K:Frag)(a:Addr)(t:String)(f:Data->Bool):Bool:=some? (K.lookup a) λo=>o.cls== .type t&&o.dict.isNone&&o.slots.isEmpty&&f o.data
theorem uY{K:Frag}{a:Addr}{t:String}{f:Data->Bool}(h:GO K a t f=true):∃d,K.lookup a=some ⟨.type t,none,d,#[]⟩/\f d=true:=by
 obtain⟨⟨c,d,da,sl⟩,ho,h⟩:=some?_eq h
 obtain⟨⟨⟨e1,e2⟩,e3⟩,e4⟩:=tH h
 obtain rfl:c=_:=eq_of_beq e1
 obtain rfl:d=none:=Option.isNone_iff_eq_none.mp e2
 obtain rfl:sl= #[]:=Array.isEmpty_iff.mp e3
 exact⟨da,ho,e4⟩
def aPr(K:Frag)(a:Nat)(o:SObj):Bool:=match o with
 |.tup xs=>GO K a "tuple" (E0 λvs=>Nat.ble xs.length 1000&&sB xs vs.toList)
 |.dict es=>GO K a "dict" (wJ λents=>xW es ents.toList&&kM ents.toList)
 |_=>false
def aKX(K:Frag)(a:Nat)(o:SObj):Bool:= !(tabs.contains a)&& !(a==sysModules)&&aPr K a o
def bZ(K:Frag)(P:Params)(a:Nat):Prop:=(bN K a).map (·.hash)=(bN K a).map λe=>PyData.keyHash P (nZ e.key)
theorem BY{w:World}{es:List (SV×SV)}:∀{l:List DictEntry},xW es l=true->(∀V,DRs V es (l.map λe=>(nZ e.key,e.val)))/\Pairs (strKind pw w) l (l.map λe=>(nZ e.key,e.val))/\∀e,e∈l->∃x t,e.key= .str x t:=by
 induction es with
 |nil=>intro l h;induction l using List.casesOn with
  |nil=>exact⟨λO=>trivial,.nil,λe he=>by cases he⟩
  |cons _ _=>exact ff h
 |cons p es ih=>intro l h;induction l using List.casesOn with
  |nil=>exact ff h
  |cons e l=>
   refine hold λG_ fin_=>?_
   obtain⟨h1,h2⟩:=aM (a:=xV (λn=>kX (λx=>x==tx n&&gF p.2 e.val) e.key) p.1) (b:=xW es l) h
   obtain⟨i1,i2,i3⟩:=ih h2
   obtain⟨n,e1,h1⟩:=BX h1
   obtain⟨x,t,e2,h1⟩:=fX h1
   refine fin_ ?_
   have h1:=aM h1
   have hk:nZ e.key=x:=by rw[e2];rfl
   refine⟨λV=>⟨⟨⟨n,e1,hk.trans (eq_of_beq h1.1)⟩,gY h1.2 V⟩,i1 V⟩,.cons (by show Value.isStrOf (nZ e.key) e.key=true;rw[hk,e2];simp[Value.isStrOf]) rfl i2,λf hf=>?_⟩
   rcases List.mem_cons.mp hf with rfl|hf
   ·exact⟨x,t,e2⟩
   ·exact i3 f hf
theorem sC{l:List DictEntry}(h:kM l=true):((l.map λe=>(nZ e.key,e.val)).map (·.1)).Nodup:=by
 induction l with
 |nil=>exact List.nodup_nil
 |cons e l ih=>
  obtain⟨h1,h2⟩:=aM (a:=kX (λx=> !(l.any λf=>nZ f.key==x)) e.key) (b:=kM l) h
  refine List.nodup_cons.mpr ⟨λhm=>?_,ih h2⟩
  obtain⟨y,hy,e1⟩:=List.mem_map.mp hm
  obtain⟨f,hf,rfl⟩:=List.mem_map.mp hy
  obtain⟨x,t,e2,h1⟩:=fX h1
  have e1:nZ f.key=nZ e.key:=e1
  rw[e2]at e1
  have:(l.any λf=>nZ f.key==x)=true:=List.any_eq_true.mpr ⟨f,hf,beq_iff_eq.mpr e1⟩
  rw[this]at h1;exact ff h1
theorem eE{w:World}{s:Shared}{S:Value}(k:aX ⟨w,s,S⟩){a:Nat}{o:SObj}(h:aKX (K w.params) a o=true)(hh:bZ (K w.params) w.params a):a∉tabs/\(a==sysModules)=false/\KR ⟨w,s,S⟩ a o:=by
 obtain⟨⟨h1,h2⟩,h3⟩:=hV h
 refine⟨λht=>(by rw[List.contains_iff_mem.mpr ht]at h1;exact ff h1),(Bool.not_eq_true' _).mp h2,?_⟩
 induction o with
 |tup xs=>
  obtain⟨d,ho,h3⟩:=uY h3
  obtain⟨vs,ep,rfl,h3⟩:=tK h3
  exact⟨Nat.le_of_ble_eq_true (aM h3).1,vs,ep,k.1 _ _ ho,nX (aM h3).2⟩
 |dict es=>
  obtain⟨d,ho,h3⟩:=uY h3
  obtain⟨ents,ep,rfl,h3⟩:=pJ h3
  obtain⟨i1,i2,i3⟩:=BY (w:=w) (aM h3).1
  refine⟨_,i1,_,ents,ep,k.1 _ _ ho,⟨rfl,rfl,rfl⟩,rfl,λe he=>?_,i2,sC (aM h3).2⟩
  obtain⟨x,t,hx⟩:=i3 e (Array.mem_toList_iff.mpr he)
  refine⟨x,by rw[hx];show Value.isStrOf x (.str x t)=true;simp[Value.isStrOf],?_⟩
  unfold bZ bN at hh
  rw[ho]at hh
  have:=List.map_inj_left.mp hh e (Array.mem_toList_iff.mpr he)
  rw[hx]at this
  exact this
 |_=>exact ff h3
theorem aAf{w:World}{s:Shared}{S:Value}(k:aX ⟨w,s,S⟩):AllN (λa o=>a∉tabs/\(a==sysModules)=false/\KR ⟨w,s,S⟩ a o) d5:=⟨eE k (by kernel_rfl) (by unfold bZ;kernel_rfl),⟨eE k (by kernel_rfl) (by unfold bZ;kernel_rfl),⟨eE k (by kernel_rfl) (by unfold bZ;kernel_rfl),⟨eE k (by kernel_rfl) (by unfold bZ;kernel_rfl),trivial,trivial⟩,⟨eE k (by kernel_rfl) (by unfold bZ;kernel_rfl),trivial,trivial⟩⟩,⟨eE k (by kernel_rfl) (by unfold bZ;kernel_rfl),⟨eE k (by kernel_rfl) (by unfold bZ;kernel_rfl),trivial,trivial⟩,⟨eE k (by kernel_rfl) (by unfold bZ;kernel_rfl),trivial,trivial⟩⟩⟩,⟨eE k (by kernel_rfl) (by unfold bZ;kernel_rfl),⟨eE k (by kernel_rfl) (by unfold bZ;kernel_rfl),⟨eE k (by kernel_rfl) (by unfold bZ;kernel_rfl),trivial,trivial⟩,⟨eE k (by kernel_rfl) (by unfold bZ;kernel_rfl),trivial,trivial⟩⟩,⟨eE k (by kernel_rfl) (by unfold bZ;kernel_rfl),⟨eE k (by kernel_rfl) (by unfold bZ;kernel_rfl),trivial,trivial⟩,trivial⟩⟩⟩
theorem QI{w:World}{s:Shared}{S:Value}(k:aX ⟨w,s,S⟩):dG ⟨w,s,S⟩:=λa o e=>AllN.get (aAf k) e
end
end
section
noncomputable section
abbrev CT:=List Nat×NT Nat
def vU(p:CT):Bool:=aP p.1 39
def lQ(v:Option (Option Value))(s:String):Bool:=some? v λv=>some? v (S9 (· ==s))
theorem dL(h:lQ v s=true):v=some (some (.builtin s)):=by
 obtain⟨v,rfl,h⟩:=some?_eq h
 obtain⟨v,rfl,h⟩:=some?_eq h
 obtain⟨t,rfl,h⟩:=EZ h
 rw[eq_of_beq h]
def zN(v:Option (Option Value)):Bool:=some? v Option.isNone
theorem xX(h:zN v=true):v=some none:=by
 obtain⟨v,rfl,h⟩:=some?_eq h
 rw[Option.isNone_iff_eq_none.mp h]
def aAg(K:Frag)(f:Nat):Bool:=some? (typeIn K (.ref f)) (EX (· == "function"))
theorem zO{K:Frag}{f:Nat}(h:aAg K f=true):typeIn K (.ref f)=some (.type "function"):=by
 obtain⟨v,e,h⟩:=some?_eq h
 obtain⟨t,rfl,h⟩:=AT h
 rw[e,eq_of_beq h]
def aAh(K:Frag)(m:Option Nat)(v:Option Value):Bool:=Option.rec (motive:=λO=>Bool) v.isNone (λf=>some? v (mT λg=>f==g&&aAg K f)) m
def QJ(K:Frag)(C:Nat)(n:Nm)(_:Bool):Bool:= !(copiedNames.contains (tx n))&&some? (findIn K (.ref C) (tx n)) (aAh K (dE C n))
def xY(K:Frag)(C:Nat)(p:CT):Bool:=some? (clsIn K C) (λcd=>cd.hasDict)&&zN (findIn K (.ref C) "__getattr__")&&iH (QJ K C) attrNames&&
 (match vU p with
 |true=>lQ (findIn K (.ref C) "__getattribute__") "BaseException.__getattribute__" &&mroIn K C (.type "BaseException")==some true
 |false=>lQ (findIn K (.ref C) "__getattribute__") "object.__getattribute__")
theorem aAi{K:Frag}(h:cL (xY K) aO=true):∀C p,aE aO C=some p->l9 K C:=λC p hp=>by
 have hc:=allNB_get h hp
 unfold xY at hc
 obtain⟨⟨⟨c1,c2⟩,c3⟩,c4⟩:=tH hc
 refine⟨?_,λhx=>?_,λhx=>?_,xX c2,λn hn=>?_⟩
 ·exact some?_eq c1
 ·rw[show vU p=false from hx p hp]at c4
  exact dL c4
 ·rw[show vU p=true from hx p hp]at c4
  have c4:(lQ (findIn K (.ref C) "__getattribute__") "BaseException.__getattribute__" &&mroIn K C (.type "BaseException")==some true)=true:=c4
  exact⟨dL (aM c4).1,eq_of_beq (aM c4).2⟩
 ·obtain⟨b,hb⟩:∃b,attrNames.get n=some b:=by
   unfold cE at hn
   induction hq:attrNames.get n with
   |none=>rw[hq]at hn;exact ff hn
   |some b=>exact⟨b,rfl⟩
  have:=kL c3 hb
  obtain⟨t1,t2⟩:=aM this
  refine⟨(Bool.not_eq_true' _).mp t1,?_⟩
  obtain⟨v,e,t2⟩:=some?_eq t2
  induction hm:dE C n with
  |none=>rw[hm]at t2;exact .inl ⟨rfl,by rw[e,Option.isNone_iff_eq_none.mp t2]⟩
  |some f=>
   rw[hm]at t2
   obtain⟨v,rfl,t2⟩:=some?_eq t2
   obtain⟨g,rfl,t2⟩:=eP t2
   exact .inr ⟨f,rfl,by rw[e,eq_of_beq (aM t2).1],zO (aM t2).2⟩
theorem QK(P:Params):cL (xY (K P)) aO=true:=by kernel_rfl
noncomputable def QL:List Value:=[.type "ValueError",.type "Exception",.type "BaseException",.type "object"]
def aKY(l:List Value):Bool:=cJ (λa l=>cJ (λb l=>cJ (λc l=>cJ (λd l=>a== .type "ValueError" &&b== .type "Exception" &&c== .type "BaseException" &&d== .type "object" &&pK l) l) l) l) l
def GP(l:List Value):Bool:=List.rec (motive:=λO=>Bool) false (λv l ih=>aKY (v::l)||(mT (λO=>true) v&&ih)) l
theorem uZ(self:Value):refuseLoop self "__setattr__" QL=pure ():=by kernel_rfl
theorem o0(self:Value)(h:GP l=true):refuseLoop self "__setattr__" l=pure ():=by
 induction l with
 |nil=>exact ff h
 |cons v l ih=>
  rcases Bool.or_eq_true_iff.mp h with h|h
  ·obtain⟨a,l1,e,g1⟩:=bC h
   rw[e]
   obtain⟨b,l2,rfl,g2⟩:=bC g1
   obtain⟨c,l3,rfl,g3⟩:=bC g2
   obtain⟨d,l4,rfl,g4⟩:=bC g3
   obtain⟨⟨⟨⟨h1,h2⟩,h3⟩,h4⟩,h5⟩:=EU g4
   rw[eq_of_beq h1,eq_of_beq h2,eq_of_beq h3,eq_of_beq h4,jA h5]
   exact uZ self
  ·obtain⟨a,rfl,_⟩:=eP (aM h).1
   rw[refuseLoop_ref];exact ih (aM h).2
def GQ(K:Frag)(C:Nat)(_:CT):Bool:=lQ (findIn K (.ref C) "__setattr__") "object.__setattr__" &&some? (clsIn K C) (λcd=> !cd.mro.isEmpty&&cd.mro.contains (.type "object")&&(onlyObject cd.mro||GP cd.mro))
theorem QM(P:Params):cL (GQ (K P)) aO=true:=by kernel_rfl
theorem aAj{K:Frag}(h:cL (GQ K) aO=true):∀C p,aE aO C=some p->rK K C:=λC p hp=>by
 have hc:=allNB_get h hp
 obtain⟨h1,h2⟩:=aM hc
 refine⟨dL h1,?_⟩
 obtain⟨cd,e,h2⟩:=some?_eq h2
 obtain⟨⟨h2,h3⟩,h4⟩:=hV h2
 exact⟨cd,e,(Bool.not_eq_true' _).mp h2,h3,λself=>(Bool.or_eq_true_iff.mp h4).elim (refuse_only self) (o0 self)⟩
def TC(v:Option CFound)(f:Nat):Bool:=some? v λv=>match v with|.val w=>w== .ref f|_=>false
theorem GR(h:TC v f=true):v=some (.val (.ref f)):=by
 obtain⟨v,rfl,h⟩:=some?_eq h
 induction v with
 |val w=>rw[eq_of_beq h]
 |_=>exact ff h
def QN(K:Frag)(C f:Nat):Bool:=TC (findCls K (.ref C) (.type "type") (tx fW)) f&&some? (findIn K (.ref C) "__init__") (λv=>some? v (· == .ref f))&&aAg K f
def GS(K:Frag)(C:Nat):Bool:=Option.rec (motive:=λO=>Bool) true (QN K C) (dE C fW)
def QO(l:List (Option Value)):Bool:=cJ (λO l=>cJ (λO l=>cJ (λO l=>cJ (λO l=>cJ (λv l=>some? v (· == .builtin "ValueError.__new__")&&cJ (λO l=>pK l) l) l) l) l) l) l
def aAk(C:Nat)(l:List Value):Bool:=cJ (λv bm=>v== .ref C&&(Value.ref C::bm).contains (.type "ValueError")&& !((Value.ref C::bm).contains (.type "AttributeError"))&& !((Value.ref C::bm).contains (.type "NameError"))&&(Value.ref C::bm).contains (.type "BaseException")) l
def GT(K:Frag)(C:Nat):Bool:=some? (K.lookup C) λo=>o.cls== .type "type" &&E3 (λcd=> !cd.abstract&& !cd.hasDel&&aAk C cd.mro) o.data&&QO o.slots.toList
def TD(K:Frag)(C:Nat)(p:CT):Bool:=lQ (specialIn K (.ref C) "__call__") "type.__call__" &&some? (K.lookup C) (λo=>E3 (λO=>true) o.data)&&GS K C&&readsIn K C (.type "type")&&lQ (specialIn K (.ref C) "__getattribute__") "type.__getattribute__" &&instIn K (.ref C) (.type "type")==some true&&
 (match vU p with|true=>GT K C|false=>makesIn K C)
theorem aAl{K:Frag}{C:Nat}(h:GT K C=true):E9 K C:=by
 obtain⟨⟨oc,dd,da,sl⟩,e,h⟩:=some?_eq h
 obtain⟨⟨h1,h2⟩,h3⟩:=hV h
 obtain rfl:oc=_:=eq_of_beq h1
 obtain⟨⟨nm',bs',mr',ns',q',hd',sn',sub',ab',col',del'⟩,rfl,h2⟩:=tL h2
 obtain⟨⟨h2,h4⟩,h5⟩:=hV h2
 obtain rfl:ab'=false:=(Bool.not_eq_true' _).mp h2
 obtain rfl:del'=false:=(Bool.not_eq_true' _).mp h4
 obtain⟨v,bm,rfl,h5⟩:=bC (l:=mr') h5
 obtain⟨⟨⟨⟨g1,g2⟩,g3⟩,g4⟩,g5⟩:=EU h5
 obtain rfl:v=_:=eq_of_beq g1
 obtain⟨k0,l0,e0,i0⟩:=bC h3
 obtain⟨k1,l1,rfl,i1⟩:=bC i0
 obtain⟨k2,l2,rfl,i2⟩:=bC i1
 obtain⟨k3,l3,rfl,i3⟩:=bC i2
 obtain⟨k4,l4,rfl,i4⟩:=bC i3
 obtain⟨h3,h6⟩:=aM i4
 obtain⟨w,rfl,h7⟩:=some?_eq h3
 obtain rfl:w=_:=eq_of_beq h7
 obtain⟨k5,l5,rfl,h8⟩:=bC h6
 obtain rfl:=jA h8
 obtain rfl:sl= #[k0,k1,k2,k3,some (.builtin "ValueError.__new__"),k5]:=Array.toList_inj.mp e0
 exact⟨nm',q',ns',bs',bm,hd',sn',sub',col',dd,k0,k1,k2,k3,k5,e,g2,(Bool.not_eq_true' _).mp g3,(Bool.not_eq_true' _).mp g4,g5⟩
theorem aKZ{K:Frag}(h:cL (TD K) aO=true):∀C p,aE aO C=some p->FA K C:=λC p hp=>by
 obtain⟨⟨⟨⟨⟨⟨c1,c2⟩,c3⟩,c4⟩,c5⟩,c6⟩,c7⟩:=PH (allNB_get h hp)
 refine⟨dL c1,?_,λf hf=>?_,c4,eq_of_beq c6,λhx=>?_,λhx=>?_,dL c5⟩
 ·obtain⟨o,e,c2⟩:=some?_eq c2
  obtain⟨cd,hd,_⟩:=tL c2
  exact⟨o,cd,e,hd⟩
 ·unfold GS at c3
  rw[hf]at c3
  obtain⟨⟨d1,d2⟩,d3⟩:=hV c3
  obtain⟨v,e,d2⟩:=some?_eq d2
  obtain⟨v,rfl,d2⟩:=some?_eq d2
  exact⟨GR d1,by rw[e,eq_of_beq d2],zO d3⟩
 ·rw[show vU p=true from hx p hp]at c7
  exact aAl c7
 ·rw[show vU p=false from hx p hp]at c7
  exact c7
theorem aAm(P:Params):cL (TD (K P)) aO=true:=by kernel_rfl
def u3(K:Frag):Bool:=lQ (specialIn K (.builtin "object.__class__") "__get__") "getset_descriptor.__get__" &&takesIn K (.builtin "object.__class__")==some true
def GU(K:Frag)(D:Nat)(p:CT):Bool:=match vU p with
 |true=>true
 |false=>plainGet K D "__class__" &&hasDictIn K D&&lQ (findIn K (.ref D) "__class__") "object.__class__" &&mroIn K D (.type "object")==some true&&
   (["bool","int","str"].all λT=>kitOne K (.ref D) (.type T)==some false)&&cL (λC O=>kitOne K (.ref D) (.ref C)==some (aP p.1 C)) aO
noncomputable def zP(K:Frag)(C:Nat)(_:CT):Bool:=["NoneType","bool","int","str"].all λT=>kitOne K (.type T) (.ref C)==some false
def TE(K:Frag)(D:Nat)(p:CT):Bool:=match vU p with
 |false=>true
 |true=>cL (λC q=>match vU q with|true=>exmOne K (.ref D) (.ref C)==some (aP p.1 C)|false=>true) aO
theorem aAn(P:Params):u3 (K P)=true:=by kernel_rfl
theorem QQ(P:Params):cL (GU (K P)) aO=true:=by kernel_rfl
theorem GV(P:Params):cL (zP (K P)) aO=true:=by kernel_rfl
theorem aAo(P:Params):cL (TE (K P)) aO=true:=by kernel_rfl
theorem sD(hp:aE aO D=some p)(hx:aP p.1 39=false):plainGet (K P) D "__class__" =true/\hasDictIn (K P) D=true/\findIn (K P) (.ref D) "__class__" =some (some (.builtin "object.__class__"))/\mroIn (K P) D (.type "object")=some true/\
 (∀T,T∈ ["bool","int","str"]->kitOne (K P) (.ref D) (.type T)=some false)/\∀C q,aE aO C=some q->kitOne (K P) (.ref D) (.ref C)=some (aP p.1 C):=by
 have h:=allNB_get (QQ P) hp
 unfold GU at h
 rw[show vU p=false from hx]at h
 have h:(plainGet (K P) D "__class__" &&hasDictIn (K P) D&&lQ (findIn (K P) (.ref D) "__class__") "object.__class__" &&mroIn (K P) D (.type "object")==some true&&
  (["bool","int","str"].all λT=>kitOne (K P) (.ref D) (.type T)==some false)&&cL (λC O=>kitOne (K P) (.ref D) (.ref C)==some (aP p.1 C)) aO)=true:=h
 obtain⟨⟨⟨⟨⟨h1,h2⟩,h3⟩,h4⟩,h5⟩,h6⟩:=EV h
 refine⟨h1,h2,dL h3,eq_of_beq h4,λT hT=>?_,λC q hq=>eq_of_beq (allNB_get h6 hq)⟩
 rw[List.all_eq_true]at h5
 exact eq_of_beq (h5 T hT)
theorem aAp(P:Params):(match jP (bN (K P) mainGlobals) ("__builtins__" :Str)with|some (.ref b)=>(match(K P).lookup b with|some ⟨.type t,some d,.plain,_⟩=>t== "module" &&d==builtinsNs&&b !=builtinsNs&&b !=mainGlobals&& !(tabs.contains b)|_=>false)|_=>false)=true:=by kernel_rfl
theorem QR(P:Params):(tabs.all λt=>codeHdIn (K P) (fF t) t&& !(tabs.contains (fF t)))=true:=by kernel_rfl
theorem QS(P:Params):kK (K P) cStatics=true/\(jP (bN (K P) cStatics) ("sys.recursionlimit" :Str)).isNone=true:=⟨by kernel_rfl,by kernel_rfl⟩
set_option tactic.hygienic true in
theorem aLa{w:World}{s:Shared}{S:Value}(k:aX ⟨w,s,S⟩)(ne:dA ⟨w,s,S⟩):aU ⟨w,s,S⟩ where
 glob:=QH k
 kref:=QI k
 kin:=k
 cls:=aAi (QK _)
 set:=aAj (QM _)
 ne:=ne
 lam:=λP hP=>by
  have h:=QR w.params
  rw[List.all_eq_true]at h
  have:=h P hP
  rw[Bool.and_eq_true]at this
  refine⟨codeHd_of_K k.1 this.1,λhc=>?_⟩
  have h2:=this.2
  rw[List.contains_iff_mem.mpr hc]at h2
  exact ff h2
 mkf:=aKZ (aAm _)
 fn:=λa p hp=>AllN.get (aAb k) hp
 lim:=by
  obtain⟨h1,h2⟩:=QS w.params
  exact⟨⟨_,zL k.1 h1,Option.isNone_iff_eq_none.mp h2⟩,by decide⟩
 xm:=λD p C q hp hx hq hy=>by
  have h:=allNB_get (aAo w.params) hp
  unfold TE at h
  rw[show vU p=true from hx]at h
  have h:=allNB_get (f:=λC q=>match vU q with|true=>exmOne (K w.params) (.ref D) (.ref C)==some (aP p.1 C)|false=>true) h hq
  have h:(match vU q with|true=>exmOne (K w.params) (.ref D) (.ref C)==some (aP p.1 C)|false=>true)=true:=h
  rw[show vU q=true from hy]at h
  exact eq_of_beq h
 isi:=λD p hp hx=>by
  obtain⟨h1,h2,h3,h4,_⟩:=sD (P:=w.params) hp hx
  have hg:=aAn w.params
  unfold u3 at hg
  rw[Bool.and_eq_true]at hg
  exact⟨h1,h2,h3,dL hg.1,eq_of_beq hg.2,h4⟩
 isi1:=λC p hp T hT=>by
  have h:=allNB_get (GV w.params) hp
  unfold zP at h
  rw[List.all_eq_true]at h
  exact eq_of_beq (h T hT)
 isi2:=λD p C q hp hx hq=>(sD hp hx).2.2.2.2.2 C q hq
 isi3:=λD p hp hx T hT=>(sD hp hx).2.2.2.2.1 T hT
 bm:=by
  have h:=aAp w.params
  split at h
  ·rename_i b hb
   split at h
   ·rename_i t d sl e
    rw[Bool.and_eq_true,Bool.and_eq_true,Bool.and_eq_true,Bool.and_eq_true]at h
    refine hold λG_ fin_=>?_
    obtain⟨⟨⟨⟨h1,h2⟩,h3⟩,h4⟩,h5⟩:=h
    refine fin_ ?_
    have h1:=eq_of_beq h1
    have h2:=eq_of_beq h2
    subst h1;subst h2
    exact⟨_,b,_,zL k.1 (zM _),hb,by simpa using h3,by simpa using h4,λhc=>(by rw[List.contains_iff_mem.mpr hc]at h5;exact ff h5),k.1 _ _ e,rfl,rfl,rfl⟩
   ·exact ff h
  ·exact ff h
end
end
section
open PySem.SeqAt
noncomputable section
def TF(K:Frag)(D:Nat)(p:CT):Bool:=match vU p with
 |true=>true
 |false=>lQ (findIn K (.ref D) "__eq__") "object.__eq__" &&mroIn K D (.type "object")==some true&&(["NoneType","bool","int","str"].all λT=>mroIn K D (.type T)==some false)
theorem aAq(P:Params):cL (TF (K P)) aO=true:=by kernel_rfl
section
variable{prog:Program}{w:World}{A:Around}{E:Value->Shared->Prop}{K:Frag}{C x:Addr}{s:Shared}{ox:Obj}{od:Option Obj}{u:Value}
theorem gG(hu:iK u):isSame (.ref x) u=pure false/\isSame u (.ref x)=pure false:=by
 rcases hu with rfl|⟨b,rfl⟩|⟨i,t,rfl⟩|⟨y,t,rfl⟩<;>exact⟨rfl,rfl⟩
theorem u4(X:K.In s.heap)(I:InstAt s.heap x ox C od)(hu:iK u)(he:findIn K (.ref C) "__eq__" =some (some (.builtin "object.__eq__")))(ho:mroIn K C (.type "object")=some true)(q:Q none s):
 wpAny (model prog w) A (tryCompare (.ref x) "__eq__" u) Q E s:=by
 have L0:=I.type (M:=model prog w)
 have L1:Looks (model prog w) s.heap (specialOf (.ref x) "__eq__") (some (.builtin "object.__eq__")):=L0.andThen (looks_findIn X he)
 have L2:Looks (model prog w) s.heap (isInstance (.ref x) (.type "object")) true:=L0.andThen (looks_mroIn X ho)
 have hcall:∀{Q':Value->Shared->Prop},Q' .notImplemented s->wpAny (model prog w) A (PySem.call (.builtin "object.__eq__") [.ref x,u]) Q' E s:=λ{Q'} q'=>by
  refine wpAny_call ?_
  refine codeAny_call_builtin (b:=Builtin.«object.__eq__») PySem.F.cmp_object.eq.plain PySem.F.cmpEntry_eq ?_
  have hck:=λQ' E' q=>check_slot (M:=model prog w) (A:=A.in1) (E:=E') (s:=s) (i:= "object.__eq__") (owner:= "object") (n:= "__eq__") (self:=.ref x) (rest:=[u]) (kw:=[]) (Q:=Q') PySem.F.cmpKind_eq PySem.F.cmpSplit_eq L2 (PySem.F.cmpArgs_eq _ _) q
  refine hck _ _ ?_
  unfold Builtin.«object.__eq__»
  have hs:=(gG (x:=x) hu).1
  repeat (first|(with_reducible refine wpAny_of_eq hs ?_)|wp_step)
  exact q'
 unfold tryCompare callSpecialIfBound? bindSpecialIfBound?
 refine wpAny_bind (wpAny_holding (wpAny_bind (wpAny_bind (L1.here ?_))))
 simp-iota only[PySem.F.cmp_object.eq.bind]
 refine wpAny_bind (wpAny_askSetting (wpAny_ite ?_))
 have fin:wpAny (model prog w) A (PySem.call (.builtin "object.__eq__") ([.ref x]++[u]) >>= λv=>pure (some v)) (λr s'=>wpAny (model prog w) A (match r with|some .notImplemented=>pure none|none=>pure none|some v=>pure (some v)) Q E s') E s:=
  wpAny_bind (hcall (wpAny_pure (wpAny_pure q)))
 split
 ·exact wpAny_bind (wpAny_pure (wpAny_pure fin))
 ·exact wpAny_tryCatch (wpAny_bind (wpAny_pure (wpAny_pure fin)))
theorem kN(b:Bool)(l:Addr)(C d:Addr):Meets (Builtin.«int.__eq__» ⟨[.bool b,.ref l],[]⟩) (λO R s=>s.heap.get? l=some (instObj C d)/\R (.ok (.ret .notImplemented)) s):=
 .of_wp λprog w A R s h=>by obtain⟨hp,g,d,tk,os⟩:=s;obtain⟨hl,h⟩:=h;wp_walk using wpAny_loadPart' hl,wpAny_load hl;exact⟨_,rfl,h⟩
theorem lR(i:Int)(t:Tok)(l:Addr)(C d:Addr):Meets (Builtin.«int.__eq__» ⟨[.int i t,.ref l],[]⟩) (λO R s=>s.heap.get? l=some (instObj C d)/\R (.ok (.ret .notImplemented)) s):=
 .of_wp λprog w A R s h=>by obtain⟨hp,g,d,tk,os⟩:=s;obtain⟨hl,h⟩:=h;wp_walk using wpAny_loadPart' hl,wpAny_load hl;exact⟨_,rfl,h⟩
theorem lT(i:Str)(t:Tok)(l:Addr)(C d:Addr):Meets (Builtin.«str.__eq__» ⟨[.str i t,.ref l],[]⟩) (λO R s=>s.heap.get? l=some (instObj C d)/\R (.ok (.ret .notImplemented)) s):=
 .of_wp λprog w A R s h=>by obtain⟨hp,g,d,tk,os⟩:=s;obtain⟨hl,h⟩:=h;wp_walk using wpAny_loadPart' hl,wpAny_load hl;exact⟨_,rfl,h⟩
theorem u5(hx:s.heap.get? x=some (instObj C d))(hu:iK u)(q:Q none s):wpAny (model prog w) A (tryCompare u "__eq__" (.ref x)) Q E s:=by
 rcases hu with rfl|⟨b,rfl⟩|⟨i,t,rfl⟩|⟨y,t,rfl⟩
 ·exact wpAny_tryCompare_declines (T:= "NoneType") rfl PySem.F.slot_NoneType_eq (call_gives PySem.F.slot_NoneType_eq rfl PySem.F.entry_NoneType_eq (PySem.F.args_NoneType_eq_2 _ _) (NoneType___eq___none_ref_0 x) ⟨rfl,q⟩)
 ·exact wpAny_tryCompare_declines (T:= "bool") rfl PySem.F.slot_bool_eq (call_meets PySem.F.slot_bool_eq rfl PySem.F.entry_int_eq (PySem.F.args_int_eq_2 _ _) (kN b x C d) ⟨hx,rfl,q⟩)
 ·exact wpAny_tryCompare_declines (typeIs_int s i t) PySem.F.slot_int_eq (call_meets PySem.F.slot_int_eq (typeIs_int s i t) PySem.F.entry_int_eq (PySem.F.args_int_eq_2 _ _) (lR i t x C d) ⟨hx,rfl,q⟩)
 ·exact wpAny_tryCompare_declines (typeIs_str s y t) PySem.F.slot_str_eq (call_meets PySem.F.slot_str_eq (typeIs_str s y t) PySem.F.entry_str_eq (PySem.F.args_str_eq_2 _ _) (lT y t x C d) ⟨hx,rfl,q⟩)
theorem GW(T:String)(C:Addr)(h:T= "NoneType" ∨T= "bool" ∨T= "int" ∨T= "str"):isSubtype (.type T) (.ref C)=pure false:=by
 rcases h with rfl|rfl|rfl|rfl<;>(rw[isSubtype_type];kernel_rfl)
theorem BZ(s:Shared)(hu:iK u):∃T,s.TypeIs u T/\(T= "NoneType" ∨T= "bool" ∨T= "int" ∨T= "str"):=by
 rcases hu with rfl|⟨b,rfl⟩|⟨i,t,rfl⟩|⟨y,t,rfl⟩
 ·exact⟨"NoneType",rfl,.inl rfl⟩
 ·exact⟨"bool",rfl,.inr (.inl rfl)⟩
 ·exact⟨"int",typeIs_int s i t,.inr (.inr (.inl rfl))⟩
 ·exact⟨"str",typeIs_str s y t,.inr (.inr (.inr rfl))⟩
theorem jR(X:K.In s.heap)(I:InstAt s.heap x (instObj C d) C od)(hu:iK u)(he:findIn K (.ref C) "__eq__" =some (some (.builtin "object.__eq__")))(ho:mroIn K C (.type "object")=some true)(hn:∀T,T∈ ["NoneType","bool","int","str"]->mroIn K C (.type T)=some false)(hr:A.units<cLine)(q:Q (.bool false) s):
 wpAny (model prog w) A (richCompare .Eq (.ref x) u) Q E s/\wpAny (model prog w) A (richCompare .Eq u (.ref x)) Q E s:=by
 have hx:=I.at_
 have L0:=I.type (M:=model prog w)
 obtain⟨T,hT,hT4⟩:=BZ s hu
 have hm:T∈ ["NoneType","bool","int","str"]:=by rcases hT4 with rfl|rfl|rfl|rfl<;>simp
 have S1:=GW T C hT4
 have S2:=looks_mroIn (M:=model prog w) X (hn T hm)
 have o1:oneThing? .Eq (.ref x) u=none:=by rcases hu with rfl|⟨b,rfl⟩|⟨i,t,rfl⟩|⟨y,t,rfl⟩<;>rfl
 have o2:oneThing? .Eq u (.ref x)=none:=by rcases hu with rfl|⟨b,rfl⟩|⟨i,t,rfl⟩|⟨y,t,rfl⟩<;>rfl
 have hi:cmpInfo CmpOp.Eq=(("==","__eq__","__eq__"):String×Str×Str):=rfl
 have n1:(Value.ref C !=Value.type T)=true:=rfl
 have n2:(Value.type T !=Value.ref C)=true:=rfl
 constructor
 ·simp-iota only[richCompare,hi,o1]
  refine wpAny_holding ?_
  refine wpAny_bind (wpAny_cRoomFor_or (.inr hr) ?_)
  refine wpAny_bind (L0.here (wpAny_bind (wpAny_typeOf hT ?_)))
  simp-iota only[n1,if_true]
  refine wpAny_bind (wpAny_of_eq S1 ?_)
  simp-iota only[Bool.false_eq_true,if_false,Bool.not_false,if_true]
  refine wpAny_bind (m:=tryCompare (.ref x) _ u) (u4 X I hu he ho ?_)
  refine wpAny_bind (m:=tryCompare u _ (.ref x)) (u5 hx hu ?_)
  exact wpAny_bind (wpAny_rule (wpAny_bind (wpAny_of_eq (gG hu).1 (wpAny_pure q))))
 ·simp-iota only[richCompare,hi,o2]
  refine wpAny_holding ?_
  refine wpAny_bind (wpAny_cRoomFor_or (.inr hr) ?_)
  refine wpAny_bind (wpAny_typeOf hT (wpAny_bind (L0.here ?_)))
  simp-iota only[n2,if_true]
  refine wpAny_bind (S2.here ?_)
  simp-iota only[Bool.false_eq_true,if_false,Bool.not_false,if_true]
  refine wpAny_bind (m:=tryCompare u _ (.ref x)) (u5 hx hu ?_)
  refine wpAny_bind (m:=tryCompare (.ref x) _ u) (u4 X I hu he ho ?_)
  exact wpAny_bind (wpAny_rule (wpAny_bind (wpAny_of_eq (gG hu).2 (wpAny_pure q))))
end
theorem aLb(k:aX ⟨w,s₀,S⟩):dA ⟨w,s₀,S⟩:=λ{C V J s} I {i Cl es} ho A hA u hu=>by
 obtain⟨_,_,⟨_,p,hp,hx⟩,d,m,g1,g2,g3,g4⟩:=I.T i _ ho
 obtain⟨o,es',ep,g5,_⟩:=id g3
 have h:=allNB_get (aAq w.params) hp
 unfold TF at h
 rw[show vU p=false from hx]at h
 have h:(lQ (findIn (K w.params) (.ref Cl) "__eq__") "object.__eq__" &&mroIn (K w.params) Cl (.type "object")==some true&&(["NoneType","bool","int","str"].all λT=>mroIn (K w.params) Cl (.type T)==some false))=true:=h
 rw[Bool.and_eq_true,Bool.and_eq_true]at h
 obtain⟨⟨h1,h2⟩,h3⟩:=h
 rw[List.all_eq_true]at h3
 have ia:InstAt s.heap (V.ρ i) (instObj Cl d) Cl (some o):=⟨g1,rfl,rfl,g5⟩
 have hr:A.units<cLine:=by exact Nat.lt_of_succ_lt hA
 have ne1:(Value.ref (V.ρ i)==u)=false:=by rcases hu with rfl|⟨b,rfl⟩|⟨i,t,rfl⟩|⟨y,t,rfl⟩<;>rfl
 have ne2:(u==Value.ref (V.ρ i))=false:=by rcases hu with rfl|⟨b,rfl⟩|⟨i,t,rfl⟩|⟨y,t,rfl⟩<;>rfl
 refine⟨λprog w' E Q q=>?_,λprog w' E Q q=>?_⟩
 ·unfold eqBool
  refine wpAny_holding ?_
  refine wpAny_ite_split (λhab=>by rw[ne1]at hab;exact ff hab) (λO=>?_)
  exact wpAny_bind ((jR (I.K k) ia hu (dL h1) (eq_of_beq h2) (λT hT=>eq_of_beq (h3 T hT)) hr (Q:=λv s'=>wpAny _ A (truthOfDropped v) Q E s') (wpAny_truthy_bool q)).1)
 ·unfold eqBool
  refine wpAny_holding ?_
  refine wpAny_ite_split (λhab=>by rw[ne2]at hab;exact ff hab) (λO=>?_)
  rcases hu with rfl|⟨b,rfl⟩|⟨i',t,rfl⟩|⟨y,t,rfl⟩<;>
   exact wpAny_bind ((jR (I.K k) ia (by first|exact .inl rfl|exact .inr (.inl ⟨_,rfl⟩)|exact .inr (.inr (.inl ⟨_,_,rfl⟩))|exact .inr (.inr (.inr ⟨_,_,rfl⟩))) (dL h1) (eq_of_beq h2) (λT hT=>eq_of_beq (h3 T hT)) hr (Q:=λv s'=>wpAny _ A (truthOfDropped v) Q E s') (wpAny_truthy_bool q)).2)
theorem aLc(h:hook.says w s.heap):aU ⟨w,s,S⟩:=aLa (GN h) (aLb (GN h))
end
end
section
open PySem.SeqAt
section
variable{Z:Gd}{C:Cf}{V:Vl}{J:St}{s:Shared}{A:Around}{env:Env}{c:Cx}{E:Value->Shared->Prop}
theorem eU(I:Inv Z C V J s)(en:EnvOk C V c env)(hk:aF c.names (aA x)=some .local)(hv:aD J.L (aA x)=some v)(q:∀u,VR V v u->Q u s):wpAny Z.M A (eval (.Name x p) env) Q E s:=by
 have kr:KindRel (aF c.names (aA x)) (env.kindOf x):=en.kinds (aA x)
 rw[hk]at kr
 have hko:env.kindOf x=some .local:=by
  generalize hz:env.kindOf x=z at kr
  cases kr;rfl
 refine hold λG_ fin_=>?_
 obtain⟨m,hm,ha⟩:=I.L.2
 have:=ha (aA x)
 rw[hv,aJ]at this
 obtain⟨u,h1,h2⟩:=this
 refine fin_ ?_
 refine wpAny_Name (wpAny_loadName_local en.kind hko (en.loc▸hm.ns) h1 (q u h2)) ?_
 refine beq_eq_false_iff_ne.mpr λe=>?_
 rw[show env.kindOf x=none by rw[e];exact en.dbg]at hko
 exact fo hko
structure dC(V:Vl)(h:Heap)(i:Nat)(L:Addr)(p:Nat)(t:Tok)(k:Nat)(u:Tok)(ep:Nat)(xs:Array Value)(ep':Nat):Prop where
 at_:h.get? (V.ρ i)=some ⟨.type "list",none,.seq #[.ref L,.int (Int.ofNat p) t,.int (Int.ofNat k) u] ep,#[]⟩
 own:V.own L=some (.dict i)
 lst:h.get? L=some ⟨.type "list",none,.seq xs ep',#[]⟩
 nums:∀v,v∈xs.toList->∃z t,v= .int z t
 le:xs.size≤1000
theorem GX(I:Inv Z C V J s)(h:J.T.get i=some .box):∃L p t k u ep xs ep',dC V s.heap i L p t k u ep xs ep':=by
 refine hold λG_ fin_=>?_
 obtain⟨_,_,ep,ep',L,p,t,k,u,xs,h1,h2,h3,h4,h5⟩:=I.T i _ h
 refine fin_ ?_
 exact⟨L,p,t,k,u,ep,xs,ep',h1,h2,h3,h4,h5⟩
theorem GY{i:Nat}{L:Addr}{p k ep ep':Nat}{t u:Tok}{xs:Array Value}(B:dC V s.heap i L p t k u ep xs ep'){j:Nat}{tk:Tok}{v:Value}(hv: #[Value.ref L,.int (Int.ofNat p) t,.int (Int.ofNat k) u][j]?=some v){Q:Value->Shared->Prop}(q:Q v s){o sl:Expr}(hs:subscripted sl false (.ref (V.ρ i)) (.int (j:Int) tk)=operate [.ref (V.ρ i),.int (j:Int) tk] (getItem (.ref (V.ρ i)) (.int (j:Int) tk))):
 wpAny Z.M A (subscriptTail o sl (.ref (V.ρ i)) (.int (j:Int) tk)) Q E s:=by
 have hl:s.heap.IsList (V.ρ i) #[.ref L,.int (Int.ofNat p) t,.int (Int.ofNat k) u]:=⟨_,B.at_,rfl,ep,rfl⟩
 have hj:j<3:=by have:=(Array.getElem?_eq_some_iff.mp hv).1;simpa using this
 refine cM hl.typeIs slot_list_getitem.lookup ?_ hs
 exact wpAny_getItem_list hl (Int.natCast_nonneg _) (ET (Nat.le_of_lt (Nat.lt_trans hj (by decide)))) (by simpa using hv) q
theorem eV(I:Inv Z C V J s)(en:EnvOk C V c env){i:Nat}{L:Addr}{p k ep ep':Nat}{t u:Tok}{xs:Array Value}(B:dC V s.heap i L p t k u ep xs ep'){x:Str}(hk:aF c.names (aA x)=some .local)(hb:aD J.L (aA x)=some (.ref i))
 {j:Nat} {jj:Int} (hjj:jj=(j:Int)) {y:Nat} {p1 p2 p3:Pos} {v:Value} (hv: #[Value.ref L,.int (Int.ofNat p) t,.int (Int.ofNat k) u][j]?=some v) {Q:Value->Shared->Prop} (q:Q v {s with toks:=s.toks+1}):wpAny Z.M A (eval (.Subscript (.Name x p1) (.Constant (.int jj) y p2) p3) env) Q E s:=by
 subst hjj
 refine PyProof.Rows.Subscript_ (eU I en hk hb λw r=>?_)
 exact VR.el_ref r λO=>by
  refine wpAny_Constant_int ?_
  exact GY (s:={s with toks:=s.toks+1}) ⟨B.at_,B.own,B.lst,B.nums,B.le⟩ hv q rfl
end
end
section
open PySem.SeqAt
section
variable{Z:Gd}{C:Cf}{V:Vl}{J:St}{s:Shared}{A:Around}{env:Env}{c:Cx}{E:Value->Shared->Prop}
theorem QW(I:Inv Z C V J s)(en:EnvOk C V c env){i:Nat}(ho:J.T.get i=some .box){L:Addr}{p k ep ep':Nat}{t u:Tok}{xs:Array Value}(B:dC V s.heap i L p t k u ep xs ep'){x:Str}(hk:aF c.names (aA x)=some .local)(hx:aD J.L (aA x)=some (.ref i))
 {j:Nat} {jj:Int} (hjj:jj=(j:Int)) (hj:j<3) {y:Nat} {p1 p2 p3:Pos} {w:Value} {p' k':Nat} {t' u':Tok} (hw: #[Value.ref L,.int (Int.ofNat p) t,.int (Int.ofNat k) u].setIfInBounds j w= #[.ref L,.int (Int.ofNat p') t',.int (Int.ofNat k') u']) {Q:Unit->Shared->Prop}
 (q:∀h' ep2,Inv Z C V J {s with heap:=h',toks:=s.toks+1}->dC V h' i L p' t' k' u' ep2 xs ep'->Q () {s with heap:=h',toks:=s.toks+1}):wpAny Z.M A (assign (.Subscript (.Name x p1) (.Constant (.int jj) y p2) p3) env w) Q E s:=by
 subst hjj
 rw[arm_assign_Subscript]
 refine wpAny_bind (wpAny_holding (eU I en hk hx λou r=>?_))
 exact VR.el_ref r λO=>by
  refine wpAny_bind (wpAny_holding (wpAny_Constant_int ?_))
  refine wpAny_bind (wpAny_standAt (wpAny_bind (wpAny_holding ?_)))
  refine eS (s:={s with toks:=s.toks+1}) B.at_ (Int.natCast_nonneg _) (ET (Nat.le_of_lt (Nat.lt_trans hj (by decide)))) (by simp only[List.size_toArray,List.length_cons,List.length_nil];exact Int.ofNat_lt.mpr hj) (dU ?_)
  obtain⟨t1,t2,_⟩:=I.T i _ ho
  obtain⟨n',hm⟩:∃n',Obj.mapSeq (·.setIfInBounds (j:Int).toNat w) ⟨.type "list",none,.seq #[Value.ref L,.int (Int.ofNat p) t,.int (Int.ofNat k) u] ep,#[]⟩=⟨.type "list",none,.seq (#[Value.ref L,.int (Int.ofNat p) t,.int (Int.ofNat k) u].setIfInBounds j w) n',#[]⟩:=⟨_,rfl⟩
  obtain⟨n2,hd'⟩:=Obj.data_mapSeq (o:=⟨.type "list",none,.seq #[Value.ref L,.int (Int.ofNat p) t,.int (Int.ofNat k) u] ep,#[]⟩) rfl (·.setIfInBounds (j:Int).toNat w)
  have gs:=Heap.get?_update_self (Obj.mapSeq (·.setIfInBounds (j:Int).toNat w)) B.at_ (Obj.isFreed_of_seq hd')
  have other:∀b,b≠V.ρ i->(s.heap.update (V.ρ i) (Obj.mapSeq (·.setIfInBounds (j:Int).toNat w))).get? b=s.heap.get? b:=λb hb=>Heap.get?_update_other _ _ (Ne.symm hb)
  have neL:L≠V.ρ i:=λz=>by have:=B.own;rw[z,t2]at this;cases this
  have gs':(s.heap.update (V.ρ i) (Obj.mapSeq (·.setIfInBounds (j:Int).toNat w))).get? (V.ρ i)=some ⟨.type "list",none,.seq #[.ref L,.int (Int.ofNat p') t',.int (Int.ofNat k') u'] n',#[]⟩:=by
   rw[gs,hm,hw]
  have B':dC V (s.heap.update (V.ρ i) (Obj.mapSeq (·.setIfInBounds (j:Int).toNat w))) i L p' t' k' u' n' xs ep':=⟨gs',B.own,(other L neL).trans B.lst,B.nums,B.le⟩
  refine q _ n' (I.go (Vl.Le.refl V) (λw=>w= .obj i) rfl (aZ (Heap.SameBut.update ..) ⟨_,gs'⟩) (λa o h=>.inl h) (λb o hb e=>(other b λz=>hb _ (z▸t2) rfl).trans e) I.n (λm o h=>?_) (.inl ⟨rfl,nofun⟩) (λO O=>nofun) (λO=>nofun) nofun (λm ks e=>.inl ⟨e,λz=>?_⟩) I.X) B'
  ·by_cases z:m=i
   ·subst z
    rw[ho]at h;obtain rfl:=Option.some.inj h
    exact .inr ⟨t1,t2,n',ep',L,p',t',k',u',xs,gs',B.own,B'.lst,B.nums,B.le⟩
   ·exact .inl ⟨h,λe=>z (Own.obj.inj e),nofun,nofun⟩
  ·cases z
   obtain⟨_,_,vs,ep3,k3,_⟩:=I.tk i ks e
   rw[B.at_]at k3
   exact absurd (Value.type.inj (congrArg Obj.cls (Option.some.inj k3))) (by decide)
end
end
section
open PySem.SeqAt
section
variable{Z:Gd}{C:Cf}{V:Vl}{J:St}{s:Shared}{A:Around}{env:Env}{c:Cx}{E:Value->Shared->Prop}
theorem zQ(I:Inv Z C V J s)(en:EnvOk C V c env){i:Nat}(ho:J.T.get i=some .box){L:Addr}{p k ep ep':Nat}{t u:Tok}{xs:Array Value}(B:dC V s.heap i L p t k u ep xs ep'){x:Str}(hk:aF c.names (aA x)=some .local)(hx:aD J.L (aA x)=some (.ref i))
 {j:Nat} {jj:Int} (hjj:jj=(j:Int)) (hj:j<3) {y y' y2:Nat} {p1 p2 p3 p4 p5 p6 p7 p8 p9:Pos} {z:Nat} {tz:Tok} (hv: #[Value.ref L,.int (Int.ofNat p) t,.int (Int.ofNat k) u][j]?=some (.int (Int.ofNat z) tz)) {p' k':Nat} {t' u':Nat->Tok}
 (hw:∀tk,#[Value.ref L,.int (Int.ofNat p) t,.int (Int.ofNat k) u].setIfInBounds j (.int (Int.ofNat (z+1)) tk)= #[.ref L,.int (Int.ofNat p') (t' tk),.int (Int.ofNat k') (u' tk)]) {Q:Flow->Shared->Prop}
 (q:∀h' tk ep2 t2 u2,Inv Z C V J {s with heap:=h',toks:=tk}->dC V h' i L p' t2 k' u2 ep2 xs ep'->Q .next {s with heap:=h',toks:=tk}):
 wpAny Z.M A (exec (.Assign [.Subscript (.Name x p1) (.Constant (.int jj) y p2) p3] (.BinOp (.Subscript (.Name x p4) (.Constant (.int jj) y' p5) p6) .Add (.Constant (.int 1) y2 p7) p8) p9) env) Q E s:=by
 refine wpAny_Assign_stores (wpAny_BinOp (eV I en B hk hx hjj hv ?_)) rfl rfl
 refine wpAny_Constant_int ?_
 refine P.add_int ?_
 rw[cA (λe' p' z=>by cases z)]
 have e1:(Int.ofNat z+1:Int)=Int.ofNat (z+1):=rfl
 rw[e1]
 show wpAny Z.M A (assign (.Subscript (.Name x p1) (.Constant (.int jj) y p2) p3) env (.int (Int.ofNat (z+1)) _)) (λO=>Q .next) E _
 refine QW (s:={s with toks:=s.toks+1+1+1}) (Q:=λO s'=>Q .next s') (I.tok _) en ho ⟨B.at_,B.own,B.lst,B.nums,B.le⟩ hk hx hjj hj (hw _) λh' ep2 I' B'=>?_
 exact q h' _ ep2 _ _ I' B'
end
end
section
set_option backward.match.sparseCases false
open PySem.SeqAt
section
variable{Z:Gd}(G:aU Z){C:Cf}{V:Vl}{J:St}{s:Shared}{A:Around}{env:Env}{c:Cx}{E:Value->Shared->Prop}
noncomputable def GZ(k:Nat)(v:SV):Bool:=match v with|.bi b=>Nat.beq b k|_=>false
include G in
theorem dO(I:Inv Z C V J s)(en:EnvOk C V c env)(hk:aF c.names (aA x)=some .globalImplicit)(hg:dQ (aA x)=some (.bi b))(hb:pL b=some u)(q:Q u s):wpAny Z.M A (eval (.Name x p) env) Q E s:=by
 have h:eN c (aA x) J (λv O=>GZ b v)=true:=by
  obtain⟨names,cells,tb⟩:=c
  show some? (aF names (aA x)) (s9 cells (aA x) J λv O=>GZ b v)=true
  rw[show aF names (aA x)=some .globalImplicit from hk]
  show some? (dQ (aA x)) (λv=>GZ b v)=true
  rw[hg];exact Nat.beq_refl b
 have:=eA (A:=A) (E:=E) (Q:=Q) G.glob I en h λv w h r=>by
  induction r with
  |bi b' _ hb'=>
   obtain rfl:=Nat.eq_of_beq_eq_true h
   rw[hb]at hb';obtain rfl:=Option.some.inj hb';exact q
  |_=>exact ff h
 rw[aJ]at this
 refine wpAny_Name this ?_
 refine beq_eq_false_iff_ne.mpr λe=>?_
 have kr:KindRel (aF c.names (aA x)) (env.kindOf x):=en.kinds (aA x)
 rw[hk,show env.kindOf x=none by rw[e];exact en.dbg]at kr
 cases kr
include G in
theorem QY(I:Inv Z C V J s)(en:EnvOk C V c env)(B:dC V s.heap i L p t k u ep xs ep')(hk:aF c.names (aA x)=some .local)(hx:aD J.L (aA x)=some (.ref i))(hkl:aF c.names (aA l)=some .globalImplicit)(hg:dQ (aA l)=some (.bi 0))(q:∀tk tt,Q (.int (Int.ofNat xs.size) tt) {s with toks:=tk}):
 wpAny Z.M A (eval (.Call (.Name l p1) [.Subscript (.Name x p2) (.Constant (.int 0) y p3) p4] [] p5) env) Q E s:=by
 rw[arm_eval_Call_Name']
 refine wpAny_bind (dO G I en hkl hg rfl ?_)
 refine callWith_of (P:=λh=>True) rfl (λh O=>⟨.machine,.inr (.inl rfl),.now⟩) ?_
 refine evalArgs_plain (wpAny_items_cons (eV I en B hk hx (j:=0) rfl rfl (wpAny_items_nil ⟨trivial,?_⟩)) rfl)
 exact call_len_list (s:={s with toks:=s.toks+1}) ⟨_,B.lst,rfl,ep',rfl⟩ (by have:=B.le;exact ET this) (q _ _)
end
end
section
open PySem.SeqAt
section
variable{Z:Gd}(G:aU Z){C:Cf}{V:Vl}{J:St}{s:Shared}{A:Around}{env:Env}{c:Cx}{E:Value->Shared->Prop}
theorem G0(I:Inv Z C V J s)(en:EnvOk C V c env)(B:dC V s.heap i L (p+1) t k u ep xs ep')(hk:aF c.names (aA x)=some .local)(hx:aD J.L (aA x)=some (.ref i))(hkl:aF c.names (aA l)=some .local)(hm:aD J.L (aA l)=some (.int (Int.ofNat m)))(hm0:0<m)(hp:p<xs.size)(q:∀(z:Int) t' tk tt,xs[p]?=some (.int z t')->Q (.int (z.fmod (Int.ofNat m)) tt) {s with toks:=tk}):
 wpAny Z.M A (eval (.BinOp (.Subscript (.Subscript (.Name x q1) (.Constant (.int 0) y1 q2) q3) (.BinOp (.Subscript (.Name x q4) (.Constant (.int 1) y2 q5) q6) .Sub (.Constant (.int 1) y3 q7) q8) q9) .Mod (.Name l q10) q11) env) Q E s:=by
 have hv:xs[p]?=some xs[p]:=Array.getElem?_eq_getElem hp
 obtain⟨z,tz,hz⟩:=B.nums xs[p] (Array.getElem_mem_toList hp)
 refine wpAny_BinOp ?_
 refine PyProof.Rows.Subscript_ (eV I en B hk hx (j:=0) rfl rfl ?_)
 refine wpAny_BinOp (eV (s:={s with toks:=s.toks+1}) (I.tok _) en ⟨B.at_,B.own,B.lst,B.nums,B.le⟩ hk hx (j:=1) rfl rfl ?_)
 refine wpAny_Constant_int (P.sub_int ?_)
 have e1:(Int.ofNat (p+1)-1:Int)=(p:Int):=by simp only[Int.ofNat_eq_natCast];exact aIR
 rw[e1]
 have hl:s.heap.IsList L xs:=⟨_,B.lst,rfl,ep',rfl⟩
 have hl':({s with toks:=s.toks+1+1+1+1}:Shared).heap.IsList L xs:=hl
 refine cM (s:={s with toks:=s.toks+1+1+1+1}) hl'.typeIs slot_list_getitem.lookup ?_ rfl
 refine wpAny_getItem_list hl' (Int.natCast_nonneg _) (by have:=B.le;exact ET (Nat.le_of_lt (Nat.lt_of_lt_of_le hp this))) (by rw[Int.toNat_natCast];exact hv) ?_
 rw[hz]
 refine eU (I.tok _) en hkl hm λw r=>?_
 exact VR.el_int r λtm=>by exact PyProof.Rows.mod_int (by simp only[Int.ofNat_eq_natCast];exact Int.natCast_ne_zero_iff_pos.mpr hm0) (q z tz _ _ (hz▸hv))
end
end
section
open PySem.SeqAt
section
variable{Z:Gd}(G:aU Z){C:Cf}{V:Vl}{J:St}{s:Shared}{A:Around}{env:Env}{c:Cx}{E:Value->Shared->Prop}
theorem G1(I:Inv Z C V J s)(en:EnvOk C V c env)(B:dC V s.heap i L p t k u ep xs ep')(hk:aF c.names (aA x)=some .local)(hx:aD J.L (aA x)=some (.ref i))(hkl:aF c.names (aA l)=some .local)(hm:aD J.L (aA l)=some (.int (Int.ofNat m)))(hm0:0<m)(q:∀tk tt,Q (.int (((Int.ofNat k).fmod 3).fmod (Int.ofNat m)) tt) {s with toks:=tk}):
 wpAny Z.M A (eval (.BinOp (.BinOp (.Subscript (.Name x q1) (.Constant (.int 2) y1 q2) q3) .Mod (.Constant (.int 3) y2 q4) q5) .Mod (.Name l q6) q7) env) Q E s:=by
 refine wpAny_BinOp (wpAny_BinOp (eV I en B hk hx (j:=2) rfl rfl ?_))
 refine wpAny_Constant_int (PyProof.Rows.mod_int (by decide) ?_)
 refine eU (I.tok _) en hkl hm λw r=>?_
 exact VR.el_int r λtm=>by exact PyProof.Rows.mod_int (by simp only[Int.ofNat_eq_natCast];exact Int.natCast_ne_zero_iff_pos.mpr hm0) (q _ _)
theorem qD(z:Int)(h:0<m):∃d,d<m/\z.fmod (Int.ofNat m)=Int.ofNat d:=by
 have h0:(0:Int)<(m:Int):=by exact Int.ofNat_lt.mpr h
 have h1:=Int.fmod_nonneg_of_pos z h0
 have h2:=Int.fmod_lt_of_pos z h0
 exact⟨(z.fmod (m:Int)).toNat,by exact(Int.toNat_lt h1).mpr h2,by simp only[Int.ofNat_eq_natCast];exact(Int.toNat_of_nonneg h1).symm⟩
end
end
section
open PySem.SeqAt
section
variable{Z:Gd}(G:aU Z){C:Cf}{V:Vl}{J:St}{s:Shared}{A:Around}{env:Env}{c:Cx}{E:Value->Shared->Prop}
include G in
theorem aAr(I:Inv Z C V J s)(en:EnvOk C V c env)(B:dC V s.heap i L (p+1) t k u ep xs ep')(hk:aF c.names (aA x)=some .local)(hx:aD J.L (aA x)=some (.ref i))(hkl:aF c.names (aA l)=some .local)(hm:aD J.L (aA l)=some (.int (Int.ofNat m)))(hm0:0<m)(hkn:aF c.names (aA ln)=some .globalImplicit)(hg:dQ (aA ln)=some (.bi 0))(qn:∀tk,xs[p]?=none->Q .next {s with toks:=tk})(qr:∀(z:Int) t' tk tt,xs[p]?=some (.int z t')->Q (.ret (.int (z.fmod (Int.ofNat m)) tt)) {s with toks:=tk}):
 wpAny Z.M A (exec (.If (.Compare (.Subscript (.Name x r1) (.Constant (.int 1) y0 r2) r3) [.LtE] [.Call (.Name ln r4) [.Subscript (.Name x r5) (.Constant (.int 0) y4 r6) r7] [] r8] r9)
  [.Return (some (.BinOp (.Subscript (.Subscript (.Name x q1) (.Constant (.int 0) y1 q2) q3) (.BinOp (.Subscript (.Name x q4) (.Constant (.int 1) y2 q5) q6) .Sub (.Constant (.int 1) y3 q7) q8) q9) .Mod (.Name l q10) q11)) r10] [] r11) env) Q E s:=by
 rw[exec_If]
 refine wpAny_bind (wpAny_standAt (wpAny_bind (wpAny_isTrue_Compare1 (eV I en B hk hx (j:=1) rfl rfl ?_) rfl)))
 refine QY G (s:={s with toks:=s.toks+1}) (I.tok _) en ⟨B.at_,B.own,B.lst,B.nums,B.le⟩ hk hx hkn hg λtk tt=>?_
 refine PyProof.Rows.le_int (wpAny_truthy_bool ?_)
 by_cases h:(Int.ofNat (p+1)≤Int.ofNat xs.size)
 ·rw[decide_eq_true h]
  have hp:p<xs.size:=by simp only[Int.ofNat_eq_natCast]at h;exact Int.ofNat_le.mp h
  show wpAny Z.M A (execs [.Return (some _) r10] env) Q E _
  rw[execs_cons]
  refine wpAny_bind ?_
  rw[exec_Return_some]
  refine wpAny_bind (wpAny_standAt (wpAny_bind (G0 (s:={s with toks:=tk}) (I.tok _) en ⟨B.at_,B.own,B.lst,B.nums,B.le⟩ hk hx hkl hm hm0 hp λz t' tk' tt' e=>?_)))
  exact wpAny_pure (wpAny_pure (qr z t' _ _ e))
 ·rw[decide_eq_false h]
  exact wpAny_pure (qn _ (Array.getElem?_eq_none (Nat.not_lt.mp λq=>h (Int.ofNat_le.mpr q))))
end
end
section
open PySem.SeqAt
noncomputable section
noncomputable abbrev po(l a b:Nat):Pos:=⟨l,a,l,b⟩
noncomputable abbrev mG:Str:=Str.ofString "box"
noncomputable abbrev mnS:Str:=Str.ofString "many"
noncomputable abbrev IG:Str:=Str.ofString "len"
def n4:List Stmt:=[
 .Assign [.Subscript (.Name mG (po 552 4 7)) (.Constant (.int 1) 0 (po 552 8 9)) (po 552 4 10)] (.BinOp (.Subscript (.Name mG (po 552 13 16)) (.Constant (.int 1) 0 (po 552 17 18)) (po 552 13 19)) .Add (.Constant (.int 1) 0 (po 552 22 23)) (po 552 13 23)) (po 552 4 23),
 .If (.Compare (.Subscript (.Name mG (po 553 7 10)) (.Constant (.int 1) 0 (po 553 11 12)) (po 553 7 13)) [.LtE] [.Call (.Name IG (po 553 17 20)) [.Subscript (.Name mG (po 553 21 24)) (.Constant (.int 0) 0 (po 553 25 26)) (po 553 21 27)] [] (po 553 17 28)] (po 553 7 28))
   [.Return (some (.BinOp (.Subscript (.Subscript (.Name mG (po 554 15 18)) (.Constant (.int 0) 0 (po 554 19 20)) (po 554 15 21)) (.BinOp (.Subscript (.Name mG (po 554 22 25)) (.Constant (.int 1) 0 (po 554 26 27)) (po 554 22 28)) .Sub (.Constant (.int 1) 0 (po 554 31 32)) (po 554 22 32)) (po 554 15 33)) .Mod (.Name mnS (po 554 36 40)) (po 554 15 40))) (po 554 8 40)] [] ⟨553,4,554,40⟩,
 .Assign [.Subscript (.Name mG (po 555 4 7)) (.Constant (.int 2) 0 (po 555 8 9)) (po 555 4 10)] (.BinOp (.Subscript (.Name mG (po 555 13 16)) (.Constant (.int 2) 0 (po 555 17 18)) (po 555 13 19)) .Add (.Constant (.int 1) 0 (po 555 22 23)) (po 555 13 23)) (po 555 4 23),
 .Return (some (.BinOp (.BinOp (.Subscript (.Name mG (po 556 11 14)) (.Constant (.int 2) 0 (po 556 15 16)) (po 556 11 17)) .Mod (.Constant (.int 3) 0 (po 556 20 21)) (po 556 11 21)) .Mod (.Name mnS (po 556 24 28)) (po 556 11 28))) (po 556 4 28)]
theorem B3:fO (tD 52)=n4:=by kernel_rfl
theorem gZ:dQ (aA IG)=some (.bi 0):=by kernel_rfl
end
end
section
open PySem.SeqAt
section
variable{Z:Gd}(G:aU Z){C:Cf}{V:Vl}{J:St}{s:Shared}{A:Around}{env:Env}{c:Cx}{E:Value->Shared->Prop}
include G in
theorem qE(I:Inv Z C V J s)(en:EnvOk C V c env)(ho:J.T.get i=some .box)(hm0:0<m)(k1:aF c.names (aA mG)=some .local)(k2:aF c.names (aA mnS)=some .local)(k3:aF c.names (aA IG)=some .globalImplicit)(hx:aD J.L (aA mG)=some (.ref i))(hm:aD J.L (aA mnS)=some (.int (Int.ofNat m)))(B:dC V s.heap i L p t k u ep xs ep')(q:∀s' tt t' u' ep2,dC V s'.heap i L (p+1) t' (tP p k xs) u' ep2 xs ep'->Inv Z C V J s'->Q (.ret (.int ((gQ p k xs).fmod (Int.ofNat m)) tt)) s'):
 wpAny Z.M A (execs n4 env) Q E s:=by
 have fin:∀(z:Int) tk tt (s':Shared) k' t' u' ep2,gQ p k xs=z->tP p k xs=k'->dC V s'.heap i L (p+1) t' k' u' ep2 xs ep'->Inv Z C V J s'->Q (.ret (.int (z.fmod (Int.ofNat m)) tt)) {s' with toks:=tk}:=λz tk tt s' k' t' u' ep2 e e' B' I'=>by
  rw[<-e];subst e';exact q _ tt t' u' ep2 ⟨B'.at_,B'.own,B'.lst,B'.nums,B'.le⟩ (I'.tok tk)
 unfold n4
 rw[execs_cons]
 refine wpAny_bind (zQ I en ho B k1 hx (j:=1) rfl (by decide) (z:=p) rfl (p':=p+1) (k':=k) (t':=λtk=>tk) (u':=λO=>u) (λtk=>rfl) λh1 tk1 ep1 t1 u1 I1 B1=>?_)
 show wpAny Z.M A (execs _ env) Q E _
 rw[execs_cons]
 refine wpAny_bind (aAr G I1 en B1 k1 hx k2 hm hm0 k3 gZ (λtk hp=>?_) λz t' tk tt hp=>wpAny_pure (fin z tk tt _ _ _ _ _ (by unfold gQ;rw[hp]) (by unfold tP;rw[hp]) B1 I1))
 show wpAny Z.M A (execs _ env) Q E _
 rw[execs_cons]
 refine wpAny_bind (zQ (s:={s with heap:=h1,toks:=tk}) (I1.tok tk) en ho ⟨B1.at_,B1.own,B1.lst,B1.nums,B1.le⟩ k1 hx (j:=2) rfl (by decide) (z:=k) rfl (p':=p+1) (k':=k+1) (t':=λO=>t1) (u':=λtk=>tk) (λtk=>rfl) λh2 tk2 ep2 t2 u2 I2 B2=>?_)
 show wpAny Z.M A (execs _ env) Q E _
 rw[execs_cons]
 refine wpAny_bind ?_
 rw[exec_Return_some]
 refine wpAny_bind (wpAny_standAt (wpAny_bind (G1 I2 en B2 k1 hx k2 hm hm0 λtk tt=>?_)))
 exact wpAny_pure (wpAny_pure (fin _ tk tt _ _ _ _ _ (by unfold gQ;rw[hp]) (by unfold tP;rw[hp]) B2 I2))
end
end
section
set_option backward.match.sparseCases false
noncomputable section
theorem Inv.tell(I:Inv Z C V J s)(hsy:J.sy=true)(hd:d<1000):
 V.Le {V with X:=some (Int.ofNat d)}/\Inv Z C {V with X:=some (Int.ofNat d)} ⟨J.T,J.n,J.L,false⟩ s:=by
 have hX:=I.X.1 hsy
 have le:V.Le {V with X:=some (Int.ofNat d)}:=⟨Nat.le_refl _,λO O=>rfl,λO O e=>e,λx e=>(by rw[hX]at e;exact fo e),λO O e=>e,λO e=>e,λO O e=>e,rfl⟩
 exact⟨le,I.go le (λO=>False) rfl (λb x e=>⟨x,e⟩) (λa o h=>.inl h) (λb x O e=>e) I.n (λk x h=>.inl ⟨h,id,id,id⟩) (.inl ⟨rfl,id⟩) (λO O=>id) (λO=>id) id (λi ks e=>.inl ⟨e,id⟩)
  ⟨nofun,λx e=>by obtain rfl:=Option.some.inj e;simp only[Int.ofNat_eq_natCast];exact⟨Int.natCast_nonneg _,Int.ofNat_lt.mpr hd⟩⟩⟩
theorem Inv.unbox(I:Inv Z C V J s)(h:J.T.get i=some (.boxd j m d))(hT:J.T.set? .box i=some T'):
 Inv Z C V ⟨T',J.n,J.L,J.sy⟩ s/\∃L p t k u ep xs ep',dC V s.heap i L p t k u ep xs ep'/\(tQ j p k xs).fmod (Int.ofNat m)=Int.ofNat d:=by
 obtain⟨t1,t2,ep,ep',L,p,t,k,u,xs,h1,h2,h3,h4,h5,h6⟩:=I.T i _ h
 refine⟨I.store (h':=s.heap) (t:=s.toks) h hT (λx e=>by rw[h1]at e;obtain rfl:=Option.some.inj e;exact λe=>absurd (Value.type.inj e) (by decide)) (λb x e=>⟨x,e⟩) (λb x O O O e=>e) ⟨ep,ep',L,p,t,k,u,xs,h1,h2,h3,h4,h5⟩,L,p,t,k,u,ep,xs,ep',⟨h1,h2,h3,h4,h5⟩,h6⟩
theorem n5:∀{T T1:PT} {i:Nat},T.set? o i=some T1->∃T2,T.set? o' i=some T2
 |.nil,T1,i,h=>by
  unfold PT.set? at h⊢
  by_cases q:i=0
  ·rw[if_pos q];exact⟨_,rfl⟩
  ·rw[if_neg q]at h;exact fo h
 |.node v l r,T1,i,h=>by
  unfold PT.set? at h⊢
  by_cases q:i=0
  ·rw[if_pos q];exact⟨_,rfl⟩
  ·rw[if_neg q]at h⊢
   by_cases q':i%2=1
   ·rw[if_pos q']at h⊢
    refine hold λG_ fin_=>?_
    obtain⟨l1,e,_⟩:=Option.map_eq_some_iff.mp h
    obtain⟨l2,e2⟩:=n5 (o':=o') e
    refine fin_ ?_
    exact⟨_,by rw[e2];rfl⟩
   ·rw[if_neg q']at h⊢
    refine hold λG_ fin_=>?_
    obtain⟨l1,e,_⟩:=Option.map_eq_some_iff.mp h
    obtain⟨l2,e2⟩:=n5 (o':=o') e
    refine fin_ ?_
    exact⟨_,by rw[e2];rfl⟩
theorem Inv.rebox{Z:Gd}{C:Cf}{V:Vl}{J:St}{s:Shared}(I:Inv Z C V J s){i j m d:Nat}(h:J.T.get i=some .box){L:Addr}{p k ep ep':Nat}{t u:Tok}{xs:Array Value}(B:dC V s.heap i L p t k u ep xs ep')
 (hd:(tQ j p k xs).fmod (Int.ofNat m)=Int.ofNat d) {T':PT} (hT:∀x,T'.get x=if x=i then some (.boxd j m d)else J.T.get x):Inv Z C V ⟨T',J.n,J.L,J.sy⟩ s:=by
 refine⟨I.base,I.tab,I.own,I.n,λx o e=>?_,I.L,I.frs,I.ext,I.tk,I.X,I.tabLo,I.sm,I.sc,I.tg⟩
 rw[hT]at e
 by_cases q:x=i
 ·subst q
  rw[if_pos rfl]at e;obtain rfl:=Option.some.inj e
  obtain⟨t1,t2,_⟩:=I.T x _ h
  exact⟨t1,t2,ep,ep',L,p,t,k,u,xs,B.at_,B.own,B.lst,B.nums,B.le,hd⟩
 ·rw[if_neg q]at e;exact I.T x o e
noncomputable def xZ(o:Option NameKind):Bool:=match o with|some .local=>true|_=>false
noncomputable def G2(o:Option NameKind):Bool:=match o with|some .globalImplicit=>true|_=>false
def TH(c:Cx):Bool:=xZ (aF c.names (aA mG))&&xZ (aF c.names (aA mnS))&&G2 (aF c.names (aA IG))
def zR(J:St)(k:KK):Bool:=some? (aD J.L (aA mG)) λb=>lL b λi=>some? (aD J.L (aA mnS)) λm=>v7 m λm=>
 Bool.rec (motive:=λO=>Bool) false (wF i m J (λr J=>match r with|.val v=>k (.ret v) J|_=>false) (J.T.get i)) (Nat.blt 0 m&&Nat.blt m 1000)
def ihT:Ih:=λt J k O=>match t with|.exs _ c=>Bool.rec (motive:=λO=>Bool) false (zR J k) (TH c)|_=>false
theorem hE(h:xZ o=true):o=some .local:=by
 induction o with
 |none=>exact ff h
 |some k=>induction k with
  | «local»=>rfl
  |_=>exact ff h
theorem qF(h:G2 o=true):o=some .globalImplicit:=by
 induction o with
 |none=>exact ff h
 |some k=>induction k with
  |globalImplicit=>rfl
  |_=>exact ff h
theorem x4(i m:Nat)(J:St)(k:KK):callFn ihT (cS 740) (tD 52) [] [.ref i,.int (.ofNat m)] J k dN=take [.ref i,.int (.ofNat m)] J k:=by kernel_rfl
theorem B4(h:take as J k=true):∃i m,as=[.ref i,.int (.ofNat m)]:=by
 induction as using List.casesOn with
 |nil=>exact ff h
 |cons v as=>induction v with
  |ref i=>induction as using List.casesOn with
   |nil=>exact ff h
   |cons w as=>induction w with
    |int z=>induction z with
     |ofNat m=>induction as using List.casesOn with
      |nil=>exact⟨i,m,rfl⟩
      |cons _ _=>exact ff h
     |negSucc _=>exact ff h
    |_=>exact ff h
  |_=>exact ff h
theorem zS{Z:Gd}{C:Cf}{V:Vl}{J:St}{s:Shared}(I:Inv Z C V J s){m:Nat}(m0:0<m)(m1:m<1000){k:KK}{z:Int}{tt:Tok}(h:i7 m J (λr J=>match r with|.val v=>k (.ret v) J|_=>false)=true){R:Prop}
 (q:∀v J' V',V.Le V'->Inv Z C V' J' s->k (.ret v) J'=true->VR V' v (.int (z.fmod (Int.ofNat m)) tt)->R):R:=by
 obtain⟨d,hd,e⟩:=qD z m0
 rw[e]at q
 have h:Bool.rec (motive:=λO=>Bool) (bG (λd=>k (.ret (.int (.ofNat d))) J) (wE m)) (k (.ret (.lin 0)) ⟨J.T,J.n,J.L,false⟩) J.sy=true:=h
 induction hsy:J.sy with
 |false=>
  rw[hsy]at h
  exact q _ _ _ (Vl.Le.refl V) I (a8 h d (List.mem_range.mpr hd)) (.int _ tt)
 |true=>
  rw[hsy]at h
  obtain⟨le,I2⟩:=I.tell hsy (Nat.lt_trans hd m1)
  refine q _ _ _ le I2 h ?_
  have:=VR.lin (V:={V with X:=some (Int.ofNat d)}) (Int.ofNat d) 0 tt rfl
  rwa [Int.add_zero]at this
section
variable{Z:Gd}(G:aU Z)
include G in
theorem sE{n:Nat}{c:Cx}{J:St}{k:KK}{kx:KX}(h:ihT (.exs (fO (tD 52)) c) J k kx=true){C:Cf}{V:Vl}{s:Shared}{A:Around}{env:Env}{Q:Flow->Shared->Prop}{E:Value->Shared->Prop}
 (I:Inv Z C V J s) (a:AOk C A n) (en:EnvOk C V c env) (hh:A.handled=none) (q:QF Z C V k Q) (xx:QX Z C V kx E):wpAny Z.M A (execs (fO (tD 52)) env) Q E s:=by
 rw[B3]
 obtain⟨hk,h⟩:=aB (b:=TH c) (x:=zR J k) h
 obtain⟨⟨k1,k2⟩,k3⟩:=hV hk
 obtain⟨b,hx,h⟩:=some?_eq h
 obtain⟨i,rfl,h⟩:=d9 h
 obtain⟨m,hm,h⟩:=some?_eq h
 obtain⟨m,rfl,h⟩:=gN h
 obtain⟨hc,h⟩:=aB h
 obtain⟨m0,m1⟩:=aM hc
 have m0:0<m:=Nat.lt_of_succ_le (Nat.le_of_ble_eq_true m0)
 have m1:m<1000:=Nat.lt_of_succ_le (Nat.le_of_ble_eq_true m1)
 induction ho:J.T.get i with
 |none=>rw[ho]at h;exact ff h
 |some ob=>
  rw[ho]at h
  induction ob with
  |box=>
   refine hold λG_ fin_=>?_
   obtain⟨L,p,t,k',u,ep,xs,ep',B⟩:=GX I ho
   refine fin_ ?_
   refine qE G I en ho m0 (hE k1) (hE k2) (qF k3) hx hm B λs' tt O O O O I'=>?_
   exact zS I' m0 m1 h λv J' V' le I2 hk r=>q.ret _ _ _ _ _ hk le I2 r
  |boxd j m' d=>
   refine hold λG_ fin_=>?_
   obtain⟨T1,hT1⟩:∃T1,J.T.set? .box i=some T1:=by
    induction j using Nat.casesOn with
    |zero=>
     have h1:(match Nat.beq m m' with|true=>store J i .box (k (.ret (.int (.ofNat d))))|false=>false)=true:=h
     induction hb:Nat.beq m m' with
     |false=>rw[hb]at h1;exact ff h1
     |true=>rw[hb]at h1;obtain⟨T',hT,_⟩:=a0 h1;exact⟨T',hT⟩
    |succ j=>
     have h1:Mine.store J i (.boxd j m' d) (λJ=>i7 m J λr J=>match r with|.val v=>k (.ret v) J|_=>false)=true:=h
     obtain⟨T',hT,_⟩:=a0 h1
     exact n5 hT
   obtain⟨I1,L,p,t,k',u,ep,xs,ep',B,e⟩:=I.unbox ho hT1
   refine fin_ ?_
   refine qE G I1 en (by show T1.get i=_;rw[PT.get_set _ _ _ _ hT1,if_pos rfl]) m0 (hE k1) (hE k2) (qF k3) hx hm B λs' tt t2 u2 ep2 B2 I'=>?_
   induction j using Nat.casesOn with
   |zero=>
    have h1:(match Nat.beq m m' with|true=>store J i .box (k (.ret (.int (.ofNat d))))|false=>false)=true:=h
    clear h
    induction hb:Nat.beq m m' with
    |false=>rw[hb]at h1;exact ff h1
    |true=>
     rw[hb]at h1
     refine hold λG_ fin_=>?_
     obtain rfl:=Nat.eq_of_beq_eq_true hb
     obtain⟨T',hT,h⟩:=a0 h1
     refine fin_ ?_
     rw[hT1]at hT;obtain rfl:=Option.some.inj hT
     have e:(gQ p k' xs).fmod (Int.ofNat m)=Int.ofNat d:=e
     rw[e]
     exact q.ret _ _ _ _ _ h (Vl.Le.refl V) I' (.int _ tt)
   |succ j=>
    have h1:Mine.store J i (.boxd j m' d) (λJ=>i7 m J λr J=>match r with|.val v=>k (.ret v) J|_=>false)=true:=h
    clear h
    obtain⟨T',hT,h⟩:=a0 h1
    have I3:Inv Z C V ⟨T',J.n,J.L,J.sy⟩ s':=I'.rebox (by show T1.get i=_;rw[PT.get_set _ _ _ _ hT1,if_pos rfl]) B2 e λx=>by
     rw[PT.get_set _ _ _ _ hT,PT.get_set _ _ _ _ hT1]
     by_cases q:x=i
     ·rw[if_pos q,if_pos q]
     ·rw[if_neg q,if_neg q,if_neg q]
    exact zS I3 m0 m1 h λv J' V' le I2 hk r=>q.ret _ _ _ _ _ hk le I2 r
  |_=>exact ff h
include G in
theorem sG:xF Z:=by
 intro as J k h C V s A n vs Q E I a hh rs q
 refine hold λG_ fin_=>?_
 obtain⟨i,m,rfl⟩:=B4 h
 obtain⟨p,hp⟩:∃p,aE iJ 740=some p:=Option.isSome_iff_exists.mp (by kernel_rfl)
 have hp':aE iJ 740=some (tD 52,[]):=by kernel_rfl
 obtain⟨o,fd,F⟩:=G.fn 740 _ hp'
 refine fin_ ?_
 rw[<-x4]at h
 refine nU G F h I a hh rs ?_ q (λx u J V' s h=>by exact ff h)
 intro c J k kx h C V s A env Q E I a en hh q xx
 exact sE G h I a en hh q xx
include G in
theorem QZ(n:Nat):gS Z n (run n):=Z9 G (sG G) n
end
end
end
section
set_option backward.match.sparseCases false
noncomputable section
noncomputable def gH(m:Nat):SV->Bool
 |.ref i=>Nat.blt i m|.lin _=>false|.opq _=>false
 |_=>true
def u6(m:Nat):SObj->Bool
 |.inst _ es=>es.all λp=>gH m p.2
 |.exc _ es=>es.all λp=>gH m p.2
 |.dict es=>iA es&&es.all λp=>gH m p.2
 |.list xs=>xs.all (gH m)
 |.tup xs=>xs.all (gH m)
 |.range _ _=>true
 |.cell none=>true
 |.cell (some v)=>gH m v
 |.box=>true
 |.boxd _ _ _=>true
 |_=>false
noncomputable def b8(m:Nat):Own->Bool
 |.obj i=>Nat.blt i m|.dict i=>Nat.blt i m|.tb i=>Nat.blt i m|.code=>true
 |_=>false
noncomputable def Vl.cut(V V0:Vl)(lv:Nat)(R':Option (Nat×(Str->Option Value)):=V0.R):Vl where
 ρ:=V.ρ
 own:=λa=>match V0.own a with|some o=>some o|none=>(match V.own a with|some o=>if b8 lv o=true then some o else none|none=>none)
 X:=V0.X
 n:=lv
 tk:=V0.tk
 R:=R'
 Y:=V0.Y
 S:=V.S
theorem zT{V V0:Vl}{lv:Nat}{R':Option (Nat×(Str->Option Value))}(le:V0.Le V){a:Addr}{o:Own}(h:(V.cut V0 lv R').own a=some o):V.own a=some o:=by
 change(match V0.own a with|some o=>some o|none=>(match V.own a with|some o=>if b8 lv o=true then some o else none|none=>none))=some o at h
 induction e:V0.own a with
 |some o'=>rw[e]at h;obtain rfl:=Option.some.inj h;exact le.own _ _ e
 |none=>
  rw[e]at h
  induction e':V.own a with
  |none=>rw[e']at h;exact fo h
  |some o'=>
   rw[e']at h
   change(if b8 lv o'=true then some o' else none)=some o at h
   by_cases q:b8 lv o'=true
   ·rw[if_pos q]at h;exact h
   ·rw[if_neg q]at h;exact fo h
theorem eL{V V0:Vl}{lv:Nat}{R':Option (Nat×(Str->Option Value))}(le:V0.Le V)(hm:V0.n≤lv)(hR:∀r,V0.R=some r->R'=some r:=by exact λO e=>e):V0.Le (V.cut V0 lv R'):=
 ⟨hm,le.ρ,λa o e=>by show(match V0.own a with|some o=>some o|none=>_)=some o;rw[e],λO e=>e,λO O e=>e,hR,λO O e=>e,le.S⟩
theorem cO{V V0:Vl}{lv:Nat}{R':Option (Nat×(Str->Option Value))}(le:V0.Le V){a:Addr}{o:Own}(h:V.own a=some o)(ht:b8 lv o=true):(V.cut V0 lv R').own a=some o:=by
 show(match V0.own a with|some o=>some o|none=>(match V.own a with|some o=>if b8 lv o=true then some o else none|none=>none))=some o
 induction e:V0.own a with
 |some o'=>rw[<-le.own _ _ e,h]
 |none=>
  rw[h]
  show(if b8 lv o=true then some o else none)=some o
  rw[if_pos ht]
theorem dY{V V0:Vl}{lv:Nat}{R':Option (Nat×(Str->Option Value))}(le:V0.Le V){a:Addr}(h:V.own a=none):(V.cut V0 lv R').own a=none:=by
 induction e:(V.cut V0 lv R').own a with
 |none=>rfl
 |some o=>rw[zT le e]at h;cases h
theorem bF(h:Nat.blt i m=true):i<m:=Nat.lt_of_succ_le (Nat.le_of_ble_eq_true h)
theorem VR.cut(h:VR V v u)(f:gH lv v=true):VR (V.cut V0 lv R') v u:=by
 induction h with
 |ref i hi=>exact .ref (V:=V.cut V0 lv R') i (bF f)
 |lin x c t hx=>exact ff f
 |opq k z t hz=>exact ff f
 |none=>exact .none
 |bool b=>exact .bool b
 |int i t=>exact .int i t
 |str s t=>exact .str s t
 |fn a=>exact .fn a
 |cls a=>exact .cls a
 |kref a=>exact .kref a
 |bi k _ hk=>exact .bi k _ hk
 |any _ hw=>exact .any _ hw
 |scr hw=>exact .scr (V:=V.cut V0 lv R') hw
 |one l n t hn=>exact .one l n t hn
theorem VRs.cut(h:VRs V xs us):xs.all (gH lv)=true->VRs (V.cut V0 lv R') xs us:=by
 refine h.ind (λO=>trivial) λx xs u us r O ih f=>?_
 rw[List.all_cons,Bool.and_eq_true]at f
 exact⟨r.cut f.1,ih f.2⟩
theorem hG{α:Type}{n:Nm}{v:α}:∀{es:List (Nm×α)},aD es n=some v->∃p,p∈es/\p.2=v:=by
 intro es
 induction es with
 |nil=>
  intro h
  exact fo h
 |cons p es rec_=>
  intro h
  rw[aH]at h
  by_cases q:p.1=n
  ·rw[if_pos q]at h;obtain rfl:=Option.some.inj h;exact⟨p,.head _,rfl⟩
  ·rw[if_neg q]at h;obtain⟨p',h1,h2⟩:=rec_ h;exact⟨p',.tail _ h1,h2⟩
theorem AR.cut{V V0:Vl}{lv:Nat}{R':Option (Nat×(Str->Option Value))}{es:List (Nm×SV)}{m:Str->Option Value}(h:AR V es m)(f:(es.all λp=>gH lv p.2)=true):AR (V.cut V0 lv R') es m:=λn=>by
 have:=h n
 induction q:aD es n with
 |none=>rw[q]at this;exact this
 |some v=>
  rw[q]at this;obtain⟨u,a,b⟩:=this
  obtain⟨p,h1,rfl⟩:=hG q
  exact⟨u,a,b.cut (List.all_eq_true.mp f p h1)⟩
theorem DRs.cut(h:DRs V s v):(s.all λp=>gH lv p.2)=true->DRs (V.cut V0 lv R') s v:=by
 refine h.ind (λO=>trivial) λp s e v r O ih f=>?_
 rw[List.all_cons,Bool.and_eq_true]at f
 exact⟨⟨r.1,r.2.cut f.1⟩,ih f.2⟩
theorem OR.cut(le:V0.Le V)(x:OR Z V h i a o)(hi:i<lv)(f:u6 lv o=true):OR Z (V.cut V0 lv R') h i a o:=by
 have td:b8 lv (.dict i)=true:=Nat.ble_eq_true_of_le hi
 have tt:b8 lv (.tb i)=true:=Nat.ble_eq_true_of_le hi
 induction o with
 |inst C es=>obtain⟨e0,d,m,e1,e2,e3,e4⟩:=x;exact⟨e0,d,m,e1,cO le e2 td,e3,e4.cut f⟩
 |exc C es=>
  obtain⟨e0,d,vs,e1,e2,e5,e6⟩:=x
  refine⟨e0,d,vs,e1,?_,e5,e6.imp id ?_⟩
  ·induction d with
   |none=>exact e2
   |some d=>obtain⟨m,e2,e3,e4⟩:=e2;exact⟨m,cO le e2 td,e3,e4.cut f⟩
  ·rintro ⟨T,oT,ts,f1,f2,f3,f4⟩
   exact⟨T,oT,ts,f1,cO le f2 tt,f3,f4⟩
 |dict es=>
  obtain⟨e0,o,ents,ep,e1,e2,e3,e4⟩:=x
  obtain⟨f1,f2⟩:=Bool.and_eq_true_iff.mp f
  refine⟨e0,o,ents,ep,e1,e2,e3,?_⟩
  rcases e4 with⟨kvs,q,r⟩|⟨xs,q,r1,r2⟩
  ·exact .inl ⟨kvs,q.cut f2,r⟩
  ·induction es using List.casesOn with
   |nil=>induction xs with
    |nil=>exact .inr ⟨[],trivial,r1,r2⟩
    |cons _ _=>exact q.elim
   |cons p es=>induction xs using List.casesOn with
    |nil=>exact q.elim
    |cons _ _=>
     obtain⟨⟨⟨j,e,_⟩,_⟩,_⟩:=q
     obtain⟨k,w⟩:=p
     subst e;exact ff f1
 |list xs=>obtain⟨e0,vs,ep,e1,e2⟩:=x;exact⟨e0,vs,ep,e1,e2.cut f⟩
 |tup xs=>obtain⟨e0,vs,ep,e1,e2⟩:=x;exact⟨e0,vs,ep,e1,e2.cut f⟩
 |range b n=>exact x
 |cell v=>
  induction v with
  |none=>rcases x with q|⟨u,v',q1,q2,q3⟩
         ·exact .inl q
         ·exact fo q2
  |some v=>rcases x with⟨_,q⟩|⟨u,v',q1,q2,q3⟩
           ·cases q
           ·obtain rfl:=Option.some.inj q2;exact .inr ⟨u,v,q1,rfl,q3.cut f⟩
 |box=>obtain⟨ep,ep',L,p,t,c,u,xs,e1,e2,e3,e4⟩:=x;exact⟨ep,ep',L,p,t,c,u,xs,e1,cO le e2 td,e3,e4⟩
 |boxd j m d=>obtain⟨ep,ep',L,p,t,c,u,xs,e1,e2,e3,e4⟩:=x;exact⟨ep,ep',L,p,t,c,u,xs,e1,cO le e2 td,e3,e4⟩
 |_=>exact ff f
def gI(m:Nat)(L L':List (Nm×SV)):Prop:=∀n,match aD L' n with
 |some v=>∃v0,aD L n=some v0/\(v= .any∨(v=v0/\gH m v=true))
 |none=>aD L n=none
theorem AR.less(h:AR V L m)(l:gI lv L L'):AR (V.cut V0 lv R') L' m:=λn=>by
 have h1:=h n
 have h2:=l n
 induction q:aD L' n with
 |none=>rw[q]at h2;rw[h2]at h1;exact h1
 |some v=>
  rw[q]at h2
  obtain⟨v0,e,h2⟩:=h2
  rw[e]at h1
  obtain⟨u,a,b⟩:=h1
  rcases h2 with rfl|⟨rfl,f⟩
  ·exact⟨u,a,.any u b.handed⟩
  ·exact⟨u,a,b.cut f⟩
def G3(o o':SObj):Prop:=o=o'∨(o'= .box/\∃j m d,o= .boxd j m d)∨o'= .cell (some .any)/\∃v,o= .cell (some v)
theorem Inv.cut{Z:Gd}{C C0 C':Cf}{V V0:Vl}{lv:Nat}{R':Option (Nat×(Str->Option Value))}{J J0 J':St}{s t:Shared}(I0:Inv Z C0 V0 J0 t)(le:V0.Le V)(hm:V0.n≤lv)(I:Inv Z C V J s)(hn:J'.n=lv)
 (hT:∀j o',J'.T.get j=some o'->j<lv/\((∃o,J.T.get j=some o/\G3 o o')/\u6 lv o'=true∨V.own (V.ρ j)=some (.obj j)/\OR Z (V.cut V0 lv R') s.heap j (V.ρ j) o')) (hL:gI lv J.L J'.L)
 (c1:C'.L=C.L) (c2:C0.L=C.L) (c3:C'.frs=C.frs) (c4:C0.frs=C.frs)
 (hext:∀(k:Nat) (a:Addr) (o:Obj),C'.ext[k]?=some (a,o)->(V.cut V0 lv R').own a=none/\Z.s0.heap.get? a=none/\s.heap.get? a=some o) (hsy:J'.sy=true->V0.X=none) (hR:∀r,V0.R=some r->R'=some r:=by exact λO e=>e):
 Inv Z C' (V.cut V0 lv R') J' s:=by
 refine⟨I.base,λa ha=>?_,λa o h=>I.own a o (zT le h),hn,λj o' h=>?_,⟨?_,?_⟩,λk a d h=>?_,hext,λi ks h=>?_,⟨hsy,I0.X.2⟩,I.tabLo,I.sm,I.sc,λa o h=>?_⟩
 ·obtain⟨ps,h1,h2,h3⟩:=I.tab a ha
  refine⟨ps,h1,h2,λpos cv e=>?_⟩
  obtain⟨c,o,vs,t,e1,e2,e3,e4,e5⟩:=h3 pos cv e
  exact⟨c,o,vs,t,e1,e2,e3,e4,e5.imp id λq=>cO le q rfl⟩
 ·obtain⟨h1,h5⟩:=hT j o' h
  rcases h5 with⟨⟨o,h2,h3⟩,h4⟩|⟨t2,t3⟩
  ·obtain⟨t1,t2,t3⟩:=I.T j o h2
   refine⟨h1,cO le t2 (Nat.ble_eq_true_of_le h1),?_⟩
   show OR Z (V.cut V0 lv R') s.heap j (V.ρ j) o'
   rcases h3 with rfl|⟨rfl,j',m,d,rfl⟩|⟨rfl,v,rfl⟩
   ·exact t3.cut le h1 h4
   ·refine OR.cut le ?_ h1 h4
    obtain⟨ep,ep',L,p,t,c,u,xs,e1,e2,e3,e4,e5,_⟩:=t3
    exact⟨ep,ep',L,p,t,c,u,xs,e1,e2,e3,e4,e5⟩
   ·rcases t3 with⟨_,q⟩|⟨u,v',q1,q2,q3⟩
    ·cases q
    ·obtain rfl:=Option.some.inj q2;exact .inr ⟨u,.any,q1,rfl,.any u q3.handed⟩
  ·exact⟨h1,cO le t2 (Nat.ble_eq_true_of_le h1),t3⟩
 ·rw[c1,c3,<-c2,<-c4];exact(eL le hm hR).own _ _ I0.L.1
 ·obtain⟨m,h1,h2⟩:=I.L.2
  exact⟨m,by rw[c1];exact h1,h2.less hL⟩
 ·rw[c3]at h
  obtain⟨_,h2⟩:=I.frs k a d h
  rw[<-c4]at h
  exact⟨(eL le hm hR).own _ _ (I0.frs k a d h).1,h2⟩
 ·obtain⟨t1,t2,_⟩:=I0.tk i ks h
  obtain⟨_,_,t3⟩:=I.tk i ks (le.tk _ _ h)
  refine⟨Nat.lt_of_lt_of_le t1 hm,?_,t3⟩
  show(V.cut V0 lv R').own (V.ρ i)=_
  rw[le.ρ i t1];exact(eL le hm hR).own _ _ t2
 ·change(match V0.own a with|some o=>some o|none=>(match V.own a with|some o=>if b8 lv o=true then some o else none|none=>none))=some o at h
  induction e:V0.own a with
  |some o'=>rw[e]at h;exact os h ((I0.tg a _ e).le hm)
  |none=>
   rw[e]at h
   induction e':V.own a with
   |none=>rw[e']at h;exact fo h
   |some o'=>
    rw[e']at h
    change(if b8 lv o'=true then some o' else none)=some o at h
    by_cases q:b8 lv o'=true
    ·rw[if_pos q]at h;cases h
     induction o with
     |obj i=>exact bF q
     |dict i=>exact bF q
     |tb i=>exact bF q
     |_=>trivial
    ·rw[if_neg q]at h;exact fo h
section
variable{Z:Gd}{n:Nat}{ih:Ih}(S:gS Z n ih)
open Classical in
def u7(r0:Rs)(J':St):KK:=λr J=>decide (r=r0/\J=J')
open Classical in
theorem eW(h:u7 r0 J' r J=true):r=r0/\J=J':=of_decide_eq_true h
open Classical in
theorem iR(r0:Rs)(J':St):u7 r0 J' r0 J'=true:=decide_eq_true ⟨rfl,rfl⟩
include S in
theorem Q0(e:∀k:KK,ih (.exs ss c) J k dN=k .next J')(I:Inv Z C V J s)(a:AOk C A n)(en:EnvOk C V c env)(hh:A.handled=none)(q:∀V' s',V.Le V'->Inv Z C V' J' s'->Q .next s'):wpAny Z.M A (execs ss env) Q E s:=by
 refine S.exs (k:=u7 .next J') (kx:=dN) (by rw[e];exact iR _ _) I a en (.inl hh) ⟨λJ2 V' s' h le I'=>?_,λv u J2 V' s' h le I' r=>?_⟩ λx u J2 V' s' h=>by exact ff h
 ·obtain⟨_,rfl⟩:=eW h
  exact q V' s' le I'
 ·obtain⟨h,_⟩:=eW h;cases h
end
end
end
section
open PySem.SeqAt
structure ScrAt(Z:Gd)(a:Addr)(xs:Array Value):Prop where
 scr:Z.S= .ref a
 lst:Z.s0.heap.IsList a xs
 nt:a∉tabs
 nums:∀v,v∈xs.toList->∃z t,v= .int z t
 le:xs.size≤63
section
variable{Z:Gd}(G:aU Z){C:Cf}{V:Vl}{J:St}{s:Shared}{A:Around}{env:Env}{c:Cx}{E:Value->Shared->Prop}
theorem ScrAt.at(X:ScrAt Z a xs)(I:Inv Z C V J s):s.heap.IsList a xs:=by
 obtain⟨o,h1,h2,h3⟩:=X.lst
 exact⟨o,I.baseAt h1 X.nt,h2,h3⟩
include G in
theorem zU(X:ScrAt Z a xs)(I:Inv Z C V J s)(en:EnvOk C V c env)(hk:aF c.names (aA x)=some .local)(hx:aD J.L (aA x)=some .scr)(hkl:aF c.names (aA l)=some .globalImplicit)(hg:dQ (aA l)=some (.bi 0))(q:∀tk tt,Q (.int (Int.ofNat xs.size) tt) {s with toks:=tk}):
 wpAny Z.M A (eval (.Call (.Name l p1) [.Name x p2] [] p3) env) Q E s:=by
 rw[arm_eval_Call_Name']
 refine wpAny_bind (dO G I en hkl hg rfl ?_)
 refine callWith_of (P:=λh=>True) rfl (λh O=>⟨.machine,.inr (.inl rfl),.now⟩) ?_
 refine evalArgs_plain (wpAny_items_cons (eU I en hk hx λw r=>?_) rfl)
 exact VR.el_scr r λO=>by rw[I.sc,X.scr];exact wpAny_items_nil ⟨trivial,call_len_list (X.at I) (by have:=X.le;exact ET (Nat.le_trans this (by decide))) (q _ _)⟩
include G in
theorem G4(X:ScrAt Z a xs)(I:Inv Z C V J s)(en:EnvOk C V c env)(hk:aF c.names (aA x)=some .local)(hx:aD J.L (aA x)=some .scr)(hkl:aF c.names (aA l)=some .globalImplicit)(hg:dQ (aA l)=some (.bi 3))(q:∀h' L ys ep tk,(∀b o,s.heap.get? b=some o->h'.get? b=some o)->s.heap.objs.size≤L->h'.get? L=some ⟨.type "list",none,.seq ys ep,#[]⟩->(∀v,v∈ys.toList->∃z t,v= .int z t)->ys.size=min 40 xs.size->Q (.ref L) {s with heap:=h',toks:=tk}):
 wpAny Z.M A (eval (.Call (.Name l p1) [.Subscript (.Name x p2) (.Slice none (some (.Constant (.int 40) y p3)) none p4) p5] [] p6) env) Q E s:=by
 have hle:=X.le
 rw[arm_eval_Call_Name']
 refine wpAny_bind (dO G I en hkl hg rfl ?_)
 refine callWith_of (P:=λh=>True) rfl (λh O=>⟨.machine,.inr (.inl rfl),.now⟩) ?_
 refine evalArgs_plain (wpAny_items_cons (PyProof.Rows.Subscript_ (eU I en hk hx λw r=>?_)) rfl)
 exact VR.el_scr r λO=>by
  rw[I.sc,X.scr]
  refine wpAny_Slice (wpAny_evalPart_none (wpAny_evalPart_some (wpAny_Constant_int (wpAny_evalPart_none ?_))))
  have hl:=X.at I
  have ht:(s.heap.push {cls:=.type "slice",data:=.fields #[.none,.int 40 s.toks,.none]}).IsList a xs:=by
   obtain⟨o,h1,h2,h3⟩:=hl
   exact⟨o,Heap.get?_push_of_some _ h1,h2,h3⟩
  refine cM ht.typeIs slot_list_getitem.lookup (wpAny_getItem_list_slice ht (Heap.IsSliceOf.new ..) .none (.int 40 _) .none (by simp) ?_ (by rw[sizeLine_eq];exact Nat.le_trans hle (by decide))) rfl
  rw[slicePick_plain]
  have hn:∀v,v∈(List.take ((some (40:Int)).elim xs.size (clipAt xs.size)-(none:Option Int).elim 0 (clipAt xs.size)) (List.drop ((none:Option Int).elim 0 (clipAt xs.size)) xs.toList))->∃z t,v= .int z t:=λv hv=>X.nums v (List.mem_of_mem_drop (List.mem_of_mem_take hv))
  have hz:(List.take ((some (40:Int)).elim xs.size (clipAt xs.size)-(none:Option Int).elim 0 (clipAt xs.size)) (List.drop ((none:Option Int).elim 0 (clipAt xs.size)) xs.toList)).length=min 40 xs.size:=by
   simp only[Option.elim_none,Option.elim_some,List.drop_zero,Nat.sub_zero,List.length_take,Array.length_toList]
   rw[show clipAt xs.size 40=min 40 xs.size from clipAt_nat _ 40,Nat.min_assoc,Nat.min_self]
  generalize (List.take ((some (40:Int)).elim xs.size (clipAt xs.size)-(none:Option Int).elim 0 (clipAt xs.size)) (List.drop ((none:Option Int).elim 0 (clipAt xs.size)) xs.toList))=ys at hn hz
  refine wpAny_items_nil ⟨trivial,?_⟩
  have k1:∀b o,s.heap.get? b=some o->((s.heap.push {cls:=.type "slice",data:=.fields #[.none,.int 40 s.toks,.none]}).push {cls:=.type "list",data:=.seq ys.toArray}).get? b=some o:=λb o e=>Heap.get?_push_of_some _ (Heap.get?_push_of_some _ e)
  refine call_list_seq _ (.inl rfl) (Heap.get?_push_size _ rfl) rfl rfl (λh' c' hk hg=>q h' _ ys.toArray c' _ (λb o e=>hk b o (k1 b o e)) ?_ hg (by simpa using hn) (by simpa using hz)) (by rw[List.size_toArray,hz,sizeLine_eq];exact Nat.le_trans (Nat.min_le_left _ _) (by decide))
  simp only[Heap.size_push];exact Nat.le_add_right _ 2
end
end
section
open PySem.SeqAt
noncomputable section
def G5(emp:Bool)(J:St)(k:KV):Bool:=match emp with
 |false=>Mine.alloc J .box k
 |true=>Mine.alloc J (.list []) λv J=>Mine.alloc J (.list [v,.int 0,.int 0]) k
section
variable{Z:Gd}(G:aU Z){C:Cf}{V:Vl}{J:St}{s:Shared}{A:Around}{env:Env}{c:Cx}{E:Value->Shared->Prop}
include G in
theorem Q1(X:ScrAt Z a xs)(I:Inv Z C V J s)(en:EnvOk C V c env)(hk:aF c.names (aA x)=some .local)(hx:aD J.L (aA x)=some .scr)(hkl:aF c.names (aA l)=some .globalImplicit)(hg:dQ (aA l)=some (.bi 3))(he:emp=true->xs.size=0)(h:G5 emp J (kv k)=true)(q:QV Z C V k Q):
 wpAny Z.M A (eval (.List [.Call (.Name l p1) [.Subscript (.Name x p2) (.Slice none (some (.Constant (.int 40) y p3)) none p4) p5] [] p6,.Constant (.int 0) y2 p7,.Constant (.int 0) y3 p8] p9) env) Q E s:=by
 rw[arm_eval_List]
 refine wpAny_bind (wpAny_standAt (wpAny_bind (wpAny_items_cons (G4 G X I en hk hx hkl hg λh1 L ys ep tk k1 hL g1 gn gz=>?_) rfl)))
 refine wpAny_items_cons (wpAny_Constant_int (wpAny_items_cons (wpAny_Constant_int (wpAny_items_nil ?_)) rfl)) rfl
 have hle:=X.le
 unfold PySem.newList
 refine wpAny_newObj_type ?_ (by show 3≤sizeLine;rw[sizeLine_eq];exact by decide)
 have g2:(h1.push {cls:=.type "list",data:=.seq #[.ref L,.int 0 tk,.int 0 (tk+1)]}).get? h1.objs.size=some ⟨.type "list",none,.seq #[.ref L,.int 0 tk,.int 0 (tk+1)] 0,#[]⟩:=Heap.get?_push_size _ rfl
 have g1':(h1.push {cls:=.type "list",data:=.seq #[.ref L,.int 0 tk,.int 0 (tk+1)]}).get? L=some ⟨.type "list",none,.seq ys ep,#[]⟩:=Heap.get?_push_of_some _ g1
 have k2:∀b o,s.heap.get? b=some o->(h1.push {cls:=.type "list",data:=.seq #[.ref L,.int 0 tk,.int 0 (tk+1)]}).get? b=some o:=λb o e=>Heap.get?_push_of_some _ (k1 b o e)
 have L1:L<h1.objs.size:=Heap.lt_size g1
 show Q (.ref h1.objs.size) _
 induction emp with
 |false=>
  refine hold λG_ fin_=>?_
  obtain⟨T',hT,h1'⟩:=aK (h:Mine.alloc J .box (kv k)=true)
  have ho:(V.add h1.objs.size [(L,.dict V.n)] none).own L=some (.dict V.n):=by
   show(if L=h1.objs.size then some (Own.obj V.n)else match List.find? (λp=>p.1==L) [(L,Own.dict V.n)]with|some p=>some p.2|none=>V.own L)=some (.dict V.n)
   rw[if_neg (Nat.ne_of_lt L1)]
   simp
  obtain⟨le,vr,I'⟩:=I.alloc (h':=h1.push {cls:=.type "list",data:=.seq #[.ref L,.int 0 tk,.int 0 (tk+1)]}) (a:=h1.objs.size) (xs:=[(L,.dict V.n)]) (t:=none) (tk:=tk+1+1) hT (Nat.le_trans hL (Nat.le_of_lt L1)) ⟨_,g2⟩
   (λp hp=>by cases hp with|head=>exact⟨hL,_,g1'⟩|tail _ hp=>cases hp) k2 ⟨0,ep,L,0,tk,0,tk+1,ys,g2,ho,g1',gn,by exact Nat.le_trans (Nat.le_of_eq gz) (Nat.le_trans (Nat.min_le_left _ _) (by decide))⟩ nofun
  refine fin_ ?_
  exact q _ _ _ _ _ h1' le I' vr
 |true=>
  have hy:ys= #[]:=by have:=he rfl;apply Array.eq_empty_of_size_eq_zero;exact aIS gz this
  subst hy
  have h':Mine.alloc J (.list []) (λv J=>Mine.alloc J (.list [v,.int 0,.int 0]) (kv k))=true:=h
  refine hold λG_ fin_=>?_
  obtain⟨T1,hT1,h2⟩:=aK h'
  obtain⟨T2,hT2,h3⟩:=aK h2
  obtain⟨le1,vr1,I1⟩:=I.alloc (h':=h1) (a:=L) (xs:=[]) (t:=none) (tk:=tk+1+1) hT1 hL ⟨_,g1⟩ (λp hp=>by cases hp) k1 ⟨Nat.zero_le _,#[],ep,g1,trivial⟩ nofun
  obtain⟨le2,vr2,I2⟩:=I1.alloc (h':=h1.push {cls:=.type "list",data:=.seq #[.ref L,.int 0 tk,.int 0 (tk+1)]}) (a:=h1.objs.size) (xs:=[]) (t:=none) (tk:=tk+1+1) hT2 (Nat.le_refl _) ⟨_,g2⟩ (λp hp=>by cases hp)
   (λb o e=>Heap.get?_push_of_some _ e) ⟨(by show 3≤1000;decide),_,0,g2,vr1.mono (I1.add_le (Nat.le_refl _) (λp hp=>by cases hp)),.int 0 _,.int 0 _,trivial⟩ nofun
  refine fin_ ?_
  exact q _ _ _ _ _ h3 (le1.trans le2) I2 vr2
end
end
end
section
set_option backward.match.sparseCases false
noncomputable section
structure Full(Z:Gd)(n:Nat)(ih:Ih):Prop where
 snd:gS Z n ih
 comp:nW Z n ih
 noset:qC ih
noncomputable def TI(e:Expr):Nat:=match e with|.Starred .. =>1|.Set .. =>2|.ListComp .. =>3|.SetComp .. =>4|.DictComp .. =>5|_=>0
theorem dZ(n:Nat)(h:TI e=0)(h':TI e'=n+1):e≠e':=λq=>by rw[q,h']at h;exact absurd h (Nat.succ_ne_zero n)
structure PlainE(e:Expr):Prop where
 pure_:∀m,d6 m e=false
 simp_:∀m,cX m e=false
 tr:∀env,PySem.isTrue e env (eval e env)=(do let v<-eval e env;standAt e.pos;holding [v] (PySem.truthy v))
 star:∀x p,e≠ .Starred x p
 set:∀x j p,e≠ .Set x j p
 lc:∀x g sc p,e≠ .ListComp x g sc p
 sc:∀x g sc p,e≠ .SetComp x g sc p
 dc:∀x y g sc p,e≠ .DictComp x y g sc p
theorem PlainE.list(es:List Expr)(p:Pos):PlainE (.List es p):=
 ⟨λm=>by induction m<;>rfl,λm=>by induction m<;>rfl,λO=>rfl,λO O=>dZ 0 rfl rfl,λO O O=>dZ 1 rfl rfl,λO O O O=>dZ 2 rfl rfl,λO O O O=>dZ 3 rfl rfl,λO O O O O=>dZ 4 rfl rfl⟩
theorem PlainE.call(f:Expr)(as:List Expr)(ks:List Keyword)(p:Pos):PlainE (.Call f as ks p):=
 ⟨λm=>by induction m<;>rfl,λm=>by induction m<;>rfl,λO=>rfl,λO O=>dZ 0 rfl rfl,λO O O=>dZ 1 rfl rfl,λO O O O=>dZ 2 rfl rfl,λO O O O=>dZ 3 rfl rfl,λO O O O O=>dZ 4 rfl rfl⟩
theorem PlainE.sub(o f:Expr)(as:List Expr)(ks:List Keyword)(p p':Pos):PlainE (.Subscript o (.Call f as ks p) p'):=
 ⟨λm=>by induction m<;>rfl,λm=>by induction m<;>rfl,λO=>rfl,λO O=>dZ 0 rfl rfl,λO O O=>dZ 1 rfl rfl,λO O O O=>dZ 2 rfl rfl,λO O O O=>dZ 3 rfl rfl,λO O O O O=>dZ 4 rfl rfl⟩
noncomputable def wEv(t:Expr->Bool)(f:Expr->Cx->St->KK->Bool)(ih:Ih):Ih:=λtk J k kx=>match tk with
 |.ev e c=>(match t e with|true=>f e c J k|false=>ih (.ev e c) J k kx)
 |.exs ss c=>ih (.exs ss c) J k kx
 |.call g as=>ih (.call g as) J k kx
section
variable{Z:Gd}(G:aU Z){n:Nat}{ih:Ih}
include G in
theorem Full.step(F:Full Z n ih):Full Z (n+1) (step ih):=
 ⟨uX G (sG G) F.snd F.comp F.noset,λhx=>⟨n,ih,Nat.le_succ n,F.snd,hx⟩,λO O O O O O O O=>rfl,λO O O O O O O O O=>rfl⟩
include G in
theorem bV(n:Nat):Full Z n (run n):=by
 induction n with
 |zero=>exact⟨QZ G 0,λh=>(by exact ff h),λO O O O O O O O=>rfl,λO O O O O O O O O=>rfl⟩
 |succ n ih=>exact ih.step G
abbrev G6(Z:Gd)(n:Nat)(e:Expr)(c:Cx)(J:St)(k:KK):Prop:=∀{C:Cf} {V:Vl} {s:Shared} {A:Around} {env:Env} {Q E:Value->Shared->Prop},
 Inv Z C V J s->AOk C A n->EnvOk C V c env->A.handled=none->QV Z C V k Q->wpAny Z.M A (eval e env) Q E s
theorem Full.wEv(F:Full Z n ih)(ht:∀e,t e=true->PlainE e)(hf:∀e c J k,t e=true->f e c J k=true->G6 Z n e c J k):Full Z n (wEv t f ih):=by
 have off:∀e c J k kx,t e=false->Mine.wEv t f ih (.ev e c) J k kx=ih (.ev e c) J k kx:=λe c J k kx h=>by show(match t e with|true=>_|false=>_)=_;rw[h]
 have on:∀e c J k kx,t e=true->Mine.wEv t f ih (.ev e c) J k kx=f e c J k:=λe c J k kx h=>by show(match t e with|true=>_|false=>_)=_;rw[h]
 have no:∀e,(t e=true->False)->t e=false:=λe h=>by induction q:t e with|false=>rfl|true=>exact(h q).elim
 refine⟨⟨λe p c J k kx=>?_,λe j p c J k kx=>?_,?_,?_,?_,λh=>F.snd.exs h,λh=>F.snd.call h,λh=>F.snd.fnc h,λh=>F.snd.cal h⟩,λ{e gs sc p c J k kx} hx=>?_,λe gs sc p c J k kx=>?_,λe v gs sc p c J k kx=>?_⟩
 ·rw[off _ _ _ _ _ (no _ λh=>(ht _ h).star _ _ rfl)];exact F.snd.star ..
 ·rw[off _ _ _ _ _ (no _ λh=>(ht _ h).set _ _ _ rfl)];exact F.snd.noset ..
 ·intro e c J k kx h C V s A env Q E I a en hh q xx
  induction ht':t e with
  |false=>rw[off _ _ _ _ _ ht']at h;exact F.snd.ev h I a en hh q xx
  |true=>
   rw[on _ _ _ _ _ ht']at h
   have hh:A.handled=none:=hh.elim id λ⟨m,hm⟩=>by rw[(ht _ ht').simp_ m]at hm;exact ff hm
   exact hf e c J k ht' h I a en hh q
 ·intro m e c J k kx hp h C V s A env Q E I a en q
  have ht':=no e λh=>by rw[(ht _ h).pure_ m]at hp;exact ff hp
  rw[off _ _ _ _ _ ht']at h
  exact F.snd.pur hp h I a en q
 ·intro e c J k kx h C V s A env Q E I a en hh q xx
  induction ht':t e with
  |false=>rw[off _ _ _ _ _ ht']at h;exact F.snd.tr h I a en hh q xx
  |true=>
   rw[on _ _ _ _ _ ht']at h
   have hh:A.handled=none:=hh.elim id λ⟨m,hm⟩=>by rw[(ht _ ht').simp_ m]at hm;exact ff hm
   refine wpAny_isTrue_value (hf e c J k ht' h I a en hh λv u J' V' s' h' le I' r=>?_) ((ht _ ht').tr env)
   obtain⟨b,hb,hq⟩:=q v J' V' s' h' le I'
   exact dJ hb r hq
 ·rw[off _ _ _ _ _ (no _ λh=>(ht _ h).lc _ _ _ _ rfl)]at hx;exact F.comp hx
 ·rw[off _ _ _ _ _ (no _ λh=>(ht _ h).sc _ _ _ _ rfl)];exact F.noset.1 ..
 ·rw[off _ _ _ _ _ (no _ λh=>(ht _ h).dc _ _ _ _ _ rfl)];exact F.noset.2 ..
end
end
end
section
set_option backward.match.sparseCases false
open PySem.SeqAt
noncomputable abbrev iI(us:Array Value)(ep:Nat):Obj:=⟨.type "list",none,.seq us ep,#[]⟩
abbrev itO(T:Addr)(j:Nat):Obj->Prop:=λo=>o.cls= .type "list_iterator" /\o.data= .fields #[.ref T,.int j 0]
section
variable{Z:Gd}{n:Nat}{C:Cf}{s:Shared}{A:Around}{env:Env}{c:Cx}{E:Value->Shared->Prop}
theorem G7(hh:A.handled=none)(hf:∀v,foldedSetIterable e env v=pure v)(R:Nat->Vl->St->Prop)(P:Array Value->Prop)(h0:wpAny Z.M A (eval e env) (λu s'=>∃T us ep V J,u= .ref T/\P us/\Inv Z (C.hold T (iI us ep)) V J s'/\R 0 V J) E s)(turn:∀{us ep T it o j u V J s} {E:Value->Shared->Prop},P us->us[j]?=some u->R j V J->Inv Z ((C.hold T (iI us ep)).hold it o) V J s->wpAny Z.M A (PySem.assign (.Name x px) env u) (λO s2=>wpAny Z.M A (execs bd env) (λf s3=>match f with
 |.next=>∃V J,R (j+1) V J/\Inv Z ((C.hold T (iI us ep)).hold it o) V J s3
 |.ret u=>Q (.ret u) s3
 |_=>False) E s2) E s) (end_:∀{us V J s},P us->R us.size V J->Inv Z C V J s->Q .next s):wpAny Z.M A (exec (.For (.Name x px) e bd [] p) env) Q E s:=by
 refine wpAny_For (wpAny_mono h0 (λu s' g0_=>?_) λO O x=>x) hf
 refine hold λG_ fin_=>?_
 obtain⟨T,us,ep,V,J,rfl,hP,I,r⟩:=g0_
 refine fin_ ?_
 obtain⟨l1,l2,l3⟩:=I.held
 refine wpAny_pyIter_list ⟨_,l3,rfl,ep,rfl⟩ ?_
 obtain⟨I2,he⟩:=eT I (o:={cls:=.type "list_iterator",data:=.fields #[.ref T,.int 0 0]}) rfl s'.toks
 refine codeAny_forLoop_any (λm s=>∃j V J o,us.size+1≤m+j/\j≤us.size/\R j V J/\itO T j o/\Inv Z ((C.hold T (iI us ep)).hold s'.heap.objs.size o) V J s) (λm s hI=>?_) (us.size+1) ⟨0,V,J,_,Nat.le_refl _,Nat.zero_le _,r,⟨rfl,rfl⟩,I2⟩
 refine hold λG_ fin_=>?_
 obtain⟨j,V,J,o,hm,hj,r,⟨o1,o2⟩,I3⟩:=hI
 obtain⟨k1,k2,k3⟩:=I3.held
 obtain⟨l1,l2,l3⟩:=I3.unhold.held
 refine fin_ ?_
 have hl:s.heap.IsList T us:=⟨_,l3,rfl,ep,rfl⟩
 by_cases hlt:j<us.size
 ·have hu:us[j]?=some us[j]:=Array.getElem?_eq_getElem hlt
  refine wpAny_pyNext_list_item (i:=j) (x:=us[j]) ⟨o,k3,o1,o2⟩ hl hu λh' hit' hs'=>?_
  obtain⟨o',f1,f2,f3⟩:=hit'
  have I4:Inv Z ((C.hold T (iI us ep)).hold s'.heap.objs.size o') V J {s with heap:=h',toks:=s.toks}:=
   (I3.unhold.but (t:=s.toks) k1 k2 he λb x hb e=>(hs'.2 b hb).trans e).hold k1 k2 f1
  refine wpAny_pure ?_
  refine wpAny_mono (turn hP hu r I4) (λO s2 h2=>wpAny_mono h2 (λf s3 h3=>?_) λO O x=>x) λO O x=>x
  induction f with
  |next=>
   refine hold λG_ fin_=>?_
   obtain⟨V5,J5,r5,I5⟩:=h3
   refine fin_ ?_
   have hc:((j:Int)+1)=((j+1:Nat):Int):=by exact rfl
   exact⟨m-1,by exact aIz hm hlt,j+1,V5,J5,o',by exact aIA hm,by exact hlt,r5,⟨f2,by rw[f3]⟩,I5⟩
  |ret u=>exact h3
  |_=>exact h3.elim
 ·obtain rfl:j=us.size:=by exact Nat.le_antisymm hj (Nat.not_lt.mp hlt)
  refine wpAny_pyNext_list_end (i:=us.size) hh ⟨o,k3,o1,o2⟩ hl (Array.getElem?_eq_none (Nat.le_refl _)) λh' hx=>?_
  have I4:Inv Z (C.hold T (iI us ep)) V J {s with heap:=h',toks:=s.toks}:=I3.unhold.but (t:=s.toks) k1 k2 he λb x hb e=>hx b x hb e
  exact wpAny_pure (end_ hP r I4.unhold)
end
end
section
set_option backward.match.sparseCases false
noncomputable section
noncomputable abbrev br:=PT.node
noncomputable abbrev bR:=PT.nil
noncomputable def b0(n:String)(cl:Bool)(num ow par f me co mi ah:SV):SObj:=.inst 287 [(nm "number",num),(nm "owner",ow),(nm "fields",f),(nm "own",.none),(nm "frozen",.bool false),(nm "ident",.none),(nm "name",.str (nm n)),(nm "is_class",.bool cl),(nm "parent",par),(nm "outer",.none),
 (nm "methods",me),(nm "constants",co),(nm "mixed",mi),(nm "ahead",ah),(nm "attached",.none),(nm "native",.str (nm n)),(nm "kept",.none)]
def TG(b:SObj)(num:SV)(md:SObj):PT:=(br (.cell (some (.ref 1))) (br b (br (.dict []) (br md (br (.list []) (br (.cell (some (.ref 4))) bR bR) (br (b0 "Kernel" false (.int 6) (.ref 32) (.none) (.ref 48) (.ref 49) (.ref 50) (.ref 54) (.ref 52)) bR bR)) (br (.list []) (br (.list []) bR bR) (br (.inst 99 [((nm "number"),.int 1),((nm "owner"),.ref 11),((nm "fields"),.ref 56),((nm "own"),.none),((nm "frozen"),.bool false),((nm "ident"),.none)]) bR bR))) (br (b0 "Object" true (.int 2) (.ref 25) (.ref 18) (.ref 12) (.ref 13) (.ref 14) (.ref 45) (.ref 16)) (br (.dict []) (br (.dict []) bR bR) (br (.list []) bR bR)) (br (.dict []) (br (.list []) bR bR) bR))) (br (.dict []) (br (.list []) (br (.cell (some (.ref 4))) (br (.dict []) bR bR) (br (.dict []) bR bR)) (br (b0 "Class" true (.int 4) (.ref 25) (.ref 32) (.ref 26) (.ref 27) (.ref 28) (.ref 41) (.ref 30)) (br (.list []) bR bR) (br (.list [.str (nm "Object"),.str (nm "BasicObject"),.str (nm "Class"),.str (nm "Module"),.str (nm "Kernel")]) bR bR))) (br (.dict []) (br (.dict []) (br (.list []) bR bR) (br (.tup []) bR bR)) (br (.list []) (br (.list [.ref 47]) bR bR) bR)))) (br (.list [.fn 759,.fn 764,.fn 769,.fn 776,.fn 781,.fn 793]) (br (.inst 715 [((nm "natives"),.ref 3),((nm "prelude"),.ref 5),((nm "read"),.none),((nm "most"),.int 20000),((nm "taken"),.int 0),((nm "last_number"),num),((nm "last_ident"),.int 8),((nm "symbol_idents"),.ref 6),((nm "made"),.ref 7),((nm "version"),.int 0),((nm "const_version"),.int 0),((nm "globals"),.ref 8),((nm "out"),.ref 9),((nm "is_ready"),.bool true),((nm "main"),.ref 55)]) (br (.dict []) (br (.list []) (br (b0 "Module" true (.int 5) (.ref 25) (.ref 11) (.ref 33) (.ref 34) (.ref 35) (.ref 39) (.ref 37)) bR bR) (br (.dict []) bR bR)) (br (.cell (some (.ref 4))) (br (.tup []) bR bR) (br (.dict []) bR bR))) (br (.dict []) (br (.dict []) (br (.list []) bR bR) (br (.list []) bR bR)) (br (.dict []) (br (.tup []) bR bR) bR))) (br (.dict []) (br (.cell (some (.ref 4))) (br (b0 "BasicObject" true (.int 3) (.ref 25) (.none) (.ref 19) (.ref 20) (.ref 21) (.ref 43) (.ref 23)) (br (.dict []) bR bR) (br (.dict []) bR bR)) (br (.dict []) (br (.tup []) bR bR) bR)) (br (.dict []) (br (.list []) (br (.tup []) bR bR) (br (.list []) bR bR)) (br (.list []) (br (.cell (some (.ref 4))) bR bR) bR)))))
noncomputable def G8:SObj:=(.dict [(.str (nm "Object"),.ref 11),(.str (nm "BasicObject"),.ref 18),(.str (nm "Class"),.ref 25),(.str (nm "Module"),.ref 32),(.str (nm "Kernel"),.ref 47)])
def iU(b:SObj):PT:=TG b (.int 6) G8
def x5{α:Type}(f:α->α->Bool)(l:List α):List α->Bool:=
 List.rec (motive:=λO=>List α->Bool) j0 (λa O ih m=>List.rec (motive:=λO=>Bool) false (λb m O=>Bool.rec (motive:=λO=>Bool) false (ih m) (f a b)) m) l
def TJ(a:SV):Nat:=SV.rec (motive:=λO=>Nat) 0 (λO=>1) (λO=>2) (λO=>3) (λO=>4) (λO=>5) (λO=>6) (λO=>7) (λO=>8) (λO=>9) (λO=>10) 11 12 (λO=>13) a
def fnV(v:SV)(f:Nat->Bool):Bool:=SV.rec (motive:=λO=>Bool) false (λO=>false) (λO=>false) (λO=>false) (λO=>false) (λO=>false) f (λO=>false) (λO=>false) (λO=>false) (λO=>false) false false (λO=>false) v
def jS(a b:SV):Bool:=SV.rec (motive:=λO=>Bool) (Nat.beq (TJ b) 0) (λx=>sY b λy=>fA x y (!y)) (λx=>DZ b (cQ x)) (λO=>false) (λx=>vZ b (cC x)) (λx=>lL b (Nat.beq x)) (λx=>fnV b (Nat.beq x)) (λO=>false) (λO=>false) (λO=>false) (λO=>false) (Nat.beq (TJ b) 11) false (λO=>false) a
def TK(l m:List (Nm×SV)):Bool:=x5 (λp q=>cC p.1 q.1&&jS p.2 q.2) l m
noncomputable def Lw(w:Nat):List (Nm×SV):=[(nm "script",.any),(nm "world",.any),(nm "way",.int (.ofNat w)),(nm "looks",.ref 2)]
def u8(f:SV->Bool)(o:SObj):Bool:=match o with|.cell v=>some? v f|_=>false
def sH(o:Option SObj):Bool:=some? o (u8 λv=>lL v λi=>Nat.beq i 1)
def jT(J:St):Bool:=sH (J.T.get 0)&&qV (J.T.get 1)
def sI(w:Nat):KK:=λr J=>isTrue r&&jT J&&TK J.L (Lw w)
def aR(a w:Nat)(b:SObj)(sy:Bool):Bool:=Mine.run 390 (.call (.fn a) [.ref 1,.ref 4]) ⟨iU b,58,Lw w,sy⟩ (sI w) dN
end
end
section
theorem aLd:aR 759 0 (.boxd 0 11 0) false=true:=by kernel_rfl
theorem aLe:aR 759 0 (.boxd 0 11 1) false=true:=by kernel_rfl
theorem aLf:aR 759 0 (.boxd 0 11 2) false=true:=by kernel_rfl
theorem aLg:aR 759 0 (.boxd 0 11 3) false=true:=by kernel_rfl
theorem aLh:aR 759 0 (.boxd 0 11 4) false=true:=by kernel_rfl
theorem aLi:aR 759 0 (.boxd 0 11 5) false=true:=by kernel_rfl
theorem aLj:aR 759 0 (.boxd 0 11 6) false=true:=by kernel_rfl
theorem aLk:aR 759 0 (.boxd 0 11 7) false=true:=by kernel_rfl
theorem aLl:aR 759 0 (.boxd 0 11 8) false=true:=by kernel_rfl
theorem aLm:aR 759 0 (.boxd 0 11 9) false=true:=by kernel_rfl
theorem aAs:aR 759 0 (.boxd 0 11 10) false=true:=by kernel_rfl
theorem lk0:∀d,d<11->aR 759 0 (.boxd 0 11 d) false=true
 |0,_=>aLd
 |1,_=>aLe
 |2,_=>aLf
 |3,_=>aLg
 |4,_=>aLh
 |5,_=>aLi
 |6,_=>aLj
 |7,_=>aLk
 |8,_=>aLl
 |9,_=>aLm
 |10,_=>aAs
 |n+11,h=>absurd h (by omega)
theorem aLn:aR 764 1 (.boxd 1 4 0) true=true:=by kernel_rfl
theorem aLo:aR 764 1 (.boxd 1 4 1) true=true:=by kernel_rfl
theorem aLp:aR 764 1 (.boxd 1 4 2) true=true:=by kernel_rfl
theorem aLq:aR 764 1 (.boxd 1 4 3) true=true:=by kernel_rfl
theorem lk1:∀d,d<4->aR 764 1 (.boxd 1 4 d) true=true
 |0,_=>aLn
 |1,_=>aLo
 |2,_=>aLp
 |3,_=>aLq
 |n+4,h=>absurd h (by omega)
theorem lk2:aR 769 2 .box false=true:=by kernel_rfl
theorem lk3:aR 776 3 .box false=true:=by kernel_rfl
theorem lk4:aR 781 4 .box false=true:=by kernel_rfl
noncomputable section
noncomputable def TL:PT:=br (.cell (some (.ref 1))) (br .box bR bR) (br (.list [.fn 759,.fn 764,.fn 769,.fn 776,.fn 781,.fn 793]) bR bR)
noncomputable def sJ(w:Nat):Bool:=Mine.run 390 (.call (.fn 788) [.ref 1]) ⟨TL,3,Lw w,false⟩ (sI w) dN
theorem lk6:sJ 6=true:=by kernel_rfl
theorem lk7:sJ 7=true:=by kernel_rfl
end
end
section
noncomputable section
open Classical in
def aI(p:Prop)(b:Bool):Bool:=if p then b else false
open Classical in
theorem bW(h:aI p b=true):p/\b=true:=by
 unfold aI at h
 by_cases q:p
 ·rw[if_pos q]at h;exact⟨q,h⟩
 ·rw[if_neg q]at h;exact ff h
open Classical in
theorem aG(h:p):aI p b=b:=if_pos h
noncomputable def wCall(t:Nat->Bool)(f:Nat->List SV->St->KK->Bool)(ih:Ih):Ih:=λtk J k kx=>match tk with
 |.ev e c=>ih (.ev e c) J k kx
 |.exs ss c=>ih (.exs ss c) J k kx
 |.call (.fn a) as=>(match t a with|true=>f a as J k|false=>ih (.call (.fn a) as) J k kx)
 |.call g as=>ih (.call g as) J k kx
section
variable{Z:Gd}(G:aU Z){n:Nat}{ih:Ih}
abbrev eX(Z:Gd)(n:Nat)(a:Nat)(as:List SV)(J:St)(k:KK):Prop:=∀{C:Cf} {V:Vl} {s:Shared} {A:Around} {vs:List Value} {Q E:Value->Shared->Prop},
 Inv Z C V J s->AOk C A n->A.handled=none->VRs V as vs->QV Z C V k Q->codeAny Z.M A (.call (.ref a) ⟨vs,[]⟩) (RV Q E) s
theorem Full.wCall(F:Full Z n ih)(ht:∀a,t a=true->∃p,aE iJ a=some p)(hf:∀a as J k,t a=true->f a as J k=true->eX Z n a as J k):Full Z n (wCall t f ih):=by
 have off:∀a as J k kx,t a=false->Mine.wCall t f ih (.call (.fn a) as) J k kx=ih (.call (.fn a) as) J k kx:=λe c J k kx h=>by show(match t e with|true=>_|false=>_)=_;rw[h]
 have on:∀a as J k kx,t a=true->Mine.wCall t f ih (.call (.fn a) as) J k kx=f a as J k:=λe c J k kx h=>by show(match t e with|true=>_|false=>_)=_;rw[h]
 have fnc:∀{f':Nat} {as:List SV} {J:St} {k:KK} {kx:KX},Mine.wCall t f ih (.call (.fn f') as) J k kx=true->∀{C:Cf} {V:Vl} {s:Shared} {A:Around} {vs:List Value} {Q E:Value->Shared->Prop},
  Inv Z C V J s->AOk C A n->A.handled=none->VRs V as vs->QV Z C V k Q->QX Z C V kx E->codeAny Z.M A (.call (.ref f') ⟨vs,[]⟩) (RV Q E) s:=by
  intro a as J k kx h C V s A vs Q E I ao hh rs q xx
  induction ht':t a with
  |false=>rw[off _ _ _ _ _ ht']at h;exact F.snd.fnc h I ao hh rs q xx
  |true=>rw[on _ _ _ _ _ ht']at h;exact hf a as J k ht' h I ao hh rs q
 refine⟨⟨F.snd.star,F.snd.noset,λh=>F.snd.ev h,λhp h=>F.snd.pur hp h,λh=>F.snd.tr h,λh=>F.snd.exs h,?_,λh=>fnc h,?_⟩,λhx=>F.comp hx,F.noset⟩
 ·intro g as J k kx h C V s A fv vs Q E I ao hh r rs q xx
  induction r with
  |fn a=>exact wpAny_call (fnc h I ao hh rs q xx)
  |none=>exact F.snd.call h I ao hh .none rs q xx
  |bool b=>exact F.snd.call h I ao hh (.bool b) rs q xx
  |int i t=>exact F.snd.call h I ao hh (.int i t) rs q xx
  |lin x c t hx=>exact F.snd.call h I ao hh (.lin x c t hx) rs q xx
  |str x t=>exact F.snd.call h I ao hh (.str x t) rs q xx
  |ref i hi=>exact F.snd.call h I ao hh (.ref i hi) rs q xx
  |cls a=>exact F.snd.call h I ao hh (.cls a) rs q xx
  |kref a=>exact F.snd.call h I ao hh (.kref a) rs q xx
  |bi b _ hb=>exact F.snd.call h I ao hh (.bi b _ hb) rs q xx
  |opq j z t hz=>exact F.snd.call h I ao hh (.opq j z t hz) rs q xx
  |any _ hv=>exact F.snd.call h I ao hh (.any _ hv) rs q xx
  |scr hv=>exact F.snd.call h I ao hh (.scr hv) rs q xx
  |one l m t hm=>exact F.snd.call h I ao hh (.one l m t hm) rs q xx
 ·intro g as J k kx h
  induction g with
  |fn a=>
   induction ht':t a with
   |false=>rw[off _ _ _ _ _ ht']at h;exact F.snd.cal h
   |true=>exact ht a ht'
  |_=>exact F.snd.cal h
end
noncomputable def T2:PT:=br (.cell (some (.ref 1))) (br .box bR bR) bR
theorem jU{α:Type}{f:α->α->Bool}(hf:∀a b,f a b=true->a=b){l:List α}:∀{m:List α},x5 f l m=true->l=m:=by
 induction l with
 |nil=>exact λh=>(fC h).symm
 |cons a l ih=>intro m h;induction m using List.casesOn with
  |nil=>exact ff h
  |cons b m=>obtain⟨h1,h2⟩:=aB (b:=f a b) (x:=x5 f l m) h;rw[hf a b h1,ih h2]
theorem aAt(h:fnV v f=true):∃n,v= .fn n/\f n=true:=by induction v with|fn n=>exact⟨n,rfl,h⟩|_=>exact ff h
theorem bO(h:jS a b=true):a=b:=by
 induction a with
 |none=>induction b with
  |none=>rfl
  |_=>exact ff h
 |any=>induction b with
  |any=>rfl
  |_=>exact ff h
 |bool x=>obtain⟨y,rfl,h⟩:=tI h;induction x<;>induction y<;>first|rfl|exact ff h
 |str x=>obtain⟨y,rfl,h⟩:=lY h;rw[bB h]
 |int x=>obtain⟨y,rfl,h2⟩:=rE h;rw[dB]at h2;rw[of_decide_eq_true h2]
 |ref x=>obtain⟨y,rfl,h⟩:=d9 h;rw[Nat.eq_of_beq_eq_true h]
 |fn x=>obtain⟨y,rfl,h⟩:=aAt h;rw[Nat.eq_of_beq_eq_true h]
 |_=>exact ff h
theorem kO{l m:List (Nm×SV)}(h:TK l m=true):l=m:=jU (λO O h=>Prod.ext (bB (aM h).1) (bO (aM h).2)) h
theorem jV(h:u8 f o=true):∃v,o= .cell (some v)/\f v=true:=by
 induction o with
 |cell v=>obtain⟨v,rfl,h⟩:=some?_eq h;exact⟨v,rfl,h⟩
 |_=>exact ff h
theorem iS(h:sH o=true):o=some (.cell (some (.ref 1))):=by
 obtain⟨o,rfl,h⟩:=some?_eq h
 obtain⟨v,rfl,h⟩:=jV h
 obtain⟨i,rfl,h⟩:=d9 h
 rw[Nat.eq_of_beq_eq_true h]
theorem u9(hc:c∈l):aP l c=true:=by
 induction l with
 |nil=>exact absurd hc List.not_mem_nil
 |cons d l ih=>
  show Bool.rec (motive:=λO=>Bool) (aP l c) true (Nat.beq d c)=true
  rcases List.mem_cons.mp hc with rfl|hc
  ·rw[Nat.beq_refl]
  ·rw[ih hc];induction Nat.beq d c<;>rfl
set_option tactic.hygienic true in
theorem qG(h:qV o=true):∃x,o=some x/\G3 x .box:=by
 unfold qV at h
 split at h
 ·exact⟨_,rfl,.inl rfl⟩
 ·rename_i j m d;exact⟨_,rfl,.inr (.inl ⟨rfl,j,m,d,rfl⟩)⟩
 ·exact ff h
theorem n6(h:T2.get j=some o):(j=0/\o= .cell (some (.ref 1)))∨(j=1/\o= .box):=by
 unfold T2 at h
 rw[PT.get_node]at h
 by_cases q:j=0
 ·rw[if_pos q]at h;obtain rfl:=Option.some.inj h;exact .inl ⟨q,rfl⟩
 ·rw[if_neg q]at h
  by_cases q2:j%2=1
  ·rw[if_pos q2,PT.get_node]at h
   by_cases q3:j / 2=0
   ·rw[if_pos q3]at h;obtain rfl:=Option.some.inj h;exact .inr ⟨by exact Nat.ext_div_mod q3 q2,rfl⟩
   ·rw[if_neg q3]at h
    split at h<;>exact fo h
  ·rw[if_neg q2]at h;exact fo h
theorem TM(c b b':SObj)(l r rr:PT)(x:Nat):(PT.node c (.node b l r) rr).get x=if x=1 then some b else(PT.node c (.node b' l r) rr).get x:=by
 rw[PT.get_node c (.node b l r) rr,PT.get_node c (.node b' l r) rr]
 by_cases q0:x=0
 ·subst q0;simp
 ·rw[if_neg q0,if_neg q0]
  by_cases q1:x%2=1
  ·rw[if_pos q1,if_pos q1,PT.get_node b l r,PT.get_node b' l r]
   by_cases q2:x / 2=0
   ·rw[if_pos q2,if_pos (show x=1 by exact Nat.ext_div_mod q2 q1)]
   ·rw[if_neg q2,if_neg q2,if_neg (show¬x=1 by exact λe=>q2 (congrArg (· / 2) e))]
  ·rw[if_neg q1,if_neg q1,if_neg (show¬x=1 by exact λe=>q1 (congrArg (· %2) e))]
theorem fK(f:(L.all λp=>gH m p.2)=true):gI m L L:=λn=>by
 induction e:aD L n with
 |none=>rfl
 |some v=>
  obtain⟨p,h1,rfl⟩:=hG e
  exact⟨_,rfl,.inr ⟨rfl,List.all_eq_true.mp f p h1⟩⟩
section
variable{Z:Gd}(G:aU Z){C:Cf}{V:Vl}{s:Shared}{A:Around}
theorem Inv.syOff(I:Inv Z C V J s):Inv Z C V ⟨J.T,J.n,J.L,false⟩ s:=
 ⟨I.base,I.tab,I.own,I.n,I.T,I.L,I.frs,I.ext,I.tk,⟨nofun,I.X.2⟩,I.tabLo,I.sm,I.sc,I.tg⟩
theorem n7(S:gS Z n ih)(h:ih (.call (.fn a) as) ⟨T,m,Lw w,sy⟩ (sI w) dN=true)(h2:2<m)(I0:Inv Z C V J0 s)(hsy:J0.sy=true)(I:Inv Z C V ⟨T,m,Lw w,sy⟩ s)(ao:AOk C A n)(hh:A.handled=none)(rs:VRs V as vs)(q:QV Z C V k0 Q)(hk:k0 (.val (.bool true)) ⟨T2,m,Lw w,true⟩=true):codeAny Z.M A (.call (.ref a) ⟨vs,[]⟩) (RV Q E) s:=by
 refine S.fnc h I ao hh rs (λv u J' V' s' h' le I' r=>?_) λx u J' V' s' h'=>by exact ff h'
 obtain⟨⟨e1,e2⟩,e3⟩:=hV h'
 have e3:=kO e3
 induction v with
 |bool b=>
  have e1:b=true:=e1
  subst e1
  cases r with
  |bool _=>
   obtain⟨c1,e2⟩:=aM e2
   have c1:=iS c1
   obtain⟨x,c2,c3⟩:=qG e2
   have hm:V.n=m:=I.n.symm
   have I2:=Inv.cut (C':=C) (lv:=m) (J':=⟨T2,m,Lw w,true⟩) I0 le (by rw[hm];exact Nat.le_refl _) I' rfl (λj o' h=>?_) (by rw[e3];exact fK (by simp[Lw,gH,Nat.blt_eq];exact h2)) rfl rfl rfl rfl
    (λk a o h=>⟨dY le (I'.ext k a o h).1,(I'.ext k a o h).2⟩) (λO=>I0.X.1 hsy)
   ·exact q _ _ _ _ _ hk (eL le (by rw[hm];exact Nat.le_refl _)) I2 (.bool true)
   ·rcases n6 h with⟨rfl,rfl⟩|⟨rfl,rfl⟩
    ·exact⟨by exact Nat.zero_lt_of_lt h2,.inl ⟨⟨_,c1,.inl rfl⟩,Nat.ble_eq_true_of_le (Nat.le_of_lt h2)⟩⟩
    ·exact⟨by exact Nat.le_of_lt h2,.inl ⟨⟨_,c2,c3⟩,rfl⟩⟩
 |_=>exact ff e1
end
end
end
section
noncomputable section
noncomputable abbrev sK(w:Nat):St:=⟨iU .box,58,Lw w,true⟩
noncomputable def G9:List (Nat×Nat):=[(759,0),(764,1),(769,2),(776,3),(781,4),(793,5)]
def aY(a:Nat)(as:List SV)(J:St):Prop:=
 (∃w,(a,w)∈G9/\as=[.ref 1,.ref 4]/\J=sK w)∨(a=788/\∃w,(w=6∨w=7)/\as=[.ref 1]/\J=⟨TL,3,Lw w,true⟩)
def zV(a:Nat):Bool:=aP [759,764,769,776,781,793,788] a
def HA(a:Nat)(as:List SV)(J:St)(k:KK):Bool:=aI (aY a as J) (k (.val (.bool true)) ⟨T2,J.n,J.L,true⟩)
def hH(Z:Gd):Prop:=∀n,390≤n->∀k:KK,k (.val (.bool true)) ⟨T2,58,Lw 5,true⟩=true->eX Z n 793 [.ref 1,.ref 4] (sK 5) k
section
variable{Z:Gd}(G:aU Z)
include G in
theorem qH(hm:0<m)(lk:∀d,d<m->aR a w (.boxd j m d) sy=true)(hn:390≤n)(hk:k (.val (.bool true)) ⟨T2,58,Lw w,true⟩=true):eX Z n a [.ref 1,.ref 4] (sK w) k:=by
 intro C V s A vs Q E I ao hh rs q
 have hb:(sK w).T.get 1=some .box:=by
  have:=TM (.cell (some (.ref 1))) .box .box bR bR bR 1
  exact rfl
 refine hold λG_ fin_=>?_
 obtain⟨L,p,t,k',u,ep,xs,ep',B⟩:=GX I hb
 obtain⟨d,hd,e⟩:=qD (tQ j p k' xs) hm
 refine fin_ ?_
 have I1:Inv Z C V ⟨iU (.boxd j m d),58,Lw w,true⟩ s:=I.rebox hb B e λx=>TM _ _ _ _ _ _ x
 have I2:Inv Z C V ⟨iU (.boxd j m d),58,Lw w,sy⟩ s:=by
  induction sy with
  |true=>exact I1
  |false=>exact I1.syOff
 exact n7 (bV G 390).snd (lk d hd) (by decide) I rfl I2 (ao.le hn) hh rs q hk
include G in
theorem n8(lk:aR a w .box false=true)(hn:390≤n)(hk:k (.val (.bool true)) ⟨T2,58,Lw w,true⟩=true):eX Z n a [.ref 1,.ref 4] (sK w) k:=by
 intro C V s A vs Q E I ao hh rs q
 exact n7 (bV G 390).snd lk (by decide) I rfl I.syOff (ao.le hn) hh rs q hk
include G in
theorem qI(lk:sJ w=true)(hn:390≤n)(hk:k (.val (.bool true)) ⟨T2,3,Lw w,true⟩=true):eX Z n 788 [.ref 1] ⟨TL,3,Lw w,true⟩ k:=by
 intro C V s A vs Q E I ao hh rs q
 exact n7 (bV G 390).snd lk (by decide) I rfl I.syOff (ao.le hn) hh rs q hk
include G in
theorem zW(H:hH Z)(hn:390≤n)(a:Nat)(as:List SV)(J:St)(k:KK)(ht:zV a=true)(h:HA a as J k=true):eX Z n a as J k:=by
 obtain⟨p,h1⟩:=bW h
 rcases p with⟨w,hw,rfl,rfl⟩|⟨rfl,w,hw,rfl,rfl⟩
 ·simp only[G9,List.mem_cons,Prod.mk.injEq,List.not_mem_nil,or_false]at hw
  rcases hw with⟨rfl,rfl⟩|⟨rfl,rfl⟩|⟨rfl,rfl⟩|⟨rfl,rfl⟩|⟨rfl,rfl⟩|⟨rfl,rfl⟩
  ·exact qH G (by decide) lk0 hn h1
  ·exact qH G (by decide) lk1 hn h1
  ·exact n8 G lk2 hn h1
  ·exact n8 G lk3 hn h1
  ·exact n8 G lk4 hn h1
  ·exact H n hn k h1
 ·rcases hw with rfl|rfl
  ·exact qI G lk6 hn h1
  ·exact qI G lk7 hn h1
theorem vA(a:Nat)(h:zV a=true):∃p,aE iJ a=some p:=by
 have key:∀l:List Nat,(l.all λa=>(aE iJ a).isSome)=true->aP l a=true->∃p,aE iJ a=some p:=λl=>by
  induction l with
  |nil=>intro O h;cases h
  |cons b l ih=>
   intro h1 h2
   rw[List.all_cons,Bool.and_eq_true]at h1
   have h2:Bool.rec (motive:=λO=>Bool) (aP l a) true (Nat.beq b a)=true:=h2
   induction q:Nat.beq b a with
   |true=>rw[<-Nat.eq_of_beq_eq_true q];exact Option.isSome_iff_exists.mp h1.1
   |false=>rw[q]at h2;exact ih h1.2 h2
 exact key _ (by kernel_rfl) h
noncomputable def sL:Nat->Ih
 |0=>Mine.wCall zV HA (run 400)
 |j+1=>Mine.wCall zV HA (step (sL j))
include G in
theorem HB(H:hH Z):∀j,Full Z (400+j) (sL j)
 |0=>(bV G 400).wCall vA (zW G H (by decide))
 |j+1=>((HB H j).step G).wCall vA (zW G H (Nat.le_trans (by decide) (Nat.le_add_right 400 (_+1))))
end
end
end
section
set_option backward.match.sparseCases false
noncomputable section
noncomputable def lawBody:List Stmt:=fO lawSt
noncomputable def n9(k:Nat):Stmt:=lawBody.getD k (.Pass ⟨0,0,0,0⟩)
noncomputable abbrev o5:Str:=Str.ofString "script"
noncomputable def cxL:Cx:=⟨(bP lawSt).names,[(aA mG,0)],0⟩
def JL0:St:=⟨br (.cell none) bR bR,1,[(aA o5,.scr)],false⟩
noncomputable def HC(Ln:Addr)(scr:Addr):Vl:={ρ:=λO=>0,own:=λb=>if b=Ln then some (.fr 0)else none,X:=none,n:=0,tk:=λO=>none,R:=none,Y:=λO=>none,S:=.ref scr}
noncomputable abbrev x6(Ln:Addr)(l:List Env):Cf:=⟨Ln,[],[],l⟩
section
variable{Z:Gd}(G:aU Z)
theorem TN(G:aU Z)(htab:∀P,P∈tabs->Z.s0.heap.get? P=some (tabObj #[]))(hsm:∃o,Z.s0.heap.get? sysModules=some o)(scr:Addr)(hS:Z.S= .ref scr):Inv Z (x6 Z.s0.heap.objs.size []) (HC Z.s0.heap.objs.size scr) ⟨.nil,0,[],false⟩
 {Z.s0 with heap:=Z.s0.heap.push {cls:=.type "frame",data:=.dict #[]},toks:=Z.s0.toks}:=by
 have k1:∀b x,Z.s0.heap.get? b=some x->(Z.s0.heap.push {cls:=.type "frame",data:=.dict #[]}).get? b=some x:=λb x e=>Heap.get?_push_of_some _ e
 have hn:(Z.s0.heap.push {cls:=.type "frame",data:=.dict #[]}).Ns1 Z.s0.heap.objs.size (λO=>none):=Heap.Ns1.of_empty (Heap.Ns.new Z.s0.heap (.type "frame"))
 have hx:∃x,(Z.s0.heap.push {cls:=.type "frame",data:=.dict #[]}).get? Z.s0.heap.objs.size=some x:=let⟨o,_,_,ho,_⟩:=hn;⟨o,ho⟩
 have ow:∀a o,(HC Z.s0.heap.objs.size scr).own a=some o->a=Z.s0.heap.objs.size/\o= .fr 0:=λa o h=>by
  change(if a=Z.s0.heap.objs.size then some (Own.fr 0)else none)=some o at h
  by_cases q:a=Z.s0.heap.objs.size
  ·rw[if_pos q]at h;obtain rfl:=Option.some.inj h;exact⟨q,rfl⟩
  ·rw[if_neg q]at h;exact fo h
 refine⟨⟨rfl,λa o h O=>k1 a o h⟩,λa ha=>⟨#[],k1 _ _ (htab a ha),trivial,λpos cv e=>by exact fo e⟩,λa o h=>?_,rfl,λi o h=>(by exact fo h),⟨if_pos rfl,_,hn,AR.nil _⟩,λk a d h=>(by exact fo h),λk a o h=>(by exact fo h),λi ks h=>(by exact fo h),⟨nofun,λx h=>by exact fo h⟩,λa ha=>⟨_,htab a ha⟩,hsm,hS.symm,λa o h=>by obtain⟨_,rfl⟩:=ow a o h;trivial⟩
 obtain⟨rfl,_⟩:=ow a o h
 exact⟨Heap.get?_none_of_le (Nat.le_refl _),hx⟩
theorem B5(k:List (Nm×Nat)->St->Bool):cH (bP lawSt).names [] ⟨.nil,0,[],false⟩ k=k [(aA mG,0)] ⟨br (.cell none) bR bR,1,[],false⟩:=by kernel_rfl
theorem B6(k:St->Bool):eM cxL [(aA o5,.scr)] ⟨br (.cell none) bR bR,1,[],false⟩ k=k JL0:=by kernel_rfl
theorem Q2:dR lawSt=[aA o5]:=by kernel_rfl
theorem Q3:cS 798=0:=by kernel_rfl
def x7(p:Prop):Bool:=aI p true
theorem eY(h:x7 p=true):p:=(bW h).1
theorem gJ(h:p):x7 p=true:=aG h
def HD(cs:List (Nm×Nat))(τ:St):Bool:=x7 (cs=[(aA mG,0)]/\τ=JL0)
def aPs(cs:List (Nm×Nat))(τ:St):Bool:=eM ⟨(bP lawSt).names,cs,0⟩ [(aA o5,.scr)] τ (HD cs)
theorem Q4:cH (bP lawSt).names [] ⟨.nil,0,[],false⟩ aPs=true:=by
 rw[B5]
 exact(B6 (HD [(aA mG,0)])).trans (gJ ⟨rfl,rfl⟩)
theorem B7(h1:env.scope.kind= .function)(h2:env.frame=some env.locals):AOk (x6 env.locals [env]) (callerA.deeper env) 450:=by
 refine⟨by show 1+claimMargin+1+450<990;decide,by show 4+3+12*450<9800;decide,rfl,λe he=>?_⟩
 cases he with
 |head=>exact⟨by rw[h1];decide,env.locals,h2,.inl rfl⟩
 |tail _ h=>cases h
include G in
theorem B8(htab:∀P,P∈tabs->Z.s0.heap.get? P=some (tabObj #[]))(hsm:∃o,Z.s0.heap.get? sysModules=some o)(scr:Addr)(hS:Z.S= .ref scr)(hb:∀{V:Vl} {s:Shared} {env:Env} {E:Value->Shared->Prop},Inv Z (x6 Z.s0.heap.objs.size [env]) V JL0 s->(HC Z.s0.heap.objs.size scr).Le V->AOk (x6 Z.s0.heap.objs.size [env]) (callerA.deeper env) 450->EnvOk (x6 Z.s0.heap.objs.size [env]) V cxL env->
 wpAny Z.M (callerA.deeper env) (execs lawBody env) (λf s'=>match f with|.ret v=>Q v s'|_=>False) E s):
 wpAny Z.M callerA (PySem.call (.ref 798) [.ref scr]) Q E Z.s0:=by
 refine hold λG_ fin_=>?_
 obtain⟨o,fd,F⟩:=G.fn 798 _ (show aE iJ 798=some (lawSt,[]) by kernel_rfl)
 obtain⟨ps,kd,de,p1,p2,p3,p4⟩:=F.par
 have sf:=dW F.sc
 obtain⟨cc,oc,cvs,ct,c1,c2,c3,c4,c5⟩:=F.code
 have e1:ps.map (·.arg)=[o5]:=by
  have:=p2.symm.trans Q2
  have:ps.map (λx=>x.arg)=[o5]:=by
   have h:=congrArg (List.map tx) this
   rw[List.map_map]at h
   exact h
  exact this
 have l1:ps.length=1:=by have:=congrArg List.length e1;simpa using this
 have hD:∃D,((fd.defaults= .none/\D=[])∨∃T o items n,fd.defaults= .ref T/\Z.s0.heap.get? T=some o/\o.data= .seq items n/\items.toList=D)/\D=[]:=by
  rcases F.defs with⟨e1,e2⟩|⟨T,oT,items,m,e1,e2,e3,e4,e5⟩
  ·exact⟨[],.inl ⟨e1,rfl⟩,rfl⟩
  ·have:=(e5 (HC 0 0)).nil_inv
   exact⟨items.toList,.inr ⟨T,oT,items,m,e1,e2,e4,rfl⟩,this⟩
 obtain⟨D,hD,hD0⟩:=hD
 refine fin_ ?_
 subst hD0
 refine wpAny_call (codeAny_call_function (fd:=fd) (body:=lawBody) (o:=o) (by decide) F.get F.data (by rw[F.scope];exact sf.co) (by rw[F.scope];exact sf.gen) F.body ⟨cc,oc,cvs,ct,c1,c2,c4,c5⟩ ?_)
 refine gB p1 p3 (D:=[]) (by simp[l1]) (by simp[l1]) (by simp[l1]) hD ?_
 have hus:[Value.ref scr]++([]:List Value).drop (([]:List Value).length-(ps.length-[Value.ref scr].length))=[Value.ref scr]:=by simp
 rw[hus,F.clo]
 unfold PySem.newFunctionEnv
 simp-iota only[Option.isSome_none,Bool.false_eq_true,if_false]
 refine wpAny_bind (wpAny_alloc ?_)
 have I0:=TN G htab hsm scr hS
 refine wpAny_bind (lC _ (λname kind cells=>by cases hkc:kind==NameKind.cell<;>simp[hkc]) fd.scope.names (by rw[F.scope];exact Q4) I0 (λx j hj=>by exact fo hj) λcs ac τ V3 s3 h3 le3 I3 R3 hL=>?_)
 generalize henv:({scope:=fd.scope,locals:=Z.s0.heap.objs.size,globals:=fd.globals,cells:=ac,qual:=fd.qualname++ ".<locals>.",func:=some 798,code:=fd.code,frame:=some Z.s0.heap.objs.size,builtins:=fd.builtins}:Env)=env
 have en0:=F1 (C:=⟨0,[],[],[]⟩) (es:= #[]) (ep:=0) F R3 henv.symm
 rw[Q3]at en0
 have en:EnvOk (x6 Z.s0.heap.objs.size [env]) V3 ⟨(bP lawSt).names,cs,0⟩ env:=⟨en0.kind,en0.loc,en0.glob,en0.bui,en0.kinds,en0.dbg,en0.cld,en0.sup,en0.cells,en0.frm,en0.lam⟩
 have hsc:V3.S= .ref scr:=le3.S
 refine wpAny_bind (jN _ (λO O O=>rfl) (ps.map (·.arg)) (k:=HD cs) (vs:=[.scr]) (us:=[.ref scr]) (by rw[e1];exact h3) (I3.stack [env]) en ⟨by rw[<-hsc];exact .scr (by rw[hsc];rfl),trivial⟩ (by rw[e1];rfl) λτ4 s4 h4 I4=>wpAny_pure ⟨?_,codeAny_func ?_⟩)
 ·obtain⟨⟨mc,l1,l2⟩,l3⟩:=G.lim
  exact⟨mc,I4.heap l1 l3,l2⟩
 ·obtain⟨rfl,rfl⟩:=eY h4
  have hl:env.locals=Z.s0.heap.objs.size:=en0.loc
  have ao:AOk (x6 Z.s0.heap.objs.size [env]) (callerA.deeper env) 450:=by rw[<-hl];exact B7 en.kind (by rw[hl,<-henv])
  refine wpAny_mono (hb I4 le3 ao en) (λf s' h=>?_) λO O x=>x
  induction f with
  |ret v=>exact h
  |_=>exact h.elim
end
end
end
section
set_option backward.match.sparseCases false
open PySem.SeqAt
noncomputable section
noncomputable abbrev wyS:Str:=Str.ofString "way"
noncomputable abbrev liS:Str:=Str.ofString "list"
noncomputable abbrev rgS:Str:=Str.ofString "range"
noncomputable abbrev miS:Str:=Str.ofString "min"
def HE:Expr:=.List [.Call (.Name liS (po 708 19 23)) [.Subscript (.Name o5 (po 708 24 30)) (.Slice none (some (.Constant (.int 40) 0 (po 708 32 34))) none (po 708 31 34)) (po 708 24 35)] [] (po 708 19 36),.Constant (.int 0) 0 (po 708 38 39),.Constant (.int 0) 0 (po 708 41 42)] (po 708 18 43)
noncomputable def B9:Expr:=.Call (.Name IG (po 709 7 10)) [.Name o5 (po 709 11 17)] [] (po 709 7 18)
def o6:Expr:=.Call (.Name rgS (po 711 43 48)) [.BinOp (.Constant (.int 1) 0 (po 711 49 50)) .Add (.Call (.Name miS (po 711 53 56)) [.Constant (.int 2) 0 (po 711 57 58),.BinOp (.Call (.Name IG (po 711 60 63)) [.Name o5 (po 711 64 70)] [] (po 711 60 71)) .FloorDiv (.Constant (.int 8) 0 (po 711 75 76)) (po 711 60 76)] [] (po 711 53 77)) (po 711 49 77)] [] (po 711 43 78)
noncomputable def Q5(e:Expr):Bool:=match e with|.List _ p=>Nat.beq p.line 708|_=>false
noncomputable def Q6(e:Expr):Bool:=match e with|.Call _ _ _ p=>(match Nat.beq p.line 709 with|true=>Nat.beq p.col 7|false=>false)|_=>false
noncomputable def Q7(e:Expr):Bool:=match e with|.Call _ _ _ p=>(match Nat.beq p.line 711 with|true=>Nat.beq p.col 43|false=>false)|_=>false
def HF(e0 e:Expr)(c:Cx)(J:St):Prop:=e=e0/\c=cxL/\aD J.L (aA o5)=some .scr
def aAv(emp:Bool)(e:Expr)(c:Cx)(J:St)(k:KK):Bool:=aI (HF HE e c J) (G5 emp J (kv k))
def aAw(m:Nat)(e:Expr)(c:Cx)(J:St)(k:KK):Bool:=aI (HF B9 e c J) (k (.val (.int (.ofNat m))) J)
def aAx(r:Nat)(e:Expr)(c:Cx)(J:St)(k:KK):Bool:=aI (HF o6 e c J) (Mine.alloc J (.range 0 r) (kv k))
theorem zX(e:Expr)(h:Q5 e=true):PlainE e:=by
 induction e using PySem.Expr.casesOn with
 |List es p=>exact .list es p
 |_=>exact ff h
theorem zY(e:Expr)(h:Q6 e=true):PlainE e:=by
 induction e using PySem.Expr.casesOn with
 |Call f as ks p=>exact .call f as ks p
 |_=>exact ff h
theorem zZ(e:Expr)(h:Q7 e=true):PlainE e:=by
 induction e using PySem.Expr.casesOn with
 |Call f as ks p=>exact .call f as ks p
 |_=>exact ff h
theorem aAy:aF cxL.names (aA o5)=some .local:=by kernel_rfl
theorem aLr:aF cxL.names (aA liS)=some .globalImplicit:=by kernel_rfl
theorem aLs:aF cxL.names (aA IG)=some .globalImplicit:=by kernel_rfl
theorem aPw:aF cxL.names (aA rgS)=some .globalImplicit:=by kernel_rfl
theorem aPx:aF cxL.names (aA miS)=some .globalImplicit:=by kernel_rfl
theorem aLt:dQ (aA liS)=some (.bi 3):=by kernel_rfl
theorem aPy:dQ (aA rgS)=some (.bi 4):=by kernel_rfl
theorem aPz:dQ (aA miS)=some (.bi 6):=by kernel_rfl
section
variable{Z:Gd}(G:aU Z){n:Nat}{a:Addr}{xs:Array Value}(X:ScrAt Z a xs)
include G X in
theorem z0(he:emp=true->xs.size=0)(e:Expr)(c:Cx)(J:St)(k:KK)(_:Q5 e=true)(h:aAv emp e c J k=true):G6 Z n e c J k:=by
 intro C V s A env Q E I a en hh q
 obtain⟨⟨rfl,rfl,hx⟩,h1⟩:=bW h
 exact Q1 G X I en aAy hx aLr aLt he h1 q
include G X in
theorem z4(e:Expr)(c:Cx)(J:St)(k:KK)(_:Q6 e=true)(h:aAw xs.size e c J k=true):G6 Z n e c J k:=by
 intro C V s A env Q E I a en hh q
 obtain⟨⟨rfl,rfl,hx⟩,h1⟩:=bW h
 exact zU G X I en aAy hx aLs gZ λtk tt=>q _ _ J V _ h1 (Vl.Le.refl V) (I.tok tk) (.int _ tt)
include G X in
theorem z5(e:Expr)(c:Cx)(J:St)(k:KK)(_:Q7 e=true)(h:aAx (1+min 2 (xs.size / 8)) e c J k=true):G6 Z n e c J k:=by
 intro C V s A env Q E I a en hh q
 obtain⟨⟨rfl,rfl,hx⟩,h1⟩:=bW h
 have hle:=X.le
 have bi:∀(T:String) (h:Heap),True->gC Z.M h (.builtin T):=λO O O=>⟨.machine,.inr (.inl rfl),.now⟩
 unfold o6
 rw[arm_eval_Call_Name']
 refine wpAny_bind (dO G I en aPw aPy rfl ?_)
 refine callWith_of (P:=λh=>True) rfl (λh O=>⟨.machine,.inr (.inl rfl),.now⟩) ?_
 refine evalArgs_plain (wpAny_items_cons (wpAny_BinOp (wpAny_Constant_int ?_)) rfl)
 rw[arm_eval_Call_Name']
 refine wpAny_bind (dO G (I.tok _) en aPx aPz rfl ?_)
 refine callWith_of (P:=λh=>True) rfl (λh O=>⟨.machine,.inr (.inl rfl),.now⟩) ?_
 refine evalArgs_plain (wpAny_items_cons (wpAny_Constant_int (wpAny_items_cons (wpAny_BinOp ?_) rfl)) rfl)
 refine zU G X (I.tok _) en aAy hx aLs gZ λtk tt=>?_
 refine wpAny_Constant_int (PyProof.Rows.floordiv_int (by decide) (wpAny_items_nil ⟨trivial,?_⟩) (.inl (PyProof.noPylong_small (by omega))))
 refine min_two_ints hh λh' tk' hk=>?_
 have e1:∀t u,∃v,(if(Int.ofNat xs.size).fdiv 8<2 then Value.int ((Int.ofNat xs.size).fdiv 8) t else Value.int 2 u)= .int (Int.ofNat (min 2 (xs.size / 8))) v:=λt u=>by
  have e2:(Int.ofNat xs.size).fdiv 8=Int.ofNat (xs.size / 8):=by
   rw[Int.fdiv_eq_ediv_of_nonneg _ (by decide)];rfl
  rw[e2]
  by_cases z:(Int.ofNat (xs.size / 8):Int)<2
  ·rw[if_pos z]
   simp only[Int.ofNat_eq_natCast]at z
   exact⟨t,by rw[Nat.min_eq_right (Int.ofNat_le.mp (Int.le_of_lt z))]⟩
  ·rw[if_neg z]
   simp only[Int.ofNat_eq_natCast]at z
   exact⟨u,by rw[Nat.min_eq_left (Int.ofNat_le.mp (Int.not_lt.mp z))];rfl⟩
 obtain⟨v,e⟩:=e1 _ _
 rw[e]
 refine P.add_int (wpAny_items_nil ⟨trivial,?_⟩)
 have e3:(1:Int)+Int.ofNat (min 2 (xs.size / 8))=Int.ofNat (1+min 2 (xs.size / 8)):=by simp only[Int.ofNat_eq_natCast];exact rfl
 rw[e3]
 have I2:Inv Z C V J {s with heap:=h',toks:=0}:=I.more (t:=0) hk
 refine call_range_1 (gW (s:={s with heap:=h',toks:=_}) (I2.tok _) h1 rfl (λV' h' le g=>⟨_,_,_,_,g,?_,?_⟩) q)
 ·rw[Int.sub_zero];rfl
 ·have:=Nat.min_le_left 2 (xs.size / 8)
  exact aIT
end
end
end
section
set_option backward.match.sparseCases false
noncomputable section
noncomputable def ihE(emp:Bool)(m:Nat):Nat->Ih
 |0=>Mine.wEv Q6 (aAw m) (Mine.wEv Q5 (aAv emp) (run 390))
 |j+1=>Mine.wEv Q6 (aAw m) (Mine.wEv Q5 (aAv emp) (step (ihE emp m j)))
noncomputable def ihR(r:Nat):Nat->Ih
 |0=>Mine.wEv Q7 (aAx r) (run 390)
 |j+1=>Mine.wEv Q7 (aAx r) (step (ihR r j))
section
variable{Z:Gd}(G:aU Z){a:Addr}{xs:Array Value}(X:ScrAt Z a xs)
include G X in
theorem x8(he:emp=true->xs.size=0):∀j,Full Z (390+j) (ihE emp xs.size j)
 |0=>((bV G 390).wEv zX (z0 G X he)).wEv zY (z4 G X)
 |j+1=>(((x8 he j).step G).wEv zX (z0 G X he)).wEv zY (z4 G X)
include G X in
theorem HG:∀j,Full Z (390+j) (ihR (1+min 2 (xs.size / 8)) j)
 |0=>(bV G 390).wEv zZ (z5 G X)
 |j+1=>((HG j).step G).wEv zZ (z5 G X)
end
noncomputable def aLv(v:SV):Bool:=match v with|.scr=>true|_=>false
noncomputable abbrev IH:Str:=Str.ofString "world"
noncomputable abbrev lkS:Str:=Str.ofString "looks"
def lS(L:List (Nm×SV)):Bool:=two L λp q=>cC p.1 (aA o5)&&aLv p.2&&cC q.1 (aA IH)
def aLw:KK:=λr J=>match r with|.next=>jT J&&lS J.L|_=>false
noncomputable def sM:KK:=λr O=>match r with|.ret (.bool b)=>b|_=>false
def Jc:St:=⟨T2,2,[(aA o5,.scr),(aA IH,.any)],false⟩
def oA(v:SV):Bool:=v7 v λd=>Nat.blt d 8
def aPB(o:Option SObj):Bool:=h9 o λxs=>bG oA xs
def HH:KK:=λr J=>match r with|.val v=>lL v λj=>aPB (J.T.get j)&&jT J&&lS J.L&&Nat.ble 2 j|_=>false
noncomputable def TO:Expr:=match n9 2 with|.For _ it _ _ _=>it|_=>B9
noncomputable def fR:List Stmt:=match n9 2 with|.For _ _ b _ _=>b|_=>[]
abbrev vC:Prop:=(some SV.scr:Option SV)=some SV.scr
theorem Q8:ihE true 0 8 (.exs lawBody cxL) JL0 sM dN=aI (HE=HE/\cxL=cxL/\vC) (aI (B9=B9/\cxL=cxL/\vC) true):=by kernel_rfl
theorem aAz(m:Nat):exE (ihE false m 3) (n9 0) cxL JL0 aLw dN=aI (HE=HE/\cxL=cxL/\vC) true:=by kernel_rfl
theorem aAA(m:Nat)(k:KK):exE (ihE false (m+1) 3) (n9 1) cxL Jc k dN=aI (B9=B9/\cxL=cxL/\vC) (k .next Jc):=by kernel_rfl
theorem aAB(J:St):exE (run 390) (n9 3) cxL J sM dN=true:=by kernel_rfl
theorem aLx:n9 2= .For (.Name wyS (po 711 8 11)) TO fR [] ⟨711,4,716,24⟩:=by kernel_rfl
theorem aAC:∃e gs sc p,TO= .ListComp e gs sc p:=by
 have h:(match TO with|.ListComp .. =>true|_=>false)=true:=by kernel_rfl
 generalize TO=e at h
 induction e using PySem.Expr.casesOn with
 |ListComp e gs sc p=>exact⟨_,_,_,_,rfl⟩
 |_=>cases h
theorem x9:lawBody=[n9 0,n9 1,n9 2,n9 3]:=by kernel_rfl
theorem Q9:ihR 1 3 (.ev TO cxL) Jc HH dN=aI (o6=o6/\cxL=cxL/\vC) true:=by kernel_rfl
theorem RA:ihR 2 3 (.ev TO cxL) Jc HH dN=aI (o6=o6/\cxL=cxL/\vC) true:=by kernel_rfl
theorem RB:ihR 3 3 (.ev TO cxL) Jc HH dN=aI (o6=o6/\cxL=cxL/\vC) true:=by kernel_rfl
end
end
section
noncomputable section
noncomputable def La(w:Nat):List (Nm×SV):=[(aA o5,.any),(aA IH,.any),(aA wyS,.int (.ofNat w))]
noncomputable def Lb(w:Nat):List (Nm×SV):=[(aA o5,.any),(aA IH,.any),(aA wyS,.int (.ofNat w)),(aA lkS,.any)]
noncomputable def Lx0:List (Nm×SV):=[(aA o5,.any),(aA IH,.any)]
noncomputable def Lx:List (Nm×SV):=[(aA o5,.any),(aA IH,.any),(aA wyS,.any),(aA lkS,.any)]
theorem aAD(k:KK):sL 8 (.exs fR cxL) ⟨T2,2,La 0,true⟩ k dN=aI (aY 759 [.ref 1,.ref 4] (sK 0)) (k .next ⟨T2,58,Lw 0,true⟩):=by kernel_rfl
theorem aAE(k:KK):sL 8 (.exs fR cxL) ⟨T2,2,La 1,true⟩ k dN=aI (aY 764 [.ref 1,.ref 4] (sK 1)) (k .next ⟨T2,58,Lw 1,true⟩):=by kernel_rfl
theorem aAF(k:KK):sL 8 (.exs fR cxL) ⟨T2,2,La 2,true⟩ k dN=aI (aY 769 [.ref 1,.ref 4] (sK 2)) (k .next ⟨T2,58,Lw 2,true⟩):=by kernel_rfl
theorem aAG(k:KK):sL 8 (.exs fR cxL) ⟨T2,2,La 3,true⟩ k dN=aI (aY 776 [.ref 1,.ref 4] (sK 3)) (k .next ⟨T2,58,Lw 3,true⟩):=by kernel_rfl
theorem aAH(k:KK):sL 8 (.exs fR cxL) ⟨T2,2,La 4,true⟩ k dN=aI (aY 781 [.ref 1,.ref 4] (sK 4)) (k .next ⟨T2,58,Lw 4,true⟩):=by kernel_rfl
theorem aAI(k:KK):sL 8 (.exs fR cxL) ⟨T2,2,La 5,true⟩ k dN=aI (aY 793 [.ref 1,.ref 4] (sK 5)) (k .next ⟨T2,58,Lw 5,true⟩):=by kernel_rfl
theorem aAJ(k:KK):sL 8 (.exs fR cxL) ⟨T2,2,La 6,true⟩ k dN=aI (aY 788 [.ref 1] ⟨TL,3,Lw 6,true⟩) (k .next ⟨T2,3,Lw 6,true⟩):=by kernel_rfl
theorem aAK(k:KK):sL 8 (.exs fR cxL) ⟨T2,2,La 7,true⟩ k dN=aI (aY 788 [.ref 1] ⟨TL,3,Lw 7,true⟩) (k .next ⟨T2,3,Lw 7,true⟩):=by kernel_rfl
theorem aAL(k:KK):sL 8 (.exs fR cxL) ⟨T2,2,Lb 0,true⟩ k dN=aI (aY 759 [.ref 1,.ref 4] (sK 0)) (k .next ⟨T2,58,Lw 0,true⟩):=by kernel_rfl
theorem aAM(k:KK):sL 8 (.exs fR cxL) ⟨T2,2,Lb 1,true⟩ k dN=aI (aY 764 [.ref 1,.ref 4] (sK 1)) (k .next ⟨T2,58,Lw 1,true⟩):=by kernel_rfl
theorem aAN(k:KK):sL 8 (.exs fR cxL) ⟨T2,2,Lb 2,true⟩ k dN=aI (aY 769 [.ref 1,.ref 4] (sK 2)) (k .next ⟨T2,58,Lw 2,true⟩):=by kernel_rfl
theorem aAO(k:KK):sL 8 (.exs fR cxL) ⟨T2,2,Lb 3,true⟩ k dN=aI (aY 776 [.ref 1,.ref 4] (sK 3)) (k .next ⟨T2,58,Lw 3,true⟩):=by kernel_rfl
theorem aAP(k:KK):sL 8 (.exs fR cxL) ⟨T2,2,Lb 4,true⟩ k dN=aI (aY 781 [.ref 1,.ref 4] (sK 4)) (k .next ⟨T2,58,Lw 4,true⟩):=by kernel_rfl
theorem aAQ(k:KK):sL 8 (.exs fR cxL) ⟨T2,2,Lb 5,true⟩ k dN=aI (aY 793 [.ref 1,.ref 4] (sK 5)) (k .next ⟨T2,58,Lw 5,true⟩):=by kernel_rfl
theorem aAR(k:KK):sL 8 (.exs fR cxL) ⟨T2,2,Lb 6,true⟩ k dN=aI (aY 788 [.ref 1] ⟨TL,3,Lw 6,true⟩) (k .next ⟨T2,3,Lw 6,true⟩):=by kernel_rfl
theorem aAS(k:KK):sL 8 (.exs fR cxL) ⟨T2,2,Lb 7,true⟩ k dN=aI (aY 788 [.ref 1] ⟨TL,3,Lw 7,true⟩) (k .next ⟨T2,3,Lw 7,true⟩):=by kernel_rfl
theorem RC(w:Nat)(h:w<8)(b:Bool):∃m,2≤m/\∀k:KK,sL 8 (.exs fR cxL) ⟨T2,2,cond b (Lb w) (La w),true⟩ k dN=k .next ⟨T2,m,Lw w,true⟩:=by
 have g:∀a v,(a,v)∈G9->aY a [.ref 1,.ref 4] (sK v):=λa v h=>.inl ⟨v,h,rfl,rfl⟩
 have g2:∀v,v=6∨v=7->aY 788 [.ref 1] ⟨TL,3,Lw v,true⟩:=λv h=>.inr ⟨rfl,v,h,rfl,rfl⟩
 match w,h with
 |0,_=>exact⟨58,by decide,λk=>by induction b;exact(aAD k).trans (aG (g _ _ (by decide)));exact(aAL k).trans (aG (g _ _ (by decide)))⟩
 |1,_=>exact⟨58,by decide,λk=>by induction b;exact(aAE k).trans (aG (g _ _ (by decide)));exact(aAM k).trans (aG (g _ _ (by decide)))⟩
 |2,_=>exact⟨58,by decide,λk=>by induction b;exact(aAF k).trans (aG (g _ _ (by decide)));exact(aAN k).trans (aG (g _ _ (by decide)))⟩
 |3,_=>exact⟨58,by decide,λk=>by induction b;exact(aAG k).trans (aG (g _ _ (by decide)));exact(aAO k).trans (aG (g _ _ (by decide)))⟩
 |4,_=>exact⟨58,by decide,λk=>by induction b;exact(aAH k).trans (aG (g _ _ (by decide)));exact(aAP k).trans (aG (g _ _ (by decide)))⟩
 |5,_=>exact⟨58,by decide,λk=>by induction b;exact(aAI k).trans (aG (g _ _ (by decide)));exact(aAQ k).trans (aG (g _ _ (by decide)))⟩
 |6,_=>exact⟨3,by decide,λk=>by induction b;exact(aAJ k).trans (aG (g2 _ (by decide)));exact(aAR k).trans (aG (g2 _ (by decide)))⟩
 |7,_=>exact⟨3,by decide,λk=>by induction b;exact(aAK k).trans (aG (g2 _ (by decide)));exact(aAS k).trans (aG (g2 _ (by decide)))⟩
 |n+8,h=>exact absurd h (Nat.not_lt.mpr (Nat.le_add_left 8 _))
theorem CA(J:St)(b:Bool)(v:SV)(k:St->Bool):dP cxL (aA wyS) v ⟨T2,2,cond b Lx Lx0,true⟩ k=k ⟨T2,2,cond b [(aA o5,.any),(aA IH,.any),(aA wyS,v),(aA lkS,.any)] [(aA o5,.any),(aA IH,.any),(aA wyS,v)],true⟩:=by
 induction b<;>kernel_rfl
end
end
section
set_option backward.match.sparseCases false
noncomputable section
theorem EnvOk.cut(h:EnvOk C V c env)(hc:∀n j,aD c.cells n=some j->j<lv):EnvOk C (V.cut V0 lv) c env:=
 ⟨h.kind,h.loc,h.glob,h.bui,h.kinds,h.dbg,h.cld,h.sup,λn j q q'=>⟨hc n j q,(h.cells n j q q').2⟩,h.frm,h.lam⟩
theorem CB(n:Nm)(j:Nat)(h:aD cxL.cells n=some j):j<2:=by
 change aD [(aA mG,0)] n=some j at h
 rw[aH]at h
 by_cases q:aA mG=n
 ·rw[if_pos q]at h;obtain rfl:=Option.some.inj h;decide
 ·rw[if_neg q]at h;exact fo h
theorem HI{V V0:Vl}{lv i:Nat}(le:V0.Le V){a:Addr}(h:V.own a=some (.obj i))(h0:V0.own a=none)(hi:lv≤i):(V.cut V0 lv).own a=none:=by
 show(match V0.own a with|some o=>some o|none=>(match V.own a with|some o=>if b8 lv o=true then some o else none|none=>none))=none
 rw[h0,h]
 show(if b8 lv (.obj i)=true then some (Own.obj i)else none)=none
 rw[if_neg]
 intro e
 have:=bF (e:Nat.blt i lv=true)
 exact Nat.not_lt_of_le hi this
theorem aAT{V V0:Vl}{lv i:Nat}{a:Addr}(h:(V.cut V0 lv).own a=some (.obj i))(h0:∀o,V0.own a=some o->∀i,o≠ .obj i):i<lv:=by
 change(match V0.own a with|some o=>some o|none=>(match V.own a with|some o=>if b8 lv o=true then some o else none|none=>none))=some (.obj i)at h
 induction e:V0.own a with
 |some o=>rw[e]at h;obtain rfl:=Option.some.inj h;exact absurd rfl (h0 _ e i)
 |none=>
  rw[e]at h
  induction e':V.own a with
  |none=>rw[e']at h;exact fo h
  |some o=>
   rw[e']at h
   change(if b8 lv o=true then some o else none)=some (.obj i)at h
   by_cases q:b8 lv o=true
   ·rw[if_pos q]at h;obtain rfl:=Option.some.inj h;exact bF q
   ·rw[if_neg q]at h;exact fo h
theorem hJ(m:Nat):gI m [] []:=λO=>rfl
theorem bQ(h:v'= .any∨(v'=v/\gH m v'=true))(t:gI m L L'):gI m ((x,v)::L) ((x,v')::L'):=λn=>by
 have t:=t n
 rw[aH,aH]
 by_cases q:x=n
 ·rw[if_pos q,if_pos q];exact⟨v,rfl,h⟩
 ·rw[if_neg q,if_neg q];exact t
theorem HJ(h:lS L=true):∃q,L=[(aA o5,.scr),(aA IH,q)]:=by
 obtain⟨⟨p1,p2⟩,⟨q1,q2⟩,rfl,h⟩:=wI h
 obtain⟨⟨h1,h2⟩,h3⟩:=hV h
 have h1:p1=aA o5:=bB h1
 have h3:q1=aA IH:=bB h3
 have h2:p2= .scr:=by
  induction p2 with
  |scr=>rfl
  |_=>exact ff h2
 rw[h1,h2,h3]
 exact⟨q2,rfl⟩
theorem z6(h:lS L=true):gI 2 L Jc.L/\gI 2 L Lx0:=by
 obtain⟨q,rfl⟩:=HJ h
 exact⟨bQ (.inr ⟨rfl,rfl⟩) (bQ (.inl rfl) (hJ 2)),bQ (.inl rfl) (bQ (.inl rfl) (hJ 2))⟩
theorem z7{J:St}(h:jT J=true){R:Nat->SObj->Prop}:∀j o',T2.get j=some o'->j<2/\((∃o,J.T.get j=some o/\G3 o o')/\u6 2 o'=true∨R j o'):=λj o' hj=>by
 obtain⟨c1,h⟩:=aM h
 rcases n6 hj with⟨rfl,rfl⟩|⟨rfl,rfl⟩
 ·exact⟨by decide,.inl ⟨⟨_,iS c1,.inl rfl⟩,rfl⟩⟩
 ·exact⟨by decide,.inl ⟨qG h,rfl⟩⟩
theorem RD(w:Nat):gI 2 (Lw w) Lx:=
 bQ (.inl rfl) (bQ (.inl rfl) (bQ (.inl rfl) (bQ (.inl rfl) (hJ 2))))
def sN(Z:Gd)(s':Shared):Prop:=aJi Z s'/\∀P,P∈tabs->∃ps,s'.heap.get? P=some (tabObj ps)
theorem Inv.lawEnd(I:Inv Z C V J s):sN Z s:=⟨I.base,λP hP=>let⟨ps,h,_⟩:=I.tab P hP;⟨ps,h⟩⟩
theorem qJ(h:sM (.ret v) J=true):v= .bool true:=by
 induction v with
 |bool b=>have h:b=true:=h;rw[h]
 |_=>exact ff h
section
variable{Z:Gd}(G:aU Z){a:Addr}{xs:Array Value}(X:ScrAt Z a xs)
include G X in
theorem HK:∃r,ihR (1+min 2 (xs.size / 8)) 3 (.ev TO cxL) Jc HH dN=aI (o6=o6/\cxL=cxL/\vC) r/\r=true:=by
 have h1:=Nat.min_le_left 2 (xs.size / 8)
 have:min 2 (xs.size / 8)=0∨min 2 (xs.size / 8)=1∨min 2 (xs.size / 8)=2:=by exact aIU
 rcases this with e|e|e<;>rw[e]
 ·exact⟨true,Q9,rfl⟩
 ·exact⟨true,RA,rfl⟩
 ·exact⟨true,RB,rfl⟩
theorem CC(h:oA v=true)(r:VR V v u):∃w t,w<8/\u= .int (Int.ofNat w) t:=by
 obtain⟨d,rfl,h⟩:=gN h
 obtain⟨t,rfl⟩:=r.inv_int
 exact⟨d,t,bF h,rfl⟩
theorem CD{V:Vl}{xs:List SV}{us:List Value}(r:VRs V xs us):bG oA xs=true->∀u,u∈us->∃w t,w<8/\u= .int (Int.ofNat w) t:=by
 refine r.ind (λO u hu=>absurd hu List.not_mem_nil) λx xs u' us r O ih h u hu=>?_
 obtain⟨h1,h2⟩:=aB (b:=oA x) (x:=bG oA xs) h
 rcases List.mem_cons.mp hu with rfl|hu
 ·exact CC h1 r
 ·exact ih h2 u hu
include G X in
theorem HL(H:hH Z)(htab:∀P,P∈tabs->Z.s0.heap.get? P=some (tabObj #[]))(hsm:∃o,Z.s0.heap.get? sysModules=some o){V:Vl}{s:Shared}{env:Env}{E:Value->Shared->Prop}(I:Inv Z (x6 Z.s0.heap.objs.size [env]) V JL0 s)
 (le:(HC Z.s0.heap.objs.size a).Le V) (ao:AOk (x6 Z.s0.heap.objs.size [env]) (callerA.deeper env) 450) (en:EnvOk (x6 Z.s0.heap.objs.size [env]) V cxL env):
 wpAny Z.M (callerA.deeper env) (execs lawBody env) (λf s'=>match f with|.ret v=>v= .bool true/\sN Z s'|_=>False) E s:=by
 have hh:(callerA.deeper env).handled=none:=rfl
 by_cases hx:xs.size=0
 ·have F:=(x8 G X (emp:=true) (λO=>hx) 8).snd
  rw[hx]at F
  refine F.exs (k:=sM) (kx:=dN) (by rw[Q8,aG ⟨rfl,rfl,rfl⟩,aG ⟨rfl,rfl,rfl⟩]) I (ao.le (by decide)) en (.inl hh) ⟨λJ' V' s' h=>(by exact ff h),λv u J' V' s' h le' I' r=>?_⟩ λx u J' V' s' h=>by exact ff h
  refine hold λG_ fin_=>?_
  obtain rfl:=qJ h
  refine fin_ ?_
  cases r with
  |bool _=>exact⟨rfl,I'.lawEnd⟩
 ·obtain⟨m,hm⟩:∃m,xs.size=m+1:=⟨xs.size-1,by exact(Nat.succ_pred_eq_of_ne_zero hx).symm⟩
  have F:=x8 G X (emp:=false) nofun 3
  rw[hm]at F
  rw[x9,execs_cons]
  refine wpAny_bind (mE G F.snd F.comp F.noset (k:=aLw) (kx:=dN) (by rw[aAz,aG ⟨rfl,rfl,rfl⟩]) I (ao.le (by decide)) en (.inl hh) ⟨λJ' V' s' h le' I'=>?_,λv u J' V' s' h=>(by exact ff h)⟩ λx u J' V' s' h=>by exact ff h)
  obtain⟨b1,b2⟩:=aM h
  have I00:=TN G htab hsm a X.scr
  have I1:=Inv.cut (C':=x6 Z.s0.heap.objs.size [env]) (lv:=2) (J':=Jc) I00 (le.trans le') (Nat.zero_le 2) I' rfl (z7 b1) (z6 b2).1 rfl rfl rfl rfl (λk a o h=>by exact fo h) (λO=>rfl)
  have en1:EnvOk (x6 Z.s0.heap.objs.size [env]) (V'.cut (HC Z.s0.heap.objs.size a) 2) cxL env:=(en.mono le').cut CB
  have hX1:(V'.cut (HC Z.s0.heap.objs.size a) 2).X=none:=rfl
  have hL1:(V'.cut (HC Z.s0.heap.objs.size a) 2).n=2:=rfl
  have hT1:∀b i,(V'.cut (HC Z.s0.heap.objs.size a) 2).own b=some (.obj i)->i<2:=λb i h=>aAT h λo ho i=>by
   change(if b=Z.s0.heap.objs.size then some (Own.fr 0)else none)=some o at ho
   by_cases q:b=Z.s0.heap.objs.size
   ·rw[if_pos q]at ho;obtain rfl:=Option.some.inj ho;nofun
   ·rw[if_neg q]at ho;exact fo ho
  generalize V'.cut (HC Z.s0.heap.objs.size a) 2=V1 at I1 en1 hX1 hL1 hT1
  show wpAny _ _ (execs _ env) _ _ s'
  rw[execs_cons]
  refine wpAny_bind (mE G F.snd F.comp F.noset (k:=u7 .next Jc) (kx:=dN) (by rw[aAA,aG ⟨rfl,rfl,rfl⟩];exact iR _ _) I1 (ao.le (by decide)) en1 (.inl hh) ⟨λJ2 V2 s2 h le2 I2=>?_,λv u J' V' s' h=>(by cases(eW h).1)⟩ λx u J' V' s' h=>by exact ff h)
  obtain⟨_,rfl⟩:=eW h
  show wpAny _ _ (execs _ env) _ _ s2
  rw[execs_cons,aLx]
  refine wpAny_bind (G7 (C:=x6 Z.s0.heap.objs.size [env]) hh (λv=>by obtain⟨e,gs,sc,p,h⟩:=aAC;rw[h];rfl) (λj V J=>V1.Le V/\∃b,J=⟨T2,2,cond b Lx Lx0,true⟩) (λus=>∀u,u∈us.toList->∃w t,w<8/\u= .int (Int.ofNat w) t) ?_ ?_ ?_)
  ·obtain⟨r,hr,hr'⟩:=HK G X
   have FR:=HG G X 3
   refine FR.snd.ev (k:=HH) (kx:=dN) (by rw[hr,hr',aG ⟨rfl,rfl,rfl⟩]) I2 (ao.le (by decide)) (en1.mono le2) (.inl hh) (λv u J3 V3 s3 h le3 I3 r=>?_) λx u J' V' s' h=>by exact ff h
   induction r with
   |ref j hj=>
    obtain⟨⟨⟨w1,w2⟩,w3⟩,w4⟩:=tH h
    obtain⟨ws,ho,w1⟩:=c9 w1
    · ·skip
       refine hold λG_ fin_=>?_
       obtain⟨t1,t2,hl,vs,ep,g1,g2⟩:=I3.T j _ ho
       refine fin_ ?_
       have le13:=le2.trans le3
       have w4:2≤j:=Nat.le_of_ble_eq_true w4
       have o1:V1.own (V3.ρ j)=none:=by
        induction e:V1.own (V3.ρ j)with
        |none=>rfl
        |some o=>
         have:=le13.own _ _ e
         rw[t2]at this;obtain rfl:=Option.some.inj this
         exact absurd (hT1 _ _ e) (Nat.not_lt.mpr w4)
       refine⟨V3.ρ j,vs,ep,V3.cut V1 2,⟨T2,2,Lx0,true⟩,rfl,CD g2 w1,?_,eL le13 (by rw[hL1];decide),false,rfl⟩
       refine Inv.cut (lv:=2) I1 le13 (by rw[hL1];decide) I3 rfl (z7 w2) (z6 w3).2 rfl rfl rfl rfl (λk a o h=>?_) (λO=>hX1)
       induction k using Nat.casesOn with
       |zero=>cases h;exact⟨HI le13 t2 o1 w4,(I3.own _ _ t2).1,g1⟩
       |succ k=>exact fo h
   |_=>exact ff h
  ·intro us ep T it o j u V2 J2 s4 E2 hP hu hR I4
   refine hold λG_ fin_=>?_
   obtain⟨le4,b,rfl⟩:=hR
   obtain⟨w,tw,hw,rfl⟩:=hP u (by rw[Array.mem_toList_iff];exact Array.mem_of_getElem? hu)
   refine fin_ ?_
   have en4:EnvOk (((x6 Z.s0.heap.objs.size [env]).hold T (iI us ep)).hold it o) V2 cxL env:=((en1.mono le4).hold).hold
   have ao4:AOk (((x6 Z.s0.heap.objs.size [env]).hold T (iI us ep)).hold it o) (callerA.deeper env) 408:=((ao.le (by decide)).hold).hold
   refine f8 I4 en4 (v:=.int (.ofNat w)) (k:=λJ=>x7 (J=⟨T2,2,cond b (Lb w) (La w),true⟩)) (.int _ tw) (by rw[CA ⟨T2,2,[],true⟩];exact gJ (by induction b<;>rfl)) λJ5 s5 h5 I5=>?_
   refine hold λG_ fin_=>?_
   obtain rfl:=eY h5
   obtain⟨m,hm2,ht⟩:=RC w hw b
   refine fin_ ?_
   refine Q0 (HB G H 8).snd ht I5 ao4 en4 hh λV6 s6 le6 I6=>?_
   have e2:V1.n≤2:=by rw[hL1];decide
   refine⟨V6.cut V1 2,⟨T2,2,Lx,true⟩,⟨eL (le4.trans le6) e2,true,rfl⟩,?_⟩
   refine Inv.cut (lv:=2) I1 (le4.trans le6) e2 I6 rfl (λj o' hj=>?_) (RD w) rfl rfl rfl rfl (λk a o h=>⟨dY (le4.trans le6) (I6.ext k a o h).1,(I6.ext k a o h).2⟩) (λO=>hX1)
   rcases n6 hj with⟨rfl,rfl⟩|⟨rfl,rfl⟩
   ·exact⟨by decide,.inl ⟨⟨_,rfl,.inl rfl⟩,rfl⟩⟩
   ·exact⟨by decide,.inl ⟨⟨_,rfl,.inl rfl⟩,rfl⟩⟩
  ·intro us V2 J2 s4 hP hR I4
   refine hold λG_ fin_=>?_
   obtain⟨le4,b,rfl⟩:=hR
   refine fin_ ?_
   show wpAny _ _ (execs [n9 3] env) _ _ s4
   rw[execs_cons]
   have FR:=bV G 390
   refine wpAny_bind (mE G FR.snd FR.comp FR.noset (aAB _) I4 (ao.le (by decide)) (en1.mono le4) (.inl hh) ⟨λJ' V' s' h=>(by exact ff h),λv u J' V' s' h le' I' r=>?_⟩ λx u J' V' s' h=>by exact ff h)
   refine hold λG_ fin_=>?_
   obtain rfl:=qJ h
   refine fin_ ?_
   cases r with
   |bool _=>exact wpAny_pure ⟨rfl,I'.lawEnd⟩
end
end
end
section
noncomputable section
theorem aAU{h:Heap}{a:Addr}{m m':Str->Option Value}(x:h.Ns a m)(y:h.Ns a m')(n:Str):m n=m' n:=by
 refine hold λG_ fin_=>?_
 obtain⟨o,es,ep,h1,h2,_,h3⟩:=x
 obtain⟨o',es',ep',h1',h2',_,h3'⟩:=y
 refine fin_ ?_
 rw[h1]at h1';obtain rfl:=Option.some.inj h1'
 rw[h2]at h2';cases h2'
 rw[<-h3,<-h3']
theorem aLy(P:Params):((K P).lookup sysModules).isSome=true:=by kernel_rfl
theorem HM:dQ (aA (Str.ofString "law"))=some (.fn 798):=by kernel_rfl
theorem RE(h:WShape.hasItems R xs .int=true):∀d,d∈xs->∃i,d= .int i:=by
 induction xs with
 |nil=>exact λd hd=>absurd hd List.not_mem_nil
 |cons x xs ih=>
  obtain⟨h1,h2⟩:=aM (a:=WShape.has R x .int) (b:=WShape.hasItems R xs .int) h
  intro d hd
  rcases List.mem_cons.mp hd with rfl|hd
  ·induction d using WData.casesOn with
   |int i=>exact⟨i,rfl⟩
   |_=>exact ff h1
  ·exact ih h2 d hd
theorem HN(r:ReadsW R cl h v (.int i) as):∃z t,v= .int z t:=by cases r;exact⟨_,_,rfl⟩
theorem yA:∀{vs:List Value} {as:List Addr},ReadsAllW R cl h vs xs as->(∀d,d∈xs->∃i,d= .int i)->vs.length=xs.length/\∀v,v∈vs->∃z t,v= .int z t:=by
 induction xs with
 |nil=>intro vs as r O;cases r;exact⟨rfl,λv hv=>absurd hv List.not_mem_nil⟩
 |cons x xs ih=>
  intro vs as r hi
  cases r with
  |cons r rs=>
   obtain⟨h1,h2⟩:=ih rs λd hd=>hi d (.tail _ hd)
   refine⟨congrArg Nat.succ h1,λv hv=>?_⟩
   obtain⟨i,rfl⟩:=hi _ (.head _)
   rcases List.mem_cons.mp hv with rfl|hv
   ·exact HN r
   ·exact h2 v hv
theorem RF(p:WShape.has [] d (.list .int)=true):∃ws,d= .list ws/\WShape.hasItems [] ws .int=true:=by
 induction d using WData.casesOn with
 |list ws=>
  have h:(WShape.hasItems [] ws .int||false)=true:=p
  exact⟨ws,rfl,by rwa [Bool.or_false]at h⟩
 |_=>exact ff p
theorem CE(hr:ReadsAllW R cl h vals [.list ws] as)(hi:∀d,d∈ws->∃i,d= .int i):
 ∃scr xs,vals=[.ref scr]/\h.IsList scr xs/\xs.size=ws.length/\∀v,v∈xs.toList->∃z t,v= .int z t:=by
 cases hr with
 |cons r1 r2=>
  cases r2
  cases r1 with
  |list h1 h2 h3 h4=>
   obtain⟨k1,k2⟩:=yA h4 hi
   exact⟨_,_,rfl,⟨_,h1,h2,_,h3⟩,k1,k2⟩
theorem HO{h:Heap}{a:Addr}{xs:Array Value}{P:Prop}(hx:h.IsList a xs)(ht:h.get? a=some (tabObj #[])):P:=by
 obtain⟨o,h1,h2,_⟩:=hx
 obtain rfl:=Option.some.inj (ht.symm.trans h1)
 exact vff h2 rfl
theorem RG(h:(OpenLaw.pre PySem.Challenge.rw_nu0283_01).holds [] {args:=[.list xs]}=true):xs.length≤63:=by
 by_cases q:(63:Int)<(xs.length:Int)
 ·exfalso
  have e:(OpenLaw.pre PySem.Challenge.rw_nu0283_01).holds [] {args:=[.list xs]}=false:=by
   have e1:OpenLaw.pre PySem.Challenge.rw_nu0283_01= .and (.not (.lt (.lit (.int 63)) (.len (.arg 0)))) (.lit (.bool true)):=rfl
   rw[e1]
   have e2:PySem.W.less? (.int 63) (.int (xs.length:Int))=some true:=by
    have:PySem.W.less? (.int 63) (.int (xs.length:Int))=some (decide ((63:Int)<(xs.length:Int))):=by simp[PySem.W.less?,Num.less?]
    rw[this,decide_eq_true q]
   simp[WTm.holds,WTm.value,e2]
  rw[e]at h;exact ff h
 ·exact Int.ofNat_le.mp (Int.not_lt.mp q)
theorem CF(args:List WData):rowL.toRowW.claim.post args (.bool true) args=true:=by
 have e:rowL.toRowW.claim.post args (.bool true) args=(WShape.has [] (.bool true) .bool&&WTm.holds [] (.eq .res (.lit (.bool true))) {args:=args,res:=some (.bool true),after:=args}):=rfl
 rw[e]
 have e1:WShape.has [] (.bool true) .bool=true:=by decide+kernel
 rw[e1]
 simp[WTm.holds,WTm.value,PySem.W.same]
theorem HP{w:World}{s₀ s₁ s':Shared}{S:Value}{args:List WData}{v:Value}(Y:hook.says w s₁.heap)(G:aU ⟨w,s₁,S⟩)(hg:s₁.gens= #[])(h:v= .bool true/\sN ⟨w,s₁,S⟩ s'):
 GoodWG rowL.toRowW.claim (classAt s₀.heap) (ExcName.means s₀.heap) args s₁ (.ok (.ret v)) s':=by
 obtain⟨rfl,⟨h1,h2⟩,h3⟩:=h
 have like:s'={s₁ with heap:=s'.heap,toks:=s'.toks}:=h1
 have old:∀b o,s₁.heap.get? b=some o->b∉tabs->s'.heap.get? b=some o:=h2
 refine⟨.inl ⟨.bool true,.bool true,[],rfl,λO=>rfl,.bool true,CF args,λO=>⟨List.nodup_nil,(λO h=>(List.not_mem_nil h).elim)⟩⟩,⟨λb o e=>?_,λb o e=>?_⟩,by rw[like],.of_eq (by rw[like];exact hg)⟩
 ·by_cases hb:b∈tabs
  ·have ht:s₁.heap.get? b=some (tabObj #[]):=km_tabs_of Y b hb
   rw[ht]at e;obtain rfl:=Option.some.inj e
   refine hold λG_ fin_=>?_
   obtain⟨ps,hp⟩:=h3 b hb
   obtain⟨o,vs,file,tf,flags,tg,inF,text,tt,f1,f2,f3,f4,_⟩:=(G.lam b hb).1
   refine fin_ ?_
   exact .inr (.inl ⟨⟨fF b,o,vs,f1,f2,f3,f4⟩,rfl,#[],ps,rfl,by rw[hp];simp[tabObj]⟩)
  ·exact .inl (old b o e hb)
 ·by_cases hb:b∈tabs
  ·obtain⟨ps,hp⟩:=h3 b hb;exact⟨_,hp⟩
  ·exact⟨o,old b o e hb⟩
theorem RH(H:∀w s S,aU ⟨w,s,S⟩->hH ⟨w,s,S⟩):WalkO qv jZ (λO O=>True) hook.says rowL.toRowW lawD [] λf vs=>PySem.call f vs:=by
 intro w s₀ s₁ mg mb Gr Y a o pm cd doc dV kV ho hd hc hdf hmg hgens args vals as hpre hlay hreads hwell hlow
 obtain⟨p1,p2⟩:=pre_splitW hpre
 obtain⟨d,r,rfl,p3,p4⟩:=hasAllW_cons (e:=.list .int) (es:=[]) p1
 have hr:r=[]:=by
  induction r using List.casesOn with
  |nil=>rfl
  |cons _ _=>exact ff p4
 subst hr
 have hl:=RF p3
 obtain⟨ws,rfl,hi⟩:=hl
 have hlen:=RG p2
 have hi:=RE hi
 have hv:=CE hreads hi
 refine hold λG_ fin_=>?_
 obtain⟨scr,xs,rfl,hx,hxl,hxn⟩:=hv
 have G:aU ⟨w,s₁,.ref scr⟩:=aLc Y
 have ha:a=798:=by
  obtain⟨mg',mb',g1,_,_,_,gg⟩:=G.glob
  obtain⟨u,hu,hvr⟩:=gg _ _ HM
  have e:=aAU Gr.T.g g1 lawD.name
  have e2:mg' lawD.name=some u:=by
   rcases hu with hu|⟨hu,_⟩
   ·exact hu
   ·rw[hmg]at e
    have:mg' lawD.name=none:=hu
    rw[this]at e;cases e
  have:=hvr (HC 0 0)
  cases this
  rw[hmg,e2]at e
  exact Value.ref.inj (Option.some.inj e)
 subst ha
 have htab:∀P,P∈tabs->s₁.heap.get? P=some (tabObj #[]):=km_tabs_of Y
 obtain⟨so,hso⟩:=Option.isSome_iff_exists.mp (aLy w.params)
 refine fin_ ?_
 have hsm:∃o,s₁.heap.get? sysModules=some o:=⟨so,km_in_of Y _ _ hso⟩
 have hnt:scr∉tabs:=λh=>by
  exact HO hx (htab _ h)
 have X:ScrAt ⟨w,s₁,.ref scr⟩ scr xs:=⟨rfl,hx,hnt,hxn,by exact Nat.le_trans (Nat.le_of_eq hxl) hlen⟩
 have:=B8 (Z:=⟨w,s₁,.ref scr⟩) G htab hsm scr rfl (Q:=λv s'=>v= .bool true/\sN ⟨w,s₁,.ref scr⟩ s') (E:=λO O=>False) λ{V s env E} I le ao en=>by
  exact HL G X (H _ _ _ G) htab hsm I le ao en
 exact wpAny_mono this (λv s' h=>HP Y G hgens h) λO O h=>h.elim
theorem HQ(H:∀w s S,aU ⟨w,s,S⟩->hH ⟨w,s,S⟩):PySem.Challenge.rw_nu0283_01.Holds:=DY (RH H)
end
end
section
set_option backward.match.sparseCases false
open PySem.SeqAt
noncomputable section
noncomputable abbrev rwS:Str:=Str.ofString "rows"
noncomputable abbrev tkS:Str:=Str.ofString "_law_take"
noncomputable def rowsL:List Nm:=[nm "Object BasicObject",nm "Module Object",nm "Class Module",nm "Integer Numeric",nm "Numeric Object",nm "Hash Object",nm "Exception Object",nm "ScriptError Exception",nm "NotImplementedError ScriptError",nm "StandardError Exception",nm "SystemStackError Exception",nm "ArgumentError StandardError",nm "UncaughtThrowError ArgumentError",nm "FiberError StandardError",nm "IndexError StandardError",nm "KeyError IndexError",nm "StopIteration IndexError",nm "LocalJumpError StandardError",nm "NameError StandardError",nm "NoMethodError NameError",nm "NoMatchingPatternError StandardError",nm "NoMatchingPatternKeyError NoMatchingPatternError",nm "RangeError StandardError",nm "RuntimeError StandardError",nm "FrozenError RuntimeError",nm "TypeError StandardError",nm "ZeroDivisionError StandardError",nm "NilClass Object",nm "Proc Object"]
def oB:Expr:=.Subscript (.Name rwS (po 689 16 20)) (.Call (.Name tkS (po 689 21 30)) [.Name mG (po 689 31 34),.Call (.Name IG (po 689 36 39)) [.Name rwS (po 689 40 44)] [] (po 689 36 45)] [] (po 689 21 46)) (po 689 16 47)
def cxC:Cx:=⟨[(Str.ofString ".0",.local),(Str.ofString "k",.local),(tkS,.globalImplicit),(IG,.globalImplicit),(mG,.free),(rwS,.free)],[(aA rwS,59),(aA mG,58)],0⟩
noncomputable def RI(e:Expr):Bool:=match e with|.Subscript _ f p=>mR f&&Nat.beq p.line 689&&Nat.beq p.col 16|_=>false
def RJ(o:Option SObj)(l:List Nm):Bool:=h9 o λxs=>x5 jS xs (l.map .str)
noncomputable def aPC(o:SObj):Bool:=match o with|.box=>true|_=>false
def yB(J:St):Bool:=some? (J.T.get 59) (u8 λv=>lL v λr=>sH (J.T.get 58)&&some? (J.T.get 1) aPC&& !J.sy&&RJ (J.T.get r) rowsL)
def aAV(e:Expr)(c:Cx)(J:St)(k:KK):Bool:=aI (e=oB/\c=cxC) (match yB J with|true=>k (.val (.one rowsL)) J|false=>false)
theorem z8(e:Expr)(h:RI e=true):PlainE e:=by
 induction e using PySem.Expr.casesOn with
 |Subscript o f p=>obtain⟨g,as,ks,q,rfl⟩:=pS (hV h).1.1;exact .sub _ _ _ _ _ _
 |_=>exact ff h
theorem vD(h:yB J=true):∃r,J.T.get 59=some (.cell (some (.ref r)))/\J.T.get 58=some (.cell (some (.ref 1)))/\J.T.get 1=some .box/\J.sy=false/\J.T.get r=some (.list (rowsL.map .str)):=by
 obtain⟨o,h0,h⟩:=some?_eq h
 obtain⟨v,rfl,h⟩:=jV h
 obtain⟨r,rfl,h⟩:=d9 h
 obtain⟨⟨⟨h1,h2⟩,h3⟩,h4⟩:=tH h
 obtain⟨b,e,h2⟩:=some?_eq h2
 obtain⟨xs,e2,h4⟩:=c9 h4
 refine⟨r,h0,iS h1,?_,(Bool.not_eq_true' _).mp h3,by rw[e2,jU (λO O h=>bO h) h4]⟩
 rw[e]
 induction b with
 |box=>rfl
 |_=>exact ff h2
theorem RK(J:St)(K:KV):eN cxC (aA rwS) J K=some? (cellOf (J.T.get 59)) λv=>K v J:=by kernel_rfl
theorem aAW(J:St)(K:KV):eN cxC (aA mG) J K=some? (cellOf (J.T.get 58)) λv=>K v J:=by kernel_rfl
theorem RL(J:St)(K:KV):eN cxC (aA tkS) J K=K (.fn 740) J:=by kernel_rfl
theorem aLz:aF cxC.names (aA IG)=some .globalImplicit:=by kernel_rfl
theorem eZ:rowsL.length=29:=by kernel_rfl
theorem CG{α:Type}{f:α->Bool}:∀{l:List α},(∀x,x∈l->f x=true)->bG f l=true:=by
 intro l
 induction l with
 |nil=>
  intro O
  exact rfl
 |cons x l rec_=>
  intro h
  show Bool.rec (motive:=λO=>Bool) false (bG f l) (f x)=true
  rw[h x (.head _)]
  exact rec_ λy hy=>h y (.tail _ hy)
section
variable{Z:Gd}(G:aU Z){n:Nat}{C:Cf}{V:Vl}{J:St}{s:Shared}{A:Around}{env:Env}{E:Value->Shared->Prop}
include G in
theorem hN(I:Inv Z C V J s)(en:EnvOk C V c env)(h:∀K:KV,K v J=true->eN c (aA x) J K=true)(q:∀u,VR V v u->Q u s):wpAny Z.M A (eval (.Name x p) env) Q E s:=by
 have h1:eN c (aA x) J (λw O=>x7 (w=v))=true:=h _ (gJ rfl)
 have:=eA (A:=A) (E:=E) (Q:=Q) G.glob I en h1 λw u h r=>by
  have:=eY h
  subst this
  exact q u r
 rw[aJ]at this
 refine wpAny_Name this ?_
 refine beq_eq_false_iff_ne.mpr λe=>?_
 have kr:KindRel (aF c.names (aA x)) (env.kindOf x):=en.kinds (aA x)
 rw[show env.kindOf x=none by rw[e];exact en.dbg]at kr
 obtain⟨names,cells,tb⟩:=c
 change some? (aF names (aA x)) _=true at h1
 generalize hz:aF names (aA x)=z at kr h1
 have kr:KindRel z none:=kr
 cases kr
 cases h1
include G in
theorem z9(hn:1≤n)(e:Expr)(c:Cx)(J:St)(k:KK)(_:RI e=true)(h:aAV e c J k=true):G6 Z n e c J k:=by
 intro C V s A env Q E I a en hh q
 obtain⟨⟨rfl,rfl⟩,h1⟩:=bW h
 induction hc:yB J with
 |false=>rw[hc]at h1;exact ff h1
 |true=>
  rw[hc]at h1
  have h1:k (.val (.one rowsL)) J=true:=h1
  refine hold λG_ fin_=>?_
  obtain⟨r,t59,t58,t1,hsy,tr⟩:=vD hc
  obtain⟨rn,_,_,vs,ep,g1,g2⟩:=I.T r _ tr
  refine fin_ ?_
  have hlist:s.heap.IsList (V.ρ r) vs:=⟨_,g1,rfl,ep,rfl⟩
  have hsz:vs.size=29:=by
   have:=g2.length
   rw[List.length_map,eZ]at this
   simpa using this.symm
  have lr:∀K:KV,K (.ref r) J=true->eN cxC (aA rwS) J K=true:=λK h=>by rw[RK,t59];exact h
  have lb:∀K:KV,K (.ref 1) J=true->eN cxC (aA mG) J K=true:=λK h=>by rw[aAW,t58];exact h
  have lt:∀K:KV,K (.fn 740) J=true->eN cxC (aA tkS) J K=true:=λK h=>by rw[RL];exact h
  unfold oB
  refine PyProof.Rows.Subscript_ (hN G I en lr λru rr=>?_)
  exact VR.el_ref rr λO=>by
   rw[arm_eval_Call_Name']
   refine wpAny_bind (hN G I en lt λfu fr=>?_)
   cases fr with
   |fn _=>
    have hcal:zD J (.fn 740):=Option.isSome_iff_exists.mp (show(aE iJ 740).isSome=true by kernel_rfl)
    refine callWith_of (P:=λh=>gC Z.M h (.ref 740)) rfl (λh x=>x) ?_
    refine evalArgs_plain (wpAny_items_cons (hN G I en lb λbu br=>?_) rfl)
    refine wpAny_items_cons ?_ rfl
    rw[arm_eval_Call_Name']
    refine wpAny_bind (dO G I en aLz gZ rfl ?_)
    refine callWith_of (P:=λh=>True) rfl (λh O=>⟨.machine,.inr (.inl rfl),.now⟩) ?_
    refine evalArgs_plain (wpAny_items_cons (hN G I en lr λru2 rr2=>?_) rfl)
    exact VR.el_ref rr2 λO=>by
     refine wpAny_items_nil ⟨trivial,call_len_list hlist (hsz▸(by decide)) (wpAny_items_nil ⟨jO G (I.tok _) hcal (.fn 740),?_⟩)⟩
     rw[hsz]
     have ht:take [.ref 1,.int (.ofNat 29)] J (λr J2=>x7 (J2=J/\∃d,d<29/\r= .val (.int (.ofNat d))))=true:=by
      show wF 1 29 J _ (J.T.get 1)=true
      rw[t1]
      show Bool.rec (motive:=λO=>Bool) (bG _ (wE 29)) _ J.sy=true
      rw[hsy]
      exact CG λd hd=>gJ ⟨rfl,d,List.mem_range.mp hd,rfl⟩
     refine wpAny_call (sG G ht (I.tok _) (n:=0) (a.le hn) hh ⟨br,.int _ _,trivial⟩ λv u J2 V2 s2 h2 le2 I2 r2=>?_)
     obtain⟨rfl,d,hd,e⟩:=eY h2
     cases e
     exact VR.el_int r2 λtd=>by
      refine hold λG_ fin_=>?_
      obtain⟨_,_,_,vs2,ep2,g3,g4⟩:=I2.T r _ tr
      refine fin_ ?_
      have hsz2:vs2.size=29:=by
       have:=g4.length
       rw[List.length_map,eZ]at this
       simpa using this.symm
      rw[<-le2.ρ r rn]
      have hl2:s2.heap.IsList (V2.ρ r) vs2:=⟨_,g3,rfl,ep2,rfl⟩
      have hx:(rowsL.map SV.str)[d]?=some (.str (rowsL[d]'(by rw[eZ];exact hd))):=by
       rw[List.getElem?_map,List.getElem?_eq_getElem (by rw[eZ];exact hd)];rfl
      obtain⟨w,hw,vr⟩:=g4.at _ _ hx
      refine cM hl2.typeIs slot_list_getitem.lookup ?_ rfl
      refine wpAny_getItem_list hl2 (by simp only[Int.ofNat_eq_natCast];exact Int.natCast_nonneg _) (by simp only[Int.ofNat_eq_natCast];exact ET (Nat.le_trans (Nat.le_of_lt hd) (by decide))) (by simpa using hw) ?_
      generalize hy:rowsL[d]'(by rw[eZ];exact hd)=y at vr
      have hm:y∈rowsL:=by rw[<-hy];exact List.getElem_mem _
      exact VR.el_str vr λt=>by exact q _ _ _ _ _ h1 le2 (I2.tok _) (.one rowsL y t hm)
end
end
end
section
set_option backward.match.sparseCases false
noncomputable section
noncomputable def aAX:List SObj:=[b0 "Numeric" true (.opq 0) (.ref 25) (.ref 11) .any .any .any (.ref 62) .any,
 b0 "Comparable" false (.opq 1) (.ref 32) (.none) .any .any .any (.any) .any,
 .list [.ref 61],
 b0 "Hash" true (.opq 3) (.ref 25) (.ref 11) .any .any .any (.ref 65) .any,
 b0 "Enumerable" false (.opq 4) (.ref 32) (.none) .any .any .any (.any) .any,
 .list [.ref 64],
 b0 "Integer" true (.opq 6) (.ref 25) (.ref 60) .any .any .any (.any) .any,
 b0 "NilClass" true (.opq 7) (.ref 25) (.ref 11) .any .any .any (.any) .any,
 b0 "Proc" true (.opq 8) (.ref 25) (.ref 11) .any .any .any (.any) .any,
 b0 "Exception" true (.opq 9) (.ref 25) (.ref 11) .any .any .any (.any) .any,
 b0 "ScriptError" true (.opq 10) (.ref 25) (.ref 69) .any .any .any (.any) .any,
 b0 "NotImplementedError" true (.opq 11) (.ref 25) (.ref 70) .any .any .any (.any) .any,
 b0 "SystemStackError" true (.opq 12) (.ref 25) (.ref 69) .any .any .any (.any) .any,
 b0 "StandardError" true (.opq 13) (.ref 25) (.ref 69) .any .any .any (.any) .any,
 b0 "ArgumentError" true (.opq 14) (.ref 25) (.ref 73) .any .any .any (.any) .any,
 b0 "UncaughtThrowError" true (.opq 15) (.ref 25) (.ref 74) .any .any .any (.any) .any,
 b0 "FiberError" true (.opq 16) (.ref 25) (.ref 73) .any .any .any (.any) .any,
 b0 "IndexError" true (.opq 17) (.ref 25) (.ref 73) .any .any .any (.any) .any,
 b0 "KeyError" true (.opq 18) (.ref 25) (.ref 77) .any .any .any (.any) .any,
 b0 "StopIteration" true (.opq 19) (.ref 25) (.ref 77) .any .any .any (.any) .any,
 b0 "LocalJumpError" true (.opq 20) (.ref 25) (.ref 73) .any .any .any (.any) .any,
 b0 "NameError" true (.opq 21) (.ref 25) (.ref 73) .any .any .any (.any) .any,
 b0 "NoMethodError" true (.opq 22) (.ref 25) (.ref 81) .any .any .any (.any) .any,
 b0 "NoMatchingPatternError" true (.opq 23) (.ref 25) (.ref 73) .any .any .any (.any) .any,
 b0 "NoMatchingPatternKeyError" true (.opq 24) (.ref 25) (.ref 83) .any .any .any (.any) .any,
 b0 "RangeError" true (.opq 25) (.ref 25) (.ref 73) .any .any .any (.any) .any,
 b0 "RuntimeError" true (.opq 26) (.ref 25) (.ref 73) .any .any .any (.any) .any,
 b0 "FrozenError" true (.opq 27) (.ref 25) (.ref 86) .any .any .any (.any) .any,
 b0 "TypeError" true (.opq 28) (.ref 25) (.ref 73) .any .any .any (.any) .any,
 b0 "ZeroDivisionError" true (.opq 29) (.ref 25) (.ref 73) .any .any .any (.any) .any]
noncomputable def RM:List Nm:=[nm "Numeric",nm "Comparable",nm "",nm "Hash",nm "Enumerable",nm "",nm "Integer",nm "NilClass",nm "Proc",nm "Exception",nm "ScriptError",nm "NotImplementedError",nm "SystemStackError",nm "StandardError",nm "ArgumentError",nm "UncaughtThrowError",nm "FiberError",nm "IndexError",nm "KeyError",nm "StopIteration",nm "LocalJumpError",nm "NameError",nm "NoMethodError",nm "NoMatchingPatternError",nm "NoMatchingPatternKeyError",nm "RangeError",nm "RuntimeError",nm "FrozenError",nm "TypeError",nm "ZeroDivisionError"]
noncomputable def aLA:List (List Nat):=[[0,1,2],[0,1,2],[0,1,2],[3,4,5],[3,4,5],[3,4,5],[0,1,2,6],[7],[8],[9],[9,10],[9,10,11],[9,12],[9,13],[9,13,14],[9,13,14,15],[9,13,16],[9,13,17],[9,13,17,18],[9,13,17,19],[9,13,20],[9,13,21],[9,13,21,22],[9,13,23],[9,13,23,24],[9,13,25],[9,13,26],[9,13,26,27],[9,13,28],[9,13,29]]
noncomputable def rowTab:List (Nm×List (List Nat)):=[(nm "Object BasicObject",[]),
 (nm "Module Object",[]),
 (nm "Class Module",[]),
 (nm "Integer Numeric",[[0,1,2],[6]]),
 (nm "Numeric Object",[[0,1,2]]),
 (nm "Hash Object",[[3,4,5]]),
 (nm "Exception Object",[[9]]),
 (nm "ScriptError Exception",[[9],[10]]),
 (nm "NotImplementedError ScriptError",[[9],[10],[11]]),
 (nm "StandardError Exception",[[9],[13]]),
 (nm "SystemStackError Exception",[[9],[12]]),
 (nm "ArgumentError StandardError",[[9],[13],[14]]),
 (nm "UncaughtThrowError ArgumentError",[[9],[13],[14],[15]]),
 (nm "FiberError StandardError",[[9],[13],[16]]),
 (nm "IndexError StandardError",[[9],[13],[17]]),
 (nm "KeyError IndexError",[[9],[13],[17],[18]]),
 (nm "StopIteration IndexError",[[9],[13],[17],[19]]),
 (nm "LocalJumpError StandardError",[[9],[13],[20]]),
 (nm "NameError StandardError",[[9],[13],[21]]),
 (nm "NoMethodError NameError",[[9],[13],[21],[22]]),
 (nm "NoMatchingPatternError StandardError",[[9],[13],[23]]),
 (nm "NoMatchingPatternKeyError NoMatchingPatternError",[[9],[13],[23],[24]]),
 (nm "RangeError StandardError",[[9],[13],[25]]),
 (nm "RuntimeError StandardError",[[9],[13],[26]]),
 (nm "FrozenError RuntimeError",[[9],[13],[26],[27]]),
 (nm "TypeError StandardError",[[9],[13],[28]]),
 (nm "ZeroDivisionError StandardError",[[9],[13],[29]]),
 (nm "NilClass Object",[[7]]),
 (nm "Proc Object",[[8]])]
def lG(id:Nat):SObj:=(bI aAX id).getD (.list [])
def fS(id:Nat):Nm:=(bI RM id).getD []
def aQ(id:Nat):List Nat:=(bI aLA id).getD []
def bY(id:Nat):Bool:=match lG id with|.inst .. =>true|_=>false
noncomputable def sO(pos:Nat->Nat)(v:SV):SV:=match v with
 |.ref i=>(match Nat.blt i 60 with|true=>.ref i|false=>.ref (pos (i-60)))
 |v=>v
noncomputable def vE(pos:Nat->Nat):List (Nm×SV)->List (Nm×SV)
 | []=>[]
 |p::l=>(p.1,sO pos p.2)::vE pos l
noncomputable def yC(pos:Nat->Nat):List SV->List SV
 | []=>[]
 |v::l=>sO pos v::yC pos l
def yD(pos:Nat->Nat)(o:SObj):SObj:=match o with
 |.inst C es=>.inst C (vE pos es)
 |.list xs=>.list (yC pos xs)
 |o=>o
noncomputable def vF:List Nat->Nat->Nat->Nat
 | [],_,k=>k
 |a::l,id,k=>match Nat.beq a id with|true=>k|false=>vF l id (k+1)
noncomputable def cG(mem:List Nat)(id:Nat):Nat:=vF mem id 60
noncomputable def mad0:List (Nm×SV):=[(nm "Object",.ref 11),(nm "BasicObject",.ref 18),(nm "Class",.ref 25),(nm "Module",.ref 32),(nm "Kernel",.ref 47)]
noncomputable def bK(pos:Nat->Nat):List Nat->List (Nm×SV)
 | []=>[]
 |id::l=>match bY id with|true=>(fS id,.ref (pos id))::bK pos l|false=>bK pos l
noncomputable def bH:List Nat->List Nm
 | []=>[]
 |id::l=>match bY id with|true=>fS id::bH l|false=>bH l
noncomputable def hO(pos:Nat->Nat):List Nat->Nat->List (Nat×SObj)
 | [],_=>[]
 |id::l,n=>(n,yD pos (lG id))::hO pos l (n+1)
noncomputable def iT:List (Nat×SObj)->PT->(PT->Bool)->Bool
 | [],T,k=>k T
 |p::l,T,k=>PT.put p.2 T p.1 λT=>iT l T k
noncomputable def lH(num:SV):List (Nm×SV):=[((nm "natives"),.ref 3),((nm "prelude"),.ref 5),((nm "read"),.none),((nm "most"),.int 20000),((nm "taken"),.int 0),((nm "last_number"),num),((nm "last_ident"),.int 8),((nm "symbol_idents"),.ref 6),((nm "made"),.ref 7),((nm "version"),.int 0),((nm "const_version"),.int 0),((nm "globals"),.ref 8),((nm "out"),.ref 9),((nm "is_ready"),.bool true),((nm "main"),.ref 55)]
def cW(num:SV)(md:List (Nm×SV))(ab:List Nm):List (Nat×SObj):=[(4,.inst 715 (lH num)),(7,.mdict md ab),(58,.cell (some (.ref 1))),(59,.cell (some .any))]
noncomputable def bJ:List (List Nat)->List Nat
 | []=>[]
 |u::us=>u++bJ us
noncomputable def bBody:List Stmt:=fO (tD 61)
noncomputable def bS(k:Nat):Stmt:=bBody.getD k (.Pass ⟨0,0,0,0⟩)
def sP:List Stmt:=match bS 8 with|.For _ _ b _ _=>b|_=>[]
noncomputable def vV:Cx:=⟨(bP (tD 61)).names,[(nm "rows",59),(nm "box",58)],0⟩
noncomputable def HR(v:SV):Bool:=match v with|.opq _=>true|.lin _=>true|.int _=>true|_=>false
def yE(v t:SV):Bool:=match t with
 |.any=>true
 |.opq _=>HR v
 |t=>jS v t
def o7(l m:List (Nm×SV)):Bool:=List.rec (motive:=λO=>List (Nm×SV)->Bool) j0 (λp O ih m=>List.rec (motive:=λO=>Bool) false (λq m O=>Bool.rec (motive:=λO=>Bool) false (ih m) (cC p.1 q.1&&yE p.2 q.2)) m) l m
def RN(l m:List SV):Bool:=List.rec (motive:=λO=>List SV->Bool) j0 (λp O ih m=>List.rec (motive:=λO=>Bool) false (λq m O=>Bool.rec (motive:=λO=>Bool) false (ih m) (yE p q)) m) l m
def RO(o:Option SObj)(t:SObj):Bool:=match o with
 |some (.inst C es)=>(match t with|.inst D fs=>Nat.beq C D&&o7 es fs|_=>false)
 |some (.list xs)=>(match t with|.list ys=>RN xs ys|_=>false)
 |_=>false
def eqL(l m:List SV):Bool:=x5 jS l m
def eqP(l m:List (SV×SV)):Bool:=x5 (λp q=>jS p.1 q.1&&jS p.2 q.2) l m
def sQ(o:Option SObj)(t:SObj):Bool:=match o with
 |some (.inst C es)=>(match t with|.inst D fs=>Nat.beq C D&&TK es fs|_=>false)
 |some (.list xs)=>(match t with|.list ys=>eqL xs ys|_=>false)
 |some (.tup xs)=>(match t with|.tup ys=>eqL xs ys|_=>false)
 |some (.dict es)=>(match t with|.dict fs=>eqP es fs|_=>false)
 |some (.cell (some v))=>u8 (jS v) t
 |some .box=>(match t with|.box=>true|_=>false)
 |_=>false
noncomputable def oldIdx:List Nat:=(List.range 58).filter λj=>j !=4&&j !=7
def AA(T:PT):Bool:=bG (λj=>match(iU .box).get j with|some t=>sQ (T.get j) t|none=>false) oldIdx
noncomputable def TP(o:Option SV):Nat:=match o with|some (.ref i)=>i|_=>0
noncomputable def oC(id:Nat):Option Nat:=match Nat.beq id 2,Nat.beq id 5 with|true,_=>some 0|_,true=>some 3|_,_=>none
def sR(es:List (Nm×SV))(id:Nat):Nat:=TP (aD es (fS id))
def loc(T:PT)(es:List (Nm×SV))(id:Nat):Nat:=match oC id with
 |some ow=>TP (pB (T.get (sR es ow)) (nm "mixed"))
 |none=>sR es id
noncomputable def TQ(f:Nat->List (Nm×SV)->Bool)(o:SObj):Bool:=match o with|.inst C es=>f C es|_=>false
noncomputable def mdB(f:List (Nm×SV)->Bool)(o:SObj):Bool:=match o with|.mdict es _=>f es|_=>false
def aLC(v:SV)(f:Nat->Bool):Bool:=PC v λi=>Int.rec (motive:=λO=>Bool) f (λO=>false) i
def AB(o:Option SObj):Bool:=some? o (TQ λC es=>some? (aD es (nm "last_number")) λv=>aLC v λc=>
 Nat.beq C 715&&TK (es.take 5) ((lH .none).take 5)&&TK (es.drop 6) ((lH .none).drop 6)&&Nat.ble 6 c&&Nat.ble c 20&&some? (bI es 5) λp=>cC p.1 (nm "last_number"))
def RP(l:List (Nm×SV))(ns:List Nm):Bool:=bG (λp=>iB ns p.1) l
noncomputable def TR(o:Option SV):Bool:=match o with|some (.ref _)=>true|_=>false
def gK(l:List Nat):Bool:=List.rec (motive:=λO=>Bool) true (λa l ih=>Bool.rec (motive:=λO=>Bool) false ih (!(aP l a))) l
def aAY(T:PT)(es:List (Nm×SV))(ch mem:List Nat):Bool:=
 TK (es.take 5) mad0&&RP (es.drop 5) (bH ch)&&Nat.ble (bA es) 15&&bG (λid=>match bY id with|true=>TR (aD es (fS id))|false=>true) ch&&
  bG (λid=>RO (T.get (loc T es id)) (yD (loc T es) (lG id))) ch&&bG (λid=>Nat.beq (loc T es id) (cG mem id)) mem&&bG (λid=>Nat.ble 60 (loc T es id)) ch&&gK (ch.map (loc T es))
noncomputable def Lr(b:Bool)(t:Nm):List (Nm×SV):=match b with
 |false=>[(nm "world",.ref 4),(nm "row",.str t)]
 |true=>[(nm "world",.ref 4),(nm "row",.str t),(nm "first",.any),(nm "last",.any),(nm "found",.any)]
noncomputable def cZ:List (Nm×SV):=[(nm "world",.ref 4),(nm "row",.any),(nm "first",.any),(nm "last",.any),(nm "found",.any)]
def sS(ch mem:List Nat):KK:=λr J=>match r with
 |.next=>AA J.T&&sQ (J.T.get 58) (.cell (some (.ref 1)))&&sQ (J.T.get 59) (.cell (some .any))&&AB (J.T.get 4)&&o7 J.L cZ&&some? (J.T.get 7) (mdB λes=>aAY J.T es ch mem)
 |_=>false
def aC(b:Bool)(t:Nm)(units:List (List Nat))(j:Nat):Bool:=
 iT (cW (.lin 6) (mad0++bK (cG (bJ (units.take j))) (bJ (units.take j))) (bH (bJ (units.drop j)))++hO (cG (bJ (units.take j))) (bJ (units.take j)) 60) (iU .box) λT=>
  Mine.run 380 (.exs sP vV) ⟨T,60+(bJ (units.take j)).length,Lr b t,false⟩ (sS (bJ units) (bJ (units.take j))) dN
end
end
section
noncomputable def a9(r:Nm×List (List Nat)):Prop:=(∀j,j≤r.2.length->aC true r.1 r.2 j=true)/\aC false r.1 r.2 0=true
theorem aLD:aC true (nm "Object BasicObject") [] 0=true:=by kernel_rfl
theorem aLE:aC false (nm "Object BasicObject") [] 0=true:=by kernel_rfl
theorem rw0:a9 (nm "Object BasicObject",[]):=⟨λj h=>match j,h with
 |0,_=>aLD
 |n+1,h=>absurd (show n+1≤0 from h) (i9 rfl),aLE⟩
theorem aLF:aC true (nm "Module Object") [] 0=true:=by kernel_rfl
theorem aLG:aC false (nm "Module Object") [] 0=true:=by kernel_rfl
theorem rw1:a9 (nm "Module Object",[]):=⟨λj h=>match j,h with
 |0,_=>aLF
 |n+1,h=>absurd (show n+1≤0 from h) (i9 rfl),aLG⟩
theorem aLH:aC true (nm "Class Module") [] 0=true:=by kernel_rfl
theorem aLI:aC false (nm "Class Module") [] 0=true:=by kernel_rfl
theorem rw2:a9 (nm "Class Module",[]):=⟨λj h=>match j,h with
 |0,_=>aLH
 |n+1,h=>absurd (show n+1≤0 from h) (i9 rfl),aLI⟩
theorem aLJ:aC true (nm "Integer Numeric") [[0,1,2],[6]] 0=true:=by kernel_rfl
theorem aLK:aC true (nm "Integer Numeric") [[0,1,2],[6]] 1=true:=by kernel_rfl
theorem aLL:aC true (nm "Integer Numeric") [[0,1,2],[6]] 2=true:=by kernel_rfl
theorem aLM:aC false (nm "Integer Numeric") [[0,1,2],[6]] 0=true:=by kernel_rfl
theorem rw3:a9 (nm "Integer Numeric",[[0,1,2],[6]]):=⟨λj h=>match j,h with
 |0,_=>aLJ
 |1,_=>aLK
 |2,_=>aLL
 |n+3,h=>absurd (show n+3≤2 from h) (i9 rfl),aLM⟩
theorem aLN:aC true (nm "Numeric Object") [[0,1,2]] 0=true:=by kernel_rfl
theorem aLO:aC true (nm "Numeric Object") [[0,1,2]] 1=true:=by kernel_rfl
theorem aLP:aC false (nm "Numeric Object") [[0,1,2]] 0=true:=by kernel_rfl
theorem rw4:a9 (nm "Numeric Object",[[0,1,2]]):=⟨λj h=>match j,h with
 |0,_=>aLN
 |1,_=>aLO
 |n+2,h=>absurd (show n+2≤1 from h) (i9 rfl),aLP⟩
theorem aLQ:aC true (nm "Hash Object") [[3,4,5]] 0=true:=by kernel_rfl
theorem aLR:aC true (nm "Hash Object") [[3,4,5]] 1=true:=by kernel_rfl
theorem aLS:aC false (nm "Hash Object") [[3,4,5]] 0=true:=by kernel_rfl
theorem rw5:a9 (nm "Hash Object",[[3,4,5]]):=⟨λj h=>match j,h with
 |0,_=>aLQ
 |1,_=>aLR
 |n+2,h=>absurd (show n+2≤1 from h) (i9 rfl),aLS⟩
theorem aLT:aC true (nm "Exception Object") [[9]] 0=true:=by kernel_rfl
theorem aLU:aC true (nm "Exception Object") [[9]] 1=true:=by kernel_rfl
theorem aLV:aC false (nm "Exception Object") [[9]] 0=true:=by kernel_rfl
theorem rw6:a9 (nm "Exception Object",[[9]]):=⟨λj h=>match j,h with
 |0,_=>aLT
 |1,_=>aLU
 |n+2,h=>absurd (show n+2≤1 from h) (i9 rfl),aLV⟩
theorem aLW:aC true (nm "ScriptError Exception") [[9],[10]] 0=true:=by kernel_rfl
theorem aLX:aC true (nm "ScriptError Exception") [[9],[10]] 1=true:=by kernel_rfl
theorem aLY:aC true (nm "ScriptError Exception") [[9],[10]] 2=true:=by kernel_rfl
theorem aLZ:aC false (nm "ScriptError Exception") [[9],[10]] 0=true:=by kernel_rfl
theorem rw7:a9 (nm "ScriptError Exception",[[9],[10]]):=⟨λj h=>match j,h with
 |0,_=>aLW
 |1,_=>aLX
 |2,_=>aLY
 |n+3,h=>absurd (show n+3≤2 from h) (i9 rfl),aLZ⟩
theorem aMa:aC true (nm "NotImplementedError ScriptError") [[9],[10],[11]] 0=true:=by kernel_rfl
theorem aMb:aC true (nm "NotImplementedError ScriptError") [[9],[10],[11]] 1=true:=by kernel_rfl
theorem aMc:aC true (nm "NotImplementedError ScriptError") [[9],[10],[11]] 2=true:=by kernel_rfl
theorem aMd:aC true (nm "NotImplementedError ScriptError") [[9],[10],[11]] 3=true:=by kernel_rfl
theorem aMe:aC false (nm "NotImplementedError ScriptError") [[9],[10],[11]] 0=true:=by kernel_rfl
theorem rw8:a9 (nm "NotImplementedError ScriptError",[[9],[10],[11]]):=⟨λj h=>match j,h with
 |0,_=>aMa
 |1,_=>aMb
 |2,_=>aMc
 |3,_=>aMd
 |n+4,h=>absurd (show n+4≤3 from h) (i9 rfl),aMe⟩
theorem aMf:aC true (nm "StandardError Exception") [[9],[13]] 0=true:=by kernel_rfl
theorem aMg:aC true (nm "StandardError Exception") [[9],[13]] 1=true:=by kernel_rfl
theorem aMh:aC true (nm "StandardError Exception") [[9],[13]] 2=true:=by kernel_rfl
theorem aMi:aC false (nm "StandardError Exception") [[9],[13]] 0=true:=by kernel_rfl
theorem rw9:a9 (nm "StandardError Exception",[[9],[13]]):=⟨λj h=>match j,h with
 |0,_=>aMf
 |1,_=>aMg
 |2,_=>aMh
 |n+3,h=>absurd (show n+3≤2 from h) (i9 rfl),aMi⟩
theorem aAZ:aC true (nm "SystemStackError Exception") [[9],[12]] 0=true:=by kernel_rfl
theorem aBa:aC true (nm "SystemStackError Exception") [[9],[12]] 1=true:=by kernel_rfl
theorem aBb:aC true (nm "SystemStackError Exception") [[9],[12]] 2=true:=by kernel_rfl
theorem aBc:aC false (nm "SystemStackError Exception") [[9],[12]] 0=true:=by kernel_rfl
theorem aPE:a9 (nm "SystemStackError Exception",[[9],[12]]):=⟨λj h=>match j,h with
 |0,_=>aAZ
 |1,_=>aBa
 |2,_=>aBb
 |n+3,h=>absurd (show n+3≤2 from h) (i9 rfl),aBc⟩
theorem aBd:aC true (nm "ArgumentError StandardError") [[9],[13],[14]] 0=true:=by kernel_rfl
theorem aBe:aC true (nm "ArgumentError StandardError") [[9],[13],[14]] 1=true:=by kernel_rfl
theorem aBf:aC true (nm "ArgumentError StandardError") [[9],[13],[14]] 2=true:=by kernel_rfl
theorem aBg:aC true (nm "ArgumentError StandardError") [[9],[13],[14]] 3=true:=by kernel_rfl
theorem aBh:aC false (nm "ArgumentError StandardError") [[9],[13],[14]] 0=true:=by kernel_rfl
theorem aPF:a9 (nm "ArgumentError StandardError",[[9],[13],[14]]):=⟨λj h=>match j,h with
 |0,_=>aBd
 |1,_=>aBe
 |2,_=>aBf
 |3,_=>aBg
 |n+4,h=>absurd (show n+4≤3 from h) (i9 rfl),aBh⟩
theorem aBi:aC true (nm "UncaughtThrowError ArgumentError") [[9],[13],[14],[15]] 0=true:=by kernel_rfl
theorem aBj:aC true (nm "UncaughtThrowError ArgumentError") [[9],[13],[14],[15]] 1=true:=by kernel_rfl
theorem aBk:aC true (nm "UncaughtThrowError ArgumentError") [[9],[13],[14],[15]] 2=true:=by kernel_rfl
theorem aBl:aC true (nm "UncaughtThrowError ArgumentError") [[9],[13],[14],[15]] 3=true:=by kernel_rfl
theorem aBm:aC true (nm "UncaughtThrowError ArgumentError") [[9],[13],[14],[15]] 4=true:=by kernel_rfl
theorem aBn:aC false (nm "UncaughtThrowError ArgumentError") [[9],[13],[14],[15]] 0=true:=by kernel_rfl
theorem aPG:a9 (nm "UncaughtThrowError ArgumentError",[[9],[13],[14],[15]]):=⟨λj h=>match j,h with
 |0,_=>aBi
 |1,_=>aBj
 |2,_=>aBk
 |3,_=>aBl
 |4,_=>aBm
 |n+5,h=>absurd (show n+5≤4 from h) (i9 rfl),aBn⟩
theorem aBo:aC true (nm "FiberError StandardError") [[9],[13],[16]] 0=true:=by kernel_rfl
theorem aBp:aC true (nm "FiberError StandardError") [[9],[13],[16]] 1=true:=by kernel_rfl
theorem aBq:aC true (nm "FiberError StandardError") [[9],[13],[16]] 2=true:=by kernel_rfl
theorem aBr:aC true (nm "FiberError StandardError") [[9],[13],[16]] 3=true:=by kernel_rfl
theorem aBs:aC false (nm "FiberError StandardError") [[9],[13],[16]] 0=true:=by kernel_rfl
theorem aPH:a9 (nm "FiberError StandardError",[[9],[13],[16]]):=⟨λj h=>match j,h with
 |0,_=>aBo
 |1,_=>aBp
 |2,_=>aBq
 |3,_=>aBr
 |n+4,h=>absurd (show n+4≤3 from h) (i9 rfl),aBs⟩
theorem aBt:aC true (nm "IndexError StandardError") [[9],[13],[17]] 0=true:=by kernel_rfl
theorem aBu:aC true (nm "IndexError StandardError") [[9],[13],[17]] 1=true:=by kernel_rfl
theorem aBv:aC true (nm "IndexError StandardError") [[9],[13],[17]] 2=true:=by kernel_rfl
theorem aBw:aC true (nm "IndexError StandardError") [[9],[13],[17]] 3=true:=by kernel_rfl
theorem aBx:aC false (nm "IndexError StandardError") [[9],[13],[17]] 0=true:=by kernel_rfl
theorem aPI:a9 (nm "IndexError StandardError",[[9],[13],[17]]):=⟨λj h=>match j,h with
 |0,_=>aBt
 |1,_=>aBu
 |2,_=>aBv
 |3,_=>aBw
 |n+4,h=>absurd (show n+4≤3 from h) (i9 rfl),aBx⟩
theorem aBy:aC true (nm "KeyError IndexError") [[9],[13],[17],[18]] 0=true:=by kernel_rfl
theorem aBz:aC true (nm "KeyError IndexError") [[9],[13],[17],[18]] 1=true:=by kernel_rfl
theorem aBA:aC true (nm "KeyError IndexError") [[9],[13],[17],[18]] 2=true:=by kernel_rfl
theorem aBB:aC true (nm "KeyError IndexError") [[9],[13],[17],[18]] 3=true:=by kernel_rfl
theorem aBC:aC true (nm "KeyError IndexError") [[9],[13],[17],[18]] 4=true:=by kernel_rfl
theorem aBD:aC false (nm "KeyError IndexError") [[9],[13],[17],[18]] 0=true:=by kernel_rfl
theorem aPJ:a9 (nm "KeyError IndexError",[[9],[13],[17],[18]]):=⟨λj h=>match j,h with
 |0,_=>aBy
 |1,_=>aBz
 |2,_=>aBA
 |3,_=>aBB
 |4,_=>aBC
 |n+5,h=>absurd (show n+5≤4 from h) (i9 rfl),aBD⟩
theorem aBE:aC true (nm "StopIteration IndexError") [[9],[13],[17],[19]] 0=true:=by kernel_rfl
theorem aBF:aC true (nm "StopIteration IndexError") [[9],[13],[17],[19]] 1=true:=by kernel_rfl
theorem aBG:aC true (nm "StopIteration IndexError") [[9],[13],[17],[19]] 2=true:=by kernel_rfl
theorem aBH:aC true (nm "StopIteration IndexError") [[9],[13],[17],[19]] 3=true:=by kernel_rfl
theorem aBI:aC true (nm "StopIteration IndexError") [[9],[13],[17],[19]] 4=true:=by kernel_rfl
theorem aBJ:aC false (nm "StopIteration IndexError") [[9],[13],[17],[19]] 0=true:=by kernel_rfl
theorem aPK:a9 (nm "StopIteration IndexError",[[9],[13],[17],[19]]):=⟨λj h=>match j,h with
 |0,_=>aBE
 |1,_=>aBF
 |2,_=>aBG
 |3,_=>aBH
 |4,_=>aBI
 |n+5,h=>absurd (show n+5≤4 from h) (i9 rfl),aBJ⟩
theorem aBK:aC true (nm "LocalJumpError StandardError") [[9],[13],[20]] 0=true:=by kernel_rfl
theorem aBL:aC true (nm "LocalJumpError StandardError") [[9],[13],[20]] 1=true:=by kernel_rfl
theorem aBM:aC true (nm "LocalJumpError StandardError") [[9],[13],[20]] 2=true:=by kernel_rfl
theorem aBN:aC true (nm "LocalJumpError StandardError") [[9],[13],[20]] 3=true:=by kernel_rfl
theorem aBO:aC false (nm "LocalJumpError StandardError") [[9],[13],[20]] 0=true:=by kernel_rfl
theorem aPL:a9 (nm "LocalJumpError StandardError",[[9],[13],[20]]):=⟨λj h=>match j,h with
 |0,_=>aBK
 |1,_=>aBL
 |2,_=>aBM
 |3,_=>aBN
 |n+4,h=>absurd (show n+4≤3 from h) (i9 rfl),aBO⟩
theorem aBP:aC true (nm "NameError StandardError") [[9],[13],[21]] 0=true:=by kernel_rfl
theorem aBQ:aC true (nm "NameError StandardError") [[9],[13],[21]] 1=true:=by kernel_rfl
theorem aBR:aC true (nm "NameError StandardError") [[9],[13],[21]] 2=true:=by kernel_rfl
theorem aBS:aC true (nm "NameError StandardError") [[9],[13],[21]] 3=true:=by kernel_rfl
theorem aBT:aC false (nm "NameError StandardError") [[9],[13],[21]] 0=true:=by kernel_rfl
theorem aPM:a9 (nm "NameError StandardError",[[9],[13],[21]]):=⟨λj h=>match j,h with
 |0,_=>aBP
 |1,_=>aBQ
 |2,_=>aBR
 |3,_=>aBS
 |n+4,h=>absurd (show n+4≤3 from h) (i9 rfl),aBT⟩
theorem aBU:aC true (nm "NoMethodError NameError") [[9],[13],[21],[22]] 0=true:=by kernel_rfl
theorem aBV:aC true (nm "NoMethodError NameError") [[9],[13],[21],[22]] 1=true:=by kernel_rfl
theorem aBW:aC true (nm "NoMethodError NameError") [[9],[13],[21],[22]] 2=true:=by kernel_rfl
theorem aBX:aC true (nm "NoMethodError NameError") [[9],[13],[21],[22]] 3=true:=by kernel_rfl
theorem aBY:aC true (nm "NoMethodError NameError") [[9],[13],[21],[22]] 4=true:=by kernel_rfl
theorem aBZ:aC false (nm "NoMethodError NameError") [[9],[13],[21],[22]] 0=true:=by kernel_rfl
theorem aPN:a9 (nm "NoMethodError NameError",[[9],[13],[21],[22]]):=⟨λj h=>match j,h with
 |0,_=>aBU
 |1,_=>aBV
 |2,_=>aBW
 |3,_=>aBX
 |4,_=>aBY
 |n+5,h=>absurd (show n+5≤4 from h) (i9 rfl),aBZ⟩
theorem aCa:aC true (nm "NoMatchingPatternError StandardError") [[9],[13],[23]] 0=true:=by kernel_rfl
theorem aCb:aC true (nm "NoMatchingPatternError StandardError") [[9],[13],[23]] 1=true:=by kernel_rfl
theorem aCc:aC true (nm "NoMatchingPatternError StandardError") [[9],[13],[23]] 2=true:=by kernel_rfl
theorem aCd:aC true (nm "NoMatchingPatternError StandardError") [[9],[13],[23]] 3=true:=by kernel_rfl
theorem aCe:aC false (nm "NoMatchingPatternError StandardError") [[9],[13],[23]] 0=true:=by kernel_rfl
theorem aPO:a9 (nm "NoMatchingPatternError StandardError",[[9],[13],[23]]):=⟨λj h=>match j,h with
 |0,_=>aCa
 |1,_=>aCb
 |2,_=>aCc
 |3,_=>aCd
 |n+4,h=>absurd (show n+4≤3 from h) (i9 rfl),aCe⟩
theorem aCf:aC true (nm "NoMatchingPatternKeyError NoMatchingPatternError") [[9],[13],[23],[24]] 0=true:=by kernel_rfl
theorem aCg:aC true (nm "NoMatchingPatternKeyError NoMatchingPatternError") [[9],[13],[23],[24]] 1=true:=by kernel_rfl
theorem aCh:aC true (nm "NoMatchingPatternKeyError NoMatchingPatternError") [[9],[13],[23],[24]] 2=true:=by kernel_rfl
theorem aCi:aC true (nm "NoMatchingPatternKeyError NoMatchingPatternError") [[9],[13],[23],[24]] 3=true:=by kernel_rfl
theorem aCj:aC true (nm "NoMatchingPatternKeyError NoMatchingPatternError") [[9],[13],[23],[24]] 4=true:=by kernel_rfl
theorem aCk:aC false (nm "NoMatchingPatternKeyError NoMatchingPatternError") [[9],[13],[23],[24]] 0=true:=by kernel_rfl
theorem aPP:a9 (nm "NoMatchingPatternKeyError NoMatchingPatternError",[[9],[13],[23],[24]]):=⟨λj h=>match j,h with
 |0,_=>aCf
 |1,_=>aCg
 |2,_=>aCh
 |3,_=>aCi
 |4,_=>aCj
 |n+5,h=>absurd (show n+5≤4 from h) (i9 rfl),aCk⟩
theorem aCl:aC true (nm "RangeError StandardError") [[9],[13],[25]] 0=true:=by kernel_rfl
theorem aCm:aC true (nm "RangeError StandardError") [[9],[13],[25]] 1=true:=by kernel_rfl
theorem aCn:aC true (nm "RangeError StandardError") [[9],[13],[25]] 2=true:=by kernel_rfl
theorem aCo:aC true (nm "RangeError StandardError") [[9],[13],[25]] 3=true:=by kernel_rfl
theorem aCp:aC false (nm "RangeError StandardError") [[9],[13],[25]] 0=true:=by kernel_rfl
theorem aPQ:a9 (nm "RangeError StandardError",[[9],[13],[25]]):=⟨λj h=>match j,h with
 |0,_=>aCl
 |1,_=>aCm
 |2,_=>aCn
 |3,_=>aCo
 |n+4,h=>absurd (show n+4≤3 from h) (i9 rfl),aCp⟩
theorem aCq:aC true (nm "RuntimeError StandardError") [[9],[13],[26]] 0=true:=by kernel_rfl
theorem aCr:aC true (nm "RuntimeError StandardError") [[9],[13],[26]] 1=true:=by kernel_rfl
theorem aCs:aC true (nm "RuntimeError StandardError") [[9],[13],[26]] 2=true:=by kernel_rfl
theorem aCt:aC true (nm "RuntimeError StandardError") [[9],[13],[26]] 3=true:=by kernel_rfl
theorem aCu:aC false (nm "RuntimeError StandardError") [[9],[13],[26]] 0=true:=by kernel_rfl
theorem aPR:a9 (nm "RuntimeError StandardError",[[9],[13],[26]]):=⟨λj h=>match j,h with
 |0,_=>aCq
 |1,_=>aCr
 |2,_=>aCs
 |3,_=>aCt
 |n+4,h=>absurd (show n+4≤3 from h) (i9 rfl),aCu⟩
theorem aCv:aC true (nm "FrozenError RuntimeError") [[9],[13],[26],[27]] 0=true:=by kernel_rfl
theorem aCw:aC true (nm "FrozenError RuntimeError") [[9],[13],[26],[27]] 1=true:=by kernel_rfl
theorem aCx:aC true (nm "FrozenError RuntimeError") [[9],[13],[26],[27]] 2=true:=by kernel_rfl
theorem aCy:aC true (nm "FrozenError RuntimeError") [[9],[13],[26],[27]] 3=true:=by kernel_rfl
theorem aCz:aC true (nm "FrozenError RuntimeError") [[9],[13],[26],[27]] 4=true:=by kernel_rfl
theorem aCA:aC false (nm "FrozenError RuntimeError") [[9],[13],[26],[27]] 0=true:=by kernel_rfl
theorem aPS:a9 (nm "FrozenError RuntimeError",[[9],[13],[26],[27]]):=⟨λj h=>match j,h with
 |0,_=>aCv
 |1,_=>aCw
 |2,_=>aCx
 |3,_=>aCy
 |4,_=>aCz
 |n+5,h=>absurd (show n+5≤4 from h) (i9 rfl),aCA⟩
theorem aCB:aC true (nm "TypeError StandardError") [[9],[13],[28]] 0=true:=by kernel_rfl
theorem aCC:aC true (nm "TypeError StandardError") [[9],[13],[28]] 1=true:=by kernel_rfl
theorem aCD:aC true (nm "TypeError StandardError") [[9],[13],[28]] 2=true:=by kernel_rfl
theorem aCE:aC true (nm "TypeError StandardError") [[9],[13],[28]] 3=true:=by kernel_rfl
theorem aCF:aC false (nm "TypeError StandardError") [[9],[13],[28]] 0=true:=by kernel_rfl
theorem aPT:a9 (nm "TypeError StandardError",[[9],[13],[28]]):=⟨λj h=>match j,h with
 |0,_=>aCB
 |1,_=>aCC
 |2,_=>aCD
 |3,_=>aCE
 |n+4,h=>absurd (show n+4≤3 from h) (i9 rfl),aCF⟩
theorem aCG:aC true (nm "ZeroDivisionError StandardError") [[9],[13],[29]] 0=true:=by kernel_rfl
theorem aCH:aC true (nm "ZeroDivisionError StandardError") [[9],[13],[29]] 1=true:=by kernel_rfl
theorem aCI:aC true (nm "ZeroDivisionError StandardError") [[9],[13],[29]] 2=true:=by kernel_rfl
theorem aCJ:aC true (nm "ZeroDivisionError StandardError") [[9],[13],[29]] 3=true:=by kernel_rfl
theorem aCK:aC false (nm "ZeroDivisionError StandardError") [[9],[13],[29]] 0=true:=by kernel_rfl
theorem aPU:a9 (nm "ZeroDivisionError StandardError",[[9],[13],[29]]):=⟨λj h=>match j,h with
 |0,_=>aCG
 |1,_=>aCH
 |2,_=>aCI
 |3,_=>aCJ
 |n+4,h=>absurd (show n+4≤3 from h) (i9 rfl),aCK⟩
theorem aCL:aC true (nm "NilClass Object") [[7]] 0=true:=by kernel_rfl
theorem aCM:aC true (nm "NilClass Object") [[7]] 1=true:=by kernel_rfl
theorem aCN:aC false (nm "NilClass Object") [[7]] 0=true:=by kernel_rfl
theorem aPV:a9 (nm "NilClass Object",[[7]]):=⟨λj h=>match j,h with
 |0,_=>aCL
 |1,_=>aCM
 |n+2,h=>absurd (show n+2≤1 from h) (i9 rfl),aCN⟩
theorem aCO:aC true (nm "Proc Object") [[8]] 0=true:=by kernel_rfl
theorem aCP:aC true (nm "Proc Object") [[8]] 1=true:=by kernel_rfl
theorem aCQ:aC false (nm "Proc Object") [[8]] 0=true:=by kernel_rfl
theorem aPW:a9 (nm "Proc Object",[[8]]):=⟨λj h=>match j,h with
 |0,_=>aCO
 |1,_=>aCP
 |n+2,h=>absurd (show n+2≤1 from h) (i9 rfl),aCQ⟩
theorem RQ(r:Nm×List (List Nat))(h:r∈rowTab):a9 r:=by
 unfold rowTab at h
 simp only[List.mem_cons,List.not_mem_nil,or_false]at h
 rcases h with rfl|rfl|rfl|rfl|rfl|rfl|rfl|rfl|rfl|rfl|rfl|rfl|rfl|rfl|rfl|rfl|rfl|rfl|rfl|rfl|rfl|rfl|rfl|rfl|rfl|rfl|rfl|rfl|rfl
 ·exact rw0
 ·exact rw1
 ·exact rw2
 ·exact rw3
 ·exact rw4
 ·exact rw5
 ·exact rw6
 ·exact rw7
 ·exact rw8
 ·exact rw9
 ·exact aPE
 ·exact aPF
 ·exact aPG
 ·exact aPH
 ·exact aPI
 ·exact aPJ
 ·exact aPK
 ·exact aPL
 ·exact aPM
 ·exact aPN
 ·exact aPO
 ·exact aPP
 ·exact aPQ
 ·exact aPR
 ·exact aPS
 ·exact aPT
 ·exact aPU
 ·exact aPV
 ·exact aPW
end
section
set_option backward.match.sparseCases false
noncomputable section
theorem HS(h:eqL l m=true):l=m:=jU (λO O h=>bO h) h
theorem aCR(h:eqP l m=true):l=m:=jU (λO O h=>Prod.ext (bO (aM h).1) (bO (aM h).2)) h
theorem eF(h:sQ o t=true):o=some t:=by
 induction o with
 |none=>exact ff h
 |some x=>
  induction x with
  |inst C es=>induction t with
   |inst D fs=>
    have h:=aM (a:=Nat.beq C D) (b:=TK es fs) h
    rw[Nat.eq_of_beq_eq_true h.1,kO h.2]
   |_=>exact ff h
  |list xs=>induction t with
   |list ys=>rw[HS (h:eqL xs ys=true)]
   |_=>exact ff h
  |tup xs=>induction t with
   |tup ys=>rw[HS (h:eqL xs ys=true)]
   |_=>exact ff h
  |dict es=>induction t with
   |dict fs=>rw[aCR (h:eqP es fs=true)]
   |_=>exact ff h
  |cell v=>induction v with
   |none=>exact ff h
   |some v=>obtain⟨u,rfl,h⟩:=jV h;rw[bO h]
  |box=>induction t with
   |box=>rfl
   |_=>exact ff h
  |_=>exact ff h
noncomputable def PT.idx:PT->List Nat
 |.nil=>[]
 |.node _ l r=>0::(l.idx.map λi=>2*i+1)++r.idx.map λi=>2*i+2
theorem PT.mem_idx{T:PT}:∀{j:Nat} {o:SObj},T.get j=some o->j∈T.idx:=by
 induction T with
 |nil=>exact λh=>fo h
 |node v l r il ir=>
  intro j o h
  rw[PT.get_node]at h
  by_cases q:j=0
  ·rw[q];exact List.mem_append_left _ (.head _)
  ·rw[if_neg q]at h
   by_cases q2:j%2=1
   ·rw[if_pos q2]at h
    exact List.mem_append_left _ (.tail _ (List.mem_map.mpr ⟨_,il h,wK q2⟩))
   ·rw[if_neg q2]at h
    exact List.mem_append_right _ (List.mem_map.mpr ⟨_,ir h,E4 q2 q⟩)
theorem aCS:((iU .box).idx.all λj=>decide (j<58))=true:=by kernel_rfl
theorem oE{j:Nat}{o:SObj}(h:(iU .box).get j=some o):j<58:=of_decide_eq_true (List.all_eq_true.mp aCS j (PT.mem_idx h))
theorem vG(h:AA T=true)(h4:j≠4)(h7:j≠7)(ho:(iU .box).get j=some o):T.get j=some o:=by
 have hm:j∈oldIdx:=by
  unfold oldIdx
  rw[List.mem_filter]
  exact⟨List.mem_range.mpr (oE ho),by simp[h4,h7]⟩
 have:=a8 h j hm
 rw[ho]at this
 exact eF this
noncomputable def oG:List (Nat×SObj)->(Nat->Option SObj)->Nat->Option SObj
 | [],f=>f
 |p::l,f=>oG l λx=>if x=p.1 then some p.2 else f x
theorem vH:∀{l:List (Nat×SObj)} {T:PT} {f:Nat->Option SObj} {k:PT->Bool},iT l T k=true->(∀x,T.get x=f x)->∃T',k T'=true/\∀x,T'.get x=oG l f x:=by
 intro l
 induction l with
 |nil=>
  intro T f k h hf
  exact⟨T,h,hf⟩
 |cons p l rec_=>
  intro T f k h hf
  have h:PT.put p.2 T p.1 (λT=>iT l T k)=true:=h
  rw[PT.put_eq]at h
  induction hT:T.set? p.2 p.1 with
  |none=>rw[hT]at h;exact ff h
  |some T1=>
   rw[hT]at h
   have h:iT l T1 k=true:=h
   have hf1:∀x,T1.get x=(λx=>if x=p.1 then some p.2 else f x) x:=λx=>by rw[PT.get_set _ _ _ _ hT,hf]
   exact rec_ (T:=T1) h hf1
theorem vJ:∀(l m:List (Nat×SObj)) (f:Nat->Option SObj),oG (l++m) f=oG m (oG l f):=by
 intro l
 induction l with
 |nil=>
  intro O O
  exact rfl
 |cons p l rec_=>
  intro m f
  exact rec_ m _
theorem HT(pos:Nat->Nat):∀(mem:List Nat) (n:Nat) (f:Nat->Option SObj) (x:Nat),oG (hO pos mem n) f x=if n≤x/\x<n+mem.length then(mem[x-n]?).map λid=>yD pos (lG id)else f x:=by
 intro mem
 induction mem with
 |nil=>
  intro n f x
  exact(if_neg (show¬(n≤x/\x<n+0) by exact λh=>Nat.not_lt.mpr h.1 h.2)).symm
 |cons id l rec_=>
  intro n f x
  show oG (hO pos l (n+1)) _ x=_
  rw[rec_ (n+1)]
  by_cases q:x=n
  ·subst q
   rw[if_neg (λh=>Nat.not_succ_le_self _ h.1),if_pos rfl,if_pos ⟨Nat.le_refl _,by simp⟩]
   simp
  ·by_cases z:n+1≤x/\x<n+1+l.length
   ·rw[if_pos z,if_pos ⟨by exact Nat.le_of_lt z.1,by simp only[List.length_cons];exact Nat.lt_of_lt_of_eq z.2 (Nat.succ_add_eq_add_succ _ _)⟩]
    have:x-n=(x-(n+1))+1:=by exact aIV z
    rw[this,List.getElem?_cons_succ]
   ·rw[if_neg z,if_neg q,if_neg (by simp only[List.length_cons];exact aIW q z)]
noncomputable def TS(R:SV->SV->Prop):List (Nm×SV)->List (Nm×SV)->Prop
 | [],[]=>True
 |p::l,q::m=>(p.1=q.1/\R p.2 q.2)/\TS R l m
 |_,_=>False
theorem AR.two{V V':Vl}{m:Str->Option Value}:∀{es es':List (Nm×SV)},TS (λv v'=>∀u,VR V v u->VR V' v' u) es es'->∀n,(match aD es n with|some v=>∃u,m (tx n)=some u/\VR V v u|none=>m (tx n)=none)->(match aD es' n with|some v=>∃u,m (tx n)=some u/\VR V' v u|none=>m (tx n)=none)
 :=by
 intro es
 induction es with
 |nil=>
  intro es' t n h
  induction es' using List.casesOn with
  |nil=>exact h
  |cons _ _=>exact t.elim
 |cons p l ih=>
  intro es' t n h
  induction es' using List.casesOn with
  |nil=>exact t.elim
  |cons p' l'=>
   obtain⟨⟨e,r⟩,t⟩:=t
   obtain⟨a,v⟩:=p
   obtain⟨b,v'⟩:=p'
   have e:a=b:=e
   subst e
   rw[aH]at h⊢
   by_cases q:a=n
   ·rw[if_pos q]at h⊢
    obtain⟨u,h1,h2⟩:=h
    exact⟨u,h1,r u h2⟩
   ·rw[if_neg q]at h⊢
    exact ih t n h
theorem AR.turn{V V':Vl}{m:Str->Option Value}{es es':List (Nm×SV)}(t:TS (λv v'=>∀u,VR V v u->VR V' v' u) es es')(h:AR V es m):AR V' es' m:=λn=>AR.two t n (h n)
end
end
section
set_option backward.match.sparseCases false
noncomputable section
abbrev MM:=Nat->Option (Addr×Addr)
noncomputable def kP(V:Vl)(M:MM)(z:Int):Vl:={ρ:=λj=>if j<60 then V.ρ j else((M (j-60)).map (·.1)).getD 0,own:=λO=>none,X:=none,n:=90,tk:=λO=>none,R:=none,Y:=λO=>some z,S:=V.S}
def ThAt(V:Vl)(M:MM)(ext:List (Addr×Obj))(id:Nat)(a d:Addr):Prop:=match lG id with
 |.inst C es=>∃z ob m,(a,instObj C d)∈ext/\(d,ob)∈ext/\(∀h:Heap,h.get? d=some ob->h.Ns1 d m)/\AR (kP V M z) es m
 |.list xs=>d=a/\∃us ep,(a,iI us ep)∈ext/\VRs (kP V M 0) xs us.toList
 |_=>False
structure Bd(V:Vl)(M:MM)(ext:List (Addr×Obj)):Prop where
 at_:∀id a d,M id=some (a,d)->id<30/\ThAt V M ext id a d
 dep:∀id,(M id).isSome=true->∀x,x∈aQ id->(M x).isSome=true
 inj:∀id id' a d a' d',M id=some (a,d)->M id'=some (a',d')->a=a'∨d=d'∨a=d'->id=id'
structure AC(M:MM)(r:Str->Option Value):Prop where
 made:∀id a d,M id=some (a,d)->bY id=true->r (tx (fS id))=some (.ref a)
 not:∀id,id<30->bY id=true->M id=none->r (tx (fS id))=none
 oth:∀n,n∈ [nm "String",nm "Symbol",nm "Array",nm "Range"]->r (tx n)=none
noncomputable def CU(T:PT)(p:Nat×SObj):PT:=(T.set? p.2 p.1).getD T
theorem mH(h:(T.set? p.2 p.1).isSome=true)(x:Nat):(CU T p).get x=if x=p.1 then some p.2 else T.get x:=by
 obtain⟨T',hT⟩:=Option.isSome_iff_exists.mp h
 unfold CU
 rw[hT]
 exact PT.get_set _ _ _ _ hT x
def TB(N:Int):PT:=CU (CU (CU (CU (iU .box) (4,.inst 715 (lH (.int N)))) (7,.mdict mad0 [])) (58,.cell (some (.ref 1)))) (59,.cell (some .any))
theorem oH(N:Int)(x:Nat):(TB N).get x=oG (cW (.int N) mad0 []) (iU .box).get x:=by
 have s1:((iU .box).set? (.inst 715 (lH (.int N))) 4).isSome=true:=by kernel_rfl
 have s2:((CU (iU .box) (4,.inst 715 (lH (.int N)))).set? (.mdict mad0 []) 7).isSome=true:=by kernel_rfl
 have s3:((CU (CU (iU .box) (4,.inst 715 (lH (.int N)))) (7,.mdict mad0 [])).set? (.cell (some (.ref 1))) 58).isSome=true:=by kernel_rfl
 have s4:((CU (CU (CU (iU .box) (4,.inst 715 (lH (.int N)))) (7,.mdict mad0 [])) (58,.cell (some (.ref 1)))).set? (.cell (some .any)) 59).isSome=true:=by kernel_rfl
 unfold TB
 rw[mH s4,mH s3,mH s2,mH s1]
 rfl
noncomputable def aW(M:MM):List Nat->Nat->Addr->Option Own
 | [],_,_=>none
 |id::l,n,b=>match M id with
  |some (a,d)=>if b=a then some (.obj n)else if b=d then some (.dict n)else aW M l (n+1) b
  |none=>aW M l (n+1) b
theorem dD:∀{mem:List Nat} {n:Nat} {b:Addr} {o:Own},aW M mem n b=some o->∃p id a d,mem[p]?=some id/\M id=some (a,d)/\(b=a/\o= .obj (n+p)∨b=d/\o= .dict (n+p))
 :=by
 intro mem
 induction mem with
 |nil=>intro n b o h;exact fo h
 |cons id l ih=>
  intro n b o h
  have go:aW M l (n+1) b=some o->∃p id' a d,(id::l)[p]?=some id'/\M id'=some (a,d)/\(b=a/\o= .obj (n+p)∨b=d/\o= .dict (n+p)):=λh=>by
   refine hold λG_ fin_=>?_
   obtain⟨p,id',a,d,h1,h2,h3⟩:=ih h
   refine fin_ ?_
   refine⟨p+1,id',a,d,by simpa using h1,h2,?_⟩
   have e:n+1+p=n+(p+1):=by exact Nat.succ_add_eq_add_succ _ _
   rwa [e]at h3
  unfold aW at h
  induction e:M id with
  |none=>rw[e]at h;exact go h
  |some q=>
   obtain⟨a,d⟩:=q
   rw[e]at h
   have h:(if b=a then some (Own.obj n)else if b=d then some (Own.dict n)else aW M l (n+1) b)=some o:=h
   by_cases q1:b=a
   ·rw[if_pos q1]at h;obtain rfl:=Option.some.inj h;exact⟨0,id,a,d,rfl,e,.inl ⟨q1,rfl⟩⟩
   ·rw[if_neg q1]at h
    by_cases q2:b=d
    ·rw[if_pos q2]at h;obtain rfl:=Option.some.inj h;exact⟨0,id,a,d,rfl,e,.inr ⟨q2,rfl⟩⟩
    ·rw[if_neg q2]at h;exact go h
theorem vK(inj:∀id id' a d a' d',M id=some (a,d)->M id'=some (a',d')->a=a'∨d=d'∨a=d'->id=id'):∀{mem:List Nat} {n p:Nat} {id:Nat} {a d:Addr},mem.Nodup->mem[p]?=some id->M id=some (a,d)->aW M mem n a=some (.obj (n+p)):=by
 intro mem
 induction mem with
 |nil=>
  intro n p id a d O h O
  simp at h
 |cons id' l rec_=>
  intro n p id a d hn h hm
  unfold aW
  induction p using Nat.casesOn with
  |zero=>
   have h:id'=id:=by simpa using h
   subst h
   rw[hm]
   show(if a=a then some (Own.obj n)else _)=_
   rw[if_pos rfl];rfl
  |succ p=>
   have h:l[p]?=some id:=by simpa using h
   have hne:id≠id':=λe=>(List.nodup_cons.mp hn).1 (e▸List.mem_of_getElem? h)
   have rec':=rec_ (n:=n+1) (List.nodup_cons.mp hn).2 h hm
   have e:n+1+p=n+(p+1):=by exact Nat.succ_add_eq_add_succ _ _
   rw[e]at rec'
   induction e':M id' with
   |none=>exact rec'
   |some q=>
    obtain⟨a',d'⟩:=q
    show(if a=a' then some (Own.obj n)else if a=d' then some (Own.dict n)else aW M l (n+1) a)=_
    rw[if_neg λz=>hne (inj _ _ _ _ _ _ hm e' (.inl z)),if_neg λz=>hne (inj _ _ _ _ _ _ hm e' (.inr (.inr z)))]
    exact rec'
theorem HU(inj:∀id id' a d a' d',M id=some (a,d)->M id'=some (a',d')->a=a'∨d=d'∨a=d'->id=id'):∀{mem:List Nat} {n p:Nat} {id:Nat} {a d:Addr},mem.Nodup->mem[p]?=some id->M id=some (a,d)->a≠d->aW M mem n d=some (.dict (n+p)):=by
 intro mem
 induction mem with
 |nil=>
  intro n p id a d O h O O
  simp at h
 |cons id' l rec_=>
  intro n p id a d hn h hm had
  unfold aW
  induction p using Nat.casesOn with
  |zero=>
   have h:id'=id:=by simpa using h
   subst h
   rw[hm]
   show(if d=a then some (Own.obj n)else if d=d then some (Own.dict n)else _)=_
   rw[if_neg (Ne.symm had),if_pos rfl];rfl
  |succ p=>
   have h:l[p]?=some id:=by simpa using h
   have hne:id≠id':=λe=>(List.nodup_cons.mp hn).1 (e▸List.mem_of_getElem? h)
   have rec':=rec_ (n:=n+1) (List.nodup_cons.mp hn).2 h hm had
   have e:n+1+p=n+(p+1):=by exact Nat.succ_add_eq_add_succ _ _
   rw[e]at rec'
   induction e':M id' with
   |none=>exact rec'
   |some q=>
    obtain⟨a',d'⟩:=q
    show(if d=a' then some (Own.obj n)else if d=d' then some (Own.dict n)else aW M l (n+1) d)=_
    rw[if_neg λz=>hne (inj _ _ _ _ _ _ e' hm (.inr (.inr z.symm))).symm,if_neg λz=>hne (inj _ _ _ _ _ _ hm e' (.inr (.inl z)))]
    exact rec'
theorem vL:∀{mem:List Nat} {id k:Nat},id∈mem->∃p,vF mem id k=k+p/\mem[p]?=some id
 |a::l,id,k,h=>by
  unfold vF
  induction q:Nat.beq a id with
  |true=>exact⟨0,rfl,by rw[Nat.eq_of_beq_eq_true q];rfl⟩
  |false=>
   have hl:id∈l:=by
    cases h with
    |head=>rw[Nat.beq_refl]at q;cases q
    |tail _ h=>exact h
   obtain⟨p,h1,h2⟩:=vL (k:=k+1) hl
   exact⟨p+1,by show vF l id (k+1)=_;rw[h1];exact Nat.succ_add_eq_add_succ _ _,by simpa using h2⟩
theorem oI{mem:List Nat}{id:Nat}(h:id∈mem):∃p,cG mem id=60+p/\mem[p]?=some id:=vL h
noncomputable def lI(V:Vl)(M:MM)(Y:Nat->Option Int)(x:Int)(mem:List Nat):Vl where
 ρ:=λj=>if j<60 then V.ρ j else match mem[j-60]? with|some id=>((M id).map (·.1)).getD 0|none=>0
 own:=λb=>match V.own b with|some o=>some o|none=>aW M mem 60 b
 X:=some x
 n:=60+mem.length
 tk:=V.tk
 R:=V.R
 Y:=Y
 S:=V.S
theorem aCT{V:Vl}{M:MM}{Y:Nat->Option Int}{x:Int}{mem:List Nat}(hn:V.n=60)(hX:V.X=none)(hY:∀k,V.Y k=none):V.Le (lI V M Y x mem):=
 ⟨by rw[hn];exact Nat.le_add_right _ _,λi h=>if_pos (by rw[<-hn];exact h),λa o e=>by show(match V.own a with|some o=>some o|none=>_)=_;rw[e],λz e=>(by rw[hX]at e;exact fo e),λO O e=>e,λO e=>e,λk z e=>(by rw[hY]at e;exact fo e),rfl⟩
end
end
section
set_option backward.match.sparseCases false
noncomputable section
def okR(ds:List Nat)(i:Nat):Bool:=Nat.blt i 60||(aP ds (i-60)&&Nat.blt i 90)
def CH(id:Nat)(ds:List Nat)(v:SV):Bool:=match v with
 |.ref i=>okR ds i
 |.opq k=>Nat.beq k id
 |.none=>true|.bool _=>true|.str _=>true|.any=>true
 |_=>false
def RR(id:Nat)(ds:List Nat)(l:List (Nm×SV)):Bool:=bG (λp=>CH id ds p.2) l
def o8(id:Nat)(ds:List Nat)(l:List SV):Bool:=bG (CH id ds) l
def sT(id:Nat):Bool:=match lG id with
 |.inst C es=>Nat.beq C 287&&RR id (aQ id) es&&Nat.ble es.length 100&&aP (aQ id) id
 |.list xs=>o8 id (aQ id) xs&&Nat.ble xs.length 100&&aP (aQ id) id
 |_=>false
theorem HV:((List.range 30).all sT)=true:=by kernel_rfl
theorem AD{id:Nat}(h:id<30):sT id=true:=List.all_eq_true.mp HV id (List.mem_range.mpr h)
theorem kQ{id K:Nat}{es:List (Nm×SV)}(h:id<30)(e:lG id= .inst K es):((K=287/\RR id (aQ id) es=true)/\Nat.ble es.length 100=true)/\aP (aQ id) id=true:=by
 have:=AD h
 unfold sT at this
 rw[e]at this
 obtain⟨⟨⟨a,b⟩,c⟩,d⟩:=tH this
 exact⟨⟨⟨Nat.eq_of_beq_eq_true a,b⟩,c⟩,d⟩
theorem kR{id:Nat}{xs:List SV}(h:id<30)(e:lG id= .list xs):(o8 id (aQ id) xs=true/\Nat.ble xs.length 100=true)/\aP (aQ id) id=true:=by
 have:=AD h
 unfold sT at this
 rw[e]at this
 exact hV this
theorem HW:((List.range 30).all λid=>match lG id with|.list ys=>ys.all (λv=>lL v λO=>true)|_=>true)=true:=by kernel_rfl
theorem qK{id:Nat}{xs:List SV}(h:id<30)(e:lG id= .list xs)(k:Nat):SV.opq k∉xs:=λhm=>by
 have:=List.all_eq_true.mp HW id (List.mem_range.mpr h)
 rw[e]at this
 exact ff (List.all_eq_true.mp this _ hm)
theorem RS:∃p,aE aO 287=some p/\aP p.1 39=false:=by
 have:(match aE aO 287 with|some p=> !(aP p.1 39)|none=>false)=true:=by kernel_rfl
 induction e:aE aO 287 with
 |none=>rw[e]at this;exact ff this
 |some p=>rw[e]at this;exact⟨p,rfl,by simpa using this⟩
theorem jW(h:aP l b=true):b∈l:=by
 induction l with
 |nil=>exact ff h
 |cons a l ih=>
  have h:Bool.rec (motive:=λO=>Bool) (aP l b) true (Nat.beq a b)=true:=h
  induction q:Nat.beq a b with
  |true=>rw[<-Nat.eq_of_beq_eq_true q];exact .head _
  |false=>rw[q]at h;exact .tail _ (ih h)
theorem oJ(h:okR ds i=true):i<60∨(¬i<60/\(i-60)∈ds/\i<90):=by
 by_cases q:i<60
 ·exact .inl q
 ·refine .inr ⟨q,?_⟩
  rcases Bool.or_eq_true_iff.mp h with h|h
  ·exact absurd (bF h) q
  ·exact⟨jW (aM h).1,bF (aM h).2⟩
theorem AE(h:i<60):sO pos (.ref i)= .ref i:=by
 show(match Nat.blt i 60 with|true=>SV.ref i|false=>.ref (pos (i-60)))=_
 rw[show Nat.blt i 60=true from Nat.ble_eq_true_of_le h]
theorem AF(h:¬i<60):sO pos (.ref i)= .ref (pos (i-60)):=by
 show(match Nat.blt i 60 with|true=>SV.ref i|false=>.ref (pos (i-60)))=_
 rw[show Nat.blt i 60=false from Bool.eq_false_iff.mpr λe=>h (bF e)]
theorem mI{V:Vl}{M:MM}{Y:Nat->Option Int}{x:Int}{mem:List Nat}{p id:Nat}{a d:Addr}(h:mem[p]?=some id)(hm:M id=some (a,d)):(lI V M Y x mem).ρ (60+p)=a:=by
 show(if 60+p<60 then _ else match mem[60+p-60]? with|some id=>((M id).map (·.1)).getD 0|none=>0)=a
 rw[if_neg (Nat.not_lt.mpr (Nat.le_add_right 60 _))]
 have:60+p-60=p:=by exact Nat.add_sub_self_left 60 _
 rw[this,h]
 show((M id).map (·.1)).getD 0=a
 rw[hm];rfl
theorem HX{V:Vl}{M:MM}{z x:Int}{Y:Nat->Option Int}{mem ds:List Nat}{id:Nat}{v:SV}{u:Value}(ok:CH id ds v=true)(hds:∀y,y∈ds->y∈mem/\(M y).isSome=true)(hY:Y id=some z)(h:VR (kP V M z) v u):
 VR (lI V M Y x mem) (sO (cG mem) v) u:=by
 induction h with
 |none=>exact .none
 |bool b=>exact .bool b
 |str n t=>exact .str n t
 |any _ hv=>exact .any _ hv
 |opq k z' t hz=>
  have hz:z=z':=Option.some.inj hz
  subst hz
  have hk:k=id:=Nat.eq_of_beq_eq_true (ok:Nat.beq k id=true)
  subst hk
  exact .opq k z t hY
 |ref i hi=>
  rcases oJ ok with hlt|⟨hge,hm,_⟩
  ·have e2:(kP V M z).ρ i=(lI V M Y x mem).ρ i:=by
    show(if i<60 then V.ρ i else _)=(if i<60 then V.ρ i else _)
    rw[if_pos hlt,if_pos hlt]
   rw[AE hlt,e2]
   exact .ref i (Nat.lt_of_lt_of_le hlt (Nat.le_add_right _ _))
  ·obtain⟨h1,h2⟩:=hds _ hm
   obtain⟨p,h3,h4⟩:=oI h1
   obtain⟨⟨a,d⟩,hm⟩:=Option.isSome_iff_exists.mp h2
   have e2:(kP V M z).ρ i=a:=by
    show(if i<60 then V.ρ i else((M (i-60)).map (·.1)).getD 0)=a
    rw[if_neg hge,hm];rfl
   rw[AF hge,h3,e2,<-mI (V:=V) (Y:=Y) (x:=x) h4 hm]
   exact .ref (60+p) (Nat.add_lt_add_left (List.getElem?_eq_some_iff.mp h4).1 60)
 |_=>exact ff ok
theorem RT{V:Vl}{M:MM}{z x:Int}{Y:Nat->Option Int}{mem ds:List Nat}{id:Nat}(hds:∀y,y∈ds->y∈mem/\(M y).isSome=true)(hY:Y id=some z):∀{es:List (Nm×SV)},RR id ds es=true->TS (λv v'=>∀u,VR (kP V M z) v u->VR (lI V M Y x mem) v' u) es (vE (cG mem) es)
 :=by
 intro es
 induction es with
 |nil=>exact λO=>trivial
 |cons p l ih=>intro h;obtain⟨q,h⟩:=aB (b:=CH id ds p.2) (x:=RR id ds l) h;exact⟨⟨rfl,λu r=>HX q hds hY r⟩,ih h⟩
theorem RU{V:Vl}{M:MM}{z x:Int}{Y:Nat->Option Int}{mem ds:List Nat}{id:Nat}(hds:∀y,y∈ds->y∈mem/\(M y).isSome=true)(hY:Y id=some z):∀{xs:List SV} {us:List Value},o8 id ds xs=true->VRs (kP V M z) xs us->VRs (lI V M Y x mem) (yC (cG mem) xs) us
 :=λ{xs us} h r=>by
 revert h
 refine r.ind (λO=>trivial) λv l u us r O ih h=>?_
 obtain⟨q,h⟩:=aB (b:=CH id ds v) (x:=o8 id ds l) h
 exact⟨HX q hds hY r,ih h⟩
theorem lJ(pos:Nat->Nat):∀es,(vE pos es).length=es.length
 | []=>rfl
 |_::l=>congrArg Nat.succ (lJ pos l)
theorem lK(pos:Nat->Nat):∀es,(yC pos es).length=es.length
 | []=>rfl
 |_::l=>congrArg Nat.succ (lK pos l)
def ThZ(V:Vl)(M:MM)(ext:List (Addr×Obj))(C:Nat)(es:List (Nm×SV))(a d:Addr)(z:Int):Prop:=∃ob m,(a,instObj C d)∈ext/\(d,ob)∈ext/\(∀h:Heap,h.get? d=some ob->h.Ns1 d m)/\AR (kP V M z) es m
theorem Bd.nums(B:Bd V M ext):∃Y:Nat->Int,∀id a d C es,M id=some (a,d)->lG id= .inst C es->ThZ V M ext C es a d (Y id):=by
 have h0:∀id,∃z:Int,∀a d C es,M id=some (a,d)->lG id= .inst C es->ThZ V M ext C es a d z:=λid=>by
  induction e:M id with
  |none=>exact⟨0,λa d C es h=>by exact fo h⟩
  |some q=>
   obtain⟨a,d⟩:=q
   obtain⟨_,h⟩:=B.at_ id a d e
   unfold ThAt at h
   induction e2:lG id with
   |inst C es=>
    rw[e2]at h
    refine hold λG_ fin_=>?_
    obtain⟨z,ob,m,h1,h2,h3,h4⟩:=h
    refine fin_ ?_
    exact⟨z,λa' d' C' es' q1 q2=>by cases q1;cases q2;exact⟨ob,m,h1,h2,h3,h4⟩⟩
   |_=>exact⟨0,λa' d' C' es' O q2=>by cases q2⟩
 exact⟨λid=>Classical.choose (h0 id),λid=>Classical.choose_spec (h0 id)⟩
section
variable{Z:Gd}{C:Cf}{V:Vl}{J:St}{s:Shared}
theorem Inv.extAt(I:Inv Z C V J s)(h:(a,o)∈C.ext):V.own a=none/\Z.s0.heap.get? a=none/\s.heap.get? a=some o:=by
 obtain⟨k,hk⟩:=List.mem_iff_getElem?.mp h
 exact I.ext k a o hk
theorem yF(I:Inv Z C V J s){M:MM}{ext:List (Addr×Obj)}(hx:∀p,p∈ext->p∈C.ext)(B:Bd V M ext){Y:Nat->Int}(hY:∀id a d C es,M id=some (a,d)->lG id= .inst C es->ThZ V M ext C es a d (Y id))
 {x:Int} {mem:List Nat} (hn:mem.Nodup) (hmem:∀id,id∈mem->(M id).isSome=true) (hdep:∀id,id∈mem->∀y,y∈aQ id->y∈mem) {p id:Nat} (hp:mem[p]?=some id):
 (lI V M (λk=>some (Y k)) x mem).own ((lI V M (λk=>some (Y k)) x mem).ρ (60+p))=some (.obj (60+p))/\OR Z (lI V M (λk=>some (Y k)) x mem) s.heap (60+p) ((lI V M (λk=>some (Y k)) x mem).ρ (60+p)) (yD (cG mem) (lG id)):=by
 have hid:=List.mem_of_getElem? hp
 obtain⟨⟨a,d⟩,hM⟩:=Option.isSome_iff_exists.mp (hmem id hid)
 obtain⟨h30,hat⟩:=B.at_ id a d hM
 have hds:∀y,y∈aQ id->y∈mem/\(M y).isSome=true:=λy hy=>⟨hdep id hid y hy,hmem y (hdep id hid y hy)⟩
 have ho:∀b,V.own b=none->(lI V M (λk=>some (Y k)) x mem).own b=aW M mem 60 b:=λb e=>by show(match V.own b with|some o=>some o|none=>aW M mem 60 b)=_;rw[e]
 rw[mI hp hM]
 unfold ThAt at hat
 induction e:lG id with
 |inst K es=>
  obtain⟨ob,m,h1,h2,h3,h4⟩:=hY id a d K es hM e
  obtain⟨⟨⟨rfl,k2⟩,k3⟩,k4⟩:=kQ h30 e
  refine hold λG_ fin_=>?_
  obtain⟨a1,a2,a3⟩:=I.extAt (hx _ h1)
  obtain⟨d1,d2,d3⟩:=I.extAt (hx _ h2)
  refine fin_ ?_
  have had:a≠d:=λe=>by
   subst e
   rw[a3]at d3;obtain rfl:=Option.some.inj d3
   obtain⟨o,es',ep,q1,q2,_⟩:=h3 s.heap a3
   rw[a3]at q1;cases q1;cases q2
  refine⟨(ho a a1).trans (vK B.inj hn hp hM),⟨by rw[lJ];exact Nat.le_trans (Nat.le_of_ble_eq_true k3) (by decide),RS⟩,d,m,a3,(ho d d1).trans (HU B.inj hn hp hM had),h3 s.heap d3,?_⟩
  exact h4.turn (RT hds rfl k2)
 |list xs=>
  rw[e]at hat
  obtain⟨⟨k1,k2⟩,k3⟩:=kR h30 e
  obtain⟨_,us,ep,h1,h2⟩:=hat
  obtain⟨a1,a2,a3⟩:=I.extAt (hx _ h1)
  have h2':VRs (kP V M (Y id)) xs us.toList:=by
   have go:∀{xs:List SV} {us:List Value},VRs (kP V M 0) xs us->o8 id (aQ id) xs=true->(∀k,SV.opq k∉xs)->VRs (kP V M (Y id)) xs us:=λ{xs us} r=>by
    refine r.ind (λO O=>trivial) λv l u us r O ih h hk=>?_
    obtain⟨q,h⟩:=aB (b:=CH id (aQ id) v) (x:=o8 id (aQ id) l) h
    refine⟨?_,ih h λk hm=>hk k (.tail _ hm)⟩
    induction r with
    |ref i hi=>exact .ref (V:=kP V M (Y id)) i hi
    |none=>exact .none
    |bool b=>exact .bool b
    |str n t=>exact .str n t
    |any _ hv=>exact .any _ hv
    |opq k _ _ _=>exact absurd (.head _) (hk k)
    |_=>exact ff q
   refine go h2 k1 λk hm=>?_
   exact qK h30 e k hm
  exact⟨(ho a a1).trans (vK B.inj hn hp hM),by rw[lK];exact Nat.le_trans (Nat.le_of_ble_eq_true k2) (by decide),us,ep,a3,RU hds rfl k1 h2'⟩
 |_=>rw[e]at hat;exact hat.elim
end
end
end
section
noncomputable section
theorem o9(pos:Nat->Nat)(n:Nm):∀mem:List Nat,(∃id,id∈mem/\bY id=true/\fS id=n/\aD (bK pos mem) n=some (.ref (pos id)))∨(aD (bK pos mem) n=none/\∀id,id∈mem->bY id=true->fS id≠n)
 :=by
 intro mem
 induction mem with
 |nil=>exact .inr ⟨rfl,(λO h=>(List.not_mem_nil h).elim)⟩
 |cons id l rc=>
  unfold bK
  induction q:bY id with
  |false=>
   rcases rc with⟨i,h1,h2⟩|⟨h1,h2⟩
   ·exact .inl ⟨i,.tail _ h1,h2⟩
   ·refine .inr ⟨h1,λi hi hm=>?_⟩
    cases hi with
    |head=>rw[q]at hm;exact ff hm
    |tail _ hi=>exact h2 i hi hm
  |true=>
   show(∃i,i∈id::l/\_/\_/\aD ((fS id,SV.ref (pos id))::bK pos l) n=_)∨(aD ((fS id,SV.ref (pos id))::bK pos l) n=none/\_)
   rw[aH]
   by_cases e:fS id=n
   ·rw[if_pos e];exact .inl ⟨id,.head _,q,e,rfl⟩
   ·rw[if_neg e]
    rcases rc with⟨i,h1,h2⟩|⟨h1,h2⟩
    ·exact .inl ⟨i,.tail _ h1,h2⟩
    ·refine .inr ⟨h1,λi hi hm=>?_⟩
     cases hi with
     |head=>exact e
     |tail _ hi=>exact h2 i hi hm
theorem oK(pos:Nat->Nat):∀mem:List Nat,(bK pos mem).length≤mem.length:=by
 intro mem
 induction mem with
 |nil=>
  exact Nat.le_refl _
 |cons id l rec_=>
  unfold bK
  have:=rec_
  induction bY id with
  |true=>simp only[List.length_cons];exact Nat.add_le_add_right this 1
  |false=>simp only[List.length_cons];exact Nat.le_add_right_of_le this
theorem fL{α:Type}(n:Nm):∀l m:List (Nm×α),aD (l++m) n=match aD l n with|some v=>some v|none=>aD m n
 | [],m=>rfl
 |p::l,m=>by
  rw[List.cons_append,aH,aH]
  by_cases q:p.1=n
  ·rw[if_pos q,if_pos q]
  ·rw[if_neg q,if_neg q];exact fL n l m
theorem vM:mad0.length=5:=rfl
noncomputable def JB(N:Int)(L:List (Nm×SV)):St:=⟨TB N,60,L,false⟩
theorem CI(le:V.Le V')(h:∀u,VR V a u->VR V' b u):TS (λv v'=>∀u,VR V v u->VR V' v' u) (lH a) (lH b):=by
 have k:∀v u,VR V v u->VR V' v u:=λv u r=>r.mono le
 exact⟨⟨rfl,k _⟩,⟨rfl,k _⟩,⟨rfl,k _⟩,⟨rfl,k _⟩,⟨rfl,k _⟩,⟨rfl,h⟩,⟨rfl,k _⟩,⟨rfl,k _⟩,⟨rfl,k _⟩,⟨rfl,k _⟩,⟨rfl,k _⟩,⟨rfl,k _⟩,⟨rfl,k _⟩,⟨rfl,k _⟩,⟨rfl,k _⟩,trivial⟩
section
variable{Z:Gd}{C:Cf}{V:Vl}{s:Shared}
structure kS(C:Cf)(V:Vl)(M:MM)(ext:List (Addr×Obj))(N:Int)(B:Nat)(r:Str->Option Value)(mem:List Nat):Prop where
 sub:∀p,p∈ext->p∈C.ext
 bd:Bd V M ext
 n1:6≤N
 n2:N<900
 vn:V.n=60
 vX:V.X=none
 vY:∀k,V.Y k=none
 vR:V.R=some (B,r)
 rs:AC M r
 mm:∀id,id∈mem->(M id).isSome=true
 nd:mem.Nodup
 dp:∀id,id∈mem->∀y,y∈aQ id->y∈mem
 len:mem.length≤20
noncomputable def fQ(V:Vl)(p:Addr×Obj):Bool:=(V.own p.1).isNone
theorem load(L:List (Nm×SV)){M:MM}{ext:List (Addr×Obj)}{N:Int}{B:Nat}{r:Str->Option Value}{mem:List Nat}(W:kS C V M ext N B r mem)(I:Inv Z C V (JB N L) s){ab:List Nm}(hab:∀n,iB ab n=true->r (tx n)=none){K:PT->Bool}
 (h:iT (cW (.lin 6) (mad0++bK (cG mem) mem) ab++hO (cG mem) mem 60) (iU .box) K=true):
 ∃T Y,K T=true/\V.Le (lI V M Y (N-6) mem)/\Inv Z ⟨C.L,C.ext.filter (fQ (lI V M Y (N-6) mem)),C.frs,C.envs⟩ (lI V M Y (N-6) mem) ⟨T,60+mem.length,L,false⟩ s:=by
 refine hold λG_ fin_=>?_
 obtain⟨T,hK,hT⟩:=vH h (f:=(iU .box).get) λx=>rfl
 obtain⟨Y,hY⟩:=W.bd.nums
 refine fin_ ?_
 have le:=aCT (V:=V) (M:=M) (Y:=λk=>some (Y k)) (x:=N-6) (mem:=mem) W.vn W.vX W.vY
 generalize hVi:lI V M (λk=>some (Y k)) (N-6) mem=Vi at le
 have keep:∀{j a o},OR Z V s.heap j a o->OR Z Vi s.heap j a o:=λx=>x.keep le (λO O O O e=>e) (λO O O e=>e) (λO e=>e) λO O O e=>e
 have ownI:∀a o,Vi.own a=some o->V.own a=some o∨∃p id a' d,mem[p]?=some id/\M id=some (a',d)/\(a=a'∨a=d):=λa o e=>by
  rw[<-hVi]at e
  change(match V.own a with|some o=>some o|none=>aW M mem 60 a)=some o at e
  induction q:V.own a with
  |some o'=>rw[q]at e;obtain rfl:=Option.some.inj e;exact .inl rfl
  |none=>
   rw[q]at e
   refine hold λG_ fin_=>?_
   obtain⟨p,id,a',d,h1,h2,h3⟩:=dD e
   refine fin_ ?_
   exact .inr ⟨p,id,a',d,h1,h2,h3.imp (·.1) (·.1)⟩
 have memAt:∀{id a d},M id=some (a,d)->(∃o,(a,o)∈C.ext)/\∃o,(d,o)∈C.ext:=λ{id a d} hM=>by
  obtain⟨_,hat⟩:=W.bd.at_ id a d hM
  unfold ThAt at hat
  induction e:lG id with
  |inst K es=>rw[e]at hat;obtain⟨z,ob,m,h1,h2,_⟩:=hat;exact⟨⟨_,W.sub _ h1⟩,_,W.sub _ h2⟩
  |list xs=>rw[e]at hat;obtain⟨rfl,us,ep,h1,_⟩:=hat;exact⟨⟨_,W.sub _ h1⟩,_,W.sub _ h1⟩
  |_=>rw[e]at hat;exact hat.elim
 have tb:∀{x o},x≠4->x≠7->x<60->oG (cW (.lin 6) (mad0++bK (cG mem) mem) ab) (iU .box).get x=some o->(TB N).get x=some o:=λ{x o} h4 h7 h60 e=>by
  rw[oH]
  change(if x=59 then some (SObj.cell (some .any))else if x=58 then some (.cell (some (.ref 1)))else if x=7 then _ else if x=4 then _ else(iU .box).get x)=some o at e
  show(if x=59 then some (SObj.cell (some .any))else if x=58 then some (.cell (some (.ref 1)))else if x=7 then _ else if x=4 then _ else(iU .box).get x)=some o
  rw[if_neg h7,if_neg h4]at e⊢
  exact e
 refine⟨T,λk=>some (Y k),hK,by rw[hVi];exact le,?_⟩
 rw[hVi]
 refine⟨I.base,λa ha=>?_,λa o e=>?_,?_,λx o e=>?_,⟨le.own _ _ I.L.1,?_⟩,λk a d e=>?_,λk a o e=>?_,λi ks e=>?_,⟨nofun,λx e=>?_⟩,I.tabLo,I.sm,le.S.trans I.sc,λa o e=>?_⟩
 ·obtain⟨ps,h1,h2,h3⟩:=I.tab a ha
  exact⟨ps,h1,h2,λpos cv e=>(h3 pos cv e).mono le (λO O O O e=>e) λO O O e=>e⟩
 ·rcases ownI a o e with e|⟨p,id,a',d,h1,h2,h3⟩
  ·exact I.own a o e
  ·obtain⟨⟨o1,m1⟩,o2,m2⟩:=memAt h2
   rcases h3 with rfl|rfl
   ·obtain⟨_,q1,q2⟩:=I.extAt m1;exact⟨q1,_,q2⟩
   ·obtain⟨_,q1,q2⟩:=I.extAt m2;exact⟨q1,_,q2⟩
 ·rw[<-hVi];rfl
 ·have e:T.get x=some o:=e
  rw[hT,vJ,HT]at e
  have en:Vi.n=60+mem.length:=by rw[<-hVi];rfl
  by_cases q:60≤x/\x<60+mem.length
  ·rw[if_pos q]at e
   refine hold λG_ fin_=>?_
   obtain⟨id,hp,rfl⟩:=Option.map_eq_some_iff.mp e
   obtain⟨t1,t2⟩:=yF I W.sub W.bd hY (x:=N-6) W.nd W.mm W.dp hp
   refine fin_ ?_
   rw[hVi]at t1 t2
   have ex:60+(x-60)=x:=by exact Nat.add_sub_cancel' q.1
   rw[ex]at t1 t2
   exact⟨by rw[en];exact q.2,t1,t2⟩
  ·rw[if_neg q]at e
   have old:∀{o'},(TB N).get x=some o'->x<Vi.n/\Vi.own (Vi.ρ x)=some (.obj x)/\Vi.ρ x=V.ρ x/\OR Z V s.heap x (V.ρ x) o':=λ{o'} e=>by
    obtain⟨t1,t2,t3⟩:=I.T x o' e
    exact⟨Nat.lt_of_lt_of_le t1 le.n,by rw[le.ρ x t1];exact le.own _ _ t2,le.ρ x t1,t3⟩
   by_cases q4:x=4
   ·subst q4
    have e:some (SObj.inst 715 (lH (.lin 6)))=some o:=e
    refine hold λG_ fin_=>?_
    obtain rfl:=Option.some.inj e
    obtain⟨o1,o2,o3,e0,d,m,g1,g2,g3,g4⟩:=old (o':=.inst 715 (lH (.int N))) (by rw[oH];rfl)
    refine fin_ ?_
    refine⟨o1,o2,?_⟩
    rw[o3]
    refine⟨e0,d,m,g1,le.own _ _ g2,g3,g4.turn (CI le λu r=>?_)⟩
    exact VR.el_int r λt=>by
     have hx:Vi.X=some (N-6):=by rw[<-hVi];rfl
     have:=VR.lin (V:=Vi) (N-6) 6 t hx
     rwa [show N-6+6=N by exact Int.sub_add_cancel _ 6]at this
   ·by_cases q7:x=7
    ·subst q7
     have e:some (SObj.mdict (mad0++bK (cG mem) mem) ab)=some o:=e
     refine hold λG_ fin_=>?_
     obtain rfl:=Option.some.inj e
     obtain⟨o1,o2,o3,e0,kvs,B',r',g1,g2,g2',g3,g4,g5⟩:=old (o':=.mdict mad0 []) (by rw[oH];rfl)
     refine fin_ ?_
     rw[W.vR]at g3;cases g3
     refine⟨o1,o2,?_⟩
     rw[o3]
     have ml:=oK (cG mem) mem
     have:=W.len
     have l5:=vM
     refine⟨by rw[List.length_append,l5];exact Nat.le_trans (Nat.add_le_add_left (Nat.le_trans ml this) 5) (by decide),kvs,B,r,g1,by rw[List.length_append];exact Nat.le_trans g2 (Nat.add_le_add_left (Nat.le_add_right _ _) _),g2',le.R _ W.vR,λn=>?_,hab⟩
     have hn:=g4 n
     rw[fL]
     induction e5:aD mad0 n with
     |some v=>
      rw[e5]at hn
      obtain⟨u,u1,u2⟩:=hn
      exact⟨u,u1,u2.mono le⟩
     |none=>
      rw[e5]at hn
      have hn:valueAt kvs (tx n)=r (tx n):=hn
      rcases o9 (cG mem) n mem with⟨id,i1,i2,i3,i4⟩|⟨i1,i2⟩
      ·show match aD (bK (cG mem) mem) n with|some v=>_|none=>_
       rw[i4]
       refine hold λG_ fin_=>?_
       obtain⟨⟨a,d⟩,hM⟩:=Option.isSome_iff_exists.mp (W.mm id i1)
       obtain⟨p,p1,p2⟩:=oI i1
       refine fin_ ?_
       refine⟨.ref a,by rw[hn,<-i3];exact W.rs.made id a d hM i2,?_⟩
       rw[p1]
       have hr:Vi.ρ (60+p)=a:=by rw[<-hVi];exact mI p2 hM
       rw[<-hr]
       exact .ref (60+p) (by rw[en];have:=(List.getElem?_eq_some_iff.mp p2).1;exact Nat.add_lt_add_left this _)
      ·show match aD (bK (cG mem) mem) n with|some v=>_|none=>_
       rw[i1];exact hn
    ·have hlt:x<60:=by
      change(if x=59 then some (SObj.cell (some .any))else if x=58 then some (.cell (some (.ref 1)))else if x=7 then _ else if x=4 then _ else(iU .box).get x)=some o at e
      by_cases z1:x=59
      ·exact z1▸by decide
      ·by_cases z2:x=58
       ·exact z2▸by decide
       ·rw[if_neg z1,if_neg z2,if_neg q7,if_neg q4]at e
        have:=oE e;exact Nat.lt_trans this (by decide)
     refine hold λG_ fin_=>?_
     obtain⟨o1,o2,o3,g⟩:=old (tb q4 q7 hlt e)
     refine fin_ ?_
     exact⟨o1,o2,by rw[o3];exact keep g⟩
 ·obtain⟨m,h1,h2⟩:=I.L.2
  exact⟨m,h1,h2.mono le⟩
 ·obtain⟨h1,h2⟩:=I.frs k a d e
  exact⟨le.own _ _ h1,h2⟩
 ·have hm:(a,o)∈C.ext.filter (fQ Vi):=List.mem_of_getElem? e
  rw[List.mem_filter]at hm
  obtain⟨_,h2,h3⟩:=I.extAt hm.1
  exact⟨by have:=hm.2;unfold fQ at this;simpa using this,h2,h3⟩
 ·rw[<-hVi]at e
  obtain⟨t1,t2,t3⟩:=I.tk i ks e
  refine⟨Nat.lt_of_lt_of_le t1 le.n,?_,?_⟩
  ·rw[le.ρ i t1];exact le.own _ _ t2
  ·rw[le.ρ i t1];exact t3
 ·rw[<-hVi]at e
  have e:some (N-6)=some x:=e
  obtain rfl:=Option.some.inj e
  exact aIX W.n1 W.n2
 ·rw[<-hVi]at e
  change(match V.own a with|some o=>some o|none=>aW M mem 60 a)=some o at e
  induction q:V.own a with
  |some o'=>rw[q]at e;exact os e ((I.tg a _ q).le le.n)
  |none=>
   rw[q]at e
   obtain⟨p,id,a',d,h1,_,h3⟩:=dD e
   have hp:=(List.getElem?_eq_some_iff.mp h1).1
   have en:Vi.n=60+mem.length:=by rw[<-hVi];rfl
   rcases h3 with⟨_,rfl⟩|⟨_,rfl⟩<;>(show 60+p<Vi.n;rw[en];(first|exact Nat.add_lt_add_left hp _|exact Nat.add_lt_add_left hp _))
end
end
end
section
set_option backward.match.sparseCases false
noncomputable section
noncomputable def qL:List (Nm×SV)->Bool
 | []=>true
 |p::l=>(match p.2 with|.opq _=>false|_=>qL l)
def yG(id:Nat):Bool:=match lG id with
 |.inst _ (p::l)=>(match p.2 with|.opq _=>qL l|_=>false)
 |.list _=>true
 |_=>false
theorem HY:((List.range 30).all yG)=true:=by kernel_rfl
theorem RW{id:Nat}(h:id<30):yG id=true:=List.all_eq_true.mp HY id (List.mem_range.mpr h)
noncomputable def AG(V:Vl)(v:SV):Int:=match v with|.int i=>i|.lin c=>V.X.getD 0+c|.opq k=>(V.Y k).getD 0|_=>0
theorem aCU(h:HR v=true)(hW:W.Y k=some (AG V v))(r:VR V v u):VR W (.opq k) u:=by
 induction r with
 |int i t=>exact .opq k i t hW
 |lin x c t hx=>
  have e:AG V (.lin c)=x+c:=by show V.X.getD 0+c=_;rw[hx];rfl
  rw[e]at hW;exact .opq k _ t hW
 |opq j z t hz=>
  have e:AG V (.opq j)=z:=by show(V.Y j).getD 0=_;rw[hz];rfl
  rw[e]at hW;exact .opq k _ t hW
 |_=>exact ff h
section
variable{V' Vn:Vl}{M':MM}{lc:Nat->Nat}{z:Int}{id:Nat}{ds:List Nat}
theorem HZ(hρ:∀i,i<60->Vn.ρ i=V'.ρ i)(hM:∀y,y∈ds->((M' y).map (·.1))=some (V'.ρ (lc y)))(ok:CH id ds t=true)(hno:∀k,t≠ .opq k)(f:yE v (sO lc t)=true)(r:VR V' v u):VR (kP Vn M' z) t u:=by
 induction t with
 |any=>exact .any u r.handed
 |opq k=>exact absurd rfl (hno k)
 |none=>obtain rfl:=bO (a:=v) (b:=.none) f;cases r;exact .none
 |bool b=>obtain rfl:=bO (a:=v) (b:=.bool b) f;cases r;exact .bool b
 |str n=>obtain rfl:=bO (a:=v) (b:=.str n) f;exact VR.el_str r λt=>by exact .str n t
 |ref i=>
  rcases oJ ok with hlt|⟨hge,hm,h90⟩
  ·rw[AE hlt]at f
   obtain rfl:=bO (a:=v) (b:=.ref i) f
   exact VR.el_ref r λO=>by
    have e2:(kP Vn M' z).ρ i=V'.ρ i:=by show(if i<60 then Vn.ρ i else _)=_;rw[if_pos hlt,hρ i hlt]
    rw[<-e2]
    exact .ref i (Nat.lt_of_lt_of_le hlt (show 60≤90 by decide))
  ·rw[AF hge]at f
   obtain rfl:=bO (a:=v) (b:=.ref (lc (i-60))) f
   exact VR.el_ref r λO=>by
    have e2:(kP Vn M' z).ρ i=V'.ρ (lc (i-60)):=by
     show(if i<60 then Vn.ρ i else((M' (i-60)).map (·.1)).getD 0)=_
     rw[if_neg hge,hM _ hm];rfl
    rw[<-e2]
    exact .ref i h90
 |_=>exact ff ok
set_option tactic.hygienic true in
theorem RX(hρ:∀i,i<60->Vn.ρ i=V'.ρ i)(hM:∀y,y∈ds->((M' y).map (·.1))=some (V'.ρ (lc y))):∀{es fs:List (Nm×SV)},RR id ds fs=true->qL fs=true->o7 es (vE lc fs)=true->TS (λv t=>∀u,VR V' v u->VR (kP Vn M' z) t u) es fs
 :=by
 intro es
 induction es with
 |nil=>intro fs ok no h;induction fs using List.casesOn with
  |nil=>trivial
  |cons _ _=>exact ff h
 |cons p l ih=>intro fs ok no h;induction fs using List.casesOn with
 |nil=>exact ff h
 |cons q m=>
  obtain⟨k1,ok⟩:=aB (b:=CH id ds q.2) (x:=RR id ds m) ok
  ·skip
   obtain⟨h12,h⟩:=aB (b:=cC p.1 q.1&&yE p.2 (sO lc q.2)) (x:=o7 l (vE lc m)) h
   obtain⟨h1,h2⟩:=aM h12
   have hn:(∀k,q.2≠ .opq k)/\qL m=true:=by
    unfold qL at no
    split at no
    ·exact ff no
    ·rename_i hq;exact⟨λk=>hq k,no⟩
   exact⟨⟨bB h1,λu r=>HZ hρ hM k1 hn.1 h2 r⟩,ih ok hn.2 h⟩
theorem RY(hρ:∀i,i<60->Vn.ρ i=V'.ρ i)(hM:∀y,y∈ds->((M' y).map (·.1))=some (V'.ρ (lc y))):∀{xs ys:List SV} {us:List Value},o8 id ds ys=true->(∀k,SV.opq k∉ys)->RN xs (yC lc ys)=true->VRs V' xs us->VRs (kP Vn M' z) ys us
 :=by
 intro xs
 induction xs with
 |nil=>intro ys us ok no h r;induction ys using List.casesOn with
  |nil=>rw[r.nil_inv];trivial
  |cons _ _=>exact ff h
 |cons v l ih=>intro ys us ok no h r;induction ys using List.casesOn with
 |nil=>exact ff h
 |cons t m=>induction us using List.casesOn with
 |nil=>exact r.elim
 |cons u us=>
  obtain⟨k1,ok⟩:=aB (b:=CH id ds t) (x:=o8 id ds m) ok
  ·skip
   obtain⟨k2,h⟩:=aB (b:=yE v (sO lc t)) (x:=RN l (yC lc m)) h
   exact⟨HZ hρ hM k1 (λk e=>no k (by rw[<-e];exact .head _)) k2 r.1,ih ok (λk hk=>no k (.tail _ hk)) h r.2⟩
end
theorem yH{Z:Gd}{C:Cf}{V':Vl}{J':St}{s':Shared}(I:Inv Z C V' J' s'){id:Nat}(h30:id<30){lc:Nat->Nat}(f:RO (J'.T.get (lc id)) (yD lc (lG id))=true):
 ∃(d:Addr) (items:List (Addr×Obj)),((∀p,p∈items->(V'.own p.1=some (.obj (lc id))∨V'.own p.1=some (.dict (lc id)))/\Z.s0.heap.get? p.1=none/\s'.heap.get? p.1=some p.2)/\(V'.own d=some (.dict (lc id))∨d=V'.ρ (lc id))/\V'.own (V'.ρ (lc id))=some (.obj (lc id)))/\
  ∀(Vn:Vl) (M':MM) (ext':List (Addr×Obj)),(∀i,i<60->Vn.ρ i=V'.ρ i)->(∀y,y∈aQ id->((M' y).map (·.1))=some (V'.ρ (lc y)))->(∀p,p∈items->p∈ext')->ThAt Vn M' ext' id (V'.ρ (lc id)) d:=by
 have hh:=RW h30
 unfold yG at hh
 induction e:lG id with
 |inst K fs=>
  rw[e]at hh f
  obtain⟨⟨⟨rfl,k2⟩,k3⟩,k4⟩:=kQ h30 e
  induction ho:J'.T.get (lc id)with
  |none=>rw[ho]at f;exact ff f
  |some ob=>
   rw[ho]at f
   induction ob with
   |inst D es=>
    obtain⟨qd,f⟩:=aM (a:=Nat.beq D 287) (b:=o7 es (vE lc fs)) f
    ·skip
     refine hold λG_ fin_=>?_
     obtain rfl:=Nat.eq_of_beq_eq_true qd
     obtain⟨t1,t2,_,d,m,g1,g2,g3,g4⟩:=I.T _ _ ho
     have g3':=g3
     obtain⟨obj,es',ep,q1,q2,q3⟩:=g3'
     refine fin_ ?_
     refine⟨d,[(V'.ρ (lc id),instObj 287 d),(d,obj)],⟨λp hp=>?_,.inl g2,t2⟩,λVn M' ext' hρ hM hi=>?_⟩
     ·simp only[List.mem_cons,List.not_mem_nil,or_false]at hp
      rcases hp with rfl|rfl
      ·exact⟨.inl t2,(I.own _ _ t2).1,g1⟩
      ·exact⟨.inr g2,(I.own _ _ g2).1,q1⟩
     ·unfold ThAt
      rw[e]
      induction fs using List.casesOn with
      |nil=>exact ff hh
      |cons p l=>
       induction es using List.casesOn with
       |nil=>exact ff f
       |cons q es=>
        obtain⟨k5,k2b⟩:=aB (b:=CH id (aQ id) p.2) (x:=RR id (aQ id) l) k2
        ·skip
         obtain⟨f12,f0⟩:=aB (b:=cC q.1 p.1&&yE q.2 (sO lc p.2)) (x:=o7 es (vE lc l)) f
         obtain⟨f1,f2⟩:=aM f12
         obtain⟨pn,pv⟩:=p
         induction pv with
         |opq k=>
          have hno:qL l=true:=hh
          refine⟨AG V' q.2,obj,m,hi _ (.head _),hi _ (.tail _ (.head _)),λh hg=>⟨obj,es',ep,hg,q2,q3⟩,AR.turn (es:=q::es) (es':=(pn,.opq k)::l) ⟨⟨bB f1,λu r=>aCU f2 rfl r⟩,RX hρ hM k2b hno f0⟩ g4⟩
         |_=>exact ff hh
   |_=>exact ff f
 |list ys=>
  rw[e]at hh f
  obtain⟨⟨k1,k2⟩,k3⟩:=kR h30 e
  induction ho:J'.T.get (lc id)with
  |none=>rw[ho]at f;exact ff f
  |some ob=>
   rw[ho]at f
   induction ob with
   |list xs=>
    obtain⟨t1,t2,_,vs,ep,g1,g2⟩:=I.T _ _ ho
    refine⟨V'.ρ (lc id),[(V'.ρ (lc id),iI vs ep)],⟨λp hp=>?_,.inr rfl,t2⟩,λVn M' ext' hρ hM hi=>?_⟩
    ·simp only[List.mem_cons,List.not_mem_nil,or_false]at hp
     rcases hp with rfl
     exact⟨.inl t2,(I.own _ _ t2).1,g1⟩
    ·unfold ThAt
     rw[e]
     refine⟨rfl,vs,ep,hi _ (.head _),RY hρ hM k1 (qK h30 e) (f:RN xs (yC lc ys)=true) g2⟩
   |_=>exact ff f
 |_=>rw[e]at f;exact ff (by induction ho:J'.T.get (lc id)with|none=>rw[ho]at f;exact f|some ob=>rw[ho]at f;induction ob<;>exact f)
end
end
section
set_option backward.match.sparseCases false
noncomputable section
theorem H0(v:SV):aD ((lH .none).take 5++(nm "last_number",v)::(lH .none).drop 6) (nm "last_number")=some v:=by kernel_rfl
theorem CJ(v:SV):(lH .none).take 5++(nm "last_number",v)::(lH .none).drop 6=lH v:=by kernel_rfl
theorem H1(h:TQ f o=true):∃C es,o= .inst C es/\f C es=true:=by induction o with|inst C es=>exact⟨C,es,rfl,h⟩|_=>exact ff h
theorem aCV(h:mdB f o=true):∃es ab,o= .mdict es ab/\f es=true:=by induction o with|mdict es ab=>exact⟨es,ab,rfl,h⟩|_=>exact ff h
theorem RZ(h:aLC v f=true):∃c,v= .lin (.ofNat c)/\f c=true:=by
 obtain⟨z,rfl,h⟩:=zA h
 induction z with
 |ofNat c=>exact⟨c,rfl,h⟩
 |negSucc _=>exact ff h
theorem yI(h:AB o=true):∃c:Nat,6≤c/\c≤20/\o=some (.inst 715 (lH (.lin (.ofNat c)))):=by
 obtain⟨o,rfl,h⟩:=some?_eq h
 obtain⟨C,es,rfl,h⟩:=H1 h
 obtain⟨v,ha,h⟩:=some?_eq h
 obtain⟨c,rfl,h⟩:=RZ h
 obtain⟨⟨⟨⟨⟨h1,h2⟩,h3⟩,h4⟩,h5⟩,h7⟩:=EV h
 obtain⟨p,e5,h7⟩:=some?_eq h7
 refine⟨c,Nat.le_of_ble_eq_true h4,Nat.le_of_ble_eq_true h5,?_⟩
 obtain⟨l5,e7⟩:=List.getElem?_eq_some_iff.mp ((lZ _ _).symm.trans e5)
 have e8:es.drop 5=p::es.drop 6:=by rw[<-e7];exact List.drop_eq_getElem_cons l5
 have e9:es=(lH .none).take 5++(nm "last_number",p.2)::(lH .none).drop 6:=by
  have:=List.take_append_drop 5 es
  rw[e8,kO h2,kO h3]at this
  rw[<-this,<-show p.1=nm "last_number" from bB h7]
 rw[e9,H0]at ha
 rw[e9,Option.some.inj ha,CJ,Nat.eq_of_beq_eq_true h1]
theorem CK{lc:Nat->Nat}{ch:List Nat}(h:gK (ch.map lc)=true):∀x,x∈ch->∀y,y∈ch->lc x=lc y->ch.Nodup->x=y:=by
 induction ch with
 |nil=>exact λx hx=>absurd hx List.not_mem_nil
 |cons a l ih=>
  intro x hx y hy e hn
  obtain⟨q,h⟩:=aB (b:= !(aP (l.map lc) (lc a))) (x:=gK (l.map lc)) h
  have no:∀b,b∈l->lc b≠lc a:=λb hb e=>by
   rw[u9 (List.mem_map.mpr ⟨b,hb,e⟩:lc a∈l.map lc)]at q;exact ff q
  rcases List.mem_cons.mp hx with e1|h1
  ·rcases List.mem_cons.mp hy with e2|h2
   ·exact e1.trans e2.symm
   ·exact absurd (e.symm.trans (congrArg lc e1)) (no y h2)
  ·rcases List.mem_cons.mp hy with e2|h2
   ·exact absurd (e.trans (congrArg lc e2)) (no x h1)
   ·exact ih h x h1 y h2 e (List.nodup_cons.mp hn).2
structure RowEnd(ch mem:List Nat)(J:St)(es:List (Nm×SV))(c:Nat):Prop where
 old:AA J.T=true
 c58:J.T.get 58=some (.cell (some (.ref 1)))
 c59:J.T.get 59=some (.cell (some .any))
 c6:6≤c
 c20:c≤20
 wd:J.T.get 4=some (.inst 715 (lH (.lin (.ofNat c))))
 L:o7 J.L cZ=true
 md:∃ab,J.T.get 7=some (.mdict es ab)
 first:es.take 5=mad0
 names:∀p,p∈es.drop 5->iB (bH ch) p.1=true
 len:es.length≤15
 refs:∀id,id∈ch->bY id=true->∃i,aD es (fS id)=some (.ref i)
 fit:∀id,id∈ch->RO (J.T.get (loc J.T es id)) (yD (loc J.T es) (lG id))=true
 mem:∀id,id∈mem->loc J.T es id=cG mem id
 ge:∀id,id∈ch->60≤loc J.T es id
 dis:gK (ch.map (loc J.T es))=true
theorem R0(h:sS ch mem .next J=true):∃es c,RowEnd ch mem J es c:=by
 obtain⟨⟨⟨⟨⟨h1,h2⟩,h3⟩,h4⟩,h5⟩,h⟩:=EV h
 obtain⟨o,h6,h⟩:=some?_eq h
 obtain⟨es,ab,rfl,h⟩:=aCV h
 obtain⟨c,w1,w2,w3⟩:=yI h4
 obtain⟨h,m8⟩:=aM h
 obtain⟨⟨⟨⟨⟨⟨m1,m2⟩,m3⟩,m4⟩,m5⟩,m6⟩,m7⟩:=PH h
 refine⟨es,c,h1,eF h2,eF h3,w1,w2,w3,h5,⟨ab,h6⟩,kO m1,λp hp=>a8 m2 p hp,?_,λid hi hm=>?_,λid hi=>a8 m5 id hi,λid hi=>Nat.eq_of_beq_eq_true (a8 m6 id hi),λid hi=>Nat.le_of_ble_eq_true (a8 m7 id hi),m8⟩
 ·have:=Nat.le_of_ble_eq_true m3;rwa [aT]at this
 ·have:=a8 m4 id hi
  rw[hm]at this
  have this:TR (aD es (fS id))=true:=this
  induction e:aD es (fS id)with
  |none=>rw[e]at this;exact ff this
  |some v=>
   rw[e]at this
   induction v with
   |ref i=>exact⟨i,rfl⟩
   |_=>exact ff this
theorem vN:((List.range 30).all λi=>(List.range 30).all λj=>match bY i,bY j,cC (fS i) (fS j)with|true,true,true=>Nat.beq i j|_,_,_=>true)=true:=by kernel_rfl
theorem AH(hi:i<30)(hj:j<30)(mi:bY i=true)(mj:bY j=true)(e:fS i=fS j):i=j:=by
 have:=List.all_eq_true.mp (List.all_eq_true.mp vN i (List.mem_range.mpr hi)) j (List.mem_range.mpr hj)
 rw[mi,mj,show cC (fS i) (fS j)=true by rw[cV];exact decide_eq_true e]at this
 exact Nat.eq_of_beq_eq_true this
theorem vO:((List.range 30).all λi=>match bY i,aD mad0 (fS i)with|true,some _=>false|_,_=>true)=true:=by kernel_rfl
theorem sU(hi:i<30)(mi:bY i=true):aD mad0 (fS i)=none:=by
 have:=List.all_eq_true.mp vO i (List.mem_range.mpr hi)
 rw[mi]at this
 induction e:aD mad0 (fS i)with
 |none=>rfl
 |some v=>rw[e]at this;exact ff this
theorem AI:([nm "String",nm "Symbol",nm "Array",nm "Range"].all λn=>(match aD mad0 n with|none=>true|some _=>false)&&(List.range 30).all λi=> !(cC (fS i) n))=true:=by kernel_rfl
theorem kT(h:iB l n=true):n∈l:=by
 induction l with
 |nil=>exact ff h
 |cons a l ih=>
  have h:Bool.rec (motive:=λO=>Bool) (iB l n) true (cC a n)=true:=h
  induction q:cC a n with
  |true=>rw[bB q];exact .head _
  |false=>rw[q]at h;exact .tail _ (ih h)
theorem fM(h:n∈bH ch):∃id,id∈ch/\bY id=true/\fS id=n:=by
 induction ch with
 |nil=>cases h
 |cons a l ih=>
  unfold bH at h
  induction q:bY a with
  |true=>
   rw[q]at h
   have h:n∈fS a::bH l:=h
   cases h with
   |head=>exact⟨a,.head _,q,rfl⟩
   |tail _ h=>obtain⟨i,h1,h2⟩:=ih h;exact⟨i,.tail _ h1,h2⟩
  |false=>rw[q]at h;obtain⟨i,h1,h2⟩:=ih h;exact⟨i,.tail _ h1,h2⟩
theorem RowEnd.at{ch mem:List Nat}{J:St}{es:List (Nm×SV)}{c:Nat}(R:RowEnd ch mem J es c)(n:Nm):aD es n=match aD mad0 n with|some v=>some v|none=>aD (es.drop 5) n:=by
 have:=List.take_append_drop 5 es
 rw[R.first]at this
 have e:=fL n mad0 (es.drop 5)
 rw[this]at e
 rw[e]
 cases aD mad0 n<;>rfl
theorem yJ:∀{l:List (Nm×SV)},aD l n=some v->∃p,p∈l/\p.1=n:=by
 intro l
 induction l with
 |nil=>
  intro h
  exact fo h
 |cons p l rec_=>
  intro h
  rw[aH]at h
  by_cases q:p.1=n
  ·exact⟨p,.head _,q⟩
  ·rw[if_neg q]at h;obtain⟨p',h1,h2⟩:=rec_ h;exact⟨p',.tail _ h1,h2⟩
theorem RowEnd.absent{ch mem:List Nat}{J:St}{es:List (Nm×SV)}{c:Nat}(R:RowEnd ch mem J es c){n:Nm}(h1:aD mad0 n=none)(h2:∀id,id∈ch->bY id=true->fS id≠n):aD es n=none:=by
 rw[R.at,h1]
 show aD (es.drop 5) n=none
 induction e:aD (es.drop 5) n with
 |none=>rfl
 |some v=>
  obtain⟨p,p1,rfl⟩:=yJ e
  obtain⟨id,i1,i2,i3⟩:=fM (kT (R.names p p1))
  exact absurd i3 (h2 id i1 i2)
end
end
section
noncomputable section
theorem AJ{V Vn:Vl}{M M':MM}{z:Int}{id:Nat}{ds:List Nat}(hρ:∀i,i<60->Vn.ρ i=V.ρ i)(hM:∀y,y∈ds->(M' y).map (·.1)=(M y).map (·.1)){t:SV}{u:Value}(ok:CH id ds t=true)(r:VR (kP V M z) t u):VR (kP Vn M' z) t u:=by
 induction r with
 |none=>exact .none
 |bool b=>exact .bool b
 |str n t=>exact .str n t
 |any _ hv=>exact .any _ hv
 |opq k z' t hz=>exact .opq (V:=kP Vn M' z) k z' t hz
 |ref i hi=>
  have e:(kP V M z).ρ i=(kP Vn M' z).ρ i:=by
   show(if i<60 then V.ρ i else((M (i-60)).map (·.1)).getD 0)=(if i<60 then Vn.ρ i else((M' (i-60)).map (·.1)).getD 0)
   by_cases q:i<60
   ·rw[if_pos q,if_pos q,hρ i q]
   ·rw[if_neg q,if_neg q]
    rcases oJ ok with hlt|⟨_,hm,_⟩
    ·exact absurd hlt q
    ·rw[hM _ hm]
  rw[e];exact .ref (V:=kP Vn M' z) i hi
 |_=>exact ff ok
theorem H2{V Vn:Vl}{M M':MM}{z:Int}{id:Nat}{ds:List Nat}(hρ:∀i,i<60->Vn.ρ i=V.ρ i)(hM:∀y,y∈ds->(M' y).map (·.1)=(M y).map (·.1)):∀{es:List (Nm×SV)},RR id ds es=true->TS (λv t=>∀u,VR (kP V M z) v u->VR (kP Vn M' z) t u) es es
 :=by
 intro es
 induction es with
 |nil=>exact λO=>trivial
 |cons p l ih=>intro h;obtain⟨q,h⟩:=aB (b:=CH id ds p.2) (x:=RR id ds l) h;exact⟨⟨rfl,λu r=>AJ hρ hM q r⟩,ih h⟩
theorem H3{V Vn:Vl}{M M':MM}{z:Int}{id:Nat}{ds:List Nat}(hρ:∀i,i<60->Vn.ρ i=V.ρ i)(hM:∀y,y∈ds->(M' y).map (·.1)=(M y).map (·.1)):∀{xs:List SV} {us:List Value},o8 id ds xs=true->VRs (kP V M z) xs us->VRs (kP Vn M' z) xs us
 :=λ{xs us} h r=>by
 revert h
 refine r.ind (λO=>trivial) λv l u us r O ih h=>?_
 obtain⟨q,h⟩:=aB (b:=CH id ds v) (x:=o8 id ds l) h
 exact⟨AJ hρ hM q r,ih h⟩
theorem ThAt.same{V Vn:Vl}{M M':MM}{ext ext':List (Addr×Obj)}{id:Nat}{a d:Addr}(h30:id<30)(hρ:∀i,i<60->Vn.ρ i=V.ρ i)(hM:∀y,y∈aQ id->(M' y).map (·.1)=(M y).map (·.1))(hx:∀p,p∈ext->p.1=a∨p.1=d->p∈ext')(h:ThAt V M ext id a d):ThAt Vn M' ext' id a d:=by
 unfold ThAt at h⊢
 induction e:lG id with
 |inst K fs=>
  rw[e]at h
  obtain⟨z,ob,m,h1,h2,h3,h4⟩:=h
  exact⟨z,ob,m,hx _ h1 (.inl rfl),hx _ h2 (.inr rfl),h3,h4.turn (H2 hρ hM (kQ h30 e).1.1.2)⟩
 |list xs=>
  rw[e]at h
  obtain⟨rfl,us,ep,h1,h2⟩:=h
  exact⟨rfl,us,ep,hx _ h1 (.inl rfl),H3 hρ hM (kR h30 e).1.1 h2⟩
 |_=>rw[e]at h;exact h.elim
theorem R1:(oldIdx.all λj=>match(iU .box).get j with|some o=>u6 60 o|none=>true)=true:=by kernel_rfl
theorem oM(h4:j≠4)(h7:j≠7)(h:(iU .box).get j=some o):u6 60 o=true:=by
 have hm:j∈oldIdx:=by
  unfold oldIdx
  rw[List.mem_filter]
  exact⟨List.mem_range.mpr (oE h),by simp[h4,h7]⟩
 have:=List.all_eq_true.mp R1 j hm
 rw[h]at this;exact this
theorem qM:∀{K:List (Nm×SV)},o7 L K=true->(∀p,p∈K->p.2= .any∨(∃i,p.2= .ref i/\i<m))->gI m L K:=by
 induction L with
 |nil=>intro K h O;induction K using List.casesOn with
  |nil=>exact hJ m
  |cons _ _=>exact ff h
 |cons p l ih=>intro K h hK;induction K using List.casesOn with
  |nil=>exact ff h
  |cons q k=>
   obtain⟨h12,h0⟩:=aB (b:=cC p.1 q.1&&yE p.2 q.2) (x:=o7 l k) h
   obtain⟨h1,h2⟩:=aM h12
   obtain⟨pn,pv⟩:=p
   obtain⟨qn,qv⟩:=q
   obtain rfl:=bB h1
   refine bQ ?_ (ih h0 λp hp=>hK p (.tail _ hp))
   rcases hK _ (.head _)with e|⟨i,e,hi⟩
   ·exact .inl e
   ·have e:qv= .ref i:=e
    subst e
    have:pv= .ref i:=bO (a:=pv) (b:=.ref i) h2
    exact .inr ⟨this.symm,Nat.ble_eq_true_of_le hi⟩
end
end
section
noncomputable section
section
variable{Z:Gd}{C0 C:Cf}{V0 V V':Vl}{J0 J':St}{t s s':Shared}
theorem qN(le:V0.Le V)(h:V.own a=some (.obj i)∨V.own a=some (.dict i))(hi:lv≤i)(h0:∀o,V0.own a=some o->tagIn V0.n o)(hn:V0.n≤lv):(V.cut V0 lv R').own a=none:=by
 have e0:V0.own a=none:=by
  induction e:V0.own a with
  |none=>rfl
  |some o=>
   have h1:=le.own _ _ e
   have h2:=h0 o e
   rcases h with h|h<;>rw[h]at h1<;>obtain rfl:=Option.some.inj h1<;>exact absurd (Nat.lt_of_lt_of_le h2 hn) (by(first|exact Nat.not_lt.mpr hi|exact Nat.not_lt.mpr hi))
 show(match V0.own a with|some o=>some o|none=>(match V.own a with|some o=>if b8 lv o=true then some o else none|none=>none))=none
 rw[e0]
 rcases h with h|h<;>rw[h]
 ·show(if b8 lv (.obj i)=true then some (Own.obj i)else none)=none
  rw[if_neg λe=>by have:=bF (e:Nat.blt i lv=true);exact Nat.not_lt_of_le hi this]
 ·show(if b8 lv (.dict i)=true then some (Own.dict i)else none)=none
  rw[if_neg λe=>by have:=bF (e:Nat.blt i lv=true);exact Nat.not_lt_of_le hi this]
theorem R2{id:Nat}(h:bY id=true){T:PT}{es:List (Nm×SV)}:loc T es id=sR es id:=by
 have e:oC id=none:=by
  unfold oC
  induction q:Nat.beq id 2 with
  |true=>rw[Nat.eq_of_beq_eq_true q]at h;exact absurd (h.symm.trans (show bY 2=false by kernel_rfl)) (by decide)
  |false=>
   induction q2:Nat.beq id 5 with
   |true=>rw[Nat.eq_of_beq_eq_true q2]at h;exact absurd (h.symm.trans (show bY 5=false by kernel_rfl)) (by decide)
   |false=>rfl
 unfold loc
 rw[e]
theorem CL(hx:V.X=some z):TS (λv v'=>∀u,VR V v u->VR (V.cut V0 60 R') v' u) (lH (.lin (.ofNat c))) (lH (.int (z+c))):=by
 have k:∀v,gH 60 v=true->∀u,VR V v u->VR (V.cut V0 60 R') v u:=λv f u r=>r.cut f
 refine⟨⟨rfl,k _ rfl⟩,⟨rfl,k _ rfl⟩,⟨rfl,k _ rfl⟩,⟨rfl,k _ rfl⟩,⟨rfl,k _ rfl⟩,⟨rfl,λu r=>?_⟩,⟨rfl,k _ rfl⟩,⟨rfl,k _ rfl⟩,⟨rfl,k _ rfl⟩,⟨rfl,k _ rfl⟩,⟨rfl,k _ rfl⟩,⟨rfl,k _ rfl⟩,⟨rfl,k _ rfl⟩,⟨rfl,k _ rfl⟩,⟨rfl,k _ rfl⟩,trivial⟩
 have r:VR V (.lin (.ofNat c)) u:=r
 exact VR.el_lin r λx t h=>by rw[hx]at h;obtain rfl:=Option.some.inj h;exact .int _ t
def RdP(Z:Gd)(V':Vl)(s':Shared)(lc:Nat->Nat)(id:Nat)(x:Addr×List (Addr×Obj)):Prop:=
 ((∀p,p∈x.2->(V'.own p.1=some (.obj (lc id))∨V'.own p.1=some (.dict (lc id)))/\Z.s0.heap.get? p.1=none/\s'.heap.get? p.1=some p.2)/\(V'.own x.1=some (.dict (lc id))∨x.1=V'.ρ (lc id))/\V'.own (V'.ρ (lc id))=some (.obj (lc id)))/\
   ∀(Vn:Vl) (M':MM) (ext':List (Addr×Obj)),(∀i,i<60->Vn.ρ i=V'.ρ i)->(∀y,y∈aQ id->((M' y).map (·.1))=some (V'.ρ (lc y)))->(∀p,p∈x.2->p∈ext')->ThAt Vn M' ext' id (V'.ρ (lc id)) x.1
theorem aCW(I0:Inv Z C0 V0 J0 t)(v0n:V0.n=60)(v0R:V0.R=none)(le0:V0.Le V)(c2:C0.L=C.L)(c4:C0.frs=C.frs)
 {M:MM} {ext:List (Addr×Obj)} {N:Int} {B:Nat} {r:Str->Option Value} {mem:List Nat} (W:kS C V M ext N B r mem) {L:List (Nm×SV)} (Ib:Inv Z C V (JB N L) s) {Y:Nat->Option Int}
 (le':(lI V M Y (N-6) mem).Le V') (I':Inv Z ⟨C.L,C.ext.filter (fQ (lI V M Y (N-6) mem)),C.frs,C.envs⟩ V' J' s') {ch:List Nat} (hch:sS ch mem .next J'=true)
 (hmc:∀id,id∈mem->id∈ch) (hcn:ch.Nodup) (h30:∀id,id∈ch->id<30) (hdc:∀id,id∈ch->∀y,y∈aQ id->y∈ch) (habs:∀id,id∈ch->id∉mem->M id=none)
 {Ce:List (Addr×Obj)} (hCe:∀p,p∈Ce->p∈C.ext) (sep:∀p,p∈ext->∀q,q∈Ce->p.1≠q.1) (hB:B+10≤900):
 ∃M' ext' N' r',Bd (V'.cut V0 60 (some (B+10,r'))) M' ext'/\AC M' r'/\6≤N'/\N'≤N+14/\(∀p,p∈ext'->∀q,q∈Ce->p.1≠q.1)/\
  ∀C':Cf,C'.L=C.L->C'.frs=C.frs->(∀p,p∈C'.ext->p∈ext'∨p∈Ce)->Inv Z C' (V'.cut V0 60 (some (B+10,r'))) (JB N' cZ) s':=by
 refine hold λG_ fin_=>?_
 obtain⟨es,c,R⟩:=R0 hch
 obtain⟨ab,hmd⟩:=R.md
 refine fin_ ?_
 have leI:V.Le (lI V M Y (N-6) mem)∨True:=.inr trivial
 have ρI:∀i,i<60->V'.ρ i=V.ρ i:=λi hi=>by
  rw[le'.ρ i (by show i<60+mem.length;exact Nat.lt_add_right _ hi)]
  exact if_pos hi
 have ownI:∀a o,V.own a=some o->V'.own a=some o:=λa o e=>le'.own _ _ (by show(match V.own a with|some o=>some o|none=>_)=some o;rw[e])
 have hx:V'.X=some (N-6):=le'.X _ rfl
 have hR:V'.R=some (B,r):=le'.R _ W.vR
 have le0':V0.Le V':=⟨by rw[v0n];exact Nat.le_trans (Nat.le_add_right 60 _) le'.n,λi hi=>by rw[ρI i (by rw[<-v0n];exact hi),le0.ρ i hi],λa o e=>ownI a o (le0.own _ _ e),λx e=>(by have:=le0.X x e;rw[W.vX]at this;exact fo this),
  λi ks e=>le'.tk _ _ (le0.tk _ _ e),λq e=>(by rw[v0R]at e;exact fo e),λk z e=>(by have:=le0.Y k z e;rw[W.vY]at this;exact fo this),le'.S.trans le0.S⟩
 generalize hlc:loc J'.T es=lc at R
 have Rfit:∀id,id∈ch->RO (J'.T.get (lc id)) (yD lc (lG id))=true:=λid h=>by have:=R.fit id h;rwa [hlc]at this
 have Rmem:∀id,id∈mem->lc id=cG mem id:=λid h=>by have:=R.mem id h;rwa [hlc]at this
 have Rge:∀id,id∈ch->60≤lc id:=λid h=>by have:=R.ge id h;rwa [hlc]at this
 have Rdis:gK (ch.map lc)=true:=by have:=R.dis;rwa [hlc]at this
 have rd:∀id,∃x:Addr×List (Addr×Obj),id∈ch->RdP Z V' s' lc id x:=λid=>by
  by_cases h:id∈ch
  ·obtain⟨d,items,q⟩:=yH I' (h30 id h) (Rfit id h)
   exact⟨(d,items),λO=>q⟩
  ·exact⟨(0,[]),λq=>absurd q h⟩
 refine hold λG_ fin_=>?_
 obtain⟨F,hF⟩:∃F:Nat->Addr×List (Addr×Obj),∀id,id∈ch->RdP Z V' s' lc id (F id):=⟨λid=>Classical.choose (rd id),λid=>Classical.choose_spec (rd id)⟩
 obtain⟨t1,t2,_,kvs,B',r',g1,g2,g2',g3,g4,g5⟩:=I'.T 7 _ hmd
 rw[hR]at g3
 obtain⟨rfl,rfl⟩:B=B'/\r=r':=by cases g3;exact⟨rfl,rfl⟩
 refine fin_ ?_
 let M':MM:=λid=>if id∈ch then some (V'.ρ (lc id),(F id).1)else M id
 have hMin:∀{id},id∈ch->M' id=some (V'.ρ (lc id),(F id).1):=λh=>if_pos h
 have hMout:∀{id},id∉ch->M' id=M id:=λh=>if_neg h
 let Vn:Vl:=V'.cut V0 60 (some (B+10,λx=>valueAt kvs x))
 let ext':List (Addr×Obj):=ext.filter (fQ (lI V M Y (N-6) mem))++(ch.map λid=>(F id).2).flatten
 have hρn:∀i,i<60->Vn.ρ i=V'.ρ i:=λO O=>rfl
 have outI:∀{id a d},M id=some (a,d)->id∉ch->∀p,p∈ext->p.1=a∨p.1=d->fQ (lI V M Y (N-6) mem) p=true:=λ{id a d} hM hid p hp hpa=>by
  unfold fQ
  have hv:V.own p.1=none:=(Ib.extAt (W.sub p hp)).1
  have:(lI V M Y (N-6) mem).own p.1=none:=by
   show(match V.own p.1 with|some o=>some o|none=>aW M mem 60 p.1)=none
   rw[hv]
   show aW M mem 60 p.1=none
   induction e:aW M mem 60 p.1 with
   |none=>rfl
   |some o=>
    refine hold λG_ fin_=>?_
    obtain⟨q,id',a',d',h1,h2,h3⟩:=dD e
    refine fin_ ?_
    have hne:id≠id':=λz=>hid (z▸hmc id' (List.mem_of_getElem? h1))
    exfalso
    rcases hpa with z|z<;>rcases h3 with⟨z2,_⟩|⟨z2,_⟩
    ·exact hne (W.bd.inj _ _ _ _ _ _ hM h2 (.inl (z.symm.trans z2)))
    ·exact hne (W.bd.inj _ _ _ _ _ _ hM h2 (.inr (.inr (z.symm.trans z2))))
    ·exact hne (W.bd.inj _ _ _ _ _ _ h2 hM (.inr (.inr (z2.symm.trans z)))).symm
    ·exact hne (W.bd.inj _ _ _ _ _ _ hM h2 (.inr (.inl (z.symm.trans z2))))
  rw[this];rfl
 have outO:∀p,p∈C.ext->fQ (lI V M Y (N-6) mem) p=true->V'.own p.1=none/\Z.s0.heap.get? p.1=none/\s'.heap.get? p.1=some p.2:=λp hp hs=>I'.extAt (a:=p.1) (o:=p.2) (List.mem_filter.mpr ⟨hp,hs⟩)
 have newO:∀{id},id∈ch->V'.own (V'.ρ (lc id))=some (.obj (lc id))/\(V'.own (F id).1=some (.dict (lc id))∨(F id).1=V'.ρ (lc id)):=λh=>⟨(hF _ h).1.2.2,(hF _ h).1.2.1⟩
 have oldP:∀{id a d},M id=some (a,d)->id∉ch->V'.own a=none/\V'.own d=none:=λ{id a d} hM hid=>by
  obtain⟨h30',hat⟩:=W.bd.at_ id a d hM
  unfold ThAt at hat
  induction e:lG id with
  |inst K fs=>
   rw[e]at hat
   refine hold λG_ fin_=>?_
   obtain⟨z,ob,m,h1,h2,_⟩:=hat
   refine fin_ ?_
   exact⟨(outO _ (W.sub _ h1) (outI hM hid _ h1 (.inl rfl))).1,(outO _ (W.sub _ h2) (outI hM hid _ h2 (.inr rfl))).1⟩
  |list xs=>
   rw[e]at hat
   obtain⟨rfl,us,ep,h1,_⟩:=hat
   have:=(outO _ (W.sub _ h1) (outI hM hid _ h1 (.inl rfl))).1
   exact⟨this,this⟩
  |_=>rw[e]at hat;exact hat.elim
 have sameM:∀{id a d},M id=some (a,d)->∀y,y∈aQ id->(M' y).map (·.1)=(M y).map (·.1):=λ{id a d} hM y hy=>by
  by_cases h:y∈ch
  ·have hys:=W.bd.dep id (by rw[hM];rfl) y hy
   have hym:y∈mem:=by
    by_cases q:y∈mem
    ·exact q
    ·rw[habs y h q]at hys;exact ff hys
   obtain⟨⟨a',d'⟩,hM2⟩:=Option.isSome_iff_exists.mp hys
   obtain⟨p,p1,p2⟩:=oI hym
   rw[hMin h,hM2]
   have hp:=(List.getElem?_eq_some_iff.mp p2).1
   show some (V'.ρ (lc y))=some a'
   rw[Rmem y hym,p1,le'.ρ (60+p) (by show 60+p<60+mem.length;exact Nat.add_lt_add_left hp _),mI p2 hM2]
  ·rw[hMout h]
 have ceI:∀q,q∈Ce->fQ (lI V M Y (N-6) mem) q=true:=λq hq=>by
  unfold fQ
  have hv:V.own q.1=none:=(Ib.extAt (hCe q hq)).1
  have:(lI V M Y (N-6) mem).own q.1=none:=by
   show(match V.own q.1 with|some o=>some o|none=>aW M mem 60 q.1)=none
   rw[hv]
   show aW M mem 60 q.1=none
   induction e:aW M mem 60 q.1 with
   |none=>rfl
   |some o=>
    refine hold λG_ fin_=>?_
    obtain⟨k,id',a',d',h1,h2,h3⟩:=dD e
    refine fin_ ?_
    exfalso
    obtain⟨_,hat⟩:=W.bd.at_ id' a' d' h2
    unfold ThAt at hat
    induction e2:lG id' with
    |inst K fs=>
     rw[e2]at hat
     refine hold λG_ fin_=>?_
     obtain⟨z,ob,m,i1,i2,_⟩:=hat
     refine fin_ ?_
     rcases h3 with⟨z2,_⟩|⟨z2,_⟩
     ·exact sep _ i1 q hq z2.symm
     ·exact sep _ i2 q hq z2.symm
    |list xs=>
     rw[e2]at hat
     refine hold λG_ fin_=>?_
     obtain⟨rfl,us,ep,i1,_⟩:=hat
     refine fin_ ?_
     rcases h3 with⟨z2,_⟩|⟨z2,_⟩
     ·exact sep _ i1 q hq z2.symm
     ·exact sep _ i1 q hq z2.symm
    |_=>rw[e2]at hat;exact hat.elim
  rw[this];rfl
 refine⟨M',ext',N-6+c,λx=>valueAt kvs x,⟨?_,?_,?_⟩,⟨?_,?_,?_⟩,?_,?_,?_,?_⟩
 ·intro id a d hM
  by_cases h:id∈ch
  ·rw[hMin h]at hM;cases hM
   refine⟨h30 id h,(hF id h).2 Vn M' ext' hρn (λy hy=>by rw[hMin (hdc id h y hy)];rfl) λp hp=>List.mem_append_right _ (List.mem_flatten.mpr ⟨_,List.mem_map.mpr ⟨id,h,rfl⟩,hp⟩)⟩
  ·rw[hMout h]at hM
   obtain⟨h1,h2⟩:=W.bd.at_ id a d hM
   exact⟨h1,h2.same h1 (λi hi=>(hρn i hi).trans (ρI i hi)) (sameM hM) λp hp hpa=>List.mem_append_left _ (List.mem_filter.mpr ⟨hp,outI hM h p hp hpa⟩)⟩
 ·intro id hs y hy
  by_cases h:id∈ch
  ·rw[hMin (hdc id h y hy)];rfl
  ·rw[hMout h]at hs
   have:=W.bd.dep id hs y hy
   by_cases h2:y∈ch
   ·rw[hMin h2];rfl
   ·rw[hMout h2];exact this
 ·intro id id' a d a' d' hM hM' hor
  by_cases h:id∈ch<;>by_cases h':id'∈ch
  ·rw[hMin h]at hM;rw[hMin h']at hM'
   cases hM;cases hM'
   obtain⟨o1,o2⟩:=newO h
   obtain⟨o3,o4⟩:=newO h'
   have c1:V'.ρ (lc id)=V'.ρ (lc id')->lc id=lc id':=λe=>by
    rw[e,o3]at o1
    exact(Own.obj.inj (Option.some.inj o1)).symm
   refine CK Rdis id h id' h' ?_ hcn
   rcases hor with e|e|e
   ·exact c1 e
   ·rcases o2 with o2|o2<;>rcases o4 with o4|o4
    ·rw[e,o4]at o2;exact(Own.dict.inj (Option.some.inj o2)).symm
    ·rw[e,o4,o3]at o2;cases o2
    ·rw[<-e,o2,o1]at o4;cases o4
    ·exact c1 (o2.symm.trans (e.trans o4))
   ·rcases o4 with o4|o4
    ·rw[<-e,o1]at o4;cases o4
    ·exact c1 (e.trans o4)
  ·rw[hMin h]at hM;rw[hMout h']at hM'
   cases hM
   obtain⟨o1,o2⟩:=newO h
   obtain⟨n1,n2⟩:=oldP hM' h'
   have o2':∃w,V'.own (F id).1=some w:=o2.elim (λq=>⟨_,q⟩) λq=>⟨_,by rw[q];exact o1⟩
   obtain⟨w,o2'⟩:=o2'
   rcases hor with e|e|e
   ·rw[e,n1]at o1;exact fo o1
   ·rw[e,n2]at o2';exact fo o2'
   ·rw[e,n2]at o1;exact fo o1
  ·rw[hMout h]at hM;rw[hMin h']at hM'
   cases hM'
   obtain⟨o1,o2⟩:=newO h'
   obtain⟨n1,n2⟩:=oldP hM h
   have o2':∃w,V'.own (F id').1=some w:=o2.elim (λq=>⟨_,q⟩) λq=>⟨_,by rw[q];exact o1⟩
   obtain⟨w,o2'⟩:=o2'
   rcases hor with e|e|e
   ·rw[<-e,n1]at o1;exact fo o1
   ·rw[<-e,n2]at o2';exact fo o2'
   ·rw[<-e,n1]at o2';exact fo o2'
  ·rw[hMout h]at hM;rw[hMout h']at hM'
   exact W.bd.inj _ _ _ _ _ _ hM hM' hor
 ·intro id a d hM hm
  by_cases h:id∈ch
  ·rw[hMin h]at hM;cases hM
   obtain⟨i,hi⟩:=R.refs id h hm
   have hl:lc id=i:=by rw[<-hlc,R2 hm];unfold sR;rw[hi];rfl
   have:=g4 (fS id)
   rw[hi]at this
   obtain⟨u,u1,u2⟩:=this
   cases u2 with
   |ref _ _=>rw[hl];exact u1
  ·rw[hMout h]at hM
   have h3:=(W.bd.at_ id a d hM).1
   have:=g4 (fS id)
   rw[R.absent (sU h3 hm) λid2 h2 m2 e=>h (AH (h30 id2 h2) h3 m2 hm e▸h2)]at this
   exact(show valueAt kvs (tx (fS id))=r (tx (fS id))from this).trans (W.rs.made id a d hM hm)
 ·intro id h3 hm hM
  have h:id∉ch:=λh=>by rw[hMin h]at hM;cases hM
  rw[hMout h]at hM
  have:=g4 (fS id)
  rw[R.absent (sU h3 hm) λid2 h2 m2 e=>h (AH (h30 id2 h2) h3 m2 hm e▸h2)]at this
  exact(show valueAt kvs (tx (fS id))=r (tx (fS id))from this).trans (W.rs.not id h3 hm hM)
 ·intro n hn
  have key:=List.all_eq_true.mp AI n hn
  obtain⟨k1,k2⟩:=Bool.and_eq_true_iff.mp key
  have k1:aD mad0 n=none:=by
   induction e:aD mad0 n with
   |none=>rfl
   |some v=>rw[e]at k1;exact ff k1
  have:=g4 n
  rw[R.absent k1 λid2 h2 m2 e=>by
   have:=List.all_eq_true.mp k2 id2 (List.mem_range.mpr (h30 id2 h2))
   rw[show cC (fS id2) n=true by rw[cV];exact decide_eq_true e]at this
   cases this]at this
  exact(show valueAt kvs (tx n)=r (tx n)from this).trans (W.rs.oth n hn)
 ·exact aIY W.n1 R.c6
 ·have:=W.n1;have:=R.c20;exact aIZ this
 ·intro p hp q hq
  rcases List.mem_append.mp hp with hp|hp
  ·exact sep p (List.mem_filter.mp hp).1 q hq
  ·obtain⟨l,h1,h2⟩:=List.mem_flatten.mp hp
   obtain⟨id,h3,rfl⟩:=List.mem_map.mp h1
   intro e
   have n1:=(outO q (hCe q hq) (ceI q hq)).1
   rcases((hF id h3).1.1 p h2).1 with o|o<;>rw[e,n1]at o<;>exact fo o
 ·intro C' e1 e2 hx'
  refine Inv.cut (lv:=60) I0 le0' (by rw[v0n];exact Nat.le_refl _) I' rfl (λj o' hj=>?_) (qM R.L λp hp=>?_) e1 c2 e2 c4 (λk a o he=>?_) nofun λq e=>by rw[v0R]at e;exact fo e
  ·have hj:oG (cW (.int (N-6+c)) mad0 []) (iU .box).get j=some o':=(oH _ _).symm.trans hj
   change(if j=59 then some (SObj.cell (some .any))else if j=58 then some (.cell (some (.ref 1)))else if j=7 then some (.mdict mad0 [])else if j=4 then some (.inst 715 (lH (.int (N-6+c))))else(iU .box).get j)=some o' at hj
   by_cases q59:j=59
   ·rw[if_pos q59]at hj;obtain rfl:=Option.some.inj hj;subst q59
    exact⟨by decide,.inl ⟨⟨_,R.c59,.inl rfl⟩,rfl⟩⟩
   rw[if_neg q59]at hj
   by_cases q58:j=58
   ·rw[if_pos q58]at hj;obtain rfl:=Option.some.inj hj;subst q58
    exact⟨by decide,.inl ⟨⟨_,R.c58,.inl rfl⟩,rfl⟩⟩
   rw[if_neg q58]at hj
   by_cases q7:j=7
   ·rw[if_pos q7]at hj;obtain rfl:=Option.some.inj hj;subst q7
    refine⟨by decide,.inr ⟨t2,by decide,kvs,B+10,λx=>valueAt kvs x,g1,?_,hB,rfl,λn=>?_,nofun⟩⟩
    ·have h15:=R.len
     have l5:=vM
     exact aJa g2 h15 l5
    ·have hn:=g4 n
     rw[R.at n]at hn
     induction e5:aD mad0 n with
     |none=>rfl
     |some v=>
      rw[e5]at hn
      refine hold λG_ fin_=>?_
      obtain⟨u,u1,u2⟩:=hn
      obtain⟨p,p1,rfl⟩:=hG e5
      refine fin_ ?_
      exact⟨u,u1,u2.cut (List.all_eq_true.mp (show(mad0.all λp=>gH 60 p.2)=true from rfl) p p1)⟩
   rw[if_neg q7]at hj
   by_cases q4:j=4
   ·rw[if_pos q4]at hj;obtain rfl:=Option.some.inj hj;subst q4
    refine hold λG_ fin_=>?_
    obtain⟨w1,w2,e0,d,m,f1,f2,f3,f4⟩:=I'.T 4 _ R.wd
    refine fin_ ?_
    exact⟨by decide,.inr ⟨w2,e0,d,m,f1,cO le0' f2 rfl,f3,f4.turn (CL hx)⟩⟩
   rw[if_neg q4]at hj
   exact⟨Nat.lt_of_lt_of_le (oE hj) (by decide),.inl ⟨⟨_,vG R.old q4 q7 hj,.inl rfl⟩,oM q4 q7 hj⟩⟩
  ·have hp:p∈ [(nm "world",SV.ref 4),(nm "row",.any),(nm "first",.any),(nm "last",.any),(nm "found",.any)]:=hp
   rcases List.mem_cons.mp hp with rfl|hp
   ·exact .inr ⟨4,rfl,by decide⟩
   rcases List.mem_cons.mp hp with rfl|hp
   ·exact .inl rfl
   rcases List.mem_cons.mp hp with rfl|hp
   ·exact .inl rfl
   rcases List.mem_cons.mp hp with rfl|hp
   ·exact .inl rfl
   rcases List.mem_cons.mp hp with rfl|hp
   ·exact .inl rfl
   cases hp
  ·rcases hx' _ (List.mem_of_getElem? he)with hp|hp
   ·rcases List.mem_append.mp hp with hp|hp
    ·obtain⟨p1,p2⟩:=List.mem_filter.mp hp
     obtain⟨o1,o2,o3⟩:=outO _ (W.sub _ p1) p2
     exact⟨dY le0' o1,o2,o3⟩
    ·obtain⟨l,h1,h2⟩:=List.mem_flatten.mp hp
     obtain⟨id,h3,rfl⟩:=List.mem_map.mp h1
     obtain⟨o1,o2,o3⟩:=(hF id h3).1.1 _ h2
     exact⟨qN le0' o1 (Rge id h3) (λo e=>I0.tg a o e) (by rw[v0n];exact Nat.le_refl _),o2,o3⟩
   ·obtain⟨o1,o2,o3⟩:=outO _ (hCe _ hp) (ceI _ hp)
    exact⟨dY le0' o1,o2,o3⟩
end
end
end
section
noncomputable section
noncomputable def Vf(V:Vl):Vl:={V with R:=none,Y:=λO=>none}
section
variable{Z:Gd}{C:Cf}{V:Vl}{J:St}{s:Shared}
theorem aMj:(Vf V).Le V:=⟨Nat.le_refl _,λO O=>rfl,λO O e=>e,λO e=>e,λO O e=>e,λO e=>(by cases e),λO O e=>(by cases e),rfl⟩
theorem vP:V.cut (Vf V) V.n none=Vf V:=by
 have e:(V.cut (Vf V) V.n none).own=V.own:=funext λa=>by
  show(match V.own a with|some o=>some o|none=>(match V.own a with|some o=>if b8 V.n o=true then some o else none|none=>none))=V.own a
  cases V.own a<;>rfl
 have h:V.cut (Vf V) V.n none={ρ:=V.ρ,own:=(V.cut (Vf V) V.n none).own,X:=V.X,n:=V.n,tk:=V.tk,R:=none,Y:=λO=>none,S:=V.S}:=rfl
 rw[h,e];rfl
theorem CodeK.vf(x:CodeK Z V h cd q):CodeK Z (Vf V) h cd q:=by
 obtain⟨c,o,vs,t,e1,e2,e3,e4,e5⟩:=x;exact⟨c,o,vs,t,e1,e2,e3,e4,e5⟩
theorem Inv.forget(I:Inv Z C V J s)(hT:∀j o,J.T.get j=some o->u6 V.n o=true)(hL:gI V.n J.L J.L):Inv Z C (Vf V) J s:=by
 refine⟨I.base,λa h=>(I.tab a h).imp λps z=>⟨z.1,z.2.1,λpos cv e=>(z.2.2 pos cv e).vf⟩,I.own,I.n,λj o e=>?_,⟨I.L.1,?_⟩,I.frs,I.ext,I.tk,I.X,I.tabLo,I.sm,I.sc,I.tg⟩
 ·obtain⟨t1,t2,t3⟩:=I.T j o e
  have:=t3.cut (aMj (V:=V)) (lv:=V.n) (R':=none) t1 (hT j o e)
  rw[vP]at this
  exact⟨t1,t2,this⟩
 ·obtain⟨m,h1,h2⟩:=I.L.2
  have:=h2.less (V0:=Vf V) (R':=none) hL
  rw[vP]at this
  exact⟨m,h1,this⟩
theorem Inv.raise(I:Inv Z C V J s)(hR:V.R=none)(hY:∀k,V.Y k=none)(R':Option (Nat×(Str->Option Value)))(Y':Nat->Option Int):V.Le {V with R:=R',Y:=Y'}/\Inv Z C {V with R:=R',Y:=Y'} J s:=by
 have le:V.Le {V with R:=R',Y:=Y'}:=⟨Nat.le_refl _,λO O=>rfl,λO O e=>e,λO e=>e,λO O e=>e,λO e=>(by rw[hR]at e;cases e),λk O e=>(by rw[hY k]at e;cases e),rfl⟩
 exact⟨le,I.go le (λO=>False) rfl (λb x e=>⟨x,e⟩) (λa o h=>.inl h) (λb x O e=>e) I.n (λk x h=>.inl ⟨h,id,id,id⟩) (.inl ⟨rfl,id⟩) (λO O=>id) (λO=>id) id (λi ks e=>.inl ⟨e,id⟩) I.X⟩
theorem EnvOk.forget(h:EnvOk C V c env):EnvOk C (Vf V) c env:=
 ⟨h.kind,h.loc,h.glob,h.bui,h.kinds,h.dbg,h.cld,h.sup,h.cells,h.frm,h.lam⟩
theorem R4(le:(Vf V).Le V')(hX:V'.X=V.X):V.Le {V' with R:=V.R,Y:=V.Y}:=
 ⟨le.n,le.ρ,le.own,λx e=>hX.trans e,le.tk,λO e=>e,λO O e=>e,le.S⟩
theorem AOk.hold2(h:AOk C A n):AOk ⟨C.L,Ex,C.frs,C.envs⟩ A n:=⟨h.depth,h.units,h.frames,h.fr⟩
theorem EnvOk.hold2(h:EnvOk C V c env):EnvOk ⟨C.L,Ex,C.frs,C.envs⟩ V c env:=
 ⟨h.kind,h.loc,h.glob,h.bui,h.kinds,h.dbg,h.cld,h.sup,h.cells,h.frm,h.lam⟩
end
end
end
section
set_option backward.match.sparseCases false
open PySem.SeqAt
section
variable{Z:Gd}{n:Nat}{C:Cf}{s:Shared}{A:Around}{env:Env}{c:Cx}{E:Value->Shared->Prop}
noncomputable abbrev Cf.exts(C:Cf)(Ex:List (Addr×Obj)):Cf:=⟨C.L,Ex,C.frs,C.envs⟩
theorem CM(hh:A.handled=none)(hf:∀v,foldedSetIterable e env v=pure v)(R:Nat->List (Addr×Obj)->Vl->St->Prop)(P:Array Value->Prop)(h0:wpAny Z.M A (eval e env) (λu s'=>∃T us ep V J,u= .ref T/\P us/\Inv Z (C.hold T (iI us ep)) V J s'/\R 0 [] V J) E s)(turn:∀{us ep T it o j u V J s ext} {E:Value->Shared->Prop},P us->us[j]?=some u->R j ext V J->Inv Z (C.exts ((it,o)::(T,iI us ep)::(ext++C.ext))) V J s->(∀p,p∈(T,iI us ep)::(ext++C.ext)->p.1≠it)->(∀p,p∈ext->∀q,q∈(it,o)::(T,iI us ep)::C.ext->p.1≠q.1)->
 wpAny Z.M A (PySem.assign (.Name x px) env u) (λO s2=>wpAny Z.M A (execs bd env) (λf s3=>match f with
 |.next=>∃ext' V J,R (j+1) ext' V J/\Inv Z (C.exts ((it,o)::(T,iI us ep)::(ext'++C.ext))) V J s3/\(∀p,p∈ext'->∀q,q∈(it,o)::(T,iI us ep)::C.ext->p.1≠q.1)
 |.ret u=>Q (.ret u) s3
 |_=>False) E s2) E s) (end_:∀{us V J s ext},P us->R us.size ext V J->Inv Z (C.exts (ext++C.ext)) V J s->(∀p,p∈ext->∀q,q∈C.ext->p.1≠q.1)->Q .next s):wpAny Z.M A (exec (.For (.Name x px) e bd [] p) env) Q E s:=by
 refine wpAny_For (wpAny_mono h0 (λu s' g0_=>?_) λO O x=>x) hf
 refine hold λG_ fin_=>?_
 obtain⟨T,us,ep,V,J,rfl,hP,I,r⟩:=g0_
 refine fin_ ?_
 obtain⟨l1,l2,l3⟩:=I.held
 refine wpAny_pyIter_list ⟨_,l3,rfl,ep,rfl⟩ ?_
 obtain⟨I2,he⟩:=eT I (o:={cls:=.type "list_iterator",data:=.fields #[.ref T,.int 0 0]}) rfl s'.toks
 have he0:∀p,p∈(T,iI us ep)::C.ext->p.1≠s'.heap.objs.size:=λp hp e=>by
  obtain⟨k,hk⟩:=List.mem_iff_getElem?.mp hp
  exact he k p.2 (by rw[hk,<-e])
 have I2:Inv Z (C.exts ((s'.heap.objs.size,{cls:=.type "list_iterator",data:=.fields #[.ref T,.int 0 0]})::(T,iI us ep)::([]++C.ext))) V J {s' with heap:=s'.heap.push {cls:=.type "list_iterator",data:=.fields #[.ref T,.int 0 0]},toks:=s'.toks}:=I2
 have he0':∀p,p∈(T,iI us ep)::([]++C.ext)->p.1≠s'.heap.objs.size:=he0
 have no:∀p:Addr×Obj,p∈([]:List (Addr×Obj))->∀q,q∈(T,iI us ep)::C.ext->p.1≠q.1:=λp hp=>by cases hp
 refine codeAny_forLoop_any (λm s=>∃j ext V J o,us.size+1≤m+j/\j≤us.size/\R j ext V J/\itO T j o/\Inv Z (C.exts ((s'.heap.objs.size,o)::(T,iI us ep)::(ext++C.ext))) V J s/\(∀p,p∈(T,iI us ep)::(ext++C.ext)->p.1≠s'.heap.objs.size)/\∀p,p∈ext->∀q,q∈(T,iI us ep)::C.ext->p.1≠q.1) (λm s hI=>?_) (us.size+1) ⟨0,[],V,J,_,Nat.le_refl _,Nat.zero_le _,r,⟨rfl,rfl⟩,I2,he0',no⟩
 refine hold λG_ fin_=>?_
 obtain⟨j,ext,V,J,o,hm,hj,r,⟨o1,o2⟩,I3,hne,sep⟩:=hI
 have I3':Inv Z ((C.exts ((T,iI us ep)::(ext++C.ext))).hold s'.heap.objs.size o) V J s:=I3
 obtain⟨k1,k2,k3⟩:=I3'.held
 have I3u:Inv Z ((C.exts (ext++C.ext)).hold T (iI us ep)) V J s:=I3'.unhold
 obtain⟨l1,l2,l3⟩:=I3u.held
 refine fin_ ?_
 have hl:s.heap.IsList T us:=⟨_,l3,rfl,ep,rfl⟩
 have he:∀(k:Nat) (o:Obj),((T,iI us ep)::(ext++C.ext))[k]?≠some (s'.heap.objs.size,o):=λk o e=>hne _ (List.mem_of_getElem? e) rfl
 by_cases hlt:j<us.size
 ·have hu:us[j]?=some us[j]:=Array.getElem?_eq_getElem hlt
  refine wpAny_pyNext_list_item (i:=j) (x:=us[j]) ⟨o,k3,o1,o2⟩ hl hu λh' hit' hs'=>?_
  obtain⟨o',f1,f2,f3⟩:=hit'
  have I4:Inv Z ((C.exts ((T,iI us ep)::(ext++C.ext))).hold s'.heap.objs.size o') V J {s with heap:=h',toks:=s.toks}:=
   (I3'.unhold.but (t:=s.toks) k1 k2 he λb x hb e=>(hs'.2 b hb).trans e).hold k1 k2 f1
  refine wpAny_pure ?_
  have sep':∀p,p∈ext->∀q,q∈(s'.heap.objs.size,o')::(T,iI us ep)::C.ext->p.1≠q.1:=λp hp q hq=>by
   cases hq with
   |head=>exact hne p (.tail _ (List.mem_append_left _ hp))
   |tail _ hq=>exact sep p hp q hq
  refine wpAny_mono (turn hP hu r I4 hne sep') (λO s2 h2=>wpAny_mono h2 (λf s3 h3=>?_) λO O x=>x) λO O x=>x
  induction f with
  |next=>
   refine hold λG_ fin_=>?_
   obtain⟨ext5,V5,J5,r5,I5,sep5⟩:=h3
   refine fin_ ?_
   have hc:((j:Int)+1)=((j+1:Nat):Int):=by exact rfl
   refine⟨m-1,by exact aIz hm hlt,j+1,ext5,V5,J5,o',by exact aIA hm,by exact hlt,r5,⟨f2,by rw[f3]⟩,I5,λp hp=>?_,λp hp q hq=>sep5 p hp q (.tail _ hq)⟩
   cases hp with
   |head=>exact hne _ (.head _)
   |tail _ hp=>
    rcases List.mem_append.mp hp with hp|hp
    ·exact sep5 p hp _ (.head _)
    ·exact hne p (.tail _ (List.mem_append_right _ hp))
  |ret u=>exact h3
  |_=>exact h3.elim
 ·obtain rfl:j=us.size:=by exact Nat.le_antisymm hj (Nat.not_lt.mp hlt)
  refine wpAny_pyNext_list_end (i:=us.size) hh ⟨o,k3,o1,o2⟩ hl (Array.getElem?_eq_none (Nat.le_refl _)) λh' hx=>?_
  have I4:Inv Z (C.exts ((T,iI us ep)::(ext++C.ext))) V J {s with heap:=h',toks:=s.toks}:=I3'.unhold.but (t:=s.toks) k1 k2 he λb x hb e=>hx b x hb e
  have I4':Inv Z ((C.exts (ext++C.ext)).hold T (iI us ep)) V J {s with heap:=h',toks:=s.toks}:=I4
  exact wpAny_pure (end_ hP r I4'.unhold λp hp q hq=>sep p hp q (.tail _ hq))
end
end
section
set_option backward.match.sparseCases false
open PySem.SeqAt
noncomputable section
theorem hU:∀(us:List (List Nat)) (j:Nat),bJ us=bJ (us.take j)++bJ (us.drop j)
 | [],j=>by induction j<;>rfl
 |u::us,0=>rfl
 |u::us,j+1=>by
  show u++bJ us=(u++bJ (us.take j))++bJ (us.drop j)
  rw[hU us j,List.append_assoc]
noncomputable def sV:List (List Nat)->Bool
 | []=>true
 |u::us=>((bJ (u::us)).all λx=>u.all λy=>aP (aQ x) y)&&sV us
theorem CN{M:MM}(dep:∀id,(M id).isSome=true->∀x,x∈aQ id->(M x).isSome=true):∀{us:List (List Nat)},sV us=true->∃j,j≤us.length/\(∀id,id∈bJ (us.take j)->(M id).isSome=true)/\∀id,id∈bJ (us.drop j)->M id=none:=by
 intro us
 induction us with
 |nil=>
  intro O
  exact⟨0,Nat.le_refl _,(λO h=>(List.not_mem_nil h).elim),(λO h=>(List.not_mem_nil h).elim)⟩
 |cons u us rec_=>
  intro h
  obtain⟨h1,h2⟩:=Bool.and_eq_true_iff.mp (show(((bJ (u::us)).all λx=>u.all λy=>aP (aQ x) y)&&sV us)=true from h)
  by_cases q:∀y,y∈u->(M y).isSome=true
  ·obtain⟨j,j1,j2,j3⟩:=rec_ h2
   refine⟨j+1,Nat.succ_le_succ j1,λid hi=>?_,j3⟩
   rcases List.mem_append.mp (show id∈u++bJ (us.take j)from hi)with hi|hi
   ·exact q id hi
   ·exact j2 id hi
  ·refine⟨0,Nat.zero_le _,(λO h=>(List.not_mem_nil h).elim),λid hi=>?_⟩
   induction e:M id with
   |none=>rfl
   |some x=>
    exact absurd (λy hy=>dep id (by rw[e];rfl) y (jW (List.all_eq_true.mp (List.all_eq_true.mp h1 id hi) y hy))) q
def jX(m:List Nat):Bool:=gK m&&(m.all λid=>(aQ id).all λy=>aP m y)&&Nat.ble m.length 20
def AK(us:List (List Nat)):Bool:=sV us&&((List.range (us.length+1)).all λj=>jX (bJ (us.take j)))&&((bJ us).all λid=>Nat.blt id 30)
theorem CO:(rowTab.all λr=>AK r.2)=true:=by kernel_rfl
theorem yK:rowTab.map (·.1)=rowsL:=by kernel_rfl
theorem sW(h:gK l=true):l.Nodup:=by
 induction l with
 |nil=>exact List.nodup_nil
 |cons a l ih=>
  obtain⟨q,h⟩:=aB (b:= !(aP l a)) (x:=gK l) h
  exact List.nodup_cons.mpr ⟨λhm=>(by rw[u9 hm]at q;exact ff q),ih h⟩
theorem fN(h:jX m=true):m.Nodup/\(∀id,id∈m->∀y,y∈aQ id->y∈m)/\m.length≤20:=by
 unfold jX at h
 obtain⟨h,h3⟩:=Bool.and_eq_true_iff.mp h
 obtain⟨h1,h2⟩:=Bool.and_eq_true_iff.mp h
 exact⟨sW h1,λid hi y hy=>jW (List.all_eq_true.mp (List.all_eq_true.mp h2 id hi) y hy),Nat.le_of_ble_eq_true h3⟩
noncomputable def Lj:Nat->List (Nm×SV)
 |0=>[(nm "world",.ref 4)]
 |_+1=>cZ
noncomputable def R5:Nat->Bool
 |0=>false
 |_+1=>true
theorem CP(N:Int)(j:Nat)(t:Nm)(k:St->Bool):dP vV (aA (Str.ofString "row")) (.str t) (JB N (Lj j)) k=k (JB N (Lr (R5 j) t)):=by
 induction j using Nat.casesOn with
 |zero=>kernel_rfl
 |succ j=>kernel_rfl
structure R6(V0:Vl)(j:Nat)(ext:List (Addr×Obj))(V:Vl)(J:St):Prop where
 le:V0.Le V
 n:V.n=60
 X:V.X=none
 Y:∀k,V.Y k=none
 M:∃M N B r,Bd V M ext/\AC M r/\V.R=some (B,r)/\6≤N/\N≤6+14*(j:Int)/\B≤10*j/\J=JB N (Lj j)/\(j=0->∀id,M id=none)
section
variable{Z:Gd}(G:aU Z)
include G in
theorem H4{C C0:Cf}{V0 V:Vl}{J0 J:St}{t s:Shared}(I0:Inv Z C0 V0 J0 t)(c2:C0.L=C.L)(c4:C0.frs=C.frs)(v0n:V0.n=60)(v0R:V0.R=none)(v0X:V0.X=none)(v0Y:∀k,V0.Y k=none)
 {A:Around} {env:Env} {m:Nat} (ao:AOk C A m) (hm:380≤m) (en:EnvOk C V0 vV env) (hh:A.handled=none) {j:Nat} (hj:j<4) {ext Ce:List (Addr×Obj)} {u:Value} (hu:∃n tt,n∈rowsL/\u= .str (tx n) tt) (r:R6 V0 j ext V J)
 (I:Inv Z (C.exts (ext++Ce)) V J s) (sep:∀p,p∈ext->∀q,q∈Ce->p.1≠q.1) {px:Pos} {E:Value->Shared->Prop} {Q:Value->Shared->Prop}:
 wpAny Z.M A (PySem.assign (.Name (Str.ofString "row") px) env u) (λO s2=>wpAny Z.M A (execs sP env) (λf s3=>match f with
  |.next=>∃ext' V J,R6 V0 (j+1) ext' V J/\Inv Z (C.exts (ext'++Ce)) V J s3/\∀p,p∈ext'->∀q,q∈Ce->p.1≠q.1
  |.ret u=>Q u s3
  |_=>False) E s2) E s:=by
 refine hold λG_ fin_=>?_
 obtain⟨n,tt,hn,rfl⟩:=hu
 obtain⟨le,vn,vX,vY,M,N,B,r',bd,rs,vR,n1,n2,hB,rfl,hz⟩:=r
 rw[<-yK]at hn
 obtain⟨⟨n',us⟩,hr,rfl⟩:=List.mem_map.mp hn
 refine fin_ ?_
 have en':EnvOk (C.exts (ext++Ce)) V vV env:=(en.mono le).hold2
 have ao':AOk (C.exts (ext++Ce)) A 380:=(ao.le hm).hold2
 refine f8 I en' (v:=.str n') (k:=λJ=>x7 (J=JB N (Lr (R5 j) n'))) (.str n' tt) (by rw[CP];exact gJ rfl) λJ5 s5 h5 I5=>?_
 refine hold λG_ fin_=>?_
 obtain rfl:=eY h5
 have good:=List.all_eq_true.mp CO _ hr
 obtain⟨good,g3⟩:=Bool.and_eq_true_iff.mp (good:AK us=true)
 obtain⟨g1,g2⟩:=Bool.and_eq_true_iff.mp good
 obtain⟨r1,r2⟩:=RQ _ hr
 have EO:∃i,i≤us.length/\(∀id,id∈bJ (us.take i)->(M id).isSome=true)/\(∀id,id∈bJ (us.drop i)->M id=none)/\aC (R5 j) n' us i=true:=by
  induction j using Nat.casesOn with
  |zero=>exact⟨0,Nat.zero_le _,(λO h=>(List.not_mem_nil h).elim),λid O=>hz rfl id,r2⟩
  |succ j=>
   obtain⟨i,i1,i2,i3⟩:=CN bd.dep g1
   exact⟨i,i1,i2,i3,r1 i i1⟩
 obtain⟨i,i1,i2,i3,hrun⟩:=EO
 obtain⟨m1,m2,m3⟩:=fN (List.all_eq_true.mp g2 i (List.mem_range.mpr (Nat.lt_succ_of_le i1)))
 obtain⟨k1,k2,k3⟩:=fN (List.all_eq_true.mp g2 us.length (List.mem_range.mpr (Nat.lt_succ_self _)))
 rw[List.take_length]at k1 k2 k3
 have W:kS (C.exts (ext++Ce)) V M ext N B r' (bJ (us.take i)):=⟨λp hp=>List.mem_append_left _ hp,bd,n1,by exact aJb hj n2,vn,vX,vY,vR,rs,i2,m1,m2,m3⟩
 obtain⟨T,Y,hK,leY,IL⟩:=load (Lr (R5 j) n') W I5 (ab:=bH (bJ (us.drop i))) (λn hn=>by
  obtain⟨id,q1,q2,q3⟩:=fM (kT hn)
  rw[<-q3]
  exact rs.not id (Nat.lt_of_succ_le (Nat.le_of_ble_eq_true (List.all_eq_true.mp g3 id (by rw[hU us i];exact List.mem_append_right _ q1)))) q2 (i3 id q1)) hrun
 refine fin_ ?_
 refine(bV G 380).snd.exs (k:=sS (bJ us) (bJ (us.take i))) (kx:=dN) hK IL (ao.le hm).hold2 (((en.mono le).mono leY).hold2) (.inl hh) ⟨λJ' V' s' h le' I'=>?_,λv u J' V' s' h=>(by exact ff h)⟩ λx u J' V' s' h=>by exact ff h
 refine hold λG_ fin_=>?_
 obtain⟨M',ext',N',r2',b1,b2,b3,b4,b5,b6⟩:=aCW (C0:=C0) (C:=C.exts (ext++Ce)) I0 v0n v0R le c2 c4 W I5 le' I' h (λid hi=>by rw[hU us i];exact List.mem_append_left _ hi) k1
  (λid hi=>Nat.lt_of_succ_le (Nat.le_of_ble_eq_true (List.all_eq_true.mp g3 id hi))) k2 (λid hi hn=>by rw[hU us i]at hi;exact i3 id ((List.mem_append.mp hi).resolve_left hn)) (Ce:=Ce) (λp hp=>List.mem_append_right _ hp) sep (aJc hj hB)
 refine fin_ ?_
 have le2:V0.Le (V'.cut V0 60 (some (B+10,r2'))):=by
  have leA:V0.Le V':=⟨by rw[v0n,<-vn];exact Nat.le_trans leY.n le'.n,λq hq=>by rw[le'.ρ q (Nat.lt_of_lt_of_le (by rw[vn,<-v0n];exact hq) leY.n),leY.ρ q (by rw[vn,<-v0n];exact hq),le.ρ q hq],λa o e=>le'.own _ _ (leY.own _ _ (le.own _ _ e)),λx e=>(by rw[v0X]at e;exact fo e),λq ks e=>le'.tk _ _ (leY.tk _ _ (le.tk _ _ e)),λq e=>(by rw[v0R]at e;exact fo e),λq z e=>(by rw[v0Y q]at e;exact fo e),le'.S.trans (leY.S.trans le.S)⟩
  exact eL leA (by rw[v0n];exact Nat.le_refl _) λq e=>(by rw[v0R]at e;exact fo e)
 refine⟨ext',_,JB N' cZ,⟨le2,rfl,v0X,v0Y,M',N',B+10,r2',b1,b2,rfl,b3,by push_cast;exact aJd n2 b4,by exact Nat.add_le_add_right hB 10,rfl,λe=>absurd e (Nat.succ_ne_zero j)⟩,b6 (C.exts (ext'++Ce)) rfl rfl λp hp=>List.mem_append.mp hp,b5⟩
end
end
end
section
set_option backward.match.sparseCases false
noncomputable section
noncomputable def T60:PT:=(((iU .box).set? (.cell (some (.ref 1))) 58).getD .nil |>.set? (.cell none) 59).getD .nil
noncomputable def II:List (Nm×SV):=[(nm "world",.ref 4)]
noncomputable def ihC:Nat->Ih
 |0=>Mine.wEv RI aAV (run 380)
 |j+1=>Mine.wEv RI aAV (step (ihC j))
noncomputable def itB:Expr:=match bS 8 with|.For _ it _ _ _=>it|_=>oB
def H5(l m:List Nm):Bool:=x5 cC l m
def AL(v:SV):Bool:=match v with|.one l=>H5 l rowsL|_=>false
def H6(o:Option SObj):Bool:=h9 o λxs=>Nat.beq (bA xs) 4&&bG AL xs
def oO(o:Option SObj):Bool:=some? o (u8 λO=>true)
def AM:KK:=λr J=>match r with
 |.val v=>lL v λi=>H6 (J.T.get i)&&Nat.ble 60 i&&AA J.T&&sQ (J.T.get 4) (.inst 715 (lH (.int 6)))&&sQ (J.T.get 7) G8&&sQ (J.T.get 58) (.cell (some (.ref 1)))&&(oO (J.T.get 59)&&TK J.L II)
 |_=>false
def aCX:KK:=λr J=>match r with|.next=>ihC 3 (.ev itB vV) J AM dN|_=>false
theorem R7:run 380 (.exs (bBody.take 8) vV) ⟨T60,60,II,false⟩ aCX dN=aI (oB=oB/\cxC=cxC) (aI (oB=oB/\cxC=cxC) (aI (oB=oB/\cxC=cxC) (aI (oB=oB/\cxC=cxC) true))):=by kernel_rfl
theorem bS8:bS 8= .For (.Name (Str.ofString "row") (po 689 8 11)) itB sP [] ⟨689,4,695,24⟩:=by kernel_rfl
theorem H7:bBody=bBody.take 8++bS 8::bBody.drop 9:=by kernel_rfl
theorem aCY:∃e gs sc p,itB= .ListComp e gs sc p:=by
 have h:(match itB with|.ListComp .. =>true|_=>false)=true:=by kernel_rfl
 generalize itB=e at h
 induction e using PySem.Expr.casesOn with
 |ListComp e gs sc p=>exact⟨_,_,_,_,rfl⟩
 |_=>exact ff h
noncomputable def LbE:List (Nm×SV):=[(nm "world",.any),(nm "row",.any),(nm "first",.any),(nm "last",.any),(nm "found",.any),(nm "mixed",.any),(nm "ring",.any)]
def yL:KK:=λr J=>match r with
 |.ret v=>jS v (.bool true)&&sQ (J.T.get 0) (.cell (some (.ref 1)))&&sQ (J.T.get 1) .box&&o7 J.L LbE
 |_=>false
def kU(mem:List Nat)(ab:List Nm):Bool:=
 iT (cW (.lin 6) (mad0++bK (cG mem) mem) ab++hO (cG mem) mem 60) (iU .box) λT=>Mine.run 380 (.exs (bBody.drop 9) vV) ⟨T,60+mem.length,cZ,false⟩ yL dN
noncomputable def abO:List Nm:=[nm "String",nm "Symbol",nm "Array",nm "Range"]
theorem aPY:kU [] (bH [0,1,2,3,4,5]++abO)=true:=by kernel_rfl
theorem aPZ:kU [0,1,2] (bH [3,4,5]++abO)=true:=by kernel_rfl
theorem aQa:kU [3,4,5] (bH [0,1,2]++abO)=true:=by kernel_rfl
theorem aQb:kU [0,1,2,3,4,5] ([]++abO)=true:=by kernel_rfl
def ihG:Ih:=λt J k O=>match t with|.exs _ c=>aI (c=vV/\J=⟨T60,60,II,true⟩) (k (.ret (.bool true)) ⟨T2,60,LbE,true⟩)|_=>false
theorem CQ(k:KK):callFn ihG (cS 793) (tD 61) [] [.ref 1,.ref 4] ⟨iU .box,58,Lw 5,true⟩ k dN=aI (vV=vV/\(⟨T60,60,II,true⟩:St)=⟨T60,60,II,true⟩) (k (.val (.bool true)) ⟨T2,60,Lw 5,true⟩):=by kernel_rfl
end
end
section
set_option backward.match.sparseCases false
open PySem.SeqAt
noncomputable section
theorem sX(env:Env):∀(a b:List Stmt),execs (a++b) env=(execs a env >>= λf=>match f with|.next=>execs b env|f=>pure f):=by
 intro a
 induction a with
 |nil=>
  intro b
  rw[List.nil_append];exact(pure_bind (m:=Sem) Flow.next λf=>match f with|.next=>execs b env|f=>pure f).symm
 |cons st rest rec_=>
  intro b
  rw[List.cons_append,execs_cons,execs_cons,bind_assoc]
  congr 1
  funext f
  induction f with
  |next=>exact rec_ b
  |_=>exact(pure_bind _ _).symm
theorem R8:(T60.idx.all λj=>match T60.get j with|some o=>u6 60 o|none=>true)=true:=by kernel_rfl
theorem H8(h:H5 l m=true):l=m:=jU (λO O h=>bB h) h
def R9(u:Value):Prop:=∃n tt,n∈rowsL/\u= .str (tx n) tt
theorem H9(h:AL v=true)(r:VR V v u):R9 u:=by
 induction r with
 |one l n t hn=>
  have:=H8 (h:H5 l rowsL=true)
  subst this
  exact⟨n,t,hn,rfl⟩
 |_=>exact ff h
theorem vQ(h:H6 o=true):∃xs,o=some (.list xs)/\xs.length=4/\∀x,x∈xs->AL x=true:=by
 obtain⟨xs,rfl,h⟩:=c9 h
 exact⟨xs,rfl,by rw[<-aT];exact Nat.eq_of_beq_eq_true (aM h).1,λx hx=>a8 (aM h).2 x hx⟩
theorem SA(r:VRs V xs us):(∀x,x∈xs->AL x=true)->∀u,u∈us->R9 u:=by
 refine r.ind (λO u hu=>absurd hu List.not_mem_nil) λx xs y us r O ih h u hu=>?_
 rcases List.mem_cons.mp hu with rfl|hu
 ·exact H9 (h x (.head _)) r
 ·exact ih (λz hz=>h z (.tail _ hz)) u hu
theorem lU(h:oO o=true):∃v,o=some (.cell (some v)):=by
 obtain⟨o,rfl,h⟩:=some?_eq h
 obtain⟨v,rfl,_⟩:=jV h
 exact⟨v,rfl⟩
theorem IA(n:Nm):∀l:List (Nm×SV),cR (l.map λp=>(SV.str p.1,p.2)) n=aD l n:=by
 intro l
 induction l with
 |nil=>
  exact rfl
 |cons p l rec_=>
  have rc:=rec_
  rw[aH]
  show Bool.rec (motive:=λO=>Option SV) (cR (l.map λp=>(SV.str p.1,p.2)) n) (some p.2) (cC p.1 n)=_
  rw[cV];by_cases q:p.1=n<;>simp[q,rc]
theorem IB:G8= .dict (mad0.map λp=>(SV.str p.1,p.2)):=rfl
section
variable{Z:Gd}(G:aU Z)
include G in
theorem IC:∀j,Full Z (380+j) (ihC j)
 |0=>(bV G 380).wEv z8 (z9 G (by decide))
 |j+1=>((IC j).step G).wEv z8 (z9 G (Nat.le_add_left 1 _))
theorem Inv.exts2{C:Cf}{V:Vl}{J:St}{s:Shared}{Ex Ex':List (Addr×Obj)}(h:∀p,p∈Ex'->p∈Ex)(I:Inv Z (C.exts Ex) V J s):Inv Z (C.exts Ex') V J s:=
 ⟨I.base,I.tab,I.own,I.n,I.T,I.L,I.frs,λk a o e=>I.extAt (h _ (List.mem_of_getElem? e)),I.tk,I.X,I.tabLo,I.sm,I.sc,I.tg⟩
theorem yM(I0:Inv Z C V0 J0 t)(v0n:V0.n=60)(v0R:V0.R=none)(v0X:V0.X=none)(v0Y:∀k,V0.Y k=none)(le:V0.Le V)(I:Inv Z C V J s)(h:AM (.val (.ref i)) J=true):
 ∃us ep V',(us.size=4/\∀u,u∈us.toList->R9 u)/\Inv Z (C.hold (V.ρ i) (iI us ep)) V' (JB 6 II) s/\R6 V0 0 [] V' (JB 6 II):=by
 obtain⟨⟨⟨⟨⟨⟨h1,h2⟩,h3⟩,h4⟩,h5⟩,h6⟩,h78⟩:=PH h
 obtain⟨h7,h8⟩:=aM h78
 refine hold λG_ fin_=>?_
 obtain⟨xs,hx,xl,x1⟩:=vQ h1
 obtain⟨t1,t2,_,us,ep,g1,g2⟩:=I.T i _ hx
 have h2:=Nat.le_of_ble_eq_true h2
 have h4:=eF h4
 have h5:=eF h5
 have h6:=eF h6
 obtain⟨v59,h7⟩:=lU h7
 have h8:=kO h8
 obtain⟨d1,d2,d3⟩:=I.T 7 _ h5
 rw[IB]at d3
 obtain⟨kvs,e1,e2⟩:=l8 d3 λp es' e=>by cases e;exact⟨_,rfl⟩
 refine fin_ ?_
 have at_:∀n,match aD mad0 n with|some v=>∃u,valueAt kvs (tx n)=some u/\VR V v u|none=>valueAt kvs (tx n)=none:=λn=>by
  have:=e1.at n
  rwa [IA]at this
 have kl:kvs.length=5:=by rw[<-e1.length];rfl
 refine⟨us,ep,V.cut V0 60 (some (0,λx=>valueAt kvs x)),⟨?_,SA g2 x1⟩,?_,eL le (by rw[v0n];exact Nat.le_refl _) λq e=>(by rw[v0R]at e;exact fo e),rfl,v0X,v0Y,λO=>none,6,0,λx=>valueAt kvs x,⟨nofun,nofun,nofun⟩,⟨nofun,λid hi hm O=>?_,λn hn=>?_⟩,rfl,by decide,by decide,by decide,rfl,λO O=>rfl⟩
 ·have:=g2.length
  rw[xl]at this
  simpa using this.symm
 ·refine Inv.cut (lv:=60) I0 le (by rw[v0n];exact Nat.le_refl _) I rfl (λj o' hj=>?_) (by rw[h8];exact fK rfl) rfl rfl rfl rfl (λk a o he=>?_) nofun λq e=>by rw[v0R]at e;exact fo e
  ·have hj:oG (cW (.int 6) mad0 []) (iU .box).get j=some o':=(oH _ _).symm.trans hj
   change(if j=59 then some (SObj.cell (some .any))else if j=58 then some (.cell (some (.ref 1)))else if j=7 then some (.mdict mad0 [])else if j=4 then some (.inst 715 (lH (.int 6)))else(iU .box).get j)=some o' at hj
   by_cases q59:j=59
   ·rw[if_pos q59]at hj;obtain rfl:=Option.some.inj hj;subst q59
    exact⟨by decide,.inl ⟨⟨_,h7,.inr (.inr ⟨rfl,v59,rfl⟩)⟩,rfl⟩⟩
   rw[if_neg q59]at hj
   by_cases q58:j=58
   ·rw[if_pos q58]at hj;obtain rfl:=Option.some.inj hj;subst q58
    exact⟨by decide,.inl ⟨⟨_,h6,.inl rfl⟩,rfl⟩⟩
   rw[if_neg q58]at hj
   by_cases q7:j=7
   ·rw[if_pos q7]at hj;obtain rfl:=Option.some.inj hj;subst q7
    refine⟨by decide,.inr ⟨d2,by decide,kvs,0,λx=>valueAt kvs x,e2,by rw[kl];decide,by decide,rfl,λn=>?_,nofun⟩⟩
    have hn:=at_ n
    induction e5:aD mad0 n with
    |none=>rfl
    |some v=>
     rw[e5]at hn
     refine hold λG_ fin_=>?_
     obtain⟨u,u1,u2⟩:=hn
     obtain⟨p,p1,rfl⟩:=hG e5
     refine fin_ ?_
     exact⟨u,u1,u2.cut (List.all_eq_true.mp (show(mad0.all λp=>gH 60 p.2)=true from rfl) p p1)⟩
   rw[if_neg q7]at hj
   by_cases q4:j=4
   ·rw[if_pos q4]at hj;obtain rfl:=Option.some.inj hj;subst q4
    exact⟨by decide,.inl ⟨⟨_,h4,.inl rfl⟩,rfl⟩⟩
   rw[if_neg q4]at hj
   exact⟨Nat.lt_of_lt_of_le (oE hj) (by decide),.inl ⟨⟨_,vG h3 q4 q7 hj,.inl rfl⟩,oM q4 q7 hj⟩⟩
  ·induction k using Nat.casesOn with
   |zero=>cases he;exact⟨qN le (.inl t2) h2 (λo e=>I0.tg _ o e) (by rw[v0n];exact Nat.le_refl _),(I.own _ _ t2).1,g1⟩
   |succ k=>obtain⟨y1,y2⟩:=I.ext k a o he;exact⟨dY le y1,y2⟩
 ·have hn:=at_ (fS id)
  rw[sU hi hm]at hn
  exact hn
 ·have hn2:=at_ n
  have key:=List.all_eq_true.mp AI n hn
  obtain⟨k1,_⟩:=Bool.and_eq_true_iff.mp key
  have k1:aD mad0 n=none:=by
   induction e:aD mad0 n with
   |none=>rfl
   |some v=>rw[e]at k1;exact ff k1
  rw[k1]at hn2
  exact hn2
end
end
end
section
set_option backward.match.sparseCases false
open PySem.SeqAt
noncomputable section
theorem SB(h:T60.get j=some o):u6 60 o=true:=by
 have:=List.all_eq_true.mp R8 j (PT.mem_idx h)
 rw[h]at this;exact this
section
variable{Z:Gd}(G:aU Z)
theorem ID{C:Cf}{V:Vl}{M:MM}{ext:List (Addr×Obj)}{N:Int}{B:Nat}{r:Str->Option Value}{mem:List Nat}{J:St}{s:Shared}(W:kS C V M ext N B r mem)(Ib:Inv Z C V J s){Y:Nat->Option Int}{Ce:List (Addr×Obj)}(hCe:∀p,p∈Ce->p∈C.ext)(sep:∀p,p∈ext->∀q,q∈Ce->p.1≠q.1):
 ∀q,q∈Ce->fQ (lI V M Y (N-6) mem) q=true:=λq hq=>by
 unfold fQ
 have hv:V.own q.1=none:=(Ib.extAt (hCe q hq)).1
 have:(lI V M Y (N-6) mem).own q.1=none:=by
  show(match V.own q.1 with|some o=>some o|none=>aW M mem 60 q.1)=none
  rw[hv]
  show aW M mem 60 q.1=none
  induction e:aW M mem 60 q.1 with
  |none=>rfl
  |some o=>
   obtain⟨k,id',a',d',h1,h2,h3⟩:=dD e
   exfalso
   obtain⟨_,hat⟩:=W.bd.at_ id' a' d' h2
   unfold ThAt at hat
   induction e2:lG id' with
   |inst K fs=>
    rw[e2]at hat
    refine hold λG_ fin_=>?_
    obtain⟨z,ob,m,i1,i2,_⟩:=hat
    refine fin_ ?_
    rcases h3 with⟨z2,_⟩|⟨z2,_⟩
    ·exact sep _ i1 q hq z2.symm
    ·exact sep _ i2 q hq z2.symm
   |list xs=>
    rw[e2]at hat
    refine hold λG_ fin_=>?_
    obtain⟨rfl,us,ep,i1,_⟩:=hat
    refine fin_ ?_
    rcases h3 with⟨z2,_⟩|⟨z2,_⟩
    ·exact sep _ i1 q hq z2.symm
    ·exact sep _ i1 q hq z2.symm
   |_=>rw[e2]at hat;exact hat.elim
 rw[this];rfl
include G in
theorem CR{ss:List Stmt}(hss:ss=bBody.drop 9){C:Cf}{V0 V:Vl}{J0:St}{t s:Shared}(I0:Inv Z C V0 J0 t)(v0n:V0.n=60)(v0R:V0.R=none)(v0X:V0.X=none){A:Around}{env:Env}{m:Nat}(ao:AOk C A m)(hm:380≤m)(en:EnvOk C V0 vV env)(hh:A.handled=none)
 {ext:List (Addr×Obj)} {N:Int} {B:Nat} {r:Str->Option Value} {M:MM} {mem:List Nat} (le0:V0.Le V) (W:kS (C.exts (ext++C.ext)) V M ext N B r mem) (I:Inv Z (C.exts (ext++C.ext)) V (JB N cZ) s) (sep:∀p,p∈ext->∀q,q∈C.ext->p.1≠q.1)
 {ab:List Nm} (hab:∀n,iB ab n=true->r (tx n)=none) (hrun:kU mem ab=true) {E:Value->Shared->Prop} {Q:Flow->Shared->Prop}
 (q:∀V' s',V0.Le V'->Inv Z C V' ⟨T2,60,LbE,true⟩ s'->V'.R=none->(∀k,V'.Y k=V0.Y k)->V'.X=none->Q (.ret (.bool true)) s'):wpAny Z.M A (execs ss env) Q E s:=by
 refine hold λG_ fin_=>?_
 obtain⟨T,Y,hK,leY,IL⟩:=load cZ W I hab hrun
 refine fin_ ?_
 have hK':run 380 (.exs (bBody.drop 9) vV) ⟨T,60+mem.length,cZ,false⟩ yL dN=true:=hK
 clear hK
 rw[<-hss]at hK'
 refine(bV G 380).snd.exs (k:=yL) (kx:=dN) hK' IL (ao.le hm).hold2 (((en.mono le0).mono leY).hold2) (.inl hh) ⟨λJ' V' s' h=>(by exact ff h),λv u J' V' s' h le' I' r=>?_⟩ λx u J' V' s' h=>by exact ff h
 obtain⟨⟨⟨h1,h2⟩,h3⟩,h4⟩:=tH h
 obtain rfl:=bO h1
 have h2:=eF h2
 have h3:=eF h3
 have le:=(le0.trans leY).trans le'
 cases r with
 |bool _=>
  refine q (V'.cut V0 60) s' (eL le (by rw[v0n];exact Nat.le_refl _)) ?_ v0R (λO=>rfl) v0X
  refine Inv.cut (lv:=60) I0 le (by rw[v0n];exact Nat.le_refl _) I' rfl (λj o' hj=>?_) (qM h4 λp hp=>?_) rfl rfl rfl rfl (λk a o he=>?_) λO=>v0X
  ·rcases n6 hj with⟨rfl,rfl⟩|⟨rfl,rfl⟩
   ·exact⟨by decide,.inl ⟨⟨_,h2,.inl rfl⟩,rfl⟩⟩
   ·exact⟨by decide,.inl ⟨⟨_,h3,.inl rfl⟩,rfl⟩⟩
  ·have key:(LbE.all λp=>match p.2 with|.any=>true|_=>false)=true:=rfl
   have:=List.all_eq_true.mp key p hp
   left
   induction e:p.2 with
   |any=>rfl
   |_=>rw[e]at this;exact ff this
  ·have hs:=ID (Y:=Y) W I (Ce:=C.ext) (λp hp=>List.mem_append_right _ hp) sep _ (List.mem_of_getElem? he)
   obtain⟨y1,y2⟩:=I'.extAt (List.mem_filter.mpr ⟨List.mem_append_right _ (List.mem_of_getElem? he),hs⟩)
   exact⟨dY le y1,y2⟩
theorem IE{M:MM}{V:Vl}{ext:List (Addr×Obj)}(bd:Bd V M ext){u:List Nat}(hd:(u.all λx=>u.all λy=>aP (aQ x) y)=true){a:Nat}(ha:a∈u):(∀y,y∈u->(M y).isSome=true)∨∀y,y∈u->M y=none:=by
 have k:∀x,x∈u->∀y,y∈u->(M x).isSome=true->(M y).isSome=true:=λx hx y hy h=>bd.dep x h y (jW (List.all_eq_true.mp (List.all_eq_true.mp hd x hx) y hy))
 induction e:M a with
 |some p=>exact .inl λy hy=>k a ha y hy (by rw[e];rfl)
 |none=>
  refine .inr λy hy=>?_
  induction e2:M y with
  |none=>rfl
  |some p=>have:=k y hy a ha (by rw[e2];rfl);rw[e]at this;exact ff this
theorem SD(rs:AC M r)(hl:∀id,id∈l->id<30/\M id=none)(h:iB (bH l++abO) n=true):r (tx n)=none:=by
 rcases List.mem_append.mp (kT h)with h|h
 ·obtain⟨id,q1,q2,q3⟩:=fM h
  rw[<-q3];exact rs.not id (hl id q1).1 q2 (hl id q1).2
 ·exact rs.oth n h
include G in
theorem yN{C:Cf}{V:Vl}{s:Shared}{A:Around}{env:Env}{m:Nat}(I:Inv Z C V ⟨T60,60,II,true⟩ s)(ao:AOk C A m)(hm:383≤m)(en:EnvOk C V vV env)(hh:A.handled=none){E:Value->Shared->Prop}{Q:Flow->Shared->Prop}
 (q:∀V' s',V.Le V'->Inv Z C V' ⟨T2,60,LbE,true⟩ s'->Q (.ret (.bool true)) s'):wpAny Z.M A (execs bBody env) Q E s:=by
 have vn:V.n=60:=I.n.symm
 have vX:V.X=none:=I.X.1 rfl
 have I0:=I.forget (λj o h=>by rw[vn];exact SB h) (by rw[vn];exact fK rfl)
 have en0:=en.forget
 have q0:∀V' s',(Vf V).Le V'->Inv Z C V' ⟨T2,60,LbE,true⟩ s'->V'.R=none->(∀k,V'.Y k=(Vf V).Y k)->V'.X=none->Q (.ret (.bool true)) s':=λV' s' le I' hR hY hX=>by
  obtain⟨_,I2⟩:=I'.raise hR (λk=>hY k) V.R V.Y
  exact q _ _ (R4 le (hX.trans vX.symm)) I2
 have v0n:(Vf V).n=60:=vn
 have v0R:(Vf V).R=none:=rfl
 have v0X:(Vf V).X=none:=vX
 have v0Y:∀k,(Vf V).Y k=none:=λO=>rfl
 generalize Vf V=V0 at I0 en0 q0 v0n v0R v0X v0Y
 rw[H7,sX]
 have pr:run 380 (.exs (bBody.take 8) vV) ⟨T60,60,II,false⟩ aCX dN=true:=by rw[R7,aG ⟨rfl,rfl⟩,aG ⟨rfl,rfl⟩,aG ⟨rfl,rfl⟩,aG ⟨rfl,rfl⟩]
 generalize hss:bBody.drop 9=ss
 generalize bBody.take 8=sp at pr⊢
 refine wpAny_bind ((bV G 380).snd.exs (k:=aCX) (kx:=dN) pr I0.syOff (ao.le (Nat.le_of_add_left_le hm)) en0 (.inl hh) ⟨λJ1 V1 s1 h le1 I1=>?_,λv u J' V' s' h=>(by exact ff h)⟩ λx u J' V' s' h=>by exact ff h)
 have h:ihC 3 (.ev itB vV) J1 AM dN=true:=h
 show wpAny _ _ (execs (bS 8::ss) env) _ _ s1
 rw[execs_cons,bS8]
 refine wpAny_bind (CM (C:=C) hh (λv=>by obtain⟨e,gs,sc,p,h⟩:=aCY;rw[h];rfl) (λj ext V J=>R6 V0 j ext V J) (λus=>us.size=4/\∀u,u∈us.toList->R9 u) ?_ ?_ ?_)
 ·refine(IC G 3).snd.ev (k:=AM) (kx:=dN) h I1 (ao.le hm) (en0.mono le1) (.inl hh) (λv u J2 V2 s2 h2 le2 I2 r=>?_) λx u J' V' s' h=>by exact ff h
  induction r with
  |ref i hi=>
   refine hold λG_ fin_=>?_
   obtain⟨us,ep,V',p1,p2,p3⟩:=yM I0 v0n v0R v0X v0Y (le1.trans le2) I2 h2
   refine fin_ ?_
   exact⟨_,us,ep,V',_,rfl,p1,p2,p3⟩
  |_=>exact ff h2
 ·intro us ep T it o j u V2 J2 s4 ext E2 hP hu hR I4 hne sep
  have hj:j<4:=by
   exact Nat.lt_of_lt_of_eq (Array.getElem?_eq_some_iff.mp hu).1 hP.1
  have I4':Inv Z (C.exts (ext++((it,o)::(T,iI us ep)::C.ext))) V2 J2 s4:=I4.exts2 λp hp=>by
   rcases List.mem_append.mp hp with hp|hp
   ·exact .tail _ (.tail _ (List.mem_append_left _ hp))
   ·cases hp with
    |head=>exact .head _
    |tail _ hp=>cases hp with
     |head=>exact .tail _ (.head _)
     |tail _ hp=>exact .tail _ (.tail _ (List.mem_append_right _ hp))
  refine wpAny_mono (H4 G (C:=C) (Q:=λO O=>False) I0 rfl rfl v0n v0R v0X v0Y ao (Nat.le_of_add_left_le hm) en0 hh hj (hP.2 u (by rw[Array.mem_toList_iff];exact Array.mem_of_getElem? hu)) hR I4' sep) (λO s2 h2=>wpAny_mono h2 (λf s3 h3=>?_) λO O x=>x) λO O x=>x
  induction f with
  |next=>
   refine hold λG_ fin_=>?_
   obtain⟨ext',V',J',r1,r2,r3⟩:=h3
   refine fin_ ?_
   refine⟨ext',V',J',r1,r2.exts2 λp hp=>?_,r3⟩
   cases hp with
   |head=>exact List.mem_append_right _ (.head _)
   |tail _ hp=>cases hp with
    |head=>exact List.mem_append_right _ (.tail _ (.head _))
    |tail _ hp=>
     rcases List.mem_append.mp hp with hp|hp
     ·exact List.mem_append_left _ hp
     ·exact List.mem_append_right _ (.tail _ (.tail _ hp))
  |ret u=>exact h3.elim
  |_=>exact h3.elim
 ·intro us V2 J2 s4 ext hP hR I4 sep
  show wpAny _ _ (execs ss env) _ _ s4
  rw[hP.1]at hR
  refine hold λG_ fin_=>?_
  obtain⟨le,n60,hX,hY,M,N,B,r,bd,rs,vR,n1,n2,hB,rfl,_⟩:=hR
  refine fin_ ?_
  have I4:Inv Z (C.exts (ext++C.ext)) V2 (JB N cZ) s4:=I4
  have mk:∀{mem:List Nat},jX mem=true->(∀id,id∈mem->(M id).isSome=true)->kS (C.exts (ext++C.ext)) V2 M ext N B r mem:=λ{mem} hg hs=>by
   obtain⟨m1,m2,m3⟩:=fN hg
   exact⟨λp hp=>List.mem_append_left _ hp,bd,n1,by exact Int.lt_of_le_of_lt n2 (by decide),n60,hX,hY,vR,rs,hs,m1,m2,m3⟩
  have fin:∀{mem:List Nat} {ab:List Nat},jX mem=true->(∀id,id∈mem->(M id).isSome=true)->(∀id,id∈ab->id<30/\M id=none)->kU mem (bH ab++abO)=true->wpAny Z.M A (execs ss env) Q E s4:=λ{mem ab} hg hs ha he=>
   CR G hss.symm I0 v0n v0R v0X ao (Nat.le_of_add_left_le hm) en0 hh le (mk hg hs) I4 sep (λn hn=>SD rs ha hn) he q0
  have noN:∀id:Nat,id∈([]:List Nat)->id<30/\M id=none:=λid hi=>by cases hi
  have noN2:∀id:Nat,id∈([]:List Nat)->(M id).isSome=true:=λid hi=>by cases hi
  rcases IE bd (u:=[0,1,2]) (by kernel_rfl) (.head _)with a|a<;>rcases IE bd (u:=[3,4,5]) (by kernel_rfl) (.head _)with b|b
  ·exact fin (mem:=[0,1,2,3,4,5]) (ab:=[]) (by kernel_rfl) (λid hi=>(List.mem_append.mp (show id∈ [0,1,2]++[3,4,5]from hi)).elim (a id) (b id)) noN aQb
  ·exact fin (mem:=[0,1,2]) (ab:=[3,4,5]) (by kernel_rfl) a (λid hi=>⟨by have:([3,4,5].all λid=>decide (id<30))=true:=rfl;exact of_decide_eq_true (List.all_eq_true.mp this id hi),b id hi⟩) aPZ
  ·exact fin (mem:=[3,4,5]) (ab:=[0,1,2]) (by kernel_rfl) b (λid hi=>⟨by have:([0,1,2].all λid=>decide (id<30))=true:=rfl;exact of_decide_eq_true (List.all_eq_true.mp this id hi),a id hi⟩) aQa
  ·exact fin (mem:=[]) (ab:=[0,1,2,3,4,5]) (by kernel_rfl) noN2 (λid hi=>⟨by have:([0,1,2,3,4,5].all λid=>decide (id<30))=true:=rfl;exact of_decide_eq_true (List.all_eq_true.mp this id hi),(List.mem_append.mp (show id∈ [0,1,2]++[3,4,5]from hi)).elim (a id) (b id)⟩) aPY
include G in
theorem IF:hH Z:=by
 intro n hn k hk C V s A vs Q E I ao hh rs q
 have hp:aE iJ 793=some (tD 61,[]):=by kernel_rfl
 obtain⟨o,fd,F⟩:=G.fn 793 _ hp
 have h:callFn ihG (cS 793) (tD 61) [] [.ref 1,.ref 4] (sK 5) (u7 (.val (.bool true)) ⟨T2,60,Lw 5,true⟩) dN=true:=by
  rw[CQ,aG ⟨rfl,rfl⟩];exact iR _ _
 refine nU G F (n:=389) h I (ao.le hn) hh rs ?_ (λv u J' V' s' h' le' I' r=>?_) (λx u J V' s h=>by exact ff h)
 ·intro c J k kx h C V s A env Q E I a en hh q xx
  refine hold λG_ fin_=>?_
  obtain⟨⟨rfl,rfl⟩,h1⟩:=bW (h:aI (c=vV/\J=⟨T60,60,II,true⟩) (k (.ret (.bool true)) ⟨T2,60,LbE,true⟩)=true)
  refine fin_ ?_
  exact yN G I a (by decide) en hh λV' s' le I'=>q.ret _ _ _ _ _ h1 le I' (.bool true)
 ·obtain⟨e1,rfl⟩:=eW h'
  cases e1
  cases r with
  |bool _=>
   have vn:V.n=58:=I.n.symm
   refine q _ _ _ (V'.cut V 58) _ hk (eL le' (by rw[vn];exact Nat.le_refl _)) ?_ (.bool true)
   refine Inv.cut (C':=C) (lv:=58) I le' (by rw[vn];exact Nat.le_refl _) I' rfl (λj o' hj=>?_) (fK rfl) rfl rfl rfl rfl (λk a o h=>⟨dY le' (I'.ext k a o h).1,(I'.ext k a o h).2⟩) λO=>I.X.1 rfl
   rcases n6 hj with⟨rfl,rfl⟩|⟨rfl,rfl⟩
   ·exact⟨by decide,.inl ⟨⟨_,rfl,.inl rfl⟩,rfl⟩⟩
   ·exact⟨by decide,.inl ⟨⟨_,rfl,.inl rfl⟩,rfl⟩⟩
end
theorem all_holds:PySem.Challenge.rw_nu0283_01.Holds:=HQ λw s S G=>IF G
end
end
end
end Mine
theorem PySem.Challenge.cw_nu0283_01_holds : PySem.Challenge.rw_nu0283_01.Holds :=
 Mine.all_holds
