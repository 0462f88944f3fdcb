import PyProof.Rows.All
import Wide.All
import OpenK.AllK
import Wide.FinOn
import PySem.Challenge.RW_rg0165_01
set_option Elab.async false
set_option maxRecDepth 100000
set_option maxHeartbeats 8000000
set_option linter.all false
set_option genSizeOf false
set_option genInjectivity false
set_option tactic.hygienic false
set_option backward.match.sparseCases false
set_option bootstrap.genMatcherCode false
set_option genCtorIdx false
namespace Mine.Internal
open PySem PySem.W PySem.Calls PyProof.Rows
noncomputable section
open List (mem_append_right mem_append_left nodup_append mem_map mem_map_of_mem mem_cons map_cons map_append cons_append nil_append length_map append_assoc length_append mem_append set_cons_zero set_cons_succ all_eq_true nodup_cons lookup_cons map_congr_left size_toArray mem_singleton forall_mem_cons append_nil length_cons mem_filter map_map filter_cons foldl_cons map_nil length_set)
section
noncomputable abbrev P0:Program:=PySem.Challenge.pw_rg0165_01
def st(i:Nat):Stmt:=P0.main.body.getD i (.Pass ⟨0,0,0,0⟩)
def sb(i j:Nat):Stmt:=match st i with|.ClassDef _ _ _ b ..=>b.getD j (.Pass ⟨0,0,0,0⟩)|s=>s
noncomputable def ZbY:Stmt->Arguments|.FunctionDef _ a ..=>a|_=>⟨[],[],none,[],[],none,[]⟩
noncomputable def ZbX:Stmt->List Stmt|.FunctionDef _ _ b ..=>b|_=>[]
noncomputable def Zac:Stmt->Scope|.FunctionDef _ _ _ _ _ _ s ..=>s|_=>default
noncomputable def S(x:String)(t:Nat):Value:=.str (Str.ofString x) t
def Sa:Value:=S "gluepage.scaled" 300
def Sb:Value:=S "gluepage.nodes" 608
def Sc:Value:=S "law_rg0165_01" 1250
def Sd:Value:=S "gluepage.packing" 948
def Se:Value:=S "gluepage.align" 1116
def Sf:Value:=S "gluepage.errors" 206
noncomputable def I(i:Int)(t:Nat):Value:=.int i t
noncomputable def E(P:Params)(x:String)(t:Nat)(v:Value):DictEntry:=⟨PyData.keyHash P (Str.ofString x),.str (Str.ofString x) t,v⟩
noncomputable def sq(l:List Value)(n:Nat):Data:=.seq ⟨l⟩ n
noncomputable def fl(l:List Value):Data:=.fields ⟨l⟩
noncomputable def dc(l:List DictEntry)(n:Nat):Data:=.dict ⟨l⟩ n
noncomputable def sl(l:List (Option Value)):Array (Option Value):=⟨l⟩
noncomputable def cl(n:String)(bs mro:List Value)(ns:Nat)(q:String)(sub:List Value):Data:=.cls { name:=Str.ofString n,bases:=bs,mro:=mro,ns:=ns,qualname:=Str.ofString q,subclasses:=sub }
def fstub(n q:String)(s:Stmt):Data:=.func { name:=Str.ofString n,qualname:=Str.ofString q,params:=ZbY s,body:=.stmts (ZbX s),scope:=Zac s,globals:=0,closure:=[],defaults:=.none,kwdefaults:=.none }
def ffn(n q:String)(s:Stmt)(d pm c:Value):Data:=.func { name:=Str.ofString n,qualname:=Str.ofString q,params:=ZbY s,body:=.stmts (ZbX s),scope:=Zac s,globals:=3,closure:=[],defaults:=d,kwdefaults:=.none,pyModule:=pm,code:=c }
def o0:Obj:=⟨.type "tuple",none,sq [] 0,#[]⟩
def o1:Obj:=⟨.none,none,fl [],#[]⟩
def oT(l:List Value)(n:Nat):Obj:=⟨.type "tuple",none,sq l n,#[]⟩
def oD(l:List DictEntry)(n:Nat):Obj:=⟨.type "dict",none,dc l n,#[]⟩
def oF(n q:String)(s:Stmt)(d pm c:Value):Obj:=⟨.type "function",none,ffn n q s d pm c,#[]⟩
def oS(n q:String)(s:Stmt):Obj:=⟨.none,none,fstub n q s,#[]⟩
noncomputable def rf(n:Nat):Value:=.ref n
noncomputable def vE:List Value:=[.type "ValueError",.type "Exception",.type "BaseException",.type "object"]
def oX(t:String)(l:List Value):Obj:=⟨.type t,none,fl l,#[]⟩
def oB(l:List Value):Obj:=oX "builtin_function_or_method" l
def oG(l:List Value):Obj:=oX "getset_descriptor" l
def oC(n q:String)(t:Nat)(a b f:Int)(r:Nat)(bb:Bool)(c:Int)(p:Nat)(x y z w:Value)(u:Nat):Obj:=⟨.type "code",none,(fl [S n t,S q (t+1),S "/claim/cut.py" (t+2),I a 0,I b 0,I 0 0,I 0 0,I f 0,.ref r,.bool bb,I c 0,.ref p,x,y,z,w,I u 0,I a 0,S "/claim/cut.py" (u+1)]),#[]⟩
noncomputable def setN{α:Type}:List (Nat×α)->List α->List α|[],l=>l|(i,a)::r,l=>setN r (l.set i a)
def dcU(ch:List (Nat×DictEntry))(more:List DictEntry)(n:Nat):Obj->Obj|⟨c,d,.dict es _,s⟩=>⟨c,d,.dict ⟨setN ch es.toList++more⟩ n,s⟩|o=>o
noncomputable def flU(more:List Value):Obj->Obj|⟨c,d,.fields vs,s⟩=>⟨c,d,.fields ⟨vs.toList++more⟩,s⟩|o=>o
noncomputable def setL:List (Nat×(Obj->Obj))->BT->BT|[],t=>t|(a,f)::r,t=>setL r (t.set a f)
noncomputable def insL:Nat->List Obj->BT->BT|_,[],t=>t|n,o::r,t=>insL (n+1) r (t.ins n o)
def bootT(P:Params):BT:=insL 0 [boot_o_0 P,boot_o_1 P,boot_o_2 P,boot_o_3 P,boot_o_4 P,boot_o_5 P,boot_o_6 P,boot_o_7 P,boot_o_8 P,boot_o_9 P,boot_o_10 P] .nil
def env0:Env:={ scope:=P0.main.scope,locals:=mainNs,globals:=mainNs,cells:=[],code:=.ref 13,frame:=some 14 }
def top0:List Stmt:=behindTheImports P0
def cE:Code:=.body top0 env0
noncomputable def B0:List Frame:=[topFrame ⟨0,0,0,0⟩]
def sts(a b:Nat):List Stmt:=(top0.drop a).take b
noncomputable def ann0:Option Value:=some (.ref 6)
noncomputable def SS(T:Params->BT)(n k:Nat)(w:World)(os:OsState):SharedT:=⟨T w.params,n,{},⟨[]⟩,{},k,os⟩
def RT(w:World):=PySem.W.Fast.tw10110043849684766642 PySem.W.Fast.tw14364793385576792824 P0 w 11 ann0 1
def T0(P:Params):BT:=insL 11 [o0,o1,oC "<module>" "<module>" 182 1 0 0 11 false 181 12 .none .none .none .none 185,⟨.type "frame",none,.plain,sl [some (rf 13),some (rf 3),some (rf 3),none,some (S "__main__" 164),none,some (rf 0)]⟩] (bootT P)
def T1(P:Params):BT:=insL 15 [o0,
 o1,
 oT [S "k" 190] 0,
 o0,
 oS "_wall" "_wall" (st 0),
 oC "_wall" "_wall" 187 1 1 3 15 true 181 16 .none (rf 17) (rf 18) (rf 19) 191,
 oF "_wall" "_wall" (st 0) .none (S "__main__" 164) (rf 20),
 oT [I 7 194,I 8 195,I 9 196,I 10 197,I 11 198,I 12 199] 0,
 oX "tuple_iterator" [.none,I 6 0],
 o0,
 oX "StopIteration" [rf 24,.none,.none,.none,.bool false,.none],
 oT [.type "ValueError"] 0,
 oB [.builtin "type.__prepare__",.type "type"],
 oD [E P "__module__" 215 Sf,E P "__qualname__" 217 (S "PageError" 216),E P "__firstlineno__" 219 (I 6 218),E P "__init__" 228 (rf 40),E P "__static_attributes__" 230 (rf 41)] 5,
 o0,
 ⟨.none,none,fl [I 8 0,I 4 0,rf 39],#[]⟩,
 oC "PageError" "PageError" 210 6 0 0 29 false 181 30 .none .none .none .none 213,
 ⟨.type "frame",none,.plain,sl [some (rf 31),some (rf 3),some (rf 28),none,some Sf,none,some (rf 0)]⟩,
 oT [S "" 220] 0,
 o0,
 o1,
 oT [S "self" 224,S "reason" 225] 0,
 o0,
 oS "__init__" "PageError.__init__" (sb 3 0),
 oC "__init__" "PageError.__init__" 221 8 2 3 34 true 181 35 .none (rf 36) (rf 37) (rf 38) 226,
 oF "__init__" "PageError.__init__" (sb 3 0) (rf 33) Sf (rf 39),
 oT [S "reason" 229] 0,
 oD [E P "__module__" 215 Sf,E P "__firstlineno__" 219 (I 6 218),E P "__init__" 228 (rf 40),E P "__static_attributes__" 230 (rf 41),E P "__weakref__" 232 (rf 44),E P "__doc__" 233 .none] 3,
 ⟨.type "type",none,cl "PageError" [.type "ValueError"] (rf 43::vE) 42 "PageError" [],sl [some (rf 26),none,some (S "PageError" 208),some (S "PageError" 216),some (.builtin "ValueError.__new__"),some (.bool true)]⟩,
 oG [S "__weakref__" 231,rf 43,.builtin "ExceptionGroup.__weakref__",.none],
 oX "super" [rf 43,rf 43,rf 43],
 oB [.builtin "object.__init_subclass__",rf 43]]
 (setL [(3,dcU [(0,E P "__name__" 165 Sf)] [E P "_wall" 193 (rf 21),E P "TOP_SKIP" 200 (I 7 194),E P "SPLIT_TOP_SKIP" 201 (I 8 195),E P "TAB_SKIP" 202 (I 9 196),E P "SPACE_SKIP" 203 (I 10 197),E P "XSPACE_SKIP" 204 (I 11 198),E P "PAR_FILL_SKIP" 205 (I 12 199),E P "PageError" 235 (rf 43)] 17),
 (12,λ_=>⟨.none,none,fl [I 1 0,I 0 0,rf 20,I 6 0,I 0 0,rf 31],#[]⟩)] (T0 P))
def T2(P:Params):BT:=insL 47 [oT [rf 43] 0,
 oB [.builtin "type.__prepare__",.type "type"],
 oD [E P "__module__" 243 Sf,E P "__qualname__" 245 (S "BadArgument" 244),E P "__firstlineno__" 247 (I 10 246),E P "__static_attributes__" 248 (rf 54)] 4,
 o0,
 o1,
 oC "BadArgument" "BadArgument" 238 10 0 0 50 false 181 51 .none .none .none .none 241,
 ⟨.type "frame",none,.plain,sl [some (rf 52),some (rf 3),some (rf 49),none,some Sf,none,some (rf 0)]⟩,
 o0,
 oD [E P "__module__" 243 Sf,E P "__firstlineno__" 247 (I 10 246),E P "__static_attributes__" 248 (rf 54),E P "__doc__" 249 .none] 2,
 ⟨.type "type",none,cl "BadArgument" [rf 43] [rf 56,rf 43,.type "ValueError",.type "Exception",.type "BaseException",.type "object"] 55 "BadArgument" [],sl [some (rf 47),none,some (S "BadArgument" 236),some (S "BadArgument" 244),some (.builtin "ValueError.__new__"),some (.bool true)]⟩,
 oX "super" [rf 56,rf 56,rf 56],
 oB [.builtin "object.__init_subclass__",rf 56]]
 (setL [(3,dcU [] [E P "BadArgument" 251 (rf 56)] 18),
 (12,λ_=>⟨.none,none,fl [I 1 0,I 0 0,rf 20,I 6 0,I 0 0,rf 31,I 10 0,I 0 0,rf 52],#[]⟩),
 (43,λ_=>⟨.type "type",none,cl "PageError" [.type "ValueError"] (rf 43::vE) 42 "PageError" [rf 56],sl [some (rf 26),none,some (S "PageError" 208),some (S "PageError" 216),some (.builtin "ValueError.__new__"),some (.bool true)]⟩)] (T1 P))
def T3(P:Params):BT:=insL 59 [oT [rf 43] 0,
 oB [.builtin "type.__prepare__",.type "type"],
 oD [E P "__module__" 259 Sf,E P "__qualname__" 261 (S "Overflow" 260),E P "__firstlineno__" 263 (I 12 262),E P "__static_attributes__" 264 (rf 66)] 4,
 o0,
 o1,
 oC "Overflow" "Overflow" 254 12 0 0 62 false 181 63 .none .none .none .none 257,
 ⟨.type "frame",none,.plain,sl [some (rf 64),some (rf 3),some (rf 61),none,some Sf,none,some (rf 0)]⟩,
 o0,
 oD [E P "__module__" 259 Sf,E P "__firstlineno__" 263 (I 12 262),E P "__static_attributes__" 264 (rf 66),E P "__doc__" 265 .none] 2,
 ⟨.type "type",none,cl "Overflow" [rf 43] [rf 68,rf 43,.type "ValueError",.type "Exception",.type "BaseException",.type "object"] 67 "Overflow" [],sl [some (rf 59),none,some (S "Overflow" 252),some (S "Overflow" 260),some (.builtin "ValueError.__new__"),some (.bool true)]⟩,
 oX "super" [rf 68,rf 68,rf 68],
 oB [.builtin "object.__init_subclass__",rf 68]]
 (setL [(3,dcU [] [E P "Overflow" 267 (rf 68)] 19),
 (12,flU [I 12 0,I 0 0,rf 64]),
 (43,λ_=>⟨.type "type",none,cl "PageError" [.type "ValueError"] (rf 43::vE) 42 "PageError" [rf 56,rf 68],sl [some (rf 26),none,some (S "PageError" 208),some (S "PageError" 216),some (.builtin "ValueError.__new__"),some (.bool true)]⟩)] (T2 P))
def T4(P:Params):BT:=insL 71 [oT [rf 43] 0,
 oB [.builtin "type.__prepare__",.type "type"],
 oD [E P "__module__" 275 Sf,E P "__qualname__" 277 (S "BadAlign" 276),E P "__firstlineno__" 279 (I 14 278),E P "__static_attributes__" 280 (rf 78)] 4,
 o0,
 o1,
 oC "BadAlign" "BadAlign" 270 14 0 0 74 false 181 75 .none .none .none .none 273,
 ⟨.type "frame",none,.plain,sl [some (rf 76),some (rf 3),some (rf 73),none,some Sf,none,some (rf 0)]⟩,
 o0,
 oD [E P "__module__" 275 Sf,E P "__firstlineno__" 279 (I 14 278),E P "__static_attributes__" 280 (rf 78),E P "__doc__" 281 .none] 2,
 ⟨.type "type",none,cl "BadAlign" [rf 43] [rf 80,rf 43,.type "ValueError",.type "Exception",.type "BaseException",.type "object"] 79 "BadAlign" [],sl [some (rf 71),none,some (S "BadAlign" 268),some (S "BadAlign" 276),some (.builtin "ValueError.__new__"),some (.bool true)]⟩,
 oX "super" [rf 80,rf 80,rf 80],
 oB [.builtin "object.__init_subclass__",rf 80]]
 (setL [(3,dcU [] [E P "BadAlign" 283 (rf 80)] 20),
 (12,flU [I 14 0,I 0 0,rf 76]),
 (43,λ_=>⟨.type "type",none,cl "PageError" [.type "ValueError"] (rf 43::vE) 42 "PageError" [rf 56,rf 68,rf 80],sl [some (rf 26),none,some (S "PageError" 208),some (S "PageError" 216),some (.builtin "ValueError.__new__"),some (.bool true)]⟩)] (T3 P))
def T5(P:Params):BT:=insL 83 [oT [rf 43] 0,
 oB [.builtin "type.__prepare__",.type "type"],
 oD [E P "__module__" 291 Sf,E P "__qualname__" 293 (S "TooDeep" 292),E P "__firstlineno__" 295 (I 16 294),E P "__static_attributes__" 296 (rf 90)] 4,
 o0,
 o1,
 oC "TooDeep" "TooDeep" 286 16 0 0 86 false 181 87 .none .none .none .none 289,
 ⟨.type "frame",none,.plain,sl [some (rf 88),some (rf 3),some (rf 85),none,some Sf,none,some (rf 0)]⟩,
 o0,
 oD [E P "__module__" 291 Sf,E P "__firstlineno__" 295 (I 16 294),E P "__static_attributes__" 296 (rf 90),E P "__doc__" 297 .none] 2,
 ⟨.type "type",none,cl "TooDeep" [rf 43] [rf 92,rf 43,.type "ValueError",.type "Exception",.type "BaseException",.type "object"] 91 "TooDeep" [],sl [some (rf 83),none,some (S "TooDeep" 284),some (S "TooDeep" 292),some (.builtin "ValueError.__new__"),some (.bool true)]⟩,
 oX "super" [rf 92,rf 92,rf 92],
 oB [.builtin "object.__init_subclass__",rf 92],
 oT [I 0 318,I 1 319,I 2 320,I 3 321] 0,
 oX "tuple_iterator" [.none,I 4 0],
 o0,
 oX "StopIteration" [rf 97,.none,.none,.none,.bool false,.none]]
 (setL [(3,dcU [(0,E P "__name__" 165 Sa)] [E P "TooDeep" 299 (rf 92),E P "UNITY" 303 (I 65536 302),E P "MAX_DIMEN" 309 (I 1073741823 308),E P "MAX_NUMBER" 315 (I 2147483647 314),E P "INF_BAD" 317 (I 10000 316),E P "NORMAL" 322 (I 0 318),E P "FIL" 323 (I 1 319),E P "FILL" 324 (I 2 320),E P "FILLL" 325 (I 3 321)] 29),
 (12,flU [I 16 0,I 0 0,rf 88]),
 (43,λ_=>⟨.type "type",none,cl "PageError" [.type "ValueError"] (rf 43::vE) 42 "PageError" [rf 56,rf 68,rf 80,rf 92],sl [some (rf 26),none,some (S "PageError" 208),some (S "PageError" 216),some (.builtin "ValueError.__new__"),some (.bool true)]⟩)] (T4 P))
def T6(P:Params):BT:=insL 99 [o0,
 o1,
 oT [S "value" 329,S "low" 330,S "high" 331] 0,
 o0,
 oS "is_whole" "is_whole" (st 14),
 oC "is_whole" "is_whole" 326 24 3 3 99 true 181 100 .none (rf 101) (rf 102) (rf 103) 332,
 oF "is_whole" "is_whole" (st 14) .none Sa (rf 104),
 o0,
 o1,
 oT [S "value" 338] 0,
 o0,
 oS "check_whole" "check_whole" (st 15),
 oC "check_whole" "check_whole" 335 26 1 3 106 true 181 107 .none (rf 108) (rf 109) (rf 110) 339,
 oF "check_whole" "check_whole" (st 15) .none Sa (rf 111),
 o0,
 o1,
 oT [S "value" 345] 0,
 o0,
 oS "check_number" "check_number" (st 16),
 oC "check_number" "check_number" 342 30 1 3 113 true 181 114 .none (rf 115) (rf 116) (rf 117) 346,
 oF "check_number" "check_number" (st 16) .none Sa (rf 118),
 o0,
 o1,
 oT [S "value" 352] 0,
 o0,
 oS "check_dimen" "check_dimen" (st 17),
 oC "check_dimen" "check_dimen" 349 34 1 3 120 true 181 121 .none (rf 122) (rf 123) (rf 124) 353,
 oF "check_dimen" "check_dimen" (st 17) .none Sa (rf 125),
 o0,
 o1,
 oT [S "number" 359,S "by" 360] 0,
 o0,
 oS "rounded" "rounded" (st 18),
 oC "rounded" "rounded" 356 38 2 3 127 true 181 128 .none (rf 129) (rf 130) (rf 131) 361,
 oF "rounded" "rounded" (st 18) .none Sa (rf 132),
 o0,
 o1,
 oT [S "whole" 367,S "scale" 368] 0,
 o0,
 oS "reading" "reading" (st 19),
 oC "reading" "reading" 364 44 2 3 134 true 181 135 .none (rf 136) (rf 137) (rf 138) 369,
 oF "reading" "reading" (st 19) .none Sa (rf 139),
 o0,
 o1,
 oT [S "value" 375,S "sign" 376,S "points" 377,S "part" 378,S "scale" 379,S "near" 380,S "places" 381] 0,
 o0,
 oS "decimal_text" "decimal_text" (st 20),
 oC "decimal_text" "decimal_text" 372 46 1 3 141 true 181 142 .none (rf 143) (rf 144) (rf 145) 382,
 oF "decimal_text" "decimal_text" (st 20) .none Sa (rf 146),
 o0,
 o1,
 oT [S "count" 388,S "value" 389,S "more" 390] 0,
 o0,
 oS "times" "times" (st 21),
 oC "times" "times" 385 57 3 3 148 true 181 149 .none (rf 150) (rf 151) (rf 152) 391,
 oF "times" "times" (st 21) .none Sa (rf 153),
 o0,
 o1,
 oT [S "value" 398,S "by" 399,S "quotient" 400,S "rest" 401] 0,
 o0,
 oS "over" "over" (st 23),
 oC "over" "over" 395 60 2 3 155 true 181 156 .none (rf 157) (rf 158) (rf 159) 402,
 oF "over" "over" (st 23) .none Sa (rf 160),
 o0,
 o1,
 oT [S "excess" 409,S "total" 410,S "ratio" 411] 0,
 o0,
 oS "badness" "badness" (st 25),
 oC "badness" "badness" 406 70 2 3 162 true 181 163 .none (rf 164) (rf 165) (rf 166) 412,
 oF "badness" "badness" (st 25) .none Sa (rf 167),
 o0,
 o1,
 oT [S "order" 418] 0,
 o0,
 oS "order_text" "order_text" (st 26),
 oC "order_text" "order_text" 415 86 1 3 169 true 181 170 .none (rf 171) (rf 172) (rf 173) 419,
 oF "order_text" "order_text" (st 26) .none Sa (rf 174),
 o0,
 o1,
 oT [S "value" 425,S "order" 426,S "unit" 427] 0,
 o0,
 oS "part_text" "part_text" (st 27),
 oC "part_text" "part_text" 422 88 3 3 176 true 181 177 .none (rf 178) (rf 179) (rf 180) 428,
 oF "part_text" "part_text" (st 27) .none Sa (rf 181)]
 (setL [(3,dcU [] [E P "is_whole" 334 (rf 105),E P "check_whole" 341 (rf 112),E P "check_number" 348 (rf 119),E P "check_dimen" 355 (rf 126),E P "rounded" 363 (rf 133),E P "reading" 371 (rf 140),E P "decimal_text" 384 (rf 147),E P "times" 393 (rf 154),E P "times_scaled" 394 (rf 154),E P "over" 404 (rf 161),E P "over_scaled" 405 (rf 161),E P "badness" 414 (rf 168),E P "order_text" 421 (rf 175),E P "part_text" 430 (rf 182)] 43),
 (12,flU [I 24 0,I 0 0,rf 104,I 26 0,I 0 0,rf 111,I 30 0,I 0 0,rf 118,I 34 0,I 0 0,rf 125,I 38 0,I 0 0,rf 132,I 44 0,I 0 0,rf 139,I 46 0,I 0 0,rf 146,I 57 0,I 0 0,rf 153,I 60 0,I 0 0,rf 160,I 70 0,I 0 0,rf 167,I 86 0,I 0 0,rf 174,I 88 0,I 0 0,rf 181])] (T5 P))
def T7(P:Params):BT:=insL 183 [o0,
 oB [.builtin "type.__prepare__",.type "type"],
 oD [E P "__module__" 438 Sa,E P "__qualname__" 440 (S "Glue" 439),E P "__firstlineno__" 442 (I 90 441),E P "__init__" 459 (rf 197),E P "parts" 466 (rf 204),E P "same" 474 (rf 211),E P "added" 482 (rf 218),E P "times" 492 (rf 225),E P "over" 502 (rf 232),E P "negated" 509 (rf 239),E P "text" 519 (rf 247),E P "__static_attributes__" 525 (rf 248)] 12,
 o0,
 ⟨.none,none,fl [I 92 0,I 4 0,rf 196,I 101 0,I 4 0,rf 203,I 104 0,I 4 0,rf 210,I 107 0,I 4 0,rf 217,I 110 0,I 4 0,rf 224,I 114 0,I 4 0,rf 231,I 118 0,I 4 0,rf 238,I 121 0,I 4 0,rf 246],#[]⟩,
 oC "Glue" "Glue" 433 90 0 0 186 false 181 187 .none .none .none .none 436,
 ⟨.type "frame",none,.plain,sl [some (rf 188),some (rf 3),some (rf 185),none,some Sa,none,some (rf 0)]⟩,
 oT [I 0 443,I 0 444,I 0 445,I 0 446,I 0 447] 0,
 o0,
 o1,
 oT [S "self" 451,S "width" 452,S "stretch" 453,S "stretch_order" 454,S "shrink" 455,S "shrink_order" 456] 0,
 o0,
 oS "__init__" "Glue.__init__" (sb 28 0),
 oC "__init__" "Glue.__init__" 448 92 6 3 191 true 181 192 .none (rf 193) (rf 194) (rf 195) 457,
 oF "__init__" "Glue.__init__" (sb 28 0) (rf 190) Sa (rf 196),
 o0,
 o1,
 oT [S "self" 463] 0,
 o0,
 oS "parts" "Glue.parts" (sb 28 1),
 oC "parts" "Glue.parts" 460 101 1 3 198 true 181 199 .none (rf 200) (rf 201) (rf 202) 464,
 oF "parts" "Glue.parts" (sb 28 1) .none Sa (rf 203),
 o0,
 o1,
 oT [S "self" 470,S "other" 471] 0,
 o0,
 oS "same" "Glue.same" (sb 28 2),
 oC "same" "Glue.same" 467 104 2 3 205 true 181 206 .none (rf 207) (rf 208) (rf 209) 472,
 oF "same" "Glue.same" (sb 28 2) .none Sa (rf 210),
 o0,
 o1,
 oT [S "self" 478,S "other" 479] 0,
 o0,
 oS "added" "Glue.added" (sb 28 3),
 oC "added" "Glue.added" 475 107 2 3 212 true 181 213 .none (rf 214) (rf 215) (rf 216) 480,
 oF "added" "Glue.added" (sb 28 3) .none Sa (rf 217),
 o0,
 o1,
 oT [S "self" 486,S "count" 487,S "stretch" 488,S "shrink" 489] 0,
 o0,
 oS "times" "Glue.times" (sb 28 4),
 oC "times" "Glue.times" 483 110 2 3 219 true 181 220 .none (rf 221) (rf 222) (rf 223) 490,
 oF "times" "Glue.times" (sb 28 4) .none Sa (rf 224),
 o0,
 o1,
 oT [S "self" 496,S "by" 497,S "stretch" 498,S "shrink" 499] 0,
 o0,
 oS "over" "Glue.over" (sb 28 5),
 oC "over" "Glue.over" 493 114 2 3 226 true 181 227 .none (rf 228) (rf 229) (rf 230) 500,
 oF "over" "Glue.over" (sb 28 5) .none Sa (rf 231),
 o0,
 o1,
 oT [S "self" 506] 0,
 o0,
 oS "negated" "Glue.negated" (sb 28 6),
 oC "negated" "Glue.negated" 503 118 1 3 233 true 181 234 .none (rf 235) (rf 236) (rf 237) 507,
 oF "negated" "Glue.negated" (sb 28 6) .none Sa (rf 238),
 oT [S "pt" 510] 0,
 o0,
 o1,
 oT [S "self" 514,S "unit" 515,S "found" 516] 0,
 o0,
 oS "text" "Glue.text" (sb 28 7),
 oC "text" "Glue.text" 511 121 2 3 241 true 181 242 .none (rf 243) (rf 244) (rf 245) 517,
 oF "text" "Glue.text" (sb 28 7) (rf 240) Sa (rf 246),
 oT [S "shrink" 520,S "shrink_order" 521,S "stretch" 522,S "stretch_order" 523,S "width" 524] 0,
 oD [E P "__module__" 438 Sa,E P "__firstlineno__" 442 (I 90 441),E P "__init__" 459 (rf 197),E P "parts" 466 (rf 204),E P "same" 474 (rf 211),E P "added" 482 (rf 218),E P "times" 492 (rf 225),E P "over" 502 (rf 232),E P "negated" 509 (rf 239),E P "text" 519 (rf 247),E P "__static_attributes__" 525 (rf 248),E P "__dict__" 527 (rf 251),E P "__weakref__" 529 (rf 252),E P "__doc__" 530 .none] 4,
 ⟨.type "type",none,cl "Glue" [.type "object"] [rf 250,.type "object"] 249 "Glue" [],sl [none,none,some (S "Glue" 431),some (S "Glue" 439),some (.builtin "object.__new__"),some (.bool true)]⟩,
 oG [S "__dict__" 526,rf 250,.builtin "function.__dict__",.builtin "function.__dict__#set"],
 oG [S "__weakref__" 528,rf 250,.builtin "ExceptionGroup.__weakref__",.none],
 oX "super" [rf 250,rf 250,rf 250],
 oB [.builtin "object.__init_subclass__",rf 250]]
 (setL [(3,dcU [] [E P "Glue" 532 (rf 250)] 44),
 (12,flU [I 90 0,I 0 0,rf 188])] (T6 P))
def T8(P:Params):BT:=insL 255 [o0,
 o1,
 oT [S "sums" 536,S "order" 537] 0,
 o0,
 oS "top_order" "top_order" (st 29),
 oC "top_order" "top_order" 533 128 1 3 255 true 181 256 .none (rf 257) (rf 258) (rf 259) 538,
 oF "top_order" "top_order" (st 29) .none Sa (rf 260)]
 (setL [(3,dcU [] [E P "top_order" 540 (rf 261)] 45),
 (12,flU [I 128 0,I 0 0,rf 260])] (T7 P))
def T9(P:Params):BT:=insL 262 [o0,
 oB [.builtin "type.__prepare__",.type "type"],
 oD [E P "__module__" 548 Sa,E P "__qualname__" 550 (S "Totals" 549),E P "__firstlineno__" 552 (I 133 551),E P "__init__" 559 (rf 275),E P "add" 567 (rf 282),E P "widen" 575 (rf 289),E P "stretch_top" 582 (rf 296),E P "shrink_top" 589 (rf 303),E P "copy" 596 (rf 310),E P "__static_attributes__" 600 (rf 311)] 10,
 o0,
 ⟨.none,none,fl [I 135 0,I 4 0,rf 274,I 140 0,I 4 0,rf 281,I 145 0,I 4 0,rf 288,I 148 0,I 4 0,rf 295,I 151 0,I 4 0,rf 302,I 154 0,I 4 0,rf 309],#[]⟩,
 oC "Totals" "Totals" 543 133 0 0 265 false 181 266 .none .none .none .none 546,
 ⟨.type "frame",none,.plain,sl [some (rf 267),some (rf 3),some (rf 264),none,some Sa,none,some (rf 0)]⟩,
 o0,
 o1,
 oT [S "self" 556] 0,
 o0,
 oS "__init__" "Totals.__init__" (sb 30 0),
 oC "__init__" "Totals.__init__" 553 135 1 3 269 true 181 270 .none (rf 271) (rf 272) (rf 273) 557,
 oF "__init__" "Totals.__init__" (sb 30 0) .none Sa (rf 274),
 o0,
 o1,
 oT [S "self" 563,S "glue" 564] 0,
 o0,
 oS "add" "Totals.add" (sb 30 1),
 oC "add" "Totals.add" 560 140 2 3 276 true 181 277 .none (rf 278) (rf 279) (rf 280) 565,
 oF "add" "Totals.add" (sb 30 1) .none Sa (rf 281),
 o0,
 o1,
 oT [S "self" 571,S "width" 572] 0,
 o0,
 oS "widen" "Totals.widen" (sb 30 2),
 oC "widen" "Totals.widen" 568 145 2 3 283 true 181 284 .none (rf 285) (rf 286) (rf 287) 573,
 oF "widen" "Totals.widen" (sb 30 2) .none Sa (rf 288),
 o0,
 o1,
 oT [S "self" 579] 0,
 o0,
 oS "stretch_top" "Totals.stretch_top" (sb 30 3),
 oC "stretch_top" "Totals.stretch_top" 576 148 1 3 290 true 181 291 .none (rf 292) (rf 293) (rf 294) 580,
 oF "stretch_top" "Totals.stretch_top" (sb 30 3) .none Sa (rf 295),
 o0,
 o1,
 oT [S "self" 586] 0,
 o0,
 oS "shrink_top" "Totals.shrink_top" (sb 30 4),
 oC "shrink_top" "Totals.shrink_top" 583 151 1 3 297 true 181 298 .none (rf 299) (rf 300) (rf 301) 587,
 oF "shrink_top" "Totals.shrink_top" (sb 30 4) .none Sa (rf 302),
 o0,
 o1,
 oT [S "self" 593] 0,
 o0,
 oS "copy" "Totals.copy" (sb 30 5),
 oC "copy" "Totals.copy" 590 154 1 3 304 true 181 305 .none (rf 306) (rf 307) (rf 308) 594,
 oF "copy" "Totals.copy" (sb 30 5) .none Sa (rf 309),
 oT [S "natural" 597,S "shrink" 598,S "stretch" 599] 0,
 oD [E P "__module__" 548 Sa,E P "__firstlineno__" 552 (I 133 551),E P "__init__" 559 (rf 275),E P "add" 567 (rf 282),E P "widen" 575 (rf 289),E P "stretch_top" 582 (rf 296),E P "shrink_top" 589 (rf 303),E P "copy" 596 (rf 310),E P "__static_attributes__" 600 (rf 311),E P "__dict__" 602 (rf 314),E P "__weakref__" 604 (rf 315),E P "__doc__" 605 .none] 4,
 ⟨.type "type",none,cl "Totals" [.type "object"] [rf 313,.type "object"] 312 "Totals" [],sl [none,none,some (S "Totals" 541),some (S "Totals" 549),some (.builtin "object.__new__"),some (.bool true)]⟩,
 oG [S "__dict__" 601,rf 313,.builtin "function.__dict__",.builtin "function.__dict__#set"],
 oG [S "__weakref__" 603,rf 313,.builtin "ExceptionGroup.__weakref__",.none],
 oX "super" [rf 313,rf 313,rf 313],
 oB [.builtin "object.__init_subclass__",rf 313]]
 (setL [(3,dcU [(0,E P "__name__" 165 Sb)] [E P "Totals" 607 (rf 313)] 46),
 (12,flU [I 133 0,I 0 0,rf 267])] (T8 P))
def T10(P:Params):BT:=insL 318 [oT [I 0 610,I 1 611,I 2 612,I 3 613,I 4 614,I 5 615,I 6 616,I 7 617] 0,
 oX "tuple_iterator" [.none,I 8 0],
 o0,
 oX "StopIteration" [rf 320,.none,.none,.none,.bool false,.none],
 oT [I 8 626,I 9 627,I 10 628,I 11 629,I 12 630,I 13 631,I 14 632] 0,
 oX "tuple_iterator" [.none,I 7 0],
 o0,
 oX "StopIteration" [rf 324,.none,.none,.none,.bool false,.none]]
 (setL [(3,dcU [] [E P "CHAR" 618 (I 0 610),E P "LIGATURE" 619 (I 1 611),E P "HBOX" 620 (I 2 612),E P "VBOX" 621 (I 3 613),E P "RULE" 622 (I 4 614),E P "KERN" 623 (I 5 615),E P "GLUE" 624 (I 6 616),E P "PENALTY" 625 (I 7 617),E P "DISC" 633 (I 8 626),E P "MARK" 634 (I 9 627),E P "INSERT" 635 (I 10 628),E P "ADJUST" 636 (I 11 629),E P "MATH" 637 (I 12 630),E P "SPECIAL" 638 (I 13 631),E P "UNSET" 639 (I 14 632)] 61)] (T9 P))
def T11(P:Params):BT:=insL 326 [oT [I 0 640,I 1 641,I 2 642] 0,
 oX "tuple_iterator" [.none,I 3 0],
 o0,
 oX "StopIteration" [rf 328,.none,.none,.none,.bool false,.none],
 oT [I 0 646,I 1 647,I 2 648,I 3 649] 0,
 oX "tuple_iterator" [.none,I 4 0],
 o0,
 oX "StopIteration" [rf 332,.none,.none,.none,.bool false,.none],
 oT [I 0 654,I 1 655,I 2 656,I 3 657,I 4 658,I 5 659,I 100 660] 0,
 oX "tuple_iterator" [.none,I 7 0],
 o0,
 oX "StopIteration" [rf 336,.none,.none,.none,.bool false,.none]]
 (setL [(3,dcU [] [E P "NATURAL" 643 (I 0 640),E P "STRETCHED" 644 (I 1 641),E P "SHRUNK" 645 (I 2 642),E P "FONT_KERN" 650 (I 0 646),E P "EXPLICIT" 651 (I 1 647),E P "ACCENT_KERN" 652 (I 2 648),E P "MU_KERN" 653 (I 3 649),E P "PLAIN" 661 (I 0 654),E P "ALEADERS" 662 (I 1 655),E P "CLEADERS" 663 (I 2 656),E P "XLEADERS" 664 (I 3 657),E P "MU_SKIP" 665 (I 4 658),E P "NONSCRIPT" 666 (I 5 659),E P "NAMED" 667 (I 100 660),E P "DEEPEST" 669 (I 60 668)] 76)] (T10 P))
def T12(P:Params):BT:=insL 338 [o0,
 oB [.builtin "type.__prepare__",.type "type"],
 oD [E P "__module__" 677 Sb,E P "__qualname__" 679 (S "Box" 678),E P "__firstlineno__" 681 (I 163 680),E P "__init__" 693 (rf 351),E P "__static_attributes__" 703 (rf 352)] 5,
 o0,
 ⟨.none,none,fl [I 165 0,I 4 0,rf 350],#[]⟩,
 oC "Box" "Box" 672 163 0 0 341 false 181 342 .none .none .none .none 675,
 ⟨.type "frame",none,.plain,sl [some (rf 343),some (rf 3),some (rf 340),none,some Sb,none,some (rf 0)]⟩,
 o0,
 o1,
 oT [S "self" 685,S "kind" 686,S "width" 687,S "height" 688,S "depth" 689,S "items" 690] 0,
 o0,
 oS "__init__" "Box.__init__" (sb 38 0),
 oC "__init__" "Box.__init__" 682 165 6 3 345 true 181 346 .none (rf 347) (rf 348) (rf 349) 691,
 oF "__init__" "Box.__init__" (sb 38 0) .none Sb (rf 350),
 oT [S "depth" 694,S "height" 695,S "items" 696,S "kind" 697,S "order" 698,S "ratio" 699,S "shift" 700,S "sign" 701,S "width" 702] 0,
 oD [E P "__module__" 677 Sb,E P "__firstlineno__" 681 (I 163 680),E P "__init__" 693 (rf 351),E P "__static_attributes__" 703 (rf 352),E P "__dict__" 705 (rf 355),E P "__weakref__" 707 (rf 356),E P "__doc__" 708 .none] 4,
 ⟨.type "type",none,cl "Box" [.type "object"] [rf 354,.type "object"] 353 "Box" [],sl [none,none,some (S "Box" 670),some (S "Box" 678),some (.builtin "object.__new__"),some (.bool true)]⟩,
 oG [S "__dict__" 704,rf 354,.builtin "function.__dict__",.builtin "function.__dict__#set"],
 oG [S "__weakref__" 706,rf 354,.builtin "ExceptionGroup.__weakref__",.none],
 oX "super" [rf 354,rf 354,rf 354],
 oB [.builtin "object.__init_subclass__",rf 354]]
 (setL [(3,dcU [] [E P "Box" 710 (rf 354)] 77),
 (12,flU [I 163 0,I 0 0,rf 343])] (T11 P))
def T13(P:Params):BT:=insL 359 [o0,
 oB [.builtin "type.__prepare__",.type "type"],
 oD [E P "__module__" 718 Sb,E P "__qualname__" 720 (S "Rule" 719),E P "__firstlineno__" 722 (I 177 721),E P "kind" 723 (I 4 614),E P "__init__" 734 (rf 372),E P "__static_attributes__" 738 (rf 373)] 6,
 o0,
 ⟨.none,none,fl [I 180 0,I 4 0,rf 371],#[]⟩,
 oC "Rule" "Rule" 713 177 0 0 362 false 181 363 .none .none .none .none 716,
 ⟨.type "frame",none,.plain,sl [some (rf 364),some (rf 3),some (rf 361),none,some Sb,none,some (rf 0)]⟩,
 o0,
 o1,
 oT [S "self" 727,S "width" 728,S "height" 729,S "depth" 730,S "size" 731] 0,
 o0,
 oS "__init__" "Rule.__init__" (sb 39 1),
 oC "__init__" "Rule.__init__" 724 180 4 3 366 true 181 367 .none (rf 368) (rf 369) (rf 370) 732,
 oF "__init__" "Rule.__init__" (sb 39 1) .none Sb (rf 371),
 oT [S "depth" 735,S "height" 736,S "width" 737] 0,
 oD [E P "__module__" 718 Sb,E P "__firstlineno__" 722 (I 177 721),E P "kind" 723 (I 4 614),E P "__init__" 734 (rf 372),E P "__static_attributes__" 738 (rf 373),E P "__dict__" 740 (rf 376),E P "__weakref__" 742 (rf 377),E P "__doc__" 743 .none] 4,
 ⟨.type "type",none,cl "Rule" [.type "object"] [rf 375,.type "object"] 374 "Rule" [],sl [none,none,some (S "Rule" 711),some (S "Rule" 719),some (.builtin "object.__new__"),some (.bool true)]⟩,
 oG [S "__dict__" 739,rf 375,.builtin "function.__dict__",.builtin "function.__dict__#set"],
 oG [S "__weakref__" 741,rf 375,.builtin "ExceptionGroup.__weakref__",.none],
 oX "super" [rf 375,rf 375,rf 375],
 oB [.builtin "object.__init_subclass__",rf 375]]
 (setL [(3,dcU [] [E P "Rule" 745 (rf 375)] 78),
 (12,flU [I 177 0,I 0 0,rf 364])] (T12 P))
def T14(P:Params):BT:=insL 380 [o0,
 oB [.builtin "type.__prepare__",.type "type"],
 oD [E P "__module__" 753 Sb,E P "__qualname__" 755 (S "Kern" 754),E P "__firstlineno__" 757 (I 187 756),E P "kind" 758 (I 5 615),E P "__init__" 767 (rf 393),E P "__static_attributes__" 770 (rf 394)] 6,
 o0,
 ⟨.none,none,fl [I 190 0,I 4 0,rf 392],#[]⟩,
 oC "Kern" "Kern" 748 187 0 0 383 false 181 384 .none .none .none .none 751,
 ⟨.type "frame",none,.plain,sl [some (rf 385),some (rf 3),some (rf 382),none,some Sb,none,some (rf 0)]⟩,
 o0,
 o1,
 oT [S "self" 762,S "width" 763,S "sort" 764] 0,
 o0,
 oS "__init__" "Kern.__init__" (sb 40 1),
 oC "__init__" "Kern.__init__" 759 190 3 3 387 true 181 388 .none (rf 389) (rf 390) (rf 391) 765,
 oF "__init__" "Kern.__init__" (sb 40 1) .none Sb (rf 392),
 oT [S "sort" 768,S "width" 769] 0,
 oD [E P "__module__" 753 Sb,E P "__firstlineno__" 757 (I 187 756),E P "kind" 758 (I 5 615),E P "__init__" 767 (rf 393),E P "__static_attributes__" 770 (rf 394),E P "__dict__" 772 (rf 397),E P "__weakref__" 774 (rf 398),E P "__doc__" 775 .none] 4,
 ⟨.type "type",none,cl "Kern" [.type "object"] [rf 396,.type "object"] 395 "Kern" [],sl [none,none,some (S "Kern" 746),some (S "Kern" 754),some (.builtin "object.__new__"),some (.bool true)]⟩,
 oG [S "__dict__" 771,rf 396,.builtin "function.__dict__",.builtin "function.__dict__#set"],
 oG [S "__weakref__" 773,rf 396,.builtin "ExceptionGroup.__weakref__",.none],
 oX "super" [rf 396,rf 396,rf 396],
 oB [.builtin "object.__init_subclass__",rf 396]]
 (setL [(3,dcU [] [E P "Kern" 777 (rf 396)] 79),
 (12,flU [I 187 0,I 0 0,rf 385])] (T13 P))
def T15(P:Params):BT:=insL 401 [o0,
 oB [.builtin "type.__prepare__",.type "type"],
 oD [E P "__module__" 785 Sb,E P "__qualname__" 787 (S "Skip" 786),E P "__firstlineno__" 789 (I 195 788),E P "kind" 790 (I 6 616),E P "__init__" 800 (rf 415),E P "__static_attributes__" 804 (rf 416)] 6,
 o0,
 ⟨.none,none,fl [I 198 0,I 4 0,rf 414],#[]⟩,
 oC "Skip" "Skip" 780 195 0 0 404 false 181 405 .none .none .none .none 783,
 ⟨.type "frame",none,.plain,sl [some (rf 406),some (rf 3),some (rf 403),none,some Sb,none,some (rf 0)]⟩,
 oT [.none] 0,
 o0,
 o1,
 oT [S "self" 794,S "glue" 795,S "sort" 796,S "leader" 797] 0,
 o0,
 oS "__init__" "Skip.__init__" (sb 41 1),
 oC "__init__" "Skip.__init__" 791 198 4 3 409 true 181 410 .none (rf 411) (rf 412) (rf 413) 798,
 oF "__init__" "Skip.__init__" (sb 41 1) (rf 408) Sb (rf 414),
 oT [S "glue" 801,S "leader" 802,S "sort" 803] 0,
 oD [E P "__module__" 785 Sb,E P "__firstlineno__" 789 (I 195 788),E P "kind" 790 (I 6 616),E P "__init__" 800 (rf 415),E P "__static_attributes__" 804 (rf 416),E P "__dict__" 806 (rf 419),E P "__weakref__" 808 (rf 420),E P "__doc__" 809 .none] 4,
 ⟨.type "type",none,cl "Skip" [.type "object"] [rf 418,.type "object"] 417 "Skip" [],sl [none,none,some (S "Skip" 778),some (S "Skip" 786),some (.builtin "object.__new__"),some (.bool true)]⟩,
 oG [S "__dict__" 805,rf 418,.builtin "function.__dict__",.builtin "function.__dict__#set"],
 oG [S "__weakref__" 807,rf 418,.builtin "ExceptionGroup.__weakref__",.none],
 oX "super" [rf 418,rf 418,rf 418],
 oB [.builtin "object.__init_subclass__",rf 418]]
 (setL [(3,dcU [] [E P "Skip" 811 (rf 418)] 80),
 (12,flU [I 195 0,I 0 0,rf 406])] (T14 P))
def T16(P:Params):BT:=insL 423 [o0,
 oB [.builtin "type.__prepare__",.type "type"],
 oD [E P "__module__" 819 Sb,E P "__qualname__" 821 (S "Penalty" 820),E P "__firstlineno__" 823 (I 208 822),E P "kind" 824 (I 7 617),E P "__init__" 832 (rf 436),E P "__static_attributes__" 834 (rf 437)] 6,
 o0,
 ⟨.none,none,fl [I 211 0,I 4 0,rf 435],#[]⟩,
 oC "Penalty" "Penalty" 814 208 0 0 426 false 181 427 .none .none .none .none 817,
 ⟨.type "frame",none,.plain,sl [some (rf 428),some (rf 3),some (rf 425),none,some Sb,none,some (rf 0)]⟩,
 o0,
 o1,
 oT [S "self" 828,S "value" 829] 0,
 o0,
 oS "__init__" "Penalty.__init__" (sb 42 1),
 oC "__init__" "Penalty.__init__" 825 211 2 3 430 true 181 431 .none (rf 432) (rf 433) (rf 434) 830,
 oF "__init__" "Penalty.__init__" (sb 42 1) .none Sb (rf 435),
 oT [S "value" 833] 0,
 oD [E P "__module__" 819 Sb,E P "__firstlineno__" 823 (I 208 822),E P "kind" 824 (I 7 617),E P "__init__" 832 (rf 436),E P "__static_attributes__" 834 (rf 437),E P "__dict__" 836 (rf 440),E P "__weakref__" 838 (rf 441),E P "__doc__" 839 .none] 4,
 ⟨.type "type",none,cl "Penalty" [.type "object"] [rf 439,.type "object"] 438 "Penalty" [],sl [none,none,some (S "Penalty" 812),some (S "Penalty" 820),some (.builtin "object.__new__"),some (.bool true)]⟩,
 oG [S "__dict__" 835,rf 439,.builtin "function.__dict__",.builtin "function.__dict__#set"],
 oG [S "__weakref__" 837,rf 439,.builtin "ExceptionGroup.__weakref__",.none],
 oX "super" [rf 439,rf 439,rf 439],
 oB [.builtin "object.__init_subclass__",rf 439]]
 (setL [(3,dcU [] [E P "Penalty" 841 (rf 439)] 81),
 (12,flU [I 208 0,I 0 0,rf 428])] (T15 P))
def T17(P:Params):BT:=insL 444 [o0,
 oB [.builtin "type.__prepare__",.type "type"],
 oD [E P "__module__" 849 Sb,E P "__qualname__" 851 (S "Unset" 850),E P "__firstlineno__" 853 (I 213 852),E P "kind" 854 (I 14 632),E P "__init__" 868 (rf 458),E P "__static_attributes__" 876 (rf 459)] 6,
 o0,
 ⟨.none,none,fl [I 216 0,I 4 0,rf 457],#[]⟩,
 oC "Unset" "Unset" 844 213 0 0 447 false 181 448 .none .none .none .none 847,
 ⟨.type "frame",none,.plain,sl [some (rf 449),some (rf 3),some (rf 446),none,some Sb,none,some (rf 0)]⟩,
 oT [.bool false] 0,
 o0,
 o1,
 oT [S "self" 858,S "width" 859,S "height" 860,S "depth" 861,S "items" 862,S "spans" 863,S "totals" 864,S "is_vertical" 865] 0,
 o0,
 oS "__init__" "Unset.__init__" (sb 43 1),
 oC "__init__" "Unset.__init__" 855 216 8 3 452 true 181 453 .none (rf 454) (rf 455) (rf 456) 866,
 oF "__init__" "Unset.__init__" (sb 43 1) (rf 451) Sb (rf 457),
 oT [S "depth" 869,S "height" 870,S "is_vertical" 871,S "items" 872,S "spans" 873,S "totals" 874,S "width" 875] 0,
 oD [E P "__module__" 849 Sb,E P "__firstlineno__" 853 (I 213 852),E P "kind" 854 (I 14 632),E P "__init__" 868 (rf 458),E P "__static_attributes__" 876 (rf 459),E P "__dict__" 878 (rf 462),E P "__weakref__" 880 (rf 463),E P "__doc__" 881 .none] 4,
 ⟨.type "type",none,cl "Unset" [.type "object"] [rf 461,.type "object"] 460 "Unset" [],sl [none,none,some (S "Unset" 842),some (S "Unset" 850),some (.builtin "object.__new__"),some (.bool true)]⟩,
 oG [S "__dict__" 877,rf 461,.builtin "function.__dict__",.builtin "function.__dict__#set"],
 oG [S "__weakref__" 879,rf 461,.builtin "ExceptionGroup.__weakref__",.none],
 oX "super" [rf 461,rf 461,rf 461],
 oB [.builtin "object.__init_subclass__",rf 461],
 o0,
 o1,
 oT [S "depth" 887] 0,
 o0,
 oS "check_depth" "check_depth" (st 44),
 oC "check_depth" "check_depth" 884 226 1 3 466 true 181 467 .none (rf 468) (rf 469) (rf 470) 888,
 oF "check_depth" "check_depth" (st 44) .none Sb (rf 471),
 o0,
 o1,
 oT [S "node" 894,S "depth" 895,S "kind" 896,S "sums" 897,S "sizes" 898] 0,
 o0,
 oS "described_rest" "described_rest" (st 45),
 oC "described_rest" "described_rest" 891 229 2 3 473 true 181 474 .none (rf 475) (rf 476) (rf 477) 899,
 oF "described_rest" "described_rest" (st 45) .none Sb (rf 478),
 oT [I 0 902] 0,
 o0,
 o1,
 oS "described" "described" (st 46),
 oC "described" "described" 903 244 2 3 481 true 181 482 .none .none .none (rf 483) 906,
 oF "described" "described" (st 46) (rf 480) Sb (rf 484),
 oT [I 0 909] 0,
 o0,
 o1,
 oS "described_list" "described_list" (st 47),
 oC "described_list" "described_list" 910 267 2 3 487 true 181 488 .none .none .none (rf 489) 913,
 oF "described_list" "described_list" (st 47) (rf 486) Sb (rf 490),
 o0,
 o1,
 oS "width_of" "width_of" (st 48),
 oC "width_of" "width_of" 916 269 1 3 492 true 181 493 .none .none .none (rf 494) 919,
 oF "width_of" "width_of" (st 48) .none Sb (rf 495)]
 (setL [(3,dcU [] [E P "Unset" 883 (rf 461),E P "check_depth" 890 (rf 472),E P "described_rest" 901 (rf 479),E P "described" 908 (rf 485),E P "described_list" 915 (rf 491),E P "width_of" 921 (rf 496)] 87),
 (12,flU [I 213 0,I 0 0,rf 449,I 226 0,I 0 0,rf 471,I 229 0,I 0 0,rf 478,I 244 0,I 0 0,rf 484,I 267 0,I 0 0,rf 490,I 269 0,I 0 0,rf 495])] (T16 P))
def T18(P:Params):BT:=insL 497 [o0,
 o1,
 oS "height_of" "height_of" (st 49),
 oC "height_of" "height_of" 922 282 1 3 497 true 181 498 .none .none .none (rf 499) 925,
 oF "height_of" "height_of" (st 49) .none Sb (rf 500),
 o0,
 o1,
 oS "depth_of" "depth_of" (st 50),
 oC "depth_of" "depth_of" 928 295 1 3 502 true 181 503 .none .none .none (rf 504) 931,
 oF "depth_of" "depth_of" (st 50) .none Sb (rf 505),
 o0,
 o1,
 oT [S "node" 937] 0,
 o0,
 oS "line_height" "line_height" (st 51),
 oC "line_height" "line_height" 934 308 1 3 507 true 181 508 .none (rf 509) (rf 510) (rf 511) 938,
 oF "line_height" "line_height" (st 51) .none Sb (rf 512),
 o0,
 o1,
 oT [S "node" 944] 0,
 o0,
 oS "line_depth" "line_depth" (st 52),
 oC "line_depth" "line_depth" 941 312 1 3 514 true 181 515 .none (rf 516) (rf 517) (rf 518) 945,
 oF "line_depth" "line_depth" (st 52) .none Sb (rf 519),
 oT [I 0 950,I 1 951] 0,
 oX "tuple_iterator" [.none,I 2 0],
 o0,
 oX "StopIteration" [rf 523,.none,.none,.none,.bool false,.none],
 oT [I 0 954,I 1 955,I 2 956,I 3 957] 0,
 oX "tuple_iterator" [.none,I 4 0],
 o0,
 oX "StopIteration" [rf 527,.none,.none,.none,.bool false,.none],
 o0,
 o1,
 oT [S "items" 965,S "totals" 966,S "height" 967,S "depth" 968,S "node" 969] 0,
 o0,
 oS "natural_line" "natural_line" (st 56),
 oC "natural_line" "natural_line" 962 319 1 3 529 true 181 530 .none (rf 531) (rf 532) (rf 533) 970,
 oF "natural_line" "natural_line" (st 56) .none Sd (rf 534),
 o0,
 o1,
 oT [S "node" 976] 0,
 o0,
 oS "across" "across" (st 57),
 oC "across" "across" 973 330 1 3 536 true 181 537 .none (rf 538) (rf 539) (rf 540) 977,
 oF "across" "across" (st 57) .none Sd (rf 541),
 o0,
 o1,
 oT [S "items" 983,S "node" 984] 0,
 o0,
 oS "check_column" "check_column" (st 58),
 oC "check_column" "check_column" 980 336 1 3 543 true 181 544 .none (rf 545) (rf 546) (rf 547) 985,
 oF "check_column" "check_column" (st 58) .none Sd (rf 548)]
 (setL [(3,dcU [(0,E P "__name__" 165 Sd)] [E P "height_of" 927 (rf 501),E P "depth_of" 933 (rf 506),E P "line_height" 940 (rf 513),E P "line_depth" 947 (rf 520),E P "EXACTLY" 952 (I 0 950),E P "SPREAD" 953 (I 1 951),E P "FINE" 958 (I 0 954),E P "LOOSE" 959 (I 1 955),E P "TIGHT" 960 (I 2 956),E P "OVERFULL" 961 (I 3 957),E P "natural_line" 972 (rf 535),E P "across" 979 (rf 542),E P "check_column" 987 (rf 549)] 100),
 (12,flU [I 282 0,I 0 0,rf 500,I 295 0,I 0 0,rf 505,I 308 0,I 0 0,rf 512,I 312 0,I 0 0,rf 519,I 319 0,I 0 0,rf 534,I 330 0,I 0 0,rf 541,I 336 0,I 0 0,rf 548])] (T17 P))
def T19(P:Params):BT:=insL 550 [o0,
 o1,
 oT [S "items" 991,S "totals" 992,S "width" 993,S "depth" 994,S "node" 995] 0,
 o0,
 oS "natural_column" "natural_column" (st 59),
 oC "natural_column" "natural_column" 988 340 1 3 550 true 181 551 .none (rf 552) (rf 553) (rf 554) 996,
 oF "natural_column" "natural_column" (st 59) .none Sd (rf 555),
 o0,
 o1,
 oT [S "up" 1002,S "down" 1003] 0,
 o0,
 oS "quotient" "quotient" (st 60),
 oC "quotient" "quotient" 999 357 2 3 557 true 181 558 .none (rf 559) (rf 560) (rf 561) 1004,
 oF "quotient" "quotient" (st 60) .none Sd (rf 562),
 o0,
 o1,
 oT [S "totals" 1010,S "excess" 1011,S "order" 1012,S "total" 1013,S "report" 1014] 0,
 o0,
 oS "set_glue" "set_glue" (st 61),
 oC "set_glue" "set_glue" 1007 359 2 3 564 true 181 565 .none (rf 566) (rf 567) (rf 568) 1015,
 oF "set_glue" "set_glue" (st 61) .none Sd (rf 569),
 o0,
 o1,
 oT [S "box" 1021,S "glue" 1022] 0,
 o0,
 oS "flex" "flex" (st 62),
 oC "flex" "flex" 1018 374 2 3 571 true 181 572 .none (rf 573) (rf 574) (rf 575) 1023,
 oF "flex" "flex" (st 62) .none Sd (rf 576),
 o0,
 o1,
 oT [S "box" 1029,S "flexed" 1030] 0,
 o0,
 oS "set_part" "set_part" (st 63),
 oC "set_part" "set_part" 1026 380 2 3 578 true 181 579 .none (rf 580) (rf 581) (rf 582) 1031,
 oF "set_part" "set_part" (st 63) .none Sd (rf 583),
 o0,
 o1,
 oT [S "box" 1037,S "node" 1038] 0,
 o0,
 oS "part_size" "part_size" (st 64),
 oC "part_size" "part_size" 1034 382 2 3 585 true 181 586 .none (rf 587) (rf 588) (rf 589) 1039,
 oF "part_size" "part_size" (st 64) .none Sd (rf 590),
 o0,
 o1,
 oT [S "box" 1045,S "found" 1046,S "fixed" 1047,S "flexed" 1048,S "node" 1049] 0,
 o0,
 oS "places" "places" (st 65),
 oC "places" "places" 1042 386 1 3 592 true 181 593 .none (rf 594) (rf 595) (rf 596) 1050,
 oF "places" "places" (st 65) .none Sd (rf 597),
 o0,
 o1,
 oT [S "items" 1056,S "kept" 1057,S "out" 1058,S "node" 1059] 0,
 o0,
 oS "moved" "moved" (st 66),
 oC "moved" "moved" 1053 399 1 3 599 true 181 600 .none (rf 601) (rf 602) (rf 603) 1060,
 oF "moved" "moved" (st 66) .none Sd (rf 604),
 o0,
 o1,
 oT [S "own" 1066,S "mode" 1067,S "amount" 1068] 0,
 o0,
 oS "goal_size" "goal_size" (st 67),
 oC "goal_size" "goal_size" 1063 409 3 3 606 true 181 607 .none (rf 608) (rf 609) (rf 610) 1069,
 oF "goal_size" "goal_size" (st 67) .none Sd (rf 611),
 o0,
 o1,
 oT [S "box" 1075,S "totals" 1076,S "excess" 1077,S "report" 1078] 0,
 o0,
 oS "set_box" "set_box" (st 68),
 oC "set_box" "set_box" 1072 414 3 3 613 true 181 614 .none (rf 615) (rf 616) (rf 617) 1079,
 oF "set_box" "set_box" (st 68) .none Sd (rf 618),
 oT [I 1 951,I 0 1082,.none] 0,
 o0,
 o1,
 oT [S "items" 1086,S "mode" 1087,S "amount" 1088,S "outside" 1089,S "kept" 1090,S "out" 1091,S "totals" 1092,S "height" 1093,S "depth" 1094,S "width" 1095,S "box" 1096] 0,
 o0,
 oS "hpack" "hpack" (st 69),
 oC "hpack" "hpack" 1083 417 4 3 621 true 181 622 .none (rf 623) (rf 624) (rf 625) 1097,
 oF "hpack" "hpack" (st 69) (rf 620) Sd (rf 626),
 oT [I 1 951,I 0 1100,I 1073741823 308] 0,
 o0,
 o1,
 oT [S "items" 1104,S "mode" 1105,S "amount" 1106,S "most_depth" 1107,S "totals" 1108,S "width" 1109,S "depth" 1110,S "height" 1111,S "box" 1112] 0,
 o0,
 oS "vpack" "vpack" (st 70),
 oC "vpack" "vpack" 1101 425 4 3 629 true 181 630 .none (rf 631) (rf 632) (rf 633) 1113,
 oF "vpack" "vpack" (st 70) (rf 628) Sd (rf 634)]
 (setL [(3,dcU [] [E P "natural_column" 998 (rf 556),E P "quotient" 1006 (rf 563),E P "set_glue" 1017 (rf 570),E P "flex" 1025 (rf 577),E P "set_part" 1033 (rf 584),E P "part_size" 1041 (rf 591),E P "places" 1052 (rf 598),E P "moved" 1062 (rf 605),E P "goal_size" 1071 (rf 612),E P "set_box" 1081 (rf 619),E P "hpack" 1099 (rf 627),E P "vpack" 1115 (rf 635)] 112),
 (12,flU [I 340 0,I 0 0,rf 555,I 357 0,I 0 0,rf 562,I 359 0,I 0 0,rf 569,I 374 0,I 0 0,rf 576,I 380 0,I 0 0,rf 583,I 382 0,I 0 0,rf 590,I 386 0,I 0 0,rf 597,I 399 0,I 0 0,rf 604,I 409 0,I 0 0,rf 611,I 414 0,I 0 0,rf 618,I 417 0,I 0 0,rf 626,I 425 0,I 0 0,rf 634])] (T18 P))
def T20(P:Params):BT:=insL 636 [o0,
 o1,
 oT [S "cell" 1123] 0,
 o0,
 oS "along" "along" (st 73),
 oC "along" "along" 1120 436 1 3 636 true 181 637 .none (rf 638) (rf 639) (rf 640) 1124,
 oF "along" "along" (st 73) .none Se (rf 641),
 o0,
 o1,
 oT [S "columns" 1130,S "skips" 1131,S "skip" 1132] 0,
 o0,
 oS "check_skips" "check_skips" (st 74),
 oC "check_skips" "check_skips" 1127 438 2 3 643 true 181 644 .none (rf 645) (rf 646) (rf 647) 1133,
 oF "check_skips" "check_skips" (st 74) .none Se (rf 648),
 o0,
 o1,
 oT [S "row" 1139,S "columns" 1140,S "found" 1141,S "column" 1142,S "cell" 1143] 0,
 o0,
 oS "placed_cells" "placed_cells" (st 75),
 oC "placed_cells" "placed_cells" 1136 444 2 3 650 true 181 651 .none (rf 652) (rf 653) (rf 654) 1144,
 oF "placed_cells" "placed_cells" (st 75) .none Se (rf 655),
 o0,
 o1,
 oS "widths" "widths" (st 76),
 oC "widths" "widths" 1147 454 3 3 657 true 181 658 .none .none .none (rf 659) 1150,
 oF "widths" "widths" (st 76) .none Se (rf 660),
 o0,
 o1,
 oT [S "width" 1156,S "is_vertical" 1157,S "size" 1158] 0,
 o0,
 oS "empty_box" "empty_box" (st 77),
 oC "empty_box" "empty_box" 1153 469 2 3 662 true 181 663 .none (rf 664) (rf 665) (rf 666) 1159,
 oF "empty_box" "empty_box" (st 77) .none Se (rf 667),
 o0,
 o1,
 oT [S "sizes" 1165,S "skips" 1166,S "column" 1167] 0,
 o0,
 oS "tab_node" "tab_node" (st 78),
 oC "tab_node" "tab_node" 1162 472 3 3 669 true 181 670 .none (rf 671) (rf 672) (rf 673) 1168,
 oF "tab_node" "tab_node" (st 78) .none Se (rf 674),
 o0,
 o1,
 oT [S "sizes" 1174,S "skips" 1175,S "mode" 1176,S "amount" 1177,S "is_vertical" 1178,S "items" 1179,S "column" 1180] 0,
 o0,
 oS "prototype" "prototype" (st 79),
 oC "prototype" "prototype" 1171 474 5 3 676 true 181 677 .none (rf 678) (rf 679) (rf 680) 1181,
 oF "prototype" "prototype" (st 79) .none Se (rf 681),
 o0,
 o1,
 oS "row_box" "row_box" (st 80),
 oC "row_box" "row_box" 1184 481 3 3 683 true 181 684 .none .none .none (rf 685) 1187,
 oF "row_box" "row_box" (st 80) .none Se (rf 686),
 o0,
 o1,
 oT [S "cell" 1193,S "width" 1194,S "size" 1195,S "row" 1196,S "own" 1197,S "box" 1198,S "report" 1199] 0,
 o0,
 oS "set_cell" "set_cell" (st 81),
 oC "set_cell" "set_cell" 1190 492 4 3 688 true 181 689 .none (rf 690) (rf 691) (rf 692) 1200,
 oF "set_cell" "set_cell" (st 81) .none Se (rf 693),
 o0,
 o1,
 oT [S "cells" 1206,S "sizes" 1207,S "skips" 1208,S "model" 1209,S "edges" 1210,S "is_vertical" 1211,S "row" 1212,S "column" 1213,S "cell" 1214,S "last" 1215,S "other" 1216] 0,
 o0,
 oS "set_row" "set_row" (st 82),
 oC "set_row" "set_row" 1203 500 6 3 695 true 181 696 .none (rf 697) (rf 698) (rf 699) 1217,
 oF "set_row" "set_row" (st 82) .none Se (rf 700),
 o0,
 o1,
 oT [S "rule" 1223,S "model" 1224,S "width" 1225,S "height" 1226] 0,
 o0,
 oS "set_rule" "set_rule" (st 83),
 oC "set_rule" "set_rule" 1220 511 2 3 702 true 181 703 .none (rf 704) (rf 705) (rf 706) 1227,
 oF "set_rule" "set_rule" (st 83) .none Se (rf 707)]
 (setL [(3,dcU [(0,E P "__name__" 165 Se)] [E P "TAB_SORT" 1119 (I 109 1118),E P "along" 1126 (rf 642),E P "check_skips" 1135 (rf 649),E P "placed_cells" 1146 (rf 656),E P "widths" 1152 (rf 661),E P "empty_box" 1161 (rf 668),E P "tab_node" 1170 (rf 675),E P "prototype" 1183 (rf 682),E P "row_box" 1189 (rf 687),E P "set_cell" 1202 (rf 694),E P "set_row" 1219 (rf 701),E P "set_rule" 1229 (rf 708)] 124),
 (12,flU [I 436 0,I 0 0,rf 641,I 438 0,I 0 0,rf 648,I 444 0,I 0 0,rf 655,I 454 0,I 0 0,rf 660,I 469 0,I 0 0,rf 667,I 472 0,I 0 0,rf 674,I 474 0,I 0 0,rf 681,I 481 0,I 0 0,rf 686,I 492 0,I 0 0,rf 693,I 500 0,I 0 0,rf 700,I 511 0,I 0 0,rf 707])] (T19 P))
def T21(P:Params):BT:=insL 709 [o0,
 o1,
 oT [S "rows" 1233,S "sizes" 1234,S "skips" 1235,S "mode" 1236,S "amount" 1237,S "is_vertical" 1238,S "model" 1239,S "report" 1240,S "edges" 1241,S "found" 1242,S "row" 1243,S "cells" 1244,S "column" 1245,S "cell" 1246] 0,
 o0,
 oS "finished" "finished" (st 84),
 oC "finished" "finished" 1230 515 6 3 709 true 181 710 .none (rf 711) (rf 712) (rf 713) 1247,
 oF "finished" "finished" (st 84) .none Se (rf 714),
 o0,
 o1,
 oT [S "cell" 1255,S "more" 1256] 0,
 o0,
 oS "_law_box" "_law_box" (st 86),
 oC "_law_box" "_law_box" 1252 532 2 3 716 true 181 717 .none (rf 718) (rf 719) (rf 720) 1257,
 oF "_law_box" "_law_box" (st 86) .none Sc (rf 721),
 o0,
 o1,
 oT [S "box" 1263,S "many" 1264,S "digit" 1265] 0,
 o0,
 oS "_law_take" "_law_take" (st 87),
 oC "_law_take" "_law_take" 1260 534 2 3 723 true 181 724 .none (rf 725) (rf 726) (rf 727) 1266,
 oF "_law_take" "_law_take" (st 87) .none Sc (rf 728),
 o0,
 o1,
 oT [S "box" 1272,S "breadth" 1273,S "more" 1274,S "less" 1275,S "first" 1276,S "second" 1277] 0,
 o0,
 oS "_law_flow" "_law_flow" (st 88),
 oC "_law_flow" "_law_flow" 1269 541 1 3 730 true 181 731 .none (rf 732) (rf 733) (rf 734) 1278,
 oF "_law_flow" "_law_flow" (st 88) .none Sc (rf 735),
 o0,
 o1,
 oT [S "box" 1284,S "spans" 1285,S "upright" 1286,S "items" 1287,S "sums" 1288,S "size" 1289,S "lap" 1290,S "breadth" 1291,S "flow" 1292,S "high" 1293,S "deep" 1294] 0,
 o0,
 oS "_law_cell" "_law_cell" (st 89),
 oC "_law_cell" "_law_cell" 1281 545 3 3 737 true 181 738 .none (rf 739) (rf 740) (rf 741) 1295,
 oF "_law_cell" "_law_cell" (st 89) .none Sc (rf 742),
 o0,
 o1,
 oS "_law_other" "_law_other" (st 90),
 oC "_law_other" "_law_other" 1298 562 2 3 744 true 181 745 .none .none .none (rf 746) 1301,
 oF "_law_other" "_law_other" (st 90) .none Sc (rf 747),
 o0,
 o1,
 oT [S "box" 1307,S "columns" 1308,S "upright" 1309,S "rows" 1310,S "turn" 1311,S "row" 1312,S "column" 1313,S "lap" 1314,S "spans" 1315,S "way" 1316] 0,
 o0,
 oS "_law_rows" "_law_rows" (st 91),
 oC "_law_rows" "_law_rows" 1304 567 3 3 749 true 181 750 .none (rf 751) (rf 752) (rf 753) 1317,
 oF "_law_rows" "_law_rows" (st 91) .none Sc (rf 754),
 o0,
 o1,
 oT [S "size" 1323] 0,
 o0,
 oS "_law_wide" "_law_wide" (st 92),
 oC "_law_wide" "_law_wide" 1320 581 1 3 756 true 181 757 .none (rf 758) (rf 759) (rf 760) 1324,
 oF "_law_wide" "_law_wide" (st 92) .none Sc (rf 761),
 o0,
 o1,
 oS "_law_fits" "_law_fits" (st 93),
 oC "_law_fits" "_law_fits" 1327 583 4 3 763 true 181 764 .none .none .none (rf 765) 1330,
 oF "_law_fits" "_law_fits" (st 93) .none Sc (rf 766),
 o0,
 o1,
 oT [S "excess" 1336,S "total" 1337,S "ratio" 1338] 0,
 o0,
 oS "_law_bad" "_law_bad" (st 94),
 oC "_law_bad" "_law_bad" 1333 593 2 3 768 true 181 769 .none (rf 770) (rf 771) (rf 772) 1339,
 oF "_law_bad" "_law_bad" (st 94) .none Sc (rf 773),
 o0,
 o1,
 oS "_law_told" "_law_told" (st 95),
 oC "_law_told" "_law_told" 1342 596 3 3 775 true 181 776 .none .none .none (rf 777) 1345,
 oF "_law_told" "_law_told" (st 95) .none Sc (rf 778),
 o0,
 o1,
 oT [S "up" 1351,S "down" 1352,S "near" 1353] 0,
 o0,
 oS "_law_near" "_law_near" (st 96),
 oC "_law_near" "_law_near" 1348 609 2 3 780 true 181 781 .none (rf 782) (rf 783) (rf 784) 1354,
 oF "_law_near" "_law_near" (st 96) .none Sc (rf 785)]
 (setL [(3,dcU [(0,E P "__name__" 165 Sc)] [E P "finished" 1249 (rf 715),E P "_law_box" 1259 (rf 722),E P "_law_take" 1268 (rf 729),E P "_law_flow" 1280 (rf 736),E P "_law_cell" 1297 (rf 743),E P "_law_other" 1303 (rf 748),E P "_law_rows" 1319 (rf 755),E P "_law_wide" 1326 (rf 762),E P "_law_fits" 1332 (rf 767),E P "_law_bad" 1341 (rf 774),E P "_law_told" 1347 (rf 779),E P "_law_near" 1356 (rf 786)] 136),
 (12,flU [I 515 0,I 0 0,rf 714,I 532 0,I 0 0,rf 721,I 534 0,I 0 0,rf 728,I 541 0,I 0 0,rf 735,I 545 0,I 0 0,rf 742,I 562 0,I 0 0,rf 747,I 567 0,I 0 0,rf 754,I 581 0,I 0 0,rf 761,I 583 0,I 0 0,rf 766,I 593 0,I 0 0,rf 773,I 596 0,I 0 0,rf 778,I 609 0,I 0 0,rf 785])] (T20 P))
def T22(P:Params):BT:=insL 787 [o0,
 o1,
 oT [S "sizes" 1360,S "flows" 1361,S "told" 1362,S "found" 1363,S "fixed" 1364,S "flexed" 1365,S "k" 1366,S "breadth" 1367,S "more" 1368,S "first" 1369,S "less" 1370,S "second" 1371] 0,
 o0,
 oS "_law_edges" "_law_edges" (st 97),
 oC "_law_edges" "_law_edges" 1357 612 3 3 787 true 181 788 .none (rf 789) (rf 790) (rf 791) 1372,
 oF "_law_edges" "_law_edges" (st 97) .none Sc (rf 792),
 o0,
 o1,
 oT [S "upright" 1378,S "dims" 1379,S "items" 1380,S "told" 1381,S "made" 1382] 0,
 o0,
 oS "_law_made" "_law_made" (st 98),
 oC "_law_made" "_law_made" 1375 623 4 3 794 true 181 795 .none (rf 796) (rf 797) (rf 798) 1383,
 oF "_law_made" "_law_made" (st 98) .none Sc (rf 799),
 o0,
 o1,
 oS "_law_row" "_law_row" (st 99),
 oC "_law_row" "_law_row" 1386 627 7 3 801 true 181 802 .none .none .none (rf 803) 1389,
 oF "_law_row" "_law_row" (st 99) .none Sc (rf 804),
 o0,
 o1,
 oT [S "rows" 1395,S "sizes" 1396,S "flows" 1397,S "goal" 1398,S "told" 1399,S "upright" 1400,S "edges" 1401,S "found" 1402,S "breadth" 1403,S "high" 1404,S "row" 1405] 0,
 o0,
 oS "_law_due" "_law_due" (st 100),
 oC "_law_due" "_law_due" 1392 644 6 3 806 true 181 807 .none (rf 808) (rf 809) (rf 810) 1406,
 oF "_law_due" "_law_due" (st 100) .none Sc (rf 811),
 o0,
 o1,
 oT [S "box" 1412,S "own" 1413,S "less" 1414,S "mode" 1415,S "way" 1416,S "plus" 1417,S "minus" 1418,S "far" 1419,S "gap" 1420] 0,
 o0,
 oS "_law_goal" "_law_goal" (st 101),
 oC "_law_goal" "_law_goal" 1409 655 3 3 813 true 181 814 .none (rf 815) (rf 816) (rf 817) 1421,
 oF "_law_goal" "_law_goal" (st 101) .none Sc (rf 818),
 o0,
 o1,
 oT [S "deed" 1427] 0,
 o0,
 oS "_law_said" "_law_said" (st 102),
 oC "_law_said" "_law_said" 1424 662 1 3 820 true 181 821 .none (rf 822) (rf 823) (rf 824) 1428,
 oF "_law_said" "_law_said" (st 102) .none Sc (rf 825),
 o0,
 o1,
 oS "_law_flat" "_law_flat" (st 103),
 oC "_law_flat" "_law_flat" 1431 672 1 3 827 true 181 828 .none .none .none (rf 829) 1434,
 oF "_law_flat" "_law_flat" (st 103) .none Sc (rf 830),
 o0,
 o1,
 oS "_law_refused" "_law_refused" (st 104),
 oC "_law_refused" "_law_refused" 1437 674 4 3 832 true 181 833 .none .none .none (rf 834) 1440,
 oF "_law_refused" "_law_refused" (st 104) .none Sc (rf 835),
 o0,
 o1,
 oS "_law_round" "_law_round" (st 105),
 oC "_law_round" "_law_round" 1443 692 2 3 837 true 181 838 .none .none .none (rf 839) 1446,
 oF "_law_round" "_law_round" (st 105) .none Sc (rf 840),
 o0,
 o1,
 oT [S "script" 1452,S "cells" 1453,S "k" 1454] 0,
 o0,
 oS "law" "law" (st 106),
 oC "law" "law" 1449 716 1 3 842 true 181 843 .none (rf 844) (rf 845) (rf 846) 1455,
 oF "law" "law" (st 106) .none Sc (rf 847)]
 (setL [(3,dcU [] [E P "_law_edges" 1374 (rf 793),E P "_law_made" 1385 (rf 800),E P "_law_row" 1391 (rf 805),E P "_law_due" 1408 (rf 812),E P "_law_goal" 1423 (rf 819),E P "_law_said" 1430 (rf 826),E P "_law_flat" 1436 (rf 831),E P "_law_refused" 1442 (rf 836),E P "_law_round" 1448 (rf 841),E P "law" 1457 (rf 848)] 146),
 (12,flU [I 612 0,I 0 0,rf 792,I 623 0,I 0 0,rf 799,I 627 0,I 0 0,rf 804,I 644 0,I 0 0,rf 811,I 655 0,I 0 0,rf 818,I 662 0,I 0 0,rf 825,I 672 0,I 0 0,rf 830,I 674 0,I 0 0,rf 835,I 692 0,I 0 0,rf 840,I 716 0,I 0 0,rf 847])] (T21 P))
variable(w:World)(os:OsState)
theorem g1f :RT (w.withFollow "special-get-raises" false) 396 (SS T0 15 187 (w.withFollow "special-get-raises" false) os) (piecesOf (sts 0 4) env0 cE ⟨0,0,0,0⟩ B0)=some (.next,SS T1 47 236 (w.withFollow "special-get-raises" false) os,cE,⟨6,0,9,28⟩):=by
 show @Eq _ _ _;kernel_rfl
theorem g1t :RT (w.withFollow "special-get-raises" true) 396 (SS T0 15 187 (w.withFollow "special-get-raises" true) os) (piecesOf (sts 0 4) env0 cE ⟨0,0,0,0⟩ B0)=some (.next,SS T1 47 236 (w.withFollow "special-get-raises" true) os,cE,⟨6,0,9,28⟩):=by
 show @Eq _ _ _;kernel_rfl
theorem g1 :RT w 396 (SS T0 15 187 w os) (piecesOf (sts 0 4) env0 cE ⟨0,0,0,0⟩ B0)=some (.next,SS T1 47 236 w os,cE,⟨6,0,9,28⟩) :=
 byRow2 "special-get-raises" (P:=λw=>RT w 396 (SS T0 15 187 w os) (piecesOf (sts 0 4) env0 cE ⟨0,0,0,0⟩ B0)=some (.next,SS T1 47 236 w os,cE,⟨6,0,9,28⟩)) (λw=>g1f w os) (λw=>g1t w os) w
theorem g2 :RT w 214 (SS T1 47 236 w os) (piecesOf (sts 4 1) env0 cE ⟨6,0,9,28⟩ B0)=some (.next,SS T2 59 252 w os,cE,⟨10,0,11,8⟩):=by
 show @Eq _ _ _;kernel_rfl
theorem g3 :RT w 214 (SS T2 59 252 w os) (piecesOf (sts 5 1) env0 cE ⟨10,0,11,8⟩ B0)=some (.next,SS T3 71 268 w os,cE,⟨12,0,13,8⟩):=by
 show @Eq _ _ _;kernel_rfl
theorem g4 :RT w 214 (SS T3 71 268 w os) (piecesOf (sts 6 1) env0 cE ⟨12,0,13,8⟩ B0)=some (.next,SS T4 83 284 w os,cE,⟨14,0,15,8⟩):=by
 show @Eq _ _ _;kernel_rfl
theorem g5f :RT (w.withFollow "special-get-raises" false) 384 (SS T4 83 284 (w.withFollow "special-get-raises" false) os) (piecesOf (sts 7 7) env0 cE ⟨14,0,15,8⟩ B0)=some (.next,SS T5 99 326 (w.withFollow "special-get-raises" false) os,cE,⟨23,19,23,24⟩):=by
 show @Eq _ _ _;kernel_rfl
theorem g5t :RT (w.withFollow "special-get-raises" true) 384 (SS T4 83 284 (w.withFollow "special-get-raises" true) os) (piecesOf (sts 7 7) env0 cE ⟨14,0,15,8⟩ B0)=some (.next,SS T5 99 326 (w.withFollow "special-get-raises" true) os,cE,⟨23,19,23,24⟩):=by
 show @Eq _ _ _;kernel_rfl
theorem g5 :RT w 384 (SS T4 83 284 w os) (piecesOf (sts 7 7) env0 cE ⟨14,0,15,8⟩ B0)=some (.next,SS T5 99 326 w os,cE,⟨23,19,23,24⟩) :=
 byRow2 "special-get-raises" (P:=λw=>RT w 384 (SS T4 83 284 w os) (piecesOf (sts 7 7) env0 cE ⟨14,0,15,8⟩ B0)=some (.next,SS T5 99 326 w os,cE,⟨23,19,23,24⟩)) (λw=>g5f w os) (λw=>g5t w os) w
theorem g6 :RT w 388 (SS T5 99 326 w os) (piecesOf (sts 14 14) env0 cE ⟨23,19,23,24⟩ B0)=some (.next,SS T6 183 431 w os,cE,⟨88,0,89,81⟩):=by
 show @Eq _ _ _;kernel_rfl
theorem g7 :RT w 466 (SS T6 183 431 w os) (piecesOf (sts 28 1) env0 cE ⟨88,0,89,81⟩ B0)=some (.next,SS T7 255 533 w os,cE,⟨90,0,127,20⟩):=by
 show @Eq _ _ _;kernel_rfl
theorem g8 :RT w 31 (SS T7 255 533 w os) (piecesOf (sts 29 1) env0 cE ⟨90,0,127,20⟩ B0)=some (.next,SS T8 262 541 w os,cE,⟨128,0,132,17⟩):=by
 show @Eq _ _ _;kernel_rfl
theorem g9 :RT w 390 (SS T8 262 541 w os) (piecesOf (sts 30 2) env0 cE ⟨128,0,132,17⟩ B0)=some (.next,SS T9 318 610 w os,cE,⟨156,0,156,8⟩):=by
 show @Eq _ _ _;kernel_rfl
theorem g10f :RT (w.withFollow "special-get-raises" false) 329 (SS T9 318 610 (w.withFollow "special-get-raises" false) os) (piecesOf (sts 32 2) env0 cE ⟨156,0,156,8⟩ B0)=some (.next,SS T10 326 640 (w.withFollow "special-get-raises" false) os,cE,⟨158,43,158,48⟩):=by
 show @Eq _ _ _;kernel_rfl
theorem g10t :RT (w.withFollow "special-get-raises" true) 329 (SS T9 318 610 (w.withFollow "special-get-raises" true) os) (piecesOf (sts 32 2) env0 cE ⟨156,0,156,8⟩ B0)=some (.next,SS T10 326 640 (w.withFollow "special-get-raises" true) os,cE,⟨158,43,158,48⟩):=by
 show @Eq _ _ _;kernel_rfl
theorem g10 :RT w 329 (SS T9 318 610 w os) (piecesOf (sts 32 2) env0 cE ⟨156,0,156,8⟩ B0)=some (.next,SS T10 326 640 w os,cE,⟨158,43,158,48⟩) :=
 byRow2 "special-get-raises" (P:=λw=>RT w 329 (SS T9 318 610 w os) (piecesOf (sts 32 2) env0 cE ⟨156,0,156,8⟩ B0)=some (.next,SS T10 326 640 w os,cE,⟨158,43,158,48⟩)) (λw=>g10f w os) (λw=>g10t w os) w
theorem g11f :RT (w.withFollow "special-get-raises" false) 349 (SS T10 326 640 (w.withFollow "special-get-raises" false) os) (piecesOf (sts 34 4) env0 cE ⟨158,43,158,48⟩ B0)=some (.next,SS T11 338 670 (w.withFollow "special-get-raises" false) os,cE,⟨162,0,162,7⟩):=by
 show @Eq _ _ _;kernel_rfl
theorem g11t :RT (w.withFollow "special-get-raises" true) 349 (SS T10 326 640 (w.withFollow "special-get-raises" true) os) (piecesOf (sts 34 4) env0 cE ⟨158,43,158,48⟩ B0)=some (.next,SS T11 338 670 (w.withFollow "special-get-raises" true) os,cE,⟨162,0,162,7⟩):=by
 show @Eq _ _ _;kernel_rfl
theorem g11 :RT w 349 (SS T10 326 640 w os) (piecesOf (sts 34 4) env0 cE ⟨158,43,158,48⟩ B0)=some (.next,SS T11 338 670 w os,cE,⟨162,0,162,7⟩) :=
 byRow2 "special-get-raises" (P:=λw=>RT w 349 (SS T10 326 640 w os) (piecesOf (sts 34 4) env0 cE ⟨158,43,158,48⟩ B0)=some (.next,SS T11 338 670 w os,cE,⟨162,0,162,7⟩)) (λw=>g11f w os) (λw=>g11t w os) w
theorem g12 :RT w 235 (SS T11 338 670 w os) (piecesOf (sts 38 1) env0 cE ⟨162,0,162,7⟩ B0)=some (.next,SS T12 359 711 w os,cE,⟨163,0,176,27⟩):=by
 show @Eq _ _ _;kernel_rfl
theorem g13 :RT w 241 (SS T12 359 711 w os) (piecesOf (sts 39 1) env0 cE ⟨163,0,176,27⟩ B0)=some (.next,SS T13 380 746 w os,cE,⟨177,0,186,26⟩):=by
 show @Eq _ _ _;kernel_rfl
theorem g14 :RT w 238 (SS T13 380 746 w os) (piecesOf (sts 40 1) env0 cE ⟨177,0,186,26⟩ B0)=some (.next,SS T14 401 778 w os,cE,⟨187,0,194,24⟩):=by
 show @Eq _ _ _;kernel_rfl
theorem g15 :RT w 241 (SS T14 401 778 w os) (piecesOf (sts 41 1) env0 cE ⟨187,0,194,24⟩ B0)=some (.next,SS T15 423 812 w os,cE,⟨195,0,207,28⟩):=by
 show @Eq _ _ _;kernel_rfl
theorem g16 :RT w 236 (SS T15 423 812 w os) (piecesOf (sts 42 1) env0 cE ⟨195,0,207,28⟩ B0)=some (.next,SS T16 444 842 w os,cE,⟨208,0,212,40⟩):=by
 show @Eq _ _ _;kernel_rfl
theorem g17 :RT w 393 (SS T16 444 842 w os) (piecesOf (sts 43 6) env0 cE ⟨208,0,212,40⟩ B0)=some (.next,SS T17 497 922 w os,cE,⟨269,0,281,12⟩):=by
 show @Eq _ _ _;kernel_rfl
theorem g18f :RT (w.withFollow "special-get-raises" false) 378 (SS T17 497 922 (w.withFollow "special-get-raises" false) os) (piecesOf (sts 49 10) env0 cE ⟨269,0,281,12⟩ B0)=some (.next,SS T18 550 988 (w.withFollow "special-get-raises" false) os,cE,⟨336,0,339,56⟩):=by
 show @Eq _ _ _;kernel_rfl
theorem g18t :RT (w.withFollow "special-get-raises" true) 378 (SS T17 497 922 (w.withFollow "special-get-raises" true) os) (piecesOf (sts 49 10) env0 cE ⟨269,0,281,12⟩ B0)=some (.next,SS T18 550 988 (w.withFollow "special-get-raises" true) os,cE,⟨336,0,339,56⟩):=by
 show @Eq _ _ _;kernel_rfl
theorem g18 :RT w 378 (SS T17 497 922 w os) (piecesOf (sts 49 10) env0 cE ⟨269,0,281,12⟩ B0)=some (.next,SS T18 550 988 w os,cE,⟨336,0,339,56⟩) :=
 byRow2 "special-get-raises" (P:=λw=>RT w 378 (SS T17 497 922 w os) (piecesOf (sts 49 10) env0 cE ⟨269,0,281,12⟩ B0)=some (.next,SS T18 550 988 w os,cE,⟨336,0,339,56⟩)) (λw=>g18f w os) (λw=>g18t w os) w
theorem g19 :RT w 401 (SS T18 550 988 w os) (piecesOf (sts 59 12) env0 cE ⟨336,0,339,56⟩ B0)=some (.next,SS T19 636 1116 w os,cE,⟨425,0,433,63⟩):=by
 show @Eq _ _ _;kernel_rfl
theorem g20 :RT w 375 (SS T19 636 1116 w os) (piecesOf (sts 71 13) env0 cE ⟨425,0,433,63⟩ B0)=some (.next,SS T20 709 1230 w os,cE,⟨511,0,514,81⟩):=by
 show @Eq _ _ _;kernel_rfl
theorem g21 :RT w 393 (SS T20 709 1230 w os) (piecesOf (sts 84 13) env0 cE ⟨511,0,514,81⟩ B0)=some (.next,SS T21 787 1357 w os,cE,⟨609,0,611,36⟩):=by
 show @Eq _ _ _;kernel_rfl
theorem g22 :RT w 314 (SS T21 787 1357 w os) (piecesOf (sts 97 10) env0 cE ⟨609,0,611,36⟩ B0)=some (.next,SS T22 849 1458 w os,cE,⟨716,0,721,15⟩):=by
 show @Eq _ _ _;kernel_rfl
end
section
theorem Za9{w:World}{n:Nat}{s s':SharedT}{l:List Stmt}{p p':Pos}(h:RT w n s (piecesOf l env0 cE p B0)=some (.next,s',cE,p')) :
  segRun treeTable P0 w 11 ann0 1 n s.abs (piecesOf l env0 cE p B0)=some (.next,s'.abs,cE,p') :=
 segRun_of (by rw[PySem.W.Fast.te10110043849684766642,PySem.W.Fast.te14364793385576792824];exact h)
theorem Zau(a b:Nat):sts a b++top0.drop (a+b)=top0.drop a:=by
 unfold sts;rw[<- List.drop_drop,List.take_append_drop]
theorem topEnd:top0.drop 107=[]:=by kernel_rfl
variable(w:World)(os:OsState)
theorem fin0 :topRun treeTable P0 w 11 ann0 2 (SS T22 849 1458 w os).abs (restOf (top0.drop 107) env0 cE ⟨716,0,721,15⟩ B0)=some (SS T22 849 1458 w os).abs:=by
 rw[topEnd];show topRun treeTable P0 w 11 ann0 2 _ ⟨doneF .next,cE,⟨716,0,721,15⟩,B0⟩=_;rfl
theorem r22 :topRun treeTable P0 w 11 ann0 (314+2) (SS T21 787 1357 w os).abs (restOf (top0.drop 97) env0 cE ⟨609,0,611,36⟩ B0)=some (SS T22 849 1458 w os).abs:=by
 rw[<- Zau 97 10];exact piece_app (Za9 (g22 w os)) (fin0 w os)
theorem r21 :topRun treeTable P0 w 11 ann0 (393+(314+2)) (SS T20 709 1230 w os).abs (restOf (top0.drop 84) env0 cE ⟨511,0,514,81⟩ B0)=some (SS T22 849 1458 w os).abs:=by
 rw[<- Zau 84 13];exact piece_app (Za9 (g21 w os)) (r22 w os)
theorem r20 :topRun treeTable P0 w 11 ann0 (375+(393+(314+2))) (SS T19 636 1116 w os).abs (restOf (top0.drop 71) env0 cE ⟨425,0,433,63⟩ B0)=some (SS T22 849 1458 w os).abs:=by
 rw[<- Zau 71 13];exact piece_app (Za9 (g20 w os)) (r21 w os)
theorem r19 :topRun treeTable P0 w 11 ann0 (401+(375+(393+(314+2)))) (SS T18 550 988 w os).abs (restOf (top0.drop 59) env0 cE ⟨336,0,339,56⟩ B0)=some (SS T22 849 1458 w os).abs:=by
 rw[<- Zau 59 12];exact piece_app (Za9 (g19 w os)) (r20 w os)
theorem r18 :topRun treeTable P0 w 11 ann0 (378+(401+(375+(393+(314+2))))) (SS T17 497 922 w os).abs (restOf (top0.drop 49) env0 cE ⟨269,0,281,12⟩ B0)=some (SS T22 849 1458 w os).abs:=by
 rw[<- Zau 49 10];exact piece_app (Za9 (g18 w os)) (r19 w os)
theorem r17 :topRun treeTable P0 w 11 ann0 (393+(378+(401+(375+(393+(314+2)))))) (SS T16 444 842 w os).abs (restOf (top0.drop 43) env0 cE ⟨208,0,212,40⟩ B0)=some (SS T22 849 1458 w os).abs:=by
 rw[<- Zau 43 6];exact piece_app (Za9 (g17 w os)) (r18 w os)
theorem r16 :topRun treeTable P0 w 11 ann0 (236+(393+(378+(401+(375+(393+(314+2))))))) (SS T15 423 812 w os).abs (restOf (top0.drop 42) env0 cE ⟨195,0,207,28⟩ B0)=some (SS T22 849 1458 w os).abs:=by
 rw[<- Zau 42 1];exact piece_app (Za9 (g16 w os)) (r17 w os)
theorem r15 :topRun treeTable P0 w 11 ann0 (241+(236+(393+(378+(401+(375+(393+(314+2)))))))) (SS T14 401 778 w os).abs (restOf (top0.drop 41) env0 cE ⟨187,0,194,24⟩ B0)=some (SS T22 849 1458 w os).abs:=by
 rw[<- Zau 41 1];exact piece_app (Za9 (g15 w os)) (r16 w os)
theorem r14 :topRun treeTable P0 w 11 ann0 (238+(241+(236+(393+(378+(401+(375+(393+(314+2))))))))) (SS T13 380 746 w os).abs (restOf (top0.drop 40) env0 cE ⟨177,0,186,26⟩ B0)=some (SS T22 849 1458 w os).abs:=by
 rw[<- Zau 40 1];exact piece_app (Za9 (g14 w os)) (r15 w os)
theorem r13 :topRun treeTable P0 w 11 ann0 (241+(238+(241+(236+(393+(378+(401+(375+(393+(314+2)))))))))) (SS T12 359 711 w os).abs (restOf (top0.drop 39) env0 cE ⟨163,0,176,27⟩ B0)=some (SS T22 849 1458 w os).abs:=by
 rw[<- Zau 39 1];exact piece_app (Za9 (g13 w os)) (r14 w os)
theorem r12 :topRun treeTable P0 w 11 ann0 (235+(241+(238+(241+(236+(393+(378+(401+(375+(393+(314+2))))))))))) (SS T11 338 670 w os).abs (restOf (top0.drop 38) env0 cE ⟨162,0,162,7⟩ B0)=some (SS T22 849 1458 w os).abs:=by
 rw[<- Zau 38 1];exact piece_app (Za9 (g12 w os)) (r13 w os)
theorem r11 :topRun treeTable P0 w 11 ann0 (349+(235+(241+(238+(241+(236+(393+(378+(401+(375+(393+(314+2)))))))))))) (SS T10 326 640 w os).abs (restOf (top0.drop 34) env0 cE ⟨158,43,158,48⟩ B0)=some (SS T22 849 1458 w os).abs:=by
 rw[<- Zau 34 4];exact piece_app (Za9 (g11 w os)) (r12 w os)
theorem r10 :topRun treeTable P0 w 11 ann0 (329+(349+(235+(241+(238+(241+(236+(393+(378+(401+(375+(393+(314+2))))))))))))) (SS T9 318 610 w os).abs (restOf (top0.drop 32) env0 cE ⟨156,0,156,8⟩ B0)=some (SS T22 849 1458 w os).abs:=by
 rw[<- Zau 32 2];exact piece_app (Za9 (g10 w os)) (r11 w os)
theorem r9 :topRun treeTable P0 w 11 ann0 (390+(329+(349+(235+(241+(238+(241+(236+(393+(378+(401+(375+(393+(314+2)))))))))))))) (SS T8 262 541 w os).abs (restOf (top0.drop 30) env0 cE ⟨128,0,132,17⟩ B0)=some (SS T22 849 1458 w os).abs:=by
 rw[<- Zau 30 2];exact piece_app (Za9 (g9 w os)) (r10 w os)
theorem r8 :topRun treeTable P0 w 11 ann0 (31+(390+(329+(349+(235+(241+(238+(241+(236+(393+(378+(401+(375+(393+(314+2))))))))))))))) (SS T7 255 533 w os).abs (restOf (top0.drop 29) env0 cE ⟨90,0,127,20⟩ B0)=some (SS T22 849 1458 w os).abs:=by
 rw[<- Zau 29 1];exact piece_app (Za9 (g8 w os)) (r9 w os)
theorem r7 :topRun treeTable P0 w 11 ann0 (466+(31+(390+(329+(349+(235+(241+(238+(241+(236+(393+(378+(401+(375+(393+(314+2)))))))))))))))) (SS T6 183 431 w os).abs (restOf (top0.drop 28) env0 cE ⟨88,0,89,81⟩ B0)=some (SS T22 849 1458 w os).abs:=by
 rw[<- Zau 28 1];exact piece_app (Za9 (g7 w os)) (r8 w os)
theorem r6 :topRun treeTable P0 w 11 ann0 (388+(466+(31+(390+(329+(349+(235+(241+(238+(241+(236+(393+(378+(401+(375+(393+(314+2))))))))))))))))) (SS T5 99 326 w os).abs (restOf (top0.drop 14) env0 cE ⟨23,19,23,24⟩ B0)=some (SS T22 849 1458 w os).abs:=by
 rw[<- Zau 14 14];exact piece_app (Za9 (g6 w os)) (r7 w os)
theorem r5 :topRun treeTable P0 w 11 ann0 (384+(388+(466+(31+(390+(329+(349+(235+(241+(238+(241+(236+(393+(378+(401+(375+(393+(314+2)))))))))))))))))) (SS T4 83 284 w os).abs (restOf (top0.drop 7) env0 cE ⟨14,0,15,8⟩ B0)=some (SS T22 849 1458 w os).abs:=by
 rw[<- Zau 7 7];exact piece_app (Za9 (g5 w os)) (r6 w os)
theorem r4 :topRun treeTable P0 w 11 ann0 (214+(384+(388+(466+(31+(390+(329+(349+(235+(241+(238+(241+(236+(393+(378+(401+(375+(393+(314+2))))))))))))))))))) (SS T3 71 268 w os).abs (restOf (top0.drop 6) env0 cE ⟨12,0,13,8⟩ B0)=some (SS T22 849 1458 w os).abs:=by
 rw[<- Zau 6 1];exact piece_app (Za9 (g4 w os)) (r5 w os)
theorem r3 :topRun treeTable P0 w 11 ann0 (214+(214+(384+(388+(466+(31+(390+(329+(349+(235+(241+(238+(241+(236+(393+(378+(401+(375+(393+(314+2)))))))))))))))))))) (SS T2 59 252 w os).abs (restOf (top0.drop 5) env0 cE ⟨10,0,11,8⟩ B0)=some (SS T22 849 1458 w os).abs:=by
 rw[<- Zau 5 1];exact piece_app (Za9 (g3 w os)) (r4 w os)
theorem r2 :topRun treeTable P0 w 11 ann0 (214+(214+(214+(384+(388+(466+(31+(390+(329+(349+(235+(241+(238+(241+(236+(393+(378+(401+(375+(393+(314+2))))))))))))))))))))) (SS T1 47 236 w os).abs (restOf (top0.drop 4) env0 cE ⟨6,0,9,28⟩ B0)=some (SS T22 849 1458 w os).abs:=by
 rw[<- Zau 4 1];exact piece_app (Za9 (g2 w os)) (r3 w os)
theorem r1 :topRun treeTable P0 w 11 ann0 (396+(214+(214+(214+(384+(388+(466+(31+(390+(329+(349+(235+(241+(238+(241+(236+(393+(378+(401+(375+(393+(314+2)))))))))))))))))))))) (SS T0 15 187 w os).abs (restOf (top0.drop 0) env0 cE ⟨0,0,0,0⟩ B0)=some (SS T22 849 1458 w os).abs:=by
 rw[<- Zau 0 4];exact piece_app (Za9 (g1 w os)) (r2 w os)
theorem blk :segRun treeTable P0 w 11 ann0 1 1 (SS T0 15 187 w os).abs (blockOf top0 env0 cE ⟨0,0,0,0⟩ B0)=some (.next,(SS T0 15 187 w os).abs,cE,⟨0,0,0,0⟩):=by
 kernel_rfl
theorem pre0 :topGo treeTable P0 w 11 ann0 12 ⟨boot_heap w.params,⟨[]⟩,boot_drawn,boot_toks,os⟩ (topStub P0)=some ((SS T0 15 187 w os).abs,⟨denote treeTable cE,cE,⟨0,0,0,0⟩,B0⟩):=by
 kernel_rfl
theorem run0 :topRun treeTable P0 w 11 ann0 (12+(1+(396+(214+(214+(214+(384+(388+(466+(31+(390+(329+(349+(235+(241+(238+(241+(236+(393+(378+(401+(375+(393+(314+2)))))))))))))))))))))))) ⟨boot_heap w.params,⟨[]⟩,boot_drawn,boot_toks,os⟩ (topStub P0)=some (SS T22 849 1458 w os).abs :=
 go_top (pre0 w os) (piece_block (blk w os) (r1 w os))
end
noncomputable def asK:List Addr:=[0,2,3,9,13,20,21,31,33,39,40,42,43,44,52,55,56,64,67,68,76,79,80,88,91,92,104,105,111,112,118,119,125,126,132,133,139,140,146,147,153,154,160,161,167,168,174,175,181,182,188,190,196,197,203,204,210,211,217,218,224,225,231,232,238,239,240,246,247,249,250,251,252,260,261,267,274,275,281,282,288,289,295,296,302,303,309,310,312,313,314,315,343,350,351,353,354,355,356,364,371,372,374,375,376,377,385,392,393,395,396,397,398,406,408,414,415,417,418,419,420,428,435,436,438,439,440,441,449,451,457,458,460,461,462,463,471,472,478,479,480,484,485,486,490,491,495,496,500,501,505,506,512,513,519,520,534,535,541,542,548,549,555,556,562,563,569,570,576,577,583,584,590,591,597,598,604,605,611,612,618,619,620,626,627,628,634,635,641,642,648,649,655,656,660,661,667,668,674,675,681,682,686,687,693,694,700,701,707,708,714,715,721,722,728,729,735,736,742,743,747,748,754,755,761,762,766,767,773,774,778,779,785,786,792,793,799,800,804,805,811,812,818,819,825,826,830,831,835,836,840,841,847,848]
def K0(P:Params):Frag:=[(0,boot_o_0 P),
 (2,boot_o_2 P),
 (3,(oD [E P "__name__" 165 Sc,E P "__doc__" 166 .none,E P "__package__" 167 .none,E P "__loader__" 168 (.builtin "__main__.__loader__#opaque"),E P "__spec__" 169 .none,E P "__annotations__" 170 (rf 6),E P "__builtins__" 171 (rf 4),E P "__file__" 173 (S "/claim/cut.py" 172),E P "__cached__" 174 .none,E P "_wall" 193 (rf 21),E P "TOP_SKIP" 200 (I 7 194),E P "SPLIT_TOP_SKIP" 201 (I 8 195),E P "TAB_SKIP" 202 (I 9 196),E P "SPACE_SKIP" 203 (I 10 197),E P "XSPACE_SKIP" 204 (I 11 198),E P "PAR_FILL_SKIP" 205 (I 12 199),E P "PageError" 235 (rf 43),E P "BadArgument" 251 (rf 56),E P "Overflow" 267 (rf 68),E P "BadAlign" 283 (rf 80),E P "TooDeep" 299 (rf 92),E P "UNITY" 303 (I 65536 302),E P "MAX_DIMEN" 309 (I 1073741823 308),E P "MAX_NUMBER" 315 (I 2147483647 314),E P "INF_BAD" 317 (I 10000 316),E P "NORMAL" 322 (I 0 318),E P "FIL" 323 (I 1 319),E P "FILL" 324 (I 2 320),E P "FILLL" 325 (I 3 321),E P "is_whole" 334 (rf 105),E P "check_whole" 341 (rf 112),E P "check_number" 348 (rf 119),E P "check_dimen" 355 (rf 126),E P "rounded" 363 (rf 133),E P "reading" 371 (rf 140),E P "decimal_text" 384 (rf 147),E P "times" 393 (rf 154),E P "times_scaled" 394 (rf 154),E P "over" 404 (rf 161),E P "over_scaled" 405 (rf 161),E P "badness" 414 (rf 168),E P "order_text" 421 (rf 175),E P "part_text" 430 (rf 182),E P "Glue" 532 (rf 250),E P "top_order" 540 (rf 261),E P "Totals" 607 (rf 313),E P "CHAR" 618 (I 0 610),E P "LIGATURE" 619 (I 1 611),E P "HBOX" 620 (I 2 612),E P "VBOX" 621 (I 3 613),E P "RULE" 622 (I 4 614),E P "KERN" 623 (I 5 615),E P "GLUE" 624 (I 6 616),E P "PENALTY" 625 (I 7 617),E P "DISC" 633 (I 8 626),E P "MARK" 634 (I 9 627),E P "INSERT" 635 (I 10 628),E P "ADJUST" 636 (I 11 629),E P "MATH" 637 (I 12 630),E P "SPECIAL" 638 (I 13 631),E P "UNSET" 639 (I 14 632),E P "NATURAL" 643 (I 0 640),E P "STRETCHED" 644 (I 1 641),E P "SHRUNK" 645 (I 2 642),E P "FONT_KERN" 650 (I 0 646),E P "EXPLICIT" 651 (I 1 647),E P "ACCENT_KERN" 652 (I 2 648),E P "MU_KERN" 653 (I 3 649),E P "PLAIN" 661 (I 0 654),E P "ALEADERS" 662 (I 1 655),E P "CLEADERS" 663 (I 2 656),E P "XLEADERS" 664 (I 3 657),E P "MU_SKIP" 665 (I 4 658),E P "NONSCRIPT" 666 (I 5 659),E P "NAMED" 667 (I 100 660),E P "DEEPEST" 669 (I 60 668),E P "Box" 710 (rf 354),E P "Rule" 745 (rf 375),E P "Kern" 777 (rf 396),E P "Skip" 811 (rf 418),E P "Penalty" 841 (rf 439),E P "Unset" 883 (rf 461),E P "check_depth" 890 (rf 472),E P "described_rest" 901 (rf 479),E P "described" 908 (rf 485),E P "described_list" 915 (rf 491),E P "width_of" 921 (rf 496),E P "height_of" 927 (rf 501),E P "depth_of" 933 (rf 506),E P "line_height" 940 (rf 513),E P "line_depth" 947 (rf 520),E P "EXACTLY" 952 (I 0 950),E P "SPREAD" 953 (I 1 951),E P "FINE" 958 (I 0 954),E P "LOOSE" 959 (I 1 955),E P "TIGHT" 960 (I 2 956),E P "OVERFULL" 961 (I 3 957),E P "natural_line" 972 (rf 535),E P "across" 979 (rf 542),E P "check_column" 987 (rf 549),E P "natural_column" 998 (rf 556),E P "quotient" 1006 (rf 563),E P "set_glue" 1017 (rf 570),E P "flex" 1025 (rf 577),E P "set_part" 1033 (rf 584),E P "part_size" 1041 (rf 591),E P "places" 1052 (rf 598),E P "moved" 1062 (rf 605),E P "goal_size" 1071 (rf 612),E P "set_box" 1081 (rf 619),E P "hpack" 1099 (rf 627),E P "vpack" 1115 (rf 635),E P "TAB_SORT" 1119 (I 109 1118),E P "along" 1126 (rf 642),E P "check_skips" 1135 (rf 649),E P "placed_cells" 1146 (rf 656),E P "widths" 1152 (rf 661),E P "empty_box" 1161 (rf 668),E P "tab_node" 1170 (rf 675),E P "prototype" 1183 (rf 682),E P "row_box" 1189 (rf 687),E P "set_cell" 1202 (rf 694),E P "set_row" 1219 (rf 701),E P "set_rule" 1229 (rf 708),E P "finished" 1249 (rf 715),E P "_law_box" 1259 (rf 722),E P "_law_take" 1268 (rf 729),E P "_law_flow" 1280 (rf 736),E P "_law_cell" 1297 (rf 743),E P "_law_other" 1303 (rf 748),E P "_law_rows" 1319 (rf 755),E P "_law_wide" 1326 (rf 762),E P "_law_fits" 1332 (rf 767),E P "_law_bad" 1341 (rf 774),E P "_law_told" 1347 (rf 779),E P "_law_near" 1356 (rf 786),E P "_law_edges" 1374 (rf 793),E P "_law_made" 1385 (rf 800),E P "_law_row" 1391 (rf 805),E P "_law_due" 1408 (rf 812),E P "_law_goal" 1423 (rf 819),E P "_law_said" 1430 (rf 826),E P "_law_flat" 1436 (rf 831),E P "_law_refused" 1442 (rf 836),E P "_law_round" 1448 (rf 841),E P "law" 1457 (rf 848)] 146)),
 (9,(oC "<module>" "<module>" 176 1 0 0 7 false 175 8 .none .none .none .none 179)),
 (13,(oC "<module>" "<module>" 182 1 0 0 11 false 181 12 .none .none .none .none 185)),
 (20,(oC "_wall" "_wall" 187 1 1 3 15 true 181 16 .none (rf 17) (rf 18) (rf 19) 191)),
 (21,(oF "_wall" "_wall" (st 0) .none (S "__main__" 164) (rf 20))),
 (31,(oC "PageError" "PageError" 210 6 0 0 29 false 181 30 .none .none .none .none 213)),
 (33,(oT [S "" 220] 0)),
 (39,(oC "__init__" "PageError.__init__" 221 8 2 3 34 true 181 35 .none (rf 36) (rf 37) (rf 38) 226)),
 (40,(oF "__init__" "PageError.__init__" (sb 3 0) (rf 33) Sf (rf 39))),
 (42,(oD [E P "__module__" 215 Sf,E P "__firstlineno__" 219 (I 6 218),E P "__init__" 228 (rf 40),E P "__static_attributes__" 230 (rf 41),E P "__weakref__" 232 (rf 44),E P "__doc__" 233 .none] 3)),
 (43,⟨.type "type",none,cl "PageError" [.type "ValueError"] (rf 43::vE) 42 "PageError" [rf 56,rf 68,rf 80,rf 92],sl [some (rf 26),none,some (S "PageError" 208),some (S "PageError" 216),some (.builtin "ValueError.__new__"),some (.bool true)]⟩),
 (44,(oG [S "__weakref__" 231,rf 43,.builtin "ExceptionGroup.__weakref__",.none])),
 (52,(oC "BadArgument" "BadArgument" 238 10 0 0 50 false 181 51 .none .none .none .none 241)),
 (55,(oD [E P "__module__" 243 Sf,E P "__firstlineno__" 247 (I 10 246),E P "__static_attributes__" 248 (rf 54),E P "__doc__" 249 .none] 2)),
 (56,⟨.type "type",none,cl "BadArgument" [rf 43] [rf 56,rf 43,.type "ValueError",.type "Exception",.type "BaseException",.type "object"] 55 "BadArgument" [],sl [some (rf 47),none,some (S "BadArgument" 236),some (S "BadArgument" 244),some (.builtin "ValueError.__new__"),some (.bool true)]⟩),
 (64,(oC "Overflow" "Overflow" 254 12 0 0 62 false 181 63 .none .none .none .none 257)),
 (67,(oD [E P "__module__" 259 Sf,E P "__firstlineno__" 263 (I 12 262),E P "__static_attributes__" 264 (rf 66),E P "__doc__" 265 .none] 2)),
 (68,⟨.type "type",none,cl "Overflow" [rf 43] [rf 68,rf 43,.type "ValueError",.type "Exception",.type "BaseException",.type "object"] 67 "Overflow" [],sl [some (rf 59),none,some (S "Overflow" 252),some (S "Overflow" 260),some (.builtin "ValueError.__new__"),some (.bool true)]⟩),
 (76,(oC "BadAlign" "BadAlign" 270 14 0 0 74 false 181 75 .none .none .none .none 273)),
 (79,(oD [E P "__module__" 275 Sf,E P "__firstlineno__" 279 (I 14 278),E P "__static_attributes__" 280 (rf 78),E P "__doc__" 281 .none] 2)),
 (80,⟨.type "type",none,cl "BadAlign" [rf 43] [rf 80,rf 43,.type "ValueError",.type "Exception",.type "BaseException",.type "object"] 79 "BadAlign" [],sl [some (rf 71),none,some (S "BadAlign" 268),some (S "BadAlign" 276),some (.builtin "ValueError.__new__"),some (.bool true)]⟩),
 (88,(oC "TooDeep" "TooDeep" 286 16 0 0 86 false 181 87 .none .none .none .none 289)),
 (91,(oD [E P "__module__" 291 Sf,E P "__firstlineno__" 295 (I 16 294),E P "__static_attributes__" 296 (rf 90),E P "__doc__" 297 .none] 2)),
 (92,⟨.type "type",none,cl "TooDeep" [rf 43] [rf 92,rf 43,.type "ValueError",.type "Exception",.type "BaseException",.type "object"] 91 "TooDeep" [],sl [some (rf 83),none,some (S "TooDeep" 284),some (S "TooDeep" 292),some (.builtin "ValueError.__new__"),some (.bool true)]⟩),
 (104,(oC "is_whole" "is_whole" 326 24 3 3 99 true 181 100 .none (rf 101) (rf 102) (rf 103) 332)),
 (105,(oF "is_whole" "is_whole" (st 14) .none Sa (rf 104))),
 (111,(oC "check_whole" "check_whole" 335 26 1 3 106 true 181 107 .none (rf 108) (rf 109) (rf 110) 339)),
 (112,(oF "check_whole" "check_whole" (st 15) .none Sa (rf 111))),
 (118,(oC "check_number" "check_number" 342 30 1 3 113 true 181 114 .none (rf 115) (rf 116) (rf 117) 346)),
 (119,(oF "check_number" "check_number" (st 16) .none Sa (rf 118))),
 (125,(oC "check_dimen" "check_dimen" 349 34 1 3 120 true 181 121 .none (rf 122) (rf 123) (rf 124) 353)),
 (126,(oF "check_dimen" "check_dimen" (st 17) .none Sa (rf 125))),
 (132,(oC "rounded" "rounded" 356 38 2 3 127 true 181 128 .none (rf 129) (rf 130) (rf 131) 361)),
 (133,(oF "rounded" "rounded" (st 18) .none Sa (rf 132))),
 (139,(oC "reading" "reading" 364 44 2 3 134 true 181 135 .none (rf 136) (rf 137) (rf 138) 369)),
 (140,(oF "reading" "reading" (st 19) .none Sa (rf 139))),
 (146,(oC "decimal_text" "decimal_text" 372 46 1 3 141 true 181 142 .none (rf 143) (rf 144) (rf 145) 382)),
 (147,(oF "decimal_text" "decimal_text" (st 20) .none Sa (rf 146))),
 (153,(oC "times" "times" 385 57 3 3 148 true 181 149 .none (rf 150) (rf 151) (rf 152) 391)),
 (154,(oF "times" "times" (st 21) .none Sa (rf 153))),
 (160,(oC "over" "over" 395 60 2 3 155 true 181 156 .none (rf 157) (rf 158) (rf 159) 402)),
 (161,(oF "over" "over" (st 23) .none Sa (rf 160))),
 (167,(oC "badness" "badness" 406 70 2 3 162 true 181 163 .none (rf 164) (rf 165) (rf 166) 412)),
 (168,(oF "badness" "badness" (st 25) .none Sa (rf 167))),
 (174,(oC "order_text" "order_text" 415 86 1 3 169 true 181 170 .none (rf 171) (rf 172) (rf 173) 419)),
 (175,(oF "order_text" "order_text" (st 26) .none Sa (rf 174))),
 (181,(oC "part_text" "part_text" 422 88 3 3 176 true 181 177 .none (rf 178) (rf 179) (rf 180) 428)),
 (182,(oF "part_text" "part_text" (st 27) .none Sa (rf 181))),
 (188,(oC "Glue" "Glue" 433 90 0 0 186 false 181 187 .none .none .none .none 436)),
 (190,(oT [I 0 443,I 0 444,I 0 445,I 0 446,I 0 447] 0)),
 (196,(oC "__init__" "Glue.__init__" 448 92 6 3 191 true 181 192 .none (rf 193) (rf 194) (rf 195) 457)),
 (197,(oF "__init__" "Glue.__init__" (sb 28 0) (rf 190) Sa (rf 196))),
 (203,(oC "parts" "Glue.parts" 460 101 1 3 198 true 181 199 .none (rf 200) (rf 201) (rf 202) 464)),
 (204,(oF "parts" "Glue.parts" (sb 28 1) .none Sa (rf 203))),
 (210,(oC "same" "Glue.same" 467 104 2 3 205 true 181 206 .none (rf 207) (rf 208) (rf 209) 472)),
 (211,(oF "same" "Glue.same" (sb 28 2) .none Sa (rf 210))),
 (217,(oC "added" "Glue.added" 475 107 2 3 212 true 181 213 .none (rf 214) (rf 215) (rf 216) 480)),
 (218,(oF "added" "Glue.added" (sb 28 3) .none Sa (rf 217))),
 (224,(oC "times" "Glue.times" 483 110 2 3 219 true 181 220 .none (rf 221) (rf 222) (rf 223) 490)),
 (225,(oF "times" "Glue.times" (sb 28 4) .none Sa (rf 224))),
 (231,(oC "over" "Glue.over" 493 114 2 3 226 true 181 227 .none (rf 228) (rf 229) (rf 230) 500)),
 (232,(oF "over" "Glue.over" (sb 28 5) .none Sa (rf 231))),
 (238,(oC "negated" "Glue.negated" 503 118 1 3 233 true 181 234 .none (rf 235) (rf 236) (rf 237) 507)),
 (239,(oF "negated" "Glue.negated" (sb 28 6) .none Sa (rf 238))),
 (240,(oT [S "pt" 510] 0)),
 (246,(oC "text" "Glue.text" 511 121 2 3 241 true 181 242 .none (rf 243) (rf 244) (rf 245) 517)),
 (247,(oF "text" "Glue.text" (sb 28 7) (rf 240) Sa (rf 246))),
 (249,(oD [E P "__module__" 438 Sa,E P "__firstlineno__" 442 (I 90 441),E P "__init__" 459 (rf 197),E P "parts" 466 (rf 204),E P "same" 474 (rf 211),E P "added" 482 (rf 218),E P "times" 492 (rf 225),E P "over" 502 (rf 232),E P "negated" 509 (rf 239),E P "text" 519 (rf 247),E P "__static_attributes__" 525 (rf 248),E P "__dict__" 527 (rf 251),E P "__weakref__" 529 (rf 252),E P "__doc__" 530 .none] 4)),
 (250,⟨.type "type",none,cl "Glue" [.type "object"] [rf 250,.type "object"] 249 "Glue" [],sl [none,none,some (S "Glue" 431),some (S "Glue" 439),some (.builtin "object.__new__"),some (.bool true)]⟩),
 (251,(oG [S "__dict__" 526,rf 250,.builtin "function.__dict__",.builtin "function.__dict__#set"])),
 (252,(oG [S "__weakref__" 528,rf 250,.builtin "ExceptionGroup.__weakref__",.none])),
 (260,(oC "top_order" "top_order" 533 128 1 3 255 true 181 256 .none (rf 257) (rf 258) (rf 259) 538)),
 (261,(oF "top_order" "top_order" (st 29) .none Sa (rf 260))),
 (267,(oC "Totals" "Totals" 543 133 0 0 265 false 181 266 .none .none .none .none 546)),
 (274,(oC "__init__" "Totals.__init__" 553 135 1 3 269 true 181 270 .none (rf 271) (rf 272) (rf 273) 557)),
 (275,(oF "__init__" "Totals.__init__" (sb 30 0) .none Sa (rf 274))),
 (281,(oC "add" "Totals.add" 560 140 2 3 276 true 181 277 .none (rf 278) (rf 279) (rf 280) 565)),
 (282,(oF "add" "Totals.add" (sb 30 1) .none Sa (rf 281))),
 (288,(oC "widen" "Totals.widen" 568 145 2 3 283 true 181 284 .none (rf 285) (rf 286) (rf 287) 573)),
 (289,(oF "widen" "Totals.widen" (sb 30 2) .none Sa (rf 288))),
 (295,(oC "stretch_top" "Totals.stretch_top" 576 148 1 3 290 true 181 291 .none (rf 292) (rf 293) (rf 294) 580)),
 (296,(oF "stretch_top" "Totals.stretch_top" (sb 30 3) .none Sa (rf 295))),
 (302,(oC "shrink_top" "Totals.shrink_top" 583 151 1 3 297 true 181 298 .none (rf 299) (rf 300) (rf 301) 587)),
 (303,(oF "shrink_top" "Totals.shrink_top" (sb 30 4) .none Sa (rf 302))),
 (309,(oC "copy" "Totals.copy" 590 154 1 3 304 true 181 305 .none (rf 306) (rf 307) (rf 308) 594)),
 (310,(oF "copy" "Totals.copy" (sb 30 5) .none Sa (rf 309))),
 (312,(oD [E P "__module__" 548 Sa,E P "__firstlineno__" 552 (I 133 551),E P "__init__" 559 (rf 275),E P "add" 567 (rf 282),E P "widen" 575 (rf 289),E P "stretch_top" 582 (rf 296),E P "shrink_top" 589 (rf 303),E P "copy" 596 (rf 310),E P "__static_attributes__" 600 (rf 311),E P "__dict__" 602 (rf 314),E P "__weakref__" 604 (rf 315),E P "__doc__" 605 .none] 4)),
 (313,⟨.type "type",none,cl "Totals" [.type "object"] [rf 313,.type "object"] 312 "Totals" [],sl [none,none,some (S "Totals" 541),some (S "Totals" 549),some (.builtin "object.__new__"),some (.bool true)]⟩),
 (314,(oG [S "__dict__" 601,rf 313,.builtin "function.__dict__",.builtin "function.__dict__#set"])),
 (315,(oG [S "__weakref__" 603,rf 313,.builtin "ExceptionGroup.__weakref__",.none])),
 (343,(oC "Box" "Box" 672 163 0 0 341 false 181 342 .none .none .none .none 675)),
 (350,(oC "__init__" "Box.__init__" 682 165 6 3 345 true 181 346 .none (rf 347) (rf 348) (rf 349) 691)),
 (351,(oF "__init__" "Box.__init__" (sb 38 0) .none Sb (rf 350))),
 (353,(oD [E P "__module__" 677 Sb,E P "__firstlineno__" 681 (I 163 680),E P "__init__" 693 (rf 351),E P "__static_attributes__" 703 (rf 352),E P "__dict__" 705 (rf 355),E P "__weakref__" 707 (rf 356),E P "__doc__" 708 .none] 4)),
 (354,⟨.type "type",none,cl "Box" [.type "object"] [rf 354,.type "object"] 353 "Box" [],sl [none,none,some (S "Box" 670),some (S "Box" 678),some (.builtin "object.__new__"),some (.bool true)]⟩),
 (355,(oG [S "__dict__" 704,rf 354,.builtin "function.__dict__",.builtin "function.__dict__#set"])),
 (356,(oG [S "__weakref__" 706,rf 354,.builtin "ExceptionGroup.__weakref__",.none])),
 (364,(oC "Rule" "Rule" 713 177 0 0 362 false 181 363 .none .none .none .none 716)),
 (371,(oC "__init__" "Rule.__init__" 724 180 4 3 366 true 181 367 .none (rf 368) (rf 369) (rf 370) 732)),
 (372,(oF "__init__" "Rule.__init__" (sb 39 1) .none Sb (rf 371))),
 (374,(oD [E P "__module__" 718 Sb,E P "__firstlineno__" 722 (I 177 721),E P "kind" 723 (I 4 614),E P "__init__" 734 (rf 372),E P "__static_attributes__" 738 (rf 373),E P "__dict__" 740 (rf 376),E P "__weakref__" 742 (rf 377),E P "__doc__" 743 .none] 4)),
 (375,⟨.type "type",none,cl "Rule" [.type "object"] [rf 375,.type "object"] 374 "Rule" [],sl [none,none,some (S "Rule" 711),some (S "Rule" 719),some (.builtin "object.__new__"),some (.bool true)]⟩),
 (376,(oG [S "__dict__" 739,rf 375,.builtin "function.__dict__",.builtin "function.__dict__#set"])),
 (377,(oG [S "__weakref__" 741,rf 375,.builtin "ExceptionGroup.__weakref__",.none])),
 (385,(oC "Kern" "Kern" 748 187 0 0 383 false 181 384 .none .none .none .none 751)),
 (392,(oC "__init__" "Kern.__init__" 759 190 3 3 387 true 181 388 .none (rf 389) (rf 390) (rf 391) 765)),
 (393,(oF "__init__" "Kern.__init__" (sb 40 1) .none Sb (rf 392))),
 (395,(oD [E P "__module__" 753 Sb,E P "__firstlineno__" 757 (I 187 756),E P "kind" 758 (I 5 615),E P "__init__" 767 (rf 393),E P "__static_attributes__" 770 (rf 394),E P "__dict__" 772 (rf 397),E P "__weakref__" 774 (rf 398),E P "__doc__" 775 .none] 4)),
 (396,⟨.type "type",none,cl "Kern" [.type "object"] [rf 396,.type "object"] 395 "Kern" [],sl [none,none,some (S "Kern" 746),some (S "Kern" 754),some (.builtin "object.__new__"),some (.bool true)]⟩),
 (397,(oG [S "__dict__" 771,rf 396,.builtin "function.__dict__",.builtin "function.__dict__#set"])),
 (398,(oG [S "__weakref__" 773,rf 396,.builtin "ExceptionGroup.__weakref__",.none])),
 (406,(oC "Skip" "Skip" 780 195 0 0 404 false 181 405 .none .none .none .none 783)),
 (408,(oT [.none] 0)),
 (414,(oC "__init__" "Skip.__init__" 791 198 4 3 409 true 181 410 .none (rf 411) (rf 412) (rf 413) 798)),
 (415,(oF "__init__" "Skip.__init__" (sb 41 1) (rf 408) Sb (rf 414))),
 (417,(oD [E P "__module__" 785 Sb,E P "__firstlineno__" 789 (I 195 788),E P "kind" 790 (I 6 616),E P "__init__" 800 (rf 415),E P "__static_attributes__" 804 (rf 416),E P "__dict__" 806 (rf 419),E P "__weakref__" 808 (rf 420),E P "__doc__" 809 .none] 4)),
 (418,⟨.type "type",none,cl "Skip" [.type "object"] [rf 418,.type "object"] 417 "Skip" [],sl [none,none,some (S "Skip" 778),some (S "Skip" 786),some (.builtin "object.__new__"),some (.bool true)]⟩),
 (419,(oG [S "__dict__" 805,rf 418,.builtin "function.__dict__",.builtin "function.__dict__#set"])),
 (420,(oG [S "__weakref__" 807,rf 418,.builtin "ExceptionGroup.__weakref__",.none])),
 (428,(oC "Penalty" "Penalty" 814 208 0 0 426 false 181 427 .none .none .none .none 817)),
 (435,(oC "__init__" "Penalty.__init__" 825 211 2 3 430 true 181 431 .none (rf 432) (rf 433) (rf 434) 830)),
 (436,(oF "__init__" "Penalty.__init__" (sb 42 1) .none Sb (rf 435))),
 (438,(oD [E P "__module__" 819 Sb,E P "__firstlineno__" 823 (I 208 822),E P "kind" 824 (I 7 617),E P "__init__" 832 (rf 436),E P "__static_attributes__" 834 (rf 437),E P "__dict__" 836 (rf 440),E P "__weakref__" 838 (rf 441),E P "__doc__" 839 .none] 4)),
 (439,⟨.type "type",none,cl "Penalty" [.type "object"] [rf 439,.type "object"] 438 "Penalty" [],sl [none,none,some (S "Penalty" 812),some (S "Penalty" 820),some (.builtin "object.__new__"),some (.bool true)]⟩),
 (440,(oG [S "__dict__" 835,rf 439,.builtin "function.__dict__",.builtin "function.__dict__#set"])),
 (441,(oG [S "__weakref__" 837,rf 439,.builtin "ExceptionGroup.__weakref__",.none])),
 (449,(oC "Unset" "Unset" 844 213 0 0 447 false 181 448 .none .none .none .none 847)),
 (451,(oT [.bool false] 0)),
 (457,(oC "__init__" "Unset.__init__" 855 216 8 3 452 true 181 453 .none (rf 454) (rf 455) (rf 456) 866)),
 (458,(oF "__init__" "Unset.__init__" (sb 43 1) (rf 451) Sb (rf 457))),
 (460,(oD [E P "__module__" 849 Sb,E P "__firstlineno__" 853 (I 213 852),E P "kind" 854 (I 14 632),E P "__init__" 868 (rf 458),E P "__static_attributes__" 876 (rf 459),E P "__dict__" 878 (rf 462),E P "__weakref__" 880 (rf 463),E P "__doc__" 881 .none] 4)),
 (461,⟨.type "type",none,cl "Unset" [.type "object"] [rf 461,.type "object"] 460 "Unset" [],sl [none,none,some (S "Unset" 842),some (S "Unset" 850),some (.builtin "object.__new__"),some (.bool true)]⟩),
 (462,(oG [S "__dict__" 877,rf 461,.builtin "function.__dict__",.builtin "function.__dict__#set"])),
 (463,(oG [S "__weakref__" 879,rf 461,.builtin "ExceptionGroup.__weakref__",.none])),
 (471,(oC "check_depth" "check_depth" 884 226 1 3 466 true 181 467 .none (rf 468) (rf 469) (rf 470) 888)),
 (472,(oF "check_depth" "check_depth" (st 44) .none Sb (rf 471))),
 (478,(oC "described_rest" "described_rest" 891 229 2 3 473 true 181 474 .none (rf 475) (rf 476) (rf 477) 899)),
 (479,(oF "described_rest" "described_rest" (st 45) .none Sb (rf 478))),
 (480,(oT [I 0 902] 0)),
 (484,(oC "described" "described" 903 244 2 3 481 true 181 482 .none .none .none (rf 483) 906)),
 (485,(oF "described" "described" (st 46) (rf 480) Sb (rf 484))),
 (486,(oT [I 0 909] 0)),
 (490,(oC "described_list" "described_list" 910 267 2 3 487 true 181 488 .none .none .none (rf 489) 913)),
 (491,(oF "described_list" "described_list" (st 47) (rf 486) Sb (rf 490))),
 (495,(oC "width_of" "width_of" 916 269 1 3 492 true 181 493 .none .none .none (rf 494) 919)),
 (496,(oF "width_of" "width_of" (st 48) .none Sb (rf 495))),
 (500,(oC "height_of" "height_of" 922 282 1 3 497 true 181 498 .none .none .none (rf 499) 925)),
 (501,(oF "height_of" "height_of" (st 49) .none Sb (rf 500))),
 (505,(oC "depth_of" "depth_of" 928 295 1 3 502 true 181 503 .none .none .none (rf 504) 931)),
 (506,(oF "depth_of" "depth_of" (st 50) .none Sb (rf 505))),
 (512,(oC "line_height" "line_height" 934 308 1 3 507 true 181 508 .none (rf 509) (rf 510) (rf 511) 938)),
 (513,(oF "line_height" "line_height" (st 51) .none Sb (rf 512))),
 (519,(oC "line_depth" "line_depth" 941 312 1 3 514 true 181 515 .none (rf 516) (rf 517) (rf 518) 945)),
 (520,(oF "line_depth" "line_depth" (st 52) .none Sb (rf 519))),
 (534,(oC "natural_line" "natural_line" 962 319 1 3 529 true 181 530 .none (rf 531) (rf 532) (rf 533) 970)),
 (535,(oF "natural_line" "natural_line" (st 56) .none Sd (rf 534))),
 (541,(oC "across" "across" 973 330 1 3 536 true 181 537 .none (rf 538) (rf 539) (rf 540) 977)),
 (542,(oF "across" "across" (st 57) .none Sd (rf 541))),
 (548,(oC "check_column" "check_column" 980 336 1 3 543 true 181 544 .none (rf 545) (rf 546) (rf 547) 985)),
 (549,(oF "check_column" "check_column" (st 58) .none Sd (rf 548))),
 (555,(oC "natural_column" "natural_column" 988 340 1 3 550 true 181 551 .none (rf 552) (rf 553) (rf 554) 996)),
 (556,(oF "natural_column" "natural_column" (st 59) .none Sd (rf 555))),
 (562,(oC "quotient" "quotient" 999 357 2 3 557 true 181 558 .none (rf 559) (rf 560) (rf 561) 1004)),
 (563,(oF "quotient" "quotient" (st 60) .none Sd (rf 562))),
 (569,(oC "set_glue" "set_glue" 1007 359 2 3 564 true 181 565 .none (rf 566) (rf 567) (rf 568) 1015)),
 (570,(oF "set_glue" "set_glue" (st 61) .none Sd (rf 569))),
 (576,(oC "flex" "flex" 1018 374 2 3 571 true 181 572 .none (rf 573) (rf 574) (rf 575) 1023)),
 (577,(oF "flex" "flex" (st 62) .none Sd (rf 576))),
 (583,(oC "set_part" "set_part" 1026 380 2 3 578 true 181 579 .none (rf 580) (rf 581) (rf 582) 1031)),
 (584,(oF "set_part" "set_part" (st 63) .none Sd (rf 583))),
 (590,(oC "part_size" "part_size" 1034 382 2 3 585 true 181 586 .none (rf 587) (rf 588) (rf 589) 1039)),
 (591,(oF "part_size" "part_size" (st 64) .none Sd (rf 590))),
 (597,(oC "places" "places" 1042 386 1 3 592 true 181 593 .none (rf 594) (rf 595) (rf 596) 1050)),
 (598,(oF "places" "places" (st 65) .none Sd (rf 597))),
 (604,(oC "moved" "moved" 1053 399 1 3 599 true 181 600 .none (rf 601) (rf 602) (rf 603) 1060)),
 (605,(oF "moved" "moved" (st 66) .none Sd (rf 604))),
 (611,(oC "goal_size" "goal_size" 1063 409 3 3 606 true 181 607 .none (rf 608) (rf 609) (rf 610) 1069)),
 (612,(oF "goal_size" "goal_size" (st 67) .none Sd (rf 611))),
 (618,(oC "set_box" "set_box" 1072 414 3 3 613 true 181 614 .none (rf 615) (rf 616) (rf 617) 1079)),
 (619,(oF "set_box" "set_box" (st 68) .none Sd (rf 618))),
 (620,(oT [I 1 951,I 0 1082,.none] 0)),
 (626,(oC "hpack" "hpack" 1083 417 4 3 621 true 181 622 .none (rf 623) (rf 624) (rf 625) 1097)),
 (627,(oF "hpack" "hpack" (st 69) (rf 620) Sd (rf 626))),
 (628,(oT [I 1 951,I 0 1100,I 1073741823 308] 0)),
 (634,(oC "vpack" "vpack" 1101 425 4 3 629 true 181 630 .none (rf 631) (rf 632) (rf 633) 1113)),
 (635,(oF "vpack" "vpack" (st 70) (rf 628) Sd (rf 634))),
 (641,(oC "along" "along" 1120 436 1 3 636 true 181 637 .none (rf 638) (rf 639) (rf 640) 1124)),
 (642,(oF "along" "along" (st 73) .none Se (rf 641))),
 (648,(oC "check_skips" "check_skips" 1127 438 2 3 643 true 181 644 .none (rf 645) (rf 646) (rf 647) 1133)),
 (649,(oF "check_skips" "check_skips" (st 74) .none Se (rf 648))),
 (655,(oC "placed_cells" "placed_cells" 1136 444 2 3 650 true 181 651 .none (rf 652) (rf 653) (rf 654) 1144)),
 (656,(oF "placed_cells" "placed_cells" (st 75) .none Se (rf 655))),
 (660,(oC "widths" "widths" 1147 454 3 3 657 true 181 658 .none .none .none (rf 659) 1150)),
 (661,(oF "widths" "widths" (st 76) .none Se (rf 660))),
 (667,(oC "empty_box" "empty_box" 1153 469 2 3 662 true 181 663 .none (rf 664) (rf 665) (rf 666) 1159)),
 (668,(oF "empty_box" "empty_box" (st 77) .none Se (rf 667))),
 (674,(oC "tab_node" "tab_node" 1162 472 3 3 669 true 181 670 .none (rf 671) (rf 672) (rf 673) 1168)),
 (675,(oF "tab_node" "tab_node" (st 78) .none Se (rf 674))),
 (681,(oC "prototype" "prototype" 1171 474 5 3 676 true 181 677 .none (rf 678) (rf 679) (rf 680) 1181)),
 (682,(oF "prototype" "prototype" (st 79) .none Se (rf 681))),
 (686,(oC "row_box" "row_box" 1184 481 3 3 683 true 181 684 .none .none .none (rf 685) 1187)),
 (687,(oF "row_box" "row_box" (st 80) .none Se (rf 686))),
 (693,(oC "set_cell" "set_cell" 1190 492 4 3 688 true 181 689 .none (rf 690) (rf 691) (rf 692) 1200)),
 (694,(oF "set_cell" "set_cell" (st 81) .none Se (rf 693))),
 (700,(oC "set_row" "set_row" 1203 500 6 3 695 true 181 696 .none (rf 697) (rf 698) (rf 699) 1217)),
 (701,(oF "set_row" "set_row" (st 82) .none Se (rf 700))),
 (707,(oC "set_rule" "set_rule" 1220 511 2 3 702 true 181 703 .none (rf 704) (rf 705) (rf 706) 1227)),
 (708,(oF "set_rule" "set_rule" (st 83) .none Se (rf 707))),
 (714,(oC "finished" "finished" 1230 515 6 3 709 true 181 710 .none (rf 711) (rf 712) (rf 713) 1247)),
 (715,(oF "finished" "finished" (st 84) .none Se (rf 714))),
 (721,(oC "_law_box" "_law_box" 1252 532 2 3 716 true 181 717 .none (rf 718) (rf 719) (rf 720) 1257)),
 (722,(oF "_law_box" "_law_box" (st 86) .none Sc (rf 721))),
 (728,(oC "_law_take" "_law_take" 1260 534 2 3 723 true 181 724 .none (rf 725) (rf 726) (rf 727) 1266)),
 (729,(oF "_law_take" "_law_take" (st 87) .none Sc (rf 728))),
 (735,(oC "_law_flow" "_law_flow" 1269 541 1 3 730 true 181 731 .none (rf 732) (rf 733) (rf 734) 1278)),
 (736,(oF "_law_flow" "_law_flow" (st 88) .none Sc (rf 735))),
 (742,(oC "_law_cell" "_law_cell" 1281 545 3 3 737 true 181 738 .none (rf 739) (rf 740) (rf 741) 1295)),
 (743,(oF "_law_cell" "_law_cell" (st 89) .none Sc (rf 742))),
 (747,(oC "_law_other" "_law_other" 1298 562 2 3 744 true 181 745 .none .none .none (rf 746) 1301)),
 (748,(oF "_law_other" "_law_other" (st 90) .none Sc (rf 747))),
 (754,(oC "_law_rows" "_law_rows" 1304 567 3 3 749 true 181 750 .none (rf 751) (rf 752) (rf 753) 1317)),
 (755,(oF "_law_rows" "_law_rows" (st 91) .none Sc (rf 754))),
 (761,(oC "_law_wide" "_law_wide" 1320 581 1 3 756 true 181 757 .none (rf 758) (rf 759) (rf 760) 1324)),
 (762,(oF "_law_wide" "_law_wide" (st 92) .none Sc (rf 761))),
 (766,(oC "_law_fits" "_law_fits" 1327 583 4 3 763 true 181 764 .none .none .none (rf 765) 1330)),
 (767,(oF "_law_fits" "_law_fits" (st 93) .none Sc (rf 766))),
 (773,(oC "_law_bad" "_law_bad" 1333 593 2 3 768 true 181 769 .none (rf 770) (rf 771) (rf 772) 1339)),
 (774,(oF "_law_bad" "_law_bad" (st 94) .none Sc (rf 773))),
 (778,(oC "_law_told" "_law_told" 1342 596 3 3 775 true 181 776 .none .none .none (rf 777) 1345)),
 (779,(oF "_law_told" "_law_told" (st 95) .none Sc (rf 778))),
 (785,(oC "_law_near" "_law_near" 1348 609 2 3 780 true 181 781 .none (rf 782) (rf 783) (rf 784) 1354)),
 (786,(oF "_law_near" "_law_near" (st 96) .none Sc (rf 785))),
 (792,(oC "_law_edges" "_law_edges" 1357 612 3 3 787 true 181 788 .none (rf 789) (rf 790) (rf 791) 1372)),
 (793,(oF "_law_edges" "_law_edges" (st 97) .none Sc (rf 792))),
 (799,(oC "_law_made" "_law_made" 1375 623 4 3 794 true 181 795 .none (rf 796) (rf 797) (rf 798) 1383)),
 (800,(oF "_law_made" "_law_made" (st 98) .none Sc (rf 799))),
 (804,(oC "_law_row" "_law_row" 1386 627 7 3 801 true 181 802 .none .none .none (rf 803) 1389)),
 (805,(oF "_law_row" "_law_row" (st 99) .none Sc (rf 804))),
 (811,(oC "_law_due" "_law_due" 1392 644 6 3 806 true 181 807 .none (rf 808) (rf 809) (rf 810) 1406)),
 (812,(oF "_law_due" "_law_due" (st 100) .none Sc (rf 811))),
 (818,(oC "_law_goal" "_law_goal" 1409 655 3 3 813 true 181 814 .none (rf 815) (rf 816) (rf 817) 1421)),
 (819,(oF "_law_goal" "_law_goal" (st 101) .none Sc (rf 818))),
 (825,(oC "_law_said" "_law_said" 1424 662 1 3 820 true 181 821 .none (rf 822) (rf 823) (rf 824) 1428)),
 (826,(oF "_law_said" "_law_said" (st 102) .none Sc (rf 825))),
 (830,(oC "_law_flat" "_law_flat" 1431 672 1 3 827 true 181 828 .none .none .none (rf 829) 1434)),
 (831,(oF "_law_flat" "_law_flat" (st 103) .none Sc (rf 830))),
 (835,(oC "_law_refused" "_law_refused" 1437 674 4 3 832 true 181 833 .none .none .none (rf 834) 1440)),
 (836,(oF "_law_refused" "_law_refused" (st 104) .none Sc (rf 835))),
 (840,(oC "_law_round" "_law_round" 1443 692 2 3 837 true 181 838 .none .none .none (rf 839) 1446)),
 (841,(oF "_law_round" "_law_round" (st 105) .none Sc (rf 840))),
 (847,(oC "law" "law" 1449 716 1 3 842 true 181 843 .none (rf 844) (rf 845) (rf 846) 1455)),
 (848,(oF "law" "law" (st 106) .none Sc (rf 847)))]
def hk0:Hook:=kmHook K0 asK (λ_=>by kernel_rfl) [833,838]
def q0:Program:={ P0 with main:={ P0.main with body:=[st 106] } }
noncomputable def ZbI:List Str:=(["_wall","TOP_SKIP","SPLIT_TOP_SKIP","TAB_SKIP","SPACE_SKIP","XSPACE_SKIP","PAR_FILL_SKIP","PageError","BadArgument","Overflow","BadAlign","TooDeep","UNITY","MAX_DIMEN","MAX_NUMBER","INF_BAD","NORMAL","FIL","FILL","FILLL","is_whole","check_whole","check_number","check_dimen","rounded","reading","decimal_text","times","times_scaled","over","over_scaled","badness","order_text","part_text","Glue","top_order","Totals","CHAR","LIGATURE","HBOX","VBOX","RULE","KERN","GLUE","PENALTY","DISC","MARK","INSERT","ADJUST","MATH","SPECIAL","UNSET","NATURAL","STRETCHED","SHRUNK","FONT_KERN","EXPLICIT","ACCENT_KERN","MU_KERN","PLAIN","ALEADERS","CLEADERS","XLEADERS","MU_SKIP","NONSCRIPT","NAMED","DEEPEST","Box","Rule","Kern","Skip","Penalty","Unset","check_depth","described_rest","described","described_list","width_of","height_of","depth_of","line_height","line_depth","EXACTLY","SPREAD","FINE","LOOSE","TIGHT","OVERFULL","natural_line","across","check_column","natural_column","quotient","set_glue","flex","set_part","part_size","places","moved","goal_size","set_box","hpack","vpack","TAB_SORT","along","check_skips","placed_cells","widths","empty_box","tab_node","prototype","row_box","set_cell","set_row","set_rule","finished","_law_box","_law_take","_law_flow","_law_cell","_law_other","_law_rows","_law_wide","_law_fits","_law_bad","_law_told","_law_near","_law_edges","_law_made","_law_row","_law_due","_law_goal","_law_said","_law_flat","_law_refused","_law_round"]:List String).map Str.ofString
def H1(P:Params):Heap:=absHeap (T22 P) 849 {}
noncomputable def N0:Nat:=20000
theorem open0:∀w:World,(fencedOpening treeTable P0 w N0).map (λs=>(s.heap,s.gens,s.drawn,s.toks))=some (boot_heap w.params,⟨[]⟩,boot_drawn,boot_toks) :=
 boot_open (by kernel_rfl) (by decide) (λs=>by kernel_rfl)
theorem size0:∀w:World,((boot_heap w.params).isNs mainGlobals&&(Array.mk ([]:List GenState)).size==0,(boot_heap w.params).objs.size,(boot_heap w.params).nsMap mainGlobals "__annotations__")=(true,11,ann0):=λw=>by
 kernel_rfl
abbrev sEnd(w:World)(os:OsState):Shared:=⟨H1 w.params,⟨[]⟩,{},1458,os⟩
theorem lk1(w:World)(os:OsState):(staticsOk (importedModules P0.main.body) (boot_heap w.params) (H1 w.params)&&namesBound P0 (H1 w.params)&&gensDone (sEnd w os)&&laidKept (boot_heap w.params) (H1 w.params))=true:=by
 kernel_rfl
theorem lk2(w:World)(os:OsState):openSeen q0 ZbI (importedModules P0.main.body) (λ_=>true) true (sEnd w os)=openGood q0 ZbI:=by
 rw[PySem.W.Fast.te4187177175401517315];kernel_rfl
theorem lk3(w:World)(os:OsState):hk0.obs (sEnd w os)=hk0.val w:=by
 kernel_rfl
theorem endIs(w:World)(os:OsState):(SS T22 849 1458 w os).abs=sEnd w os:=by kernel_rfl
theorem runE(w:World)(os:OsState):topRun treeTable P0 w 11 ann0 6835 ⟨boot_heap w.params,⟨[]⟩,boot_drawn,boot_toks,os⟩ (topStub P0)=some (sEnd w os) :=
 (run0 w os).trans (congrArg some (endIs w os))
theorem looks0(w:World):(λos=>((staticsOk (importedModules P0.main.body) (boot_heap w.params) (H1 w.params)&&namesBound P0 (H1 w.params)&&gensDone (sEnd w os)&&laidKept (boot_heap w.params) (H1 w.params)),
  openSeen q0 ZbI (importedModules P0.main.body) (λ_=>true) true (sEnd w os),hk0.obs (sEnd w os)))=λ_=>(true,openGood q0 ZbI,hk0.val w):=by
 funext os
 rw[lk1 w os,lk2 w os,lk3 w os]
theorem left0:LeftO P0 q0 ZbI (λ_=>true) hk0.obs hk0.val N0 :=
 @LeftO.of_pieces P0 q0 ZbI (λ_=>true) _ hk0.obs hk0.val N0 true boot_heap H1 ⟨[]⟩ ⟨[]⟩ boot_drawn {} boot_toks 1458 11 ann0 6835 open0 size0 runE (by decide) looks0
noncomputable def fPos:Stmt->Pos|.FunctionDef _ _ _ _ _ _ _ _ _ p=>p|_=>⟨0,0,0,0⟩
def d0:DefRec:={ name:="law",params:=ZbY (st 106),body:=ZbX (st 106),scope:=Zac (st 106),pos:=fPos (st 106) }
abbrev R0:OpenRow:=PySem.Challenge.rw_rg0165_01.row
theorem hdef0:defOf q0 R0.name=some (d0,[]):=by kernel_rfl
theorem hp0:R0.prog.theDef R0.name=some (d0.params,d0.body,d0.scope):=by kernel_rfl
theorem hkw0:kwWritten? d0.params.kwonlyargs d0.params.kw_defaults=some []:=by kernel_rfl
theorem rec0(h:Heap):RecFacts R0.records h:=⟨λx hx=>(nomatch hx),λx hx=>(nomatch hx),λc c' a hc=>(nomatch hc),λc fs hf=>(nomatch hf)⟩
theorem ok0:(chainsOk q0&&opensWell R0.prog&&(frees R0.toRowW&&R0.within.isEmpty))=true:=by decide +kernel
theorem bare0:R0.prog.bare:=⟨rfl,rfl,rfl,rfl,rfl,by decide +kernel⟩
theorem prom0:R0.toRowW.promised:=by w_witness2
theorem head1(hl:R0.wellSaid=true)(walk:WalkO q0 ZbI (λ_ _=>True) hk0.says R0.toRowW d0 [] λf vs=>PySem.call f vs):R0.Holds :=
 @holds_open R0 q0 ZbI (λ_=>true) (λ_ _=>True) _ hk0.obs hk0.val hk0.says d0 [] N0 left0 hk0.of hk0.keeps (λ_ _=>trivial) (λ_ _ _ _ _=>trivial) hdef0 hp0 hkw0 (λs _=>rec0 _) rfl hl ok0 bare0 prom0 walk
def Ends(s₁:Shared)(v:Value)(s':Shared):Prop:=v=.bool true/\OldK s₁.heap s'.heap/\s'.os=s₁.os/\AllBare s'.gens
theorem name_law(w:World){h:Heap}{mg:Str->Option Value}(X:(K0 w.params).In h)(g:h.Ns mainGlobals mg):mg d0.name=some (.ref 848) :=
 mg_of X g (by kernel_rfl)
theorem post0(args:List WData):R0.claim.post args (.bool true) args=true :=
 postW_of (r:=R0.toRowW) (X:=true) (by rfl) (w_eq_bool (k:=true) (l:=true) (w_res rfl) w_lit) rfl
set_option tactic.hygienic true in
theorem head2(hl:R0.wellSaid=true)
  (walk:∀(w:World) (s₁:Shared) (mg mb:Str->Option Value) (l:Addr) (vs:List Value) (ns:List Int) (mean:ExcName->Option Value),(K0 w.params).In s₁.heap->(∀P∈[833,838],s₁.heap.get? P=some (tabObj #[])) ->
   Top q0 (looseW q0 ZbI) mean mg mb s₁.heap->s₁.heap.IsList l vs.toArray->IntsAre vs ns->ns.length<=63->s₁.gens=#[] ->
   wpAny (model P0 w) callerA (PySem.call (.ref 848) [.ref l]) (λv s'=>Ends s₁ v s') (λz z=>False) s₁):R0.Holds:=head1 hl (by
  intro w s₀ s₁ mg mb G Y fa o pm cd doc dV kV ho hd hcd hD hmg hg args vals as hpre hlay hrd hwl hlo;have KX:=km_in_of Y;have hT8:=km_tabs_of Y;refine Ground.open G ?_;intro T B D TE TW;have hm2:=name_law w KX T.g;rw[hmg] at hm2;cases hm2;wrow_args hpre hlay hrd hwl hlo;rename_i ns _ _ _ _ _ _ _ l vs _ hL _ _ _ hI _ hb _;refine wpAny_mono (walk w s₁ mg mb l vs ns _ KX hT8 T hL hI (by omega) hg) (λv s' h=>?_) (λz z h=>h.elim);obtain⟨rfl,h1,h2,h3⟩:=h;exact⟨.inl ⟨_,.bool true,[],rfl,λz=>rfl,.bool true,post0 _,λz=>⟨List.nodup_nil,λz ha=>nomatch ha⟩⟩,h1,h2,h3⟩)
noncomputable abbrev L0:OpenLaw:=PySem.Challenge.rw_rg0165_01
theorem sd1:namesResolve L0.row.prog=true:=by rw[PySem.W.Fast.te8377067652309620493];kernel_rfl
theorem sd2:noRoadLSs { strict:=!(importedModules L0.row.prog.main.body).all cThrough.contains,foot:=none,bare:=(["vars","dir","locals"]:List Str).filter (readsOut L0.row.prog L0.row.prog.main.body) } L0.row.prog.main.body=true:=by
 rw[PySem.W.Fast.te8326940854005059898];kernel_rfl
theorem sd3:(namesMeet L0.row.prog L0.row.prog.main.body λz n=>attrL n)=true:=by rw[PySem.W.Fast.te17119622794617984870];kernel_rfl
theorem sd4:noClassBlock L0.prog L0.footing=true:=by rw[PySem.W.Fast.te8179353310426384613];kernel_rfl
theorem sd5:noRoadLSs { strict:=true,foot:=some L0.bound',writes:=L0.writes,may:=L0.may } L0.footing=true:=by rw[PySem.W.Fast.te8326940854005059898];kernel_rfl
theorem sd6:(L0.bound'.all λn=>!builtinNamed n||L0.about==[n]||!L0.reads n)=true:=by rw[PySem.W.Fast.named_eq,PySem.W.Fast.te6984425678791042302];kernel_rfl
theorem sd7:(namesMeet L0.prog L0.above λz n=>!L0.own.contains n)=true:=by rw[PySem.W.Fast.te17119622794617984870];kernel_rfl
theorem said:L0.wellSaid=true:=by
 delta OpenLaw.wellSaid OpenRow.wellSaid OpenRow.partSaid looksOpen;repeat' with_reducible refine look_both ?_ ?_
 all_goals first|with_reducible exact sd1|with_reducible exact sd2|with_reducible exact sd3|with_reducible exact sd4|with_reducible exact sd5|with_reducible exact sd6|with_reducible exact sd7|kernel_rfl
section
structure LamI where
 qual:Str
 params:Arguments
 body:PySem.Expr
 scope:Scope
 pos:Pos
 deriving Inhabited
theorem mA{α:Type}{a:α}{s t:List α}{P:Prop}(h:a∈s++t)(L:a∈s->P)(R:a∈t->P):P:=(mem_append.mp h).elim L R
theorem mC{α:Type}{a b:α}{t:List α}{P:Prop}(h:a∈b::t)(L:a=b->P)(R:a∈t->P):P:=(mem_cons.mp h).elim L R
inductive V where
 |none|bool (b:Bool)|int (i:Int)|str (s:Str)|typ (n:String)|bi (n:String)|ref (a:Addr)|rng (a b:Int)
 |tup (vs:List V)|lst (vs:List V)|ins (C:Addr) (fs:List (Nat×V))|lam (I:LamI) (vs:List V)
 deriving Inhabited
noncomputable def V.ctorIdx(x:V):Nat:=V.casesOn x 0 (λ_=>1) (λ_=>2) (λ_=>3) (λ_=>4) (λ_=>5) (λ_=>6) (λ_ _=>7) (λ_=>8) (λ_=>9) (λ_ _=>10) (λ_ _=>11)
noncomputable def nmT:List String:=["width","stretch","stretch_order","shrink","shrink_order","natural","kind","height","depth","items","shift","sign","order","ratio","sort","glue","leader","value","spans","totals","is_vertical",
 "parts","add","widen","stretch_top","shrink_top","append"]
def nm(k:Nat):Str:=Str.ofString (nmT.getD k "")
noncomputable abbrev Led0:=List (Addr×Obj)
noncomputable def frees(sc:Scope):List Str:=((sc.names.filter λp=>p.2==.free).map (·.1)).reverse
mutual
inductive VR(P:Params)(fz:Led0):V->Value->Prop
 |none:VR P fz .none .none
 |bool {b}:VR P fz (.bool b) (.bool b)
 |int {i t}:VR P fz (.int i) (.int i t)
 |str {s t}:VR P fz (.str s) (.str s t)
 |typ {n}:VR P fz (.typ n) (.type n)
 |bi {n}:VR P fz (.bi n) (.builtin n)
 |ref {a}:VR P fz (.ref a) (.ref a)
 |rng {a b c o}:(a,o)∈fz->(∃t1 t2 t3,o={ cls:=.type "range",dict:=none,data:=.fields #[.int b t1,.int c t2,.int 1 t3],slots:=#[] })->VR P fz (.rng b c) (.ref a)
 |tup {vs ws a o n}:(a,o)∈fz->o.cls=.type "tuple"/\o.data=.seq ws.toArray n->VRs P fz vs ws->VR P fz (.tup vs) (.ref a)
 |lst {vs ws a o n}:(a,o)∈fz->o.cls=.type "list"/\o.data=.seq ws.toArray n->VRs P fz vs ws->VR P fz (.lst vs) (.ref a)
 |ins {C fs a dx es n}:(a,instObj C dx)∈fz->(dx,dictOf es n)∈fz->FRs P fz fs es->VR P fz (.ins C fs) (.ref a)
 |lam {I vs cs a pm c oc ws t ctv}:(a,kla_obj (Str.ofString "<lambda>") I.qual I.params I.body I.scope cs pm c ctv)∈fz->(c,oc)∈fz->oc.data=.fields ws->ws[1]?=some (.str I.qual t) ->
   CRs P fz vs cs->(cs.map (·.2)).Nodup/\cs.map (·.1)=frees I.scope->VR P fz (.lam I vs) (.ref a)
inductive VRs(P:Params)(fz:Led0):List V->List Value->Prop
 |nil:VRs P fz [] []
 |cons {v w vs ws}:VR P fz v w->VRs P fz vs ws->VRs P fz (v::vs) (w::ws)
inductive FRs(P:Params)(fz:Led0):List (Nat×V)->List DictEntry->Prop
 |nil:FRs P fz [] []
 |cons {k v t w fs es}:k<nmT.length->VR P fz v w->FRs P fz fs es->FRs P fz ((k,v)::fs) (⟨PyData.keyHash P (nm k),.str (nm k) t,w⟩::es)
inductive CRs(P:Params)(fz:Led0):List V->List (Str×Addr)->Prop
 |nil:CRs P fz [] []
 |cons {v w x c o vs cs}:(c,o)∈fz->o.data=.cell (some w)->VR P fz v w->CRs P fz vs cs->CRs P fz (v::vs) ((x,c)::cs)
end
section
variable{P:Params}{fz fz':Led0}
theorem VR.mono(h:∀p∈fz,p∈fz'){v:V}{w:Value}(z:VR P fz v w):VR P fz' v w :=
 VR.rec (motive_1:=λv w j=>VR P fz' v w) (motive_2:=λv w j=>VRs P fz' v w) (motive_3:=λv w j=>FRs P fz' v w) (motive_4:=λv w j=>CRs P fz' v w)
  .none .bool .int .str .typ .bi .ref (λa b=>.rng (h _ a) b) (λa c j b=>.tup (h _ a) c b) (λa c j b=>.lst (h _ a) c b) (λa b j c=>.ins (h _ a) (h _ b) c) (λb c d e j g f=>.lam (h _ b) (h _ c) d e f g)
  .nil (λj j a b=>.cons a b) .nil (λa j j b c=>.cons a b c) .nil (λa b j j c d=>.cons (h _ a) b c d) z
def VI(P:Params)(fz:Led0)(w:Value):V->Prop
 |.none=>w=.none
 |.bool b=>w=.bool b
 |.int i=>∃t,w=.int i t
 |.str s=>∃t,w=.str s t
 |.typ n=>w=.type n
 |.bi n=>w=.builtin n
 |.ref a=>w=.ref a
 |.rng b c=>∃a o,w=.ref a/\(a,o)∈fz/\∃t1 t2 t3,o={ cls:=.type "range",dict:=none,data:=.fields #[.int b t1,.int c t2,.int 1 t3],slots:=#[] }
 |.tup vs=>∃a o n ws,w=.ref a/\(a,o)∈fz/\(o.cls=.type "tuple"/\o.data=.seq ws.toArray n)/\VRs P fz vs ws
 |.lst vs=>∃a o n ws,w=.ref a/\(a,o)∈fz/\(o.cls=.type "list"/\o.data=.seq ws.toArray n)/\VRs P fz vs ws
 |.ins C fs=>∃a dx es n,w=.ref a/\(a,instObj C dx)∈fz/\(dx,dictOf es n)∈fz/\FRs P fz fs es
 |.lam I vs=>∃cs a pm c oc ws t ctv,w=.ref a/\(a,kla_obj (Str.ofString "<lambda>") I.qual I.params I.body I.scope cs pm c ctv)∈fz/\(c,oc)∈fz/\oc.data=.fields ws/\ws[1]?=some (.str I.qual t) /\
   CRs P fz vs cs/\(cs.map (·.2)).Nodup/\cs.map (·.1)=frees I.scope
theorem VR.inv{v:V}{w:Value}(z:VR P fz v w):VI P fz w v :=
 VR.rec (motive_1:=λv w j=>VI P fz w v) (motive_2:=λj j j=>True) (motive_3:=λj j j=>True) (motive_4:=λj j j=>True)
  rfl rfl ⟨_,rfl⟩ ⟨_,rfl⟩ rfl rfl rfl (λa b=>⟨_,_,rfl,a,b⟩) (λa c b j=>⟨_,_,_,_,rfl,a,c,b⟩) (λa c b j=>⟨_,_,_,_,rfl,a,c,b⟩) (λa b c j=>⟨_,_,_,_,rfl,a,b,c⟩) (λb c d e g f j=>⟨_,_,_,_,_,_,_,_,rfl,b,c,d,e,g,f⟩)
  trivial (λj j j j=>trivial) trivial (λj j j j j=>trivial) trivial (λj j j j j j=>trivial) z
def VSI(P:Params)(fz:Led0)(ws:List Value):List V->Prop
 |[]=>ws=[]
 |v::vs=>∃w us,ws=w::us/\VR P fz v w/\VRs P fz vs us
theorem VRs.inv{vs:List V}{ws:List Value}(z:VRs P fz vs ws):VSI P fz ws vs :=
 VRs.rec (motive_1:=λj j j=>True) (motive_2:=λvs ws j=>VSI P fz ws vs) (motive_3:=λj j j=>True) (motive_4:=λj j j=>True)
  trivial trivial trivial trivial trivial trivial trivial (λj j=>trivial) (λj j j j=>trivial) (λj j j j=>trivial) (λj j j j=>trivial) (λj j j j j j j=>trivial)
  rfl (λa b j j=>⟨_,_,rfl,a,b⟩) trivial (λj j j j j=>trivial) trivial (λj j j j j j=>trivial) z
section
variable{a:Addr}{w:Value}{v v':V}{vs us:List V}{ws:List Value}
theorem VR.refE(z:VR P fz (.ref a) w):w=.ref a:=z.inv
section
variable{b:Bool}{i x y:Int}{n:String}{C:Addr}{fs:List (Nat×V)}{Pw:Value->Prop}{Pl:List Value->Prop}
theorem VR.eN(z:VR P fz .none w)(K:Pw .none):Pw w:=(z.inv:w=.none).symm▸K
theorem VR.eB(z:VR P fz (.bool b) w)(K:Pw (.bool b)):Pw w:=(z.inv:w=.bool b).symm▸K
theorem VR.eY(z:VR P fz (.typ n) w)(K:Pw (.type n)):Pw w:=(z.inv:w=.type n).symm▸K
theorem VR.eF(z:VR P fz (.bi n) w)(K:Pw (.builtin n)):Pw w:=(z.inv:w=.builtin n).symm▸K
theorem VR.eR(z:VR P fz (.ref a) w)(K:Pw (.ref a)):Pw w:=(z.inv:w=.ref a).symm▸K
theorem VR.eI(z:VR P fz (.int i) w)(K:∀t,Pw (.int i t)):Pw w:=by obtain⟨t,rfl⟩:=z.inv;exact K t
theorem VR.eG(z:VR P fz (.rng x y) w)(K:∀a t1 t2 t3,(a,({ cls:=.type "range",dict:=Option.none,data:=.fields #[.int x t1,.int y t2,.int 1 t3],slots:=#[] }:Obj))∈fz->Pw (.ref a)):Pw w:=by obtain⟨a,o,rfl,m,t1,t2,t3,rfl⟩:=z.inv;exact K _ _ _ _ m
theorem VR.eT(z:VR P fz (.tup vs) w)(K:∀a o n ws,(a,o)∈fz->(o.cls=.type "tuple"/\o.data=.seq ws.toArray n)->VRs P fz vs ws->Pw (.ref a)):Pw w:=by obtain⟨a,o,n,ws,rfl,m,p,q⟩:=z.inv;exact K _ _ _ _ m p q
theorem VR.eL(z:VR P fz (.lst vs) w)(K:∀a o n ws,(a,o)∈fz->(o.cls=.type "list"/\o.data=.seq ws.toArray n)->VRs P fz vs ws->Pw (.ref a)):Pw w:=by obtain⟨a,o,n,ws,rfl,m,p,q⟩:=z.inv;exact K _ _ _ _ m p q
theorem VR.eO(z:VR P fz (.ins C fs) w)(K:∀a dx es n,(a,instObj C dx)∈fz->(dx,dictOf es n)∈fz->FRs P fz fs es->Pw (.ref a)):Pw w:=by obtain⟨a,o,n,ws,rfl,m,p,q⟩:=z.inv;exact K _ _ _ _ m p q
theorem VR.eM{I:LamI}(z:VR P fz (.lam I vs) w)(K:∀cs a pm c oc ws t ctv,(a,kla_obj (Str.ofString "<lambda>") I.qual I.params I.body I.scope cs pm c ctv)∈fz->(c,oc)∈fz->oc.data=.fields ws->ws[1]?=some (.str I.qual t)->CRs P fz vs cs->(cs.map (·.2)).Nodup->cs.map (·.1)=frees I.scope->Pw (.ref a)):Pw w:=by
 obtain⟨cs,a,pm,c,oc,ws,t,ctv,rfl,m1,m2,h1,h2,h3,h4,h5⟩:=z.inv;exact K _ _ _ _ _ _ _ _ m1 m2 h1 h2 h3 h4 h5
theorem VRs.eZ(z:VRs P fz [] ws)(K:Pl []):Pl ws:=(z.inv:ws=[]).symm▸K
theorem VRs.eC(z:VRs P fz (v::vs) ws)(K:∀w us,VR P fz v w->VRs P fz vs us->Pl (w::us)):Pl ws:=by obtain⟨w,us,rfl,h,q⟩:=z.inv;exact K _ _ h q
theorem VRs.e1(z:VRs P fz [v] ws)(K:∀w,VR P fz v w->Pl [w]):Pl ws:=z.eC λw j h z=>z.eZ (Pl:=λus=>Pl (w::us)) (K w h)
theorem VRs.e2(z:VRs P fz [v,v'] ws)(K:∀w w',VR P fz v w->VR P fz v' w'->Pl [w,w']):Pl ws:=z.eC λw j h z=>z.e1 (Pl:=λus=>Pl (w::us)) λw' h'=>K w w' h h'
end
theorem VRs.head(z:VRs P fz (v::vs) (w::ws)):VR P fz v w:=by obtain⟨j,j,q,h,j⟩:=z.inv;cases q;exact h
theorem VRs.tail(z:VRs P fz (v::vs) (w::ws)):VRs P fz vs ws:=by obtain⟨j,j,q,j,h⟩:=z.inv;cases q;exact h
theorem VRs.one(h:VRs P fz [v] ws):∃w,ws=[w]/\VR P fz v w:=by
 obtain⟨w,us,rfl,k,z⟩:=h.inv;cases z.inv;exact⟨w,rfl,k⟩
theorem VRs.two(h:VRs P fz [v,v'] ws):∃w w',ws=[w,w']/\VR P fz v w/\VR P fz v' w':=by
 obtain⟨w,us,rfl,k,z⟩:=h.inv;obtain⟨w',rfl,k'⟩:=z.one;exact⟨w,w',rfl,k,k'⟩
end
theorem VRs.mono(h:∀p∈fz,p∈fz'):∀{v w},VRs P fz v w->VRs P fz' v w
 |[],_,z=>by cases z.inv;exact .nil
 |v::vs,_,z=>by obtain⟨j,j,rfl,a,b⟩:=z.inv;exact .cons (a.mono h) (VRs.mono h b)
theorem VRs.length:∀{vs ws},VRs P fz vs ws->ws.length=vs.length
 |[],_,z=>by cases z.inv;rfl
 |v::vs,_,z=>by obtain⟨j,j,rfl,j,b⟩:=z.inv;exact congrArg (·+1) (VRs.length b)
theorem VRs.append{us:List V}{xs:List Value}:∀{vs ws},VRs P fz vs ws->VRs P fz us xs->VRs P fz (vs++us) (ws++xs)
 |[],_,z,h=>by cases z.inv;exact h
 |v::vs,_,z,h=>by obtain⟨j,j,rfl,a,b⟩:=z.inv;exact .cons a (b.append h)
theorem VRs.get:∀{vs ws} {i:Nat}{v:V},VRs P fz vs ws->vs[i]?=some v->∃w,ws[i]?=some w/\VR P fz v w
 |[],_,i,_,_,h=>by cases h
 |v::vs,_,i,_,z,h=>by
  obtain⟨w,j,rfl,a,b⟩:=z.inv;cases i with
  |zero=>cases h;exact⟨_,rfl,a⟩
  |succ i=>exact VRs.get (i:=i) b h
theorem VRs.set{x:V}{y:Value}(hx:VR P fz x y):∀{vs ws} {i:Nat},VRs P fz vs ws->VRs P fz (vs.set i x) (ws.set i y)
 |[],_,_,z=>by cases z.inv;exact .nil
 |v::vs,_,i,z=>by
  obtain⟨w,j,rfl,a,b⟩:=z.inv;cases i with
  |zero=>exact .cons hx b
  |succ i=>exact .cons a (VRs.set hx b)
theorem FRs.mono(h:∀p∈fz,p∈fz'){fs:List (Nat×V)}{es:List DictEntry}(z:FRs P fz fs es):FRs P fz' fs es :=
 FRs.rec (motive_1:=λj j j=>True) (motive_2:=λj j j=>True) (motive_3:=λfs es j=>FRs P fz' fs es) (motive_4:=λj j j=>True)
  trivial trivial trivial trivial trivial trivial trivial (λj j=>trivial) (λj j j j=>trivial) (λj j j j=>trivial) (λj j j j=>trivial) (λj j j j j j j=>trivial)
  trivial (λj j j j=>trivial) .nil (λa b j j c=>.cons a (b.mono h) c) trivial (λj j j j j j=>trivial) z
def FSI(P:Params)(fz:Led0)(es:List DictEntry):List (Nat×V)->Prop
 |[]=>es=[]
 |(k,v)::fs=>∃t w r,es=⟨PyData.keyHash P (nm k),.str (nm k) t,w⟩::r/\k<nmT.length/\VR P fz v w/\FRs P fz fs r
theorem FRs.inv{fs:List (Nat×V)}{es:List DictEntry}(z:FRs P fz fs es):FSI P fz es fs :=
 FRs.rec (motive_1:=λj j j=>True) (motive_2:=λj j j=>True) (motive_3:=λfs es j=>FSI P fz es fs) (motive_4:=λj j j=>True)
  trivial trivial trivial trivial trivial trivial trivial (λj j=>trivial) (λj j j j=>trivial) (λj j j j=>trivial) (λj j j j=>trivial) (λj j j j j j j=>trivial)
  trivial (λj j j j=>trivial) rfl (λa b c j j=>⟨_,_,_,rfl,a,b,c⟩) trivial (λj j j j j j=>trivial) z
def CSI(P:Params)(fz:Led0)(cs:List (Str×Addr)):List V->Prop
 |[]=>cs=[]
 |v::vs=>∃w x c o r,cs=(x,c)::r/\(c,o)∈fz/\o.data=.cell (some w)/\VR P fz v w/\CRs P fz vs r
theorem CRs.inv{vs:List V}{cs:List (Str×Addr)}(z:CRs P fz vs cs):CSI P fz cs vs :=
 CRs.rec (motive_1:=λj j j=>True) (motive_2:=λj j j=>True) (motive_3:=λj j j=>True) (motive_4:=λvs cs j=>CSI P fz cs vs)
  trivial trivial trivial trivial trivial trivial trivial (λj j=>trivial) (λj j j j=>trivial) (λj j j j=>trivial) (λj j j j=>trivial) (λj j j j j j j=>trivial)
  trivial (λj j j j=>trivial) trivial (λj j j j j=>trivial) rfl (λa b c d j j=>⟨_,_,_,_,_,rfl,a,b,c,d⟩) z
end
end
section
inductive AO where
 |list (vs:List V)|ins (C dx:Addr) (fs:List (Nat×V))
noncomputable def AO.ctorIdx(x:AO):Nat:=AO.casesOn x (λ_=>0) (λ_ _ _=>1)
noncomputable abbrev Led:=List (Addr×AO)
inductive SV(a:Addr)(x:V):V->V->Prop
 |id {v}:SV a x v v
 |here:SV a x (.ref a) x
inductive SVs(a:Addr)(x:V):List V->List V->Prop
 |id {r}:SVs a x r r
 |cons {v v' r r'}:SV a x v v'->SVs a x r r'->SVs a x (v::r) (v'::r')
inductive SOs(a:Addr)(x:V):List (Option V)->List (Option V)->Prop
 |id {r}:SOs a x r r
 |cons {o r r'}:SOs a x r r'->SOs a x (o::r) (o::r')
 |sm {v v' r r'}:SV a x v v'->SOs a x r r'->SOs a x (some v::r) (some v'::r')
inductive SFs(a:Addr)(x:V):List (Nat×V)->List (Nat×V)->Prop
 |id {r}:SFs a x r r
 |cons {k v v' r r'}:SV a x v v'->SFs a x r r'->SFs a x ((k,v)::r) ((k,v')::r')
inductive SA(a:Addr)(x:V):AO->AO->Prop
 |list {vs vs'}:SVs a x vs vs'->SA a x (.list vs) (.list vs')
 |ins {C dx fs fs'}:SFs a x fs fs'->SA a x (.ins C dx fs) (.ins C dx fs')
inductive SLs(a:Addr)(x:V):Led->Led->Prop
 |id {r}:SLs a x r r
 |cons {b o o' r r'}:SA a x o o'->SLs a x r r'->SLs a x ((b,o)::r) ((b,o')::r')
structure Sg where
 stk:List V
 l:List (Option V)
 μ:Led
 cz:Bool:=false
structure Post where
 nx:Sg->Prop
 rt:V->Led->Prop
 ex:Addr->Prop
inductive St:Sg->Sg->Prop
 |refl {S}:St S S
 |frzL {stk l a vs cz S' μ1 μ2 stk' l' μ'}:SVs a (.lst vs) stk stk'->SOs a (.lst vs) l l'->SLs a (.lst vs) (μ1++μ2) μ'->St ⟨stk',l',μ',cz⟩ S'->St ⟨stk,l,μ1++(a,.list vs)::μ2,cz⟩ S'
 |frzI {stk l a C dx fs cz S' μ1 μ2 stk' l' μ'}:SVs a (.ins C fs) stk stk'->SOs a (.ins C fs) l l'->SLs a (.ins C fs) (μ1++μ2) μ'->St ⟨stk',l',μ',cz⟩ S'->St ⟨stk,l,μ1++(a,.ins C dx fs)::μ2,cz⟩ S'
 |drop {stk l p cz S' μ1 μ2}:St ⟨stk,l,μ1++μ2,cz⟩ S'->St ⟨stk,l,μ1++p::μ2,cz⟩ S'
theorem St.trans{a b c:Sg}(h:St a b)(k:St b c):St a c:=by
 induction h with
 |refl=>exact k
 |frzL p q r _ ih=>exact .frzL p q r (ih k)
 |frzI p q r _ ih=>exact .frzI p q r (ih k)
 |drop _ ih=>exact .drop (ih k)
inductive Tg where
 |v (i:Nat)|t (is:List Nat)
noncomputable def Tg.ctorIdx(x:Tg):Nat:=Tg.casesOn x (λ_=>0) (λ_=>1)
mutual
inductive IX where
 |c (v:V)|l (i:Nat)|s (i:Nat)|at (k:Nat)|sa (k:Nat)|da (k:Nat)|sb (k:Nat)|gi|si|dg|sg
 |bin (op:Operator)|iadd|neg|not|cmp (op:CmpOp)|chain (op:CmpOp) (c:List IX)|ite (a b:List IX)
 |tup (n:Nat)|lst (n:Nat)|call (n:Nat)|mg (k:Nat)|slc (lo hi:Bool)
 |comp (t:Tg) (b:CB)|lam (I:LamI) (cs:List Nat)|pop|ret|forL (t:Tg) (b:List IX)|rais (C:Addr)|unp (n:Nat)|unpR (n:Nat)
inductive CB where
 |emit (c:List IX)|cond (c:List IX) (b:CB)|loop (c:List IX) (t:Tg) (b:CB)
end
noncomputable def clsK(C:Addr)(k:Nat):Option V :=
 if k=6 then(if C=375 then some (.int 4) else if C=396 then some (.int 5) else if C=418 then some (.int 6) else if C=439 then some (.int 7) else if C=461 then some (.int 14) else none) else none
noncomputable def mthK(C:Addr)(k:Nat):Option Addr :=
 if C=250 then(if k=21 then some 204 else none)
 else if C=313 then(if k=22 then some 282 else if k=23 then some 289 else if k=24 then some 296 else if k=25 then some 303 else none) else none
noncomputable def insK:List Addr:=[250,313,354,375,396,418,439,461]
noncomputable def fput(k:Nat)(v:V):List (Nat×V)->List (Nat×V)
 |[]=>[(k,v)]
 |(j,u)::r=>if k=j then(j,v)::r else(j,u)::fput k v r
noncomputable def V.nb:V->Bool
 |.bi _=>false
 |_=>true
inductive RA(μ:Led):V->Nat->V->Prop
 |pi {C fs k r}:C∈insK->k<21->fs.lookup k=some r->r.nb=true->RA μ (.ins C fs) k r
 |pc {C fs k r}:C∈insK->fs.lookup k=none->clsK C k=some r->RA μ (.ins C fs) k r
 |mi {a C dx fs k r}:C∈insK->k<21->(a,AO.ins C dx fs)∈μ->fs.lookup k=some r->r.nb=true->RA μ (.ref a) k r
 |mc {a C dx fs k r}:C∈insK->(a,AO.ins C dx fs)∈μ->fs.lookup k=none->clsK C k=some r->RA μ (.ref a) k r
inductive LU(a:Addr)(o o':AO):Led->Led->Prop
 |head {r}:LU a o o' ((a,o)::r) ((a,o')::r)
 |tail {p r r'}:LU a o o' r r'->LU a o o' (p::r) (p::r')
inductive RG(μ:Led):V->V->V->Prop
 |lst {vs:List V}{i:Nat} {v}:vs[i]?=some v->i<2^30->RG μ (.lst vs) (.int i) v
 |tup {vs:List V}{i:Nat} {v}:vs[i]?=some v->i<2^30->RG μ (.tup vs) (.int i) v
 |led {a vs} {i:Nat} {v}:(a,AO.list vs)∈μ->vs[i]?=some v->i<2^30->RG μ (.ref a) (.int i) v
inductive BV:Operator->V->V->V->Prop
 |add {a b}:BV .Add (.int a) (.int b) (.int (a+b))
 |sub {a b}:BV .Sub (.int a) (.int b) (.int (a-b))
 |mul {a b:Int}:a.natAbs<2^64\/b.natAbs<2^64->BV .Mult (.int a) (.int b) (.int (a*b))
 |div {a b:Int}:b≠0->b.natAbs<2^64->BV .FloorDiv (.int a) (.int b) (.int (a.fdiv b))
 |mod {a b:Int}:b≠0->BV .Mod (.int a) (.int b) (.int (a.fmod b))
 |pow {a:Int}{n:Nat}:n<=1000->a.natAbs<2^64->BV .Pow (.int a) (.int n) (.int (a^n))
 |addL {a b:List V}:a.length+b.length<2^20->BV .Add (.lst a) (.lst b) (.lst (a++b))
 |addT {a b:List V}:a.length+b.length<2^20->BV .Add (.tup a) (.tup b) (.tup (a++b))
 |repL {a:V}{n:Nat}:n<=256->BV .Mult (.lst [a]) (.int n) (.lst (List.replicate n a))
noncomputable def icmp(op:CmpOp)(a b:Int):Option Bool:=match op with
 |.Eq=>some (decide (a=b))|.NotEq=>some (decide (a≠b))|.Lt=>some (decide (a<b))|.LtE=>some (decide (a<=b))|.Gt=>some (decide (a>b))|.GtE=>some (decide (a>=b))
 |_=>none
noncomputable def V.isNone:V->Bool|.none=>true|_=>false
mutual
noncomputable def V.dat:Nat->V->Bool
 |_,.none=>true
 |_,.int _=>true
 |n+1,.tup a=>V.dats n a
 |n+1,.lst a=>V.dats n a
 |_,_=>false
noncomputable def V.dats:Nat->List V->Bool
 |_,[]=>true
 |n,a::r=>V.dat n a&&V.dats n r
end
inductive CV(μ:Led):CmpOp->V->V->Bool->Prop
 |int {op a b c}:icmp op a b=some c->CV μ op (.int a) (.int b) c
 |boolEq {a b}:CV μ .Eq (.bool a) (.bool b) (a==b)
 |boolNe {a b}:CV μ .NotEq (.bool a) (.bool b) (a != b)
 |isN {a}:CV μ .Is a .none a.isNone
 |isNN {a}:CV μ .IsNot a .none (!a.isNone)
 |lstN {a:List V}:CV μ .NotEq (.lst a) (.lst []) (!a.isEmpty)
 |lstE {a:List V}:CV μ .Eq (.lst a) (.lst []) a.isEmpty
 |ledN {a vs}:(a,AO.list vs)∈μ->CV μ .NotEq (.ref a) (.lst []) (!vs.isEmpty)
 |ledE {a vs}:(a,AO.list vs)∈μ->CV μ .Eq (.ref a) (.lst []) vs.isEmpty
 |eqT {a}:V.dats 40 a=true->CV μ .Eq (.tup a) (.tup a) true
 |eqL {a}:V.dats 40 a=true->CV μ .Eq (.lst a) (.lst a) true
noncomputable def clbL:List Addr:=[43,56,68,80,92,105,112,119,126,133,168,204,250,261,282,289,296,303,313,354,375,396,418,439,461,472,479,485,491,496,501,506,513,520,535,542,549,556,563,570,577,584,591,598,612,619,627,635,642,649,656,661,668,675,682,687,694,701,708,715,722,729,736,743,748,755,762,767,774,779,786,793,800,805,812,819,826,831,836,841,848]
noncomputable def V.clb:V->Bool
 |.ref a=>clbL.contains a
 |.typ _=>true
 |.bi _=>true
 |.lam _ _=>true
 |_=>false
inductive MG(μ:Led):V->Nat->V->Prop
 |app {a vs}:(a,AO.list vs)∈μ->MG μ (.ref a) 26 (.bi "list.append")
 |pi {C fs k f}:mthK C k=some f->fs.lookup k=none->MG μ (.ins C fs) k (.ref f)
 |mi {a C dx fs k f}:(a,AO.ins C dx fs)∈μ->mthK C k=some f->fs.lookup k=none->MG μ (.ref a) k (.ref f)
noncomputable def ZaF(a b:Int):List V:=(List.range (b-a).toNat).map λ(i:Nat)=>V.int (a+i)
inductive Items:V->List V->Prop
 |lst {vs}:Items (.lst vs) vs
 |tup {vs}:Items (.tup vs) vs
 |rng {a b:Int}:a.natAbs<2^60->b.natAbs<2^60->Items (.rng a b) (ZaF a b)
noncomputable def ZbJ:List Nat->List V->List (Option V)->List (Option V)
 |i::is,v::vs,l=>ZbJ is vs (l.set i (some v))
 |_,_,l=>l
inductive BT:Tg->V->List (Option V)->List (Option V)->Prop
 |v {i x l}:i<l.length->BT (.v i) x l (l.set i (some x))
 |t {is vs l}:is.length=vs.length->(∀i∈is,i<l.length)->BT (.t is) (.tup vs) l (ZbJ is vs l)
abbrev CKT:=V->List V->Led->(V->Led->Prop)->(Addr->Prop)->Prop
noncomputable def Tg.ixs:Tg->List Nat
 |.v i=>[i]
 |.t is=>is
noncomputable def Zcs(l:List (Option V)):List Nat->Option (List V)
 |[]=>some []
 |i::r=>(l[i]?.bind id).bind λv=>(Zcs l r).bind λvs=>some (v::vs)
inductive BK(K:Bool->Sg->Prop)(S:Sg):Prop
 |mk (b:Bool) (r:List V) (l:List (Option V)) (μ:Led) (cz:Bool) (_:St S ⟨.bool b::r,l,μ,cz⟩) (_:K b ⟨r,l,μ,cz⟩)
inductive XC(S:Sg)(v:V)(K:Sg->Prop):Prop
 |mk (r:List V) (l:List (Option V)) (μ:Led) (cz:Bool) (_:St S ⟨r,l,μ,cz⟩) (_:K ⟨v::r,l,μ,cz⟩)
inductive XL(S:Sg)(i:Nat)(K:Sg->Prop):Prop
 |mk (v:V) (r:List V) (l:List (Option V)) (μ:Led) (cz:Bool) (_:St S ⟨r,l,μ,cz⟩) (_:l[i]?=some (some v)) (_:K ⟨v::r,l,μ,cz⟩)
inductive XS(S:Sg)(cel:List Nat)(i:Nat)(K:Sg->Prop):Prop
 |mk (v:V) (r:List V) (l:List (Option V)) (μ:Led) (cz:Bool) (_:St S ⟨v::r,l,μ,cz⟩) (_:i<l.length) (_:cz=false\/i∉cel) (_:K ⟨r,l.set i (some v),μ,cz⟩)
inductive X1(S:Sg)(P:Led->V->V->Prop)(g:V->V->List V->List V)(K:Sg->Prop):Prop
 |mk (o v:V) (r:List V) (l:List (Option V)) (μ:Led) (cz:Bool) (_:St S ⟨o::r,l,μ,cz⟩) (_:P μ o v) (_:K ⟨g o v r,l,μ,cz⟩)
inductive X2{β:Type}(S:Sg)(P:Led->V->V->β->Prop)(g:V->V->β->List V->List V)(K:Sg->Prop):Prop
 |mk (a b:V) (x:β) (r:List V) (l:List (Option V)) (μ:Led) (cz:Bool) (_:St S ⟨b::a::r,l,μ,cz⟩) (_:P μ a b x) (_:K ⟨g a b x r,l,μ,cz⟩)
inductive X3{α:Type}(S:Sg)(f g:α->List V->List V)(K:Sg->Prop):Prop
 |mk (a:α) (r:List V) (l:List (Option V)) (μ:Led) (cz:Bool) (_:St S ⟨f a r,l,μ,cz⟩) (_:K ⟨g a r,l,μ,cz⟩)
inductive XA(S:Sg)(f:V->V->List V->List V)(j:Nat)(K:Sg->Prop):Prop
 |mk (a:Addr) (v:V) (r:List V) (C dx:Addr) (fs:List (Nat×V)) (μ':Led) (l:List (Option V)) (μ:Led) (cz:Bool) (_:St S ⟨f (.ref a) v r,l,μ,cz⟩) (_:C∈insK) (_:j<21) (_:fs.length<900) (_:LU a (.ins C dx fs) (.ins C dx (fput j v fs)) μ μ') (_:K ⟨r,l,μ',cz⟩)
inductive XB(S:Sg)(f:V->V->V->List V->List V)(K:Sg->Prop):Prop
 |mk (ix:Nat) (a:Addr) (v:V) (r vs:List V) (μ':Led) (l:List (Option V)) (μ:Led) (cz:Bool) (_:St S ⟨f (.int ix) (.ref a) v r,l,μ,cz⟩) (_:ix<vs.length) (_:ix<2^30) (_:LU a (.list vs) (.list (vs.set ix v)) μ μ') (_:K ⟨r,l,μ',cz⟩)
inductive XH(S:Sg)(op:CmpOp)(F K:Sg->Prop):Prop
 |mk (a b:V) (x:Bool) (r:List V) (l:List (Option V)) (μ:Led) (cz:Bool) (_:St S ⟨b::a::r,l,μ,cz⟩) (_:CV μ op a b x) (_:x=true->F ⟨b::r,l,μ,cz⟩) (_:x=false->K ⟨.bool false::r,l,μ,cz⟩)
inductive XT(S:Sg)(n:Nat)(K:List V->List V->List (Option V)->Led->Bool->Prop):Prop
 |mk (vs r:List V) (l:List (Option V)) (μ:Led) (cz:Bool) (_:St S ⟨vs.reverse++r,l,μ,cz⟩) (_:vs.length=n) (_:K vs r l μ cz)
inductive XK(S:Sg)(n:Nat)(CK:CKT)(K:Sg->Prop)(ex:Addr->Prop):Prop
 |mk (f:V) (vs r:List V) (R:V->Led->Prop) (E:Addr->Prop) (l:List (Option V)) (μ:Led) (cz:Bool) (_:St S ⟨vs.reverse++f::r,l,μ,cz⟩) (_:vs.length=n) (_:f.clb=true) (_:CK f vs μ R E) (_:∀v μ',R v μ'->K ⟨v::r,l,μ',cz⟩) (_:∀C,E C->ex C)
inductive XO(S:Sg)(F:List V->List (Option V)->Led->Bool->List V->Prop):Prop
 |mk (vs:List V) (l:List (Option V)) (μ:Led) (cz:Bool) (r:List V) (_:St S ⟨r,l,μ,cz⟩) (_:F vs l μ cz r)
inductive XR(S:Sg)(rt:V->Led->Prop):Prop
 |mk (v:V) (r:List V) (l:List (Option V)) (μ:Led) (cz:Bool) (_:St S ⟨v::r,l,μ,cz⟩) (_:rt v μ)
inductive XU(S:Sg)(n:Nat)(f:List V->List V)(K:Sg->Prop):Prop
 |mk (vs r:List V) (l:List (Option V)) (μ:Led) (cz:Bool) (_:St S ⟨.tup vs::r,l,μ,cz⟩) (_:vs.length=n) (_:K ⟨f vs++r,l,μ,cz⟩)
inductive XM(S:Sg)(I:LamI)(cs cel:List Nat)(K:Sg->Prop):Prop
 |mk (vs r:List V) (l:List (Option V)) (μ:Led) (cz:Bool) (_:St S ⟨r,l,μ,cz⟩) (_:Zcs l cs=some vs) (_:∀i∈cs,i∈cel) (_:K ⟨.lam I vs::r,l,μ,true⟩)
inductive XP(S:Sg)(t:Tg)(F:Bool->List (Option V)->Led->List V->(Led->List V->List (Option V)->Prop)->Prop)(K:Sg->Prop):Prop
 |mk (it:V) (r items:List V) (l:List (Option V)) (μ:Led) (cz:Bool) (_:St S ⟨it::r,l,μ,cz⟩) (_:Items it items) (Inv:List V->List V->Led->List (Option V)->Prop) (_:Inv items [] μ l)
  (_:∀v rest acc μ l,Inv (v::rest) acc μ l->(∃l',BT t v l l')/\∀l',BT t v l l'->acc.length<2^20/\F cz l' μ acc (λμ' acc' l''=>Inv rest acc' μ' l'')) (_:∀acc μ l',Inv [] acc μ l'->K ⟨.lst acc::r,l,μ,cz⟩)
inductive XF(S:Sg)(cel:List Nat)(t:Tg)(F:Sg->(Sg->Prop)->Prop)(K:Sg->Prop):Prop
 |mk (it:V) (items:List V) (l:List (Option V)) (μ:Led) (cz:Bool) (_:St S ⟨[it],l,μ,cz⟩) (_:Items it items) (_:cz=false\/∀i∈t.ixs,i∉cel) (Inv:List V->List (Option V)->Led->Prop) (_:Inv items l μ)
  (_:∀v rest l μ l',Inv (v::rest) l μ->BT t v l l'->F ⟨[],l',μ,cz⟩ λS0=>∃S'',St S0 S''/\S''.stk=[]/\S''.cz=cz/\Inv rest S''.l S''.μ)
  (_:∀v rest l1 μ,Inv (v::rest) l1 μ->l1.length=l.length/\∃l',BT t v l1 l') (_:∀l1 μ,Inv [] l1 μ->l1.length=l.length/\K ⟨[],l1,μ,cz⟩)
section
variable(CK:CKT)(cel:List Nat)
mutual
noncomputable def WI:IX->Sg->(Sg->Prop)->Post->Prop
 |.c v,S,K,_=>XC S v K
 |.l i,S,K,_=>XL S i K
 |.s i,S,K,_=>XS S cel i K
 |.at k,S,K,_=>X1 S (λμ o v=>RA μ o k v) (λz v r=>v::r) K
 |.da k,S,K,_=>X1 S (λμ o v=>RA μ o k v) (λo v r=>v::o::r) K
 |.sa k,S,K,_=>XA S (λo v r=>o::v::r) k K
 |.sb k,S,K,_=>XA S (λo v r=>v::o::r) k K
 |.gi,S,K,_=>X2 S RG (λz z v r=>v::r) K
 |.dg,S,K,_=>X2 S RG (λo ix v r=>v::ix::o::r) K
 |.si,S,K,_=>XB S (λix a v r=>ix::a::v::r) K
 |.sg,S,K,_=>XB S (λix a v r=>v::ix::a::r) K
 |.bin op,S,K,_=>X2 S (λz=>BV op) (λz z v r=>v::r) K
 |.iadd,S,K,_=>X3 S (λ(p:Int×Int) r=>.int p.2::.int p.1::r) (λp r=>.int (p.1+p.2)::r) K
 |.neg,S,K,_=>X3 S (λa r=>.int a::r) (λa r=>.int (-a)::r) K
 |.not,S,K,_=>BK (λb S'=>K { S' with stk:=.bool (!b)::S'.stk }) S
 |.cmp op,S,K,_=>X2 S (λμ=>CV μ op) (λz z c r=>.bool c::r) K
 |.chain op c,S,K,Q=>XH S op (λS'=>Wr c S' { Q with nx:=K }) K
 |.ite a b,S,K,Q=>BK (λc S'=>(c=true->Wr a S' { Q with nx:=K })/\(c=false->Wr b S' { Q with nx:=K })) S
 |.tup n,S,K,_=>XT S n λvs r l μ cz=>K ⟨.tup vs::r,l,μ,cz⟩
 |.lst n,S,K,_=>XT S n λvs r l μ cz=>K ⟨.lst vs::r,l,μ,cz⟩\/∀a,K ⟨.ref a::r,l,(a,.list vs)::μ,cz⟩
 |.call n,S,K,Q=>XK S n CK K Q.ex
 |.mg k,S,K,_=>X1 S (λμ o f=>MG μ o k f) (λo f r=>o::f::r) K
 |.slc lo hi,S,K,_=>XO S λvs l μ cz st=>∃r,(match lo,hi with
   |false,true=>∃(n:Nat),st=.int n::.lst vs::r/\n<2^30/\vs.length<2^20/\K ⟨.lst (vs.take n)::r,l,μ,cz⟩
   |true,false=>∃(n:Nat),st=.int n::.lst vs::r/\n<2^30/\vs.length<2^20/\K ⟨.lst (vs.drop n)::r,l,μ,cz⟩
   |_,_=>False)
 |.comp t b,S,K,_=>XP S t (λcz l' μ acc F=>WC b l' cz μ acc F) K
 |.lam I cs,S,K,_=>XM S I cs cel K
 |.pop,S,K,_=>X3 S (λv r=>v::r) (λz r=>r) K
 |.ret,S,_,Q=>XR S Q.rt
 |.forL t b,S,K,Q=>XF S cel t (λS' F=>Wr b S' { Q with nx:=F }) K
 |.rais C,S,_,Q=>∃S',St S S'/\Q.ex C
 |.unp n,S,K,_=>XU S n (λvs=>vs) K
 |.unpR n,S,K,_=>XU S n List.reverse K
noncomputable def Wr:List IX->Sg->Post->Prop
 |[],S,Q=>Q.nx S
 |i::k,S,Q=>WI i S (λS'=>Wr k S' Q) Q
noncomputable def WC:CB->List (Option V)->Bool->Led->List V->(Led->List V->List (Option V)->Prop)->Prop
 |.emit c,l,cz,μ,acc,F=>Wr c ⟨[],l,μ,cz⟩ ⟨λS0=>∃S,St S0 S/\∃v,S.stk=[v]/\S.cz=cz/\F S.μ (acc++[v]) S.l,λz z=>False,λz=>False⟩
 |.cond c b,l,cz,μ,acc,F=>Wr c ⟨[],l,μ,cz⟩ ⟨BK λx S=>S.stk=[]/\S.cz=cz/\(x=true->WC b S.l cz S.μ acc F)/\(x=false->F S.μ acc S.l),λz z=>False,λz=>False⟩
 |.loop c t b,l,cz,μ,acc,F=>Wr c ⟨[],l,μ,cz⟩ ⟨λS0=>∃S,St S0 S/\∃it items,S.stk=[it]/\S.cz=cz/\Items it items/\∃Inv:List V->List V->Led->List (Option V)->Prop,Inv items acc S.μ S.l /\
   (∀v rest acc μ l,Inv (v::rest) acc μ l->(∃l',BT t v l l')/\∀l',BT t v l l'->acc.length<2^20/\WC b l' cz μ acc (λμ' acc' l''=>Inv rest acc' μ' l''))/\∀acc μ l,Inv [] acc μ l->F μ acc l,λz z=>False,λz=>False⟩
end
end
end
structure Cx where
 vars:List (Str×Nat)
 nx:Nat
 sc:Scope
 lo:Nat
 top:Bool
 glob:Str->Option V
 qual:Str
noncomputable def Cx.kd(cx:Cx)(x:Str):Option NameKind:=cx.sc.names.lookup x
def nmIx(x:Str):Nat:=((List.range nmT.length).find? λk=>nm k==x).getD 999
noncomputable def ZaC(cx:Cx):List Str->Option (List Nat)
 |[]=>some []
 |x::r=>(cx.vars.lookup x).bind λi=>(ZaC cx r).bind λis=>some (i::is)
noncomputable def own0(sc:Scope):List Str:=(sc.names.filter λp=>(p.2==.local||p.2==.cell)&&p.1 != (".0" : Str)).map (·.1)
noncomputable def zipN:List Str->Nat->List (Str×Nat)
 |[],_=>[]
 |x::r,n=>(x,n)::zipN r (n+1)
noncomputable def relab(sc:Scope)(out:Scope):Scope :=
 { sc with names:=sc.names.map λ(n,k)=>if(k==.free&&out.kind==.function&&out.names.lookup n==some .cell) then(n,.cell) else(n,k) }
noncomputable def Cx.into(cx:Cx)(sc:Scope):Cx :=
 let o:=own0 sc
 { cx with vars:=zipN o cx.nx++(frees sc).filterMap λx=>(cx.vars.lookup x).map λi=>(x,i),nx:=cx.nx+o.length,sc:=relab sc cx.sc,lo:=cx.nx,top:=false }
def inOk(cx:Cx)(sc:Scope):Bool :=
 sc.kind==.function&&sc.isCoroutine==false&&sc.isGenerator==false&&sc.names.all (λp=>p.1 != ("__classdict__" : Str))&&decide (sc.names.map (·.1)).Nodup&&
  (frees sc).all λx=>(cx.kd x==some .cell||cx.kd x==some .free)&&(cx.vars.lookup x).isSome
noncomputable def Zcz:List Expr->Option (List Str)
 |[]=>some []
 |.Name x _::r=>(Zcz r).map (x::·)
 |_=>none
def xTg(cx:Cx):Expr->Option Tg
 |.Name x _=>(cx.vars.lookup x).map .v
 |.Tuple es _ _=>((Zcz es).bind (ZaC cx)).map .t
 |_=>none
noncomputable def Tg.own(t:Tg)(lo:Nat):Bool:=t.ixs.all λi=>decide (lo<=i)
noncomputable def Zb8:Expr->Bool
 |.Call (.Name _ _) [] [] _=>true
 |_=>false
noncomputable def lineOf(ts:List Expr):Nat:=(ts.head?.map (·.pos.line)).getD 0
set_option backward.match.sparseCases true in
def Zcr(loc:Str->Bool)(ts vs:List Expr):Option (Option (List Str)) :=
 if !(ts.length==2||ts.length==3)||vs.length != ts.length then some none else
 if vs.any fun|.Starred ..=>true|_=>false then some none else
 let names:=ts.filterMap fun
  |.Name id pos=>if loc id&&pos.line==lineOf ts then some id else none
  |_=>none
 if names.length != ts.length||names.eraseDups.length != names.length then some none else
 if vs.all (foldedForSure 8) then some none else
 if vs.all (constantsAlone 8) then none else some (some names)
mutual
noncomputable def xE:Nat->Cx->Expr->Option (List IX)
 |0,_,_=>none
 |n+1,cx,e=>match e with
  |.Constant c _ _=>(match c with|.none=>some [.c .none]|.bool b=>some [.c (.bool b)]|.int i=>some [.c (.int i)]|.str s=>some [.c (.str s)]|_=>none)
  |.Name x _=>if x==("__debug__" : Str) then none else match cx.vars.lookup x with
   |some i=>some [.l i]
   |none=>if cx.kd x==some .globalImplicit then(cx.glob x).map λv=>[.c v] else none
  |.BinOp l op r _=>do let a <- xE n cx l;let b <- xE n cx r;some (a++(b++[.bin op]))
  |.UnaryOp .USub x _=>do let a <- xE n cx x;some (a++[.neg])
  |.UnaryOp .Not x _=>do let a <- xE n cx x;some (a++[.not])
  |.BoolOp op vs _=>xB n cx op vs
  |.IfExp t b o _=>do let ct <- xE n cx t;let cb <- xE n cx b;let co <- xE n cx o;some (ct++[.ite cb co])
  |.Compare l ops cs _=>do let a <- xE n cx l;let b <- xC n cx ops cs;some (a++b)
  |.Call (.Attribute o x ap) args [] p=>if ap.endLine != p.line then none else if Zb8 o||args.length>20 then none else do let k:=nmIx x;let a <- xE n cx o;let b <- xEs n cx args;some (a++(.mg k::(b++[.call (args.length+1)])))
  |.Call f args [] _=>if args.length>20 then none else do let a <- xE n cx f;let b <- xEs n cx args;some (a++(b++[.call args.length]))
  |.Attribute v x _=>if Zb8 v then none else do let k:=nmIx x;let a <- xE n cx v;some (a++[.at k])
  |.Subscript v (.Slice none (some hi) none _) _=>do let a <- xE n cx v;let b <- xE n cx hi;some (a++(b++[.slc false true]))
  |.Subscript v (.Slice (some lo) none none _) _=>do let a <- xE n cx v;let b <- xE n cx lo;some (a++(b++[.slc true false]))
  |.Subscript v s _=>do let a <- xE n cx v;let b <- xE n cx s;some (a++(b++[.gi]))
  |.List es _=>if es.length>1000 then none else do let a <- xEs n cx es;some (a++[.lst es.length])
  |.Tuple es _ _=>if es.length>1000 then none else do let a <- xEs n cx es;some (a++[.tup es.length])
  |.ListComp el (⟨t,it,ifs,0⟩::gs) sc _=>if !inOk cx sc then none else do
   let a <- xE n cx it
   let tg <- xTg (cx.into sc) t
   if !tg.own cx.nx then none else
   let b <- xG n (cx.into sc) ifs gs el
   some (a++[.comp tg b])
  |.Lambda ps b sc pos=>if !(inOk cx sc&&cx.top&&ps.defaults.isEmpty&&ps.kw_defaults.isEmpty&&sc.names.all (λp=>p.2 != .cell)) then none else do let cs <- ZaC cx (frees sc);if !decide cs.Nodup then none else some [.lam ⟨cx.qual++("<lambda>" : Str),ps,b,sc,pos⟩ cs]
  |_=>none
noncomputable def xEs:Nat->Cx->List Expr->Option (List IX)
 |0,_,_=>none
 |_+1,_,[]=>some []
 |n+1,cx,e::es=>do let a <- xE n cx e;let b <- xEs n cx es;some (a++b)
noncomputable def xB:Nat->Cx->BoolOp->List Expr->Option (List IX)
 |0,_,_,_=>none
 |n+1,cx,_,[e]=>xE n cx e
 |n+1,cx,op,e::es=>do let a <- xE n cx e;let b <- xB n cx op es;some (a++[match op with|.And=>.ite b [.c (.bool false)]|.Or=>.ite [.c (.bool true)] b])
 |_+1,_,_,[]=>none
noncomputable def xC:Nat->Cx->List CmpOp->List Expr->Option (List IX)
 |n+1,cx,[op],[r]=>do let b <- xE n cx r;if op==.In||op==.NotIn then none else some (b++[.cmp op])
 |n+1,cx,op::ops,r::rs=>do let b <- xE n cx r;let c <- xC n cx ops rs;if op==.In||op==.NotIn then none else some (b++[.chain op c])
 |_,_,_,_=>none
noncomputable def xG:Nat->Cx->List Expr->List Comprehension->Expr->Option CB
 |0,_,_,_,_=>none
 |n+1,cx,[],[],el=>do let a <- xE n cx el;some (.emit a)
 |n+1,cx,[],⟨t,it,ifs,0⟩::gs,el=>do let a <- xE n cx it;let tg <- xTg cx t;if !tg.own cx.lo then none else let b <- xG n cx ifs gs el;some (.loop a tg b)
 |n+1,cx,[c],gs,el=>do let a <- xE n cx c;let b <- xG n cx [] gs el;some (.cond a b)
 |_,_,_,_,_=>none
end
noncomputable def xT(n:Nat)(cx:Cx):List Expr->Option (List IX)
 |[]=>some []
 |.Name x _::r=>do let i <- cx.vars.lookup x;let b <- xT n cx r;some (.s i::b)
 |.Attribute o x _::r=>do let k:=nmIx x;let a <- xE n cx o;let b <- xT n cx r;some (a++(.sa k::b))
 |_=>none
noncomputable def xRai(cx:Cx)(x:Str):Option (List IX):=if(cx.vars.lookup x).isSome then none else(cx.glob x).bind fun
 |.ref C=>if[56,68,80,92].contains C&&cx.kd x==some .globalImplicit&&x != ("__debug__" : Str) then some [.rais C] else none
 |_=>none
noncomputable def asCall{α:Type}(e:Expr)(K:Expr->List Expr->Option α):Option α:=match e with|.Call f a [] _=>K f a|_=>none
noncomputable def asNm{α:Type}(e:Expr)(K:Str->Option α):Option α:=match e with|.Name x _=>K x|_=>none
noncomputable def asSt{α:Type}(e:Expr)(K:Option α):Option α:=match e with|.Constant (.str _) _ _=>K|_=>none
def selRai(cx:Cx)(ex ca:Option Expr):Option (List IX):=match ca with
 |some _=>none
 |none=>match ex with
  |none=>none
  |some e=>asCall e λf a=>match a with
   |[m]=>asSt m (asNm f λx=>xRai cx x)
   |_=>none
mutual
noncomputable def xS:Nat->Cx->Stmt->Option (List IX)
 |0,_,_=>none
 |n+1,cx,s=>match s with
  |.Expr (.Call f args [] p) _=>do let a <- xE n cx (.Call f args [] p);some (a++[.pop])
  |.Return (some e) _=>do let a <- xE n cx e;some (a++[.ret])
  |.Assign [.Name x _] v _=>do let i <- cx.vars.lookup x;let a <- xE n cx v;some (a++[.s i])
  |.Assign [.Attribute o x _] v _=>do let k:=nmIx x;let a <- xE n cx v;let b <- xE n cx o;some (a++(b++[.sa k]))
  |.Assign [.Subscript o i _] v _=>(match i with|.Slice ..=>none|_=>do let a <- xE n cx v;let b <- xE n cx o;let c <- xE n cx i;some (a++(b++(c++[.si]))))
  |.Assign [.Tuple ts _ _] v _=>(match v with
   |.Tuple vs _ _=>if ts.length != vs.length then none else do
     let a <- xE n cx v
     (Zcr (λx=>cx.kd x==some .local) ts vs).bind fun
     |some names=>do
      let is <- ZaC cx names
      some (a++(.unpR ts.length::is.reverse.map .s))
     |none=>do
      let b <- xT n cx ts
      some (a++(.unp ts.length::b))
   |.ListComp ..=>none
   |_=>do let a <- xE n cx v;let b <- xT n cx ts;some (a++(.unp ts.length::b)))
  |.AugAssign (.Attribute o x _) .Add v _=>do let k:=nmIx x;let a <- xE n cx o;let b <- xE n cx v;some (a++(.da k::(b++[.iadd,.sb k])))
  |.AugAssign (.Subscript o i _) .Add v _=>(match i with|.Slice ..=>none|_=>do let a <- xE n cx o;let c <- xE n cx i;let b <- xE n cx v;some (a++(c++(.dg::(b++[.iadd,.sg])))))
  |.If t b o _=>do let ct <- xE n cx t;let cb <- xSs n cx b;let co <- xSs n cx o;some (ct++[.ite cb co])
  |.For t it b [] _=>do let a <- xE n cx it;let tg <- xTg cx t;let cb <- xSs n { cx with top:=false } b;some (a++[.forL tg cb])
  |.Raise ex ca _=>selRai cx ex ca
  |_=>none
noncomputable def xSs:Nat->Cx->List Stmt->Option (List IX)
 |0,_,_=>none
 |_+1,_,[]=>some []
 |n+1,cx,s::r=>do let a <- xS n cx s;let b <- xSs n cx r;some (a++b)
end
theorem hide{T:Prop}(h:∀P:Prop,(T->P)->P):T:=h T id
theorem no{α:Type}{a:Option α}{c:α}{P:Prop}(h:a=some c)(e:a=none):P:=nomatch h.symm.trans e
theorem bd{α β:Type}{a:Option α}{f:α->Option β}{c:β}(h:a.bind f=some c):∃x,a=some x/\f x=some c:=Option.bind_eq_some_iff.mp h
theorem bd2{α β γ:Type}{a:Option α}{f:α->Option β}{g:α->β->Option γ}{c:γ}(h:(a.bind λx=>(f x).bind (g x))=some c):∃x y,a=some x/\f x=some y/\g x y=some c:=by
 obtain⟨x,h1,h⟩:=bd h;obtain⟨y,h2,h⟩:=bd h;exact⟨x,y,h1,h2,h⟩
theorem bd3{α β γ δ:Type}{a:Option α}{f:α->Option β}{g:α->β->Option γ}{k:α->β->γ->Option δ}{c:δ}(h:(a.bind λx=>(f x).bind λy=>(g x y).bind (k x y))=some c):∃x y z,a=some x/\f x=some y/\g x y=some z/\k x y z=some c:=by
 obtain⟨x,y,h1,h2,h⟩:=bd2 h;obtain⟨z,h3,h⟩:=bd h;exact⟨x,y,z,h1,h2,h3,h⟩
theorem dn{n a b:Nat}(h:n+a<900)(e:Nat.ble b a=true):n+b<900:=Nat.lt_of_le_of_lt (Nat.add_le_add_left (Nat.le_of_ble_eq_true e) n) h
theorem lb{m k:Nat}(h:Nat.ble m k=true):m<=k:=Nat.le_of_ble_eq_true h
theorem Zay{x m k:Nat}(h:x<m)(e:Nat.ble m k=true):x<k:=Nat.lt_of_lt_of_le h (lb e)
theorem Zag{x m k:Nat}(h:x<=m)(e:Nat.ble (m+1) k=true):x<k:=Nat.lt_of_lt_of_le (Nat.lt_succ_of_le h) (lb e)
theorem ZaV{x m k:Nat}(h:x<=m)(e:Nat.ble m k=true):x<=k:=Nat.le_trans h (lb e)
theorem abZ{x b:Int}:(x.natAbs:Int)<=b↔-b<=x/\x<=b:=by
 cases x with
 |ofNat n=>exact⟨λh=>⟨Int.le_trans (Int.neg_nonpos_of_nonneg (Int.le_trans (Int.natCast_nonneg n) h)) (Int.natCast_nonneg n),h⟩,λh=>h.2⟩
 |negSucc n=>exact⟨λh=>⟨Int.neg_le_neg h,Int.le_trans (Int.le_of_lt (Int.negSucc_lt_zero n)) (Int.le_trans (Int.natCast_nonneg (n+1)) h)⟩,λh=>Int.le_of_neg_le_neg h.1⟩
theorem abN{x:Int}{n:Nat}:x.natAbs<=n↔-(n:Int)<=x/\x<=n:=Int.ofNat_le.symm.trans abZ
theorem abL{x:Int}{n:Nat}:x.natAbs<n↔-(n:Int)<x/\x<n:=by
 cases x with
 |ofNat k=>exact⟨λh=>⟨Int.lt_of_lt_of_le (Int.neg_neg_of_pos (Int.ofNat_lt.mpr (Nat.zero_lt_of_lt h))) (Int.natCast_nonneg k),Int.ofNat_lt.mpr h⟩,λh=>Int.ofNat_lt.mp h.2⟩
 |negSucc k=>exact⟨λh=>⟨Int.neg_lt_neg (Int.ofNat_lt.mpr h),Int.lt_of_lt_of_le (Int.negSucc_lt_zero k) (Int.natCast_nonneg n)⟩,λh=>Int.ofNat_lt.mp (Int.lt_of_neg_lt_neg h.1)⟩
theorem naA{x y:Int}{a b c:Nat}(h1:x.natAbs<=a)(h2:y.natAbs<=b)(e:a+b<=c):(x+y).natAbs<=c:=Nat.le_trans (Int.natAbs_add_le x y) (Nat.le_trans (Nat.add_le_add h1 h2) e)
theorem na0{x:Int}{n:Nat}(h0:0<=x)(h:x<=n):x.natAbs<=n:=abN.mpr ⟨by lia,h⟩
theorem naU{x:Int}{k:Nat}(m:Nat)(h:x.natAbs<k)(e:Nat.ble k m=true):x.natAbs<m:=Nat.lt_of_lt_of_le h (Nat.le_of_ble_eq_true e)
theorem naN{x:Int}{m:Nat}(h:x.natAbs<m):(-x).natAbs<m:=by rw[Int.natAbs_neg];exact h
theorem naT{x:Int}(h:x.natAbs<2^60):x<2^60:=(abL.mp h).2
theorem naB{x:Int}{n:Nat}(h1 : -(n:Int)<x)(h2:x<n):x.natAbs<n:=abL.mpr ⟨h1,h2⟩
theorem bdE{α β:Type}{P:Prop}{a:Option α}{f:α->Option β}{c:β}(h:a.bind f=some c)(K:∀x,a=some x->f x=some c->P):P:=let ⟨x,h1,h2⟩:=bd h;K x h1 h2
theorem bd2E{α β γ:Type}{P:Prop}{a:Option α}{f:α->Option β}{g:α->β->Option γ}{c:γ}(h:(a.bind λx=>(f x).bind (g x))=some c)(K:∀x y,a=some x->f x=some y->g x y=some c->P):P:=let ⟨x,y,h1,h2,h3⟩:=bd2 h;K x y h1 h2 h3
theorem bd3E{α β γ δ:Type}{P:Prop}{a:Option α}{f:α->Option β}{g:α->β->Option γ}{k:α->β->γ->Option δ}{c:δ}(h:(a.bind λx=>(f x).bind λy=>(g x y).bind (k x y))=some c)(K:∀x y z,a=some x->f x=some y->g x y=some z->k x y z=some c->P):P :=
 let ⟨x,y,z,h1,h2,h3,h4⟩:=bd3 h;K x y z h1 h2 h3 h4
theorem ifn{α:Type}{c:Prop}{_:Decidable c}{a:Option α}{x:α}(h:(if c then none else a)=some x):¬c/\a=some x:=by
 by_cases q:c
 ·rw[if_pos q] at h;cases h
 ·rw[if_neg q] at h;exact⟨q,h⟩
theorem ify{α:Type}{c:Prop}{_:Decidable c}{a:Option α}{x:α}(h:(if c then a else none)=some x):c/\a=some x:=by
 by_cases q:c
 ·rw[if_pos q] at h;exact⟨q,h⟩
 ·rw[if_neg q] at h;cases h
theorem Zcu{cx:Cx}:∀{a:List Str}{is:List Nat},ZaC cx a=some is->is.length=a.length
 |[],_,h=>by cases h;rfl
 |x::a,is,h=>by obtain⟨i,is',e1,e2,h⟩:=bd2 h;cases h;exact congrArg (·+1) (Zcu e2)
theorem xTg_E{cx:Cx}{P:Expr->Tg->Prop}{t:Expr}{tg:Tg}(h:xTg cx t=some tg)(h1:∀x p i,cx.vars.lookup x=some i->P (.Name x p) (.v i))(h2:∀es k p xs is,Zcz es=some xs->ZaC cx xs=some is->P (.Tuple es k p) (.t is)):P t tg:=by
 cases t with
 |Name x p=>obtain⟨i,hi,h⟩:=Option.map_eq_some_iff.mp h;cases h;exact h1 _ _ _ hi
 |Tuple es k p=>obtain⟨is,hi,h⟩:=Option.map_eq_some_iff.mp h;obtain⟨xs,hx,hs⟩:=bd hi;cases h;exact h2 _ _ _ _ _ hx hs
 |_=>exact no h rfl
theorem cpL{a b c m:Nat}(h:a+(b+c)<=m):a+b<=m:=Nat.le_trans (Nat.add_le_add_left (Nat.le_add_right b c) a) h
theorem cpS{a b c m:Nat}(h:a+(b+c)<=m)(k:1<=b):a<m:=Nat.lt_of_lt_of_le (Nat.lt_add_of_pos_right k) (cpL h)
theorem cpA{a b c m:Nat}(h:a+(b+c)<=m):a+b+c<=m:=(Nat.add_assoc a b c).symm▸h
theorem kjl{k j c:Nat}(h:k+(j+1)=c):k<c:=h▸Nat.lt_add_of_pos_right (Nat.succ_pos j)
theorem kjr{k j c:Nat}(h:k+(j+1)=c):k+1+j=c:=(Nat.succ_add k j).trans h
theorem kja{k j m:Nat}(h:k+(j+1)<m):k+1+j<m:=Nat.lt_of_le_of_lt (Nat.le_of_eq (Nat.succ_add k j)) h
theorem kjb{k j m:Nat}(h:k+(j+1)<=m):k+1+j<=m:=Nat.le_trans (Nat.le_of_eq (Nat.succ_add k j)) h
theorem kj0{k c:Nat}(h:k+0=c):c<=k:=Nat.le_of_eq h.symm
theorem d1{n a b:Nat}(h:n+a<900)(e:Nat.ble (b+1) a=true):n+1+b<900:=Nat.lt_of_le_of_lt (Nat.le_trans (Nat.le_of_eq (by rw[Nat.add_assoc,Nat.add_comm 1 b])) (Nat.add_le_add_left (Nat.le_of_ble_eq_true e) n)) h
theorem lapL{d:Int}{l:Nat}(m:Nat)(h:1+d=l)(b:d<m):l<=m:=Int.ofNat_le.mp (h▸Int.add_comm 1 d▸b)
theorem dmN{x:Int}{n:Nat}(h:x.natAbs<=n)(e:Nat.ble n 1073741823=true) : -1073741823<=x/\x<=1073741823:=abZ.mp (Int.ofNat_le.mpr (Nat.le_trans h (Nat.le_of_ble_eq_true e)))
theorem s1{a:Nat}(h:1<=a):a-1+1=a:=Nat.sub_add_cancel h
theorem s2{a b:Nat}(h:1<=b):a+1+(b-1)=a+b:=by rw[Nat.add_right_comm,Nat.add_assoc,Nat.sub_add_cancel h]
theorem lapI{d:Int}{l:Nat}(h:1+d=l)(h0:0<=d):1<=l:=Int.ofNat_le.mp (h▸Int.le_add_of_nonneg_right h0)
theorem tn1{d:Int}(h:0<=d):1+d=((1+d).toNat:Int):=(Int.toNat_of_nonneg (Int.add_nonneg (by decide) h)).symm
theorem cp1{a b c m k:Nat}(h:a+(b+c)<=m)(e:m<=k):a<=k:=Nat.le_trans (Nat.le_trans (Nat.le_add_right a b) (cpL h)) e
theorem cp2{a b c m k:Nat}(h:a+(b+c)<=m)(e:m<=k):a+b<=k:=Nat.le_trans (cpL h) e
theorem kj2{k j t m:Nat}(h:k+(j+1)=t)(e:t<=m):k<m:=Nat.lt_of_lt_of_le (kjl h) e
theorem kj3{k j t s m:Nat}(h:k+(j+1)=t)(a:t<=s)(b:s<=m):k<m:=Nat.lt_of_lt_of_le (kj2 h a) b
theorem h25{a j m:Nat}(h:a+2*(j+1)<m):a+2+2*j<m:=by rw[Nat.add_assoc,Nat.add_comm 2];exact h
theorem h1e{a b c m:Nat}(h:a+2*(b+c)<m)(k:1<=b):a+2+2*(b-1)<m:=by lia
theorem eL{a b c m e:Nat}(h:a+(b+c)<=m)(k:e=2*m+2):2*(a+b)<e:=k▸Nat.lt_of_le_of_lt (Nat.mul_le_mul_left 2 (cpL h)) (Nat.lt_add_of_pos_right (by decide))
theorem eS{a b c m e:Nat}(h:a+(b+c)<=m)(k:e=2*m+2):2*a+1<e:=k▸Nat.succ_lt_succ (Nat.lt_of_le_of_lt (Nat.mul_le_mul_left 2 (cp1 h (Nat.le_refl m))) (Nat.lt_succ_self _))
theorem z0{a m:Nat}(h:a<=m):0+a<=m:=(Nat.zero_add a).symm▸h
theorem sbC{a b:Nat}(h:1<=b):(a:Int)+b-1=((a+b-1:Nat):Int):=by lia
theorem cpM{a b c m:Nat}(h:a+(b+c)<=m)(k:1<=b):a+b-1<m:=by lia
theorem gl1{g c:Nat}(h:g=c+1):g-1=c:=h▸rfl
theorem gl2{g c s:Nat}(h:g=c+1)(e:s=c):g-1=s:=h▸e▸rfl
theorem ds2{x k:Nat}(h:x<=2*k):x+2<=2*(k+1):=Nat.add_le_add_right h 2
theorem ds1{x k:Nat}(h:x<=2*k):x+1<=2*(k+1):=Nat.le_succ_of_le (Nat.succ_le_succ h)
theorem ds3{x k:Nat}(h:x<=2*k+1):x+1<=2*(k+1):=Nat.succ_le_succ h
theorem sq1{x:Int}{l n m:Nat}(h:x.natAbs<=n*l)(e:l<=m):x.natAbs<=n*m:=Nat.le_trans h (Nat.mul_le_mul_left n e)
theorem nat3{d:Int}(h:0<=d)(b:d<3):d=0\/d=1\/d=2:=by lia
theorem six0{d:Int}(h:0<=d)(b:d<6):d=0\/d=1\/d=2\/d=3\/d=4\/d=5:=by lia
theorem dbl{d:Int}(h:0<d)(k:d<2^60):(2*d).natAbs<2^64:=by lia
theorem fl1{n k:Nat}{m:Nat}(h:n=k+1)(e:k<=m):n<=m+1:=h▸Nat.succ_le_succ e
theorem de{n x a b:Nat}(h:n+x+a<900)(e:Nat.ble (b+1) a=true):n+1+x+b<900:=by rw[Nat.add_right_comm n,Nat.add_assoc];exact Nat.lt_of_le_of_lt (Nat.add_le_add_left (Nat.le_trans (Nat.le_of_eq (Nat.add_comm 1 b)) (Nat.le_of_ble_eq_true e)) _) h
theorem dd{n x a:Nat}(h:n+x+a<900):n+a<900:=Nat.lt_of_le_of_lt (Nat.add_le_add_right (Nat.le_add_right n x) a) h
theorem df{n m a:Nat}(k:Nat)(h:n+8*(m+1)+a<900)(e:Nat.ble k 8=true):n+k+8*m+a<900:=Nat.lt_of_le_of_lt (Nat.add_le_add_right (by rw[Nat.add_assoc,Nat.add_comm k];exact Nat.add_le_add_left (Nat.add_le_add_left (Nat.le_of_ble_eq_true e) _) n) a) h
theorem dp1{d:Int}{m:Nat}(h:d+m<=60):d<=60:=Int.le_trans (Int.le_add_of_nonneg_right (Int.natCast_nonneg m)) h
theorem dp2{d:Int}{m:Nat}(h:d+(m+1:Nat)<=60):d+1+m<=60:=by rw[Int.add_assoc,Int.add_comm 1];exact h
theorem nle{x:Int}(m:Nat){k:Nat}(h0:0<=x)(h:x<=m)(e:Nat.ble m k=true):x.natAbs<=k:=Int.ofNat_le.mp (by rw[Int.natAbs_of_nonneg h0];exact Int.le_trans h (Int.ofNat_le.mpr (Nat.le_of_ble_eq_true e)))
theorem nlt{x:Int}(m:Nat){k:Nat}(h0:0<=x)(h:x<m)(e:Nat.ble m k=true):x.natAbs<=k:=nle m h0 (Int.le_of_lt h) e
theorem p1s{a b k:Nat}(h:a+b-1=k)(e:1<=b):a<=k:=h▸Nat.le_sub_of_add_le (Nat.add_le_add_left e a)
theorem four0{d:Nat}(h:d<=4):d=0\/d=1\/d=2\/d=3\/d=4:=by lia
theorem tnS{a b:Int}(h:a<b):(b-a).toNat=(b-(a+1)).toNat+1:=by lia
theorem tnZ{a b:Int}(h:b<=a):(b-a).toNat=0:=by lia
theorem tnI{a b:Int}{i:Nat}(h:i<(b-a).toNat):a+i<b:=by lia
theorem one1{m k:Nat}(h:m<k):1+m<=k:=Nat.add_comm 1 m▸h
theorem hk2{m k:Nat}(h:2*(m+1)+2<=k+2):2*m+2<=k:=Nat.le_of_add_le_add_right h
theorem kk2{m k:Nat}(h:2*m+2<=k):k=k-2+2:=(Nat.sub_add_cancel (Nat.le_trans (Nat.le_add_left 2 _) h)).symm
theorem j12{k j s:Nat}(h:k+(j+1+1)=s+1):k<s:=Nat.lt_of_lt_of_le (Nat.lt_add_of_pos_right (Nat.succ_pos j)) (Nat.le_of_eq (Nat.succ.inj h))
theorem ar4{a b c:Nat}(h1:b<=4*c)(h2:a<=4):a+b<=4*(c+1):=Nat.add_comm a b▸Nat.add_le_add h1 h2
theorem lt0{a b m:Nat}(h:a+b<m):a<m:=Nat.lt_of_le_of_lt (Nat.le_add_right _ _) h
theorem lw{a b:Nat}(h:a<b):a<=b:=Nat.le_of_lt h
section
noncomputable abbrev tbs:List Addr:=[833,838]
structure TopF(mg mb:Str->Option Value)(h:Heap):Prop where
 g:h.Ns mainGlobals mg
 b:h.Ns builtinsNs mb
 nolimit:h.NoLimit
 builtins:∀x:Str,x≠("__name__" : Str)->mb x=bootBuiltins x
 bmain:∃bm ob,mg ("__builtins__" : Str)=some (.ref bm)/\bm≠builtinsNs/\h.get? bm=some ob/\ob.cls=.type "module"/\ob.dict=some builtinsNs/\ob.data=.plain
structure Gl where
 w:World
 hb:Heap
 mg:Str->Option Value
 mb:Str->Option Value
 os:OsState
 K:(K0 w.params).In hb
 T:TopF mg mb hb
inductive Sto where
 |ns (a:Addr) (x:Str)|cell (c:Addr)
noncomputable def Sto.ctorIdx(x:Sto):Nat:=Sto.casesOn x (λ_ _=>0) (λ_=>1)
structure Act where
 A:Around
 env:Env
 outer:List Env
 L:Addr
 own:List Addr
 h₀:Heap
 fro:List (Addr×Obj)
 fz0:Led0
 sto:List Sto
 fxn:List (Addr×(Str->Option Value)):=[]
 fxc:Led0:=[]
noncomputable abbrev keys(l:Led0):List Addr:=l.map (·.1)
noncomputable abbrev Act.fx(X:Act):List Addr:=X.own++(tbs++keys X.fro)
noncomputable abbrev Act.dyn(X:Act)(mu:Led0):List Addr:=keys mu++X.fx
noncomputable def FrOK:List Env->List (Addr×Obj)->Prop
 |[],[]=>True
 |e::r,p::q=>e.scope.kind≠.module/\e.frame=some p.1/\(∃es ep,p.2.data=.dict es ep/\StrKeys es)/\FrOK r q
 |_,_=>False
noncomputable def qualP(P:Addr):Str:=if P=833 then "_law_refused.<locals>.<lambda>" else "_law_round.<locals>.<lambda>"
def TabOk(fz:Led0)(h:Heap)(P:Addr):Prop :=
 ∃ps,h.get? P=some (tabObj ps)/\TriplesOk ps.toList/\∀pos v,codeAmong pos ps.toList=some v ->
  ∃c oc ws t,v=.ref c/\(c,oc)∈fz/\oc.data=.fields ws/\ws[1]?=some (.str (qualP P) t)
structure Inv(G:Gl)(X:Act)(fz mu:Led0)(h:Heap):Prop where
 st:X.h₀.StaysIn h
 dyn:∀a∈X.dyn mu,X.h₀.get? a=none
 nd:(X.dyn mu).Nodup
 ents:∀p∈mu,h.get? p.1=some p.2
 fzh:∀p∈fz,h.get? p.1=some p.2
 fzd:∀p∈fz,p.1∉X.dyn mu
 fzf:∀p∈fz,p∈X.fz0\/X.h₀.get? p.1=none
 fz0:∀p∈X.fz0,p∈fz
 own:∀a∈X.own,∃m,h.Ns a m
 fro:∀p∈X.fro,∃sl,h.get? p.1=some { p.2 with slots:=sl }
 tab:∀P∈tbs,TabOk fz h P
 fxn:∀p∈X.fxn,p.1∈X.own/\h.Ns p.1 p.2
section
variable{G:Gl}{X:Act}{fz fz' mu:Led0}{h h':Heap}
theorem TabOk.mono{P:Addr}(x:TabOk fz h P)(k:h'.get? P=h.get? P)(s:∀p∈fz,p∈fz'):TabOk fz' h' P:=by
 obtain⟨ps,a,b,c⟩:=x;refine⟨ps,k.trans a,b,λpos v e=>?_⟩;refine hide λPP0 hPP0=>?_
 obtain⟨c,oc,ws,t,h1,h2,h3⟩:=c pos v e;refine hPP0 ?_;exact⟨c,oc,ws,t,h1,s _ h2,h3⟩
theorem Inv.has(I:Inv G X fz mu h){a:Addr}(ha:a∈X.dyn mu):∃o,h.get? a=some o:=by
 refine mA ha (λha=>?_) λha=>?_
 ·obtain⟨p,hp,rfl⟩:=mem_map.mp ha
  exact⟨_,I.ents p hp⟩
 refine mA ha (λha=>?_) λha=>?_
 ·obtain⟨m,o,z,z,e,z⟩:=I.own a ha
  exact⟨o,e⟩
 refine mA ha (λha=>?_) λha=>?_
 ·obtain⟨ps,e,z⟩:=I.tab a ha
  exact⟨_,e⟩
 ·obtain⟨p,hp,rfl⟩:=mem_map.mp ha
  obtain⟨sl,e⟩:=I.fro p hp;exact⟨_,e⟩
theorem Inv.out(I:Inv G X fz mu h){a:Addr}(ha:h.get? a=none):a∉X.dyn mu:=λq=>by
 obtain⟨o,e⟩:=I.has q;rw[ha] at e;cases e
theorem Inv.none0(I:Inv G X fz mu h){a:Addr}(ha:h.get? a=none):X.h₀.get? a=none:=by
 cases q:X.h₀.get? a with
 |none=>rfl
 |some o=>rw[I.st _ _ q] at ha;cases ha
theorem Inv.ext(I:Inv G X fz mu h)(k:∀b o,h.get? b=some o->h'.get? b=some o):Inv G X fz mu h' where
 st:=λb o e=>k b o (I.st b o e)
 dyn:=I.dyn
 nd:=I.nd
 ents:=λp hp=>k _ _ (I.ents p hp)
 fzh:=λp hp=>k _ _ (I.fzh p hp)
 fzd:=I.fzd
 fzf:=I.fzf
 fz0:=I.fz0
 own:=λa ha=>let ⟨m,e⟩:=I.own a ha;⟨m,e.keeps k⟩
 fro:=λp hp=>let ⟨sl,e⟩:=I.fro p hp;⟨sl,k _ _ e⟩
 tab:=λP hP=>by
  have t:=I.tab P hP;obtain⟨ps,e,z⟩:=id t;exact t.mono (by rw[k _ _ e,e]) λz x=>x
 fxn:=λp hp=>⟨(I.fxn p hp).1,(I.fxn p hp).2.keeps k⟩
theorem Inv.addF(I:Inv G X fz mu h){p:Addr×Obj}(hp:h.get? p.1=some p.2)(hn:p.1∉X.dyn mu)(h0:X.h₀.get? p.1=none):Inv G X (p::fz) mu h where
 st:=I.st
 dyn:=I.dyn
 nd:=I.nd
 ents:=I.ents
 fzh:=forall_mem_cons.mpr ⟨hp,I.fzh⟩
 fzd:=forall_mem_cons.mpr ⟨hn,I.fzd⟩
 fzf:=forall_mem_cons.mpr ⟨.inr h0,I.fzf⟩
 fz0:=λq hq=>.tail _ (I.fz0 q hq)
 own:=I.own
 fro:=I.fro
 tab:=λP hP=>(I.tab P hP).mono rfl λz x=>.tail _ x
 fxn:=I.fxn
theorem Inv.newF(I:Inv G X fz mu h){a:Addr}{o:Obj}(k:∀b o,h.get? b=some o->h'.get? b=some o)(hn:h.get? a=none)(ha:h'.get? a=some o):Inv G X ((a,o)::fz) mu h' :=
 (I.ext k).addF ha (I.out hn) (I.none0 hn)
theorem Inv.addM(I:Inv G X fz mu h){p:Addr×Obj}(hp:h.get? p.1=some p.2)(hn:p.1∉X.dyn mu)(h0:X.h₀.get? p.1=none)(hz:∀q∈fz,q.1≠p.1):Inv G X fz (p::mu) h where
 st:=I.st
 dyn:=show ∀a∈p.1::X.dyn mu,X.h₀.get? a=none from forall_mem_cons.mpr ⟨h0,I.dyn⟩
 nd:=nodup_cons.mpr ⟨hn,I.nd⟩
 ents:=forall_mem_cons.mpr ⟨hp,I.ents⟩
 fzh:=I.fzh
 fzd:=λq hq m=>by
  refine mC m (λe=>?_) λm=>?_
  ·exact hz q hq e
  ·exact I.fzd q hq m
 fzf:=I.fzf
 fz0:=I.fz0
 own:=I.own
 fro:=I.fro
 tab:=I.tab
 fxn:=I.fxn
theorem Inv.newM(I:Inv G X fz mu h){a:Addr}{o:Obj}(k:∀b o,h.get? b=some o->h'.get? b=some o)(hn:h.get? a=none)(ha:h'.get? a=some o):Inv G X fz ((a,o)::mu) h' :=
 (I.ext k).addM ha (I.out hn) (I.none0 hn) λq hq e=>by
  have:=I.fzh q hq;rw[e,hn] at this;cases this
theorem Zbm{α:Type}{a:α}{l r:List α}(h:(l++a::r).Nodup):a∉l/\a∉r:=by
 have:=nodup_append.mp h;exact⟨λq=>this.2.2 a q a (.head _) rfl,(nodup_cons.mp this.2.1).1⟩
theorem Inv.set{m1 m2:Led0}{a:Addr}{o o':Obj}(I:Inv G X fz (m1++(a,o)::m2) h)(k:Heap.ExtBut a h h')(ha:h'.get? a=some o'):Inv G X fz (m1++(a,o')::m2) h':=by
 have ek:keys (m1++(a,o')::m2)=keys (m1++(a,o)::m2):=by simp[keys]
 have ed:X.dyn (m1++(a,o')::m2)=X.dyn (m1++(a,o)::m2):=by simp only[Act.dyn,ek]
 have nd:=I.nd;have e0:X.dyn (m1++(a,o)::m2)=keys m1++a::(keys m2++X.fx):=by simp[Act.dyn,keys]
 rw[e0] at nd;obtain⟨n1,n2⟩:=Zbm nd;have n2a:a∉keys m2:=λq=>n2 (mem_append_left _ q)
 have n2b:a∉X.fx:=λq=>n2 (mem_append_right _ q)
 have na:X.h₀.get? a=none:=I.dyn a (by rw[e0];simp);refine⟨λb o e=>k b o (λq=>?_) (I.st b o e),?_,?_,λp hp=>?_,λp hp=>k _ _ (λq=>?_) (I.fzh p hp),?_,I.fzf,I.fz0,λb hb=>?_,λp hp=>?_,λP hP=>?_,λp hp=>⟨(I.fxn p hp).1,(I.fxn p hp).2.extBut k λq=>n2b (q▸mem_append_left _ (I.fxn p hp).1)⟩⟩
 ·rw[q,na] at e;cases e
 ·rw[ed];exact I.dyn
 ·rw[ed];exact I.nd
 ·refine mA hp (λhp=>?_) λhp=>?_
  ·exact k _ _ (λq=>n1 (q▸mem_map_of_mem hp)) (I.ents p (mem_append_left _ hp))
  ·rcases mem_cons.mp hp with rfl|hp
   ·exact ha
   ·exact k _ _ (λq=>n2a (q▸mem_map_of_mem hp)) (I.ents p (mem_append_right _ (.tail _ hp)))
 ·exact I.fzd p hp (by rw[e0,q];simp)
 ·rw[ed];exact I.fzd
 ·obtain⟨m,e⟩:=I.own b hb
  exact⟨m,e.extBut k λq=>n2b (q▸mem_append_left _ hb)⟩
 ·obtain⟨sl,e⟩:=I.fro p hp
  exact⟨sl,k _ _ (λq=>n2b (q▸mem_append_right _ (mem_append_right _ (mem_map_of_mem hp)))) e⟩
 ·have t:=I.tab P hP
  obtain⟨ps,e,z⟩:=id t;exact t.mono (by rw[k _ _ (λq=>n2b (q▸mem_append_right _ (mem_append_left _ hP))) e,e]) λz x=>x
theorem Inv.setOwn{a:Addr}{m:Str->Option Value}(I:Inv G X fz mu h)(ho:a∈X.own)(k:Heap.ExtBut a h h')(ha:h'.Ns a m)(hf:∀p∈X.fxn,p.1=a->h'.Ns a p.2):Inv G X fz mu h':=by
 have nd:=I.nd;obtain⟨o1,o2,eo⟩:=List.append_of_mem ho;have e0:X.dyn mu=(keys mu++o1)++a::(o2++(tbs++keys X.fro)):=by simp[Act.dyn,Act.fx,eo]
 rw[e0] at nd;obtain⟨n1,n2⟩:=Zbm nd;have na:X.h₀.get? a=none:=I.dyn a (by rw[e0];simp);refine⟨λb o e=>k b o (λq=>?_) (I.st b o e),I.dyn,I.nd,λp hp=>?_,λp hp=>k _ _ (λq=>?_) (I.fzh p hp),I.fzd,I.fzf,I.fz0,λb hb=>?_,λp hp=>?_,λP hP=>?_,λp hp=>⟨(I.fxn p hp).1,?_⟩⟩
 ·rw[q,na] at e;cases e
 ·exact k _ _ (λq=>n1 (q▸mem_append_left _ (mem_map_of_mem hp))) (I.ents p hp)
 ·exact I.fzd p hp (by rw[e0,q];simp)
 ·by_cases q:b=a
  ·exact⟨m,q▸ha⟩
  ·obtain⟨m',e⟩:=I.own b hb
   exact⟨m',e.extBut k q⟩
 ·obtain⟨sl,e⟩:=I.fro p hp
  exact⟨sl,k _ _ (λq=>n2 (q▸mem_append_right _ (mem_append_right _ (mem_map_of_mem hp)))) e⟩
 ·have t:=I.tab P hP
  obtain⟨ps,e,z⟩:=id t;exact t.mono (by rw[k _ _ (λq=>n2 (q▸mem_append_right _ (mem_append_left _ hP))) e,e]) λz x=>x
 ·by_cases q:p.1=a
  ·rw[q];exact hf p hp q
  ·exact(I.fxn p hp).2.extBut k q
theorem Inv.frz{m1 m2 q:Led0}(I:Inv G X fz (m1++(q++m2)) h):Inv G X (q++fz) (m1++m2) h:=by
 have nd:=I.nd;have sub:∀a∈X.dyn (m1++m2),a∈X.dyn (m1++(q++m2)):=λa ha=>by
  simp only[Act.dyn,keys,map_append,mem_append] at ha⊢;grind
 have dj:∀p∈q,p.1∉X.dyn (m1++m2):=λp hp ha=>by
  obtain⟨q1,q2,rfl⟩:=List.append_of_mem hp;have e0:X.dyn (m1++((q1++p::q2)++m2))=(keys m1++keys q1)++p.1::(keys q2++(keys m2++X.fx)):=by simp[Act.dyn,keys]
  rw[e0] at nd;obtain⟨n1,n2⟩:=Zbm nd;simp only[Act.dyn,keys,map_append,mem_append] at ha n1 n2;grind
 refine⟨I.st,λa ha=>I.dyn a (sub a ha),?_,λp hp=>I.ents p ?_,λp hp=>?_,λp hp=>?_,λp hp=>?_,λp hp=>mem_append_right _ (I.fz0 p hp),I.own,I.fro,λP hP=>(I.tab P hP).mono rfl λz x=>mem_append_right _ x,I.fxn⟩
 ·refine List.Nodup.sublist ?_ nd
  simp only[Act.dyn,keys,map_append];exact List.Sublist.append_right (List.Sublist.append_left (List.sublist_append_right _ _) _) _
 ·refine mA hp (λhp=>?_) λhp=>?_
  ·exact mem_append_left _ hp
  ·exact mem_append_right _ (mem_append_right _ hp)
 ·refine mA hp (λhp=>?_) λhp=>?_
  ·exact I.ents p (mem_append_right _ (mem_append_left _ hp))
  ·exact I.fzh p hp
 ·refine mA hp (λhp=>?_) λhp=>?_
  ·exact dj p hp
  ·exact λha=>I.fzd p hp (sub _ ha)
 ·refine mA hp (λhp=>?_) λhp=>?_
  ·exact .inr (I.dyn p.1 (mem_append_left _ (mem_map_of_mem (mem_append_right _ (mem_append_left _ hp)))))
  ·exact I.fzf p hp
theorem Inv.sub2{m m':Led0}(I:Inv G X fz m h)(nd:(keys m').Nodup)(sm:∀p∈m',p∈m):Inv G X fz m' h:=by
 have sub:∀a∈X.dyn m',a∈X.dyn m:=λa ha=>by
  refine mA ha (λha=>?_) λha=>?_
  ·obtain⟨p,hp,rfl⟩:=mem_map.mp ha
   exact mem_append_left _ (mem_map_of_mem (sm p hp))
  ·exact mem_append_right _ ha
 refine⟨I.st,λa ha=>I.dyn a (sub a ha),?_,λp hp=>I.ents p (sm p hp),I.fzh,λp hp ha=>I.fzd p hp (sub _ ha),I.fzf,I.fz0,I.own,I.fro,I.tab,I.fxn⟩;have:=nodup_append.mp I.nd;refine nodup_append.mpr ⟨nd,this.2.1,λa ha b hb e=>?_⟩;obtain⟨p,hp,rfl⟩:=mem_map.mp ha;exact this.2.2 _ (mem_map_of_mem (sm p hp)) b hb e
theorem Inv.sub{m m':Led0}(I:Inv G X fz m h)(s:(keys m').Sublist (keys m))(sm:∀p∈m',p∈m):Inv G X fz m' h :=
 I.sub2 (s.nodup (nodup_append.mp I.nd).1) sm
end
end
section
theorem lpair{o:Obj}{ws:List Value}{n:Nat}(e:o=listOf ws.toArray n):o.cls=.type "list"/\o.data=.seq ws.toArray n:=by subst e;exact⟨rfl,rfl⟩
inductive LR(P:Params)(fz:Led0):Led->Led0->Prop
 |nil:LR P fz [] []
 |list {a vs ws o n μ mu}:o=listOf ws.toArray n->VRs P fz vs ws->LR P fz μ mu->LR P fz ((a,.list vs)::μ) ((a,o)::mu)
 |ins {a C dx fs es n μ mu}:FRs P fz fs es->LR P fz μ mu->LR P fz ((a,.ins C dx fs)::μ) ((a,instObj C dx)::(dx,dictOf es n)::mu)
section
variable{P:Params}{fz fz':Led0}
theorem LR.mono(h:∀p∈fz,p∈fz'){μ mu}(x:LR P fz μ mu):LR P fz' μ mu:=by
 induction x with
 |nil=>exact .nil
 |list c a _ ih=>exact .list c (a.mono h) ih
 |ins a _ ih=>exact .ins (a.mono h) ih
theorem VR.sv{a:Addr}{x:V}(hx:VR P fz x (.ref a)){v v':V}{w:Value}(h:SV a x v v')(z:VR P fz v w):VR P fz v' w:=by
 cases h with
 |id=>exact z
 |here=>cases z.inv;exact hx
theorem VRs.sv{a:Addr}{x:V}(hx:VR P fz x (.ref a)){v v':List V}{w:List Value}(z:VRs P fz v w)(p:SVs a x v v'):VRs P fz v' w:=by
 induction p generalizing w with
 |id=>exact z
 |cons p _ ih=>obtain⟨j,j,rfl,y,z⟩:=z.inv;exact .cons (VR.sv hx p y) (ih z)
theorem FRs.sv{a:Addr}{x:V}(hx:VR P fz x (.ref a)){v v':List (Nat×V)}{w:List DictEntry}(p:SFs a x v v')(z:FRs P fz v w):FRs P fz v' w:=by
 induction p generalizing w with
 |id=>exact z
 |cons p _ ih=>obtain⟨j,j,j,rfl,o,y,z⟩:=z.inv;exact .cons o (VR.sv hx p y) (ih z)
def LI(P:Params)(fz:Led0)(mu:Led0):Led->Prop
 |[]=>mu=[]
 |(a,.list vs)::μ=>∃ws o n m,mu=(a,o)::m/\o=listOf (List.toArray ws) n/\VRs P fz vs ws/\LR P fz μ m
 |(a,.ins C dx fs)::μ=>∃es n m,mu=(a,instObj C dx)::(dx,dictOf es n)::m/\FRs P fz fs es/\LR P fz μ m
theorem LR.inv{μ mu}(x:LR P fz μ mu):LI P fz mu μ:=by
 cases x with
 |nil=>rfl
 |list c b x=>exact⟨_,_,_,_,rfl,c,b,x⟩
 |ins b x=>exact⟨_,_,_,rfl,b,x⟩
theorem LR.frz{a:Addr}{v:V}(hv:VR P fz v (.ref a)){μ μ':Led}{mu:Led0}(x:LR P fz μ mu)(q:SLs a v μ μ'):LR P fz μ' mu:=by
 induction q generalizing mu with
 |id=>exact x
 |cons p _ ih =>
  cases p with
  |list p=>obtain⟨j,j,j,j,rfl,c,b,x⟩:=x.inv;exact .list c (VRs.sv hv b p) (ih x)
  |ins p=>obtain⟨j,j,j,rfl,b,x⟩:=x.inv;exact .ins (FRs.sv hv p b) (ih x)
theorem LR.app{μ mu μ' mu'}(x:LR P fz μ mu)(y:LR P fz μ' mu'):LR P fz (μ++μ') (mu++mu'):=by
 induction x with
 |nil=>exact y
 |list c b _ ih=>exact .list c b ih
 |ins b _ ih=>exact .ins b ih
theorem LR.split:∀{μ1 μ2:Led} {mu},LR P fz (μ1++μ2) mu->∃m1 m2,mu=m1++m2/\LR P fz μ1 m1/\LR P fz μ2 m2
 |[],_,mu,x=>⟨[],mu,rfl,.nil,x⟩
 |(_,o)::μ1,_,_,x=>by
  cases o with
  |list =>
   obtain⟨j,j,j,j,rfl,c,b,x⟩:=x.inv;obtain⟨m1,m2,rfl,h1,h2⟩:=LR.split (μ1:=μ1) x;exact⟨_::m1,m2,rfl,.list c b h1,h2⟩
  |ins =>
   obtain⟨j,j,j,rfl,b,x⟩:=x.inv;obtain⟨m1,m2,rfl,h1,h2⟩:=LR.split (μ1:=μ1) x;exact⟨_::_::m1,m2,rfl,.ins b h1,h2⟩
theorem LR.mem{μ mu}(x:LR P fz μ mu):∀{a vs},(a,AO.list vs)∈μ->∃ws o n,(a,o)∈mu/\o=listOf ws.toArray n/\VRs P fz vs ws:=by
 induction x with
 |nil=>intro a vs h;cases h
 |list c b _ ih =>
  intro a vs h;refine mC h (λe=>?_) λh=>?_
  ·cases e;exact⟨_,_,_,.head _,c,b⟩
  ·obtain⟨ws,o,n,h1,h2⟩:=ih h;exact⟨ws,o,n,.tail _ h1,h2⟩
 |ins b _ ih =>
  intro a vs h;refine mC h (λe=>?_) λh=>?_
  ·cases e
  ·obtain⟨ws,o,n,h1,h2⟩:=ih h;exact⟨ws,o,n,.tail _ (.tail _ h1),h2⟩
theorem LR.memI{μ mu}(x:LR P fz μ mu):∀{a C dx fs},(a,AO.ins C dx fs)∈μ->∃es n,(a,instObj C dx)∈mu/\(dx,dictOf es n)∈mu/\FRs P fz fs es:=by
 induction x with
 |nil=>intro a C dx fs h;cases h
 |list c b _ ih =>
  intro a C dx fs h;refine mC h (λe=>?_) λh=>?_
  ·cases e
  ·obtain⟨es,n,h1,h2,h3⟩:=ih h;exact⟨es,n,.tail _ h1,.tail _ h2,h3⟩
 |ins b _ ih =>
  intro a C dx fs h;refine mC h (λe=>?_) λh=>?_
  ·cases e;exact⟨_,_,.head _,.tail _ (.head _),b⟩
  ·obtain⟨es,n,h1,h2,h3⟩:=ih h;exact⟨es,n,.tail _ (.tail _ h1),.tail _ (.tail _ h2),h3⟩
end
def Holds(h:Heap)(cells:Led0):Sto->Value->Prop
 |.ns a x,w=>∃m,h.Ns a m/\m x=some w
 |.cell c,w=>∃o,(c,o)∈cells/\o.data=.cell (some w)
structure SR(G:Gl)(X:Act)(cel:List Nat)(fz cs:Led0)(h:Heap)(l:List (Option V))(cz:Bool):Prop where
 sl:∀(i:Nat) v,l[i]?=some (some v)->∃st w,X.sto[i]?=some st/\Holds h (cs++fz) st w/\VR G.w.params fz v w
 cl:∀(i:Nat) c,X.sto[i]?=some (.cell c)->(cz=false\/i∉cel)->∃o v0,(c,o)∈cs/\o.data=.cell v0
 cf:∀(i:Nat) c,X.sto[i]?=some (.cell c)->(cz=true/\i∈cel)->∃o v0,(c,o)∈fz/\o.data=.cell v0
 ow:∀(i:Nat) a x,X.sto[i]?=some (.ns a x)->a∈X.own
 nd:X.sto.Nodup
 fc:∀p∈X.fxc,p∈cs
inductive Mod(G:Gl)(X:Act)(cel:List Nat)(S:Sg)(ws:List Value)(s:Shared):Prop
 |mk (fz:Led0) (mu:Led0) (cs:Led0) (_:Inv G X fz (mu++cs) s.heap) (_:LR G.w.params fz S.μ mu) (_:VRs G.w.params fz S.stk ws) (_:SR G X cel fz cs s.heap S.l S.cz) (_:s.os=G.os) (_:s.gens=#[])
inductive MR(G:Gl)(X:Act)(cel:List Nat)(nx:Sg->Prop)(ws:List Value)(s:Shared):Prop
 |mk (S':Sg) (_:Mod G X cel S' ws s) (_:nx S')
section
variable{G:Gl}{X:Act}{cel:List Nat}{fz fz' cs:Led0}{h h':Heap}{l:List (Option V)}{cz:Bool}
theorem Holds.mono{c c':Led0}(k:∀b o,h.get? b=some o->h'.get? b=some o)(s:∀p∈c,p∈c'):∀{st w},Holds h c st w->Holds h' c' st w
 |.ns _ _,_,⟨m,a,b⟩=>⟨m,a.keeps k,b⟩
 |.cell _,_,⟨o,a,b⟩=>⟨o,s _ a,b⟩
theorem SR.mono(R:SR G X cel fz cs h l cz)(k:∀b o,h.get? b=some o->h'.get? b=some o)(s:∀p∈fz,p∈fz'):SR G X cel fz' cs h' l cz where
 sl:=λi v e=>by
  refine hide λPP0 hPP0=>?_
  obtain⟨st,w,h1,h2,h3⟩:=R.sl i v e;refine hPP0 ?_;exact⟨st,w,h1,h2.mono k (λp hp=>(mem_append.mp hp).elim (mem_append_left _) λq=>mem_append_right _ (s _ q)),h3.mono s⟩
 cl:=R.cl
 cf:=λi c e q=>let ⟨o,v0,a,b⟩:=R.cf i c e q;⟨o,v0,s _ a,b⟩
 ow:=R.ow
 nd:=R.nd
 fc:=R.fc
theorem SOs.get{a:Addr}{x v:V}{l l':List (Option V)}{i:Nat}(q:SOs a x l l')(e:l'[i]?=some (some v)):∃u,l[i]?=some (some u)/\SV a x u v:=by
 induction q generalizing i with
 |id=>exact⟨v,e,.id⟩
 |cons _ ih=>cases i with
  |zero=>exact⟨v,e,.id⟩
  |succ i=>exact ih (i:=i) e
 |sm p _ ih=>cases i with
  |zero=>cases e;exact⟨_,rfl,p⟩
  |succ i=>exact ih (i:=i) e
theorem SR.frz{l':List (Option V)}(R:SR G X cel fz cs h l cz){a:Addr}{x:V}(hx:VR G.w.params fz x (.ref a))(q:SOs a x l l'):SR G X cel fz cs h l' cz where
 sl:=λi v e=>by
  refine hide λPP1 hPP1=>?_
  obtain⟨u,e2,e3⟩:=q.get e;obtain⟨st,w,h1,h2,h3⟩:=R.sl i u e2;refine hPP1 ?_;exact⟨st,w,h1,h2,VR.sv hx e3 h3⟩
 cl:=R.cl
 cf:=R.cf
 ow:=R.ow
 nd:=R.nd
 fc:=R.fc
theorem frzMod{stk stk':List V}{l':List (Option V)}{ws:List Value}{μ1 μ2 μ':Led}{e:Addr×AO}{v:V}{s:Shared}(M:Mod G X cel ⟨stk,l,μ1++e::μ2,cz⟩ ws s)
  (hv:∀fz q,LR G.w.params fz [e] q->VR G.w.params (q++fz) v (.ref e.1)) (p1:SVs e.1 v stk stk') (p2:SOs e.1 v l l') (p3:SLs e.1 v (μ1++μ2) μ') :
  Mod G X cel ⟨stk',l',μ',cz⟩ ws s:=by
 obtain⟨fz,mu,cs,I,R,Z,SL,o1,o2⟩:=M;obtain⟨m1,m2,rfl,R1,R2⟩:=R.split;obtain⟨q,m2,rfl,Re,R2⟩:=LR.split (μ1:=[e]) R2;have V:=hv fz q Re;have I':Inv G X (q++fz) (m1++(m2++cs)) s.heap:=Inv.frz (q:=q) (by simpa [append_assoc] using I);have sb:∀p∈fz,p∈q++fz:=λj hp=>mem_append_right _ hp
 exact⟨q++fz,m1++m2,cs,by simpa [append_assoc] using I',LR.frz V ((R1.app R2).mono sb) p3,VRs.sv V (Z.mono sb) p1,(SL.mono (λj j e=>e) sb).frz V p2,o1,o2⟩
theorem Mod.st{S S':Sg}{ws:List Value}{s:Shared}(t:St S S')(M:Mod G X cel S ws s):Mod G X cel S' ws s:=by
 induction t with
 |refl=>exact M
 |frzL p1 p2 p3 _ ih =>
  refine ih (frzMod M (λfz q r=>?_) p1 p2 p3);cases r with|list c b r=>cases r;exact .lst (.head _) (lpair c) (b.mono λj hp=>.tail _ hp)
 |frzI p1 p2 p3 _ ih =>
  refine ih (frzMod M (λfz q r=>?_) p1 p2 p3);cases r with|ins b r=>cases r;exact .ins (.head _) (.tail _ (.head _)) (b.mono λj hp=>.tail _ (.tail _ hp))
 |drop _ ih =>
  refine ih ?_;obtain⟨fz,mu,cs,I,R,Z,SL,o1,o2⟩:=M;obtain⟨m1,m2,rfl,R1,R2⟩:=R.split;obtain⟨q,m2,rfl,Re,R2⟩:=LR.split (μ1:=[_]) R2;refine⟨fz,m1++m2,cs,Inv.sub I ?_ ?_,R1.app R2,Z,SL,o1,o2⟩
  ·simp only[keys,map_append,append_assoc]
   exact List.Sublist.append_left (List.sublist_append_right _ _) _
  ·intro p hp
   simp only[mem_append] at hp⊢;grind
end
end
section
structure AOK(G:Gl)(X:Act)(n:Nat):Prop where
 hA:X.A.frames=some (X.env::X.outer)
 hh:X.A.handled=none
 dep:X.A.depth<=n
 un:X.A.units<=8*n
 nb:n<900
 hf:X.env.frame=some X.L
 hk:X.env.scope.kind=.function
 own:∃r,X.own=X.L::r
 fro:FrOK X.outer X.fro
 st:G.hb.StaysIn X.h₀
 abv:∀a∈X.fx,a∉tbs->G.hb.objs.size<=a
inductive Flies(G:Gl)(h₀:Heap)(l:List Env)(fz:Led0)(e C:Addr)(h:Heap):Prop
 |mk (B:Heap) (a0:Value) (_:h₀.StaysIn B) (_:(∀p∈fz,B.get? p.1=some p.2)) (_:(∀P∈tbs,B.get? P=h.get? P)) (_:Heap.FlyingW B l e (.ref C) a0 h)
inductive Fresh(h₀:Heap)(fz:Led0)(e C:Addr)(h:Heap):Prop
 |mk (oe:Obj) (vs:Array Value) (a0:Value) (_:h.get? e=some oe) (_:oe.cls=.ref C) (_:oe.data=.fields vs) (_:vs[1]?=some .none) (_:vs[0]?=some a0) (_:h₀.get? e=none) (_:e∉keys fz) (_:e∉tbs)
noncomputable def Zap(h₀:Heap)(fro:List (Addr×Obj))(fz0:Led0):Act:={ A:=callerA,env:=default,outer:=[],L:=0,own:=[],h₀:=h₀,fro:=fro,fz0:=fz0,sto:=[] }
inductive PostV(G:Gl)(h₀:Heap)(fro:List (Addr×Obj))(fz:Led0)(R:V->Led->Prop)(v:Value)(s':Shared):Prop
 |mk (v':V) (μ':Led) (fz':Led0) (mu':Led0) (_:R v' μ') (_:Inv G (Zap h₀ fro fz) fz' mu' s'.heap) (_:LR G.w.params fz' μ' mu') (_:VR G.w.params fz' v' v) (_:s'.os=G.os) (_:s'.gens=#[])
inductive PostE(G:Gl)(h₀:Heap)(fro:List (Addr×Obj))(fz:Led0)(envs:List Env)(E:Addr->Prop)(x:Value)(s':Shared):Prop
 |mk (e:Addr) (C:Addr) (fz':Led0) (_:x=.ref e) (_:E C) (_:Inv G (Zap h₀ fro fz) fz' [] s'.heap) (_:Flies G h₀ envs fz' e C s'.heap) (_:s'.os=G.os) (_:s'.gens=#[])
def CallOK(G:Gl)(n:Nat)(f:V)(vs:List V)(μ:Led)(R:V->Led->Prop)(E:Addr->Prop):Prop :=
 ∀(A:Around) (envs:List Env) (fro:List (Addr×Obj)) (h₀:Heap) (fz mu:Led0) (fv:Value) (ws:List Value) (s:Shared),
  A.frames=some envs->A.handled=none->A.depth<=n->A.units<=8*n->n<900->FrOK envs fro->G.hb.StaysIn h₀->(∀a∈keys fro,a∉tbs->G.hb.objs.size<=a)->envs≠[]->
  Inv G (Zap h₀ fro fz) fz mu s.heap->LR G.w.params fz μ mu->VR G.w.params fz f fv->VRs G.w.params fz vs ws->s.os=G.os->s.gens=#[] ->
  wpAny (model P0 G.w) A (call fv ws)
   (PostV G h₀ fro fz R)
   (PostE G h₀ fro fz envs E) s
inductive HeldX(h₀:Heap)(l:List Env)(L:Addr)(fz:Led0)(e C:Addr)(h:Heap):Prop
 |mk (B:Heap) (a0:Value) (_:h₀.StaysIn B) (_:(∀p∈fz,B.get? p.1=some p.2)) (_:(∀P∈tbs,B.get? P=h.get? P)) (_:Heap.HeldW B l e (.ref C) a0 L h)
inductive Exc(G:Gl)(X:Act)(E:Addr->Prop)(x:Value)(s':Shared):Prop
 |mk (e:Addr) (C:Addr) (fz:Led0) (_:x=.ref e) (_:E C) (_:Inv G X fz [] s'.heap) (_:(Flies G X.h₀ (X.env::X.outer) fz e C s'.heap\/Fresh X.h₀ fz e C s'.heap\/HeldX X.h₀ (X.env::X.outer) X.L fz e C s'.heap)) (_:s'.os=G.os) (_:s'.gens=#[])
section
variable{G:Gl}{X:Act}{n:Nat}{fz fz' mu mu' cs:Led0}{h h':Heap}
noncomputable def Act.base(X:Act)(mu:Led0)(h:Heap):Heap:=hideAll h (keys mu++(tbs++X.L::keys X.fro))
theorem Inv.callIn{oL:Obj}(O:AOK G X n)(I:Inv G X fz (mu++cs) h)(hL:h.get? X.L=some oL) :
  Inv G (Zap (X.base mu h) ((X.L,oL)::X.fro) fz) fz mu h:=by
 obtain⟨r,er⟩:=O.own;have dynS:∀a∈(Zap (X.base mu h) ((X.L,oL)::X.fro) fz).dyn mu,a∈X.dyn (mu++cs):=λa ha=>by
  simp only[Act.dyn,Act.fx,Zap,keys,map_append,map_cons,mem_append,mem_cons,er] at ha⊢;grind
 have hide:∀a,a∈(Zap (X.base mu h) ((X.L,oL)::X.fro) fz).dyn mu->a∈keys mu++(tbs++X.L::keys X.fro):=λa ha=>ha
 refine⟨λb o e=>of_hideAll _ e,λa ha=>hideAll_none _ (hide a ha),?_,λp hp=>I.ents p (mem_append_left _ hp),I.fzh,λp hp ha=>I.fzd p hp (dynS _ ha),λp hp=>.inl hp,λp hp=>hp,λa ha=>(nomatch ha),?_,I.tab,λp hp=>(nomatch hp)⟩
 ·have nd:=I.nd
  show(keys mu++([]++(tbs++(X.L::keys X.fro)))).Nodup;simp only[Act.dyn,Act.fx,keys,map_append,er,nil_append] at nd⊢;rw[append_assoc] at nd;have h1:=(nodup_append.mp nd);have h2:=(nodup_append.mp h1.2.1);have h3:=nodup_cons.mp h2.2.1;have h4:=nodup_append.mp h3.2;have h5:=nodup_append.mp h4.2.1;refine nodup_append.mpr ⟨h1.1,nodup_append.mpr ⟨h5.1,nodup_cons.mpr ⟨λq=>h3.1 (mem_append_right _ (mem_append_right _ q)),h5.2.1⟩,?_⟩,?_⟩
  ·intro a ha b hb e
   rcases mem_cons.mp hb with rfl|hb
   ·exact h3.1 (e▸mem_append_right _ (mem_append_left _ ha))
   ·exact h5.2.2 a ha b hb e
  ·intro a ha b hb e
   refine h1.2.2 a ha b ?_ e;refine mA hb (λhb=>?_) λhb=>?_
   ·exact mem_append_right _ (.tail _ (mem_append_right _ (mem_append_left _ hb)))
   ·rcases mem_cons.mp hb with rfl|hb
    ·exact mem_append_right _ (.head _)
    ·exact mem_append_right _ (.tail _ (mem_append_right _ (mem_append_right _ hb)))
 ·intro p hp
  rcases mem_cons.mp hp with rfl|hp
  ·exact⟨oL.slots,hL⟩
  ·exact I.fro p hp
theorem ZdK{b:Addr}{o:Obj}(O:AOK G X n)(I:Inv G X fz (mu++cs) h)(e:h.get? b=some o)(hb:b∉keys mu)(ht:b∉tbs)(hl:b≠X.L)(hf:b∉keys X.fro):(X.base mu h).get? b=some o :=
 hideAll_get _ e (by simp only[mem_append,mem_cons];grind)
theorem ZcJ{a:Addr}(O:AOK G X n)(I:Inv G X fz (mu++cs) h)(e:(X.base mu h).get? a=none):X.h₀.get? a=none:=by
 obtain⟨r,er⟩:=O.own;cases q:X.h₀.get? a with
 |none=>rfl
 |some o =>
  have nd:a∉X.dyn (mu++cs):=λm=>by rw[I.dyn a m] at q;cases q
  rw[ZdK O I (I.st _ _ q)] at e
  ·cases e
  all_goals
   simp only[Act.dyn,Act.fx,keys,map_append,er,mem_append,mem_cons] at nd;grind
theorem Zd3(O:AOK G X n)(I:Inv G X fz (mu++cs) h):X.h₀.StaysIn (X.base mu h):=λb o e=>by
 cases q:(X.base mu h).get? b with
 |none=>rw[ZcJ O I q] at e;cases e
 |some o' =>
  have h1:=of_hideAll _ q;rw[I.st _ _ e] at h1;rw[h1]
theorem Inv.callOut{oL:Obj}{l:List (Option V)}{cz:Bool}{cel:List Nat}(O:AOK G X n)(I:Inv G X fz (mu++cs) h)(hL:h.get? X.L=some oL)(hs:SR G X cel fz cs h l cz)
  (I':Inv G (Zap (X.base mu h) ((X.L,oL)::X.fro) fz) fz' mu' h'):Inv G X fz' (mu'++cs) h'/\SR G X cel fz' cs h' l cz:=by
 obtain⟨r,er⟩:=O.own;have nd:=I.nd;have nd':=I'.nd;have eD:X.dyn (mu++cs)=keys mu++(keys cs++(X.L::(r++(tbs++keys X.fro)))):=by simp[Act.dyn,Act.fx,keys,er]
 have eD':(Zap (X.base mu h) ((X.L,oL)::X.fro) fz).dyn mu'=keys mu'++(tbs++(X.L::keys X.fro)):=rfl;rw[eD] at nd;rw[eD'] at nd';have n1:=nodup_append.mp nd;have n2:=nodup_append.mp n1.2.1;have n3:=nodup_cons.mp n2.2.1;have n4:=nodup_append.mp n3.2;have n5:=nodup_append.mp n4.2.1;have kcs:∀a∈keys cs++r,∃o,(X.base mu h).get? a=some o:=λa ha=>by
  obtain⟨o,e⟩:=I.has (a:=a) (by rw[eD];rcases mem_append.mp ha with ha|ha<;>simp[ha]);refine⟨o,ZdK O I e ?_ ?_ ?_ ?_⟩;all_goals
   intro q;refine mA ha (λha=>?_) λha=>?_
  ·exact n1.2.2 _ q _ (mem_append_left _ ha) rfl
  ·exact n1.2.2 _ q _ (mem_append_right _ (.tail _ (mem_append_left _ ha))) rfl
  ·exact n2.2.2 _ ha _ (.tail _ (mem_append_right _ (mem_append_left _ q))) rfl
  ·exact n4.2.2 _ ha _ (mem_append_left _ q) rfl
  ·exact n2.2.2 _ ha _ (q▸.head _) rfl
  ·exact n3.1 (q▸mem_append_left _ ha)
  ·exact n2.2.2 _ ha _ (.tail _ (mem_append_right _ (mem_append_right _ q))) rfl
  ·exact n4.2.2 _ ha _ (mem_append_right _ q) rfl
 have kmu:∀a∈keys mu',a∉keys cs++r:=λa ha q=>by
  obtain⟨o,e⟩:=kcs a q;cases e.symm.trans (I'.dyn a (by rw[eD'];exact mem_append_left _ ha))
 have csh:∀p∈cs,(X.base mu h).get? p.1=some p.2:=λp hp=>by
  obtain⟨o,e⟩:=kcs p.1 (mem_append_left _ (mem_map_of_mem hp));have:=of_hideAll _ e;rw[I.ents p (mem_append_right _ hp)] at this;rw[e,<- this]
 have m1:=nodup_append.mp nd';have m2:=nodup_append.mp m1.2.1;have m3:=nodup_cons.mp m2.2.1;have eN:X.dyn (mu'++cs)=keys mu'++(keys cs++(X.L::(r++(tbs++keys X.fro)))):=by simp[Act.dyn,Act.fx,keys,er]
 have fz1:∀p∈fz',p∈fz\/(X.base mu h).get? p.1=none:=I'.fzf;have II:Inv G X fz' (mu'++cs) h':=by
  refine⟨λb o e=>I'.st _ _ (Zd3 O I _ _ e),λa ha=>?_,?_,λp hp=>?_,I'.fzh,λp hp ha=>?_,λp hp=>?_,λp hp=>I'.fz0 p (I.fz0 p hp),λa ha=>?_,λp hp=>I'.fro p (.tail _ hp),I'.tab,λp hp=>?_⟩
  ·rw[eN] at ha
   refine mA ha (λha=>?_) λha=>?_
   ·exact ZcJ O I (I'.dyn a (by rw[eD'];exact mem_append_left _ ha))
   ·exact I.dyn a (by rw[eD];exact mem_append_right _ ha)
  ·rw[eN]
   refine nodup_append.mpr ⟨m1.1,n1.2.1,λa ha b hb e=>?_⟩;subst e;refine mA hb (λhb=>?_) λhb=>?_
   ·exact kmu a ha (mem_append_left _ hb)
   rcases mem_cons.mp hb with rfl|hb
   ·exact m1.2.2 _ ha _ (mem_append_right _ (.head _)) rfl
   refine mA hb (λhb=>?_) λhb=>?_
   ·exact kmu a ha (mem_append_right _ hb)
   refine mA hb (λhb=>?_) λhb=>?_
   ·exact m1.2.2 _ ha _ (mem_append_left _ hb) rfl
   ·exact m1.2.2 _ ha _ (mem_append_right _ (.tail _ hb)) rfl
  ·refine mA hp (λhp=>?_) λhp=>?_
   ·exact I'.ents p hp
   ·exact I'.st _ _ (csh p hp)
  ·rw[eN] at ha
   have hz:=I'.fzd p hp;rw[eD'] at hz;have key:p.1∈keys cs++r->False:=λq=>by
    rcases fz1 p hp with hq|hq
    ·exact I.fzd p hq (by rw[eD];rcases mem_append.mp q with q|q<;>simp[q])
    ·obtain⟨o,e⟩:=kcs p.1 q;rw[hq] at e;cases e
   refine mA ha (λha=>?_) λha=>?_
   ·exact hz (mem_append_left _ ha)
   refine mA ha (λha=>?_) λha=>?_
   ·exact key (mem_append_left _ ha)
   refine mC ha (λha=>?_) λha=>?_
   ·exact hz (mem_append_right _ (mem_append_right _ (ha▸.head _)))
   refine mA ha (λha=>?_) λha=>?_
   ·exact key (mem_append_right _ ha)
   refine mA ha (λha=>?_) λha=>?_
   ·exact hz (mem_append_right _ (mem_append_left _ ha))
   ·exact hz (mem_append_right _ (mem_append_right _ (.tail _ ha)))
  ·rcases fz1 p hp with hq|hq
   ·exact I.fzf p hq
   ·exact .inr (ZcJ O I hq)
  ·rw[er] at ha
   rcases mem_cons.mp ha with rfl|ha
   ·obtain⟨m,o,es,ep,e,hd,hk,hm⟩:=I.own X.L (er▸.head _)
    rw[hL] at e;cases e;obtain⟨sl,e⟩:=I'.fro (X.L,oL) (.head _);exact⟨m,_,es,ep,e,hd,hk,hm⟩
   ·obtain⟨m,o,es,ep,e,rest⟩:=I.own a (er▸.tail _ ha)
    obtain⟨o',e'⟩:=kcs a (mem_append_right _ ha);have:=of_hideAll _ e';rw[e] at this;cases this;exact⟨m,o,es,ep,I'.st _ _ e',rest⟩
  ·obtain⟨ha,o,es,ep,e,rest⟩:=I.fxn p hp
   refine⟨ha,?_⟩;rw[er] at ha;refine mC ha (λha=>?_) λha=>?_
   ·rw[ha,hL] at e;cases e
    obtain⟨sl,e⟩:=I'.fro (X.L,oL) (.head _);rw[ha];exact⟨_,es,ep,e,rest⟩
   ·obtain⟨o',e'⟩:=kcs p.1 (mem_append_right _ ha)
    have:=of_hideAll _ e';rw[e] at this;cases this;exact⟨o,es,ep,I'.st _ _ e',rest⟩
 refine⟨II,⟨λi v e=>?_,hs.cl,λi c e q=>let ⟨o,v0,h1,h2⟩:=hs.cf i c e q;⟨o,v0,I'.fz0 _ h1,h2⟩,hs.ow,hs.nd,hs.fc⟩⟩;refine hide λPP1 hPP1=>?_
 obtain⟨st,w,h1,h2,h3⟩:=hs.sl i v e;refine hPP1 ?_;refine⟨st,w,h1,?_,h3.mono I'.fz0⟩;cases st with
 |cell c =>
  obtain⟨o,q1,q2⟩:=h2;exact⟨o,(mem_append.mp q1).elim (mem_append_left _) λq=>mem_append_right _ (I'.fz0 _ q),q2⟩
 |ns a x =>
  obtain⟨m,⟨o,es,ep,e1,hd,hk,hm⟩,q⟩:=h2;have hao:=hs.ow i a x h1;rw[er] at hao;rcases mem_cons.mp hao with rfl|ha
  ·rw[hL] at e1;cases e1
   obtain⟨sl,e'⟩:=I'.fro (X.L,oL) (.head _);exact⟨m,⟨_,es,ep,e',hd,hk,hm⟩,q⟩
  ·obtain⟨o',e'⟩:=kcs a (mem_append_right _ ha)
   have:=of_hideAll _ e';rw[e1] at this;cases this;exact⟨m,⟨o,es,ep,I'.st _ _ e',hd,hk,hm⟩,q⟩
end
end
section
theorem funF{h B:Heap}:∀{l:List Env}{fro:List (Addr×Obj)},FrOK l fro->(∀p∈fro,∃sl,h.get? p.1=some { p.2 with slots:=sl })->(∀p∈fro,B.get? p.1=none)->h.FunFrames B l
 |[],[],_,_,_=>trivial
 |[],_::_,f,_,_=>f.elim
 |_::_,[],f,_,_=>f.elim
 |e::r,p::q,⟨k,f,⟨es,ep,hd,_⟩,t⟩,a,b=>by
  obtain⟨sl,e1⟩:=a p (.head _);exact⟨k,⟨p.1,_,f,b p (.head _),e1,λvs z=>by rw[show({ p.2 with slots:=sl }:Obj).data=p.2.data from rfl,hd] at z;cases z⟩,funF t (λx hx=>a x (.tail _ hx)) λx hx=>b x (.tail _ hx)⟩
theorem ZfS{p:Addr×Obj}{l:List Env}{fro:List (Addr×Obj)}(f:FrOK l fro)(h:p∈fro):∃es ep,p.2.data=.dict es ep/\StrKeys es:=by
 induction l generalizing fro with
 |nil=>cases fro with
  |nil=>exact nomatch h
  |cons=>exact f.elim
 |cons e l ih=>cases fro with
  |nil=>exact f.elim
  |cons q fro =>
   obtain⟨j,j,d,t⟩:=f;rcases mem_cons.mp h with rfl|h
   ·exact d
   ·exact ih t h
section
variable{G:Gl}{X:Act}{n:Nat}{fz fz' mu mu' cs:Led0}{h h':Heap}{e C:Addr}
theorem Inv.leave(I:Inv G X fz mu h):Inv G (Zap X.h₀ X.fro X.fz0) fz mu h:=by
 have sub:∀a∈(Zap X.h₀ X.fro X.fz0).dyn mu,a∈X.dyn mu:=λa ha=>by
  simp only[Act.dyn,Act.fx,Zap,mem_append] at ha⊢;grind
 have sl:((Zap X.h₀ X.fro X.fz0).dyn mu).Sublist (X.dyn mu):=by
  simp only[Act.dyn,Act.fx,Zap,nil_append];exact List.Sublist.append_left (List.sublist_append_right _ _) _
 exact⟨I.st,λa ha=>I.dyn a (sub a ha),I.nd.sublist sl,I.ents,I.fzh,λp hp ha=>I.fzd p hp (sub _ ha),I.fzf,I.fz0,λa ha=>(nomatch ha),I.fro,I.tab,λp hp=>(nomatch hp)⟩
theorem Inv.thrown{B:Heap}(O:AOK G X n)(I:Inv G X fz [] h)(h1:X.h₀.StaysIn B)(h2:∀p∈fz,B.get? p.1=some p.2)(h3:∀P∈tbs,B.get? P=h.get? P)(k:B.StaysIn h')(u:h.UpToSlots h'):Inv G X fz [] h':=by
 refine⟨λb o q=>k _ _ (h1 b o q),I.dyn,I.nd,λp hp=>(nomatch hp),λp hp=>k _ _ (h2 p hp),I.fzd,I.fzf,I.fz0,λa ha=>?_,λp hp=>?_,λP hP=>?_,λp hp=>⟨(I.fxn p hp).1,u.ns (I.fxn p hp).2⟩⟩
 ·obtain⟨m,e⟩:=I.own a ha
  exact⟨m,u.ns e⟩
 ·obtain⟨sl,e⟩:=I.fro p hp
  refine hide λPP0 hPP0=>?_
  obtain⟨es,ep,hd,j⟩:=ZfS O.fro hp;obtain⟨sl',e'⟩:=u _ _ e λvs z=>by rw[show({ p.2 with slots:=sl }:Obj).data=p.2.data from rfl,hd] at z;cases z
  refine hPP0 ?_;exact⟨sl',e'⟩
 ·have t:=I.tab P hP
  obtain⟨ps,e,j⟩:=id t;exact t.mono (by rw[k _ _ ((h3 P hP).trans e),e]) λj x=>x
theorem Zbp{B:Heap}(I:Inv G X fz mu h)(h3:∀P∈tbs,B.get? P=h.get? P)(k:B.StaysIn h'):∀P∈tbs,B.get? P=h'.get? P:=λP hP=>by
 obtain⟨ps,ep,j⟩:=I.tab P hP;rw[k _ _ ((h3 P hP).trans ep),h3 P hP,ep]
theorem Fresh.ground(O:AOK G X n)(I:Inv G X fz [] h)(T:Fresh X.h₀ fz e C h):∃B oe vs a0,X.h₀.StaysIn B/\(∀p∈fz,B.get? p.1=some p.2)/\(∀P∈tbs,B.get? P=h.get? P)/\B.StaysIn h/\B.get? e=none /\
  h.FunFrames B (X.env::X.outer)/\h.get? e=some oe/\oe.cls=.ref C/\oe.data=.fields vs/\vs[1]?=some .none/\vs[0]?=some a0:=by
 refine hide λPP1 hPP1=>?_
 obtain⟨oe,vs,a0,he,hc,hd,hv1,hv0,hn,hz,ht⟩:=T;obtain⟨r,er⟩:=O.own;refine hPP1 ?_;have hkey:∀b o,h.get? b=some o->b≠e->b≠X.L->b∉keys X.fro->(hideAll h (e::X.L::keys X.fro)).get? b=some o:=λb o q a1 a2 a3=>hideAll_get _ q (by simp only[mem_cons];grind)
 have d1:∀b o,X.h₀.get? b=some o->b∉X.dyn []:=λb o q m=>by rw[I.dyn b m] at q;cases q
 have eD:X.dyn []=X.L::(r++(tbs++keys X.fro)):=by simp[Act.dyn,Act.fx,er]
 refine hide λPP2 hPP2=>?_
 obtain⟨m,oL,es,ep,eL,hdL,j⟩:=I.own X.L (er▸.head _);refine hPP2 ?_;refine⟨hideAll h (e::X.L::keys X.fro),oe,vs,a0,λb o q=>?_,λp hp=>?_,λP hP=>?_,λb o q=>of_hideAll _ q,hideAll_none _ (.head _),?_,he,hc,hd,hv1,hv0⟩
 ·have:=d1 b o q
  rw[eD] at this;refine hkey b o (I.st _ _ q) (λz=>by rw[z,hn] at q;cases q) ?_ ?_<;>simp only[mem_cons,mem_append] at this<;>grind
 ·have:=I.fzd p hp
  rw[eD] at this;refine hkey _ _ (I.fzh p hp) (λz=>hz (z▸mem_map_of_mem hp)) ?_ ?_<;>simp only[mem_cons,mem_append] at this<;>grind
 ·obtain⟨ps,ep,j⟩:=I.tab P hP
  have nd:=I.nd;rw[eD] at nd;have n3:=nodup_cons.mp nd;have n4:=nodup_append.mp n3.2;have n5:=nodup_append.mp n4.2.1;rw[ep];exact hkey _ _ ep (λz=>ht (z▸hP)) (λz=>n3.1 (z▸mem_append_right _ (mem_append_left _ hP))) λz=>n5.2.2 _ hP _ z rfl
 ·exact⟨by rw[O.hk];decide,⟨X.L,oL,O.hf,hideAll_none _ (.tail _ (.head _)),eL,λvs z=>by rw[hdL] at z;cases z⟩,
    funF O.fro I.fro λp hp=>hideAll_none _ (.tail _ (.tail _ (mem_map_of_mem hp)))⟩
theorem leaveX{M:Model}{E:Addr->Prop}{E':Value->Shared->Prop}{s:Shared}{x:Value}{Q:Unit->Shared->Prop}(O:AOK G X n)(T:Exc G X E x s)
  (k:∀e C fz s',x=.ref e->E C->Inv G (Zap X.h₀ X.fro X.fz0) fz [] s'.heap->Flies G X.h₀ X.outer fz e C s'.heap->s'.os=G.os->s'.gens=#[]->Q () s') :
  wpAny M X.A (leaving X.env x) Q E' s:=by
 obtain⟨e,C,fz,rfl,hE,I,T,o1,o2⟩:=T;rcases T with⟨B,a0,h1,h2,h3,hfl⟩|T|⟨B,a0,h1,h2,h3,hh⟩
 ·refine wpAny_leaves_onW O.hA O.hf hfl λh' f u=>?_
  exact k e C fz _ rfl hE (I.thrown O h1 h2 h3 f.1 u).leave ⟨B,a0,h1,h2,Zbp I h3 f.1,f⟩ o1 o2
 ·obtain⟨B,oe,vs,a0,h1,h2,h3,hkb,hen,ff,he,hc,hd,hv1,hv0⟩:=T.ground O I
  refine wpAny_leaving_firstW O.hA ff O.hf he hkb hen hd hv1 hv0 λh' L=>?_
  obtain⟨k1,⟨j,j,k2⟩,k3,k4⟩:=L;rw[hc] at k3;exact k e C fz _ rfl hE (I.thrown O h1 h2 h3 k1 k4).leave ⟨_,a0,h1,h2,Zbp I h3 k1,⟨k1,hen,k2,k3⟩⟩ o1 o2
 ·unfold leaving
  refine wpAny_bind (wpAny_noteFrame_againW O.hf hh.2.2.2 ?_);refine wpAny_landsW hh λh' hfl u=>?_
  obtain⟨k1,k2,⟨j,j,k3⟩,k4⟩:=hfl;exact k e C fz _ rfl hE (I.thrown O h1 h2 h3 k1 u).leave ⟨B,a0,h1,h2,Zbp I h3 k1,⟨k1,k2,k3,k4⟩⟩ o1 o2
theorem ZcM{M:Model}{A:Around}{base:Heap}{l:List Env}{cls a0:Value}{L L':Addr}{E:Value->Shared->Prop}{s:Shared}{Q:Unit->Shared->Prop}(R:Heap.HeldW base l e cls a0 L' s.heap)
  (k:∀h',Heap.HeldW base l e cls a0 L h'->s.heap.UpToSlots h'->Q () { s with heap:=h' }):wpAny M A (setFlight (.ref e) (some L)) Q E s:=by
 refine hide λPP3 hPP3=>?_
 obtain⟨hkb,hen,hl,oe,vs,T,oT,ts,he,hcls,hd,h1,hnT,hTe,hT,hdT,h3⟩:=R;refine hPP3 ?_;have hsz:3<ts.size:=(Array.getElem?_eq_some_iff.mp h3).1;have other:∀b,b≠T->(s.heap.update T (Obj.mapFields (·.setIfInBounds 3 (rawInt L)))).get? b=s.heap.get? b:=λb hb=>Heap.get?_update_other _ _ (Ne.symm hb)
 have nofields:∀b o,s.heap.get? b=some o->(∀vs,o.data≠.fields vs)->b≠T:=λb o hb hnf q=>by
  rw[q,hT] at hb;cases hb;exact hnf ts hdT
 unfold setFlight;refine wpAny_bind (wpAny_field he hd h1 ?_);rw[if_pos (show(Value.ref T != Value.none)=true from by simp)];refine wpAny_setField hT hdT hsz (k _ ⟨λb o q=>(other b λz=>by rw[z,hnT] at q;cases q).trans (hkb b o q),hen,hl.of_keeps λb o hb hnf=>⟨o,(other b (nofields b o hb hnf)).trans hb,rfl⟩,?_⟩
  λb o hb hnf=>⟨o.slots,(other b (nofields b o hb hnf)).trans hb⟩)
 exact⟨oe,vs,T,_,_,(other e (Ne.symm hTe)).trans he,hcls,hd,h1,hnT,hTe,Heap.get?_update_self _ hT (Obj.isFreed_of_fields (Obj.data_mapFields hdT _)),Obj.data_mapFields hdT _,by simp[hsz]⟩
theorem noteX{M:Model}{E:Addr->Prop}{E':Value->Shared->Prop}{s:Shared}{x:Value}{Q:Unit->Shared->Prop}{ev:Env}(hev:ev.frame=X.env.frame)(O:AOK G X n)(T:Exc G X E x s)
  (k:∀e C fz s',x=.ref e->E C->Inv G X fz [] s'.heap->HeldX X.h₀ (X.env::X.outer) X.L fz e C s'.heap->s'.os=G.os->s'.gens=#[]->Q () s') :
  wpAny M X.A (noteFrame x X.env) Q E' s:=by
 obtain⟨e,C,fz,rfl,hE,I,T,o1,o2⟩:=T;rcases T with⟨B,a0,h1,h2,h3,hfl⟩|T|⟨B,a0,h1,h2,h3,hh⟩
 ·refine wpAny_looks_onW O.hA O.hf hfl λh' f u=>?_
  exact k e C fz _ rfl hE (I.thrown O h1 h2 h3 f.1 u) ⟨B,a0,h1,h2,Zbp I h3 f.1,f⟩ o1 o2
 ·obtain⟨B,oe,vs,a0,h1,h2,h3,hkb,hen,ff,he,hc,hd,hv1,hv0⟩:=T.ground O I
  unfold noteFrame;simp only[O.hf];refine wpAny_bind (wpAny_field he hd hv1 ?_);rw[if_neg (by decide)];refine wpAny_entryW O.hA ff O.hf he hkb hen hd (Array.getElem?_eq_some_iff.mp hv1).1 hv0 λh' N=>?_
  obtain⟨k1,k2,k3,k4⟩:=N;rw[hc] at k3;exact k e C fz _ rfl hE (I.thrown O h1 h2 h3 k1 k4) ⟨B,a0,h1,h2,Zbp I h3 k1,⟨k1,hen,k2,k3⟩⟩ o1 o2
 ·exact wpAny_noteFrame_againW O.hf hh.2.2.2 (k e C fz _ rfl hE I ⟨B,a0,h1,h2,h3,hh⟩ o1 o2)
theorem ownX{M:Model}{E:Addr->Prop}{s:Shared}{x:Value}(O:AOK G X n)(T:Exc G X E x s):notedBy M X.A X.env (cameBackBy M X.A X.env (Exc G X E)) x s:=by
 unfold notedBy;refine noteX rfl O T λe C fz s' ex hE I H o1 o2=>?_
 subst ex;refine hide λPP4 hPP4=>?_
 obtain⟨B,a0,h1,h2,h3,hh⟩:=H;have hh0:=hh;obtain⟨hkb,hen,hl,oe,vs,T,oT,ts,he,hcls,hd,hv,r⟩:=hh;refine hPP4 ?_;unfold cameBackBy;refine wpAny_bind (wpAny_field he hd hv ?_);rw[if_neg (show ¬((Value.ref T==Value.none)=true) from by simp)];rw[O.hf];have key:wpAny M X.A (setFlight (.ref e) (some X.L)) (λj s''=>Exc G X E (.ref e) s'') (Exc G X E) s' :=
  ZcM hh0 λh' H' u=>⟨e,C,fz,rfl,hE,I.thrown O h1 h2 h3 H'.1 u,.inr (.inr ⟨B,a0,h1,h2,Zbp I h3 H'.1,H'⟩),o1,o2⟩
 first
  |exact key
  |exact wpAny_bind (wpAny_pure key)
theorem VRs.rev{P:Params}{fz:Led0}{a:List V}{c:List Value}(z:VRs P fz a c):VRs P fz a.reverse c.reverse:=by
 induction a generalizing c with
 |nil=>apply z.eZ;exact .nil
 |cons v a ih=>apply z.eC;intro w us p q;rw[List.reverse_cons,List.reverse_cons];exact(ih q).append (.cons p .nil)
theorem VRs.cut{P:Params}{fz:Led0}{a b:List V}{c d:List Value}(e:c.length=a.length)(z:VRs P fz (a++b) (c++d)):VRs P fz a c/\VRs P fz b d:=by
 induction a generalizing c with
 |nil=>cases c with
  |nil=>exact⟨.nil,z⟩
  |cons=>cases e
 |cons v a ih=>cases c with
  |nil=>cases e
  |cons w c=>have h:=ih (Nat.succ.inj e) z.tail;exact⟨.cons z.head h.1,h.2⟩
theorem VRs.unrev{P:Params}{fz:Led0}{a b:List V}{c d:List Value}(e:c.length=a.length)(x:VRs P fz (a.reverse++b) (c.reverse++d)):VRs P fz a c/\VRs P fz b d:=by
 obtain⟨h1,h2⟩:=VRs.cut (by simpa using e) x;have:=h1.rev;rw[List.reverse_reverse,List.reverse_reverse] at this;exact⟨this,h2⟩
theorem callM{cel:List Nat}{f:V}{vs:List V}{R:V->Led->Prop}{E:Addr->Prop}{S:Sg}{fv:Value}{us ws:List Value}{s:Shared}{r:List V}{Q:Value->Shared->Prop}
  {EE:Value->Shared->Prop} (O:AOK G X n) (CK:CallOK G n f vs S.μ R E) (hS:S.stk=vs.reverse++f::r) (hu:us=ws.reverse++fv::us') (hl:ws.length=vs.length) (M:Mod G X cel S us s)
  (k:∀v v' μ' s',R v' μ'->Mod G X cel { S with stk:=v'::r,μ:=μ' } (v::us') s'->Q v s') (kE:∀x s',Exc G X E x s'->EE x s') :
  wpAny (model P0 G.w) X.A (call fv ws) Q EE s:=by
 refine hide λPP5 hPP5=>?_
 obtain⟨fz,mu,cs,I,RL,Z,SL,o1,o2⟩:=M;obtain⟨rr,er⟩:=O.own;obtain⟨m,oL,es,ep,eL,hdL,hkL,hm⟩:=I.own X.L (er▸.head _);refine hPP5 ?_;subst hu;rw[hS] at Z;have Zs:VRs G.w.params fz vs.reverse ws.reverse/\VRs G.w.params fz (f::r) (fv::us'):=by
  have:∀{a b:List V}{c d:List Value},c.length=a.length->VRs G.w.params fz (a++b) (c++d)->VRs G.w.params fz a c/\VRs G.w.params fz b d:=by
   intro a;induction a with
   |nil=>intro b c d e x;cases c with|nil=>exact⟨.nil,x⟩|cons=>cases e
   |cons y a ih =>
    intro b c d e x;cases c with
    |nil=>cases e
    |cons z c =>
     cases x with|cons p q =>
     obtain⟨h1,h2⟩:=ih (by simpa using e) q;exact⟨.cons p h1,h2⟩
  exact this (by simp[hl]) Z
 have Zw:VRs G.w.params fz vs ws:=by
  have:∀{a:List V}{c:List Value},VRs G.w.params fz a c->VRs G.w.params fz a.reverse c.reverse:=by
   intro a c x;induction a generalizing c with
   |nil=>cases x;exact .nil
   |cons y a ih =>
    cases x with|cons p q =>
    rw[List.reverse_cons,List.reverse_cons];exact(ih q).append (.cons p .nil)
  have:=this Zs.1;rwa [List.reverse_reverse,List.reverse_reverse] at this
 obtain⟨j,Zf⟩:=Zs;cases Zf with|cons Zf Zr =>
 have hst:G.hb.StaysIn (X.base mu s.heap):=λb o q=>Zd3 O I _ _ (O.st _ _ q)
 refine wpAny_mono (CK X.A (X.env::X.outer) ((X.L,oL)::X.fro) (X.base mu s.heap) fz mu fv ws s O.hA O.hh O.dep O.un O.nb ⟨by rw[O.hk];decide,O.hf,⟨es,ep,hdL,hkL⟩,O.fro⟩ hst ?_ (by simp) (I.callIn O eL) RL Zf Zw o1 o2) ?_ ?_
 ·intro a ha hb
  refine O.abv a ?_ hb;rcases mem_cons.mp ha with rfl|ha
  ·simp[Act.fx,er]
  ·exact mem_append_right _ (mem_append_right _ ha)
 ·rintro v s' ⟨v',μ',fz',mu',hR,I',RL',Zv,q1,q2⟩
  obtain⟨J,SL'⟩:=I.callOut O eL SL I';exact k v v' μ' s' hR ⟨fz',mu',cs,J,RL',.cons Zv (Zr.mono λp hp=>I'.fz0 p hp),SL',q1,q2⟩
 ·rintro x s' ⟨e,C,fz',rfl,hE,I',⟨B,a0,b1,b2,b3,b4⟩,q1,q2⟩
  obtain⟨J,SL'⟩:=I.callOut O eL SL I';exact kE _ s' ⟨e,C,fz',rfl,hE,J.sub (List.nil_sublist _) (λp hp=>nomatch hp),.inl ⟨B,a0,λb o q=>b1 _ _ (Zd3 O I _ _ q),b2,b3,b4⟩,q1,q2⟩
end
end
section
section
variable{G:Gl}{X:Act}{n:Nat}{fz fz' mu mu' cs:Led0}{h h':Heap}
def Ext1(L:Addr)(h h':Heap):Prop:=(∀b o,b≠L->h.get? b=some o->h'.get? b=some o)/\∀m,h.Ns L m->h'.Ns L m
theorem Ext1.of{L:Addr}(k:∀b o,h.get? b=some o->h'.get? b=some o):Ext1 L h h':=⟨λb o j e=>k b o e,λm x=>x.keeps k⟩
theorem Ext1.ns{L a:Addr}{m:Str->Option Value}(x:Ext1 L h h')(e:h.Ns a m):h'.Ns a m:=by
 by_cases q:a=L
 ·subst q;exact x.2 m e
 ·exact e.extBut (λb o n e=>x.1 b o n e) q
theorem Inv.ext1(O:AOK G X n)(I:Inv G X fz mu h)(k:Ext1 X.L h h'):Inv G X fz mu h':=by
 obtain⟨r,er⟩:=O.own;obtain⟨m,e⟩:=I.own X.L (er▸.head _);exact I.setOwn (er▸.head _) k.1 (k.2 m e) λp hp q=>k.2 _ (q▸(I.fxn p hp).2)
theorem Inv.fr(O:AOK G X n)(I:Inv G X fz mu h):∃m,Fr G.hb X.L h m:=by
 obtain⟨r,er⟩:=O.own;obtain⟨m,e⟩:=I.own X.L (er▸.head _);refine⟨m,e,λb o q=>I.st _ _ (O.st _ _ q),O.abv _ (by simp[Act.fx,er]) λq=>?_⟩;have nd:=I.nd;have eD:X.dyn mu=keys mu++(X.L::(r++(tbs++keys X.fro))):=by simp[Act.dyn,Act.fx,er]
 rw[eD] at nd;exact(nodup_cons.mp (nodup_append.mp nd).2.1).1 (mem_append_right _ (mem_append_left _ q))
theorem Inv.LnotM(O:AOK G X n)(I:Inv G X fz mu h):X.L∉keys mu/\X.L∉keys fz:=by
 obtain⟨r,er⟩:=O.own;have nd:=I.nd;have eD:X.dyn mu=keys mu++(X.L::(r++(tbs++keys X.fro))):=by simp[Act.dyn,Act.fx,er]
 refine⟨λq=>?_,λq=>?_⟩
 ·rw[eD] at nd
  exact(nodup_append.mp nd).2.2 _ q _ (.head _) rfl
 ·obtain⟨p,hp,e⟩:=mem_map.mp q
  exact I.fzd p hp (by rw[eD,e];simp)
theorem SR.ext1{cel:List Nat}{l:List (Option V)}{cz:Bool}(R:SR G X cel fz cs h l cz)(k:Ext1 X.L h h')(s:∀p∈fz,p∈fz'):SR G X cel fz' cs h' l cz where
 sl:=λi v e=>by
  obtain⟨st,w,h1,h2,h3⟩:=R.sl i v e;refine⟨st,w,h1,?_,h3.mono s⟩;cases st with
  |ns a x=>obtain⟨m,q1,q2⟩:=h2;exact⟨m,k.ns q1,q2⟩
  |cell c=>obtain⟨o,q1,q2⟩:=h2;exact⟨o,(mem_append.mp q1).elim (mem_append_left _) (λq=>mem_append_right _ (s _ q)),q2⟩
 cl:=R.cl
 cf:=λi c e q=>let ⟨o,v0,a,b⟩:=R.cf i c e q;⟨o,v0,s _ a,b⟩
 ow:=R.ow
 nd:=R.nd
 fc:=R.fc
noncomputable def allN(hb h:Heap)(L:Addr):Led0:=(List.range h.objs.size).filterMap λb=>if b=L\/(hb.get? b).isSome then none else(h.get? b).map λo=>(b,o)
theorem Zb1{hb:Heap}{L b:Addr}{o:Obj}(e:h.get? b=some o)(hL:b≠L)(h0:hb.get? b=none):(b,o)∈allN hb h L:=by
 refine List.mem_filterMap.mpr ⟨b,List.mem_range.mpr (Heap.lt_size e),?_⟩;rw[if_neg (by simp[hL,h0]),e];rfl
set_option tactic.hygienic true in
theorem allN_of{hb:Heap}{L:Addr}{p:Addr×Obj}(e:p∈allN hb h L):h.get? p.1=some p.2/\p.1≠L/\hb.get? p.1=none:=by
 obtain⟨b,j,q⟩:=List.mem_filterMap.mp e;split at q
 ·cases q
 ·rename_i c
  obtain⟨o,h1,rfl⟩:=Option.map_eq_some_iff.mp q;simp only[not_or,Option.not_isSome_iff_eq_none] at c;exact⟨h1,c.1,c.2⟩
theorem Zbz{hb:Heap}{L:Addr}:News hb L h (allN hb h L):=λj hp=>allN_of hp
set_option tactic.hygienic true in
theorem allN_nd{hb:Heap}{L:Addr}:((allN hb h L).map (·.1)).Nodup:=by
 have:∀l:List Nat,l.Nodup->((l.filterMap λb=>if b=L\/(hb.get? b).isSome then none else(h.get? b).map λo=>(b,o)).map (·.1)).Nodup:=by
  intro l;induction l with
  |nil=>intro j;exact List.nodup_nil
  |cons a l ih =>
   intro n;obtain⟨n1,n2⟩:=nodup_cons.mp n;rw[List.filterMap_cons];split
   ·exact ih n2
   ·rename_i p q
    rw[map_cons];refine nodup_cons.mpr ⟨λm=>?_,ih n2⟩;have key:∀x p',(if x=L\/(hb.get? x).isSome then none else(h.get? x).map λo=>(x,o))=some p'->p'.1=x:=by
     intro x p' e;split at e
     ·cases e
     ·obtain⟨o,j,rfl⟩:=Option.map_eq_some_iff.mp e;rfl
    obtain⟨p',hp',e⟩:=mem_map.mp m;obtain⟨y,hy,ey⟩:=List.mem_filterMap.mp hp';have e1:=key _ _ q;have e2:=key _ _ ey;exact n1 (by rw[<- e1,<- e,e2];exact hy)
 exact this _ List.nodup_range
theorem Ze6{d:Addr}{o o':Obj}:∀{l:Led0},(l.map (·.1)).Nodup->(d,o)∈l->Upd d o o' l (l.map λp=>if p.1=d then(d,o') else p)
 |(b,x)::r,n,m=>by
  obtain⟨n1,n2⟩:=nodup_cons.mp n;refine mC m (λe=>?_) λm=>?_
  ·cases e
   have hr:∀p∈r,p.1≠d:=λp hp q=>n1 (mem_map.mpr ⟨p,hp,q⟩)
   have:r.map (λp=>if p.1=d then(d,o') else p)=r:=by
    rw[map_congr_left (g:=id) λp hp=>by rw[if_neg (hr p hp)];rfl];exact List.map_id r
   rw[map_cons,if_pos rfl,this];exact .head hr
  ·have hb:b≠d:=λq=>n1 (q▸mem_map.mpr ⟨(d,o),m,rfl⟩)
   rw[map_cons,if_neg hb];exact .tail hb (Ze6 n2 m)
theorem Zdc{hb:Heap}{L:Addr}{m:Str->Option Value}{pre:Led0}(F0:Fr hb L h m)(F:Fr hb L h' m)(N:News hb L h' (pre++allN hb h L)):Ext1 L h h':=by
 refine⟨λb o n e=>?_,λm' x=>?_⟩
 ·cases q:hb.get? b with
  |some o'=>have:=F0.keep _ _ q;rw[e] at this;cases this;exact F.keep _ _ q
  |none=>exact(N _ (mem_append_right _ (Zb1 e n q))).1
 ·obtain rfl:m=m':=funext λy=>F0.ns.agree x y
  exact F.ns
theorem fresh_of{hb:Heap}{L D:Addr}{o:Obj}{r:Led0}(N:News hb L h' ((D,o)::r))(l:∀p∈allN hb h L,p.1<D):h.get? D=none:=by
 cases q:h.get? D with
 |none=>rfl
 |some o'=>exact absurd (l (D,o') (Zb1 q (N _ (.head _)).2.1 (N _ (.head _)).2.2)) (Nat.lt_irrefl _)
theorem ext1_upd{hb:Heap}{L d:Addr}{m:Str->Option Value}{pre:Led0}{o':Obj}(F0:Fr hb L h m)(F:Fr hb L h' m)(N:News hb L h' (pre++(allN hb h L).map λp=>if p.1=d then(d,o') else p)) :
  (∀b o,b≠L->b≠d->h.get? b=some o->h'.get? b=some o)/\∀m',h.Ns L m'->h'.Ns L m':=by
 refine⟨λb o n nd e=>?_,λm' x=>?_⟩
 ·cases q:hb.get? b with
  |some o'=>have:=F0.keep _ _ q;rw[e] at this;cases this;exact F.keep _ _ q
  |none=>exact(N (b,o) (mem_append_right _ (mem_map.mpr ⟨(b,o),Zb1 e n q,if_neg nd⟩))).1
 ·obtain rfl:m=m':=funext λy=>F0.ns.agree x y
  exact F.ns
theorem Mod.next{cel:List Nat}{S:Sg}{ws ws':List Value}{s s':Shared}{stk':List V}(O:AOK G X n)(M:Mod G X cel S ws s)(k:Ext1 X.L s.heap s'.heap)(eo:s'.os=s.os)(eg:s'.gens=s.gens)
  (z:∀fz,VRs G.w.params fz S.stk ws->VRs G.w.params fz stk' ws'):Mod G X cel { S with stk:=stk' } ws' s':=by
 obtain⟨fz,mu,cs,I,RL,Z,SL,o1,o2⟩:=M;exact⟨fz,mu,cs,I.ext1 O k,RL,z fz Z,SL.ext1 k λj x=>x,eo.trans o1,eg.trans o2⟩
theorem mk0{cel:List Nat}{ws':List Value}{s s':Shared}{stk':List V}{l:List (Option V)}{μ:Led}{cz:Bool}(O:AOK G X n)(I:Inv G X fz (mu++cs) s.heap)(RL:LR G.w.params fz μ mu)(SL:SR G X cel fz cs s.heap l cz)
  (o1:s.os=G.os) (o2:s.gens=#[]) (k:Ext1 X.L s.heap s'.heap) (eo:s'.os=s.os) (eg:s'.gens=s.gens) (z:VRs G.w.params fz stk' ws'):Mod G X cel ⟨stk',l,μ,cz⟩ ws' s' :=
 ⟨fz,mu,cs,I.ext1 O k,RL,z,SL.ext1 k λj x=>x,eo.trans o1,eg.trans o2⟩
theorem mkF{cel:List Nat}{ws':List Value}{s s':Shared}{stk':List V}{l:List (Option V)}{μ:Led}{cz:Bool}{a:Addr}{o:Obj}(O:AOK G X n)(I:Inv G X fz (mu++cs) s.heap)(RL:LR G.w.params fz μ mu)(SL:SR G X cel fz cs s.heap l cz)
  (o1:s.os=G.os) (o2:s.gens=#[]) (k:Ext1 X.L s.heap s'.heap) (hn:s.heap.get? a=none) (ha:s'.heap.get? a=some o) (eo:s'.os=s.os) (eg:s'.gens=s.gens) (z:VRs G.w.params ((a,o)::fz) stk' ws'):Mod G X cel ⟨stk',l,μ,cz⟩ ws' s' :=
 ⟨(a,o)::fz,mu,cs,(I.ext1 O k).addF ha (I.out hn) (I.none0 hn),RL.mono λj q=>.tail _ q,z,SL.ext1 k λj q=>.tail _ q,eo.trans o1,eg.trans o2⟩
theorem mkM{cel:List Nat}{ws':List Value}{s s':Shared}{stk' vs:List V}{us:List Value}{c:Nat}{l:List (Option V)}{μ:Led}{cz:Bool}{a:Addr}{o:Obj}(O:AOK G X n)(I:Inv G X fz (mu++cs) s.heap)(RL:LR G.w.params fz μ mu)(SL:SR G X cel fz cs s.heap l cz)
  (o1:s.os=G.os) (o2:s.gens=#[]) (k:Ext1 X.L s.heap s'.heap) (hn:s.heap.get? a=none) (ha:s'.heap.get? a=some o) (ho:o=listOf us.toArray c) (eo:s'.os=s.os) (eg:s'.gens=s.gens)
  (z:VRs G.w.params fz stk' ws') (z':VRs G.w.params fz vs us):Mod G X cel ⟨stk',l,(a,.list vs)::μ,cz⟩ ws' s':=by
 refine⟨fz,(a,o)::mu,cs,(I.ext1 O k).addM ha (I.out hn) (I.none0 hn) (λq hq e=>?_),.list ho z' RL,z,SL.ext1 k λj q=>q,eo.trans o1,eg.trans o2⟩;have:=I.fzh q hq;rw[e,hn] at this;cases this
end
end
section
section
variable{G:Gl}{X:Act}{n:Nat}{cel:List Nat}{S:Sg}{ws us:List Value}{s:Shared}{r:List V}{E:Value->Shared->Prop}{Q:Value->Shared->Prop}{l:List (Option V)}{μ:Led}{cz:Bool}
theorem Mod.intTop{i:Int}{w:Value}(M:Mod G X cel ⟨.int i::r,l,μ,cz⟩ (w::us) s):∃t,w=.int i t:=by
 obtain⟨fz,mu,cs,I,RL,Z,SL,o1,o2⟩:=M;exact Z.head.inv
theorem Mod.int2{i:Int}{w w':Value}{v:V}(M:Mod G X cel ⟨v::.int i::r,l,μ,cz⟩ (w'::w::us) s):∃t,w=.int i t:=by
 obtain⟨fz,mu,cs,I,RL,Z,SL,o1,o2⟩:=M;exact Z.tail.head.inv
theorem ints2{O:AOK G X n}{a b i:Int}{wa wb:Value}{t:Tok}{s':Shared}(M:Mod G X cel ⟨.int b::.int a::r,l,μ,cz⟩ (wb::wa::us) s)(k:s'.heap=s.heap)(eo:s'.os=s.os)(eg:s'.gens=s.gens) :
  Mod G X cel ⟨.int i::r,l,μ,cz⟩ (.int i t::us) s' :=
 M.next O (.of λy y e=>by rw[k];exact e) eo eg λfz z=>VRs.cons .int z.tail.tail
theorem Zam{h:Heap}{o:Obj}:∀b o',h.get? b=some o'->(h.push o).get? b=some o':=λb o' e=>Heap.get?_push_of_some _ e
theorem ZaM(h:Heap):h.get? h.objs.size=none:=Heap.get?_none_of_le (Nat.le_refl _)
theorem Zaz{o:Obj}{a:Addr}{h:Heap}{ws:List Value}{c:Nat}(e:h.get? a=some o)(p:o.cls=.type "list"/\o.data=.seq ws.toArray c):h.IsList a ws.toArray:=⟨o,e,p.1,c,p.2⟩
theorem ZbT{o:Obj}{a:Addr}{h:Heap}{ws:List Value}{c:Nat}(e:h.get? a=some o)(p:o.cls=.type "tuple"/\o.data=.seq ws.toArray c):IsTup h a ws.toArray:=⟨o,e,p.1,c,p.2⟩
theorem ZcU{n:Nat}(h:n<2^20):n<=sizeLine:=by rw[sizeLine_eq];lia
theorem reps{P:Params}{fz:Led0}{a:V}{w:Value}(q:VR P fz a w):∀m,VRs P fz (List.replicate m a) (List.replicate m [w]).flatten
 |0=>.nil
 |m+1=>.cons q (reps q m)
def BinX(G:Gl)(n:Nat)(op:Operator)(a b v:V):Prop:=∀{X:Act}{cel:List Nat}{r:List V}{l:List (Option V)}{μ:Led}{cz:Bool}{us:List Value}{wa wb:Value}{s:Shared}{Q E:Value->Shared->Prop},AOK G X n->Mod G X cel ⟨b::a::r,l,μ,cz⟩ (wb::wa::us) s ->
  (∀w s',Mod G X cel ⟨v::r,l,μ,cz⟩ (w::us) s'->Q w s')->wpAny (model P0 G.w) X.A (binaryOp op wa wb) Q E s
theorem binI{op:Operator}{a b c:Int}(H:∀{t u:Tok}{A:Around}{s:Shared}{Q E:Value->Shared->Prop},(∀u tk,Q (.int c u) { s with toks:=tk })->wpAny (model P0 G.w) A (binaryOp op (.int a t) (.int b u)) Q E s):BinX G n op (.int a) (.int b) (.int c):=λO M k=>by
 obtain⟨t,rfl⟩:=M.intTop;obtain⟨u,rfl⟩:=M.int2;exact H λu tk=>k _ _ (ints2 (O:=O) M rfl rfl rfl)
theorem binW{op:Operator}{a b v:V}(H:∀{X:Act}{cel:List Nat}{r:List V}{l:List (Option V)}{μ:Led}{cz:Bool}{us:List Value}{wa wb:Value}{s:Shared}{Q E:Value->Shared->Prop}{fz mu cs:Led0},AOK G X n->Inv G X fz (mu++cs) s.heap->LR G.w.params fz μ mu->SR G X cel fz cs s.heap l cz ->
  s.os=G.os->s.gens=#[]->VR G.w.params fz a wa->VR G.w.params fz b wb->VRs G.w.params fz r us->(∀{w s'},Mod G X cel ⟨v::r,l,μ,cz⟩ (w::us) s'->Q w s')->wpAny (model P0 G.w) X.A (binaryOp op wa wb) Q E s):BinX G n op a b v:=λO M k=>by
 obtain⟨fz,mu,cs,I,RL,Z,SL,o1,o2⟩:=M;exact H O I RL SL o1 o2 Z.tail.head Z.head Z.tail.tail (k _ _)
theorem lobj{o:Obj}{x:Value}{d:Data}(p:o.cls=x/\o.data=d):o=⟨x,o.dict,d,o.slots⟩:=by obtain⟨rfl,rfl⟩:=p;rfl
theorem binX{op:Operator}{a b v:V}(h:BV op a b v):BinX G n op a b v:=by
 cases h with
 |add=>exact binI λK=>PySem.P.add_int (K _ _)
 |sub=>exact binI λK=>PySem.P.sub_int (K _ _)
 |mul hb=>exact binI λK=>PySem.P.mul_int (K _ _) (hb.elim (λh=>.of_left (PyProof.Rows.intBits_le h)) λh=>.of_right (PyProof.Rows.intBits_le h))
 |@div a b h0 hb =>
  refine binI λK=>PyProof.Rows.floordiv_int h0 (K _ _) (.inl (PyProof.noPylong_of_log2 ?_))
  by_cases q:b.natAbs=0
  ·rw[q];decide +kernel
  ·exact Nat.lt_trans ((Nat.log2_lt q).mpr hb) (by decide)
 |mod h0=>exact binI λK=>PyProof.Rows.mod_int h0 (K _ _)
 |pow hn ha=>exact binI λK=>PyProof.Rows.pow_int_small (by lia) (by lia) ha (K _ _)
 |addL hz =>
  refine binW λO I RL SL o1 o2 za zb Z K=>?_
  apply za.eL;intro x1 oa n1 w1 m1 p1 q1;apply zb.eL;intro x2 ob n2 w2 m2 p2 q2;have e1:=I.fzh _ m1;have e2:=I.fzh _ m2;have hl1:=q1.length;have hl2:=q2.length;rw[lobj p1] at e1;rw[lobj p2] at e2;refine concat_meets ⟨_,e1,rfl⟩ ⟨_,e2,rfl⟩ noFill_list_add seq_list_add PySem.F.slot_list_add PySem.F.entry_list_add (PySem.F.args_list_add_2 _ _)
   (list_addW _ _ _ _ _ _ _ _ _ _ (by simp only[size_toArray,hl1,hl2];exact ZcU hz)) ⟨e1,e2,K ?_⟩
  exact mkF O I RL SL o1 o2 (.of Zam) (ZaM _) (Heap.get?_push_size _ rfl) rfl rfl
   (.cons (.lst (ws:=w1++w2) (.head _) ⟨rfl,by simp;rfl⟩ ((q1.append q2).mono λy q=>.tail _ q)) (Z.mono λy q=>.tail _ q))
 |addT hz =>
  refine binW λO I RL SL o1 o2 za zb Z K=>?_
  apply za.eT;intro x1 oa n1 w1 m1 p1 q1;apply zb.eT;intro x2 ob n2 w2 m2 p2 q2;have e1:=I.fzh _ m1;have e2:=I.fzh _ m2;have hl1:=q1.length;have hl2:=q2.length;rw[lobj p1] at e1;rw[lobj p2] at e2;by_cases hv:w1=[]
  ·refine concat_meets ⟨_,e1,rfl⟩ ⟨_,e2,rfl⟩ noFill_tuple_add seq_tuple_add PySem.F.slot_tuple_add PySem.F.entry_tuple_add (PySem.F.args_tuple_add_2 _ _)
    (tuple_addW0 _ _ _ _ _ _ _ _ _ _ (by simp[hv])) ⟨e1,e2,K ?_⟩
   rw[List.eq_nil_of_length_eq_zero (hl1.symm.trans (congrArg List.length hv))];exact mk0 O I RL SL o1 o2 (.of λy y e=>e) rfl rfl (.cons (.tup m2 p2 q2) Z)
  ·by_cases hw:w2=[]
   ·refine concat_meets ⟨_,e1,rfl⟩ ⟨_,e2,rfl⟩ noFill_tuple_add seq_tuple_add PySem.F.slot_tuple_add PySem.F.entry_tuple_add (PySem.F.args_tuple_add_2 _ _)
     (tuple_addW1 _ _ _ _ _ _ _ _ _ _ (by simpa using hv) (by simp[hw])) ⟨e1,e2,K ?_⟩
    rw[List.eq_nil_of_length_eq_zero (hl2.symm.trans (congrArg List.length hw)),append_nil];exact mk0 O I RL SL o1 o2 (.of λy y e=>e) rfl rfl (.cons (.tup m1 p1 q1) Z)
   ·refine concat_meets ⟨_,e1,rfl⟩ ⟨_,e2,rfl⟩ noFill_tuple_add seq_tuple_add PySem.F.slot_tuple_add PySem.F.entry_tuple_add (PySem.F.args_tuple_add_2 _ _)
     (tuple_addW2 _ _ _ _ _ _ _ _ _ _ (by simpa using hv) (by simpa using hw) (by simp only[size_toArray,hl1,hl2];exact ZcU hz)) ⟨e1,e2,K ?_⟩
    exact mkF O I RL SL o1 o2 (.of Zam) (ZaM _) (Heap.get?_push_size _ rfl) rfl rfl
     (.cons (.tup (ws:=w1++w2) (.head _) ⟨rfl,by simp;rfl⟩ ((q1.append q2).mono λy q=>.tail _ q)) (Z.mono λy q=>.tail _ q))
 |@repL a0 m hn =>
  refine binW λO I RL SL o1 o2 za zb Z K=>?_
  apply za.eL;intro x1 oa n1 w1 m1 p1 q1;apply zb.eI;intro t;obtain⟨w,rfl,q⟩:=q1.one;obtain⟨m0,F⟩:=I.fr O;refine KMa.mul (x:=(m:Int)) F Zbz (Zaz (I.fzh _ m1) p1) (by lia) (by lia) (by rw[Int.toNat_natCast];simpa using hn) rfl λD h' F' N' l=>K ?_
  refine mkF O I RL SL o1 o2 (Zdc (pre:=[_]) F F' N') (fresh_of N' l) (N' _ (.head _)).1 rfl rfl
   (.cons (.lst (ws:=(List.replicate ((m:Nat):Int).toNat [w]).flatten) (.head _) ⟨rfl,rfl⟩ ?_) (Z.mono λy q=>.tail _ q))
  rw[Int.toNat_natCast];exact reps (q.mono λy q=>.tail _ q) m
theorem binM{op:Operator}{a b v:V}{wa wb:Value}(O:AOK G X n)(M:Mod G X cel ⟨b::a::r,l,μ,cz⟩ (wb::wa::us) s)(h:BV op a b v)
  (k:∀w s',Mod G X cel ⟨v::r,l,μ,cz⟩ (w::us) s'->Q w s'):wpAny (model P0 G.w) X.A (binaryOp op wa wb) Q E s:=binX h O M k
end
end
section
section
variable{G:Gl}{X:Act}{n:Nat}{cel:List Nat}{S:Sg}{ws us:List Value}{s:Shared}{r:List V}{E:Value->Shared->Prop}{Q:Value->Shared->Prop}{l:List (Option V)}{μ:Led}{cz:Bool}
theorem Mod.boolTop{i:Bool}{w:Value}(M:Mod G X cel ⟨.bool i::r,l,μ,cz⟩ (w::us) s):w=.bool i:=by
 obtain⟨fz,mu,cs,I,RL,Z,SL,o1,o2⟩:=M;exact Z.head.inv
theorem Mod.atom{v:V}{w:Value}{s':Shared}{stk':List V}{ws':List Value}(O:AOK G X n)(M:Mod G X cel S ws s)(k:s'.heap=s.heap)(eo:s'.os=s.os)(eg:s'.gens=s.gens)
  (z:∀fz,VRs G.w.params fz S.stk ws->VRs G.w.params fz stk' ws') (hv:∀fz,VR G.w.params fz v w):Mod G X cel { S with stk:=v::stk' } (w::ws') s' :=
 M.next O (.of λJ J e=>by rw[k];exact e) eo eg λfz x=>.cons (hv fz) (z fz x)
theorem constM{c:Const}{v:V}{env:Env}{kk:Nat}{pos:Pos}(O:AOK G X n)(M:Mod G X cel S ws s)
  (hc:(match c with|.none=>some V.none|.bool b=>some (.bool b)|.int i=>some (.int i)|.str x=>some (.str x)|_=>none)=some v)
  (k:∀w s',Mod G X cel { S with stk:=v::S.stk } (w::ws) s'->Q w s'):wpAny (model P0 G.w) X.A (eval (.Constant c kk pos) env) Q E s:=by
 cases c<;>cases hc
 ·exact Constant_none (k _ _ (M.atom O rfl rfl rfl (λJ z=>z) λJ=>.none))
 ·exact Constant_bool (k _ _ (M.atom O rfl rfl rfl (λJ z=>z) λJ=>.bool))
 ·exact wpAny_Constant_int (k _ _ (M.atom O rfl rfl rfl (λJ z=>z) λJ=>.int))
 ·exact wpAny_Constant_str (k _ _ (M.atom O rfl rfl rfl (λJ z=>z) λJ=>.str))
theorem negM{a:Int}{w:Value}(O:AOK G X n)(M:Mod G X cel ⟨.int a::r,l,μ,cz⟩ (w::us) s)(k:∀w s',Mod G X cel ⟨.int (-a)::r,l,μ,cz⟩ (w::us) s'->Q w s') :
  wpAny (model P0 G.w) X.A (unaryOp .USub w) Q E s:=by
 obtain⟨t,rfl⟩:=M.intTop;exact PySem.P.neg_int (k _ _ (M.atom O rfl rfl rfl (λJ z=>z.tail) λJ=>.int))
theorem notM{a:Bool}{w:Value}(O:AOK G X n)(M:Mod G X cel ⟨.bool a::r,l,μ,cz⟩ (w::us) s)(k:∀w s',Mod G X cel ⟨.bool (!a)::r,l,μ,cz⟩ (w::us) s'->Q w s') :
  wpAny (model P0 G.w) X.A (unaryOp .Not w) Q E s:=by
 rw[M.boolTop];exact not_of (wpAny_truthy_bool (k _ _ (M.atom O rfl rfl rfl (λJ z=>z.tail) λJ=>.bool)))
theorem iaddM{a b:Int}{wa wb:Value}(O:AOK G X n)(M:Mod G X cel ⟨.int b::.int a::r,l,μ,cz⟩ (wb::wa::us) s)(k:∀w s',Mod G X cel ⟨.int (a+b)::r,l,μ,cz⟩ (w::us) s'->Q w s') :
  wpAny (model P0 G.w) X.A (inplaceOp .Add wa wb) Q E s:=by
 obtain⟨t,rfl⟩:=M.intTop;obtain⟨u,rfl⟩:=M.int2;exact PySem.P.iadd_int (k _ _ (ints2 (O:=O) M rfl rfl rfl))
mutual
noncomputable def V.toD:V->PyData
 |.int i=>.int i
 |.tup a=>.tuple (V.toDs a)
 |.lst a=>.list (V.toDs a)
 |.none=>.none
 |.bool _=>.none
 |.str _=>.none
 |.typ _=>.none
 |.bi _=>.none
 |.ref _=>.none
 |.rng _ _=>.none
 |.ins _ _=>.none
 |.lam _ _=>.none
noncomputable def V.toDs:List V->List PyData
 |[]=>[]
 |a::r=>V.toD a::V.toDs r
end
theorem Zdg{p:V->Prop}{q:List V->Prop}{n:Nat}(h:∀v,V.dat n v=true->p v)(h0:q [])(h1:∀v r,p v->q r->q (v::r)):∀vs,V.dats n vs=true->q vs
 |[],_=>h0
 |v::r,e=>by
  have e:=Bool.and_eq_true_iff.mp (show(V.dat n v&&V.dats n r)=true from e);exact h1 v r (h v e.1) (Zdg h h0 h1 r e.2)
theorem Zf2{p:V->Prop}(q:List V->Prop)(hn:p .none)(hi:∀i,p (.int i))(h0:q [])(h1:∀v r,p v->q r->q (v::r))(ht:∀vs,q vs->p (.tup vs))(hl:∀vs,q vs->p (.lst vs)):∀n v,V.dat n v=true->p v:=by
 intro n;induction n with
 |zero=>intro v e;cases v with
  |none=>exact hn
  |int i=>exact hi i
  |_=>exact nomatch e
 |succ n ih=>intro v e;cases v with
  |none=>exact hn
  |int i=>exact hi i
  |tup vs=>exact ht vs (Zdg ih h0 h1 vs e)
  |lst vs=>exact hl vs (Zdg ih h0 h1 vs e)
  |_=>exact nomatch e
theorem ZdD{P:Params}{fz:Led0}{h:Heap}(hf:∀p∈fz,h.get? p.1=some p.2){v:V}{w:Value}{n:Nat}(z:VR P fz v w)(e:V.dat n v=true):∃as,Reads h w v.toD as :=
 Zf2 (p:=λv=>∀w,VR P fz v w->∃as,Reads h w v.toD as) (λvs=>∀ws,VRs P fz vs ws->∃as,ReadsAll h ws (V.toDs vs) as)
  (λw z=>by cases z.inv;exact⟨_,.none⟩) (λi w z=>by obtain⟨J,rfl⟩:=z.inv;exact⟨_,.int _ _⟩) (λw z=>by cases z.inv;exact⟨_,.nil⟩)
  (λv r h1 h2 ws z=>by obtain⟨J,J,rfl,a,b⟩:=z.inv;obtain⟨as,x⟩:=h1 _ a;obtain⟨bs,y⟩:=h2 _ b;exact⟨_,.cons x y⟩)
  (λvs hq w z=>by obtain⟨J,J,J,J,rfl,m,p,q⟩:=z.inv;obtain⟨as,x⟩:=hq _ q;exact⟨_,reads_tuple_at (hf _ m) p.1 p.2 x⟩)
  (λvs hq w z=>by obtain⟨J,J,J,J,rfl,m,p,q⟩:=z.inv;obtain⟨as,x⟩:=hq _ q;exact⟨_,reads_list_at (hf _ m) p.1 p.2 x⟩) n v e w z
theorem dat_can{v:V}{n:Nat}(e:V.dat n v=true):v.toD.canLay0=true :=
 Zf2 (p:=λv=>v.toD.canLay0=true) (λvs=>PyData.canLayAll0 (V.toDs vs)=true) rfl (λJ=>rfl) rfl
  (λv r h1 h2=>by show(_&&_)=true;rw[h1,h2];rfl) (λJ h=>h) (λJ h=>h) n v e
theorem dat_dep:∀{n:Nat}{v:V},V.dat n v=true->v.toD.depth<=n:=by
 have one:∀{n},(∀v,V.dat n v=true->v.toD.depth<=n)->∀vs,V.dats n vs=true->PyData.depthAll (V.toDs vs)<=n:=λh vs e=>Zdg (q:=λvs=>PyData.depthAll (V.toDs vs)<=_) h (Nat.zero_le _) (λv r a b=>Nat.max_le.mpr ⟨a,b⟩) vs e
 intro n;induction n with
 |zero=>intro v e;cases v<;>first|exact Nat.zero_le _|exact nomatch e
 |succ n ih=>intro v e;cases v<;>first|exact Nat.zero_le _|exact Nat.succ_le_succ (one (λJ=>ih) _ e)|exact nomatch e
theorem dat_lay{v:V}{n:Nat}(e:V.dat n v=true):v.toD.canLay0=true/\v.toD.depth<=n:=⟨dat_can e,dat_dep e⟩
theorem eqOf{P:Params}{fz:Led0}{v:V}{wa wb:Value}{A:Around}(hf:∀p∈fz,s.heap.get? p.1=some p.2)(hu:A.units+64<cLine)(d:V.dat 41 v=true)(za:VR P fz v wa)(zb:VR P fz v wb)(h:Q (.bool true) s) :
  wpAny (model P0 G.w) A (compareOp .Eq wa wb) Q E s:=by
 obtain⟨as,ra⟩:=ZdD hf za d;obtain⟨bs,rb⟩:=ZdD hf zb d;have L:=dat_lay d;have sh:SeqAt.shaped v.toD=true:=by unfold SeqAt.shaped;rw[L.1,Bool.true_and];exact decide_eq_true (Nat.le_trans L.2 (by decide))
 refine eq_dataH ra rb sh sh hu ?_;rw[SeqAt.eqv_refl _ L.1];exact h
theorem eqNil{A:Around}{a b:Addr}{items:Array Value}{c:Bool}(hu:A.units<cLine)(ha:s.heap.IsList a items)(hb:s.heap.IsList b #[])(hc:c=items.isEmpty)(h:Q (.bool c) s):wpAny (model P0 G.w) A (compareOp .Eq (.ref a) (.ref b)) Q E s:=by
 by_cases e:items=#[]
 ·subst e hc
  exact cmp_ofEq (SeqAt.RcAt.lists (e:=λJ=>true) ha hb rfl hu (λj h1 J=>absurd h1 (by simp)) _ _ _ _ h)
 ·refine cmp_ofEq (SeqAt.RcAt.lists_lengths ha hb ?_ hu _ _ _ _ ?_)
  ·simpa using e
  ·rw[hc] at h
   simpa [Array.isEmpty,e] using h
theorem neNil{A:Around}{a b:Addr}{items:Array Value}{c:Bool}(hu:A.units<cLine)(ha:s.heap.IsList a items)(hb:s.heap.IsList b #[])(hc:c=!items.isEmpty)(h:Q (.bool c) s):wpAny (model P0 G.w) A (compareOp .NotEq (.ref a) (.ref b)) Q E s:=by
 by_cases e:items=#[]
 ·subst e hc
  exact cmp_ofNotEq (SeqAt.RcNeAt.lists (e:=λJ=>true) ha hb rfl hu (λj h1 J=>absurd h1 (by simp)) _ _ _ _ h)
 ·refine cmp_ofNotEq (SeqAt.RcNeAt.lists_lengths ha hb ?_ hu _ _ _ _ ?_)
  ·simpa using e
  ·rw[hc] at h
   simpa [Array.isEmpty,e] using h
theorem AOK.room(O:AOK G X n):X.A.units+64<cLine:=by
 have:=O.un;have:=O.nb;show X.A.units+64<9900;lia
theorem Zdv{P:Params}{fz:Led0}{v:V}{w:Value}(z:VR P fz v w):(w==.none)=v.isNone:=VR.rec (motive_1:=λv w J=>(w==.none)=v.isNone) (motive_2:=λJ J J=>True) (motive_3:=λJ J J=>True) (motive_4:=λJ J J=>True)
  rfl rfl rfl rfl rfl rfl rfl (λJ J=>rfl) (λJ J J J=>rfl) (λJ J J J=>rfl) (λJ J J J=>rfl) (λJ J J J J J J=>rfl) trivial (λJ J J J=>trivial) trivial (λJ J J J J=>trivial) trivial (λJ J J J J J=>trivial) z
theorem isE{P:Params}{fz:Led0}{vs:List V}{ws:List Value}(q:VRs P fz vs ws):vs.isEmpty=ws.toArray.isEmpty:=by
 cases vs with
 |nil=>cases q.inv;rfl
 |cons v vs=>obtain⟨J,J,rfl,J⟩:=q.inv;rfl
theorem cmpI{A:Around}{op:CmpOp}{x y:Int}{t u:Tok}{c:Bool}(h:icmp op x y=some c)(K:Q (.bool c) s):wpAny (model P0 G.w) A (compareOp op (.int x t) (.int y u)) Q E s:=by
 cases op<;>first|(cases h;done)|rw[<- Option.some.inj h] at K
 ·exact PySem.P.eq_int (by simpa [BEq.beq] using K)
 ·refine PySem.P.ne_int ?_
  have:(x != y)=decide (x≠y):=by simp[bne,BEq.beq]
  rw[this];exact K
 ·exact PySem.P.lt_int K
 ·exact PySem.P.le_int K
 ·exact PySem.P.gt_int K
 ·exact PySem.P.ge_int K
theorem VR.eLh{P:Params}{fz:Led0}{vs:List V}{w:Value}{C:Value->Prop}{h:Heap}(z:VR P fz (.lst vs) w)(hf:∀p∈fz,h.get? p.1=some p.2)(K:∀b (ws:List Value),h.IsList b ws.toArray->VRs P fz vs ws->C (.ref b)):C w:=by
 apply z.eL;exact λJ J J J m p q=>K _ _ (Zaz (hf _ m) p) q
theorem VR.eLn{P:Params}{fz:Led0}{w:Value}{C:Value->Prop}{h:Heap}(z:VR P fz (.lst []) w)(hf:∀p∈fz,h.get? p.1=some p.2)(K:∀b,h.IsList b #[]->C (.ref b)):C w:=by
 apply z.eLh hf;intro b ws hl q;rw[(q.inv:ws=[])] at hl;exact K b hl
theorem cmpX{P:Params}{fz:Led0}{A:Around}{op:CmpOp}{a b:V}{c:Bool}{wa wb:Value}(hu:A.units<cLine)(hr:A.units+64<cLine)(hf:∀p∈fz,s.heap.get? p.1=some p.2)(hm:∀{a vs},(a,AO.list vs)∈μ->∃ws:List Value,s.heap.IsList a ws.toArray/\VRs P fz vs ws)
  (h:CV μ op a b c) (za:VR P fz a wa) (zb:VR P fz b wb) (K:Q (.bool c) s):wpAny (model P0 G.w) A (compareOp op wa wb) Q E s:=by
 cases h with
 |int h=>apply za.eI;intro t;apply zb.eI;intro u;exact cmpI h K
 |boolEq=>apply za.eB;apply zb.eB;exact PyProof.Rows.eq_bool K
 |boolNe=>apply za.eB;apply zb.eB;exact PyProof.Rows.ne_bool K
 |isN=>apply zb.eN;exact is_none_gen (by rw[Zdv za];exact K)
 |isNN=>apply zb.eN;exact isnot_none_gen (by rw[Zdv za];exact K)
 |lstN=>apply zb.eLn hf;intro J hb;apply za.eLh hf;intro J J ha q;exact neNil hu ha hb (by rw[isE q]) K
 |lstE=>apply zb.eLn hf;intro J hb;apply za.eLh hf;intro J J ha q;exact eqNil hu ha hb (isE q) K
 |ledN h=>apply zb.eLn hf;intro J hb;apply za.eR;obtain⟨J,ha,q⟩:=hm h;exact neNil hu ha hb (by rw[isE q]) K
 |ledE h=>apply zb.eLn hf;intro J hb;apply za.eR;obtain⟨J,ha,q⟩:=hm h;exact eqNil hu ha hb (isE q) K
 |@eqT a d=>exact eqOf (v:=.tup a) hf hr d za zb K
 |@eqL a d=>exact eqOf (v:=.lst a) hf hr d za zb K
theorem cmpM{op:CmpOp}{a b:V}{c:Bool}{wa wb:Value}(O:AOK G X n)(M:Mod G X cel ⟨b::a::r,l,μ,cz⟩ (wb::wa::us) s)(h:CV μ op a b c)
  (k:∀s',s'=s->Mod G X cel ⟨.bool c::r,l,μ,cz⟩ (.bool c::us) s'->Q (.bool c) s'):wpAny (model P0 G.w) X.A (compareOp op wa wb) Q E s:=by
 have K:Q (.bool c) s:=k s rfl (M.atom O rfl rfl rfl (λJ z=>z.tail.tail) λJ=>.bool);have hr:=O.room;obtain⟨fz,mu,cs,I,RL,Z,SL,o1,o2⟩:=M;exact cmpX (lt0 hr) hr I.fzh (λhm=>by obtain⟨w1,o1,n1,m1,p1,q1⟩:=RL.mem hm;exact⟨_,Zaz (I.ents _ (mem_append_left _ m1)) (lpair p1),q1⟩) h Z.tail.head Z.head K
end
end
section
def ZdL(G:Gl)(glob:Str->Option V):Prop:=∀x v,glob x=some v->∃w,(∀fz,VR G.w.params fz v w)/\(G.mg x=some w\/(G.mg x=none/\G.mb x=some w))
structure EnvOK(G:Gl)(X:Act)(cx:Cx)(e:Env):Prop where
 sc:e.scope=cx.sc
 kf:cx.sc.kind=.function
 gl:e.globals=mainGlobals
 bu:e.builtins=builtinsNs
 nx:cx.nx=X.sto.length
 var:∀x i,cx.vars.lookup x=some i->∃st,X.sto[i]?=some st/\(match st with
  |.ns a y=>y=x/\a=e.locals/\cx.kd x=some .local/\cx.lo<=i
  |.cell c=>e.cells.lookup x=some c/\(cx.kd x=some .cell\/(cx.kd x=some .free/\i<cx.lo/\(x==("__classdict__" : Str))=false)))
 glob:ZdL G cx.glob
 mt:∀i st,cx.lo<=i->X.sto[i]?=some st->(match st with|.ns a _=>a∉X.fxn.map (·.1)|.cell c=>c∉keys X.fxc)
section
variable{G:Gl}{X:Act}{n:Nat}{cel:List Nat}{S:Sg}{ws us:List Value}{s:Shared}{r:List V}{E:Value->Shared->Prop}{Q:Value->Shared->Prop}{l:List (Option V)}{μ:Led}{cz:Bool}{cx:Cx}{e:Env}{x:Str}{i:Nat}{v:V}
theorem EnvOK.kof(EO:EnvOK G X cx e)(x:Str):e.kindOf x=cx.kd x:=by delta Env.kindOf Cx.kd;rw[EO.sc]
theorem EnvOK.kfe(EO:EnvOK G X cx e):e.scope.kind=.function:=by rw[EO.sc];exact EO.kf
theorem nameM{pos:Pos}(O:AOK G X n)(EO:EnvOK G X cx e)(M:Mod G X cel S ws s)(hi:cx.vars.lookup x=some i)(hv:S.l[i]?=some (some v))(hd:(x==("__debug__" : Str))=false)
  (k:∀w s',Mod G X cel { S with stk:=v::S.stk } (w::ws) s'->Q w s'):wpAny (model P0 G.w) X.A (eval (.Name x pos) e) Q E s:=by
 refine hide λPP0 hPP0=>?_
 obtain⟨fz,mu,cs,I,RL,Z,SL,o1,o2⟩:=M;obtain⟨st,w,h1,h2,h3⟩:=SL.sl i v hv;have K:Q w s:=k w s (mk0 O I RL SL o1 o2 (.of λU U e=>e) rfl rfl (.cons h3 Z));obtain⟨st',h1',h4⟩:=EO.var x i hi;refine hPP0 ?_;rw[h1] at h1';cases h1';refine wpAny_Name ?_ hd;cases st with
 |ns a y =>
  obtain⟨rfl,rfl,hk,U⟩:=h4;obtain⟨m,q1,q2⟩:=h2;exact wpAny_loadName_local EO.kfe ((EO.kof _).trans hk) q1 q2 K
 |cell c =>
  obtain⟨hc,hk⟩:=h4;obtain⟨o,q1,q2⟩:=h2;have hcell:s.heap.IsCell c (some w):=⟨o,(mem_append.mp q1).elim (λq=>I.ents _ (mem_append_right _ q)) λq=>I.fzh _ q,q2⟩;rcases hk with hk|⟨hk,_,hn⟩
  ·exact wpAny_loadName_cell EO.kfe ((EO.kof _).trans hk) hc hcell K
  ·exact wpAny_loadName_free EO.kfe ((EO.kof _).trans hk) hc hcell K hn
theorem globM{pos:Pos}(O:AOK G X n)(EO:EnvOK G X cx e)(M:Mod G X cel S ws s)(hk:cx.kd x=some .globalImplicit)(hv:cx.glob x=some v)(hd:(x==("__debug__" : Str))=false)
  (k:∀w s',Mod G X cel { S with stk:=v::S.stk } (w::ws) s'->Q w s'):wpAny (model P0 G.w) X.A (eval (.Name x pos) e) Q E s:=by
 obtain⟨w,hw,hm⟩:=EO.glob x v hv;have K:Q w s:=k w s (M.atom O rfl rfl rfl (λU z=>z) hw);obtain⟨fz,mu,cs,I,RL,Z,SL,o1,o2⟩:=M;have st:∀b o,G.hb.get? b=some o->s.heap.get? b=some o:=λb o q=>I.st _ _ (O.st _ _ q)
 have hg:s.heap.Ns e.globals G.mg:=by rw[EO.gl];exact G.T.g.keeps st
 refine Name_function_global EO.kfe ((EO.kof _).trans hk) ?_ hd;rcases hm with hm|⟨hm,hb⟩
 ·exact loadGlobal_global hg hm K
 ·exact loadGlobal_builtin hg hm (by rw[EO.bu];exact G.T.b.keeps st) hb K
theorem Zef{α:Type}{l:List (Option α)}{i j:Nat}{u v:α}(h:(l.set i (some v))[j]?=some (some u)):(j=i/\u=v)\/(j≠i/\l[j]?=some (some u)):=by
 rw[List.getElem?_set] at h;by_cases q:i=j
 ·rw[if_pos q] at h
  split at h
  ·cases h;exact .inl ⟨q.symm,rfl⟩
  ·cases h
 ·rw[if_neg q] at h
  exact .inr ⟨λp=>q p.symm,h⟩
theorem Zdq{α:Type}:∀{l:List α},l.Nodup->∀{i j:Nat} (h1:i<l.length) (h2:j<l.length),l[i]=l[j]->i=j
 |a::r,n,0,0,_,_,_=>rfl
 |a::r,n,0,j+1,_,h2,e=>absurd (by rw[show a=r[j]'(by simpa using h2) from e];exact List.getElem_mem _) (nodup_cons.mp n).1
 |a::r,n,i+1,0,h1,_,e=>absurd (by rw[show a=r[i]'(by simpa using h1) from e.symm];exact List.getElem_mem _) (nodup_cons.mp n).1
 |a::r,n,i+1,j+1,h1,h2,e=>congrArg (·+1) (Zdq (nodup_cons.mp n).2 (by simpa using h1) (by simpa using h2) e)
theorem Zcy{α:Type}{l:List α}(n:l.Nodup){i j:Nat}{a:α}(hi:l[i]?=some a)(hj:l[j]?=some a):i=j:=by
 obtain⟨h1,e1⟩:=List.getElem?_eq_some_iff.mp hi;obtain⟨h2,e2⟩:=List.getElem?_eq_some_iff.mp hj;exact Zdq n h1 h2 (e1.trans e2.symm)
theorem ZcT{w:Value}{Q:Unit->Shared->Prop}(O:AOK G X n)(EO:EnvOK G X cx e)(M:Mod G X cel ⟨v::r,l,μ,cz⟩ (w::us) s)(hi:cx.vars.lookup x=some i)(hlo:cx.lo<=i)(hc:cz=false\/i∉cel)
  (k:∀s',Mod G X cel ⟨r,l.set i (some v),μ,cz⟩ us s'->Q () s'):wpAny (model P0 G.w) X.A (storeName e x w) Q E s:=by
 obtain⟨fz,mu,cs,I,RL,Z,SL,o1,o2⟩:=M;cases Z with|cons zv Z =>
 obtain⟨st,h1,h4⟩:=EO.var x i hi;cases st with
 |ns a y =>
  obtain⟨rfl,rfl,hk,U⟩:=h4;have ho:=SL.ow i _ _ h1;obtain⟨m,hns⟩:=I.own _ ho;refine wpAny_storeName_local ((EO.kof _).trans hk) hns (λh' hn hs=>k _ ?_) (by rw[EO.kfe];rfl);refine⟨fz,mu,cs,I.setOwn ho hs.extBut hn (λp hp q=>absurd (q▸mem_map_of_mem hp) (EO.mt i _ hlo h1)),RL,Z,⟨λj u hj=>?_,SL.cl,SL.cf,SL.ow,SL.nd,SL.fc⟩,o1,o2⟩;rcases Zef hj with⟨rfl,rfl⟩|⟨hne,hj⟩
  ·exact⟨_,w,h1,⟨_,hn,by simp⟩,zv⟩
  ·obtain⟨st,w',q1,q2,q3⟩:=SL.sl j u hj
   refine⟨st,w',q1,?_,q3⟩;cases st with
   |cell c=>exact q2
   |ns a' y' =>
    obtain⟨m',p1,p2⟩:=q2;by_cases ha:a'=e.locals
    ·subst ha
     have hy:y'≠y:=λhy=>hne (Zcy SL.nd (hy▸q1) h1)
     obtain rfl:m=m':=funext λz=>hns.agree p1 z
     exact⟨_,hn,by simp only[if_neg hy];exact p2⟩
    ·exact⟨m',p1.sameBut hs ha,p2⟩
 |cell c =>
  obtain⟨hcl,hk⟩:=h4;have hk:cx.kd x=some .cell:=hk.elim id λq=>absurd q.2.1 (Nat.not_lt.mpr hlo)
  obtain⟨o,v0,hm,hd⟩:=SL.cl i c h1 hc;obtain⟨c1,c2,rfl⟩:=List.append_of_mem hm;have hget:=I.ents _ (mem_append_right _ hm);refine wpAny_storeName_cell EO.kfe ((EO.kof _).trans hk) hcl ⟨o,hget,hd⟩ λh' hv hs=>k _ ?_
  obtain⟨o',ho',hd'⟩:=hv;have I':Inv G X fz ((mu++c1)++(c,o)::c2) s.heap:=by rw[append_assoc];exact I
  have J:=I'.set hs.extBut ho';have nn:=I'.nd;have e0:X.dyn ((mu++c1)++(c,o)::c2)=(keys mu++keys c1)++c::(keys c2++X.fx):=by simp[Act.dyn,keys]
  rw[e0] at nn;obtain⟨n1,n2⟩:=Zbm nn;have keep:∀c' q,c'≠c->(c',q)∈c1++(c,o)::c2->(c',q)∈c1++(c,o')::c2:=λc' q hn hm=>by
   refine mA hm (λhm=>?_) λhm=>?_
   ·exact mem_append_left _ hm
   ·refine mC hm (λe=>?_) λhm=>?_
    ·cases e;exact absurd rfl hn
    ·exact mem_append_right _ (.tail _ hm)
  have cne:∀a,a∈X.own->a≠c:=λa ha q=>n2 (q▸mem_append_right _ (mem_append_left _ ha))
  refine⟨fz,mu,c1++(c,o')::c2,by rw[<- append_assoc];exact J,RL,Z,⟨λj u hj=>?_,λj c' q hq=>?_,SL.cf,SL.ow,SL.nd,λp hp=>keep p.1 p.2 (λq=>EO.mt i _ hlo h1 (q▸mem_map_of_mem hp)) (SL.fc p hp)⟩,o1,o2⟩
  ·rcases Zef hj with⟨rfl,rfl⟩|⟨hne,hj⟩
   ·exact⟨_,w,h1,⟨o',mem_append_left _ (mem_append_right _ (.head _)),hd'⟩,zv⟩
   ·obtain⟨st,w',q1,q2,q3⟩:=SL.sl j u hj
    refine⟨st,w',q1,?_,q3⟩;cases st with
    |ns a y=>obtain⟨m',p1,p2⟩:=q2;exact⟨m',p1.sameBut hs (cne a (SL.ow _ _ _ q1)),p2⟩
    |cell c' =>
     obtain⟨q,p1,p2⟩:=q2;have hn:c'≠c:=λz=>hne (Zcy SL.nd (z▸q1) h1)
     exact⟨q,(mem_append.mp p1).elim (λz=>mem_append_left _ (keep c' q hn z)) (mem_append_right _),p2⟩
  ·by_cases z:c'=c
   ·subst z;exact⟨o',_,mem_append_right _ (.head _),hd'⟩
   ·obtain⟨q1,v1,p1,p2⟩:=SL.cl j c' q hq
    exact⟨q1,v1,keep c' q1 z p1,p2⟩
end
end
section
theorem Zbw{x:Str}{k:Nat}(h:nmIx x=k)(hk:k<nmT.length):nm k=x:=by
 unfold nmIx at h;cases q:(List.range nmT.length).find? λk=>nm k==x with
 |none=>rw[q] at h;simp at h;subst h;exact absurd hk (by decide)
 |some j=>rw[q] at h;simp at h;subst h;exact beq_iff_eq.mp (by simpa using List.find?_some q)
theorem nm_inj:∀i,i<nmT.length->∀j,j<nmT.length->nm i=nm j->i=j:=by
 have:(List.range nmT.length).all (λi=>(List.range nmT.length).all λj=>!(nm i==nm j)||i==j)=true:=by decide +kernel
 intro i hi j hj e;have h:=all_eq_true.mp (all_eq_true.mp this i (List.mem_range.mpr hi)) j (List.mem_range.mpr hj);rw[e] at h;simpa using h
section
variable{P:Params}{fz:Led0}
theorem ZbU{k j:Nat}{t:Tok}(hk:k<nmT.length)(hj:j<nmT.length):(Value.str (nm j) t).isStr (nm k)=decide (k=j):=by
 show(nm j==nm k)=_;by_cases q:k=j
 ·subst q;simp
 ·rw[decide_eq_false q]
  exact beq_eq_false_iff_ne.mpr λe=>q (nm_inj j hj k hk e).symm
theorem FRs.noRef{fs:List (Nat×V)}{es:List DictEntry}(z:FRs P fz fs es):es.any (·.refKey)=false:=by
 induction fs generalizing es with
 |nil=>rw[(z.inv:es=[])];rfl
 |cons p fs ih=>obtain⟨t,w,r,rfl,y,y,q⟩:=z.inv;rw[List.any_cons,ih q];rfl
theorem FRs.get:∀{fs:List (Nat×V)}{es:List DictEntry}{k:Nat}{r:V},FRs P fz fs es->k<nmT.length->fs.lookup k=some r->∃w,getL (nm k) es=some (some w)/\VR P fz r w
 |[],_,_,_,_,_,h=>by simp at h
 |(j,v)::fs,_,k,r,.cons (t:=t) (w:=w) (es:=es) hj hv hr,hk,h=>by
  rw[lookup_cons] at h;unfold getL;rw[List.find?_cons];by_cases q:k=j
  ·subst q
   rw[beq_self_eq_true] at h;cases h;exact⟨w,by simp[ZbU hk hk],hv⟩
  ·have:(k==j)=false:=beq_eq_false_iff_ne.mpr q
   rw[this] at h;obtain⟨w',h1,h2⟩:=FRs.get hr hk h;refine⟨w',?_,h2⟩;simp only[ZbU hk hj,decide_eq_false q];unfold getL at h1;cases z:es.find? (·.key.isStr (nm k)) with
   |some e=>rw[z] at h1;simpa using h1
   |none=>rw[z,hr.noRef] at h1;simp at h1
theorem FRs.getN:∀{fs:List (Nat×V)}{es:List DictEntry}{k:Nat},FRs P fz fs es->k<nmT.length->fs.lookup k=none->getL (nm k) es=some none:=by
 intro fs es k h hk hl;have nr:=h.noRef;unfold getL;have:es.find? (·.key.isStr (nm k))=none:=by
  clear nr;induction fs generalizing es with
  |nil=>cases h;rfl
  |cons p fs ih =>
   obtain⟨j,v⟩:=p;cases h with|cons hj hv hr =>
   rw[lookup_cons] at hl;by_cases q:k=j
   ·subst q;simp at hl
   ·have:(k==j)=false:=beq_eq_false_iff_ne.mpr q
    rw[this] at hl;rw[List.find?_cons];simp only[ZbU hk hj,decide_eq_false q];exact ih hr hl
 rw[this];simp[nr]
theorem FRs.put{k:Nat}{v:V}{w:Value}{t:Tok}(hk:k<nmT.length)(hv:VR P fz v w){fs:List (Nat×V)}{es:List DictEntry}(z:FRs P fz fs es):FRs P fz (fput k v fs) (putL (nm k) (PyData.keyHash P (nm k)) (.str (nm k) t) w es):=by
 induction fs generalizing es with
 |nil=>rw[(z.inv:es=[])];exact .cons hk hv .nil
 |cons p fs ih =>
  obtain⟨j,u⟩:=p;obtain⟨t',w',r,rfl,hj,hu,hr⟩:=z.inv;unfold fput putL;by_cases q:k=j
  ·subst q
   simp only[ZbU hk hk,decide_true,if_true];exact .cons hk hv hr
  ·rw[if_neg q]
   simp only[ZbU hk hj,decide_eq_false q,Bool.false_eq_true,if_false];exact .cons hj hu (ih hr)
theorem FRs.len{fs:List (Nat×V)}{es:List DictEntry}(z:FRs P fz fs es):es.length=fs.length:=by
 induction fs generalizing es with
 |nil=>rw[(z.inv:es=[])];rfl
 |cons p fs ih=>obtain⟨t,w,r,rfl,y,y,q⟩:=z.inv;exact congrArg (·+1) (ih q)
theorem Zel{x:Str}{hs:Int}{key v:Value}:∀{es:List DictEntry},(putL x hs key v es).length<=es.length+1
 |[]=>Nat.le_refl _
 |e::r=>by
  unfold putL;split
  ·simp
  ·simp only[length_cons];have:=Zel (x:=x) (hs:=hs) (key:=key) (v:=v) (es:=r);lia
theorem LU.split{a:Addr}{o o':AO}{μ μ':Led}(h:LU a o o' μ μ'):∃m1 m2,μ=m1++(a,o)::m2/\μ'=m1++(a,o')::m2:=by
 induction h with
 |head=>exact⟨[],_,rfl,rfl⟩
 |tail _ ih=>obtain⟨m1,m2,rfl,rfl⟩:=ih;exact⟨_::m1,m2,rfl,rfl⟩
end
noncomputable def okGet(K:Frag)(C:Addr)(x:Str):Bool:=plainGet K C x&&(hasDictIn K C&&(match findIn K (.ref C) x with|some attr=>noGet K attr|none=>false))
noncomputable def okSet(K:Frag)(C:Addr)(x:Str):Bool:=(findIn K (.ref C) "__setattr__"==some (some (.builtin "object.__setattr__")))&&(plainOver K C&&(takerIn K C x==some none&&hasDictIn K C))
theorem okGets(w:World):(insK.all λC=>(List.range 21).all λk=>okGet (K0 w.params) C (nm k))=true:=by kernel_rfl
theorem okSets(w:World):(insK.all λC=>(List.range 21).all λk=>okSet (K0 w.params) C (nm k))=true:=by kernel_rfl
end
section
section
variable{G:Gl}{X:Act}{n:Nat}{cel:List Nat}{S:Sg}{ws us:List Value}{s:Shared}{r:List V}{E:Value->Shared->Prop}{Q:Value->Shared->Prop}{l:List (Option V)}{μ:Led}{cz:Bool}{cx:Cx}{e:Env}{x:Str}{i:Nat}{v:V}
 {fz mu cs:Led0}{h h':Heap}
theorem Inv.set1{m1 m2:Led0}{a:Addr}{o o':Obj}(O:AOK G X n)(I:Inv G X fz (m1++(a,o)::m2) h)(k:∀b o,b≠X.L->b≠a->h.get? b=some o->h'.get? b=some o)(kL:∀m,h.Ns X.L m->h'.Ns X.L m)(ha:h'.get? a=some o') :
  Inv G X fz (m1++(a,o')::m2) h':=by
 obtain⟨r,er⟩:=O.own;have ek:keys (m1++(a,o')::m2)=keys (m1++(a,o)::m2):=by simp[keys]
 have ed:X.dyn (m1++(a,o')::m2)=X.dyn (m1++(a,o)::m2):=by simp only[Act.dyn,ek]
 have nd:=I.nd;have e0:X.dyn (m1++(a,o)::m2)=keys m1++a::(keys m2++X.fx):=by simp[Act.dyn,keys]
 have hL:=I.LnotM O;have hL0:X.h₀.get? X.L=none:=I.dyn _ (mem_append_right _ (mem_append_left _ (er▸.head _)));have ndL:=I.nd;have eL:X.dyn (m1++(a,o)::m2)=keys (m1++(a,o)::m2)++(X.L::(r++(tbs++keys X.fro))):=by simp[Act.dyn,Act.fx,er]
 rw[eL] at ndL;have nL:=(nodup_cons.mp (nodup_append.mp ndL).2.1).1;rw[e0] at nd;obtain⟨n1,n2⟩:=Zbm nd;have n2a:a∉keys m2:=λq=>n2 (mem_append_left _ q)
 have n2b:a∉X.fx:=λq=>n2 (mem_append_right _ q)
 have na:X.h₀.get? a=none:=I.dyn a (by rw[e0];simp);refine⟨λb o e=>k b o (λq=>?_) (λq=>?_) (I.st b o e),?_,?_,λp hp=>?_,λp hp=>k _ _ (λq=>hL.2 (q▸mem_map_of_mem hp)) (λq=>?_) (I.fzh p hp),?_,I.fzf,I.fz0,λb hb=>?_,λp hp=>?_,λP hP=>?_,λp hp=>⟨(I.fxn p hp).1,?_⟩⟩
 ·rw[q,hL0] at e;cases e
 ·rw[q,na] at e;cases e
 ·rw[ed];exact I.dyn
 ·rw[ed];exact I.nd
 ·refine mA hp (λhp=>?_) λhp=>?_
  ·exact k _ _ (λq=>hL.1 (q▸mem_map_of_mem (mem_append_left _ hp))) (λq=>n1 (q▸mem_map_of_mem hp)) (I.ents p (mem_append_left _ hp))
  ·rcases mem_cons.mp hp with rfl|hp
   ·exact ha
   ·exact k _ _ (λq=>hL.1 (q▸mem_map_of_mem (mem_append_right _ (.tail _ hp)))) (λq=>n2a (q▸mem_map_of_mem hp)) (I.ents p (mem_append_right _ (.tail _ hp)))
 ·exact I.fzd p hp (by rw[e0,q];simp)
 ·rw[ed];exact I.fzd
 ·obtain⟨m,e⟩:=I.own b hb
  by_cases q:b=X.L
  ·subst q;exact⟨m,kL m e⟩
  ·obtain⟨o,es,ep,h1,h2⟩:=e
   exact⟨m,o,es,ep,k _ _ q (λq=>n2b (q▸mem_append_left _ hb)) h1,h2⟩
 ·obtain⟨sl,e⟩:=I.fro p hp
  exact⟨sl,k _ _ (λq=>nL (q▸mem_append_right _ (mem_append_right _ (mem_map_of_mem hp)))) (λq=>n2b (q▸mem_append_right _ (mem_append_right _ (mem_map_of_mem hp)))) e⟩
 ·have t:=I.tab P hP
  obtain⟨ps,e,y⟩:=id t;exact t.mono (by rw[k _ _ (λq=>nL (q▸mem_append_right _ (mem_append_left _ hP))) (λq=>n2b (q▸mem_append_right _ (mem_append_left _ hP))) e,e]) λy x=>x
 ·obtain⟨ha,e⟩:=I.fxn p hp
  by_cases q:p.1=X.L
  ·rw[q] at e⊢;exact kL _ e
  ·obtain⟨o,es,ep,h1,h2⟩:=e
   exact⟨o,es,ep,k _ _ q (λq=>n2b (q▸mem_append_left _ ha)) h1,h2⟩
theorem SR.set1{m1 m2:Led0}{a:Addr}{o:Obj}(I:Inv G X fz ((m1++(a,o)::m2)++cs) h)(R:SR G X cel fz cs h l cz)(k:∀b o,b≠X.L->b≠a->h.get? b=some o->h'.get? b=some o)(kL:∀m,h.Ns X.L m->h'.Ns X.L m):SR G X cel fz cs h' l cz where
 sl:=λi v e=>by
  obtain⟨st,w,h1,h2,h3⟩:=R.sl i v e;refine⟨st,w,h1,?_,h3⟩;cases st with
  |cell c=>exact h2
  |ns b x =>
   obtain⟨m,p1,p2⟩:=h2;by_cases q:b=X.L
   ·subst q;exact⟨m,kL m p1,p2⟩
   ·obtain⟨o',es,ep,e1,e2⟩:=p1
    refine⟨m,⟨o',es,ep,k _ _ q (λz=>?_) e1,e2⟩,p2⟩;have nd:=I.nd;have e0:X.dyn ((m1++(a,o)::m2)++cs)=keys m1++a::(keys m2++keys cs++X.fx):=by simp[Act.dyn,keys]
    rw[e0] at nd;exact(Zbm nd).2 (mem_append_right _ (mem_append_left _ (z▸R.ow _ _ _ h1)))
 cl:=R.cl
 cf:=R.cf
 ow:=R.ow
 nd:=R.nd
 fc:=R.fc
theorem okGet_of{w:World}{C:Addr}{k:Nat}(hC:C∈insK)(hk:k<21):plainGet (K0 w.params) C (nm k)=true/\hasDictIn (K0 w.params) C=true/\∃attr,findIn (K0 w.params) (.ref C) (nm k)=some attr/\noGet (K0 w.params) attr=true:=by
 have h:=all_eq_true.mp (all_eq_true.mp (okGets w) C hC) k (List.mem_range.mpr hk);unfold okGet at h;simp only[Bool.and_eq_true] at h;refine⟨h.1,h.2.1,?_⟩;have h3:=h.2.2;split at h3
 ·exact⟨_,by assumption,h3⟩
 ·cases h3
theorem ZfP{r:V}{w:Value}(h:VR G.w.params fz r w)(nb:r.nb=true):handedIn w=true:=by
 cases h<;>first|rfl|cases nb
inductive KindI(w:World)(C:Addr)(r:V)(k:Nat):Prop
 |mk (v:Value) (_:k=6) (_:∀fz,VR w.params fz r v) (_:findIn (K0 w.params) (.ref C) (nm 6)=some (some v)) (_:specialIn (K0 w.params) v "__get__"=some none) (_:handedIn v=true) (_:plainGet (K0 w.params) C (nm 6)=true) (_:hasDictIn (K0 w.params) C=true)
theorem itE{α:Type}{P:Prop}{c:Prop}{_:Decidable c}{a b:Option α}{x:α}(h:(if c then a else b)=some x)(K:c->a=some x->P)(L:b=some x->P):P:=by
 by_cases q:c
 ·rw[if_pos q] at h;exact K q h
 ·rw[if_neg q] at h;exact L h
theorem kindIn(w:World){C:Addr}{r:V}{k:Nat}(h:clsK C k=some r):KindI w C r k :=
 itE h (λq h=>itE h (λe h=>by subst e;cases h;exact⟨.int 4 614,q,λy=>.int,by kernel_rfl,by kernel_rfl,rfl,by kernel_rfl,by kernel_rfl⟩)
  λh=>itE h (λe h=>by subst e;cases h;exact⟨.int 5 615,q,λy=>.int,by kernel_rfl,by kernel_rfl,rfl,by kernel_rfl,by kernel_rfl⟩)
  λh=>itE h (λe h=>by subst e;cases h;exact⟨.int 6 616,q,λy=>.int,by kernel_rfl,by kernel_rfl,rfl,by kernel_rfl,by kernel_rfl⟩)
  λh=>itE h (λe h=>by subst e;cases h;exact⟨.int 7 617,q,λy=>.int,by kernel_rfl,by kernel_rfl,rfl,by kernel_rfl,by kernel_rfl⟩)
  λh=>itE h (λe h=>by subst e;cases h;exact⟨.int 14 632,q,λy=>.int,by kernel_rfl,by kernel_rfl,rfl,by kernel_rfl,by kernel_rfl⟩) λh=>no h rfl) λh=>no h rfl
end
end
section
section
variable{G:Gl}{X:Act}{n:Nat}{cel:List Nat}{S:Sg}{ws us:List Value}{s:Shared}{r:List V}{E:Value->Shared->Prop}{Q:Value->Shared->Prop}{l:List (Option V)}{μ:Led}{cz:Bool}{cx:Cx}{e:Env}{x:Str}{i:Nat}{v:V}
 {fz mu cs:Led0}{h h':Heap}
theorem lt27{k:Nat}(h:k<21):k<nmT.length:=Nat.lt_trans h (by decide)
theorem getPure{C a dx:Addr}{fs:List (Nat×V)}{es:List DictEntry}{c k:Nat}{v:V}{A:Around}{m:Str->Option Value}{L:Addr}(F:Fr G.hb L s.heap m)
  (e1:s.heap.get? a=some (instObj C dx)) (e2:s.heap.get? dx=some (dictOf es c)) (hf:FRs G.w.params fz fs es) (hC:C∈insK) (hx:nmIx x=k)
  (hv:(k<21/\fs.lookup k=some v/\v.nb=true)\/(fs.lookup k=none/\clsK C k=some v))
  (K:∀w,VR G.w.params fz v w->Q w { s with toks:=s.toks+1 }):wpAny (model P0 G.w) A (getAttr (.ref a) x true) Q E s:=by
 rcases hv with⟨hk,hl,nb⟩|⟨hl,hc⟩
 ·have ex:=Zbw hx (lt27 hk)
  refine hide λPP0 hPP0=>?_
  obtain⟨w,g1,g2⟩:=hf.get (lt27 hk) hl;obtain⟨h1,h2,attr,h3,h4⟩:=okGet_of (w:=G.w) hC hk;refine hPP0 ?_;rw[ex] at g1 h1 h3;exact get_own F G.K ⟨e1,rfl,rfl,e2⟩ h1 h2 h3 h4 g1 (ZfP g2 nb) (K w g2)
 ·obtain⟨w,rfl,h1,h2,h3,h4,h5,h6⟩:=kindIn G.w hc
  have ex:=Zbw hx (by decide);have g1:=hf.getN (k:=6) (by decide) hl;rw[ex] at g1 h2 h5;refine get_cls F G.K ⟨e1,rfl,rfl,e2⟩ h5 h6 h2 h3 h4 ?_ g1 (K w (h1 fz));rw[<- ex];decide +kernel
theorem RA.elim{o v:V}{k:Nat}{w:Value}{P:Value->Prop}{fz mu cs:Led0}{h:Heap}(hr:RA μ o k v)(I:Inv G X fz (mu++cs) h)(RL:LR G.w.params fz μ mu)(z:VR G.w.params fz o w)
  (K:∀a dx C fs es c,h.get? a=some (instObj C dx)->h.get? dx=some (dictOf es c)->FRs G.w.params fz fs es->C∈insK->(k<21/\fs.lookup k=some v/\v.nb=true\/fs.lookup k=none/\clsK C k=some v)->P (.ref a)):P w:=by
 cases hr with
 |pi hC hk hl nb=>apply z.eO;exact λa dx es c m1 m2 hf=>K _ _ _ _ _ c (I.fzh _ m1) (I.fzh _ m2) hf hC (.inl ⟨hk,hl,nb⟩)
 |pc hC hl hc=>apply z.eO;exact λa dx es c m1 m2 hf=>K _ _ _ _ _ c (I.fzh _ m1) (I.fzh _ m2) hf hC (.inr ⟨hl,hc⟩)
 |mi hC hk hm hl nb=>obtain⟨es,c,m1,m2,hf⟩:=RL.memI hm;apply z.eR;exact(K _ _ _ _ _ c (I.ents _ (mem_append_left _ m1)) (I.ents _ (mem_append_left _ m2)) hf hC (.inl ⟨hk,hl,nb⟩))
 |mc hC hm hl hc=>obtain⟨es,c,m1,m2,hf⟩:=RL.memI hm;apply z.eR;exact(K _ _ _ _ _ c (I.ents _ (mem_append_left _ m1)) (I.ents _ (mem_append_left _ m2)) hf hC (.inr ⟨hl,hc⟩))
theorem attrM2{o:V}{k:Nat}{w:Value}(O:AOK G X n)(M:Mod G X cel ⟨o::r,l,μ,cz⟩ (w::us) s)(h:RA μ o k v)(hx:nmIx x=k)
  (K:∀w' s',Mod G X cel ⟨v::o::r,l,μ,cz⟩ (w'::w::us) s'->Q w' s'):wpAny (model P0 G.w) X.A (getAttr w x true) Q E s:=by
 obtain⟨fz,mu,cs,I,RL,Z,SL,o1,o2⟩:=M;obtain⟨m,F⟩:=I.fr O;exact(h.elim (P:=λw=>wpAny (model P0 G.w) X.A (getAttr w x true) Q E s) I RL Z.head λa dx C fs es c e1 e2 hf hC hv=>getPure F e1 e2 hf hC hx hv λw' z=>K w' _ (mk0 O I RL SL o1 o2 (.of λy y e=>e) rfl rfl (.cons z Z)))
theorem attrM{o:V}{k:Nat}{w:Value}(O:AOK G X n)(M:Mod G X cel ⟨o::r,l,μ,cz⟩ (w::us) s)(h:RA μ o k v)(hx:nmIx x=k)
  (K:∀w' s',Mod G X cel ⟨v::r,l,μ,cz⟩ (w'::us) s'->Q w' s'):wpAny (model P0 G.w) X.A (getAttr w x true) Q E s :=
 attrM2 O M h hx λw' s' M'=>K w' s' (M'.next O (.of λy y e=>e) rfl rfl λfz z=>.cons z.head z.tail.tail)
theorem okSet_of{w:World}{C:Addr}{k:Nat}(hC:C∈insK)(hk:k<21):findIn (K0 w.params) (.ref C) "__setattr__"=some (some (.builtin "object.__setattr__"))/\plainOver (K0 w.params) C=true/\takerIn (K0 w.params) C (nm k)=some none/\hasDictIn (K0 w.params) C=true:=by
 have h:=all_eq_true.mp (all_eq_true.mp (okSets w) C hC) k (List.mem_range.mpr hk);unfold okSet at h;simp only[Bool.and_eq_true,beq_iff_eq] at h;exact⟨h.1,h.2.1,h.2.2.1,h.2.2.2⟩
theorem Mod.atI{C a dx:Addr}{fs fs':List (Nat×V)}{μ':Led}{S:Sg}{ws:List Value}{P:Prop}(O:AOK G X n)(M:Mod G X cel S ws s)(U:LU a (.ins C dx fs) (.ins C dx fs') S.μ μ')
  (K:∀fz es c,s.heap.get? a=some (instObj C dx)->s.heap.get? dx=some (dictOf es c)->FRs G.w.params fz fs es->VRs G.w.params fz S.stk ws->dx≠X.L->G.hb.get? dx=none->(∀b o,G.hb.get? b=some o->s.heap.get? b=some o) ->
   (∀{s':Shared}{es':List DictEntry}{c':Nat}{stk':List V}{us':List Value},(∀b o,b≠X.L->b≠dx->s.heap.get? b=some o->s'.heap.get? b=some o)->(∀m,s.heap.Ns X.L m->s'.heap.Ns X.L m)->s'.heap.get? dx=some (dictOf es' c')->s'.os=s.os->s'.gens=s.gens ->
    FRs G.w.params fz fs' es'->VRs G.w.params fz stk' us'->Mod G X cel ⟨stk',S.l,μ',S.cz⟩ us' s')->P):P:=by
 obtain⟨fz,mu,cs,I,RL,Z,SL,o1,o2⟩:=M;obtain⟨μ1,μ2,e,rfl⟩:=U.split;rw[e] at RL;obtain⟨m1,m2,rfl,R1,R2⟩:=LR.split RL;obtain⟨es,c,m2,rfl,hf,R3⟩:=R2.inv;have hb:=λb o e=>I.st b o (O.st b o e)
 have hdL:dx≠X.L:=λq=>(I.LnotM O).1 (q▸by simp[keys])
 refine K fz es c (I.ents (a,instObj C dx) (by simp)) (I.ents (dx,dictOf es c) (by simp)) hf Z hdL ?_ hb λk1 k2 hd' eo eg hf' z'=>?_
 ·cases q:G.hb.get? dx with
  |none=>rfl
  |some o=>have:=I.dyn dx (by simp[Act.dyn,keys]);rw[O.st _ _ q] at this;cases this
 ·have I':Inv G X fz ((m1++[(a,instObj C dx)])++(dx,dictOf es c)::(m2++cs)) s.heap:=by simpa [append_assoc] using I
  have J:=I'.set1 O k1 k2 hd';have I'':Inv G X fz (((m1++[(a,instObj C dx)])++(dx,dictOf es c)::m2)++cs) s.heap:=by simpa [append_assoc] using I
  exact⟨fz,m1++((a,instObj C dx)::(dx,_)::m2),cs,by simpa [append_assoc] using J,R1.app (.ins hf' R3),z',SL.set1 I'' k1 k2,eo.trans o1,eg.trans o2⟩
theorem Mod.fr{S:Sg}{ws:List Value}(O:AOK G X n)(M:Mod G X cel S ws s):∃m,Fr G.hb X.L s.heap m:=let ⟨_,_,_,I,_,_,_,_,_⟩:=M;I.fr O
theorem Zc5{C a dx:Addr}{fs:List (Nat×V)}{k:Nat}{w:Value}{μ':Led}{Q:Unit->Shared->Prop}(O:AOK G X n)(M:Mod G X cel ⟨.ref a::v::r,l,μ,cz⟩ (.ref a::w::us) s)
  (hC:C∈insK) (hk:k<21) (hx:nmIx x=k) (hz:fs.length<900) (U:LU a (.ins C dx fs) (.ins C dx (fput k v fs)) μ μ')
  (K:∀s',Mod G X cel ⟨r,l,μ',cz⟩ us s'->Q () s'):wpAny (model P0 G.w) X.A (setAttr (.ref a) x w) Q E s:=by
 refine M.atI O U λfz es c e1 e2 hf Z hdL hb0 hb fin=>?_
 refine hide λPP3 hPP3=>?_
 obtain⟨m,F⟩:=M.fr O;have ex:=Zbw hx (lt27 hk);obtain⟨h1,h2,h3,h4⟩:=okSet_of (w:=G.w) hC hk;refine hPP3 ?_;rw[ex] at h3;have hgl:(getL x es).isSome=true:=by
  unfold getL;cases q:es.find? (·.key.isStr x) with
  |some _=>rfl
  |none=>simp[hf.noRef]
 refine set_dict F G.K (Zbz (h:=s.heap)) ⟨e1,rfl,rfl,e2⟩ rfl h1 h2 h3 h4 hgl rfl (Ze6 allN_nd (Zb1 e2 hdL hb0)) (Nat.le_trans Zel (by rw[hf.len];lia)) λh' F' N'=>K _ ?_
 have k12:=ext1_upd (pre:=[]) F F' N';have hp:=hf.put (k:=k) (t:=s.toks+1) (lt27 hk) Z.tail.head;rw[ex] at hp;exact fin k12.1 k12.2 (N' (dx,_) (mem_map.mpr ⟨(dx,dictOf es c),Zb1 e2 hdL hb0,if_pos rfl⟩)).1 rfl rfl hp Z.tail.tail
end
end
section
section
variable{G:Gl}{X:Act}{n:Nat}{cel:List Nat}{S:Sg}{ws us:List Value}{s:Shared}{r:List V}{E:Value->Shared->Prop}{Q:Value->Shared->Prop}{l:List (Option V)}{μ:Led}{cz:Bool}{cx:Cx}{e:Env}{x:Str}{i:Nat}{v:V}
 {fz mu cs:Led0}{h h':Heap}
theorem RG.elim{o ix v:V}{wo wi:Value}{P:Value->Value->Prop}{fz mu cs:Led0}{h:Heap}(hr:RG μ o ix v)(I:Inv G X fz (mu++cs) h)(RL:LR G.w.params fz μ mu)(zi:VR G.w.params fz ix wi)(zo:VR G.w.params fz o wo)
  (L:∀a (i:Nat) t (ws:List Value) w,h.IsList a ws.toArray->i<2^30->ws[i]?=some w->VR G.w.params fz v w->P (.ref a) (.int i t))
  (T:∀a (i:Nat) t (ws:List Value) w,IsTup h a ws.toArray->i<2^30->ws[i]?=some w->VR G.w.params fz v w->P (.ref a) (.int i t)):P wo wi:=by
 cases hr with
 |lst hv hi=>apply zi.eI;intro t;apply zo.eL;intro a o c ws m p q;exact let ⟨w,hw,z⟩:=q.get hv;L _ _ t ws w (Zaz (I.fzh _ m) p) hi hw z
 |tup hv hi=>apply zi.eI;intro t;apply zo.eT;intro a o c ws m p q;exact let ⟨w,hw,z⟩:=q.get hv;T _ _ t ws w (ZbT (I.fzh _ m) p) hi hw z
 |led hm hv hi=>obtain⟨ws',o,c,m,p,q⟩:=RL.mem hm;apply zi.eI;intro t;apply zo.eR;exact let ⟨w,hw,z⟩:=q.get hv;L _ _ t ws' w (Zaz (I.ents _ (mem_append_left _ m)) (lpair p)) hi hw z
theorem itemM{o:V}{ix:V}{wo wi:Value}{P:Value->Prop}(O:AOK G X n)(M:Mod G X cel ⟨ix::o::r,l,μ,cz⟩ (wi::wo::us) s)(h:RG μ o ix v)
  (K:∀w,Mod G X cel ⟨v::ix::o::r,l,μ,cz⟩ (w::wi::wo::us) s->Q w s) :
  wpAny (model P0 G.w) X.A (getItem wo wi) Q E s/\∃T id,s.TypeIs wo T/\typeLookup (.type T) "__getitem__"=pure (some (.builtin id)):=by
 refine hide λPP0 hPP0=>?_
 obtain⟨fz,mu,cs,I,RL,Z,SL,o1,o2⟩:=M;refine hPP0 ?_;have fin:∀w,VR G.w.params fz v w->Q w s:=λw z=>K w (mk0 O I RL SL o1 o2 (.of λy y e=>e) rfl rfl (.cons z Z))
 refine h.elim (P:=λwo wi=>wpAny (model P0 G.w) X.A (getItem wo wi) Q E s/\∃T id,s.TypeIs wo T/\typeLookup (.type T) "__getitem__"=pure (some (.builtin id))) I RL Z.head Z.tail.head (λa i t ws w hl hi hw z=>?_) λa i t ws w ht hi hw z=>?_
 ·exact⟨wpAny_getItem_list hl (by lia) (by lia) (by simpa using hw) (fin w z),"list",_,hl.typeIs,slot_list_getitem.lookup⟩
 ·have hlt:=(List.getElem?_eq_some_iff.mp hw).1
  exact⟨getItem_tuple ht (Int.natCast_nonneg _) (by lia) (PySem.seqIndex_of (by lia) (by simp only[size_toArray];exact(Int.ofNat_lt.mpr hlt))) (by simpa using hw) (fin w z),"tuple",_,ht.typeIs,slot_tuple_getitem.lookup⟩
theorem ledSet{cel:List Nat}{μ1 μ2:Led}{m1 m2:Led0}{a:Addr}{o:Obj}{vs:List V}{ws us':List Value}{c:Nat}{stk':List V}{s s':Shared}{l:List (Option V)}{cz:Bool}(O:AOK G X n)
  (I:Inv G X fz ((m1++([(a,o)]++m2))++cs) s.heap) (R1:LR G.w.params fz μ1 m1) (R3:LR G.w.params fz μ2 m2) (SL:SR G X cel fz cs s.heap l cz) (o1:s.os=G.os) (o2:s.gens=#[])
  (hs:Heap.ExtBut a s.heap s'.heap) (ha:s'.heap.get? a=some (listOf ws.toArray c)) (eo:s'.os=s.os) (eg:s'.gens=s.gens) (z:VRs G.w.params fz vs ws) (z':VRs G.w.params fz stk' us') :
  Mod G X cel ⟨stk',l,μ1++(a,.list vs)::μ2,cz⟩ us' s':=by
 have I':Inv G X fz (m1++(a,o)::(m2++cs)) s.heap:=by simpa [append_assoc] using I
 have J:=I'.set hs ha;have I'':Inv G X fz ((m1++(a,o)::m2)++cs) s.heap:=by simpa [append_assoc] using I
 refine⟨fz,m1++(a,_)::m2,cs,by simpa [append_assoc] using J,R1.app (.list rfl z R3),z',SL.set1 I'' (λb o' y nb q=>hs b o' nb q) (λm q=>?_),eo.trans o1,eg.trans o2⟩;refine q.extBut hs λe=>?_
 exact(I'.LnotM O).1 (by rw[e];simp[keys])
theorem upd_get{h:Heap}{a:Addr}{ws:Array Value}{c:Nat}(f:Array Value->Array Value)(e:h.get? a=some (listOf ws c)):∃c',(h.update a (Obj.mapSeq f)).get? a=some (listOf (f ws) c'):=by
 refine⟨_,(Heap.get?_update_self _ e rfl).trans rfl⟩
theorem Mod.atL{a:Addr}{vs vs':List V}{μ':Led}{S:Sg}{P:Prop}(O:AOK G X n)(M:Mod G X cel S ws s)(U:LU a (.list vs) (.list vs') S.μ μ')
  (K:∀fz ws' c,s.heap.get? a=some (listOf ws'.toArray c)->VRs G.w.params fz vs ws'->VRs G.w.params fz S.stk ws ->
   (∀{s':Shared}{ws2:List Value}{c':Nat}{stk':List V}{us':List Value},Heap.ExtBut a s.heap s'.heap->s'.heap.get? a=some (listOf ws2.toArray c')->s'.os=s.os->s'.gens=s.gens->VRs G.w.params fz vs' ws2->VRs G.w.params fz stk' us'->Mod G X cel ⟨stk',S.l,μ',S.cz⟩ us' s')->P):P:=by
 refine hide λPP1 hPP1=>?_
 obtain⟨fz,mu,cs,I,RL,Z,SL,o1,o2⟩:=M;refine hPP1 ?_;obtain⟨μ1,μ2,e1,rfl⟩:=U.split;rw[e1] at RL;obtain⟨m1,m2,rfl,R1,R2⟩:=LR.split RL;obtain⟨ws',o,c,m2,rfl,p,q,R3⟩:=R2.inv;exact K fz ws' c (p▸I.ents (a,o) (by simp)) q Z λhs ha eo eg z z'=>ledSet O I R1 R3 SL o1 o2 hs ha eo eg z z'
theorem Zee{a:Addr}{ix:Nat}{w wi:Value}{vs:List V}{μ':Led}{Q:Unit->Shared->Prop}{r':List V}{us':List Value}(O:AOK G X n)(M:Mod G X cel S ws s)
  (hz:∀fz,VRs G.w.params fz S.stk ws->VR G.w.params fz (.int ix) wi/\VR G.w.params fz v w/\VRs G.w.params fz r' us')
  (hi:ix<vs.length) (hb:ix<2^30) (U:LU a (.list vs) (.list (vs.set ix v)) S.μ μ')
  (K:∀s',Mod G X cel ⟨r',S.l,μ',S.cz⟩ us' s'->Q () s'):wpAny (model P0 G.w) X.A (setItem (.ref a) wi w) Q E s :=
 M.atL O U λfz ws' c e2 q Z fin=>by
  apply(hz fz Z).1.eI;intro t;have hl:=q.length;obtain⟨c',hg⟩:=upd_get (·.setIfInBounds ((ix:Int)).toNat w) e2;have ee:ws'.toArray.setIfInBounds ((ix:Int)).toNat w=(ws'.set ix w).toArray:=by
   apply Array.toList_inj.mp;simp
  rw[ee] at hg;exact ki_setAt e2 (by lia) (by lia) (by simp only[size_toArray];exact(Int.ofNat_lt.mpr (hl▸hi))) (K _ (fin (Heap.SameBut.update ..).extBut hg rfl rfl (VRs.set (i:=ix) (hz fz Z).2.1 q) (hz fz Z).2.2))
theorem appendM{a:Addr}{w:Value}{vs:List V}{μ':Led}(O:AOK G X n)(M:Mod G X cel ⟨v::.ref a::r,l,μ,cz⟩ (w::.ref a::us) s)(hb:vs.length<2^20)(U:LU a (.list vs) (.list (vs++[v])) μ μ')
  (K:∀s',Mod G X cel ⟨.none::r,l,μ',cz⟩ (.none::us) s'->Q .none s'):wpAny (model P0 G.w) X.A (call (.builtin "list.append") [.ref a,w]) Q E s :=
 M.atL O U λfz ws' c e2 q Z fin=>by
  have hl:=q.length;refine append_at (hsz:=by simp only[size_toArray];exact ZcU (hl▸hb)) e2 λh' hs hg=>K _ ?_
  rw[show ws'.toArray.push w=(ws'++[w]).toArray by simp] at hg;exact fin hs.extBut hg rfl rfl (q.append (.cons Z.head .nil)) (.cons .none Z.tail.tail)
theorem tupM{vs:List V}{ws':List Value}(O:AOK G X n)(M:Mod G X cel ⟨vs.reverse++r,l,μ,cz⟩ (ws'.reverse++us) s)(hl:ws'.length=vs.length)(hb:vs.length<=1000)
  (K:∀w s',Mod G X cel ⟨.tup vs::r,l,μ,cz⟩ (w::us) s'->Q w s'):wpAny (model P0 G.w) X.A (newTuple ws') Q E s:=by
 obtain⟨fz,mu,cs,I,RL,Z,SL,o1,o2⟩:=M;obtain⟨z1,z2⟩:=VRs.unrev hl Z;refine wpAny_newObj_type (K _ _ (mkF O I RL SL o1 o2 (.of Zam) (ZaM _) (Heap.get?_push_size _ rfl) rfl rfl (.cons (.tup (.head _) ⟨rfl,rfl⟩ (z1.mono λy q=>.tail _ q)) (z2.mono λy q=>.tail _ q)))) ?_;show ws'.toArray.size<=sizeLine;rw[size_toArray,sizeLine_eq];exact(ZaV (hl▸hb) rfl)
theorem lstM{vs:List V}{ws':List Value}(O:AOK G X n)(M:Mod G X cel ⟨vs.reverse++r,l,μ,cz⟩ (ws'.reverse++us) s)(hl:ws'.length=vs.length)(hb:vs.length<=1000)
  (K:(∀w s',Mod G X cel ⟨.lst vs::r,l,μ,cz⟩ (w::us) s'->Q w s')\/∀a s',Mod G X cel ⟨.ref a::r,l,(a,.list vs)::μ,cz⟩ (.ref a::us) s'->Q (.ref a) s'):wpAny (model P0 G.w) X.A (newList ws') Q E s:=by
 obtain⟨fz,mu,cs,I,RL,Z,SL,o1,o2⟩:=M;obtain⟨z1,z2⟩:=VRs.unrev hl Z;refine wpAny_newObj_type ?_ ?_
 ·rcases K with K|K
  ·exact K _ _ (mkF O I RL SL o1 o2 (.of Zam) (ZaM _) (Heap.get?_push_size _ rfl) rfl rfl (.cons (.lst (.head _) ⟨rfl,rfl⟩ (z1.mono λy q=>.tail _ q)) (z2.mono λy q=>.tail _ q)))
  ·exact K _ _ (mkM O I RL SL o1 o2 (.of Zam) (ZaM _) (Heap.get?_push_size _ rfl) rfl rfl rfl (.cons .ref z2) z1)
 ·show ws'.toArray.size<=sizeLine
  rw[size_toArray,sizeLine_eq];exact(ZaV (hl▸hb) rfl)
end
end
section
inductive IT(P:Params)(fz:Led0)(h:Heap)(I:Addr)(rest:List V):Prop
 |lst (l:Addr) (o:Obj) (ws:List Value) (n:Nat) (vs:List V) (i:Nat) (a:(l,o)∈fz) (b:o.cls=.type "list"/\o.data=.seq (List.toArray ws) n) (c:VRs P fz vs ws) (d:h.IsListIter I l i) (e:rest=vs.drop i)
 |tup (l:Addr) (o:Obj) (ws:List Value) (n:Nat) (vs:List V) (i:Nat) (a:(l,o)∈fz) (b:o.cls=.type "tuple"/\o.data=.seq (List.toArray ws) n) (c:VRs P fz vs ws) (d:IsTupIter h I l i) (e:rest=vs.drop i)
 |rng (x left:Int) (d:IsRangeIter h I x left 1) (e:rest=ZaF x (x+left))
theorem ZeW{x left:Int}(h:0<left):ZaF x (x+left)=.int x::ZaF (x+1) (x+1+(left-1)):=by
 unfold ZaF;have e1:(x+left-x).toNat=(x+1+(left-1)-(x+1)).toNat+1:=by lia
 rw[e1,List.range_succ_eq_map,map_cons,map_map];congr 1
 ·simp
 ·apply map_congr_left
  intro a y;show V.int (x+((a+1:Nat):Int))=V.int (x+1+(a:Int));congr 1;lia
theorem ZfL{x left:Int}(h:left<=0):ZaF x (x+left)=[]:=by
 unfold ZaF;have:(x+left-x).toNat=0:=by lia
 rw[this];rfl
section
variable{P:Params}{fz fz':Led0}{I:Addr}{rest:List V}{h h':Heap}{A:Around}{s:Shared}{G:Gl}
def isIt(o:Obj):Prop:=(∃vs,o.data=.fields vs)/\(o.cls=.type "list_iterator"\/o.cls=.type "tuple_iterator"\/o.cls=.type "range_iterator")
theorem IT.obj(x:IT P fz h I rest):∃o,h.get? I=some o/\isIt o:=by
 cases x with
 |lst l o ws n vs i a b c d=>exact let ⟨o',e,hc,hd⟩:=d;⟨o',e,⟨_,hd⟩,.inl hc⟩
 |tup l o ws n vs i a b c d=>exact let ⟨o',e,hc,hd⟩:=d;⟨o',e,⟨_,hd⟩,.inr (.inl hc)⟩
 |rng x left e=>exact⟨_,e,⟨_,rfl⟩,.inr (.inr rfl)⟩
theorem IT.mono(x:IT P fz h I rest)(k:∀o,h.get? I=some o->h'.get? I=some o)(s:∀p∈fz,p∈fz'):IT P fz' h' I rest:=by
 cases x with
 |lst l o ws n vs i a b c d e=>exact .lst l o ws n vs i (s _ a) b (c.mono s) (let ⟨o',e,r⟩:=d;⟨o',k _ e,r⟩) e
 |tup l o ws n vs i a b c d e=>exact .tup l o ws n vs i (s _ a) b (c.mono s) (let ⟨o',e,r⟩:=d;⟨o',k _ e,r⟩) e
 |rng x left d e=>exact .rng x left (k _ d) e
theorem Zdf{α:Type}{l:List α}{i:Nat}{a:α}{r:List α}(h:a::r=l.drop i):l[i]?=some a/\r=l.drop (i+1):=by
 constructor
 ·have:(l.drop i)[0]?=some a:=by rw[<- h];rfl
  simpa using this
 ·have:(l.drop i).drop 1=r:=by rw[<- h];rfl
  rw[<- this,List.drop_drop]
theorem drop_nil{α:Type}{l:List α}{i:Nat}(h:[]=l.drop i):l.length<=i:=by
 have:=congrArg List.length h;simp at this;lia
theorem nextM{E:Value->Shared->Prop}{Q:Option Value->Shared->Prop}(hh:A.handled=none)(hf:∀p∈fz,s.heap.get? p.1=some p.2)(x:IT P fz s.heap I rest)
  (kN:rest=[]->∀h',Heap.ExtBut I s.heap h'->Q none { s with heap:=h' })
  (kS:∀v r w h' tk,rest=v::r->VR P fz v w->IT P fz h' I r->Heap.ExtBut I s.heap h'->Q (some w) { s with heap:=h',toks:=tk }) :
  wpAny (model P0 G.w) A (pyNext (.ref I)) Q E s:=by
 cases x with
 |lst l o ws n vs i a b c d e =>
  have hl:=Zaz (hf _ a) b;cases rest with
  |nil=>exact wpAny_pyNext_list_end hh d hl (by simp;rw[c.length];exact drop_nil e) (λh' k=>kN rfl h' k)
  |cons v r =>
   have q:=Zdf e;exact(c.get q.1).elim λw h=>wpAny_pyNext_list_item d hl (x:=w) (by simpa using h.1) λh' d' k=>kS v r w h' s.toks rfl h.2 (.lst l o ws n vs (i+1) a b c d' q.2) k.extBut
 |tup l o ws n vs i a b c d e =>
  have hl:=ZbT (hf _ a) b;cases rest with
  |nil=>exact next_tuple_end hh d hl (by simp;rw[c.length];exact drop_nil e) (λh' k=>kN rfl h' k)
  |cons v r =>
   have q:=Zdf e;exact(c.get q.1).elim λw h=>next_tuple_item d hl (x:=w) (by simpa using h.1) λh' d' k=>kS v r w h' s.toks rfl h.2 (.tup l o ws n vs (i+1) a b c d' q.2) k.extBut
 |rng x left d e =>
  by_cases hp:0<left
  ·rw[ZeW hp] at e
   exact wpAny_pyNext_range_item d hp λh' d' k=>kS _ _ (.int x s.toks) h' (s.toks+1) e .int (.rng _ _ d' rfl) k.extBut
  ·rw[ZfL (by lia)] at e
   exact wpAny_pyNext_range_end hh d (by lia) λh' k=>kN e h' k
theorem iterM{E:Value->Shared->Prop}{Q:Value->Shared->Prop}{v:V}{w:Value}{items:List V}(hf:∀p∈fz,s.heap.get? p.1=some p.2)(hi:Items v items)(z:VR P fz v w)
  (k:∀o,IT P fz (s.heap.push o) s.heap.objs.size items->Q (.ref s.heap.objs.size) { s with heap:=s.heap.push o }):wpAny (model P0 G.w) A (pyIter w) Q E s:=by
 cases hi with
 |lst=>apply z.eL;exact λa o c ws m p q=>wpAny_pyIter_list (Zaz (hf _ m) p) (k _ (.lst _ _ _ _ _ 0 m p q ⟨_,Heap.get?_push_size _ rfl,rfl,rfl⟩ rfl))
 |tup=>apply z.eT;exact λa o c ws m p q=>iter_tuple (ZbT (hf _ m) p) (k _ (.tup _ _ _ _ _ 0 m p q ⟨_,Heap.get?_push_size _ rfl,rfl,rfl⟩ rfl))
 |rng ha hb =>
  apply z.eG;refine λa t1 t2 t3 m=>wpAny_pyIter_range (hf _ m) ?_ (k _ (.rng _ _ (Heap.get?_push_size _ rfl) ?_))
  ·have ha:=abL.mp ha
   have hb:=abL.mp hb;simp[Builtin.Range.small,Builtin.Range.rangeFitsLong,Builtin.Range.rangeSize]
   (repeat' apply And.intro)<;>(try split)<;>lia
  ·unfold ZaF
   congr 1
   congr 1
   simp[Builtin.Range.rangeSize];split
   ·rw[Int.add_comm,Int.add_sub_cancel]
   ·rw[Int.add_zero,Int.sub_self];exact Int.toNat_eq_zero.mpr (by lia)
end
end
section
section
variable{G:Gl}{X:Act}{n:Nat}{cel:List Nat}{S:Sg}{ws us:List Value}{s:Shared}{r:List V}{E:Value->Shared->Prop}{l l':List (Option V)}{μ:Led}{cz:Bool}{cx:Cx}{e:Env}{x:Str}{i:Nat}{v:V}
 {fz fz' mu mu' cs:Led0}{h h':Heap}
theorem Zds{es:List PySem.Expr}:∀{xs:List Str},Zcz es=some xs->(assignEach es e).length=xs.length/\(assignEach es e).findIdx? (·.1)=none:=by
 induction es with
 |nil=>intro U h;cases h;exact⟨rfl,rfl⟩
 |cons t es ih =>
  intro U h;cases t with
  |Name x p =>
   obtain⟨xs,k,rfl⟩:=Option.map_eq_some_iff.mp h;obtain⟨h1,h2⟩:=ih k;refine⟨congrArg (·+1) h1,?_⟩;show((false,assign (.Name x p) e)::assignEach es e).findIdx? (·.1)=none;rw[List.findIdx?_cons,h2];rfl
  |_=>exact no h rfl
theorem bindsM{Q:Unit->Shared->Prop}(O:AOK G X n)(EO:EnvOK G X cx e){es:List PySem.Expr}{xs:List Str}{is:List Nat}{vs:List V}{ws:List Value}{l:List (Option V)}{s:Shared}(h1:Zcz es=some xs)(h2:ZaC cx xs=some is)(h3:is.length=vs.length)(h4:ws.length=vs.length)
  (h5:∀i∈is,cx.lo<=i) (h6:cz=false\/∀i∈is,i∉cel) (M:Mod G X cel ⟨vs++r,l,μ,cz⟩ (ws++us) s) (K:∀s',Mod G X cel ⟨r,ZbJ is vs l,μ,cz⟩ us s'->Q () s') :
  wpAny (model P0 G.w) X.A (assignInOrder ((assignEach es e).map (·.2)) ws) Q E s:=by
 induction es generalizing xs is vs ws l s with
 |nil =>
  cases h1;cases h2;cases vs with
  |nil=>cases ws with
   |nil=>exact assignInOrder_nil (K s M)
   |cons _ _=>cases h4
  |cons _ _=>cases h3
 |cons t es ih =>
  cases t with
  |Name x p =>
   obtain⟨xs,k1,rfl⟩:=Option.map_eq_some_iff.mp h1;obtain⟨i,is',e1,e2,k2⟩:=bd2 h2;cases k2
   ·cases vs with
    |nil=>cases h3
    |cons v vs =>
     cases ws with
     |nil=>cases h4
     |cons w ws =>
      show wpAny _ _ (assignInOrder ((assign (.Name x p) e)::(assignEach es e).map (·.2)) (w::ws)) _ _ _;refine assignInOrder_cons (PyProof.Rows.assign_Name (ZcT O EO M e1 (h5 i (.head _)) (h6.imp id λq=>q i (.head _)) λs' M'=>?_));exact ih k1 e2 (Nat.succ.inj h3) (Nat.succ.inj h4) (λj hj=>h5 j (.tail _ hj)) (h6.imp id λq j hj=>q j (.tail _ hj)) M' K
  |_=>exact no h1 rfl
theorem bindM{t:PySem.Expr}{tg:Tg}{w:Value}{Q:Unit->Shared->Prop}(O:AOK G X n)(EO:EnvOK G X cx e)(ht:xTg cx t=some tg)(hb:BT tg v l l')(hlo:∀i∈tg.ixs,cx.lo<=i)(hcz:cz=false\/∀i∈tg.ixs,i∉cel)
  (M:Mod G X cel ⟨v::r,l,μ,cz⟩ (w::us) s) (K:∀s',Mod G X cel ⟨r,l',μ,cz⟩ us s'->Q () s'):wpAny (model P0 G.w) X.A (assign t e w) Q E s:=by
 revert hb hlo hcz
 refine xTg_E (P:=λt tg=>BT tg v l l'->(∀i∈tg.ixs,cx.lo<=i)->(cz=false\/∀i∈tg.ixs,i∉cel)->wpAny (model P0 G.w) X.A (assign t e w) Q E s) ht (λx p i hi hb hlo hcz=>?_) λes k p xs is hx hs hb hlo hcz=>?_
 ·cases hb
  exact PyProof.Rows.assign_Name (ZcT O EO M hi (hlo i (.head _)) (hcz.imp id λq=>q i (.head _)) K)
 ·cases hb with|t hl hr =>
  obtain⟨fz,mu,cs,I,RL,Z,SL,o1,o2⟩:=M;obtain⟨U,U,c,wt,rfl,m,p,q⟩:=Z.head.inv;obtain⟨h1,h2⟩:=Zds (e:=e) hx;refine assign_Tuple_tuple O.hh (ZbT (I.fzh _ m) p) (by rw[h1,size_toArray,q.length,<- hl];exact(Zcu hs).symm) h2 λh' k=>?_
  have k':∀b o,s.heap.get? b=some o->h'.get? b=some o:=λb o e=>k b o (Nat.ne_of_lt (Heap.lt_size e)) e
  exact bindsM O EO hx hs hl q.length hlo hcz (mk0 (s':={ s with heap:=h' }) O I RL SL o1 o2 (.of k') rfl rfl (q.append Z.tail)) K
noncomputable def Act.re(X:Act)(m fz:Led0)(h:Heap)(ex:List Addr):Act:={ X with h₀:=hideAll h (ex++X.dyn m),fz0:=fz }
theorem re_get{m:Led0}{b:Addr}{o:Obj}{ex:List Addr}(e:h.get? b=some o)(hx:b∉ex)(hb:b∉X.dyn m):(X.re m fz h ex).h₀.get? b=some o:=hideAll_get _ e λq=>(mem_append.mp q).elim hx hb
theorem Zfi{m:Led0}{ex:List Addr}(I:Inv G X fz m h)(hx:∀a∈ex,X.h₀.get? a=none):X.h₀.StaysIn (X.re m fz h ex).h₀:=λb o e=>re_get (I.st _ _ e) (λq=>by rw[hx b q] at e;cases e) λq=>by rw[I.dyn b q] at e;cases e
theorem Zc6{m:Led0}{ex:List Addr}{b:Addr}(I:Inv G X fz m h)(hx:∀a∈ex,X.h₀.get? a=none)(e:(X.re m fz h ex).h₀.get? b=none):X.h₀.get? b=none:=by
 cases q:X.h₀.get? b with
 |none=>rfl
 |some o=>rw[Zfi I hx _ _ q] at e;cases e
theorem AOK.re{m:Led0}{ex:List Addr}(O:AOK G X n)(I:Inv G X fz m h)(hx:∀a∈ex,X.h₀.get? a=none):AOK G (X.re m fz h ex) n :=
 ⟨O.hA,O.hh,O.dep,O.un,O.nb,O.hf,O.hk,O.own,O.fro,λb o e=>Zfi I hx _ _ (O.st _ _ e),O.abv⟩
theorem Inv.reIn{m:Led0}{ex:List Addr}(I:Inv G X fz m h):Inv G (X.re m fz h ex) fz m h :=
 ⟨λb o e=>of_hideAll _ e,λa ha=>hideAll_none _ (mem_append_right _ ha),I.nd,I.ents,I.fzh,I.fzd,λp hp=>.inl hp,λp hp=>hp,I.own,I.fro,I.tab,I.fxn⟩
theorem Inv.reOut{m m':Led0}{ex:List Addr}(I:Inv G X fz m h)(hx:∀a∈ex,X.h₀.get? a=none)(J:Inv G (X.re m fz h ex) fz' m' h'):Inv G X fz' m' h' :=
 ⟨λb o e=>J.st _ _ (Zfi I hx _ _ e),λa ha=>Zc6 I hx (J.dyn a ha),J.nd,J.ents,J.fzh,J.fzd,λp hp=>(J.fzf p hp).elim (I.fzf p) λq=>.inr (Zc6 I hx q),λp hp=>J.fz0 p (I.fz0 p hp),J.own,J.fro,J.tab,J.fxn⟩
theorem SR.reOut{m:Led0}{ex:List Addr}(R:SR G (X.re m fz h ex) cel fz' cs h' l cz):SR G X cel fz' cs h' l cz:=⟨R.sl,R.cl,R.cf,R.ow,R.nd,R.fc⟩
theorem SR.reIn{m:Led0}{ex:List Addr}(R:SR G X cel fz' cs h' l cz):SR G (X.re m fz h ex) cel fz' cs h' l cz:=⟨R.sl,R.cl,R.cf,R.ow,R.nd,R.fc⟩
theorem EnvOK.re{m:Led0}{ex:List Addr}(EO:EnvOK G X cx e):EnvOK G (X.re m fz h ex) cx e:=⟨EO.sc,EO.kf,EO.gl,EO.bu,EO.nx,EO.var,EO.glob,EO.mt⟩
theorem Exc.reOut{m:Led0}{ex:List Addr}{Ex:Addr->Prop}{y:Value}(I:Inv G X fz m h)(hx:∀a∈ex,X.h₀.get? a=none)(T:Exc G (X.re m fz h ex) Ex y s):Exc G X Ex y s:=by
 obtain⟨a,C,fz',rfl,hE,J,T,o1,o2⟩:=T;refine⟨a,C,fz',rfl,hE,I.reOut hx J,?_,o1,o2⟩;rcases T with⟨B,a0,b1,b2,b3,b4⟩|⟨oe,vs,a0,c1,c2,c3,c4,c5,c6,c7,c8⟩|⟨B,a0,b1,b2,b3,b4⟩
 ·exact .inl ⟨B,a0,λb o q=>b1 _ _ (Zfi I hx _ _ q),b2,b3,b4⟩
 ·exact .inr (.inl ⟨oe,vs,a0,c1,c2,c3,c4,c5,Zc6 I hx c6,c7,c8⟩)
 ·exact .inr (.inr ⟨B,a0,λb o q=>b1 _ _ (Zfi I hx _ _ q),b2,b3,b4⟩)
theorem noEx{X:Act}:∀a∈([]:List Addr),X.h₀.get? a=none:=λU q=>nomatch q
structure Pin(X:Act)(m fz:Led0)(h:Heap)(a:Addr):Prop where
 dyn:a∉X.dyn m
 fz:a∉keys fz
 h0:X.h₀.get? a=none
theorem Pin.fresh{m:Led0}(I:Inv G X fz m h){a:Addr}(e:h.get? a=none):Pin X m fz h' a :=
 ⟨I.out e,(λq=>by obtain⟨p,hp,ep⟩:=mem_map.mp q;rw[<- ep,I.fzh p hp] at e;cases e),I.none0 e⟩
theorem Inv.off{m:Led0}{a:Addr}(I:Inv G X fz m h)(p:Pin X m fz h a)(k:Heap.ExtBut a h h'):Inv G X fz m h':=by
 have nd:∀{b},b∈X.dyn m->b≠a:=λhb q=>p.dyn (q▸hb)
 refine⟨λb o e=>k b o (λq=>?_) (I.st b o e),I.dyn,I.nd,λq hq=>k _ _ (nd (mem_append_left _ (mem_map_of_mem hq))) (I.ents q hq),λq hq=>k _ _ (λz=>p.fz (z▸mem_map_of_mem hq)) (I.fzh q hq),I.fzd,I.fzf,I.fz0,λb hb=>?_,λq hq=>?_,λP hP=>?_,λq hq=>⟨(I.fxn q hq).1,(I.fxn q hq).2.extBut k (nd (mem_append_right _ (mem_append_left _ (I.fxn q hq).1)))⟩⟩
 ·rw[q,p.h0] at e;cases e
 ·obtain⟨m',e⟩:=I.own b hb
  exact⟨m',e.extBut k (nd (mem_append_right _ (mem_append_left _ hb)))⟩
 ·obtain⟨sl,e⟩:=I.fro q hq
  exact⟨sl,k _ _ (nd (mem_append_right _ (mem_append_right _ (mem_append_right _ (mem_map_of_mem hq))))) e⟩
 ·have t:=I.tab P hP
  obtain⟨ps,e,U⟩:=id t;exact t.mono (by rw[k _ _ (nd (mem_append_right _ (mem_append_right _ (mem_append_left _ hP)))) e,e]) λU x=>x
theorem SR.off{m:Led0}{a:Addr}(R:SR G X cel fz cs h l cz)(p:Pin X m fz h a)(k:Heap.ExtBut a h h'):SR G X cel fz cs h' l cz where
 sl:=λi v e=>by
  obtain⟨st,w,h1,h2,h3⟩:=R.sl i v e;refine⟨st,w,h1,?_,h3⟩;cases st with
  |cell c=>exact h2
  |ns b x =>
   obtain⟨m',q1,q2⟩:=h2;exact⟨m',q1.extBut k λq=>p.dyn (q▸mem_append_right _ (mem_append_left _ (R.ow _ _ _ h1))),q2⟩
 cl:=R.cl
 cf:=R.cf
 ow:=R.ow
 nd:=R.nd
 fc:=R.fc
theorem Pin.reOut{m m':Led0}{a:Addr}{o:Obj}{ex:List Addr}(p:Pin X m fz h a)(e:h.get? a=some o)(hx:a∉ex)(J:Inv G (X.re m fz h ex) fz' m' h'):Pin X m' fz' h' a/\h'.get? a=some o:=by
 have e0:=re_get (fz:=fz) e hx p.dyn;refine⟨⟨λq=>?_,λq=>?_,p.h0⟩,J.st _ _ e0⟩
 ·cases (J.dyn a q).symm.trans e0
 ·obtain⟨z,hz,ez⟩:=mem_map.mp q
  rcases J.fzf z hz with hq|hq
  ·exact p.fz (ez▸mem_map_of_mem hq)
  ·rw[ez] at hq;cases hq.symm.trans e0
theorem letGoM{t:PySem.Expr}{a:Addr}{w:Value}{A:Around}{o:Obj}{Q:Unit->Shared->Prop}(ho:s.heap.get? a=some o)(hi:isIt o)(k:Q () s):wpAny (model P0 G.w) A (letOwnedTupleGo t (.ref a) w) Q E s:=by
 obtain⟨⟨vs,hd⟩,hc⟩:=hi;have one:wpAny (model P0 G.w) A (letOwnedTupleGo (.Tuple [] 0 ⟨0,0,0,0⟩) (.ref a) w) Q E s:=by
  cases w<;>first
   |exact wpAny_pure k
   |exact wpAny_bind (wpAny_load ho (by rcases hc with hc|hc|hc<;>rw[hc,hd]<;>exact wpAny_pure k))
 cases t<;>first|exact one|exact wpAny_pure k
end
end
section
inductive RetX(G:Gl)(X:Act)(rt:V->Led->Prop)(v:Value)(s':Shared):Prop
 |mk (v':V) (μ':Led) (fz:Led0) (mu:Led0) (_:Inv G X fz mu s'.heap) (_:LR G.w.params fz μ' mu) (_:VR G.w.params fz v' v) (_:rt v' μ') (_:s'.os=G.os) (_:s'.gens=#[])
def OutS(G:Gl)(X:Act)(cel:List Nat)(Q:Post)(fl:Flow)(s':Shared):Prop:=match fl with
 |.next=>MR G X cel Q.nx [] s'
 |.ret v=>RetX G X Q.rt v s'
 |_=>False
section
variable{G:Gl}{X:Act}{n:Nat}{cel:List Nat}{S:Sg}{ws us:List Value}{s:Shared}{r:List V}{E:Value->Shared->Prop}{l l':List (Option V)}{μ:Led}{cz:Bool}{cx:Cx}{e:Env}{x:Str}{i:Nat}{v:V}
 {fz fz' mu mu' cs:Led0}{h h':Heap}{CK:CKT}
theorem RetX.reOut{m:Led0}{rt:V->Led->Prop}{w:Value}(I:Inv G X fz m h)(T:RetX G (X.re m fz h []) rt w s):RetX G X rt w s:=by
 obtain⟨v',μ',fz',mu',J,r1,r2,r3,r4,r5⟩:=T;exact⟨v',μ',fz',mu',I.reOut noEx J,r1,r2,r3,r4,r5⟩
inductive ForI(G:Gl)(X:Act)(cel:List Nat)(InvW:List V->List (Option V)->Led->Prop)(cz:Bool)(a:Addr)(k:Nat)(s':Shared):Prop
 |mk (rest:List V) (l1:List (Option V)) (μ1:Led) (fz mu cs:Led0) (_:k=rest.length+1) (_:InvW rest l1 μ1) (_:Inv G X fz (mu++cs) s'.heap) (_:LR G.w.params fz μ1 mu) (_:SR G X cel fz cs s'.heap l1 cz)
  (_:IT G.w.params fz s'.heap a rest) (_:Pin X (mu++cs) fz s'.heap a) (_:s'.os=G.os) (_:s'.gens=#[])
theorem forM{t:PySem.Expr}{tg:Tg}{b:List Stmt}{code:List IX}{it:V}{items:List V}{w:Value}{Q:Post}{K:Sg->Prop}{InvW:List V->List (Option V)->Led->Prop}(O:AOK G X n)(EO:EnvOK G X cx X.env)
  (M:Mod G X cel ⟨[it],l,μ,cz⟩ [w] s) (hi:Items it items) (htg:xTg cx t=some tg) (hlo:cx.lo=0) (hcz:cz=false\/∀i∈tg.ixs,i∉cel) (h0:InvW items l μ)
  (hstep:∀v rest l μ l',InvW (v::rest) l μ->BT tg v l l'->Wr CK cel code ⟨[],l',μ,cz⟩ { Q with nx:=λS0=>∃S'',St S0 S''/\S''.stk=[]/\S''.cz=cz/\InvW rest S''.l S''.μ })
  (hbt:∀v rest l1 μ,InvW (v::rest) l1 μ->∃l',BT tg v l1 l') (hend:∀l1 μ,InvW [] l1 μ->K ⟨[],l1,μ,cz⟩)
  (body:∀X',AOK G X' n->EnvOK G X' cx X'.env->X'.A=X.A->X'.env=X.env->∀S Q s,S.stk=[]->Wr CK cel code S Q->Mod G X' cel S [] s->wpAny (model P0 G.w) X'.A (execs b X'.env) (OutS G X' cel Q) (Exc G X' Q.ex) s) :
  wpAny (model P0 G.w) X.A (pyIter w) (λitv s₂=>codeAny (model P0 G.w) X.A (.forLoop t itv b [] X.env) (λr s'=>match r with|.ok f=>OutS G X cel { Q with nx:=K } f s'|.error e=>cameBackBy (model P0 G.w) X.A X.env (Exc G X Q.ex) e s') s₂) (Exc G X Q.ex) s:=by
 refine hide λPP1 hPP1=>?_
 obtain⟨fz,mu,cs,I,RL,Z,SL,o1,o2⟩:=M;refine hPP1 ?_;have z:=Z.head;refine iterM I.fzh hi z λo T=>?_
 have hfresh:=ZaM s.heap;refine codeAny_forLoop_any (ForI G X cel InvW cz s.heap.objs.size) ?_ (items.length+1)
  ⟨items,l,μ,fz,mu,cs,rfl,h0,I.ext Zam,RL,SL.mono Zam λy q=>q,T,Pin.fresh I hfresh,o1,o2⟩
 clear T h0 o1 o2 SL RL I z Z;rintro k s₁ ⟨rest,l1,μ1,fz,mu,cs,rfl,hI,I,RL,SL,T,p,o1,o2⟩;refine nextM O.hh I.fzh T (λe h' k=>?_) λv r w h' tk e zv T' k=>?_
 ·subst e
  exact wpAny_execs_nil ⟨_,⟨fz,mu,cs,I.off p k,RL,.nil,SL.off p k,o1,o2⟩,hend _ _ hI⟩
 ·subst e
  have I':=I.off p k;have SL':=SL.off p k;have p':Pin X (mu++cs) fz h' s.heap.objs.size:=⟨p.dyn,p.fz,p.h0⟩;obtain⟨ob,hob,hib⟩:=T'.obj;refine letGoM (s:={ s₁ with heap:=h',toks:=tk }) hob hib ?_;obtain⟨l2,hbt2⟩:=hbt _ _ _ _ hI;have M1:Mod G (X.re (mu++cs) fz h' []) cel ⟨[v],l1,μ1,cz⟩ [w] { s₁ with heap:=h',toks:=tk } :=
   ⟨fz,mu,cs,I'.reIn,RL,.cons zv .nil,SL'.reIn,o1,o2⟩
  refine bindM (X:=X.re (mu++cs) fz h' []) (O.re I' noEx) EO.re htg hbt2 (by rw[hlo];exact λy y=>Nat.zero_le _) hcz M1 λs₂ M2=>?_
  refine wpAny_mono (body (X.re (mu++cs) fz h' []) (O.re I' noEx) EO.re rfl rfl _ _ _ rfl (hstep _ _ _ _ _ hI hbt2) M2) (λf s₃ hf=>?_) (λx s₃ hx=>ownX O (hx.reOut I' noEx));cases f with
  |next =>
   refine hide λPP2 hPP2=>?_
   obtain⟨S0,M0,S',st,q1,q2,q3⟩:=hf;obtain⟨fz',mu',cs',J,RL',Z',SL3,o3,o4⟩:=M0.st st;obtain⟨p3,e3⟩:=p'.reOut hob List.not_mem_nil J;refine hPP2 ?_;refine⟨r.length+1,by simp,r,S'.l,S'.μ,fz',mu',cs',rfl,q3,I'.reOut noEx J,RL',q2▸SL3.reOut,T'.mono (λo2 ho2=>?_) J.fz0,p3,o3,o4⟩;rw[hob] at ho2;cases ho2;exact e3
  |ret v=>exact hf.reOut I'
  |brk=>exact hf.elim
  |cont=>exact hf.elim
end
end
section
section
variable{prog:Program}{w:World}{A:Around}{E:Value->Shared->Prop}{R:Result->Shared->Prop}{s:Shared}
noncomputable abbrev tests(ifs:List PySem.Expr)(env:Env):Sem Bool:=forIn ifs true λc r=>if r=true then do let ok <- isTrue c env (eval c env);pure (ForInStep.yield ok) else pure (ForInStep.yield r)
theorem Zf3{elt:PySem.Expr}{gens:List Comprehension}{scope:Scope}{pos:Pos}{it acc:Value}{env:Env}{d:Nat}{t iter:PySem.Expr}{ifs:List PySem.Expr}(hg:gens[d]?=some ⟨t,iter,ifs,0⟩)(I:Nat->Shared->Prop)
  (hfs:∀g',gens[d+1]?=some g'->g'.is_async=0/\∀x,foldedSetIterable g'.iter env x=pure x)
  (turn:∀n s,I n s->wpAny (model prog w) A (pyNext it) (λr s₁=>match r with
   |none=>R (.ok .next) s₁
   |some v=>wpAny (model prog w) A (letOwnedTupleGo t it v) (λz s₁'=>wpAny (model prog w) A (assign t env v) (λz s₂ =>
     wpAny (model prog w) A (tests ifs env) (λok s₃ =>
      if ok=true then(match gens[d+1]? with
       |some g'=>wpAny (model prog w) A (eval g'.iter env) (λx s₄=>wpAny (model prog w) A (pyIter x) (λit' s₅ =>
         codeAny (model prog w) A (.compStart (.ListComp elt gens scope pos) (d+1) it' acc env) (λr s'=>match r with|.ok _=>∃m,m<n/\I m s'|.error _=>False) s₅) (λz z=>False) s₄) (λz z=>False) s₃
       |none=>wpAny (model prog w) A (eval elt env) (λx s₄=>wpAny (model prog w) A (call (.builtin "list.append") [acc,x]) (λz s₅=>∃m,m<n/\I m s₅) (λz z=>False) s₄) (λz z=>False) s₃)
      else ∃m,m<n/\I m s₃) (λz z=>False) s₂) (λz z=>False) s₁') (λz z=>False) s₁) (λz z=>False) s)
  (n:Nat) (h:I n s):codeAny (model prog w) A (.compLoop (.ListComp elt gens scope pos) d it acc env) R s:=by
 have el:∀{α:Type}{m:Sem α}{Q:α->Shared->Prop}{E:Value->Shared->Prop}{s:Shared},wpAny (model prog w) A m Q (λz z=>False) s->wpAny (model prog w) A m Q E s:=λx=>wpAny_mono x (λz z q=>q) λz z q=>q.elim
 refine codeAny_loop rfl I (λn s hI=>?_) n h;show wpAny _ A ((compTurn (.ListComp elt gens scope pos) d it acc env).onRaise (λx=>do noteFrame x env;theTreesLotGoes x)) _ _ s;refine wpAny_noted ?_;unfold compTurn;dsimp only;refine hg.symm▸?_;dsimp only;simp only[bne_self_eq_false,Bool.false_eq_true,if_false];refine wpAny_bind (wpAny_standAt (wpAny_bind (wpAny_mono (el (turn n s hI)) (λr s₁ h₁=>?_) λz z h'=>h')));cases r with
 |none=>exact wpAny_pure h₁
 |some v =>
  refine wpAny_bind (wpAny_mono (el h₁) (λz s₁' h₁'=>?_) λz z h'=>h');refine wpAny_bind (wpAny_mono (el h₁') (λz s₂ h₂=>?_) λz z h'=>h');refine wpAny_bind (wpAny_mono (el h₂) (λok s₃ h₃=>?_) λz z h'=>h');cases ok with
  |false=>exact wpAny_pure ⟨rfl,h₃⟩
  |true =>
   rw[if_pos rfl] at h₃;rw[if_pos rfl];cases hd:gens[d+1]? with
   |none =>
    rw[hd] at h₃;dsimp only at h₃⊢;exact wpAny_bind (wpAny_bind (wpAny_mono (el h₃) (λx s₄ h₄=>wpAny_bind (wpAny_mono (el h₄) (λz s₅ h₅=>wpAny_pure (wpAny_pure ⟨rfl,h₅⟩)) λz z h'=>h')) λz z h'=>h'))
   |some g' =>
    replace h₃:=hd▸h₃
    obtain⟨hz,hx⟩:=hfs g' hd;dsimp only at h₃⊢;rw[hz];simp only[bne_self_eq_false,Bool.false_eq_true,if_false];refine wpAny_bind (wpAny_mono (el h₃) (λx s₄ h₄=>?_) λz z h'=>h');refine wpAny_bind (wpAny_standAt (wpAny_bind (wpAny_of_eq (hx x) (wpAny_bind (wpAny_holding (wpAny_mono (el h₄) (λit' s₅ h₅=>?_) λz z h'=>h'))))));refine wpAny_bind (wpAny_runOwn (codeAny_mono h₅ λr s₆ h₆=>?_));cases r with
    |ok f=>exact wpAny_pure ⟨rfl,h₆⟩
    |error x=>exact h₆.elim
theorem ZcV{elt:PySem.Expr}{gens:List Comprehension}{scope:Scope}{pos:Pos}{it acc:Value}{env:Env}{d:Nat}{t iter:PySem.Expr}{ifs:List PySem.Expr}(hg:gens[d]?=some ⟨t,iter,ifs,0⟩)
  (h0:codeAny (model prog w) A (.compLoop (.ListComp elt gens scope pos) d it acc env) R s)
  (h:wpAny (model prog w) A (pyIter it) (λit' s'=>codeAny (model prog w) A (.compLoop (.ListComp elt gens scope pos) d it' acc env) R s') (λz z=>False) s) :
  codeAny (model prog w) A (.compStart (.ListComp elt gens scope pos) d it acc env) R s:=by
 refine codeAny_of_tree ?_;show wpAny _ _ ((compStart (.ListComp elt gens scope pos) d it acc env).onRaise (λx=>do noteFrame x env;standAt theWindowsPlace)) _ _ s;refine wpAny_notedAt ?_;unfold compStart;have e:((clausesOf (.ListComp elt gens scope pos))[d]?).elim false (·.is_async != 0)=false:=by
  show(gens[d]?).elim false (·.is_async != 0)=false;rw[hg];rfl
 rw[e];show wpAny _ _ (ask >>= _) _ _ s;refine wpAny_bind (wpAny_askSetting (wpAny_ite ?_));split
 ·first
   |exact wpAny_bind (wpAny_pure (wpAny_pure (And.intro rfl h0)))
   |exact wpAny_pure (And.intro rfl h0)
 ·have e2:(clausesOf (.ListComp elt gens scope pos))[d]?=some ⟨t,iter,ifs,0⟩:=hg
  rw[e2];have h':wpAny (model prog w) (A.under (.compStart (.ListComp elt gens scope pos) d it acc env)) (pyIter it) (λit' s'=>codeAny (model prog w) A (.compLoop (.ListComp elt gens scope pos) d it' acc env) R s') (notedBy (model prog w) (A.under (.compStart (.ListComp elt gens scope pos) d it acc env)) env λx s'=>R (.error x) s') s:=wpAny_mono h (λz z q=>q) λz z q=>q.elim
  first
   |exact wpAny_bind (wpAny_rule (wpAny_bind (wpAny_standAt (wpAny_bind (wpAny_mono h' (λit' s' h'=>wpAny_pure (And.intro rfl h')) λz z x=>x)))))
   |(refine wpAny_bind (wpAny_rule ?_);show wpAny _ _ (standAt iter.pos >>= _) _ _ s;exact wpAny_bind (wpAny_standAt (wpAny_bind (wpAny_mono h' (λit' s' h'=>wpAny_pure (And.intro rfl h')) λz z x=>x))))
end
section
variable{P:Params}{fz:Led0}{I:Addr}{rest:List V}{A:Around}{s:Shared}{G:Gl}
theorem Zei{E:Value->Shared->Prop}{Q:Value->Shared->Prop}(x:IT P fz s.heap I rest)(k:Q (.ref I) s):wpAny (model P0 G.w) A (pyIter (.ref I)) Q E s:=by
 rcases x with⟨l,o,ws,n,vs,i,a,b,c,d,e⟩|⟨l,o,ws,n,vs,i,a,b,c,d,e⟩|⟨x,left,d,e⟩
 ·exact wpAny_pyIter_listiter d k
 ·refine wpAny_pyIter_slot d.typeIs PySem.F.slot_tuple_iterator_iter (wpAny_call_entry PySem.F.slot_tuple_iterator_iter d.typeIs PySem.F.entry_tuple_iterator_iter ?_ (PySem.F.args_tuple_iterator_iter_1 _))
  show wpAny _ _ (ret (.ref I)) _ _ s;exact wpAny_pure ⟨_,rfl,"tuple_iterator",_,d.typeIs,PySem.F.slot_tuple_iterator_next.lookup,k⟩
 ·exact wpAny_pyIter_rangeiter d k
end
end
section
inductive CSt(G:Gl)(X:Act)(cel:List Nat)(D:Addr)(acc:List V)(S:Sg)(ws:List Value)(s:Shared):Prop
 |mk (fz:Led0) (mu:Led0) (cs:Led0) (aws:List Value) (c:Nat) (_:Inv G X fz (mu++cs) s.heap) (_:LR G.w.params fz S.μ mu) (_:VRs G.w.params fz S.stk ws) (_:SR G X cel fz cs s.heap S.l S.cz) (_:Pin X (mu++cs) fz s.heap D) (_:s.heap.get? D=some (listOf (List.toArray aws) c)) (_:VRs G.w.params fz acc aws) (_:s.os=G.os) (_:s.gens=#[])
inductive CR(G:Gl)(X:Act)(cel:List Nat)(D:Addr)(acc:List V)(nx:Sg->Prop)(ws:List Value)(s:Shared):Prop
 |mk (S':Sg) (_:CSt G X cel D acc S' ws s) (_:nx S')
section
variable{G:Gl}{X:Act}{n:Nat}{cel:List Nat}{S:Sg}{ws us:List Value}{s:Shared}{r:List V}{l l':List (Option V)}{μ:Led}{cz:Bool}{cx:Cx}{env:Env}{v:V}{acc:List V}
 {fz fz' mu mu' cs:Led0}{h h':Heap}{CK:CKT}{D:Addr}
theorem CSt.use{α:Type}{m:Sem α}{f:α->List Value}{Q:α->Sg->Prop}(O:AOK G X n)(EO:EnvOK G X cx env)(C:CSt G X cel D acc S ws s)
  (k:∀X',AOK G X' n->EnvOK G X' cx env->X'.A=X.A->X'.env=X.env->Mod G X' cel S ws s->wpAny (model P0 G.w) X.A m (λw s'=>MR G X' cel (Q w) (f w) s') (λz z=>False) s) :
  wpAny (model P0 G.w) X.A m (λw s'=>CR G X cel D acc (Q w) (f w) s') (λz z=>False) s:=by
 obtain⟨fz,mu,cs,aws,c,I,RL,Z,SL,p,hD,za,o1,o2⟩:=C;refine wpAny_mono (k (X.re (mu++cs) fz s.heap []) (O.re I noEx) EO.re rfl rfl ⟨fz,mu,cs,I.reIn,RL,Z,SL.reIn,o1,o2⟩) (λw s' h=>?_) λz z q=>q
 obtain⟨S',⟨fz',mu',cs',J,RL',Z',SL',o3,o4⟩,hQ⟩:=h;obtain⟨p',e'⟩:=p.reOut hD List.not_mem_nil J;exact⟨S',⟨fz',mu',cs',aws,c,I.reOut noEx J,RL',Z',SL'.reOut,p',e',za.mono J.fz0,o3,o4⟩,hQ⟩
theorem CSt.push{w:Value}{Q:Value->Shared->Prop}(O:AOK G X n)(C:CSt G X cel D acc ⟨[v],l,μ,cz⟩ [w] s)(hb:acc.length<2^20)
  (k:∀s',CSt G X cel D (acc++[v]) ⟨[],l,μ,cz⟩ [] s'->Q .none s'):wpAny (model P0 G.w) X.A (call (.builtin "list.append") [.ref D,w]) Q (λz z=>False) s:=by
 obtain⟨fz,mu,cs,aws,c,I,RL,Z,SL,p,hD,za,o1,o2⟩:=C;cases Z with|cons zv Z =>
 have hl:=za.length;refine append_at (hsz:=by simp only[size_toArray];exact ZcU (by lia)) hD λh' hs hg=>k _ ?_
 have ee:aws.toArray.push w=(aws++[w]).toArray:=by simp
 rw[ee] at hg;exact⟨fz,mu,cs,aws++[w],c+1,I.off p hs.extBut,RL,.nil,SL.off p hs.extBut,⟨p.dyn,p.fz,p.h0⟩,hg,za.append (.cons zv .nil),o1,o2⟩
inductive CFin(G:Gl)(X:Act)(cel:List Nat)(D:Addr)(cz:Bool)(F:Led->List V->List (Option V)->Prop)(s':Shared):Prop
 |mk (μ':Led) (acc':List V) (l':List (Option V)) (_:F μ' acc' l') (_:CSt G X cel D acc' ⟨[],l',μ',cz⟩ [] s')
abbrev turnTail(G:Gl)(A:Around)(eC:PySem.Expr)(el:PySem.Expr)(env:Env)(D:Addr)(g? : Option Comprehension)(d:Nat)(Fin:Shared->Prop)(s₃:Shared):Prop :=
 match g? with
 |some g'=>wpAny (model P0 G.w) A (eval g'.iter env) (λx s₄=>wpAny (model P0 G.w) A (pyIter x) (λit' s₅ =>
   codeAny (model P0 G.w) A (.compStart eC (d+1) it' (.ref D) env) (λr s'=>match r with|.ok _=>Fin s'|.error _=>False) s₅) (λz z=>False) s₄) (λz z=>False) s₃
 |none=>wpAny (model P0 G.w) A (eval el env) (λx s₄=>wpAny (model P0 G.w) A (call (.builtin "list.append") [.ref D,x]) (λz s₅=>Fin s₅) (λz z=>False) s₄) (λz z=>False) s₃
theorem turnTail.mono{A:Around}{eC el:PySem.Expr}{g? : Option Comprehension}{d:Nat}{Fin Fin':Shared->Prop}(k:∀s,Fin s->Fin' s)(h:turnTail G A eC el env D g? d Fin s):turnTail G A eC el env D g? d Fin' s:=by
 unfold turnTail at h⊢;cases g? with
 |none=>exact wpAny_mono h (λx s₄ h=>wpAny_mono h (λz s₅ h=>k _ h) λz z q=>q) λz z q=>q
 |some g' =>
  refine wpAny_mono h (λx s₄ h=>wpAny_mono h (λit s₅ h=>codeAny_mono h λr s' h=>?_) λz z q=>q) λz z q=>q
  cases r with
  |ok _=>exact k _ h
  |error _=>exact h
inductive CIt(G:Gl)(X:Act)(cel:List Nat)(D Ia:Addr)(rest acc:List V)(l:List (Option V))(cz:Bool)(μ:Led)(s:Shared):Prop
 |mk (fz:Led0) (mu:Led0) (cs:Led0) (aws:List Value) (c:Nat) (_:Inv G X fz (mu++cs) s.heap) (_:LR G.w.params fz μ mu) (_:SR G X cel fz cs s.heap l cz) (_:Pin X (mu++cs) fz s.heap D) (_:s.heap.get? D=some (listOf (List.toArray aws) c)) (_:VRs G.w.params fz acc aws) (_:IT G.w.params fz s.heap Ia rest) (_:Pin X (mu++cs) fz s.heap Ia) (_:s.os=G.os) (_:s.gens=#[])
inductive LoopI(G:Gl)(X:Act)(cel:List Nat)(InvW:List V->List V->Led->List (Option V)->Prop)(cz:Bool)(D Ia:Addr)(k:Nat)(s':Shared):Prop
 |mk (rest acc:List V) (l:List (Option V)) (μ:Led) (_:k=rest.length+1) (_:InvW rest acc μ l) (_:CIt G X cel D Ia rest acc l cz μ s')
theorem loopM{elt:PySem.Expr}{gens:List Comprehension}{scope:Scope}{pos:Pos}{d:Nat}{t iter:PySem.Expr}{ifs:List PySem.Expr}{tg:Tg}{b:CB}{Ia:Addr}{items:List V}{F:Led->List V->List (Option V)->Prop}
  {InvW:List V->List V->Led->List (Option V)->Prop} (O:AOK G X n) (EO:EnvOK G X cx env) (hg:gens[d]?=some ⟨t,iter,ifs,0⟩) (hfs:∀g',gens[d+1]?=some g'->g'.is_async=0/\∀x,foldedSetIterable g'.iter env x=pure x)
  (htg:xTg cx t=some tg) (hlo:∀i∈tg.ixs,cx.lo<=i) (hcel:∀i∈cel,i<cx.lo)
  (C:CIt G X cel D Ia items acc l cz μ s) (h0:InvW items acc μ l)
  (hstep:∀v rest acc μ l,InvW (v::rest) acc μ l->(∃l',BT tg v l l')/\∀l',BT tg v l l'->acc.length<2^20/\WC CK cel b l' cz μ acc (λμ' acc' l''=>InvW rest acc' μ' l'')) (hend:∀acc μ l,InvW [] acc μ l->F μ acc l)
  (turn:∀X',AOK G X' n->EnvOK G X' cx env->X'.A=X.A->X'.env=X.env->∀l μ acc s F',acc.length<2^20->WC CK cel b l cz μ acc F'->CSt G X' cel D acc ⟨[],l,μ,cz⟩ [] s ->
   wpAny (model P0 G.w) X.A (tests ifs env) (λok s₃=>if ok=true then turnTail G X.A (.ListComp elt gens scope pos) elt env D gens[d+1]? d (CFin G X' cel D cz F') s₃ else CFin G X' cel D cz F' s₃) (λz z=>False) s) :
  codeAny (model P0 G.w) X.A (.compLoop (.ListComp elt gens scope pos) d (.ref Ia) (.ref D) env) (λr s'=>match r with|.ok _=>CFin G X cel D cz F s'|.error _=>False) s:=by
 refine Zf3 hg (LoopI G X cel InvW cz D Ia) hfs ?_ (items.length+1) ⟨items,acc,l,μ,rfl,h0,C⟩;clear h0 C;rintro k s₁ ⟨rest,acc,l,μ,rfl,hI,fz,mu,cs,aws,c,I,RL,SL,p,hD,za,T,pI,o1,o2⟩;obtain⟨ob0,hob0,⟨⟨vs0,hd0⟩,z⟩⟩:=T.obj;have hne:D≠Ia:=λq=>by rw[q,hob0] at hD;cases hD;cases hd0
 refine nextM O.hh I.fzh T (λe h' k=>?_) λv r w h' tk e zv T' k=>?_
 ·subst e
  exact⟨μ,acc,l,hend _ _ _ hI,fz,mu,cs,aws,c,I.off pI k,RL,.nil,SL.off pI k,⟨p.dyn,p.fz,p.h0⟩,k _ _ hne hD,za,o1,o2⟩
 ·subst e
  have I':=I.off pI k;have SL':=SL.off pI k;have p':Pin X (mu++cs) fz h' D:=⟨p.dyn,p.fz,p.h0⟩;have pI':Pin X (mu++cs) fz h' Ia:=⟨pI.dyn,pI.fz,pI.h0⟩;have hD':h'.get? D=some (listOf aws.toArray c):=k _ _ hne hD;obtain⟨ob,hob,hib⟩:=T'.obj;have hx:∀a∈[D],X.h₀.get? a=none:=λa ha=>by rw[mem_singleton.mp ha];exact p.h0
  refine letGoM (s:={ s₁ with heap:=h',toks:=tk }) hob hib ?_;obtain⟨⟨l2,hbt2⟩,hW⟩:=hstep _ _ _ _ _ hI;obtain⟨hlen,hW⟩:=hW l2 hbt2;have O':AOK G (X.re (mu++cs) fz h' [D]) n:=O.re I' hx;have C1:CSt G (X.re (mu++cs) fz h' [D]) cel D acc ⟨[v],l,μ,cz⟩ [w] { s₁ with heap:=h',toks:=tk } :=
   ⟨fz,mu,cs,aws,c,I'.reIn,RL,.cons zv .nil,SL'.reIn,⟨p'.dyn,p'.fz,hideAll_none _ (.head _)⟩,hD',za,o1,o2⟩
  refine wpAny_mono (CSt.use (X:=X.re (mu++cs) fz h' [D]) (C:=C1) (f:=λz=>[]) (Q:=λ(_:Unit) S'=>S'=⟨[],l2,μ,cz⟩) O' EO.re λX2 O2 EO2 eA eE M=>?_) (λz s₂ h2=>?_) λz z q=>q
  ·rw[<- eA]
   exact bindM O2 EO2 htg hbt2 hlo (.inr λi hi q=>Nat.lt_irrefl _ (Nat.lt_of_lt_of_le (hcel i q) (hlo i hi))) M λs' M'=>⟨_,M',rfl⟩
  ·obtain⟨z,C2,rfl⟩:=h2
   have back:∀s',CFin G (X.re (mu++cs) fz h' [D]) cel D cz (λμ' acc' l''=>InvW r acc' μ' l'') s'->∃m,m<(v::r).length+1/\LoopI G X cel InvW cz D Ia m s':=by
    rintro s' ⟨μ',acc',l',hF,fz',mu',cs',aws',c',J,RL',_,SL3,p3,hD3,za3,o3,o4⟩
    obtain⟨pI3,eI3⟩:=pI'.reOut hob (by simpa using Ne.symm hne) J;refine⟨r.length+1,by simp,r,acc',l',μ',rfl,hF,fz',mu',cs',aws',c',I'.reOut hx J,RL',SL3.reOut,⟨p3.dyn,p3.fz,p.h0⟩,hD3,za3,T'.mono (λo2 ho2=>?_) J.fz0,pI3,o3,o4⟩;rw[hob] at ho2;cases ho2;exact eI3
   refine wpAny_mono (turn _ O' EO.re rfl rfl l2 μ acc s₂ _ hlen hW C2) (λok s₃ h3=>?_) λz z q=>q
   cases ok with
   |false=>exact back _ h3
   |true =>
    rw[if_pos rfl] at h3⊢;exact h3.mono back
end
end
section
section
variable{M:Model}{A:Around}{E:Value->Shared->Prop}{s:Shared}{env:Env}
theorem newEnvM{sc:Scope}{gl:Addr}{cl:List (Str×Addr)}{q:Str}{Q:Env->Shared->Prop}
  (h:Q { scope:=sc,locals:=s.heap.objs.size,globals:=gl,cells:=cellsFrom (s.heap.objs.size+1) sc.names cl,qual:=q,func:=none,code:=env.code,frame:=env.frame,builtins:=env.builtins }
   { s with heap:=pushCells (s.heap.push { cls:=.type "dict",data:=.dict #[] }) sc.names }):wpAny M A (newFunctionEnv sc gl cl [] q none .none (some env)) Q E s:=by
 simp only[newFunctionEnv,Option.isSome_some,if_true];refine wpAny_bind (wpAny_alloc ?_);refine wpAny_bind (wpAny_layCells _ (λname kind cells=>by cases hkc:kind==NameKind.cell<;>simp[hkc]) _ _ _ _ ?_);rw[show({ s with heap:=s.heap.push { cls:=.type "dict",data:=.dict #[] } }:Shared).heap.objs.size=s.heap.objs.size+1 from Heap.size_push ..];simp only[List.forIn_nil];exact wpAny_bind (wpAny_pure (wpAny_pure h))
theorem Za4:∀(names:List (Str×NameKind)) (n:Nat) (acc cl:List (Str×Addr)),cellsFrom n names (acc++cl)=cellsFrom n names acc++cl
 |[],_,_,_=>rfl
 |(x,k)::r,n,acc,cl=>by
  unfold cellsFrom;split
  ·exact Za4 r (n+1) ((x,n)::acc) cl
  ·exact Za4 r n acc cl
theorem closM{sc:Scope}{cs:List Addr}:∀{names:List (Str×NameKind)}{acc cl:List (Str×Addr)},(∀p∈names,p.2=.free->∃c,env.cells.lookup p.1=some c) ->
  ∃cl,(forIn names acc λ(p:Str×NameKind) cs=>if(p.2==NameKind.free)=true then do let a <- cellOf env p.1;pure (ForInStep.yield ((p.1,a)::cs)) else pure (ForInStep.yield cs):Sem (List (Str×Addr)))=pure cl /\
   (∀x,(∀p∈names,p.1=x->p.2≠.free)->cl.lookup x=acc.lookup x)/\∀p∈names,p.2=.free->(names.map (·.1)).Nodup->cl.lookup p.1=env.cells.lookup p.1
 |[],acc,cl,_=>⟨acc,rfl,λz z=>rfl,λz hp=>nomatch hp⟩
 |(x,k)::r,acc,cl,h=>by
  by_cases hk:k=.free
  ·subst hk
   obtain⟨c,hc⟩:=h (x,.free) (.head _) rfl;obtain⟨cl',e,h1,h2⟩:=closM (sc:=sc) (cs:=cs) (names:=r) (acc:=(x,c)::acc) (cl:=cl) λp hp=>h p (.tail _ hp)
   refine⟨cl',?_,λy hy=>?_,λp hp hf nd=>?_⟩
   ·rw[List.forIn_cons]
    have e1:cellOf env x=pure c:=by unfold cellOf;rw[hc]
    simp only[beq_self_eq_true,if_true,e1,pure_bind];exact e
   ·rw[h1 y λp hp=>hy p (.tail _ hp),lookup_cons]
    have:(y==x)=false:=beq_eq_false_iff_ne.mpr λq=>hy (x,.free) (.head _) q.symm rfl
    rw[this]
   ·rw[map_cons] at nd
    obtain⟨n1,n2⟩:=nodup_cons.mp nd;rcases mem_cons.mp hp with rfl|hp
    ·rw[h1 x λp hp q=>absurd (mem_map.mpr ⟨p,hp,q⟩) n1,List.lookup_cons_self,hc]
    ·exact h2 p hp hf n2
  ·obtain⟨cl',e,h1,h2⟩:=closM (sc:=sc) (cs:=cs) (names:=r) (acc:=acc) (cl:=cl) λp hp=>h p (.tail _ hp)
   refine⟨cl',?_,λy hy=>h1 y λp hp=>hy p (.tail _ hp),λp hp hf nd=>?_⟩
   ·rw[List.forIn_cons]
    have:(k==NameKind.free)=false:=beq_eq_false_iff_ne.mpr hk;simp only[this,Bool.false_eq_true,if_false,pure_bind];exact e
   ·rw[map_cons] at nd
    rcases mem_cons.mp hp with rfl|hp
    ·exact absurd hf hk
    ·exact h2 p hp hf (nodup_cons.mp nd).2
theorem closureM{sc:Scope}(h:∀p∈sc.names,p.2=.free->∃c,env.cells.lookup p.1=some c)(nd:(sc.names.map (·.1)).Nodup) :
  ∃cl,closureFor sc env=pure cl/\(∀p∈sc.names,p.2=.free->cl.lookup p.1=env.cells.lookup p.1)/\∀x,(∀p∈sc.names,p.1=x->p.2≠.free)->cl.lookup x=none:=by
 obtain⟨cl,e,h1,h2⟩:=closM (env:=env) (sc:=sc) (cs:=[]) (acc:=[]) (cl:=[]) h;refine⟨cl,?_,λp hp hf=>h2 p hp hf nd,λx hx=>(h1 x hx).trans rfl⟩;unfold closureFor;have:(forIn sc.names [] λ(p:Str×NameKind) cs=>if(p.2==NameKind.free)=true then do let a <- cellOf env p.1;pure (ForInStep.yield ((p.1,a)::cs)) else pure (ForInStep.yield cs):Sem (List (Str×Addr))) =
   (forIn sc.names [] λ(p:Str×NameKind) cs=>match p with|(name,kind)=>if(kind==NameKind.free)=true then do let a <- cellOf env name;pure (ForInStep.yield ((name,a)::cs)) else pure (ForInStep.yield cs):Sem (List (Str×Addr))):=rfl
 rw[this] at e;first
  |exact(bind_pure _).trans e
  |exact e
  |(rw[e];rfl)
  |(simp only[e,pure_bind])
end
theorem ZdJ{h:Heap}:∀{L:List (Str×Addr)},(∀x c,(x,c)∈L->h.IsCell c none)->∃ncs:Led0,keys ncs=L.map (·.2)/\∀p∈ncs,h.get? p.1=some p.2/\p.2.data=.cell none
 |[],_=>⟨[],rfl,λz hp=>nomatch hp⟩
 |(x,c)::r,k=>by
  obtain⟨ncs,e,h1⟩:=ZdJ (L:=r) λx c hm=>k x c (.tail _ hm)
  obtain⟨o,ho,hd⟩:=k x c (.head _);exact⟨(c,o)::ncs,by rw[map_cons,<- e];rfl,forall_mem_cons.mpr ⟨⟨ho,hd⟩,h1⟩⟩
theorem Zfr{h:Heap}:∀{l:List Addr},(∀a∈l,∃m,h.Ns a m)->∃fx:List (Addr×(Str->Option Value)),fx.map (·.1)=l/\∀p∈fx,h.Ns p.1 p.2
 |[],_=>⟨[],rfl,λz hp=>nomatch hp⟩
 |a::r,k=>by
  obtain⟨fx,e,h1⟩:=Zfr (l:=r) λb hb=>k b (.tail _ hb)
  obtain⟨m,hm⟩:=k a (.head _);exact⟨(a,m)::fx,by rw[map_cons,e],forall_mem_cons.mpr ⟨hm,h1⟩⟩
end
theorem Zcg:∀{o:List Str}{n:Nat}{x:Str}{i:Nat},(zipN o n).lookup x=some i->∃j:Nat,o[j]?=some x/\i=n+j
 |[],_,_,_,h=>by simp[zipN] at h
 |y::r,n,x,i,h=>by
  unfold zipN at h;rw[lookup_cons] at h;cases q:x==y with
  |true=>rw[q] at h;cases h;exact⟨0,by rw[beq_iff_eq.mp q];rfl,rfl⟩
  |false=>rw[q] at h;obtain⟨j,h1,h2⟩:=Zcg h;exact⟨j+1,h1,by lia⟩
theorem ZbS{β:Type}{x:Str}:∀{a b:List (Str×β)},(a++b).lookup x=(a.lookup x).or (b.lookup x)
 |[],b=>rfl
 |(y,v)::a,b=>by
  rw[cons_append,lookup_cons,lookup_cons];cases x==y
  ·exact ZbS
  ·rfl
theorem ZfR{cx:Cx}{x:Str}{i:Nat}:∀{l:List Str},((l.filterMap λx=>(cx.vars.lookup x).map λi=>(x,i))).lookup x=some i->x∈l/\cx.vars.lookup x=some i
 |[],h=>by simp at h
 |y::r,h=>by
  rw[List.filterMap_cons] at h;cases q:cx.vars.lookup y with
  |none =>
   rw[q] at h;obtain⟨h1,h2⟩:=ZfR (l:=r) h;exact⟨.tail _ h1,h2⟩
  |some j =>
   rw[q] at h;simp only[Option.map_some] at h;rw[lookup_cons] at h;cases z:x==y with
   |true=>rw[z] at h;cases h;rw[beq_iff_eq.mp z];exact⟨.head _,q⟩
   |false=>rw[z] at h;obtain⟨h1,h2⟩:=ZfR (l:=r) h;exact⟨.tail _ h1,h2⟩
theorem ZeM{sc out:Scope}{x:Str}:(relab sc out).names.lookup x=(sc.names.lookup x).map λk=>if(k==.free&&out.kind==.function&&out.names.lookup x==some .cell) then .cell else k:=by
 show(sc.names.map _).lookup x=_;generalize sc.names=l;induction l with
 |nil=>rfl
 |cons p r ih =>
  obtain⟨y,k⟩:=p;have e1:(if(k==NameKind.free&&out.kind==.function&&out.names.lookup y==some .cell)=true then(y,NameKind.cell) else(y,k))=(y,if(k==NameKind.free&&out.kind==.function&&out.names.lookup y==some .cell)=true then NameKind.cell else k):=by
   split<;>rfl
  rw[map_cons];show((if(k==NameKind.free&&out.kind==.function&&out.names.lookup y==some .cell)=true then(y,NameKind.cell) else(y,k))::_).lookup x=_;rw[e1,lookup_cons,lookup_cons];by_cases z:x=y
  ·subst z
   simp
  ·have z':(x==y)=false:=beq_eq_false_iff_ne.mpr z
   rw[z'];exact ih
theorem ZeL{sc:Scope}{e:Env}{out:Scope}(h:e.scope=out):relabel sc e=relab sc out:=by
 delta relabel relab Env.kindOf;rw[h]
theorem Za6{l:List (Str×NameKind)}(nd:(l.map (·.1)).Nodup){x:Str}{k:NameKind}(h:(x,k)∈l):l.lookup x=some k:=by
 induction l with
 |nil=>cases h
 |cons p r ih =>
  obtain⟨y,j⟩:=p;rw[map_cons] at nd;obtain⟨n1,n2⟩:=nodup_cons.mp nd;rw[lookup_cons];refine mC h (λe=>?_) λh=>?_
  ·cases e;simp
  ·have:(x==y)=false:=beq_eq_false_iff_ne.mpr λq=>n1 (q▸mem_map.mpr ⟨(x,k),h,rfl⟩)
   rw[this];exact ih n2 h
theorem Zem{sc:Scope}{x:Str}(h:x∈own0 sc):∃k,(x,k)∈sc.names/\(k=.local\/k=.cell):=by
 delta own0 at h;obtain⟨p,hp,rfl⟩:=mem_map.mp h;obtain⟨h1,h2⟩:=mem_filter.mp hp;refine⟨p.2,h1,?_⟩;simp only[Bool.and_eq_true,Bool.or_eq_true,beq_iff_eq] at h2;exact h2.1
theorem Zfq{sc:Scope}(nd:(sc.names.map (·.1)).Nodup):(own0 sc).Nodup:=by
 delta own0;exact List.Nodup.sublist (List.Sublist.map _ List.filter_sublist) nd
theorem ZcB{sc:Scope}{x:Str}(h:x∈frees sc):(x,.free)∈sc.names:=by
 delta frees at h;obtain⟨p,hp,rfl⟩:=mem_map.mp (List.mem_reverse.mp h);obtain⟨h1,h2⟩:=mem_filter.mp hp;have:p.2=.free:=beq_iff_eq.mp h2;rw[<- this];exact h1
theorem Zdt{sc:Scope}{p:Str×NameKind}(h:p∈sc.names)(hk:p.2=.free):p.1∈frees sc:=by
 delta frees;exact List.mem_reverse.mpr (mem_map.mpr ⟨p,mem_filter.mpr ⟨h,by rw[hk];rfl⟩,rfl⟩)
def Zal(sc:Scope)(C:Addr)(cells:List (Str×Addr)):List Sto:=(own0 sc).map λx=>if sc.names.lookup x=some .cell then .cell ((cells.lookup x).getD 0) else .ns C x
structure InOk(cx:Cx)(sc:Scope):Prop where
 kf:sc.kind=.function
 nd:(sc.names.map (·.1)).Nodup
 fr:∀x∈frees sc,(cx.kd x=some .cell\/cx.kd x=some .free)/\(cx.vars.lookup x).isSome=true
 cd:∀p∈sc.names,p.1≠("__classdict__" : Str)
 co:sc.isCoroutine=false
 ge:sc.isGenerator=false
theorem ZfM{cx:Cx}{sc:Scope}(h:inOk cx sc=true):InOk cx sc:=by
 delta inOk at h;simp only[Bool.and_eq_true,beq_iff_eq,all_eq_true,decide_eq_true_eq,bne_iff_ne,ne_eq,Bool.or_eq_true] at h;obtain⟨⟨⟨⟨⟨h1,h2⟩,h3⟩,h4⟩,h5⟩,h6⟩:=h;exact⟨h1,h5,λx hx=>h6 x hx,h4,h2,h3⟩
theorem Zd2{cells:List (Str×Addr)}{h:Heap}{lo:Nat}{sc:Scope}(e:cells=cellsFrom (h.objs.size) sc.names [])(hl:lo<=h.objs.size):CellsOk (pushCells h sc.names) lo cells:=by
 rw[e];exact cellsFrom_ok sc.names h lo [] ⟨λJ J hm=>(nomatch hm),List.Pairwise.nil⟩ hl
section
set_option tactic.hygienic true in
theorem Zbk:∀(names:List (Str×NameKind)) (n:Nat) (acc:List (Str×Addr)) (x:Str),x∈(cellsFrom n names acc).map (·.1)->x∈acc.map (·.1)\/(x,NameKind.cell)∈names
 |[],_,_,_,h=>.inl h
 |(y,k)::r,n,acc,x,h=>by
  unfold cellsFrom at h;split at h
  ·rename_i hk
   rcases Zbk r _ _ x h with q|q
   ·rw[map_cons] at q
    refine mC q (λq=>?_) λq=>?_
    ·exact .inr (by rw[beq_iff_eq.mp hk,q];exact .head _)
    ·exact .inl q
   ·exact .inr (.tail _ q)
  ·exact(Zbk r _ _ x h).imp id (.tail _)
theorem bad1{a b c:Nat}(h1:c+1<=a)(h2:b<c)(q:a=b):False:=by lia
theorem bad2{a c:Nat}(h:a<c)(q:a=c):False:=by lia
theorem bad3{a c:Nat}(h:c+1<=a)(q:a=c):False:=by lia
noncomputable def Act.comp(X:Act)(C:Addr)(st:List Sto)(fx:List (Addr×(Str->Option Value)))(cs:Led0):Act:={ X with own:=X.own++[C],sto:=X.sto++st,fxn:=fx,fxc:=cs }
section
variable{G:Gl}{X:Act}{n:Nat}{cel:List Nat}{cx:Cx}{e:Env}{sc:Scope}{l:List (Option V)}{cz:Bool}{fz mu cs:Led0}{h:Heap}
theorem enterM{cl:List (Str×Addr)}(O:AOK G X n)(EO:EnvOK G X cx e)(K:InOk cx sc)(hcl1:∀p∈sc.names,p.2=.free->cl.lookup p.1=e.cells.lookup p.1)(hcl2:∀x,(∀p∈sc.names,p.1=x->p.2≠.free)->cl.lookup x=none)
  (I:Inv G X fz (mu++cs) h) (SL:SR G X cel fz cs h l cz) (hcel:∀i∈cel,i<cx.nx) :
  ∃fx ncs,fx.map (·.1)=X.own/\(∀p∈fx,h.Ns p.1 p.2)/\(∀a∈keys ncs,h.get? a=none) /\
   AOK G (X.comp h.objs.size (Zal sc h.objs.size (cellsFrom (h.objs.size+1) sc.names [])) fx cs) n /\
   EnvOK G (X.comp h.objs.size (Zal sc h.objs.size (cellsFrom (h.objs.size+1) sc.names [])) fx cs) (cx.into sc)
    { scope:=relabel sc e,locals:=h.objs.size,globals:=e.globals,cells:=cellsFrom (h.objs.size+1) sc.names cl,qual:=e.qual,func:=none,code:=e.code,frame:=e.frame,builtins:=e.builtins } /\
   Inv G (X.comp h.objs.size (Zal sc h.objs.size (cellsFrom (h.objs.size+1) sc.names [])) fx cs) fz (mu++(ncs++cs)) (pushCells (h.push { cls:=.type "dict",data:=.dict #[] }) sc.names) /\
   SR G (X.comp h.objs.size (Zal sc h.objs.size (cellsFrom (h.objs.size+1) sc.names [])) fx cs) cel fz (ncs++cs) (pushCells (h.push { cls:=.type "dict",data:=.dict #[] }) sc.names) l cz:=by
 generalize hC:h.objs.size=C;have hsz:(h.push { cls:=.type "dict",data:=.dict #[] }).objs.size=C+1:=by rw[Heap.size_push,hC]
 generalize hh3:pushCells (h.push { cls:=.type "dict",data:=.dict #[] }) sc.names=h3;generalize hnc:cellsFrom (C+1) sc.names []=nc;refine hide λP hP=>?_
 have ok:CellsOk h3 (C+1) nc:=by rw[<- hh3];exact Zd2 (by rw[hsz,hnc]) (by rw[hsz];exact Nat.le_refl _)
 have keep:∀b o,h.get? b=some o->h3.get? b=some o:=λb o q=>by rw[<- hh3];exact pushCells_keeps _ _ b o (Heap.get?_push_of_some _ q)
 have hNs:h3.Ns C λJ=>none:=by
  rw[<- hh3,<- hC];exact(Heap.Ns.new h (.type "dict")).keeps (pushCells_keeps _ _)
 have hlt:∀{b o},h.get? b=some o->b<C:=λq=>hC▸Heap.lt_size q
 have hnone:∀b,C<=b->h.get? b=none:=λb hb=>Heap.get?_none_of_le (hC▸hb)
 obtain⟨fx,hfx,hfn⟩:=Zfr I.own;obtain⟨ncs,hk,hncs⟩:=ZdJ (λx c hm=>(ok.empty x c hm).1);have nck:∀a∈keys ncs,C+1<=a:=λa ha=>by
  rw[hk] at ha;obtain⟨p,hp,rfl⟩:=mem_map.mp ha;exact(ok.empty p.1 p.2 hp).2
 have ncnd:(keys ncs).Nodup:=by
  rw[hk];exact List.pairwise_map.mpr ok.apart
 have oldlt:∀a∈X.dyn (mu++cs),a<C:=λa ha=>by
  obtain⟨o,ho⟩:=I.has ha;exact hlt ho
 obtain⟨r,er⟩:=O.own;have eD:X.dyn (mu++cs)=keys mu++(keys cs++(X.own++(tbs++keys X.fro))):=by simp[Act.dyn,Act.fx,keys]
 have nd0:=I.nd;rw[eD] at nd0 oldlt;have ownLook:∀x∈own0 sc,∃k,sc.names.lookup x=some k/\(k=.local\/k=.cell):=λx hx=>by
  obtain⟨k,hm,hk⟩:=Zem hx;exact⟨k,Za6 K.nd hm,hk⟩
 have ncLook:∀x,sc.names.lookup x=some .cell->∃c,nc.lookup x=some c/\(x,c)∈nc:=λx hx=>by
  have:=cellsFrom_some (x:=x) sc.names (C+1) [] (.inl hx);rw[hnc] at this;obtain⟨c,hc⟩:=Option.isSome_iff_exists.mp this;exact⟨c,hc,mem_of_lookup hc⟩
 have stoAt:∀(j:Nat) st,(Zal sc C nc)[j]?=some st->∃x,(own0 sc)[j]?=some x/\((sc.names.lookup x=some .local/\st=.ns C x)\/(sc.names.lookup x=some .cell/\∃c,st=.cell c/\nc.lookup x=some c/\(x,c)∈nc)):=λj st hj=>by
  unfold Zal at hj;rw[List.getElem?_map] at hj;obtain⟨x,hx,rfl⟩:=Option.map_eq_some_iff.mp hj;refine⟨x,hx,?_⟩;obtain⟨k,hk,hkk⟩:=ownLook x (List.mem_of_getElem? hx);rcases hkk with rfl|rfl
  ·rw[if_neg (by rw[hk];simp)];exact .inl ⟨hk,rfl⟩
  ·rw[if_pos hk]
   obtain⟨c,h1,h2⟩:=ncLook x hk;exact .inr ⟨hk,c,by rw[h1];rfl,h1,h2⟩
 have cmem:∀{x c},(x,c)∈nc->C+1<=c/\∃o,(c,o)∈ncs/\o.data=.cell none:=λ{x c} hm=>by
  refine⟨(ok.empty x c hm).2,?_⟩;have:c∈keys ncs:=by rw[hk];exact mem_map.mpr ⟨(x,c),hm,rfl⟩
  obtain⟨p,hp,e⟩:=mem_map.mp this;exact⟨p.2,by rw[<- e];exact hp,(hncs p hp).2⟩
 have eD':(X.comp C (Zal sc C nc) fx cs).dyn (mu++(ncs++cs))=keys mu++((keys ncs++keys cs)++((X.own++[C])++(tbs++keys X.fro))):=by simp[Act.dyn,Act.fx,Act.comp,keys]
 have split':∀a∈(X.comp C (Zal sc C nc) fx cs).dyn (mu++(ncs++cs)),a∈X.dyn (mu++cs)\/C<=a:=λa ha=>by
  rw[eD'] at ha;rw[eD];have h1:=nck a;simp only[mem_append,mem_singleton] at ha⊢;rcases ha with ha|(ha|ha)|(ha|ha)|ha|ha
  ·exact .inl (.inl ha)
  ·exact .inr (Nat.le_of_succ_le (h1 ha))
  ·exact .inl (.inr (.inl ha))
  ·exact .inl (.inr (.inr (.inl ha)))
  ·exact .inr (Nat.le_of_eq ha.symm)
  ·exact .inl (.inr (.inr (.inr (.inl ha))))
  ·exact .inl (.inr (.inr (.inr (.inr ha))))
 refine hP ⟨fx,ncs,hfx,hfn,λa ha=>hnone a (Nat.le_of_succ_le (nck a ha)),?_,?_,?_,?_⟩
 ·refine⟨O.hA,O.hh,O.dep,O.un,O.nb,O.hf,O.hk,⟨r++[C],by show X.own++[C]=_;rw[er];rfl⟩,O.fro,O.st,λa ha hb=>?_⟩
  have ha':a∈(X.own++[C])++(tbs++keys X.fro):=ha;rcases mem_append.mp ha' with ha|ha
  ·refine mA ha (λha=>?_) λha=>?_
   ·exact O.abv a (mem_append_left _ ha) hb
   ·rw[mem_singleton.mp ha]
    obtain⟨m,F⟩:=I.fr O;exact Nat.le_trans F.above (lw (hC▸F.ns.lt))
  ·exact O.abv a (mem_append_right _ ha) hb
 ·have sl0:cx.nx=X.sto.length:=EO.nx
  refine⟨?_,K.kf,EO.gl,EO.bu,?_,λx i hi=>?_,EO.glob,λi st hlo hst=>?_⟩
  ·exact ZeL EO.sc
  ·show cx.nx+(own0 sc).length=(X.sto++Zal sc C nc).length
   rw[length_append,sl0];simp[Zal]
  ·have hi':((zipN (own0 sc) cx.nx).lookup x).or (((frees sc).filterMap λx=>(cx.vars.lookup x).map λi=>(x,i)).lookup x)=some i:=by rw[<- ZbS];exact hi
   have kd':(cx.into sc).kd x=(sc.names.lookup x).map λk=>if(k==.free&&cx.sc.kind==.function&&cx.sc.names.lookup x==some .cell) then .cell else k:=ZeM
   cases hz:(zipN (own0 sc) cx.nx).lookup x with
   |some j =>
    rw[hz] at hi';simp only[Option.some_or] at hi';cases hi';obtain⟨j,hj,rfl⟩:=Zcg hz;have hst:(Zal sc C nc)[j]?=some (if sc.names.lookup x=some .cell then .cell ((nc.lookup x).getD 0) else .ns C x):=by unfold Zal;rw[List.getElem?_map,hj];rfl
    refine⟨_,by show(X.sto++Zal sc C nc)[cx.nx+j]?=_;rw[sl0,List.getElem?_append_right (Nat.le_add_right _ _),Nat.add_sub_cancel_left];exact hst,?_⟩;obtain⟨k,hk,hkk⟩:=ownLook x (List.mem_of_getElem? hj);rcases hkk with rfl|rfl
    ·rw[if_neg (by rw[hk];simp)]
     exact⟨rfl,rfl,by rw[kd',hk];rfl,Nat.le_add_right _ _⟩
    ·rw[if_pos hk]
     obtain⟨c,h1,J⟩:=ncLook x hk;refine⟨?_,.inl (by rw[kd',hk];rfl)⟩;show(cellsFrom (C+1) sc.names cl).lookup x=_;have:=Za4 sc.names (C+1) [] cl;rw[nil_append,hnc] at this;rw[this,ZbS,h1];rfl
   |none =>
    rw[hz] at hi';simp only[Option.none_or] at hi';obtain⟨hf,hv⟩:=ZfR hi';obtain⟨st,h1,h2⟩:=EO.var x i hv;have hm:=ZcB hf;have hk:=Za6 K.nd hm;obtain⟨hkd,J⟩:=K.fr x hf;have hlt:i<X.sto.length:=(List.getElem?_eq_some_iff.mp h1).1;refine⟨st,by show(X.sto++Zal sc C nc)[i]?=_;rw[List.getElem?_append_left hlt];exact h1,?_⟩;cases st with
    |ns a y =>
     rcases hkd with q|q<;>rw[h2.2.2.1] at q<;>cases q
    |cell c =>
     refine⟨?_,?_⟩
     ·show(cellsFrom (C+1) sc.names cl).lookup x=_
      have e1:=Za4 sc.names (C+1) [] cl;rw[nil_append,hnc] at e1;have e2:nc.lookup x=none:=by
       cases q:nc.lookup x with
       |none=>rfl
       |some c' =>
        have hmm:=mem_of_lookup q;rw[<- hnc] at hmm;have:x∈(cellsFrom (C+1) sc.names []).map (·.1):=mem_map.mpr ⟨_,hmm,rfl⟩;rcases Zbk sc.names (C+1) [] x this with z|z
        ·exact nomatch z
        ·rw[Za6 K.nd z] at hk;cases hk
      rw[e1,ZbS,e2,Option.none_or,hcl1 _ hm rfl];exact h2.1
     ·have hx:(x==("__classdict__" : Str))=false:=beq_eq_false_iff_ne.mpr (K.cd _ hm)
      by_cases q:cx.kd x=some .cell
      ·refine .inl ?_
       rw[kd',hk];unfold Cx.kd at q;simp[q,EO.kf]
      ·refine .inr ⟨?_,by show i<cx.nx;rw[sl0];exact hlt,hx⟩
       rw[kd',hk];unfold Cx.kd at q;simp only[Option.map_some,beq_self_eq_true,Bool.true_and];have:(cx.sc.names.lookup x==some NameKind.cell)=false:=beq_eq_false_iff_ne.mpr q;rw[this];simp
  ·have hst':(X.sto++Zal sc C nc)[i]?=some st:=hst
   rw[List.getElem?_append_right (by rw[<- sl0];exact hlo)] at hst';obtain⟨x,J,hh⟩:=stoAt _ _ hst';rcases hh with⟨J,rfl⟩|⟨J,c,rfl,J,hm⟩
   ·show C∉fx.map (·.1)
    rw[hfx];intro q;exact Nat.lt_irrefl _ (oldlt C (by simp only[mem_append];exact .inr (.inr (.inl q))))
   ·show c∉keys cs
    intro q;exact bad1 (cmem hm).1 (oldlt c (by simp only[mem_append];exact .inr (.inl q))) rfl
 ·refine⟨λb o q=>keep b o (I.st b o q),λa ha=>?_,?_,λp hp=>?_,λp hp=>keep _ _ (I.fzh p hp),λp hp ha=>?_,I.fzf,I.fz0,λa ha=>?_,λp hp=>?_,λP hP=>?_,λp hp=>?_⟩
  ·rcases split' a ha with ha|ha
   ·exact I.dyn a ha
   ·exact I.none0 (hnone a ha)
  ·rw[eD']
   have q1:=nodup_append.mp nd0;have q2:=nodup_append.mp q1.2.1;have q3:=nodup_append.mp q2.2.1;have lo:∀b,b∈keys mu\/b∈keys cs\/b∈X.own\/b∈tbs++keys X.fro->b<C:=λb hb=>oldlt b (by simp only[mem_append] at hb⊢;exact hb)
   refine nodup_append.mpr ⟨q1.1,nodup_append.mpr ⟨nodup_append.mpr ⟨ncnd,q2.1,?_⟩,nodup_append.mpr ⟨nodup_append.mpr ⟨q3.1,by simp,?_⟩,q3.2.1,?_⟩,?_⟩,?_⟩
   ·intro a ha b hb q
    exact bad1 (nck a ha) (lo b (.inr (.inl hb))) q
   ·intro a ha b hb q
    rw[mem_singleton.mp hb] at q;exact bad2 (lo a (.inr (.inr (.inl ha)))) q
   ·intro a ha b hb q
    refine mA ha (λha=>?_) λha=>?_
    ·exact q3.2.2 a ha b hb q
    ·rw[mem_singleton.mp ha] at q;exact bad2 (lo b (.inr (.inr (.inr hb)))) q.symm
   ·intro a ha b hb q
    refine mA ha (λha=>?_) λha=>?_
    ·have h1:=nck a ha
     refine mA hb (λhb=>?_) λhb=>?_
     ·refine mA hb (λhb=>?_) λhb=>?_
      ·exact bad1 h1 (lo b (.inr (.inr (.inl hb)))) q
      ·rw[mem_singleton.mp hb] at q;exact bad3 h1 q
     ·exact bad1 h1 (lo b (.inr (.inr (.inr hb)))) q
    ·refine mA hb (λhb=>?_) λhb=>?_
     ·refine mA hb (λhb=>?_) λhb=>?_
      ·exact q2.2.2 a ha b (mem_append_left _ hb) q
      ·rw[mem_singleton.mp hb] at q;exact bad2 (lo a (.inr (.inl ha))) q
     ·exact q2.2.2 a ha b (mem_append_right _ hb) q
   ·intro a ha b hb q
    have h1:=lo a (.inl ha);refine mA hb (λhb=>?_) λhb=>?_
    ·refine mA hb (λhb=>?_) λhb=>?_
     ·exact bad1 (nck b hb) h1 q.symm
     ·exact q1.2.2 a ha b (mem_append_left _ hb) q
    ·refine mA hb (λhb=>?_) λhb=>?_
     ·refine mA hb (λhb=>?_) λhb=>?_
      ·exact q1.2.2 a ha b (mem_append_right _ (mem_append_left _ hb)) q
      ·rw[mem_singleton.mp hb] at q;exact bad2 h1 q
     ·exact q1.2.2 a ha b (mem_append_right _ (mem_append_right _ hb)) q
  ·refine mA hp (λhp=>?_) λhp=>?_
   ·exact keep _ _ (I.ents p (mem_append_left _ hp))
   ·refine mA hp (λhp=>?_) λhp=>?_
    ·exact(hncs p hp).1
    ·exact keep _ _ (I.ents p (mem_append_right _ hp))
  ·rcases split' _ ha with ha|ha
   ·exact I.fzd p hp ha
   ·exact Nat.lt_irrefl _ (Nat.lt_of_lt_of_le (hlt (I.fzh p hp)) ha)
  ·refine mA (show a∈X.own++[C] from ha) (λha=>?_) λha=>?_
   ·obtain⟨m,e⟩:=I.own a ha;exact⟨m,e.keeps keep⟩
   ·rw[mem_singleton.mp ha];exact⟨_,hNs⟩
  ·obtain⟨sl,e⟩:=I.fro p hp;exact⟨sl,keep _ _ e⟩
  ·have t:=I.tab P hP
   obtain⟨ps,e,J⟩:=id t;exact t.mono (by rw[keep _ _ e,e]) λJ x=>x
  ·exact⟨mem_append_left _ (hfx▸mem_map_of_mem hp),(hfn p hp).keeps keep⟩
 ·have sl0:cx.nx=X.sto.length:=EO.nx
  have at':∀(i:Nat) st,(X.sto++Zal sc C nc)[i]?=some st->X.sto[i]?=some st\/(cx.nx<=i/\∃x,((sc.names.lookup x=some .local/\st=.ns C x)\/(sc.names.lookup x=some .cell/\∃c,st=.cell c/\nc.lookup x=some c/\(x,c)∈nc))):=λi st hi=>by
   by_cases q:i<X.sto.length
   ·rw[List.getElem?_append_left q] at hi;exact .inl hi
   ·rw[List.getElem?_append_right (by lia)] at hi
    obtain⟨x,J,hh⟩:=stoAt _ _ hi;exact .inr ⟨by lia,x,hh⟩
  refine⟨λi v hv=>?_,λi c hi hm=>?_,λi c hi hm=>?_,λi a x hi=>?_,?_,λp hp=>mem_append_right _ hp⟩
  ·obtain⟨st,w,h1,h2,h3⟩:=SL.sl i v hv
   refine⟨st,w,by show(X.sto++Zal sc C nc)[i]?=_;rw[List.getElem?_append_left (List.getElem?_eq_some_iff.mp h1).1];exact h1,h2.mono keep (λp hp=>?_),h3⟩;simp only[mem_append] at hp⊢;rcases hp with hp|hp
   ·exact .inl (.inr hp)
   ·exact .inr hp
  ·rcases at' i _ hi with hi|⟨_,x,hh⟩
   ·obtain⟨o,v0,h1,h2⟩:=SL.cl i c hi hm
    exact⟨o,v0,mem_append_right _ h1,h2⟩
   ·rcases hh with⟨J,q⟩|⟨J,c',q,J,hm⟩
    ·cases q
    ·cases q
     obtain⟨J,o,h1,h2⟩:=cmem hm;exact⟨o,none,mem_append_left _ h1,h2⟩
  ·rcases at' i _ hi with hi|⟨hge,_⟩
   ·exact SL.cf i c hi hm
   ·exact absurd (hcel i hm.2) (Nat.not_lt.mpr hge)
  ·rcases at' i _ hi with hi|⟨_,y,hh⟩
   ·exact mem_append_left _ (SL.ow i a x hi)
   ·rcases hh with⟨J,q⟩|⟨J,c',q,J⟩
    ·cases q;exact mem_append_right _ (.head _)
    ·cases q
  ·have oldC:∀c,Sto.cell c∈X.sto->c<C:=λc hc=>by
    obtain⟨i,hi⟩:=List.getElem?_of_mem hc;by_cases q:cz=false\/i∉cel
    ·obtain⟨o,v0,h1,J⟩:=SL.cl i c hi q
     exact hlt (I.ents _ (mem_append_right _ h1))
    ·obtain⟨o,v0,h1,J⟩:=SL.cf i c hi (by cases cz<;>simp_all)
     exact hlt (I.fzh _ h1)
   refine nodup_append.mpr ⟨SL.nd,?_,λst hs st' hs' q=>?_⟩
   ·unfold Zal
    refine List.pairwise_map.mpr (List.Pairwise.imp_of_mem (R:=λa b=>a≠b) ?_ (Zfq K.nd));intro x y hx hy hne q;obtain⟨k,hk,hkk⟩:=ownLook x hx;obtain⟨k',hk',hkk'⟩:=ownLook y hy;rcases hkk with rfl|rfl<;>rcases hkk' with rfl|rfl
    ·rw[if_neg (by rw[hk];simp),if_neg (by rw[hk'];simp)] at q;cases q;exact hne rfl
    ·rw[if_neg (by rw[hk];simp),if_pos hk'] at q;cases q
    ·rw[if_pos hk,if_neg (by rw[hk'];simp)] at q;cases q
    ·rw[if_pos hk,if_pos hk'] at q
     obtain⟨c,h1,m1⟩:=ncLook x hk;obtain⟨c',h1',m1'⟩:=ncLook y hk';rw[h1,h1'] at q;injection q with q;have q:c=c':=q;subst q;exact hne (name_of_addr ok.apart m1 m1')
   ·subst q
    obtain⟨j,hj⟩:=List.getElem?_of_mem hs';obtain⟨x,J,hh⟩:=stoAt _ _ hj;rcases hh with⟨J,rfl⟩|⟨J,c,rfl,J,hm⟩
    ·obtain⟨i,hi⟩:=List.getElem?_of_mem hs
     exact Nat.lt_irrefl _ (oldlt C (by simp only[mem_append];exact .inr (.inr (.inl (SL.ow i _ _ hi)))))
    ·exact bad1 (cmem hm).1 (oldC c hs) rfl
end
end
section
section
variable{G:Gl}{X:Act}{n:Nat}{cel:List Nat}{cx:Cx}{e:Env}{sc:Scope}{l l':List (Option V)}{cz:Bool}{fz mu cs:Led0}{h:Heap}
theorem Zcp{C:Addr}{st:List Sto}{fx:List (Addr×(Str->Option Value))}{m:Led0}:(X.comp C st fx cs).dyn m=keys m++((X.own++[C])++(tbs++keys X.fro)):=rfl
theorem backM{C D:Addr}{st:List Sto}{fx:List (Addr×(Str->Option Value))}{acc r:List V}{us:List Value}{μ':Led}{s:Shared}{h3:Heap}{m3:Led0}{ex:List Addr}(I:Inv G X fz (mu++cs) h)(SL:SR G X cel fz cs h l cz)(Z:VRs G.w.params fz r us)(hfx:fx.map (·.1)=X.own)(hfn:∀p∈fx,h.Ns p.1 p.2)
  (I3:Inv G (X.comp C st fx cs) fz m3 h3) (hx:∀a∈ex,X.h₀.get? a=none) (hC:X.h₀.get? C=none) (hCS:CSt G ((X.comp C st fx cs).re m3 fz h3 ex) cel D acc ⟨[],l',μ',cz⟩ [] s) :
  ∃fz' mu',Inv G X fz' (mu'++cs) s.heap/\LR G.w.params fz' μ' mu'/\VRs G.w.params fz' (.lst acc::r) (.ref D::us)/\SR G X cel fz' cs s.heap l cz/\Pin X (mu'++cs) fz' s.heap C/\(∃m,s.heap.Ns C m)/\s.os=G.os/\s.gens=#[]:=by
 obtain⟨fz',mu',cs',aws,c,J0,RL',j,SL',p,hD,za,o3,o4⟩:=hCS;have f0:∀p∈fz,p∈fz':=J0.fz0;have J:=I3.reOut hx J0;have fc:∀p∈cs,p∈cs':=SL'.fc;have ndc:(keys cs).Nodup:=by
  have:=(nodup_append.mp I.nd).1;rw[show keys (mu++cs)=keys mu++keys cs by simp[keys]] at this;exact(nodup_append.mp this).2.1
 have ndm:=(nodup_append.mp J.nd).1;rw[show keys (mu'++cs')=keys mu'++keys cs' by simp[keys]] at ndm;have nm:=nodup_append.mp ndm;have J1:Inv G (X.comp C st fx cs) fz' (mu'++cs) s.heap:=by
  refine J.sub2 ?_ λp hp=>?_
  ·rw[show keys (mu'++cs)=keys mu'++keys cs by simp[keys]]
   refine nodup_append.mpr ⟨nm.1,ndc,λa ha b hb q=>?_⟩;obtain⟨p,hp,rfl⟩:=mem_map.mp hb;exact nm.2.2 a ha _ (mem_map_of_mem (fc p hp)) q
  ·refine mA hp (λhp=>?_) λhp=>?_
   ·exact mem_append_left _ hp
   ·exact mem_append_right _ (fc p hp)
 have eD1:(X.comp C st fx cs).dyn (mu'++cs)=keys (mu'++cs)++((X.own++[C])++(tbs++keys X.fro)):=Zcp;have sub:∀a∈X.dyn (mu'++cs),a∈(X.comp C st fx cs).dyn (mu'++cs):=λa ha=>by
  rw[eD1];simp only[Act.dyn,Act.fx,mem_append] at ha⊢;grind
 have subC:C∈(X.comp C st fx cs).dyn (mu'++cs):=by rw[eD1];simp
 have maps:∀a m,a∈X.own->h.Ns a m->s.heap.Ns a m:=λa m ha hm=>by
  rw[<- hfx] at ha;obtain⟨q,hq,rfl⟩:=mem_map.mp ha;obtain rfl:m=q.2:=funext λy=>hm.agree (hfn q hq) y
  exact(J1.fxn q hq).2
 have ndC:C∉X.dyn (mu'++cs):=λq=>by
  have nd:=J1.nd;rw[eD1] at nd;have h1:=nodup_append.mp nd;have h2:=nodup_append.mp h1.2.1;have h3:=nodup_append.mp h2.1;refine mA q (λq=>?_) λq=>?_
  ·exact h1.2.2 _ q C (by simp) rfl
  refine mA q (λq=>?_) λq=>?_
  ·exact h3.2.2 _ q C (.head _) rfl
  ·exact h2.2.2 C (by simp) _ q rfl
 have K:Inv G X fz' (mu'++cs) s.heap:=by
  refine⟨J1.st,λa ha=>J1.dyn a (sub a ha),?_,J1.ents,J1.fzh,λp hp ha=>J1.fzd p hp (sub _ ha),J1.fzf,J1.fz0,λa ha=>J1.own a (mem_append_left _ ha),J1.fro,J1.tab,λp hp=>⟨(I.fxn p hp).1,maps _ _ (I.fxn p hp).1 (I.fxn p hp).2⟩⟩;have nd:=J1.nd;rw[eD1] at nd;refine List.Nodup.sublist ?_ nd;show(keys (mu'++cs)++(X.own++(tbs++keys X.fro))).Sublist _;exact List.Sublist.append_left (List.Sublist.append_right (List.sublist_append_left _ _) _) _
 have pD:D∉X.dyn (mu'++cs):=λq=>by
  have p1:D∉(X.comp C st fx cs).dyn (mu'++cs'):=p.dyn;have:=sub _ q;rw[eD1] at this;rw[Zcp] at p1;simp only[keys,map_append,mem_append] at this p1;rcases this with(q|q)|q
  ·exact p1 (.inl (.inl q))
  ·obtain⟨z,hz,ez⟩:=mem_map.mp q
   exact p1 (.inl (.inr (mem_map.mpr ⟨z,fc z hz,ez⟩)))
  ·exact p1 (.inr q)
 have D0:X.h₀.get? D=none:=Zc6 (X:=X.comp C st fx cs) I3 hx p.h0;have K':Inv G X ((D,listOf aws.toArray c)::fz') (mu'++cs) s.heap:=K.addF hD pD D0;have DC:C≠D:=λq=>by
  have p1:D∉(X.comp C st fx cs).dyn (mu'++cs'):=p.dyn;rw[Zcp,<- q] at p1;exact p1 (by simp)
 refine⟨_,mu',K',RL'.mono λj q=>.tail _ q,.cons (.lst (.head _) ⟨rfl,rfl⟩ (za.mono λj q=>.tail _ q)) (Z.mono λj q=>.tail _ (f0 _ q)),⟨λi v hv=>?_,SL.cl,λi c hi hm=>?_,SL.ow,SL.nd,SL.fc⟩,⟨ndC,λq=>?_,hC⟩,J1.own C (by show C∈X.own++[C];simp),o3,o4⟩
 ·obtain⟨st,w,h1,h2,h3⟩:=SL.sl i v hv
  refine⟨st,w,h1,?_,h3.mono λj q=>.tail _ (f0 _ q)⟩;cases st with
  |ns a x=>obtain⟨m,q1,q2⟩:=h2;exact⟨m,maps _ _ (SL.ow i a x h1) q1,q2⟩
  |cell c =>
   obtain⟨o,q1,q2⟩:=h2;exact⟨o,(mem_append.mp q1).elim (mem_append_left _) (λq=>mem_append_right _ (.tail _ (f0 _ q))),q2⟩
 ·obtain⟨o,v0,h1,h2⟩:=SL.cf i c hi hm
  exact⟨o,v0,.tail _ (f0 _ h1),h2⟩
 ·refine mC q (λq=>?_) λq=>?_
  ·exact DC q
  ·obtain⟨z,hz,ez⟩:=mem_map.mp q
   exact J1.fzd z hz (ez▸subC)
end
end
section
section
variable{G:Gl}{X:Act}{n:Nat}{cel:List Nat}{cx:Cx}{e:Env}{sc:Scope}{l l':List (Option V)}{cz:Bool}{fz mu cs:Led0}{h:Heap}{CK:CKT}
inductive CompEnd(G:Gl)(X:Act)(cel:List Nat)(Kp:Sg->Prop)(S0:Sg)(r:List V)(us:List Value)(w:Value)(C:Addr)(s':Shared):Prop
 |mk (fz:Led0) (mu:Led0) (cs:Led0) (acc:List V) (μ':Led) (_:Inv G X fz (mu++cs) s'.heap) (_:LR G.w.params fz μ' mu) (_:VRs G.w.params fz (.lst acc::r) (w::us)) (_:SR G X cel fz cs s'.heap S0.l S0.cz) (_:Pin X (mu++cs) fz s'.heap C) (_:(∃m,s'.heap.Ns C m)) (_:s'.os=G.os) (_:s'.gens=#[]) (_:Kp { S0 with stk:=.lst acc::r,μ:=μ' })
theorem compM{elt t it:PySem.Expr}{ifs:List PySem.Expr}{gs:List Comprehension}{pos:Pos}{tg:Tg}{b:CB}{S S0:Sg}{itv:V}{r items:List V}{w:Value}{us:List Value}{s:Shared}{Kp:Sg->Prop}{E:Value->Shared->Prop}
  {RR:Value->Addr->Result->Shared->Prop}{InvW:List V->List V->Led->List (Option V)->Prop}{cl:List (Str×Addr)}
  (O:AOK G X n) (EO:EnvOK G X cx e) (K:InOk cx sc) (hcl1:∀p∈sc.names,p.2=.free->cl.lookup p.1=e.cells.lookup p.1) (hcl2:∀x,(∀p∈sc.names,p.1=x->p.2≠.free)->cl.lookup x=none) (hcel:∀i∈cel,i<cx.nx)
  (htg:xTg (cx.into sc) t=some tg) (hown:∀i∈tg.ixs,cx.nx<=i) (hfs:∀g' env,(⟨t,it,ifs,0⟩::gs)[0+1]?=some g'->g'.is_async=0/\∀x,foldedSetIterable g'.iter env x=pure x)
  (M:Mod G X cel S0 (w::us) s) (hS:S0.stk=itv::r) (hi:Items itv items) (h0:InvW items [] S0.μ S0.l)
  (hstep:∀v rest acc μ l,InvW (v::rest) acc μ l->(∃l',BT tg v l l')/\∀l',BT tg v l l'->acc.length<2^20/\WC CK cel b l' S0.cz μ acc (λμ' acc' l''=>InvW rest acc' μ' l'')) (hend:∀acc μ l,InvW [] acc μ l->Kp { S0 with stk:=.lst acc::r,μ:=μ })
  (turn:∀X' env,AOK G X' n->EnvOK G X' (cx.into sc) env->X'.A=X.A->X'.env=X.env->∀D l μ acc s F',acc.length<2^20->WC CK cel b l S0.cz μ acc F'->CSt G X' cel D acc ⟨[],l,μ,S0.cz⟩ [] s ->
   wpAny (model P0 G.w) X.A (tests ifs env) (λok s₃=>if ok=true then turnTail G X.A (.ListComp elt (⟨t,it,ifs,0⟩::gs) sc pos) elt env D (⟨t,it,ifs,0⟩::gs)[0+1]? 0 (CFin G X' cel D S0.cz F') s₃ else CFin G X' cel D S0.cz F' s₃) (λy y=>False) s)
  (fin:∀D C s',CompEnd G X cel Kp S0 r us (.ref D) C s'->RR (.ref D) C (.ok .next) s') (finN:∀D C f s',RR (.ref D) C (.ok .next) s'->RR (.ref D) C (.ok f) s') :
  wpAny (model P0 G.w) X.A (pyIter w) (λiv s₂=>wpAny (model P0 G.w) X.A (newList []) (λacc s₃=>wpAny (model P0 G.w) X.A (newFunctionEnv sc e.globals cl [] e.qual none .none (some e)) (λcenv s₄ =>
   codeAny (model P0 G.w) X.A (.compStart (.ListComp elt (⟨t,it,ifs,0⟩::gs) sc pos) 0 iv acc { cenv with scope:=relabel sc e }) (RR acc cenv.locals) s₄) E s₃) E s₂) E s:=by
 refine hide λPP0 hPP0=>?_
 obtain⟨fz,mu,cs,I,RL,Z,SL,o1,o2⟩:=M;refine hPP0 ?_;rw[hS] at Z;cases Z with|cons z Z =>
 refine iterM I.fzh hi z λo T=>?_
 have hIa:s.heap.get? s.heap.objs.size=none:=ZaM _;generalize hIe:s.heap.objs.size=Ia at T hIa⊢;generalize hh1:s.heap.push o=h1 at T⊢;have k1:∀b o',s.heap.get? b=some o'->h1.get? b=some o':=λb o' q=>hh1▸Zam b o' q
 refine wpAny_newObj_type ?_ (by size_fits);have hDn:h1.get? h1.objs.size=none:=ZaM _;have hD2:(h1.push { cls:=.type "list",dict:=none,data:=.seq ([]:List Value).toArray }).get? h1.objs.size=some (listOf ([]:List Value).toArray 0):=Heap.get?_push_size _ rfl;have k2:∀b o',h1.get? b=some o'->(h1.push { cls:=.type "list",dict:=none,data:=.seq ([]:List Value).toArray }).get? b=some o':=Zam;have hDe:h1.objs.size=h1.objs.size:=rfl;generalize hDD:h1.objs.size=D at hDn hD2 hDe⊢;simp only[show({ s with heap:=h1 }:Shared).heap=h1 from rfl,hDD];generalize hh2:h1.push { cls:=.type "list",dict:=none,data:=.seq ([]:List Value).toArray }=h2 at hD2 k2⊢;have I2:Inv G X fz (mu++cs) h2:=(I.ext k1).ext k2;have SL2:SR G X cel fz cs h2 S0.l S0.cz:=(SL.mono k1 λy q=>q).mono k2 λy q=>q
 refine hide λPP1 hPP1=>?_
 obtain⟨fx,ncs,hfx,hfn,hfr,O1,EO1,I3,SL3⟩:=enterM (cl:=cl) O EO K hcl1 hcl2 I2 SL2 hcel;refine hPP1 ?_;refine newEnvM ?_;dsimp only;have hIh:s.heap.get? Ia=none:=hIa;have hDh:s.heap.get? D=none:=by
  cases q:s.heap.get? D with
  |none=>rfl
  |some o'=>rw[k1 _ _ q] at hDn;cases hDn
 have k3:∀b o',h2.get? b=some o'->(pushCells (h2.push { cls:=.type "dict",data:=.dict #[] }) sc.names).get? b=some o':=λb o' q=>pushCells_keeps _ _ b o' (Heap.get?_push_of_some _ q)
 generalize hh3:pushCells (h2.push { cls:=.type "dict",data:=.dict #[] }) sc.names=h3 at I3 SL3 k3⊢;generalize hCC:h2.objs.size=C at O1 EO1 I3 SL3 hfn⊢;have hCn:h2.get? C=none:=hCC▸ZaM _;have hC0:X.h₀.get? C=none:=I2.none0 hCn;have hx:∀a∈[D,Ia],X.h₀.get? a=none:=λa ha=>by
  rcases mem_cons.mp ha with rfl|ha
  ·exact I.none0 hDh
  ·rw[mem_singleton.mp ha];exact I.none0 hIh
 have hD3:h3.get? D=some (listOf ([]:List Value).toArray 0):=k3 _ _ hD2;obtain⟨oI,hoI,hiI⟩:=T.obj;have hI3:h3.get? Ia=some oI:=k3 _ _ (k2 _ _ hoI);have T3:IT G.w.params fz h3 Ia items:=T.mono (λo' q=>k3 _ _ (k2 _ _ q)) λy q=>q
 have O2:=O1.re I3 (ex:=[D,Ia]) hx;have EO2:=EO1.re (m:=mu++(ncs++cs)) (fz:=fz) (h:=h3) (ex:=[D,Ia]);have J3:=I3.reIn (ex:=[D,Ia]);have old:∀a,s.heap.get? a=none->a≠C->a∉keys ncs->a∉(X.comp C (Zal sc C (cellsFrom (C+1) sc.names [])) fx cs).dyn (mu++(ncs++cs)):=λa ha h1 h2 q=>by
  have:=I.out ha;rw[Zcp] at q;simp only[Act.dyn,Act.fx,keys,map_append,mem_append,mem_singleton] at q this h2;grind
 have lt2:∀{a o'},h2.get? a=some o'->a≠C/\a∉keys ncs:=λ{a o'} q=>by
  refine⟨λz=>?_,λz=>?_⟩
  ·rw[z,hCn] at q;cases q
  ·rw[hfr a z] at q;cases q
 have nDI:D≠Ia:=λq=>by rw[q,hI3] at hD3;cases hD3;obtain⟨⟨vs,hd⟩,y⟩:=hiI;cases hd
 have kz:∀a,s.heap.get? a=none->a∉keys fz:=λa ha q=>by
  obtain⟨p,hp,ep⟩:=mem_map.mp q;rw[<- ep,I.fzh p hp] at ha;cases ha
 have pD:Pin ((X.comp C (Zal sc C (cellsFrom (C+1) sc.names [])) fx cs).re (mu++(ncs++cs)) fz h3 [D,Ia]) (mu++(ncs++cs)) fz h3 D :=
  ⟨old D hDh (lt2 hD2).1 (lt2 hD2).2,kz D hDh,hideAll_none _ (.head _)⟩
 have pI:Pin ((X.comp C (Zal sc C (cellsFrom (C+1) sc.names [])) fx cs).re (mu++(ncs++cs)) fz h3 [D,Ia]) (mu++(ncs++cs)) fz h3 Ia :=
  ⟨old Ia hIh (lt2 (k2 _ _ hoI)).1 (lt2 (k2 _ _ hoI)).2,kz Ia hIh,hideAll_none _ (.tail _ (.head _))⟩
 have C0:CIt G ((X.comp C (Zal sc C (cellsFrom (C+1) sc.names [])) fx cs).re (mu++(ncs++cs)) fz h3 [D,Ia]) cel D Ia items [] S0.l S0.cz S0.μ { s with heap:=h3 } :=
  ⟨fz,mu,ncs++cs,[],0,J3,RL,SL3.reIn,pD,hD3,.nil,T3,pI,o1,o2⟩
 have main:=loopM (CK:=CK) (elt:=elt) (gens:=⟨t,it,ifs,0⟩::gs) (scope:=sc) (pos:=pos) (d:=0) (b:=b) (F:=λμ acc l=>InvW [] acc μ l) O2 EO2 rfl (λg' h=>hfs g' _ h) htg (λi hi=>hown i hi) (λi hi=>hcel i hi) C0 h0 hstep (λy y y h=>h)
  (λX' OX EX eA eE l μ acc s F' hl hW hC=>turn X' _ OX EX (eA.trans rfl) (eE.trans rfl) D l μ acc s F' hl hW hC)
 have fin':∀f s',CFin G ((X.comp C (Zal sc C (cellsFrom (C+1) sc.names [])) fx cs).re (mu++(ncs++cs)) fz h3 [D,Ia]) cel D S0.cz (λμ acc l=>InvW [] acc μ l) s'->RR (.ref D) C (.ok f) s':=by
  rintro f s' ⟨μ',acc',l',hF,hc⟩
  refine hide λPP2 hPP2=>?_
  obtain⟨fz',mu',q1,q2,q3,q4,q5,q6,q7,q8⟩:=backM I2 SL2 Z hfx hfn I3 hx hC0 hc;refine hPP2 ?_;exact finN D C f s' (fin D C s' ⟨fz',mu',cs,acc',μ',q1,q2,q3,q4,q5,q6,q7,q8,hend _ _ _ hF⟩)
 have main':=codeAny_mono main (R':=RR (.ref D) C) λr s' h=>by
  cases r with
  |ok f=>exact fin' f s' h
  |error _=>exact h.elim
 exact ZcV rfl main' (Zei (s:={ s with heap:=h3 }) T3 main')
end
end
section
section
variable{G:Gl}{X:Act}{n:Nat}{cel:List Nat}{S:Sg}{ws us:List Value}{s:Shared}{r:List V}{E:Value->Shared->Prop}{Q:Value->Shared->Prop}{l:List (Option V)}{μ:Led}{cz:Bool}
theorem Zfn(l:List Value)(n:Nat):(slicePick l.toArray none (some (n:Int)) none)=(l.take n).toArray:=by
 rw[kms_pick_eq];delta kms_pick kms_lo kms_hi;simp only[List.drop_zero,Nat.sub_zero,if_neg (show ¬((n:Int)<0) by lia),Int.toNat_natCast];rw[kmk_take_min]
theorem Zfo(l:List Value)(n:Nat):(slicePick l.toArray (some (n:Int)) none none)=(l.drop n).toArray:=by
 rw[kms_pick_eq];delta kms_pick kms_lo kms_hi;simp only[if_neg (show ¬((n:Int)<0) by lia),Int.toNat_natCast];rw[kmk_drop_min];congr 1;exact List.take_of_length_le (by rw[List.length_drop];exact Nat.sub_le_sub_left (Nat.min_le_left _ _) _)
theorem VRs.take{P:Params}{fz:Led0}{a:List V}{c:List Value}(n:Nat)(z:VRs P fz a c):VRs P fz (a.take n) (c.take n):=by
 induction n generalizing a c with
 |zero=>exact .nil
 |succ n ih=>cases a with
  |nil=>apply z.eZ;exact .nil
  |cons v a=>apply z.eC;exact λw us p q=>.cons p (ih q)
theorem VRs.drop{P:Params}{fz:Led0}{a:List V}{c:List Value}(n:Nat)(z:VRs P fz a c):VRs P fz (a.drop n) (c.drop n):=by
 induction n generalizing a c with
 |zero=>exact z
 |succ n ih=>cases a with
  |nil=>apply z.eZ;exact .nil
  |cons v a=>apply z.eC;exact λw us p q=>ih q
theorem sliceM{value:PySem.Expr}{a b:Option PySem.Expr}{sp:Pos}{m:Nat}{vs zs:List V}{wn wl vl vu:Value}{lo hi:Option Int}(O:AOK G X n)(M:Mod G X cel ⟨.int m::.lst vs::r,l,μ,cz⟩ (wn::wl::us) s)(hz:vs.length<2^20)
  (pl:IsPart vl lo) (pu:IsPart vu hi) (pick:∀P fz (ws:List Value),VRs P fz vs ws->∃zw,slicePick ws.toArray lo hi none=List.toArray zw/\VRs P fz zs zw)
  (K:∀w s',Mod G X cel ⟨.lst zs::r,l,μ,cz⟩ (w::us) s'->Q w s') :
  wpAny (model P0 G.w) X.A (subscriptTail value (.Slice a b none sp) wl (.ref s.heap.objs.size)) Q E { s with heap:=s.heap.push { cls:=.type "slice",data:=.fields #[vl,vu,.none] } }:=by
 obtain⟨fz,mu,cs,I,RL,Z,SL,o1,o2⟩:=M;apply Z.tail.head.eL;intro la o c ws m p q;obtain⟨zw,e1,e2⟩:=pick _ _ _ q;have hl0:=Zaz (I.fzh _ m) p;have hl:(s.heap.push { cls:=.type "slice",data:=.fields #[vl,vu,.none] }).IsList _ _:=let ⟨o,ho,rr⟩:=hl0;⟨o,Zam _ _ ho,rr⟩
 have hq:=q.length;refine tail_any (s:={ s with heap:=s.heap.push { cls:=.type "slice",data:=.fields #[vl,vu,.none] } }) hl.typeIs slot_list_getitem.lookup ?_ rfl;refine wpAny_getItem_list_slice hl (Heap.IsSliceOf.new ..) pl pu .none (by intro h;cases h) ?_ (by simp only[size_toArray];exact ZcU (by lia));rw[e1];exact K _ _ (mkF O I RL SL o1 o2 (.of λb o q=>Zam _ _ (Zam _ _ q)) (a:=(s.heap.push { cls:=.type "slice",data:=.fields #[vl,vu,.none] }).objs.size) (Heap.get?_none_of_le (by rw[Heap.size_push];lia)) (Heap.get?_push_size _ rfl) rfl rfl
  (.cons (.lst (.head _) ⟨rfl,rfl⟩ (e2.mono λy q=>.tail _ q)) (Z.tail.tail.mono λy q=>.tail _ q)))
end
end
section
theorem clbAll(w:World):(clbL.all λa=>keepIn (K0 w.params) (.ref a))=true:=by kernel_rfl
noncomputable def mthL:List (Addr×Nat×Addr):=[(250,21,204),(313,22,282),(313,23,289),(313,24,296),(313,25,303)]
theorem iteE{α:Type}{c:Prop}{_:Decidable c}{a b:Option α}{x:α}{P:Prop}(h:(if c then a else b)=some x)(h1:c->a=some x->P)(h2:b=some x->P):P:=by
 by_cases q:c
 ·rw[if_pos q] at h;exact h1 q h
 ·rw[if_neg q] at h;exact h2 h
theorem mL{C k f c kk ff:Nat}(e:C=c)(q:k=kk)(h:some ff=some f)(m:(c,kk,ff)∈mthL):(C,k,f)∈mthL:=by cases e;cases q;cases h;exact m
theorem mthK_mem{C:Addr}{k:Nat}{f:Addr}(h:mthK C k=some f):(C,k,f)∈mthL :=
 iteE h (λe h=>iteE h (λq h=>mL e q h (by decide)) λh=>nomatch h) λh=>iteE h (λe h=>iteE h (λq h=>mL e q h (by decide)) λh=>iteE h (λq h=>mL e q h (by decide)) λh=>iteE h (λq h=>mL e q h (by decide)) λh=>iteE h (λq h=>mL e q h (by decide)) λh=>nomatch h) λh=>nomatch h
theorem mthOk(w:World):(mthL.all λp=>plainGet (K0 w.params) p.1 (nm p.2.1)&&(findIn (K0 w.params) (.ref p.1) (nm p.2.1)==some (some (.ref p.2.2))&&(isFn (K0 w.params) (.ref p.2.2)&&decide (p.2.1<27))))=true:=by kernel_rfl
section
variable{G:Gl}{X:Act}{n:Nat}{cel:List Nat}{S:Sg}{ws us:List Value}{s:Shared}{r:List V}{E:Value->Shared->Prop}{l:List (Option V)}{μ:Led}{cz:Bool}{x:Str}
theorem mgPure{C a dx:Addr}{fz:Led0}{fs:List (Nat×V)}{es:List DictEntry}{c k:Nat}{f:Addr}{A:Around}{m:Str->Option Value}{L:Addr}{pl:Sem Bool}{Q:Value×List Value->Shared->Prop}(F:Fr G.hb L s.heap m)
  (e1:s.heap.get? a=some (instObj C dx)) (e2:s.heap.get? dx=some (dictOf es c)) (hf:FRs G.w.params fz fs es) (hx:nmIx x=k) (hm:mthK C k=some f) (hl:fs.lookup k=none)
  (K:Q (.ref f,[.ref a]) s):wpAny (model P0 G.w) A (getMethod (.ref a) x pl) Q E s:=by
 have h:=all_eq_true.mp (mthOk G.w) _ (mthK_mem hm);simp only[Bool.and_eq_true,beq_iff_eq,decide_eq_true_eq] at h;obtain⟨h1,h2,h3,h4⟩:=h;have ex:=Zbw hx h4;have g1:=hf.getN h4 hl;rw[ex] at g1 h1 h2;exact method_inst F G.K ⟨e1,rfl,rfl,e2⟩ h1 h2 h3 g1 K
theorem mgM{o f:V}{k:Nat}{w:Value}{pl:Sem Bool}{Q:Value×List Value->Shared->Prop}(O:AOK G X n)(M:Mod G X cel ⟨o::r,l,μ,cz⟩ (w::us) s)(h:MG μ o k f)(hx:nmIx x=k)
  (K:∀fw,Mod G X cel ⟨o::f::r,l,μ,cz⟩ (w::fw::us) s->Q (fw,[w]) s):wpAny (model P0 G.w) X.A (getMethod w x pl) Q E s:=by
 refine hide λPP0 hPP0=>?_
 obtain⟨fz,mu,cs,I,RL,Z,SL,o1,o2⟩:=M;obtain⟨m,F⟩:=I.fr O;refine hPP0 ?_;have fin:∀fw,VR G.w.params fz f fw->Q (fw,[w]) s:=λfw z=>K fw (mk0 O I RL SL o1 o2 (.of λy y e=>e) rfl rfl (.cons Z.head (.cons z Z.tail)))
 have zo:=Z.head;clear Z K;cases h with
 |app hm =>
  refine hide λPP1 hPP1=>?_
  obtain⟨ws',o',c,m',p,q⟩:=RL.mem hm;refine hPP1 ?_;refine zo.eR (Pw:=λw=>(∀fw,VR G.w.params fz (.bi "list.append") fw->Q (fw,[w]) s)->wpAny (model P0 G.w) X.A (getMethod w x pl) Q E s) (λfin=>?_) fin;rw[<- (Zbw hx (by decide):nm 26=x)];exact Calls.getMethod_list_append (I.ents _ (mem_append_left _ m')) (by rw[p]) (by rw[p]) (fin _ .bi)
 |pi hm hl=>exact zo.eO (Pw:=λw=>(∀fw,VR G.w.params fz _ fw->Q (fw,[w]) s)->wpAny (model P0 G.w) X.A (getMethod w x pl) Q E s) (λa dx es c m1 m2 hf fin=>mgPure F (I.fzh _ m1) (I.fzh _ m2) hf hx hm hl (fin _ .ref)) fin
 |mi hmem hm hl =>
  refine hide λPP2 hPP2=>?_
  obtain⟨es,c,m1,m2,hf⟩:=RL.memI hmem;refine hPP2 ?_;exact zo.eR (Pw:=λw=>(∀fw,VR G.w.params fz _ fw->Q (fw,[w]) s)->wpAny (model P0 G.w) X.A (getMethod w x pl) Q E s) (λfin=>mgPure F (I.ents _ (mem_append_left _ m1)) (I.ents _ (mem_append_left _ m2)) hf hx hm hl (fin _ .ref)) fin
abbrev Kept(M:Model)(f:Value)(h:Heap):Prop:=∃k,(k=Keeper.frame\/k=Keeper.machine\/k=Keeper.boundFrame)/\Looks M h (keeperOf f) k
set_option tactic.hygienic true in
theorem keptM{f:V}{fw:Value}{fz mu:Led0}{h:Heap}{Mo:Model}(O:AOK G X n)(I:Inv G X fz mu h)(z:VR G.w.params fz f fw)(hc:f.clb=true):Kept Mo fw h:=by
 cases f<;>try cases hc
 ·apply z.eY;exact⟨.machine,.inr (.inl rfl),.now⟩
 ·apply z.eF;exact⟨.machine,.inr (.inl rfl),.now⟩
 ·rename_i a
  apply z.eR;exact(keeps_K (all_eq_true.mp (clbAll G.w) a (List.contains_iff_mem.mp hc)) h (G.K.keeps λb o q=>I.st _ _ (O.st _ _ q)))
 ·apply z.eM;intro y y y y y y y y m1 y y y y y y
  exact⟨.frame,.inl rfl,(Looks.ld (part:=none) (I.fzh _ m1)).andThen .now⟩
end
end
section
structure TopOK(G:Gl)(X:Act)(cel:List Nat)(cx:Cx)(e:Env):Prop where
 fxc:X.fxc=[]
 fxn:X.fxn=[]
 cell:∀(i:Nat) c,X.sto[i]?=some (.cell c)->i∈cel
 code:∃c P,P∈tbs/\e.code=.ref c/\CodeHd G.hb c P/\e.qual++("<lambda>" : Str)=qualP P/\e.qual=cx.qual
theorem closE{env:Env}:∀{names:List (Str×NameKind)}{acc:List (Str×Addr)},(∀p∈names,p.2=.free->∃c,env.cells.lookup p.1=some c) ->
  ∃cl,(forIn names acc λ(p:Str×NameKind) cs=>if(p.2==NameKind.free)=true then do let a <- cellOf env p.1;pure (ForInStep.yield ((p.1,a)::cs)) else pure (ForInStep.yield cs):Sem (List (Str×Addr)))=pure (cl++acc) /\
   cl.map (·.1)=((names.filter λp=>p.2==.free).map (·.1)).reverse/\∀q∈cl,env.cells.lookup q.1=some q.2
 |[],acc,_=>⟨[],rfl,rfl,λU hq=>nomatch hq⟩
 |(x,k)::r,acc,h=>by
  by_cases hk:k=.free
  ·subst hk
   obtain⟨c,hc⟩:=h (x,.free) (.head _) rfl;obtain⟨cl,e,h1,h2⟩:=closE (names:=r) (acc:=(x,c)::acc) λp hp=>h p (.tail _ hp)
   refine⟨cl++[(x,c)],?_,?_,λq hq=>?_⟩
   ·rw[List.forIn_cons]
    have e1:cellOf env x=pure c:=by unfold cellOf;rw[hc]
    simp only[beq_self_eq_true,if_true,e1,pure_bind];rw[append_assoc];exact e
   ·rw[map_append,h1,filter_cons]
    simp
   ·refine mA hq (λhq=>?_) λhq=>?_
    ·exact h2 q hq
    ·rw[mem_singleton.mp hq];exact hc
  ·obtain⟨cl,e,h1,h2⟩:=closE (names:=r) (acc:=acc) λp hp=>h p (.tail _ hp)
   have hf:(k==NameKind.free)=false:=beq_eq_false_iff_ne.mpr hk;refine⟨cl,?_,?_,h2⟩
   ·rw[List.forIn_cons]
    simp only[hf,Bool.false_eq_true,if_false,pure_bind];exact e
   ·rw[h1,filter_cons]
    simp[hf]
theorem closureE{env:Env}{sc:Scope}(h:∀p∈sc.names,p.2=.free->∃c,env.cells.lookup p.1=some c) :
  ∃cl,closureFor sc env=pure cl/\cl.map (·.1)=frees sc/\∀q∈cl,env.cells.lookup q.1=some q.2:=by
 obtain⟨cl,e,h1,h2⟩:=closE (acc:=[]) h;rw[append_nil] at e;refine⟨cl,?_,h1,h2⟩;unfold closureFor;have:(forIn sc.names [] λ(p:Str×NameKind) cs=>if(p.2==NameKind.free)=true then do let a <- cellOf env p.1;pure (ForInStep.yield ((p.1,a)::cs)) else pure (ForInStep.yield cs):Sem (List (Str×Addr))) =
   (forIn sc.names [] λ(p:Str×NameKind) cs=>match p with|(name,kind)=>if(kind==NameKind.free)=true then do let a <- cellOf env name;pure (ForInStep.yield ((name,a)::cs)) else pure (ForInStep.yield cs):Sem (List (Str×Addr))):=rfl
 rw[this] at e;first
  |exact(bind_pure _).trans e
  |exact e
  |(rw[e];rfl)
  |(simp only[e,pure_bind])
set_option tactic.hygienic true in
theorem Zdh{pos q:Pos}{c v:Value}(l:List Value)(h:TriplesOk l)(e:codeAmong q (l++[rawInt pos.line,rawInt pos.col,c])=some v):codeAmong q l=some v\/v=c:=by
 fun_induction TriplesOk l with
 |case1 =>
  simp only[nil_append,codeAmong,rawInt] at e;split at e
  ·cases e;exact .inr rfl
  ·cases e
 |case2 a t b u x rest ih =>
  simp only[cons_append,codeAmong] at e⊢;split at e
  ·rename_i hc;rw[if_pos hc];exact .inl e
  ·rename_i hc;rw[if_neg hc];exact ih h e
 |case3 l h1 h2=>exact h.elim
section
variable{G:Gl}{X:Act}{fz fz' mu:Led0}{h h':Heap}{P:Addr}
theorem Inv.tabSet(I:Inv G X fz mu h)(hP:P∈tbs)(k:Heap.ExtBut P h h')(ht:TabOk fz' h' P)(s:∀p∈fz,p∈fz')(hz:∀p∈fz',h'.get? p.1=some p.2/\(p∈fz\/h.get? p.1=none)):Inv G X fz' mu h':=by
 have nd:=I.nd;have eD:X.dyn mu=(keys mu++X.own)++(tbs++keys X.fro):=by simp[Act.dyn,Act.fx]
 rw[eD] at nd;have n1:=nodup_append.mp nd;have n2:=nodup_append.mp n1.2.1;have a1:∀a∈keys mu++X.own,a≠P:=λa ha q=>n1.2.2 a ha P (mem_append_left _ hP) q
 have P0:X.h₀.get? P=none:=I.dyn P (by rw[eD];exact mem_append_right _ (mem_append_left _ hP));refine⟨λb o e=>k b o (λq=>?_) (I.st b o e),I.dyn,I.nd,λp hp=>k _ _ (a1 _ (mem_append_left _ (mem_map_of_mem hp))) (I.ents p hp),λp hp=>(hz p hp).1,λp hp ha=>?_,λp hp=>?_,λp hp=>s _ (I.fz0 p hp),λa ha=>?_,λp hp=>?_,λQ hQ=>?_,λp hp=>?_⟩
 ·rw[q,P0] at e;cases e
 ·rcases(hz p hp).2 with q|q
  ·exact I.fzd p q ha
  ·exact I.out q ha
 ·rcases(hz p hp).2 with q|q
  ·exact I.fzf p q
  ·exact .inr (I.none0 q)
 ·obtain⟨m,e⟩:=I.own a ha
  exact⟨m,e.extBut k (a1 a (mem_append_right _ ha))⟩
 ·obtain⟨sl,e⟩:=I.fro p hp
  exact⟨sl,k _ _ (λq=>n2.2.2 P hP _ (mem_map_of_mem hp) q.symm) e⟩
 ·by_cases q:Q=P
  ·rw[q];exact ht
  ·have t:=I.tab Q hQ
   obtain⟨ps,e,U⟩:=id t;exact t.mono (by rw[k _ _ q e,e]) s
 ·exact⟨(I.fxn p hp).1,(I.fxn p hp).2.extBut k (a1 _ (mem_append_right _ (I.fxn p hp).1))⟩
theorem closCR{G:Gl}{X:Act}{cel:List Nat}{cx:Cx}{e:Env}{l:List (Option V)}{cz:Bool}{fz fz' cs:Led0}{h:Heap}(EO:EnvOK G X cx e)(SL:SR G X cel fz cs h l cz)(sf:∀p∈cs++fz,p∈fz')(s0:∀p∈fz,p∈fz') :
  ∀{cl:List (Str×Addr)}{xs:List Str}{is:List Nat}{vs:List V},cl.map (·.1)=xs->(∀q∈cl,e.cells.lookup q.1=some q.2)->(∀x∈xs,cx.kd x=some .cell\/cx.kd x=some .free)->ZaC cx xs=some is->Zcs l is=some vs->CRs G.w.params fz' vs cl
 |[],_,_,_,e1,_,_,e2,e3=>by
  cases e1;cases e2;cases e3;exact .nil
 |(x,c)::cl,_,_,_,e1,hc,hk,e2,e3=>by
  cases e1
  ·obtain⟨i,is',q1,q2,e2⟩:=bd2 e2
   cases e2
   ·obtain⟨v,vs',q3,q4,e3⟩:=bd2 e3
    cases e3;have q3:l[i]?=some (some v):=by obtain⟨o,q3,q5⟩:=bd q3;cases q5;exact q3
    obtain⟨st,h1,h2⟩:=EO.var x i q1;obtain⟨st',w,h1',h3,h4⟩:=SL.sl i v q3;rw[h1] at h1';cases h1';cases st with
    |ns a y=>rcases hk x (.head _) with q|q<;>rw[h2.2.2.1] at q<;>cases q
    |cell c' =>
     have:=hc (x,c) (.head _);rw[h2.1] at this;cases this;obtain⟨o,h5,h6⟩:=h3;exact .cons (sf _ h5) h6 (h4.mono s0) (closCR EO SL sf s0 rfl (λq hq=>hc q (.tail _ hq)) (λy hy=>hk y (.tail _ hy)) q2 q4)
theorem Zec{cx:Cx}{y:Str}:∀{xs:List Str}{is:List Nat},ZaC cx xs=some is->y∈xs->∃j∈is,cx.vars.lookup y=some j
 |[],_,_,h=>nomatch h
 |x::xs,is,e,h=>by
  ·obtain⟨i,is',e1,e2,e⟩:=bd2 e
   cases e;rcases mem_cons.mp h with rfl|h
   ·exact⟨i,.head _,e1⟩
   ·obtain⟨j,hj,e⟩:=Zec e2 h
    exact⟨j,.tail _ hj,e⟩
theorem closND{G:Gl}{X:Act}{cx:Cx}{e:Env}(EO:EnvOK G X cx e)(nd:X.sto.Nodup):∀{cl:List (Str×Addr)}{is:List Nat},(∀q∈cl,e.cells.lookup q.1=some q.2)->(∀q∈cl,cx.kd q.1=some .cell\/cx.kd q.1=some .free)->ZaC cx (cl.map (·.1))=some is->is.Nodup->(cl.map (·.2)).Nodup
 |[],_,_,_,_,_=>List.nodup_nil
 |(x,c)::cl,is,hc,hk,hs,hn=>by
  have at':∀q∈(x,c)::cl,∀i,cx.vars.lookup q.1=some i->X.sto[i]?=some (.cell q.2):=λq hq i hi=>by
   obtain⟨st,h1,h2⟩:=EO.var q.1 i hi;cases st with
   |ns a y=>rcases hk q hq with z|z<;>rw[h2.2.2.1] at z<;>cases z
   |cell c' =>
    have:=hc q hq;rw[h2.1] at this;cases this;exact h1
  ·obtain⟨i,is',e1,e2,hs⟩:=bd2 hs
   cases hs;obtain⟨n1,n2⟩:=nodup_cons.mp hn;rw[map_cons];refine nodup_cons.mpr ⟨λhm=>?_,closND EO nd (λq hq=>hc q (.tail _ hq)) (λq hq=>hk q (.tail _ hq)) e2 n2⟩;obtain⟨q,hq,eq⟩:=mem_map.mp hm;obtain⟨j,hj,ej⟩:=Zec e2 (mem_map.mpr ⟨q,hq,rfl⟩);have h1:=at' q (.tail _ hq) j ej;have h2:=at' (x,c) (.head _) i e1;rw[eq] at h1;have:=Zcy nd h2 h1;exact n1 (this▸hj)
theorem lamM{cx:Cx}{e:Env}{n:Nat}{cel:List Nat}{ps:Arguments}{b:PySem.Expr}{sc:Scope}{pos:Pos}{is:List Nat}{stk vs:List V}{ws:List Value}{l:List (Option V)}{μ:Led}{cz:Bool}{s:Shared}{E Q:Value->Shared->Prop}
  (O:AOK G X n) (EO:EnvOK G X cx e) (TO:TopOK G X cel cx e) (K:InOk cx sc) (hd1:ps.defaults=[]) (hd2:ps.kw_defaults=[]) (hs:ZaC cx (frees sc)=some is) (hnd:is.Nodup) (M:Mod G X cel ⟨stk,l,μ,cz⟩ ws s) (hv:Zcs l is=some vs)
  (k:∀w s',Mod G X cel ⟨.lam ⟨cx.qual++("<lambda>" : Str),ps,b,sc,pos⟩ vs::stk,l,μ,true⟩ (w::ws) s'->Q w s'):wpAny (model P0 G.w) X.A (eval (.Lambda ps b sc pos) e) Q E s:=by
 obtain⟨fz,mu,cs,I,RL,Z,SL,o1,o2⟩:=M;refine hide λPP hPP=>?_
 obtain⟨c,P,hP,hcode,hcd,hq,hq2⟩:=TO.code;have hfree:∀p∈sc.names,p.2=.free->∃c,e.cells.lookup p.1=some c:=λp hp hf=>by
  obtain⟨hk,hsome⟩:=K.fr p.1 (Zdt hp hf);obtain⟨i,hi⟩:=Option.isSome_iff_exists.mp hsome;obtain⟨st,h1,h2⟩:=EO.var p.1 i hi;cases st with
  |ns a y=>rcases hk with q|q<;>rw[h2.2.2.1] at q<;>cases q
  |cell c=>exact⟨c,h2.1⟩
 obtain⟨cl,hcl,hcl1,hcl2⟩:=closureE hfree;have I':Inv G X (cs++fz) mu s.heap:=by
  have:=Inv.frz (q:=cs) (m1:=mu) (m2:=[]) (by simpa using I);simpa using this
 have st:∀b o,G.hb.get? b=some o->s.heap.get? b=some o:=λb o q=>I.st _ _ (O.st _ _ q)
 obtain⟨ps0,hps,htr,htab⟩:=I'.tab P hP;obtain⟨bm,ob,b1,b2,b3,b4,b5,b6⟩:=G.T.bmain;have hgs:=G.T.g.keeps st;have hgP:mainGlobals≠P:=λq=>by
  obtain⟨o,es,ep,e,hd,U⟩:=hgs;rw[q,hps] at e;cases e;cases hd
 have hbP:bm≠P:=λq=>by
  have e:=st _ _ b3;rw[q,hps] at e;cases e;cases b4
 have hbG:bm≠mainGlobals:=λq=>by
  obtain⟨o,es,ep,e,hd,U⟩:=G.T.g;rw[q,e] at b3;cases b3;rw[hd] at b6;cases b6
 have hB:s.heap.BuiltinsAt G.mg P:=⟨bm,ob,b1,b2,hbG,hbP,st _ _ b3,b4,b5,b6⟩;have eD:P∈X.dyn mu:=mem_append_right _ (mem_append_right _ (mem_append_left _ hP));have fzP:∀p∈cs++fz,p.1≠P:=λp hp q=>I'.fzd p hp (q▸eD)
 have ownP:∀a∈X.own,a≠P:=λa ha q=>by
  have nd:=I'.nd;have e1:X.dyn mu=keys mu++(X.own++(tbs++keys X.fro)):=rfl;rw[e1] at nd;have n1:=nodup_append.mp (nodup_append.mp nd).2.1;exact n1.2.2 a ha P (mem_append_left _ hP) q
 have fin:∀(h'':Heap) (f:Addr) (c':Addr) (oc:Obj) (wsc:Array Value) (t:Tok) (pm ctv:Value) (tk:Tok) (fz'':Led0),Heap.ExtBut P s.heap h''->Inv G X fz'' mu h''->(∀p∈cs++fz,p∈fz'') ->
   (f,kla_obj (Str.ofString "<lambda>") (e.qual++("<lambda>" : Str)) ps b sc cl pm c' ctv)∈fz''->(c',oc)∈fz''->oc.data=.fields wsc->wsc[1]?=some (.str (e.qual++("<lambda>" : Str)) t)->Q (.ref f) { s with heap:=h'',toks:=tk }:=by
  intro h'' f c' oc wsc t pm ctv tk fz'' kx J sf m1 m2 hd h1;refine k _ _ ⟨fz'',mu,[],by simpa using J,RL.mono λp hp=>sf p (mem_append_right _ hp),.cons ?_ (Z.mono λp hp=>sf p (mem_append_right _ hp)),?_,o1,o2⟩
  ·refine .lam (I:=⟨cx.qual++("<lambda>" : Str),ps,b,sc,pos⟩) (cs:=cl) (pm:=pm) (c:=c') (oc:=oc) (ws:=wsc) (t:=t) (ctv:=ctv) (by rw[<- hq2];exact m1) m2 hd (by rw[<- hq2];exact h1) ?_ ?_
   ·exact closCR EO SL sf (λp hp=>sf p (mem_append_right _ hp)) hcl1 hcl2 (λx hx=>(K.fr x hx).1) hs hv
   ·exact⟨closND EO SL.nd hcl2 (λq hq=>(K.fr q.1 (hcl1▸mem_map_of_mem hq)).1) (by rw[hcl1];exact hs) hnd,hcl1⟩
  ·refine⟨λi v hiv=>?_,λi c hi hm=>?_,λi c hi hm=>?_,SL.ow,SL.nd,λp hp=>by rw[TO.fxc] at hp;cases hp⟩
   ·obtain⟨st,w,h1,h2,h3⟩:=SL.sl i v hiv
    refine⟨st,w,h1,?_,h3.mono λp hp=>sf p (mem_append_right _ hp)⟩;cases st with
    |ns a y=>obtain⟨m,q1,q2⟩:=h2;exact⟨m,q1.extBut kx (ownP a (SL.ow i a y h1)),q2⟩
    |cell c=>obtain⟨o,q1,q2⟩:=h2;exact⟨o,sf _ q1,q2⟩
   ·rcases hm with hm|hm
    ·cases hm
    ·exact absurd (TO.cell i c hi) hm
   ·by_cases q:cz=true
    ·obtain⟨o,v0,q1,q2⟩:=SL.cf i c hi ⟨q,hm.2⟩
     exact⟨o,v0,sf _ (mem_append_right _ q1),q2⟩
    ·obtain⟨o,v0,q1,q2⟩:=SL.cl i c hi (.inl (by simpa using q))
     exact⟨o,v0,sf _ (mem_append_left _ q1),q2⟩
 refine hPP ?_;refine kla_eval (by obtain⟨a1,a2,a3,a4,a5,a6,a7⟩:=ps;simp only at hd1 hd2;subst hd1 hd2;rfl) ?_;cases hca:codeAmong pos ps0.toList with
 |none =>
  refine kla_makeFunction (mg:=G.mg) hcl EO.gl hgs hcode (hcd.keeps st) hps htr hca hgP hB λc' ctv h' tk hx hge hlt hrec htb=>?_
  obtain⟨c₂,oc,vsc,t,e2,hoc,hd,hv1⟩:=hrec;cases e2;have hx':Heap.ExtBut P s.heap (h'.push (kla_obj (Str.ofString "<lambda>") (e.qual++("<lambda>" : Str)) ps b sc cl ((G.mg "__name__").getD .none) c' ctv)):=λb o hb q=>Heap.get?_push_of_some _ (hx b o hb q)
  have hfn:s.heap.get? h'.objs.size=none:=Heap.get?_none_of_le (Nat.le_trans hge (lw hlt));have hcn:s.heap.get? c'=none:=Heap.get?_none_of_le hge;refine fin _ _ c' oc vsc t ((G.mg "__name__").getD .none) ctv tk ((h'.objs.size,kla_obj (Str.ofString "<lambda>") (e.qual++("<lambda>" : Str)) ps b sc cl ((G.mg "__name__").getD .none) c' ctv)::(c',oc)::(cs++fz)) hx' (I'.tabSet hP hx' ?_ (λp hp=>.tail _ (.tail _ hp)) ?_) (λp hp=>.tail _ (.tail _ hp)) (.head _) (.tail _ (.head _)) hd hv1
  ·refine⟨_,Heap.get?_push_of_some _ htb,?_,λp v hpv=>?_⟩
   ·rw[Array.toList_append]
    exact TriplesOk_snoc _ _ _ _ htr
   ·rw[Array.toList_append] at hpv
    rcases Zdh _ htr hpv with q|q
    ·obtain⟨c3,oc3,ws3,t3,r1,r2,r3⟩:=htab p v q
     exact⟨c3,oc3,ws3,t3,r1,.tail _ (.tail _ r2),r3⟩
    ·exact⟨c',oc,vsc,t,q,.tail _ (.head _),hd,by rw[<- hq];exact hv1⟩
  ·refine forall_mem_cons.mpr ⟨⟨Heap.get?_push_size _ rfl,.inr hfn⟩,forall_mem_cons.mpr ⟨⟨Heap.get?_push_of_some _ hoc,.inr hcn⟩,λp hp=>⟨hx' _ _ (fzP p hp) (I'.fzh p hp),.inl hp⟩⟩⟩
 |some cv =>
  obtain⟨c',oc,wsc,t,rfl,hm,hd,hv1⟩:=htab pos cv hca;refine kla_makeFunctionHit (mg:=G.mg) hcl EO.gl hgs hcode (hcd.keeps st) hps htr hca hB λctv h' tk hx hge=>?_
  have hx2:∀a0 o,s.heap.get? a0=some o->(h'.push (kla_obj (Str.ofString "<lambda>") (e.qual++("<lambda>" : Str)) ps b sc cl ((G.mg "__name__").getD .none) c' ctv)).get? a0=some o:=λa0 o q=>Heap.get?_push_of_some _ (hx a0 o q)
  exact fin _ _ c' oc wsc t ((G.mg "__name__").getD .none) ctv tk ((h'.objs.size,kla_obj (Str.ofString "<lambda>") (e.qual++("<lambda>" : Str)) ps b sc cl ((G.mg "__name__").getD .none) c' ctv)::(cs++fz)) (λb o U q=>hx2 b o q) (I'.newF hx2 (Heap.get?_none_of_le hge) (Heap.get?_push_size _ rfl)) (λp hp=>.tail _ hp) (.head _) (.tail _ hm) hd (by rw[hq];exact hv1)
end
end
section
section
variable{M:Model}{A:Around}{E:Value->Shared->Prop}{h:Heap}{g:Array GenState}{d:Drawn}{t:Nat}{os:OsState}
variable{nmm q:Str}{C N:Addr}{bs bm bmB:List Value}{hdct:Bool}{sn:List Str}{sub:List Value}{ab:Bool}{col:Option Bool}{dd:Option Addr}{k0 k1 k2 k3 k5:Option Value}{B newId initId:String}
theorem excCheck(F:ExcBaseFacts B newId initId bmB)(hB:bm.contains (.type B)=true){rest:List Value}{Q:Unit->Shared->Prop}(hC:h.get? C=some (excClassObj nmm q C N bs bm hdct sn sub ab col dd k0 k1 k2 k3 k5 newId))
  (hq:Q () ⟨h,g,d,t,os⟩):wpAny M A (checkBuiltinCall newId ⟨.ref C::rest,[]⟩) Q E ⟨h,g,d,t,os⟩:=by
 have hcont:(Value.ref C::bm).contains (.type B)=true:=by rw[List.contains_cons,hB,Bool.or_true]
 have hstar:=F.noStar;delta checkBuiltinCall;refine F.newKind.symm▸?_;refine F.newSplit.symm▸?_;refine F.newRow.symm▸?_;dsimp only;repeat (first|refine wpAny_loadPart_at hC ?_|(refine wpAny_isSubtype_exc hC ?_;rw[hcont])|refine wpAny_staticBase_exc hC ?_|refine wpAny_madeBy_exc hC ?_|refine PySem.wpAny_ite_false (c:=(_ != _)=true) (decide_eq_false (by rw[bne_self_eq_false];exact Bool.false_ne_true)) ?_|wp_step)
 exact hq
end
section
variable{prog:Program}{w:World}{A:Around}{E:Value->Shared->Prop}{R:Result->Shared->Prop}{h:Heap}{g:Array GenState}{d:Drawn}{t:Nat}{os:OsState}
variable{nmm q:Str}{C N:Addr}{bs bm bmB:List Value}{hdct:Bool}{sn:List Str}{sub:List Value}{ab:Bool}{col:Option Bool}{dd:Option Addr}{k0 k1 k2 k3 k5:Option Value}{B newId initId:String}
theorem excNew(F:ExcBaseFacts B newId initId bmB)(hB:bm.contains (.type B)=true)(hA:bm.contains (.type "AttributeError")=false)(hN:bm.contains (.type "NameError")=false){rest:List Value}
  (hC:h.get? C=some (excClassObj nmm q C N bs bm hdct sn sub ab col dd k0 k1 k2 k3 k5 newId))
  (hq:R (.ok (.ret (.ref (h.objs.size+1)))) ⟨(h.push { cls:=.type "tuple",data:=.seq rest.toArray }).push
   { cls:=.ref C,data:=.fields #[.ref h.objs.size,.none,.none,.none,.bool false,.none] },g,d,t,os⟩) (hrest:rest.length<=sizeLine:=by size_fits) :
  codeAny (model prog w) A (.builtin newId ⟨.ref C::rest,[]⟩) R ⟨h,g,d,t,os⟩:=by
 have hends:=F.ends;have hcB:(Value.ref C::bm).contains (.type B)=true:=by rw[List.contains_cons,hB,Bool.or_true]
 have hcA:(Value.ref C::bm).contains (.type "AttributeError")=false:=by rw[List.contains_cons,hA];rfl
 have hcN:(Value.ref C::bm).contains (.type "NameError")=false:=by rw[List.contains_cons,hN];rfl
 refine codeAny_builtinAt F.entry ?_;unfold Builtin.«BaseException.__new__»;refine PySem.wpAt_bind ?_;show PySem.wpAt _ _ _ (stack >>= _) _ _ _;refine PySem.wpAt_bind (PySem.wpAt_stack λp below=>PySem.wpAt_of_wpAny ?_);wp_walk;refine PySem.wpAt_of_wpAny ?_;rw[F.owner];repeat (first|with_reducible refine wpAny_madeHere_exc F.canon hC ?_|with_reducible refine wpAny_loadPart_at hC ?_|(with_reducible refine wpAny_isSubtype_exc hC ?_;first|rw[hcB]|rw[hcA]|rw[hcN])|wp_step)
 show R _ _;rw[Heap.size_push];exact hq
theorem ZdX(F:ExcBaseFacts B newId initId bmB)(hB:bm.contains (.type B)=true)(hA:bm.contains (.type "AttributeError")=false)(hN:bm.contains (.type "NameError")=false){rest:List Value}{fI:Addr}{Q:Fin->Shared->Prop}
  (hC:h.get? C=some (excClassObj nmm q C N bs bm hdct sn sub ab col dd k0 k1 k2 k3 k5 newId))
  (hi:Looks (model prog w) h (typeLookup (.ref C) "__init__") (some (.ref fI))) (hb:∀self,Looks (model prog w) h (bindSpecial (.ref fI) self) (.ref fI,[self]))
  (hq:wpAny (model prog w) A (PySem.call (.ref fI) (.ref (h.objs.size+1)::rest)) (λv s'=>v=.none/\Q (.done (.ret (.ref (h.objs.size+1)))) s') E ⟨(h.push { cls:=.type "tuple",data:=.seq rest.toArray }).push
   { cls:=.ref C,data:=.fields #[.ref h.objs.size,.none,.none,.none,.bool false,.none] },g,d,t,os⟩) (hrest:rest.length<=sizeLine) :
  wpAny (model prog w) A (Builtin.«type.__call__» ⟨.ref C::rest,[]⟩) Q E ⟨h,g,d,t,os⟩:=by
 repeat (first|with_reducible refine wpAny_loadPart_at hC ?_|with_reducible refine wpAny_madeBy_exc hC ?_|wp_step)
 refine codeAny_call_builtin_code (Code.quiet_builtin _ F.quiet) (excCheck F hB hC ?_);refine excNew F hB hA hN hC ?_ hrest;show wpAny _ _ _ _ _ _;have k:∀b o,h.get? b=some o->((h.push { cls:=.type "tuple",data:=.seq rest.toArray }).push
   { cls:=.ref C,data:=.fields #[.ref h.objs.size,.none,.none,.none,.bool false,.none] }).get? b=some o:=λb o e=>Heap.get?_push_of_some _ (Heap.get?_push_of_some _ e)
 have hC₁:=k _ _ hC;have hget:((h.push { cls:=.type "tuple",data:=.seq rest.toArray }).push
   { cls:=.ref C,data:=.fields #[.ref h.objs.size,.none,.none,.none,.bool false,.none] }).get? (h.objs.size+1)=some
   { cls:=.ref C,data:=.fields #[.ref h.objs.size,.none,.none,.none,.bool false,.none] }:=by heap_get
 have hcC:(Value.ref C::bm).contains (.ref C)=true:=by simp
 unfold isInstance;repeat (first|with_reducible refine wpAny_loadPart_at hget ?_|(with_reducible refine wpAny_isSubtype_exc hC₁ ?_;rw[hcC])|wp_step)
 refine(hi.keeps k).here ?_;dsimp only;refine wpAny_holding (wpAny_bind (((hb _).keeps k).here ?_));dsimp only;refine wpAny_bind (wpAny_mono hq (λv s' h'=>?_) λz z x=>x);obtain⟨rfl,h'⟩:=h';exact wpAny_pure (wpAny_pure h')
theorem excCall(F:ExcBaseFacts B newId initId bmB)(hB:bm.contains (.type B)=true)(hA:bm.contains (.type "AttributeError")=false)(hN:bm.contains (.type "NameError")=false){rest:List Value}{fI:Addr}{Q:Value->Shared->Prop}
  (hC:h.get? C=some (excClassObj nmm q C N bs bm hdct sn sub ab col dd k0 k1 k2 k3 k5 newId))
  (hi:Looks (model prog w) h (typeLookup (.ref C) "__init__") (some (.ref fI))) (hb:∀self,Looks (model prog w) h (bindSpecial (.ref fI) self) (.ref fI,[self]))
  (hq:wpAny (model prog w) (A.under (.builtin "type.__call__" ⟨.ref C::rest,[]⟩)) (PySem.call (.ref fI) (.ref (h.objs.size+1)::rest)) (λv s'=>v=.none/\Q (.ref (h.objs.size+1)) s') E ⟨(h.push { cls:=.type "tuple",data:=.seq rest.toArray }).push
   { cls:=.ref C,data:=.fields #[.ref h.objs.size,.none,.none,.none,.bool false,.none] },g,d,t,os⟩) (hrest:rest.length<=sizeLine) :
  wpAny (model prog w) A (PySem.call (.ref C) rest) Q E ⟨h,g,d,t,os⟩:=by
 have f1:=tc_lookup;have f2:=tc_bind (.ref C);have hT:(⟨h,g,d,t,os⟩ : Shared).TypeIs (.ref C) "type":=⟨_,hC,rfl⟩;refine wpAny_call (codeAny_of_tree ?_);show wpAny _ _ (callAny (.ref C) _) _ _ _;repeat (any_goals (first|assumption|with_reducible refine wpAny_loadPart_at hC ?_|wp_step))
 refine⟨rfl,?_⟩;refine codeAny_call_builtin_at (Code.quiet_builtin _ (by decide +kernel)) entry_typeCall (wpAny_check_type_call_sub hC (ZdX F hB hA hN hC hi hb (wpAny_mono hq (λv s' h'=>⟨h'.1,?_⟩) λz z x=>x) hrest));exact h'.2
theorem excRaise{env:Env}{s:Shared}{x:Sem Value}{Q:Flow->Shared->Prop}(hbase:bm.contains (.type "BaseException")=true)(hh:A.handled=none)
  (hx:wpAny (model prog w) A x (λv s₁=>∃e oe vs,v=.ref e/\s₁.heap.get? C=some (excClassObj nmm q C N bs bm hdct sn sub ab col dd k0 k1 k2 k3 k5 newId) /\
   s₁.heap.get? e=some oe/\oe.cls=.ref C/\oe.data=.fields vs/\vs[1]?=some .none/\E (.ref e) s₁) E s) :
  wpAny (model prog w) A (raiseStmt env (some x) none) Q E s:=by
 have hcB:(Value.ref C::bm).contains (.type "BaseException")=true:=by rw[List.contains_cons,hbase,Bool.or_true]
 unfold raiseStmt;refine wpAny_bind (wpAny_mono hx (λv s₁ h₁=>?_) λz z x=>x);obtain⟨e,oe,vs,rfl,hC,he,hcl,hd,hv1,hE⟩:=h₁;obtain⟨hp,g,d,tk,os⟩:=s₁;obtain⟨c0,d0,dt,sl⟩:=oe;simp only at hcl hd;subst hcl hd;repeat (first|with_reducible refine wpAny_loadPart_at he ?_|with_reducible refine wpAny_loadPart_at hC ?_|(with_reducible refine wpAny_isSubtype_exc hC ?_;rw[hcB])|wp_step)
 rw[hv1];refine wpAny_pure ?_;rw[if_neg (by decide)];exact wpAny_pure (wpAny_raiseNew_none hh hE)
end
end
section
section
variable{prog:Program}{w:World}{A:Around}{E:Value->Shared->Prop}{h:Heap}{g:Array GenState}{d:Drawn}{t:Nat}{os:OsState}
variable{nmm q:Str}{C N x:Addr}{bs bm:List Value}{sn:List Str}{sub:List Value}{ab:Bool}{col:Option Bool}{dd:Option Addr}{k0 k1 k2 k3 k5:Option Value}{newId:String}{name:Str}{v:Value}
theorem excStore{tk:Tok}{Q:Fin->Shared->Prop}{vs:Array Value}(hpass:refuseLoop (.ref x) "__setattr__" bm=pure ())
  (hC:h.get? C=some (excClassObj nmm q C N bs bm true sn sub ab col dd k0 k1 k2 k3 k5 newId)) (hL:Looks (model prog w) h (typeLookup (.ref C) name) none)
  (hx:h.get? x=some { cls:=.ref C,dict:=none,data:=.fields vs,slots:=#[] })
  (hq:∀h' tk',h'.get? x=some { cls:=.ref C,dict:=some h.objs.size,data:=.fields vs,slots:=#[] }->(∀b o,b≠x->h.get? b=some o->h'.get? b=some o)->Q (.done (.ret .none)) ⟨h',g,d,tk',os⟩) :
  wpAny (model prog w) A (Builtin.«object.__setattr__» ⟨[.ref x,.str name tk,v],[]⟩) Q E ⟨h,g,d,t,os⟩:=by
 rw[osa_eq];refine wpAny_bind ?_;rw[refuse_eq];repeat (first|(rw[refuseLoop_ref,hpass])|with_reducible refine wpAny_loadPart_at hx ?_|with_reducible refine wpAny_mroOf_exc hC ?_|wp_step)
 refine hL.here ?_;repeat (first|with_reducible refine wpAny_loadPart_at hx ?_|with_reducible refine wpAny_loadPart_at hC ?_|wp_step)
 have hx₁:(h.push { cls:=.type "dict",data:=.dict #[] }).get? x=some { cls:=.ref C,dict:=none,data:=.fields vs,slots:=#[] }:=Heap.get?_push_of_some _ hx;have hxs:x≠h.objs.size:=Nat.ne_of_lt (Heap.lt_size hx);have D:((h.push { cls:=.type "dict",data:=.dict #[] }).update x λo=>{ cls:=o.cls,dict:=some h.objs.size,data:=o.data,slots:=o.slots }).get? h.objs.size=some { cls:=.type "dict",data:=.dict #[] } :=
  (Heap.get?_update_other _ _ hxs).trans (Heap.get?_push_size _ rfl)
 have X1:((h.push { cls:=.type "dict",data:=.dict #[] }).update x λo=>{ cls:=o.cls,dict:=some h.objs.size,data:=o.data,slots:=o.slots }).get? x=some { cls:=.ref C,dict:=some h.objs.size,data:=.fields vs,slots:=#[] } :=
  Heap.get?_update_self _ hx₁ rfl
 refine wpAny_askSetting (wpAny_pure (wpAny_bind (wpAny_mkText (wpAny_bind (wpAny_loadPart D ?_)))));dsimp only;rw[aRefKeyMayBeTheName_at];rw[if_neg (by simp)];refine wpAny_updatePart D ?_;have D':(((h.push { cls:=.type "dict",data:=.dict #[] }).update x λo=>{ cls:=o.cls,dict:=some h.objs.size,data:=o.data,slots:=o.slots }).update h.objs.size
   (Obj.putName name (if name.cps.isEmpty=true then 0 else reduceHash ((model prog w).w.params.strHash name.cps)) (.str name t) v)).get? h.objs.size=some (dictOf _ _) :=
  (Heap.get?_update_self _ D (by rw[show({ cls:=.type "dict",data:=.dict #[] }:Obj)=dictOf [] 0 from rfl,putName_dict];rfl)).trans (by rw[show({ cls:=.type "dict",data:=.dict #[] }:Obj)=dictOf [] 0 from rfl,putName_dict])
 refine wpAny_bind (wpAny_lookBehind D' ?_ ?_)
 ·exact pastItsLine_dict (by rw[size_toArray,sizeLine_eq];simp[putL])
 ·refine wpAny_pure (hq _ _ ?_ λb o hb e=>?_)
  ·exact(Heap.get?_update_other _ _ hxs.symm).trans X1
  ·have hbs:b≠h.objs.size:=Nat.ne_of_lt (Heap.lt_size e)
   exact(Heap.get?_update_other _ _ hbs.symm).trans ((Heap.get?_update_other _ _ hb.symm).trans (Heap.get?_push_of_some _ e))
theorem ZeY{K:Frag}{Q:Unit->Shared->Prop}{vs:Array Value}(X:K.In h)(hs:findIn K (.ref C) "__setattr__"=some (some (.builtin "object.__setattr__")))(hn:findIn K (.ref C) name=some none)(hmr:mroIn K C (.type "object")=some true)(hpass:refuseLoop (.ref x) "__setattr__" bm=pure ())
  (hC:h.get? C=some (excClassObj nmm q C N bs bm true sn sub ab col dd k0 k1 k2 k3 k5 newId))
  (hx:h.get? x=some { cls:=.ref C,dict:=none,data:=.fields vs,slots:=#[] })
  (hq:∀h' tk',h'.get? x=some { cls:=.ref C,dict:=some h.objs.size,data:=.fields vs,slots:=#[] }->(∀b o,b≠x->h.get? b=some o->h'.get? b=some o)->Q () ⟨h',g,d,tk',os⟩) :
  wpAny (model prog w) A (setAttr (.ref x) name v) Q E ⟨h,g,d,t,os⟩:=by
 have I:InstAt h x { cls:=.ref C,dict:=none,data:=.fields vs,slots:=#[] } C none:=by
  exact⟨hx,rfl,rfl,trivial⟩
 refine set_plain X I hs ?_;have SF:=PySem.F.store_object;have sub':Looks (model prog w) h (isInstance (.ref x) (.type "object")) true:=by
  exact I.type.andThen (looks_mroIn X hmr)
 refine codeAny_call_builtin SF.slot.plain SF.entry (@check_slot (model prog w) _ _ _ "object.__setattr__" "object" "__setattr__" (.ref x) [.str name t,v] [] _ SF.kind SF.split sub' (SF.args (.ref x) (.str name t) v) ?_);exact excStore hpass hC (looks_findIn X hn) hx λh' tk' h1 h2=>hq h' tk' h1 h2
end
end
structure FnAt(w:World)(f:Addr)(n q:String)(s:Stmt)(d pm c:Value):Prop where
 at_:(K0 w.params).lookup f=some ⟨.type "function",none,ffn n q s d pm c,#[]⟩
 code:codeIn (K0 w.params) c (Str.ofString q)=true
 kf:(Zac s).kind=.function
 co:(Zac s).isCoroutine=false
 ge:(Zac s).isGenerator=false
theorem fn40(w:World):FnAt w 40 "__init__" "PageError.__init__" (sb 3 0) (.ref 33) (S "gluepage.errors" 206) (.ref 39):=⟨by kernel_rfl,by kernel_rfl,by kernel_rfl,by kernel_rfl,by kernel_rfl⟩
abbrev ffd(n q:String)(s:Stmt)(d pm c:Value):FuncData:={ name:=Str.ofString n,qualname:=Str.ofString q,params:=ZbY s,body:=.stmts (ZbX s),scope:=Zac s,globals:=3,closure:=[],defaults:=d,kwdefaults:=.none,pyModule:=pm,code:=c }
example (n q s d pm c):ffn n q s d pm c=.func (ffd n q s d pm c):=rfl
structure ExAt(w:World)(C:Addr)(nmm q:Str)(N:Addr)(bs bm:List Value)(sn:List Str)(sub:List Value)(ab:Bool)(col:Option Bool)(dd:Option Addr)(k0 k1 k2 k3 k5:Option Value):Prop where
 at_:(K0 w.params).lookup C=some (excClassObj nmm q C N bs bm true sn sub ab col dd k0 k1 k2 k3 k5 "ValueError.__new__")
 init:findIn (K0 w.params) (.ref C) "__init__"=some (some (.ref 40))
 sat:findIn (K0 w.params) (.ref C) "__setattr__"=some (some (.builtin "object.__setattr__"))
 rea:findIn (K0 w.params) (.ref C) "reason"=some none
 ob:mroIn (K0 w.params) C (.type "object")=some true
theorem ex56(w:World):ExAt w 56 (Str.ofString "BadArgument") (Str.ofString "BadArgument") 55 [.ref 43] [.ref 43,.type "ValueError",.type "Exception",.type "BaseException",.type "object"] [] [] false none none (some (.ref 47)) none (some (S "BadArgument" 236)) (some (S "BadArgument" 244)) (some (.bool true)) :=
 ⟨by kernel_rfl,by kernel_rfl,by kernel_rfl,by kernel_rfl,by kernel_rfl⟩
theorem ex68(w:World):ExAt w 68 (Str.ofString "Overflow") (Str.ofString "Overflow") 67 [.ref 43] [.ref 43,.type "ValueError",.type "Exception",.type "BaseException",.type "object"] [] [] false none none (some (.ref 59)) none (some (S "Overflow" 252)) (some (S "Overflow" 260)) (some (.bool true)) :=
 ⟨by kernel_rfl,by kernel_rfl,by kernel_rfl,by kernel_rfl,by kernel_rfl⟩
theorem ex80(w:World):ExAt w 80 (Str.ofString "BadAlign") (Str.ofString "BadAlign") 79 [.ref 43] [.ref 43,.type "ValueError",.type "Exception",.type "BaseException",.type "object"] [] [] false none none (some (.ref 71)) none (some (S "BadAlign" 268)) (some (S "BadAlign" 276)) (some (.bool true)) :=
 ⟨by kernel_rfl,by kernel_rfl,by kernel_rfl,by kernel_rfl,by kernel_rfl⟩
theorem ex92(w:World):ExAt w 92 (Str.ofString "TooDeep") (Str.ofString "TooDeep") 91 [.ref 43] [.ref 43,.type "ValueError",.type "Exception",.type "BaseException",.type "object"] [] [] false none none (some (.ref 83)) none (some (S "TooDeep" 284)) (some (S "TooDeep" 292)) (some (.bool true)) :=
 ⟨by kernel_rfl,by kernel_rfl,by kernel_rfl,by kernel_rfl,by kernel_rfl⟩
noncomputable abbrev excL:List Addr:=[56,68,80,92]
theorem exAll(w:World){C:Addr}(h:C∈excL):∃nmm q N bs sn sub ab col dd k0 k1 k2 k3 k5,ExAt w C nmm q N bs [.ref 43,.type "ValueError",.type "Exception",.type "BaseException",.type "object"] sn sub ab col dd k0 k1 k2 k3 k5:=by
 simp only[excL,mem_cons,List.not_mem_nil,or_false] at h;rcases h with rfl|rfl|rfl|rfl
 ·exact⟨_,_,_,_,_,_,_,_,_,_,_,_,_,_,ex56 w⟩
 ·exact⟨_,_,_,_,_,_,_,_,_,_,_,_,_,_,ex68 w⟩
 ·exact⟨_,_,_,_,_,_,_,_,_,_,_,_,_,_,ex80 w⟩
 ·exact⟨_,_,_,_,_,_,_,_,_,_,_,_,_,_,ex92 w⟩
theorem exKeep(w:World){C:Addr}(h:C∈excL):keepIn (K0 w.params) (.ref C)=true:=by
 simp only[excL,mem_cons,List.not_mem_nil,or_false] at h;rcases h with rfl|rfl|rfl|rfl<;>exact all_eq_true.mp (clbAll w) _ (by decide)
section
noncomputable abbrev Zfu:Str:=Str.ofString "self"
noncomputable abbrev Zb6:Str:=Str.ofString "reason"
section
variable{A:Around}{E:Value->Shared->Prop}{w:World}
theorem body40:ZbX (sb 3 0)=[.Assign [.Attribute (.Name Zfu ⟨9,8,9,12⟩) Zb6 ⟨9,8,9,19⟩] (.Name Zb6 ⟨9,22,9,28⟩) ⟨9,8,9,28⟩]:=by kernel_rfl
theorem names40:(Zac (sb 3 0)).names=[(Zfu,NameKind.local),(Zb6,NameKind.local)]:=by kernel_rfl
abbrev fd40:FuncData:=ffd "__init__" "PageError.__init__" (sb 3 0) (.ref 33) (S "gluepage.errors" 206) (.ref 39)
theorem bind40{a b:Value}{s:Shared}(X:(K0 w.params).In s.heap):BindsTo s fd40 ⟨[a,b],[]⟩ [(Zfu,a),(Zb6,b)]:=by
 have e:(K0 w.params).lookup 33=some ⟨.type "tuple",none,sq [S "" 220] 0,#[]⟩:=by kernel_rfl
 exact BindsTo.of_defaults rfl (X _ _ e) rfl (by rfl) (by rfl)
theorem refuse43(x:Value):refuseLoop x "__setattr__" [.ref 43,.type "ValueError",.type "Exception",.type "BaseException",.type "object"]=pure ():=by
 rw[refuseLoop_ref];rfl
theorem init40{s:Shared}{e C:Addr}{vs:Array Value}{av:Value}{Q:Value->Shared->Prop}(hroom:A.depth<recursionLimit)(X:(K0 w.params).In s.heap)(T:s.heap.NoLimit)(hC:C∈excL)
  (he:s.heap.get? e=some { cls:=.ref C,dict:=none,data:=.fields vs,slots:=#[] })
  (k:∀h' tk d,(∀b o,b≠e->s.heap.get? b=some o->h'.get? b=some o)->h'.get? e=some { cls:=.ref C,dict:=some d,data:=.fields vs,slots:=#[] }->Q .none { s with heap:=h',toks:=tk }) :
  wpAny (model P0 w) A (PySem.call (.ref 40) [.ref e,av]) Q E s:=by
 refine hide λPP0 hPP0=>?_
 obtain⟨nmm,q,N,bs,sn,sub,ab,col,dd,k0,k1,k2,k3,k5,EX⟩:=exAll w hC;refine hPP0 ?_;have F:=fn40 w;have nn:=names40;refine wpAny_call (codeAny_call_def (fd:=fd40) (body:=ZbX (sb 3 0)) (binds:=[(Zfu,.ref e),(Zb6,av)]) hroom (X _ _ F.at_) rfl T (codeRec_of X F.code) rfl (bind40 X) (λx hx=>?_) (λx hx=>?_) (λh₁ hns hk=>?_) F.co F.ge F.kf)
 ·rw[show fd40.scope.names=(Zac (sb 3 0)).names from rfl,nn] at hx
  simp only[mem_cons,List.not_mem_nil,or_false] at hx;rcases hx with rfl|rfl<;>simp
 ·rw[show fd40.scope.names=(Zac (sb 3 0)).names from rfl,nn]
  simp only[mem_cons,List.not_mem_nil,or_false] at hx;rcases hx with rfl|rfl<;>rfl
 ·rw[body40]
  refine wpAny_execs_cons (plainObj_wpAny_Assign_Attribute ?_);have kl:∀y,(y=Zfu\/y=Zb6)->(callEnv fd40 s.heap.objs.size 40).kindOf y=some .local:=λy hy=>by
   show(Zac (sb 3 0)).names.lookup y=_;rw[nn];rcases hy with rfl|rfl<;>decide +kernel
  refine ldc F.kf (kl _ (.inr rfl)) hns (v:=av) (by rfl) (ldc F.kf (kl _ (.inl rfl)) hns (v:=.ref e) (by rfl) ?_);have X1:(K0 w.params).In h₁:=X.keeps hk;refine ZeY (d:=s.drawn) (g:=s.gens) (os:=s.os) X1 EX.sat EX.rea EX.ob (refuse43 _) (X1 _ _ EX.at_) (hk _ _ he) λh' tk' h2 h3=>?_
  exact wpAny_execs_nil (k h' tk' _ (λb o hb hq=>h3 b o hb (hk _ _ hq)) h2)
end
end
section
theorem fn40ty(w:World):typeIn (K0 w.params) (.ref 40)=some (.type "function"):=by kernel_rfl
section
variable{G:Gl}{X:Act}{n:Nat}{cel:List Nat}{S:Sg}{ws us:List Value}{s:Shared}{r:List V}{l:List (Option V)}{μ:Led}{cz:Bool}{cx:Cx}{e:Env}{x:Str}{v:V}
theorem Zf6{M:Model}{A:Around}{env:Env}{pos:Pos}{f:Value}{first:List Value}{Q E:Value->Shared->Prop}{s:Shared}(hk:Kept M f s.heap)(h:wpAny M A (call f (first++[])) Q E s) :
  wpAny M A (callWith pos f first (backTo pos (starEach [] env)) []) Q E s :=
 callWith_of (P:=λh=>Kept M f h) rfl (λy h=>h) (evalArgs_nil3 ⟨hk,h⟩)
theorem ZcW{M:Model}{A:Around}{env:Env}{pos:Pos}{f:Value}{first:List Value}{Q E:Value->Shared->Prop}{s:Shared}{a:PySem.Expr}{rest:List PySem.Expr}
  (h:wpAny M A (spliced (backTo pos (starEach (a::rest) env))) (λvs s₁=>Kept M f s₁.heap/\wpAny M A (call f (first++vs)) Q E s₁) E s)
  (he:starEach (a::rest) env=(false,eval a env)::starEach rest env) (hp:(backTo pos (starEach rest env)).any (·.1)=false) :
  wpAny M A (callWith pos f first (backTo pos (starEach (a::rest) env)) []) Q E s:=by
 rw[he] at h⊢;exact callWith_of (P:=λh=>Kept M f h) (by show((false||(backTo pos (starEach rest env)).any (·.1))||false)=false;rw[hp];rfl) (λy h=>h) (evalArgs_plain h)
theorem raiseM{np p cpos pos:Pos}{m:Str}{kk:Nat}{C:Addr}{Ex:Addr->Prop}{Q:Flow->Shared->Prop}(O:AOK G X n)(EO:EnvOK G X cx e)(M:Mod G X cel S ws s)(hC:C∈excL)
  (hk:cx.kd x=some .globalImplicit) (hv:cx.glob x=some (.ref C)) (hd:(x==("__debug__" : Str))=false) (hE:Ex C) :
  wpAny (model P0 G.w) X.A (exec (.Raise (some (.Call (.Name x np) [.Constant (.str m) kk p] [] cpos)) none pos) e) Q (Exc G X Ex) s:=by
 refine hide λPP0 hPP0=>?_
 obtain⟨nmm,q,N,bs,sn,sub,ab,col,dd,k0,k1,k2,k3,k5,EX⟩:=exAll G.w hC;refine hPP0 ?_;rw[arm_exec_Raise];refine wpAny_bind (wpAny_standAt ?_);show wpAny _ _ (raiseStmt e (some (do let v <- eval (.Call (.Name x np) [.Constant (.str m) kk p] [] cpos) e;standAt pos;pure v)) none) _ _ s;refine excRaise (C:=C) (nmm:=nmm) (q:=q) (N:=N) (bs:=bs) (bm:=[.ref 43,.type "ValueError",.type "Exception",.type "BaseException",.type "object"]) (hdct:=true) (sn:=sn) (sub:=sub) (ab:=ab) (col:=col) (dd:=dd) (k0:=k0) (k1:=k1) (k2:=k2) (k3:=k3) (k5:=k5) (newId:="ValueError.__new__") (by decide) O.hh ?_;refine wpAny_bind ?_;refine Call_ ?_;refine globM O EO M hk hv hd λw1 s1 M1=>?_
 have kin:∀{S ws s},Mod G X cel S ws s->(K0 G.w.params).In s.heap/\s.heap.NoLimit:=λ{S ws s} M=>by
  refine hide λPP1 hPP1=>?_
  obtain⟨fz,mu,cs,I,y⟩:=M;refine hPP1 ?_;have st:∀b o,G.hb.get? b=some o->s.heap.get? b=some o:=λb o q=>I.st _ _ (O.st _ _ q)
  exact⟨G.K.keeps st,G.T.nolimit.keeps st⟩
 have hw1:w1=.ref C:=by
  refine hide λPP2 hPP2=>?_
  obtain⟨fz,mu,cs,I,RL,Z,SL,o1,o2⟩:=M1;refine hPP2 ?_;cases Z with|cons z _=>cases z;rfl
 subst hw1;refine ZcW (Calls.spliced_cons ?_) rfl rfl;show wpAny _ _ (eval (.Constant (.str m) kk p) e) _ _ _;refine constM (v:=.str m) O M1 rfl λw2 s2 M2=>?_
 refine Calls.spliced_nil ?_;obtain⟨X2,T2⟩:=kin M2;refine⟨keeps_K (exKeep G.w hC) s2.heap X2,?_⟩;refine hide λPP3 hPP3=>?_
 obtain⟨hp,g,d,t,os⟩:=s2;refine hPP3 ?_;have hr:X.A.depth+1<recursionLimit:=by
  have:=O.dep;have:=O.nb;show X.A.depth+1<1000;lia
 have e43:([.ref 43,.type "ValueError",.type "Exception",.type "BaseException",.type "object"]:List Value).contains (.type "ValueError")=true:=by decide
 refine excCall PySem.F.excBase_ValueError e43 (by decide) (by decide) (X2 _ _ EX.at_) (looks_findIn X2 EX.init) (λself=>bind_fn X2 self (fn40ty G.w)) ?_ (by size_fits);have kp:∀b o,hp.get? b=some o->((hp.push { cls:=.type "tuple",data:=.seq [w2].toArray }).push { cls:=.ref C,data:=.fields #[.ref hp.objs.size,.none,.none,.none,.bool false,.none] }).get? b=some o:=λb o e=>Heap.get?_push_of_some _ (Heap.get?_push_of_some _ e)
 have hes:hp.get? (hp.objs.size+1)=none:=Heap.get?_none_of_le (Nat.le_succ _);refine init40 (vs:=#[.ref hp.objs.size,.none,.none,.none,.bool false,.none]) ?_ (X2.keeps kp) (T2.keeps kp) hC ?_ λh' tk dx kx hx=>⟨rfl,?_⟩
 ·exact hr
 ·have:=Heap.get?_push_size (hp.push { cls:=.type "tuple",data:=.seq [w2].toArray }) (o:={ cls:=.ref C,data:=.fields #[.ref hp.objs.size,.none,.none,.none,.bool false,.none] }) rfl
  rw[Heap.size_push] at this;exact this
 ·have kk:∀b o,hp.get? b=some o->h'.get? b=some o:=λb o q=>kx b o (λz=>by rw[z,hes] at q;cases q) (kp b o q)
  refine wpAny_bind (wpAny_standAt (wpAny_pure ⟨_,_,_,rfl,X2.keeps kk _ _ EX.at_,hx,rfl,rfl,rfl,?_⟩));refine hide λPP4 hPP4=>?_
  obtain⟨fz,mu,cs,I,RL,Z,SL,o1,o2⟩:=M2;refine hPP4 ?_;refine⟨_,C,fz,rfl,hE,(I.ext kk).sub (List.nil_sublist _) (λp hp=>nomatch hp),.inr (.inl ⟨_,_,.ref hp.objs.size,hx,rfl,rfl,rfl,rfl,I.none0 hes,λq=>?_,λq=>?_⟩),o1,o2⟩
  ·obtain⟨z,hz,ez⟩:=mem_map.mp q
   have:=I.fzh z hz;rw[ez,hes] at this;cases this
  ·obtain⟨ps,ep,y⟩:=I.tab _ q
   rw[hes] at ep;cases ep
end
end
section
section
variable{CK:CKT}{cel:List Nat}
theorem WI_q{i:IX}{S:Sg}{K Z:Sg->Prop}{Q:Post}:WI CK cel i S K { Q with nx:=Z }=WI CK cel i S K Q:=by
 cases i<;>rfl
theorem W_app:∀{a b:List IX}{S:Sg}{Q:Post},Wr CK cel (a++b) S Q=Wr CK cel a S { Q with nx:=λS'=>Wr CK cel b S' Q }
 |[],_,_,_=>rfl
 |i::a,b,S,Q=>by
  show WI CK cel i S (λS'=>Wr CK cel (a++b) S' Q) Q=WI CK cel i S (λS'=>Wr CK cel a S' { Q with nx:=λS'=>Wr CK cel b S' Q }) { Q with nx:=λS'=>Wr CK cel b S' Q };have:(λS'=>Wr CK cel (a++b) S' Q)=λS'=>Wr CK cel a S' { Q with nx:=λS'=>Wr CK cel b S' Q }:=funext λS'=>W_app
  rw[this];exact WI_q.symm
theorem Wr.e{c0 code:List IX}{S:Sg}{Q:Post}(h:some c0=some code)(hW:Wr CK cel code S Q):Wr CK cel c0 S Q:=Option.some.inj h▸hW
theorem Wr.app{a b:List IX}{S:Sg}{Q:Post}(h:Wr CK cel (a++b) S Q):Wr CK cel a S { Q with nx:=λS'=>Wr CK cel b S' Q }:=W_app▸h
theorem ZcY{a b:List IX}{S:Sg}{Q:Post}:Wr CK cel [.ite a b] S Q=BK (λc S'=>(c=true->Wr CK cel a S' Q)/\(c=false->Wr CK cel b S' Q)) S:=rfl
theorem W_not1{S:Sg}{Q:Post}:Wr CK cel [.not] S Q=BK (λb S'=>Q.nx { S' with stk:=.bool (!b)::S'.stk }) S:=by
 rfl
end
structure Cn(G:Gl)(X:Act)(N:Nat)(cel:List Nat)(cx:Cx)(e:Env):Prop where
 O:AOK G X N
 EO:EnvOK G X cx e
 lt:∀i∈cel,i<cx.nx
 tp:cx.top=true->TopOK G X cel cx e
def EvAt(G:Gl)(N:Nat)(CK:CKT)(n:Nat)(ex:PySem.Expr):Prop:=∀{X:Act}{cel:List Nat}{cx:Cx}{e:Env}{code:List IX}{S:Sg}{Q:Post}{s:Shared}{ws:List Value},xE n cx ex=some code->Cn G X N cel cx e ->
 Wr CK cel code S Q->Mod G X cel S ws s->wpAny (model P0 G.w) X.A (eval ex e) (λw s'=>MR G X cel Q.nx (w::ws) s') (Exc G X Q.ex) s
def EvOK(G:Gl)(N:Nat)(CK:CKT)(n:Nat):Prop:=∀{ex:PySem.Expr},EvAt G N CK n ex
def TrAt(G:Gl)(N:Nat)(CK:CKT)(n:Nat)(ex:PySem.Expr):Prop:=∀{X:Act}{cel:List Nat}{cx:Cx}{e:Env}{code:List IX}{S:Sg}{K:Bool->Sg->Prop}{rt:V->Led->Prop}{exx:Addr->Prop}{s:Shared}{ws:List Value},xE n cx ex=some code->Cn G X N cel cx e ->
 Wr CK cel code S ⟨BK K,rt,exx⟩->Mod G X cel S ws s->wpAny (model P0 G.w) X.A (isTrue ex e (eval ex e)) (λb s'=>MR G X cel (K b) ws s') (Exc G X exx) s
def TrOK(G:Gl)(N:Nat)(CK:CKT)(n:Nat):Prop:=∀{ex:PySem.Expr},TrAt G N CK n ex
theorem EvAt.no{G:Gl}{N n:Nat}{CK:CKT}{ex:PySem.Expr}(h:∀cx,xE n cx ex=none):EvAt G N CK n ex:=λ{X cel cx e code S Q s ws} hx=>Internal.no hx (h cx)
def Zdl(G:Gl)(N:Nat)(CK:CKT)(n:Nat):Prop:=∀{X:Act}{cel:List Nat}{cx:Cx}{e:Env}{es:List PySem.Expr}{code:List IX}{pos:Pos},xEs n cx es=some code->Cn G X N cel cx e ->
 ∀{S:Sg}{Q:Post}{s:Shared}{ws:List Value},Wr CK cel code S Q->Mod G X cel S ws s ->
  wpAny (model P0 G.w) X.A (spliced (backTo pos (starEach es e))) (λvs s'=>vs.length=es.length/\MR G X cel Q.nx (vs.reverse++ws) s') (Exc G X Q.ex) s
def BvOK(G:Gl)(N:Nat)(CK:CKT)(n:Nat):Prop:=∀{X:Act}{cel:List Nat}{cx:Cx}{e:Env}{op:BoolOp}{es:List PySem.Expr}{code:List IX}{pos:Pos},xB n cx op es=some code->Cn G X N cel cx e ->
 ∀{S:Sg}{Q:Post}{s:Shared}{ws:List Value},Wr CK cel code S Q->Mod G X cel S ws s->wpAny (model P0 G.w) X.A (eval (.BoolOp op es pos) e) (λw s'=>MR G X cel Q.nx (w::ws) s') (Exc G X Q.ex) s
def BtOK(G:Gl)(N:Nat)(CK:CKT)(n:Nat):Prop:=∀{X:Act}{cel:List Nat}{cx:Cx}{e:Env}{op:BoolOp}{es:List PySem.Expr}{code:List IX}{pos:Pos}{whole:Sem Value},xB n cx op es=some code->Cn G X N cel cx e ->
 ∀{S:Sg}{K:Bool->Sg->Prop}{rt:V->Led->Prop}{exx:Addr->Prop}{s:Shared}{ws:List Value},Wr CK cel code S ⟨BK K,rt,exx⟩->Mod G X cel S ws s ->
  wpAny (model P0 G.w) X.A (isTrue (.BoolOp op es pos) e whole) (λb s'=>MR G X cel (K b) ws s') (Exc G X exx) s
def CvOK(G:Gl)(N:Nat)(CK:CKT)(n:Nat):Prop:=∀{X:Act}{cel:List Nat}{cx:Cx}{e:Env}{ops:List CmpOp}{rs:List PySem.Expr}{code:List IX}{pos:Pos},xC n cx ops rs=some code->Cn G X N cel cx e ->
 ∀{S:Sg}{Q:Post}{s:Shared}{wa:Value}{ws:List Value},Wr CK cel code S Q->Mod G X cel S (wa::ws) s->wpAny (model P0 G.w) X.A (compareChain pos wa ops (evalEach rs e)) (λw s'=>MR G X cel Q.nx (w::ws) s') (Exc G X Q.ex) s
def CtOK(G:Gl)(N:Nat)(CK:CKT)(n:Nat):Prop:=∀{X:Act}{cel:List Nat}{cx:Cx}{e:Env}{ops:List CmpOp}{rs:List PySem.Expr}{code:List IX}{pos:Pos},xC n cx ops rs=some code->Cn G X N cel cx e ->
 ∀{S:Sg}{K:Bool->Sg->Prop}{rt:V->Led->Prop}{exx:Addr->Prop}{s:Shared}{wa:Value}{ws:List Value},Wr CK cel code S ⟨BK K,rt,exx⟩->Mod G X cel S (wa::ws) s ->
  wpAny (model P0 G.w) X.A (testChain pos wa ops (evalEach rs e)) (λb s'=>MR G X cel (K b) ws s') (Exc G X exx) s
section
variable{G:Gl}{X:Act}{N n:Nat}{CK:CKT}{cel:List Nat}{cx:Cx}{e:Env}{S:Sg}{Q:Post}{s:Shared}{ws:List Value}
theorem Zgh{K:Bool->Sg->Prop}{b:Bool}(O:AOK G X N)(M:Mod G X cel S ws s)(h:BK K { S with stk:=.bool b::S.stk }):MR G X cel (K b) ws s:=by
 have M1:Mod G X cel { S with stk:=.bool b::S.stk } (.bool b::ws) s:=M.atom O rfl rfl rfl (λj z=>z) λj=>.bool
 obtain⟨b',r,l,μ,cz,st,hk⟩:=h;have M2:=M1.st st;have:=M2.boolTop;cases this;exact⟨_,M2.next O (.of λj j e=>e) rfl rfl λj z=>z.tail,hk⟩
theorem Zgg{K:Bool->Sg->Prop}{w:Value}(O:AOK G X N)(M:Mod G X cel S (w::ws) s)(h:BK K S):∃b S',w=.bool b/\Mod G X cel S' ws s/\K b S':=by
 obtain⟨b',r,l,μ,cz,st,hk⟩:=h;have M2:=M.st st;exact⟨b',_,M2.boolTop,M2.next O (.of λj j e=>e) rfl rfl λj z=>z.tail,hk⟩
theorem ifnE{α:Type}{P:Prop}{c:Prop}{_:Decidable c}{a:Option α}{x:α}(h:(if c then none else a)=some x)(K:¬c->a=some x->P):P:=K (ifn h).1 (ifn h).2
theorem xC_e{n:Nat}{cx:Cx}{ops:List CmpOp}{rs:List PySem.Expr}{code:List IX}{P:List CmpOp->List PySem.Expr->List IX->Prop}(h:xC (n+1) cx ops rs=some code)
  (K:∀op r b,xE n cx r=some b->¬(op==.In||op==.NotIn)=true->P [op] [r] (b++[.cmp op]))
  (L:∀op r o os r' rs' b c,xE n cx r=some b->xC n cx (o::os) (r'::rs')=some c->P (op::o::os) (r::r'::rs') (b++[.chain op c])):P ops rs code:=by
 cases ops with
 |nil=>exact no h rfl
 |cons op os=>cases rs with
  |nil=>exact no h (by cases os<;>rfl)
  |cons r rs=>cases os with
   |nil=>cases rs with
    |nil=>exact bdE h λb hb h=>ifnE h λq h=>Option.some.inj h▸K op r b hb q
    |cons r' rs=>exact bdE h λb hb h=>bdE h λc hc h=>no hc (by cases n<;>rfl)
   |cons o os=>cases rs with
    |nil=>exact bdE h λb hb h=>bdE h λc hc h=>no hc (by cases n<;>cases os<;>rfl)
    |cons r' rs=>exact bdE h λb hb h=>bdE h λc hc h=>ifnE h λq h=>Option.some.inj h▸L op r o os r' rs b c hb hc
theorem xB_e{n:Nat}{cx:Cx}{op:BoolOp}{es:List PySem.Expr}{code:List IX}{P:List PySem.Expr->List IX->Prop}(h:xB (n+1) cx op es=some code)(K:∀e,xE n cx e=some code->P [e] code)
  (L:∀e b es' x y,xE n cx e=some x->xB n cx op (b::es')=some y->P (e::b::es') (x++[match(generalizing:=false) op with|.And=>.ite y [.c (.bool false)]|.Or=>.ite [.c (.bool true)] y])):P es code:=by
 cases es with
 |nil=>exact no h rfl
 |cons e es=>cases es with
  |nil=>exact K e h
  |cons b es=>exact bdE h λx hx h=>bdE h λy hy h=>Option.some.inj h▸L e b es x y hx hy
theorem lastM:∀{n:Nat}{cx:Cx}{ops:List CmpOp}{rs:List PySem.Expr}{code:List IX},xC n cx ops rs=some code->lastMarks ops rs=false
 |0,_,_,_,_,h=>no h rfl
 |n+1,_,_,_,_,h=>by
  refine xC_e (P:=λops rs j=>lastMarks ops rs=false) h (λop r b hb q=>?_) λop r o os r' rs b c hb hc=>(lastM (ops:=o::os) hc :)
  have k:(op==CmpOp.In||op==CmpOp.NotIn)=false:=eq_false_of_ne_true q;cases r<;>first|rfl|(show(_&&(op==CmpOp.In||op==CmpOp.NotIn)&&_)=false;rw[k,Bool.and_false];rfl)
theorem ZdQ{a:PySem.Expr}{rest:List PySem.Expr}{c:List IX}(h:xE n cx a=some c):starEach (a::rest) e=(false,eval a e)::starEach rest e:=by
 cases a<;>first|rfl|exact no h (by cases n<;>rfl)
theorem ZeF{pos:Pos}:∀{n:Nat}{es:List PySem.Expr}{c:List IX},xEs n cx es=some c->(backTo pos (starEach es e)).any (·.1)=false:=by
 intro n;induction n with
 |zero=>intro es c h;exact no h rfl
 |succ n ih =>
  intro es c h;cases es with
  |nil=>rfl
  |cons a es =>
   obtain⟨x,hx,h⟩:=bd h;obtain⟨y,hy,h⟩:=bd h;rw[ZdQ hx];show(false||(backTo pos (starEach es e)).any (·.1))=false;rw[ih hy];rfl
end
end
section
section
variable{G:Gl}{N n:Nat}{CK:CKT}
theorem evsStep(h1:EvOK G N CK n)(h2:Zdl G N CK n):Zdl G N CK (n+1):=by
 intro X cel cx e es code pos hx C S Q s ws hW M;cases es with
 |nil =>
  replace hW:=Wr.e hx hW
  exact args_nil ⟨rfl,S,M,hW⟩
 |cons a es =>
  replace hx:=bd hx;obtain⟨x,hx,h⟩:=hx;obtain⟨y,hy,h⟩:=bd h;cases h
  replace hW:=hW.app
  refine args_cons ?_ (ZdQ hx);refine wpAny_mono (h1 hx C hW M) (λw s1 q=>?_) λj j q=>q
  obtain⟨S1,M1,hW1⟩:=q;refine wpAny_mono (h2 hy C hW1 M1) (λvs s2 q=>?_) λj j q=>q
  obtain⟨hl,S2,M2,hQ⟩:=q;exact⟨by simp[hl],S2,by simpa using M2,hQ⟩
theorem bvStep(h1:EvOK G N CK n)(h2:BvOK G N CK n):BvOK G N CK (n+1):=by
 intro X cel cx e op es code pos hx0 C S Q s ws hW0 M;refine xB_e (P:=λes code=>Wr CK cel code S Q->wpAny (model P0 G.w) X.A (eval (.BoolOp op es pos) e) (λw s'=>MR G X cel Q.nx (w::ws) s') (Exc G X Q.ex) s) hx0 (λa hx hW=>BoolOp_one (h1 hx C hW M)) (λa b es x y hx hy hW=>?_) hW0;replace hW:=hW.app;clear hx0 hW0;cases op with
 |And =>
  refine BoolOp_and (wpAny_mono (h1 hx C hW M) (λw s1 q=>?_) λj j q=>q);obtain⟨S1,M1,hW1⟩:=q;simp only[ZcY] at hW1;obtain⟨c,S2,rfl,M2,k1,k2⟩:=Zgg C.O M1 hW1;refine wpAny_truthy_bool ?_;cases c with
  |true=>rw[if_pos rfl];exact h2 hy C (k1 rfl) M2
  |false =>
   rw[if_neg (by decide)];obtain⟨r3,l3,μ3,cz3,st,hq⟩:=k2 rfl;exact⟨_,(M2.st st).atom C.O rfl rfl rfl (λj z=>z) λj=>.bool,hq⟩
 |Or =>
  refine BoolOp_or (wpAny_mono (h1 hx C hW M) (λw s1 q=>?_) λj j q=>q);obtain⟨S1,M1,hW1⟩:=q;simp only[ZcY] at hW1;obtain⟨c,S2,rfl,M2,k1,k2⟩:=Zgg C.O M1 hW1;refine wpAny_truthy_bool ?_;cases c with
  |false=>rw[if_neg (by decide)];exact h2 hy C (k2 rfl) M2
  |true =>
   rw[if_pos rfl];obtain⟨r3,l3,μ3,cz3,st,hq⟩:=k1 rfl;exact⟨_,(M2.st st).atom C.O rfl rfl rfl (λj z=>z) λj=>.bool,hq⟩
theorem btStep(h1:TrOK G N CK n)(h2:BtOK G N CK n):BtOK G N CK (n+1):=by
 intro X cel cx e op es code pos whole hx0 C S K rt exx s ws hW0 M;refine xB_e (P:=λes code=>Wr CK cel code S ⟨BK K,rt,exx⟩->wpAny (model P0 G.w) X.A (isTrue (.BoolOp op es pos) e whole) (λb s'=>MR G X cel (K b) ws s') (Exc G X exx) s) hx0 (λa hx hW=>?_) (λa b es x y hx hy hW=>?_) hW0
 ·clear hx0 hW0
  cases op with
  |And =>
   refine isTrue_and (wpAny_mono (h1 hx C hW M) (λb s1 q=>?_) λj j q=>q);cases b with
   |true=>rw[if_pos rfl];exact isTrue_and_nil q
   |false=>rw[if_neg (by decide)];exact q
  |Or =>
   refine isTrue_or (wpAny_mono (h1 hx C hW M) (λb s1 q=>?_) λj j q=>q);cases b with
   |true=>rw[if_pos rfl];exact q
   |false=>rw[if_neg (by decide)];exact isTrue_or_nil q
 ·replace hW:=hW.app
  clear hx0 hW0;cases op with
  |And =>
   simp only[ZcY] at hW;refine isTrue_and (wpAny_mono (h1 hx C hW M) (λb s1 q=>?_) λj j q=>q);obtain⟨S1,M1,k1,k2⟩:=q;cases b with
   |true=>rw[if_pos rfl];exact h2 hy C (k1 rfl) M1
   |false =>
    rw[if_neg (by decide)];obtain⟨r3,l3,μ3,cz3,st,hq⟩:=k2 rfl;exact Zgh C.O (M1.st st) hq
  |Or =>
   simp only[ZcY] at hW;refine isTrue_or (wpAny_mono (h1 hx C hW M) (λb s1 q=>?_) λj j q=>q);obtain⟨S1,M1,k1,k2⟩:=q;cases b with
   |false=>rw[if_neg (by decide)];exact h2 hy C (k2 rfl) M1
   |true =>
    rw[if_pos rfl];obtain⟨r3,l3,μ3,cz3,st,hq⟩:=k1 rfl;exact Zgh C.O (M1.st st) hq
theorem cvStep(h1:EvOK G N CK n)(h2:CvOK G N CK n):CvOK G N CK (n+1):=by
 intro X cel cx e ops rs code pos hx C S Q s wa ws hW M;refine xC_e (P:=λops rs code=>Wr CK cel code S Q->wpAny (model P0 G.w) X.A (compareChain pos wa ops (evalEach rs e)) (λw s'=>MR G X cel Q.nx (w::ws) s') (Exc G X Q.ex) s) hx (λop r b hb j hW=>?_) (λop r o ops r' rs b c hb hc hW=>?_) hW
 ·refine chain_last (wpAny_mono (h1 hb C hW.app M) (λw s1 q=>?_) λj j q=>q)
  obtain⟨S1,M1,hW1⟩:=q;obtain⟨x,y,c,r',l,μ,cz,st,hc,hq⟩:=hW1;exact cmpM C.O (M1.st st) hc λs' es M'=>⟨_,M',hq⟩
 ·refine chain_link (wpAny_mono (h1 hb C hW.app M) (λw s1 q=>?_) λj j q=>q)
  obtain⟨S1,M1,hW1⟩:=q;obtain⟨x,y,t,r2,l,μ,cz,st,hcv,k1,k2⟩:=hW1;have M1':=M1.st st;refine cmpM C.O M1' hcv λs' es M'=>?_
  subst es;refine wpAny_truthy_bool ?_;cases t with
  |false=>rw[if_neg (by decide)];exact⟨_,M',k2 rfl⟩
  |true =>
   rw[if_pos rfl];exact h2 hc C (k1 rfl) (M1'.next C.O (.of λj j e=>e) rfl rfl λfz z=>.cons z.head z.tail.tail)
theorem ctStep(h1:EvOK G N CK n)(h2:CtOK G N CK n):CtOK G N CK (n+1):=by
 intro X cel cx e ops rs code pos hx C S K rt exx s wa ws hW M;refine xC_e (P:=λops rs code=>Wr CK cel code S ⟨BK K,rt,exx⟩->wpAny (model P0 G.w) X.A (testChain pos wa ops (evalEach rs e)) (λb s'=>MR G X cel (K b) ws s') (Exc G X exx) s) hx (λop r b hb j hW=>?_) (λop r o ops r' rs b c hb hc hW=>?_) hW
 ·refine test_last (wpAny_mono (h1 hb C hW.app M) (λw s1 q=>?_) λj j q=>q)
  obtain⟨S1,M1,hW1⟩:=q;obtain⟨x,y,c,r',l,μ,cz,st,hc,hq⟩:=hW1;refine cmpM C.O (M1.st st) hc λs' es M'=>?_
  subst es;exact wpAny_truthy_bool (Zgh (S:=⟨r',l,μ,cz⟩) C.O (M'.next C.O (.of λj j e=>e) rfl rfl λj z=>z.tail) hq)
 ·refine test_link (wpAny_mono (h1 hb C hW.app M) (λw s1 q=>?_) λj j q=>q)
  obtain⟨S1,M1,hW1⟩:=q;obtain⟨x,y,t,r2,l,μ,cz,st,hcv,k1,k2⟩:=hW1;have M1':=M1.st st;refine cmpM C.O M1' hcv λs' es M'=>?_
  subst es;refine wpAny_truthy_bool ?_;cases t with
  |false =>
   rw[if_neg (by decide)];exact Zgh (S:=⟨r2,l,μ,cz⟩) C.O (M'.next C.O (.of λj j e=>e) rfl rfl λj z=>z.tail) (k2 rfl)
  |true =>
   rw[if_pos rfl];exact h2 hc C (k1 rfl) (M1'.next C.O (.of λj j e=>e) rfl rfl λfz z=>.cons z.head z.tail.tail)
end
end
section
theorem noSet{n:Nat}{cx:Cx}{it:PySem.Expr}{c:List IX}(h:xE n cx it=some c)(env:Env)(x:Value):foldedSetIterable it env x=pure x:=by
 cases it<;>first|rfl|(exact no h (by cases n<;>rfl))
theorem xG_inv{n:Nat}{cx:Cx}{t it:PySem.Expr}{ifs:List PySem.Expr}{as:Int}{gs:List Comprehension}{el:PySem.Expr}{cb:CB}(h:xG (n+1) cx [] (⟨t,it,ifs,as⟩::gs) el=some cb) :
  ∃a tg b,as=0/\xE n cx it=some a/\xTg cx t=some tg/\tg.own cx.lo=true/\xG n cx ifs gs el=some b/\cb=.loop a tg b:=by
 rcases as with(_|_)|_<;>try exact no h rfl
 ·obtain⟨a,tg,ha,ht,h⟩:=bd2 h;obtain⟨q,h⟩:=ifn h;obtain⟨b,hb,h⟩:=bd h;cases h
  exact⟨a,tg,b,rfl,ha,ht,by simpa using q,hb,rfl⟩
theorem noSets:∀{n:Nat}{cx:Cx}{ifs:List PySem.Expr}{gs:List Comprehension}{el:PySem.Expr}{cb:CB},xG n cx ifs gs el=some cb->∀g∈gs,g.is_async=0/\∀env x,foldedSetIterable g.iter env x=pure x:=by
 intro n;induction n with
 |zero=>intro cx ifs gs el cb h;exact no h rfl
 |succ n ih =>
  intro cx ifs gs el cb h g hg;rcases ifs with _|⟨c,_|_⟩
  ·rcases gs with _|⟨⟨t,it,ifs,as⟩,gs⟩
   ·cases hg
   ·obtain⟨a,tg,b,rfl,ha,y,y,hb,y⟩:=xG_inv h
    rcases mem_cons.mp hg with rfl|hg
    ·exact⟨rfl,noSet ha⟩
    ·exact ih hb g hg
  ·obtain⟨a,b,y,hb,y⟩:=bd2 h
   exact ih hb g hg
  ·exact no h rfl
def GOK(G:Gl)(N:Nat)(CK:CKT)(n:Nat):Prop:=∀{cx:Cx}{ifs:List PySem.Expr}{gs:List Comprehension}{el:PySem.Expr}{cb:CB},xG n cx ifs gs el=some cb->cx.top=false->∀{cel:List Nat},(∀i∈cel,i<cx.lo)->cx.lo<=cx.nx ->
 ∀{gens:List Comprehension}{scope:Scope}{pos:Pos}{d:Nat},gens.drop (d+1)=gs->∀{X:Act}{env:Env},AOK G X N->EnvOK G X cx env ->
 ∀{D:Addr}{l:List (Option V)}{μ:Led}{acc:List V}{cz:Bool}{s:Shared}{F:Led->List V->List (Option V)->Prop},acc.length<2^20->WC CK cel cb l cz μ acc F->CSt G X cel D acc ⟨[],l,μ,cz⟩ [] s ->
  wpAny (model P0 G.w) X.A (tests ifs env) (λok s₃=>if ok=true then turnTail G X.A (.ListComp el gens scope pos) el env D gens[d+1]? d (CFin G X cel D cz F) s₃ else CFin G X cel D cz F s₃) (λy y=>False) s
theorem excNo{G:Gl}{X:Act}{x:Value}{s:Shared}(h:Exc G X (λy=>False) x s):False:=by
 obtain⟨y,C,y,y,hE,y⟩:=h;exact hE
def GtOK(G:Gl)(N:Nat)(CK:CKT)(n:Nat):Prop:=∀{cx:Cx}{gs:List Comprehension}{el:PySem.Expr}{cb:CB},xG n cx [] gs el=some cb->cx.top=false->∀{cel:List Nat},(∀i∈cel,i<cx.lo)->cx.lo<=cx.nx ->
 ∀{gens:List Comprehension}{scope:Scope}{pos:Pos}{d:Nat},gens.drop (d+1)=gs->∀{X:Act}{env:Env},AOK G X N->EnvOK G X cx env ->
 ∀{D:Addr}{l:List (Option V)}{μ:Led}{acc:List V}{cz:Bool}{s:Shared}{F:Led->List V->List (Option V)->Prop},acc.length<2^20->WC CK cel cb l cz μ acc F->CSt G X cel D acc ⟨[],l,μ,cz⟩ [] s ->
  turnTail G X.A (.ListComp el gens scope pos) el env D gens[d+1]? d (CFin G X cel D cz F) s
section
variable{G:Gl}{N n:Nat}{CK:CKT}
theorem Zc1{M:Model}{A:Around}{α:Type}{m:Sem α}{Q:α->Shared->Prop}{s:Shared}{X:Act}(h:wpAny M A m Q (Exc G X λy=>False) s):wpAny M A m Q (λy y=>False) s :=
 wpAny_mono h (λy y q=>q) λy y q=>excNo q
theorem drop_one{α:Type}{l:List α}{d:Nat}{a:α}{r:List α}(h:l.drop d=a::r):l[d]?=some a/\l.drop (d+1)=r:=by
 obtain⟨h1,h2⟩:=Zdf h.symm;exact⟨h1,h2.symm⟩
theorem gtStep(h1:EvOK G N CK n)(h2:GOK G N CK n):GtOK G N CK (n+1):=by
 intro cx gs el cb hx htop cel hlt hle gens scope pos d hd X env O EO D l μ acc cz s F hl hW C;have Cn':∀{X':Act},AOK G X' N->EnvOK G X' cx env->Cn G X' N cel cx env:=λO' EO'=>⟨O',EO',λi hi=>Nat.lt_of_lt_of_le (hlt i hi) hle,λh=>by rw[htop] at h;cases h⟩
 cases gs with
 |nil =>
  refine bdE hx λa ha hx=>?_
  cases hx;have hn:gens[d+1]?=none:=by
   have:=congrArg List.length hd;simp at this;exact List.getElem?_eq_none (Nat.sub_eq_zero_iff_le.mp this)
  rw[hn];show wpAny _ _ _ _ _ _;refine wpAny_mono (CSt.use (m:=eval el env) (f:=λw=>[w]) (Q:=λw S'=>∃v,S'.stk=[v]/\S'.cz=cz/\F S'.μ (acc++[v]) S'.l) O EO C λX' O' EO' eA eE M=>?_) (λw s1 q=>?_) λy y q=>q
  ·rw[<- eA]
   refine Zc1 (wpAny_mono (h1 ha (Cn' O' EO') hW M) (λw s' q=>?_) λy y q=>q);obtain⟨S1,M1,S2,st,hv⟩:=q;exact⟨S2,M1.st st,hv⟩
  ·obtain⟨S1,C1,v,e1,e2,hF⟩:=q
   obtain⟨stk,l1,μ1,cz1⟩:=S1;simp only at e1 e2 hF;subst e1 e2;exact CSt.push O C1 hl λs' C2=>⟨_,_,_,hF,C2⟩
 |cons g gs' =>
  obtain⟨t,it,ifs,as⟩:=g;replace hx:=xG_inv hx;obtain⟨a,tg,b,rfl,ha,htg,hown,hb,rfl⟩:=hx
  ·obtain⟨hg,hd'⟩:=drop_one hd
   rw[hg];show wpAny _ _ _ _ _ _;refine wpAny_mono (CSt.use (m:=eval it env) (f:=λw=>[w]) (Q:=λw S=>∃it items,S.stk=[it]/\S.cz=cz/\Items it items/\∃Inv:List V->List V->Led->List (Option V)->Prop,Inv items acc S.μ S.l /\
     (∀v rest acc μ l,Inv (v::rest) acc μ l->(∃l',BT tg v l l')/\∀l',BT tg v l l'->acc.length<2^20/\WC CK cel b l' cz μ acc (λμ' acc' l''=>Inv rest acc' μ' l''))/\∀acc μ l,Inv [] acc μ l->F μ acc l) O EO C λX' O' EO' eA eE M=>?_) (λw s1 q=>?_) λy y q=>q
   ·rw[<- eA]
    refine Zc1 (wpAny_mono (h1 ha (Cn' O' EO') hW M) (λw s' q=>?_) λy y q=>q);obtain⟨S1,M1,S2,st,hv⟩:=q;exact⟨S2,M1.st st,hv⟩
   ·obtain⟨S1,C1,itv,items,e1,e2,hi,Inv,h0,hstep,hend⟩:=q
    obtain⟨stk,l1,μ1,cz1⟩:=S1;simp only at e1 e2 h0;subst e1 e2;obtain⟨fz,mu,cs,aws,c,I,RL,Z,SL,p,hD,za,o1,o2⟩:=C1;cases Z with|cons z Z =>
    refine iterM I.fzh hi z λo T=>?_
    have hfresh:=ZaM s1.heap;have p':Pin X (mu++cs) fz (s1.heap.push o) D:=⟨p.dyn,p.fz,p.h0⟩;have CI:CIt G X cel D s1.heap.objs.size items acc l1 cz1 μ1 { s1 with heap:=s1.heap.push o } :=
     ⟨fz,mu,cs,aws,c,I.ext Zam,RL,SL.mono Zam λy q=>q,p',Zam _ _ hD,za,T,Pin.fresh I hfresh,o1,o2⟩
    have hlo:∀i∈tg.ixs,cx.lo<=i:=λi hi=>by
     exact of_decide_eq_true (all_eq_true.mp hown i hi)
    have main:=loopM (CK:=CK) (elt:=el) (gens:=gens) (scope:=scope) (pos:=pos) (d:=d+1) (b:=b) (F:=F) O EO hg
     (λg' h=>by
      have:g'∈gs':=by rw[<- hd'];exact List.mem_of_getElem? (i:=0) (by simpa using h)
      obtain⟨q1,q2⟩:=noSets hb g' this;exact⟨q1,q2 env⟩) htg hlo hlt CI h0 hstep hend
     (λX' OX EX eA eE l μ acc s F' hl hW hC=>by
      have:=h2 hb htop hlt hle (gens:=gens) (scope:=scope) (pos:=pos) (d:=d+1) hd' OX EX hl hW hC;rw[eA] at this;exact this)
    exact ZcV hg main (Zei (s:={ s1 with heap:=s1.heap.push o }) T main)
theorem gStep(h1:TrOK G N CK n)(h2:GtOK G N CK n)(h3:GtOK G N CK (n+1)):GOK G N CK (n+1):=by
 intro cx ifs gs el cb hx htop cel hlt hle gens scope pos d hd X env O EO D l μ acc cz s F hl hW C;cases ifs with
 |nil =>
  have:=h3 hx htop hlt hle (gens:=gens) (scope:=scope) (pos:=pos) (d:=d) hd O EO hl hW C;show wpAny _ _ (forIn [] true _) _ _ _;rw[List.forIn_nil];exact wpAny_pure this
 |cons c ifs =>
  cases ifs with
  |cons _ _=>exact no hx rfl
  |nil =>
   have Cn':∀{X':Act},AOK G X' N->EnvOK G X' cx env->Cn G X' N cel cx env:=λO' EO'=>⟨O',EO',λi hi=>Nat.lt_of_lt_of_le (hlt i hi) hle,λh=>by rw[htop] at h;cases h⟩
   refine bd2E hx λa b ha hb hx=>?_
   cases hx;show wpAny _ _ (forIn [c] true _) _ _ _;rw[List.forIn_cons];refine wpAny_bind ?_;simp only[if_true];refine wpAny_bind (wpAny_mono (CSt.use (m:=isTrue c env (eval c env)) (f:=λy=>[]) (Q:=λx S=>S.stk=[]/\S.cz=cz/\(x=true->WC CK cel b S.l cz S.μ acc F)/\(x=false->F S.μ acc S.l)) O EO C λX' O' EO' eA eE M=>?_) (λok s1 q=>?_) λy y q=>q)
   ·rw[<- eA]
    exact Zc1 (h1 ha (Cn' O' EO') hW M)
   ·obtain⟨S1,C1,e1,e2,k1,k2⟩:=q
    obtain⟨stk,l1,μ1,cz1⟩:=S1;simp only at e1 e2 k1 k2;subst e1 e2;refine wpAny_pure ?_;show wpAny _ _ (forIn [] ok _) _ _ _;rw[List.forIn_nil];refine wpAny_pure ?_;cases ok with
    |true=>rw[if_pos rfl];exact h2 hb htop hlt hle hd O EO hl (k1 rfl) C1
    |false=>rw[if_neg (by decide)];exact⟨_,_,_,k2 rfl,C1⟩
end
end
section
theorem ZeE{o:PySem.Expr}{x:Str}{e:Env}{w:Sem Value}(h:Zb8 o=false):attributeBase o x e w=w:=by
 cases o with
 |Call f a k p =>
  cases f<;>try rfl
  cases a<;>try rfl
  cases k<;>first|rfl|cases h
 |_=>rfl
section
variable{G:Gl}{N n:Nat}{CK:CKT}{X:Act}{cel:List Nat}{cx:Cx}{e:Env}{S:Sg}{Q:Post}{s:Shared}{ws:List Value}{code:List IX}
abbrev Zbr(G:Gl)(X:Act)(cel:List Nat)(Q:Post)(ws:List Value)(m:Sem Value)(s:Shared):Prop:=wpAny (model P0 G.w) X.A m (λw s'=>MR G X cel Q.nx (w::ws) s') (Exc G X Q.ex) s
theorem evConst{c:Const}{kk:Nat}{pos:Pos}:EvAt G N CK (n+1) (.Constant c kk pos):=by
 intro X cel cx e code S Q s ws hx C hW M;show Zbr G X cel Q ws _ s;have key:∃v,(match c with|.none=>some V.none|.bool b=>some (.bool b)|.int i=>some (.int i)|.str x=>some (.str x)|_=>none)=some v/\code=[.c v]:=by
  cases c<;>first|exact no hx rfl|(cases hx;exact⟨_,rfl,rfl⟩)
 obtain⟨v,hv,rfl⟩:=key;obtain⟨r,l,μ,cz,st,hq⟩:=hW;exact constM C.O (M.st st) hv λw s' M'=>⟨_,M',hq⟩
theorem evName{x:Str}{pos:Pos}:EvAt G N CK (n+1) (.Name x pos):=by
 intro X cel cx e code S Q s ws hx C hW M;show Zbr G X cel Q ws _ s;replace hx:=ifn hx;obtain⟨hdb,hx⟩:=hx
 ·have hdb':(x==("__debug__" : Str))=false:=by simpa using hdb
  rcases hi:cx.vars.lookup x with _|i<;>rw[hi] at hx
  ·obtain⟨hk,hx⟩:=ify hx
   obtain⟨v,hv,rfl⟩:=Option.map_eq_some_iff.mp hx;obtain⟨r,l,μ,cz,st,hq⟩:=hW;exact globM C.O C.EO (M.st st) (by simpa using hk) hv hdb' λw s' M'=>⟨_,M',hq⟩
  ·replace hW:=Wr.e hx hW
   obtain⟨v,r,l,μ,cz,st,hv,hq⟩:=hW;exact nameM C.O C.EO (M.st st) hi hv hdb' λw s' M'=>⟨_,M',hq⟩
theorem evBin(h1:EvOK G N CK n){l r:PySem.Expr}{op:Operator}{pos:Pos}:EvAt G N CK (n+1) (.BinOp l op r pos):=by
 intro X cel cx e code S Q s ws hx C hW M;show Zbr G X cel Q ws _ s;refine bd2E hx λa b ha hb hx=>?_
 replace hW:=Wr.e hx hW
 replace hW:=hW.app
 refine wpAny_BinOp (wpAny_mono (h1 ha C hW M) (λw s1 q=>?_) λz z q=>q);obtain⟨S1,M1,hW1⟩:=q;simp only[W_app] at hW1;refine wpAny_mono (h1 hb C hW1 M1) (λw s2 q=>?_) λz z q=>q
 obtain⟨S2,M2,hW2⟩:=q;obtain⟨x,y,v,r',l,μ,cz,st,hb,hq⟩:=hW2;exact binM C.O (M2.st st) hb λw s' M'=>⟨_,M',hq⟩
theorem evUn(h1:EvOK G N CK n){x:PySem.Expr}{op:UnaryOp}{pos:Pos}:EvAt G N CK (n+1) (.UnaryOp op x pos):=by
 intro X cel cx e code S Q s ws hx C hW M;show Zbr G X cel Q ws _ s;cases op with
 |USub =>
  refine bdE hx λa ha hx=>?_
  replace hW:=Wr.e hx hW
  replace hW:=hW.app
  refine wpAny_UnaryOp (wpAny_mono (h1 ha C hW M) (λw s1 q=>?_) λz z q=>q);obtain⟨S1,M1,hW1⟩:=q;obtain⟨y,r',l,μ,cz,st,hq⟩:=hW1;exact negM C.O (M1.st st) λw s' M'=>⟨_,M',hq⟩
 |Not =>
  refine bdE hx λa ha hx=>?_
  replace hW:=Wr.e hx hW
  replace hW:=hW.app
  refine wpAny_UnaryOp (wpAny_mono (h1 ha C hW M) (λw s1 q=>?_) λz z q=>q);obtain⟨S1,M1,hW1⟩:=q;obtain⟨y,r',l,μ,cz,st,hq⟩:=hW1;exact notM C.O (M1.st st) λw s' M'=>⟨_,M',hq⟩
 |_=>exact no hx rfl
theorem evIf(h1:EvOK G N CK n)(h3:TrOK G N CK n){t b o:PySem.Expr}{pos:Pos}:EvAt G N CK (n+1) (.IfExp t b o pos):=by
 intro X cel cx e code S Q s ws hx C hW M;show Zbr G X cel Q ws _ s;refine bd3E hx λct cb co ht hb ho hx=>?_
 replace hW:=Wr.e hx hW
 simp only[W_app,ZcY] at hW;refine wpAny_IfExp (wpAny_mono (h3 ht C hW M) (λc s1 q=>?_) λz z q=>q);obtain⟨S1,M1,k1,k2⟩:=q;cases c with
 |true=>rw[if_pos rfl];exact h1 hb C (k1 rfl) M1
 |false=>rw[if_neg (by decide)];exact h1 ho C (k2 rfl) M1
theorem evCmp(h1:EvOK G N CK n)(h5:CvOK G N CK n){l:PySem.Expr}{ops:List CmpOp}{cs:List PySem.Expr}{pos:Pos}:EvAt G N CK (n+1) (.Compare l ops cs pos):=by
 intro X cel cx e code S Q s ws hx C hW M;show Zbr G X cel Q ws _ s;refine bd2E hx λa b ha hb hx=>?_
 replace hW:=Wr.e hx hW
 replace hW:=hW.app
 show wpAny _ _ _ _ _ _;rw[arm_eval_Compare,markedEach_of_false _ _ _ (lastM hb)];refine wpAny_bind (wpAny_mono (h1 ha C hW M) (λw s1 q=>?_) λz z q=>q);obtain⟨S1,M1,hW1⟩:=q;exact h5 hb C hW1 M1
theorem evAttr(h1:EvOK G N CK n){v:PySem.Expr}{x:Str}{pos:Pos}:EvAt G N CK (n+1) (.Attribute v x pos):=by
 intro X cel cx e code S Q s ws hx C hW M;show Zbr G X cel Q ws _ s;replace hx:=ifn hx;obtain⟨hc,hx⟩:=hx
 ·refine bdE hx λa ha hx=>?_
  replace hW:=Wr.e hx hW
  replace hW:=hW.app
  refine Attribute_any_ (wpAny_mono (h1 ha C hW M) (λw s1 q=>?_) λz z q=>q) (by rw[arm_eval_Attribute,ZeE (by simpa using hc)]);obtain⟨S1,M1,hW1⟩:=q;obtain⟨o,v,r',l,μ,cz,st,hr,hq⟩:=hW1;exact attrM C.O (M1.st st) hr rfl λw s' M'=>⟨_,M',hq⟩
theorem evList(h2:Zdl G N CK n){es:List PySem.Expr}{pos:Pos}:EvAt G N CK (n+1) (.List es pos):=by
 intro X cel cx e code S Q s ws hx C hW M;show Zbr G X cel Q ws _ s;replace hx:=ifn hx;obtain⟨hz,hx⟩:=hx
 ·refine bdE hx λa ha hx=>?_
  replace hW:=Wr.e hx hW
  replace hW:=hW.app
  show wpAny _ _ _ _ _ _;rw[arm_eval_List];refine wpAny_bind (wpAny_standAt (wpAny_bind (wpAny_mono (h2 ha C hW M) (λvs s1 q=>?_) λz z q=>q)));obtain⟨hl,S1,M1,hW1⟩:=q;obtain⟨us,r',l,μ,cz,st,he,hq⟩:=hW1;refine lstM C.O (M1.st st) (hl.trans he.symm) (by lia) ?_;rcases hq with hq|hq
  ·exact .inl λw s' M'=>⟨_,M',hq⟩
  ·exact .inr λa s' M'=>⟨_,M',hq a⟩
theorem evTuple(h2:Zdl G N CK n){es:List PySem.Expr}{k:Nat}{pos:Pos}:EvAt G N CK (n+1) (.Tuple es k pos):=by
 intro X cel cx e code S Q s ws hx C hW M;show Zbr G X cel Q ws _ s;replace hx:=ifn hx;obtain⟨hz,hx⟩:=hx
 ·refine bdE hx λa ha hx=>?_
  replace hW:=Wr.e hx hW
  replace hW:=hW.app
  show wpAny _ _ _ _ _ _;rw[arm_eval_Tuple];refine wpAny_bind (wpAny_standAt (wpAny_bind (wpAny_mono (h2 ha C hW M) (λvs s1 q=>?_) λz z q=>q)));obtain⟨hl,S1,M1,hW1⟩:=q;obtain⟨us,r',l,μ,cz,st,he,hq⟩:=hW1;exact tupM C.O (M1.st st) (hl.trans he.symm) (by lia) λw s' M'=>⟨_,M',hq⟩
end
end
section
theorem xE_call{n:Nat}{cx:Cx}{f:PySem.Expr}{args:List PySem.Expr}{p:Pos}(hf:∀o x ap,f≠.Attribute o x ap):xE (n+1) cx (.Call f args [] p)=(if args.length>20 then none else(do let a <- xE n cx f;let b <- xEs n cx args;some (a++(b++[.call args.length])))):=by
 cases f<;>first|rfl|exact absurd rfl (hf _ _ _)
theorem ZfX{f:PySem.Expr}{args:List PySem.Expr}{p:Pos}{env:Env}(hf:∀o x ap,f≠.Attribute o x ap):eval (.Call f args [] p) env=(do callWith p (<- eval f env) [] (backTo p (starEach args env)) (backToKw p (keywordEach [] env))):=by
 cases f<;>first|rfl|exact absurd rfl (hf _ _ _)
structure CallX(G:Gl)(N:Nat)(f:V)(vs:List V)(μ:Led)(R:V->Led->Prop)(E:Addr->Prop):Prop where
 go:∀{X:Act}{cel:List Nat}{l:List (Option V)}{cz:Bool}{r:List V}{fv:Value}{ws us:List Value}{s:Shared}{Q EE:Value->Shared->Prop},AOK G X N->Mod G X cel ⟨vs.reverse++f::r,l,μ,cz⟩ (ws.reverse++fv::us) s->ws.length=vs.length ->
  (∀v v' μ' s',R v' μ'->Mod G X cel ⟨v'::r,l,μ',cz⟩ (v::us) s'->Q v s')->(∀x s',Exc G X E x s'->EE x s')->wpAny (model P0 G.w) X.A (PySem.call fv ws) Q EE s
theorem CallOK.x{G:Gl}{N:Nat}{f:V}{vs:List V}{μ:Led}{R:V->Led->Prop}{E:Addr->Prop}(h:CallOK G N f vs μ R E):CallX G N f vs μ R E:=⟨λO M hl k kE =>
 callM (S:=⟨_,_,_,_⟩) O h rfl rfl hl M k kE⟩
section
variable{G:Gl}{N n:Nat}{CK:CKT}{X:Act}{cel:List Nat}{cx:Cx}{e:Env}{S:Sg}{Q:Post}{s:Shared}{ws:List Value}{code:List IX}
theorem Mod.kept{f:V}{fw:Value}{vs:List V}{vws:List Value}{r:List V}{us:List Value}{l:List (Option V)}{μ:Led}{cz:Bool}(O:AOK G X N)(M:Mod G X cel ⟨vs.reverse++f::r,l,μ,cz⟩ (vws.reverse++fw::us) s)(hl:vws.length=vs.length)(hc:f.clb=true):Kept (model P0 G.w) fw s.heap:=by
 obtain⟨fz,mu,cs,I,RL,Z,SL,o1,o2⟩:=M;obtain⟨j,z2⟩:=VRs.unrev hl Z;cases z2 with|cons z _=>exact keptM O I z hc
theorem evArgs(hCK:∀f vs μ R E,CK f vs μ R E->CallX G N f vs μ R E)(h2:Zdl G N CK n){args:List PySem.Expr}{p:Pos}{c:List IX}{fw:Value}{first:List Value}(hc:xEs n cx args=some c)(C:Cn G X N cel cx e)
  (hW:Wr CK cel (c++[.call (first.length+args.length)]) S Q) (M:Mod G X cel S (first.reverse++fw::ws) s):Zbr G X cel Q ws (callWith p fw first (backTo p (starEach args e)) []) s:=by
 replace hW:=hW.app
 have fin:∀(vs:List Value) s1,vs.length=args.length->MR G X cel (λS'=>Wr CK cel [.call (first.length+args.length)] S' Q) (vs.reverse++(first.reverse++fw::ws)) s1->Kept (model P0 G.w) fw s1.heap/\Zbr G X cel Q ws (call fw (first++vs)) s1:=by
  rintro vs s1 hl ⟨S1,M1,hW1⟩
  obtain⟨f,us,r,R,E,l,μ,cz,st,he,hcl,hck,hR,hE⟩:=hW1;have M2:=M1.st st;have e1:vs.reverse++(first.reverse++fw::ws)=(first++vs).reverse++fw::ws:=by simp
  rw[e1] at M2;have hl2:(first++vs).length=us.length:=by simp[hl,he]
  refine⟨M2.kept C.O hl2 hcl,?_⟩;refine(hCK _ _ _ _ _ hck).go C.O M2 hl2 (λv v' μ' s' hr M'=>⟨_,M',hR _ _ hr⟩) λx s' hx=>?_
  obtain⟨a,Cc,fz,h1,h2,h3,h4,h5,h6⟩:=hx;exact⟨a,Cc,fz,h1,hE _ h2,h3,h4,h5,h6⟩
 cases args with
 |nil =>
  have hc':c=[]:=by
   cases n with
   |zero=>exact no hc rfl
   |succ n=>cases hc;rfl
  subst hc';obtain⟨h1,h2⟩:=fin [] s rfl ⟨S,M,hW⟩;exact Zf6 h1 h2
 |cons a rest =>
  have hc0:=hc;cases n with
  |zero=>exact no hc rfl
  |succ n' =>
   replace hc:=bd2 hc
   obtain⟨x,y,hx,hy,hc⟩:=hc;refine ZcW ?_ (ZdQ hx) (ZeF hy);refine wpAny_mono (h2 hc0 C hW M) (λvs s1 q=>?_) λj j q=>q
   obtain⟨hl,q⟩:=q;exact fin vs s1 hl q
theorem evCall(hCK:∀f vs μ R E,CK f vs μ R E->CallX G N f vs μ R E)(h1:EvOK G N CK n)(h2:Zdl G N CK n){f:PySem.Expr}{args:List PySem.Expr}{p:Pos}(hf:∀o x ap,f≠.Attribute o x ap):EvAt G N CK (n+1) (.Call f args [] p):=by
 intro X cel cx e code S Q s ws hx C hW M;show Zbr G X cel Q ws _ s;rw[xE_call hf] at hx;obtain⟨-,hx⟩:=ifn hx
 ·refine bd2E hx λa b ha hb hx=>?_
  replace hW:=Wr.e hx hW
  replace hW:=hW.app
  rw[Zbr,ZfX hf];refine wpAny_bind (wpAny_mono (h1 ha C hW M) (λw s1 q=>?_) λj j q=>q);obtain⟨S1,M1,hW1⟩:=q;exact evArgs (first:=[]) hCK h2 hb C (by simpa using hW1) (by simpa using M1)
theorem methForm{args:List PySem.Expr}{b:List IX}{p:Pos}(hb:xEs n cx args=some b)(hl:args.length<=20):methodCallForm (args.length+0) (backTo p (starEach args e)) (backToKw p (keywordEach [] e))=true:=by
 have h:=ZeF (e:=e) (pos:=p) hb;delta methodCallForm;have h1:(backTo p (starEach args e)).all (λx=>!x.1)=true:=by
  rw[all_eq_true];intro x hx;have:=List.any_eq_false.mp h x hx;simpa using this
 rw[h1];exact decide_eq_true (show args.length<30 by lia)
theorem evMeth(hCK:∀f vs μ R E,CK f vs μ R E->CallX G N f vs μ R E)(h1:EvOK G N CK n)(h2:Zdl G N CK n){o:PySem.Expr}{x:Str}{ap:Pos}{args:List PySem.Expr}{p:Pos}:EvAt G N CK (n+1) (.Call (.Attribute o x ap) args [] p):=by
 intro X cel cx e code S Q s ws hx C hW M;show Zbr G X cel Q ws _ s;replace hx:=ifn hx;obtain⟨hp,hx⟩:=hx
 ·replace hx:=ifn hx;obtain⟨hc,hx⟩:=hx
  ·simp only[Bool.or_eq_true,decide_eq_true_eq,not_or,Bool.not_eq_true,Nat.not_lt] at hc
   refine bd2E hx λa b ha hb hx=>?_
   replace hW:=Wr.e hx hW
   replace hW:=hW.app
   show wpAny _ _ _ _ _ _;rw[arm_eval_Call,ZeE hc.1];refine wpAny_bind (wpAny_mono (h1 ha C hW M) (λw s1 q=>?_) λj j q=>q);obtain⟨S1,M1,hW1⟩:=q;obtain⟨ov,f,r,l,μ,cz,st,hm,hW2⟩:=hW1;refine wpAny_bind (wpAny_standAt ?_);delta methodCall calleeOf methodCallPos;simp only[List.length_nil,methForm hb hc.2,if_true];refine wpAny_bind (wpAny_holding (mgM C.O (M1.st st) hm rfl λfw M2=>?_));have hp':(ap.endLine==p.line)=true:=by simpa using hp
   simp only[hp',Bool.or_true,Bool.not_true,if_true];refine wpAny_bind (wpAny_pure ?_);exact evArgs (first:=[w]) hCK h2 hb C (by simpa [Nat.add_comm] using hW2) (by simpa using M2)
theorem evSub(h1:EvOK G N CK n){v i:PySem.Expr}{pos:Pos}{a b:List IX}(ha:xE n cx v=some a)(hb:xE n cx i=some b)(hs:∀a b c p,i≠.Slice a b c p)(C:Cn G X N cel cx e)(hW:Wr CK cel (a++(b++[.gi])) S Q)(M:Mod G X cel S ws s) :
  Zbr G X cel Q ws (eval (.Subscript v i pos) e) s:=by
 replace hW:=hW.app
 refine Subscript_ (wpAny_mono (h1 ha C hW M) (λw s1 q=>?_) λj j q=>q);obtain⟨S1,M1,hW1⟩:=q;simp only[W_app] at hW1;refine wpAny_mono (h1 hb C hW1 M1) (λwi s2 q=>?_) λj j q=>q
 obtain⟨S2,M2,hW2⟩:=q;obtain⟨o,ix,x,r',l,μ,cz,st,hr,hq⟩:=hW2;obtain⟨h3,T,id,hT,hlk⟩:=itemM (E:=Exc G X Q.ex) (P:=λj=>True) (Q:=λw s'=>MR G X cel Q.nx (w::ws) s') C.O (M2.st st) hr λw' M'=>⟨_,M'.next C.O (.of λj j e=>e) rfl rfl λfz z=>by
  exact .cons z.head z.tail.tail.tail,hq⟩
 refine tail_any hT hlk h3 (ops:=[w,wi]) ?_;cases i<;>first|rfl|exact absurd rfl (hs _ _ _ _)
end
end
section
section
variable{G:Gl}{N n:Nat}{CK:CKT}{X:Act}{cel:List Nat}{cx:Cx}{e:Env}{S:Sg}{Q:Post}{s:Shared}{ws:List Value}{code:List IX}
theorem CompEnd.use{Kp:Sg->Prop}{S0:Sg}{r:List V}{us:List Value}{w:Value}{Ca:Addr}(O:AOK G X N)(h:CompEnd G X cel Kp S0 r us w Ca s) :
  ∃acc μ' X',AOK G X' N/\(EnvOK G X cx e->EnvOK G X' cx e)/\X'.A=X.A/\Mod G X' cel { S0 with stk:=.lst acc::r,μ:=μ' } (w::us) s/\Kp { S0 with stk:=.lst acc::r,μ:=μ' } /\
   ∀S'' ws'' (s'':Shared),Mod G X' cel S'' ws'' s''->(∃m,s''.heap.Ns Ca m)/\∀h',Heap.SameBut Ca s''.heap h'->Mod G X cel S'' ws'' { s'' with heap:=h' }:=by
 obtain⟨fz,mu,cs,acc,μ',I,RL,Z,SL,p,⟨m,o,es,ep,ho,hd,hk⟩,o1,o2,hK⟩:=h;refine⟨acc,μ',X.re (mu++cs) fz s.heap [],O.re I noEx,λEO=>EO.re,rfl,⟨fz,mu,cs,I.reIn,RL,Z,SL.reIn,o1,o2⟩,hK,λS'' ws'' s'' M=>?_⟩;refine hide λPP0 hPP0=>?_
 obtain⟨fz',mu',cs',J,RL',Z',SL',o3,o4⟩:=M;obtain⟨p',e'⟩:=p.reOut ho List.not_mem_nil J;refine hPP0 ?_;refine⟨⟨m,o,es,ep,e',hd,hk⟩,λh' hs=>?_⟩;exact⟨fz',mu',cs',(I.reOut noEx J).off p' hs.extBut,RL',Z',(SL'.reOut).off p' hs.extBut,o3,o4⟩
theorem ZfQ{sc:Scope}(EO:EnvOK G X cx e)(K:InOk cx sc):∀p∈sc.names,p.2=.free->∃c,e.cells.lookup p.1=some c:=λp hp hf=>by
 obtain⟨hk,hsome⟩:=K.fr p.1 (Zdt hp hf);obtain⟨i,hi⟩:=Option.isSome_iff_exists.mp hsome;obtain⟨st,h1,h2⟩:=EO.var p.1 i hi;cases st with
 |ns a y=>rcases hk with q|q<;>rw[h2.2.2.1] at q<;>cases q
 |cell c=>exact⟨c,h2.1⟩
theorem compG(h1:EvOK G N CK n)(h6:GOK G N CK n){elt t it:PySem.Expr}{ifs:List PySem.Expr}{gs:List Comprehension}{sc:Scope}{pos:Pos}{a:List IX}{tg:Tg}{b:CB}{use:Option (Value->Sem Unit)}{QQ:Value->Shared->Prop}{E:Value->Shared->Prop}(hin:inOk cx sc=true)(ha:xE n cx it=some a)
  (htg:xTg (cx.into sc) t=some tg) (hown:tg.own cx.nx=true) (hb:xG n (cx.into sc) ifs gs elt=some b) (C:Cn G X N cel cx e) (hW:Wr CK cel (a++[.comp tg b]) S Q) (M:Mod G X cel S ws s) (hE:∀x s',Exc G X Q.ex x s'->E x s')
  (fin:∀D Ca S0 r s',CompEnd G X cel Q.nx S0 r ws (.ref D) Ca s'->compPost (model P0 G.w) X.A E use QQ (.ref D) Ca (.ok .next) s') :
  wpAny (model P0 G.w) X.A (comprehension (.ListComp elt (⟨t,it,ifs,0⟩::gs) sc pos) sc e (firstIterPos (⟨t,it,ifs,0⟩::gs) pos) (newList []) false (eval it e) use) QQ E s:=by
 have K:=ZfM hin;obtain⟨cl,hcl,hcl1,hcl2⟩:=closureM (ZfQ C.EO K) K.nd;refine wpAny_comprehension_free (g:=⟨t,it,ifs,0⟩) (gs:=gs) (cl:=cl) rfl (noSet ha e) hcl K.kf (λx hx hl=>Za6 K.nd (by rw[<- hl];exact hx)) ?_;replace hW:=hW.app;refine wpAny_mono (h1 ha C hW M) (λw s1 q=>?_) hE;obtain⟨S1,M1,hW1⟩:=q;obtain⟨itv,r,items,l0,μ0,cz0,st,hi,Inv,h0,hstep,hend⟩:=hW1;refine compM (S:=⟨itv::r,l0,μ0,cz0⟩) (CK:=CK) (b:=b) (Kp:=Q.nx) (RR:=λacc Ca=>compPost (model P0 G.w) X.A E use QQ acc Ca) C.O C.EO K hcl1 hcl2 C.lt htg (λi hi=>by
  exact of_decide_eq_true (all_eq_true.mp hown i hi)) (λg' env h=>?_) (M1.st st) rfl hi h0 hstep hend (λX' env OX EX eA eE D l μ acc s F' hl hWC hC=>?_) (λD Ca s' h=>fin D Ca _ _ s' h) λD Ca f s' h=>?_
 ·have:g'∈gs:=List.mem_of_getElem? (i:=0) (by simpa using h)
  obtain⟨q1,q2⟩:=noSets hb g' this;exact⟨q1,q2 env⟩
 ·have:=h6 hb rfl (cel:=cel) C.lt (Nat.le_add_right _ _) (gens:=⟨t,it,ifs,0⟩::gs) (scope:=sc) (pos:=pos) (d:=0) rfl OX EX hl hWC hC
  rw[eA] at this;exact this
 ·cases use<;>exact h
theorem Ze3{n:Nat}{cx:Cx}{elt:PySem.Expr}{gens:List Comprehension}{sc:Scope}{pos:Pos}{code:List IX}(hx:xE (n+1) cx (.ListComp elt gens sc pos)=some code) :
  ∃t it ifs gs a tg b,gens=⟨t,it,ifs,0⟩::gs/\inOk cx sc=true/\xE n cx it=some a/\xTg (cx.into sc) t=some tg/\tg.own cx.nx=true/\xG n (cx.into sc) ifs gs elt=some b/\code=a++[.comp tg b]:=by
 rcases gens with _|⟨⟨t,it,ifs,(_|_)|_⟩,gs⟩<;>try exact no hx rfl
 obtain⟨hin,hx⟩:=ifn hx;refine bd2E hx λa tg ha htg hx=>?_
 obtain⟨hown,hx⟩:=ifn hx;refine bdE hx λb hb hx=>?_
 cases hx;exact⟨t,it,ifs,gs,a,tg,b,rfl,by simpa using hin,ha,htg,by simpa using hown,hb,rfl⟩
theorem evComp(h1:EvOK G N CK n)(h6:GOK G N CK n){elt:PySem.Expr}{gens:List Comprehension}{sc:Scope}{pos:Pos}:EvAt G N CK (n+1) (.ListComp elt gens sc pos):=by
 intro X cel cx e code S Q s ws hx C hW M;show Zbr G X cel Q ws _ s;replace hx:=Ze3 hx;obtain⟨t,it,ifs,gs,a,tg,b,rfl,hin,ha,htg,hown,hb,rfl⟩:=hx
 ···show wpAny _ _ _ _ _ _;rw[eval_ListComp]
    refine compG h1 h6 (use:=none) hin ha htg hown hb C hW M (λz z h=>h) λD Ca S0 r s' h=>?_
    refine hide λPP3 hPP3=>?_
    obtain⟨acc,μ',X',O',z,z,M',hK,back⟩:=CompEnd.use (cx:=cx) (e:=e) C.O h;refine hPP3 ?_;obtain⟨⟨m,hm⟩,hb⟩:=back _ _ _ M';exact⟨m,hm,λh' hs=>⟨_,hb h' hs,hK⟩⟩
theorem evLam{ps:Arguments}{b:PySem.Expr}{sc:Scope}{pos:Pos}:EvAt G N CK (n+1) (.Lambda ps b sc pos):=by
 intro X cel cx e code S Q s ws hx C hW M;show Zbr G X cel Q ws _ s;replace hx:=ifn hx;obtain⟨hc,hx⟩:=hx
 ·refine bdE hx λcs hcs hx=>?_
  obtain⟨hnd,hx⟩:=ifn hx;replace hW:=Wr.e hx hW;simp only[Bool.not_eq_true',Bool.not_eq_false,Bool.and_eq_true,List.isEmpty_iff,Bool.not_eq_true,Bool.not_eq_false'] at hc;refine hide λPP4 hPP4=>?_
  obtain⟨vs,r,l,μ,cz,st,hv,hcel,hq⟩:=hW;refine hPP4 ?_;exact lamM C.O C.EO (C.tp hc.1.1.1.2) (ZfM hc.1.1.1.1) hc.1.1.2 hc.1.2 hcs (by simpa using hnd) (M.st st) hv λw s' M'=>⟨_,M',hq⟩
theorem evSlcTo(h1:EvOK G N CK n){v hi:PySem.Expr}{sp pos:Pos}{a b:List IX}(ha:xE n cx v=some a)(hb:xE n cx hi=some b)(C:Cn G X N cel cx e)(hW:Wr CK cel (a++(b++[.slc false true])) S Q)(M:Mod G X cel S ws s) :
  Zbr G X cel Q ws (eval (.Subscript v (.Slice none (some hi) none sp) pos) e) s:=by
 replace hW:=hW.app
 refine Subscript_ (wpAny_mono (h1 ha C hW M) (λw s1 q=>?_) λz z q=>q);obtain⟨S1,M1,hW1⟩:=q;simp only[W_app] at hW1;rw[arm_eval_Slice];refine wpAny_bind (wpAny_pure (wpAny_bind (wpAny_holding (wpAny_mono (h1 hb C hW1 M1) (λwi s2 q=>?_) λz z q=>q))));obtain⟨S2,M2,hW2⟩:=q;obtain⟨vs,l,μ,cz,stk,st,r',k,rfl,hk,hl,hq⟩:=hW2;have M3:=M2.st st;refine wpAny_bind (wpAny_holding (wpAny_pure ?_));refine wpAny_newObj_type ?_ (by size_fits);obtain⟨t,rfl⟩:=M3.intTop;exact sliceM (m:=k) (zs:=vs.take k) C.O M3 hl .none (.int _ _) (λP fz ws q=>⟨_,Zfn ws k,q.take k⟩) λw s' M'=>⟨_,M',hq⟩
theorem ZfY(h1:EvOK G N CK n){v lo:PySem.Expr}{sp pos:Pos}{a b:List IX}(ha:xE n cx v=some a)(hb:xE n cx lo=some b)(C:Cn G X N cel cx e)(hW:Wr CK cel (a++(b++[.slc true false])) S Q)(M:Mod G X cel S ws s) :
  Zbr G X cel Q ws (eval (.Subscript v (.Slice (some lo) none none sp) pos) e) s:=by
 replace hW:=hW.app
 refine Subscript_ (wpAny_mono (h1 ha C hW M) (λw s1 q=>?_) λz z q=>q);obtain⟨S1,M1,hW1⟩:=q;simp only[W_app] at hW1;rw[arm_eval_Slice];refine wpAny_bind (wpAny_mono (h1 hb C hW1 M1) (λwi s2 q=>?_) λz z q=>q);obtain⟨S2,M2,hW2⟩:=q;obtain⟨vs,l,μ,cz,stk,st,r',k,rfl,hk,hl,hq⟩:=hW2;have M3:=M2.st st;refine wpAny_bind (wpAny_holding (wpAny_pure (wpAny_bind (wpAny_holding (wpAny_pure ?_)))));refine wpAny_newObj_type ?_ (by size_fits);obtain⟨t,rfl⟩:=M3.intTop;exact sliceM (m:=k) (zs:=vs.drop k) C.O M3 hl (.int _ _) .none (λP fz ws q=>⟨_,Zfo ws k,q.drop k⟩) λw s' M'=>⟨_,M',hq⟩
theorem xE_sub{v i:PySem.Expr}{pos:Pos}(hs:∀a b c p,i≠.Slice a b c p):xE (n+1) cx (.Subscript v i pos)=((xE n cx v).bind λa=>(xE n cx i).bind λb=>some (a++(b++[.gi]))):=by
 cases i<;>first|rfl|exact absurd rfl (hs _ _ _ _)
theorem sub_e{v i:PySem.Expr}{pos:Pos}{P:PySem.Expr->List IX->Prop}(h:xE (n+1) cx (.Subscript v i pos)=some code)
  (K1:∀hi p a b,xE n cx v=some a->xE n cx hi=some b->P (.Slice none (some hi) none p) (a++(b++[.slc false true])))
  (K2:∀lo p a b,xE n cx v=some a->xE n cx lo=some b->P (.Slice (some lo) none none p) (a++(b++[.slc true false])))
  (K3:(∀a b c p,i≠.Slice a b c p)->∀a b,xE n cx v=some a->xE n cx i=some b->P i (a++(b++[.gi]))):P i code:=by
 by_cases hs:∃a b c p,i=.Slice a b c p
 ·obtain⟨lo,hi,st,p,rfl⟩:=hs
  clear K3;have bad:((xE n cx v).bind λa=>(xE n cx (.Slice lo hi st p)).bind λb=>some (a++(b++[IX.gi])))=some code->P (.Slice lo hi st p) code:=λh=>bd2E h λa b ha hb h=>no hb (by cases n<;>rfl)
  cases lo with
  |none=>cases hi with
   |none=>exact bad h
   |some hi=>cases st with
    |none=>exact bd2E h λa b ha hb h=>Option.some.inj h▸K1 hi p a b ha hb
    |some=>exact bad h
  |some lo=>cases hi with
   |some hi=>exact bad h
   |none=>cases st with
    |none=>exact bd2E h λa b ha hb h=>Option.some.inj h▸K2 lo p a b ha hb
    |some=>exact bad h
 ·have hs:∀a b c p,i≠.Slice a b c p:=λa b c p e=>hs ⟨a,b,c,p,e⟩
  exact bd2E ((xE_sub hs).symm.trans h) λa b ha hb h=>Option.some.inj h▸K3 hs a b ha hb
theorem evStep(hCK:∀f vs μ R E,CK f vs μ R E->CallX G N f vs μ R E)(h1:EvOK G N CK n)(h2:Zdl G N CK n)(h3:TrOK G N CK n)(h4:BvOK G N CK n)(h5:CvOK G N CK n)(h6:GOK G N CK n):EvOK G N CK (n+1):=by
 intro ex;cases ex with
 |Constant c kk pos=>exact @evConst _ _ _ _ _ _ _
 |Name x pos=>exact @evName _ _ _ _ _ _
 |BinOp l op r pos=>exact evBin (@h1)
 |UnaryOp op x pos=>exact evUn (@h1)
 |BoolOp op vs pos=>exact λhx C hW M=>h4 hx C hW M
 |IfExp t b o pos=>exact evIf (@h1) (@h3)
 |Compare l ops cs pos=>exact evCmp (@h1) (@h5)
 |Call f args kws p =>
  cases kws with
  |cons _ _=>exact @EvAt.no _ _ _ _ _ λz=>by cases f<;>rfl
  |nil =>
   by_cases hf:∃o x ap,f=.Attribute o x ap
   ·obtain⟨o,x,ap,rfl⟩:=hf
    exact evMeth hCK (@h1) (@h2)
   ·exact evCall hCK (@h1) (@h2) (λo x ap e=>hf ⟨o,x,ap,e⟩)
 |Attribute v x pos=>exact evAttr (@h1)
 |Subscript v i pos =>
  intro X cel cx e code S Q s ws hx C hW M;exact sub_e (P:=λi code=>Wr CK cel code S Q->wpAny (model P0 G.w) X.A (eval (.Subscript v i pos) e) (λw s'=>MR G X cel Q.nx (w::ws) s') (Exc G X Q.ex) s) hx (λhi p a b ha hb hW=>evSlcTo (@h1) ha hb C hW M)
   (λlo p a b ha hb hW=>ZfY (@h1) ha hb C hW M) (λhs a b ha hb hW=>evSub (@h1) ha hb hs C hW M) hW
 |List es pos=>exact evList (@h2)
 |Tuple es k pos=>exact evTuple (@h2)
 |ListComp elt gens sc pos=>exact evComp (@h1) (@h6)
 |Lambda ps b sc pos=>exact @evLam _ _ _ _ _ _ _ _
 |_=>exact @EvAt.no _ _ _ _ _ λz=>rfl
theorem Ze8{ex:PySem.Expr}(h0:EvOK G N CK (n+1))(he:∀e,isTrue ex e (eval ex e)=(do let v <- eval ex e;standAt ex.pos;holding [v] (truthy v))):TrAt G N CK (n+1) ex:=by
 intro X cel cx e code S K rt exx s ws hx C hW M;refine isTrue_plain (wpAny_mono (h0 hx C hW M) (λw s1 q=>?_) λz z q=>q) (he e);obtain⟨S1,M1,hB⟩:=q;obtain⟨b,S',rfl,M',hk⟩:=Zgg C.O M1 hB;exact wpAny_truthy_bool ⟨S',M',hk⟩
theorem trStep(h1:EvOK G N CK n)(h0:EvOK G N CK (n+1))(h3:TrOK G N CK n)(h4:BtOK G N CK n)(h5:CtOK G N CK n):TrOK G N CK (n+1):=by
 intro ex;cases ex with
 |UnaryOp op x pos =>
  cases op with
  |Not =>
   intro X cel cx e code S K rt exx s ws hx C hW M;refine bdE hx λa ha hx=>?_
   replace hW:=(Wr.e hx hW).app
   simp only[W_not1] at hW;exact isTrue_not (wpAny_mono (h3 ha C hW M) (λb s1 q=>let ⟨S1,M1,hk⟩:=q;Zgh C.O M1 hk) λz z q=>q)
  |_=>exact Ze8 (@h0) λz=>rfl
 |BoolOp op vs pos=>exact λhx C hW M=>h4 hx C hW M
 |IfExp t b o pos =>
  intro X cel cx e code S K rt exx s ws hx C hW M;refine bd3E hx λct cb co ht hb ho hx=>?_
  replace hW:=(Wr.e hx hW).app
  refine isTrue_IfExp (wpAny_mono (h3 ht C hW M) (λc s1 q=>?_) λz z q=>q);obtain⟨S1,M1,k1,k2⟩:=q;cases c with
  |true=>rw[if_pos rfl];exact h3 hb C (k1 rfl) M1
  |false=>rw[if_neg (by decide)];exact h3 ho C (k2 rfl) M1
 |Compare l ops cs pos =>
  intro X cel cx e code S K rt exx s ws hx C hW M;refine bd2E hx λa b ha hb hx=>?_
  replace hW:=(Wr.e hx hW).app
  rw[arm_isTrue_Compare,markedEach_of_false _ _ _ (lastM hb)];exact wpAny_bind (wpAny_mono (h1 ha C hW M) (λw s1 q=>let ⟨S1,M1,hW1⟩:=q;h5 hb C hW1 M1) λz z q=>q)
 |_=>exact Ze8 (@h0) λz=>rfl
structure AllOK(G:Gl)(N:Nat)(CK:CKT)(n:Nat):Prop where
 ev:EvOK G N CK n
 evs:Zdl G N CK n
 tr:TrOK G N CK n
 bv:BvOK G N CK n
 bt:BtOK G N CK n
 cv:CvOK G N CK n
 ct:CtOK G N CK n
 gt:GtOK G N CK n
 g:GOK G N CK n
theorem allOK(hCK:∀f vs μ R E,CK f vs μ R E->CallX G N f vs μ R E):∀n,AllOK G N CK n
 |0=>⟨λh=>no h rfl,λh=>no h rfl,λh=>no h rfl,λh=>no h rfl,λh=>no h rfl,λh=>no h rfl,λh=>no h rfl,λh=>no h rfl,λh=>no h rfl⟩
 |n+1=>by
  have A:=allOK hCK n;have ev:EvOK G N CK (n+1):=evStep hCK A.ev A.evs A.tr A.bv A.cv A.g;have gt:GtOK G N CK (n+1):=gtStep A.ev A.g;exact⟨ev,evsStep A.ev A.evs,trStep A.ev ev A.tr A.bt A.ct,bvStep A.ev A.bv,btStep A.tr A.bt,cvStep A.ev A.cv,ctStep A.ev A.ct,gt,gStep A.tr A.gt gt⟩
end
end
section
theorem notInter{env:Env}(h:env.scope.kind=.function):interactive env=false:=by unfold interactive;rw[h];rfl
theorem funBlock{env:Env}(h:env.scope.kind=.function):env.blockKind=.function:=by unfold Env.blockKind;rw[h];rfl
section
variable{G:Gl}{N n:Nat}{CK:CKT}{X:Act}{cel:List Nat}{cx:Cx}{e:Env}{S:Sg}{Q:Post}{s:Shared}{ws:List Value}{code:List IX}
theorem Mod.refTop{a:Addr}{r:List V}{l:List (Option V)}{μ:Led}{cz:Bool}{w:Value}{us:List Value}(M:Mod G X cel ⟨.ref a::r,l,μ,cz⟩ (w::us) s):w=.ref a:=by
 obtain⟨fz,mu,cs,I,RL,Z,z⟩:=M;exact Z.head.refE
abbrev Za5(G:Gl)(X:Act)(cel:List Nat)(Q:Post)(m:Sem Flow)(s:Shared):Prop:=wpAny (model P0 G.w) X.A m (OutS G X cel Q) (Exc G X Q.ex) s
def SAt(G:Gl)(N:Nat)(CK:CKT)(n:Nat)(st:Stmt):Prop:=∀{X:Act}{cel:List Nat}{cx:Cx}{code:List IX}{S:Sg}{Q:Post}{s:Shared},xS n cx st=some code->Cn G X N cel cx X.env->cx.lo=0->Wr CK cel code S Q->Mod G X cel S [] s->Za5 G X cel Q (exec st X.env) s
def SOK(G:Gl)(N:Nat)(CK:CKT)(n:Nat):Prop:=∀{st:Stmt},SAt G N CK n st
theorem SAt.no{G:Gl}{N n:Nat}{CK:CKT}{st:Stmt}(h:∀cx,xS n cx st=none):SAt G N CK n st:=λ{X cel cx code S Q s} hx=>Internal.no hx (h cx)
def SsOK(G:Gl)(N:Nat)(CK:CKT)(n:Nat):Prop:=∀{X:Act}{cel:List Nat}{cx:Cx}{ss:List Stmt}{code:List IX},xSs n cx ss=some code->Cn G X N cel cx X.env->cx.lo=0->∀{S:Sg}{Q:Post}{s:Shared},Wr CK cel code S Q->Mod G X cel S [] s->Za5 G X cel Q (execs ss X.env) s
theorem ssStep(h1:SOK G N CK n)(h2:SsOK G N CK n):SsOK G N CK (n+1):=by
 intro X cel cx ss code hx C hlo S Q s hW M;cases ss with
 |nil =>
  replace hW:=Wr.e hx hW
  exact wpAny_execs_nil ⟨S,M,hW⟩
 |cons st ss =>
  refine bd2E hx λa b ha hb hx=>?_
  replace hW:=Wr.e hx hW
  replace hW:=hW.app
  refine wpAny_execs_cons (wpAny_mono (h1 ha C hlo hW M) (λf s1 q=>?_) λz z q=>q);cases f with
  |next=>obtain⟨S1,M1,hW1⟩:=q;exact h2 hb C hlo hW1 M1
  |ret v=>exact q
  |brk=>exact q.elim
  |cont=>exact q.elim
theorem unpM{vs:List V}{w:Value}{r:List V}{us:List Value}{l:List (Option V)}{μ:Led}{cz:Bool}{k:Nat}{QQ:List Value->Shared->Prop}{E:Value->Shared->Prop}(O:AOK G X N)(M:Mod G X cel ⟨.tup vs::r,l,μ,cz⟩ (w::us) s)(hl:vs.length=k)
  (K:∀ws' s',ws'.length=vs.length->Mod G X cel ⟨vs++r,l,μ,cz⟩ (ws'++us) s'->QQ ws' s'):wpAny (model P0 G.w) X.A (unpackItems w k none) QQ E s:=by
 obtain⟨fz,mu,cs,I,RL,Z,SL,o1,o2⟩:=M;cases Z with|cons zv Z =>
 cases zv with|@tup _ wt _ o c m p q =>
 have hk:k=(List.toArray wt).size:=by rw[size_toArray,q.length,hl]
 subst hk;refine unpackItems_tuple O.hh (ZbT (I.fzh _ m) p) λh' k=>?_
 have k':∀b o,s.heap.get? b=some o->h'.get? b=some o:=λb o e=>k b o (Nat.ne_of_lt (Heap.lt_size e)) e
 exact K wt _ q.length (mk0 (s':={ s with heap:=h' }) O I RL SL o1 o2 (.of k') rfl rfl (q.append Z))
theorem ZdO(h1:EvOK G N CK n)(C:Cn G X N cel cx X.env)(hlo:cx.lo=0):∀{ts:List PySem.Expr}{code:List IX}{S:Sg}{Q:Post}{s:Shared}{ws us:List Value},xT n cx ts=some code->ws.length=ts.length->Wr CK cel code S Q->Mod G X cel S (ws++us) s ->
  wpAny (model P0 G.w) X.A (assignInOrder ((assignEach ts X.env).map (·.2)) ws) (λz s'=>MR G X cel Q.nx us s') (Exc G X Q.ex) s
 |[],code,S,Q,s,ws,us,hx,hl,hW,M=>by
  replace hW:=Wr.e hx hW
  cases ws with
  |cons _ _=>cases hl
  |nil=>exact assignInOrder_nil ⟨S,M,hW⟩
 |t::ts,code,S,Q,s,ws,us,hx,hl,hW,M=>by
  cases ws with
  |nil=>cases hl
  |cons w ws =>
   have hl':ws.length=ts.length:=by simpa using hl
   cases t with
   |Name x p =>
    refine bd2E hx λi b hi hb hx=>?_
    replace hW:=Wr.e hx hW
    show wpAny _ _ (assignInOrder ((assign (.Name x p) X.env)::(assignEach ts X.env).map (·.2)) (w::ws)) _ _ _;obtain⟨v,r,l,μ,cz,st,z,hc,hW'⟩:=hW;refine assignInOrder_cons (PyProof.Rows.assign_Name (ZcT C.O C.EO (M.st st) hi (by rw[hlo];exact Nat.zero_le _) hc λs' M'=>?_));exact ZdO h1 C hlo hb hl' hW' M'
   |Attribute o x p =>
    refine bd2E hx λa b ha hb hx=>?_
    replace hW:=Wr.e hx hW
    show wpAny _ _ (assignInOrder ((assign (.Attribute o x p) X.env)::(assignEach ts X.env).map (·.2)) (w::ws)) _ _ _;replace hW:=hW.app;refine assignInOrder_cons ?_;rw[assign_Attribute];refine wpAny_bind (wpAny_holding (wpAny_mono (h1 ha C hW M) (λwo s1 q=>?_) λz z q=>q));obtain⟨S1,M1,hW1⟩:=q;obtain⟨a',v,r,Cc,dx,fs,μ',l,μ,cz,st,hC,hk,hz,hU,hW2⟩:=hW1;have M2:=M1.st st;cases M2.refTop;refine wpAny_bind (wpAny_standAt (wpAny_bind (wpAny_holding (Zc5 C.O M2 hC hk rfl hz hU λs' M'=>?_))));exact wpAny_release' (ZdO h1 C hlo hb hl' hW2 M')
   |_=>exact no hx rfl
theorem ZdZ:∀{ts:List PySem.Expr}{code:List IX},xT n cx ts=some code->(assignEach ts e).length=ts.length/\(assignEach ts e).findIdx? (·.1)=none
 |[],_,_=>⟨rfl,rfl⟩
 |t::ts,code,hx=>by
  cases t with
  |Name x p =>
   refine bd2E hx λi b hi hb hx=>?_
   cases hx;obtain⟨h1,h2⟩:=ZdZ hb;refine⟨by show(assignEach ts e).length+1=_;rw[h1];rfl,?_⟩;show((false,assign (.Name x p) e)::assignEach ts e).findIdx? (·.1)=none;rw[List.findIdx?_cons,h2];rfl
  |Attribute o x p =>
   refine bd2E hx λi b hi hb hx=>?_
   cases hx;obtain⟨h1,h2⟩:=ZdZ hb;refine⟨by show(assignEach ts e).length+1=_;rw[h1];rfl,?_⟩;show((false,assign (.Attribute o x p) e)::assignEach ts e).findIdx? (·.1)=none;rw[List.findIdx?_cons,h2];rfl
  |_=>exact no hx rfl
theorem unpS(h1:EvOK G N CK n)(C:Cn G X N cel cx X.env)(hlo:cx.lo=0){ts:List PySem.Expr}{k:Nat}{tp:Pos}{b:List IX}{w:Value}{us:List Value}(hb:xT n cx ts=some b)(hW:Wr CK cel (.unp ts.length::b) S Q)(M:Mod G X cel S (w::us) s) :
  wpAny (model P0 G.w) X.A (assign (.Tuple ts k tp) X.env w) (λz s'=>MR G X cel Q.nx us s') (Exc G X Q.ex) s:=by
 obtain⟨vs,r,l,μ,cz,st,hl,hW'⟩:=hW;obtain⟨e1,e2⟩:=ZdZ (e:=X.env) hb;rw[assign_Tuple];refine wpAny_bind (wpAny_standAt ?_);unfold unpack;rw[e1,e2];refine wpAny_bind (wpAny_holding (unpM C.O (M.st st) hl λws' s' hl' M'=>?_));exact ZdO h1 C hlo hb (hl'.trans hl) hW' M'
end
end
section
theorem swapsNo{v:PySem.Expr}{t:Option PySem.Expr}{k:Nat}{env:Env}(h:∀a b c d,v≠.ListComp a b c d){n:Nat}{cx:Cx}{c:List IX}(hx:xE n cx v=some c):swapsWith v t k env=pure false:=by
 cases v<;>first|rfl|exact absurd rfl (h _ _ _ _)|(exact no hx (by cases n<;>rfl))
theorem Zb4{v t:PySem.Expr}{k:Nat}{env:Env}(ht:∀a b,t≠.Name a b):swapsWith v (some t) k env=pure false:=by
 cases v<;>first|rfl|(cases t<;>first|rfl|exact absurd rfl (ht _ _))
theorem Zfa{ts:List PySem.Expr}{k:Nat}{p:Pos}{v:PySem.Expr}{env:Env}(h:∀a b c,v≠.Tuple a b c):swappedStores [.Tuple ts k p] v env=pure none:=by
 cases v<;>first|rfl|exact absurd rfl (h _ _ _)
theorem ift{α:Type}{c:Prop}{_:Decidable c}{a:Option α}{b r:α}{m:Sem α}(h:(if c then some b else a)=some r)(k:a=some r->m=pure r):(if c then pure b else m)=pure r:=by
 by_cases q:c
 ·rw[if_pos q] at h⊢;cases h;rfl
 ·rw[if_neg q] at h⊢;exact k h
theorem ifo{α:Type}{c:Prop}{_:Decidable c}{a:Option (Option α)}{r:α}(h:(if c then some none else a)=some (some r)):¬c/\a=some (some r):=by
 by_cases q:c
 ·rw[if_pos q] at h;cases h
 ·rw[if_neg q] at h;exact⟨q,h⟩
set_option backward.match.sparseCases true in
theorem Zfb{ts vs:List PySem.Expr}{k k2:Nat}{p p2:Pos}{env:Env}{loc:Str->Bool}{r:Option (List Str)}(hb:env.blockKind=.function)(hl:∀x,(env.kindOf x==some .local)=loc x)(h:Zcr loc ts vs=some r) :
  swappedStores [.Tuple ts k p] (.Tuple vs k2 p2) env=pure r:=by
 unfold Zcr at h;delta swappedStores;dsimp only;obtain rfl:_=loc:=funext hl;rw[hb,show(ScopeKind.function != ScopeKind.function)=false from rfl,Bool.or_false];refine ift h λh=>ift h λh=>ift h λh=>ift h λh=>?_
 obtain⟨q,h⟩:=ifn h;cases h;exact if_neg q
theorem ZeI{loc:Str->Bool}{ts vs:List PySem.Expr}{names:List Str}(h:Zcr loc ts vs=some (some names)):names.length=ts.length:=by
 obtain⟨-,h⟩:=ifo h;obtain⟨-,h⟩:=ifo h;obtain⟨c,h⟩:=ifo h;obtain⟨-,h⟩:=ifo h;obtain⟨-,h⟩:=ifn h;cases h;simp only[Bool.or_eq_true,not_or,bne_iff_ne,ne_eq,Decidable.not_not] at c;exact c.1
theorem Zcv{cx:Cx}:∀{a b:List Str}{is js:List Nat},ZaC cx a=some is->ZaC cx b=some js->ZaC cx (a++b)=some (is++js)
 |[],_,_,_,h1,h2=>by cases h1;exact h2
 |x::a,b,is,js,h1,h2=>by
  obtain⟨i,is',e1,e2,h1⟩:=bd2 h1;cases h1;show((cx.vars.lookup x).bind λi=>(ZaC cx (a++b)).bind _)=_;rw[e1,Zcv e2 h2];rfl
theorem Zct{cx:Cx}:∀{a:List Str}{is:List Nat},ZaC cx a=some is->ZaC cx a.reverse=some is.reverse
 |[],_,h=>by cases h;rfl
 |x::a,is,h=>by
  obtain⟨i,is',e1,e2,h⟩:=bd2 h;cases h;rw[List.reverse_cons,List.reverse_cons];exact Zcv (Zct e2) (by show((cx.vars.lookup x).bind _)=_;rw[e1];rfl)
section
variable{G:Gl}{N n:Nat}{CK:CKT}{X:Act}{cel:List Nat}{cx:Cx}{e:Env}{S:Sg}{Q:Post}{s:Shared}{ws:List Value}{code:List IX}
theorem Zfd{E:Value->Shared->Prop}(C:Cn G X N cel cx X.env)(hlo:cx.lo=0):∀{xs:List Str}{is:List Nat}{S:Sg}{Q:Post}{s:Shared}{ws us:List Value},ZaC cx xs=some is->ws.length=xs.length->Wr CK cel (is.map .s) S Q->Mod G X cel S (ws++us) s ->
  wpAny (model P0 G.w) X.A (assignInOrder (xs.map λn=>bindName X.env n) ws) (λz s'=>MR G X cel Q.nx us s') E s
 |[],is,S,Q,s,ws,us,hx,hl,hW,M=>by
  cases hx;cases ws with
  |cons _ _=>cases hl
  |nil=>exact assignInOrder_nil ⟨S,M,hW⟩
 |x::xs,is,S,Q,s,ws,us,hx,hl,hW,M=>by
  cases ws with
  |nil=>cases hl
  |cons w ws =>
   obtain⟨i,is',e1,e2,hx⟩:=bd2 hx
   ·cases hx
    obtain⟨v,r,l,μ,cz,st,z,hc,hW'⟩:=hW;refine assignInOrder_cons (wpAny_bindName (ZcT C.O C.EO (M.st st) e1 (by rw[hlo];exact Nat.zero_le _) hc λs' M'=>?_));exact Zfd C hlo e2 (Nat.succ.inj hl) hW' M'
end
end
section
section
variable{G:Gl}{N n:Nat}{CK:CKT}{X:Act}{cel:List Nat}{cx:Cx}{e:Env}{S:Sg}{Q:Post}{s:Shared}{ws:List Value}{code:List IX}
theorem Mod.ref2{a:Addr}{v:V}{r:List V}{l:List (Option V)}{μ:Led}{cz:Bool}{w w':Value}{us:List Value}(M:Mod G X cel ⟨v::.ref a::r,l,μ,cz⟩ (w'::w::us) s):w=.ref a:=by
 obtain⟨fz,mu,cs,I,RL,Z,y⟩:=M;exact Z.tail.head.refE
theorem Mod.ref3{a:Addr}{v v':V}{r:List V}{l:List (Option V)}{μ:Led}{cz:Bool}{w w' u:Value}{us:List Value}(M:Mod G X cel ⟨v::v'::.ref a::r,l,μ,cz⟩ (w'::u::w::us) s):w=.ref a:=by
 obtain⟨fz,mu,cs,I,RL,Z,y⟩:=M;exact Z.tail.tail.head.refE
theorem sExpr(A:∀n,AllOK G N CK n){f:PySem.Expr}{args:List PySem.Expr}{p pos:Pos}(hx:xS (n+1) cx (.Expr (.Call f args [] p) pos)=some code)(C:Cn G X N cel cx X.env)(hW:Wr CK cel code S Q)(M:Mod G X cel S [] s):Za5 G X cel Q (exec (.Expr (.Call f args [] p) pos) X.env) s:=by
 refine bdE hx λa ha hx=>?_
 replace hW:=Wr.e hx hW
 replace hW:=hW.app
 refine wpAny_Expr_any (wpAny_mono ((A n).ev ha C hW M) (λw s1 q=>?_) λy y q=>q) (notInter C.EO.kfe) rfl;obtain⟨S1,M1,hW1⟩:=q;obtain⟨v,r,l,μ,cz,st,hq⟩:=hW1;exact⟨_,(M1.st st).next C.O (.of λy y e=>e) rfl rfl λy z=>z.tail,hq⟩
theorem sRet(A:∀n,AllOK G N CK n){x:PySem.Expr}{pos:Pos}(hx:xS (n+1) cx (.Return (some x) pos)=some code)(C:Cn G X N cel cx X.env)(hW:Wr CK cel code S Q)(M:Mod G X cel S [] s):Za5 G X cel Q (exec (.Return (some x) pos) X.env) s:=by
 refine bdE hx λa ha hx=>?_
 replace hW:=Wr.e hx hW
 replace hW:=hW.app
 refine wpAny_Return_some (wpAny_mono ((A n).ev ha C hW M) (λw s1 q=>?_) λy y q=>q);obtain⟨S1,M1,hW1⟩:=q;obtain⟨v,r,l,μ,cz,st,hq⟩:=hW1;obtain⟨fz,mu,cs,I,RL,Z,SL,o1,o2⟩:=M1.st st;have z:=Z.head;exact⟨v,μ,fz,mu,I.sub (by simp only[keys,map_append];exact List.sublist_append_left _ _) (λp hp=>mem_append_left _ hp),RL,z,hq,o1,o2⟩
theorem sName(A:∀n,AllOK G N CK n){x:Str}{p pos:Pos}{v:PySem.Expr}(hx:xS (n+1) cx (.Assign [.Name x p] v pos)=some code)(C:Cn G X N cel cx X.env)(hlo:cx.lo=0)(hW:Wr CK cel code S Q)(M:Mod G X cel S [] s):Za5 G X cel Q (exec (.Assign [.Name x p] v pos) X.env) s:=by
 refine bd2E hx λi a hi ha hx=>?_
 replace hW:=Wr.e hx hW
 have h0:cx.lo<=i:=by rw[hlo];exact Nat.zero_le _
 have plain:swapsWith v (some (.Name x p)) pos.line X.env=pure false->Za5 G X cel Q (exec (.Assign [.Name x p] v pos) X.env) s:=λhs=>by
  replace hW:=hW.app
  refine wpAny_Assign_Name (wpAny_mono ((A n).ev ha C hW M) (λw s1 q=>?_) λy y q=>q) hs;refine hide λPP4 hPP4=>?_
  obtain⟨S1,M1,hW1⟩:=q;obtain⟨u,r,l,μ,cz,st,y,hc,hq⟩:=hW1;refine hPP4 ?_;exact ZcT C.O C.EO (M1.st st) hi h0 hc λs' M'=>⟨_,M',hq⟩
 by_cases hv:∃a b c d,v=.ListComp a b c d
 case neg=>exact plain (swapsNo (λa b c d e=>hv ⟨a,b,c,d,e⟩) ha)
 ·obtain⟨elt,gens,sc,vp,rfl⟩:=hv
  ·
   cases n with
   |zero=>exact no ha rfl
   |succ n =>
   have hb:∃b,swapsWith (.ListComp elt gens sc vp) (some (.Name x p)) pos.line X.env=pure b:=⟨_,rfl⟩;obtain⟨b,hb⟩:=hb;cases b with
   |false=>exact plain hb
   |true =>
    obtain⟨t,it,ifs,gs,a',tg,b,rfl,hin,ha',htg,hown,hg,rfl⟩:=Ze3 ha;show wpAny _ _ _ _ _ _;rw[exec_Assign_Name_used _ _ _ _ hb,arm_evalThenUse_ListComp];refine wpAny_bind (wpAny_standAt (wpAny_bind ?_));refine wpAny_bind ?_;replace hW:=hW.app;refine compG (Q:={ Q with nx:=λS'=>Wr CK cel [.s i] S' Q }) (A n).ev (A n).g (use:=some (assign (.Name x p) X.env)) hin ha' htg hown hg C hW M (λy y h=>h) λD Ca S0 r s' h=>?_
    refine hide λPP5 hPP5=>?_
    obtain⟨acc,μ',X',O',EO',eA,M',hK,back⟩:=CompEnd.use (cx:=cx) (e:=X.env) C.O h;refine hPP5 ?_;show wpAny _ _ (assign (.Name x p) X.env (.ref D)) _ _ _;refine hide λPP6 hPP6=>?_
    obtain⟨u,r',l,μ,cz,st,y,hc,hq⟩:=hK;refine hPP6 ?_;rw[<- eA];refine PyProof.Rows.assign_Name (ZcT O' (EO' C.EO) (M'.st st) hi h0 hc λs2 M2=>?_);obtain⟨⟨m,hm⟩,hb⟩:=back _ _ _ M2;exact⟨m,hm,λh' hs=>wpAny_pure (wpAny_pure ⟨_,hb h' hs,hq⟩)⟩
theorem sAttr(A:∀n,AllOK G N CK n){o v:PySem.Expr}{x:Str}{p pos:Pos}(hx:xS (n+1) cx (.Assign [.Attribute o x p] v pos)=some code)(C:Cn G X N cel cx X.env)(hW:Wr CK cel code S Q)(M:Mod G X cel S [] s) :
  Za5 G X cel Q (exec (.Assign [.Attribute o x p] v pos) X.env) s:=by
 refine bd2E hx λa b ha hb hx=>?_
 replace hW:=Wr.e hx hW
 replace hW:=hW.app
 refine plainObj_wpAny_Assign_Attribute (wpAny_mono ((A n).ev ha C hW M) (λw s1 q=>?_) λy y q=>q) (Zb4 λy y h=>by cases h);obtain⟨S1,M1,hW1⟩:=q;simp only[W_app] at hW1;refine wpAny_mono ((A n).ev hb C hW1 M1) (λwo s2 q=>?_) λy y q=>q
 obtain⟨S2,M2,hW2⟩:=q;obtain⟨a',u,r,Cc,dx,fs,μ',l,μ,cz,st,hC,hk,hz,hU,hq⟩:=hW2;have M3:=M2.st st;cases M3.refTop;exact Zc5 C.O M3 hC hk rfl hz hU λs' M'=>⟨_,M',hq⟩
theorem sItem(A:∀n,AllOK G N CK n){o i v:PySem.Expr}{p pos:Pos}{a b c:List IX}(ha:xE n cx v=some a)(hb:xE n cx o=some b)(hc:xE n cx i=some c)(C:Cn G X N cel cx X.env)(hW:Wr CK cel (a++(b++(c++[.si]))) S Q)(M:Mod G X cel S [] s) :
  Za5 G X cel Q (exec (.Assign [.Subscript o i p] v pos) X.env) s:=by
 replace hW:=hW.app
 refine wpAny_Assign_Subscript (wpAny_mono ((A n).ev ha C hW M) (λw s1 q=>?_) λy y q=>q) (Zb4 λy y h=>by cases h);obtain⟨S1,M1,hW1⟩:=q;simp only[W_app] at hW1;refine wpAny_mono ((A n).ev hb C hW1 M1) (λwo s2 q=>?_) λy y q=>q
 obtain⟨S2,M2,hW2⟩:=q;refine wpAny_mono ((A n).ev hc C hW2 M2) (λwi s3 q=>?_) λy y q=>q
 obtain⟨S3,M3,hW3⟩:=q;obtain⟨ix,a',u,r,vs,μ',l,μ,cz,st,hi,hz,hU,hq⟩:=hW3;have M4:=M3.st st;cases M4.ref2;exact Zee (S:=⟨.int ix::.ref a'::u::r,l,μ,cz⟩) (r':=r) (us':=[]) C.O M4 (λfz z=>⟨z.head,z.tail.tail.head,z.tail.tail.tail⟩) hi hz hU λs' M'=>⟨_,M',hq⟩
theorem sAugAttr(A:∀n,AllOK G N CK n){o v:PySem.Expr}{x:Str}{p pos:Pos}(hx:xS (n+1) cx (.AugAssign (.Attribute o x p) .Add v pos)=some code)(C:Cn G X N cel cx X.env)(hW:Wr CK cel code S Q)(M:Mod G X cel S [] s) :
  Za5 G X cel Q (exec (.AugAssign (.Attribute o x p) .Add v pos) X.env) s:=by
 refine bd2E hx λa b ha hb hx=>?_
 replace hW:=Wr.e hx hW
 replace hW:=hW.app
 show wpAny _ _ _ _ _ _;rw[arm_exec_AugAssign_2];refine wpAny_bind (wpAny_standAt (wpAny_bind (wpAny_mono ((A n).ev ha C hW M) (λwo s1 q=>?_) λy y q=>q)));obtain⟨S1,M1,hW1⟩:=q;obtain⟨o',u,r,l,μ,cz,st,hr,hW1⟩:=hW1;refine wpAny_bind (wpAny_holding (wpAny_bind (wpAny_standAt (wpAny_bind (attrM2 C.O (M1.st st) hr rfl λwu s2 M2=>?_)))));rw[W_app] at hW1;refine wpAny_bind (wpAny_holding (wpAny_mono ((A n).ev hb C hW1 M2) (λwv s3 q=>?_) λy y q=>q));obtain⟨S3,M3,hW3⟩:=q;obtain⟨⟨x1,x2⟩,r3,l3,μ3,cz3,st3,hW3⟩:=hW3;refine wpAny_bind (wpAny_standAt (wpAny_operate' (iaddM C.O (M3.st st3) λwn s4 M4=>?_)));obtain⟨a',v',r4,Cc,dx,fs,μ',l4,μ4,cz4,st4,hC,hk,hz,hU,hq⟩:=hW3;have M5:=M4.st st4;cases M5.ref2;have M6:Mod G X cel ⟨.ref a'::v'::r4,l4,μ4,cz4⟩ (.ref a'::wn::[]) s4:=M5.next C.O (.of λy y e=>e) rfl rfl λfz z=>.cons z.tail.head (.cons z.head z.tail.tail)
 refine wpAny_bind (wpAny_standAt (wpAny_bind (wpAny_holding (Zc5 C.O M6 hC hk rfl hz hU λs' M'=>?_))));exact wpAny_bind (wpAny_release' (wpAny_pure ⟨_,M',hq⟩))
theorem sAugItem(A:∀n,AllOK G N CK n){o i v:PySem.Expr}{p pos:Pos}{a b c:List IX}(hs:∀a b c p,i≠.Slice a b c p)(ha:xE n cx o=some a)(hc:xE n cx i=some c)(hb:xE n cx v=some b)(C:Cn G X N cel cx X.env)(hW:Wr CK cel (a++(c++(.dg::(b++[.iadd,.sg])))) S Q)(M:Mod G X cel S [] s) :
  Za5 G X cel Q (exec (.AugAssign (.Subscript o i p) .Add v pos) X.env) s:=by
 replace hW:=hW.app
 show wpAny _ _ _ _ _ _;rw[arm_exec_AugAssign_3];refine wpAny_bind (wpAny_standAt (wpAny_bind (wpAny_mono ((A n).ev ha C hW M) (λwo s1 q=>?_) λy y q=>q)));obtain⟨S1,M1,hW1⟩:=q;simp only[W_app] at hW1;refine wpAny_bind (wpAny_holding (wpAny_mono ((A n).ev hc C hW1 M1) (λwi s2 q=>?_) λy y q=>q));obtain⟨S2,M2,hW2⟩:=q;obtain⟨o',ix,u,r,l,μ,cz,st,hr,hW2⟩:=hW2;refine wpAny_bind (wpAny_holding (wpAny_bind (wpAny_standAt (wpAny_bind ?_))));refine(itemM (P:=λy=>True) C.O (M2.st st) hr λwu M3=>?_).1;rw[W_app] at hW2;refine wpAny_bind (wpAny_holding (wpAny_mono ((A n).ev hb C hW2 M3) (λwv s3 q=>?_) λy y q=>q));obtain⟨S3,M3,hW3⟩:=q;obtain⟨⟨x1,x2⟩,r3,l3,μ3,cz3,st3,hW3⟩:=hW3;refine wpAny_bind (wpAny_standAt (wpAny_operate' (iaddM C.O (M3.st st3) λwn s4 M4=>?_)));obtain⟨k,a',v',r4,vs,μ',l4,μ4,cz4,st4,hi,hz,hU,hq⟩:=hW3;have M5:=M4.st st4;cases M5.ref3;refine wpAny_bind (wpAny_standAt ?_);have e1:augStore i (.ref a') wi wn=(do holding [wn,.ref a',wi] (setItem (.ref a') wi wn);release [wn,.ref a',wi] [];pure .next):=by
  cases i<;>first|rfl|exact absurd rfl (hs _ _ _ _)
 rw[e1];refine wpAny_bind (wpAny_holding (Zee (S:=⟨v'::.int k::.ref a'::r4,l4,μ4,cz4⟩) (r':=r4) (us':=[]) C.O M5 (λfz z=>⟨z.tail.head,z.head,z.tail.tail.tail⟩) hi hz hU λs' M'=>?_));exact wpAny_bind (wpAny_release' (wpAny_pure ⟨_,M',hq⟩))
end
end
section
section
variable{G:Gl}{N n:Nat}{CK:CKT}{X:Act}{cel:List Nat}{cx:Cx}{e:Env}{S:Sg}{Q:Post}{s:Shared}{ws:List Value}{code:List IX}
theorem Zdn{v t:PySem.Expr}{k:Nat}{env:Env}(ht:∀a b,t≠.Name a b):swapsWithSole [t] v k env=pure false:=Zb4 ht
theorem sTup(A:∀n,AllOK G N CK n){ts:List PySem.Expr}{k:Nat}{p pos:Pos}{v:PySem.Expr}{a b:List IX}(ha:xE n cx v=some a)(hb:xT n cx ts=some b)(hs:swappedStores [.Tuple ts k p] v X.env=pure none)(C:Cn G X N cel cx X.env)(hlo:cx.lo=0)
  (hW:Wr CK cel (a++(.unp ts.length::b)) S Q) (M:Mod G X cel S [] s):Za5 G X cel Q (exec (.Assign [.Tuple ts k p] v pos) X.env) s:=by
 rw[Za5,arm_exec_Assign,Zdn λy y h=>by cases h];refine wpAny_bind (wpAny_standAt (wpAny_bind (wpAny_pure ?_)));rw[if_neg (by decide)];replace hW:=hW.app;refine wpAny_bind (wpAny_mono ((A n).ev ha C hW M) (λw s1 q=>?_) λy y q=>q);obtain⟨S1,M1,hW1⟩:=q;rw[hs];refine wpAny_bind (wpAny_pure ?_);show wpAny _ _ (do assign (.Tuple ts k p) X.env w;pure Flow.next) _ _ _;exact wpAny_bind (wpAny_mono (unpS (A n).ev C hlo hb hW1 M1) (λy s2 q=>wpAny_pure q) λy y q=>q)
theorem sSwap(A:∀n,AllOK G N CK n){ts:List PySem.Expr}{k:Nat}{p pos:Pos}{v:PySem.Expr}{a:List IX}{names:List Str}{is:List Nat}(ha:xE n cx v=some a)(hi:ZaC cx names=some is)(hl:names.length=ts.length)(hs:swappedStores [.Tuple ts k p] v X.env=pure (some names))(C:Cn G X N cel cx X.env)(hlo:cx.lo=0)
  (hW:Wr CK cel (a++(.unpR ts.length::is.reverse.map .s)) S Q) (M:Mod G X cel S [] s):Za5 G X cel Q (exec (.Assign [.Tuple ts k p] v pos) X.env) s:=by
 rw[Za5,arm_exec_Assign,Zdn λy y h=>by cases h];refine wpAny_bind (wpAny_standAt (wpAny_bind (wpAny_pure ?_)));rw[if_neg (by decide)];replace hW:=hW.app;refine wpAny_bind (wpAny_mono ((A n).ev ha C hW M) (λw s1 q=>?_) λy y q=>q);obtain⟨S1,M1,hW1⟩:=q;rw[hs];refine wpAny_bind (wpAny_pure ?_);unfold assignStores;obtain⟨vs,r,l,μ,cz,st,hv,hq⟩:=hW1;refine wpAny_bind (wpAny_rule (wpAny_bind (unpM C.O (M1.st st) (hv.trans hl.symm) λws' s' hl' M'=>?_)));have M2:Mod G X cel ⟨vs.reverse++r,l,μ,cz⟩ (ws'.reverse++[]) s':=M'.next C.O (.of λy y e=>e) rfl rfl λfz z=>by
  obtain⟨z1,z2⟩:=VRs.cut hl' z;exact z1.rev.append z2
 refine wpAny_bind (wpAny_mono (Zfd C hlo (Zct hi) ?_ hq M2) (λy s2 q=>wpAny_pure q) λy y q=>q);rw[List.length_reverse,List.length_reverse,hl',hv,hl]
theorem sFor(A:∀n,AllOK G N CK n)(h2:SsOK G N CK n){t it:PySem.Expr}{b:List Stmt}{pos:Pos}(hx:xS (n+1) cx (.For t it b [] pos)=some code)(C:Cn G X N cel cx X.env)(hlo:cx.lo=0)(hW:Wr CK cel code S Q)(M:Mod G X cel S [] s):Za5 G X cel Q (exec (.For t it b [] pos) X.env) s:=by
 refine bd3E hx λa tg cb ha htg hb hx=>?_
 replace hW:=Wr.e hx hW
 replace hW:=hW.app
 refine wpAny_For (wpAny_mono ((A n).ev ha C hW M) (λw s1 q=>?_) λy y q=>q) (noSet ha X.env);obtain⟨S1,M1,hW1⟩:=q;obtain⟨itv,items,l,μ,cz,st,hi,hcz,Inv,h0,hstep,hbt,hend⟩:=hW1;refine forM (CK:=CK) (code:=cb) (K:=Q.nx) (Q:=Q) C.O C.EO (M1.st st) hi htg hlo hcz h0 hstep (λv rest l1 μ h=>(hbt v rest l1 μ h).2) (λl1 μ h=>(hend l1 μ h).2) λX' O' EO' eA eE S' Q' s' hS hW' M'=>?_
 have C':Cn G X' N cel { cx with top:=false } X'.env:=⟨O',⟨EO'.sc,EO'.kf,EO'.gl,EO'.bu,EO'.nx,EO'.var,EO'.glob,EO'.mt⟩,C.lt,λh=>by cases h⟩;exact h2 hb C' hlo hW' M'
theorem sIf(A:∀n,AllOK G N CK n)(h2:SsOK G N CK n){t:PySem.Expr}{b o:List Stmt}{pos:Pos}(hx:xS (n+1) cx (.If t b o pos)=some code)(C:Cn G X N cel cx X.env)(hlo:cx.lo=0)(hW:Wr CK cel code S Q)(M:Mod G X cel S [] s):Za5 G X cel Q (exec (.If t b o pos) X.env) s:=by
 refine bd3E hx λct cb co ht hb ho hx=>?_
 replace hW:=Wr.e hx hW
 simp only[W_app,ZcY] at hW;refine wpAny_If (wpAny_mono ((A n).tr ht C hW M) (λc s1 q=>?_) λy y q=>q);obtain⟨S1,M1,k1,k2⟩:=q;cases c with
 |true=>rw[if_pos rfl];exact h2 hb C hlo (k1 rfl) M1
 |false=>rw[if_neg (by decide)];exact h2 ho C hlo (k2 rfl) M1
end
end
section
section
variable{G:Gl}{N n:Nat}{CK:CKT}{X:Act}{cel:List Nat}{cx:Cx}{e:Env}{S:Sg}{Q:Post}{s:Shared}{ws:List Value}{code:List IX}
theorem asCall_e{α:Type}{y:α}{e:PySem.Expr}{K:PySem.Expr->List PySem.Expr->Option α}{P:PySem.Expr->Prop}(h:asCall e K=some y)(C:∀f a p,K f a=some y->P (.Call f a [] p)):P e:=by
 cases e with
 |Call f a kw p=>cases kw with
  |nil=>exact C f a p h
  |cons=>exact no h rfl
 |_=>exact no h rfl
theorem asNm_e{α:Type}{y:α}{e:PySem.Expr}{K:Str->Option α}{P:PySem.Expr->Prop}(h:asNm e K=some y)(C:∀x p,K x=some y->P (.Name x p)):P e:=by
 cases e<;>first|exact no h rfl|exact C _ _ h
theorem asSt_e{α:Type}{y:α}{e:PySem.Expr}{K:Option α}{P:PySem.Expr->Prop}(h:asSt e K=some y)(C:∀s k p,K=some y->P (.Constant (.str s) k p)):P e:=by
 cases e with
 |Constant c k p=>cases c<;>first|exact no h rfl|exact C _ _ _ h
 |_=>exact no h rfl
theorem Zfj{pos:Pos}{P:Option PySem.Expr->Option PySem.Expr->Prop}{ex ca:Option PySem.Expr}(h:xS (n+1) cx (.Raise ex ca pos)=some code)(K:∀x np m k mp cp,xRai cx x=some code->P (some (.Call (.Name x np) [.Constant (.str m) k mp] [] cp)) none):P ex ca:=by
 cases ca with
 |some=>exact no h rfl
 |none=>cases ex with
  |none=>exact no h rfl
  |some e =>
   refine asCall_e (P:=λe=>P (some e) none) h λf a p h=>?_
   cases a with
   |nil=>exact no h rfl
   |cons m r=>cases r with
    |cons=>exact no h rfl
    |nil=>exact asSt_e (P:=λm=>P (some (.Call f [m] [] p)) none) h λs k mp h=>asNm_e (P:=λf=>P (some (.Call f [.Constant (.str s) k mp] [] p)) none) h λx np h=>K x np s k mp p h
theorem sRaise{ex:Option PySem.Expr}{ca:Option PySem.Expr}{pos:Pos}(hx:xS (n+1) cx (.Raise ex ca pos)=some code)(C:Cn G X N cel cx X.env)(hW:Wr CK cel code S Q)(M:Mod G X cel S [] s):Za5 G X cel Q (exec (.Raise ex ca pos) X.env) s:=by
 refine Zfj (P:=λex ca=>Za5 G X cel Q (exec (.Raise ex ca pos) X.env) s) hx λx np m k mp cp hx=>?_
 obtain⟨q1,hx⟩:=ifn hx;refine bdE hx λv q2 hx=>?_
 cases v with
 |ref Ca =>
  obtain⟨hc,hx⟩:=ify hx;replace hW:=Wr.e hx hW;simp only[Bool.and_eq_true,beq_iff_eq,bne_iff_ne,ne_eq,List.contains_eq_mem,decide_eq_true_eq] at hc;obtain⟨S',st,hE⟩:=hW;exact raiseM C.O C.EO M hc.1.1 hc.1.2 q2 (beq_eq_false_iff_ne.mpr hc.2) hE
 |_=>exact no hx rfl
theorem xS_item{v o i:PySem.Expr}{p pos:Pos}(hs:∀a b c p,i≠.Slice a b c p):xS (n+1) cx (.Assign [.Subscript o i p] v pos)=((xE n cx v).bind λa=>(xE n cx o).bind λb=>(xE n cx i).bind λc=>some (a++(b++(c++[IX.si])))):=by
 cases i<;>first|rfl|exact absurd rfl (hs _ _ _ _)
theorem xS_aug{v o i:PySem.Expr}{p pos:Pos}(hs:∀a b c p,i≠.Slice a b c p):xS (n+1) cx (.AugAssign (.Subscript o i p) .Add v pos)=((xE n cx o).bind λa=>(xE n cx i).bind λc=>(xE n cx v).bind λb=>some (a++(c++(IX.dg::(b++[IX.iadd,IX.sg]))))):=by
 cases i<;>first|rfl|exact absurd rfl (hs _ _ _ _)
theorem xS_tup{v:PySem.Expr}{es:List PySem.Expr}{k:Nat}{p pos:Pos}(h1:∀a b c,v≠.Tuple a b c)(h2:∀a b c d,v≠.ListComp a b c d):xS (n+1) cx (.Assign [.Tuple es k p] v pos)=((xE n cx v).bind λa=>(xT n cx es).bind λb=>some (a++(IX.unp es.length::b))):=by
 cases v<;>first|rfl|exact absurd rfl (h1 _ _ _)|exact absurd rfl (h2 _ _ _ _)
theorem sAssign(A:∀n,AllOK G N CK n){ts:List PySem.Expr}{v:PySem.Expr}{pos:Pos}(hx:xS (n+1) cx (.Assign ts v pos)=some code)(C:Cn G X N cel cx X.env)(hlo:cx.lo=0)(hW:Wr CK cel code S Q)(M:Mod G X cel S [] s):Za5 G X cel Q (exec (.Assign ts v pos) X.env) s:=by
 cases ts with
 |nil=>exact no hx rfl
 |cons t ts =>
  cases ts with
  |cons _ _=>exact no hx (by cases t<;>rfl)
  |nil =>
   cases t with
   |Name x p=>exact sName A hx C hlo hW M
   |Attribute o x p=>exact sAttr A hx C hW M
   |Subscript o i p =>
    by_cases hs:∃a b c p,i=.Slice a b c p
    ·obtain⟨z,z,z,z,rfl⟩:=hs;exact no hx rfl
    ·refine bd3E ((xS_item λa b c p e=>hs ⟨a,b,c,p,e⟩).symm.trans hx) λa b c ha hb hc hx=>?_
     replace hW:=Wr.e hx hW
     exact sItem A ha hb hc C hW M
   |Tuple es k p =>
    by_cases hv:∃a b c,v=.Tuple a b c
    ·obtain⟨vs,k2,p2,rfl⟩:=hv
     obtain⟨-,hx⟩:=ifn hx;refine bdE hx λa ha hx=>?_
     have hsw:∀{r},Zcr (λx=>cx.kd x==some .local) es vs=some r->swappedStores [.Tuple es k p] (.Tuple vs k2 p2) X.env=pure r:=λh=>Zfb (funBlock C.EO.kfe) (λx=>by rw[C.EO.kof]) h
     refine bdE hx λr q hx=>?_
     cases r with
     |some names =>
      refine bdE hx λis hi hx=>?_
      replace hW:=Wr.e hx hW
      exact sSwap A ha hi (ZeI q) (hsw q) C hlo hW M
     |none =>
      refine bdE hx λb hb hx=>?_
      replace hW:=Wr.e hx hW
      exact sTup A ha hb (hsw q) C hlo hW M
    ·have hv:∀a b c,v≠.Tuple a b c:=λa b c e=>hv ⟨a,b,c,e⟩
     by_cases hv2:∃a b c d,v=.ListComp a b c d
     ·obtain⟨z,z,z,z,rfl⟩:=hv2;exact no hx rfl
     ·refine bd2E ((xS_tup hv λa b c d e=>hv2 ⟨a,b,c,d,e⟩).symm.trans hx) λa b ha hb hx=>?_
      replace hW:=Wr.e hx hW
      exact sTup A ha hb (Zfa hv) C hlo hW M
   |_=>exact no hx rfl
theorem sAug(A:∀n,AllOK G N CK n){t v:PySem.Expr}{op:Operator}{pos:Pos}(hx:xS (n+1) cx (.AugAssign t op v pos)=some code)(C:Cn G X N cel cx X.env)(hW:Wr CK cel code S Q)(M:Mod G X cel S [] s):Za5 G X cel Q (exec (.AugAssign t op v pos) X.env) s:=by
 cases t with
 |Attribute o x p =>
  cases op with
  |Add=>exact sAugAttr A hx C hW M
  |_=>exact no hx rfl
 |Subscript o i p =>
  cases op with
  |Add =>
   by_cases hs:∃a b c p,i=.Slice a b c p
   ·obtain⟨z,z,z,z,rfl⟩:=hs;exact no hx rfl
   ·have hs:∀a b c p,i≠.Slice a b c p:=λa b c p e=>hs ⟨a,b,c,p,e⟩
    refine bd3E ((xS_aug hs).symm.trans hx) λa c b ha hc hb hx=>?_
    replace hW:=Wr.e hx hW
    exact sAugItem A hs ha hc hb C hW M
  |_=>exact no hx rfl
 |_=>exact no hx rfl
theorem sStep(A:∀n,AllOK G N CK n)(h2:SsOK G N CK n):SOK G N CK (n+1):=by
 intro st;cases st with
 |Expr e pos =>
  cases e with
  |Call f args kws p =>
   cases kws with
   |nil=>exact λhx C hlo hW M=>sExpr A hx C hW M
   |cons _ _=>exact @SAt.no _ _ _ _ _ λz=>rfl
  |_=>exact @SAt.no _ _ _ _ _ λz=>rfl
 |Return v pos =>
  cases v with
  |none=>exact @SAt.no _ _ _ _ _ λz=>rfl
  |some x=>exact λhx C hlo hW M=>sRet A hx C hW M
 |Assign ts v pos=>exact λhx C hlo hW M=>sAssign A hx C hlo hW M
 |AugAssign t op v pos=>exact λhx C hlo hW M=>sAug A hx C hW M
 |If t b o pos=>exact λhx C hlo hW M=>sIf A (@h2) hx C hlo hW M
 |For t it b o pos =>
  cases o with
  |nil=>exact λhx C hlo hW M=>sFor A (@h2) hx C hlo hW M
  |cons _ _=>exact @SAt.no _ _ _ _ _ λz=>rfl
 |Raise ex ca pos=>exact λhx C hlo hW M=>sRaise hx C hW M
 |_=>exact @SAt.no _ _ _ _ _ λz=>rfl
theorem sAll(hCK:∀f vs μ R E,CK f vs μ R E->CallX G N f vs μ R E):∀n,SOK G N CK n/\SsOK G N CK n
 |0=>⟨λh=>no h rfl,λh=>no h rfl⟩
 |n+1=>by
  have A:∀n,AllOK G N CK n:=allOK hCK;have h:=sAll hCK n;exact⟨sStep A h.2,ssStep h.1 h.2⟩
end
end
theorem ZeB{k:Str->Option NameKind}{x:Str}:∀{binds:List (Str×Value)}{m:Str->Option Value},(binds.map (·.1)).Nodup->k x=some .local->bindL k binds m x=(binds.lookup x).or (m x)
 |[],_,_,_=>rfl
 |(y,v)::r,m,nd,h=>by
  rw[map_cons] at nd;obtain⟨n1,n2⟩:=nodup_cons.mp nd;unfold bindL;rw[ZeB n2 h,lookup_cons];by_cases q:x=y
  ·subst q
   have e:List.lookup x r=none:=by
    cases z:List.lookup x r with
    |none=>rfl
    |some w=>exact absurd (mem_map.mpr ⟨_,mem_of_lookup z,rfl⟩) n1
   rw[e,if_pos h];simp
  ·have q':(x==y)=false:=beq_eq_false_iff_ne.mpr q
   rw[q'];dsimp only;congr 1;split
   ·simp[q]
   ·rfl
theorem ZeC{k:Str->Option NameKind}{x:Str}:∀{binds:List (Str×Value)}{m:Str->Option Value},(binds.map (·.1)).Nodup->k x≠some .local->bindC k binds m x=(binds.lookup x).or (m x)
 |[],_,_,_=>rfl
 |(y,v)::r,m,nd,h=>by
  rw[map_cons] at nd;obtain⟨n1,n2⟩:=nodup_cons.mp nd;unfold bindC;rw[ZeC n2 h,lookup_cons];by_cases q:x=y
  ·subst q
   have e:List.lookup x r=none:=by
    cases z:List.lookup x r with
    |none=>rfl
    |some w=>exact absurd (mem_map.mpr ⟨_,mem_of_lookup z,rfl⟩) n1
   rw[e,if_neg h];simp
  ·have q':(x==y)=false:=beq_eq_false_iff_ne.mpr q
   rw[q'];dsimp only;congr 1;split
   ·rfl
   ·simp[q]
theorem zip_rel{P:Params}{fz:Led0}{x:Str}{v:V}{names:List Str}{vs:List V}{ws:List Value}(z:VRs P fz vs ws)(h:(names.zip vs).lookup x=some v):∃w,(names.zip ws).lookup x=some w/\VR P fz v w:=by
 induction names generalizing vs ws with
 |nil=>exact nomatch h
 |cons y names ih=>cases vs with
  |nil=>exact nomatch h
  |cons u vs =>
   revert h
   apply z.eC;intro w us a b h;rw[List.zip_cons_cons,lookup_cons] at h⊢;cases q:x==y with
   |true=>rw[q] at h;cases h;exact⟨_,rfl,a⟩
   |false=>rw[q] at h;exact ih b h
theorem ZcZ:∀{names:List Str}{ws:List Value},names.length=ws.length->(names.zip ws).map (·.1)=names
 |[],[],_=>rfl
 |x::names,w::ws,h=>by rw[List.zip_cons_cons,map_cons,ZcZ (by simpa using h)]
 |[],_::_,h=>by cases h
 |_::_,[],h=>by cases h
theorem ZdI{h:Heap}{cm:Str->Option Value}:∀{L:List (Str×Addr)},(∀x c,(x,c)∈L->h.IsCell c (cm x))->∃ncs:Led0,keys ncs=L.map (·.2)/\(∀p∈ncs,h.get? p.1=some p.2)/\∀x c,(x,c)∈L->∃o,(c,o)∈ncs/\o.data=.cell (cm x)
 |[],_=>⟨[],rfl,λj hp=>(nomatch hp),λj j hp=>(nomatch hp)⟩
 |(x,c)::r,k=>by
  obtain⟨ncs,e,h1,h2⟩:=ZdI (L:=r) λx c hm=>k x c (.tail _ hm)
  obtain⟨o,ho,hd⟩:=k x c (.head _);refine⟨(c,o)::ncs,by rw[map_cons,<- e];rfl,forall_mem_cons.mpr ⟨ho,h1⟩,λy d hm=>?_⟩;refine mC hm (λq=>?_) λhm=>?_
  ·cases q;exact⟨o,.head _,hd⟩
  ·obtain⟨o',q1,q2⟩:=h2 y d hm
   exact⟨o',.tail _ q1,q2⟩
def ZbN(sc:Scope):List Nat:=(List.range (own0 sc).length).filter λi=>((own0 sc)[i]?.bind λx=>sc.names.lookup x)==some .cell
theorem Zf5{sc:Scope}{i:Nat}{x:Str}(h:(own0 sc)[i]?=some x)(hk:sc.names.lookup x=some .cell):i∈ZbN sc:=by
 refine mem_filter.mpr ⟨List.mem_range.mpr (List.getElem?_eq_some_iff.mp h).1,?_⟩;rw[h];simp[hk]
theorem celOf_lt{sc:Scope}{i:Nat}(h:i∈ZbN sc):i<(own0 sc).length:=List.mem_range.mp (mem_filter.mp h).1
inductive FnEx(w:World)(f:Addr)(st:Stmt)(names:List Str)(dvs:List V)(tp:Bool)(qual:Str):Prop
 |mk (nn q:String) (d pm c:Value) (_:FnAt w f nn q st d pm c) (_:(Str.ofString q++".<locals>.")=qual) (_:(tp=true->∃a P,c=.ref a/\P∈tbs/\(∀h:Heap,(K0 w.params).In h->CodeHd h a P)/\qual++("<lambda>" : Str)=qualP P))
  (_:∀(s:Shared) (ws:List Value),(K0 w.params).In s.heap->ws.length+dvs.length=names.length->∃dws,(∀fz,VRs w.params fz dvs dws)/\BindsTo s (ffd nn q st d pm c) ⟨ws,[]⟩ (names.zip (ws++dws)))
structure FnOK(w:World)(f:Addr)(st:Stmt)(names:List Str)(dvs:List V)(tp:Bool)(qual:Str):Prop where
 ex:FnEx w f st names dvs tp qual
 nd:((Zac st).names.map (·.1)).Nodup
 nm:names.Nodup
 kd:∀x∈names,(Zac st).names.lookup x=some .local\/(Zac st).names.lookup x=some .cell
 zero:∀p∈(Zac st).names,p.1≠(".0" : Str)
def cxF(st:Stmt)(glob:Str->Option V)(tp:Bool)(qual:Str):Cx:={ vars:=zipN (own0 (Zac st)) 0,nx:=(own0 (Zac st)).length,sc:=Zac st,lo:=0,top:=tp,glob:=glob,qual:=qual }
def l0F(st:Stmt)(names:List Str)(vs:List V):List (Option V):=(own0 (Zac st)).map λx=>(names.zip vs).lookup x
section
section
variable{G:Gl}{n:Nat}{f:Addr}{st:Stmt}{names:List Str}{dvs vs:List V}{tp:Bool}{qual:Str}{glob:Str->Option V}{code:List IX}{μ:Led}{R:V->Led->Prop}{E:Addr->Prop}
inductive StoAt(sc:Scope)(L:Addr)(nc:List (Str×Addr))(j:Nat)(x:Str):Prop
 |loc (_:sc.names.lookup x=some .local) (_:(Zal sc L nc)[j]?=some (.ns L x))
 |cel (_:sc.names.lookup x=some .cell) (c:Addr) (_:(Zal sc L nc)[j]?=some (.cell c)) (_:nc.lookup x=some c) (_:(x,c)∈nc)
theorem actNew{A:Around}{envs:List Env}{fro:List (Addr×Obj)}{h₀ h h':Heap}{fz mu cs:Led0}{L:Addr}{env:Env}{sto:List Sto}{m:Str->Option Value}{X:Act}(hX:{ A:=A.deeper env,env:=env,outer:=envs,L:=L,own:=[L],h₀:=h₀,fro:=fro,fz0:=fz,sto:=sto }=X)
  (hn:n+1<900) (hA:A.frames=some envs) (hh:A.handled=none) (hd:A.depth<=n) (hu:A.units<=8*n) (hfro:FrOK envs fro) (hst:G.hb.StaysIn h₀) (habv:∀a∈keys fro,a∉tbs->G.hb.objs.size<=a) (hsz:G.hb.objs.size<=h.objs.size) (I:Inv G (Zap h₀ fro fz) fz mu h) (hL:h.objs.size=L)
  (hfr:env.frame=some L) (kf:env.scope.kind=.function) (keep:∀b o,h.get? b=some o->h'.get? b=some o) (csk:∀a∈keys cs,L<a) (csnd:(keys cs).Nodup) (hcs:∀p∈cs,h'.get? p.1=some p.2) (hns:h'.Ns L m):AOK G X (n+1)/\Inv G X fz (mu++cs) h':=by
 have hlt:∀{b o},h.get? b=some o->b<L:=λe=>hL▸Heap.lt_size e
 have nd0:(keys mu++(tbs++keys fro)).Nodup:=I.nd;have oldlt:∀a∈keys mu++(tbs++keys fro),a<L:=λa ha=>by
  obtain⟨o,ho⟩:=I.has ha;exact hlt ho
 have fzd:∀p∈fz,p.1∉keys mu++(tbs++keys fro):=I.fzd;have dyn:∀a∈keys mu++(tbs++keys fro),h₀.get? a=none:=I.dyn;have hnone:∀a,L<=a->h.get? a=none:=λa ha=>Heap.get?_none_of_le (hL▸ha)
 have st:∀b o,h₀.get? b=some o->h.get? b=some o:=I.st;subst hX;have eD:∀a,a∈keys (mu++cs)++([L]++(tbs++keys fro))->a∈keys mu++(tbs++keys fro)\/L<=a:=λa ha=>by
  simp only[keys,map_append,mem_append,mem_singleton] at ha⊢;rcases ha with(ha|ha)|ha|ha
  ·exact .inl (.inl ha)
  ·exact .inr (lw (csk a ha))
  ·exact .inr (ha▸Nat.le_refl _)
  ·exact .inl (.inr ha)
 refine⟨⟨?_,hh,?_,?_,hn,hfr,kf,⟨[],rfl⟩,hfro,hst,λa ha hb=>?_⟩,⟨λb o e=>keep _ _ (st _ _ e),λa ha=>?_,?_,λp hp=>?_,λp hp=>keep _ _ (I.fzh p hp),λp hp ha=>?_,λp hp=>.inl hp,λp hp=>hp,λa ha=>?_,λp hp=>?_,λP hP=>?_,λp hp=>nomatch hp⟩⟩
 ·show A.frames.map (env::·)=_;rw[hA];rfl
 ·show A.depth+1<=n+1;lia
 ·show A.units+3<=8*(n+1);lia
 ·refine mA (show a∈[L]++(tbs++keys fro) from ha) (λha=>?_) λha=>?_
  ·rw[mem_singleton.mp ha];exact hL▸hsz
  ·exact(mem_append.mp ha).elim (λha=>absurd ha hb) λha=>habv a ha hb
 ·rcases eD a ha with q|q
  ·exact dyn a q
  ·exact I.none0 (hnone a q)
 ·have q1:=nodup_append.mp nd0
  show(keys (mu++cs)++([L]++(tbs++keys fro))).Nodup;have e:keys (mu++cs)=keys mu++keys cs:=by simp[keys]
  have lo:∀b,b∈tbs++keys fro->b<L:=λb hb=>oldlt b (mem_append_right _ hb)
  rw[e,append_assoc];refine nodup_append.mpr ⟨q1.1,nodup_append.mpr ⟨csnd,nodup_cons.mpr ⟨λhm=>Nat.lt_irrefl _ (lo _ hm),q1.2.1⟩,λa ha b hb e=>?_⟩,λa ha b hb e=>?_⟩
  ·subst e
   rcases mem_cons.mp hb with rfl|hb
   ·exact Nat.lt_irrefl _ (csk a ha)
   ·exact absurd (lo a hb) (Nat.lt_asymm (csk a ha))
  ·subst e
   have h1:=oldlt a (mem_append_left _ ha);refine mA hb (λhb=>?_) λhb=>?_
   ·exact absurd (csk a hb) (Nat.lt_asymm h1)
   ·rcases mem_cons.mp hb with rfl|hb
    ·exact Nat.lt_irrefl _ h1
    ·exact q1.2.2 a ha a hb rfl
 ·exact(mem_append.mp hp).elim (λhp=>keep _ _ (I.ents p hp)) (hcs p)
 ·rcases eD _ ha with q|q
  ·exact fzd p hp q
  ·exact Nat.lt_irrefl _ (Nat.lt_of_lt_of_le (hlt (I.fzh p hp)) q)
 ·rw[mem_singleton.mp ha];exact⟨m,hns⟩
 ·obtain⟨sl,e⟩:=I.fro p hp
  exact⟨sl,keep _ _ e⟩
 ·have t:=I.tab P hP
  obtain⟨ps,e,U⟩:=id t;exact t.mono (by rw[keep _ _ e,e]) λU x=>x
theorem runFnG(hn:n+1<900)(F:FnOK G.w f st names dvs tp qual)(hg:ZdL G glob)(hlen:vs.length+dvs.length=names.length)
  (hbody:∀(X:Act) (s':Shared),Cn G X (n+1) (ZbN (Zac st)) (cxF st glob tp qual) X.env->Mod G X (ZbN (Zac st)) ⟨[],l0F st names (vs++dvs),μ,false⟩ [] s'->Za5 G X (ZbN (Zac st)) ⟨λS=>∃S',St S S'/\R .none S'.μ,R,E⟩ (execs (ZbX st) X.env) s')
  {A:Around}{envs:List Env}{fro:List (Addr×Obj)}{h₀:Heap}{fz mu:Led0}{ws:List Value}{s:Shared} (hA:A.frames=some envs) (hh:A.handled=none) (hd:A.depth<=n) (hu:A.units<=8*n) (hfro:FrOK envs fro) (hst:G.hb.StaysIn h₀)
  (habv:∀a∈keys fro,a∉tbs->G.hb.objs.size<=a) (hsz:G.hb.objs.size<=s.heap.objs.size) (I:Inv G (Zap h₀ fro fz) fz mu s.heap) (RL:LR G.w.params fz μ mu) (Zs:VRs G.w.params fz vs ws) (o1:s.os=G.os) (o2:s.gens=#[]) :
  codeAny (model P0 G.w) A (.call (.ref f) ⟨ws,[]⟩) (λr s'=>match r with|.ok (.ret v)=>PostV G h₀ fro fz R v s'|.ok _=>False|.error x=>PostE G h₀ fro fz envs E x s') s:=by
 refine hide λPP0 hPP0=>?_
 obtain⟨nn,q,d,pm,c,FA,hq,htp,hbind⟩:=F.ex;have stH:∀b o,G.hb.get? b=some o->s.heap.get? b=some o:=λb o e=>I.st _ _ (hst _ _ e)
 have X0:(K0 G.w.params).In s.heap:=G.K.keeps stH;have hwl:=Zs.length;obtain⟨dws,hdv,hB⟩:=hbind s ws X0 (by rw[hwl];exact hlen);refine hPP0 ?_;have hdl:=(hdv []).length;have hZ:VRs G.w.params fz (vs++dvs) (ws++dws):=Zs.append (hdv fz);have hnl:names.length=(ws++dws).length:=by rw[length_append,hwl,hdl];exact hlen.symm
 have hroom:A.depth<recursionLimit:=by show A.depth<1000;lia
 refine(codeAny_call_function (fd:=ffd nn q st d pm c) (body:=ZbX st) hroom (X0 _ _ FA.at_) rfl FA.co FA.ge rfl (codeRec_of X0 FA.code) (hB _ _ _ _ ?_));have zk:=ZcZ hnl;refine wpAny_newFunctionEnv_cells FA.kf (λx hx=>?_) λenv he s' IC=>?_
 ·have hx1:x.1∈names:=by rw[<- zk];exact mem_map_of_mem hx
  rcases F.kd x.1 hx1 with h|h
  ·exact .inl h
  ·exact .inr ⟨h,cellsFrom_some _ _ _ (.inl h)⟩
 have stS:=IC.toInCall.keep;refine⟨(G.T.nolimit.keeps stH).keeps stS,codeAny_func ?_⟩;generalize hL:s.heap.objs.size=L at he;have hcel:env.cells=cellsFrom (L+1) (Zac st).names []:=by rw[he];rfl
 have hloc:env.locals=L:=by rw[he];rfl
 have hkd:∀x,env.kindOf x=(Zac st).names.lookup x:=λx=>by rw[he];rfl
 have hsc:env.scope=Zac st:=by rw[he];rfl
 have hfr:env.frame=some L:=by rw[he];rfl
 rw[hloc,hcel] at IC;generalize hm:bindL env.kindOf (names.zip (ws++dws)) (λU=>none)=m at IC;generalize hcm:bindC env.kindOf (names.zip (ws++dws)) (λU=>none)=cm at IC;have mAt:∀x,(Zac st).names.lookup x=some .local->m x=(names.zip (ws++dws)).lookup x:=λx hx=>by
  rw[<- hm,ZeB (by rw[zk];exact F.nm) ((hkd x).trans hx)];simp
 have cmAt:∀x,(Zac st).names.lookup x=some .cell->cm x=(names.zip (ws++dws)).lookup x:=λx hx=>by
  rw[<- hcm,ZeC (by rw[zk];exact F.nm) (by rw[hkd x,hx];decide)];simp
 generalize hnc:cellsFrom (L+1) (Zac st).names []=nc at IC;have keysNc:(nc.map (·.1)).Nodup->True:=λU=>trivial
 have look:∀x c,(x,c)∈nc->nc.lookup x=some c:=λx c hmm=>by
  have hk:x∈(cellsFrom (L+1) (Zac st).names []).map (·.1):=by rw[hnc];exact mem_map.mpr ⟨_,hmm,rfl⟩
  have ndk:(nc.map (·.1)).Nodup:=by
   rw[<- hnc];have:∀(ns:List (Str×NameKind)) (k:Nat) (acc:List (Str×Addr)),(ns.map (·.1)).Nodup->(acc.map (·.1)).Nodup->(∀x∈acc.map (·.1),x∉ns.map (·.1))->((cellsFrom k ns acc).map (·.1)).Nodup:=by
    intro ns;induction ns with
    |nil=>intro k acc U h U;exact h
    |cons p ns ih =>
     obtain⟨y,kd⟩:=p;intro k acc h1 h2 h3;rw[map_cons] at h1;obtain⟨n1,n2⟩:=nodup_cons.mp h1;unfold cellsFrom;split
     ·refine ih _ _ n2 ?_ ?_
      ·rw[map_cons]
       exact nodup_cons.mpr ⟨λhm=>h3 _ hm (by simp),h2⟩
      ·intro x hx
       rw[map_cons] at hx;rcases mem_cons.mp hx with rfl|hx
       ·exact n1
       ·exact λhm=>h3 x hx (by simp only[map_cons,mem_cons];exact .inr hm)
     ·exact ih _ _ n2 h2 λx hx hm=>h3 x hx (by simp only[map_cons,mem_cons];exact .inr hm)
   exact this _ _ _ F.nd List.nodup_nil (λU h=>nomatch h)
  exact lookup_of_mem_nodup ndk hmm
 obtain⟨cs,hk,hcs,hcd⟩:=ZdI (h:=s'.heap) (cm:=cm) (L:=nc) λx c hmm=>IC.cell x c (look x c hmm)
 have csk:∀a∈keys cs,L<a:=λa ha=>by
  rw[hk] at ha;obtain⟨p,hp,rfl⟩:=mem_map.mp ha;exact IC.above p.1 p.2 hp
 have csnd:(keys cs).Nodup:=by rw[hk];exact List.pairwise_map.mpr IC.apart
 generalize hX:({ A:=A.deeper env,env:=env,outer:=envs,L:=L,own:=[L],h₀:=h₀,fro:=fro,fz0:=fz,sto:=Zal (Zac st) L nc }:Act)=X;obtain⟨O,II⟩:=actNew hX hn hA hh hd hu hfro hst habv hsz I hL hfr (by rw[hsc];exact FA.kf) stS csk csnd hcs IC.toInCall.ns;have x1:X.A=A.deeper env:=by rw[<- hX]
 have x2:X.env=env:=by rw[<- hX]
 have x3:X.outer=envs:=by rw[<- hX]
 have x5:X.own=[L]:=by rw[<- hX]
 have x6:X.h₀=h₀:=by rw[<- hX]
 have x7:X.fro=fro:=by rw[<- hX]
 have x8:X.fz0=fz:=by rw[<- hX]
 have x9:X.sto=Zal (Zac st) L nc:=by rw[<- hX]
 have x10:X.fxn=[]:=by rw[<- hX]
 have x11:X.fxc=[]:=by rw[<- hX]
 have ownLook:∀x∈own0 (Zac st),∃k,(Zac st).names.lookup x=some k/\(k=.local\/k=.cell):=λx hx=>by
  obtain⟨k,hmm,hk⟩:=Zem hx;exact⟨k,Za6 F.nd hmm,hk⟩
 have ncLook:∀x,(Zac st).names.lookup x=some .cell->∃c,nc.lookup x=some c/\(x,c)∈nc:=λx hx=>by
  have:=cellsFrom_some (x:=x) (Zac st).names (L+1) [] (.inl hx);rw[hnc] at this;obtain⟨c,hc⟩:=Option.isSome_iff_exists.mp this;exact⟨c,hc,mem_of_lookup hc⟩
 have stoAt:∀(j:Nat) x,(own0 (Zac st))[j]?=some x->StoAt (Zac st) L nc j x:=λj x hj=>by
  have e1:(Zal (Zac st) L nc)[j]?=some (if(Zac st).names.lookup x=some .cell then .cell ((nc.lookup x).getD 0) else .ns L x):=by unfold Zal;rw[List.getElem?_map,hj];rfl
  obtain⟨k,hk,hkk⟩:=ownLook x (List.mem_of_getElem? hj);rcases hkk with rfl|rfl
  ·rw[if_neg (by rw[hk];simp)] at e1;exact .loc hk e1
  ·rw[if_pos hk] at e1
   obtain⟨c,h1,h2⟩:=ncLook x hk;exact .cel hk c (by rw[e1,h1];rfl) h1 h2
 have stoInv:∀(j:Nat) sto,(Zal (Zac st) L nc)[j]?=some sto->∃x,(own0 (Zac st))[j]?=some x:=λj sto hj=>by
  unfold Zal at hj;rw[List.getElem?_map] at hj;obtain⟨x,hx,U⟩:=Option.map_eq_some_iff.mp hj;exact⟨x,hx⟩
 have EO:EnvOK G X (cxF st glob tp qual) X.env:=by
  rw[x2];refine⟨hsc,FA.kf,by rw[he];rfl,by rw[he];rfl,?_,λx i hi=>?_,hg,λi st' U hst'=>?_⟩
  ·rw[x9];simp[cxF,Zal]
  ·obtain⟨j,hj,rfl⟩:=Zcg (show(zipN (own0 (Zac st)) 0).lookup x=some i from hi)
   rw[Nat.zero_add];rcases stoAt j x hj with⟨h1,h2⟩|⟨h1,c,h2,h3,h4⟩
   ·exact⟨.ns L x,by rw[x9];exact h2,⟨rfl,hloc.symm,h1,Nat.zero_le _⟩⟩
   ·exact⟨.cell c,by rw[x9];exact h2,⟨by rw[hcel,hnc];exact h3,.inl h1⟩⟩
  ·rw[x10,x11]
   cases st'<;>simp
 have SL:SR G X (ZbN (Zac st)) fz cs s'.heap (l0F st names (vs++dvs)) false:=by
  refine⟨λi v hv=>?_,λi c hi U=>?_,λi c hi hq=>(nomatch hq.1),λi a x hi=>?_,?_,λp hp=>by rw[x11] at hp;cases hp⟩
  ·unfold l0F at hv
   rw[List.getElem?_map] at hv;refine hide λPP1 hPP1=>?_
   obtain⟨x,hx,hv⟩:=Option.map_eq_some_iff.mp hv;obtain⟨w,hw,hr⟩:=zip_rel hZ hv;refine hPP1 ?_;rw[x9];rcases stoAt i x hx with⟨h1,h2⟩|⟨h1,c,h2,h3,h4⟩
   ·exact⟨_,w,h2,⟨m,IC.toInCall.ns,by rw[mAt x h1,hw]⟩,hr⟩
   ·obtain⟨o,q1,q2⟩:=hcd x c h4
    exact⟨_,w,h2,⟨o,mem_append_left _ q1,by rw[q2,cmAt x h1,hw]⟩,hr⟩
  ·rw[x9] at hi
   obtain⟨x,hx⟩:=stoInv i _ hi;rcases stoAt i x hx with⟨h1,h2⟩|⟨h1,c',h2,h3,h4⟩
   ·rw[h2] at hi;cases hi
   ·rw[h2] at hi;cases hi
    obtain⟨o,q1,q2⟩:=hcd x _ h4;exact⟨o,_,q1,q2⟩
  ·rw[x9] at hi
   obtain⟨y,hy⟩:=stoInv i _ hi;rcases stoAt i y hy with⟨h1,h2⟩|⟨h1,c',h2,h3,h4⟩
   ·rw[h2] at hi;cases hi;rw[x5];exact .head _
   ·rw[h2] at hi;cases hi
  ·rw[x9]
   unfold Zal;refine List.pairwise_map.mpr (List.Pairwise.imp_of_mem (R:=λa b=>a≠b) ?_ (Zfq F.nd));intro x y hx hy hne q;refine hide λPP2 hPP2=>?_
   obtain⟨k,hk,hkk⟩:=ownLook x hx;obtain⟨k',hk',hkk'⟩:=ownLook y hy;refine hPP2 ?_;rcases hkk with rfl|rfl<;>rcases hkk' with rfl|rfl
   ·rw[if_neg (by rw[hk];simp),if_neg (by rw[hk'];simp)] at q;cases q;exact hne rfl
   ·rw[if_neg (by rw[hk];simp),if_pos hk'] at q;cases q
   ·rw[if_pos hk,if_neg (by rw[hk'];simp)] at q;cases q
   ·rw[if_pos hk,if_pos hk'] at q
    refine hide λPP3 hPP3=>?_
    obtain⟨c,h1,m1⟩:=ncLook x hk;obtain⟨c',h1',m1'⟩:=ncLook y hk';refine hPP3 ?_;rw[h1,h1'] at q;injection q with q;have q:c=c':=q;subst q;exact hne (name_of_addr IC.apart m1 m1')
 have Cn':Cn G X (n+1) (ZbN (Zac st)) (cxF st glob tp qual) X.env:=by
  refine⟨O,EO,λi hi=>celOf_lt hi,λht=>?_⟩;refine hide λPP4 hPP4=>?_
  obtain⟨a,P,hc,hP,hcd,hql⟩:=htp ht;refine hPP4 ?_;refine⟨x11,x10,λi c hi=>?_,a,P,hP,?_,hcd _ G.K,?_,?_⟩
  ·rw[x9] at hi
   obtain⟨x,hx⟩:=stoInv i _ hi;rcases stoAt i x hx with⟨h1,h2⟩|⟨h1,c',h2,h3,h4⟩
   ·rw[h2] at hi;cases hi
   ·exact Zf5 hx h1
  ·rw[x2,he];exact hc
  ·rw[x2,he];rw[<- hql,<- hq];rfl
  ·rw[x2,he];exact hq
 obtain⟨h₁,tk,es⟩:=IC.toInCall.same;have o1':s'.os=G.os:=by rw[es];exact o1
 have o2':s'.gens=#[]:=by rw[es];exact o2
 have M:Mod G X (ZbN (Zac st)) ⟨[],l0F st names (vs++dvs),μ,false⟩ [] s':=⟨fz,mu,cs,II,RL,.nil,SL,o1',o2'⟩;have key:=hbody X s' Cn' M;have bk:∀{fz mu h},Inv G X fz mu h->Inv G (Zap h₀ fro X.fz0) fz mu h:=λJ=>by
  have:=J.leave;rw[x6,x7] at this;exact this
 rw[x8] at bk;unfold Za5 at key;rw[x1,x2] at key;refine wpAny_mono key (λfl s2 hf=>?_) λx s2 hx=>?_
 ·cases fl with
  |next =>
   refine hide λPP5 hPP5=>?_
   obtain⟨S1,M1,S2,st2,hr⟩:=hf;obtain⟨fz',mu',cs',J,RL',Z',SL',o3,o4⟩:=M1.st st2;refine hPP5 ?_;exact⟨.none,S2.μ,fz',mu',hr,bk (J.sub (by simp only[keys,map_append];exact List.sublist_append_left _ _) λp hp=>mem_append_left _ hp),RL',.none,o3,o4⟩
  |ret v =>
   refine hide λPP6 hPP6=>?_
   obtain⟨v',μ',fz',mu',J,RL',z,hr,o3,o4⟩:=hf;refine hPP6 ?_;exact⟨v',μ',fz',mu',hr,bk J,RL',z,o3,o4⟩
  |brk=>exact hf.elim
  |cont=>exact hf.elim
 ·have:=leaveX (M:=model P0 G.w) (E':=PostE G h₀ fro fz envs E) (Q:=λU s''=>PostE G h₀ fro fz envs E x s'') O hx λe C fz s3 q1 q2 q3 q4 q5 q6=>by
   rw[x6,x7,x8] at q3;rw[x6,x3] at q4;exact⟨e,C,fz,q1,q2,q3,q4,q5,q6⟩
  rw[x1,x2] at this;exact this
end
end
section
def CodeOK(G:Gl)(n:Nat)(f:Addr)(vs:List V)(μ:Led)(R:V->Led->Prop)(E:Addr->Prop):Prop :=
 ∀(A:Around) (envs:List Env) (fro:List (Addr×Obj)) (h₀:Heap) (fz mu:Led0) (ws:List Value) (s:Shared),
  A.frames=some envs->A.handled=none->A.depth<=n->A.units<=8*n->n<900->FrOK envs fro->G.hb.StaysIn h₀->(∀a∈keys fro,a∉tbs->G.hb.objs.size<=a)->envs≠[] ->
  Inv G (Zap h₀ fro fz) fz mu s.heap->LR G.w.params fz μ mu->VRs G.w.params fz vs ws->s.os=G.os->s.gens=#[] ->
  codeAny (model P0 G.w) A (.call (.ref f) ⟨ws,[]⟩) (λr s'=>match r with|.ok (.ret v)=>PostV G h₀ fro fz R v s'|.ok _=>False|.error x=>PostE G h₀ fro fz envs E x s') s
noncomputable def clsI:List (Addr×Addr):=[(250,197),(313,275),(354,351),(375,372),(396,393),(418,415),(439,436),(461,458)]
theorem clsIOk(w:World):(clsI.all λp=>makesIn (K0 w.params) p.1&&(findIn (K0 w.params) (.ref p.1) "__init__"==some (some (.ref p.2))&&typeIn (K0 w.params) (.ref p.2)==some (.type "function")))=true:=by kernel_rfl
noncomputable def vrb(v:V)(w:Value):Bool:=match v with
 |.int i=>match w with|.int j _=>i==j|_=>false
 |.ref i=>match w with|.ref j=>i==j|_=>false
 |.typ i=>match w with|.type j=>i==j|_=>false
 |.bi i=>match w with|.builtin j=>i==j|_=>false
 |_=>false
theorem vrb_ok{P:Params}{fz:Led0}{v:V}{w:Value}(h:vrb v w=true):VR P fz v w:=by
 cases v with
 |int i=>cases w with
  |int j=>cases eq_of_beq h;exact .int
  |_=>exact(Bool.false_ne_true h).elim
 |ref i=>cases w with
  |ref j=>cases eq_of_beq h;exact .ref
  |_=>exact(Bool.false_ne_true h).elim
 |typ i=>cases w with
  |type j=>cases eq_of_beq h;exact .typ
  |_=>exact(Bool.false_ne_true h).elim
 |bi i=>cases w with
  |builtin j=>cases eq_of_beq h;exact .bi
  |_=>exact(Bool.false_ne_true h).elim
 |_=>exact(Bool.false_ne_true h).elim
section
variable{G:Gl}{n:Nat}{f:Addr}{st:Stmt}{names:List Str}{dvs vs:List V}{tp:Bool}{qual:Str}{glob:Str->Option V}{code:List IX}{μ:Led}{R R':V->Led->Prop}{E E':Addr->Prop}
theorem PostV.mono{h₀:Heap}{fro:List (Addr×Obj)}{fz:Led0}{v:Value}{s':Shared}(h:∀v μ,R v μ->R' v μ):PostV G h₀ fro fz R v s'->PostV G h₀ fro fz R' v s':=λ⟨v',μ',fz',mu',a,r1,r2,r3,r4,r5⟩=>⟨v',μ',fz',mu',h _ _ a,r1,r2,r3,r4,r5⟩
theorem CodeOK.call(h:CodeOK G n f vs μ R E):CallOK G n (.ref f) vs μ R E:=by
 intro A envs fro h₀ fz mu fv ws s hA hh hd hu hn hfro hst habv hne I RL zf zs o1 o2;cases zf;refine wpAny_call (codeAny_mono (h A envs fro h₀ fz mu ws s hA hh hd hu hn hfro hst habv hne I RL zs o1 o2) λr s' x=>?_);rcases r with e|(v|_|_|_)<;>exact x
theorem CodeOK.mono(h:CodeOK G n f vs μ R E)(k:∀v μ,R v μ->R' v μ):CodeOK G n f vs μ R' E:=by
 intro A envs fro h₀ fz mu ws s hA hh hd hu hn hfro hst habv hne I RL zs o1 o2;refine codeAny_mono (h A envs fro h₀ fz mu ws s hA hh hd hu hn hfro hst habv hne I RL zs o1 o2) λr s' x=>?_
 rcases r with e|(v|_|_|_)<;>first|exact x|exact PostV.mono k x
theorem CodeOK.cx(h:CodeOK G n f vs μ R E):CallX G n (.ref f) vs μ R E:=h.call.x
theorem hsize{envs:List Env}{fro:List (Addr×Obj)}{h₀ h:Heap}{fz mu:Led0}(hfro:FrOK envs fro)(hne:envs≠[])(habv:∀a∈keys fro,a∉tbs->G.hb.objs.size<=a)(I:Inv G (Zap h₀ fro fz) fz mu h):G.hb.objs.size<=h.objs.size:=by
 cases envs with
 |nil=>exact absurd rfl hne
 |cons e envs =>
  cases fro with
  |nil=>exact hfro.elim
  |cons p q =>
   have nd:=I.nd;have eD:(Zap h₀ (p::q) fz).dyn mu=keys mu++(tbs++(p.1::keys q)):=rfl;rw[eD] at nd;have n1:=nodup_append.mp (nodup_append.mp nd).2.1;have hp:p.1∉tbs:=λhm=>n1.2.2 _ hm _ (.head _) rfl
   obtain⟨sl,e⟩:=I.fro p (.head _);exact Nat.le_trans (habv p.1 (.head _) hp) (lw (Heap.lt_size e))
theorem ZfT(hn:n+1<900)(F:FnOK G.w f st names dvs tp qual)(hg:ZdL G glob)(hlen:vs.length+dvs.length=names.length)
  (hbody:∀(X:Act) (s':Shared),Cn G X (n+1) (ZbN (Zac st)) (cxF st glob tp qual) X.env->Mod G X (ZbN (Zac st)) ⟨[],l0F st names (vs++dvs),μ,false⟩ [] s'->Za5 G X (ZbN (Zac st)) ⟨λS=>∃S',St S S'/\R .none S'.μ,R,E⟩ (execs (ZbX st) X.env) s'):CodeOK G n f vs μ R E:=by
 intro A envs fro h₀ fz mu ws s hA hh hd hu y hfro hst habv hne I RL zs o1 o2;exact runFnG hn F hg hlen hbody hA hh hd hu hfro hst habv (hsize hfro hne habv I) I RL zs o1 o2
theorem Zdi{C fI:Addr}(hC:(C,fI)∈clsI)(hn:n+1<900)(h:∀a dx,CodeOK G (n+1) fI (.ref a::vs) ((a,.ins C dx [])::μ) (λv μ'=>v=.none/\R (.ref a) μ') E):CallOK G n (.ref C) vs μ R E:=by
 intro A envs fro h₀ fz mu fv ws s hA hh hd hu y hfro hst habv hne I RL zf zs o1 o2;cases zf;have hc:=all_eq_true.mp (clsIOk G.w) _ hC;simp only[Bool.and_eq_true,beq_iff_eq] at hc;obtain⟨c1,c2,c3⟩:=hc;have stH:∀b o,G.hb.get? b=some o->s.heap.get? b=some o:=λb o e=>I.st _ _ (hst _ _ e)
 have X0:(K0 G.w.params).In s.heap:=G.K.keeps stH;obtain⟨hp,g,d,t,os⟩:=s;refine wpAny_call (make_core (makes_of X0 c1) (looks_findIn X0 c2) (λself=>bind_fn X0 self c3) (.inl rfl) ?_);have k1:∀b o,hp.get? b=some o->(hp.push emptyDict).get? b=some o:=Zam;have k2:∀b o,(hp.push emptyDict).get? b=some o->((hp.push emptyDict).push (instObj C hp.objs.size)).get? b=some o:=Zam;have hdx:(hp.push emptyDict).get? hp.objs.size=some (dictOf [] 0):=Heap.get?_push_size _ rfl;have hx:((hp.push emptyDict).push (instObj C hp.objs.size)).get? (hp.objs.size+1)=some (instObj C hp.objs.size):=by
  have:=Heap.get?_push_size (hp.push emptyDict) (o:=instObj C hp.objs.size) rfl;rwa [Heap.size_push] at this
 have I1:Inv G (Zap h₀ fro fz) fz ((hp.objs.size,dictOf [] 0)::mu) (hp.push emptyDict):=I.newM k1 (ZaM hp) hdx;have hxn:(hp.push emptyDict).get? (hp.objs.size+1)=none:=Heap.get?_none_of_le (by rw[Heap.size_push];exact Nat.le_refl _);have I2:Inv G (Zap h₀ fro fz) fz ((hp.objs.size+1,instObj C hp.objs.size)::(hp.objs.size,dictOf [] 0)::mu) ((hp.push emptyDict).push (instObj C hp.objs.size)):=I1.newM k2 hxn hx;have hA':(A.under (.builtin "type.__call__" ⟨.ref C::ws,[]⟩)).frames=some envs:=hA;have hd':(A.under (.builtin "type.__call__" ⟨.ref C::ws,[]⟩)).depth<=n+1:=by
  show A.depth+1<=n+1;lia
 have hu':(A.under (.builtin "type.__call__" ⟨.ref C::ws,[]⟩)).units<=8*(n+1):=by
  show A.units+1<=8*(n+1);lia
 refine codeAny_mono (h (hp.objs.size+1) hp.objs.size _ envs fro h₀ fz _ (.ref (hp.objs.size+1)::ws) _ hA' hh hd' hu' hn hfro hst habv hne I2 (.ins .nil RL) (.cons .ref zs) o1 o2) λr s' x=>?_
 rcases r with e|(v|_|_|_)
 ·exact x
 ·exact x.elim
 ·exact x.elim
 ·exact x.elim
 ·obtain⟨v',μ',fz',mu',⟨rfl,hr⟩,J,RL',z,q1,q2⟩:=x
  cases z;exact⟨rfl,_,μ',fz',mu',hr,J,RL',.ref,q1,q2⟩
end
end
theorem zip_look{names:List Str}{ws:List Value}(nd:names.Nodup)(hl:names.length=ws.length):names.filterMap (λn=>((names.zip ws).lookup n).map (n,·))=names.zip ws:=by
 have key:∀(a b:List Str) (us xs:List Value),(a++b).Nodup->a.length=us.length->b.length=xs.length->b.filterMap (λn=>(((a++b).zip (us++xs)).lookup n).map (n,·))=b.zip xs:=by
  intro a b;induction b generalizing a with
  |nil=>intro us xs z z z;rfl
  |cons y b ih =>
   intro us xs hn h1 h2;cases xs with
   |nil=>cases h2
   |cons x xs =>
    rw[List.zip_cons_cons,List.filterMap_cons];have e1:((a++y::b).zip (us++x::xs)).lookup y=some x:=by
     rw[List.zip_append h1,ZbS];have:(a.zip us).lookup y=none:=by
      cases q:(a.zip us).lookup y with
      |none=>rfl
      |some w =>
       have:y∈(a.zip us).map (·.1):=mem_map.mpr ⟨_,mem_of_lookup q,rfl⟩;rw[ZcZ h1] at this;exact absurd rfl ((nodup_append.mp hn).2.2 y this y (.head _))
     rw[this,List.zip_cons_cons,lookup_cons];simp
    rw[e1];have:=ih (a++[y]) (us++[x]) xs (by simpa using hn) (by simp[h1]) (by simpa using h2);simp only[append_assoc,List.singleton_append] at this;simp only[Option.map_some];rw[this]
 exact key [] names [] ws nd rfl hl
theorem zip_has{names:List Str}{ws:List Value}(hl:names.length=ws.length){n:Str}(h:n∈names):((names.zip ws).lookup n).isNone=false:=by
 cases q:(names.zip ws).lookup n with
 |some _=>rfl
 |none =>
  exfalso
  induction names generalizing ws with
  |nil=>cases h
  |cons y names ih =>
   cases ws with
   |nil=>cases hl
   |cons w ws =>
    rw[List.zip_cons_cons,lookup_cons] at q;by_cases e:n=y
    ·subst e;simp at q
    ·have:(n==y)=false:=beq_eq_false_iff_ne.mpr e
     rw[this] at q;refine mC h (λh=>?_) λh=>?_
     ·exact e h
     ·exact ih (by simpa using hl) h q
theorem forIn_e{α β γ:Type}{L:List α}{b:β}{f:α->β->Sem (ForInStep β)}{K:β->Sem γ}{R:Sem γ}(h:L=[])(H:K b=R):(forIn L b f >>= K)=R:=by subst h;exact H
theorem ZcI{fd:FuncData}{names:List Str}{ws:List Value}{s:Shared}(p1:fd.params.posonlyargs=[])(p2:fd.params.kwonlyargs=[])(p3:fd.params.vararg=none)(p4:fd.params.kwarg=none)(hn:fd.params.args.map (·.arg)=names)(hd:fd.defaults=.none)(nd:names.Nodup)(hl:names.length=ws.length) :
  BindsTo s fd ⟨ws,[]⟩ (names.zip ws):=by
 refine BindsTo.of_eq ?_;obtain⟨nm,qn,⟨po,as,va,ko,kd,kw,df⟩,bd,sc,gl,cl,dv⟩:=fd;simp only at p1 p2 p3 p4 hn hd;subst p1 p2 p3 p4 hd;have hm:names.filter (λn=>((names.zip ws).lookup n).isNone)=[]:=by
  rw[List.filter_eq_nil_iff];intro n h;rw[zip_has hl h];decide
 rw[<- hn] at hl hm nd⊢;refine(if_neg (by simp[hl])).trans ?_;refine(if_neg (by
  show ¬(!(List.filter (λn=>(List.lookup n ((as.map (·.arg)).zip ws)).isNone) (List.take ((as.map (·.arg)).length-(List.drop (0-(as.map (·.arg)).length) ([]:List Value)).length) (as.map (·.arg)))).isEmpty)=true;rw[List.drop_nil,List.length_nil,Nat.sub_zero,List.take_length,hm];decide)).trans ?_
 refine forIn_e (by
  show List.zip _ (List.drop _ ([]:List Value))=[];rw[List.drop_nil,List.zip_nil_right]) ?_
 show(pure (List.filterMap (λn=>(List.lookup n ((as.map (·.arg)).zip ws)).map (n,·)) (as.map (·.arg)++[])):Sem _)=_;rw[append_nil,zip_look nd hl]
def ZeX(st:Stmt)(names:List Str):Bool :=
 (Zac st).kind==.function&&!(Zac st).isCoroutine&&!(Zac st).isGenerator&&decide ((Zac st).names.map (·.1)).Nodup&&decide names.Nodup&&names.all (λx=>(Zac st).names.lookup x==some .local||(Zac st).names.lookup x==some .cell)&&
  (Zac st).names.all (λp=>p.1 != (".0" : Str))&&(ZbY st).posonlyargs.isEmpty&&(ZbY st).kwonlyargs.isEmpty&&(ZbY st).vararg.isNone&&(ZbY st).kwarg.isNone&&(ZbY st).args.map (·.arg)==names
structure FnChk(st:Stmt)(names:List Str):Prop where
 kf:(Zac st).kind=.function
 co:(Zac st).isCoroutine=false
 ge:(Zac st).isGenerator=false
 nd:((Zac st).names.map (·.1)).Nodup
 nm:names.Nodup
 kd:∀x∈names,(Zac st).names.lookup x=some .local\/(Zac st).names.lookup x=some .cell
 zero:∀p∈(Zac st).names,p.1≠(".0" : Str)
 p1:(ZbY st).posonlyargs=[]
 p2:(ZbY st).kwonlyargs=[]
 p3:(ZbY st).vararg=none
 p4:(ZbY st).kwarg=none
 ar:(ZbY st).args.map (·.arg)=names
theorem Zdb{st:Stmt}{names:List Str}(h:ZeX st names=true):FnChk st names:=by
 unfold ZeX at h;simp only[Bool.and_eq_true,beq_iff_eq,Bool.not_eq_true',decide_eq_true_eq,all_eq_true,Bool.or_eq_true,bne_iff_ne,ne_eq,List.isEmpty_iff,Option.isNone_iff_eq_none] at h;obtain⟨⟨⟨⟨⟨⟨⟨⟨⟨⟨⟨a,b⟩,c⟩,d⟩,e⟩,f⟩,g⟩,i⟩,j⟩,k⟩,l⟩,m⟩:=h;exact⟨a,b,c,d,e,f,g,i,j,k,l,m⟩
theorem mkFn{w:World}{f:Addr}{nn q:String}{st:Stmt}{pm c:Value}{names:List Str}(h1:(K0 w.params).lookup f=some ⟨.type "function",none,ffn nn q st .none pm c,#[]⟩)(h2:codeIn (K0 w.params) c (Str.ofString q)=true)(h3:ZeX st names=true) :
  FnOK w f st names [] false (Str.ofString q++".<locals>."):=by
 have F:=Zdb h3;refine⟨⟨nn,q,.none,pm,c,⟨h1,h2,F.kf,F.co,F.ge⟩,rfl,(λh=>by cases h),λs ws X hl=>⟨[],λz=>.nil,?_⟩⟩,F.nd,F.nm,F.kd,F.zero⟩;rw[append_nil];exact ZcI (fd:=ffd nn q st .none pm c) F.p1 F.p2 F.p3 F.p4 F.ar rfl F.nm (by simpa using hl.symm)
theorem mkFnT{w:World}{f a P:Addr}{nn q:String}{st:Stmt}{pm:Value}{names:List Str}(h1:(K0 w.params).lookup f=some ⟨.type "function",none,ffn nn q st .none pm (.ref a),#[]⟩)(h2:codeIn (K0 w.params) (.ref a) (Str.ofString q)=true)(h3:ZeX st names=true)
  (hP:P∈tbs) (hc:∀h:Heap,(K0 w.params).In h->CodeHd h a P) (hq:(Str.ofString q++".<locals>.")++("<lambda>" : Str)=qualP P) :
  FnOK w f st names [] true (Str.ofString q++".<locals>."):=by
 have F:=Zdb h3;refine⟨⟨nn,q,.none,pm,.ref a,⟨h1,h2,F.kf,F.co,F.ge⟩,rfl,(λz=>⟨a,P,rfl,hP,hc,hq⟩),λs ws X hl=>⟨[],λz=>.nil,?_⟩⟩,F.nd,F.nm,F.kd,F.zero⟩;rw[append_nil];exact ZcI (fd:=ffd nn q st .none pm (.ref a)) F.p1 F.p2 F.p3 F.p4 F.ar rfl F.nm (by simpa using hl.symm)
noncomputable def AllL:Nat->(List Value->Prop)->Prop
 |0,P=>P []
 |n+1,P=>∀a,AllL n λws=>P (a::ws)
theorem AllL.get{n:Nat}{P:List Value->Prop}(h:AllL n P)(ws:List Value)(e:ws.length=n):P ws:=by
 induction n generalizing P ws with
 |zero=>rw[List.eq_nil_of_length_eq_zero e];exact h
 |succ n ih=>cases ws with
  |nil=>cases e
  |cons a ws=>exact ih (h a) ws (Nat.succ.inj e)
theorem ZcA{w:World}{f D:Addr}{nn q:String}{st:Stmt}{pm c:Value}{names:List Str}{dvs:List V}{items:Array Value}{cnt:Nat}(h1:(K0 w.params).lookup f=some ⟨.type "function",none,ffn nn q st (.ref D) pm c,#[]⟩)(h2:codeIn (K0 w.params) c (Str.ofString q)=true)(h3:ZeX st names=true)
  (hD:(K0 w.params).lookup D=some ⟨.type "tuple",none,.seq items cnt,#[]⟩) (hb:AllL (names.length-dvs.length) λws=>∃dws,(∀fz,VRs w.params fz dvs dws)/\∃k:Option (Array Value)->Sem (List (Str×Value)),bindArgs (ffd nn q st (.ref D) pm c) ⟨ws,[]⟩=seqItems? (.ref D) >>= k/\k (some items)=pure (names.zip (ws++dws))) :
  FnOK w f st names dvs false (Str.ofString q++".<locals>."):=by
 have F:=Zdb h3;refine⟨⟨nn,q,.ref D,pm,c,⟨h1,h2,F.kf,F.co,F.ge⟩,rfl,(λh=>by cases h),λs ws X hl=>?_⟩,F.nd,F.nm,F.kd,F.zero⟩;refine hide λPP0 hPP0=>?_
 obtain⟨dws,e1,k,e2,e3⟩:=hb.get ws (Nat.eq_sub_of_add_eq hl);refine hPP0 ?_;exact⟨dws,e1,BindsTo.of_defaults rfl (X _ _ hD) rfl e2 e3⟩
section
inductive BL:V->List V->V->Prop
 |abs {a:Int}:BL (.bi "abs") [.int a] (.int (if a<0 then -a else a))
 |len {vs:List V}:vs.length<2^20->BL (.bi "len") [.lst vs] (.int vs.length)
 |rng1 {n:Int}:BL (.typ "range") [.int n] (.rng 0 n)
 |rng2 {a b:Int}:BL (.typ "range") [.int a,.int b] (.rng a b)
 |max2 {a b:Int}:BL (.bi "max") [.int a,.int b] (.int (max a b))
 |maxL {ns:List Int}{M:Int}:M∈ns->(∀a∈ns,a<=M)->BL (.bi "max") [.lst (ns.map .int)] (.int M)
 |minL {ns:List Int}{M:Int}:M∈ns->(∀a∈ns,M<=a)->BL (.bi "min") [.lst (ns.map .int)] (.int M)
 |sum {ns:List Int}:BL (.bi "sum") [.lst (ns.map .int)] (.int ns.sum)
 |tup {vs:List V}:vs.length<2^20->BL (.typ "tuple") [.lst vs] (.tup vs)
 |intB {b:Bool}:BL (.typ "int") [.bool b] (.int (if b then 1 else 0))
 |isII {i:Int}:BL (.bi "isinstance") [.int i,.typ "int"] (.bool true)
 |isIB {i:Int}:BL (.bi "isinstance") [.int i,.typ "bool"] (.bool false)
 |isBI {b:Bool}:BL (.bi "isinstance") [.bool b,.typ "int"] (.bool true)
 |isBB {b:Bool}:BL (.bi "isinstance") [.bool b,.typ "bool"] (.bool true)
 |isLL {vs:List V}:BL (.bi "isinstance") [.lst vs,.typ "list"] (.bool true)
 |isCL {C:Addr}{fs:List (Nat×V)}:C∈insK->BL (.bi "isinstance") [.ins C fs,.typ "list"] (.bool false)
 |isCC {C D:Addr}{fs:List (Nat×V)}:C∈insK->D∈insK->BL (.bi "isinstance") [.ins C fs,.ref D] (.bool (C==D))
 |isIC {i:Int}{D:Addr}:D∈insK->BL (.bi "isinstance") [.int i,.ref D] (.bool false)
def isiC(K:Frag)(C:Addr):Bool:=plainGet K C "__class__"&&(hasDictIn K C&&(findIn K (.ref C) "__class__"==some (some (.builtin "object.__class__"))&&(mroIn K C (.type "object")==some true&&(kitOne K (.ref C) (.type "list")==some false&&
 (kitOne K (.type "int") (.ref C)==some false&&insK.all λD=>kitOne K (.ref C) (.ref D)==some (C==D))))))
theorem isiOk(w:World):(insK.all λC=>isiC (K0 w.params) C)=true:=by kernel_rfl
theorem isiG(w:World):specialIn (K0 w.params) (.builtin "object.__class__") "__get__"=some (some (.builtin "getset_descriptor.__get__"))/\takesIn (K0 w.params) (.builtin "object.__class__")=some true:=⟨by kernel_rfl,by kernel_rfl⟩
theorem ZfF(w:World):kitOne (K0 w.params) (.type "int") (.type "int")=some true/\kitOne (K0 w.params) (.type "int") (.type "bool")=some false/\kitOne (K0 w.params) (.type "bool") (.type "int")=some true/\kitOne (K0 w.params) (.type "bool") (.type "bool")=some true/\kitOne (K0 w.params) (.type "list") (.type "list")=some true :=
 ⟨by kernel_rfl,by kernel_rfl,by kernel_rfl,by kernel_rfl,by kernel_rfl⟩
theorem ZdV{P:Params}{fz:Led0}{ns:List Int}{ws:List Value}(z:VRs P fz (ns.map .int) ws):IntsAre ws ns:=by
 induction ns generalizing ws with
 |nil=>apply z.eZ;exact .nil
 |cons n ns ih=>apply z.eC;intro w us a b;apply a.eI;exact λt=>.cons _ _ (ih b)
section
variable{G:Gl}{N:Nat}{μ:Led}
theorem bltK{f:V}{vs:List V}{v:V}{E:Addr->Prop}(H:∀{X:Act}{cel:List Nat}{l:List (Option V)}{cz:Bool}{r:List V}{us:List Value}{s:Shared}{Q EE:Value->Shared->Prop}{fz mu cs:Led0}{fv:Value}{ws:List Value},AOK G X N->Inv G X fz (mu++cs) s.heap->LR G.w.params fz μ mu ->
  SR G X cel fz cs s.heap l cz->s.os=G.os->s.gens=#[]->VR G.w.params fz f fv->VRs G.w.params fz vs ws->VRs G.w.params fz r us->(∀{w:Value}{s':Shared},Mod G X cel ⟨v::r,l,μ,cz⟩ (w::us) s'->Q w s')->wpAny (model P0 G.w) X.A (PySem.call fv ws) Q EE s) :
  CallX G N f vs μ (λv' μ'=>v'=v/\μ'=μ) E:=by
 constructor
 intro X cel l cz r fv ws us s Q EE O M hl k y;obtain⟨fz,mu,cs,I,RL,Z,SL,o1,o2⟩:=M;obtain⟨za,zf⟩:=VRs.unrev hl Z;exact H O I RL SL o1 o2 zf.head za zf.tail λM'=>k _ _ _ _ ⟨rfl,rfl⟩ M'
theorem bltS{f:V}{vs:List V}{v:V}{E:Addr->Prop}(H:∀{A:Around}{s:Shared}{Q EE:Value->Shared->Prop}{fz:Led0}{fv:Value}{ws:List Value},(K0 G.w.params).In s.heap->(∀p∈fz,s.heap.get? p.1=some p.2)->VR G.w.params fz f fv->VRs G.w.params fz vs ws ->
  (∀{w:Value}{tk:Tok},VR G.w.params fz v w->Q w { s with toks:=tk })->wpAny (model P0 G.w) A (PySem.call fv ws) Q EE s):CallX G N f vs μ (λv' μ'=>v'=v/\μ'=μ) E :=
 bltK λO I RL SL o1 o2 zf za zr K=>H (G.K.keeps λb o q=>I.st _ _ (O.st _ _ q)) I.fzh zf za λz=>K (mk0 O I RL SL o1 o2 (.of λy y e=>e) rfl rfl (.cons z zr))
theorem bltI{i:Int}{b:Bool}{D:String}{E:Addr->Prop}(hk:kitOne (K0 G.w.params) (.type "int") (.type D)=some b):CallX G N (.bi "isinstance") [.int i,.typ D] μ (λv' μ'=>v'=.bool b/\μ'=μ) E :=
 bltS λX0 y zf za same=>by
  (first|apply zf.eF|apply zf.eY|apply zf.eB|apply zf.eR);apply za.e2;intro y y z1 z2;apply z1.eI;intro y;(first|apply z2.eF|apply z2.eY|apply z2.eB|apply z2.eR)
  exact kia_one kitx_int X0 trivial hk (by simp) λtk=>same .bool
theorem bltB{i:Bool}{b:Bool}{D:String}{E:Addr->Prop}(hk:kitOne (K0 G.w.params) (.type "bool") (.type D)=some b):CallX G N (.bi "isinstance") [.bool i,.typ D] μ (λv' μ'=>v'=.bool b/\μ'=μ) E :=
 bltS λX0 y zf za same=>by
  (first|apply zf.eF|apply zf.eY|apply zf.eB|apply zf.eR);apply za.e2;intro y y z1 z2;(first|apply z1.eF|apply z1.eY|apply z1.eB|apply z1.eR);(first|apply z2.eF|apply z2.eY|apply z2.eB|apply z2.eR)
  exact kia_one kitx_bool X0 trivial hk (by simp) λtk=>same .bool
theorem bltC{C:Addr}{fs:List (Nat×V)}{b:Bool}{d:V}{D:Value}{E:Addr->Prop}(hd:∀{P fz w},VR P fz d w->w=D)(hC:C∈insK)(hk:isiC (K0 G.w.params) C=true->kitOne (K0 G.w.params) (.ref C) D=some b):CallX G N (.bi "isinstance") [.ins C fs,d] μ (λv' μ'=>v'=.bool b/\μ'=μ) E :=
 bltS λX0 fzh zf za same=>by
  (first|apply zf.eF|apply zf.eY|apply zf.eB|apply zf.eR);apply za.e2;intro y y z1 z2;apply z1.eO;intro y y y y m1 m2 y;refine(hd z2).symm▸?_
  have c:=all_eq_true.mp (isiOk G.w) _ hC;have hk:=hk c;simp only[isiC,Bool.and_eq_true,beq_iff_eq] at c;exact kia_one (kitx_own c.1 c.2.1 c.2.2.1 (isiG G.w).1 (isiG G.w).2 c.2.2.2.1) X0 ⟨fzh _ m1,rfl,rfl,fzh _ m2⟩ hk (by simp) λtk=>same .bool
theorem isi2{C:Addr}(c:isiC (K0 G.w.params) C=true):kitOne (K0 G.w.params) (.ref C) (.type "list")=some false/\kitOne (K0 G.w.params) (.type "int") (.ref C)=some false/\∀D∈insK,kitOne (K0 G.w.params) (.ref C) (.ref D)=some (C==D):=by
 simp only[isiC,Bool.and_eq_true,beq_iff_eq,all_eq_true] at c;exact c.2.2.2.2
theorem bltX{f:V}{vs:List V}{v:V}{E:Addr->Prop}(h:BL f vs v):CallX G N f vs μ (λv' μ'=>v'=v/\μ'=μ) E:=by
 cases h with
 |abs =>
  refine bltS λy y zf za same=>?_
  (first|apply zf.eF|apply zf.eY|apply zf.eB|apply zf.eR);apply za.e1;intro y z;apply z.eI;intro y
  exact call_abs_int λu tk=>same .int
 |len hz =>
  refine bltS λy fzh zf za same=>?_
  (first|apply zf.eF|apply zf.eY|apply zf.eB|apply zf.eR);apply za.e1;intro y z;apply z.eL;intro y y y y m p q
  have hq:=q.length;refine call_len_list (Zaz (fzh _ m) p) (by simp only[size_toArray,hq];lia) ?_;simp only[size_toArray,hq];exact same .int
 |rng1 =>
  refine bltK λO I RL SL o1 o2 zf za zr K=>?_
  (first|apply zf.eF|apply zf.eY|apply zf.eB|apply zf.eR);apply za.e1;intro y z;apply z.eI;intro y
  exact call_range_1 (K (mkF O I RL SL o1 o2 (.of Zam) (ZaM _) (Heap.get?_push_size _ rfl) rfl rfl (.cons (.rng (.head _) ⟨_,_,_,rfl⟩) (zr.mono λy q=>.tail _ q))))
 |rng2 =>
  refine bltK λO I RL SL o1 o2 zf za zr K=>?_
  (first|apply zf.eF|apply zf.eY|apply zf.eB|apply zf.eR);apply za.e2;intro y y z1 z2;apply z1.eI;intro y;apply z2.eI;intro y
  exact call_range_2 (K (mkF O I RL SL o1 o2 (.of Zam) (ZaM _) (Heap.get?_push_size _ rfl) rfl rfl (.cons (.rng (.head _) ⟨_,_,_,rfl⟩) (zr.mono λy q=>.tail _ q))))
 |@max2 a b =>
  refine bltK λO I RL SL o1 o2 zf za zr K=>?_
  (first|apply zf.eF|apply zf.eY|apply zf.eB|apply zf.eR);apply za.e2;intro y y z1 z2;apply z1.eI;intro y;apply z2.eI;intro y
  refine max_two_ints O.hh λh' tk hk=>K (mk0 O I RL SL o1 o2 (.of hk) rfl rfl (.cons ?_ zr))
  split
  ·rw[show max a b=b by lia];exact .int
  ·rw[show max a b=a by lia];exact .int
 |@maxL ns MM hM hall =>
  refine bltK λO I RL SL o1 o2 zf za zr K=>?_
  (first|apply zf.eF|apply zf.eY|apply zf.eB|apply zf.eR);apply za.e1;intro y z;apply z.eL;intro y y y y m' p q
  obtain⟨m,F⟩:=I.fr O;refine max_list_N O.hh F Zbz (Zaz (I.fzh _ m') p) (ZdV q) (List.length_pos_of_mem hM) λh' M' t tk F' N' hM' hall'=>?_
  cases Int.le_antisymm (hall _ hM') (hall' _ hM);exact K (mk0 O I RL SL o1 o2 (Zdc (pre:=[]) F F' N') rfl rfl (.cons .int zr))
 |@minL ns MM hM hall =>
  refine bltK λO I RL SL o1 o2 zf za zr K=>?_
  (first|apply zf.eF|apply zf.eY|apply zf.eB|apply zf.eR);apply za.e1;intro y z;apply z.eL;intro y y y y m' p q
  obtain⟨m,F⟩:=I.fr O;refine min_list_N O.hh F Zbz (Zaz (I.fzh _ m') p) (ZdV q) (List.length_pos_of_mem hM) λh' M' t tk F' N' hM' hall'=>?_
  cases Int.le_antisymm (hall' _ hM) (hall _ hM');exact K (mk0 O I RL SL o1 o2 (Zdc (pre:=[]) F F' N') rfl rfl (.cons .int zr))
 |sum =>
  refine bltK λO I RL SL o1 o2 zf za zr K=>?_
  (first|apply zf.eF|apply zf.eY|apply zf.eB|apply zf.eR);apply za.e1;intro y z;apply z.eL;intro y y y y m' p q
  obtain⟨m,F⟩:=I.fr O;exact LSm.sum_ints F Zbz O.hh (Zaz (I.fzh _ m') p) (ZdV q) λh' tk t' F' N'=>K (mk0 O I RL SL o1 o2 (Zdc (pre:=[]) F F' N') rfl rfl (.cons .int zr))
 |tup hz =>
  refine bltK λ{X cel l cz r us s Q EE fz mu cs fv ws} O I RL SL o1 o2 zf za zr K=>?_
  (first|apply zf.eF|apply zf.eY|apply zf.eB|apply zf.eR);apply za.e1;intro y z;apply z.eL;intro y y y y m' p q
  have hq:=q.length;refine call_tuple_list (Zaz (I.fzh _ m') p) (λh' hk=>?_) (by simp only[size_toArray,hq];exact ZcU hz);have hn:s.heap.get? h'.objs.size=none:=by
   cases e:s.heap.get? h'.objs.size with
   |none=>rfl
   |some o=>exact absurd (Heap.lt_size (hk _ _ e)) (Nat.lt_irrefl _)
  exact K (mkF (s':={ s with heap:=h'.push _ }) O I RL SL o1 o2 (.of λb o e=>Zam _ _ (hk b o e)) hn (Heap.get?_push_size _ rfl) rfl rfl (.cons (.tup (.head _) ⟨rfl,rfl⟩ (q.mono λy q=>.tail _ q)) (zr.mono λy q=>.tail _ q)))
 |intB =>
  refine bltS λy y zf za same=>?_
  (first|apply zf.eF|apply zf.eY|apply zf.eB|apply zf.eR);apply za.e1;intro y z;(first|apply z.eF|apply z.eY|apply z.eB|apply z.eR)
  exact call_int_bool (same .int)
 |isII=>exact bltI (ZfF G.w).1
 |isIB=>exact bltI (ZfF G.w).2.1
 |isBI=>exact bltB (ZfF G.w).2.2.1
 |isBB=>exact bltB (ZfF G.w).2.2.2.1
 |isLL =>
  refine bltS λX0 fzh zf za same=>?_
  (first|apply zf.eF|apply zf.eY|apply zf.eB|apply zf.eR);apply za.e2;intro y y z1 z2;apply z1.eL;intro y y y y m' p y;(first|apply z2.eF|apply z2.eY|apply z2.eB|apply z2.eR)
  exact kia_one kitx_list X0 ⟨_,fzh _ m',p.1⟩ (ZfF G.w).2.2.2.2 (by simp) λtk=>same .bool
 |isCL hC=>exact bltC (d:=.typ "list") (λz=>z.inv) hC λc=>(isi2 c).1
 |@isCC C D fs hC hD=>exact bltC (d:=.ref D) (λz=>z.inv) hC λc=>(isi2 c).2.2 _ hD
 |isIC hD =>
  refine bltS λX0 y zf za same=>?_
  (first|apply zf.eF|apply zf.eY|apply zf.eB|apply zf.eR);apply za.e2;intro y y z1 z2;apply z1.eI;intro y;(first|apply z2.eF|apply z2.eY|apply z2.eB|apply z2.eR)
  exact kia_one kitx_int X0 trivial (isi2 (all_eq_true.mp (isiOk G.w) _ hD)).2.1 (by simp) λtk=>same .bool
theorem appX{a:Addr}{vs:List V}{v:V}{μ':Led}{E:Addr->Prop}(hb:vs.length<2^20)(U:LU a (.list vs) (.list (vs++[v])) μ μ'):CallX G N (.bi "list.append") [.ref a,v] μ (λv' μ1=>v'=.none/\μ1=μ') E:=by
 constructor
 intro X cel l cz r fv ws us s Q EE O M hl k y;obtain⟨fz,mu,cs,I,RL,Z,SL,o1,o2⟩:=id M;obtain⟨za,zf⟩:=VRs.unrev hl Z;cases zf.head.inv;obtain⟨y,y,rfl,z1,y⟩:=za.two;cases z1.inv;refine appendM (r:=r) (us:=us) O ?_ hb U λs' M'=>k _ _ _ _ ⟨rfl,rfl⟩ M'
 exact M.next O (.of λy y e=>e) rfl rfl λfz z=>.cons z.head (.cons z.tail.head z.tail.tail.tail)
end
end
section
def cxL(I:LamI)(glob:Str->Option V):Cx:={ vars:=zipN (frees I.scope) 0,nx:=(frees I.scope).length,sc:=I.scope,lo:=(frees I.scope).length,top:=false,glob:=glob,qual:=("" : Str) }
noncomputable def ZfE(I:LamI):Bool:=I.scope.kind==.function&&!I.scope.isCoroutine&&!I.scope.isGenerator&&I.scope.names.all (λp=>p.2 != .cell)&&decide (I.scope.names.map (·.1)).Nodup&&I.scope.names.all (λp=>p.1 != ("__classdict__" : Str))&&
 I.params.posonlyargs.isEmpty&&I.params.kwonlyargs.isEmpty&&I.params.vararg.isNone&&I.params.kwarg.isNone&&I.params.args.isEmpty
theorem Zeo{β:Type}{x:Str}{c:β}:∀{l:List (Str×β)},(l.map (·.1)).Nodup->(x,c)∈l->l.lookup x=some c
 |(y,d)::r,nd,h=>by
  rw[map_cons] at nd;obtain⟨n1,n2⟩:=nodup_cons.mp nd;rw[lookup_cons];refine mC h (λe=>?_) λh=>?_
  ·cases e;simp
  ·have:(x==y)=false:=beq_eq_false_iff_ne.mpr λq=>n1 (q▸mem_map.mpr ⟨_,h,rfl⟩)
   rw[this];exact Zeo n2 h
theorem CRs.len{P:Params}{fz:Led0}{vs:List V}{cs:List (Str×Addr)}(z:CRs P fz vs cs):vs.length=cs.length:=by
 induction vs generalizing cs with
 |nil=>rw[(z.inv:cs=[])];rfl
 |cons v vs ih=>obtain⟨U,U,U,U,r,rfl,U,U,U,q⟩:=z.inv;exact congrArg (·+1) (ih q)
theorem CRs.at{P:Params}{fz:Led0}{vs:List V}{cs:List (Str×Addr)}{i:Nat}{v:V}(z:CRs P fz vs cs)(h:vs[i]?=some v):∃x c o w,cs[i]?=some (x,c)/\(c,o)∈fz/\o.data=.cell (some w)/\VR P fz v w:=by
 induction vs generalizing cs i with
 |nil=>exact nomatch h
 |cons u vs ih =>
  obtain⟨w,x,c,o,r,rfl,m,d,z,q⟩:=z.inv;cases i with
  |zero=>cases h;exact⟨_,_,_,_,rfl,m,d,z⟩
  |succ i=>have k:=ih q h;exact k
section
variable{G:Gl}{n:Nat}{I:LamI}{vs:List V}{glob:Str->Option V}{code:List IX}{μ:Led}{R:V->Led->Prop}{E:Addr->Prop}
theorem lamCall(hn:n+1<900)(hch:ZfE I=true)(hg:ZdL G glob)(hcode:xE 60 (cxL I glob) I.body=some code)
  (hW:Wr (CallX G (n+1)) (List.range (frees I.scope).length) code ⟨[],vs.map some,μ,true⟩ ⟨λS=>∃S',St S S'/\∃v r,S'.stk=v::r/\R v S'.μ,λU U=>False,E⟩):CallOK G n (.lam I vs) [] μ R E:=by
 unfold ZfE at hch;simp only[Bool.and_eq_true,beq_iff_eq,Bool.not_eq_true',decide_eq_true_eq,all_eq_true,bne_iff_ne,ne_eq,List.isEmpty_iff,Option.isNone_iff_eq_none] at hch;obtain⟨⟨⟨⟨⟨⟨⟨⟨⟨⟨k1,k2⟩,k3⟩,k4⟩,k5⟩,k6⟩,k7⟩,k8⟩,k9⟩,k10⟩,k11⟩:=hch;intro A envs fro h₀ fz mu fv ws s hA hh hd hu U hfro hst habv hne J RL zf zs o1 o2;apply zs.eZ;apply zf.eM;intro cs a pm c oc wsc t ctv m1 m2 hdc hv1 hc hnd1 hnd2;have hsz:=hsize hfro hne habv J;have stH:∀b o,G.hb.get? b=some o->s.heap.get? b=some o:=λb o e=>J.st _ _ (hst _ _ e)
 have hroom:A.depth<recursionLimit:=by show A.depth<1000;lia
 refine wpAny_call (kla_callFunE hroom (J.fzh _ m1) rfl k2 k3 rfl ⟨c,oc,wsc,t,rfl,J.fzh _ m2,hdc,hv1⟩ ?_);refine ZcI (fd:=kla_fn (Str.ofString "<lambda>") I.qual I.params I.body I.scope cs pm (.ref c) ctv) (names:=[]) (ws:=[]) (s:=s) k7 k8 k9 k10 (by rw[show(kla_fn (Str.ofString "<lambda>") I.qual I.params I.body I.scope cs pm (.ref c) ctv).params=I.params from rfl,k11];rfl) rfl List.nodup_nil rfl _ _ _ _ ?_;refine wpAny_newFunctionEnv (λx hx=>k4 x hx) (λx hx=>by simp at hx) (λh' hns hsb=>?_) k1;have keep:∀b o,s.heap.get? b=some o->h'.get? b=some o:=λb o e=>hsb.extBut b o (Nat.ne_of_lt (Heap.lt_size e)) (Zam _ _ e)
 refine⟨(G.T.nolimit.keeps stH).keeps keep,kla_codeExpr ?_⟩;generalize hL:s.heap.objs.size=L at hns;generalize hev:newEnv (kla_fn (Str.ofString "<lambda>") I.qual I.params I.body I.scope cs pm (.ref c) ctv).scope L (kla_fn (Str.ofString "<lambda>") I.qual I.params I.body I.scope cs pm (.ref c) ctv).globals (kla_fn (Str.ofString "<lambda>") I.qual I.params I.body I.scope cs pm (.ref c) ctv).closure
  ((kla_fn (Str.ofString "<lambda>") I.qual I.params I.body I.scope cs pm (.ref c) ctv).qualname++Str.ofString ".<locals>.") (some a) (kla_fn (Str.ofString "<lambda>") I.qual I.params I.body I.scope cs pm (.ref c) ctv).code none (kla_fn (Str.ofString "<lambda>") I.qual I.params I.body I.scope cs pm (.ref c) ctv).builtins=env
 generalize hX:({ A:=A.deeper env,env:=env,outer:=envs,L:=L,own:=[L],h₀:=h₀,fro:=fro,fz0:=fz,sto:=cs.map λq=>Sto.cell q.2 }:Act)=X;obtain⟨O,II⟩:=actNew (cs:=[]) hX hn hA hh hd hu hfro hst habv hsz J hL (by rw[<- hev];rfl) (by rw[<- hev];exact k1) keep (λa ha=>nomatch ha) List.nodup_nil (λp hp=>nomatch hp) hns;have x1:X.A=A.deeper env:=by rw[<- hX]
 have x2:X.env=env:=by rw[<- hX]
 have x3:X.outer=envs:=by rw[<- hX]
 have x6:X.h₀=h₀:=by rw[<- hX]
 have x7:X.fro=fro:=by rw[<- hX]
 have x8:X.fz0=fz:=by rw[<- hX]
 have x9:X.sto=(cs.map λq=>Sto.cell q.2):=by rw[<- hX]
 have x10:X.fxn=[]:=by rw[<- hX]
 have x11:X.fxc=[]:=by rw[<- hX]
 have ndf:(cs.map (·.1)).Nodup:=by
  rw[hnd2];unfold frees;exact(List.reverse_perm _).nodup_iff.mpr (List.Nodup.sublist (List.Sublist.map _ List.filter_sublist) k5)
 have stoAt:∀(i:Nat) x c,cs[i]?=some (x,c)->X.sto[i]?=some (.cell c):=λi x c h=>by rw[x9,List.getElem?_map,h];rfl
 have stoInv:∀(i:Nat) st,X.sto[i]?=some st->∃x c,cs[i]?=some (x,c)/\st=.cell c:=λi st h=>by
  rw[x9,List.getElem?_map] at h;obtain⟨q,hq,rfl⟩:=Option.map_eq_some_iff.mp h;exact⟨q.1,q.2,hq,rfl⟩
 have hfl:(frees I.scope).length=cs.length:=by rw[<- hnd2,length_map]
 have EO:EnvOK G X (cxL I glob) X.env:=by
  rw[x2];refine⟨by rw[<- hev];rfl,k1,by rw[<- hev];rfl,by rw[<- hev];rfl,?_,λx i hi=>?_,hg,λi st' hlo hst'=>?_⟩
  ·rw[x9];simp[cxL,hfl]
  ·obtain⟨j,hj,rfl⟩:=Zcg (show(zipN (frees I.scope) 0).lookup x=some i from hi)
   rw[Nat.zero_add];rw[<- hnd2,List.getElem?_map] at hj;obtain⟨q,hq,rfl⟩:=Option.map_eq_some_iff.mp hj;have hfm:q.1∈frees I.scope:=by rw[<- hnd2];exact mem_map_of_mem (List.mem_of_getElem? hq)
   refine⟨.cell q.2,stoAt j q.1 q.2 hq,?_,.inr ⟨Za6 k5 (ZcB hfm),?_,beq_eq_false_iff_ne.mpr (k6 _ (ZcB hfm))⟩⟩
   ·rw[<- hev];exact Zeo ndf (List.mem_of_getElem? hq)
   ·show j<(frees I.scope).length
    rw[hfl];exact(List.getElem?_eq_some_iff.mp hq).1
  ·exfalso
   obtain⟨x,c,h1,U⟩:=stoInv i st' hst';have h2:=(List.getElem?_eq_some_iff.mp h1).1;have h3:(frees I.scope).length<=i:=hlo;rw[hfl] at h3;lia
 have SL:SR G X (List.range (frees I.scope).length) fz [] h' (vs.map some) true:=by
  refine⟨λi v hv=>?_,λi c hi hq=>?_,λi c hi hq=>?_,λi a x hi=>?_,?_,λp hp=>by rw[x11] at hp;cases hp⟩
  ·rw[List.getElem?_map] at hv
   obtain⟨u,hu2,e⟩:=Option.map_eq_some_iff.mp hv;cases e;refine hide λPP0 hPP0=>?_
   obtain⟨x,c',o,w,e1,e2,e3,e4⟩:=CRs.at hc hu2;refine hPP0 ?_;exact⟨_,w,stoAt i x c' e1,⟨o,by simpa using e2,e3⟩,e4⟩
  ·obtain⟨x,c',h1,h2⟩:=stoInv i _ hi
   rcases hq with hq|hq
   ·cases hq
   ·exact absurd (List.mem_range.mpr (by rw[hfl];exact(List.getElem?_eq_some_iff.mp h1).1)) hq
  ·obtain⟨x,c',h1,h2⟩:=stoInv i _ hi
   cases h2;have hlv:i<vs.length:=by rw[hc.len];exact(List.getElem?_eq_some_iff.mp h1).1
   refine hide λPP1 hPP1=>?_
   obtain⟨y,c2,o,w,e1,e2,e3,e4⟩:=CRs.at hc (List.getElem?_eq_getElem hlv);refine hPP1 ?_;rw[h1] at e1;cases e1;exact⟨o,_,e2,e3⟩
  ·obtain⟨y,c',h1,h2⟩:=stoInv i _ hi
   cases h2
  ·rw[x9]
   have:(cs.map λq=>Sto.cell q.2)=(cs.map (·.2)).map Sto.cell:=by rw[map_map];rfl
   rw[this];exact List.pairwise_map.mpr (hnd1.imp λhne q=>hne (by cases q;rfl))
 have Cn':Cn G X (n+1) (List.range (frees I.scope).length) (cxL I glob) X.env:=⟨O,EO,λi hi=>List.mem_range.mp hi,λht=>by cases ht⟩;have M:Mod G X (List.range (frees I.scope).length) ⟨[],vs.map some,μ,true⟩ [] { s with heap:=h',toks:=s.toks+([]:List (Str×Value)).length }:=⟨fz,mu,[],II,RL,.nil,SL,o1,o2⟩;have key:=(allOK (G:=G) (N:=n+1) (CK:=CallX G (n+1)) (λf vs μ R E h=>h) 60).ev hcode Cn' hW M;have bk:∀{fz mu h},Inv G X fz mu h->Inv G (Zap h₀ fro X.fz0) fz mu h:=λJ=>by
  have:=J.leave;rw[x6,x7] at this;exact this
 rw[x8] at bk;rw[x1,x2] at key;refine wpAny_mono key (λv s2 hf=>?_) λx s2 hx=>?_
 ·obtain⟨S1,M1,S2,st2,v',r,e,hr⟩:=hf
  obtain⟨stk,l2,μ2,cz2⟩:=S2;simp only at e;subst e;refine hide λPP2 hPP2=>?_
  obtain⟨fz',mu',cs',J',RL',Z',SL',o3,o4⟩:=M1.st st2;refine hPP2 ?_;exact⟨v',μ2,fz',mu',hr,bk (J'.sub (by simp only[keys,map_append];exact List.sublist_append_left _ _) λp hp=>mem_append_left _ hp),RL',Z'.head,o3,o4⟩
 ·have:=leaveX (M:=model P0 G.w) (E':=PostE G h₀ fro fz envs E) (Q:=λU s''=>PostE G h₀ fro fz envs E x s'') O hx λe C fz s3 q1 q2 q3 q4 q5 q6=>by
   rw[x6,x7,x8] at q3;rw[x6,x3] at q4;exact⟨e,C,fz,q1,q2,q3,q4,q5,q6⟩
  rw[x1,x2] at this;exact this
end
end
section
def HeldN(h₀:Heap)(fz:Led0)(e C:Addr)(h:Heap):Prop :=
 ∃B oe vs T oT ts,h₀.StaysIn B/\(∀p∈fz,B.get? p.1=some p.2)/\(∀P∈tbs,B.get? P=h.get? P)/\B.StaysIn h/\h.get? e=some oe/\oe.cls=.ref C/\oe.data=.fields vs/\vs[1]?=some (.ref T)/\B.get? T=none/\T≠e/\h.get? T=some oT /\
  oT.data=.fields ts/\3<ts.size
theorem HeldX.n{h₀:Heap}{l:List Env}{L:Addr}{fz:Led0}{e C:Addr}{h:Heap}(H:HeldX h₀ l L fz e C h):HeldN h₀ fz e C h:=by
 refine hide λPP0 hPP0=>?_
 obtain⟨B,a0,b1,b2,b3,hkb,hen,hl,oe,vs,T,oT,ts,he,hcls,hd,h1,hnT,hTe,hT,hdT,h3⟩:=H;refine hPP0 ?_;exact⟨B,oe,vs,T,oT,ts,b1,b2,b3,hkb,he,hcls.1,hd,h1,hnT,hTe,hT,hdT,(Array.getElem?_eq_some_iff.mp h3).1⟩
section
variable{G:Gl}{X:Act}{N:Nat}{cel:List Nat}{cx:Cx}{fz:Led0}{e C:Addr}{s:Shared}{M:Model}{A:Around}{E:Value->Shared->Prop}
theorem setFl{Q:Unit->Shared->Prop}(O:AOK G X N)(I:Inv G X fz [] s.heap)(H:HeldN X.h₀ fz e C s.heap)(k:∀h',Inv G X fz [] h'->HeldN X.h₀ fz e C h'->Q () { s with heap:=h' }):wpAny M A (setFlight (.ref e) none) Q E s:=by
 refine hide λPP1 hPP1=>?_
 obtain⟨B,oe,vs,T,oT,ts,b1,b2,b3,hkb,he,hcls,hd,h1,hnT,hTe,hT,hdT,h3⟩:=H;refine hPP1 ?_;have other:∀b,b≠T->(s.heap.update T (Obj.mapFields (·.setIfInBounds 3 .none))).get? b=s.heap.get? b:=λb hb=>Heap.get?_update_other _ _ (Ne.symm hb)
 have nofields:∀b o,s.heap.get? b=some o->(∀vs,o.data≠.fields vs)->b≠T:=λb o hb hnf q=>by
  rw[q,hT] at hb;cases hb;exact hnf ts hdT
 have hkb':B.StaysIn (s.heap.update T (Obj.mapFields (·.setIfInBounds 3 .none))):=λb o q=>(other b λz=>by rw[z,hnT] at q;cases q).trans (hkb b o q)
 have u:s.heap.UpToSlots (s.heap.update T (Obj.mapFields (·.setIfInBounds 3 .none))):=λb o hb hnf=>⟨o.slots,(other b (nofields b o hb hnf)).trans hb⟩
 have hd3:=Obj.data_mapFields hdT (·.setIfInBounds 3 Value.none);refine wpAny_setFlight_none he hd h1 hT hdT h3 (k _ (I.thrown O b1 b2 b3 hkb' u) ⟨B,oe,vs,T,_,_,b1,b2,Zbp I b3 hkb',hkb',(other e (Ne.symm hTe)).trans he,hcls,hd,h1,hnT,hTe,Heap.get?_update_self _ hT (Obj.isFreed_of_fields hd3),hd3,by simpa using h3⟩)
theorem Zd1{D:Addr}{b:Bool}{x:Str}{np cp rp hp:Pos}{i:Int}{kk:Nat}{rest:List ExceptHandler}{Q:Post}(O:AOK G X N)(EO:EnvOK G X cx X.env)(hk:cx.kd x=some .globalImplicit)(hv:cx.glob x=some (.ref D))(hdb:(x==("__debug__" : Str))=false)
  (hx:exmOne (K0 G.w.params) (.ref C) (.ref D)=some b) (I:Inv G X fz [] s.heap) (H:HeldN X.h₀ fz e C s.heap) (o1:s.os=G.os) (o2:s.gens=#[])
  (hT:b=true->Q.rt (.int i) []) (hF:b=false->wpAny (model P0 G.w) X.A (handleBy (.ref e) X.env rest) (OutS G X cel Q) (Exc G X Q.ex) s) :
  wpAny (model P0 G.w) X.A (handleBy (.ref e) X.env (.ExceptHandler (some (.Name x np)) none [.Return (some (.Constant (.int i) kk cp)) rp] hp::rest)) (OutS G X cel Q) (Exc G X Q.ex) s:=by
 obtain⟨w,hw,hm⟩:=EO.glob x _ hv;have hwD:w=.ref D:=by have:=hw [];cases this;rfl
 subst hwD;have st:∀b o,G.hb.get? b=some o->s.heap.get? b=some o:=λb o q=>I.st _ _ (O.st _ _ q)
 have X0:(K0 G.w.params).In s.heap:=G.K.keeps st;have hg:s.heap.Ns X.env.globals G.mg:=by rw[EO.gl];exact G.T.g.keeps st
 have LT:Looks (model P0 G.w) s.heap (typeOf (.ref e)) (.ref C):=by
  refine hide λPP2 hPP2=>?_
  obtain⟨B,oe,vs,T,oT,ts,b1,b2,b3,hkb,he,hcls,y⟩:=H;refine hPP2 ?_;exact hcls▸(Looks.ld he).andThen .now
 refine wpAny_handleBy_cons (codeAny_handlers_test ?_) (by intro q;cases q);have main:∀{E':Value->Shared->Prop}{Q':Value->Shared->Prop},Q' (.ref D) s->wpAny (model P0 G.w) (X.A.mark (some (.ref e))) (eval (.Name x np) X.env) Q' E' s:=λh=>by
  refine Name_function_global EO.kfe ((EO.kof _).trans hk) ?_ hdb;rcases hm with hm|⟨hm,hb⟩
  ·exact loadGlobal_global hg hm h
  ·exact loadGlobal_builtin hg hm (by rw[EO.bu];exact G.T.b.keeps st) hb h
 refine main ?_;refine(exm_one X0 LT hx).here ?_;cases b with
 |false=>exact hF rfl
 |true =>
  show codeAny _ _ _ _ _;refine codeAny_handlers_suite (setFl O I H λh' I' H'=>?_);refine wpAny_execs_cons (wpAny_Return_some (wpAny_Constant_int ?_));exact⟨.int i,[],fz,[],I',.nil,.int,hT rfl,o1,o2⟩
end
end
noncomputable def gT:List (String×V):=[("_wall",.ref 21),("PageError",.ref 43),("BadArgument",.ref 56),("Overflow",.ref 68),("BadAlign",.ref 80),("TooDeep",.ref 92),("is_whole",.ref 105),("check_whole",.ref 112),("check_number",.ref 119),("check_dimen",.ref 126),("rounded",.ref 133),("reading",.ref 140),("decimal_text",.ref 147),("times",.ref 154),("over",.ref 161),("badness",.ref 168),("order_text",.ref 175),("part_text",.ref 182),("Glue",.ref 250),("top_order",.ref 261),("Totals",.ref 313),("Box",.ref 354),("Rule",.ref 375),("Kern",.ref 396),("Skip",.ref 418),("Penalty",.ref 439),("Unset",.ref 461),("check_depth",.ref 472),("described_rest",.ref 479),("described",.ref 485),("described_list",.ref 491),("width_of",.ref 496),("height_of",.ref 501),("depth_of",.ref 506),("line_height",.ref 513),("line_depth",.ref 520),("natural_line",.ref 535),("across",.ref 542),("check_column",.ref 549),("natural_column",.ref 556),("quotient",.ref 563),("set_glue",.ref 570),("flex",.ref 577),("set_part",.ref 584),("part_size",.ref 591),("places",.ref 598),("moved",.ref 605),("goal_size",.ref 612),("set_box",.ref 619),("hpack",.ref 627),("vpack",.ref 635),("along",.ref 642),("check_skips",.ref 649),("placed_cells",.ref 656),("widths",.ref 661),("empty_box",.ref 668),("tab_node",.ref 675),("prototype",.ref 682),("row_box",.ref 687),("set_cell",.ref 694),("set_row",.ref 701),("set_rule",.ref 708),("finished",.ref 715),("_law_box",.ref 722),("_law_take",.ref 729),("_law_flow",.ref 736),("_law_cell",.ref 743),("_law_other",.ref 748),("_law_rows",.ref 755),("_law_wide",.ref 762),("_law_fits",.ref 767),("_law_bad",.ref 774),("_law_told",.ref 779),("_law_near",.ref 786),("_law_edges",.ref 793),("_law_made",.ref 800),("_law_row",.ref 805),("_law_due",.ref 812),("_law_goal",.ref 819),("_law_said",.ref 826),("_law_flat",.ref 831),("_law_refused",.ref 836),("_law_round",.ref 841),("law",.ref 848),("times_scaled",.ref 154),("over_scaled",.ref 161),("TOP_SKIP",.int 7),("SPLIT_TOP_SKIP",.int 8),("TAB_SKIP",.int 9),("SPACE_SKIP",.int 10),("XSPACE_SKIP",.int 11),("PAR_FILL_SKIP",.int 12),("UNITY",.int 65536),("MAX_DIMEN",.int 1073741823),("MAX_NUMBER",.int 2147483647),("INF_BAD",.int 10000),("NORMAL",.int 0),("FIL",.int 1),("FILL",.int 2),("FILLL",.int 3),("CHAR",.int 0),("LIGATURE",.int 1),("HBOX",.int 2),("VBOX",.int 3),("RULE",.int 4),("KERN",.int 5),("GLUE",.int 6),("PENALTY",.int 7),("DISC",.int 8),("MARK",.int 9),("INSERT",.int 10),("ADJUST",.int 11),("MATH",.int 12),("SPECIAL",.int 13),("UNSET",.int 14),("NATURAL",.int 0),("STRETCHED",.int 1),("SHRUNK",.int 2),("FONT_KERN",.int 0),("EXPLICIT",.int 1),("ACCENT_KERN",.int 2),("MU_KERN",.int 3),("PLAIN",.int 0),("ALEADERS",.int 1),("CLEADERS",.int 2),("XLEADERS",.int 3),("MU_SKIP",.int 4),("NONSCRIPT",.int 5),("NAMED",.int 100),("DEEPEST",.int 60),("EXACTLY",.int 0),("SPREAD",.int 1),("FINE",.int 0),("LOOSE",.int 1),("TIGHT",.int 2),("OVERFULL",.int 3),("TAB_SORT",.int 109)]
noncomputable def bT:List (String×V):=[("abs",.bi "abs"),("len",.bi "len"),("range",.typ "range"),("max",.bi "max"),("min",.bi "min"),("sum",.bi "sum"),("tuple",.typ "tuple"),("int",.typ "int"),("bool",.typ "bool"),("list",.typ "list"),("isinstance",.bi "isinstance"),("divmod",.bi "divmod"),("str",.typ "str")]
def Zba(x:Str):Option V:=((gT++bT).find? λp=>Str.ofString p.1==x).map (·.2)
theorem gTOk(w:World):(gT.all λp=>match nsIn (K0 w.params) mainGlobals (Str.ofString p.1) with|some (some v)=>vrb p.2 v|_=>false)=true:=by kernel_rfl
theorem bTOk1(w:World):(bT.all λp=>nsIn (K0 w.params) mainGlobals (Str.ofString p.1)==some none&&(Str.ofString p.1 != ("__name__" : Str)))=true:=by kernel_rfl
theorem bTOk2:(bT.all λp=>match bootBuiltins (Str.ofString p.1) with|some v=>vrb p.2 v|_=>false)=true:=by decide +kernel
set_option tactic.hygienic true in
theorem Zev(G:Gl):ZdL G Zba:=by
 intro x v h;unfold Zba at h;obtain⟨p,hp,rfl⟩:=Option.map_eq_some_iff.mp h;have hx:Str.ofString p.1=x:=by simpa using List.find?_some hp
 subst hx;have hm:=List.mem_of_find?_eq_some hp;refine mA hm (λhm=>?_) λhm=>?_
 ·have:=all_eq_true.mp (gTOk G.w) p hm
  split at this
  ·rename_i w hw
   exact⟨w,λz=>vrb_ok this,.inl (mg_of G.K G.T.g hw)⟩
  ·cases this
 ·have h1:=all_eq_true.mp (bTOk1 G.w) p hm
  have h2:=all_eq_true.mp bTOk2 p hm;simp only[Bool.and_eq_true,beq_iff_eq,bne_iff_ne,ne_eq] at h1;split at h2
  ·rename_i w hw
   exact⟨w,λz=>vrb_ok h2,.inr ⟨mg_none_of G.K G.T.g h1.1,(G.T.builtins _ h1.2).trans hw⟩⟩
  ·cases h2
section
structure PLe(Q Q':Post):Prop where
 nx:∀S,Q.nx S->Q'.nx S
 rt:∀v μ,Q.rt v μ->Q'.rt v μ
 ex:∀C,Q.ex C->Q'.ex C
structure W(CK:CKT)(cel:List Nat)(c:List IX)(S:Sg)(Q:Post):Prop where
 up:∀{Q':Post},PLe Q Q'->Wr CK cel c S Q'
theorem W.un{CK:CKT}{cel:List Nat}{c:List IX}{S:Sg}{Q:Post}(h:W CK cel c S Q):Wr CK cel c S Q:=h.up ⟨λz h=>h,λz z h=>h,λz h=>h⟩
theorem Zge{CK:CKT}{cel:List Nat}(c:List IX){S:Sg}{Q Q':Post}(hk:∀S,Q.nx S->Q'.nx S)(hr:∀v μ,Q.rt v μ->Q'.rt v μ)(he:∀C,Q.ex C->Q'.ex C)(h:W CK cel c S Q):W CK cel c S Q' :=
 ⟨λq=>h.up ⟨λS x=>q.nx _ (hk S x),λv μ x=>q.rt _ _ (hr v μ x),λC x=>q.ex _ (he C x)⟩⟩
section
variable{CK:CKT}{cel:List Nat}{Q:Post}{cz:Bool}{μ:Led}{l:List (Option V)}{k:List IX}{r stk:List V}{μ':Led}
theorem Zad{S:Sg}(h:Q.nx S):W CK cel [] S Q:=⟨λq=>q.nx _ h⟩
theorem w_st{i:IX}{S S':Sg}(t:St S S')(h:W CK cel (i::k) S' Q):W CK cel (i::k) S Q:=by
 refine⟨λq=>?_⟩;replace h:=h.up q;cases i<;>first
  |(obtain⟨a0,a1,a2,a3,u,b0⟩:=h;exact⟨a0,a1,a2,a3,t.trans u,b0⟩)
  |(obtain⟨a0,a1,a2,a3,a4,u,b0⟩:=h;exact⟨a0,a1,a2,a3,a4,t.trans u,b0⟩)
  |(obtain⟨a0,a1,a2,a3,a4,u,b0,b1⟩:=h;exact⟨a0,a1,a2,a3,a4,t.trans u,b0,b1⟩)
  |(obtain⟨a0,a1,a2,a3,a4,u,b0,b1,b2⟩:=h;exact⟨a0,a1,a2,a3,a4,t.trans u,b0,b1,b2⟩)
  |(obtain⟨a0,a1,a2,a3,a4,u,b0,b1,b2,b3,b4,b5,b6⟩:=h;exact⟨a0,a1,a2,a3,a4,t.trans u,b0,b1,b2,b3,b4,b5,b6⟩)
  |(obtain⟨a0,a1,a2,a3,a4,a5,u,b0,b1⟩:=h;exact⟨a0,a1,a2,a3,a4,a5,t.trans u,b0,b1⟩)
  |(obtain⟨a0,a1,a2,a3,a4,a5,u,b0,b1,b2,b3,b4⟩:=h;exact⟨a0,a1,a2,a3,a4,a5,t.trans u,b0,b1,b2,b3,b4⟩)
  |(obtain⟨a0,a1,a2,a3,a4,a5,a6,u,b0,b1⟩:=h;exact⟨a0,a1,a2,a3,a4,a5,a6,t.trans u,b0,b1⟩)
  |(obtain⟨a0,a1,a2,a3,a4,a5,a6,u,b0,b1,b2⟩:=h;exact⟨a0,a1,a2,a3,a4,a5,a6,t.trans u,b0,b1,b2⟩)
  |(obtain⟨a0,a1,a2,a3,a4,a5,a6,a7,u,b0,b1,b2,b3,b4⟩:=h;exact⟨a0,a1,a2,a3,a4,a5,a6,a7,t.trans u,b0,b1,b2,b3,b4⟩)
  |(obtain⟨a0,a1,a2,a3,a4,a5,a6,a7,a8,a9,u,b0,b1,b2,b3,b4⟩:=h;exact⟨a0,a1,a2,a3,a4,a5,a6,a7,a8,a9,t.trans u,b0,b1,b2,b3,b4⟩)
  |(obtain⟨a0,a1,a2,a3,a4,a5,a6,a7,a8,u,b0,b1,b2,b3⟩:=h;exact⟨a0,a1,a2,a3,a4,a5,a6,a7,a8,t.trans u,b0,b1,b2,b3⟩)
  |(obtain⟨a0,u,b0⟩:=h;exact⟨a0,t.trans u,b0⟩)
theorem w_c{v:V}(h:W CK cel k ⟨v::r,l,μ,cz⟩ Q):W CK cel (.c v::k) ⟨r,l,μ,cz⟩ Q:=⟨λq=>⟨_,_,_,_,.refl,h.up q⟩⟩
theorem w_l{i:Nat}{v:V}(e:l[i]?=some (some v))(h:W CK cel k ⟨v::r,l,μ,cz⟩ Q):W CK cel (.l i::k) ⟨r,l,μ,cz⟩ Q:=⟨λq=>⟨_,_,_,_,_,.refl,e,h.up q⟩⟩
theorem w_s{i:Nat}{v:V}(e:i<l.length)(c:cz=false\/i∉cel)(h:W CK cel k ⟨r,l.set i (some v),μ,cz⟩ Q):W CK cel (.s i::k) ⟨v::r,l,μ,cz⟩ Q:=⟨λq=>⟨_,_,_,_,_,.refl,e,c,h.up q⟩⟩
theorem w_at{j:Nat}{o v:V}(e:RA μ o j v)(h:W CK cel k ⟨v::r,l,μ,cz⟩ Q):W CK cel (.at j::k) ⟨o::r,l,μ,cz⟩ Q:=⟨λq=>⟨_,_,_,_,_,_,.refl,e,h.up q⟩⟩
theorem w_da{j:Nat}{o v:V}(e:RA μ o j v)(h:W CK cel k ⟨v::o::r,l,μ,cz⟩ Q):W CK cel (.da j::k) ⟨o::r,l,μ,cz⟩ Q:=⟨λq=>⟨_,_,_,_,_,_,.refl,e,h.up q⟩⟩
theorem w_sa{j:Nat}{a C dx:Addr}{v:V}{fs:List (Nat×V)}(hC:C∈insK)(hj:j<21)(hf:fs.length<900)(u:LU a (.ins C dx fs) (.ins C dx (fput j v fs)) μ μ')(h:W CK cel k ⟨r,l,μ',cz⟩ Q):W CK cel (.sa j::k) ⟨.ref a::v::r,l,μ,cz⟩ Q:=⟨λq=>⟨_,_,_,_,_,_,_,_,_,_,.refl,hC,hj,hf,u,h.up q⟩⟩
theorem w_sb{j:Nat}{a C dx:Addr}{v:V}{fs:List (Nat×V)}(hC:C∈insK)(hj:j<21)(hf:fs.length<900)(u:LU a (.ins C dx fs) (.ins C dx (fput j v fs)) μ μ')(h:W CK cel k ⟨r,l,μ',cz⟩ Q):W CK cel (.sb j::k) ⟨v::.ref a::r,l,μ,cz⟩ Q:=⟨λq=>⟨_,_,_,_,_,_,_,_,_,_,.refl,hC,hj,hf,u,h.up q⟩⟩
theorem w_gi{ix o v:V}(e:RG μ o ix v)(h:W CK cel k ⟨v::r,l,μ,cz⟩ Q):W CK cel (.gi::k) ⟨ix::o::r,l,μ,cz⟩ Q:=⟨λq=>⟨_,_,_,_,_,_,_,.refl,e,h.up q⟩⟩
theorem w_dg{ix o v:V}(e:RG μ o ix v)(h:W CK cel k ⟨v::ix::o::r,l,μ,cz⟩ Q):W CK cel (.dg::k) ⟨ix::o::r,l,μ,cz⟩ Q:=⟨λq=>⟨_,_,_,_,_,_,_,.refl,e,h.up q⟩⟩
theorem ZbP{vs:List V}{i:Int}{v:V}(h0:0<=i)(h1:i<2^30)(e:vs[i.toNat]?=some v):RG μ (.lst vs) (.int i) v:=by
 obtain⟨m,rfl⟩:=Int.eq_ofNat_of_zero_le h0;exact .lst (by simpa using e) (by lia)
theorem Zfh{vs:List V}{i:Int}{v:V}(h0:0<=i)(h1:i<2^30)(e:vs[i.toNat]?=some v):RG μ (.tup vs) (.int i) v:=by
 obtain⟨m,rfl⟩:=Int.eq_ofNat_of_zero_le h0;exact .tup (by simpa using e) (by lia)
theorem Zca{a:Addr}{vs:List V}{i:Int}{v:V}(hm:(a,AO.list vs)∈μ)(h0:0<=i)(h1:i<2^30)(e:vs[i.toNat]?=some v):RG μ (.ref a) (.int i) v:=by
 obtain⟨m,rfl⟩:=Int.eq_ofNat_of_zero_le h0;exact .led hm (by simpa using e) (by lia)
theorem w_si{ix:Int}{a:Addr}{v:V}{vs:List V}(h0:0<=ix)(e:ix.toNat<vs.length)(hb:ix<2^30)(u:LU a (.list vs) (.list (vs.set ix.toNat v)) μ μ')(h:W CK cel k ⟨r,l,μ',cz⟩ Q):W CK cel (.si::k) ⟨.int ix::.ref a::v::r,l,μ,cz⟩ Q:=by
 obtain⟨m,rfl⟩:=Int.eq_ofNat_of_zero_le h0;exact⟨λq=>⟨m,_,_,_,_,_,_,_,_,.refl,e,by lia,u,h.up q⟩⟩
theorem w_sg{ix:Int}{a:Addr}{v:V}{vs:List V}(h0:0<=ix)(e:ix.toNat<vs.length)(hb:ix<2^30)(u:LU a (.list vs) (.list (vs.set ix.toNat v)) μ μ')(h:W CK cel k ⟨r,l,μ',cz⟩ Q):W CK cel (.sg::k) ⟨v::.int ix::.ref a::r,l,μ,cz⟩ Q:=by
 obtain⟨m,rfl⟩:=Int.eq_ofNat_of_zero_le h0;exact⟨λq=>⟨m,_,_,_,_,_,_,_,_,.refl,e,by lia,u,h.up q⟩⟩
theorem Zao{op:Operator}{a b v:V}(e:BV op a b v)(h:W CK cel k ⟨v::r,l,μ,cz⟩ Q):W CK cel (.bin op::k) ⟨b::a::r,l,μ,cz⟩ Q:=⟨λq=>⟨_,_,_,_,_,_,_,.refl,e,h.up q⟩⟩
theorem w_iadd{a b:Int}(h:W CK cel k ⟨.int (a+b)::r,l,μ,cz⟩ Q):W CK cel (.iadd::k) ⟨.int b::.int a::r,l,μ,cz⟩ Q:=⟨λq=>⟨(a,b),_,_,_,_,.refl,h.up q⟩⟩
theorem w_neg{a:Int}(h:W CK cel k ⟨.int (-a)::r,l,μ,cz⟩ Q):W CK cel (.neg::k) ⟨.int a::r,l,μ,cz⟩ Q:=⟨λq=>⟨a,_,_,_,_,.refl,h.up q⟩⟩
theorem w_not{a:Bool}(h:W CK cel k ⟨.bool (!a)::r,l,μ,cz⟩ Q):W CK cel (.not::k) ⟨.bool a::r,l,μ,cz⟩ Q:=⟨λq=>⟨a,_,_,_,_,.refl,h.up q⟩⟩
theorem ZaE{op:CmpOp}{a b:V}{c:Bool}(e:CV μ op a b c)(h:W CK cel k ⟨.bool c::r,l,μ,cz⟩ Q):W CK cel (.cmp op::k) ⟨b::a::r,l,μ,cz⟩ Q:=⟨λq=>⟨_,_,_,_,_,_,_,.refl,e,h.up q⟩⟩
theorem Zbo{op:CmpOp}{c:List IX}{a b:V}{x:Bool}(e:CV μ op a b x)(h1:x=true->W CK cel (c++k) ⟨b::r,l,μ,cz⟩ Q)(h2:x=false->W CK cel k ⟨.bool false::r,l,μ,cz⟩ Q):W CK cel (.chain op c::k) ⟨b::a::r,l,μ,cz⟩ Q:=⟨λq=>⟨_,_,_,_,_,_,_,.refl,e,λx=>W_app.mp ((h1 x).up q),λx=>(h2 x).up q⟩⟩
theorem ZaN{a b:List IX}{x:Bool}(h1:x=true->W CK cel (a++k) ⟨r,l,μ,cz⟩ Q)(h2:x=false->W CK cel (b++k) ⟨r,l,μ,cz⟩ Q):W CK cel (.ite a b::k) ⟨.bool x::r,l,μ,cz⟩ Q:=⟨λq=>⟨x,_,_,_,_,.refl,λx=>W_app.mp ((h1 x).up q),λx=>W_app.mp ((h2 x).up q)⟩⟩
theorem ZaS{a b:List IX}(h1:W CK cel (a++k) ⟨r,l,μ,cz⟩ Q):W CK cel (.ite a b::k) ⟨.bool true::r,l,μ,cz⟩ Q:=ZaN (λz=>h1) λh=>by cases h
theorem ZaT{a b:List IX}(h1:W CK cel (b++k) ⟨r,l,μ,cz⟩ Q):W CK cel (.ite a b::k) ⟨.bool false::r,l,μ,cz⟩ Q:=ZaN (λh=>by cases h) λz=>h1
theorem ZaO{a b:List IX}{x:Bool}(e:x=true)(h1:W CK cel (a++k) ⟨r,l,μ,cz⟩ Q):W CK cel (.ite a b::k) ⟨.bool x::r,l,μ,cz⟩ Q:=ZaN (λz=>h1) λh=>by rw[e] at h;cases h
theorem Zav{a b:List IX}{x:Bool}(e:x=false)(h1:W CK cel (b++k) ⟨r,l,μ,cz⟩ Q):W CK cel (.ite a b::k) ⟨.bool x::r,l,μ,cz⟩ Q:=ZaN (λh=>by rw[e] at h;cases h) λz=>h1
theorem w_tup{n:Nat}{vs:List V}(e:stk=vs.reverse++r)(hl:vs.length=n)(h:W CK cel k ⟨.tup vs::r,l,μ,cz⟩ Q):W CK cel (.tup n::k) ⟨stk,l,μ,cz⟩ Q:=by subst e;exact⟨λq=>⟨_,_,_,_,_,.refl,hl,h.up q⟩⟩
theorem Zaq{n:Nat}{vs:List V}(e:stk=vs.reverse++r)(hl:vs.length=n)(h:W CK cel k ⟨.lst vs::r,l,μ,cz⟩ Q):W CK cel (.lst n::k) ⟨stk,l,μ,cz⟩ Q:=by subst e;exact⟨λq=>⟨_,_,_,_,_,.refl,hl,.inl (h.up q)⟩⟩
theorem ZaH{n:Nat}{vs:List V}(e:stk=vs.reverse++r)(hl:vs.length=n)(h:∀a,W CK cel k ⟨.ref a::r,l,(a,.list vs)::μ,cz⟩ Q):W CK cel (.lst n::k) ⟨stk,l,μ,cz⟩ Q:=by subst e;exact⟨λq=>⟨_,_,_,_,_,.refl,hl,.inr λa=>(h a).up q⟩⟩
theorem Zab{n:Nat}{f:V}{vs:List V}{R:V->Led->Prop}{E:Addr->Prop}(ck:CK f vs μ R E)(e:stk=vs.reverse++f::r)(hl:vs.length=n)(hc:f.clb=true)(h:∀v μ',R v μ'->W CK cel k ⟨v::r,l,μ',cz⟩ Q)(hE:∀C,E C->Q.ex C):W CK cel (.call n::k) ⟨stk,l,μ,cz⟩ Q:=by subst e;exact⟨λq=>⟨_,_,_,_,_,_,_,_,.refl,hl,hc,ck,λv μ' x=>(h v μ' x).up q,λC x=>q.ex _ (hE C x)⟩⟩
theorem w_mg{j:Nat}{o f:V}(e:MG μ o j f)(h:W CK cel k ⟨o::f::r,l,μ,cz⟩ Q):W CK cel (.mg j::k) ⟨o::r,l,μ,cz⟩ Q:=⟨λq=>⟨_,_,_,_,_,_,.refl,e,h.up q⟩⟩
theorem w_slcT{i:Int}{vs:List V}(h0:0<=i)(h1:i<2^30)(h2:vs.length<2^20)(h:W CK cel k ⟨.lst (vs.take i.toNat)::r,l,μ,cz⟩ Q):W CK cel (.slc false true::k) ⟨.int i::.lst vs::r,l,μ,cz⟩ Q:=by
 obtain⟨m,rfl⟩:=Int.eq_ofNat_of_zero_le h0;exact⟨λq=>⟨_,_,_,_,_,.refl,_,m,rfl,by lia,h2,h.up q⟩⟩
theorem Zd7{i:Int}{vs:List V}(h0:0<=i)(h1:i<2^30)(h2:vs.length<2^20)(h:W CK cel k ⟨.lst (vs.drop i.toNat)::r,l,μ,cz⟩ Q):W CK cel (.slc true false::k) ⟨.int i::.lst vs::r,l,μ,cz⟩ Q:=by
 obtain⟨m,rfl⟩:=Int.eq_ofNat_of_zero_le h0;exact⟨λq=>⟨_,_,_,_,_,.refl,_,m,rfl,by lia,h2,h.up q⟩⟩
theorem w_lam{I:LamI}{cs:List Nat}{vs:List V}(e:Zcs l cs=some vs)(c:∀i∈cs,i∈cel)(h:W CK cel k ⟨.lam I vs::r,l,μ,true⟩ Q):W CK cel (.lam I cs::k) ⟨r,l,μ,cz⟩ Q:=⟨λq=>⟨_,_,_,_,_,.refl,e,c,h.up q⟩⟩
theorem Zbf{v:V}(h:W CK cel k ⟨r,l,μ,cz⟩ Q):W CK cel (.pop::k) ⟨v::r,l,μ,cz⟩ Q:=⟨λq=>⟨v,_,_,_,_,.refl,h.up q⟩⟩
theorem Zak{v:V}(h:Q.rt v μ):W CK cel (.ret::k) ⟨v::r,l,μ,cz⟩ Q:=⟨λq=>⟨_,_,_,_,_,.refl,q.rt _ _ h⟩⟩
theorem Zbt{C:Addr}{S:Sg}(h:Q.ex C):W CK cel (.rais C::k) S Q:=⟨λq=>⟨_,.refl,q.ex _ h⟩⟩
theorem w_unp{n:Nat}{vs:List V}(hl:vs.length=n)(h:W CK cel k ⟨vs++r,l,μ,cz⟩ Q):W CK cel (.unp n::k) ⟨.tup vs::r,l,μ,cz⟩ Q:=⟨λq=>⟨_,_,_,_,_,.refl,hl,h.up q⟩⟩
theorem w_unpR{n:Nat}{vs:List V}(hl:vs.length=n)(h:W CK cel k ⟨vs.reverse++r,l,μ,cz⟩ Q):W CK cel (.unpR n::k) ⟨.tup vs::r,l,μ,cz⟩ Q:=⟨λq=>⟨_,_,_,_,_,.refl,hl,h.up q⟩⟩
theorem w_comp{t:Tg}{b:CB}{it:V}{items:List V}(hi:Items it items)(Inv:List V->List V->Led->List (Option V)->Prop)(h0:Inv items [] μ l)(h1:∀v rest acc μ l,Inv (v::rest) acc μ l->(∃l',BT t v l l')/\∀l',BT t v l l'->acc.length<2^20/\WC CK cel b l' cz μ acc (λμ' acc' l''=>Inv rest acc' μ' l''))
  (h2:∀acc μ l',Inv [] acc μ l'->W CK cel k ⟨.lst acc::r,l,μ,cz⟩ Q):W CK cel (.comp t b::k) ⟨it::r,l,μ,cz⟩ Q:=⟨λq=>⟨_,_,_,_,_,_,.refl,hi,Inv,h0,h1,λacc μ l' x=>(h2 acc μ l' x).up q⟩⟩
theorem w_for{t:Tg}{b:List IX}{it:V}{items:List V}(hi:Items it items)(hc:cz=false\/∀i∈t.ixs,i∉cel)(Inv:List V->List (Option V)->Led->Prop)(h0:Inv items l μ)
  (h1:∀v rest l μ l',Inv (v::rest) l μ->BT t v l l'->W CK cel b ⟨[],l',μ,cz⟩ { Q with nx:=λS0=>∃S'',St S0 S''/\S''.stk=[]/\S''.cz=cz/\Inv rest S''.l S''.μ }) (h2:∀v rest l1 μ,Inv (v::rest) l1 μ->l1.length=l.length/\∃l',BT t v l1 l')
  (h3:∀l1 μ,Inv [] l1 μ->l1.length=l.length/\W CK cel k ⟨[],l1,μ,cz⟩ Q):W CK cel (.forL t b::k) ⟨[it],l,μ,cz⟩ Q:=⟨λq=>⟨_,_,_,_,_,.refl,hi,hc,Inv,h0,λv rest l μ l' x y=>(h1 v rest l μ l' x y).up ⟨λz h=>h,q.rt,q.ex⟩,h2,λl1 μ x=>⟨(h3 l1 μ x).1,(h3 l1 μ x).2.up q⟩⟩⟩
end
section
variable{CK:CKT}{cel:List Nat}{c:List IX}{b:CB}{t:Tg}{l:List (Option V)}{cz:Bool}{μ:Led}{acc:List V}{F:Led->List V->List (Option V)->Prop}
theorem Za7(h:W CK cel c ⟨[],l,μ,cz⟩ ⟨λS0=>∃S,St S0 S/\∃v,S.stk=[v]/\S.cz=cz/\F S.μ (acc++[v]) S.l,λz z=>False,λz=>False⟩):WC CK cel (.emit c) l cz μ acc F:=h.un
theorem Zbe(h:W CK cel c ⟨[],l,μ,cz⟩ ⟨BK λx S=>S.stk=[]/\S.cz=cz/\(x=true->WC CK cel b S.l cz S.μ acc F)/\(x=false->F S.μ acc S.l),λz z=>False,λz=>False⟩):WC CK cel (.cond c b) l cz μ acc F:=h.un
theorem Zbd(h:W CK cel c ⟨[],l,μ,cz⟩ ⟨λS0=>∃S,St S0 S/\∃it items,S.stk=[it]/\S.cz=cz/\Items it items/\∃Inv:List V->List V->Led->List (Option V)->Prop,Inv items acc S.μ S.l /\
   (∀v rest acc μ l,Inv (v::rest) acc μ l->(∃l',BT t v l l')/\∀l',BT t v l l'->acc.length<2^20/\WC CK cel b l' cz μ acc (λμ' acc' l''=>Inv rest acc' μ' l''))/\∀acc μ l,Inv [] acc μ l->F μ acc l,λz z=>False,λz=>False⟩):WC CK cel (.loop c t b) l cz μ acc F:=h.un
end
abbrev Zb9(G:Gl)(N:Nat)(f:V)(vs:List V)(μ:Led)(v:V):Prop:=CallX G N f vs μ (λv' μ'=>v'=v/\μ'=μ) (λz=>False)
section
variable{G:Gl}{N:Nat}{cel:List Nat}{Q:Post}{cz:Bool}{μ:Led}{l:List (Option V)}{k:List IX}{r stk:List V}{μ':Led}
theorem Zaa{n:Nat}{f v:V}{vs:List V}(ck:Zb9 G N f vs μ v)(e:stk=vs.reverse++f::r)(hl:vs.length=n)(hc:f.clb=true)(h:W (CallX G N) cel k ⟨v::r,l,μ,cz⟩ Q):W (CallX G N) cel (.call n::k) ⟨stk,l,μ,cz⟩ Q :=
 Zab ck e hl hc (λz z q=>by obtain⟨rfl,rfl⟩:=q;exact h) λz q=>q.elim
theorem Zax{n:Nat}{f v:V}{vs:List V}(b:BL f vs v)(e:stk=vs.reverse++f::r)(hl:vs.length=n)(h:W (CallX G N) cel k ⟨v::r,l,μ,cz⟩ Q):W (CallX G N) cel (.call n::k) ⟨stk,l,μ,cz⟩ Q :=
 Zaa (bltX b) e hl (by cases b<;>rfl) h
theorem ZaG{a:Addr}{vs:List V}{v:V}(hb:vs.length<2^20)(u:LU a (.list vs) (.list (vs++[v])) μ μ')(h:W (CallX G N) cel k ⟨.none::r,l,μ',cz⟩ Q):W (CallX G N) cel (.call 2::k) ⟨v::.ref a::.bi "list.append"::r,l,μ,cz⟩ Q :=
 Zab (appX (E:=λz=>False) hb u) (vs:=[.ref a,v]) rfl rfl rfl (λz z q=>by obtain⟨rfl,rfl⟩:=q;exact h) λz q=>q.elim
end
structure Fx(w:World)(f:Addr)(st:Stmt)(names:List Str)(dvs:List V)(tp:Bool)(qual:Str)(code:List IX)(cel:List Nat)(idx:List (Option Nat)):Prop where
 ok:FnOK w f st names dvs tp qual
 cd:xSs 60 (cxF st Zba tp qual) (ZbX st)=some code
 ce:ZbN (Zac st)=cel
 ix:(own0 (Zac st)).map (λx=>names.findIdx? (·==x))=idx
theorem Zc0{x:Str}:∀{names:List Str}{vs:List V},vs.length=names.length->(names.zip vs).lookup x=(names.findIdx? (·==x)).bind λi=>vs[i]?
 |[],_,_=>rfl
 |y::names,[],h=>by cases h
 |y::names,v::vs,h=>by
  rw[List.zip_cons_cons,lookup_cons,List.findIdx?_cons];by_cases q:x=y
  ·subst q;simp
  ·have h1:(x==y)=false:=beq_eq_false_iff_ne.mpr q
   have h2:(y==x)=false:=beq_eq_false_iff_ne.mpr λe=>q e.symm
   rw[h1,h2];simp only[Bool.false_eq_true,if_false];rw[Zc0 (by simpa using h)];cases List.findIdx? (·==x) names<;>rfl
theorem Mod.pad{G:Gl}{X:Act}{cel:List Nat}{stk:List V}{l:List (Option V)}{μ:Led}{cz:Bool}{ws:List Value}{s:Shared}(k:Nat)(M:Mod G X cel ⟨stk,l,μ,cz⟩ ws s):Mod G X cel ⟨stk,l++List.replicate k none,μ,cz⟩ ws s:=by
 obtain⟨fz,mu,cs,I,RL,Z,SL,o1,o2⟩:=M;refine⟨fz,mu,cs,I,RL,Z,⟨λi v h=>SL.sl i v ?_,SL.cl,SL.cf,SL.ow,SL.nd,SL.fc⟩,o1,o2⟩;rw[List.getElem?_append] at h;split at h
 ·exact h
 ·rw[List.getElem?_replicate] at h
  split at h<;>cases h
theorem fnGo{G:Gl}{n:Nat}{f:Addr}{st:Stmt}{names:List Str}{dvs vs:List V}{tp:Bool}{qual:Str}{code:List IX}{cel:List Nat}{idx:List (Option Nat)}{μ:Led}{R:V->Led->Prop}{E:Addr->Prop}(F:∀w,Fx w f st names dvs tp qual code cel idx)(hn:n+1<900)(hlen:vs.length+dvs.length=names.length)
  (hW:W (CallX G (n+1)) cel code ⟨[],(idx.map λo=>o.bind λi=>(vs++dvs)[i]?)++List.replicate 4 none,μ,false⟩ ⟨λS=>∃S',St S S'/\R .none S'.μ,R,E⟩):CodeOK G n f vs μ R E:=by
 have F:=F G.w;refine ZfT hn F.ok (Zev G) hlen λX s' C M=>?_
 have e:l0F st names (vs++dvs)=idx.map λo=>o.bind λi=>(vs++dvs)[i]?:=by
  rw[<- F.ix];unfold l0F;rw[map_map];apply map_congr_left;intro x z;exact Zc0 (by simpa using hlen)
 rw[e,F.ce] at M;rw[F.ce] at C⊢;exact(sAll (G:=G) (N:=n+1) (CK:=CallX G (n+1)) (λf vs μ R E h=>h) 60).2 F.cd C rfl hW.un (M.pad 4)
end
noncomputable def nS(l:List String):List Str:=l.map Str.ofString
@[simp] theorem nS_len {l:List String}:(nS l).length=l.length:=length_map _
noncomputable def qN(q:String):Str:=Str.ofString q++(Str.ofString ".<locals>.")
theorem fxP{w:World}{f:Addr}{s:Stmt}{names:List Str}{q:String}{code:List IX}{cel:List Nat}{idx:List (Option Nat)}(nn:String)(pm c:Value)(h1:(K0 w.params).lookup f=some ⟨.type "function",none,ffn nn q s .none pm c,#[]⟩:=by kernel_rfl)(h2:codeIn (K0 w.params) c (Str.ofString q)=true:=by kernel_rfl)(h3:ZeX s names=true:=by kernel_rfl)(h4:xSs 60 (cxF s Zba false (qN q)) (ZbX s)=some code:=by kernel_rfl)(h5:ZbN (Zac s)=cel:=by kernel_rfl)(h6:(own0 (Zac s)).map (λx=>names.findIdx? (·==x))=idx:=by kernel_rfl):Fx w f s names [] false (qN q) code cel idx:=⟨mkFn h1 h2 h3,h4,h5,h6⟩
noncomputable abbrev ci(i:Int):IX:=.c (.int i)
noncomputable abbrev cr(a:Addr):IX:=.c (.ref a)
noncomputable def c14:List IX:=[.c (.bi "isinstance"),.l 0,.c (.typ "int"),.call 2,.ite [.c (.bi "isinstance"),.l 0,.c (.typ "bool"),.call 2,.not,.ite [.l 1,.l 0,.chain .LtE [.l 2,.cmp .LtE]] [.c (.bool false)]] [.c (.bool false)],.ret]
def n14:List Str:=nS ["value","low","high"]
theorem f14(w:World):Fx w 105 (st 14) n14 [] false (qN "is_whole") c14 [] [some 0,some 1,some 2]:=fxP "is_whole" Sa (.ref 104)
noncomputable def c15:List IX:=[.c (.bi "isinstance"),.l 0,.c (.typ "int"),.call 2,.not,.ite [.c (.bool true)] [.c (.bi "isinstance"),.l 0,.c (.typ "bool"),.call 2],.ite [.rais 56] [],.l 0,.ret]
def n15:List Str:=nS ["value"]
theorem f15(w:World):Fx w 112 (st 15) n15 [] false (qN "check_whole") c15 [] [some 0]:=fxP "check_whole" Sa (.ref 111)
def c16:List IX:=[ci 2147483647,.neg,cr 112,.l 0,.call 1,.chain .LtE [ci 2147483647,.cmp .LtE],.not,.ite [.rais 68] [],.l 0,.ret]
def n16:List Str:=nS ["value"]
theorem f16(w:World):Fx w 119 (st 16) n16 [] false (qN "check_number") c16 [] [some 0]:=fxP "check_number" Sa (.ref 118)
def c17:List IX:=[ci 1073741823,.neg,cr 112,.l 0,.call 1,.chain .LtE [ci 1073741823,.cmp .LtE],.not,.ite [.rais 68] [],.l 0,.ret]
def n17:List Str:=nS ["value"]
theorem f17(w:World):Fx w 126 (st 17) n17 [] false (qN "check_dimen") c17 [] [some 0]:=fxP "check_dimen" Sa (.ref 125)
def c18:List IX:=[.l 1,ci 0,.cmp .LtE,.ite [.rais 56] [],.l 0,ci 0,.cmp .Lt,.ite [.l 1,ci 2,.l 0,.bin .Mult,.bin .Sub,ci 2,.l 1,.bin .Mult,.bin .FloorDiv,.neg,.ret] [],ci 2,.l 0,.bin .Mult,.l 1,.bin .Add,ci 2,.l 1,.bin .Mult,.bin .FloorDiv,.ret]
def n18:List Str:=nS ["number","by"]
theorem f18(w:World):Fx w 133 (st 18) n18 [] false (qN "rounded") c18 [] [some 0,some 1]:=fxP "rounded" Sa (.ref 132)
def c25:List IX:=[.l 0,ci 0,.cmp .Lt,.ite [.rais 56] [],.l 0,ci 0,.cmp .Eq,.ite [ci 0,.ret] [],.l 1,ci 0,.cmp .LtE,.ite [ci 10000,.ret] [],.l 0,ci 7230584,.cmp .LtE,.ite [.l 0,ci 297,.bin .Mult,.l 1,.bin .FloorDiv,.s 2] [.l 1,ci 1663497,.cmp .GtE,.ite [.l 0,.l 1,ci 297,.bin .FloorDiv,.bin .FloorDiv,.s 2] [.l 0,.s 2]],.l 2,ci 1290,.cmp .Gt,.ite [ci 10000,.ret] [],.l 2,.l 2,.bin .Mult,.l 2,.bin .Mult,ci 131072,.bin .Add,ci 262144,.bin .FloorDiv,.ret]
def n25:List Str:=nS ["excess","total"]
theorem f25(w:World):Fx w 168 (st 25) n25 [] false (qN "badness") c25 [] [some 0,some 1,none]:=fxP "badness" Sa (.ref 167)
def Zf7:List IX:=[cr 105,.l 3,ci 0,ci 3,.call 3,.not,.ite [.c (.bool true)] [cr 105,.l 5,ci 0,ci 3,.call 3,.not],.ite [.rais 56] [],cr 126,.l 1,.call 1,.l 0,.sa 0,cr 126,.l 2,.call 1,.l 0,.sa 1,.l 2,ci 0,.cmp .NotEq,.ite [.l 3] [ci 0],.l 0,.sa 2,cr 126,.l 4,.call 1,.l 0,.sa 3,.l 4,ci 0,.cmp .NotEq,.ite [.l 5] [ci 0],.l 0,.sa 4]
def Zfv:List Str:=nS ["self","width","stretch","stretch_order","shrink","shrink_order"]
theorem f28_0_0(w:World):Fx w 197 (sb 28 0) Zfv [.int 0,.int 0,.int 0,.int 0,.int 0] false (qN "Glue.__init__") Zf7 [] [some 0,some 1,some 2,some 3,some 4,some 5]:=⟨ZcA (nn:="__init__") (q:="Glue.__init__") (pm:=Sa) (c:=(.ref 196)) (D:=190) (items:=#[I 0 443,I 0 444,I 0 445,I 0 446,I 0 447]) (cnt:=0) (by kernel_rfl) (by kernel_rfl) (by kernel_rfl) (by kernel_rfl) (λa0=>⟨[I 0 443,I 0 444,I 0 445,I 0 446,I 0 447],λ_=>.cons .int (.cons .int (.cons .int (.cons .int (.cons .int (.nil))))),_,by rfl,by rfl⟩),by kernel_rfl,by kernel_rfl,by kernel_rfl⟩
theorem f28_0_2(w:World):Fx w 197 (sb 28 0) Zfv [.int 0,.int 0,.int 0] false (qN "Glue.__init__") Zf7 [] [some 0,some 1,some 2,some 3,some 4,some 5]:=⟨ZcA (nn:="__init__") (q:="Glue.__init__") (pm:=Sa) (c:=(.ref 196)) (D:=190) (items:=#[I 0 443,I 0 444,I 0 445,I 0 446,I 0 447]) (cnt:=0) (by kernel_rfl) (by kernel_rfl) (by kernel_rfl) (by kernel_rfl) (λa0 a1 a2=>⟨[I 0 445,I 0 446,I 0 447],λ_=>.cons .int (.cons .int (.cons .int (.nil))),_,by rfl,by rfl⟩),by kernel_rfl,by kernel_rfl,by kernel_rfl⟩
theorem f28_0_5(w:World):Fx w 197 (sb 28 0) Zfv [] false (qN "Glue.__init__") Zf7 [] [some 0,some 1,some 2,some 3,some 4,some 5]:=⟨ZcA (nn:="__init__") (q:="Glue.__init__") (pm:=Sa) (c:=(.ref 196)) (D:=190) (items:=#[I 0 443,I 0 444,I 0 445,I 0 446,I 0 447]) (cnt:=0) (by kernel_rfl) (by kernel_rfl) (by kernel_rfl) (by kernel_rfl) (λa0 a1 a2 a3 a4 a5=>⟨[],λ_=>.nil,_,by rfl,by rfl⟩),by kernel_rfl,by kernel_rfl,by kernel_rfl⟩
noncomputable def c28_1:List IX:=[.l 0,.at 0,.l 0,.at 1,.l 0,.at 2,.l 0,.at 3,.l 0,.at 4,.tup 5,.ret]
def n28_1:List Str:=nS ["self"]
theorem f28_1(w:World):Fx w 204 (sb 28 1) n28_1 [] false (qN "Glue.parts") c28_1 [] [some 0]:=fxP "parts" Sa (.ref 203)
def b29_1:List IX:=[.l 0,.l 1,.gi,ci 0,.cmp .NotEq,.ite [.l 1,.ret] []]
def c29:List IX:=[ci 3,ci 2,ci 1,.tup 3,.forL (.v 1) b29_1,ci 0,.ret]
def n29:List Str:=nS ["sums"]
theorem f29(w:World):Fx w 261 (st 29) n29 [] false (qN "top_order") c29 [] [some 0,none]:=fxP "top_order" Sa (.ref 260)
def c30_0:List IX:=[ci 0,.l 0,.sa 5,ci 0,ci 0,ci 0,ci 0,.lst 4,.l 0,.sa 1,ci 0,ci 0,ci 0,ci 0,.lst 4,.l 0,.sa 3]
def n30_0:List Str:=nS ["self"]
theorem f30_0(w:World):Fx w 275 (sb 30 0) n30_0 [] false (qN "Totals.__init__") c30_0 [] [some 0]:=fxP "__init__" Sa (.ref 274)
noncomputable def c30_1:List IX:=[.l 0,.da 5,.l 1,.at 0,.iadd,.sb 5,.l 0,.at 1,.l 1,.at 2,.dg,.l 1,.at 1,.iadd,.sg,.l 0,.at 3,.l 1,.at 4,.dg,.l 1,.at 3,.iadd,.sg]
def n30_1:List Str:=nS ["self","glue"]
theorem f30_1(w:World):Fx w 282 (sb 30 1) n30_1 [] false (qN "Totals.add") c30_1 [] [some 0,some 1]:=fxP "add" Sa (.ref 281)
noncomputable def c30_2:List IX:=[.l 0,.da 5,.l 1,.iadd,.sb 5]
def n30_2:List Str:=nS ["self","width"]
theorem f30_2(w:World):Fx w 289 (sb 30 2) n30_2 [] false (qN "Totals.widen") c30_2 [] [some 0,some 1]:=fxP "widen" Sa (.ref 288)
def c30_3:List IX:=[cr 261,.l 0,.at 1,.call 1,.ret]
def n30_3:List Str:=nS ["self"]
theorem f30_3(w:World):Fx w 296 (sb 30 3) n30_3 [] false (qN "Totals.stretch_top") c30_3 [] [some 0]:=fxP "stretch_top" Sa (.ref 295)
def c30_4:List IX:=[cr 261,.l 0,.at 3,.call 1,.ret]
def n30_4:List Str:=nS ["self"]
theorem f30_4(w:World):Fx w 303 (sb 30 4) n30_4 [] false (qN "Totals.shrink_top") c30_4 [] [some 0]:=fxP "shrink_top" Sa (.ref 302)
def c38_0:List IX:=[cr 105,.l 1,ci 2,ci 3,.call 3,.not,.ite [.rais 56] [],.l 1,.l 0,.sa 6,cr 126,.l 2,.call 1,.l 0,.sa 0,cr 126,.l 3,.call 1,.l 0,.sa 7,cr 126,.l 4,.call 1,.l 0,.sa 8,.l 5,.l 0,.sa 9,ci 0,.l 0,.sa 10,ci 0,.l 0,.sa 11,ci 0,.l 0,.sa 12,ci 0,ci 1,.tup 2,.l 0,.sa 13]
def n38_0:List Str:=nS ["self","kind","width","height","depth","items"]
theorem f38_0(w:World):Fx w 351 (sb 38 0) n38_0 [] false (qN "Box.__init__") c38_0 [] [some 0,some 1,some 2,some 3,some 4,some 5]:=fxP "__init__" Sb (.ref 350)
def b39_1_1:List IX:=[.l 4,.c .none,.cmp .IsNot,.ite [cr 126,.l 4,.call 1,.pop] []]
def c39_1:List IX:=[.l 1,.l 2,.l 3,.tup 3,.forL (.v 4) b39_1_1,.l 1,.l 0,.sa 0,.l 2,.l 0,.sa 7,.l 3,.l 0,.sa 8]
def n39_1:List Str:=nS ["self","width","height","depth"]
theorem f39_1(w:World):Fx w 372 (sb 39 1) n39_1 [] false (qN "Rule.__init__") c39_1 [] [some 0,some 1,some 2,some 3,none]:=fxP "__init__" Sb (.ref 371)
def c40_1:List IX:=[cr 105,.l 2,ci 0,ci 3,.call 3,.not,.ite [.rais 56] [],cr 126,.l 1,.call 1,.l 0,.sa 0,.l 2,.l 0,.sa 14]
def n40_1:List Str:=nS ["self","width","sort"]
theorem f40_1(w:World):Fx w 393 (sb 40 1) n40_1 [] false (qN "Kern.__init__") c40_1 [] [some 0,some 1,some 2]:=fxP "__init__" Sb (.ref 392)
def c41_1:List IX:=[cr 105,.l 2,ci 0,ci 5,.call 3,.not,.ite [cr 105,.l 2,ci 100,ci 100,ci 99,.bin .Add,.call 3,.not] [.c (.bool false)],.ite [.rais 56] [],.l 3,.c .none,.cmp .Is,ci 1,.l 2,.chain .LtE [ci 3,.cmp .LtE],.cmp .Eq,.ite [.rais 56] [],.l 3,.c .none,.cmp .IsNot,.ite [ci 2,.l 3,.at 6,.chain .LtE [ci 4,.cmp .LtE],.not] [.c (.bool false)],.ite [.rais 56] [],.l 1,.l 0,.sa 15,.l 2,.l 0,.sa 14,.l 3,.l 0,.sa 16]
def n41_1:List Str:=nS ["self","glue","sort","leader"]
theorem ZfW(w:World):Fx w 415 (sb 41 1) n41_1 [.none] false (qN "Skip.__init__") c41_1 [] [some 0,some 1,some 2,some 3]:=⟨ZcA (nn:="__init__") (q:="Skip.__init__") (pm:=Sb) (c:=(.ref 414)) (D:=408) (items:=#[.none]) (cnt:=0) (by kernel_rfl) (by kernel_rfl) (by kernel_rfl) (by kernel_rfl) (λa0 a1 a2=>⟨[.none],λ_=>.cons .none (.nil),_,by rfl,by rfl⟩),by kernel_rfl,by kernel_rfl,by kernel_rfl⟩
def c42_1:List IX:=[cr 119,.l 1,.call 1,.l 0,.sa 17]
def n42_1:List Str:=nS ["self","value"]
theorem f42_1(w:World):Fx w 436 (sb 42 1) n42_1 [] false (qN "Penalty.__init__") c42_1 [] [some 0,some 1]:=fxP "__init__" Sb (.ref 435)
def c43_1:List IX:=[cr 105,.l 5,ci 1,ci 2147483647,.call 3,.not,.ite [.rais 56] [],cr 126,.l 1,.call 1,.l 0,.sa 0,cr 126,.l 2,.call 1,.l 0,.sa 7,cr 126,.l 3,.call 1,.l 0,.sa 8,.l 4,.l 0,.sa 9,.l 5,.l 0,.sa 18,.l 6,.l 0,.sa 19,.l 7,.l 0,.sa 20]
def n43_1:List Str:=nS ["self","width","height","depth","items","spans","totals","is_vertical"]
theorem f43_1_6(w:World):Fx w 458 (sb 43 1) n43_1 [.bool false] false (qN "Unset.__init__") c43_1 [] [some 0,some 1,some 2,some 3,some 4,some 5,some 6,some 7]:=⟨ZcA (nn:="__init__") (q:="Unset.__init__") (pm:=Sb) (c:=(.ref 457)) (D:=451) (items:=#[.bool false]) (cnt:=0) (by kernel_rfl) (by kernel_rfl) (by kernel_rfl) (by kernel_rfl) (λa0 a1 a2 a3 a4 a5 a6=>⟨[.bool false],λ_=>.cons .bool (.nil),_,by rfl,by rfl⟩),by kernel_rfl,by kernel_rfl,by kernel_rfl⟩
theorem f43_1_7(w:World):Fx w 458 (sb 43 1) n43_1 [] false (qN "Unset.__init__") c43_1 [] [some 0,some 1,some 2,some 3,some 4,some 5,some 6,some 7]:=⟨ZcA (nn:="__init__") (q:="Unset.__init__") (pm:=Sb) (c:=(.ref 457)) (D:=451) (items:=#[.bool false]) (cnt:=0) (by kernel_rfl) (by kernel_rfl) (by kernel_rfl) (by kernel_rfl) (λa0 a1 a2 a3 a4 a5 a6 a7=>⟨[],λ_=>.nil,_,by rfl,by rfl⟩),by kernel_rfl,by kernel_rfl,by kernel_rfl⟩
def c44:List IX:=[.l 0,ci 60,.cmp .Gt,.ite [.rais 92] []]
def n44:List Str:=nS ["depth"]
theorem f44(w:World):Fx w 472 (st 44) n44 [] false (qN "check_depth") c44 [] [some 0]:=fxP "check_depth" Sb (.ref 471)
def c45:List IX:=[.l 0,.at 6,.s 2,.l 2,ci 8,.cmp .Eq,.ite [ci 8,cr 491,.l 0,.at 999,.l 1,ci 1,.bin .Add,.call 2,cr 491,.l 0,.at 999,.l 1,ci 1,.bin .Add,.call 2,cr 491,.l 0,.at 999,.l 1,ci 1,.bin .Add,.call 2,.tup 4,.ret] [],.l 2,ci 10,.cmp .Eq,.ite [ci 10,.l 0,.at 999,.l 0,.at 999,.l 0,.at 8,.l 0,.at 999,.mg 21,.call 1,.l 0,.at 999,cr 491,.l 0,.at 9,.l 1,ci 1,.bin .Add,.call 2,.tup 7,.ret] [],.l 2,ci 11,.cmp .Eq,.ite [ci 11,cr 491,.l 0,.at 9,.l 1,ci 1,.bin .Add,.call 2,.tup 2,.ret] [],.l 2,ci 13,.cmp .Eq,.ite [ci 13,.c (.typ "tuple"),.l 0,.at 999,.call 1,.tup 2,.ret] [],.l 2,ci 14,.cmp .Eq,.ite [.l 0,.at 19,.at 5,.c (.typ "tuple"),.l 0,.at 19,.at 1,.call 1,.c (.typ "tuple"),.l 0,.at 19,.at 3,.call 1,.tup 3,.s 3,.l 0,.at 0,.l 0,.at 7,.l 0,.at 8,.l 0,.at 18,.l 0,.at 20,.ite [ci 1] [ci 0],.tup 5,.s 4,ci 14,.tup 1,.l 4,.bin .Add,.l 3,.bin .Add,cr 491,.l 0,.at 9,.l 1,ci 1,.bin .Add,.call 2,.tup 1,.bin .Add,.ret] [],.rais 56]
def n45:List Str:=nS ["node","depth"]
theorem f45(w:World):Fx w 479 (st 45) n45 [] false (qN "described_rest") c45 [] [some 0,some 1,none,none,none]:=fxP "described_rest" Sb (.ref 478)
def c46:List IX:=[cr 472,.l 1,.call 1,.pop,.l 0,.at 6,.s 2,.l 2,ci 0,.cmp .Eq,.ite [ci 0,.l 0,.at 999,.at 999,.l 0,.at 999,.tup 3,.ret] [],.l 2,ci 1,.cmp .Eq,.ite [ci 1,.l 0,.at 999,.at 999,.l 0,.at 999,.l 0,.at 21,.l 0,.at 999,.ite [ci 1] [ci 0],.l 0,.at 999,.ite [ci 1] [ci 0],.tup 6,.ret] [],.l 2,ci 2,.cmp .Eq,.ite [.c (.bool true)] [.l 2,ci 3,.cmp .Eq],.ite [.l 0,.at 0,.l 0,.at 7,.l 0,.at 8,.l 0,.at 10,.l 0,.at 11,.l 0,.at 12,.l 0,.at 13,.tup 7,.s 3,.l 2,.tup 1,.l 3,.bin .Add,cr 491,.l 0,.at 9,.l 1,ci 1,.bin .Add,.call 2,.tup 1,.bin .Add,.ret] [],.l 2,ci 4,.cmp .Eq,.ite [ci 4,.tup 1,.c (.typ "tuple"),.l 0,.at 0,.l 0,.at 7,.l 0,.at 8,.tup 3,.comp (.v 4) (.emit [.l 4,.c .none,.cmp .Is,.ite [.tup 0] [.l 4,.tup 1]]),.call 1,.bin .Add,.ret] [],.l 2,ci 5,.cmp .Eq,.ite [ci 5,.l 0,.at 0,.l 0,.at 14,.tup 3,.ret] [],.l 2,ci 6,.cmp .Eq,.ite [ci 6,.l 0,.at 15,.mg 21,.call 1,.l 0,.at 14,.l 0,.at 16,.c .none,.cmp .Is,.ite [.tup 0] [cr 485,.l 0,.at 16,.l 1,ci 1,.bin .Add,.call 2],.tup 4,.ret] [],.l 2,ci 7,.cmp .Eq,.ite [ci 7,.l 0,.at 17,.tup 2,.ret] [],.l 2,ci 9,.cmp .Eq,.ite [ci 9,.l 0,.at 999,.tup 2,.ret] [],.l 2,ci 12,.cmp .Eq,.ite [ci 12,.l 0,.at 999,.ite [ci 1] [ci 0],.l 0,.at 0,.tup 3,.ret] [],cr 479,.l 0,.l 1,.call 2,.ret]
def n46:List Str:=nS ["node","depth"]
theorem ZdB(w:World):Fx w 485 (st 46) n46 [] false (qN "described") c46 [] [some 0,some 1,none,none]:=⟨ZcA (nn:="described") (q:="described") (pm:=Sb) (c:=(.ref 484)) (D:=480) (items:=#[I 0 902]) (cnt:=0) (by kernel_rfl) (by kernel_rfl) (by kernel_rfl) (by kernel_rfl) (λa0 a1=>⟨[],λ_=>.nil,_,by rfl,by rfl⟩),by kernel_rfl,by kernel_rfl,by kernel_rfl⟩
def c47:List IX:=[.c (.typ "tuple"),.l 0,.comp (.v 2) (.emit [cr 485,.l 2,.l 1,.call 2]),.call 1,.ret]
def n47:List Str:=nS ["items","depth"]
theorem f47_1(w:World):Fx w 491 (st 47) n47 [.int 0] false (qN "described_list") c47 [1] [some 0,some 1]:=⟨ZcA (nn:="described_list") (q:="described_list") (pm:=Sb) (c:=(.ref 490)) (D:=486) (items:=#[I 0 909]) (cnt:=0) (by kernel_rfl) (by kernel_rfl) (by kernel_rfl) (by kernel_rfl) (λa0=>⟨[I 0 909],λ_=>.cons .int (.nil),_,by rfl,by rfl⟩),by kernel_rfl,by kernel_rfl,by kernel_rfl⟩
theorem f47_2(w:World):Fx w 491 (st 47) n47 [] false (qN "described_list") c47 [1] [some 0,some 1]:=⟨ZcA (nn:="described_list") (q:="described_list") (pm:=Sb) (c:=(.ref 490)) (D:=486) (items:=#[I 0 909]) (cnt:=0) (by kernel_rfl) (by kernel_rfl) (by kernel_rfl) (by kernel_rfl) (λa0 a1=>⟨[],λ_=>.nil,_,by rfl,by rfl⟩),by kernel_rfl,by kernel_rfl,by kernel_rfl⟩
def c48:List IX:=[.l 0,.at 6,.s 1,.l 1,ci 0,.cmp .Eq,.ite [.c (.bool true)] [.l 1,ci 1,.cmp .Eq],.ite [.l 0,.at 999,.mg 0,.l 0,.at 999,.call 2,.ret] [],.l 1,ci 2,.cmp .Eq,.ite [.c (.bool true)] [.l 1,ci 3,.cmp .Eq,.ite [.c (.bool true)] [.l 1,ci 5,.cmp .Eq,.ite [.c (.bool true)] [.l 1,ci 12,.cmp .Eq,.ite [.c (.bool true)] [.l 1,ci 14,.cmp .Eq]]]],.ite [.l 0,.at 0,.ret] [],.l 1,ci 4,.cmp .Eq,.ite [.l 0,.at 0,.c .none,.cmp .Is,.ite [ci 0] [.l 0,.at 0],.ret] [],.l 1,ci 6,.cmp .Eq,.ite [.l 0,.at 15,.at 0,.ret] [],.l 1,ci 8,.cmp .Eq,.ite [.c (.bi "sum"),.l 0,.at 999,.comp (.v 2) (.emit [cr 496,.l 2,.call 1]),.call 1,.ret] [],ci 0,.ret]
def n48:List Str:=nS ["node"]
theorem f48(w:World):Fx w 496 (st 48) n48 [] false (qN "width_of") c48 [] [some 0,none]:=fxP "width_of" Sb (.ref 495)
def c49:List IX:=[.l 0,.at 6,.s 1,.l 1,ci 0,.cmp .Eq,.ite [.c (.bool true)] [.l 1,ci 1,.cmp .Eq],.ite [.l 0,.at 999,.mg 7,.l 0,.at 999,.call 2,.ret] [],.l 1,ci 2,.cmp .Eq,.ite [.c (.bool true)] [.l 1,ci 3,.cmp .Eq,.ite [.c (.bool true)] [.l 1,ci 14,.cmp .Eq]],.ite [.l 0,.at 7,.ret] [],.l 1,ci 4,.cmp .Eq,.ite [.l 0,.at 7,.c .none,.cmp .Is,.ite [ci 0] [.l 0,.at 7],.ret] [],.l 1,ci 6,.cmp .Eq,.ite [.l 0,.at 16,.c .none,.cmp .IsNot] [.c (.bool false)],.ite [cr 501,.l 0,.at 16,.call 1,.ret] [],.l 1,ci 8,.cmp .Eq,.ite [.c (.bi "max"),ci 0,.lst 1,.l 0,.at 999,.comp (.v 2) (.emit [cr 513,.l 2,.call 1]),.bin .Add,.call 1,.ret] [],ci 0,.ret]
def n49:List Str:=nS ["node"]
theorem f49(w:World):Fx w 501 (st 49) n49 [] false (qN "height_of") c49 [] [some 0,none]:=fxP "height_of" Sb (.ref 500)
def c50:List IX:=[.l 0,.at 6,.s 1,.l 1,ci 0,.cmp .Eq,.ite [.c (.bool true)] [.l 1,ci 1,.cmp .Eq],.ite [.l 0,.at 999,.mg 8,.l 0,.at 999,.call 2,.ret] [],.l 1,ci 2,.cmp .Eq,.ite [.c (.bool true)] [.l 1,ci 3,.cmp .Eq,.ite [.c (.bool true)] [.l 1,ci 14,.cmp .Eq]],.ite [.l 0,.at 8,.ret] [],.l 1,ci 4,.cmp .Eq,.ite [.l 0,.at 8,.c .none,.cmp .Is,.ite [ci 0] [.l 0,.at 8],.ret] [],.l 1,ci 6,.cmp .Eq,.ite [.l 0,.at 16,.c .none,.cmp .IsNot] [.c (.bool false)],.ite [cr 506,.l 0,.at 16,.call 1,.ret] [],.l 1,ci 8,.cmp .Eq,.ite [.c (.bi "max"),ci 0,.lst 1,.l 0,.at 999,.comp (.v 2) (.emit [cr 520,.l 2,.call 1]),.bin .Add,.call 1,.ret] [],ci 0,.ret]
def n50:List Str:=nS ["node"]
theorem f50(w:World):Fx w 506 (st 50) n50 [] false (qN "depth_of") c50 [] [some 0,none]:=fxP "depth_of" Sb (.ref 505)
def c51:List IX:=[.l 0,.at 6,ci 2,.cmp .Eq,.ite [.c (.bool true)] [.l 0,.at 6,ci 3,.cmp .Eq],.ite [.l 0,.at 7,.l 0,.at 10,.bin .Sub,.ret] [],cr 501,.l 0,.call 1,.ret]
def n51:List Str:=nS ["node"]
theorem f51(w:World):Fx w 513 (st 51) n51 [] false (qN "line_height") c51 [] [some 0]:=fxP "line_height" Sb (.ref 512)
def c52:List IX:=[.l 0,.at 6,ci 2,.cmp .Eq,.ite [.c (.bool true)] [.l 0,.at 6,ci 3,.cmp .Eq],.ite [.l 0,.at 8,.l 0,.at 10,.bin .Add,.ret] [],cr 506,.l 0,.call 1,.ret]
def n52:List Str:=nS ["node"]
theorem f52(w:World):Fx w 520 (st 52) n52 [] false (qN "line_depth") c52 [] [some 0]:=fxP "line_depth" Sb (.ref 519)
def b56_1:List IX:=[.l 4,.at 6,ci 6,.cmp .Eq,.ite [.l 1,.mg 22,.l 4,.at 15,.call 2,.pop] [.l 1,.mg 23,cr 496,.l 4,.call 1,.call 2,.pop],.c (.bi "max"),.l 2,cr 513,.l 4,.call 1,.call 2,.s 2,.c (.bi "max"),.l 3,cr 520,.l 4,.call 1,.call 2,.s 3]
def c56:List IX:=[cr 313,.call 0,.s 1,ci 0,ci 0,.tup 2,.unp 2,.s 2,.s 3,.l 0,.forL (.v 4) b56_1,.l 1,.l 2,.l 3,.tup 3,.ret]
def n56:List Str:=nS ["items"]
theorem f56(w:World):Fx w 535 (st 56) n56 [] false (qN "natural_line") c56 [] [some 0,none,none,none,none]:=fxP "natural_line" Sd (.ref 534)
def c57:List IX:=[.l 0,.at 6,ci 2,.cmp .Eq,.ite [.c (.bool true)] [.l 0,.at 6,ci 3,.cmp .Eq],.ite [.l 0,.at 0,.l 0,.at 10,.bin .Add,.ret] [],.l 0,.at 6,ci 6,.cmp .Eq,.ite [.l 0,.at 16,.c .none,.cmp .Is,.ite [ci 0] [cr 496,.l 0,.at 16,.call 1],.ret] [],.l 0,.at 6,ci 5,.cmp .Eq,.ite [ci 0] [cr 496,.l 0,.call 1],.ret]
def n57:List Str:=nS ["node"]
theorem f57(w:World):Fx w 542 (st 57) n57 [] false (qN "across") c57 [] [some 0]:=fxP "across" Sd (.ref 541)
def b58_1:List IX:=[.l 1,.at 6,ci 0,.cmp .Eq,.ite [.c (.bool true)] [.l 1,.at 6,ci 1,.cmp .Eq,.ite [.c (.bool true)] [.l 1,.at 6,ci 8,.cmp .Eq,.ite [.c (.bool true)] [.l 1,.at 6,ci 12,.cmp .Eq]]],.ite [.rais 56] []]
def c58:List IX:=[.l 0,.forL (.v 1) b58_1]
def n58:List Str:=nS ["items"]
theorem f58(w:World):Fx w 549 (st 58) n58 [] false (qN "check_column") c58 [] [some 0,none]:=fxP "check_column" Sd (.ref 548)
def b59_1:List IX:=[.c (.bi "max"),.l 2,cr 542,.l 4,.call 1,.call 2,.s 2,.l 4,.at 6,ci 6,.cmp .Eq,.ite [.l 1,.mg 23,.l 3,.call 2,.pop,.l 1,.mg 22,.l 4,.at 15,.call 2,.pop,ci 0,.s 3] [.l 4,.at 6,ci 5,.cmp .Eq,.ite [.l 1,.mg 23,.l 3,.l 4,.at 0,.bin .Add,.call 2,.pop,ci 0,.s 3] [.l 4,.at 6,ci 2,.cmp .Eq,.ite [.c (.bool true)] [.l 4,.at 6,ci 3,.cmp .Eq,.ite [.c (.bool true)] [.l 4,.at 6,ci 4,.cmp .Eq,.ite [.c (.bool true)] [.l 4,.at 6,ci 14,.cmp .Eq]]],.ite [.l 1,.mg 23,.l 3,cr 501,.l 4,.call 1,.bin .Add,.call 2,.pop,cr 506,.l 4,.call 1,.s 3] []]]]
def c59:List IX:=[cr 549,.l 0,.call 1,.pop,cr 313,.call 0,.s 1,ci 0,ci 0,.tup 2,.unp 2,.s 2,.s 3,.l 0,.forL (.v 4) b59_1,.l 1,.l 2,.l 3,.tup 3,.ret]
def n59:List Str:=nS ["items"]
theorem f59(w:World):Fx w 556 (st 59) n59 [] false (qN "natural_column") c59 [] [some 0,none,none,none,none]:=fxP "natural_column" Sd (.ref 555)
def c60:List IX:=[.l 1,ci 0,.cmp .Gt,.ite [.l 0,.l 1,.tup 2] [.l 0,.neg,.l 1,.neg,.tup 2],.ret]
def n60:List Str:=nS ["up","down"]
theorem f60(w:World):Fx w 563 (st 60) n60 [] false (qN "quotient") c60 [] [some 0,some 1]:=fxP "quotient" Sd (.ref 562)
def c61:List IX:=[.l 1,ci 0,.cmp .Eq,.ite [ci 0,ci 0,ci 0,ci 1,.tup 2,ci 0,ci 0,.tup 2,.tup 4,.ret] [],.l 1,ci 0,.cmp .Gt,.ite [.l 0,.mg 24,.call 1] [.l 0,.mg 25,.call 1],.s 2,.l 1,ci 0,.cmp .Gt,.ite [.l 0,.at 1,.l 2,.gi] [.l 0,.at 3,.l 2,.gi],.s 3,ci 0,ci 0,.tup 2,.s 4,.l 2,ci 0,.cmp .Eq,.ite [.l 1,ci 0,.cmp .Gt,.ite [ci 1] [ci 2],cr 168,.c (.bi "abs"),.l 1,.call 1,.l 3,.call 2,.tup 2,.s 4] [],.l 2,ci 0,.cmp .Eq,.ite [.l 1,ci 0,.cmp .Lt,.ite [.l 3,.l 1,.neg,.cmp .Lt] [.c (.bool false)]] [.c (.bool false)],.ite [ci 3,.l 1,.neg,.l 3,.bin .Sub,.tup 2,.s 4] [],.l 3,ci 0,.cmp .Eq,.ite [ci 0,ci 0,ci 0,ci 1,.tup 2,.l 4,.tup 4,.ret] [],.l 4,ci 0,.gi,ci 3,.cmp .Eq,.ite [ci 2,.l 2,ci 1,ci 1,.tup 2,.l 4,.tup 4,.ret] [],.l 1,ci 0,.cmp .Gt,.ite [ci 1] [ci 2],.l 2,cr 563,.c (.bi "abs"),.l 1,.call 1,.l 3,.call 2,.l 4,.tup 4,.ret]
def n61:List Str:=nS ["totals","excess"]
theorem f61(w:World):Fx w 570 (st 61) n61 [] false (qN "set_glue") c61 [] [some 0,some 1,none,none,none]:=fxP "set_glue" Sd (.ref 569)
def c62:List IX:=[.l 0,.at 11,ci 1,.cmp .Eq,.ite [.l 1,.at 2,.l 0,.at 12,.cmp .Eq] [.c (.bool false)],.ite [.l 1,.at 1,.ret] [],.l 0,.at 11,ci 2,.cmp .Eq,.ite [.l 1,.at 4,.l 0,.at 12,.cmp .Eq] [.c (.bool false)],.ite [.l 1,.at 3,.neg,.ret] [],ci 0,.ret]
def n62:List Str:=nS ["box","glue"]
theorem f62(w:World):Fx w 577 (st 62) n62 [] false (qN "flex") c62 [] [some 0,some 1]:=fxP "flex" Sd (.ref 576)
def c63:List IX:=[cr 133,.l 0,.at 13,ci 0,.gi,.l 1,.bin .Mult,.l 0,.at 13,ci 1,.gi,.call 2,.ret]
def n63:List Str:=nS ["box","flexed"]
theorem f63(w:World):Fx w 584 (st 63) n63 [] false (qN "set_part") c63 [] [some 0,some 1]:=fxP "set_part" Sd (.ref 583)
def c64:List IX:=[.l 0,.at 6,ci 2,.cmp .Eq,.ite [cr 496,.l 1,.call 1,.ret] [],.l 1,.at 6,ci 5,.cmp .Eq,.ite [.l 1,.at 0] [cr 501,.l 1,.call 1,cr 506,.l 1,.call 1,.bin .Add],.ret]
def n64:List Str:=nS ["box","node"]
theorem f64(w:World):Fx w 591 (st 64) n64 [] false (qN "part_size") c64 [] [some 0,some 1]:=fxP "part_size" Sd (.ref 590)
def b65_1:List IX:=[.l 4,.at 6,ci 6,.cmp .Eq,.ite [.l 2,.l 4,.at 15,.at 0,.bin .Add,.s 2,.l 3,cr 577,.l 0,.l 4,.at 15,.call 2,.bin .Add,.s 3] [.l 2,cr 591,.l 0,.l 4,.call 2,.bin .Add,.s 2],.l 1,.mg 26,.l 2,cr 584,.l 0,.l 3,.call 2,.bin .Add,.call 2,.pop]
def c65:List IX:=[.l 0,.at 6,ci 3,.cmp .Eq,.ite [cr 549,.l 0,.at 9,.call 1,.pop] [],ci 0,.lst 1,.s 1,ci 0,ci 0,.tup 2,.unp 2,.s 2,.s 3,.l 0,.at 9,.forL (.v 4) b65_1,.l 1,.ret]
def n65:List Str:=nS ["box"]
theorem f65(w:World):Fx w 598 (st 65) n65 [] false (qN "places") c65 [] [some 0,none,none,none,none]:=fxP "places" Sd (.ref 597)
def c67:List IX:=[.l 1,ci 0,.cmp .NotEq,.ite [.l 1,ci 1,.cmp .NotEq] [.c (.bool false)],.ite [.rais 56] [],cr 126,.l 2,.call 1,.pop,.l 1,ci 0,.cmp .Eq,.ite [.l 2] [.l 0,.l 2,.bin .Add],.ret]
def n67:List Str:=nS ["own","mode","amount"]
theorem f67(w:World):Fx w 612 (st 67) n67 [] false (qN "goal_size") c67 [] [some 0,some 1,some 2]:=fxP "goal_size" Sd (.ref 611)
def c68:List IX:=[cr 570,.l 1,.l 2,.call 2,.unp 4,.l 0,.sa 11,.l 0,.sa 12,.l 0,.sa 13,.s 3,.l 0,.at 9,.lst 0,.cmp .NotEq,.ite [.l 3] [ci 0,ci 0,.tup 2],.ret]
def n68:List Str:=nS ["box","totals","excess"]
theorem f68(w:World):Fx w 619 (st 68) n68 [] false (qN "set_box") c68 [] [some 0,some 1,some 2,none]:=fxP "set_box" Sd (.ref 618)
def c69:List IX:=[.l 3,.c .none,.cmp .Is,.ite [.l 0,.lst 0,.tup 2] [cr 605,.l 0,.call 1],.unp 2,.s 4,.s 5,cr 535,.l 4,.call 1,.unp 3,.s 6,.s 7,.s 8,cr 612,.l 6,.at 5,.l 1,.l 2,.call 3,.s 9,cr 354,ci 2,.l 9,.l 7,.l 8,.l 4,.call 5,.s 10,.l 3,.c .none,.cmp .IsNot,.ite [.l 3,.mg 999,.l 5,.call 2,.pop] [],.l 10,cr 619,.l 10,.l 6,.l 9,.l 6,.at 5,.bin .Sub,.call 3,.tup 2,.ret]
def n69:List Str:=nS ["items","mode","amount","outside"]
theorem f69_3(w:World):Fx w 627 (st 69) n69 [.none] false (qN "hpack") c69 [] [some 0,some 1,some 2,some 3,none,none,none,none,none,none,none]:=⟨ZcA (nn:="hpack") (q:="hpack") (pm:=Sd) (c:=(.ref 626)) (D:=620) (items:=#[I 1 951,I 0 1082,.none]) (cnt:=0) (by kernel_rfl) (by kernel_rfl) (by kernel_rfl) (by kernel_rfl) (λa0 a1 a2=>⟨[.none],λ_=>.cons .none (.nil),_,by rfl,by rfl⟩),by kernel_rfl,by kernel_rfl,by kernel_rfl⟩
def c70:List IX:=[cr 126,.l 3,.call 1,.pop,cr 556,.l 0,.call 1,.unp 3,.s 4,.s 5,.s 6,.l 6,.l 3,.cmp .Gt,.ite [.l 4,.mg 23,.l 6,.l 3,.bin .Sub,.call 2,.pop,.l 3,.s 6] [],cr 612,.l 4,.at 5,.l 1,.l 2,.call 3,.s 7,cr 354,ci 3,.l 5,.l 7,.l 6,.l 0,.call 5,.s 8,.l 8,cr 619,.l 8,.l 4,.l 7,.l 4,.at 5,.bin .Sub,.call 3,.tup 2,.ret]
def n70:List Str:=nS ["items","mode","amount","most_depth"]
theorem f70_3(w:World):Fx w 635 (st 70) n70 [.int 1073741823] false (qN "vpack") c70 [] [some 0,some 1,some 2,some 3,none,none,none,none,none]:=⟨ZcA (nn:="vpack") (q:="vpack") (pm:=Sd) (c:=(.ref 634)) (D:=628) (items:=#[I 1 951,I 0 1100,I 1073741823 308]) (cnt:=0) (by kernel_rfl) (by kernel_rfl) (by kernel_rfl) (by kernel_rfl) (λa0 a1 a2=>⟨[I 1073741823 308],λ_=>.cons .int (.nil),_,by rfl,by rfl⟩),by kernel_rfl,by kernel_rfl,by kernel_rfl⟩
noncomputable def c73:List IX:=[.l 0,.at 20,.ite [.l 0,.at 7] [.l 0,.at 0],.ret]
def n73:List Str:=nS ["cell"]
theorem f73(w:World):Fx w 642 (st 73) n73 [] false (qN "along") c73 [] [some 0]:=fxP "along" Se (.ref 641)
def b74_1:List IX:=[.c (.bi "isinstance"),.l 2,cr 250,.call 2,.not,.ite [.rais 56] []]
def c74:List IX:=[cr 105,.l 0,ci 1,ci 2147483647,.call 3,.not,.ite [.c (.bool true)] [.c (.bi "len"),.l 1,.call 1,.l 0,ci 1,.bin .Add,.cmp .NotEq],.ite [.rais 56] [],.l 1,.forL (.v 2) b74_1]
def n74:List Str:=nS ["columns","skips"]
theorem f74(w:World):Fx w 649 (st 74) n74 [] false (qN "check_skips") c74 [] [some 0,some 1,none]:=fxP "check_skips" Se (.ref 648)
def Zga:List IX:=[.l 4,.at 6,ci 14,.cmp .NotEq,.ite [.rais 80] [],.l 2,.mg 26,.l 3,.l 4,.tup 2,.call 2,.pop,.l 3,.l 4,.at 18,.bin .Add,.s 3]
def c75:List IX:=[.lst 0,ci 0,.tup 2,.unpR 2,.s 3,.s 2,.l 0,.forL (.v 4) Zga,.l 3,.l 1,.cmp .Gt,.ite [.rais 80] [],.l 2,.ret]
def n75:List Str:=nS ["row","columns"]
theorem f75(w:World):Fx w 656 (st 75) n75 [] false (qN "placed_cells") c75 [] [some 0,some 1,none,none,none]:=fxP "placed_cells" Se (.ref 655)
def b76_2:List IX:=[.l 4,.l 6,.l 7,.at 18,.bin .Add,ci 1,.bin .Sub,.gi,.mg 26,.l 6,cr 642,.l 7,.call 1,.tup 2,.call 2,.pop]
def ZcK:List IX:=[.c (.bi "isinstance"),.l 5,.c (.typ "list"),.call 2,.ite [cr 656,.l 5,.l 1,.call 2,.forL (.t [6,7]) b76_2] []]
def b76_3:List IX:=[.l 4,.l 3,.gi,.comp (.t [12,13]) (.emit [.l 13,.l 8,.l 3,.gi,.l 8,.l 12,.gi,.bin .Sub,.bin .Sub]),.s 10,.l 10,.lst 0,.cmp .NotEq,.ite [cr 126,.c (.bi "max"),.l 10,.call 1,.call 1] [.c .none],.s 11,.l 9,.mg 26,.l 11,.call 2,.pop,.l 8,.mg 26,.l 8,.l 3,.gi,.l 11,.c .none,.cmp .Is,.ite [ci 0] [.l 11,.l 2,.l 3,ci 1,.bin .Add,.gi,.at 0,.bin .Add],.bin .Add,.call 2,.pop]
def c76:List IX:=[cr 649,.l 1,.l 2,.call 2,.pop,.c (.typ "range"),.l 1,.call 1,.comp (.v 12) (.emit [.lst 0]),.s 4,.l 0,.forL (.v 5) ZcK,ci 0,.lst 1,.s 8,.lst 0,.s 9,.c (.typ "range"),.l 1,.call 1,.forL (.v 3) b76_3,.l 9,.ret]
def n76:List Str:=nS ["rows","columns","skips"]
theorem f76(w:World):Fx w 661 (st 76) n76 [] false (qN "widths") c76 [3,8] [some 0,some 1,some 2,none,none,none,none,none,none,none,none,none]:=fxP "widths" Se (.ref 660)
def c77:List IX:=[.l 0,.c .none,.cmp .Is,.ite [ci 0] [.l 0],.s 2,.l 1,.ite [cr 354,ci 3,ci 0,.l 2,ci 0,.lst 0,.call 5] [cr 354,ci 2,.l 2,ci 0,ci 0,.lst 0,.call 5],.ret]
def n77:List Str:=nS ["width","is_vertical"]
theorem f77(w:World):Fx w 668 (st 77) n77 [] false (qN "empty_box") c77 [] [some 0,some 1,none]:=fxP "empty_box" Se (.ref 667)
def c78:List IX:=[cr 418,.l 0,.l 2,.gi,.c .none,.cmp .Is,.ite [cr 250,.call 0] [.l 1,.l 2,ci 1,.bin .Add,.gi],ci 109,.call 2,.ret]
def n78:List Str:=nS ["sizes","skips","column"]
theorem f78(w:World):Fx w 675 (st 78) n78 [] false (qN "tab_node") c78 [] [some 0,some 1,some 2]:=fxP "tab_node" Se (.ref 674)
def b79_1:List IX:=[.l 5,.mg 26,cr 668,.l 0,.l 6,.gi,.l 4,.call 2,.call 2,.pop,.l 5,.mg 26,cr 675,.l 0,.l 1,.l 6,.call 3,.call 2,.pop]
def c79:List IX:=[cr 649,.c (.bi "len"),.l 0,.call 1,.l 1,.call 2,.pop,cr 418,.l 1,ci 0,.gi,ci 109,.call 2,.lst 1,.s 5,.c (.typ "range"),.c (.bi "len"),.l 0,.call 1,.call 1,.forL (.v 6) b79_1,.l 4,.ite [cr 635,.l 5,.l 2,.l 3,.call 3] [cr 627,.l 5,.l 2,.l 3,.call 3],.ret]
def n79:List Str:=nS ["sizes","skips","mode","amount","is_vertical"]
theorem f79(w:World):Fx w 682 (st 79) n79 [] false (qN "prototype") c79 [] [some 0,some 1,some 2,some 3,some 4,none,none]:=fxP "prototype" Se (.ref 681)
def c80:List IX:=[.l 2,.ite [cr 354,ci 3,.c (.bi "max"),ci 0,.lst 1,.l 0,.comp (.t [6,7]) (.emit [.l 7,.at 0]),.bin .Add,.call 1,.l 1,.at 7,.l 1,.at 8,.lst 0,.call 5,.s 3] [.c (.bi "max"),ci 0,.lst 1,.l 0,.comp (.t [6,7]) (.emit [.l 7,.at 7]),.bin .Add,.call 1,.s 4,.c (.bi "max"),ci 0,.lst 1,.l 0,.comp (.t [6,7]) (.emit [.l 7,.at 8]),.bin .Add,.call 1,.s 5,cr 354,ci 2,.l 1,.at 0,.l 4,.l 5,.lst 0,.call 5,.s 3],.l 1,.at 11,.l 3,.sa 11,.l 1,.at 12,.l 3,.sa 12,.l 1,.at 13,.l 3,.sa 13,.l 3,.ret]
def n80:List Str:=nS ["cells","model","is_vertical"]
theorem f80(w:World):Fx w 687 (st 80) n80 [] false (qN "row_box") c80 [] [some 0,some 1,some 2,none,none,none]:=fxP "row_box" Se (.ref 686)
def c81:List IX:=[.l 1,.c .none,.cmp .Is,.ite [ci 0] [.l 1],.s 4,.l 0,.at 20,.ite [cr 354,ci 3,.l 3,.at 0,.l 4,.l 0,.at 8,.l 0,.at 9,.call 5,.s 5] [cr 354,ci 2,.l 4,.l 3,.at 7,.l 3,.at 8,.l 0,.at 9,.call 5,.s 5],cr 570,.l 0,.at 19,.l 2,cr 642,.l 0,.call 1,.bin .Sub,.call 2,.unp 4,.l 5,.sa 11,.l 5,.sa 12,.l 5,.sa 13,.s 6,.l 5,.ret]
def n81:List Str:=nS ["cell","width","size","row"]
theorem f81(w:World):Fx w 694 (st 81) n81 [] false (qN "set_cell") c81 [] [some 0,some 1,some 2,some 3,none,none,none]:=fxP "set_cell" Se (.ref 693)
def b82_2:List IX:=[.l 6,.at 9,.mg 26,cr 668,.l 1,.l 10,.gi,.l 5,.call 2,.call 2,.pop,.l 6,.at 9,.mg 26,cr 675,.l 1,.l 2,.l 10,.call 3,.call 2,.pop]
def b82_1:List IX:=[.l 7,.l 8,.at 18,.bin .Add,ci 1,.bin .Sub,.s 9,.l 6,.at 9,.mg 26,cr 694,.l 8,.l 1,.l 7,.gi,.l 4,ci 2,.l 9,.bin .Mult,ci 2,.bin .Add,.gi,.l 4,ci 2,.l 7,.bin .Mult,ci 1,.bin .Add,.gi,.bin .Sub,.l 6,.call 4,.call 2,.pop,.l 6,.at 9,.mg 26,cr 675,.l 1,.l 2,.l 7,.call 3,.call 2,.pop,.c (.typ "range"),.l 7,ci 1,.bin .Add,.l 9,ci 1,.bin .Add,.call 2,.forL (.v 10) b82_2]
def c82:List IX:=[cr 687,.l 0,.l 3,.l 5,.call 3,.s 6,.l 6,.at 9,.mg 26,cr 418,.l 2,ci 0,.gi,ci 109,.call 2,.call 2,.pop,.l 0,.forL (.t [7,8]) b82_1,.l 6,.ret]
def n82:List Str:=nS ["cells","sizes","skips","model","edges","is_vertical"]
theorem f82(w:World):Fx w 701 (st 82) n82 [] false (qN "set_row") c82 [] [some 0,some 1,some 2,some 3,some 4,some 5,none,none,none,none,none]:=fxP "set_row" Se (.ref 700)
def c83:List IX:=[.l 0,.at 0,.c .none,.cmp .Is,.ite [.l 1,.at 0] [.l 0,.at 0],.s 2,.l 0,.at 7,.c .none,.cmp .Is,.ite [.l 1,.at 7] [.l 0,.at 7],.s 3,cr 375,.l 2,.l 3,.l 0,.at 8,.c .none,.cmp .Is,.ite [.l 1,.at 8] [.l 0,.at 8],.call 3,.ret]
def n83:List Str:=nS ["rule","model"]
theorem f83(w:World):Fx w 708 (st 83) n83 [] false (qN "set_rule") c83 [] [some 0,some 1,none,none]:=fxP "set_rule" Se (.ref 707)
noncomputable def b84_2:List IX:=[.l 13,.at 20,.l 5,.cmp .NotEq,.ite [.rais 80] []]
def ZcQ:List IX:=[.c (.bi "isinstance"),.l 10,.c (.typ "list"),.call 2,.ite [cr 656,.l 10,.c (.bi "len"),.l 1,.call 1,.call 2,.s 11,.l 11,.forL (.t [12,13]) b84_2,.l 9,.mg 26,cr 701,.l 11,.l 1,.l 2,.l 6,.l 8,.l 5,.call 6,.call 2,.pop] [.l 10,.at 6,ci 4,.cmp .Eq,.ite [.l 9,.mg 26,cr 708,.l 10,.l 6,.call 2,.call 2,.pop] [.l 9,.mg 26,.l 10,.call 2,.pop]]]
def c84:List IX:=[cr 682,.l 1,.l 2,.l 3,.l 4,.l 5,.call 5,.unp 2,.s 6,.s 7,cr 598,.l 6,.call 1,.s 8,.lst 0,.s 9,.l 0,.forL (.v 10) ZcQ,.l 9,.l 7,.tup 2,.ret]
def n84:List Str:=nS ["rows","sizes","skips","mode","amount","is_vertical"]
theorem f84(w:World):Fx w 715 (st 84) n84 [] false (qN "finished") c84 [] [some 0,some 1,some 2,some 3,some 4,some 5,none,none,none,none,none,none,none,none]:=fxP "finished" Se (.ref 714)
def c86:List IX:=[.c (.bi "max"),ci 0,.l 0,ci 10,ci 18,.bin .Pow,.bin .Sub,.call 2,ci 2,.c (.bi "abs"),.l 0,.call 1,.bin .Mult,.c (.typ "int"),.l 0,ci 0,.cmp .Lt,.call 1,.bin .Add,.c (.bi "abs"),.l 1,.call 1,.bin .Add,ci 2147483629,.bin .Mod,ci 7,.bin .Add,.lst 2,.ret]
def n86:List Str:=nS ["cell","more"]
theorem f86(w:World):Fx w 722 (st 86) n86 [] false (qN "_law_box") c86 [] [some 0,some 1]:=fxP "_law_box" Sc (.ref 721)
def c87:List IX:=[.l 0,ci 0,.gi,ci 0,.cmp .Gt,.ite [.l 0,ci 0,.gi,.l 1,.bin .Mod,.s 2,.l 0,ci 0,.gi,.l 1,.bin .FloorDiv,.l 0,ci 0,.si,.l 2,.ret] [],.l 0,ci 1,.gi,ci 48271,.bin .Mult,ci 11,.bin .Add,ci 2147483647,.bin .Mod,.l 0,ci 1,.si,.l 0,ci 1,.gi,ci 16,.bin .FloorDiv,.l 1,.bin .Mod,.ret]
def n87:List Str:=nS ["box","many"]
theorem f87(w:World):Fx w 729 (st 87) n87 [] false (qN "_law_take") c87 [] [some 0,some 1,none]:=fxP "_law_take" Sc (.ref 728)
def c88:List IX:=[cr 729,.l 0,ci 30,.call 2,cr 729,.l 0,ci 50,.call 2,cr 729,.l 0,ci 20,.call 2,.tup 3,.unpR 3,.s 3,.s 2,.s 1,ci 0,ci 0,ci 0,ci 1,ci 2,ci 3,.lst 6,cr 729,.l 0,ci 6,.call 2,.gi,ci 0,ci 0,ci 0,ci 0,ci 1,ci 3,.lst 6,cr 729,.l 0,ci 6,.call 2,.gi,.tup 2,.unpR 2,.s 5,.s 4,cr 250,.l 1,.l 2,ci 40,.cmp .Gt,.ite [ci 40,.l 2,.bin .Sub] [.l 2],.l 4,.l 3,ci 15,.cmp .Gt,.ite [ci 15,.l 3,.bin .Sub] [.l 3],.l 5,.call 5,.ret]
def n88:List Str:=nS ["box"]
theorem f88(w:World):Fx w 736 (st 88) n88 [] false (qN "_law_flow") c88 [] [some 0,none,none,none,none,none]:=fxP "_law_flow" Sc (.ref 735)
def b89_1:List IX:=[cr 729,.l 0,ci 2,.call 2,ci 0,.cmp .Eq,.ite [cr 729,.l 0,ci 60,.call 2,ci 4,.bin .Sub,.s 7,.l 3,.mg 26,cr 396,.l 7,ci 1,.call 2,.call 2,.pop,.l 4,.mg 23,.l 7,.call 2,.pop] [cr 736,.l 0,.call 1,.s 8,.l 3,.mg 26,cr 418,.l 8,ci 0,.call 2,.call 2,.pop,.l 4,.mg 22,.l 8,.call 2,.pop,.l 8,.at 0,.s 7],.l 5,.l 7,.bin .Add,.s 5]
def c89:List IX:=[.lst 0,cr 313,.call 0,ci 0,.tup 3,.unpR 3,.s 5,.s 4,.s 3,.c (.typ "range"),ci 1,cr 729,.l 0,ci 3,.call 2,.bin .Add,.call 1,.forL (.v 6) b89_1,cr 729,.l 0,ci 9,.call 2,cr 729,.l 0,ci 4,.call 2,.tup 2,.unpR 2,.s 10,.s 9,.l 2,.ite [cr 461,.l 9,.l 5,.l 10,.l 3,.l 1,.l 4,.c (.bool true),.call 7,.ret] [],cr 461,.l 5,.l 9,.l 10,.l 3,.l 1,.l 4,.call 6,.ret]
def n89:List Str:=nS ["box","spans","upright"]
theorem f89(w:World):Fx w 743 (st 89) n89 [] false (qN "_law_cell") c89 [] [some 0,some 1,some 2,none,none,none,none,none,none,none,none]:=fxP "_law_cell" Sc (.ref 742)
def c90:List IX:=[.l 1,ci 0,.cmp .Eq,.ite [.c (.typ "range"),ci 3,.call 1,.comp (.v 3) (.emit [cr 729,.l 0,ci 2,.call 2,ci 0,.cmp .Eq,.ite [.c .none] [ci 1,cr 729,.l 0,ci 9,.call 2,.bin .Add]]),.s 2,cr 375,.l 2,ci 0,.gi,.l 2,ci 1,.gi,.l 2,ci 2,.gi,.call 3,.ret] [],.l 1,ci 1,.cmp .Eq,.ite [cr 439,cr 729,.l 0,ci 100,.call 2,.call 1] [cr 418,cr 250,ci 5,ci 1,.call 2,ci 0,.call 2],.ret]
def n90:List Str:=nS ["box","way"]
theorem f90(w:World):Fx w 748 (st 90) n90 [] false (qN "_law_other") c90 [0] [some 0,some 1,none]:=fxP "_law_other" Sc (.ref 747)
def b91_2:List IX:=[.l 6,.l 1,.cmp .Lt,.ite [.l 5,.lst 0,.cmp .Eq,.ite [.c (.bool true)] [cr 729,.l 0,ci 6,.call 2,ci 0,.cmp .Gt]] [.c (.bool false)],.ite [ci 1,cr 729,.l 0,ci 3,.call 2,ci 0,.cmp .Eq,.ite [cr 729,.l 0,.l 1,.l 6,.bin .Sub,.call 2] [ci 0],.bin .Add,.s 8,.l 5,.mg 26,cr 743,.l 0,.l 8,.l 2,.call 3,.call 2,.pop,.l 6,.l 8,.bin .Add,.s 6] []]
def b91_1:List IX:=[.lst 0,ci 0,.tup 2,.unpR 2,.s 6,.s 5,.c (.typ "range"),.l 1,.call 1,.forL (.v 7) b91_2,.l 3,.mg 26,.l 5,.call 2,.pop,cr 729,.l 0,ci 6,.call 2,.s 9,.l 9,ci 3,.cmp .Lt,.ite [.l 3,.mg 26,cr 748,.l 0,.l 9,.call 2,.call 2,.pop] []]
def c91:List IX:=[.lst 0,.s 3,.c (.typ "range"),ci 1,cr 729,.l 0,ci 4,.call 2,.bin .Add,.call 1,.forL (.v 4) b91_1,.l 3,.ret]
def n91:List Str:=nS ["box","columns","upright"]
theorem f91(w:World):Fx w 755 (st 91) n91 [] false (qN "_law_rows") c91 [] [some 0,some 1,some 2,none,none,none,none,none,none,none]:=fxP "_law_rows" Sc (.ref 754)
def c92:List IX:=[.l 0,.c .none,.cmp .Is,.ite [ci 0] [.l 0],.ret]
def n92:List Str:=nS ["size"]
theorem f92(w:World):Fx w 762 (st 92) n92 [] false (qN "_law_wide") c92 [] [some 0]:=fxP "_law_wide" Sc (.ref 761)
def b93_2:List IX:=[.l 6,.l 7,.at 18,.bin .Add,.s 8,.c (.bi "sum"),.c (.typ "range"),.l 6,.l 8,.call 2,.comp (.v 10) (.emit [cr 762,.l 1,.l 10,.gi,.call 1]),.call 1,.c (.bi "sum"),.c (.typ "range"),.l 6,ci 1,.bin .Add,.l 8,.call 2,.comp (.v 10) (.emit [.l 2,.l 10,.gi,.at 0]),.call 1,.bin .Add,.s 9,.l 4,.l 8,ci 1,.bin .Sub,.gi,.mg 26,.l 9,.l 3,.ite [.l 7,.at 7] [.l 7,.at 0],.bin .Sub,.call 2,.pop,.l 8,.s 6]
def b93_1:List IX:=[ci 0,.s 6,.l 5,.forL (.v 7) b93_2]
def c93:List IX:=[.l 1,.comp (.v 10) (.emit [.lst 0]),.s 4,.l 0,.comp (.v 10) (.cond [.c (.bi "isinstance"),.l 10,.c (.typ "list"),.call 2] (.emit [.l 10])),.forL (.v 5) b93_1,.l 4,.comp (.v 10) (.emit [.l 10,.lst 0,.cmp .Eq,.ite [.c .none] [.c (.bi "min"),.l 10,.call 1]]),.l 1,.comp (.v 10) (.emit [.l 10,.c .none,.cmp .Is,.ite [.c .none] [ci 0]]),.cmp .Eq,.ret]
def n93:List Str:=nS ["rows","sizes","flows","upright"]
theorem f93(w:World):Fx w 767 (st 93) n93 [] false (qN "_law_fits") c93 [1,2] [some 0,some 1,some 2,some 3,none,none,none,none,none,none]:=fxP "_law_fits" Sc (.ref 766)
def c94:List IX:=[ci 0,.l 1,.cmp .Lt,.ite [.l 0,ci 7230584,.cmp .LtE] [.c (.bool false)],.ite [ci 297,.l 0,.bin .Mult,.l 1,.bin .FloorDiv] [ci 1291],.s 2,.l 2,ci 1290,.cmp .Gt,.ite [ci 10000] [ci 2,.l 2,ci 3,.bin .Pow,.bin .Mult,ci 2,ci 18,.bin .Pow,.bin .Add,ci 2,ci 19,.bin .Pow,.bin .FloorDiv],.ret]
def n94:List Str:=nS ["excess","total"]
theorem f94(w:World):Fx w 774 (st 94) n94 [] false (qN "_law_bad") c94 [] [some 0,some 1,none]:=fxP "_law_bad" Sc (.ref 773)
def c95:List IX:=[.l 0,ci 0,.cmp .Gt,.ite [.l 1] [.l 2],.s 3,.c (.bi "max"),ci 0,.lst 1,.c (.typ "range"),ci 4,.call 1,.comp (.v 7) (.cond [.l 3,.l 7,.gi,ci 0,.cmp .NotEq] (.emit [.l 7])),.bin .Add,.call 1,.s 4,.l 3,.l 4,.gi,ci 0,ci 0,.tup 2,.tup 2,.unpR 2,.s 6,.s 5,.l 4,ci 0,.cmp .Eq,.ite [.l 0,ci 0,.cmp .Gt] [.c (.bool false)],.ite [ci 1,cr 774,.l 0,.l 5,.call 2,.tup 2,.s 6] [.l 4,ci 0,.cmp .Eq,.ite [.l 0,ci 0,.cmp .Lt] [.c (.bool false)],.ite [.l 5,.l 0,.neg,.cmp .Lt,.ite [ci 3,.l 0,.neg,.l 5,.bin .Sub,.tup 2] [ci 2,cr 774,.l 0,.neg,.l 5,.call 2,.tup 2],.s 6] []],.l 0,ci 0,.cmp .Eq,.ite [.c (.bool true)] [.l 5,ci 0,.cmp .Eq],.ite [ci 0,ci 0,ci 0,ci 1,.tup 2,.l 6,.tup 4,.ret] [],.l 6,ci 0,.gi,ci 3,.cmp .Eq,.ite [ci 2,ci 0,ci 1,ci 1,.tup 2,.l 6,.tup 4,.ret] [],.l 0,ci 0,.cmp .Gt,.ite [ci 1] [ci 2],.l 4,.l 5,ci 0,.cmp .Gt,.ite [.c (.bi "abs"),.l 0,.call 1,.l 5,.tup 2] [.c (.bi "abs"),.l 0,.call 1,.neg,.l 5,.neg,.tup 2],.l 6,.tup 4,.ret]
def n95:List Str:=nS ["excess","more","less"]
theorem f95(w:World):Fx w 779 (st 95) n95 [] false (qN "_law_told") c95 [3] [some 0,some 1,some 2,none,none,none,none]:=fxP "_law_told" Sc (.ref 778)
def c96:List IX:=[ci 2,.c (.bi "abs"),.l 0,.call 1,.bin .Mult,.l 1,.bin .Add,ci 2,.l 1,.bin .Mult,.bin .FloorDiv,.s 2,.l 0,ci 0,.cmp .Lt,.ite [.l 2,.neg] [.l 2],.ret]
def n96:List Str:=nS ["up","down"]
theorem f96(w:World):Fx w 786 (st 96) n96 [] false (qN "_law_near") c96 [] [some 0,some 1,none]:=fxP "_law_near" Sc (.ref 785)
def b97_1:List IX:=[.l 1,.l 6,.gi,.mg 21,.call 1,.unp 5,.s 7,.s 8,.s 9,.s 10,.s 11,.l 4,.l 7,.bin .Add,.s 4,.l 5,.l 2,ci 0,.gi,ci 1,.cmp .Eq,.ite [.l 9,.l 2,ci 1,.gi,.cmp .Eq] [.c (.bool false)],.ite [.l 8] [ci 0],.bin .Add,.l 2,ci 0,.gi,ci 2,.cmp .Eq,.ite [.l 11,.l 2,ci 1,.gi,.cmp .Eq] [.c (.bool false)],.ite [.l 10] [ci 0],.bin .Sub,.s 5,.l 3,.mg 26,.l 4,cr 786,.l 2,ci 2,.gi,ci 0,.gi,.l 5,.bin .Mult,.l 2,ci 2,.gi,ci 1,.gi,.call 2,.bin .Add,.call 2,.pop,.l 6,.c (.bi "len"),.l 0,.call 1,.cmp .Lt,.ite [.l 4,cr 762,.l 0,.l 6,.gi,.call 1,.bin .Add,.s 4,.l 3,.mg 26,.l 4,cr 786,.l 2,ci 2,.gi,ci 0,.gi,.l 5,.bin .Mult,.l 2,ci 2,.gi,ci 1,.gi,.call 2,.bin .Add,.call 2,.pop] []]
def c97:List IX:=[ci 0,.lst 1,ci 0,ci 0,.tup 3,.unpR 3,.s 5,.s 4,.s 3,.c (.typ "range"),.c (.bi "len"),.l 1,.call 1,.call 1,.forL (.v 6) b97_1,.l 3,.ret]
def n97:List Str:=nS ["sizes","flows","told"]
theorem f97(w:World):Fx w 793 (st 97) n97 [] false (qN "_law_edges") c97 [] [some 0,some 1,some 2,none,none,none,none,none,none,none,none,none]:=fxP "_law_edges" Sc (.ref 792)
def c98:List IX:=[cr 354,.l 0,.ite [ci 3] [ci 2],.l 1,ci 0,.gi,.l 1,ci 1,.gi,.l 1,ci 2,.gi,.l 2,.call 5,.s 4,.l 3,ci 0,.gi,.l 3,ci 1,.gi,.l 3,ci 2,.gi,.tup 3,.unp 3,.l 4,.sa 11,.l 4,.sa 12,.l 4,.sa 13,.l 4,.ret]
def n98:List Str:=nS ["upright","dims","items","told"]
theorem f98(w:World):Fx w 800 (st 98) n98 [] false (qN "_law_made") c98 [] [some 0,some 1,some 2,some 3,none]:=fxP "_law_made" Sc (.ref 799)
def b99_2:List IX:=[.l 16,.l 11,.cmp .Gt,.ite [cr 762,.l 1,.l 16,.gi,.call 1,.s 14,.l 10,.mg 26,.l 6,.ite [cr 354,ci 3,ci 0,.l 14,ci 0,.lst 0,.call 5] [cr 354,ci 2,.l 14,ci 0,ci 0,.lst 0,.call 5],.call 2,.pop] [],.l 10,.mg 26,cr 418,.l 2,.l 16,ci 1,.bin .Add,.gi,ci 109,.call 2,.call 2,.pop]
def b99_1:List IX:=[.l 11,.l 7,.at 18,.bin .Add,.s 12,.l 3,ci 2,.l 12,.bin .Mult,.gi,.l 3,ci 2,.l 11,.bin .Mult,ci 1,.bin .Add,.gi,.bin .Sub,.l 6,.ite [.l 7,.at 7] [.l 7,.at 0],.bin .Sub,.s 13,cr 762,.l 1,.l 11,.gi,.call 1,.s 14,.l 6,.ite [.l 8,.l 14,.l 7,.at 8,.tup 3] [.l 14,.l 8,.l 9,.tup 3],.s 15,.l 10,.mg 26,cr 800,.l 6,.l 15,.l 7,.at 9,cr 779,.l 13,.l 7,.at 19,.at 1,.l 7,.at 19,.at 3,.call 3,.call 4,.call 2,.pop,.c (.typ "range"),.l 11,.l 12,.call 2,.forL (.v 16) b99_2,.l 12,.s 11]
def c99:List IX:=[.c (.bi "max"),ci 0,.lst 1,.l 0,.comp (.v 17) (.emit [.l 6,.ite [.l 17,.at 0] [.l 17,.at 7]]),.bin .Add,.call 1,.s 8,.c (.bi "max"),ci 0,.lst 1,.l 0,.comp (.v 17) (.emit [.l 17,.at 8]),.bin .Add,.call 1,.s 9,cr 418,.l 2,ci 0,.gi,ci 109,.call 2,.lst 1,ci 0,.tup 2,.unpR 2,.s 11,.s 10,.l 0,.forL (.v 7) b99_1,cr 800,.l 6,.l 6,.ite [.l 8,.l 5,ci 0,.tup 3] [.l 5,.l 8,.l 9,.tup 3],.l 10,.l 4,.call 4,.ret]
def n99:List Str:=nS ["row","sizes","flows","edges","told","goal","upright"]
theorem f99(w:World):Fx w 805 (st 99) n99 [] false (qN "_law_row") c99 [6] [some 0,some 1,some 2,some 3,some 4,some 5,some 6,none,none,none,none,none,none,none,none,none,none]:=fxP "_law_row" Sc (.ref 804)
def ZcX:List IX:=[.c (.bi "isinstance"),.l 10,.c (.typ "list"),.call 2,.ite [.l 7,.mg 26,cr 805,.l 10,.l 1,.l 2,.l 6,.l 4,.l 3,.l 5,.call 7,.call 2,.pop] [.c (.bi "isinstance"),.l 10,cr 375,.call 2,.ite [.l 7,.mg 26,cr 375,.l 10,.at 0,.c .none,.cmp .Is,.ite [.l 8] [.l 10,.at 0],.l 10,.at 7,.c .none,.cmp .Is,.ite [.l 9] [.l 10,.at 7],cr 762,.l 10,.at 8,.call 1,.call 3,.call 2,.pop] [.l 7,.mg 26,.l 10,.call 2,.pop]]]
def c100:List IX:=[cr 793,.l 1,.l 2,.l 4,.call 3,.lst 0,.tup 2,.unpR 2,.s 7,.s 6,.l 5,.ite [ci 0,.l 3,.tup 2] [.l 3,ci 0,.tup 2],.unp 2,.s 8,.s 9,.l 0,.forL (.v 10) ZcX,cr 491,.l 7,.call 1,.ret]
def n100:List Str:=nS ["rows","sizes","flows","goal","told","upright"]
theorem f100(w:World):Fx w 812 (st 100) n100 [] false (qN "_law_due") c100 [] [some 0,some 1,some 2,some 3,some 4,some 5,none,none,none,none,none]:=fxP "_law_due" Sc (.ref 811)
def c101:List IX:=[cr 729,.l 0,ci 2,.call 2,cr 729,.l 0,ci 12,.call 2,.tup 2,.unpR 2,.s 4,.s 3,cr 729,.l 0,ci 200,.call 2,cr 729,.l 0,ci 100,.call 2,ci 65536,cr 729,.l 0,ci 90,.call 2,.bin .Mult,.tup 3,.unpR 3,.s 7,.s 6,.s 5,.l 4,ci 9,.cmp .Gt,.ite [.l 3,ci 2,.l 4,.bin .Mult,ci 21,.bin .Sub,ci 2,ci 30,.bin .Pow,.l 6,ci 3,.bin .Mod,.bin .Sub,.bin .Mult,.tup 2,.ret] [],ci 0,.l 5,.l 5,.l 6,.neg,.l 6,.neg,.l 2,.neg,.l 2,.neg,ci 1,.bin .Sub,.l 7,.l 7,.neg,ci 0,.lst 10,.l 4,.gi,.s 8,.l 3,.l 3,ci 1,.cmp .Eq,.ite [.l 8] [.l 1,.l 8,.bin .Add],.tup 2,.ret]
def n101:List Str:=nS ["box","own","less"]
theorem f101(w:World):Fx w 819 (st 101) n101 [] false (qN "_law_goal") c101 [] [some 0,some 1,some 2,none,none,none,none,none,none]:=fxP "_law_goal" Sc (.ref 818)
def c103:List IX:=[cr 491,.l 0,.comp (.v 1) (.loop [.c (.bi "isinstance"),.l 1,.c (.typ "list"),.call 2,.ite [.l 1] [.l 1,.lst 1]] (.v 2) (.emit [.l 2])),.call 1,.ret]
def n103:List Str:=nS ["rows"]
theorem f103(w:World):Fx w 831 (st 103) n103 [] false (qN "_law_flat") c103 [] [some 0]:=fxP "_law_flat" Sc (.ref 830)
def ZeD:List IX:=[cr 841,cr 722,.l 1,.l 2,.gi,.c (.bi "sum"),.l 0,ci 2,.slc true false,.call 1,.call 2,.l 2,ci 0,.cmp .Eq,.call 2,.not,.ite [.c (.bool false),.ret] []]
def c106:List IX:=[.l 0,.lst 0,.cmp .NotEq,.ite [.l 0,ci 2,.slc false true] [ci 10,ci 18,.bin .Pow,ci 764034081531817772133482578698397552128013564800002,.bin .Add,.lst 1],.s 1,.c (.typ "range"),.c (.bi "len"),.l 1,.call 1,.call 1,.forL (.v 2) ZeD,.c (.bool true),.ret]
def n106:List Str:=nS ["script"]
theorem f106(w:World):Fx w 848 (st 106) n106 [] false (qN "law") c106 [] [some 0,none,none]:=fxP "law" Sc (.ref 847)
section
section
variable(CK:CKT)(cel:List Nat)(t:Tg)(b:List IX)(k:List IX)(Q:Post)(cz:Bool)(n:Nat)
noncomputable def ForW:List V->List (Option V)->Led->Prop
 |[],l,μ=>l.length=n/\W CK cel k ⟨[],l,μ,cz⟩ Q
 |v::rest,l,μ=>l.length=n/\(∃l',BT t v l l')/\∀l',BT t v l l'->W CK cel b ⟨[],l',μ,cz⟩ { Q with nx:=λS0=>∃S'',St S0 S''/\S''.stk=[]/\S''.cz=cz/\ForW rest S''.l S''.μ }
end
noncomputable def Zb2(CK:CKT)(cel:List Nat)(t:Tg)(b:CB)(cz:Bool)(Kp:List V->Led->Prop):List V->List V->Led->List (Option V)->Prop
 |[],acc,μ,_=>Kp acc μ
 |v::rest,acc,μ,l=>(∃l',BT t v l l')/\∀l',BT t v l l'->acc.length<2^20/\WC CK cel b l' cz μ acc (λμ' acc' l''=>Zb2 CK cel t b cz Kp rest acc' μ' l'')
section
variable{CK:CKT}{cel:List Nat}{Q:Post}{cz:Bool}{μ:Led}{l:List (Option V)}{t:Tg}{b k:List IX}{c:CB}{r:List V}{it:V}{items:List V}
theorem Zar(hi:Items it items)(hc:cz=false\/∀i∈t.ixs,i∉cel)(h:ForW CK cel t b k Q cz l.length items l μ):W CK cel (.forL t b::k) ⟨[it],l,μ,cz⟩ Q:=by
 refine w_for hi hc (ForW CK cel t b k Q cz l.length) h (λv rest l1 μ1 l' hI hb=>?_) (λv rest l1 μ1 hI=>?_) λl1 μ1 hI=>?_
 ·exact hI.2.2 l' hb
 ·exact⟨hI.1,hI.2.1⟩
 ·exact hI
theorem Zbg(hi:Items it items)(h:Zb2 CK cel t c cz (λacc μ'=>W CK cel k ⟨.lst acc::r,l,μ',cz⟩ Q) items [] μ l):W CK cel (.comp t c::k) ⟨it::r,l,μ,cz⟩ Q:=by
 refine w_comp hi (λrest acc μ' l'=>Zb2 CK cel t c cz (λacc μ'=>W CK cel k ⟨.lst acc::r,l,μ',cz⟩ Q) rest acc μ' l') h (λv rest acc μ1 l1 hI=>hI) λacc μ1 l1 hI=>hI
theorem BT.vEq{i:Nat}{x:V}{l l':List (Option V)}(h:BT (.v i) x l l'):i<l.length/\l'=l.set i (some x):=by cases h;exact⟨by assumption,rfl⟩
theorem BT.tEq{is:List Nat}{x:V}{l l':List (Option V)}(h:BT (.t is) x l l'):∃vs,x=.tup vs/\is.length=vs.length/\l'=ZbJ is vs l:=by cases h;exact⟨_,rfl,by assumption,rfl⟩
theorem ZaA{n:Nat}(hl:l.length=n)(h:W CK cel k ⟨[],l,μ,cz⟩ Q):ForW CK cel t b k Q cz n [] l μ:=⟨hl,h⟩
theorem Zbb{n i:Nat}{v:V}{rest:List V}(hl:l.length=n)(hi:i<l.length)(h:W CK cel b ⟨[],l.set i (some v),μ,cz⟩ { Q with nx:=λS0=>∃S'',St S0 S''/\S''.stk=[]/\S''.cz=cz/\ForW CK cel (.v i) b k Q cz n rest S''.l S''.μ }) :
  ForW CK cel (.v i) b k Q cz n (v::rest) l μ:=⟨hl,⟨_,.v hi⟩,λl' hb=>by obtain⟨J,rfl⟩:=hb.vEq;exact h⟩
theorem forConsT{n:Nat}{is:List Nat}{vs rest:List V}(hl:l.length=n)(hi:∀i∈is,i<l.length)(hv:is.length=vs.length)(h:W CK cel b ⟨[],ZbJ is vs l,μ,cz⟩ { Q with nx:=λS0=>∃S'',St S0 S''/\S''.stk=[]/\S''.cz=cz/\ForW CK cel (.t is) b k Q cz n rest S''.l S''.μ }) :
  ForW CK cel (.t is) b k Q cz n (.tup vs::rest) l μ:=⟨hl,⟨_,.t hv hi⟩,λl' hb=>by obtain⟨us,e,J,rfl⟩:=hb.tEq;cases e;exact h⟩
theorem Zdz{n:Nat}{rest:List V}{t:Tg}(h:ForW CK cel t b k Q cz n rest l μ):W CK cel [] ⟨[],l,μ,cz⟩ { Q with nx:=λS0=>∃S'',St S0 S''/\S''.stk=[]/\S''.cz=cz/\ForW CK cel t b k Q cz n rest S''.l S''.μ }:=Zad ⟨_,.refl,rfl,rfl,h⟩
theorem ZaI{i:Nat}{c:List IX}(f:V->V)(hi:Items it items)(hl:i<l.length)(hn:items.length<2^20)(hb:∀v∈items,W CK cel c ⟨[],l.set i (some v),μ,cz⟩ ⟨λS=>S=⟨[f v],l.set i (some v),μ,cz⟩,λJ J=>False,λJ=>False⟩)
  (h:W CK cel k ⟨.lst (items.map f)::r,l,μ,cz⟩ Q):W CK cel (.comp (.v i) (.emit c)::k) ⟨it::r,l,μ,cz⟩ Q:=by
 refine Zbg hi ?_;have key:∀(rest done:List V) (l':List (Option V)),items=done++rest->(l'=l\/∃x,l'=l.set i x)->Zb2 CK cel (.v i) (.emit c) cz (λacc μ'=>W CK cel k ⟨.lst acc::r,l,μ',cz⟩ Q) rest (done.map f) μ l':=by
  intro rest;induction rest with
  |nil=>intro done l' e J;rw[append_nil] at e;subst e;exact h
  |cons v rest ih =>
   intro done l' e hl';have hlen:i<l'.length:=by rcases hl' with rfl|⟨x,rfl⟩<;>simpa using hl
   have e1:l'.set i (some v)=l.set i (some v):=by rcases hl' with rfl|⟨x,rfl⟩<;>simp
   refine⟨⟨_,.v hlen⟩,λl2 hb2=>?_⟩;obtain⟨J,rfl⟩:=hb2.vEq;rw[e1];refine⟨by rw[length_map];rw[e] at hn;simp at hn;lia,?_⟩;have hw:=hb v (by rw[e];simp);have nxt:=ih (done++[v]) (l.set i (some v)) (by rw[e];simp) (.inr ⟨_,rfl⟩);rw[map_append] at nxt;refine hw.up ⟨λS hS=>?_,λJ J q=>q,λJ q=>q⟩;cases (hS:S=⟨[f v],l.set i (some v),μ,cz⟩);exact⟨_,.refl,_,rfl,rfl,nxt⟩
 simpa using key items [] l rfl (.inl rfl)
end
section
variable{G:Gl}{n:Nat}{f:V}{vs:List V}{μ:Led}{E:Addr->Prop}{C:Addr}{fs:List (Nat×V)}
theorem frzCall(h:CallOK G n f vs μ (λv μ'=>∃a dx,v=.ref a/\μ'=(a,.ins C dx fs)::μ) E):CallOK G n f vs μ (λv μ'=>v=.ins C fs/\μ'=μ) E:=by
 intro A envs fro h₀ fz mu fv ws s hA hh hd hu hn hfro hst habv hne I RL zf zs o1 o2;refine wpAny_mono (h A envs fro h₀ fz mu fv ws s hA hh hd hu hn hfro hst habv hne I RL zf zs o1 o2) (λv s' q=>?_) λJ J q=>q
 obtain⟨v',μ',fz',mu',⟨a,dx,rfl,rfl⟩,I,RL,z,o1,o2⟩:=q;obtain⟨es,cnt,mu2,rfl,hf,RL⟩:=RL.inv;cases z.inv;have I':Inv G (Zap h₀ fro fz) ([(a,instObj C dx),(dx,dictOf es cnt)]++fz') ([]++mu2) s'.heap:=Inv.frz (m1:=[]) (q:=[(a,instObj C dx),(dx,dictOf es cnt)]) (m2:=mu2) I;have sb:∀p∈fz',p∈[(a,instObj C dx),(dx,dictOf es cnt)]++fz':=λJ hp=>mem_append_right _ hp
 exact⟨.ins C fs,μ,_,mu2,⟨rfl,rfl⟩,I',RL.mono sb,.ins (.head _) (.tail _ (.head _)) (hf.mono sb),o1,o2⟩
theorem Za8{fI:Addr}(hC:(C,fI)∈clsI)(hn:n+1<900)(h:∀a dx,CodeOK G (n+1) fI (.ref a::vs) ((a,.ins C dx [])::μ) (λv μ'=>v=.none/\μ'=(a,.ins C dx fs)::μ) (λJ=>False)):Zb9 G n (.ref C) vs μ (.ins C fs) :=
 (frzCall (Zdi hC hn λa dx=>(h a dx).mono λv μ' q=>⟨q.1,a,dx,rfl,q.2⟩)).x
end
section
variable{CK:CKT}{cel:List Nat}{k a b:List IX}{S:Sg}{Q:Post}{n:Nat}{op:CmpOp}{bp:Operator}
end
section
variable{CK:CKT}{cel:List Nat}{Q:Post}{cz:Bool}{μ:Led}{l:List (Option V)}{k:List IX}{r:List V}
theorem w_saH{j:Nat}{a C dx:Addr}{v:V}{fs:List (Nat×V)}{μ μ':Led}(u:LU a (.ins C dx fs) (.ins C dx (fput j v fs)) μ μ')(hC:C∈insK)(hj:j<21)(hf:fs.length<900)(h:W CK cel k ⟨r,l,μ',cz⟩ Q):W CK cel (.sa j::k) ⟨.ref a::v::r,l,μ,cz⟩ Q:=w_sa hC hj hf u h
end
end
section
/-! a run of plain steps,by evaluation -/
noncomputable def lkS:List (Option V)->Nat->Option V
 |[],_=>none
 |o::_,0=>o
 |_::r,i+1=>lkS r i
noncomputable def stS:List (Option V)->Nat->V->Option (List (Option V))
 |[],_,_=>none
 |_::r,0,v=>some (some v::r)
 |o::r,i+1,v=>(stS r i v).bind λt=>some (o::t)
noncomputable def apI:List IX->List IX->Option (List IX)
 |[],k=>some k
 |x::r,k=>(apI r k).bind λt=>some (x::t)
noncomputable def lkF:List (Nat×V)->Nat->Option V
 |[],_=>none
 |(k,v)::r,j=>cond (Nat.beq j k) (some v) (lkF r j)
noncomputable def ptF:List (Nat×V)->Nat->V->Option (List (Nat×V))
 |[],j,v=>some [(j,v)]
 |(k,u)::r,j,v=>cond (Nat.beq j k) (some ((k,v)::r)) ((ptF r j v).bind λt=>some ((k,u)::t))
noncomputable def gtM:Led->Nat->Option (Addr×AO)
 |[],_=>none
 |p::_,0=>some p
 |_::r,i+1=>gtM r i
noncomputable def stM:Led->Nat->AO->Option Led
 |[],_,_=>none
 |(a,_)::r,0,o=>some ((a,o)::r)
 |p::r,i+1,o=>(stM r i o).bind λt=>some (p::t)
noncomputable def tkR:Nat->List V->List V->Option (List V×List V)
 |0,r,acc=>some (acc,r)
 |n+1,v::r,acc=>tkR n r (v::acc)
 |_+1,[],_=>none
noncomputable def apN:Nat->List V->List V->Option (List V)
 |0,vs,r=>match vs with|[]=>some r|_::_=>none
 |n+1,vs,r=>match vs with|[]=>none|v::vs=>(apN n vs r).bind λt=>some (v::t)
noncomputable def rvN:Nat->List V->List V->Option (List V)
 |0,vs,r=>match vs with|[]=>some r|_::_=>none
 |n+1,vs,r=>match vs with|[]=>none|v::vs=>rvN n vs (v::r)
noncomputable def gtV:List V->Nat->Option V
 |[],_=>none
 |v::_,0=>some v
 |_::r,i+1=>gtV r i
noncomputable def memN:Nat->List Nat->Bool
 |_,[]=>false
 |a,b::r=>cond (Nat.beq a b) true (memN a r)
noncomputable def shF:List (Nat×V)->Nat->Bool
 |_,0=>false
 |[],_+1=>true
 |_::r,n+1=>shF r n
def szB(cz:Bool)(cel:List Nat)(i:Nat):Bool:=cond cz (!memN i cel) true
noncomputable def bt{α:Type}(b:Bool)(x:Option α):Option α:=match b with|true=>x|false=>none
noncomputable def un1{α:Type}(r:List V)(f:V->List V->Option α):Option α:=match r with|a::r=>f a r|[]=>none
noncomputable def asI{α:Type}(v:V)(f:Int->Option α):Option α:=match v with|.int i=>f i|_=>none
noncomputable def asB{α:Type}(v:V)(f:Bool->Option α):Option α:=match v with|.bool i=>f i|_=>none
noncomputable def asT{α:Type}(v:V)(f:List V->Option α):Option α:=match v with|.tup i=>f i|_=>none
noncomputable def asO{α:Type}(v:V)(f:Nat->List (Nat×V)->Option α)(g:Nat->Option α):Option α:=match v with|.ins C fs=>f C fs|.ref a=>g a|_=>none
noncomputable def asS{α:Type}(v:V)(f:List V->Option α):Option α:=match v with|.tup i=>f i|.lst i=>f i|_=>none
noncomputable def atL{α:Type}(μ:Led)(h:Nat)(f:Nat->Nat->Nat->List (Nat×V)->Option α):Option α:=match gtM μ h with|some (b,.ins C dx fs)=>f b C dx fs|_=>none
def atV(C j:Nat)(fs:List (Nat×V)):Option V:=bt (memN C insK) (match lkF fs j with
  |some v=>bt (Nat.blt j 21) (bt v.nb (some v))
  |none=>clsK C j)
def binV(h:Nat)(op:Operator)(a b:Int):Option (Bool×Int):=match op with
 |.Add=>some (false,a+b)
 |.Sub=>some (false,a-b)
 |.Mult=>match h with
  |0=>bt (Nat.blt a.natAbs 18446744073709551616) (some (true,a*b))
  |_+1=>bt (Nat.blt b.natAbs 18446744073709551616) (some (true,a*b))
 |_=>none
noncomputable def bop(b x y:Bool):Option Bool:=match b with|true=>some x|false=>some y
def cmpV(op:CmpOp)(a b:V):Option Bool:=match b with
 |.none=>match op with
  |.Is=>bop a.isNone true false
  |.IsNot=>bop a.isNone false true
  |_=>none
 |.int b=>asI a λa=>icmp op a b
 |_=>none
noncomputable def tw(f:List V)(x:V):Option (V×V):=some (.tup f,x)
def blv1(h:Nat)(a:Int):Option (V×V):=match h with
 |0=>tw [.bi "abs",.int a] (.int (if a<0 then -a else a))
 |_+1=>tw [.typ "range",.int a] (.rng 0 a)
def blvI(h:Nat)(a:Int)(b:V):Option (V×V):=match h with
 |0=>tw [.bi "isinstance",.int a,.typ "int"] (.bool true)
 |1=>tw [.bi "isinstance",.int a,.typ "bool"] (.bool false)
 |2=>asI b λb=>tw [.bi "max",.int a,.int b] (.int (max a b))
 |_+3=>asI b λb=>tw [.typ "range",.int a,.int b] (.rng a b)
def blvC(h:Nat)(C:Nat)(fs:List (Nat×V))(b:V):Option (V×V):=match h with
 |0=>bt (memN C insK) (tw [.bi "isinstance",.ins C fs,.typ "list"] (.bool false))
 |_+1=>bt (memN C insK) (asO b (λz z=>none) λD=>bt (memN D insK) ((bop (Nat.beq C D) true false).bind λx=>tw [.bi "isinstance",.ins C fs,.ref D] (.bool x)))
def blv2(h:Nat)(a b:V):Option (V×V):=match a with
 |.int a=>blvI h a b
 |.lst us=>tw [.bi "isinstance",.lst us,.typ "list"] (.bool true)
 |.ins C fs=>blvC h C fs b
 |_=>none
def bltV(h:Nat)(vs:List V):Option (V×V):=match vs with
 |[a]=>asI a (blv1 h)
 |[a,b]=>blv2 h a b
 |_=>none
structure SRu where
 u:Bool
 e:Option (V×V)
 k:List IX
 r:List V
 l:List (Option V)
 μ:Led
section
variable(cel:List Nat)(cz:Bool)
def op2(f:V->V->Option (Bool×V))(k:List IX)(r:List V)(l:List (Option V))(μ:Led):Option SRu:=un1 r λb r=>un1 r λa r=>(f a b).bind λ(u,c)=>some ⟨u,none,k,c::r,l,μ⟩
def op1(f:V->Option V)(k:List IX)(r:List V)(l:List (Option V))(μ:Led):Option SRu:=un1 r λa r=>(f a).bind λc=>some ⟨false,none,k,c::r,l,μ⟩
def stp(h:Nat)(i:IX)(k:List IX)(r:List V)(l:List (Option V))(μ:Led):Option SRu:=match i with
 |.c v=>some ⟨false,none,k,v::r,l,μ⟩
 |.l i=>(lkS l i).bind λv=>some ⟨false,none,k,v::r,l,μ⟩
 |.s i=>un1 r λv r=>bt (szB cz cel i) ((stS l i v).bind λl=>some ⟨false,none,k,r,l,μ⟩)
 |.at j=>un1 r λo r=>asO o (λC fs=>(atV C j fs).bind λv=>some ⟨false,none,k,v::r,l,μ⟩) λa =>
   atL μ h λb C z fs=>(atV C j fs).bind λv=>some ⟨true,some (.ref a,.ref b),k,v::r,l,μ⟩
 |.sa j=>un1 r λo r=>un1 r λv r=>asO o (λz z=>none) λa=>atL μ h λb C dx fs =>
   bt (memN C insK) (bt (Nat.blt j 21) (bt (shF fs 900) ((ptF fs j v).bind λfs'=>(stM μ h (.ins C dx fs')).bind λμ=>some ⟨true,some (.ref a,.ref b),k,r,l,μ⟩)))
 |.gi=>op2 (λo ix=>asI ix λi=>match i with
   |.ofNat m=>bt (Nat.blt m 1073741824) (asS o λvs=>(gtV vs m).bind λv=>some (false,v))
   |.negSucc _=>none) k r l μ
 |.bin op=>op2 (λa b=>asI b λb=>asI a λa=>(binV h op a b).bind λ(u,c)=>some (u,.int c)) k r l μ
 |.iadd=>op2 (λa b=>asI b λb=>asI a λa=>some (false,.int (a+b))) k r l μ
 |.neg=>op1 (λa=>asI a λa=>some (.int (-a))) k r l μ
 |.not=>op1 (λa=>asB a λa=>some (.bool (!a))) k r l μ
 |.cmp op=>op2 (λa b=>(cmpV op a b).bind λc=>some (false,.bool c)) k r l μ
 |.ite a b=>un1 r λx r=>asB x λx=>match x with
   |true=>(apI a k).bind λk=>some ⟨false,none,k,r,l,μ⟩
   |false=>(apI b k).bind λk=>some ⟨false,none,k,r,l,μ⟩
 |.tup n=>(tkR n r []).bind λ(vs,r)=>some ⟨false,none,k,.tup vs::r,l,μ⟩
 |.call n=>(tkR n r []).bind λ(vs,r)=>un1 r λf r=>(bltV h vs).bind λ(x,v)=>some ⟨true,some (.tup (f::vs),x),k,v::r,l,μ⟩
 |.pop=>un1 r λz r=>some ⟨false,none,k,r,l,μ⟩
 |.unp n=>un1 r λo r=>asT o λvs=>(apN n vs r).bind λr=>some ⟨false,none,k,r,l,μ⟩
 |.unpR n=>un1 r λo r=>asT o λvs=>(rvN n vs r).bind λr=>some ⟨false,none,k,r,l,μ⟩
 |_=>none
structure RRu where
 e1:List V
 e2:List V
 k:List IX
 r:List V
 l:List (Option V)
 μ:Led
noncomputable def run:Nat->List Nat->List V->List V->List IX->List V->List (Option V)->Led->Option RRu
 |0,_,e1,e2,k,r,l,μ=>some ⟨e1,e2,k,r,l,μ⟩
 |_+1,_,_,_,[],_,_,_=>none
 |n+1,hs,e1,e2,i::k,r,l,μ=>(stp cel cz (hs.headD 0) i k r l μ).bind λ⟨u,e,k,r,l,μ⟩=>match e with
   |none=>match u with
    |false=>run n hs e1 e2 k r l μ
    |true=>run n hs.tail e1 e2 k r l μ
   |some (x,y)=>run n hs.tail (x::e1) (y::e2) k r l μ
end
section
variable{α β:Type}{y:α}
theorem no_e{P:Prop}(h:(none:Option α)=some y):P:=nomatch h
theorem bi_e{P:Prop}{x:Option β}{f:β->Option α}(h:x.bind f=some y)(K:∀a,x=some a->f a=some y->P):P:=by
 cases x with
 |none=>exact no_e h
 |some a=>exact K a rfl h
theorem so_e{P:α->Prop}{x:α}(h:some x=some y)(K:P x):P y:=Option.some.inj h▸K
theorem bt_e{P:Prop}{b:Bool}{x:Option α}(h:bt b x=some y)(K:b=true->x=some y->P):P:=by
 cases b with
 |false=>exact no_e h
 |true=>exact K rfl h
theorem un1_e{r:List V}{P:List V->Prop}{f:V->List V->Option α}(h:un1 r f=some y)(K:∀a t,f a t=some y->P (a::t)):P r:=by
 cases r with
 |nil=>exact no_e h
 |cons a t=>exact K a t h
theorem Zd4{v:V}{P:V->Prop}{f:Int->Option α}(h:asI v f=some y)(K:∀i,f i=some y->P (.int i)):P v:=by
 cases v<;>first|exact K _ h|exact no_e h
theorem asB_e{v:V}{P:V->Prop}{f:Bool->Option α}(h:asB v f=some y)(K:∀i,f i=some y->P (.bool i)):P v:=by
 cases v<;>first|exact K _ h|exact no_e h
theorem asT_e{v:V}{P:V->Prop}{f:List V->Option α}(h:asT v f=some y)(K:∀i,f i=some y->P (.tup i)):P v:=by
 cases v<;>first|exact K _ h|exact no_e h
theorem asO_e{v:V}{P:V->Prop}{f:Nat->List (Nat×V)->Option α}{g:Nat->Option α}(h:asO v f g=some y)(K:∀C fs,f C fs=some y->P (.ins C fs))(L:∀a,g a=some y->P (.ref a)):P v:=by
 cases v<;>first|exact K _ _ h|exact L _ h|exact no_e h
theorem asS_e{v:V}{P:V->Prop}{f:List V->Option α}(h:asS v f=some y)(K:∀i,f i=some y->P (.tup i))(L:∀i,f i=some y->P (.lst i)):P v:=by
 cases v<;>first|exact K _ h|exact L _ h|exact no_e h
theorem atL_e{μ:Led}{i:Nat}{P:Prop}{f:Nat->Nat->Nat->List (Nat×V)->Option α}(h:atL μ i f=some y)(K:∀b C dx fs,gtM μ i=some (b,.ins C dx fs)->f b C dx fs=some y->P):P:=by
 unfold atL at h;cases q:gtM μ i with
 |none=>rw[q] at h;exact no_e h
 |some p =>
  rw[q] at h;obtain⟨b,o⟩:=p;cases o with
  |list=>exact no_e h
  |ins C dx fs=>exact K b C dx fs q h
end
theorem lkS_ok:∀{l:List (Option V)}{i:Nat}{v:V},lkS l i=some v->l[i]?=some (some v)
 |[],_,_,h=>no_e h
 |_::_,0,_,h=>congrArg some h
 |_::r,i+1,_,h=>lkS_ok (l:=r) h
theorem stS_ok{v:V}{t:List (Option V)}{l:List (Option V)}{i:Nat}(h:stS l i v=some t):i<l.length/\t=l.set i (some v):=by
 induction l generalizing i t with
 |nil=>exact no_e h
 |cons o l ih =>
  cases i with
  |zero=>exact so_e (P:=λt=>0<l.length+1/\t=some v::l) h ⟨Nat.succ_pos _,rfl⟩
  |succ i=>exact bi_e h λu e h=>so_e (P:=λt=>i+1<l.length+1/\t=o::l.set i (some v)) h ⟨Nat.succ_lt_succ (ih e).1,congrArg (o::·) (ih e).2⟩
theorem Zgb{k t a:List IX}(h:apI a k=some t):t=a++k:=by
 induction a generalizing t with
 |nil=>exact(Option.some.inj h).symm
 |cons x a ih=>exact bi_e h λu e h=>so_e (P:=λt=>t=x::(a++k)) h (congrArg (x::·) (ih e))
theorem beq_N{j k:Nat}:(j==k)=Nat.beq j k:=by rw[Bool.eq_iff_iff,beq_iff_eq,Nat.beq_eq]
theorem lkF_eq{j:Nat}{fs:List (Nat×V)}:lkF fs j=fs.lookup j:=by
 induction fs with
 |nil=>rfl
 |cons p r ih =>
  rw[lookup_cons,beq_N,<- ih];show cond (Nat.beq j p.1) _ _=_;cases Nat.beq j p.1<;>rfl
theorem ptF_eq{j:Nat}{v:V}{fs:List (Nat×V)}:ptF fs j v=some (fput j v fs):=by
 induction fs with
 |nil=>rfl
 |cons p r ih =>
  show cond (Nat.beq j p.1) (some ((p.1,v)::r)) ((ptF r j v).bind λt=>some (p::t))=some (if j=p.1 then(p.1,v)::r else p::fput j v r);rw[ih];cases e:Nat.beq j p.1 with
  |true=>rw[if_pos (Nat.eq_of_beq_eq_true e)];rfl
  |false=>rw[if_neg (Nat.ne_of_beq_eq_false e)];rfl
theorem gtM_ok:∀{μ:Led}{i:Nat}{p:Addr×AO},gtM μ i=some p->p∈μ
 |[],_,_,h=>no_e h
 |_::_,0,_,h=>Option.some.inj h▸.head _
 |_::r,i+1,_,h=>.tail _ (gtM_ok (μ:=r) h)
theorem stM_ok{p:Addr×AO}{o:AO}{t μ:Led}{i:Nat}(h:gtM μ i=some p)(k:stM μ i o=some t):LU p.1 p.2 o μ t:=by
 induction μ generalizing i t with
 |nil=>exact no_e h
 |cons q μ ih =>
  cases i with
  |zero=>exact so_e (P:=λp=>LU p.1 p.2 o (q::μ) t) h (so_e (P:=λt=>LU q.1 q.2 o (q::μ) t) k .head)
  |succ i=>exact bi_e k λu e k=>so_e (P:=λt=>LU p.1 p.2 o (q::μ) t) k (.tail (ih h e))
theorem ZdM{n:Nat}{r:List V}{p:List V×List V}(h:tkR n r []=some p):r=p.1.reverse++p.2/\p.1.length=n:=by
 have key:∀{n:Nat}{r acc:List V},tkR n r acc=some p->acc.reverse++r=p.1.reverse++p.2/\p.1.length=n+acc.length:=by
  intro n;induction n with
  |zero=>intro r acc h;exact so_e (P:=λp=>acc.reverse++r=p.1.reverse++p.2/\p.1.length=0+acc.length) h ⟨rfl,(Nat.zero_add _).symm⟩
  |succ n ih =>
   intro r acc h;cases r with
   |nil=>exact no_e h
   |cons v r =>
    have q:=ih h;rw[List.reverse_cons,append_assoc] at q;exact⟨q.1,q.2.trans (Nat.succ_add_eq_add_succ n _).symm⟩
 exact key h
theorem apN_ok{r t:List V}{n:Nat}{vs:List V}(h:apN n vs r=some t):vs.length=n/\t=vs++r:=by
 induction n generalizing vs t with
 |zero=>cases vs with
  |nil=>exact⟨rfl,(Option.some.inj h).symm⟩
  |cons=>exact no_e h
 |succ n ih=>cases vs with
  |nil=>exact no_e h
  |cons v vs=>exact bi_e h λu e h=>so_e (P:=λt=>vs.length+1=n+1/\t=v::(vs++r)) h ⟨congrArg _ (ih e).1,congrArg (v::·) (ih e).2⟩
theorem rvN_ok{t:List V}{n:Nat}{vs r:List V}(h:rvN n vs r=some t):vs.length=n/\t=vs.reverse++r:=by
 induction n generalizing vs r with
 |zero=>cases vs with
  |nil=>exact⟨rfl,(Option.some.inj h).symm⟩
  |cons=>exact no_e h
 |succ n ih=>cases vs with
  |nil=>exact no_e h
  |cons v vs=>have q:=ih h;exact⟨congrArg _ q.1,by rw[q.2,List.reverse_cons,append_assoc];rfl⟩
theorem gtV_eq:∀{vs:List V}{m:Nat},gtV vs m=vs[m]?
 |[],_=>rfl
 |_::_,0=>rfl
 |_::r,i+1=>gtV_eq (vs:=r) (m:=i)
theorem memN_iff{a:Nat}{l:List Nat}:memN a l=true↔a∈l:=by
 induction l with
 |nil=>exact iff_of_false (λh=>nomatch h) List.not_mem_nil
 |cons b r ih =>
  rw[mem_cons,<- ih,<- Nat.beq_eq];show cond (Nat.beq a b) true (memN a r)=true↔_;cases Nat.beq a b<;>simp
theorem Zb7{a:Nat}{l:List Nat}(h:memN a l=true):a∈l:=memN_iff.mp h
theorem shF_ok:∀{fs:List (Nat×V)}{n:Nat},shF fs n=true->fs.length<n
 |[],_+1,_=>Nat.succ_pos _
 |_::r,n+1,h=>Nat.succ_lt_succ (shF_ok (fs:=r) h)
theorem szB_ok{cz:Bool}{cel:List Nat}{i:Nat}(h:szB cz cel i=true):cz=false\/i∉cel:=by
 cases cz with
 |false=>exact .inl rfl
 |true=>exact .inr λq=>by rw[<- memN_iff] at q;have h:(!memN i cel)=true:=h;rw[q] at h;cases h
theorem bop_ok{b x:Bool}(h:bop b true false=some x):x=b:=by cases b<;>cases h<;>rfl
theorem bop_no{b x:Bool}(h:bop b false true=some x):x=!b:=by cases b<;>cases h<;>rfl
theorem atV_e{C j:Nat}{fs:List (Nat×V)}{v:V}{P:Prop}(h:atV C j fs=some v)(K:C∈insK->j<21->fs.lookup j=some v->v.nb=true->P)(L:C∈insK->fs.lookup j=none->clsK C j=some v->P):P :=
 bt_e h λa h=>by
  rw[lkF_eq] at h;cases e:fs.lookup j with
  |none=>rw[e] at h;exact L (Zb7 a) e h
  |some u=>rw[e] at h;exact bt_e h λb h=>bt_e h λc h=>K (Zb7 a) (Nat.le_of_ble_eq_true b) (e.trans h) (Option.some.inj h▸c)
theorem atV_pi{C j:Nat}{fs:List (Nat×V)}{v:V}{μ:Led}(h:atV C j fs=some v):RA μ (.ins C fs) j v:=atV_e h .pi .pc
theorem atV_mi{C dx j:Nat}{a:Addr}{fs:List (Nat×V)}{v:V}{μ:Led}(m:(a,AO.ins C dx fs)∈μ)(h:atV C j fs=some v):RA μ (.ref a) j v:=atV_e h (λq b=>.mi q b m) λq=>.mc q m
theorem binV_ok{h:Nat}{op:Operator}{a b:Int}{p:Bool×Int}(e:binV h op a b=some p):BV op (.int a) (.int b) (.int p.2):=by
 cases op<;>first|exact no_e e|skip
 ·exact so_e (P:=λp:Bool×Int=>BV .Add (.int a) (.int b) (.int p.2)) e .add
 ·exact so_e (P:=λp:Bool×Int=>BV .Sub (.int a) (.int b) (.int p.2)) e .sub
 ·cases h with
  |zero=>exact bt_e e λq e=>so_e (P:=λp:Bool×Int=>BV .Mult (.int a) (.int b) (.int p.2)) e (.mul (.inl (Nat.le_of_ble_eq_true q)))
  |succ=>exact bt_e e λq e=>so_e (P:=λp:Bool×Int=>BV .Mult (.int a) (.int b) (.int p.2)) e (.mul (.inr (Nat.le_of_ble_eq_true q)))
theorem cmpV_ok{op:CmpOp}{a b:V}{c:Bool}{μ:Led}(e:cmpV op a b=some c):CV μ op a b c:=by
 cases b<;>first|exact no_e e|skip
 ·cases op<;>first|exact no_e e|skip
  ·rw[bop_ok e];exact .isN
  ·rw[bop_no e];exact .isNN
 ·exact Zd4 (P:=λa=>CV μ op a _ c) e λi e=>.int e
theorem tw_e{f:V}{vs fs:List V}{x:V}{q:V×V}{P:List V->V->Prop}(e:tw fs x=some q)(k:V.tup (f::vs)=q.1)(K:P fs x):P (f::vs) q.2:=by
 cases e;cases k;exact K
def BLl(l:List V)(v:V):Prop:=match l with|[]=>True|f::vs=>BL f vs v
theorem blvC_ok{h C:Nat}{fs:List (Nat×V)}{f a b:V}{q:V×V}(e:blvC h C fs b=some q)(k:V.tup [f,a,b]=q.1):BLl [f,a,b] q.2:=by
 cases h with
 |zero=>exact bt_e e λhC e=>tw_e e k (.isCL (Zb7 hC))
 |succ =>
  exact bt_e e λhC e=>asO_e (P:=λb=>V.tup [f,a,b]=q.1->BLl [f,a,b] q.2) e (λz z e=>no_e e) (λD e k=>bt_e e λhD e=>bi_e e λx hx e=>tw_e (P:=BLl) e k (by
   rw[bop_ok hx,<- beq_N];exact BL.isCC (Zb7 hC) (Zb7 hD))) k
theorem blvI_ok{h:Nat}{i:Int}{f a b:V}{q:V×V}(e:blvI h i b=some q)(k:V.tup [f,a,b]=q.1):BLl [f,a,b] q.2:=by
 match h with
 |0=>exact tw_e e k .isII
 |1=>exact tw_e e k .isIB
 |2=>exact Zd4 (P:=λb=>V.tup [f,a,b]=q.1->BLl [f,a,b] q.2) e (λj e k=>tw_e e k .max2) k
 |_+3=>exact Zd4 (P:=λb=>V.tup [f,a,b]=q.1->BLl [f,a,b] q.2) e (λj e k=>tw_e e k .rng2) k
theorem blv1_ok{h:Nat}{i:Int}{f a:V}{q:V×V}(e:blv1 h i=some q)(k:V.tup [f,a]=q.1):BLl [f,a] q.2:=by
 cases h with
 |zero=>exact tw_e e k .abs
 |succ=>exact tw_e e k .rng1
theorem bltV_ok{h:Nat}{f:V}{vs:List V}{q:V×V}(e:bltV h vs=some q)(k:V.tup (f::vs)=q.1):BL f vs q.2:=by
 cases vs with
 |nil=>exact no_e e
 |cons a vs =>
  cases vs with
  |nil=>exact Zd4 (P:=λa=>V.tup [f,a]=q.1->BL f [a] q.2) e (λi e k=>blv1_ok e k) k
  |cons b vs =>
   cases vs with
   |cons=>exact no_e e
   |nil =>
    cases a<;>first|exact no_e e|skip
    ·exact blvI_ok e k
    ·exact tw_e (P:=BLl) e k .isLL
    ·exact blvC_ok e k
section
variable{G:Gl}{N:Nat}{cel:List Nat}{cz:Bool}{Q:Post}{k:List IX}{r:List V}{l:List (Option V)}{μ:Led}{h:Nat}{s:SRu}
def SRu.ok(s:SRu):Prop:=∀p,s.e=some p->p.1=p.2
def SRu.W(G:Gl)(N:Nat)(cel:List Nat)(cz:Bool)(Q:Post)(P:Prop)(s:SRu):Prop:=s.ok->Internal.W (CallX G N) cel s.k ⟨s.r,s.l,s.μ,cz⟩ Q->P
def Zbs(G:Gl)(N:Nat)(cel:List Nat)(cz:Bool)(h:Nat)(i:IX)(r:List V):Prop :=
 ∀{k:List IX}{l:List (Option V)}{μ:Led}{s:SRu}{Q:Post},stp cel cz h i k r l μ=some s->s.W G N cel cz Q (W (CallX G N) cel (i::k) ⟨r,l,μ,cz⟩ Q)
theorem refI{a b:Addr}(h:V.ref a=V.ref b):a=b:=by injection h
section
variable{P:Prop}{i:IX}{o:V}
theorem so_s{s0:SRu}(x:some s0=some s)(K:s0.W G N cel cz Q P):s.W G N cel cz Q P:=Option.some.inj x▸K
theorem Zc3{f:V->List V->Option SRu}(x:un1 r f=some s)(K:∀a t,f a t=some s->s.W G N cel cz Q (W (CallX G N) cel (i::k) ⟨a::t,l,μ,cz⟩ Q)):s.W G N cel cz Q (W (CallX G N) cel (i::k) ⟨r,l,μ,cz⟩ Q) :=
 un1_e (P:=λr=>s.W G N cel cz Q (W (CallX G N) cel (i::k) ⟨r,l,μ,cz⟩ Q)) x K
theorem un2_s{f:V->List V->Option SRu}(x:un1 r f=some s)(K:∀a t,f a t=some s->s.W G N cel cz Q (W (CallX G N) cel (i::k) ⟨o::a::t,l,μ,cz⟩ Q)):s.W G N cel cz Q (W (CallX G N) cel (i::k) ⟨o::r,l,μ,cz⟩ Q) :=
 un1_e (P:=λr=>s.W G N cel cz Q (W (CallX G N) cel (i::k) ⟨o::r,l,μ,cz⟩ Q)) x K
theorem asO_s{f:Nat->List (Nat×V)->Option SRu}{g:Nat->Option SRu}(x:asO o f g=some s)(K:∀C fs,f C fs=some s->s.W G N cel cz Q (W (CallX G N) cel (i::k) ⟨.ins C fs::r,l,μ,cz⟩ Q))(L:∀a,g a=some s->s.W G N cel cz Q (W (CallX G N) cel (i::k) ⟨.ref a::r,l,μ,cz⟩ Q)):s.W G N cel cz Q (W (CallX G N) cel (i::k) ⟨o::r,l,μ,cz⟩ Q) :=
 asO_e (P:=λo=>s.W G N cel cz Q (W (CallX G N) cel (i::k) ⟨o::r,l,μ,cz⟩ Q)) x K L
theorem asT_s{f:List V->Option SRu}(x:asT o f=some s)(K:∀vs,f vs=some s->s.W G N cel cz Q (W (CallX G N) cel (i::k) ⟨.tup vs::r,l,μ,cz⟩ Q)):s.W G N cel cz Q (W (CallX G N) cel (i::k) ⟨o::r,l,μ,cz⟩ Q) :=
 asT_e (P:=λo=>s.W G N cel cz Q (W (CallX G N) cel (i::k) ⟨o::r,l,μ,cz⟩ Q)) x K
theorem asB_s{f:Bool->Option SRu}(x:asB o f=some s)(K:∀vs,f vs=some s->s.W G N cel cz Q (W (CallX G N) cel (i::k) ⟨.bool vs::r,l,μ,cz⟩ Q)):s.W G N cel cz Q (W (CallX G N) cel (i::k) ⟨o::r,l,μ,cz⟩ Q) :=
 asB_e (P:=λo=>s.W G N cel cz Q (W (CallX G N) cel (i::k) ⟨o::r,l,μ,cz⟩ Q)) x K
theorem asI_w{α:Type}{y:α}{f:Int->Option α}(x:asI o f=some y)(K:∀j,f j=some y->W (CallX G N) cel (i::k) ⟨.int j::r,l,μ,cz⟩ Q):W (CallX G N) cel (i::k) ⟨o::r,l,μ,cz⟩ Q :=
 Zd4 (P:=λo=>W (CallX G N) cel (i::k) ⟨o::r,l,μ,cz⟩ Q) x K
theorem asI_v{α:Type}{b:V}{y:α}{f:Int->Option α}(x:asI o f=some y)(K:∀j,f j=some y->W (CallX G N) cel (i::k) ⟨b::.int j::r,l,μ,cz⟩ Q):W (CallX G N) cel (i::k) ⟨b::o::r,l,μ,cz⟩ Q :=
 Zd4 (P:=λo=>W (CallX G N) cel (i::k) ⟨b::o::r,l,μ,cz⟩ Q) x K
end
theorem pr_e{u u':Bool}{v c:V}(x:some (u',v)=some (u,c)):v=c:=congrArg Prod.snd (Option.some.inj x)
theorem stp_l{i:Nat}:Zbs G N cel cz h (.l i) r:=λx=>bi_e x λz e x=>so_s x λz H=>w_l (lkS_ok e) H
theorem stp_s{i:Nat}:Zbs G N cel cz h (.s i) r:=λx=>Zc3 x λv r x=>bt_e x λa x=>bi_e x λl' e x=>so_s x λz H=>w_s (stS_ok e).1 (szB_ok a) ((stS_ok e).2▸H)
theorem stp_at{j:Nat}:Zbs G N cel cz h (.at j) r:=λx=>Zc3 x λv r x=>asO_s x (λC fs x=>bi_e x λv e x=>so_s x λz H=>w_at (atV_pi e) H) λa x=>atL_e x λb C dx fs hp x=>bi_e x λv e x=>so_s x λo H=>w_at (refI (o _ rfl)▸atV_mi (gtM_ok hp) e) H
theorem stp_sa{j:Nat}:Zbs G N cel cz h (.sa j) r:=λx=>Zc3 x λo r x=>un2_s x λv r x=>asO_s x (λz z x=>no_e x) λa x=>atL_e x λb C dx fs hp x =>
  bt_e x λh1 x=>bt_e x λh2 x=>bt_e x λh3 x=>bi_e x λfs' e x=>bi_e x λμ' u x=>so_s x λo H=>w_saH (refI (o _ rfl)▸stM_ok hp (Option.some.inj (ptF_eq.symm.trans e)▸u)) (Zb7 h1) (Nat.le_of_ble_eq_true h2) (shF_ok h3) H
theorem Zen{i:IX}{f:V->V->Option (Bool×V)}(x:op2 f k r l μ=some s)(K:∀{a b c:V}{r:List V}{u:Bool},f a b=some (u,c)->W (CallX G N) cel k ⟨c::r,l,μ,cz⟩ Q->W (CallX G N) cel (i::k) ⟨b::a::r,l,μ,cz⟩ Q):s.W G N cel cz Q (W (CallX G N) cel (i::k) ⟨r,l,μ,cz⟩ Q) :=
 Zc3 x λb r x=>un2_s x λa r x=>bi_e x λc e x=>so_s x λz H=>K e H
theorem op1_ok{i:IX}{f:V->Option V}(x:op1 f k r l μ=some s)(K:∀{a c:V}{r:List V},f a=some c->W (CallX G N) cel k ⟨c::r,l,μ,cz⟩ Q->W (CallX G N) cel (i::k) ⟨a::r,l,μ,cz⟩ Q):s.W G N cel cz Q (W (CallX G N) cel (i::k) ⟨r,l,μ,cz⟩ Q) :=
 Zc3 x λb r x=>bi_e x λc e x=>so_s x λz H=>K e H
def giV(o ix:V):Option (Bool×V):=asI ix λi=>match i with
 |.ofNat m=>bt (Nat.blt m 1073741824) (asS o λvs=>(gtV vs m).bind λv=>some (false,v))
 |.negSucc _=>none
theorem giV_ok{o ix c:V}{u:Bool}(e:giV o ix=some (u,c)):RG μ o ix c:=Zd4 (P:=λix=>RG μ o ix c) e λi e=>by
 cases i with
 |negSucc=>exact no_e e
 |ofNat m =>
  refine bt_e e λh1 e=>?_
  have K:∀{vs:List V},((gtV vs m).bind λv=>some (false,v))=some (u,c)->vs[m]?=some c:=λx=>bi_e x λv e q=>pr_e q▸gtV_eq▸e
  exact asS_e (P:=λo=>RG μ o (.int m) c) e (λvs e=>.tup (K e) (Nat.le_of_ble_eq_true h1)) λvs e=>.lst (K e) (Nat.le_of_ble_eq_true h1)
theorem stp_gi:Zbs G N cel cz h .gi r:=λx=>Zen (f:=giV) x λe H=>w_gi (giV_ok e) H
theorem stp_bin{op:Operator}:Zbs G N cel cz h (.bin op) r:=λx=>Zen x λe H=>asI_w e λb e=>asI_v e λa e=>bi_e e λp e q=>Zao (binV_ok e) (pr_e q▸H)
theorem stp_iadd:Zbs G N cel cz h .iadd r:=λx=>Zen x λe H=>asI_w e λb e=>asI_v e λa q=>w_iadd (pr_e q▸H)
theorem stp_neg:Zbs G N cel cz h .neg r:=λx=>op1_ok x λe H=>asI_w e λa q=>w_neg (Option.some.inj q▸H)
theorem stp_not:Zbs G N cel cz h .not r:=λx=>op1_ok x λ{a c r} e H=>asB_e (P:=λa=>W (CallX G N) cel (.not::_) ⟨a::r,_,_,cz⟩ _) e λa q=>w_not (Option.some.inj q▸H)
theorem stp_cmp{op:CmpOp}:Zbs G N cel cz h (.cmp op) r:=λx=>Zen x λe H=>bi_e e λp e q=>ZaE (cmpV_ok e) (pr_e q▸H)
theorem stp_ite{a b:List IX}:Zbs G N cel cz h (.ite a b) r:=λx=>Zc3 x λo r x=>asB_s x λc x=>by
 cases c with
 |true=>exact bi_e x λk e x=>so_s x λz H=>ZaS (Zgb e▸H)
 |false=>exact bi_e x λk e x=>so_s x λz H=>ZaT (Zgb e▸H)
theorem stp_tup{n:Nat}:Zbs G N cel cz h (.tup n) r:=λx=>bi_e x λz e x=>so_s x λz H=>w_tup (ZdM e).1 (ZdM e).2 H
theorem stp_call{n:Nat}:Zbs G N cel cz h (.call n) r:=λ{k l μ s Q} x=>bi_e x λp e x=>by
 have q:=ZdM e;exact un1_e (P:=λr'=>r=p.1.reverse++r'->s.W G N cel cz Q (W (CallX G N) cel (.call n::k) ⟨r,l,μ,cz⟩ Q)) x (λf r' x a=>bi_e x λp e x=>so_s x λo H=>Zax (bltV_ok e (o _ rfl)) a q.2 H) q.1
theorem stp_unp{n:Nat}:Zbs G N cel cz h (.unp n) r:=λx=>Zc3 x λo r x=>asT_s x λvs x=>bi_e x λr e x=>so_s x λz H=>w_unp (apN_ok e).1 ((apN_ok e).2▸H)
theorem stp_unpR{n:Nat}:Zbs G N cel cz h (.unpR n) r:=λx=>Zc3 x λo r x=>asT_s x λvs x=>bi_e x λr e x=>so_s x λz H=>w_unpR (rvN_ok e).1 ((rvN_ok e).2▸H)
theorem stp_c{v:V}:Zbs G N cel cz h (.c v) r:=λx=>so_s x λz H=>w_c H
theorem stp_pop:Zbs G N cel cz h .pop r:=λx=>Zc3 x λz r x=>so_s x λz H=>Zbf H
theorem stp_ok{i:IX}:Zbs G N cel cz h i r:=by
 cases i;all_goals first
  |exact λx=>no_e x
  |exact stp_c
  |exact stp_l
  |exact stp_s
  |exact stp_at
  |exact stp_sa
  |exact stp_gi
  |exact stp_bin
  |exact stp_iadd
  |exact stp_neg
  |exact stp_not
  |exact stp_cmp
  |exact stp_ite
  |exact stp_tup
  |exact stp_call
  |exact stp_pop
  |exact stp_unp
  |exact stp_unpR
def RRu.W(G:Gl)(N:Nat)(cel:List Nat)(cz:Bool)(Q:Post)(e1 e2:List V)(P:Prop)(t:RRu):Prop:=t.e1=t.e2->e1=e2/\(Internal.W (CallX G N) cel t.k ⟨t.r,t.l,t.μ,cz⟩ Q->P)
theorem run_ok{t:RRu}:∀{n:Nat}{hs:List Nat}{e1 e2:List V}{k:List IX}{r:List V}{l:List (Option V)}{μ:Led},run cel cz n hs e1 e2 k r l μ=some t->t.W G N cel cz Q e1 e2 (W (CallX G N) cel k ⟨r,l,μ,cz⟩ Q):=by
 intro n;induction n with
 |zero=>intro hs e1 e2 k r l μ h;exact so_e h λq=>⟨q,id⟩
 |succ n ih =>
  intro hs e1 e2 k r l μ h;cases k with
  |nil=>exact no_e h
  |cons i k =>
   refine bi_e h λs hs h=>?_
   have st:=stp_ok (G:=G) (N:=N) (Q:=Q) hs;obtain⟨u,e,k',r',l',μ'⟩:=s;cases e with
   |none=>cases u<;>exact λq=>⟨(ih h q).1,λH=>st (λp e'=>no_e e') ((ih h q).2 H)⟩
   |some p=>exact λq=>⟨(List.cons.inj (ih h q).1).2,λH=>st (λp' e'=>Option.some.inj e'▸(List.cons.inj (ih h q).1).1) ((ih h q).2 H)⟩
def RunQ(CK:CKT)(cel:List Nat)(cz:Bool)(Q:Post)(x:Option RRu):Prop:=match x with
 |none=>False
 |some ⟨_,_,k,r,l,μ⟩=>W CK cel k ⟨r,l,μ,cz⟩ Q
def RunE(x:Option RRu):Prop:=match x with
 |none=>True
 |some ⟨e1,e2,_,_,_,_⟩=>e1=e2
def RunP(CK:CKT)(cel:List Nat)(cz:Bool)(Q:Post)(x:Option RRu):Prop:=match x with
 |none=>False
 |some ⟨e1,e2,k,r,l,μ⟩=>match e1 with
  |[]=>match e2 with
   |[]=>W CK cel k ⟨r,l,μ,cz⟩ Q
   |_::_=>False
  |_::_=>False
theorem we(n:Nat)(hs:List Nat)(E:RunE (run cel cz n hs [] [] k r l μ))(H:RunQ (CallX G N) cel cz Q (run cel cz n hs [] [] k r l μ)):W (CallX G N) cel k ⟨r,l,μ,cz⟩ Q:=by
 cases e:run cel cz n hs [] [] k r l μ with
 |none=>rw[e] at H;exact H.elim
 |some t=>rw[e] at H E;exact(run_ok e E).2 H
theorem Zek{x:Option RRu}(H:RunP (CallX G N) cel cz Q x):RunE x/\RunQ (CallX G N) cel cz Q x:=by
 cases x with
 |none=>exact H.elim
 |some t =>
  obtain⟨e1,e2,k',r',l',μ'⟩:=t;cases e1 with
  |cons=>exact H.elim
  |nil=>cases e2 with
   |cons=>exact H.elim
   |nil=>exact⟨rfl,H⟩
theorem wh(n:Nat)(hs:List Nat)(H:RunP (CallX G N) cel cz Q (run cel cz n hs [] [] k r l μ)):W (CallX G N) cel k ⟨r,l,μ,cz⟩ Q:=we n hs (Zek H).1 (Zek H).2
noncomputable def frS:List (Option V)->Option (List (Option V))
 |[]=>some []
 |o::r=>match o with
  |none=>(frS r).bind λt=>some (none::t)
  |some v=>(frS r).bind λt=>some (some v::t)
theorem frS_ok{l t:List (Option V)}(h:frS l=some t):t=l:=by
 induction l generalizing t with
 |nil=>exact(Option.some.inj h).symm
 |cons o l ih=>cases o<;>exact bi_e h λu e h=>(Option.some.inj h).symm.trans (congrArg _ (ih e))
def fin(x:Option RRu):Option RRu:=x.bind λ⟨e1,e2,k,r,l,μ⟩=>(apI k []).bind λk=>(frS l).bind λl=>some ⟨e1,e2,k,r,l,μ⟩
theorem fin_ok{x:Option RRu}{t:RRu}(h:fin x=some t):x=some t :=
 bi_e h λu e h=>bi_e h λk a h=>bi_e h λl b h=>by
  have q1:=Zgb a;rw[append_nil] at q1;cases q1;cases frS_ok b;exact e.trans h
theorem wg(n:Nat)(hs:List Nat)(E:RunE (fin (run cel cz n hs [] [] k r l μ)))(H:RunQ (CallX G N) cel cz Q (fin (run cel cz n hs [] [] k r l μ))):W (CallX G N) cel k ⟨r,l,μ,cz⟩ Q:=by
 cases e:fin (run cel cz n hs [] [] k r l μ) with
 |none=>rw[e] at H;exact H.elim
 |some t=>rw[e] at H E;exact(run_ok (fin_ok e) E).2 H
theorem wk(n:Nat)(hs:List Nat)(H:RunP (CallX G N) cel cz Q (fin (run cel cz n hs [] [] k r l μ))):W (CallX G N) cel k ⟨r,l,μ,cz⟩ Q:=wg n hs (Zek H).1 (Zek H).2
theorem wr(n:Nat)(H:RunP (CallX G N) cel cz Q (run cel cz n [] [] [] k r l μ)):W (CallX G N) cel k ⟨r,l,μ,cz⟩ Q:=wh n [] H
theorem wf(n:Nat)(H:RunP (CallX G N) cel cz Q (fin (run cel cz n [] [] [] k r l μ))):W (CallX G N) cel k ⟨r,l,μ,cz⟩ Q:=wk n [] H
abbrev Y{CK:CKT}{cel:List Nat}{c:List IX}{S:Sg}{Q:Post}:Prop:=W CK cel c S Q
end
end
section
section
variable{G:Gl}{n:Nat}{μ:Led}
abbrev Zaj(G:Gl)(n:Nat)(f:Addr)(vs:List V)(μ:Led)(v:V):Prop:=CodeOK G n f vs μ (λv' μ'=>v'=v/\μ'=μ) (λz=>False)
abbrev ZaQ(G:Gl)(n:Nat)(f:Addr)(vs:List V)(μ:Led)(C:Addr):Prop:=CodeOK G n f vs μ (λz z=>False) (λD=>D=C)
def Dm(i:Int):Prop:=-1073741823<=i/\i<=1073741823
theorem dmA{x:Int}:(x.natAbs:Int)<2^30↔Dm x:=(Int.lt_add_one_iff (a:=x.natAbs) (b:=1073741823)).trans abZ
noncomputable instance instDm{i:Int}:Decidable (Dm i):=inferInstanceAs (Decidable (_/\_))
theorem ZaK{i a b:Int}(hn:n+2<900)(h1:a<=i)(h2:i<=b):Zaj G n 105 [.int i,.int a,.int b] μ (.bool true):=by
 refine fnGo f14 (dn hn rfl) rfl ?_;unfold c14;refine wg 13 [0,1] rfl (?_:Y);refine Zbo (x:=true) (.int (congrArg some (decide_eq_true h1))) (λz=>?_) (λh=>by cases h);refine wf 2 (?_:Y);refine Zak ?_;simp[h2]
theorem ZfH{i a b:Int}(hn:n+2<900)(h1:¬a<=i\/¬i<=b):Zaj G n 105 [.int i,.int a,.int b] μ (.bool false):=by
 refine fnGo f14 (dn hn rfl) rfl ?_;unfold c14;refine wg 13 [0,1] rfl (?_:Y);by_cases h:a<=i
 ·have h2:¬i<=b:=h1.resolve_left (λq=>q h)
  refine Zbo (x:=true) (.int (congrArg some (decide_eq_true h))) (λz=>?_) (λh=>by cases h);refine wf 2 (?_:Y);refine Zak ?_;simp[h2]
 ·refine Zbo (x:=false) (.int (congrArg some (decide_eq_false h))) (λh=>by cases h) (λz=>?_)
  refine Zak ?_;simp
theorem ZfI{c:Bool}{a b:Int}(hn:n+2<900):Zaj G n 105 [.bool c,.int a,.int b] μ (.bool false):=by
 refine fnGo f14 (dn hn rfl) rfl ?_;unfold c14;refine wf 3 (?_:Y);refine Zax .isBI rfl rfl ?_;refine wr 4 (?_:Y);refine Zax .isBB rfl rfl ?_;refine wr 3 (?_:Y);refine Zak ?_;simp
theorem ZbM{i:Int}(hn:n+2<900):Zaj G n 112 [.int i] μ (.int i):=by
 refine fnGo f15 (dn hn rfl) rfl ?_;unfold c15;refine wg 12 [0,1] rfl (?_:Y);refine Zak ?_;simp
theorem ZdF{b:Bool}(hn:n+2<900):ZaQ G n 112 [.bool b] μ 56:=by
 refine fnGo f15 (dn hn rfl) rfl ?_;unfold c15;refine wf 3 (?_:Y);refine Zax .isBI rfl rfl ?_;refine wr 5 (?_:Y);refine Zax .isBB rfl rfl ?_;refine wr 1 (?_:Y);refine Zbt ?_;rfl
theorem Zah{i:Int}(hn:n+4<900)(h:Dm i):Zaj G n 126 [.int i] μ (.int i):=by
 refine fnGo f17 (dn hn rfl) rfl ?_;unfold c17;refine wf 4 (?_:Y);refine Zaa (ZbM (lw ‹_›)).cx rfl rfl rfl ?_;refine Zbo (x:=true) (.int (congrArg some (decide_eq_true h.1))) (λz=>?_) (λh=>by cases h);refine wf 3 (?_:Y);refine ZaN (λq=>?_) (λz=>?_)
 ·have:=h.2
  simp at q;lia
 ·simp only[cons_append,nil_append]
  refine w_l rfl ?_;refine Zak ?_;simp
theorem Zbc{i:Int}(hn:n+4<900)(h:¬Dm i):ZaQ G n 126 [.int i] μ 68:=by
 refine fnGo f17 (dn hn rfl) rfl ?_;unfold c17;refine wf 4 (?_:Y);refine Zaa (ZbM (lw ‹_›)).cx rfl rfl rfl ?_;by_cases h1 : -1073741823<=i
 ·refine Zbo (x:=true) (.int (congrArg some (decide_eq_true h1))) (λz=>?_) (λh=>by cases h)
  refine wf 3 (?_:Y);refine ZaN (λq=>?_) (λq=>?_)
  ·simp only[cons_append,nil_append]
   refine Zbt ?_;rfl
  ·simp at q
   exact absurd ⟨h1,q⟩ h
 ·refine Zbo (x:=false) (.int (congrArg some (decide_eq_false h1))) (λh=>by cases h) (λz=>?_)
  refine wr 2 (?_:Y);refine Zbt ?_;rfl
theorem ZdH{b:Bool}(hn:n+4<900):ZaQ G n 126 [.bool b] μ 56:=by
 refine fnGo f17 (dn hn rfl) rfl ?_;unfold c17;refine wf 4 (?_:Y);exact Zab (ZdF (lw ‹_›)).cx (vs:=[.bool b]) rfl rfl rfl (λz z q=>q.elim) λC q=>q
theorem ZdG{i:Int}(hn:n+4<900)(h : -2147483647<=i/\i<=2147483647):Zaj G n 119 [.int i] μ (.int i):=by
 refine fnGo f16 (dn hn rfl) rfl ?_;unfold c16;refine wf 4 (?_:Y);refine Zaa (ZbM (lw ‹_›)).cx rfl rfl rfl ?_;refine Zbo (x:=true) (.int (congrArg some (decide_eq_true h.1))) (λz=>?_) (λh=>by cases h);refine wf 3 (?_:Y);refine ZaN (λq=>?_) (λz=>?_)
 ·have:=h.2
  simp at q;lia
 ·simp only[cons_append,nil_append]
  refine w_l rfl ?_;refine Zak ?_;simp
noncomputable def rnd(x d:Int):Int:=if x<0 then -((d-2*x).fdiv (2*d)) else(2*x+d).fdiv (2*d)
theorem rounded{x d:Int}(hn:n+2<900)(h0:0<d)(h1:d<2^60):Zaj G n 133 [.int x,.int d] μ (.int (rnd x d)):=by
 have hb:(2*d).natAbs<2^64:=by lia
 have h2:(2*d:Int)≠0:=by lia
 refine fnGo f18 (dn hn rfl) rfl ?_;unfold c18;refine wf 3 (?_:Y);refine ZaN (λq=>by simp at q;lia) (λz=>?_);refine wf 3 (?_:Y);refine ZaN (λq=>?_) (λq=>?_)
 ·refine wk 8 [0,0] (?_:Y)
  refine Zao (.div h2 hb) ?_;refine w_neg ?_;refine Zak ?_;simp at q;simp[rnd,q]
 ·refine wk 8 [0,0] (?_:Y)
  refine Zao (.div h2 hb) ?_;refine Zak ?_;simp at q;simp[rnd,Int.not_lt.mpr q]
end
end
section
structure FQ(R:V->Led->Prop)(E:Addr->Prop)(Q:Post):Prop where
 x:∀S S',St S S'->R .none S'.μ->Q.nx S
 r:∀v μ,R v μ->Q.rt v μ
 e:∀C,E C->Q.ex C
theorem FQ.w{CK:CKT}{cel:List Nat}{k:List IX}{R:V->Led->Prop}{E:Addr->Prop}{Q:Post}{v:V}{r:List V}{l:List (Option V)}{μ:Led}{cz:Bool}{nx:Sg->Prop}{ex:Addr->Prop}(q:FQ R E Q)(h:R v μ):W CK cel (.ret::k) ⟨v::r,l,μ,cz⟩ ⟨nx,Q.rt,ex⟩:=Zak (q.r _ _ h)
theorem Zae{G:Gl}{n:Nat}{f:Addr}{st:Stmt}{names:List Str}{dvs vs:List V}{tp:Bool}{qual:Str}{code:List IX}{cel:List Nat}{idx:List (Option Nat)}{μ:Led}{R:V->Led->Prop}{E:Addr->Prop}(F:∀w,Fx w f st names dvs tp qual code cel idx)(hn:n+1<900)(hlen:vs.length+dvs.length=names.length)
  (hW:∀Q:Post,FQ R E Q->W (CallX G (n+1)) cel code ⟨[],(idx.map λo=>o.bind λi=>(vs++dvs)[i]?)++List.replicate 4 none,μ,false⟩ Q):CodeOK G n f vs μ R E :=
 fnGo F hn hlen (hW _ ⟨λS S' t h=>⟨S',t,h⟩,λz z h=>h,λz h=>h⟩)
section
variable{G:Gl}{n:Nat}{μ:Led}
noncomputable def bad(e t:Int):Int :=
 if e=0 then 0 else if t<=0 then 10000 else
 let r:=if e<=7230584 then(e*297).fdiv t else if t>=1663497 then e.fdiv (t.fdiv 297) else e
 if r>1290 then 10000 else(r*r*r+131072).fdiv 262144
theorem Zco{a b:Int}(h:0<=a)(h2:0<b):0<=a.fdiv b:=by
 rw[Int.fdiv_eq_ediv_of_nonneg _ (Int.le_of_lt h2)];exact Int.ediv_nonneg h (Int.le_of_lt h2)
theorem Zf9{e t:Int}(hn:n+2<900)(h0:0<=e)(h1:t.natAbs<2^60):Zaj G n 168 [.int e,.int t] μ (.int (bad e t)):=by
 refine Zae f25 (dn hn rfl) rfl λQ qq=>?_
 delta c25;refine wf 3 (?_:Y);refine ZaN (λq=>by simp at q;lia) (λz=>?_);refine wf 3 (?_:Y);refine ZaN (λq=>?_) (λq0=>?_)
 ·simp only[cons_append,nil_append]
  refine w_c ?_;refine Zak ?_;simp at q;exact qq.r _ _ ⟨by simp[bad,q],rfl⟩
 refine wf 3 (?_:Y);refine ZaN (λq=>?_) (λq1=>?_)
 ·simp only[cons_append,nil_append]
  refine w_c ?_;refine Zak ?_;simp at q q0;exact qq.r _ _ ⟨by simp[bad,q,q0],rfl⟩
 refine wf 3 (?_:Y);simp at q0 q1;have fin:∀{r:Int}{l:List (Option V)},0<=r->bad e t=(if r>1290 then 10000 else(r*r*r+131072).fdiv 262144) ->
   W (CallX G (n+1)) [] [.ite [.c (.int 10000),.ret] [],.l 2,.l 2,.bin .Mult,.l 2,.bin .Mult,.c (.int 131072),.bin .Add,.c (.int 262144),.bin .FloorDiv,.ret] ⟨[.bool (decide (r>1290))],[some (.int e),some (.int t),some (.int r),none,none,none,none],μ,false⟩ Q:=by
  intro r l h0r hb;refine ZaN (λq=>?_) (λq=>?_)
  ·simp only[cons_append,nil_append]
   refine w_c ?_;refine Zak ?_;simp at q;exact qq.r _ _ ⟨by rw[hb,if_pos q],rfl⟩
  ·simp at q
   refine wf 2 (?_:Y);refine Zao (.mul (.inl (by lia))) ?_;refine w_l rfl ?_;refine Zao (.mul (.inr (by lia))) ?_;refine wr 3 (?_:Y);refine Zao (.div (by decide) (by decide)) ?_;exact qq.w ⟨by rw[hb,if_neg (Int.not_lt.mpr q)],rfl⟩
 refine ZaN (λq=>?_) (λq2=>?_)
 ·refine wk 4 [1] (?_:Y)
  simp at q;refine Zao (.div (Int.ne_of_gt q1) (Zay ‹_› rfl)) ?_;refine wr 4 (?_:Y);refine fin (l:=[]) (Zco (by lia) q1) ?_;simp[bad,q,q0,Int.not_le.mpr q1]
 refine wf 3 (?_:Y);simp at q2;refine ZaN (λq=>?_) (λq3=>?_)
 ·refine wf 3 (?_:Y)
  simp at q;have h5:(5600:Int)<=t.fdiv 297:=by rw[Int.fdiv_eq_ediv_of_nonneg _ (by decide)];lia
  have h6:(t.fdiv 297).natAbs<2^64:=by
   have ht:=naT h1;rw[Int.fdiv_eq_ediv_of_nonneg _ (by decide)];exact naB (by lia) (by lia)
  refine Zao (.div (by decide) (by decide)) ?_;refine Zao (.div (by lia) h6) ?_;refine wr 4 (?_:Y);refine fin (l:=[]) (Zco h0 (by lia)) ?_;simp[bad,q,q0,Int.not_le.mpr q1,Int.not_le.mpr q2]
 ·refine wf 5 (?_:Y)
  simp at q3;refine fin (l:=[]) h0 ?_;simp[bad,q0,Int.not_le.mpr q1,Int.not_le.mpr q2,Int.not_le.mpr q3]
structure Gu where
 w:Int
 st:Int
 so:Nat
 sh:Int
 ho:Nat
noncomputable def Gu.fs(g:Gu):List (Nat×V):=[(0,.int g.w),(1,.int g.st),(2,.int g.so),(3,.int g.sh),(4,.int g.ho)]
noncomputable def Gu.v(g:Gu):V:=.ins 250 [(0,.int g.w),(1,.int g.st),(2,.int g.so),(3,.int g.sh),(4,.int g.ho)]
noncomputable def mkG(w st:Int)(so:Nat)(sh:Int)(ho:Nat):Gu:=⟨w,st,if st≠0 then so else 0,sh,if sh≠0 then ho else 0⟩
noncomputable def Gu.parts(g:Gu):V:=.tup [.int g.w,.int g.st,.int g.so,.int g.sh,.int g.ho]
theorem Zc9{vs dvs:List V}{w st sh:Int}{so ho:Nat}{a dx:Addr}(F:∀x,Fx x 197 (sb 28 0) Zfv dvs false (Str.ofString "Glue.__init__"++(Str.ofString ".<locals>.")) Zf7 [] [some 0,some 1,some 2,some 3,some 4,some 5])(hv : .ref a::vs++dvs=[.ref a,.int w,.int st,.int so,.int sh,.int ho])(hn:n+6<900)(hw:Dm w)(hst:Dm st)(hsh:Dm sh)(h1:so<=3)(h2:ho<=3) :
  CodeOK G n 197 (.ref a::vs) ((a,.ins 250 dx [])::μ) (λv μ'=>v=.none/\μ'=(a,.ins 250 dx (mkG w st so sh ho).fs)::μ) (λz=>False):=by
 refine Zae F (dn hn rfl) (by have:=congrArg List.length hv;simp at this;simp[Zfv];lia) λQ qq=>?_
 have hx:=qq.x;have hr:=qq.r;have he:=qq.e;rw[hv];delta Zf7;refine wf 4 (?_:Y);refine Zaa (ZaK (d1 hn rfl) (Int.natCast_nonneg _) (Int.ofNat_le.mpr ‹_›)).cx rfl rfl rfl ?_;refine wr 6 (?_:Y);refine Zaa (ZaK (d1 hn rfl) (Int.natCast_nonneg _) (Int.ofNat_le.mpr ‹_›)).cx rfl rfl rfl ?_;refine wr 4 (?_:Y);refine Zaa (Zah (lw ‹_›) hw).cx rfl rfl rfl ?_;refine we 4 [0] rfl (?_:Y);refine Zaa (Zah (lw ‹_›) hst).cx rfl rfl rfl ?_;refine we 5 [0] rfl (?_:Y);have step3:∀{x:Int},x=(if st≠0 then(so:Int) else 0)->W (CallX G (n+1)) [] [.l 0,.sa 2,.c (.ref 126),.l 4,.call 1,.l 0,.sa 3,.l 4,.c (.int 0),.cmp .NotEq,.ite [.l 5] [.c (.int 0)],.l 0,.sa 4] ⟨[.int x],[some (.ref a),some (.int w),some (.int st),some (.int so),some (.int sh),some (.int ho),none,none,none,none],(a,.ins 250 dx [(0,.int w),(1,.int st)])::μ,false⟩ Q:=by
  intro x hxx;refine we 4 [0] rfl (?_:Y);refine Zaa (Zah (lw ‹_›) hsh).cx rfl rfl rfl ?_;refine we 5 [0] rfl (?_:Y);refine ZaN (λq=>?_) (λq=>?_)
  ·refine wg 3 [0] rfl (?_:Y)
   simp at q;refine Zad (hx _ _ .refl ⟨rfl,?_⟩);simp[mkG,Gu.fs,hxx,q];split<;>rfl
  ·refine wg 3 [0] rfl (?_:Y)
   simp at q;refine Zad (hx _ _ .refl ⟨rfl,?_⟩);simp[mkG,Gu.fs,hxx,q];split<;>rfl
 refine ZaN (λq=>?_) (λq=>?_)
 ·simp only[cons_append,nil_append]
  refine w_l rfl ?_;exact step3 (by rw[if_pos (by simpa using q)])
 ·simp only[cons_append,nil_append]
  refine w_c ?_;exact step3 (by rw[if_neg (by simpa using q)])
theorem glueNew{w st sh:Int}{so ho:Nat}(hn:n+8<900)(hw:Dm w)(hst:Dm st)(hsh:Dm sh)(h1:so<=3)(h2:ho<=3):Zb9 G n (.ref 250) [.int w,.int st,.int so,.int sh,.int ho] μ (mkG w st so sh ho).v :=
 Za8 (by decide) (dn hn rfl) λa dx=>Zc9 f28_0_5 rfl (lw ‹_›) hw hst hsh h1 h2
theorem Zeu(hn:n+8<900):Zb9 G n (.ref 250) [] μ (mkG 0 0 0 0 0).v :=
 Za8 (by decide) (dn hn rfl) λa dx=>Zc9 f28_0_0 rfl (lw ‹_›) (by decide) (by decide) (by decide) (by decide) (by decide)
theorem glueNew2(hn:n+8<900):Zb9 G n (.ref 250) [.int 5,.int 1] μ (mkG 5 1 0 0 0).v :=
 Za8 (by decide) (dn hn rfl) λa dx=>Zc9 f28_0_2 rfl (lw ‹_›) (by decide) (by decide) (by decide) (by decide) (by decide)
theorem parts{g:Gu}(hn:n+2<900):Zaj G n 204 [g.v] μ g.parts:=by
 refine Zae f28_1 (dn hn rfl) rfl λQ qq=>?_
 delta c28_1 Gu.v;refine wf 11 (?_:Y);exact qq.w ⟨rfl,rfl⟩
end
end
section
section
variable{G:Gl}{n:Nat}{μ:Led}
noncomputable def top(s:Nat->Int):Nat:=if s 3≠0 then 3 else if s 2≠0 then 2 else if s 1≠0 then 1 else 0
noncomputable def ZaR(f:Nat->Int):List V:=[.int (f 0),.int (f 1),.int (f 2),.int (f 3)]
noncomputable def upd(f:Nat->Int)(k:Nat)(x:Int):Nat->Int:=λj=>if j=k then x else f j
theorem tset{f:Nat->Int}{k:Nat}{x:Int}(h:k<=3):(ZaR f).set k (.int x)=ZaR (upd f k x):=by
 match k,h with
 |0,_=>rfl
 |1,_=>rfl
 |2,_=>rfl
 |3,_=>rfl
theorem tget{f:Nat->Int}{k:Nat}(h:k<=3):(ZaR f)[k]?=some (.int (f k)):=by
 match k,h with
 |0,_=>rfl
 |1,_=>rfl
 |2,_=>rfl
 |3,_=>rfl
theorem Zdm{s:Nat->Int}(hn:n+2<900):Zaj G n 261 [.lst (ZaR s)] μ (.int (top s)):=by
 refine Zae f29 (dn hn rfl) rfl λQ qq=>?_
 delta c29;refine wf 4 (?_:Y);refine Zar .tup (.inl rfl) ?_;refine Zbb rfl (by exact lb rfl) ?_;refine wf 5 (?_:Y);refine ZaN (λq=>?_) (λq3=>?_)
 ·simp only[cons_append,nil_append]
  refine w_l rfl ?_;refine qq.w ⟨?_,rfl⟩;simp at q;simp[top,q]
 refine Zdz ?_;refine Zbb rfl (by exact lb rfl) ?_;refine wf 5 (?_:Y);refine ZaN (λq=>?_) (λq2=>?_)
 ·simp only[cons_append,nil_append]
  refine w_l rfl ?_;refine qq.w ⟨?_,rfl⟩;simp at q q3;simp[top,q,q3]
 refine Zdz ?_;refine Zbb rfl (by exact lb rfl) ?_;refine wf 5 (?_:Y);refine ZaN (λq=>?_) (λq1=>?_)
 ·simp only[cons_append,nil_append]
  refine w_l rfl ?_;refine qq.w ⟨?_,rfl⟩;simp at q q3 q2;simp[top,q,q3,q2]
 refine Zdz ?_;refine ZaA rfl ?_;refine w_c ?_;refine qq.w ⟨?_,rfl⟩;simp at q1 q3 q2;simp[top,q1,q3,q2]
structure Tot where
 n:Int
 s:Nat->Int
 h:Nat->Int
noncomputable def Tot.v(t:Tot):V:=.ins 313 [(5,.int t.n),(1,.lst (ZaR t.s)),(3,.lst (ZaR t.h))]
noncomputable def Tot.zero:Tot:=⟨0,λz=>0,λz=>0⟩
noncomputable def Tot.add(t:Tot)(g:Gu):Tot:=⟨t.n+g.w,upd t.s g.so (t.s g.so+g.st),upd t.h g.ho (t.h g.ho+g.sh)⟩
noncomputable def Tot.widen(t:Tot)(w:Int):Tot:={ t with n:=t.n+w }
def totL(a b c dx:Addr)(t:Tot)(μ:Led):Led:=(c,.list (ZaR t.h))::(b,.list (ZaR t.s))::(a,.ins 313 dx [(5,.int t.n),(1,.ref b),(3,.ref c)])::μ
theorem Zd8(hn:n+3<900):CallX G n (.ref 313) [] μ (λv μ'=>∃a b c dx,v=.ref a/\μ'=totL a b c dx Tot.zero μ) (λz=>False):=by
 refine(Zdi (C:=313) (fI:=275) (by decide) (dn hn rfl) λa dx=>?_).x;refine Zae f30_0 (lw ‹_›) rfl λQ qq=>?_
 delta c30_0;refine wg 7 [0] rfl (?_:Y);refine ZaH (vs:=[_,_,_,_]) rfl rfl λb=>?_
 refine we 6 [1] rfl (?_:Y);refine ZaH (vs:=[_,_,_,_]) rfl rfl λc=>?_
 refine we 2 [2] rfl (?_:Y);exact Zad (qq.x _ _ .refl ⟨rfl,a,b,c,dx,rfl,rfl⟩)
theorem Ze9{a b c dx:Addr}{t:Tot}{g:Gu}(hn:n+3<900)(h1:g.so<=3)(h2:g.ho<=3):CodeOK G n 282 [.ref a,g.v] (totL a b c dx t μ) (λv μ'=>v=.none/\μ'=totL a b c dx (t.add g) μ) (λz=>False):=by
 refine Zae f30_1 (dn hn rfl) rfl λQ qq=>?_
 delta c30_1 totL Gu.v;refine w_l rfl ?_;refine w_da (.mi (by decide) (by decide) (.tail _ (.tail _ (.head _))) rfl rfl) ?_;refine wr 3 (?_:Y);refine w_sb (by decide) (by decide) (by exact lb rfl) (.tail (.tail .head)) ?_;simp only[fput,reduceIte,Nat.reduceEqDiff,reduceCtorEq];refine we 4 [2] rfl (?_:Y);refine w_dg (Zca (.tail _ (.head _)) (Int.natCast_nonneg _) (by lia) (by rw[Int.toNat_natCast];exact tget h1)) ?_;refine wr 3 (?_:Y);refine w_sg (Int.natCast_nonneg _) (by rw[Int.toNat_natCast];exact Nat.lt_succ_of_le h1) (by lia) (.tail .head) ?_;rw[Int.toNat_natCast,tset h1];refine we 4 [2] rfl (?_:Y);refine w_dg (Zca (.head _) (Int.natCast_nonneg _) (by lia) (by rw[Int.toNat_natCast];exact tget h2)) ?_;refine wr 3 (?_:Y);refine w_sg (Int.natCast_nonneg _) (by rw[Int.toNat_natCast];exact Nat.lt_succ_of_le h2) (by lia) .head ?_;rw[Int.toNat_natCast,tset h2];exact Zad (qq.x _ _ .refl ⟨rfl,rfl⟩)
theorem Zci{a b c dx:Addr}{t:Tot}{w:Int}(hn:n+3<900):CodeOK G n 289 [.ref a,.int w] (totL a b c dx t μ) (λv μ'=>v=.none/\μ'=totL a b c dx (t.widen w) μ) (λz=>False):=by
 refine Zae f30_2 (dn hn rfl) rfl λQ qq=>?_
 delta c30_2 totL;refine w_l rfl ?_;refine w_da (.mi (by decide) (by decide) (.tail _ (.tail _ (.head _))) rfl rfl) ?_;refine wr 2 (?_:Y);refine w_sb (by decide) (by decide) (by exact lb rfl) (.tail (.tail .head)) ?_;simp only[fput,reduceIte,Nat.reduceEqDiff,reduceCtorEq];exact Zad (qq.x _ _ .refl ⟨rfl,rfl⟩)
theorem Zew{a b c dx:Addr}{t:Tot}{stk stk':List V}{l l':List (Option V)}{cz:Bool}(h1:SVs a t.v stk stk')(h2:SOs a t.v l l'):St ⟨stk,l,totL a b c dx t μ,cz⟩ ⟨stk',l',μ,cz⟩ :=
 .frzL (μ1:=[]) (a:=c) (vs:=ZaR t.h) (μ2:=(b,.list (ZaR t.s))::(a,.ins 313 dx [(5,.int t.n),(1,.ref b),(3,.ref c)])::μ) .id .id (.cons (.list .id) (.cons (.ins (.cons .id (.cons .id (.cons .here .id)))) .id))
  (.frzL (μ1:=[]) (a:=b) (vs:=ZaR t.s) (μ2:=(a,.ins 313 dx [(5,.int t.n),(1,.ref b),(3,.lst (ZaR t.h))])::μ) .id .id (.cons (.ins (.cons .id (.cons .here (.cons .id .id)))) .id)
   (.frzI (μ1:=[]) (a:=a) (C:=313) (dx:=dx) (fs:=[(5,.int t.n),(1,.lst (ZaR t.s)),(3,.lst (ZaR t.h))]) (μ2:=μ) h1 h2 .id .refl))
theorem ZeJ{t:Tot}(hn:n+4<900):Zaj G n 296 [t.v] μ (.int (top t.s)):=by
 refine Zae f30_3 (dn hn rfl) rfl λQ qq=>?_
 delta c30_3 Tot.v;refine wf 3 (?_:Y);refine Zaa (Zdm (lw ‹_›)).cx rfl rfl rfl ?_;exact qq.w ⟨rfl,rfl⟩
theorem Zff{t:Tot}(hn:n+4<900):Zaj G n 303 [t.v] μ (.int (top t.h)):=by
 refine Zae f30_4 (dn hn rfl) rfl λQ qq=>?_
 delta c30_4 Tot.v;refine wf 3 (?_:Y);refine Zaa (Zdm (lw ‹_›)).cx rfl rfl rfl ?_;exact qq.w ⟨rfl,rfl⟩
end
end
section
theorem ZfJ:V.none.isNone=true:=rfl
theorem ZfK{i:Int}:(V.int i).isNone=false:=rfl
section
variable{G:Gl}{n:Nat}{μ:Led}
noncomputable def Za2(k w h d:Int)(its:V)(sg o u e:Int):List (Nat×V):=[(6,.int k),(0,.int w),(7,.int h),(8,.int d),(9,its),(10,.int 0),(11,.int sg),(12,.int o),(13,.tup [.int u,.int e])]
theorem Zf8{k w h d:Int}{its:V}{a dx:Addr}(hn:n+6<900)(hk:k=2\/k=3)(hw:Dm w)(hh:Dm h)(hd:Dm d) :
  CodeOK G n 351 [.ref a,.int k,.int w,.int h,.int d,its] ((a,.ins 354 dx [])::μ) (λv μ'=>v=.none/\μ'=(a,.ins 354 dx (Za2 k w h d its 0 0 0 1))::μ) (λz=>False):=by
 refine Zae f38_0 (dn hn rfl) rfl λQ qq=>?_
 unfold c38_0;refine wf 4 (?_:Y);refine Zaa (ZaK (d1 hn rfl) (by lia) (by lia)).cx rfl rfl rfl ?_;refine we 7 [0] rfl (?_:Y);refine Zaa (Zah (lw ‹_›) hw).cx rfl rfl rfl ?_;refine we 4 [0] rfl (?_:Y);refine Zaa (Zah (lw ‹_›) hh).cx rfl rfl rfl ?_;refine we 4 [0] rfl (?_:Y);refine Zaa (Zah (lw ‹_›) hd).cx rfl rfl rfl ?_;refine we 19 [0,0,0,0,0,0] rfl (?_:Y);exact Zad (qq.x _ _ .refl ⟨rfl,rfl⟩)
theorem Zcd{k w h d:Int}{its:V}(hn:n+8<900)(hk:k=2\/k=3)(hw:Dm w)(hh:Dm h)(hd:Dm d):CallX G n (.ref 354) [.int k,.int w,.int h,.int d,its] μ (λv μ'=>∃a dx,v=.ref a/\μ'=(a,.ins 354 dx (Za2 k w h d its 0 0 0 1))::μ) (λz=>False) :=
 (Zdi (C:=354) (fI:=351) (by decide) (dn hn rfl) λa dx=>(Zf8 (lw ‹_›) hk hw hh hd).mono λv μ' q=>⟨q.1,a,dx,rfl,q.2⟩).x
theorem Zdj{k w h d:Int}{its:V}(hn:n+8<900)(hk:k=2\/k=3)(hw:Dm w)(hh:Dm h)(hd:Dm d):Zb9 G n (.ref 354) [.int k,.int w,.int h,.int d,its] μ (.ins 354 (Za2 k w h d its 0 0 0 1)) :=
 Za8 (by decide) (dn hn rfl) λa dx=>Zf8 (lw ‹_›) hk hw hh hd
noncomputable def optV:Option Int->V
 |none=>.none
 |some i=>.int i
def DmO(o:Option Int):Prop:=∀i,o=some i->Dm i
def ZbO(w h d:Option Int):V:=.ins 375 [(0,optV w),(7,optV h),(8,optV d)]
theorem ZdR{w h d:Option Int}(hn:n+8<900)(hw:DmO w)(hh:DmO h)(hd:DmO d):Zb9 G n (.ref 375) [optV w,optV h,optV d] μ (ZbO w h d):=by
 refine Za8 (fI:=372) (by decide) (dn hn rfl) λa dx=>?_
 refine Zae f39_1 (d1 hn rfl) rfl λQ qq=>?_
 unfold c39_1;refine wf 4 (?_:Y);have step:∀{o:Option Int}{rest:List V}{l:List (Option V)}{μ:Led}{k:List IX},DmO o->l.length=9->ForW (CallX G (n+2)) [] (.v 4) [.l 4,.c .none,.cmp .IsNot,.ite [.c (.ref 126),.l 4,.call 1,.pop] []] k Q false 9 rest (l.set 4 (some (optV o))) μ ->
   ForW (CallX G (n+2)) [] (.v 4) [.l 4,.c .none,.cmp .IsNot,.ite [.c (.ref 126),.l 4,.call 1,.pop] []] k Q false 9 (optV o::rest) l μ:=by
  intro o rest l μ k ho hl h;refine Zbb hl (hl▸lb rfl) ?_;refine w_l (v:=optV o) (by rw[List.getElem?_set_self (hl▸lb rfl)]) ?_;refine w_c ?_;cases o with
  |none =>
   refine ZaE .isNN ?_;simp only[optV,ZfJ,ZfK,Bool.not_true,Bool.not_false];refine wr 1 (?_:Y);exact Zdz h
  |some i =>
   refine ZaE .isNN ?_;simp only[optV,ZfJ,ZfK,Bool.not_true,Bool.not_false];refine wr 2 (?_:Y);refine w_l (v:=.int i) (by rw[List.getElem?_set_self (hl▸lb rfl)]) ?_;refine Zaa (Zah (d1 (kja hn) rfl) (ho i rfl)).cx rfl rfl rfl ?_;refine Zbf ?_;exact Zdz h
 refine Zar .tup (.inl rfl) ?_;refine step hw rfl (step hh rfl (step hd rfl (ZaA rfl ?_)));refine wg 9 [0,0,0] rfl (?_:Y);exact Zad (qq.x _ _ .refl ⟨rfl,rfl⟩)
noncomputable def Zdu(w s:Int):V:=.ins 396 [(0,.int w),(14,.int s)]
theorem ZfG{w s:Int}(hn:n+8<900)(hw:Dm w)(h0:0<=s)(h3:s<=3):Zb9 G n (.ref 396) [.int w,.int s] μ (Zdu w s):=by
 refine Za8 (fI:=393) (by decide) (dn hn rfl) λa dx=>?_
 refine Zae f40_1 (d1 hn rfl) rfl λQ qq=>?_
 unfold c40_1;refine wf 4 (?_:Y);refine Zaa (ZaK (d1 (kja hn) rfl) ‹_› ‹_›).cx rfl rfl rfl ?_;refine wr 4 (?_:Y);refine Zaa (Zah (d1 (kja hn) rfl) hw).cx rfl rfl rfl ?_;refine we 5 [0,0] rfl (?_:Y);exact Zad (qq.x _ _ .refl ⟨rfl,rfl⟩)
noncomputable def ZaB(g:V)(s:Int):V:=.ins 418 [(15,g),(14,.int s),(16,.none)]
theorem Zed{g:V}(hn:n+8<900):Zb9 G n (.ref 418) [g,.int 0] μ (ZaB g 0):=by
 refine Za8 (fI:=415) (by decide) (dn hn rfl) λa dx=>?_
 refine Zae ZfW (d1 hn rfl) rfl λQ qq=>?_
 unfold c41_1;refine wf 4 (?_:Y);refine Zaa (ZaK (d1 (kja hn) rfl) (Int.natCast_nonneg _) (Int.natCast_nonneg _)).cx rfl rfl rfl ?_;refine wr 9 (?_:Y);refine Zbo (x:=false) (.int (by decide)) (λh=>by cases h) (λz=>?_);refine ZaE (c:=false) .boolEq ?_;refine we 16 [0,0,0] rfl (?_:Y);exact Zad (qq.x _ _ .refl ⟨rfl,rfl⟩)
theorem ZbK{g:V}(hn:n+8<900):Zb9 G n (.ref 418) [g,.int 109] μ (ZaB g 109):=by
 refine Za8 (fI:=415) (by decide) (dn hn rfl) λa dx=>?_
 refine Zae ZfW (d1 hn rfl) rfl λQ qq=>?_
 unfold c41_1;refine wf 4 (?_:Y);refine Zaa (ZfH (d1 (kja hn) rfl) (by lia)).cx rfl rfl rfl ?_;refine wr 8 (?_:Y);refine Zaa (ZaK (d1 (kja hn) rfl) (by lia) (by lia)).cx rfl rfl rfl ?_;refine wr 7 (?_:Y);refine Zbo (x:=true) (.int (by decide)) (λz=>?_) (λh=>by cases h);refine w_c ?_;refine ZaE (c:=false) (.int rfl) ?_;refine ZaE (c:=false) .boolEq ?_;refine we 16 [0,0,0] rfl (?_:Y);exact Zad (qq.x _ _ .refl ⟨rfl,rfl⟩)
noncomputable def penV(v:Int):V:=.ins 439 [(17,.int v)]
theorem penNew{v:Int}(hn:n+8<900)(h : -2147483647<=v/\v<=2147483647):Zb9 G n (.ref 439) [.int v] μ (penV v):=by
 refine Za8 (fI:=436) (by decide) (dn hn rfl) λa dx=>?_
 refine Zae f42_1 (d1 hn rfl) rfl λQ qq=>?_
 unfold c42_1;refine wf 2 (?_:Y);refine Zaa (ZdG (d1 (kja hn) rfl) h).cx rfl rfl rfl ?_;refine we 2 [0] rfl (?_:Y);exact Zad (qq.x _ _ .refl ⟨rfl,rfl⟩)
noncomputable def ZcP(w h d:Int)(its:V)(sp:Int)(t:V)(up:Bool):V:=.ins 461 [(0,.int w),(7,.int h),(8,.int d),(9,its),(18,.int sp),(19,t),(20,.bool up)]
theorem ZeA{w h d sp:Int}{its t:V}{up:Bool}{vs dvs:List V}{a dx:Addr}(F:∀x,Fx x 458 (sb 43 1) n43_1 dvs false (Str.ofString "Unset.__init__"++(Str.ofString ".<locals>.")) c43_1 [] [some 0,some 1,some 2,some 3,some 4,some 5,some 6,some 7])(hv : .ref a::vs++dvs=[.ref a,.int w,.int h,.int d,its,.int sp,t,.bool up])(hn:n+6<900)(hw:Dm w)(hh:Dm h)(hd:Dm d)(h1:1<=sp)(h2:sp<=2147483647) :
  CodeOK G n 458 (.ref a::vs) ((a,.ins 461 dx [])::μ) (λv μ'=>v=.none/\μ'=(a,.ins 461 dx [(0,.int w),(7,.int h),(8,.int d),(9,its),(18,.int sp),(19,t),(20,.bool up)])::μ) (λz=>False):=by
 refine Zae F (dn hn rfl) (by have:=congrArg List.length hv;simp at this;simp[n43_1];lia) λQ qq=>?_
 have hx:=qq.x;have hr:=qq.r;have he:=qq.e;rw[hv];unfold c43_1;refine wf 4 (?_:Y);refine Zaa (ZaK (d1 hn rfl) ‹_› ‹_›).cx rfl rfl rfl ?_;refine wr 4 (?_:Y);refine Zaa (Zah (lw ‹_›) hw).cx rfl rfl rfl ?_;refine we 4 [0] rfl (?_:Y);refine Zaa (Zah (lw ‹_›) hh).cx rfl rfl rfl ?_;refine we 4 [0] rfl (?_:Y);refine Zaa (Zah (lw ‹_›) hd).cx rfl rfl rfl ?_;refine we 14 [0,0,0,0,0] rfl (?_:Y);exact Zad (hx _ _ .refl ⟨rfl,rfl⟩)
theorem cellNew{w h d sp:Int}{its t:V}(hn:n+8<900)(hw:Dm w)(hh:Dm h)(hd:Dm d)(h1:1<=sp)(h2:sp<=2147483647):Zb9 G n (.ref 461) [.int w,.int h,.int d,its,.int sp,t] μ (ZcP w h d its sp t false) :=
 Za8 (by decide) (dn hn rfl) λa dx=>ZeA f43_1_6 rfl (lw ‹_›) hw hh hd h1 h2
theorem Zez{w h d sp:Int}{its t:V}{up:Bool}(hn:n+8<900)(hw:Dm w)(hh:Dm h)(hd:Dm d)(h1:1<=sp)(h2:sp<=2147483647):Zb9 G n (.ref 461) [.int w,.int h,.int d,its,.int sp,t,.bool up] μ (ZcP w h d its sp t up) :=
 Za8 (by decide) (dn hn rfl) λa dx=>ZeA f43_1_7 rfl (lw ‹_›) hw hh hd h1 h2
end
end
section
section
variable{CK:CKT}{cel:List Nat}{k:List IX}{r:List V}{l:List (Option V)}{μ:Led}{cz:Bool}{Q:Post}{it:V}{items:List V}
theorem Zb3{i:Nat}{c d:List IX}(p:V->Bool)(f:V->V)(hi:Items it items)(hl:i<l.length)(hn:items.length<2^20)
  (hc:∀v∈items,W CK cel c ⟨[],l.set i (some v),μ,cz⟩ ⟨λS=>S=⟨[.bool (p v)],l.set i (some v),μ,cz⟩,λz z=>False,λz=>False⟩)
  (hb:∀v∈items,p v=true->W CK cel d ⟨[],l.set i (some v),μ,cz⟩ ⟨λS=>S=⟨[f v],l.set i (some v),μ,cz⟩,λz z=>False,λz=>False⟩)
  (h:W CK cel k ⟨.lst ((items.filter p).map f)::r,l,μ,cz⟩ Q):W CK cel (.comp (.v i) (.cond c (.emit d))::k) ⟨it::r,l,μ,cz⟩ Q:=by
 refine Zbg hi ?_;have key:∀(rest done:List V) (l':List (Option V)),items=done++rest->(l'=l\/∃x,l'=l.set i x)->Zb2 CK cel (.v i) (.cond c (.emit d)) cz (λacc μ'=>W CK cel k ⟨.lst acc::r,l,μ',cz⟩ Q) rest ((done.filter p).map f) μ l':=by
  intro rest;induction rest with
  |nil=>intro done l' e z;rw[append_nil] at e;subst e;exact h
  |cons v rest ih =>
   intro done l' e hl';have hlen:i<l'.length:=by rcases hl' with rfl|⟨x,rfl⟩<;>simpa using hl
   have e1:l'.set i (some v)=l.set i (some v):=by rcases hl' with rfl|⟨x,rfl⟩<;>simp
   refine⟨⟨_,.v hlen⟩,λl2 hb2=>?_⟩;obtain⟨z,rfl⟩:=hb2.vEq;rw[e1];refine⟨by rw[length_map];have:=List.length_filter_le p done;rw[e] at hn;simp at hn;exact(Nat.lt_of_le_of_lt this (lt0 hn)),?_⟩;first|refine Za7 ?_|refine Zbe ?_|refine Zbd ?_
   have hv:v∈items:=by rw[e];simp
   have nxt:=ih (done++[v]) (l.set i (some v)) (by rw[e];simp) (.inr ⟨_,rfl⟩);rw[List.filter_append,map_append] at nxt;refine Zge c (Q:=⟨λS=>S=⟨[.bool (p v)],l.set i (some v),μ,cz⟩,λz z=>False,λz=>False⟩) (λS hS=>?_) (λz z q=>q) (λz q=>q) (hc v hv);replace hS:S=⟨[.bool (p v)],l.set i (some v),μ,cz⟩:=hS;subst hS;refine⟨p v,[],_,_,_,.refl,rfl,rfl,λhp=>?_,λhp=>?_⟩
   ·refine Za7 (Zge d (Q:=⟨λS=>S=⟨[f v],l.set i (some v),μ,cz⟩,λz z=>False,λz=>False⟩) (λS hS=>?_) (λz z q=>q) (λz q=>q) (hb v hv hp))
    replace hS:S=⟨[f v],l.set i (some v),μ,cz⟩:=hS
    subst hS;refine⟨_,.refl,_,rfl,rfl,?_⟩;simpa [hp] using nxt
   ·simpa [hp] using nxt
 simpa using key items [] l rfl (.inl rfl)
end
section
variable{G:Gl}{n:Nat}{μ:Led}
structure Set4 where
 sg:Int
 o:Int
 u:Int
 e:Int
 r0:Int
 r1:Int
noncomputable def Set4.rat(s:Set4):V:=.tup [.int s.u,.int s.e]
noncomputable def Set4.rep(s:Set4):V:=.tup [.int s.r0,.int s.r1]
noncomputable def Set4.v(s:Set4):V:=.tup [.int s.sg,.int s.o,.tup [.int s.u,.int s.e],.tup [.int s.r0,.int s.r1]]
def Zbl(f:Nat->Int)(e:Int):Set4 :=
 if top f=0 then(if f 0=0 then⟨0,0,0,1,1,bad e (f 0)⟩ else if f 0>0 then⟨1,0,e,f 0,1,bad e (f 0)⟩ else⟨1,0,-e,-f 0,1,bad e (f 0)⟩)
 else if f (top f)>0 then⟨1,top f,e,f (top f),0,0⟩ else⟨1,top f,-e,-f (top f),0,0⟩
def ZaX(f:Nat->Int)(e:Int):Set4 :=
 if top f=0 then
  if f 0<e then(if f 0=0 then⟨0,0,0,1,3,e-f 0⟩ else⟨2,0,1,1,3,e-f 0⟩)
  else(if f 0=0 then⟨0,0,0,1,2,bad e (f 0)⟩ else if f 0>0 then⟨2,0,e,f 0,2,bad e (f 0)⟩ else⟨2,0,-e,-f 0,2,bad e (f 0)⟩)
 else if f (top f)>0 then⟨2,top f,e,f (top f),0,0⟩ else⟨2,top f,-e,-f (top f),0,0⟩
def setG(t:Tot)(e:Int):Set4:=if e=0 then⟨0,0,0,1,0,0⟩ else if e>0 then Zbl t.s e else ZaX t.h (-e)
theorem ZbG{f:Nat->Int}:top f<=3:=by unfold top;split;exact lb rfl;split;exact lb rfl;split<;>exact lb rfl
set_option tactic.hygienic true in
theorem ZcS{f:Nat->Int}(h:top f≠0):f (top f)≠0:=by
 unfold top at h⊢;split
 ·assumption
 ·split
  ·assumption
  ·split
   ·assumption
   ·rename_i a b c;rw[if_neg a,if_neg b,if_neg c] at h;exact absurd rfl h
theorem Zck{u d:Int}(hn:n+2<900):Zaj G n 563 [.int u,.int d] μ (if d>0 then .tup [.int u,.int d] else .tup [.int (-u),.int (-d)]):=by
 refine Zae f60 (dn hn rfl) rfl λQ qq=>?_
 unfold c60;refine wf 3 (?_:Y);refine ZaN (λq=>?_) (λq=>?_)
 ·refine wf 3 (?_:Y)
  refine Zak ?_;simp at q;exact qq.r _ _ ⟨by rw[if_pos q],rfl⟩
 ·refine wf 5 (?_:Y)
  refine Zak ?_;simp at q;exact qq.r _ _ ⟨by rw[if_neg (by lia)],rfl⟩
def TotB(t:Tot):Prop:=∀k,(t.s k).natAbs<2^60/\(t.h k).natAbs<2^60
theorem Zeh{t:Tot}{e:Int}(hn:n+6<900)(hb:TotB t):Zaj G n 570 [t.v,.int e] μ (setG t e).v:=by
 refine Zae f61 (dn hn rfl) rfl λQ qq=>?_
 have hx:=qq.x;have hr:=qq.r;have he:=qq.e;unfold c61;rcases Int.lt_trichotomy e 0 with h|h|h
 ·have d1:decide (e=0)=false:=by simp;lia
  have d2:decide (e>0)=false:=by simp;exact Int.le_of_lt ‹_›
  have d3:decide (e<0)=true:=by simp;assumption
  have hg:setG t e=ZaX t.h (-e):=by unfold setG;rw[if_neg (by lia),if_neg (of_decide_eq_false d2)]
  rw[hg] at hr hx;clear hg;refine wf 3 (?_:Y);refine Zav ‹_› ?_;refine wf 3 (?_:Y);refine Zav ‹_› ?_;refine w_l rfl ?_;refine w_mg (.pi (by rfl) rfl) ?_;refine Zaa (Zff (lw ‹_›)).cx rfl rfl rfl ?_;refine wr 4 (?_:Y);refine Zav ‹_› ?_;unfold Tot.v;refine wr 3 (?_:Y);refine w_gi (ZbP (Int.natCast_nonneg _) (by have:=ZbG (f:=t.h);lia) (by rw[Int.toNat_natCast];exact tget ZbG)) ?_;refine wr 8 (?_:Y);by_cases ht:top t.h=0
  ·have d4:decide ((top t.h:Int)=0)=true:=by simp[ht]
   have hf:t.h (top t.h)=t.h 0:=by rw[ht]
   simp only[d4,hf];refine wr 4 (?_:Y);refine Zav ‹_› ?_;refine wg 6 [0] rfl (?_:Y);rw[if_pos h];refine Zaa (Zf9 (dn (kja hn) rfl) (by lia) (hb 0).2).cx rfl rfl rfl ?_;refine wr 5 (?_:Y);refine ZaO ‹_› ?_;refine wf 3 (?_:Y);refine ZaO ‹_› ?_;refine wf 4 (?_:Y);by_cases h5:t.h 0 < -e
   ·have d5:decide (t.h 0 < -e)=true:=by simp[h5]
    refine ZaO ‹_› ?_;refine wf 10 (?_:Y);by_cases h6:t.h 0=0
    ·have d6:decide (t.h 0=0)=true:=by simp[h6]
     refine ZaO ‹_› ?_;refine wf 7 (?_:Y);exact Zak (hr _ _ ⟨by rw[ZaX,if_pos ht,if_pos h5,if_pos h6];rfl,rfl⟩)
    ·have d6:decide (t.h 0=0)=false:=by simp[h6]
     refine Zav ‹_› ?_;refine wf 13 (?_:Y);exact Zak (hr _ _ ⟨by rw[ZaX,if_pos ht,if_pos h5,if_neg h6,ht];rfl,rfl⟩)
   ·have d5:decide (t.h 0 < -e)=false:=by simp;exact(Int.not_lt.mp h5)
    refine Zav ‹_› ?_;refine wf 3 (?_:Y);by_cases h6:t.h 0=0
    ·have d6:decide (t.h 0=0)=true:=by simp[h6]
     refine ZaO ‹_› ?_;refine wf 7 (?_:Y);exact Zak (hr _ _ ⟨by rw[ZaX,if_pos ht,if_neg h5,if_pos h6];rfl,rfl⟩)
    ·have d6:decide (t.h 0=0)=false:=by simp[h6]
     refine Zav ‹_› ?_;refine wf 9 (?_:Y);refine Zav ‹_› ?_;refine wg 7 [0] rfl (?_:Y);rw[if_pos h];refine Zaa (Zck (dn (kja hn) rfl)).cx rfl rfl rfl ?_;refine wr 2 (?_:Y);refine Zak ?_;refine hr _ _ ⟨?_,rfl⟩;rw[ZaX,if_pos ht,if_neg h5,if_neg h6,ht];split<;>rfl
  ·have d4:decide ((top t.h:Int)=0)=false:=by simp;assumption
   have d6:decide (t.h (top t.h)=0)=false:=by simp[ZcS ht]
   refine Zav ‹_› ?_;refine wf 3 (?_:Y);refine Zav ‹_› ?_;refine wf 5 (?_:Y);refine Zav ‹_› ?_;refine wf 9 (?_:Y);refine Zav ‹_› ?_;refine wg 7 [0] rfl (?_:Y);rw[if_pos h];refine Zaa (Zck (dn (kja hn) rfl)).cx rfl rfl rfl ?_;refine wr 2 (?_:Y);refine Zak ?_;refine hr _ _ ⟨?_,rfl⟩;rw[ZaX,if_neg ht];split<;>rfl
 ·have d1:decide (e=0)=true:=by simp[h]
  have hg:setG t e=⟨0,0,0,1,0,0⟩:=by unfold setG;rw[if_pos h]
  rw[hg] at hr hx;refine wf 3 (?_:Y);refine ZaO ‹_› ?_;refine wf 9 (?_:Y);exact Zak (hr _ _ ⟨rfl,rfl⟩)
 ·have d1:decide (e=0)=false:=by simp;exact(Int.ne_of_gt h)
  have d2:decide (e>0)=true:=by simp;assumption
  have d3:decide (e<0)=false:=by simp;exact Int.le_of_lt ‹_›
  have hg:setG t e=Zbl t.s e:=by unfold setG;rw[if_neg (Int.ne_of_gt h),if_pos ‹_›]
  rw[hg] at hr hx;clear hg;refine wf 3 (?_:Y);refine Zav ‹_› ?_;refine wf 3 (?_:Y);refine ZaO ‹_› ?_;refine w_l rfl ?_;refine w_mg (.pi (by rfl) rfl) ?_;refine Zaa (ZeJ (lw ‹_›)).cx rfl rfl rfl ?_;refine wr 4 (?_:Y);refine ZaO ‹_› ?_;unfold Tot.v;refine wr 3 (?_:Y);refine w_gi (ZbP (Int.natCast_nonneg _) (by have:=ZbG (f:=t.s);lia) (by rw[Int.toNat_natCast];exact tget ZbG)) ?_;refine wr 8 (?_:Y);by_cases ht:top t.s=0
  ·have d4:decide ((top t.s:Int)=0)=true:=by simp[ht]
   have hf:t.s (top t.s)=t.s 0:=by rw[ht]
   simp only[d4,hf];refine wr 4 (?_:Y);refine ZaO ‹_› ?_;refine wg 6 [0] rfl (?_:Y);rw[if_neg (by lia)];refine Zaa (Zf9 (dn (kja hn) rfl) (Int.le_of_lt ‹_›) (hb 0).1).cx rfl rfl rfl ?_;refine wr 5 (?_:Y);refine ZaO ‹_› ?_;refine wf 3 (?_:Y);refine Zav ‹_› ?_;refine wf 5 (?_:Y);by_cases h6:t.s 0=0
   ·have d6:decide (t.s 0=0)=true:=by simp[h6]
    refine ZaO ‹_› ?_;refine wf 7 (?_:Y);exact Zak (hr _ _ ⟨by rw[Zbl,if_pos ht,if_pos h6];rfl,rfl⟩)
   ·have d6:decide (t.s 0=0)=false:=by simp[h6]
    refine Zav ‹_› ?_;refine wf 9 (?_:Y);refine ZaO ‹_› ?_;refine wg 7 [0] rfl (?_:Y);rw[if_neg (by lia)];refine Zaa (Zck (dn (kja hn) rfl)).cx rfl rfl rfl ?_;refine wr 2 (?_:Y);refine Zak ?_;refine hr _ _ ⟨?_,rfl⟩;rw[Zbl,if_pos ht,if_neg h6,ht];split<;>rfl
  ·have d4:decide ((top t.s:Int)=0)=false:=by simp;assumption
   have d6:decide (t.s (top t.s)=0)=false:=by simp[ZcS ht]
   refine Zav ‹_› ?_;refine wf 3 (?_:Y);refine Zav ‹_› ?_;refine wf 5 (?_:Y);refine Zav ‹_› ?_;refine wf 9 (?_:Y);refine ZaO ‹_› ?_;refine wg 7 [0] rfl (?_:Y);rw[if_neg (by lia)];refine Zaa (Zck (dn (kja hn) rfl)).cx rfl rfl rfl ?_;refine wr 2 (?_:Y);refine Zak ?_;refine hr _ _ ⟨?_,rfl⟩;rw[Zbl,if_neg ht];split<;>rfl
end
end
section
section
variable{CK:CKT}{cel:List Nat}{t:Tg}{b k:List IX}{Q:Post}{cz:Bool}{l:List (Option V)}{μ:Led}
structure Turn(CK:CKT)(cel:List Nat)(t:Tg)(b k:List IX)(Q:Post)(cz:Bool)(n:Nat)(rest:List V)(Q':Post):Prop where
 nx:∀l μ,ForW CK cel t b k Q cz n rest l μ->∀S,St S ⟨[],l,μ,cz⟩->Q'.nx S
 rt:∀v μ,Q.rt v μ->Q'.rt v μ
 ex:∀C,Q.ex C->Q'.ex C
theorem forV{n i:Nat}{v:V}{rest:List V}(hl:l.length=n)(hi:i<l.length)(h:∀Q',Turn CK cel (.v i) b k Q cz n rest Q'->W CK cel b ⟨[],l.set i (some v),μ,cz⟩ Q'):ForW CK cel (.v i) b k Q cz n (v::rest) l μ :=
 Zbb hl hi (h _ ⟨λl μ f S t=>⟨_,t,rfl,rfl,f⟩,λz z h=>h,λz h=>h⟩)
theorem forT{n:Nat}{is:List Nat}{vs rest:List V}(hl:l.length=n)(hi:∀i∈is,i<l.length)(hv:is.length=vs.length)(h:∀Q',Turn CK cel (.t is) b k Q cz n rest Q'->W CK cel b ⟨[],ZbJ is vs l,μ,cz⟩ Q'):ForW CK cel (.t is) b k Q cz n (.tup vs::rest) l μ :=
 forConsT hl hi hv (h _ ⟨λl μ f S t=>⟨_,t,rfl,rfl,f⟩,λz z h=>h,λz h=>h⟩)
end
section
variable{G:Gl}{n:Nat}{μ:Led}
theorem ZfO{g:V}{s:Int}(hn:n+2<900):Zaj G n 501 [ZaB g s] μ (.int 0):=by
 refine Zae f49 (dn hn rfl) rfl λQ qq=>?_
 delta c49 ZaB;refine wf 41 (?_:Y);exact qq.w ⟨rfl,rfl⟩
theorem depth_sk{g:V}{s:Int}(hn:n+2<900):Zaj G n 506 [ZaB g s] μ (.int 0):=by
 refine Zae f50 (dn hn rfl) rfl λQ qq=>?_
 delta c50 ZaB;refine wf 41 (?_:Y);exact qq.w ⟨rfl,rfl⟩
noncomputable def bxF(k w h:Int):V:=.ins 354 [(6,.int k),(0,.int w),(7,.int h),(8,.int 0),(9,.lst []),(10,.int 0),(11,.int 0),(12,.int 0),(13,.tup [.int 0,.int 1])]
theorem Zd6{w h:Int}(hn:n+2<900):Zaj G n 496 [bxF 2 w h] μ (.int w):=by
 refine Zae f48 (dn hn rfl) rfl λQ qq=>?_
 delta c48 bxF;refine wf 19 (?_:Y);exact qq.w ⟨rfl,rfl⟩
theorem Zdw{w h:Int}(hn:n+2<900):Zaj G n 501 [bxF 3 w h] μ (.int h):=by
 refine Zae f49 (dn hn rfl) rfl λQ qq=>?_
 delta c49 bxF;refine wf 23 (?_:Y);exact qq.w ⟨rfl,rfl⟩
theorem Zey{w h:Int}(hn:n+2<900):Zaj G n 506 [bxF 3 w h] μ (.int 0):=by
 refine Zae f50 (dn hn rfl) rfl λQ qq=>?_
 delta c50 bxF;refine wf 23 (?_:Y);exact qq.w ⟨rfl,rfl⟩
theorem ZeU{g:V}{s:Int}(hn:n+4<900):Zaj G n 513 [ZaB g s] μ (.int 0):=by
 refine Zae f51 (dn hn rfl) rfl λQ qq=>?_
 delta c51 ZaB;refine wf 12 (?_:Y);refine Zaa (ZfO (lw ‹_›)).cx rfl rfl rfl ?_;exact qq.w ⟨rfl,rfl⟩
theorem Zfy{g:V}{s:Int}(hn:n+4<900):Zaj G n 520 [ZaB g s] μ (.int 0):=by
 refine Zae f52 (dn hn rfl) rfl λQ qq=>?_
 delta c52 ZaB;refine wf 12 (?_:Y);refine Zaa (depth_sk (lw ‹_›)).cx rfl rfl rfl ?_;exact qq.w ⟨rfl,rfl⟩
theorem ZeV{w:Int}(hn:n+4<900):Zaj G n 513 [bxF 2 w 0] μ (.int 0):=by
 refine Zae f51 (dn hn rfl) rfl λQ qq=>?_
 delta c51 bxF;refine wf 12 (?_:Y);exact qq.w ⟨rfl,rfl⟩
theorem Zfz{w:Int}(hn:n+4<900):Zaj G n 520 [bxF 2 w 0] μ (.int 0):=by
 refine Zae f52 (dn hn rfl) rfl λQ qq=>?_
 delta c52 bxF;refine wf 12 (?_:Y);exact qq.w ⟨rfl,rfl⟩
theorem Zgc{g:V}{s:Int}(hn:n+4<900):Zaj G n 542 [ZaB g s] μ (.int 0):=by
 refine Zae f57 (dn hn rfl) rfl λQ qq=>?_
 delta c57 ZaB;refine wf 21 (?_:Y);exact qq.w ⟨rfl,rfl⟩
theorem Zgd{h:Int}(hn:n+4<900):Zaj G n 542 [bxF 3 0 h] μ (.int 0):=by
 refine Zae f57 (dn hn rfl) rfl λQ qq=>?_
 delta c57 bxF;refine wf 15 (?_:Y);exact qq.w ⟨rfl,rfl⟩
inductive Pn where
 |sk (g:Gu)|bx (x:Int)
noncomputable def Pn.v:Bool->Pn->V
 |_,.sk g=>ZaB g.v 109
 |true,.bx x=>bxF 3 0 x
 |false,.bx x=>bxF 2 x 0
noncomputable def Pn.to(t:Tot):Pn->Tot
 |.sk g=>t.add g
 |.bx x=>t.widen x
noncomputable def Pn.ok:Pn->Prop
 |.sk g=>g.so<=3/\g.ho<=3
 |.bx _=>True
noncomputable def Zaf(ps:List Pn):Tot:=ps.foldl Pn.to Tot.zero
theorem Zbx{ps:List Pn}(hn:n+8<900)(hp:∀p∈ps,p.ok):Zaj G n 535 [.lst (ps.map (Pn.v false))] μ (.tup [(Zaf ps).v,.int 0,.int 0]):=by
 refine Zae f56 (dn hn rfl) rfl λQ qq=>?_
 delta c56;refine w_c ?_;refine Zab (Zd8 (d1 hn rfl)) (vs:=[]) rfl rfl rfl (λv μ' q=>?_) (λz q=>q.elim);obtain⟨a,b,c,dx,rfl,rfl⟩:=q;refine wr 8 (?_:Y);refine Zar .lst (.inl rfl) ?_;have key:∀(qs:List Pn) (t:Tot) (x:Option V) (L:V),(∀p∈qs,p.ok)->qs.foldl Pn.to t=Zaf ps->ForW (CallX G (n+1)) [] (.v 4) b56_1 [.l 1,.l 2,.l 3,.tup 3,.ret] Q false 9 (qs.map (Pn.v false)) [some L,some (.ref a),some (.int 0),some (.int 0),x,none,none,none,none] (totL a b c dx t μ):=by
  intro qs;induction qs with
  |nil =>
   intro t x L z ht;refine ZaA rfl ?_;refine w_st (Zew (l':=[some L,some t.v,some (.int 0),some (.int 0),x,none,none,none,none]) .id (.cons (.sm .here .id))) ?_;refine wr 4 (?_:Y);exact qq.w ⟨by rw[<- ht];rfl,rfl⟩
  |cons p qs ih =>
   intro t x L hok ht;refine forV rfl (by exact lb rfl) λQ' T=>?_
   have hok':∀p∈qs,p.ok:=λq hq=>hok q (.tail _ hq)
   have ho:=hok p (.head _);delta b56_1;cases p with
   |sk g =>
    have e:Pn.v false (.sk g)=.ins 418 [(15,g.v),(14,.int 109),(16,.none)]:=rfl;rw[e];refine wr 6 (?_:Y);refine w_mg (.mi (.tail _ (.tail _ (.head _))) (by rfl) rfl) ?_;refine wr 2 (?_:Y);refine Zab (Ze9 (d1 hn rfl) ho.1 ho.2).cx (vs:=[.ref a,g.v]) rfl rfl rfl (λv μ' q=>?_) (λz q=>q.elim);obtain⟨rfl,rfl⟩:=q;refine wr 5 (?_:Y);refine Zaa (ZeU (d1 hn rfl)).cx rfl rfl rfl ?_;refine we 6 [2] rfl (?_:Y);refine Zaa (Zfy (d1 hn rfl)).cx rfl rfl rfl ?_;refine we 2 [2] rfl (?_:Y);exact Zad (T.nx _ _ (ih (t.add g) _ L hok' ht) _ .refl)
   |bx w =>
    have e:Pn.v false (.bx w)=.ins 354 [(6,.int 2),(0,.int w),(7,.int 0),(8,.int 0),(9,.lst []),(10,.int 0),(11,.int 0),(12,.int 0),(13,.tup [.int 0,.int 1])]:=rfl;rw[e];refine wr 6 (?_:Y);refine w_mg (.mi (.tail _ (.tail _ (.head _))) (by rfl) rfl) ?_;refine wr 2 (?_:Y);refine Zaa (Zd6 (d1 hn rfl)).cx rfl rfl rfl ?_;refine Zab (Zci (d1 hn rfl)).cx (vs:=[.ref a,.int w]) rfl rfl rfl (λv μ' q=>?_) (λz q=>q.elim);obtain⟨rfl,rfl⟩:=q;refine wr 5 (?_:Y);refine Zaa (ZeV (d1 hn rfl)).cx rfl rfl rfl ?_;refine we 6 [2] rfl (?_:Y);refine Zaa (Zfz (d1 hn rfl)).cx rfl rfl rfl ?_;refine we 2 [2] rfl (?_:Y);exact Zad (T.nx _ _ (ih (t.widen w) _ L hok' ht) _ .refl)
 exact key ps Tot.zero none _ hp rfl
theorem Zcc{ps:List Pn}(hn:n+4<900):Zaj G n 549 [.lst (ps.map (Pn.v true))] μ .none:=by
 refine Zae f58 (dn hn rfl) rfl λQ qq=>?_
 delta c58;refine w_l rfl ?_;refine Zar .lst (.inl rfl) ?_;have key:∀(qs:List Pn) (x:Option V) (L:V),ForW (CallX G (n+1)) [] (.v 1) b58_1 [] Q false 6 (qs.map (Pn.v true)) [some L,x,none,none,none,none] μ:=by
  intro qs;induction qs with
  |nil =>
   intro x L;exact ZaA rfl (Zad (qq.x _ _ .refl ⟨rfl,rfl⟩))
  |cons p qs ih =>
   intro x L;refine forV rfl (by exact lb rfl) λQ' T=>?_
   delta b58_1;cases p with
   |sk g =>
    have e:Pn.v true (.sk g)=.ins 418 [(15,g.v),(14,.int 109),(16,.none)]:=rfl;rw[e];refine wr 20 (?_:Y);exact Zad (T.nx _ _ (ih _ L) _ .refl)
   |bx w =>
    have e:Pn.v true (.bx w)=.ins 354 [(6,.int 3),(0,.int 0),(7,.int w),(8,.int 0),(9,.lst []),(10,.int 0),(11,.int 0),(12,.int 0),(13,.tup [.int 0,.int 1])]:=rfl;rw[e];refine wr 20 (?_:Y);exact Zad (T.nx _ _ (ih _ L) _ .refl)
 exact key ps none _
theorem Zbh{ps:List Pn}(hn:n+8<900)(hp:∀p∈ps,p.ok):Zaj G n 556 [.lst (ps.map (Pn.v true))] μ (.tup [(Zaf ps).v,.int 0,.int 0]):=by
 refine Zae f59 (dn hn rfl) rfl λQ qq=>?_
 delta c59;refine wf 2 (?_:Y);refine Zaa (Zcc (d1 hn rfl)).cx rfl rfl rfl ?_;refine wr 2 (?_:Y);refine Zab (Zd8 (d1 hn rfl)) (vs:=[]) rfl rfl rfl (λv μ' q=>?_) (λz q=>q.elim);obtain⟨a,b,c,dx,rfl,rfl⟩:=q;refine wr 8 (?_:Y);refine Zar .lst (.inl rfl) ?_;have key:∀(qs:List Pn) (t:Tot) (x:Option V) (L:V),(∀p∈qs,p.ok)->qs.foldl Pn.to t=Zaf ps->ForW (CallX G (n+1)) [] (.v 4) b59_1 [.l 1,.l 2,.l 3,.tup 3,.ret] Q false 9 (qs.map (Pn.v true)) [some L,some (.ref a),some (.int 0),some (.int 0),x,none,none,none,none] (totL a b c dx t μ):=by
  intro qs;induction qs with
  |nil =>
   intro t x L z ht;refine ZaA rfl ?_;refine w_st (Zew (l':=[some L,some t.v,some (.int 0),some (.int 0),x,none,none,none,none]) .id (.cons (.sm .here .id))) ?_;refine wr 4 (?_:Y);exact qq.w ⟨by rw[<- ht];rfl,rfl⟩
  |cons p qs ih =>
   intro t x L hok ht;refine forV rfl (by exact lb rfl) λQ' T=>?_
   have hok':∀p∈qs,p.ok:=λq hq=>hok q (.tail _ hq)
   have ho:=hok p (.head _);delta b59_1;cases p with
   |sk g =>
    have e:Pn.v true (.sk g)=.ins 418 [(15,g.v),(14,.int 109),(16,.none)]:=rfl;rw[e];refine wr 4 (?_:Y);refine Zaa (Zgc (d1 hn rfl)).cx rfl rfl rfl ?_;refine we 8 [2] rfl (?_:Y);refine w_mg (.mi (.tail _ (.tail _ (.head _))) (by rfl) rfl) ?_;refine w_l rfl ?_;refine Zab (Zci (d1 hn rfl)).cx (vs:=[.ref a,.int 0]) rfl rfl rfl (λv μ' q=>?_) (λz q=>q.elim);obtain⟨rfl,rfl⟩:=q;refine wr 2 (?_:Y);refine w_mg (.mi (.tail _ (.tail _ (.head _))) (by rfl) rfl) ?_;refine wr 2 (?_:Y);refine Zab (Ze9 (d1 hn rfl) ho.1 ho.2).cx (vs:=[.ref a,g.v]) rfl rfl rfl (λv μ' q=>?_) (λz q=>q.elim);obtain⟨rfl,rfl⟩:=q;refine wr 3 (?_:Y);exact Zad (T.nx _ _ (ih ((t.widen 0).add g) _ L hok' (by rw[<- ht];show _=List.foldl Pn.to (t.add g) qs;congr 1;simp[Tot.add,Tot.widen])) _ .refl)
   |bx w =>
    have e:Pn.v true (.bx w)=.ins 354 [(6,.int 3),(0,.int 0),(7,.int w),(8,.int 0),(9,.lst []),(10,.int 0),(11,.int 0),(12,.int 0),(13,.tup [.int 0,.int 1])]:=rfl;rw[e];refine wr 4 (?_:Y);refine Zaa (Zgd (d1 hn rfl)).cx rfl rfl rfl ?_;refine we 25 [2] rfl (?_:Y);refine w_mg (.mi (.tail _ (.tail _ (.head _))) (by rfl) rfl) ?_;refine wr 3 (?_:Y);refine Zaa (Zdw (d1 hn rfl)).cx rfl rfl rfl ?_;refine Zao .add ?_;refine Zab (Zci (d1 hn rfl)).cx (vs:=[.ref a,.int (0+w)]) rfl rfl rfl (λv μ' q=>?_) (λz q=>q.elim);obtain⟨rfl,rfl⟩:=q;refine wr 3 (?_:Y);refine Zaa (Zey (d1 hn rfl)).cx rfl rfl rfl ?_;refine wr 1 (?_:Y);exact Zad (T.nx _ _ (ih (t.widen (0+w)) _ L hok' (by rw[<- ht,Int.zero_add];rfl)) _ .refl)
 exact key ps Tot.zero none _ hp rfl
end
end
section
section
variable{G:Gl}{n:Nat}{μ:Led}
def boxV(k w h d:Int)(its:V)(s:Set4):V:=.ins 354 (Za2 k w h d its s.sg s.o s.u s.e)
def Za3(s:Set4)(g:Gu):Int:=if s.sg=1/\(g.so:Int)=s.o then g.st else if s.sg=2/\(g.ho:Int)=s.o then -g.sh else 0
theorem flex{k w h d:Int}{its:V}{s:Set4}{g:Gu}(hn:n+2<900):Zaj G n 577 [boxV k w h d its s,g.v] μ (.int (Za3 s g)):=by
 refine Zae f62 (dn hn rfl) rfl λQ qq=>?_
 delta c62 boxV Za2 Gu.v;refine wf 4 (?_:Y);have fin:Za3 s g=(if s.sg=2/\(g.ho:Int)=s.o then -g.sh else 0)->W (CallX G (n+1)) [] [.l 0,.at 11,.c (.int 2),.cmp .Eq,.ite [.l 1,.at 4,.l 0,.at 12,.cmp .Eq] [.c (.bool false)],.ite [.l 1,.at 3,.neg,.ret] [],.c (.int 0),.ret]
   ⟨[],[some (.ins 354 [(6,.int k),(0,.int w),(7,.int h),(8,.int d),(9,its),(10,.int 0),(11,.int s.sg),(12,.int s.o),(13,.tup [.int s.u,.int s.e])]),some (.ins 250 [(0,.int g.w),(1,.int g.st),(2,.int g.so),(3,.int g.sh),(4,.int g.ho)]),none,none,none,none],μ,false⟩ Q:=by
  intro hf;refine wr 4 (?_:Y);by_cases q2:s.sg=2
  ·have d:decide (s.sg=2)=true:=by simp[q2]
   refine ZaO ‹_› ?_;refine wf 5 (?_:Y);by_cases q3:(g.ho:Int)=s.o
   ·have d:decide ((g.ho:Int)=s.o)=true:=by simp[q3]
    refine ZaO ‹_› ?_;refine wf 3 (?_:Y);exact qq.w ⟨by rw[hf,if_pos ⟨q2,q3⟩],rfl⟩
   ·have d:decide ((g.ho:Int)=s.o)=false:=by simp[q3]
    refine Zav ‹_› ?_;simp only[cons_append,nil_append];refine w_c ?_;exact qq.w ⟨by rw[hf,if_neg λq=>q3 q.2],rfl⟩
  ·have d:decide (s.sg=2)=false:=by simp[q2]
   refine Zav ‹_› ?_;refine wf 3 (?_:Y);exact qq.w ⟨by rw[hf,if_neg λq=>q2 q.1],rfl⟩
 by_cases q1:s.sg=1
 ·have d:decide (s.sg=1)=true:=by simp[q1]
  refine ZaO ‹_› ?_;refine wf 5 (?_:Y);by_cases q3:(g.so:Int)=s.o
  ·have d:decide ((g.so:Int)=s.o)=true:=by simp[q3]
   refine ZaO ‹_› ?_;refine wf 2 (?_:Y);exact qq.w ⟨by rw[Za3,if_pos ⟨q1,q3⟩],rfl⟩
  ·have d:decide ((g.so:Int)=s.o)=false:=by simp[q3]
   simp only[d];refine ZaT ?_;exact fin (by rw[Za3,if_neg λq=>q3 q.2])
 ·have d:decide (s.sg=1)=false:=by simp[q1]
  simp only[d];refine ZaT ?_;simp only[cons_append,nil_append];refine w_c ?_;refine ZaT ?_;exact fin (by rw[Za3,if_neg λq=>q1 q.1])
def Zd5(s:Set4):Prop:=s.u.natAbs<2^64/\0<s.e/\s.e<2^60
theorem Zeg{k w h d fl:Int}{its:V}{s:Set4}(hn:n+4<900)(hs:Zd5 s):Zaj G n 584 [boxV k w h d its s,.int fl] μ (.int (rnd (s.u*fl) s.e)):=by
 refine Zae f63 (dn hn rfl) rfl λQ qq=>?_
 delta c63 boxV Za2;refine wf 6 (?_:Y);refine Zao (.mul (.inl hs.1)) ?_;refine wr 4 (?_:Y);refine Zaa (rounded (lw ‹_›) hs.2.1 hs.2.2).cx rfl rfl rfl ?_;exact qq.w ⟨rfl,rfl⟩
theorem ZeT{w h d x:Int}{its:V}{s:Set4}(hn:n+4<900):Zaj G n 591 [boxV 2 w h d its s,bxF 2 x 0] μ (.int x):=by
 refine Zae f64 (dn hn rfl) rfl λQ qq=>?_
 delta c64 boxV Za2;refine wf 7 (?_:Y);refine Zaa (Zd6 (lw ‹_›)).cx rfl rfl rfl ?_;exact qq.w ⟨rfl,rfl⟩
theorem ZeS{w h d x:Int}{its:V}{s:Set4}(hn:n+4<900):Zaj G n 591 [boxV 3 w h d its s,bxF 3 0 x] μ (.int x):=by
 refine Zae f64 (dn hn rfl) rfl λQ qq=>?_
 delta c64 boxV Za2;have e:bxF 3 0 x=.ins 354 [(6,.int 3),(0,.int 0),(7,.int x),(8,.int 0),(9,.lst []),(10,.int 0),(11,.int 0),(12,.int 0),(13,.tup [.int 0,.int 1])]:=rfl;rw[e];refine wf 12 (?_:Y);refine Zaa (Zdw (h:=x) (w:=0) (lw ‹_›)).cx rfl rfl rfl ?_;refine wr 2 (?_:Y);refine Zaa (Zey (h:=x) (w:=0) (lw ‹_›)).cx rfl rfl rfl ?_;refine Zao .add ?_;exact qq.w ⟨by rw[Int.add_zero],rfl⟩
noncomputable def ZaP(s:Set4):List Pn->Int->Int->List Int
 |[],_,_=>[]
 |.sk g::r,fx,fl=>(fx+g.w+rnd (s.u*(fl+Za3 s g)) s.e)::ZaP s r (fx+g.w) (fl+Za3 s g)
 |.bx x::r,fx,fl=>(fx+x+rnd (s.u*fl) s.e)::ZaP s r (fx+x) fl
theorem plN{s x y}:ZaP s [] x y=[]:=rfl
theorem plS{s g r x y}:ZaP s (.sk g::r) x y=(x+g.w+rnd (s.u*(y+Za3 s g)) s.e)::ZaP s r (x+g.w) (y+Za3 s g):=rfl
theorem plB{s b r x y}:ZaP s (.bx b::r) x y=(x+b+rnd (s.u*y) s.e)::ZaP s r (x+b) y:=rfl
noncomputable def kOf(up:Bool):Int:=if up then 3 else 2
theorem places{up:Bool}{w h d:Int}{ps:List Pn}{s:Set4}(hn:n+6<900)(hs:Zd5 s)(hlen:ps.length<2^18) :
  Zaj G n 598 [boxV (kOf up) w h d (.lst (ps.map (Pn.v up))) s] μ (.lst ((0::ZaP s ps 0 0).map .int)):=by
 refine Zae f65 (dn hn rfl) rfl λQ qq=>?_
 have key:∀(B:V) (qs:List Pn) (done:List Int) (fx fl:Int) (x:Option V) (fd:Addr),B=boxV (kOf up) w h d (.lst (ps.map (Pn.v up))) s->done.length+qs.length<2^20->done++ZaP s qs fx fl=0::ZaP s ps 0 0 ->
   ForW (CallX G (n+1)) [] (.v 4) b65_1 [.l 1,.ret] Q false 9 (qs.map (Pn.v up)) [some B,some (.ref fd),some (.int fx),some (.int fl),x,none,none,none,none] ((fd,.list (done.map .int))::μ):=by
  intro B qs;induction qs with
  |nil =>
   intro done fx fl x fd eB hl e;refine ZaA rfl ?_;refine w_st (.frzL (μ1:=[]) (l':=[some B,some (.lst (done.map .int)),some (.int fx),some (.int fl),x,none,none,none,none]) .id (.cons (.sm .here .id)) .id .refl) ?_;refine w_l rfl ?_;exact qq.w ⟨by rw[<- e];simp[plN,plS,plB],rfl⟩
  |cons p qs ih =>
   intro done fx fl x fd eB hl e;refine forV rfl (by exact lb rfl) λQ' T=>?_
   simp only[set_cons_succ,set_cons_zero];delta b65_1;cases p with
   |sk g =>
    have e1:Pn.v up (.sk g)=.ins 418 [(15,g.v),(14,.int 109),(16,.none)]:=by cases up<;>rfl
    rw[e1];refine wr 16 (?_:Y);rw[eB];refine Zaa (flex (by lia)).cx rfl rfl rfl ?_;refine wr 3 (?_:Y);refine w_mg (.app (.head _)) ?_;refine wr 4 (?_:Y);refine Zaa (Zeg (lw ‹_›) hs).cx rfl rfl rfl ?_;refine Zao .add ?_;refine ZaG (by simp at hl⊢;lia) .head ?_;refine Zbf ?_;have:=ih (done++[fx+g.w+rnd (s.u*(fl+Za3 s g)) s.e]) (fx+g.w) (fl+Za3 s g) (some (.ins 418 [(15,g.v),(14,.int 109),(16,.none)])) fd eB (by simp at hl⊢;lia) (by rw[<- e];simp[plN,plS,plB]);rw[map_append,eB] at this;exact Zad (T.nx _ _ this _ .refl)
   |bx y =>
    have hsz:Zaj G (n+1) 591 [boxV (kOf up) w h d (.lst (ps.map (Pn.v up))) s,Pn.v up (.bx y)] ((fd,.list (done.map .int))::μ) (.int y):=by
     cases up with
     |true=>exact ZeS (lw ‹_›)
     |false=>exact ZeT (lw ‹_›)
    have e1:∃a1 a2,Pn.v up (.bx y)=.ins 354 [(6,.int (kOf up)),(0,.int a1),(7,.int a2),(8,.int 0),(9,.lst []),(10,.int 0),(11,.int 0),(12,.int 0),(13,.tup [.int 0,.int 1])]:=by cases up<;>exact⟨_,_,rfl⟩
    obtain⟨a1,a2,e1⟩:=e1;rw[e1] at hsz⊢;have e3:decide (kOf up=6)=false:=by cases up<;>rfl
    refine wr 4 (?_:Y);simp only[e3];refine wr 5 (?_:Y);rw[eB];refine Zaa hsz.cx rfl rfl rfl ?_;refine wr 3 (?_:Y);refine w_mg (.app (.head _)) ?_;refine wr 4 (?_:Y);refine Zaa (Zeg (lw ‹_›) hs).cx rfl rfl rfl ?_;refine Zao .add ?_;refine ZaG (by simp at hl⊢;lia) .head ?_;refine Zbf ?_;have:=ih (done++[fx+y+rnd (s.u*fl) s.e]) (fx+y) fl (some (.ins 354 [(6,.int (kOf up)),(0,.int a1),(7,.int a2),(8,.int 0),(9,.lst []),(10,.int 0),(11,.int 0),(12,.int 0),(13,.tup [.int 0,.int 1])])) fd eB (by simp at hl⊢;lia) (by rw[<- e];simp[plN,plS,plB]);rw[map_append,eB] at this;exact Zad (T.nx _ _ this _ .refl)
 delta c65 boxV Za2;have e3:decide (kOf up=3)=up:=by cases up<;>rfl
 refine wf 4 (?_:Y);simp only[e3];cases up with
 |true =>
  refine wr 4 (?_:Y);refine Zaa (Zcc (lw ‹_›)).cx rfl rfl rfl ?_;refine wr 2 (?_:Y);refine ZaH (vs:=[_]) rfl rfl λfd=>?_
  refine wr 9 (?_:Y);refine Zar .lst (.inl rfl) ?_;exact key _ ps [0] 0 0 none fd rfl (by simp;lia) rfl
 |false =>
  refine wr 2 (?_:Y);refine ZaH (vs:=[_]) rfl rfl λfd=>?_
  refine wr 9 (?_:Y);refine Zar .lst (.inl rfl) ?_;exact key _ ps [0] 0 0 none fd rfl (by simp;lia) rfl
theorem ZbV{own m am:Int}(hn:n+6<900)(hm:m=0\/m=1)(ha:Dm am):Zaj G n 612 [.int own,.int m,.int am] μ (.int (if m=0 then am else own+am)):=by
 refine Zae f67 (dn hn rfl) rfl λQ qq=>?_
 delta c67;rcases hm with rfl|rfl
 ·refine wf 8 (?_:Y)
  refine Zaa (Zah (lw ‹_›) ha).cx rfl rfl rfl ?_;refine wr 6 (?_:Y);exact qq.w ⟨rfl,rfl⟩
 ·refine wf 10 (?_:Y)
  refine Zaa (Zah (lw ‹_›) ha).cx rfl rfl rfl ?_;refine wr 8 (?_:Y);exact qq.w ⟨rfl,rfl⟩
theorem Zet{own m am:Int}(hn:n+6<900)(hm:m=0\/m=1)(ha:¬Dm am):ZaQ G n 612 [.int own,.int m,.int am] μ 68:=by
 refine Zae f67 (dn hn rfl) rfl λQ qq=>?_
 delta c67;rcases hm with rfl|rfl
 ·refine wf 8 (?_:Y)
  exact Zab (Zbc (lw ‹_›) ha).cx (vs:=[.int am]) rfl rfl rfl (λz z q=>q.elim) qq.e
 ·refine wf 10 (?_:Y)
  exact Zab (Zbc (lw ‹_›) ha).cx (vs:=[.int am]) rfl rfl rfl (λz z q=>q.elim) qq.e
theorem Zdx{own am:Int}(hn:n+6<900):ZaQ G n 612 [.int own,.int 2,.int am] μ 56:=by
 refine Zae f67 (dn hn rfl) rfl λQ qq=>?_
 delta c67;refine wf 8 (?_:Y);refine Zbt ?_;exact qq.e _ rfl
theorem Zdy{own:Int}{b:Bool}(hn:n+6<900):ZaQ G n 612 [.int own,.int 0,.bool b] μ 56:=by
 refine Zae f67 (dn hn rfl) rfl λQ qq=>?_
 delta c67;refine wf 8 (?_:Y);exact Zab (ZdH (lw ‹_›)).cx (vs:=[.bool b]) rfl rfl rfl (λz z q=>q.elim) qq.e
end
end
section
section
variable{G:Gl}{n:Nat}{μ:Led}
theorem boxBig{k w h d:Int}{its:V}(hn:n+8<900)(hk:k=2\/k=3)(hb:¬Dm w\/Dm w/\¬Dm h):CallX G n (.ref 354) [.int k,.int w,.int h,.int d,its] μ (λz z=>False) (λD=>D=68):=by
 refine(Zdi (C:=354) (fI:=351) (by decide) (dn hn rfl) λa dx=>?_).x;refine Zae f38_0 (d1 hn rfl) rfl λQ qq=>?_
 delta c38_0;refine wf 4 (?_:Y);refine Zaa (ZaK (d1 (kja hn) rfl) (by lia) (by lia)).cx rfl rfl rfl ?_;refine we 7 [0] rfl (?_:Y);rcases hb with hw|⟨hw,hh⟩
 ·exact Zab (Zbc (d1 (kja hn) rfl) hw).cx (vs:=[.int w]) rfl rfl rfl (λz z q=>q.elim) qq.e
 ·refine Zaa (Zah (d1 (kja hn) rfl) hw).cx rfl rfl rfl ?_
  refine we 4 [0] rfl (?_:Y);exact Zab (Zbc (d1 (kja hn) rfl) hh).cx (vs:=[.int h]) rfl rfl rfl (λz z q=>q.elim) qq.e
theorem Zfg{k w h d e:Int}{its:List V}{t:Tot}{a dx:Addr}(hn:n+8<900)(hb:TotB t)(hi:its≠[]) :
  CodeOK G n 619 [.ref a,t.v,.int e] ((a,.ins 354 dx (Za2 k w h d (.lst its) 0 0 0 1))::μ) (λv μ'=>v=(setG t e).rep/\μ'=(a,.ins 354 dx (Za2 k w h d (.lst its) (setG t e).sg (setG t e).o (setG t e).u (setG t e).e))::μ) (λz=>False):=by
 refine Zae f68 (dn hn rfl) rfl λQ qq=>?_
 delta c68 Za2;refine wf 3 (?_:Y);refine Zaa (Zeh (lw ‹_›) hb).cx rfl rfl rfl ?_;delta Set4.v;refine we 10 [0,0,0,0] rfl (?_:Y);refine Zaq (vs:=[]) rfl rfl ?_;refine ZaE .lstN ?_;have e1:(!its.isEmpty)=true:=by cases its<;>simp at hi⊢
 rw[e1];refine wr 2 (?_:Y);exact qq.w ⟨rfl,rfl⟩
noncomputable def Za0(m own am:Int):Int:=if m=0 then am else own+am
theorem Zfp{ps:List Pn}{up:Bool}(h:ps≠[]):ps.map (Pn.v up)≠[]:=by simpa using h
theorem hpack{ps:List Pn}{m am:Int}(hn:n+12<900)(hp:∀p∈ps,p.ok)(hne:ps≠[])(hb:TotB (Zaf ps))(hm:m=0\/m=1)(ha:Dm am)(hg:Dm (Za0 m (Zaf ps).n am)) :
  Zaj G n 627 [.lst (ps.map (Pn.v false)),.int m,.int am] μ (.tup [boxV 2 (Za0 m (Zaf ps).n am) 0 0 (.lst (ps.map (Pn.v false))) (setG (Zaf ps) (Za0 m (Zaf ps).n am-(Zaf ps).n)),(setG (Zaf ps) (Za0 m (Zaf ps).n am-(Zaf ps).n)).rep]):=by
 refine Zae f69_3 (dn hn rfl) rfl λQ qq=>?_
 delta c69;refine wf 5 (?_:Y);refine Zaq (vs:=[]) rfl rfl ?_;refine wr 6 (?_:Y);refine Zaa (Zbx (d1 hn rfl) hp).cx rfl rfl rfl ?_;refine wr 9 (?_:Y);refine Zaa (ZbV (d1 hn rfl) hm ha).cx rfl rfl rfl ?_;refine wr 7 (?_:Y);refine Zab (Zcd (d1 hn rfl) (.inl rfl) hg (by decide) (by decide)) (vs:=[_,_,_,_,_]) rfl rfl rfl (λv μ' q=>?_) (λz q=>q.elim);obtain⟨a,dx,rfl,rfl⟩:=q;refine wr 13 (?_:Y);refine Zab (Zfg (d1 hn rfl) hb (Zfp hne)).cx (vs:=[_,_,_]) rfl rfl rfl (λv μ' q=>?_) (λz q=>q.elim);obtain⟨rfl,rfl⟩:=q;refine w_st (.frzI (μ1:=[]) (stk':=[_,boxV 2 (Za0 m (Zaf ps).n am) 0 0 (.lst (ps.map (Pn.v false))) (setG (Zaf ps) (Za0 m (Zaf ps).n am-(Zaf ps).n))]) (.cons .id (.cons .here .id)) .id .id .refl) ?_;refine wr 1 (?_:Y);exact qq.w ⟨rfl,rfl⟩
theorem ZfN{ps:List Pn}{m am:V}{C:Addr}(hn:n+12<900)(hp:∀p∈ps,p.ok)(hg:∀own μ,ZaQ G (n+1) 612 [.int own,m,am] μ C):ZaQ G n 627 [.lst (ps.map (Pn.v false)),m,am] μ C:=by
 refine Zae f69_3 (dn hn rfl) rfl λQ qq=>?_
 delta c69;refine wf 5 (?_:Y);refine Zaq (vs:=[]) rfl rfl ?_;refine wr 6 (?_:Y);refine Zaa (Zbx (d1 hn rfl) hp).cx rfl rfl rfl ?_;refine wr 9 (?_:Y);exact Zab (hg _ _).cx (vs:=[_,_,_]) rfl rfl rfl (λz z q=>q.elim) qq.e
theorem hpackB{ps:List Pn}{m am:Int}(hn:n+12<900)(hp:∀p∈ps,p.ok)(hm:m=0\/m=1)(ha:Dm am)(hg:¬Dm (Za0 m (Zaf ps).n am)):ZaQ G n 627 [.lst (ps.map (Pn.v false)),.int m,.int am] μ 68:=by
 refine Zae f69_3 (dn hn rfl) rfl λQ qq=>?_
 delta c69;refine wf 5 (?_:Y);refine Zaq (vs:=[]) rfl rfl ?_;refine wr 6 (?_:Y);refine Zaa (Zbx (d1 hn rfl) hp).cx rfl rfl rfl ?_;refine wr 9 (?_:Y);refine Zaa (ZbV (d1 hn rfl) hm ha).cx rfl rfl rfl ?_;refine wr 7 (?_:Y);exact Zab (boxBig (d1 hn rfl) (.inl rfl) (.inl hg)) (vs:=[_,_,_,_,_]) rfl rfl rfl (λz z q=>q.elim) qq.e
theorem vpack{ps:List Pn}{m am:Int}(hn:n+12<900)(hp:∀p∈ps,p.ok)(hne:ps≠[])(hb:TotB (Zaf ps))(hm:m=0\/m=1)(ha:Dm am)(hg:Dm (Za0 m (Zaf ps).n am)) :
  Zaj G n 635 [.lst (ps.map (Pn.v true)),.int m,.int am] μ (.tup [boxV 3 0 (Za0 m (Zaf ps).n am) 0 (.lst (ps.map (Pn.v true))) (setG (Zaf ps) (Za0 m (Zaf ps).n am-(Zaf ps).n)),(setG (Zaf ps) (Za0 m (Zaf ps).n am-(Zaf ps).n)).rep]):=by
 refine Zae f70_3 (dn hn rfl) rfl λQ qq=>?_
 delta c70;refine wf 2 (?_:Y);refine Zaa (Zah (d1 hn rfl) (by decide)).cx rfl rfl rfl ?_;refine wr 3 (?_:Y);refine Zaa (Zbh (d1 hn rfl) hp).cx rfl rfl rfl ?_;refine wr 13 (?_:Y);refine Zaa (ZbV (d1 hn rfl) hm ha).cx rfl rfl rfl ?_;refine wr 7 (?_:Y);refine Zab (Zcd (d1 hn rfl) (.inr rfl) (by decide) hg (by decide)) (vs:=[_,_,_,_,_]) rfl rfl rfl (λv μ' q=>?_) (λz q=>q.elim);obtain⟨a,dx,rfl,rfl⟩:=q;refine wr 9 (?_:Y);refine Zab (Zfg (d1 hn rfl) hb (Zfp hne)).cx (vs:=[_,_,_]) rfl rfl rfl (λv μ' q=>?_) (λz q=>q.elim);obtain⟨rfl,rfl⟩:=q;refine w_st (.frzI (μ1:=[]) (stk':=[_,boxV 3 0 (Za0 m (Zaf ps).n am) 0 (.lst (ps.map (Pn.v true))) (setG (Zaf ps) (Za0 m (Zaf ps).n am-(Zaf ps).n))]) (.cons .id (.cons .here .id)) .id .id .refl) ?_;refine wr 1 (?_:Y);exact qq.w ⟨rfl,rfl⟩
theorem Ze5{ps:List Pn}{m am:V}{C:Addr}(hn:n+12<900)(hp:∀p∈ps,p.ok)(hg:∀own μ,ZaQ G (n+1) 612 [.int own,m,am] μ C):ZaQ G n 635 [.lst (ps.map (Pn.v true)),m,am] μ C:=by
 refine Zae f70_3 (dn hn rfl) rfl λQ qq=>?_
 delta c70;refine wf 2 (?_:Y);refine Zaa (Zah (d1 hn rfl) (by decide)).cx rfl rfl rfl ?_;refine wr 3 (?_:Y);refine Zaa (Zbh (d1 hn rfl) hp).cx rfl rfl rfl ?_;refine wr 13 (?_:Y);exact Zab (hg _ _).cx (vs:=[_,_,_]) rfl rfl rfl (λz z q=>q.elim) qq.e
theorem vpackB{ps:List Pn}{m am:Int}(hn:n+12<900)(hp:∀p∈ps,p.ok)(hm:m=0\/m=1)(ha:Dm am)(hg:¬Dm (Za0 m (Zaf ps).n am)):ZaQ G n 635 [.lst (ps.map (Pn.v true)),.int m,.int am] μ 68:=by
 refine Zae f70_3 (dn hn rfl) rfl λQ qq=>?_
 delta c70;refine wf 2 (?_:Y);refine Zaa (Zah (d1 hn rfl) (by decide)).cx rfl rfl rfl ?_;refine wr 3 (?_:Y);refine Zaa (Zbh (d1 hn rfl) hp).cx rfl rfl rfl ?_;refine wr 13 (?_:Y);refine Zaa (ZbV (d1 hn rfl) hm ha).cx rfl rfl rfl ?_;refine wr 7 (?_:Y);exact Zab (boxBig (d1 hn rfl) (.inr rfl) (.inr ⟨by decide,hg⟩)) (vs:=[_,_,_,_,_]) rfl rfl rfl (λz z q=>q.elim) qq.e
end
end
section
noncomputable def gf(fs:List (Nat×V))(k:Nat):V:=(fs.lookup k).getD .none
noncomputable def V.items:V->List V
 |.lst vs=>vs
 |_=>[]
noncomputable def V.fields:V->List (Nat×V)
 |.ins _ fs=>fs
 |_=>[]
noncomputable def optT(v:V):V:=if v.isNone then .tup [] else .tup [v]
noncomputable def bit:V->V
 |.bool true=>.int 1
 |_=>.int 0
noncomputable def D:Nat->V->V
 |0,.ins C fs =>
  if C=396 then .tup [.int 5,gf fs 0,gf fs 14]
  else if C=418 then .tup [.int 6,.tup [gf (gf fs 15).fields 0,gf (gf fs 15).fields 1,gf (gf fs 15).fields 2,gf (gf fs 15).fields 3,gf (gf fs 15).fields 4],gf fs 14,.tup []]
  else if C=439 then .tup [.int 7,gf fs 17]
  else if C=375 then .tup [.int 4,optT (gf fs 0),optT (gf fs 7),optT (gf fs 8)]
  else .none
 |m+1,.ins C fs =>
  if C=396 then .tup [.int 5,gf fs 0,gf fs 14]
  else if C=418 then .tup [.int 6,.tup [gf (gf fs 15).fields 0,gf (gf fs 15).fields 1,gf (gf fs 15).fields 2,gf (gf fs 15).fields 3,gf (gf fs 15).fields 4],gf fs 14,.tup []]
  else if C=439 then .tup [.int 7,gf fs 17]
  else if C=375 then .tup [.int 4,optT (gf fs 0),optT (gf fs 7),optT (gf fs 8)]
  else if C=354 then .tup [gf fs 6,gf fs 0,gf fs 7,gf fs 8,gf fs 10,gf fs 11,gf fs 12,gf fs 13,.tup ((gf fs 9).items.map (D m))]
  else .tup [.int 14,gf fs 0,gf fs 7,gf fs 8,gf fs 18,bit (gf fs 20),gf (gf fs 19).fields 5,.tup (gf (gf fs 19).fields 1).items,.tup (gf (gf fs 19).fields 3).items,.tup ((gf fs 9).items.map (D m))]
 |_,_=>.none
inductive Nd:Nat->V->Prop
 |kern {m w s}:Nd m (Zdu w s)
 |skip {m s} {g:Gu}:Nd m (ZaB g.v s)
 |pen {m v}:Nd m (penV v)
 |rule {m w h d}:Nd m (ZbO w h d)
 |box {m k w h d sg o u e} {its:List V}:k=2\/k=3->(∀v∈its,Nd m v)->its.length<2^18->Nd (m+1) (.ins 354 (Za2 k w h d (.lst its) sg o u e))
 |cell {m w h d sp up} {t:Tot}{its:List V}:(∀v∈its,Nd m v)->its.length<2^18->Nd (m+1) (ZcP w h d (.lst its) sp t.v up)
section
variable{G:Gl}{n:Nat}{μ:Led}
theorem ZaD{d:Int}(hn:n+2<900)(h:d<=60):Zaj G n 472 [.int d] μ .none:=by
 refine Zae f44 (dn hn rfl) rfl λQ qq=>?_
 unfold c44;refine wf 3 (?_:Y);have e:decide (d>60)=false:=by simp;assumption
 simp only[e];refine wr 1 (?_:Y);exact Zad (qq.x _ _ .refl ⟨rfl,rfl⟩)
theorem ZcF{m:Nat}{dep:Int}{vs:List V}(hn:n+4<900)(hl:vs.length<2^18)(ih:∀v∈vs,∀μ,Zaj G (n+1) 485 [v,.int dep] μ (D m v)):Zaj G n 491 [.lst vs,.int dep] μ (.tup (vs.map (D m))):=by
 refine Zae f47_2 (dn hn rfl) rfl λQ qq=>?_
 unfold c47;refine wf 2 (?_:Y);refine ZaI (D m) .lst (by exact lb rfl) (Zay ‹_› rfl) (λv hv=>?_) ?_
 ·refine wf 3 (?_:Y)
  refine Zaa (ih v hv _).cx rfl rfl rfl ?_;exact Zad rfl
 ·refine Zax (.tup (by simp;exact Zay ‹_› rfl)) rfl rfl ?_
  exact qq.w ⟨rfl,rfl⟩
theorem ZeZ{m:Nat}{vs:List V}(hn:n+4<900)(hl:vs.length<2^18)(ih:∀v∈vs,∀μ,Zaj G (n+1) 485 [v,.int 0] μ (D m v)):Zaj G n 491 [.lst vs] μ (.tup (vs.map (D m))):=by
 refine Zae f47_1 (dn hn rfl) rfl λQ qq=>?_
 unfold c47;refine wf 2 (?_:Y);refine ZaI (D m) .lst (by exact lb rfl) (Zay ‹_› rfl) (λv hv=>?_) ?_
 ·refine wf 3 (?_:Y)
  refine Zaa (ih v hv _).cx rfl rfl rfl ?_;exact Zad rfl
 ·refine Zax (.tup (by simp;exact Zay ‹_› rfl)) rfl rfl ?_
  exact qq.w ⟨rfl,rfl⟩
theorem drest{m:Nat}{w h d sp dep:Int}{up:Bool}{t:Tot}{its:List V}(hn:n+6<900)(hl:its.length<2^18)(ih:∀v∈its,∀μ,Zaj G (n+2) 485 [v,.int (dep+1)] μ (D m v)):Zaj G n 479 [ZcP w h d (.lst its) sp t.v up,.int dep] μ (D (m+1) (ZcP w h d (.lst its) sp t.v up)):=by
 refine Zae f45 (dn hn rfl) rfl λQ qq=>?_
 have hx:=qq.x;have hr:=qq.r;have he:=qq.e;unfold c45;have e:ZcP w h d (.lst its) sp t.v up=.ins 461 [(0,.int w),(7,.int h),(8,.int d),(9,.lst its),(18,.int sp),(19,.ins 313 [(5,.int t.n),(1,.lst (ZaR t.s)),(3,.lst (ZaR t.h))]),(20,.bool up)]:=rfl;refine e.symm▸?_;rw[e] at hr hx;refine wf 30 (?_:Y);refine Zax (.tup (by exact lb rfl)) rfl rfl ?_;refine wr 4 (?_:Y);refine Zax (.tup (by exact lb rfl)) rfl rfl ?_;refine wr 12 (?_:Y);cases up with
 |true =>
  refine wr 7 (?_:Y);refine Zao (.addT (by exact lb rfl)) ?_;refine w_l rfl ?_;refine Zao (.addT (by exact lb rfl)) ?_;refine wr 6 (?_:Y);refine Zaa (ZcF (lw ‹_›) hl ih).cx rfl rfl rfl ?_;refine wr 1 (?_:Y);refine Zao (.addT (by exact lb rfl)) ?_;exact Zak (hr _ _ ⟨rfl,rfl⟩)
 |false =>
  refine wr 7 (?_:Y);refine Zao (.addT (by exact lb rfl)) ?_;refine w_l rfl ?_;refine Zao (.addT (by exact lb rfl)) ?_;refine wr 6 (?_:Y);refine Zaa (ZcF (lw ‹_›) hl ih).cx rfl rfl rfl ?_;refine wr 1 (?_:Y);refine Zao (.addT (by exact lb rfl)) ?_;exact Zak (hr _ _ ⟨rfl,rfl⟩)
theorem dskip{m:Nat}{s dep:Int}{g:Gu}(hn:n+6<900)(hd:dep<=60):Zaj G n 485 [ZaB g.v s,.int dep] μ (D m (ZaB g.v s)):=by
 have eD:D m (ZaB g.v s)=D 0 (ZaB g.v s):=by cases m<;>rfl
 refine eD.symm▸?_;refine Zae ZdB (dn hn rfl) rfl λQ qq=>?_
 have hx:=qq.x;have hr:=qq.r;have he:=qq.e;unfold c46;have e:ZaB g.v s=.ins 418 [(15,g.v),(14,.int s),(16,.none)]:=rfl;refine e.symm▸?_;rw[e] at hr hx;refine wf 2 (?_:Y);refine Zaa (ZaD (d1 hn rfl) hd).cx rfl rfl rfl ?_;refine wr 35 (?_:Y);refine w_mg (.pi (by rfl) rfl) ?_;refine Zaa (parts (d1 hn rfl)).cx rfl rfl rfl ?_;refine wr 9 (?_:Y);exact Zak (hr _ _ ⟨rfl,rfl⟩)
theorem drule{m:Nat}{w h d:Option Int}{dep:Int}(hn:n+6<900)(hd:dep<=60):Zaj G n 485 [ZbO w h d,.int dep] μ (D m (ZbO w h d)):=by
 have eD:D m (ZbO w h d)=D 0 (ZbO w h d):=by cases m<;>rfl
 refine eD.symm▸?_;refine Zae ZdB (dn hn rfl) rfl λQ qq=>?_
 have hx:=qq.x;have hr:=qq.r;have he:=qq.e;unfold c46;have nb:∀o,(optV o).nb=true:=λo=>by cases o<;>rfl
 have e:ZbO w h d=.ins 375 [(0,optV w),(7,optV h),(8,optV d)]:=rfl;refine e.symm▸?_;rw[e] at hr hx;refine wf 2 (?_:Y);refine Zaa (ZaD (d1 hn rfl) hd).cx rfl rfl rfl ?_;refine wr 28 (?_:Y);refine w_at (.pi (by decide) (by decide) rfl (nb w)) ?_;refine w_l rfl ?_;refine w_at (.pi (by decide) (by decide) rfl (nb h)) ?_;refine w_l rfl ?_;refine w_at (.pi (by decide) (by decide) rfl (nb d)) ?_;refine wr 1 (?_:Y);refine ZaI optT .tup (by exact lb rfl) (by exact lb rfl) (λv hv=>?_) ?_
 ·simp only[set_cons_succ,set_cons_zero]
  have:∃o,v=optV o:=by
   simp at hv;rcases hv with rfl|rfl|rfl<;>exact⟨_,rfl⟩
  obtain⟨o,rfl⟩:=this;cases o with
  |none =>
   simp only[optV];refine wr 5 (?_:Y);exact Zad rfl
  |some i =>
   simp only[optV];refine wr 6 (?_:Y);exact Zad rfl
 ·refine Zax (.tup (by exact lb rfl)) rfl rfl ?_
  refine Zao (.addT (by exact lb rfl)) ?_;exact Zak (hr _ _ ⟨rfl,rfl⟩)
theorem Zf1{m:Nat}:∀{n:Nat}{μ:Led}{v:V}{dep:Int},Nd m v->n+8*m+8<900->dep+m<=60->Zaj G n 485 [v,.int dep] μ (D m v):=by
 induction m with
 |zero =>
  intro n μ v dep h hn hd;cases h with
  |@kern _ w s =>
   refine Zae ZdB (dn hn rfl) rfl λQ qq=>?_
   have hx:=qq.x;have hr:=qq.r;have he:=qq.e;unfold c46;have e:Zdu w s=.ins 396 [(0,.int w),(14,.int s)]:=rfl;refine e.symm▸?_;rw[e] at hr hx;refine wf 2 (?_:Y);refine Zaa (ZaD (d1 hn rfl) (dp1 hd)).cx rfl rfl rfl ?_;refine wr 34 (?_:Y);exact Zak (hr _ _ ⟨rfl,rfl⟩)
  |skip=>exact dskip (dn hn rfl) (dp1 hd)
  |@pen _ w =>
   refine Zae ZdB (dn hn rfl) rfl λQ qq=>?_
   have hx:=qq.x;have hr:=qq.r;have he:=qq.e;unfold c46;have e:penV w=.ins 439 [(17,.int w)]:=rfl;refine e.symm▸?_;rw[e] at hr hx;refine wf 2 (?_:Y);refine Zaa (ZaD (d1 hn rfl) (dp1 hd)).cx rfl rfl rfl ?_;refine wr 40 (?_:Y);exact Zak (hr _ _ ⟨rfl,rfl⟩)
  |rule=>exact drule (dn hn rfl) (dp1 hd)
 |succ m ih =>
  intro n μ v dep h hn hd;cases h with
  |@kern _ w s =>
   refine Zae ZdB (dn (lt0 hn) rfl) rfl λQ qq=>?_
   have hx:=qq.x;have hr:=qq.r;have he:=qq.e;unfold c46;have e:Zdu w s=.ins 396 [(0,.int w),(14,.int s)]:=rfl;refine e.symm▸?_;rw[e] at hr hx;refine wf 2 (?_:Y);refine Zaa (ZaD (d1 (lt0 hn) rfl) (dp1 hd)).cx rfl rfl rfl ?_;refine wr 34 (?_:Y);exact Zak (hr _ _ ⟨rfl,rfl⟩)
  |skip=>exact dskip (dn (lt0 hn) rfl) (dp1 hd)
  |@pen _ w =>
   refine Zae ZdB (dn (lt0 hn) rfl) rfl λQ qq=>?_
   have hx:=qq.x;have hr:=qq.r;have he:=qq.e;unfold c46;have e:penV w=.ins 439 [(17,.int w)]:=rfl;refine e.symm▸?_;rw[e] at hr hx;refine wf 2 (?_:Y);refine Zaa (ZaD (d1 (lt0 hn) rfl) (dp1 hd)).cx rfl rfl rfl ?_;refine wr 40 (?_:Y);exact Zak (hr _ _ ⟨rfl,rfl⟩)
  |rule=>exact drule (dn (lt0 hn) rfl) (dp1 hd)
  |@box _ k w h d sg o u e its hk hi hl =>
   have dl:∀μ,Zaj G (n+1) 491 [.lst its,.int (dep+1)] μ (.tup (its.map (D m))):=λμ=>ZcF (d1 (lt0 hn) rfl) hl λv hv μ=>ih (hi v hv) (df 2 hn rfl) (dp2 hd)
   refine Zae ZdB (dn (lt0 hn) rfl) rfl λQ qq=>?_
   have hx:=qq.x;have hr:=qq.r;have he:=qq.e;unfold c46;have e:V.ins 354 (Za2 k w h d (.lst its) sg o u e)=.ins 354 [(6,.int k),(0,.int w),(7,.int h),(8,.int d),(9,.lst its),(10,.int 0),(11,.int sg),(12,.int o),(13,.tup [.int u,.int e])]:=rfl;refine e.symm▸?_;rw[e] at hr hx;rcases hk with rfl|rfl
   ·refine wf 2 (?_:Y)
    refine Zaa (ZaD (d1 (lt0 hn) rfl) (dp1 hd)).cx rfl rfl rfl ?_;refine wr 37 (?_:Y);refine Zao (.addT (by exact lb rfl)) ?_;refine wr 6 (?_:Y);refine Zaa (dl _).cx rfl rfl rfl ?_;refine wr 1 (?_:Y);refine Zao (.addT (by exact lb rfl)) ?_;exact Zak (hr _ _ ⟨rfl,rfl⟩)
   ·refine wf 2 (?_:Y)
    refine Zaa (ZaD (d1 (lt0 hn) rfl) (dp1 hd)).cx rfl rfl rfl ?_;refine wr 39 (?_:Y);refine Zao (.addT (by exact lb rfl)) ?_;refine wr 6 (?_:Y);refine Zaa (dl _).cx rfl rfl rfl ?_;refine wr 1 (?_:Y);refine Zao (.addT (by exact lb rfl)) ?_;exact Zak (hr _ _ ⟨rfl,rfl⟩)
  |@cell _ w h d sp up t its hi hl =>
   have dr:∀μ,Zaj G (n+1) 479 [ZcP w h d (.lst its) sp t.v up,.int dep] μ (D (m+1) (ZcP w h d (.lst its) sp t.v up)):=λμ=>drest (d1 (lt0 hn) rfl) hl λv hv μ=>ih (hi v hv) (df 3 hn rfl) (dp2 hd)
   refine Zae ZdB (dn (lt0 hn) rfl) rfl λQ qq=>?_
   have hx:=qq.x;have hr:=qq.r;have he:=qq.e;unfold c46;unfold ZcP at dr hr hx⊢;refine wf 2 (?_:Y);refine Zaa (ZaD (d1 (lt0 hn) rfl) (dp1 hd)).cx rfl rfl rfl ?_;refine wr 47 (?_:Y);refine Zaa (dr _).cx rfl rfl rfl ?_;exact Zak (hr _ _ ⟨rfl,rfl⟩)
def DL(m:Nat)(vs:List V):V:=.tup (vs.map (D m))
theorem Zbi{m:Nat}{vs:List V}(hv:∀v∈vs,Nd m v)(hl:vs.length<2^18)(hn:n+8*m+12<900)(hm:m<=60):Zaj G n 491 [.lst vs] μ (DL m vs) :=
 ZeZ (dn (dd hn) rfl) hl λv h μ=>Zf1 (hv v h) (de hn rfl) (Int.ofNat_le.mpr (z0 hm))
end
theorem Zby{n:Nat}{v:V}{r:List V}(h:V.dat n v=true)(k:V.dats n r=true):V.dats n (v::r)=true:=Bool.and_eq_true_iff.mpr ⟨h,k⟩
theorem ZbZ:∀{n:Nat}{vs:List V},(∀v∈vs,V.dat n v=true)->V.dats n vs=true
 |n,[],_=>rfl
 |n,v::vs,h=>Zby (h v (.head _)) (ZbZ λu hu=>h u (.tail _ hu))
theorem Zd0{k:Nat}{o:Option Int}:V.dat (k+1) (optT (optV o))=true:=by cases o<;>rfl
theorem dat_D{m:Nat}:∀{v:V}{k:Nat},Nd m v->2*m+2<=k->V.dat k (D m v)=true:=by
 have leaf:∀{v:V}{k m:Nat},((∃w s,v=Zdu w s)\/(∃(g:Gu) (s:Int),v=ZaB g.v s)\/(∃w,v=penV w)\/(∃w h d,v=ZbO w h d))->V.dat (k+2) (D m v)=true:=by
  intro v k m h;have e:D m v=D 0 v:=by rcases h with⟨_,_,rfl⟩|⟨_,_,rfl⟩|⟨_,rfl⟩|⟨_,_,_,rfl⟩<;>cases m<;>rfl
  refine e.symm▸?_;rcases h with⟨w,s,rfl⟩|⟨g,s,rfl⟩|⟨w,rfl⟩|⟨w,h,d,rfl⟩
  ·show V.dat (k+2) (.tup [.int 5,.int w,.int s])=true;rfl
  ·show V.dat (k+2) (.tup [.int 6,g.parts,.int s,.tup []])=true;rfl
  ·show V.dat (k+2) (.tup [.int 7,.int w])=true;rfl
  ·show V.dat (k+2) (.tup [.int 4,optT (optV w),optT (optV h),optT (optV d)])=true;exact Zby rfl (Zby Zd0 (Zby Zd0 (Zby Zd0 rfl)))
 induction m with
 |zero =>
  intro v k h hk;obtain⟨k,rfl⟩ : ∃j,k=j+2:=⟨k-2,kk2 hk⟩;cases h with
  |kern=>exact leaf (.inl ⟨_,_,rfl⟩)
  |skip=>exact leaf (.inr (.inl ⟨_,_,rfl⟩))
  |pen=>exact leaf (.inr (.inr (.inl ⟨_,rfl⟩)))
  |rule=>exact leaf (.inr (.inr (.inr ⟨_,_,_,rfl⟩)))
 |succ m ih =>
  intro v k h hk;obtain⟨k,rfl⟩ : ∃j,k=j+2:=⟨k-2,kk2 hk⟩;cases h with
  |kern=>exact leaf (.inl ⟨_,_,rfl⟩)
  |skip=>exact leaf (.inr (.inl ⟨_,_,rfl⟩))
  |pen=>exact leaf (.inr (.inr (.inl ⟨_,rfl⟩)))
  |rule=>exact leaf (.inr (.inr (.inr ⟨_,_,_,rfl⟩)))
  |@box _ kk w h d sg o u e its _ hi _ =>
   have:V.dats k (its.map (D m))=true:=ZbZ λv hv=>by
    obtain⟨u,hu,rfl⟩:=mem_map.mp hv;exact ih (hi u hu) (hk2 hk)
   show V.dat (k+2) (.tup [.int kk,.int w,.int h,.int d,.int 0,.int sg,.int o,.tup [.int u,.int e],.tup (its.map (D m))])=true;exact(Bool.and_true _).trans this
  |@cell _ w h d sp up t its hi _ =>
   have:V.dats k (its.map (D m))=true:=ZbZ λv hv=>by
    obtain⟨u,hu,rfl⟩:=mem_map.mp hv;exact ih (hi u hu) (hk2 hk)
   show V.dat (k+2) (.tup [.int 14,.int w,.int h,.int d,.int sp,bit (.bool up),.int t.n,.tup (ZaR t.s),.tup (ZaR t.h),.tup (its.map (D m))])=true;cases up<;>exact(Bool.and_true _).trans this
theorem dat_DL{m k:Nat}{vs:List V}(h:∀v∈vs,Nd m v)(hk:2*m+2<=k):V.dats k (vs.map (D m))=true:=ZbZ λv hv=>by
 obtain⟨u,hu,rfl⟩:=mem_map.mp hv;exact dat_D (h u hu) hk
end
section
theorem rgM{α:Type}{μ:Led}{f:α->V}{L:List α}(d:α){i:Int}{k:Nat}(hi:i=k)(h1:k<L.length)(h2:k<2^30):RG μ (.lst (L.map f)) (.int i) (f (L.getD k d)):=by
 subst hi;refine ZbP (Int.natCast_nonneg _) (by lia) ?_;simp[h1]
noncomputable def mx(L:List Int):Int:=L.foldl max 0
theorem ZbW{L:List Int}:∀{x:Int},x<=L.foldl max x/\(∀a∈L,a<=L.foldl max x)/\(L.foldl max x=x\/L.foldl max x∈L):=by
 induction L with
 |nil=>intro x;simp
 |cons y L ih =>
  intro x;obtain⟨h1,h2,h3⟩:=ih (x:=max x y);simp only[foldl_cons];refine⟨by lia,λa ha=>?_,?_⟩
  ·rcases mem_cons.mp ha with rfl|h
   ·lia
   ·exact h2 a h
  ·rcases h3 with h3|h3
   ·rw[h3]
    by_cases h:x<=y
    ·right;rw[Int.max_eq_right h];exact .head _
    ·left;rw[Int.max_eq_left (Int.le_of_lt (Int.not_le.mp h))]
   ·exact .inr (.tail _ h3)
theorem Zfw{L:List Int}:mx L∈0::L:=by
 rcases(ZbW (L:=L) (x:=0)).2.2 with h|h
 ·delta mx;rw[h];exact .head _
 ·exact .tail _ h
theorem mx_le{L:List Int}:∀a∈(0:Int)::L,a<=mx L:=λa ha=>by
 rcases mem_cons.mp ha with rfl|h
 ·exact(ZbW (L:=L) (x:=0)).1
 ·exact(ZbW (L:=L) (x:=0)).2.1 a h
theorem Zc7{L:List Int}(h:∀a∈L,Dm a):Dm (mx L):=by
 refine mC (Zfw (L:=L)) (λe=>?_) λe=>?_
 ·rw[e];decide
 ·exact h _ e
section
variable{CK:CKT}{cel:List Nat}{k:List IX}{r:List V}{l:List (Option V)}{μ:Led}{cz:Bool}{Q:Post}{it:V}{items:List V}
theorem ZcR{i j:Nat}{c:List IX}(f:V->V)(hi:Items it items)(hl:i<l.length/\j<l.length)(hij:i≠j)(hn:items.length<2^20)(hb:∀v∈items,∃x y,v=.tup [x,y]/\W CK cel c ⟨[],(l.set i (some x)).set j (some y),μ,cz⟩ ⟨λS=>S=⟨[f v],(l.set i (some x)).set j (some y),μ,cz⟩,λz z=>False,λz=>False⟩)
  (h:W CK cel k ⟨.lst (items.map f)::r,l,μ,cz⟩ Q):W CK cel (.comp (.t [i,j]) (.emit c)::k) ⟨it::r,l,μ,cz⟩ Q:=by
 refine Zbg hi ?_;have key:∀(rest done:List V) (l':List (Option V)),items=done++rest->(l'=l\/∃x y,l'=(l.set i x).set j y)->Zb2 CK cel (.t [i,j]) (.emit c) cz (λacc μ'=>W CK cel k ⟨.lst acc::r,l,μ',cz⟩ Q) rest (done.map f) μ l':=by
  intro rest;induction rest with
  |nil=>intro done l' e z;rw[append_nil] at e;subst e;exact h
  |cons v rest ih =>
   intro done l' e hl';obtain⟨x,y,rfl,hw⟩:=hb v (by rw[e];simp);have hlen:l'.length=l.length:=by rcases hl' with rfl|⟨x,y,rfl⟩<;>simp
   have e1:(l'.set i (some x)).set j (some y)=(l.set i (some x)).set j (some y):=by
    rcases hl' with rfl|⟨a,b,rfl⟩
    ·rfl
    ·rw[List.set_comm (i:=j) (j:=i) _ _ (Ne.symm hij)];simp
   refine⟨⟨_,.t rfl (by simp;exact(hlen▸hl))⟩,λl2 hb2=>?_⟩;obtain⟨us,eu,z,rfl⟩:=hb2.tEq;cases eu;have e2:ZbJ [i,j] [x,y] l'=(l.set i (some x)).set j (some y):=e1;rw[e2];refine⟨by rw[length_map];rw[e] at hn;simp at hn;exact(lt0 hn),?_⟩;first|refine Za7 ?_|refine Zbe ?_|refine Zbd ?_
   have nxt:=ih (done++[.tup [x,y]]) ((l.set i (some x)).set j (some y)) (by rw[e];simp) (.inr ⟨_,_,rfl⟩);rw[map_append] at nxt;refine Zge c (Q:=⟨λS=>S=⟨[f (.tup [x,y])],(l.set i (some x)).set j (some y),μ,cz⟩,λz z=>False,λz=>False⟩) (λS hS=>?_) (λz z q=>q) (λz q=>q) hw;replace hS:S=⟨[f (.tup [x,y])],(l.set i (some x)).set j (some y),μ,cz⟩:=hS;subst hS;exact⟨_,.refl,_,rfl,rfl,nxt⟩
 simpa using key items [] l rfl (.inl rfl)
end
structure Ce where
 w:Int
 h:Int
 d:Int
 its:List V
 sp:Nat
 t:Tot
 up:Bool
noncomputable def Ce.v(c:Ce):V:=ZcP c.w c.h c.d (.lst c.its) c.sp c.t.v c.up
noncomputable def Ce.al(c:Ce):Int:=if c.up then c.h else c.w
noncomputable def ZaJ:Nat->List Ce->List V
 |_,[]=>[]
 |col,c::r=>.tup [.int col,c.v]::ZaJ (col+c.sp) r
theorem pVN{i}:ZaJ i []=[]:=rfl
theorem pVC{i c r}:ZaJ i (c::r)=.tup [.int i,c.v]::ZaJ (i+c.sp) r:=rfl
noncomputable def Zas:List Ce->Nat
 |[]=>0
 |c::r=>c.sp+Zas r
theorem sSN:Zas []=0:=rfl
theorem sSC{c r}:Zas (c::r)=c.sp+Zas r:=rfl
theorem ZeQ{cs:List Ce}:∀{col:Nat},(ZaJ col cs).length=cs.length:=by
 induction cs with
 |nil=>intro;rfl
 |cons c r ih=>intro col;simp[pVN,pVC,ih]
noncomputable instance instGu:Inhabited Gu:=⟨⟨0,0,0,0,0⟩⟩
noncomputable def wide:Option Int->Int
 |none=>0
 |some x=>x
section
variable{G:Gl}{n:Nat}{μ:Led}
theorem alongC{c:Ce}(hn:n+2<900):Zaj G n 642 [c.v] μ (.int c.al):=by
 refine Zae f73 (dn hn rfl) rfl λQ qq=>?_
 delta c73;have e:c.v=.ins 461 [(0,.int c.w),(7,.int c.h),(8,.int c.d),(9,.lst c.its),(18,.int c.sp),(19,c.t.v),(20,.bool c.up)]:=rfl;rw[e];refine wf 2 (?_:Y);cases q:c.up with
 |true =>
  refine wr 3 (?_:Y);exact qq.w ⟨by rw[Ce.al,q];rfl,rfl⟩
 |false =>
  refine wr 3 (?_:Y);exact qq.w ⟨by rw[Ce.al,q];rfl,rfl⟩
theorem Zfe{gs:List Gu}{Q:Post}{L X:V}(h:∀x,Q.nx ⟨[],[some X,some L,x,none,none,none,none],μ,false⟩):∀(qs:List Gu) (x:Option V),ForW (CallX G n) [] (.v 2) b74_1 [] Q false 7 (qs.map Gu.v) [some X,some L,x,none,none,none,none] μ:=by
 intro qs;induction qs with
 |nil=>intro x;exact ZaA rfl (Zad (h x))
 |cons g qs ih =>
  intro x;refine forV rfl (by exact lb rfl) λQ' T=>?_
  delta b74_1 Gu.v;refine we 6 [1] rfl (?_:Y);exact Zad (T.nx _ _ (ih _) _ .refl)
theorem ZcH{c:Nat}{gs:List Gu}(hn:n+4<900)(h1:1<=c)(h2:c<=1000)(h3:gs.length=c+1):Zaj G n 649 [.int c,.lst (gs.map Gu.v)] μ .none:=by
 refine Zae f74 (dn hn rfl) rfl λQ qq=>?_
 delta c74;refine wf 4 (?_:Y);refine Zaa (ZaK (lw ‹_›) (Int.ofNat_lt.mpr ‹_›) (Int.ofNat_le.mpr (ZaV h2 rfl))).cx rfl rfl rfl ?_;refine wr 4 (?_:Y);refine Zax (.len (by simp;exact(Zag (fl1 h3 h2) rfl))) rfl rfl ?_;refine wr 4 (?_:Y);have d:decide (((gs.map Gu.v).length:Int)≠(c:Int)+1)=false:=by simp;exact(congrArg Nat.cast h3)
 rw[d];refine wr 2 (?_:Y);refine Zar .lst (.inl rfl) ?_;exact Zfe (gs:=gs) (λx=>qq.x _ _ .refl ⟨rfl,rfl⟩) gs none
theorem Zbj{c:Nat}{gs:List V}(hn:n+4<900)(h1:1<=c)(h2:c<=1000)(hs:gs.length<2^20)(h3:gs.length≠c+1):ZaQ G n 649 [.int c,.lst gs] μ 56:=by
 refine Zae f74 (dn hn rfl) rfl λQ qq=>?_
 delta c74;refine wf 4 (?_:Y);refine Zaa (ZaK (lw ‹_›) (Int.ofNat_lt.mpr ‹_›) (Int.ofNat_le.mpr (ZaV h2 rfl))).cx rfl rfl rfl ?_;refine wr 4 (?_:Y);refine Zax (.len hs) rfl rfl ?_;refine wr 4 (?_:Y);have d:decide ((gs.length:Int)≠(c:Int)+1)=true:=by simp;exact(mt Int.ofNat.inj h3)
 rw[d];refine wr 1 (?_:Y);refine Zbt ?_;exact qq.e _ rfl
theorem ZcG{b:Bool}{gs:V}(hn:n+4<900):ZaQ G n 649 [.bool b,gs] μ 56:=by
 refine Zae f74 (dn hn rfl) rfl λQ qq=>?_
 delta c74;refine wf 4 (?_:Y);refine Zaa (ZfI (lw ‹_›)).cx rfl rfl rfl ?_;refine wr 4 (?_:Y);refine Zbt ?_;exact qq.e _ rfl
theorem ZcO{c:Nat}{i:Int}{gs:List V}(hn:n+4<900)(h1:1<=c)(h2:c<=1000)(h3:gs.length=c):ZaQ G n 649 [.int c,.lst (.int i::gs)] μ 56:=by
 refine Zae f74 (dn hn rfl) rfl λQ qq=>?_
 delta c74;refine wf 4 (?_:Y);refine Zaa (ZaK (lw ‹_›) (Int.ofNat_lt.mpr ‹_›) (Int.ofNat_le.mpr (ZaV h2 rfl))).cx rfl rfl rfl ?_;refine wr 4 (?_:Y);refine Zax (.len (by simp;exact(Zag (Nat.succ_le_succ (h3▸h2)) rfl))) rfl rfl ?_;refine wr 4 (?_:Y);have d:decide (((V.int i::gs).length:Int)≠(c:Int)+1)=false:=by simp;lia
 rw[d];refine wr 2 (?_:Y);refine Zar .lst (.inl rfl) ?_;refine Zbb rfl (by exact lb rfl) ?_;refine wf 3 (?_:Y);refine Zax (.isIC (by decide)) rfl rfl ?_;refine wr 2 (?_:Y);refine Zbt ?_;exact qq.e _ rfl
theorem Zbv{c:Nat}{cs:List Ce}(hn:n+4<900)(hl:cs.length<2^18)(hs:Zas cs<=c):Zaj G n 656 [.lst (cs.map Ce.v),.int c] μ (.lst (ZaJ 0 cs)):=by
 refine Zae f75 (dn hn rfl) rfl λQ qq=>?_
 delta c75;refine ZaH (vs:=[]) rfl rfl λfd=>?_
 refine wr 6 (?_:Y);refine Zar .lst (.inl rfl) ?_;have key:∀(L:V) (qs:List Ce) (col:Nat) (done:List V) (x:Option V),done.length+qs.length<2^18->done++ZaJ col qs=ZaJ 0 cs->col+Zas qs<=c->ForW (CallX G (n+1)) [] (.v 4) Zga [.l 3,.l 1,.cmp .Gt,.ite [.rais 80] [],.l 2,.ret] Q false 9 (qs.map Ce.v) [some L,some (.int c),some (.ref fd),some (.int col),x,none,none,none,none] ((fd,.list done)::μ):=by
  intro L qs;induction qs with
  |nil =>
   intro col done x z e hc;refine ZaA rfl ?_;refine wr 3 (?_:Y);have d:decide ((col:Int)>(c:Int))=false:=by simp[sSN,sSC] at hc⊢;assumption
   rw[d];refine ZaT ?_;refine w_st (.frzL (μ1:=[]) (l':=[some L,some (.int c),some (.lst done),some (.int col),x,none,none,none,none]) .id (.cons (.cons (.sm .here .id))) .id .refl) ?_;refine w_l rfl ?_;exact qq.w ⟨by rw[<- e];simp[pVN,pVC],rfl⟩
  |cons q qs ih =>
   intro col done x hl e hc;refine forV rfl (by exact lb rfl) λQ' T=>?_
   have e1:q.v=.ins 461 [(0,.int q.w),(7,.int q.h),(8,.int q.d),(9,.lst q.its),(18,.int q.sp),(19,q.t.v),(20,.bool q.up)]:=rfl;delta Zga;rw[e1];refine wr 6 (?_:Y);refine w_mg (.app (.head _)) ?_;refine wr 3 (?_:Y);refine ZaG (by simp at hl⊢;exact(Zay (lt0 hl) rfl)) .head ?_;refine wr 6 (?_:Y);rw[<- Int.natCast_add];refine Zad (T.nx _ _ (ih (col+q.sp) (done++[.tup [.int col,q.v]]) _ (by simp at hl⊢;exact(kja hl)) (by rw[<- e];simp[pVN,pVC]) (by simp[sSN,sSC] at hc;exact(cpA hc))) _ .refl)
 exact key _ cs 0 [] none (by simp;assumption) rfl (z0 hs)
theorem ZdT{c:Nat}{cs:List Ce}(hn:n+4<900)(hl:cs.length<2^18)(hs:c<Zas cs):ZaQ G n 656 [.lst (cs.map Ce.v),.int c] μ 80:=by
 refine Zae f75 (dn hn rfl) rfl λQ qq=>?_
 delta c75;refine ZaH (vs:=[]) rfl rfl λfd=>?_
 refine wr 6 (?_:Y);refine Zar .lst (.inl rfl) ?_;have key:∀(L:V) (qs:List Ce) (col:Nat) (done:List V) (x:Option V),done.length+qs.length<2^18->c<col+Zas qs->ForW (CallX G (n+1)) [] (.v 4) Zga [.l 3,.l 1,.cmp .Gt,.ite [.rais 80] [],.l 2,.ret] Q false 9 (qs.map Ce.v) [some L,some (.int c),some (.ref fd),some (.int col),x,none,none,none,none] ((fd,.list done)::μ):=by
  intro L qs;induction qs with
  |nil =>
   intro col done x z hc;refine ZaA rfl ?_;refine wr 3 (?_:Y);have d:decide ((col:Int)>(c:Int))=true:=by simp[sSN,sSC] at hc⊢;assumption
   rw[d];refine wr 1 (?_:Y);refine Zbt ?_;exact qq.e _ rfl
  |cons q qs ih =>
   intro col done x hl hc;refine forV rfl (by exact lb rfl) λQ' T=>?_
   have e1:q.v=.ins 461 [(0,.int q.w),(7,.int q.h),(8,.int q.d),(9,.lst q.its),(18,.int q.sp),(19,q.t.v),(20,.bool q.up)]:=rfl;delta Zga;rw[e1];refine wr 6 (?_:Y);refine w_mg (.app (.head _)) ?_;refine wr 3 (?_:Y);refine ZaG (by simp at hl⊢;exact(Zay (lt0 hl) rfl)) .head ?_;refine wr 6 (?_:Y);rw[<- Int.natCast_add];refine Zad (T.nx _ _ (ih (col+q.sp) (done++[.tup [.int col,q.v]]) _ (by simp at hl⊢;exact(kja hl)) (by simp[sSN,sSC] at hc;lia)) _ .refl)
 exact key _ cs 0 [] none (by simp;assumption) (Nat.le_trans hs (Nat.le_add_left _ _))
theorem Zcb{c:Nat}{x:V}(hn:n+4<900)(hx:(∃w s,x=Zdu w s)\/∃w,x=penV w):ZaQ G n 656 [.lst [x],.int c] μ 80:=by
 refine Zae f75 (dn hn rfl) rfl λQ qq=>?_
 have hx':=qq.x;have hr:=qq.r;have he:=qq.e;delta c75;rcases hx with⟨w,s,rfl⟩|⟨w,rfl⟩
 ·delta Zdu
  refine ZaH (vs:=[]) rfl rfl λfd=>?_
  refine wr 6 (?_:Y);refine Zar .lst (.inl rfl) ?_;refine Zbb rfl (by exact lb rfl) ?_;refine wf 5 (?_:Y);refine Zbt ?_;exact he _ rfl
 ·delta penV
  refine ZaH (vs:=[]) rfl rfl λfd=>?_
  refine wr 6 (?_:Y);refine Zar .lst (.inl rfl) ?_;refine Zbb rfl (by exact lb rfl) ?_;refine wf 5 (?_:Y);refine Zbt ?_;exact he _ rfl
theorem ZdC{o:Option Int}{up:Bool}(hn:n+10<900)(ho:Dm (wide o)):Zaj G n 668 [optV o,.bool up] μ (Pn.v up (.bx (wide o))):=by
 refine Zae f77 (dn hn rfl) rfl λQ qq=>?_
 delta c77;refine wf 2 (?_:Y);have fin:W (CallX G (n+1)) [] [.s 2,.l 1,.ite [.c (.ref 354),.c (.int 3),.c (.int 0),.l 2,.c (.int 0),.lst 0,.call 5] [.c (.ref 354),.c (.int 2),.l 2,.c (.int 0),.c (.int 0),.lst 0,.call 5],.ret] ⟨[.int (wide o)],[some (optV o),some (.bool up),none,none,none,none,none],μ,false⟩ Q:=by
  cases up with
  |true =>
   refine wr 8 (?_:Y);refine Zaq (vs:=[]) rfl rfl ?_;refine Zaa (Zdj (lw ‹_›) (.inr rfl) (by decide) ho (by decide)) rfl rfl rfl ?_;exact qq.w ⟨rfl,rfl⟩
  |false =>
   refine wr 8 (?_:Y);refine Zaq (vs:=[]) rfl rfl ?_;refine Zaa (Zdj (lw ‹_›) (.inl rfl) ho (by decide) (by decide)) rfl rfl rfl ?_;exact qq.w ⟨rfl,rfl⟩
 cases o with
 |none =>
  refine ZaE .isN ?_;simp only[optV,ZfJ];refine wr 2 (?_:Y);exact fin
 |some i =>
  refine ZaE .isN ?_;simp only[optV,ZfK];refine wr 2 (?_:Y);exact fin
def tabG(sz:List (Option Int))(gs:List Gu)(k:Nat):Gu:=if(sz.getD k none).isNone then mkG 0 0 0 0 0 else gs.getD (k+1) default
theorem Zc4{sz:List (Option Int)}{gs:List Gu}{k:Nat}(hn:n+10<900)(h1:k<sz.length)(h2:gs.length=sz.length+1)(h3:k<1000):Zaj G n 675 [.lst (sz.map optV),.lst (gs.map Gu.v),.int k] μ (ZaB (tabG sz gs k).v 109):=by
 refine Zae f78 (dn hn rfl) rfl λQ qq=>?_
 delta c78;refine wf 3 (?_:Y);refine w_gi (rgM none rfl h1 (Zay ‹_› rfl)) ?_;refine w_c ?_;cases q:sz.getD k none with
 |none =>
  refine ZaE .isN ?_;simp only[optV,ZfJ];refine wr 2 (?_:Y);refine Zaa (Zeu (lw ‹_›)) rfl rfl rfl ?_;refine w_c ?_;refine Zaa (ZbK (lw ‹_›)) rfl rfl rfl ?_;refine qq.w ⟨?_,rfl⟩;rw[tabG,q];rfl
 |some i =>
  refine ZaE .isN ?_;simp only[optV,ZfK];refine wr 5 (?_:Y);refine w_gi (rgM (k:=k+1) default (by lia) (Nat.lt_of_le_of_lt h1 (Nat.le_of_eq h2.symm)) (Zag ‹_› rfl)) ?_;refine w_c ?_;refine Zaa (ZbK (lw ‹_›)) rfl rfl rfl ?_;refine qq.w ⟨?_,rfl⟩;rw[tabG,q];rfl
end
end
section
theorem ZaL{a b:Int}(h:b<=a):ZaF a b=[]:=by
 delta ZaF;rw[show(b-a).toNat=0 by exact(tnZ h)];rfl
theorem Zaw{a b:Int}(h:a<b):ZaF a b=.int a::ZaF (a+1) b:=by
 delta ZaF;rw[show(b-a).toNat=(b-(a+1)).toNat+1 by exact(tnS h),List.range_succ_eq_map];simp only[map_cons,map_map];congr 1
 ·simp
 ·apply map_congr_left
  intro i z;simp only[Function.comp];congr 1;simp;lia
noncomputable def ZbH(sz:List (Option Int))(gs:List Gu):Nat->Nat->List Pn
 |_,0=>[]
 |k,j+1=>.bx (wide (sz.getD k none))::.sk (tabG sz gs k)::ZbH sz gs (k+1) j
theorem pFN{z g k}:ZbH z g k 0=[]:=rfl
theorem pFS{z g k j}:ZbH z g k (j+1)=.bx (wide (z.getD k none))::.sk (tabG z g k)::ZbH z g (k+1) j:=rfl
def Zan(sz:List (Option Int))(gs:List Gu):List Pn:=.sk (gs.getD 0 default)::ZbH sz gs 0 sz.length
def Gu.ok(g:Gu):Prop:=g.so<=3/\g.ho<=3
theorem ZaW{α:Type}{L:List α}{k:Nat}{d:α}(h:k<L.length):L.getD k d∈L:=by simp[h]
theorem tabG_ok{sz:List (Option Int)}{gs:List Gu}{k:Nat}(h:∀g∈gs,g.ok)(h1:k<sz.length)(h2:gs.length=sz.length+1):(tabG sz gs k).ok:=by
 delta tabG;split
 ·exact⟨by decide,by decide⟩
 ·exact h _ (ZaW (Nat.lt_of_le_of_lt h1 (Nat.le_of_eq h2.symm)))
theorem Zdp{sz:List (Option Int)}{gs:List Gu}(h:∀g∈gs,g.ok)(h2:gs.length=sz.length+1):∀{j k:Nat},k+j<=sz.length->∀p∈ZbH sz gs k j,p.ok
 |0,_,_,_,hp=>by simp[pFN,pFS] at hp
 |j+1,k,hk,p,hp=>by
  simp only[pFN,pFS,mem_cons] at hp;rcases hp with rfl|rfl|hp
  ·trivial
  ·exact tabG_ok h (lt0 hk) h2
  ·exact Zdp h h2 (kjb hk) p hp
theorem ZbR{sz:List (Option Int)}{gs:List Gu}(h:∀g∈gs,g.ok)(h2:gs.length=sz.length+1):∀p∈Zan sz gs,p.ok:=by
 intro p hp;rcases mem_cons.mp hp with rfl|hp
 ·exact h _ (ZaW (Nat.zero_lt_of_lt (Nat.le_of_eq h2.symm)))
 ·exact Zdp h h2 (by lia) p hp
theorem Zb5{sz:List (Option Int)}{gs:List Gu}:∀{j k:Nat},(ZbH sz gs k j).length=2*j
 |0,_=>rfl
 |j+1,k=>by simp[pFN,pFS,Zb5 (j:=j)];lia
section
variable{G:Gl}{n:Nat}{μ:Led}
theorem ZbQ{sz:List (Option Int)}{gs:List Gu}{m am:V}{up:Bool}{R:V->Led->Prop}{E:Addr->Prop}(hn:n+14<900)(h0:1<=sz.length)(h1:sz.length<=100)(h2:gs.length=sz.length+1)(hd:∀o∈sz,Dm (wide o))
  (hp:CodeOK G (n+1) (if up then 635 else 627) [.lst ((Zan sz gs).map (Pn.v up)),m,am] μ R E):CodeOK G n 682 [.lst (sz.map optV),.lst (gs.map Gu.v),m,am,.bool up] μ R E:=by
 refine Zae f79 (dn hn rfl) rfl λQ qq=>?_
 delta c79;refine wf 3 (?_:Y);refine Zax (.len (by simp;exact Zag ‹_› rfl)) rfl rfl ?_;rw[length_map];refine w_l rfl ?_;refine Zaa (ZcH (d1 hn rfl) h0 (ZaV ‹_› rfl) h2).cx rfl rfl rfl ?_;refine wr 4 (?_:Y);refine w_gi (rgM (k:=0) default rfl (Nat.zero_lt_of_lt (Nat.le_of_eq h2.symm)) (lb rfl)) ?_;refine w_c ?_;refine Zaa (ZbK (d1 hn rfl)) rfl rfl rfl ?_;refine ZaH (vs:=[_]) rfl rfl λfd=>?_
 refine wr 4 (?_:Y);refine Zax (.len (by simp;exact Zag ‹_› rfl)) rfl rfl ?_;rw[length_map];refine we 1 [1] rfl (?_:Y);refine Zar (.rng (lb rfl) (Zag ‹_› rfl)) (.inl rfl) ?_;have key:∀(j k:Nat) (done:List Pn) (x:Option V),k+j=sz.length->done.length<=2*k+1->done++ZbH sz gs k j=Zan sz gs->ForW (CallX G (n+1)) [] (.v 6) b79_1 [.l 4,.ite [.c (.ref 635),.l 5,.l 2,.l 3,.call 3] [.c (.ref 627),.l 5,.l 2,.l 3,.call 3],.ret] Q false 11 (ZaF k sz.length)
   [some (.lst (sz.map optV)),some (.lst (gs.map Gu.v)),some m,some am,some (.bool up),some (.ref fd),x,none,none,none,none] ((fd,.list (done.map (Pn.v up)))::μ):=by
  intro j;induction j with
  |zero =>
   intro k done x hk hl e;refine(ZaL (Int.ofNat_le.mpr (kj0 hk))).symm▸?_;refine ZaA rfl ?_;refine w_st (.frzL (μ1:=[]) (l':=[some (.lst (sz.map optV)),some (.lst (gs.map Gu.v)),some m,some am,some (.bool up),some (.lst (done.map (Pn.v up))),x,none,none,none,none]) .id (.cons (.cons (.cons (.cons (.cons (.sm .here .id)))))) .id .refl) ?_;have e':done=Zan sz gs:=by rw[<- e];simp[pFN,pFS]
   refine e'.symm▸?_;cases up with
   |true =>
    refine wr 6 (?_:Y);refine Zab hp.cx (vs:=[_,_,_]) rfl rfl rfl (λv μ' q=>?_) qq.e;exact Zak (qq.r _ _ q)
   |false =>
    refine wr 6 (?_:Y);refine Zab hp.cx (vs:=[_,_,_]) rfl rfl rfl (λv μ' q=>?_) qq.e;exact Zak (qq.r _ _ q)
  |succ j ih =>
   intro k done x hk hl e;refine(Zaw (Int.ofNat_lt.mpr (kjl hk))).symm▸?_;refine forV rfl (by exact lb rfl) λQ' T=>?_
   delta b79_1;refine w_l rfl ?_;refine w_mg (.app (.head _)) ?_;refine wr 3 (?_:Y);refine w_gi (rgM none rfl (kjl hk) (Zay (kj2 hk h1) rfl)) ?_;refine w_l rfl ?_;refine Zaa (ZdC (d1 hn rfl) (hd _ (ZaW (kjl hk)))).cx rfl rfl rfl ?_;refine ZaG (by simp;lia) .head ?_;refine wr 2 (?_:Y);refine w_mg (.app (.head _)) ?_;refine wr 4 (?_:Y);refine Zaa (Zc4 (d1 hn rfl) (kjl hk) h2 (Zay (kj2 hk h1) rfl)).cx rfl rfl rfl ?_;refine ZaG (by simp;lia) .head ?_;refine Zbf ?_;have:=ih (k+1) (done++[.bx (wide (sz.getD k none)),.sk (tabG sz gs k)]) (some (.int k)) (kjr hk) (by simp;exact(ds3 hl)) (by rw[<- e];simp[pFN,pFS]);simp only[map_append,map_cons,map_nil] at this;refine Zad (T.nx _ _ ?_ _ .refl);have e3:(done.map (Pn.v up)++[Pn.v up (.bx (wide (sz.getD k none)))])++[ZaB (tabG sz gs k).v 109]=done.map (Pn.v up)++[Pn.v up (.bx (wide (sz.getD k none))),Pn.v up (.sk (tabG sz gs k))]:=by
    rw[append_assoc];cases up<;>rfl
   refine e3.symm▸?_;exact this
 have:=key sz.length 0 [.sk (gs.getD 0 default)] none (by lia) (by simp) rfl;cases up<;>exact this
def Zcw(k w h d:Int)(e:Addr)(s:Set4):List (Nat×V):=Za2 k w h d (.ref e) s.sg s.o s.u s.e
def rowW(up:Bool)(mw:Int)(cs:List Ce):Int:=if up then mx (cs.map Ce.w) else mw
def rowH(up:Bool)(mh:Int)(cs:List Ce):Int:=if up then mh else mx (cs.map Ce.h)
def rowD(up:Bool)(cs:List Ce):Int:=if up then 0 else mx (cs.map Ce.d)
theorem ZeP{f:V->V}{g:Ce->V}(h:∀(col:Nat) c,f (.tup [.int col,c.v])=g c){cs:List Ce}:∀{col:Nat},(ZaJ col cs).map f=cs.map g:=by
 induction cs with
 |nil=>intro;rfl
 |cons c r ih=>intro col;simp[pVN,pVC,h,ih]
theorem ZeO{cs:List Ce}:∀{col:Nat}{v:V},v∈ZaJ col cs->∃(k:Nat) (c:Ce),c∈cs/\v=.tup [.int k,c.v]:=by
 induction cs with
 |nil=>intro col v h;simp[pVN,pVC] at h
 |cons c r ih =>
  intro col v h;simp only[pVN,pVC,mem_cons] at h;rcases h with rfl|h
  ·exact⟨col,c,.head _,rfl⟩
  ·obtain⟨k,c',h1,h2⟩:=ih h
   exact⟨k,c',.tail _ h1,h2⟩
def sec(j:Nat):V->V
 |.tup [_,c]=>gf c.fields j
 |_=>.none
def CeB(c:Ce):Prop:=Dm c.w/\Dm c.h/\Dm c.d
theorem row_box{cs:List Ce}{up:Bool}{mw mh:Int}{its:V}{s:Set4}(hn:n+10<900)(hl:cs.length<1000)(hc:∀c∈cs,CeB c)(hw:Dm mw)(hh:Dm mh) :
  CodeOK G n 687 [.lst (ZaJ 0 cs),boxV (kOf up) mw mh 0 its s,.bool up] μ (λv μ'=>∃a dx e,v=.ref a/\μ'=(a,.ins 354 dx (Zcw (kOf up) (rowW up mw cs) (rowH up mh cs) (rowD up cs) e s))::(e,.list [])::μ) (λz=>False):=by
 refine Zae f80 (dn hn rfl) rfl λQ qq=>?_
 have mxs:∀(g:Ce->Int) {j:Nat}{k:List IX}{r:List V}{l:List (Option V)},6<l.length/\7<l.length->(∀(col:Nat) c,sec j (.tup [.int col,c.v])=.int (g c))->(∀c:Ce,RA μ c.v j (.int (g c))) ->
   W (CallX G (n+1)) [] k ⟨.int (mx (cs.map g))::r,l,μ,false⟩ Q->W (CallX G (n+1)) [] (.comp (.t [6,7]) (.emit [.l 7,.at j])::.bin .Add::.call 1::k) ⟨.lst (ZaJ 0 cs)::.lst [.int 0]::.bi "max"::r,l,μ,false⟩ Q:=by
  intro g j k r l hlen hs hra h;refine ZcR (sec j) .lst hlen (by decide) (by rw[ZeQ];exact Zay ‹_› rfl) (λv hv=>?_) ?_
  ·obtain⟨k,c,z,rfl⟩:=ZeO hv
   refine⟨_,_,rfl,?_⟩;refine w_l (v:=c.v) (by rw[List.getElem?_set_self (by simp;exact hlen.2)]) ?_;refine w_at (hra c) ?_;rw[hs];exact Zad rfl
  ·rw[ZeP hs]
   refine Zao (.addL (by simp;exact(Zag (one1 hl) rfl))) ?_;have e:[V.int 0]++cs.map (λc=>V.int (g c))=(0::cs.map g).map .int:=by simp
   refine e.symm▸?_;refine Zax (.maxL Zfw mx_le) rfl rfl ?_;exact h
 have ra0:∀c:Ce,RA μ c.v 0 (.int c.w):=λc=>.pi (fs:=[(0,.int c.w),(7,.int c.h),(8,.int c.d),(9,.lst c.its),(18,.int c.sp),(19,c.t.v),(20,.bool c.up)]) (C:=461) (by decide) (by decide) rfl rfl
 have ra7:∀c:Ce,RA μ c.v 7 (.int c.h):=λc=>.pi (fs:=[(0,.int c.w),(7,.int c.h),(8,.int c.d),(9,.lst c.its),(18,.int c.sp),(19,c.t.v),(20,.bool c.up)]) (C:=461) (by decide) (by decide) rfl rfl
 have ra8:∀c:Ce,RA μ c.v 8 (.int c.d):=λc=>.pi (fs:=[(0,.int c.w),(7,.int c.h),(8,.int c.d),(9,.lst c.its),(18,.int c.sp),(19,c.t.v),(20,.bool c.up)]) (C:=461) (by decide) (by decide) rfl rfl
 have dw:Dm (mx (cs.map Ce.w)):=Zc7 λa ha=>by obtain⟨c,h1,rfl⟩:=mem_map.mp ha;exact(hc c h1).1
 have dh:Dm (mx (cs.map Ce.h)):=Zc7 λa ha=>by obtain⟨c,h1,rfl⟩:=mem_map.mp ha;exact(hc c h1).2.1
 have dd:Dm (mx (cs.map Ce.d)):=Zc7 λa ha=>by obtain⟨c,h1,rfl⟩:=mem_map.mp ha;exact(hc c h1).2.2
 delta c80 boxV Za2;cases up with
 |true =>
  refine wf 6 (?_:Y);refine Zaq (vs:=[_]) rfl rfl ?_;refine w_l rfl ?_;refine mxs Ce.w (by simp) (λcol c=>rfl) ra0 ?_;refine wr 4 (?_:Y);refine ZaH (vs:=[]) rfl rfl λe=>?_
  refine Zab (Zcd (lw ‹_›) (.inr rfl) dw hh (by decide)) (vs:=[_,_,_,_,_]) rfl rfl rfl (λv μ' q=>?_) (λz q=>q.elim);obtain⟨a,dx,rfl,rfl⟩:=q;delta Za2;refine we 14 [0,0,0] rfl (?_:Y);exact qq.w ⟨a,dx,e,rfl,rfl⟩
 |false =>
  refine wf 4 (?_:Y);refine Zaq (vs:=[_]) rfl rfl ?_;refine w_l rfl ?_;refine mxs Ce.h (by simp) (λcol c=>rfl) ra7 ?_;refine wr 3 (?_:Y);refine Zaq (vs:=[_]) rfl rfl ?_;refine w_l rfl ?_;refine mxs Ce.d (by simp) (λcol c=>rfl) ra8 ?_;refine wr 7 (?_:Y);refine ZaH (vs:=[]) rfl rfl λe=>?_
  refine Zab (Zcd (lw ‹_›) (.inl rfl) hw dh dd) (vs:=[_,_,_,_,_]) rfl rfl rfl (λv μ' q=>?_) (λz q=>q.elim);obtain⟨a,dx,rfl,rfl⟩:=q;delta Za2;refine we 14 [0,0,0] rfl (?_:Y);exact qq.w ⟨a,dx,e,rfl,rfl⟩
def Zbq(c:Ce)(own sz rw rh rd:Int):V:=if c.up then boxV 3 rw own c.d (.lst c.its) (setG c.t (sz-c.al)) else boxV 2 own rh rd (.lst c.its) (setG c.t (sz-c.al))
theorem set_cell{c:Ce}{o:Option Int}{sz k rw rh rd:Int}{a dx e:Addr}{s:Set4}(hn:n+10<900)(hc:CeB c)(hb:TotB c.t)(ho:Dm (wide o))(h1:Dm rw)(h2:Dm rh)(h3:Dm rd) :
  Zaj G n 694 [c.v,optV o,.int sz,.ref a] ((a,.ins 354 dx (Zcw k rw rh rd e s))::μ) (Zbq c (wide o) sz rw rh rd):=by
 refine Zae f81 (dn hn rfl) rfl λQ qq=>?_
 have e1:c.v=.ins 461 [(0,.int c.w),(7,.int c.h),(8,.int c.d),(9,.lst c.its),(18,.int c.sp),(19,c.t.v),(20,.bool c.up)]:=rfl;have fin:∀{b:Addr}{dx':Addr}{kk w h d:Int}{L:Option V},Zbq c (wide o) sz rw rh rd=boxV kk w h d (.lst c.its) (setG c.t (sz-c.al)) ->
   W (CallX G (n+1)) [] [.c (.ref 570),.l 0,.at 19,.l 2,.c (.ref 642),.l 0,.call 1,.bin .Sub,.call 2,.unp 4,.l 5,.sa 11,.l 5,.sa 12,.l 5,.sa 13,.s 6,.l 5,.ret]
    ⟨[],[some c.v,some (optV o),some (.int sz),some (.ref a),L,some (.ref b),none,none,none,none,none],(b,.ins 354 dx' (Za2 kk w h d (.lst c.its) 0 0 0 1))::(a,.ins 354 dx (Zcw k rw rh rd e s))::μ,false⟩ Q:=by
  intro b dx' kk w h d L hcb;delta Za2;refine e1.symm▸?_;refine wr 6 (?_:Y);refine Zaa (alongC (c:=c) (d1 hn rfl)).cx rfl rfl rfl ?_;refine Zao .sub ?_;refine Zaa (Zeh (d1 hn rfl) hb).cx rfl rfl rfl ?_;delta Set4.v;refine we 8 [0,0,0] rfl (?_:Y);refine w_st (.frzI (μ1:=[]) (l':=[_,_,_,_,_,some (boxV kk w h d (.lst c.its) (setG c.t (sz-c.al))),_,none,none,none,none]) .id (.cons (.cons (.cons (.cons (.cons (.sm .here .id)))))) .id .refl) ?_;refine w_l rfl ?_;exact qq.w ⟨hcb.symm,rfl⟩
 have mid:W (CallX G (n+1)) [] (c81.drop 4) ⟨[.int (wide o)],[some c.v,some (optV o),some (.int sz),some (.ref a),none,none,none,none,none,none,none],(a,.ins 354 dx (Zcw k rw rh rd e s))::μ,false⟩ Q:=by
  delta c81 Zcw Za2;refine e1.symm▸?_;cases q:c.up with
  |true =>
   refine we 13 [0] rfl (?_:Y);refine Zab (Zcd (lw ‹_›) (.inr rfl) h1 ho hc.2.2) (vs:=[_,_,_,_,_]) rfl rfl rfl (λv μ' q=>?_) (λz q=>q.elim);obtain⟨b,dx',rfl,rfl⟩:=q;refine wr 1 (?_:Y);have:=@fin b dx' 3 rw (wide o) c.d (some (.int (wide o))) (by rw[Zbq,q];rfl);rw[e1,q] at this;exact this
  |false =>
   refine we 13 [0,0] rfl (?_:Y);refine Zab (Zcd (lw ‹_›) (.inl rfl) ho h2 h3) (vs:=[_,_,_,_,_]) rfl rfl rfl (λv μ' q=>?_) (λz q=>q.elim);obtain⟨b,dx',rfl,rfl⟩:=q;refine wr 1 (?_:Y);have:=@fin b dx' 2 (wide o) rh rd (some (.int (wide o))) (by rw[Zbq,q];rfl);rw[e1,q] at this;exact this
 delta c81;refine wf 2 (?_:Y);cases o with
 |none =>
  refine ZaE .isN ?_;simp only[optV,ZfJ];refine wr 2 (?_:Y);exact mid
 |some i =>
  refine ZaE .isN ?_;simp only[optV,ZfK];refine wr 2 (?_:Y);exact mid
end
end
section
noncomputable def ZcN(up:Bool)(sz:List (Option Int))(gs:List Gu):Nat->Nat->List V
 |_,0=>[]
 |k,j+1=>Pn.v up (.bx (wide (sz.getD k none)))::ZaB (tabG sz gs k).v 109::ZcN up sz gs (k+1) j
theorem fvN{u z g k}:ZcN u z g k 0=[]:=rfl
theorem fvS{u z g k j}:ZcN u z g k (j+1)=Pn.v u (.bx (wide (z.getD k none)))::ZaB (tabG z g k).v 109::ZcN u z g (k+1) j:=rfl
noncomputable def rowV(up:Bool)(sz:List (Option Int))(gs:List Gu)(E:List Int)(rw rh rd:Int):Nat->List Ce->List V
 |_,[]=>[]
 |col,c::r=>Zbq c (wide (sz.getD col none)) (E.getD (2*(col+c.sp)) 0-E.getD (2*col+1) 0) rw rh rd::ZaB (tabG sz gs col).v 109::(ZcN up sz gs (col+1) (c.sp-1)++rowV up sz gs E rw rh rd (col+c.sp) r)
theorem rowZ{u z g E a b d i}:rowV u z g E a b d i []=[]:=rfl
theorem rvC{u z g E a b d i c r}:rowV u z g E a b d i (c::r)=Zbq c (wide (z.getD i none)) (E.getD (2*(i+c.sp)) 0-E.getD (2*i+1) 0) a b d::ZaB (tabG z g i).v 109::(ZcN u z g (i+1) (c.sp-1)++rowV u z g E a b d (i+c.sp) r):=rfl
theorem ZcD{up:Bool}{sz:List (Option Int)}{gs:List Gu}:∀{j k:Nat},(ZcN up sz gs k j).length=2*j
 |0,_=>rfl
 |j+1,k=>by simp[fvN,fvS,ZcD (j:=j)];lia
theorem Zcj{up:Bool}{sz:List (Option Int)}{gs:List Gu}{E:List Int}{rw rh rd:Int}:∀{cs:List Ce}{col:Nat},(∀c∈cs,1<=c.sp)->(rowV up sz gs E rw rh rd col cs).length=2*Zas cs
 |[],_,_=>rfl
 |c::r,col,h=>by
  have:=h c (.head _);simp[rowZ,rvC,sSN,sSC,ZcD,Zcj (cs:=r) λd hd=>h d (.tail _ hd)];lia
def Zcx(up:Bool)(sz:List (Option Int))(gs:List Gu)(E:List Int)(mw mh:Int)(s:Set4)(cs:List Ce):V :=
 boxV (kOf up) (rowW up mw cs) (rowH up mh cs) (rowD up cs) (.lst (ZaB (gs.getD 0 default).v 109::rowV up sz gs E (rowW up mw cs) (rowH up mh cs) (rowD up cs) 0 cs)) s
section
variable{G:Gl}{n:Nat}{μ:Led}
theorem set_row{cs:List Ce}{up:Bool}{sz:List (Option Int)}{gs:List Gu}{E:List Int}{mw mh:Int}{its:V}{s:Set4}(hn:n+14<900)(hs:Zas cs<=sz.length)(h1:sz.length<=100)(h2:gs.length=sz.length+1)(hE:E.length=2*sz.length+2)(hd:∀o∈sz,Dm (wide o))
  (hc:∀c∈cs,CeB c/\TotB c.t/\1<=c.sp) (hw:Dm mw) (hh:Dm mh):Zaj G n 701 [.lst (ZaJ 0 cs),.lst (sz.map optV),.lst (gs.map Gu.v),boxV (kOf up) mw mh 0 its s,.lst (E.map .int),.bool up] μ (Zcx up sz gs E mw mh s cs):=by
 have hl:cs.length<=Zas cs:=by
  clear hs;induction cs with
  |nil=>exact Nat.le_refl _
  |cons c r ih=>have:=ih λd hd=>hc d (.tail _ hd);have:=(hc c (.head _)).2.2;simp[sSN,sSC];lia
 have dW:Dm (rowW up mw cs):=by cases up;exact hw;exact Zc7 λa ha=>by obtain⟨c,h1,rfl⟩:=mem_map.mp ha;exact(hc c h1).1.1
 have dH:Dm (rowH up mh cs):=by cases up;exact Zc7 (λa ha=>by obtain⟨c,h1,rfl⟩:=mem_map.mp ha;exact(hc c h1).1.2.1);exact hh
 have dD:Dm (rowD up cs):=by cases up;exact Zc7 (λa ha=>by obtain⟨c,h1,rfl⟩:=mem_map.mp ha;exact(hc c h1).1.2.2);exact(by decide:Dm 0)
 have tl:(ZaB (gs.getD 0 default).v 109::rowV up sz gs E (rowW up mw cs) (rowH up mh cs) (rowD up cs) 0 cs).length<2^18:=by
  rw[length_cons,Zcj λc h=>(hc c h).2.2];lia
 generalize hrw:rowW up mw cs=rw' at dW tl;generalize hrh:rowH up mh cs=rh at dH tl;generalize hrd:rowD up cs=rd at dD tl;refine Zae f82 (dn hn rfl) rfl λQ qq=>?_
 have hx:=qq.x;have hr:=qq.r;have he:=qq.e;have hrb:=row_box (G:=G) (n:=n+1) (μ:=μ) (its:=its) (s:=s) (up:=up) (d1 hn rfl) (Zag (Nat.le_trans (Nat.le_trans hl hs) h1) rfl) (λc h=>(hc c h).1) hw hh;rw[hrw,hrh,hrd] at hrb;have hres:Zcx up sz gs E mw mh s cs=boxV (kOf up) rw' rh rd (.lst (ZaB (gs.getD 0 default).v 109::rowV up sz gs E rw' rh rd 0 cs)) s:=by rw[Zcx,hrw,hrh,hrd]
 rw[hres] at hr hx;clear hres;delta c82;refine wf 4 (?_:Y);refine Zab hrb.cx (vs:=[_,_,_]) rfl rfl rfl (λv μ' q=>?_) (λz q=>q.elim);obtain⟨a,dx,e,rfl,rfl⟩:=q;clear hrb;refine we 3 [0] rfl (?_:Y);refine w_mg (.app (.tail _ (.head _))) ?_;refine wr 3 (?_:Y);refine w_gi (rgM (k:=0) default rfl (Nat.zero_lt_of_lt (Nat.le_of_eq h2.symm)) (lb rfl)) ?_;refine w_c ?_;refine Zaa (ZbK (d1 hn rfl)) rfl rfl rfl ?_;refine ZaG (by decide) (.tail .head) ?_;refine wr 2 (?_:Y);refine Zar .lst (.inl rfl) ?_;have fill:∀(up':Bool) (S M EE:V) (Q:Post) (o1 o2 o3 o4:Option V) (j k top:Nat) (done:List V) (x:Option V),k+j=top->top<=sz.length->done.length+2*j<2^18 ->
   (∀x,Q.nx ⟨[],[o1,some (.lst (sz.map optV)),some (.lst (gs.map Gu.v)),some M,some EE,some (.bool up),some (.ref a),o2,o3,o4,x,none,none,none,none],(a,.ins 354 dx (Zcw (kOf up) rw' rh rd e s))::(e,.list (done++ZcN up sz gs k j))::μ,false⟩) ->
   ForW (CallX G (n+1)) [] (.v 10) b82_2 [] Q false 15 (ZaF k top) [o1,some (.lst (sz.map optV)),some (.lst (gs.map Gu.v)),some M,some EE,some (.bool up),some (.ref a),o2,o3,o4,x,none,none,none,none] ((a,.ins 354 dx (Zcw (kOf up) rw' rh rd e s))::(e,.list done)::μ):=by
  intro up' S M EE Q o1 o2 o3 o4 j;induction j with
  |zero =>
   intro k top done x hk ht hl h;rw[ZaL (Int.ofNat_le.mpr (kj0 hk))];refine ZaA rfl (Zad ?_);simpa [fvN,fvS] using h x
  |succ j ih =>
   intro k top done x hk ht hl h;rw[Zaw (Int.ofNat_lt.mpr (kjl hk))];refine forV rfl (by exact lb rfl) λQ' T=>?_
   simp only[set_cons_succ,set_cons_zero];delta b82_2 Zcw Za2;refine we 2 [0] rfl (?_:Y);refine w_mg (.app (.tail _ (.head _))) ?_;refine wr 3 (?_:Y);refine w_gi (rgM none rfl (kj2 hk ht) (Zay (kj3 hk ht h1) rfl)) ?_;refine w_l rfl ?_;refine Zaa (ZdC (d1 hn rfl) (hd _ (ZaW (kj2 hk ht)))).cx rfl rfl rfl ?_;refine ZaG (Zay (lt0 hl) rfl) (.tail .head) ?_;refine we 3 [0] rfl (?_:Y);refine w_mg (.app (.tail _ (.head _))) ?_;refine wr 4 (?_:Y);refine Zaa (Zc4 (d1 hn rfl) (kj2 hk ht) h2 (Zay (kj3 hk ht h1) rfl)).cx rfl rfl rfl ?_;refine ZaG (by simp;exact(Zag (lt0 hl) rfl)) (.tail .head) ?_;refine Zbf ?_;have:=ih (k+1) top ((done++[Pn.v up (.bx (wide (sz.getD k none)))])++[ZaB (tabG sz gs k).v 109]) (some (.int k)) (kjr hk) ht (by simp;exact(h25 hl)) (λx=>by
    have:=h x;simpa [fvN,fvS] using this)
   exact Zad (T.nx _ _ this _ .refl)
 have key:∀(P M EE:V) (qs:List Ce) (col:Nat) (done:List V) (x7 x8 x9 x10:Option V),M=boxV (kOf up) mw mh 0 its s->EE=.lst (E.map .int)->(∀c∈qs,CeB c/\TotB c.t/\1<=c.sp)->col+Zas qs<=sz.length->done++rowV up sz gs E rw' rh rd col qs=ZaB (gs.getD 0 default).v 109::rowV up sz gs E rw' rh rd 0 cs ->
   ForW (CallX G (n+1)) [] (.t [7,8]) b82_1 [.l 6,.ret] Q false 15 (ZaJ col qs) [some P,some (.lst (sz.map optV)),some (.lst (gs.map Gu.v)),some M,some EE,some (.bool up),some (.ref a),x7,x8,x9,x10,none,none,none,none] ((a,.ins 354 dx (Zcw (kOf up) rw' rh rd e s))::(e,.list done)::μ):=by
  intro P M EE qs;induction qs with
  |nil =>
   intro col done x7 x8 x9 x10 hM hEE z z hdone;refine ZaA rfl ?_;have hd':done=ZaB (gs.getD 0 default).v 109::rowV up sz gs E rw' rh rd 0 cs:=by rw[<- hdone];simp[rowZ,rvC]
   rw[<- hd'] at hr;refine w_st (.frzL (μ1:=[(a,.ins 354 dx (Zcw (kOf up) rw' rh rd e s))]) (μ':=(a,.ins 354 dx (Za2 (kOf up) rw' rh rd (.lst done) s.sg s.o s.u s.e))::μ) .id .id (.cons (.ins (.cons .id (.cons .id (.cons .id (.cons .id (.cons .here .id)))))) .id)
    (.frzI (μ1:=[]) (l':=[some P,some (.lst (sz.map optV)),some (.lst (gs.map Gu.v)),some M,some EE,some (.bool up),some (boxV (kOf up) rw' rh rd (.lst done) s),x7,x8,x9,x10,none,none,none,none]) .id (.cons (.cons (.cons (.cons (.cons (.cons (.sm .here .id))))))) .id .refl)) ?_
   refine w_l rfl ?_;exact Zak (hr _ _ ⟨rfl,rfl⟩)
  |cons c qs ih =>
   intro col done x7 x8 x9 x10 hM hEE hq hcol hdone;obtain⟨hcb,htb,hsp⟩:=hq c (.head _);have hlen:done.length+2*Zas (c::qs)<2^18:=by
    have:=congrArg List.length hdone;rw[length_append,Zcj λd hd=>(hq d hd).2.2] at this;exact(this▸tl)
   simp only[sSN,sSC] at hcol hlen;refine forT rfl (by intro i hi;simp at hi;rcases hi with rfl|rfl<;>exact lb rfl) rfl λQ' T=>?_
   have eb:∀(l0 l1 l2 l3 l4 l5 l6:Option V) (r:List (Option V)),ZbJ [7,8] [.int col,c.v] (l0::l1::l2::l3::l4::l5::l6::x7::x8::r)=l0::l1::l2::l3::l4::l5::l6::some (.int col)::some c.v::r:=λz z z z z z z z=>rfl
   rw[eb];have ce:c.v=.ins 461 [(0,.int c.w),(7,.int c.h),(8,.int c.d),(9,.lst c.its),(18,.int c.sp),(19,c.t.v),(20,.bool c.up)]:=rfl;delta b82_1;refine we 9 [0] rfl (?_:Y);have sc:=λ(s1:Int)=>set_cell (G:=G) (n:=n+1) (μ:=(e,.list done)::μ) (c:=c) (o:=sz.getD col none) (sz:=s1) (k:=kOf up) (rw:=rw') (rh:=rh) (rd:=rd) (a:=a) (dx:=dx) (e:=e) (s:=s) (d1 hn rfl) hcb htb (hd _ (ZaW (cpS hcol hsp))) dW dH dD
   unfold Zcw Za2 at sc⊢;refine w_mg (.app (.tail _ (.head _))) ?_;refine wr 4 (?_:Y);refine w_gi (rgM none rfl (cpS hcol hsp) (Zag (cp1 hcol h1) rfl)) ?_;refine wh 6 [0] (?_:Y);rw[hEE];refine w_gi (rgM (k:=2*(col+c.sp)) 0 (by lia) (eL hcol hE) (Zag (Nat.mul_le_mul_left 2 (cp2 hcol h1)) rfl)) ?_;refine wh 6 [0] (?_:Y);refine w_gi (rgM (k:=2*col+1) 0 (Int.natCast_add _ _) (eS hcol hE) (Zag (Nat.succ_le_succ (Nat.mul_le_mul_left 2 (cp1 hcol h1))) rfl)) ?_;refine wr 2 (?_:Y);refine Zaa (sc _).cx rfl rfl rfl ?_;refine ZaG (Zay (lt0 hlen) rfl) (.tail .head) ?_;refine we 3 [0] rfl (?_:Y);refine w_mg (.app (.tail _ (.head _))) ?_;refine wr 4 (?_:Y);refine Zaa (Zc4 (d1 hn rfl) (cpS hcol hsp) h2 (Zag (cp1 hcol h1) rfl)).cx rfl rfl rfl ?_;refine ZaG (by simp;exact(Zag (lt0 hlen) rfl)) (.tail .head) ?_;refine we 9 [3] rfl (?_:Y);rw[show(col:Int)+1=((col+1:Nat):Int) by lia,show(col:Int)+c.sp-1+1=((col+c.sp:Nat):Int) by lia];refine Zar (.rng (Zag (Nat.succ_le_succ (cp1 hcol h1)) rfl) (Zag (cp2 hcol h1) rfl)) (.inl rfl) ?_;have:=fill up .none M EE Q' (some P) (some (.int col)) (some c.v) (some (.int ((col:Int)+c.sp-1))) (c.sp-1) (col+1) (col+c.sp) (done++[Zbq c (wide (sz.getD col none)) (E.getD (2*(col+c.sp)) 0-E.getD (2*col+1) 0) rw' rh rd]++[ZaB (tabG sz gs col).v 109]) x10 (s2 hsp) (cpL hcol) (by simp;exact(h1e hlen hsp)) (λx=>by
    refine T.nx _ _ (ih (col+c.sp) _ _ _ _ _ hM hEE (λd hd=>hq d (.tail _ hd)) (cpA hcol) ?_) _ .refl;rw[<- hdone];simp[rowZ,rvC])
   rw[hEE] at this;exact this
 refine key _ _ _ cs 0 [_] none none none none rfl rfl hc (z0 hs) rfl
end
end
section
inductive Rw where
 |cells (cs:List Ce)|rule (w h d:Option Int)|pen (v:Int)|skip (g:Gu)
noncomputable def Rw.ctorIdx(x:Rw):Nat:=Rw.casesOn x (λ_=>0) (λ_ _ _=>1) (λ_=>2) (λ_=>3)
noncomputable def Rw.v:Rw->V
 |.cells cs=>.lst (cs.map Ce.v)
 |.rule w h d=>ZbO w h d
 |.pen v=>penV v
 |.skip g=>ZaB g.v 0
noncomputable def orO(o:Option Int)(x:Int):Option Int:=some (o.getD x)
def finRow(up:Bool)(sz:List (Option Int))(gs:List Gu)(E:List Int)(mw mh:Int)(s:Set4):Rw->V
 |.cells cs=>Zcx up sz gs E mw mh s cs
 |.rule w h d=>ZbO (orO w mw) (orO h mh) (orO d 0)
 |.pen v=>penV v
 |.skip g=>ZaB g.v 0
def CeOk(up:Bool)(c:Ce):Prop:=CeB c/\TotB c.t/\1<=c.sp/\c.up=up
noncomputable def Rw.ok(up:Bool)(k:Nat):Rw->Prop
 |.cells cs=>Zas cs<=k/\∀c∈cs,CeOk up c
 |.rule w h d=>DmO w/\DmO h/\DmO d
 |_=>True
section
variable{G:Gl}{n:Nat}{μ:Led}
theorem set_rule{w h d:Option Int}{k mw mh:Int}{its:V}{s:Set4}(hn:n+10<900)(hw:DmO w)(hh:DmO h)(hd:DmO d)(h1:Dm mw)(h2:Dm mh):Zaj G n 708 [ZbO w h d,boxV k mw mh 0 its s] μ (ZbO (orO w mw) (orO h mh) (orO d 0)):=by
 refine Zae f83 (dn hn rfl) rfl λQ qq=>?_
 have nb:∀o,(optV o).nb=true:=λo=>by cases o<;>rfl
 have orD:∀{o:Option Int}{x:Int},DmO o->Dm x->DmO (orO o x):=by
  intro o x ho qq.x i hi;cases o with
  |none=>cases hi;exact qq.x
  |some j=>cases hi;exact ho _ rfl
 have step:∀{j:Nat}{o:Option Int}{x:Int}{k:List IX}{r:List V}{l:List (Option V)}{rv mv:V},l[0]?=some (some rv)->l[1]?=some (some mv)->RA μ rv j (optV o)->RA μ mv j (.int x)->W (CallX G (n+1)) [] k ⟨optV (orO o x)::r,l,μ,false⟩ Q ->
   W (CallX G (n+1)) [] (.l 0::.at j::.c .none::.cmp .Is::.ite [.l 1,.at j] [.l 0,.at j]::k) ⟨r,l,μ,false⟩ Q:=by
  intro j o x k r l rv mv e0 e1 r0 r1 hk;refine w_l e0 (w_at r0 (w_c (ZaE .isN ?_)));cases o with
  |none=>exact ZaS (w_l e1 (w_at r1 hk))
  |some i=>exact ZaT (w_l e0 (w_at r0 hk))
 have ra:∀{j:Nat}{o:Option Int},j<21->([(0,optV w),(7,optV h),(8,optV d)]:List (Nat×V)).lookup j=some (optV o)->RA μ (ZbO w h d) j (optV o):=λhj e=>.pi (by decide) hj e (nb _)
 unfold c83;refine step (o:=w) rfl rfl (ra (by decide) rfl) (.pi (by decide) (by decide) rfl rfl) ?_;refine wr 1 (?_:Y);refine step (o:=h) rfl rfl (ra (by decide) rfl) (.pi (by decide) (by decide) rfl rfl) ?_;refine wr 4 (?_:Y);refine step (o:=d) rfl rfl (ra (by decide) rfl) (.pi (by decide) (by decide) rfl rfl) ?_;refine Zaa (ZdR (lw ‹_›) (orD hw h1) (orD hh h2) (orD hd (by decide))) rfl rfl rfl ?_;exact qq.w ⟨rfl,rfl⟩
theorem okS{sg o u r0 r1:Int}(h:u.natAbs<2^64):Zd5 ⟨sg,o,u,1,r0,r1⟩:=⟨h,(by decide:(0:Int)<1),(by decide:(1:Int)<2^60)⟩
theorem setOk{t:Tot}{e:Int}(h:TotB t)(he:e.natAbs<2^62):Zd5 (setG t e):=by
 have nz:∀{f:Nat->Int},(∀k,(f k).natAbs<2^60)->∀{x:Int},x.natAbs<2^62->Zd5 (Zbl f x)/\Zd5 (ZaX f x):=by
  intro f hf x hx;have h0:=hf 0;have ht:=hf (top f);constructor
  ·unfold Zbl
   by_cases q:top f=0
   ·rw[if_pos q]
    split
    ·exact okS (by decide)
    ·split
     ·exact⟨naU _ hx rfl,by show 0<f 0;assumption,naT h0⟩
     ·exact⟨naU _ (naN hx) rfl,by show 0 < -f 0;lia,naT (naN h0)⟩
   ·rw[if_neg q]
    have:=ZcS q;split
    ·exact⟨naU _ hx rfl,by show 0<f _;assumption,naT ht⟩
    ·exact⟨naU _ (naN hx) rfl,by show 0 < -f _;lia,naT (naN ht)⟩
  ·unfold ZaX
   by_cases q:top f=0
   ·rw[if_pos q]
    split
    ·split
     ·exact okS (by decide)
     ·exact okS (by decide)
    ·split
     ·exact okS (by decide)
     ·split
      ·exact⟨naU _ hx rfl,by show 0<f 0;assumption,naT h0⟩
      ·exact⟨naU _ (naN hx) rfl,by show 0 < -f 0;lia,naT (naN h0)⟩
   ·rw[if_neg q]
    have:=ZcS q;split
    ·exact⟨naU _ hx rfl,by show 0<f _;assumption,naT ht⟩
    ·exact⟨naU _ (naN hx) rfl,by show 0 < -f _;lia,naT (naN ht)⟩
 unfold setG;split
 ·exact okS (by decide)
 ·split
  ·exact(nz (λk=>(h k).1) he).1
  ·exact(nz (λk=>(h k).2) (naN he)).2
theorem ZbL{s:Set4}:∀{ps:List Pn}{x y:Int},(ZaP s ps x y).length=ps.length
 |[],_,_=>rfl
 |.sk g::r,_,_=>by simp[plN,plS,plB,ZbL (ps:=r)]
 |.bx x::r,_,_=>by simp[plN,plS,plB,ZbL (ps:=r)]
structure Fin where
 sz:List (Option Int)
 gs:List Gu
 up:Bool
 m:Int
 am:Int
noncomputable def Fin.own(f:Fin):Int:=(Zaf (Zan f.sz f.gs)).n
noncomputable def Fin.goal(f:Fin):Int:=Za0 f.m f.own f.am
noncomputable def Fin.set(f:Fin):Set4:=setG (Zaf (Zan f.sz f.gs)) (f.goal-f.own)
noncomputable def Fin.mw(f:Fin):Int:=if f.up then 0 else f.goal
noncomputable def Fin.mh(f:Fin):Int:=if f.up then f.goal else 0
noncomputable def Fin.E(f:Fin):List Int:=0::ZaP f.set (Zan f.sz f.gs) 0 0
noncomputable def Fin.row(f:Fin):Rw->V:=finRow f.up f.sz f.gs f.E f.mw f.mh f.set
noncomputable def Fin.model(f:Fin):V:=boxV (kOf f.up) f.mw f.mh 0 (.lst ((Zan f.sz f.gs).map (Pn.v f.up))) f.set
structure Fin.Ok(f:Fin):Prop where
 c0:1<=f.sz.length
 c1:f.sz.length<=100
 g:f.gs.length=f.sz.length+1
 d:∀o∈f.sz,Dm (wide o)
 gk:∀g∈f.gs,g.ok
 tb:TotB (Zaf (Zan f.sz f.gs))
 ow:f.own.natAbs<2^61
 m:f.m=0\/f.m=1
theorem protoOk{f:Fin}(h:f.Ok)(hn:n+14<900)(ha:Dm f.am)(hg:Dm f.goal):Zaj G n 682 [.lst (f.sz.map optV),.lst (f.gs.map Gu.v),.int f.m,.int f.am,.bool f.up] μ (.tup [f.model,f.set.rep]):=by
 refine ZbQ ‹_› h.c0 h.c1 h.g h.d ?_;have hp:=ZbR h.gk h.g;obtain⟨sz,gs,up,m,am⟩:=f;cases up with
 |true=>exact vpack (lw ‹_›) hp (by simp[Zan]) h.tb h.m ha hg
 |false=>exact hpack (lw ‹_›) hp (by simp[Zan]) h.tb h.m ha hg
theorem protoBad{f:Fin}(h:f.Ok)(hn:n+14<900)(hb:¬Dm f.am\/¬Dm f.goal):ZaQ G n 682 [.lst (f.sz.map optV),.lst (f.gs.map Gu.v),.int f.m,.int f.am,.bool f.up] μ 68:=by
 refine ZbQ ‹_› h.c0 h.c1 h.g h.d ?_;have hp:=ZbR h.gk h.g;obtain⟨sz,gs,up,m,am⟩:=f;by_cases ha:Dm am
 ·cases up with
  |true=>exact vpackB (lw ‹_›) hp h.m ha (hb.resolve_left λq=>q ha)
  |false=>exact hpackB (lw ‹_›) hp h.m ha (hb.resolve_left λq=>q ha)
 ·cases up with
  |true=>exact Ze5 (lw ‹_›) hp λown μ=>Zet (dn (b:=8) hn rfl) h.m ha
  |false=>exact ZfN (lw ‹_›) hp λown μ=>Zet (dn (b:=8) hn rfl) h.m ha
theorem Zfl{f:Fin}(h:f.Ok)(hn:n+14<900):ZaQ G n 682 [.lst (f.sz.map optV),.lst (f.gs.map Gu.v),.int 2,.int f.am,.bool f.up] μ 56:=by
 refine ZbQ ‹_› h.c0 h.c1 h.g h.d ?_;have hp:=ZbR h.gk h.g;obtain⟨sz,gs,up,m,am⟩:=f;cases up with
 |true=>exact Ze5 (lw ‹_›) hp λown μ=>Zdx (dn (b:=8) hn rfl)
 |false=>exact ZfN (lw ‹_›) hp λown μ=>Zdx (dn (b:=8) hn rfl)
theorem Zfm{f:Fin}{b:Bool}(h:f.Ok)(hn:n+14<900):ZaQ G n 682 [.lst (f.sz.map optV),.lst (f.gs.map Gu.v),.int 0,.bool b,.bool f.up] μ 56:=by
 refine ZbQ ‹_› h.c0 h.c1 h.g h.d ?_;have hp:=ZbR h.gk h.g;obtain⟨sz,gs,up,m,am⟩:=f;cases up with
 |true=>exact Ze5 (lw ‹_›) hp λown μ=>Zdy (dn (b:=8) hn rfl)
 |false=>exact ZfN (lw ‹_›) hp λown μ=>Zdy (dn (b:=8) hn rfl)
theorem ZeN{f:Fin}{gs':List V}(h:f.Ok)(hn:n+14<900)(hg:gs'.length=f.sz.length):ZaQ G n 682 [.lst (f.sz.map optV),.lst gs',.int f.m,.int f.am,.bool f.up] μ 56:=by
 refine Zae f79 (dn hn rfl) rfl λQ qq=>?_
 have:=h.c1;unfold c79;refine wf 3 (?_:Y);refine Zax (.len (by simp;exact Zag ‹_› rfl)) rfl rfl ?_;rw[length_map];refine w_l rfl ?_;exact Zab (Zbj (dn (b:=5) hn rfl) h.c0 (ZaV ‹_› rfl) (Zag (hg▸this) rfl) (by lia)).cx (vs:=[_,_]) rfl rfl rfl (λz z q=>q.elim) qq.e
end
end
section
section
variable{G:Gl}{n:Nat}{μ:Led}
theorem ZfU{f:Fin}(h:f.Ok):f.E.length=2*f.sz.length+2:=by
 simp[Fin.E,ZbL,Zan,Zb5]
theorem goalB{f:Fin}(h:f.Ok)(hg:Dm f.goal):(f.goal-f.own).natAbs<2^62:=by
 have h1:=abL.mp h.ow;have:=hg.1;have:=hg.2;exact naB (by lia) (by lia)
abbrev ZdW(f:Fin)(R M rep:V)(m am:V)(fd:Addr)(x10 x11 x12 x13:Option V):List (Option V) :=
 [some R,some (.lst (f.sz.map optV)),some (.lst (f.gs.map Gu.v)),some m,some am,some (.bool f.up),some M,some rep,some (.lst (f.E.map .int)),some (.ref fd),x10,x11,x12,x13,none,none,none,none]
theorem ZfV{f:Fin}(h:f.Ok)(hn:n+17<900)(hg:Dm f.goal){Q:Post}{k:List IX}{R rep m am:V}{fd:Addr}{tail:List V}:∀(qs:List Rw) (done:List V) (x10 x11 x12 x13:Option V),(∀q∈qs,q.ok f.up f.sz.length)->done.length+qs.length<2^18 ->
  (∀y10 y11 y12 y13,ForW (CallX G n) [] (.v 10) ZcQ k Q false 18 tail (ZdW f R f.model rep m am fd y10 y11 y12 y13) ((fd,.list (done++qs.map f.row))::μ)) ->
  ForW (CallX G n) [] (.v 10) ZcQ k Q false 18 (qs.map Rw.v++tail) (ZdW f R f.model rep m am fd x10 x11 x12 x13) ((fd,.list done)::μ):=by
 have hmw:Dm f.mw:=by delta Fin.mw;split;decide;exact hg
 have hmh:Dm f.mh:=by delta Fin.mh;split;exact hg;decide
 intro qs;induction qs with
 |nil=>intro done x10 x11 x12 x13 z z ht;simpa using ht x10 x11 x12 x13
 |cons q qs ih =>
  intro done x10 x11 x12 x13 hq hl ht;have hq1:=hq q (.head _);have ih:=λx10 x11 x12 x13=>ih (done++[f.row q]) x10 x11 x12 x13 (λp hp=>hq p (.tail _ hp)) (by simp at hl⊢;exact(kja hl)) (λy10 y11 y12 y13=>by simpa using ht y10 y11 y12 y13)
  have hl':done.length<2^20:=by simp at hl;exact(Zay (lt0 hl) rfl)
  refine forV rfl (by exact lb rfl) λQ' T=>?_
  simp only[set_cons_succ,set_cons_zero];cases q with
  |cells cs =>
   have e1:Rw.v (.cells cs)=.lst (cs.map Ce.v):=rfl;have hlen:cs.length<=Zas cs:=by
    have:=hq1.2;clear ht e1 ih hq hl hq1;induction cs with
    |nil=>exact Nat.le_refl _
    |cons c r ih=>have:=ih λd hd=>this d (.tail _ hd);have:=(‹∀c_1∈c::r,CeOk f.up c_1› c (.head _)).2.2.1;simp[sSN,sSC];lia
   have hcl:cs.length<1000:=by have:=hq1.1;have:=h.c1;lia
   delta ZcQ;rw[e1];refine we 9 [0] rfl (?_:Y);refine Zax (.len (by simp;have:=h.c1;exact Zag ‹_› rfl)) rfl rfl ?_;rw[length_map];refine Zaa (Zbv (dn hn rfl) (Zay ‹_› rfl) hq1.1).cx rfl rfl rfl ?_;refine wr 2 (?_:Y);refine Zar .lst (.inl rfl) ?_;have inner:∀{Q:Post}{k:List IX}{l10 l11:V} (cs:List Ce) (col:Nat) (x12 x13:Option V),(∀c∈cs,CeOk f.up c)->(∀x12 x13,W (CallX G n) [] k ⟨[],ZdW f R f.model rep m am fd (some l10) (some l11) x12 x13,(fd,.list done)::μ,false⟩ Q) ->
     ForW (CallX G n) [] (.t [12,13]) b84_2 k Q false 18 (ZaJ col cs) (ZdW f R f.model rep m am fd (some l10) (some l11) x12 x13) ((fd,.list done)::μ):=by
    intro Q k l10 l11 cs;induction cs with
    |nil=>intro col x12 x13 z hk;exact ZaA rfl (hk _ _)
    |cons c cs ih =>
     intro col x12 x13 hc hk;refine forT rfl (by intro i hi;simp at hi;rcases hi with rfl|rfl<;>exact lb rfl) rfl λQ' T=>?_
     have eb:ZbJ [12,13] [.int col,c.v] (ZdW f R f.model rep m am fd (some l10) (some l11) x12 x13)=ZdW f R f.model rep m am fd (some l10) (some l11) (some (.int col)) (some c.v):=rfl;rw[eb];have e1:c.v=.ins 461 [(0,.int c.w),(7,.int c.h),(8,.int c.d),(9,.lst c.its),(18,.int c.sp),(19,c.t.v),(20,.bool c.up)]:=rfl;delta b84_2;rw[e1];refine wr 3 (?_:Y);refine ZaE .boolNe ?_;rw[(hc c (.head _)).2.2.2];rw[show(f.up != f.up)=false by simp];refine wr 1 (?_:Y);exact Zad (T.nx _ _ (ih _ _ _ (λd hd=>hc d (.tail _ hd)) hk) _ .refl)
   refine inner cs 0 x12 x13 hq1.2 λy12 y13=>?_
   refine w_l rfl ?_;refine w_mg (.app (.head _)) ?_;refine wr 7 (?_:Y);refine Zaa (set_row (its:=.lst ((Zan f.sz f.gs).map (Pn.v f.up))) (dn hn rfl) hq1.1 h.c1 h.g (ZfU h) h.d (λc hc=>⟨(hq1.2 c hc).1,(hq1.2 c hc).2.1,(hq1.2 c hc).2.2.1⟩) hmw hmh).cx rfl rfl rfl ?_;refine ZaG hl' .head ?_;refine Zbf ?_;exact Zad (T.nx _ _ (ih _ _ _ _) _ .refl)
  |rule w h d =>
   have e1:Rw.v (.rule w h d)=.ins 375 [(0,optV w),(7,optV h),(8,optV d)]:=rfl;delta ZcQ;rw[e1];refine we 11 [0] rfl (?_:Y);refine w_mg (.app (.head _)) ?_;refine wr 3 (?_:Y);refine Zaa (set_rule (its:=.lst ((Zan f.sz f.gs).map (Pn.v f.up))) (w:=w) (h:=h) (d:=d) (dn hn rfl) hq1.1 hq1.2.1 hq1.2.2 hmw hmh).cx rfl rfl rfl ?_;refine ZaG hl' .head ?_;refine Zbf ?_;exact Zad (T.nx _ _ (ih _ _ _ _) _ .refl)
  |pen v =>
   have e1:Rw.v (.pen v)=.ins 439 [(17,.int v)]:=rfl;delta ZcQ;rw[e1];refine we 11 [0] rfl (?_:Y);refine w_mg (.app (.head _)) ?_;refine w_l rfl ?_;refine ZaG hl' .head ?_;refine Zbf ?_;exact Zad (T.nx _ _ (ih _ _ _ _) _ .refl)
  |skip g =>
   have e1:Rw.v (.skip g)=.ins 418 [(15,g.v),(14,.int 0),(16,.none)]:=rfl;delta ZcQ;rw[e1];refine we 11 [0] rfl (?_:Y);refine w_mg (.app (.head _)) ?_;refine w_l rfl ?_;refine ZaG hl' .head ?_;refine Zbf ?_;exact Zad (T.nx _ _ (ih _ _ _ _) _ .refl)
theorem finGo{f:Fin}{R:V->Led->Prop}{E:Addr->Prop}{rows:List V}(h:f.Ok)(hn:n+18<900)(ha:Dm f.am)(hg:Dm f.goal)
  (hW:∀(Q:Post),(∀v μ,R v μ->Q.rt v μ)->(∀C,E C->Q.ex C)->∀fd,ForW (CallX G (n+1)) [] (.v 10) ZcQ [.l 9,.l 7,.tup 2,.ret] Q false 18 rows (ZdW f (.lst rows) f.model f.set.rep (.int f.m) (.int f.am) fd none none none none) ((fd,.list [])::μ)) :
  CodeOK G n 715 [.lst rows,.lst (f.sz.map optV),.lst (f.gs.map Gu.v),.int f.m,.int f.am,.bool f.up] μ R E:=by
 refine Zae f84 (dn hn rfl) rfl λQ qq=>?_
 delta c84;refine wf 6 (?_:Y);refine Zaa (protoOk h (dn (b:=15) hn rfl) ha hg).cx rfl rfl rfl ?_;refine wr 5 (?_:Y);refine Zaa (places (dn (b:=7) hn rfl) (setOk h.tb (goalB h hg)) (by simp[Zan,Zb5];have:=h.c1;exact(Zag (Nat.succ_le_succ (Nat.mul_le_mul_left 2 this)) rfl))).cx rfl rfl rfl ?_;refine wr 1 (?_:Y);refine ZaH (vs:=[]) rfl rfl λfd=>?_
 refine wr 2 (?_:Y);refine Zar .lst (.inl rfl) ?_;exact hW Q qq.r qq.e fd
theorem finished{f:Fin}{rows:List Rw}(h:f.Ok)(hn:n+18<900)(ha:Dm f.am)(hg:Dm f.goal)(hr:∀q∈rows,q.ok f.up f.sz.length)(hl:rows.length<2^17) :
  Zaj G n 715 [.lst (rows.map Rw.v),.lst (f.sz.map optV),.lst (f.gs.map Gu.v),.int f.m,.int f.am,.bool f.up] μ (.tup [.lst (rows.map f.row),f.set.rep]):=by
 refine finGo h hn ha hg λQ hr' he fd=>?_
 have:=ZfV (G:=G) (n:=n+1) (μ:=μ) (Q:=Q) (k:=[.l 9,.l 7,.tup 2,.ret]) (R:=.lst (rows.map Rw.v)) (rep:=f.set.rep) (m:=.int f.m) (am:=.int f.am) (fd:=fd) (tail:=[]) h ‹_› hg rows [] none none none none hr (by simp;exact Zay ‹_› rfl) (λy10 y11 y12 y13=>?_)
 ·simpa using this
 ·refine ZaA rfl ?_
  refine w_st (.frzL (μ1:=[]) (l':=[_,_,_,_,_,_,_,_,_,some (.lst (rows.map f.row)),y10,y11,y12,y13,none,none,none,none]) .id (.cons (.cons (.cons (.cons (.cons (.cons (.cons (.cons (.cons (.sm .here .id)))))))))) .id .refl) ?_;refine wr 3 (?_:Y);refine Zak ?_;exact hr' _ _ ⟨rfl,rfl⟩
theorem finBad{f:Fin}{rows:List Rw}{x:V}{C:Addr}(h:f.Ok)(hn:n+18<900)(ha:Dm f.am)(hg:Dm f.goal)(hr:∀q∈rows,q.ok f.up f.sz.length)(hl:rows.length<2^17)
  (hx:∃cs,x=.lst cs/\∀μ,ZaQ G (n+1) 656 [.lst cs,.int f.sz.length] μ C) :
  ZaQ G n 715 [.lst (rows.map Rw.v++[x]),.lst (f.sz.map optV),.lst (f.gs.map Gu.v),.int f.m,.int f.am,.bool f.up] μ C:=by
 obtain⟨cs,rfl,hx⟩:=hx;refine finGo h hn ha hg λQ hr' he fd=>?_
 refine ZfV h ‹_› hg rows [] none none none none hr (by simp;exact Zay ‹_› rfl) (λy10 y11 y12 y13=>?_);refine forV rfl (by exact lb rfl) λQ' T=>?_
 simp only[set_cons_succ,set_cons_zero];delta ZcQ;refine we 9 [0] rfl (?_:Y);refine Zax (.len (by simp;have:=h.c1;exact Zag ‹_› rfl)) rfl rfl ?_;rw[length_map];exact Zab (hx _).cx (vs:=[_,_]) rfl rfl rfl (λz z q=>q.elim) λC q=>T.ex _ (he _ q)
theorem finOther{f:Fin}{c:Ce}{cs:List Ce}{rest:List V}(h:f.Ok)(hn:n+18<900)(ha:Dm f.am)(hg:Dm f.goal)(hs:Zas (c::cs)<=f.sz.length)(hl:(c::cs).length<1000)(hu:c.up≠f.up) :
  ZaQ G n 715 [.lst (.lst ((c::cs).map Ce.v)::rest),.lst (f.sz.map optV),.lst (f.gs.map Gu.v),.int f.m,.int f.am,.bool f.up] μ 80:=by
 refine finGo h hn ha hg λQ hr' he fd=>?_
 refine forV rfl (by exact lb rfl) λQ' T=>?_
 simp only[set_cons_succ,set_cons_zero];delta ZcQ;refine we 9 [0] rfl (?_:Y);refine Zax (.len (by simp;have:=h.c1;exact Zag ‹_› rfl)) rfl rfl ?_;rw[length_map];refine Zaa (Zbv (dn (b:=5) hn rfl) (Zay ‹_› rfl) hs).cx rfl rfl rfl ?_;refine wr 2 (?_:Y);refine Zar .lst (.inl rfl) ?_;delta ZaJ;refine forT rfl (by intro i hi;simp at hi;rcases hi with rfl|rfl<;>exact lb rfl) rfl λQ'' T'=>?_
 refine wf 3 (?_:Y);refine ZaE .boolNe ?_;rw[show(c.up != f.up)=true by simp[hu]];refine wr 1 (?_:Y);refine Zbt ?_;exact T'.ex _ (T.ex _ (he _ rfl))
theorem Zcn{rows sz gs m am up:V}{C:Addr}(hn:n+18<900)(hp:∀μ,ZaQ G (n+1) 682 [sz,gs,m,am,up] μ C):ZaQ G n 715 [rows,sz,gs,m,am,up] μ C:=by
 refine Zae f84 (dn hn rfl) rfl λQ qq=>?_
 delta c84;refine wf 6 (?_:Y);exact Zab (hp _).cx (vs:=[_,_,_,_,_]) rfl rfl rfl (λz z q=>q.elim) qq.e
end
end
section
noncomputable def endL:List Addr->(Nat->List V)->Nat->Led->Led
 |[],_,_,μ=>μ
 |a::as,F,i,μ=>endL as F (i+1) ((a,.list (F i))::μ)
theorem eLN{F i m}:endL [] F i m=m:=rfl
theorem eLC{a s F i m}:endL (a::s) F i m=endL s F (i+1) ((a,.list (F i))::m):=rfl
noncomputable def updF(F:Nat->List V)(k:Nat)(x:V):Nat->List V:=λi=>if i=k then F i++[x] else F i
theorem ZcE{a:Addr}{F:Nat->List V}:∀{as:List Addr}{i:Nat}{μ:Led},endL (as++[a]) F i μ=(a,.list (F (i+as.length)))::endL as F i μ
 |[],_,_=>rfl
 |b::as,i,μ=>by
  simp only[cons_append,eLN,eLC];rw[ZcE (as:=as),length_cons,show i+1+as.length=i+(as.length+1) by lia]
theorem Zf0{a:Addr}{o o':AO}{F:Nat->List V}:∀{as:List Addr}{i:Nat}{μ μ':Led},LU a o o' μ μ'->LU a o o' (endL as F i μ) (endL as F i μ')
 |[],_,_,_,h=>h
 |_::as,_,_,_,h=>Zf0 (as:=as) (.tail h)
theorem ZfZ{F:Nat->List V}{k:Nat}{x:V}:∀{as:List Addr}{i:Nat}{μ:Led},k<i->endL as (updF F k x) i μ=endL as F i μ
 |[],_,_,_=>rfl
 |a::as,i,μ,h=>by
  simp only[eLN,eLC];rw[ZfZ (as:=as) (Nat.lt_succ_of_lt h),updF,if_neg (Nat.ne_of_gt h)]
theorem Zdd{F:Nat->List V}{x:V}:∀{as:List Addr}{i j:Nat}{μ:Led},j<as.length->LU (as.getD j 0) (.list (F (i+j))) (.list (F (i+j)++[x])) (endL as F i μ) (endL as (updF F (i+j) x) i μ)
 |[],_,_,_,h=>by simp at h
 |a::as,i,0,μ,h=>by
  simp only[eLN,eLC,Nat.add_zero,List.getD_cons_zero];rw[ZfZ (by lia)];refine Zf0 ?_;have:updF F i x i=F i++[x]:=by simp[updF]
  rw[this];exact .head
 |a::as,i,j+1,μ,h=>by
  simp only[eLN,eLC,List.getD_cons_succ];have:=Zdd (F:=F) (x:=x) (as:=as) (i:=i+1) (j:=j) (μ:=(a,.list (F i))::μ) (by simpa using h);rw[show i+1+j=i+(j+1) by lia] at this;have e:updF F (i+(j+1)) x i=F i:=by rw[updF,if_neg (by lia)]
  rw[e];exact this
theorem LU.mem{a:Addr}{o o':AO}{μ μ':Led}(h:LU a o o' μ μ'):(a,o)∈μ:=by
 induction h with
 |head=>exact .head _
 |tail _ ih=>exact .tail _ ih
theorem Zde{F:Nat->List V}:∀{as:List Addr}{i:Nat},∃μ1,∀μ,endL as F i μ=μ1++μ
 |[],_=>⟨[],λz=>rfl⟩
 |a::as,i=>by
  obtain⟨m,h⟩:=Zde (F:=F) (as:=as) (i:=i+1);exact⟨m++[(a,.list (F i))],λμ=>by simp[eLN,eLC,h]⟩
theorem ZbA{cs:List Ce}(h:∀c∈cs,1<=c.sp):cs.length<=Zas cs:=by
 induction cs with
 |nil=>exact Nat.le_refl _
 |cons c r ih=>have:=ih λd hd=>h d (.tail _ hd);have:=h c (.head _);simp[sSN,sSC];lia
noncomputable def Zat:Nat->List Ce->List (Nat×Ce)
 |_,[]=>[]
 |col,c::r=>(col,c)::Zat (col+c.sp) r
theorem pCN{i}:Zat i []=[]:=rfl
theorem pCC{i c r}:Zat i (c::r)=(i,c)::Zat (i+c.sp) r:=rfl
noncomputable def entV(p:Nat×Ce):V:=.tup [.int p.1,.int p.2.al]
def addE(F:Nat->List V)(p:Nat×Ce):Nat->List V:=updF F (p.1+p.2.sp-1) (entV p)
noncomputable def Rw.cs:Rw->List Ce
 |.cells cs=>cs
 |_=>[]
def allP(rows:List Rw):List (Nat×Ce):=rows.flatMap λr=>Zat 0 r.cs
def ent(rows:List Rw)(k:Nat):List (Nat×Ce):=(allP rows).filter λp=>p.1+p.2.sp-1==k
theorem foldE{L:List (Nat×Ce)}:∀{F:Nat->List V}{i:Nat},(L.foldl addE F) i=F i++(L.filter λp=>p.1+p.2.sp-1==i).map entV:=by
 induction L with
 |nil=>intro F i;simp
 |cons p L ih =>
  intro F i;rw[foldl_cons,ih,filter_cons,addE,updF];by_cases h:i=p.1+p.2.sp-1
  ·subst h;simp
  ·rw[if_neg h,if_neg (by simp;exact(λq=>h q.symm))]
noncomputable def want(B:List Int)(k:Nat)(p:Nat×Ce):Int:=p.2.al-(B.getD k 0-B.getD p.1 0)
noncomputable def widO:List Int->Option Int
 |[]=>none
 |x::r=>some (r.foldl max x)
noncomputable def Zbn(gs:List Gu)(B:List Int)(k:Nat)(w:Option Int):List Int:=B++[B.getD k 0+(match w with|none=>0|some x=>x+(gs.getD (k+1) default).w)]
noncomputable def ZbF(e:Nat->List (Nat×Ce))(gs:List Gu):Nat->Nat->List Int->List (Option Int)
 |0,_,_=>[]
 |j+1,k,B=>widO ((e k).map (want B k))::ZbF e gs j (k+1) (Zbn gs B k (widO ((e k).map (want B k))))
theorem cFN{e g k B}:ZbF e g 0 k B=[]:=rfl
theorem cFS{e g k B j}:ZbF e g (j+1) k B=widO ((e k).map (want B k))::ZbF e g j (k+1) (Zbn g B k (widO ((e k).map (want B k)))):=rfl
def wids(rows:List Rw)(c:Nat)(gs:List Gu):List (Option Int):=ZbF (ent rows) gs c 0 [0]
section
variable{G:Gl}{n:Nat}{μ:Led}
noncomputable abbrev ZcL(R:V)(c:V)(gs:V)(as:List Addr)(x3 x5 x6 x7 x8 x9 x10 x11:Option V):List (Option V) :=
 [some R,some c,some gs,x3,some (.lst (as.map .ref)),x5,x6,x7,x8,x9,x10,x11,none,none,none,none]
theorem widInner{c:Nat}{Q:Post}{k:List IX}{R gs:V}{as:List Addr}{x3 x5 x8 x9 x10 x11:Option V}(hn:n+4<900)(hc:c<=1000)(has:as.length=c):∀(cs:List Ce) (col:Nat) (F:Nat->List V) (x6 x7:Option V),(∀d∈cs,1<=d.sp)->col+Zas cs<=c->(∀i,(F i).length+cs.length<2^20) ->
  (∀x6 x7,W (CallX G n) [3,8] k ⟨[],ZcL R (.int c) gs as x3 x5 x6 x7 x8 x9 x10 x11,endL as ((Zat col cs).foldl addE F) 0 μ,false⟩ Q) ->
  ForW (CallX G n) [3,8] (.t [6,7]) b76_2 k Q false 16 (ZaJ col cs) (ZcL R (.int c) gs as x3 x5 x6 x7 x8 x9 x10 x11) (endL as F 0 μ):=by
 intro cs;induction cs with
 |nil=>intro col F x6 x7 z z z h;exact ZaA rfl (h _ _)
 |cons d cs ih =>
  intro col F x6 x7 hs hcol hl h;have h1:=hs d (.head _);simp only[sSN,sSC] at hcol;refine forT rfl (by intro i hi;simp at hi;rcases hi with rfl|rfl<;>exact lb rfl) rfl λQ' T=>?_
  have eb:ZbJ [6,7] [.int col,d.v] (ZcL R (.int c) gs as x3 x5 x6 x7 x8 x9 x10 x11)=ZcL R (.int c) gs as x3 x5 (some (.int col)) (some d.v) x8 x9 x10 x11:=rfl;rw[eb];have e1:d.v=.ins 461 [(0,.int d.w),(7,.int d.h),(8,.int d.d),(9,.lst d.its),(18,.int d.sp),(19,d.t.v),(20,.bool d.up)]:=rfl;have lu:=Zdd (F:=F) (x:=entV (col,d)) (as:=as) (i:=0) (j:=col+d.sp-1) (μ:=μ) (has▸(cpM hcol h1));rw[Nat.zero_add] at lu;unfold b76_2;refine wr 7 (?_:Y);refine w_gi (rgM (f:=V.ref) (k:=col+d.sp-1) 0 (sbC h1) (has▸(cpM hcol h1)) (ZaV (Nat.le_trans (cpM hcol h1) hc) rfl)) ?_;refine w_mg (.app lu.mem) ?_;refine wr 3 (?_:Y);refine Zaa (alongC (dn hn rfl)).cx rfl rfl rfl ?_;refine wr 1 (?_:Y);refine ZaG (by have:=hl (col+d.sp-1);simp at this;exact(lt0 this)) lu ?_;refine Zbf ?_;refine Zad (T.nx _ _ (ih (col+d.sp) (addE F (col,d)) _ _ (λq hq=>hs q (.tail _ hq)) (cpA hcol) (λi=>?_) h) _ .refl);have:=hl i;simp only[addE,updF];split
  ·simp at this⊢;exact(kja this)
  ·simp at this⊢;exact lw ‹_›
theorem Ze4{c:Nat}{Q:Post}{k:List IX}{R gs:V}{as:List Addr}{x3 x8 x9 x10 x11:Option V}{tail:List V}{up:Bool}(hn:n+6<900)(hc:c<=100)(has:as.length=c):∀(rows:List Rw) (F:Nat->List V) (x5 x6 x7:Option V) (m:Nat),(∀q∈rows,q.ok up c)->(∀i,(F i).length<=100*m)->m+rows.length<=1000 ->
  (∀x5 x6 x7,ForW (CallX G n) [3,8] (.v 5) ZcK k Q false 16 tail (ZcL R (.int c) gs as x3 x5 x6 x7 x8 x9 x10 x11) (endL as ((allP rows).foldl addE F) 0 μ)) ->
  ForW (CallX G n) [3,8] (.v 5) ZcK k Q false 16 (rows.map Rw.v++tail) (ZcL R (.int c) gs as x3 x5 x6 x7 x8 x9 x10 x11) (endL as F 0 μ):=by
 intro rows;induction rows with
 |nil=>intro F x5 x6 x7 m z z z h;exact h _ _ _
 |cons q qs ih =>
  intro F x5 x6 x7 m hq hF hm h;have hq1:=hq q (.head _);have hq2:=λp hp=>hq p (.tail _ hp)
  have plain:∀{x5':V},allP (q::qs)=allP qs->ForW (CallX G n) [3,8] (.v 5) ZcK k Q false 16 (qs.map Rw.v++tail) (ZcL R (.int c) gs as x3 (some x5') x6 x7 x8 x9 x10 x11) (endL as F 0 μ):=λe=>ih F _ _ _ (m+1) hq2 (λi=>by have:=hF i;exact(Nat.le_trans this (Nat.le_add_right _ _))) (by simp at hm;exact(kjb hm)) (by rw[e] at h;exact h)
  refine forV rfl (by exact lb rfl) λQ' T=>?_
  cases q with
  |cells cs =>
   have e1:Rw.v (.cells cs)=.lst (cs.map Ce.v):=rfl;have hlen:cs.length<=Zas cs:=ZbA λd hd=>(hq1.2 d hd).2.2.1
   have hcl:cs.length<=100:=by have:=hq1.1;exact(Nat.le_trans (Nat.le_trans hlen this) hc)
   unfold ZcK;rw[e1];refine we 8 [0] rfl (?_:Y);refine Zaa (Zbv (dn hn rfl) (Zag ‹_› rfl) hq1.1).cx rfl rfl rfl ?_;refine Zar .lst (.inl rfl) ?_;refine widInner (dn hn rfl) (ZaV ‹_› rfl) has cs 0 F _ _ (λd hd=>(hq1.2 d hd).2.2.1) (by have:=hq1.1;exact(z0 this)) (λi=>by have:=hF i;simp at hm;lia) λx6 x7=>?_
   refine Zad (T.nx _ _ (ih ((Zat 0 cs).foldl addE F) _ _ _ (m+1) hq2 (λi=>?_) (by simp at hm;exact(kjb hm)) (by rw[show allP (.cells cs::qs)=Zat 0 cs++allP qs from rfl,List.foldl_append] at h;exact h)) _ .refl);rw[foldE,length_append,length_map];have h1:=hF i;have h2:=List.length_filter_le (λp:Nat×Ce=>p.1+p.2.sp-1==i) (Zat 0 cs);have h3:∀{cs:List Ce}{col:Nat},(Zat col cs).length=cs.length:=by
    intro cs;induction cs with
    |nil=>intro;rfl
    |cons c r ih=>intro col;simp[pCN,pCC,ih]
   rw[h3] at h2;exact(Nat.add_le_add h1 (Nat.le_trans h2 hcl))
  |rule w h' d =>
   have e1:Rw.v (.rule w h' d)=.ins 375 [(0,optV w),(7,optV h'),(8,optV d)]:=rfl;unfold ZcK;rw[e1];refine we 5 [0] rfl (?_:Y);exact Zad (T.nx _ _ (plain rfl) _ .refl)
  |pen v =>
   have e1:Rw.v (.pen v)=.ins 439 [(17,.int v)]:=rfl;unfold ZcK;rw[e1];refine we 5 [0] rfl (?_:Y);exact Zad (T.nx _ _ (plain rfl) _ .refl)
  |skip g =>
   have e1:Rw.v (.skip g)=.ins 418 [(15,g.v),(14,.int 0),(16,.none)]:=rfl;unfold ZcK;rw[e1];refine we 5 [0] rfl (?_:Y);exact Zad (T.nx _ _ (plain rfl) _ .refl)
def k76:List IX:=[.c (.int 0),.lst 1,.s 8,.lst 0,.s 9,.c (.typ "range"),.l 1,.call 1,.forL (.v 3) b76_3,.l 9,.ret]
theorem widGo{c:Nat}{gs:List Gu}{rows:List V}{R:V->Led->Prop}{E:Addr->Prop}(hn:n+10<900)(h1:1<=c)(h2:c<=100)(h3:gs.length=c+1)
  (hW:∀(Q:Post),(∀v μ,R v μ->Q.rt v μ)->(∀C,E C->Q.ex C)->∀as:List Addr,as.length=c->ForW (CallX G (n+1)) [3,8] (.v 5) ZcK k76 Q false 16 rows (ZcL (.lst rows) (.int c) (.lst (gs.map Gu.v)) as none none none none none none none none) (endL as (λz=>[]) 0 μ)) :
  CodeOK G n 661 [.lst rows,.int c,.lst (gs.map Gu.v)] μ R E:=by
 refine Zae f76 (dn hn rfl) rfl λQ qq=>?_
 unfold c76;refine wf 3 (?_:Y);refine Zaa (ZcH (d1 hn rfl) h1 (ZaV ‹_› rfl) h3).cx rfl rfl rfl ?_;refine we 4 [1] rfl (?_:Y);refine Zbg (.rng (lb rfl) (Zag ‹_› rfl)) ?_;have key:∀(j k:Nat) (as:List Addr) (l':List (Option V)),k+j=c->as.length=k->l'.length=16->Zb2 (CallX G (n+1)) [3,8] (.v 12) (.emit [.lst 0]) false (λacc μ'=>W (CallX G (n+1)) [3,8] (.s 4::.l 0::.forL (.v 5) ZcK::k76) ⟨.lst acc::[],[some (.lst rows),some (.int c),some (.lst (gs.map Gu.v)),none,none,none,none,none,none,none,none,none,none,none,none,none],μ',false⟩ Q) (ZaF k c) (as.map .ref) (endL as (λz=>[]) 0 μ) l':=by
  intro j;induction j with
  |zero =>
   intro k as l' hk ha z;rw[ZaL (Int.ofNat_le.mpr (kj0 hk))];show W _ _ _ _ _;refine wr 2 (?_:Y);refine Zar .lst (.inl rfl) ?_;exact hW Q qq.r qq.e as (ha▸hk)
  |succ j ih =>
   intro k as l' hk ha hl;rw[Zaw (Int.ofNat_lt.mpr (kjl hk))];refine⟨⟨_,.v (hl▸lb rfl)⟩,λl2 hb=>?_⟩;obtain⟨z,rfl⟩:=hb.vEq;refine⟨by simp;exact(by rw[ha];exact Zay (kj2 hk h2) rfl),?_⟩;first|refine Za7 ?_|refine Zbe ?_|refine Zbd ?_
   refine ZaH (vs:=[]) rfl rfl λa=>?_
   have:=ih (k+1) (as++[a]) (l'.set 12 (some (.int k))) (kjr hk) (by simp;assumption) (by simpa using hl);rw[ZcE,map_append] at this;exact Zad ⟨_,.refl,_,rfl,rfl,this⟩
 exact key c 0 [] _ (by lia) rfl rfl
end
end
section
theorem Zc2{L:List Int}(h:L≠[]):∃M,widO L=some M/\M∈L/\∀a∈L,a<=M:=by
 cases L with
 |nil=>exact absurd rfl h
 |cons x r =>
  obtain⟨h1,h2,h3⟩:=ZbW (L:=r) (x:=x);refine⟨_,rfl,?_,λa ha=>?_⟩
  ·rcases h3 with h3|h3
   ·rw[h3];exact .head _
   ·exact .tail _ h3
  ·rcases mem_cons.mp ha with rfl|ha
   ·exact h1
   ·exact h2 a ha
noncomputable def wantV(B:List Int)(k:Nat):V->V
 |.tup [.int f,.int s]=>.int (s-(B.getD k 0-B.getD f.toNat 0))
 |_=>.none
theorem rgB{μ:Led}{a:Addr}{L:List Int}{i:Int}{k:Nat}(hm:(a,AO.list (L.map .int))∈μ)(hi:i=k)(h1:k<L.length)(h2:k<2^30):RG μ (.ref a) (.int i) (.int (L.getD k 0)):=by
 subst hi;refine Zca hm (Int.natCast_nonneg _) (by lia) ?_;simp[h1]
section
variable{G:Gl}{n:Nat}{μ:Led}
theorem entLen{rows:List Rw}{k:Nat}(h:(allP rows).length<2^18):(ent rows k).length<2^18:=by
 have:=List.length_filter_le (λp:Nat×Ce=>p.1+p.2.sp-1==k) (allP rows);unfold ent;exact(Nat.lt_of_le_of_lt this h)
theorem widCols{c:Nat}{gs:List Gu}{rows:List Rw}{Q:Post}{R:V}{as0:List Addr}{x5 x6 x7:Option V}{bg fd:Addr}(hn:n+6<900)(hc:c<=100)(hg:gs.length=c+1)(hl:(allP rows).length<2^18)(hsp:∀p∈allP rows,1<=p.2.sp)
  {T:List (Option Int)} (hr:Q.rt (.lst (T.map optV)) μ):∀(j k:Nat) (as:List Addr) (B:List Int) (done:List (Option Int)) (x3 x10 x11:Option V),k+j=c->as0.length=c->as0.drop k=as->B.length=k+1->done.length=k->done++ZbF (ent rows) gs j k B=T->(∀o∈ZbF (ent rows) gs j k B,Dm (wide o)) ->
  ForW (CallX G n) [3,8] (.v 3) b76_3 [.l 9,.ret] Q false 16 (ZaF k c) (ZcL R (.int c) (.lst (gs.map Gu.v)) as0 x3 x5 x6 x7 (some (.ref bg)) (some (.ref fd)) x10 x11) ((fd,.list (done.map optV))::(bg,.list (B.map .int))::endL as (λi=>(ent rows i).map entV) k μ):=by
 intro j;induction j with
 |zero =>
  intro k as B done x3 x10 x11 hk ha0 ha hB hd hT z;rw[ZaL (Int.ofNat_le.mpr (kj0 hk))];refine ZaA rfl ?_;have e0:as=[]:=by rw[<- ha];simp;exact(ha0▸(kj0 hk))
  subst e0;have hT':done=T:=by rw[<- hT];simp[cFN,cFS]
  subst hT';refine w_st (.frzL (μ1:=[]) (l':=[_,_,_,_,_,_,_,_,_,some (.lst (done.map optV)),_,_,_,_,_,_]) .id (.cons (.cons (.cons (.cons (.cons (.cons (.cons (.cons (.cons (.sm .here .id)))))))))) .id (.drop (μ1:=[]) .refl)) ?_;refine w_l rfl ?_;refine Zak ?_;exact hr
 |succ j ih =>
  intro k as B done x3 x10 x11 hk ha0 ha hB hd hT hdm;rw[Zaw (Int.ofNat_lt.mpr (kjl hk))];refine forV rfl (by exact lb rfl) λQ' Tn=>?_
  simp only[set_cons_succ,set_cons_zero];obtain⟨a,as',rfl⟩ : ∃a as',as=a::as':=by
   cases as with
   |nil=>have:=congrArg List.length ha;simp at this;lia
   |cons a as'=>exact⟨a,as',rfl⟩
  have hak:as0.getD k 0=a:=by
   have:=congrArg (λl=>l[0]?) ha;simp at this;simp[List.getD,this]
  have ha':as0.drop (k+1)=as':=by
   rw[<- List.drop_drop,ha];rfl
  obtain⟨μ1,hμ⟩:=Zde (F:=λi=>(ent rows i).map entV) (as:=as') (i:=k+1);have hek:∀p∈ent rows k,p.1<=k:=by
   intro p hp;have h1:=mem_filter.mp hp;have h2:=hsp p h1.1;have h3:=h1.2;simp at h3;lia
  have hw:ZbF (ent rows) gs (j+1) k B=widO ((ent rows k).map (want B k))::ZbF (ent rows) gs j (k+1) (Zbn gs B k (widO ((ent rows k).map (want B k)))):=rfl;rw[hw] at hT hdm;have hnext:=ih (k+1) as' (Zbn gs B k (widO ((ent rows k).map (want B k)))) (done++[widO ((ent rows k).map (want B k))]) (some (.int k)) (some (.lst (((ent rows k).map (want B k)).map .int))) (some (optV (widO ((ent rows k).map (want B k))))) (kjr hk) ha0 ha' (by simp[Zbn];assumption) (by simp[hd]) (by rw[<- hT];simp) (λo ho=>hdm o (.tail _ ho));have hdm0:=hdm _ (.head _);unfold b76_3;refine wr 2 (?_:Y);refine w_gi (rgM (f:=V.ref) (k:=k) 0 rfl (ha0▸(kjl hk)) (Zay (kj2 hk hc) rfl)) ?_;rw[hak];have e5:endL (a::as') (λi=>(ent rows i).map entV) k μ=μ1++(a,.list ((ent rows k).map entV))::μ:=by simp only[eLN,eLC];exact hμ _
  rw[e5];rw[hμ] at hnext;refine w_st (.frzL (μ1:=(fd,.list (done.map optV))::(bg,.list (B.map .int))::μ1) (a:=a) (vs:=(ent rows k).map entV) (μ2:=μ) (stk':=[.lst ((ent rows k).map entV)]) (.cons .here .id) .id .id .refl) ?_;have hel:=entLen (k:=k) hl;refine ZcR (wantV B k) .lst ⟨by exact lb rfl,by exact lb rfl⟩ (by decide) (by simp;exact Zay ‹_› rfl) (λv hv=>?_) ?_
  ·obtain⟨p,hp,rfl⟩:=mem_map.mp hv
   have:=hek p hp;refine⟨_,_,rfl,?_⟩;simp only[set_cons_succ,set_cons_zero];refine wr 3 (?_:Y);refine w_gi (rgB (k:=k) (.tail _ (.head _)) rfl (Nat.le_of_eq hB.symm) (Zay (kj2 hk hc) rfl)) ?_;refine wr 2 (?_:Y);refine w_gi (rgB (k:=p.1) (.tail _ (.head _)) rfl (Nat.lt_of_le_of_lt this (Nat.le_of_eq hB.symm)) (by lia)) ?_;refine wr 2 (?_:Y);exact Zad rfl
  have em:((ent rows k).map entV).map (wantV B k)=((ent rows k).map (want B k)).map .int:=by
   simp only[map_map];apply map_congr_left;intro p z;rfl
  rw[em];simp only[cons_append];generalize hL:(ent rows k).map (want B k)=L at *;have hLl:L.length<2^18:=by rw[<- hL];simpa using hel
  refine wr 2 (?_:Y);refine Zaq (vs:=[]) rfl rfl ?_;refine ZaE .lstN ?_;by_cases hne:L=[]
  ·rw[hne] at hnext hdm0⊢
   refine ZaT ?_;simp only[cons_append,nil_append];refine wr 3 (?_:Y);refine w_mg (.app (.head _)) ?_;refine w_l rfl ?_;refine ZaG (by simp;exact(by rw[hd];exact Zay (kj2 hk hc) rfl)) .head ?_;refine wr 2 (?_:Y);refine w_mg (.app (.tail _ (.head _))) ?_;refine wr 2 (?_:Y);refine w_gi (rgB (k:=k) (.tail _ (.head _)) rfl (Nat.le_of_eq hB.symm) (Zay (kj2 hk hc) rfl)) ?_;refine wr 6 (?_:Y);refine ZaG (by simp;exact(by rw[hB];exact Zag (kj2 hk hc) rfl)) (.tail .head) ?_;refine Zbf ?_;refine Zad (Tn.nx _ _ ?_ _ .refl);have:=hnext;simp only[map_append,Zbn,widO,map_cons,map_nil] at this;exact this
  ·obtain⟨M,hM,hm1,hm2⟩:=Zc2 hne
   rw[hM] at hnext hdm0;have e6:(!(L.map V.int).isEmpty)=true:=by cases L<;>simp at hne⊢
   rw[e6];refine ZaS ?_;simp only[cons_append,nil_append];refine wr 3 (?_:Y);refine Zax (.maxL hm1 hm2) rfl rfl ?_;refine Zaa (Zah (dn hn rfl) hdm0).cx rfl rfl rfl ?_;refine wr 2 (?_:Y);refine w_mg (.app (.head _)) ?_;refine w_l rfl ?_;refine ZaG (by simp;exact(by rw[hd];exact Zay (kj2 hk hc) rfl)) .head ?_;refine wr 2 (?_:Y);refine w_mg (.app (.tail _ (.head _))) ?_;refine wr 2 (?_:Y);refine w_gi (rgB (k:=k) (.tail _ (.head _)) rfl (Nat.le_of_eq hB.symm) (Zay (kj2 hk hc) rfl)) ?_;refine wr 9 (?_:Y);refine w_gi (rgM (k:=k+1) default (by lia) (by lia) (Zag (kj2 hk hc) rfl)) ?_;refine wr 3 (?_:Y);refine ZaG (by simp;exact(by rw[hB];exact Zag (kj2 hk hc) rfl)) (.tail .head) ?_;refine Zbf ?_;refine Zad (Tn.nx _ _ ?_ _ .refl);have:=hnext;simp only[map_append,Zbn,map_cons,map_nil] at this;exact this
theorem widMid{c:Nat}{gs:List Gu}{rows:List Rw}{Q:Post}{R:V}{as:List Addr}{x5 x6 x7:Option V}(hn:n+6<900)(h1:c<=100)(hg:gs.length=c+1)(has:as.length=c)(hl:(allP rows).length<2^18)(hsp:∀p∈allP rows,1<=p.2.sp)
  (hd:∀o∈wids rows c gs,Dm (wide o)) (hr:Q.rt (.lst ((wids rows c gs).map optV)) μ):W (CallX G n) [3,8] k76 ⟨[],ZcL R (.int c) (.lst (gs.map Gu.v)) as none x5 x6 x7 none none none none,endL as ((allP rows).foldl addE λz=>[]) 0 μ,false⟩ Q:=by
 have eF:(allP rows).foldl addE (λz=>[])=λi=>(ent rows i).map entV:=by
  funext i;rw[foldE];rfl
 rw[eF];unfold k76;refine w_c ?_;refine ZaH (vs:=[_]) rfl rfl λbg=>?_
 refine w_s (by exact lb rfl) (.inl rfl) ?_;simp only[set_cons_succ,set_cons_zero];refine ZaH (vs:=[]) rfl rfl λfd=>?_
 refine we 4 [1] rfl (?_:Y);refine Zar (.rng (lb rfl) (Zag ‹_› rfl)) (.inl rfl) ?_;exact widCols hn h1 hg hl hsp hr c 0 as [0] [] none none none (by lia) has rfl rfl rfl rfl hd
theorem allP_sp{rows:List Rw}{up:Bool}{c:Nat}(h:∀q∈rows,q.ok up c):∀p∈allP rows,1<=p.2.sp:=by
 have:∀{cs:List Ce}{col:Nat} {p},p∈Zat col cs->p.2∈cs:=by
  intro cs;induction cs with
  |nil=>intro col p hp;simp[pCN,pCC] at hp
  |cons d r ih =>
   intro col p hp;rcases mem_cons.mp hp with rfl|hp
   ·exact .head _
   ·exact .tail _ (ih hp)
 intro p hp;obtain⟨q,hq,hp⟩:=List.mem_flatMap.mp hp;have hk:=h q hq;cases q with
 |cells cs=>exact(hk.2 _ (this hp)).2.2.1
 |rule=>simp[Rw.cs,pCN,pCC] at hp
 |pen=>simp[Rw.cs,pCN,pCC] at hp
 |skip=>simp[Rw.cs,pCN,pCC] at hp
theorem ZeG{rows:List Rw}{up:Bool}{c:Nat}(h:∀q∈rows,q.ok up c):(allP rows).length<=c*rows.length:=by
 have pl:∀{cs:List Ce}{col:Nat},(Zat col cs).length=cs.length:=by
  intro cs;induction cs with
  |nil=>intro;rfl
  |cons d r ih=>intro col;simp[pCN,pCC,ih]
 induction rows with
 |nil=>simp[allP]
 |cons q rows ih =>
  have h1:=ih λp hp=>h p (.tail _ hp)
  have h2:(Zat 0 q.cs).length<=c:=by
   rw[pl];have hk:=h q (.head _);cases q with
   |cells cs=>exact Nat.le_trans (ZbA λd hd=>(hk.2 d hd).2.2.1) hk.1
   |rule=>exact Nat.zero_le _
   |pen=>exact Nat.zero_le _
   |skip=>exact Nat.zero_le _
  have e:allP (q::rows)=Zat 0 q.cs++allP rows:=rfl;rw[e,length_append,length_cons,Nat.mul_add];lia
theorem widths{c:Nat}{gs:List Gu}{rows:List Rw}{up:Bool}(hn:n+10<900)(h1:1<=c)(h2:c<=100)(h3:gs.length=c+1)(hr:∀q∈rows,q.ok up c)(hl:rows.length<=1000)(hd:∀o∈wids rows c gs,Dm (wide o)) :
  Zaj G n 661 [.lst (rows.map Rw.v),.int c,.lst (gs.map Gu.v)] μ (.lst ((wids rows c gs).map optV)):=by
 refine widGo hn h1 h2 h3 λQ hr' he as has=>?_
 have:=Ze4 (G:=G) (n:=n+1) (μ:=μ) (Q:=Q) (k:=k76) (R:=.lst (rows.map Rw.v)) (gs:=.lst (gs.map Gu.v)) (as:=as) (x3:=none) (x8:=none) (x9:=none) (x10:=none) (x11:=none) (tail:=[]) (up:=up) (d1 hn rfl) h2 has rows (λz=>[]) none none none 0 hr (by simp) (z0 hl) (λx5 x6 x7=>ZaA rfl ?_)
 ·simpa using this
 ·have:=ZeG hr
  have:c*rows.length<=100*1000:=Nat.mul_le_mul h2 hl;exact widMid (d1 hn rfl) h2 h3 has (by lia) (allP_sp hr) hd (hr' _ _ ⟨rfl,rfl⟩)
theorem widBad{c:Nat}{gs:List Gu}{rows:List Rw}{up:Bool}{cs:List V}{C:Addr}(hn:n+10<900)(h1:1<=c)(h2:c<=100)(h3:gs.length=c+1)(hr:∀q∈rows,q.ok up c)(hl:rows.length<=1000)(hx:∀μ,ZaQ G (n+1) 656 [.lst cs,.int c] μ C) :
  ZaQ G n 661 [.lst (rows.map Rw.v++[.lst cs]),.int c,.lst (gs.map Gu.v)] μ C:=by
 refine widGo hn h1 h2 h3 λQ hr' he as has=>?_
 refine Ze4 (up:=up) (d1 hn rfl) h2 has rows (λz=>[]) none none none 0 hr (by simp) (z0 hl) (λx5 x6 x7=>?_);refine forV rfl (by exact lb rfl) λQ' T=>?_
 simp only[set_cons_succ,set_cons_zero];unfold ZcK;refine we 8 [0] rfl (?_:Y);exact Zab (hx _).cx (vs:=[_,_]) rfl rfl rfl (λz z q=>q.elim) λC q=>T.ex _ (he _ q)
theorem Zch{rows c gs:V}{C:Addr}(hn:n+10<900)(hx:∀μ,ZaQ G (n+1) 649 [c,gs] μ C):ZaQ G n 661 [rows,c,gs] μ C:=by
 refine Zae f76 (dn hn rfl) rfl λQ qq=>?_
 have hx':=qq.x;have hr:=qq.r;have he:=qq.e;unfold c76;refine wf 3 (?_:Y);exact Zab (hx _).cx (vs:=[_,_]) rfl rfl rfl (λz z q=>q.elim) he
end
end
section
inductive DrR{β:Type}(val:β->V)(P:β->Prop)(M:Int->Int->Led):V->Led->Prop
 |mk (b:β) (x y:Int) (_:P b) (_:0<=x) (_:0<=y):DrR val P M (val b) (M x y)
section
variable{G:Gl}{n:Nat}{μ:Led}
theorem law_box{c m:Int}(hn:n+2<900):CodeOK G n 722 [.int c,.int m] μ (λv μ'=>∃a x y,0<=x/\0<=y/\v=.ref a/\μ'=(a,.list [.int x,.int y])::μ) (λz=>False):=by
 refine Zae f86 (dn hn rfl) rfl λQ qq=>?_
 unfold c86;refine wf 5 (?_:Y);refine Zao (.pow (n:=18) (by decide) (by decide)) ?_;refine we 11 [2,0,0] rfl (?_:Y);refine Zax .intB rfl rfl ?_;refine we 6 [0] rfl (?_:Y);refine Zao (.mod (by decide)) ?_;refine wr 2 (?_:Y);refine ZaH (vs:=[_,_]) rfl rfl λa=>?_
 refine qq.w ⟨a,_,_,?_,?_,rfl,rfl⟩
 ·exact(Int.le_max_left _ _)
 ·rw[Int.fmod_eq_emod_of_nonneg _ (by decide)];lia
abbrev Zcf(a:Addr)(x y:Int)(μ:Led)(M:Int->Int->Led):Prop:=∀x' y':Int,LU a (.list [.int x,.int y]) (.list [.int x',.int y']) μ (M x' y')
theorem take{a:Addr}{x y many:Int}{M:Int->Int->Led}(hn:n+2<900)(h0:0<=x)(h1:0<=y)(hm:0<many)(hm2:many<2^60)(u:Zcf a x y μ M) :
  CodeOK G n 729 [.ref a,.int many] μ (DrR V.int (λd=>0<=d/\d<many) M) (λz=>False):=by
 refine Zae f87 (dn hn rfl) rfl λQ qq=>?_
 have mem:(a,AO.list [.int x,.int y])∈μ:=(u 0 0).mem;unfold c87;refine wf 2 (?_:Y);refine w_gi (Zca mem (by decide) (by decide) rfl) ?_;refine wr 2 (?_:Y);refine ZaN (λq=>?_) (λq=>?_)
 ·refine wf 2 (?_:Y)
  refine w_gi (Zca mem (by decide) (by decide) rfl) ?_;refine w_l rfl ?_;refine Zao (.mod (Int.ne_of_gt hm)) ?_;refine wr 3 (?_:Y);refine w_gi (Zca mem (by decide) (by decide) rfl) ?_;refine w_l rfl ?_;refine Zao (.div (Int.ne_of_gt hm) (by lia)) ?_;refine wr 2 (?_:Y);refine w_si (by decide) (by exact lb rfl) (by decide) (μ':=M (x.fdiv many) y) (u (x.fdiv many) y) ?_;refine w_l rfl ?_;refine qq.w (.mk _ _ _ ⟨?_,?_⟩ ?_ h1)
  ·rw[Int.fmod_eq_emod_of_nonneg _ (Int.le_of_lt ‹_›)];exact Int.emod_nonneg _ (Int.ne_of_gt hm)
  ·rw[Int.fmod_eq_emod_of_nonneg _ (Int.le_of_lt ‹_›)];exact Int.emod_lt_of_pos _ hm
  ·exact Zco h0 hm
 ·refine wf 2 (?_:Y)
  refine w_gi (Zca mem (by decide) (by decide) rfl) ?_;refine wh 5 [1] (?_:Y);refine Zao (.mod (by decide)) ?_;refine wr 2 (?_:Y);have hy:0<=(y*48271+11).fmod 2147483647:=by rw[Int.fmod_eq_emod_of_nonneg _ (by decide)];lia
  refine w_si (by decide) (by exact lb rfl) (by decide) (μ':=M x ((y*48271+11).fmod 2147483647)) (u x ((y*48271+11).fmod 2147483647)) ?_;refine wr 2 (?_:Y);have lm:∀{μ μ':Led}{o o':AO},LU a o o' μ μ'->(a,o')∈μ':=by
   intro μ μ' o o' h;induction h with
   |head=>exact .head _
   |tail _ ih=>exact .tail _ ih
  refine w_gi (Zca (lm (u x ((y*48271+11).fmod 2147483647))) (by decide) (by decide) rfl) ?_;refine w_c ?_;refine Zao (.div (by decide) (by decide)) ?_;refine w_l rfl ?_;refine Zao (.mod (Int.ne_of_gt hm)) ?_;refine qq.w (.mk _ _ _ ⟨?_,?_⟩ h0 hy)
  ·rw[Int.fmod_eq_emod_of_nonneg _ (Int.le_of_lt ‹_›)];exact Int.emod_nonneg _ (Int.ne_of_gt hm)
  ·rw[Int.fmod_eq_emod_of_nonneg _ (Int.le_of_lt ‹_›)];exact Int.emod_lt_of_pos _ hm
def Zce(g:Gu):Prop:=0<=g.w/\g.w<=29/\g.st.natAbs<=40/\g.sh.natAbs<=15/\g.so<=3/\g.ho<=3
theorem pick1{d:Int}(h0:0<=d)(h6:d<6):∃k:Nat,k<=3/\[V.int 0,.int 0,.int 0,.int 1,.int 2,.int 3][d.toNat]?=some (.int k):=by
 have:d=0\/d=1\/d=2\/d=3\/d=4\/d=5:=(six0 h0 h6);rcases this with rfl|rfl|rfl|rfl|rfl|rfl
 ·exact⟨0,by decide,rfl⟩
 ·exact⟨0,by decide,rfl⟩
 ·exact⟨0,by decide,rfl⟩
 ·exact⟨1,by decide,rfl⟩
 ·exact⟨2,by decide,rfl⟩
 ·exact⟨3,by decide,rfl⟩
theorem pick2{d:Int}(h0:0<=d)(h6:d<6):∃k:Nat,k<=3/\[V.int 0,.int 0,.int 0,.int 0,.int 1,.int 3][d.toNat]?=some (.int k):=by
 have:d=0\/d=1\/d=2\/d=3\/d=4\/d=5:=(six0 h0 h6);rcases this with rfl|rfl|rfl|rfl|rfl|rfl
 ·exact⟨0,by decide,rfl⟩
 ·exact⟨0,by decide,rfl⟩
 ·exact⟨0,by decide,rfl⟩
 ·exact⟨0,by decide,rfl⟩
 ·exact⟨1,by decide,rfl⟩
 ·exact⟨3,by decide,rfl⟩
theorem mkG_ok{w st sh:Int}{so ho:Nat}(h1:0<=w/\w<=29)(h2:st.natAbs<=40)(h3:sh.natAbs<=15)(h4:so<=3)(h5:ho<=3):Zce (mkG w st so sh ho):=by
 refine⟨h1.1,h1.2,h2,h3,?_,?_⟩
 ·show(if st≠0 then so else 0)<=3;split<;>lia
 ·show(if sh≠0 then ho else 0)<=3;split<;>lia
theorem Zes{a:Addr}{x y:Int}{M:Int->Int->Led}(hn:n+10<900)(h0:0<=x)(h1:0<=y)(uu:∀x y,Zcf a x y (M x y) M) :
  CodeOK G n 736 [.ref a] (M x y) (DrR Gu.v Zce M) (λz=>False):=by
 refine Zae f88 (dn hn rfl) rfl λQ qq=>?_
 unfold c88;refine wf 3 (?_:Y);refine Zab (take (d1 hn rfl) h0 h1 (by decide) (by decide) (uu _ _)).cx (vs:=[_,_]) rfl rfl rfl (λv μ' q=>?_) (λz q=>q.elim);obtain⟨d1,x1,y1,⟨l1,b1⟩,h0,h1⟩:=q;refine wr 3 (?_:Y);refine Zab (take (dn (kja hn) rfl) h0 h1 (by decide) (by decide) (uu _ _)).cx (vs:=[_,_]) rfl rfl rfl (λv μ' q=>?_) (λz q=>q.elim);obtain⟨d2,x2,y2,⟨l2,b2⟩,h0,h1⟩:=q;refine wr 3 (?_:Y);refine Zab (take (dn (kja hn) rfl) h0 h1 (by decide) (by decide) (uu _ _)).cx (vs:=[_,_]) rfl rfl rfl (λv μ' q=>?_) (λz q=>q.elim);obtain⟨d3,x3,y3,⟨l3,b3⟩,h0,h1⟩:=q;refine wr 11 (?_:Y);refine Zaq (vs:=[_,_,_,_,_,_]) rfl rfl ?_;refine wr 3 (?_:Y);refine Zab (take (dn (kja hn) rfl) h0 h1 (by decide) (by decide) (uu _ _)).cx (vs:=[_,_]) rfl rfl rfl (λv μ' q=>?_) (λz q=>q.elim);obtain⟨d4,x4,y4,⟨l4,b4⟩,h0,h1⟩:=q;obtain⟨so,hso,e4⟩:=pick1 l4 b4;refine w_gi (ZbP l4 (by exact Int.le_trans ‹_› (by decide)) e4) ?_;refine wr 6 (?_:Y);refine Zaq (vs:=[_,_,_,_,_,_]) rfl rfl ?_;refine wr 3 (?_:Y);refine Zab (take (dn (kja hn) rfl) h0 h1 (by decide) (by decide) (uu _ _)).cx (vs:=[_,_]) rfl rfl rfl (λv μ' q=>?_) (λz q=>q.elim);obtain⟨d5,x5,y5,⟨l5,b5⟩,h0,h1⟩:=q;obtain⟨ho,hho,e5⟩:=pick2 l5 b5;refine w_gi (ZbP l5 (by exact Int.le_trans ‹_› (by decide)) e5) ?_;refine wr 9 (?_:Y);have fin:∀(st sh:Int),st.natAbs<=40->sh.natAbs<=15->W (CallX G (n+1)) [] [.call 5,.ret] ⟨[.int ho,.int sh,.int so,.int st,.int d1,.ref 250],[some (.ref a),some (.int d1),some (.int d2),some (.int d3),some (.int so),some (.int ho),none,none,none,none],M x5 y5,false⟩ Q:=by
  intro st sh hst hsh;refine Zaa (glueNew (lw ‹_›) ⟨(Int.le_trans (by decide) l1),by lia⟩ ⟨(dmN hst rfl).1,(dmN hst rfl).2⟩ ⟨(dmN hsh rfl).1,(dmN hsh rfl).2⟩ hso hho) rfl rfl rfl ?_;exact Zak (qq.r _ _ (.mk _ _ _ (mkG_ok ⟨l1,by lia⟩ hst hsh hso hho) h0 h1))
 refine ZaN (λq=>?_) (λq=>?_)
 ·refine wf 7 (?_:Y)
  simp at q;refine ZaN (λq=>?_) (λq=>?_)
  ·refine wf 4 (?_:Y)
   simp at q;exact fin _ _ (by lia) (by lia)
  ·refine wf 2 (?_:Y)
   simp at q;exact fin _ _ (by lia) (nle 15 l3 q rfl)
 ·refine wf 5 (?_:Y)
  simp at q;refine ZaN (λq=>?_) (λq=>?_)
  ·refine wf 4 (?_:Y)
   simp at q;exact fin _ _ (by lia) (by lia)
  ·refine wf 2 (?_:Y)
   simp at q;exact fin _ _ (by lia) (nle 15 l3 q rfl)
end
end
section
section
variable{G:Gl}{n:Nat}{μ:Led}
structure CellOk(c:Ce):Prop where
 nd:∀v∈c.its,Nd 0 v
 len:c.its.length<=3
 al:c.al.natAbs<=180
 tot:∀k,(c.t.s k).natAbs<=120/\(c.t.h k).natAbs<=45
 w:c.w.natAbs<=180
 h:c.h.natAbs<=180
 d:c.d.natAbs<=180
structure LapOk(k:Nat)(its:List V)(t:Tot)(size:Int):Prop where
 nd:∀v∈its,Nd 0 v
 len:its.length<=k
 tot:∀i,(t.s i).natAbs<=40*k/\(t.h i).natAbs<=15*k
 sz:size.natAbs<=60*k
theorem LapOk.kern{k:Nat}{its:List V}{t:Tot}{size b:Int}(h:LapOk k its t size)(hb:b.natAbs<=60):LapOk (k+1) (its++[Zdu b 1]) (t.widen b) (size+b):=by
 refine⟨λv hv=>?_,by have:=h.len;simp;omega,λi=>?_,naA h.sz hb (by lia)⟩
 ·refine mA hv (λhv=>?_) λhv=>?_
  ·exact h.nd v hv
  ·simp at hv;subst hv;exact .kern
 ·have:=h.tot i;exact⟨Nat.le_trans this.1 (by lia),Nat.le_trans this.2 (by lia)⟩
theorem LapOk.skip{k:Nat}{its:List V}{t:Tot}{size:Int}{g:Gu}(h:LapOk k its t size)(hg:Zce g):LapOk (k+1) (its++[ZaB g.v 0]) (t.add g) (size+g.w):=by
 obtain⟨g1,g2,g3,g4,g5,g6⟩:=hg;refine⟨λv hv=>?_,by have:=h.len;simp;omega,λi=>?_,naA h.sz (na0 (n:=60) g1 (by exact Int.le_trans ‹_› (by decide))) (by lia)⟩
 ·refine mA hv (λhv=>?_) λhv=>?_
  ·exact h.nd v hv
  ·simp at hv;subst hv;exact .skip
 ·have:=h.tot i
  have hs:=h.tot g.so;have hh:=h.tot g.ho;constructor
  ·show(upd t.s g.so (t.s g.so+g.st) i).natAbs<=_
   unfold upd;split
   ·exact naA hs.1 g3 (by lia)
   ·exact Nat.le_trans this.1 (by lia)
  ·show(upd t.h g.ho (t.h g.ho+g.sh) i).natAbs<=_
   unfold upd;split
   ·exact naA hh.2 g4 (by lia)
   ·exact Nat.le_trans this.2 (by lia)
theorem law_cell{a:Addr}{x y:Int}{M:Int->Int->Led}{sp:Nat}{up:Bool}(hn:n+14<900)(hs:1<=sp)(hs2:sp<=1000)(h0:0<=x)(h1:0<=y)(uu:∀x y,Zcf a x y (M x y) M) :
  CodeOK G n 743 [.ref a,.int sp,.bool up] (M x y) (DrR Ce.v (λc=>CellOk c/\c.sp=sp/\c.up=up) M) (λz=>False):=by
 refine Zae f89 (dn hn rfl) rfl λQ qq=>?_
 unfold c89;refine ZaH (vs:=[]) rfl rfl λfd=>?_
 refine w_c ?_;refine Zab (Zd8 (d1 hn rfl)) (vs:=[]) rfl rfl rfl (λv μ' q=>?_) (λz q=>q.elim);obtain⟨t,b,c,dx,rfl,rfl⟩:=q;refine wr 11 (?_:Y);have uf:∀(tt:Tot) (its:List V),∀x y,Zcf a x y (totL t b c dx tt ((fd,.list its)::M x y)) (λx y=>totL t b c dx tt ((fd,.list its)::M x y)):=λtt its x y x' y'=>.tail (.tail (.tail (.tail (uu x y x' y'))))
 refine Zab (take (M:=λx y=>totL t b c dx Tot.zero ((fd,.list [])::M x y)) (d1 hn rfl) h0 h1 (by decide) (by decide) (uf _ _ _ _)).cx (vs:=[_,_]) rfl rfl rfl (λv μ' q=>?_) (λz q=>q.elim);obtain⟨d1,x1,y1,⟨l1,b1⟩,h0,h1⟩:=q;try dsimp only
 refine we 2 [1] rfl (?_:Y);obtain⟨laps,hlaps⟩ : ∃laps:Nat,(1:Int)+d1=laps:=⟨(1+d1).toNat,tn1 l1⟩;rw[hlaps];refine Zar (.rng (lb rfl) (Zag (lapL 3 hlaps b1) rfl)) (.inl rfl) ?_;have key:∀{k':List IX} (j k:Nat) (its:List V) (tt:Tot) (size x y:Int) (s6 s7 s8:Option V),k+j=laps->0<=x->0<=y->LapOk k its tt size ->
   (∀its tt size x y s6 s7 s8,0<=x->0<=y->LapOk laps its tt size->W (CallX G (n+1)) [] k' ⟨[],[some (.ref a),some (.int sp),some (.bool up),some (.ref fd),some (.ref t),some (.int size),s6,s7,s8,none,none,none,none,none,none],totL t b c dx tt ((fd,.list its)::M x y),false⟩ Q) ->
   ForW (CallX G (n+1)) [] (.v 6) b89_1 k' Q false 15 (ZaF k laps) [some (.ref a),some (.int sp),some (.bool up),some (.ref fd),some (.ref t),some (.int size),s6,s7,s8,none,none,none,none,none,none] (totL t b c dx tt ((fd,.list its)::M x y)):=by
  intro k' j;induction j with
  |zero =>
   intro k its tt size x y s6 s7 s8 hk h0 h1 hl h;rw[ZaL (Int.ofNat_le.mpr (kj0 hk))];have:k=laps:=by assumption
   subst this;exact ZaA rfl (h _ _ _ _ _ _ _ _ h0 h1 hl)
  |succ j ih =>
   intro k its tt size x y s6 s7 s8 hk h0 h1 hl h;rw[Zaw (Int.ofNat_lt.mpr (kjl hk))];refine forV rfl (by exact lb rfl) λQ' T=>?_
   have hlen:=hl.len;unfold b89_1;refine wr 3 (?_:Y);refine Zab (take (M:=λx y=>totL t b c dx tt ((fd,.list its)::M x y)) (dn (kja hn) rfl) h0 h1 (by decide) (by decide) (uf _ _ _ _)).cx (vs:=[_,_]) rfl rfl rfl (λv μ' q=>?_) (λz q=>q.elim);obtain⟨d2,x2,y2,⟨l2,b2⟩,h0,h1⟩:=q;try dsimp only
   refine wr 2 (?_:Y);refine ZaN (λq=>?_) (λq=>?_)
   ·simp only[cons_append,nil_append]
    refine wr 3 (?_:Y);refine Zab (take (M:=λx y=>totL t b c dx tt ((fd,.list its)::M x y)) (dn (kja hn) rfl) h0 h1 (by decide) (by decide) (uf _ _ _ _)).cx (vs:=[_,_]) rfl rfl rfl (λv μ' q=>?_) (λz q=>q.elim);obtain⟨d3,x3,y3,⟨l3,b3⟩,h0,h1⟩:=q;try dsimp only
    refine wr 4 (?_:Y);refine w_mg (.app (.tail _ (.tail _ (.tail _ (.head _))))) ?_;refine wr 3 (?_:Y);refine Zaa (ZfG (dn (kja hn) rfl) ⟨by lia,by lia⟩ (by decide) (by decide)) rfl rfl rfl ?_;refine ZaG (by lia) (.tail (.tail (.tail .head))) ?_;refine wr 2 (?_:Y);refine w_mg (.mi (.tail _ (.tail _ (.head _))) (by rfl) rfl) ?_;refine w_l rfl ?_;refine Zab (Zci (t:=tt) (dn (kja hn) rfl)).cx (vs:=[.ref t,_]) rfl rfl rfl (λv μ' q=>?_) (λz q=>q.elim);obtain⟨rfl,rfl⟩:=q;refine wr 5 (?_:Y);exact Zad (T.nx _ _ (ih (k+1) _ _ _ _ _ _ _ _ (kjr hk) h0 h1 (hl.kern (by lia)) h) _ .refl)
   ·simp only[cons_append,nil_append]
    refine wr 2 (?_:Y);refine Zab (Zes (M:=λx y=>totL t b c dx tt ((fd,.list its)::M x y)) (dn (kja hn) rfl) h0 h1 (uf _ _)).cx (vs:=[_]) rfl rfl rfl (λv μ' q=>?_) (λz q=>q.elim);obtain⟨g,x3,y3,hg,h0,h1⟩:=q;try dsimp only
    refine wr 2 (?_:Y);refine w_mg (.app (.tail _ (.tail _ (.tail _ (.head _))))) ?_;refine wr 3 (?_:Y);refine Zaa (Zed (dn (kja hn) rfl)) rfl rfl rfl ?_;refine ZaG (by lia) (.tail (.tail (.tail .head))) ?_;refine wr 2 (?_:Y);refine w_mg (.mi (.tail _ (.tail _ (.head _))) (by rfl) rfl) ?_;refine w_l rfl ?_;refine Zab (Ze9 (t:=tt) (dn (kja hn) rfl) hg.2.2.2.2.1 hg.2.2.2.2.2).cx (vs:=[.ref t,_]) rfl rfl rfl (λv μ' q=>?_) (λz q=>q.elim);obtain⟨rfl,rfl⟩:=q;refine wr 8 (?_:Y);exact Zad (T.nx _ _ (ih (k+1) _ _ _ _ _ _ _ _ (kjr hk) h0 h1 (hl.skip hg) h) _ .refl)
 refine key laps 0 [] Tot.zero 0 x1 y1 none none none (by lia) h0 h1 ⟨by simp,by simp,λi=>⟨by simp[Tot.zero],by simp[Tot.zero]⟩,by simp⟩ ?_;intro its tt size x y s6 s7 s8 h0 h1 hl;have hl3:laps<=3:=(lapL 3 hlaps b1);refine wr 3 (?_:Y);refine Zab (take (M:=λx y=>totL t b c dx tt ((fd,.list its)::M x y)) (dn (kja hn) rfl) h0 h1 (by decide) (by decide) (uf _ _ _ _)).cx (vs:=[_,_]) rfl rfl rfl (λv μ' q=>?_) (λz q=>q.elim);obtain⟨d2,x2,y2,⟨l2,b2⟩,h0,h1⟩:=q;try dsimp only
 refine wr 3 (?_:Y);refine Zab (take (M:=λx y=>totL t b c dx tt ((fd,.list its)::M x y)) (dn (kja hn) rfl) h0 h1 (by decide) (by decide) (uf _ _ _ _)).cx (vs:=[_,_]) rfl rfl rfl (λv μ' q=>?_) (λz q=>q.elim);obtain⟨d3,x3,y3,⟨l3,b3⟩,h0,h1⟩:=q;try dsimp only
 refine wr 4 (?_:Y);have hsz:=hl.sz;have htot:∀k,(tt.s k).natAbs<=120/\(tt.h k).natAbs<=45:=λk=>by have:=hl.tot k;lia
 refine w_st (Zew (l':=[some (.ref a),some (.int sp),some (.bool up),some (.ref fd),some tt.v,some (.int size),s6,s7,s8,some (.int d2),some (.int d3),none,none,none,none]) .id (.cons (.cons (.cons (.cons (.sm .here .id)))))) ?_;refine w_st (.frzL (μ1:=[]) (l':=[some (.ref a),some (.int sp),some (.bool up),some (.lst its),some tt.v,some (.int size),s6,s7,s8,some (.int d2),some (.int d3),none,none,none,none]) .id (.cons (.cons (.cons (.sm .here .id)))) .id .refl) ?_;have hlen:=hl.len;cases up with
 |true =>
  refine wr 10 (?_:Y);refine Zaa (Zez (dn (kja hn) rfl) ⟨(Int.le_trans (by decide) l2),by lia⟩ ⟨(dmN (sq1 hsz (lapL 3 hlaps b1)) rfl).1,(dmN (sq1 hsz (lapL 3 hlaps b1)) rfl).2⟩ ⟨(Int.le_trans (by decide) l3),by lia⟩ (Int.ofNat_lt.mpr ‹_›) (Int.ofNat_le.mpr (ZaV hs2 rfl))) (vs:=[_,_,_,_,_,_,_]) rfl rfl rfl ?_;exact Zak (qq.r _ _ (.mk (⟨d2,size,d3,its,sp,tt,true⟩ : Ce) x3 y3 ⟨⟨hl.nd,by show its.length<=3;exact(Nat.le_trans hlen (lapL 3 hlaps b1)),by show size.natAbs<=180;exact(sq1 hsz (lapL 3 hlaps b1)),htot,by show d2.natAbs<=180;exact(nlt 9 l2 b2 rfl),by show size.natAbs<=180;exact(sq1 hsz (lapL 3 hlaps b1)),by show d3.natAbs<=180;exact(nlt 4 l3 b3 rfl)⟩,rfl,rfl⟩ h0 h1))
 |false =>
  refine wr 9 (?_:Y);refine Zaa (cellNew (dn (kja hn) rfl) ⟨(dmN (sq1 hsz (lapL 3 hlaps b1)) rfl).1,(dmN (sq1 hsz (lapL 3 hlaps b1)) rfl).2⟩ ⟨(Int.le_trans (by decide) l2),by lia⟩ ⟨(Int.le_trans (by decide) l3),by lia⟩ (Int.ofNat_lt.mpr ‹_›) (Int.ofNat_le.mpr (ZaV hs2 rfl))) (vs:=[_,_,_,_,_,_]) rfl rfl rfl ?_;exact Zak (qq.r _ _ (.mk (⟨size,d2,d3,its,sp,tt,false⟩ : Ce) x3 y3 ⟨⟨hl.nd,by show its.length<=3;exact(Nat.le_trans hlen (lapL 3 hlaps b1)),by show size.natAbs<=180;exact(sq1 hsz (lapL 3 hlaps b1)),htot,by show size.natAbs<=180;exact(sq1 hsz (lapL 3 hlaps b1)),by show d2.natAbs<=180;exact(nlt 9 l2 b2 rfl),by show d3.natAbs<=180;exact(nlt 4 l3 b3 rfl)⟩,rfl,rfl⟩ h0 h1))
end
end
section
def SmO(o:Option Int):Prop:=∀i,o=some i->1<=i/\i<=9
def RowOk(up:Bool)(c:Nat):Rw->Prop
 |.cells cs=>cs≠[]/\Zas cs<=c/\∀d∈cs,CellOk d/\1<=d.sp/\d.up=up
 |.rule w h d=>SmO w/\SmO h/\SmO d
 |.pen v=>0<=v/\v<=99
 |.skip g=>g=mkG 5 1 0 0 0
def Zgf:Rw->Prop
 |.cells _=>False
 |q=>RowOk true 0 q
theorem Zeb{a b:List Ce}:Zas (a++b)=Zas a+Zas b:=by
 induction a with
 |nil=>simp[sSN,sSC]
 |cons c r ih=>simp[sSN,sSC,ih];lia
section
variable{G:Gl}{n:Nat}{μ:Led}
theorem ZfB{a:Addr}{x y way:Int}{M:Int->Int->Led}(hn:n+12<900)(hw:0<=way/\way<3)(h0:0<=x)(h1:0<=y)(uu:∀x y,Zcf a x y (M x y) M) :
  CodeOK G n 748 [.ref a,.int way] (M x y) (DrR Rw.v Zgf M) (λz=>False):=by
 refine Zae f90 (dn hn rfl) rfl λQ qq=>?_
 unfold c90;have hw3:way=0\/way=1\/way=2:=(nat3 hw.1 hw.2);rcases hw3 with rfl|rfl|rfl
 ·refine wg 7 [1] rfl (?_:Y)
  refine Zbg (.rng (by decide) (by decide)) ?_;have key:∀{kk:List IX} (j k:Nat) (os:List (Option Int)) (x y:Int) (x3:Option V),k+j=3->os.length=k->(∀o∈os,SmO o)->0<=x->0<=y ->
    (∀(os:List (Option Int)) x y,os.length=3->(∀o∈os,SmO o)->0<=x->0<=y->W (CallX G (n+1)) [0] kk ⟨[.lst (os.map optV)],[some (.ref a),some (.int 0),none,none,none,none,none],M x y,false⟩ Q) ->
    Zb2 (CallX G (n+1)) [0] (.v 3) (.emit [.c (.ref 729),.l 0,.c (.int 2),.call 2,.c (.int 0),.cmp .Eq,.ite [.c .none] [.c (.int 1),.c (.ref 729),.l 0,.c (.int 9),.call 2,.bin .Add]]) false (λacc μ'=>W (CallX G (n+1)) [0] kk ⟨.lst acc::[],[some (.ref a),some (.int 0),none,none,none,none,none],μ',false⟩ Q) (ZaF k 3) (os.map optV) (M x y) [some (.ref a),some (.int 0),none,x3,none,none,none]:=by
   intro kk j;induction j with
   |zero =>
    intro k os x y x3 hk ho hs h0 h1 h;refine(ZaL (by exact(Int.ofNat_le.mpr (kj0 hk)))).symm▸?_;exact h os x y (ho▸hk) hs h0 h1
   |succ j ih =>
    intro k os x y x3 hk ho hs h0 h1 h;refine(Zaw (by exact(Int.ofNat_lt.mpr (kjl hk)))).symm▸?_;refine⟨⟨_,.v (by exact lb rfl)⟩,λl2 hb=>?_⟩;obtain⟨z,rfl⟩:=hb.vEq;refine⟨by simp;exact(by rw[ho];exact Zay (kjl hk) rfl),?_⟩
    (first|refine Za7 ?_|refine Zbe ?_|refine Zbd ?_);simp only[set_cons_succ,set_cons_zero]
    generalize hP:(Post.mk _ _ _:Post)=P;have hPn:∀o x y,SmO o->0<=x->0<=y->P.nx ⟨[optV o],[some (.ref a),some (.int 0),none,some (.int k),none,none,none],M x y,false⟩:=by
     intro o x y hso h0 h1;refine hP▸?_;have:=ih (k+1) (os++[o]) x y (some (.int k)) (kjr hk) (by simp;assumption) (λp hp=>by
      refine mA hp (λhp=>?_) λhp=>?_
      ·exact hs p hp
      ·simp at hp;subst hp;exact hso) h0 h1 h
     rw[map_append] at this;exact⟨_,.refl,_,rfl,rfl,this⟩
    refine wr 3 (?_:Y);refine Zab (take (d1 hn rfl) h0 h1 (by decide) (by decide) (uu _ _)).cx (vs:=[_,_]) rfl rfl rfl (λv μ' q=>?_) (λz q=>q.elim);obtain⟨d1,x1,y1,⟨l1,b1⟩,h0,h1⟩:=q;refine wr 2 (?_:Y);refine ZaN (λq=>?_) (λq=>?_)
    ·simp only[cons_append,nil_append]
     refine w_c ?_;exact Zad (hPn none _ _ (λi hi=>by cases hi) h0 h1)
    ·refine wf 4 (?_:Y)
     refine Zab (take (dn (kja hn) rfl) h0 h1 (by decide) (by decide) (uu _ _)).cx (vs:=[_,_]) rfl rfl rfl (λv μ' q=>?_) (λz q=>q.elim);obtain⟨d2,x2,y2,⟨l2,b2⟩,h0,h1⟩:=q;refine Zao .add ?_;exact Zad (hPn (some (1+d2)) _ _ (λi hi=>by cases hi;lia) h0 h1)
  refine key 3 0 [] x y none (by lia) rfl (by simp) h0 h1 ?_;intro os x y hl hs h0 h1;obtain⟨o1,o2,o3,rfl⟩ : ∃o1 o2 o3,os=[o1,o2,o3]:=by
   match os,hl with
   |[o1,o2,o3],_=>exact⟨o1,o2,o3,rfl⟩
  have dm:∀{o},SmO o->DmO o:=λh i hi=>by have:=h i hi;exact⟨(Int.le_trans (by decide) this.1),(Int.le_trans this.2 (by decide))⟩
  have s1:=hs o1 (by simp);have s2:=hs o2 (by simp);have s3:=hs o3 (by simp);simp only[map_cons,map_nil];refine wr 11 (?_:Y);refine Zaa (ZdR (d1 hn rfl) (dm s1) (dm s2) (dm s3)) rfl rfl rfl ?_;exact Zak (qq.r _ _ (.mk (Rw.rule o1 o2 o3) x y ⟨s1,s2,s3⟩ h0 h1))
 ·refine wf 12 (?_:Y)
  refine Zab (take (d1 hn rfl) h0 h1 (by decide) (by decide) (uu _ _)).cx (vs:=[_,_]) rfl rfl rfl (λv μ' q=>?_) (λz q=>q.elim);obtain⟨d1,x1,y1,⟨l1,b1⟩,h0,h1⟩:=q;refine Zaa (penNew (dn (kja hn) rfl) ⟨(Int.le_trans (by decide) l1),by lia⟩) rfl rfl rfl ?_;exact Zak (qq.r _ _ (.mk (Rw.pen d1) _ _ ⟨l1,by lia⟩ h0 h1))
 ·refine wf 12 (?_:Y)
  refine Zaa (glueNew2 (d1 hn rfl)) rfl rfl rfl ?_;refine w_c ?_;refine Zaa (Zed (d1 hn rfl)) rfl rfl rfl ?_;exact Zak (qq.r _ _ (.mk (Rw.skip (mkG 5 1 0 0 0)) _ _ rfl h0 h1))
theorem RowOk.other{up:Bool}{c:Nat}{q:Rw}(h:Zgf q):RowOk up c q:=by cases q<;>first|exact h.elim|exact h
structure RowsOk(up:Bool)(c:Nat)(rows:List Rw):Prop where
 ok:∀q∈rows,RowOk up c q
 len:rows.length<=8
 fst:∃cs rest,rows=.cells cs::rest
noncomputable abbrev ZeK(a:Addr)(c:Nat)(up:Bool)(fd:Addr)(x4 x5 x6 x7 x8 x9:Option V):List (Option V):=[some (.ref a),some (.int c),some (.bool up),some (.ref fd),x4,x5,x6,x7,x8,x9,none,none,none,none]
theorem law_row1{a:Addr}{c:Nat}{up:Bool}{M:Int->Int->Led}{Q:Post}{kk:List IX}{fd rd:Addr}{x4 x9:Option V}(hn:n+18<900)(hc:c<=4)(uu:∀x y,Zcf a x y (M x y) M):∀(j k:Nat) (cs:List Ce) (x y:Int) (x7 x8:Option V),k+j=c->cs.length<=k->(1<=k->cs≠[])->Zas cs<=c->(∀d∈cs,CellOk d/\1<=d.sp/\d.up=up)->0<=x->0<=y->(k=0->cs=[]) ->
  (∀cs x y x7 x8,(1<=c->cs≠[])->Zas cs<=c->(∀d∈cs,CellOk d/\1<=d.sp/\d.up=up)->0<=x->0<=y->W (CallX G n) [] kk ⟨[],ZeK a c up fd x4 (some (.ref rd)) (some (.int (Zas cs))) x7 x8 x9,(rd,.list (cs.map Ce.v))::M x y,false⟩ Q) ->
  ForW (CallX G n) [] (.v 7) b91_2 kk Q false 14 (ZaF k c) (ZeK a c up fd x4 (some (.ref rd)) (some (.int (Zas cs))) x7 x8 x9) ((rd,.list (cs.map Ce.v))::M x y):=by
 intro j;induction j with
 |zero =>
  intro k cs x y x7 x8 hk hl hne hs hg h0 h1 z h;refine(ZaL (Int.ofNat_le.mpr (kj0 hk))).symm▸?_;exact ZaA rfl (h cs x y x7 x8 (λq=>hne (Nat.zero_lt_of_lt (hk▸q))) hs hg h0 h1)
 |succ j ih =>
  intro k cs x y x7 x8 hk hl hne hs hg h0 h1 hz h;refine(Zaw (Int.ofNat_lt.mpr (kjl hk))).symm▸?_;refine forV rfl (by exact lb rfl) λQ' T=>?_
  have us:∀cs:List Ce,∀x y,Zcf a x y ((rd,.list (cs.map Ce.v))::M x y) (λx y=>(rd,.list (cs.map Ce.v))::M x y):=λcs x y x' y'=>.tail (uu x y x' y')
  have stay:∀{x y:Int},cs≠[]->0<=x->0<=y->Q'.nx ⟨[],ZeK a c up fd x4 (some (.ref rd)) (some (.int (Zas cs))) (some (.int k)) x8 x9,(rd,.list (cs.map Ce.v))::M x y,false⟩ :=
   λhcs h0 h1=>T.nx _ _ (ih (k+1) cs _ _ _ _ (kjr hk) (Nat.le_succ_of_le hl) (λz=>hcs) hs hg h0 h1 (by lia) h) _ .refl
  have body:∀{x y:Int},0<=x->0<=y->Zas cs<c->W (CallX G n) [] [.c (.int 1),.c (.ref 729),.l 0,.c (.int 3),.call 2,.c (.int 0),.cmp .Eq,.ite [.c (.ref 729),.l 0,.l 1,.l 6,.bin .Sub,.call 2] [.c (.int 0)],.bin .Add,.s 8,.l 5,.mg 26,.c (.ref 743),.l 0,.l 8,.l 2,.call 3,.call 2,.pop,.l 6,.l 8,.bin .Add,.s 6]
    ⟨[],ZeK a c up fd x4 (some (.ref rd)) (some (.int (Zas cs))) (some (.int k)) x8 x9,(rd,.list (cs.map Ce.v))::M x y,false⟩ Q':=by
   intro x y h0 h1 hsp;have fin:∀{d x y:Int},0<=x->0<=y->0<=d->d<c-Zas cs->W (CallX G n) [] [.bin .Add,.s 8,.l 5,.mg 26,.c (.ref 743),.l 0,.l 8,.l 2,.call 3,.call 2,.pop,.l 6,.l 8,.bin .Add,.s 6]
     ⟨[.int d,.int 1],ZeK a c up fd x4 (some (.ref rd)) (some (.int (Zas cs))) (some (.int k)) x8 x9,(rd,.list (cs.map Ce.v))::M x y,false⟩ Q':=by
    intro d x y h0 h1 hd0 hd1;obtain⟨sp,hsp'⟩ : ∃sp:Nat,(1:Int)+d=sp:=⟨(1+d).toNat,tn1 hd0⟩;refine Zao .add ?_;refine hsp'.symm▸?_;refine wr 2 (?_:Y);refine w_mg (.app (.head _)) ?_;refine wr 4 (?_:Y);refine Zab (law_cell (M:=λx y=>(rd,.list (cs.map Ce.v))::M x y) (dn hn rfl) (lapI hsp' hd0) (by lia) h0 h1 (us cs)).cx (vs:=[_,_,_]) rfl rfl rfl (λv μ' q=>?_) (λz q=>q.elim);obtain⟨ce,x2,y2,⟨hce,hcs,hcu⟩,h0,h1⟩:=q;refine ZaG (by simp;lia) .head ?_;refine wr 5 (?_:Y);refine Zad (T.nx _ _ ?_ _ .refl);have:=ih (k+1) (cs++[ce]) x2 y2 (some (.int k)) (some (.int sp)) (kjr hk) (by simp;assumption) (by simp) (by rw[Zeb];simp[sSN,sSC];lia) (λp hp=>by
     refine mA hp (λhp=>?_) λhp=>?_
     ·exact hg p hp
     ·simp at hp;subst hp;exact⟨hce,(hcs▸(lapI hsp' hd0)),hcu⟩) h0 h1 (by lia) h
    rw[map_append,Zeb,show Zas [ce]=sp by simp[sSN,sSC,hcs],Int.natCast_add] at this;exact this
   refine wr 4 (?_:Y);refine Zab (take (M:=λx y=>(rd,.list (cs.map Ce.v))::M x y) (dn hn rfl) h0 h1 (by decide) (by decide) (us cs _ _)).cx (vs:=[_,_]) rfl rfl rfl (λv μ' q=>?_) (λz q=>q.elim);obtain⟨d1,x1,y1,⟨l1,b1⟩,h0,h1⟩:=q;refine wr 2 (?_:Y);refine ZaN (λq=>?_) (λq=>?_)
   ·simp only[cons_append,nil_append]
    refine wr 5 (?_:Y);refine Zab (take (M:=λx y=>(rd,.list (cs.map Ce.v))::M x y) (dn hn rfl) h0 h1 (by lia) (by lia) (us cs _ _)).cx (vs:=[_,_]) rfl rfl rfl (λv μ' q=>?_) (λz q=>q.elim);obtain⟨d2,x2,y2,⟨l2,b2⟩,h0,h1⟩:=q;exact fin h0 h1 l2 b2
   ·simp only[cons_append,nil_append]
    refine w_c ?_;exact fin h0 h1 (Int.natCast_nonneg _) (by lia)
  unfold b91_2;refine wr 3 (?_:Y);by_cases hsp:Zas cs<c
  ·have d:decide ((Zas cs:Int)<(c:Int))=true:=by simp;assumption
   refine d.symm▸?_;refine wr 2 (?_:Y);refine Zaq (vs:=[]) rfl rfl ?_;refine ZaE (.ledE (.head _)) ?_;by_cases hcs:cs=[]
   ·have e6:(cs.map Ce.v).isEmpty=true:=by rw[hcs];rfl
    refine e6.symm▸?_;refine ZaS ?_;refine w_c (ZaS ?_);exact body h0 h1 hsp
   ·have e6:(cs.map Ce.v).isEmpty=false:=by cases cs with|nil=>exact absurd rfl hcs|cons _ _=>rfl
    refine e6.symm▸?_;refine wr 4 (?_:Y);refine Zab (take (M:=λx y=>(rd,.list (cs.map Ce.v))::M x y) (dn hn rfl) h0 h1 (by decide) (by decide) (us cs _ _)).cx (vs:=[_,_]) rfl rfl rfl (λv μ' q=>?_) (λz q=>q.elim);obtain⟨d1,x1,y1,⟨l1,b1⟩,h0,h1⟩:=q;refine wr 2 (?_:Y);refine ZaN (λq=>?_) (λq=>?_)
    ·simp only[cons_append,nil_append]
     exact body h0 h1 hsp
    ·exact Zad (stay hcs h0 h1)
  ·have d:decide ((Zas cs:Int)<(c:Int))=false:=by simp;exact(Nat.le_of_not_lt hsp)
   refine d.symm▸?_;refine wr 3 (?_:Y);exact Zad (stay (λe=>by subst e;simp[sSN,sSC] at hsp;lia) h0 h1)
theorem law_rows{a:Addr}{x y:Int}{M:Int->Int->Led}{c:Nat}{up:Bool}(hn:n+20<900)(hc:1<=c)(hc2:c<=4)(h0:0<=x)(h1:0<=y)(uu:∀x y,Zcf a x y (M x y) M) :
  CodeOK G n 755 [.ref a,.int c,.bool up] (M x y) (DrR (λrows:List Rw=>.lst (rows.map Rw.v)) (RowsOk up c) M) (λz=>False):=by
 refine Zae f91 (dn hn rfl) rfl λQ qq=>?_
 unfold c91;refine ZaH (vs:=[]) rfl rfl λfd=>?_
 refine wr 6 (?_:Y);have uf:∀done:List Rw,∀x y,Zcf a x y ((fd,.list (done.map Rw.v))::M x y) (λx y=>(fd,.list (done.map Rw.v))::M x y):=λdone x y x' y'=>.tail (uu x y x' y')
 refine Zab (take (M:=λx y=>(fd,.list [])::M x y) (d1 hn rfl) h0 h1 (by decide) (by decide) (uf [] _ _)).cx (vs:=[_,_]) rfl rfl rfl (λv μ' q=>?_) (λz q=>q.elim);obtain⟨d1,x1,y1,⟨l1,b1⟩,h0,h1⟩:=q;try dsimp only
 refine we 2 [1] rfl (?_:Y);obtain⟨laps,hlaps⟩ : ∃laps:Nat,(1:Int)+d1=laps:=⟨(1+d1).toNat,tn1 l1⟩;refine hlaps.symm▸?_;refine Zar (.rng (lb rfl) (Zag (lapL 4 hlaps b1) rfl)) (.inl rfl) ?_;have key:∀(j k:Nat) (done:List Rw) (x y:Int) (x4 x5 x6 x7 x8 x9:Option V),k+j=laps->(∀q∈done,RowOk up c q)->done.length<=2*k->(1<=k->∃cs rest,done=.cells cs::rest)->0<=x->0<=y ->
   ForW (CallX G (n+1)) [] (.v 4) b91_1 [.l 3,.ret] Q false 14 (ZaF k laps) (ZeK a c up fd x4 x5 x6 x7 x8 x9) ((fd,.list (done.map Rw.v))::M x y):=by
  intro j;induction j with
  |zero =>
   intro k done x y x4 x5 x6 x7 x8 x9 hk hd hl hf h0 h1;refine(ZaL (Int.ofNat_le.mpr (kj0 hk))).symm▸?_;refine ZaA rfl ?_;refine w_st (.frzL (μ1:=[]) (l':=[some (.ref a),some (.int c),some (.bool up),some (.lst (done.map Rw.v)),x4,x5,x6,x7,x8,x9,none,none,none,none]) .id (.cons (.cons (.cons (.sm .here .id)))) .id .refl) ?_;refine w_l rfl ?_;exact qq.w (.mk done x y ⟨hd,by lia,hf (by lia)⟩ h0 h1)
  |succ j ih =>
   intro k done x y x4 x5 x6 x7 x8 x9 hk hd hl hf h0 h1;refine(Zaw (Int.ofNat_lt.mpr (kjl hk))).symm▸?_;refine forV rfl (by exact lb rfl) λQ' T=>?_
   unfold b91_1;refine ZaH (vs:=[]) rfl rfl λrd=>?_
   refine we 8 [1] rfl (?_:Y);refine Zar (.rng (lb rfl) (Zag ‹_› rfl)) (.inl rfl) ?_;refine law_row1 (M:=λx y=>(fd,.list (done.map Rw.v))::M x y) (lw ‹_›) hc2 (uf done) c 0 [] x y _ _ (by lia) (by simp) (by lia) (by simp[sSN,sSC]) (by simp) h0 h1 (λz=>rfl) ?_;intro cs x y x7 x8 hne hs hg h0 h1;refine w_st (.frzL (μ1:=[]) (l':=[some (.ref a),some (.int c),some (.bool up),some (.ref fd),some (.int k),some (.lst (cs.map Ce.v)),some (.int (Zas cs)),x7,x8,x9,none,none,none,none]) .id (.cons (.cons (.cons (.cons (.cons (.sm .here .id)))))) .id .refl) ?_;refine w_l rfl ?_;refine w_mg (.app (.head _)) ?_;refine w_l rfl ?_;refine ZaG (by simp;lia) .head ?_;refine wr 4 (?_:Y);have ed:done.map Rw.v++[.lst (cs.map Ce.v)]=(done++[Rw.cells cs]).map Rw.v:=by simp[Rw.v]
   refine ed.symm▸?_;have hd':∀q∈done++[.cells cs],RowOk up c q:=λq hq=>by
    refine mA hq (λhq=>?_) λhq=>?_
    ·exact hd q hq
    ·simp at hq;subst hq;exact⟨hne hc,hs,hg⟩
   have hf':∃cs' rest,done++[.cells cs]=.cells cs'::rest:=by
    cases done with
    |nil=>exact⟨cs,[],rfl⟩
    |cons q r =>
     obtain⟨cs',rest,e⟩:=hf (by simp at hl;lia);exact⟨cs',rest++[.cells cs],by rw[e];rfl⟩
   refine Zab (take (M:=λx y=>(fd,.list ((done++[Rw.cells cs]).map Rw.v))::M x y) (dn (kja hn) rfl) h0 h1 (by decide) (by decide) (uf _ _ _)).cx (vs:=[_,_]) rfl rfl rfl (λv μ' q=>?_) (λz q=>q.elim);obtain⟨d2,x2,y2,⟨l2,b2⟩,h0,h1⟩:=q;try dsimp only
   refine wr 4 (?_:Y);refine ZaN (λq=>?_) (λq=>?_)
   ·simp only[cons_append,nil_append]
    refine w_l rfl ?_;refine w_mg (.app (.head _)) ?_;refine wr 3 (?_:Y);simp at q;refine Zab (ZfB (M:=λx y=>(fd,.list ((done++[Rw.cells cs]).map Rw.v))::M x y) (dn (kja hn) rfl) ⟨l2,q⟩ h0 h1 (uf _)).cx (vs:=[_,_]) rfl rfl rfl (λv μ' q=>?_) (λz q=>q.elim);obtain⟨r,x3,y3,hro,h0,h1⟩:=q;try dsimp only
    refine ZaG (by simp;lia) .head ?_;refine Zbf ?_;have ed:(done++[Rw.cells cs]).map Rw.v++[r.v]=(done++[Rw.cells cs]++[r]).map Rw.v:=by simp
    refine ed.symm▸?_;obtain⟨cs',rest,e'⟩:=hf';exact Zad (T.nx _ _ (ih (k+1) _ _ _ _ _ _ _ _ _ (kjr hk) (λq hq=>by
     refine mA hq (λhq=>?_) λhq=>?_
     ·exact hd' q hq
     ·simp at hq;subst hq;exact .other hro) (by simp;exact(ds2 hl)) (λz=>⟨cs',rest++[r],by rw[e'];rfl⟩) h0 h1) _ .refl)
   ·exact Zad (T.nx _ _ (ih (k+1) _ _ _ _ _ _ _ _ _ (kjr hk) hd' (by simp;exact(ds1 hl)) (λz=>hf') h0 h1) _ .refl)
 exact key laps 0 [] x1 y1 none none none none none none (by lia) (by simp) (by simp) (by lia) h0 h1
end
end
section
section
variable{G:Gl}{n:Nat}{μ:Led}
theorem ZbC{o:Option Int}(hn:n+2<900):Zaj G n 762 [optV o] μ (.int (wide o)):=by
 refine Zae f92 (dn hn rfl) rfl λQ qq=>?_
 unfold c92;refine wf 2 (?_:Y);refine ZaE .isN ?_;cases o with
 |none=>exact ZaS (w_c (Zak (qq.r _ _ ⟨rfl,rfl⟩)))
 |some i=>exact ZaT (w_l rfl (Zak (qq.r _ _ ⟨rfl,rfl⟩)))
theorem ZfD{e t:Int}(hn:n+2<900)(h0:0<e)(h1:t<1663497)(h2:t.natAbs<2^60):Zaj G n 774 [.int e,.int t] μ (.int (bad e t)):=by
 refine Zae f94 (dn hn rfl) rfl λQ qq=>?_
 have fin:∀{r:Int},0<=r->bad e t=(if r>1290 then 10000 else(r*r*r+131072).fdiv 262144)->W (CallX G (n+1)) [] (c94.drop 5) ⟨[.int r],[some (.int e),some (.int t),none,none,none,none,none],μ,false⟩ Q:=by
  intro r h0r hb;unfold c94;refine wr 4 (?_:Y);refine ZaN (λq=>?_) (λq=>?_)
  ·simp only[cons_append,nil_append]
   refine w_c ?_;refine Zak ?_;simp at q;exact qq.r _ _ ⟨by rw[hb,if_pos q],rfl⟩
  ·simp only[cons_append,nil_append]
   simp at q;refine wr 3 (?_:Y);refine Zao (.pow (n:=3) (by decide) (by lia)) ?_;refine wh 3 [0] (?_:Y);refine Zao (.pow (n:=18) (by decide) (by decide)) ?_;refine wr 3 (?_:Y);refine Zao (.pow (n:=19) (by decide) (by decide)) ?_;refine Zao (.div (by decide) (by decide)) ?_;refine qq.w ⟨?_,rfl⟩;rw[hb,if_neg (by exact(Int.not_lt.mpr q))];congr 1;have e3:r^3=r*r*r:=by rw[Int.pow_succ,Int.pow_succ,Int.pow_succ,Int.pow_zero,Int.one_mul]
   rw[e3,Int.fdiv_eq_ediv_of_nonneg _ (by decide),Int.fdiv_eq_ediv_of_nonneg _ (by decide)];generalize r*r*r=X;show(2*X+262144) / 524288=_;lia
 unfold c94;refine wf 3 (?_:Y);by_cases hp:0<t
 ·have d:decide (0<t)=true:=by simp[hp]
  refine ZaO ‹_› ?_;refine wf 3 (?_:Y);by_cases hb:e<=7230584
  ·have d:decide (e<=7230584)=true:=by simp[hb]
   simp only[d];refine ZaS ?_;refine wk 4 [0] (?_:Y);refine Zao (.div (Int.ne_of_gt hp) (Zay ‹_› rfl)) ?_;refine fin (Zco (by lia) hp) ?_;rw[bad,if_neg (Int.ne_of_gt h0),if_neg (Int.not_le.mpr hp),if_pos hb,Int.mul_comm]
  ·have d:decide (e<=7230584)=false:=by simp;exact(Int.not_le.mp hb)
   simp only[d];refine ZaT ?_;refine w_c ?_;refine fin (by decide) ?_;have h9:bad e t=10000:=by
    unfold bad;rw[if_neg (Int.ne_of_gt h0),if_neg (Int.not_le.mpr hp)];simp only[if_neg hb,if_neg (show ¬t>=1663497 by exact(Int.not_le.mpr h1))];rw[if_pos (by lia)]
   rw[h9];rfl
 ·have d:decide (0<t)=false:=by simp;exact(Int.not_lt.mp hp)
  simp only[d];refine ZaT ?_;refine w_c (ZaT ?_);refine w_c ?_;refine fin (by decide) ?_;rw[bad,if_neg (Int.ne_of_gt h0),if_pos (by lia)];rfl
theorem Zer{u d:Int}(hn:n+2<900)(h0:0<d)(h1:d<2^60):Zaj G n 786 [.int u,.int d] μ (.int (rnd u d)):=by
 refine Zae f96 (dn hn rfl) rfl λQ qq=>?_
 unfold c96;refine wg 10 [0,0,0] rfl (?_:Y);refine Zao (.div (by lia) (dbl h0 h1)) ?_;refine wr 4 (?_:Y);refine ZaN (λq=>?_) (λq=>?_)
 ·simp only[cons_append,nil_append]
  simp at q;refine wr 2 (?_:Y);exact qq.w ⟨by rw[rnd,if_pos q,if_pos q];congr 3;lia,rfl⟩
 ·simp only[cons_append,nil_append]
  simp at q;refine w_l rfl ?_;exact qq.w ⟨by rw[rnd,if_neg (by lia),if_neg (by lia)],rfl⟩
def TotS(t:Tot):Prop:=∀k,(t.s k).natAbs<1663497/\(t.h k).natAbs<1663497
noncomputable def nzI(f:Nat->Int):V->Bool
 |.int i=>decide (f i.toNat≠0)
 |_=>false
set_option tactic.hygienic true in
theorem topL{f:Nat->Int}:∃L:List Int,((ZaF 0 4).filter (nzI f)).map id=L.map .int/\(top f:Int)∈0::L/\∀a∈0::L,a<=(top f:Int):=by
 refine⟨([0,1,2,3]:List Int).filter λi=>nzI f (.int i),?_,?_⟩
 ·rw[List.map_id];exact List.filter_map (f:=V.int) (l:=[0,1,2,3])
 have key:∀t:Nat,t<4->(t=0\/f t≠0)->(∀k:Nat,k<4->t<k->f k=0)->(t:Int)∈0::([0,1,2,3]:List Int).filter (λi=>nzI f (.int i))/\∀a∈0::([0,1,2,3]:List Int).filter (λi=>nzI f (.int i)),a<=(t:Int):=by
  intro t h4 ht hz;refine⟨?_,λa ha=>?_⟩
  ·rcases ht with rfl|ht
   ·exact .head _
   ·refine .tail _ (mem_filter.mpr ⟨?_,decide_eq_true ht⟩)
    have:t=0\/t=1\/t=2\/t=3:=by lia
    rcases this with rfl|rfl|rfl|rfl<;>decide
  ·rcases mem_cons.mp ha with rfl|ha
   ·exact Int.natCast_nonneg t
   ·have q:=mem_filter.mp ha
    have hk:∃k:Nat,k<4/\a=k:=by
     have m:=q.1;simp only[mem_cons,List.not_mem_nil,or_false] at m;rcases m with rfl|rfl|rfl|rfl
     ·exact⟨0,by decide,rfl⟩
     ·exact⟨1,by decide,rfl⟩
     ·exact⟨2,by decide,rfl⟩
     ·exact⟨3,by decide,rfl⟩
    obtain⟨k,k4,rfl⟩:=hk;exact Int.ofNat_le.mpr (Nat.not_lt.mp λhlt=>of_decide_eq_true q.2 (hz k k4 hlt))
 unfold top;split
 ·exact key 3 (by decide) (.inr ‹_›) λk k4 hk=>by exact(absurd k4 (Nat.not_lt.mpr hk))
 ·rename_i h3
  split
  ·exact key 2 (by decide) (.inr ‹_›) λk k4 hk=>by rw[show k=3 by exact(Nat.le_antisymm (Nat.le_of_lt_succ k4) hk)];exact Decidable.not_not.mp h3
  ·rename_i h2
   split
   ·exact key 1 (by decide) (.inr ‹_›) λk k4 hk=>by
     have:k=2\/k=3:=by lia
     rcases this with rfl|rfl
     ·exact Decidable.not_not.mp h2
     ·exact Decidable.not_not.mp h3
   ·rename_i h1
    exact key 0 (by decide) (.inl rfl) λk k4 hk=>by
     have:k=1\/k=2\/k=3:=by lia
     rcases this with rfl|rfl|rfl
     ·exact Decidable.not_not.mp h1
     ·exact Decidable.not_not.mp h2
     ·exact Decidable.not_not.mp h3
theorem Zcq{cel:List Nat}{f:Nat->Int}{k:List IX}{l:List (Option V)}{Q:Post}(hl:7<l.length)(h3:l[3]?=some (some (.lst (ZaR f))))(h:W (CallX G n) cel k ⟨[.int (top f)],l,μ,false⟩ Q) :
  W (CallX G n) cel (.c (.bi "max")::.c (.int 0)::.lst 1::.c (.typ "range")::.c (.int 4)::.call 1::.comp (.v 7) (.cond [.l 3,.l 7,.gi,.c (.int 0),.cmp .NotEq] (.emit [.l 7]))::.bin .Add::.call 1::k) ⟨[],l,μ,false⟩ Q:=by
 refine w_c (w_c (Zaq (vs:=[_]) rfl rfl (w_c (w_c (Zax .rng1 rfl rfl ?_)))));obtain⟨L,e,hm,hle⟩:=topL (f:=f);have e4:ZaF 0 4=[.int 0,.int 1,.int 2,.int 3]:=by rfl
 have hi:∀v∈ZaF 0 4,∃k:Nat,v=.int k/\k<=3:=by
  rw[e4];intro v hv;simp at hv;rcases hv with rfl|rfl|rfl|rfl
  ·exact⟨0,rfl,by decide⟩
  ·exact⟨1,rfl,by decide⟩
  ·exact⟨2,rfl,by decide⟩
  ·exact⟨3,rfl,by decide⟩
 refine Zb3 (nzI f) id (.rng (by decide) (by decide)) hl (by rw[e4];exact lb rfl) (λv hv=>?_) (λv hv z=>?_) ?_
 ·obtain⟨k,rfl,hk⟩:=hi v hv
  refine w_l (v:=.lst (ZaR f)) (by rw[List.getElem?_set_ne (by decide),h3]) ?_;refine w_l (v:=.int k) (by rw[List.getElem?_set_self hl]) ?_;refine w_gi (ZbP (Int.natCast_nonneg _) (by lia) (by rw[Int.toNat_natCast];exact tget hk)) ?_;refine w_c (ZaE (.int rfl) ?_);exact Zad rfl
 ·refine w_l (v:=v) (by rw[List.getElem?_set_self hl]) ?_
  exact Zad rfl
 ·rw[e]
  refine Zao (.addL ?_) ?_
  ·have h1:=congrArg List.length e
   have h2:=List.length_filter_le (nzI f) (ZaF 0 4);rw[length_map,length_map] at h1;rw[e4] at h2;simp at h2⊢;rw[e4] at h1;lia
  ·have e5:[V.int 0]++L.map .int=(0::L).map .int:=rfl
   rw[e5];refine Zax (.maxL hm hle) rfl rfl ?_;exact h
theorem Zep{t:Tot}{e:Int}(hn:n+6<900)(hb:TotS t):Zaj G n 779 [.int e,.lst (ZaR t.s),.lst (ZaR t.h)] μ (setG t e).v:=by
 refine Zae f95 (dn hn rfl) rfl λQ qq=>?_
 have hx:=qq.x;have hr:=qq.r;have he:=qq.e;unfold c95;rcases Int.lt_trichotomy e 0 with h|h|h
 ·have d1:decide (e=0)=false:=by simp;lia
  have d2:decide (e>0)=false:=by simp;exact Int.le_of_lt ‹_›
  have d3:decide (e<0)=true:=by simp;assumption
  have hg:setG t e=ZaX t.h (-e):=by unfold setG;rw[if_neg (by lia),if_neg (of_decide_eq_false d2)]
  rw[hg] at hr hx;clear hg;refine wf 3 (?_:Y);simp only[d2];refine ZaT ?_;refine wr 2 (?_:Y);refine Zcq (f:=t.h) (by exact lb rfl) rfl ?_;refine wr 3 (?_:Y);refine w_gi (ZbP (Int.natCast_nonneg _) (by have:=ZbG (f:=t.h);lia) (by rw[Int.toNat_natCast];exact tget ZbG)) ?_;refine wr 10 (?_:Y);by_cases ht:top t.h=0
  ·have d4:decide ((top t.h:Int)=0)=true:=by simp[ht]
   have hf:t.h (top t.h)=t.h 0:=by rw[ht]
   simp only[d4,hf];refine wr 4 (?_:Y);refine Zav ‹_› ?_;refine wf 3 (?_:Y);refine ZaO ‹_› ?_;refine wf 3 (?_:Y);refine ZaO ‹_› ?_;refine wf 4 (?_:Y);by_cases h5:t.h 0 < -e
   ·have d5:decide (t.h 0 < -e)=true:=by simp[h5]
    refine ZaO ‹_› ?_;refine wf 10 (?_:Y);refine Zav ‹_› ?_;refine wf 3 (?_:Y);by_cases h6:t.h 0=0
    ·have d6:decide (t.h 0=0)=true:=by simp[h6]
     refine ZaO ‹_› ?_;refine wf 7 (?_:Y);exact Zak (hr _ _ ⟨by rw[ZaX,if_pos ht,if_pos h5,if_pos h6];rfl,rfl⟩)
    ·have d6:decide (t.h 0=0)=false:=by simp[h6]
     refine Zav ‹_› ?_;refine wf 13 (?_:Y);exact Zak (hr _ _ ⟨by rw[ZaX,if_pos ht,if_pos h5,if_neg h6];rfl,rfl⟩)
   ·have d5:decide (t.h 0 < -e)=false:=by simp;exact(Int.not_lt.mp h5)
    refine Zav ‹_› ?_;refine wf 5 (?_:Y);refine Zaa (ZfD (dn (kja hn) rfl) (Int.neg_pos_of_neg h) (by have:=(hb 0).2;lia) (by have:=(hb 0).2;exact Zay ‹_› rfl)).cx rfl rfl rfl ?_;refine wr 5 (?_:Y);refine Zav ‹_› ?_;refine wf 3 (?_:Y);by_cases h6:t.h 0=0
    ·have d6:decide (t.h 0=0)=true:=by simp[h6]
     refine ZaO ‹_› ?_;refine wf 7 (?_:Y);exact Zak (hr _ _ ⟨by rw[ZaX,if_pos ht,if_neg h5,if_pos h6];rfl,rfl⟩)
    ·have d6:decide (t.h 0=0)=false:=by simp[h6]
     refine Zav ‹_› ?_;refine wf 9 (?_:Y);refine Zav ‹_› ?_;refine wf 5 (?_:Y);by_cases h7:t.h 0>0
     ·have d7:decide (t.h 0>0)=true:=by simp;assumption
      refine ZaO ‹_› ?_;refine wg 7 [0] rfl (?_:Y);exact Zak (hr _ _ ⟨by rw[ZaX,if_pos ht,if_neg h5,if_neg h6,if_pos h7,if_pos h,ht];rfl,rfl⟩)
     ·have d7:decide (t.h 0>0)=false:=by simp;exact(Int.not_lt.mp h7)
      refine Zav ‹_› ?_;refine wg 9 [0] rfl (?_:Y);exact Zak (hr _ _ ⟨by rw[ZaX,if_pos ht,if_neg h5,if_neg h6,if_neg h7,if_pos h,ht];rfl,rfl⟩)
  ·have d4:decide ((top t.h:Int)=0)=false:=by simp;assumption
   have d6:decide (t.h (top t.h)=0)=false:=by simp[ZcS ht]
   refine Zav ‹_› ?_;refine wf 5 (?_:Y);refine Zav ‹_› ?_;refine wf 5 (?_:Y);refine Zav ‹_› ?_;refine wf 3 (?_:Y);refine Zav ‹_› ?_;refine wf 9 (?_:Y);refine Zav ‹_› ?_;refine wf 5 (?_:Y);by_cases h7:t.h (top t.h)>0
   ·have d7:decide (t.h (top t.h)>0)=true:=by simp;assumption
    refine ZaO ‹_› ?_;refine wg 7 [0] rfl (?_:Y);exact Zak (hr _ _ ⟨by rw[ZaX,if_neg ht,if_pos h7,if_pos h];rfl,rfl⟩)
   ·have d7:decide (t.h (top t.h)>0)=false:=by simp;exact(Int.not_lt.mp h7)
    refine Zav ‹_› ?_;refine wg 9 [0] rfl (?_:Y);exact Zak (hr _ _ ⟨by rw[ZaX,if_neg ht,if_neg h7,if_pos h];rfl,rfl⟩)
 ·subst h
  have hg:setG t 0=⟨0,0,0,1,0,0⟩:=by unfold setG;rw[if_pos rfl]
  rw[hg] at hr hx;refine wf 6 (?_:Y);refine Zcq (f:=t.h) (by exact lb rfl) rfl ?_;refine wr 3 (?_:Y);refine w_gi (ZbP (Int.natCast_nonneg _) (by have:=ZbG (f:=t.h);lia) (by rw[Int.toNat_natCast];exact tget ZbG)) ?_;refine wr 10 (?_:Y);by_cases ht:top t.h=0
  ·have d4:decide ((top t.h:Int)=0)=true:=by simp[ht]
   refine ZaO ‹_› ?_;refine wf 7 (?_:Y);refine ZaO ‹_› ?_;refine wf 17 (?_:Y);exact Zak (hr _ _ ⟨rfl,rfl⟩)
  ·have d4:decide ((top t.h:Int)=0)=false:=by simp;assumption
   refine Zav ‹_› ?_;refine wf 5 (?_:Y);refine Zav ‹_› ?_;refine wf 15 (?_:Y);exact Zak (hr _ _ ⟨rfl,rfl⟩)
 ·have d1:decide (e=0)=false:=by simp;exact(Int.ne_of_gt h)
  have d2:decide (e>0)=true:=by simp;assumption
  have d3:decide (e<0)=false:=by simp;exact Int.le_of_lt ‹_›
  have hg:setG t e=Zbl t.s e:=by unfold setG;rw[if_neg (Int.ne_of_gt h),if_pos ‹_›]
  rw[hg] at hr hx;clear hg;refine wf 3 (?_:Y);simp only[d2];refine ZaS ?_;refine wr 2 (?_:Y);refine Zcq (f:=t.s) (by exact lb rfl) rfl ?_;refine wr 3 (?_:Y);refine w_gi (ZbP (Int.natCast_nonneg _) (by have:=ZbG (f:=t.s);lia) (by rw[Int.toNat_natCast];exact tget ZbG)) ?_;refine wr 10 (?_:Y);by_cases ht:top t.s=0
  ·have d4:decide ((top t.s:Int)=0)=true:=by simp[ht]
   have hf:t.s (top t.s)=t.s 0:=by rw[ht]
   simp only[d4,hf];refine wr 4 (?_:Y);refine ZaO ‹_› ?_;refine wf 4 (?_:Y);refine Zaa (ZfD (dn (kja hn) rfl) ‹_› (by have:=(hb 0).1;lia) (by have:=(hb 0).1;exact Zay ‹_› rfl)).cx rfl rfl rfl ?_;refine wr 5 (?_:Y);refine Zav ‹_› ?_;refine wf 3 (?_:Y);by_cases h6:t.s 0=0
   ·have d6:decide (t.s 0=0)=true:=by simp[h6]
    refine ZaO ‹_› ?_;refine wf 7 (?_:Y);exact Zak (hr _ _ ⟨by rw[Zbl,if_pos ht,if_pos h6];rfl,rfl⟩)
   ·have d6:decide (t.s 0=0)=false:=by simp[h6]
    refine Zav ‹_› ?_;refine wf 9 (?_:Y);refine ZaO ‹_› ?_;refine wf 5 (?_:Y);by_cases h7:t.s 0>0
    ·have d7:decide (t.s 0>0)=true:=by simp;assumption
     refine ZaO ‹_› ?_;refine wg 7 [0] rfl (?_:Y);exact Zak (hr _ _ ⟨by rw[Zbl,if_pos ht,if_neg h6,if_pos h7,if_neg (by lia),ht];rfl,rfl⟩)
    ·have d7:decide (t.s 0>0)=false:=by simp;exact(Int.not_lt.mp h7)
     refine Zav ‹_› ?_;refine wg 9 [0] rfl (?_:Y);exact Zak (hr _ _ ⟨by rw[Zbl,if_pos ht,if_neg h6,if_neg h7,if_neg (by lia),ht];rfl,rfl⟩)
  ·have d4:decide ((top t.s:Int)=0)=false:=by simp;assumption
   have d6:decide (t.s (top t.s)=0)=false:=by simp[ZcS ht]
   refine Zav ‹_› ?_;refine wf 5 (?_:Y);refine Zav ‹_› ?_;refine wf 5 (?_:Y);refine Zav ‹_› ?_;refine wf 3 (?_:Y);refine Zav ‹_› ?_;refine wf 9 (?_:Y);refine ZaO ‹_› ?_;refine wf 5 (?_:Y);by_cases h7:t.s (top t.s)>0
   ·have d7:decide (t.s (top t.s)>0)=true:=by simp;assumption
    refine ZaO ‹_› ?_;refine wg 7 [0] rfl (?_:Y);exact Zak (hr _ _ ⟨by rw[Zbl,if_neg ht,if_pos h7,if_neg (by lia)];rfl,rfl⟩)
   ·have d7:decide (t.s (top t.s)>0)=false:=by simp;exact(Int.not_lt.mp h7)
    refine Zav ‹_› ?_;refine wg 9 [0] rfl (?_:Y);exact Zak (hr _ _ ⟨by rw[Zbl,if_neg ht,if_neg h7,if_neg (by lia)];rfl,rfl⟩)
end
end
section
def Zai(sz:List (Option Int))(gs:List Gu):List Gu:=gs.getD 0 default::(List.range sz.length).map (tabG sz gs)
theorem Za1{sz:List (Option Int)}{gs:List Gu}:(Zai sz gs).length=sz.length+1:=by simp[Zai]
theorem ZbD{sz:List (Option Int)}{gs:List Gu}{k:Nat}(h:k<sz.length):(Zai sz gs).getD (k+1) default=tabG sz gs k:=by
 simp[Zai,h]
noncomputable def Zbu(sz:List (Option Int))(fl:List Gu)(k:Nat):Nat->List Pn
 |0=>[]
 |1=>[.sk (fl.getD k default)]
 |j+2=>.sk (fl.getD k default)::.bx (wide (sz.getD k none))::Zbu sz fl (k+1) (j+1)
theorem pHN{z f k}:Zbu z f k 0=[]:=rfl
theorem pHO{z f k}:Zbu z f k 1=[.sk (f.getD k default)]:=rfl
theorem pHS{z f k j}:Zbu z f k (j+2)=.sk (f.getD k default)::.bx (wide (z.getD k none))::Zbu z f (k+1) (j+1):=rfl
theorem Zdo{sz:List (Option Int)}{gs:List Gu}:∀{j k:Nat},k+j=sz.length->Pn.sk ((Zai sz gs).getD k default)::ZbH sz gs k j=Zbu sz (Zai sz gs) k (j+1)
 |0,k,_=>rfl
 |j+1,k,h=>by
  have:=Zdo (sz:=sz) (gs:=gs) (j:=j) (k:=k+1) (kjr h);rw[ZbD (kjl h)] at this;simp only[pFN,pFS,pHN,pHO,pHS];rw[this]
theorem Zfk{sz:List (Option Int)}{gs:List Gu}:Zan sz gs=Zbu sz (Zai sz gs) 0 (sz.length+1):=by
 rw[<- Zdo (by lia)];rfl
section
variable{G:Gl}{n:Nat}{μ:Led}
theorem Zex{CK:CKT}{cel:List Nat}{k:List IX}{r:List V}{l:List (Option V)}{Q:Post}{s:Set4}{i1 i2:Nat}{c so st:Int}(h2:l[2]?=some (some s.v))(h1:l[i1]?=some (some (.int so)))(h3:l[i2]?=some (some (.int st)))(h:W CK cel k ⟨.int (if s.sg=c/\so=s.o then st else 0)::r,l,μ,false⟩ Q) :
  W CK cel (.l 2::.c (.int 0)::.gi::.c (.int c)::.cmp .Eq::.ite [.l i1,.l 2,.c (.int 1),.gi,.cmp .Eq] [.c (.bool false)]::.ite [.l i2] [.c (.int 0)]::k) ⟨r,l,μ,false⟩ Q:=by
 refine w_l h2 (w_c (w_gi (Zfh (vs:=[.int s.sg,.int s.o,.tup [.int s.u,.int s.e],.tup [.int s.r0,.int s.r1]]) (by decide) (by decide) rfl) (w_c (ZaE (.int rfl) ?_))));by_cases q:s.sg=c
 ·rw[decide_eq_true q]
  refine ZaS ?_;simp only[cons_append,nil_append];refine w_l h1 (w_l h2 (w_c (w_gi (Zfh (vs:=[.int s.sg,.int s.o,.tup [.int s.u,.int s.e],.tup [.int s.r0,.int s.r1]]) (by decide) (by decide) rfl) (ZaE (.int rfl) ?_))));by_cases q2:so=s.o
  ·rw[decide_eq_true q2]
   refine ZaS (w_l h3 ?_);rw[if_pos ⟨q,q2⟩] at h;exact h
  ·rw[decide_eq_false q2]
   refine ZaT (w_c ?_);rw[if_neg λe=>q2 e.2] at h;exact h
 ·rw[decide_eq_false q]
  refine ZaT (w_c (ZaT (w_c ?_)));rw[if_neg λe=>q e.1] at h;exact h
theorem flex_eq{s:Set4}{g:Gu}{x:Int}:x+(if s.sg=1/\(g.so:Int)=s.o then g.st else 0)-(if s.sg=2/\(g.ho:Int)=s.o then g.sh else 0)=x+Za3 s g:=by
 unfold Za3;by_cases h1:s.sg=1
 ·have h2:¬(s.sg=2/\(g.ho:Int)=s.o):=λe=>by lia
  rw[if_neg h2];simp only[if_neg h2];split<;>lia
 ·have h2:¬(s.sg=1/\(g.so:Int)=s.o):=λe=>h1 e.1
  rw[if_neg h2,if_neg h2];split<;>lia
theorem ZfC{sz:List (Option Int)}{fl:List Gu}{s:Set4}(hn:n+6<900)(hs:Zd5 s)(h1:sz.length<=100)(h2:fl.length=sz.length+1) :
  Zaj G n 793 [.lst (sz.map optV),.lst (fl.map Gu.v),s.v] μ (.lst ((0::ZaP s (Zbu sz fl 0 (sz.length+1)) 0 0).map .int)):=by
 refine Zae f97 (dn hn rfl) rfl λQ qq=>?_
 unfold c97;refine w_c ?_;refine ZaH (vs:=[_]) rfl rfl λfd=>?_
 refine wr 10 (?_:Y);refine Zax (.len (by simp;exact(Zag (fl1 h2 h1) rfl))) rfl rfl ?_;rw[length_map];refine we 1 [1] rfl (?_:Y);refine Zar (.rng (lb rfl) (Zag (fl1 h2 h1) rfl)) (.inl rfl) ?_;have key:∀(j k:Nat) (done:List Int) (fx fz:Int) (x6 x7 x8 x9 x10 x11:Option V),k+j=sz.length+1->done.length<=2*k+1->done++ZaP s (Zbu sz fl k j) fx fz=0::ZaP s (Zbu sz fl 0 (sz.length+1)) 0 0 ->
   ForW (CallX G (n+1)) [] (.v 6) b97_1 [.l 3,.ret] Q false 16 (ZaF k fl.length) [some (.lst (sz.map optV)),some (.lst (fl.map Gu.v)),some s.v,some (.ref fd),some (.int fx),some (.int fz),x6,x7,x8,x9,x10,x11,none,none,none,none] ((fd,.list (done.map .int))::μ):=by
  intro j;induction j with
  |zero =>
   intro k done fx fz x6 x7 x8 x9 x10 x11 hk hl e;rw[ZaL (by lia)];refine ZaA rfl ?_;refine w_st (.frzL (μ1:=[]) (l':=[_,_,_,some (.lst (done.map .int)),_,_,x6,x7,x8,x9,x10,x11,none,none,none,none]) .id (.cons (.cons (.cons (.sm .here .id)))) .id .refl) ?_;refine w_l rfl ?_;exact qq.w ⟨by rw[<- e];simp[pHN,pHO,pHS,plN,plS,plB],rfl⟩
  |succ j ih =>
   intro k done fx fz x6 x7 x8 x9 x10 x11 hk hl e;rw[Zaw (by lia)];refine forV rfl (by exact lb rfl) λQ' T=>?_
   simp only[set_cons_succ,set_cons_zero];have sv:s.v=.tup [.int s.sg,.int s.o,.tup [.int s.u,.int s.e],.tup [.int s.r0,.int s.r1]]:=rfl;unfold b97_1;refine wr 2 (?_:Y);refine w_gi (rgM (f:=Gu.v) (k:=k) default rfl (h2▸(kjl hk)) (by lia)) ?_;generalize hg:fl.getD k default=g;refine w_mg (.pi (by rfl) rfl) ?_;refine Zaa (parts (d1 hn rfl)).cx rfl rfl rfl ?_;unfold Gu.parts;refine wr 11 (?_:Y);refine Zex (s:=s) (so:=g.so) (st:=g.st) rfl rfl rfl ?_;refine Zao .add ?_;refine Zex (s:=s) (so:=g.ho) (st:=g.sh) rfl rfl rfl ?_;refine Zao .sub ?_;rw[flex_eq];refine wr 2 (?_:Y);refine w_mg (.app (.head _)) ?_;rw[sv];refine wr 8 (?_:Y);refine Zao (.mul (.inl hs.1)) ?_;refine wr 5 (?_:Y);refine Zaa (Zer (d1 hn rfl) hs.2.1 hs.2.2).cx rfl rfl rfl ?_;refine Zao .add ?_;refine ZaG (by simp;lia) .head ?_;refine wr 4 (?_:Y);refine Zax (.len (by simp;exact Zag ‹_› rfl)) rfl rfl ?_;rw[length_map];refine ZaE (.int rfl) ?_;have ea:done.map V.int++[.int (fx+g.w+rnd (s.u*(fz+Za3 s g)) s.e)]=(done++[fx+g.w+rnd (s.u*(fz+Za3 s g)) s.e]).map .int:=by simp
   rw[ea];cases j with
   |zero =>
    have d:decide ((k:Int)<(sz.length:Int))=false:=by simp;lia
    rw[d];refine wr 1 (?_:Y);have:=ih (k+1) (done++[fx+g.w+rnd (s.u*(fz+Za3 s g)) s.e]) (fx+g.w) (fz+Za3 s g) (some (.int k)) (some (.int g.w)) (some (.int g.st)) (some (.int g.so)) (some (.int g.sh)) (some (.int g.ho)) ‹_› (by simp;exact(Nat.le_succ_of_le hl)) (by rw[<- e];simp[pHN,pHO,pHS,plN,plS,plB];rw[<- hg];simp[List.getD]);exact Zad (T.nx _ _ this _ .refl)
   |succ j =>
    have d:decide ((k:Int)<(sz.length:Int))=true:=by simp;exact(j12 hk)
    rw[d];refine wr 5 (?_:Y);refine w_gi (rgM (f:=optV) (k:=k) none rfl (j12 hk) (ZaV (Nat.le_trans (j12 hk) h1) rfl)) ?_;refine Zaa (ZbC (d1 hn rfl)).cx rfl rfl rfl ?_;refine wr 3 (?_:Y);refine w_mg (.app (.head _)) ?_;refine wr 8 (?_:Y);refine Zao (.mul (.inl hs.1)) ?_;refine wr 5 (?_:Y);refine Zaa (Zer (d1 hn rfl) hs.2.1 hs.2.2).cx rfl rfl rfl ?_;refine Zao .add ?_;refine ZaG (by simp;lia) .head ?_;refine Zbf ?_;have eb:(done++[fx+g.w+rnd (s.u*(fz+Za3 s g)) s.e]).map V.int++[.int (fx+g.w+wide (sz.getD k none)+rnd (s.u*(fz+Za3 s g)) s.e)]=(done++[fx+g.w+rnd (s.u*(fz+Za3 s g)) s.e]++[fx+g.w+wide (sz.getD k none)+rnd (s.u*(fz+Za3 s g)) s.e]).map .int:=by simp
    rw[eb];have:=ih (k+1) (done++[fx+g.w+rnd (s.u*(fz+Za3 s g)) s.e]++[fx+g.w+wide (sz.getD k none)+rnd (s.u*(fz+Za3 s g)) s.e]) (fx+g.w+wide (sz.getD k none)) (fz+Za3 s g) (some (.int k)) (some (.int g.w)) (some (.int g.st)) (some (.int g.so)) (some (.int g.sh)) (some (.int g.ho)) (kjr hk) (by simp;exact(ds3 hl)) (by rw[<- e];simp only[pHN,pHO,pHS,plN,plS,plB,hg];simp);exact Zad (T.nx _ _ this _ .refl)
 refine key (sz.length+1) 0 [0] 0 0 none none none none none none (by lia) (by simp) rfl
theorem Zc8{up:Bool}{a b c:Int}{its:List V}{s:Set4}(hn:n+10<900)(ha:Dm a)(hb:Dm b)(hc:Dm c):Zaj G n 800 [.bool up,.tup [.int a,.int b,.int c],.lst its,s.v] μ (boxV (kOf up) a b c (.lst its) s):=by
 refine Zae f98 (dn hn rfl) rfl λQ qq=>?_
 unfold c98 Set4.v;cases up with
 |true =>
  refine wf 14 (?_:Y);refine Zab (Zcd (lw ‹_›) (.inr rfl) ha hb hc) (vs:=[_,_,_,_,_]) rfl rfl rfl (λv μ' q=>?_) (λz q=>q.elim);obtain⟨bx,dx,rfl,rfl⟩:=q;unfold Za2;refine we 18 [0,0,0] rfl (?_:Y);refine w_st (.frzI (μ1:=[]) (l':=[_,_,_,_,some (boxV 3 a b c (.lst its) s),none,none,none,none]) .id (.cons (.cons (.cons (.cons (.sm .here .id))))) .id .refl) ?_;refine w_l rfl ?_;exact qq.w ⟨rfl,rfl⟩
 |false =>
  refine wf 14 (?_:Y);refine Zab (Zcd (lw ‹_›) (.inl rfl) ha hb hc) (vs:=[_,_,_,_,_]) rfl rfl rfl (λv μ' q=>?_) (λz q=>q.elim);obtain⟨bx,dx,rfl,rfl⟩:=q;unfold Za2;refine we 18 [0,0,0] rfl (?_:Y);refine w_st (.frzI (μ1:=[]) (l':=[_,_,_,_,some (boxV 2 a b c (.lst its) s),none,none,none,none]) .id (.cons (.cons (.cons (.cons (.sm .here .id))))) .id .refl) ?_;refine w_l rfl ?_;exact qq.w ⟨rfl,rfl⟩
end
end
section
section
variable{G:Gl}{n:Nat}{μ:Led}
theorem mxC{cel:List Nat}{cs:List Ce}{g:Ce->Int}{f:V->V}{b k:List IX}{l:List (Option V)}{Q:Post}(hl:17<l.length)(hc:cs.length<1000)(h0:l[0]?=some (some (.lst (cs.map Ce.v))))(hf:∀c,f (Ce.v c)=.int (g c))
  (hb:∀c:Ce,W (CallX G n) cel b ⟨[],l.set 17 (some c.v),μ,false⟩ ⟨λS=>S=⟨[.int (g c)],l.set 17 (some c.v),μ,false⟩,λz z=>False,λz=>False⟩)
  (h:W (CallX G n) cel k ⟨[.int (mx (cs.map g))],l,μ,false⟩ Q):W (CallX G n) cel (.c (.bi "max")::.c (.int 0)::.lst 1::.l 0::.comp (.v 17) (.emit b)::.bin .Add::.call 1::k) ⟨[],l,μ,false⟩ Q:=by
 refine w_c (w_c (Zaq (vs:=[_]) rfl rfl (w_l h0 ?_)));refine ZaI f .lst hl (by simp;exact Zay ‹_› rfl) (λv hv=>?_) ?_
 ·obtain⟨c,z,rfl⟩:=mem_map.mp hv
  rw[hf];exact hb c
 ·have e:(cs.map Ce.v).map f=(cs.map g).map .int:=by
   simp only[map_map];apply map_congr_left;intro c z;exact hf c
  refine e.symm▸?_;refine Zao (.addL (by simp;lia)) ?_;have e5:[V.int 0]++(cs.map g).map .int=(0::cs.map g).map .int:=rfl;refine e5.symm▸?_;exact Zax (.maxL Zfw mx_le) rfl rfl h
abbrev lrSl(cs:List Ce)(sz:List (Option Int))(gs:List Gu)(E:List Int)(s:Set4)(goal:Int)(up:Bool)(x7:Option V)(hi dp:Int)(fd:Addr)(col:Int)(x12 x13 x14 x15 x16:Option V):List (Option V) :=
 [some (.lst (cs.map Ce.v)),some (.lst (sz.map optV)),some (.lst ((Zai sz gs).map Gu.v)),some (.lst (E.map .int)),some s.v,some (.int goal),some (.bool up),x7,some (.int hi),some (.int dp),some (.ref fd),some (.int col),x12,x13,x14,x15,x16,none,none,none,none]
theorem rowFill{cs:List Ce}{sz:List (Option Int)}{gs:List Gu}{E:List Int}{s:Set4}{goal hi dp:Int}{up:Bool}{fd:Addr}{col:Nat}{Q:Post}{k':List IX}{x7 x12 x13 x15:Option V}(hn:n+10<900)(h1:sz.length<=100)(hd:∀o∈sz,Dm (wide o)):∀(j k top:Nat) (done:List V) (x14 x16:Option V),k+j=top->top<=sz.length->col<k->done.length+2*j<2^18 ->
  (∀x14 x16,W (CallX G n) [6] k' ⟨[],lrSl cs sz gs E s goal up x7 hi dp fd col x12 x13 x14 x15 x16,(fd,.list (done++ZcN up sz gs k j))::μ,false⟩ Q) ->
  ForW (CallX G n) [6] (.v 16) b99_2 k' Q false 21 (ZaF k top) (lrSl cs sz gs E s goal up x7 hi dp fd col x12 x13 x14 x15 x16) ((fd,.list done)::μ):=by
 intro j;induction j with
 |zero =>
  intro k top done x14 x16 hk ht hc hl h;refine(ZaL (Int.ofNat_le.mpr (kj0 hk))).symm▸?_;refine ZaA rfl ?_;simpa [fvN,fvS] using h x14 x16
 |succ j ih =>
  intro k top done x14 x16 hk ht hc hl h;refine(Zaw (Int.ofNat_lt.mpr (kjl hk))).symm▸?_;refine forV rfl (by exact lb rfl) λQ' T=>?_
  simp only[set_cons_succ,set_cons_zero];have d:decide ((k:Int)>(col:Int))=true:=by simp;assumption
  have dw:Dm (wide (sz.getD k none)):=hd _ (ZaW (kj2 hk ht));unfold b99_2;refine wr 3 (?_:Y);refine d.symm▸?_;refine wr 4 (?_:Y);refine w_gi (rgM (f:=optV) (k:=k) none rfl (kj2 hk ht) (Zay (kj3 hk ht h1) rfl)) ?_;refine Zaa (ZbC (dn hn rfl)).cx rfl rfl rfl ?_;refine wr 2 (?_:Y);refine w_mg (.app (.head _)) ?_;have fin:W (CallX G n) [6] [.call 2,.pop,.l 10,.mg 26,.c (.ref 418),.l 2,.l 16,.c (.int 1),.bin .Add,.gi,.c (.int 109),.call 2,.call 2,.pop] ⟨[Pn.v up (.bx (wide (sz.getD k none))),.ref fd,.bi "list.append"],lrSl cs sz gs E s goal up x7 hi dp fd col x12 x13 (some (.int (wide (sz.getD k none)))) x15 (some (.int k)),(fd,.list done)::μ,false⟩ Q':=by
   refine ZaG (Zay (lt0 hl) rfl) .head ?_;refine wr 2 (?_:Y);refine w_mg (.app (.head _)) ?_;refine wr 5 (?_:Y);refine w_gi (rgM (f:=Gu.v) (k:=k+1) default (by lia) (by rw[Za1];exact(Nat.succ_lt_succ (kj2 hk ht))) (Zag (kj3 hk ht h1) rfl)) ?_;refine(ZbD (kj2 hk ht)).symm▸?_;refine w_c ?_;refine Zaa (ZbK (dn hn rfl)) rfl rfl rfl ?_;refine ZaG (by simp;exact(Zag (lt0 hl) rfl)) .head ?_;refine Zbf ?_;have:=ih (k+1) top ((done++[Pn.v up (.bx (wide (sz.getD k none)))])++[ZaB (tabG sz gs k).v 109]) (some (.int (wide (sz.getD k none)))) (some (.int k)) (kjr hk) ht (Nat.lt_succ_of_lt hc) (by simp;exact(h25 hl)) (λx14 x16=>by
    have:=h x14 x16;simpa [fvN,fvS] using this)
   exact Zad (T.nx _ _ this _ .refl)
  cases up with
  |true =>
   refine wr 7 (?_:Y);refine Zaq (vs:=[]) rfl rfl ?_;refine Zaa (Zdj (dn hn rfl) (.inr rfl) (by decide) dw (by decide)) rfl rfl rfl ?_;exact fin
  |false =>
   refine wr 7 (?_:Y);refine Zaq (vs:=[]) rfl rfl ?_;refine Zaa (Zdj (dn hn rfl) (.inl rfl) dw (by decide) (by decide)) rfl rfl rfl ?_;exact fin
theorem law_row{cs:List Ce}{sz:List (Option Int)}{gs:List Gu}{E:List Int}{s:Set4}{goal:Int}{up:Bool}(hn:n+14<900)(hs:Zas cs<=sz.length)(h1:sz.length<=100)(h2:gs.length=sz.length+1)(hE:E.length=2*sz.length+2)(hd:∀o∈sz,Dm (wide o))
  (hc:∀c∈cs,CeB c/\TotS c.t/\1<=c.sp/\c.up=up) (hg:Dm goal) :
  Zaj G n 805 [.lst (cs.map Ce.v),.lst (sz.map optV),.lst ((Zai sz gs).map Gu.v),.lst (E.map .int),s.v,.int goal,.bool up] μ (Zcx up sz gs E (if up then 0 else goal) (if up then goal else 0) s cs):=by
 have hl:cs.length<=Zas cs:=ZbA λc h=>(hc c h).2.2.1
 have dW:Dm (mx (cs.map Ce.w)):=Zc7 λa ha=>by obtain⟨c,h1,rfl⟩:=mem_map.mp ha;exact(hc c h1).1.1
 have dH:Dm (mx (cs.map Ce.h)):=Zc7 λa ha=>by obtain⟨c,h1,rfl⟩:=mem_map.mp ha;exact(hc c h1).1.2.1
 have dD:Dm (mx (cs.map Ce.d)):=Zc7 λa ha=>by obtain⟨c,h1,rfl⟩:=mem_map.mp ha;exact(hc c h1).1.2.2
 refine Zae f99 (dn hn rfl) rfl λQ qq=>?_
 have hx:=qq.x;have hr:=qq.r;have he:=qq.e;have e0:∀c:Ce,c.v=.ins 461 [(0,.int c.w),(7,.int c.h),(8,.int c.d),(9,.lst c.its),(18,.int c.sp),(19,c.t.v),(20,.bool c.up)]:=λz=>rfl
 have hiD:Dm (if up then mx (cs.map Ce.w) else mx (cs.map Ce.h)):=by split<;>assumption
 have key:∀(qs:List Ce) (col:Nat) (done:List V) (x7 x12 x13 x14 x15 x16:Option V) (fd:Addr),(∀c∈qs,CeB c/\TotS c.t/\1<=c.sp/\c.up=up)->col+Zas qs<=sz.length->done.length+2*Zas qs<2^18 ->
   done++rowV up sz gs E (rowW up (if up then 0 else goal) cs) (rowH up (if up then goal else 0) cs) (rowD up cs) col qs=ZaB (gs.getD 0 default).v 109::rowV up sz gs E (rowW up (if up then 0 else goal) cs) (rowH up (if up then goal else 0) cs) (rowD up cs) 0 cs ->
   ForW (CallX G (n+1)) [6] (.v 7) b99_1 [.c (.ref 800),.l 6,.l 6,.ite [.l 8,.l 5,.c (.int 0),.tup 3] [.l 5,.l 8,.l 9,.tup 3],.l 10,.l 4,.call 4,.ret] Q false 21 (qs.map Ce.v)
    (lrSl cs sz gs E s goal up x7 (if up then mx (cs.map Ce.w) else mx (cs.map Ce.h)) (mx (cs.map Ce.d)) fd col x12 x13 x14 x15 x16) ((fd,.list done)::μ):=by
  intro qs;induction qs with
  |nil =>
   intro col done x7 x12 x13 x14 x15 x16 fd z z z e;refine ZaA rfl ?_;have e':done=ZaB (gs.getD 0 default).v 109::rowV up sz gs E (rowW up (if up then 0 else goal) cs) (rowH up (if up then goal else 0) cs) (rowD up cs) 0 cs:=by rw[<- e];simp[rowZ,rvC]
   have hrb:Zcx up sz gs E (if up then 0 else goal) (if up then goal else 0) s cs=boxV (kOf up) (rowW up (if up then 0 else goal) cs) (rowH up (if up then goal else 0) cs) (rowD up cs) (.lst done) s:=by rw[Zcx,e']
   refine w_st (.frzL (μ1:=[]) (l':=[_,_,_,_,_,_,_,_,_,_,some (.lst done),_,_,_,_,_,_,none,none,none,none]) .id (.cons (.cons (.cons (.cons (.cons (.cons (.cons (.cons (.cons (.cons (.sm .here .id))))))))))) .id .refl) ?_;simp only[nil_append];rw[hrb] at hr;cases up with
   |true =>
    refine wr 10 (?_:Y);refine Zaa (Zc8 (d1 hn rfl) dW hg (by decide)).cx (vs:=[_,_,_,_]) rfl rfl rfl ?_;exact Zak (hr _ _ ⟨rfl,rfl⟩)
   |false =>
    refine wr 10 (?_:Y);refine Zaa (Zc8 (d1 hn rfl) hg dH dD).cx (vs:=[_,_,_,_]) rfl rfl rfl ?_;exact Zak (hr _ _ ⟨rfl,rfl⟩)
  |cons c qs ih =>
   intro col done x7 x12 x13 x14 x15 x16 fd hq hcol hlen e;obtain⟨hcb,htb,hsp,hup⟩:=hq c (.head _);simp only[sSN,sSC] at hcol hlen;refine forV rfl (by exact lb rfl) λQ' T=>?_
   simp only[set_cons_succ,set_cons_zero];have dw:Dm (wide (sz.getD col none)):=hd _ (ZaW (cpS hcol hsp));unfold b99_1;rw[e0];refine wh 9 [0] (?_:Y);refine w_gi (rgM (f:=V.int) (k:=2*(col+c.sp)) 0 rfl (eL hcol hE) (Zag (Nat.mul_le_mul_left 2 (cp2 hcol h1)) rfl)) ?_;refine wh 6 [0] (?_:Y);refine w_gi (rgM (f:=V.int) (k:=2*col+1) 0 (Int.natCast_add _ _) (eS hcol hE) (Zag (Nat.succ_le_succ (Nat.mul_le_mul_left 2 (cp1 hcol h1))) rfl)) ?_;refine wr 2 (?_:Y);have mid:W (CallX G (n+1)) [6] (b99_1.drop 20) ⟨[.int c.al,.int (E.getD (2*(col+c.sp)) 0-E.getD (2*col+1) 0)],lrSl cs sz gs E s goal up (some c.v) (if up then mx (cs.map Ce.w) else mx (cs.map Ce.h)) (mx (cs.map Ce.d)) fd col (some (.int ((col:Int)+c.sp))) x13 x14 x15 x16,(fd,.list done)::μ,false⟩ Q':=by
    refine wr 5 (?_:Y);refine w_gi (rgM (f:=optV) (k:=col) none rfl (cpS hcol hsp) (Zag (cp1 hcol h1) rfl)) ?_;refine Zaa (ZbC (d1 hn rfl)).cx rfl rfl rfl ?_;refine wr 2 (?_:Y);have fin:W (CallX G (n+1)) [6] (b99_1.drop 30) ⟨[.tup [.int (if up then(if up then mx (cs.map Ce.w) else mx (cs.map Ce.h)) else wide (sz.getD col none)),.int (if up then wide (sz.getD col none) else(if up then mx (cs.map Ce.w) else mx (cs.map Ce.h))),.int (if up then c.d else mx (cs.map Ce.d))]],lrSl cs sz gs E s goal up (some c.v) (if up then mx (cs.map Ce.w) else mx (cs.map Ce.h)) (mx (cs.map Ce.d)) fd col (some (.int ((col:Int)+c.sp))) (some (.int (E.getD (2*(col+c.sp)) 0-E.getD (2*col+1) 0-c.al))) (some (.int (wide (sz.getD col none)))) x15 x16,(fd,.list done)::μ,false⟩ Q':=by
     have et:c.t.v=.ins 313 [(5,.int c.t.n),(1,.lst (ZaR c.t.s)),(3,.lst (ZaR c.t.h))]:=rfl;refine wr 2 (?_:Y);refine w_mg (.app (.head _)) ?_;refine wr 13 (?_:Y);refine Zaa (Zep (d1 hn rfl) htb).cx (vs:=[_,_,_]) rfl rfl rfl ?_;refine Zaa (Zc8 (d1 hn rfl) (by split<;>assumption) (by split<;>assumption) (by split;exact hcb.2.2;exact dD)).cx (vs:=[_,_,_,_]) rfl rfl rfl ?_;refine ZaG (Zay (lt0 hlen) rfl) .head ?_;refine we 5 [3] rfl (?_:Y);refine(show(col:Int)+c.sp=((col+c.sp:Nat):Int) by lia).symm▸?_;refine Zar (.rng (Zag (cp1 hcol h1) rfl) (Zag (cp2 hcol h1) rfl)) (.inl rfl) ?_;rw[Zaw (by lia)];refine forV rfl (by exact lb rfl) λQ'' T'=>?_
     simp only[set_cons_succ,set_cons_zero];have d:decide ((col:Int)>(col:Int))=false:=by simp
     refine wr 3 (?_:Y);refine d.symm▸?_;refine wr 2 (?_:Y);refine w_mg (.app (.head _)) ?_;refine wr 5 (?_:Y);refine w_gi (rgM (f:=Gu.v) (k:=col+1) default (by lia) (by rw[Za1];exact(Nat.succ_lt_succ (cpS hcol hsp))) (Zag (Nat.succ_le_succ (cp1 hcol h1)) rfl)) ?_;refine(ZbD (cpS hcol hsp)).symm▸?_;refine w_c ?_;refine Zaa (ZbK (d1 hn rfl)) rfl rfl rfl ?_;refine ZaG (by simp;exact(Zag (lt0 hlen) rfl)) .head ?_;refine Zbf ?_;refine Zad (T'.nx _ _ ?_ _ .refl);refine rowFill (d1 hn rfl) h1 hd (c.sp-1) (col+1) (col+c.sp) _ _ _ (s2 hsp) (cpL hcol) (by lia) (by simp;exact(h1e hlen hsp)) λx14 x16=>?_
     refine wr 2 (?_:Y);refine Zad (T.nx _ _ (ih (col+c.sp) _ _ _ _ _ _ _ fd (λq hq'=>hq q (.tail _ hq')) (cpA hcol) ?_ ?_) _ .refl)
     ·simp[ZcD];lia
     ·rw[<- e]
      simp only[rowZ,rvC,append_assoc,cons_append,nil_append];congr 2;unfold Zbq rowW rowH rowD kOf;refine hup.symm▸?_;cases up<;>rfl
    cases up with
    |true =>
     simp only[reduceIte,Bool.false_eq_true] at fin⊢;rw[e0] at fin⊢;refine wr 6 (?_:Y);exact fin
    |false =>
     simp only[reduceIte,Bool.false_eq_true] at fin⊢;rw[e0] at fin⊢;refine wr 5 (?_:Y);exact fin
   have al:c.al=if up then c.h else c.w:=by rw[Ce.al,hup]
   rw[al,e0] at mid;cases up with
   |true =>
    refine wr 3 (?_:Y);exact mid
   |false =>
    refine wr 3 (?_:Y);exact mid
 unfold c99;have emx:∀{k:List IX},W (CallX G (n+1)) [6] k ⟨[.int (if up then mx (cs.map Ce.w) else mx (cs.map Ce.h))],[some (.lst (cs.map Ce.v)),some (.lst (sz.map optV)),some (.lst ((Zai sz gs).map Gu.v)),some (.lst (E.map .int)),some s.v,some (.int goal),some (.bool up),none,none,none,none,none,none,none,none,none,none,none,none,none,none],μ,false⟩ Q ->
   W (CallX G (n+1)) [6] (.c (.bi "max")::.c (.int 0)::.lst 1::.l 0::.comp (.v 17) (.emit [.l 6,.ite [.l 17,.at 0] [.l 17,.at 7]])::.bin .Add::.call 1::k) ⟨[],[some (.lst (cs.map Ce.v)),some (.lst (sz.map optV)),some (.lst ((Zai sz gs).map Gu.v)),some (.lst (E.map .int)),some s.v,some (.int goal),some (.bool up),none,none,none,none,none,none,none,none,none,none,none,none,none,none],μ,false⟩ Q:=by
  intro k h;cases up with
  |true =>
   refine mxC (g:=Ce.w) (f:=λv=>gf v.fields 0) (by exact lb rfl) (Zag (Nat.le_trans (Nat.le_trans hl hs) h1) rfl) rfl (λc=>rfl) (λc=>?_) h;simp only[set_cons_succ,set_cons_zero];rw[e0];refine wr 4 (?_:Y);exact Zad rfl
  |false =>
   refine mxC (g:=Ce.h) (f:=λv=>gf v.fields 7) (by exact lb rfl) (Zag (Nat.le_trans (Nat.le_trans hl hs) h1) rfl) rfl (λc=>rfl) (λc=>?_) h;simp only[set_cons_succ,set_cons_zero];rw[e0];refine wr 4 (?_:Y);exact Zad rfl
 refine emx ?_;refine wr 1 (?_:Y);refine mxC (g:=Ce.d) (f:=λv=>gf v.fields 8) (by exact lb rfl) (Zag (Nat.le_trans (Nat.le_trans hl hs) h1) rfl) rfl (λc=>rfl) (λc=>?_) ?_
 ·simp only[set_cons_succ,set_cons_zero]
  rw[e0];refine wr 2 (?_:Y);exact Zad rfl
 refine wr 6 (?_:Y);refine Zaa (ZbK (d1 hn rfl)) rfl rfl rfl ?_;refine ZaH (vs:=[_]) rfl rfl λfd=>?_
 refine wr 6 (?_:Y);refine Zar .lst (.inl rfl) ?_;exact key cs 0 [_] none none none none none none fd hc (z0 hs) (by simp;lia) rfl
end
end
section
section
variable{G:Gl}{n:Nat}{μ:Led}
def LrOk(up:Bool)(k:Nat):Rw->Prop
 |.cells cs=>Zas cs<=k/\∀c∈cs,CeB c/\TotS c.t/\1<=c.sp/\c.up=up
 |.rule w h d=>DmO w/\DmO h/\DmO d
 |_=>True
theorem law_due{f:Fin}{rows:List Rw}{m:Nat}(h:f.Ok)(hn:n+8*m+20<900)(hm:m<=40)(hg:Dm f.goal)(hq:∀q∈rows,LrOk f.up f.sz.length q)(hl:rows.length<2^17)(hnd:∀q∈rows,Nd m (f.row q)) :
  Zaj G n 812 [.lst (rows.map Rw.v),.lst (f.sz.map optV),.lst ((Zai f.sz f.gs).map Gu.v),.int f.goal,f.set.v,.bool f.up] μ (DL m (rows.map f.row)):=by
 have hE:f.E=0::ZaP f.set (Zbu f.sz (Zai f.sz f.gs) 0 (f.sz.length+1)) 0 0:=by rw[<- Zfk];rfl
 have nb:∀o,(optV o).nb=true:=λo=>by cases o<;>rfl
 have hmw:Dm f.mw:=by unfold Fin.mw;split;decide;exact hg
 have hmh:Dm f.mh:=by unfold Fin.mh;split;exact hg;decide
 have orD:∀{o:Option Int}{x:Int},DmO o->Dm x->DmO (orO o x):=by
  intro o x ho qq.x i hi;cases o with
  |none=>cases hi;exact qq.x
  |some j=>cases hi;exact ho _ rfl
 refine Zae f100 (by lia) rfl λQ qq=>?_
 have key:∀{L:V} (qs:List Rw) (done:List V) (x10:Option V) (fd:Addr),(∀q∈qs,LrOk f.up f.sz.length q)->done.length+qs.length<2^18->done++qs.map f.row=rows.map f.row ->
   ForW (CallX G (n+1)) [] (.v 10) ZcX [.c (.ref 491),.l 7,.call 1,.ret] Q false 15 (qs.map Rw.v) [some L,some (.lst (f.sz.map optV)),some (.lst ((Zai f.sz f.gs).map Gu.v)),some (.int f.goal),some f.set.v,some (.bool f.up),some (.lst (f.E.map .int)),some (.ref fd),some (.int f.mw),some (.int f.mh),x10,none,none,none,none] ((fd,.list done)::μ):=by
  intro L qs;induction qs with
  |nil =>
   intro done x10 fd z z e;refine ZaA rfl ?_;refine w_st (.frzL (μ1:=[]) (l':=[_,_,_,_,_,_,_,some (.lst done),_,_,_,none,none,none,none]) .id (.cons (.cons (.cons (.cons (.cons (.cons (.cons (.sm .here .id)))))))) .id .refl) ?_;have e':done=rows.map f.row:=by rw[<- e];simp
   refine e'.symm▸?_;refine wr 2 (?_:Y);refine Zaa (Zbi (m:=m) (λv hv=>?_) (by simp;exact Zay ‹_› rfl) (by lia) (ZaV ‹_› rfl)).cx rfl rfl rfl ?_
   ·obtain⟨q,hq,rfl⟩:=mem_map.mp hv
    exact hnd q hq
   ·exact Zak (qq.r _ _ ⟨rfl,rfl⟩)
  |cons q qs ih =>
   intro done x10 fd hk hl e;have hq1:=hk q (.head _);have nxt:=λx10=>ih (done++[f.row q]) x10 fd (λp hp=>hk p (.tail _ hp)) (by simp at hl⊢;lia) (by rw[<- e];simp)
   have hl':done.length<2^20:=by simp at hl;lia
   refine forV rfl (by exact lb rfl) λQ' T=>?_
   cases q with
   |cells cs =>
    have e1:Rw.v (.cells cs)=.lst (cs.map Ce.v):=rfl;refine e1.symm▸?_;unfold ZcX;refine we 6 [0] rfl (?_:Y);refine w_mg (.app (.head _)) ?_;refine wr 8 (?_:Y);refine Zaa (law_row (by lia) hq1.1 h.c1 h.g (ZfU h) h.d hq1.2 hg).cx (vs:=[_,_,_,_,_,_,_]) rfl rfl rfl ?_;refine ZaG hl' .head ?_;refine Zbf ?_;exact Zad (T.nx _ _ (nxt _) _ .refl)
   |rule w hh d =>
    have e1:Rw.v (.rule w hh d)=.ins 375 [(0,optV w),(7,optV hh),(8,optV d)]:=rfl;refine e1.symm▸?_;unfold ZcX;refine we 11 [0,1] rfl (?_:Y);refine w_mg (.app (.head _)) ?_;have step:∀{j i:Nat}{o:Option Int}{x:Int}{k:List IX}{r:List V}{l:List (Option V)}{rv:V}{μ:Led}{Q:Post},l[10]?=some (some rv)->l[i]?=some (some (.int x))->RA μ rv j (optV o)->W (CallX G (n+1)) [] k ⟨optV (orO o x)::r,l,μ,false⟩ Q ->
      W (CallX G (n+1)) [] (.l 10::.at j::.c .none::.cmp .Is::.ite [.l i] [.l 10,.at j]::k) ⟨r,l,μ,false⟩ Q:=by
     intro j i o x k r l rv μ Q e0 e1 r0 hk;refine w_l e0 (w_at r0 (w_c (ZaE .isN ?_)));cases o with
     |none=>exact ZaS (w_l e1 hk)
     |some i=>exact ZaT (w_l e0 (w_at r0 hk))
    have ra:∀{j:Nat}{o:Option Int},j<21->([(0,optV w),(7,optV hh),(8,optV d)]:List (Nat×V)).lookup j=some (optV o)->RA ((fd,.list done)::μ) (.ins 375 [(0,optV w),(7,optV hh),(8,optV d)]) j (optV o):=λhj e=>.pi (by decide) hj e (nb _)
    refine w_c ?_;refine step (o:=w) (x:=f.mw) rfl rfl (ra (by decide) rfl) ?_;refine step (o:=hh) (x:=f.mh) rfl rfl (ra (by decide) rfl) ?_;refine w_c (w_l rfl (w_at (ra (o:=d) (by decide) rfl) ?_));refine Zaa (ZbC (by lia)).cx rfl rfl rfl ?_;have ed:V.int (wide d)=optV (orO d 0):=by cases d<;>rfl
    refine ed.symm▸?_;refine Zaa (ZdR (by lia) (orD hq1.1 hmw) (orD hq1.2.1 hmh) (orD hq1.2.2 (by decide))) (vs:=[_,_,_]) rfl rfl rfl ?_;refine ZaG hl' .head ?_;refine Zbf ?_;exact Zad (T.nx _ _ (nxt _) _ .refl)
   |pen v =>
    have e1:Rw.v (.pen v)=.ins 439 [(17,.int v)]:=rfl;refine e1.symm▸?_;unfold ZcX;refine we 11 [0,1] rfl (?_:Y);refine w_mg (.app (.head _)) ?_;refine w_l rfl ?_;refine ZaG hl' .head ?_;refine Zbf ?_;exact Zad (T.nx _ _ (nxt _) _ .refl)
   |skip g =>
    have e1:Rw.v (.skip g)=.ins 418 [(15,g.v),(14,.int 0),(16,.none)]:=rfl;refine e1.symm▸?_;unfold ZcX;refine we 11 [0,1] rfl (?_:Y);refine w_mg (.app (.head _)) ?_;refine w_l rfl ?_;refine ZaG hl' .head ?_;refine Zbf ?_;exact Zad (T.nx _ _ (nxt _) _ .refl)
 unfold c100;refine wf 4 (?_:Y);refine Zaa (ZfC (s:=f.set) (by lia) (setOk h.tb (goalB h hg)) h.c1 Za1).cx (vs:=[_,_,_]) rfl rfl rfl ?_;refine hE▸?_;refine ZaH (vs:=[]) rfl rfl λfd=>?_
 refine wr 5 (?_:Y);have fin:∀{k:List IX},(W (CallX G (n+1)) [] k ⟨[],[some (.lst (rows.map Rw.v)),some (.lst (f.sz.map optV)),some (.lst ((Zai f.sz f.gs).map Gu.v)),some (.int f.goal),some f.set.v,some (.bool f.up),some (.lst (f.E.map .int)),some (.ref fd),some (.int f.mw),some (.int f.mh),none,none,none,none,none],(fd,.list [])::μ,false⟩ Q) ->
   W (CallX G (n+1)) [] (.ite [.c (.int 0),.l 3,.tup 2] [.l 3,.c (.int 0),.tup 2]::.unp 2::.s 8::.s 9::k) ⟨[.bool f.up],[some (.lst (rows.map Rw.v)),some (.lst (f.sz.map optV)),some (.lst ((Zai f.sz f.gs).map Gu.v)),some (.int f.goal),some f.set.v,some (.bool f.up),some (.lst (f.E.map .int)),some (.ref fd),none,none,none,none,none,none,none],(fd,.list [])::μ,false⟩ Q:=by
  intro k hk;unfold Fin.mw Fin.mh at hk;cases q:f.up with
  |true =>
   rw[q] at hk;simp only[reduceIte,Bool.false_eq_true] at hk;refine wr 7 (?_:Y);exact hk
  |false =>
   rw[q] at hk;simp only[reduceIte,Bool.false_eq_true] at hk;refine wr 7 (?_:Y);exact hk
 refine fin ?_;refine w_l rfl ?_;refine Zar .lst (.inl rfl) ?_;exact key rows [] none fd hq (by simp;exact Zay ‹_› rfl) rfl
end
end
section
def ZaU:Rw->List V
 |.cells cs=>cs.map Ce.v
 |.rule w h d=>[ZbO w h d]
 |.pen v=>[penV v]
 |.skip g=>[ZaB g.v 0]
section
variable{G:Gl}{n:Nat}{μ:Led}
theorem law_goal{a:Addr}{x y own less:Int}{M:Int->Int->Led}(hn:n+4<900)(h0:0<=x)(h1:0<=y)(uu:∀x y,Zcf a x y (M x y) M) :
  CodeOK G n 819 [.ref a,.int own,.int less] (M x y) (λv μ'=>∃m am x' y',v=.tup [.int m,.int am]/\(m=0\/m=1)/\0<=x'/\0<=y'/\μ'=M x' y') (λz=>False):=by
 refine Zae f101 (dn hn rfl) rfl λQ qq=>?_
 unfold c101;refine wf 3 (?_:Y);refine Zab (take (lw ‹_›) h0 h1 (by decide) (by decide) (uu _ _)).cx (vs:=[_,_]) rfl rfl rfl (λv μ' q=>?_) (λz q=>q.elim);obtain⟨d1,x1,y1,⟨l1,b1⟩,h0,h1⟩:=q;refine wr 3 (?_:Y);refine Zab (take (lw ‹_›) h0 h1 (by decide) (by decide) (uu _ _)).cx (vs:=[_,_]) rfl rfl rfl (λv μ' q=>?_) (λz q=>q.elim);obtain⟨d2,x2,y2,⟨l2,b2⟩,h0,h1⟩:=q;refine wr 7 (?_:Y);refine Zab (take (lw ‹_›) h0 h1 (by decide) (by decide) (uu _ _)).cx (vs:=[_,_]) rfl rfl rfl (λv μ' q=>?_) (λz q=>q.elim);obtain⟨d3,x3,y3,⟨l3,b3⟩,h0,h1⟩:=q;refine wr 3 (?_:Y);refine Zab (take (lw ‹_›) h0 h1 (by decide) (by decide) (uu _ _)).cx (vs:=[_,_]) rfl rfl rfl (λv μ' q=>?_) (λz q=>q.elim);obtain⟨d4,x4,y4,⟨l4,b4⟩,h0,h1⟩:=q;refine wr 4 (?_:Y);refine Zab (take (lw ‹_›) h0 h1 (by decide) (by decide) (uu _ _)).cx (vs:=[_,_]) rfl rfl rfl (λv μ' q=>?_) (λz q=>q.elim);obtain⟨d5,x5,y5,⟨l5,b5⟩,h0,h1⟩:=q;refine wh 9 [0] (?_:Y);refine ZaN (λq=>?_) (λq=>?_)
 ·refine wk 8 [0] (?_:Y)
  refine Zao (.pow (n:=30) (by decide) (by decide)) ?_;refine wr 2 (?_:Y);refine Zao (.mod (by decide)) ?_;refine Zao .sub ?_;refine Zao (.mul (.inl (by lia))) ?_;refine wr 1 (?_:Y);exact qq.w ⟨d1,_,_,_,rfl,by lia,h0,h1,rfl⟩
 ·simp only[cons_append,nil_append]
  simp at q;refine wr 17 (?_:Y);refine Zaq (vs:=([0,d3,d3,-d4,-d4,-less,-less-1,65536*d5,-(65536*d5),0]:List Int).map .int) rfl rfl ?_;refine w_l rfl ?_;refine w_gi (rgM (f:=V.int) (k:=d2.toNat) 0 (Int.toNat_of_nonneg l2).symm (by simp;exact Int.lt_of_le_of_lt ‹_› (by decide)) (by lia)) ?_;refine wr 5 (?_:Y);have hd:d1=0\/d1=1:=by lia
  rcases hd with rfl|rfl
  ·refine wr 5 (?_:Y)
   exact qq.w ⟨0,_,_,_,rfl,.inl rfl,h0,h1,rfl⟩
  ·refine wr 3 (?_:Y)
   exact qq.w ⟨1,_,_,_,rfl,.inr rfl,h0,h1,rfl⟩
theorem law_flat{rows:List Rw}{m:Nat}(hn:n+8*m+20<900)(hm:m<=40)(hl:(rows.flatMap ZaU).length<2^18)(hnd:∀v∈rows.flatMap ZaU,Nd m v):Zaj G n 831 [.lst (rows.map Rw.v)] μ (DL m (rows.flatMap ZaU)):=by
 refine Zae f103 (dn (dd hn) rfl) rfl λQ qq=>?_
 unfold c103;refine wf 2 (?_:Y);refine Zbg .lst ?_;have key:∀{L:V} (qs:List Rw) (acc:List V) (x1 x2:Option V),acc++qs.flatMap ZaU=rows.flatMap ZaU->Zb2 (CallX G (n+1)) [] (.v 1) (.loop [.c (.bi "isinstance"),.l 1,.c (.typ "list"),.call 2,.ite [.l 1] [.l 1,.lst 1]] (.v 2) (.emit [.l 2])) false (λacc μ'=>W (CallX G (n+1)) [] [.call 1,.ret] ⟨.lst acc::[.ref 491],[some (.lst (rows.map Rw.v)),none,none,none,none],μ',false⟩ Q) (qs.map Rw.v) acc μ [some L,x1,x2,none,none]:=by
  intro L qs;induction qs with
  |nil =>
   intro acc x1 x2 e;have e':acc=rows.flatMap ZaU:=by rw[<- e];simp
   show W _ _ _ _ _;rw[e'];refine Zaa (Zbi (m:=m) hnd hl (de hn rfl) (ZaV ‹_› rfl)).cx rfl rfl rfl ?_;exact Zak (qq.r _ _ ⟨rfl,rfl⟩)
  |cons q qs ih =>
   intro acc x1 x2 e;refine⟨⟨_,.v (by exact lb rfl)⟩,λl2 hb=>?_⟩;obtain⟨z,rfl⟩:=hb.vEq;have hacc:acc.length+(ZaU q).length<=(rows.flatMap ZaU).length:=by
    rw[<- e];simp
   refine⟨by lia,?_⟩
   (first|refine Za7 ?_|refine Zbe ?_|refine Zbd ?_);simp only[set_cons_succ,set_cons_zero]
   generalize hP:(Post.mk _ _ _:Post)=P;have fin:∀it,Items it (ZaU q)->P.nx ⟨[it],[some L,some q.v,x2,none,none],μ,false⟩:=by
    intro it hi;rw[<- hP];refine⟨_,.refl,it,ZaU q,rfl,rfl,hi,λrest acc' μ' l'=>∃done x2,acc'=acc++done/\done++rest=ZaU q/\μ'=μ/\l'=[some L,some q.v,x2,none,none],⟨[],x2,by simp,by simp,rfl,rfl⟩,?_,?_⟩
    ·rintro v rest acc' μ' l' ⟨done,x2,rfl,e2,rfl,rfl⟩
     refine⟨⟨_,.v (by exact lb rfl)⟩,λl2 hb=>?_⟩;obtain⟨z,rfl⟩:=hb.vEq;have hlen:=congrArg List.length e2;refine⟨by simp at hlen⊢;lia,?_⟩;first|refine Za7 ?_|refine Zbe ?_|refine Zbd ?_
     refine w_l (v:=v) rfl ?_;exact Zad ⟨_,.refl,v,rfl,rfl,done++[v],some v,by simp,by rw[<- e2];simp,rfl,rfl⟩
    ·rintro acc' μ' l' ⟨done,x2,rfl,e2,rfl,rfl⟩
     have e3:done=ZaU q:=by rw[<- e2];simp
     subst e3;exact ih _ _ _ (by rw[<- e];simp)
   cases q with
   |cells cs =>
    have e1:Rw.v (.cells cs)=.lst (cs.map Ce.v):=rfl;rw[e1] at fin⊢;refine we 6 [0] rfl (?_:Y);exact Zad (fin _ .lst)
   |rule w h d =>
    have e1:Rw.v (.rule w h d)=.ins 375 [(0,optV w),(7,optV h),(8,optV d)]:=rfl;rw[e1] at fin⊢;refine we 6 [0] rfl (?_:Y);refine Zaq (vs:=[_]) rfl rfl ?_;exact Zad (fin _ .lst)
   |pen v =>
    have e1:Rw.v (.pen v)=.ins 439 [(17,.int v)]:=rfl;rw[e1] at fin⊢;refine we 6 [0] rfl (?_:Y);refine Zaq (vs:=[_]) rfl rfl ?_;exact Zad (fin _ .lst)
   |skip g =>
    have e1:Rw.v (.skip g)=.ins 418 [(15,g.v),(14,.int 0),(16,.none)]:=rfl;rw[e1] at fin⊢;refine we 6 [0] rfl (?_:Y);refine Zaq (vs:=[_]) rfl rfl ?_;exact Zad (fin _ .lst)
 exact key rows [] none none rfl
end
end
section
noncomputable def ZaZ(f:Nat->Int):Nat->Nat->Int
 |_,0=>0
 |k,j+1=>f k+ZaZ f (k+1) j
theorem rSN{f k}:ZaZ f k 0=0:=rfl
theorem rSS{f k j}:ZaZ f k (j+1)=f k+ZaZ f (k+1) j:=rfl
def ZaY(sz:List (Option Int))(fl:List Gu)(p:Nat×Ce):Int :=
 ZaZ (λk=>wide (sz.getD k none)) p.1 p.2.sp+ZaZ (λk=>(fl.getD k default).w) (p.1+1) (p.2.sp-1)-p.2.al
def addR(sz:List (Option Int))(fl:List Gu)(F:Nat->List V)(p:Nat×Ce):Nat->List V:=updF F (p.1+p.2.sp-1) (.int (ZaY sz fl p))
theorem foldR{sz:List (Option Int)}{fl:List Gu}{L:List (Nat×Ce)}:∀{F:Nat->List V}{i:Nat},(L.foldl (addR sz fl) F) i=F i++((L.filter λp=>p.1+p.2.sp-1==i).map (ZaY sz fl)).map .int:=by
 induction L with
 |nil=>intro F i;simp
 |cons p L ih =>
  intro F i;rw[foldl_cons,ih,filter_cons,addR,updF];by_cases h:i=p.1+p.2.sp-1
  ·subst h;simp
  ·rw[if_neg h,if_neg (by simp;exact(λq=>h q.symm))]
noncomputable def isL:V->Bool
 |.lst _=>true
 |_=>false
noncomputable def ZbE(rows:List Rw):List (List Ce):=rows.filterMap λq=>match q with|.cells cs=>some cs|_=>none
theorem Ze0{rows:List Rw}:((rows.map Rw.v).filter isL).map id=(ZbE rows).map λcs=>V.lst (cs.map Ce.v):=by
 induction rows with
 |nil=>rfl
 |cons q rows ih =>
  cases q with
  |cells cs=>exact congrArg (List.cons _) ih
  |_=>exact ih
theorem Ze2{rows:List Rw}:allP rows=(ZbE rows).flatMap (Zat 0):=by
 induction rows with
 |nil=>rfl
 |cons q rows ih =>
  have e:allP (q::rows)=Zat 0 q.cs++allP rows:=rfl;rw[e,ih];cases q<;>rfl
section
variable{G:Gl}{n:Nat}{μ:Led}
noncomputable def rngF(f:Nat->Int):V->V
 |.int i=>.int (f i.toNat)
 |_=>.none
theorem ZdS{f:Nat->Int}:∀{j k:Nat},∃L:List Int,(ZaF k ((k:Int)+j)).map (rngF f)=L.map .int/\L.sum=ZaZ f k j
 |0,k=>⟨[],by rw[ZaL (by lia)];rfl,rfl⟩
 |j+1,k=>by
  obtain⟨L,h1,h2⟩:=ZdS (f:=f) (j:=j) (k:=k+1);refine⟨f k::L,?_,by simp[rSN,rSS,h2]⟩;rw[Zaw (by lia)];rw[show((k+1:Nat):Int)+(j:Int)=(k:Int)+((j+1:Nat):Int) by lia,show((k+1:Nat):Int)=(k:Int)+1 by lia] at h1;simp only[map_cons,h1];rfl
theorem Zcl{a b:Int}{v:V}(h:v∈ZaF a b):∃i:Int,v=.int i/\a<=i/\i<b:=by
 unfold ZaF at h;obtain⟨i,hi,rfl⟩:=mem_map.mp h;rw[List.mem_range] at hi;exact⟨_,rfl,by lia,tnI hi⟩
theorem Zcm{a b:Int}:(ZaF a b).length=(b-a).toNat:=by simp[ZaF]
noncomputable abbrev ZdA(R S Fl:V)(up:Bool)(as:List Addr)(x5 x6 x7 x8 x9:Option V):List (Option V):=[some R,some S,some Fl,some (.bool up),some (.lst (as.map .ref)),x5,x6,x7,x8,x9,none,none,none,none]
theorem fitInner{sz:List (Option Int)}{fl:List Gu}{Q:Post}{k:List IX}{R:V}{up:Bool}{as:List Addr}{x5:Option V}(hn:n+4<900)(hc:sz.length<=100)(hf:fl.length=sz.length+1)(has:as.length=sz.length):∀(cs:List Ce) (col:Nat) (F:Nat->List V) (x7 x8 x9:Option V),(∀d∈cs,1<=d.sp/\d.up=up)->col+Zas cs<=sz.length->(∀i,(F i).length+cs.length<2^20) ->
  (∀x6 x7 x8 x9,W (CallX G n) [1,2] k ⟨[],ZdA R (.lst (sz.map optV)) (.lst (fl.map Gu.v)) up as x5 x6 x7 x8 x9,endL as ((Zat col cs).foldl (addR sz fl) F) 0 μ,false⟩ Q) ->
  ForW (CallX G n) [1,2] (.v 7) b93_2 k Q false 14 (cs.map Ce.v) (ZdA R (.lst (sz.map optV)) (.lst (fl.map Gu.v)) up as x5 (some (.int col)) x7 x8 x9) (endL as F 0 μ):=by
 intro cs;induction cs with
 |nil=>intro col F x7 x8 x9 z z z h;exact ZaA rfl (h _ _ _ _)
 |cons d cs ih =>
  intro col F x7 x8 x9 hs hcol hl h;have h1:=(hs d (.head _)).1;have hup:=(hs d (.head _)).2;simp only[sSN,sSC] at hcol;refine forV rfl (by exact lb rfl) λQ' T=>?_
  have e1:d.v=.ins 461 [(0,.int d.w),(7,.int d.h),(8,.int d.d),(9,.lst d.its),(18,.int d.sp),(19,d.t.v),(20,.bool d.up)]:=rfl;have lu:=Zdd (F:=F) (x:=.int (ZaY sz fl (col,d))) (as:=as) (i:=0) (j:=col+d.sp-1) (μ:=μ) (has▸(cpM hcol h1));rw[Nat.zero_add] at lu;unfold b93_2;rw[e1];refine we 10 [3] rfl (?_:Y);refine ZaI (rngF λk=>wide (sz.getD k none)) (.rng (Zag (cp1 hcol hc) rfl) (Zag (cp2 hcol hc) rfl)) (by exact lb rfl) (by rw[Zcm];lia) (λv hv=>?_) ?_
  ·obtain⟨i,rfl,i1,i2⟩:=Zcl hv
   obtain⟨k,rfl⟩:=Int.eq_ofNat_of_zero_le (show 0<=i by lia);refine wr 3 (?_:Y);refine w_gi (rgM (f:=optV) (k:=k) none rfl (by lia) (by lia)) ?_;refine Zaa (ZbC (dn hn rfl)).cx rfl rfl rfl ?_;exact Zad rfl
  obtain⟨L1,m1,s1⟩:=ZdS (f:=λk=>wide (sz.getD k none)) (j:=d.sp) (k:=col);rw[m1];refine Zax .sum rfl rfl ?_;rw[s1];refine we 7 [3] rfl (?_:Y);refine ZaI (rngF λk=>(fl.getD k default).w) (.rng (Zag (Nat.succ_le_succ (cp1 hcol hc)) rfl) (Zag (cp2 hcol hc) rfl)) (by exact lb rfl) (by rw[Zcm];lia) (λv hv=>?_) ?_
  ·obtain⟨i,rfl,i1,i2⟩:=Zcl hv
   obtain⟨k,rfl⟩:=Int.eq_ofNat_of_zero_le (show 0<=i by lia);refine wr 2 (?_:Y);refine w_gi (rgM (f:=Gu.v) (k:=k) default rfl (by lia) (by lia)) ?_;refine wr 1 (?_:Y);exact Zad rfl
  obtain⟨L2,m2,s2⟩:=ZdS (f:=λk=>(fl.getD k default).w) (j:=d.sp-1) (k:=col+1);rw[show((col+1:Nat):Int)+((d.sp-1:Nat):Int)=(col:Int)+d.sp by lia,show((col+1:Nat):Int)=(col:Int)+1 by lia] at m2;rw[m2];refine Zax .sum rfl rfl ?_;rw[s2];refine wr 6 (?_:Y);refine w_gi (rgM (f:=V.ref) (k:=col+d.sp-1) 0 (sbC h1) (has▸(cpM hcol h1)) (ZaV (Nat.le_trans (cpM hcol h1) hc) rfl)) ?_;refine w_mg (.app lu.mem) ?_;refine wr 2 (?_:Y);have fin:W (CallX G n) [1,2] [.bin .Sub,.call 2,.pop,.l 8,.s 6] ⟨[.int d.al,.int (ZaZ (λk=>wide (sz.getD k none)) col d.sp+ZaZ (λk=>(fl.getD k default).w) (col+1) (d.sp-1)),.ref (as.getD (col+d.sp-1) 0),.bi "list.append"],ZdA R (.lst (sz.map optV)) (.lst (fl.map Gu.v)) up as x5 (some (.int col)) (some d.v) (some (.int ((col:Int)+d.sp))) (some (.int (ZaZ (λk=>wide (sz.getD k none)) col d.sp+ZaZ (λk=>(fl.getD k default).w) (col+1) (d.sp-1)))),endL as F 0 μ,false⟩ Q':=by
   refine Zao .sub ?_;refine ZaG (by have:=hl (col+d.sp-1);simp at this;exact(lt0 this)) lu ?_;refine wr 3 (?_:Y);rw[show(col:Int)+d.sp=((col+d.sp:Nat):Int) by lia];refine Zad (T.nx _ _ (ih (col+d.sp) (addR sz fl F (col,d)) _ _ _ (λq hq=>hs q (.tail _ hq)) (cpA hcol) (λi=>?_) h) _ .refl);have:=hl i;simp only[addR,updF];split
   ·simp at this⊢;exact(kja this)
   ·simp at this⊢;exact lw ‹_›
  have al:d.al=if up then d.h else d.w:=by rw[Ce.al,hup]
  rw[al,e1] at fin;cases up with
  |true =>
   refine wr 3 (?_:Y);exact fin
  |false =>
   refine wr 3 (?_:Y);exact fin
end
end
section
def minP(L:List Int):Prop:=L≠[]->(0:Int)∈L/\∀a∈L,0<=a
section
variable{G:Gl}{n:Nat}{μ:Led}
theorem fitRows{sz:List (Option Int)}{fl:List Gu}{Q:Post}{k:List IX}{R:V}{up:Bool}{as:List Addr}(hn:n+4<900)(hc:sz.length<=100)(hf:fl.length=sz.length+1)(has:as.length=sz.length):∀(rs:List (List Ce)) (F:Nat->List V) (m:Nat) (x5 x6 x7 x8 x9:Option V),(∀cs∈rs,Zas cs<=sz.length/\∀d∈cs,1<=d.sp/\d.up=up)->(∀i,(F i).length<=100*m)->m+rs.length<=1000 ->
  (∀x5 x6 x7 x8 x9,W (CallX G n) [1,2] k ⟨[],ZdA R (.lst (sz.map optV)) (.lst (fl.map Gu.v)) up as x5 x6 x7 x8 x9,endL as ((rs.flatMap (Zat 0)).foldl (addR sz fl) F) 0 μ,false⟩ Q) ->
  ForW (CallX G n) [1,2] (.v 5) b93_1 k Q false 14 (rs.map λcs=>V.lst (cs.map Ce.v)) (ZdA R (.lst (sz.map optV)) (.lst (fl.map Gu.v)) up as x5 x6 x7 x8 x9) (endL as F 0 μ):=by
 intro rs;induction rs with
 |nil=>intro F m x5 x6 x7 x8 x9 z z z h;exact ZaA rfl (h _ _ _ _ _)
 |cons cs rs ih =>
  intro F m x5 x6 x7 x8 x9 hs hl hm h;obtain⟨hsp,hcs⟩:=hs cs (.head _);have hlen:cs.length<=Zas cs:=ZbA λd hd=>(hcs d hd).1
  refine forV rfl (by exact lb rfl) λQ' T=>?_
  unfold b93_1;refine wr 3 (?_:Y);refine Zar .lst (.inl rfl) ?_;refine fitInner ‹_› hc hf has cs 0 F _ _ _ hcs (z0 hsp) (λi=>by have:=hl i;simp at hm;lia) λx6 x7 x8 x9=>?_
  refine Zad (T.nx _ _ (ih _ (m+1) _ _ _ _ _ (λc hc'=>hs c (.tail _ hc')) (λi=>?_) (by simp at hm;exact(kjb hm)) (by
   intro x5 x6 x7 x8 x9;have:=h x5 x6 x7 x8 x9;rw[List.flatMap_cons,List.foldl_append] at this;exact this)) _ .refl)
  have pl:∀{cs:List Ce}{col:Nat},(Zat col cs).length=cs.length:=by
   intro cs;induction cs with
   |nil=>intro;rfl
   |cons d r ih=>intro col;simp[pCN,pCC,ih]
  rw[foldR,length_append,length_map,length_map];have h1:=hl i;have h2:=List.length_filter_le (λp:Nat×Ce=>p.1+p.2.sp-1==i) (Zat 0 cs);rw[pl] at h2;lia
noncomputable def cV(o:Option Int):V:=match o with|none=>.none|some _=>.int 0
theorem law_fits{rows:List Rw}{sz:List (Option Int)}{fl:List Gu}{up:Bool}(hn:n+6<900)(hc:sz.length<=100)(hf:fl.length=sz.length+1)(hl:rows.length<=900)(hr:∀cs∈ZbE rows,Zas cs<=sz.length/\∀d∈cs,1<=d.sp/\d.up=up)
  (hm:∀k,k<sz.length->minP ((ent rows k).map (ZaY sz fl))/\(sz.getD k none=none↔(ent rows k).map (ZaY sz fl)=[])) (hel:∀k,(ent rows k).length<2^18):Zaj G n 767 [.lst (rows.map Rw.v),.lst (sz.map optV),.lst (fl.map Gu.v),.bool up] μ (.bool true):=by
 refine Zae f93 (dn hn rfl) rfl λQ qq=>?_
 have hx:=qq.x;have hr':=qq.r;have he:=qq.e;have last:∀{rr:V}{xs:Option V}{as:List Addr}{x5 x6 x7 x8 x9:Option V},as.length=sz.length->W (CallX G (n+1)) [1,2] [.l 4,.comp (.v 10) (.emit [.l 10,.lst 0,.cmp .Eq,.ite [.c .none] [.c (.bi "min"),.l 10,.call 1]]),.l 1,.comp (.v 10) (.emit [.l 10,.c .none,.cmp .Is,.ite [.c .none] [.c (.int 0)]]),.cmp .Eq,.ret]
   ⟨[],ZdA rr (.lst (sz.map optV)) (.lst (fl.map Gu.v)) up as x5 x6 x7 x8 x9,endL as (λi=>((ent rows i).map (ZaY sz fl)).map .int) 0 μ,false⟩ Q:=by
  intro rr xs as x5 x6 x7 x8 x9 has;refine w_l rfl ?_;refine Zbg .lst ?_;have key:∀(bs:List Addr) (k:Nat) (x10:Option V),k+bs.length=sz.length->Zb2 (CallX G (n+1)) [1,2] (.v 10) (.emit [.l 10,.lst 0,.cmp .Eq,.ite [.c .none] [.c (.bi "min"),.l 10,.call 1]]) false (λacc μ'=>W (CallX G (n+1)) [1,2] [.l 1,.comp (.v 10) (.emit [.l 10,.c .none,.cmp .Is,.ite [.c .none] [.c (.int 0)]]),.cmp .Eq,.ret] ⟨.lst acc::[],ZdA rr (.lst (sz.map optV)) (.lst (fl.map Gu.v)) up as x5 x6 x7 x8 x9,μ',false⟩ Q)
    (bs.map .ref) ((sz.take k).map cV) (endL bs (λi=>((ent rows i).map (ZaY sz fl)).map .int) k μ) [some rr,some (.lst (sz.map optV)),some (.lst (fl.map Gu.v)),some (.bool up),some (.lst (as.map .ref)),x5,x6,x7,x8,x9,x10,none,none,none]:=by
   intro bs;induction bs with
   |nil =>
    intro k x10 hk;have ek:sz.take k=sz:=List.take_of_length_le (by simp at hk;exact(Nat.le_of_eq hk.symm));refine ek.symm▸?_;show W _ _ _ _ _;refine w_l rfl ?_;refine ZaI (λv=>if v.isNone then .none else .int 0) .lst (by exact lb rfl) (by simp;exact Zag ‹_› rfl) (λv hv=>?_) ?_
    ·obtain⟨o,z,rfl⟩:=mem_map.mp hv
     refine w_l rfl (w_c (ZaE .isN ?_));cases o with
     |none=>exact ZaS (w_c (Zad rfl))
     |some i=>exact ZaT (w_c (Zad rfl))
    ·have e2:(sz.map optV).map (λv=>if v.isNone then V.none else .int 0)=sz.map cV:=by
      simp only[map_map];apply map_congr_left;intro o z;cases o<;>rfl
     refine e2.symm▸?_;refine ZaE (.eqL (ZbZ λv hv=>?_)) ?_
     ·obtain⟨o,z,rfl⟩:=mem_map.mp hv
      cases o<;>rfl
     ·exact Zak (hr' _ _ ⟨rfl,rfl⟩)
   |cons b bs ih =>
    intro k x10 hk;simp only[length_cons] at hk;refine⟨⟨_,.v (by exact lb rfl)⟩,λl2 hb=>?_⟩;obtain⟨z,rfl⟩:=hb.vEq;refine⟨by simp;lia,?_⟩
    (first|refine Za7 ?_|refine Zbe ?_|refine Zbd ?_);simp only[set_cons_succ,set_cons_zero]
    obtain⟨μ1,hμ⟩:=Zde (F:=λi=>((ent rows i).map (ZaY sz fl)).map V.int) (as:=bs) (i:=k+1);have e5:endL (b::bs) (λi=>((ent rows i).map (ZaY sz fl)).map V.int) k μ=μ1++(b,.list (((ent rows k).map (ZaY sz fl)).map .int))::μ:=by simp only[eLN,eLC];exact hμ _
    refine e5.symm▸?_;have hk1:=hm k (kjl hk);have hel1:=hel k;generalize hL:(ent rows k).map (ZaY sz fl)=L at *;have hLl:L.length<2^18:=by rw[<- hL];simpa using hel1
    have tk:(sz.take (k+1)).map cV=(sz.take k).map cV++[cV (sz.getD k none)]:=by
     rw[List.take_succ,map_append];congr 1;have:k<sz.length:=(kjl hk);simp[this]
    have nxt:∀x10,Zb2 (CallX G (n+1)) [1,2] (.v 10) (.emit [.l 10,.lst 0,.cmp .Eq,.ite [.c .none] [.c (.bi "min"),.l 10,.call 1]]) false (λacc μ'=>W (CallX G (n+1)) [1,2] [.l 1,.comp (.v 10) (.emit [.l 10,.c .none,.cmp .Is,.ite [.c .none] [.c (.int 0)]]),.cmp .Eq,.ret] ⟨.lst acc::[],ZdA rr (.lst (sz.map optV)) (.lst (fl.map Gu.v)) up as x5 x6 x7 x8 x9,μ',false⟩ Q)
      (bs.map .ref) ((sz.take k).map cV++[cV (sz.getD k none)]) (μ1++μ) [some rr,some (.lst (sz.map optV)),some (.lst (fl.map Gu.v)),some (.bool up),some (.lst (as.map .ref)),x5,x6,x7,x8,x9,x10,none,none,none]:=by
     intro x10;have:=ih (k+1) x10 (kjr hk);rw[tk,hμ] at this;exact this
    refine w_st (.frzL (μ1:=μ1) (l':=[_,_,_,_,_,x5,x6,x7,x8,x9,some (.lst (L.map .int)),none,none,none]) .id (.cons (.cons (.cons (.cons (.cons (.cons (.cons (.cons (.cons (.cons (.sm .here .id))))))))))) .id .refl) ?_;refine w_l rfl (Zaq (vs:=[]) rfl rfl (ZaE .lstE ?_));by_cases hne:L=[]
    ·have e6:(L.map V.int).isEmpty=true:=by rw[hne];rfl
     refine e6.symm▸?_;have e7:cV (sz.getD k none)=.none:=by rw[hk1.2.mpr hne];rfl
     rw[e7] at nxt;refine ZaS (w_c (Zad ?_));exact⟨_,.refl,_,rfl,rfl,nxt _⟩
    ·have e6:(L.map V.int).isEmpty=false:=by cases L with|nil=>exact absurd rfl hne|cons _ _=>rfl
     refine e6.symm▸?_;have e7:cV (sz.getD k none)=.int 0:=by
      cases q:sz.getD k none with
      |none=>exact absurd (hk1.2.mp q) hne
      |some i=>rfl
     rw[e7] at nxt;obtain⟨m1,m2⟩:=hk1.1 hne;refine ZaT (w_c (w_l rfl (Zax (.minL m1 m2) rfl rfl (Zad ?_))));exact⟨_,.refl,_,rfl,rfl,nxt _⟩
  have:=key as 0 none (by lia);simpa using this
 unfold c93;refine w_l rfl ?_;refine Zbg .lst ?_;have mk:∀(os:List (Option Int)) (as:List Addr) (x10:Option V),as.length+os.length=sz.length->Zb2 (CallX G (n+1)) [1,2] (.v 10) (.emit [.lst 0]) false (λacc μ'=>W (CallX G (n+1)) [1,2] (c93.drop 2) ⟨.lst acc::[],[some (.lst (rows.map Rw.v)),some (.lst (sz.map optV)),some (.lst (fl.map Gu.v)),some (.bool up),none,none,none,none,none,none,none,none,none,none],μ',false⟩ Q)
   (os.map optV) (as.map .ref) (endL as (λz=>[]) 0 μ) [some (.lst (rows.map Rw.v)),some (.lst (sz.map optV)),some (.lst (fl.map Gu.v)),some (.bool up),none,none,none,none,none,none,x10,none,none,none]:=by
  intro os;induction os with
  |nil =>
   intro as x10 ha;show W _ _ _ _ _;unfold c93;refine wr 2 (?_:Y);refine Zb3 isL id .lst (by exact lb rfl) (by simp;exact Zag ‹_› rfl) (λv hv=>?_) (λv hv z=>?_) ?_
   ·obtain⟨q,z,rfl⟩:=mem_map.mp hv
    refine w_c (w_l rfl (w_c ?_));cases q with
    |cells cs=>exact Zax .isLL rfl rfl (Zad rfl)
    |rule w h d=>exact Zax (.isCL (C:=375) (by decide)) rfl rfl (Zad rfl)
    |pen v=>exact Zax (.isCL (C:=439) (by decide)) rfl rfl (Zad rfl)
    |skip g=>exact Zax (.isCL (C:=418) (by decide)) rfl rfl (Zad rfl)
   ·simp only[set_cons_succ,set_cons_zero]
    exact w_l rfl (Zad rfl)
   ·rw[Ze0]
    refine Zar .lst (.inl rfl) ?_;have hcl:(ZbE rows).length<=rows.length:=List.length_filterMap_le _ _;refine fitRows (lw ‹_›) hc hf (by simpa using ha) (ZbE rows) (λz=>[]) 0 _ _ _ _ _ hr (by simp) (ZaV (Nat.le_trans (z0 hcl) hl) rfl) λx5 x6 x7 x8 x9=>?_
    have eF:((ZbE rows).flatMap (Zat 0)).foldl (addR sz fl) (λz=>[])=λi=>((ent rows i).map (ZaY sz fl)).map .int:=by
     funext i;rw[foldR,<- Ze2];rfl
    refine eF.symm▸?_;exact last (xs:=none) (by simpa using ha)
  |cons o os ih =>
   intro as x10 ha;simp only[length_cons] at ha;refine⟨⟨_,.v (by exact lb rfl)⟩,λl2 hb=>?_⟩;obtain⟨z,rfl⟩:=hb.vEq;refine⟨by simp;exact(Zay (kj2 ha hc) rfl),?_⟩
   (first|refine Za7 ?_|refine Zbe ?_|refine Zbd ?_);simp only[set_cons_succ,set_cons_zero]
   refine ZaH (vs:=[]) rfl rfl λa=>?_
   have:=ih (as++[a]) (some (optV o)) (by simp;exact(kjr ha));rw[ZcE,map_append] at this;exact Zad ⟨_,.refl,_,rfl,rfl,this⟩
 exact mk sz [] none (by simp)
end
end
section
noncomputable def q102:Str:=Str.ofString "_law_said"++(Str.ofString ".<locals>.")
noncomputable def Ze7:List Stmt:=[.Expr (.Call (.Name (Str.ofString "deed") ⟨664,8,664,12⟩) [] [] ⟨664,8,664,14⟩) ⟨664,8,664,14⟩]
theorem body102:ZbX (st 102)=[.Try Ze7 [.ExceptHandler (some (.Name (Str.ofString "BadAlign") ⟨665,11,665,19⟩)) none [.Return (some (.Constant (.int 1) 0 ⟨666,15,666,16⟩)) ⟨666,8,666,16⟩] ⟨665,4,666,16⟩,
  .ExceptHandler (some (.Name (Str.ofString "BadArgument") ⟨667,11,667,22⟩)) none [.Return (some (.Constant (.int 2) 0 ⟨668,15,668,16⟩)) ⟨668,8,668,16⟩] ⟨667,4,668,16⟩,
  .ExceptHandler (some (.Name (Str.ofString "Overflow") ⟨669,11,669,19⟩)) none [.Return (some (.Constant (.int 3) 0 ⟨670,15,670,16⟩)) ⟨670,8,670,16⟩] ⟨669,4,670,16⟩] [] [] ⟨663,4,670,16⟩,
  .Return (some (.Constant (.int 0) 0 ⟨671,11,671,12⟩)) ⟨671,4,671,12⟩]:=by rfl
theorem code102:xSs 60 (cxF (st 102) Zba false q102) Ze7=some [.l 0,.call 0,.pop]:=by kernel_rfl
theorem ok102(w:World):FnOK w 826 (st 102) [Str.ofString "deed"] [] false q102:=mkFn (nn:="_law_said") (q:="_law_said") (pm:=(S "law_rg0165_01" 1250)) (c:=(.ref 825)) (by kernel_rfl) (by kernel_rfl) (by kernel_rfl)
theorem kd102:(cxF (st 102) Zba false q102).kd (Str.ofString "BadAlign")=some .globalImplicit/\(cxF (st 102) Zba false q102).kd (Str.ofString "BadArgument")=some .globalImplicit/\(cxF (st 102) Zba false q102).kd (Str.ofString "Overflow")=some .globalImplicit:=⟨by kernel_rfl,by kernel_rfl,by kernel_rfl⟩
theorem gl102:Zba (Str.ofString "BadAlign")=some (.ref 80)/\Zba (Str.ofString "BadArgument")=some (.ref 56)/\Zba (Str.ofString "Overflow")=some (.ref 68):=⟨by kernel_rfl,by kernel_rfl,by kernel_rfl⟩
theorem exm102(w:World):∀C∈([80,56,68]:List Addr),∀D∈([80,56,68]:List Addr),exmOne (K0 w.params) (.ref C) (.ref D)=some (C==D):=by
 have h:(([80,56,68]:List Addr).all λC=>([80,56,68]:List Addr).all λD=>exmOne (K0 w.params) (.ref C) (.ref D)==some (C==D))=true:=by kernel_rfl
 intro C hC D hD;have h1:=all_eq_true.mp h C hC;have h2:=all_eq_true.mp h1 D hD;exact beq_iff_eq.mp h2
section
variable{G:Gl}{n:Nat}{μ:Led}
theorem Zeq{C:Addr}{k:Int}{lam:V}(hn:n+2<900)(hC:(C,k)∈([(80,1),(56,2),(68,3)]:List (Addr×Int)))(hcl:lam.clb=true)(h:CallX G (n+1) lam [] μ (λz z=>False) (λD=>D=C)) :
  CodeOK G n 826 [lam] μ (λv μ'=>v=.int k/\μ'=[]) (λz=>False):=by
 refine ZfT (dn hn rfl) (ok102 G.w) (Zev G) rfl λX s' Cx M=>?_
 have M':=M.pad 4;rw[body102];have hl:l0F (st 102) [Str.ofString "deed"] ([lam]++[])++List.replicate 4 none=[some lam,none,none,none,none]:=by
  have:l0F (st 102) [Str.ofString "deed"] ([lam]++[])=(([some 0]:List (Option Nat)).map λo=>o.bind λi=>([lam]++[])[i]?):=by
   have ix:(own0 (Zac (st 102))).map (λx=>[Str.ofString "deed"].findIdx? (·==x))=[some 0]:=by kernel_rfl
   rw[<- ix];unfold l0F;rw[map_map];apply map_congr_left;intro x z;exact Zc0 rfl
  rw[this];rfl
 rw[hl] at M';have body:Za5 G X (ZbN (Zac (st 102))) ⟨λz=>False,λz z=>False,λD=>D=C⟩ (execs Ze7 X.env) s' :=
  (sAll (G:=G) (N:=n+1) (CK:=CallX G (n+1)) (λf vs μ R E h=>h) 60).2 code102 Cx rfl (W.un (w_l rfl (Zab h (vs:=[]) rfl rfl hcl (λz z q=>q.elim) λD q=>q))) M'
 refine wpAny_execs_cons (wpAny_Try_except (wpAny_mono body (λf s₁ q=>?_) λx s₁ q=>?_))
 ·cases f with
  |next=>obtain⟨z,z,q⟩:=q;exact q.elim
  |ret v=>obtain⟨z,z,z,z,z,z,z,q,z⟩:=q;exact q.elim
  |_=>exact q.elim
 ·refine noteX rfl Cx.O q λe D fz s₂ he hD I H o1 o2=>?_
  subst he;subst hD;refine setFl Cx.O I H.n λh' I' H'=>?_
  refine wpAny_mono (Q:=OutS G X (ZbN (Zac (st 102))) ⟨λz=>False,λv μ'=>v=.int k/\μ'=[],λz=>False⟩) (E:=Exc G X λz=>False) ?_ (λf s q=>?_) λz z q=>q
  rotate_left
  ·cases f with
   |next=>obtain⟨z,z,q⟩:=q;exact q.elim
   |ret v=>exact q
   |_=>exact q.elim
  simp only[mem_cons,List.not_mem_nil,or_false,Prod.mk.injEq] at hC;have hx:=exm102 G.w;refine Zd1 (s:={ s₂ with heap:=h' }) (D:=80) (b:=D==80) Cx.O Cx.EO kd102.1 gl102.1 (by rfl) (hx D (by rcases hC with⟨rfl,_⟩|⟨rfl,_⟩|⟨rfl,_⟩<;>decide) 80 (by decide)) I' H' o1 o2 (λhb=>?_) (λha1=>?_)
  ·rcases hC with⟨rfl,rfl⟩|⟨rfl,rfl⟩|⟨rfl,rfl⟩
   ·exact⟨rfl,rfl⟩
   ·exact absurd hb (by decide)
   ·exact absurd hb (by decide)
  refine Zd1 (s:={ s₂ with heap:=h' }) (D:=56) (b:=D==56) Cx.O Cx.EO kd102.2.1 gl102.2.1 (by rfl) (hx D (by rcases hC with⟨rfl,_⟩|⟨rfl,_⟩|⟨rfl,_⟩<;>decide) 56 (by decide)) I' H' o1 o2 (λhb=>?_) (λha2=>?_)
  ·rcases hC with⟨rfl,rfl⟩|⟨rfl,rfl⟩|⟨rfl,rfl⟩
   ·exact absurd hb (by decide)
   ·exact⟨rfl,rfl⟩
   ·exact absurd hb (by decide)
  refine Zd1 (s:={ s₂ with heap:=h' }) (D:=68) (b:=D==68) Cx.O Cx.EO kd102.2.2 gl102.2.2 (by rfl) (hx D (by rcases hC with⟨rfl,_⟩|⟨rfl,_⟩|⟨rfl,_⟩<;>decide) 68 (by decide)) I' H' o1 o2 (λhb=>?_) (λha3=>?_)
  ·rcases hC with⟨rfl,rfl⟩|⟨rfl,rfl⟩|⟨rfl,rfl⟩
   ·exact absurd hb (by decide)
   ·exact absurd hb (by decide)
   ·exact⟨rfl,rfl⟩
  ·rcases hC with⟨rfl,rfl⟩|⟨rfl,rfl⟩|⟨rfl,rfl⟩
   ·exact absurd ha1 (by decide)
   ·exact absurd ha2 (by decide)
   ·exact absurd ha3 (by decide)
end
end
noncomputable def lamsN:Nat->List IX->List LamI
 |0,_=>[]
 |n+1,c=>c.flatMap λi=>match i with
  |.lam I _=>[I]
  |.ite a b=>lamsN n a++lamsN n b
  |_=>[]
noncomputable def q104:Str:=Str.ofString "_law_refused"++(Str.ofString ".<locals>.")
def raw104:Option (List IX):=xSs 60 (cxF (st 104) Zba true q104) (ZbX (st 104))
def L104(k:Nat):LamI:=((raw104.map (lamsN 5)).getD []).getD k default
def c104:List IX:=[.c (.bi "len"),.l 1,.call 1,.s 7,.l 0,.c (.ref 461),.c (.int 1),.c (.int 1),.c (.int 0),.lst 0,.l 7,.c (.int 1),.bin .Add,.c (.ref 313),.call 0,.l 3,.call 7,.lst 1,.lst 1,.bin .Add,.s 6,.lam (L104 0) [2,7,6],.lam (L104 1) [3,2,1,6],.lam (L104 2) [2,7],.lam (L104 3) [3,2,1],.lam (L104 4) [3,2,1,0],.lst 5,.s 4,.lam (L104 5) [2,0,7],.lam (L104 6) [2,0,7],.lam (L104 7) [2,0,7],.lam (L104 8) [2,0],.lam (L104 9) [3,2,1,0],.lam (L104 10) [3,2,1,0],.lam (L104 11) [3,2,1,0],.lst 7,.s 5,.l 4,.comp (.v 8) (.emit [.c (.ref 826),.l 8,.call 1]),.c (.int 1),.lst 1,.c (.int 5),.bin .Mult,.cmp .Eq,.ite [.l 5,.comp (.v 8) (.emit [.c (.ref 826),.l 8,.call 1]),.c (.int 2),.lst 1,.c (.int 7),.bin .Mult,.cmp .Eq] [.c (.bool false)],.ret]
theorem code104:raw104=some c104:=by kernel_rfl
noncomputable def q105:Str:=Str.ofString "_law_round"++(Str.ofString ".<locals>.")
def raw105:Option (List IX):=xSs 60 (cxF (st 105) Zba true q105) (ZbX (st 105))
def L105:LamI:=((raw105.map (lamsN 5)).getD []).getD 0 default
def c105:List IX:=[.c (.ref 729),.l 0,.c (.int 2),.call 2,.c (.int 1),.cmp .Eq,.c (.int 1),.c (.ref 729),.l 0,.c (.int 4),.call 2,.bin .Add,.tup 2,.unp 2,.s 18,.s 2,.c (.typ "range"),.l 2,.c (.int 1),.bin .Add,.call 1,.comp (.v 19) (.emit [.c (.ref 736),.l 0,.call 1]),.s 17,.c (.ref 755),.l 0,.l 2,.l 18,.call 3,.s 15,.c (.ref 831),.l 15,.call 1,.s 3,.c (.ref 661),.l 15,.l 2,.l 17,.call 3,.s 16,.c (.bi "len"),.l 16,.call 1,.l 2,.cmp .NotEq,.ite [.c (.bool false),.ret] [],.l 17,.c (.int 0),.gi,.lst 1,.c (.typ "range"),.l 2,.call 1,.comp (.v 19) (.emit [.l 16,.l 19,.gi,.c .none,.cmp .Is,.ite [.c (.ref 250),.call 0] [.l 17,.l 19,.c (.int 1),.bin .Add,.gi]]),.bin .Add,.s 4,.c (.ref 767),.l 15,.l 16,.l 4,.l 18,.call 4,.not,.ite [.c (.bool false),.ret] [],.c (.bi "sum"),.l 16,.comp (.v 19) (.emit [.c (.ref 762),.l 19,.call 1]),.call 1,.c (.bi "sum"),.l 4,.comp (.v 19) (.emit [.l 19,.at 0]),.call 1,.bin .Add,.s 5,.c (.typ "range"),.c (.int 4),.call 1,.comp (.v 19) (.emit [.c (.bi "sum"),.l 4,.comp (.v 20) (.cond [.l 20,.at 2,.l 19,.cmp .Eq] (.emit [.l 20,.at 1])),.call 1]),.s 6,.c (.typ "range"),.c (.int 4),.call 1,.comp (.v 19) (.emit [.c (.bi "sum"),.l 4,.comp (.v 20) (.cond [.l 20,.at 4,.l 19,.cmp .Eq] (.emit [.l 20,.at 3])),.call 1]),.s 7,.c (.ref 819),.l 0,.l 5,.l 7,.c (.int 0),.gi,.call 3,.unp 2,.s 14,.s 13,.l 14,.c (.int 1),.cmp .Eq,.ite [.l 5,.l 13,.bin .Add] [.l 13],.s 8,.l 1,.ite [.c (.ref 836),.l 15,.l 16,.l 17,.l 18,.call 4,.not] [.c (.bool false)],.ite [.c (.bool false),.ret] [],.c (.bi "max"),.c (.bi "abs"),.l 8,.call 1,.c (.bi "abs"),.l 13,.call 1,.call 2,.c (.int 2),.c (.int 30),.bin .Pow,.cmp .GtE,.ite [.c (.ref 826),.lam L105 [18,17,16,15,14,13],.call 1,.c (.int 3),.cmp .Eq,.ite [.c (.ref 831),.l 15,.call 1,.l 3,.cmp .Eq] [.c (.bool false)],.ret] [],.c (.ref 779),.l 8,.l 5,.bin .Sub,.l 6,.l 7,.call 3,.s 9,.c (.ref 812),.l 15,.l 16,.l 4,.l 8,.l 9,.l 18,.call 6,.s 10,.c (.ref 715),.l 15,.l 16,.l 17,.l 14,.l 13,.l 18,.call 6,.unp 2,.s 11,.s 12,.c (.ref 491),.l 11,.call 1,.l 10,.cmp .Eq,.ite [.l 12,.l 9,.c (.int 3),.gi,.cmp .Eq,.ite [.c (.ref 831),.l 15,.call 1,.l 3,.cmp .Eq] [.c (.bool false)]] [.c (.bool false)],.ret]
theorem code105:raw105=some c105:=by kernel_rfl
theorem ZdE{w:World}{h:Heap}{a P:Addr}{vs:List Value}{file:Str}{tf tg tt:Tok}{flags text:Int}{inF:Bool}(X:(K0 w.params).In h)(e:(K0 w.params).lookup a=some ⟨.type "code",none,.fields vs.toArray,#[]⟩)(h1:vs.toArray[11]?=some (.ref P))(h2:vs.toArray.getD 11 .none=.ref P)(h3:vs.toArray.getD 18 .none=.str file tf)
  (h4:vs.toArray.getD 7 .none=.int flags tg) (h5:vs.toArray.getD 9 .none=.bool inF) (h6:vs.toArray.getD 10 .none=.int text tt) (h7:a≠P):CodeHd h a P :=
 ⟨_,vs.toArray,file,tf,flags,tg,inF,text,tt,X _ _ e,rfl,rfl,h1,h2,h3,h4,h5,h6,h7⟩
theorem hd104(w:World):∀h:Heap,(K0 w.params).In h->CodeHd h 835 833:=λh X=>ZdE X (vs:=[S "_law_refused" 1437,S "_law_refused" 1438,S "/claim/cut.py" 1439,I 674 0,I 4 0,I 0 0,I 0 0,I 3 0,.ref 832,.bool true,I 181 0,.ref 833,.none,.none,.none,.ref 834,I 1440 0,I 674 0,S "/claim/cut.py" 1441]) (by kernel_rfl) rfl rfl rfl rfl rfl rfl (by decide)
theorem hd105(w:World):∀h:Heap,(K0 w.params).In h->CodeHd h 840 838:=λh X=>ZdE X (vs:=[S "_law_round" 1443,S "_law_round" 1444,S "/claim/cut.py" 1445,I 692 0,I 2 0,I 0 0,I 0 0,I 3 0,.ref 837,.bool true,I 181 0,.ref 838,.none,.none,.none,.ref 839,I 1446 0,I 692 0,S "/claim/cut.py" 1447]) (by kernel_rfl) rfl rfl rfl rfl rfl rfl (by decide)
noncomputable def n104:List Str:=[Str.ofString "rows",Str.ofString "sizes",Str.ofString "skips",Str.ofString "upright"]
theorem f104(w:World):Fx w 836 (st 104) n104 [] true q104 c104 [0,1,2,3,6,7] [some 0,some 1,some 2,some 3,none,none,none,none] :=
 ⟨mkFnT (nn:="_law_refused") (q:="_law_refused") (pm:=(S "law_rg0165_01" 1250)) (a:=835) (P:=833) (by kernel_rfl) (by kernel_rfl) (by kernel_rfl) (by decide) (hd104 w) (by kernel_rfl),code104,by kernel_rfl,by kernel_rfl⟩
noncomputable def n105:List Str:=[Str.ofString "box",Str.ofString "is_first"]
theorem f105(w:World):Fx w 841 (st 105) n105 [] true q105 c105 [0,4,13,14,15,16,17,18] [some 0,some 1,none,none,none,none,none,none,none,none,none,none,none,none,none,none,none,none,none] :=
 ⟨mkFnT (nn:="_law_round") (q:="_law_round") (pm:=(S "law_rg0165_01" 1250)) (a:=840) (P:=838) (by kernel_rfl) (by kernel_rfl) (by kernel_rfl) (by decide) (hd105 w) (by kernel_rfl),code105,by kernel_rfl,by kernel_rfl⟩
structure LamF(I:LamI)(code:List IX)(k:Nat):Prop where
 ch:ZfE I=true
 cd:xE 60 (cxL I Zba) I.body=some code
 fr:(frees I.scope).length=k
theorem lg0:LamF (L104 0) [.c (.ref 661),.l 2,.l 1,.l 0,.call 3] 3:=⟨by kernel_rfl,by kernel_rfl,by kernel_rfl⟩
theorem lg1:LamF (L104 1) [.c (.ref 715),.l 3,.l 2,.l 1,.c (.int 1),.c (.int 0),.l 0,.call 6] 4:=⟨by kernel_rfl,by kernel_rfl,by kernel_rfl⟩
theorem lg2:LamF (L104 2) [.c (.ref 661),.c (.ref 396),.c (.int 1),.c (.int 1),.call 2,.lst 1,.lst 1,.l 1,.l 0,.call 3] 2:=⟨by kernel_rfl,by kernel_rfl,by kernel_rfl⟩
theorem lg3:LamF (L104 3) [.c (.ref 715),.c (.ref 439),.c (.int 1),.call 1,.lst 1,.lst 1,.l 2,.l 1,.c (.int 1),.c (.int 0),.l 0,.call 6] 3:=⟨by kernel_rfl,by kernel_rfl,by kernel_rfl⟩
theorem lg4:LamF (L104 4) [.c (.ref 715),.l 3,.l 2,.l 1,.c (.int 1),.c (.int 0),.l 0,.not,.call 6] 4:=⟨by kernel_rfl,by kernel_rfl,by kernel_rfl⟩
theorem lg5:LamF (L104 5) [.c (.ref 661),.l 1,.l 2,.l 0,.c (.int 1),.slc true false,.call 3] 3:=⟨by kernel_rfl,by kernel_rfl,by kernel_rfl⟩
theorem lg6:LamF (L104 6) [.c (.ref 661),.l 1,.l 2,.c (.int 1),.bin .Add,.l 0,.call 3] 3:=⟨by kernel_rfl,by kernel_rfl,by kernel_rfl⟩
theorem lg7:LamF (L104 7) [.c (.ref 661),.l 1,.l 2,.c (.int 5),.lst 1,.l 0,.c (.int 1),.slc true false,.bin .Add,.call 3] 3:=⟨by kernel_rfl,by kernel_rfl,by kernel_rfl⟩
theorem lg8:LamF (L104 8) [.c (.ref 661),.l 1,.c (.bool true),.l 0,.c (.int 2),.slc false true,.call 3] 2:=⟨by kernel_rfl,by kernel_rfl,by kernel_rfl⟩
theorem lg9:LamF (L104 9) [.c (.ref 715),.l 3,.l 2,.l 1,.c (.int 1),.slc true false,.c (.int 1),.c (.int 0),.l 0,.call 6] 4:=⟨by kernel_rfl,by kernel_rfl,by kernel_rfl⟩
theorem lg10:LamF (L104 10) [.c (.ref 715),.l 3,.l 2,.l 1,.c (.int 2),.c (.int 0),.l 0,.call 6] 4:=⟨by kernel_rfl,by kernel_rfl,by kernel_rfl⟩
theorem lg11:LamF (L104 11) [.c (.ref 715),.l 3,.l 2,.l 1,.c (.int 0),.c (.bool true),.l 0,.call 6] 4:=⟨by kernel_rfl,by kernel_rfl,by kernel_rfl⟩
theorem lgR:LamF L105 [.c (.ref 715),.l 3,.l 2,.l 1,.l 4,.l 5,.l 0,.call 6] 6:=⟨by kernel_rfl,by kernel_rfl,by kernel_rfl⟩
theorem lamR{G:Gl}{n k:Nat}{μ:Led}{I:LamI}{code:List IX}{vs:List V}{C:Addr}(g:LamF I code k)(hn:n+1<900)(hW:∀Q:Post,(∀D,D=C->Q.ex D)->W (CallX G (n+1)) (List.range k) code ⟨[],vs.map some,μ,true⟩ Q):CallX G n (.lam I vs) [] μ (λz z=>False) (λD=>D=C) :=
 (lamCall hn g.ch (Zev G) g.cd (by rw[g.fr];exact(hW _ λD h=>h).un)).x
section
section
variable{G:Gl}{n:Nat}{μ:Led}
theorem Zej{C:Addr}{kk:Int}{cel:List Nat}{k:List IX}{r:List V}{l:List (Option V)}{cz:Bool}{Q:Post}{a:V}{items:List V}(hn:n+2<900)(hC:(C,kk)∈([(80,1),(56,2),(68,3)]:List (Addr×Int)))(hl:8<l.length)(hlen:(a::items).length<2^20)
  (hit:∀v∈a::items,v.clb=true/\∀μ,CallX G (n+1) v [] μ (λz z=>False) (λD=>D=C)) (h:W (CallX G n) cel k ⟨.lst ((a::items).map λz=>.int kk)::r,l,[],cz⟩ Q) :
  W (CallX G n) cel (.comp (.v 8) (.emit [.c (.ref 826),.l 8,.call 1])::k) ⟨.lst (a::items)::r,l,μ,cz⟩ Q:=by
 refine Zbg .lst ?_;have key:∀(rest done:List V) (μ:Led) (l':List (Option V)),a::items=done++rest->(rest=[]->μ=[])->l'.length=l.length->Zb2 (CallX G n) cel (.v 8) (.emit [.c (.ref 826),.l 8,.call 1]) cz (λacc μ'=>W (CallX G n) cel k ⟨.lst acc::r,l,μ',cz⟩ Q) rest (done.map λz=>.int kk) μ l':=by
  intro rest;induction rest with
  |nil =>
   intro done μ l' e hμ z;rw[append_nil] at e;have:=hμ rfl;subst this;rw[<- e];exact h
  |cons v rest ih =>
   intro done μ l' e z hl';refine⟨⟨_,.v (hl'▸hl)⟩,λl2 hb=>?_⟩;obtain⟨z,rfl⟩:=hb.vEq;refine⟨by rw[length_map];rw[e] at hlen;simp at hlen;exact(lt0 hlen),?_⟩;first|refine Za7 ?_|refine Zbe ?_|refine Zbd ?_
   obtain⟨hv1,hv2⟩:=hit v (by rw[e];simp);refine w_c (w_l (v:=v) (by rw[List.getElem?_set_self ‹_›]) ?_);refine Zab (Zeq hn hC hv1 (hv2 μ)).cx (vs:=[v]) rfl rfl rfl (λu μ' q=>?_) (λz q=>q.elim);obtain⟨rfl,rfl⟩:=q;refine Zad ⟨_,.refl,_,rfl,rfl,?_⟩;have:=ih (done++[v]) [] (l'.set 8 (some v)) (by rw[e];simp) (λz=>rfl) (by simp[hl']);rw[map_append] at this;exact this
 exact key (a::items) [] μ l rfl (by simp) rfl
noncomputable def Ze1(c:Nat)(up:Bool):Ce:=⟨1,1,0,[],c+1,Tot.zero,up⟩
theorem ZdU{rows:List Rw}{c:Nat}{gs:List Gu}{sz:List (Option Int)}{up:Bool}{c1:Ce}{cs1:List Ce}{rest:List Rw}(hn:n+40<900)(h1:1<=c)(h2:c<=4)(hg:gs.length=c+1)(hsz:sz.length=c)(hok:∀up,Fin.Ok ⟨sz,gs,up,1,0⟩)(hgoal:Dm (Fin.own ⟨sz,gs,up,1,0⟩))(hr:∀q∈rows,q.ok up c)(hl:rows.length<=100)(hf:rows=.cells (c1::cs1)::rest) :
  CodeOK G n 836 [.lst (rows.map Rw.v),.lst (sz.map optV),.lst (gs.map Gu.v),.bool up] μ (λv μ'=>v=.bool true/\μ'=[]) (λz=>False):=by
 have go:∀u,(Fin.goal ⟨sz,gs,u,1,0⟩)=Fin.own ⟨sz,gs,up,1,0⟩:=λu=>by
  show(if(1:Int)=0 then(0:Int) else _+0)=_;rw[if_neg (by decide),Int.add_zero];rfl
 have gd:∀u,Dm (Fin.goal ⟨sz,gs,u,1,0⟩):=λu=>by rw[go];exact hgoal
 have hrs:∀q∈rows,q.ok up sz.length:=by rw[hsz];exact hr
 have c1ok:=hr _ (by rw[hf];exact .head _);have long:rows.map Rw.v++[.lst [(Ze1 c up).v]]=rows.map Rw.v++[.lst ([Ze1 c up].map Ce.v)]:=rfl;have many:∀n μ,n+4<900->ZaQ G n 656 [.lst ([Ze1 c up].map Ce.v),.int c] μ 80:=λn μ hn=>ZdT hn (by simp) (by simp[sSN,sSC,Ze1])
 have tl:(gs.map Gu.v).length=c+1:=by simpa using hg
 have b0:∀μ,CallX G (n+2) (.lam (L104 0) [.lst (gs.map Gu.v),.int c,.lst (rows.map Rw.v++[.lst [(Ze1 c up).v]])]) [] μ (λz z=>False) (λD=>D=80):=λμ=>lamR lg0 (d1 (kja hn) rfl) λQ hQ=>by
  refine wf 4 (?_:Y);exact Zab (widBad (dn (b:=13) hn rfl) h1 (ZaV ‹_› rfl) hg hr (ZaV ‹_› rfl) (λμ=>many _ μ (dn (b:=8) hn rfl))).cx (vs:=[_,_,_]) rfl rfl rfl (λz z q=>q.elim) hQ
 have b1:∀μ,CallX G (n+2) (.lam (L104 1) [.bool up,.lst (gs.map Gu.v),.lst (sz.map optV),.lst (rows.map Rw.v++[.lst [(Ze1 c up).v]])]) [] μ (λz z=>False) (λD=>D=80):=λμ=>lamR lg1 (d1 (kja hn) rfl) λQ hQ=>by
  refine wf 7 (?_:Y);exact Zab (finBad (hok up) (dn (b:=21) hn rfl) (by decide:Dm 0) (gd up) hrs (Zag ‹_› rfl) ⟨_,rfl,λμ=>by show ZaQ _ _ _ [_,.int (sz.length:Int)] _ _;rw[hsz];exact many _ μ (dn (b:=8) hn rfl)⟩).cx (vs:=[_,_,_,_,_,_]) rfl rfl rfl (λz z q=>q.elim) hQ
 have b2:∀μ,CallX G (n+2) (.lam (L104 2) [.lst (gs.map Gu.v),.int c]) [] μ (λz z=>False) (λD=>D=80):=λμ=>lamR lg2 (d1 (kja hn) rfl) λQ hQ=>by
  refine wf 4 (?_:Y);refine Zaa (ZfG (dn (b:=11) hn rfl) (by decide) (by decide) (by decide)) rfl rfl rfl ?_;refine Zaq (vs:=[_]) rfl rfl (Zaq (vs:=[_]) rfl rfl ?_);refine wr 2 (?_:Y);exact Zab (widBad (rows:=[]) (up:=up) (dn (b:=13) hn rfl) h1 (ZaV ‹_› rfl) hg (by simp) (by simp) (λμ=>Zcb (dn (b:=8) hn rfl) (.inl ⟨_,_,rfl⟩))).cx (vs:=[_,_,_]) rfl rfl rfl (λz z q=>q.elim) hQ
 have b3:∀μ,CallX G (n+2) (.lam (L104 3) [.bool up,.lst (gs.map Gu.v),.lst (sz.map optV)]) [] μ (λz z=>False) (λD=>D=80):=λμ=>lamR lg3 (d1 (kja hn) rfl) λQ hQ=>by
  refine wf 3 (?_:Y);refine Zaa (penNew (dn (b:=11) hn rfl) ⟨by decide,by decide⟩) rfl rfl rfl ?_;refine Zaq (vs:=[_]) rfl rfl (Zaq (vs:=[_]) rfl rfl ?_);refine wr 5 (?_:Y);exact Zab (finBad (rows:=[]) (hok up) (dn (b:=21) hn rfl) (by decide:Dm 0) (gd up) (by simp) (by simp) ⟨_,rfl,λμ=>Zcb (dn (b:=8) hn rfl) (.inr ⟨_,rfl⟩)⟩).cx (vs:=[_,_,_,_,_,_]) rfl rfl rfl (λz z q=>q.elim) hQ
 have b4:∀μ,CallX G (n+2) (.lam (L104 4) [.bool up,.lst (gs.map Gu.v),.lst (sz.map optV),.lst (rows.map Rw.v)]) [] μ (λz z=>False) (λD=>D=80):=λμ=>lamR lg4 (d1 (kja hn) rfl) λQ hQ=>by
  refine wf 8 (?_:Y);rw[hf];exact Zab (finOther (f:=⟨sz,gs,!up,1,0⟩) (c:=c1) (cs:=cs1) (rest:=rest.map Rw.v) (hok (!up)) (dn (b:=21) hn rfl) (by decide:Dm 0) (gd (!up)) (by show Zas _<=sz.length;rw[hsz];exact c1ok.1) (by have:=ZbA λd hd=>(c1ok.2 d hd).2.2.1;have:=c1ok.1;lia) (by show c1.up≠!up;rw[(c1ok.2 c1 (.head _)).2.2.2];cases up<;>decide)).cx (vs:=[_,_,_,_,_,_]) rfl rfl rfl (λz z q=>q.elim) hQ
 have w5:∀μ,CallX G (n+2) (.lam (L104 5) [.lst (gs.map Gu.v),.lst (rows.map Rw.v),.int c]) [] μ (λz z=>False) (λD=>D=56):=λμ=>lamR lg5 (d1 (kja hn) rfl) λQ hQ=>by
  refine wf 5 (?_:Y);refine Zd7 (by decide) (by decide) (by simp;exact(Zag (fl1 hg h2) rfl)) ?_;exact Zab (Zch (dn (b:=13) hn rfl) (λμ=>Zbj (dn (b:=8) hn rfl) h1 (ZaV ‹_› rfl) (by simp;exact(by rw[hg];exact Zag h2 rfl)) (by simp;lia))).cx (vs:=[_,_,_]) rfl rfl rfl (λz z q=>q.elim) hQ
 have w6:∀μ,CallX G (n+2) (.lam (L104 6) [.lst (gs.map Gu.v),.lst (rows.map Rw.v),.int c]) [] μ (λz z=>False) (λD=>D=56):=λμ=>lamR lg6 (d1 (kja hn) rfl) λQ hQ=>by
  refine wf 6 (?_:Y);rw[show(c:Int)+1=((c+1:Nat):Int) by lia];exact Zab (Zch (dn (b:=13) hn rfl) (λμ=>Zbj (dn (b:=8) hn rfl) (lb rfl) (Zag ‹_› rfl) (by simp;exact(Zag (fl1 hg h2) rfl)) (by simp;lia))).cx (vs:=[_,_,_]) rfl rfl rfl (λz z q=>q.elim) hQ
 have w7:∀μ,CallX G (n+2) (.lam (L104 7) [.lst (gs.map Gu.v),.lst (rows.map Rw.v),.int c]) [] μ (λz z=>False) (λD=>D=56):=λμ=>lamR lg7 (d1 (kja hn) rfl) λQ hQ=>by
  refine wf 4 (?_:Y);refine Zaq (vs:=[_]) rfl rfl ?_;refine wr 2 (?_:Y);refine Zd7 (by decide) (by decide) (by simp;exact(Zag (fl1 hg h2) rfl)) ?_;refine Zao (.addL (by simp;lia)) ?_;exact Zab (Zch (dn (b:=13) hn rfl) (λμ=>ZcO (dn (b:=8) hn rfl) h1 (ZaV ‹_› rfl) (by simp;exact(gl1 hg)))).cx (vs:=[_,_,_]) rfl rfl rfl (λz z q=>q.elim) hQ
 have w8:∀μ,CallX G (n+2) (.lam (L104 8) [.lst (gs.map Gu.v),.lst (rows.map Rw.v)]) [] μ (λz z=>False) (λD=>D=56):=λμ=>lamR lg8 (d1 (kja hn) rfl) λQ hQ=>by
  refine wf 5 (?_:Y);refine w_slcT (by decide) (by decide) (by simp;exact(Zag (fl1 hg h2) rfl)) ?_;exact Zab (Zch (dn (b:=13) hn rfl) (λμ=>ZcG (dn (b:=8) hn rfl))).cx (vs:=[_,_,_]) rfl rfl rfl (λz z q=>q.elim) hQ
 have w9:∀μ,CallX G (n+2) (.lam (L104 9) [.bool up,.lst (gs.map Gu.v),.lst (sz.map optV),.lst (rows.map Rw.v)]) [] μ (λz z=>False) (λD=>D=56):=λμ=>lamR lg9 (d1 (kja hn) rfl) λQ hQ=>by
  refine wf 5 (?_:Y);refine Zd7 (by decide) (by decide) (by simp;exact(Zag (fl1 hg h2) rfl)) ?_;refine wr 3 (?_:Y);exact Zab (Zcn (dn (b:=21) hn rfl) (λμ=>ZeN (hok up) (dn (b:=18) hn rfl) (by show _=sz.length;simp;exact(gl2 hg hsz)))).cx (vs:=[_,_,_,_,_,_]) rfl rfl rfl (λz z q=>q.elim) hQ
 have w10:∀μ,CallX G (n+2) (.lam (L104 10) [.bool up,.lst (gs.map Gu.v),.lst (sz.map optV),.lst (rows.map Rw.v)]) [] μ (λz z=>False) (λD=>D=56):=λμ=>lamR lg10 (d1 (kja hn) rfl) λQ hQ=>by
  refine wf 7 (?_:Y);exact Zab (Zcn (dn (b:=21) hn rfl) (λμ=>Zfl (hok up) (dn (b:=18) hn rfl))).cx (vs:=[_,_,_,_,_,_]) rfl rfl rfl (λz z q=>q.elim) hQ
 have w11:∀μ,CallX G (n+2) (.lam (L104 11) [.bool up,.lst (gs.map Gu.v),.lst (sz.map optV),.lst (rows.map Rw.v)]) [] μ (λz z=>False) (λD=>D=56):=λμ=>lamR lg11 (d1 (kja hn) rfl) λQ hQ=>by
  refine wf 7 (?_:Y);exact Zab (Zcn (dn (b:=21) hn rfl) (λμ=>Zfm (hok up) (dn (b:=18) hn rfl))).cx (vs:=[_,_,_,_,_,_]) rfl rfl rfl (λz z q=>q.elim) hQ
 refine Zae f104 (dn hn rfl) rfl λQ qq=>?_
 have hx:=qq.x;have hr':=qq.r;have he:=qq.e;unfold c104;refine wf 2 (?_:Y);refine Zax (.len (by simp;exact(Zag (hsz▸h2) rfl))) rfl rfl ?_;rw[length_map,hsz];refine wr 6 (?_:Y);refine Zaq (vs:=[]) rfl rfl ?_;refine wr 4 (?_:Y);refine Zab (Zd8 (d1 hn rfl)) (vs:=[]) rfl rfl rfl (λv μ' q=>?_) (λz q=>q.elim);obtain⟨t,b,cc,dx,rfl,rfl⟩:=q;refine w_st (Zew (stk':=[Tot.zero.v,_,_,_,_,_,_,_]) (.cons .here .id) .id) ?_;refine w_l rfl ?_;rw[show(c:Int)+1=((c+1:Nat):Int) by lia];refine Zaa (Zez (d1 hn rfl) (by decide) (by decide) (by decide) (by lia) (by lia)) (vs:=[_,_,_,_,_,_,_]) rfl rfl rfl ?_;refine Zaq (vs:=[_]) rfl rfl (Zaq (vs:=[_]) rfl rfl ?_);refine Zao (.addL (by simp;exact(Zag (Nat.succ_le_succ hl) rfl))) ?_;refine wr 1 (?_:Y);iterate 5 (refine w_lam rfl (by decide) ?_)
 refine Zaq (vs:=[_,_,_,_,_]) rfl rfl ?_;refine w_s (by exact lb rfl) (.inr (by decide)) ?_;iterate 7 (refine w_lam rfl (by decide) ?_)
 refine Zaq (vs:=[_,_,_,_,_,_,_]) rfl rfl ?_;refine w_s (by exact lb rfl) (.inr (by decide)) ?_;refine w_l rfl ?_;refine Zej (C:=80) (kk:=1) (d1 hn rfl) (by decide) (by exact lb rfl) (by exact lb rfl) (λv hv=>?_) ?_
 ·simp only[mem_cons,List.not_mem_nil,or_false] at hv
  rcases hv with rfl|rfl|rfl|rfl|rfl
  ·exact⟨rfl,b0⟩
  ·exact⟨rfl,b1⟩
  ·exact⟨rfl,b2⟩
  ·exact⟨rfl,b3⟩
  ·exact⟨rfl,b4⟩
 refine w_c (Zaq (vs:=[_]) rfl rfl (w_c (Zao (.repL (n:=5) (by decide)) ?_)));refine ZaE (c:=true) (.eqL (a:=[.int 1,.int 1,.int 1,.int 1,.int 1]) rfl) ?_;refine ZaS ?_;refine w_l rfl ?_;refine Zej (C:=56) (kk:=2) (d1 hn rfl) (by decide) (by exact lb rfl) (by exact lb rfl) (λv hv=>?_) ?_
 ·simp only[mem_cons,List.not_mem_nil,or_false] at hv
  rcases hv with rfl|rfl|rfl|rfl|rfl|rfl|rfl
  ·exact⟨rfl,w5⟩
  ·exact⟨rfl,w6⟩
  ·exact⟨rfl,w7⟩
  ·exact⟨rfl,w8⟩
  ·exact⟨rfl,w9⟩
  ·exact⟨rfl,w10⟩
  ·exact⟨rfl,w11⟩
 refine w_c (Zaq (vs:=[_]) rfl rfl (w_c (Zao (.repL (n:=7) (by decide)) ?_)));refine ZaE (c:=true) (.eqL (a:=[.int 2,.int 2,.int 2,.int 2,.int 2,.int 2,.int 2]) rfl) ?_;exact Zak (hr' _ _ ⟨rfl,rfl⟩)
end
end
noncomputable def begs(e:Nat->List (Nat×Ce))(gs:List Gu):Nat->Nat->List Int->List Int
 |0,_,B=>B
 |j+1,k,B=>begs e gs j (k+1) (Zbn gs B k (widO ((e k).map (want B k))))
theorem Zdr{gs:List Gu}{B:List Int}{k i:Nat}{w:Option Int}(h:i<B.length):(Zbn gs B k w).getD i 0=B.getD i 0:=by
 unfold Zbn;simp[List.getD,List.getElem?_append,h]
theorem Zdk{e:Nat->List (Nat×Ce)}{gs:List Gu}:∀{j k:Nat}{B:List Int}{i:Nat},i<B.length->(begs e gs j k B).getD i 0=B.getD i 0
 |0,_,_,_,_=>rfl
 |j+1,k,B,i,h=>by
  simp only[begs];rw[Zdk (by unfold Zbn;simp;exact(Nat.lt_succ_of_lt h)),Zdr h]
theorem ZeH{B B':List Int}{k:Nat}{L:List (Nat×Ce)}(h:∀i,i<=k->B'.getD i 0=B.getD i 0)(hL:∀p∈L,p.1<=k):L.map (want B' k)=L.map (want B k):=by
 apply map_congr_left;intro p hp;unfold want;rw[h k (Nat.le_refl _),h p.1 (hL p hp)]
noncomputable def ZdP(gs:List Gu)(k:Nat)(w:Option Int):Int:=match w with|none=>0|some x=>x+(gs.getD (k+1) default).w
theorem Zb0{e:Nat->List (Nat×Ce)}{gs:List Gu}(he:∀k,∀p∈e k,p.1<=k):∀{j k:Nat}{B:List Int},B.length=k+1->(ZbF e gs j k B).length=j/\∀i,i<j ->
  (ZbF e gs j k B).getD i none=widO ((e (k+i)).map (want (begs e gs j k B) (k+i)))/\(begs e gs j k B).getD (k+i+1) 0=(begs e gs j k B).getD (k+i) 0+ZdP gs (k+i) ((ZbF e gs j k B).getD i none)
 |0,k,B,hB=>⟨rfl,λi hi=>by lia⟩
 |j+1,k,B,hB=>by
  have hB':(Zbn gs B k (widO ((e k).map (want B k)))).length=k+2:=by unfold Zbn;simp[hB]
  obtain⟨h1,h2⟩:=Zb0 he (gs:=gs) (j:=j) (k:=k+1) (B:=Zbn gs B k (widO ((e k).map (want B k)))) hB';refine⟨by simp[cFN,cFS,h1],λi hi=>?_⟩;have bg:begs e gs (j+1) k B=begs e gs j (k+1) (Zbn gs B k (widO ((e k).map (want B k)))):=rfl;cases i with
  |zero =>
   rw[bg];have e0:(ZbF e gs (j+1) k B).getD 0 none=widO ((e k).map (want B k)):=rfl;have ge:∀i,i<=k->(begs e gs j (k+1) (Zbn gs B k (widO ((e k).map (want B k))))).getD i 0=B.getD i 0:=λi hi=>by
    rw[Zdk (by lia),Zdr (by exact(Nat.lt_of_le_of_lt hi (Nat.le_of_eq hB.symm)))]
   have ge1:(begs e gs j (k+1) (Zbn gs B k (widO ((e k).map (want B k))))).getD (k+1) 0=B.getD k 0+ZdP gs k (widO ((e k).map (want B k))):=by
    rw[Zdk (Nat.le_of_eq hB'.symm)];unfold Zbn ZdP;rw[List.getD,List.getElem?_append_right (Nat.le_of_eq ‹_›),show k+1-B.length=0 by exact(Nat.sub_eq_zero_of_le (Nat.le_of_eq hB.symm))];rfl
   rw[e0];constructor
   ·show _=widO ((e k).map (want _ k))
    rw[ZeH ge (he k)]
   ·show List.getD _ (k+1) 0=List.getD _ k 0+ZdP gs k _
    rw[ge1,ge k (Nat.le_refl _)]
  |succ i =>
   obtain⟨h3,h4⟩:=h2 i (Nat.le_of_lt_succ hi);have e0:(ZbF e gs (j+1) k B).getD (i+1) none=(ZbF e gs j (k+1) (Zbn gs B k (widO ((e k).map (want B k))))).getD i none:=rfl;rw[bg,e0];rw[show k+(i+1)=k+1+i by lia];exact⟨h3,h4⟩
theorem widO_bd{L:List Int}{m:Int}(h:∀a∈L,a.natAbs<=m)(hm:0<=m):(wide (widO L)).natAbs<=m:=by
 by_cases e:L=[]
 ·subst e;show(0:Int).natAbs<=m;simpa using hm
 ·obtain⟨M,h1,h2,z⟩:=Zc2 e
  rw[h1];exact h M h2
theorem Zf4{e:Nat->List (Nat×Ce)}{gs:List Gu}(hal:∀k,∀p∈e k,p.2.al.natAbs<=180)(hg:∀g∈gs,g.w.natAbs<=29)(hgl:∀k,(gs.getD k default).w.natAbs<=29):∀{j k:Nat}{B:List Int}{b:Int},0<=b->(∀i,(B.getD i 0).natAbs<=b)->∀o∈ZbF e gs j k B,(wide o).natAbs<=(b+180)*5^j
 |0,_,_,_,_,_,o,ho=>by simp[cFN,cFS] at ho
 |j+1,k,B,b,hb,hB,o,ho=>by
  have hw:∀a∈(e k).map (want B k),a.natAbs<=180+2*b:=by
   intro a ha;obtain⟨p,hp,rfl⟩:=mem_map.mp ha;have h1:=abN.mp (hal k p hp);have h2:=abZ.mp (hB k);have h3:=abZ.mp (hB p.1);unfold want;exact abZ.mpr ⟨by lia,by lia⟩
  have hw0:=widO_bd hw (by omega);have hpow:(1:Int)<=5^j:=Int.pow_pos (by decide);have key:(b*4+180)+180<=(b+180)*5:=by omega
  rcases mem_cons.mp ho with rfl|ho
  ·have h1:(b+180)*5<=(b+180)*5^(j+1):=by
    rw[Int.pow_succ];have:=Int.mul_le_mul_of_nonneg_left hpow (show 0<=(b+180)*5 by omega);rw[Int.mul_one] at this;rw[show(b+180)*(5^j*5)=(b+180)*5*5^j by rw[Int.mul_comm (5^j) 5,<- Int.mul_assoc]];exact this
   omega
  ·have:=Zf4 hal hg hgl (j:=j) (k:=k+1) (b:=b*4+210) (by omega) (λi=>by
    unfold Zbn;rw[List.getD,List.getElem?_append];split
    ·have:=hB i;rw[List.getD] at this;omega
    ·have h2:=hB k
     have h3:=hgl (k+1);by_cases hi:i-B.length=0
     ·rw[hi]
      show(((B.getD k 0+_:Int).natAbs:Nat):Int)<=_;cases q:widO ((e k).map (want B k)) with
      |none =>
       have h2:=abZ.mp h2;have h3:=abN.mp h3;simp only;exact abZ.mpr ⟨by lia,by lia⟩
      |some x =>
       rw[q] at hw0;have hw1:=abZ.mp (show(x.natAbs:Int)<=180+2*b from hw0);have h2:=abZ.mp h2;have h3:=abN.mp h3;simp only;exact abZ.mpr ⟨by lia,by lia⟩
     ·rw[List.getElem?_eq_none (by simp;omega)]
      show(((0:Int).natAbs:Nat):Int)<=_;simp;omega) o ho
   have h2:(b*4+210+180)*5^j<=(b+180)*5^(j+1):=by
    rw[Int.pow_succ,Int.mul_comm (5^j) 5,<- Int.mul_assoc];exact Int.mul_le_mul_of_nonneg_right (by omega) (by omega)
   omega
section
section
variable{rows:List Rw}{c:Nat}{gs:List Gu}{up:Bool}
theorem ZeR{cs:List Ce}:∀{col:Nat} {p},p∈Zat col cs->p.2∈cs/\p.1+p.2.sp<=col+Zas cs:=by
 induction cs with
 |nil=>intro col p hp;simp[pCN,pCC] at hp
 |cons d r ih =>
  intro col p hp;rcases mem_cons.mp hp with rfl|hp
  ·exact⟨.head _,by simp[sSN,sSC]<;>lia⟩
  ·obtain⟨h1,h2⟩:=ih hp
   exact⟨.tail _ h1,by simp[sSN,sSC]<;>lia⟩
theorem ZdY{k:Nat}{p:Nat×Ce}(h:p∈ent rows k):p∈allP rows/\p.1+p.2.sp-1=k:=by
 have:=mem_filter.mp h;exact⟨this.1,by simpa using this.2⟩
theorem allP_mem{p:Nat×Ce}(h:p∈allP rows):∃cs,Rw.cells cs∈rows/\p∈Zat 0 cs:=by
 obtain⟨q,hq,hp⟩:=List.mem_flatMap.mp h;cases q with
 |cells cs=>exact⟨cs,hq,hp⟩
 |rule=>simp[Rw.cs,pCN,pCC] at hp
 |pen=>simp[Rw.cs,pCN,pCC] at hp
 |skip=>simp[Rw.cs,pCN,pCC] at hp
structure Good(up:Bool)(c:Nat)(rows:List Rw)(gs:List Gu):Prop where
 r:RowsOk up c rows
 c1:1<=c
 c4:c<=4
 gl:gs.length=c+1
 g:∀g∈gs,Zce g
theorem Good.cell(h:Good up c rows gs){p:Nat×Ce}(hp:p∈allP rows):CellOk p.2/\1<=p.2.sp/\p.2.up=up/\p.1+p.2.sp<=c:=by
 obtain⟨cs,h1,h2⟩:=allP_mem hp;have h3:=h.r.ok _ h1;obtain⟨h4,h5⟩:=ZeR h2;obtain⟨a,b,d⟩:=h3.2.2 _ h4;exact⟨a,b,d,by have:=h3.2.1;exact(Nat.le_trans h5 (z0 this))⟩
theorem Good.ent1(h:Good up c rows gs):∀k,∀p∈ent rows k,p.1<=k:=λk p hp=>by
 obtain⟨h1,h2⟩:=ZdY hp;have:=(h.cell h1).2.1;exact(p1s h2 this)
theorem Good.gw(h:Good up c rows gs):∀k,(gs.getD k default).w.natAbs<=29:=λk=>by
 by_cases q:k<gs.length
 ·have:=h.g _ (ZaW (d:=default) q);have:=this.1;have:=(h.g _ (ZaW (d:=default) q)).2.1;lia
 ·rw[List.getD,List.getElem?_eq_none (Nat.le_of_not_lt q)];decide
theorem Good.len(h:Good up c rows gs):(wids rows c gs).length=c:=(Zb0 h.ent1 rfl).1
theorem Good.bd(h:Good up c rows gs):∀o∈wids rows c gs,(wide o).natAbs<=120000:=λo ho=>by
 have h1:=Zf4 (e:=ent rows) (gs:=gs) (λk p hp=>(h.cell (ZdY hp).1).1.al) (λg hg=>by have:=h.g g hg;have:=this.1;have:=(h.g g hg).2.1;lia) h.gw (j:=c) (k:=0) (B:=[0]) (b:=0) (by decide) (λi=>by
  cases i with
  |zero=>decide
  |succ i=>exact(by decide:(((0:Int).natAbs:Nat):Int)<=0)) o ho
 have h2:(5:Int)^c<=625:=by
  have:=h.c4;have hc:c=0\/c=1\/c=2\/c=3\/c=4:=(four0 this);rcases hc with rfl|rfl|rfl|rfl|rfl<;>decide
 lia
theorem Good.dm(h:Good up c rows gs):∀o∈wids rows c gs,Dm (wide o):=λo ho=>by
 have:=h.bd o ho;exact⟨(dmN this rfl).1,(dmN this rfl).2⟩
theorem Good.rok(h:Good up c rows gs):∀q∈rows,q.ok up c:=λq hq=>by
 have:=h.r.ok q hq;cases q with
 |cells cs =>
  refine⟨this.2.1,λd hd=>?_⟩;obtain⟨a,b,e⟩:=this.2.2 d hd;have hw:=a.w;have hh:=a.h;have hd':=a.d;exact⟨⟨⟨(dmN hw rfl).1,(dmN hw rfl).2⟩,⟨(dmN hh rfl).1,(dmN hh rfl).2⟩,⟨(dmN hd' rfl).1,(dmN hd' rfl).2⟩⟩,λk=>by have:=a.tot k;lia,b,e⟩
 |rule w hh d =>
  have dm:∀{o},SmO o->DmO o:=λh i hi=>by have:=h i hi;exact⟨(Int.le_trans (by decide) this.1),(Int.le_trans this.2 (by decide))⟩
  exact⟨dm this.1,dm this.2.1,dm this.2.2⟩
 |pen v=>trivial
 |skip g=>trivial
theorem Good.lrok(h:Good up c rows gs):∀q∈rows,LrOk up c q:=λq hq=>by
 have h1:=h.rok q hq;have h2:=h.r.ok q hq;cases q with
 |cells cs=>exact⟨h1.1,λd hd=>⟨(h1.2 d hd).1,λk=>by have:=(h2.2.2 d hd).1.tot k;lia,(h1.2 d hd).2.2⟩⟩
 |rule w hh d=>exact h1
 |pen v=>trivial
 |skip g=>trivial
theorem room_eq(h:Good up c rows gs){p:Nat×Ce}(hsp:1<=p.2.sp)(hc:p.1+p.2.sp<=c) :
  ZaY (wids rows c gs) (Zai (wids rows c gs) gs) p=wide ((wids rows c gs).getD (p.1+p.2.sp-1) none)-want (begs (ent rows) gs c 0 [0]) (p.1+p.2.sp-1) p:=by
 have spec:=(Zb0 (e:=ent rows) (gs:=gs) h.ent1 (j:=c) (k:=0) (B:=[0]) rfl).2;have len:=h.len;have key:∀(j col:Nat),col+(j+1)<=c->ZaZ (λk=>wide ((wids rows c gs).getD k none)) col (j+1)+ZaZ (λk=>((Zai (wids rows c gs) gs).getD k default).w) (col+1) j =
   (begs (ent rows) gs c 0 [0]).getD (col+j) 0-(begs (ent rows) gs c 0 [0]).getD col 0+wide ((wids rows c gs).getD (col+j) none):=by
  intro j;induction j with
  |zero=>intro col z;simp[rSN,rSS]
  |succ j ih =>
   intro col hcol;have h1:=ih (col+1) (by exact(kja hcol));have h2:=(spec col (lt0 hcol)).2;rw[Nat.zero_add] at h2;have h3:((Zai (wids rows c gs) gs).getD (col+1) default).w+wide ((wids rows c gs).getD col none)=ZdP gs col ((wids rows c gs).getD col none):=by
    rw[ZbD (lt0 (len▸hcol))];unfold tabG ZdP;cases (wids rows c gs).getD col none with
    |none=>rfl
    |some x=>show _+x=x+_;simp;lia
   have e1:ZaZ (λk=>wide ((wids rows c gs).getD k none)) col (j+1+1)=wide ((wids rows c gs).getD col none)+ZaZ (λk=>wide ((wids rows c gs).getD k none)) (col+1) (j+1):=rfl;have e2:ZaZ (λk=>((Zai (wids rows c gs) gs).getD k default).w) (col+1) (j+1)=((Zai (wids rows c gs) gs).getD (col+1) default).w+ZaZ (λk=>((Zai (wids rows c gs) gs).getD k default).w) (col+1+1) j:=rfl;rw[e1,e2,show col+(j+1)=col+1+j by lia];have h2':(begs (ent rows) gs c 0 [0]).getD (col+1) 0=(begs (ent rows) gs c 0 [0]).getD col 0+ZdP gs col ((wids rows c gs).getD col none):=h2;lia
 obtain⟨j,hj⟩ : ∃j,p.2.sp=j+1:=⟨p.2.sp-1,(s1 hsp).symm⟩;have h1:=key j p.1 (hj▸hc);unfold ZaY want;rw[hj,show p.1+(j+1)-1=p.1+j by exact rfl,show j+1-1=j by lia];lia
theorem Good.fits(h:Good up c rows gs):∀k,k<(wids rows c gs).length->minP ((ent rows k).map (ZaY (wids rows c gs) (Zai (wids rows c gs) gs)))/\((wids rows c gs).getD k none=none↔(ent rows k).map (ZaY (wids rows c gs) (Zai (wids rows c gs) gs))=[]):=by
 intro k hk;have hk':k<c:=by rw[h.len] at hk;exact hk
 have h1:=((Zb0 (e:=ent rows) (gs:=gs) h.ent1 (j:=c) (k:=0) (B:=[0]) rfl).2 k hk').1;rw[Nat.zero_add] at h1;have h1':(wids rows c gs).getD k none=widO ((ent rows k).map (want (begs (ent rows) gs c 0 [0]) k)):=h1;have e:(ent rows k).map (ZaY (wids rows c gs) (Zai (wids rows c gs) gs))=((ent rows k).map (want (begs (ent rows) gs c 0 [0]) k)).map λx=>wide ((wids rows c gs).getD k none)-x:=by
  rw[map_map];apply map_congr_left;intro p hp;obtain⟨h2,h3⟩:=ZdY hp;obtain⟨z,h4,z,h5⟩:=h.cell h2;rw[room_eq h h4 h5,h3];rfl
 rw[e,h1'];generalize (ent rows k).map (want (begs (ent rows) gs c 0 [0]) k)=L;by_cases hL:L=[]
 ·subst hL
  exact⟨λhne=>absurd rfl hne,by simp[widO]⟩
 ·obtain⟨M,m1,m2,m3⟩:=Zc2 hL
  rw[m1];refine⟨λz=>⟨mem_map.mpr ⟨M,m2,by simp[wide]⟩,λa ha=>?_⟩,by simp[hL]⟩;obtain⟨x,hx,rfl⟩:=mem_map.mp ha;have:=m3 x hx;show 0<=M-x;lia
end
end
section
noncomputable def pnN:Pn->Int
 |.sk g=>g.w
 |.bx x=>x
noncomputable def pnS(f:Gu->Int):Pn->Int
 |.sk g=>f g
 |.bx _=>0
noncomputable def stK(k:Nat)(g:Gu):Int:=if g.so=k then g.st else 0
noncomputable def shK(k:Nat)(g:Gu):Int:=if g.ho=k then g.sh else 0
theorem Zda{ps:List Pn}:∀{t:Tot},(ps.foldl Pn.to t).n=t.n+(ps.map pnN).sum/\∀k,(ps.foldl Pn.to t).s k=t.s k+(ps.map (pnS (stK k))).sum/\(ps.foldl Pn.to t).h k=t.h k+(ps.map (pnS (shK k))).sum:=by
 induction ps with
 |nil=>intro t;simp
 |cons p ps ih =>
  intro t;obtain⟨h1,h2⟩:=ih (t:=p.to t);simp only[foldl_cons,map_cons,List.sum_cons];refine⟨?_,λk=>⟨?_,?_⟩⟩
  ·rw[h1];cases p<;>simp[Pn.to,Tot.add,Tot.widen,pnN]<;>lia
  ·rw[(h2 k).1]
   cases p with
   |sk g =>
    show upd t.s g.so (t.s g.so+g.st) k+_=t.s k+(stK k g+_);unfold upd stK;by_cases h:k=g.so
    ·subst h;rw[if_pos rfl,if_pos rfl];exact(Int.add_assoc _ _ _)
    ·rw[if_neg h,if_neg (Ne.symm h)];lia
   |bx x=>show t.s k+_=t.s k+(0+_);lia
  ·rw[(h2 k).2]
   cases p with
   |sk g =>
    show upd t.h g.ho (t.h g.ho+g.sh) k+_=t.h k+(shK k g+_);unfold upd shK;by_cases h:k=g.ho
    ·subst h;rw[if_pos rfl,if_pos rfl];exact(Int.add_assoc _ _ _)
    ·rw[if_neg h,if_neg (Ne.symm h)];lia
   |bx x=>show t.h k+_=t.h k+(0+_);lia
theorem Zfx{α β:Type}{L:List α}{f:α->β}(d:α):L.map f=(List.range' 0 L.length).map λk=>f (L.getD k d):=by
 apply List.ext_getElem
 ·simp
 ·intro i h1 h2
  simp at h1⊢;simp[h1]
theorem ZdN{α:Type}{L:List α}{f g:α->Int}:(L.map λa=>f a+g a).sum=(L.map f).sum+(L.map g).sum:=by
 induction L with
 |nil=>rfl
 |cons a L ih=>simp only[map_cons,List.sum_cons,ih];lia
theorem Zea{α:Type}{L:List α}{f:α->Int}{b:Nat}(h:∀a∈L,(f a).natAbs<=b):(L.map f).sum.natAbs<=L.length*b:=by
 induction L with
 |nil=>simp
 |cons a L ih =>
  have h1:=h a (.head _);have h2:=ih λx hx=>h x (.tail _ hx)
  simp only[map_cons,List.sum_cons,length_cons,Nat.add_mul,Nat.one_mul];exact naA h1 h2 (Nat.le_of_eq (Nat.add_comm _ _))
theorem Zd9{α:Type}{L:List α}{p:α->Bool}{f:α->Int}:((L.filter p).map f).sum=(L.map λa=>if p a then f a else 0).sum:=by
 induction L with
 |nil=>rfl
 |cons a L ih =>
  rw[filter_cons];by_cases h:p a=true
  ·rw[if_pos h];simp[ih,h]
  ·rw[if_neg h];simp[ih,h]
theorem ZbB{sz:List (Option Int)}{gs:List Gu}{u:Pn->Int}:∀{j k:Nat},((ZbH sz gs k j).map u).sum=((List.range' k j).map λi=>u (.bx (wide (sz.getD i none)))+u (.sk (tabG sz gs i))).sum
 |0,k=>rfl
 |j+1,k=>by
  simp only[pFN,pFS,map_cons,List.sum_cons,List.range'_succ];rw[ZbB (j:=j) (k:=k+1)];lia
theorem ZcC{sz:List (Option Int)}{gs:List Gu}{β:Type}{f:Gu->β}:(Zai sz gs).map f=f (gs.getD 0 default)::(List.range' 0 sz.length).map λi=>f (tabG sz gs i):=by
 simp[Zai,List.range_eq_range',Function.comp]
theorem own_eq{sz:List (Option Int)}{gs:List Gu}:(Zaf (Zan sz gs)).n=(sz.map wide).sum+((Zai sz gs).map Gu.w).sum:=by
 unfold Zaf;rw[Zda.1,ZcC,Zfx (L:=sz) none];simp only[Zan,map_cons,List.sum_cons];rw[ZbB,ZdN];show(0:Int)+(_+(_+_))=_;simp only[pnN];lia
theorem st_eq{sz:List (Option Int)}{gs:List Gu}{k:Nat}:(Zaf (Zan sz gs)).s k=(((Zai sz gs).filter λg=>decide (g.so=k)).map Gu.st).sum:=by
 unfold Zaf;rw[Zd9,(Zda.2 k).1,ZcC];simp only[Zan,map_cons,List.sum_cons];rw[ZbB,ZdN];have e0:((List.range' 0 sz.length).map λi=>pnS (stK k) (.bx (wide (sz.getD i none)))).sum=0:=by
  generalize List.range' 0 sz.length=L;induction L with
  |nil=>rfl
  |cons a L ih=>simp only[map_cons,List.sum_cons,ih];rfl
 rw[e0];show(0:Int)+(_+(0+_))=_;simp only[pnS,stK,decide_eq_true_eq];lia
theorem sh_eq{sz:List (Option Int)}{gs:List Gu}{k:Nat}:(Zaf (Zan sz gs)).h k=(((Zai sz gs).filter λg=>decide (g.ho=k)).map Gu.sh).sum:=by
 unfold Zaf;rw[Zd9,(Zda.2 k).2,ZcC];simp only[Zan,map_cons,List.sum_cons];rw[ZbB,ZdN];have e0:((List.range' 0 sz.length).map λi=>pnS (shK k) (.bx (wide (sz.getD i none)))).sum=0:=by
  generalize List.range' 0 sz.length=L;induction L with
  |nil=>rfl
  |cons a L ih=>simp only[map_cons,List.sum_cons,ih];rfl
 rw[e0];show(0:Int)+(_+(0+_))=_;simp only[pnS,shK,decide_eq_true_eq];lia
section
variable{rows:List Rw}{c:Nat}{gs:List Gu}{up:Bool}
theorem Good.flows(h:Good up c rows gs):∀g∈Zai (wids rows c gs) gs,Zce g:=by
 have hg:∀k,k<gs.length->Zce (gs.getD k default):=λk hk=>h.g _ (ZaW hk)
 intro g hg';rcases mem_cons.mp hg' with rfl|hg'
 ·exact hg 0 (by have:=h.gl;exact(Nat.zero_lt_of_lt (Nat.le_of_eq this.symm)))
 ·obtain⟨k,hk,rfl⟩:=mem_map.mp hg'
  rw[List.mem_range,h.len] at hk;unfold tabG;split
  ·exact⟨by decide,by decide,by decide,by decide,by decide,by decide⟩
  ·exact hg (k+1) (by have:=h.gl;exact(Nat.lt_of_le_of_lt hk (Nat.le_of_eq this.symm)))
theorem Good.own(h:Good up c rows gs):(Zaf (Zan (wids rows c gs) gs)).n.natAbs<=1000000:=by
 rw[own_eq];have h1:=Zea (L:=wids rows c gs) (f:=wide) (b:=120000) (λo ho=>by have:=h.bd o ho;omega);have h2:=Zea (L:=Zai (wids rows c gs) gs) (f:=Gu.w) (b:=29) λg hg=>by have:=h.flows g hg;have:=this.1;have:=(h.flows g hg).2.1;omega
 rw[Za1,h.len] at h2;rw[h.len] at h1;have:=h.c4;have h3:c*120000<=4*120000:=Nat.mul_le_mul_right _ this;have h4:(c+1)*29<=5*29:=Nat.mul_le_mul_right _ (by omega);exact naA (Nat.le_trans h1 h3) (Nat.le_trans h2 h4) (by decide)
theorem Good.tot(h:Good up c rows gs):∀k,((Zaf (Zan (wids rows c gs) gs)).s k).natAbs<=200/\((Zaf (Zan (wids rows c gs) gs)).h k).natAbs<=200:=by
 intro k;rw[st_eq,sh_eq];have hf:=h.flows;have fl:(Zai (wids rows c gs) gs).length<=5:=by rw[Za1,h.len];have:=h.c4;exact Zag ‹_› rfl
 constructor
 ·have h1:=Zea (L:=(Zai (wids rows c gs) gs).filter λg=>decide (g.so=k)) (f:=Gu.st) (b:=40) λg hg=>(hf g (mem_filter.mp hg).1).2.2.1
  have h2:=List.length_filter_le (λg:Gu=>decide (g.so=k)) (Zai (wids rows c gs) gs);have h3:((Zai (wids rows c gs) gs).filter λg=>decide (g.so=k)).length*40<=5*40:=Nat.mul_le_mul_right _ (Nat.le_trans h2 fl);lia
 ·have h1:=Zea (L:=(Zai (wids rows c gs) gs).filter λg=>decide (g.ho=k)) (f:=Gu.sh) (b:=15) λg hg=>(hf g (mem_filter.mp hg).1).2.2.2.1
  have h2:=List.length_filter_le (λg:Gu=>decide (g.ho=k)) (Zai (wids rows c gs) gs);have h3:((Zai (wids rows c gs) gs).filter λg=>decide (g.ho=k)).length*15<=5*15:=Nat.mul_le_mul_right _ (Nat.le_trans h2 fl);lia
theorem Good.fin(h:Good up c rows gs){u:Bool}{m am:Int}(hm:m=0\/m=1):Fin.Ok ⟨wids rows c gs,gs,u,m,am⟩ where
 c0:=by show 1<=(wids rows c gs).length;rw[h.len];exact h.c1
 c1:=by show(wids rows c gs).length<=100;rw[h.len];have:=h.c4;exact ZaV ‹_› rfl
 g:=by show gs.length=(wids rows c gs).length+1;rw[h.len];exact h.gl
 d:=h.dm
 gk:=λg hg=>⟨(h.g g hg).2.2.2.2.1,(h.g g hg).2.2.2.2.2⟩
 tb:=λk=>⟨Nat.lt_of_le_of_lt (h.tot k).1 (by decide),Nat.lt_of_le_of_lt (h.tot k).2 (by decide)⟩
 ow:=by have:=h.own;show(Zaf (Zan (wids rows c gs) gs)).n.natAbs<_;exact Zag ‹_› rfl
 m:=hm
end
end
section
theorem Zft{m:Nat}{k w h d:Int}{its:List V}{s:Set4}(hk:k=2\/k=3)(hi:∀v∈its,Nd m v)(hl:its.length<2^18):Nd (m+1) (boxV k w h d (.lst its) s):=.box hk hi hl
theorem nd_pn{m:Nat}{up:Bool}{x:Int}:Nd (m+1) (Pn.v up (.bx x)):=by
 cases up
 ·exact Nd.box (k:=2) (w:=x) (h:=0) (d:=0) (sg:=0) (o:=0) (u:=0) (e:=1) (its:=[]) (.inl rfl) (by simp) (by decide)
 ·exact Nd.box (k:=3) (w:=0) (h:=x) (d:=0) (sg:=0) (o:=0) (u:=0) (e:=1) (its:=[]) (.inr rfl) (by simp) (by decide)
theorem Zfs{m:Nat}{up:Bool}{sz:List (Option Int)}{gs:List Gu}:∀{j k:Nat},∀v∈ZcN up sz gs k j,Nd (m+1) v
 |0,_,v,hv=>by simp[fvN,fvS] at hv
 |j+1,k,v,hv=>by
  simp only[fvN,fvS,mem_cons] at hv;rcases hv with rfl|rfl|hv
  ·exact nd_pn
  ·exact .skip
  ·exact Zfs v hv
theorem nd_row{up:Bool}{sz:List (Option Int)}{gs:List Gu}{E:List Int}{rw rh rd:Int}:∀{cs:List Ce}{col:Nat},(∀c∈cs,CellOk c)->∀v∈rowV up sz gs E rw rh rd col cs,Nd 1 v
 |[],_,_,v,hv=>by simp[rowZ,rvC] at hv
 |c::r,col,h,v,hv=>by
  have hc:=h c (.head _);simp only[rowZ,rvC,mem_cons,mem_append] at hv;rcases hv with rfl|rfl|hv|hv
  ·unfold Zbq
   have:=hc.len;split
   ·exact Zft (.inr rfl) hc.nd (Zag ‹_› rfl)
   ·exact Zft (.inl rfl) hc.nd (Zag ‹_› rfl)
  ·exact .skip
  ·exact Zfs v hv
  ·exact nd_row (λd hd=>h d (.tail _ hd)) v hv
section
variable{rows:List Rw}{c:Nat}{gs:List Gu}{up:Bool}
theorem Good.nd(h:Good up c rows gs){f:Fin}:∀q∈rows,Nd 2 (f.row q):=by
 intro q hq;have hk:=h.r.ok q hq;cases q with
 |cells cs =>
  refine Zft (by cases f.up;exact .inl rfl;exact .inr rfl) (λv hv=>?_) ?_
  ·rcases mem_cons.mp hv with rfl|hv
   ·exact .skip
   ·exact nd_row (λd hd=>(hk.2.2 d hd).1) v hv
  ·rw[length_cons,Zcj λd hd=>(hk.2.2 d hd).2.1]
   have:=hk.2.1;have:=h.c4;lia
 |rule w hh d=>exact .rule
 |pen v=>exact .pen
 |skip g=>exact .skip
theorem Good.flatNd(h:Good up c rows gs):∀v∈rows.flatMap ZaU,Nd 1 v:=by
 intro v hv;obtain⟨q,hq,hv⟩:=List.mem_flatMap.mp hv;have hk:=h.r.ok q hq;cases q with
 |cells cs =>
  obtain⟨d,hd,rfl⟩:=mem_map.mp hv;have hc:=(hk.2.2 d hd).1;exact Nd.cell hc.nd (by have:=hc.len;exact Zag ‹_› rfl)
 |rule w hh d=>simp[ZaU] at hv;subst hv;exact .rule
 |pen x=>simp[ZaU] at hv;subst hv;exact .pen
 |skip g=>simp[ZaU] at hv;subst hv;exact .skip
theorem Good.flatLen(h:Good up c rows gs):(rows.flatMap ZaU).length<2^18:=by
 have key:∀(qs:List Rw),(∀q∈qs,RowOk up c q)->(qs.flatMap ZaU).length<=4*qs.length:=by
  intro qs;induction qs with
  |nil=>intro z;simp
  |cons q qs ih =>
   intro hq;have h1:=ih λp hp=>hq p (.tail _ hp)
   have h2:(ZaU q).length<=4:=by
    have hk:=hq q (.head _);cases q with
    |cells cs =>
     have:=ZbA λd hd=>(hk.2.2 d hd).2.1
     have:=hk.2.1;have:=h.c4;simp[ZaU];lia
    |rule=>simp[ZaU]
    |pen=>simp[ZaU]
    |skip=>simp[ZaU]
   simp only[List.flatMap_cons,length_append,length_cons];exact(ar4 h1 h2)
 have:=key rows h.r.ok;have:=h.r.len;lia
end
section
variable{G:Gl}{n:Nat}{μ:Led}
noncomputable abbrev rdSl(a:Addr)(fst:Bool)(c:Nat)(x3 x4 x5 x6 x7 x8 x9 x10 x11 x12 x13 x14 x15 x16 x17 x18:Option V):List (Option V) :=
 [some (.ref a),some (.bool fst),some (.int c),x3,x4,x5,x6,x7,x8,x9,x10,x11,x12,x13,x14,x15,x16,x17,x18,none,none,none,none]
theorem flowComp{a:Addr}{c:Nat}{x y:Int}{M:Int->Int->Led}{cel:List Nat}{k:List IX}{l:List (Option V)}{Q:Post}(hn:n+12<900)(hc:c<=100)(hl:19<l.length)(h0:l[0]?=some (some (.ref a)))(hx:0<=x)(hy:0<=y)(uu:∀x y,Zcf a x y (M x y) M)
  (h:∀(gs:List Gu) x y,gs.length=c->(∀g∈gs,Zce g)->0<=x->0<=y->W (CallX G n) cel k ⟨[.lst (gs.map Gu.v)],l,M x y,false⟩ Q):W (CallX G n) cel (.comp (.v 19) (.emit [.c (.ref 736),.l 0,.call 1])::k) ⟨[.rng 0 c],l,M x y,false⟩ Q:=by
 refine Zbg (.rng (lb rfl) (Zag ‹_› rfl)) ?_;have key:∀(j i:Nat) (gs:List Gu) (x y:Int) (l':List (Option V)),i+j=c->gs.length=i->(∀g∈gs,Zce g)->0<=x->0<=y->l'.length=l.length->l'[0]?=some (some (.ref a))->Zb2 (CallX G n) cel (.v 19) (.emit [.c (.ref 736),.l 0,.call 1]) false (λacc μ'=>W (CallX G n) cel k ⟨.lst acc::[],l,μ',false⟩ Q) (ZaF i c) (gs.map Gu.v) (M x y) l':=by
  intro j;induction j with
  |zero =>
   intro i gs x y l' hi hg hok hx hy z z;rw[ZaL (Int.ofNat_le.mpr (kj0 hi))];exact h gs x y (hg▸hi) hok hx hy
  |succ j ih =>
   intro i gs x y l' hi hg hok hx hy hl' h0';rw[Zaw (Int.ofNat_lt.mpr (kjl hi))];refine⟨⟨_,.v (hl'▸hl)⟩,λl2 hb=>?_⟩;obtain⟨z,rfl⟩:=hb.vEq;refine⟨by simp;exact(by rw[hg];exact Zay (kj2 hi hc) rfl),?_⟩;first|refine Za7 ?_|refine Zbe ?_|refine Zbd ?_
   refine w_c (w_l (v:=.ref a) (by rw[List.getElem?_set_ne (by decide),h0']) ?_);refine Zab (Zes (dn hn rfl) hx hy uu).cx (vs:=[_]) rfl rfl rfl (λu μ' q=>?_) (λz q=>q.elim);obtain⟨g,x',y',hg',hx,hy⟩:=q;have:=ih (i+1) (gs++[g]) x' y' (l'.set 19 (some (.int i))) (kjr hi) (by simp;assumption) (λp hp=>by
    refine mA hp (λhp=>?_) λhp=>?_
    ·exact hok p hp
    ·simp at hp;subst hp;exact hg') hx hy (by simpa using hl') (by rw[List.getElem?_set_ne (by decide),h0'])
   rw[map_append] at this;exact Zad ⟨_,.refl,_,rfl,rfl,this⟩
 exact key c 0 [] x y l (by lia) rfl (by simp) hx hy rfl h0
def eqI(o:Nat)(k:Int)(v:V):Bool:=match gf v.fields o with
 |.int i=>decide (i=k)
 |_=>false
theorem Zfc{cel:List Nat}{k:List IX}{l:List (Option V)}{Q:Post}{fl:List Gu}{o f:Nat}{go:Gu->Nat}{gv:Gu->Int}{T:Nat->Int}(hl:20<l.length)(h4:l[4]?=some (some (.lst (fl.map Gu.v))))(hf:fl.length<1000)(ho:∀g:Gu,RA μ g.v o (.int (go g)))(hf':∀g:Gu,RA μ g.v f (.int (gv g)))
  (ho2:∀g:Gu,gf g.v.fields o=.int (go g)) (hf2:∀g:Gu,gf g.v.fields f=.int (gv g))
  (hT:∀k,T k=((fl.filter λg=>decide (go g=k)).map gv).sum) (h:W (CallX G n) cel k ⟨[.lst (ZaR T)],l,μ,false⟩ Q) :
  W (CallX G n) cel (.c (.typ "range")::.c (.int 4)::.call 1::.comp (.v 19) (.emit [.c (.bi "sum"),.l 4,.comp (.v 20) (.cond [.l 20,.at o,.l 19,.cmp .Eq] (.emit [.l 20,.at f])),.call 1])::k) ⟨[],l,μ,false⟩ Q:=by
 refine w_c (w_c (Zax .rng1 rfl rfl ?_));have e4:ZaF 0 4=[.int (0:Nat),.int (1:Nat),.int (2:Nat),.int (3:Nat)]:=by rfl
 refine ZaI (rngF T) (.rng (by decide) (by decide)) (lw ‹_›) (by rw[e4];exact lb rfl) (λv hv=>?_) ?_
 ·obtain⟨i,rfl,i1,i2⟩:=Zcl hv
  obtain⟨k,rfl⟩:=Int.eq_ofNat_of_zero_le i1;refine w_c (w_l (v:=.lst (fl.map Gu.v)) (by rw[List.getElem?_set_ne (by decide),h4]) ?_);refine Zb3 (eqI o k) (λv=>gf v.fields f) .lst (by simpa using hl) (by simp;exact Zay ‹_› rfl) (λv hv=>?_) (λv hv z=>?_) ?_
  ·obtain⟨g,z,rfl⟩:=mem_map.mp hv
   refine w_l (v:=g.v) (by rw[List.getElem?_set_self (by simpa using hl)]) (w_at (ho g) (w_l (v:=.int k) (by rw[List.getElem?_set_ne (by decide),List.getElem?_set_self (lw ‹_›)]) (ZaE (.int rfl) (Zad ?_))));simp[eqI,ho2]
  ·obtain⟨g,z,rfl⟩:=mem_map.mp hv
   rw[hf2];exact w_l (v:=g.v) (by rw[List.getElem?_set_self (by simpa using hl)]) (w_at (hf' g) (Zad rfl))
  ·have e:((fl.map Gu.v).filter (eqI o k)).map (λv=>gf v.fields f)=((fl.filter λg=>decide (go g=k)).map gv).map .int:=by
    rw[List.filter_map,map_map,map_map];have:(eqI o (k:Int)∘Gu.v)=λg=>decide (go g=k):=by
     funext g
     simp only[Function.comp,eqI,ho2];simp;lia
    rw[this];apply map_congr_left;intro g z;exact hf2 g
   rw[e];refine Zax .sum rfl rfl (Zad ?_);rw[<- hT];rfl
 ·rw[e4]
  exact h
end
end
section
section
variable{G:Gl}{n:Nat}{μ:Led}
theorem absI(a:Int):(if a<0 then -a else a)=(a.natAbs:Int):=by split<;>lia
theorem ZfA{a:Addr}{x y:Int}{fst:Bool}(hn:n+60<900)(hx0:0<=x)(hy0:0<=y):CodeOK G n 841 [.ref a,.bool fst] ((a,.list [.int x,.int y])::μ) (λv z=>v=.bool true) (λz=>False):=by
 refine Zae f105 (dn hn rfl) rfl λQ qq=>?_
 have uu:∀x y:Int,Zcf a x y ((a,.list [.int x,.int y])::μ) (λx y=>(a,.list [.int x,.int y])::μ):=λx y x' y'=>.head
 unfold c105;refine wf 3 (?_:Y);refine Zab (take (M:=λx y=>(a,.list [.int x,.int y])::μ) (d1 hn rfl) hx0 hy0 (by decide) (by decide) (uu _ _)).cx (vs:=[_,_]) rfl rfl rfl (λv μ' q=>?_) (λz q=>q.elim);obtain⟨d1,x1,y1,⟨l1,b1⟩,h0,h1⟩:=q;refine wr 6 (?_:Y);refine Zab (take (M:=λx y=>(a,.list [.int x,.int y])::μ) (dn (kja hn) rfl) h0 h1 (by decide) (by decide) (uu _ _)).cx (vs:=[_,_]) rfl rfl rfl (λv μ' q=>?_) (λz q=>q.elim);obtain⟨d2,x2,y2,⟨l2,b2⟩,h0,h1⟩:=q;generalize hup:decide (d1=1)=up;obtain⟨c,hc⟩ : ∃c:Nat,(1:Int)+d2=c:=⟨(1+d2).toNat,tn1 l2⟩;have hc1:1<=c:=(lapI hc l2);have hc4:c<=4:=(lapL 4 hc b2);refine Zao .add ?_;refine hc.symm▸?_;refine we 9 [1] rfl (?_:Y);refine(show(c:Int)+1=((c+1:Nat):Int) by lia).symm▸?_;refine flowComp (M:=λx y=>(a,.list [.int x,.int y])::μ) (dn (kja hn) rfl) (Zag ‹_› rfl) (by exact lb rfl) rfl h0 h1 uu λgs x3 y3 hgl hgk h0 h1=>?_
 refine wr 5 (?_:Y);refine Zab (law_rows (M:=λx y=>(a,.list [.int x,.int y])::μ) (dn (kja hn) rfl) hc1 hc4 h0 h1 uu).cx (vs:=[_,_,_]) rfl rfl rfl (λv μ' q=>?_) (λz q=>q.elim);obtain⟨rows,x4,y4,hrows,h0,h1⟩:=q;have gd:Good up c rows gs:=⟨hrows,hc1,hc4,hgl,hgk⟩;have flat:∀{n:Nat}{μ:Led},n+40<900->Zaj G n 831 [.lst (rows.map Rw.v)] μ (DL 1 (rows.flatMap ZaU)):=λhn=>law_flat (by lia) (by decide) gd.flatLen gd.flatNd
 refine wr 3 (?_:Y);refine Zaa (flat (dn (kja hn) rfl)).cx (vs:=[_]) rfl rfl rfl ?_;refine wr 5 (?_:Y);refine Zaa (widths (dn (kja hn) rfl) hc1 (ZaV ‹_› rfl) hgl gd.rok (by have:=hrows.len;exact ZaV ‹_› rfl) gd.dm).cx (vs:=[_,_,_]) rfl rfl rfl ?_;have hsl:=gd.len;have hfits:=gd.fits;have hfin:=λ(u:Bool) {m am:Int} (hm:m=0\/m=1)=>gd.fin (u:=u) (am:=am) hm
 have hown:=gd.own;have htot:=gd.tot;have hflows:=gd.flows;generalize wids rows c gs=sz at hsl hfits hfin hown htot hflows⊢;refine wr 3 (?_:Y);refine Zax (.len (by simp;exact(by rw[hsl];exact Zag (lapL 4 hc b2) rfl))) rfl rfl ?_;rw[length_map,hsl];refine wr 2 (?_:Y);have dn:decide ((c:Int)≠(c:Int))=false:=by simp
 refine dn.symm▸?_;refine wr 3 (?_:Y);refine w_gi (rgM (f:=Gu.v) (k:=0) default rfl (Nat.zero_lt_of_lt (Nat.le_of_eq hgl.symm)) (lb rfl)) ?_;refine Zaq (vs:=[_]) rfl rfl ?_;refine we 3 [1] rfl (?_:Y);refine ZaI (λv=>match v with|.int i=>(tabG sz gs i.toNat).v|_=>.none) (.rng (lb rfl) (Zag ‹_› rfl)) (by exact lb rfl) (by rw[Zcm];exact Zag ‹_› rfl) (λv hv=>?_) ?_
 ·obtain⟨i,rfl,i1,i2⟩:=Zcl hv
  obtain⟨k,rfl⟩:=Int.eq_ofNat_of_zero_le i1;refine wf 2 (?_:Y);refine w_gi (rgM (f:=optV) (k:=k) none rfl (hsl▸(Int.ofNat_lt.mp i2)) (by lia)) ?_;refine w_c ?_;refine ZaE .isN ?_;cases q:sz.getD k none with
  |none =>
   refine ZaS (w_c ?_);refine Zaa (Zeu (by lia)) (vs:=[]) rfl rfl rfl (Zad ?_);simp only[Int.toNat_natCast,tabG,q];rfl
  |some i =>
   refine ZaT ?_;refine wf 4 (?_:Y);refine w_gi (rgM (f:=Gu.v) (k:=k+1) default (by lia) (by lia) (by lia)) (Zad ?_);simp only[Int.toNat_natCast,tabG,q];rfl
 have efl:[(gs.getD 0 default).v]++(ZaF 0 c).map (λv=>match v with|.int i=>(tabG sz gs i.toNat).v|_=>.none)=(Zai sz gs).map Gu.v:=by
  unfold Zai ZaF;refine hsl.symm▸?_;refine congrArg (List.cons _) ?_;rw[map_map,map_map];exact map_congr_left λi z=>by show(tabG sz gs ((0:Int)+i).toNat).v=_;rw[Int.zero_add];rfl
 refine Zao (.addL (by simp[Zcm];lia)) ?_;refine efl.symm▸?_;refine wr 6 (?_:Y);refine Zaa (law_fits (by lia) (by lia) Za1 (by have:=hrows.len;exact ZaV ‹_› rfl) (λcs hcs=>?_) hfits (λk=>entLen (by
  have:=ZeG gd.rok;have h9:c*rows.length<=4*8:=Nat.mul_le_mul hc4 hrows.len;exact(Zag (Nat.le_trans this h9) rfl)))).cx (vs:=[_,_,_,_]) rfl rfl rfl ?_
 ·obtain⟨q,hq,e⟩:=List.mem_filterMap.mp hcs
  have hk:=hrows.ok q hq;cases q with
  |cells cs'=>cases e;exact⟨by rw[hsl];exact hk.2.1,λd hd=>⟨(hk.2.2 d hd).2.1,(hk.2.2 d hd).2.2⟩⟩
  |rule=>cases e
  |pen=>cases e
  |skip=>cases e
 refine wr 4 (?_:Y);refine ZaI (λv=>.int (match v with|.int i=>i|_=>0)) .lst (by exact lb rfl) (by simp;exact(by rw[hsl];exact Zag (lapL 4 hc b2) rfl)) (λv hv=>?_) ?_
 ·obtain⟨o,z,rfl⟩:=mem_map.mp hv
  refine wf 2 (?_:Y);refine Zaa (ZbC (by lia)).cx (vs:=[_]) rfl rfl rfl (Zad ?_);cases o<;>rfl
 have e1:(sz.map optV).map (λv=>V.int (match v with|.int i=>i|_=>0))=(sz.map wide).map .int:=by
  simp only[map_map];apply map_congr_left;intro o z;cases o<;>rfl
 refine e1.symm▸?_;refine Zax .sum rfl rfl ?_;refine wr 2 (?_:Y);refine ZaI (λv=>gf v.fields 0) .lst (by exact lb rfl) (by simp[Za1];exact(by rw[hsl];exact Zag (Nat.succ_le_succ (lapL 4 hc b2)) rfl)) (λv hv=>?_) ?_
 ·obtain⟨g,z,rfl⟩:=mem_map.mp hv
  refine wf 2 (?_:Y);exact Zad rfl
 have e2:((Zai sz gs).map Gu.v).map (λv=>gf v.fields 0)=((Zai sz gs).map Gu.w).map .int:=by
  simp only[map_map];apply map_congr_left;intro g z;rfl
 refine e2.symm▸?_;refine Zax .sum rfl rfl ?_;refine Zao .add ?_;refine own_eq▸?_;refine wr 1 (?_:Y);have fll:(Zai sz gs).length<1000:=by rw[Za1];exact(by rw[hsl];exact Zag (Nat.succ_le_succ (lapL 4 hc b2)) rfl)
 have rg:∀{μ:Led}{j:Nat}{v:V} (g:Gu),j<21->([(0,.int g.w),(1,.int g.st),(2,.int g.so),(3,.int g.sh),(4,.int g.ho)]:List (Nat×V)).lookup j=some v->v.nb=true->RA μ g.v j v:=λg hj e nb=>.pi (C:=250) (by decide) hj e nb
 refine Zfc (fl:=Zai sz gs) (go:=Gu.so) (gv:=Gu.st) (T:=(Zaf (Zan sz gs)).s) (by exact lb rfl) rfl fll (λg=>rg g (by decide) rfl rfl) (λg=>rg g (by decide) rfl rfl) (λz=>rfl) (λz=>rfl) (λk=>st_eq) ?_;refine wr 1 (?_:Y);refine Zfc (fl:=Zai sz gs) (go:=Gu.ho) (gv:=Gu.sh) (T:=(Zaf (Zan sz gs)).h) (by exact lb rfl) rfl fll (λg=>rg g (by decide) rfl rfl) (λg=>rg g (by decide) rfl rfl) (λz=>rfl) (λz=>rfl) (λk=>sh_eq) ?_;refine wr 7 (?_:Y);refine Zab (law_goal (M:=λx y=>(a,.list [.int x,.int y])::μ) (by lia) h0 h1 uu).cx (vs:=[_,_,_]) rfl rfl rfl (λv μ' q=>?_) (λz q=>q.elim);obtain⟨m,am,x5,y5,rfl,hm,h0,h1,rfl⟩:=q;have hf:=hfin up (am:=am) hm;have step:∀{k:List IX},W (CallX G (n+1)) [0,4,13,14,15,16,17,18] k ⟨[.int (Za0 m (Zaf (Zan sz gs)).n am)],rdSl a fst c (some (DL 1 (rows.flatMap ZaU))) (some (.lst ((Zai sz gs).map Gu.v))) (some (.int (Zaf (Zan sz gs)).n)) (some (.lst (ZaR (Zaf (Zan sz gs)).s))) (some (.lst (ZaR (Zaf (Zan sz gs)).h))) none none none none none (some (.int am)) (some (.int m)) (some (.lst (rows.map Rw.v))) (some (.lst (sz.map optV))) (some (.lst (gs.map Gu.v))) (some (.bool up)),(a,.list [.int x5,.int y5])::μ,false⟩ Q ->
   W (CallX G (n+1)) [0,4,13,14,15,16,17,18] (.unp 2::.s 14::.s 13::.l 14::.c (.int 1)::.cmp .Eq::.ite [.l 5,.l 13,.bin .Add] [.l 13]::k) ⟨[.tup [.int m,.int am]],rdSl a fst c (some (DL 1 (rows.flatMap ZaU))) (some (.lst ((Zai sz gs).map Gu.v))) (some (.int (Zaf (Zan sz gs)).n)) (some (.lst (ZaR (Zaf (Zan sz gs)).s))) (some (.lst (ZaR (Zaf (Zan sz gs)).h))) none none none none none none none (some (.lst (rows.map Rw.v))) (some (.lst (sz.map optV))) (some (.lst (gs.map Gu.v))) (some (.bool up)),(a,.list [.int x5,.int y5])::μ,false⟩ Q:=by
  intro k hk;rcases hm with rfl|rfl
  ·refine wr 8 (?_:Y)
   exact hk
  ·refine wr 10 (?_:Y)
   exact hk
 refine step ?_;clear step;refine wr 1 (?_:Y);generalize hgoal:Za0 m (Zaf (Zan sz gs)).n am=goal;have hgo:Fin.goal ⟨sz,gs,up,m,am⟩=goal:=hgoal;have hdats:∀{k:Nat}{vs:List V},(∀v∈vs,Nd k v)->k<=10->V.dats 40 (vs.map (D k))=true:=λh hk=>dat_DL h (by lia)
 have rest:∀μ':Led,W (CallX G (n+1)) [0,4,13,14,15,16,17,18] [.c (.bi "max"),.c (.bi "abs"),.l 8,.call 1,.c (.bi "abs"),.l 13,.call 1,.call 2,.c (.int 2),.c (.int 30),.bin .Pow,.cmp .GtE,.ite [.c (.ref 826),.lam L105 [18,17,16,15,14,13],.call 1,.c (.int 3),.cmp .Eq,.ite [.c (.ref 831),.l 15,.call 1,.l 3,.cmp .Eq] [.c (.bool false)],.ret] [],.c (.ref 779),.l 8,.l 5,.bin .Sub,.l 6,.l 7,.call 3,.s 9,.c (.ref 812),.l 15,.l 16,.l 4,.l 8,.l 9,.l 18,.call 6,.s 10,.c (.ref 715),.l 15,.l 16,.l 17,.l 14,.l 13,.l 18,.call 6,.unp 2,.s 11,.s 12,.c (.ref 491),.l 11,.call 1,.l 10,.cmp .Eq,.ite [.l 12,.l 9,.c (.int 3),.gi,.cmp .Eq,.ite [.c (.ref 831),.l 15,.call 1,.l 3,.cmp .Eq] [.c (.bool false)]] [.c (.bool false)],.ret]
   ⟨[],rdSl a fst c (some (DL 1 (rows.flatMap ZaU))) (some (.lst ((Zai sz gs).map Gu.v))) (some (.int (Zaf (Zan sz gs)).n)) (some (.lst (ZaR (Zaf (Zan sz gs)).s))) (some (.lst (ZaR (Zaf (Zan sz gs)).h))) (some (.int goal)) none none none none (some (.int am)) (some (.int m)) (some (.lst (rows.map Rw.v))) (some (.lst (sz.map optV))) (some (.lst (gs.map Gu.v))) (some (.bool up)),μ',false⟩ Q:=by
  intro μ';have flatEnd:∀{k:List IX}{μ':Led}{cz:Bool}{l:List (Option V)},l[15]?=some (some (.lst (rows.map Rw.v)))->l[3]?=some (some (DL 1 (rows.flatMap ZaU)))->W (CallX G (n+1)) [0,4,13,14,15,16,17,18] (.c (.ref 831)::.l 15::.call 1::.l 3::.cmp .Eq::.ret::k) ⟨[],l,μ',cz⟩ Q:=by
   intro k μ' cz l e15 e3;refine w_c (w_l e15 ?_);refine Zaa (flat (by lia)).cx (vs:=[_]) rfl rfl rfl (w_l e3 ?_);exact ZaE (c:=true) (.eqT (hdats gd.flatNd (by decide))) (Zak (qq.r _ _ rfl))
  refine we 10 [0,0,2] rfl (?_:Y);refine Zao (.pow (n:=30) (by decide) (by decide)) ?_;refine ZaE (.int rfl) ?_;rw[absI,absI];by_cases hbig:Dm am/\Dm goal
  ·have d:decide (max (goal.natAbs:Int) (am.natAbs:Int)>=(2:Int)^30)=false:=by
    exact decide_eq_false (Int.not_le.mpr (Int.max_lt.mpr ⟨dmA.mpr hbig.2,dmA.mpr hbig.1⟩))
   refine d.symm▸?_;have hfo:Dm (Fin.goal ⟨sz,gs,up,m,am⟩):=by rw[hgo];exact hbig.2
   refine wr 7 (?_:Y);refine Zaa (Zep (t:=Zaf (Zan sz gs)) (by lia) (λk=>⟨Nat.lt_of_le_of_lt (htot k).1 (by decide),Nat.lt_of_le_of_lt (htot k).2 (by decide)⟩)).cx (vs:=[_,_,_]) rfl rfl rfl ?_;have eset:setG (Zaf (Zan sz gs)) (goal-(Zaf (Zan sz gs)).n)=Fin.set ⟨sz,gs,up,m,am⟩:=by rw[<- hgo];rfl
   refine eset.symm▸?_;refine wr 8 (?_:Y);have hdue:=law_due (G:=G) (n:=n+1) (μ:=μ') (f:=⟨sz,gs,up,m,am⟩) (rows:=rows) (m:=2) hf (by lia) (by decide) hfo (by intro q hq;show LrOk up sz.length q;rw[hsl];exact gd.lrok q hq) (by have:=hrows.len;exact Zag ‹_› rfl) gd.nd;rw[hgo] at hdue;refine Zaa hdue.cx (vs:=[_,_,_,_,_,_]) rfl rfl rfl ?_;refine wr 8 (?_:Y);refine Zaa (finished (f:=⟨sz,gs,up,m,am⟩) hf (by lia) hbig.1 hfo (by intro q hq;show q.ok up sz.length;rw[hsl];exact gd.rok q hq) (by have:=hrows.len;exact Zag ‹_› rfl)).cx (vs:=[_,_,_,_,_,_]) rfl rfl rfl ?_;refine wr 5 (?_:Y);refine Zaa (Zbi (m:=2) (λv hv=>?_) (by simp;have:=hrows.len;exact Zag ‹_› rfl) (by lia) (by decide)).cx (vs:=[_]) rfl rfl rfl ?_
   ·obtain⟨q,hq,rfl⟩:=mem_map.mp hv
    exact gd.nd q hq
   refine w_l rfl ?_;refine ZaE (c:=true) (.eqT (hdats (λv hv=>?_) (by decide))) ?_
   ·obtain⟨q,hq,rfl⟩:=mem_map.mp hv
    exact gd.nd q hq
   refine ZaS ?_;simp only[cons_append,nil_append];refine w_l rfl (w_l rfl (w_c (w_gi (Zfh (vs:=[.int _,.int _,.tup [.int _,.int _],.tup [.int _,.int _]]) (by decide) (by decide) rfl) ?_)));refine ZaE (c:=true) (.eqT rfl) ?_;refine ZaS ?_;simp only[cons_append,nil_append];exact flatEnd rfl rfl
  ·have d:decide (max (goal.natAbs:Int) (am.natAbs:Int)>=(2:Int)^30)=true:=by
    exact decide_eq_true (Int.not_lt.mp λq=>hbig ⟨dmA.mp (Int.max_lt.mp q).2,dmA.mp (Int.max_lt.mp q).1⟩)
   refine d.symm▸?_;refine ZaS ?_;simp only[cons_append,nil_append];refine w_c (w_lam rfl (by decide) ?_);have hb:¬Dm am\/¬Dm (Fin.goal ⟨sz,gs,up,m,am⟩):=by rw[hgo];exact Decidable.not_and_iff_or_not.mp hbig
   refine Zab (Zeq (C:=68) (k:=3) (by lia) (by decide) rfl (lamR lgR (de (kja hn) rfl) λQ' hQ=>?_)).cx (vs:=[_]) rfl rfl rfl (λv μ' q=>?_) (λz q=>q.elim)
   ·refine wf 7 (?_:Y)
    exact Zab (Zcn (by lia) (λμ=>protoBad hf (by lia) hb)).cx (vs:=[_,_,_,_,_,_]) rfl rfl rfl (λz z q=>q.elim) hQ
   ·obtain⟨rfl,rfl⟩:=q
    refine w_c (ZaE (c:=true) (.int (by decide)) (ZaS ?_));simp only[cons_append,nil_append];exact flatEnd rfl rfl
 cases fst with
 |false =>
  refine wr 4 (?_:Y);exact rest _
 |true =>
  refine wr 7 (?_:Y);obtain⟨cs,rr,hrf⟩:=hrows.fst;have hk:=hrows.ok _ (by rw[hrf];exact .head _);obtain⟨c1,cs1,rfl⟩ : ∃c1 cs1,cs=c1::cs1:=by
   cases cs with
   |nil=>exact absurd rfl hk.1
   |cons c1 cs1=>exact⟨_,_,rfl⟩
  have ho:Dm (Fin.own ⟨sz,gs,up,1,0⟩):=by
   show Dm (Zaf (Zan sz gs)).n;exact⟨(dmN hown rfl).1,(dmN hown rfl).2⟩
  refine Zab (ZdU (by lia) hc1 hc4 hgl hsl (λu=>hfin u (.inr rfl)) ho gd.rok (by have:=hrows.len;exact ZaV ‹_› rfl) hrf).cx (vs:=[_,_,_,_]) rfl rfl rfl (λv μ' q=>?_) (λz q=>q.elim);obtain⟨rfl,rfl⟩:=q;refine wr 2 (?_:Y);exact rest _
end
end
section
section
variable{G:Gl}{n:Nat}
theorem law_ok{ns:List Int}(hn:n+80<900)(hl:ns.length<2^18){Q:Post}(hr:∀v μ,v=.bool true->Q.rt v μ):W (CallX G (n+1)) [] c106 ⟨[],(([some 0,none,none]:List (Option Nat)).map λo=>o.bind λi=>([V.lst (ns.map .int)]++[])[i]?)++List.replicate 4 none,[],false⟩ Q:=by
 have loop:∀{cells:List Int},cells.length<=2->cells≠[]->W (CallX G (n+1)) [] [.s 1,.c (.typ "range"),.c (.bi "len"),.l 1,.call 1,.call 1,.forL (.v 2) ZeD,.c (.bool true),.ret] ⟨[.lst (cells.map .int)],[some (.lst (ns.map .int)),none,none,none,none,none,none],[],false⟩ Q:=by
  intro cells hc hne;refine wr 4 (?_:Y);refine Zax (.len (by simp;exact Zag ‹_› rfl)) rfl rfl ?_;rw[length_map];refine we 1 [1] rfl (?_:Y);refine Zar (.rng (lb rfl) (Zag ‹_› rfl)) (.inl rfl) ?_;have key:∀(j k:Nat) (x2:Option V) (μ:Led),k+j=cells.length->ForW (CallX G (n+1)) [] (.v 2) ZeD [.c (.bool true),.ret] Q false 7 (ZaF k cells.length) [some (.lst (ns.map .int)),some (.lst (cells.map .int)),x2,none,none,none,none] μ:=by
   intro j;induction j with
   |zero =>
    intro k x2 μ hk;rw[ZaL (by lia)];refine ZaA rfl ?_;exact w_c (Zak (hr _ _ rfl))
   |succ j ih =>
    intro k x2 μ hk;rw[Zaw (by lia)];refine forV rfl (by exact lb rfl) λQ' T=>?_
    simp only[set_cons_succ,set_cons_zero];unfold ZeD;refine wr 4 (?_:Y);refine w_gi (rgM (f:=V.int) (k:=k) 0 rfl (by lia) (by lia)) ?_;refine wr 3 (?_:Y);refine Zd7 (by decide) (by decide) (by simp;exact Zay ‹_› rfl) ?_;have e:(ns.map V.int).drop ((2:Int).toNat)=(ns.drop 2).map .int:=by rw[<- List.map_drop];rfl
    rw[e];refine Zax .sum rfl rfl ?_;refine Zab (law_box (by lia)).cx (vs:=[_,_]) rfl rfl rfl (λv μ' q=>?_) (λz q=>q.elim);obtain⟨a,x,y,hx0,hy0,rfl,rfl⟩:=q;refine wr 3 (?_:Y);refine Zab (ZfA (by lia) hx0 hy0).cx (vs:=[_,_]) rfl rfl rfl (λv μ' q=>?_) (λz q=>q.elim);subst q;refine wr 2 (?_:Y);exact Zad (T.nx _ _ (ih (k+1) _ _ (by lia)) _ .refl)
  exact key cells.length 0 none [] (by lia)
 unfold c106;refine w_l rfl ?_;refine Zaq (vs:=[]) rfl rfl ?_;refine ZaE .lstN ?_;by_cases hns:ns=[]
 ·have e6:(!(ns.map V.int).isEmpty)=false:=by rw[hns];rfl
  rw[e6];refine ZaT ?_;refine wf 2 (?_:Y);refine Zao (.pow (n:=18) (by decide) (by decide)) ?_;refine wr 2 (?_:Y);refine Zaq (vs:=[_]) rfl rfl ?_;exact loop (cells:=[_]) (by simp) (by simp)
 ·have e6:(!(ns.map V.int).isEmpty)=true:=by cases ns with|nil=>exact absurd rfl hns|cons _ _=>rfl
  rw[e6];refine ZaS ?_;refine wf 2 (?_:Y);refine w_slcT (by decide) (by decide) (by simp;exact Zay ‹_› rfl) ?_;have e:(ns.map V.int).take ((2:Int).toNat)=(ns.take 2).map .int:=by rw[<- List.map_take];rfl
  rw[e];exact loop (by simp;lia) (by cases ns with|nil=>exact absurd rfl hns|cons _ _=>simp)
end
theorem law_call{G:Gl}{n:Nat}{ns:List Int}(hn:n+80<900)(hl:ns.length<2^18){A:Around}{fz:Led0}{ws:List Value}{s:Shared}(hA:A.frames=some [])(hh:A.handled=none)(hd:A.depth<=n)(hu:A.units<=8*n)
  (hsz:G.hb.objs.size<=s.heap.objs.size) (I:Inv G (Zap G.hb [] fz) fz [] s.heap) (Zs:VRs G.w.params fz [.lst (ns.map .int)] ws) (o1:s.os=G.os) (o2:s.gens=#[]) :
  codeAny (model P0 G.w) A (.call (.ref 848) ⟨ws,[]⟩) (λr s'=>match r with|.ok (.ret v)=>PostV G G.hb [] fz (λv z=>v=.bool true) v s'|.ok _=>False|.error x=>PostE G G.hb [] fz [] (λz=>False) x s') s:=by
 have F:=f106 G.w;refine runFnG (μ:=[]) (mu:=[]) (vs:=[.lst (ns.map .int)]) (dn hn rfl) F.ok (Zev G) rfl (λX s' C M=>?_) hA hh hd hu (fro:=[]) trivial (λz z h=>h) (λa ha=>nomatch ha) hsz I .nil Zs o1 o2;have e:l0F (st 106) n106 ([.lst (ns.map .int)]++[])=([some 0,none,none]:List (Option Nat)).map λo=>o.bind λi=>([V.lst (ns.map .int)]++[])[i]?:=by
  rw[<- F.ix];unfold l0F;rw[map_map];apply map_congr_left;intro x z;exact Zc0 (by rfl)
 rw[e,F.ce] at M;rw[F.ce] at C⊢;exact(sAll (G:=G) (N:=n+1) (CK:=CallX G (n+1)) (λf vs μ R E h=>h) 60).2 F.cd C rfl (W.un (law_ok hn hl λv μ h=>h)) (M.pad 4)
end
theorem intsVR{P:Params}{fz:Led0}{vs:List Value}{ns:List Int}(h:IntsAre vs ns):VRs P fz (ns.map .int) vs:=by
 induction h with
 |nil=>exact .nil
 |cons _ _ _ ih=>exact .cons .int ih
noncomputable def tabs0:List (Addr×Addr):=[(835,833),(840,838)]
theorem walk(w:World)(s₁:Shared)(mg mb:Str->Option Value)(l:Addr)(vs:List Value)(ns:List Int)(mean:ExcName->Option Value)(KX:(K0 w.params).In s₁.heap)(hT8:∀P∈[833,838],s₁.heap.get? P=some (tabObj #[]))(T:Top q0 (looseW q0 ZbI) mean mg mb s₁.heap)(hL:s₁.heap.IsList l vs.toArray)(hI:IntsAre vs ns)(hlen:ns.length<=63)(hg:s₁.gens=#[]) :
  wpAny (model P0 w) callerA (PySem.call (.ref 848) [.ref l]) (λv s'=>Ends s₁ v s') (λj j=>False) s₁:=by
 have hT:TabsAt tabs0 s₁.heap:=λq hq=>by
  simp only[tabs0,mem_cons,List.not_mem_nil,or_false] at hq;rcases hq with rfl|rfl
  ·exact⟨hd104 w _ KX,hT8 833 (by decide)⟩
  ·exact⟨hd105 w _ KX,hT8 838 (by decide)⟩
 have T':=ghost_top hT T;let G:Gl:=⟨w,ghostOf s₁.heap tabs0,mg,mb,s₁.os,ghost_K hT KX (by kernel_rfl),⟨T'.g,T'.b,T'.nolimit,T'.builtins,T'.bmain⟩⟩
 obtain⟨o,ho,hcls,cnt,hdat⟩:=hL;have hlt:l∉tbs:=λq=>by
  have e:=hT8 l q;rw[ho] at e;cases e;cases hcls
 have hon:∀P∈tbs,(ghostOf s₁.heap tabs0).get? P=none:=λP hP=>hideAll_none _ hP
 have I:Inv G (Zap G.hb [] [(l,o)]) [(l,o)] [] s₁.heap :=
  {st:=λb x e=>of_hideAll _ e
   dyn:=λa ha=>by
    have:a∈tbs:=by simpa [Act.dyn,Act.fx,Zap] using ha
    exact hon a this
   nd:=by show(tbs++[]).Nodup;decide
   ents:=λp hp=>nomatch hp
   fzh:=λp hp=>by simp at hp;subst hp;exact ho
   fzd:=λp hp=>by
    simp at hp;subst hp;simpa [Act.dyn,Act.fx,Zap] using hlt
   fzf:=λp hp=>.inl hp
   fz0:=λp hp=>hp
   own:=λa ha=>nomatch ha
   fro:=λp hp=>nomatch hp
   tab:=λP hP=>⟨#[],hT8 P hP,by first|trivial|exact .nil|simp[TriplesOk],λpos v h=>by cases h⟩
   fxn:=λp hp=>nomatch hp }
 refine wpAny_call (codeAny_mono (law_call (G:=G) (n:=400) (ns:=ns) (fz:=[(l,o)]) (by decide) (Zag ‹_› rfl) rfl rfl (by decide) (by decide) (Nat.le_of_eq (hideAll_size _ _)) I (.cons (.lst (.head _) ⟨hcls,hdat⟩ (intsVR hI)) .nil) rfl hg) λr s' q=>?_);rcases r with x|(_|_|_|v)
 ·obtain⟨j,j,j,j,q,j⟩:=q
  exact q.elim
 ·exact q.elim
 ·exact q.elim
 ·exact q.elim
 ·obtain⟨v',μ',fz',mu',rfl,J,RL,z,o1,o2⟩:=q
  cases z;have keep:∀b x,b∉tbs->s₁.heap.get? b=some x->s'.heap.get? b=some x:=λb x hb e=>J.st _ _ (hideAll_get _ e hb)
  have tab:∀q∈tabs0,∃ps:Array Value,s'.heap.get? q.2=some (tabObj ps):=λq hq=>by
   have hP:q.2∈tbs:=mem_map_of_mem (f:=(·.2)) hq;obtain⟨ps,e,j⟩:=J.tab _ hP;exact⟨ps,e⟩
  have old:OldK s₁.heap s'.heap:=by
   refine⟨λb x e=>?_,λb x e=>?_⟩
   ·by_cases hb:b∈tbs
    ·obtain⟨q,hq,rfl⟩:=mem_map.mp (show b∈tabs0.map (·.2) from hb)
     obtain⟨ps,e2⟩:=tab q hq;have e3:=(hT q hq).2;rw[e] at e3;cases e3;exact .inr (.inl ⟨by obtain⟨o,vs,j,j,j,j,j,j,j,e1,e2,e3,e4,j⟩:=(hT q hq).1;exact⟨q.1,o,vs,e1,e2,e3,e4⟩,rfl,#[],ps,rfl,by rw[e2];simp⟩)
    ·exact .inl (keep b x hb e)
   ·by_cases hb:b∈tbs
    ·obtain⟨q,hq,rfl⟩:=mem_map.mp (show b∈tabs0.map (·.2) from hb)
     obtain⟨ps,e2⟩:=tab q hq;exact⟨_,e2⟩
    ·exact⟨x,keep b x hb e⟩
  exact⟨rfl,old,o1,by rw[o2];intro y hy;simp at hy⟩
end
end Mine.Internal
open PySem PySem.W PyProof.Rows
theorem PySem.Challenge.cw_rg0165_01_holds : PySem.Challenge.rw_rg0165_01.Holds := by
  exact holds_law Mine.Internal.said fun h => Mine.Internal.head2 h Mine.Internal.walk
