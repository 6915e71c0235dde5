import PyProof.Rows.All
import Wide.All
import OpenK.AllK
import Wide.FinOn
import KE.BytesMake
import KE.KItem
import KE.KBytesWalk
import KE.KBytesAny
import KE.KDictOf
import KE.KRevSl
import PyProof.DictItemsLoops
import PyProof.Draws
import PyProof.EnumMake
import PySem.Challenge.RW_sq0079_01
set_option Elab.async false
set_option maxRecDepth 100000
set_option maxHeartbeats 8000000
set_option linter.all false
set_option genInjectivity false
set_option genSizeOf false
set_option genSizeOfSpec false
set_option bootstrap.genMatcherCode false
namespace Hd
section
open PySem PySem.W PySem.Calls PyProof.Rows
noncomputable abbrev pw:Program:=PySem.Challenge.pw_sq0079_01
noncomputable def Qb:List Stmt→Nat→Stmt
 | [],_=>.Pass ⟨0,0,0,0⟩
 | x::_,0=>x
 | _::l,n+1=>Qb l n
noncomputable def cB (x:Stmt):List Stmt:=if h:x.ctorIdx=2 then Stmt.ClassDef.elim (motive_2:=fun _=>List Stmt) x h fun _ _ _ b _ _ _ _ _ _ _=>b else []
noncomputable def fD {α:Type}(x:Stmt)(d:α)(f:Arguments→List Stmt→Scope→α):α:=if h:x.ctorIdx=0 then Stmt.FunctionDef.elim (motive_2:=fun _=>α) x h fun _ a b _ _ _ sc _ _ _=>f a b sc else d
noncomputable def fA (x:Stmt):Arguments:=fD x ⟨[],[],none,[],[],none,[]⟩ fun a _ _=>a
noncomputable def fB (x:Stmt):List Stmt:=fD x [] fun _ b _=>b
noncomputable def fS (x:Stmt):Scope:=fD x ⟨.function,[],false,false,[]⟩ fun _ _ sc=>sc
noncomputable def sm (i:Nat):Stmt:=Qb pw.main.body i
noncomputable def cm (i j:Nat):Stmt:=Qb (cB (sm i)) j
noncomputable def r (a:Addr):Value:=.ref a
noncomputable def ty (n:String):Value:=.type n
noncomputable def bt (n:String):Value:=.builtin n
noncomputable def i (k:Int)(t:Tok):Value:=.int k t
noncomputable def s (x:String)(t:Tok):Value:=.str (Str.ofString x) t
noncomputable def N:Value:=.none
noncomputable def o (v:Value):Option Value:=some v
noncomputable def e (P:Params)(x:String)(t:Tok)(v:Value):DictEntry:=⟨PyData.keyHash P (Str.ofString x),.str (Str.ofString x) t,v⟩
noncomputable def f0 (l:List Value):Obj:={ cls:=.none,data:=.fields l.toArray }
noncomputable def tp (l:List Value):Obj:={ cls:=.type "tuple",data:=.seq l.toArray }
noncomputable def dO (l:List DictEntry)(n:Nat):Obj:={ cls:=.type "dict",data:=.dict l.toArray n }
noncomputable def fO (t:String)(l:List Value):Obj:={ cls:=.type t,data:=.fields l.toArray }
noncomputable def pO (t:String)(l:List (Option Value)):Obj:={ cls:=.type t,data:=.plain,slots:=l.toArray }
noncomputable def fn (c:Value)(st:Stmt)(n q:String)(g:Addr)(dV pm cd:Value)(b:Addr):Obj:=
 { cls:=c,data:=.func { name:=Str.ofString n,qualname:=Str.ofString q,params:=fA st,body:=.stmts (fB st),scope:=fS st,globals:=g,closure:=[],defaults:=dV,kwdefaults:=.none,doc:=.none,pyModule:=pm,annotations:=none,code:=cd,closureTuple:=.none,builtins:=b } }
noncomputable def kO (t:String)(sl:List (Option Value))(n:String)(bs mro:List Value)(ns:Addr)(q:String)(hd:Bool)(sub:List Value)(ab dl:Bool):Obj:=
 { cls:=.type t,data:=.cls { name:=Str.ofString n,bases:=bs,mro:=mro,ns:=ns,qualname:=Str.ofString q,hasDict:=hd,slotNames:=[],subclasses:=sub,abstract:=ab,collection:=none,hasDel:=dl },slots:=sl.toArray }
noncomputable def cN:List Value:=[N,N,N,N]
noncomputable def cR (a b c:Addr):List Value:=[N,(r a),(r b),(r c)]
noncomputable def cO (n q:String)(t u l a b c d:Nat)(x:Addr)(f:Bool)(y:Addr)(m:List Value):Obj:=fO "code" ([(s n t),(s q (t+1)),(s "/claim/cut.py" (t+2)),(i l 0),(i a 0),(i b 0),(i c 0),(i d 0),(r x),(.bool f),(i 181 0),(r y)]++(m++[(i u 0),(i l 0),(s "/claim/cut.py" (u+1))]))
noncomputable def CU (n:String)(t u l a b c d:Nat)(x:Addr)(f:Bool)(y:Addr)(m:List Value):Obj:=cO n n t u l a b c d x f y m
noncomputable def fR (a b:Addr)(n:String)(t:Nat):Obj:=pO "frame" [o (r a),o (r 3),o (r b),none,o (s n t),none,o (r 0)]
noncomputable def LE:Obj:=fO "builtin_function_or_method" [(bt "type.__prepare__"),(ty "type")]
noncomputable def Lw (a:Addr):Obj:=fO "builtin_function_or_method" [(bt "object.__init_subclass__"),(r a)]
noncomputable def sU (a:Addr):Obj:=fO "super" [(r a),(r a),(r a)]
noncomputable def tI (n:Nat):Obj:=fO "tuple_iterator" [N,(i n 0)]
noncomputable def eF (P:Params)(t l u:Nat):DictEntry:=e P "__firstlineno__" t (i l u)
noncomputable def eS (P:Params)(t:Nat)(a:Addr):DictEntry:=e P "__static_attributes__" t (r a)
noncomputable def eM (P:Params)(t:Nat)(m:String)(u:Nat):DictEntry:=e P "__module__" t (s m u)
noncomputable def eQ (P:Params)(t:Nat)(m:String)(u:Nat):DictEntry:=e P "__qualname__" t (s m u)
noncomputable def eD (P:Params)(t:Nat):DictEntry:=e P "__doc__" t N
noncomputable def eI (P:Params)(t:Nat)(a:Addr):DictEntry:=e P "__init__" t (r a)
noncomputable def X3 (l:List Value):Obj:=kO "type" [o (r 22),none,o (s "PageError" 196),o (s "PageError" 204),o (bt "ValueError.__new__"),o (.bool true)] "PageError" [(ty "ValueError")] [(r 39),(ty "ValueError"),(ty "Exception"),(ty "BaseException"),(ty "object")] 38 "PageError" true l false false
noncomputable def fF (st:Stmt)(n q:String)(g:Addr)(dV pm cd:Value)(b:Addr):Obj:=fn (ty "function") st n q g dV pm cd b
noncomputable def fZ (st:Stmt)(n q:String):Obj:=fn N st n q 0 N N N 0
noncomputable def cQ {α:Type}:List α→Nat→α→List α
 | [],_,e=>[e]
 | _::l,0,e=>e::l
 | x::l,n+1,e=>x::cQ l n e
noncomputable def BR {α:Type}:List α→List (Nat×α)→List α
 | l,[]=>l
 | l,(j,e)::m=>BR (cQ l j e) m
noncomputable def JT:BT→List (Addr×Obj)→BT
 | t,[]=>t
 | t,(a,o)::l=>JT (t.ins a o) l
noncomputable def vT:Nat→List String→List Value
 | _,[]=>[]
 | t,x::l=>s x t::vT (t+1) l
noncomputable def fb (k:Addr)(st:Stmt)(n q:String)(t l a b c d:Nat)(cs:List Value)(vs:List String)(dv:Value)(m:String)(tm:Nat):List (Addr×Obj):=
 [(k,tp []),(k+1,f0 cs),(k+2,tp (vT (t+3) vs)),(k+3,tp []),(k+4,fZ st n q),(k+5,cO n q t (t+3+vs.length) l a b c d k true (k+1) (cR (k+2) (k+3) (k+4))),(k+6,fF st n q 3 dv (s m tm) (r (k+5)) 0)]
noncomputable def CT:BT→List (List (Addr×Obj))→BT
 | t,[]=>t
 | t,l::r=>CT (JT t l) r
noncomputable def ev:Env:={ scope:=pw.main.scope,locals:=mainNs,globals:=mainNs,cells:=[],code:=.ref 13,frame:=some 14 }
noncomputable def cE:Code:=.body (behindTheImports pw) ev
noncomputable def Ao:List Frame:=[topFrame ⟨0,0,0,0⟩]
noncomputable def st (T:Params→BT)(w:World)(n toks:Nat)(os:OsState):SharedT:=⟨T w.params,n,{},Array.mk [],{},toks,os⟩
noncomputable def T0 (P:Params):BT:=JT .nil [(0,boot_o_0 P),(1,boot_o_1 P),(2,boot_o_2 P),(3,boot_o_3 P),(4,boot_o_4 P),(5,boot_o_5 P),(6,boot_o_6 P),(7,boot_o_7 P),(8,boot_o_8 P),(9,boot_o_9 P),(10,boot_o_10 P),(11,tp []),(12,f0 []),(13,CU "<module>" 182 185 1 0 0 0 0 11 false 12 cN),(14,fR 13 3 "__main__" 164)]
noncomputable def g0 (P:Params):List DictEntry:=[e P "__name__" 165 (s "__main__" 164),eD P 166,e P "__package__" 167 N,e P "__loader__" 168 (bt "__main__.__loader__#opaque"),e P "__spec__" 169 N,e P "__annotations__" 170 (r 6),e P "__builtins__" 171 (r 4),e P "__file__" 173 (s "/claim/cut.py" 172),e P "__cached__" 174 N]
noncomputable def c0:List Value:=[]
noncomputable def g1 (P:Params):List DictEntry:=BR (g0 P) [(0,e P "__name__" 165 (s "gluepage.errors" 194)),(9,e P "_wall" 193 (r 21)),(10,e P "PageError" 223 (r 39))]
noncomputable def c1:List Value:=c0++[(i 1 0),(i 0 0),(r 20),(i 5 0),(i 0 0),(r 27)]
noncomputable def T1 (P:Params):BT:=CT (T0 P) [[(3,dO (g1 P) 11),(12,f0 c1)],
 fb 15 (sm 0) "_wall" "_wall" 187 1 1 0 0 3 [] ["k"] N "__main__" 164,
 [(22,tp [(ty "ValueError")]),(23,LE),(24,dO [eM P 203 "gluepage.errors" 194,eQ P 205 "PageError" 204,eF P 207 5 206,eI P 216 36,eS P 218 37] 5),(25,tp []),(26,f0 [(i 7 0),(i 4 0),(r 35)]),(27,CU "PageError" 198 201 5 0 0 0 0 25 false 26 cN),(28,fR 27 24 "gluepage.errors" 194),(29,tp [(s "" 208)])],
 fb 30 (cm 2 0) "__init__" "PageError.__init__" 209 7 2 0 0 3 [] ["self","reason"] (r 29) "gluepage.errors" 194,
 [(37,tp [(s "reason" 217)]),
 (38,dO [eM P 203 "gluepage.errors" 194,eF P 207 5 206,eI P 216 36,eS P 218 37,e P "__weakref__" 220 (r 40),eD P 221] 3),
 (39,X3 []),
 (40,fO "getset_descriptor" [(s "__weakref__" 219),(r 39),(bt "ExceptionGroup.__weakref__"),N]),
 (41,sU 39),
 (42,Lw 39)]]
noncomputable def g2 (P:Params):List DictEntry:=BR (g1 P) [(11,e P "BadArgument" 239 (r 52))]
noncomputable def c2:List Value:=c1++[(i 9 0),(i 0 0),(r 48)]
noncomputable def T2 (P:Params):BT:=JT (T1 P) [(3,dO (g2 P) 12),
 (12,f0 c2),
 (39,X3 [(r 52)]),
 (43,tp [(r 39)]),
 (44,LE),
 (45,dO [eM P 231 "gluepage.errors" 194,eQ P 233 "BadArgument" 232,eF P 235 9 234,eS P 236 50] 4),
 (46,tp []),
 (47,f0 []),
 (48,CU "BadArgument" 226 229 9 0 0 0 0 46 false 47 cN),
 (49,fR 48 45 "gluepage.errors" 194),
 (50,tp []),
 (51,dO [eM P 231 "gluepage.errors" 194,eF P 235 9 234,eS P 236 50,eD P 237] 2),
 (52,kO "type" [o (r 43),none,o (s "BadArgument" 224),o (s "BadArgument" 232),o (bt "ValueError.__new__"),o (.bool true)] "BadArgument" [(r 39)] [(r 52),(r 39),(ty "ValueError"),(ty "Exception"),(ty "BaseException"),(ty "object")] 51 "BadArgument" true [] false false),
 (53,sU 52),
 (54,Lw 52)]
noncomputable def g3 (P:Params):List DictEntry:=BR (g2 P) [(12,e P "Overflow" 255 (r 64))]
noncomputable def c3:List Value:=c2++[(i 11 0),(i 0 0),(r 60)]
noncomputable def T3 (P:Params):BT:=JT (T2 P) [(3,dO (g3 P) 13),
 (12,f0 c3),
 (39,X3 [(r 52),(r 64)]),
 (55,tp [(r 39)]),
 (56,LE),
 (57,dO [eM P 247 "gluepage.errors" 194,eQ P 249 "Overflow" 248,eF P 251 11 250,eS P 252 62] 4),
 (58,tp []),
 (59,f0 []),
 (60,CU "Overflow" 242 245 11 0 0 0 0 58 false 59 cN),
 (61,fR 60 57 "gluepage.errors" 194),
 (62,tp []),
 (63,dO [eM P 247 "gluepage.errors" 194,eF P 251 11 250,eS P 252 62,eD P 253] 2),
 (64,kO "type" [o (r 55),none,o (s "Overflow" 240),o (s "Overflow" 248),o (bt "ValueError.__new__"),o (.bool true)] "Overflow" [(r 39)] [(r 64),(r 39),(ty "ValueError"),(ty "Exception"),(ty "BaseException"),(ty "object")] 63 "Overflow" true [] false false),
 (65,sU 64),
 (66,Lw 64)]
noncomputable def g4 (P:Params):List DictEntry:=BR (g3 P) [(13,e P "BadFont" 271 (r 76))]
noncomputable def c4:List Value:=c3++[(i 13 0),(i 0 0),(r 72)]
noncomputable def T4 (P:Params):BT:=JT (T3 P) [(3,dO (g4 P) 14),
 (12,f0 c4),
 (39,X3 [(r 52),(r 64),(r 76)]),
 (67,tp [(r 39)]),
 (68,LE),
 (69,dO [eM P 263 "gluepage.errors" 194,eQ P 265 "BadFont" 264,eF P 267 13 266,eS P 268 74] 4),
 (70,tp []),
 (71,f0 []),
 (72,CU "BadFont" 258 261 13 0 0 0 0 70 false 71 cN),
 (73,fR 72 69 "gluepage.errors" 194),
 (74,tp []),
 (75,dO [eM P 263 "gluepage.errors" 194,eF P 267 13 266,eS P 268 74,eD P 269] 2),
 (76,kO "type" [o (r 67),none,o (s "BadFont" 256),o (s "BadFont" 264),o (bt "ValueError.__new__"),o (.bool true)] "BadFont" [(r 39)] [(r 76),(r 39),(ty "ValueError"),(ty "Exception"),(ty "BaseException"),(ty "object")] 75 "BadFont" true [] false false),
 (77,sU 76),
 (78,Lw 76)]
noncomputable def g5 (P:Params):List DictEntry:=BR (g4 P) [(14,e P "BadDevice" 287 (r 88))]
noncomputable def c5:List Value:=c4++[(i 15 0),(i 0 0),(r 84)]
noncomputable def T5 (P:Params):BT:=JT (T4 P) [(3,dO (g5 P) 15),
 (12,f0 c5),
 (39,X3 [(r 52),(r 64),(r 76),(r 88)]),
 (79,tp [(r 39)]),
 (80,LE),
 (81,dO [eM P 279 "gluepage.errors" 194,eQ P 281 "BadDevice" 280,eF P 283 15 282,eS P 284 86] 4),
 (82,tp []),
 (83,f0 []),
 (84,CU "BadDevice" 274 277 15 0 0 0 0 82 false 83 cN),
 (85,fR 84 81 "gluepage.errors" 194),
 (86,tp []),
 (87,dO [eM P 279 "gluepage.errors" 194,eF P 283 15 282,eS P 284 86,eD P 285] 2),
 (88,kO "type" [o (r 79),none,o (s "BadDevice" 272),o (s "BadDevice" 280),o (bt "ValueError.__new__"),o (.bool true)] "BadDevice" [(r 39)] [(r 88),(r 39),(ty "ValueError"),(ty "Exception"),(ty "BaseException"),(ty "object")] 87 "BadDevice" true [] false false),
 (89,sU 88),
 (90,Lw 88)]
noncomputable def g6 (P:Params):List DictEntry:=BR (g5 P) [(15,e P "TooDeep" 303 (r 100))]
noncomputable def c6:List Value:=c5++[(i 17 0),(i 0 0),(r 96)]
noncomputable def T6 (P:Params):BT:=JT (T5 P) [(3,dO (g6 P) 16),
 (12,f0 c6),
 (39,X3 [(r 52),(r 64),(r 76),(r 88),(r 100)]),
 (91,tp [(r 39)]),
 (92,LE),
 (93,dO [eM P 295 "gluepage.errors" 194,eQ P 297 "TooDeep" 296,eF P 299 17 298,eS P 300 98] 4),
 (94,tp []),
 (95,f0 []),
 (96,CU "TooDeep" 290 293 17 0 0 0 0 94 false 95 cN),
 (97,fR 96 93 "gluepage.errors" 194),
 (98,tp []),
 (99,dO [eM P 295 "gluepage.errors" 194,eF P 299 17 298,eS P 300 98,eD P 301] 2),
 (100,kO "type" [o (r 91),none,o (s "TooDeep" 288),o (s "TooDeep" 296),o (bt "ValueError.__new__"),o (.bool true)] "TooDeep" [(r 39)] [(r 100),(r 39),(ty "ValueError"),(ty "Exception"),(ty "BaseException"),(ty "object")] 99 "TooDeep" true [] false false),
 (101,sU 100),
 (102,Lw 100)]
noncomputable def g7 (P:Params):List DictEntry:=BR (g6 P) [(0,e P "__name__" 165 (s "gluepage.scaled" 320)),(16,e P "TooMuch" 319 (r 112)),(17,e P "UNITY" 323 (i 65536 322)),(18,e P "MAX_DIMEN" 329 (i 1073741823 328)),(19,e P "MAX_NUMBER" 335 (i 2147483647 334)),(20,e P "NORMAL" 340 (i 0 336)),(21,e P "FIL" 341 (i 1 337)),(22,e P "FILL" 342 (i 2 338)),(23,e P "FILLL" 343 (i 3 339)),(24,e P "is_whole" 352 (r 125))]
noncomputable def c7:List Value:=c6++[(i 19 0),(i 0 0),(r 108),(i 26 0),(i 0 0),(r 124)]
noncomputable def T7 (P:Params):BT:=CT (T6 P) [[(3,dO (g7 P) 25),(12,f0 c7),(39,X3 [(r 52),(r 64),(r 76),(r 88),(r 100),(r 112)]),(103,tp [(r 39)]),(104,LE),(105,dO [eM P 311 "gluepage.errors" 194,eQ P 313 "TooMuch" 312,eF P 315 19 314,eS P 316 110] 4),(106,tp []),(107,f0 []),(108,CU "TooMuch" 306 309 19 0 0 0 0 106 false 107 cN),(109,fR 108 105 "gluepage.errors" 194),(110,tp []),(111,dO [eM P 311 "gluepage.errors" 194,eF P 315 19 314,eS P 316 110,eD P 317] 2),(112,kO "type" [o (r 103),none,o (s "TooMuch" 304),o (s "TooMuch" 312),o (bt "ValueError.__new__"),o (.bool true)] "TooMuch" [(r 39)] [(r 112),(r 39),(ty "ValueError"),(ty "Exception"),(ty "BaseException"),(ty "object")] 111 "TooMuch" true [] false false),(113,sU 112),(114,Lw 112),(115,tp [(i 0 336),(i 1 337),(i 2 338),(i 3 339)]),(116,tI 4),(117,tp []),(118,fO "StopIteration" [(r 117),N,N,N,(.bool false),N])],
 fb 119 (sm 14) "is_whole" "is_whole" 344 26 3 0 0 3 [] ["value","low","high"] N "gluepage.scaled" 320]
noncomputable def g8 (P:Params):List DictEntry:=BR (g7 P) [(25,e P "check_whole" 359 (r 132)),(26,e P "check_number" 366 (r 139)),(27,e P "check_dimen" 373 (r 146)),(28,e P "rounded" 381 (r 153)),(29,e P "reading" 389 (r 160)),(30,e P "decimal_text" 402 (r 167)),(31,e P "order_text" 409 (r 174)),(32,e P "part_text" 418 (r 181))]
noncomputable def c8:List Value:=c7++[(i 28 0),(i 0 0),(r 131),(i 32 0),(i 0 0),(r 138),(i 36 0),(i 0 0),(r 145),(i 40 0),(i 0 0),(r 152),(i 46 0),(i 0 0),(r 159),(i 48 0),(i 0 0),(r 166),(i 59 0),(i 0 0),(r 173),(i 61 0),(i 0 0),(r 180)]
noncomputable def T8 (P:Params):BT:=CT (T7 P) [[(3,dO (g8 P) 33),(12,f0 c8)],
 fb 126 (sm 15) "check_whole" "check_whole" 353 28 1 0 0 3 [] ["value"] N "gluepage.scaled" 320,
 fb 133 (sm 16) "check_number" "check_number" 360 32 1 0 0 3 [] ["value"] N "gluepage.scaled" 320,
 fb 140 (sm 17) "check_dimen" "check_dimen" 367 36 1 0 0 3 [] ["value"] N "gluepage.scaled" 320,
 fb 147 (sm 18) "rounded" "rounded" 374 40 2 0 0 3 [] ["number","by"] N "gluepage.scaled" 320,
 fb 154 (sm 19) "reading" "reading" 382 46 2 0 0 3 [] ["whole","scale"] N "gluepage.scaled" 320,
 fb 161 (sm 20) "decimal_text" "decimal_text" 390 48 1 0 0 3 [] ["value","sign","points","part","scale","near","places"] N "gluepage.scaled" 320,
 fb 168 (sm 21) "order_text" "order_text" 403 59 1 0 0 3 [] ["order"] N "gluepage.scaled" 320,
 fb 175 (sm 22) "part_text" "part_text" 410 61 3 0 0 3 [] ["value","order","unit"] N "gluepage.scaled" 320]
noncomputable def g9 (P:Params):List DictEntry:=BR (g8 P) [(33,e P "Glue" 516 (r 249))]
noncomputable def c9:List Value:=c8++[(i 63 0),(i 0 0),(r 187)]
noncomputable def T9 (P:Params):BT:=CT (T8 P) [[(3,dO (g9 P) 34),(12,f0 c9),(182,tp []),(183,LE),(184,dO [eM P 426 "gluepage.scaled" 320,eQ P 428 "Glue" 427,eF P 430 63 429,eI P 447 196,e P "parts" 454 (r 203),e P "same" 462 (r 210),e P "added" 470 (r 217),e P "times" 478 (r 224),e P "over" 486 (r 231),e P "negated" 493 (r 238),e P "text" 503 (r 246),eS P 509 247] 12),(185,tp []),(186,f0 [(i 65 0),(i 4 0),(r 195),(i 74 0),(i 4 0),(r 202),(i 77 0),(i 4 0),(r 209),(i 80 0),(i 4 0),(r 216),(i 83 0),(i 4 0),(r 223),(i 86 0),(i 4 0),(r 230),(i 89 0),(i 4 0),(r 237),(i 92 0),(i 4 0),(r 245)]),(187,CU "Glue" 421 424 63 0 0 0 0 185 false 186 cN),(188,fR 187 184 "gluepage.scaled" 320),(189,tp [(i 0 431),(i 0 432),(i 0 433),(i 0 434),(i 0 435)])],
 fb 190 (cm 23 0) "__init__" "Glue.__init__" 436 65 6 0 0 3 [] ["self","width","stretch","stretch_order","shrink","shrink_order"] (r 189) "gluepage.scaled" 320,
 fb 197 (cm 23 1) "parts" "Glue.parts" 448 74 1 0 0 3 [] ["self"] N "gluepage.scaled" 320,
 fb 204 (cm 23 2) "same" "Glue.same" 455 77 2 0 0 3 [] ["self","other"] N "gluepage.scaled" 320,
 fb 211 (cm 23 3) "added" "Glue.added" 463 80 2 0 0 3 [] ["self","other"] N "gluepage.scaled" 320,
 fb 218 (cm 23 4) "times" "Glue.times" 471 83 2 0 0 3 [] ["self","count"] N "gluepage.scaled" 320,
 fb 225 (cm 23 5) "over" "Glue.over" 479 86 2 0 0 3 [] ["self","by"] N "gluepage.scaled" 320,
 fb 232 (cm 23 6) "negated" "Glue.negated" 487 89 1 0 0 3 [] ["self"] N "gluepage.scaled" 320,
 [(239,tp [(s "pt" 494)])],
 fb 240 (cm 23 7) "text" "Glue.text" 495 92 2 0 0 3 [] ["self","unit","found"] (r 239) "gluepage.scaled" 320,
 [(247,tp [(s "shrink" 504),(s "shrink_order" 505),(s "stretch" 506),(s "stretch_order" 507),(s "width" 508)]),
 (248,dO [eM P 426 "gluepage.scaled" 320,eF P 430 63 429,eI P 447 196,e P "parts" 454 (r 203),e P "same" 462 (r 210),e P "added" 470 (r 217),e P "times" 478 (r 224),e P "over" 486 (r 231),e P "negated" 493 (r 238),e P "text" 503 (r 246),eS P 509 247,e P "__dict__" 511 (r 250),e P "__weakref__" 513 (r 251),eD P 514] 4),
 (249,kO "type" [none,none,o (s "Glue" 419),o (s "Glue" 427),o (bt "object.__new__"),o (.bool true)] "Glue" [(ty "object")] [(r 249),(ty "object")] 248 "Glue" true [] false false),
 (250,fO "getset_descriptor" [(s "__dict__" 510),(r 249),(bt "function.__dict__"),(bt "function.__dict__#set")]),
 (251,fO "getset_descriptor" [(s "__weakref__" 512),(r 249),(bt "ExceptionGroup.__weakref__"),N]),
 (252,sU 249),
 (253,Lw 249)]]
noncomputable def kA (P:Params):List DictEntry:=BR (g9 P) [(0,e P "__name__" 165 (s "gluepage.nodes" 517)),(34,e P "CHAR" 527 (i 0 519)),(35,e P "LIGATURE" 528 (i 1 520)),(36,e P "HBOX" 529 (i 2 521)),(37,e P "VBOX" 530 (i 3 522)),(38,e P "RULE" 531 (i 4 523)),(39,e P "KERN" 532 (i 5 524)),(40,e P "GLUE" 533 (i 6 525)),(41,e P "PENALTY" 534 (i 7 526)),(42,e P "DISC" 542 (i 8 535)),(43,e P "MARK" 543 (i 9 536)),(44,e P "INSERT" 544 (i 10 537)),(45,e P "ADJUST" 545 (i 11 538)),(46,e P "MATH" 546 (i 12 539)),(47,e P "SPECIAL" 547 (i 13 540)),(48,e P "UNSET" 548 (i 14 541)),(49,e P "NATURAL" 552 (i 0 549)),(50,e P "STRETCHED" 553 (i 1 550)),(51,e P "SHRUNK" 554 (i 2 551))]
noncomputable def c10:List Value:=c9++[]
noncomputable def Uy (P:Params):BT:=JT (T9 P) [(3,dO (kA P) 52),
 (254,tp [(i 0 519),(i 1 520),(i 2 521),(i 3 522),(i 4 523),(i 5 524),(i 6 525),(i 7 526)]),
 (255,tI 8),
 (256,tp []),
 (257,fO "StopIteration" [(r 256),N,N,N,(.bool false),N]),
 (258,tp [(i 8 535),(i 9 536),(i 10 537),(i 11 538),(i 12 539),(i 13 540),(i 14 541)]),
 (259,tI 7),
 (260,tp []),
 (261,fO "StopIteration" [(r 260),N,N,N,(.bool false),N]),
 (262,tp [(i 0 549),(i 1 550),(i 2 551)]),
 (263,tI 3),
 (264,tp []),
 (265,fO "StopIteration" [(r 264),N,N,N,(.bool false),N])]
noncomputable def j9 (P:Params):List DictEntry:=BR (kA P) [(52,e P "FONT_KERN" 559 (i 0 555)),(53,e P "EXPLICIT" 560 (i 1 556)),(54,e P "ACCENT_KERN" 561 (i 2 557)),(55,e P "MU_KERN" 562 (i 3 558)),(56,e P "PLAIN" 570 (i 0 563)),(57,e P "ALEADERS" 571 (i 1 564)),(58,e P "CLEADERS" 572 (i 2 565)),(59,e P "XLEADERS" 573 (i 3 566)),(60,e P "MU_SKIP" 574 (i 4 567)),(61,e P "NONSCRIPT" 575 (i 5 568)),(62,e P "NAMED" 576 (i 100 569)),(63,e P "FOR_DEVICE" 581 (i 0 577)),(64,e P "WRITING" 582 (i 1 578)),(65,e P "OPENING" 583 (i 2 579)),(66,e P "CLOSING" 584 (i 3 580)),(67,e P "DEEPEST" 586 (i 60 585)),(68,e P "check_code" 593 (r 284))]
noncomputable def c11:List Value:=c10++[(i 107 0),(i 0 0),(r 283)]
noncomputable def YX (P:Params):BT:=CT (Uy P) [[(3,dO (j9 P) 69),(12,f0 c11),(266,tp [(i 0 555),(i 1 556),(i 2 557),(i 3 558)]),(267,tI 4),(268,tp []),(269,fO "StopIteration" [(r 268),N,N,N,(.bool false),N]),(270,tp [(i 0 563),(i 1 564),(i 2 565),(i 3 566),(i 4 567),(i 5 568),(i 100 569)]),(271,tI 7),(272,tp []),(273,fO "StopIteration" [(r 272),N,N,N,(.bool false),N]),(274,tp [(i 0 577),(i 1 578),(i 2 579),(i 3 580)]),(275,tI 4),(276,tp []),(277,fO "StopIteration" [(r 276),N,N,N,(.bool false),N])],
 fb 278 (sm 32) "check_code" "check_code" 587 107 1 0 0 3 [] ["code"] N "gluepage.nodes" 517]
noncomputable def i4 (P:Params):List DictEntry:=BR (j9 P) [(69,e P "Char" 625 (r 301))]
noncomputable def c12:List Value:=c11++[(i 111 0),(i 0 0),(r 290)]
noncomputable def dG (P:Params):BT:=CT (YX P) [[(3,dO (i4 P) 70),(12,f0 c12),(285,tp []),(286,LE),(287,dO [eM P 601 "gluepage.nodes" 517,eQ P 603 "Char" 602,eF P 605 111 604,e P "kind" 606 (i 0 519),eI P 615 298,eS P 618 299] 6),(288,tp []),(289,f0 [(i 114 0),(i 4 0),(r 297)]),(290,CU "Char" 596 599 111 0 0 0 0 288 false 289 cN),(291,fR 290 287 "gluepage.nodes" 517)],
 fb 292 (cm 33 1) "__init__" "Char.__init__" 607 114 3 0 0 3 [] ["self","font","code"] N "gluepage.nodes" 517,
 [(299,tp [(s "code" 616),(s "font" 617)]),
 (300,dO [eM P 601 "gluepage.nodes" 517,eF P 605 111 604,e P "kind" 606 (i 0 519),eI P 615 298,eS P 618 299,e P "__dict__" 620 (r 302),e P "__weakref__" 622 (r 303),eD P 623] 4),
 (301,kO "type" [none,none,o (s "Char" 594),o (s "Char" 602),o (bt "object.__new__"),o (.bool true)] "Char" [(ty "object")] [(r 301),(ty "object")] 300 "Char" true [] false false),
 (302,fO "getset_descriptor" [(s "__dict__" 619),(r 301),(bt "function.__dict__"),(bt "function.__dict__#set")]),
 (303,fO "getset_descriptor" [(s "__weakref__" 621),(r 301),(bt "ExceptionGroup.__weakref__"),N]),
 (304,sU 301),
 (305,Lw 301)]]
noncomputable def jl (P:Params):List DictEntry:=BR (i4 P) [(70,e P "Box" 666 (r 322))]
noncomputable def c13:List Value:=c12++[(i 117 0),(i 0 0),(r 311)]
noncomputable def cw (P:Params):BT:=CT (dG P) [[(3,dO (jl P) 71),(12,f0 c13),(306,tp []),(307,LE),(308,dO [eM P 633 "gluepage.nodes" 517,eQ P 635 "Box" 634,eF P 637 117 636,eI P 649 319,eS P 659 320] 5),(309,tp []),(310,f0 [(i 119 0),(i 4 0),(r 318)]),(311,CU "Box" 628 631 117 0 0 0 0 309 false 310 cN),(312,fR 311 308 "gluepage.nodes" 517)],
 fb 313 (cm 34 0) "__init__" "Box.__init__" 638 119 6 0 0 3 [] ["self","kind","width","height","depth","items"] N "gluepage.nodes" 517,
 [(320,tp [(s "depth" 650),(s "height" 651),(s "items" 652),(s "kind" 653),(s "order" 654),(s "ratio" 655),(s "shift" 656),(s "sign" 657),(s "width" 658)]),
 (321,dO [eM P 633 "gluepage.nodes" 517,eF P 637 117 636,eI P 649 319,eS P 659 320,e P "__dict__" 661 (r 323),e P "__weakref__" 663 (r 324),eD P 664] 4),
 (322,kO "type" [none,none,o (s "Box" 626),o (s "Box" 634),o (bt "object.__new__"),o (.bool true)] "Box" [(ty "object")] [(r 322),(ty "object")] 321 "Box" true [] false false),
 (323,fO "getset_descriptor" [(s "__dict__" 660),(r 322),(bt "function.__dict__"),(bt "function.__dict__#set")]),
 (324,fO "getset_descriptor" [(s "__weakref__" 662),(r 322),(bt "ExceptionGroup.__weakref__"),N]),
 (325,sU 322),
 (326,Lw 322)]]
noncomputable def ja (P:Params):List DictEntry:=BR (jl P) [(71,e P "Kern" 698 (r 343))]
noncomputable def c14:List Value:=c13++[(i 131 0),(i 0 0),(r 332)]
noncomputable def dF (P:Params):BT:=CT (cw P) [[(3,dO (ja P) 72),(12,f0 c14),(327,tp []),(328,LE),(329,dO [eM P 674 "gluepage.nodes" 517,eQ P 676 "Kern" 675,eF P 678 131 677,e P "kind" 679 (i 5 524),eI P 688 340,eS P 691 341] 6),(330,tp []),(331,f0 [(i 134 0),(i 4 0),(r 339)]),(332,CU "Kern" 669 672 131 0 0 0 0 330 false 331 cN),(333,fR 332 329 "gluepage.nodes" 517)],
 fb 334 (cm 35 1) "__init__" "Kern.__init__" 680 134 3 0 0 3 [] ["self","width","sort"] N "gluepage.nodes" 517,
 [(341,tp [(s "sort" 689),(s "width" 690)]),
 (342,dO [eM P 674 "gluepage.nodes" 517,eF P 678 131 677,e P "kind" 679 (i 5 524),eI P 688 340,eS P 691 341,e P "__dict__" 693 (r 344),e P "__weakref__" 695 (r 345),eD P 696] 4),
 (343,kO "type" [none,none,o (s "Kern" 667),o (s "Kern" 675),o (bt "object.__new__"),o (.bool true)] "Kern" [(ty "object")] [(r 343),(ty "object")] 342 "Kern" true [] false false),
 (344,fO "getset_descriptor" [(s "__dict__" 692),(r 343),(bt "function.__dict__"),(bt "function.__dict__#set")]),
 (345,fO "getset_descriptor" [(s "__weakref__" 694),(r 343),(bt "ExceptionGroup.__weakref__"),N]),
 (346,sU 343),
 (347,Lw 343)]]
noncomputable def iu (P:Params):List DictEntry:=BR (ja P) [(72,e P "Skip" 732 (r 365))]
noncomputable def c15:List Value:=c14++[(i 139 0),(i 0 0),(r 353)]
noncomputable def dC (P:Params):BT:=CT (dF P) [[(3,dO (iu P) 73),(12,f0 c15),(348,tp []),(349,LE),(350,dO [eM P 706 "gluepage.nodes" 517,eQ P 708 "Skip" 707,eF P 710 139 709,e P "kind" 711 (i 6 525),eI P 721 362,eS P 725 363] 6),(351,tp []),(352,f0 [(i 142 0),(i 4 0),(r 361)]),(353,CU "Skip" 701 704 139 0 0 0 0 351 false 352 cN),(354,fR 353 350 "gluepage.nodes" 517),(355,tp [N])],
 fb 356 (cm 36 1) "__init__" "Skip.__init__" 712 142 4 0 0 3 [] ["self","glue","sort","leader"] (r 355) "gluepage.nodes" 517,
 [(363,tp [(s "glue" 722),(s "leader" 723),(s "sort" 724)]),
 (364,dO [eM P 706 "gluepage.nodes" 517,eF P 710 139 709,e P "kind" 711 (i 6 525),eI P 721 362,eS P 725 363,e P "__dict__" 727 (r 366),e P "__weakref__" 729 (r 367),eD P 730] 4),
 (365,kO "type" [none,none,o (s "Skip" 699),o (s "Skip" 707),o (bt "object.__new__"),o (.bool true)] "Skip" [(ty "object")] [(r 365),(ty "object")] 364 "Skip" true [] false false),
 (366,fO "getset_descriptor" [(s "__dict__" 726),(r 365),(bt "function.__dict__"),(bt "function.__dict__#set")]),
 (367,fO "getset_descriptor" [(s "__weakref__" 728),(r 365),(bt "ExceptionGroup.__weakref__"),N]),
 (368,sU 365),
 (369,Lw 365)]]
noncomputable def jT (P:Params):List DictEntry:=BR (iu P) [(73,e P "Special" 764 (r 386))]
noncomputable def c16:List Value:=c15++[(i 152 0),(i 0 0),(r 375)]
noncomputable def cx (P:Params):BT:=CT (dC P) [[(3,dO (jT P) 74),(12,f0 c16),(370,tp []),(371,LE),(372,dO [eM P 740 "gluepage.nodes" 517,eQ P 742 "Special" 741,eF P 744 152 743,e P "kind" 745 (i 13 540),e P "sort" 746 (i 0 577),eI P 755 383,eS P 757 384] 7),(373,tp []),(374,f0 [(i 156 0),(i 4 0),(r 382)]),(375,CU "Special" 735 738 152 0 0 0 0 373 false 374 cN),(376,fR 375 372 "gluepage.nodes" 517)],
 fb 377 (cm 37 2) "__init__" "Special.__init__" 747 156 2 0 0 3 [] ["self","octets","octet"] N "gluepage.nodes" 517,
 [(384,tp [(s "octets" 756)]),
 (385,dO [eM P 740 "gluepage.nodes" 517,eF P 744 152 743,e P "kind" 745 (i 13 540),e P "sort" 746 (i 0 577),eI P 755 383,eS P 757 384,e P "__dict__" 759 (r 387),e P "__weakref__" 761 (r 388),eD P 762] 4),
 (386,kO "type" [none,none,o (s "Special" 733),o (s "Special" 741),o (bt "object.__new__"),o (.bool true)] "Special" [(ty "object")] [(r 386),(ty "object")] 385 "Special" true [] false false),
 (387,fO "getset_descriptor" [(s "__dict__" 758),(r 386),(bt "function.__dict__"),(bt "function.__dict__#set")]),
 (388,fO "getset_descriptor" [(s "__weakref__" 760),(r 386),(bt "ExceptionGroup.__weakref__"),N]),
 (389,sU 386),
 (390,Lw 386)]]
noncomputable def iL (P:Params):List DictEntry:=BR (jT P) [(74,e P "Write" 797 (r 407))]
noncomputable def c17:List Value:=c16++[(i 163 0),(i 0 0),(r 396)]
noncomputable def cj (P:Params):BT:=CT (cx P) [[(3,dO (iL P) 75),(12,f0 c17),(391,tp []),(392,LE),(393,dO [eM P 772 "gluepage.nodes" 517,eQ P 774 "Write" 773,eF P 776 163 775,e P "kind" 777 (i 13 540),e P "sort" 778 (i 1 578),eI P 787 404,eS P 790 405] 7),(394,tp []),(395,f0 [(i 167 0),(i 4 0),(r 403)]),(396,CU "Write" 767 770 163 0 0 0 0 394 false 395 cN),(397,fR 396 393 "gluepage.nodes" 517)],
 fb 398 (cm 38 2) "__init__" "Write.__init__" 779 167 3 0 0 3 [] ["self","stream","tokens"] N "gluepage.nodes" 517,
 [(405,tp [(s "stream" 788),(s "tokens" 789)]),
 (406,dO [eM P 772 "gluepage.nodes" 517,eF P 776 163 775,e P "kind" 777 (i 13 540),e P "sort" 778 (i 1 578),eI P 787 404,eS P 790 405,e P "__dict__" 792 (r 408),e P "__weakref__" 794 (r 409),eD P 795] 4),
 (407,kO "type" [none,none,o (s "Write" 765),o (s "Write" 773),o (bt "object.__new__"),o (.bool true)] "Write" [(ty "object")] [(r 407),(ty "object")] 406 "Write" true [] false false),
 (408,fO "getset_descriptor" [(s "__dict__" 791),(r 407),(bt "function.__dict__"),(bt "function.__dict__#set")]),
 (409,fO "getset_descriptor" [(s "__weakref__" 793),(r 407),(bt "ExceptionGroup.__weakref__"),N]),
 (410,sU 407),
 (411,Lw 407)]]
noncomputable def i3 (P:Params):List DictEntry:=BR (iL P) [(75,e P "OpenOut" 830 (r 428))]
noncomputable def jF:List Value:=c17++[(i 170 0),(i 0 0),(r 417)]
noncomputable def cr (P:Params):BT:=CT (cj P) [[(3,dO (i3 P) 76),(12,f0 jF),(412,tp []),(413,LE),(414,dO [eM P 805 "gluepage.nodes" 517,eQ P 807 "OpenOut" 806,eF P 809 170 808,e P "kind" 810 (i 13 540),e P "sort" 811 (i 2 579),eI P 820 425,eS P 823 426] 7),(415,tp []),(416,f0 [(i 174 0),(i 4 0),(r 424)]),(417,CU "OpenOut" 800 803 170 0 0 0 0 415 false 416 cN),(418,fR 417 414 "gluepage.nodes" 517)],
 fb 419 (cm 39 2) "__init__" "OpenOut.__init__" 812 174 3 0 0 3 [] ["self","stream","name"] N "gluepage.nodes" 517,
 [(426,tp [(s "name" 821),(s "stream" 822)]),
 (427,dO [eM P 805 "gluepage.nodes" 517,eF P 809 170 808,e P "kind" 810 (i 13 540),e P "sort" 811 (i 2 579),eI P 820 425,eS P 823 426,e P "__dict__" 825 (r 429),e P "__weakref__" 827 (r 430),eD P 828] 4),
 (428,kO "type" [none,none,o (s "OpenOut" 798),o (s "OpenOut" 806),o (bt "object.__new__"),o (.bool true)] "OpenOut" [(ty "object")] [(r 428),(ty "object")] 427 "OpenOut" true [] false false),
 (429,fO "getset_descriptor" [(s "__dict__" 824),(r 428),(bt "function.__dict__"),(bt "function.__dict__#set")]),
 (430,fO "getset_descriptor" [(s "__weakref__" 826),(r 428),(bt "ExceptionGroup.__weakref__"),N]),
 (431,sU 428),
 (432,Lw 428)]]
noncomputable def jG (P:Params):List DictEntry:=BR (i3 P) [(76,e P "CloseOut" 861 (r 449)),(77,e P "check_depth" 868 (r 460)),(78,e P "described_special" 874 (r 465)),(79,e P "described_rest" 885 (r 472)),(80,e P "described" 892 (r 478)),(81,e P "described_list" 899 (r 484)),(82,e P "width_of" 905 (r 489))]
noncomputable def jh:List Value:=jF++[(i 179 0),(i 0 0),(r 438),(i 185 0),(i 0 0),(r 459),(i 188 0),(i 0 0),(r 464),(i 194 0),(i 0 0),(r 471),(i 209 0),(i 0 0),(r 477),(i 232 0),(i 0 0),(r 483),(i 234 0),(i 0 0),(r 488)]
noncomputable def dK (P:Params):BT:=CT (cr P) [[(3,dO (jG P) 83),(12,f0 jh),(433,tp []),(434,LE),(435,dO [eM P 838 "gluepage.nodes" 517,eQ P 840 "CloseOut" 839,eF P 842 179 841,e P "kind" 843 (i 13 540),e P "sort" 844 (i 3 580),eI P 852 446,eS P 854 447] 7),(436,tp []),(437,f0 [(i 183 0),(i 4 0),(r 445)]),(438,CU "CloseOut" 833 836 179 0 0 0 0 436 false 437 cN),(439,fR 438 435 "gluepage.nodes" 517)],
 fb 440 (cm 40 2) "__init__" "CloseOut.__init__" 845 183 2 0 0 3 [] ["self","stream"] N "gluepage.nodes" 517,
 [(447,tp [(s "stream" 853)]),(448,dO [eM P 838 "gluepage.nodes" 517,eF P 842 179 841,e P "kind" 843 (i 13 540),e P "sort" 844 (i 3 580),eI P 852 446,eS P 854 447,e P "__dict__" 856 (r 450),e P "__weakref__" 858 (r 451),eD P 859] 4),(449,kO "type" [none,none,o (s "CloseOut" 831),o (s "CloseOut" 839),o (bt "object.__new__"),o (.bool true)] "CloseOut" [(ty "object")] [(r 449),(ty "object")] 448 "CloseOut" true [] false false),(450,fO "getset_descriptor" [(s "__dict__" 855),(r 449),(bt "function.__dict__"),(bt "function.__dict__#set")]),(451,fO "getset_descriptor" [(s "__weakref__" 857),(r 449),(bt "ExceptionGroup.__weakref__"),N]),(452,sU 449),(453,Lw 449)],
 fb 454 (sm 41) "check_depth" "check_depth" 862 185 1 0 0 3 [] ["depth"] N "gluepage.nodes" 517,
 [(461,tp []),(462,f0 []),(463,fZ (sm 42) "described_special" "described_special"),(464,CU "described_special" 869 872 188 1 0 0 3 461 true 462 [N,N,N,(r 463)]),(465,fF (sm 42) "described_special" "described_special" 3 N (s "gluepage.nodes" 517) (r 464) 0)],
 fb 466 (sm 43) "described_rest" "described_rest" 875 194 2 0 0 3 [] ["node","depth","kind","sums","sizes"] N "gluepage.nodes" 517,
 [(473,tp [(i 0 886)]),
 (474,tp []),
 (475,f0 []),
 (476,fZ (sm 44) "described" "described"),
 (477,CU "described" 887 890 209 2 0 0 3 474 true 475 [N,N,N,(r 476)]),
 (478,fF (sm 44) "described" "described" 3 (r 473) (s "gluepage.nodes" 517) (r 477) 0),
 (479,tp [(i 0 893)]),
 (480,tp []),
 (481,f0 []),
 (482,fZ (sm 45) "described_list" "described_list"),
 (483,CU "described_list" 894 897 232 2 0 0 3 480 true 481 [N,N,N,(r 482)]),
 (484,fF (sm 45) "described_list" "described_list" 3 (r 479) (s "gluepage.nodes" 517) (r 483) 0),
 (485,tp []),
 (486,f0 []),
 (487,fZ (sm 46) "width_of" "width_of"),
 (488,CU "width_of" 900 903 234 1 0 0 3 485 true 486 [N,N,N,(r 487)]),
 (489,fF (sm 46) "width_of" "width_of" 3 N (s "gluepage.nodes" 517) (r 488) 0)]]
noncomputable def jR (P:Params):List DictEntry:=BR (jG P) [(0,e P "__name__" 165 (s "gluepage.dvi" 997)),(83,e P "height_of" 911 (r 494)),(84,e P "depth_of" 917 (r 499)),(85,e P "line_height" 924 (r 506)),(86,e P "line_depth" 931 (r 513)),(87,e P "MOST_COPIES" 935 (i 2000 934)),(88,e P "leader_places" 941 (r 518)),(89,e P "with_rule_sizes" 951 (r 525)),(90,e P "check_column" 961 (r 532)),(91,e P "flex" 969 (r 539)),(92,e P "set_part" 977 (r 546)),(93,e P "part_size" 985 (r 553)),(94,e P "places" 996 (r 560))]
noncomputable def ik:List Value:=jh++[(i 247 0),(i 0 0),(r 493),(i 260 0),(i 0 0),(r 498),(i 273 0),(i 0 0),(r 505),(i 277 0),(i 0 0),(r 512),(i 283 0),(i 0 0),(r 517),(i 302 0),(i 0 0),(r 524),(i 309 0),(i 0 0),(r 531),(i 313 0),(i 0 0),(r 538),(i 319 0),(i 0 0),(r 545),(i 321 0),(i 0 0),(r 552),(i 325 0),(i 0 0),(r 559)]
noncomputable def YY (P:Params):BT:=CT (dK P) [[(3,dO (jR P) 95),(12,f0 ik),(490,tp []),(491,f0 []),(492,fZ (sm 47) "height_of" "height_of"),(493,CU "height_of" 906 909 247 1 0 0 3 490 true 491 [N,N,N,(r 492)]),(494,fF (sm 47) "height_of" "height_of" 3 N (s "gluepage.nodes" 517) (r 493) 0),(495,tp []),(496,f0 []),(497,fZ (sm 48) "depth_of" "depth_of"),(498,CU "depth_of" 912 915 260 1 0 0 3 495 true 496 [N,N,N,(r 497)]),(499,fF (sm 48) "depth_of" "depth_of" 3 N (s "gluepage.nodes" 517) (r 498) 0)],
 fb 500 (sm 49) "line_height" "line_height" 918 273 1 0 0 3 [] ["node"] N "gluepage.nodes" 517,
 fb 507 (sm 50) "line_depth" "line_depth" 925 277 1 0 0 3 [] ["node"] N "gluepage.nodes" 517,
 [(514,tp []),(515,f0 []),(516,fZ (sm 53) "leader_places" "leader_places"),(517,CU "leader_places" 936 939 283 5 0 0 3 514 true 515 [N,N,N,(r 516)]),(518,fF (sm 53) "leader_places" "leader_places" 3 N (s "gluepage.boxops" 932) (r 517) 0)],
 fb 519 (sm 54) "with_rule_sizes" "with_rule_sizes" 942 302 2 0 0 3 [] ["rule","box","height","width"] N "gluepage.boxops" 932,
 fb 526 (sm 56) "check_column" "check_column" 954 309 1 0 0 3 [] ["items","node"] N "gluepage.packing" 952,
 fb 533 (sm 57) "flex" "flex" 962 313 2 0 0 3 [] ["box","glue"] N "gluepage.packing" 952,
 fb 540 (sm 58) "set_part" "set_part" 970 319 2 0 0 3 [] ["box","flexed"] N "gluepage.packing" 952,
 fb 547 (sm 59) "part_size" "part_size" 978 321 2 0 0 3 [] ["box","node"] N "gluepage.packing" 952,
 fb 554 (sm 60) "places" "places" 986 325 1 0 0 3 [] ["box","found","fixed","flexed","node"] N "gluepage.packing" 952]
noncomputable def iV (P:Params):List DictEntry:=BR (jR P) [(95,e P "SET_1" 1008 (i 128 999)),(96,e P "SET_RULE" 1009 (i 132 1000)),(97,e P "PUT_1" 1010 (i 133 1001)),(98,e P "PUT_RULE" 1011 (i 137 1002)),(99,e P "NO_OPERATION" 1012 (i 138 1003)),(100,e P "PAGE_BEGIN" 1013 (i 139 1004)),(101,e P "PAGE_END" 1014 (i 140 1005)),(102,e P "PUSH" 1015 (i 141 1006)),(103,e P "POP" 1016 (i 142 1007)),(104,e P "RIGHT_1" 1026 (i 143 1017)),(105,e P "DOWN_1" 1027 (i 157 1018)),(106,e P "FONT_0" 1028 (i 171 1019)),(107,e P "FONT_1" 1029 (i 235 1020)),(108,e P "SPECIAL_1" 1030 (i 239 1021)),(109,e P "FONT_DEF_1" 1031 (i 243 1022)),(110,e P "PREAMBLE" 1032 (i 247 1023)),(111,e P "POSTAMBLE" 1033 (i 248 1024)),(112,e P "POST_POST" 1034 (i 249 1025))]
noncomputable def nj:List Value:=ik++[]
noncomputable def Uv (P:Params):BT:=JT (YY P) [(3,dO (iV P) 113),
 (561,tp [(i 128 999),(i 132 1000),(i 133 1001),(i 137 1002),(i 138 1003),(i 139 1004),(i 140 1005),(i 141 1006),(i 142 1007)]),
 (562,tI 9),
 (563,tp []),
 (564,fO "StopIteration" [(r 563),N,N,N,(.bool false),N]),
 (565,tp [(i 143 1017),(i 157 1018),(i 171 1019),(i 235 1020),(i 239 1021),(i 243 1022),(i 247 1023),(i 248 1024),(i 249 1025)]),
 (566,tI 9),
 (567,tp []),
 (568,fO "StopIteration" [(r 567),N,N,N,(.bool false),N])]
noncomputable def jo (P:Params):List DictEntry:=BR (iV P) [(113,e P "FILLING" 1037 (i 223 1035)),(114,e P "IDENTITY" 1038 (i 2 1036)),(115,e P "NUMERATOR" 1042 (i 25400000 1039)),(116,e P "DENOMINATOR" 1043 (i 473628672 1040)),(117,e P "MAGNIFICATION" 1044 (i 1000 1041)),(118,e P "COMMENT_TEXT" 1046 (s "gluepage" 1045)),(119,e P "DEEPEST_BOXES" 1048 (i 60 1047)),(120,e P "FIRST_SET" 1053 (i 5 1049)),(121,e P "SECOND_SET" 1054 (i 10 1050)),(122,e P "FIRST_AGAIN" 1055 (i 4 1051)),(123,e P "SECOND_AGAIN" 1056 (i 9 1052)),(124,e P "FREE" 1063 (i 0 1057)),(125,e P "FIRST_FREE" 1064 (i 1 1058)),(126,e P "SECOND_FREE" 1065 (i 2 1059)),(127,e P "FIXED" 1066 (i 3 1060)),(128,e P "IS_FIRST" 1067 (i 4 1061)),(129,e P "IS_SECOND" 1068 (i 5 1062))]
noncomputable def nP:List Value:=nj++[]
noncomputable def Uz (P:Params):BT:=JT (Uv P) [(3,dO (jo P) 130),
 (569,tp [(i 223 1035),(i 2 1036)]),
 (570,tI 2),
 (571,tp []),
 (572,fO "StopIteration" [(r 571),N,N,N,(.bool false),N]),
 (573,tp [(i 25400000 1039),(i 473628672 1040),(i 1000 1041)]),
 (574,tI 3),
 (575,tp []),
 (576,fO "StopIteration" [(r 575),N,N,N,(.bool false),N]),
 (577,tp [(i 5 1049),(i 10 1050),(i 4 1051),(i 9 1052)]),
 (578,tI 4),
 (579,tp []),
 (580,fO "StopIteration" [(r 579),N,N,N,(.bool false),N]),
 (581,tp [(i 0 1057),(i 1 1058),(i 2 1059),(i 3 1060),(i 4 1061),(i 5 1062)]),
 (582,tI 6),
 (583,tp []),
 (584,fO "StopIteration" [(r 583),N,N,N,(.bool false),N])]
noncomputable def jM (P:Params):List DictEntry:=BR (jo P) [(130,e P "NONE_SEEN" 1072 (i 0 1069)),(131,e P "FIRST_SEEN" 1073 (i 1 1070)),(132,e P "SECOND_SEEN" 1074 (i 2 1071)),(133,e P "SILENT_ACROSS" 1075 (r 589)),(134,e P "SILENT_DOWN" 1076 (r 590)),(135,e P "put_number" 1086 (r 597)),(136,e P "put_signed" 1096 (r 604)),(137,e P "put_counted" 1106 (r 611)),(138,e P "put_units" 1113 (r 618)),(139,e P "define_font" 1119 (r 623)),(140,e P "check_place" 1126 (r 630))]
noncomputable def jO:List Value:=nP++[(i 350 0),(i 0 0),(r 596),(i 353 0),(i 0 0),(r 603),(i 359 0),(i 0 0),(r 610),(i 365 0),(i 0 0),(r 617),(i 369 0),(i 0 0),(r 622),(i 380 0),(i 0 0),(r 629)]
noncomputable def Xx (P:Params):BT:=CT (Uz P) [[(3,dO (jM P) 141),(12,f0 jO),(585,tp [(i 0 1069),(i 1 1070),(i 2 1071)]),(586,tI 3),(587,tp []),(588,fO "StopIteration" [(r 587),N,N,N,(.bool false),N]),(589,tp [(i 5 524),(i 6 525),(i 7 526),(i 9 536),(i 10 537),(i 11 538),(i 12 539)]),(590,tp [(i 5 524),(i 6 525),(i 7 526),(i 9 536),(i 10 537)])],
 fb 591 (sm 73) "put_number" "put_number" 1077 350 3 0 0 3 [] ["octets","number","room","place"] N "gluepage.dvi" 997,
 fb 598 (sm 74) "put_signed" "put_signed" 1087 353 3 0 0 3 [] ["octets","first","size","room"] N "gluepage.dvi" 997,
 fb 605 (sm 75) "put_counted" "put_counted" 1097 359 3 0 0 3 [] ["octets","first","number","room"] N "gluepage.dvi" 997,
 fb 612 (sm 76) "put_units" "put_units" 1107 365 1 0 0 3 [] ["octets"] N "gluepage.dvi" 997,
 [(619,tp []),(620,f0 []),(621,fZ (sm 77) "define_font" "define_font"),(622,CU "define_font" 1114 1117 369 2 0 0 3 619 true 620 [N,N,N,(r 621)]),(623,fF (sm 77) "define_font" "define_font" 3 N (s "gluepage.dvi" 997) (r 622) 0)],
 fb 624 (sm 78) "check_place" "check_place" 1120 380 1 0 0 3 [] ["place"] N "gluepage.dvi" 997]
noncomputable def iR (P:Params):List DictEntry:=BR (jM P) [(141,e P "Moves" 1190 (r 668)),(142,e P "barred" 1198 (r 679))]
noncomputable def iX:List Value:=jO++[(i 384 0),(i 0 0),(r 636),(i 430 0),(i 0 0),(r 678)]
noncomputable def dA (P:Params):BT:=CT (Xx P) [[(3,dO (iR P) 143),(12,f0 iX),(631,tp []),(632,LE),(633,dO [eM P 1134 "gluepage.dvi" 997,eQ P 1136 "Moves" 1135,eF P 1138 384 1137,eI P 1146 644,e P "prune" 1154 (r 651),e P "move" 1166 (r 658),e P "hit" 1180 (r 665),eS P 1183 666] 8),(634,tp []),(635,f0 [(i 386 0),(i 4 0),(r 643),(i 390 0),(i 4 0),(r 650),(i 394 0),(i 4 0),(r 657),(i 406 0),(i 4 0),(r 664)]),(636,CU "Moves" 1129 1132 384 0 0 0 0 634 false 635 cN),(637,fR 636 633 "gluepage.dvi" 997)],
 fb 638 (cm 79 0) "__init__" "Moves.__init__" 1139 386 2 0 0 3 [] ["self","plain"] N "gluepage.dvi" 997,
 fb 645 (cm 79 1) "prune" "Moves.prune" 1147 390 2 0 0 3 [] ["self","begin"] N "gluepage.dvi" 997,
 fb 652 (cm 79 2) "move" "Moves.move" 1155 394 3 0 0 3 [] ["self","octets","size","hit","state","row"] N "gluepage.dvi" 997,
 fb 659 (cm 79 3) "hit" "Moves.hit" 1167 406 3 0 0 3 [] ["self","octets","size","seen","place","there","spot","state"] N "gluepage.dvi" 997,
 [(666,tp [(s "plain" 1181),(s "rows" 1182)]),(667,dO [eM P 1134 "gluepage.dvi" 997,eF P 1138 384 1137,eI P 1146 644,e P "prune" 1154 (r 651),e P "move" 1166 (r 658),e P "hit" 1180 (r 665),eS P 1183 666,e P "__dict__" 1185 (r 669),e P "__weakref__" 1187 (r 670),eD P 1188] 4),(668,kO "type" [none,none,o (s "Moves" 1127),o (s "Moves" 1135),o (bt "object.__new__"),o (.bool true)] "Moves" [(ty "object")] [(r 668),(ty "object")] 667 "Moves" true [] false false),(669,fO "getset_descriptor" [(s "__dict__" 1184),(r 668),(bt "function.__dict__"),(bt "function.__dict__#set")]),(670,fO "getset_descriptor" [(s "__weakref__" 1186),(r 668),(bt "ExceptionGroup.__weakref__"),N]),(671,sU 668),(672,Lw 668)],
 fb 673 (sm 80) "barred" "barred" 1191 430 2 0 0 3 [] ["state","used"] N "gluepage.dvi" 997]
noncomputable def kB (P:Params):List DictEntry:=BR (iR P) [(143,e P "PageWriter" 1311 (r 752))]
noncomputable def kH:List Value:=iX++[(i 434 0),(i 0 0),(r 685)]
noncomputable def cu (P:Params):BT:=CT (dA P) [[(3,dO (kB P) 144),(12,f0 kH),(680,tp []),(681,LE),(682,dO [eM P 1206 "gluepage.dvi" 997,eQ P 1208 "PageWriter" 1207,eF P 1210 434 1209,eI P 1219 693,e P "open" 1227 (r 700),e P "close" 1236 (r 707),e P "go_across" 1244 (r 714),e P "go_down" 1252 (r 721),e P "choose" 1261 (r 728),e P "letter" 1272 (r 735),e P "rule" 1284 (r 742),e P "special" 1294 (r 749),eS P 1304 750] 13),(683,tp []),(684,f0 [(i 436 0),(i 4 0),(r 692),(i 447 0),(i 4 0),(r 699),(i 454 0),(i 4 0),(r 706),(i 463 0),(i 4 0),(r 713),(i 469 0),(i 4 0),(r 720),(i 475 0),(i 4 0),(r 727),(i 489 0),(i 4 0),(r 734),(i 500 0),(i 4 0),(r 741),(i 513 0),(i 4 0),(r 748)]),(685,CU "PageWriter" 1201 1204 434 0 0 0 0 683 false 684 cN),(686,fR 685 682 "gluepage.dvi" 997)],
 fb 687 (cm 81 0) "__init__" "PageWriter.__init__" 1211 436 3 0 0 3 [] ["self","fonts","depth"] N "gluepage.dvi" 997,
 fb 694 (cm 81 1) "open" "PageWriter.open" 1220 447 2 0 0 3 [] ["self","depth"] N "gluepage.dvi" 997,
 fb 701 (cm 81 2) "close" "PageWriter.close" 1228 454 3 0 0 3 [] ["self","begin","depth"] N "gluepage.dvi" 997,
 fb 708 (cm 81 3) "go_across" "PageWriter.go_across" 1237 463 2 0 0 3 [] ["self","h"] N "gluepage.dvi" 997,
 fb 715 (cm 81 4) "go_down" "PageWriter.go_down" 1245 469 2 0 0 3 [] ["self","v"] N "gluepage.dvi" 997,
 fb 722 (cm 81 5) "choose" "PageWriter.choose" 1253 475 2 0 0 3 [] ["self","font","known"] N "gluepage.dvi" 997,
 fb 729 (cm 81 6) "letter" "PageWriter.letter" 1262 489 5 0 0 3 [] ["self","font","code","h","v"] N "gluepage.dvi" 997,
 fb 736 (cm 81 7) "rule" "PageWriter.rule" 1273 500 6 0 0 3 [] ["self","height","width","h","v","moves"] N "gluepage.dvi" 997,
 fb 743 (cm 81 8) "special" "PageWriter.special" 1285 513 4 0 0 3 [] ["self","octets","h","v"] N "gluepage.dvi" 997,
 [(750,tp [(s "across" 1295),(s "deepest" 1296),(s "depth" 1297),(s "down" 1298),(s "font" 1299),(s "fonts" 1300),(s "h" 1301),(s "octets" 1302),(s "v" 1303)]),
 (751,dO [eM P 1206 "gluepage.dvi" 997,eF P 1210 434 1209,eI P 1219 693,e P "open" 1227 (r 700),e P "close" 1236 (r 707),e P "go_across" 1244 (r 714),e P "go_down" 1252 (r 721),e P "choose" 1261 (r 728),e P "letter" 1272 (r 735),e P "rule" 1284 (r 742),e P "special" 1294 (r 749),eS P 1304 750,e P "__dict__" 1306 (r 753),e P "__weakref__" 1308 (r 754),eD P 1309] 4),
 (752,kO "type" [none,none,o (s "PageWriter" 1199),o (s "PageWriter" 1207),o (bt "object.__new__"),o (.bool true)] "PageWriter" [(ty "object")] [(r 752),(ty "object")] 751 "PageWriter" true [] false false),
 (753,fO "getset_descriptor" [(s "__dict__" 1305),(r 752),(bt "function.__dict__"),(bt "function.__dict__#set")]),
 (754,fO "getset_descriptor" [(s "__weakref__" 1307),(r 752),(bt "ExceptionGroup.__weakref__"),N]),
 (755,sU 752),
 (756,Lw 752)]]
noncomputable def js (P:Params):List DictEntry:=BR (kB P) [(144,e P "parts_of" 1325 (r 763)),(145,e P "across_part" 1331 (r 768)),(146,e P "down_part" 1337 (r 773)),(147,e P "out_box" 1358 (r 780)),(148,e P "done_by" 1369 (r 788)),(149,e P "check_page" 1378 (r 795))]
noncomputable def i6:List Value:=kH++[(i 518 0),(i 0 0),(r 762),(i 530 0),(i 0 0),(r 767),(i 551 0),(i 0 0),(r 772),(i 572 0),(i 0 0),(r 779),(i 589 0),(i 0 0),(r 787),(i 599 0),(i 0 0),(r 794)]
noncomputable def dB (P:Params):BT:=CT (cu P) [[(3,dO (js P) 150),(12,f0 i6)],
 fb 757 (sm 82) "parts_of" "parts_of" 1312 518 1 0 0 3 [] ["box","offsets","found","place","item","spot","part","behind"] N "gluepage.dvi" 997,
 [(764,tp []),(765,f0 []),(766,fZ (sm 83) "across_part" "across_part"),(767,CU "across_part" 1326 1329 530 5 0 0 3 764 true 765 [N,N,N,(r 766)]),(768,fF (sm 83) "across_part" "across_part" 3 N (s "gluepage.dvi" 997) (r 767) 0),(769,tp []),(770,f0 []),(771,fZ (sm 84) "down_part" "down_part"),(772,CU "down_part" 1332 1335 551 5 0 0 3 769 true 770 [N,N,N,(r 771)]),(773,fF (sm 84) "down_part" "down_part" 3 N (s "gluepage.dvi" 997) (r 772) 0)],
 fb 774 (sm 85) "out_box" "out_box" 1338 572 5 0 0 3 [] ["page","box","left","base","depth","begin","is_vertical","row","inner","part","part_left","part_base","is_copy","h","v"] N "gluepage.dvi" 997,
 [(781,tp [(i 0 1359)])],
 fb 782 (sm 86) "done_by" "done_by" 1360 589 2 0 0 3 [] ["box","depth","found","item"] (r 781) "gluepage.dvi" 997,
 fb 789 (sm 87) "check_page" "check_page" 1370 599 3 0 0 3 [] ["box","left","top"] N "gluepage.dvi" 997]
noncomputable def jv (P:Params):List DictEntry:=BR (js P) [(0,e P "__name__" 165 (s "gluepage.fonts" 1442)),(150,e P "DviWriter" 1441 (r 829)),(151,e P "EDGE" 1445 (i 256 1444)),(152,e P "MOST_FONTS" 1447 (i 255 1446)),(153,e P "MOST_PARAMS" 1449 (i 64 1448)),(154,e P "MOST_SIZE" 1455 (i 134217727 1454))]
noncomputable def iz:List Value:=i6++[(i 606 0),(i 0 0),(r 801)]
noncomputable def Yn (P:Params):BT:=CT (dB P) [[(3,dO (jv P) 155),(12,f0 iz),(796,tp []),(797,LE),(798,dO [eM P 1386 "gluepage.dvi" 997,eQ P 1388 "DviWriter" 1387,eF P 1390 606 1389,eI P 1400 810,e P "ship" 1415 (r 819),e P "done" 1425 (r 826),eS P 1434 827] 7),(799,tp []),(800,f0 [(i 608 0),(i 4 0),(r 809),(i 624 0),(i 4 0),(r 818),(i 643 0),(i 4 0),(r 825)]),(801,CU "DviWriter" 1381 1384 606 0 0 0 0 799 false 800 cN),(802,fR 801 798 "gluepage.dvi" 997),(803,tp [(i 40 1391)])],
 fb 804 (cm 88 0) "__init__" "DviWriter.__init__" 1392 608 2 0 0 3 [] ["self","depth","mark"] (r 803) "gluepage.dvi" 997,
 [(811,tp []),(812,tp [(r 811),(i 0 1401),(i 0 1402)])],
 fb 813 (cm 88 1) "ship" "DviWriter.ship" 1403 624 5 0 0 3 [] ["self","box","counts","left","top","page","place"] (r 812) "gluepage.dvi" 997,
 fb 820 (cm 88 2) "done" "DviWriter.done" 1416 643 1 0 0 3 [] ["self","octets","number","place"] N "gluepage.dvi" 997,
 [(827,tp [(s "deepest" 1426),(s "depth" 1427),(s "fonts" 1428),(s "last" 1429),(s "octets" 1430),(s "pages" 1431),(s "tallest" 1432),(s "widest" 1433)]),
 (828,dO [eM P 1386 "gluepage.dvi" 997,eF P 1390 606 1389,eI P 1400 810,e P "ship" 1415 (r 819),e P "done" 1425 (r 826),eS P 1434 827,e P "__dict__" 1436 (r 830),e P "__weakref__" 1438 (r 831),eD P 1439] 4),
 (829,kO "type" [none,none,o (s "DviWriter" 1379),o (s "DviWriter" 1387),o (bt "object.__new__"),o (.bool true)] "DviWriter" [(ty "object")] [(r 829),(ty "object")] 828 "DviWriter" true [] false false),
 (830,fO "getset_descriptor" [(s "__dict__" 1435),(r 829),(bt "function.__dict__"),(bt "function.__dict__#set")]),
 (831,fO "getset_descriptor" [(s "__weakref__" 1437),(r 829),(bt "ExceptionGroup.__weakref__"),N]),
 (832,sU 829),
 (833,Lw 829)]]
noncomputable def ib (P:Params):List DictEntry:=BR (jv P) [(155,e P "PLAIN_SORT" 1460 (i 0 1456)),(156,e P "PROGRAM_SORT" 1461 (i 1 1457)),(157,e P "LARGER_SORT" 1462 (i 2 1458)),(158,e P "PIECES_SORT" 1463 (i 3 1459)),(159,e P "STOP_SKIP" 1467 (i 128 1464)),(160,e P "KERN_OP" 1468 (i 128 1465)),(161,e P "LEAD" 1469 (i 255 1466)),(162,e P "NO_CHARACTER" 1476 (r 842)),(163,e P "LETTERS" 1478 (s "abcdefghjklmnopqrstuvwxyz" 1477)),(164,e P "SMALL_PARAMS" 1486 (r 843)),(165,e P "is_size" 1493 (r 850)),(166,e P "check_sizes" 1501 (r 857)),(167,e P "check_pieces" 1511 (r 864)),(168,e P "check_chars" 1523 (r 871)),(169,e P "check_larger" 1533 (r 878))]
noncomputable def je:List Value:=iz++[(i 670 0),(i 0 0),(r 849),(i 672 0),(i 0 0),(r 856),(i 676 0),(i 0 0),(r 863),(i 682 0),(i 0 0),(r 870),(i 694 0),(i 0 0),(r 877)]
noncomputable def X9 (P:Params):BT:=CT (Yn P) [[(3,dO (ib P) 170),(12,f0 je),(834,tp [(i 0 1456),(i 1 1457),(i 2 1458),(i 3 1459)]),(835,tI 4),(836,tp []),(837,fO "StopIteration" [(r 836),N,N,N,(.bool false),N]),(838,tp [(i 128 1464),(i 128 1465),(i 255 1466)]),(839,tI 3),(840,tp []),(841,fO "StopIteration" [(r 840),N,N,N,(.bool false),N]),(842,tp [(i 0 1470),(i 0 1471),(i 0 1472),(i 0 1473),(i 0 1474),(i 0 1475)]),(843,tp [(i 0 1479),(i 196608 1480),(i 98304 1481),(i 65536 1482),(i 262144 1483),(i 655360 1484),(i 65536 1485)])],
 fb 844 (sm 99) "is_size" "is_size" 1487 670 1 0 0 3 [] ["value"] N "gluepage.fonts" 1442,
 fb 851 (sm 100) "check_sizes" "check_sizes" 1494 672 1 0 0 3 [] ["sizes","size"] N "gluepage.fonts" 1442,
 fb 858 (sm 101) "check_pieces" "check_pieces" 1502 676 2 0 0 3 [] ["pieces","chars","place","code"] N "gluepage.fonts" 1442,
 fb 865 (sm 102) "check_chars" "check_chars" 1512 682 2 0 0 3 [] ["chars","many","code","row","sort","rest"] N "gluepage.fonts" 1442,
 fb 872 (sm 103) "check_larger" "check_larger" 1524 694 1 0 0 3 [] ["chars","code","far","turns"] N "gluepage.fonts" 1442]
noncomputable def jc (P:Params):List DictEntry:=BR (ib P) [(170,e P "check_program" 1551 (r 885)),(171,e P "left_start" 1562 (r 892))]
noncomputable def jK:List Value:=je++[(i 702 0),(i 0 0),(r 884),(i 721 0),(i 0 0),(r 891)]
noncomputable def dH (P:Params):BT:=CT (X9 P) [[(3,dO (jc P) 172),(12,f0 jK)],
 fb 879 (sm 104) "check_program" "check_program" 1534 702 4 0 0 3 [] ["program","kerns","chars","boundary","many","place","row","octet","skip","following","op","rest"] N "gluepage.fonts" 1442,
 fb 886 (sm 105) "left_start" "left_start" 1552 721 1 0 0 3 [] ["program","skip","following","op","rest"] N "gluepage.fonts" 1442]
noncomputable def j4 (P:Params):List DictEntry:=BR (jc P) [(172,e P "Font" 1693 (r 982))]
noncomputable def iT:List Value:=jK++[(i 726 0),(i 0 0),(r 898)]
noncomputable def cz (P:Params):BT:=CT (dH P) [[(3,dO (j4 P) 173),(12,f0 iT),(893,tp []),(894,LE),(895,dO [eM P 1570 "gluepage.fonts" 1442,eQ P 1572 "Font" 1571,eF P 1574 726 1573,eI P 1589 909,e P "has" 1597 (r 916),e P "width" 1605 (r 923),e P "height" 1613 (r 930),e P "depth" 1621 (r 937),e P "italic" 1629 (r 944),e P "starts" 1637 (r 951),e P "larger" 1646 (r 958),e P "pieces" 1655 (r 965),e P "param" 1663 (r 972),e P "set_param" 1672 (r 979),eS P 1686 980] 15),(896,tp []),(897,f0 [(i 728 0),(i 4 0),(r 908),(i 752 0),(i 4 0),(r 915),(i 755 0),(i 4 0),(r 922),(i 758 0),(i 4 0),(r 929),(i 761 0),(i 4 0),(r 936),(i 764 0),(i 4 0),(r 943),(i 767 0),(i 4 0),(r 950),(i 770 0),(i 4 0),(r 957),(i 774 0),(i 4 0),(r 964),(i 778 0),(i 4 0),(r 971),(i 781 0),(i 4 0),(r 978)]),(898,CU "Font" 1565 1568 726 0 0 0 0 896 false 897 cN),(899,fR 898 895 "gluepage.fonts" 1442),(900,tp []),(901,tp []),(902,tp [(r 900),(r 901),(i 256 1444)])],
 fb 903 (cm 106 0) "__init__" "Font.__init__" 1575 728 9 0 0 3 [] ["self","number","name","size","params","chars","program","kerns","boundary"] (r 902) "gluepage.fonts" 1442,
 fb 910 (cm 106 1) "has" "Font.has" 1590 752 2 0 0 3 [] ["self","code"] N "gluepage.fonts" 1442,
 fb 917 (cm 106 2) "width" "Font.width" 1598 755 2 0 0 3 [] ["self","code"] N "gluepage.fonts" 1442,
 fb 924 (cm 106 3) "height" "Font.height" 1606 758 2 0 0 3 [] ["self","code"] N "gluepage.fonts" 1442,
 fb 931 (cm 106 4) "depth" "Font.depth" 1614 761 2 0 0 3 [] ["self","code"] N "gluepage.fonts" 1442,
 fb 938 (cm 106 5) "italic" "Font.italic" 1622 764 2 0 0 3 [] ["self","code"] N "gluepage.fonts" 1442,
 fb 945 (cm 106 6) "starts" "Font.starts" 1630 767 2 0 0 3 [] ["self","code"] N "gluepage.fonts" 1442,
 fb 952 (cm 106 7) "larger" "Font.larger" 1638 770 2 0 0 3 [] ["self","code","row"] N "gluepage.fonts" 1442,
 fb 959 (cm 106 8) "pieces" "Font.pieces" 1647 774 2 0 0 3 [] ["self","code","row"] N "gluepage.fonts" 1442,
 fb 966 (cm 106 9) "param" "Font.param" 1656 778 2 0 0 3 [] ["self","number"] N "gluepage.fonts" 1442,
 fb 973 (cm 106 10) "set_param" "Font.set_param" 1664 781 3 0 0 3 [] ["self","number","value"] N "gluepage.fonts" 1442,
 [(980,tp [(s "boundary" 1673),(s "chars" 1674),(s "check" 1675),(s "design" 1676),(s "edge_start" 1677),(s "hyphen_char" 1678),(s "kerns" 1679),(s "name" 1680),(s "number" 1681),(s "params" 1682),(s "program" 1683),(s "size" 1684),(s "skew_char" 1685)]),
 (981,dO [eM P 1570 "gluepage.fonts" 1442,eF P 1574 726 1573,eI P 1589 909,e P "has" 1597 (r 916),e P "width" 1605 (r 923),e P "height" 1613 (r 930),e P "depth" 1621 (r 937),e P "italic" 1629 (r 944),e P "starts" 1637 (r 951),e P "larger" 1646 (r 958),e P "pieces" 1655 (r 965),e P "param" 1663 (r 972),e P "set_param" 1672 (r 979),eS P 1686 980,e P "__dict__" 1688 (r 983),e P "__weakref__" 1690 (r 984),eD P 1691] 4),
 (982,kO "type" [none,none,o (s "Font" 1563),o (s "Font" 1571),o (bt "object.__new__"),o (.bool true)] "Font" [(ty "object")] [(r 982),(ty "object")] 981 "Font" true [] false false),
 (983,fO "getset_descriptor" [(s "__dict__" 1687),(r 982),(bt "function.__dict__"),(bt "function.__dict__#set")]),
 (984,fO "getset_descriptor" [(s "__weakref__" 1689),(r 982),(bt "ExceptionGroup.__weakref__"),N]),
 (985,sU 982),
 (986,Lw 982)]]
noncomputable def j5 (P:Params):List DictEntry:=BR (j4 P) [(0,e P "__name__" 165 (s "law_sq0079_01" 1717)),(173,e P "font_name" 1702 (r 993)),(174,e P "font_of_rows" 1716 (r 1003)),(175,e P "_law_box" 1724 (r 1008)),(176,e P "_law_take" 1734 (r 1015)),(177,e P "_law_drawn_item" 1746 (r 1022)),(178,e P "_law_drawn_box" 1752 (r 1027)),(179,e P "_law_walked" 1761 (r 1034)),(180,e P "_law_made" 1767 (r 1039)),(181,e P "_law_node" 1777 (r 1046)),(182,e P "_law_file" 1785 (r 1053)),(183,e P "law" 1791 (r 1058))]
noncomputable def kN:List Value:=iT++[(i 783 0),(i 0 0),(r 992),(i 790 0),(i 0 0),(r 1002),(i 800 0),(i 0 0),(r 1007),(i 806 0),(i 0 0),(r 1014),(i 814 0),(i 0 0),(r 1021),(i 828 0),(i 0 0),(r 1026),(i 832 0),(i 0 0),(r 1033),(i 840 0),(i 0 0),(r 1038),(i 844 0),(i 0 0),(r 1045),(i 861 0),(i 0 0),(r 1052),(i 865 0),(i 0 0),(r 1057)]
noncomputable def dI (P:Params):BT:=CT (cz P) [[(3,dO (j5 P) 184),(12,f0 kN)],
 fb 987 (sm 107) "font_name" "font_name" 1694 783 1 0 0 3 [] ["number","left","found"] N "gluepage.fonts" 1442,
 [(994,tp []),(995,tp []),(996,tp [(r 843),(r 994),(r 995),(i 256 1444)])],
 fb 997 (sm 108) "font_of_rows" "font_of_rows" 1703 790 6 0 0 3 [] ["number","rows","params","program","kerns","boundary","chars","row"] (r 996) "gluepage.fonts" 1442,
 [(1004,tp []),(1005,f0 []),(1006,fZ (sm 110) "_law_box" "_law_box"),(1007,CU "_law_box" 1719 1722 800 2 0 0 3 1004 true 1005 [N,N,N,(r 1006)]),(1008,fF (sm 110) "_law_box" "_law_box" 3 N (s "law_sq0079_01" 1717) (r 1007) 0)],
 fb 1009 (sm 111) "_law_take" "_law_take" 1725 806 2 0 0 3 [] ["box","many","digit","mixed"] N "law_sq0079_01" 1717,
 fb 1016 (sm 112) "_law_drawn_item" "_law_drawn_item" 1735 814 4 0 0 3 [] ["box","deep","kind","serial","way","one"] N "law_sq0079_01" 1717,
 [(1023,tp []),(1024,f0 []),(1025,fZ (sm 113) "_law_drawn_box" "_law_drawn_box"),(1026,CU "_law_drawn_box" 1747 1750 828 3 0 0 3 1023 true 1024 [N,N,N,(r 1025)]),(1027,fF (sm 113) "_law_drawn_box" "_law_drawn_box" 3 N (s "law_sq0079_01" 1717) (r 1026) 0)],
 fb 1028 (sm 114) "_law_walked" "_law_walked" 1753 832 1 0 0 3 [] ["tree","found","part"] N "law_sq0079_01" 1717,
 [(1035,tp []),(1036,f0 []),(1037,fZ (sm 115) "_law_made" "_law_made"),(1038,CU "_law_made" 1762 1765 840 3 0 0 3 1035 true 1036 [N,N,N,(r 1037)]),(1039,fF (sm 115) "_law_made" "_law_made" 3 N (s "law_sq0079_01" 1717) (r 1038) 0)],
 fb 1040 (sm 116) "_law_node" "_law_node" 1768 844 3 0 0 3 [] ["part","font","bare","sort"] N "law_sq0079_01" 1717,
 fb 1047 (sm 117) "_law_file" "_law_file" 1778 861 1 0 0 3 [] ["shown","writer"] N "law_sq0079_01" 1717,
 [(1054,tp []),
 (1055,f0 []),
 (1056,fZ (sm 118) "law" "law"),
 (1057,CU "law" 1786 1789 865 1 0 0 3 1054 true 1055 [N,N,N,(r 1056)]),
 (1058,fF (sm 118) "law" "law" 3 N (s "law_sq0079_01" 1717) (r 1057) 0)]]
noncomputable abbrev Bt:=@PySem.W.Fast.tw10110043849684766642
noncomputable abbrev tbT:=PySem.W.Fast.tw14364793385576792824
theorem KK (row:String)(Pr:World→Prop)(h0:∀w:World,Pr (w.withFollow row false))(h1:∀w:World,Pr (w.withFollow row true)):∀w,Pr w:=fun w=>by
 have e:=World.withFollow_self w row
 cases hb:w.params.followText row with
 | false=>rw [hb] at e;exact e▸h0 w
 | true=>rw [hb] at e;exact e▸h1 w
noncomputable def l0:List Stmt:=[sm 0,sm 1,sm 2]
theorem p0 (w:World):(fun os=>Bt tbT pw w 11 (some (.ref 6)) 1 259 (st T0 w 15 187 os) (piecesOf l0 ev cE ⟨0,0,0,0⟩ Ao))=(fun os=>some (.next,st T1 w 43 224 os,cE,⟨5,0,8,28⟩)):=by kernel_rfl
noncomputable def l1:List Stmt:=[sm 3]
theorem p1 (w:World):(fun os=>Bt tbT pw w 11 (some (.ref 6)) 1 214 (st T1 w 43 224 os) (piecesOf l1 ev cE ⟨5,0,8,28⟩ Ao))=(fun os=>some (.next,st T2 w 55 240 os,cE,⟨9,0,10,8⟩)):=by kernel_rfl
noncomputable def l2:List Stmt:=[sm 4]
theorem p2 (w:World):(fun os=>Bt tbT pw w 11 (some (.ref 6)) 1 214 (st T2 w 55 240 os) (piecesOf l2 ev cE ⟨9,0,10,8⟩ Ao))=(fun os=>some (.next,st T3 w 67 256 os,cE,⟨11,0,12,8⟩)):=by kernel_rfl
noncomputable def l3:List Stmt:=[sm 5]
theorem p3 (w:World):(fun os=>Bt tbT pw w 11 (some (.ref 6)) 1 214 (st T3 w 67 256 os) (piecesOf l3 ev cE ⟨11,0,12,8⟩ Ao))=(fun os=>some (.next,st T4 w 79 272 os,cE,⟨13,0,14,8⟩)):=by kernel_rfl
noncomputable def l4:List Stmt:=[sm 6]
theorem p4 (w:World):(fun os=>Bt tbT pw w 11 (some (.ref 6)) 1 214 (st T4 w 79 272 os) (piecesOf l4 ev cE ⟨13,0,14,8⟩ Ao))=(fun os=>some (.next,st T5 w 91 288 os,cE,⟨15,0,16,8⟩)):=by kernel_rfl
noncomputable def l5:List Stmt:=[sm 7]
theorem p5 (w:World):(fun os=>Bt tbT pw w 11 (some (.ref 6)) 1 214 (st T5 w 91 288 os) (piecesOf l5 ev cE ⟨15,0,16,8⟩ Ao))=(fun os=>some (.next,st T6 w 103 304 os,cE,⟨17,0,18,8⟩)):=by kernel_rfl
noncomputable def l6:List Stmt:=[sm 8,sm 9,sm 10,sm 11,sm 12,sm 13,sm 14]
theorem mD (w:World):(fun os=>Bt tbT pw (w.withFollow "special-get-raises" false) 11 (some (.ref 6)) 1 406 (st T6 (w.withFollow "special-get-raises" false) 103 304 os) (piecesOf l6 ev cE ⟨17,0,18,8⟩ Ao))=(fun os=>some (.next,st T7 (w.withFollow "special-get-raises" false) 126 353 os,cE,⟨26,0,27,94⟩)):=by kernel_rfl
theorem mi (w:World):(fun os=>Bt tbT pw (w.withFollow "special-get-raises" true) 11 (some (.ref 6)) 1 406 (st T6 (w.withFollow "special-get-raises" true) 103 304 os) (piecesOf l6 ev cE ⟨17,0,18,8⟩ Ao))=(fun os=>some (.next,st T7 (w.withFollow "special-get-raises" true) 126 353 os,cE,⟨26,0,27,94⟩)):=by kernel_rfl
theorem p6 (w:World):(fun os=>Bt tbT pw w 11 (some (.ref 6)) 1 406 (st T6 w 103 304 os) (piecesOf l6 ev cE ⟨17,0,18,8⟩ Ao))=(fun os=>some (.next,st T7 w 126 353 os,cE,⟨26,0,27,94⟩)):=KK "special-get-raises" (fun w=>(fun os=>Bt tbT pw w 11 (some (.ref 6)) 1 406 (st T6 w 103 304 os) (piecesOf l6 ev cE ⟨17,0,18,8⟩ Ao))=(fun os=>some (.next,st T7 w 126 353 os,cE,⟨26,0,27,94⟩))) mD mi w
noncomputable def l7:List Stmt:=[sm 15,sm 16,sm 17,sm 18,sm 19,sm 20,sm 21,sm 22]
theorem p7 (w:World):(fun os=>Bt tbT pw w 11 (some (.ref 6)) 1 243 (st T7 w 126 353 os) (piecesOf l7 ev cE ⟨26,0,27,94⟩ Ao))=(fun os=>some (.next,st T8 w 182 419 os,cE,⟨61,0,62,81⟩)):=by kernel_rfl
noncomputable def l8:List Stmt:=[sm 23]
theorem p8 (w:World):(fun os=>Bt tbT pw w 11 (some (.ref 6)) 1 462 (st T8 w 182 419 os) (piecesOf l8 ev cE ⟨61,0,62,81⟩ Ao))=(fun os=>some (.next,st T9 w 254 517 os,cE,⟨63,0,98,20⟩)):=by kernel_rfl
noncomputable def l9:List Stmt:=[sm 24,sm 25,sm 26,sm 27]
theorem oJ (w:World):(fun os=>Bt tbT pw (w.withFollow "special-get-raises" false) 11 (some (.ref 6)) 1 421 (st T9 (w.withFollow "special-get-raises" false) 254 517 os) (piecesOf l9 ev cE ⟨63,0,98,20⟩ Ao))=(fun os=>some (.next,st Uy (w.withFollow "special-get-raises" false) 266 555 os,cE,⟨102,20,102,26⟩)):=by kernel_rfl
theorem n8 (w:World):(fun os=>Bt tbT pw (w.withFollow "special-get-raises" true) 11 (some (.ref 6)) 1 421 (st T9 (w.withFollow "special-get-raises" true) 254 517 os) (piecesOf l9 ev cE ⟨63,0,98,20⟩ Ao))=(fun os=>some (.next,st Uy (w.withFollow "special-get-raises" true) 266 555 os,cE,⟨102,20,102,26⟩)):=by kernel_rfl
theorem p9 (w:World):(fun os=>Bt tbT pw w 11 (some (.ref 6)) 1 421 (st T9 w 254 517 os) (piecesOf l9 ev cE ⟨63,0,98,20⟩ Ao))=(fun os=>some (.next,st Uy w 266 555 os,cE,⟨102,20,102,26⟩)):=KK "special-get-raises" (fun w=>(fun os=>Bt tbT pw w 11 (some (.ref 6)) 1 421 (st T9 w 254 517 os) (piecesOf l9 ev cE ⟨63,0,98,20⟩ Ao))=(fun os=>some (.next,st Uy w 266 555 os,cE,⟨102,20,102,26⟩))) oJ n8 w
noncomputable def cZ:List Stmt:=[sm 28,sm 29,sm 30,sm 31,sm 32]
theorem gU (w:World):(fun os=>Bt tbT pw (w.withFollow "special-get-raises" false) 11 (some (.ref 6)) 1 396 (st Uy (w.withFollow "special-get-raises" false) 266 555 os) (piecesOf cZ ev cE ⟨102,20,102,26⟩ Ao))=(fun os=>some (.next,st YX (w.withFollow "special-get-raises" false) 285 594 os,cE,⟨107,0,110,15⟩)):=by kernel_rfl
theorem fI (w:World):(fun os=>Bt tbT pw (w.withFollow "special-get-raises" true) 11 (some (.ref 6)) 1 396 (st Uy (w.withFollow "special-get-raises" true) 266 555 os) (piecesOf cZ ev cE ⟨102,20,102,26⟩ Ao))=(fun os=>some (.next,st YX (w.withFollow "special-get-raises" true) 285 594 os,cE,⟨107,0,110,15⟩)):=by kernel_rfl
theorem lp (w:World):(fun os=>Bt tbT pw w 11 (some (.ref 6)) 1 396 (st Uy w 266 555 os) (piecesOf cZ ev cE ⟨102,20,102,26⟩ Ao))=(fun os=>some (.next,st YX w 285 594 os,cE,⟨107,0,110,15⟩)):=KK "special-get-raises" (fun w=>(fun os=>Bt tbT pw w 11 (some (.ref 6)) 1 396 (st Uy w 266 555 os) (piecesOf cZ ev cE ⟨102,20,102,26⟩ Ao))=(fun os=>some (.next,st YX w 285 594 os,cE,⟨107,0,110,15⟩))) gU fI w
noncomputable def iZ:List Stmt:=[sm 33]
theorem nB (w:World):(fun os=>Bt tbT pw w 11 (some (.ref 6)) 1 238 (st YX w 285 594 os) (piecesOf iZ ev cE ⟨107,0,110,15⟩ Ao))=(fun os=>some (.next,st dG w 306 626 os,cE,⟨111,0,116,36⟩)):=by kernel_rfl
noncomputable def ju:List Stmt:=[sm 34]
theorem mO (w:World):(fun os=>Bt tbT pw w 11 (some (.ref 6)) 1 235 (st dG w 306 626 os) (piecesOf ju ev cE ⟨111,0,116,36⟩ Ao))=(fun os=>some (.next,st cw w 327 667 os,cE,⟨117,0,130,27⟩)):=by kernel_rfl
noncomputable def i5:List Stmt:=[sm 35]
theorem lh (w:World):(fun os=>Bt tbT pw w 11 (some (.ref 6)) 1 238 (st cw w 327 667 os) (piecesOf i5 ev cE ⟨117,0,130,27⟩ Ao))=(fun os=>some (.next,st dF w 348 699 os,cE,⟨131,0,138,24⟩)):=by kernel_rfl
noncomputable def ie:List Stmt:=[sm 36]
theorem nz (w:World):(fun os=>Bt tbT pw w 11 (some (.ref 6)) 1 241 (st dF w 348 699 os) (piecesOf ie ev cE ⟨131,0,138,24⟩ Ao))=(fun os=>some (.next,st dC w 370 733 os,cE,⟨139,0,151,28⟩)):=by kernel_rfl
noncomputable def jw:List Stmt:=[sm 37]
theorem k9 (w:World):(fun os=>Bt tbT pw w 11 (some (.ref 6)) 1 250 (st dC w 370 733 os) (piecesOf jw ev cE ⟨139,0,151,28⟩ Ao))=(fun os=>some (.next,st cx w 391 765 os,cE,⟨152,0,162,35⟩)):=by kernel_rfl
noncomputable def jt:List Stmt:=[sm 38]
theorem n4 (w:World):(fun os=>Bt tbT pw w 11 (some (.ref 6)) 1 251 (st cx w 391 765 os) (piecesOf jt ev cE ⟨152,0,162,35⟩ Ao))=(fun os=>some (.next,st cj w 412 798 os,cE,⟨163,0,169,35⟩)):=by kernel_rfl
noncomputable def jQ:List Stmt:=[sm 39]
theorem nS (w:World):(fun os=>Bt tbT pw w 11 (some (.ref 6)) 1 251 (st cj w 412 798 os) (piecesOf jQ ev cE ⟨163,0,169,35⟩ Ao))=(fun os=>some (.next,st cr w 433 831 os,cE,⟨170,0,178,24⟩)):=by kernel_rfl
noncomputable def jm:List Stmt:=[sm 40,sm 41,sm 42,sm 43,sm 44,sm 45,sm 46]
theorem kQ (w:World):(fun os=>Bt tbT pw w 11 (some (.ref 6)) 1 419 (st cr w 433 831 os) (piecesOf jm ev cE ⟨170,0,178,24⟩ Ao))=(fun os=>some (.next,st dK w 490 906 os,cE,⟨234,0,246,12⟩)):=by kernel_rfl
noncomputable def jW:List Stmt:=[sm 47,sm 48,sm 49,sm 50,sm 51,sm 52,sm 53,sm 54,sm 55,sm 56,sm 57,sm 58,sm 59,sm 60,sm 61]
theorem mK (w:World):(fun os=>Bt tbT pw w 11 (some (.ref 6)) 1 358 (st dK w 490 906 os) (piecesOf jW ev cE ⟨234,0,246,12⟩ Ao))=(fun os=>some (.next,st YY w 561 999 os,cE,⟨338,0,338,8⟩)):=by kernel_rfl
noncomputable def aG:List Stmt:=[sm 62,sm 63]
theorem gu (w:World):(fun os=>Bt tbT pw (w.withFollow "special-get-raises" false) 11 (some (.ref 6)) 1 383 (st YY (w.withFollow "special-get-raises" false) 561 999 os) (piecesOf aG ev cE ⟨338,0,338,8⟩ Ao))=(fun os=>some (.next,st Uv (w.withFollow "special-get-raises" false) 569 1035 os,cE,⟨340,77,340,86⟩)):=by kernel_rfl
theorem dU (w:World):(fun os=>Bt tbT pw (w.withFollow "special-get-raises" true) 11 (some (.ref 6)) 1 383 (st YY (w.withFollow "special-get-raises" true) 561 999 os) (piecesOf aG ev cE ⟨338,0,338,8⟩ Ao))=(fun os=>some (.next,st Uv (w.withFollow "special-get-raises" true) 569 1035 os,cE,⟨340,77,340,86⟩)):=by kernel_rfl
theorem md (w:World):(fun os=>Bt tbT pw w 11 (some (.ref 6)) 1 383 (st YY w 561 999 os) (piecesOf aG ev cE ⟨338,0,338,8⟩ Ao))=(fun os=>some (.next,st Uv w 569 1035 os,cE,⟨340,77,340,86⟩)):=KK "special-get-raises" (fun w=>(fun os=>Bt tbT pw w 11 (some (.ref 6)) 1 383 (st YY w 561 999 os) (piecesOf aG ev cE ⟨338,0,338,8⟩ Ao))=(fun os=>some (.next,st Uv w 569 1035 os,cE,⟨340,77,340,86⟩))) gu dU w
noncomputable def bu:List Stmt:=[sm 64,sm 65,sm 66,sm 67,sm 68,sm 69]
theorem dg (w:World):(fun os=>Bt tbT pw (w.withFollow "special-get-raises" false) 11 (some (.ref 6)) 1 405 (st Uv (w.withFollow "special-get-raises" false) 569 1035 os) (piecesOf bu ev cE ⟨340,77,340,86⟩ Ao))=(fun os=>some (.next,st Uz (w.withFollow "special-get-raises" false) 585 1069 os,cE,⟨346,48,346,57⟩)):=by kernel_rfl
theorem fY (w:World):(fun os=>Bt tbT pw (w.withFollow "special-get-raises" true) 11 (some (.ref 6)) 1 405 (st Uv (w.withFollow "special-get-raises" true) 569 1035 os) (piecesOf bu ev cE ⟨340,77,340,86⟩ Ao))=(fun os=>some (.next,st Uz (w.withFollow "special-get-raises" true) 585 1069 os,cE,⟨346,48,346,57⟩)):=by kernel_rfl
theorem lH (w:World):(fun os=>Bt tbT pw w 11 (some (.ref 6)) 1 405 (st Uv w 569 1035 os) (piecesOf bu ev cE ⟨340,77,340,86⟩ Ao))=(fun os=>some (.next,st Uz w 585 1069 os,cE,⟨346,48,346,57⟩)):=KK "special-get-raises" (fun w=>(fun os=>Bt tbT pw w 11 (some (.ref 6)) 1 405 (st Uv w 569 1035 os) (piecesOf bu ev cE ⟨340,77,340,86⟩ Ao))=(fun os=>some (.next,st Uz w 585 1069 os,cE,⟨346,48,346,57⟩))) dg fY w
noncomputable def cC:List Stmt:=[sm 70,sm 71,sm 72,sm 73,sm 74,sm 75,sm 76,sm 77,sm 78]
theorem gw (w:World):(fun os=>Bt tbT pw (w.withFollow "special-get-raises" false) 11 (some (.ref 6)) 1 308 (st Uz (w.withFollow "special-get-raises" false) 585 1069 os) (piecesOf cC ev cE ⟨346,48,346,57⟩ Ao))=(fun os=>some (.next,st Xx (w.withFollow "special-get-raises" false) 631 1127 os,cE,⟨380,0,383,16⟩)):=by kernel_rfl
theorem iD (w:World):(fun os=>Bt tbT pw (w.withFollow "special-get-raises" true) 11 (some (.ref 6)) 1 308 (st Uz (w.withFollow "special-get-raises" true) 585 1069 os) (piecesOf cC ev cE ⟨346,48,346,57⟩ Ao))=(fun os=>some (.next,st Xx (w.withFollow "special-get-raises" true) 631 1127 os,cE,⟨380,0,383,16⟩)):=by kernel_rfl
theorem oF (w:World):(fun os=>Bt tbT pw w 11 (some (.ref 6)) 1 308 (st Uz w 585 1069 os) (piecesOf cC ev cE ⟨346,48,346,57⟩ Ao))=(fun os=>some (.next,st Xx w 631 1127 os,cE,⟨380,0,383,16⟩)):=KK "special-get-raises" (fun w=>(fun os=>Bt tbT pw w 11 (some (.ref 6)) 1 308 (st Uz w 585 1069 os) (piecesOf cC ev cE ⟨346,48,346,57⟩ Ao))=(fun os=>some (.next,st Xx w 631 1127 os,cE,⟨380,0,383,16⟩))) gw iD w
noncomputable def iY:List Stmt:=[sm 79,sm 80]
theorem k7 (w:World):(fun os=>Bt tbT pw w 11 (some (.ref 6)) 1 360 (st Xx w 631 1127 os) (piecesOf iY ev cE ⟨380,0,383,16⟩ Ao))=(fun os=>some (.next,st dA w 680 1199 os,cE,⟨430,0,433,84⟩)):=by kernel_rfl
noncomputable def im:List Stmt:=[sm 81]
theorem mR (w:World):(fun os=>Bt tbT pw w 11 (some (.ref 6)) 1 499 (st dA w 680 1199 os) (piecesOf im ev cE ⟨430,0,433,84⟩ Ao))=(fun os=>some (.next,st cu w 757 1312 os,cE,⟨434,0,517,34⟩)):=by kernel_rfl
noncomputable def jA:List Stmt:=[sm 82,sm 83,sm 84,sm 85,sm 86,sm 87]
theorem nt (w:World):(fun os=>Bt tbT pw w 11 (some (.ref 6)) 1 197 (st cu w 757 1312 os) (piecesOf jA ev cE ⟨434,0,517,34⟩ Ao))=(fun os=>some (.next,st dB w 796 1379 os,cE,⟨599,0,605,50⟩)):=by kernel_rfl
noncomputable def kD:List Stmt:=[sm 88,sm 89,sm 90,sm 91,sm 92,sm 93]
theorem mI (w:World):(fun os=>Bt tbT pw w 11 (some (.ref 6)) 1 366 (st dB w 796 1379 os) (piecesOf kD ev cE ⟨599,0,605,50⟩ Ao))=(fun os=>some (.next,st Yn w 834 1456 os,cE,⟨664,0,664,9⟩)):=by kernel_rfl
noncomputable def cF:List Stmt:=[sm 94,sm 95,sm 96,sm 97,sm 98,sm 99,sm 100,sm 101,sm 102,sm 103]
theorem gZ (w:World):(fun os=>Bt tbT pw (w.withFollow "special-get-raises" false) 11 (some (.ref 6)) 1 384 (st Yn (w.withFollow "special-get-raises" false) 834 1456 os) (piecesOf cF ev cE ⟨664,0,664,9⟩ Ao))=(fun os=>some (.next,st X9 (w.withFollow "special-get-raises" false) 879 1534 os,cE,⟨694,0,701,65⟩)):=by kernel_rfl
theorem f8 (w:World):(fun os=>Bt tbT pw (w.withFollow "special-get-raises" true) 11 (some (.ref 6)) 1 384 (st Yn (w.withFollow "special-get-raises" true) 834 1456 os) (piecesOf cF ev cE ⟨664,0,664,9⟩ Ao))=(fun os=>some (.next,st X9 (w.withFollow "special-get-raises" true) 879 1534 os,cE,⟨694,0,701,65⟩)):=by kernel_rfl
theorem kT (w:World):(fun os=>Bt tbT pw w 11 (some (.ref 6)) 1 384 (st Yn w 834 1456 os) (piecesOf cF ev cE ⟨664,0,664,9⟩ Ao))=(fun os=>some (.next,st X9 w 879 1534 os,cE,⟨694,0,701,65⟩)):=KK "special-get-raises" (fun w=>(fun os=>Bt tbT pw w 11 (some (.ref 6)) 1 384 (st Yn w 834 1456 os) (piecesOf cF ev cE ⟨664,0,664,9⟩ Ao))=(fun os=>some (.next,st X9 w 879 1534 os,cE,⟨694,0,701,65⟩))) gZ f8 w
noncomputable def jJ:List Stmt:=[sm 104,sm 105]
theorem ka (w:World):(fun os=>Bt tbT pw w 11 (some (.ref 6)) 1 74 (st X9 w 879 1534 os) (piecesOf jJ ev cE ⟨694,0,701,65⟩ Ao))=(fun os=>some (.next,st dH w 893 1563 os,cE,⟨721,0,725,50⟩)):=by kernel_rfl
noncomputable def jL:List Stmt:=[sm 106]
theorem lQ (w:World):(fun os=>Bt tbT pw w 11 (some (.ref 6)) 1 574 (st dH w 893 1563 os) (piecesOf jL ev cE ⟨721,0,725,50⟩ Ao))=(fun os=>some (.next,st cz w 987 1694 os,cE,⟨726,0,782,16⟩)):=by kernel_rfl
noncomputable def bA:List Stmt:=[sm 107,sm 108,sm 109,sm 110,sm 111,sm 112,sm 113,sm 114,sm 115,sm 116,sm 117,sm 118]
theorem nI (w:World):(fun os=>Bt tbT pw w 11 (some (.ref 6)) 1 349 (st cz w 987 1694 os) (piecesOf bA ev cE ⟨726,0,782,16⟩ Ao))=(fun os=>some (.next,st dI w 1059 1792 os,cE,⟨865,0,874,113⟩)):=by kernel_rfl
theorem Ws:@segRunT treeTable=@Bt tbT:=by rw [PySem.W.Fast.te10110043849684766642,PySem.W.Fast.te14364793385576792824]
theorem TV {w:World}{n:Nat}{a:OsState→SharedT}{t:Thread}{b:OsState→Option (Flow×SharedT×Code×Pos)}(h:(fun os=>Bt tbT pw w 11 (some (.ref 6)) 1 n (a os) t)=b)(os:OsState):
  segRunT treeTable pw w 11 (some (.ref 6)) 1 n (a os) t=b os:=by
 rw [Ws];exact congrFun h os
theorem Bb {w:World}{os:OsState}{n M:Nat}{a b:OsState→SharedT}{l rest:List Stmt}{q q':Pos}{r:Shared}
  (h:(fun os=>Bt tbT pw w 11 (some (.ref 6)) 1 n (a os) (piecesOf l ev cE q Ao))=fun os=>some (.next,b os,cE,q'))
  (k:topRun treeTable pw w 11 (some (.ref 6)) M (b os).abs (restOf rest ev cE q' Ao)=some r):
  topRun treeTable pw w 11 (some (.ref 6)) (n+M) (a os).abs (restOf (l++rest) ev cE q Ao)=some r:=piece_app (segRun_of (TV h os)) k
noncomputable abbrev sE (w:World)(os:OsState):SharedT:=st dI w 1059 1792 os
theorem Wr (w:World)(os:OsState):topRun treeTable pw w 11 (some (.ref 6)) 2 (sE w os).abs ⟨doneF .next,cE,⟨865,0,874,113⟩,Ao⟩=some (sE w os).abs:=by kernel_rfl
theorem ku (w:World)(os:OsState):topRun treeTable pw w 11 (some (.ref 6)) 2 (sE w os).abs (restOf [] ev cE ⟨865,0,874,113⟩ Ao)=some (sE w os).abs:=piece_nil (Wr w os)
noncomputable def lO:List Stmt:=[]
noncomputable def j3:List Stmt:=bA++lO
theorem lZ (w:World)(os:OsState):topRun treeTable pw w 11 (some (.ref 6)) (349+2) (st cz w 987 1694 os).abs (restOf j3 ev cE ⟨726,0,782,16⟩ Ao)=some (sE w os).abs:=Bb (nI w) (ku w os)
noncomputable def ir:List Stmt:=jL++j3
theorem me (w:World)(os:OsState):topRun treeTable pw w 11 (some (.ref 6)) (574+351) (st dH w 893 1563 os).abs (restOf ir ev cE ⟨721,0,725,50⟩ Ao)=some (sE w os).abs:=Bb (lQ w) (lZ w os)
noncomputable def io:List Stmt:=jJ++ir
theorem lA (w:World)(os:OsState):topRun treeTable pw w 11 (some (.ref 6)) (74+925) (st X9 w 879 1534 os).abs (restOf io ev cE ⟨694,0,701,65⟩ Ao)=some (sE w os).abs:=Bb (ka w) (me w os)
noncomputable def jZ:List Stmt:=cF++io
theorem lF (w:World)(os:OsState):topRun treeTable pw w 11 (some (.ref 6)) (384+999) (st Yn w 834 1456 os).abs (restOf jZ ev cE ⟨664,0,664,9⟩ Ao)=some (sE w os).abs:=Bb (kT w) (lA w os)
noncomputable def jV:List Stmt:=kD++jZ
theorem nU (w:World)(os:OsState):topRun treeTable pw w 11 (some (.ref 6)) (366+1383) (st dB w 796 1379 os).abs (restOf jV ev cE ⟨599,0,605,50⟩ Ao)=some (sE w os).abs:=Bb (mI w) (lF w os)
noncomputable def jq:List Stmt:=jA++jV
theorem lR (w:World)(os:OsState):topRun treeTable pw w 11 (some (.ref 6)) (197+1749) (st cu w 757 1312 os).abs (restOf jq ev cE ⟨434,0,517,34⟩ Ao)=some (sE w os).abs:=Bb (nt w) (nU w os)
noncomputable def kE:List Stmt:=im++jq
theorem lV (w:World)(os:OsState):topRun treeTable pw w 11 (some (.ref 6)) (499+1946) (st dA w 680 1199 os).abs (restOf kE ev cE ⟨430,0,433,84⟩ Ao)=some (sE w os).abs:=Bb (mR w) (lR w os)
noncomputable def jn:List Stmt:=iY++kE
theorem oH (w:World)(os:OsState):topRun treeTable pw w 11 (some (.ref 6)) (360+2445) (st Xx w 631 1127 os).abs (restOf jn ev cE ⟨380,0,383,16⟩ Ao)=some (sE w os).abs:=Bb (k7 w) (lV w os)
noncomputable def kI:List Stmt:=cC++jn
theorem mQ (w:World)(os:OsState):topRun treeTable pw w 11 (some (.ref 6)) (308+2805) (st Uz w 585 1069 os).abs (restOf kI ev cE ⟨346,48,346,57⟩ Ao)=some (sE w os).abs:=Bb (oF w) (oH w os)
noncomputable def kF:List Stmt:=bu++kI
theorem ni (w:World)(os:OsState):topRun treeTable pw w 11 (some (.ref 6)) (405+3113) (st Uv w 569 1035 os).abs (restOf kF ev cE ⟨340,77,340,86⟩ Ao)=some (sE w os).abs:=Bb (lH w) (mQ w os)
noncomputable def jU:List Stmt:=aG++kF
theorem mf (w:World)(os:OsState):topRun treeTable pw w 11 (some (.ref 6)) (383+3518) (st YY w 561 999 os).abs (restOf jU ev cE ⟨338,0,338,8⟩ Ao)=some (sE w os).abs:=Bb (md w) (ni w os)
noncomputable def jg:List Stmt:=jW++jU
theorem kz (w:World)(os:OsState):topRun treeTable pw w 11 (some (.ref 6)) (358+3901) (st dK w 490 906 os).abs (restOf jg ev cE ⟨234,0,246,12⟩ Ao)=some (sE w os).abs:=Bb (mK w) (mf w os)
noncomputable def jC:List Stmt:=jm++jg
theorem lP (w:World)(os:OsState):topRun treeTable pw w 11 (some (.ref 6)) (419+4259) (st cr w 433 831 os).abs (restOf jC ev cE ⟨170,0,178,24⟩ Ao)=some (sE w os).abs:=Bb (kQ w) (kz w os)
noncomputable def j0:List Stmt:=jQ++jC
theorem nN (w:World)(os:OsState):topRun treeTable pw w 11 (some (.ref 6)) (251+4678) (st cj w 412 798 os).abs (restOf j0 ev cE ⟨163,0,169,35⟩ Ao)=some (sE w os).abs:=Bb (nS w) (lP w os)
noncomputable def ij:List Stmt:=jt++j0
theorem nE (w:World)(os:OsState):topRun treeTable pw w 11 (some (.ref 6)) (251+4929) (st cx w 391 765 os).abs (restOf ij ev cE ⟨152,0,162,35⟩ Ao)=some (sE w os).abs:=Bb (n4 w) (nN w os)
noncomputable def i9:List Stmt:=jw++ij
theorem ko (w:World)(os:OsState):topRun treeTable pw w 11 (some (.ref 6)) (250+5180) (st dC w 370 733 os).abs (restOf i9 ev cE ⟨139,0,151,28⟩ Ao)=some (sE w os).abs:=Bb (k9 w) (nE w os)
noncomputable def ip:List Stmt:=ie++i9
theorem nb (w:World)(os:OsState):topRun treeTable pw w 11 (some (.ref 6)) (241+5430) (st dF w 348 699 os).abs (restOf ip ev cE ⟨131,0,138,24⟩ Ao)=some (sE w os).abs:=Bb (nz w) (ko w os)
noncomputable def iS:List Stmt:=i5++ip
theorem mc (w:World)(os:OsState):topRun treeTable pw w 11 (some (.ref 6)) (238+5671) (st cw w 327 667 os).abs (restOf iS ev cE ⟨117,0,130,27⟩ Ao)=some (sE w os).abs:=Bb (lh w) (nb w os)
noncomputable def ig:List Stmt:=ju++iS
theorem lS (w:World)(os:OsState):topRun treeTable pw w 11 (some (.ref 6)) (235+5909) (st dG w 306 626 os).abs (restOf ig ev cE ⟨111,0,116,36⟩ Ao)=some (sE w os).abs:=Bb (mO w) (mc w os)
noncomputable def jP:List Stmt:=iZ++ig
theorem mU (w:World)(os:OsState):topRun treeTable pw w 11 (some (.ref 6)) (238+6144) (st YX w 285 594 os).abs (restOf jP ev cE ⟨107,0,110,15⟩ Ao)=some (sE w os).abs:=Bb (nB w) (lS w os)
noncomputable def jH:List Stmt:=cZ++jP
theorem lD (w:World)(os:OsState):topRun treeTable pw w 11 (some (.ref 6)) (396+6382) (st Uy w 266 555 os).abs (restOf jH ev cE ⟨102,20,102,26⟩ Ao)=some (sE w os).abs:=Bb (lp w) (mU w os)
noncomputable def b9:List Stmt:=l9++jH
theorem m9 (w:World)(os:OsState):topRun treeTable pw w 11 (some (.ref 6)) (421+6778) (st T9 w 254 517 os).abs (restOf b9 ev cE ⟨63,0,98,20⟩ Ao)=some (sE w os).abs:=Bb (p9 w) (lD w os)
noncomputable def b8:List Stmt:=l8++b9
theorem m8 (w:World)(os:OsState):topRun treeTable pw w 11 (some (.ref 6)) (462+7199) (st T8 w 182 419 os).abs (restOf b8 ev cE ⟨61,0,62,81⟩ Ao)=some (sE w os).abs:=Bb (p8 w) (m9 w os)
noncomputable def b7:List Stmt:=l7++b8
theorem m7 (w:World)(os:OsState):topRun treeTable pw w 11 (some (.ref 6)) (243+7661) (st T7 w 126 353 os).abs (restOf b7 ev cE ⟨26,0,27,94⟩ Ao)=some (sE w os).abs:=Bb (p7 w) (m8 w os)
noncomputable def b6:List Stmt:=l6++b7
theorem m6 (w:World)(os:OsState):topRun treeTable pw w 11 (some (.ref 6)) (406+7904) (st T6 w 103 304 os).abs (restOf b6 ev cE ⟨17,0,18,8⟩ Ao)=some (sE w os).abs:=Bb (p6 w) (m7 w os)
noncomputable def b5:List Stmt:=l5++b6
theorem m5 (w:World)(os:OsState):topRun treeTable pw w 11 (some (.ref 6)) (214+8310) (st T5 w 91 288 os).abs (restOf b5 ev cE ⟨15,0,16,8⟩ Ao)=some (sE w os).abs:=Bb (p5 w) (m6 w os)
noncomputable def b4:List Stmt:=l4++b5
theorem m4 (w:World)(os:OsState):topRun treeTable pw w 11 (some (.ref 6)) (214+8524) (st T4 w 79 272 os).abs (restOf b4 ev cE ⟨13,0,14,8⟩ Ao)=some (sE w os).abs:=Bb (p4 w) (m5 w os)
noncomputable def b3:List Stmt:=l3++b4
theorem m3 (w:World)(os:OsState):topRun treeTable pw w 11 (some (.ref 6)) (214+8738) (st T3 w 67 256 os).abs (restOf b3 ev cE ⟨11,0,12,8⟩ Ao)=some (sE w os).abs:=Bb (p3 w) (m4 w os)
noncomputable def b2:List Stmt:=l2++b3
theorem m2 (w:World)(os:OsState):topRun treeTable pw w 11 (some (.ref 6)) (214+8952) (st T2 w 55 240 os).abs (restOf b2 ev cE ⟨9,0,10,8⟩ Ao)=some (sE w os).abs:=Bb (p2 w) (m3 w os)
noncomputable def b1:List Stmt:=l1++b2
theorem m1 (w:World)(os:OsState):topRun treeTable pw w 11 (some (.ref 6)) (214+9166) (st T1 w 43 224 os).abs (restOf b1 ev cE ⟨5,0,8,28⟩ Ao)=some (sE w os).abs:=Bb (p1 w) (m2 w os)
noncomputable def b0:List Stmt:=l0++b1
theorem m0 (w:World)(os:OsState):topRun treeTable pw w 11 (some (.ref 6)) (259+9380) (st T0 w 15 187 os).abs (restOf b0 ev cE ⟨0,0,0,0⟩ Ao)=some (sE w os).abs:=Bb (p0 w) (m1 w os)
theorem Vo:behindTheImports pw=b0:=by kernel_rfl
theorem Wj (w:World)(os:OsState):topRun treeTable pw w 11 (some (.ref 6)) 9639 (st T0 w 15 187 os).abs (restOf (behindTheImports pw) ev cE ⟨0,0,0,0⟩ Ao)=some (sE w os).abs:=by
 rw [show restOf (behindTheImports pw) ev cE ⟨0,0,0,0⟩ Ao=restOf b0 ev cE ⟨0,0,0,0⟩ Ao from congrArg (fun b=>restOf b ev cE ⟨0,0,0,0⟩ Ao) Vo]
 exact m0 w os
theorem VX (w:World):(fun os=>@PySem.W.Fast.tw15667345088766844465 tbT pw w 11 (some (.ref 6)) 12 ⟨boot_heap w.params,Array.mk [],boot_drawn,boot_toks,os⟩ (topStub pw)) =
  fun os=>some ((st T0 w 15 187 os).abs,(⟨@PySem.W.Fast.tw11892475500146522536 tbT cE,cE,⟨0,0,0,0⟩,Ao⟩:Thread)):=by kernel_rfl
theorem WX (w:World):(fun os=>@PySem.W.Fast.tw14374325043358763698 tbT pw w 11 (some (.ref 6)) 1 1 (st T0 w 15 187 os).abs (blockOf (behindTheImports pw) ev cE ⟨0,0,0,0⟩ Ao)) =
  fun os=>some (.next,(st T0 w 15 187 os).abs,cE,⟨0,0,0,0⟩):=by kernel_rfl
theorem Sb:@topGo treeTable=@PySem.W.Fast.tw15667345088766844465 tbT:=by rw [PySem.W.Fast.te15667345088766844465,PySem.W.Fast.te14364793385576792824]
theorem RZ:denote treeTable cE=@PySem.W.Fast.tw11892475500146522536 tbT cE:=by rw [PySem.W.Fast.te11892475500146522536,PySem.W.Fast.te14364793385576792824]
theorem RO:@segRun treeTable=@PySem.W.Fast.tw14374325043358763698 tbT:=by rw [PySem.W.Fast.te14374325043358763698,PySem.W.Fast.te14364793385576792824]
theorem V9 (w:World)(os:OsState):topRun treeTable pw w 11 (some (.ref 6)) (12+(1+9639)) ⟨boot_heap w.params,Array.mk [],boot_drawn,boot_toks,os⟩ (topStub pw)=some (sE w os).abs:=by
 refine go_top (s':=(st T0 w 15 187 os).abs) (t':=⟨denote treeTable cE,cE,⟨0,0,0,0⟩,Ao⟩) ?_ (piece_block (s':=(st T0 w 15 187 os).abs) ?_ (Wj w os))
 ·rw [Sb,RZ];exact congrFun (VX w) os
 ·rw [RO];exact congrFun (WX w) os
end
section
open PySem PySem.W PySem.Calls PyProof.Rows PySem.W.Fast PySem.W.R
noncomputable abbrev DE:OpenLaw:=PySem.Challenge.rw_sq0079_01
theorem k1:sreFenced pw.main=true:=by rw [te11788848310118352699];kernel_rfl
theorem k2:((moduleNames pw.main.body).isEmpty||lookedIntoSs (moduleNames pw.main.body) pw.main.body)=true:=by rw [te9807087744658564304,te12862048085361865435];kernel_rfl
theorem k3:namesResolve pw=true:=by rw [te8377067652309620493];kernel_rfl
theorem k4:(pw.boundNames.all fun n=>!worldNames.contains n)=true:=by rw [allR_eq,te18344453789297297638,te3471404346716756564,te14412699480532031325];kernel_rfl
theorem k5:noRoadLSs { strict:=!(importedModules pw.main.body).all cThrough.contains,foot:=none,bare:=(["vars","dir","locals"]:List Str).filter (readsOut pw pw.main.body) } pw.main.body=true:=by
 rw [te8326940854005059898,te5923862056798008813,allR_eq,te3471404346716756564,te17691160309236699985,te13343964577679436407,filterR_eq];kernel_rfl
theorem k6:(namesMeet pw pw.main.body fun _ n=>attrL n)=true:=by rw [te17119622794617984870,te17868728402115742887];kernel_rfl
theorem a7:looksOpen pw=true:=by
 unfold looksOpen
 exact look_both (look_both (look_both (look_both (look_both k1 k2) k3) k4) k5) k6
theorem n7:DE.prog.boundNames.contains DE.name=true:=by rw [te3471404346716756564,te18344453789297297638];kernel_rfl
theorem oG:(!startupNames.contains DE.name)=true:=by rw [te3471404346716756564,te12749700546528644094];kernel_rfl
theorem bF:DE.row.partSaid=true:=by
 unfold OpenRow.partSaid
 refine (look_both (look_both (look_both (look_both (look_both (look_both (look_both (look_both (look_both (look_both (look_both (look_both (look_both a7 ?_) ?_) ?_) ?_) ?_) ?_) ?_) ?_) ?_) ?_) ?_) ?_) ?_)
 all_goals kernel_rfl
theorem W4:DE.row.wellSaid=true:=by
 unfold OpenRow.wellSaid
 exact look_both (look_both bF n7) oG
theorem lK:DE.footing.all footLine=true:=by rw [allR_eq,te10501279942588096481];kernel_rfl
theorem mh:noClassBlock DE.prog DE.footing=true:=by rw [te8179353310426384613];kernel_rfl
theorem km:noRoadLSs { strict:=true,foot:=some DE.bound',writes:=DE.writes,may:=DE.may } DE.footing=true:=by rw [te8326940854005059898,te797321630700447069,te9572597257264208301];kernel_rfl
theorem nL:defStands DE.about DE.above=true:=by rw [te9558739934217749035];kernel_rfl
theorem nC:DE.namesIt=true:=by rw [te16286561074155671207];kernel_rfl
theorem nG:(DE.bound'.all fun n=>!builtinNamed n||DE.about==[n]||!DE.reads n)=true:=by rw [allR_eq,te797321630700447069,named_eq,te6984425678791042302];kernel_rfl
theorem kh:(namesMeet DE.prog DE.footing fun sc n=>(!(["type","isinstance","issubclass","getattr","hasattr"]:List Str).contains n||sc.names.lookup n==some .globalImplicit) &&
  (DE.may != some n||sc.kind==.module||sc.names.lookup n==some .globalImplicit))=true:=by rw [te17119622794617984870,te3471404346716756564,te9572597257264208301];kernel_rfl
theorem lG:DE.own.contains DE.name=true:=by rw [te3471404346716756564,te10792542408131684335];kernel_rfl
theorem lf:(DE.own.eraseDups.length==DE.own.length)=true:=by rw [te7723801398212525404,te10792542408131684335];kernel_rfl
theorem nT:(DE.own.all fun n=>!builtinNamed n)=true:=by rw [allR_eq,te10792542408131684335,named_eq];kernel_rfl
theorem lJ:(namesMeet DE.prog DE.above fun _ n=>!DE.own.contains n)=true:=by rw [te17119622794617984870,te3471404346716756564,te10792542408131684335];kernel_rfl
theorem kn:(namesMeet DE.prog DE.footing fun sc n=>sc.kind==.module||sc.names.lookup n != some .globalExplicit)=true:=by rw [te17119622794617984870];kernel_rfl
theorem dX:DE.wellSaid=true:=by
 unfold OpenLaw.wellSaid
 refine (look_both (look_both (look_both (look_both (look_both (look_both (look_both (look_both (look_both (look_both (look_both (look_both (look_both (look_both (look_both (look_both (look_both (look_both W4 ?_) lK) mh) ?_) ?_) km) nL) nC) ?_) nG) ?_) ?_) kh) lG) lf) nT) lJ) kn)
 all_goals kernel_rfl
end
section
open PySem PySem.W PySem.Calls PyProof.Rows PySem.W.Fast PySem.W.R PySem.Spec
noncomputable def qv:Program:={ pw with main:={ pw.main with body:=[sm 118] } }
noncomputable def lsq:List Str:=[Str.ofString "_wall",Str.ofString "PageError",Str.ofString "BadArgument",Str.ofString "Overflow",Str.ofString "BadFont",Str.ofString "BadDevice",Str.ofString "TooDeep",Str.ofString "TooMuch",Str.ofString "UNITY",Str.ofString "MAX_DIMEN",Str.ofString "MAX_NUMBER",Str.ofString "NORMAL",Str.ofString "FIL",Str.ofString "FILL",Str.ofString "FILLL",Str.ofString "is_whole",Str.ofString "check_whole",Str.ofString "check_number",Str.ofString "check_dimen",Str.ofString "rounded",Str.ofString "reading",Str.ofString "decimal_text",Str.ofString "order_text",Str.ofString "part_text",Str.ofString "Glue",Str.ofString "CHAR",Str.ofString "LIGATURE",Str.ofString "HBOX",Str.ofString "VBOX",Str.ofString "RULE",Str.ofString "KERN",Str.ofString "GLUE",Str.ofString "PENALTY",Str.ofString "DISC",Str.ofString "MARK",Str.ofString "INSERT",Str.ofString "ADJUST",Str.ofString "MATH",Str.ofString "SPECIAL",Str.ofString "UNSET",Str.ofString "NATURAL",Str.ofString "STRETCHED",Str.ofString "SHRUNK",Str.ofString "FONT_KERN",Str.ofString "EXPLICIT",Str.ofString "ACCENT_KERN",Str.ofString "MU_KERN",Str.ofString "PLAIN",Str.ofString "ALEADERS",Str.ofString "CLEADERS",Str.ofString "XLEADERS",Str.ofString "MU_SKIP",Str.ofString "NONSCRIPT",Str.ofString "NAMED",Str.ofString "FOR_DEVICE",Str.ofString "WRITING",Str.ofString "OPENING",Str.ofString "CLOSING",Str.ofString "DEEPEST",Str.ofString "check_code",Str.ofString "Char",Str.ofString "Box",Str.ofString "Kern",Str.ofString "Skip",Str.ofString "Special",Str.ofString "Write",Str.ofString "OpenOut",Str.ofString "CloseOut",Str.ofString "check_depth",Str.ofString "described_special",Str.ofString "described_rest",Str.ofString "described",Str.ofString "described_list",Str.ofString "width_of",Str.ofString "height_of",Str.ofString "depth_of",Str.ofString "line_height",Str.ofString "line_depth",Str.ofString "MOST_COPIES",Str.ofString "leader_places",Str.ofString "with_rule_sizes",Str.ofString "check_column",Str.ofString "flex",Str.ofString "set_part",Str.ofString "part_size",Str.ofString "places",Str.ofString "SET_1",Str.ofString "SET_RULE",Str.ofString "PUT_1",Str.ofString "PUT_RULE",Str.ofString "NO_OPERATION",Str.ofString "PAGE_BEGIN",Str.ofString "PAGE_END",Str.ofString "PUSH",Str.ofString "POP",Str.ofString "RIGHT_1",Str.ofString "DOWN_1",Str.ofString "FONT_0",Str.ofString "FONT_1",Str.ofString "SPECIAL_1",Str.ofString "FONT_DEF_1",Str.ofString "PREAMBLE",Str.ofString "POSTAMBLE",Str.ofString "POST_POST",Str.ofString "FILLING",Str.ofString "IDENTITY",Str.ofString "NUMERATOR",Str.ofString "DENOMINATOR",Str.ofString "MAGNIFICATION",Str.ofString "COMMENT_TEXT",Str.ofString "DEEPEST_BOXES",Str.ofString "FIRST_SET",Str.ofString "SECOND_SET",Str.ofString "FIRST_AGAIN",Str.ofString "SECOND_AGAIN",Str.ofString "FREE",Str.ofString "FIRST_FREE",Str.ofString "SECOND_FREE",Str.ofString "FIXED",Str.ofString "IS_FIRST",Str.ofString "IS_SECOND",Str.ofString "NONE_SEEN",Str.ofString "FIRST_SEEN",Str.ofString "SECOND_SEEN",Str.ofString "SILENT_ACROSS",Str.ofString "SILENT_DOWN",Str.ofString "put_number",Str.ofString "put_signed",Str.ofString "put_counted",Str.ofString "put_units",Str.ofString "define_font",Str.ofString "check_place",Str.ofString "Moves",Str.ofString "barred",Str.ofString "PageWriter",Str.ofString "parts_of",Str.ofString "across_part",Str.ofString "down_part",Str.ofString "out_box",Str.ofString "done_by",Str.ofString "check_page",Str.ofString "DviWriter",Str.ofString "EDGE",Str.ofString "MOST_FONTS",Str.ofString "MOST_PARAMS",Str.ofString "MOST_SIZE",Str.ofString "PLAIN_SORT",Str.ofString "PROGRAM_SORT",Str.ofString "LARGER_SORT",Str.ofString "PIECES_SORT",Str.ofString "STOP_SKIP",Str.ofString "KERN_OP",Str.ofString "LEAD",Str.ofString "NO_CHARACTER",Str.ofString "LETTERS",Str.ofString "SMALL_PARAMS",Str.ofString "is_size",Str.ofString "check_sizes",Str.ofString "check_pieces",Str.ofString "check_chars",Str.ofString "check_larger",Str.ofString "check_program",Str.ofString "left_start",Str.ofString "Font",Str.ofString "font_name",Str.ofString "font_of_rows",Str.ofString "_law_box",Str.ofString "_law_take",Str.ofString "_law_drawn_item",Str.ofString "_law_drawn_box",Str.ofString "_law_walked",Str.ofString "_law_made",Str.ofString "_law_node",Str.ofString "_law_file"]
noncomputable abbrev gD:Shared→Bool:=fun _=>true
theorem aU:opening pw=plainProg pw.main.scope.names:=by kernel_rfl
theorem Zv (s:Shared):fenceModules? pw s=some s:=by kernel_rfl
theorem aY (w:World):(((boot_heap w.params).isNs mainGlobals&&(Array.mk []:Array GenState).size==0),(boot_heap w.params).objs.size,(boot_heap w.params).nsMap mainGlobals "__annotations__")=(true,11,some (.ref 6)):=by kernel_rfl
noncomputable def H1 (P:Params):Heap:=absHeap (dI P) 1059 {}
noncomputable abbrev S1 (w:World)(os:OsState):Shared:=⟨H1 w.params,Array.mk [],{},1792,os⟩
noncomputable abbrev PD:List Str:=importedModules pw.main.body
theorem lB (w:World):staticsOk PD (boot_heap w.params) (H1 w.params)=true:=by unfold PD;rw [te5923862056798008813];kernel_rfl
theorem nY (w:World):namesBound pw (H1 w.params)=true:=by
 unfold namesBound;rw [allR_eq,te3471404346716756564,te18344453789297297638,te12749700546528644094];kernel_rfl
theorem mE (w:World)(os:OsState):gensDone (S1 w os)=true:=by kernel_rfl
theorem nX (w:World):laidKept (boot_heap w.params) (H1 w.params)=true:=by kernel_rfl
theorem d1 (w:World)(os:OsState):seen ((recsOf qv).map (·.name)) (ownsOf qv) [] { S1 w os with gens:=#[] }=expectedOf qv:=by rw [te5160383126252970620,te3399658132070893891];kernel_rfl
theorem d2 (w:World):(H1 w.params).bltView=bltViewBooted:=by kernel_rfl
theorem d4 (w:World)(os:OsState):tabsOk qv (S1 w os)=true:=by rw [te479339242167458305];kernel_rfl
theorem d5 (w:World)(os:OsState):pinSeenD qv (drecsOf qv) (S1 w os)=pinGoodD (drecsOf qv):=by rw [te16090120013241838585];kernel_rfl
theorem d6 (w:World)(os:OsState):plainSeenE qv (looseW qv lsq) (S1 w os)=plainGoodE qv (looseW qv lsq):=by rw [te2386780881361962483,te821141287760084731];kernel_rfl
theorem d7 (w:World)(os:OsState):plainSeenD qv lsq (S1 w os)=plainGoodD qv lsq:=by rw [te11698064438423848299];kernel_rfl
theorem d8 (w:World)(os:OsState):wideSeen qv (S1 w os)=wideGood qv:=by rw [te7317090234206586261];kernel_rfl
theorem d9 (w:World)(os:OsState):clsSeenW qv lsq (S1 w os)=clsGoodW qv lsq:=by rw [te7369524293546568484];kernel_rfl
theorem mT (w:World):(H1 w.params).keysOk (looseW qv lsq) ((recsOf qv).map (·.name)) ((litsOf qv).map (·.1)) ((clssOf qv (looseW qv lsq)).map (·.name))=true:=by
 unfold Heap.keysOk;rw [allR_eq,te3471404346716756564,te821141287760084731];kernel_rfl
theorem mG (w:World):(H1 w.params).accountedOkI PD=true:=by unfold PD;rw [te5923862056798008813];kernel_rfl
theorem nK (w:World):((H1 w.params).isNs mainGlobals)=true:=by kernel_rfl
theorem mu (w:World):((H1 w.params).isNs builtinsNs)=true:=by kernel_rfl
theorem nq (w:World):tablesOk qv (H1 w.params)=true:=by rw [te10994771534591457954];kernel_rfl
noncomputable abbrev mB:List Stmt:=pw.main.body
noncomputable abbrev mS:Scope:=pw.main.scope
noncomputable abbrev iJ (l:List Str):TablesWhole.Ctx:=⟨mS,[],l,[],none⟩
noncomputable abbrev tW (l:List Stmt):Bool:=TablesWhole.wSs TablesWhole.holds mS (iJ []) mS l
theorem TQ:∀a b:List Stmt,tW (a++b)=(tW a&&tW b)
 | [],b=>rfl
 | s::a,b=>(congrArg (TablesWhole.wS TablesWhole.holds mS (iJ []) mS s&&·) (TQ a b)).trans (Bool.and_assoc _ _ _).symm
theorem EP {l:List Stmt}(n:Nat)(h:tW (l.take n)=true)(h2:tW (l.drop n)=true):tW l=true:=by
 rw [←List.take_append_drop n l,TQ,h,h2];rfl
theorem aq:TablesWhole.wSs TablesWhole.gather mS (iJ []) mS mB=[]:=by rw [te16421684217811934046];kernel_rfl
noncomputable abbrev jy:List Stmt:=mB
theorem mq:tW (jy.take 15)=true:=by unfold tW;rw [te16421684217811934046];kernel_rfl
noncomputable abbrev i8:List Stmt:=jy.drop 15
theorem lI:tW (i8.take 15)=true:=by unfold tW;rw [te16421684217811934046];kernel_rfl
noncomputable abbrev ii:List Stmt:=i8.drop 15
theorem lU:tW (ii.take 15)=true:=by unfold tW;rw [te16421684217811934046];kernel_rfl
noncomputable abbrev jk:List Stmt:=ii.drop 15
theorem lu:tW (jk.take 15)=true:=by unfold tW;rw [te16421684217811934046];kernel_rfl
noncomputable abbrev jp:List Stmt:=jk.drop 15
theorem ny:tW (jp.take 15)=true:=by unfold tW;rw [te16421684217811934046];kernel_rfl
noncomputable abbrev jY:List Stmt:=jp.drop 15
theorem n9:tW (jY.take 15)=true:=by unfold tW;rw [te16421684217811934046];kernel_rfl
noncomputable abbrev jS:List Stmt:=jY.drop 15
theorem k8:tW (jS.take 15)=true:=by unfold tW;rw [te16421684217811934046];kernel_rfl
noncomputable abbrev il:List Stmt:=jS.drop 15
theorem nJ:tW (il.take 15)=true:=by unfold tW;rw [te16421684217811934046];kernel_rfl
theorem mZ:tW (il.drop 15)=true:=by unfold tW;rw [te16421684217811934046];kernel_rfl
theorem lM:tW mB=true:=EP 15 mq (EP 15 lI (EP 15 lU (EP 15 lu (EP 15 ny (EP 15 n9 (EP 15 k8 (EP 15 nJ (mZ))))))))
noncomputable abbrev tH:TablesWhole.Alg Bool:=TablesWhole.holds
theorem oD (m:Module):TablesWhole.wModule tH m=(tH.enter m.scope&&(tH.check "no name twice in a table, but a class's lawful pair" m.scope ("(the table)":Str) (TablesWhole.noTwice m.scope)&&(TablesWhole.wSs tH m.scope ⟨m.scope,[],TablesWhole.wSs TablesWhole.gather m.scope ⟨m.scope,[],[],[],none⟩ m.scope m.body,[],none⟩ m.scope m.body&&true))):=rfl
theorem lq:TablesWhole.noTwice mS=true:=by rw [te8331962902438777018];kernel_rfl
theorem oA:TablesWhole.wModule tH pw.main=true:=by
 rw [oD,aq,lq,show TablesWhole.wSs tH pw.main.scope ⟨pw.main.scope,[],[],[],none⟩ pw.main.scope pw.main.body=true from lM];rfl
theorem lg (p:Program):p.tablesWhole=(TablesWhole.wModule tH p.main&&(tH.all (p.modules.map fun (_,_,m)=>TablesWhole.wModule tH m)&&(tH.all (p.parses.map (TablesWhole.wParse tH))&&(tH.all (p.harvested.map (TablesWhole.wParse tH))&&true)))):=rfl
theorem bD:pw.tablesWhole=true:=by rw [lg,oA];kernel_rfl
theorem d3 (w:World)(os:OsState):((H1 w.params).keysOk (looseW qv lsq) ((recsOf qv).map (·.name)) ((litsOf qv).map (·.1)) ((clssOf qv (looseW qv lsq)).map (·.name))&&(H1 w.params).accountedOkI PD&&(H1 w.params).isNs mainGlobals&&(H1 w.params).isNs builtinsNs&&tablesOk qv (H1 w.params)&&gD (S1 w os)&&(if true then (S1 w os).gens.size==0 else !leftWithCleanup (S1 w os).gens))=true:=by
 refine look_both (look_both (look_both (look_both (look_both (look_both (mT w) (mG w)) (nK w)) (mu w)) (nq w)) rfl) rfl
theorem X4 (w:World)(os:OsState):openSeen qv lsq PD gD true (S1 w os)=openGood qv lsq:=
 looks_pair (d1 w os) (looks_pair (d2 w) (looks_pair (d3 w os) (looks_pair (d4 w os) (looks_pair (d5 w os) (looks_pair (d6 w os) (looks_pair (d7 w os) (looks_pair (d8 w os) (d9 w os))))))))
theorem Xv (w:World)(os:OsState):(staticsOk PD (boot_heap w.params) (H1 w.params)&&namesBound pw (H1 w.params)&&gensDone (S1 w os)&&laidKept (boot_heap w.params) (H1 w.params))=true:=
 look_both (look_both (look_both (lB w) (nY w)) (mE w os)) (nX w)
theorem Wc (w:World)(os:OsState):(sE w os).abs=⟨H1 w.params,Array.mk [],{},1792,os⟩:=by kernel_rfl
theorem dw (w:World)(os:OsState):topRun treeTable pw w 11 (some (.ref 6)) (12+(1+9639)) ⟨boot_heap w.params,Array.mk [],boot_drawn,boot_toks,os⟩ (topStub pw)=some ⟨H1 w.params,Array.mk [],{},1792,os⟩:=(V9 w os).trans (congrArg some (Wc w os))
theorem bH:LeftO pw qv lsq gD (fun s=>s.heap) (fun w=>H1 w.params) 19400 true:=
 LeftO.of_pieces (H₀:=fun P=>boot_heap P) (H₁:=fun P=>H1 P) (gs₀:=Array.mk []) (gs₁:=Array.mk []) (d₀:=boot_drawn) (d₁:={}) (k₀:=boot_toks) (k₁:=1792) (m₀:=11) (ann:=some (.ref 6)) (M:=12+(1+9639))
  (boot_open aU rfl Zv) aY dw rfl
  (fun w=>funext fun os=>looks_pair (Xv w os) (looks_pair (X4 w os) rfl))
noncomputable def YPw (w:World)(h:Heap):Prop:=∀b o,(H1 w.params).get? b=some o→h.get? b=some o
theorem dS:(defOf qv DE.row.name).isSome=true:=by kernel_rfl
noncomputable def dlaw:DefRec×List (Str×Expr):=(defOf qv DE.row.name).get dS
theorem def1:defOf qv DE.row.name=some (dlaw.1,dlaw.2):=(Option.some_get dS).symm
theorem dZ:pw.theDef DE.row.name=some (dlaw.1.params,dlaw.1.body,dlaw.1.scope):=by kernel_rfl
theorem eJ:kwWritten? dlaw.1.params.kwonlyargs dlaw.1.params.kw_defaults=some dlaw.2:=by kernel_rfl
theorem ok1:(chainsOk qv&&opensWell pw&&(frees DE.row.toRowW&&DE.row.within.isEmpty))=true:=by
 refine look_both (look_both ?_ ?_) (look_both ?_ ?_) <;> kernel_rfl
theorem ca:pw.bare:=by
 refine⟨?_,?_,?_,?_,?_,bD⟩ <;> kernel_rfl
theorem Zx:DE.row.toRowW.promised:=⟨[.list [.int 3,.int 1]],by decide +kernel,by decide +kernel⟩
theorem held (call:WalkO qv lsq (fun _ _=>True) YPw DE.row.toRowW dlaw.1 dlaw.2 fun f vs=>PySem.call f vs):DE.Holds:=
 holds_law dX fun _=>holds_open bH (fun w s e b o h=>by
  have e':s.heap=H1 w.params:=e
  rw [e'];exact h) (fun w h h' Y k b o q=>k b o (Y b o q)) (fun _ _=>trivial) (fun _ _ _ _ _=>trivial) def1 dZ eJ (fun _ _=>recFacts_nil rfl) rfl W4 ok1 ca Zx call
end
end Hd
namespace Mine
section
theorem cps {G:Prop}(h:∀P:Prop,(G→P)→P):G:=h G id
theorem iU {α β:Type}(X:α→β→Prop){G:Prop}(h:∀I:α→β→Prop,(∀m s,I m s→X m s)→(∀m s,X m s→I m s)→G):G:=h X (fun _ _ h=>h) (fun _ _ h=>h)
theorem bZ {α β:Type}{X:α→β→Prop}{m:α}{s:β}(h0:X m s){G:Prop}(h:∀I:α→β→Prop,(∀m s,I m s→X m s)→(∀m s,X m s→I m s)→I m s→G):G:=h X (fun _ _ h=>h) (fun _ _ h=>h) h0
theorem jb {α:Type}(x:α){G:Prop}(h:∀y,y=x→G):G:=h x rfl
theorem QS {l i m:Nat}(e:m=l - i)(h:i < l):l - (i+1) < m:=e▸Nat.sub_lt_sub_left h (Nat.lt_succ_self i)
theorem gK (k l:Nat):min k l+(l - k)=l:=by
 rcases Nat.le_total k l with h | h
 ·rw [Nat.min_eq_left h,Nat.add_sub_cancel' h]
 ·rw [Nat.min_eq_right h,Nat.sub_eq_zero_of_le h];rfl
theorem XE {j k:Nat}(h:¬ j < k):k+(j - k)=j:=Nat.add_sub_cancel' (Nat.le_of_not_lt h)
theorem Zg {d a p:Nat}(h:a≤p)(h2:p≤a+d):a+(d - (a+d - p))=p:=by
 obtain⟨k,rfl⟩:=Nat.exists_eq_add_of_le h
 rw [Nat.add_sub_add_left,Nat.sub_sub_self (Nat.le_of_add_le_add_left h2)]
theorem XW {a b c:Nat}(h:b≤c):min a b≤c:=Nat.le_trans (Nat.min_le_right a b) h
theorem ZN {k l m:Nat}(h:k < l)(e:m=l+1):k < m - 1:=e▸h
noncomputable abbrev Iv (M x:Int):Prop:=-M≤x∧x≤M
theorem iw {M N x:Int}(h:Iv M x)(k:M≤N):Iv N x:=⟨Int.le_trans (Int.neg_le_neg k) h.1,Int.le_trans h.2 k⟩
theorem ia {M a x c:Int}(h:Iv M a)(k:Iv c x):Iv (M+c) (a+x):=⟨Int.neg_add (a:=M)▸Int.add_le_add h.1 k.1,Int.add_le_add h.2 k.2⟩
theorem na {M x:Int}{B:Nat}(h:Iv M x)(k:M≤B):x.natAbs≤B:=by have h:=iw h k;unfold Iv at h;clear k;omega
theorem iv {x:Int}{B:Nat}(h:x.natAbs≤B):Iv B x:=by unfold Iv;omega
theorem lL {a b:Int}{M c:Nat}(h:a.natAbs≤M)(k:Iv c b)(q:Nat.ble (M+c) N=true):(a+b).natAbs≤N:=na (ia (iv h) k) (Int.ofNat_le.2 (Nat.le_of_ble_eq_true q))
theorem V5 {a b:Nat}(h:a+b < 1000000):a < 16000000:=Nat.lt_trans (Nat.lt_of_le_of_lt (Nat.le_add_right a b) h) (by decide)
theorem Zt {a b m:Nat}(h:a+(b+1) < m):a+1+b < m:=by rw [Nat.add_right_comm];exact h
theorem df {a b:Nat}(h:a+(b+1)≤16000000):a < 16000000:=Nat.lt_of_lt_of_le (Nat.lt_of_lt_of_le (Nat.lt_succ_self a) (Nat.succ_le_succ (Nat.le_add_right a b))) h
theorem iy {a b m:Nat}(h:a+(b+1)≤m):a+1+b≤m:=by rw [Nat.add_right_comm];exact h
theorem Zs {c d e l n:Nat}(h:1≤l)(k:c*l+d≤n)(q:Nat.ble e (c+d)=true):c*(l - 1)+e≤n:=by
 cases l with
 | zero=>cases h
 | succ l=>exact Nat.le_trans (Nat.add_le_add_left (Nat.le_of_ble_eq_true q) (c*l)) (by rw [←Nat.add_assoc];exact k)
end
section
open PySem PySem.W PyProof.Rows PySem.Calls
noncomputable abbrev PM:=Addr→Option Obj
noncomputable abbrev HP:=List (Addr×Obj)
inductive O where
 | fr | sh | dp
inductive V where
 | undef
 | none
 | bool (b:Bool)
 | int (i:Int)
 | str (s:List Nat)
 | bytes (l:List Int)
 | tup (l:List V)
 | lst (o:O) (l:List V)
 | dct (o:Bool) (l:List (Int×V))
 | obj (o:Bool) (c:Nat) (f:List (Nat×V))
 | hole (v:Value)
 | pin (a:Addr) (t:V)
structure Tab where
 cls:Nat→Addr
 an:Nat→Str
noncomputable abbrev AD (vs:Array Value)(n:Nat):Obj:={ cls:=.type "list",dict:=none,data:=.seq vs n,slots:=#[] }
noncomputable abbrev Bu (vs:Array Value)(n:Nat):Obj:={ cls:=.type "tuple",dict:=none,data:=.seq vs n,slots:=#[] }
noncomputable abbrev AV (es:Array DictEntry)(n:Nat):Obj:={ cls:=.type "dict",dict:=none,data:=.dict es n,slots:=#[] }
noncomputable abbrev gE (v:Option Value):Obj:={ cls:=.type "cell",data:=.cell v }
noncomputable def YK (B:PM)(o:O)(a:Addr)(ob:Obj)(hp h1:HP):Prop:=
 match o with
 | .fr=>hp=[]∧h1=[]∧B a=some ob
 | .sh=>hp=[(a,ob)]∧h1=[]
 | .dp=>hp=(a,ob)::h1
noncomputable def OE (B:PM)(o:Bool)(a:Addr)(ob:Obj)(d:Addr)(od:Obj)(hp h1:HP):Prop:=
 match o with
 | false=>hp=[]∧h1=[]∧B a=some ob∧B d=some od
 | true=>hp=(a,ob)::(d,od)::h1
noncomputable def Wg (B:PM)(o:Bool)(a:Addr)(ob:Obj)(hp:HP):Prop:=
 match o with
 | false=>hp=[]∧B a=some ob
 | true=>hp=[(a,ob)]
inductive Is (u:Value):Value→HP→Prop
 | mk:Is u u []
inductive gR (i:Int):Value→HP→Prop
 | mk (t:Tok):gR i (.int i t) []
inductive fJ (x:List Nat):Value→HP→Prop
 | mk (t:Tok):fJ x (.str ⟨x.toArray⟩ t) []
inductive jI (l:List Int):Value→HP→Prop
 | mk (b:Array UInt8) (t:Tok) (e:b.toList.map (fun u=>(u.toNat:Int))=l):jI l (.bytes b t) []
inductive IsT (B:PM)(m:Nat)(Q:List Value→HP→Prop):Value→HP→Prop
 | mk (z:m≤sizeLine) (a:Addr) (vs:Array Value) (n:Nat) (ba:B a=some (Bu vs n)) (rl:Q vs.toList []):IsT B m Q (.ref a) []
inductive IsL (B:PM)(o:O)(m:Nat)(Q:List Value→HP→Prop)(hp:HP):Value→Prop
 | mk (z:m≤sizeLine) (a:Addr) (vs:Array Value) (n:Nat) (h1:HP) (ow:YK B o a (AD vs n) hp h1) (rl:Q vs.toList h1):IsL B o m Q hp (.ref a)
inductive Z5 (B:PM)(o:Bool)(ks:List Int)(Q:List DictEntry→Prop)(hp:HP):Value→Prop
 | mk (a:Addr) (es:Array DictEntry) (n:Nat) (ow:Wg B o a (AV es n) hp) (rd:Q es.toList) (nd:ks.Nodup) (z:ks.length≤sizeLine):Z5 B o ks Q hp (.ref a)
inductive dE (B:PM)(o:Bool)(c:Addr)(ks:List Nat)(Q:List DictEntry→HP→Prop)(hp:HP):Value→Prop
 | mk (a dx:Addr) (es:Array DictEntry) (n:Nat) (h1:HP) (ow:OE B o a (instObj c dx) dx (AV es n) hp h1) (rf:Q es.toList h1) (nd:ks.Nodup) (lt:∀k∈ks,k < 200):dE B o c ks Q hp (.ref a)
inductive jD (P:Value→HP→Prop)(a:Addr):Value→HP→Prop
 | mk (r:P (.ref a) []):jD P a (.ref a) []
inductive h9 {α:Type}:List α→HP→Prop
 | mk:h9 [] []
inductive Qe (P:Value→HP→Prop)(Q:List Value→HP→Prop):List Value→HP→Prop
 | mk (v:Value) (vs:List Value) (h1 h2:HP) (r:P v h1) (rl:Q vs h2):Qe P Q (v::vs) (h1++h2)
inductive hY (k:Str)(P:Value→HP→Prop)(Q:List DictEntry→HP→Prop):List DictEntry→HP→Prop
 | mk (hs:Int) (t:Tok) (v:Value) (es:List DictEntry) (h1 h2:HP) (r:P v h1) (rl:Q es h2):hY k P Q (⟨hs,.str k t,v⟩::es) (h1++h2)
inductive jE (k:Int)(P:Value→HP→Prop)(Q:List DictEntry→Prop):List DictEntry→Prop
 | mk (t:Tok) (v:Value) (es:List DictEntry) (r:P v []) (rl:Q es):jE k P Q (⟨hashInt k,.int k t,v⟩::es)
mutual
noncomputable def RV (T:Tab)(B:PM):V→Value→HP→Prop
 | .undef,_,_=>False
 | .none,v,hp=>Is .none v hp
 | .bool b,v,hp=>Is (.bool b) v hp
 | .int i,v,hp=>gR i v hp
 | .str x,v,hp=>fJ x v hp
 | .bytes l,v,hp=>jI l v hp
 | .tup l,v,hp=>IsT B l.length (RL T B l) v hp
 | .lst o l,v,hp=>IsL B o l.length (RL T B l) hp v
 | .dct o l,v,hp=>Z5 B o (l.map (·.1)) (RD T B l) hp v
 | .obj o c f,v,hp=>dE B o (T.cls c) (f.map (·.1)) (RF T B f) hp v
 | .hole v',v,hp=>Is v' v hp
 | .pin a t,v,hp=>jD (RV T B t) a v hp
noncomputable def RL (T:Tab)(B:PM):List V→List Value→HP→Prop
 | [],vs,hp=>h9 vs hp
 | x::l,vs,hp=>Qe (RV T B x) (RL T B l) vs hp
noncomputable def RF (T:Tab)(B:PM):List (Nat×V)→List DictEntry→HP→Prop
 | [],es,hp=>h9 es hp
 | (k,x)::l,es,hp=>hY (T.an k) (RV T B x) (RF T B l) es hp
noncomputable def RD (T:Tab)(B:PM):List (Int×V)→List DictEntry→Prop
 | [],es=>es=[]
 | (k,x)::l,es=>jE k (RV T B x) (RD T B l) es
end
theorem EA {a b:HP}(h:a++b=[]):a=[]∧b=[]:=List.append_eq_nil_iff.mp h
inductive fE (P:Value→HP→Prop)(Q:List Value→HP→Prop):List Value→Prop
 | mk (v:Value) (vs:List Value) (r:P v []) (rl:Q vs []):fE P Q (v::vs)
theorem Qe.nil {P Q vs hp}(r:Qe P Q vs hp)(e:hp=[]):fE P Q vs:=by
 obtain⟨v,vs,h1,h2,r,rl⟩:=r
 obtain⟨rfl,rfl⟩:=EA e
 exact⟨v,vs,r,rl⟩
theorem RL.unN {T:Tab}{B:PM}{x:V}{l:List V}{vs:List Value}(r:RL T B (x::l) vs []):fE (RV T B x) (RL T B l) vs:=Qe.nil r rfl
noncomputable def PM.le (B B':PM):Prop:=∀a o,B a=some o→B' a=some o
theorem PM.le.refl (B:PM):B.le B:=fun _ _ e=>e
theorem PM.le.trans {B B' B'':PM}(x:B.le B')(y:B'.le B''):B.le B'':=fun a o e=>y a o (x a o e)
theorem YK.mono {B B':PM}(hB:B.le B'){o a ob hp h1}(x:YK B o a ob hp h1):YK B' o a ob hp h1:=by
 cases o
 ·exact⟨x.1,x.2.1,hB _ _ x.2.2⟩
 ·exact x
 ·exact x
theorem OE.mono {B B':PM}(hB:B.le B'){o a ob d od hp h1}(x:OE B o a ob d od hp h1):OE B' o a ob d od hp h1:=by
 cases o
 ·exact⟨x.1,x.2.1,hB _ _ x.2.2.1,hB _ _ x.2.2.2⟩
 ·exact x
theorem Wg.mono {B B':PM}(hB:B.le B'){o a ob hp}(x:Wg B o a ob hp):Wg B' o a ob hp:=by
 cases o
 ·exact⟨x.1,hB _ _ x.2⟩
 ·exact x
mutual
theorem RV.mono {T:Tab}{B B':PM}(hB:B.le B'):∀{t:V} {v:Value} {hp:HP},RV T B t v hp→RV T B' t v hp
 | .undef,_,_,x=>x
 | .none,_,_,x=>x
 | .bool _,_,_,x=>x
 | .int _,_,_,x=>x
 | .str _,_,_,x=>x
 | .bytes _,_,_,x=>x
 | .hole _,_,_,x=>x
 | .pin _ _,_,_,x=>by obtain⟨r⟩:=x;exact⟨RV.mono hB r⟩
 | .tup _,_,_,x=>by obtain⟨z,a,vs,n,b,r⟩:=x;exact⟨z,a,vs,n,hB _ _ b,RL.mono hB r⟩
 | .lst _ _,_,_,x=>by obtain⟨z,a,vs,n,h1,b,r⟩:=x;exact⟨z,a,vs,n,h1,b.mono hB,RL.mono hB r⟩
 | .dct _ _,_,_,x=>by obtain⟨a,es,n,b,r,d,z⟩:=x;exact⟨a,es,n,b.mono hB,RD.mono hB r,d,z⟩
 | .obj _ _ _,_,_,x=>by obtain⟨a,dx,es,n,h1,b,r,d,lt⟩:=x;exact⟨a,dx,es,n,h1,b.mono hB,RF.mono hB r,d,lt⟩
theorem RL.mono {T:Tab}{B B':PM}(hB:B.le B'):∀{l:List V} {vs:List Value} {hp:HP},RL T B l vs hp→RL T B' l vs hp
 | [],_,_,x=>x
 | _::_,_,_,x=>by obtain⟨v,vs,h1,h2,r1,r2⟩:=x;exact⟨v,vs,h1,h2,RV.mono hB r1,RL.mono hB r2⟩
theorem RF.mono {T:Tab}{B B':PM}(hB:B.le B'):∀{l:List (Nat×V)} {es:List DictEntry} {hp:HP},RF T B l es hp→RF T B' l es hp
 | [],_,_,x=>x
 | (_,_)::_,_,_,⟨hs,t,v,es,h1,h2,r1,r2⟩=>⟨hs,t,v,es,h1,h2,RV.mono hB r1,RF.mono hB r2⟩
theorem RD.mono {T:Tab}{B B':PM}(hB:B.le B'):∀{l:List (Int×V)} {es:List DictEntry},RD T B l es→RD T B' l es
 | [],_,x=>x
 | (_,_)::_,_,⟨t,v,es,r1,r2⟩=>⟨t,v,es,RV.mono hB r1,RD.mono hB r2⟩
end
noncomputable def fz:V→Bool
 | .none | .bool _ | .int _ | .str _ | .bytes _ | .tup _ | .lst .fr _ | .dct false _ | .obj false _ _ | .pin _ _=>true
 | _=>false
mutual
noncomputable def frz:V→V
 | .lst .fr l=>.lst .fr l
 | .lst .sh l=>.lst .fr l
 | .lst .dp l=>.lst .fr (QA l)
 | .dct _ l=>.dct false l
 | .obj false c f=>.obj false c f
 | .obj true c f=>.obj false c (OR f)
 | t=>t
noncomputable def QA:List V→List V
 | []=>[]
 | x::l=>frz x::QA l
noncomputable def OR:List (Nat×V)→List (Nat×V)
 | []=>[]
 | (k,x)::l=>(k,frz x)::OR l
end
theorem Is.nil {u v hp}(x:Is u v hp):hp=[]:=by cases x;rfl
theorem RV.fz_nil {T:Tab}{B:PM}{t:V}{v:Value}{hp:HP}(x:RV T B t v hp)(h:fz t=true):hp=[]:=by
 cases t with
 | undef=>exact x.elim
 | hole _=>exact Is.nil x
 | pin _ _=>cases x;rfl
 | none=>exact Is.nil x
 | bool _=>exact Is.nil x
 | int _=>cases x;rfl
 | str _=>cases x;rfl
 | bytes _=>cases x;rfl
 | tup _=>cases x;rfl
 | lst o _=>
  cases o with
  | fr=>obtain⟨_,a,vs,n,h1,b,r⟩:=x;exact b.1
  | sh=>cases h
  | dp=>cases h
 | dct o _=>
  cases o with
  | false=>obtain⟨a,es,n,b,r⟩:=x;exact b.1
  | true=>cases h
 | obj o _ _=>
  cases o with
  | false=>obtain⟨a,dx,es,n,h1,b,r⟩:=x;exact b.1
  | true=>cases h
theorem NU:∀l:List V,(QA l).length=l.length
 | []=>rfl
 | _::l=>congrArg (·+1) (NU l)
theorem El:∀f:List (Nat×V),(OR f).map (·.1)=f.map (·.1)
 | []=>rfl
 | (k,_)::l=>congrArg (k::·) (El l)
mutual
theorem RV.frz {T:Tab}{B B':PM}(hB:B.le B'):∀{t:V} {v:Value} {hp:HP},RV T B t v hp→(∀p∈hp,B' p.1=some p.2)→RV T B' (Mine.frz t) v []
 | .undef,_,_,x,_=>x.elim
 | .none,_,_,x,_=>by cases x;exact⟨⟩
 | .bool _,_,_,x,_=>by cases x;exact⟨⟩
 | .int _,_,_,x,_=>by obtain⟨t⟩:=x;exact⟨t⟩
 | .str _,_,_,x,_=>by obtain⟨t⟩:=x;exact⟨t⟩
 | .bytes _,_,_,x,_=>by obtain⟨b,t,e⟩:=x;exact⟨b,t,e⟩
 | .hole _,_,_,x,_=>by cases x;exact⟨⟩
 | .pin _ _,_,_,x,_=>by obtain⟨r⟩:=x;exact⟨RV.mono hB r⟩
 | .tup _,_,_,x,_=>by obtain⟨z,a,vs,n,b,r⟩:=x;exact⟨z,a,vs,n,hB _ _ b,RL.mono hB r⟩
 | .lst .fr l,_,_,x,h=>by obtain⟨z,a,vs,n,h1,b,r⟩:=x;exact⟨z,a,vs,n,[],⟨rfl,rfl,hB _ _ b.2.2⟩,b.2.1▸RL.mono hB r⟩
 | .lst .sh l,_,_,x,h=>by obtain⟨z,a,vs,n,h1,b,r⟩:=x;exact⟨z,a,vs,n,[],⟨rfl,rfl,h (a,_) (b.1▸.head _)⟩,b.2▸RL.mono hB r⟩
 | .lst .dp l,_,_,x,h=>by obtain⟨z,a,vs,n,h1,b,r⟩:=x;exact⟨by rw [NU];exact z,a,vs,n,[],⟨rfl,rfl,h (a,_) (b▸.head _)⟩,RL.frz hB r fun p hp=>h p (b▸.tail _ hp)⟩
 | .dct false l,_,_,x,h=>by obtain⟨a,es,n,b,r,d,z⟩:=x;exact⟨a,es,n,⟨rfl,hB _ _ b.2⟩,RD.mono hB r,d,z⟩
 | .dct true l,_,_,x,h=>by obtain⟨a,es,n,b,r,d,z⟩:=x;exact⟨a,es,n,⟨rfl,h (a,_) (b▸.head _)⟩,RD.mono hB r,d,z⟩
 | .obj false c f,_,_,x,h=>by obtain⟨a,dx,es,n,h1,b,r,d,lt⟩:=x;exact⟨a,dx,es,n,[],⟨rfl,rfl,hB _ _ b.2.2.1,hB _ _ b.2.2.2⟩,b.2.1▸RF.mono hB r,d,lt⟩
 | .obj true c f,_,_,x,h=>by obtain⟨a,dx,es,n,h1,b,r,d,lt⟩:=x;exact⟨a,dx,es,n,[],⟨rfl,rfl,h (a,_) (b▸.head _),h (dx,_) (b▸.tail _ (.head _))⟩,RF.frz hB r fun p hp=>h p (b▸.tail _ (.tail _ hp)),by rw [El];exact d,by rw [El];exact lt⟩
theorem RL.frz {T:Tab}{B B':PM}(hB:B.le B'):∀{l:List V} {vs:List Value} {hp:HP},RL T B l vs hp→(∀p∈hp,B' p.1=some p.2)→RL T B' (QA l) vs []
 | [],_,_,x,_=>by cases x;exact⟨⟩
 | _::_,_,_,x,h=>by obtain⟨v,vs,h1,h2,r1,r2⟩:=x;exact⟨v,vs,[],[],RV.frz hB r1 fun p hp=>h p (List.mem_append_left _ hp),RL.frz hB r2 fun p hp=>h p (List.mem_append_right _ hp)⟩
theorem RF.frz {T:Tab}{B B':PM}(hB:B.le B'):∀{l:List (Nat×V)} {es:List DictEntry} {hp:HP},RF T B l es hp→(∀p∈hp,B' p.1=some p.2)→RF T B' (OR l) es []
 | [],_,_,x,_=>by cases x;exact⟨⟩
 | (_,_)::_,_,_,⟨hs,t,v,es,h1,h2,r1,r2⟩,h=>⟨hs,t,v,es,[],[],RV.frz hB r1 fun p hp=>h p (List.mem_append_left _ hp),RF.frz hB r2 fun p hp=>h p (List.mem_append_right _ hp)⟩
end
structure Inv (B:PM)(h:Heap)(hp:HP):Prop where
 base:∀a o,B a=some o→h.get? a=some o
 own:∀p∈hp,h.get? p.1=some p.2
 off:∀p∈hp,B p.1=none
 nd:(hp.map (·.1)).Nodup
theorem Inv.perm {B:PM}{h:Heap}{hp hp':HP}(x:Inv B h hp)(p:hp.Perm hp'):Inv B h hp':=
 ⟨x.base,fun q hq=>x.own q (p.mem_iff.mpr hq),fun q hq=>x.off q (p.mem_iff.mpr hq),(p.map (·.1)).nodup_iff.mp x.nd⟩
theorem Inv.keep {B:PM}{h h':Heap}{hp:HP}(x:Inv B h hp)(k:∀a o,h.get? a=some o→h'.get? a=some o):Inv B h' hp:=
 ⟨fun a o e=>k a o (x.base a o e),fun p q=>k _ _ (x.own p q),x.off,x.nd⟩
theorem Inv.right {B:PM}{h:Heap}{hp F:HP}(x:Inv B h (hp++F)):Inv B h F:=by
 have nd:=x.nd
 rw [List.map_append,List.nodup_append] at nd
 exact⟨x.base,fun p q=>x.own p (List.mem_append_right _ q),fun p q=>x.off p (List.mem_append_right _ q),nd.2.1⟩
theorem Inv.left {B:PM}{h:Heap}{hp F:HP}(x:Inv B h (hp++F)):Inv B h hp:=(x.perm List.perm_append_comm).right
theorem Inv.tail {B:PM}{h:Heap}{p}{F:HP}(x:Inv B h (p::F)):Inv B h F:=Inv.right (hp:=[p]) x
theorem Inv.new {B:PM}{h h':Heap}{hp:HP}{a:Addr}{o:Obj}(x:Inv B h hp)(k:∀a o,h.get? a=some o→h'.get? a=some o)(e:h.get? a=none)(e':h'.get? a=some o):Inv B h' ((a,o)::hp):=by
 refine⟨fun a o e=>k a o (x.base a o e),fun p q=>?_,fun p q=>?_,?_⟩
 ·cases q with
  | head=>exact e'
  | tail _ q=>exact k _ _ (x.own p q)
 ·cases q with
  | head=>
   cases z:B a with
   | none=>rfl
   | some o=>rw [x.base a o z] at e;cases e
  | tail _ q=>exact x.off p q
 ·rw [List.map_cons,List.nodup_cons]
  refine⟨fun q=>?_,x.nd⟩
  obtain⟨p,hp,ep⟩:=List.mem_map.mp q
  have:=x.own p hp
  rw [ep] at this
  change h.get? a=_ at this
  rw [e] at this;cases this
theorem Inv.upd {B:PM}{h h':Heap}{hp:HP}{a:Addr}{o o':Obj}(x:Inv B h ((a,o)::hp))(k:∀b,b≠a→h'.get? b=h.get? b)(e':h'.get? a=some o'):Inv B h' ((a,o')::hp):=by
 have nd:=x.nd
 rw [List.map_cons,List.nodup_cons] at nd
 refine⟨fun b o e=>?_,fun p q=>?_,fun p q=>?_,?_⟩
 ·by_cases z:b=a
  ·subst z
   have:B b=none:=x.off _ (.head _)
   rw [e] at this;cases this
  ·rw [k b z];exact x.base b o e
 ·cases q with
  | head=>exact e'
  | tail _ q=>
   have z:p.1≠a:=fun z=>nd.1 (List.mem_map.mpr ⟨p,q,z⟩)
   rw [k _ z];exact x.own p (.tail _ q)
 ·cases q with
  | head=>exact x.off (a,o) (.head _)
  | tail _ q=>exact x.off p (.tail _ q)
 ·rw [List.map_cons,List.nodup_cons];exact nd
noncomputable def look:HP→Addr→Option Obj
 | [],_=>none
 | q::r,a=>if q.1=a then some q.2 else look r a
theorem S2 (q:Addr×Obj)(r:HP)(a:Addr):look (q::r) a=if q.1=a then some q.2 else look r a:=rfl
theorem Hz:∀(hp:HP),(hp.map (·.1)).Nodup→∀p∈hp,look hp p.1=some p.2
 | [],_,_,hm=>nomatch hm
 | q::r,nd,p,hm=>by
  rw [List.map_cons,List.nodup_cons] at nd
  rw [S2]
  cases hm with
  | head=>rw [if_pos rfl]
  | tail _ hm=>
   rw [if_neg fun e=>nd.1 (List.mem_map.mpr ⟨p,hm,e.symm⟩)]
   exact Hz r nd.2 p hm
theorem Cm:∀(hp:HP) (a:Addr) (o:Obj),look hp a=some o→(a,o)∈hp
 | [],_,_,e=>nomatch e
 | q::r,a,o,e=>by
  rw [S2] at e
  by_cases z:q.1=a
  ·rw [if_pos z] at e
   have e:=Option.some.inj e
   rw [←z,←e];exact List.mem_cons_self
  ·rw [if_neg z] at e
   exact List.mem_cons_of_mem _ (Cm r a o e)
noncomputable def R9 (B:PM)(hp:HP):PM:=fun a=>match look hp a with | some o=>some o | none=>B a
theorem Cy {B:PM}{h:Heap}{hp:HP}(I:Inv B h hp):B.le (R9 B hp):=fun a o e=>by
 unfold R9
 cases q:look hp a with
 | none=>exact e
 | some o'=>have:=I.off _ (Cm _ _ _ q);rw [e] at this;cases this
theorem DS {B:PM}{h:Heap}{hp:HP}(I:Inv B h hp):∀p∈hp,R9 B hp p.1=some p.2:=fun p hm=>by
 unfold R9;rw [Hz _ I.nd p hm]
theorem Inv.freeze {B:PM}{h:Heap}{hp F:HP}(I:Inv B h (hp++F)):Inv (R9 B hp) h F:=by
 have nd:=I.nd
 rw [List.map_append,List.nodup_append] at nd
 refine⟨fun a o e=>?_,fun p q=>I.own p (List.mem_append_right _ q),fun p q=>?_,nd.2.1⟩
 ·unfold R9 at e
  cases z:look hp a with
  | none=>rw [z] at e;exact I.base a o e
  | some o'=>rw [z] at e;cases e;exact I.own _ (List.mem_append_left _ (Cm _ _ _ z))
 ·unfold R9
  cases z:look hp p.1 with
  | none=>exact I.off p (List.mem_append_right _ q)
  | some o'=>exact absurd rfl (nd.2.2 _ (List.mem_map.mpr ⟨_,Cm _ _ _ z,rfl⟩) _ (List.mem_map.mpr ⟨_,q,rfl⟩))
set_option genCtorIdx false
inductive Jx where
 | lit (i:Int)
 | var (i:Nat)
inductive Pt where
 | var (i:Nat)
 | attr (p:Pt) (a:Nat)
 | at_ (p:Pt) (j:Jx)
set_option genCtorIdx true
inductive VR where
 | add | sub | mul | fdiv | mod | pow
inductive Nb where
 | eq | ne | lt | le | gt | ge | inn | nin
inductive DA where
 | len | abs | int | sum | max2 | max4 | ord | tuple | list | bytes | dict | sorted | range1 | rangeDown | isint | isbool | isstr | istuple | isoctets
mutual
inductive E where
 | int (i:Int)
 | str (s:List Nat)
 | bool (b:Bool)
 | none
 | glob (g:Nat)
 | rd (p:Pt)
 | mv (i:Nat)
 | idx (e j:E)
 | slTo (e:E) (b:Nat)
 | slFrom (e:E) (a:Nat)
 | slAB (e:E) (a b:Nat)
 | pin (e:E)
 | slRev (e:E)
 | bin (o:VR) (a b:E)
 | neg (a:E)
 | not (a:E)
 | cmp (o:Nb) (a b:E)
 | cmp2 (o o':Nb) (a b c:E)
 | isNone (a:E) (pos:Bool)
 | same (a b:E) (pos:Bool)
 | and (a b:E)
 | or (a b:E)
 | ite (c a b:E)
 | tup (l:Es)
 | lst (l:Es)
 | dct0
 | prim (k:DA) (l:Es)
 | lenP (p:Pt)
 | call (f:Nat) (l:As)
 | meth (p:Pt) (m:Nat) (l:As)
 | new (c:Nat) (l:As)
 | dget (p:Pt) (k d:E)
 | comp (elt:E) (i:Nat) (it:It)
 | compIf (elt:E) (i:Nat) (it:It) (c:E)
 | compP (elt:E) (i:Nat) (p:Pt)
 | inP (a:E) (p:Pt)
 | bad
inductive It where
 | rng (k:DA) (l:Es)
 | enum (e:E)
 | items (p:Pt)
 | of (e:E)
 | ofL (e:E)
inductive Es where
 | nil
 | cons (e:E) (l:Es)
inductive As where
 | nil
 | val (e:E) (l:As)
 | bor (p:Pt) (l:As)
 | own (e:E) (l:As)
end
set_option genCtorIdx false
inductive Ix where
 | lit (i:Int)
 | at_ (p:Pt)
inductive Tg where
 | var (i:Nat)
 | attr (p:Pt) (a:Nat)
set_option genCtorIdx true
mutual
inductive S where
 | pass
 | assign (i:Nat) (e:E)
 | assignTup (t:List Tg) (l:Es)
 | unpack (t:List Nat) (e:E)
 | unpackP (t:List Nat) (p:Pt)
 | setattr (p:Pt) (a:Nat) (e:E)
 | setitem (p:Pt) (j:Ix) (e:E)
 | augVar (i:Nat) (e:E)
 | augAttr (p:Pt) (a:Nat) (e:E)
 | augItem (p:Pt) (j:Ix) (e:E)
 | expr (e:E)
 | append (p:Pt) (e:E)
 | appendO (p:Pt) (e:E)
 | appLen (p:Pt)
 | extend (p:Pt) (e:E)
 | extendB (p:Pt) (e:E)
 | pop (p:Pt)
 | ifs (c:E) (a b:Ss)
 | whil (c:E) (b:Ss)
 | for_ (t:Nat) (it:It) (b:Ss)
 | forT (t:List Nat) (it:It) (b:Ss)
 | forOwn (t:Nat) (p:Pt) (k:E) (b:Ss)
 | ret (e:E)
 | ret0
 | bad
inductive Ss where
 | nil
 | cons (s:S) (l:Ss)
end
noncomputable def Dp (x:V)(f:Bool→Prop):Prop:=match x with | .bool b=>f b | _=>False
noncomputable def BM (x:V)(f:Int→Prop):Prop:=match x with | .int i=>f i | _=>False
noncomputable def R4 (x:V)(f:List Nat→Prop):Prop:=match x with | .str s=>f s | _=>False
noncomputable def KH (x:V)(f:List Int→Prop):Prop:=match x with | .bytes l=>f l | _=>False
noncomputable def P3 (x:V)(f:List V→Prop):Prop:=match x with | .tup l=>f l | _=>False
noncomputable def GM (x:V)(f:O→List V→Prop):Prop:=match x with | .lst o l=>f o l | _=>False
noncomputable def MP (x:V)(f:Bool→List (Int×V)→Prop):Prop:=match x with | .dct o l=>f o l | _=>False
noncomputable def ZF (x:V)(f:Bool→Nat→List (Nat×V)→Prop):Prop:=match x with | .obj o c l=>f o c l | _=>False
noncomputable def Wo (x:V)(f:Addr→V→Prop):Prop:=match x with | .pin a t=>f a t | _=>False
noncomputable def UP (x:V)(f:Value→Prop):Prop:=match x with | .hole v=>f v | _=>False
theorem nn {α:Type}{r:α}{P:Prop}(h:none=some r):P:=nomatch h
noncomputable def W7 (x:V)(P:Prop):Prop:=match x with | .none=>P | _=>False
noncomputable def gW (x:V)(P:Prop):Prop:=match x with | .undef=>False | .hole _=>False | _=>P
noncomputable def AI {α:Type}(o:Option α)(f:α→Prop):Prop:=match o with | some x=>f x | none=>False
noncomputable def pT (b:Bool)(P:Prop):Prop:=match b with | true=>P | false=>False
noncomputable def pF (b:Bool)(P:Prop):Prop:=match b with | true=>False | false=>P
noncomputable def Tz (b:Bool)(A B:Prop):Prop:=match b with | true=>A | false=>B
noncomputable def PT {α:Type}(l:List α)(P:Prop):Prop:=match l with | []=>P | _::_=>False
noncomputable def FA {α:Type}(l:List α)(f:α→List α→Prop):Prop:=match l with | []=>False | x::r=>f x r
noncomputable def p1 {α:Type}(l:List α)(f:α→Prop):Prop:=FA l fun x r=>PT r (f x)
noncomputable def p2 {α:Type}(l:List α)(f:α→α→Prop):Prop:=FA l fun x r=>p1 r (f x)
noncomputable def XT (x:V)(f:List V→Prop):Prop:=GM x fun o l=>match o with | .sh=>f l | _=>False
noncomputable def dJ (x:V)(f:List V→Prop):Prop:=GM x fun o l=>match o with | .dp=>f l | _=>False
noncomputable def Vz (x:V)(f:Nat→List (Nat×V)→Prop):Prop:=ZF x fun o c l=>pT o (f c l)
section
variable {x:V}{P:Prop}{M:V→Prop}
theorem PQ (h:gW x P):P:=by cases x <;> first | exact h.elim | exact h
@[elab_as_elim] theorem Tk (h:W7 x P)(k:P→M .none):M x:=by cases x <;> first | exact h.elim | exact k h
theorem AF {α:Type}{o:Option α}{f:α→Prop}(h:AI o f):∃x,o=some x∧f x:=match o,h with | some x,h=>⟨x,rfl,h⟩
theorem pS {α:Type}{o:Option α}{x:α}{f:α→Prop}(e:o=some x)(k:f x):AI o f:=e▸k
theorem XD {b:Bool}(h:pT b P):b=true∧P:=match b,h with | true,h=>⟨rfl,h⟩
@[elab_as_elim] theorem bO {M:Bool→Prop}{b:Bool}(h:pT b P)(k:P→M true):M b:=match b,h with | true,h=>k h
@[elab_as_elim] theorem jN {M:Bool→Prop}{b:Bool}(h:pF b P)(k:P→M false):M b:=match b,h with | false,h=>k h
section
variable {α:Type}{l:List α}{M:List α→Prop}
@[elab_as_elim] theorem De (h:PT l P)(k:P→M []):M l:=match l,h with | [],h=>k h
@[elab_as_elim] theorem A6 {f:α→List α→Prop}(h:FA l f)(k:∀x r,f x r→M (x::r)):M l:=match l,h with | x::r,h=>k x r h
@[elab_as_elim] theorem Q0 {f:α→Prop}(h:p1 l f)(k:∀x,f x→M [x]):M l:=A6 h fun x r h=>De (M:=fun r=>M (x::r)) h (k x)
@[elab_as_elim] theorem Xk {f:α→α→Prop}(h:p2 l f)(k:∀x y,f x y→M [x,y]):M l:=A6 h fun x r h=>Q0 (M:=fun r=>M (x::r)) h (k x)
end
@[elab_as_elim] theorem Oa {f}(h:Dp x f)(k:∀b,f b→M (.bool b)):M x:=by cases x <;> first | exact h.elim | exact k _ h
@[elab_as_elim] theorem Q4 {f}(h:BM x f)(k:∀i,f i→M (.int i)):M x:=by cases x <;> first | exact h.elim | exact k _ h
@[elab_as_elim] theorem VI {f}(h:R4 x f)(k:∀s,f s→M (.str s)):M x:=by cases x <;> first | exact h.elim | exact k _ h
@[elab_as_elim] theorem Rj {f}(h:KH x f)(k:∀l,f l→M (.bytes l)):M x:=by cases x <;> first | exact h.elim | exact k _ h
@[elab_as_elim] theorem U5 {f}(h:P3 x f)(k:∀l,f l→M (.tup l)):M x:=by cases x <;> first | exact h.elim | exact k _ h
@[elab_as_elim] theorem Ij {f}(h:GM x f)(k:∀o l,f o l→M (.lst o l)):M x:=by cases x <;> first | exact h.elim | exact k _ _ h
@[elab_as_elim] theorem QY {f}(h:MP x f)(k:∀o l,f o l→M (.dct o l)):M x:=by cases x <;> first | exact h.elim | exact k _ _ h
@[elab_as_elim] theorem Qa {f}(h:ZF x f)(k:∀o c l,f o c l→M (.obj o c l)):M x:=by cases x <;> first | exact h.elim | exact k _ _ _ h
@[elab_as_elim] theorem VN {f}(h:Wo x f)(k:∀a t,f a t→M (.pin a t)):M x:=by cases x <;> first | exact h.elim | exact k _ _ h
@[elab_as_elim] theorem UQ {f}(h:UP x f)(k:∀v,f v→M (.hole v)):M x:=by cases x <;> first | exact h.elim | exact k _ h
@[elab_as_elim] theorem Td {f}(h:XT x f)(k:∀l,f l→M (.lst .sh l)):M x:=Ij h fun o l h=>by cases o <;> first | exact h.elim | exact k l h
@[elab_as_elim] theorem ZW {f}(h:dJ x f)(k:∀l,f l→M (.lst .dp l)):M x:=Ij h fun o l h=>by cases o <;> first | exact h.elim | exact k l h
@[elab_as_elim] theorem U7 {f}(h:Vz x f)(k:∀c l,f c l→M (.obj true c l)):M x:=Qa h fun o c l h=>bO (M:=fun o=>M (.obj o c l)) h (k c l)
theorem Su {o:Option V}{f}(h:AI o fun x=>XT x f):∃l,o=some (.lst .sh l)∧f l:=by
 obtain⟨x,e,h⟩:=AF h
 exact Td (M:=fun x=>o=some x→_) h (fun l h e=>⟨l,e,h⟩) e
theorem ah {o:Option V}{f}(h:AI o fun x=>dJ x f):∃l,o=some (.lst .dp l)∧f l:=by
 obtain⟨x,e,h⟩:=AF h
 exact ZW (M:=fun x=>o=some x→_) h (fun l h e=>⟨l,e,h⟩) e
theorem Xg {o:Option V}{f}(h:AI o fun x=>GM x f):∃p l,o=some (.lst p l)∧f p l:=by
 obtain⟨x,e,h⟩:=AF h
 exact Ij (M:=fun x=>o=some x→_) h (fun p l h e=>⟨p,l,e,h⟩) e
theorem UB {o:Option V}{f}(h:AI o fun x=>Vz x f):∃c l,o=some (.obj true c l)∧f c l:=by
 obtain⟨x,e,h⟩:=AF h
 exact U7 (M:=fun x=>o=some x→_) h (fun c l h e=>⟨c,l,e,h⟩) e
theorem Un {o:Option V}{f}(h:AI o fun x=>MP x f):∃b l,o=some (.dct b l)∧f b l:=by
 obtain⟨x,e,h⟩:=AF h
 exact QY (M:=fun x=>o=some x→_) h (fun b l h e=>⟨b,l,e,h⟩) e
theorem YH {o:Option V}{f}(h:AI o fun x=>UP x f):∃v,o=some (.hole v)∧f v:=by
 obtain⟨x,e,h⟩:=AF h
 exact UQ (M:=fun x=>o=some x→_) h (fun v h e=>⟨v,e,h⟩) e
theorem Qw {o:Option V}{f}(h:AI o fun x=>BM x f):∃v,o=some (.int v)∧f v:=by
 obtain⟨x,e,h⟩:=AF h
 exact Q4 (M:=fun x=>o=some x→_) h (fun v h e=>⟨v,e,h⟩) e
end
noncomputable def vInt (x:V):Option Int:=match x with | .int k=>some k | _=>none
@[elab_as_elim] theorem Q1 {x:V}{i:Int}{M:V→Prop}(h:vInt x=some i)(k:M (.int i)):M x:=by cases x <;> first | exact nn h | exact Option.some.inj h▸k
noncomputable def jx (σ:List V):Jx→Option Int
 | .lit i=>some i
 | .var i=>(σ[i]?).bind vInt
noncomputable def Qb (l:List V)(i:Int):Option V:=match i with
 | .ofNat k=>l[k]?
 | .negSucc k=>if k+1≤l.length then l[l.length - (k+1)]? else none
noncomputable def HA (f:List (Nat×V))(a:Nat):Option V:=match f with
 | []=>none
 | (k,x)::r=>if k==a then some x else HA r a
noncomputable def Fy (f:List (Nat×V))(a:Nat)(y:V):List (Nat×V):=match f with
 | []=>[(a,y)]
 | (k,x)::r=>if k==a then (k,y)::r else (k,x)::Fy r a y
noncomputable def M4 (l:List V)(i:Int)(y:V):List V:=match i with
 | .ofNat k=>l.set k y
 | .negSucc k=>l.set (l.length - (k+1)) y
structure Fn where
 np:Nat
 dflt:List V
 ns:Nat
 mut_:List Nat
 body:Ss
structure Tabs extends Tab where
 cv:Nat→Nat→Option (Option V)
 cm:Nat→Nat→Option Nat
 ci:Nat→Nat
 gv:Nat→V
 fn:Nat→Fn
 gn:Nat→Str
 fg:Nat→Option Str
 cg:Nat→Option Str
 mn:Nat→Str
 fa:Nat→Addr
 nf:Nat
 cs:Nat→Nat→Bool
 mx:Nat→Nat→Bool
noncomputable def Tw (x:V):Option (Bool×Nat×List (Nat×V)):=match x with | .obj o c f=>some (o,c,f) | _=>none
@[elab_as_elim] theorem Wa {x:V}{q}{M:V→Prop}(h:Tw x=some q)(k:M (.obj q.1 q.2.1 q.2.2)):M x:=by cases x <;> first | exact nn h | (cases h;exact k)
noncomputable def UU (x:V):V:=match x with | .pin _ x=>x | x=>x
noncomputable def NL (f:List (Nat×V))(a:Nat)(r:Option V):Option V:=match HA f a with | some y=>some y | none=>r
noncomputable def Yv (T:Tabs)(x:V)(a:Nat):Option V:=(Tw (UU x)).bind fun o=>(T.cv o.2.1 a).bind fun r=>NL o.2.2 a r
noncomputable def N9 (x:V):Option (List V):=match x with | .lst _ l=>some l | .tup l=>some l | _=>none
noncomputable def WV (x:V)(i:Int):Option V:=(N9 x).bind fun l=>Qb l i
noncomputable def ZA (x:V):Option V:=match x with | .undef=>none | x=>some x
theorem Q2 {x y:V}(h:ZA x=some y):x=y:=by cases x <;> first | exact nn h | exact Option.some.inj h
theorem QQ {y:V}(h:ZA .undef=some y):False:=nn h
noncomputable def get (T:Tabs)(σ:List V):Pt→Option V
 | .var i=>(σ[i]?).bind ZA
 | .attr p a=>(get T σ p).bind fun x=>Yv T x a
 | .at_ p j=>(get T σ p).bind fun x=>(jx σ j).bind fun i=>WV x i
noncomputable def Uo (x:V):Option (Nat×List (Nat×V)):=match x with | .obj true c f=>some (c,f) | _=>none
@[elab_as_elim] theorem WQ {x:V}{q}{M:V→Prop}(h:Uo x=some q)(k:M (.obj true q.1 q.2)):M x:=by
 cases x with
 | obj o c l=>
  cases o with
  | true=>cases h;exact k
  | false=>exact nn h
 | _=>exact nn h
noncomputable def fT (x:V):Option (List V):=match x with | .lst .dp l=>some l | _=>none
@[elab_as_elim] theorem dT {x:V}{q}{M:V→Prop}(h:fT x=some q)(k:M (.lst .dp q)):M x:=by
 cases x with
 | lst o l=>
  cases o with
  | dp=>exact Option.some.inj h▸k
  | _=>exact nn h
 | _=>exact nn h
noncomputable def put (T:Tabs)(σ:List V):Pt→V→Option (List V)
 | .var i,y=>some (σ.set i y)
 | .attr p a,y=>((get T σ p).bind Uo).bind fun o=>(HA o.2 a).bind fun _=>put T σ p (.obj true o.1 (Fy o.2 a y))
 | .at_ p j,y=>((get T σ p).bind fT).bind fun l=>(jx σ j).bind fun i=>put T σ p (.lst .dp (M4 l i y))
noncomputable def Cq (x:V)(K:V→Prop):Prop:=match x with
 | .undef=>False
 | .hole _=>False
 | .lst .fr l=>K (.lst .fr l)
 | .lst .sh l=>K (.lst .fr l)
 | .lst .dp l=>K (.lst .fr (QA l))
 | .dct true l=>K (.dct false l)
 | .obj true c f=>K (.obj false c (OR f))
 | x=>K x
noncomputable def Xf (T:Tabs)(σ:List V)(p:Pt)(K:V→List V→Prop):Prop:=AI (get T σ p) fun x=>match x with
  | .undef=>False
  | .hole _=>False
  | .lst .sh l=>AI (put T σ p (.lst .fr l)) fun σ=>K (.lst .fr l) σ
  | .lst .dp l=>AI (put T σ p (.lst .fr (QA l))) fun σ=>K (.lst .fr (QA l)) σ
  | .dct true l=>AI (put T σ p (.dct false l)) fun σ=>K (.dct false l) σ
  | .obj true c f=>AI (put T σ p (.obj false c (OR f))) fun σ=>K (.obj false c (OR f)) σ
  | x=>K x σ
noncomputable def small (a:Int):Prop:=a.natAbs < 2 ^ 64
noncomputable def binI (o:VR)(a b:Int)(K:Int→Prop):Prop:=match o with
 | .add=>K (a+b)
 | .sub=>K (a - b)
 | .mul=>(small a∨small b)∧K (a*b)
 | .fdiv=>(b≠0∧small b)∧K (Int.fdiv a b)
 | .mod=>b≠0∧K (Int.fmod a b)
 | .pow=>(small a∧0≤b∧b≤64)∧K (a ^ b.toNat)
noncomputable def Qy (o:VR)(P:Prop):Prop:=match o with
 | .add=>P
 | _=>False
noncomputable def aJ (o:VR)(x y:V)(K:V→Prop):Prop:=match x with
 | .int a=>BM y fun b=>binI o a b fun c=>K (.int c)
 | .str a=>R4 y fun b=>Qy o (a.length+b.length≤16000000∧K (.str (a++b)))
 | .tup a=>P3 y fun b=>Qy o ((a≠[]∧b≠[]∧a.length+b.length≤16000000)∧K (.tup (a++b)))
 | .lst _ a=>GM y fun _ b=>Qy o (a.length+b.length≤16000000∧K (.lst .sh (a++b)))
 | _=>False
noncomputable def aC (p q:Option Bool):Option Bool:=p.bind fun p=>q.bind fun q=>some (p&&q)
noncomputable def HN (f:V→V→Option Bool):List V→List V→Option Bool
 | [],y=>some y.isEmpty
 | x::a,y=>match y with
  | []=>some false
  | y::b=>aC (f x y) (HN f a b)
noncomputable def Id:Nat→V→V→Option Bool
 | 0,_,_=>none
 | n+1,x,y=>match x with
  | .int a=>match y with
   | .int b=>some (decide (a=b))
   | _=>none
  | .tup a=>match y with
   | .tup b=>HN (Id n) a b
   | _=>none
  | .lst _ a=>match y with
   | .lst _ b=>HN (Id n) a b
   | _=>none
  | _=>none
noncomputable def Du (l:List (Int×V))(k:Int):Option V:=match l with
 | []=>none
 | (i,x)::r=>if i=k then some x else Du r k
theorem VC (i:Int)(x:V)(r:List (Int×V))(k:Int):Du ((i,x)::r) k=if i=k then some x else Du r k:=rfl
noncomputable def Dc:List V→Option (List Int)
 | []=>some []
 | x::r=>(vInt x).bind fun i=>(Dc r).map (i::·)
noncomputable def gY (o:Nb)(a b:Int)(K:Bool→Prop):Prop:=match o with
 | .lt=>K (decide (a < b))
 | .le=>K (decide (a≤b))
 | .gt=>K (decide (b < a))
 | .ge=>K (decide (b≤a))
 | .eq=>K (decide (a=b))
 | .ne=>K (!decide (a=b))
 | _=>False
noncomputable def ZY (o:Nb)(b:Bool)(K:Bool→Prop):Prop:=match o with
 | .eq=>K b
 | .ne=>K (!b)
 | _=>False
noncomputable def bY (o:Nb)(b:Bool)(K:Bool→Prop):Prop:=match o with
 | .inn=>K b
 | .nin=>K (!b)
 | _=>False
noncomputable def Xr (o:Nb)(P:Prop):Prop:=match o with
 | .eq=>P
 | _=>False
noncomputable def Uc (o:Nb)(x y:V)(K:Bool→Prop):Prop:=match x with
 | .int a=>match y with
  | .int b=>gY o a b K
  | .dct _ l=>bY o (Du l a).isSome K
  | .tup l=>AI (Dc l) fun k=>bY o (k.any (·==a)) K
  | _=>False
 | .str a=>R4 y fun b=>ZY o (decide (a=b)) K
 | .bytes a=>KH y fun b=>Xr o (K (decide (a=b)))
 | .bool a=>Dp y fun b=>Xr o (K (a==b))
 | .tup a=>P3 y fun c=>AI (Id 60 (.tup a) (.tup c)) fun b=>ZY o b K
 | .lst p a=>GM y fun q c=>AI (Id 60 (.lst p a) (.lst q c)) fun b=>ZY o b K
 | _=>False
noncomputable def Mx {α:Type}(l:List (Int×α))(k:Int)(y:α):List (Int×α):=match l with
 | []=>[(k,y)]
 | (i,x)::r=>if i=k then (i,y)::r else (i,x)::Mx r k y
theorem Mn {α:Type}(i:Int)(x:α)(r:List (Int×α))(k:Int)(y:α):Mx ((i,x)::r) k y=if i=k then (i,y)::r else (i,x)::Mx r k y:=rfl
noncomputable def bX (l:List Nat)(i:Int):Option Nat:=match i with
 | .ofNat k=>l[k]?
 | .negSucc k=>if k+1≤l.length then l[l.length - (k+1)]? else none
noncomputable def YF (l:List V)(i:Int)(K:V→Prop):Prop:=AI (Qb l i) K
theorem pN {l:List V}{i:Int}{x:V}{f:V→Prop}(e:Qb l i=some x)(k:f x):YF l i f:=pS e k
noncomputable def Z4 (x y:V)(K:V→Prop):Prop:=BM y fun i=>match x with
 | .lst _ l=>YF l i fun z=>K z
 | .tup l=>YF l i fun z=>K z
 | .dct _ l=>AI (Du l i) fun z=>K z
 | .str s=>s.length < 1000000∧AI (bX s i) fun z=>K (.str [z])
 | _=>False
noncomputable def kM (n:Nat)(i:Int):Nat:=if i < 0 then (n+i).toNat else min i.toNat n
noncomputable def Xa:V→Option Nat
 | .lst _ l=>some l.length
 | .tup l=>some l.length
 | .str l=>if l.length≤1000000 then some l.length else none
 | .bytes l=>if l.length≤1000000 then some l.length else none
 | _=>none
noncomputable def YP:V→Option (List V)
 | .lst _ l=>some l
 | .tup l=>some l
 | .str l=>match l.all (· < 128) with
  | true=>some (l.map fun c=>.str [c])
  | false=>none
 | .bytes l=>some (l.map .int)
 | .dct _ l=>some (l.map fun x=>.int x.1)
 | _=>none
noncomputable def Mr:List Int→Int
 | []=>0
 | a::l=>a+Mr l
noncomputable def eU (x:V)(K:V→Prop):Prop:=match x with
 | .tup l=>K (.tup l)
 | .lst _ l=>K (.tup l)
 | .bytes l=>l.length≤1000000∧K (.tup (l.map .int))
 | _=>False
noncomputable def fG (x:V)(K:V→Prop):Prop:=match x with
 | .lst _ l=>AI (Dc l) fun k=>(∀i∈k,0≤i∧i < 256)∧K (.bytes k)
 | .bytes l=>K (.bytes l)
 | _=>False
noncomputable def cH (l:List (Int×V))(K:V→Prop):Prop:=match l with
 | []=>K (.lst .sh [])
 | x::r=>PT r (K (.lst .sh [.int x.1]))
noncomputable def Qr (k:DA)(xs:List V)(K:V→Prop):Prop:=match k with
 | .len=>p1 xs fun x=>AI (Xa x) fun n=>K (.int n)
 | .abs=>p1 xs fun x=>BM x fun a=>K (.int a.natAbs)
 | .int=>p1 xs fun x=>BM x fun a=>K (.int a)
 | .sum=>p1 xs fun x=>GM x fun _ l=>AI (Dc l) fun k=>K (.int (Mr k))
 | .max2=>p2 xs fun x y=>BM x fun a=>BM y fun b=>K (.int (max a b))
 | .max4=>FA xs fun x xs=>FA xs fun y xs=>p2 xs fun z u=>BM x fun a=>BM y fun b=>BM z fun c=>BM u fun d=>K (.int (max (max (max a b) c) d))
 | .ord=>p1 xs fun x=>R4 x fun s=>p1 s fun c=>K (.int c)
 | .tuple=>p1 xs fun x=>eU x K
 | .list=>p1 xs fun x=>AI (N9 x) fun l=>K (.lst .sh l)
 | .bytes=>p1 xs fun x=>fG x K
 | .dict=>p1 xs fun x=>MP x fun _ l=>K (.dct true l)
 | .sorted=>p1 xs fun x=>MP x fun _ l=>cH l K
 | .isint=>p1 xs fun x=>BM x fun _=>K (.bool true)
 | .isbool=>p1 xs fun x=>BM x fun _=>K (.bool false)
 | .isstr=>p1 xs fun x=>R4 x fun _=>K (.bool true)
 | .istuple=>p1 xs fun x=>P3 x fun _=>K (.bool true)
 | .isoctets=>p1 xs fun x=>KH x fun _=>K (.bool true)
 | _=>False
noncomputable def Xh (x:V)(pos:Bool)(K:V→Prop):Prop:=match x with
 | .undef=>False
 | .hole _=>False
 | .none=>K (.bool pos)
 | _=>K (.bool !pos)
noncomputable def aa (x y:V)(pos:Bool)(K:V→Prop):Prop:=Wo x fun a _=>Wo y fun b _=>a=b∧K (.bool pos)
noncomputable def FN:V→Bool
 | .lst .sh _ | .lst .dp _ | .dct true _ | .obj true _ _=>true
 | _=>false
noncomputable def upTo (lo:Int):Nat→List V
 | 0=>[]
 | n+1=>.int lo::upTo (lo+1) n
theorem Zh (a:Int)(n:Nat):upTo a (n+1)=.int a::upTo (a+1) n:=rfl
noncomputable def A9 (hi:Int):Nat→List V
 | 0=>[]
 | n+1=>.int hi::A9 (hi - 1) n
noncomputable def aB (c:Int)(P:Prop):Prop:=match c with
 | .negSucc 0=>P
 | _=>False
theorem Ve {c:Int}{P:Prop}(h:aB c P):c = -1∧P:=match c,h with | .negSucc 0,h=>⟨rfl,h⟩
noncomputable def X2 (k:DA)(xs:List V)(K:List V→Prop):Prop:=match k with
 | .range1=>p1 xs fun x=>BM x fun n=>(-1000000000≤n∧n≤1000000000)∧K (upTo 0 n.toNat)
 | .rangeDown=>FA xs fun x xs=>p2 xs fun y z=>BM x fun a=>BM y fun b=>BM z fun c=>aB c ((-1000000000≤a∧a≤1000000000∧-1000000000≤b∧b≤1000000000)∧K (A9 a (a - b).toNat))
 | _=>False
noncomputable def A0 (T:Tabs):List (Pt×Value)→List V→List V→(List V→Prop)→Prop
 | [],ys,σ,K=>PT ys (K σ)
 | q::bs,ys,σ,K=>FA ys fun y ys=>AI (get T σ q.1) fun x=>UP x fun v'=>v'=q.2∧AI (put T σ q.1 y) fun σ=>A0 T bs ys σ K
noncomputable def Bd (i:Nat):As→List Nat
 | .nil=>[]
 | .val _ l=>Bd (i+1) l
 | .bor _ l=>i::Bd (i+1) l
 | .own _ l=>Bd (i+1) l
noncomputable def Di (T:Tabs)(x:V)(m:Nat):Option Nat:=(Tw (UU x)).bind fun o=>match (o.2.2.map (·.1)).all (T.mx m) with
 | true=>T.cm o.2.1 m
 | false=>none
section
variable (T:Tabs)(Φ:Nat→List V→(V→List V→Prop)→Prop)
noncomputable def Bn (W:List V→(V→List V→Prop)→Prop)(i:Nat):List V→List V→List V→(List V→List V→Prop)→Prop
 | [],acc,σ,K=>K acc σ
 | x::l,acc,σ,K=>W (σ.set i x) fun y σ'=>Cq y fun y=>acc.length < 16000000∧Bn W i l (acc++[y]) (σ'.set i .undef) K
noncomputable def Cj (C W:List V→(V→List V→Prop)→Prop)(i:Nat):List V→List V→List V→(List V→List V→Prop)→Prop
 | [],acc,σ,K=>K acc σ
 | x::l,acc,σ,K=>C (σ.set i x) fun c σ1=>Dp c fun b=>
  Tz b (W σ1 fun y σ'=>Cq y fun y=>acc.length < 16000000∧Cj C W i l (acc++[y]) (σ'.set i .undef) K) (Cj C W i l acc (σ1.set i .undef) K)
noncomputable def bk (l:List Nat)(f:List Nat→Prop)(g:List Nat→Prop):Prop:=match l with
 | []=>g []
 | x::r=>match x with
  | 0=>f r
  | x+1=>g ((x+1)::r)
noncomputable def bC (x:V)(b:Nat)(K:V→Prop):Prop:=match x with
 | .lst _ l=>K (.lst .sh (l.take b))
 | .tup l=>b < l.length∧K (.tup (l.take b))
 | _=>False
mutual
noncomputable def WE:E→List V→(V→List V→Prop)→Prop
 | .int i,σ,K=>K (.int i) σ
 | .str s,σ,K=>K (.str s) σ
 | .bool b,σ,K=>K (.bool b) σ
 | .none,σ,K=>K .none σ
 | .glob g,σ,K=>K (T.gv g) σ
 | .rd p,σ,K=>Xf T σ p K
 | .mv i,σ,K=>AI (σ[i]?) fun x=>gW x (K x (σ.set i .undef))
 | .idx e j,σ,K=>WE e σ fun x σ=>Cq x fun x=>WE j σ fun y σ=>Z4 x y fun z=>K z σ
 | .slTo e b,σ,K=>WE e σ fun x σ=>Cq x fun x=>bC x b fun x=>K x σ
 | .slFrom e a,σ,K=>WE e σ fun x σ=>Cq x fun x=>GM x fun _ l=>K (.lst .sh (l.drop a)) σ
 | .slAB e a b,σ,K=>WE e σ fun x σ=>Cq x fun x=>P3 x fun l=>(1≤a∧a≤b∧b≤l.length)∧K (.tup ((l.take b).drop a)) σ
 | .pin e,σ,K=>WE e σ fun x σ=>Cq x fun x=>ZF x fun o c f=>∀a,K (.pin a (.obj o c f)) σ
 | .slRev e,σ,K=>WE e σ fun x σ=>Cq x fun x=>GM x fun _ l=>K (.lst .sh l.reverse) σ
 | .bin o a b,σ,K=>WE a σ fun x σ=>Cq x fun x=>WE b σ fun y σ=>Cq y fun y=>aJ o x y fun z=>K z σ
 | .neg a,σ,K=>WE a σ fun x σ=>BM x fun i=>K (.int (-i)) σ
 | .not a,σ,K=>WE a σ fun x σ=>Dp x fun b=>K (.bool !b) σ
 | .cmp o a b,σ,K=>WE a σ fun x σ=>Cq x fun x=>WE b σ fun y σ=>Cq y fun y=>Uc o x y fun r=>K (.bool r) σ
 | .cmp2 o o' a b c,σ,K=>WE a σ fun x σ=>Cq x fun x=>WE b σ fun y σ=>Cq y fun y=>Uc o x y fun r=>
   Tz r (WE c σ fun z σ=>Cq z fun z=>Uc o' y z fun r=>K (.bool r) σ) (K (.bool false) σ)
 | .isNone a pos,σ,K=>WE a σ fun x σ=>Xh x pos fun z=>K z σ
 | .same a b pos,σ,K=>WE a σ fun x σ=>WE b σ fun y σ=>aa x y pos fun z=>K z σ
 | .and a b,σ,K=>WE a σ fun x σ=>Dp x fun t=>Tz t (WE b σ K) (K (.bool false) σ)
 | .or a b,σ,K=>WE a σ fun x σ=>Dp x fun t=>Tz t (K (.bool true) σ) (WE b σ K)
 | .ite c a b,σ,K=>WE c σ fun x σ=>Dp x fun t=>Tz t (WE a σ K) (WE b σ K)
 | .tup l,σ,K=>Zn l σ fun xs σ=>K (.tup xs) σ
 | .lst l,σ,K=>Zn l σ fun xs σ=>K (.lst .sh xs) σ
 | .dct0,σ,K=>K (.dct true []) σ
 | .prim k l,σ,K=>Zn l σ fun xs σ=>Qr k xs fun z=>K z σ
 | .lenP p,σ,K=>AI (get T σ p) fun x=>AI (Xa x) fun n=>K (.int n) σ
 | .call f l,σ,K=>V6 l σ fun xs bs σ=>Φ f xs fun r Bl=>A0 T bs Bl σ fun σ=>K r σ
 | .meth p m l,σ,K=>AI (get T σ p) fun x=>AI (Di T x m) fun f=>bk (T.fn f).mut_
   (fun ms=>ms=Bd 1 l∧pT (FN x) (∀v,AI (put T σ p (.hole v)) fun σ1=>V6 l σ1 fun xs bs σ=>Φ f (x::xs) fun r Bl=>A0 T ((p,v)::bs) Bl σ fun σ=>K r σ))
   fun ms=>ms=Bd 1 l∧Xf T σ p fun x σ=>V6 l σ fun xs bs σ=>Φ f (x::xs) fun r Bl=>A0 T bs Bl σ fun σ=>K r σ
 | .new c l,σ,K=>V6 l σ fun xs bs σ=>Φ (T.ci c) (.obj true c []::xs) fun r Bl=>W7 r (FA Bl fun y Bl=>A0 T bs Bl σ fun σ=>K y σ)
 | .dget p k d,σ,K=>AI (get T σ p) fun x=>MP x fun o t=>match o with
  | false=>WE k σ fun k σ=>BM k fun i=>WE d σ fun d σ=>Cq d fun d=>K ((Du t i).getD d) σ
  | true=>∀v,AI (put T σ p (.hole v)) fun σ=>WE k σ fun k σ=>BM k fun i=>WE d σ fun d σ=>Cq d fun d=>A0 T [(p,v)] [.dct true t] σ fun σ=>K ((Du t i).getD d) σ
 | .comp e i it,σ,K=>cS it σ fun l σ=>Bn (WE e) i l [] σ fun acc σ=>K (.lst .sh acc) σ
 | .compIf e i it c,σ,K=>cS it σ fun l σ=>Cj (WE c) (WE e) i l [] σ fun acc σ=>K (.lst .sh acc) σ
 | .compP e i p,σ,K=>AI (get T σ p) fun x=>XT x fun l=>∀v,AI (put T σ p (.hole v)) fun σ=>Bn (WE e) i l [] σ fun acc σ=>A0 T [(p,v)] [.lst .sh l] σ fun σ=>K (.lst .sh acc) σ
 | .inP a p,σ,K=>WE a σ fun x σ=>BM x fun i=>AI (get T σ p) fun y=>MP y fun _ l=>K (.bool (Du l i).isSome) σ
 | .bad,_,_=>False
noncomputable def cS:It→List V→(List V→List V→Prop)→Prop
 | .rng k l,σ,K=>Zn l σ fun xs σ=>X2 k xs fun l=>K l σ
 | .enum e,σ,K=>WE e σ fun x σ=>P3 x fun l=>PT l (K [] σ)
 | .items p,σ,K=>AI (get T σ p) fun x=>MP x fun o t=>pF o (K (t.map fun x=>.tup [.int x.1,x.2]) σ)
 | .of e,σ,K=>WE e σ fun x σ=>Cq x fun x=>AI (YP x) fun l=>K l σ
 | .ofL e,σ,K=>WE e σ fun x σ=>Cq x fun x=>GM x fun _ l=>K l σ
noncomputable def Zn:Es→List V→(List V→List V→Prop)→Prop
 | .nil,σ,K=>K [] σ
 | .cons e l,σ,K=>WE e σ fun x σ=>Cq x fun x=>Zn l σ fun xs σ=>K (x::xs) σ
noncomputable def V6:As→List V→(List V→List (Pt×Value)→List V→Prop)→Prop
 | .nil,σ,K=>K [] [] σ
 | .val e l,σ,K=>WE e σ fun x σ=>Cq x fun x=>V6 l σ fun xs bs σ=>K (x::xs) bs σ
 | .bor p l,σ,K=>AI (get T σ p) fun x=>pT (FN x) (∀v,AI (put T σ p (.hole v)) fun σ=>V6 l σ fun xs bs σ=>K (x::xs) ((p,v)::bs) σ)
 | .own e l,σ,K=>WE e σ fun x σ=>V6 l σ fun xs bs σ=>K (x::xs) bs σ
end
end
set_option genCtorIdx false
inductive Fl where
 | next
 | ret (x:V)
set_option genCtorIdx true
noncomputable def Zu (T:Tabs)(σ:List V)(p:Pt)(a:Nat)(x:V)(K:List V→Prop):Prop:=AI (get T σ p) fun y=>Vz y fun c f=>T.cs c a=true∧AI (put T σ p (.obj true c (Fy f a x))) K
noncomputable def QL (T:Tabs):List Tg→List V→List V→(List V→Prop)→Prop
 | [],xs,σ,K=>PT xs (K σ)
 | t::ts,xs,σ,K=>FA xs fun x xs=>match t with
  | .var i=>QL T ts xs (σ.set i x) K
  | .attr p a=>Zu T σ p a x fun σ=>QL T ts xs σ K
noncomputable def OJ:List Nat→List V→List V→(List V→Prop)→Prop
 | [],xs,σ,K=>PT xs (K σ)
 | i::ts,xs,σ,K=>FA xs fun x xs=>gW x (OJ ts xs (σ.set i x) K)
noncomputable def dL (T:Tabs)(σ:List V):Ix→Option Int
 | .lit i=>some i
 | .at_ p=>(get T σ p).bind vInt
noncomputable def gM (e:E)(f:Int→Option V)(d:Option V):Option V:=if h:e.ctorIdx=0 then E.int.elim (motive_1:=fun _=>Option V) e h f else d
noncomputable def Z2 (e:E)(f:Nat→Option V):Option V:=if h:e.ctorIdx=4 then E.glob.elim (motive_1:=fun _=>Option V) e h f else none
noncomputable def QW (T:Tabs)(e:E):Option V:=gM e (fun k=>some (.int k)) (Z2 e fun g=>some (T.gv g))
noncomputable def Wd (x y:V)(K:V→Prop):Prop:=BM x fun a=>BM y fun b=>K (.int (a+b))
noncomputable def setItem (T:Tabs)(σ:List V)(p:Pt)(i:Int)(y:V)(K:List V→Prop):Prop:=AI (get T σ p) fun x=>match x with
 | .lst o l=>match o with
  | .sh=>0≤i∧i < l.length∧AI (put T σ p (.lst .sh (M4 l i y))) K
  | _=>False
 | .dct o l=>pT o (l.length < 1000000∧AI (put T σ p (.dct true (Mx l i y))) K)
 | _=>False
section
variable (T:Tabs)(Φ:Nat→List V→(V→List V→Prop)→Prop)
noncomputable def Cc (W:List V→(Fl→List V→Prop)→Prop)(b:V→List V→List V):List V→List V→(Fl→List V→Prop)→Prop
 | [],σ,K=>K .next σ
 | x::l,σ,K=>W (b x σ) fun fl σ=>match fl with
  | .next=>Cc W b l σ K
  | .ret y=>K (.ret y) σ
noncomputable def OU (W:List V→(Fl→List V→Prop)→Prop)(t:List Nat):List V→List V→(Fl→List V→Prop)→Prop
 | [],σ,K=>K .next σ
 | x::l,σ,K=>AI (N9 x) fun xs=>OJ t xs σ fun σ=>W σ fun fl σ=>match fl with
   | .next=>OU W t l σ K
   | .ret y=>K (.ret y) σ
noncomputable def JY (C:List V→(V→List V→Prop)→Prop)(W:List V→(Fl→List V→Prop)→Prop):Nat→List V→(Fl→List V→Prop)→Prop
 | 0,_,_=>False
 | n+1,σ,K=>C σ fun c σ=>Dp c fun b=>Tz b (W σ fun fl σ=>match fl with
    | .next=>JY C W n σ K
    | .ret y=>K (.ret y) σ) (K .next σ)
noncomputable def PZ (W:List V→(Fl→List V→Prop)→Prop)(t:Nat):List V→List V→List V→(List V→List V→Prop)→Prop
 | [],acc,σ,K=>K acc σ
 | x::l,acc,σ,K=>FN x=true∧W (σ.set t x) fun fl σ=>match fl with
  | .next=>AI (σ[t]?) fun y=>FN y=true∧PZ W t l (acc++[y]) (σ.set t .undef) K
  | .ret _=>False
mutual
noncomputable def WS:S→List V→(Fl→List V→Prop)→Prop
 | .pass,σ,K=>K .next σ
 | .assign i e,σ,K=>WE T Φ e σ fun x σ=>K .next (σ.set i x)
 | .assignTup t l,σ,K=>eA l σ fun xs σ=>QL T t xs σ fun σ=>K .next σ
 | .unpack t e,σ,K=>WE T Φ e σ fun x σ=>Cq x fun x=>AI (N9 x) fun xs=>OJ t xs σ fun σ=>K .next σ
 | .unpackP t p,σ,K=>AI (get T σ p) fun x=>AI (N9 x) fun xs=>xs.all fz=true∧OJ t xs σ fun σ=>K .next σ
 | .setattr p a e,σ,K=>WE T Φ e σ fun x σ=>Zu T σ p a x fun σ=>K .next σ
 | .setitem p j e,σ,K=>WE T Φ e σ fun x σ=>Cq x fun x=>AI (dL T σ j) fun i=>setItem T σ p i x fun σ=>K .next σ
 | .augVar i e,σ,K=>Xf T σ (.var i) fun x σ=>WE T Φ e σ fun y σ=>Cq y fun y=>Wd x y fun z=>K .next (σ.set i z)
 | .augAttr p a e,σ,K=>AI (get T σ p) fun x=>Vz x fun c f=>AI (QW T e) fun y=>BM y fun k=>T.cs c a=true∧T.cv c a=some none∧AI (HA f a) fun z=>BM z fun i=>
   AI (put T σ p (.obj true c (Fy f a (.int (i+k))))) fun σ=>K .next σ
 | .augItem p j e,σ,K=>AI (get T σ p) fun x=>XT x fun l=>AI (dL T σ j) fun i=>AI (QW T e) fun y=>BM y fun k=>0≤i∧AI (Qb l i) fun z=>BM z fun x=>
   AI (put T σ p (.lst .sh (M4 l i (.int (x+k))))) fun σ=>K .next σ
 | .expr e,σ,K=>WE T Φ e σ fun _ σ=>K .next σ
 | .append p e,σ,K=>AI (get T σ p) fun x=>XT x fun l=>∀v,AI (put T σ p (.hole v)) fun σ=>WE T Φ e σ fun x σ=>Cq x fun x=>l.length < 16000000∧A0 T [(p,v)] [.lst .sh (l++[x])] σ fun σ=>K .next σ
 | .appendO p e,σ,K=>AI (get T σ p) fun x=>GM x fun o l=>FN (.lst o l)=true∧∀v,AI (put T σ p (.hole v)) fun σ=>WE T Φ e σ fun x σ=>l.length < 16000000∧A0 T [(p,v)] [.lst .dp (l++[x])] σ fun σ=>K .next σ
 | .appLen p,σ,K=>AI (get T σ p) fun x=>XT x fun l=>l.length < 1000000∧AI (put T σ p (.lst .sh (l++[.int l.length]))) fun σ=>K .next σ
 | .extend p e,σ,K=>AI (get T σ p) fun x=>XT x fun l=>∀v,AI (put T σ p (.hole v)) fun σ=>WE T Φ e σ fun x σ=>Cq x fun x=>GM x fun _ m=>l.length+m.length≤16000000∧A0 T [(p,v)] [.lst .sh (l++m)] σ fun σ=>K .next σ
 | .extendB p e,σ,K=>AI (get T σ p) fun x=>XT x fun l=>∀v,AI (put T σ p (.hole v)) fun σ=>WE T Φ e σ fun x σ=>Cq x fun x=>KH x fun m=>l.length+m.length≤16000000∧A0 T [(p,v)] [.lst .sh (l++m.map .int)] σ fun σ=>K .next σ
 | .pop p,σ,K=>AI (get T σ p) fun x=>GM x fun o l=>FN (.lst o l)=true∧l≠[]∧AI (put T σ p (.lst o l.dropLast)) fun σ=>K .next σ
 | .ifs c a b,σ,K=>WE T Φ c σ fun x σ=>Dp x fun t=>Tz t (Aj a σ K) (Aj b σ K)
 | .whil c b,σ,K=>∃n,JY (WE T Φ c) (Aj b) n σ K
 | .for_ t it b,σ,K=>cS T Φ it σ fun l σ=>Cc (Aj b) (fun x σ=>σ.set t x) l σ K
 | .forT t it b,σ,K=>cS T Φ it σ fun l σ=>OU (Aj b) t l σ K
 | .forOwn t p k b,σ,K=>AI (get T σ p) fun x=>dJ x fun l=>∀v,AI (put T σ p (.hole v)) fun σ=>WE T Φ k σ fun x σ=>BM x fun i=>match i with
    | .ofNat c=>∀vals:List Value,vals.length=(l.drop c).length→A0 T [(p,v)] [.lst .dp (l.take c++vals.map .hole)] σ fun σ=>
     PZ (Aj b) t (l.drop c) [] σ fun ys σ=>AI (get T σ p) fun x=>dJ x fun l'=>∃l1,l'=l1++vals.map .hole∧AI (put T σ p (.lst .dp (l1++ys))) fun σ=>K .next σ
    | .negSucc _=>False
 | .ret e,σ,K=>WE T Φ e σ fun x σ=>K (.ret x) σ
 | .ret0,σ,K=>K (.ret .none) σ
 | .bad,_,_=>False
noncomputable def Aj:Ss→List V→(Fl→List V→Prop)→Prop
 | .nil,σ,K=>K .next σ
 | .cons s l,σ,K=>WS s σ fun fl σ=>match fl with
  | .next=>Aj l σ K
  | .ret x=>K (.ret x) σ
noncomputable def eA:Es→List V→(List V→List V→Prop)→Prop
 | .nil,σ,K=>K [] σ
 | .cons e l,σ,K=>WE T Φ e σ fun x σ=>eA l σ fun xs σ=>K (x::xs) σ
end
end
noncomputable def SI (x:V)(P:V→Prop):Prop:=match x with
 | .undef=>False
 | x=>P x
noncomputable def Bl (σ:List V):List Nat→(List V→Prop)→Prop
 | [],K=>K []
 | i::l,K=>AI (σ[i]?) fun x=>SI x fun x=>Bl σ l fun xs=>K (x::xs)
theorem Yz (σ:List V)(i:Nat)(l:List Nat)(K:List V→Prop):Bl σ (i::l) K=AI (σ[i]?) fun x=>SI x fun x=>Bl σ l fun xs=>K (x::xs):=rfl
noncomputable def start (f:Fn)(args:List V):Option (List V):=
 if args.length≤f.np∧f.np≤args.length+f.dflt.length then
  some (args++f.dflt.drop (args.length+f.dflt.length - f.np)++List.replicate (f.ns - f.np) .undef)
 else none
noncomputable def AG (T:Tabs):Nat→Nat→List V→(V→List V→Prop)→Prop
 | 0,_,_,_=>False
 | n+1,f,args,K=>∃σ,start (T.fn f) args=some σ∧Aj T (AG T n) (T.fn f).body σ fun fl σ=>Bl σ (T.fn f).mut_ fun os=>match fl with
  | .next=>K .none os
  | .ret x=>K x os
theorem AB {a b:Bool}(h:(a&&b)=true):a=true:=by cases a with | true=>rfl | false=>exact h
theorem AA {a b:Bool}(h:(a&&b)=true):b=true:=by cases a with | true=>exact h | false=>cases h
theorem no {P:Prop}(h:false=true):P:=absurd h Bool.false_ne_true
@[elab_as_elim] theorem AN {α:Type}{a b:α}[Decidable (a=b)]{M:α→Prop}(h:decide (a=b)=true)(k:M b):M a:=of_decide_eq_true h▸k
@[elab_as_elim] theorem Ud {α:Type}{a b:α}[Decidable (a=b)]{M:α→Prop}(h:decide (a=b)=true)(k:M a):M b:=of_decide_eq_true h▸k
theorem Aw {α β:Type}{o:Option α}{f:α→Option β}{b:β}(h:o.bind f=some b):∃a,o=some a∧f a=some b:=Option.bind_eq_some_iff.mp h
section
variable {α β:Type}
noncomputable def DH (o:Option α):Bool:=match o with | none=>true | some _=>false
noncomputable def Bf (o:Option α)(f:α→Bool):Bool:=match o with | none=>false | some x=>f x
noncomputable def l0 (l:List α):Bool:=match l with | []=>true | _::_=>false
noncomputable def lC (l:List α)(f:α→List α→Bool):Bool:=match l with | []=>false | x::r=>f x r
noncomputable def l1 (l:List α)(f:α→Bool):Bool:=lC l fun x r=>l0 r&&f x
noncomputable def l2 (l:List α)(f:α→α→Bool):Bool:=lC l fun x r=>l1 r fun y=>f x y
theorem A7 {o:Option α}{f:α→Bool}(h:Bf o f=true):∃x,o=some x∧f x=true:=match o,h with | some x,h=>⟨x,rfl,h⟩
variable {l:List α}{M:List α→Prop}
@[elab_as_elim] theorem BA {M:Option α→Prop}{o:Option α}(h:DH o=true)(k:M none):M o:=match o,h with | none,_=>k
@[elab_as_elim] theorem Cb {M:Option α→Prop}{o:Option α}{f:α→Bool}(h:Bf o f=true)(k:∀x,f x=true→M (some x)):M o:=match o,h with | some x,h=>k x h
@[elab_as_elim] theorem BL (h:l0 l=true)(k:M []):M l:=match l,h with | [],_=>k
@[elab_as_elim] theorem Be {f:α→List α→Bool}(h:lC l f=true)(k:∀x r,f x r=true→M (x::r)):M l:=match l,h with | x::r,h=>k x r h
@[elab_as_elim] theorem Ah {f:α→Bool}(h:l1 l f=true)(k:∀x,f x=true→M [x]):M l:=Be h fun x r h=>BL (M:=fun r=>M (x::r)) (AB h) (k x (AA h))
@[elab_as_elim] theorem Lr {f:α→α→Bool}(h:l2 l f=true)(k:∀x y,f x y=true→M [x,y]):M l:=Be h fun x r h=>Ah (M:=fun r=>M (x::r)) h (k x)
end
theorem dt {P:Prop}[Decidable P]{x:P→Bool}(h:(if p:P then x p else false)=true):∃p,x p=true:=by
 by_cases p:P
 ·exact⟨p,by rwa [dif_pos p] at h⟩
 ·rw [dif_neg p] at h;exact no h
section
variable (e:Expr)
noncomputable def So (f:BoolOp→List Expr→Bool):Bool:=if h:e.ctorIdx=0 then Expr.BoolOp.elim (motive_1:=fun _=>Bool) e h fun a b p=>f a b else false
noncomputable def YC (f:UnaryOp→Expr→Bool):Bool:=if h:e.ctorIdx=3 then Expr.UnaryOp.elim (motive_1:=fun _=>Bool) e h fun a b p=>f a b else false
noncomputable def ZU (f:Expr→List CmpOp→List Expr→Bool):Bool:=if h:e.ctorIdx=15 then Expr.Compare.elim (motive_1:=fun _=>Bool) e h fun a b c p=>f a b c else false
noncomputable def M0 (f:Const→Bool):Bool:=if h:e.ctorIdx=19 then Expr.Constant.elim (motive_1:=fun _=>Bool) e h fun a j p=>f a else false
noncomputable def Bq (f:Str→Pos→Bool):Bool:=if h:e.ctorIdx=23 then Expr.Name.elim (motive_1:=fun _=>Bool) e h fun a p=>f a p else false
noncomputable def P9 (f:Expr→Expr→Bool):Bool:=if h:e.ctorIdx=21 then Expr.Subscript.elim (motive_1:=fun _=>Bool) e h fun a b p=>f a b else false
noncomputable def Ps (f:Option Expr→Option Expr→Option Expr→Bool):Bool:=if h:e.ctorIdx=26 then Expr.Slice.elim (motive_1:=fun _=>Bool) e h fun a b c p=>f a b c else false
noncomputable def ae (f:Expr→Operator→Expr→Bool):Bool:=if h:e.ctorIdx=2 then Expr.BinOp.elim (motive_1:=fun _=>Bool) e h fun a b c p=>f a b c else false
noncomputable def i7 (f:Expr→Expr→Expr→Bool):Bool:=if h:e.ctorIdx=5 then Expr.IfExp.elim (motive_1:=fun _=>Bool) e h fun a b c p=>f a b c else false
noncomputable def OD (f:List Expr→Bool):Bool:=if h:e.ctorIdx=25 then Expr.Tuple.elim (motive_1:=fun _=>Bool) e h fun a j p=>f a else false
noncomputable def bx (f:List Expr→Bool):Bool:=if h:e.ctorIdx=24 then Expr.List.elim (motive_1:=fun _=>Bool) e h fun a p=>f a else false
noncomputable def aX (f:List (Option Expr)→List Expr→Bool):Bool:=if h:e.ctorIdx=6 then Expr.Dict.elim (motive_1:=fun _=>Bool) e h fun a b p=>f a b else false
noncomputable def Si (f:Expr→List Expr→List Keyword→Pos→Bool):Bool:=if h:e.ctorIdx=16 then Expr.Call.elim (motive_1:=fun _=>Bool) e h fun a b c p=>f a b c p else false
noncomputable def LU (f:Expr→Str→Pos→Bool):Bool:=if h:e.ctorIdx=20 then Expr.Attribute.elim (motive_1:=fun _=>Bool) e h fun a b p=>f a b p else false
noncomputable def XY (f:Expr→List Comprehension→Scope→Pos→Bool):Bool:=if h:e.ctorIdx=8 then Expr.ListComp.elim (motive_1:=fun _=>Bool) e h fun a b c p=>f a b c p else false
end
section
variable {e:Expr}{M:Expr→Prop}
@[elab_as_elim] theorem Nl {f}(h:So e f=true)(k:∀a b p,f a b=true→M (.BoolOp a b p)):M e:=(dt h).elim fun q h=>Expr.BoolOp.elim (motive_1:=fun e=>∀h,(Expr.BoolOp.elim (motive_1:=fun _=>Bool) e h fun a b p=>f a b)=true→M e) e q (fun a b p _=>k a b p) q h
@[elab_as_elim] theorem Iz {f}(h:YC e f=true)(k:∀a b p,f a b=true→M (.UnaryOp a b p)):M e:=(dt h).elim fun q h=>Expr.UnaryOp.elim (motive_1:=fun e=>∀h,(Expr.UnaryOp.elim (motive_1:=fun _=>Bool) e h fun a b p=>f a b)=true→M e) e q (fun a b p _=>k a b p) q h
@[elab_as_elim] theorem QT {f}(h:ZU e f=true)(k:∀a b c p,f a b c=true→M (.Compare a b c p)):M e:=(dt h).elim fun q h=>Expr.Compare.elim (motive_1:=fun e=>∀h,(Expr.Compare.elim (motive_1:=fun _=>Bool) e h fun a b c p=>f a b c)=true→M e) e q (fun a b c p _=>k a b c p) q h
@[elab_as_elim] theorem HL {f}(h:M0 e f=true)(k:∀a j p,f a=true→M (.Constant a j p)):M e:=(dt h).elim fun q h=>Expr.Constant.elim (motive_1:=fun e=>∀h,(Expr.Constant.elim (motive_1:=fun _=>Bool) e h fun a j p=>f a)=true→M e) e q (fun a j p _=>k a j p) q h
@[elab_as_elim] theorem AX {f}(h:Bq e f=true)(k:∀a p,f a p=true→M (.Name a p)):M e:=(dt h).elim fun q h=>Expr.Name.elim (motive_1:=fun e=>∀h,(Expr.Name.elim (motive_1:=fun _=>Bool) e h fun a p=>f a p)=true→M e) e q (fun a p _=>k a p) q h
@[elab_as_elim] theorem Ck {f}(h:P9 e f=true)(k:∀a b p,f a b=true→M (.Subscript a b p)):M e:=(dt h).elim fun q h=>Expr.Subscript.elim (motive_1:=fun e=>∀h,(Expr.Subscript.elim (motive_1:=fun _=>Bool) e h fun a b p=>f a b)=true→M e) e q (fun a b p _=>k a b p) q h
@[elab_as_elim] theorem Lg {f}(h:Ps e f=true)(k:∀a b c p,f a b c=true→M (.Slice a b c p)):M e:=(dt h).elim fun q h=>Expr.Slice.elim (motive_1:=fun e=>∀h,(Expr.Slice.elim (motive_1:=fun _=>Bool) e h fun a b c p=>f a b c)=true→M e) e q (fun a b c p _=>k a b c p) q h
@[elab_as_elim] theorem VE {f}(h:ae e f=true)(k:∀a b c p,f a b c=true→M (.BinOp a b c p)):M e:=(dt h).elim fun q h=>Expr.BinOp.elim (motive_1:=fun e=>∀h,(Expr.BinOp.elim (motive_1:=fun _=>Bool) e h fun a b c p=>f a b c)=true→M e) e q (fun a b c p _=>k a b c p) q h
@[elab_as_elim] theorem ZM {f}(h:i7 e f=true)(k:∀a b c p,f a b c=true→M (.IfExp a b c p)):M e:=(dt h).elim fun q h=>Expr.IfExp.elim (motive_1:=fun e=>∀h,(Expr.IfExp.elim (motive_1:=fun _=>Bool) e h fun a b c p=>f a b c)=true→M e) e q (fun a b c p _=>k a b c p) q h
@[elab_as_elim] theorem DQ {f}(h:OD e f=true)(k:∀a j p,f a=true→M (.Tuple a j p)):M e:=(dt h).elim fun q h=>Expr.Tuple.elim (motive_1:=fun e=>∀h,(Expr.Tuple.elim (motive_1:=fun _=>Bool) e h fun a j p=>f a)=true→M e) e q (fun a j p _=>k a j p) q h
@[elab_as_elim] theorem Vu {f}(h:bx e f=true)(k:∀a p,f a=true→M (.List a p)):M e:=(dt h).elim fun q h=>Expr.List.elim (motive_1:=fun e=>∀h,(Expr.List.elim (motive_1:=fun _=>Bool) e h fun a p=>f a)=true→M e) e q (fun a p _=>k a p) q h
@[elab_as_elim] theorem WA {f}(h:aX e f=true)(k:∀a b p,f a b=true→M (.Dict a b p)):M e:=(dt h).elim fun q h=>Expr.Dict.elim (motive_1:=fun e=>∀h,(Expr.Dict.elim (motive_1:=fun _=>Bool) e h fun a b p=>f a b)=true→M e) e q (fun a b p _=>k a b p) q h
@[elab_as_elim] theorem Nn {f}(h:Si e f=true)(k:∀a b c p,f a b c p=true→M (.Call a b c p)):M e:=(dt h).elim fun q h=>Expr.Call.elim (motive_1:=fun e=>∀h,(Expr.Call.elim (motive_1:=fun _=>Bool) e h fun a b c p=>f a b c p)=true→M e) e q (fun a b c p _=>k a b c p) q h
@[elab_as_elim] theorem CI {f}(h:LU e f=true)(k:∀a b p,f a b p=true→M (.Attribute a b p)):M e:=(dt h).elim fun q h=>Expr.Attribute.elim (motive_1:=fun e=>∀h,(Expr.Attribute.elim (motive_1:=fun _=>Bool) e h fun a b p=>f a b p)=true→M e) e q (fun a b p _=>k a b p) q h
@[elab_as_elim] theorem SD {f}(h:XY e f=true)(k:∀a b c p,f a b c p=true→M (.ListComp a b c p)):M e:=(dt h).elim fun q h=>Expr.ListComp.elim (motive_1:=fun e=>∀h,(Expr.ListComp.elim (motive_1:=fun _=>Bool) e h fun a b c p=>f a b c p)=true→M e) e q (fun a b c p _=>k a b c p) q h
end
noncomputable def bE (e:Expr)(f:Str→List Expr→Bool):Bool:=Si e fun g l k _=>l0 k&&Bq g fun x _=>f x l
noncomputable def N2 (e:Expr)(f:Expr→Str→List Expr→Bool):Bool:=Si e fun g l k q=>l0 k&&LU g fun o x p=>(p.endLine==q.line)&&f o x l
noncomputable def fL (e:Expr)(f:Expr→Str→Expr→List Expr→Scope→Pos→Bool):Bool:=XY e fun e1 gs sc q=>l1 gs fun g=>Bq g.target fun x _=>decide (g.is_async=0)&&f e1 x g.iter g.ifs sc q
section
variable {e:Expr}{M:Expr→Prop}
@[elab_as_elim] theorem Me {f}(h:bE e f=true)(k:∀x p l q,f x l=true→M (.Call (.Name x p) l [] q)):M e:=
 Nn h fun g l _ q h=>BL (M:=fun k=>M (.Call g l k q)) (AB h) (AX (M:=fun g=>M (.Call g l [] q)) (AA h) fun x p h=>k x p l q h)
@[elab_as_elim] theorem F7 {f}(h:N2 e f=true)(k:∀o x p l q,(p.endLine==q.line)=true→f o x l=true→M (.Call (.Attribute o x p) l [] q)):M e:=
 Nn h fun g l _ q h=>BL (M:=fun k=>M (.Call g l k q)) (AB h) (CI (M:=fun g=>M (.Call g l [] q)) (AA h) fun o x p h=>k o x p l q (AB h) (AA h))
@[elab_as_elim] theorem SY {f}(h:fL e f=true)(k:∀e1 x p iter ifs sc q,f e1 x iter ifs sc q=true→M (.ListComp e1 [⟨.Name x p,iter,ifs,0⟩] sc q)):M e:=
 SD h fun e1 gs sc q h=>Ah (M:=fun gs=>M (.ListComp e1 gs sc q)) h fun⟨tg,iter,ifs,as⟩ h=>AX (M:=fun tg=>M (.ListComp e1 [⟨tg,iter,ifs,as⟩] sc q)) h fun x p h=>
  AN (M:=fun as=>M (.ListComp e1 [⟨.Name x p,iter,ifs,as⟩] sc q)) (AB h) (k e1 x p iter ifs sc q (AA h))
end
noncomputable def Uf (es:List Expr)(f:Expr→CmpOp→Expr→Bool):Bool:=l1 es fun e=>ZU e fun l ps rs=>l1 ps fun p=>l1 rs fun r=>f l p r
noncomputable def aS (es:List Expr)(f:Str→List Expr→Bool):Bool:=l1 es fun e=>bE e f
noncomputable def M6 (es:List Expr)(f:Const→Bool):Bool:=l1 es fun e=>M0 e f
noncomputable def ct (es:List Expr)(f:Expr→Str→Expr→List Expr→Scope→Pos→Bool):Bool:=l1 es fun e=>fL e f
noncomputable def aI (es:List Expr)(f:Expr→Option Expr→Option Expr→Option Expr→Bool):Bool:=l1 es fun e=>P9 e fun l s=>Ps s (f l)
section
variable {es:List Expr}{M:List Expr→Prop}
@[elab_as_elim] theorem Ie {f}(h:Uf es f=true)(k:∀l p r q,f l p r=true→M [.Compare l [p] [r] q]):M es:=
 Ah h fun e h=>QT (M:=fun e=>M [e]) h fun l ps rs q h=>Ah (M:=fun ps=>M [.Compare l ps rs q]) h fun p h=>Ah (M:=fun rs=>M [.Compare l [p] rs q]) h fun r=>k l p r q
@[elab_as_elim] theorem L6 {f}(h:aS es f=true)(k:∀x p l q,f x l=true→M [.Call (.Name x p) l [] q]):M es:=
 Ah h fun e h=>Me (M:=fun e=>M [e]) h k
@[elab_as_elim] theorem Gw {f}(h:M6 es f=true)(k:∀a i p,f a=true→M [.Constant a i p]):M es:=
 Ah h fun e h=>HL (M:=fun e=>M [e]) h k
@[elab_as_elim] theorem Pc {f}(h:ct es f=true)(k:∀e1 x p iter ifs sc q,f e1 x iter ifs sc q=true→M [.ListComp e1 [⟨.Name x p,iter,ifs,0⟩] sc q]):M es:=
 Ah h fun e h=>SY (M:=fun e=>M [e]) h k
@[elab_as_elim] theorem M2 {f}(h:aI es f=true)(k:∀l a b c p q,f l a b c=true→M [.Subscript l (.Slice a b c p) q]):M es:=
 Ah h fun e h=>Ck (M:=fun e=>M [e]) h fun l s q h=>Lg (M:=fun s=>M [.Subscript l s q]) h fun a b c p=>k l a b c p q
end
noncomputable def IW (e:Expr)(i:Int):Bool:=M0 e fun c=>decide (c=.int i)
@[elab_as_elim] theorem BX {e:Expr}{i:Int}{M:Expr→Prop}(h:IW e i=true)(k:∀j p,M (.Constant (.int i) j p)):M e:=
 HL h fun c j p h=>AN (M:=fun c=>M (.Constant c j p)) h (k j p)
section
variable (e:Stmt)
noncomputable def Xj (f:Pos→Bool):Bool:=if h:e.ctorIdx=25 then Stmt.Pass.elim (motive_2:=fun _=>Bool) e h fun p=>f p else false
noncomputable def Qi (f:List Expr→Expr→Pos→Bool):Bool:=if h:e.ctorIdx=5 then Stmt.Assign.elim (motive_2:=fun _=>Bool) e h fun a b p=>f a b p else false
noncomputable def Ue (f:Expr→Operator→Expr→Bool):Bool:=if h:e.ctorIdx=7 then Stmt.AugAssign.elim (motive_2:=fun _=>Bool) e h fun a b c p=>f a b c else false
noncomputable def TR (f:Expr→Bool):Bool:=if h:e.ctorIdx=24 then Stmt.Expr.elim (motive_2:=fun _=>Bool) e h fun a p=>f a else false
noncomputable def ic (f:Expr→List Stmt→List Stmt→Bool):Bool:=if h:e.ctorIdx=12 then Stmt.If.elim (motive_2:=fun _=>Bool) e h fun a b c p=>f a b c else false
noncomputable def Sn (f:Expr→List Stmt→List Stmt→Bool):Bool:=if h:e.ctorIdx=11 then Stmt.While.elim (motive_2:=fun _=>Bool) e h fun a b c p=>f a b c else false
noncomputable def Vb (f:Expr→Expr→List Stmt→List Stmt→Bool):Bool:=if h:e.ctorIdx=9 then Stmt.For.elim (motive_2:=fun _=>Bool) e h fun a b c d p=>f a b c d else false
noncomputable def YG (f:Option Expr→Bool):Bool:=if h:e.ctorIdx=3 then Stmt.Return.elim (motive_2:=fun _=>Bool) e h fun a p=>f a else false
end
section
variable {e:Stmt}{M:Stmt→Prop}
@[elab_as_elim] theorem Tq {f}(h:Xj e f=true)(k:∀p,f p=true→M (.Pass p)):M e:=(dt h).elim fun q h=>Stmt.Pass.elim (motive_2:=fun e=>∀h,(Stmt.Pass.elim (motive_2:=fun _=>Bool) e h fun p=>f p)=true→M e) e q (fun p _=>k p) q h
@[elab_as_elim] theorem PE {f}(h:Qi e f=true)(k:∀a b p,f a b p=true→M (.Assign a b p)):M e:=(dt h).elim fun q h=>Stmt.Assign.elim (motive_2:=fun e=>∀h,(Stmt.Assign.elim (motive_2:=fun _=>Bool) e h fun a b p=>f a b p)=true→M e) e q (fun a b p _=>k a b p) q h
@[elab_as_elim] theorem Wf {f}(h:Ue e f=true)(k:∀a b c p,f a b c=true→M (.AugAssign a b c p)):M e:=(dt h).elim fun q h=>Stmt.AugAssign.elim (motive_2:=fun e=>∀h,(Stmt.AugAssign.elim (motive_2:=fun _=>Bool) e h fun a b c p=>f a b c)=true→M e) e q (fun a b c p _=>k a b c p) q h
@[elab_as_elim] theorem Np {f}(h:TR e f=true)(k:∀a p,f a=true→M (.Expr a p)):M e:=(dt h).elim fun q h=>Stmt.Expr.elim (motive_2:=fun e=>∀h,(Stmt.Expr.elim (motive_2:=fun _=>Bool) e h fun a p=>f a)=true→M e) e q (fun a p _=>k a p) q h
@[elab_as_elim] theorem YT {f}(h:ic e f=true)(k:∀a b c p,f a b c=true→M (.If a b c p)):M e:=(dt h).elim fun q h=>Stmt.If.elim (motive_2:=fun e=>∀h,(Stmt.If.elim (motive_2:=fun _=>Bool) e h fun a b c p=>f a b c)=true→M e) e q (fun a b c p _=>k a b c p) q h
@[elab_as_elim] theorem RB {f}(h:Sn e f=true)(k:∀a b c p,f a b c=true→M (.While a b c p)):M e:=(dt h).elim fun q h=>Stmt.While.elim (motive_2:=fun e=>∀h,(Stmt.While.elim (motive_2:=fun _=>Bool) e h fun a b c p=>f a b c)=true→M e) e q (fun a b c p _=>k a b c p) q h
@[elab_as_elim] theorem MA {f}(h:Vb e f=true)(k:∀a b c d p,f a b c d=true→M (.For a b c d p)):M e:=(dt h).elim fun q h=>Stmt.For.elim (motive_2:=fun e=>∀h,(Stmt.For.elim (motive_2:=fun _=>Bool) e h fun a b c d p=>f a b c d)=true→M e) e q (fun a b c d p _=>k a b c d p) q h
@[elab_as_elim] theorem Qn {f}(h:YG e f=true)(k:∀a p,f a=true→M (.Return a p)):M e:=(dt h).elim fun q h=>Stmt.Return.elim (motive_2:=fun e=>∀h,(Stmt.Return.elim (motive_2:=fun _=>Bool) e h fun a p=>f a)=true→M e) e q (fun a p _=>k a p) q h
end
noncomputable def Nr (e:Stmt)(f:Expr→Expr→Pos→Bool):Bool:=Qi e fun ts e p=>l1 ts fun t=>f t e p
@[elab_as_elim] theorem Wv {e:Stmt}{M:Stmt→Prop}{f}(h:Nr e f=true)(k:∀t e p,f t e p=true→M (.Assign [t] e p)):M e:=
 PE h fun ts e p h=>Ah (M:=fun ts=>M (.Assign ts e p)) h fun t=>k t e p
noncomputable def Hk (e:Stmt)(f:Expr→Str→List Expr→Bool):Bool:=TR e fun e=>N2 e f
@[elab_as_elim] theorem TY {e:Stmt}{M:Stmt→Prop}{f}(h:Hk e f=true)(k:∀o x p l q r,(p.endLine==q.line)=true→f o x l=true→M (.Expr (.Call (.Attribute o x p) l [] q) r)):M e:=
 Np h fun e r h=>F7 (M:=fun e=>M (.Expr e r)) h fun o x p l q=>k o x p l q r
structure AO (s s':Shared):Prop where
 gens:s'.gens=s.gens
 os:s'.os=s.os
theorem AO.refl (s:Shared):AO s s:=⟨rfl,rfl⟩
theorem AO.trans {s s' s'':Shared}(x:AO s s')(y:AO s' s''):AO s s'':=⟨y.gens.trans x.gens,y.os.trans x.os⟩
noncomputable def Bk (K:Frag)(B:PM):Prop:=∀a o,K.lookup a=some o→B a=some o
theorem Bk.mono {K:Frag}{B B':PM}(x:Bk K B)(h:B.le B'):Bk K B':=fun a o e=>h _ _ (x a o e)
theorem Bk.into {K:Frag}{B:PM}{h:Heap}{hp:HP}(x:Bk K B)(I:Inv B h hp):K.In h:=fun a o e=>I.base a o (x a o e)
noncomputable def DR (K:Frag)(a:Addr)(x:Str):Option Value:=match K.lookup a with
 | some o=>match o.data with
  | .dict es _=>nsFind es x
  | _=>none
 | none=>none
noncomputable def FT (K:Frag)(a:Addr):Bool:=match K.lookup a with
 | some o=>match o.data with
  | .dict es _=>es.toList.all fun e=>match e.key with | .str _ _=>true | _=>false
  | _=>false
 | none=>false
theorem Oi {K:Frag}{a:Addr}{h:Heap}(X:K.In h)(g:FT K a=true):h.Ns a (DR K a):=by
 unfold FT at g
 split at g
 ·rename_i o ho
  split at g
  ·rename_i es n hd
   refine⟨o,es,n,X _ _ ho,hd,fun e he=>?_,fun name=>?_⟩
   ·have:=List.all_eq_true.mp g e (by simpa using he)
    split at this
    ·rename_i x t ek;exact⟨x,t,ek⟩
    ·cases this
   ·unfold DR;rw [ho];simp only [hd]
  ·cases g
 ·cases g
noncomputable def RM:List Str:=["len","abs","int","sum","max","ord","tuple","list","bytes","dict","sorted","range","isinstance","enumerate","bool","str","bytearray"]
noncomputable def nh:V→Bool
 | .hole _=>false
 | .undef=>false
 | _=>true
structure Ac (T:Tabs)(K:Frag):Prop where
 gns:FT K mainGlobals=true
 bns:FT K builtinsNs=true
 nolim:∀h,K.In h→h.NoLimit
 bi:∀x∈RM,DR K mainGlobals x=none∧∃v,bootBuiltins x=some v∧DR K builtinsNs x=some v
 sysb:(K.lookup sysModules).isSome=true
 sysm:∀B,Bk K B→∀l n (es:Array DictEntry),B sysModules=some (AV es n)→RD T.toTab B l es.toList→False
 glob:∀g,nh (T.gv g)=true→∃u,DR K mainGlobals (T.gn g)=some u∧∀B,Bk K B→RV T.toTab B (T.gv g) u []
 fun_:∀f x,T.fg f=some x→f < T.nf∧DR K mainGlobals x=some (.ref (T.fa f))∧keepIn K (.ref (T.fa f))=true
 cls_:∀c x,T.cg c=some x→T.ci c < T.nf∧DR K mainGlobals x=some (.ref (T.cls c))∧keepIn K (.ref (T.cls c))=true∧makesIn K (T.cls c)=true∧
  findIn K (.ref (T.cls c)) "__init__"=some (some (.ref (T.fa (T.ci c))))∧typeIn K (.ref (T.fa (T.ci c)))=some (.type "function")
 meth:∀c m f,T.cm c m=some f→f < T.nf∧findIn K (.ref (T.cls c)) "__getattribute__"=some (some (.builtin "object.__getattribute__"))∧findIn K (.ref (T.cls c)) "__getattr__"=some none∧
  findIn K (.ref (T.cls c)) (T.mn m)=some (some (.ref (T.fa f)))∧typeIn K (.ref (T.fa f))=some (.type "function")∧keepIn K (.ref (T.fa f))=true∧∀k,k < 200→T.mx m k=true→T.an k≠T.mn m
 set_:∀c a,T.cs c a=true→a < 200∧findIn K (.ref (T.cls c)) "__setattr__"=some (some (.builtin "object.__setattr__"))∧plainOver K (T.cls c)=true∧takerIn K (T.cls c) (T.an a)=some none∧hasDictIn K (T.cls c)=true
 inj:∀a b,a < 200→b < 200→T.an a=T.an b→a=b
 attr:∀c a r,T.cv c a=some r→a < 200∧∃w,plainGet K (T.cls c) (T.an a)=true∧hasDictIn K (T.cls c)=true∧copiedNames.contains (T.an a)=false∧
  findIn K (.ref (T.cls c)) (T.an a)=some w∧noGet K w=true∧∀y,r=some y→∃v,w=some v∧handedIn v=true∧∀B,Bk K B→RV T.toTab B y v []
variable {T:Tabs}{K:Frag}
theorem Pf {h:Int}{x:Str}{t:Tok}{v:Value}:DictEntry.refKey ⟨h,.str x t,v⟩=false:=rfl
theorem RF.noRef {B:PM}:∀{f:List (Nat×V)} {es:List DictEntry} {hp:HP},RF T.toTab B f es hp→es.any (·.refKey)=false
 | [],_,_,x=>by cases x;rfl
 | (k,y)::f,_,_,x=>by
  obtain⟨hs,t,v,es,h1,h2,r1,r2⟩:=x
  have h:=RF.noRef r2;exact h
theorem Gv {name x:Str}{hs:Int}{t:Tok}{v:Value}{es:List DictEntry}(n:es.any (·.refKey)=false):
  getL name (⟨hs,.str x t,v⟩::es)=if x=name then some (some v) else getL name es:=by
 have e:(DictEntry.mk hs (.str x t) v).key.isStr name=decide (x=name):=by
  show (x==name)=_
  by_cases h:x=name
  ·subst h;simp
  ·simp [h]
 unfold getL
 rw [List.find?_cons,e]
 by_cases h:x=name
 ·simp [h]
 ·simp only [h,decide_false,if_false,List.any_cons,Pf,Bool.false_or]
noncomputable def iQ (l:List Nat):Prop:=∀k∈l,k < 200
theorem M3 (k:Nat)(x:V)(f:List (Nat×V))(a:Nat):HA ((k,x)::f) a=if k=a then some x else HA f a:=by
 show (if (k==a)=true then some x else HA f a)=_
 by_cases q:k=a <;> simp [q]
theorem Ek (k:Nat)(x y:V)(f:List (Nat×V))(a:Nat):Fy ((k,x)::f) a y=if k=a then (k,y)::f else (k,x)::Fy f a y:=by
 show (if (k==a)=true then (k,y)::f else (k,x)::Fy f a y)=_
 by_cases q:k=a <;> simp [q]
theorem RF.none_ {B:PM}(S:Ac T K){a:Nat}(ha:a < 200):∀{f:List (Nat×V)} {es:List DictEntry} {hp:HP},RF T.toTab B f es hp→(∀k∈f.map (·.1),k < 200)→HA f a=none→getL (T.an a) es=some none
 | [],_,_,x,_,_=>by cases x;rfl
 | (k,y)::f,_,_,x,hk,e=>by
  obtain⟨hs,t,v,es,h1,h2,r1,r2⟩:=x
  rw [M3] at e
  by_cases q:k=a
  ·rw [if_pos q] at e;cases e
  ·rw [if_neg q] at e
   rw [Gv r2.noRef,if_neg fun z=>q (S.inj _ _ (hk k (.head _)) ha z)]
   exact RF.none_ S ha r2 (fun k hm=>hk k (.tail _ hm)) e
theorem K7:∀(f:List (Nat×V)) (a:Nat) (y:V),(HA f a).isSome=true→(Fy f a y).map (·.1)=f.map (·.1)
 | [],_,_,e=>nomatch e
 | (k,x)::r,a,y,e=>by
  rw [M3] at e
  rw [Ek]
  by_cases q:k=a
  ·rw [if_pos q];rfl
  ·rw [if_neg q] at e ⊢
   exact congrArg (k::·) (K7 r a y e)
inductive Upd (h:HP)(P:HP→Prop):Prop
 | mk (hp:HP) (p:hp.Perm h) (q:P hp)
inductive At (T:Tab)(B:PM)(hp:HP)(y:V)(G:Value→Prop)(R:PM→V→HP→Prop):Prop
 | mk (v:Value) (h1 h2:HP) (g:G v) (p:hp.Perm (h1++h2)) (r:RV T B y v h1) (back:∀B' y' h1',B.le B'→RV T B' y' v h1'→Upd (h1'++h2) (R B' y'))
theorem AC {p g1 g2 h:HP}(q:h.Perm (g1++g2)):(p++h).Perm (g1++(p++g2)):=by
 refine (List.Perm.append_left p q).trans ?_
 rw [←List.append_assoc,←List.append_assoc]
 exact List.Perm.append_right g2 List.perm_append_comm
theorem RF.at_ {B:PM}(S:Ac T K){a:Nat}{y:V}(ha:a < 200):∀{f:List (Nat×V)} {es:List DictEntry} {hp:HP},RF T.toTab B f es hp→(∀k∈f.map (·.1),k < 200)→HA f a=some y→
  At T.toTab B hp y (fun v=>getL (T.an a) es=some (some v)) fun B' y' hp'=>RF T.toTab B' (Fy f a y') es hp'
 | [],_,_,_,_,e=>nomatch e
 | (k,x)::f,_,_,r,hk,e=>by
  obtain⟨hs,t,v,es,h1,h2,r1,r2⟩:=r
  rw [M3] at e
  have gl:=Gv (hs:=hs) (t:=t) (v:=v) (x:=T.an k) (name:=T.an a) r2.noRef
  by_cases q:k=a
  ·rw [if_pos q] at e
   cases e
   refine⟨v,h1,h2,by rw [gl,if_pos (by rw [q])],.refl _,r1,fun B' y' h1' le r'=>⟨h1'++h2,.refl _,?_⟩⟩
   rw [Ek,if_pos q]
   exact⟨hs,t,v,es,h1',h2,r',RF.mono le r2⟩
  ·rw [if_neg q] at e
   rw [if_neg fun z=>q (S.inj _ _ (hk k (.head _)) ha z)] at gl
   obtain⟨v',g1,g2,e1,p,r',back⟩:=RF.at_ S ha r2 (fun k hm=>hk k (.tail _ hm)) e
   refine⟨v',g1,h1++g2,gl.trans e1,AC p,r',fun B' y' h1' le ry=>?_⟩
   obtain⟨hp',p',rf⟩:=back B' y' h1' le ry
   refine⟨h1++hp',AC p',?_⟩
   rw [Ek,if_neg q]
   exact⟨hs,t,v,es,h1,hp',RV.mono le r1,rf⟩
theorem RL.at_ {B:PM}:∀{l:List V} {vs:List Value} {hp:HP} {i:Nat} {y:V},RL T.toTab B l vs hp→l[i]?=some y→
  At T.toTab B hp y (fun v=>vs[i]?=some v) fun B' y' hp'=>RL T.toTab B' (l.set i y') vs hp'
 | [],_,_,_,_,_,e=>nomatch e
 | x::l,_,_,0,y,r,e=>by
  obtain⟨v,vs,h1,h2,r1,r2⟩:=r
  cases e
  exact⟨v,h1,h2,rfl,.refl _,r1,fun B' y' h1' le r'=>⟨h1'++h2,.refl _,v,vs,h1',h2,r',RL.mono le r2⟩⟩
 | x::l,_,_,i+1,y,r,e=>by
  obtain⟨v,vs,h1,h2,r1,r2⟩:=r
  obtain⟨v',g1,g2,e1,p,r',back⟩:=RL.at_ (i:=i) r2 e
  refine⟨v',g1,h1++g2,e1,AC p,r',fun B' y' h1' le ry=>?_⟩
  obtain⟨hp',p',rf⟩:=back B' y' h1' le ry
  exact⟨h1++hp',AC p',v,vs,h1,hp',RV.mono le r1,rf⟩
theorem RL.len {B:PM}:∀{l:List V} {vs:List Value} {hp:HP},RL T.toTab B l vs hp→vs.length=l.length
 | [],_,_,r=>by cases r;rfl
 | x::l,_,_,r=>by
  obtain⟨v,vs,h1,h2,r1,r2⟩:=r
  exact congrArg (·+1) (RL.len r2)
end
section
open PySem PySem.W PyProof.Rows PySem.Calls
open Hd (pw)
variable {w:World}{T:Tabs}{K:Frag}{env:Env}
inductive X5 (w:World)(T:Tabs)(env:Env)(ST:PM→List V→HP→Prop)(B:PM)(σ:List V)(hp:HP)(i:Nat)(x:V)(n:Str):Prop
 | mk (v:Value) (h1 h2:HP) (p:hp.Perm (h1++h2)) (r:RV T.toTab B x v h1)
  (ld:∀(A:Around) (F:HP) (s:Shared) (Q:Value→Shared→Prop) (E:Value→Shared→Prop),Inv B s.heap (hp++F)→Q v s→wpAny (model pw w) A (loadName env n) Q E s)
  (back:∀B' x' h1',B.le B'→RV T.toTab B' x' v h1'→ST B' (σ.set i x') (h1'++h2)) (gone:ST B (σ.set i .undef) h2)
structure A8 (w:World)(T:Tabs)(env:Env)(nm:Nat→Option Str)(pins:List Nat) where
 ST:PM→List V→HP→Prop
 mono:∀{B B':PM} {σ:List V} {hp:HP},B.le B'→ST B σ hp→ST B' σ hp
 perm:∀{B:PM} {σ:List V} {hp hp':HP},hp.Perm hp'→ST B σ hp→ST B σ hp'
 load:∀{B:PM} {σ:List V} {hp:HP} {i:Nat} {x:V} {n:Str},ST B σ hp→σ[i]?=some x→x≠.undef→nm i=some n→X5 w T env ST B σ hp i x n
 store:∀{B:PM} {σ:List V} {hp:HP} {i:Nat} {x:V} {n:Str} {v:Value} {h' F:HP} {s:Shared} {A:Around} {Q:Unit→Shared→Prop} {E:Value→Shared→Prop},ST B σ hp→nm i=some n→i∉pins→RV T.toTab B x v h'→
  Inv B s.heap (h'++(hp++F))→(∀s' hp',AO s s'→ST B (σ.set i x) hp'→Inv B s'.heap (hp'++F)→Q () s')→wpAny (model pw w) A (storeName env n v) Q E s
 isG:Str→Bool
 glob:∀{n:Str} {A:Around} {s:Shared} {Q:Value→Shared→Prop} {E:Value→Shared→Prop},isG n=true→wpAny (model pw w) A (loadGlobal env n) Q E s→wpAny (model pw w) A (loadName env n) Q E s
 fk:env.scope.kind=.function
 gs:env.globals=mainGlobals
 bs:env.builtins=builtinsNs
inductive dc (T:Tabs)(ST:PM→List V→HP→Prop)(B:PM)(σ:List V)(hp:HP)(p:Pt)(x:V)(v:Value):Prop
 | mk (h1 h2:HP) (pp:hp.Perm (h1++h2)) (r:RV T.toTab B x v h1) (back:∀B' x' h1' σ',B.le B'→RV T.toTab B' x' v h1'→put T σ p x'=some σ'→Upd (h1'++h2) (ST B' σ'))
noncomputable def fK (nm:Nat→Option Str)(i:Nat)(x:Str):Bool:=decide (nm i=some x)&&!(x==("__debug__":Str))
theorem Up {nm:Nat→Option Str}{i:Nat}{x:Str}(h:fK nm i x=true):(x==("__debug__":Str))=false:=(Bool.not_eq_true' _).mp (AA h)
noncomputable def mJ (nm:Nat→Option Str):Jx→Expr→Bool
 | .lit i,e=>IW e i||YC e fun o l=>decide (o=.USub)&&IW l (-i)
 | .var i,e=>Bq e fun x _=>fK nm i x
noncomputable def mP (T:Tabs)(nm:Nat→Option Str):Pt→Expr→Bool
 | .var i,e=>Bq e fun x _=>fK nm i x
 | .attr p a,e=>LU e fun e x _=>decide (T.an a=x)&&mP T nm p e
 | .at_ p j,e=>P9 e fun e i=>mP T nm p e&&mJ nm j i
theorem Rq {B:PM}{x:V}{v:Value}{hp:HP}(r:RV T.toTab B x v hp)(h:nh x=true):handedIn v=true:=by
 cases x <;> first | exact no h | exact r.elim | (cases r;rfl)
theorem RE {A:Around}{E:Value→Shared→Prop}{s:Shared}{Q:Value→Shared→Prop}{value:Expr}{name:Str}{pos:Pos}(hb:∀t,attributeBase value name env t=t)
  (h:wpAny (model pw w) A (eval value env) (fun o s₁=>wpAny (model pw w) A (getAttr o name true) Q E s₁) E s):wpAny (model pw w) A (eval (.Attribute value name pos) env) Q E s:=by
 rw [arm_eval_Attribute,hb]
 exact wpAny_bind (wpAny_mono h (fun o s₁ h₁=>wpAny_bind (wpAny_standAt (wpAny_bind (wpAny_holding (wpAny_mono h₁ (fun r s₂ q=>wpAny_bind (wpAny_letTemporaryGo (wpAny_pure q))) fun _ _ x=>x))))) fun _ _ x=>x)
theorem RN {e:Expr}(h:e.ctorIdx=26→False)(o i:Value):subscripted e false o i=operate [o,i] (getItem o i):=by
 cases e <;> first | rfl | exact (h rfl).elim
theorem Oe {A:Around}{E:Value→Shared→Prop}{s:Shared}{Q:Value→Shared→Prop}{value slice:Expr}{pos:Pos}(hs:slice.ctorIdx=26→False)
  (h:wpAny (model pw w) A (eval value env) (fun o s₁=>wpAny (model pw w) A (eval slice env) (fun i s₂=>SubscriptOn (model pw w) A o i Q E s₂) E s₁) E s):wpAny (model pw w) A (eval (.Subscript value slice pos) env) Q E s:=by
 rw [arm_eval_Subscript]
 refine wpAny_bind (wpAny_mono h (fun o s₁ h₁=>wpAny_bind (wpAny_holding (wpAny_mono h₁ (fun i s₂ h₂=>wpAny_bind (wpAny_standAt ?_)) fun _ _ x=>x))) fun _ _ x=>x)
 obtain⟨T',id,hl,hT,hg⟩:=h₂
 refine wpAny_bind ?_
 rw [getitemInPython_of_ne hT.not_modules]
 refine wpAny_bind (wpAny_specialOf hT hl (wpAny_pure (wpAny_bind ?_)))
 rw [RN hs]
 exact wpAny_operating (wpAny_mono hg (fun r s₃ h₃=>wpAny_bind (wpAny_letTemporaryGo (wpAny_pure h₃))) fun _ _ x=>x)
noncomputable def II (i:Int)(j n:Nat):Prop:=(0≤i∧i=j)∨(i < 0∧i=(j:Int) - n)
theorem MQ {k n:Nat}(q:k+1≤n):n - (k+1) < n∧II (Int.negSucc k) (n - (k+1)) n:=
 ⟨Nat.sub_lt (Nat.lt_of_lt_of_le (Nat.succ_pos k) q) (Nat.succ_pos k),.inr ⟨Int.negSucc_lt_zero k,by rw [Int.ofNat_sub q,Int.sub_sub,Int.add_comm,←Int.sub_sub,Int.sub_self,Int.zero_sub];rfl⟩⟩
theorem II.rng {i:Int}{j n:Nat}(h:II i j n)(l:j < n) : -(n:Int)≤i∧i < n:=by
 rcases h with ⟨h,e⟩ | ⟨h,e⟩
 ·exact⟨Int.le_trans (Int.neg_nonpos_of_nonneg (Int.natCast_nonneg n)) h,e▸Int.ofNat_lt.2 l⟩
 ·exact⟨e▸(Int.le_add_of_nonneg_left (Int.natCast_nonneg j) : -(n:Int)≤j+-n),Int.lt_of_lt_of_le h (Int.natCast_nonneg n)⟩
inductive aE (l:List V)(i:Int)(y:V):Prop
 | mk (j:Nat) (hj:l[j]?=some y) (ls:∀y',M4 l i y'=l.set j y') (lt:j < l.length) (ix:II i j l.length)
theorem Mq {l:List V}{i:Int}{y:V}(e:Qb l i=some y):aE l i y:=by
 cases i with
 | ofNat k=>exact⟨k,e,fun _=>rfl,(List.getElem?_eq_some_iff.mp e).1,.inl ⟨Int.natCast_nonneg k,rfl⟩⟩
 | negSucc k=>
  by_cases q:k+1≤l.length
  ·exact⟨_,(if_pos q).symm.trans e,fun _=>rfl,(MQ q).1,(MQ q).2⟩
  ·exact nn ((if_neg q).symm.trans e)
theorem Ls {vs:Array Value}{j:Nat}{v:Value}(h:vs[j]?=some v):j < vs.size:=(Array.getElem?_eq_some_iff.mp h).1
theorem II.seq {i:Int}{j n:Nat}(hi:II i j n)(l:j < n):seqIndex? i n=some j:=by
 unfold seqIndex?
 rcases hi with ⟨h0,e⟩ | ⟨h0,e⟩
 ·have h0:¬ i < 0:=by lia
  rw [if_neg h0,e]
  simp [l]
 ·rw [if_pos h0,show i+(n:Int)=j by lia]
  simp [l]
theorem item_list {A:Around}{E:Value→Shared→Prop}{s:Shared}{Q:Value→Shared→Prop}{a:Addr}{vs:Array Value}{i:Int}{t:Tok}{j:Nat}{v:Value}(hl:s.heap.IsList a vs)(hz:vs.size≤sizeLine)
  (hj:vs.toList[j]?=some v) (hi:II i j vs.size) (h:Q v s):wpAny (model pw w) A (getItem (.ref a) (.int i t)) Q E s:=by
 rw [Array.getElem?_toList] at hj
 have hlt:=Ls hj
 have z:sizeLine=2 ^ 24:=sizeLine_eq
 rcases hi with ⟨h0,e⟩ | ⟨h0,e⟩
 ·exact wpAny_getItem_list hl h0 (by lia) (by rw [e];simpa using hj) h
 ·refine wpAny_getItem_list_neg hl h0 (by lia) (by lia) ?_ h
  rw [show (i+(vs.size:Int)).toNat=j by lia];exact hj
theorem NI {A:Around}{E:Value→Shared→Prop}{s:Shared}{Q:Value→Shared→Prop}{a:Addr}{vs:Array Value}{i:Int}{t:Tok}{j:Nat}{v:Value}(hl:IsTup s.heap a vs)(hz:vs.size≤sizeLine)
  (hj:vs.toList[j]?=some v) (hi:II i j vs.size) (h:Q v s):wpAny (model pw w) A (getItem (.ref a) (.int i t)) Q E s:=by
 rw [Array.getElem?_toList] at hj
 have hlt:=Ls hj
 have hb:=hi.rng hlt
 have z:sizeLine=2 ^ 24:=sizeLine_eq
 exact getItem_tuple hl (by lia) (by lia) (hi.seq hlt) hj h
theorem L9 {B:PM}{h:Heap}{hp h1 hc:HP}{o:O}{a:Addr}{ob:Obj}(I:Inv B h hp)(x:YK B o a ob h1 hc)(sub:∀p∈h1,p∈hp):h.get? a=some ob:=by
 cases o with
 | fr=>exact I.base _ _ x.2.2
 | sh=>exact I.own (a,ob) (sub _ (by rw [x.1];exact .head _))
 | dp=>exact I.own (a,ob) (sub _ (by rw [show h1=_ from x];exact .head _))
theorem PA {B:PM}{h:Heap}{hp h1 hc:HP}{o:Bool}{a d:Addr}{ob od:Obj}(I:Inv B h hp)(x:OE B o a ob d od h1 hc)(sub:∀p∈h1,p∈hp):h.get? a=some ob∧h.get? d=some od:=by
 cases o with
 | false=>exact⟨I.base _ _ x.2.2.1,I.base _ _ x.2.2.2⟩
 | true=>
  unfold OE at x
  exact⟨I.own (a,ob) (sub _ (by rw [x];exact .head _)),I.own (d,od) (sub _ (by rw [x];exact .tail _ (.head _)))⟩
theorem Pq {hp h1 h2 F:HP}(p:hp.Perm (h1++h2)):∀q∈h1,q∈hp++F:=fun q hq=>List.mem_append_left _ (p.mem_iff.mpr (List.mem_append_left _ hq))
inductive mF (w:World)(env:Env)(B:PM)(hp:HP)(i:Int)(e:Expr):Prop
 | mk (ns:e.ctorIdx=26→False) (ev:∀(A:Around) (F:HP) (s:Shared) (Q:Value→Shared→Prop) (E:Value→Shared→Prop),Inv B s.heap (hp++F)→(∀t t',Q (.int i t) { s with toks:=t' })→wpAny (model pw w) A (eval e env) Q E s)
theorem aD {nm:Nat→Option Str}{pins:List Nat}(fr:A8 w T env nm pins){j:Jx}{e:Expr}{B:PM}{σ:List V}{hp:HP}{i:Int}(m:mJ nm j e=true)(st:fr.ST B σ hp)(g:jx σ j=some i):mF w env B hp i e:=by
 cases j with
 | lit i0=>
  cases g
  rcases (Bool.or_eq_true _ _).mp m with m | m
  ·refine BX m fun k p=>?_
   exact⟨nofun,fun A F s Q E I q=>wpAny_Constant_int (q s.toks (s.toks+1))⟩
  ·refine Iz m fun o l p m=>?_
   refine AN (AB m) ?_
   refine BX (AA m) fun k p=>?_
   exact⟨nofun,fun A F s Q E I q=>wpAny_UnaryOp (wpAny_Constant_int (PyProof.Rows.neg_int (by rw [Int.neg_neg];exact q _ _)))⟩
 | var i0=>
  refine AX m fun x p m=>?_
  obtain⟨y,hk,g⟩:=Aw g
  revert hk
  refine Q1 g fun hk=>?_
  obtain⟨v,h1,h2,p,r,ld,-⟩:=fr.load st hk nofun (of_decide_eq_true (AB m))
  obtain⟨t⟩:=r
  exact⟨nofun,fun A F s Q E I q=>wpAny_Name (ld A F s Q E I (q _ s.toks)) (Up m)⟩
theorem QG {x:V}{a:Nat}{y:V}(e:Yv T x a=some y):nh x=true:=by
 cases x <;> first | rfl | exact nn e
theorem Pw {x:V}{i:Int}{y:V}(e:WV x i=some y):nh x=true:=by
 cases x <;> first | rfl | exact nn e
theorem Bm {nm:Nat→Option Str}:∀{p:Pt} {e:Expr} {name:Str},mP T nm p e=true→∀t:Sem Value,attributeBase e name env t=t
 | .var _,e,_,m,t=>by
  refine AX m fun _ _ _=>?_
  rfl
 | .attr _ _,e,_,m,t=>by
  refine CI m fun _ _ _ _=>?_
  rfl
 | .at_ _ _,e,_,m,t=>by
  refine Ck m fun _ _ _ _=>?_
  rfl
theorem JL {name:Str}{es:Array DictEntry}{n:Nat}:lookIn name (AV es n)=getL name es.toList:=by
 rw [show AV es n=dictOf es.toList n by simp];exact lookIn_dict ..
theorem OE.pre {B:PM}{o:Bool}{a d:Addr}{ob od:Obj}{hp h1:HP}(x:OE B o a ob d od hp h1):hp=(cond o [(a,ob),(d,od)] [])++h1:=by
 cases o with
 | true=>exact x
 | false=>rw [x.1,x.2.1];rfl
theorem Zo {p g1 g2 h r:HP}(q:h.Perm (g1++g2)):(p++(h++r)).Perm (g1++(p++(g2++r))):=
 AC (by rw [←List.append_assoc];exact q.append_right r)
theorem Qq {h h1 g1 g2 h2:HP}(p:h.Perm (h1++h2))(q:h1.Perm (g1++g2)):h.Perm (g1++(g2++h2)):=by
 rw [←List.append_assoc];exact p.trans (q.append_right h2)
noncomputable def bI (o:O)(p:Addr×Obj):HP:=match o with
 | .fr=>[]
 | _=>[p]
theorem YK.pre {B:PM}{o:O}{a:Addr}{ob:Obj}{hp h1:HP}(x:YK B o a ob hp h1):hp=bI o (a,ob)++h1:=by
 cases o with
 | fr=>rw [x.1,x.2.1];rfl
 | sh=>rw [x.1,x.2];rfl
 | dp=>exact x
theorem HH {B:PM}{h:Heap}{hp h1:HP}{o:Bool}{c:Nat}{f:List (Nat×V)}{v:Value}{a:Nat}{y:V}{r:Option V}(S:Ac T K)(ok:Bk K B)(I:Inv B h hp)(sub:∀p∈h1,p∈hp)
  (R:RV T.toTab B (.obj o c f) v h1) (ec:T.cv c a=some r) (ey:NL f a r=some y):
  At T.toTab B h1 y (fun u=>nh y=true→∀(A:Around) (s:Shared) (Q:Value→Shared→Prop) (E:Value→Shared→Prop) (ex:Bool),s.heap=h→(∀t,Q u { s with toks:=t })→wpAny (model pw w) A (getAttr v (T.an a) ex) Q E s)
   (fun B' y' h1'=>o=true→(HA f a).isSome=true→RV T.toTab B' (.obj true c (Fy f a y')) v h1'):=by
 obtain⟨ha,w0,pg,hd,nc,fi,ng,cvs⟩:=S.attr c a r ec
 obtain⟨x,dx,es,n,hf,ow,rf,nd,lt⟩:=R
 obtain⟨gx,gd⟩:=PA I ow sub
 have IA:InstAt h x (instObj (T.cls c) dx) (T.cls c) (some (AV es n)):=⟨gx,rfl,rfl,gd⟩
 have X:=ok.into I
 cases q:HA f a with
 | some y0=>
  unfold NL at ey
  rw [q] at ey
  cases ey
  obtain⟨u,g1,g2,e1,p,r',back⟩:=rf.at_ S ha lt q
  have fo:findObj K (T.cls c) (some (AV es n)) (T.an a)=some (.value u):=findObj_own hd fi ng (by rw [JL];exact e1)
  refine⟨u,g1,(cond o [(x,instObj (T.cls c) dx),(dx,AV es n)] [])++g2,fun hy A s Q E ex eh Q'=>?_,?_,r',fun B' y' g1' le ry=>?_⟩
  ·cases eh
   exact get_value X IA (plainGet_of pg).1 fo (Rq r' hy) (Q' _)
  ·rw [ow.pre];exact AC p
  ·obtain⟨hp',p',rf'⟩:=back B' y' g1' le ry
   have ks:=K7 f a y' (by rw [q];rfl)
   exact⟨_,AC p',fun eo _=>by subst eo;exact⟨x,dx,es,n,hp',rfl,rf',ks▸nd,ks▸lt⟩⟩
 | none=>
  unfold NL at ey
  rw [q] at ey
  subst ey
  obtain⟨u,e0,hh,ry⟩:=cvs y rfl
  subst e0
  refine⟨u,[],h1,fun hy A s Q E ex eh Q'=>?_,.refl _,ry B ok,fun B' y' g1' le ry=>⟨_,.refl _,fun _ z=>no z⟩⟩
  have sp:specialIn K u "__get__"=some none:=by simpa [noGet] using ng
  have fo:findObj K (T.cls c) (some (AV es n)) (T.an a)=some (.value u):=findObj_cls hd fi sp hh nc (by rw [JL];exact rf.none_ S ha lt q)
  cases eh
  exact get_value X IA (plainGet_of pg).1 fo hh (Q' _)
inductive gV (T:Tab)(B:PM)(X:V)(v:Value)(h1:HP):Prop
 | same (e:UU X=X)
 | pin (r:RV T B (UU X) v []) (e:h1=[]) (ne:Uo X=none)
theorem Qp {B:PM}{X:V}{v:Value}{h1:HP}(R:RV T.toTab B X v h1):gV T.toTab B X v h1:=by
 cases X <;> first | exact .same rfl | (obtain⟨R⟩:=R;exact .pin R rfl rfl)
theorem Ik {x:V}{q}(h:Tw x=some q):x=.obj q.1 q.2.1 q.2.2:=Wa (M:=fun x=>x=.obj q.1 q.2.1 q.2.2) h rfl
theorem cq {x:V}{q}(h:Uo x=some q):x=.obj true q.1 q.2:=WQ (M:=fun x=>x=.obj true q.1 q.2) h rfl
noncomputable def af (w:World)(T:Tabs)(h:Heap)(v:Value)(a:Nat)(y:V)(u:Value):Prop:=
 nh y=true→∀(A:Around) (s:Shared) (Q:Value→Shared→Prop) (E:Value→Shared→Prop) (ex:Bool),s.heap=h→(∀t,Q u { s with toks:=t })→wpAny (model pw w) A (getAttr v (T.an a) ex) Q E s
theorem S8 {B:PM}{h:Heap}{hp h1:HP}{X:V}{v:Value}{a:Nat}{y:V}(S:Ac T K)(ok:Bk K B)(I:Inv B h hp)(sub:∀p∈h1,p∈hp)
  (R:RV T.toTab B X v h1) (g:Yv T X a=some y):
  At T.toTab B h1 y (af w T h v a y) (fun B' y' h1'=>∀q,Uo X=some q→(HA q.2 a).isSome=true→RV T.toTab B' (.obj true q.1 (Fy q.2 a y')) v h1'):=by
 obtain⟨q,eo,g⟩:=Aw g
 obtain⟨r,ec,ey⟩:=Aw g
 rcases Qp R with e | ⟨R1,e,ne⟩
 ·rw [e] at eo
  have e:=Ik eo
  subst e
  obtain⟨u,g1,g2,gg,p,r',back⟩:=HH (w:=w) S ok I sub R ec ey
  refine⟨u,g1,g2,gg,p,r',fun B' y' h1' le ry=>?_⟩
  obtain⟨hp',p',b⟩:=back B' y' h1' le ry
  refine⟨hp',p',fun q' e' hs=>?_⟩
  obtain⟨o,c,f⟩:=q
  cases o with
  | false=>exact nn e'
  | true=>cases e';exact b rfl hs
 ·subst e
  rw [Ik eo] at R1
  obtain⟨u,g1,g2,gg,p,r',back⟩:=HH (w:=w) S ok I (fun p (z:p∈([]:HP))=>nomatch z) R1 ec ey
  exact⟨u,g1,g2,gg,p,r',fun B' y' h1' le ry=>⟨_,.refl _,fun q' e'=>nn (ne.symm.trans e')⟩⟩
@[elab_as_elim] theorem MY {x:V}{l:List V}{M:V→Prop}(h:N9 x=some l)(k1:∀o,M (.lst o l))(k2:M (.tup l)):M x:=by
 cases x <;> first | exact nn h | exact Option.some.inj h▸k1 _ | exact Option.some.inj h▸k2
noncomputable def aQ (w:World)(h:Heap)(v:Value)(i:Int)(u:Value):Prop:=
 ∀(A:Around) (s:Shared) (Q:Value→Shared→Prop) (E:Value→Shared→Prop) (t:Tok),s.heap=h→Q u s→SubscriptOn (model pw w) A v (.int i t) Q E s
theorem Sj {B:PM}{h:Heap}{hp h1:HP}{X:V}{v:Value}{i:Int}{y:V}(I:Inv B h hp)(sub:∀p∈h1,p∈hp)(R:RV T.toTab B X v h1)(g:WV X i=some y):
  At T.toTab B h1 y (aQ w h v i) (fun B' y' h1'=>∀l,fT X=some l→RV T.toTab B' (.lst .dp (M4 l i y')) v h1'):=by
 obtain⟨l,es,g⟩:=Aw g
 obtain⟨k,hk,ls,lt,ix⟩:=Mq g
 revert R
 refine MY es (fun o R=>?_) fun R=>?_
 ·obtain⟨z,a,vs,n,hl,ow,rl⟩:=R
  obtain⟨u,g1,g2,ev1,q,r1,wr⟩:=rl.at_ hk
  have ga:=L9 I ow sub
  have vz:vs.size=l.length:=rl.len
  refine⟨u,g1,bI o (a,AD vs n)++g2,fun A s Q E t e q=>?_,by rw [ow.pre];exact AC q,r1,fun B' y' g1' le ry=>?_⟩
  ·cases e
   exact⟨"list",_,list_getitem_lookup,⟨_,ga,rfl⟩,item_list ⟨_,ga,rfl,_,rfl⟩ (vz▸z) ev1 (vz▸ix) q⟩
  ·obtain⟨hp',q',rl'⟩:=wr B' y' g1' le ry
   refine⟨_,AC q',fun l' e=>?_⟩
   cases o with
   | dp=>
    cases e
    rw [ls]
    exact⟨by rw [List.length_set];exact z,a,vs,n,hp',rfl,rl'⟩
   | _=>exact nn e
 ·obtain⟨z,a,vs,n,ba,rl⟩:=R
  obtain⟨u,g1,g2,ev1,q,r1,-⟩:=rl.at_ hk
  have ga:=I.base _ _ ba
  have vz:vs.size=l.length:=rl.len
  refine⟨u,g1,g2,fun A s Q E t e q=>?_,q,r1,fun B' y' g1' le ry=>⟨_,.refl _,fun l' e=>nn e⟩⟩
  cases e
  exact⟨"tuple",_,slot_tuple_getitem.lookup,⟨_,ga,rfl⟩,NI ⟨_,ga,rfl,_,rfl⟩ (vz▸z) ev1 (vz▸ix) q⟩
inductive ly (w:World){T:Tabs}{env:Env}{nm:Nat→Option Str}{pins:List Nat}(fr:A8 w T env nm pins)(B:PM)(σ:List V)(hp:HP)(p:Pt)(x:V)(s0:Heap)(e:Expr):Prop
 | mk (v:Value) (foc:dc T fr.ST B σ hp p x v) (ev:nh x=true→∀(A:Around) (s:Shared) (Q:Value→Shared→Prop) (E:Value→Shared→Prop),s.heap=s0→(∀t,Q v { s with toks:=t })→wpAny (model pw w) A (eval e env) Q E s)
theorem Ak {nm:Nat→Option Str}{pins:List Nat}(fr:A8 w T env nm pins)(S:Ac T K){B:PM}{σ:List V}{hp F:HP}{s0:Heap}(st:fr.ST B σ hp)(ok:Bk K B)(I:Inv B s0 (hp++F)):∀{p:Pt} {e:Expr} {x:V},mP T nm p e=true→get T σ p=some x→ly w fr B σ hp p x s0 e
 | .var i,e,x,m,g=>by
  refine AX m fun n pos m=>?_
  obtain⟨y,hy,g⟩:=Aw g
  have e:=Q2 g
  subst e
  obtain⟨v,h1,h2,p,r,ld,back,-⟩:=fr.load st hy (fun z=>QQ (z▸g)) (of_decide_eq_true (AB m))
  refine⟨v,⟨h1,h2,p,r,fun B' x' h1' σ' le r' ep=>?_⟩,fun hx A s Q E es q=>wpAny_Name (ld A F s Q E (es▸I) (q s.toks)) (Up m)⟩
  cases ep
  exact⟨_,.refl _,back B' x' h1' le r'⟩
 | .attr p a,e,x,m,g=>by
  refine CI m fun value name pos m=>?_
  refine Ud (AB m) ?_
  have m:=AA m
  obtain⟨X,gp,g⟩:=Aw g
  obtain⟨V,⟨h1,h2,pp,R,back⟩,ev⟩:=Ak fr S st ok I m gp
  obtain⟨u,g1,g2,rd,q,r1,wr⟩:=S8 S ok I (Pq pp) R g
  refine⟨u,⟨g1,g2++h2,Qq pp q,r1,fun B' y' g1' σ' le ry ep=>?_⟩,fun hx A s Q E es Q'=>RE (Bm m) (ev (QG g) A s _ E es fun t=>rd hx A _ Q E true es fun t'=>Q' t')⟩
  obtain⟨o,eo,ep⟩:=Aw ep
  rw [gp] at eo
  obtain⟨y0,ef,ep⟩:=Aw ep
  obtain⟨h1',q',R'⟩:=wr B' y' g1' le ry
  obtain⟨hp',q2,st'⟩:=back B' _ h1' σ' le (R' o eo (by rw [ef];rfl)) ep
  exact⟨hp',q2.trans (by rw [←List.append_assoc];exact q'.append_right h2),st'⟩
 | .at_ p j,e,x,m,g=>by
  refine Ck m fun value slice pos m=>?_
  obtain⟨X,gp,g⟩:=Aw g
  obtain⟨i,gj,g⟩:=Aw g
  obtain⟨V,⟨h1,h2,pp,R,back⟩,ev⟩:=Ak fr S st ok I (AB m) gp
  obtain⟨ns,evj⟩:=aD fr (AA m) st gj
  obtain⟨u,g1,g2,rd,q,r1,wr⟩:=Sj (w:=w) I (Pq pp) R g
  refine⟨u,⟨g1,g2++h2,Qq pp q,r1,fun B' y' g1' σ' le ry ep=>?_⟩,fun hx A s Q E es Q'=>Oe ns (ev (Pw g) A s _ E es fun t=>?_)⟩
  ·obtain⟨l,eo,ep⟩:=Aw ep
   rw [gp] at eo
   rw [gj] at ep
   obtain⟨h1',q',R'⟩:=wr B' y' g1' le ry
   obtain⟨hp',q2,st'⟩:=back B' _ h1' σ' le (R' l eo) ep
   exact⟨hp',q2.trans (by rw [←List.append_assoc];exact q'.append_right h2),st'⟩
  ·cases es
   exact evj A F _ _ E I fun t' t''=>rd A _ Q E _ rfl (Q' _)
structure J4 (n:Nat)(A:Around):Prop where
 handled:A.handled=none
 depth:A.depth+3*n≤900
 units:A.units+30*n≤9000
structure cT (n:Nat)(A:Around):Prop where
 handled:A.handled=none
 depth:A.depth+3*n≤902
 units:A.units+30*n≤9025
theorem J4.f {n:Nat}{A:Around}(a:J4 n A):cT n A:=⟨a.handled,by have:=a.depth;lia,by have:=a.units;lia⟩
theorem jB {B:PM}{x:V}{v:Value}{hp R:HP}{h:Heap}(r:RV T.toTab B x v hp)(I:Inv B h (hp++R)):∃B',B.le B'∧RV T.toTab B' (frz x) v []∧Inv B' h R:=
 ⟨R9 B hp,Cy I.left,r.frz (Cy I.left) (DS I.left),I.freeze⟩
theorem VT {x:V}{Kx:V→Prop}(q:Cq x Kx):nh (frz x)=true∧Kx (frz x):=by
 cases x with
 | lst o l=>cases o <;> exact⟨rfl,q⟩
 | dct o l=>cases o <;> exact⟨rfl,q⟩
 | obj o c l=>cases o <;> exact⟨rfl,q⟩
 | _=>first | exact q.elim | exact⟨rfl,q⟩
inductive iG (T:Tab)(B:PM)(Kx:V→Prop)(v:Value)(h:Heap)(R:HP):Prop
 | mk (B':PM) (x:V) (le:B.le B') (k:Kx x) (nx:nh x=true) (r:RV T B' x v []) (I:Inv B' h R)
theorem YB {B:PM}{x:V}{v:Value}{hp R:HP}{h:Heap}{Kx:V→Prop}(q:Cq x Kx)(r:RV T.toTab B x v hp)(I:Inv B h (hp++R)):iG T.toTab B Kx v h R:=by
 have z:=VT q
 exact⟨R9 B hp,frz x,Cy I.left,z.2,z.1,r.frz (Cy I.left) (DS I.left),I.freeze⟩
inductive Rd (T:Tabs)(σ:List V)(p:Pt)(Kx:V→List V→Prop):Prop
 | fz (x:V) (g:get T σ p=some x) (hx:nh x=true) (ez:fz x=true) (k:Kx x σ)
 | put (x:V) (g:get T σ p=some x) (hx:nh x=true) (σ':List V) (ep:put T σ p (frz x)=some σ') (k:Kx (frz x) σ')
theorem P6 {σ:List V}{p:Pt}{x:V}{Kx:V→List V→Prop}(g:get T σ p=some x)(hx:nh x=true)(q:AI (put T σ p (frz x)) (Kx (frz x))):Rd T σ p Kx:=by
 obtain⟨σ',e,k⟩:=AF q
 exact .put x g hx σ' e k
theorem Lq {σ:List V}{p:Pt}{Kx:V→List V→Prop}(q:Xf T σ p Kx):Rd T σ p Kx:=by
 obtain⟨x,g,q⟩:=AF q
 cases x with
 | lst o l=>cases o <;> first | exact P6 g rfl q | exact .fz _ g rfl rfl q
 | dct o l=>cases o <;> first | exact P6 g rfl q | exact .fz _ g rfl rfl q
 | obj o c l=>cases o <;> first | exact P6 g rfl q | exact .fz _ g rfl rfl q
 | _=>first | exact q.elim | exact .fz _ g rfl rfl q
noncomputable def Ji {nm:Nat→Option Str}{pins:List Nat}(fr:A8 w T env nm pins)(B:PM)(F:HP)(s:Shared)(Kx:V→List V→Prop)(Q:Value→Shared→Prop):Prop:=
 ∀B' x σ' h1 h2 v s',B.le B'→Kx x σ'→RV T.toTab B' x v h1→fr.ST B' σ' h2→Inv B' s'.heap (h1++(h2++F))→AO s s'→Q v s'
noncomputable def AK (Φ:Nat→List V→(V→List V→Prop)→Prop)(K:Frag)(n:Nat){nm:Nat→Option Str}{pins:List Nat}(fr:A8 w T env nm pins)(x:E)(e:Expr):Prop:=
 ∀(Kx:V→List V→Prop) (B:PM) (σ:List V) (hp F:HP) (s:Shared) (A:Around) (Q:Value→Shared→Prop) (Er:Value→Shared→Prop),
  WE T Φ x σ Kx→fr.ST B σ hp→Bk K B→Inv B s.heap (hp++F)→J4 n A→Ji fr B F s Kx Q→wpAny (model pw w) A (eval e env) Q Er s
theorem Ag {hp h1 h2 F:HP}(p:hp.Perm (h1++h2)):(hp++F).Perm (h1++(h2++F)):=by rw [←List.append_assoc];exact p.append_right F
theorem Yi {x:V}{f:Bool→Prop}(q:Dp x f):∃b,x=.bool b:=Oa (M:=fun x=>∃b,x=.bool b) q fun b _=>⟨b,rfl⟩
inductive S3 (f:Bool→Prop):Value→HP→Prop
 | mk (b:Bool) (h:f b):S3 f (.bool b) []
theorem GW {B:PM}{f:Bool→Prop}{x:V}{v:Value}{hp:HP}(W:Dp x f):RV T.toTab B x v hp→S3 f v hp:=Oa (M:=fun x=>RV T.toTab B x v hp→_) W fun b h r=>by cases r;exact⟨b,h⟩
inductive XS (f:Int→Prop):Value→HP→Prop
 | mk (i:Int) (t:Tok) (h:f i):XS f (.int i t) []
theorem AZ {B:PM}{f:Int→Prop}{x:V}{v:Value}{hp:HP}(W:BM x f):RV T.toTab B x v hp→XS f v hp:=Q4 (M:=fun x=>RV T.toTab B x v hp→_) W fun b h r=>by cases r;exact⟨b,_,h⟩
inductive W8 (f:List Nat→Prop):Value→HP→Prop
 | mk (x:List Nat) (t:Tok) (h:f x):W8 f (.str ⟨x.toArray⟩ t) []
theorem IZ {B:PM}{f:List Nat→Prop}{x:V}{v:Value}{hp:HP}(W:R4 x f):RV T.toTab B x v hp→W8 f v hp:=VI (M:=fun x=>RV T.toTab B x v hp→_) W fun b h r=>by cases r;exact⟨b,_,h⟩
inductive Qc (f:List Int→Prop):Value→HP→Prop
 | mk (b:Array UInt8) (t:Tok) (h:f (b.toList.map (fun u=>(u.toNat:Int)))):Qc f (.bytes b t) []
theorem G8 {B:PM}{f:List Int→Prop}{x:V}{v:Value}{hp:HP}(W:KH x f):RV T.toTab B x v hp→Qc f v hp:=Rj (M:=fun x=>RV T.toTab B x v hp→_) W fun l h r=>by
 obtain⟨b,t,e⟩:=r;exact⟨b,t,e▸h⟩
inductive LstAt (T:Tab)(B:PM)(f:O→List V→Prop):Value→Prop
 | mk (o:O) (l:List V) (h:f o l) (z:l.length≤sizeLine) (a:Addr) (vs:Array Value) (n:Nat) (ba:B a=some (AD vs n)) (rl:RL T B l vs.toList []):LstAt T B f (.ref a)
theorem Cg {B:PM}{f:O→List V→Prop}{x:V}{v:Value}(W:GM x f):RV T.toTab B x v []→LstAt T.toTab B f v:=Ij (M:=fun x=>RV T.toTab B x v []→_) W fun o l h r=>by
 obtain⟨z,a,vs,n,h1,ow,rl⟩:=r
 cases o with
 | fr=>exact⟨.fr,l,h,z,a,vs,n,ow.2.2,ow.2.1▸rl⟩
 | sh=>exact nomatch ow.1
 | dp=>exact nomatch (show []=_ from ow)
inductive TupAt (T:Tab)(B:PM)(f:List V→Prop):Value→HP→Prop
 | mk (l:List V) (h:f l) (z:l.length≤sizeLine) (a:Addr) (vs:Array Value) (n:Nat) (ba:B a=some (Bu vs n)) (rl:RL T B l vs.toList []):TupAt T B f (.ref a) []
theorem Fx {B:PM}{f:List V→Prop}{x:V}{v:Value}{hp:HP}(W:P3 x f):RV T.toTab B x v hp→TupAt T.toTab B f v hp:=U5 (M:=fun x=>RV T.toTab B x v hp→_) W fun l h r=>by
 obtain⟨z,a,vs,n,ba,rl⟩:=r;exact⟨l,h,z,a,vs,n,ba,rl⟩
inductive Sf (T:Tab)(B:PM)(f:Bool→List (Int×V)→Prop):Value→Prop
 | mk (o:Bool) (l:List (Int×V)) (h:f o l) (z:l.length≤sizeLine) (nd:(l.map (·.1)).Nodup) (a:Addr) (es:Array DictEntry) (n:Nat) (ba:B a=some (AV es n)) (rd:RD T B l es.toList):Sf T B f (.ref a)
theorem Mz {B:PM}{f:Bool→List (Int×V)→Prop}{x:V}{v:Value}(W:MP x f):RV T.toTab B x v []→Sf T.toTab B f v:=QY (M:=fun x=>RV T.toTab B x v []→_) W fun o l h r=>by
 obtain⟨a,es,n,ow,rd,nd,z⟩:=r
 rw [List.length_map] at z
 cases o with
 | false=>exact⟨false,l,h,z,nd,a,es,n,ow.2,rd⟩
 | true=>exact nomatch (show []=_ from ow)
theorem BB (s:Shared)(t:Nat):AO s { s with toks:=t }:=⟨rfl,rfl⟩
section
variable {Φ:Nat→List V→(V→List V→Prop)→Prop}{n:Nat}{nm:Nat→Option Str}{pins:List Nat}{fr:A8 w T env nm pins}
theorem WO (i:Int)(k pos):AK Φ K n fr (.int i) (.Constant (.int i) k pos):=fun Kx B σ hp F s A Q Er W st ok I a post=>by
 exact wpAny_Constant_int (post B (.int i) σ [] hp _ _ (PM.le.refl B) W ⟨_⟩ st I (BB _ _))
theorem TP (b:Bool)(k pos):AK Φ K n fr (.bool b) (.Constant (.bool b) k pos):=fun Kx B σ hp F s A Q Er W st ok I a post=>by
 exact wpAny_Constant_bool (post B (.bool b) σ [] hp _ _ (PM.le.refl B) W ⟨⟩ st I (AO.refl _))
theorem TK (k pos):AK Φ K n fr .none (.Constant .none k pos):=fun Kx B σ hp F s A Q Er W st ok I a post=>by
 exact wpAny_Constant_none (post B .none σ [] hp _ _ (PM.le.refl B) W ⟨⟩ st I (AO.refl _))
theorem Vx (x:List Nat)(k pos):AK Φ K n fr (.str x) (.Constant (.str ⟨x.toArray⟩) k pos):=fun Kx B σ hp F s A Q Er W st ok I a post=>by
 exact wpAny_Constant_str (post B (.str x) σ [] hp _ _ (PM.le.refl B) W ⟨_⟩ st I (BB _ _))
theorem UJ (Sa:Ac T K){p:Pt}{e:Expr}(m:mP T nm p e=true):AK Φ K n fr (.rd p) e:=fun Kx B σ hp F s A Q Er W st ok I a post=>by
 have fin:∀{x},get T σ p=some x→nh x=true→(∀v,dc T fr.ST B σ hp p x v→∀t,Q v { s with toks:=t })→wpAny (model pw w) A (eval e env) Q Er s:=fun g hx q=>by
  obtain⟨v,foc,ev⟩:=Ak fr Sa st ok I m g
  exact ev hx A s Q Er rfl (q v foc)
 rcases Lq W with ⟨x,g,hx,ez,kx⟩ | ⟨x,g,hx,σ',ep,kx⟩
 ·refine fin g hx fun v ⟨h1,h2,pp,r,back⟩ t=>?_
  have e1:=RV.fz_nil r ez
  subst e1
  exact post B x σ [] hp v _ (PM.le.refl B) kx r st I (BB _ _)
 ·refine fin g hx fun v ⟨h1,h2,pp,r,back⟩ t=>?_
  have I2:Inv B s.heap (h1++(h2++F)):=I.perm (Ag pp)
  have le:=Cy I2.left
  obtain⟨hp',q,st'⟩:=back _ _ [] σ' le (r.frz le (DS I2.left)) ep
  exact post _ (frz x) σ' [] hp' v _ le kx (r.frz le (DS I2.left)) st' (I2.freeze.perm (q.symm.append_right F)) (BB _ _)
end
noncomputable def Zf:VR→Operator
 | .add=>.Add
 | .sub=>.Sub
 | .mul=>.Mult
 | .fdiv=>.FloorDiv
 | .mod=>.Mod
 | .pow=>.Pow
theorem FV {a:Int}(h:small a):Builtin.Int.intBits a≤64:=by
 unfold Builtin.Int.intBits
 by_cases z:a=0
 ·subst z;decide
 ·have z':a.natAbs≠0:=fun q=>z (Int.natAbs_eq_zero.mp q)
  have:(a==0)=false:=by simpa using z
  rw [this]
  simp only [Bool.false_eq_true,if_false]
  have:=(Nat.log2_lt z').mpr h
  lia
theorem MW {a b:Int}(h:small b):¬ (Builtin.divisionGoesByPylong a b)=true:=by
 unfold Builtin.divisionGoesByPylong
 intro q
 simp only [Bool.and_eq_true,decide_eq_true_eq] at q
 have q:=q.1
 by_cases z:b=0
 ·subst z;simp at q
 ·have z':b.natAbs≠0:=fun q=>z (Int.natAbs_eq_zero.mp q)
  have e:(b==0)=false:=by simpa using z
  rw [e] at q
  simp only [Bool.false_eq_true,if_false] at q
  have:=(Nat.log2_lt z').mpr h
  lia
theorem CV (h:Heap):h.get? h.objs.size=none:=Heap.get?_none_of_le (Nat.le_refl _)
theorem Eo (h:Heap)(o:Obj):∀a b,h.get? a=some b→(h.push o).get? a=some b:=fun _ _ e=>Heap.get?_push_of_some o e
theorem RL.app {B:PM}:∀{l m:List V} {vs us:List Value},RL T.toTab B l vs []→RL T.toTab B m us []→RL T.toTab B (l++m) (vs++us) []
 | [],m,vs,us,x,y=>by cases x;exact y
 | a::l,m,vs,us,x,y=>by
  obtain⟨v,vs',r1,r2⟩:=x.unN
  exact Qe.mk v _ [] [] r1 (RL.app r2 y)
theorem En {B:PM}{h:Heap}{R:HP}{l:List V}{vs:Array Value}(I:Inv B h R)(rl:RL T.toTab B l vs.toList [])(z:l.length≤sizeLine):
  ∃B',B.le B'∧RV T.toTab B' (.tup l) (.ref h.objs.size) []∧Inv B' (h.push (Bu vs 0)) R:=by
 have I1:=I.new (Eo h (Bu vs 0)) (CV h) (Heap.get?_push_size _ rfl)
 have I2:Inv B (h.push (Bu vs 0)) ([(h.objs.size,Bu vs 0)]++R):=I1
 refine⟨_,Cy I2.left,?_,I2.freeze⟩
 exact⟨z,_,vs,0,DS I2.left _ (.head _),RL.mono (Cy I2.left) rl⟩
theorem F8 {B:PM}{h:Heap}{R:HP}{l:List V}{vs:Array Value}(I:Inv B h R)(rl:RL T.toTab B l vs.toList [])(z:l.length≤sizeLine):
  ∃h1,RV T.toTab B (.lst .sh l) (.ref h.objs.size) h1∧Inv B (h.push (AD vs 0)) (h1++R):=by
 have I1:=I.new (Eo h (AD vs 0)) (CV h) (Heap.get?_push_size _ rfl)
 refine⟨[(h.objs.size,AD vs 0)],?_,I1⟩
 exact⟨z,_,vs,0,[],⟨rfl,rfl⟩,rl⟩
theorem BI {B:PM}{o:O}{l:List V}{v:Value}(r:RV T.toTab B (.lst o l) v []):LstAt T.toTab B (fun _ m=>m=l) v:=Cg (x:=.lst o l) rfl r
theorem Vp (a b:List Nat):(⟨a.toArray⟩:Str)++⟨b.toArray⟩=⟨(a++b).toArray⟩:=by
 show Str.append _ _=_
 simp [Str.append]
theorem str_len (a:List Nat):(⟨a.toArray⟩:Str).length=a.length:=by
 simp [Str.length]
noncomputable def Hf (w:World)(T:Tabs)(B:PM)(R:HP)(s:Shared)(Kx:V→Prop)(Q:Value→Shared→Prop):Prop:=
 ∀B' x h1 v s',B.le B'→Kx x→RV T.toTab B' x v h1→Inv B' s'.heap (h1++R)→AO s s'→Q v s'
theorem KS {o:VR}{P:Prop}(h:Qy o P):o=.add∧P:=by cases o <;> first | exact⟨rfl,h⟩ | exact h.elim
theorem Rz {a:Int}(h:small a):((Builtin.Int.intBits a:Nat):Int)≤64:=Int.ofNat_le.mpr (FV h)
theorem EL {a b:List V}(h:a.length+b.length≤16000000):(a++b).length≤sizeLine:=by rw [List.length_append,sizeLine_eq];exact Nat.le_trans h (by decide)
theorem Io {a b:List V}{vs us:Array Value}(e1:vs.toList.length=a.length)(e2:us.toList.length=b.length)(h:a.length+b.length≤16000000):vs.size+us.size≤sizeLine:=by
 rw [←Array.length_toList,←Array.length_toList,e1,e2,sizeLine_eq];exact Nat.le_trans h (by decide)
theorem SX {a:List V}{vs:Array Value}(e1:vs.toList.length=a.length)(e:vs.isEmpty=true):a=[]:=List.eq_nil_of_length_eq_zero (e1.symm.trans (by simpa using e))
theorem ZS {o:VR}{x y:V}{Kx:V→Prop}{B:PM}{v u:Value}{R:HP}{s:Shared}{A:Around}{Q:Value→Shared→Prop}{Er:Value→Shared→Prop}(q:aJ o x y Kx)(rx:RV T.toTab B x v [])(ry:RV T.toTab B y u [])
  (I:Inv B s.heap R) (post:Hf w T B R s Kx Q):wpAny (model pw w) A (binaryOp (Zf o) v u) Q Er s:=by
 have one:∀{c:Int},Kx (.int c)→∀t,Q (.int c t) { s with toks:=s.toks+1 }:=fun k t=>post B _ [] _ _ (PM.le.refl B) k ⟨_⟩ I (BB _ _)
 cases x with
 | int a=>
  obtain⟨t⟩:=rx
  obtain⟨b,t',q⟩:=AZ q ry
  cases o with
  | add=>exact PyProof.Rows.add_int (one q _)
  | sub=>exact PyProof.Rows.sub_int (one q _)
  | mul=>exact PyProof.Rows.mul_int (one q.2 _) (q.1.elim (fun h=>.of_left (FV h)) fun h=>.of_right (FV h))
  | fdiv=>exact AutoIntOps.floordiv_1 (by simpa using q.1.1) (MW q.1.2) (one q.2 _)
  | mod=>exact PyProof.Rows.mod_int q.1 (one q.2 _)
  | pow=>exact PyProof.Rows.pow_int q.1.2.1 (Int.le_trans (Int.mul_le_mul (Rz q.1.1) q.1.2.2 q.1.2.1 (by decide)) (by decide:(64*64:Int)≤_)) (one q.2 _)
 | str a=>
  obtain⟨t⟩:=rx
  obtain⟨b,t',q⟩:=IZ q ry
  obtain⟨e,q⟩:=KS q
  subst e
  exact PyProof.Rows.add_str (fun t'' tk=>post B (.str (a++b)) [] _ _ (PM.le.refl B) q.2 (by rw [Vp];exact⟨_⟩) I (BB _ _)) (by rw [str_len,str_len,sizeLine_eq];exact Nat.le_trans q.1 (by decide))
 | tup a=>
  obtain⟨z,ad,vs,n,ba,rl⟩:=rx
  obtain⟨b,q,z',ad',vs',n',ba',rl'⟩:=Fx q ry
  obtain⟨e,q⟩:=KS q
  subst e
  have len1:=rl.len
  have len2:=rl'.len
  obtain⟨B',le,r,I'⟩:=En (l:=a++b) (vs:=vs++vs') I (by rw [Array.toList_append];exact rl.app rl') (EL q.1.2.2)
  refine P.add_tuple (I.base _ _ ba) (I.base _ _ ba') (fun e=>q.1.1 (SX len1 e)) (fun e=>q.1.2.1 (SX len2 e)) (post B' _ [] _ _ le q.2 r I' ⟨rfl,rfl⟩) ?_
  exact Io len1 len2 q.1.2.2
 | lst o1 a=>
  obtain⟨_,l,e,z,ad,vs,n,ba,rl⟩:=BI rx
  subst e
  obtain⟨_,b,q,z',ad',vs',n',ba',rl'⟩:=Cg q ry
  obtain⟨e,q⟩:=KS q
  subst e
  obtain⟨h1,r,I'⟩:=F8 (l:=l++b) (vs:=vs++vs') I (by rw [Array.toList_append];exact rl.app rl') (EL q.1)
  exact P.add_list (I.base _ _ ba) (I.base _ _ ba') (post B _ h1 _ _ (PM.le.refl B) q.2 r I' ⟨rfl,rfl⟩) (Io rl.len rl'.len q.1)
 | _=>exact q.elim
section
variable {Φ:Nat→List V→(V→List V→Prop)→Prop}{n:Nat}{nm:Nat→Option Str}{pins:List Nat}{fr:A8 w T env nm pins}
theorem ch (F:HP):([]:HP)++F=F:=rfl
theorem AK.fz {x:E}{e:Expr}(h:AK Φ K n fr x e){Kx:V→List V→Prop}{B:PM}{σ:List V}{hp F:HP}{s:Shared}{A:Around}{Q:Value→Shared→Prop}{Er:Value→Shared→Prop}
  (W:WE T Φ x σ fun x σ=>Cq x fun x=>Kx x σ) (st:fr.ST B σ hp) (ok:Bk K B) (I:Inv B s.heap (hp++F)) (a:J4 n A)
  (k:∀B' x σ' hp' v s',B.le B'→Kx x σ'→nh x=true→RV T.toTab B' x v []→fr.ST B' σ' hp'→Bk K B'→Inv B' s'.heap (hp'++F)→AO s s'→Q v s'):wpAny (model pw w) A (eval e env) Q Er s:=by
 refine h _ B σ hp F s A Q Er W st ok I a fun B' x' σ' h1 h2 v s' le q r st' I' rs=>?_
 obtain⟨B2,x2,le2,kx,hx,r2,I2⟩:=YB q r I'
 exact k B2 x2 σ' h2 v s' (le.trans le2) kx hx r2 (fr.mono le2 st') (ok.mono (le.trans le2)) I2 rs
theorem AK.as {x:E}{e:Expr}(h:AK Φ K n fr x e){Kx:V→List V→Prop}{B:PM}{σ:List V}{hp F:HP}{s:Shared}{A:Around}{Q:Value→Shared→Prop}{Er:Value→Shared→Prop}
  (W:WE T Φ x σ Kx) (st:fr.ST B σ hp) (ok:Bk K B) (I:Inv B s.heap (hp++F)) (a:J4 n A)
  (k:∀B' x σ' h1 hp' v s',B.le B'→Kx x σ'→RV T.toTab B' x v h1→fr.ST B' σ' hp'→Bk K B'→Inv B' s'.heap (h1++(hp'++F))→AO s s'→Q v s'):wpAny (model pw w) A (eval e env) Q Er s:=
 h _ B σ hp F s A Q Er W st ok I a fun B' x' σ' h1 h2 v s' le q r st' I' rs=>k B' x' σ' h1 h2 v s' le q r st' (ok.mono le) I' rs
theorem Ji.weak {B B1:PM}{F:HP}{s s1:Shared}{Kx:V→List V→Prop}{Q:Value→Shared→Prop}(p:Ji fr B F s Kx Q)(le:B.le B1)(r:AO s s1):Ji fr B1 F s1 Kx Q:=
 fun B' x σ' h1 h2 v s' l q rv st I rs=>p B' x σ' h1 h2 v s' (le.trans l) q rv st I (r.trans rs)
theorem Ji.toV {B:PM}{F hp:HP}{s:Shared}{σ:List V}{Kx:V→List V→Prop}{Q:Value→Shared→Prop}(p:Ji fr B F s Kx Q)(st:fr.ST B σ hp):Hf w T B (hp++F) s (fun x=>Kx x σ) Q:=
 fun B' x h1 v s' le q r I rs=>p B' x σ h1 hp v s' le q r (fr.mono le st) I rs
theorem WM {o:VR}{x y:E}{l r:Expr}{pos:Pos}(hx:AK Φ K n fr x l)(hy:AK Φ K n fr y r):AK Φ K n fr (.bin o x y) (.BinOp l (Zf o) r pos):=fun Kx B σ hp F s A Q Er W st ok I a post=>by
 refine wpAny_BinOp (hx.fz W st ok I a fun B1 x1 σ1 hp1 v1 s1 le1 W1 nx r1 st1 ok1 I1 rs1=>?_)
 refine hy.fz W1 st1 ok1 I1 a fun B2 x2 σ2 hp2 v2 s2 le2 W2 nx2 r2 st2 ok2 I2 rs2=>?_
 exact ZS W2 (r1.mono le2) r2 I2 (((post.weak le1 rs1).weak le2 rs2).toV st2)
theorem RV.ofInt {B:PM}{i:Int}{t:Tok}:RV T.toTab B (.int i) (.int i t) []:=⟨_⟩
theorem RV.ofBool {B:PM}{i:Bool}:RV T.toTab B (.bool i) (.bool i) []:=⟨⟩
theorem RV.ofNone {B:PM}:RV T.toTab B .none .none []:=⟨⟩
theorem Wt {x:E}{l:Expr}{pos:Pos}(hx:AK Φ K n fr x l):AK Φ K n fr (.neg x) (.UnaryOp .USub l pos):=fun Kx B σ hp F s A Q Er W st ok I a post=>by
 refine wpAny_UnaryOp (hx.as W st ok I a fun B1 x1 σ1 h1 hp1 v1 s1 le1 W1 r1 st1 ok1 I1 rs1=>?_)
 obtain⟨i,t,W1⟩:=AZ W1 r1
 exact PyProof.Rows.neg_int (post B1 _ σ1 [] hp1 _ _ le1 W1 RV.ofInt st1 I1 (rs1.trans (BB _ _)))
theorem PO {i:Int}{k:Nat}{p pos:Pos}:AK Φ K n fr (.int (-i)) (.UnaryOp .USub (.Constant (.int i) k p) pos):=fun Kx B σ hp F s A Q Er W st ok I a post=>by
 exact wpAny_UnaryOp (wpAny_Constant_int (PyProof.Rows.neg_int (post B _ σ [] hp _ _ (PM.le.refl B) W RV.ofInt st I (BB _ _))))
end
end
section
open PySem PySem.W PyProof.Rows PySem.Calls PySem.SeqAt
open Hd (pw)
variable {w:World}{T:Tabs}{K:Frag}{env:Env}
theorem Qg {x:V}{i:Int}(h:vInt x=some i):x=.int i:=Q1 (M:=fun x=>x=.int i) h rfl
noncomputable def XP (f:V→V→Option Bool)(a b:List V)(j:Nat):Bool:=match a[j]?,b[j]? with
 | some x,some y=>(f x y).getD true
 | _,_=>true
inductive Yf (f:V→V→Option Bool)(a b:List V):Bool→Prop
 | mk (at_:∀j x y,a[j]?=some x→b[j]?=some y→f x y=some (XP f a b j)):Yf f a b ((List.range (min a.length b.length)).all (XP f a b)&&a.length==b.length)
theorem S7 {f:V→V→Option Bool}{x y:V}{a b:List V}{p:Bool}(e:f x y=some p):((List.range (min (x::a).length (y::b).length)).all (XP f (x::a) (y::b))&&(x::a).length==(y::b).length)=(p&&((List.range (min a.length b.length)).all (XP f a b)&&a.length==b.length)):=by
 rw [List.length_cons,List.length_cons,Nat.succ_min_succ,List.range_succ_eq_map,List.all_cons,List.all_map,Bool.and_assoc]
 show ((f x y).getD true&&(List.all _ (XP f a b)&&(a.length+1==b.length+1)))=_
 rw [e,show (a.length+1==b.length+1)=(a.length==b.length) by simp];rfl
theorem Eh {f:V→V→Option Bool}:∀{a b:List V} {r:Bool},HN f a b=some r→Yf f a b r
 | [],[],r,e=>by cases e;exact .mk nofun
 | [],y::b,r,e=>by cases e;exact .mk nofun
 | x::a,[],r,e=>by
  cases e
  have h:Yf f (x::a) [] _:=.mk fun _ _ _ _=>nofun
  rwa [List.length_nil,Nat.min_zero] at h
 | x::a,y::b,r,e=>by
  obtain⟨p,e1,e⟩:=Aw e
  obtain⟨q,e2,e⟩:=Aw e
  cases e
  obtain⟨h1⟩:=Eh e2
  rw [←S7 e1]
  refine .mk fun j x' y' hx hy=>?_
  cases j with
  | zero=>
   cases hx;cases hy
   show f x y=some ((f x y).getD true)
   rw [e1];rfl
  | succ j=>exact h1 j x' y' hx hy
inductive Tp (T:Tab)(B:PM)(v:Value):Option V→Prop
 | mk (x:V) (r:RV T B x v []):Tp T B v (some x)
theorem RL.get {B:PM}{l:List V}{vs:List Value}(r:RL T.toTab B l vs []){j:Nat}{v:Value}(h:vs[j]?=some v):Tp T.toTab B v l[j]?:=by
 have hj:=(List.getElem?_eq_some_iff.mp h).1
 rw [r.len] at hj
 obtain⟨u,h1,h2,e,p,r',-⟩:=r.at_ (List.getElem?_eq_getElem hj)
 cases h.symm.trans e
 rw [(EA p.symm.eq_nil).1] at r'
 rw [List.getElem?_eq_getElem hj]
 exact⟨_,r'⟩
inductive Vh (n:Nat):V→V→Bool→Prop
 | int (a b:Int):Vh n (.int a) (.int b) (decide (a=b))
 | tup (a b:List V) (r:Bool) (e:HN (Id n) a b=some r):Vh n (.tup a) (.tup b) r
 | lst (o p:O) (a b:List V) (r:Bool) (e:HN (Id n) a b=some r):Vh n (.lst o a) (.lst p b) r
theorem XC {n:Nat}{x y:V}{b:Bool}(e:Id (n+1) x y=some b):Vh n x y b:=by
 cases x with
 | int a=>cases y <;> first | exact nn e | (cases e;exact .int a _)
 | tup a=>cases y <;> first | exact nn e | exact .tup a _ _ e
 | lst o a=>cases y <;> first | exact nn e | exact .lst o _ a _ _ e
 | _=>exact nn e
theorem VA {vs us:Array Value}{m n:Nat}{o:Option Obj}(h:o=some (AD vs m))(h':o=some (AD us n)):vs=us:=by rw [h] at h';injection h' with q;injection q with _ _ q _;injection q
theorem Vk {vs us:Array Value}{m n:Nat}{o:Option Obj}(h:o=some (Bu vs m))(h':o=some (Bu us n)):vs=us:=by rw [h] at h';injection h' with q;injection q with _ _ q _;injection q
theorem YQ {vs:List Value}{j:Nat}(h:j < vs.length):∃v,vs[j]?=some v:=⟨_,List.getElem?_eq_getElem h⟩
theorem NN {B:PM}:∀(n:Nat) {x y:V} {b:Bool} {v:Value},Id n x y=some b→RV T.toTab B x v []→RV T.toTab B y v []→b=true
 | 0,_,_,_,_,e,_,_=>nn e
 | n+1,x,y,b,v,e,rx,ry=>by
  have lists:∀{a c:List V} {vs:List Value},HN (Id n) a c=some b→RL T.toTab B a vs []→RL T.toTab B c vs []→b=true:=by
   intro a c vs e r1 r2
   obtain⟨h1⟩:=Eh e
   have l1:=r1.len
   rw [←r2.len,←l1,beq_self_eq_true,Bool.and_true,List.all_eq_true]
   intro j hj
   have hj:=Nat.lt_of_lt_of_le (List.mem_range.mp hj) (Nat.min_le_left _ _)
   obtain⟨v',hv⟩:=YQ hj
   have g1:=r1.get hv
   have g2:=r2.get hv
   revert g1 g2
   cases hx:a[j]? with
   | none=>exact nofun
   | some x'=>
    cases hy:c[j]? with
    | none=>exact nofun
    | some y'=>
     intro ⟨_,rx'⟩ ⟨_,ry'⟩
     exact NN n (h1 j x' y' hx hy) rx' ry'
  cases XC e with
  | int a c=>cases rx;cases ry;exact decide_eq_true rfl
  | tup a c _ e=>cases rx with | mk z d vs m ba r1=>cases ry with | mk z' _ us m' ba' r2=>cases Vk ba ba';exact lists e r1 r2
  | lst o p a c _ e=>obtain⟨_,l,e1,z,d,vs,m,ba,r1⟩:=BI rx;cases BI ry with | mk _ l' e2 z' _ us m' ba' r2=>cases VA ba ba';subst e1 e2;exact lists e r1 r2
theorem DK {f:V→V→Option Bool}{a c:List V}{b:Bool}{vs us:Array Value}{B:PM}{P:Value→Value→Bool→Prop}(e:HN f a c=some b)(r1:RL T.toTab B a vs.toList [])(r2:RL T.toTab B c us.toList [])
  (k:∀{x y r v u},f x y=some r→RV T.toTab B x v []→RV T.toTab B y u []→P v u r):∀j (h1:j < vs.size) (h2:j < us.size),P vs[j] us[j] (XP f a c j):=by
 intro j h1 h2
 obtain⟨g⟩:=Eh e
 have g1:=r1.get (Array.getElem?_toList.trans (Array.getElem?_eq_getElem h1))
 have g2:=r2.get (Array.getElem?_toList.trans (Array.getElem?_eq_getElem h2))
 revert g1 g2
 cases hx:a[j]? with
 | none=>exact nofun
 | some x=>
  cases hy:c[j]? with
  | none=>exact nofun
  | some y=>
   intro ⟨_,rx⟩ ⟨_,ry⟩
   exact k (g j x y hx hy) rx ry
theorem F4 {f:V→V→Option Bool}{a c:List V}{b:Bool}{vs us:Array Value}{B:PM}(e:HN f a c=some b)(r1:RL T.toTab B a vs.toList [])(r2:RL T.toTab B c us.toList []):
  ((List.range (min vs.size us.size)).all (XP f a c)&&vs.size==us.size)=b:=by
 obtain⟨-⟩:=Eh e
 rw [←Array.length_toList,←Array.length_toList,r1.len,r2.len]
theorem J7 {f:V→V→Option Bool}{a c:List V}{b:Bool}{vs us:Array Value}{B:PM}(e:HN f a c=some b)(r1:RL T.toTab B a vs.toList [])(r2:RL T.toTab B c us.toList [])(z:vs.size=us.size):
  (List.range us.size).all (XP f a c)=b:=by
 have h:=F4 e r1 r2
 rwa [z,Nat.min_self,beq_self_eq_true,Bool.and_true] at h
theorem OC {f:V→V→Option Bool}{a c:List V}{b:Bool}{vs us:Array Value}{B:PM}(e:HN f a c=some b)(r1:RL T.toTab B a vs.toList [])(r2:RL T.toTab B c us.toList [])(z:¬ vs.size=us.size):false=b:=by
 have h:=F4 e r1 r2
 rwa [beq_false_of_ne z,Bool.and_false] at h
theorem jX {B:PM}{l:List V}{vs:Array Value}(r:RL T.toTab B l vs.toList [])(z:l.length≤sizeLine):vs.size < 2 ^ 62:=by
 rw [←Array.length_toList,r.len];rw [sizeLine_eq] at z;exact Nat.lt_of_le_of_lt z (by decide)
theorem UY {B:PM}{s:Shared}{R:HP}(I:Inv B s.heap R):∀(n:Nat) {x y:V} {b:Bool} {v u:Value} {A:Around},Id n x y=some b→RV T.toTab B x v []→RV T.toTab B y u []→A.units+n < cLine→EqAt A s v u b
 | 0,_,_,_,_,_,_,e,_,_,_=>nn e
 | n+1,x,y,b,v,u,A,e,rx,ry,hu=>by
  by_cases same:v=u
  ·subst same
   rw [NN _ e rx ry]
   exact EqAt.same v
  ·have sub:∀{x y r v u},Id n x y=some r→RV T.toTab B x v []→RV T.toTab B y u []→EqAt A.in1 s v u r:=fun e r1 r2=>UY I n e r1 r2 (show A.units+1+n < cLine by lia)
   have hu1:A.units < cLine:=by lia
   cases XC e with
   | int a c=>
    obtain⟨t⟩:=rx
    obtain⟨t'⟩:=ry
    exact (MeetsSeq.EqGives.int _ _ t t').at A s
   | tup a c _ e=>
    obtain⟨z,d,vs,m,ba,r1⟩:=rx
    obtain⟨z',d',us,m',ba',r2⟩:=ry
    have q:=RcAt.tuples (A:=A) (s:=s) ⟨_,I.base _ _ ba,rfl,_,rfl⟩ ⟨_,I.base _ _ ba',rfl,_,rfl⟩ hu1 (DK e r1 r2 sub)
    rw [F4 e r1 r2] at q
    exact EqAt.of_refs (fun z=>same (congrArg _ z)) q
   | lst o p a c _ e=>
    obtain⟨_,l,e1,z,d,vs,m,ba,r1⟩:=BI rx
    obtain⟨_,l',e2,z',d',us,m',ba',r2⟩:=BI ry
    subst e1 e2
    by_cases z:vs.size=us.size
    ·have q:=RcAt.lists (A:=A) (s:=s) ⟨_,I.base _ _ ba,rfl,_,rfl⟩ ⟨_,I.base _ _ ba',rfl,_,rfl⟩ z hu1 (DK e r1 r2 sub)
     rw [z,J7 e r1 r2 z] at q
     exact EqAt.of_refs (fun z=>same (congrArg _ z)) q
    ·have q:=RcAt.lists_lengths (A:=A) (s:=s) (l:=d) (b:=d') (items:=vs) (items2:=us) ⟨_,I.base _ _ ba,rfl,_,rfl⟩ ⟨_,I.base _ _ ba',rfl,_,rfl⟩ (by simpa using z) hu1
     rw [OC e r1 r2 z] at q
     exact EqAt.of_refs (fun z=>same (congrArg _ z)) q
noncomputable def Az:Nb→CmpOp
 | .eq=>.Eq
 | .ne=>.NotEq
 | .lt=>.Lt
 | .le=>.LtE
 | .gt=>.Gt
 | .ge=>.GtE
 | .inn=>.In
 | .nin=>.NotIn
theorem QU {a b:List Nat}:((⟨a.toArray⟩:Str)==⟨b.toArray⟩)=decide (a=b):=by
 by_cases h:a=b
 ·subst h;simp
 ·have:(⟨a.toArray⟩:Str)≠⟨b.toArray⟩:=fun e=>h (by injection e with e;simpa using e)
  simp [h,this]
theorem Gd {B:PM}{o:Bool}{l:List (Int×V)}{v:Value}(r:RV T.toTab B (.dct o l) v []):Sf T.toTab B (fun _ m=>m=l) v:=Mz (x:=.dct o l) rfl r
inductive Look (T:Tab)(B:PM):Option V→Option Value→Prop
 | some (x:V) (v:Value) (r:RV T B x v []):Look T B (some x) (some v)
 | none:Look T B none none
theorem RD.look {B:PM}:∀{l:List (Int×V)} {es:List DictEntry},RD T.toTab B l es→∀k,Look T.toTab B (Du l k) ((es.find? (fun e=>Value.isInt k e.key)).map (·.val))
 | [],es,r,k=>by
  cases r;exact .none
 | (i,x)::l,es,r,k=>by
  obtain⟨t,v,es',rx,rl⟩:=r
  have ih:=RD.look rl k
  rw [VC,List.find?_cons]
  by_cases h:i=k
  ·subst h
   rw [if_pos rfl,show Value.isInt i (Value.int i t)=true from beq_self_eq_true i]
   exact .some x v rx
  ·rw [if_neg h,show Value.isInt k (Value.int i t)=false from beq_false_of_ne fun z=>h z]
   exact ih
theorem RD.keys {B:PM}:∀{l:List (Int×V)} {es:List DictEntry},RD T.toTab B l es→∀e∈es,∃k t,e.key=.int k t∧e.hash=hashInt k
 | [],es,r,e,he=>by cases r;cases he
 | (i,x)::l,es,r,e,he=>by
  obtain⟨t,v,es',rx,rl⟩:=r
  rcases List.mem_cons.mp he with rfl | he
  ·exact⟨i,t,rfl,rfl⟩
  ·exact RD.keys rl e he
theorem EC (es:Array DictEntry)(k:Int):findBy Value.isInt es k=(es.toList.find? (fun e=>Value.isInt k e.key)).map (·.val):=by
 obtain⟨l⟩:=es
 simp [findBy]
theorem RD.mapOf (w:World){B:PM}{l:List (Int×V)}{es:Array DictEntry}{h:Heap}{a:Addr}{n:Nat}(r:RD T.toTab B l es.toList)(g:h.get? a=some (AV es n)):h.MapOf (intKind pw w) a (fun k=>findBy Value.isInt es k):=
 ⟨_,es,n,g,⟨rfl,rfl,rfl⟩,rfl,(fun e he=>by obtain⟨k,t,e1,e2⟩:=r.keys e (by simpa using he);exact⟨k,by show Value.isInt k e.key=true;rw [e1];simp [Value.isInt],e2⟩),fun _=>rfl⟩
theorem Look.has {B:PM}{a:Option V}{b:Option Value}(h:Look T.toTab B a b):b.isSome=a.isSome:=by cases h <;> rfl
theorem RD.has {B:PM}{l:List (Int×V)}{es:Array DictEntry}(r:RD T.toTab B l es.toList)(k:Int):(findBy Value.isInt es k).isSome=(Du l k).isSome:=by
 rw [EC];exact (r.look k).has
theorem GZ {B:PM}:∀{l:List V} {vs:List Value} {k:List Int},RL T.toTab B l vs []→Dc l=some k→IntsAre vs k
 | [],vs,k,r,e=>by
  cases r
  cases e;exact .nil
 | x::l,vs,k,r,e=>by
  obtain⟨v,vs',r1,r2⟩:=r.unN
  obtain⟨i,ei,e⟩:=Aw e
  cases Qg ei
  obtain⟨t⟩:=r1
  obtain⟨ks,q,e⟩:=Option.map_eq_some_iff.mp e
  exact e▸.cons _ _ (GZ r2 q)
theorem QV {o:Nb}{P:Prop}(h:Xr o P):o=.eq∧P:=by cases o <;> first | exact⟨rfl,h⟩ | exact h.elim
theorem TI (b c:Array UInt8):(b.toList==c.toList)=decide (b.toList.map (fun u=>(u.toNat:Int))=c.toList.map (fun u=>(u.toNat:Int))):=by
 by_cases h:b.toList=c.toList
 ·rw [h,beq_self_eq_true,decide_eq_true rfl]
 ·exact (beq_eq_false_iff_ne.mpr h).trans (decide_eq_false fun e=>h (List.map_inj_right (fun x y z=>UInt8.toNat_inj.mp (Int.ofNat.inj z)) |>.mp e)).symm
theorem Gq {o:Nb}{x y:V}{Kx:Bool→Prop}{B:PM}{v u:Value}{R:HP}{s:Shared}{n:Nat}{A:Around}{Q:Value→Shared→Prop}{Er:Value→Shared→Prop}(Sa:Ac T K)(ok:Bk K B)(a:J4 n A)(q:Uc o x y Kx)(rx:RV T.toTab B x v [])(ry:RV T.toTab B y u [])
  (I:Inv B s.heap R) (post:∀b t,Kx b→Q (.bool b) { s with toks:=t }):wpAny (model pw w) A (compareOp (Az o) v u) Q Er s:=by
 have room:A.units+70 < cLine:=by have:=a.units;show _ < 9900;lia
 have sub:∀{x y r v u},Id 59 x y=some r→RV T.toTab B x v []→RV T.toTab B y u []→EqAt A.in1 s v u r:=fun e r1 r2=>UY I 59 e r1 r2 (show A.units+1+59 < cLine by lia)
 have hu1:A.units < cLine:=by lia
 have fin:∀b,Kx b→Q (.bool b) s:=fun b=>post b s.toks
 cases x with
 | int i=>
  obtain⟨t⟩:=rx
  have ki:(intKind pw w).is i (.int i t)=true:=beq_self_eq_true i
  cases y with
  | int j=>
   obtain⟨t'⟩:=ry
   cases o with
   | lt=>exact lt_int (fin _ q)
   | le=>exact le_int (fin _ q)
   | gt=>exact gt_int (fin _ q)
   | ge=>exact ge_int (fin _ q)
   | eq=>exact PyProof.Rows.eq_int (fin _ q)
   | ne=>exact PyProof.Rows.ne_int (fin _ q)
   | _=>exact q.elim
  | dct p l=>
   obtain⟨_,l',e,z,nd,ad,es,m,ba,rd⟩:=Gd ry
   subst e
   have hs:(ad==sysModules)=false:=by
    cases qq:ad==sysModules with
    | false=>rfl
    | true=>cases beq_iff_eq.mp qq;exact (Sa.sysm B ok _ _ _ ba rd).elim
   cases o with
   | inn=>exact wpAny_in_of (knd:=intKind pw w) (k:=i) ki hs (rd.mapOf w (I.base _ _ ba)) (by rw [rd.has];exact post _ _ q)
   | nin=>exact wpAny_notIn_of (knd:=intKind pw w) (k:=i) ki hs (rd.mapOf w (I.base _ _ ba)) (by rw [rd.has];exact post _ _ q)
   | _=>exact q.elim
  | tup l=>
   obtain⟨k,ek,q⟩:=AF q
   obtain⟨z,ad,vs,m,ba,rl⟩:=ry
   cases o with
   | inn=>exact in_tuple_ints ⟨_,I.base _ _ ba,rfl,_,rfl⟩ (GZ rl ek) (fin _ q)
   | nin=>exact notin_tuple_ints ⟨_,I.base _ _ ba,rfl,_,rfl⟩ (GZ rl ek) (fin _ q)
   | _=>exact q.elim
  | _=>exact q.elim
 | str a=>
  obtain⟨t⟩:=rx
  obtain⟨b,t',q⟩:=IZ q ry
  cases o with
  | eq=>exact PyProof.Rows.eq_str (by rw [QU];exact fin _ q)
  | ne=>exact PyProof.Rows.ne_str (by rw [bne,QU];exact fin _ q)
  | _=>exact q.elim
 | bytes l=>
  obtain⟨b,t,hb⟩:=rx
  obtain⟨c,t',q⟩:=G8 q ry
  obtain⟨e,q⟩:=QV q
  subst e hb
  exact PySem.W.eq_bytes (by rw [TI];exact fin _ q)
 | bool a=>
  obtain⟨⟩:=rx
  obtain⟨b,q⟩:=GW q ry
  obtain⟨e,q⟩:=QV q
  subst e
  exact PyProof.Rows.eq_bool (fin _ q)
 | tup a=>
  obtain⟨z,d,vs,m,ba,r1⟩:=rx
  obtain⟨c,q,z',d',us,m',ba',r2⟩:=Fx q ry
  obtain⟨b,e,q⟩:=AF q
  cases o with
  | eq=>exact RcAt.tuples (A:=A) (s:=s) ⟨_,I.base _ _ ba,rfl,_,rfl⟩ ⟨_,I.base _ _ ba',rfl,_,rfl⟩ hu1 (DK e r1 r2 sub) _ w Er Q (by rw [F4 e r1 r2];exact fin _ q)
  | ne=>exact RcNeAt.tuples (A:=A) (s:=s) ⟨_,I.base _ _ ba,rfl,_,rfl⟩ ⟨_,I.base _ _ ba',rfl,_,rfl⟩ hu1 (DK e r1 r2 sub) _ w Er Q (by rw [F4 e r1 r2];exact fin _ q)
  | _=>exact q.elim
 | lst p a=>
  obtain⟨_,l,e1,z,d,vs,m,ba,r1⟩:=BI rx
  subst e1
  obtain⟨_,c,q,z',d',us,m',ba',r2⟩:=Cg q ry
  obtain⟨b,e,q⟩:=AF q
  by_cases zz:vs.size=us.size
  ·cases o with
   | eq=>exact RcAt.lists (A:=A) (s:=s) ⟨_,I.base _ _ ba,rfl,_,rfl⟩ ⟨_,I.base _ _ ba',rfl,_,rfl⟩ zz hu1 (DK e r1 r2 sub) _ w Er Q (by rw [zz,J7 e r1 r2 zz];exact fin _ q)
   | ne=>exact RcNeAt.lists (A:=A) (s:=s) ⟨_,I.base _ _ ba,rfl,_,rfl⟩ ⟨_,I.base _ _ ba',rfl,_,rfl⟩ zz hu1 (DK e r1 r2 sub) _ w Er Q (by rw [zz,J7 e r1 r2 zz];exact fin _ q)
   | _=>exact q.elim
  ·cases OC e r1 r2 zz
   cases o with
   | eq=>exact RcAt.lists_lengths (A:=A) (s:=s) (l:=d) (b:=d') (items:=vs) (items2:=us) ⟨_,I.base _ _ ba,rfl,_,rfl⟩ ⟨_,I.base _ _ ba',rfl,_,rfl⟩ (by simpa using zz) hu1 _ w Er Q (fin _ q)
   | ne=>exact RcNeAt.lists_lengths (A:=A) (s:=s) (l:=d) (b:=d') (items:=vs) (items2:=us) ⟨_,I.base _ _ ba,rfl,_,rfl⟩ ⟨_,I.base _ _ ba',rfl,_,rfl⟩ (by simpa using zz) hu1 _ w Er Q (fin _ q)
   | _=>exact q.elim
 | _=>exact q.elim
end
section
open PySem PySem.W PyProof.Rows PySem.Calls
open Hd (pw)
variable {w:World}{T:Tabs}{K:Frag}{env:Env}
noncomputable def Cf (Φ:Nat→List V→(V→List V→Prop)→Prop)(K:Frag)(n:Nat){nm:Nat→Option Str}{pins:List Nat}(fr:A8 w T env nm pins)(x:E)(e:Expr):Prop:=
 ∀(Kx:V→List V→Prop) (B:PM) (σ:List V) (hp F:HP) (s:Shared) (A:Around) (Q:Bool→Shared→Prop) (Er:Value→Shared→Prop),
  WE T Φ x σ Kx→(∀y σ,Kx y σ→∃b,y=.bool b)→fr.ST B σ hp→Bk K B→Inv B s.heap (hp++F)→J4 n A→
  (∀B' b σ' hp' s',B.le B'→Kx (.bool b) σ'→fr.ST B' σ' hp'→Bk K B'→Inv B' s'.heap (hp'++F)→AO s s'→Q b s')→wpAny (model pw w) A (isTrue e env (eval e env)) Q Er s
section
variable {Φ:Nat→List V→(V→List V→Prop)→Prop}{n:Nat}{nm:Nat→Option Str}{pins:List Nat}{fr:A8 w T env nm pins}
theorem Cf.plain {x:E}{e:Expr}(h:AK Φ K n fr x e)(he:∀whole,isTrue e env whole=(do let v ←whole;standAt e.pos;holding [v] (truthy v))):Cf Φ K n fr x e:=fun Kx B σ hp F s A Q Er W kb st ok I a post=>by
 refine wpAny_isTrue_value (h.as W st ok I a fun B1 x1 σ1 h1 hp1 v1 s1 le1 W1 r1 st1 ok1 I1 rs1=>?_) (he _)
 obtain⟨b,e⟩:=kb _ _ W1
 subst e
 obtain⟨⟩:=r1
 exact wpAny_truthy_bool (post B1 b σ1 hp1 s1 le1 W1 st1 ok1 I1 rs1)
theorem Vv (Sa:Ac T K){o:Nb}{x y:E}{l r:Expr}{pos:Pos}(hx:AK Φ K n fr x l)(hy:AK Φ K n fr y r)(hm:behindInMarks (Az o) r=false):AK Φ K n fr (.cmp o x y) (.Compare l [Az o] [r] pos):=fun Kx B σ hp F s A Q Er W st ok I a post=>by
 refine wpAny_Compare1 (hx.fz W st ok I a fun B1 x1 σ1 hp1 v1 s1 le1 W1 nx r1 st1 ok1 I1 rs1=>?_) hm
 refine hy.fz W1 st1 ok1 I1 a fun B2 x2 σ2 hp2 v2 s2 le2 W2 nx2 r2 st2 ok2 I2 rs2=>?_
 exact Gq Sa ok2 a W2 (r1.mono le2) r2 I2 fun b t kb=>post B2 (.bool b) σ2 [] hp2 _ _ (le1.trans le2) kb RV.ofBool st2 I2 (rs1.trans ⟨rs2.gens,rs2.os⟩)
theorem WJ (Sa:Ac T K){o:Nb}{x y:E}{l r:Expr}{pos:Pos}(hx:AK Φ K n fr x l)(hy:AK Φ K n fr y r)(hm:behindInMarks (Az o) r=false):Cf Φ K n fr (.cmp o x y) (.Compare l [Az o] [r] pos):=fun Kx B σ hp F s A Q Er W kb st ok I a post=>by
 refine wpAny_isTrue_Compare1 (hx.fz W st ok I a fun B1 x1 σ1 hp1 v1 s1 le1 W1 nx r1 st1 ok1 I1 rs1=>?_) hm
 refine hy.fz W1 st1 ok1 I1 a fun B2 x2 σ2 hp2 v2 s2 le2 W2 nx2 r2 st2 ok2 I2 rs2=>?_
 exact Gq Sa ok2 a W2 (r1.mono le2) r2 I2 fun b t kb=>wpAny_truthy_bool (post B2 b σ2 hp2 _ (le1.trans le2) kb st2 ok2 I2 (rs1.trans ⟨rs2.gens,rs2.os⟩))
theorem WR {x:E}{l:Expr}{pos:Pos}(hx:AK Φ K n fr x l):AK Φ K n fr (.not x) (.UnaryOp .Not l pos):=fun Kx B σ hp F s A Q Er W st ok I a post=>by
 refine wpAny_UnaryOp (hx.as W st ok I a fun B1 x1 σ1 h1 hp1 v1 s1 le1 W1 r1 st1 ok1 I1 rs1=>?_)
 obtain⟨b,W1⟩:=GW W1 r1
 exact PySem.not_value (wpAny_truthy_bool (post B1 _ σ1 [] hp1 _ _ le1 W1 RV.ofBool st1 I1 rs1))
theorem Vn {x:E}{l:Expr}{pos:Pos}(hx:Cf Φ K n fr x l):Cf Φ K n fr (.not x) (.UnaryOp .Not l pos):=fun Kx B σ hp F s A Q Er W kb st ok I a post=>by
 refine wpAny_isTrue_Not (hx _ B σ hp F s A _ Er W (fun y σ q=>?_) st ok I a fun B1 b σ1 hp1 s1 le1 W1 st1 ok1 I1 rs1=>post B1 (!b) σ1 hp1 s1 le1 W1 st1 ok1 I1 rs1)
 exact Yi q
theorem VB {c x y:E}{t l r:Expr}{pos:Pos}(hc:Cf Φ K n fr c t)(hx:AK Φ K n fr x l)(hy:AK Φ K n fr y r):AK Φ K n fr (.ite c x y) (.IfExp t l r pos):=fun Kx B σ hp F s A Q Er W st ok I a post=>by
 refine wpAny_IfExp (hc _ B σ hp F s A _ Er W (fun y σ q=>?_) st ok I a fun B1 b σ1 hp1 s1 le1 W1 st1 ok1 I1 rs1=>?_)
 ·exact Yi q
 ·cases b with
  | true=>exact hx _ B1 σ1 hp1 F s1 A Q Er W1 st1 ok1 I1 a (post.weak le1 rs1)
  | false=>exact hy _ B1 σ1 hp1 F s1 A Q Er W1 st1 ok1 I1 a (post.weak le1 rs1)
noncomputable def Ev (Φ:Nat→List V→(V→List V→Prop)→Prop)(K:Frag)(n:Nat){nm:Nat→Option Str}{pins:List Nat}(fr:A8 w T env nm pins)(op:BoolOp)(x:E)(es:List Expr):Prop:=
 es≠[]∧∀(Kx:V→List V→Prop) (B:PM) (σ:List V) (hp F:HP) (s:Shared) (A:Around) (pos:Pos) (Q:Value→Shared→Prop) (Er:Value→Shared→Prop),
  WE T Φ x σ Kx→fr.ST B σ hp→Bk K B→Inv B s.heap (hp++F)→J4 n A→Ji fr B F s Kx Q→wpAny (model pw w) A (boolOp pos op (evalEach es env)) Q Er s
theorem Ev.one {op:BoolOp}{x:E}{e:Expr}(h:AK Φ K n fr x e):Ev Φ K n fr op x [e]:=⟨List.cons_ne_nil _ _,fun Kx B σ hp F s A pos Q Er W st ok I a post=>h Kx B σ hp F s A Q Er W st ok I a post⟩
theorem H0 {A:Around}{Er:Value→Shared→Prop}{s:Shared}{Q:Value→Shared→Prop}{op:BoolOp}{pos:Pos}{e:Expr}{es:List Expr}(ne:es≠[])
  (h:wpAny (model pw w) A (eval e env) (fun v s₁=>wpAny (model pw w) A (truthy v) (fun t s₂=>match op,t with | .And,false | .Or,true=>Q v s₂ | _,_=>wpAny (model pw w) A (boolOp pos op (evalEach es env)) Q Er s₂) Er s₁) Er s):
  wpAny (model pw w) A (boolOp pos op (evalEach (e::es) env)) Q Er s:=by
 cases es with
 | nil=>exact absurd rfl ne
 | cons e2 es=>
  show wpAny _ A (do
   let v ←eval e env
   standAt pos
   let t ←holding [v] (truthy v)
   match op,t with
   | .And,false | .Or,true=>pure v
   | _,_=>boolOp pos op (evalEach (e2::es) env)) Q Er s
  refine wpAny_bind (wpAny_mono h (fun v s₁ h₁=>wpAny_bind (wpAny_standAt (wpAny_bind (wpAny_holding (wpAny_mono h₁ (fun t s₂ h₂=>?_) fun _ _ x=>x))))) fun _ _ x=>x)
  cases op <;> cases t <;> first | exact wpAny_pure h₂ | exact h₂
theorem Ev.and {x y:E}{e:Expr}{es:List Expr}(hx:AK Φ K n fr x e)(hy:Ev Φ K n fr .And y es):Ev Φ K n fr .And (.and x y) (e::es):=⟨List.cons_ne_nil _ _,fun Kx B σ hp F s A pos Q Er W st ok I a post=>by
 refine H0 hy.1 (hx.as W st ok I a fun B1 x1 σ1 h1 hp1 v1 s1 le1 W1 r1 st1 ok1 I1 rs1=>?_)
 obtain⟨b,W1⟩:=GW W1 r1
 refine wpAny_truthy_bool ?_
 cases b with
 | false=>exact post B1 _ σ1 [] hp1 _ _ le1 W1 RV.ofBool st1 I1 rs1
 | true=>exact hy.2 _ B1 σ1 hp1 F s1 A pos Q Er W1 st1 ok1 I1 a (post.weak le1 rs1)⟩
theorem Ev.or {x y:E}{e:Expr}{es:List Expr}(hx:AK Φ K n fr x e)(hy:Ev Φ K n fr .Or y es):Ev Φ K n fr .Or (.or x y) (e::es):=⟨List.cons_ne_nil _ _,fun Kx B σ hp F s A pos Q Er W st ok I a post=>by
 refine H0 hy.1 (hx.as W st ok I a fun B1 x1 σ1 h1 hp1 v1 s1 le1 W1 r1 st1 ok1 I1 rs1=>?_)
 obtain⟨b,W1⟩:=GW W1 r1
 refine wpAny_truthy_bool ?_
 cases b with
 | true=>exact post B1 _ σ1 [] hp1 _ _ le1 W1 RV.ofBool st1 I1 rs1
 | false=>exact hy.2 _ B1 σ1 hp1 F s1 A pos Q Er W1 st1 ok1 I1 a (post.weak le1 rs1)⟩
theorem Ev.exp {op:BoolOp}{x:E}{es:List Expr}{pos:Pos}(h:Ev Φ K n fr op x es):AK Φ K n fr x (.BoolOp op es pos):=fun Kx B σ hp F s A Q Er W st ok I a post=>by
 rw [arm_eval_BoolOp]
 exact h.2 Kx B σ hp F s A pos Q Er W st ok I a post
noncomputable def Eu (Φ:Nat→List V→(V→List V→Prop)→Prop)(K:Frag)(n:Nat){nm:Nat→Option Str}{pins:List Nat}(fr:A8 w T env nm pins)(op:BoolOp)(x:E)(es:List Expr):Prop:=
 ∀(Kx:V→List V→Prop) (B:PM) (σ:List V) (hp F:HP) (s:Shared) (A:Around) (Q:Bool→Shared→Prop) (Er:Value→Shared→Prop),
  WE T Φ x σ Kx→(∀y σ,Kx y σ→∃b,y=.bool b)→fr.ST B σ hp→Bk K B→Inv B s.heap (hp++F)→J4 n A→
  (∀B' b σ' hp' s',B.le B'→Kx (.bool b) σ'→fr.ST B' σ' hp'→Bk K B'→Inv B' s'.heap (hp'++F)→AO s s'→Q b s')→wpAny (model pw w) A (allTrue op es env) Q Er s
theorem Da {A:Around}{Er:Value→Shared→Prop}{s:Shared}{Q:Bool→Shared→Prop}{op:BoolOp}{e:Expr}{es:List Expr}
  (h:wpAny (model pw w) A (isTrue e env (eval e env)) (fun t s₂=>match op,t with | .And,false=>Q false s₂ | .Or,true=>Q true s₂ | _,_=>wpAny (model pw w) A (allTrue op es env) Q Er s₂) Er s):
  wpAny (model pw w) A (allTrue op (e::es) env) Q Er s:=by
 show wpAny _ A (do match op,←isTrue e env (eval e env) with | .And,false=>pure false | .Or,true=>pure true | _,_=>allTrue op es env) Q Er s
 refine wpAny_bind (wpAny_mono h (fun t s₂ h₂=>?_) fun _ _ x=>x)
 cases op <;> cases t <;> first | exact wpAny_pure h₂ | exact h₂
theorem Eu.one {op:BoolOp}{x:E}{e:Expr}(h:Cf Φ K n fr x e):Eu Φ K n fr op x [e]:=fun Kx B σ hp F s A Q Er W kb st ok I a post=>by
 refine Da (h Kx B σ hp F s A _ Er W kb st ok I a fun B1 b σ1 hp1 s1 le1 W1 st1 ok1 I1 rs1=>?_)
 have:=post B1 b σ1 hp1 s1 le1 W1 st1 ok1 I1 rs1
 cases op <;> cases b <;> first | exact this | exact wpAny_pure this
theorem Eu.and {x y:E}{e:Expr}{es:List Expr}(hx:Cf Φ K n fr x e)(hy:Eu Φ K n fr .And y es):Eu Φ K n fr .And (.and x y) (e::es):=fun Kx B σ hp F s A Q Er W kb st ok I a post=>by
 refine Da (hx _ B σ hp F s A _ Er W (fun y σ q=>?_) st ok I a fun B1 b σ1 hp1 s1 le1 W1 st1 ok1 I1 rs1=>?_)
 ·exact Yi q
 ·cases b with
  | false=>exact post B1 false σ1 hp1 s1 le1 W1 st1 ok1 I1 rs1
  | true=>exact hy _ B1 σ1 hp1 F s1 A Q Er W1 kb st1 ok1 I1 a fun B2 b σ2 hp2 s2 le2 W2 st2 ok2 I2 rs2=>post B2 b σ2 hp2 s2 (le1.trans le2) W2 st2 ok2 I2 (rs1.trans rs2)
theorem Eu.or {x y:E}{e:Expr}{es:List Expr}(hx:Cf Φ K n fr x e)(hy:Eu Φ K n fr .Or y es):Eu Φ K n fr .Or (.or x y) (e::es):=fun Kx B σ hp F s A Q Er W kb st ok I a post=>by
 refine Da (hx _ B σ hp F s A _ Er W (fun y σ q=>?_) st ok I a fun B1 b σ1 hp1 s1 le1 W1 st1 ok1 I1 rs1=>?_)
 ·exact Yi q
 ·cases b with
  | true=>exact post B1 true σ1 hp1 s1 le1 W1 st1 ok1 I1 rs1
  | false=>exact hy _ B1 σ1 hp1 F s1 A Q Er W1 kb st1 ok1 I1 a fun B2 b σ2 hp2 s2 le2 W2 st2 ok2 I2 rs2=>post B2 b σ2 hp2 s2 (le1.trans le2) W2 st2 ok2 I2 (rs1.trans rs2)
theorem Eu.exp {op:BoolOp}{x:E}{es:List Expr}{pos:Pos}(h:Eu Φ K n fr op x es):Cf Φ K n fr x (.BoolOp op es pos):=fun Kx B σ hp F s A Q Er W kb st ok I a post=>
 wpAny_isTrue_BoolOp (h Kx B σ hp F s A Q Er W kb st ok I a post)
end
section
variable {Φ:Nat→List V→(V→List V→Prop)→Prop}{n:Nat}{nm:Nat→Option Str}{pins:List Nat}{fr:A8 w T env nm pins}
theorem TM (Sa:Ac T K){o o':Nb}{x y z:E}{l r r':Expr}{pos:Pos}(hx:AK Φ K n fr x l)(hy:AK Φ K n fr y r)(hz:AK Φ K n fr z r')(hm:behindInMarks (Az o') r'=false):
  AK Φ K n fr (.cmp2 o o' x y z) (.Compare l [Az o,Az o'] [r,r'] pos):=fun Kx B σ hp F s A Q Er W st ok I a post=>by
 have e:eval (.Compare l [Az o,Az o'] [r,r'] pos) env=(do
   let left ←eval l env
   let rv ←holding [left] (eval r env)
   standAt pos
   let c ←holding [left,rv] (compareOp (Az o) left rv)
   release [left,rv] [c]
   if ←holding [c,rv] (truthy c) then (do
    let rv' ←holding [rv] (markedBehindIn (Az o') r' (eval r' env))
    standAt pos
    operate [rv,rv'] (compareOp (Az o') rv rv')) else pure c):=rfl
 rw [e,markedBehindIn_of_false hm]
 refine wpAny_bind (hx.fz W st ok I a fun B1 x1 σ1 hp1 v1 s1 le1 W1 nx r1 st1 ok1 I1 rs1=>?_)
 refine wpAny_bind (wpAny_holding (hy.fz W1 st1 ok1 I1 a fun B2 x2 σ2 hp2 v2 s2 le2 W2 nx2 r2 st2 ok2 I2 rs2=>?_))
 refine wpAny_bind (wpAny_standAt (wpAny_bind (wpAny_holding (Gq Sa ok2 a W2 (r1.mono le2) r2 I2 fun b t kb=>?_))))
 refine wpAny_bind (wpAny_release (wpAny_bind (wpAny_holding (wpAny_truthy_bool ?_))))
 cases b with
 | false=>exact wpAny_pure (post B2 (.bool false) σ2 [] hp2 _ _ (le1.trans le2) kb RV.ofBool st2 I2 (rs1.trans ⟨rs2.gens,rs2.os⟩))
 | true=>
  refine wpAny_bind (wpAny_holding (hz.fz (s:={ s2 with toks:=t }) kb st2 ok2 I2 a fun B3 x3 σ3 hp3 v3 s3 le3 W3 nx3 r3 st3 Zq I3 rs3=>?_))
  refine wpAny_bind (wpAny_standAt (PySem.wpAny_operating ?_))
  exact Gq Sa Zq a W3 (r2.mono le3) r3 I3 fun b t kb=>post B3 (.bool b) σ3 [] hp3 _ _ ((le1.trans le2).trans le3) kb RV.ofBool st3 I3 ((rs1.trans (⟨rs2.gens,rs2.os⟩:AO s1 s2)).trans ⟨rs3.gens,rs3.os⟩)
noncomputable def j8:V→Bool
 | .none=>true
 | _=>false
theorem GY {B:PM}{x:V}{v:Value}{hp:HP}(r:RV T.toTab B x v hp)(h:nh x=true):(v==Value.none)=j8 x:=by
 cases x <;> first | exact r.elim | (cases r;rfl) | cases h
theorem NQ {x:V}{pos:Bool}{Kx:V→Prop}(q:Xh x pos Kx):nh x=true∧Kx (.bool (j8 x==pos)):=by
 cases x <;> first | exact q.elim | (cases pos <;> exact⟨rfl,q⟩)
theorem QF {x:E}{l:Expr}{pos:Bool}{p k p'}(hx:AK Φ K n fr x l):AK Φ K n fr (.isNone x pos) (.Compare l [if pos then .Is else .IsNot] [.Constant .none k p'] p):=fun Kx B σ hp F s A Q Er W st ok I a post=>by
 refine wpAny_Compare1 (hx.as W st ok I a fun B1 x1 σ1 h1 hp1 v1 s1 le1 W1 r1 st1 ok1 I1 rs1=>wpAny_Constant_none ?_) (by cases pos <;> rfl)
 have z:=NQ W1
 have fin:=post B1 _ σ1 [] hp1 _ s1 le1 z.2 RV.ofBool st1 I1.right rs1
 cases pos with
 | true=>exact PySem.is_none (by rw [GY r1 z.1];rwa [beq_true] at fin)
 | false=>exact PySem.isNot_none (by rw [GY r1 z.1];rwa [beq_false] at fin)
end
section
variable {Φ:Nat→List V→(V→List V→Prop)→Prop}{n:Nat}{nm:Nat→Option Str}{pins:List Nat}{fr:A8 w T env nm pins}
noncomputable def bj {nm:Nat→Option Str}{pins:List Nat}(fr:A8 w T env nm pins)(K:Frag)(m:Nat)(B:PM)(F:HP)(s:Shared)(Kx:List V→List V→Prop)(Q:List Value→Shared→Prop):Prop:=
 ∀B' xs σ' hp' vs s',B.le B'→Kx xs σ'→xs.length=m→RL T.toTab B' xs vs []→(∀x∈xs,nh x=true)→fr.ST B' σ' hp'→Bk K B'→Inv B' s'.heap (hp'++F)→AO s s'→Q vs s'
noncomputable def FX (Φ:Nat→List V→(V→List V→Prop)→Prop)(K:Frag)(n:Nat){nm:Nat→Option Str}{pins:List Nat}(fr:A8 w T env nm pins)(l:Es)(es:List Expr):Prop:=
 ∀(Kx:List V→List V→Prop) (B:PM) (σ:List V) (hp F:HP) (s:Shared) (A:Around) (pos:Pos) (Q:List Value→Shared→Prop) (Er:Value→Shared→Prop),
  Zn T Φ l σ Kx→fr.ST B σ hp→Bk K B→Inv B s.heap (hp++F)→J4 n A→bj fr K es.length B F s Kx Q→wpAny (model pw w) A (spliced (backTo pos (starEach es env))) Q Er s
theorem FX.nil:FX Φ K n fr .nil []:=fun Kx B σ hp F s A pos Q Er W st ok I a post=>
 wpAny_items_nil (post B [] σ hp [] s (PM.le.refl B) W rfl ⟨⟩ (fun x z=>nomatch z) st ok I (AO.refl s))
theorem DY {n m:Nat}(e:n=m)(h:m≤1000):n≤sizeLine:=by rw [e,sizeLine_eq];exact Nat.le_trans h (by decide)
theorem RL.consN {B:PM}{x:V}{v:Value}{l:List V}{vs:List Value}(r:RV T.toTab B x v [])(rl:RL T.toTab B l vs []):RL T.toTab B (x::l) (v::vs) []:=by
 exact Qe.mk v vs [] [] r rl
theorem FX.cons {x:E}{l:Es}{e:Expr}{es:List Expr}(hs:starEach (e::es) env=(false,eval e env)::starEach es env)(hx:AK Φ K n fr x e)(hl:FX Φ K n fr l es):FX Φ K n fr (.cons x l) (e::es):=fun Kx B σ hp F s A pos Q Er W st ok I a post=>by
 rw [hs]
 show wpAny _ A (spliced ((false,eval e env)::backTo pos (starEach es env))) Q Er s
 refine Calls.spliced_cons (hx.fz W st ok I a fun B1 x1 σ1 hp1 v1 s1 le1 W1 nx r1 st1 ok1 I1 rs1=>?_)
 refine hl _ B1 σ1 hp1 F s1 A pos _ Er W1 st1 ok1 I1 a fun B2 xs σ2 hp2 vs s2 le2 W2 ln rl nhs st2 ok2 I2 rs2=>?_
 refine post B2 (x1::xs) σ2 hp2 (v1::vs) s2 (le1.trans le2) W2 (by rw [List.length_cons,List.length_cons,ln]) (RL.consN (r1.mono le2) rl) (fun y hy=>?_) st2 ok2 I2 (rs1.trans rs2)
 rcases List.mem_cons.mp hy with rfl | hy
 ·exact nx
 ·exact nhs y hy
theorem Vd {l:Es}{es:List Expr}{k:Nat}{pos:Pos}(hl:FX Φ K n fr l es)(hz:es.length≤1000):AK Φ K n fr (.tup l) (.Tuple es k pos):=fun Kx B σ hp F s A Q Er W st ok I a post=>by
 refine wpAny_Tuple (hl _ B σ hp F s A pos _ Er W st ok I a fun B1 xs σ1 hp1 vs s1 le1 W1 ln rl nhs st1 ok1 I1 rs1=>?_)
 have ln2:=rl.len
 obtain⟨B2,le2,r,I2⟩:=En (vs:=vs.toArray) I1 rl (DY ln hz)
 exact⟨DY (ln2.trans ln) hz,post B2 _ σ1 [] hp1 _ _ (le1.trans le2) W1 r (fr.mono le2 st1) I2 ⟨rs1.gens,rs1.os⟩⟩
theorem Vc {l:Es}{es:List Expr}{pos:Pos}(hl:FX Φ K n fr l es)(hz:es.length≤1000):AK Φ K n fr (.lst l) (.List es pos):=fun Kx B σ hp F s A Q Er W st ok I a post=>by
 refine wpAny_List (hl _ B σ hp F s A pos _ Er W st ok I a fun B1 xs σ1 hp1 vs s1 le1 W1 ln rl nhs st1 ok1 I1 rs1=>?_)
 have ln2:=rl.len
 obtain⟨h1,r,I2⟩:=F8 (vs:=vs.toArray) I1 rl (DY ln hz)
 exact⟨DY (ln2.trans ln) hz,post B1 _ σ1 h1 hp1 _ _ le1 W1 r st1 I2 ⟨rs1.gens,rs1.os⟩⟩
end
theorem RD.map {B:PM}{l:List (Int×V)}{es:Array DictEntry}{h:Heap}{a:Addr}{n:Nat}(r:RD T.toTab B l es.toList)(g:h.get? a=some (AV es n)):h.IntMap a (fun k=>findBy Value.isInt es k):=
 ⟨_,es,n,g,rfl,rfl,(fun e he=>by obtain⟨k,t,e1,e2⟩:=r.keys e (by simpa using he);exact⟨k,t,e1,e2⟩),fun _=>rfl⟩
inductive di (l:List Nat)(i:Int)(y:Nat):Prop
 | mk (j:Nat) (hj:l[j]?=some y) (lt:j < l.length) (ix:II i j l.length)
theorem Wb {l:List Nat}{i:Int}{y:Nat}(e:bX l i=some y):di l i y:=by
 cases i with
 | ofNat k=>exact⟨k,e,(List.getElem?_eq_some_iff.mp e).1,.inl ⟨Int.natCast_nonneg k,rfl⟩⟩
 | negSucc k=>
  by_cases q:k+1≤l.length
  ·exact⟨_,(if_pos q).symm.trans e,(MQ q).1,(MQ q).2⟩
  ·exact nn ((if_neg q).symm.trans e)
theorem Tr {i:Int}{j n:Nat}(ix:II i j n)(l:j < n)(z:n < 1000000):(decide (i < -(2 ^ 63:Int))||decide (i≥2 ^ 63))=false:=by
 rw [Bool.or_eq_false_iff,decide_eq_false_iff_not,decide_eq_false_iff_not]
 have:=ix.rng l
 lia
theorem RL.at0 {B:PM}{l:List V}{vs:Array Value}(rl:RL T.toTab B l vs.toList []){k:Nat}{y:V}(hk:l[k]?=some y):∃v,vs.toList[k]?=some v∧RV T.toTab B y v []:=by
 obtain⟨v0,h1,h2,ev1,p,r1,-⟩:=rl.at_ hk
 exact⟨v0,ev1,(EA p.symm.eq_nil).1▸r1⟩
inductive XL (T:Tab)(B:PM)(y:V):Option Value→Prop
 | mk (v:Value) (r:RV T B y v []):XL T B y (.some v)
theorem Look.some_ {B:PM}{y:V}{a:Option V}{b:Option Value}(h:Look T.toTab B a b)(e:a=Option.some y):XL T.toTab B y b:=by
 subst e;obtain⟨_,v,r⟩:=h;exact⟨v,r⟩
theorem Y9 {x y:V}{Kx:V→Prop}{B:PM}{v u:Value}{R:HP}{s:Shared}{A:Around}{Q:Value→Shared→Prop}{Er:Value→Shared→Prop}{hu:HP}(q:Z4 x y Kx)(rx:RV T.toTab B x v [])(ry:RV T.toTab B y u hu)
  (I:Inv B s.heap (hu++R)) (post:Hf w T B R s Kx Q):SubscriptOn (model pw w) A v u Q Er s:=by
 obtain⟨i,t,q⟩:=AZ q ry
 have I:Inv B s.heap R:=I
 cases x with
 | lst o l=>
  obtain⟨y0,e,kx⟩:=AF q
  obtain⟨_,l',e1,zl,a,vs,n,ba,rl⟩:=BI rx
  subst e1
  obtain⟨k,hk,_,lt,ix⟩:=Mq e
  obtain⟨v0,ev1,r1⟩:=rl.at0 hk
  have ga:=I.base _ _ ba
  exact⟨"list",_,list_getitem_lookup,⟨_,ga,rfl⟩,item_list ⟨_,ga,rfl,_,rfl⟩ ((show vs.size=_ from rl.len)▸zl) ev1 ((show vs.size=_ from rl.len)▸ix) (post B _ [] _ _ (PM.le.refl B) kx r1 I (AO.refl _))⟩
 | tup l=>
  obtain⟨y0,e,kx⟩:=AF q
  obtain⟨zl,a,vs,n,ba,rl⟩:=rx
  obtain⟨k,hk,_,lt,ix⟩:=Mq e
  obtain⟨v0,ev1,r1⟩:=rl.at0 hk
  have ga:=I.base _ _ ba
  exact⟨"tuple",_,slot_tuple_getitem.lookup,⟨_,ga,rfl⟩,NI ⟨_,ga,rfl,_,rfl⟩ ((show vs.size=_ from rl.len)▸zl) ev1 ((show vs.size=_ from rl.len)▸ix) (post B _ [] _ _ (PM.le.refl B) kx r1 I (AO.refl _))⟩
 | dct o l=>
  obtain⟨y0,e,kx⟩:=AF q
  obtain⟨_,l',e1,zl,nd,a,es,n,ba,rd⟩:=Gd rx
  subst e1
  have lk:=(rd.look i).some_ e
  rw [←EC] at lk
  have ga:=I.base _ _ ba
  refine⟨"dict",_,PySem.slot_dict_getitem.lookup,⟨_,ga,rfl⟩,?_⟩
  cases ev:findBy Value.isInt es i with
  | none=>rw [ev] at lk;exact nomatch lk
  | some v0=>
   rw [ev] at lk
   obtain⟨_,r1⟩:=lk
   exact wpAny_getItem_intMap (rd.map ga) ev (post B _ [] _ _ (PM.le.refl B) kx r1 I (BB _ _))
 | str x0=>
  obtain⟨zs,q⟩:=q
  obtain⟨y0,e,kx⟩:=AF q
  obtain⟨j,hj,lt,ix⟩:=Wb e
  obtain⟨t'⟩:=rx
  refine⟨"str",_,PyProof.Rows.slot_str_getitem.lookup,typeIs_str _ _ _,?_⟩
  exact PyProof.Rows.getItem_str (Tr ix lt zs) (c:=y0) (by rw [str_len,ix.seq lt];simpa using hj) (post B (.str [y0]) [] _ _ (PM.le.refl B) kx ⟨_⟩ I (BB _ _))
 | _=>exact q.elim
section
variable {Φ:Nat→List V→(V→List V→Prop)→Prop}{n:Nat}{nm:Nat→Option Str}{pins:List Nat}{fr:A8 w T env nm pins}
theorem VO {x y:E}{l r:Expr}{pos:Pos}(hs:r.ctorIdx=26→False)(hx:AK Φ K n fr x l)(hy:AK Φ K n fr y r):AK Φ K n fr (.idx x y) (.Subscript l r pos):=fun Kx B σ hp F s A Q Er W st ok I a post=>by
 refine Oe hs (hx.fz W st ok I a fun B1 x1 σ1 hp1 v1 s1 le1 W1 nx r1 st1 ok1 I1 rs1=>?_)
 refine hy.as W1 st1 ok1 I1 a fun B2 x2 σ2 h2 hp2 v2 s2 le2 W2 r2 st2 ok2 I2 rs2=>?_
 exact Y9 W2 (r1.mono le2) r2 I2 (((post.weak le1 rs1).weak le2 rs2).toV st2)
end
inductive PB (o:Obj)(m:Str→Option Value):Prop
 | mk (es:Array DictEntry) (ep:Nat) (d:o.data=.dict es ep) (k:StrKeys es) (f:∀name,nsFind es name=m name)
theorem PB.at_ {h:Heap}{a:Addr}{o:Obj}{m}(x:PB o m)(g:h.get? a=some o):h.Ns a m:=by
 obtain⟨es,ep,e1,e2,e3⟩:=x
 exact⟨o,es,ep,g,e1,e2,e3⟩
theorem PB.of {h:Heap}{a:Addr}{m}(x:h.Ns a m):∃o,h.get? a=some o∧PB o m:=by
 obtain⟨o,es,ep,g,e1,e2,e3⟩:=x
 exact⟨o,g,es,ep,e1,e2,e3⟩
noncomputable def JI (T:Tabs)(B:PM)(m:Str→Option Value)(n:Str)(x:V)(hp:HP):Prop:=(x=.undef∧hp=[])∨∃v,m n=some v∧RV T.toTab B x v hp
inductive mo (R:V→HP→Prop)(S:List V→HP→Prop)(σ:List V)(hp:HP):Prop
 | mk (x:V) (σ':List V) (h1 h2:HP) (e:σ=x::σ') (eh:hp=h1++h2) (r:R x h1) (s:S σ' h2)
inductive oC (c:Addr)(v:Option Value)(S:HP→Prop)(hp:HP):Prop
 | mk (o:Obj) (hp':HP) (e:hp=(c,o)::hp') (d:o.data=.cell v) (s:S hp')
noncomputable def SL (T:Tabs)(B:PM)(m:Str→Option Value):List Str→List V→HP→Prop
 | [],σ,hp=>σ=[]∧hp=[]
 | n::ns,σ,hp=>mo (JI T B m n) (SL T B m ns) σ hp
noncomputable def CS (m:Str→Option Value):List (Str×Addr)→HP→Prop
 | [],hp=>hp=[]
 | (n,c)::r,hp=>oC c (m n) (CS m r) hp
theorem JI.mono {B B':PM}(hB:B.le B'){m n x hp}(s:JI T B m n x hp):JI T B' m n x hp:=by
 rcases s with s | ⟨v,e,r⟩
 ·exact .inl s
 ·exact .inr ⟨v,e,r.mono hB⟩
theorem SL.mono {B B':PM}(hB:B.le B'){m}:∀{ns σ hp},SL T B m ns σ hp→SL T B' m ns σ hp
 | [],_,_,s=>s
 | _::_,_,_,⟨x,σ',h1,h2,e1,e2,r,s⟩=>⟨x,σ',h1,h2,e1,e2,r.mono hB,SL.mono hB s⟩
theorem SL.congr {B:PM}{m m'}:∀{ns σ hp},(∀n∈ns,m n=m' n)→SL T B m ns σ hp→SL T B m' ns σ hp
 | [],_,_,_,s=>s
 | n::ns,_,_,h,⟨x,σ',h1,h2,e1,e2,r,s⟩=>by
  refine⟨x,σ',h1,h2,e1,e2,?_,SL.congr (fun k hk=>h k (.tail _ hk)) s⟩
  rcases r with r | ⟨v,e,r⟩
  ·exact .inl r
  ·exact .inr ⟨v,by rw [←h n (.head _)];exact e,r⟩
theorem CS.congr {m m'}:∀{cs hp},(∀p∈cs,m p.1=m' p.1)→CS m cs hp→CS m' cs hp
 | [],_,_,s=>s
 | (n,c)::r,_,h,⟨o,hp',e1,e2,s⟩=>⟨o,hp',e1,by rw [←h (n,c) (.head _)];exact e2,CS.congr (fun p hp=>h p (.tail _ hp)) s⟩
theorem Zl {p g1 g2 h:HP}(q:h.Perm (g1++g2)):(p++h).Perm (g1++(p++g2)):=AC q
inductive kW (T:Tabs)(B:PM)(m:Str→Option Value)(ns:List Str)(σ:List V)(hp:HP)(i:Nat)(x:V)(n:Str):Prop
 | mk (h1 h2:HP) (p:hp.Perm (h1++h2)) (r:JI T B m n x h1) (back:∀B' x' h1',B.le B'→JI T B' m n x' h1'→Upd (h1'++h2) (SL T B' m ns (σ.set i x')))
  (back2:∀B' m' x' h1',ns.Nodup→B.le B'→(∀k,k≠n→m k=m' k)→JI T B' m' n x' h1'→Upd (h1'++h2) (SL T B' m' ns (σ.set i x')))
inductive oE (m:Str→Option Value)(cs:List (Str×Addr))(hp:HP)(n:Str)(c:Addr):Prop
 | mk (o:Obj) (h2:HP) (p:hp.Perm ((c,o)::h2)) (d:o.data=.cell (m n)) (back:∀m' o',(cs.map (·.1)).Nodup→(∀k,k≠n→m k=m' k)→o'.data=.cell (m' n)→Upd ((c,o')::h2) (CS m' cs))
theorem SL.at_ {B:PM}{m}:∀{ns:List Str} {σ:List V} {hp:HP} {i:Nat} {x:V} {n:Str},SL T B m ns σ hp→σ[i]?=some x→ns[i]?=some n→
  kW T B m ns σ hp i x n
 | [],_,_,_,_,_,_,_,e=>by simp at e
 | k::ns,_,_,0,x,n,⟨x0,σ',h1,h2,e1,e2,r,s⟩,ex,en=>by
  subst e1 e2
  simp only [List.getElem?_cons_zero,Option.some.injEq] at ex en
  subst ex en
  refine⟨h1,h2,.refl _,r,fun B' x' h1' le r'=>⟨h1'++h2,.refl _,x',σ',h1',h2,rfl,rfl,r',s.mono le⟩,fun B' m' x' h1' nd le hm r'=>⟨h1'++h2,.refl _,x',σ',h1',h2,rfl,rfl,r',?_⟩⟩
  refine SL.congr (fun j hj=>hm j ?_) (s.mono le)
  rintro rfl
  exact (List.nodup_cons.mp nd).1 hj
 | k::ns,_,_,i+1,x,n,⟨x0,σ',h1,h2,e1,e2,r,s⟩,ex,en=>by
  subst e1 e2
  simp only [List.getElem?_cons_succ] at ex en
  obtain⟨g1,g2,p,r',back,back2⟩:=SL.at_ s ex en
  refine⟨g1,h1++g2,AC p,r',fun B' x' h1' le rx=>?_,fun B' m' x' h1' nd le hm rx=>?_⟩
  ·obtain⟨hp',p',s'⟩:=back B' x' h1' le rx
   exact⟨h1++hp',AC p',x0,σ'.set i x',h1,hp',rfl,rfl,r.mono le,s'⟩
  ·have nd':=List.nodup_cons.mp nd
   obtain⟨hp',p',s'⟩:=back2 B' m' x' h1' nd'.2 le hm rx
   refine⟨h1++hp',AC p',x0,σ'.set i x',h1,hp',rfl,rfl,?_,s'⟩
   have hk:k≠n:=by
    rintro rfl
    exact nd'.1 (List.mem_of_getElem? en)
   rcases r with r | ⟨v,e,r⟩
   ·exact .inl r
   ·exact .inr ⟨v,by rw [←hm k hk];exact e,r.mono le⟩
theorem CS.at_ {m}:∀{cs:List (Str×Addr)} {hp:HP} {n:Str} {c:Addr},CS m cs hp→cs.lookup n=some c→
  oE m cs hp n c
 | [],_,_,_,_,e=>by simp at e
 | (k,a)::r,_,n,c,⟨o,hp',e1,e2,s⟩,e=>by
  subst e1
  rw [List.lookup_cons] at e
  by_cases h:n=k
  ·subst h
   simp only [beq_self_eq_true,Option.some.injEq] at e
   subst e
   refine⟨o,hp',.refl _,e2,fun m' o' nd hm eo=>⟨(a,o')::hp',.refl _,o',hp',rfl,eo,?_⟩⟩
   rw [List.map_cons,List.nodup_cons] at nd
   refine CS.congr (fun p hp=>hm _ ?_) s
   intro e;exact nd.1 (List.mem_map.mpr ⟨p,hp,e⟩)
  ·have:(n==k)=false:=by simpa using h
   simp only [this] at e
   obtain⟨o1,h2,p,e3,back⟩:=CS.at_ s e
   refine⟨o1,(a,o)::h2,(List.Perm.cons _ p).trans (List.Perm.swap _ _ _),e3,fun m' o' nd hm eo=>?_⟩
   rw [List.map_cons,List.nodup_cons] at nd
   obtain⟨hp2,p2,s2⟩:=back m' o' nd.2 hm eo
   exact⟨(a,o)::hp2,(List.Perm.cons _ p2).trans (List.Perm.swap _ _ _),o,hp2,rfl,by rw [←hm k (fun e=>h e.symm)];exact e2,s2⟩
structure DW (env:Env)(ns:List Str)(isG:Str→Bool):Prop where
 hk:env.scope.kind=.function
 nd:ns.Nodup
 kinds:∀n∈ns,env.kindOf n=some .local∨(env.kindOf n=some .cell∧(env.cells.lookup n).isSome=true)
 cnd:(env.cells.map (·.1)).Nodup
 ck:∀p∈env.cells,env.kindOf p.1≠some .local
 gl:∀n,isG n=true→env.kindOf n=some .globalImplicit
 gs:env.globals=mainGlobals
 bs:env.builtins=builtinsNs
inductive Dl (T:Tabs)(env:Env)(ns:List Str)(pv:List (Nat×Value))(B:PM)(σ:List V)(hp:HP):Prop
 | mk (m ml:Str→Option Value) (ol:Obj) (cp vp:HP) (p:hp.Perm ((env.locals,ol)::(cp++vp))) (n:PB ol ml) (e:∀n,env.kindOf n=some .local→ml n=m n) (c:CS m env.cells cp) (s:SL T B m ns (σ.take ns.length) vp) (ex:∀x∈σ.drop ns.length,x=.undef)
  (pq:∀q∈pv,∃n,ns[q.1]?=some n∧m n=some q.2)
theorem P4 {x:Addr×Obj}{cp vp g1 g2 hp:HP}(p:hp.Perm (x::(cp++vp)))(q:vp.Perm (g1++g2)):hp.Perm (g1++(x::(cp++g2))):=by
 refine p.trans ?_
 have:((x::cp)++vp).Perm (g1++((x::cp)++g2)):=AC q
 exact this
end
section
open PySem PySem.W PyProof.Rows PySem.Calls
open Hd (pw)
variable {w:World}{T:Tabs}{K:Frag}{env:Env}{ns:List Str}{isG:Str→Bool}{pv:List (Nat×Value)}
theorem Dl.mono {B B':PM}{σ:List V}{hp:HP}(le:B.le B')(x:Dl T env ns pv B σ hp):Dl T env ns pv B' σ hp:=by
 obtain⟨m,ml,ol,cp,vp,p,n,e,c,s,ex0,pq⟩:=x
 exact⟨m,ml,ol,cp,vp,p,n,e,c,s.mono le,ex0,pq⟩
theorem Dl.perm {B:PM}{σ:List V}{hp hp':HP}(q:hp.Perm hp')(x:Dl T env ns pv B σ hp):Dl T env ns pv B σ hp':=by
 obtain⟨m,ml,ol,cp,vp,p,n,e,c,s,ex0,pq⟩:=x
 exact⟨m,ml,ol,cp,vp,q.symm.trans p,n,e,c,s,ex0,pq⟩
inductive kp (w:World)(T:Tabs)(env:Env)(ns:List Str)(pv:List (Nat×Value))(B:PM)(σ:List V)(hp:HP)(i:Nat)(x:V)(n:Str):Prop
 | mk (v:Value) (h1 h2:HP) (pin:∀u,(i,u)∈pv→v=u) (cel:∀c,env.cells.lookup n=some c→∃o,(c,o)∈hp∧o.data=.cell (some v)) (p:hp.Perm (h1++h2)) (r:RV T.toTab B x v h1)
  (ld:∀(A:Around) (F:HP) (s:Shared) (Q:Value→Shared→Prop) (E:Value→Shared→Prop),Inv B s.heap (hp++F)→Q v s→wpAny (model pw w) A (loadName env n) Q E s)
  (back:∀B' x' h1',B.le B'→RV T.toTab B' x' v h1'→Dl T env ns pv B' (σ.set i x') (h1'++h2)) (gone:Dl T env ns pv B (σ.set i .undef) h2)
theorem Dl.load {isG:Str→Bool}(V0:DW env ns isG){B:PM}{σ:List V}{hp:HP}{i:Nat}{x:V}{n:Str}(st:Dl T env ns pv B σ hp)(ex:σ[i]?=some x)(hx:x≠.undef)(en:ns[i]?=some n):
  kp w T env ns pv B σ hp i x n:=by
 obtain⟨m,ml,ol,cp,vp,p,no,e,c,s,ex0,pq⟩:=st
 have hi:=(List.getElem?_eq_some_iff.mp en).1
 have R9:(σ.take ns.length)[i]?=some x:=by rw [List.getElem?_take_of_lt hi];exact ex
 have dr:∀y,(σ.set i y).drop ns.length=σ.drop ns.length:=fun y=>List.drop_set_of_lt hi
 obtain⟨g1,g2,q,r,back,-⟩:=s.at_ R9 en
 rcases r with ⟨r,-⟩ | ⟨v,ev,r⟩
 ·exact absurd r hx
 refine⟨v,g1,(env.locals,ol)::(cp++g2),fun u hu=>?_,fun a ha=>?_,P4 p q,r,fun A F s0 Q E I q0=>?_,fun B' x' h1' le r'=>?_,?_⟩
 ·obtain⟨n',e1,e2⟩:=pq _ hu
  rw [en] at e1;cases e1
  rw [ev] at e2;exact Option.some.inj e2
 ·obtain⟨o,h2,pc,eo,-⟩:=c.at_ ha
  exact⟨o,p.mem_iff.mpr (.tail _ (List.mem_append_left _ (pc.mem_iff.mpr (.head _)))),by rw [eo,ev]⟩
 ·rcases V0.kinds n (List.mem_of_getElem? en) with hl | ⟨hl,hc⟩
  ·have g:=I.own (env.locals,ol) (List.mem_append_left _ (p.mem_iff.mpr (.head _)))
   exact wpAny_loadName_local V0.hk hl (no.at_ g) (by rw [e n hl];exact ev) q0
  ·obtain⟨a,ha⟩:=Option.isSome_iff_exists.mp hc
   obtain⟨o,h2,pc,eo,-⟩:=c.at_ ha
   have g:=I.own (a,o) (List.mem_append_left _ (p.mem_iff.mpr (.tail _ (List.mem_append_left _ (pc.mem_iff.mpr (.head _))))))
   exact wpAny_loadName_cell V0.hk hl ha ⟨o,g,by rw [eo,ev]⟩ q0
 ·obtain⟨vp',p',s'⟩:=back B' x' h1' le (.inr ⟨v,ev,r'⟩)
  exact⟨m,ml,ol,cp,vp',(P4 (List.Perm.refl ((env.locals,ol)::(cp++vp'))) p').symm,no,e,c,by rw [List.take_set];exact s',by rw [dr];exact ex0,pq⟩
 ·obtain⟨vp',p',s'⟩:=back B .undef [] (PM.le.refl B) (.inl ⟨rfl,rfl⟩)
  exact⟨m,ml,ol,cp,vp',(P4 (List.Perm.refl ((env.locals,ol)::(cp++vp'))) p').symm,no,e,c,by rw [List.take_set];exact s',by rw [dr];exact ex0,pq⟩
theorem SL.len {B:PM}{m:Str→Option Value}:∀{ns:List Str} {σ:List V} {hp:HP},SL T B m ns σ hp→σ.length=ns.length
 | [],_,_,s=>congrArg List.length s.1
 | k::ns,_,_,s=>by
  obtain⟨x,σ',h1,h2,e1,e2,r,s⟩:=s
  rw [e1]
  exact congrArg (·+1) s.len
theorem Dl.unpin {B:PM}{σ:List V}{hp:HP}{q:Nat×Value}(x:Dl T env ns (q::pv) B σ hp):Dl T env ns pv B σ hp:=by
 obtain⟨m,ml,ol,cp,vp,p,n,e,c,s,ex0,pq⟩:=x
 exact⟨m,ml,ol,cp,vp,p,n,e,c,s,ex0,fun r hr=>pq r (.tail _ hr)⟩
theorem Dl.store {isG:Str→Bool}(V0:DW env ns isG){B:PM}{σ:List V}{hp:HP}{i:Nat}{x:V}{n:Str}{v:Value}{h' F:HP}{s:Shared}{A:Around}{Q:Unit→Shared→Prop}{E:Value→Shared→Prop}(st:Dl T env ns pv B σ hp)(en:ns[i]?=some n)(hi:i∉pv.map (·.1))(r:RV T.toTab B x v h')
  (I:Inv B s.heap (h'++(hp++F))) (k:∀s' hp',AO s s'→Dl T env ns ((i,v)::pv) B (σ.set i x) hp'→Inv B s'.heap (hp'++F)→Q () s'):wpAny (model pw w) A (storeName env n v) Q E s:=by
 obtain⟨m,ml,ol,cp,vp,p,no,e,c,s0,ex0,pq⟩:=st
 have hn:=List.mem_of_getElem? en
 have hlt:=(List.getElem?_eq_some_iff.mp en).1
 obtain⟨x0,ex⟩:∃x0,(σ.take ns.length)[i]?=some x0:=by
  exact⟨_,List.getElem?_eq_getElem (Nat.lt_of_lt_of_eq hlt s0.len.symm)⟩
 have dr:∀y,(σ.set i y).drop ns.length=σ.drop ns.length:=fun y=>List.drop_set_of_lt hlt
 obtain⟨g1,g2,q,-,-,back⟩:=s0.at_ ex en
 let m':Str→Option Value:=fun y=>if y=n then some v else m y
 have hm:∀k,k≠n→m k=m' k:=fun k hk=>by simp [m',hk]
 obtain⟨vp',p',s'⟩:=back B m' x h' V0.nd (PM.le.refl B) hm (.inr ⟨v,by simp [m'],r⟩)
 have pq':∀q∈(i,v)::pv,∃n,ns[q.1]?=some n∧m' n=some q.2:=fun q hq=>by
  rcases List.mem_cons.mp hq with rfl | hq
  ·exact⟨n,en,by simp [m']⟩
  obtain⟨n1,e1,e2⟩:=pq q hq
  refine⟨n1,e1,?_⟩
  rw [←hm n1 ?_];exact e2
  rintro rfl
  have:q.1=i:=by
   obtain⟨l1,l2⟩:=List.getElem?_eq_some_iff.mp e1
   obtain⟨l3,l4⟩:=List.getElem?_eq_some_iff.mp en
   exact (List.getElem_inj (h₀:=l1) (h₁:=l3) V0.nd).mp (l2.trans l4.symm)
  exact hi (List.mem_map.mpr ⟨q,hq,this⟩)
 have I2:Inv B s.heap ((env.locals,ol)::(cp++(h'++(g2++(g1++F))))):=by
  refine I.perm ?_
  have a1:(hp++F).Perm (((env.locals,ol)::(cp++(g1++g2)))++F):=(p.trans (List.Perm.cons _ (List.Perm.append_left cp q))).append_right F
  refine (List.Perm.append_left h' a1).trans ?_
  have a2:(h'++(((env.locals,ol)::cp)++((g1++g2)++F))).Perm (((env.locals,ol)::cp)++(h'++(g2++(g1++F)))):=by
   refine (AC (p:=h') (List.Perm.refl _)).trans ?_
   refine List.Perm.append_left _ (List.Perm.append_left _ ?_)
   rw [←List.append_assoc]
   exact List.perm_append_comm.append_right F
  have a3:((env.locals,ol)::(cp++(g1++g2)))++F=((env.locals,ol)::cp)++((g1++g2)++F):=by simp
  rw [a3]
  exact a2
 rcases V0.kinds n hn with hl | ⟨hl,hc⟩
 ·have g:=I2.own (env.locals,ol) (.head _)
  refine wpAny_storeName_local hl (no.at_ g) (fun h1 hns hsb=>?_) (by rw [V0.hk];rfl)
  obtain⟨o',go,no'⟩:=PB.of hns
  have I3:Inv B h1 ((env.locals,o')::(cp++(h'++(g2++(g1++F))))):=I2.upd hsb.2 go
  refine k _ ((env.locals,o')::(cp++vp')) ⟨rfl,rfl⟩ ⟨m',_,o',cp,vp',.refl _,no',fun y hy=>?_,?_,by rw [List.take_set];exact s',by rw [dr];exact ex0,pq'⟩ ?_
  ·by_cases h:y=n
   ·simp [m',h]
   ·simp only [m',h,if_false];exact e y hy
  ·refine CS.congr (fun c hc=>hm _ ?_) c
   rintro rfl
   exact V0.ck _ hc hl
  ·have e1:((env.locals,o')::(cp++vp'))++F=((env.locals,o')::cp)++(vp'++F):=by simp
   rw [e1]
   have:Inv B h1 ((g1++(((env.locals,o')::cp)++(vp'++F)))):=I3.perm (by
    have a1:((h'++(g2++(g1++F)))).Perm (g1++(vp'++F)):=by
     have b1:(h'++(g2++(g1++F))).Perm ((h'++g2)++(g1++F)):=by rw [List.append_assoc]
     refine b1.trans ((p'.symm.append_right _).trans ?_)
     exact AC (.refl _)
    exact AC (p:=(env.locals,o')::cp) a1)
   exact this.right
 ·obtain⟨a,ha⟩:=Option.isSome_iff_exists.mp hc
  obtain⟨o,h2,pc,eo,cback⟩:=c.at_ ha
  have I2':Inv B s.heap ((a,o)::((env.locals,ol)::(h2++(h'++(g2++(g1++F)))))):=by
   refine I2.perm ?_
   refine (List.Perm.cons _ (pc.append_right _)).trans ?_
   exact List.Perm.swap _ _ _
  have g:=I2'.own (a,o) (.head _)
  refine wpAny_storeName_cell V0.hk hl ha ⟨o,g,eo⟩ fun h1 hcell hsb=>?_
  obtain⟨o',go,eo'⟩:=hcell
  have I3:Inv B h1 ((a,o')::((env.locals,ol)::(h2++(h'++(g2++(g1++F)))))):=I2'.upd hsb.2 go
  obtain⟨cp',pc',c'⟩:=cback m' o' V0.cnd hm (by rw [eo'];simp [m'])
  refine k _ ((env.locals,ol)::(cp'++vp')) ⟨rfl,rfl⟩ ⟨m',ml,ol,cp',vp',.refl _,no,fun y hy=>?_,c',by rw [List.take_set];exact s',by rw [dr];exact ex0,pq'⟩ ?_
  ·have:y≠n:=by rintro rfl;rw [hl] at hy;cases hy
   rw [e y hy];exact hm y this
  ·have e1:((env.locals,ol)::(cp'++vp'))++F=((env.locals,ol)::cp')++(vp'++F):=by simp
   rw [e1]
   have:Inv B h1 ((g1++(((env.locals,ol)::cp')++(vp'++F)))):=I3.perm (by
    have a1:((h'++(g2++(g1++F)))).Perm (g1++(vp'++F)):=by
     have b1:(h'++(g2++(g1++F))).Perm ((h'++g2)++(g1++F)):=by rw [List.append_assoc]
     refine b1.trans ((p'.symm.append_right _).trans ?_)
     exact AC (.refl _)
    have a2:((a,o')::((env.locals,ol)::(h2++(h'++(g2++(g1++F)))))).Perm (((env.locals,ol)::cp')++(h'++(g2++(g1++F)))):=by
     refine (List.Perm.swap _ _ _).trans (List.Perm.cons _ ?_)
     exact pc'.symm.append_right (h'++(g2++(g1++F)))
    exact a2.trans (AC (p:=(env.locals,ol)::cp') a1))
   exact this.right
noncomputable def AJ (pv:List (Nat×Value))(V0:DW env ns isG):A8 w T env (fun i=>ns[i]?) (pv.map (·.1)) where
 ST:=Dl T env ns pv
 mono:=Dl.mono
 perm:=Dl.perm
 load:=fun st ex hx en=>by
  obtain⟨v,h1,h2,-,-,p,r,ld,back,gone⟩:=st.load V0 ex hx en
  exact⟨v,h1,h2,p,r,ld,back,gone⟩
 store:=fun st en hi r I k=>st.store V0 en hi r I fun s' hp' rs st' I'=>k s' hp' rs st'.unpin I'
 isG:=isG
 glob:=fun {n A s Q E} h q=>by
  rw [loadName_read V0.hk (V0.gl n h)]
  exact q
 fk:=V0.hk
 gs:=V0.gs
 bs:=V0.bs
end
section
open PySem PySem.W PyProof.Rows PySem.Calls
open Hd (pw)
variable {w:World}{T:Tabs}{K:Frag}{env:Env}
noncomputable def OO {nm:Nat→Option Str}{pins:List Nat}(fr:A8 w T env nm pins)(B:PM)(F:HP)(s:Shared)(Kx:Fl→List V→Prop)(Q:Flow→Shared→Prop):Prop:=
 (∀B' σ' h2 s',B.le B'→Kx .next σ'→fr.ST B' σ' h2→Inv B' s'.heap (h2++F)→AO s s'→Q .next s')∧
 (∀B' x σ' h1 h2 v s',B.le B'→Kx (.ret x) σ'→RV T.toTab B' x v h1→fr.ST B' σ' h2→Inv B' s'.heap (h1++(h2++F))→AO s s'→Q (.ret v) s')
noncomputable def BH (Φ:Nat→List V→(V→List V→Prop)→Prop)(K:Frag)(n:Nat){nm:Nat→Option Str}{pins:List Nat}(fr:A8 w T env nm pins)(x:S)(e:Stmt):Prop:=
 ∀(Kx:Fl→List V→Prop) (B:PM) (σ:List V) (hp F:HP) (s:Shared) (A:Around) (Q:Flow→Shared→Prop) (Er:Value→Shared→Prop),
  WS T Φ x σ Kx→fr.ST B σ hp→Bk K B→Inv B s.heap (hp++F)→J4 n A→OO fr B F s Kx Q→wpAny (model pw w) A (exec e env) Q Er s
noncomputable def CC (Φ:Nat→List V→(V→List V→Prop)→Prop)(K:Frag)(n:Nat){nm:Nat→Option Str}{pins:List Nat}(fr:A8 w T env nm pins)(x:Ss)(e:List Stmt):Prop:=
 ∀(Kx:Fl→List V→Prop) (B:PM) (σ:List V) (hp F:HP) (s:Shared) (A:Around) (Q:Flow→Shared→Prop) (Er:Value→Shared→Prop),
  Aj T Φ x σ Kx→fr.ST B σ hp→Bk K B→Inv B s.heap (hp++F)→J4 n A→OO fr B F s Kx Q→wpAny (model pw w) A (execs e env) Q Er s
structure FnAt (T:Tabs)(K:Frag)(f:Nat)(a:Addr)(fd:FuncData)(ns:List Str)(body:List Stmt):Prop where
 obj:∃ob,K.lookup a=some ob∧ob.data=.func fd
 bd:fd.body=.stmts body
 clo:fd.closure=[]
 cdr:codeIn K fd.code fd.qualname=true
 co:fd.scope.isCoroutine=false
 gen:fd.scope.isGenerator=false
 kind:fd.scope.kind=.function
 gl:fd.globals=mainGlobals
 bs:fd.builtins=builtinsNs
 nd:ns.Nodup
 kinds:∀n∈ns,fd.scope.names.lookup n=some .local∨fd.scope.names.lookup n=some .cell
 cnd:((cellsFrom 0 fd.scope.names []).map (·.1)).Nodup
 ck:∀k∈(cellsFrom 0 fd.scope.names []).map (·.1),fd.scope.names.lookup k≠some .local
 np:(T.fn f).np≤ns.length
 nns:ns.length≤(T.fn f).ns
 bind:∀vals:List Value,vals.length≤(T.fn f).np→(T.fn f).np≤vals.length+(T.fn f).dflt.length→∃ds,(∀B,Bk K B→RL T.toTab B ((T.fn f).dflt.drop (vals.length+(T.fn f).dflt.length - (T.fn f).np)) ds [])∧
  ∀S,peek K S (bindArgs fd ⟨vals,[]⟩)=some ((ns.take (T.fn f).np).zip (vals++ds))
 mnd:(T.fn f).mut_.Nodup
 mlt:∀i∈(T.fn f).mut_,i+(T.fn f).dflt.length < (T.fn f).np
theorem LC {kd:Str→Option NameKind}{n:Str}:∀(binds:List (Str×Value)) (m:Str→Option Value),n∉binds.map (·.1)→bindL kd binds m n=m n
 | [],_,_=>rfl
 | (k,v)::r,m,h=>by
  rw [List.map_cons,List.mem_cons,not_or] at h
  unfold bindL
  rw [LC r _ h.2]
  split
  ·simp [h.1]
  ·rfl
theorem Ln {kd:Str→Option NameKind}{n:Str}:∀(binds:List (Str×Value)) (m:Str→Option Value),n∉binds.map (·.1)→bindC kd binds m n=m n
 | [],_,_=>rfl
 | (k,v)::r,m,h=>by
  rw [List.map_cons,List.mem_cons,not_or] at h
  unfold bindC
  rw [Ln r _ h.2]
  split
  ·rfl
  ·simp [h.1]
theorem NJ {kd:Str→Option NameKind}{n:Str}{v:Value}:∀(binds:List (Str×Value)) (m:Str→Option Value),(binds.map (·.1)).Nodup→(n,v)∈binds→kd n=some .local→bindL kd binds m n=some v
 | [],_,_,h,_=>nomatch h
 | (k,u)::r,m,nd,h,hk=>by
  rw [List.map_cons,List.nodup_cons] at nd
  unfold bindL
  rcases List.mem_cons.mp h with e | h
  ·cases e
   rw [LC r _ nd.1,if_pos hk];simp
  ·exact NJ r _ nd.2 h hk
theorem NZ {kd:Str→Option NameKind}{n:Str}{v:Value}:∀(binds:List (Str×Value)) (m:Str→Option Value),(binds.map (·.1)).Nodup→(n,v)∈binds→kd n=some .cell→bindC kd binds m n=some v
 | [],_,_,h,_=>nomatch h
 | (k,u)::r,m,nd,h,hk=>by
  rw [List.map_cons,List.nodup_cons] at nd
  unfold bindC
  rcases List.mem_cons.mp h with e | h
  ·cases e
   rw [Ln r _ nd.1,if_neg (by rw [hk];decide)];simp
  ·exact NZ r _ nd.2 h hk
theorem SL.undefs {B:PM}{m}:∀ns:List Str,SL T B m ns (List.replicate ns.length .undef) []
 | []=>⟨rfl,rfl⟩
 | n::ns=>⟨.undef,_,[],[],rfl,rfl,.inl ⟨rfl,rfl⟩,SL.undefs ns⟩
theorem SL.params {B:PM}{m:Str→Option Value}(rest:List Str):∀{pn:List Str} {xs:List V} {vs:List Value} {hp:HP},RL T.toTab B xs vs hp→pn.length=vs.length→(∀p∈pn.zip vs,m p.1=some p.2)→
  SL T B m (pn++rest) (xs++List.replicate rest.length .undef) hp
 | [],[],_,_,r,e,_=>by obtain⟨⟩:=r;exact SL.undefs rest
 | [],x::xs,_,_,r,e,_=>by obtain⟨v,vs',h1,h2,_⟩:=r;cases e
 | n::pn,[],_,_,r,e,_=>by obtain⟨⟩:=r;cases e
 | n::pn,x::xs,_,_,r,e,h=>by
  obtain⟨v,vs',h1,h2,r1,r2⟩:=r
  exact⟨x,_,h1,h2,rfl,rfl,.inr ⟨v,h (n,v) (.head _),r1⟩,SL.params rest r2 (by simpa using e) fun p hp=>h p (.tail _ hp)⟩
theorem RL.appR {B:PM}:∀{l m:List V} {vs us:List Value} {hp:HP},RL T.toTab B l vs hp→RL T.toTab B m us []→RL T.toTab B (l++m) (vs++us) hp
 | [],m,vs,us,_,x,y=>by obtain⟨⟩:=x;exact y
 | a::l,m,vs,us,_,x,y=>by
  obtain⟨v,vs',h1,h2,r1,r2⟩:=x
  show RL _ _ (a::(l++m)) _ _
  exact⟨v,vs'++us,h1,h2,r1,RL.appR r2 y⟩
theorem Inv.more {B:PM}{h h':Heap}{hp:HP}(I:Inv B h hp)(k:∀a o,h.get? a=some o→h'.get? a=some o):∀(fp:HP),(fp.map (·.1)).Nodup→(∀p∈fp,h.get? p.1=none∧h'.get? p.1=some p.2)→Inv B h' (fp++hp)
 | [],_,_=>I.keep k
 | p::fp,nd,hn=>by
  rw [List.map_cons,List.nodup_cons] at nd
  have I1:=Inv.more I k fp nd.2 fun q hq=>hn q (.tail _ hq)
  have np:=hn p (.head _)
  refine⟨I1.base,fun q hq=>?_,fun q hq=>?_,?_⟩
  ·rcases List.mem_cons.mp hq with rfl | hq
   ·exact np.2
   ·exact I1.own q hq
  ·rcases List.mem_cons.mp hq with rfl | hq
   ·cases z:B q.1 with
    | none=>rfl
    | some o=>rw [I.base _ _ z] at np;cases np.1
   ·exact I1.off q hq
  ·rw [List.cons_append,List.map_cons,List.nodup_cons]
   refine⟨fun q=>?_,I1.nd⟩
   obtain⟨p',hp',ep⟩:=List.mem_map.mp q
   rcases List.mem_append.mp hp' with hq | hq
   ·exact nd.1 (List.mem_map.mpr ⟨p',hq,ep⟩)
   ·have:=I.own p' hq
    rw [ep,np.1] at this;cases this
theorem CS.build {h':Heap}{m:Str→Option Value}:∀(cs:List (Str×Addr)),(∀p∈cs,h'.IsCell p.2 (m p.1))→∃cp:HP,CS m cs cp∧cp.map (·.1)=cs.map (·.2)∧∀p∈cp,h'.get? p.1=some p.2
 | [],_=>⟨[],rfl,rfl,fun _ h=>nomatch h⟩
 | (n,c)::r,h=>by
  obtain⟨cp,a,b,d⟩:=CS.build r fun p hp=>h p (.tail _ hp)
  obtain⟨o,ho,hd⟩:=h (n,c) (.head _)
  refine⟨(c,o)::cp,⟨o,cp,rfl,hd,a⟩,by simp [b],fun p hp=>?_⟩
  rcases List.mem_cons.mp hp with rfl | hp
  ·exact ho
  ·exact d p hp
theorem U9 {x:V}{P:V→Prop}(h:SI x P):x≠.undef∧P x:=by cases x <;> first | exact h.elim | exact⟨nofun,h⟩
theorem OP {i:Nat}:∀{mts:List Nat} {σ:List V} {K0:List V→Prop},i∉mts→Bl σ mts K0→Bl (σ.set i .undef) mts K0
 | [],_,_,_,h=>h
 | j::mts,σ,K0,hj,h=>by
  rw [List.mem_cons,not_or] at hj
  rw [Yz] at h ⊢
  rw [List.getElem?_set_ne hj.1]
  obtain⟨x,e,h⟩:=AF h
  rw [e]
  show SI x _
  have h:SI x fun x=>Bl σ mts fun xs=>K0 (x::xs):=h
  cases x <;> first | exact h.elim | exact OP hj.2 h
theorem MZ (w:World){ns:List Str}{isG:Str→Bool}{pv:List (Nat×Value)}(V0:DW env ns isG){B:PM}{u:Nat→Value}:∀(mts:List Nat) {σ:List V} {hp:HP} {Kx:List V→Prop},mts.Nodup→(∀i∈mts,(i,u i)∈pv)→(∀i∈mts,i < ns.length)→
  Bl σ mts Kx→Dl T env ns pv B σ hp→∃os h1 h2,Kx os∧hp.Perm (h1++h2)∧RL T.toTab B os (mts.map u) h1
 | [],σ,hp,Kx,_,_,_,q,st=>⟨[],[],hp,q,.refl _,⟨⟩⟩
 | i::mts,σ,hp,Kx,nd,hu,hl,q,st=>by
  rw [List.nodup_cons] at nd
  obtain⟨x,ex,q⟩:=AF q
  obtain⟨hx,q⟩:=U9 q
  obtain⟨v,h1,h2,pu,-,p,r,-,-,rest⟩:=st.load (w:=w) V0 ex hx (List.getElem?_eq_getElem (hl i (.head _)))
  obtain⟨os,g1,g2,k,p2,rl⟩:=MZ w V0 mts nd.2 (fun j hj=>hu j (.tail _ hj)) (fun j hj=>hl j (.tail _ hj)) (OP nd.1 q) rest
  have:=pu _ (hu i (.head _))
  subst this
  exact⟨x::os,h1++g1,g2,k,(by rw [List.append_assoc];exact p.trans (List.Perm.append_left h1 p2)),Qe.mk (u i) _ h1 g1 r rl⟩
noncomputable def cf (w:World)(T:Tabs)(mts:List Nat)(vs:List Value)(B:PM)(F:HP)(s:Shared)(Kx:V→List V→Prop)(R:Result→Shared→Prop):Prop:=
 ∀B' r os h1 h2 v s',B.le B'→Kx r os→RV T.toTab B' r v h1→RL T.toTab B' os (mts.map fun i=>vs.getD i .none) h2→Inv B' s'.heap (h1++(h2++F))→AO s s'→R (.ok (.ret v)) s'
noncomputable def BZ (w:World)(T:Tabs)(Φ:Nat→List V→(V→List V→Prop)→Prop)(K:Frag)(n:Nat)(f:Nat)(a:Addr):Prop:=
 ∀(Kx:V→List V→Prop) (xs:List V) (vs:List Value) (B:PM) (hp F:HP) (s:Shared) (A:Around) (R:Result→Shared→Prop),
  Φ f xs Kx→RL T.toTab B xs vs hp→Bk K B→Inv B s.heap (hp++F)→cT n A→cf w T (T.fn f).mut_ vs B F s Kx R→codeAny (model pw w) A (.call (.ref a) ⟨vs,[]⟩) R s
theorem Yh {f:Nat}{a:Addr}{fd:FuncData}{ns:List Str}{body:List Stmt}(X:FnAt T K f a fd ns body)(L:Nat):DW (callEnvC fd L a) ns (fun n=>fd.scope.names.lookup n==some .globalImplicit) where
 hk:=X.kind
 nd:=X.nd
 kinds:=fun n hn=>(X.kinds n hn).imp id fun h=>⟨h,cellsFrom_some _ _ _ (.inl h)⟩
 cnd:=by
  have:(cellsFrom (L+1) fd.scope.names []).map (·.1)=(cellsFrom 0 fd.scope.names []).map (·.1):=cellsFrom_names _ _ _ _ _ rfl
  show ((cellsFrom (L+1) fd.scope.names []).map (·.1)).Nodup
  rw [this];exact X.cnd
 ck:=fun p hp=>by
  have:(cellsFrom (L+1) fd.scope.names []).map (·.1)=(cellsFrom 0 fd.scope.names []).map (·.1):=cellsFrom_names _ _ _ _ _ rfl
  refine X.ck _ ?_
  rw [←this]
  exact List.mem_map.mpr ⟨p,hp,rfl⟩
 gl:=fun n h=>beq_iff_eq.mp h
 gs:=X.gl
 bs:=X.bs
theorem QO {α β:Type}:∀{l:List α} {m:List β},l.length=m.length→(l.zip m).map (·.1)=l
 | [],[],_=>rfl
 | [],_::_,e=>by cases e
 | _::_,[],e=>by cases e
 | a::l,b::m,e=>by simp [QO (l:=l) (m:=m) (by simpa using e)]
theorem nu {A:List V}{np m q:Nat}(hA:A.length=np)(h1:np≤m)(h2:m≤q):(A++List.replicate (q - np) V.undef).take m=A++List.replicate (m - np) .undef∧∀x∈(A++List.replicate (q - np) V.undef).drop m,x=V.undef:=by
 have l:(A++List.replicate (m - np) V.undef).length=m:=by rw [List.length_append,List.length_replicate,hA,Nat.add_sub_cancel' h1]
 rw [show q - np=m - np+(q - m) by rw [Nat.add_comm,Nat.sub_add_sub_cancel h2 h1],←List.replicate_append_replicate,←List.append_assoc,List.take_left' l,List.drop_left' l]
 exact⟨rfl,fun x hx=>(List.mem_replicate.mp hx).2⟩
theorem cX {n:Nat}{f:Nat}{a:Addr}{fd:FuncData}{ns:List Str}{body:List Stmt}(X:FnAt T K f a fd ns body)(nolim:∀h,K.In h→h.NoLimit)
  (hb:∀(env:Env) (pv:List (Nat×Value)) (hp:pv.map (·.1)=(T.fn f).mut_) (V0:DW env ns (fun n=>fd.scope.names.lookup n==some .globalImplicit)) (hsc:env.scope=fd.scope),CC (w:=w) (T:=T) (AG T n) K n (AJ (w:=w) (T:=T) pv V0) (T.fn f).body body):
  BZ w T (AG T (n+1)) K (n+1) f a:=fun Kx xs vs B hp F s A R W rl ok I aok post=>by
 obtain⟨σ,es,W⟩:=W
 unfold start at es
 split at es
 ·rename_i hlen
  cases es
  have lvs:=rl.len
  obtain⟨hle,hge⟩:=hlen
  rw [←lvs] at hle hge
  obtain⟨ds,rds,pk⟩:=X.bind vs hle hge
  have rds:=rds B ok
  rw [←lvs] at W
  have rl2:=rl.appR rds
  have KI:K.In s.heap:=ok.into I
  obtain⟨ob,ho,hd⟩:=X.obj
  have lds:=rds.len
  rw [List.length_drop] at lds
  have dlen:((T.fn f).dflt.drop (vs.length+(T.fn f).dflt.length - (T.fn f).np)).length=ds.length:=by rw [List.length_drop];exact lds.symm
  have hnp:=X.np
  have lpn:(ns.take (T.fn f).np).length=(vs++ds).length:=by
   rw [List.length_take,List.length_append,lds,Nat.min_eq_left hnp,Zg hle hge]
  have ndp:(((ns.take (T.fn f).np).zip (vs++ds)).map (·.1)).Nodup:=by
   rw [QO lpn];exact List.Nodup.sublist (List.take_sublist _ _) X.nd
  have inns:∀p∈(ns.take (T.fn f).np).zip (vs++ds),p.1∈ns:=fun p hp=>List.mem_of_mem_take (List.of_mem_zip hp).1
  refine codeAny_call_function (by have:=aok.depth;show _ < 1000;exact Nat.lt_of_le_of_lt (Nat.le_trans (Nat.le_add_right _ _) this) (by decide)) (KI _ _ ho) hd X.co X.gen X.bd (codeRec_of KI X.cdr) ?_
  refine (Looks.of_peek (M:=model pw w) KI (pk _)).here ?_
  rw [X.clo]
  refine wpAny_newFunctionEnv_cells X.kind (fun p hp=>?_) fun env he s1 IC=>?_
  ·exact (X.kinds _ (inns p hp)).imp id fun h=>⟨h,cellsFrom_some _ _ _ (.inl h)⟩
  ·have he':env=callEnvC fd s.heap.objs.size a:=he
   subst he'
   have V0:=Yh X s.heap.objs.size
   refine⟨(nolim _ (ok.into (I.keep IC.toInCall.keep))),codeAny_func ?_⟩
   let m:Str→Option Value:=fun n=>if (callEnvC fd s.heap.objs.size a).kindOf n=some .local then bindL (callEnvC fd s.heap.objs.size a).kindOf ((ns.take (T.fn f).np).zip (vs++ds)) (fun _=>none) n
    else bindC (callEnvC fd s.heap.objs.size a).kindOf ((ns.take (T.fn f).np).zip (vs++ds)) (fun _=>none) n
   obtain⟨ol,gol,no⟩:=PB.of IC.toInCall.ns
   obtain⟨cp,cs,cpa,cpg⟩:=CS.build (h':=s1.heap) (m:=m) (callEnvC fd s.heap.objs.size a).cells (fun p hp=>by
    have:=IC.cell p.1 p.2 (lookup_of_mem_nodup V0.cnd hp)
    have hk:=V0.ck p hp
    show s1.heap.IsCell p.2 (if _ then _ else _)
    rw [if_neg hk];exact this)
   have big:∀p∈cp,s.heap.objs.size < p.1:=fun p hp=>by
    have:p.1∈cp.map (·.1):=List.mem_map.mpr ⟨p,hp,rfl⟩
    rw [cpa] at this
    obtain⟨q,hq,e⟩:=List.mem_map.mp this
    rw [←e]
    exact IC.above q.1 q.2 hq
   have cpn:(cp.map (·.1)).Nodup:=by
    rw [cpa]
    exact List.pairwise_map.mpr IC.apart
   have I1:Inv B s1.heap (((callEnvC fd s.heap.objs.size a).locals,ol)::cp++(hp++F)):=I.more IC.toInCall.keep (((callEnvC fd s.heap.objs.size a).locals,ol)::cp) (by
     rw [List.map_cons,List.nodup_cons]
     refine⟨fun q=>?_,cpn⟩
     obtain⟨p,hp,e⟩:=List.mem_map.mp q
     have:=big p hp
     have e:p.1=s.heap.objs.size:=e
     exact absurd (e▸this) (Nat.lt_irrefl _)) (fun p hp=>by
     rcases List.mem_cons.mp hp with rfl | hp
     ·exact⟨Heap.get?_none_of_le (Nat.le_refl _),gol⟩
     ·exact⟨Heap.get?_none_of_le (Nat.le_of_lt (big p hp)),cpg p hp⟩)
   have hm:∀p∈(ns.take (T.fn f).np).zip (vs++ds),m p.1=some p.2:=fun p hp=>by
    rcases X.kinds _ (inns p hp) with hl | hl
    ·show (if _ then _ else _)=_
     rw [if_pos (show (callEnvC fd s.heap.objs.size a).kindOf p.1=some .local from hl)]
     exact NJ _ _ ndp hp hl
    ·show (if _ then _ else _)=_
     have:(callEnvC fd s.heap.objs.size a).kindOf p.1=some .cell:=hl
     rw [if_neg (by rw [this];decide)]
     exact NZ _ _ ndp hp hl
   have sl:=SL.params (m:=m) (ns.drop (T.fn f).np) rl2 lpn hm
   rw [List.take_append_drop,List.length_drop] at sl
   have nw:=nu (A:=xs++List.drop (vs.length+(T.fn f).dflt.length - (T.fn f).np) (T.fn f).dflt) (by rw [List.length_append,←lvs,dlen,←List.length_append,←lpn,List.length_take,Nat.min_eq_left hnp]) hnp X.nns
   have st:Dl T (callEnvC fd s.heap.objs.size a) ns ((T.fn f).mut_.map fun i=>(i,vs.getD i .none)) B (xs++List.drop (vs.length+(T.fn f).dflt.length - (T.fn f).np) (T.fn f).dflt++List.replicate ((T.fn f).ns - (T.fn f).np) .undef) (((callEnvC fd s.heap.objs.size a).locals,ol)::(cp++hp)):=
    ⟨m,_,ol,cp,hp,.refl _,no,fun y hy=>by
     show _=if _ then _ else _
     rw [if_pos hy],cs,(by rw [nw.1];exact sl),nw.2,fun q hq=>by
     obtain⟨i,hi,rfl⟩:=List.mem_map.mp hq
     have li:=X.mlt i hi
     have lv:i < vs.length:=Nat.lt_of_add_lt_add_right (Nat.lt_of_lt_of_le li hge)
     have ln:i < (T.fn f).np:=Nat.lt_of_le_of_lt (Nat.le_add_right _ _) li
     have lz:i < ((ns.take (T.fn f).np).zip (vs++ds)).length:=by
      rw [List.length_zip,←lpn,Nat.min_self,List.length_take,Nat.min_eq_left hnp];exact ln
     have hz:=hm _ (List.getElem_mem lz)
     rw [List.getElem_zip] at hz
     have lm:=Nat.lt_of_lt_of_le ln hnp
     refine⟨ns[i]'lm,List.getElem?_eq_getElem lm,?_⟩
     simp only [List.getElem_take,List.getElem_append_left lv] at hz
     rw [hz,List.getD_eq_getElem?_getD,List.getElem?_eq_getElem lv];rfl⟩
   have pvm:((T.fn f).mut_.map fun i=>(i,vs.getD i Value.none)).map (·.1)=(T.fn f).mut_:=by rw [List.map_map];exact List.map_id _
   have hin:∀i∈(T.fn f).mut_,(i,vs.getD i Value.none)∈(T.fn f).mut_.map fun i=>(i,vs.getD i Value.none):=fun i hi=>List.mem_map.mpr ⟨i,hi,rfl⟩
   have hlt:∀i∈(T.fn f).mut_,i < ns.length:=fun i hi=>Nat.lt_of_lt_of_le (Nat.lt_of_le_of_lt (Nat.le_add_right _ _) (X.mlt i hi)) hnp
   refine hb _ _ pvm V0 rfl _ B _ _ F s1 _ _ _ W st ok (I1.perm (by simp)) ⟨aok.handled,by have:=aok.depth;show A.depth+1+_≤_;lia,by have:=aok.units;show A.units+3+_≤_;lia⟩ ⟨fun B' σ' h2 s' le q st' I' rs=>?_,fun B' x σ' h1 h2 v s' le q r st' I' rs=>?_⟩
   all_goals
    have rs0:AO s s1:=by
     obtain⟨h',tk,e,-⟩:=IC.done
     rw [e];exact⟨rfl,rfl⟩
   ·obtain⟨os,g1,g2,k,p,rlo⟩:=MZ w V0 _ X.mnd hin hlt q st'
    refine post B' .none os [] g1 .none s' le k RV.ofNone rlo ?_ (rs0.trans rs)
    have:=I'.perm ((p.append_right F).trans (by
     show ((g1++g2)++F).Perm (g2++(g1++F))
     rw [←List.append_assoc]
     exact List.perm_append_comm.append_right F))
    exact this.right
   ·obtain⟨os,g1,g2,k,p,rlo⟩:=MZ w V0 _ X.mnd hin hlt q st'
    refine post B' x os h1 g1 v s' le k r rlo ?_ (rs0.trans rs)
    have:=I'.perm (show (h1++(h2++F)).Perm (g2++(h1++(g1++F))) by
     refine (List.Perm.append_left h1 (p.append_right F)).trans ?_
     have e1:((g1++g2)++F).Perm (g2++(g1++F)):=by
      rw [←List.append_assoc]
      exact List.perm_append_comm.append_right F
     exact AC e1)
    exact this.right
 ·cases es
noncomputable def AH (e:Expr):Bool:=!Nat.beq e.ctorIdx 22
theorem AW {e:Expr}{es:List Expr}(h:AH e=true):starEach (e::es) env=(false,eval e env)::starEach es env:=by
 cases e <;> first | rfl | exact no h
theorem BY {pos:Pos}:∀{es:List Expr},es.all AH=true→(backTo pos (starEach es env)).any (·.1)=false∧(backTo pos (starEach es env)).all (fun x=>!x.1)=true
 | [],_=>⟨rfl,rfl⟩
 | e::es,h=>by
  rw [List.all_cons,Bool.and_eq_true] at h
  obtain⟨a,b⟩:=BY (pos:=pos) h.2
  rw [AW h.1]
  constructor
  ·show (false||(backTo pos (starEach es env)).any (·.1))=false
   rw [a];rfl
  ·show (!false&&(backTo pos (starEach es env)).all (fun x=>!x.1))=true
   rw [b];rfl
theorem A4:∀(i:Nat) (l:As),Bd (i+1) l=(Bd i l).map (·+1)
 | i,.nil=>rfl
 | i,.val _ l=>A4 (i+1) l
 | i,.bor _ l=>by
  show (i+1)::Bd (i+1+1) l=(i+1)::(Bd (i+1) l).map (·+1)
  rw [A4 (i+1) l]
 | i,.own _ l=>A4 (i+1) l
theorem CW (v:Value)(vs:List Value)(l:List Nat):(l.map (·+1)).map (fun i=>(v::vs).getD i .none)=l.map fun i=>vs.getD i .none:=by
 rw [List.map_map];rfl
theorem HJ {a b c d:HP}:(a++(b++(c++d))).Perm ((c++a)++(b++d)):=by
 rw [List.append_assoc];exact (List.Perm.append_left a (AC (.refl _))).trans (AC (.refl _))
theorem ZD {hp g1 g2 F hp1:HP}(p:hp1.Perm (g1++hp)):(hp++(g1++(g2++F))).Perm (g2++(hp1++F)):=by
 refine List.Perm.trans ?_ (AC (.refl _))
 refine (AC (.refl _)).trans ?_
 refine List.Perm.trans ?_ (p.symm.append_right (g2++F))
 rw [List.append_assoc]
theorem OS {x:V}(h:FN x=true):nh x=true:=by cases x <;> first | rfl | cases h
theorem L0 {nm:Nat→Option Str}{p:Pt}{e:Expr}{v:Value}{bs:List (Pt×Value)}(m:mP T nm p e=true)(hm:∀b∈bs,∃e,mP T nm b.1 e=true):∀b∈(p,v)::bs,∃e,mP T nm b.1 e=true:=fun b hb=>by
 cases hb with
 | head=>exact⟨e,m⟩
 | tail _ hb=>exact hm b hb
section
variable {Φ:Nat→List V→(V→List V→Prop)→Prop}{n:Nat}{nm:Nat→Option Str}{pins:List Nat}{fr:A8 w T env nm pins}
inductive gA (fr:A8 w T env nm pins)(B:PM)(hp F:HP)(x:V)(s0:Heap)(e:Expr)(Wk:Value→List V→Prop):Prop
 | mk (v:Value) (h1 hp1:HP) (σ1:List V) (W:Wk v σ1) (r:RV T.toTab B x v h1) (st:fr.ST B σ1 hp1) (I:Inv B s0 (hp1++(h1++F)))
  (ev:nh x=true→∀(A:Around) (s:Shared) (Q:Value→Shared→Prop) (E:Value→Shared→Prop),s.heap=s0→(∀t,Q v { s with toks:=t })→wpAny (model pw w) A (eval e env) Q E s)
theorem MU (Sa:Ac T K){p:Pt}{e:Expr}{B:PM}{σ:List V}{hp F:HP}{s0:Heap}{x:V}{Wk:Value→List V→Prop}(st:fr.ST B σ hp)(ok:Bk K B)(I:Inv B s0 (hp++F))(m:mP T nm p e=true)(g:get T σ p=some x)
  (W:∀v,AI (put T σ p (.hole v)) (Wk v)):gA fr B hp F x s0 e Wk:=by
 obtain⟨v,⟨h1,h2,pp,r,back⟩,ev⟩:=Ak fr Sa st ok I m g
 obtain⟨σ1,ep,W⟩:=AF (W v)
 obtain⟨hp1,q,st1⟩:=back B (.hole v) [] σ1 (PM.le.refl B) ⟨⟩ ep
 exact⟨v,h1,hp1,σ1,W,r,st1,I.perm ((Ag pp).trans ((AC (.refl _)).trans (q.symm.append_right (h1++F)))),ev⟩
noncomputable def SC {nm:Nat→Option Str}{pins:List Nat}(fr:A8 w T env nm pins)(K:Frag)(l:As)(B:PM)(F:HP)(s:Shared)(Kx:List V→List (Pt×Value)→List V→Prop)(Q:List Value→Shared→Prop):Prop:=
 ∀B' xs bs σ' h1 hp' vs s',B.le B'→Kx xs bs σ'→RL T.toTab B' xs vs h1→(bs.map (·.2)=(Bd 0 l).map fun i=>vs.getD i .none)→(∀b∈bs,∃e,mP T nm b.1 e=true)→fr.ST B' σ' hp'→Bk K B'→Inv B' s'.heap (h1++(hp'++F))→AO s s'→Q vs s'
noncomputable def DG (Φ:Nat→List V→(V→List V→Prop)→Prop)(K:Frag)(n:Nat){nm:Nat→Option Str}{pins:List Nat}(fr:A8 w T env nm pins)(l:As)(es:List Expr):Prop:=
 ∀(Kx:List V→List (Pt×Value)→List V→Prop) (B:PM) (σ:List V) (hp F:HP) (s:Shared) (A:Around) (pos:Pos) (Q:List Value→Shared→Prop) (Er:Value→Shared→Prop),
  V6 T Φ l σ Kx→fr.ST B σ hp→Bk K B→Inv B s.heap (hp++F)→J4 n A→SC fr K l B F s Kx Q→wpAny (model pw w) A (spliced (backTo pos (starEach es env))) Q Er s
theorem DG.nil:DG Φ K n fr .nil []:=fun Kx B σ hp F s A pos Q Er W st ok I a post=>
 wpAny_items_nil (post B [] [] σ [] hp [] s (PM.le.refl B) W ⟨⟩ rfl (fun _ h=>nomatch h) st ok I (AO.refl s))
theorem DG.val {x:E}{l:As}{e:Expr}{es:List Expr}(hs:AH e=true)(hx:AK Φ K n fr x e)(hl:DG Φ K n fr l es):DG Φ K n fr (.val x l) (e::es):=fun Kx B σ hp F s A pos Q Er W st ok I a post=>by
 rw [AW hs]
 show wpAny _ A (spliced ((false,eval e env)::backTo pos (starEach es env))) Q Er s
 refine Calls.spliced_cons (hx.fz W st ok I a fun B1 x1 σ1 hp1 v1 s1 le1 W1 nx r1 st1 ok1 I1 rs1=>?_)
 refine hl _ B1 σ1 hp1 F s1 A pos _ Er W1 st1 ok1 I1 a fun B2 xs bs σ2 h2 hp2 vs s2 le2 W2 rl hb hm st2 ok2 I2 rs2=>?_
 refine post B2 (x1::xs) bs σ2 h2 hp2 (v1::vs) s2 (le1.trans le2) W2 ?_ ?_ hm st2 ok2 I2 (rs1.trans rs2)
 ·exact⟨v1,vs,[],h2,r1.mono le2,rl⟩
 ·show _=(Bd 1 l).map _
  rw [A4,CW];exact hb
theorem DG.own {x:E}{l:As}{e:Expr}{es:List Expr}(hs:AH e=true)(hx:AK Φ K n fr x e)(hl:DG Φ K n fr l es):DG Φ K n fr (.own x l) (e::es):=fun Kx B σ hp F s A pos Q Er W st ok I a post=>by
 rw [AW hs]
 show wpAny _ A (spliced ((false,eval e env)::backTo pos (starEach es env))) Q Er s
 refine Calls.spliced_cons (hx.as W st ok I a fun B1 x1 σ1 k1 hp1 v1 s1 le1 W1 r1 st1 ok1 I1 rs1=>?_)
 refine hl _ B1 σ1 hp1 (k1++F) s1 A pos _ Er W1 st1 ok1 (I1.perm (AC (.refl _))) a fun B2 xs bs σ2 h2 hp2 vs s2 le2 W2 rl hb hm st2 ok2 I2 rs2=>?_
 refine post B2 (x1::xs) bs σ2 (k1++h2) hp2 (v1::vs) s2 (le1.trans le2) W2 ?_ ?_ hm st2 ok2 (I2.perm ?_) (rs1.trans rs2)
 ·exact⟨v1,vs,k1,h2,r1.mono le2,rl⟩
 ·show _=(Bd 1 l).map _
  rw [A4,CW];exact hb
 ·exact HJ
theorem DG.bor (Sa:Ac T K){p:Pt}{l:As}{e:Expr}{es:List Expr}(hs:AH e=true)(m:mP T nm p e=true)(hl:DG Φ K n fr l es):DG Φ K n fr (.bor p l) (e::es):=fun Kx B σ hp F s A pos Q Er W st ok I a post=>by
 rw [AW hs]
 show wpAny _ A (spliced ((false,eval e env)::backTo pos (starEach es env))) Q Er s
 obtain⟨x,g,W⟩:=AF W
 obtain⟨ho,W⟩:=XD W
 obtain⟨v,h1,hp1,σ1,W,r,st1,I1,ev⟩:=MU Sa st ok I m g W
 refine Calls.spliced_cons (ev (OS ho) A s _ Er rfl fun t=>?_)
 refine hl _ B σ1 hp1 (h1++F) { s with toks:=t } A pos _ Er W st1 ok I1 a fun B2 xs bs σ2 h2' hp2 vs s2 le2 W2 rl hb hm st2 ok2 I2 rs2=>?_
 refine post B2 (x::xs) ((p,v)::bs) σ2 (h1++h2') hp2 (v::vs) s2 le2 W2 ⟨v,vs,h1,h2',r.mono le2,rl⟩ ?_ (L0 m hm) st2 ok2 (I2.perm HJ) ⟨rs2.gens,rs2.os⟩
 show v::bs.map (·.2)=v::(Bd 1 l).map _
 rw [A4,CW,hb]
inductive Back (fr:A8 w T env nm pins)(B:PM)(F:HP)(h:Heap)(Kx:List V→Prop):Prop
 | mk (σ:List V) (hp:HP) (k:Kx σ) (st:fr.ST B σ hp) (I:Inv B h (hp++F))
theorem CX (Sa:Ac T K):∀(bs:List (Pt×Value)) (os:List V) {σ:List V} {Kx:List V→Prop} {B:PM} {hp h1 F:HP} {h:Heap},A0 T bs os σ Kx→(∀b∈bs,∃e,mP T nm b.1 e=true)→fr.ST B σ hp→Bk K B→
  RL T.toTab B os (bs.map (·.2)) h1→Inv B h (h1++(hp++F))→Back fr B F h Kx
 | [],os,σ,Kx,B,hp,h1,F,h,q,hm,st,ok,rl,I=>by
  revert rl
  refine De q fun q rl=>?_
  obtain⟨⟩:=rl
  exact⟨σ,hp,q,st,I⟩
 | (p,v)::bs,os,σ,Kx,B,hp,h1,F,h,q,hm,st,ok,rl,I=>by
  revert rl
  refine A6 q fun y ys q rl=>?_
  obtain⟨_,_,g1,g2,r1,r2⟩:=rl
  obtain⟨v',g,q⟩:=YH q
  obtain⟨e,q⟩:=q
  subst e
  obtain⟨σ1,ep,q⟩:=AF q
  obtain⟨e,m⟩:=hm _ (.head _)
  have I1:Inv B h (hp++(g1++(g2++F))):=I.perm ((AC (.refl _)).trans (by rw [List.append_assoc]))
  obtain⟨u,⟨k1,k2,pp,r,back⟩,-⟩:=Ak fr Sa st ok I1 m g
  obtain⟨⟩:=r
  obtain⟨hp1,p1,st1⟩:=back B y g1 σ1 (PM.le.refl B) r1 ep
  exact CX Sa bs ys q (fun b hb=>hm b (.tail _ hb)) st1 ok r2 (I1.perm (ZD (p1.trans (List.Perm.append_left g1 pp.symm))))
theorem RL.one {B:PM}{x:V}{v:Value}{h:HP}(r:RV T.toTab B x v h):RL T.toTab B [x] [v] h:=by
 have z:RL T.toTab B [x] [v] (h++[]):=Qe.mk v [] h [] r ⟨⟩
 rwa [List.append_nil] at z
theorem DZ (Sa:Ac T K){p:Pt}{e:Expr}{v:Value}{y:V}{σ:List V}{Kx:List V→Prop}{B:PM}{hp h1 F:HP}{h:Heap}(q:A0 T [(p,v)] [y] σ Kx)(m:mP T nm p e=true)(st:fr.ST B σ hp)(ok:Bk K B)
  (r:RV T.toTab B y v h1) (I:Inv B h (h1++(hp++F))):Back fr B F h Kx:=CX Sa [(p,v)] [y] q (L0 m (List.forall_mem_nil _)) st ok (RL.one r) I
inductive Zy (T:Tab)(B:PM)(l:List V):Value→HP→Prop
 | mk (z:l.length≤sizeLine) (a:Addr) (vs:Array Value) (m:Nat) (rl:RL T B l vs.toList []):Zy T B l (.ref a) [(a,AD vs m)]
theorem Hr {B:PM}{l:List V}{v:Value}{h:HP}(r:RV T.toTab B (.lst .sh l) v h):Zy T.toTab B l v h:=by
 obtain⟨z,a,vs,m,_,⟨e1,e2⟩,rl⟩:=r
 subst e1 e2;exact⟨z,a,vs,m,rl⟩
inductive bc (T:Tab)(B:PM)(o:O)(l:List V):Value→HP→Prop
 | mk (z:l.length≤sizeLine) (a:Addr) (vs:Array Value) (m:Nat) (h:HP) (e:o=.sh→h=[]) (rl:RL T B l vs.toList h):bc T B o l (.ref a) ((a,AD vs m)::h)
theorem XA {B:PM}{o:O}{l:List V}{v:Value}{h:HP}(r:RV T.toTab B (.lst o l) v h)(w:FN (.lst o l)=true):bc T.toTab B o l v h:=by
 obtain⟨z,a,vs,m,h1,ow,rl⟩:=r
 cases o with
 | fr=>cases w
 | sh=>obtain⟨e1,e2⟩:=ow;subst e1 e2;exact⟨z,a,vs,m,[],fun _=>rfl,rl⟩
 | dp=>cases (show h=_ from ow);exact⟨z,a,vs,m,h1,nofun,rl⟩
theorem Hp {B:PM}{l:List V}{a:Addr}{vs:Array Value}{m:Nat}(z:l.length≤sizeLine)(rl:RL T.toTab B l vs.toList []):RV T.toTab B (.lst .sh l) (.ref a) [(a,AD vs m)]:=IsL.mk z a vs m [] ⟨rfl,rfl⟩ rl
theorem Qh {B:PM}{l:List V}{a:Addr}{vs:Array Value}{m:Nat}{h:HP}(z:l.length≤sizeLine)(rl:RL T.toTab B l vs.toList h):RV T.toTab B (.lst .dp l) (.ref a) ((a,AD vs m)::h):=IsL.mk z a vs m h rfl rl
theorem aT {B:PM}{o:O}{l l':List V}{a:Addr}{vs:Array Value}{m:Nat}{h:HP}(w:FN (.lst o l)=true)(e:o=.sh→h=[])(z:l'.length≤sizeLine)(rl:RL T.toTab B l' vs.toList h):RV T.toTab B (.lst o l') (.ref a) ((a,AD vs m)::h):=by
 cases o with
 | fr=>cases w
 | sh=>cases e rfl;exact Hp z rl
 | dp=>exact Qh z rl
end
section
variable {Φ:Nat→List V→(V→List V→Prop)→Prop}{n:Nat}{nm:Nat→Option Str}{pins:List Nat}{fr:A8 w T env nm pins}
theorem Ei (Sa:Ac T K){A:Around}{s:Shared}{Q:Value→Shared→Prop}{Er:Value→Shared→Prop}{x:Str}{p:Pos}{v:Value}(fr:A8 w T env nm pins)(KI:K.In s.heap)(hg:fr.isG x=true)(hd:(x==("__debug__":Str))=false)(e:DR K mainGlobals x=some v)(q:Q v s):
  wpAny (model pw w) A (eval (.Name x p) env) Q Er s:=
 wpAny_Name (fr.glob hg (loadGlobal_global (mg:=DR K mainGlobals) (by rw [fr.gs];exact Oi KI Sa.gns) e q)) hd
theorem Aa (Sa:Ac T K){A:Around}{s:Shared}{Q:Value→Shared→Prop}{Er:Value→Shared→Prop}{x:Str}{p:Pos}{v:Value}(fr:A8 w T env nm pins)(KI:K.In s.heap)(hg:fr.isG x=true)(hd:(x==("__debug__":Str))=false)(hu:x∈RM)(e:bootBuiltins x=some v)(q:Q v s):
  wpAny (model pw w) A (eval (.Name x p) env) Q Er s:=by
 obtain⟨e1,v',e2,e3⟩:=Sa.bi x hu
 rw [e] at e2;cases e2
 exact wpAny_Name (fr.glob hg (loadGlobal_builtin (mg:=DR K mainGlobals) (mb:=DR K builtinsNs) (by rw [fr.gs];exact Oi KI Sa.gns) e1 (by rw [fr.bs];exact Oi KI Sa.bns) e3 q)) hd
theorem Sh (Sa:Ac T K){g:Nat}{x:Str}{p:Pos}(hx:T.gn g=x)(hn:nh (T.gv g)=true)(hg:fr.isG x=true)(hd:(x==("__debug__":Str))=false)(hz:fz (T.gv g)=true):AK Φ K n fr (.glob g) (.Name x p):=fun Kx B σ hp F s A Q Er W st ok I a post=>by
 subst hx
 obtain⟨u,e,r⟩:=Sa.glob g hn
 exact Ei Sa fr (ok.into I) hg hd e (post B _ σ [] hp _ _ (PM.le.refl B) W (r B ok) st I (AO.refl s))
theorem Cn (Sa:Ac T K){f:Value}{first:List Value}{l:As}{es:List Expr}{pos:Pos}(hk:keepIn K f=true)(hs:es.all AH=true)(ha:DG Φ K n fr l es)
  {Kx:List V→List (Pt×Value)→List V→Prop} {B:PM} {σ:List V} {hp F:HP} {s:Shared} {A:Around} {Q:Value→Shared→Prop} {Er:Value→Shared→Prop}
  (W:V6 T Φ l σ Kx) (st:fr.ST B σ hp) (ok:Bk K B) (I:Inv B s.heap (hp++F)) (a:J4 n A) (post:SC fr K l B F s Kx (fun vs s₁=>wpAny (model pw w) A (call f (first++vs)) Q Er s₁)):
  wpAny (model pw w) A (callWith pos f first (backTo pos (starEach es env)) []) Q Er s:=by
 have post2:SC fr K l B F s Kx (fun vs s₁=>K.In s₁.heap∧wpAny (model pw w) A (call f (first++vs)) Q Er s₁):=
  fun B' xs bs σ' h1 hp' vs s' le q rl hb hm st' ok' I' rs=>⟨ok'.into I',post B' xs bs σ' h1 hp' vs s' le q rl hb hm st' ok' I' rs⟩
 cases es with
 | nil=>
  have:=ha Kx B σ hp F s A pos _ Er W st ok I a post2
  refine callWith_of (P:=fun h=>K.In h) rfl (keeps_K hk) ?_
  unfold evalArgs
  show wpAny _ A (spliced [] >>= _) _ Er s
  refine wpAny_bind (wpAny_mono this (fun vs s' h'=>wpAny_bind (wpAny_pure ?_)) fun _ _ x=>x)
  refine wpAny_holding ?_
  exact wpAny_bind (wpAny_pure (wpAny_bind (wpAny_pure (wpAny_pure h'))))
 | cons e rest=>
  rw [List.all_cons,Bool.and_eq_true] at hs
  exact callWith_K (h₀:=s.heap) (ok.into I) hk (ha Kx B σ hp F s A pos _ Er W st ok I a post2) (AW hs.1) (BY hs.2).1
theorem SW (Sa:Ac T K)(hΦ:∀f,f < T.nf→BZ w T Φ K n f (T.fa f)){f:Nat}{l:As}{x:Str}{p pos:Pos}{es:List Expr}(hx:T.fg f=some x)(hg:fr.isG x=true)(hd:(x==("__debug__":Str))=false)
  (hs:es.all AH=true) (ha:DG Φ K n fr l es) (hb:Bd 0 l=(T.fn f).mut_):AK Φ K n fr (.call f l) (.Call (.Name x p) es [] pos):=fun Kx B σ hp F s A Q Er W st ok I a post=>by
 obtain⟨hf,e,hk⟩:=Sa.fun_ f x hx
 refine wpAny_Call_NameR (Ei Sa fr (ok.into I) hg hd e ?_)
 refine Cn Sa hk hs ha W st ok I a fun B1 xs bs σ1 h1 hp1 vs s1 le1 W1 rl hbs hm st1 ok1 I1 rs1=>?_
 refine wpAny_call (hΦ f hf _ xs _ B1 h1 (hp1++F) s1 A _ W1 rl ok1 I1 a.f fun B2 r os g1 g2 v s2 le2 q rr ro I2 rs2=>?_)
 rw [←hb] at ro
 rw [List.nil_append,←hbs] at ro
 obtain⟨σ3,hp3,q3,st3,I3⟩:=CX Sa bs os q hm (fr.mono le2 st1) (ok1.mono le2) ro (F:=g1++F) (h:=s2.heap) (hp:=hp1) (I2.perm (by
  refine (AC (.refl _)).trans (List.Perm.append_left g2 ?_)
  exact AC (.refl _)))
 exact post B2 r σ3 g1 hp3 v s2 (le1.trans le2) q3 rr st3 (I3.perm (AC (.refl _))) (rs1.trans rs2)
theorem Rr {o:Expr}{name:Str}{apos pos:Pos}{es:List Expr}{A:Around}{s:Shared}{Q:Value→Shared→Prop}{Er:Value→Shared→Prop}(hbase:attributeBase o name env (eval o env)=eval o env)
  (hs:es.all AH=true) (hf:es.length < 30) (hline:(apos.endLine==pos.line)=true)
  (h:wpAny (model pw w) A (eval o env) (fun ov s₁=>wpAny (model pw w) A (getMethod ov name (do return (←importBound o env).getD true)) (fun fx s₂=>wpAny (model pw w) A (callWith pos fx.1 fx.2 (backTo pos (starEach es env)) []) Q Er s₂) Er s₁) Er s):
  wpAny (model pw w) A (eval (.Call (.Attribute o name apos) es [] pos) env) Q Er s:=by
 rw [arm_eval_Call,hbase]
 refine wpAny_bind (wpAny_mono h (fun ov s₁ h₁=>wpAny_bind (wpAny_standAt ?_)) fun _ _ e=>e)
 have hform:methodCallForm (es.length+([]:List Keyword).length) (backTo pos (starEach es env)) (backToKw pos (keywordEach [] env))=true:=by
  show ((backTo pos (starEach es env)).all (fun x=>!x.1)&&true&&decide (es.length+0+0 < 30))=true
  rw [(BY hs).2];simpa using hf
 have hpos:methodCallPos true o env apos pos=pure pos:=by unfold methodCallPos;simp [hline]
 unfold methodCall
 rw [hform]
 refine wpAny_bind (wpAny_holding ?_)
 show wpAny _ A (getMethod ov name (do return (←importBound o env).getD true)) _ Er s₁
 refine wpAny_mono h₁ (fun fx s₂ h₂=>?_) fun _ _ e=>e
 obtain⟨f,first⟩:=fx
 show wpAny _ A (methodCallPos true o env apos pos >>= _) Q Er s₂
 rw [hpos]
 exact wpAny_bind (wpAny_pure h₂)
theorem JH (x:Str):∀{B:PM} {f:List (Nat×V)} {es:List DictEntry} {hp:HP},(∀k∈f.map (·.1),k < 200→T.an k≠x)→RF T.toTab B f es hp→(∀k∈f.map (·.1),k < 200)→getL x es=some none
 | B,[],es,hp,hx,r,hk=>by cases r;rfl
 | B,(k,y)::f,es,hp,hx,r,hk=>by
  obtain⟨hs,t,v,es',h1,h2,r1,r2⟩:=r
  rw [Gv r2.noRef,if_neg (hx k (.head _) (hk k (.head _)))]
  exact JH x (fun k hm=>hx k (.tail _ hm)) r2 fun k hm=>hk k (.tail _ hm)
theorem NY (Sa:Ac T K){c m f:Nat}(hm:T.cm c m=some f){o:Bool}{fl:List (Nat×V)}{B:PM}{v:Value}{h1 hp:HP}{A:Around}{s:Shared}{pl:Sem Bool}{Q:Value×List Value→Shared→Prop}{Er:Value→Shared→Prop}
  (hx:(fl.map (·.1)).all (T.mx m)=true) (r:RV T.toTab B (.obj o c fl) v h1) (ok:Bk K B) (I:Inv B s.heap hp) (sub:∀p∈h1,p∈hp) (q:Q (.ref (T.fa f),[v]) s):wpAny (model pw w) A (getMethod v (T.mn m) pl) Q Er s:=by
 obtain⟨_,e1,e2,e3,e4,_,e5⟩:=Sa.meth c m f hm
 obtain⟨x,dx,es,k,hf,ow,rf,nd,lt⟩:=r
 obtain⟨gx,gd⟩:=PA I ow sub
 have IA:InstAt s.heap x (instObj (T.cls c) dx) (T.cls c) (some (AV es k)):=⟨gx,rfl,rfl,gd⟩
 refine method_fn (ok.into I) IA e1 e2 e3 e4 ?_ q
 unfold shadowIn
 show (lookIn (T.mn m) (AV es k)).map (·.isSome)=some false
 rw [JL,JH (T.mn m) (fun k hk l=>e5 k l (List.all_eq_true.mp hx k hk)) rf lt];rfl
theorem Le {x:V}{m f:Nat}(h:Di T x m=some f):∃q,Tw (UU x)=some q∧(q.2.2.map (·.1)).all (T.mx m)=true∧T.cm q.2.1 m=some f:=by
 obtain⟨q,e,h⟩:=Aw h
 refine⟨q,e,?_⟩
 revert h
 cases (q.2.2.map (·.1)).all (T.mx m) with
 | true=>exact fun h=>⟨rfl,h⟩
 | false=>exact nn
theorem Lj (Sa:Ac T K){m f:Nat}{x:V}(hm:Di T x m=some f){B:PM}{v:Value}{h1 hp:HP}{A:Around}{s:Shared}{pl:Sem Bool}{Q:Value×List Value→Shared→Prop}{Er:Value→Shared→Prop}
  (r:RV T.toTab B x v h1) (ok:Bk K B) (I:Inv B s.heap hp) (sub:∀p∈h1,p∈hp) (q:Q (.ref (T.fa f),[v]) s):wpAny (model pw w) A (getMethod v (T.mn m) pl) Q Er s:=by
 obtain⟨o,e,hx,hc⟩:=Le hm
 rcases Qp r with e1 | ⟨R1,e1,ne⟩
 ·rw [e1] at e
  have e:=Ik e
  subst e
  exact NY Sa hc hx r ok I sub q
 ·rw [Ik e] at R1
  exact NY Sa hc hx R1 ok I (fun p h=>nomatch h) q
end
theorem Pa {x:V}{m f:Nat}(h:Di T x m=some f):Di T (frz x) m=some f:=by
 cases x with
 | obj o c l=>
  cases o with
  | false=>exact h
  | true=>
   have h:(match (l.map (·.1)).all (T.mx m) with | true=>T.cm c m | false=>none)=some f:=h
   show (match ((OR l).map (·.1)).all (T.mx m) with | true=>T.cm c m | false=>none)=some f
   rwa [El]
 | lst o l=>exact nn h
 | dct o l=>exact nn h
 | _=>exact h
theorem TD {σ:List V}{p:Pt}{Kx:V→List V→Prop}{x:V}{m f:Nat}(q:Xf T σ p Kx)(g:get T σ p=some x)(h:Di T x m=some f):Xf T σ p fun y σ'=>Di T y m=some f∧Kx y σ':=by
 have hf:=Pa h
 unfold Xf at q ⊢
 rw [g] at q ⊢
 have put:∀{o:Option (List V)} {y:V},Di T y m=some f→AI o (Kx y)→AI o fun σ'=>Di T y m=some f∧Kx y σ':=fun e z=>by
  obtain⟨σ',e',z⟩:=AF z
  subst e';exact⟨e,z⟩
 cases x with
 | lst o l=>exact nn h
 | dct o l=>exact nn h
 | obj o c l=>
  cases o with
  | true=>exact put hf q
  | false=>exact⟨h,q⟩
 | _=>first | exact q.elim | exact⟨h,q⟩
theorem SG {a b c d:HP}:([]++((a++b)++(c++d))).Perm (b++(c++(a++d))):=by
 rw [List.nil_append,List.append_assoc]
 exact (AC (.refl _)).trans (List.Perm.append_left b (AC (.refl _)))
theorem Jv {a b c:HP}:(a++(b++c)).Perm (b++(a++c)):=AC (.refl _)
theorem Sq {a b c d:HP}:(a++(b++(c++d))).Perm (b++(c++(a++d))):=Jv.trans (List.Perm.append_left b (AC (.refl _)))
section
variable {Φ:Nat→List V→(V→List V→Prop)→Prop}{n:Nat}{nm:Nat→Option Str}{pins:List Nat}{fr:A8 w T env nm pins}
theorem WC {l:List Nat}{f g:List Nat→Prop}(h:bk l f g):(∃ms,l=0::ms∧f ms)∨(l=l∧g l):=by
 cases l with
 | nil=>exact .inr ⟨rfl,h⟩
 | cons x r=>
  cases x with
  | zero=>exact .inl ⟨r,rfl,h⟩
  | succ x=>exact .inr ⟨rfl,h⟩
theorem UK (Sa:Ac T K)(hΦ:∀f,f < T.nf→BZ w T Φ K n f (T.fa f)){p:Pt}{m:Nat}{l:As}{o:Expr}{name:Str}{apos pos:Pos}{es:List Expr}(mp:mP T nm p o=true)(hn:T.mn m=name)
  (hs:es.all AH=true) (hf:es.length < 30) (hline:(apos.endLine==pos.line)=true) (ha:DG Φ K n fr l es):AK Φ K n fr (.meth p m l) (.Call (.Attribute o name apos) es [] pos):=fun Kx B σ hp F s A Q Er W st ok I a post=>by
 subst hn
 obtain⟨x,g,W⟩:=AF W
 obtain⟨f,ef,W⟩:=AF W
 obtain⟨c,hc,hkk,hm⟩:=Le ef
 obtain⟨hfn,_,_,_,_,hk,_⟩:=Sa.meth _ m f hm
 refine Rr (Bm mp _) hs hf hline ?_
 rcases WC W with ⟨ms,em,ems,W⟩ | ⟨-,em,W⟩
 ·obtain⟨ho,W⟩:=XD W
  obtain⟨v,h1,hp1,σ1,W,r,st1,I1,ev⟩:=MU Sa st ok I mp g W
  refine ev (OS ho) A s _ Er rfl fun t=>?_
  refine Lj Sa ef r ok (s:={ s with toks:=t }) I1 (fun q hq=>List.mem_append_right _ (List.mem_append_left _ hq)) ?_
  refine Cn (s:={ s with toks:=t }) Sa hk hs ha W st1 ok I1 a fun B1 xs bs σ1 g1 hp1 vs s1 le1 W1 rl hbs hbm st1 ok1 I1 rs1=>?_
  refine wpAny_call (hΦ f hfn _ (x::xs) _ B1 (h1++g1) (hp1++F) s1 A _ W1 ⟨v,vs,h1,g1,r.mono le1,rl⟩ ok1 (I1.perm HJ) a.f fun B2 r os k1 k2 v' s2 le2 q rr ro I2 rs2=>?_)
  rw [em,ems] at ro
  have ro:RL T.toTab B2 os (v::(Bd 1 l).map fun i=>(v::vs).getD i .none) k2:=ro
  rw [A4,CW,←hbs] at ro
  obtain⟨σ3,hp3,q3,st3,I3⟩:=CX Sa ((p,v)::bs) os q (L0 mp hbm) (fr.mono le2 st1) (ok1.mono le2) ro (F:=k1++F) (h:=s2.heap) (hp:=hp1) (I2.perm Sq)
  have rs3:AO s s1:=⟨rs1.gens,rs1.os⟩
  exact post B2 _ σ3 k1 hp3 v' s2 (le1.trans le2) q3 rr st3 (I3.perm Jv) (rs3.trans rs2)
 ·refine UJ (Φ:=Φ) (n:=n) Sa mp _ B σ hp F s A _ Er (TD W g ef) st ok I a fun B1 x1 σ1 h1 hp1 v s1 le1 W1 r1 st1 I1 rs1=>?_
  obtain⟨ec,W1⟩:=W1
  have ok1:=ok.mono le1
  refine Lj Sa ec r1 ok1 I1 (fun q hq=>List.mem_append_left _ hq) ?_
  refine Cn Sa hk hs ha W1 st1 ok1 (F:=h1++F) (I1.perm Jv) a fun B2 xs bs σ2 g1 hp2 vs s2 le2 W2 rl hbs hbm st2 ok2 I2 rs2=>?_
  refine wpAny_call (hΦ f hfn _ (x1::xs) _ B2 (h1++g1) (hp2++F) s2 A _ W2 ⟨v,vs,h1,g1,r1.mono le2,rl⟩ ok2 (I2.perm HJ) a.f fun B3 r os k1 k2 v' s3 le3 q rr ro I3 rs3=>?_)
  rw [em] at ro
  replace ro:RL T.toTab B3 os ((Bd 1 l).map fun i=>(v::vs).getD i .none) k2:=ro
  rw [A4,CW,←hbs] at ro
  obtain⟨σ3,hp3,q3,st3,I4⟩:=CX Sa bs os q hbm (fr.mono le3 st2) (ok2.mono le3) ro (F:=k1++F) (h:=s3.heap) (hp:=hp2) (I3.perm Sq)
  exact post B3 _ σ3 k1 hp3 v' s3 ((le1.trans le2).trans le3) q3 rr st3 (I4.perm Jv) ((rs1.trans rs2).trans rs3)
theorem VU (Sa:Ac T K)(hΦ:∀f,f < T.nf→BZ w T Φ K n f (T.fa f)){c:Nat}{l:As}{x:Str}{p pos:Pos}{es:List Expr}(hx:T.cg c=some x)(hg:fr.isG x=true)(hd:(x==("__debug__":Str))=false)
  (hs:es.all AH=true) (ha:DG Φ K n fr l es) (hb:(T.fn (T.ci c)).mut_=0::Bd 1 l):AK Φ K n fr (.new c l) (.Call (.Name x p) es [] pos):=fun Kx B σ hp F s A Q Er W st ok I a post=>by
 obtain⟨hf,e,hk,hmk,hi,ht⟩:=Sa.cls_ c x hx
 refine wpAny_Call_NameR (Ei Sa fr (ok.into I) hg hd e ?_)
 refine Cn Sa hk hs ha W st ok I a fun B1 xs bs σ1 h1 hp1 vs s1 le1 W1 rl hbs hm st1 ok1 I1 rs1=>?_
 obtain⟨hh,gg,dd,tt,oo⟩:=s1
 have KI:K.In hh:=ok1.into I1
 refine wpAny_call (make_core (makes_of KI hmk) (looks_findIn KI hi) (fun self=>bind_fn KI self ht) (.inl rfl) ?_)
 have I2:Inv B1 ((hh.push emptyDict).push (instObj (T.cls c) hh.objs.size)) ([(hh.objs.size+1,instObj (T.cls c) hh.objs.size),(hh.objs.size,AV #[] 0)]++(h1++(hp1++F))):=by
  refine I1.more (fun b o e=>Heap.get?_push_of_some _ (Heap.get?_push_of_some _ e)) _ ?_ fun q hq=>?_
  ·simp
  ·have sz:(hh.push emptyDict).objs.size=hh.objs.size+1:=Heap.size_push ..
   rcases List.mem_cons.mp hq with rfl | hq
   ·refine⟨Heap.get?_none_of_le (Nat.le_succ _),?_⟩
    show ((hh.push emptyDict).push _).get? (hh.objs.size+1)=_
    rw [←sz];exact Heap.get?_push_size _ rfl
   ·rcases List.mem_cons.mp hq with rfl | hq
    ·exact⟨Heap.get?_none_of_le (Nat.le_refl _),Heap.get?_push_of_some _ (Heap.get?_push_size _ rfl)⟩
    ·cases hq
 refine hΦ (T.ci c) hf _ (.obj true c []::xs) _ B1 ([(hh.objs.size+1,instObj (T.cls c) hh.objs.size),(hh.objs.size,AV #[] 0)]++h1) (hp1++F) _ _ _ W1 ?_ ok1 ?_ ?_ fun B2 r os g1 g2 v s2 le2 q rr ro I3 rs2=>?_
 ·exact⟨_,vs,_,h1,dE.mk (hh.objs.size+1) hh.objs.size #[] 0 [] rfl ⟨⟩ List.nodup_nil nofun,rl⟩
 ·rw [List.append_assoc];exact I2
 ·have hw:(Code.builtin "type.__call__" ⟨.ref (T.cls c)::([]++vs),[]⟩).weight=1:=by kernel_rfl
  have hu:(Code.builtin "type.__call__" ⟨.ref (T.cls c)::([]++vs),[]⟩).cUnits≤25:=by
   show 1+3*(Code.builtin "type.__call__" ⟨.ref (T.cls c)::([]++vs),[]⟩).frames≤25
   have:(Code.builtin "type.__call__" ⟨.ref (T.cls c)::([]++vs),[]⟩).frames=0:=by kernel_rfl
   rw [this];decide
  refine⟨a.handled,?_,?_⟩
  ·show A.depth+_+3*n≤902
   have:=a.depth;lia
  ·show A.units+_+30*n≤9025
   have:=a.units;lia
 ·rw [hb] at ro
  replace ro:RL T.toTab B2 os (.ref (hh.objs.size+1)::(Bd 1 l).map fun i=>(.ref (hh.objs.size+1)::vs).getD i .none) g2:=ro
  rw [A4,CW,←hbs] at ro
  revert rr
  refine Tk q fun q rr=>?_
  revert ro
  refine A6 q fun y os q ro=>?_
  obtain⟨_,_,k1,k2,ry,ro⟩:=ro
  obtain⟨⟩:=rr
  obtain⟨σ3,hp3,q3,st3,I4⟩:=CX Sa bs os q hm (fr.mono le2 st1) (ok1.mono le2) ro (F:=k1++F) (h:=s2.heap) (hp:=hp1) (I3.perm (SG))
  exact⟨rfl,post B2 y σ3 k1 hp3 _ s2 (le1.trans le2) q3 ry st3 (I4.perm Jv) ⟨rs2.gens.trans rs1.gens,rs2.os.trans rs1.os⟩⟩
end
noncomputable def Bj (e:Expr):Bool:=!(Nat.beq e.ctorIdx 8||(Nat.beq e.ctorIdx 9||Nat.beq e.ctorIdx 10))
theorem DM {e:Expr}{t:Option Expr}{l:Nat}(h:Bj e=true):swapsWith e t l env=pure false:=by
 cases e <;> first | rfl | exact no h
section
variable {Φ:Nat→List V→(V→List V→Prop)→Prop}{n:Nat}{nm:Nat→Option Str}{pins:List Nat}{fr:A8 w T env nm pins}
theorem Bs (fr:A8 w T env nm pins):interactive env=false:=by unfold interactive;rw [fr.fk];rfl
theorem CC.nil:CC Φ K n fr .nil []:=fun Kx B σ hp F s A Q Er W st ok I a post=>wpAny_execs_nil (post.1 B σ hp s (PM.le.refl B) W st I (AO.refl s))
theorem OO.weak {B B1:PM}{F:HP}{s s1:Shared}{Kx:Fl→List V→Prop}{Q:Flow→Shared→Prop}(p:OO fr B F s Kx Q)(le:B.le B1)(r:AO s s1):OO fr B1 F s1 Kx Q:=
 ⟨fun B' σ' h2 s' l q st I rs=>p.1 B' σ' h2 s' (le.trans l) q st I (r.trans rs),fun B' x σ' h1 h2 v s' l q rv st I rs=>p.2 B' x σ' h1 h2 v s' (le.trans l) q rv st I (r.trans rs)⟩
theorem CC.cons {x:S}{l:Ss}{e:Stmt}{es:List Stmt}(hx:BH Φ K n fr x e)(hl:CC Φ K n fr l es):CC Φ K n fr (.cons x l) (e::es):=fun Kx B σ hp F s A Q Er W st ok I a post=>by
 refine wpAny_execs_cons (hx _ B σ hp F s A _ Er W st ok I a ⟨fun B1 σ1 hp1 s1 le1 W1 st1 I1 rs1=>?_,fun B1 x1 σ1 h1 hp1 v1 s1 le1 W1 r1 st1 I1 rs1=>?_⟩)
 ·exact hl Kx B1 σ1 hp1 F s1 A Q Er W1 st1 (ok.mono le1) I1 a (post.weak le1 rs1)
 ·exact post.2 B1 x1 σ1 h1 hp1 v1 s1 le1 W1 r1 st1 I1 rs1
theorem Se {pos:Pos}:BH Φ K n fr .pass (.Pass pos):=fun Kx B σ hp F s A Q Er W st ok I a post=>wpAny_Pass (post.1 B σ hp s (PM.le.refl B) W st I (AO.refl s))
theorem RC {x:E}{e:Expr}{pos:Pos}(hx:AK Φ K n fr x e)(hc:Bj e=true):BH Φ K n fr (.expr x) (.Expr e pos):=fun Kx B σ hp F s A Q Er W st ok I a post=>by
 refine wpAny_Expr_any (hx _ B σ hp F s A _ Er W st ok I a fun B1 x1 σ1 h1 hp1 v s1 le1 q r st1 I1 rs1=>?_) (Bs fr) (DM hc)
 exact post.1 B1 σ1 hp1 s1 le1 q st1 I1.right rs1
theorem CG (fr:A8 w T env nm pins){i:Nat}{y:Str}(hn:nm i=some y)(hi:i∉pins){B:PM}{σ:List V}{x:V}{v:Value}{h1 hp F:HP}{s:Shared}{A:Around}{Q:Unit→Shared→Prop}{Er:Value→Shared→Prop}
  (r:RV T.toTab B x v h1) (st:fr.ST B σ hp) (I:Inv B s.heap (h1++(hp++F))) (k:∀s' hp',AO s s'→fr.ST B (σ.set i x) hp'→Inv B s'.heap (hp'++F)→Q () s'):wpAny (model pw w) A (storeName env y v) Q Er s:=
 fr.store st hn hi r I k
theorem Pu {i:Nat}{x:E}{y:Str}{p pos:Pos}{e:Expr}(hn:nm i=some y)(hi:i∉pins)(hx:AK Φ K n fr x e)(hc:Bj e=true):BH Φ K n fr (.assign i x) (.Assign [.Name y p] e pos):=fun Kx B σ hp F s A Q Er W st ok I a post=>by
 refine wpAny_Assign_Name (hx _ B σ hp F s A _ Er W st ok I a fun B1 x1 σ1 h1 hp1 v s1 le1 q r st1 I1 rs1=>?_) (DM hc)
 exact CG fr hn hi r st1 I1 fun s2 hp2 rs2 st2 I2=>post.1 B1 _ hp2 s2 le1 q st2 I2 (rs1.trans rs2)
theorem V4 {x:E}{e:Expr}{pos:Pos}(hx:AK Φ K n fr x e):BH Φ K n fr (.ret x) (.Return (some e) pos):=fun Kx B σ hp F s A Q Er W st ok I a post=>by
 exact wpAny_Return_some (hx _ B σ hp F s A _ Er W st ok I a fun B1 x1 σ1 h1 hp1 v s1 le1 q r st1 I1 rs1=>post.2 B1 x1 σ1 h1 hp1 v s1 le1 q r st1 I1 rs1)
theorem TX {pos:Pos}:BH Φ K n fr .ret0 (.Return none pos):=fun Kx B σ hp F s A Q Er W st ok I a post=>
 wpAny_Return_none (post.2 B .none σ [] hp .none s (PM.le.refl B) W RV.ofNone st I (AO.refl s))
theorem X0 {c:E}{x y:Ss}{e:Expr}{b1 b2:List Stmt}{pos:Pos}(hc:Cf Φ K n fr c e)(hx:CC Φ K n fr x b1)(hy:CC Φ K n fr y b2):BH Φ K n fr (.ifs c x y) (.If e b1 b2 pos):=fun Kx B σ hp F s A Q Er W st ok I a post=>by
 refine wpAny_If (hc _ B σ hp F s A _ Er W (fun z σ q=>?_) st ok I a fun B1 b σ1 hp1 s1 le1 W1 st1 ok1 I1 rs1=>?_)
 ·exact Yi q
 ·cases b with
  | true=>exact hx Kx B1 σ1 hp1 F s1 A Q Er W1 st1 ok1 I1 a (post.weak le1 rs1)
  | false=>exact hy Kx B1 σ1 hp1 F s1 A Q Er W1 st1 ok1 I1 a (post.weak le1 rs1)
end
theorem Tl {A:Around}{s:Shared}{Q:Unit→Shared→Prop}{Er:Value→Shared→Prop}{a:Addr}{es:List DictEntry}{n:Nat}{name:Str}{v:Value}(g:s.heap.get? a=some (dictOf es n))(nr:es.any (·.refKey)=false)
  (h:∀h',h'.get? a=some (dictOf (putL name (PyData.keyHash w.params name) (.str name s.toks) v es) (putN name es n))→(∀b,b≠a→h'.get? b=s.heap.get? b)→Q () { s with heap:=h',toks:=s.toks+1 }):
  wpAny (model pw w) A (nsSet a name v) Q Er s:=by
 unfold nsSet
 refine wpAny_bind (wpAny_bind (wpAny_askSetting (wpAny_pure (wpAny_bind (wpAny_mkText (wpAny_bind (wpAny_loadPart g ?_)))))))
 have c:aRefKeyMayBeTheName name es.toArray=false:=by
  rw [aRefKeyMayBeTheName_at,List.any_toArray,List.any_toArray,nr,Bool.and_false]
 dsimp only
 rw [c]
 refine wpAny_updatePart g ?_
 have e:=putName_dict name (PyData.keyHash w.params name) (.str name s.toks) v es n
 have D':(s.heap.update a (Obj.putName name (PyData.keyHash w.params name) (.str name s.toks) v)).get? a=some (dictOf (putL name (PyData.keyHash w.params name) (.str name s.toks) v es) (putN name es n)):=by
  rw [←e];exact Heap.get?_update_self _ g (by rw [e];rfl)
 exact h _ D' fun b hb=>Heap.get?_update_ne _ _ _ _ hb
theorem Pv {A:Around}{s:Shared}{Q:Unit→Shared→Prop}{Er:Value→Shared→Prop}{x C dx:Addr}{es:List DictEntry}{n:Nat}{name:Str}{v:Value}(X:K.In s.heap)(gx:s.heap.get? x=some (instObj C dx))(g:s.heap.get? dx=some (dictOf es n))
  (hs:findIn K (.ref C) "__setattr__"=some (some (.builtin "object.__setattr__"))) (hp:plainOver K C=true) (ht:takerIn K C name=some none) (hh:hasDictIn K C=true) (nr:es.any (·.refKey)=false)
  (hz:∀hs key,(putL name hs key v es).length≤1000)
  (h:∀h' hs t,h'.get? dx=some (dictOf (putL name hs (.str name t) v es) (putN name es n))→(∀b,b≠dx→h'.get? b=s.heap.get? b)→Q () { s with heap:=h',toks:=s.toks+2 }):
  wpAny (model pw w) A (setAttr (.ref x) name v) Q Er s:=by
 have I:InstAt s.heap x (instObj C dx) C (some (dictOf es n)):=⟨gx,rfl,rfl,g⟩
 refine set_plain X I hs (osa_open (s:={ s with toks:=s.toks+1 }) X I hp ht fun b=>?_)
 obtain⟨cd,hc,hd'⟩:=any_some hh
 refine wpAny_bind (wpAny_pure (wpAny_bind (wpAny_bind (wpAny_loadPart (s:={ s with toks:=s.toks+1 }) gx (wpAny_bind (Looks.here (s:={ s with toks:=s.toks+1 }) (looks_clsIn (h:=s.heap) X hc) ?_))))))
 rw [hd']
 refine wpAny_pure (a:=some dx) (wpAny_bind (wpAny_pure (wpAny_bind (Tl (s:={ s with toks:=s.toks+1 }) g nr fun h' D' k=>?_))))
 refine wpAny_bind (wpAny_lookBehind D' (pastItsLine_dict (by rw [List.size_toArray,sizeLine_eq];have:=hz (PyData.keyHash w.params name) (.str name (s.toks+1));exact Nat.le_trans this (by decide))) ?_)
 exact wpAny_pure (h h' _ _ D' k)
theorem Ok {x name:Str}{t:Tok}:Value.isStr (.str x t) name=decide (x=name):=by
 show (x==name)=_
 by_cases h:x=name
 ·subst h;simp
 ·simp [h]
theorem N6 (name:Str)(hs:Int)(key v:Value):∀es:List DictEntry,(putL name hs key v es).length≤es.length+1
 | []=>Nat.le_refl _
 | e::r=>by
  unfold putL
  split
  ·exact Nat.le_succ _
  ·simp only [List.length_cons];exact Nat.succ_le_succ (N6 name hs key v r)
theorem RF.len {B:PM}:∀{f:List (Nat×V)} {es:List DictEntry} {hp:HP},RF T.toTab B f es hp→es.length=f.length
 | [],es,hp,r=>by cases r;rfl
 | (k,y)::f,es,hp,r=>by
  obtain⟨hs,t,v,es',h1,h2,r1,r2⟩:=r
  rw [List.length_cons,List.length_cons,r2.len]
theorem Ro {x name:Str}{t:Tok}(h:x≠name):Value.isStr (.str x t) name=false:=Ok.trans (decide_eq_false h)
theorem UN {name:Str}{hs h0:Int}{t t0:Tok}{v v0:Value}{es:List DictEntry}:putL name hs (.str name t) v (⟨h0,.str name t0,v0⟩::es)=⟨h0,.str name t0,v⟩::es:=by
 unfold putL;rw [Ok,decide_eq_true rfl];rfl
theorem Rt {name k:Str}{hs h0:Int}{t t0:Tok}{v v0:Value}{es:List DictEntry}(ne:k≠name):putL name hs (.str name t) v (⟨h0,.str k t0,v0⟩::es)=⟨h0,.str k t0,v0⟩::putL name hs (.str name t) v es:=by
 conv=>lhs;unfold putL
 rw [Ro ne];rfl
inductive aM (T:Tabs)(a:Nat)(f:List (Nat×V))(es:List DictEntry)(hp:HP)(B:PM):Prop
 | mk (g h2:HP) (p:hp.Perm (g++h2)) (back:∀B' y v hs t h1',B.le B'→RV T.toTab B' y v h1'→Upd (h1'++h2) (RF T.toTab B' (Fy f a y) (putL (T.an a) hs (.str (T.an a) t) v es)))
theorem RF.set {B:PM}(Sa:Ac T K){a:Nat}(ha:a < 200):∀{f:List (Nat×V)} {es:List DictEntry} {hp:HP},RF T.toTab B f es hp→(∀k∈f.map (·.1),k < 200)→aM T a f es hp B
 | [],es,hp,r,hk=>by
  obtain⟨⟩:=r
  exact⟨[],[],.refl _,fun B' y v hs t h1' le r'=>⟨h1'++[],.refl _,hY.mk hs t v [] h1' [] r' ⟨⟩⟩⟩
 | (k,x)::f,es,hp,r,hk=>by
  obtain⟨hs0,t0,v0,es',h1,h2,r1,r2⟩:=r
  by_cases q:k=a
  ·subst q
   refine⟨h1,h2,.refl _,fun B' y v hs t h1' le r'=>⟨h1'++h2,.refl _,?_⟩⟩
   rw [UN,Ek,if_pos rfl]
   exact⟨hs0,t0,v,es',h1',h2,r',r2.mono le⟩
  ·obtain⟨g,k2,p,back⟩:=RF.set Sa ha r2 (fun k hm=>hk k (.tail _ hm))
   refine⟨g,h1++k2,AC p,fun B' y v hs t h1' le r'=>?_⟩
   obtain⟨hp',p',rf⟩:=back B' y v hs t h1' le r'
   refine⟨h1++hp',AC p',?_⟩
   rw [Rt fun z=>q (Sa.inj _ _ (hk k (.head _)) ha z),Ek,if_neg q]
   exact⟨hs0,t0,v0,_,h1,hp',r1.mono le,rf⟩
noncomputable def cP (l m:List Nat)(a:Nat):Prop:=m.Nodup∧∀k∈m,k=a∨k∈l
theorem JO (a:Nat)(y:V):∀(f:List (Nat×V)),(f.map (·.1)).Nodup→cP (f.map (·.1)) ((Fy f a y).map (·.1)) a
 | [],_=>⟨(List.nodup_cons (l:=[])).mpr ⟨nofun,List.nodup_nil⟩,fun k hk=>by
  cases hk with
  | head=>exact .inl rfl
  | tail _ h=>exact nomatch h⟩
 | (k,x)::f,nd=>by
  rw [List.map_cons,List.nodup_cons] at nd
  rw [Ek]
  by_cases q:k=a
  ·rw [if_pos q]
   exact⟨List.nodup_cons.mpr nd,fun j hj=>.inr hj⟩
  ·rw [if_neg q]
   obtain⟨n1,n2⟩:=JO a y f nd.2
   refine⟨List.nodup_cons.mpr ⟨fun z=>?_,n1⟩,fun j hj=>?_⟩
   ·rcases n2 k z with e | e
    ·exact q e
    ·exact nd.1 e
   ·cases hj with
    | head=>exact .inr (.head _)
    | tail _ hj=>exact (n2 j hj).imp id (.tail _)
theorem Sc {x d':Addr×Obj}{hy hf R g h2 hp':HP}(p:hf.Perm (g++h2))(p':hp'.Perm (hy++h2)):(d'::(x::(hy++(hf++R)))).Perm (g++((x::d'::hp')++R)):=by
 refine (List.Perm.swap _ _ _).trans (AC (p:=[x,d']) (g2:=hp'++R) ?_)
 refine (List.Perm.append_left hy (Ag p)).trans ((AC (.refl _)).trans (List.Perm.append_left g ?_))
 rw [←List.append_assoc]
 exact p'.symm.append_right R
theorem YD {l:List Nat}(nd:l.Nodup)(lt:∀k∈l,k < 200):l.length≤200:=by
 have:=List.Nodup.length_le_of_subset nd (l₂:=List.range 200) (fun k hk=>List.mem_range.mpr (lt k hk))
 rwa [List.length_range] at this
theorem MB (Sa:Ac T K){c a:Nat}(hc:T.cs c a=true){f:List (Nat×V)}{B:PM}{v u:Value}{g1 hy R0:HP}{y:V}{A:Around}{s:Shared}{Q:Unit→Shared→Prop}{Er:Value→Shared→Prop}
  (R:RV T.toTab B (.obj true c f) v g1) (ry:RV T.toTab B y u hy) (ok:Bk K B) (I:Inv B s.heap (hy++(g1++R0))) (k:∀s' g1',AO s s'→RV T.toTab B (.obj true c (Fy f a y)) v g1'→Inv B s'.heap (g1'++R0)→Q () s'):
  wpAny (model pw w) A (setAttr v (T.an a) u) Q Er s:=by
 obtain⟨ha,e1,e2,e3,e4⟩:=Sa.set_ c a hc
 obtain⟨x,dx,es,n,hf,ow,rf,nd,lt⟩:=R
 have ow:g1=(x,instObj (T.cls c) dx)::(dx,AV es n)::hf:=ow
 subst ow
 have gx:=I.own (x,instObj (T.cls c) dx) (List.mem_append_right _ (.head _))
 have gd:=I.own (dx,AV es n) (List.mem_append_right _ (.tail _ (.head _)))
 obtain⟨g,h2,p,back⟩:=rf.set Sa ha lt
 have sz:=YD nd lt
 rw [List.length_map,←rf.len] at sz
 refine Pv (es:=es.toList) (n:=n) (ok.into I) gx (by rw [gd]) e1 e2 e3 e4 rf.noRef (fun hs key=>Nat.le_trans (N6 (T.an a) hs key u es.toList) (Nat.le_trans (Nat.succ_le_succ sz) (by decide))) fun h' hs t D' kk=>?_
 obtain⟨hp',p',rf'⟩:=back B y u hs t hy (PM.le.refl B) ry
 have I1:Inv B s.heap ((dx,AV es n)::((x,instObj (T.cls c) dx)::(hy++(hf++R0)))):=I.perm ((AC (g1:=[(x,instObj (T.cls c) dx),(dx,AV es n)]) (g2:=hf++R0) (.refl _)).trans (List.Perm.swap _ _ _))
 obtain⟨n1,n2⟩:=JO a y f nd
 exact k _ ((x,instObj (T.cls c) dx)::(dx,dictOf (putL (T.an a) hs (.str (T.an a) t) u es.toList) (putN (T.an a) es.toList n))::hp') ⟨rfl,rfl⟩
  (dE.mk x dx (putL (T.an a) hs (.str (T.an a) t) u es.toList).toArray _ hp' rfl rf' n1 fun j hj=>(n2 j hj).elim (fun e=>e▸ha) (lt j)) ((I1.upd kk D').perm (Sc p p')).right
section
variable {Φ:Nat→List V→(V→List V→Prop)→Prop}{n:Nat}{nm:Nat→Option Str}{pins:List Nat}{fr:A8 w T env nm pins}
theorem Y2 {x y:V}{Kx:V→Prop}{B:PM}{v u:Value}{hx hy:HP}{s:Shared}{A:Around}{Q:Value→Shared→Prop}{Er:Value→Shared→Prop}(q:Wd x y Kx)(rx:RV T.toTab B x v hx)(ry:RV T.toTab B y u hy)
  (post:∀i t,Kx (.int i)→Q (.int i t) { s with toks:=s.toks+1 }):wpAny (model pw w) A (inplaceOp .Add v u) Q Er s:=by
 obtain⟨i,t,q⟩:=AZ q rx
 obtain⟨j,t',q⟩:=AZ q ry
 exact AutoIntOps.iadd_0 (post _ _ q)
theorem Nt (Sa:Ac T K){p:Pt}{a:Nat}{x:E}{o e:Expr}{name:Str}{p1 pos:Pos}(mp:mP T nm p o=true)(hn:T.an a=name)(hx:AK Φ K n fr x e)(hc:Bj e=true):
  BH Φ K n fr (.setattr p a x) (.Assign [.Attribute o name p1] e pos):=fun Kx B σ hp F s A Q Er W st ok I ak post=>by
 subst hn
 refine plainObj_wpAny_Assign_Attribute (hx _ B σ hp F s A _ Er W st ok I ak fun B1 x1 σ1 h1 hp1 v s1 le1 q r st1 I1 rs1=>?_) (DM hc)
 obtain⟨c,f,g,q⟩:=UB q
 obtain⟨hcs,q⟩:=q
 obtain⟨σ2,ep,q⟩:=AF q
 obtain⟨u,⟨g1,g2,pp,R,back⟩,ev⟩:=Ak fr Sa st1 (ok.mono le1) (I1.perm (AC (.refl _))) mp g
 refine ev rfl A s1 _ Er rfl fun t=>?_
 refine MB Sa hcs (s:={ s1 with toks:=t }) R r (ok.mono le1) (I1.perm (List.Perm.append_left h1 (Ag pp))) fun s2 g1' rs2 R' I3=>?_
 obtain⟨hp2,p2,st2⟩:=back B1 _ g1' σ2 (PM.le.refl _) R' ep
 exact post.1 B1 σ2 hp2 s2 le1 q st2 (I3.perm (by rw [←List.append_assoc];exact p2.symm.append_right F)) (rs1.trans ⟨rs2.gens,rs2.os⟩)
theorem QI {i:Nat}{x:E}{y:Str}{p pos:Pos}{e:Expr}(hn:nm i=some y)(hi:i∉pins)(hx:AK Φ K n fr x e):BH Φ K n fr (.augVar i x) (.AugAssign (.Name y p) .Add e pos):=fun Kx B σ hp F s A Q Er W st ok I ak post=>by
 refine wpAny_AugAssign_Name ?_
 have rest:∀(x1:V) (v:Value) (B1:PM) (σ1:List V) (hp1:HP),B.le B1→RV T.toTab B1 x1 v []→fr.ST B1 σ1 hp1→Inv B1 s.heap (hp1++F)→WE T Φ x σ1 (fun y σ=>Cq y fun y=>Wd x1 y fun z=>Kx .next (σ.set i z))→
   wpAny (model pw w) A (eval e env) (fun v_1 s₂=>wpAny (model pw w) A (inplaceOp .Add v v_1) (fun r s₃=>wpAny (model pw w) A (storeName env y r) (fun _=>Q .next) Er s₃) Er s₂) Er s:=by
  intro x1 v B1 σ1 hp1 le1 r1 st1 I1 W
  refine hx.fz W st1 (ok.mono le1) I1 ak fun B2 x2 σ2 hp2 v2 s2 le2 W2 nx r2 st2 ok2 I2 rs2=>?_
  refine Y2 W2 (r1.mono le2) r2 fun k t q=>?_
  exact CG fr hn hi (h1:=[]) (x:=.int k) RV.ofInt st2 (s:={ s2 with toks:=s2.toks+1 }) I2 fun s3 hp3 rs3 st3 I3=>post.1 B2 _ hp3 s3 (le1.trans le2) q st3 I3 (rs2.trans ⟨rs3.gens,rs3.os⟩)
 have fin:∀{x0},get T σ (.var i)=some x0→(∀v,dc T fr.ST B σ hp (.var i) x0 v→wpAny (model pw w) A (eval e env) (fun v_1 s₂=>wpAny (model pw w) A (inplaceOp .Add v v_1) (fun r s₃=>wpAny (model pw w) A (storeName env y r) (fun _=>Q .next) Er s₃) Er s₂) Er s)→wpAny (model pw w) A (loadName env y) (fun v s₁=>wpAny (model pw w) A (eval e env) (fun v_1 s₂=>wpAny (model pw w) A (inplaceOp .Add v v_1) (fun r s₃=>wpAny (model pw w) A (storeName env y r) (fun _=>Q .next) Er s₃) Er s₂) Er s₁) Er s:=fun g q=>by
  obtain⟨y,hy,g⟩:=Aw g
  have e:=Q2 g
  subst e
  obtain⟨v,h1,h2,pp,r,ld,back,-⟩:=fr.load st hy (fun z=>QQ (z▸g)) hn
  refine ld A F s _ Er I (q v ⟨h1,h2,pp,r,fun B' x' h1' σ' le r' ep=>?_⟩)
  cases ep
  exact⟨_,.refl _,back B' x' h1' le r'⟩
 change Xf T σ (.var i) (fun x1 σ1=>WE T Φ x σ1 fun y σ=>Cq y fun y=>Wd x1 y fun z=>Kx .next (σ.set i z)) at W
 rcases Lq W with ⟨x0,g,hx,ez,kx⟩ | ⟨x0,g,hx,σ',ep,kx⟩
 ·refine fin g fun v ⟨h1,h2,pp,r,back⟩=>?_
  have e1:=RV.fz_nil r ez
  subst e1
  exact rest x0 v B σ hp (PM.le.refl B) r st I kx
 ·refine fin g fun v ⟨h1,h2,pp,r,back⟩=>?_
  have I2:Inv B s.heap (h1++(h2++F)):=I.perm (Ag pp)
  have le:=Cy I2.left
  obtain⟨hp',q,st'⟩:=back _ _ [] σ' le (r.frz le (DS I2.left)) ep
  exact rest (frz x0) v _ σ' hp' le (r.frz le (DS I2.left)) st' (I2.freeze.perm (q.symm.append_right F)) kx
end
noncomputable def RP (T:Tabs)(B:PM):List (Int×V)→List (Int×Value)→Prop
 | [],kvs=>kvs=[]
 | (k,x)::l,kvs=>∃v kvs',kvs=(k,v)::kvs'∧RV T.toTab B x v []∧RP T B l kvs'
theorem RD.pairs (w:World){B:PM}:∀{l:List (Int×V)} {es:List DictEntry},RD T.toTab B l es→∃kvs,RP T B l kvs∧Pairs (intKind pw w) es kvs
 | [],es,r=>by cases r;exact⟨[],rfl,.nil⟩
 | (k,x)::l,es,r=>by
  obtain⟨t,v,es',rx,rl⟩:=r
  obtain⟨kvs,rp,p⟩:=RD.pairs w rl
  exact⟨(k,v)::kvs,⟨v,kvs,rfl,rx,rp⟩,.cons (beq_self_eq_true k) rfl p⟩
theorem RP.dict {B:PM}:∀{l:List (Int×V)} {kvs:List (Int×Value)} {es:List DictEntry},RP T B l kvs→Pairs (intKind pw w) es kvs→(∀e∈es,∃k,Value.isInt k e.key=true∧e.hash=hashInt k)→RD T.toTab B l es
 | [],kvs,es,r,p,h=>by
  cases r
  cases p;rfl
 | (k,x)::l,kvs,es,r,p,h=>by
  obtain⟨v,kvs',e,rx,rl⟩:=r
  subst e
  cases p with
  | cons e1 e2 p=>
   rename_i e es'
   obtain⟨hs,ky,vl⟩:=e
   obtain⟨t,e1⟩:=Value.isInt_shape e1
   obtain⟨k',h1,h2⟩:=h _ (.head _)
   have e1:ky=.int k t:=e1
   subst e1
   obtain⟨t',h1⟩:=Value.isInt_shape h1
   injection h1 with h1 _
   subst h1
   have h2:hs=hashInt k:=h2
   have e2:vl=v:=e2
   subst h2 e2
   exact⟨t,vl,es',rx,RP.dict rl p fun e he=>h e (.tail _ he)⟩
theorem RP.keys {B:PM}:∀{l:List (Int×V)} {kvs:List (Int×Value)},RP T B l kvs→kvs.map (·.1)=l.map (·.1)
 | [],kvs,r=>by cases r;rfl
 | (k,x)::l,kvs,r=>by
  obtain⟨v,kvs',e,rx,rl⟩:=r
  subst e
  rw [List.map_cons,List.map_cons,rl.keys]
theorem RP.mono {B B':PM}(le:B.le B'):∀{l:List (Int×V)} {kvs:List (Int×Value)},RP T B l kvs→RP T B' l kvs
 | [],kvs,r=>r
 | (k,x)::l,kvs,r=>by
  obtain⟨v,kvs',e,rx,rl⟩:=r
  exact⟨v,kvs',e,rx.mono le,rl.mono le⟩
theorem RP.set {B:PM}{k:Int}{y:V}{u:Value}(ry:RV T.toTab B y u []):∀{l:List (Int×V)} {kvs:List (Int×Value)},RP T B l kvs→RP T B (Mx l k y) (Mx kvs k u)
 | [],kvs,r=>by
  cases r;exact⟨u,[],rfl,ry,rfl⟩
 | (i,x)::l,kvs,r=>by
  obtain⟨v,kvs',e,rx,rl⟩:=r
  subst e
  rw [Mn,Mn]
  by_cases h:i=k
  ·rw [if_pos h,if_pos h]
   exact⟨u,kvs',rfl,ry,rl⟩
  ·rw [if_neg h,if_neg h]
   exact⟨v,_,rfl,rx,RP.set ry rl⟩
theorem Lb (k:Int)(u:Value):∀{kvs:List (Int×Value)},(kvs.map (·.1)).Nodup→stored kvs k u=Mx kvs k u
 | [],_=>rfl
 | (i,v)::r,nd=>by
  rw [List.map_cons,List.nodup_cons] at nd
  have ih:=Lb k u nd.2
  unfold stored at ih ⊢
  rw [Mn]
  by_cases h:i=k
  ·subst h
   have off:r.map (fun kv=>if kv.1=i then (kv.1,u) else kv)=r:=by
    conv=>rhs;rw [←List.map_id r]
    refine List.map_congr_left fun a ha=>?_
    rw [if_neg fun e=>nd.1 (List.mem_map.mpr ⟨a,ha,e⟩)];rfl
   simp only [List.any_cons,decide_true,Bool.true_or,if_true,List.map_cons,off]
  ·rw [if_neg h]
   simp only [List.any_cons,h,decide_false,Bool.false_or]
   by_cases z:r.any (fun kv=>decide (kv.1=k))=true
   ·rw [if_pos z] at ih ⊢
    rw [List.map_cons,if_neg h,ih]
   ·rw [if_neg z] at ih ⊢
    rw [List.cons_append,ih]
theorem OW {α:Type}(k:Int)(y:α):∀l:List (Int×α),(Mx l k y).length≤l.length+1
 | []=>Nat.le_refl _
 | (i,x)::r=>by
  rw [Mn]
  split
  ·exact Nat.le_succ _
  ·simp only [List.length_cons];exact Nat.succ_le_succ (OW k y r)
theorem U6 {l:List (Int×V)}{i:Int}{t:Tok}{B:PM}{v u:Value}{g1 R0:HP}{y:V}{A:Around}{s:Shared}{Q:Unit→Shared→Prop}{Er:Value→Shared→Prop}(hz:l.length < 1000000)
  (R:RV T.toTab B (.dct true l) v g1) (ry:RV T.toTab B y u []) (I:Inv B s.heap (g1++R0)) (k:∀s' g1',AO s s'→RV T.toTab B (.dct true (Mx l i y)) v g1'→Inv B s'.heap (g1'++R0)→Q () s'):
  wpAny (model pw w) A (PySem.setItem v (.int i t) u) Q Er s:=by
 obtain⟨a,es,n,ow,rd,nd,z⟩:=R
 have ow:g1=[(a,AV es n)]:=ow
 subst ow
 obtain⟨kvs,rp,ps⟩:=rd.pairs w
 have nd':(kvs.map (·.1)).Nodup:=by rw [rp.keys];exact nd
 have ga:=I.own (a,AV es n) (.head _)
 have ln:kvs.length=l.length:=by rw [←List.length_map,rp.keys,List.length_map]
 refine wpAny_setItem_pairs (knd:=intKind pw w) (k:=i) (kvs:=kvs) (beq_self_eq_true i)
  ⟨_,es,n,ga,⟨rfl,rfl,rfl⟩,rfl,(fun e he=>by obtain⟨k,t,e1,e2⟩:=rd.keys e (by simpa using he);exact⟨k,by rw [e1];exact beq_self_eq_true k,e2⟩),ps,nd'⟩ (fun h' D sb=>?_) (by have zl:sizeLine=2 ^ 24:=sizeLine_eq;lia)
 obtain⟨o,es',n',ho,⟨o1,o2,o3⟩,hd,ks,ps',nd2⟩:=D
 obtain⟨oc,od,oda,os⟩:=o
 cases o1;cases o2;cases o3;cases hd
 rw [Lb i u nd'] at ps' nd2
 have rp':=rp.set (k:=i) ry
 rw [rp'.keys] at nd2
 refine k _ [(a,AV es' n')] ⟨rfl,rfl⟩ (Z5.mk a es' n' rfl (rp'.dict ps' fun e he=>ks e (by simpa using he)) nd2 ?_) ((show Inv B s.heap ((a,AV es n)::R0) from I).upd sb.2 ho)
 rw [List.length_map]
 exact Nat.le_trans (OW i y l) (Nat.le_trans hz (by rw [sizeLine_eq];decide))
theorem RL.set1 {B:PM}{y:V}{u:Value}(ry:RV T.toTab B y u []):∀{l:List V} {vs:List Value} {j:Nat},RL T.toTab B l vs []→j < l.length→RL T.toTab B (l.set j y) (vs.set j u) []
 | x::l,vs,0,r,h=>by
  obtain⟨v,vs',r1,r2⟩:=RL.unN r
  exact RL.consN ry r2
 | x::l,vs,j+1,r,h=>by
  obtain⟨v,vs',r1,r2⟩:=RL.unN r
  exact RL.consN r1 (RL.set1 ry r2 (Nat.lt_of_succ_lt_succ h))
theorem HK (f:Array Value→Array Value)(vs:Array Value)(n:Nat):∃n',Obj.mapSeq f (AD vs n)=AD (f vs) n':=⟨_,rfl⟩
theorem Dj {B:PM}{h:Heap}{a:Addr}{vs:Array Value}{n:Nat}{R:HP}(f:Array Value→Array Value)(I:Inv B h ((a,AD vs n)::R)):∃n',Inv B (h.update a (Obj.mapSeq f)) ((a,AD (f vs) n')::R):=by
 obtain⟨n',e⟩:=HK f vs n
 have ga:=I.own (a,AD vs n) (.head _)
 exact⟨n',I.upd (fun b hb=>Heap.get?_update_ne _ _ _ _ hb) (by rw [←e];exact Heap.get?_update_self _ ga (by rw [e];rfl))⟩
theorem Qk {l:List V}{i:Int}{t:Tok}{B:PM}{v u:Value}{g1 R0:HP}{y:V}{A:Around}{s:Shared}{Q:Unit→Shared→Prop}{Er:Value→Shared→Prop}(h0:0≤i)(h1:i < l.length)
  (R:RV T.toTab B (.lst .sh l) v g1) (ry:RV T.toTab B y u []) (I:Inv B s.heap (g1++R0)) (k:∀s' g1',AO s s'→RV T.toTab B (.lst .sh (M4 l i y)) v g1'→Inv B s'.heap (g1'++R0)→Q () s'):
  wpAny (model pw w) A (PySem.setItem v (.int i t) u) Q Er s:=by
 obtain⟨z,a,vs,n,rl⟩:=Hr R
 cases i with
 | negSucc j=>exact absurd h0 (by simp)
 | ofNat j=>
 have hj:j < l.length:=Int.ofNat_lt.mp h1
 have vj:j < vs.size:=by rw [show vs.size=l.length from rl.len];exact hj
 have ga:=I.own (a,AD vs n) (.head _)
 have zl:sizeLine=2 ^ 24:=sizeLine_eq
 refine ki_setAt (n:=n) ga h0 (by lia) (Int.ofNat_lt.mpr vj) ?_
 obtain⟨n',I2⟩:=Dj (·.setIfInBounds j u) (show Inv B s.heap ((a,AD vs n)::R0) from I)
 exact k _ [(a,AD (vs.setIfInBounds j u) n')] ⟨rfl,rfl⟩ (Hp (l:=l.set j y) (by rw [List.length_set];exact z) (by rw [Array.toList_setIfInBounds];exact RL.set1 ry rl hj)) I2
section
variable {Φ:Nat→List V→(V→List V→Prop)→Prop}{n:Nat}{nm:Nat→Option Str}{pins:List Nat}{fr:A8 w T env nm pins}
noncomputable def Zp (T:Tabs)(nm:Nat→Option Str):Ix→Expr→Bool
 | .lit i,e=>IW e i
 | .at_ p,e=>mP T nm p e
theorem TZ (Sa:Ac T K)(fr:A8 w T env nm pins){j:Ix}{e:Expr}{B:PM}{σ:List V}{hp:HP}{i:Int}(m:Zp T nm j e=true)(st:fr.ST B σ hp)(ok:Bk K B)(g:dL T σ j=some i)
  {A:Around} {F:HP} {s:Shared} {Q:Value→Shared→Prop} {E:Value→Shared→Prop} (I:Inv B s.heap (hp++F)) (q:∀t t',Q (.int i t) { s with toks:=t' }):wpAny (model pw w) A (eval e env) Q E s:=by
 cases j with
 | lit i0=>
  cases g
  refine BX m fun k p=>?_
  exact wpAny_Constant_int (q s.toks (s.toks+1))
 | at_ p=>
  obtain⟨x,gk,g⟩:=Aw g
  cases Qg g
  obtain⟨v,⟨h1,h2,pp,r,-⟩,ev⟩:=Ak fr Sa st ok I m gk
  obtain⟨t⟩:=r
  exact ev rfl A s Q E rfl fun t'=>q t t'
theorem Nf (Sa:Ac T K){p:Pt}{j:Ix}{x:E}{o i e:Expr}{p1 pos:Pos}(mp:mP T nm p o=true)(mj:Zp T nm j i=true)(hx:AK Φ K n fr x e)(hc:Bj e=true):
  BH Φ K n fr (.setitem p j x) (.Assign [.Subscript o i p1] e pos):=fun Kx B σ hp F s A Q Er W st ok I ak post=>by
 refine wpAny_Assign_Subscript (hx.fz W st ok I ak fun B1 x1 σ1 hp1 v s1 le1 q nx r st1 ok1 I1 rs1=>?_) (DM hc)
 obtain⟨k,gk,q⟩:=AF q
 obtain⟨y,g,q⟩:=AF q
 obtain⟨u,⟨g1,g2,pp,R,back⟩,ev⟩:=Ak fr Sa st1 ok1 I1 mp g
 have I2:=I1.perm (Ag pp)
 have fin:∀{y' σ2 s2 g1'},put T σ1 p y'=some σ2→Kx .next σ2→AO s1 s2→RV T.toTab B1 y' u g1'→Inv B1 s2.heap (g1'++(g2++F))→Q .next s2:=fun ep q rs2 R' I3=>by
  obtain⟨hp2,p2,st2⟩:=back B1 _ _ _ (PM.le.refl _) R' ep
  exact post.1 B1 _ hp2 _ le1 q st2 (I3.perm (Ag p2.symm.symm).symm) (rs1.trans rs2)
 cases y with
 | lst oo l=>
  cases oo with
  | sh=>
   obtain⟨z0,z1,q⟩:=q
   obtain⟨σ2,ep,q⟩:=AF q
   refine ev rfl A s1 _ Er rfl fun t=>TZ Sa fr mj st1 ok1 gk (s:={ s1 with toks:=t }) I1 fun t' t''=>?_
   exact Qk (s:={ s1 with toks:=t'' }) z0 z1 R r I2 fun s2 g1' rs2 R' I3=>fin ep q ⟨rs2.gens,rs2.os⟩ R' I3
  | _=>exact q.elim
 | dct oo l=>
  cases oo with
  | true=>
   obtain⟨z0,q⟩:=q
   obtain⟨σ2,ep,q⟩:=AF q
   refine ev rfl A s1 _ Er rfl fun t=>TZ Sa fr mj st1 ok1 gk (s:={ s1 with toks:=t }) I1 fun t' t''=>?_
   exact U6 (s:={ s1 with toks:=t'' }) z0 R r I2 fun s2 g1' rs2 R' I3=>fin ep q ⟨rs2.gens,rs2.os⟩ R' I3
  | _=>exact q.elim
 | _=>exact q.elim
end
section
variable {Φ:Nat→List V→(V→List V→Prop)→Prop}{n:Nat}{nm:Nat→Option Str}{pins:List Nat}{fr:A8 w T env nm pins}
noncomputable def e9 (T:Tabs)(isG:Str→Bool)(g:Nat)(x:Str):Bool:=decide (T.gn g=x)&&(isG x&&(!(x==("__debug__":Str))&&(nh (T.gv g)&&fz (T.gv g))))
noncomputable def a0 (T:Tabs)(isG:Str→Bool)(x:E)(e:Expr):Bool:=match x with
 | .int i=>IW e i
 | .glob g=>Bq e fun x _=>e9 T isG g x
 | _=>false
theorem Qd (Sa:Ac T K)(fr:A8 w T env nm pins){x:E}{e:Expr}{y:V}{B:PM}(m:a0 T fr.isG x e=true)(g:QW T x=some y)(ok:Bk K B){s:Shared}{A:Around}{Q:Value→Shared→Prop}{Er:Value→Shared→Prop}(KI:K.In s.heap)
  (q:∀v t,RV T.toTab B y v []→Q v { s with toks:=t }):wpAny (model pw w) A (eval e env) Q Er s:=by
 cases x with
 | int i=>
  cases g
  refine BX m fun k p=>?_
  exact wpAny_Constant_int (q _ _ RV.ofInt)
 | glob i=>
  cases g
  refine AX m fun x p m=>?_
  have m1:=AA m
  have m2:=AA m1
  obtain⟨u,e,r⟩:=Sa.glob _ (AB (AA m2))
  rw [of_decide_eq_true (AB m)] at e
  exact Ei Sa fr KI (AB m1) ((Bool.not_eq_true' _).mp (AB m2)) e (q u s.toks (r B ok))
 | _=>exact no m
theorem PN {p:Pt}{i:Expr}(m:mP T nm p i=true):i.ctorIdx=26→False:=by
 cases p with
 | var i=>refine AX m fun _ _ _=>?_;exact nofun
 | attr p a=>refine CI m fun _ _ _ _=>?_;exact nofun
 | at_ p j=>refine Ck m fun _ _ _ _=>?_;exact nofun
theorem Nc {j:Ix}{i:Expr}(m:Zp T nm j i=true):i.ctorIdx=26→False:=by
 cases j with
 | lit k=>refine BX m fun _ _=>?_;exact nofun
 | at_ p=>exact PN m
theorem No {i:Expr}(h:i.ctorIdx=26→False)(ov iv new:Value):augStore i ov iv new=(do holding [new,ov,iv] (PySem.setItem ov iv new);release [new,ov,iv] [];pure .next):=by
 cases i <;> first | rfl | exact (h rfl).elim
theorem JK {fr:A8 w T env nm pins}{p:Pt}{B:PM}{σ σ':List V}{F h2 g:HP}{v:Value}{y:V}{h:Heap}{Kx:List V→Prop}(back:∀B' x' h1' σ',B.le B'→RV T.toTab B' x' v h1'→put T σ p x'=some σ'→Upd (h1'++h2) (fr.ST B' σ'))
  (ep:put T σ p y=some σ') (k:Kx σ') (r:RV T.toTab B y v g) (I:Inv B h (g++(h2++F))):Back fr B F h Kx:=by
 obtain⟨hp2,p2,st2⟩:=back B _ _ _ (PM.le.refl _) r ep
 exact⟨σ',hp2,k,st2,I.perm (by rw [←List.append_assoc];exact p2.symm.append_right F)⟩
theorem II.lt {i:Int}{j n:Nat}(ix:II i j n)(z:0≤i)(l:j < n):i < n:=(ix.rng l).2
theorem O1 (Sa:Ac T K){p:Pt}{j:Ix}{x:E}{o i e:Expr}{p1 pos:Pos}(mp:mP T nm p o=true)(mj:Zp T nm j i=true)(mx:a0 T fr.isG x e=true):
  BH Φ K n fr (.augItem p j x) (.AugAssign (.Subscript o i p1) .Add e pos):=fun Kx B σ hp F s A Q Er W st ok I ak post=>by
 obtain⟨l,g,W⟩:=Su W
 obtain⟨iv,gi,W⟩:=AF W
 obtain⟨k,gk,W⟩:=Qw W
 obtain⟨z0,W⟩:=W
 obtain⟨x0,gx,W⟩:=Qw W
 obtain⟨σ2,ep,W⟩:=AF W
 obtain⟨u,⟨g1,g2,pp,R,back⟩,ev⟩:=Ak fr Sa st ok I mp g
 refine wpAny_AugAssign_SubscriptAny (ev rfl A s _ Er rfl fun t=>?_) (No (Nc mj))
 refine TZ Sa fr mj st ok gi (s:={ s with toks:=t }) I fun t' t''=>?_
 have I2:Inv B s.heap (g1++(g2++F)):=I.perm (Ag pp)
 have R0:=R
 obtain⟨z,a,vs,m,rl⟩:=Hr R
 obtain⟨kk,hk,ls,lt,ix⟩:=Mq gx
 obtain⟨v0,ev1,r1⟩:=rl.at0 hk
 have ga:=I2.own (a,AD vs m) (.head _)
 refine item_list (s:={ s with toks:=t'' }) ⟨_,ga,rfl,_,rfl⟩ ((show vs.size=_ from rl.len)▸z) ev1 ((show vs.size=_ from rl.len)▸ix) ?_
 refine Qd Sa fr mx gk ok (s:={ s with toks:=t'' }) (ok.into I) fun v t3 rv=>?_
 obtain⟨ta⟩:=r1
 obtain⟨tb⟩:=rv
 refine AutoIntOps.iadd_0 ?_
 refine Qk (s:={ s with toks:=t3+1 }) z0 (ix.lt z0 lt) R0 (y:=.int (x0+k)) RV.ofInt (R0:=g2++F) I2 fun s2 g1' rs2 R' I3=>?_
 obtain⟨σ3,hp3,q3,st3,I5⟩:=JK back ep W R' I3
 exact post.1 B σ3 hp3 s2 (PM.le.refl _) q3 st3 I5 ⟨rs2.gens,rs2.os⟩
theorem N8 (Sa:Ac T K){p:Pt}{a:Nat}{x:E}{o e:Expr}{name:Str}{p1 pos:Pos}(mp:mP T nm p o=true)(hn:T.an a=name)(mx:a0 T fr.isG x e=true):
  BH Φ K n fr (.augAttr p a x) (.AugAssign (.Attribute o name p1) .Add e pos):=fun Kx B σ hp F s A Q Er W st ok I ak post=>by
 subst hn
 obtain⟨c,f,g,W⟩:=UB W
 obtain⟨k,gk,W⟩:=Qw W
 obtain⟨hcs,hcv,W⟩:=W
 obtain⟨i0,gf,W⟩:=Qw W
 obtain⟨σ2,ep,W⟩:=AF W
 obtain⟨u,⟨g1,g2,pp,R,back⟩,ev⟩:=Ak fr Sa st ok I mp g
 refine wpAny_AugAssign_AttributeAny (ev rfl A s _ Er rfl fun t=>?_)
 have I2:Inv B s.heap (g1++(g2++F)):=I.perm (Ag pp)
 obtain⟨v0,k1,k2,rd,q,r1,-⟩:=HH (w:=w) Sa ok I (Pq pp) R hcv (y:=.int i0) (by unfold NL;rw [gf])
 obtain⟨ta⟩:=r1
 refine rd rfl A { s with toks:=t } _ Er true rfl fun t'=>?_
 refine Qd Sa fr mx gk ok (s:={ s with toks:=t' }) (ok.into I) fun v t3 rv=>?_
 obtain⟨tb⟩:=rv
 refine AutoIntOps.iadd_0 ?_
 refine MB Sa hcs (s:={ s with toks:=t3+1 }) R (y:=.int (i0+k)) RV.ofInt ok I2 fun s2 g1' rs2 R' I3=>?_
 obtain⟨σ3,hp3,q3,st3,I5⟩:=JK back ep W R' I3
 exact post.1 B σ3 hp3 s2 (PM.le.refl _) q3 st3 I5 ⟨rs2.gens,rs2.os⟩
end
theorem RL.appH {B:PM}:∀{l m:List V} {vs us:List Value} {hp hq:HP},RL T.toTab B l vs hp→RL T.toTab B m us hq→RL T.toTab B (l++m) (vs++us) (hp++hq)
 | [],m,vs,us,_,_,x,y=>by obtain⟨⟩:=x;exact y
 | a::l,m,vs,us,_,_,x,y=>by
  obtain⟨v,vs',h1,h2,r1,r2⟩:=x
  rw [List.append_assoc]
  exact Qe.mk v _ h1 _ r1 (RL.appH r2 y)
theorem RL.snoc {B:PM}{x:V}{v:Value}{hx hp:HP}{l:List V}{vs:List Value}(r:RV T.toTab B x v hx)(rl:RL T.toTab B l vs hp):RL T.toTab B (l++[x]) (vs++[v]) (hp++hx):=rl.appH (RL.one r)
section
variable {Φ:Nat→List V→(V→List V→Prop)→Prop}{n:Nat}{nm:Nat→Option Str}{pins:List Nat}{fr:A8 w T env nm pins}
theorem DJ {o:Expr}{name:Str}{id:String}{apos pos:Pos}{es:List Expr}{A:Around}{s:Shared}{Q:Value→Shared→Prop}{Er:Value→Shared→Prop}(slot:Slot "list" name id)(ty:typeOf (.builtin id)=pure (.type "method_descriptor"))
  (hbase:attributeBase o name env (eval o env)=eval o env) (hs:es.all AH=true) (hf:es.length < 30) (hline:(apos.endLine==pos.line)=true)
  (h:wpAny (model pw w) A (eval o env) (fun ov s₁=>∃a vs n,ov=.ref a∧s₁.heap.get? a=some (AD vs n)∧wpAny (model pw w) A (callWith pos (.builtin id) [ov] (backTo pos (starEach es env)) []) Q Er s₁) Er s):
  wpAny (model pw w) A (eval (.Call (.Attribute o name apos) es [] pos) env) Q Er s:=by
 refine wpAny_Call_method_late hbase ?_ hline rfl (wpAny_mono h (fun ov s₁ h₁=>?_) fun _ _ x=>x)
 ·show ((backTo pos (starEach es env)).all (fun x=>!x.1)&&true&&decide (es.length+0+0 < 30))=true
  rw [(BY hs).2];simpa using hf
 ·obtain⟨a,vs,n,e,g,h₁⟩:=h₁
  subst e
  exact⟨"list",id,PySem.F.plainAttrs_list,slot,ty,⟨_,g,rfl⟩,(fun b e=>by cases e;exact⟨_,g,rfl⟩),h₁⟩
theorem Mu {B:PM}{l:List V}{vs:Array Value}{h:HP}(rl:RL T.toTab B l vs.toList h)(z:l.length < 16000000):vs.size < sizeLine:=by
 rw [show vs.size=l.length from rl.len,sizeLine_eq];exact Nat.lt_of_lt_of_le z (by decide)
theorem Gr {l:List V}{x:V}(z:l.length < 16000000):(l++[x]).length≤sizeLine:=EL (b:=[x]) z
theorem Cd {e:Expr}(hs:AH e=true):[e].all AH=true:=by rw [List.all_cons,hs];rfl
theorem QM (Sa:Ac T K){p:Pt}{x:E}{o e:Expr}{apos pos pos':Pos}(mp:mP T nm p o=true)(hs:AH e=true)(hline:(apos.endLine==pos.line)=true)(hx:AK Φ K n fr x e):
  BH Φ K n fr (.append p x) (.Expr (.Call (.Attribute o "append" apos) [e] [] pos) pos'):=fun Kx B σ hp F s A Q Er W st ok I ak post=>by
 obtain⟨l,g,W⟩:=Su W
 obtain⟨v,h1,hp1,σ1,W,r,st1,I1,ev⟩:=MU Sa st ok I mp g W
 refine wpAny_Expr_any (DJ PySem.F.slot_list_append PySem.F.type_list_append (Bm mp _) (Cd hs) (Nat.lt_of_sub_eq_succ (n:=1) (m:=30) rfl) hline (ev rfl A s _ Er rfl fun t=>?_)) (Bs fr) rfl
 obtain⟨z,a,vs,m,rl⟩:=Hr r
 refine⟨a,vs,m,rfl,I1.own (a,AD vs m) (List.mem_append_right _ (.head _)),?_⟩
 rw [AW hs]
 refine P.append_list ?_
 refine hx.fz (s:={ s with toks:=t }) W st1 ok I1 ak fun B1 x1 σ2 hp2 u s1 le1 W1 nx r1 st2 ok2 I2 rs1=>?_
 obtain⟨z1,W1⟩:=W1
 have I3:Inv B1 s1.heap ((a,AD vs m)::(hp2++F)):=I2.perm (AC (g1:=[(a,AD vs m)]) (.refl _))
 refine⟨vs,m,Nat.le_of_lt (Mu rl z1),I3.own (a,AD vs m) (.head _),?_⟩
 obtain⟨m',I4⟩:=Dj (·.push u) I3
 obtain⟨σ3,hp3,q3,st3,I5⟩:=DZ Sa W1 mp st2 ok2 (Hp (vs:=vs.push u) (Gr z1) (by rw [Array.toList_push];exact RL.snoc r1 (rl.mono le1))) I4
 exact post.1 B1 σ3 hp3 _ le1 q3 st3 I5 ⟨rs1.gens,rs1.os⟩
theorem NR (Sa:Ac T K){p:Pt}{x:E}{o e:Expr}{apos pos pos':Pos}(mp:mP T nm p o=true)(hs:AH e=true)(hline:(apos.endLine==pos.line)=true)(hx:AK Φ K n fr x e):
  BH Φ K n fr (.appendO p x) (.Expr (.Call (.Attribute o "append" apos) [e] [] pos) pos'):=fun Kx B σ hp F s A Q Er W st ok I ak post=>by
 obtain⟨oo,l,g,W⟩:=Xg W
 obtain⟨hown,W⟩:=W
 obtain⟨v,h1,hp1,σ1,W,r,st1,I1,ev⟩:=MU Sa st ok I mp g W
 refine wpAny_Expr_any (DJ PySem.F.slot_list_append PySem.F.type_list_append (Bm mp _) (Cd hs) (Nat.lt_of_sub_eq_succ (n:=1) (m:=30) rfl) hline (ev rfl A s _ Er rfl fun t=>?_)) (Bs fr) rfl
 obtain⟨z,a,vs,m,hl,-,rl⟩:=XA r hown
 refine⟨a,vs,m,rfl,I1.own (a,AD vs m) (List.mem_append_right _ (.head _)),?_⟩
 rw [AW hs]
 refine P.append_list ?_
 refine hx.as (s:={ s with toks:=t }) W st1 ok I1 ak fun B1 x1 σ2 k1 hp2 u s1 le1 W1 r1 st2 ok2 I2 rs1=>?_
 obtain⟨z1,W1⟩:=W1
 have I3:Inv B1 s1.heap ((a,AD vs m)::((hl++k1)++(hp2++F))):=I2.perm HJ
 refine⟨vs,m,Nat.le_of_lt (Mu rl z1),I3.own (a,AD vs m) (.head _),?_⟩
 obtain⟨m',I4⟩:=Dj (·.push u) I3
 obtain⟨σ3,hp3,q3,st3,I5⟩:=DZ Sa W1 mp st2 ok2 (Qh (vs:=vs.push u) (Gr z1) (by rw [Array.toList_push];exact RL.snoc r1 (rl.mono le1))) I4
 exact post.1 B1 σ3 hp3 _ le1 q3 st3 I5 ⟨rs1.gens,rs1.os⟩
end
inductive UG (T:Tab)(B:PM)(l:List V)(vs:List Value)(hp:HP):Prop
 | mk (h1 h2:HP) (v:Value) (p:hp=h1++h2) (rl:RL T B l.dropLast vs.dropLast h1) (e:vs[vs.length - 1]?=some v):UG T B l vs hp
theorem RL.drop_last {B:PM}:∀{l:List V} {vs:List Value} {hp:HP},RL T.toTab B l vs hp→l≠[]→UG T.toTab B l vs hp
 | [],_,_,_,h=>(h rfl).elim
 | [x],vs,hp,r,_=>by
  obtain⟨v,_,h1,h2,r1,r2⟩:=r
  obtain⟨⟩:=r2
  exact⟨[],h1,v,List.append_nil _,⟨⟩,rfl⟩
 | x::y::l,vs,hp,r,_=>by
  obtain⟨v,_,h1,h2,r1,r2⟩:=r
  obtain⟨k1,k2,u,p,rl,e⟩:=RL.drop_last r2 nofun
  obtain⟨v',vs',h3,h4,r4,r5⟩:=r2
  exact⟨h1++k1,k2,u,by rw [p,List.append_assoc],Qe.mk v _ h1 k1 r1 rl,e⟩
theorem Uq {x:Addr×Obj}{k1 k2 h2 F hp2:HP}(p:hp2.Perm ((x::k1)++h2)):(x::((k1++k2)++(h2++F))).Perm (k2++(hp2++F)):=by
 have e:(x::((k1++k2)++(h2++F)))=(x::k1)++(k2++(h2++F)):=by rw [List.append_assoc];rfl
 rw [e]
 refine (AC (.refl _)).trans (List.Perm.append_left k2 ?_)
 rw [←List.append_assoc];exact p.symm.append_right F
section
variable {Φ:Nat→List V→(V→List V→Prop)→Prop}{n:Nat}{nm:Nat→Option Str}{pins:List Nat}{fr:A8 w T env nm pins}
theorem Vt (Sa:Ac T K){p:Pt}{o:Expr}{apos pos pos':Pos}(mp:mP T nm p o=true)(hline:(apos.endLine==pos.line)=true):
  BH Φ K n fr (.pop p) (.Expr (.Call (.Attribute o "pop" apos) [] [] pos) pos'):=fun Kx B σ hp F s A Q Er W st ok I ak post=>by
 obtain⟨oo,l,g,W⟩:=Xg W
 obtain⟨hown,hne,W⟩:=W
 obtain⟨σ1,ep,W⟩:=AF W
 obtain⟨v,⟨h1,h2,pp,r,back⟩,ev⟩:=Ak fr Sa st ok I mp g
 refine wpAny_Expr_any (DJ PySem.F.slot_list_pop PySem.F.type_list_pop (Bm mp _) rfl (by decide) hline (ev rfl A s _ Er rfl fun t=>?_)) (Bs fr) rfl
 have I0:Inv B s.heap (h1++(h2++F)):=I.perm (Ag pp)
 obtain⟨z,a,vs,m,hl,eo,rl⟩:=XA r hown
 obtain⟨k1,k2,u,ek,rl',eu⟩:=rl.drop_last hne
 subst ek
 have ga:=I0.own (a,AD vs m) (.head _)
 refine⟨a,vs,m,rfl,ga,?_⟩
 refine P.pop_list (items:=vs) (n:=m) (y:=u) ga (by rw [←Array.getElem?_toList];exact eu) ?_ ?_
 ·obtain⟨m',I2⟩:=Dj (fun xs=>xs.eraseIdxIfInBounds (vs.size - 1)) (show Inv B s.heap ((a,AD vs m)::((k1++k2)++(h2++F))) from I0)
  have R':RV T.toTab B (.lst oo l.dropLast) (.ref a) ((a,AD (vs.eraseIdxIfInBounds (vs.size - 1)) m')::k1):=aT hown (fun e=>(EA (eo e)).1) (by rw [List.length_dropLast];exact Nat.le_trans (Nat.sub_le _ _) z) (by
   rw [Array.toList_eraseIdxIfInBounds,←Array.length_toList,List.eraseIdx_length_sub_one];exact rl')
  obtain⟨hp2,p2,st2⟩:=back B _ _ σ1 (PM.le.refl _) R' ep
  exact post.1 B σ1 hp2 _ (PM.le.refl _) W st2 (I2.perm (Uq p2)).right ⟨rfl,rfl⟩
 ·have zl:sizeLine=2 ^ 24:=sizeLine_eq
  have ln:vs.size=l.length:=rl.len
  lia
theorem Fh {f:Value}{es:List Expr}{pos:Pos}{A:Around}{s:Shared}{Q:Args→Shared→Prop}{Er:Value→Shared→Prop}(hs:es.all AH=true)
  (h:wpAny (model pw w) A (spliced (backTo pos (starEach es env))) (fun vs s'=>Q ⟨vs,[]⟩ s') Er s):wpAny (model pw w) A (evalArgs f true (backTo pos (starEach es env)) []) Q Er s:=by
 cases es with
 | nil=>
  unfold evalArgs
  show wpAny _ A (spliced [] >>= _) _ Er s
  refine wpAny_bind (wpAny_mono h (fun vs s' h'=>wpAny_bind (wpAny_pure ?_)) fun _ _ x=>x)
  refine wpAny_holding ?_
  exact wpAny_bind (wpAny_pure (wpAny_bind (wpAny_pure (wpAny_pure h'))))
 | cons e rest=>
  rw [List.all_cons,Bool.and_eq_true] at hs
  rw [AW hs.1] at h ⊢
  exact Calls.evalArgs_plain h
theorem J8 {id:String}{first:List Value}{es:List Expr}{pos:Pos}{A:Around}{s:Shared}{Q:Value→Shared→Prop}{Er:Value→Shared→Prop}(hs:es.all AH=true)
  (h:wpAny (model pw w) A (spliced (backTo pos (starEach es env))) (fun vs s'=>wpAny (model pw w) A (call (.builtin id) (first++vs)) Q Er s') Er s):
  wpAny (model pw w) A (callWith pos (.builtin id) first (backTo pos (starEach es env)) []) Q Er s:=
 callWith_builtin (BY hs).1 (Fh hs h)
theorem Po (Sa:Ac T K){p:Pt}{x:E}{o e:Expr}{apos pos pos':Pos}(mp:mP T nm p o=true)(hs:AH e=true)(hline:(apos.endLine==pos.line)=true)(hx:AK Φ K n fr x e):
  BH Φ K n fr (.extend p x) (.Expr (.Call (.Attribute o "extend" apos) [e] [] pos) pos'):=fun Kx B σ hp F s A Q Er W st ok I ak post=>by
 obtain⟨l,g,W⟩:=Su W
 obtain⟨v,h1,hp1,σ1,W,r,st1,I1,ev⟩:=MU Sa st ok I mp g W
 refine wpAny_Expr_any (DJ PySem.F.slot_list_extend PySem.F.type_list_extend (Bm mp _) (Cd hs) (Nat.lt_of_sub_eq_succ (n:=1) (m:=30) rfl) hline (ev rfl A s _ Er rfl fun t=>?_)) (Bs fr) rfl
 obtain⟨z,a,vs,m,rl⟩:=Hr r
 refine⟨a,vs,m,rfl,I1.own (a,AD vs m) (List.mem_append_right _ (.head _)),?_⟩
 rw [AW hs]
 refine P.extend_list ?_
 refine hx.fz (s:={ s with toks:=t }) W st1 ok I1 ak fun B1 x1 σ2 hp2 u s1 le1 W1 nx r1 st2 ok2 I2 rs1=>?_
 obtain⟨_,l2,W1,z2,b,us,m2,bb,rl2⟩:=Cg W1 r1
 obtain⟨z1,W1⟩:=W1
 have I3:Inv B1 s1.heap ((a,AD vs m)::(hp2++F)):=I2.perm (AC (g1:=[(a,AD vs m)]) (.refl _))
 have zs:=Io rl.len rl2.len z1
 refine⟨b,vs,us,m,m2,by lia,by lia,?_,rfl,I3.own (a,AD vs m) (.head _),I3.base _ _ bb,?_⟩
 ·have:Builtin.List.listTooLong (vs.size+us.size)=false:=decide_eq_false (Nat.not_lt.mpr zs)
  rw [this,Bool.and_false];decide
 ·obtain⟨m',I4⟩:=Dj (·++us) I3
  obtain⟨σ3,hp3,q3,st3,I5⟩:=DZ Sa W1 mp st2 ok2 (Hp (vs:=vs++us) (EL z1) (by rw [Array.toList_append];exact (rl.mono le1).app rl2)) I4
  exact post.1 B1 σ3 hp3 _ le1 q3 st3 I5 ⟨rs1.gens,rs1.os⟩
end
section
variable {Φ:Nat→List V→(V→List V→Prop)→Prop}{n:Nat}{nm:Nat→Option Str}{pins:List Nat}{fr:A8 w T env nm pins}
noncomputable def jj (T:Tabs)(nm:Nat→Option Str)(pins:List Nat):Tg→Expr→Bool
 | .var i,e=>Bq e fun y _=>decide (nm i=some y)&&!pins.contains i
 | .attr p a,e=>LU e fun o name _=>decide (T.an a=name)&&mP T nm p o
noncomputable def IG (T:Tabs)(nm:Nat→Option Str)(pins:List Nat):List Tg→List Expr→Bool
 | [],es=>l0 es
 | t::ts,es=>lC es fun e es=>jj T nm pins t e&&IG T nm pins ts es
theorem Ol {t:Tg}{e:Expr}{es:List Expr}(m:jj T nm pins t e=true):assignEach (e::es) env=(false,assign e env)::assignEach es env:=by
 cases t with
 | var i=>refine AX m fun _ _ _=>?_;rfl
 | attr p a=>refine CI m fun _ _ _ _=>?_;rfl
inductive lj (env:Env)(n:Nat)(es:List Expr):Prop
 | mk (a:(assignEach es env).length=n) (b:(assignEach es env).findIdx? (·.1)=none) (c:es.length=n)
theorem Jq (env:Env):∀{ts:List Tg} {es:List Expr},IG T nm pins ts es=true→lj env ts.length es
 | [],es,m=>BL m ⟨rfl,rfl,rfl⟩
 | t::ts,es,m=>by
  refine Be m fun e es m=>?_
  obtain⟨a,b,c⟩:=Jq env (AA m)
  have e0:assignEach (e::es) env=_:=Ol (AB m)
  exact⟨by rw [e0,List.length_cons,List.length_cons,a],by rw [e0,List.findIdx?_cons,b];rfl,by rw [List.length_cons,List.length_cons,c]⟩
theorem Ys {a b c d:HP}:((a++b)++(c++d)).Perm (a++(c++(b++d))):=by
 rw [List.append_assoc];exact List.Perm.append_left a (AC (.refl _))
theorem IY (Sa:Ac T K)(fr:A8 w T env nm pins):∀(ts:List Tg) (es:List Expr) {xs:List V} {vs:List Value} {σ:List V} {Kx:List V→Prop} {B:PM} {hp h1 F:HP} {s:Shared} {A:Around} {Q:Unit→Shared→Prop} {Er:Value→Shared→Prop},
  QL T ts xs σ Kx→IG T nm pins ts es=true→fr.ST B σ hp→Bk K B→RL T.toTab B xs vs h1→Inv B s.heap (h1++(hp++F))→
  (∀σ' hp' s',AO s s'→Kx σ'→fr.ST B σ' hp'→Inv B s'.heap (hp'++F)→Q () s')→wpAny (model pw w) A (assignInOrder ((assignEach es env).map (·.2)) vs) Q Er s
 | [],es,xs,vs,σ,Kx,B,hp,h1,F,s,A,Q,Er,W,m,st,ok,rl,I,k=>by
  refine BL m ?_
  revert rl
  refine De W fun W rl=>?_
  obtain⟨⟩:=rl
  exact assignInOrder_nil (k σ hp s (AO.refl s) W st I)
 | t::ts,es,xs,vs,σ,Kx,B,hp,h1,F,s,A,Q,Er,W,m,st,ok,rl,I,k=>by
  refine Be m fun e es m=>?_
  revert rl
  refine A6 W fun x xs W rl=>?_
  obtain⟨v,vs',k1,k2,r1,r2⟩:=rl
  rw [Ol (AB m)]
  show wpAny _ A (assignInOrder (assign e env::(assignEach es env).map (·.2)) (v::vs')) Q Er s
  cases t with
  | var i=>
   refine AX (M:=fun e=>wpAny _ A (assignInOrder (assign e env::_) _) Q Er s) (AB m) fun y pp m1=>?_
   have hi:i∉pins:=fun h=>by have:=(Bool.not_eq_true' _).mp (AA m1);rw [List.contains_iff_mem.mpr h] at this;cases this
   refine assignInOrder_cons (wpAny_assign_Name (CG fr (of_decide_eq_true (AB m1)) hi r1 st (F:=k2++F) (I.perm Ys) fun s2 hp2 rs2 st2 I2=>?_))
   exact IY Sa fr ts es W (AA m) st2 ok r2 (F:=F) (I2.perm (AC (.refl _))) fun σ' hp' s' rs q st' I'=>k σ' hp' s' (rs2.trans rs) q st' I'
  | attr p a=>
   refine CI (M:=fun e=>wpAny _ A (assignInOrder (assign e env::_) _) Q Er s) (AB m) fun o name p1 m1=>?_
   refine Ud (AB m1) ?_
   obtain⟨c,f,g,W⟩:=UB W
   obtain⟨hcs,W⟩:=W
   obtain⟨σ2,ep,W⟩:=AF W
   have I1:Inv B s.heap (hp++(k1++(k2++F))):=I.perm ((AC (.refl _)).trans (by rw [List.append_assoc]))
   obtain⟨u,⟨g1,g2,pp,R,back⟩,ev⟩:=Ak fr Sa st ok I1 (AA m1) g
   refine assignInOrder_cons ?_
   rw [assign_Attribute]
   refine wpAny_bind (wpAny_holding (ev rfl A s _ Er rfl fun t=>wpAny_bind (wpAny_standAt (wpAny_bind (wpAny_holding ?_)))))
   have I2:Inv B s.heap (k1++(g1++(g2++(k2++F)))):=I1.perm ((AC (.refl _)).trans (List.Perm.append_left k1 (Ag pp)))
   refine MB Sa hcs (s:={ s with toks:=t }) R r1 ok I2 fun s2 g1' rs2 R' I3=>wpAny_release ?_
   obtain⟨hp2,p2,st2⟩:=back B _ g1' σ2 (PM.le.refl _) R' ep
   refine IY Sa fr ts es W (AA m) st2 ok r2 (F:=F) (I3.perm ?_) fun σ' hp' s' rs q st' I'=>k σ' hp' s' ((⟨rs2.gens,rs2.os⟩:AO s s2).trans rs) q st' I'
   rw [←List.append_assoc]
   exact (p2.symm.append_right _).trans (AC (.refl _))
noncomputable def Z7 {nm:Nat→Option Str}{pins:List Nat}(fr:A8 w T env nm pins)(K:Frag)(m:Nat)(B:PM)(F:HP)(s:Shared)(Kx:List V→List V→Prop)(Q:List Value→Shared→Prop):Prop:=
 ∀B' xs σ' h1 hp' vs s',B.le B'→Kx xs σ'→xs.length=m→RL T.toTab B' xs vs h1→fr.ST B' σ' hp'→Bk K B'→Inv B' s'.heap (h1++(hp'++F))→AO s s'→Q vs s'
noncomputable def Kn (Φ:Nat→List V→(V→List V→Prop)→Prop)(K:Frag)(n:Nat){nm:Nat→Option Str}{pins:List Nat}(fr:A8 w T env nm pins)(l:Es)(es:List Expr):Prop:=
 ∀(Kx:List V→List V→Prop) (B:PM) (σ:List V) (hp F:HP) (s:Shared) (A:Around) (pos:Pos) (Q:List Value→Shared→Prop) (Er:Value→Shared→Prop),
  eA T Φ l σ Kx→fr.ST B σ hp→Bk K B→Inv B s.heap (hp++F)→J4 n A→Z7 fr K es.length B F s Kx Q→wpAny (model pw w) A (spliced (backTo pos (starEach es env))) Q Er s
theorem Kn.nil:Kn Φ K n fr .nil []:=fun Kx B σ hp F s A pos Q Er W st ok I a post=>
 wpAny_items_nil (post B [] σ [] hp [] s (PM.le.refl B) W rfl ⟨⟩ st ok I (AO.refl s))
theorem Kn.cons {x:E}{l:Es}{e:Expr}{es:List Expr}(hs:AH e=true)(hx:AK Φ K n fr x e)(hl:Kn Φ K n fr l es):Kn Φ K n fr (.cons x l) (e::es):=fun Kx B σ hp F s A pos Q Er W st ok I a post=>by
 rw [AW hs]
 show wpAny _ A (spliced ((false,eval e env)::backTo pos (starEach es env))) Q Er s
 refine Calls.spliced_cons (hx.as W st ok I a fun B1 x1 σ1 k1 hp1 v1 s1 le1 W1 r1 st1 ok1 I1 rs1=>?_)
 refine hl _ B1 σ1 hp1 (k1++F) s1 A pos _ Er W1 st1 ok1 (I1.perm (AC (.refl _))) a fun B2 xs σ2 k2 hp2 vs s2 le2 W2 ln rl st2 ok2 I2 rs2=>?_
 refine post B2 (x1::xs) σ2 (k1++k2) hp2 (v1::vs) s2 (le1.trans le2) W2 (by rw [List.length_cons,List.length_cons,ln]) ⟨v1,vs,k1,k2,r1.mono le2,rl⟩ st2 ok2 (I2.perm HJ) (rs1.trans rs2)
theorem Kh (Sa:Ac T K){ts:List Tg}{l:Es}{te es:List Expr}{k1 k2:Nat}{p1 p2 pos:Pos}(mt:IG T nm pins ts te=true)(hz:es.length≤1000)(hl:te.length=es.length)(hx:Kn Φ K n fr l es)(hw:swappedStores [.Tuple te k1 p1] (.Tuple es k2 p2) env=pure none):
  BH Φ K n fr (.assignTup ts l) (.Assign [.Tuple te k1 p1] (.Tuple es k2 p2) pos):=fun Kx B σ hp F s A Q Er W st ok I ak post=>by
 refine wpAny_Assign_stores (wpAny_Tuple (hx _ B σ hp F s A _ _ Er W st ok I ak fun B1 xs σ1 h1 hp1 vs s1 le1 W1 ln rl st1 ok1 I1 rs1=>?_)) rfl hw
 have ln2:=rl.len
 refine⟨DY (ln2.trans ln) hz,?_⟩
 show wpAny _ A (assign (.Tuple te k1 p1) env (.ref s1.heap.objs.size)) _ Er _
 obtain⟨l1,l2,l3⟩:=Jq env mt
 have I2:Inv B1 (s1.heap.push { cls:=.type "tuple",data:=.seq vs.toArray }) (h1++(hp1++F)):=I1.keep (Eo _ _)
 refine assign_Tuple_tuple ak.handled (items:=vs.toArray) ⟨_,Heap.get?_push_size _ rfl,rfl,_,rfl⟩ (by rw [l1,←l3,hl,←ln,←ln2];rfl) l2 fun h' he=>?_
 refine IY Sa fr ts te W1 mt st1 ok1 rl (s:={ s1 with heap:=h' }) (I2.keep fun a o e=>he a o (Nat.ne_of_lt (Heap.lt_size e)) e) fun σ' hp' s' rs q st' I'=>post.1 B1 σ' hp' s' le1 q st' I' (rs1.trans ⟨rs.gens,rs.os⟩)
end
theorem LO {A:Around}{Er:Value→Shared→Prop}{it t:Addr}{items:Array Value}(hne:t≠it):∀(n i:Nat) (s:Shared) (Q:List Value→Shared→Prop),s.heap.IsListIter it t i→s.heap.IsList t items→i+n≤items.size→
  (∀h',h'.IsListIter it t (i+n)→Heap.SameBut it s.heap h'→Q ((items.toList.drop i).take n) { s with heap:=h' })→wpAny (model pw w) A (draw (.ref it) n) Q Er s
 | 0,i,s,Q,hit,_,_,hQ=>by
  show wpAny _ _ (pure []) Q Er s
  exact wpAny_pure (by simpa using hQ s.heap hit (Heap.SameBut.refl ..))
 | n+1,i,s,Q,hit,ht,hle,hQ=>by
  have hlt:i < items.size:=by lia
  show wpAny _ _ (pyNext (.ref it) >>= _) Q Er s
  refine wpAny_bind (wpAny_pyNext_list_item hit ht (x:=items[i]) (by simp [hlt]) fun h₁ hit₁ hs₁=>?_)
  refine wpAny_bind (wpAny_holding (LO hne n (i+1) _ _ hit₁ (ht.at fun o=>hs₁.extBut t o hne) (by lia) fun h₂ hit₂ hs₂=>wpAny_pure ?_))
  have hd:items.toList.drop i=items[i]::items.toList.drop (i+1):=by simp [List.drop_eq_getElem_cons,hlt]
  have:=hQ h₂ (by rw [show i+(n+1)=i+1+n by lia];exact hit₂) (hs₁.trans hs₂)
  rw [hd,List.take_succ_cons] at this
  exact this
theorem HF {A:Around}{Er:Value→Shared→Prop}{s:Shared}{t:Addr}{items:Array Value}{Q:List Value→Shared→Prop}(hh:A.handled=none)(ht:s.heap.IsList t items)
  (hQ:∀h',Heap.ExtBut s.heap.objs.size s.heap h'→Q items.toList { s with heap:=h' }):wpAny (model pw w) A (unpackItems (.ref t) items.size none) Q Er s:=by
 have hlt:t≠s.heap.objs.size:=by obtain⟨o,ho,_⟩:=ht;exact Nat.ne_of_lt (Heap.lt_size ho)
 have pk:∀b o,s.heap.get? b=some o→(s.heap.push { cls:=.type "list_iterator",data:=.fields #[.ref t,.int 0 0] }).get? b=some o:=fun b o e=>Heap.get?_push_of_some _ e
 unfold unpackItems
 refine wpAny_bind ?_
 ·unfold notIterableAtAll
  refine wpAny_bind (wpAny_specialOf ht.typeIs slot_list_iter.lookup ?_)
  refine wpAny_pure ?_
  simp only [Bool.false_eq_true,if_false]
  refine wpAny_bind (wpAny_holding (wpAny_pyIter_list ht ?_))
  refine wpAny_bind (wpAny_holding (LO hlt items.size 0 _ _ ⟨_,Heap.get?_push_size _ rfl,rfl,rfl⟩ (ht.at fun o=>pk _ o) (by lia) fun h₁ hit₁ hs₁=>?_))
  have hall:List.take items.size (List.drop 0 items.toList)=items.toList:=by
   rw [List.drop_zero];exact List.take_of_length_le (by simp)
  rw [hall]
  rw [if_neg (by simp)]
  have ht₁:h₁.IsList t items:=ht.at fun o e=>hs₁.extBut t o hlt (pk _ _ e)
  refine wpAny_bind (wpAny_holding (wpAny_pyNext_list_end hh hit₁ ht₁ (by simp) fun h₂ he₂=>?_))
  simp only [Option.isSome_none,Bool.false_eq_true,if_false]
  refine wpAny_pure (hQ h₂ fun b o hb e=>he₂ b o hb (hs₁.extBut b o hb (pk _ _ e)))
theorem Fm {A:Around}{Er:Value→Shared→Prop}{s:Shared}{elts:List Expr}{x1}{pos:Pos}{t:Addr}{items:Array Value}{Q:Unit→Shared→Prop}(hh:A.handled=none)(ht:s.heap.IsList t items)
  (hn:(assignEach elts env).length=items.size) (hstar:(assignEach elts env).findIdx? (·.1)=none)
  (h:∀h',Heap.ExtBut s.heap.objs.size s.heap h'→wpAny (model pw w) A (assignInOrder ((assignEach elts env).map (·.2)) items.toList) Q Er { s with heap:=h' }):
  wpAny (model pw w) A (assign (.Tuple elts x1 pos) env (.ref t)) Q Er s:=by
 rw [assign_Tuple]
 refine wpAny_bind (wpAny_standAt ?_)
 unfold unpack
 rw [hn,hstar]
 exact wpAny_bind (wpAny_holding (HF hh ht h))
theorem NV:∀(t:List Nat) {xs:List V} {σ:List V} {Kx:List V→Prop},OJ t xs σ Kx→QL T (t.map .var) xs σ Kx
 | [],xs,σ,Kx,q=>q
 | i::t,xs,σ,Kx,q=>by
  refine A6 q fun x xs q=>?_
  exact NV t (PQ q)
section
variable {Φ:Nat→List V→(V→List V→Prop)→Prop}{n:Nat}{nm:Nat→Option Str}{pins:List Nat}{fr:A8 w T env nm pins}
theorem RL.all_fz {B:PM}:∀{xs:List V} {vs:List Value} {hp:HP},RL T.toTab B xs vs hp→xs.all fz=true→hp=[]
 | [],vs,hp,r,_=>by cases r;rfl
 | x::xs,vs,hp,r,h=>by
  obtain⟨v,vs',h1,h2,r1,r2⟩:=r
  rw [List.all_cons,Bool.and_eq_true] at h
  rw [r1.fz_nil h.1,RL.all_fz r2 h.2];rfl
inductive SeqAt (T:Tab)(B:PM)(xs:List V)(h:Heap):Value→Prop
 | lst (a:Addr) (vs:Array Value) (g:h.IsList a vs) (rl:RL T B xs vs.toList []):SeqAt T B xs h (.ref a)
 | tup (a:Addr) (vs:Array Value) (g:IsTup h a vs) (rl:RL T B xs vs.toList []):SeqAt T B xs h (.ref a)
theorem PX {B:PM}{x:V}{xs:List V}{v:Value}{h1 R:HP}{h:Heap}(e:N9 x=some xs)(I:Inv B h (h1++R))(z:xs.all fz=true∨h1=[]):RV T.toTab B x v h1→SeqAt T.toTab B xs h v:=
 MY (M:=fun x=>RV T.toTab B x v h1→_) e (fun o r=>by
  obtain⟨_,a,vs,m,hl,ow,rl⟩:=r
  have ga:=L9 I ow (fun p hp=>List.mem_append_left _ hp)
  have e0:hl=[]:=z.elim rl.all_fz fun e=>(EA (ow.pre.symm.trans e)).2
  subst e0
  exact .lst a vs ⟨_,ga,rfl,_,rfl⟩ rl) fun r=>by
  obtain⟨_,a,vs,m,ba,rl⟩:=r
  exact .tup a vs ⟨_,I.base _ _ ba,rfl,_,rfl⟩ rl
theorem FU (Sa:Ac T K)(fr:A8 w T env nm pins){t:List Nat}{te:List Expr}{k1:Nat}{p1:Pos}{xs:List V}{v:Value}{σ:List V}{Kx:List V→Prop}{B:PM}{hp F:HP}{s:Shared}{A:Around}{Q:Unit→Shared→Prop}{Er:Value→Shared→Prop}
  (hh:A.handled=none) (W:OJ t xs σ Kx) (mt:IG T nm pins (t.map .var) te=true) (st:fr.ST B σ hp) (ok:Bk K B) (r:SeqAt T.toTab B xs s.heap v) (I:Inv B s.heap (hp++F))
  (k:∀σ' hp' s',AO s s'→Kx σ'→fr.ST B σ' hp'→Inv B s'.heap (hp'++F)→Q () s') (hl:t.length=xs.length):wpAny (model pw w) A (assign (.Tuple te k1 p1) env v) Q Er s:=by
 obtain⟨l1,l2,l3⟩:=Jq env mt
 rw [List.length_map,hl] at l1
 have fin:∀{vs:Array Value} {h':Heap},RL T.toTab B xs vs.toList []→Heap.ExtBut s.heap.objs.size s.heap h'→wpAny (model pw w) A (assignInOrder ((assignEach te env).map (·.2)) vs.toList) Q Er { s with heap:=h' }:=fun rl he=>
  IY Sa fr _ te (NV t W) mt st ok rl (s:={ s with heap:=_ }) (I.keep fun a o e=>he a o (Nat.ne_of_lt (Heap.lt_size e)) e) fun σ' hp' s' rs q st' I'=>k σ' hp' s' ⟨rs.gens,rs.os⟩ q st' I'
 cases r with
 | lst a vs g rl=>exact Fm (x1:=k1) (pos:=p1) hh g (l1.trans rl.len.symm) l2 fun h' he=>fin rl he
 | tup a vs g rl=>exact assign_Tuple_tuple (x1:=k1) (pos:=p1) hh g (l1.trans rl.len.symm) l2 fun h' he=>fin rl he
theorem Fk:∀(t:List Nat) {xs:List V} {σ:List V} {Kx:List V→Prop},OJ t xs σ Kx→t.length=xs.length
 | [],xs,σ,Kx,q=>by
  refine De q fun _=>?_
  rfl
 | i::t,xs,σ,Kx,q=>by
  refine A6 q fun x xs q=>?_
  rw [List.length_cons,List.length_cons,Fk t (PQ q)]
noncomputable def JG (e:Expr):Bool:=!Nat.beq e.ctorIdx 25
theorem Q3 {te:List Expr}{k:Nat}{p:Pos}{e:Expr}(h:JG e=true):swappedStores [.Tuple te k p] e env=pure none:=by
 cases e <;> first | rfl | exact no h
theorem Pk (Sa:Ac T K){t:List Nat}{x:E}{te:List Expr}{e:Expr}{k1:Nat}{p1 pos:Pos}(mt:IG T nm pins (t.map .var) te=true)(hx:AK Φ K n fr x e)(hc:Bj e=true)(ht:JG e=true):
  BH Φ K n fr (.unpack t x) (.Assign [.Tuple te k1 p1] e pos):=fun Kx B σ hp F s A Q Er W st ok I ak post=>by
 refine wpAny_Assign_stores (hx.fz W st ok I ak fun B1 x1 σ1 hp1 v s1 le1 W1 nx r st1 ok1 I1 rs1=>?_) (DM (env:=env) (t:=some (.Tuple te k1 p1)) (l:=pos.line) hc) (Q3 ht)
 obtain⟨xs,ex,W1⟩:=AF W1
 exact FU (k1:=k1) (p1:=p1) Sa fr ak.handled W1 mt st1 ok1 (PX ex (h1:=[]) I1 (.inr rfl) r) I1 (fun σ' hp' s' rs q st' I'=>post.1 B1 σ' hp' s' le1 q st' I' (rs1.trans rs)) (Fk t W1)
theorem OX (Sa:Ac T K){t:List Nat}{p:Pt}{te:List Expr}{e:Expr}{k1:Nat}{p1 pos:Pos}(mt:IG T nm pins (t.map .var) te=true)(mp:mP T nm p e=true)(hc:Bj e=true)(ht:JG e=true):
  BH Φ K n fr (.unpackP t p) (.Assign [.Tuple te k1 p1] e pos):=fun Kx B σ hp F s A Q Er W st ok I ak post=>by
 obtain⟨x,g,W⟩:=AF W
 obtain⟨xs,ex,W⟩:=AF W
 obtain⟨hf,W⟩:=W
 obtain⟨v,⟨h1,h2,pp,r,back⟩,ev⟩:=Ak fr Sa st ok I mp g
 have hn:nh x=true:=MY (M:=fun x=>nh x=true) ex (fun _=>rfl) rfl
 refine wpAny_Assign_stores (ev hn A s _ Er rfl fun t'=>?_) (DM (env:=env) (t:=some (.Tuple te k1 p1)) (l:=pos.line) hc) (Q3 ht)
 exact FU (k1:=k1) (p1:=p1) Sa fr ak.handled (s:={ s with toks:=t' }) W mt st ok (PX ex (I.perm (Ag pp)) (.inl hf) r) I (fun σ' hp' s' rs q st' I'=>post.1 B σ' hp' s' (PM.le.refl _) q st' I' ⟨rs.gens,rs.os⟩) (Fk t W)
theorem M8 {te es:List Expr}{k1 k2:Nat}{p1 p2 pos:Pos}{names:List Str}{A:Around}{s:Shared}{Q:Flow→Shared→Prop}{Er:Value→Shared→Prop}(hw:swappedStores [.Tuple te k1 p1] (.Tuple es k2 p2) env=pure (some names))
  (h:wpAny (model pw w) A (eval (.Tuple es k2 p2) env) (fun v s₁=>wpAny (model pw w) A (unpackItems v names.length none) (fun items s₂=>wpAny (model pw w) A (assignInOrder (names.reverse.map fun n=>bindName env n) items.reverse) (fun _=>Q .next) Er s₂) Er s₁) Er s):
  wpAny (model pw w) A (exec (.Assign [.Tuple te k1 p1] (.Tuple es k2 p2) pos) env) Q Er s:=by
 rw [exec_Assign_arm]
 refine wpAny_bind (wpAny_standAt ?_)
 show wpAny _ A (pure false >>= _) Q Er s
 refine wpAny_bind (wpAny_pure ?_)
 rw [if_neg (by decide)]
 refine wpAny_bind (wpAny_mono h (fun v s₁ h₁=>?_) fun _ _ x=>x)
 rw [hw]
 refine wpAny_bind (wpAny_pure ?_)
 show wpAny _ A (rule "assign.swapped-stores" >>= fun _=>_) Q Er s₁
 refine wpAny_bind (wpAny_rule (wpAny_bind (wpAny_mono h₁ (fun items s₂ h₂=>wpAny_bind (wpAny_mono h₂ (fun _ _ x=>wpAny_pure x) fun _ _ x=>x)) fun _ _ x=>x)))
theorem Jy (Sa:Ac T K){i j:Nat}{l:Es}{a b:Str}{te es:List Expr}{k1 k2:Nat}{p1 p2 pos:Pos}(hi:nm i=some a∧i∉pins)(hj:nm j=some b∧j∉pins)(hij:i≠j)(hz:es.length=2)(hx:Kn Φ K n fr l es)
  (hw:swappedStores [.Tuple te k1 p1] (.Tuple es k2 p2) env=pure (some [a,b])):
  BH Φ K n fr (.assignTup [.var i,.var j] l) (.Assign [.Tuple te k1 p1] (.Tuple es k2 p2) pos):=fun Kx B σ hp F s A Q Er W st ok I ak post=>by
 refine M8 hw (wpAny_Tuple (hx _ B σ hp F s A _ _ Er W st ok I ak fun B1 xs σ1 h1 hp1 vs s1 le1 W1 ln rl st1 ok1 I1 rs1=>?_))
 refine⟨DY (rl.len.trans (ln.trans hz)) (by decide),?_⟩
 revert rl
 refine A6 W1 fun x xs W1=>A6 W1 fun y xs W1=>De W1 fun W1 rl=>?_
 obtain⟨v1,vs1,g1,h2,r1,rl⟩:=rl
 obtain⟨v2,vs2,g2,h3,r2,rl⟩:=rl
 obtain⟨⟩:=rl
 have I2:Inv B1 (s1.heap.push { cls:=.type "tuple",data:=.seq [v1,v2].toArray }) (g2++(hp1++(g1++F))):=Inv.keep (I1.perm (by
  rw [List.append_nil,List.append_assoc]
  exact (AC (.refl _)).trans (List.Perm.append_left g2 (AC (.refl _))))) (Eo _ _)
 refine unpackItems_tuple ak.handled (items:=[v1,v2].toArray) ⟨_,Heap.get?_push_size _ rfl,rfl,_,rfl⟩ fun h' he=>?_
 show wpAny _ A (assignInOrder [bindName env b,bindName env a] [v2,v1]) _ Er _
 refine assignInOrder_cons (wpAny_bindName (CG fr hj.1 hj.2 (s:={ s1 with heap:=h' }) r2 st1 (I2.keep fun a o e=>he a o (Nat.ne_of_lt (Heap.lt_size e)) e) fun s2 hp2 rs2 st2 I3=>?_))
 refine assignInOrder_cons (wpAny_bindName (CG fr hi.1 hi.2 r1 st2 (F:=F) (I3.perm (AC (.refl _))) fun s3 hp3 rs3 st3 I4=>assignInOrder_nil ?_))
 exact post.1 B1 _ hp3 s3 le1 (by rw [List.set_comm _ _ (Ne.symm hij)];exact W1) st3 I4 (rs1.trans ((⟨rs2.gens,rs2.os⟩:AO s1 s2).trans rs3))
end
structure Kk (w:World)(T:Tabs)(A:Around)(I:Addr)(nk tk:Bool)(B0:PM)(l:List V)(St:Nat→HP→Prop)(Mid:Nat→Value→HP→Prop)(lo:HP:=[]):Prop where
 step:∀(i:Nat) (x:V) (B:PM) (hp F:HP) (s:Shared) (Q:Option Value→Shared→Prop) (E:Value→Shared→Prop),B0.le B→l[i]?=some x→St i hp→Inv B s.heap (hp++F)→
  (∀B' v hp' s',B.le B'→RV T.toTab B' x v []→Mid i v hp'→Inv B' s'.heap (hp'++F)→AO s s'→Q (some v) s')→wpAny (model pw w) A (pyNext (.ref I)) Q E s
 done:∀(B:PM) (hp F:HP) (s:Shared) (Q:Option Value→Shared→Prop) (E:Value→Shared→Prop),B0.le B→St l.length hp→Inv B s.heap (hp++F)→
  (∀s',Inv B s'.heap (lo++F)→AO s s'→Q none s')→wpAny (model pw w) A (pyNext (.ref I)) Q E s
 self:∀(i:Nat) (B:PM) (hp F:HP) (s:Shared) (Q:Value→Shared→Prop) (E:Value→Shared→Prop),B0.le B→St i hp→Inv B s.heap (hp++F)→Q (.ref I) s→wpAny (model pw w) A (pyIter (.ref I)) Q E s
 mid:nk=true→∀i v hp,Mid i v hp→St (i+1) hp
 go:tk=true→∀(i:Nat) (v:Value) (te:List Expr) (x1:Nat) (pos:Pos) (B:PM) (hp F:HP) (s:Shared) (Q:Unit→Shared→Prop) (E:Value→Shared→Prop),B0.le B→Mid i v hp→Inv B s.heap (hp++F)→
  (∀hp' s',St (i+1) hp'→Inv B s'.heap (hp'++F)→AO s s'→Q () s')→wpAny (model pw w) A (letOwnedTupleGo (.Tuple te x1 pos) (.ref I) v) Q E s
noncomputable def QN (B0:PM)(I:Addr)(St0:Nat→Heap→Prop)(i:Nat)(hp:HP):Prop:=∃o,hp=[(I,o)]∧∀h:Heap,h.get? I=some o→(∀a o,B0 a=some o→h.get? a=some o)→St0 i h
theorem Kk.ofWalks {A:Around}{I:Addr}{fp wr:List Addr}{n:Nat}{P:Nat→Value→Prop}{St0:Nat→Heap→Prop}{B0:PM}{l:List V}{tk:Bool}(W:Walks pw w A I fp wr n P St0)(hw:∀b∈wr,b=I)(hf:∀b∈fp,b=I∨∃o,B0 b=some o)
  (hl:l.length=n) (hP:∀i x v B,B0.le B→l[i]?=some x→P i v→RV T.toTab B x v []) (ex:∀i h,St0 i h→∃o,h.get? I=some o)
  (go:tk=true→∀(i:Nat) (v:Value) (te:List Expr) (x1:Nat) (pos:Pos) (s:Shared) (Q:Unit→Shared→Prop) (E:Value→Shared→Prop),St0 i s.heap→Q () s→wpAny (model pw w) A (letOwnedTupleGo (.Tuple te x1 pos) (.ref I) v) Q E s):
  Kk w T A I true tk B0 l (QN B0 I St0) (fun i _=>QN B0 I St0 (i+1)) where
 step:=fun i x B hp F s Q E le hx ⟨o,e,st⟩ Iv k=>by
  subst e
  have st0:=st s.heap (Iv.own (I,o) (.head _)) (fun a o' h=>Iv.base a o' (le a o' h))
  have hi:i < n:=by rw [←hl];exact (List.getElem?_eq_some_iff.mp hx).1
  refine W.item i s Q E hi st0 fun v h' tk p st' keep=>?_
  obtain⟨o',ho'⟩:=ex _ _ st'
  have Iv2:Inv B h' ((I,o')::F):=by
   have nd:=Iv.nd
   rw [show ([(I,o)]++F).map (·.1)=I::F.map (·.1) from rfl,List.nodup_cons] at nd
   have offI:B I=none:=Iv.off (I,o) (.head _)
   have nw:∀b,b≠I→b∉wr:=fun b hb h=>hb (hw b h)
   refine⟨fun a ob h=>keep a ob (nw a fun e=>by subst e;rw [h] at offI;cases offI) (Iv.base a ob h),fun q hq=>?_,fun q hq=>?_,?_⟩
   ·rcases List.mem_cons.mp hq with rfl | hq
    ·exact ho'
    ·exact keep _ _ (nw _ fun e=>nd.1 (List.mem_map.mpr ⟨q,hq,e⟩)) (Iv.own q (List.mem_append_right _ hq))
   ·rcases List.mem_cons.mp hq with rfl | hq
    ·exact offI
    ·exact Iv.off q (List.mem_append_right _ hq)
   ·rw [List.map_cons,List.nodup_cons];exact nd
  refine k B v [(I,o')] _ (PM.le.refl B) (hP i x v B le hx p) ⟨o',rfl,fun h g b=>W.frame _ h' h st' fun c hc oc e=>?_⟩ Iv2 ⟨rfl,rfl⟩
  rcases hf c hc with rfl | ⟨ob,hb⟩
  ·rw [ho'] at e;cases e;exact g
  ·have:=Iv2.base c ob (le _ _ hb)
   rw [e] at this;cases this
   exact b c _ hb
 done:=fun B hp F s Q E le ⟨o,e,st⟩ Iv k=>by
  subst e
  have st0:=st s.heap (Iv.own (I,o) (.head _)) (fun a o' h=>Iv.base a o' (le a o' h))
  rw [hl] at st0
  refine W.done s Q E st0 fun h' tk keep=>k _ ?_ ⟨rfl,rfl⟩
  have nd:=Iv.nd
  rw [show ([(I,o)]++F).map (·.1)=I::F.map (·.1) from rfl,List.nodup_cons] at nd
  have offI:B I=none:=Iv.off (I,o) (.head _)
  have nw:∀b,b≠I→b∉wr:=fun b hb h=>hb (hw b h)
  exact⟨fun a ob h=>keep a ob (nw a fun e=>by subst e;rw [h] at offI;cases offI) (Iv.base a ob h),
   fun q hq=>keep _ _ (nw _ fun e=>nd.1 (List.mem_map.mpr ⟨q,hq,e⟩)) (Iv.own q (List.mem_append_right _ hq)),fun q hq=>Iv.off q (List.mem_append_right _ hq),nd.2⟩
 self:=fun i B hp F s Q E le ⟨o,e,st⟩ Iv k=>by
  subst e
  exact W.self i s Q E (st s.heap (Iv.own (I,o) (.head _)) (fun a o' h=>Iv.base a o' (le a o' h))) k
 mid:=fun _ i v hp h=>h
 go:=fun ht i v te x1 pos B hp F s Q E le h Iv k=>by
  obtain⟨o,e,st⟩:=id h
  subst e
  exact go ht (i+1) v te x1 pos s Q E (st s.heap (Iv.own (I,o) (.head _)) (fun a o' h=>Iv.base a o' (le a o' h))) (k [(I,o)] s h Iv (AO.refl s))
theorem Pg {B:PM}{v:Value}{x:V}{o:Option V}(g:Tp T.toTab B v o)(e:o=some x):RV T.toTab B x v []:=by subst e;obtain⟨_,r⟩:=g;exact r
theorem KD {A:Around}{s:Shared}{te:List Expr}{x1:Nat}{pos:Pos}{I l:Addr}{i:Nat}{v:Value}{Q:Unit→Shared→Prop}{E:Value→Shared→Prop}(hit:s.heap.IsListIter I l i)(hQ:Q () s):
  wpAny (model pw w) A (letOwnedTupleGo (.Tuple te x1 pos) (.ref I) v) Q E s:=by
 cases v <;> first | exact wpAny_letOwnedTupleGo_listiter hit hQ | exact wpAny_pure hQ
theorem M7 {A:Around}(hh:A.handled=none){I ax:Addr}{vs:Array Value}{n:Nat}{B:PM}{l:List V}(ba:B ax=some (AD vs n))(ne:ax≠I)(rl:RL T.toTab B l vs.toList []):
  Kk w T A I true true B l (QN B I (fun i h=>h.IsListIter I ax i∧h.IsList ax vs)) (fun i _=>QN B I (fun i h=>h.IsListIter I ax i∧h.IsList ax vs) (i+1)):=
 Kk.ofWalks (Walks.list hh I ax ne vs) (fun b hb=>by simpa using hb) (fun b hb=>by
  simp at hb
  rcases hb with rfl | rfl
  ·exact .inl rfl
  ·exact .inr ⟨_,ba⟩) (rl.len.symm) (fun i x v B' le hx hp=>by
   have hp:vs[i]?=some v:=hp
   rw [←Array.getElem?_toList] at hp
   exact (Pg (rl.get hp) hx).mono le) (fun i h st=>by obtain⟨⟨o,ho,-⟩,-⟩:=st;exact⟨o,ho⟩)
  (fun _ i v te x1 pos s Q E st q=>KD st.1 q)
theorem Hc {A:Around}(hh:A.handled=none)(I ax:Addr)(hne:ax≠I)(items:Array Value):
  Walks pw w A I [I,ax] [I] items.size (fun i v=>items[i]?=some v) (fun i h=>IsTupIter h I ax i∧IsTup h ax items) where
 sub:=fun b hb=>by simp at hb;simp [hb]
 frame:=fun _ _ _ st hk=>⟨let ⟨o,ho,r⟩:=st.1;⟨o,hk I (by simp) o ho,r⟩,let ⟨o,ho,r⟩:=st.2;⟨o,hk ax (by simp) o ho,r⟩⟩
 item:=fun i s Q E hi st hQ=>by
  refine next_tuple_item st.1 st.2 (x:=items[i]) (by simp [hi]) fun h' hit' hs'=>?_
  exact hQ _ h' s.toks (by simp [hi]) ⟨hit',st.2.extBut hs'.extBut hne⟩ fun b o hb e=>hs'.extBut b o (fun h=>hb (by simp [h])) e
 done:=fun s Q E st hQ=>next_tuple_end hh st.1 st.2 (by simp) fun h' he'=>hQ h' s.toks fun b o hb e=>he' b o (fun h=>hb (by simp [h])) e
 self:=fun _ s Q E st hQ=>by
  obtain⟨o,ho,hc,hd⟩:=id st.1
  have hT:s.TypeIs (.ref I) "tuple_iterator":=⟨o,ho,hc⟩
  refine wpAny_pyIter_slot hT F.slot_tuple_iterator_iter (wpAny_call_entry F.slot_tuple_iterator_iter hT F.entry_tuple_iterator_iter ?_ (F.args_tuple_iterator_iter_1 _))
  show wpAny _ _ (ret (.ref I)) _ _ s
  exact wpAny_pure ⟨_,rfl,"tuple_iterator",_,hT,slot_tupleiter_next.lookup,hQ⟩
theorem AY {B:PM}{h:Heap}{R:HP}{o:Obj}(I:Inv B h R)(hf:o.isFreed=false):Inv B (h.push o) ((h.objs.size,o)::R):=
 I.new (fun _ _ e=>Heap.get?_push_of_some o e) (CV h) (Heap.get?_push_size _ hf)
theorem TH {A:Around}(hh:A.handled=none){I ax:Addr}{vs:Array Value}{n:Nat}{B:PM}{l:List V}(ba:B ax=some (Bu vs n))(ne:ax≠I)(rl:RL T.toTab B l vs.toList []):
  Kk w T A I true false B l (QN B I (fun i h=>IsTupIter h I ax i∧IsTup h ax vs)) (fun i _=>QN B I (fun i h=>IsTupIter h I ax i∧IsTup h ax vs) (i+1)):=
 Kk.ofWalks (Hc hh I ax ne vs) (fun b hb=>by simpa using hb) (fun b hb=>by
  simp at hb
  rcases hb with rfl | rfl
  ·exact .inl rfl
  ·exact .inr ⟨_,ba⟩) (rl.len.symm) (fun i x v B' le hx hp=>by
   have hp:vs[i]?=some v:=hp
   rw [←Array.getElem?_toList] at hp
   exact (Pg (rl.get hp) hx).mono le) (fun i h st=>by obtain⟨⟨o,ho,-⟩,-⟩:=st;exact⟨o,ho⟩)
  (fun h=>by cases h)
theorem Sx {A:Around}(hh:A.handled=none){I:Addr}{b:Array UInt8}{t:Tok}{B:PM}{l:List Int}(e:b.toList.map (fun u=>(u.toNat:Int))=l):
  Kk w T A I true false B (l.map .int) (QN B I (fun i h=>KBw.IsBytesIter h I b t i)) (fun i _=>QN B I (fun i h=>KBw.IsBytesIter h I b t i) (i+1)):=
 Kk.ofWalks (KBw.walks hh I b t) (fun b hb=>by simpa using hb) (fun b hb=>by
  simp at hb
  exact .inl hb) (by rw [←e];simp) (fun i x v B' le hx hp=>by
   obtain⟨c,u,h1,rfl⟩:=hp
   subst e
   rw [List.map_map,List.getElem?_map,Array.getElem?_toList,h1] at hx
   cases hx
   exact RV.ofInt) (fun i h st=>by obtain⟨o,ho,-⟩:=st;exact⟨o,ho⟩)
  (fun h=>by cases h)
theorem ZV {A:Around}(hh:A.handled=none){I:Addr}{x:List Nat}{t:Tok}{B:PM}:
  Kk w T A I true false B (x.map fun c=>.str [c]) (QN B I (fun i h=>h.IsStrIter I "str_ascii_iterator" ⟨x.toArray⟩ t i)) (fun i _=>QN B I (fun i h=>h.IsStrIter I "str_ascii_iterator" ⟨x.toArray⟩ t i) (i+1)):=
 Kk.ofWalks (Walks.strAscii hh I ⟨x.toArray⟩ t) (fun b hb=>by simpa using hb) (fun b hb=>by
  simp at hb
  exact .inl hb) (by simp) (fun i y v B' le hx hp=>by
   obtain⟨c,u,h1,rfl⟩:=hp
   have h1:x[i]?=some c:=by simpa using h1
   rw [List.getElem?_map,h1] at hx
   cases hx
   exact⟨_⟩) (fun i h st=>by obtain⟨o,ho,-⟩:=st;exact⟨o,ho⟩)
  (fun h=>by cases h)
theorem OH {A:Around}(hh:A.handled=none){I:Addr}{a c:Int}{n:Nat}{B:PM}{l:List V}(hl:l.length=n)(hv:∀(i:Nat) (x:V),l[i]?=some x→x=V.int (a+i*c)):
  Kk w T A I true false B l (QN B I (fun i h=>IsRangeIter h I (a+(i:Nat)*c) ((n:Int) - (i:Nat)) c)) (fun i _=>QN B I (fun i h=>IsRangeIter h I (a+(i:Nat)*c) ((n:Int) - (i:Nat)) c) (i+1)):=
 Kk.ofWalks (Walks.range hh I a c n) (fun b hb=>by simpa using hb) (fun b hb=>by
  simp at hb
  exact .inl hb) hl (fun i y v B' le hx hp=>by
   obtain⟨t,rfl⟩:=hp
   rw [hv i y hx];exact RV.ofInt) (fun i h st=>⟨_,st⟩)
  (fun h=>by cases h)
section
variable {Φ:Nat→List V→(V→List V→Prop)→Prop}{n:Nat}{nm:Nat→Option Str}{pins:List Nat}{fr:A8 w T env nm pins}
noncomputable def Ex (Φ:Nat→List V→(V→List V→Prop)→Prop)(K:Frag)(n:Nat){nm:Nat→Option Str}{pins:List Nat}(fr:A8 w T env nm pins)(nk tk:Bool)(it:It)(e:Expr):Prop:=
 ∀(Kx:List V→List V→Prop) (B:PM) (σ:List V) (hp F:HP) (s:Shared) (A:Around) (Q:Value→Shared→Prop) (Er:Value→Shared→Prop),
  cS T Φ it σ Kx→fr.ST B σ hp→Bk K B→Inv B s.heap (hp++F)→J4 n A→
  (∀B' l σ' hp' ih I St Mid s',B.le B'→Kx l σ'→Kk w T A I nk tk B' l St Mid→St 0 ih→fr.ST B' σ' hp'→Bk K B'→Inv B' s'.heap (ih++(hp'++F))→AO s s'→Q (.ref I) s')→
  wpAny (model pw w) A (eval e env) (fun xv s₁=>wpAny (model pw w) A (pyIter xv) Q Er s₁) Er s
theorem DT {B:PM}{h:Heap}{R:HP}(I:Inv B h R){a:Addr}{o:Obj}(e:B a=some o):a≠h.objs.size:=Nat.ne_of_lt (Heap.lt_size (I.base a o e))
theorem Wn {x:E}{e:Expr}(hx:AK Φ K n fr x e):Ex Φ K n fr true true (.ofL x) e:=fun Kx B σ hp F s A Q Er W st ok I ak post=>by
 refine hx.fz W st ok I ak fun B1 x1 σ1 hp1 v s1 le1 W1 nx r st1 ok1 I1 rs1=>?_
 obtain⟨oo,l,W1,z,a,vs,m,ba,rl⟩:=Cg W1 r
 exact wpAny_pyIter_list ⟨_,I1.base _ _ ba,rfl,_,rfl⟩ (post B1 l σ1 hp1 [(s1.heap.objs.size,_)] s1.heap.objs.size _ _ _ le1 W1 (M7 ak.handled ba (DT I1 ba) rl)
   ⟨_,rfl,fun h g b=>⟨⟨_,g,rfl,rfl⟩,⟨_,b _ _ ba,rfl,_,rfl⟩⟩⟩ st1 ok1 (AY I1 rfl) ⟨rs1.gens,rs1.os⟩)
theorem WK {A:Around}(hh:A.handled=none){I a:Addr}{kvs:List (Int×Value)}{m:Nat}{es:Array DictEntry}{l:List (Int×V)}{B:PM}(ne:a≠I)(ba:B a=some (AV es m))(rp:RP T B l kvs):
  Kk w T A I true false B (l.map fun x=>.int x.1) (QN B I (fun i h=>h.IsKeyIter I a i kvs.length m∧h.DictAt (intKind pw w) a kvs m)) (fun i _=>QN B I (fun i h=>h.IsKeyIter I a i kvs.length m∧h.DictAt (intKind pw w) a kvs m) (i+1)):=
 Kk.ofWalks (Walks.dictKeys (knd:=intKind pw w) (prog:=pw) (w:=w) (A:=A) hh I a ne kvs m) (fun b hb=>by simpa using hb) (fun b hb=>by
   simp at hb
   rcases hb with rfl | rfl
   ·exact .inl rfl
   ·exact .inr ⟨_,ba⟩) (by rw [List.length_map];have:=congrArg List.length rp.keys;simpa using this.symm) (fun i x v B' le hx hp=>by
    obtain⟨k,u,h1,h2⟩:=hp
    obtain⟨t,e⟩:=Value.isInt_shape h2
    subst e
    have h3:(kvs.map (·.1))[i]?=some k:=by rw [List.getElem?_map,h1];rfl
    rw [rp.keys,List.getElem?_map] at h3
    rw [List.getElem?_map] at hx
    cases e:l[i]? with
    | none=>rw [e] at h3;cases h3
    | some p=>
     rw [e] at h3 hx
     cases h3;cases hx
     exact RV.ofInt) (fun i h st=>by obtain⟨⟨o,ho,-⟩,-⟩:=st;exact⟨o,ho⟩)
   nofun
theorem Ej (Sa:Ac T K){B:PM}(ok:Bk K B){a:Addr}{es:Array DictEntry}{m:Nat}{l:List (Int×V)}(ba:B a=some (AV es m))(rd:RD T.toTab B l es.toList):(a==sysModules)=false:=by
 cases q:a==sysModules with
 | false=>rfl
 | true=>cases beq_iff_eq.mp q;exact (Sa.sysm B ok _ _ _ ba rd).elim
theorem Yp {α:Type}{b:Bool}{o:Option α}{l:α}(h:(match b with | true=>o | false=>none)=some l):b=true∧o=some l:=match b,h with | true,h=>⟨rfl,h⟩
theorem ZJ (Sa:Ac T K){x:E}{e:Expr}(hx:AK Φ K n fr x e):Ex Φ K n fr true false (.of x) e:=fun Kx B σ hp F s A Q Er W st ok I ak post=>by
 refine hx.fz W st ok I ak fun B1 x1 σ1 hp1 v s1 le1 W1 nx r st1 ok1 I1 rs1=>?_
 obtain⟨l,el,W1⟩:=AF W1
 cases x1 with
 | lst o l0=>
  cases el
  obtain⟨_,_,e,z,a,vs,m,ba,rl⟩:=BI r
  subst e
  have it:=M7 (w:=w) ak.handled ba (DT I1 ba) rl
  exact wpAny_pyIter_list ⟨_,I1.base _ _ ba,rfl,_,rfl⟩ (post B1 _ σ1 hp1 [(s1.heap.objs.size,_)] s1.heap.objs.size _ _ _ le1 W1 ⟨it.step,it.done,it.self,it.mid,nofun⟩
   ⟨_,rfl,fun h g b=>⟨⟨_,g,rfl,rfl⟩,⟨_,b _ _ ba,rfl,_,rfl⟩⟩⟩ st1 ok1 (AY I1 rfl) ⟨rs1.gens,rs1.os⟩)
 | tup l0=>
  cases el
  obtain⟨z,a,vs,m,ba,rl⟩:=r
  exact iter_tuple ⟨_,I1.base _ _ ba,rfl,_,rfl⟩ (post B1 _ σ1 hp1 [(s1.heap.objs.size,_)] s1.heap.objs.size _ _ _ le1 W1 (TH ak.handled ba (DT I1 ba) rl)
   ⟨_,rfl,fun h g b=>⟨⟨_,g,rfl,rfl⟩,⟨_,b _ _ ba,rfl,_,rfl⟩⟩⟩ st1 ok1 (AY I1 rfl) ⟨rs1.gens,rs1.os⟩)
 | str l0=>
  obtain⟨t⟩:=r
  obtain⟨hb,e⟩:=Yp el
  cases e
  exact wpAny_pyIter_ascii (by simpa using hb) (post B1 _ σ1 hp1 [(s1.heap.objs.size,_)] s1.heap.objs.size _ _ _ le1 W1 (ZV ak.handled)
    ⟨_,rfl,fun h g b=>⟨_,g,rfl,rfl⟩⟩ st1 ok1 (AY I1 rfl) ⟨rs1.gens,rs1.os⟩)
 | bytes l0=>
  cases el
  obtain⟨b,t,hb⟩:=r
  exact KBw.pyIter_bytes (post B1 _ σ1 hp1 [(s1.heap.objs.size,_)] s1.heap.objs.size _ _ _ le1 W1 (Sx ak.handled hb)
   ⟨_,rfl,fun h g b=>⟨_,g,rfl,rfl⟩⟩ st1 ok1 (AY I1 rfl) ⟨rs1.gens,rs1.os⟩)
 | dct o l0=>
  cases el
  obtain⟨_,_,e,z,nd,a,es,m,ba,rd⟩:=Gd r
  subst e
  obtain⟨kvs,rp,ps⟩:=rd.pairs w
  have nd':(kvs.map (·.1)).Nodup:=by rw [rp.keys];exact nd
  have da:∀h:Heap,h.get? a=some (AV es m)→h.DictAt (intKind pw w) a kvs m:=fun h g=>⟨_,es,g,⟨rfl,rfl,rfl⟩,rfl,(fun e he=>by obtain⟨k,t,e1,e2⟩:=rd.keys e (by simpa using he);exact⟨k,by rw [e1];exact beq_self_eq_true k,e2⟩),ps,nd'⟩
  exact wpAny_pyIter_dict (knd:=intKind pw w) (Ej Sa ok1 ba rd) (da _ (I1.base _ _ ba)) (post B1 _ σ1 hp1 [(s1.heap.objs.size,_)] s1.heap.objs.size _ _ _ le1 W1 (WK ak.handled (DT I1 ba) ba rp)
   ⟨_,rfl,fun h g b=>⟨⟨_,g,rfl,rfl⟩,da h (b _ _ ba)⟩⟩ st1 ok1 (AY I1 rfl) ⟨rs1.gens,rs1.os⟩)
 | _=>exact nn el
end
section
variable {Φ:Nat→List V→(V→List V→Prop)→Prop}{n:Nat}{nm:Nat→Option Str}{pins:List Nat}{fr:A8 w T env nm pins}
theorem Qt {id:String}{first:List Value}{es:List Expr}{pos:Pos}{A:Around}{s:Shared}{Q:Value→Shared→Prop}{Er:Value→Shared→Prop}(hs:es.all AH=true)
  (h:wpAny (model pw w) A (spliced (backTo pos (starEach es env))) (fun vs s'=>wpAny (model pw w) A (call (.type id) (first++vs)) Q Er s') Er s):
  wpAny (model pw w) A (callWith pos (.type id) first (backTo pos (starEach es env)) []) Q Er s:=
 PySem.callWith_type (BY hs).1 (Fh hs h)
theorem N5:∀(n:Nat) (a:Int),(Mine.upTo a n).length=n
 | 0,a=>rfl
 | n+1,a=>by show (Mine.upTo (a+1) n).length+1=n+1;rw [N5 n]
theorem Ob:∀(n:Nat) (a:Int) (i:Nat) (x:V),(Mine.upTo a n)[i]?=some x→x=V.int (a+i*1)
 | 0,a,i,x,h=>by cases h
 | n+1,a,0,x,h=>by cases h;simp
 | n+1,a,i+1,x,h=>by
  have:=Ob n (a+1) i x h
  rw [this];congr 1;lia
theorem Fj:∀(n:Nat) (a:Int),(A9 a n).length=n
 | 0,a=>rfl
 | n+1,a=>by show (A9 (a - 1) n).length+1=n+1;rw [Fj n]
theorem GQ:∀(n:Nat) (a:Int) (i:Nat) (x:V),(A9 a n)[i]?=some x→x=V.int (a+i*(-1))
 | 0,a,i,x,h=>by cases h
 | n+1,a,0,x,h=>by cases h;simp
 | n+1,a,i+1,x,h=>by
  have:=GQ n (a - 1) i x h
  rw [this];congr 1;lia
theorem rangeSize_down (a b:Int):Builtin.Range.rangeSize a b (-1)=((a - b).toNat:Int):=by
 unfold Builtin.Range.rangeSize
 rw [if_neg (by decide)]
 split
 ·rw [show -(-1:Int)=1 by decide,Int.ediv_one];lia
 ·lia
theorem eN {x:Int}(h : -1000000000≤x)(h':x≤1000000000) : -2 ^ 63≤x∧x < 2 ^ 63:=⟨Int.le_trans (by decide) h,Int.lt_of_le_of_lt h' (by decide)⟩
theorem e8 {x:Int}(h:0≤x)(h':x≤2000000000) : -2 ^ 63≤x∧x < 2 ^ 63:=⟨Int.le_trans (by decide) h,Int.lt_of_le_of_lt h' (by decide)⟩
theorem small_down {a b:Int}(ha : -1000000000≤a)(ha':a≤1000000000)(hb : -1000000000≤b)(hb':b≤1000000000):Builtin.Range.small a b (-1)=true:=by
 unfold Builtin.Range.small
 rw [rangeSize_down]
 rw [if_neg (show ¬ ((-1:Int) > 0) by decide)]
 simp only [Builtin.Range.rangeFitsLong,Bool.and_eq_true,Bool.or_eq_true,decide_eq_true_eq,beq_iff_eq]
 exact⟨⟨⟨⟨eN ha ha',eN hb hb'⟩,by decide⟩,e8 (Int.natCast_nonneg _) (Int.ofNat_le.2 (Int.toNat_le.2 (Int.le_trans (Int.sub_le_sub ha' hb) (by decide:(1000000000:Int) - -1000000000≤(2000000000:Nat)))))⟩,.inr (by rw [show b+(-1+1)=b from Int.add_zero b];exact eN hb hb')⟩
theorem TU (Sa:Ac T K){l:Es}{es:List Expr}{p pos:Pos}(hg:fr.isG "range"=true)(hs:es.all AH=true)(hl:FX Φ K n fr l es):Ex Φ K n fr true false (.rng .range1 l) (.Call (.Name "range" p) es [] pos):=fun Kx B σ hp F s A Q Er W st ok I ak post=>by
 refine wpAny_Call_NameR (Aa Sa fr (ok.into I) hg rfl (by decide) (v:=.type "range") rfl (Qt hs ?_))
 refine hl _ B σ hp F s A pos _ Er W st ok I ak fun B1 xs σ1 hp1 vs s1 le1 W1 ln rl nhs st1 ok1 I1 rs1=>?_
 revert rl
 refine Q0 W1 fun x W1 rl=>?_
 obtain⟨v1,vs1,r1,rl1⟩:=rl.unN
 obtain⟨⟩:=rl1
 obtain⟨k0,t,W1⟩:=AZ W1 r1
 obtain⟨hb,W1⟩:=W1
 refine call_range_1 ?_
 refine wpAny_pyIter_range (IsRange.new ..) (small_one (by decide) (by decide) (by lia) (by lia)) ?_
 have hsz:Builtin.Range.rangeSize 0 k0 1=(k0.toNat:Int):=by rw [rangeSize_one];split <;> lia
 have I2:=AY I1 (o:={ cls:=.type "range",data:=.fields #[.int 0 s1.toks,.int k0 t,.int 1 (s1.toks+1)] }) rfl
 have I3:=AY I2 (o:={ cls:=.type "range_iterator",data:=.fields #[rawInt 0,rawInt (Builtin.Range.rangeSize 0 k0 1),rawInt 1] }) rfl
 refine post B1 _ σ1 hp1 [(_,_)] _ _ _ _ le1 W1 (OH ak.handled (a:=0) (c:=1) (n:=k0.toNat) (N5 _ _) (Ob _ _)) ⟨_,rfl,fun h g b=>?_⟩ st1 ok1 (Inv.tail (I3.perm (List.Perm.swap _ _ _))) ⟨rs1.gens,rs1.os⟩
 rw [hsz] at g
 exact g
theorem TS (Sa:Ac T K){l:Es}{es:List Expr}{p pos:Pos}(hg:fr.isG "range"=true)(hs:es.all AH=true)(hl:FX Φ K n fr l es):Ex Φ K n fr true false (.rng .rangeDown l) (.Call (.Name "range" p) es [] pos):=fun Kx B σ hp F s A Q Er W st ok I ak post=>by
 refine wpAny_Call_NameR (Aa Sa fr (ok.into I) hg rfl (by decide) (v:=.type "range") rfl (Qt hs ?_))
 refine hl _ B σ hp F s A pos _ Er W st ok I ak fun B1 xs σ1 hp1 vs s1 le1 W1 ln rl nhs st1 ok1 I1 rs1=>?_
 revert rl
 refine A6 W1 fun x xs W1=>Xk W1 fun y z W1 rl=>?_
 obtain⟨v1,vs1,r1,rl1⟩:=rl.unN
 obtain⟨v2,vs2,r2,rl2⟩:=rl1.unN
 obtain⟨v3,vs3,r3,rl3⟩:=rl2.unN
 obtain⟨⟩:=rl3
 obtain⟨a,t,W1⟩:=AZ W1 r1
 obtain⟨b,u,W1⟩:=AZ W1 r2
 obtain⟨c,u3,W1⟩:=AZ W1 r3
 obtain⟨e,hb,W2⟩:=Ve W1
 subst e
 refine call_range_3 (by decide) ?_ (.inl (PyProof.noPylong_of_log2 (by decide +kernel)))
 refine wpAny_pyIter_range (IsRange.new ..) (small_down (by lia) (by lia) (by lia) (by lia)) ?_
 have hsz:=rangeSize_down a b
 have I2:=AY I1 (o:={ cls:=.type "range",data:=.fields #[.int a t,.int b u,.int (-1) u3] }) rfl
 have I3:=AY I2 (o:={ cls:=.type "range_iterator",data:=.fields #[rawInt a,rawInt (Builtin.Range.rangeSize a b (-1)),rawInt (-1)] }) rfl
 refine post B1 _ σ1 hp1 [(_,_)] _ _ _ _ le1 W2 (OH ak.handled (a:=a) (c:=-1) (n:=(a - b).toNat) (Fj _ _) (GQ _ _)) ⟨_,rfl,fun h g b'=>?_⟩ st1 ok1 (Inv.tail (I3.perm (List.Perm.swap _ _ _))) ⟨rs1.gens,rs1.os⟩
 rw [hsz] at g
 have e1:a+((0:Nat):Int)*-1=a:=by simp
 rw [e1];exact g
end
section
variable {Φ:Nat→List V→(V→List V→Prop)→Prop}{n:Nat}{nm:Nat→Option Str}{pins:List Nat}{fr:A8 w T env nm pins}
noncomputable def Ay (e:Expr):Bool:=!Nat.beq e.ctorIdx 7
theorem Em {e:Expr}(h:Ay e=true)(x:Value):foldedSetIterable e env x=pure x:=by
 cases e <;> first | rfl | exact no h
theorem Sv {a b c d:HP}:(a++(b++(c++d))).Perm (c++(a++(b++d))):=(List.Perm.append_left a (AC (.refl _))).trans (AC (.refl _))
inductive kj (B:PM)(Wm:Nat→List V→Prop)(ST:PM→List V→HP→Prop)(F:HP)(s0:Shared)(m:Nat)(s:Shared):Prop
 | mk (B1:PM) (σ:List V) (hp:HP) (le:B.le B1) (W:Wm m σ) (st:ST B1 σ hp) (I:Inv B1 s.heap (hp++F)) (rs:AO s0 s)
theorem RI {c:E}{b:Ss}{e:Expr}{body:List Stmt}{pos:Pos}(hc:Cf Φ K n fr c e)(hb:CC Φ K n fr b body):BH Φ K n fr (.whil c b) (.While e body [] pos):=fun Kx B σ hp F s A Q Er W st ok I ak post=>by
 obtain⟨m,W⟩:=W
 refine wpAny_While (codeAny_whileLoop (kj B (fun m σ1=>JY (WE T Φ c) (Aj T Φ b) m σ1 Kx) fr.ST F s) (fun m s1 h=>?_) m ⟨B,σ,hp,PM.le.refl B,W,st,I,AO.refl s⟩)
 obtain⟨B1,σ1,hp1,le1,W1,st1,I1,rs1⟩:=h
 cases m with
 | zero=>exact W1.elim
 | succ m=>
  refine hc _ B1 σ1 hp1 F s1 A _ _ W1 (fun z σ q=>?_) st1 (ok.mono le1) I1 ak fun B2 t σ2 hp2 s2 le2 W2 st2 ok2 I2 rs2=>?_
  ·exact Yi q
  ·cases t with
   | false=>exact wpAny_execs_nil (post.1 B2 σ2 hp2 s2 (le1.trans le2) W2 st2 I2 (rs1.trans rs2))
   | true=>
    rw [if_pos rfl]
    refine hb _ B2 σ2 hp2 F s2 A _ _ W2 st2 ok2 I2 ak ⟨fun B3 σ3 hp3 s3 le3 W3 st3 I3 rs3=>?_,fun B3 x σ3 h1 hp3 v s3 le3 W3 r3 st3 I3 rs3=>?_⟩
    ·exact⟨m,Nat.lt_succ_self m,B3,σ3,hp3,(le1.trans le2).trans le3,W3,st3,I3,(rs1.trans rs2).trans rs3⟩
    ·exact post.2 B3 x σ3 h1 hp3 v s3 ((le1.trans le2).trans le3) W3 r3 st3 I3 ((rs1.trans rs2).trans rs3)
inductive XF (B1:PM)(l:List V)(Wl:List V→List V→Prop)(St:Nat→HP→Prop)(ST:PM→List V→HP→Prop)(F:HP)(s0:Shared)(m:Nat)(s:Shared):Prop
 | mk (i:Nat) (B:PM) (σ:List V) (hp ih:HP) (em:m=l.length - i) (hil:i≤l.length) (le:B1.le B) (W:Wl (l.drop i) σ) (sti:St i ih) (st:ST B σ hp) (I:Inv B s.heap (ih++(hp++F))) (rs:AO s0 s)
theorem Vf {tk:Bool}{t:Nat}{it:It}{b:Ss}{y:Str}{p pos:Pos}{e:Expr}{body:List Stmt}(hn:nm t=some y)(hp:t∉pins)(hi:Ex Φ K n fr true tk it e)(hb:CC Φ K n fr b body)(hs:Ay e=true):
  BH Φ K n fr (.for_ t it b) (.For (.Name y p) e body [] pos):=fun Kx B σ hp0 F s A Q Er W st ok I ak post=>by
 refine wpAny_For (hi _ B σ hp0 F s A _ _ W st ok I ak fun B1 l σ1 hp1 ih Ia St Mid s1 le1 W1 its st0 st1 ok1 I1 rs1=>?_) (Em hs)
 refine codeAny_forLoop_any (XF B1 l (fun l σ=>Cc (Aj T Φ b) (fun x σ=>σ.set t x) l σ Kx) St fr.ST F s) (fun m s2 h=>?_) l.length
  ⟨0,B1,σ1,hp1,ih,rfl,Nat.zero_le _,PM.le.refl _,W1,st0,st1,I1,rs1⟩
 obtain⟨i,B2,σ2,hp2,ih2,em,hil,le2,W2,sti,st2,I2,rs2⟩:=h
 by_cases hlt:i < l.length
 ·have hd:l.drop i=l[i]::l.drop (i+1):=List.drop_eq_getElem_cons hlt
  rw [hd] at W2
  refine its.step i l[i] B2 ih2 (hp2++F) s2 _ _ le2 (List.getElem?_eq_getElem hlt) sti I2 fun B3 v ih3 s3 le3 r3 mid I3 rs3=>?_
  refine wpAny_pure (wpAny_assign_Name (CG fr hn hp (h1:=[]) r3 (fr.mono le3 st2) (F:=ih3++F) (I3.perm (AC (.refl _))) fun s4 hp4 rs4 st4 I4=>?_))
  refine hb _ B3 _ hp4 (ih3++F) s4 A _ _ W2 st4 (ok1.mono (le2.trans le3)) I4 ak ⟨fun B5 σ5 hp5 s5 le5 W5 st5 I5 rs5=>?_,fun B5 x σ5 h1 hp5 v5 s5 le5 W5 r5 st5 I5 rs5=>?_⟩
  ·exact⟨l.length - (i+1),QS em hlt,i+1,B5,σ5,hp5,ih3,rfl,hlt,(le2.trans le3).trans le5,W5,its.mid rfl i v ih3 mid,st5,I5.perm (AC (.refl _)),((rs2.trans rs3).trans rs4).trans rs5⟩
  ·exact post.2 B5 x σ5 h1 hp5 v5 s5 (le1.trans ((le2.trans le3).trans le5)) W5 r5 st5 (I5.perm Sv).right (((rs2.trans rs3).trans rs4).trans rs5)
 ·have:i=l.length:=Nat.le_antisymm hil (Nat.le_of_not_lt hlt)
  subst this
  rw [List.drop_length] at W2
  refine its.done B2 ih2 (hp2++F) s2 _ _ le2 sti I2 fun s3 I3 rs3=>?_
  exact wpAny_execs_nil (post.1 B2 σ2 hp2 s3 (le1.trans le2) W2 st2 I3 (rs2.trans rs3))
theorem Sk (Sa:Ac T K){nk:Bool}{t:List Nat}{it:It}{b:Ss}{te:List Expr}{k1:Nat}{p1 pos:Pos}{e:Expr}{body:List Stmt}(mt:IG T nm pins (t.map .var) te=true)(hi:Ex Φ K n fr nk true it e)(hb:CC Φ K n fr b body)(hs:Ay e=true):
  BH Φ K n fr (.forT t it b) (.For (.Tuple te k1 p1) e body [] pos):=fun Kx B σ hp0 F s A Q Er W st ok I ak post=>by
 refine wpAny_For (hi _ B σ hp0 F s A _ _ W st ok I ak fun B1 l σ1 hp1 ih Ia St Mid s1 le1 W1 its st0 st1 ok1 I1 rs1=>?_) (Em hs)
 refine codeAny_forLoop_any (XF B1 l (fun l σ=>OU (Aj T Φ b) t l σ Kx) St fr.ST F s) (fun m s2 h=>?_) l.length
  ⟨0,B1,σ1,hp1,ih,rfl,Nat.zero_le _,PM.le.refl _,W1,st0,st1,I1,rs1⟩
 obtain⟨i,B2,σ2,hp2,ih2,em,hil,le2,W2,sti,st2,I2,rs2⟩:=h
 by_cases hlt:i < l.length
 ·have hd:l.drop i=l[i]::l.drop (i+1):=List.drop_eq_getElem_cons hlt
  rw [hd] at W2
  refine its.step i l[i] B2 ih2 (hp2++F) s2 _ _ le2 (List.getElem?_eq_getElem hlt) sti I2 fun B3 v ih3 s3 le3 r3 mid I3 rs3=>?_
  refine its.go rfl i v te k1 p1 B3 ih3 (hp2++F) s3 _ _ (le2.trans le3) mid I3 fun ih4 s4 sti4 I4 rs4=>?_
  obtain⟨xs,ex,W2⟩:=AF W2
  refine FU (k1:=k1) (p1:=p1) Sa fr ak.handled W2 mt (fr.mono le3 st2) (ok1.mono (le2.trans le3)) (PX ex (h1:=[]) I4 (.inr rfl) r3) (F:=ih4++F) (I4.perm (AC (.refl _))) (fun σ5 hp5 s5 rs5 W5 st5 I5=>?_) (Fk t W2)
  refine hb _ B3 _ hp5 (ih4++F) s5 A _ _ W5 st5 (ok1.mono (le2.trans le3)) I5 ak ⟨fun B6 σ6 hp6 s6 le6 W6 st6 I6 rs6=>?_,fun B6 x σ6 h1 hp6 v6 s6 le6 W6 r6 st6 I6 rs6=>?_⟩
  ·exact⟨l.length - (i+1),QS em hlt,i+1,B6,σ6,hp6,ih4,rfl,hlt,(le2.trans le3).trans le6,W6,sti4,st6,I6.perm (AC (.refl _)),(((rs2.trans rs3).trans rs4).trans rs5).trans rs6⟩
  ·exact post.2 B6 x σ6 h1 hp6 v6 s6 (le1.trans ((le2.trans le3).trans le6)) W6 r6 st6 (I6.perm Sv).right ((((rs2.trans rs3).trans rs4).trans rs5).trans rs6)
 ·have:i=l.length:=Nat.le_antisymm hil (Nat.le_of_not_lt hlt)
  subst this
  rw [List.drop_length] at W2
  refine its.done B2 ih2 (hp2++F) s2 _ _ le2 sti I2 fun s3 I3 rs3=>?_
  exact wpAny_execs_nil (post.1 B2 σ2 hp2 s3 (le1.trans le2) W2 st2 I3 (rs2.trans rs3))
end
theorem J0 (scope:Scope)(env:Env)(h:∀y∈scope.names,y.2=.free→(env.cells.lookup y.1).isSome=true):
  ∃cl,closureFor scope env=pure cl∧∀n,scope.names.lookup n=some .free→cl.lookup n=env.cells.lookup n:=by
 have gen:∀(names:List (Str×NameKind)) (acc:List (Str×Addr)),(∀y∈names,y.2=.free→(env.cells.lookup y.1).isSome=true)→(∀n c,acc.lookup n=some c→env.cells.lookup n=some c)→
   ∃cl,(forIn names acc (fun (x:Str×NameKind) (r:List (Str×Addr))=>(match x with | (name,kind)=>if (kind==.free)=true then (do let a ←cellOf env name;pure (.yield ((name,a)::r))) else pure (.yield r):Sem (ForInStep (List (Str×Addr))))))=pure cl
    ∧ (∀n c,cl.lookup n=some c→env.cells.lookup n=some c)∧∀n,(names.any fun y=>y.1==n&&y.2==.free)=true∨(acc.lookup n).isSome=true→(cl.lookup n).isSome=true:=by
  intro names
  induction names with
  | nil=>intro acc _ ha;exact⟨acc,rfl,ha,fun n hn=>hn.elim (fun h=>by cases h) id⟩
  | cons y r ih=>
   intro acc hy ha
   obtain⟨name,kind⟩:=y
   rw [List.forIn_cons]
   by_cases hk:kind=.free
   ·subst hk
    obtain⟨c,hc⟩:=Option.isSome_iff_exists.mp (hy _ (.head _) rfl)
    have hc:env.cells.lookup name=some c:=hc
    obtain⟨cl,e1,e2,e3⟩:=ih ((name,c)::acc) (fun y h=>hy y (.tail _ h)) (fun n c' hn=>by
     rw [List.lookup_cons] at hn
     by_cases q:n=name
     ·subst q;simp only [beq_self_eq_true] at hn;cases hn;exact hc
     ·have:(n==name)=false:=by simpa using q
      simp only [this] at hn
      exact ha n c' hn)
    refine⟨cl,?_,e2,fun n hn=>e3 n ?_⟩
    ·have:cellOf env name=pure c:=by unfold cellOf;rw [hc]
     simp only [beq_self_eq_true,if_true,this,pure_bind]
     exact e1
    ·by_cases q:n=name
     ·subst q;right;rw [List.lookup_cons];simp
     ·rcases hn with hn | hn
      ·left
       rw [List.any_cons] at hn
       have:(name==n)=false:=by simpa using fun e=>q e.symm
       simp only [this,Bool.false_and,Bool.false_or] at hn
       exact hn
      ·right
       rw [List.lookup_cons]
       have:(n==name)=false:=by simpa using q
       simp only [this];exact hn
   ·have hk':(kind==NameKind.free)=false:=by simpa using hk
    obtain⟨cl,e1,e2,e3⟩:=ih acc (fun y h=>hy y (.tail _ h)) ha
    refine⟨cl,?_,e2,fun n hn=>e3 n ?_⟩
    ·simp only [hk',Bool.false_eq_true,if_false,pure_bind]
     exact e1
    ·rcases hn with hn | hn
     ·left
      rw [List.any_cons] at hn
      have:(kind==NameKind.free)=false:=hk'
      simp only [this,Bool.and_false,Bool.false_or] at hn
      exact hn
     ·exact .inr hn
 obtain⟨cl,e1,e2,e3⟩:=gen scope.names [] h (fun n c h=>by cases h)
 refine⟨cl,?_,fun n hn=>?_⟩
 ·unfold closureFor
  exact (congrArg (fun t=>t >>= fun x=>pure x) e1).trans (by simp)
 ·have:(cl.lookup n).isSome=true:=e3 n (.inl (by
   refine List.any_eq_true.mpr ⟨(n,.free),?_,by simp⟩
   exact mem_of_lookup hn))
  obtain⟨c,hc⟩:=Option.isSome_iff_exists.mp this
  rw [hc,e2 n c hc]
structure DU (kd:Str→Option NameKind)(scope:Scope)(ns:List Str)(ci:Nat)(x:Str):Prop where
 kind:scope.kind=.function
 nocell:∀y∈scope.names,y.2≠.cell
 names:∀y∈scope.names,y.2=.local→scope.names.lookup y.1=some .local
 hx:scope.names.lookup x=some .local
 free:∀y∈scope.names,y.2=.free→kd y.1=some .cell
 big:ns.length≤ci
noncomputable def Cv (scope:Scope)(ns:List Str)(ci:Nat)(x:Str)(i:Nat):Option Str:=if i=ci then some x else match ns[i]? with
 | some n=>if scope.names.lookup n=some .free then some n else none
 | none=>none
inductive cn (T:Tabs)(B:PM)(x:Str)(ml:Str→Option Value)(y:Option V)(xp:HP):Prop
 | no (h:y=none∨y=some .undef) (e:xp=[])
 | ok (xv:V) (v:Value) (e:y=some xv) (em:ml x=some v) (r:RV T.toTab B xv v xp)
inductive Yb (T:Tabs)(env:Env)(ns:List Str)(pv:List (Nat×Value))(C:Addr)(ci:Nat)(x:Str)(B:PM)(σ:List V)(hp:HP):Prop
 | cst (ol:Obj) (ml:Str→Option Value) (xp op:HP) (p:hp.Perm ((C,ol)::(xp++op))) (no:PB ol ml) (sl:cn T B x ml σ[ci]? xp) (st:Dl T env ns pv B (σ.set ci .undef) op)
theorem cn.mono {B B':PM}{x:Str}{ml:Str→Option Value}{y:Option V}{xp:HP}(le:B.le B')(s:cn T B x ml y xp):cn T B' x ml y xp:=by
 cases s with
 | no h e=>exact .no h e
 | ok xv v e em r=>exact .ok xv v e em (r.mono le)
theorem CL {env:Env}{x:Str}{k:NameKind}(hk:k≠.free):∀{names:List (Str×NameKind)},names.lookup x=some k→
  (names.map fun (n,k)=>if (k==NameKind.free&&env.scope.kind==.function&&env.kindOf n==some .cell) then (n,NameKind.cell) else (n,k)).lookup x=some k
 | [],h=>by simp at h
 | (n,k')::r,h=>by
  have ih:=CL (env:=env) (x:=x) hk (names:=r)
  show List.lookup x ((if (k'==NameKind.free&&env.scope.kind==.function&&env.kindOf n==some .cell)=true then (n,NameKind.cell) else (n,k'))::_)=_
  rw [List.lookup_cons] at h
  by_cases q:x=n
  ·subst q
   simp only [beq_self_eq_true] at h
   cases h
   have:(k==NameKind.free)=false:=by simpa using hk
   simp [this]
  ·have q':(x==n)=false:=by simpa using q
   simp only [q'] at h
   split <;> (rw [List.lookup_cons];simp only [q'];exact ih h)
theorem CQ {env:Env}{x:Str}(hf:env.scope.kind=.function)(hc:env.kindOf x=some .cell):∀{names:List (Str×NameKind)},names.lookup x=some .free→
  (names.map fun (n,k)=>if (k==NameKind.free&&env.scope.kind==.function&&env.kindOf n==some .cell) then (n,NameKind.cell) else (n,k)).lookup x=some .cell
 | [],h=>by simp at h
 | (n,k')::r,h=>by
  have ih:=CQ (env:=env) hf hc (names:=r)
  show List.lookup x ((if (k'==NameKind.free&&env.scope.kind==.function&&env.kindOf n==some .cell)=true then (n,NameKind.cell) else (n,k'))::_)=_
  rw [List.lookup_cons] at h
  by_cases q:x=n
  ·subst q
   simp only [beq_self_eq_true] at h
   cases h
   rw [if_pos (by simp [hf,hc])]
   simp
  ·have q':(x==n)=false:=by simpa using q
   simp only [q'] at h
   split <;> (rw [List.lookup_cons];simp only [q'];exact ih h)
variable {ns:List Str}{isG:Str→Bool}{pv:List (Nat×Value)}{scope:Scope}{ci:Nat}{x:Str}{cl:List (Str×Addr)}{C:Addr}
noncomputable def Af (V0:DW env ns isG)(pv:List (Nat×Value))(CO:DU env.kindOf scope ns ci x)(hcl:∀n,scope.names.lookup n=some .free→cl.lookup n=env.cells.lookup n)(C:Addr):
  A8 w T (compEnvC scope cl C env) (Cv scope ns ci x) (List.range ns.length) where
 ST:=Yb T env ns pv C ci x
 mono:=fun {B B' σ hp} le ⟨ol,ml,xp,op,p,no,sl,st⟩=>⟨ol,ml,xp,op,p,no,sl.mono le,st.mono le⟩
 perm:=fun {B σ hp hp'} q ⟨ol,ml,xp,op,p,no,sl,st⟩=>⟨ol,ml,xp,op,q.symm.trans p,no,sl,st⟩
 load:=fun {B σ hp i y n} ⟨ol,ml,xp,op,p,no,sl,st⟩ ey hy en=>by
  unfold Cv at en
  by_cases hi:i=ci
  ·subst hi
   rw [if_pos rfl] at en
   cases en
   rcases sl with ⟨h,-⟩ | ⟨xv,v,e1,e2,r⟩
   ·rcases h with h | h
    ·rw [ey] at h;cases h
    ·rw [ey] at h;cases h;exact absurd rfl hy
   ·rw [ey] at e1;cases e1
    refine⟨v,xp,(C,ol)::op,p.trans (AC (p:=[(C,ol)]) (.refl _)),r,fun A F s Q E I q=>?_,fun B' x' h1' le r'=>?_,?_⟩
    ·have g:=I.own (C,ol) (List.mem_append_left _ (p.mem_iff.mpr (.head _)))
     exact wpAny_loadName_local (env:=compEnvC scope cl C env) (by show scope.kind=_;exact CO.kind) (lookup_relabel_local CO.hx) (no.at_ g) e2 q
    ·have hlt:=(List.getElem?_eq_some_iff.mp ey).1
     refine⟨ol,ml,h1',op,(AC (p:=[(C,ol)]) (.refl _)).symm,no,.ok x' v (by rw [List.getElem?_set_self hlt]) e2 r',?_⟩
     rw [List.set_set];exact st.mono le
    ·have hlt:=(List.getElem?_eq_some_iff.mp ey).1
     refine⟨ol,ml,[],op,.refl _,no,.no (.inr (by rw [List.getElem?_set_self hlt])) rfl,?_⟩
     rw [List.set_set];exact st
  ·rw [if_neg hi] at en
   cases en0:ns[i]? with
   | none=>rw [en0] at en;cases en
   | some n0=>
    rw [en0] at en
    have en:(if scope.names.lookup n0=some .free then some n0 else none)=some n:=en
    by_cases hf:scope.names.lookup n0=some .free
    ·rw [if_pos hf] at en
     cases en
     have hfree:=CO.free (n,.free) (mem_of_lookup hf) rfl
     have ey':(σ.set ci .undef)[i]?=some y:=by rw [List.getElem?_set_ne (Ne.symm hi)];exact ey
     obtain⟨v,h1,h2,-,cel,pp,r,-,back,rest⟩:=st.load (w:=w) V0 ey' hy en0
     refine⟨v,h1,(C,ol)::(xp++h2),?_,r,fun A F s Q E I q=>?_,fun B' x' h1' le r'=>?_,?_⟩
     ·refine p.trans ?_
      have:((C,ol)::(xp++op)).Perm (((C,ol)::xp)++(h1++h2)):=List.Perm.append_left ((C,ol)::xp) pp
      exact this.trans (AC (.refl _))
     ·have ho:=V0.kinds n (List.mem_of_getElem? en0)
      rw [hfree] at ho
      rcases ho with ho | ⟨-,ho⟩
      ·cases ho
      obtain⟨c,hc⟩:=Option.isSome_iff_exists.mp ho
      obtain⟨o,hm,hd⟩:=cel c hc
      have g:=I.own (c,o) (List.mem_append_left _ (p.mem_iff.mpr (.tail _ (List.mem_append_right _ hm))))
      exact wpAny_loadName_cell (env:=compEnvC scope cl C env) (by show scope.kind=_;exact CO.kind) (CQ V0.hk hfree hf) (by show cl.lookup n=_;rw [hcl n hf];exact hc) ⟨o,g,hd⟩ q
     ·refine⟨ol,ml,xp,h1'++h2,?_,no,?_,?_⟩
      ·exact (AC (p:=(C,ol)::xp) (.refl _)).symm
      ·rw [List.getElem?_set_ne hi]
       exact sl.mono le
      ·have:=back B' x' h1' le r'
       rw [List.set_comm _ _ (Ne.symm hi)] at this
       exact this
     ·refine⟨ol,ml,xp,h2,.refl _,no,?_,?_⟩
      ·rw [List.getElem?_set_ne hi];exact sl
      ·rw [List.set_comm _ _ (Ne.symm hi)] at rest
       exact rest
    ·rw [if_neg hf] at en;cases en
 store:=fun {B σ hp i y n v h' F s A Q E} ⟨ol,ml,xp,op,p,no,sl,st⟩ en hi r I k=>by
  have hic:i=ci:=by
   by_cases q:i=ci
   ·exact q
   ·unfold Cv at en
    rw [if_neg q] at en
    cases en0:ns[i]? with
    | none=>rw [en0] at en;cases en
    | some n0=>exact absurd (List.mem_range.mpr (List.getElem?_eq_some_iff.mp en0).1) hi
  subst hic
  unfold Cv at en
  rw [if_pos rfl] at en
  cases en
  have I2:Inv B s.heap ((C,ol)::(h'++(op++(xp++F)))):=I.perm (by
   refine (List.Perm.append_left h' (p.append_right F)).trans ?_
   have:((C,ol)::(xp++op))++F=[(C,ol)]++(xp++(op++F)):=by simp
   rw [this]
   refine (AC (.refl _)).trans ?_
   refine List.Perm.cons _ (List.Perm.append_left h' (AC (.refl _))))
  have g:=I2.own (C,ol) (.head _)
  have hk:(compEnvC scope cl C env).scope.kind=.function:=CO.kind
  have hpp:((compEnvC scope cl C env).scope.kind==.class||((compEnvC scope cl C env).scope.kind==.module&&(compEnvC scope cl C env).locals != (compEnvC scope cl C env).globals))=false:=by rw [hk];rfl
  refine wpAny_storeName_local (env:=compEnvC scope cl C env) (lookup_relabel_local CO.hx) (no.at_ g) (fun h1 hns hsb=>?_) hpp
  obtain⟨o',go,no'⟩:=PB.of hns
  have I3:Inv B h1 ((C,o')::(h'++(op++(xp++F)))):=I2.upd hsb.2 go
  by_cases hlt:i < σ.length
  ·refine k _ ((C,o')::(h'++op)) ⟨rfl,rfl⟩ ⟨o',_,h',op,.refl _,no',.ok y v (by rw [List.getElem?_set_self hlt]) (by simp) r,by rw [List.set_set];exact st⟩ ?_
   have:Inv B h1 (xp++(((C,o')::(h'++op))++F)):=I3.perm (by
    have e1:((C,o')::(h'++op))++F=((C,o')::h')++(op++F):=by simp
    rw [e1]
    have:((C,o')::(h'++(op++(xp++F)))).Perm (((C,o')::h')++(xp++(op++F))):=List.Perm.append_left ((C,o')::h') (AC (.refl _))
    exact this.trans (AC (.refl _)))
   exact this.right
  ·have e0:σ.set i y=σ:=by rw [List.set_eq_of_length_le (Nat.le_of_not_lt hlt)]
   refine k _ ((C,o')::op) ⟨rfl,rfl⟩ ⟨o',_,[],op,.refl _,no',.no (.inl ?_) rfl,by rw [List.set_set];exact st⟩ ?_
   ·rw [e0];exact List.getElem?_eq_none (Nat.le_of_not_lt hlt)
   ·have:Inv B h1 ((h'++xp)++(((C,o')::op)++F)):=I3.perm (by
     have e1:((C,o')::op)++F=[(C,o')]++(op++F):=by simp
     rw [e1]
     have:((C,o')::(h'++(op++(xp++F)))).Perm ([(C,o')]++((h'++xp)++(op++F))):=by
      refine List.Perm.cons _ ?_
      rw [List.append_assoc]
      exact List.Perm.append_left h' (AC (.refl _))
     exact this.trans (AC (.refl _)))
    exact this.right
 isG:=fun n=>scope.names.lookup n==some .globalImplicit
 glob:=fun {n A s Q E} h q=>by
  have hl:(compEnvC scope cl C env).kindOf n=some .globalImplicit:=CL (by decide) (beq_iff_eq.mp h)
  have hk:(compEnvC scope cl C env).scope.kind=.function:=CO.kind
  rw [loadName_read hk hl]
  exact q
 fk:=CO.kind
 gs:=V0.gs
 bs:=V0.bs
end
section
open PySem PySem.W PyProof.Rows PySem.Calls
open Hd (pw)
variable {w:World}{T:Tabs}{K:Frag}{env:Env}{ns:List Str}{isG:Str→Bool}{pv:List (Nat×Value)}{scope:Scope}{ci:Nat}{x:Str}{cl:List (Str×Addr)}{C:Addr}{Φ:Nat→List V→(V→List V→Prop)→Prop}{n:Nat}
theorem Yb.outer {B:PM}{σ:List V}{hp:HP}(st:Yb T env ns pv C ci x B σ hp):∃ol ml g op,hp.Perm (g++((C,ol)::op))∧PB ol ml∧Dl T env ns pv B (σ.set ci .undef) op:=by
 obtain⟨ol,ml,xp,op,p,no,sl,st⟩:=st
 exact⟨ol,ml,xp,op,p.trans (AC (p:=[(C,ol)]) (.refl _)),no,st⟩
theorem Yb.mk {B:PM}{σ:List V}{op:HP}{ol:Obj}{ml:Str→Option Value}(no:PB ol ml)(st:Dl T env ns pv B σ op)(hu:σ[ci]?=none∨σ[ci]?=some .undef):Yb T env ns pv C ci x B σ ((C,ol)::op):=by
 refine⟨ol,ml,[],op,.refl _,no,.no hu rfl,?_⟩
 have:σ.set ci .undef=σ:=by
  rcases hu with h | h
  ·exact List.set_eq_of_length_le (List.getElem?_eq_none_iff.mp h)
  ·obtain⟨hl,e⟩:=List.getElem?_eq_some_iff.mp h
   rw [←e];exact List.set_getElem_self hl
 rw [this];exact st
theorem Dl.undef_big {B:PM}{σ:List V}{hp:HP}(st:Dl T env ns pv B σ hp)(hb:ns.length≤ci):σ[ci]?=none∨σ[ci]?=some .undef:=by
 obtain⟨m,ml,ol,cp,vp,p,no,e,c,s,ex0,pq⟩:=st
 cases h:σ[ci]? with
 | none=>exact .inl rfl
 | some y=>
  right
  have:y∈σ.drop ns.length:=by
   rw [List.mem_iff_getElem?]
   exact⟨ci - ns.length,by rw [List.getElem?_drop,Nat.add_sub_cancel' hb];exact h⟩
  rw [ex0 y this]
theorem pm (p g1 g2:HP):(p++(g1++g2)).Perm (g1++(p++g2)):=AC (.refl _)
theorem PH {A:Around}{s:Shared}{Q:Value→Shared→Prop}{Er:Value→Shared→Prop}{a:Addr}{vs:Array Value}{m:Nat}{u:Value}(g:s.heap.get? a=some (AD vs m))(hz:vs.size≤sizeLine)
  (h:Q .none { s with heap:=s.heap.update a (Obj.mapSeq fun xs=>xs.push u) }):wpAny (model pw w) A (call (.builtin "list.append") [.ref a,u]) Q Er s:=
 call_meets PySem.F.slot_list_append ⟨_,g,rfl⟩ PySem.F.entry_list_append (PySem.F.args_list_append_2 _ _) (PySem.list_append a vs m u hz) ⟨g,h⟩
theorem QH {elt iter:Expr}{px:Pos}{ifs:List Expr}{pos:Pos}{it:Value}{acc:Value}{env':Env}{A:Around}{R:Result→Shared→Prop}{s:Shared}
  (h0:codeAny (model pw w) A (.compLoop (.ListComp elt [⟨.Name x px,iter,ifs,0⟩] scope pos) 0 it acc env') R s) (h1:∀Q E,Q it s→wpAny (model pw w) A (pyIter it) Q E s):
  codeAny (model pw w) A (.compStart (.ListComp elt [⟨.Name x px,iter,ifs,0⟩] scope pos) 0 it acc env') R s:=
 codeAny_compStart_list h0 (h1 _ _ h0)
noncomputable def cW (T:Tabs)(W:List V→List V→V→List V→(List V→List V→Prop)→Prop)(ci:Nat):List V→List V→List V→(List V→List V→Prop)→Prop
 | [],acc,σ,K=>K acc σ
 | x::l,acc,σ,K=>W l acc x σ fun acc σ=>cW T W ci l acc σ K
inductive XU (B0:PM)(l:List V)(WL:List V→List V→List V→Prop)(St:Nat→HP→Prop)(ST:PM→List V→HP→Prop)(T:Tab)(C a:Addr)(F:HP)(s0:Shared)(m:Nat)(s:Shared):Prop
 | mk (i:Nat) (B:PM) (σ:List V) (hp ih:HP) (ol:Obj) (vs:Array Value) (k:Nat) (acc:List V) (em:m=l.length - i) (hil:i≤l.length) (le:B0.le B) (hW:WL (l.drop i) acc σ) (sti:St i ih) (no:∃ml,PB ol ml) (st:ST B σ hp) (rl:RL T B acc vs.toList []) (hz:acc.length≤16000000)
  (I:Inv B s.heap ((C,ol)::((a,AD vs k)::(ih++(hp++F))))) (rs:AO s0 s)
theorem WG {x y:Addr×Obj}{ih hp F:HP}:(ih++(x::(y::(hp++F)))).Perm ([]++((x::hp)++(y::(ih++F)))):=by
 refine (pm ih [x] (y::(hp++F))).trans (List.Perm.cons x ?_)
 refine (pm ih [y] (hp++F)).trans ?_
 exact (List.Perm.append_left [y] (pm ih hp F)).trans (pm [y] hp (ih++F))
theorem Vg {x y:Addr×Obj}{hp g op ih F:HP}(p:hp.Perm (g++(x::op))):(y::(hp++(ih++F))).Perm (g++(x::(y::(ih++(op++F))))):=by
 refine (List.Perm.cons y ((p.append_right (ih++F)).trans (by rw [List.append_assoc]))).trans ?_
 refine (pm [y] g _).trans (List.Perm.append_left g ?_)
 refine (pm [y] [x] (op++(ih++F))).trans (List.Perm.append_left [x] (List.Perm.append_left [y] (pm op ih F)))
theorem RJ {tk:Bool}(V0:DW env ns isG)(CO:DU env.kindOf scope ns ci x)(hcl:∀n,scope.names.lookup n=some .free→cl.lookup n=env.cells.lookup n)
  {W:List V→(List V→List V→Prop)→V→List V→List V→Prop} {elt iter:Expr} {px:Pos} {ifs:List Expr} {pos:Pos} {Ia:Addr} {St:Nat→HP→Prop} {Mid:Nat→Value→HP→Prop} {l:List V} {B0:PM} {A:Around} {R:Result→Shared→Prop} {a:Addr} {s0:Shared} {F lo:HP}
  (its:Kk w T A Ia true tk B0 l St Mid lo) (j6:Bk K B0)
  (WL:List V→List V→List V→Prop)
  (turn:∀(x1:V) (rest acc σ:List V) (B:PM) (hp F:HP) (s:Shared) (Q:Bool→Shared→Prop) (E:Value→Shared→Prop),WL (x1::rest) acc σ→(Af (w:=w) (T:=T) V0 pv CO hcl C).ST B (σ.set ci x1) hp→B0.le B→Inv B s.heap (hp++F)→
   (∀B' σ' hp' s',B.le B'→WL rest acc (σ'.set ci .undef)→(Af (w:=w) (T:=T) V0 pv CO hcl C).ST B' σ' hp'→Inv B' s'.heap (hp'++F)→AO s s'→Q false s')→
   (∀B' σ' hp' s',B.le B'→(Af (w:=w) (T:=T) V0 pv CO hcl C).ST B' σ' hp'→Inv B' s'.heap (hp'++F)→AO s s'→(∀Q':Value→Shared→Prop,(∀B'' y σ'' hp'' v s'',B'.le B''→acc.length < 16000000∧WL rest (acc++[y]) (σ''.set ci .undef)→RV T.toTab B'' y v []→(Af (w:=w) (T:=T) V0 pv CO hcl C).ST B'' σ'' hp''→Inv B'' s''.heap (hp''++F)→AO s' s''→Q' v s'')→∀E,wpAny (model pw w) A (eval elt (compEnvC scope cl C env)) Q' E s')→Q true s')→
   wpAny (model pw w) A (forIn ifs true fun c r=>if r=true then do let ok ←isTrue c (compEnvC scope cl C env) (eval c (compEnvC scope cl C env));pure (ForInStep.yield ok) else pure (ForInStep.yield r)) Q E s)
  {acc:List V} {σ:List V} {hp:HP} {ih:HP} {ol:Obj} {vs:Array Value} {k:Nat} (hW:WL l acc σ) (st0:St 0 ih) (no:∃ml,PB ol ml) (st:Dl T env ns pv B0 σ hp) (rl:RL T.toTab B0 acc vs.toList [])
  (I0:Inv B0 s0.heap ((C,ol)::((a,AD vs k)::(ih++(hp++F)))))
  (fin:∀B' acc σ' hp' s' ol vs k,B0.le B'→WL [] acc σ'→(∃ml,PB ol ml)→RL T.toTab B' acc vs.toList []→acc.length≤16000000→Dl T env ns pv B' σ' hp'→Inv B' s'.heap ((C,ol)::((a,AD vs k)::(lo++(hp'++F))))→AO s0 s'→R (.ok .next) s') (hz:acc.length≤16000000):
  codeAny (model pw w) A (.compLoop (.ListComp elt [⟨.Name x px,iter,ifs,0⟩] scope pos) 0 (.ref Ia) (.ref a) (compEnvC scope cl C env)) R s0:=by
 refine codeAny_compLoop_tests (XU B0 l WL St (Dl T env ns pv) T.toTab C a F s0) (fun m s h=>?_) l.length ⟨0,B0,σ,hp,ih,ol,vs,k,acc,rfl,Nat.zero_le _,PM.le.refl _,hW,st0,no,st,rl,hz,I0,AO.refl _⟩
 obtain⟨i,B,σ,hp,ih,ol,vs,k,acc,em,hil,le,hW,sti,⟨ml,no⟩,st,rl,hz,I,rs⟩:=h
 have I1:Inv B s.heap (ih++((C,ol)::((a,AD vs k)::(hp++F)))):=I.perm (AC (p:=[(C,ol),(a,AD vs k)]) (.refl _))
 by_cases hlt:i < l.length
 ·have hd:l.drop i=l[i]::l.drop (i+1):=List.drop_eq_getElem_cons hlt
  rw [hd] at hW
  refine its.step i l[i] B ih _ s _ _ le (List.getElem?_eq_getElem hlt) sti I1 fun B2 v ih2 s2 le2 r2 mid I2 rs2=>?_
  have st2:(Af (w:=w) (T:=T) V0 pv CO hcl C).ST B2 σ ((C,ol)::hp):=Yb.mk no (st.mono le2) (st.undef_big CO.big)
  have hci:ci∉List.range ns.length:=fun h=>Nat.not_lt.mpr CO.big (List.mem_range.mp h)
  refine wpAny_assign_Name (CG (Af (w:=w) (T:=T) V0 pv CO hcl C) (if_pos rfl) hci (h1:=[]) r2 st2 (F:=(a,AD vs k)::(ih2++F)) (I2.perm WG) fun s3 hp3 rs3 st3 I3=>?_)
  have tail:∀{B':PM} {σ':List V} {hp':HP} {s':Shared} {acc':List V} {vs':Array Value} {k':Nat},B2.le B'→WL (l.drop (i+1)) acc' (σ'.set ci .undef)→(Af (w:=w) (T:=T) V0 pv CO hcl C).ST B' σ' hp'→RL T.toTab B' acc' vs'.toList []→acc'.length≤16000000→
    Inv B' s'.heap ((a,AD vs' k')::(hp'++(ih2++F)))→AO s3 s'→∃m',m' < m∧XU B0 l WL St (Dl T env ns pv) T.toTab C a F s0 m' s':=by
   intro B' σ' hp' s' acc' vs' k' le' hW' st' rl' hz' I' rs'
   obtain⟨ol',ml',g,op,p,no',st'⟩:=Yb.outer st'
   exact⟨l.length - (i+1),QS em hlt,i+1,B',_,op,ih2,ol',vs',k',acc',rfl,hlt,(le.trans le2).trans le',hW',its.mid rfl i v ih2 mid,⟨ml',no'⟩,st',rl',hz',(I'.perm (Vg p)).right,((rs.trans rs2).trans rs3).trans rs'⟩
  refine turn l[i] (l.drop (i+1)) acc σ B2 hp3 ((a,AD vs k)::(ih2++F)) s3 _ _ hW st3 (le.trans le2) I3 (fun B4 σ4 hp4 s4 le4 hW4 st4 I4 rs4=>?_) (fun B4 σ4 hp4 s4 le4 st4 I4 rs4 ev=>?_)
  ·rw [if_neg Bool.false_ne_true]
   exact tail le4 hW4 st4 (rl.mono (le2.trans le4)) hz (I4.perm (AC (g1:=[(a,AD vs k)]) (.refl _))) rs4
  ·rw [if_pos rfl]
   refine ev _ (fun B5 y σ5 hp5 u s5 le5 hW5 r5 st5 I5 rs5=>?_) _
   have I6:Inv B5 s5.heap ((a,AD vs k)::(hp5++(ih2++F))):=I5.perm (AC (g1:=[(a,AD vs k)]) (.refl _))
   obtain⟨k',I7⟩:=Dj (·.push u) I6
   refine PH (I6.own (a,AD vs k) (.head _)) (Nat.le_of_lt (Mu rl hW5.1)) ?_
   exact tail (le4.trans le5) hW5.2 st5 (by rw [Array.toList_push];exact RL.snoc r5 (rl.mono ((le2.trans le4).trans le5))) (by rw [List.length_append];exact hW5.1) I7 (rs4.trans ⟨rs5.gens,rs5.os⟩)
 ·have:i=l.length:=Nat.le_antisymm hil (Nat.le_of_not_lt hlt)
  subst this
  rw [List.drop_length] at hW
  refine its.done B ih _ s _ _ le sti I1 fun s2 I2 rs2=>?_
  exact fin B acc σ hp s2 ol vs k le hW ⟨ml,no⟩ rl hz st (I2.perm (AC (g1:=[(C,ol),(a,AD vs k)]) (.refl _))) (rs.trans rs2)
end
section
open PySem PySem.W PyProof.Rows PySem.Calls
open Hd (pw)
variable {w:World}{T:Tabs}{K:Frag}{env:Env}{ns:List Str}{isG:Str→Bool}{pv:List (Nat×Value)}{scope:Scope}{ci:Nat}{x:Str}{cl:List (Str×Addr)}{Φ:Nat→List V→(V→List V→Prop)→Prop}{n:Nat}
theorem Inv.forget {B:PM}{h h':Heap}{C:Addr}{o:Obj}{R:HP}(I:Inv B h ((C,o)::R))(sb:Heap.SameBut C h h'):Inv B h' R:=by
 have nd:=I.nd
 rw [List.map_cons,List.nodup_cons] at nd
 have off:B C=none:=I.off (C,o) (.head _)
 refine⟨fun a ob e=>?_,fun p hp=>?_,fun p hp=>I.off p (.tail _ hp),nd.2⟩
 ·rw [sb.2 a (fun q=>by subst q;rw [e] at off;cases off)];exact I.base a ob e
 ·rw [sb.2 p.1 (fun q=>nd.1 (List.mem_map.mpr ⟨p,hp,q⟩))];exact I.own p (.tail _ hp)
theorem DX {tk:Bool}(V0:DW env ns isG)(CO:DU env.kindOf scope ns ci x)(hclos:closureFor scope env=pure cl)(hcl:∀n,scope.names.lookup n=some .free→cl.lookup n=env.cells.lookup n){elt iter:Expr}{px:Pos}{ifs:List Expr}{pos pos':Pos}
  (hs:Ay iter=true)     {WL:(List V→List V→Prop)→List V→List V→List V→Prop} (wl0:∀Kx acc σ,WL Kx [] acc σ→Kx acc σ)
  (turn:∀(Kx:List V→List V→Prop) (C:Addr) (x1:V) (rest acc σ:List V) (B:PM) (hp F:HP) (s:Shared) (A:Around) (Q:Bool→Shared→Prop) (E:Value→Shared→Prop),J4 n A→Bk K B→WL Kx (x1::rest) acc σ→(Af (w:=w) (T:=T) V0 pv CO hcl C).ST B (σ.set ci x1) hp→Inv B s.heap (hp++F)→
   (∀B' σ' hp' s',B.le B'→WL Kx rest acc (σ'.set ci .undef)→(Af (w:=w) (T:=T) V0 pv CO hcl C).ST B' σ' hp'→Inv B' s'.heap (hp'++F)→AO s s'→Q false s')→
   (∀B' σ' hp' s',B.le B'→(Af (w:=w) (T:=T) V0 pv CO hcl C).ST B' σ' hp'→Inv B' s'.heap (hp'++F)→AO s s'→(∀Q':Value→Shared→Prop,(∀B'' y σ'' hp'' v s'',B'.le B''→acc.length < 16000000∧WL Kx rest (acc++[y]) (σ''.set ci .undef)→RV T.toTab B'' y v []→(Af (w:=w) (T:=T) V0 pv CO hcl C).ST B'' σ'' hp''→Inv B'' s''.heap (hp''++F)→AO s' s''→Q' v s'')→∀E,wpAny (model pw w) A (eval elt (compEnvC scope cl C env)) Q' E s')→Q true s')→
   wpAny (model pw w) A (forIn ifs true fun c r=>if r=true then do let ok ←isTrue c (compEnvC scope cl C env) (eval c (compEnvC scope cl C env));pure (ForInStep.yield ok) else pure (ForInStep.yield r)) Q E s)
  {use:Option (Value→Sem Unit)} {Kx:List V→List V→Prop} {B:PM} {F lo:HP} {s:Shared} {A:Around} {Q:Value→Shared→Prop} {Er:Value→Shared→Prop} (ak:J4 n A)
  (start:∀Q:Value→Shared→Prop,(∀B' l σ' hp' ih I St Mid s',B.le B'→WL Kx l [] σ'→Kk w T A I true tk B' l St Mid lo→St 0 ih→Dl T env ns pv B' σ' hp'→Bk K B'→Inv B' s'.heap (ih++(hp'++F))→AO s s'→Q (.ref I) s')→wpAny (model pw w) A (eval iter env) (fun xv s₁=>wpAny (model pw w) A (pyIter xv) Q Er s₁) Er s)
  (post:∀B' acc σ' D C ol hp' vs k s',B.le B'→Kx acc σ'→acc.length≤16000000→RL T.toTab B' acc vs.toList []→Dl T env ns pv B' σ' hp'→Bk K B'→Inv B' s'.heap ((C,ol)::((D,AD vs k)::(lo++(hp'++F))))→AO s s'→(∃ml,PB ol ml)→
   compPost (model pw w) A Er use Q (.ref D) C (.ok .next) s'):
  wpAny (model pw w) A (comprehension (.ListComp elt [⟨.Name x px,iter,ifs,0⟩] scope pos) scope env pos' (newList []) false (eval iter env) use) Q Er s:=by
 refine wpAny_comprehension_free rfl (Em hs) hclos CO.kind CO.names (start _ fun B1 l σ1 hp1 ih Ia St Mid s1 le1 W1 its st0 st1 ok1 I1 rs1=>?_)
 refine wpAny_newObj_type (wpAny_newFunctionEnv CO.nocell (by intro y hy;cases hy) (fun h₁ hns hsb=>?_) CO.kind)
 dsimp only at hns hsb ⊢
 have I2:Inv B1 (s1.heap.push (AD #[] 0)) ((s1.heap.objs.size,AD #[] 0)::(ih++(hp1++F))):=AY I1 rfl
 obtain⟨ol,gol,no⟩:=PB.of hns
 have I3:Inv B1 h₁ (((s1.heap.push (AD #[] 0)).objs.size,ol)::((s1.heap.objs.size,AD #[] 0)::(ih++(hp1++F)))):=
  I2.new (fun a o e=>hsb.extBut a o (Nat.ne_of_lt (Heap.lt_size e)) (Heap.get?_push_of_some _ e)) (CV _) gol
 have loop:∀s3:Shared,s3.heap=h₁→AO s1 s3→codeAny (model pw w) A (.compLoop (.ListComp elt [⟨.Name x px,iter,ifs,0⟩] scope pos) 0 (.ref Ia) (.ref s1.heap.objs.size) (compEnvC scope cl (s1.heap.push (AD #[] 0)).objs.size env))
   (compPost (model pw w) A Er use Q (.ref s1.heap.objs.size) (s1.heap.push (AD #[] 0)).objs.size) s3:=by
  intro s3 e3 rs3
  refine RJ V0 CO hcl (W:=fun _ _ _ _ _=>True) its ok1 (WL Kx) (fun x1 rest acc σ B hp F s Q E hWL st le Iv kf kt=>turn Kx _ x1 rest acc σ B hp F s A Q E ak (ok1.mono le) hWL st Iv kf kt) W1 st0 ⟨_,no⟩ st1 (acc:=[]) (vs:=#[]) (k:=0) ⟨⟩ (by rw [e3];exact I3) (fun B' acc σ' hp' s' ol' vs k le hW no' rl hz st' I' rs'=>?_) (Nat.zero_le _)
  exact post B' acc σ' _ _ ol' hp' vs k s' (le1.trans le) (wl0 _ _ _ hW) hz rl st' (ok1.mono le) I' ((rs1.trans rs3).trans rs') no'
 refine QH (loop _ rfl ⟨rfl,rfl⟩) fun Q' E' q=>?_
 exact its.self 0 B1 ih _ _ Q' E' (PM.le.refl _) st0 (I3.perm (pm [((s1.heap.push (AD #[] 0)).objs.size,ol),(s1.heap.objs.size,AD #[] 0)] ih (hp1++F))) q
theorem Dh {B:PM}{acc:List V}{D:Addr}{vs:Array Value}{k:Nat}(rl:RL T.toTab B acc vs.toList [])(hz:acc.length≤16000000):RV T.toTab B (.lst .sh acc) (.ref D) [(D,AD vs k)]:=by
 exact⟨by rw [sizeLine_eq];lia,D,vs,k,[],⟨rfl,rfl⟩,rl⟩
theorem Gz (V0:DW env ns isG)(CO:DU env.kindOf scope ns ci x)(hcl:∀n,scope.names.lookup n=some .free→cl.lookup n=env.cells.lookup n){elt:E}{e:Expr}(hb:∀C,AK Φ K n (Af (w:=w) (T:=T) V0 pv CO hcl C) elt e)
  (Kx:List V→List V→Prop) (C:Addr) (x1:V) (rest acc σ:List V) (B:PM) (hp F:HP) (s:Shared) (A:Around) (Q:Bool→Shared→Prop) (E:Value→Shared→Prop) (ak:J4 n A) (ok:Bk K B) (hW:Bn (WE T Φ elt) ci (x1::rest) acc σ Kx) (st:(Af (w:=w) (T:=T) V0 pv CO hcl C).ST B (σ.set ci x1) hp) (I:Inv B s.heap (hp++F))
  (kt:∀B' σ' hp' s',B.le B'→(Af (w:=w) (T:=T) V0 pv CO hcl C).ST B' σ' hp'→Inv B' s'.heap (hp'++F)→AO s s'→(∀Q':Value→Shared→Prop,(∀B'' y σ'' hp'' v s'',B'.le B''→acc.length < 16000000∧Bn (WE T Φ elt) ci rest (acc++[y]) (σ''.set ci .undef) Kx→RV T.toTab B'' y v []→(Af (w:=w) (T:=T) V0 pv CO hcl C).ST B'' σ'' hp''→Inv B'' s''.heap (hp''++F)→AO s' s''→Q' v s'')→∀E,wpAny (model pw w) A (eval e (compEnvC scope cl C env)) Q' E s')→Q true s'):
  wpAny (model pw w) A (forIn [] true fun c r=>if r=true then do let ok ←isTrue c (compEnvC scope cl C env) (eval c (compEnvC scope cl C env));pure (ForInStep.yield ok) else pure (ForInStep.yield r)) Q E s:=by
 refine wpAny_tests_nil (kt B _ hp s (PM.le.refl B) st I (AO.refl s) fun Q' hq E'=>?_)
 exact (hb C).fz hW st ok I ak fun B1 y σ1 hp1 v s1 le1 W1 nx r1 st1 ok1 I1 rs1=>hq B1 y σ1 hp1 v s1 le1 W1 r1 st1 I1 rs1
theorem Tt {tk:Bool}(V0:DW env ns isG)(CO:DU env.kindOf scope ns ci x)(hclos:closureFor scope env=pure cl)(hcl:∀n,scope.names.lookup n=some .free→cl.lookup n=env.cells.lookup n){it:It}{elt:E}{e iter:Expr}{px:Pos}{pos:Pos}
  (hs:Ay iter=true) (hi:Ex Φ K n (AJ (w:=w) (T:=T) pv V0) true tk it iter) (hb:∀C,AK Φ K n (Af (w:=w) (T:=T) V0 pv CO hcl C) elt e):
  AK Φ K n (AJ (w:=w) (T:=T) pv V0) (.comp elt ci it) (.ListComp e [⟨.Name x px,iter,[],0⟩] scope pos):=fun Kx B σ hp F s A Q Er W st ok I ak post=>by
 rw [eval_ListComp]
 refine DX (tk:=tk) (lo:=[]) (B:=B) (F:=F) V0 CO hclos hcl hs (WL:=fun Kx l acc σ=>Bn (WE T Φ elt) ci l acc σ Kx) (fun _ _ _ h=>h) (fun Kx C x1 rest acc σ B hp F s A Q E ak ok hW st I kf kt=>Gz V0 CO hcl hb Kx C x1 rest acc σ B hp F s A Q E ak ok hW st I kt)
  (use:=none) (Kx:=fun acc σ=>Kx (.lst .sh acc) σ) ak (fun Q hq=>hi _ B σ hp F s A Q Er W st ok I ak hq) fun B1 acc σ1 D C ol hp1 vs k s1 le1 W1 hz rl st1 ok1 I1 rs1 ⟨ml,no⟩=>?_
 refine⟨ml,no.at_ (I1.own (C,ol) (.head _)),fun h' sb=>?_⟩
 exact post B1 (.lst .sh acc) σ1 [(D,AD vs k)] hp1 _ { s1 with heap:=h' } le1 W1 (Dh rl hz) st1 (I1.forget sb) ⟨rs1.gens,rs1.os⟩
theorem QC {tk:Bool}(V0:DW env ns isG)(CO:DU env.kindOf scope ns ci x)(hclos:closureFor scope env=pure cl)(hcl:∀n,scope.names.lookup n=some .free→cl.lookup n=env.cells.lookup n){it:It}{elt c:E}{e ce iter:Expr}{px:Pos}{pos:Pos}
  (hs:Ay iter=true) (hi:Ex Φ K n (AJ (w:=w) (T:=T) pv V0) true tk it iter) (hb:∀C,AK Φ K n (Af (w:=w) (T:=T) V0 pv CO hcl C) elt e) (hc:∀C,Cf Φ K n (Af (w:=w) (T:=T) V0 pv CO hcl C) c ce):
  AK Φ K n (AJ (w:=w) (T:=T) pv V0) (.compIf elt ci it c) (.ListComp e [⟨.Name x px,iter,[ce],0⟩] scope pos):=fun Kx B σ hp F s A Q Er W st ok I ak post=>by
 rw [eval_ListComp]
 refine DX (tk:=tk) (lo:=[]) (B:=B) (F:=F) V0 CO hclos hcl hs (WL:=fun Kx l acc σ=>Cj (WE T Φ c) (WE T Φ elt) ci l acc σ Kx) (fun _ _ _ h=>h) (fun Kx C x1 rest acc σ B hp F s A Q E ak ok hW st I kf kt=>?_)
  (use:=none) (Kx:=fun acc σ=>Kx (.lst .sh acc) σ) ak (fun Q hq=>hi _ B σ hp F s A Q Er W st ok I ak hq) fun B1 acc σ1 D C ol hp1 vs k s1 le1 W1 hz rl st1 ok1 I1 rs1 ⟨ml,no⟩=>?_
 ·have hW:WE T Φ c _ _:=hW
  refine wpAny_tests_one (hc C _ B _ hp F s A _ E hW (fun z σ q=>?_) st ok I ak fun B1 t σ1 hp1 s1 le1 W1 st1 ok1 I1 rs1=>?_)
  ·exact Yi q
  ·cases t with
   | false=>exact kf B1 σ1 hp1 s1 le1 W1 st1 I1 rs1
   | true=>exact kt B1 σ1 hp1 s1 le1 st1 I1 rs1 fun Q' hq E'=>(hb C).fz W1 st1 ok1 I1 ak fun B2 y σ2 hp2 v s2 le2 W2 nx r2 st2 ok2 I2 rs2=>hq B2 y σ2 hp2 v s2 le2 W2 r2 st2 I2 rs2
 ·refine⟨ml,no.at_ (I1.own (C,ol) (.head _)),fun h' sb=>?_⟩
  exact post B1 (.lst .sh acc) σ1 [(D,AD vs k)] hp1 _ { s1 with heap:=h' } le1 W1 (Dh rl hz) st1 (I1.forget sb) ⟨rs1.gens,rs1.os⟩
theorem J1 {tk:Bool}(V0:DW env ns isG)(CO:DU env.kindOf scope ns ci x)(hclos:closureFor scope env=pure cl)(hcl:∀n,scope.names.lookup n=some .free→cl.lookup n=env.cells.lookup n){it:It}{elt:E}{e iter:Expr}{px:Pos}{pos:Pos}{i:Nat}{y:Str}{py spos:Pos}
  (hn:ns[i]?=some y) (hp:i∉pv.map (·.1)) (hsw:swapsWith (.ListComp e [⟨.Name x px,iter,[],0⟩] scope pos) (some (.Name y py)) spos.line env=pure true)
  (hs:Ay iter=true) (hi:Ex Φ K n (AJ (w:=w) (T:=T) pv V0) true tk it iter) (hb:∀C,AK Φ K n (Af (w:=w) (T:=T) V0 pv CO hcl C) elt e):
  BH Φ K n (AJ (w:=w) (T:=T) pv V0) (.assign i (.comp elt ci it)) (.Assign [.Name y py] (.ListComp e [⟨.Name x px,iter,[],0⟩] scope pos) spos):=fun Kx B σ hp0 F s A Q Er W st ok I ak post=>by
 rw [exec_Assign_Name_used _ _ _ _ hsw]
 refine wpAny_bind (wpAny_standAt (wpAny_bind ?_))
 show wpAny _ A (do let _ ←comprehension (.ListComp e [⟨.Name x px,iter,[],0⟩] scope pos) scope env _ (newList []) false (eval iter env) (some (assign (.Name y py) env))) _ Er s
 refine wpAny_bind (wpAny_mono (DX (tk:=tk) (lo:=[]) (B:=B) (F:=F) (Q:=fun _ s'=>Q .next s') V0 CO hclos hcl hs (WL:=fun Kx l acc σ=>Bn (WE T Φ elt) ci l acc σ Kx) (fun _ _ _ h=>h) (fun Kx C x1 rest acc σ B hp F s A Q E ak ok hW st I kf kt=>Gz V0 CO hcl hb Kx C x1 rest acc σ B hp F s A Q E ak ok hW st I kt)
  (use:=some (assign (.Name y py) env)) (Kx:=fun acc σ=>Kx .next (σ.set i (.lst .sh acc))) ak (fun Q hq=>hi _ B σ hp0 F s A Q Er W st ok I ak hq) fun B1 acc σ1 D C ol hp1 vs k s1 le1 W1 hz rl st1 ok1 I1 rs1 ⟨ml,no⟩=>?_) (fun _ s' hq=>wpAny_pure (wpAny_pure hq)) fun _ _ e=>e)
 show wpAny _ A (assign (.Name y py) env (.ref D)) _ Er s1
 refine wpAny_assign_Name (CG (AJ (w:=w) (T:=T) pv V0) hn hp (Dh (D:=D) (k:=k) rl hz) st1 (F:=(C,ol)::F) (I1.perm ?_) fun s2 hp2 rs2 st2 I2=>?_)
 ·exact (pm [(C,ol)] [(D,AD vs k)] (hp1++F)).trans (List.Perm.append_left _ (pm [(C,ol)] hp1 F))
 ·have I3:Inv B1 s2.heap ((C,ol)::(hp2++F)):=I2.perm (pm hp2 [(C,ol)] F)
  refine⟨ml,no.at_ (I3.own (C,ol) (.head _)),fun h' sb=>?_⟩
  exact post.1 B1 _ hp2 { s2 with heap:=h' } le1 W1 st2 (I3.forget sb) (rs1.trans ⟨rs2.gens,rs2.os⟩)
end
section
open PySem PySem.W PyProof.Rows PySem.Calls
open Hd (pw)
variable {w:World}{T:Tabs}{K:Frag}{env:Env}
section
variable {Φ:Nat→List V→(V→List V→Prop)→Prop}{n:Nat}{nm:Nat→Option Str}{pins:List Nat}{fr:A8 w T env nm pins}
theorem LH {op:CmpOp}{r:Expr}(h:Ay r=true):behindInMarks op r=false:=by
 cases r <;> first | rfl | cases h
theorem PP {x:E}{l:Expr}{pos:Bool}{p k p'}(hx:AK Φ K n fr x l):Cf Φ K n fr (.isNone x pos) (.Compare l [if pos then .Is else .IsNot] [.Constant .none k p'] p):=fun Kx B σ hp F s A Q Er W kb st ok I a post=>by
 refine wpAny_isTrue_Compare1 (hx.as W st ok I a fun B1 x1 σ1 h1 hp1 v1 s1 le1 W1 r1 st1 ok1 I1 rs1=>wpAny_Constant_none ?_) (by cases pos <;> rfl)
 have z:=NQ W1
 have fin:=wpAny_truthy_bool (M:=model pw w) (A:=A) (E:=Er) (post B1 _ σ1 hp1 s1 le1 z.2 st1 ok1 I1.right rs1)
 cases pos with
 | true=>exact PySem.is_none (by rw [GY r1 z.1];rwa [beq_true] at fin)
 | false=>exact PySem.isNot_none (by rw [GY r1 z.1];rwa [beq_false] at fin)
inductive Xc (f:Addr→V→Prop):Value→HP→Prop
 | mk (a:Addr) (t:V) (h:f a t):Xc f (.ref a) []
theorem Ih {B:PM}{f:Addr→V→Prop}{x:V}{v:Value}{hp:HP}(W:Wo x f):RV T.toTab B x v hp→Xc f v hp:=VN (M:=fun x=>RV T.toTab B x v hp→_) W fun a t h r=>by cases r;exact⟨a,t,h⟩
theorem SE (Sa:Ac T K){o o':Nb}{x y z:E}{l r r':Expr}{pos:Pos}(hx:AK Φ K n fr x l)(hy:AK Φ K n fr y r)(hz:AK Φ K n fr z r')(hm:behindInMarks (Az o') r'=false):
  Cf Φ K n fr (.cmp2 o o' x y z) (.Compare l [Az o,Az o'] [r,r'] pos):=fun Kx B σ hp F s A Q Er W kb st ok I a post=>by
 have e:isTrue (.Compare l [Az o,Az o'] [r,r'] pos) env (eval (.Compare l [Az o,Az o'] [r,r'] pos) env)=(do
   let left ←eval l env
   let rv ←holding [left] (eval r env)
   standAt pos
   let c ←holding [left,rv] (compareOp (Az o) left rv)
   release [left,rv] [c]
   if ←holding [c,rv] (truthy c) then (do
    let rv' ←holding [rv] (markedBehindIn (Az o') r' (eval r' env))
    standAt pos
    let c' ←operate [rv,rv'] (compareOp (Az o') rv rv')
    holding [c'] (truthy c')) else pure false):=rfl
 rw [e,markedBehindIn_of_false hm]
 refine wpAny_bind (hx.fz W st ok I a fun B1 x1 σ1 hp1 v1 s1 le1 W1 nx r1 st1 ok1 I1 rs1=>?_)
 refine wpAny_bind (wpAny_holding (hy.fz W1 st1 ok1 I1 a fun B2 x2 σ2 hp2 v2 s2 le2 W2 nx2 r2 st2 ok2 I2 rs2=>?_))
 refine wpAny_bind (wpAny_standAt (wpAny_bind (wpAny_holding (Gq Sa ok2 a W2 (r1.mono le2) r2 I2 fun b t kb'=>?_))))
 refine wpAny_bind (wpAny_release (wpAny_bind (wpAny_holding (wpAny_truthy_bool ?_))))
 cases b with
 | false=>exact wpAny_pure (post B2 false σ2 hp2 _ (le1.trans le2) kb' st2 ok2 I2 (rs1.trans ⟨rs2.gens,rs2.os⟩))
 | true=>
  refine wpAny_bind (wpAny_holding (hz.fz (s:={ s2 with toks:=t }) kb' st2 ok2 I2 a fun B3 x3 σ3 hp3 v3 s3 le3 W3 nx3 r3 st3 Zq I3 rs3=>?_))
  refine wpAny_bind (wpAny_standAt (wpAny_bind (PySem.wpAny_operating ?_)))
  exact Gq Sa Zq a W3 (r2.mono le3) r3 I3 fun b t kb'=>wpAny_holding (wpAny_truthy_bool (post B3 b σ3 hp3 _ ((le1.trans le2).trans le3) kb' st3 Zq I3 ((rs1.trans (⟨rs2.gens,rs2.os⟩:AO s1 s2)).trans ⟨rs3.gens,rs3.os⟩)))
theorem SJ {x y:E}{l r:Expr}{pos:Bool}{p:Pos}(hx:AK Φ K n fr x l)(hy:AK Φ K n fr y r)(hr:Ay r=true):AK Φ K n fr (.same x y pos) (.Compare l [if pos then .Is else .IsNot] [r] p):=fun Kx B σ hp F s A Q Er W st ok I a post=>by
 refine wpAny_Compare1 (hx.as W st ok I a fun B1 x1 σ1 h1 hp1 v1 s1 le1 W1 r1 st1 ok1 I1 rs1=>?_) (LH hr)
 refine hy.as W1 st1 ok1 (F:=h1++F) (I1.perm (AC (.refl _))) a fun B2 x2 σ2 h2 hp2 v2 s2 le2 W2 r2 st2 ok2 I2 rs2=>?_
 obtain⟨a1,t1,W2⟩:=Ih W2 r1
 obtain⟨b1,t2,W3⟩:=Ih W2 r2
 obtain⟨e,W3⟩:=W3
 subst e
 have fin:=post B2 (.bool pos) σ2 [] hp2 (.bool pos) s2 (le1.trans le2) W3 RV.ofBool st2 I2 (rs1.trans rs2)
 cases pos with
 | true=>exact wpAny_is_ref_self fin
 | false=>exact wpAny_isNot_ref_self fin
theorem TE {x y:E}{l r:Expr}{pos:Bool}{p:Pos}(hx:AK Φ K n fr x l)(hy:AK Φ K n fr y r)(hr:Ay r=true):Cf Φ K n fr (.same x y pos) (.Compare l [if pos then .Is else .IsNot] [r] p):=fun Kx B σ hp F s A Q Er W kb st ok I a post=>by
 refine wpAny_isTrue_Compare1 (hx.as W st ok I a fun B1 x1 σ1 h1 hp1 v1 s1 le1 W1 r1 st1 ok1 I1 rs1=>?_) (LH hr)
 refine hy.as W1 st1 ok1 (F:=h1++F) (I1.perm (AC (.refl _))) a fun B2 x2 σ2 h2 hp2 v2 s2 le2 W2 r2 st2 ok2 I2 rs2=>?_
 obtain⟨a1,t1,W2⟩:=Ih W2 r1
 obtain⟨b1,t2,W3⟩:=Ih W2 r2
 obtain⟨e,W3⟩:=W3
 subst e
 have fin:=wpAny_truthy_bool (M:=model pw w) (A:=A) (E:=Er) (post B2 pos σ2 hp2 s2 (le1.trans le2) W3 st2 ok2 I2 (rs1.trans rs2))
 cases pos with
 | true=>exact wpAny_is_ref_self fin
 | false=>exact wpAny_isNot_ref_self fin
theorem VF {x:E}{e:Expr}(hx:AK Φ K n fr x e):AK Φ K n fr (.pin x) e:=fun Kx B σ hp F s A Q Er W st ok I a post=>by
 refine hx.fz W st ok I a fun B1 x1 σ1 hp1 v1 s1 le1 W1 nx r1 st1 ok1 I1 rs1=>?_
 revert r1
 refine Qa W1 fun o c f W1 r1=>?_
 have r0:=r1
 obtain⟨ad,dx,es,k,h1,-⟩:=r0
 exact post B1 _ σ1 [] hp1 _ s1 le1 (W1 ad) ⟨r1⟩ st1 I1 rs1
theorem SN {p:Pos}:AK Φ K n fr .dct0 (.Dict [] [] p):=fun Kx B σ hp F s A Q Er W st ok I a post=>by
 refine wpAny_Dict_empty (post B (.dct true []) σ [(s.heap.objs.size,AV #[] 0)] hp _ _ (PM.le.refl B) W ?_ st (AY I rfl) ⟨rfl,rfl⟩)
 exact Z5.mk _ #[] 0 rfl rfl List.nodup_nil (Nat.zero_le _)
theorem C8 {A:Around}{E:Value→Shared→Prop}{s:Shared}{Q:Value→Shared→Prop}{value:Expr}{a b c:Option Expr}{p pos:Pos}
  (h:wpAny (model pw w) A (eval value env) (fun o s₁=>wpAny (model pw w) A (eval (.Slice a b c p) env) (fun i s₂=>SubscriptOn (model pw w) A o i Q E s₂) E s₁) E s):wpAny (model pw w) A (eval (.Subscript value (.Slice a b c p) pos) env) Q E s:=by
 rw [arm_eval_Subscript]
 refine wpAny_bind (wpAny_mono h (fun o s₁ h₁=>wpAny_bind (wpAny_holding (wpAny_mono h₁ (fun i s₂ h₂=>wpAny_bind (wpAny_standAt ?_)) fun _ _ x=>x))) fun _ _ x=>x)
 obtain⟨T',id,hl,hT,hg⟩:=h₂
 refine wpAny_bind ?_
 rw [getitemInPython_of_ne hT.not_modules]
 refine wpAny_bind (wpAny_specialOf hT hl (wpAny_pure (wpAny_bind ?_)))
 have:∃vs,subscripted (.Slice a b c p) false o i=operate vs (getItem o i):=by
  cases c
  ·exact⟨[i,o],rfl⟩
  ·exact⟨[o,i],rfl⟩
 obtain⟨vs,e⟩:=this
 rw [e]
 exact wpAny_operating (wpAny_mono hg (fun r s₃ h₃=>wpAny_bind (wpAny_letTemporaryGo (wpAny_pure h₃))) fun _ _ x=>x)
end
theorem RL.take {B:PM}:∀{l:List V} {vs:List Value} (k:Nat),RL T.toTab B l vs []→RL T.toTab B (l.take k) (vs.take k) []
 | _,_,0,_=>⟨⟩
 | [],vs,k+1,r=>by cases r;exact⟨⟩
 | x::l,vs,k+1,r=>by
  obtain⟨v,vs',r1,r2⟩:=RL.unN r
  exact RL.consN r1 (RL.take k r2)
theorem RL.drop {B:PM}:∀{l:List V} {vs:List Value} (k:Nat),RL T.toTab B l vs []→RL T.toTab B (l.drop k) (vs.drop k) []
 | _,_,0,r=>r
 | [],vs,k+1,r=>by cases r;exact⟨⟩
 | x::l,vs,k+1,r=>by
  obtain⟨v,vs',r1,r2⟩:=RL.unN r
  exact RL.drop k r2
theorem RL.rev {B:PM}:∀{l:List V} {vs:List Value},RL T.toTab B l vs []→RL T.toTab B l.reverse vs.reverse []
 | [],vs,r=>by cases r;exact⟨⟩
 | x::l,vs,r=>by
  obtain⟨v,vs',r1,r2⟩:=RL.unN r
  rw [List.reverse_cons,List.reverse_cons]
  exact RL.app (RL.rev r2) (RL.consN r1 ⟨⟩)
theorem Rl (a b n:Nat)(ha:a≤b)(hb:b≤n)(lo:Option Int)(hl:lo=some (a:Int)∨(lo=none∧a=0)):Builtin.Slice.sliceAdjust lo (some (b:Int)) 1 (n:Int)=((a:Int),(b:Int)):=by
 unfold Builtin.Slice.sliceAdjust
 have h1:¬ ((1:Int) < 0):=by decide
 have h2:¬ ((a:Int) < 0):=Int.not_lt.2 (Int.natCast_nonneg a)
 have h3:¬ ((b:Int) < 0):=Int.not_lt.2 (Int.natCast_nonneg b)
 have ea:min (a:Int) n=a:=Int.min_eq_left (Int.ofNat_le.2 (Nat.le_trans ha hb))
 have eb:min (b:Int) n=b:=Int.min_eq_left (Int.ofNat_le.2 hb)
 rcases hl with rfl | ⟨rfl,rfl⟩
 ·simp only [h1,h2,h3,if_false]
  rw [ea,eb]
 ·simp only [h1,h3,if_false]
  rw [eb];rfl
theorem RK (a b:Nat)(ha:a≤b):Builtin.Slice.slicePlaces (a:Int) (b:Int) 1=b - a:=by
 unfold Builtin.Slice.slicePlaces
 have h1:(1:Int) > 0:=by lia
 simp only [h1,if_true,Int.ediv_one]
 split <;> lia
theorem Wz (xs:Array Value)(a b:Nat):((List.range (b - a)).filterMap fun (k:Nat)=>xs[((a:Int)+(k:Int)*1).toNat]?).toArray=((xs.toList.take b).drop a).toArray:=by
 have e:(fun (k:Nat)=>xs[((a:Int)+(k:Int)*1).toNat]?)=fun k=>xs[a+k]?:=by
  funext k
  have:((a:Int)+(k:Int)*1).toNat=a+k:=by rw [Int.mul_one];rfl
  rw [this]
 rw [e]
 have:=pick_run xs a (b - a)
 rw [List.filterMap_map] at this
 have e2:((fun x=>xs[x]?)∘fun x=>a+x)=fun k=>xs[a+k]?:=rfl
 rw [e2] at this
 rw [this,List.drop_take]
theorem C7 {A:Around}{s:Shared}{E:Value→Shared→Prop}{t sl:Addr}{items:Array Value}{a b:Nat}{u:Tok}{vl:Value}{Q:Value→Shared→Prop}(ht:IsTup s.heap t items)(hs:s.heap.IsSliceOf sl vl (.int b u) .none)(hl:(∃t,vl=.int a t)∨(vl=.none∧a=0))(ha:a≤b)(hb:b≤items.size)(hne:¬ (a=0∧b=items.size))
  (h:Q (.ref s.heap.objs.size) { s with heap:=s.heap.push (Bu ((items.toList.take b).drop a).toArray 0) })
  (hsz:items.size≤sizeLine):wpAny (model pw w) A (getItem (.ref t) (.ref sl)) Q E s:=by
 have hdrop:sizeOk (.seq ((items.toList.take b).drop a).toArray):=by
  show ((items.toList.take b).drop a).toArray.size≤sizeLine
  rw [List.size_toArray,List.length_drop,List.length_take,Array.length_toList]
  lia
 obtain⟨os,hos,hcs,hds⟩:=id hs
 have hTs:s.TypeIs (.ref sl) "slice":=⟨os,hos,hcs⟩
 unfold getItem
 refine wpAny_holding ?_
 refine wpAny_bind (wpAny_sequenceKey ht.typeIs (by decide) ?_)
 refine wpAny_bind (wpAny_callSpecial?_slot (name:=Str.ofString "__getitem__") ht.typeIs slot_tuple_getitem
  (wpAny_call_entry slot_tuple_getitem ht.typeIs entry_tuple_getitem ?_ (args_tuple_getitem _ _)))
 show wpAny _ _ (Builtin.Tuple.tupleItemsOf (.ref t) >>= _) _ _ s
 refine wpAny_bind (tupleItemsOf_ ht ?_)
 refine wpAny_bind (wpAny_typeOf hTs ?_)
 rw [if_pos (by decide)]
 have applied:∀{M:Around} {Q:Int×Int×Nat→Shared→Prop} {E:Value→Shared→Prop},Q ((a:Int),1,b - a) s→wpAny (model pw w) M (Builtin.Slice.sliceApplied (.ref sl) (pure (items.size:Int))) Q E s:=by
  intro M Q E h
  unfold Builtin.Slice.sliceApplied Builtin.Slice.sliceFields
  refine wpAny_bind (wpAny_bind (wpAny_field hos hds (x:=vl) rfl (wpAny_bind (wpAny_field hos hds (x:=.int b u) rfl (wpAny_bind (wpAny_field hos hds (x:=.none) rfl (wpAny_pure ?_)))))))
  refine wpAny_bind (slicePart_none ?_)
  show wpAny _ _ (if ((1:Int)==0)=true then _ else _) _ _ s
  rw [if_neg (by decide)]
  have fin:∀lo:Option Int,(lo=some (a:Int)∨(lo=none∧a=0))→wpAny (model pw w) M (do
    let stop ←Builtin.Slice.slicePartIndex (.int b u)
    let len ←(pure (items.size:Int):Sem Int)
    match Builtin.Slice.sliceAdjust lo stop 1 len with
    | (l,h)=>pure (l,(1:Int),Builtin.Slice.slicePlaces l h 1)) Q E s:=fun lo hlo=>by
   refine wpAny_bind (slicePart_int (wpAny_bind (wpAny_pure ?_)))
   rw [Rl a b items.size ha hb lo hlo]
   show wpAny _ _ (pure ((a:Int),(1:Int),Builtin.Slice.slicePlaces (a:Int) (b:Int) 1)) _ _ s
   rw [RK a b ha]
   exact wpAny_pure h
  rcases hl with ⟨t',rfl⟩ | ⟨rfl,e⟩
  ·exact wpAny_bind (slicePart_int (fin _ (.inl rfl)))
  ·exact wpAny_bind (slicePart_none (fin _ (.inr ⟨rfl,e⟩)))
 refine wpAny_bind (applied ?_)
 have hno:¬ (((a:Int)==0&&(1:Int)==1&&(b - a)==items.size)=true):=by
  intro q
  simp only [Bool.and_eq_true,beq_iff_eq] at q
  exact hne ⟨by lia,by lia⟩
 show wpAny _ _ (if ((a:Int)==0&&(1:Int)==1&&(b - a)==items.size)=true then _ else _) _ _ s
 rw [if_neg hno,Wz items a b]
 first
  | exact wpAny_bind (m:=Builtin.Tuple.tupleExact _) (wpAny_newObj_type (wpAny_pure ⟨_,rfl,wpAny_pure h⟩) hdrop)
  | exact wpAny_bind (m:=Builtin.Tuple.tupleExact _) (wpAny_newObj_type (wpAny_bind (wpAny_pure (wpAny_pure ⟨_,rfl,wpAny_pure h⟩))) hdrop)
  | exact wpAny_bind (wpAny_bind (m:=Builtin.Tuple.tupleExact _) (wpAny_newObj_type (wpAny_pure (wpAny_pure ⟨_,rfl,wpAny_pure h⟩)) hdrop))
  | exact wpAny_bind (wpAny_bind (m:=Builtin.Tuple.tupleExact _) (wpAny_newObj_type (wpAny_pure ⟨_,rfl,wpAny_pure h⟩) hdrop))
section
variable {Φ:Nat→List V→(V→List V→Prop)→Prop}{n:Nat}{nm:Nat→Option Str}{pins:List Nat}{fr:A8 w T env nm pins}
theorem Z8 {A:Around}{s:Shared}{Er:Value→Shared→Prop}{Q:Value→Shared→Prop}{a b:Option Expr}{p:Pos}{c:Option Expr}
  (h:wpAny (model pw w) A (evalPart a env) (fun l s₁=>wpAny (model pw w) A (evalPart b env) (fun u s₂=>wpAny (model pw w) A (evalPart c env) (fun st s₃=>Q (.ref s₃.heap.objs.size) { s₃ with heap:=s₃.heap.push { cls:=.type "slice",data:=.fields #[l,u,st] } }) Er s₂) Er s₁) Er s):
  wpAny (model pw w) A (eval (.Slice a b c p) env) Q Er s:=wpAny_Slice h
theorem To {x:E}{e:Expr}{b:Nat}{k:Nat}{p1 p2 pos:Pos}(hx:AK Φ K n fr x e):AK Φ K n fr (.slTo x b) (.Subscript e (.Slice none (some (.Constant (.int b) k p1)) none p2) pos):=fun Kx B σ hp F s A Q Er W st ok I ak post=>by
 have zl:sizeLine=2 ^ 24:=sizeLine_eq
 refine C8 (hx.fz W st ok I ak fun B1 x1 σ1 hp1 v s1 le1 W1 nx r st1 ok1 I1 rs1=>wpAny_Slice ?_)
 rw [evalPart_none,evalPart_some]
 refine wpAny_pure (wpAny_Constant_int (wpAny_pure ?_))
 have I2:=AY I1 (o:={ cls:=.type "slice",data:=.fields #[.none,.int b s1.toks,.none] }) rfl
 cases x1 with
 | lst o l=>
  obtain⟨_,l',e,z,a,vs,m,ba,rl⟩:=BI r
  subst e
  obtain⟨h1,rr,I3⟩:=F8 (l:=l'.take b) (vs:=(vs.toList.take b).toArray) I2.tail (rl.take b) (by rw [List.length_take];exact Nat.le_trans (Nat.min_le_right _ _) z)
  refine⟨"list",_,list_getitem_lookup,⟨_,I2.base _ _ ba,rfl⟩,?_⟩
  refine wpAny_getItem_list_slice ⟨_,I2.base _ _ ba,rfl,_,rfl⟩ (Heap.IsSliceOf.new ..) .none (.int _ _) .none (by simp) ?_ ((show vs.size=_ from rl.len)▸z)
  rw [slicePick_upto']
  exact post B1 _ σ1 h1 hp1 _ _ le1 W1 rr st1 I3 ⟨rs1.gens,rs1.os⟩
 | tup l=>
  obtain⟨hb,W1⟩:=W1
  obtain⟨z,a,vs,m,ba,rl⟩:=r
  have ln:vs.size=l.length:=rl.len
  obtain⟨B2,le2,rr,I3⟩:=En (l:=l.take b) (vs:=(vs.toList.take b).toArray) I2.tail (rl.take b) (by rw [List.length_take];exact Nat.le_trans (Nat.min_le_right _ _) z)
  refine⟨"tuple",_,slot_tuple_getitem.lookup,⟨_,I2.base _ _ ba,rfl⟩,?_⟩
  refine C7 (a:=0) ⟨_,I2.base _ _ ba,rfl,_,rfl⟩ (Heap.IsSliceOf.new ..) (.inr ⟨rfl,rfl⟩) (Nat.zero_le _) (ln▸Nat.le_of_lt hb) (fun e=>Nat.ne_of_lt hb (e.2.trans ln)) ?_ (ln▸z)
  exact post B2 _ σ1 [] hp1 _ _ (le1.trans le2) W1 rr (fr.mono le2 st1) I3 ⟨rs1.gens,rs1.os⟩
 | _=>exact W1.elim
theorem Px {x:E}{e:Expr}{a:Nat}{k:Nat}{p1 p2 pos:Pos}(hx:AK Φ K n fr x e):AK Φ K n fr (.slFrom x a) (.Subscript e (.Slice (some (.Constant (.int a) k p1)) none none p2) pos):=fun Kx B σ hp F s A Q Er W st ok I ak post=>by
 have zl:sizeLine=2 ^ 24:=sizeLine_eq
 refine C8 (hx.fz W st ok I ak fun B1 x1 σ1 hp1 v s1 le1 W1 nx r st1 ok1 I1 rs1=>wpAny_Slice ?_)
 rw [evalPart_none,evalPart_some]
 refine wpAny_Constant_int (wpAny_pure (wpAny_pure ?_))
 have I2:=AY I1 (o:={ cls:=.type "slice",data:=.fields #[.int a s1.toks,.none,.none] }) rfl
 ·obtain⟨o,l,W1,z,ad,vs,m,ba,rl⟩:=Cg W1 r
  obtain⟨h1,rr,I3⟩:=F8 (l:=l.drop a) (vs:=(vs.toList.drop a).toArray) I2.tail (rl.drop a) (by rw [List.length_drop];exact Nat.le_trans (Nat.sub_le _ _) z)
  refine⟨"list",_,list_getitem_lookup,⟨_,I2.base _ _ ba,rfl⟩,?_⟩
  refine wpAny_getItem_list_slice ⟨_,I2.base _ _ ba,rfl,_,rfl⟩ (Heap.IsSliceOf.new ..) (.int _ _) .none .none (by simp) ?_ ((show vs.size=_ from rl.len)▸z)
  rw [slicePick_from']
  exact post B1 _ σ1 h1 hp1 _ _ le1 W1 rr st1 I3 ⟨rs1.gens,rs1.os⟩
theorem Um {x:E}{e:Expr}{a b:Nat}{k k2:Nat}{p1 p2 p3 pos:Pos}(hx:AK Φ K n fr x e):AK Φ K n fr (.slAB x a b) (.Subscript e (.Slice (some (.Constant (.int a) k p1)) (some (.Constant (.int b) k2 p3)) none p2) pos):=fun Kx B σ hp F s A Q Er W st ok I ak post=>by
 have zl:sizeLine=2 ^ 24:=sizeLine_eq
 refine C8 (hx.fz W st ok I ak fun B1 x1 σ1 hp1 v s1 le1 W1 nx r st1 ok1 I1 rs1=>wpAny_Slice ?_)
 rw [evalPart_none,evalPart_some,evalPart_some]
 refine wpAny_Constant_int (wpAny_Constant_int (wpAny_pure ?_))
 have I2:=AY I1 (o:={ cls:=.type "slice",data:=.fields #[.int a s1.toks,.int b (s1.toks+1),.none] }) rfl
 ·obtain⟨l,W1,z,ad,vs,m,ba,rl⟩:=Fx W1 r
  obtain⟨hb,W1⟩:=W1
  have ln:vs.size=l.length:=rl.len
  obtain⟨B2,le2,rr,I3⟩:=En (l:=(l.take b).drop a) (vs:=((vs.toList.take b).drop a).toArray) I2.tail ((rl.take b).drop a) (by rw [List.length_drop,List.length_take];exact Nat.le_trans (Nat.sub_le _ _) (Nat.le_trans (Nat.min_le_right _ _) z))
  refine⟨"tuple",_,slot_tuple_getitem.lookup,⟨_,I2.base _ _ ba,rfl⟩,?_⟩
  refine C7 (a:=a) ⟨_,I2.base _ _ ba,rfl,_,rfl⟩ (Heap.IsSliceOf.new ..) (.inl ⟨_,rfl⟩) hb.2.1 (ln▸hb.2.2) (fun e=>Nat.ne_of_gt hb.1 e.1) ?_ (ln▸z)
  exact post B2 _ σ1 [] hp1 _ _ (le1.trans le2) W1 rr (fr.mono le2 st1) I3 ⟨rs1.gens,rs1.os⟩
theorem Rw {x:E}{e:Expr}{k:Nat}{p1 p2 p3 pos:Pos}(hx:AK Φ K n fr x e):AK Φ K n fr (.slRev x) (.Subscript e (.Slice none none (some (.UnaryOp .USub (.Constant (.int 1) k p1) p3)) p2) pos):=fun Kx B σ hp F s A Q Er W st ok I ak post=>by
 have zl:sizeLine=2 ^ 24:=sizeLine_eq
 refine C8 (hx.fz W st ok I ak fun B1 x1 σ1 hp1 v s1 le1 W1 nx r st1 ok1 I1 rs1=>wpAny_Slice ?_)
 rw [evalPart_none,evalPart_some]
 refine wpAny_pure (wpAny_pure (wpAny_UnaryOp (wpAny_Constant_int (PyProof.Rows.neg_int ?_))))
 have I2:=AY I1 (o:={ cls:=.type "slice",data:=.fields #[.none,.none,.int (-1) (s1.toks+1)] }) rfl
 ·obtain⟨o,l,W1,z,ad,vs,m,ba,rl⟩:=Cg W1 r
  obtain⟨h1,rr,I3⟩:=F8 (l:=l.reverse) (vs:=vs.toList.reverse.toArray) I2.tail (rl.rev) (by rw [List.length_reverse];exact z)
  refine⟨"list",_,list_getitem_lookup,⟨_,I2.base _ _ ba,rfl⟩,?_⟩
  refine wpAny_getItem_list_slice ⟨_,I2.base _ _ ba,rfl,_,rfl⟩ (Heap.IsSliceOf.new ..) .none .none (.int _ _) (by decide) ?_ ((show vs.size=_ from rl.len)▸z)
  rw [krv_pick]
  exact post B1 _ σ1 h1 hp1 _ _ le1 W1 rr st1 I3 ⟨rs1.gens,rs1.os⟩
end
noncomputable def Bi (w:World)(T:Tabs)(K:Frag)(k:DA)(f:Value):Prop:=∀{xs:List V} {Kx:V→Prop} {B:PM} {vs:List Value} {R:HP} {s:Shared} {n:Nat} {A:Around} {Q:Value→Shared→Prop} {Er:Value→Shared→Prop},
 Qr k xs Kx→RL T.toTab B xs vs []→Bk K B→Inv B s.heap R→J4 n A→Hf w T B R s Kx Q→wpAny (model pw w) A (call f vs) Q Er s
inductive XZ (T:Tab)(B:PM)(f:V→Prop):List Value→Prop
 | mk (x:V) (v:Value) (h:f x) (r:RV T B x v []):XZ T B f [v]
theorem FF {B:PM}{xs:List V}{vs:List Value}{f:V→Prop}(W:p1 xs f):RL T.toTab B xs vs []→XZ T.toTab B f vs:=Q0 (M:=fun xs=>RL T.toTab B xs vs []→_) W fun x h rl=>by
 obtain⟨v,vs',r1,r2⟩:=RL.unN rl
 obtain⟨⟩:=r2
 exact⟨x,v,h,r1⟩
inductive Xn (T:Tab)(B:PM)(f:V→V→Prop):List Value→Prop
 | mk (x y:V) (v u:Value) (h:f x y) (r:RV T B x v []) (r2:RV T B y u []):Xn T B f [v,u]
theorem Xo {B:PM}{xs:List V}{vs:List Value}{f:V→V→Prop}(W:p2 xs f):RL T.toTab B xs vs []→Xn T.toTab B f vs:=Xk (M:=fun xs=>RL T.toTab B xs vs []→_) W fun x y h rl=>by
 obtain⟨v,vs',r1,r2⟩:=RL.unN rl
 obtain⟨u,vs'',r3,r4⟩:=RL.unN r2
 obtain⟨⟩:=r4
 exact⟨x,y,v,u,h,r1,r3⟩
theorem YA {n m:Nat}(e:n=m)(h:m≤sizeLine):n < 2 ^ 62:=by rw [e];rw [sizeLine_eq] at h;exact Nat.lt_of_le_of_lt h (by decide)
theorem Zm {s:Shared}{h:Heap}{t:Nat}:AO s { s with heap:=h,toks:=t }:=⟨rfl,rfl⟩
theorem Hf.int {B:PM}{R:HP}{s s':Shared}{Kx:V→Prop}{Q:Value→Shared→Prop}{i:Int}{t:Tok}(p:Hf w T B R s Kx Q)(k:Kx (.int i))(I:Inv B s'.heap R)(r:AO s s'):Q (.int i t) s':=p B _ [] _ _ (PM.le.refl B) k RV.ofInt I r
theorem HU {l:List Int}{b:Array UInt8}(hb:b.toList.map (fun u=>(u.toNat:Int))=l):b.size=l.length:=by rw [←hb,List.length_map,Array.length_toList]
theorem Ii {α:Type}{c:Prop}[Decidable c]{a b:α}(h:(if c then some a else none)=some b):c∧a=b:=by
 by_cases q:c
 ·rw [if_pos q] at h;exact⟨q,Option.some.inj h⟩
 ·rw [if_neg q] at h;exact nn h
theorem cD:Bi w T K .len (.builtin "len"):=fun {xs Kx B vs R s n A Q Er} W rl ok I a post=>by
 have zl:sizeLine=2 ^ 24:=sizeLine_eq
 obtain⟨x,v,W,r⟩:=FF W rl
 obtain⟨m,em,W⟩:=AF W
 cases x with
 | lst o l=>
  cases em
  obtain⟨_,l',e,z,ad,us,k,ba,ru⟩:=BI r
  subst e
  have ln:us.size=l'.length:=ru.len
  refine PyProof.Rows.len_list ⟨_,I.base _ _ ba,rfl,_,rfl⟩ (by lia) ?_
  rw [ln]
  exact post.int W I ⟨rfl,rfl⟩
 | tup l=>
  cases em
  obtain⟨z,ad,us,k,ba,ru⟩:=r
  have ln:us.size=l.length:=ru.len
  refine PyProof.Rows.len_tuple ⟨_,I.base _ _ ba,rfl,_,rfl⟩ (by lia) ?_
  rw [ln]
  exact post.int W I ⟨rfl,rfl⟩
 | str l=>
  obtain⟨hz,e⟩:=Ii em
  subst e
  obtain⟨t⟩:=r
  have sl:=str_len l
  refine P.len_str (by lia) ?_
  rw [sl]
  exact post.int W I ⟨rfl,rfl⟩
 | bytes l=>
  obtain⟨hz,e⟩:=Ii em
  subst e
  obtain⟨b,t,hb⟩:=r
  have sl:=HU hb
  refine PySem.W.len_bytes (by lia) ?_
  rw [sl]
  exact post.int W I ⟨rfl,rfl⟩
 | _=>exact nn em
theorem Ym (x:Int):(if x < 0 then -x else x)=(x.natAbs:Int):=by split <;> lia
theorem Zw:Bi w T K .abs (.builtin "abs"):=fun {xs Kx B vs R s n A Q Er} W rl ok I a post=>by
 obtain⟨x,v,W,r⟩:=FF W rl
 obtain⟨i,t,W⟩:=AZ W r
 exact call_abs_int fun u tk=>by rw [Ym];exact post.int W I ⟨rfl,rfl⟩
theorem aW:Bi w T K .int (.type "int"):=fun {xs Kx B vs R s n A Q Er} W rl ok I a post=>by
 obtain⟨x,v,W,r⟩:=FF W rl
 obtain⟨i,t,W⟩:=AZ W r
 exact call_int_int (post.int W I (AO.refl s))
theorem YU:Bi w T K .max2 (.builtin "max"):=fun {xs Kx B vs R s n A Q Er} W rl ok I a post=>by
 obtain⟨x,y,v,u,W,r1,r2⟩:=Xo W rl
 obtain⟨i,t,W⟩:=AZ W r1
 obtain⟨j,t',W⟩:=AZ W r2
 refine max_two_ints a.handled fun h' tk keep=>?_
 by_cases hxy:j > i
 ·rw [if_pos hxy,←Int.max_eq_right (Int.le_of_lt hxy)]
  exact post.int W (I.keep keep) ⟨rfl,rfl⟩
 ·rw [if_neg hxy,←Int.max_eq_left (Int.not_lt.mp hxy)]
  exact post.int W (I.keep keep) ⟨rfl,rfl⟩
theorem bM:Bi w T K .ord (.builtin "ord"):=fun {xs Kx B vs R s n A Q Er} W rl ok I a post=>by
 obtain⟨x,v,W,r⟩:=FF W rl
 obtain⟨x,t,W⟩:=IZ W r
 refine Q0 (M:=fun x=>wpAny _ _ (call _ [.str ⟨x.toArray⟩ t]) _ _ _) W fun c W=>?_
 exact P.ord_of_char (post.int W I ⟨rfl,rfl⟩)
theorem Zc:Bi w T K .list (.type "list"):=fun {xs Kx B vs R s n A Q Er} W rl ok I a post=>by
 have fin:∀{l:List V} {us:Array Value} {h':Heap} {c:Nat},Kx (.lst .sh l)→RL T.toTab B l us.toList []→l.length≤sizeLine→(∀b o',s.heap.get? b=some o'→h'.get? b=some o')→h'.get? s.heap.objs.size=some (AD us c)→Q (.ref s.heap.objs.size) { s with heap:=h' }:=fun kx rl z keep g=>
  post B (.lst .sh _) [(s.heap.objs.size,_)] _ _ (PM.le.refl B) kx (Hp z rl) (I.new keep (CV _) g) ⟨rfl,rfl⟩
 have zl:sizeLine=2 ^ 24:=sizeLine_eq
 obtain⟨x,v,W,r⟩:=FF W rl
 obtain⟨l,e,W⟩:=AF W
 cases x with
 | lst o l=>
  cases e
  obtain⟨_,l',e,z,ad,us,k,ba,ru⟩:=BI r
  subst e
  have ln:us.size=l'.length:=ru.len
  exact call_list_seq ad (.inl rfl) (I.base _ _ ba) rfl rfl (fun h' c keep g=>fin W ru z keep g) (by lia)
 | tup l=>
  cases e
  obtain⟨z,ad,us,k,ba,ru⟩:=r
  have ln:us.size=l.length:=ru.len
  exact call_list_seq ad (.inr rfl) (I.base _ _ ba) rfl rfl (fun h' c keep g=>fin W ru z keep g) (by lia)
 | _=>exact nn e
theorem Ze (Sa:Ac T K):Bi w T K .dict (.type "dict"):=fun {xs Kx B vs R s n A Q Er} W rl ok I a post=>by
 obtain⟨x,v,W,r⟩:=FF W rl
 obtain⟨o,l,W,z,nd,ad,es,m,ba,rd⟩:=Mz W r
 obtain⟨kvs,rp,ps⟩:=rd.pairs w
 have nd':(kvs.map (·.1)).Nodup:=by rw [rp.keys];exact nd
 have ln:kvs.length=l.length:=by rw [←List.length_map,rp.keys,List.length_map]
 refine kt_call_dict (knd:=intKind pw w) (more:=kvs) (Ej Sa ok ba rd) ⟨_,es,m,I.base _ _ ba,⟨rfl,rfl,rfl⟩,rfl,(fun e he=>by obtain⟨k,t,e1,e2⟩:=rd.keys e (by simpa using he);exact⟨k,by rw [e1];exact beq_self_eq_true k,e2⟩),ps,nd'⟩ (by have zl:sizeLine=2 ^ 24:=sizeLine_eq;lia) fun h' D sb=>?_
 obtain⟨o',es',n',ho,⟨o1,o2,o3⟩,hd,ks,ps',nd2⟩:=D
 obtain⟨oc,od,oda,os⟩:=o'
 cases o1;cases o2;cases o3;cases hd
 have keep:∀b o,s.heap.get? b=some o→h'.get? b=some o:=fun b o e=>sb.extBut b o (Nat.ne_of_lt (Heap.lt_size e)) (Heap.get?_push_of_some _ e)
 exact post B (.dct true l) [(s.heap.objs.size,AV es' n')] _ _ (PM.le.refl B) W (Z5.mk _ es' n' rfl (rp.dict ps' fun e he=>ks e (by simpa using he)) nd (by rw [List.length_map];exact z)) (I.new keep (CV _) ho) ⟨rfl,rfl⟩
section
variable {Φ:Nat→List V→(V→List V→Prop)→Prop}{n:Nat}{nm:Nat→Option Str}{pins:List Nat}{fr:A8 w T env nm pins}
theorem Bw (Sa:Ac T K){k:DA}{id:String}{x:Str}(hp:Bi w T K k (.builtin id))(hu:x∈RM)(hb:bootBuiltins x=some (.builtin id))(hd:(x==("__debug__":Str))=false){l:Es}{es:List Expr}{p pos:Pos}(hg:fr.isG x=true)(hs:es.all AH=true)(hl:FX Φ K n fr l es):
  AK Φ K n fr (.prim k l) (.Call (.Name x p) es [] pos):=fun Kx B σ hp0 F s A Q Er W st ok I ak post=>by
 refine wpAny_Call_NameR (Aa Sa fr (ok.into I) hg hd hu hb (J8 hs ?_))
 refine hl _ B σ hp0 F s A pos _ Er W st ok I ak fun B1 xs σ1 hp1 vs s1 le1 W1 ln rl nhs st1 ok1 I1 rs1=>?_
 exact hp W1 rl ok1 I1 ak ((post.weak le1 rs1).toV st1)
theorem DD (Sa:Ac T K){k:DA}{id:String}{x:Str}(hp:Bi w T K k (.type id))(hu:x∈RM)(hb:bootBuiltins x=some (.type id))(hd:(x==("__debug__":Str))=false){l:Es}{es:List Expr}{p pos:Pos}(hg:fr.isG x=true)(hs:es.all AH=true)(hl:FX Φ K n fr l es):
  AK Φ K n fr (.prim k l) (.Call (.Name x p) es [] pos):=fun Kx B σ hp0 F s A Q Er W st ok I ak post=>by
 refine wpAny_Call_NameR (Aa Sa fr (ok.into I) hg hd hu hb (Qt hs ?_))
 refine hl _ B σ hp0 F s A pos _ Er W st ok I ak fun B1 xs σ1 hp1 vs s1 le1 W1 ln rl nhs st1 ok1 I1 rs1=>?_
 exact hp W1 rl ok1 I1 ak ((post.weak le1 rs1).toV st1)
end
theorem LL (x:Int):∀l:List Int,Mr (l++[x])=Mr l+x
 | []=>by show x+0=0+x;lia
 | a::l=>by show a+Mr (l++[x])=a+Mr l+x;rw [LL x l];lia
theorem preSum_eq (k:List Int):∀n,n≤k.length→preSum (fun i=>k.getD i 0) n=Mr (k.take n)
 | 0,_=>rfl
 | n+1,h=>by
  show preSum _ n+k.getD n 0=_
  rw [preSum_eq k n (by lia),List.take_add_one,List.getElem?_eq_getElem (by lia:n < k.length)]
  show _=Mr (k.take n++[k[n]])
  rw [LL,List.getD_eq_getElem?_getD,List.getElem?_eq_getElem (by lia:n < k.length)];rfl
theorem OF {vs:List Value}{k:List Int}{i:Nat}{v:Value}(a:IntsAre vs k)(h:vs[i]?=some v):∃t,v=.int (k.getD i 0) t:=by
 induction a generalizing i with
 | nil=>exact nn h
 | cons n t r ih=>
  cases i with
  | zero=>exact⟨t,(Option.some.inj h).symm⟩
  | succ i=>exact ih h
theorem Zz:Bi w T K .sum (.builtin "sum"):=fun {xs Kx B vs R s n A Q Er} W rl ok I a post=>by
 obtain⟨x,v,W,r⟩:=FF W rl
 obtain⟨o,l,W,z,ad,us,m,ba,ru⟩:=Cg W r
 obtain⟨k,ek,W⟩:=AF W
 have hi:=GZ ru ek
 have hl:s.heap.IsList ad us:=⟨_,I.base _ _ ba,rfl,_,rfl⟩
 have ne:ad≠s.heap.objs.size:=DT I ba
 have kl:us.size=k.length:=by rw [←Array.length_toList];exact hi.length
 refine call_sum_walkG (wpAny_pyIter_list hl ?_)
 refine⟨_,_,_,_,_,_,fun i=>k.getD i 0,rfl,Walks.list (A:=A.in1) a.handled s.heap.objs.size ad ne us,⟨⟨_,Heap.get?_push_size _ rfl,rfl,rfl⟩,hl.at fun o e=>Heap.get?_push_of_some _ e⟩,fun b hb=>?_,fun i v hv=>OF hi (by rw [Array.getElem?_toList];exact hv),fun h' tk t' keep=>?_⟩
 ·show b < (s.heap.push _).objs.size
  rw [Heap.size_push]
  simp at hb
  rcases hb with rfl | rfl
  ·exact Nat.lt_succ_self _
  ·exact Nat.lt_succ_of_lt (Heap.lt_size (I.base _ _ ba))
 ·have e:preSum (fun i=>k.getD i 0) us.size=Mr k:=by rw [kl,preSum_eq k _ (Nat.le_refl _),List.take_length]
  rw [e]
  refine post.int W (I.keep fun b o e=>keep b o (fun hb=>?_) (Heap.get?_push_of_some _ e)) ⟨rfl,rfl⟩
  simp at hb
  subst hb
  exact Nat.lt_irrefl _ (Heap.lt_size e)
theorem RH (a b c d:Value):argsOk "max" ⟨[a,b,c,d],[]⟩:=by unfold argsOk;kernel_rfl
theorem Km {A:Around}{s:Shared}{E:Value→Shared→Prop}{a b c d:Value}{Q:Value→Shared→Prop}
  (h:wpAny (model pw w) A.in1 (pyIter (.ref s.heap.objs.size)) (fun it s₂=>∃I fp wr n P St bt,it=.ref I∧Walks pw w A.in1 I fp wr n P St∧St 0 s₂.heap∧(∀b∈fp,b < s₂.heap.objs.size)∧0 < n∧CmpOf pw w A.in1 .Gt P bt∧
   ∀v h' tk,P (argBest bt (n - 1)) v→(∀b o,b∉wr→s₂.heap.get? b=some o→h'.get? b=some o)→Q v { s₂ with heap:=h',toks:=tk }) E
   { s with heap:=s.heap.push { cls:=.type "tuple",data:=.seq #[a,b,c,d] } }):
  wpAny (model pw w) A (call (.builtin "max") [a,b,c,d]) Q E s:=by
 have hname:(toString "max"++toString ".loop":String) = "max.loop":=by decide
 refine call_function_tree F.kind_max F.plain_max F.entry_max (RH _ _ _ _) ?_
 show wpAny _ A.in1 (Builtin.Builtins.bindParams "max" ["key","default"] 0 ⟨[],[]⟩ >>= _) _ _ s
 refine wpAny_bind (wpAny_of_eq (show Builtin.Builtins.bindParams "max" ["key","default"] 0 ⟨[],[]⟩=pure [none,none] from rfl) ?_)
 show wpAny _ A.in1 (newTuple [a,b,c,d] >>= _) _ _ s
 refine wpAny_bind (wpAny_newObj_type ?_)
 refine wpAny_bind (wpAny_mono h (fun it s₂ h₂=>?_) fun _ _ e=>e)
 obtain⟨I,fp,wr,n,P,St,bt,e,W,hst,hfp,hn,hcmp,hQ⟩:=h₂
 subst e
 refine wpAny_bind (wpAny_newObj_type ?_)
 have hSf:s₂.heap.objs.size∉fp:=fun hm=>Nat.lt_irrefl _ (hfp _ hm)
 rw [hname]
 refine wpAny_pure ⟨plainId_quiet F.plain_max_loop _,codeAny_max_loop_first W bt hcmp s₂.heap.objs.size hSf hn (W.frame _ _ _ hst fun b _ o e=>Heap.get?_push_of_some _ e) (Heap.get?_push_size _ rfl) fun v h' tk hP hk=>?_⟩
 exact hQ v h' tk hP fun b o hbw e=>hk b o hbw (Nat.ne_of_lt (Heap.lt_size e)) (Heap.get?_push_of_some _ e)
theorem HD (f:Nat→Int)(n:Nat):f (argBest (fun i j=>decide (f i > f j)) (n+1))=max (f (argBest (fun i j=>decide (f i > f j)) n)) (f (n+1)):=by
 conv=>lhs;unfold argBest
 by_cases q:f (n+1) > f (argBest (fun i j=>decide (f i > f j)) n)
 ·rw [if_pos (decide_eq_true q)];exact (Int.max_eq_right (Int.le_of_lt q)).symm
 ·rw [if_neg (fun h=>q (of_decide_eq_true h))];exact (Int.max_eq_left (Int.not_lt.mp q)).symm
theorem bS (f:Nat→Int):f (argBest (fun i j=>decide (f i > f j)) 3)=max (max (max (f 0) (f 1)) (f 2)) (f 3):=by
 rw [HD f,HD f,HD f];rfl
theorem Ry {A:Around}{s:Shared}{Q:Value→Shared→Prop}{E:Value→Shared→Prop}(hh:A.handled=none)(a b c d:Int)(t1 t2 t3 t4:Tok)(h:∀t h' tk,(∀q o,s.heap.get? q=some o→h'.get? q=some o)→Q (.int (max (max (max a b) c) d) t) { s with heap:=h',toks:=tk }):
  wpAny (model pw w) A (call (.builtin "max") [.int a t1,.int b t2,.int c t3,.int d t4]) Q E s:=by
 have hT:IsTup (s.heap.push { cls:=.type "tuple",data:=.seq #[.int a t1,.int b t2,.int c t3,.int d t4] }) s.heap.objs.size (intItems #[(a,t1),(b,t2),(c,t3),(d,t4)]):=⟨_,Heap.get?_push_size _ rfl,rfl,0,by simp [intItems]⟩
 refine Km (iter_tuple hT ?_)
 have ne:s.heap.objs.size≠(s.heap.push ({ cls:=.type "tuple",data:=.seq #[.int a t1,.int b t2,.int c t3,.int d t4] }:Obj)).objs.size:=by rw [Heap.size_push];exact Nat.ne_of_lt (Nat.lt_succ_self _)
 refine⟨_,_,_,_,_,_,_,rfl,Hc (A:=A.in1) hh _ s.heap.objs.size ne (intItems #[(a,t1),(b,t2),(c,t3),(d,t4)]),⟨⟨_,Heap.get?_push_size _ rfl,rfl,rfl⟩,hT.push _⟩,fun q hq=>?_,by simp [intItems],CmpOf.ints_gt (numAt #[(a,t1),(b,t2),(c,t3),(d,t4)]) (fun _ _=>intItems_at),fun v h' tk hP hk=>?_⟩
 ·show q < ((s.heap.push _).push _).objs.size
  rw [Heap.size_push,Heap.size_push]
  simp at hq
  rcases hq with e | e
  ·rw [e];exact Nat.lt_succ_self _
  ·rw [e];exact Nat.lt_succ_of_lt (Nat.lt_succ_self _)
 ·obtain⟨t,ev⟩:=intItems_at hP
  subst ev
  rw [show (intItems #[(a,t1),(b,t2),(c,t3),(d,t4)]).size - 1=3 by simp [intItems],bS (numAt #[(a,t1),(b,t2),(c,t3),(d,t4)])]
  refine h t h' tk fun q o e=>hk q o (fun hb=>?_) (Heap.get?_push_of_some _ (Heap.get?_push_of_some _ e))
  simp at hb
  have:=Heap.lt_size e
  rw [hb] at this
  exact Nat.lt_irrefl _ (Nat.lt_of_succ_lt this)
theorem Y3:Bi w T K .max4 (.builtin "max"):=fun {xs Kx B vs R s n A Q Er} W rl ok I ak post=>by
 revert rl
 refine A6 W fun x xs W=>A6 W fun y xs W rl=>?_
 obtain⟨v1,vs1,r1,rl1⟩:=rl.unN
 obtain⟨v2,vs2,r2,rl2⟩:=rl1.unN
 obtain⟨z,u,v3,v4,W,r3,r4⟩:=Xo W rl2
 obtain⟨a,t1,W⟩:=AZ W r1
 obtain⟨b,t2,W⟩:=AZ W r2
 obtain⟨c,t3,W⟩:=AZ W r3
 obtain⟨d,t4,W⟩:=AZ W r4
 exact Ry ak.handled a b c d t1 t2 t3 t4 fun t h' tk keep=>post.int W (I.keep keep) ⟨rfl,rfl⟩
theorem SR {A:Around}{s:Shared}{Q:Value→Shared→Prop}{Er:Value→Shared→Prop}{n:Nat}{B:PM}{R:HP}{o:O}{l:List V}{k:List Int}{v:Value}{Kx:V→Prop}(ek:Dc l=some k)(hr:∀i∈k,0≤i∧i < 256)(W:Kx (.bytes k))(r:RV T.toTab B (.lst o l) v [])(I:Inv B s.heap R)(a:J4 n A)(post:Hf w T B R s Kx Q):
  wpAny (model pw w) A (call (.type "bytes") [v]) Q Er s:=by
 obtain⟨_,l',e,z,ad,us,m,ba,rl⟩:=BI r
 subst e
 exact call_bytes_ints (vs:=us.toList) (ns:=k) (by rw [Array.toArray_toList];exact⟨_,I.base _ _ ba,rfl,_,rfl⟩) (GZ rl ek) hr (by rw [rl.len];exact z) a.handled fun h' t tk keep=>
  post B (.bytes k) [] _ _ (PM.le.refl B) W ⟨_,_,KBa.ints_make (ns:=k) hr⟩ (I.keep keep) ⟨rfl,rfl⟩
theorem IL:typeLookup (.type "bytes") "__bytes__"=pure (some (.builtin "bytes.__bytes__")):=by rw [typeLookup_type,builtinLookup_eq_fast];kernel_rfl
theorem Iy {A:Around}{s:Shared}{E:Value→Shared→Prop}{b:Array UInt8}{t:Tok}{Q:Value→Shared→Prop}(hQ:Q (.bytes b t) s):
  codeAny (model pw w) A (.call (.builtin "bytes.__new__") ⟨[.type "bytes",.bytes b t],[]⟩) (wants Q E) s:=by
 refine codeAny_of_tree ?_
 show wpAny _ A.in1 (do checkBuiltinCall "bytes.__new__" ⟨[.type "bytes",.bytes b t],[]⟩;again (.builtin "bytes.__new__" ⟨[.type "bytes",.bytes b t],[]⟩)) _ _ s
 refine wpAny_bind (wpAny_of_eq (PySem.F.bm_newCall _) (wpAny_pure ⟨plainId_quiet PySem.F.bm_plain _,codeAny_builtin PySem.F.bm_entry ?_⟩))
 rw [Around.under_plainId PySem.F.bm_plain _]
 have hT:s.TypeIs (.bytes b t) "bytes":=PySem.W.typeIs_bytes _ _ _
 unfold Builtin.«bytes.__new__»
 refine wpAny_bind (wpAny_of_eq (a:=true) rfl ?_)
 refine bm_if_false rfl ?_
 refine wpAny_bind (wpAny_of_eq PySem.F.bm_sub ?_)
 refine bm_if_false rfl ?_
 refine wpAny_bind (wpAny_of_eq (PySem.F.bm_bind _) ?_)
 refine wpAny_bind (wpAny_of_eq (a:=()) rfl ?_)
 refine wpAny_bind (wpAny_of_eq (a:=()) rfl ?_)
 refine bm_if_false rfl ?_
 refine wpAny_bind (wpAny_specialOf hT IL ?_)
 show wpAny _ _ (rule "bytes.__new__.of-bytes" >>= _) _ _ _
 refine wpAny_bind (wpAny_rule (wpAny_bind (wpAny_typeOf hT ?_)))
 rw [if_pos (by decide)]
 exact wpAny_of_eq (a:=Fin.done (.ret (.bytes b t))) (by kernel_rfl) hQ
theorem Sp {A:Around}{s:Shared}{E:Value→Shared→Prop}{b:Array UInt8}{t:Tok}{Q:Value→Shared→Prop}(hQ:Q (.bytes b t) s):wpAny (model pw w) A (call (.type "bytes") [.bytes b t]) Q E s:=by
 refine callType_codes (Q₁:=fun obj s₁=>s₁.TypeIs obj "bytes"∧Q obj s₁) PySem.F.bm_called (PySem.F.bm_typeCall _) PySem.F.entry_object_init
  (Iy ⟨PySem.W.typeIs_bytes _ _ _,hQ⟩) fun obj s₁ h₁=>?_
 exact⟨h₁.1,PySem.F.args_object_init_2 obj _,object_init_meets PySem.F.bm_called.init.lookup PySem.F.bm_called.made (by decide) pw w A.in1 _ s₁ ⟨h₁.1,rfl,h₁.2⟩⟩
theorem Vj:Bi w T K .bytes (.type "bytes"):=fun {xs Kx B vs R s n A Q Er} W rl ok I a post=>by
 obtain⟨x,v,W,r⟩:=FF W rl
 cases x with
 | lst o l=>
  obtain⟨k,ek,hr,W⟩:=AF W
  exact SR ek hr W r I a post
 | bytes l=>
  have r':=r
  obtain⟨b,t,hb⟩:=r'
  exact Sp (post B _ [] _ _ (PM.le.refl B) W r I (AO.refl s))
 | _=>exact W.elim
theorem Rb:typeLookup (.type "bytes") "__len__"=pure (some (.builtin "bytes.__len__")):=by rw [typeLookup_type,builtinLookup_eq_fast];kernel_rfl
theorem RG:isSubtype (.type "bytes") (.type "bytes")=pure true:=by rw [isSubtype_type];kernel_rfl
theorem P1 {A:Around}{s:Shared}{E:Value→Shared→Prop}{b:Array UInt8}{t:Tok}{Q:Bool→Shared→Prop}(hQ:Q false s):wpAny (model pw w) A (Builtin.List.listLengthHint (.bytes b t)) Q E s:=by
 have hT:s.TypeIs (.bytes b t) "bytes":=PySem.W.typeIs_bytes _ _ _
 unfold Builtin.List.listLengthHint
 refine wpAny_bind (wpAny_specialOf hT Rb ?_)
 wp_delta
 refine wpAny_bind (wpAny_isInstance hT RG ?_)
 show wpAny _ A (typeOf (Value.bytes b t) >>= _) _ _ _
 refine wpAny_bind (wpAny_typeOf hT ?_)
 exact wpAny_pure hQ
noncomputable def jz (pre:Array Value)(P:Nat→Value→Prop)(i:Nat)(v:Value):Prop:=(i < pre.size∧pre[i]?=some v)∨(pre.size≤i∧P (i - pre.size) v)
theorem O5 {A:Around}{I:Addr}{fp wr:List Addr}{n:Nat}{P:Nat→Value→Prop}{St:Nat→Heap→Prop}(W:Walks pw w A I fp wr n P St)(pre:Array Value):
  Walks pw w A I fp wr (pre.size+n) (jz pre P) (fun i h=>pre.size≤i∧St (i - pre.size) h) where
 sub:=W.sub
 frame:=fun i h h' st k=>⟨st.1,W.frame _ h h' st.2 k⟩
 item:=fun i s Q E hi st hQ=>W.item (i - pre.size) s Q E (Nat.sub_lt_left_of_lt_add st.1 hi) st.2 fun v h' tk p st' k=>hQ v h' tk (.inr ⟨st.1,p⟩) ⟨Nat.le_succ_of_le st.1,by rw [Nat.succ_sub st.1];exact st'⟩ k
 done:=fun s Q E st hQ=>W.done s Q E (by have:=st.2;rw [Nat.add_sub_cancel_left] at this;exact this) hQ
 self:=fun i s Q E st q=>W.self _ s Q E st.2 q
theorem Nz {pre:Array Value}{P:Nat→Value→Prop}{n:Nat}{acc:Array Value}(h:ItemsOf (jz pre P) acc (pre.size+n)):∃us:List Value,acc.toList=pre.toList++us∧us.length=n∧∀j v,us[j]?=some v→P j v:=by
 obtain⟨h1,h2⟩:=h
 refine⟨acc.toList.drop pre.size,?_,?_,fun j v hv=>?_⟩
 ·apply List.ext_getElem?
  intro i
  by_cases hi:i < pre.size
  ·rw [List.getElem?_append_left (by simpa using hi)]
   cases e:acc[i]? with
   | none=>rw [Array.getElem?_eq_none_iff] at e;exact absurd (Nat.lt_of_lt_of_le hi (Nat.le_trans (Nat.le_add_right _ n) (h1▸e))) (Nat.lt_irrefl _)
   | some v=>
    rcases h2 i v e with ⟨_,p⟩ | ⟨p,_⟩
    ·rw [Array.getElem?_toList,Array.getElem?_toList,e,p]
    ·exact absurd hi (Nat.not_lt.2 p)
  ·rw [List.getElem?_append_right (by simpa using Nat.le_of_not_lt hi),List.getElem?_drop]
   simp only [Array.length_toList]
   rw [XE hi]
 ·rw [List.length_drop,Array.length_toList,h1,Nat.add_sub_cancel_left]
 ·rw [List.getElem?_drop,Array.getElem?_toList] at hv
  rcases h2 _ v hv with ⟨p,_⟩ | ⟨_,p⟩
  ·exact absurd p (Nat.not_lt.2 (Nat.le_add_right _ _))
  ·rw [Nat.add_sub_cancel_left] at p;exact p
noncomputable def Fd (b:Array UInt8)(i:Nat)(v:Value):Prop:=∃c u,b[i]?=some c∧v=.int (c.toNat:Int) u
theorem Lv {B:PM}:∀(bl:List UInt8) (us:List Value),us.length=bl.length→(∀(j:Nat) v,us[j]?=some v→∃c u,bl[j]?=some c∧v=.int (c.toNat:Int) u)→RL T.toTab B ((bl.map (fun u=>(u.toNat:Int))).map V.int) us []
 | [],us,h,_=>by rw [List.eq_nil_of_length_eq_zero h];exact⟨⟩
 | c::bl,v::us,h,hh=>by
  obtain⟨c',u,e1,e⟩:=hh 0 v rfl
  subst e
  cases e1
  exact RL.consN RV.ofInt (Lv bl us (Nat.succ.inj h) fun j v hv=>hh (j+1) v hv)
theorem Ho {B:PM}{b:Array UInt8}{l:List Int}{us:List Value}(e:b.toList.map (fun u=>(u.toNat:Int))=l)(h1:us.length=b.size)(h2:∀j v,us[j]?=some v→Fd b j v):RL T.toTab B (l.map V.int) us []:=by
 subst e
 exact Lv b.toList us (h1.trans (Array.length_toList).symm) fun j v hv=>by rw [Array.getElem?_toList];exact h2 j v hv
theorem Lp {A:Around}{s:Shared}{R:Result→Shared→Prop}{S:Addr}{vs:Array Value}{m:Nat}{b:Array UInt8}{t:Tok}{res:Value}(hh:A.handled=none)(hz:vs.size+b.size≤16000000)(g:s.heap.get? S=some (AD vs m))
  (hQ:∀h' tk acc c us,h'.get? S=some (AD acc c)→acc.toList=vs.toList++us→us.length=b.size→(∀j v,us[j]?=some v→Fd b j v)→(∀a o,a≠S→s.heap.get? a=some o→h'.get? a=some o)→R (.ok (.ret res)) { s with heap:=h',toks:=tk }):
  wpAny (model pw w) A.in1 (Builtin.List.listExtendWith (.ref S) (.bytes b t) res) (fun fin s'=>match fin with | .done f=>R (.ok f) s' | .again c'=>c'.quiet=true∧codeAny (model pw w) A c' R s') (fun e s'=>R (.error e) s') s:=by
 have zl:sizeLine=2 ^ 24:=sizeLine_eq
 have hT:s.TypeIs (.bytes b t) "bytes":=PySem.W.typeIs_bytes _ _ _
 unfold Builtin.List.listExtendWith
 refine wpAny_bind (wpAny_typeOf hT ?_)
 have h1:Builtin.List.listSameRef (.ref S) (.bytes b t)=false:=rfl
 have h2:(Value.type "bytes"==Value.type "list")=false:=by decide
 have h3:(Value.type "bytes"==Value.type "tuple")=false:=by decide
 simp only [h1,h2,h3,Bool.or_false,Bool.false_eq_true,if_false]
 refine wpAny_bind (KBw.pyIter_bytes ?_)
 refine wpAny_bind (wpAny_holding (P1 ?_))
 rw [if_neg (by decide)]
 have ne:S≠s.heap.objs.size:=Nat.ne_of_lt (Heap.lt_size g)
 have W:=O5 (KBw.walks (prog:=pw) (w:=w) (A:=A.in1) hh s.heap.objs.size b t) vs
 refine wpAny_pure ⟨plainId_quiet PySem.F.plain_extend_loop _,codeAny_extend_loopS W.toS (by lia) S (by simpa using ne) res b.size vs.size _ vs m (by lia) (by lia) ⟨Nat.le_refl _,by rw [Nat.sub_self];exact⟨_,Heap.get?_push_size _ rfl,rfl,rfl⟩⟩ (Heap.get?_push_of_some _ g) ⟨rfl,fun j v hv=>.inl ⟨(Array.getElem?_eq_some_iff.mp hv).1,hv⟩⟩ fun s' acc' c' hm hS' hacc=>?_⟩
 obtain⟨us,e1,e2,e3⟩:=Nz hacc
 have es:s'={ s with heap:=s'.heap,toks:=s'.toks }:=by
  obtain⟨h',g',d',t',o'⟩:=s'
  have a1:=hm.gens;have a2:=hm.drawn;have a3:=hm.os
  dsimp only at a1 a2 a3
  subst a1 a2 a3;rfl
 rw [es]
 refine hQ _ _ acc' c' us hS' e1 e2 e3 fun a o na e=>hm.heap a o (fun hb=>?_) (Heap.get?_push_of_some _ e)
 rcases List.mem_cons.mp hb with rfl | hb
 ·exact na rfl
 ·have:=List.mem_singleton.mp hb
  subst this
  exact Nat.lt_irrefl _ (Heap.lt_size e)
theorem JU {A:Around}{s:Shared}{Q:Value→Shared→Prop}{Er:Value→Shared→Prop}{S:Addr}{vs:Array Value}{m:Nat}{b:Array UInt8}{t:Tok}(hh:A.handled=none)(hz:vs.size+b.size≤16000000)(g:s.heap.get? S=some (AD vs m))
  (hQ:∀h' tk acc c us,h'.get? S=some (AD acc c)→acc.toList=vs.toList++us→us.length=b.size→(∀j v,us[j]?=some v→Fd b j v)→(∀a o,a≠S→s.heap.get? a=some o→h'.get? a=some o)→Q .none { s with heap:=h',toks:=tk }):
  wpAny (model pw w) A (call (.builtin "list.extend") [.ref S,.bytes b t]) Q Er s:=by
 refine wpAny_call (codeAny_call_builtin PySem.F.slot_list_extend.plain PySem.F.entry_list_extend (PySem.F.slot_list_extend.check _ _ _ _ _ _ _ _ ⟨_,g,rfl⟩ (PySem.F.args_list_extend_2 _ _) ?_))
 show wpAny _ A.in1 (Builtin.List.listExtendWith (.ref S) (.bytes b t) .none) _ _ s
 exact Lp (R:=fun r s'=>match r with | .ok (.ret v)=>Q v s' | .ok _=>False | .error e=>Er e s') hh hz g hQ
theorem Kt {A:Around}{s:Shared}{Q:List Value→Shared→Prop}{E:Value→Shared→Prop}{b:Array UInt8}{t:Tok}(hh:A.handled=none)(hz:b.size≤16000000)
  (hQ:∀h' tk us,us.length=b.size→(∀j v,us[j]?=some v→Fd b j v)→(∀a o,s.heap.get? a=some o→h'.get? a=some o)→Q us { s with heap:=h',toks:=tk }):
  wpAny (model pw w) A (collect (.bytes b t)) Q E s:=by
 unfold collect
 refine wpAny_bind (wpAny_runValue (codeAny_builtin PySem.F.entry_proto_collect ?_))
 rw [Around.under_plainId PySem.F.plain_proto_collect _]
 show wpAny _ A.in1 (newList [] >>= fun l=>again (.builtin "list.__iadd__" ⟨[l,.bytes b t],[]⟩)) _ _ s
 refine wpAny_bind (wpAny_newObj_type ?_)
 refine wpAny_pure ⟨plainId_quiet PySem.F.plain_list_iadd _,codeAny_builtin PySem.F.entry_list_iadd ?_⟩
 rw [Around.under_plainId PySem.F.plain_list_iadd _]
 show wpAny _ A.in1 (Builtin.List.listExtendWith (.ref s.heap.objs.size) (.bytes b t) (.ref s.heap.objs.size)) _ _ _
 refine wpAny_mono (Lp (R:=fun r s'=>r=.ok (.ret (.ref s.heap.objs.size))∧∃h' tk us acc c,s'={ s with heap:=h',toks:=tk }∧h'.get? s.heap.objs.size=some (AD acc c)∧acc.toList=us∧us.length=b.size∧(∀j v,us[j]?=some v→Fd b j v)∧(∀a o,s.heap.get? a=some o→h'.get? a=some o))
  (s:={ s with heap:=s.heap.push (AD #[] 0) }) (S:=s.heap.objs.size) (vs:=#[]) (m:=0) hh (by simpa using hz) (Heap.get?_push_size (o:=AD #[] 0) s.heap rfl) fun h' tk acc c us g e1 e2 e3 keep=>
   ⟨rfl,h',tk,us,acc,c,rfl,g,by rw [e1];rfl,e2,e3,fun a o e=>keep a o (Nat.ne_of_lt (Heap.lt_size e)) (Heap.get?_push_of_some _ e)⟩) (fun fin s' h=>?_) (fun e s' h=>?_)
 ·have fin':∀s':Shared,(∃h' tk us acc c,s'={ s with heap:=h',toks:=tk }∧h'.get? s.heap.objs.size=some (AD acc c)∧acc.toList=us∧us.length=b.size∧(∀j v,us[j]?=some v→Fd b j v)∧(∀a o,s.heap.get? a=some o→h'.get? a=some o))→
    wpAny (model pw w) A (match Value.ref s.heap.objs.size with
     | .ref a=>do match (←load a).data with
      | .seq xs _=>pure xs.toList
      | _=>unsupported "internal:collect"
     | _=>unsupported "internal:collect") Q E s':=by
   rintro s' ⟨h',tk,us,acc,c,rfl,g,e1,e2,e3,keep⟩
   show wpAny _ A (load s.heap.objs.size >>= _) _ _ _
   refine wpAny_bind (wpAny_load g (wpAny_pure ?_))
   show Q acc.toList _
   rw [e1]
   exact hQ h' tk us e2 e3 keep
  cases fin with
  | done f=>
   obtain⟨e,h⟩:=h
   cases e
   exact fin' s' h
  | again c'=>exact⟨h.1,codeAny_mono h.2 fun r s'' hr=>by obtain⟨rfl,hr⟩:=hr;exact fin' s'' hr⟩
 ·exact absurd h.1 (by simp)
theorem Inv.chg {B:PM}{h h':Heap}{a:Addr}{o o':Obj}{R:HP}(I:Inv B h ((a,o)::R))(keep:∀b ob,b≠a→h.get? b=some ob→h'.get? b=some ob)(g:h'.get? a=some o'):Inv B h' ((a,o')::R):=by
 have nd:=List.nodup_cons.mp I.nd
 have off:=I.off (a,o) (.head _)
 refine⟨fun k ob e=>keep k ob (fun q=>by subst q;exact nn (off.symm.trans e)) (I.base k ob e),fun p hp=>?_,fun p hp=>?_,I.nd⟩
 ·cases hp with
  | head=>exact g
  | tail _ hp=>exact keep _ _ (fun q=>nd.1 (List.mem_map.mpr ⟨p,hp,q⟩)) (I.own p (.tail _ hp))
 ·cases hp with
  | head=>exact off
  | tail _ hp=>exact I.off p (.tail _ hp)
section
variable {Φ:Nat→List V→(V→List V→Prop)→Prop}{n:Nat}{nm:Nat→Option Str}{pins:List Nat}{fr:A8 w T env nm pins}
theorem Nu (Sa:Ac T K){p:Pt}{x:E}{o e:Expr}{apos pos pos':Pos}(mp:mP T nm p o=true)(hs:AH e=true)(hline:(apos.endLine==pos.line)=true)(hx:AK Φ K n fr x e):
  BH Φ K n fr (.extendB p x) (.Expr (.Call (.Attribute o "extend" apos) [e] [] pos) pos'):=fun Kx B σ hp F s A Q Er W st ok I ak post=>by
 obtain⟨l,g,W⟩:=Su W
 obtain⟨v,h1,hp1,σ1,W,r,st1,I1,ev⟩:=MU Sa st ok I mp g W
 refine wpAny_Expr_any (DJ PySem.F.slot_list_extend PySem.F.type_list_extend (Bm mp _) (Cd hs) (Nat.lt_of_sub_eq_succ (n:=1) (m:=30) rfl) hline (ev rfl A s _ Er rfl fun t=>?_)) (Bs fr) rfl
 obtain⟨z,a,vs,m,rl⟩:=Hr r
 refine⟨a,vs,m,rfl,I1.own (a,AD vs m) (List.mem_append_right _ (.head _)),J8 (Cd hs) ?_⟩
 rw [AW hs]
 refine Calls.spliced_cons (hx.fz (s:={ s with toks:=t }) W st1 ok I1 ak fun B1 x1 σ2 hp2 u s1 le1 W1 nx r1 st2 ok2 I2 rs1=>?_)
 refine Calls.spliced_nil ?_
 obtain⟨b,tb,z1,W1⟩:=G8 W1 r1
 have I3:Inv B1 s1.heap ((a,AD vs m)::(hp2++F)):=I2.perm (AC (g1:=[(a,AD vs m)]) (.refl _))
 have ln:vs.size=l.length:=rl.len
 rw [List.length_map,Array.length_toList] at z1
 refine JU ak.handled (ln▸z1) (I3.own (a,AD vs m) (.head _)) fun h' tk acc c us ga ea el eb keep=>?_
 obtain⟨σ3,hp3,q3,st3,I5⟩:=DZ Sa W1 mp st2 ok2 (Hp (vs:=acc) (m:=c) (EL (by rw [List.length_map,List.length_map,Array.length_toList];exact z1)) (by rw [ea];exact (rl.mono le1).app (Ho rfl el eb))) (I3.chg keep ga)
 exact post.1 B1 σ3 hp3 _ le1 q3 st3 I5 ⟨rs1.gens,rs1.os⟩
end
theorem IS (b:Array UInt8)(t:Tok):
  MeetsIn pw w (Builtin.«tuple.__new__» ⟨[.type "tuple",.bytes b t],[]⟩) (fun A R s=>A.handled=none∧b.size≤16000000∧
   ∀(h':Heap) (tk:Tok) (us:List Value),us.length=b.size→(∀j v,us[j]?=some v→Fd b j v)→(∀a o,s.heap.get? a=some o→h'.get? a=some o)→R (.ok (.ret (.ref h'.objs.size))) { s with heap:=h'.push (Bu us.toArray 0),toks:=tk }):=
 .of_wp fun A R s ⟨hh,hz,h⟩=>by
  have zl:sizeLine=2 ^ 24:=sizeLine_eq
  have hsub:=sub_tuple_self
  have hinit:=init_tuple_lookup
  have hmh:=madeHere_tuple
  obtain⟨hp,g,d,tk,os⟩:=s
  have hT:Shared.TypeIs ⟨hp,g,d,tk,os⟩ (.bytes b t) "bytes":=PySem.W.typeIs_bytes _ _ _
  wp_walk using wpAny_typeOf hT,Kt (A:=A.in1) hh hz
  intro h' tk' us e1 e2 keep
  show wpAny _ _ (Builtin.Tuple.tupleExact us.toArray >>= fun v=>ret v) _ _ _
  unfold Builtin.Tuple.tupleExact
  refine wpAny_bind (wpAny_newObj_type ?_ (by show us.toArray.size≤sizeLine;simp;lia))
  exact wpAny_pure ⟨_,rfl,h h' tk' us e1 e2 keep⟩
theorem WU:Bi w T K .tuple (.type "tuple"):=fun {xs Kx B vs R s n A Q Er} W rl ok I a post=>by
 have zl:sizeLine=2 ^ 24:=sizeLine_eq
 obtain⟨x,v,W,r⟩:=FF W rl
 cases x with
 | tup l=>
  have r':=r
  obtain⟨z,ad,us,m,ba,ru⟩:=r'
  exact call_tuple_tup ⟨_,I.base _ _ ba,rfl,_,rfl⟩ (post B _ [] _ _ (PM.le.refl B) W r I (AO.refl s))
 | lst o l=>
  obtain⟨_,l',e,z,ad,us,m,ba,ru⟩:=BI r
  subst e
  have ln:us.size=l'.length:=ru.len
  refine call_tuple_list ⟨_,I.base _ _ ba,rfl,_,rfl⟩ (fun h' keep=>?_) (by lia)
  obtain⟨B2,le2,rr,I2⟩:=En (vs:=us) (I.keep keep) ru z
  exact post B2 _ [] _ _ le2 W rr I2 ⟨rfl,rfl⟩
 | bytes l=>
  obtain⟨hz,W⟩:=W
  obtain⟨b,t,hb⟩:=r
  have lb:=HU hb
  refine callType_newIn PySem.F.called_tuple (by decide) (PySem.F.typeCall_tuple_1 _) (PySem.F.newCall_tuple_1 _) (fun obj=>PySem.F.args_object_init_2 obj _) PySem.F.entry_tuple_new
   (IS b t) ⟨a.handled,by lia,fun h' tk us e1 e2 keep=>?_⟩
  obtain⟨B2,le2,rr,I2⟩:=En (l:=l.map .int) (vs:=us.toArray) (I.keep keep) (Ho hb e1 e2) (by rw [List.length_map];lia)
  exact⟨⟨_,Heap.get?_push_size _ rfl,rfl⟩,post B2 _ [] _ _ le2 W rr I2 ⟨rfl,rfl⟩⟩
 | _=>exact W.elim
theorem Sg:typeLookup (.type "dict") "__len__"=pure (some (.builtin "dict.__len__")):=by rw [typeLookup_type,builtinLookup_eq_fast];kernel_rfl
theorem TA:isSubtype (.type "dict") (.type "dict")=pure true:=by rw [isSubtype_type];kernel_rfl
theorem Rm {A:Around}{s:Shared}{E:Value→Shared→Prop}{d:Addr}{Q:Bool→Shared→Prop}(hT:s.TypeIs (.ref d) "dict")(hQ:Q false s):wpAny (model pw w) A (Builtin.List.listLengthHint (.ref d)) Q E s:=by
 unfold Builtin.List.listLengthHint
 refine wpAny_bind (wpAny_specialOf hT Sg ?_)
 wp_delta
 refine wpAny_bind (wpAny_isInstance hT TA ?_)
 show wpAny _ A (typeOf (Value.ref d) >>= _) _ _ _
 refine wpAny_bind (wpAny_typeOf hT ?_)
 exact wpAny_pure hQ
noncomputable def Ql (kvs:List (Int×Value))(i:Nat)(v:Value):Prop:=∃k x,kvs[i]?=some (k,x)∧Value.isInt k v=true
theorem Ta {A:Around}{s:Shared}{R:Result→Shared→Prop}{S d:Addr}{kvs:List (Int×Value)}{ep:Nat}{res:Value}(hh:A.handled=none)(hz:kvs.length≤16000000)(g:s.heap.get? S=some (AD #[] 0))(hd:s.heap.DictAt (intKind pw w) d kvs ep)(ns:(d==sysModules)=false)(hne:S≠d)
  (hQ:∀h' tk acc c,h'.get? S=some (AD acc c)→acc.size=kvs.length→(∀j v,acc[j]?=some v→Ql kvs j v)→(∀a o,a≠S→s.heap.get? a=some o→h'.get? a=some o)→R (.ok (.ret res)) { s with heap:=h',toks:=tk }):
  wpAny (model pw w) A.in1 (Builtin.List.listExtendWith (.ref S) (.ref d) res) (fun fin s'=>match fin with | .done f=>R (.ok f) s' | .again c'=>c'.quiet=true∧codeAny (model pw w) A c' R s') (fun e s'=>R (.error e) s') s:=by
 have zl:sizeLine=2 ^ 24:=sizeLine_eq
 have hT:s.TypeIs (.ref d) "dict":=hd.dictOf.typeIs
 unfold Builtin.List.listExtendWith
 refine wpAny_bind (wpAny_typeOf hT ?_)
 have h1:Builtin.List.listSameRef (.ref S) (.ref d)=false:=by
  show (S==d)=false
  exact beq_eq_false_iff_ne.mpr hne
 have h2:(Value.type "dict"==Value.type "list")=false:=by decide
 have h3:(Value.type "dict"==Value.type "tuple")=false:=by decide
 simp only [h1,h2,h3,Bool.or_false,Bool.false_eq_true,if_false]
 refine wpAny_bind (wpAny_pyIter_dict (knd:=intKind pw w) ns hd ?_)
 have I0:∀a o,s.heap.get? a=some o→(s.heap.push ({ cls:=.type "dict_keyiterator",data:=.fields #[.ref d,.int 0 0,.int kvs.length 0,.int ep 0] }:Obj)).get? a=some o:=fun a o e=>Heap.get?_push_of_some _ e
 have hT2:({ s with heap:=s.heap.push { cls:=.type "dict_keyiterator",data:=.fields #[.ref d,.int 0 0,.int kvs.length 0,.int ep 0] } }:Shared).TypeIs (.ref d) "dict":=by
  obtain⟨o,ho,hc⟩:=hT
  exact⟨o,I0 _ _ ho,hc⟩
 refine wpAny_bind (wpAny_holding (Rm hT2 ?_))
 rw [if_pos (by decide)]
 refine wpAny_bind (wpAny_rule ?_)
 have gS:(s.heap.push ({ cls:=.type "dict_keyiterator",data:=.fields #[.ref d,.int 0 0,.int kvs.length 0,.int ep 0] }:Obj)).get? S=some (AD #[] 0):=I0 _ _ g
 obtain⟨n1,e1⟩:=HK (·.push .none) #[] 0
 have g1:((s.heap.push ({ cls:=.type "dict_keyiterator",data:=.fields #[.ref d,.int 0 0,.int kvs.length 0,.int ep 0] }:Obj)).update S (Obj.mapSeq (·.push .none))).get? S=some (AD (#[].push .none) n1):=by
  rw [←e1];exact Heap.get?_update_self _ gS (by rw [e1];rfl)
 obtain⟨n2,e2⟩:=HK (·.pop) (#[].push .none) n1
 have g2:(((s.heap.push ({ cls:=.type "dict_keyiterator",data:=.fields #[.ref d,.int 0 0,.int kvs.length 0,.int ep 0] }:Obj)).update S (Obj.mapSeq (·.push .none))).update S (Obj.mapSeq (·.pop))).get? S=some (AD ((#[].push .none).pop) n2):=by
  rw [←e2];exact Heap.get?_update_self _ g1 (by rw [e2];rfl)
 have oth:∀a o,a≠S→(s.heap.push ({ cls:=.type "dict_keyiterator",data:=.fields #[.ref d,.int 0 0,.int kvs.length 0,.int ep 0] }:Obj)).get? a=some o→(((s.heap.push ({ cls:=.type "dict_keyiterator",data:=.fields #[.ref d,.int 0 0,.int kvs.length 0,.int ep 0] }:Obj)).update S (Obj.mapSeq (·.push .none))).update S (Obj.mapSeq (·.pop))).get? a=some o:=fun a o na e=>
  (Heap.get?_update_ne _ _ _ _ na).trans ((Heap.get?_update_ne _ _ _ _ na).trans e)
 have ne:S≠s.heap.objs.size:=Nat.ne_of_lt (Heap.lt_size g)
 have nd:d≠s.heap.objs.size:=by obtain⟨o,es,ho,_⟩:=hd;exact Nat.ne_of_lt (Heap.lt_size ho)
 have W:=Walks.dictKeys (knd:=intKind pw w) (prog:=pw) (w:=w) (A:=A.in1) hh s.heap.objs.size d nd kvs ep
 refine wpAny_bind ?_
 unfold Builtin.List.listTouch
 refine wpAny_bind (listUpdate_at gS rfl ?_ (by simp) (by simp))
 refine listUpdate_at g1 rfl ?_ (by simp;lia) (by simp)
 refine wpAny_pure ⟨plainId_quiet PySem.F.plain_extend_loop _,codeAny_extend_loopS W.toS (by lia) S (by simp;exact⟨ne,hne⟩) res kvs.length 0 _ #[] n2 (by lia) (by lia) ⟨⟨_,oth _ _ (Ne.symm ne) (Heap.get?_push_size _ rfl),rfl,rfl⟩,?_⟩ g2 ⟨rfl,fun j v hv=>by simp at hv⟩ fun s' acc' c' hm hS' hacc=>?_⟩
 ·obtain⟨o,es,ho,r⟩:=hd
  exact⟨o,es,oth _ _ (Ne.symm hne) (I0 _ _ ho),r⟩
 have es:s'={ s with heap:=s'.heap,toks:=s'.toks }:=by
  obtain⟨h',g',d',t',o'⟩:=s'
  have a1:=hm.gens;have a2:=hm.drawn;have a3:=hm.os
  dsimp only at a1 a2 a3
  subst a1 a2 a3;rfl
 rw [es]
 refine hQ _ _ acc' c' hS' hacc.1 hacc.2 fun a o na e=>hm.heap a o (fun hb=>?_) (oth _ _ na (I0 _ _ e))
 rcases List.mem_cons.mp hb with rfl | hb
 ·exact na rfl
 ·have:=List.mem_singleton.mp hb
  subst this
  exact Nat.lt_irrefl _ (Heap.lt_size e)
theorem Mf {A:Around}{s:Shared}{Q:List Value→Shared→Prop}{E:Value→Shared→Prop}{d:Addr}{kvs:List (Int×Value)}{ep:Nat}(hh:A.handled=none)(hz:kvs.length≤16000000)(hd:s.heap.DictAt (intKind pw w) d kvs ep)(ns:(d==sysModules)=false)(hne:d < s.heap.objs.size)
  (hQ:∀h' tk us,us.length=kvs.length→(∀j v,us[j]?=some v→Ql kvs j v)→(∀a o,s.heap.get? a=some o→h'.get? a=some o)→Q us { s with heap:=h',toks:=tk }):
  wpAny (model pw w) A (collect (.ref d)) Q E s:=by
 unfold collect
 refine wpAny_bind (wpAny_runValue (codeAny_builtin PySem.F.entry_proto_collect ?_))
 rw [Around.under_plainId PySem.F.plain_proto_collect _]
 show wpAny _ A.in1 (newList [] >>= fun l=>again (.builtin "list.__iadd__" ⟨[l,.ref d],[]⟩)) _ _ s
 refine wpAny_bind (wpAny_newObj_type ?_)
 refine wpAny_pure ⟨plainId_quiet PySem.F.plain_list_iadd _,codeAny_builtin PySem.F.entry_list_iadd ?_⟩
 rw [Around.under_plainId PySem.F.plain_list_iadd _]
 show wpAny _ A.in1 (Builtin.List.listExtendWith (.ref s.heap.objs.size) (.ref d) (.ref s.heap.objs.size)) _ _ _
 refine wpAny_mono (Ta (R:=fun r s'=>r=.ok (.ret (.ref s.heap.objs.size))∧∃h' tk us acc c,s'={ s with heap:=h',toks:=tk }∧h'.get? s.heap.objs.size=some (AD acc c)∧acc.toList=us∧us.length=kvs.length∧(∀j v,us[j]?=some v→Ql kvs j v)∧(∀a o,s.heap.get? a=some o→h'.get? a=some o))
  (s:={ s with heap:=s.heap.push (AD #[] 0) }) (S:=s.heap.objs.size) (kvs:=kvs) (ep:=ep) hh hz (Heap.get?_push_size (o:=AD #[] 0) s.heap rfl) (by
   obtain⟨o,es,ho,r⟩:=hd
   exact⟨o,es,Heap.get?_push_of_some _ ho,r⟩) ns (Nat.ne_of_gt hne) fun h' tk acc c g e1 e2 keep=>
   ⟨rfl,h',tk,acc.toList,acc,c,rfl,g,rfl,by simpa using e1,fun j v hv=>e2 j v (by simpa using hv),fun a o e=>keep a o (Nat.ne_of_lt (Heap.lt_size e)) (Heap.get?_push_of_some _ e)⟩) (fun fin s' h=>?_) (fun e s' h=>?_)
 ·have fin':∀s':Shared,(∃h' tk us acc c,s'={ s with heap:=h',toks:=tk }∧h'.get? s.heap.objs.size=some (AD acc c)∧acc.toList=us∧us.length=kvs.length∧(∀j v,us[j]?=some v→Ql kvs j v)∧(∀a o,s.heap.get? a=some o→h'.get? a=some o))→
    wpAny (model pw w) A (match Value.ref s.heap.objs.size with
     | .ref a=>do match (←load a).data with
      | .seq xs _=>pure xs.toList
      | _=>unsupported "internal:collect"
     | _=>unsupported "internal:collect") Q E s':=by
   rintro s' ⟨h',tk,us,acc,c,rfl,g,e1,e2,e3,keep⟩
   show wpAny _ A (load s.heap.objs.size >>= _) _ _ _
   refine wpAny_bind (wpAny_load g (wpAny_pure ?_))
   show Q acc.toList _
   rw [e1]
   exact hQ h' tk us e2 e3 keep
  cases fin with
  | done f=>
   obtain⟨e,h⟩:=h
   cases e
   exact fin' s' h
  | again c'=>exact⟨h.1,codeAny_mono h.2 fun r s'' hr=>by obtain⟨rfl,hr⟩:=hr;exact fin' s'' hr⟩
 ·exact absurd h.1 (by simp)
theorem O7 {k:Int}{v:Value}(h:Value.isInt k v=true):∃t,v=.int k t:=by
 cases v with
 | int i t=>exact⟨t,by rw [show i=k by simpa [Value.isInt] using h]⟩
 | _=>simp [Value.isInt] at h
theorem Nw {A:Around}{s:Shared}{Q:Value→Shared→Prop}{E:Value→Shared→Prop}{d:Addr}{kvs:List (Int×Value)}{ep:Nat}(hh:A.handled=none)(h1:kvs.length≤1)(hd:s.heap.DictAt (intKind pw w) d kvs ep)(ns:(d==sysModules)=false)(hne:d < s.heap.objs.size)
  (hQ:∀h' tk a us n,h'.get? a=some (AD us n)→s.heap.get? a=none→IntsAre us.toList (kvs.map (·.1))→(∀a o,s.heap.get? a=some o→h'.get? a=some o)→Q (.ref a) { s with heap:=h',toks:=tk }):
  wpAny (model pw w) A (call (.builtin "sorted") [.ref d]) Q E s:=by
 have zl:sizeLine=2 ^ 24:=sizeLine_eq
 refine Calls.call_function_entry kind_sorted plain_sorted entry_sorted (args_sorted1 _) ?_
 unfold Builtin.«sorted»
 refine wpAny_bind (m:=checkCount "sorted" 1 1 _) (wpAny_pure ?_)
 refine wpAny_bind (Mf (A:=A.in1) hh (by lia) hd ns hne fun h' tk us e1 e2 keep=>?_)
 have hI:IntsAre us (kvs.map (·.1)):=by
  rcases kvs with _ | ⟨⟨k,x⟩,_ | ⟨_,_⟩⟩
  ·rcases us with _ | _
   ·exact IntsAre.nil
   ·cases e1
  ·rcases us with _ | ⟨u,_ | ⟨_,_⟩⟩
   ·cases e1
   ·obtain⟨k',x',g,q⟩:=e2 0 u rfl
    cases g
    obtain⟨t,e⟩:=O7 q
    subst e
    exact IntsAre.cons _ _ IntsAre.nil
   ·cases e1
  ·simp at h1
 refine wpAny_bind (wpAny_newList ?_)
 have hoL:(h'.push (seqObj "list" us.toArray 0)).get? h'.objs.size=some (seqObj "list" us.toArray 0):=Heap.get?_push_size _ rfl
 refine wpAny_bind (wpAny_holding (wpAny_call_entry slot_list_sort ⟨_,hoL,rfl⟩ entry_list_sort (list_sort_tree hoL hI (by lia) fun out ns' a1 a2 a3=>⟨_,rfl,?_⟩) (args_list_sort _)))
 obtain⟨e,ge⟩:=sortedHeap_at (out:=out) hoL
 have np:ns'=kvs.map (·.1):=by
  rcases kvs with _ | ⟨⟨k,x⟩,_ | ⟨_,_⟩⟩
  ·exact List.perm_nil.mp a2
  ·exact List.perm_singleton.mp a2
  ·simp at h1
 subst np
 refine wpAny_pure ⟨_,rfl,hQ _ _ _ out e ge (by
  cases g:s.heap.get? h'.objs.size with
  | none=>rfl
  | some o=>exact (Nat.lt_irrefl _ (Heap.lt_size (keep _ _ g))).elim) a1 fun a o e=>?_⟩
 have lt:=Heap.lt_size (keep _ _ e)
 rw [sortedHeap_old (Nat.ne_of_lt lt) (by rw [size_push'];exact Nat.lt_succ_of_lt lt)]
 exact Heap.get?_push_of_some _ (keep _ _ e)
theorem WN {l:List (Int×V)}{Kx:V→Prop}(h:cH l Kx):l.length≤1∧Kx (.lst .sh (l.map fun x=>.int x.1)):=by
 cases l with
 | nil=>exact⟨Nat.zero_le _,h⟩
 | cons x r=>exact De (M:=fun r=>(x::r).length≤1∧Kx (.lst .sh ((x::r).map fun (x:Int×V)=>.int x.1))) h fun h=>⟨Nat.le_refl _,h⟩
theorem VZ {B:PM}{ks:List Int}{vs:List Value}(h:IntsAre vs ks):RL T.toTab B (ks.map V.int) vs []:=by
 induction h with
 | nil=>exact⟨⟩
 | cons n t r ih=>exact RL.consN RV.ofInt ih
theorem SU (Sa:Ac T K):Bi w T K .sorted (.builtin "sorted"):=fun {xs Kx B vs R s n A Q Er} W rl ok I a post=>by
 obtain⟨x,v,W,r⟩:=FF W rl
 obtain⟨o,l,W,z,nd,ad,es,m,ba,rd⟩:=Mz W r
 obtain⟨hl,W⟩:=WN W
 obtain⟨kvs,rp,ps⟩:=rd.pairs w
 have nd':(kvs.map (·.1)).Nodup:=by rw [rp.keys];exact nd
 have ln:kvs.length=l.length:=by rw [←List.length_map,rp.keys,List.length_map]
 refine Nw (kvs:=kvs) (ep:=m) a.handled (ln▸hl) ⟨_,es,I.base _ _ ba,⟨rfl,rfl,rfl⟩,rfl,(fun e he=>by obtain⟨k,t,e1,e2⟩:=rd.keys e (by simpa using he);exact⟨k,by rw [e1];exact beq_self_eq_true k,e2⟩),ps,nd'⟩ (Ej Sa ok ba rd) (Heap.lt_size (I.base _ _ ba)) fun h' tk b us c g gn hI keep=>?_
 rw [rp.keys] at hI
 have rl:=VZ (T:=T) (B:=B) hI
 rw [List.map_map] at rl
 exact post B (.lst .sh (l.map fun (x:Int×V)=>.int x.1)) [(b,AD us c)] _ _ (PM.le.refl B) W (Hp (by rw [List.length_map];exact z) rl) (I.new keep gn g) ⟨rfl,rfl⟩
theorem P7:isSubtype (.type "int") (.type "int")=pure true:=by rw [isSubtype_type];kernel_rfl
theorem OB:isSubtype (.type "int") (.type "bool")=pure false:=by rw [isSubtype_type];kernel_rfl
theorem P5:isSubtype (.type "str") (.type "str")=pure true:=by rw [isSubtype_type];kernel_rfl
theorem Il:isSubtype (.type "bytes") (.type "bytes")=pure true:=by rw [isSubtype_type];kernel_rfl
structure SF (k:DA)(c:String):Prop where
 ok:∀{w:World} {T:Tabs} {x:V} {Kx:V→Prop} {B:PM} {v:Value} {R:HP} {s:Shared} {n:Nat} {A:Around} {Q:Value→Shared→Prop} {Er:Value→Shared→Prop},
  Qr k [x] Kx→RV T.toTab B x v []→Inv B s.heap R→Hf w T B R s Kx Q→wpAny (model pw w) A (call (.builtin "isinstance") [v,.type c]) Q Er s
theorem Yq:SF .isint "int":=⟨fun {w T x Kx B v R s n A Q Er} W r I post=>by
 obtain⟨_,t,W⟩:=AZ (f:=fun _=>Kx (.bool true)) W r
 exact call_isinstance_yes (typeIs_int _ _ _) PySem.F.isi_meta_int P7 (post B _ [] _ _ (PM.le.refl B) W ⟨⟩ I (AO.refl s))⟩
theorem is_bool:SF .isbool "bool":=⟨fun {w T x Kx B v R s n A Q Er} W r I post=>by
 obtain⟨_,t,W⟩:=AZ (f:=fun _=>Kx (.bool false)) W r
 exact call_isinstance (isinstance_false_int (by decide) PySem.F.isi_meta_bool OB) (post B _ [] _ _ (PM.le.refl B) W ⟨⟩ I ⟨rfl,rfl⟩)⟩
theorem Y8:SF .isstr "str":=⟨fun {w T x Kx B v R s n A Q Er} W r I post=>by
 obtain⟨_,t,W⟩:=IZ (f:=fun _=>Kx (.bool true)) W r
 exact call_isinstance_yes (typeIs_str _ _ _) PySem.F.isi_meta_str P5 (post B _ [] _ _ (PM.le.refl B) W ⟨⟩ I (AO.refl s))⟩
theorem SM:SF .istuple "tuple":=⟨fun {w T x Kx B v R s n A Q Er} W r I post=>by
 obtain⟨_,W,z,ad,us,m,ba,rl⟩:=Fx (f:=fun _=>Kx (.bool true)) W r
 exact call_isinstance_yes ⟨_,I.base _ _ ba,rfl⟩ PySem.F.isi_meta_tuple PySem.F.isi_sub_tuple (post B _ [] _ _ (PM.le.refl B) W ⟨⟩ I (AO.refl s))⟩
theorem Pi {b:Array UInt8}{t:Tok}{tp:Addr}{ds cs:List Value}(eds:ds=Value.type "bytes"::cs):Meets (Builtin.«isinstance» ⟨[.bytes b t,.ref tp],[]⟩)
  (fun _ R s=>s.heap.get? tp=some { cls:=.type "tuple",data:=.seq ds.toArray }∧∀tk',R (.ok (.ret (.bool true))) { s with toks:=tk' }):=fun prog w A R s hs=>by
 obtain⟨htp,hq⟩:=hs
 refine isinstance_outer (x:=.bytes b t) ?_ (by intro e;cases e)
 obtain⟨h,g,d,tk,os⟩:=s
 have hT:(⟨h,g,d,tk,os⟩:Shared).TypeIs (.bytes b t) "bytes":=PySem.W.typeIs_bytes _ _ _
 have hT2:(⟨h,g,d,tk,os⟩:Shared).TypeIs (.ref tp) "tuple":=⟨_,htp,rfl⟩
 have f1:=PySem.F.isi_sub_tuple
 repeat (any_goals (first | assumption | wp_step))
 refine wpAny_arrayLoop ?_
 simp only [Option.getD_some,List.toList_toArray]
 rw [eds,List.forIn_cons]
 refine wpAny_bind (wpAny_bind (call_function_meets PySem.F.kind_isinstance_nested PySem.F.plain_isinstance_nested PySem.F.entry_isinstance_nested (PySem.F.args_isinstance_nested_3 _ _ _) (S:=fun _ R s=>s.TypeIs (.bytes b t) "bytes"∧R (.ok (.ret (.bool true))) s) ?_ ⟨PySem.W.typeIs_bytes _ _ _,?_⟩))
 ·exact fun _ _ _ _ _ hs=>isinstance_nested_true rfl hs.1 PySem.F.isi_meta_bytes Il hs.2
 ·show wpAny _ _ (truthy (.bool true) >>= _) _ _ _
  refine wpAny_bind (m:=truthy (.bool true)) (wpAny_pure ?_)
  refine wpAny_bind (wpAny_pure (wpAny_pure (wpAny_pure ?_)))
  repeat (any_goals (first | assumption | wp_step))
  exact hq _
theorem RR {A:Around}{s:Shared}{Q:Value→Shared→Prop}{E:Value→Shared→Prop}{b:Array UInt8}{t:Tok}{tp:Addr}{cs:List Value}(htp:s.heap.get? tp=some { cls:=.type "tuple",data:=.seq (Value.type "bytes"::cs).toArray })
  (hq:∀tk',Q (.bool true) { s with toks:=tk' }):wpAny (model pw w) A (call (.builtin "isinstance") [.bytes b t,.ref tp]) Q E s:=
 call_isinstance (Pi rfl) ⟨htp,hq⟩
section
variable {Φ:Nat→List V→(V→List V→Prop)→Prop}{n:Nat}{nm:Nat→Option Str}{pins:List Nat}{fr:A8 w T env nm pins}
theorem Dd (Sa:Ac T K){k:DA}{c:String}{x:Str}(hp:SF k c)(hu:x∈RM)(hb:bootBuiltins x=some (.type c))(hd:(x==("__debug__":Str))=false)(hgx:fr.isG x=true)(hgi:fr.isG "isinstance"=true)
  {y:E} {e:Expr} {p p2 pos:Pos} (hs:AH e=true) (hy:AK Φ K n fr y e):
  AK Φ K n fr (.prim k (.cons y .nil)) (.Call (.Name "isinstance" p) [e,.Name x p2] [] pos):=fun Kx B σ hp0 F s A Q Er W st ok I ak post=>by
 refine wpAny_Call_NameR (Aa Sa fr (ok.into I) hgi (by decide +kernel) (by decide +kernel) (v:=.builtin "isinstance") (by kernel_rfl) (J8 (by rw [List.all_cons,hs];rfl) ?_))
 rw [AW hs]
 refine Calls.spliced_cons (hy.fz W st ok I ak fun B1 x1 σ1 hp1 u s1 le1 W1 nx r1 st1 ok1 I1 rs1=>?_)
 refine Calls.spliced_cons (Aa Sa fr (ok1.into I1) hgx hd hu hb ?_)
 refine Calls.spliced_nil ?_
 exact hp.ok (n:=n) (show Qr k [x1] (fun z=>Kx z σ1) from W1) r1 I1 ((post.weak le1 rs1).toV st1)
theorem P8 (Sa:Ac T K)(hgi:fr.isG "isinstance"=true)(h1:fr.isG "bytes"=true)(h2:fr.isG "bytearray"=true)(h3:fr.isG "list"=true)(h4:fr.isG "tuple"=true)
  {y:E} {e:Expr} {p p1 p2 p3 p4 p5 pos:Pos} {k:Nat} (hs:AH e=true) (hy:AK Φ K n fr y e):
  AK Φ K n fr (.prim .isoctets (.cons y .nil)) (.Call (.Name "isinstance" p) [e,.Tuple [.Name "bytes" p1,.Name "bytearray" p2,.Name "list" p3,.Name "tuple" p4] k p5] [] pos):=fun Kx B σ hp0 F s A Q Er W st ok I ak post=>by
 refine wpAny_Call_NameR (Aa Sa fr (ok.into I) hgi (by decide +kernel) (by decide +kernel) (v:=.builtin "isinstance") (by kernel_rfl) (J8 (by rw [List.all_cons,hs];rfl) ?_))
 rw [AW hs]
 refine Calls.spliced_cons (hy.fz W st ok I ak fun B1 x1 σ1 hp1 u s1 le1 W1 nx r1 st1 ok1 I1 rs1=>?_)
 refine Calls.spliced_cons (wpAny_Tuple (k:=k) ?_)
 refine Calls.spliced_cons (Aa Sa fr (ok1.into I1) h1 (by decide +kernel) (by decide +kernel) (v:=.type "bytes") (by kernel_rfl) ?_)
 refine Calls.spliced_cons (Aa Sa fr (ok1.into I1) h2 (by decide +kernel) (by decide +kernel) (v:=.type "bytearray") (by kernel_rfl) ?_)
 refine Calls.spliced_cons (Aa Sa fr (ok1.into I1) h3 (by decide +kernel) (by decide +kernel) (v:=.type "list") (by kernel_rfl) ?_)
 refine Calls.spliced_cons (Aa Sa fr (ok1.into I1) h4 (by decide +kernel) (by decide +kernel) (v:=.type "tuple") (by kernel_rfl) ?_)
 refine Calls.spliced_nil ⟨by rw [sizeLine_eq];decide,Calls.spliced_nil ?_⟩
 obtain⟨b,t,W1⟩:=G8 (f:=fun _=>(fun z=>Kx z σ1) (.bool true)) W1 r1
 refine RR (Heap.get?_push_size _ rfl) fun tk'=>?_
 exact post B1 (.bool true) σ1 [] hp1 _ _ le1 W1 ⟨⟩ st1 (I1.keep fun a o e=>Heap.get?_push_of_some _ e) ⟨rs1.gens,rs1.os⟩
end
section
variable {Φ:Nat→List V→(V→List V→Prop)→Prop}{n:Nat}{nm:Nat→Option Str}{pins:List Nat}{fr:A8 w T env nm pins}
theorem UR (Sa:Ac T K){p:Pt}{e:Expr}{p1 pos:Pos}(mp:mP T nm p e=true)(hs:AH e=true)(hg:fr.isG "len"=true):AK Φ K n fr (.lenP p) (.Call (.Name "len" p1) [e] [] pos):=fun Kx B σ hp F s A Q Er W st ok I ak post=>by
 have zl:sizeLine=2 ^ 24:=sizeLine_eq
 obtain⟨x,g,W⟩:=AF W
 obtain⟨m,em,W⟩:=AF W
 obtain⟨v,⟨h1,h2,pp,r,back⟩,ev⟩:=Ak fr Sa st ok I mp g
 refine wpAny_Call_NameR (Aa Sa fr (ok.into I) hg (by decide +kernel) (by decide +kernel) (v:=.builtin "len") (by kernel_rfl) (J8 (Cd hs) ?_))
 rw [AW hs]
 refine Calls.spliced_cons ?_
 have hn:nh x=true:=by cases x <;> first | rfl | exact nn em
 refine ev hn A s _ Er rfl fun t=>?_
 refine Calls.spliced_nil ?_
 have I0:Inv B s.heap (h1++(h2++F)):=I.perm (Ag pp)
 have fin:∀t u,Q (.int m u) { s with toks:=t }:=fun t u=>post B (.int m) σ [] hp _ { s with toks:=t } (PM.le.refl B) W RV.ofInt st I ⟨rfl,rfl⟩
 cases x with
 | lst o l=>
  cases em
  obtain⟨z,a,vs,k,hl,ow,rl⟩:=r
  have ln:vs.size=l.length:=rl.len
  refine PyProof.Rows.len_list (s:={ s with toks:=t }) ⟨_,L9 I0 ow (fun p hp=>List.mem_append_left _ hp),rfl,_,rfl⟩ (by lia) ?_
  rw [ln]
  exact fin _ _
 | tup l=>
  cases em
  obtain⟨z,ad,vs,k,ba,rl⟩:=r
  have ln:vs.size=l.length:=rl.len
  refine PyProof.Rows.len_tuple (s:={ s with toks:=t }) ⟨_,I0.base _ _ ba,rfl,_,rfl⟩ (by lia) ?_
  rw [ln]
  exact fin _ _
 | str l=>
  obtain⟨hz,e⟩:=Ii em
  subst e
  obtain⟨t'⟩:=r
  have sl:=str_len l
  refine P.len_str (by lia) ?_
  rw [sl]
  exact fin _ _
 | bytes l=>
  obtain⟨hz,e⟩:=Ii em
  subst e
  obtain⟨b,t',hb⟩:=r
  have sl:=HU hb
  refine PySem.W.len_bytes (by lia) ?_
  rw [sl]
  exact fin _ _
 | _=>exact nn em
theorem X7 {i:Nat}{x:Str}{pos:Pos}(m:nm i=some x)(hd:(x==("__debug__":Str))=false):AK Φ K n fr (.mv i) (.Name x pos):=fun Kx B σ hp F s A Q Er W st ok I a post=>by
 obtain⟨y,g,W⟩:=AF W
 obtain⟨v,h1,h2,pp,r,ld,-,st2⟩:=fr.load st g (fun e=>by subst e;exact W) m
 refine wpAny_Name (ld A F s _ Er I ?_) hd
 exact post B y _ h1 h2 v s (PM.le.refl B) (PQ W) r st2 (I.perm (Ag pp)) (AO.refl s)
theorem Zr (a:Value):argsOk "enumerate.__new__" ⟨[.type "enumerate",a],[]⟩:=by unfold argsOk;kernel_rfl
end
noncomputable abbrev EY (d:Addr)(i n ep:Nat)(ok ov:Value):Obj:={ cls:=.type "dict_itemiterator",dict:=none,data:=.fields #[.none,.bool false,.ref d,.int i 0,.int n 0,.int ep 0,ok,ov],slots:=#[] }
noncomputable abbrev GK (d:Addr)(i n ep:Nat)(ok ov:Value)(t:Addr):Obj:={ cls:=.type "dict_itemiterator",dict:=none,data:=.fields #[rawInt t,.bool false,.ref d,.int i 0,.int n 0,.int ep 0,ok,ov],slots:=#[] }
theorem Mt {B:PM}{h h':Heap}{I:Addr}{o o':Obj}{F:HP}(Iv:Inv B h ([(I,o)]++F))(g:h'.get? I=some o')(keep:∀b ob,b≠I→h.get? b=some ob→h'.get? b=some ob):Inv B h' ([(I,o')]++F):=by
 have nd:=Iv.nd
 rw [show ([(I,o)]++F).map (·.1)=I::F.map (·.1) from rfl,List.nodup_cons] at nd
 have offI:B I=none:=Iv.off (I,o) (.head _)
 refine⟨fun a ob h=>keep a ob (fun e=>by subst e;rw [h] at offI;cases offI) (Iv.base a ob h),fun q hq=>?_,fun q hq=>?_,?_⟩
 ·rcases List.mem_cons.mp hq with rfl | hq
  ·exact g
  ·exact keep _ _ (fun e=>nd.1 (List.mem_map.mpr ⟨q,hq,e⟩)) (Iv.own q (List.mem_append_right _ hq))
 ·rcases List.mem_cons.mp hq with rfl | hq
  ·exact offI
  ·exact Iv.off q (List.mem_append_right _ hq)
 ·show (I::F.map (·.1)).Nodup
  rw [List.nodup_cons];exact nd
theorem Fu {B:PM}{h h':Heap}{I:Addr}{o:Obj}{F:HP}(Iv:Inv B h ([(I,o)]++F))(keep:∀b ob,b≠I→h.get? b=some ob→h'.get? b=some ob):Inv B h' F:=by
 have nd:=Iv.nd
 rw [show ([(I,o)]++F).map (·.1)=I::F.map (·.1) from rfl,List.nodup_cons] at nd
 have offI:B I=none:=Iv.off (I,o) (.head _)
 exact⟨fun a ob h=>keep a ob (fun e=>by subst e;rw [h] at offI;cases offI) (Iv.base a ob h),
  fun q hq=>keep _ _ (fun e=>nd.1 (List.mem_map.mpr ⟨q,hq,e⟩)) (Iv.own q (List.mem_append_right _ hq)),fun q hq=>Iv.off q (List.mem_append_right _ hq),nd.2⟩
theorem V1 {B:PM}{h':Heap}{t:Addr}{o:Obj}{F:HP}(Iv:Inv B h' F)(hB:B t=none)(nF:t∉F.map (·.1))(g:h'.get? t=some o):Inv B h' ([(t,o)]++F):=by
 refine⟨Iv.base,fun q hq=>?_,fun q hq=>?_,?_⟩
 ·rcases List.mem_cons.mp hq with rfl | hq
  ·exact g
  ·exact Iv.own q hq
 ·rcases List.mem_cons.mp hq with rfl | hq
  ·exact hB
  ·exact Iv.off q hq
 ·show (t::F.map (·.1)).Nodup
  rw [List.nodup_cons];exact⟨nF,Iv.nd⟩
theorem Ug {A:Around}(hh:A.handled=none){I d:Addr}{es:Array DictEntry}{m:Nat}{B:PM}{l:List (Int×V)}{kvs:List (Int×Value)}(ba:B d=some (AV es m))(ne:d≠I)
  (da:∀h:Heap,h.get? d=some (AV es m)→h.DictAt (intKind pw w) d kvs m) (rk:∀(i:Nat) (k:Int) (v:Value),kvs[i]?=some (k,v)→∃x,l[i]?=some (k,x)∧RV T.toTab B x v []) (hl:kvs.length=l.length):
  Kk w T A I false true B (l.map fun x=>.tup [.int x.1,x.2]) (fun i hp=>∃ok ov,hp=[(I,EY d i kvs.length m ok ov)]) (fun i v hp=>∃t ok ov,v=.ref t∧hp=[(I,GK d (i+1) kvs.length m ok ov t)]) where
 step:=fun i x B1 hp F s Q E le hx ⟨ok,ov,e⟩ Iv k=>by
  subst e
  have gI:s.heap.get? I=some (EY d i kvs.length m ok ov):=Iv.own (I,_) (.head _)
  have D:=da s.heap (Iv.base _ _ (le _ _ ba))
  rw [List.getElem?_map] at hx
  obtain⟨kv,e1⟩:∃kv,kvs[i]?=some kv:=by
   cases e:kvs[i]? with
   | some kv=>exact⟨kv,rfl⟩
   | none=>
    have:l[i]?=none:=by rw [List.getElem?_eq_none_iff] at e ⊢;lia
    rw [this] at hx;cases hx
  obtain⟨kk,vv⟩:=kv
  obtain⟨y,e2,ry⟩:=rk i kk vv e1
  rw [e2] at hx
  cases hx
  refine wpAny_pyNext_items_item gI D e1 fun key h' hkey heo ht hz keep=>?_
  obtain⟨tk,e⟩:=O7 hkey
  subst e
  have I1:=Mt Iv (o':=GK d (i+1) kvs.length m (.int kk tk) vv s.heap.objs.size) heo (fun b ob hb e=>keep b ob hb e)
  have fresh:s.heap.get? s.heap.objs.size=none:=by
   cases q:s.heap.get? s.heap.objs.size with
   | none=>rfl
   | some o=>exact (Nat.lt_irrefl _ (Heap.lt_size q)).elim
  have hB:B1 s.heap.objs.size=none:=by
   cases q:B1 s.heap.objs.size with
   | none=>rfl
   | some o=>rw [Iv.base _ _ q] at fresh;cases fresh
  have nF:s.heap.objs.size∉([(I,GK d (i+1) kvs.length m (.int kk tk) vv s.heap.objs.size)]++F).map (·.1):=by
   intro hm
   rcases List.mem_cons.mp hm with h | h
   ·have:=Heap.lt_size gI
    rw [←show s.heap.objs.size=I from h] at this
    exact Nat.lt_irrefl _ this
   ·obtain⟨q,hq,e⟩:=List.mem_map.mp h
    have:=Iv.own q (List.mem_append_right _ hq)
    rw [e,fresh] at this
    cases this
  have I2:=V1 I1 hB nF ht
  have I3:=I2.freeze
  have I4:=Inv.left (hp:=[(s.heap.objs.size,_)]) I2
  have le3:=Cy I4
  refine k _ (.ref s.heap.objs.size) [(I,GK d (i+1) kvs.length m (.int kk tk) vv s.heap.objs.size)] _ le3 ?_ ⟨_,_,_,rfl,rfl⟩ I3 ⟨rfl,rfl⟩
  refine IsT.mk (by show 2≤sizeLine;rw [sizeLine_eq];decide) _ #[.int kk tk,vv] 0 (DS I4 _ (.head _)) ?_
  exact RL.consN RV.ofInt (RL.consN (ry.mono (le.trans le3)) ⟨⟩)
 done:=fun B1 hp F s Q E le ⟨ok,ov,e⟩ Iv k=>by
  subst e
  have gI:s.heap.get? I=some (EY d (l.map fun x=>V.tup [.int x.1,x.2]).length kvs.length m ok ov):=Iv.own (I,_) (.head _)
  have D:=da s.heap (Iv.base _ _ (le _ _ ba))
  refine wpAny_pyNext_items_end hh gI D (by rw [List.length_map,←hl];simp) fun h' keep=>?_
  exact k _ (Fu Iv (fun b ob hb e=>keep b ob hb e)) ⟨rfl,rfl⟩
 self:=fun i B1 hp F s Q E le ⟨ok,ov,e⟩ Iv k=>by
  subst e
  have gI:s.heap.get? I=some (EY d i kvs.length m ok ov):=Iv.own (I,_) (.head _)
  have hT:s.TypeIs (.ref I) "dict_itemiterator":=⟨_,gI,rfl⟩
  refine wpAny_pyIter_slot hT PySem.F.slot_dict_itemiterator_iter (wpAny_call_entry PySem.F.slot_dict_itemiterator_iter hT (b:=Builtin.«dict_keyiterator.__iter__») (entryFor_alias (id' := "dict_keyiterator.__iter__") (by kernel_rfl) (by first | rfl | decide +kernel) (by decide +kernel) (by kernel_rfl)) ?_ (by unfold argsOk;kernel_rfl))
  show wpAny _ _ (ret (.ref I)) _ _ s
  exact wpAny_pure ⟨_,rfl,"dict_itemiterator",_,hT,PySem.F.slot_dict_itemiterator_next.lookup,k⟩
 mid:=fun h=>by cases h
 go:=fun _ i v te x1 pos B1 hp F s Q E le ⟨t,ok,ov,ev,e⟩ Iv k=>by
  subst ev e
  have gI:s.heap.get? I=some (GK d (i+1) kvs.length m ok ov t):=Iv.own (I,_) (.head _)
  refine wpAny_letOwnedTupleGo_items gI fun h' g same=>?_
  exact k [(I,EY d (i+1) kvs.length m ok ov)] _ ⟨ok,ov,rfl⟩ (Mt Iv g fun b ob hb e=>(same.2 b hb).trans e) ⟨rfl,rfl⟩
inductive bz (T:Tab)(B:PM)(l:List (Int×V))(h:Heap):Value→Prop
 | mk (a:Addr) (es:Array DictEntry) (n:Nat) (g:h.get? a=some (AV es n)) (rd:RD T B l es.toList) (ns:(a==sysModules)=false):bz T B l h (.ref a)
theorem Pb {B:PM}{o:Bool}{l:List (Int×V)}{v:Value}{h1 F:HP}{h:Heap}(Sa:Ac T K)(ok:Bk K B)(r:RV T.toTab B (.dct o l) v h1)(I:Inv B h (h1++F)):bz T.toTab B l h v:=by
 obtain⟨a,es,n,ow,rd,nd,z⟩:=r
 cases o with
 | false=>exact⟨a,es,n,I.base _ _ ow.2,rd,Ej Sa ok ow.2 rd⟩
 | true=>
  cases (show h1=_ from ow)
  refine⟨a,es,n,I.own (a,AV es n) (.head _),rd,?_⟩
  cases q:a==sysModules with
  | false=>rfl
  | true=>
   cases beq_iff_eq.mp q
   obtain⟨ob,e⟩:=Option.isSome_iff_exists.mp Sa.sysb
   exact nn ((I.off (sysModules,AV es n) (.head _)).symm.trans (ok _ _ e))
theorem Look.getD {B:PM}{a:Option V}{b:Option Value}{d:V}{dv:Value}(h:Look T.toTab B a b)(r:RV T.toTab B d dv []):RV T.toTab B (a.getD d) (b.getD dv) []:=by
 cases h with
 | some x v rx=>exact rx
 | none=>exact r
theorem RD.getD {B:PM}{l:List (Int×V)}{es:Array DictEntry}(rd:RD T.toTab B l es.toList){d:V}{dv:Value}(rdv:RV T.toTab B d dv [])(i:Int):RV T.toTab B ((Du l i).getD d) ((findBy Value.isInt es i).getD dv) []:=by
 rw [EC];exact (rd.look i).getD rdv
theorem RP.get {B:PM}:∀{l:List (Int×V)} {kvs:List (Int×Value)},RP T B l kvs→∀{i:Nat} {k:Int} {v:Value},kvs[i]?=some (k,v)→∃x,l[i]?=some (k,x)∧RV T.toTab B x v []
 | [],kvs,r,i,k,v,h=>by cases r;cases h
 | (k0,x)::l,kvs,r,i,k,v,h=>by
  obtain⟨u,kvs',e,rx,rl⟩:=r
  subst e
  cases i with
  | zero=>cases h;exact⟨x,rfl,rx⟩
  | succ i=>exact RP.get rl (i:=i) h
section
variable {Φ:Nat→List V→(V→List V→Prop)→Prop}{n:Nat}{nm:Nat→Option Str}{pins:List Nat}{fr:A8 w T env nm pins}
theorem Im {o:Expr}{name:Str}{id:String}{apos pos:Pos}{es:List Expr}{A:Around}{s:Shared}{Q:Value→Shared→Prop}{Er:Value→Shared→Prop}(slot:Slot "dict" name id)(ty:typeOf (.builtin id)=pure (.type "method_descriptor"))
  (hbase:attributeBase o name env (eval o env)=eval o env) (hs:es.all AH=true) (hf:es.length < 30) (hline:(apos.endLine==pos.line)=true)
  (h:wpAny (model pw w) A (eval o env) (fun ov s₁=>∃a vs n,ov=.ref a∧s₁.heap.get? a=some (AV vs n)∧wpAny (model pw w) A (callWith pos (.builtin id) [ov] (backTo pos (starEach es env)) []) Q Er s₁) Er s):
  wpAny (model pw w) A (eval (.Call (.Attribute o name apos) es [] pos) env) Q Er s:=by
 refine wpAny_Call_method_late hbase ?_ hline rfl (wpAny_mono h (fun ov s₁ h₁=>?_) fun _ _ x=>x)
 ·show ((backTo pos (starEach es env)).all (fun x=>!x.1)&&true&&decide (es.length+0+0 < 30))=true
  rw [(BY hs).2];simpa using hf
 ·obtain⟨a,vs,n,e,g,h₁⟩:=h₁
  subst e
  exact⟨"dict",id,PySem.F.plainAttrs_dict,slot,ty,⟨_,g,rfl⟩,(fun b e=>by cases e;exact⟨_,g,rfl⟩),h₁⟩
noncomputable def ZG (Φ:Nat→List V→(V→List V→Prop)→Prop)(K:Frag)(n:Nat){nm:Nat→Option Str}{pins:List Nat}(fr:A8 w T env nm pins)(k d:E)(es:List Expr):Prop:=
 ∀(Kx:Int→V→List V→Prop) (B:PM) (σ:List V) (hp F:HP) (s:Shared) (A:Around) (pos:Pos) (a:Addr) (Q:Value→Shared→Prop) (Er:Value→Shared→Prop),
  WE T Φ k σ (fun k σ=>BM k fun i=>WE T Φ d σ fun d σ=>Cq d fun d=>Kx i d σ)→fr.ST B σ hp→Bk K B→Inv B s.heap (hp++F)→J4 n A→(a==sysModules)=false→
  (∀B' i d σ' hp' dv s',B.le B'→Kx i d σ'→RV T.toTab B' d dv []→fr.ST B' σ' hp'→Bk K B'→Inv B' s'.heap (hp'++F)→AO s s'→∃es n,s'.heap.get? a=some (AV es n)∧(∃l,RD T.toTab B' l es.toList)∧∀tk,Q ((findBy Value.isInt es i).getD dv) { s' with toks:=tk })→
  wpAny (model pw w) A (callWith pos (.builtin "dict.get") [.ref a] (backTo pos (starEach es env)) []) Q Er s
theorem aA {k:E}{e:Expr}(hs:AH e=true)(hk:AK Φ K n fr k e):ZG Φ K n fr k .none [e]:=fun Kx B σ hp F s A pos a Q Er W st ok I ak ns post=>by
 rw [AW hs]
 refine wpAny_dict_get1 (knd:=intKind pw w) ns ?_
 refine hk _ B σ hp F s A _ Er W st ok I ak fun B1 x σ1 h1 hp1 v s1 le1 W1 r1 st1 I1 rs1=>?_
 have ok1:=ok.mono le1
 obtain⟨i,t,W1⟩:=AZ W1 r1
 obtain⟨es,m,g,⟨l,rd⟩,q⟩:=post B1 i .none σ1 hp1 .none s1 le1 W1 ⟨⟩ st1 ok1 I1 rs1
 exact⟨i,_,beq_self_eq_true i,rd.mapOf w g,q _⟩
theorem aL {k d:E}{e e2:Expr}(hs:AH e=true)(hs2:AH e2=true)(hk:AK Φ K n fr k e)(hd:AK Φ K n fr d e2):ZG Φ K n fr k d [e,e2]:=fun Kx B σ hp F s A pos a Q Er W st ok I ak ns post=>by
 rw [AW hs,AW hs2]
 refine wpAny_dict_get2 (knd:=intKind pw w) ns ?_
 refine hk _ B σ hp F s A _ Er W st ok I ak fun B1 x σ1 h1 hp1 v s1 le1 W1 r1 st1 I1 rs1=>?_
 have ok1:=ok.mono le1
 obtain⟨i,t,W1⟩:=AZ W1 r1
 refine hd.fz W1 st1 ok1 I1 ak fun B2 y σ2 hp2 u s2 le2 W2 nx r2 st2 ok2 I2 rs2=>?_
 obtain⟨es,m,g,⟨l,rd⟩,q⟩:=post B2 i y σ2 hp2 u s2 (le1.trans le2) W2 r2 st2 ok2 I2 (rs1.trans rs2)
 exact⟨i,_,beq_self_eq_true i,rd.mapOf w g,q _⟩
theorem On (Sa:Ac T K){p:Pt}{k d:E}{o:Expr}{es:List Expr}{apos pos:Pos}(mp:mP T nm p o=true)(hs:es.all AH=true)(hf:es.length < 30)(hline:(apos.endLine==pos.line)=true)(hk:ZG Φ K n fr k d es):
  AK Φ K n fr (.dget p k d) (.Call (.Attribute o "get" apos) es [] pos):=fun Kx B σ hp F s A Q Er W st ok I ak post=>by
 obtain⟨oo,t,g,W⟩:=Un W
 cases oo with
 | false=>
  obtain⟨v,⟨h1,h2,pp,r,back⟩,ev⟩:=Ak fr Sa st ok I mp g
  refine Im PySem.F.slot_dict_get PySem.F.type_dict_get (Bm mp _) hs hf hline (ev rfl A s _ Er rfl fun tk=>?_)
  cases r.fz_nil rfl
  obtain⟨_,t',e,z,nd,a,ds,m,ba,rd⟩:=Gd r
  subst e
  refine⟨a,ds,m,rfl,I.base _ _ ba,?_⟩
  refine hk _ B σ hp F { s with toks:=tk } A pos a _ Er W st ok I ak (Ej Sa ok ba rd) fun B1 i y σ1 hp1 dv s1 le1 W1 ry st1 ok1 I1 rs1=>?_
  refine⟨ds,m,I1.base _ _ (le1 _ _ ba),⟨t',rd.mono le1⟩,fun tk=>?_⟩
  exact post B1 _ σ1 [] hp1 _ { s1 with toks:=tk } le1 W1 ((rd.mono le1).getD ry i) st1 I1 ⟨rs1.gens,rs1.os⟩
 | true=>
  obtain⟨v,h1,hp1,σ1,W,r,st1,I1,ev⟩:=MU Sa st ok I mp g W
  refine Im PySem.F.slot_dict_get PySem.F.type_dict_get (Bm mp _) hs hf hline (ev rfl A s _ Er rfl fun tk=>?_)
  have r0:=r
  obtain⟨a,ds,m,ga,rd,ns⟩:=Pb Sa ok r0 (I1.perm (AC (.refl _)))
  refine⟨a,ds,m,rfl,ga,?_⟩
  refine hk _ B σ1 hp1 (h1++F) { s with toks:=tk } A pos a _ Er W st1 ok I1 ak ns fun B1 i y σ2 hp2 dv s1 le1 W1 ry st2 ok2 I2 rs1=>?_
  have I3:Inv B1 s1.heap (h1++(hp2++F)):=I2.perm (AC (.refl _))
  have r1:=r.mono le1
  obtain⟨σ3,hp3,q3,st3,I5⟩:=DZ Sa W1 mp st2 ok2 r1 I3
  have z:=Pb Sa ok2 r1 I3
  cases z with
  | mk _ ds2 m2 ga2 rd2 _=>
  refine⟨ds2,m2,ga2,⟨t,rd2⟩,fun tk=>?_⟩
  exact post B1 _ σ3 [] hp3 _ { s1 with toks:=tk } le1 q3 (rd2.getD ry i) st3 I5 ⟨rs1.gens,rs1.os⟩
theorem Rs (Sa:Ac T K){p:Pt}{o:Expr}{apos pos:Pos}(mp:mP T nm p o=true)(hline:(apos.endLine==pos.line)=true):Ex Φ K n fr false true (.items p) (.Call (.Attribute o "items" apos) [] [] pos):=fun Kx B σ hp F s A Q Er W st ok I ak post=>by
 obtain⟨oo,t,g,W⟩:=Un W
 cases oo with
 | true=>exact W.elim
 | false=>
 obtain⟨v,⟨h1,h2,pp,r,back⟩,ev⟩:=Ak fr Sa st ok I mp g
 refine Im PySem.F.slot_dict_items PySem.F.type_dict_items (Bm mp _) rfl (by decide) hline (ev rfl A s _ Er rfl fun tk=>?_)
 cases r.fz_nil rfl
 obtain⟨_,t',e,z,nd,a,es,m,ba,rd⟩:=Gd r
 subst e
 refine⟨a,es,m,rfl,I.base _ _ ba,J8 rfl (Calls.spliced_nil ?_)⟩
 obtain⟨kvs,rp,ps⟩:=rd.pairs w
 have nd':(kvs.map (·.1)).Nodup:=by rw [rp.keys];exact nd
 have ln:kvs.length=t'.length:=by rw [←List.length_map,rp.keys,List.length_map]
 have da:∀h:Heap,h.get? a=some (AV es m)→h.DictAt (intKind pw w) a kvs m:=fun h g=>⟨_,es,g,⟨rfl,rfl,rfl⟩,rfl,(fun e he=>by obtain⟨k,t,e1,e2⟩:=rd.keys e (by simpa using he);exact⟨k,by rw [e1];exact beq_self_eq_true k,e2⟩),ps,nd'⟩
 refine call_meetsIn (T := "dict") PySem.F.slot_dict_items ⟨_,I.base _ _ ba,rfl⟩ PySem.F.entry_dict_items (PySem.F.args_dict_items_1 _) (meets_dict_items (intKind pw w) a (Ej Sa ok ba rd)) ⟨⟨kvs,?_⟩,?_⟩
 ·obtain⟨ob,es',hg,h1,h2⟩:=da _ (I.base _ _ ba)
  exact⟨ob,es',m,hg,h1,h2⟩
 have I2:=AY I (o:={ cls:=.type "dict_items",data:=.fields #[.ref a] }) rfl
 refine wpAny_pyIter_items (knd:=intKind pw w) (d:=a) (kvs:=kvs) (ep:=m) ⟨_,Heap.get?_push_size _ rfl,rfl,rfl⟩ (da _ (I2.base _ _ ba)) ?_
 have I3:=AY I2 (o:=EY a 0 kvs.length m .none .none) rfl
 exact post B _ σ hp [(_,EY a 0 kvs.length m .none .none)] _ _ _ _ (PM.le.refl B) W (Ug ak.handled ba (DT I2 ba) da (fun i k v h=>rp.get h) ln) ⟨.none,.none,rfl⟩ st ok (Fu (F:=(_,EY a 0 kvs.length m .none .none)::(hp++F)) (I:=s.heap.objs.size) (I3.perm (List.Perm.swap _ _ _)) fun b ob hb e=>e) ⟨rfl,rfl⟩
end
end
section
open PySem PySem.W PyProof.Rows PySem.Calls
open Hd (pw)
open AutoSeq1 (wpAny_loadPart')
variable {w:World}{T:Tabs}{K:Frag}{env:Env}
theorem HC {A:Around}{s:Shared}{E:Value→Shared→Prop}{it t:Addr}{i:Nat}{items}{Q:Value→Shared→Prop}(hh:A.handled=none)
  (hit:IsTupIter s.heap it t i) (ht:IsTup s.heap t items) (hx:items[i]?=none)
  (hE:∀h' e,Heap.ExtBut it s.heap h'→(∃o,h'.get? e=some o∧o.cls=.type "StopIteration")→E (.ref e) { s with heap:=h' }):
  wpAny (model pw w) A (Builtin.SmallTypes.nextOf (.ref it)) Q E s:=by
 obtain⟨o,ho,hc,hd⟩:=id hit
 obtain⟨ol,hol,_,nl,hdl⟩:=ht
 unfold Builtin.SmallTypes.nextOf
 refine wpAny_bind (wpAny_callSpecial?_slot (name:=Str.ofString "__next__") hit.typeIs slot_tupleiter_next
  (wpAny_call_entry slot_tupleiter_next hit.typeIs entry_tupleiter_next ?_ (args_tupleiter_next _)))
 show wpAny _ _ (field (.ref it) 0 >>= _) _ _ s
 refine wpAny_bind (wpAny_field ho hd (x:=.ref t) rfl ?_)
 show wpAny _ _ (if (Value.ref t==Value.none)=true then _ else _) _ _ s
 rw [if_neg (show ¬ ((Value.ref t==Value.none)=true) from Bool.false_ne_true)]
 show wpAny _ _ (field (.ref it) 1 >>= _) _ _ s
 refine wpAny_bind (wpAny_field ho hd (x:=.int i 0) rfl ?_)
 show wpAny _ _ (seqItems? (.ref t) >>= _) _ _ s
 refine wpAny_bind (wpAny_seqItems hol hdl ?_)
 simp only [Int.toNat_natCast,hx]
 refine wpAny_bind (wpAny_rule (wpAny_bind (wpAny_setField ho hd (by simp) ?_)))
 show wpAny _ _ (newExc (.type "StopIteration") [] >>= _) _ _ _
 refine wpAny_bind ?_
 simp only [newExc,newTuple]
 refine wpAny_bind (wpAny_newObj_type ?_ (by size_fits))
 refine wpAny_bind (m:=firstArgMember _ _) (wpAny_of_eq (a:=Value.none) (by first | rfl | (simp only [firstArgMember];rfl)) ?_)
 refine wpAny_newObj_type ?_ (by size_fits)
 refine wpAny_raiseNew_none hh ?_
 exact hE _ _ (((Heap.SameBut.update ..).extBut.push _).push _) ⟨_,Heap.get?_push_size _ rfl,rfl⟩
theorem QK {A:Around}(hh:A.handled=none)(it t:Addr):
  Draws pw w A it [it,t] 0 (fun _ _=>False) (fun i h=>IsTupIter h it t 0∧IsTup h t #[]) where
 live:=fun _ _ st=>let ⟨o,ho,_⟩:=st.1;⟨o,ho⟩
 frame:=fun _ _ _ st hk=>⟨let ⟨o,ho,r⟩:=st.1;⟨o,hk it (by simp) o ho,r⟩,let ⟨o,ho,r⟩:=st.2;⟨o,hk t (by simp) o ho,r⟩⟩
 item:=fun i s Q E hi=>absurd hi (Nat.not_lt_zero _)
 done:=fun s Q E st hE=>HC hh st.1 st.2 (by simp) hE
theorem WF {prog:Program}{w:World}{A:Around}{f:List (Code×Pos)→Bool}{k:Bool→Shared→Prop}{E E':Value→Shared→Prop}{s:Shared}(h:∀b,k b s):wpAny (model prog w) A stack (fun a s'=>wpAny (model prog w) A (pure (f a)) k E' s') E s:=wpAny_stack_any fun st=>wpAny_pure (h _)
set_option maxHeartbeats 1000000 in
theorem Rc (l:Addr)(items:Array Value)(n:Nat)(dct:Option Addr)(sl:Array (Option Value)):
  Meets (Builtin.«enumerate.__new__» ⟨[.type "enumerate",.ref l],[]⟩) (fun _ R s=>s.heap.get? l=some { cls:=.type "tuple",dict:=dct,data:=.seq items n,slots:=sl }∧
   R (.ok (.ret (.ref (s.heap.push { cls:=.type "tuple_iterator",data:=.fields #[.ref l,.int 0 0] }).objs.size)))
    { s with heap:=(s.heap.push { cls:=.type "tuple_iterator",data:=.fields #[.ref l,.int 0 0] }).push { cls:=.type "enumerate",data:=.fields #[.none,.bool false,.ref s.heap.objs.size,rawInt 0,.none,.none] } }):=
 .of_wp fun prog w A R s h=>by
  obtain⟨hp,g,d,tk,os⟩:=s;obtain⟨hl,h⟩:=h
  have hsub:=sub_enumerate
  have hT:Shared.TypeIs ⟨hp,g,d,tk,os⟩ (.ref l) "tuple":=⟨_,hl,rfl⟩
  have hL:IsTup (Shared.heap ⟨hp,g,d,tk,os⟩) l items:=⟨_,hl,rfl,n,rfl⟩
  wp_walk using wpAny_loadPart hT
  refine WF fun b=>?_
  cases b <;> (wp_walk using iter_tuple hL;exact⟨_,rfl,h⟩)
end
section
open PySem PySem.W PyProof.Rows PySem.Calls
open Hd (pw)
variable {w:World}{T:Tabs}{K:Frag}{env:Env}
noncomputable abbrev S5 (it:Addr):Obj:={ cls:=.type "enumerate",dict:=none,data:=.fields #[.none,.bool false,.ref it,rawInt 0,.none,.none],slots:=#[] }
noncomputable abbrev Lx (a:Addr):Obj:={ cls:=.type "tuple_iterator",data:=.fields #[.ref a,.int 0 0] }
theorem Wq {A:Around}(hh:A.handled=none){I it ax:Addr}{n:Nat}{B:PM}(ba:B ax=some (Bu #[] n)):
  Kk w T A I false true B [] (fun _ hp=>hp=[(I,S5 it),(it,Lx ax)]) (fun _ _ _=>False) where
 step:=fun i x B1 hp F s Q E le hx=>by cases hx
 done:=fun B1 hp F s Q E le e Iv k=>by
  subst e
  have g1:s.heap.get? I=some (S5 it):=Iv.own (I,_) (.head _)
  have g2:s.heap.get? it=some (Lx ax):=Iv.own (it,_) (.tail _ (.head _))
  have g3:=Iv.base _ _ (le _ _ ba)
  refine wpAny_pyNext_enum_endD (QK (A:=A.in1) hh it ax) g1 ⟨⟨_,g2,rfl,rfl⟩,⟨_,g3,rfl,_,rfl⟩⟩ fun h' keep=>?_
  have I1:Inv B1 s.heap ([(it,Lx ax)]++F):=Iv.tail
  exact k _ (Fu I1 fun b ob hb e=>keep b ob hb e) ⟨rfl,rfl⟩
 self:=fun i B1 hp F s Q E le e Iv k=>by
  subst e
  exact wpAny_pyIter_enum (Iv.own (I,_) (.head _)) k
 mid:=fun h=>by cases h
 go:=fun _ i v te x1 pos B1 hp F s Q E le h=>h.elim
section
variable {Φ:Nat→List V→(V→List V→Prop)→Prop}{n:Nat}{nm:Nat→Option Str}{pins:List Nat}{fr:A8 w T env nm pins}
theorem Ul (Sa:Ac T K){x:E}{e:Expr}{p1 pos:Pos}(hg:fr.isG "enumerate"=true)(hs:AH e=true)(hx:AK Φ K n fr x e):Ex Φ K n fr false true (.enum x) (.Call (.Name "enumerate" p1) [e] [] pos):=fun Kx B σ hp F s A Q Er W st ok I ak post=>by
 refine wpAny_Call_NameR (Aa Sa fr (ok.into I) hg (by decide +kernel) (by decide +kernel) (v:=.type "enumerate") (by kernel_rfl) (Qt (by rw [List.all_cons,hs];rfl) ?_))
 rw [AW hs]
 refine Calls.spliced_cons (hx _ B σ hp F s A _ Er W st ok I ak fun B1 y σ1 h1 hp1 v s1 le1 W1 r1 st1 I1 rs1=>?_)
 refine Calls.spliced_nil ?_
 obtain⟨l,W1,z,ad,vs,m,ba,rl⟩:=Fx W1 r1
 revert rl
 refine De W1 fun W1 rl=>?_
 have ev:vs=#[]:=by
  rw [←Array.toList_eq_nil_iff];exact List.eq_nil_of_length_eq_zero rl.len
 subst ev
 refine callType_new PySem.F.called_enumerate (by decide) (PySem.F.typeCall_enumerate_1 _) (PySem.F.newCall_enumerate_1 _) (fun obj=>PySem.F.args_object_init_2 obj _) PySem.F.entry_enumerate_new
   (Rc ad #[] m none #[]) ⟨I1.base _ _ ba,?_⟩
 have I2:=AY I1 (o:=Lx ad) rfl
 have I3:=AY I2 (o:=S5 s1.heap.objs.size) rfl
 refine⟨⟨_,Heap.get?_push_size _ rfl,rfl⟩,wpAny_pyIter_enum (it:=s1.heap.objs.size) (i:=0) (old:=.none) (Heap.get?_push_size _ rfl) ?_⟩
 exact post B1 [] σ1 hp1 [_,_] _ _ _ _ le1 W1 (Wq (it:=s1.heap.objs.size) ak.handled ba) rfl st1 (ok.mono le1) I3 ⟨rs1.gens,rs1.os⟩
end
end
section
open PySem PySem.W PyProof.Rows PySem.Calls
open Hd (pw)
variable {w:World}{T:Tabs}{K:Frag}{env:Env}{ns:List Str}{isG:Str→Bool}{pv:List (Nat×Value)}
theorem VQ (i a:Addr×Obj)(hp2 hA hB F:HP):List.Perm (i::([]++(hp2++((a::(hA++hB))++F)))) ((a::hA)++(hp2++([i]++(hB++F)))):=by (classical refine List.perm_iff_count.mpr fun x=>?_;simp only [List.count_append,List.count_cons,List.count_nil,List.cons_append,List.nil_append];lia)
theorem WI (x a1:HP)(hp' hD hr F:HP):List.Perm (x++(hp'++(hD++((a1++hr)++F)))) (a1++(hp'++(x++(hD++(hr++F))))):=by (classical refine List.perm_iff_count.mpr fun x=>?_;simp only [List.count_append,List.count_cons,List.count_nil,List.cons_append,List.nil_append];lia)
theorem U3 (hp5 g1 g2 ih hD hr F:HP)(q:hp5.Perm (g1++g2)):List.Perm (hp5++(ih++(hD++(hr++F)))) (ih++(g2++((hD++g1)++(hr++F)))):=by
 refine (q.append_right _).trans ?_
 (classical refine List.perm_iff_count.mpr fun x=>?_;simp only [List.count_append,List.count_cons,List.count_nil,List.cons_append,List.nil_append];lia)
theorem Va (hp' h6 h7 g1 hD F hp7:HP)(a:Addr×Obj)(q:hp'.Perm ((a::(g1++[]))++h6))(q7:hp7.Perm ((a::(g1++hD))++h6)):List.Perm (hp'++(hD++([]++F))) (hp7++F):=by
 refine (q.append_right _).trans ((q7.append_right F).trans ?_).symm
 (classical refine List.perm_iff_count.mpr fun x=>?_;simp only [List.count_append,List.count_cons,List.count_nil,List.cons_append,List.nil_append];lia)
inductive Sz (T:Tab)(B:PM)(l m:List V)(vs:List Value)(hp:HP):Prop
 | mk (vs1 vs2:List Value) (g1 g2:HP) (e:vs=vs1++vs2) (eh:hp=g1++g2) (q1:RL T B l vs1 g1) (q2:RL T B m vs2 g2):Sz T B l m vs hp
theorem RL.split2 {B:PM}:∀{l m:List V} {vs:List Value} {hp:HP},RL T.toTab B (l++m) vs hp→Sz T.toTab B l m vs hp
 | [],m,vs,hp,r=>⟨[],vs,[],hp,rfl,rfl,⟨⟩,r⟩
 | x::l,m,vs,hp,r=>by
  obtain⟨v,vs',h1,h2,r1,r2⟩:=r
  obtain⟨vs1,vs2,g1,g2,e,eh,q1,q2⟩:=RL.split2 r2
  exact⟨v::vs1,vs2,h1++g1,g2,congrArg _ e,by rw [eh,List.append_assoc],Qe.mk v vs1 h1 g1 r1 q1,q2⟩
theorem RL.holes {B:PM}:∀vals:List Value,RL T.toTab B (vals.map V.hole) vals []
 | []=>⟨⟩
 | v::vals=>Qe.mk v vals [] [] ⟨⟩ (RL.holes vals)
inductive Xb (vals:List Value):List Value→HP→Prop
 | mk:Xb vals vals []
theorem RL.of_holes {B:PM}:∀{vals vs:List Value} {hp:HP},RL T.toTab B (vals.map V.hole) vs hp→Xb vals vs hp
 | [],vs,hp,r=>by cases r;exact⟨⟩
 | v::vals,vs,hp,r=>by
  obtain⟨u,vs',h1,h2,r1,r2⟩:=r
  obtain⟨⟩:=r1
  obtain⟨⟩:=RL.of_holes r2
  exact⟨⟩
theorem S9 {l:List V}{vs1 vs2:List Value}{c:Nat}(lnA:vs1.length=(l.take c).length)(lnB:vs2.length=(l.drop c).length):(vs1++vs2).drop c=vs2:=by
 rw [List.length_take] at lnA
 rw [List.length_drop] at lnB
 rcases Nat.le_total c l.length with h | h
 ·rw [Nat.min_eq_left h] at lnA
  exact List.drop_left' lnA
 ·have:vs2=[]:=List.eq_nil_of_length_eq_zero (lnB.trans (Nat.sub_eq_zero_of_le h))
  subst this
  rw [List.append_nil]
  exact List.drop_of_length_le (by rw [lnA];exact Nat.min_le_left _ _)
section
variable {Φ:Nat→List V→(V→List V→Prop)→Prop}{n:Nat}
inductive f6 (B2:PM)(n:Nat)(WL:List V→List V→List V→Prop)(St:Nat→HP→Prop)(ST:PM→List V→HP→Prop)(T:Tab)(l:List V)(vs:List Value)(F:HP)(s0:Shared)(m:Nat)(s:Shared):Prop
 | mk (i:Nat) (B:PM) (σ:List V) (hp ih hD hR:HP) (acc:List V) (em:m=n - i) (hil:i≤n) (le:B2.le B) (W:WL (l.drop i) acc σ) (sti:St i ih) (rD:RL T B acc (vs.take i) hD) (rR:RL T B (l.drop i) (vs.drop i) hR) (st:ST B σ hp)
  (I:Inv B s.heap (ih++(hp++(hD++(hR++F))))) (rs:AO s0 s)
theorem UO (V0:DW env ns isG){t:Nat}{b:Ss}{y:Str}{body:List Stmt}{p1:Pos}(hn:ns[t]?=some y)(hp:t∉pv.map (·.1))(hb:∀v,CC Φ K n (AJ (w:=w) (T:=T) ((t,v)::pv) V0) b body)
  {A:Around} {B2:PM} {I:Addr} {St:Nat→HP→Prop} {Mid:Nat→Value→HP→Prop} {tk:Bool} {vs2:List Value} (its:Kk w T A I true tk B2 (vs2.map V.hole) St Mid) (ak:J4 n A) (ok:Bk K B2)
  {R:Result→Shared→Prop} {l:List V} {Kf:List V→List V→Prop} {F:HP} {s0:Shared} (lnB:vs2.length=l.length) {σ:List V} {hp0 ih hR:HP} {s:Shared} (W:PZ (Aj T Φ b) t l [] σ Kf) (st0:St 0 ih) (rR:RL T.toTab B2 l vs2 hR) (st:Dl T env ns pv B2 σ hp0)
  (I0:Inv B2 s.heap (ih++(hp0++(hR++F)))) (rs:AO s0 s) (fin:∀B acc σ hp hD s,B2.le B→Kf acc σ→RL T.toTab B acc vs2 hD→Dl T env ns pv B σ hp→Inv B s.heap (hp++(hD++F))→AO s0 s→R (.ok .next) s):
  codeAny (model pw w) A (.forLoop (.Name y p1) (.ref I) body [] env) R s:=by
 refine bZ (⟨0,_,σ,hp0,ih,[],hR,[],rfl,Nat.zero_le _,PM.le.refl _,W,st0,⟨⟩,rR,st,I0,rs⟩:f6 B2 vs2.length (fun l acc σ=>PZ (Aj T Φ b) t l acc σ Kf) St (Dl T env ns pv) T.toTab l vs2 F s0 vs2.length s) fun Iv i1 i2 inv0=>?_
 refine codeAny_forLoop_any Iv (fun mm s2 h=>?_) vs2.length inv0
 refine cps fun P0 k0=>?_
 obtain⟨i,B3,σ4,hp4,ih,hD,hR,acc,em,hil,le3,W3,sti,rD,rR,st4,I9,rs9⟩:=i1 _ _ h
 by_cases hlt:i < vs2.length
 ·have hd:l.drop i=(l[i]'(lnB▸hlt))::l.drop (i+1):=List.drop_eq_getElem_cons (lnB▸hlt)
  have hdv:vs2.drop i=vs2[i]::vs2.drop (i+1):=List.drop_eq_getElem_cons hlt
  rw [hd] at W3
  rw [hd,hdv] at rR
  obtain⟨_,_,hx,hr,rx,rR⟩:=rR
  obtain⟨hown,W3⟩:=W3
  refine k0 (its.step i (.hole vs2[i]) B3 ih _ s2 _ _ le3 (by rw [List.getElem?_map,List.getElem?_eq_getElem hlt];rfl) sti I9 fun B4 v4 ih4 s4 le4 r4 mid I10 rs10=>?_)
  obtain⟨⟩:=r4
  refine wpAny_pure (wpAny_assign_Name (Dl.store V0 (Dl.mono le4 st4) hn hp (rx.mono le4) (F:=ih4++(hD++(hr++F))) (I10.perm (WI _ _ _ _ _ _)) fun s5 hp5 rs5 st5 I5=>?_))
  refine hb vs2[i] _ B4 _ hp5 (ih4++(hD++(hr++F))) s5 A _ _ W3 st5 (ok.mono (le3.trans le4)) I5 ak ⟨fun B6 σ6 hp6 s6 le6 W6 st6 I6 rs6=>?_,fun B6 x σ6 h6 hp6 v6 s6 le6 W6 r6 st6 I6 rs6=>W6.elim⟩
  refine cps fun P0 k0=>?_
  obtain⟨yy,ey,W6⟩:=AF W6
  obtain⟨hown2,W6⟩:=W6
  obtain⟨v6,g1,g2,pin,-,pp6,r6,-,-,stU⟩:=Dl.load (w:=w) V0 st6 ey (by intro e;subst e;cases hown2) hn
  have:=pin _ (.head _)
  subst this
  refine k0 ⟨vs2.length - (i+1),QS em hlt,i2 _ _ ⟨i+1,B6,_,g2,ih4,hD++g1,hr,acc++[yy],rfl,hlt,(le3.trans le4).trans le6,W6,its.mid rfl i _ ih4 mid,?_,rR.mono (le4.trans le6),stU.unpin,I6.perm (U3 _ _ _ _ _ _ _ pp6),((rs9.trans rs10).trans rs5).trans rs6⟩⟩
  rw [List.take_succ_eq_append_getElem hlt]
  exact RL.snoc r6 (rD.mono (le4.trans le6))
 ·have:i=vs2.length:=Nat.le_antisymm hil (Nat.le_of_not_lt hlt)
  subst this
  rw [lnB,List.drop_length] at W3
  rw [List.drop_length,lnB,List.drop_length] at rR
  cases rR
  rw [List.take_length] at rD
  exact k0 (its.done B3 ih _ s2 _ _ le3 (by rw [List.length_map];exact sti) I9 fun s3 I10 rs10=>wpAny_execs_nil (fin B3 acc σ4 hp4 hD s3 le3 W3 rD st4 I10 (rs9.trans rs10)))
theorem PG (Sa:Ac T K)(V0:DW env ns isG){p:Pt}{t:Nat}{k:E}{b:Ss}{o ke:Expr}{y:Str}{body:List Stmt}{p1 p2 p3 pos:Pos}(hn:ns[t]?=some y)(hp:t∉pv.map (·.1))(mp:mP T (fun i=>ns[i]?) p o=true)
  (hk:AK Φ K n (AJ (w:=w) (T:=T) pv V0) k ke) (hb:∀v,CC Φ K n (AJ (w:=w) (T:=T) ((t,v)::pv) V0) b body):
  BH Φ K n (AJ (w:=w) (T:=T) pv V0) (.forOwn t p k b) (.For (.Name y p1) (.Subscript o (.Slice (some ke) none none p2) p3) body [] pos):=fun Kx B σ hp0 F s A Q Er W st ok I ak post=>by
 refine cps fun P0 k0=>?_
 obtain⟨l,g,W⟩:=ah W
 obtain⟨v,h1,hp1,σ1,W,r,st1,I1,ev⟩:=MU (fr:=AJ (w:=w) (T:=T) pv V0) Sa st ok I mp g W
 refine k0 ?_
 refine wpAny_For (C8 (ev rfl A s _ Er rfl fun tk=>wpAny_Slice ?_)) (Em rfl)
 rw [evalPart_none,evalPart_some]
 refine cps fun P0 k0=>?_
 obtain⟨z,a,vs,m,hl,ow,rl⟩:=r
 cases (show h1=_ from ow)
 refine k0 ?_
 refine hk _ B σ1 hp1 (((a,AD vs m)::hl)++F) { s with toks:=tk } A _ Er W st1 ok I1 ak fun B1 x σ2 hx hp2 u s1 le1 W1 r1 st2 I2 rs1=>?_
 refine cps fun P0 k0=>?_
 obtain⟨i,t0,W1⟩:=AZ W1 r1
 cases i with
 | negSucc c=>exact W1.elim
 | ofNat c=>
 have ln:vs.size=l.length:=rl.len
 obtain⟨vs1,vs2,hA,hB,evs,eh,rA,rB⟩:=RL.split2 (l:=l.take c) (m:=l.drop c) (by rw [List.take_append_drop];exact rl)
 subst eh
 have lnB:vs2.length=(l.drop c).length:=rB.len
 have edrop:vs.toList.drop c=vs2:=by rw [evs];exact S9 rA.len lnB
 have W1:=W1 vs2 lnB
 refine k0 (wpAny_pure (wpAny_pure ?_))
 have I3:=AY I2 (o:={ cls:=.type "slice",data:=.fields #[.int (Int.ofNat c) t0,.none,.none] }) rfl
 have ga:=I3.own (a,AD vs m) (.tail _ (List.mem_append_right _ (List.mem_append_right _ (.head _))))
 refine⟨"list",_,list_getitem_lookup,⟨_,ga,rfl⟩,?_⟩
 refine wpAny_getItem_list_slice ⟨_,ga,rfl,_,rfl⟩ (Heap.IsSliceOf.new ..) (.int _ _) .none .none (by simp) ?_ (ln▸z)
 rw [show (Int.ofNat c)=((c:Nat):Int) from rfl,slicePick_from',edrop]
 have I4:=AY I3.tail (o:=AD vs2.toArray 0) rfl
 obtain⟨L,eL⟩:∃L,L=((s1.heap.push { cls:=.type "slice",data:=.fields #[.int (Int.ofNat c) t0,.none,.none] }).objs.size):=⟨_,rfl⟩
 rw [←eL] at I4
 have I5:=Inv.freeze (hp:=[(L,_)]) I4
 have le2:=Cy (Inv.left (hp:=[(L,_)]) I4)
 have baL:=DS (Inv.left (hp:=[(L,_)]) I4) _ (.head _)
 show wpAny _ A (pyIter (.ref ((s1.heap.push { cls:=.type "slice",data:=.fields #[.int (Int.ofNat c) t0,.none,.none] }).objs.size))) _ _ _
 rw [←eL]
 refine wpAny_pyIter_list ⟨_,I5.base _ _ baL,rfl,_,rfl⟩ ?_
 have I6:=AY I5 (o:={ cls:=.type "list_iterator",data:=.fields #[.ref L,.int 0 0] }) rfl
 generalize eB:R9 B1 [(L,AD vs2.toArray 0)]=B2 at *
 have its:=M7 (w:=w) (T:=T) ak.handled baL (DT I5 baL) (l:=vs2.map V.hole) (RL.holes vs2)
 have I7:=I6.perm (VQ _ _ _ _ _ _)
 have rnew:RV T.toTab B2 (.lst .dp (l.take c++vs2.map .hole)) (.ref a) ((a,AD vs m)::hA):=by
  refine Qh (by rw [List.length_append,List.length_map,lnB,←List.length_append,List.take_append_drop];exact z) ?_
  rw [evs]
  have:=RL.appH (rA.mono (le1.trans le2)) (RL.holes (T:=T) vs2)
  rwa [List.append_nil] at this
 have ok2:=ok.mono (le1.trans le2)
 obtain⟨σ3,hp3,q3,st3,I8⟩:=DZ (fr:=AJ (w:=w) (T:=T) pv V0) Sa W1 mp ((AJ pv V0).mono le2 st2) ok2 rnew I7
 refine UO V0 hn hp hb its ak ok2 (F:=F) (s0:=s) lnB q3 ⟨_,rfl,fun h g b=>⟨⟨_,g,rfl,rfl⟩,⟨_,b _ _ baL,rfl,_,rfl⟩⟩⟩ (rB.mono (le1.trans le2)) st3 (I8.perm (AC (.refl _))) ⟨rs1.gens,rs1.os⟩ fun B3 acc σ4 hp4 hD s3 le3 W3 rD st4 I10 rs9=>?_
 have le3':=(le1.trans le2).trans le3
 refine cps fun P0 k0=>?_
 obtain⟨l',g',W3⟩:=ah W3
 obtain⟨l1,e,W3⟩:=W3
 subst e
 obtain⟨σ7,ep7,W3⟩:=AF W3
 obtain⟨v6,⟨h61,h62,pp6,r6,back6⟩,-⟩:=Ak (AJ (w:=w) (T:=T) pv V0) Sa st4 (ok.mono le3') I10 mp g'
 obtain⟨z6,a6,vs6,m6,hl6,ow6,rl6⟩:=r6
 cases (show h61=_ from ow6)
 obtain⟨vs61,vs62,g1,g2,ev6,eh6,q1,q2⟩:=RL.split2 rl6
 subst eh6
 obtain⟨⟩:=RL.of_holes q2
 have lacc:=rD.len
 obtain⟨hp7,p7,st7⟩:=back6 B3 (.lst .dp (l1++acc)) ((a6,AD vs6 m6)::(g1++hD)) σ7 (PM.le.refl _) (Qh (by
  rw [List.length_append,List.length_map,lacc] at z6
  rw [List.length_append];exact z6) (by rw [ev6];exact RL.appH q1 rD)) ep7
 exact k0 (post.1 B3 σ7 hp7 s3 le3' W3 st7 (I10.perm (Va _ _ [] _ _ _ _ _ pp6 p7)) rs9)
end
end
section
open PySem PySem.W PyProof.Rows PySem.Calls
open Hd (pw)
variable {w:World}{T:Tabs}{K:Frag}{env:Env}
section
variable {Φ:Nat→List V→(V→List V→Prop)→Prop}{n:Nat}{nm:Nat→Option Str}{pins:List Nat}{fr:A8 w T env nm pins}
theorem UD (Sa:Ac T K){p:Pt}{o:Expr}(mp:mP T nm p o=true){x:V}{v:Value}{h1:HP}{B:PM}{σ:List V}{hp F:HP}{s:Shared}{A:Around}{Q:Value→Shared→Prop}{Er:Value→Shared→Prop}{Kx:V→List V→Prop}
  (W:BM x fun i=>AI (get T σ p) fun y=>MP y fun _ l=>Kx (.bool (Du l i).isSome) σ) (st:fr.ST B σ hp) (ok:Bk K B) (r1:RV T.toTab B x v h1) (I:Inv B s.heap (h1++(hp++F)))
  (post:∀b t,Kx (.bool b) σ→h1=[]→Q (.bool b) { s with toks:=t }):wpAny (model pw w) A (eval o env) (fun rv s=>wpAny (model pw w) A (compareOp .In v rv) Q Er s) Er s:=by
 obtain⟨i,t,W⟩:=AZ W r1
 obtain⟨oo,l0,g,W⟩:=Un W
 have I1:Inv B s.heap (hp++F):=I
 obtain⟨u,⟨g1,g2,pp,r,back⟩,ev⟩:=Ak fr Sa st ok I1 mp g
 refine ev rfl A s _ Er rfl fun tk=>?_
 obtain⟨a,ds,m,ga,rd,ns⟩:=Pb Sa ok r (I1.perm (Ag pp))
 refine wpAny_in_of (knd:=intKind pw w) (k:=i) (s:={ s with toks:=tk }) (beq_self_eq_true i) ns (rd.mapOf w ga) ?_
 rw [rd.has];exact post _ _ W rfl
theorem V7 (Sa:Ac T K){x:E}{p:Pt}{l o:Expr}{pos:Pos}(hx:AK Φ K n fr x l)(mp:mP T nm p o=true)(hm:behindInMarks .In o=false):AK Φ K n fr (.inP x p) (.Compare l [.In] [o] pos):=fun Kx B σ hp F s A Q Er W st ok I ak post=>by
 refine wpAny_Compare1 (hx.as W st ok I ak fun B1 x1 σ1 h1 hp1 v1 s1 le1 W1 r1 st1 ok1 I1 rs1=>?_) hm
 exact UD Sa mp W1 st1 ok1 r1 I1 fun b t kb e=>by subst e;exact post B1 (.bool b) σ1 [] hp1 _ _ le1 kb RV.ofBool st1 I1 (rs1.trans ⟨rfl,rfl⟩)
theorem V8 (Sa:Ac T K){x:E}{p:Pt}{l o:Expr}{pos:Pos}(hx:AK Φ K n fr x l)(mp:mP T nm p o=true)(hm:behindInMarks .In o=false):Cf Φ K n fr (.inP x p) (.Compare l [.In] [o] pos):=fun Kx B σ hp F s A Q Er W kb st ok I ak post=>by
 refine wpAny_isTrue_Compare1 (hx.as W st ok I ak fun B1 x1 σ1 h1 hp1 v1 s1 le1 W1 r1 st1 ok1 I1 rs1=>?_) hm
 exact UD Sa mp W1 st1 ok1 r1 I1 fun b t kb e=>by subst e;exact wpAny_truthy_bool (post B1 b σ1 hp1 _ le1 kb st1 ok1 I1 (rs1.trans ⟨rfl,rfl⟩))
theorem Ph (Sa:Ac T K){p:Pt}{o o':Expr}{p1 p2 apos pos pos':Pos}(mp:mP T nm p o=true)(mp':mP T nm p o'=true)(hs:AH o'=true)(hg:fr.isG "len"=true)(hline:(apos.endLine==pos.line)=true):
  BH Φ K n fr (.appLen p) (.Expr (.Call (.Attribute o "append" apos) [.Call (.Name "len" p1) [o'] [] p2] [] pos) pos'):=fun Kx B σ hp F s A Q Er W st ok I ak post=>by
 obtain⟨l,g,W⟩:=Su W
 obtain⟨hz,W⟩:=W
 obtain⟨σ1,ep,W⟩:=AF W
 obtain⟨v,⟨h1,h2,pp,r,back⟩,ev⟩:=Ak fr Sa st ok I mp g
 obtain⟨v',⟨h1',h2',pp',r',back'⟩,ev'⟩:=Ak fr Sa st ok I mp' g
 have I0:Inv B s.heap (h1++(h2++F)):=I.perm (Ag pp)
 have I0':Inv B s.heap (h1'++(h2'++F)):=I.perm (Ag pp')
 refine wpAny_Expr_any (DJ PySem.F.slot_list_append PySem.F.type_list_append (Bm mp _) rfl (Nat.lt_of_sub_eq_succ (n:=1) (m:=30) rfl) hline (ev rfl A s _ Er rfl fun t=>?_)) (Bs fr) rfl
 obtain⟨z,a,vs,m,rl⟩:=Hr r
 refine⟨a,vs,m,rfl,I0.own (a,AD vs m) (.head _),?_⟩
 rw [AW rfl]
 refine P.append_list ?_
 refine wpAny_Call_NameR (Aa (s:={ s with toks:=t }) Sa fr (ok.into I) hg (by decide +kernel) (by decide +kernel) (v:=.builtin "len") (by kernel_rfl) (J8 (Cd hs) ?_))
 rw [AW hs]
 refine Calls.spliced_cons ?_
 refine ev' rfl A { s with toks:=t } _ Er rfl fun t'=>?_
 refine Calls.spliced_nil ?_
 obtain⟨z',a',vs',k,rl'⟩:=Hr r'
 have zl:sizeLine=2 ^ 24:=sizeLine_eq
 have ln':vs'.size=l.length:=rl'.len
 refine PyProof.Rows.len_list (s:={ s with toks:=t' }) ⟨_,I0'.own (a',AD vs' k) (.head _),rfl,_,rfl⟩ (by lia) ?_
 rw [ln']
 have ln:vs.size=l.length:=rl.len
 have z1:l.length < 16000000:=Nat.lt_of_lt_of_le hz (by decide)
 refine⟨vs,m,by lia,I0.own (a,AD vs m) (.head _),?_⟩
 obtain⟨m',I4⟩:=Dj (·.push (.int l.length _)) I0
 obtain⟨σ3,hp3,q3,st3,I5⟩:=JK back ep W (Hp (m:=m') (Gr (x:=.int l.length) z1) (by rw [Array.toList_push];exact RL.snoc RV.ofInt rl)) I4
 exact post.1 B σ3 hp3 _ (PM.le.refl _) q3 st3 I5 ⟨rfl,rfl⟩
end
noncomputable def hV (I a:Addr)(vs:Array Value)(m i:Nat)(hp:HP):Prop:=∃o,hp=[(I,o),(a,AD vs m)]∧∀h:Heap,h.get? I=some o→h.IsListIter I a i
theorem UT {A:Around}(hh:A.handled=none){I a:Addr}{vs:Array Value}{m:Nat}{B:PM}{l:List V}(ne:a≠I)(rl:RL T.toTab B l vs.toList []):
  Kk w T A I true true B l (hV I a vs m) (fun i _=>hV I a vs m (i+1)) [(a,AD vs m)] where
 step:=fun i x B' hp F s Q E le hx ⟨o,e,st⟩ Iv k=>by
  subst e
  have st0:s.heap.IsListIter I a i∧s.heap.IsList a vs:=⟨st s.heap (Iv.own (I,o) (.head _)),⟨_,Iv.own (a,AD vs m) (.tail _ (.head _)),rfl,_,rfl⟩⟩
  have ln:vs.size=l.length:=rl.len
  have hi:i < vs.size:=by rw [ln];exact (List.getElem?_eq_some_iff.mp hx).1
  refine (Walks.list hh I a ne vs).item i s Q E hi st0 fun v h' tk p st' keep=>?_
  have hp:vs[i]?=some v:=p
  rw [←Array.getElem?_toList] at hp
  have r:=Pg (rl.get hp) hx
  obtain⟨⟨o',ho',r'⟩,-⟩:=id st'
  exact k B' v [(I,o'),(a,AD vs m)] _ (PM.le.refl B') (r.mono le) ⟨o',rfl,fun h g=>⟨o',g,r'⟩⟩ (Mt (F:=(a,AD vs m)::F) Iv ho' fun b ob hb e=>keep b ob (by simpa using hb) e) ⟨rfl,rfl⟩
 done:=fun B' hp F s Q E le ⟨o,e,st⟩ Iv k=>by
  subst e
  have st0:s.heap.IsListIter I a l.length∧s.heap.IsList a vs:=⟨st s.heap (Iv.own (I,o) (.head _)),⟨_,Iv.own (a,AD vs m) (.tail _ (.head _)),rfl,_,rfl⟩⟩
  have ln:vs.size=l.length:=rl.len
  rw [←ln] at st0
  refine (Walks.list hh I a ne vs).done s Q E st0 fun h' tk keep=>k _ (Fu (F:=(a,AD vs m)::F) Iv fun b ob hb e=>keep b ob (by simpa using hb) e) ⟨rfl,rfl⟩
 self:=fun i B' hp F s Q E le ⟨o,e,st⟩ Iv k=>by
  subst e
  exact (Walks.list hh I a ne vs).self i s Q E ⟨st s.heap (Iv.own (I,o) (.head _)),⟨_,Iv.own (a,AD vs m) (.tail _ (.head _)),rfl,_,rfl⟩⟩ k
 mid:=fun _ i v hp h=>h
 go:=fun ht i v te x1 pos B' hp F s Q E le h Iv k=>by
  obtain⟨o,e,st⟩:=id h
  subst e
  exact KD (st s.heap (Iv.own (I,o) (.head _))) (k _ s h Iv (AO.refl s))
variable {ns:List Str}{isG:Str→Bool}{pv:List (Nat×Value)}{scope:Scope}{ci:Nat}{x:Str}{cl:List (Str×Addr)}
 {Φ:Nat→List V→(V→List V→Prop)→Prop} {n:Nat}
theorem Rf (Sa:Ac T K)(V0:DW env ns isG)(CO:DU env.kindOf scope ns ci x)(hclos:closureFor scope env=pure cl)(hcl:∀n,scope.names.lookup n=some .free→cl.lookup n=env.cells.lookup n){p:Pt}{elt:E}{e iter:Expr}{px:Pos}{pos:Pos}
  (hs:Ay iter=true) (mp:mP T (fun i=>ns[i]?) p iter=true) (hb:∀C,AK Φ K n (Af (w:=w) (T:=T) V0 pv CO hcl C) elt e):
  AK Φ K n (AJ (w:=w) (T:=T) pv V0) (.compP elt ci p) (.ListComp e [⟨.Name x px,iter,[],0⟩] scope pos):=fun Kx B σ hp F s A Q Er W st ok I ak post=>by
 obtain⟨x0,g,W⟩:=AF W
 revert g
 refine Td W fun l W g=>?_
 obtain⟨v,h1,hp1,σ1,W,r,st1,I1,ev⟩:=MU (fr:=AJ (w:=w) (T:=T) pv V0) Sa st ok I mp g W
 have r0:=r
 obtain⟨z,a,vs,m,rl⟩:=Hr r0
 rw [eval_ListComp]
 refine DX (tk:=true) (lo:=[(a,AD vs m)]) (B:=B) (F:=F) V0 CO hclos hcl hs (WL:=fun Kx l acc σ=>Bn (WE T Φ elt) ci l acc σ Kx) (fun _ _ _ h=>h) (fun Kx C x1 rest acc σ B hp F s A Q E ak ok hW st I kf kt=>Gz V0 CO hcl hb Kx C x1 rest acc σ B hp F s A Q E ak ok hW st I kt)
  (use:=none) (Kx:=fun acc σ=>A0 T [(p,.ref a)] [.lst .sh l] σ fun σ=>Kx (.lst .sh acc) σ) ak (fun Q hq=>ev rfl A s _ Er rfl fun tk=>?_) fun B1 acc σ2 D C ol hp2 us k s1 le1 W1 hz rl2 st2 ok2 I2 rs1 ⟨ml,no⟩=>?_
 ·have I1:Inv B s.heap ((a,AD vs m)::(hp1++F)):=I1.perm (pm hp1 [(a,AD vs m)] F)
  have ga:=I1.own (a,AD vs m) (.head _)
  refine wpAny_pyIter_list (s:={ s with toks:=tk }) ⟨_,ga,rfl,_,rfl⟩ ?_
  exact hq B l σ1 hp1 [(s.heap.objs.size,_),(a,AD vs m)] s.heap.objs.size (hV s.heap.objs.size a vs m) _ _ (PM.le.refl B) W (UT ak.handled (Nat.ne_of_lt (Heap.lt_size ga)) rl) ⟨_,rfl,fun h g=>⟨_,g,rfl,rfl⟩⟩ st1 ok (AY I1 rfl) ⟨rfl,rfl⟩
 ·refine⟨ml,no.at_ (I2.own (C,ol) (.head _)),fun h' sb=>?_⟩
  have I3:=I2.forget sb
  obtain⟨σ3,hp3,q3,st3,I5⟩:=DZ (fr:=AJ (w:=w) (T:=T) pv V0) Sa W1 mp st2 ok2 (r.mono le1) (F:=(D,AD us k)::F) (I3.perm ((pm [(D,AD us k)] [(a,AD vs m)] (hp2++F)).trans (List.Perm.append_left _ (pm [(D,AD us k)] hp2 F))))
  exact post B1 (.lst .sh acc) σ3 [(D,AD us k)] hp3 _ { s1 with heap:=h' } le1 q3 (Dh rl2 hz) st3 (I5.perm (pm hp3 [(D,AD us k)] F)) ⟨rs1.gens,rs1.os⟩
structure Cx where
 nm:Nat→Option Str
 pins:List Nat
 isG:Str→Bool
 top:Option (Scope×List Str)
noncomputable def LR (scope:Scope)(ns:List Str)(ci:Nat)(x:Str):Cx:=⟨Cv scope ns ci x,List.range ns.length,fun n=>scope.names.lookup n==some .globalImplicit,none⟩
noncomputable def Gl (C:Cx)(x:Str):Bool:=C.isG x&&!(x==("__debug__":Str))
noncomputable def plainT (e:Expr):Bool:=!(Nat.beq e.ctorIdx 0||(Nat.beq e.ctorIdx 5||(Nat.beq e.ctorIdx 15||YC e fun o _=>decide (o=.Not))))
noncomputable def Nm (e:Expr):Bool:=!decide (e.ctorIdx=26)
noncomputable def JX:DA→Option Str
 | .len=>some "len"
 | .abs=>some "abs"
 | .int=>some "int"
 | .sum=>some "sum"
 | .max2=>some "max"
 | .max4=>some "max"
 | .ord=>some "ord"
 | .tuple=>some "tuple"
 | .list=>some "list"
 | .bytes=>some "bytes"
 | .dict=>some "dict"
 | .sorted=>some "sorted"
 | _=>none
noncomputable def Tv:DA→Option Str
 | .isint=>some "int"
 | .isbool=>some "bool"
 | .isstr=>some "str"
 | .istuple=>some "tuple"
 | _=>none
noncomputable def aF:It→Bool
 | .enum _ | .items _=>false
 | _=>true
noncomputable def kC:It→Bool
 | .enum _ | .items _ | .ofL _=>true
 | _=>false
noncomputable def FK (sc:Scope)(ns:List Str)(scope:Scope)(ci:Nat)(x:Str):Bool:=
 decide (scope.kind=.function)&&scope.names.all (fun y=>!(y.2==.cell))&&scope.names.all (fun y=>!(y.2==.local)||decide (scope.names.lookup y.1=some .local))&&decide (scope.names.lookup x=some .local)
  && scope.names.all (fun y=>!(y.2==.free)||(decide (sc.names.lookup y.1=some .cell)&&ns.contains y.1))&&decide (ns.length≤ci)
noncomputable def Ic (t:Bool)(e:Expr):Bool:=!t||plainT e
noncomputable def Pd (k:DA):Bool:=decide (k.ctorIdx=18)
noncomputable def Wi (e:E):Bool:=decide (e.ctorIdx=3)
mutual
noncomputable def mX (T:Tabs)(C:Cx)(t:Bool)(op:BoolOp):E→List Expr→Bool
 | .bad,es=>!es.isEmpty
 | .and a b,es=>lC es fun e1 r=>match r with
  | []=>So e1 fun o es=>lC es fun e1 r=>lC r fun e2 r=>decide (o=.And)&&(mX T C t .And a [e1]&&mX T C t .And b (e2::r))
  | e2::r=>decide (op=.And)&&(mX T C t .And a [e1]&&mX T C t .And b (e2::r))
 | .or a b,es=>lC es fun e1 r=>match r with
  | []=>So e1 fun o es=>lC es fun e1 r=>lC r fun e2 r=>decide (o=.Or)&&(mX T C t .Or a [e1]&&mX T C t .Or b (e2::r))
  | e2::r=>decide (op=.Or)&&(mX T C t .Or a [e1]&&mX T C t .Or b (e2::r))
 | .not a,es=>l1 es fun e=>YC e fun o l=>decide (o=.Not)&&mX T C t .And a [l]
 | .cmp o a b,es=>Uf es fun l p r=>decide (p=Az o)&&(!behindInMarks (Az o) r&&(mX T C false .And a [l]&&mX T C false .And b [r]))
 | .cmp2 o o' a b c,es=>l1 es fun e=>ZU e fun l ps rs=>l2 ps fun p p'=>l2 rs fun r r'=>decide (p=Az o)&&(decide (p'=Az o')&&(!behindInMarks (Az o') r'&&(mX T C false .And a [l]&&(mX T C false .And b [r]&&mX T C false .And c [r']))))
 | .isNone a pos,es=>Uf es fun l p r=>decide (p=if pos then .Is else .IsNot)&&(M0 r (fun c=>decide (c=.none))&&mX T C false .And a [l])
 | .same a b pos,es=>Uf es fun l p r=>decide (p=if pos then .Is else .IsNot)&&(Ay r&&(mX T C false .And a [l]&&mX T C false .And b [r]))
 | .int i,es=>l1 es fun e=>IW e i||YC e fun o l=>decide (o=.USub)&&IW l (-i)
 | .str x,es=>M6 es fun c=>decide (c=.str ⟨x.toArray⟩)
 | .bool b,es=>M6 es fun c=>decide (c=.bool b)
 | .none,es=>M6 es fun c=>decide (c=.none)
 | .glob g,es=>l1 es fun e=>Bq e fun x _=>decide (T.gn g=x)&&(Gl C x&&(nh (T.gv g)&&fz (T.gv g)))
 | .rd p,es=>l1 es fun e=>Ic t e&&mP T C.nm p e
 | .mv i,es=>l1 es fun e=>Bq e fun x _=>decide (C.nm i=some x)&&!(x==("__debug__":Str))
 | .idx a j,es=>l1 es fun e=>P9 e fun l r=>Nm r&&(mX T C false .And a [l]&&mX T C false .And j [r])
 | .slTo a b,es=>aI es fun l x y z=>DH x&&(DH z&&(Bf y (fun y=>IW y b)&&mX T C false .And a [l]))
 | .slFrom a b,es=>aI es fun l x y z=>DH y&&(DH z&&(Bf x (fun x=>IW x b)&&mX T C false .And a [l]))
 | .slAB a b c,es=>aI es fun l x y z=>DH z&&(Bf x (fun x=>IW x b)&&(Bf y (fun y=>IW y c)&&mX T C false .And a [l]))
 | .slRev a,es=>aI es fun l x y z=>DH x&&(DH y&&(Bf z (fun z=>YC z fun o l=>decide (o=.USub)&&IW l 1)&&mX T C false .And a [l]))
 | .pin a,es=>l1 es fun e=>Ic t e&&mX T C false .And a [e]
 | .bin o a b,es=>l1 es fun e=>ae e fun l p r=>decide (p=Zf o)&&(mX T C false .And a [l]&&mX T C false .And b [r])
 | .neg a,es=>l1 es fun e=>YC e fun o l=>decide (o=.USub)&&mX T C false .And a [l]
 | .ite c a b,es=>l1 es fun e=>i7 e fun e l r=>!t&&(mX T C true .And c [e]&&(mX T C false .And a [l]&&mX T C false .And b [r]))
 | .tup l,es=>l1 es fun e=>OD e fun l'=>decide (l'.length≤1000)&&Y7 T C l l'
 | .lst l,es=>l1 es fun e=>bx e fun l'=>decide (l'.length≤1000)&&Y7 T C l l'
 | .dct0,es=>l1 es fun e=>aX e fun a b=>l0 a&&l0 b
 | .prim k l,es=>aS es fun f l'=>match JX k with
   | some x=>decide (f=x)&&(Gl C x&&Y7 T C l l')
   | none=>decide (f=("isinstance":Str))&&(C.isG "isinstance"&&l2 l' fun e y=>Y7 T C l [e]&&match Pd k with
    | false=>Bq y fun y _=>decide (Tv k=some y)&&Gl C y
    | true=>OD y fun ys=>lC ys fun y1 ys=>lC ys fun y2 ys=>l2 ys fun y3 y4=>Bq y1 (fun y _=>decide (y=("bytes":Str)))&&(Bq y2 (fun y _=>decide (y=("bytearray":Str)))&&(Bq y3 (fun y _=>decide (y=("list":Str)))&&(Bq y4 (fun y _=>decide (y=("tuple":Str)))
      && (C.isG "bytes"&&(C.isG "bytearray"&&(C.isG "list"&&C.isG "tuple")))))))
 | .lenP p,es=>aS es fun f l=>l1 l fun e=>decide (f=("len":Str))&&(C.isG "len"&&(AH e&&mP T C.nm p e))
 | .call f l,es=>aS es fun x l'=>decide (T.fg f=some x)&&(Gl C x&&(decide (Bd 0 l=(T.fn f).mut_)&&Xw T C l l'))
 | .meth p m l,es=>l1 es fun e=>N2 e fun o name l'=>decide (T.mn m=name)&&(decide (l'.length < 30)&&(mP T C.nm p o&&Xw T C l l'))
 | .new c l,es=>aS es fun x l'=>decide (T.cg c=some x)&&(Gl C x&&(decide ((T.fn (T.ci c)).mut_=0::Bd 1 l)&&Xw T C l l'))
 | .dget p k d,es=>l1 es fun e=>N2 e fun o name l'=>decide (name=("get":Str))&&(mP T C.nm p o&&lC l' fun a r=>AH a&&(mX T C false .And k [a]&&match r with
   | []=>Wi d
   | b::r=>l0 r&&(AH b&&mX T C false .And d [b])))
 | .comp elt i it,es=>ct es fun e x iter ifs scope _=>l0 ifs&&Bf C.top fun sn=>FK sn.1 sn.2 scope i x&&(Ay iter&&(aF it&&(Zi T C it iter&&mX T (LR scope sn.2 i x) false .And elt [e])))
 | .compIf elt i it c,es=>ct es fun e x iter ifs scope _=>l1 ifs fun ce=>Bf C.top fun sn=>FK sn.1 sn.2 scope i x&&(Ay iter&&(aF it&&(Zi T C it iter&&(mX T (LR scope sn.2 i x) false .And elt [e]&&mX T (LR scope sn.2 i x) true .And c [ce]))))
 | .compP elt i p,es=>ct es fun e x iter ifs scope _=>l0 ifs&&Bf C.top fun sn=>FK sn.1 sn.2 scope i x&&(Ay iter&&(mP T C.nm p iter&&mX T (LR scope sn.2 i x) false .And elt [e]))
 | .inP a p,es=>Uf es fun l o r=>decide (o=.In)&&(!behindInMarks .In r&&(mX T C false .And a [l]&&mP T C.nm p r))
noncomputable def Zi (T:Tabs)(C:Cx):It→Expr→Bool
 | .rng k l,e=>bE e fun f l'=>decide (f=("range":Str))&&(C.isG "range"&&(Y7 T C l l'&&(decide (k.ctorIdx=12)||decide (k.ctorIdx=13))))
 | .enum a,e=>bE e fun f l=>l1 l fun l=>decide (f=("enumerate":Str))&&(C.isG "enumerate"&&(AH l&&mX T C false .And a [l]))
 | .items p,e=>N2 e fun o name l=>l0 l&&(decide (name=("items":Str))&&mP T C.nm p o)
 | .of a,e=>mX T C false .And a [e]
 | .ofL a,e=>mX T C false .And a [e]
noncomputable def Y7 (T:Tabs)(C:Cx):Es→List Expr→Bool
 | .nil,es=>l0 es
 | .cons a l,es=>lC es fun e r=>AH e&&(mX T C false .And a [e]&&Y7 T C l r)
noncomputable def Xw (T:Tabs)(C:Cx):As→List Expr→Bool
 | .nil,es=>l0 es
 | .val a l,es=>lC es fun e r=>AH e&&(mX T C false .And a [e]&&Xw T C l r)
 | .bor p l,es=>lC es fun e r=>AH e&&(mP T C.nm p e&&Xw T C l r)
 | .own a l,es=>lC es fun e r=>AH e&&(mX T C false .And a [e]&&Xw T C l r)
end
section
variable {Φ:Nat→List V→(V→List V→Prop)→Prop}{n:Nat}{nm:Nat→Option Str}{pins:List Nat}{fr:A8 w T env nm pins}
noncomputable def BK (Φ:Nat→List V→(V→List V→Prop)→Prop)(K:Frag)(n:Nat){nm:Nat→Option Str}{pins:List Nat}(fr:A8 w T env nm pins)(t:Bool)(op:BoolOp)(x:E):List Expr→Prop
 | []=>False
 | [e]=>(t=true→Cf Φ K n fr x e)∧(t=false→AK Φ K n fr x e)
 | e::e2::r=>(t=true→Eu Φ K n fr op x (e::e2::r))∧(t=false→Ev Φ K n fr op x (e::e2::r))
theorem BK.toC {op:BoolOp}{x:E}:∀{es:List Expr},BK Φ K n fr true op x es→Eu Φ K n fr op x es
 | [],h=>h.elim
 | [e],h=>Eu.one (h.1 rfl)
 | e::e2::r,h=>h.1 rfl
theorem BK.toB {op:BoolOp}{x:E}:∀{es:List Expr},BK Φ K n fr false op x es→Ev Φ K n fr op x es
 | [],h=>h.elim
 | [e],h=>Ev.one (h.2 rfl)
 | e::e2::r,h=>h.2 rfl
theorem BK.toE {op:BoolOp}{x:E}{e:Expr}(h:BK Φ K n fr false op x [e]):AK Φ K n fr x e:=h.2 rfl
theorem BK.toT {op:BoolOp}{x:E}{e:Expr}(h:BK Φ K n fr true op x [e]):Cf Φ K n fr x e:=h.1 rfl
theorem BK.one {t:Bool}{op:BoolOp}{x:E}{e:Expr}(h:AK Φ K n fr x e)(p:Ic t e=true):BK Φ K n fr t op x [e]:=by
 refine⟨fun ht=>Cf.plain h fun whole=>?_,fun _=>h⟩
 subst ht
 have p:plainT e=true:=p
 cases e with
 | UnaryOp o a b=>cases o <;> first | rfl | exact no p
 | BoolOp _ _ _=>exact no p
 | IfExp _ _ _ _=>exact no p
 | Compare _ _ _ _=>exact no p
 | _=>rfl
theorem BK.two {t:Bool}{op:BoolOp}{x:E}{e:Expr}(h:AK Φ K n fr x e)(h2:Cf Φ K n fr x e):BK Φ K n fr t op x [e]:=⟨fun _=>h2,fun _=>h⟩
theorem BK.and {t:Bool}{x y:E}{e e2:Expr}{r:List Expr}(h:BK Φ K n fr t .And x [e])(h2:BK Φ K n fr t .And y (e2::r)):BK Φ K n fr t .And (.and x y) (e::e2::r):=by
 cases t with
 | true=>exact⟨fun _=>Eu.and h.toT h2.toC,fun e=>(by cases e)⟩
 | false=>exact⟨fun e=>(by cases e),fun _=>Ev.and h.toE h2.toB⟩
theorem BK.or {t:Bool}{x y:E}{e e2:Expr}{r:List Expr}(h:BK Φ K n fr t .Or x [e])(h2:BK Φ K n fr t .Or y (e2::r)):BK Φ K n fr t .Or (.or x y) (e::e2::r):=by
 cases t with
 | true=>exact⟨fun _=>Eu.or h.toT h2.toC,fun e=>(by cases e)⟩
 | false=>exact⟨fun e=>(by cases e),fun _=>Ev.or h.toE h2.toB⟩
theorem BK.exp {t:Bool}{op op':BoolOp}{x:E}{e e2:Expr}{r:List Expr}{pos:Pos}(h:BK Φ K n fr t op x (e::e2::r)):BK Φ K n fr t op' x [.BoolOp op (e::e2::r) pos]:=by
 cases t with
 | true=>exact⟨fun _=>Eu.exp (h.1 rfl),fun e=>(by cases e)⟩
 | false=>exact⟨fun e=>(by cases e),fun _=>Ev.exp (h.2 rfl)⟩
noncomputable def O8 (scope:Scope){env:Env}{nm:Nat→Option Str}{pins:List Nat}(fr:A8 w T env nm pins):Prop:=fr.isG=fun n=>scope.names.lookup n==some .globalImplicit
structure QJ (Φ:Nat→List V→(V→List V→Prop)→Prop)(K:Frag)(n:Nat)(C:Cx){nm:Nat→Option Str}{pins:List Nat}(fr:A8 w T env nm pins):Prop where
 nm:nm=C.nm
 isG:∀x,C.isG x=true→fr.isG x=true
 comp:∀sc ns,C.top=some (sc,ns)→∀(scope:Scope) (i:Nat) (x:Str) (elt:E) (it:It) (e iter:Expr) (px pos:Pos) (tk:Bool),FK sc ns scope i x=true→Ay iter=true→Ex Φ K n fr true tk it iter→
  (∀(env':Env) (fr':A8 w T env' (Cv scope ns i x) (List.range ns.length)),O8 scope fr'→AK Φ K n fr' elt e)→AK Φ K n fr (.comp elt i it) (.ListComp e [⟨.Name x px,iter,[],0⟩] scope pos)
 compIf:∀sc ns,C.top=some (sc,ns)→∀(scope:Scope) (i:Nat) (x:Str) (elt c:E) (it:It) (e ce iter:Expr) (px pos:Pos) (tk:Bool),FK sc ns scope i x=true→Ay iter=true→Ex Φ K n fr true tk it iter→
  (∀(env':Env) (fr':A8 w T env' (Cv scope ns i x) (List.range ns.length)),O8 scope fr'→AK Φ K n fr' elt e)→(∀(env':Env) (fr':A8 w T env' (Cv scope ns i x) (List.range ns.length)),O8 scope fr'→Cf Φ K n fr' c ce)→AK Φ K n fr (.compIf elt i it c) (.ListComp e [⟨.Name x px,iter,[ce],0⟩] scope pos)
 compP:∀sc ns,C.top=some (sc,ns)→∀(scope:Scope) (i:Nat) (x:Str) (elt:E) (p:Pt) (e iter:Expr) (px pos:Pos),FK sc ns scope i x=true→Ay iter=true→mP T C.nm p iter=true→
  (∀(env':Env) (fr':A8 w T env' (Cv scope ns i x) (List.range ns.length)),O8 scope fr'→AK Φ K n fr' elt e)→AK Φ K n fr (.compP elt i p) (.ListComp e [⟨.Name x px,iter,[],0⟩] scope pos)
end
end
section
open PySem PySem.W PyProof.Rows PySem.Calls
open Hd (pw)
variable {w:World}{T:Tabs}{K:Frag}
@[elab_as_elim] theorem CR {α:Type}{a b:α}{M:α→Prop}(h:some a=some b)(k:M a):M b:=Option.some.inj h▸k
section
variable (Sa:Ac T K){env:Env}{Φ:Nat→List V→(V→List V→Prop)→Prop}{n:Nat}{nm:Nat→Option Str}{pins:List Nat}{fr:A8 w T env nm pins}
include Sa
theorem OZ {l:Es}{es:List Expr}{p pos:Pos}(hs:es.all AH=true)(hl:FX Φ K n fr l es){k:DA}{x:Str}(h:JX k=some x):fr.isG x=true→
  AK Φ K n fr (.prim k l) (.Call (.Name x p) es [] pos):=by
 cases k with
 | len=>exact CR h fun hg=>Bw Sa cD (by decide +kernel) (by kernel_rfl) (by decide +kernel) hg hs hl
 | abs=>exact CR h fun hg=>Bw Sa Zw (by decide +kernel) (by kernel_rfl) (by decide +kernel) hg hs hl
 | int=>exact CR h fun hg=>DD Sa aW (by decide +kernel) (by kernel_rfl) (by decide +kernel) hg hs hl
 | sum=>exact CR h fun hg=>Bw Sa Zz (by decide +kernel) (by kernel_rfl) (by decide +kernel) hg hs hl
 | max2=>exact CR h fun hg=>Bw Sa YU (by decide +kernel) (by kernel_rfl) (by decide +kernel) hg hs hl
 | max4=>exact CR h fun hg=>Bw Sa Y3 (by decide +kernel) (by kernel_rfl) (by decide +kernel) hg hs hl
 | ord=>exact CR h fun hg=>Bw Sa bM (by decide +kernel) (by kernel_rfl) (by decide +kernel) hg hs hl
 | tuple=>exact CR h fun hg=>DD Sa WU (by decide +kernel) (by kernel_rfl) (by decide +kernel) hg hs hl
 | list=>exact CR h fun hg=>DD Sa Zc (by decide +kernel) (by kernel_rfl) (by decide +kernel) hg hs hl
 | bytes=>exact CR h fun hg=>DD Sa Vj (by decide +kernel) (by kernel_rfl) (by decide +kernel) hg hs hl
 | dict=>exact CR h fun hg=>DD Sa (Ze Sa) (by decide +kernel) (by kernel_rfl) (by decide +kernel) hg hs hl
 | sorted=>exact CR h fun hg=>Bw Sa (SU Sa) (by decide +kernel) (by kernel_rfl) (by decide +kernel) hg hs hl
 | _=>exact nn h
theorem Rg {y:E}{e:Expr}{p p2 pos:Pos}(hi:fr.isG "isinstance"=true)(hs:AH e=true)(hl:AK Φ K n fr y e){k:DA}{x:Str}(h:Tv k=some x):fr.isG x=true→
  AK Φ K n fr (.prim k (.cons y .nil)) (.Call (.Name "isinstance" p) [e,.Name x p2] [] pos):=by
 cases k with
 | isint=>exact CR h fun hg=>Dd Sa Yq (by decide +kernel) (by kernel_rfl) (by decide +kernel) hg hi hs hl
 | isbool=>exact CR h fun hg=>Dd Sa is_bool (by decide +kernel) (by kernel_rfl) (by decide +kernel) hg hi hs hl
 | isstr=>exact CR h fun hg=>Dd Sa Y8 (by decide +kernel) (by kernel_rfl) (by decide +kernel) hg hi hs hl
 | istuple=>exact CR h fun hg=>Dd Sa SM (by decide +kernel) (by kernel_rfl) (by decide +kernel) hg hi hs hl
 | _=>exact nn h
end
theorem Oj {Φ:Nat→List V→(V→List V→Prop)→Prop}{n:Nat}{scope:Scope}{ns:List Str}{i:Nat}{x:Str}{env':Env}{fr':A8 w T env' (Cv scope ns i x) (List.range ns.length)}(h:O8 scope fr'):QJ Φ K n (LR scope ns i x) fr':=
 { nm:=rfl,isG:=fun y hy=>by rw [show fr'.isG=_ from h];exact hy,comp:=fun _ _ h=>(nomatch h),compIf:=fun _ _ h=>(nomatch h),compP:=fun _ _ h=>(nomatch h) }
theorem OK {e:Expr}(h:Nm e=true):e.ctorIdx=26→False:=of_decide_eq_false ((Bool.not_eq_true' _).mp h)
theorem VK {Φ:Nat→List V→(V→List V→Prop)→Prop}{n:Nat}{env:Env}{nm:Nat→Option Str}{pins:List Nat}{fr:A8 w T env nm pins}{t:Bool}{op:BoolOp}:∀{es:List Expr},(!es.isEmpty)=true→BK Φ K n fr t op .bad es
 | [],h=>no h
 | [e],_=>⟨fun _=>fun Kx B σ hp F s A Q Er W=>W.elim,fun _=>fun Kx B σ hp F s A Q Er W=>W.elim⟩
 | e::e2::r,_=>⟨fun _=>fun Kx B σ hp F s A Q Er W=>W.elim,fun _=>⟨List.cons_ne_nil _ _,fun Kx B σ hp F s A pos Q Er W=>W.elim⟩⟩
theorem pl {t:Bool}{e:Expr}(h:plainT e=true):Ic t e=true:=by cases t with | true=>exact h | false=>rfl
theorem nA {pos:Bool}:(if pos=true then CmpOp.Is else CmpOp.IsNot)=if pos then .Is else .IsNot:=rfl
section
variable (w)(T)(K)(Φ:Nat→List V→(V→List V→Prop)→Prop)(n:Nat)
noncomputable def GX (x:E):Prop:=∀{C:Cx} {t:Bool} {op:BoolOp} {es:List Expr} {env:Env} {nm:Nat→Option Str} {pins:List Nat} {fr:A8 w T env nm pins},QJ Φ K n C fr→mX T C t op x es=true→BK Φ K n fr t op x es
noncomputable def GI (x:It):Prop:=∀{C:Cx} {e:Expr} {env:Env} {nm:Nat→Option Str} {pins:List Nat} {fr:A8 w T env nm pins},QJ Φ K n C fr→Zi T C x e=true→Ex Φ K n fr (aF x) (kC x) x e
noncomputable def YL (x:Es):Prop:=∀{C:Cx} {es:List Expr} {env:Env} {nm:Nat→Option Str} {pins:List Nat} {fr:A8 w T env nm pins},QJ Φ K n C fr→Y7 T C x es=true→es.all AH=true∧FX Φ K n fr x es
noncomputable def Uw (x:As):Prop:=∀{C:Cx} {es:List Expr} {env:Env} {nm:Nat→Option Str} {pins:List Nat} {fr:A8 w T env nm pins},QJ Φ K n C fr→Xw T C x es=true→es.all AH=true∧DG Φ K n fr x es
end
section
variable {Φ:Nat→List V→(V→List V→Prop)→Prop}{n:Nat}
theorem cA {a b:E}(ha:GX w T K Φ n a)(hb:GX w T K Φ n b):GX w T K Φ n (.and a b):=fun {C t op es env nm pins fr} ok m=>by
 refine Be m fun e1 r m=>?_
 cases r with
 | nil=>
  refine Nl m fun o es q m=>?_
  refine Be m fun e1 r m=>?_
  refine Be m fun e2 r m=>?_
  refine AN (AB m) ?_
  exact BK.exp (BK.and (ha ok (AB (AA m))) (hb ok (AA (AA m))))
 | cons e2 r=>
  refine AN (AB m) ?_
  exact BK.and (ha ok (AB (AA m))) (hb ok (AA (AA m)))
theorem dj {a b:E}(ha:GX w T K Φ n a)(hb:GX w T K Φ n b):GX w T K Φ n (.or a b):=fun {C t op es env nm pins fr} ok m=>by
 refine Be m fun e1 r m=>?_
 cases r with
 | nil=>
  refine Nl m fun o es q m=>?_
  refine Be m fun e1 r m=>?_
  refine Be m fun e2 r m=>?_
  refine AN (AB m) ?_
  exact BK.exp (BK.or (ha ok (AB (AA m))) (hb ok (AA (AA m))))
 | cons e2 r=>
  refine AN (AB m) ?_
  exact BK.or (ha ok (AB (AA m))) (hb ok (AA (AA m)))
theorem aK {a:E}(ha:GX w T K Φ n a):GX w T K Φ n (.not a):=fun {C t op es env nm pins fr} ok m=>by
 refine Ah m fun e m=>?_
 refine Iz m fun o l q m=>?_
 refine AN (AB m) ?_
 cases t with
 | true=>exact⟨fun _=>Vn (ha ok (AA m)).toT,fun e=>(nomatch e)⟩
 | false=>exact⟨fun e=>(nomatch e),fun _=>WR (ha ok (AA m)).toE⟩
theorem bG (Sa:Ac T K){o:Nb}{a b:E}(ha:GX w T K Φ n a)(hb:GX w T K Φ n b):GX w T K Φ n (.cmp o a b):=fun {C t op es env nm pins fr} ok m=>by
 refine Ie m fun l p r q m=>?_
 refine AN (AB m) ?_
 have m:=AA m
 have m1:=(Bool.not_eq_true' _).mp (AB m)
 have ha:=(ha ok (AB (AA m))).toE
 have hb:=(hb ok (AA (AA m))).toE
 exact BK.two (Vv Sa ha hb m1) (WJ Sa ha hb m1)
theorem Y4 (Sa:Ac T K){o o':Nb}{a b c:E}(ha:GX w T K Φ n a)(hb:GX w T K Φ n b)(hc:GX w T K Φ n c):GX w T K Φ n (.cmp2 o o' a b c):=fun {C t op es env nm pins fr} ok m=>by
 refine Ah m fun e m=>?_
 refine QT m fun l ps rs q m=>?_
 refine Lr m fun p p' m=>?_
 refine Lr m fun r r' m=>?_
 refine AN (AB m) ?_
 have m:=AA m
 refine AN (AB m) ?_
 have m:=AA m
 have m1:=(Bool.not_eq_true' _).mp (AB m)
 have m:=AA m
 have ha:=(ha ok (AB m)).toE
 have hb:=(hb ok (AB (AA m))).toE
 have hc:=(hc ok (AA (AA m))).toE
 exact BK.two (TM Sa ha hb hc m1) (SE Sa ha hb hc m1)
theorem Tu {a:E}{pos:Bool}(ha:GX w T K Φ n a):GX w T K Φ n (.isNone a pos):=fun {C t op es env nm pins fr} ok m=>by
 refine Ie m fun l p r q m=>?_
 refine AN (AB m) ?_
 have m:=AA m
 refine HL (AB m) fun c k p m1=>?_
 refine AN m1 ?_
 have ha:=(ha ok (AA m)).toE
 exact BK.two (QF ha) (PP ha)
theorem ZL {a b:E}{pos:Bool}(ha:GX w T K Φ n a)(hb:GX w T K Φ n b):GX w T K Φ n (.same a b pos):=fun {C t op es env nm pins fr} ok m=>by
 refine Ie m fun l p r q m=>?_
 refine AN (AB m) ?_
 have m:=AA m
 have ha:=(ha ok (AB (AA m))).toE
 have hb:=(hb ok (AA (AA m))).toE
 exact BK.two (SJ ha hb (AB m)) (TE ha hb (AB m))
theorem cM {i:Int}:GX w T K Φ n (.int i):=fun {C t op es env nm pins fr} ok m=>by
 refine Ah m fun e m=>?_
 rcases (Bool.or_eq_true _ _).mp m with m | m
 ·refine BX m fun k p=>?_
  exact BK.one (WO _ _ _) (pl rfl)
 ·refine Iz m fun o l q m=>?_
  refine AN (AB m) ?_
  refine BX (AA m) fun k p=>?_
  exact BK.one (by have h:=PO (Φ:=Φ) (K:=K) (n:=n) (fr:=fr) (i:=-i) (k:=k) (p:=p) (pos:=q);rwa [Int.neg_neg] at h) (pl rfl)
theorem be {x:List Nat}:GX w T K Φ n (.str x):=fun {C t op es env nm pins fr} ok m=>by
 refine Gw m fun c k p m=>?_
 refine AN m ?_
 exact BK.one (Vx _ _ _) (pl rfl)
theorem ZT {b:Bool}:GX w T K Φ n (.bool b):=fun {C t op es env nm pins fr} ok m=>by
 refine Gw m fun c k p m=>?_
 refine AN m ?_
 exact BK.one (TP _ _ _) (pl rfl)
theorem Yt:GX w T K Φ n .none:=fun {C t op es env nm pins fr} ok m=>by
 refine Gw m fun c k p m=>?_
 refine AN m ?_
 exact BK.one (TK _ _) (pl rfl)
theorem ND {C:Cx}{x:Str}(h:Gl C x=true):(x==("__debug__":Str))=false:=(Bool.not_eq_true' _).mp (AA h)
theorem YI (Sa:Ac T K){g:Nat}:GX w T K Φ n (.glob g):=fun {C t op es env nm pins fr} ok m=>by
 refine Ah m fun e m=>?_
 refine AX m fun x p m=>?_
 have m1:=AB (AA m)
 have m2:=AA (AA m)
 exact BK.one (Sh Sa (of_decide_eq_true (AB m)) (AB m2) (ok.isG _ (AB m1)) (ND m1) (AA m2)) (pl rfl)
theorem f4 (Sa:Ac T K){p:Pt}:GX w T K Φ n (.rd p):=fun {C t op es env nm pins fr} ok m=>by
 refine Ah m fun e m=>?_
 cases ok.nm
 exact BK.one (UJ Sa (AA m)) (AB m)
theorem eV {i:Nat}:GX w T K Φ n (.mv i):=fun {C t op es env nm pins fr} ok m=>by
 refine Ah m fun e m=>?_
 refine AX m fun x p m=>?_
 cases ok.nm
 exact BK.one (X7 (of_decide_eq_true (AB m)) ((Bool.not_eq_true' _).mp (AA m))) (pl rfl)
theorem am {a j:E}(ha:GX w T K Φ n a)(hj:GX w T K Φ n j):GX w T K Φ n (.idx a j):=fun {C t op es env nm pins fr} ok m=>by
 refine Ah m fun e m=>?_
 refine Ck m fun l r q m=>?_
 exact BK.one (VO (OK (AB m)) (ha ok (AB (AA m))).toE (hj ok (AA (AA m))).toE) (pl rfl)
theorem YS {a:E}{b:Nat}(ha:GX w T K Φ n a):GX w T K Φ n (.slTo a b):=fun {C t op es env nm pins fr} ok m=>by
 refine M2 m fun l x y z p q m=>?_
 refine BA (AB m) ?_
 refine BA (AB (AA m)) ?_
 have m:=AA (AA m)
 refine Cb (AB m) fun y m1=>?_
 refine BX m1 fun k p=>?_
 exact BK.one (To (ha ok (AA m)).toE) (pl rfl)
theorem S4 {a:E}{b:Nat}(ha:GX w T K Φ n a):GX w T K Φ n (.slFrom a b):=fun {C t op es env nm pins fr} ok m=>by
 refine M2 m fun l x y z p q m=>?_
 refine BA (AB m) ?_
 refine BA (AB (AA m)) ?_
 have m:=AA (AA m)
 refine Cb (AB m) fun y m1=>?_
 refine BX m1 fun k p=>?_
 exact BK.one (Px (ha ok (AA m)).toE) (pl rfl)
theorem Y0 {a:E}{b c:Nat}(ha:GX w T K Φ n a):GX w T K Φ n (.slAB a b c):=fun {C t op es env nm pins fr} ok m=>by
 refine M2 m fun l x y z p q m=>?_
 refine BA (AB m) ?_
 have m:=AA m
 refine Cb (AB m) fun x m1=>?_
 refine BX m1 fun k p=>?_
 have m:=AA m
 refine Cb (AB m) fun y m1=>?_
 refine BX m1 fun k p=>?_
 exact BK.one (Um (ha ok (AA m)).toE) (pl rfl)
theorem Vw {a:E}(ha:GX w T K Φ n a):GX w T K Φ n (.slRev a):=fun {C t op es env nm pins fr} ok m=>by
 refine M2 m fun l x y z p q m=>?_
 refine BA (AB m) ?_
 refine BA (AB (AA m)) ?_
 have m:=AA (AA m)
 refine Cb (AB m) fun z m1=>?_
 refine Iz m1 fun o l q m1=>?_
 refine AN (AB m1) ?_
 refine BX (AA m1) fun k p=>?_
 exact BK.one (Rw (ha ok (AA m)).toE) (pl rfl)
theorem Z9 {a:E}(ha:GX w T K Φ n a):GX w T K Φ n (.pin a):=fun {C t op es env nm pins fr} ok m=>by
 refine Ah m fun e m=>?_
 exact BK.one (VF (ha ok (AA m)).toE) (AB m)
theorem ai {o:VR}{a b:E}(ha:GX w T K Φ n a)(hb:GX w T K Φ n b):GX w T K Φ n (.bin o a b):=fun {C t op es env nm pins fr} ok m=>by
 refine Ah m fun e m=>?_
 refine VE m fun l p r q m=>?_
 refine AN (AB m) ?_
 exact BK.one (WM (ha ok (AB (AA m))).toE (hb ok (AA (AA m))).toE) (pl rfl)
theorem bp {a:E}(ha:GX w T K Φ n a):GX w T K Φ n (.neg a):=fun {C t op es env nm pins fr} ok m=>by
 refine Ah m fun e m=>?_
 refine Iz m fun o l q m=>?_
 refine AN (AB m) ?_
 exact BK.one (Wt (ha ok (AA m)).toE) (pl rfl)
theorem cU {c a b:E}(hc:GX w T K Φ n c)(ha:GX w T K Φ n a)(hb:GX w T K Φ n b):GX w T K Φ n (.ite c a b):=fun {C t op es env nm pins fr} ok m=>by
 refine Ah m fun e m=>?_
 refine ZM m fun e l r q m=>?_
 cases (Bool.not_eq_true' _).mp (AB m)
 have m:=AA m
 exact⟨fun e=>(nomatch e),fun _=>VB (hc ok (AB m)).toT (ha ok (AB (AA m))).toE (hb ok (AA (AA m))).toE⟩
theorem bL {l:Es}(hl:YL w T K Φ n l):GX w T K Φ n (.tup l):=fun {C t op es env nm pins fr} ok m=>by
 refine Ah m fun e m=>?_
 refine DQ m fun l' k q m=>?_
 exact BK.one (Vd (hl ok (AA m)).2 (of_decide_eq_true (AB m))) (pl rfl)
theorem az {l:Es}(hl:YL w T K Φ n l):GX w T K Φ n (.lst l):=fun {C t op es env nm pins fr} ok m=>by
 refine Ah m fun e m=>?_
 refine Vu m fun l' q m=>?_
 exact BK.one (Vc (hl ok (AA m)).2 (of_decide_eq_true (AB m))) (pl rfl)
theorem ZC:GX w T K Φ n .dct0:=fun {C t op es env nm pins fr} ok m=>by
 refine Ah m fun e m=>?_
 refine WA m fun a b q m=>?_
 refine BL (AB m) ?_
 refine BL (AA m) ?_
 exact BK.one SN (pl rfl)
theorem Q8 {k:DA}(h:Pd k=true):k=.isoctets:=DA.isoctets.elim (motive:=fun k=>k=.isoctets) k (of_decide_eq_true h) rfl
theorem Yu (Sa:Ac T K){k:DA}{l:Es}(hl:YL w T K Φ n l)(h1:∀a,l=.cons a .nil→GX w T K Φ n a):GX w T K Φ n (.prim k l):=fun {C t op es env nm pins fr} ok m=>by
 refine L6 m fun f p l' q m=>?_
 cases hk:JX k with
 | some x=>
  rw [hk] at m
  refine AN (AB m) ?_
  obtain⟨hs,hl⟩:=hl ok (AA (AA m))
  exact BK.one (OZ Sa hs hl hk (ok.isG _ (AB (AB (AA m))))) (pl rfl)
 | none=>
  rw [hk] at m
  refine AN (AB m) ?_
  have m1:=ok.isG _ (AB (AA m))
  refine Lr (AA (AA m)) fun e y m=>?_
  obtain⟨z,rfl,hs,hy⟩:∃y,l=.cons y .nil∧AH e=true∧AK Φ K n fr y e:=by
   have m:=AB m
   cases l with
   | nil=>exact no m
   | cons a r=>
    cases r with
    | cons b r=>exact no (AA (AA m))
    | nil=>exact⟨a,rfl,AB m,(h1 a rfl ok (AB (AA m))).toE⟩
  have m:=AA m
  cases ho:Pd k with
  | false=>
   rw [ho] at m
   refine AX m fun y p m=>?_
   exact BK.one (Rg Sa m1 hs hy (of_decide_eq_true (AB m)) (ok.isG _ (AB (AA m)))) (pl rfl)
  | true=>
   rw [ho] at m
   cases Q8 ho
   refine DQ m fun ys k q m=>?_
   refine Be m fun y1 ys m=>?_
   refine Be m fun y2 ys m=>?_
   refine Lr m fun y3 y4 m=>?_
   refine AX (AB m) fun y p n1=>?_
   refine AN n1 ?_
   have m:=AA m
   refine AX (AB m) fun y p n1=>?_
   refine AN n1 ?_
   have m:=AA m
   refine AX (AB m) fun y p n1=>?_
   refine AN n1 ?_
   have m:=AA m
   refine AX (AB m) fun y p n1=>?_
   refine AN n1 ?_
   have m:=AA m
   exact BK.one (P8 Sa m1 (ok.isG _ (AB m)) (ok.isG _ (AB (AA m))) (ok.isG _ (AB (AA (AA m)))) (ok.isG _ (AA (AA (AA m)))) hs hy) (pl rfl)
theorem YR (Sa:Ac T K){p:Pt}:GX w T K Φ n (.lenP p):=fun {C t op es env nm pins fr} ok m=>by
 refine L6 m fun f p l q m=>?_
 refine Ah m fun e m=>?_
 refine AN (AB m) ?_
 cases ok.nm
 have m:=AA m
 exact BK.one (UR Sa (AA (AA m)) (AB (AA m)) (ok.isG _ (AB m))) (pl rfl)
theorem Zb (Sa:Ac T K)(hΦ:∀f,f < T.nf→BZ w T Φ K n f (T.fa f)){f:Nat}{l:As}(hl:Uw w T K Φ n l):GX w T K Φ n (.call f l):=fun {C t op es env nm pins fr} ok m=>by
 refine L6 m fun x p l' q m=>?_
 have m1:=AB (AA m)
 have m2:=AA (AA m)
 obtain⟨hs,hl⟩:=hl ok (AA m2)
 exact BK.one (SW Sa hΦ (of_decide_eq_true (AB m)) (ok.isG _ (AB m1)) (ND m1) hs hl (of_decide_eq_true (AB m2))) (pl rfl)
theorem Y5 (Sa:Ac T K)(hΦ:∀f,f < T.nf→BZ w T Φ K n f (T.fa f)){p:Pt}{f:Nat}{l:As}(hl:Uw w T K Φ n l):GX w T K Φ n (.meth p f l):=fun {C t op es env nm pins fr} ok m=>by
 refine Ah m fun e m=>?_
 refine F7 m fun o x p l' q m0 m=>?_
 have m2:=AA (AA m)
 obtain⟨hs,hl⟩:=hl ok (AA m2)
 cases ok.nm
 exact BK.one (UK Sa hΦ (AB m2) (of_decide_eq_true (AB m)) hs (of_decide_eq_true (AB (AA m))) m0 hl) (pl rfl)
theorem aN (Sa:Ac T K)(hΦ:∀f,f < T.nf→BZ w T Φ K n f (T.fa f)){f:Nat}{l:As}(hl:Uw w T K Φ n l):GX w T K Φ n (.new f l):=fun {C t op es env nm pins fr} ok m=>by
 refine L6 m fun x p l' q m=>?_
 have m1:=AB (AA m)
 have m2:=AA (AA m)
 obtain⟨hs,hl⟩:=hl ok (AA m2)
 exact BK.one (VU Sa hΦ (of_decide_eq_true (AB m)) (ok.isG _ (AB m1)) (ND m1) hs hl (of_decide_eq_true (AB m2))) (pl rfl)
theorem Yl (Sa:Ac T K){p:Pt}{k d:E}(hk:GX w T K Φ n k)(hd:GX w T K Φ n d):GX w T K Φ n (.dget p k d):=fun {C t op es env nm pins fr} ok m=>by
 refine Ah m fun e m=>?_
 refine F7 m fun o x p l' q m0 m=>?_
 refine AN (AB m) ?_
 have m:=AA m
 have mp:=AB m
 refine Be (AA m) fun a r m=>?_
 have hk:=(hk ok (AB (AA m))).toE
 have m1:=AB m
 have m:=AA (AA m)
 cases ok.nm
 cases r with
 | nil=>
  refine E.none.elim (motive_1:=fun d=>BK Φ K n fr t op (.dget _ k d) _) d (of_decide_eq_true m) ?_
  exact BK.one (On Sa mp (by simp [m1]) (by simp) m0 (aA m1 hk)) (pl rfl)
 | cons b r=>
  refine BL (AB m) ?_
  have m:=AA m
  exact BK.one (On Sa mp (by simp [m1,AB m]) (by simp) m0 (aL m1 (AB m) hk (hd ok (AA m)).toE)) (pl rfl)
theorem ZX {elt:E}{i:Nat}{it:It}(hi:GI w T K Φ n it)(he:GX w T K Φ n elt):GX w T K Φ n (.comp elt i it):=fun {C t op es env nm pins fr} ok m=>by
 refine Pc m fun e x p iter ifs sc q m=>?_
 refine BL (AB m) ?_
 obtain⟨sn,et,m⟩:=A7 (AA m)
 have m2:=AA (AA m)
 have hi:=hi ok (AB (AA m2))
 rw [AB m2] at hi
 exact BK.one (ok.comp _ _ et _ i _ elt it _ _ _ _ _ (AB m) (AB (AA m)) hi fun env' fr' hs=>(he (Oj hs) (AA (AA m2))).toE) (pl rfl)
theorem SP {elt c:E}{i:Nat}{it:It}(hi:GI w T K Φ n it)(he:GX w T K Φ n elt)(hc:GX w T K Φ n c):GX w T K Φ n (.compIf elt i it c):=fun {C t op es env nm pins fr} ok m=>by
 refine Pc m fun e x p iter ifs sc q m=>?_
 refine Ah m fun ce m=>?_
 obtain⟨sn,et,m⟩:=A7 m
 have m2:=AA (AA m)
 have hi:=hi ok (AB (AA m2))
 rw [AB m2] at hi
 have m3:=AA (AA m2)
 exact BK.one (ok.compIf _ _ et _ i _ elt c it _ _ _ _ _ _ (AB m) (AB (AA m)) hi (fun env' fr' hs=>(he (Oj hs) (AB m3)).toE) fun env' fr' hs=>(hc (Oj hs) (AA m3)).toT) (pl rfl)
theorem WT {elt:E}{i:Nat}{p:Pt}(he:GX w T K Φ n elt):GX w T K Φ n (.compP elt i p):=fun {C t op es env nm pins fr} ok m=>by
 refine Pc m fun e x p iter ifs sc q m=>?_
 refine BL (AB m) ?_
 obtain⟨sn,et,m⟩:=A7 (AA m)
 have m2:=AA (AA m)
 exact BK.one (ok.compP _ _ et _ i _ elt _ _ _ _ _ (AB m) (AB (AA m)) (AB m2) fun env' fr' hs=>(he (Oj hs) (AA m2)).toE) (pl rfl)
theorem cJ (Sa:Ac T K){a:E}{p:Pt}(ha:GX w T K Φ n a):GX w T K Φ n (.inP a p):=fun {C t op es env nm pins fr} ok m=>by
 refine Ie m fun l p r q m=>?_
 refine AN (AB m) ?_
 have m:=AA m
 have m1:=(Bool.not_eq_true' _).mp (AB m)
 have ha:=(ha ok (AB (AA m))).toE
 cases ok.nm
 exact BK.two (V7 Sa ha (AA (AA m)) m1) (V8 Sa ha (AA (AA m)) m1)
theorem bh (Sa:Ac T K){k:DA}{l:Es}(hl:YL w T K Φ n l):GI w T K Φ n (.rng k l):=fun {C e env nm pins fr} ok m=>by
 refine Me m fun f p l' q m=>?_
 refine AN (AB m) ?_
 have m1:=ok.isG _ (AB (AA m))
 have m:=AA (AA m)
 obtain⟨hs,hl⟩:=hl ok (AB m)
 rcases (Bool.or_eq_true _ _).mp (AA m) with m | m
 ·exact DA.range1.elim (motive:=fun k=>Ex Φ K n fr _ _ (.rng k l) _) k (of_decide_eq_true m) (TU Sa m1 hs hl)
 ·exact DA.rangeDown.elim (motive:=fun k=>Ex Φ K n fr _ _ (.rng k l) _) k (of_decide_eq_true m) (TS Sa m1 hs hl)
theorem Yy (Sa:Ac T K){a:E}(ha:GX w T K Φ n a):GI w T K Φ n (.enum a):=fun {C e env nm pins fr} ok m=>by
 refine Me m fun f p l' q m=>?_
 refine Ah m fun l m=>?_
 refine AN (AB m) ?_
 have m2:=AA (AA m)
 exact Ul Sa (ok.isG _ (AB (AA m))) (AB m2) (ha ok (AA m2)).toE
theorem Wu (Sa:Ac T K){p:Pt}:GI w T K Φ n (.items p):=fun {C e env nm pins fr} ok m=>by
 refine F7 m fun o x p l' q m0 m=>?_
 refine BL (AB m) ?_
 refine AN (AB (AA m)) ?_
 cases ok.nm
 exact Rs Sa (AA (AA m)) m0
theorem VS {a:E}{l:Es}(ha:GX w T K Φ n a)(hl:YL w T K Φ n l):YL w T K Φ n (.cons a l):=fun {C es env nm pins fr} ok m=>by
 refine Be m fun e r m=>?_
 have m1:=AB m
 obtain⟨hs,hl⟩:=hl ok (AA (AA m))
 exact⟨by rw [List.all_cons,m1,hs];rfl,FX.cons (AW m1) (ha ok (AB (AA m))).toE hl⟩
theorem Yd {a:E}{l:As}(ha:GX w T K Φ n a)(hl:Uw w T K Φ n l):Uw w T K Φ n (.val a l):=fun {C es env nm pins fr} ok m=>by
 refine Be m fun e r m=>?_
 have m1:=AB m
 obtain⟨hs,hl⟩:=hl ok (AA (AA m))
 exact⟨by rw [List.all_cons,m1,hs];rfl,DG.val m1 (ha ok (AB (AA m))).toE hl⟩
theorem Xu {a:E}{l:As}(ha:GX w T K Φ n a)(hl:Uw w T K Φ n l):Uw w T K Φ n (.own a l):=fun {C es env nm pins fr} ok m=>by
 refine Be m fun e r m=>?_
 have m1:=AB m
 obtain⟨hs,hl⟩:=hl ok (AA (AA m))
 exact⟨by rw [List.all_cons,m1,hs];rfl,DG.own m1 (ha ok (AB (AA m))).toE hl⟩
theorem Yg (Sa:Ac T K){p:Pt}{l:As}(hl:Uw w T K Φ n l):Uw w T K Φ n (.bor p l):=fun {C es env nm pins fr} ok m=>by
 refine Be m fun e r m=>?_
 have m1:=AB m
 obtain⟨hs,hl⟩:=hl ok (AA (AA m))
 cases ok.nm
 exact⟨by rw [List.all_cons,m1,hs];rfl,DG.bor Sa m1 (AB (AA m)) hl⟩
end
section
variable (Sa:Ac T K){Φ:Nat→List V→(V→List V→Prop)→Prop}{n:Nat}(hΦ:∀f,f < T.nf→BZ w T Φ K n f (T.fa f))
include Sa hΦ
mutual
theorem AP:∀x:E,GX w T K Φ n x
 | .bad=>fun ok m=>VK m
 | .and a b=>cA (AP a) (AP b)
 | .or a b=>dj (AP a) (AP b)
 | .not a=>aK (AP a)
 | .cmp o a b=>bG Sa (AP a) (AP b)
 | .cmp2 o o' a b c=>Y4 Sa (AP a) (AP b) (AP c)
 | .isNone a pos=>Tu (AP a)
 | .same a b pos=>ZL (AP a) (AP b)
 | .int i=>cM
 | .str x=>be
 | .bool b=>ZT
 | .none=>Yt
 | .glob g=>YI Sa
 | .rd p=>f4 Sa
 | .mv i=>eV
 | .idx a j=>am (AP a) (AP j)
 | .slTo a b=>YS (AP a)
 | .slFrom a b=>S4 (AP a)
 | .slAB a b c=>Y0 (AP a)
 | .slRev a=>Vw (AP a)
 | .pin a=>Z9 (AP a)
 | .bin o a b=>ai (AP a) (AP b)
 | .neg a=>bp (AP a)
 | .ite c a b=>cU (AP c) (AP a) (AP b)
 | .tup l=>bL (Ja l)
 | .lst l=>az (Ja l)
 | .dct0=>ZC
 | .prim k l=>Yu Sa (Ja l) (ZE l)
 | .lenP p=>YR Sa
 | .call f l=>Zb Sa hΦ (Gn l)
 | .meth p q l=>Y5 Sa hΦ (Gn l)
 | .new c l=>aN Sa hΦ (Gn l)
 | .dget p k d=>Yl Sa (AP k) (AP d)
 | .comp elt i it=>ZX (JQ it) (AP elt)
 | .compIf elt i it c=>SP (JQ it) (AP elt) (AP c)
 | .compP elt i p=>WT (AP elt)
 | .inP a p=>cJ Sa (AP a)
theorem JQ:∀x:It,GI w T K Φ n x
 | .rng k l=>bh Sa (Ja l)
 | .enum a=>Yy Sa (AP a)
 | .items p=>Wu Sa
 | .of a=>fun ok m=>ZJ Sa (AP a ok m).toE
 | .ofL a=>fun ok m=>Wn (AP a ok m).toE
theorem Ja:∀x:Es,YL w T K Φ n x
 | .nil=>fun ok m=>by refine BL m ?_;exact⟨rfl,FX.nil⟩
 | .cons a l=>VS (AP a) (Ja l)
theorem ZE:∀(x:Es) (a:E),x=.cons a .nil→GX w T K Φ n a
 | .nil=>fun _ h=>nomatch h
 | .cons b l=>fun a h=>Es.noConfusion h fun h _=>h▸AP b
theorem Gn:∀x:As,Uw w T K Φ n x
 | .nil=>fun ok m=>by refine BL m ?_;exact⟨rfl,DG.nil⟩
 | .val a l=>Yd (AP a) (Gn l)
 | .bor p l=>Yg Sa (Gn l)
 | .own a l=>Xu (AP a) (Gn l)
end
end
noncomputable def Dg (sc:Scope)(ns:List Str)(pins:List Nat):Cx:=⟨fun i=>ns[i]?,pins,fun n=>sc.names.lookup n==some .globalImplicit,some (sc,ns)⟩
theorem Ed {sc:Scope}{ns:List Str}{scope:Scope}{i:Nat}{x:Str}(h:FK sc ns scope i x=true):DU (fun y=>sc.names.lookup y) scope ns i x∧∀y∈scope.names,y.2=.free→y.1∈ns:=by
 unfold FK at h
 simp only [Bool.and_eq_true] at h
 obtain⟨⟨⟨⟨⟨h1,h2⟩,h3⟩,h4⟩,h5⟩,h6⟩:=h
 have h2:=List.all_eq_true.mp h2
 have h3:=List.all_eq_true.mp h3
 have h5:=List.all_eq_true.mp h5
 refine⟨⟨of_decide_eq_true h1,fun y hy e=>?_,fun y hy e=>?_,of_decide_eq_true h4,fun y hy e=>?_,of_decide_eq_true h6⟩,fun y hy e=>?_⟩
 ·have:=h2 y hy
  rw [e] at this
  exact absurd this (by decide)
 ·have:=h3 y hy
  rw [e] at this
  exact of_decide_eq_true (by simpa using this)
 ·have:=h5 y hy
  rw [e] at this
  simp only [show ((NameKind.free==NameKind.free):Bool)=true from by decide,Bool.not_true,Bool.false_or,Bool.and_eq_true] at this
  exact of_decide_eq_true this.1
 ·have:=h5 y hy
  rw [e] at this
  simp only [show ((NameKind.free==NameKind.free):Bool)=true from by decide,Bool.not_true,Bool.false_or,Bool.and_eq_true] at this
  simpa using this.2
theorem BF (Sa:Ac T K){Φ:Nat→List V→(V→List V→Prop)→Prop}{n:Nat}{sc:Scope}{ns:List Str}{pins:List Nat}{env:Env}{isG:Str→Bool}(hG:isG=fun n=>sc.names.lookup n==some .globalImplicit)(hsc:env.scope=sc)(V0:DW env ns isG)(pv:List (Nat×Value)):
  QJ Φ K n (Dg sc ns pins) (AJ (w:=w) (T:=T) pv V0):=by
 subst hsc
 have clos:∀{scope:Scope} {i:Nat} {x:Str},FK env.scope ns scope i x=true→∃cl,closureFor scope env=pure cl∧∀n,scope.names.lookup n=some .free→cl.lookup n=env.cells.lookup n:=fun {scope i x} h=>by
  obtain⟨CO,inn⟩:=Ed h
  refine J0 scope env fun y hy e=>?_
  rcases V0.kinds y.1 (inn y hy e) with q | q
  ·have:=CO.free y hy e
   have this:env.kindOf y.1=some .cell:=this
   rw [q] at this;cases this
  ·exact q.2
 refine { nm:=rfl,isG:=fun y hy=>by subst hG;exact hy,comp:=?_,compIf:=?_,compP:=?_ }
 ·intro sc ns' etop scope i x elt it e iter px pos tk hc hs hi hb
  cases etop
  obtain⟨cl,e1,e2⟩:=clos hc
  exact Tt V0 (Ed hc).1 e1 e2 hs hi fun C=>hb _ _ rfl
 ·intro sc ns' etop scope i x elt c it e ce iter px pos tk hc hs hi hb hcc
  cases etop
  obtain⟨cl,e1,e2⟩:=clos hc
  exact QC V0 (Ed hc).1 e1 e2 hs hi (fun C=>hb _ _ rfl) fun C=>hcc _ _ rfl
 ·intro sc ns' etop scope i x elt p e iter px pos hc hs hm hb
  cases etop
  obtain⟨cl,e1,e2⟩:=clos hc
  exact Rf Sa V0 (Ed hc).1 e1 e2 hs hm fun C=>hb _ _ rfl
noncomputable def fy (sc:Scope)(ts vs:List Expr):Option (Option (List Str)):=
 if !(ts.length==2||ts.length==3)||vs.length != ts.length||sc.kind != .function then some none
 else if vs.any fun | .Starred ..=>true | _=>false then some none
 else
  let line:=(ts.head?.map (·.pos.line)).getD 0
  let names:=ts.filterMap fun
   | .Name id pos=>if sc.names.lookup id==some .local&&pos.line==line then some id else none
   | _=>none
  if names.length != ts.length||names.eraseDups.length != names.length then some none
  else if vs.all (foldedForSure 8) then some none
  else if vs.all (constantsAlone 8) then none
  else some (some names)
theorem Yw {env:Env}{ts vs:List Expr}{k1 k2:Nat}{p1 p2:Pos}{r:Option (List Str)}(hk:env.scope.kind=.function)(h:fy env.scope ts vs=some r):swappedStores [.Tuple ts k1 p1] (.Tuple vs k2 p2) env=pure r:=by
 have hb:env.blockKind=env.scope.kind:=by unfold Env.blockKind;rw [hk];rfl
 unfold fy at h
 unfold swappedStores
 dsimp only
 rw [hb]
 unfold Env.kindOf
 split at h
 ·rename_i c;cases h;exact if_pos c
 ·rename_i c;refine (if_neg c).trans ?_
  split at h
  ·rename_i c2;cases h;exact if_pos c2
  ·rename_i c2;refine (if_neg c2).trans ?_
   dsimp only at h
   split at h
   ·rename_i c3;cases h;exact if_pos c3
   ·rename_i c3;refine (if_neg c3).trans ?_
    split at h
    ·rename_i c4;cases h;exact if_pos c4
    ·rename_i c4;refine (if_neg c4).trans ?_
     split at h
     ·cases h
     ·rename_i c5;cases h;exact if_neg c5
noncomputable def dP (sc:Scope)(scope:Scope)(pos py:Pos)(y:Str):Bool:=(sc.names.lookup y==some .local&&py.line==pos.line)&&!(scope.names.any fun (n,k)=>n==y&&(k==.local||k==.cell))
theorem ZZ {env:Env}{e:Expr}{gens:List Comprehension}{scope:Scope}{pos py:Pos}{y:Str}{line:Nat}(hk:env.scope.kind=.function)(h:dP env.scope scope pos py y=true):swapsWith (.ListComp e gens scope pos) (some (.Name y py)) line env=pure true:=by
 have hb:env.blockKind=.function:=by unfold Env.blockKind;rw [hk];rfl
 unfold dP at h
 simp only [Bool.and_eq_true] at h
 show (pure _:Sem Bool)=_
 congr 1
 show ((((env.blockKind==.function)&&(env.scope.names.lookup y==some .local))&&(py.line==pos.line))&&!(scope.names.any fun (n,k)=>n==y&&(k==.local||k==.cell)))=true
 rw [hb,h.1.1,h.1.2,h.2]
 rfl
noncomputable def ft (T:Tabs)(C:Cx):Es→List Expr→Bool
 | .nil,es=>l0 es
 | .cons a l,es=>lC es fun e r=>AH e&&(mX T C false .And a [e]&&ft T C l r)
noncomputable def XV (x:S):Bool:=decide (x.ctorIdx=24)
noncomputable def Yj (t:Tg)(f:Nat→Bool):Bool:=match t with | .var i=>f i | .attr _ _=>false
@[elab_as_elim] theorem Qv {t:Tg}{f}{M:Tg→Prop}(h:Yj t f=true)(k:∀i,f i=true→M (.var i)):M t:=match t,h with | .var i,h=>k i h
noncomputable def XQ (x:E)(f:E→Nat→It→Bool):Bool:=if h:x.ctorIdx=32 then E.comp.elim (motive_1:=fun _=>Bool) x h fun a i t=>f a i t else false
@[elab_as_elim] theorem Tb {x:E}{f}{M:E→Prop}(h:XQ x f=true)(k:∀a i t,f a i t=true→M (.comp a i t)):M x:=
 (dt h).elim fun q h=>E.comp.elim (motive_1:=fun x=>∀h,(E.comp.elim (motive_1:=fun _=>Bool) x h fun a i t=>f a i t)=true→M x) x q (fun a i t _=>k a i t) q h
section
variable (T:Tabs)(sc:Scope)(ns:List Str)(pins:List Nat)
noncomputable def nV (i:Nat)(y:Str):Bool:=decide (ns[i]?=some y)&&!pins.contains i
noncomputable def Ni (x:S)(t e:Expr)(q:Pos):Bool:=match x with
 | .assign i x=>Bq t fun y py=>nV ns pins i y&&match Bj e with
  | true=>mX T (Dg sc ns pins) false .And x [e]
  | false=>XQ x fun elt ci it=>fL e fun e1 x1 iter ifs scope q=>l0 ifs&&(dP sc scope q py y&&(FK sc ns scope ci x1&&(Ay iter&&(aF it&&(Zi T (Dg sc ns pins) it iter&&mX T (LR scope ns ci x1) false .And elt [e1])))))
 | .assignTup ts l=>OD t fun te=>OD e fun es=>decide (es.length≤1000)&&(decide (te.length=es.length)&&(ft T (Dg sc ns pins) l es&&Bf (fy sc te es) fun r=>match r with
   | none=>IG T (fun i=>ns[i]?) pins ts te
   | some ab=>l2 ab fun a b=>l2 ts fun t1 t2=>Yj t1 fun i=>Yj t2 fun j=>nV ns pins i a&&(nV ns pins j b&&(decide (i≠j)&&decide (es.length=2)))))
 | .unpack t' x=>OD t fun te=>IG T (fun i=>ns[i]?) pins (t'.map .var) te&&(mX T (Dg sc ns pins) false .And x [e]&&(Bj e&&JG e))
 | .unpackP t' p=>OD t fun te=>IG T (fun i=>ns[i]?) pins (t'.map .var) te&&(mP T (fun i=>ns[i]?) p e&&(Bj e&&JG e))
 | .setattr p a x=>LU t fun o name _=>mP T (fun i=>ns[i]?) p o&&(decide (T.an a=name)&&(mX T (Dg sc ns pins) false .And x [e]&&Bj e))
 | .setitem p j x=>P9 t fun o i=>mP T (fun i=>ns[i]?) p o&&(Zp T (fun i=>ns[i]?) j i&&(mX T (Dg sc ns pins) false .And x [e]&&Bj e))
 | _=>false
noncomputable def Sr (x:S)(t e:Expr):Bool:=match x with
 | .augVar i x=>Bq t fun y _=>nV ns pins i y&&mX T (Dg sc ns pins) false .And x [e]
 | .augAttr p a x=>LU t fun o name _=>mP T (fun i=>ns[i]?) p o&&(decide (T.an a=name)&&a0 T (fun n=>sc.names.lookup n==some .globalImplicit) x e)
 | .augItem p j x=>P9 t fun o i=>mP T (fun i=>ns[i]?) p o&&(Zp T (fun i=>ns[i]?) j i&&a0 T (fun n=>sc.names.lookup n==some .globalImplicit) x e)
 | _=>false
noncomputable def H9 (x:S)(o:Expr)(name:Str)(l:List Expr):Bool:=match x with
 | .append p x=>decide (name=("append":Str))&&l1 l fun e=>AH e&&(mP T (fun i=>ns[i]?) p o&&mX T (Dg sc ns pins) false .And x [e])
 | .appLen p=>decide (name=("append":Str))&&l1 l fun e=>bE e fun f l=>l1 l fun o'=>decide (f=("len":Str))&&((sc.names.lookup ("len":Str)==some .globalImplicit)&&(AH o'&&(mP T (fun i=>ns[i]?) p o&&mP T (fun i=>ns[i]?) p o')))
 | .appendO p x=>decide (name=("append":Str))&&l1 l fun e=>AH e&&(mP T (fun i=>ns[i]?) p o&&mX T (Dg sc ns pins) false .And x [e])
 | .extend p x=>decide (name=("extend":Str))&&l1 l fun e=>AH e&&(mP T (fun i=>ns[i]?) p o&&mX T (Dg sc ns pins) false .And x [e])
 | .extendB p x=>decide (name=("extend":Str))&&l1 l fun e=>AH e&&(mP T (fun i=>ns[i]?) p o&&mX T (Dg sc ns pins) false .And x [e])
 | .pop p=>decide (name=("pop":Str))&&(l0 l&&mP T (fun i=>ns[i]?) p o)
 | _=>false
end
mutual
noncomputable def mS (T:Tabs)(sc:Scope)(ns:List Str)(pins:List Nat):S→Stmt→Bool
 | .bad,_=>true
 | .pass,s=>Xj s fun _=>true
 | .assign i x,s=>Nr s (Ni T sc ns pins (.assign i x))
 | .assignTup i x,s=>Nr s (Ni T sc ns pins (.assignTup i x))
 | .unpack i x,s=>Nr s (Ni T sc ns pins (.unpack i x))
 | .unpackP i x,s=>Nr s (Ni T sc ns pins (.unpackP i x))
 | .setattr p i x,s=>Nr s (Ni T sc ns pins (.setattr p i x))
 | .setitem p i x,s=>Nr s (Ni T sc ns pins (.setitem p i x))
 | .augVar i x,s=>Ue s fun t op e=>decide (op=.Add)&&Sr T sc ns pins (.augVar i x) t e
 | .augAttr p i x,s=>Ue s fun t op e=>decide (op=.Add)&&Sr T sc ns pins (.augAttr p i x) t e
 | .augItem p i x,s=>Ue s fun t op e=>decide (op=.Add)&&Sr T sc ns pins (.augItem p i x) t e
 | .expr x,s=>TR s fun e=>Bj e&&mX T (Dg sc ns pins) false .And x [e]
 | .append p x,s=>Hk s (H9 T sc ns pins (.append p x))
 | .appLen p,s=>Hk s (H9 T sc ns pins (.appLen p))
 | .appendO p x,s=>Hk s (H9 T sc ns pins (.appendO p x))
 | .extend p x,s=>Hk s (H9 T sc ns pins (.extend p x))
 | .extendB p x,s=>Hk s (H9 T sc ns pins (.extendB p x))
 | .pop p,s=>Hk s (H9 T sc ns pins (.pop p))
 | .ifs c a b,s=>ic s fun e b1 b2=>mX T (Dg sc ns pins) true .And c [e]&&(Sl T sc ns pins a b1&&Sl T sc ns pins b b2)
 | .whil c b,s=>Sn s fun e body r=>l0 r&&(mX T (Dg sc ns pins) true .And c [e]&&Sl T sc ns pins b body)
 | .for_ t it b,s=>Vb s fun y e body r=>Bq y fun y _=>l0 r&&(nV ns pins t y&&(Ay e&&(aF it&&(Zi T (Dg sc ns pins) it e&&Sl T sc ns pins b body))))
 | .forT t it b,s=>Vb s fun te e body r=>OD te fun te=>l0 r&&(IG T (fun i=>ns[i]?) pins (t.map .var) te&&(Ay e&&(kC it&&(Zi T (Dg sc ns pins) it e&&Sl T sc ns pins b body))))
 | .forOwn t p k b,s=>Vb s fun y e body r=>Bq y fun y _=>P9 e fun o sl=>Ps sl fun ke x z=>DH x&&(DH z&&(Bf ke fun ke=>l0 r&&(nV ns pins t y&&(mP T (fun i=>ns[i]?) p o&&(mX T (Dg sc ns pins) false .And k [ke]&&Sl T sc ns (t::pins) b body)))))
 | .ret x,s=>YG s fun e=>Bf e fun e=>mX T (Dg sc ns pins) false .And x [e]
 | .ret0,s=>YG s fun e=>DH e
noncomputable def Sl (T:Tabs)(sc:Scope)(ns:List Str)(pins:List Nat):Ss→List Stmt→Bool
 | .nil,es=>l0 es
 | .cons a l,es=>XV a||lC es fun e r=>mS T sc ns pins a e&&Sl T sc ns pins l r
end
theorem LW {ns:List Str}{pins:List Nat}{i:Nat}{y:Str}(h:nV ns pins i y=true):ns[i]?=some y∧i∉pins:=⟨of_decide_eq_true (AB h),by simpa using AA h⟩
noncomputable def gI (env:Env):Str→Bool:=fun n=>env.scope.names.lookup n==some .globalImplicit
section
variable {Φ:Nat→List V→(V→List V→Prop)→Prop}{n:Nat}
noncomputable def gN (w:World)(T:Tabs)(K:Frag)(Φ:Nat→List V→(V→List V→Prop)→Prop)(n:Nat)(x:Es):Prop:=∀{C:Cx} {es:List Expr} {env:Env} {nm:Nat→Option Str} {pins:List Nat} {fr:A8 w T env nm pins},QJ Φ K n C fr→ft T C x es=true→Kn Φ K n fr x es
theorem Wx {a:E}{l:Es}(ha:GX w T K Φ n a)(hl:gN w T K Φ n l):gN w T K Φ n (.cons a l):=fun {C es env nm pins fr} ok m=>by
 refine Be m fun e r m=>?_
 exact Kn.cons (AB m) (ha ok (AB (AA m))).toE (hl ok (AA (AA m)))
theorem SK (Sa:Ac T K)(hΦ:∀f,f < T.nf→BZ w T Φ K n f (T.fa f)):∀x:Es,gN w T K Φ n x
 | .nil=>fun ok m=>by refine BL m ?_;exact Kn.nil
 | .cons a l=>Wx (AP Sa hΦ a) (SK Sa hΦ l)
theorem TJ {x:S}(h:XV x=true):x=.bad:=S.bad.elim (motive_1:=fun x=>x=.bad) x (of_decide_eq_true h) rfl
variable (K Φ n){env:Env}{ns:List Str}(V0:DW env ns (gI env))
noncomputable def GS (x:S):Prop:=∀{pins:List Nat} {e:Stmt} {pv:List (Nat×Value)},pv.map (·.1)=pins→mS T env.scope ns pins x e=true→BH Φ K n (AJ (w:=w) (T:=T) pv V0) x e
noncomputable def Vs (x:Ss):Prop:=∀{pins:List Nat} {e:List Stmt} {pv:List (Nat×Value)},pv.map (·.1)=pins→Sl T env.scope ns pins x e=true→CC Φ K n (AJ (w:=w) (T:=T) pv V0) x e
noncomputable def GA (x:S):Prop:=∀{t e:Expr} {q:Pos} {pv:List (Nat×Value)},Ni T env.scope ns (pv.map (·.1)) x t e q=true→BH Φ K n (AJ (w:=w) (T:=T) pv V0) x (.Assign [t] e q)
noncomputable def GU (x:S):Prop:=∀{t e:Expr} {q:Pos} {pv:List (Nat×Value)},Sr T env.scope ns (pv.map (·.1)) x t e=true→BH Φ K n (AJ (w:=w) (T:=T) pv V0) x (.AugAssign t .Add e q)
noncomputable def GC (x:S):Prop:=∀{o:Expr} {name:Str} {p:Pos} {l:List Expr} {q r:Pos} {pv:List (Nat×Value)},(p.endLine==q.line)=true→H9 T env.scope ns (pv.map (·.1)) x o name l=true→BH Φ K n (AJ (w:=w) (T:=T) pv V0) x (.Expr (.Call (.Attribute o name p) l [] q) r)
variable {K Φ n}{V0}
theorem UH (Sa:Ac T K)(hΦ:∀f,f < T.nf→BZ w T Φ K n f (T.fa f)){i:Nat}{x:E}:GA (w:=w) (T:=T) K Φ n V0 (.assign i x):=fun {t e q pv} m=>by
 have ok:=BF Sa (Φ:=Φ) (n:=n) (w:=w) (pins:=pv.map (·.1)) rfl rfl V0 pv
 refine AX m fun y py m=>?_
 have hi:=LW (AB m)
 have m:=AA m
 cases hc:Bj e with
 | true=>
  rw [hc] at m
  exact Pu (fr:=AJ pv V0) hi.1 hi.2 (AP Sa hΦ x ok m).toE hc
 | false=>
  rw [hc] at m
  refine Tb m fun elt ci it m=>?_
  clear hc
  refine SY m fun e1 x1 p iter ifs scope r m=>?_
  refine BL (AB m) ?_
  have m:=AA m
  have m2:=AA m
  obtain⟨CO,inn⟩:=Ed (AB m2)
  obtain⟨cl,e1,e2⟩:=J0 _ env (fun y hy e=>by
   rcases V0.kinds y.1 (inn y hy e) with q | q
   ·exact nomatch (CO.free y hy e).symm.trans q
   ·exact q.2)
  have m2:=AA m2
  have m3:=AA (AA m2)
  have hi':=JQ Sa hΦ it ok (AB m3)
  rw [AB (AA m2)] at hi'
  exact J1 V0 CO e1 e2 hi.1 hi.2 (ZZ V0.hk (AB m)) (AB m2) hi' fun C=>(AP Sa hΦ elt (Oj (scope:=scope) (fr':=Af V0 pv CO e2 C) rfl) (AA m3)).toE
theorem NP (Sa:Ac T K)(hΦ:∀f,f < T.nf→BZ w T Φ K n f (T.fa f)){ts:List Tg}{l:Es}:GA (w:=w) (T:=T) K Φ n V0 (.assignTup ts l):=fun {t e q pv} m=>by
 have ok:=BF Sa (Φ:=Φ) (n:=n) (w:=w) (pins:=pv.map (·.1)) rfl rfl V0 pv
 refine DQ m fun te k p m=>?_
 refine DQ m fun es k2 p2 m=>?_
 have m1:=of_decide_eq_true (AB m)
 have m:=AA m
 have hx:=SK Sa hΦ l ok (AB (AA m))
 have m2:=of_decide_eq_true (AB m)
 obtain⟨r,hr,m⟩:=A7 (AA (AA m))
 have hr:=Yw V0.hk (k1:=k) (k2:=k2) (p1:=p) (p2:=p2) hr
 cases r with
 | none=>exact Kh Sa (fr:=AJ pv V0) m m1 m2 hx hr
 | some ab=>
  refine Lr (M:=fun ab=>swappedStores [.Tuple te k p] (.Tuple es k2 p2) env=pure (some ab)→_) m (fun a b m hr=>?_) hr
  refine Lr m fun t1 t2 m=>?_
  refine Qv m fun i m=>?_
  refine Qv m fun j m=>?_
  have m3:=AA (AA m)
  exact Jy Sa (fr:=AJ pv V0) (LW (AB m)) (LW (AB (AA m))) (of_decide_eq_true (AB m3)) (of_decide_eq_true (AA m3)) hx hr
theorem Tf (Sa:Ac T K)(hΦ:∀f,f < T.nf→BZ w T Φ K n f (T.fa f)){ts:List Nat}{x:E}:GA (w:=w) (T:=T) K Φ n V0 (.unpack ts x):=fun {t e q pv} m=>by
 refine DQ m fun te k p m=>?_
 have m2:=AA m
 exact Pk Sa (fr:=AJ pv V0) (AB m) (AP Sa hΦ x (BF Sa rfl rfl V0 pv) (AB m2)).toE (AB (AA m2)) (AA (AA m2))
theorem RT (Sa:Ac T K){ts:List Nat}{x:Pt}:GA (w:=w) (T:=T) K Φ n V0 (.unpackP ts x):=fun {t e q pv} m=>by
 refine DQ m fun te k p m=>?_
 have m2:=AA m
 exact OX Sa (fr:=AJ pv V0) (AB m) (AB m2) (AB (AA m2)) (AA (AA m2))
theorem R8 (Sa:Ac T K)(hΦ:∀f,f < T.nf→BZ w T Φ K n f (T.fa f)){p:Pt}{a:Nat}{x:E}:GA (w:=w) (T:=T) K Φ n V0 (.setattr p a x):=fun {t e q pv} m=>by
 refine CI m fun o name p1 m=>?_
 have m2:=AA m
 exact Nt Sa (fr:=AJ pv V0) (AB m) (of_decide_eq_true (AB m2)) (AP Sa hΦ x (BF Sa rfl rfl V0 pv) (AB (AA m2))).toE (AA (AA m2))
theorem RA (Sa:Ac T K)(hΦ:∀f,f < T.nf→BZ w T Φ K n f (T.fa f)){p:Pt}{j:Ix}{x:E}:GA (w:=w) (T:=T) K Φ n V0 (.setitem p j x):=fun {t e q pv} m=>by
 refine Ck m fun o i p1 m=>?_
 have m2:=AA m
 exact Nf Sa (fr:=AJ pv V0) (AB m) (AB m2) (AP Sa hΦ x (BF Sa rfl rfl V0 pv) (AB (AA m2))).toE (AA (AA m2))
theorem aV (Sa:Ac T K)(hΦ:∀f,f < T.nf→BZ w T Φ K n f (T.fa f)){i:Nat}{x:E}:GU (w:=w) (T:=T) K Φ n V0 (.augVar i x):=fun {t e q pv} m=>by
 refine AX m fun y p m=>?_
 have hi:=LW (AB m)
 exact QI (fr:=AJ pv V0) hi.1 hi.2 (AP Sa hΦ x (BF Sa rfl rfl V0 pv) (AA m)).toE
theorem YM (Sa:Ac T K){p:Pt}{a:Nat}{x:E}:GU (w:=w) (T:=T) K Φ n V0 (.augAttr p a x):=fun {t e q pv} m=>by
 refine CI m fun o name p1 m=>?_
 exact N8 Sa (fr:=AJ pv V0) (AB m) (of_decide_eq_true (AB (AA m))) (AA (AA m))
theorem Za (Sa:Ac T K){p:Pt}{j:Ix}{x:E}:GU (w:=w) (T:=T) K Φ n V0 (.augItem p j x):=fun {t e q pv} m=>by
 refine Ck m fun o i p1 m=>?_
 exact O1 Sa (fr:=AJ pv V0) (AB m) (AB (AA m)) (AA (AA m))
theorem Tj (Sa:Ac T K)(hΦ:∀f,f < T.nf→BZ w T Φ K n f (T.fa f)){p:Pt}{x:E}:GC (w:=w) (T:=T) K Φ n V0 (.append p x):=fun {o name p l q r pv} h m=>by
 refine AN (AB m) ?_
 refine Ah (AA m) fun e m=>?_
 have m2:=AA m
 exact QM Sa (fr:=AJ pv V0) (AB m2) (AB m) h (AP Sa hΦ x (BF Sa rfl rfl V0 pv) (AA m2)).toE
theorem RY (Sa:Ac T K)(hΦ:∀f,f < T.nf→BZ w T Φ K n f (T.fa f)){p:Pt}{x:E}:GC (w:=w) (T:=T) K Φ n V0 (.appendO p x):=fun {o name p l q r pv} h m=>by
 refine AN (AB m) ?_
 refine Ah (AA m) fun e m=>?_
 have m2:=AA m
 exact NR Sa (fr:=AJ pv V0) (AB m2) (AB m) h (AP Sa hΦ x (BF Sa rfl rfl V0 pv) (AA m2)).toE
theorem UV (Sa:Ac T K)(hΦ:∀f,f < T.nf→BZ w T Φ K n f (T.fa f)){p:Pt}{x:E}:GC (w:=w) (T:=T) K Φ n V0 (.extend p x):=fun {o name p l q r pv} h m=>by
 refine AN (AB m) ?_
 refine Ah (AA m) fun e m=>?_
 have m2:=AA m
 exact Po Sa (fr:=AJ pv V0) (AB m2) (AB m) h (AP Sa hΦ x (BF Sa rfl rfl V0 pv) (AA m2)).toE
theorem RS (Sa:Ac T K)(hΦ:∀f,f < T.nf→BZ w T Φ K n f (T.fa f)){p:Pt}{x:E}:GC (w:=w) (T:=T) K Φ n V0 (.extendB p x):=fun {o name p l q r pv} h m=>by
 refine AN (AB m) ?_
 refine Ah (AA m) fun e m=>?_
 have m2:=AA m
 exact Nu Sa (fr:=AJ pv V0) (AB m2) (AB m) h (AP Sa hΦ x (BF Sa rfl rfl V0 pv) (AA m2)).toE
theorem Uu (Sa:Ac T K){p:Pt}:GC (w:=w) (T:=T) K Φ n V0 (.appLen p):=fun {o name p l q r pv} h m=>by
 refine AN (AB m) ?_
 refine Ah (AA m) fun e m=>?_
 refine Me m fun f p l q m=>?_
 refine Ah m fun o' m=>?_
 refine AN (AB m) ?_
 have m:=AA m
 have m2:=AA m
 exact Ph Sa (fr:=AJ pv V0) (AB (AA m2)) (AA (AA m2)) (AB m2) (AB m) h
theorem a5 (Sa:Ac T K){p:Pt}:GC (w:=w) (T:=T) K Φ n V0 (.pop p):=fun {o name p l q r pv} h m=>by
 refine AN (AB m) ?_
 refine BL (AB (AA m)) ?_
 exact Vt Sa (fr:=AJ pv V0) (AA (AA m)) h
theorem La {x:S}(h:GA (w:=w) (T:=T) K Φ n V0 x){pins:List Nat}{e:Stmt}{pv:List (Nat×Value)}(hp:pv.map (·.1)=pins)(m:Nr e (Ni T env.scope ns pins x)=true):BH Φ K n (AJ (w:=w) (T:=T) pv V0) x e:=by
 refine Wv m fun t e p m=>?_
 exact h (hp▸m)
theorem Ui {x:S}(h:GU (w:=w) (T:=T) K Φ n V0 x){pins:List Nat}{e:Stmt}{pv:List (Nat×Value)}(hp:pv.map (·.1)=pins)(m:(Ue e fun t op e=>decide (op=.Add)&&Sr T env.scope ns pins x t e)=true):BH Φ K n (AJ (w:=w) (T:=T) pv V0) x e:=by
 refine Wf m fun t op e p m=>?_
 refine AN (AB m) ?_
 exact h (hp▸AA m)
theorem HG {x:S}(h:GC (w:=w) (T:=T) K Φ n V0 x){pins:List Nat}{e:Stmt}{pv:List (Nat×Value)}(hp:pv.map (·.1)=pins)(m:Hk e (H9 T env.scope ns pins x)=true):BH Φ K n (AJ (w:=w) (T:=T) pv V0) x e:=by
 refine TY m fun o name p l q r h2 m=>?_
 exact h h2 (hp▸m)
theorem YV (Sa:Ac T K)(hΦ:∀f,f < T.nf→BZ w T Φ K n f (T.fa f)){x:E}:GS (w:=w) (T:=T) K Φ n V0 (.expr x):=fun {pins e pv} hp m=>by
 refine Np m fun e p m=>?_
 exact RC (fr:=AJ pv V0) (AP Sa hΦ x (BF Sa rfl rfl V0 pv) (AA m)).toE (AB m)
theorem aR (Sa:Ac T K)(hΦ:∀f,f < T.nf→BZ w T Φ K n f (T.fa f)){c:E}{a b:Ss}(ha:Vs (w:=w) (T:=T) K Φ n V0 a)(hb:Vs (w:=w) (T:=T) K Φ n V0 b):GS (w:=w) (T:=T) K Φ n V0 (.ifs c a b):=fun {pins e pv} hp m=>by
 refine YT m fun e b1 b2 p m=>?_
 exact X0 (fr:=AJ pv V0) (AP Sa hΦ c (BF Sa rfl rfl V0 pv) (AB m)).toT (ha hp (AB (AA m))) (hb hp (AA (AA m)))
theorem X8 (Sa:Ac T K)(hΦ:∀f,f < T.nf→BZ w T Φ K n f (T.fa f)){c:E}{b:Ss}(hb:Vs (w:=w) (T:=T) K Φ n V0 b):GS (w:=w) (T:=T) K Φ n V0 (.whil c b):=fun {pins e pv} hp m=>by
 refine RB m fun e body r p m=>?_
 refine BL (AB m) ?_
 have m:=AA m
 exact RI (fr:=AJ pv V0) (AP Sa hΦ c (BF Sa rfl rfl V0 pv) (AB m)).toT (hb hp (AA m))
theorem cb (Sa:Ac T K)(hΦ:∀f,f < T.nf→BZ w T Φ K n f (T.fa f)){t:Nat}{it:It}{b:Ss}(hb:Vs (w:=w) (T:=T) K Φ n V0 b):GS (w:=w) (T:=T) K Φ n V0 (.for_ t it b):=fun {pins e pv} hp m=>by
 refine MA m fun y e body r p m=>?_
 refine AX m fun y p m=>?_
 refine BL (AB m) ?_
 have m:=AA m
 have hi:=LW (AB m)
 have m:=AA m
 have m2:=AA m
 have m3:=AA m2
 have h:=JQ Sa hΦ it (BF Sa rfl rfl V0 pv) (AB m3)
 rw [AB m2] at h
 exact Vf (fr:=AJ pv V0) hi.1 (hp▸hi.2) h (hb hp (AA m3)) (AB m)
theorem ZB (Sa:Ac T K)(hΦ:∀f,f < T.nf→BZ w T Φ K n f (T.fa f)){t:List Nat}{it:It}{b:Ss}(hb:Vs (w:=w) (T:=T) K Φ n V0 b):GS (w:=w) (T:=T) K Φ n V0 (.forT t it b):=fun {pins e pv} hp m=>by
 refine MA m fun y e body r p m=>?_
 refine DQ m fun te k p m=>?_
 refine BL (AB m) ?_
 have m:=AA m
 have m1:=AA m
 have m2:=AA m1
 have m3:=AA m2
 have h:=JQ Sa hΦ it (BF Sa rfl rfl V0 pv) (AB m3)
 rw [AB m2] at h
 exact Sk Sa (fr:=AJ pv V0) (hp▸AB m) h (hb hp (AA m3)) (AB m1)
theorem TC (Sa:Ac T K)(hΦ:∀f,f < T.nf→BZ w T Φ K n f (T.fa f)){t:Nat}{p:Pt}{k:E}{b:Ss}(hb:Vs (w:=w) (T:=T) K Φ n V0 b):GS (w:=w) (T:=T) K Φ n V0 (.forOwn t p k b):=fun {pins e pv} hp m=>by
 refine MA m fun y e body r p m=>?_
 refine AX m fun y p m=>?_
 refine Ck m fun o sl q m=>?_
 refine Lg m fun ke x z q m=>?_
 refine BA (AB m) ?_
 have m:=AA m
 refine BA (AB m) ?_
 refine Cb (AA m) fun ke m=>?_
 refine BL (AB m) ?_
 have m:=AA m
 have hi:=LW (AB m)
 have m:=AA m
 have m2:=AA m
 exact PG Sa V0 hi.1 (hp▸hi.2) (AB m) (AP Sa hΦ k (BF Sa rfl rfl V0 pv) (AB m2)).toE fun v=>hb (pv:=(t,v)::pv) (hp▸rfl) (AA m2)
theorem bQ (Sa:Ac T K)(hΦ:∀f,f < T.nf→BZ w T Φ K n f (T.fa f)){x:E}:GS (w:=w) (T:=T) K Φ n V0 (.ret x):=fun {pins e pv} hp m=>by
 refine Qn m fun e p m=>?_
 refine Cb m fun e m=>?_
 exact V4 (fr:=AJ pv V0) (AP Sa hΦ x (BF Sa rfl rfl V0 pv) m).toE
theorem U4 {a:S}{l:Ss}(ha:GS (w:=w) (T:=T) K Φ n V0 a)(hl:Vs (w:=w) (T:=T) K Φ n V0 l):Vs (w:=w) (T:=T) K Φ n V0 (.cons a l):=fun {pins es pv} hp m=>by
 rcases (Bool.or_eq_true _ _).mp m with m | m
 ·obtain rfl:=TJ m
  exact fun Kx B σ hp F s A Q Er W=>W.elim
 ·refine Be m fun e r m=>?_
  exact CC.cons (ha hp (AB m)) (hl hp (AA m))
variable (V0)
mutual
theorem bw (Sa:Ac T K)(hΦ:∀f,f < T.nf→BZ w T Φ K n f (T.fa f)):∀x:S,GS (w:=w) (T:=T) K Φ n V0 x
 | .bad=>fun hp m=>fun Kx B σ hp F s A Q Er W=>W.elim
 | .pass=>fun hp m=>by refine Tq m fun p _=>?_;exact Se
 | .assign i x=>La (UH Sa hΦ)
 | .assignTup ts l=>La (NP Sa hΦ)
 | .unpack t x=>La (Tf Sa hΦ)
 | .unpackP t p=>La (RT Sa)
 | .setattr p a x=>La (R8 Sa hΦ)
 | .setitem p j x=>La (RA Sa hΦ)
 | .augVar i x=>Ui (aV Sa hΦ)
 | .augAttr p a x=>Ui (YM Sa)
 | .augItem p j x=>Ui (Za Sa)
 | .expr x=>YV Sa hΦ
 | .append p x=>HG (Tj Sa hΦ)
 | .appLen p=>HG (Uu Sa)
 | .appendO p x=>HG (RY Sa hΦ)
 | .extend p x=>HG (UV Sa hΦ)
 | .extendB p x=>HG (RS Sa hΦ)
 | .pop p=>HG (a5 Sa)
 | .ifs c a b=>aR Sa hΦ (EX Sa hΦ a) (EX Sa hΦ b)
 | .whil c b=>X8 Sa hΦ (EX Sa hΦ b)
 | .for_ t it b=>cb Sa hΦ (EX Sa hΦ b)
 | .forT t it b=>ZB Sa hΦ (EX Sa hΦ b)
 | .forOwn t p k b=>TC Sa hΦ (EX Sa hΦ b)
 | .ret x=>bQ Sa hΦ
 | .ret0=>fun hp m=>by refine Qn m fun e p m=>?_;refine BA m ?_;exact TX
theorem EX (Sa:Ac T K)(hΦ:∀f,f < T.nf→BZ w T Φ K n f (T.fa f)):∀x:Ss,Vs (w:=w) (T:=T) K Φ n V0 x
 | .nil=>fun hp m=>by refine BL m ?_;exact CC.nil
 | .cons a l=>U4 (bw Sa hΦ a) (EX Sa hΦ l)
end
end
theorem ar (Sa:Ac T K){Φ:Nat→List V→(V→List V→Prop)→Prop}{n:Nat}(hΦ:∀f,f < T.nf→BZ w T Φ K n f (T.fa f)){env:Env}{sc:Scope}{ns:List Str}{pins:List Nat}{pv:List (Nat×Value)}{x:Ss}{e:List Stmt}(hsc:env.scope=sc)
  (V0:DW env ns (fun n=>sc.names.lookup n==some .globalImplicit)) (hp:pv.map (·.1)=pins) (m:Sl T sc ns pins x e=true):CC Φ K n (AJ (w:=w) (T:=T) pv V0) x e:=by
 subst hsc;exact EX V0 Sa hΦ x hp m
noncomputable def AR (T:Tabs)(K:Frag)(f:Nat):Prop:=∃fd ns body,FnAt T K f (T.fa f) fd ns body∧Sl T fd.scope ns (T.fn f).mut_ (T.fn f).body body=true
theorem Tx (Sa:Ac T K)(hf:∀f,f < T.nf→AR T K f):∀n f,f < T.nf→BZ w T (AG T n) K n f (T.fa f)
 | 0,f,h=>fun Kx xs vs B hp F s A R W=>W.elim
 | n+1,f,h=>by
  obtain⟨fd,ns,body,X,m⟩:=hf f h
  exact cX X Sa.nolim fun env pv hp V0 hsc=>ar Sa (Tx Sa hf n) hsc V0 hp m
end
section
open PySem PySem.W PyProof.Rows PySem.Calls
noncomputable abbrev E.v(i:Nat):E:=.rd (.var i)
noncomputable abbrev E.a(i a:Nat):E:=.rd (.attr (.var i) a)
noncomputable def JC:Ss:=.cons (.ret (.and (.prim .isint (.cons (.v 0) .nil)) (.and (.not (.prim .isbool (.cons (.v 0) .nil))) (.cmp2 .le .le (.v 1) (.v 0) (.v 2))))) .nil
noncomputable def E5:Ss:=.cons (.ifs (.or (.not (.prim .isint (.cons (.v 0) .nil))) (.prim .isbool (.cons (.v 0) .nil))) (.cons .bad .nil) .nil) (.cons (.ret (.v 0)) .nil)
noncomputable def Eb:Ss:=.cons (.ifs (.not (.cmp2 .le .le (.neg (.glob 0)) (.call 1 (.val (.v 0) .nil)) (.glob 0))) (.cons .bad .nil) .nil) (.cons (.ret (.v 0)) .nil)
noncomputable def FL:Ss:=.cons (.ifs (.not (.cmp2 .le .le (.neg (.glob 1)) (.call 1 (.val (.v 0) .nil)) (.glob 1))) (.cons .bad .nil) .nil) (.cons (.ret (.v 0)) .nil)
noncomputable def LK:Ss:=.cons (.ifs (.cmp .le (.v 1) (.int 0)) (.cons .bad .nil) .nil) (.cons (.ifs (.cmp .lt (.v 0) (.int 0)) (.cons (.ret (.neg (.bin .fdiv (.bin .sub (.v 1) (.bin .mul (.int 2) (.v 0))) (.bin .mul (.int 2) (.v 1))))) .nil) .nil) (.cons (.ret (.bin .fdiv (.bin .add (.bin .mul (.int 2) (.v 0)) (.v 1)) (.bin .mul (.int 2) (.v 1)))) .nil))
noncomputable def GP:Ss:=.cons (.ifs (.not (.call 0 (.val (.v 0) (.val (.int 0) (.val (.int 255) .nil))))) (.cons .bad .nil) .nil) (.cons (.ret (.v 0)) .nil)
noncomputable def FO:Ss:=.cons (.ifs (.cmp .gt (.v 0) (.glob 2)) (.cons .bad .nil) .nil) .nil
noncomputable def CK:Ss:=.cons (.ifs (.cmp .eq (.a 0 0) (.glob 3)) (.cons (.ret (.tup (.cons (.glob 4) (.cons (.glob 3) (.cons (.a 0 2) (.cons (.a 0 1) .nil)))))) .nil) .nil) (.cons (.ifs (.cmp .eq (.a 0 0) (.glob 5)) (.cons (.ret (.tup (.cons (.glob 4) (.cons (.glob 5) (.cons (.a 0 2) (.cons (.prim .tuple (.cons (.comp (.prim .ord (.cons (.v 1) .nil)) 1 (.of (.a 0 3))) .nil)) .nil)))))) .nil) .nil) (.cons (.ret (.ite (.cmp .eq (.a 0 0) (.glob 6)) (.tup (.cons (.glob 4) (.cons (.glob 6) (.cons (.a 0 2) .nil)))) (.tup (.cons (.glob 4) (.cons (.glob 7) (.cons (.prim .tuple (.cons (.a 0 4) .nil)) .nil)))))) .nil))
noncomputable def DP:Ss:=.cons (.assign 2 (.a 0 5)) (.cons (.ifs (.cmp .eq (.v 2) (.glob 8)) (.cons (.ret (.tup (.cons (.glob 8) (.cons (.call 10 (.val (.a 0 8) (.val (.bin .add (.v 1) (.int 1)) .nil))) (.cons (.call 10 (.val (.a 0 7) (.val (.bin .add (.v 1) (.int 1)) .nil))) (.cons (.call 10 (.val (.a 0 6) (.val (.bin .add (.v 1) (.int 1)) .nil))) .nil)))))) .nil) .nil) (.cons (.ifs (.cmp .eq (.v 2) (.glob 9)) (.cons (.ret (.tup (.cons (.glob 9) (.cons (.a 0 14) (.cons (.a 0 13) (.cons (.a 0 12) (.cons (.meth (.attr (.var 0) 11) 0 .nil) (.cons (.a 0 10) (.cons (.call 10 (.val (.a 0 9) (.val (.bin .add (.v 1) (.int 1)) .nil))) .nil))))))))) .nil) .nil) (.cons (.ifs (.cmp .eq (.v 2) (.glob 10)) (.cons (.ret (.tup (.cons (.glob 10) (.cons (.call 10 (.val (.a 0 9) (.val (.bin .add (.v 1) (.int 1)) .nil))) .nil)))) .nil) .nil) (.cons (.ifs (.cmp .eq (.v 2) (.glob 4)) (.cons (.ret (.call 7 (.val (.v 0) .nil))) .nil) .nil) (.cons (.ifs (.cmp .eq (.v 2) (.glob 11)) (.cons (.assign 3 (.tup (.cons (.rd (.attr (.attr (.var 0) 15) 18)) (.cons (.prim .tuple (.cons (.rd (.attr (.attr (.var 0) 15) 17)) .nil)) (.cons (.prim .tuple (.cons (.rd (.attr (.attr (.var 0) 15) 16)) .nil)) .nil))))) (.cons (.assign 4 (.tup (.cons (.a 0 22) (.cons (.a 0 21) (.cons (.a 0 12) (.cons (.a 0 20) (.cons (.ite (.a 0 19) (.int 1) (.int 0)) .nil))))))) (.cons (.ret (.bin .add (.bin .add (.bin .add (.tup (.cons (.glob 11) .nil)) (.v 4)) (.v 3)) (.tup (.cons (.call 10 (.val (.a 0 9) (.val (.bin .add (.v 1) (.int 1)) .nil))) .nil)))) .nil))) .nil) (.cons .bad .nil))))))
noncomputable def Hh:Ss:=.cons (.expr (.call 6 (.val (.v 1) .nil))) (.cons (.assign 2 (.a 0 5)) (.cons (.ifs (.cmp .eq (.v 2) (.glob 12)) (.cons (.ret (.tup (.cons (.glob 12) (.cons (.rd (.attr (.attr (.var 0) 24) 14)) (.cons (.a 0 23) .nil))))) .nil) .nil) (.cons (.ifs (.cmp .eq (.v 2) (.glob 13)) (.cons (.ret (.tup (.cons (.glob 13) (.cons (.rd (.attr (.attr (.var 0) 24) 14)) (.cons (.a 0 23) (.cons (.a 0 27) (.cons (.ite (.a 0 26) (.int 1) (.int 0)) (.cons (.ite (.a 0 25) (.int 1) (.int 0)) .nil)))))))) .nil) .nil) (.cons (.ifs (.or (.cmp .eq (.v 2) (.glob 15)) (.cmp .eq (.v 2) (.glob 14))) (.cons (.assign 3 (.tup (.cons (.a 0 22) (.cons (.a 0 21) (.cons (.a 0 12) (.cons (.a 0 31) (.cons (.a 0 30) (.cons (.a 0 29) (.cons (.a 0 28) .nil))))))))) (.cons (.ret (.bin .add (.bin .add (.tup (.cons (.v 2) .nil)) (.v 3)) (.tup (.cons (.call 10 (.val (.a 0 9) (.val (.bin .add (.v 1) (.int 1)) .nil))) .nil)))) .nil)) .nil) (.cons (.ifs (.cmp .eq (.v 2) (.glob 16)) (.cons (.ret (.bin .add (.tup (.cons (.glob 16) .nil)) (.prim .tuple (.cons (.comp (.ite (.isNone (.v 4) true) (.tup .nil) (.tup (.cons (.v 4) .nil))) 4 (.of (.tup (.cons (.a 0 22) (.cons (.a 0 21) (.cons (.a 0 12) .nil)))))) .nil)))) .nil) .nil) (.cons (.ifs (.cmp .eq (.v 2) (.glob 17)) (.cons (.ret (.tup (.cons (.glob 17) (.cons (.a 0 22) (.cons (.a 0 0) .nil))))) .nil) .nil) (.cons (.ifs (.cmp .eq (.v 2) (.glob 18)) (.cons (.ret (.tup (.cons (.glob 18) (.cons (.meth (.attr (.var 0) 33) 0 .nil) (.cons (.a 0 0) (.cons (.ite (.isNone (.a 0 32) true) (.tup .nil) (.call 9 (.val (.a 0 32) (.val (.bin .add (.v 1) (.int 1)) .nil)))) .nil)))))) .nil) .nil) (.cons (.ifs (.cmp .eq (.v 2) (.glob 19)) (.cons (.ret (.tup (.cons (.glob 19) (.cons (.a 0 34) .nil)))) .nil) .nil) (.cons (.ifs (.cmp .eq (.v 2) (.glob 20)) (.cons (.ret (.tup (.cons (.glob 20) (.cons (.a 0 1) .nil)))) .nil) .nil) (.cons (.ifs (.cmp .eq (.v 2) (.glob 21)) (.cons (.ret (.tup (.cons (.glob 21) (.cons (.ite (.a 0 35) (.int 1) (.int 0)) (.cons (.a 0 22) .nil))))) .nil) .nil) (.cons (.ret (.call 8 (.val (.v 0) (.val (.v 1) .nil)))) .nil)))))))))))
noncomputable def C1:Ss:=.cons (.ret (.prim .tuple (.cons (.comp (.call 9 (.val (.v 2) (.val (.v 1) .nil))) 2 (.of (.v 0))) .nil))) .nil
noncomputable def JP:Ss:=.cons (.assign 1 (.a 0 5)) (.cons (.ifs (.or (.cmp .eq (.v 1) (.glob 12)) (.cmp .eq (.v 1) (.glob 13))) (.cons (.ret (.meth (.attr (.var 0) 24) 14 (.val (.a 0 23) .nil))) .nil) .nil) (.cons (.ifs (.or (.cmp .eq (.v 1) (.glob 15)) (.or (.cmp .eq (.v 1) (.glob 14)) (.or (.cmp .eq (.v 1) (.glob 17)) (.or (.cmp .eq (.v 1) (.glob 21)) (.cmp .eq (.v 1) (.glob 11)))))) (.cons (.ret (.a 0 22)) .nil) .nil) (.cons (.ifs (.cmp .eq (.v 1) (.glob 16)) (.cons (.ret (.ite (.isNone (.a 0 22) true) (.int 0) (.a 0 22))) .nil) .nil) (.cons (.ifs (.cmp .eq (.v 1) (.glob 18)) (.cons (.ret (.rd (.attr (.attr (.var 0) 33) 22))) .nil) .nil) (.cons (.ifs (.cmp .eq (.v 1) (.glob 8)) (.cons (.ret (.prim .sum (.cons (.comp (.call 11 (.val (.v 2) .nil)) 2 (.of (.a 0 6))) .nil))) .nil) .nil) (.cons (.ret (.int 0)) .nil))))))
noncomputable def Hb:Ss:=.cons (.assign 1 (.a 0 5)) (.cons (.ifs (.or (.cmp .eq (.v 1) (.glob 12)) (.cmp .eq (.v 1) (.glob 13))) (.cons (.ret (.meth (.attr (.var 0) 24) 15 (.val (.a 0 23) .nil))) .nil) .nil) (.cons (.ifs (.or (.cmp .eq (.v 1) (.glob 15)) (.or (.cmp .eq (.v 1) (.glob 14)) (.cmp .eq (.v 1) (.glob 11)))) (.cons (.ret (.a 0 21)) .nil) .nil) (.cons (.ifs (.cmp .eq (.v 1) (.glob 16)) (.cons (.ret (.ite (.isNone (.a 0 21) true) (.int 0) (.a 0 21))) .nil) .nil) (.cons (.ifs (.and (.cmp .eq (.v 1) (.glob 18)) (.isNone (.a 0 32) false)) (.cons (.ret (.call 12 (.val (.a 0 32) .nil))) .nil) .nil) (.cons (.ifs (.cmp .eq (.v 1) (.glob 8)) (.cons (.ret .bad) .nil) .nil) (.cons (.ret (.int 0)) .nil))))))
noncomputable def Jj:Ss:=.cons (.assign 1 (.a 0 5)) (.cons (.ifs (.or (.cmp .eq (.v 1) (.glob 12)) (.cmp .eq (.v 1) (.glob 13))) (.cons (.ret (.meth (.attr (.var 0) 24) 16 (.val (.a 0 23) .nil))) .nil) .nil) (.cons (.ifs (.or (.cmp .eq (.v 1) (.glob 15)) (.or (.cmp .eq (.v 1) (.glob 14)) (.cmp .eq (.v 1) (.glob 11)))) (.cons (.ret (.a 0 12)) .nil) .nil) (.cons (.ifs (.cmp .eq (.v 1) (.glob 16)) (.cons (.ret (.ite (.isNone (.a 0 12) true) (.int 0) (.a 0 12))) .nil) .nil) (.cons (.ifs (.and (.cmp .eq (.v 1) (.glob 18)) (.isNone (.a 0 32) false)) (.cons (.ret (.call 13 (.val (.a 0 32) .nil))) .nil) .nil) (.cons (.ifs (.cmp .eq (.v 1) (.glob 8)) (.cons (.ret .bad) .nil) .nil) (.cons (.ret (.int 0)) .nil))))))
noncomputable def Dn:Ss:=.cons (.assign 5 (.a 0 32)) (.cons (.ifs (.or (.isNone (.v 5) true) (.cmp .eq (.a 5 5) (.glob 16))) (.cons (.ret (.lst .nil)) .nil) .nil) (.cons (.assign 6 (.ite (.v 4) (.bin .add (.a 5 21) (.a 5 12)) (.a 5 22))) (.cons (.ifs (.or (.cmp .le (.v 6) (.int 0)) (.cmp .le (.v 2) (.int 0))) (.cons (.ret (.lst .nil)) .nil) .nil) (.cons (.assignTup [.var 7,.var 8] (.cons (.bin .fdiv (.v 2) (.v 6)) (.cons (.bin .mod (.v 2) (.v 6)) .nil))) (.cons (.ifs (.cmp .gt (.v 7) (.glob 22)) (.cons .bad .nil) .nil) (.cons (.ifs (.cmp .eq (.a 0 0) (.glob 23)) (.cons (.assign 9 (.bin .sub (.v 3) (.bin .mul (.bin .fdiv (.bin .sub (.v 3) (.v 1)) (.v 6)) (.v 6)))) (.cons (.assign 7 (.prim .max2 (.cons (.int 0) (.cons (.bin .fdiv (.bin .sub (.bin .add (.v 1) (.v 2)) (.v 9)) (.v 6)) .nil)))) (.cons (.ret (.comp (.bin .add (.v 9) (.bin .mul (.v 6) (.v 11))) 11 (.rng .range1 (.cons (.v 7) .nil)))) .nil))) .nil) (.cons (.ifs (.cmp .eq (.a 0 0) (.glob 24)) (.cons (.ret (.comp (.bin .add (.bin .add (.v 1) (.bin .fdiv (.v 8) (.int 2))) (.bin .mul (.v 6) (.v 11))) 11 (.rng .range1 (.cons (.v 7) .nil)))) .nil) .nil) (.cons (.assign 10 (.bin .fdiv (.v 8) (.bin .add (.v 7) (.int 1)))) (.cons (.assign 9 (.bin .add (.v 1) (.bin .fdiv (.bin .sub (.v 8) (.bin .mul (.bin .sub (.v 7) (.int 1)) (.v 10))) (.int 2)))) (.cons (.ret (.comp (.bin .add (.v 9) (.bin .mul (.bin .add (.v 6) (.v 10)) (.v 11))) 11 (.rng .range1 (.cons (.v 7) .nil)))) .nil))))))))))
noncomputable def D6:Ss:=.cons (.for_ 1 (.of (.v 0)) (.cons (.ifs (.or (.cmp .eq (.a 1 5) (.glob 12)) (.or (.cmp .eq (.a 1 5) (.glob 13)) (.or (.cmp .eq (.a 1 5) (.glob 8)) (.cmp .eq (.a 1 5) (.glob 21))))) (.cons .bad .nil) .nil) .nil)) .nil
noncomputable def Uk:Ss:=.cons (.ifs (.and (.cmp .eq (.a 0 30) (.glob 25)) (.cmp .eq (.a 1 36) (.a 0 29))) (.cons (.ret (.a 1 17)) .nil) .nil) (.cons (.ifs (.and (.cmp .eq (.a 0 30) (.glob 26)) (.cmp .eq (.a 1 37) (.a 0 29))) (.cons (.ret (.neg (.a 1 16))) .nil) .nil) (.cons (.ret (.int 0)) .nil))
noncomputable def Jr:Ss:=.cons (.ret (.call 4 (.val (.bin .mul (.rd (.at_ (.attr (.var 0) 28) (.lit 0))) (.v 1)) (.val (.rd (.at_ (.attr (.var 0) 28) (.lit 1))) .nil)))) .nil
noncomputable def Hx:Ss:=.cons (.ifs (.cmp .eq (.a 0 5) (.glob 15)) (.cons (.ret (.call 11 (.val (.v 1) .nil))) .nil) .nil) (.cons (.ret (.ite (.cmp .eq (.a 1 5) (.glob 17)) (.a 1 22) (.bin .add (.call 12 (.val (.v 1) .nil)) (.call 13 (.val (.v 1) .nil))))) .nil)
noncomputable def OT:Ss:=.cons (.ifs (.cmp .eq (.a 0 5) (.glob 14)) (.cons (.expr (.call 15 (.val (.a 0 9) .nil))) .nil) .nil) (.cons (.assign 1 (.lst (.cons (.int 0) .nil))) (.cons (.assignTup [.var 2,.var 3] (.cons (.int 0) (.cons (.int 0) .nil))) (.cons (.for_ 4 (.of (.a 0 9)) (.cons (.ifs (.cmp .eq (.a 4 5) (.glob 18)) (.cons (.assign 2 (.bin .add (.v 2) (.rd (.attr (.attr (.var 4) 33) 22)))) (.cons (.assign 3 (.bin .add (.v 3) (.call 16 (.val (.v 0) (.val (.a 4 33) .nil))))) .nil)) (.cons (.assign 2 (.bin .add (.v 2) (.call 18 (.val (.v 0) (.val (.v 4) .nil))))) .nil)) (.cons (.append (.var 1) (.bin .add (.v 2) (.call 17 (.val (.v 0) (.val (.v 3) .nil))))) .nil))) (.cons (.ret (.v 1)) .nil))))
noncomputable def GE:Ss:=.cons (.for_ 3 (.rng .rangeDown (.cons (.bin .sub (.v 2) (.int 1)) (.cons (.int (-1)) (.cons (.int (-1)) .nil)))) (.cons (.append (.var 0) (.bin .mod (.bin .fdiv (.v 1) (.bin .pow (.int 256) (.v 3))) (.int 256))) .nil)) .nil
noncomputable def Fe:Ss:=.cons (.assign 3 (.int 1)) (.cons (.whil (.and (.cmp .lt (.v 3) (.int 4)) (.cmp .ge (.prim .abs (.cons (.v 2) .nil)) (.bin .mul (.int 128) (.bin .pow (.int 256) (.bin .sub (.v 3) (.int 1)))))) (.cons (.augVar 3 (.int 1)) .nil)) (.cons (.append (.var 0) (.bin .sub (.bin .add (.v 1) (.v 3)) (.int 1))) (.cons (.expr (.call 20 (.bor (.var 0) (.val (.v 2) (.val (.v 3) .nil))))) .nil)))
noncomputable def FQ:Ss:=.cons (.assign 3 (.int 1)) (.cons (.whil (.and (.cmp .lt (.v 3) (.int 4)) (.cmp .ge (.v 2) (.bin .pow (.int 256) (.v 3)))) (.cons (.augVar 3 (.int 1)) .nil)) (.cons (.append (.var 0) (.bin .sub (.bin .add (.v 1) (.v 3)) (.int 1))) (.cons (.expr (.call 20 (.bor (.var 0) (.val (.v 2) (.val (.v 3) .nil))))) .nil)))
noncomputable def H6:Ss:=.cons (.expr (.call 20 (.bor (.var 0) (.val (.glob 27) (.val (.int 4) .nil))))) (.cons (.expr (.call 20 (.bor (.var 0) (.val (.glob 28) (.val (.int 4) .nil))))) (.cons (.expr (.call 20 (.bor (.var 0) (.val (.glob 29) (.val (.int 4) .nil))))) .nil))
noncomputable def E9:Ss:=.cons (.ifs (.or (.cmp .gt (.lenP (.attr (.var 1) 3)) (.int 255)) (.cmp .ne (.compIf (.v 3) 3 (.of (.a 1 3)) (.cmp .gt (.prim .ord (.cons (.v 3) .nil)) (.int 255))) (.lst .nil))) (.cons .bad .nil) .nil) (.cons (.expr (.call 22 (.bor (.var 0) (.val (.glob 30) (.val (.a 1 14) .nil))))) (.cons (.expr (.call 20 (.bor (.var 0) (.val (.a 1 38) (.val (.int 4) .nil))))) (.cons (.expr (.call 20 (.bor (.var 0) (.val (.a 1 13) (.val (.int 4) .nil))))) (.cons (.expr (.call 20 (.bor (.var 0) (.val (.a 1 39) (.val (.int 4) .nil))))) (.cons (.append (.var 0) (.int 0)) (.cons (.append (.var 0) (.lenP (.attr (.var 1) 3))) (.cons (.for_ 2 (.of (.a 1 3)) (.cons (.append (.var 0) (.prim .ord (.cons (.v 2) .nil))) .nil)) .nil)))))))
noncomputable def Ez:Ss:=.cons (.ifs (.cmp .gt (.prim .abs (.cons (.v 0) .nil)) (.glob 1)) (.cons .bad .nil) .nil) (.cons (.ret (.v 0)) .nil)
noncomputable def NW:Ss:=.cons (.ifs (.cmp .eq (.v 1) (.glob 31)) (.cons (.ret (.ite (.cmp .eq (.v 0) (.glob 32)) (.glob 33) (.ite (.cmp .eq (.v 0) (.glob 34)) (.glob 35) (.v 0)))) .nil) .nil) (.cons (.ret (.ite (.cmp .eq (.v 0) (.glob 32)) (.glob 34) (.ite (.cmp .eq (.v 0) (.glob 33)) (.glob 35) (.v 0)))) .nil)
noncomputable def KQ:Ss:=.cons (.assignTup [.var 1,.var 2] (.cons (.call 19 (.val (.v 0) .nil)) (.cons (.lst .nil) .nil))) (.cons (.for_ 3 (.rng .range1 (.cons (.lenP (.attr (.var 0) 9)) .nil)) (.cons (.assignTup [.var 4,.var 5] (.cons (.rd (.at_ (.attr (.var 0) 9) (.var 3))) (.cons (.rd (.at_ (.var 1) (.var 3))) .nil))) (.cons (.ifs (.and (.cmp .eq (.a 4 5) (.glob 8)) (.cmp .eq (.a 0 5) (.glob 15))) (.cons (.for_ 6 (.of (.a 4 6)) (.cons (.assign 7 (.bin .add (.v 5) (.call 11 (.val (.v 6) .nil)))) (.cons (.append (.var 2) (.tup (.cons (.v 6) (.cons (.v 5) (.cons (.v 7) .nil))))) (.cons (.assign 5 (.v 7)) .nil)))) .nil) (.cons (.append (.var 2) (.tup (.cons (.v 4) (.cons (.v 5) (.cons (.idx (.v 1) (.bin .add (.v 3) (.int 1))) .nil))))) .nil)) .nil))) (.cons (.ret (.v 2)) .nil))
noncomputable def Cw:Ss:=.cons (.assignTup [.var 5,.var 6] (.cons (.rd (.at_ (.var 2) (.lit 0))) (.cons (.bin .add (.v 3) (.rd (.at_ (.var 2) (.lit 1)))) .nil))) (.cons (.assign 7 (.a 5 5)) (.cons (.ifs (.or (.cmp .eq (.v 7) (.glob 12)) (.cmp .eq (.v 7) (.glob 13))) (.cons (.expr (.meth (.var 0) 9 (.val (.a 5 24) (.val (.a 5 23) (.val (.v 6) (.val (.v 4) .nil)))))) .nil) (.cons (.ifs (.or (.cmp .eq (.v 7) (.glob 15)) (.cmp .eq (.v 7) (.glob 14))) (.cons (.ifs (.cmp .ne (.a 5 9) (.lst .nil)) (.cons (.ret (.lst (.cons (.tup (.cons (.v 5) (.cons (.v 6) (.cons (.bin .add (.v 4) (.a 5 31)) (.cons (.bool false) .nil))))) .nil))) .nil) .nil) .nil) (.cons (.ifs (.cmp .eq (.v 7) (.glob 4)) (.cons (.ifs (.cmp .eq (.a 5 0) (.glob 7)) (.cons (.expr (.meth (.var 0) 10 (.val (.a 5 4) (.val (.v 6) (.val (.v 4) .nil))))) .nil) .nil) .nil) (.cons (.ifs (.or (.cmp .eq (.v 7) (.glob 16)) (.and (.cmp .eq (.v 7) (.glob 18)) (.isNone (.a 5 32) false))) (.cons (.assign 8 (.ite (.cmp .eq (.v 7) (.glob 16)) (.v 5) (.a 5 32))) (.cons (.assign 9 (.bin .sub (.rd (.at_ (.var 2) (.lit 2))) (.rd (.at_ (.var 2) (.lit 1))))) (.cons (.ifs (.cmp .ne (.a 8 5) (.glob 16)) (.cons (.ret (.comp (.tup (.cons (.v 8) (.cons (.v 13) (.cons (.bin .add (.v 4) (.a 8 31)) (.cons (.bool true) .nil))))) 13 (.of (.call 14 (.val (.v 5) (.val (.v 6) (.val (.v 9) (.val (.v 3) (.val (.bool false) .nil))))))))) .nil) .nil) (.cons (.unpack [10,11,12] .bad) (.cons (.expr .bad) .nil))))) (.cons (.ifs (.cmp .nin (.v 7) (.glob 36)) (.cons .bad .nil) .nil) .nil)) .nil)) .nil)) .nil)) (.cons (.ret (.lst .nil)) .nil)))
noncomputable def EV:Ss:=.cons (.assignTup [.var 5,.var 6] (.cons (.rd (.at_ (.var 2) (.lit 0))) (.cons (.bin .add (.v 4) (.rd (.at_ (.var 2) (.lit 1)))) .nil))) (.cons (.assign 7 (.a 5 5)) (.cons (.ifs (.or (.cmp .eq (.v 7) (.glob 15)) (.cmp .eq (.v 7) (.glob 14))) (.cons (.ifs (.cmp .ne (.a 5 9) (.lst .nil)) (.cons (.ret (.lst (.cons (.tup (.cons (.v 5) (.cons (.bin .add (.v 3) (.a 5 31)) (.cons (.bin .add (.v 6) (.a 5 21)) (.cons (.bool false) .nil))))) .nil))) .nil) .nil) .nil) (.cons (.ifs (.cmp .eq (.v 7) (.glob 4)) (.cons (.ifs (.cmp .eq (.a 5 0) (.glob 7)) (.cons (.expr (.meth (.var 0) 10 (.val (.a 5 4) (.val (.v 3) (.val (.v 6) .nil))))) .nil) .nil) .nil) (.cons (.ifs (.or (.cmp .eq (.v 7) (.glob 16)) (.and (.cmp .eq (.v 7) (.glob 18)) (.isNone (.a 5 32) false))) (.cons (.assign 8 (.ite (.cmp .eq (.v 7) (.glob 16)) (.v 5) (.a 5 32))) (.cons (.assign 9 (.bin .sub (.rd (.at_ (.var 2) (.lit 2))) (.rd (.at_ (.var 2) (.lit 1))))) (.cons (.ifs (.cmp .ne (.a 8 5) (.glob 16)) (.cons (.ret (.comp (.tup (.cons (.v 8) (.cons (.bin .add (.v 3) (.a 8 31)) (.cons (.bin .add (.v 13) (.a 8 21)) (.cons (.bool true) .nil))))) 13 (.of (.call 14 (.val (.v 5) (.val (.v 6) (.val (.v 9) (.val (.v 4) (.val (.bool true) .nil))))))))) .nil) .nil) (.cons (.unpack [10,11,12] .bad) (.cons (.ifs (.cmp .eq (.v 7) (.glob 16)) (.cons (.assign 9 (.bin .add (.v 11) (.v 12))) .nil) .nil) (.cons (.expr .bad) .nil)))))) (.cons (.ifs (.cmp .nin (.v 7) (.glob 37)) (.cons .bad .nil) .nil) .nil)) .nil)) .nil)) (.cons (.ret (.lst .nil)) .nil)))
noncomputable def K6:Ss:=.cons (.assign 5 (.meth (.var 0) 4 (.val (.v 4) .nil))) (.cons (.assign 6 (.cmp .eq (.a 1 5) (.glob 14))) (.cons (.for_ 7 (.of (.call 27 (.val (.v 1) .nil))) (.cons (.ifs (.v 6) (.cons (.assign 8 (.call 29 (.bor (.var 0) (.val (.v 1) (.val (.v 7) (.val (.v 2) (.val (.bin .sub (.v 3) (.a 1 21)) .nil))))))) .nil) (.cons (.assign 8 (.call 28 (.bor (.var 0) (.val (.v 1) (.val (.v 7) (.val (.v 2) (.val (.v 3) .nil))))))) .nil)) (.cons (.forT [9,10,11,12] (.ofL (.v 8)) (.cons (.ifs (.or (.v 12) (.v 6)) (.cons (.expr (.meth (.var 0) 7 (.val (.v 11) .nil))) .nil) .nil) (.cons (.ifs (.v 12) (.cons (.expr (.meth (.var 0) 6 (.val (.v 10) .nil))) .nil) .nil) (.cons (.assignTup [.var 13,.var 14] (.cons (.a 0 41) (.cons (.a 0 40) .nil))) (.cons (.expr (.call 30 (.bor (.var 0) (.val (.v 9) (.val (.v 10) (.val (.v 11) (.val (.bin .add (.v 4) (.int 1)) .nil))))))) (.cons (.assignTup [.attr (.var 0) 41,.attr (.var 0) 40] (.cons (.v 13) (.cons (.v 14) .nil))) .nil)))))) .nil))) (.cons (.expr (.meth (.var 0) 5 (.val (.v 5) (.val (.v 4) .nil)))) .nil)))
noncomputable def Lu:Ss:=.cons (.ifs (.cmp .gt (.v 1) (.glob 38)) (.cons .bad .nil) .nil) (.cons (.assign 2 (.lst .nil)) (.cons (.for_ 3 (.of (.a 0 9)) (.cons (.ifs (.or (.cmp .eq (.a 3 5) (.glob 15)) (.cmp .eq (.a 3 5) (.glob 14))) (.cons (.extend (.var 2) (.call 31 (.val (.v 3) (.val (.bin .add (.v 1) (.int 1)) .nil)))) .nil) (.cons (.ifs (.and (.cmp .eq (.a 3 5) (.glob 4)) (.cmp .ne (.a 3 0) (.glob 7))) (.cons (.append (.var 2) (.v 3)) .nil) .nil) .nil)) .nil)) (.cons (.ret (.mv 2)) .nil)))
noncomputable def GN:Ss:=.cons (.ifs (.or (.isNone (.v 0) true) (.and (.cmp .ne (.a 0 5) (.glob 15)) (.cmp .ne (.a 0 5) (.glob 14)))) (.cons .bad .nil) .nil) (.cons (.expr (.call 3 (.val (.v 1) .nil))) (.cons (.expr (.call 3 (.val (.v 2) .nil))) (.cons (.ifs (.cmp .gt (.prim .max4 (.cons (.a 0 21) (.cons (.a 0 12) (.cons (.bin .add (.bin .add (.a 0 21) (.a 0 12)) (.v 2)) (.cons (.bin .add (.a 0 22) (.v 1)) .nil))))) (.glob 1)) (.cons .bad .nil) .nil) .nil)))
noncomputable def LF:Ss:=.cons (.ret (.call 0 (.val (.v 0) (.val (.neg (.glob 1)) (.val (.glob 1) .nil))))) .nil
noncomputable def FI:Ss:=.cons (.for_ 1 (.of (.v 0)) (.cons (.ifs (.not (.call 33 (.val (.v 1) .nil))) (.cons .bad .nil) .nil) .nil)) .nil
noncomputable def FB:Ss:=.cons (.forT [2,3] (.items (.var 0)) (.cons (.ifs (.or (.not (.call 0 (.val (.v 2) (.val (.int 0) (.val (.int 255) .nil))))) (.or (.not (.prim .istuple (.cons (.v 3) .nil))) (.cmp .ne (.lenP (.var 3)) (.int 6)))) (.cons .bad .nil) .nil) (.cons (.expr (.call 34 (.val (.slTo (.v 3) 4) .nil))) (.cons (.assignTup [.var 4,.var 5] (.cons (.rd (.at_ (.var 3) (.lit 4))) (.cons (.rd (.at_ (.var 3) (.lit 5))) .nil))) (.cons (.ifs (.not (.call 0 (.val (.v 4) (.val (.glob 40) (.val (.glob 39) .nil))))) (.cons .bad .nil) .nil) (.cons (.ifs (.cmp .eq (.v 4) (.glob 39)) (.cons (.expr .bad) .nil) (.cons (.ifs (.or (.not (.call 0 (.val (.v 5) (.val (.int 0) (.val (.int 255) .nil))))) (.and (.cmp .eq (.v 4) (.glob 41)) (.cmp .ge (.v 5) (.v 1)))) (.cons .bad .nil) .nil) .nil)) .nil)))))) .nil
noncomputable def D8:Ss:=.cons (.for_ 1 (.of (.v 0)) (.cons (.assignTup [.var 2,.var 3] (.cons (.v 1) (.cons (.int 0) .nil))) (.cons (.whil (.and (.cmp .inn (.v 2) (.v 0)) (.cmp .eq (.idx (.idx (.v 0) (.v 2)) (.int 4)) (.glob 42))) (.cons (.assign 2 (.idx (.idx (.v 0) (.v 2)) (.int 5))) (.cons (.assign 3 (.bin .add (.v 3) (.int 1))) (.cons (.ifs (.cmp .gt (.v 3) (.lenP (.var 0))) (.cons .bad .nil) .nil) .nil)))) .nil))) .nil
noncomputable def Ds:Ss:=.cons (.assign 4 (.lenP (.var 0))) (.cons (.forT [5,6] (.enum (.v 0)) (.cons (.ifs (.or (.not (.prim .istuple (.cons (.v 6) .nil))) (.cmp .ne (.lenP (.var 6)) (.int 4))) (.cons .bad .nil) .nil) (.cons (.for_ 7 (.of (.v 6)) (.cons (.ifs (.not (.call 0 (.val (.v 7) (.val (.int 0) (.val (.int 255) .nil))))) (.cons .bad .nil) .nil) .nil)) (.cons (.unpackP [8,9,10,11] (.var 6)) (.cons (.ifs (.cmp .gt (.v 8) (.glob 43)) (.cons (.ifs (.cmp .ge (.bin .add (.bin .mul (.int 256) (.v 10)) (.v 11)) (.v 4)) (.cons .bad .nil) .nil) (.cons .bad .nil)) .nil) (.cons (.ifs (.and (.cmp .ne (.v 9) (.v 3)) (.cmp .nin (.v 9) (.v 2))) (.cons .bad .nil) .nil) (.cons (.ifs (.or (.and (.cmp .lt (.v 10) (.glob 44)) (.cmp .nin (.v 11) (.v 2))) (.and (.cmp .ge (.v 10) (.glob 44)) (.cmp .ge (.bin .add (.bin .mul (.int 256) (.bin .sub (.v 10) (.glob 44))) (.v 11)) (.lenP (.var 1))))) (.cons .bad .nil) .nil) (.cons (.ifs (.and (.cmp .lt (.v 8) (.glob 43)) (.cmp .ge (.bin .add (.bin .add (.v 5) (.v 8)) (.int 1)) (.v 4))) (.cons .bad .nil) .nil) .nil)))))))) .nil)
noncomputable def F5:Ss:=.cons (.ifs (.cmp .eq (.lenP (.var 0)) (.int 0)) (.cons (.ret (.int (-1))) .nil) .nil) (.cons (.unpackP [1,2,3,4] (.at_ (.var 0) (.lit (-1)))) (.cons (.ret (.ite (.cmp .eq (.v 1) (.glob 45)) (.bin .add (.bin .mul (.int 256) (.v 3)) (.v 4)) (.int (-1)))) .nil))
noncomputable def Hs:Ss:=.cons (.assign 1 (.bin .sub (.v 0) (.int 1))) (.cons (.assign 2 (.idx (.glob 46) (.bin .mod (.v 1) (.int 25)))) (.cons (.whil (.cmp .ge (.v 1) (.int 25)) (.cons (.assign 1 (.bin .fdiv (.v 1) (.int 25))) (.cons (.assign 2 (.bin .add (.idx (.glob 46) (.bin .mod (.v 1) (.int 25))) (.v 2))) .nil))) (.cons (.ret (.bin .add (.str [102]) (.v 2))) .nil)))
noncomputable def EE:Ss:=.cons (.ifs (.not (.call 0 (.val (.v 0) (.val (.int 1) (.val (.glob 47) .nil))))) (.cons .bad .nil) .nil) (.cons (.assign 6 .dct0) (.cons (.for_ 7 (.of (.v 1)) (.cons (.ifs (.or (.not (.cmp2 .le .le (.int 4) (.lenP (.var 7)) (.int 7))) (.inP (.rd (.at_ (.var 7) (.lit 0))) (.var 6))) (.cons .bad .nil) .nil) (.cons (.setitem (.var 6) (.at_ (.at_ (.var 7) (.lit 0))) (.slAB (.bin .add (.prim .tuple (.cons (.v 7) .nil)) (.tup (.cons (.int 0) (.cons (.int 0) (.cons (.int 0) .nil))))) 1 7)) .nil))) (.cons (.ret (.new 12 (.val (.v 0) (.val (.call 39 (.val (.v 0) .nil)) (.val (.int 655360) (.val (.v 2) (.val (.v 6) (.val (.v 3) (.val (.v 4) (.val (.v 5) .nil)))))))))) .nil)))
noncomputable def LJ:Ss:=.cons (.ifs (.cmp .lt (.v 1) (.lenP (.var 0))) (.cons (.assign 2 (.prim .abs (.cons (.prim .int (.cons (.rd (.at_ (.var 0) (.var 1))) .nil)) .nil))) .nil) (.cons (.assign 2 (.bin .add (.bin .add (.bin .mul (.int 7919) (.v 1)) (.int 20011)) (.bin .mod (.prim .sum (.cons (.comp (.prim .abs (.cons (.prim .int (.cons (.v 3) .nil)) .nil)) 3 (.of (.v 0))) .nil)) (.int 99991)))) .nil)) (.cons (.ret (.lst (.cons (.v 2) (.cons (.int 0) (.cons (.bin .mod (.v 2) (.int 1000003)) .nil))))) .nil)
noncomputable def JN:Ss:=.cons (.ifs (.cmp .ge (.rd (.at_ (.var 0) (.lit 0))) (.bin .pow (.int 10) (.int 18))) (.cons (.assign 2 (.bin .mod (.rd (.at_ (.var 0) (.lit 0))) (.v 1))) (.cons (.setitem (.var 0) (.lit 0) (.bin .fdiv (.rd (.at_ (.var 0) (.lit 0))) (.v 1))) (.cons (.ret (.v 2)) .nil))) .nil) (.cons (.setitem (.var 0) (.lit 1) (.bin .add (.rd (.at_ (.var 0) (.lit 1))) (.int 1))) (.cons (.assign 3 (.bin .mod (.bin .pow (.bin .add (.bin .add (.rd (.at_ (.var 0) (.lit 2))) (.bin .mul (.int 7103) (.rd (.at_ (.var 0) (.lit 1))))) (.int 20023)) (.int 5)) (.int 2147483647))) (.cons (.ret (.bin .mod (.bin .fdiv (.bin .mod (.bin .mul (.v 3) (.v 3)) (.int 2147483563)) (.int 16)) (.v 1))) .nil)))
noncomputable def DN:Ss:=.cons (.assignTup [.var 4,.var 5] (.cons (.call 42 (.bor (.var 0) (.val (.int 10) .nil))) (.cons (.call 42 (.bor (.var 0) (.val (.int 8) .nil))) .nil))) (.cons (.ifs (.and (.cmp .eq (.v 4) (.int 0)) (.cmp .eq (.v 2) (.int 2))) (.cons (.ret (.tup (.cons (.int 0) (.cons (.bin .add (.int 65) (.bin .mod (.v 5) (.int 2))) .nil)))) .nil) .nil) (.cons (.ifs (.cmp .eq (.v 4) (.int 2)) (.cons (.ret (.tup (.cons (.int 2) (.cons (.v 5) .nil)))) .nil) .nil) (.cons (.ifs (.or (.cmp2 .lt .lt (.int 2) (.v 4) (.int 7)) (.and (.cmp .gt (.v 4) (.int 6)) (.cmp .gt (.v 1) (.int 1)))) (.cons (.appLen (.var 3)) (.cons (.ret (.tup (.cons (.idx (.tup (.cons (.int 3) (.cons (.int 3) (.cons (.int 4) (.cons (.int 5) .nil))))) (.bin .mod (.v 4) (.int 4))) (.cons (.bin .sub (.lenP (.var 3)) (.int 1)) .nil)))) .nil)) .nil) (.cons (.ifs (.and (.cmp .eq (.v 4) (.int 7)) (.cmp .eq (.v 1) (.int 0))) (.cons (.ret (.tup (.cons (.int 6) (.cons (.bin .mul (.int 30) (.bin .mod (.v 5) (.int 3))) (.cons (.bin .add (.int 1) (.bin .fdiv (.v 5) (.int 3))) (.cons (.call 44 (.bor (.var 0) (.val (.bin .add (.v 1) (.int 1)) (.bor (.var 3) .nil)))) .nil)))))) .nil) .nil) (.cons (.ifs (.cmp .gt (.v 4) (.int 6)) (.cons (.ret (.tup (.cons (.int 7) (.cons (.call 44 (.bor (.var 0) (.val (.bin .add (.v 1) (.int 1)) (.bor (.var 3) .nil)))) .nil)))) .nil) .nil) (.cons (.ret (.tup (.cons (.int 1) (.cons (.bin .sub (.bin .mul (.int 5) (.v 5)) (.int 7)) .nil)))) .nil))))))
noncomputable def A5:Ss:=.cons (.assignTup [.var 3,.var 4] (.cons (.bin .add (.int 2) (.call 42 (.bor (.var 0) (.val (.int 2) .nil)))) (.cons (.call 42 (.bor (.var 0) (.val (.int 12) .nil))) .nil))) (.cons (.assign 5 (.comp (.call 43 (.bor (.var 0) (.val (.v 1) (.val (.v 3) (.bor (.var 2) .nil))))) 6 (.rng .range1 (.cons (.ite (.cmp .lt (.v 1) (.int 2)) (.bin .add (.int 2) (.call 42 (.bor (.var 0) (.val (.int 3) .nil)))) (.bin .add (.int 1) (.call 42 (.bor (.var 0) (.val (.int 2) .nil))))) .nil)))) (.cons (.ret (.tup (.cons (.v 3) (.cons (.idx (.tup (.cons (.int 30) (.cons (.int 40) (.cons (.int 0) (.cons (.int 25) .nil))))) (.bin .mod (.v 4) (.int 4))) (.cons (.bin .mul (.bin .fdiv (.v 4) (.int 4)) (.int 3)) (.cons (.bin .add (.bin .add (.slTo (.v 5) 1) (.lst (.cons (.tup (.cons (.int 1) (.cons (.v 4) .nil))) .nil))) (.slFrom (.v 5) 1)) .nil)))))) .nil))
noncomputable def Ff:Ss:=.cons (.assign 1 (.lst .nil)) (.cons (.for_ 2 (.of (.rd (.at_ (.var 0) (.lit 3)))) (.cons (.ifs (.cmp2 .lt .lt (.int 2) (.rd (.at_ (.var 2) (.lit 0))) (.int 6)) (.cons (.append (.var 1) (.tup (.cons (.bin .sub (.rd (.at_ (.var 2) (.lit 0))) (.int 2)) (.cons (.rd (.at_ (.var 2) (.lit 1))) .nil)))) .nil) (.cons (.ifs (.cmp .eq (.rd (.at_ (.var 2) (.lit 0))) (.int 7)) (.cons (.assign 1 (.bin .add (.v 1) (.call 46 (.val (.rd (.at_ (.var 2) (.lit 1))) .nil)))) .nil) .nil) .nil)) .nil)) (.cons (.ret (.v 1)) .nil))
noncomputable def Jt:Ss:=.cons (.assign 3 (.new 2 (.val (.rd (.at_ (.var 0) (.lit 0))) (.val (.rd (.at_ (.var 0) (.lit 1))) (.val (.int 20) (.val (.int 5) (.val (.compIf (.call 48 (.val (.v 4) (.val (.v 1) (.val (.v 2) .nil)))) 4 (.of (.rd (.at_ (.var 0) (.lit 3)))) (.or (.not (.v 2)) (.or (.cmp .lt (.rd (.at_ (.var 4) (.lit 0))) (.int 3)) (.cmp .gt (.rd (.at_ (.var 4) (.lit 0))) (.int 5))))) .nil))))))) (.cons (.setattr (.var 3) 31 (.rd (.at_ (.var 0) (.lit 2)))) (.cons (.ret (.v 3)) .nil))
noncomputable def KV:Ss:=.cons (.assign 3 (.rd (.at_ (.var 0) (.lit 0)))) (.cons (.ifs (.cmp .eq (.v 3) (.int 0)) (.cons (.ret (.new 1 (.val (.v 1) (.val (.rd (.at_ (.var 0) (.lit 1))) .nil)))) .nil) .nil) (.cons (.ifs (.cmp .eq (.v 3) (.int 1)) (.cons (.ret (.new 3 (.val (.rd (.at_ (.var 0) (.lit 1))) (.val (.int 1) .nil)))) .nil) .nil) (.cons (.ifs (.cmp .eq (.v 3) (.int 2)) (.cons (.ret (.new 5 (.val (.prim .bytes (.cons (.lst (.cons (.rd (.at_ (.var 0) (.lit 1))) (.cons (.int 7) .nil))) .nil)) .nil))) .nil) .nil) (.cons (.ifs (.cmp .eq (.v 3) (.int 3)) (.cons (.ret (.new 6 (.val (.rd (.at_ (.var 0) (.lit 1))) (.val (.tup (.cons (.tup (.cons (.int 11) (.cons (.int 97) .nil))) (.cons (.tup (.cons (.int 0) (.cons (.int 3) .nil))) .nil))) .nil)))) .nil) .nil) (.cons (.ifs (.cmp .eq (.v 3) (.int 4)) (.cons (.ret (.new 7 (.val (.rd (.at_ (.var 0) (.lit 1))) (.val (.str [97]) .nil)))) .nil) .nil) (.cons (.ifs (.cmp .eq (.v 3) (.int 5)) (.cons (.ret (.new 8 (.val (.rd (.at_ (.var 0) (.lit 1))) .nil))) .nil) .nil) (.cons (.ifs (.cmp .eq (.v 3) (.int 6)) (.cons (.ret (.new 4 (.val (.new 0 (.val (.rd (.at_ (.var 0) (.lit 1))) .nil)) (.val (.rd (.at_ (.var 0) (.lit 2))) (.val (.call 47 (.val (.rd (.at_ (.var 0) (.lit 3))) (.val (.v 1) (.val (.v 2) .nil)))) .nil))))) .nil) .nil) (.cons (.ret (.call 47 (.val (.rd (.at_ (.var 0) (.lit 1))) (.val (.v 1) (.val (.v 2) .nil))))) .nil))))))))
noncomputable def KN:Ss:=.cons (.assign 1 (.new 11 (.val (.int 5) .nil))) (.cons (.expr (.meth (.var 1) 11 (.val (.v 0) (.val (.tup (.cons (.int 1) .nil)) (.val (.int 3) (.val (.int 4) .nil)))))) (.cons (.ret (.meth (.var 1) 12 .nil)) .nil))
noncomputable def Xp:Ss:=.cons (.assignTup [.var 1,.var 2] (.cons (.pin (.call 40 (.val (.int 1) (.val (.lst (.cons (.tup (.cons (.int 65) (.cons (.int 12) (.cons (.int 5) (.cons (.int 0) .nil))))) (.cons (.tup (.cons (.int 66) (.cons (.int 7) (.cons (.int 5) (.cons (.int 0) .nil))))) .nil))) .nil)))) (.cons (.call 41 (.val (.slTo (.v 0) 1) (.val (.int 0) .nil))) .nil))) (.cons (.assign 3 (.call 45 (.bor (.var 2) (.val (.int 0) (.own (.lst .nil) .nil))))) (.cons (.assignTup [.var 4,.var 5] (.cons (.call 47 (.val (.v 3) (.val (.v 1) (.val (.bool false) .nil)))) (.cons (.call 47 (.val (.v 3) (.val (.v 1) (.val (.bool true) .nil)))) .nil))) (.cons (.assign 6 (.call 9 (.val (.v 4) .nil))) (.cons (.assign 7 (.call 31 (.val (.v 4) .nil))) (.cons (.ifs (.or (.cmp .ne (.compP (.tup (.cons (.a 8 0) (.cons (.a 8 2) .nil))) 8 (.var 7)) (.call 46 (.val (.v 3) .nil))) (.cmp .ne (.call 9 (.val (.v 4) .nil)) (.v 6))) (.cons (.ret (.bool false)) .nil) .nil) (.cons (.append (.var 7) (.int 0)) (.cons (.ret (.and (.cmp .eq (.prim .len (.cons (.call 31 (.val (.v 4) .nil)) .nil)) (.bin .sub (.lenP (.var 7)) (.int 1))) (.and (.cmp .eq (.call 31 (.val (.v 5) .nil)) (.lst .nil)) (.cmp .eq (.call 49 (.val (.v 4) .nil)) (.call 49 (.val (.v 5) .nil)))))) .nil)))))))
noncomputable def H7:Ss:=.cons (.ifs (.or (.not (.call 0 (.val (.v 3) (.val (.glob 49) (.val (.glob 48) .nil))))) (.not (.call 0 (.val (.v 5) (.val (.glob 49) (.val (.glob 48) .nil)))))) (.cons .bad .nil) .nil) (.cons (.setattr (.var 0) 22 (.call 3 (.val (.v 1) .nil))) (.cons (.setattr (.var 0) 17 (.call 3 (.val (.v 2) .nil))) (.cons (.setattr (.var 0) 36 (.ite (.cmp .ne (.v 2) (.int 0)) (.v 3) (.glob 49))) (.cons (.setattr (.var 0) 16 (.call 3 (.val (.v 4) .nil))) (.cons (.setattr (.var 0) 37 (.ite (.cmp .ne (.v 4) (.int 0)) (.v 5) (.glob 49))) .nil)))))
noncomputable def HZ:Ss:=.cons (.setattr (.var 0) 24 (.v 1)) (.cons (.setattr (.var 0) 23 (.call 5 (.val (.v 2) .nil))) .nil)
noncomputable def Iq:Ss:=.cons (.ifs (.not (.call 0 (.val (.v 1) (.val (.glob 15) (.val (.glob 14) .nil))))) (.cons .bad .nil) .nil) (.cons (.setattr (.var 0) 5 (.v 1)) (.cons (.setattr (.var 0) 22 (.call 3 (.val (.v 2) .nil))) (.cons (.setattr (.var 0) 21 (.call 3 (.val (.v 3) .nil))) (.cons (.setattr (.var 0) 12 (.call 3 (.val (.v 4) .nil))) (.cons (.setattr (.var 0) 9 (.v 5)) (.cons (.setattr (.var 0) 31 (.int 0)) (.cons (.setattr (.var 0) 30 (.glob 50)) (.cons (.setattr (.var 0) 29 (.int 0)) (.cons (.setattr (.var 0) 28 (.tup (.cons (.int 0) (.cons (.int 1) .nil)))) .nil)))))))))
noncomputable def ID:Ss:=.cons (.ifs (.not (.call 0 (.val (.v 2) (.val (.glob 52) (.val (.glob 51) .nil))))) (.cons .bad .nil) .nil) (.cons (.setattr (.var 0) 22 (.call 3 (.val (.v 1) .nil))) (.cons (.setattr (.var 0) 0 (.v 2)) .nil))
noncomputable def Hv:Ss:=.cons (.ifs (.and (.not (.call 0 (.val (.v 2) (.val (.glob 55) (.val (.glob 54) .nil))))) (.not (.call 0 (.val (.v 2) (.val (.glob 53) (.val (.bin .add (.glob 53) (.int 99)) .nil)))))) (.cons .bad .nil) .nil) (.cons (.ifs (.cmp .eq (.isNone (.v 3) true) (.cmp2 .le .le (.glob 23) (.v 2) (.glob 56))) (.cons .bad .nil) .nil) (.cons (.ifs (.and (.isNone (.v 3) false) (.not (.cmp2 .le .le (.glob 15) (.a 3 5) (.glob 16)))) (.cons .bad .nil) .nil) (.cons (.setattr (.var 0) 33 (.v 1)) (.cons (.setattr (.var 0) 0 (.v 2)) (.cons (.setattr (.var 0) 32 (.v 3)) .nil)))))
noncomputable def EH:Ss:=.cons (.ifs (.not (.prim .isoctets (.cons (.v 1) .nil))) (.cons .bad .nil) .nil) (.cons (.for_ 2 (.of (.v 1)) (.cons (.ifs (.not (.call 0 (.val (.v 2) (.val (.int 0) (.val (.int 255) .nil))))) (.cons .bad .nil) .nil) .nil)) (.cons (.setattr (.var 0) 4 (.prim .bytes (.cons (.v 1) .nil))) .nil))
noncomputable def GR:Ss:=.cons (.setattr (.var 0) 2 (.call 2 (.val (.v 1) .nil))) (.cons (.setattr (.var 0) 1 (.prim .tuple (.cons (.v 2) .nil))) .nil)
noncomputable def EJ:Ss:=.cons (.ifs (.not (.prim .isstr (.cons (.v 2) .nil))) (.cons .bad .nil) .nil) (.cons (.setattr (.var 0) 2 (.call 2 (.val (.v 1) .nil))) (.cons (.setattr (.var 0) 3 (.v 2)) .nil))
noncomputable def Dv:Ss:=.cons (.setattr (.var 0) 2 (.call 2 (.val (.v 1) .nil))) .nil
noncomputable def Fq:Ss:=.cons (.setattr (.var 0) 42 (.v 1)) (.cons (.setattr (.var 0) 43 (.lst .nil)) .nil)
noncomputable def Co:Ss:=.cons (.setattr (.var 0) 4 (.lst .nil)) (.cons (.setattr (.var 0) 44 (.prim .dict (.cons (.v 1) .nil))) (.cons (.setattr (.var 0) 12 (.v 2)) (.cons (.setattr (.var 0) 41 (.int 0)) (.cons (.setattr (.var 0) 40 (.int 0)) (.cons (.setattr (.var 0) 24 (.int (-1))) (.cons (.setattr (.var 0) 45 (.new 9 (.val (.glob 57) .nil))) (.cons (.setattr (.var 0) 46 (.new 9 (.val (.glob 58) .nil))) (.cons (.setattr (.var 0) 47 (.int 0)) .nil))))))))
noncomputable def C9:Ss:=.cons (.ifs (.not (.call 0 (.val (.v 1) (.val (.int 0) (.val (.glob 38) .nil))))) (.cons .bad .nil) .nil) (.cons (.setattr (.var 0) 12 (.v 1)) (.cons (.setattr (.var 0) 4 (.lst (.cons (.glob 60) (.cons (.glob 59) .nil)))) (.cons (.expr (.call 23 (.bor (.attr (.var 0) 4) .nil))) (.cons (.append (.attr (.var 0) 4) (.prim .len (.cons (.glob 61) .nil))) (.cons (.for_ 2 (.of (.glob 61)) (.cons (.append (.attr (.var 0) 4) (.prim .ord (.cons (.v 2) .nil))) .nil)) (.cons (.setattr (.var 0) 44 .dct0) (.cons (.setattr (.var 0) 48 (.int 0)) (.cons (.setattr (.var 0) 49 (.int (-1))) (.cons (.setattr (.var 0) 50 (.int 0)) (.cons (.setattr (.var 0) 51 (.int 0)) (.cons (.setattr (.var 0) 47 (.int 0)) .nil)))))))))))
noncomputable def H5:Ss:=.cons (.ifs (.or (.not (.call 0 (.val (.v 1) (.val (.int 1) (.val (.glob 47) .nil))))) (.or (.not (.prim .isstr (.cons (.v 2) .nil))) (.or (.cmp .eq (.v 2) (.str [])) (.not (.call 0 (.val (.v 3) (.val (.int 1) (.val (.glob 62) .nil)))))))) (.cons .bad .nil) .nil) (.cons (.ifs (.or (.not (.call 0 (.val (.v 8) (.val (.int 0) (.val (.glob 64) .nil))))) (.cmp .gt (.lenP (.var 4)) (.glob 63))) (.cons .bad .nil) .nil) (.cons (.expr (.call 34 (.val (.v 4) .nil))) (.cons (.expr (.call 34 (.val (.v 7) .nil))) (.cons (.expr (.call 35 (.val (.v 5) (.val (.lenP (.var 6)) .nil)))) (.cons (.expr (.call 36 (.val (.v 5) .nil))) (.cons (.expr (.call 37 (.val (.v 6) (.val (.v 7) (.val (.v 5) (.val (.v 8) .nil)))))) (.cons (.setattr (.var 0) 14 (.v 1)) (.cons (.setattr (.var 0) 3 (.v 2)) (.cons (.setattr (.var 0) 13 (.v 3)) (.cons (.setattr (.var 0) 39 (.v 3)) (.cons (.setattr (.var 0) 38 (.int 0)) (.cons (.setattr (.var 0) 52 (.prim .list (.cons (.v 4) .nil))) (.cons (.setattr (.var 0) 53 (.prim .dict (.cons (.v 5) .nil))) (.cons (.setattr (.var 0) 54 (.prim .tuple (.cons (.v 6) .nil))) (.cons (.setattr (.var 0) 55 (.prim .tuple (.cons (.v 7) .nil))) (.cons (.setattr (.var 0) 56 (.v 8)) (.cons (.setattr (.var 0) 57 (.call 38 (.val (.v 6) .nil))) (.cons (.setattr (.var 0) 58 (.int 45)) (.cons (.setattr (.var 0) 59 (.int (-1))) .nil)))))))))))))))))))
noncomputable def GJ:Ss:=.cons (.ret (.tup (.cons (.a 0 22) (.cons (.a 0 17) (.cons (.a 0 36) (.cons (.a 0 16) (.cons (.a 0 37) .nil))))))) .nil
noncomputable def E4:Ss:=.cons (.whil (.and (.cmp .gt (.lenP (.attr (.var 0) 43)) (.int 0)) (.cmp .ge (.rd (.at_ (.at_ (.attr (.var 0) 43) (.lit (-1))) (.lit 1))) (.v 1))) (.cons (.pop (.attr (.var 0) 43)) .nil)) .nil
noncomputable def Ft:Ss:=.cons (.assign 3 (.meth (.var 0) 3 (.bor (.var 1) (.val (.v 2) .nil)))) (.cons (.ifs (.cmp .lt (.v 3) (.int 0)) (.cons (.appendO (.attr (.var 0) 43) (.lst (.cons (.v 2) (.cons (.lenP (.var 1)) (.cons (.glob 32) .nil))))) (.cons (.expr (.call 21 (.bor (.var 1) (.val (.a 0 42) (.val (.v 2) .nil))))) (.cons .ret0 .nil))) .nil) (.cons (.assign 4 (.rd (.at_ (.at_ (.attr (.var 0) 43) (.var 3)) (.lit 2)))) (.cons (.forOwn 5 (.attr (.var 0) 43) (.bin .add (.v 3) (.int 1)) (.cons (.setitem (.var 5) (.lit 2) (.call 26 (.val (.rd (.at_ (.var 5) (.lit 2))) (.val (.v 4) .nil)))) .nil)) (.cons (.appendO (.attr (.var 0) 43) (.lst (.cons (.v 2) (.cons (.lenP (.var 1)) (.cons (.v 4) .nil))))) (.cons (.append (.var 1) (.bin .add (.a 0 42) (.ite (.cmp .eq (.v 4) (.glob 31)) (.glob 65) (.glob 66)))) .nil)))))
noncomputable def Hu:Ss:=.cons (.assign 3 (.glob 67)) (.cons (.for_ 4 (.rng .rangeDown (.cons (.bin .sub (.lenP (.attr (.var 0) 43)) (.int 1)) (.cons (.int (-1)) (.cons (.int (-1)) .nil)))) (.cons (.unpackP [5,6,7] (.at_ (.attr (.var 0) 43) (.var 4))) (.cons (.ifs (.cmp .eq (.v 5) (.v 2)) (.cons (.ifs (.or (.and (.cmp .eq (.v 7) (.glob 31)) (.cmp .ne (.v 3) (.glob 70))) (.and (.cmp .eq (.v 7) (.glob 69)) (.cmp .ne (.v 3) (.glob 68)))) (.cons (.ret (.v 4)) .nil) .nil) (.cons (.ifs (.and (.or (.cmp .eq (.v 7) (.glob 32)) (.cmp .eq (.v 7) (.glob 34))) (.cmp .ne (.v 3) (.glob 70))) (.cons (.augItem (.var 1) (.at_ (.var 6)) (.glob 71)) (.cons (.setitem (.at_ (.attr (.var 0) 43) (.var 4)) (.lit 2) (.glob 31)) (.cons (.ret (.v 4)) .nil))) .nil) (.cons (.ifs (.and (.or (.cmp .eq (.v 7) (.glob 32)) (.cmp .eq (.v 7) (.glob 33))) (.cmp .ne (.v 3) (.glob 68))) (.cons (.augItem (.var 1) (.at_ (.var 6)) (.glob 72)) (.cons (.setitem (.at_ (.attr (.var 0) 43) (.var 4)) (.lit 2) (.glob 69)) (.cons (.ret (.v 4)) .nil))) .nil) .nil))) (.cons (.ifs (.cmp .eq (.v 7) (.glob 31)) (.cons (.ifs (.cmp .eq (.v 3) (.glob 68)) (.cons (.ret (.int (-1))) .nil) .nil) (.cons (.assign 3 (.glob 70)) .nil)) (.cons (.ifs (.cmp .eq (.v 7) (.glob 69)) (.cons (.ifs (.cmp .eq (.v 3) (.glob 70)) (.cons (.ret (.int (-1))) .nil) .nil) (.cons (.assign 3 (.glob 68)) .nil)) .nil) .nil)) .nil)) .nil))) (.cons (.ret (.int (-1))) .nil))
noncomputable def Ch:Ss:=.cons (.ifs (.cmp .gt (.v 1) (.a 0 12)) (.cons .bad .nil) .nil) (.cons (.ifs (.cmp .gt (.v 1) (.int 0)) (.cons (.append (.attr (.var 0) 4) (.glob 73)) .nil) .nil) (.cons (.ret (.lenP (.attr (.var 0) 4))) .nil))
noncomputable def Ca:Ss:=.cons (.expr (.meth (.attr (.var 0) 45) 1 (.val (.v 1) .nil))) (.cons (.expr (.meth (.attr (.var 0) 46) 1 (.val (.v 1) .nil))) (.cons (.ifs (.and (.cmp .gt (.v 2) (.int 0)) (.cmp .eq (.lenP (.attr (.var 0) 4)) (.v 1))) (.cons (.pop (.attr (.var 0) 4)) .nil) (.cons (.ifs (.cmp .gt (.v 2) (.int 0)) (.cons (.append (.attr (.var 0) 4) (.glob 74)) (.cons (.setattr (.var 0) 47 (.prim .max2 (.cons (.a 0 47) (.cons (.v 2) .nil)))) .nil)) .nil) .nil)) .nil))
noncomputable def Bg:Ss:=.cons (.expr (.call 25 (.val (.v 1) .nil))) (.cons (.ifs (.cmp .ne (.v 1) (.a 0 41)) (.cons (.expr (.meth (.attr (.var 0) 45) 2 (.bor (.attr (.var 0) 4) (.val (.bin .sub (.v 1) (.a 0 41)) .nil)))) (.cons (.setattr (.var 0) 41 (.v 1)) .nil)) .nil) .nil)
noncomputable def CD:Ss:=.cons (.expr (.call 25 (.val (.v 1) .nil))) (.cons (.ifs (.cmp .ne (.v 1) (.a 0 40)) (.cons (.expr (.meth (.attr (.var 0) 46) 2 (.bor (.attr (.var 0) 4) (.val (.bin .sub (.v 1) (.a 0 40)) .nil)))) (.cons (.setattr (.var 0) 40 (.v 1)) .nil)) .nil) .nil)
noncomputable def BN:Ss:=.cons (.assign 2 (.dget (.attr (.var 0) 44) (.a 1 14) .none)) (.cons (.ifs (.isNone (.v 2) true) (.cons (.expr (.call 24 (.bor (.attr (.var 0) 4) (.val (.v 1) .nil)))) (.cons (.setitem (.attr (.var 0) 44) (.at_ (.attr (.var 1) 14)) (.v 1)) .nil)) (.cons (.ifs (.same (.v 2) (.v 1) false) (.cons .bad .nil) .nil) .nil)) (.cons (.ifs (.cmp .ne (.a 1 14) (.a 0 24)) (.cons (.ifs (.cmp .lt (.a 1 14) (.int 64)) (.cons (.append (.attr (.var 0) 4) (.bin .add (.glob 75) (.a 1 14))) .nil) (.cons (.expr (.call 22 (.bor (.attr (.var 0) 4) (.val (.glob 76) (.val (.a 1 14) .nil))))) .nil)) (.cons (.setattr (.var 0) 24 (.a 1 14)) .nil)) .nil) .nil))
noncomputable def CP:Ss:=.cons (.ifs (.not (.meth (.var 1) 13 (.val (.v 2) .nil))) (.cons .bad .nil) .nil) (.cons (.expr (.meth (.var 0) 6 (.val (.v 3) .nil))) (.cons (.expr (.meth (.var 0) 7 (.val (.v 4) .nil))) (.cons (.expr (.meth (.var 0) 8 (.val (.v 1) .nil))) (.cons (.ifs (.cmp .ge (.v 2) (.int 128)) (.cons (.append (.attr (.var 0) 4) (.glob 77)) .nil) .nil) (.cons (.append (.attr (.var 0) 4) (.v 2)) (.cons (.setattr (.var 0) 41 (.call 25 (.val (.bin .add (.v 3) (.meth (.var 1) 14 (.val (.v 2) .nil))) .nil))) .nil))))))
noncomputable def CE:Ss:=.cons (.expr (.meth (.var 0) 6 (.val (.v 2) .nil))) (.cons (.expr (.meth (.var 0) 7 (.val (.v 3) .nil))) (.cons (.expr (.call 22 (.bor (.attr (.var 0) 4) (.val (.glob 78) (.val (.lenP (.var 1)) .nil))))) (.cons (.extendB (.attr (.var 0) 4) (.v 1)) .nil)))
noncomputable def DF:Ss:=.cons (.ifs (.cmp .gt (.lenP (.var 2)) (.int 10)) (.cons .bad .nil) .nil) (.cons (.expr (.call 32 (.val (.v 1) (.val (.v 3) (.val (.v 4) .nil))))) (.cons (.assign 5 (.new 10 (.val (.a 0 44) (.val (.a 0 12) .nil)))) (.cons (.append (.attr (.var 5) 4) (.glob 79)) (.cons (.for_ 6 (.rng .range1 (.cons (.int 10) .nil)) (.cons (.expr (.call 20 (.bor (.attr (.var 5) 4) (.val (.ite (.cmp .lt (.v 6) (.lenP (.var 2))) (.call 2 (.val (.rd (.at_ (.var 2) (.var 6))) .nil)) (.int 0)) (.val (.int 4) .nil))))) .nil)) (.cons (.expr (.call 20 (.bor (.attr (.var 5) 4) (.val (.a 0 49) (.val (.int 4) .nil))))) (.cons (.expr (.call 30 (.bor (.var 5) (.val (.v 1) (.val (.v 3) (.val (.bin .add (.v 4) (.a 1 21)) (.val (.int 0) .nil))))))) (.cons (.append (.attr (.var 5) 4) (.glob 80)) (.cons (.setattr (.var 0) 49 (.lenP (.attr (.var 0) 4))) (.cons (.extend (.attr (.var 0) 4) (.a 5 4)) (.cons (.setattr (.var 0) 44 (.a 5 44)) (.cons (.augAttr (.var 0) 48 (.int 1)) (.cons (.setattr (.var 0) 50 (.prim .max2 (.cons (.a 0 50) (.cons (.bin .add (.bin .add (.a 1 21) (.a 1 12)) (.v 4)) .nil)))) (.cons (.setattr (.var 0) 51 (.prim .max2 (.cons (.a 0 51) (.cons (.bin .add (.a 1 22) (.v 3)) .nil)))) (.cons (.setattr (.var 0) 47 (.prim .max2 (.cons (.a 0 47) (.cons (.a 5 47) .nil)))) .nil))))))))))))))
noncomputable def C2:Ss:=.cons (.assign 1 (.prim .list (.cons (.a 0 4) .nil))) (.cons (.append (.var 1) (.glob 81)) (.cons (.expr (.call 20 (.bor (.var 1) (.val (.a 0 49) (.val (.int 4) .nil))))) (.cons (.expr (.call 23 (.bor (.var 1) .nil))) (.cons (.expr (.call 20 (.bor (.var 1) (.val (.a 0 50) (.val (.int 4) .nil))))) (.cons (.expr (.call 20 (.bor (.var 1) (.val (.a 0 51) (.val (.int 4) .nil))))) (.cons (.expr (.call 20 (.bor (.var 1) (.val (.a 0 47) (.val (.int 2) .nil))))) (.cons (.expr (.call 20 (.bor (.var 1) (.val (.a 0 48) (.val (.int 2) .nil))))) (.cons (.for_ 2 (.of (.slRev (.prim .sorted (.cons (.a 0 44) .nil)))) (.cons (.expr (.call 24 (.bor (.var 1) (.val (.idx (.a 0 44) (.v 2)) .nil)))) .nil)) (.cons (.append (.var 1) (.glob 82)) (.cons (.expr (.call 20 (.bor (.var 1) (.val (.lenP (.attr (.var 0) 4)) (.val (.int 4) .nil))))) (.cons (.append (.var 1) (.glob 59)) (.cons (.for_ 3 (.rng .range1 (.cons (.bin .add (.int 4) (.bin .mod (.neg (.lenP (.var 1))) (.int 4))) .nil)) (.cons (.append (.var 1) (.glob 83)) .nil)) (.cons (.ret (.prim .bytes (.cons (.v 1) .nil))) .nil)))))))))))))
noncomputable def JV:Ss:=.cons (.ret (.cmp .inn (.v 1) (.a 0 53))) .nil
noncomputable def Gj:Ss:=.cons (.ret (.idx (.dget (.attr (.var 0) 53) (.v 1) (.glob 84)) (.int 0))) .nil
noncomputable def K1:Ss:=.cons (.ret (.idx (.dget (.attr (.var 0) 53) (.v 1) (.glob 84)) (.int 1))) .nil
noncomputable def MS:Ss:=.cons (.ret (.idx (.dget (.attr (.var 0) 53) (.v 1) (.glob 84)) (.int 2))) .nil
noncomputable def J9:Fn:=⟨3,[],3,[],JC⟩
noncomputable def ON:List String:=["value","low","high"]
noncomputable def Ey:Fn:=⟨1,[],1,[],E5⟩
noncomputable def Je:List String:=["value"]
noncomputable def EQ:Fn:=⟨1,[],1,[],Eb⟩
noncomputable def IP:List String:=["value"]
noncomputable def FR:Fn:=⟨1,[],1,[],FL⟩
noncomputable def Jd:List String:=["value"]
noncomputable def LY:Fn:=⟨2,[],2,[],LK⟩
noncomputable def PV:List String:=["number","by"]
noncomputable def Fz:Fn:=⟨1,[],1,[],GP⟩
noncomputable def Kc:List String:=["code"]
noncomputable def E7:Fn:=⟨1,[],1,[],FO⟩
noncomputable def JS:List String:=["depth"]
noncomputable def CM:Fn:=⟨1,[],2,[],CK⟩
noncomputable def EW:List String:=["node"]
noncomputable def DC:Fn:=⟨2,[],5,[],DP⟩
noncomputable def GO:List String:=["node","depth","kind","sums","sizes"]
noncomputable def IB:Fn:=⟨2,[.int 0],5,[],Hh⟩
noncomputable def Mp:List String:=["node","depth","kind","sizes"]
noncomputable def DI:Fn:=⟨2,[.int 0],3,[],C1⟩
noncomputable def F2:List String:=["items","depth"]
noncomputable def Jn:Fn:=⟨1,[],3,[],JP⟩
noncomputable def O4:List String:=["node","kind"]
noncomputable def Hy:Fn:=⟨1,[],3,[],Hb⟩
noncomputable def NA:List String:=["node","kind"]
noncomputable def Ir:Fn:=⟨1,[],3,[],Jj⟩
noncomputable def Oq:List String:=["node","kind"]
noncomputable def Dq:Fn:=⟨5,[],12,[],Dn⟩
noncomputable def HX:List String:=["skip","begin","size","edge","is_vertical","leader","wide","count","room","first","between"]
noncomputable def EZ:Fn:=⟨1,[],2,[],D6⟩
noncomputable def IV:List String:=["items","node"]
noncomputable def TL:Fn:=⟨2,[],2,[],Uk⟩
noncomputable def VD:List String:=["box","glue"]
noncomputable def KO:Fn:=⟨2,[],2,[],Jr⟩
noncomputable def Ot:List String:=["box","flexed"]
noncomputable def Ht:Fn:=⟨2,[],2,[],Hx⟩
noncomputable def Mh:List String:=["box","node"]
noncomputable def Ny:Fn:=⟨1,[],5,[],OT⟩
noncomputable def R5:List String:=["box","found","fixed","flexed","node"]
noncomputable def Fs:Fn:=⟨3,[],4,[0],GE⟩
noncomputable def Kl:List String:=["octets","number","room","place"]
noncomputable def F6:Fn:=⟨3,[],4,[0],Fe⟩
noncomputable def Ke:List String:=["octets","first","size","room"]
noncomputable def FM:Fn:=⟨3,[],4,[0],FQ⟩
noncomputable def KT:List String:=["octets","first","number","room"]
noncomputable def H4:Fn:=⟨1,[],1,[0],H6⟩
noncomputable def MN:List String:=["octets"]
noncomputable def FE:Fn:=⟨2,[],4,[0],E9⟩
noncomputable def Jm:List String:=["octets","font","mark"]
noncomputable def E8:Fn:=⟨1,[],1,[],Ez⟩
noncomputable def JM:List String:=["place"]
noncomputable def Oh:Fn:=⟨2,[],2,[],NW⟩
noncomputable def Q9:List String:=["state","used"]
noncomputable def KL:Fn:=⟨1,[],8,[],KQ⟩
noncomputable def NH:List String:=["box","offsets","found","place","item","spot","part","behind"]
noncomputable def E6:Fn:=⟨5,[],14,[0],Cw⟩
noncomputable def KW:List String:=["page","box","row","left","base","item","h","kind","shape","size","width","height","depth"]
noncomputable def Hq:Fn:=⟨5,[],14,[0],EV⟩
noncomputable def MR:List String:=["page","box","row","left","top","item","v","kind","shape","size","width","height","depth"]
noncomputable def Lo:Fn:=⟨5,[],15,[0],K6⟩
noncomputable def PL:List String:=["page","box","left","base","depth","begin","is_vertical","row","inner","part","part_left","part_base","is_copy","h","v"]
noncomputable def LX:Fn:=⟨2,[.int 0],4,[],Lu⟩
noncomputable def QB:List String:=["box","depth","found","item"]
noncomputable def Gh:Fn:=⟨3,[],3,[],GN⟩
noncomputable def Kr:List String:=["box","left","top"]
noncomputable def K9:Fn:=⟨1,[],1,[],LF⟩
noncomputable def PK:List String:=["value"]
noncomputable def E0:Fn:=⟨1,[],2,[],FI⟩
noncomputable def JR:List String:=["sizes","size"]
noncomputable def FH:Fn:=⟨2,[],6,[],FB⟩
noncomputable def J2:List String:=["chars","many","code","row","sort","rest"]
noncomputable def Ec:Fn:=⟨1,[],4,[],D8⟩
noncomputable def IE:List String:=["chars","code","far","turns"]
noncomputable def Dm:Fn:=⟨4,[],12,[],Ds⟩
noncomputable def HM:List String:=["program","kerns","chars","boundary","many","place","row","octet","skip","following","op","rest"]
noncomputable def GT:Fn:=⟨1,[],5,[],F5⟩
noncomputable def Kq:List String:=["program","skip","following","op","rest"]
noncomputable def Hj:Fn:=⟨1,[],3,[],Hs⟩
noncomputable def Mi:List String:=["number","left","found"]
noncomputable def EO:Fn:=⟨6,[.tup [.int 0,.int 196608,.int 98304,.int 65536,.int 262144,.int 655360,.int 65536],.tup [],.tup [],.int 256],8,[],EE⟩
noncomputable def IR:List String:=["number","rows","params","program","kerns","boundary","chars","row"]
noncomputable def Lh:Fn:=⟨2,[],4,[],LJ⟩
noncomputable def PI:List String:=["script","k","cell"]
noncomputable def KG:Fn:=⟨2,[],4,[0],JN⟩
noncomputable def Nj:List String:=["box","many","digit","mixed"]
noncomputable def DB:Fn:=⟨4,[],6,[0,3],DN⟩
noncomputable def Ge:List String:=["box","deep","kind","serial","way","one"]
noncomputable def Dw:Fn:=⟨3,[],7,[0,2],A5⟩
noncomputable def Gu:List String:=["box","deep","serial","kind","one","parts"]
noncomputable def DO:Fn:=⟨3,[],7,[0],A5⟩
noncomputable def GV:List String:=["box","deep","serial","kind","one","parts"]
noncomputable def Fp:Fn:=⟨1,[],3,[],Ff⟩
noncomputable def Kd:List String:=["tree","found","part"]
noncomputable def Ju:Fn:=⟨3,[],5,[],Jt⟩
noncomputable def Nk:List String:=["tree","font","bare","found"]
noncomputable def JF:Fn:=⟨3,[],4,[],KV⟩
noncomputable def N3:List String:=["part","font","bare","sort"]
noncomputable def Jp:Fn:=⟨1,[],2,[],KN⟩
noncomputable def N0:List String:=["shown","writer"]
noncomputable def Xl:Fn:=⟨1,[],9,[],Xp⟩
noncomputable def YE:List String:=["script","font","box","tree","whole","bare","before","told"]
noncomputable def H8:Fn:=⟨6,[.int 0,.int 0,.int 0,.int 0,.int 0],6,[0],H7⟩
noncomputable def Mc:List String:=["self","width","stretch","stretch_order","shrink","shrink_order"]
noncomputable def Hn:Fn:=⟨3,[],3,[0],HZ⟩
noncomputable def L4:List String:=["self","font","code"]
noncomputable def JD:Fn:=⟨6,[],6,[0],Iq⟩
noncomputable def O6:List String:=["self","kind","width","height","depth","items"]
noncomputable def Hm:Fn:=⟨3,[],3,[0],ID⟩
noncomputable def MT:List String:=["self","width","sort"]
noncomputable def Hl:Fn:=⟨4,[.none],4,[0],Hv⟩
noncomputable def MG:List String:=["self","glue","sort","leader"]
noncomputable def ER:Fn:=⟨2,[],3,[0],EH⟩
noncomputable def IQ:List String:=["self","octets","octet"]
noncomputable def Gi:Fn:=⟨3,[],3,[0],GR⟩
noncomputable def K2:List String:=["self","stream","tokens"]
noncomputable def EF:Fn:=⟨3,[],3,[0],EJ⟩
noncomputable def IT:List String:=["self","stream","name"]
noncomputable def Dr:Fn:=⟨2,[],2,[0],Dv⟩
noncomputable def G7:List String:=["self","stream"]
noncomputable def Fo:Fn:=⟨2,[],2,[0],Fq⟩
noncomputable def K5:List String:=["self","plain"]
noncomputable def Cl:Fn:=⟨3,[],3,[0],Co⟩
noncomputable def Fb:List String:=["self","fonts","depth"]
noncomputable def DL:Fn:=⟨2,[.int 40],3,[0],C9⟩
noncomputable def F3:List String:=["self","depth","mark"]
noncomputable def Hw:Fn:=⟨9,[.tup [],.tup [],.int 256],9,[0],H5⟩
noncomputable def ML:List String:=["self","number","name","size","params","chars","program","kerns","boundary"]
noncomputable def GL:Fn:=⟨1,[],1,[],GJ⟩
noncomputable def Kp:List String:=["self"]
noncomputable def FD:Fn:=⟨2,[],2,[0],E4⟩
noncomputable def Ip:List String:=["self","begin"]
noncomputable def GH:Fn:=⟨3,[],6,[0,1],Ft⟩
noncomputable def Ko:List String:=["self","octets","size","hit","state","row"]
noncomputable def HY:Fn:=⟨3,[],8,[0,1],Hu⟩
noncomputable def MD:List String:=["self","octets","size","seen","place","there","spot","state"]
noncomputable def Cr:Fn:=⟨2,[],2,[0],Ch⟩
noncomputable def FW:List String:=["self","depth"]
noncomputable def CY:Fn:=⟨3,[],3,[0],Ca⟩
noncomputable def Ep:List String:=["self","begin","depth"]
noncomputable def Bh:Fn:=⟨2,[],2,[0],Bg⟩
noncomputable def C0:List String:=["self","h"]
noncomputable def CF:Fn:=⟨2,[],2,[0],CD⟩
noncomputable def Dx:List String:=["self","v"]
noncomputable def CJ:Fn:=⟨2,[],3,[0],BN⟩
noncomputable def ET:List String:=["self","font","known"]
noncomputable def CN:Fn:=⟨5,[],5,[0],CP⟩
noncomputable def Ee:List String:=["self","font","code","h","v"]
noncomputable def CA:Fn:=⟨4,[],4,[0],CE⟩
noncomputable def Dz:List String:=["self","octets","h","v"]
noncomputable def C5:Fn:=⟨5,[.tup [],.int 0,.int 0],7,[0],DF⟩
noncomputable def GB:List String:=["self","box","counts","left","top","page","place"]
noncomputable def C4:Fn:=⟨1,[],4,[],C2⟩
noncomputable def Fv:List String:=["self","octets","number","place"]
noncomputable def Jo:Fn:=⟨2,[],2,[],JV⟩
noncomputable def O9:List String:=["self","code"]
noncomputable def Fr:Fn:=⟨2,[],2,[],Gj⟩
noncomputable def Ku:List String:=["self","code"]
noncomputable def Ky:Fn:=⟨2,[],2,[],K1⟩
noncomputable def Jh:List String:=["self","code"]
noncomputable def Mj:Fn:=⟨2,[],2,[],MS⟩
noncomputable def Kj:List String:=["self","code"]
noncomputable def BP {α:Type}:List α→Nat→α→α
 | [],_,d=>d
 | x::_,0,_=>x
 | _::l,n+1,d=>BP l n d
noncomputable def lT:List Fn:=[J9,Ey,EQ,FR,LY,Fz,E7,CM,DC,IB,DI,Jn,Hy,Ir,Dq,EZ,TL,KO,Ht,Ny,Fs,F6,FM,H4,FE,E8,Oh,KL,E6,Hq,Lo,LX,Gh,K9,E0,FH,Ec,Dm,GT,Hj,EO,Lh,KG,DB,Dw,DO,Fp,Ju,JF,Jp,Xl,H8,Hn,JD,Hm,Hl,ER,Gi,EF,Dr,Fo,Cl,DL,Hw,GL,FD,GH,HY,Cr,CY,Bh,CF,CJ,CN,CA,C5,C4,Jo,Fr,Ky,Mj]
noncomputable def attrL:List String:=["sort","tokens","stream","name","octets","kind","middle","post","pre","items","cost","top","depth","size","number","totals","shrink","stretch","natural","is_vertical","spans","height","width","code","font","right","left","parts","ratio","order","sign","shift","leader","glue","value","is_on","stretch_order","shrink_order","check","design","v","h","plain","rows","fonts","across","down","deepest","pages","last","tallest","widest","params","chars","program","kerns","boundary","edge_start","hyphen_char","skew_char"]
noncomputable def SV:List String:=["MAX_NUMBER","MAX_DIMEN","DEEPEST","WRITING","SPECIAL","OPENING","CLOSING","FOR_DEVICE","DISC","INSERT","ADJUST","UNSET","CHAR","LIGATURE","VBOX","HBOX","RULE","KERN","GLUE","PENALTY","MARK","MATH","MOST_COPIES","ALEADERS","CLEADERS","STRETCHED","SHRUNK","NUMERATOR","DENOMINATOR","MAGNIFICATION","FONT_DEF_1","IS_FIRST","FREE","SECOND_FREE","FIRST_FREE","FIXED","SILENT_ACROSS","SILENT_DOWN","DEEPEST_BOXES","PIECES_SORT","PLAIN_SORT","PROGRAM_SORT","LARGER_SORT","STOP_SKIP","KERN_OP","LEAD","LETTERS","MOST_FONTS","FILLL","NORMAL","NATURAL","MU_KERN","FONT_KERN","NAMED","NONSCRIPT","PLAIN","XLEADERS","RIGHT_1","DOWN_1","IDENTITY","PREAMBLE","COMMENT_TEXT","MOST_SIZE","MOST_PARAMS","EDGE","FIRST_AGAIN","SECOND_AGAIN","NONE_SEEN","SECOND_SEEN","IS_SECOND","FIRST_SEEN","FIRST_SET","SECOND_SET","PUSH","POP","FONT_0","FONT_1","SET_1","SPECIAL_1","PAGE_BEGIN","PAGE_END","POSTAMBLE","POST_POST","FILLING","NO_CHARACTER"]
noncomputable def Q7:List V:=[.int 2147483647,.int 1073741823,.int 60,.int 1,.int 13,.int 2,.int 3,.int 0,.int 8,.int 10,.int 11,.int 14,.int 0,.int 1,.int 3,.int 2,.int 4,.int 5,.int 6,.int 7,.int 9,.int 12,.int 2000,.int 1,.int 2,.int 1,.int 2,.int 25400000,.int 473628672,.int 1000,.int 243,.int 4,.int 0,.int 2,.int 1,.int 3,.tup [.int 5,.int 6,.int 7,.int 9,.int 10,.int 11,.int 12],.tup [.int 5,.int 6,.int 7,.int 9,.int 10],.int 60,.int 3,.int 0,.int 1,.int 2,.int 128,.int 128,.int 255,.str [97,98,99,100,101,102,103,104,106,107,108,109,110,111,112,113,114,115,116,117,118,119,120,121,122],.int 255,.int 3,.int 0,.int 0,.int 3,.int 0,.int 100,.int 5,.int 0,.int 3,.int 143,.int 157,.int 2,.int 247,.str [103,108,117,101,112,97,103,101],.int 134217727,.int 64,.int 256,.int 4,.int 9,.int 0,.int 2,.int 5,.int 1,.int 5,.int 10,.int 141,.int 142,.int 171,.int 235,.int 128,.int 239,.int 139,.int 140,.int 248,.int 249,.int 223,.tup [.int 0,.int 0,.int 0,.int 0,.int 0,.int 0]]
noncomputable def bV:List String:=["parts","prune","move","hit","open","close","go_across","go_down","choose","letter","special","ship","done","has","width","height","depth"]
noncomputable def fW:List (Option String):=[some "is_whole",some "check_whole",some "check_number",some "check_dimen",some "rounded",some "check_code",some "check_depth",some "described_special",some "described_rest",some "described",some "described_list",some "width_of",some "height_of",some "depth_of",some "leader_places",some "check_column",some "flex",some "set_part",some "part_size",some "places",some "put_number",some "put_signed",some "put_counted",some "put_units",some "define_font",some "check_place",some "barred",some "parts_of",some "across_part",some "down_part",some "out_box",some "done_by",some "check_page",some "is_size",some "check_sizes",some "check_chars",some "check_larger",some "check_program",some "left_start",some "font_name",some "font_of_rows",some "_law_box",some "_law_take",some "_law_drawn_item",some "_law_drawn_box",some "_law_drawn_box",some "_law_walked",some "_law_made",some "_law_node",some "_law_file",some "law",none,none,none,none,none,none,none,none,none,none,none,none,none,none,none,none,none,none,none,none,none,none,none,none,none,none,none,none,none,none]
noncomputable def YO:List String:=["Glue","Char","Box","Kern","Skip","Special","Write","OpenOut","CloseOut","Moves","PageWriter","DviWriter","Font"]
noncomputable def bK:List (List (Nat×Option V)):=[[(22,none),(17,none),(36,none),(16,none),(37,none)],[(5,some (.int 0)),(24,none),(23,none)],[(5,none),(22,none),(21,none),(12,none),(9,none),(31,none),(30,none),(29,none),(28,none)],[(5,some (.int 5)),(22,none),(0,none)],[(5,some (.int 6)),(33,none),(0,none),(32,none)],[(5,some (.int 13)),(0,some (.int 0)),(4,none)],[(5,some (.int 13)),(0,some (.int 1)),(2,none),(1,none)],[(5,some (.int 13)),(0,some (.int 2)),(2,none),(3,none)],[(5,some (.int 13)),(0,some (.int 3)),(2,none)],[(42,none),(43,none)],[(4,none),(44,none),(12,none),(41,none),(40,none),(24,none),(45,none),(46,none),(47,none)],[(12,none),(4,none),(44,none),(48,none),(49,none),(50,none),(51,none),(47,none)],[(14,none),(3,none),(13,none),(39,none),(38,none),(52,none),(53,none),(54,none),(55,none),(56,none),(57,none),(58,none),(59,none)]]
noncomputable def Z1:List (List (Nat×Nat)):=[[(0,64)],[],[],[],[],[],[],[],[],[(1,65),(2,66),(3,67)],[(4,68),(5,69),(6,70),(7,71),(8,72),(9,73),(10,74)],[(11,75),(12,76)],[(13,77),(14,78),(15,79),(16,80)]]
noncomputable def mW:List Nat:=[51,52,53,54,55,56,57,58,59,60,61,62,63]
noncomputable def lY:List (Nat×Nat):=[(0,27),(14,22),(15,21),(16,12)]
noncomputable def Hg {α:Type}:List (Nat×α)→Nat→Option α
 | [],_=>none
 | (k,x)::l,n=>if k==n then some x else Hg l n
noncomputable def XK:List (Nat×Nat)→Nat→Nat→Bool
 | [],_,_=>false
 | (a,b)::l,m,k=>(a==m&&b==k)||XK l m k
noncomputable def eG (fa cls:Nat→Addr):Tabs where
 cls:=cls
 an:=fun i=>BP (attrL.map Str.ofString) i ⟨#[1114112+i]⟩
 cv:=fun c a=>Hg (BP bK c []) a
 cm:=fun c m=>Hg (BP Z1 c []) m
 ci:=fun c=>BP mW c 0
 gv:=fun g=>BP Q7 g .undef
 fn:=fun f=>BP lT f ⟨0,[],0,[],.nil⟩
 gn:=fun g=>Str.ofString (BP SV g "")
 fg:=fun f=>(BP fW f none).map Str.ofString
 cg:=fun c=>(BP (YO.map some) c none).map Str.ofString
 mn:=fun m=>Str.ofString (BP bV m "")
 fa:=fa
 nf:=81
 cs:=fun c a=>Bf (Hg (BP bK c []) a) DH
 mx:=fun m k=>!XK lY m k
end
end Mine
namespace Hd
section
open PySem PySem.W PySem.Calls PyProof.Rows
noncomputable def hH (P:Params):List DictEntry:=j5 P
noncomputable def fc (k:Addr)(st:Stmt)(n q:String)(t u l a b c d:Nat)(dv:Value)(m:String)(tm:Nat):Frag:=[(k+5,cO n q t u l a b c d k true (k+1) (cR (k+2) (k+3) (k+4))),(k+6,fF st n q 3 dv (s m tm) (r (k+5)) 0)]
noncomputable def kG:List Frag→Frag
 | []=>[]
 | l::r=>l++kG r
noncomputable def KP (P:Params):Frag:=kG [[(0,boot_o_0 P),
 (1,boot_o_1 P),
 (2,boot_o_2 P),
 (3,dO (hH P) 184)],
 fc 119 (sm 14) "is_whole" "is_whole" 344 350 26 3 0 0 3 N "gluepage.scaled" 320,
 fc 126 (sm 15) "check_whole" "check_whole" 353 357 28 1 0 0 3 N "gluepage.scaled" 320,
 fc 133 (sm 16) "check_number" "check_number" 360 364 32 1 0 0 3 N "gluepage.scaled" 320,
 fc 140 (sm 17) "check_dimen" "check_dimen" 367 371 36 1 0 0 3 N "gluepage.scaled" 320,
 fc 147 (sm 18) "rounded" "rounded" 374 379 40 2 0 0 3 N "gluepage.scaled" 320,
 [(189,tp [(i 0 431),(i 0 432),(i 0 433),(i 0 434),(i 0 435)])],
 fc 190 (cm 23 0) "__init__" "Glue.__init__" 436 445 65 6 0 0 3 (r 189) "gluepage.scaled" 320,
 fc 197 (cm 23 1) "parts" "Glue.parts" 448 452 74 1 0 0 3 N "gluepage.scaled" 320,
 [(248,dO [eM P 426 "gluepage.scaled" 320,eF P 430 63 429,eI P 447 196,e P "parts" 454 (r 203),e P "same" 462 (r 210),e P "added" 470 (r 217),e P "times" 478 (r 224),e P "over" 486 (r 231),e P "negated" 493 (r 238),e P "text" 503 (r 246),eS P 509 247,e P "__dict__" 511 (r 250),e P "__weakref__" 513 (r 251),eD P 514] 4),
 (249,kO "type" [none,none,o (s "Glue" 419),o (s "Glue" 427),o (bt "object.__new__"),o (.bool true)] "Glue" [(ty "object")] [(r 249),(ty "object")] 248 "Glue" true [] false false)],
 fc 278 (sm 32) "check_code" "check_code" 587 591 107 1 0 0 3 N "gluepage.nodes" 517,
 fc 292 (cm 33 1) "__init__" "Char.__init__" 607 613 114 3 0 0 3 N "gluepage.nodes" 517,
 [(300,dO [eM P 601 "gluepage.nodes" 517,eF P 605 111 604,e P "kind" 606 (i 0 519),eI P 615 298,eS P 618 299,e P "__dict__" 620 (r 302),e P "__weakref__" 622 (r 303),eD P 623] 4),
 (301,kO "type" [none,none,o (s "Char" 594),o (s "Char" 602),o (bt "object.__new__"),o (.bool true)] "Char" [(ty "object")] [(r 301),(ty "object")] 300 "Char" true [] false false)],
 fc 313 (cm 34 0) "__init__" "Box.__init__" 638 647 119 6 0 0 3 N "gluepage.nodes" 517,
 [(321,dO [eM P 633 "gluepage.nodes" 517,eF P 637 117 636,eI P 649 319,eS P 659 320,e P "__dict__" 661 (r 323),e P "__weakref__" 663 (r 324),eD P 664] 4),
 (322,kO "type" [none,none,o (s "Box" 626),o (s "Box" 634),o (bt "object.__new__"),o (.bool true)] "Box" [(ty "object")] [(r 322),(ty "object")] 321 "Box" true [] false false)],
 fc 334 (cm 35 1) "__init__" "Kern.__init__" 680 686 134 3 0 0 3 N "gluepage.nodes" 517,
 [(342,dO [eM P 674 "gluepage.nodes" 517,eF P 678 131 677,e P "kind" 679 (i 5 524),eI P 688 340,eS P 691 341,e P "__dict__" 693 (r 344),e P "__weakref__" 695 (r 345),eD P 696] 4),
 (343,kO "type" [none,none,o (s "Kern" 667),o (s "Kern" 675),o (bt "object.__new__"),o (.bool true)] "Kern" [(ty "object")] [(r 343),(ty "object")] 342 "Kern" true [] false false),
 (355,tp [N])],
 fc 356 (cm 36 1) "__init__" "Skip.__init__" 712 719 142 4 0 0 3 (r 355) "gluepage.nodes" 517,
 [(364,dO [eM P 706 "gluepage.nodes" 517,eF P 710 139 709,e P "kind" 711 (i 6 525),eI P 721 362,eS P 725 363,e P "__dict__" 727 (r 366),e P "__weakref__" 729 (r 367),eD P 730] 4),
 (365,kO "type" [none,none,o (s "Skip" 699),o (s "Skip" 707),o (bt "object.__new__"),o (.bool true)] "Skip" [(ty "object")] [(r 365),(ty "object")] 364 "Skip" true [] false false)],
 fc 377 (cm 37 2) "__init__" "Special.__init__" 747 753 156 2 0 0 3 N "gluepage.nodes" 517,
 [(385,dO [eM P 740 "gluepage.nodes" 517,eF P 744 152 743,e P "kind" 745 (i 13 540),e P "sort" 746 (i 0 577),eI P 755 383,eS P 757 384,e P "__dict__" 759 (r 387),e P "__weakref__" 761 (r 388),eD P 762] 4),
 (386,kO "type" [none,none,o (s "Special" 733),o (s "Special" 741),o (bt "object.__new__"),o (.bool true)] "Special" [(ty "object")] [(r 386),(ty "object")] 385 "Special" true [] false false)],
 fc 398 (cm 38 2) "__init__" "Write.__init__" 779 785 167 3 0 0 3 N "gluepage.nodes" 517,
 [(406,dO [eM P 772 "gluepage.nodes" 517,eF P 776 163 775,e P "kind" 777 (i 13 540),e P "sort" 778 (i 1 578),eI P 787 404,eS P 790 405,e P "__dict__" 792 (r 408),e P "__weakref__" 794 (r 409),eD P 795] 4),
 (407,kO "type" [none,none,o (s "Write" 765),o (s "Write" 773),o (bt "object.__new__"),o (.bool true)] "Write" [(ty "object")] [(r 407),(ty "object")] 406 "Write" true [] false false)],
 fc 419 (cm 39 2) "__init__" "OpenOut.__init__" 812 818 174 3 0 0 3 N "gluepage.nodes" 517,
 [(427,dO [eM P 805 "gluepage.nodes" 517,eF P 809 170 808,e P "kind" 810 (i 13 540),e P "sort" 811 (i 2 579),eI P 820 425,eS P 823 426,e P "__dict__" 825 (r 429),e P "__weakref__" 827 (r 430),eD P 828] 4),
 (428,kO "type" [none,none,o (s "OpenOut" 798),o (s "OpenOut" 806),o (bt "object.__new__"),o (.bool true)] "OpenOut" [(ty "object")] [(r 428),(ty "object")] 427 "OpenOut" true [] false false)],
 fc 440 (cm 40 2) "__init__" "CloseOut.__init__" 845 850 183 2 0 0 3 N "gluepage.nodes" 517,
 [(448,dO [eM P 838 "gluepage.nodes" 517,eF P 842 179 841,e P "kind" 843 (i 13 540),e P "sort" 844 (i 3 580),eI P 852 446,eS P 854 447,e P "__dict__" 856 (r 450),e P "__weakref__" 858 (r 451),eD P 859] 4),
 (449,kO "type" [none,none,o (s "CloseOut" 831),o (s "CloseOut" 839),o (bt "object.__new__"),o (.bool true)] "CloseOut" [(ty "object")] [(r 449),(ty "object")] 448 "CloseOut" true [] false false)],
 fc 454 (sm 41) "check_depth" "check_depth" 862 866 185 1 0 0 3 N "gluepage.nodes" 517,
 [(464,CU "described_special" 869 872 188 1 0 0 3 461 true 462 [N,N,N,(r 463)]),
 (465,fF (sm 42) "described_special" "described_special" 3 N (s "gluepage.nodes" 517) (r 464) 0)],
 fc 466 (sm 43) "described_rest" "described_rest" 875 883 194 2 0 0 3 N "gluepage.nodes" 517,
 [(473,tp [(i 0 886)]),
 (477,CU "described" 887 890 209 2 0 0 3 474 true 475 [N,N,N,(r 476)]),
 (478,fF (sm 44) "described" "described" 3 (r 473) (s "gluepage.nodes" 517) (r 477) 0),
 (479,tp [(i 0 893)]),
 (483,CU "described_list" 894 897 232 2 0 0 3 480 true 481 [N,N,N,(r 482)]),
 (484,fF (sm 45) "described_list" "described_list" 3 (r 479) (s "gluepage.nodes" 517) (r 483) 0),
 (488,CU "width_of" 900 903 234 1 0 0 3 485 true 486 [N,N,N,(r 487)]),
 (489,fF (sm 46) "width_of" "width_of" 3 N (s "gluepage.nodes" 517) (r 488) 0),
 (493,CU "height_of" 906 909 247 1 0 0 3 490 true 491 [N,N,N,(r 492)]),
 (494,fF (sm 47) "height_of" "height_of" 3 N (s "gluepage.nodes" 517) (r 493) 0),
 (498,CU "depth_of" 912 915 260 1 0 0 3 495 true 496 [N,N,N,(r 497)]),
 (499,fF (sm 48) "depth_of" "depth_of" 3 N (s "gluepage.nodes" 517) (r 498) 0),
 (517,CU "leader_places" 936 939 283 5 0 0 3 514 true 515 [N,N,N,(r 516)]),
 (518,fF (sm 53) "leader_places" "leader_places" 3 N (s "gluepage.boxops" 932) (r 517) 0)],
 fc 526 (sm 56) "check_column" "check_column" 954 959 309 1 0 0 3 N "gluepage.packing" 952,
 fc 533 (sm 57) "flex" "flex" 962 967 313 2 0 0 3 N "gluepage.packing" 952,
 fc 540 (sm 58) "set_part" "set_part" 970 975 319 2 0 0 3 N "gluepage.packing" 952,
 fc 547 (sm 59) "part_size" "part_size" 978 983 321 2 0 0 3 N "gluepage.packing" 952,
 fc 554 (sm 60) "places" "places" 986 994 325 1 0 0 3 N "gluepage.packing" 952,
 [(589,tp [(i 5 524),(i 6 525),(i 7 526),(i 9 536),(i 10 537),(i 11 538),(i 12 539)]),
 (590,tp [(i 5 524),(i 6 525),(i 7 526),(i 9 536),(i 10 537)])],
 fc 591 (sm 73) "put_number" "put_number" 1077 1084 350 3 0 0 3 N "gluepage.dvi" 997,
 fc 598 (sm 74) "put_signed" "put_signed" 1087 1094 353 3 0 0 3 N "gluepage.dvi" 997,
 fc 605 (sm 75) "put_counted" "put_counted" 1097 1104 359 3 0 0 3 N "gluepage.dvi" 997,
 fc 612 (sm 76) "put_units" "put_units" 1107 1111 365 1 0 0 3 N "gluepage.dvi" 997,
 [(622,CU "define_font" 1114 1117 369 2 0 0 3 619 true 620 [N,N,N,(r 621)]),
 (623,fF (sm 77) "define_font" "define_font" 3 N (s "gluepage.dvi" 997) (r 622) 0)],
 fc 624 (sm 78) "check_place" "check_place" 1120 1124 380 1 0 0 3 N "gluepage.dvi" 997,
 fc 638 (cm 79 0) "__init__" "Moves.__init__" 1139 1144 386 2 0 0 3 N "gluepage.dvi" 997,
 fc 645 (cm 79 1) "prune" "Moves.prune" 1147 1152 390 2 0 0 3 N "gluepage.dvi" 997,
 fc 652 (cm 79 2) "move" "Moves.move" 1155 1164 394 3 0 0 3 N "gluepage.dvi" 997,
 fc 659 (cm 79 3) "hit" "Moves.hit" 1167 1178 406 3 0 0 3 N "gluepage.dvi" 997,
 [(667,dO [eM P 1134 "gluepage.dvi" 997,eF P 1138 384 1137,eI P 1146 644,e P "prune" 1154 (r 651),e P "move" 1166 (r 658),e P "hit" 1180 (r 665),eS P 1183 666,e P "__dict__" 1185 (r 669),e P "__weakref__" 1187 (r 670),eD P 1188] 4),
 (668,kO "type" [none,none,o (s "Moves" 1127),o (s "Moves" 1135),o (bt "object.__new__"),o (.bool true)] "Moves" [(ty "object")] [(r 668),(ty "object")] 667 "Moves" true [] false false)],
 fc 673 (sm 80) "barred" "barred" 1191 1196 430 2 0 0 3 N "gluepage.dvi" 997,
 fc 687 (cm 81 0) "__init__" "PageWriter.__init__" 1211 1217 436 3 0 0 3 N "gluepage.dvi" 997,
 fc 694 (cm 81 1) "open" "PageWriter.open" 1220 1225 447 2 0 0 3 N "gluepage.dvi" 997,
 fc 701 (cm 81 2) "close" "PageWriter.close" 1228 1234 454 3 0 0 3 N "gluepage.dvi" 997,
 fc 708 (cm 81 3) "go_across" "PageWriter.go_across" 1237 1242 463 2 0 0 3 N "gluepage.dvi" 997,
 fc 715 (cm 81 4) "go_down" "PageWriter.go_down" 1245 1250 469 2 0 0 3 N "gluepage.dvi" 997,
 fc 722 (cm 81 5) "choose" "PageWriter.choose" 1253 1259 475 2 0 0 3 N "gluepage.dvi" 997,
 fc 729 (cm 81 6) "letter" "PageWriter.letter" 1262 1270 489 5 0 0 3 N "gluepage.dvi" 997,
 fc 743 (cm 81 8) "special" "PageWriter.special" 1285 1292 513 4 0 0 3 N "gluepage.dvi" 997,
 [(751,dO [eM P 1206 "gluepage.dvi" 997,eF P 1210 434 1209,eI P 1219 693,e P "open" 1227 (r 700),e P "close" 1236 (r 707),e P "go_across" 1244 (r 714),e P "go_down" 1252 (r 721),e P "choose" 1261 (r 728),e P "letter" 1272 (r 735),e P "rule" 1284 (r 742),e P "special" 1294 (r 749),eS P 1304 750,e P "__dict__" 1306 (r 753),e P "__weakref__" 1308 (r 754),eD P 1309] 4),
 (752,kO "type" [none,none,o (s "PageWriter" 1199),o (s "PageWriter" 1207),o (bt "object.__new__"),o (.bool true)] "PageWriter" [(ty "object")] [(r 752),(ty "object")] 751 "PageWriter" true [] false false)],
 fc 757 (sm 82) "parts_of" "parts_of" 1312 1323 518 1 0 0 3 N "gluepage.dvi" 997,
 [(767,CU "across_part" 1326 1329 530 5 0 0 3 764 true 765 [N,N,N,(r 766)]),
 (768,fF (sm 83) "across_part" "across_part" 3 N (s "gluepage.dvi" 997) (r 767) 0),
 (772,CU "down_part" 1332 1335 551 5 0 0 3 769 true 770 [N,N,N,(r 771)]),
 (773,fF (sm 84) "down_part" "down_part" 3 N (s "gluepage.dvi" 997) (r 772) 0)],
 fc 774 (sm 85) "out_box" "out_box" 1338 1356 572 5 0 0 3 N "gluepage.dvi" 997,
 [(781,tp [(i 0 1359)])],
 fc 782 (sm 86) "done_by" "done_by" 1360 1367 589 2 0 0 3 (r 781) "gluepage.dvi" 997,
 fc 789 (sm 87) "check_page" "check_page" 1370 1376 599 3 0 0 3 N "gluepage.dvi" 997,
 [(803,tp [(i 40 1391)])],
 fc 804 (cm 88 0) "__init__" "DviWriter.__init__" 1392 1398 608 2 0 0 3 (r 803) "gluepage.dvi" 997,
 [(811,tp []),
 (812,tp [(r 811),(i 0 1401),(i 0 1402)])],
 fc 813 (cm 88 1) "ship" "DviWriter.ship" 1403 1413 624 5 0 0 3 (r 812) "gluepage.dvi" 997,
 fc 820 (cm 88 2) "done" "DviWriter.done" 1416 1423 643 1 0 0 3 N "gluepage.dvi" 997,
 [(828,dO [eM P 1386 "gluepage.dvi" 997,eF P 1390 606 1389,eI P 1400 810,e P "ship" 1415 (r 819),e P "done" 1425 (r 826),eS P 1434 827,e P "__dict__" 1436 (r 830),e P "__weakref__" 1438 (r 831),eD P 1439] 4),
 (829,kO "type" [none,none,o (s "DviWriter" 1379),o (s "DviWriter" 1387),o (bt "object.__new__"),o (.bool true)] "DviWriter" [(ty "object")] [(r 829),(ty "object")] 828 "DviWriter" true [] false false),
 (842,tp [(i 0 1470),(i 0 1471),(i 0 1472),(i 0 1473),(i 0 1474),(i 0 1475)]),
 (843,tp [(i 0 1479),(i 196608 1480),(i 98304 1481),(i 65536 1482),(i 262144 1483),(i 655360 1484),(i 65536 1485)])],
 fc 844 (sm 99) "is_size" "is_size" 1487 1491 670 1 0 0 3 N "gluepage.fonts" 1442,
 fc 851 (sm 100) "check_sizes" "check_sizes" 1494 1499 672 1 0 0 3 N "gluepage.fonts" 1442,
 fc 865 (sm 102) "check_chars" "check_chars" 1512 1521 682 2 0 0 3 N "gluepage.fonts" 1442,
 fc 872 (sm 103) "check_larger" "check_larger" 1524 1531 694 1 0 0 3 N "gluepage.fonts" 1442,
 fc 879 (sm 104) "check_program" "check_program" 1534 1549 702 4 0 0 3 N "gluepage.fonts" 1442,
 fc 886 (sm 105) "left_start" "left_start" 1552 1560 721 1 0 0 3 N "gluepage.fonts" 1442,
 [(900,tp []),
 (901,tp []),
 (902,tp [(r 900),(r 901),(i 256 1444)])],
 fc 903 (cm 106 0) "__init__" "Font.__init__" 1575 1587 728 9 0 0 3 (r 902) "gluepage.fonts" 1442,
 fc 910 (cm 106 1) "has" "Font.has" 1590 1595 752 2 0 0 3 N "gluepage.fonts" 1442,
 fc 917 (cm 106 2) "width" "Font.width" 1598 1603 755 2 0 0 3 N "gluepage.fonts" 1442,
 fc 924 (cm 106 3) "height" "Font.height" 1606 1611 758 2 0 0 3 N "gluepage.fonts" 1442,
 fc 931 (cm 106 4) "depth" "Font.depth" 1614 1619 761 2 0 0 3 N "gluepage.fonts" 1442,
 [(981,dO [eM P 1570 "gluepage.fonts" 1442,eF P 1574 726 1573,eI P 1589 909,e P "has" 1597 (r 916),e P "width" 1605 (r 923),e P "height" 1613 (r 930),e P "depth" 1621 (r 937),e P "italic" 1629 (r 944),e P "starts" 1637 (r 951),e P "larger" 1646 (r 958),e P "pieces" 1655 (r 965),e P "param" 1663 (r 972),e P "set_param" 1672 (r 979),eS P 1686 980,e P "__dict__" 1688 (r 983),e P "__weakref__" 1690 (r 984),eD P 1691] 4),
 (982,kO "type" [none,none,o (s "Font" 1563),o (s "Font" 1571),o (bt "object.__new__"),o (.bool true)] "Font" [(ty "object")] [(r 982),(ty "object")] 981 "Font" true [] false false)],
 fc 987 (sm 107) "font_name" "font_name" 1694 1700 783 1 0 0 3 N "gluepage.fonts" 1442,
 [(994,tp []),
 (995,tp []),
 (996,tp [(r 843),(r 994),(r 995),(i 256 1444)])],
 fc 997 (sm 108) "font_of_rows" "font_of_rows" 1703 1714 790 6 0 0 3 (r 996) "gluepage.fonts" 1442,
 [(1007,CU "_law_box" 1719 1722 800 2 0 0 3 1004 true 1005 [N,N,N,(r 1006)]),
 (1008,fF (sm 110) "_law_box" "_law_box" 3 N (s "law_sq0079_01" 1717) (r 1007) 0)],
 fc 1009 (sm 111) "_law_take" "_law_take" 1725 1732 806 2 0 0 3 N "law_sq0079_01" 1717,
 fc 1016 (sm 112) "_law_drawn_item" "_law_drawn_item" 1735 1744 814 4 0 0 3 N "law_sq0079_01" 1717,
 [(1026,CU "_law_drawn_box" 1747 1750 828 3 0 0 3 1023 true 1024 [N,N,N,(r 1025)]),
 (1027,fF (sm 113) "_law_drawn_box" "_law_drawn_box" 3 N (s "law_sq0079_01" 1717) (r 1026) 0)],
 fc 1028 (sm 114) "_law_walked" "_law_walked" 1753 1759 832 1 0 0 3 N "law_sq0079_01" 1717,
 [(1038,CU "_law_made" 1762 1765 840 3 0 0 3 1035 true 1036 [N,N,N,(r 1037)]),
 (1039,fF (sm 115) "_law_made" "_law_made" 3 N (s "law_sq0079_01" 1717) (r 1038) 0)],
 fc 1040 (sm 116) "_law_node" "_law_node" 1768 1775 844 3 0 0 3 N "law_sq0079_01" 1717,
 fc 1047 (sm 117) "_law_file" "_law_file" 1778 1783 861 1 0 0 3 N "law_sq0079_01" 1717,
 [(1057,CU "law" 1786 1789 865 1 0 0 3 1054 true 1055 [N,N,N,(r 1056)]),
 (1058,fF (sm 118) "law" "law" 3 N (s "law_sq0079_01" 1717) (r 1057) 0)]]
noncomputable def bW:List Addr:=[0,1,2,3,124,125,131,132,138,139,145,146,152,153,189,195,196,202,203,248,249,283,284,297,298,300,301,318,319,321,322,339,340,342,343,355,361,362,364,365,382,383,385,386,403,404,406,407,424,425,427,428,445,446,448,449,459,460,464,465,471,472,473,477,478,479,483,484,488,489,493,494,498,499,517,518,531,532,538,539,545,546,552,553,559,560,589,590,596,597,603,604,610,611,617,618,622,623,629,630,643,644,650,651,657,658,664,665,667,668,678,679,692,693,699,700,706,707,713,714,720,721,727,728,734,735,748,749,751,752,762,763,767,768,772,773,779,780,781,787,788,794,795,803,809,810,811,812,818,819,825,826,828,829,842,843,849,850,856,857,870,871,877,878,884,885,891,892,900,901,902,908,909,915,916,922,923,929,930,936,937,981,982,992,993,994,995,996,1002,1003,1007,1008,1014,1015,1021,1022,1026,1027,1033,1034,1038,1039,1045,1046,1052,1053,1057,1058]
theorem Ty (P:Params):bW=(KP P).map (·.1):=by kernel_rfl
theorem KP_in (P:Params):(KP P).In (absHeap (dI P) 1059 {}):=Frag.in_of (Ty P) (by kernel_rfl)
end
end Hd
namespace Mine
section
open PySem PySem.W PyProof.Rows PySem.Calls
open Hd (pw)
noncomputable def oK:List Addr:=[125,132,139,146,153,284,460,465,472,478,484,489,494,499,518,532,539,546,553,560,597,604,611,618,623,630,679,763,768,773,780,788,795,850,857,871,878,885,892,993,1003,1008,1015,1022,1027,1027,1034,1039,1046,1053,1058,196,298,319,340,362,383,404,425,446,644,693,810,909,203,651,658,665,700,707,714,721,728,735,749,819,826,916,923,930,937]
noncomputable def kJ:List Addr:=[249,301,322,343,365,386,407,428,449,668,752,829,982]
noncomputable def TT:Tabs:=eG (fun f=>BP oK f 0) (fun c=>BP kJ c 0)
noncomputable abbrev KF (P:Params):Frag:=Hd.KP P
noncomputable def Xq (v:Value):Bool:=match v with | .none=>true | _=>false
noncomputable def XX (v:Value)(f:Bool→Bool):Bool:=match v with | .bool b=>f b | _=>false
noncomputable def cI (v:Value)(f:Int→Bool):Bool:=match v with | .int i _=>f i | _=>false
noncomputable def VJ (v:Value)(f:Str→Bool):Bool:=match v with | .str i _=>f i | _=>false
noncomputable def bR (v:Value)(f:Addr→Bool):Bool:=match v with | .ref a=>f a | _=>false
noncomputable def XN (v:Value)(t:String):Bool:=match v with | .type s=>decide (s=t) | _=>false
noncomputable def iC (d:Data)(f:Array Value→Nat→Bool):Bool:=match d with | .seq vs n=>f vs n | _=>false
section
variable {v:Value}{M:Value→Prop}
@[elab_as_elim] theorem Ts (h:Xq v=true)(k:M .none):M v:=by cases v <;> first | exact no h | exact k
@[elab_as_elim] theorem UA {f}(h:XX v f=true)(k:∀b,f b=true→M (.bool b)):M v:=by cases v <;> first | exact no h | exact k _ h
@[elab_as_elim] theorem VW {f}(h:cI v f=true)(k:∀b t,f b=true→M (.int b t)):M v:=by cases v <;> first | exact no h | exact k _ _ h
@[elab_as_elim] theorem U0 {f}(h:VJ v f=true)(k:∀b t,f b=true→M (.str b t)):M v:=by cases v <;> first | exact no h | exact k _ _ h
@[elab_as_elim] theorem U2 {f}(h:bR v f=true)(k:∀a,f a=true→M (.ref a)):M v:=by cases v <;> first | exact no h | exact k _ h
@[elab_as_elim] theorem UC {t}(h:XN v t=true)(k:M (.type t)):M v:=by cases v <;> first | exact no h | exact of_decide_eq_true h▸k
end
noncomputable def aj (o:Obj)(f:Array Value→Bool):Bool:=XN o.cls "tuple"&&(o.dict.isNone&&(decide (o.slots=#[])&&iC o.data fun vs _=>f vs))
theorem WD {o:Obj}{f:Array Value→Bool}(h:aj o f=true):∃vs n,o=Bu vs n∧f vs=true:=by
 obtain⟨c,d,da,sl⟩:=o
 have e1:c=.type "tuple":=UC (M:=fun c=>c=.type "tuple") (AB h) rfl
 have e2:d=none:=Option.isNone_iff_eq_none.mp (AB (AA h))
 have e3:sl=#[]:=of_decide_eq_true (AB (AA (AA h)))
 have h:=AA (AA (AA h))
 subst e1 e2 e3
 cases da <;> first | exact no h | exact⟨_,_,rfl,h⟩
noncomputable def dD (f:V→Value→Bool):List V→List Value→Bool
 | [],vs=>l0 vs
 | x::l,vs=>lC vs fun v vs=>f x v&&dD f l vs
noncomputable def bT (K:Frag):Nat→V→Value→Bool
 | 0,_,_=>false
 | n+1,x,v=>match x with
  | .none=>Xq v
  | .bool a=>XX v fun b=>decide (b=a)
  | .int a=>cI v fun b=>decide (b=a)
  | .str a=>VJ v fun b=>decide (b=⟨a.toArray⟩)
  | .tup l=>bR v fun a=>Bf (K.lookup a) fun o=>aj o fun vs=>decide (l.length≤1000)&&dD (bT K n) l vs.toList
  | _=>false
theorem QD {T:Tab}{B:PM}{f:V→Value→Bool}(hf:∀x v,f x v=true→RV T B x v []):∀{l:List V} {vs:List Value},dD f l vs=true→RL T B l vs []
 | [],vs,h=>by refine BL h ?_;exact⟨⟩
 | x::l,vs,h=>by
  refine Be h fun v vs h=>?_
  exact Qe.mk v vs [] [] (hf _ _ (AB h)) (QD hf (AA h))
theorem M5 {T:Tab}{K:Frag}{B:PM}(ok:Bk K B):∀(n:Nat) (x:V) (v:Value),bT K n x v=true→RV T B x v []
 | 0,_,_,h=>no h
 | n+1,x,v,h=>by
  cases x with
  | none=>refine Ts h ?_;exact⟨⟩
  | bool a=>refine UA h fun b h=>?_;exact AN h ⟨⟩
  | int a=>refine VW h fun b t h=>?_;exact AN (M:=fun b=>gR a (.int b t) []) h ⟨_⟩
  | str a=>refine U0 h fun b t h=>?_;exact AN (M:=fun b=>fJ a (.str b t) []) h ⟨_⟩
  | tup l=>
   refine U2 h fun a h=>?_
   obtain⟨o,hk,h⟩:=A7 h
   obtain⟨vs,m,e,h⟩:=WD h
   subst e
   exact IsT.mk (DY rfl (of_decide_eq_true (AB h))) _ _ _ (ok _ _ hk) (QD (fun x v=>M5 ok n x v) (AA h))
  | _=>exact no h
theorem Bv {α:Type}{d:α}:∀{l:List α} {n:Nat},l.length≤n→BP l n d=d
 | [],_,_=>rfl
 | _::_,0,h=>by simp at h
 | _::l,n+1,h=>Bv (l:=l) (n:=n) (Nat.le_of_succ_le_succ h)
theorem Fi {α β:Type}{a:α}{b:β}:∀{l:List α} {m:List β} {n:Nat},l.length=m.length→n < m.length→(BP l n a,BP m n b)∈l.zip m
 | [],[],_,_,h=>by cases h
 | [],_::_,_,e,_=>by cases e
 | _::_,[],_,e,_=>by cases e
 | x::l,y::m,0,_,_=>.head _
 | x::l,y::m,n+1,e,h=>.tail _ (Fi (by simpa using e) (by simpa using h))
theorem Gx {α:Type}{x:α}:∀{l:List (Nat×α)} {n:Nat},Hg l n=some x→(n,x)∈l
 | [],_,h=>by cases h
 | (k,y)::l,n,h=>by
  have h:(if k==n then some y else Hg l n)=some x:=h
  by_cases e:(k==n)=true
  ·rw [if_pos e] at h;cases h;rw [beq_iff_eq.mp e];exact .head _
  ·rw [if_neg e] at h;exact .tail _ (Gx h)
theorem Df {n:Nat}{p:Nat→Bool}(h:(List.range n).all p=true){i:Nat}(hi:i < n):p i=true:=List.all_eq_true.mp h i (List.mem_range.mpr hi)
theorem S6 (P:Params):FT (KF P) mainGlobals=true:=by kernel_rfl
theorem Ya (P:Params):FT (KF P) builtinsNs=true:=by kernel_rfl
theorem Yk (P:Params):FT (KF P) cStatics=true:=by kernel_rfl
theorem ZP (P:Params):DR (KF P) cStatics "sys.recursionlimit"=none:=by kernel_rfl
noncomputable def mA (K:Frag)(x:Str):Bool:=DH (DR K mainGlobals x)&&Bf (bootBuiltins x) fun v=>DR K builtinsNs x==some v
theorem aH (P:Params):RM.all (mA (KF P))=true:=by kernel_rfl
theorem Xy (P:Params):((KF P).lookup sysModules).isSome=true:=by kernel_rfl
noncomputable def gQ (d:Data)(f:Array DictEntry→Bool):Bool:=match d with | .dict es _=>f es | _=>false
noncomputable def iE (K:Frag):Bool:=Bf (K.lookup sysModules) fun o=>gQ o.data fun es=>lC es.toList fun e _=>VJ e.key fun _=>true
theorem Vl (P:Params):iE (KF P)=true:=by kernel_rfl
noncomputable def bB (K:Frag)(q:String×V):Bool:=Bf (DR K mainGlobals (Str.ofString q.1)) fun u=>bT K 5 q.2 u
theorem VM (P:Params):(SV.zip Q7).all (bB (KF P))=true:=by kernel_rfl
theorem Ur:SV.length=Q7.length:=by decide +kernel
noncomputable def Xz {α:Type}(o:Option α)(p:α→Bool):Bool:=match o with | some x=>p x | none=>true
noncomputable def TW {α:Type}(o:Option α)(n:Bool)(p:α→Bool):Bool:=match o with | some x=>p x | none=>n
theorem Qx {α:Type}{o:Option α}{p:α→Bool}{x:α}(h:Xz o p=true)(e:o=some x):p x=true:=by subst e;exact h
theorem Vm {α:Type}{o:Option α}{n:Bool}{p:α→Bool}{x:α}(h:TW o n p=true)(e:o=some x):p x=true:=by subst e;exact h
theorem Vy {α:Type}{o:Option α}{n:Bool}{p:α→Bool}(h:TW o n p=true)(e:o=none):n=true:=by subst e;exact h
noncomputable def eW (K:Frag)(f:Nat):Bool:=Xz (TT.fg f) fun x=>(DR K mainGlobals x==some (.ref (TT.fa f)))&&keepIn K (.ref (TT.fa f))
theorem ZO (P:Params):(List.range 81).all (eW (KF P))=true:=by kernel_rfl
noncomputable def fv (K:Frag)(c:Nat):Bool:=Xz (TT.cg c) fun x=>decide (TT.ci c < TT.nf)&&((DR K mainGlobals x==some (.ref (TT.cls c)))&&(keepIn K (.ref (TT.cls c))&&(makesIn K (TT.cls c)&&((findIn K (.ref (TT.cls c)) "__init__"==some (some (.ref (TT.fa (TT.ci c)))))&&(typeIn K (.ref (TT.fa (TT.ci c)))==some (.type "function"))))))
theorem ZI (P:Params):(List.range 13).all (fv (KF P))=true:=by kernel_rfl
noncomputable def a4 (K:Frag)(c:Nat)(q:Nat×Nat):Bool:=decide (q.2 < TT.nf)&&((findIn K (.ref (TT.cls c)) "__getattribute__"==some (some (.builtin "object.__getattribute__")))&&((findIn K (.ref (TT.cls c)) "__getattr__"==some none) &&
 ((findIn K (.ref (TT.cls c)) (TT.mn q.1)==some (some (.ref (TT.fa q.2))))&&((typeIn K (.ref (TT.fa q.2))==some (.type "function"))&&keepIn K (.ref (TT.fa q.2))))))
theorem VH (P:Params):(List.range 13).all (fun c=>(BP Z1 c []).all (a4 (KF P) c))=true:=by kernel_rfl
noncomputable def bm (K:Frag)(c:Nat)(q:Nat×Option V):Bool:=decide (q.1 < 200)&&(plainGet K (TT.cls c) (TT.an q.1)&&(hasDictIn K (TT.cls c)&&(!copiedNames.contains (TT.an q.1)&&Bf (findIn K (.ref (TT.cls c)) (TT.an q.1)) fun w=>noGet K w&&TW q.2
 (decide (findIn K (.ref (TT.cls c)) "__setattr__"=some (some (.builtin "object.__setattr__")))&&(plainOver K (TT.cls c)&&decide (takerIn K (TT.cls c) (TT.an q.1)=some none)))
 fun y=>Bf w fun v=>handedIn v&&bT K 5 y v)))
theorem QX (P:Params):(List.range 13).all (fun c=>(BP bK c []).all (bm (KF P) c))=true:=by kernel_rfl
noncomputable def FY:List Str→Bool
 | []=>true
 | x::l=>l.all (fun y=>!(x==y))&&FY l
theorem SQ:FY (attrL.map Str.ofString)=true:=by kernel_rfl
theorem OA:(attrL.map Str.ofString).all (fun x=>x.cps.toList.all (fun c=>decide (c < 1114112)))=true:=by kernel_rfl
theorem JA:(attrL.map Str.ofString).length=60:=by decide +kernel
theorem cY:(List.range 17).all (fun m=>(List.range 60).all fun k=>!(TT.mx m k)||!(TT.an k==TT.mn m))=true:=by kernel_rfl
theorem US:(List.range 17).all (fun m=>(TT.mn m).cps.toList.all (fun c=>decide (c < 1114112)))=true:=by kernel_rfl
theorem LM:∀{l:List Str},FY l=true→∀{a b:Nat} {d e:Str},a < l.length→b < l.length→BP l a d=BP l b e→a=b
 | [],_,_,_,_,_,ha,_,_=>by cases ha
 | x::l,h,a,b,d,e,ha,hb,q=>by
  have h:(l.all (fun y=>!(x==y))&&FY l)=true:=h
  rw [Bool.and_eq_true] at h
  have mem:∀{n:Nat} {d:Str},n < l.length→BP l n d∈l:=fun {n d} hn=>by
   have:=Fi (l:=l) (m:=l) (a:=d) (b:=d) rfl hn
   exact (List.of_mem_zip this).1
  have hx:∀y∈l,x≠y:=fun y hy e=>by
   have:=List.all_eq_true.mp h.1 y hy
   rw [e] at this;simp at this
  cases a with
  | zero=>cases b with
   | zero=>rfl
   | succ b=>exact absurd q (hx _ (mem (by simpa using hb)))
  | succ a=>cases b with
   | zero=>exact absurd q.symm (hx _ (mem (by simpa using ha)))
   | succ b=>rw [LM h.2 (by simpa using ha) (by simpa using hb) q]
theorem NE {l:List Str}(h:l.all (fun x=>x.cps.toList.all (fun c=>decide (c < 1114112)))=true){a:Nat}{d:Str}(ha:a < l.length)(i:Nat):BP l a d≠⟨#[1114112+i]⟩:=fun e=>by
 have m:=(List.of_mem_zip (Fi (l:=l) (m:=l) (a:=d) (b:=d) rfl ha)).1
 have:=List.all_eq_true.mp h _ m
 rw [e] at this
 have this:(decide (1114112+i < 1114112)&&true)=true:=this
 exact absurd (of_decide_eq_true (AB this)) (Nat.not_lt.2 (Nat.le_add_right _ i))
theorem My {i:Nat}(h:60≤i):TT.an i=⟨#[1114112+i]⟩:=Bv (by rw [JA];exact h)
theorem SZ {c a:Nat}{r:Option V}(h:TT.cv c a=some r):c < 13∧(a,r)∈BP bK c []:=by
 have h:Hg (BP bK c []) a=some r:=h
 by_cases hc:c < 13
 ·exact⟨hc,Gx h⟩
 ·rw [Bv (Nat.le_of_not_lt hc)] at h;cases h
theorem Yo {c m f:Nat}(h:TT.cm c m=some f):c < 13∧(m,f)∈BP Z1 c []:=by
 have h:Hg (BP Z1 c []) m=some f:=h
 by_cases hc:c < 13
 ·exact⟨hc,Gx h⟩
 ·rw [Bv (Nat.le_of_not_lt hc)] at h;cases h
theorem S0:(List.range 13).all (fun c=>(BP Z1 c []).all fun q=>decide (q.1 < 17))=true:=by decide +kernel
theorem Z6 {m k:Nat}(hm:m < 17)(h:TT.mx m k=true):TT.an k≠TT.mn m:=by
 by_cases hk:k < 60
 ·have:=Df (Df cY hm) hk
  rw [Bool.or_eq_true] at this
  rcases this with q | q
  ·rw [h] at q;cases q
  ·intro e;rw [e] at q;simp at q
 ·rw [My (Nat.le_of_not_lt hk)]
  intro e
  have:=Df US hm
  rw [←e] at this
  have this:(decide (1114112+k < 1114112)&&true)=true:=this
  exact absurd (of_decide_eq_true (AB this)) (Nat.not_lt.2 (Nat.le_add_right _ k))
theorem bN {T:Tab}{B:PM}{l:List (Int×V)}{L:List DictEntry}(h:lC L (fun e _=>VJ e.key fun _=>true)=true)(rd:RD T B l L):False:=by
 cases l with
 | nil=>
  cases (show L=[] from rd)
  exact no h
 | cons x l=>
  cases rd
  exact no h
theorem cG (P:Params):Ac TT (KF P) where
 gns:=S6 P
 bns:=Ya P
 nolim:=fun h X=>⟨_,Oi X (Yk P),ZP P⟩
 bi:=fun x hx=>have t:=List.all_eq_true.mp (aH P) x hx;⟨BA (M:=fun o=>o=none) (AB t) rfl,(A7 (AA t)).imp fun v h=>⟨h.1,beq_iff_eq.mp h.2⟩⟩
 sysb:=Xy P
 sysm:=fun B ok l n es e rd=>(A7 (Vl P)).elim fun o h=>by
  have q:=h.2
  rw [←Option.some.inj (e.symm.trans (ok _ _ h.1))] at q
  exact bN q rd
 glob:=fun g hg=>by
  by_cases hl:g < Q7.length
  ·exact (A7 (List.all_eq_true.mp (VM P) _ (Fi (a := "") (b:=V.undef) Ur hl))).imp fun u h=>⟨h.1,fun B ok=>M5 ok 5 _ _ h.2⟩
  ·rw [show TT.gv g=.undef from Bv (Nat.le_of_not_lt hl)] at hg
   exact no hg
 fun_:=fun f x hx=>by
  by_cases hl:f < 81
  ·have t:=Qx (o:=TT.fg f) (Df (ZO P) hl) hx
   exact⟨hl,beq_iff_eq.mp (AB t),AA t⟩
  ·have hx:(BP fW f none).map Str.ofString=some x:=hx
   rw [show BP fW f none=none from Bv (Nat.le_of_not_lt hl)] at hx
   exact nn hx
 cls_:=fun c x hx=>by
  by_cases hl:c < 13
  ·have t:=Qx (o:=TT.cg c) (Df (ZI P) hl) hx
   exact⟨of_decide_eq_true (AB t),beq_iff_eq.mp (AB (AA t)),AB (AA (AA t)),AB (AA (AA (AA t))),beq_iff_eq.mp (AB (AA (AA (AA (AA t))))),beq_iff_eq.mp (AA (AA (AA (AA (AA t)))))⟩
  ·have hx:(BP (YO.map some) c none).map Str.ofString=some x:=hx
   rw [show BP (YO.map some) c none=none from Bv (Nat.le_of_not_lt hl)] at hx
   exact nn hx
 meth:=fun c m f hm=>by
  have mm:=Yo hm
  have t:=List.all_eq_true.mp (Df (VH P) mm.1) _ mm.2
  exact⟨of_decide_eq_true (AB t),beq_iff_eq.mp (AB (AA t)),beq_iff_eq.mp (AB (AA (AA t))),beq_iff_eq.mp (AB (AA (AA (AA t)))),beq_iff_eq.mp (AB (AA (AA (AA (AA t))))),AA (AA (AA (AA (AA t)))),
   fun k _ hk=>Z6 (of_decide_eq_true (List.all_eq_true.mp (Df S0 mm.1) _ mm.2)) hk⟩
 set_:=fun c a ha=>(A7 ha).elim fun r h=>by
  have mm:=SZ (c:=c) (a:=a) h.1
  have t:=List.all_eq_true.mp (Df (QX P) mm.1) _ mm.2
  refine (A7 (AA (AA (AA (AA t))))).elim fun w q=>?_
  have z:=Vy (o:=r) (AA q.2) (BA (M:=fun o=>o=none) h.2 rfl)
  exact⟨of_decide_eq_true (AB t),of_decide_eq_true (AB z),AB (AA z),of_decide_eq_true (AA (AA z)),AB (AA (AA t))⟩
 inj:=fun a b ha hb e=>by
  by_cases la:a < 60
  ·by_cases lb:b < 60
   ·exact LM SQ (by rw [JA];exact la) (by rw [JA];exact lb) e
   ·rw [My (Nat.le_of_not_lt lb)] at e
    exact absurd e (NE OA (by rw [JA];exact la) b)
  ·rw [My (Nat.le_of_not_lt la)] at e
   by_cases lb:b < 60
   ·exact absurd e.symm (NE OA (by rw [JA];exact lb) a)
   ·rw [My (Nat.le_of_not_lt lb)] at e
    simpa using e
 attr:=fun c a r h=>by
  have mm:=SZ h
  have t:=List.all_eq_true.mp (Df (QX P) mm.1) _ mm.2
  exact⟨of_decide_eq_true (AB t),(A7 (AA (AA (AA (AA t))))).imp fun w q=>⟨AB (AA t),AB (AA (AA t)),(Bool.not_eq_true' _).mp (AB (AA (AA (AA t)))),q.1,AB q.2,fun y hy=>(A7 (Vm (o:=r) (AA q.2) hy)).imp fun v z=>⟨z.1,AB z.2,fun B ok=>M5 ok 5 _ _ (AA z.2)⟩⟩⟩
noncomputable def kS:FuncData:={ name := "",qualname := "",params:=⟨[],[],none,[],[],none,[]⟩,body:=.stmts [],scope:=⟨.function,[],false,false,[]⟩,globals:=0,closure:=[],defaults:=.none,kwdefaults:=.none,doc:=.none,pyModule:=.none,annotations:=none,code:=.none,closureTuple:=.none,builtins:=0 }
noncomputable def fdOf (K:Frag)(a:Addr):FuncData:=match K.lookup a with
 | some ⟨_,_,.func fd,_⟩=>fd
 | _=>kS
noncomputable def A1 (K:Frag)(fd:FuncData):List Value:=match fd.defaults with
 | .ref a=>match K.lookup a with
  | some ⟨_,_,.seq vs _,_⟩=>vs.toList
  | _=>[]
 | _=>[]
noncomputable def SA (K:Frag)(a:Addr):Bool:=match K.lookup a with
 | some ⟨_,_,.func _,_⟩=>true
 | _=>false
noncomputable def Pj:List Nat→Bool
 | []=>true
 | x::l=>l.all (fun y=>!(x==y))&&Pj l
theorem LA:∀{l:List Nat},Pj l=true→l.Nodup
 | [],_=>List.nodup_nil
 | x::l,h=>by
  refine List.nodup_cons.mpr ⟨fun m=>?_,LA (AA h)⟩
  have:=List.all_eq_true.mp (AB h) x m
  simp at this
theorem HQ:∀{l:List Str},FY l=true→l.Nodup
 | [],_=>List.nodup_nil
 | x::l,h=>by
  refine List.nodup_cons.mpr ⟨fun m=>?_,HQ (AA h)⟩
  have:=List.all_eq_true.mp (AB h) x m
  simp at this
noncomputable def Ig:FuncData→List Stmt:=fun fd=>match fd.body with
 | .stmts b=>b
 | _=>[]
noncomputable def Ml (fd:FuncData):Bool:=match fd.body with
 | .stmts _=>true
 | _=>false
theorem ag {K:Frag}{a:Addr}(c:SA K a=true):∃ob,K.lookup a=some ob∧ob.data=.func (fdOf K a):=by
 unfold SA at c
 split at c
 ·rename_i hk
  refine⟨_,hk,?_⟩
  unfold fdOf
  rw [hk]
 ·cases c
theorem Z3 {fd:FuncData}(c:Ml fd=true):fd.body=.stmts (Ig fd):=by
 unfold Ml at c
 unfold Ig
 split at c
 ·rename_i e;rw [e]
 ·cases c
noncomputable def bP (K:Frag)(f:Nat)(fd:FuncData)(ns:List Str):Bool:=
 SA K (TT.fa f)&&(Ml fd&&(fd.closure.isEmpty&&(codeIn K fd.code fd.qualname&&(!fd.scope.isCoroutine&&(!fd.scope.isGenerator&&(decide (fd.scope.kind=.function)&&(decide (fd.globals=mainGlobals)&&(decide (fd.builtins=builtinsNs)&&(FY ns
  && (ns.all (fun n=>decide (fd.scope.names.lookup n=some .local)||decide (fd.scope.names.lookup n=some .cell))&&(FY ((cellsFrom 0 fd.scope.names []).map (·.1))&&(((cellsFrom 0 fd.scope.names []).map (·.1)).all (fun k=>!decide (fd.scope.names.lookup k=some .local))
  && (decide ((TT.fn f).np≤ns.length)&&(decide (ns.length≤(TT.fn f).ns)&&(Pj (TT.fn f).mut_&&((TT.fn f).mut_.all (fun i=>decide (i+(TT.fn f).dflt.length < (TT.fn f).np))
  && Sl TT fd.scope ns (TT.fn f).mut_ (TT.fn f).body (Ig fd)))))))))))))))))
noncomputable def iN (K:Frag)(f:Nat)(ns:List Str)(vals:List Value):Prop:=∃ds,(∀B,Bk K B→RL TT.toTab B ((TT.fn f).dflt.drop (vals.length+(TT.fn f).dflt.length - (TT.fn f).np)) ds [])∧
 ∀S,peek K S (bindArgs (fdOf K (TT.fa f)) ⟨vals,[]⟩)=some ((ns.take (TT.fn f).np).zip (vals++ds))
noncomputable def All:Nat→(List Value→Prop)→Prop
 | 0,F=>F []
 | n+1,F=>∀x,All n fun l=>F (x::l)
theorem XJ {F:List Value→Prop}:∀l:List Value,All l.length F→F l
 | [],h=>h
 | x::l,h=>XJ (F:=fun l=>F (x::l)) l (h x)
theorem Sm (n:Nat){F:List Value→Prop}(l:List Value)(e:l.length=n)(h:All n F):F l:=XJ l (e▸h)
noncomputable def Xt:Nat→Nat→(List Value→Prop)→Prop
 | n,0,F=>All n F
 | n,d+1,F=>All n F∧Xt (n - 1) d F
theorem Qs:∀(d n:Nat) {F:List Value→Prop} (l:List Value),l.length≤n→n≤l.length+d→Xt n d F→F l
 | 0,n,_,l,h1,h2,h=>Sm n l (Nat.le_antisymm h1 h2) h
 | d+1,n,_,l,h1,h2,h=>by
  by_cases e:l.length=n
  ·exact Sm n l e h.1
  ·exact Qs d (n - 1) l (Nat.le_sub_one_of_lt (Nat.lt_of_le_of_ne h1 e)) (Nat.sub_le_of_le_add h2) h.2
theorem bd {K:Frag}{f:Nat}{ns:List Str}{vals:List Value}(ds:List Value)(h:dD (bT K 5) ((TT.fn f).dflt.drop (vals.length+(TT.fn f).dflt.length - (TT.fn f).np)) ds=true:=by kernel_rfl)(h2:∀S,peek K S (bindArgs (fdOf K (TT.fa f)) ⟨vals,[]⟩)=some ((ns.take (TT.fn f).np).zip (vals++ds)):=by intro _;kernel_rfl):iN K f ns vals:=
 ⟨ds,fun B ok=>QD (fun x v=>M5 ok 5 x v) h,h2⟩
theorem AE {K:Frag}(f np nd:Nat)(ns:List String)(b:Xt np nd (iN K f (ns.map Str.ofString)))(chk:bP K f (fdOf K (TT.fa f)) (ns.map Str.ofString)=true:=by kernel_rfl)(e1:(TT.fn f).np=np:=by rfl)(e2:(TT.fn f).dflt.length=nd:=by rfl):AR TT K f:=by
 subst e1 e2
 have c2:=AA chk
 have c3:=AA c2
 have c4:=AA c3
 have c5:=AA c4
 have c6:=AA c5
 have c7:=AA c6
 have c8:=AA c7
 have c9:=AA c8
 have c10:=AA c9
 have c11:=AA c10
 have c12:=AA c11
 have c13:=AA c12
 have c14:=AA c13
 have c15:=AA c14
 have c16:=AA c15
 have c17:=AA c16
 refine⟨fdOf K (TT.fa f),ns.map Str.ofString,Ig (fdOf K (TT.fa f)),⟨ag (AB chk),Z3 (AB c2),List.isEmpty_iff.mp (AB c3),AB c4,(Bool.not_eq_true' _).mp (AB c5),(Bool.not_eq_true' _).mp (AB c6),of_decide_eq_true (AB c7),of_decide_eq_true (AB c8),of_decide_eq_true (AB c9),HQ (AB c10),fun n hn=>?_,HQ (AB c12),fun k hk=>?_,
  of_decide_eq_true (AB c14),of_decide_eq_true (AB c15),fun vals h1 h2=>Qs _ _ vals h1 h2 b,LA (AB c16),fun i hi=>of_decide_eq_true (List.all_eq_true.mp (AB c17) i hi)⟩,AA c17⟩
 ·exact ((Bool.or_eq_true _ _).mp (List.all_eq_true.mp (AB c11) n hn)).imp of_decide_eq_true of_decide_eq_true
 ·exact of_decide_eq_false ((Bool.not_eq_true' _).mp (List.all_eq_true.mp (AB c13) k hk))
theorem j6 (P:Params):AR TT (KF P) 0:=AE 0 3 0 ON (fun _ _ _=>bd [])
theorem ok1 (P:Params):AR TT (KF P) 1:=AE 1 1 0 Je (fun _=>bd [])
theorem ok2 (P:Params):AR TT (KF P) 2:=AE 2 1 0 IP (fun _=>bd [])
theorem Zq (P:Params):AR TT (KF P) 3:=AE 3 1 0 Jd (fun _=>bd [])
theorem my (P:Params):AR TT (KF P) 4:=AE 4 2 0 PV (fun _ _=>bd [])
theorem mr (P:Params):AR TT (KF P) 5:=AE 5 1 0 Kc (fun _=>bd [])
theorem kr (P:Params):AR TT (KF P) 6:=AE 6 1 0 JS (fun _=>bd [])
theorem kc (P:Params):AR TT (KF P) 7:=AE 7 1 0 EW (fun _=>bd [])
theorem nH (P:Params):AR TT (KF P) 8:=AE 8 2 0 GO (fun _ _=>bd [])
theorem nD (P:Params):AR TT (KF P) 9:=AE 9 2 1 Mp ⟨fun _ _=>bd [],fun _=>bd ((A1 (KF P) (fdOf (KF P) (TT.fa 9))).drop 0)⟩
theorem eO (P:Params):AR TT (KF P) 10:=AE 10 2 1 F2 ⟨fun _ _=>bd [],fun _=>bd ((A1 (KF P) (fdOf (KF P) (TT.fa 10))).drop 0)⟩
theorem eP (P:Params):AR TT (KF P) 11:=AE 11 1 0 O4 (fun _=>bd [])
theorem iI (P:Params):AR TT (KF P) 12:=AE 12 1 0 NA (fun _=>bd [])
theorem fP (P:Params):AR TT (KF P) 13:=AE 13 1 0 Oq (fun _=>bd [])
theorem e7 (P:Params):AR TT (KF P) 14:=AE 14 5 0 HX (fun _ _ _ _ _=>bd [])
theorem db (P:Params):AR TT (KF P) 15:=AE 15 1 0 IV (fun _=>bd [])
theorem gy (P:Params):AR TT (KF P) 16:=AE 16 2 0 VD (fun _ _=>bd [])
theorem eH (P:Params):AR TT (KF P) 17:=AE 17 2 0 Ot (fun _ _=>bd [])
theorem eg (P:Params):AR TT (KF P) 18:=AE 18 2 0 Mh (fun _ _=>bd [])
theorem dh (P:Params):AR TT (KF P) 19:=AE 19 1 0 R5 (fun _=>bd [])
theorem gH (P:Params):AR TT (KF P) 20:=AE 20 3 0 Kl (fun _ _ _=>bd [])
theorem hZ (P:Params):AR TT (KF P) 21:=AE 21 3 0 Ke (fun _ _ _=>bd [])
theorem gm (P:Params):AR TT (KF P) 22:=AE 22 3 0 KT (fun _ _ _=>bd [])
theorem gb (P:Params):AR TT (KF P) 23:=AE 23 1 0 MN (fun _=>bd [])
theorem eR (P:Params):AR TT (KF P) 24:=AE 24 2 0 Jm (fun _ _=>bd [])
theorem f5 (P:Params):AR TT (KF P) 25:=AE 25 1 0 JM (fun _=>bd [])
theorem hU (P:Params):AR TT (KF P) 26:=AE 26 2 0 Q9 (fun _ _=>bd [])
theorem dW (P:Params):AR TT (KF P) 27:=AE 27 1 0 NH (fun _=>bd [])
theorem eZ (P:Params):AR TT (KF P) 28:=AE 28 5 0 KW (fun _ _ _ _ _=>bd [])
theorem fX (P:Params):AR TT (KF P) 29:=AE 29 5 0 MR (fun _ _ _ _ _=>bd [])
theorem dY (P:Params):AR TT (KF P) 30:=AE 30 5 0 PL (fun _ _ _ _ _=>bd [])
theorem de (P:Params):AR TT (KF P) 31:=AE 31 2 1 QB ⟨fun _ _=>bd [],fun _=>bd ((A1 (KF P) (fdOf (KF P) (TT.fa 31))).drop 0)⟩
theorem gT (P:Params):AR TT (KF P) 32:=AE 32 3 0 Kr (fun _ _ _=>bd [])
theorem d0 (P:Params):AR TT (KF P) 33:=AE 33 1 0 PK (fun _=>bd [])
theorem iH (P:Params):AR TT (KF P) 34:=AE 34 1 0 JR (fun _=>bd [])
theorem hO (P:Params):AR TT (KF P) 35:=AE 35 2 0 J2 (fun _ _=>bd [])
theorem hJ (P:Params):AR TT (KF P) 36:=AE 36 1 0 IE (fun _=>bd [])
theorem gP (P:Params):AR TT (KF P) 37:=AE 37 4 0 HM (fun _ _ _ _=>bd [])
theorem iF (P:Params):AR TT (KF P) 38:=AE 38 1 0 Kq (fun _=>bd [])
theorem fs (P:Params):AR TT (KF P) 39:=AE 39 1 0 Mi (fun _=>bd [])
theorem f3 (P:Params):AR TT (KF P) 40:=AE 40 6 4 IR ⟨fun _ _ _ _ _ _=>bd [],fun _ _ _ _ _=>bd ((A1 (KF P) (fdOf (KF P) (TT.fa 40))).drop 3),fun _ _ _ _=>bd ((A1 (KF P) (fdOf (KF P) (TT.fa 40))).drop 2),fun _ _ _=>bd ((A1 (KF P) (fdOf (KF P) (TT.fa 40))).drop 1),fun _ _=>bd ((A1 (KF P) (fdOf (KF P) (TT.fa 40))).drop 0)⟩
theorem eY (P:Params):AR TT (KF P) 41:=AE 41 2 0 PI (fun _ _=>bd [])
theorem eC (P:Params):AR TT (KF P) 42:=AE 42 2 0 Nj (fun _ _=>bd [])
theorem gJ (P:Params):AR TT (KF P) 43:=AE 43 4 0 Ge (fun _ _ _ _=>bd [])
theorem gB (P:Params):AR TT (KF P) 44:=AE 44 3 0 Gu (fun _ _ _=>bd [])
theorem gh (P:Params):AR TT (KF P) 45:=AE 45 3 0 GV (fun _ _ _=>bd [])
theorem iA (P:Params):AR TT (KF P) 46:=AE 46 1 0 Kd (fun _=>bd [])
theorem gX (P:Params):AR TT (KF P) 47:=AE 47 3 0 Nk (fun _ _ _=>bd [])
theorem dR (P:Params):AR TT (KF P) 48:=AE 48 3 0 N3 (fun _ _ _=>bd [])
theorem ew (P:Params):AR TT (KF P) 49:=AE 49 1 0 N0 (fun _=>bd [])
theorem eX (P:Params):AR TT (KF P) 50:=AE 50 1 0 YE (fun _=>bd [])
theorem dk (P:Params):AR TT (KF P) 51:=AE 51 6 5 Mc ⟨fun _ _ _ _ _ _=>bd [],fun _ _ _ _ _=>bd ((A1 (KF P) (fdOf (KF P) (TT.fa 51))).drop 4),fun _ _ _ _=>bd ((A1 (KF P) (fdOf (KF P) (TT.fa 51))).drop 3),fun _ _ _=>bd ((A1 (KF P) (fdOf (KF P) (TT.fa 51))).drop 2),fun _ _=>bd ((A1 (KF P) (fdOf (KF P) (TT.fa 51))).drop 1),fun _=>bd ((A1 (KF P) (fdOf (KF P) (TT.fa 51))).drop 0)⟩
theorem fC (P:Params):AR TT (KF P) 52:=AE 52 3 0 L4 (fun _ _ _=>bd [])
theorem ej (P:Params):AR TT (KF P) 53:=AE 53 6 0 O6 (fun _ _ _ _ _ _=>bd [])
theorem iK (P:Params):AR TT (KF P) 54:=AE 54 3 0 MT (fun _ _ _=>bd [])
theorem hX (P:Params):AR TT (KF P) 55:=AE 55 4 1 MG ⟨fun _ _ _ _=>bd [],fun _ _ _=>bd ((A1 (KF P) (fdOf (KF P) (TT.fa 55))).drop 0)⟩
theorem ee (P:Params):AR TT (KF P) 56:=AE 56 2 0 IQ (fun _ _=>bd [])
theorem h8 (P:Params):AR TT (KF P) 57:=AE 57 3 0 K2 (fun _ _ _=>bd [])
theorem eE (P:Params):AR TT (KF P) 58:=AE 58 3 0 IT (fun _ _ _=>bd [])
theorem dz (P:Params):AR TT (KF P) 59:=AE 59 2 0 G7 (fun _ _=>bd [])
theorem fj (P:Params):AR TT (KF P) 60:=AE 60 2 0 K5 (fun _ _=>bd [])
theorem fM (P:Params):AR TT (KF P) 61:=AE 61 3 0 Fb (fun _ _ _=>bd [])
theorem e6 (P:Params):AR TT (KF P) 62:=AE 62 2 1 F3 ⟨fun _ _=>bd [],fun _=>bd ((A1 (KF P) (fdOf (KF P) (TT.fa 62))).drop 0)⟩
theorem gO (P:Params):AR TT (KF P) 63:=AE 63 9 3 ML ⟨fun _ _ _ _ _ _ _ _ _=>bd [],fun _ _ _ _ _ _ _ _=>bd ((A1 (KF P) (fdOf (KF P) (TT.fa 63))).drop 2),fun _ _ _ _ _ _ _=>bd ((A1 (KF P) (fdOf (KF P) (TT.fa 63))).drop 1),fun _ _ _ _ _ _=>bd ((A1 (KF P) (fdOf (KF P) (TT.fa 63))).drop 0)⟩
theorem hC (P:Params):AR TT (KF P) 64:=AE 64 1 0 Kp (fun _=>bd [])
theorem fH (P:Params):AR TT (KF P) 65:=AE 65 2 0 Ip (fun _ _=>bd [])
theorem iB (P:Params):AR TT (KF P) 66:=AE 66 3 0 Ko (fun _ _ _=>bd [])
theorem eT (P:Params):AR TT (KF P) 67:=AE 67 3 0 MD (fun _ _ _=>bd [])
theorem ff (P:Params):AR TT (KF P) 68:=AE 68 2 0 FW (fun _ _=>bd [])
theorem gz (P:Params):AR TT (KF P) 69:=AE 69 3 0 Ep (fun _ _ _=>bd [])
theorem fQ (P:Params):AR TT (KF P) 70:=AE 70 2 0 C0 (fun _ _=>bd [])
theorem fU (P:Params):AR TT (KF P) 71:=AE 71 2 0 Dx (fun _ _=>bd [])
theorem fV (P:Params):AR TT (KF P) 72:=AE 72 2 0 ET (fun _ _=>bd [])
theorem eK (P:Params):AR TT (KF P) 73:=AE 73 5 0 Ee (fun _ _ _ _ _=>bd [])
theorem dy (P:Params):AR TT (KF P) 74:=AE 74 4 0 Dz (fun _ _ _ _=>bd [])
theorem gc (P:Params):AR TT (KF P) 75:=AE 75 5 3 GB ⟨fun _ _ _ _ _=>bd [],fun _ _ _ _=>bd ((A1 (KF P) (fdOf (KF P) (TT.fa 75))).drop 2),fun _ _ _=>bd ((A1 (KF P) (fdOf (KF P) (TT.fa 75))).drop 1),fun _ _=>bd ((A1 (KF P) (fdOf (KF P) (TT.fa 75))).drop 0)⟩
theorem fm (P:Params):AR TT (KF P) 76:=AE 76 1 0 Fv (fun _=>bd [])
theorem er (P:Params):AR TT (KF P) 77:=AE 77 2 0 O9 (fun _ _=>bd [])
theorem f9 (P:Params):AR TT (KF P) 78:=AE 78 2 0 Ku (fun _ _=>bd [])
theorem gG (P:Params):AR TT (KF P) 79:=AE 79 2 0 Jh (fun _ _=>bd [])
theorem f7 (P:Params):AR TT (KF P) 80:=AE 80 2 0 Kj (fun _ _=>bd [])
theorem A2 {Q:Nat→Prop}{n:Nat}(q:Q n)(h:∀f,f < n→Q f)(f:Nat)(hf:f < n+1):Q f:=(Nat.lt_succ_iff_lt_or_eq.mp hf).elim (h f) fun e=>e▸q
theorem bn (P:Params):∀f,f < TT.nf→AR TT (KF P) f:=A2 (f7 P) <| A2 (gG P) <| A2 (f9 P) <| A2 (er P) <| A2 (fm P) <| A2 (gc P) <| A2 (dy P) <| A2 (eK P) <| A2 (fV P) <| A2 (fU P) <| A2 (fQ P) <| A2 (gz P) <| A2 (ff P) <| A2 (eT P) <| A2 (iB P) <| A2 (fH P) <| A2 (hC P) <| A2 (gO P) <| A2 (e6 P) <| A2 (fM P) <| A2 (fj P) <| A2 (dz P) <| A2 (eE P) <| A2 (h8 P) <| A2 (ee P) <| A2 (hX P) <| A2 (iK P) <| A2 (ej P) <| A2 (fC P) <| A2 (dk P) <| A2 (eX P) <| A2 (ew P) <| A2 (dR P) <| A2 (gX P) <| A2 (iA P) <| A2 (gh P) <| A2 (gB P) <| A2 (gJ P) <| A2 (eC P) <| A2 (eY P) <| A2 (f3 P) <| A2 (fs P) <| A2 (iF P) <| A2 (gP P) <| A2 (hJ P) <| A2 (hO P) <| A2 (iH P) <| A2 (d0 P) <| A2 (gT P) <| A2 (de P) <| A2 (dY P) <| A2 (fX P) <| A2 (eZ P) <| A2 (dW P) <| A2 (hU P) <| A2 (f5 P) <| A2 (eR P) <| A2 (gb P) <| A2 (gm P) <| A2 (hZ P) <| A2 (gH P) <| A2 (dh P) <| A2 (eg P) <| A2 (eH P) <| A2 (gy P) <| A2 (db P) <| A2 (e7 P) <| A2 (fP P) <| A2 (iI P) <| A2 (eP P) <| A2 (eO P) <| A2 (nD P) <| A2 (nH P) <| A2 (kc P) <| A2 (kr P) <| A2 (mr P) <| A2 (my P) <| A2 (Zq P) <| A2 (ok2 P) <| A2 (ok1 P) <| A2 (j6 P) <| fun _ h=>nomatch h
end
section
open PySem PySem.W PyProof.Rows PySem.Calls
noncomputable def Bp (m:List Nat)(K:V→List V→Prop)(fl:Fl)(σ:List V):Prop:=Bl σ m fun os=>match fl with
 | .next=>K .none os
 | .ret x=>K x os
theorem enter {m k f:Nat}{args:List V}{K:V→List V→Prop}(fn:Fn)(e:TT.fn f=fn)(σ:List V)(es:start fn args=some σ)(hn:k+1≤m)(h:∀n,k≤n→Aj TT (AG TT n) fn.body σ (Bp fn.mut_ K)):AG TT m f args K:=by
 subst e
 cases m with
 | zero=>exact nomatch hn
 | succ n=>exact⟨σ,es,h n (Nat.le_of_succ_le_succ hn)⟩
theorem fe {a b n:Nat}(h:b≤n)(d:Nat.ble a b=true):a≤n:=Nat.le_trans (Nat.le_of_ble_eq_true d) h
theorem BE {b:Bool}{A C:Prop}(e:b=true)(h:A):Tz b A C:=by subst e;exact h
theorem Aq {b:Bool}{A C:Prop}(e:b=false)(h:C):Tz b A C:=by subst e;exact h
theorem Xm {b:Bool}{A C:Prop}(h:b=true→A)(h':b=false→C):Tz b A C:=match b,h,h' with
 | true,h,_=>h rfl
 | false,_,h=>h rfl
noncomputable abbrev Go (k:Nat)(b:Ss)(σ:List V)(o:List Nat)(K:V→List V→Prop):Prop:=∀n,k≤n→Aj TT (AG TT n) b σ (Bp o K)
section
variable {m k:Nat}{x0 x1 x2 x3 x4 x5 x6 x7 x8:V}{K:V→List V→Prop}
theorem Nq (hn:k+1≤m)(h:Go k JC [x0,x1,x2] [] K):AG TT m 0 [x0,x1,x2] K:=enter J9 rfl _ rfl hn h
theorem Jg (hn:k+1≤m)(h:Go k E5 [x0] [] K):AG TT m 1 [x0] K:=enter Ey rfl _ rfl hn h
theorem IJ (hn:k+1≤m)(h:Go k Eb [x0] [] K):AG TT m 2 [x0] K:=enter EQ rfl _ rfl hn h
theorem JB (hn:k+1≤m)(h:Go k FL [x0] [] K):AG TT m 3 [x0] K:=enter FR rfl _ rfl hn h
theorem QE (hn:k+1≤m)(h:Go k LK [x0,x1] [] K):AG TT m 4 [x0,x1] K:=enter LY rfl _ rfl hn h
theorem Ks (hn:k+1≤m)(h:Go k GP [x0] [] K):AG TT m 5 [x0] K:=enter Fz rfl _ rfl hn h
theorem Jw (hn:k+1≤m)(h:Go k FO [x0] [] K):AG TT m 6 [x0] K:=enter E7 rfl _ rfl hn h
theorem Ar (hn:k+1≤m)(h:Go k CK [x0,.undef] [] K):AG TT m 7 [x0] K:=enter CM rfl _ rfl hn h
theorem BD (hn:k+1≤m)(h:Go k DP [x0,x1,.undef,.undef,.undef] [] K):AG TT m 8 [x0,x1] K:=enter DC rfl _ rfl hn h
theorem Au (hn:k+1≤m)(h:Go k Hh [x0,x1,.undef,.undef,.undef] [] K):AG TT m 9 [x0,x1] K:=enter IB rfl _ rfl hn h
theorem GD (hn:k+1≤m)(h:Go k C1 [x0,x1,.undef] [] K):AG TT m 10 [x0,x1] K:=enter DI rfl _ rfl hn h
theorem CB (hn:k+1≤m)(h:Go k JP [x0,.undef,.undef] [] K):AG TT m 11 [x0] K:=enter Jn rfl _ rfl hn h
theorem Db (hn:k+1≤m)(h:Go k Hb [x0,.undef,.undef] [] K):AG TT m 12 [x0] K:=enter Hy rfl _ rfl hn h
theorem EK (hn:k+1≤m)(h:Go k Jj [x0,.undef,.undef] [] K):AG TT m 13 [x0] K:=enter Ir rfl _ rfl hn h
theorem By (hn:k+1≤m)(h:Go k Dn [x0,x1,x2,x3,x4,.undef,.undef,.undef,.undef,.undef,.undef,.undef] [] K):AG TT m 14 [x0,x1,x2,x3,x4] K:=enter Dq rfl _ rfl hn h
theorem IX (hn:k+1≤m)(h:Go k D6 [x0,.undef] [] K):AG TT m 15 [x0] K:=enter EZ rfl _ rfl hn h
theorem WY (hn:k+1≤m)(h:Go k Uk [x0,x1] [] K):AG TT m 16 [x0,x1] K:=enter TL rfl _ rfl hn h
theorem NX (hn:k+1≤m)(h:Go k Jr [x0,x1] [] K):AG TT m 17 [x0,x1] K:=enter KO rfl _ rfl hn h
theorem Ly (hn:k+1≤m)(h:Go k Hx [x0,x1] [] K):AG TT m 18 [x0,x1] K:=enter Ht rfl _ rfl hn h
theorem Rx (hn:k+1≤m)(h:Go k OT [x0,.undef,.undef,.undef,.undef] [] K):AG TT m 19 [x0] K:=enter Ny rfl _ rfl hn h
theorem Ki (hn:k+1≤m)(h:Go k GE [x0,x1,x2,.undef] [0] K):AG TT m 20 [x0,x1,x2] K:=enter Fs rfl _ rfl hn h
theorem B7 (hn:k+1≤m)(h:Go k Fe [x0,x1,x2,.undef] [0] K):AG TT m 21 [x0,x1,x2] K:=enter F6 rfl _ rfl hn h
theorem JW (hn:k+1≤m)(h:Go k FQ [x0,x1,x2,.undef] [0] K):AG TT m 22 [x0,x1,x2] K:=enter FM rfl _ rfl hn h
theorem MH (hn:k+1≤m)(h:Go k H6 [x0] [0] K):AG TT m 23 [x0] K:=enter H4 rfl _ rfl hn h
theorem Jl (hn:k+1≤m)(h:Go k E9 [x0,x1,.undef,.undef] [0] K):AG TT m 24 [x0,x1] K:=enter FE rfl _ rfl hn h
theorem Jc (hn:k+1≤m)(h:Go k Ez [x0] [] K):AG TT m 25 [x0] K:=enter E8 rfl _ rfl hn h
theorem An (hn:k+1≤m)(h:Go k NW [x0,x1] [] K):AG TT m 26 [x0,x1] K:=enter Oh rfl _ rfl hn h
theorem NM (hn:k+1≤m)(h:Go k KQ [x0,.undef,.undef,.undef,.undef,.undef,.undef,.undef] [] K):AG TT m 27 [x0] K:=enter KL rfl _ rfl hn h
theorem Ap (hn:k+1≤m)(h:Go k Cw [x0,x1,x2,x3,x4,.undef,.undef,.undef,.undef,.undef,.undef,.undef,.undef,.undef] [0] K):AG TT m 28 [x0,x1,x2,x3,x4] K:=enter E6 rfl _ rfl hn h
theorem BJ (hn:k+1≤m)(h:Go k EV [x0,x1,x2,x3,x4,.undef,.undef,.undef,.undef,.undef,.undef,.undef,.undef,.undef] [0] K):AG TT m 29 [x0,x1,x2,x3,x4] K:=enter Hq rfl _ rfl hn h
theorem PY (hn:k+1≤m)(h:Go k K6 [x0,x1,x2,x3,x4,.undef,.undef,.undef,.undef,.undef,.undef,.undef,.undef,.undef,.undef] [0] K):AG TT m 30 [x0,x1,x2,x3,x4] K:=enter Lo rfl _ rfl hn h
theorem PC (hn:k+1≤m)(h:Go k Lu [x0,x1,.undef,.undef] [] K):AG TT m 31 [x0,x1] K:=enter LX rfl _ rfl hn h
theorem K4 (hn:k+1≤m)(h:Go k GN [x0,x1,x2] [] K):AG TT m 32 [x0,x1,x2] K:=enter Gh rfl _ rfl hn h
theorem PR (hn:k+1≤m)(h:Go k LF [x0] [] K):AG TT m 33 [x0] K:=enter K9 rfl _ rfl hn h
theorem J3 (hn:k+1≤m)(h:Go k FI [x0,.undef] [] K):AG TT m 34 [x0] K:=enter E0 rfl _ rfl hn h
theorem KC (hn:k+1≤m)(h:Go k FB [x0,x1,.undef,.undef,.undef,.undef] [] K):AG TT m 35 [x0,x1] K:=enter FH rfl _ rfl hn h
theorem IF (hn:k+1≤m)(h:Go k D8 [x0,.undef,.undef,.undef] [] K):AG TT m 36 [x0] K:=enter Ec rfl _ rfl hn h
theorem HW (hn:k+1≤m)(h:Go k Ds [x0,x1,x2,x3,.undef,.undef,.undef,.undef,.undef,.undef,.undef,.undef] [] K):AG TT m 37 [x0,x1,x2,x3] K:=enter Dm rfl _ rfl hn h
theorem Kz (hn:k+1≤m)(h:Go k F5 [x0,.undef,.undef,.undef,.undef] [] K):AG TT m 38 [x0] K:=enter GT rfl _ rfl hn h
theorem MX (hn:k+1≤m)(h:Go k Hs [x0,.undef,.undef] [] K):AG TT m 39 [x0] K:=enter Hj rfl _ rfl hn h
theorem Gg {m k:Nat}{x0 x1:V}{K:V→List V→Prop}(hn:k+1≤m)(h:∀n,k≤n→Aj TT (AG TT n) EE [x0,x1,.tup [.int 0,.int 196608,.int 98304,.int 65536,.int 262144,.int 655360,.int 65536],.tup [],.tup [],.int 256,.undef,.undef] (Bp [] K)):AG TT m 40 [x0,x1] K:=enter EO rfl _ rfl hn h
theorem Pp (hn:k+1≤m)(h:Go k LJ [x0,x1,.undef,.undef] [] K):AG TT m 41 [x0,x1] K:=enter Lh rfl _ rfl hn h
theorem NK (hn:k+1≤m)(h:Go k JN [x0,x1,.undef,.undef] [0] K):AG TT m 42 [x0,x1] K:=enter KG rfl _ rfl hn h
theorem Fg (hn:k+1≤m)(h:Go k DN [x0,x1,x2,x3,.undef,.undef] [0,3] K):AG TT m 43 [x0,x1,x2,x3] K:=enter DB rfl _ rfl hn h
theorem HS (hn:k+1≤m)(h:Go k A5 [x0,x1,x2,.undef,.undef,.undef,.undef] [0,2] K):AG TT m 44 [x0,x1,x2] K:=enter Dw rfl _ rfl hn h
theorem Fw (hn:k+1≤m)(h:Go k A5 [x0,x1,x2,.undef,.undef,.undef,.undef] [0] K):AG TT m 45 [x0,x1,x2] K:=enter DO rfl _ rfl hn h
theorem KX (hn:k+1≤m)(h:Go k Ff [x0,.undef,.undef] [] K):AG TT m 46 [x0] K:=enter Fp rfl _ rfl hn h
theorem NG (hn:k+1≤m)(h:Go k Jt [x0,x1,x2,.undef,.undef] [] K):AG TT m 47 [x0,x1,x2] K:=enter Ju rfl _ rfl hn h
theorem A3 (hn:k+1≤m)(h:Go k KV [x0,x1,x2,.undef] [] K):AG TT m 48 [x0,x1,x2] K:=enter JF rfl _ rfl hn h
theorem OV (hn:k+1≤m)(h:Go k KN [x0,.undef] [] K):AG TT m 49 [x0] K:=enter Jp rfl _ rfl hn h
theorem Yr (hn:k+1≤m)(h:Go k Xp [x0,.undef,.undef,.undef,.undef,.undef,.undef,.undef,.undef] [] K):AG TT m 50 [x0] K:=enter Xl rfl _ rfl hn h
theorem KM (hn:k+1≤m)(h:Go k H7 [x0,x1,.int 0,.int 0,.int 0,.int 0] [0] K):AG TT m 51 [x0,x1] K:=enter H8 rfl _ rfl hn h
theorem Mo (hn:k+1≤m)(h:Go k HZ [x0,x1,x2] [0] K):AG TT m 52 [x0,x1,x2] K:=enter Hn rfl _ rfl hn h
theorem Oc (hn:k+1≤m)(h:Go k Iq [x0,x1,x2,x3,x4,x5] [0] K):AG TT m 53 [x0,x1,x2,x3,x4,x5] K:=enter JD rfl _ rfl hn h
theorem Ma (hn:k+1≤m)(h:Go k ID [x0,x1,x2] [0] K):AG TT m 54 [x0,x1,x2] K:=enter Hm rfl _ rfl hn h
theorem Mk (hn:k+1≤m)(h:Go k Hv [x0,x1,x2,x3] [0] K):AG TT m 55 [x0,x1,x2,x3] K:=enter Hl rfl _ rfl hn h
theorem IN (hn:k+1≤m)(h:Go k EH [x0,x1,.undef] [0] K):AG TT m 56 [x0,x1] K:=enter ER rfl _ rfl hn h
theorem Kb (hn:k+1≤m)(h:Go k GR [x0,x1,x2] [0] K):AG TT m 57 [x0,x1,x2] K:=enter Gi rfl _ rfl hn h
theorem IU (hn:k+1≤m)(h:Go k EJ [x0,x1,x2] [0] K):AG TT m 58 [x0,x1,x2] K:=enter EF rfl _ rfl hn h
theorem Gm (hn:k+1≤m)(h:Go k Dv [x0,x1] [0] K):AG TT m 59 [x0,x1] K:=enter Dr rfl _ rfl hn h
theorem Kg (hn:k+1≤m)(h:Go k Fq [x0,x1] [0] K):AG TT m 60 [x0,x1] K:=enter Fo rfl _ rfl hn h
theorem Fc (hn:k+1≤m)(h:Go k Co [x0,x1,x2] [0] K):AG TT m 61 [x0,x1,x2] K:=enter Cl rfl _ rfl hn h
theorem F0 (hn:k+1≤m)(h:Go k C9 [x0,x1,.undef] [0] K):AG TT m 62 [x0,x1] K:=enter DL rfl _ rfl hn h
theorem MO (hn:k+1≤m)(h:Go k H5 [x0,x1,x2,x3,x4,x5,x6,x7,x8] [0] K):AG TT m 63 [x0,x1,x2,x3,x4,x5,x6,x7,x8] K:=enter Hw rfl _ rfl hn h
theorem Ka (hn:k+1≤m)(h:Go k GJ [x0] [] K):AG TT m 64 [x0] K:=enter GL rfl _ rfl hn h
theorem Jk (hn:k+1≤m)(h:Go k E4 [x0,x1] [0] K):AG TT m 65 [x0,x1] K:=enter FD rfl _ rfl hn h
theorem FC (hn:k+1≤m)(h:Go k Ft [x0,x1,x2,.undef,.undef,.undef] [0,1] K):AG TT m 66 [x0,x1,x2] K:=enter GH rfl _ rfl hn h
theorem Lz (hn:k+1≤m)(h:Go k Hu [x0,x1,x2,.undef,.undef,.undef,.undef,.undef] [0,1] K):AG TT m 67 [x0,x1,x2] K:=enter HY rfl _ rfl hn h
theorem FS (hn:k+1≤m)(h:Go k Ch [x0,x1] [0] K):AG TT m 68 [x0,x1] K:=enter Cr rfl _ rfl hn h
theorem Et (hn:k+1≤m)(h:Go k Ca [x0,x1,x2] [0] K):AG TT m 69 [x0,x1,x2] K:=enter CY rfl _ rfl hn h
theorem Bc (hn:k+1≤m)(h:Go k Bg [x0,x1] [0] K):AG TT m 70 [x0,x1] K:=enter Bh rfl _ rfl hn h
theorem Br (hn:k+1≤m)(h:Go k CD [x0,x1] [0] K):AG TT m 71 [x0,x1] K:=enter CF rfl _ rfl hn h
theorem B8 (hn:k+1≤m)(h:Go k BN [x0,x1,.undef] [0] K):AG TT m 72 [x0,x1] K:=enter CJ rfl _ rfl hn h
theorem EI (hn:k+1≤m)(h:Go k CP [x0,x1,x2,x3,x4] [0] K):AG TT m 73 [x0,x1,x2,x3,x4] K:=enter CN rfl _ rfl hn h
theorem Dy (hn:k+1≤m)(h:Go k CE [x0,x1,x2,x3] [0] K):AG TT m 74 [x0,x1,x2,x3] K:=enter CA rfl _ rfl hn h
theorem GF (hn:k+1≤m)(h:Go k DF [x0,x1,x2,x3,x4,.undef,.undef] [0] K):AG TT m 75 [x0,x1,x2,x3,x4] K:=enter C5 rfl _ rfl hn h
theorem Gc (hn:k+1≤m)(h:Go k C2 [x0,.undef,.undef,.undef] [] K):AG TT m 76 [x0] K:=enter C4 rfl _ rfl hn h
theorem OM (hn:k+1≤m)(h:Go k JV [x0,x1] [] K):AG TT m 77 [x0,x1] K:=enter Jo rfl _ rfl hn h
theorem K3 (hn:k+1≤m)(h:Go k Gj [x0,x1] [] K):AG TT m 78 [x0,x1] K:=enter Fr rfl _ rfl hn h
end
theorem Ab {a:Int}(h:decide (a.natAbs < 2 ^ 64)=true):small a:=(of_decide_eq_true h:a.natAbs < 2 ^ 64)
theorem Pn {n:Nat}{v lo hi:Int}{K:V→List V→Prop}(hn:1≤n)(h:K (.bool (decide (lo≤v)&&decide (v≤hi))) []):AG TT n 0 [.int v,.int lo,.int hi] K:=by
 refine Nq hn fun n hn=>?_
 by_cases e:lo≤v
 ·rw [decide_eq_true e] at h;exact BE (decide_eq_true e) h
 ·rw [decide_eq_false e] at h;exact Aq (decide_eq_false e) h
theorem AT {n:Nat}{v lo hi:Int}{K:V→List V→Prop}(hn:1≤n)(h1:lo≤v)(h2:v≤hi)(h:K (.bool true) []):AG TT n 0 [.int v,.int lo,.int hi] K:=
 Pn hn (by rw [decide_eq_true h1,decide_eq_true h2];exact h)
theorem FP {n:Nat}{v:Int}{K:V→List V→Prop}(hn:1≤n)(h:K (.int v) []):AG TT n 1 [.int v] K:=by
 refine Jg hn fun n hn=>?_
 exact h
theorem Bo {n:Nat}{v:Int}{K:V→List V→Prop}(hn:2≤n)(h1 : -2147483647≤v)(h2:v≤2147483647)(h:K (.int v) []):AG TT n 2 [.int v] K:=by
 refine IJ hn fun n hn=>?_
 refine FP (fe hn rfl) ?_
 refine BE (decide_eq_true h1) ?_
 refine Aq (show (!decide (v≤2147483647))=false by rw [decide_eq_true h2];rfl) ?_
 exact h
theorem Ae {n:Nat}{v:Int}{K:V→List V→Prop}(hn:2≤n)(h1 : -1073741823≤v)(h2:v≤1073741823)(h:K (.int v) []):AG TT n 3 [.int v] K:=by
 refine JB hn fun n hn=>?_
 refine FP (fe hn rfl) ?_
 refine BE (decide_eq_true h1) ?_
 refine Aq (show (!decide (v≤1073741823))=false by rw [decide_eq_true h2];rfl) ?_
 exact h
theorem Ru {n:Nat}{K:V→List V→Prop}(hn:1≤n)(h:K (.int 0) []):AG TT n 4 [.int 0,.int 1] K:=by
 refine QE hn fun n hn=>?_
 refine⟨.inl (Ab rfl),?_⟩
 refine⟨.inl (Ab rfl),?_⟩
 refine⟨⟨by decide,Ab rfl⟩,?_⟩
 exact h
theorem Mg {n:Nat}{v:Int}{K:V→List V→Prop}(hn:2≤n)(h1:0≤v)(h2:v≤255)(h:K (.int v) []):AG TT n 5 [.int v] K:=by
 refine Ks hn fun n hn=>?_
 refine AT (fe hn rfl) h1 h2 ?_
 exact h
theorem Am {n:Nat}{v:Int}{K:V→List V→Prop}(hn:1≤n)(h2:v≤60)(h:K .none []):AG TT n 6 [.int v] K:=by
 refine Jw hn fun n hn=>?_
 refine Aq (decide_eq_false (show ¬ (60 < v) by lia)) ?_
 exact h
theorem BS {n:Nat}{v:Int}{K:V→List V→Prop}(hn:1≤n)(h1:v.natAbs≤1073741823)(h:K (.int v) []):AG TT n 25 [.int v] K:=by
 refine Jc hn fun n hn=>?_
 refine Aq (decide_eq_false (show ¬ (1073741823 < (v.natAbs:Int)) by lia)) ?_
 exact h
noncomputable def BO (l:List V):Prop:=∀x∈l,∃i:Int,x=.int i∧0≤i∧i < 256
theorem BO.app {a b:List V}(x:BO a)(y:BO b):BO (a++b):=fun z hz=>by
 rcases List.mem_append.mp hz with h | h
 ·exact x z h
 ·exact y z h
theorem BO.one {i:Int}(h:0≤i)(h':i < 256):BO [.int i]:=fun z hz=>by
 rcases List.mem_singleton.mp hz with rfl
 exact⟨i,rfl,h,h'⟩
theorem BO.nil:BO []:=fun z hz=>nomatch hz
theorem C6 {a b:Int}(h:0 < b):Int.fdiv a b=a / b:=Int.fdiv_eq_ediv_of_nonneg a (Int.le_of_lt h)
theorem BQ {a b:Int}(h:0 < b):Int.fmod a b=a % b:=Int.fmod_eq_emod_of_nonneg a (Int.le_of_lt h)
theorem C3 (a:Int):0≤Int.fmod a 256∧Int.fmod a 256 < 256:=by
 rw [BQ (by decide)];lia
noncomputable def YZ (x:Int)(p:Nat):Int:=Int.fmod (Int.fdiv x (256 ^ p)) 256
noncomputable def BG (x:Int):Nat→List V
 | 0=>[]
 | r+1=>.int (YZ x r)::BG x r
theorem Ai (x:Int):∀r,BO (BG x r)
 | 0=>BO.nil
 | r+1=>(BO.one (C3 _).1 (C3 _).2).app (Ai x r)
theorem AU (x:Int):∀r,(BG x r).length=r
 | 0=>rfl
 | r+1=>congrArg (·+1) (AU x r)
theorem TO {n:Nat}{o:List V}{x r:Int}{K:Fl→List V→Prop}{p:Nat}(hp4:p≤4)(hl:o.length < 16000000)
  (h:K .next [.lst .sh (o++[.int (YZ x p)]),.int x,.int r,.int p]):
  Aj TT (AG TT n) (.cons (.append (.var 0) (.bin .mod (.bin .fdiv (.v 1) (.bin .pow (.int 256) (.v 3))) (.int 256))) .nil) [.lst .sh o,.int x,.int r,.int p] K:=by
 intro v
 have e4:p=0∨p=1∨p=2∨p=3∨p=4:=by lia
 have sm:small ((256:Int) ^ p)∧(256:Int) ^ p≠0:=by
  rcases e4 with rfl | rfl | rfl | rfl | rfl <;> exact⟨Ab (by decide),by decide⟩
 refine⟨⟨Ab rfl,by lia,by lia⟩,?_⟩
 refine⟨⟨sm.2,sm.1⟩,?_⟩
 refine⟨by decide,?_⟩
 refine⟨hl,?_⟩
 refine⟨rfl,?_⟩
 exact h
theorem N7 {n:Nat}{x rm:Int}{K:Fl→List V→Prop}:∀(r:Nat) {o:List V} {u:V},r≤5→o.length+r≤16000000→(∀u,K .next [.lst .sh (o++BG x r),.int x,.int rm,u])→
  Cc (Aj TT (AG TT n) (.cons (.append (.var 0) (.bin .mod (.bin .fdiv (.v 1) (.bin .pow (.int 256) (.v 3))) (.int 256))) .nil)) (fun x σ=>σ.set 3 x) (A9 ((r:Int) - 1) r) [.lst .sh o,.int x,.int rm,u] K
 | 0,o,u,_,_,h=>by
  have:=h u
  rw [show o++BG x 0=o from List.append_nil o] at this
  exact this
 | r+1,o,u,h5,hl,h=>by
  have e:((r+1:Nat):Int) - 1=(r:Nat):=by lia
  rw [e]
  refine TO (by lia) (by lia) ?_
  refine N7 r (by lia) (by rw [List.length_append,List.length_singleton];lia) fun u=>?_
  have:=h u
  rw [show o++[V.int (YZ x r)]++BG x r=o++BG x (r+1) by rw [List.append_assoc];rfl]
  exact this
theorem AQ {n:Nat}{o:List V}{x:Int}{r:Nat}{K:V→List V→Prop}(hn:1≤n)(hr:r≤4)(hl:o.length+4≤16000000)(h:K .none [.lst .sh (o++BG x r)]):AG TT n 20 [.lst .sh o,.int x,.int r] K:=by
 refine Ki hn fun n hn=>?_
 refine⟨⟨by lia,by lia,by decide,by decide⟩,?_⟩
 rw [show ((r:Int) - 1 - -1).toNat=r by lia]
 refine N7 r (by lia) (by lia) fun u=>?_
 exact h
noncomputable abbrev Vr:Ss:=.cons (.append (.var 0) (.bin .sub (.bin .add (.v 1) (.v 3)) (.int 1))) (.cons (.expr (.call 20 (.bor (.var 0) (.val (.v 2) (.val (.v 3) .nil))))) .nil)
theorem EU {n:Nat}{o:List V}{x first:Int}{r:Nat}{K:Fl→List V→Prop}(hn:1≤n)(hr:r≤4)(hl:o.length+5≤16000000)(h:K .next [.lst .sh (o++.int (first+r - 1)::BG x r),.int first,.int x,.int r]):
  Aj TT (AG TT n) Vr [.lst .sh o,.int first,.int x,.int r] K:=by
 intro v
 refine⟨by lia,?_⟩
 refine⟨rfl,?_⟩
 intro v
 refine AQ hn hr (by rw [List.length_append,List.length_singleton];lia) ?_
 refine⟨rfl,?_⟩
 rw [show o++[V.int (first+r - 1)]++BG x r=o++.int (first+r - 1)::BG x r by rw [List.append_assoc];rfl]
 exact h
theorem Mb (x:Int):∃r:Nat,1≤r∧r≤4∧∀{n:Nat} {o:List V} {first:Int} {K:V→List V→Prop},2≤n→o.length+5≤16000000→K .none [.lst .sh (o++.int (first+r - 1)::BG x r)]→AG TT n 21 [.lst .sh o,.int first,.int x] K:=by
 by_cases c1:(128:Int)*256 ^ 0≤x.natAbs
 ·by_cases c2:(128:Int)*256 ^ 1≤x.natAbs
  ·by_cases c3:(128:Int)*256 ^ 2≤x.natAbs
   ·refine⟨4,by decide,by decide,fun {n o first K} hn hl h=>?_⟩
    refine B7 hn fun n hn=>?_
    refine⟨5,?_⟩
    refine⟨⟨Ab rfl,by decide,by decide⟩,.inl (Ab rfl),BE (decide_eq_true c1) ?_⟩
    refine⟨⟨Ab rfl,by decide,by decide⟩,.inl (Ab rfl),BE (decide_eq_true c2) ?_⟩
    refine⟨⟨Ab rfl,by decide,by decide⟩,.inl (Ab rfl),BE (decide_eq_true c3) ?_⟩
    exact EU (r:=4) (by lia) (by decide) hl h
   ·refine⟨3,by decide,by decide,fun {n o first K} hn hl h=>?_⟩
    refine B7 hn fun n hn=>?_
    refine⟨5,?_⟩
    refine⟨⟨Ab rfl,by decide,by decide⟩,.inl (Ab rfl),BE (decide_eq_true c1) ?_⟩
    refine⟨⟨Ab rfl,by decide,by decide⟩,.inl (Ab rfl),BE (decide_eq_true c2) ?_⟩
    refine⟨⟨Ab rfl,by decide,by decide⟩,.inl (Ab rfl),Aq (decide_eq_false c3) ?_⟩
    exact EU (r:=3) (by lia) (by decide) hl h
  ·refine⟨2,by decide,by decide,fun {n o first K} hn hl h=>?_⟩
   refine B7 hn fun n hn=>?_
   refine⟨5,?_⟩
   refine⟨⟨Ab rfl,by decide,by decide⟩,.inl (Ab rfl),BE (decide_eq_true c1) ?_⟩
   refine⟨⟨Ab rfl,by decide,by decide⟩,.inl (Ab rfl),Aq (decide_eq_false c2) ?_⟩
   exact EU (r:=2) (by lia) (by decide) hl h
 ·refine⟨1,by decide,by decide,fun {n o first K} hn hl h=>?_⟩
  refine B7 hn fun n hn=>?_
  refine⟨5,?_⟩
  refine⟨⟨Ab rfl,by decide,by decide⟩,.inl (Ab rfl),Aq (decide_eq_false c1) ?_⟩
  exact EU (r:=1) (by lia) (by decide) hl h
theorem FJ {n:Nat}{o:List V}{first x:Int}{K:V→List V→Prop}(hn:2≤n)(hx:x < 256)(hl:o.length+5≤16000000)(h:K .none [.lst .sh (o++[.int first,.int (YZ x 0)])]):AG TT n 22 [.lst .sh o,.int first,.int x] K:=by
 refine JW hn fun n hn=>?_
 refine⟨5,?_⟩
 refine⟨⟨Ab rfl,by decide,by decide⟩,Aq (decide_eq_false (show ¬ ((256:Int) ^ 1≤x) by lia)) ?_⟩
 refine EU (r:=1) (by lia) (by decide) hl ?_
 rw [show (first+(1:Nat) - 1:Int)=first by lia]
 exact h
theorem Hi:∃ds:List V,BO ds∧ds.length=12∧∀{n:Nat} {o:List V} {K:V→List V→Prop},2≤n→o.length+20≤16000000→K .none [.lst .sh (o++ds)]→AG TT n 23 [.lst .sh o] K:=by
 refine⟨BG 25400000 4++(BG 473628672 4++BG 1000 4),(Ai _ _).app ((Ai _ _).app (Ai _ _)),by simp [AU],fun {n o K} hn hl h=>?_⟩
 refine MH hn fun n hn=>?_
 intro v
 refine AQ (r:=4) (fe hn rfl) (by decide) (by lia) ?_
 refine⟨rfl,?_⟩
 intro v
 refine AQ (r:=4) (fe hn rfl) (by decide) (by rw [List.length_append,AU];lia) ?_
 refine⟨rfl,?_⟩
 intro v
 refine AQ (r:=4) (fe hn rfl) (by decide) (by rw [List.length_append,List.length_append,AU,AU];lia) ?_
 refine⟨rfl,?_⟩
 rw [←List.append_assoc,←List.append_assoc] at h
 exact h
noncomputable def aZ:V:=.obj false 12 [(14,.int 1),(3,.str [102,97]),(13,.int 655360),(39,.int 655360),(38,.int 0),(52,.lst .fr [.int 0,.int 196608,.int 98304,.int 65536,.int 262144,.int 655360,.int 65536]),
 (53,.dct false [(65,.tup [.int 12,.int 5,.int 0,.int 0,.int 0,.int 0]),(66,.tup [.int 7,.int 5,.int 0,.int 0,.int 0,.int 0])]),(54,.tup []),(55,.tup []),(56,.int 256),(57,.int (-1)),(58,.int 45),(59,.int (-1))]
noncomputable abbrev BV (a:Addr):V:=.pin a aZ
noncomputable def lw (c:Int):Int:=if c=65 then 12 else 7
theorem bU {n:Nat}{a:Addr}{c:Int}{K:V→List V→Prop}(hn:1≤n)(hc:c=65∨c=66)(h:K (.bool true) []):AG TT n 77 [BV a,.int c] K:=by
 refine OM hn fun n hn=>?_
 rcases hc with rfl | rfl <;> exact h
theorem Qj {n:Nat}{a:Addr}{c:Int}{K:V→List V→Prop}(hn:1≤n)(hc:c=65∨c=66)(h:K (.int (lw c)) []):AG TT n 78 [BV a,.int c] K:=by
 refine K3 hn fun n hn=>?_
 rcases hc with rfl | rfl <;> exact h
noncomputable def Ua:List V:=[.int 243,.int (YZ 1 0)]++(BG 0 4++(BG 655360 4++(BG 655360 4++([.int 0]++([.int 2]++([.int 102]++[.int 97]))))))
theorem FG:∃ds:List V,BO ds∧ds.length=18∧∀{n:Nat} {a:Addr} {o:List V} {K:V→List V→Prop},3≤n→o.length+30≤16000000→K .none [.lst .sh (o++ds)]→AG TT n 24 [.lst .sh o,BV a] K:=by
 refine⟨Ua,?_,?_,fun {n a o K} hn hl h=>?_⟩
 ·refine ((BO.one (by decide) (by decide)).app (BO.one (C3 _).1 (C3 _).2)).app ((Ai _ _).app ((Ai _ _).app ((Ai _ _).app ?_)))
  exact (BO.one (by decide) (by decide)).app ((BO.one (by decide) (by decide)).app ((BO.one (by decide) (by decide)).app (BO.one (by decide) (by decide))))
 ·simp [Ua,AU]
 ·simp only [Ua,←List.append_assoc] at h
  refine Jl hn fun n hn=>?_
  intro v
  refine FJ (fe hn rfl) (by decide) (by lia) ?_
  refine⟨rfl,?_⟩
  dsimp only [List.set]
  intro v
  refine AQ (r:=4) (fe hn rfl) (by decide) (by simp [AU];lia) ?_
  refine⟨rfl,?_⟩
  dsimp only [List.set]
  intro v
  refine AQ (r:=4) (fe hn rfl) (by decide) (by simp [AU];lia) ?_
  refine⟨rfl,?_⟩
  dsimp only [List.set]
  intro v
  refine AQ (r:=4) (fe hn rfl) (by decide) (by simp [AU];lia) ?_
  refine⟨rfl,?_⟩
  dsimp only [List.set]
  intro v
  refine⟨by simp [AU];lia,?_⟩
  refine⟨rfl,?_⟩
  dsimp only [List.set]
  intro v
  refine⟨by simp [AU];lia,?_⟩
  refine⟨rfl,?_⟩
  dsimp only [List.set]
  intro v
  refine⟨by simp [AU];lia,?_⟩
  refine⟨rfl,?_⟩
  dsimp only [List.set]
  intro v
  refine⟨by simp [AU];lia,?_⟩
  refine⟨rfl,?_⟩
  dsimp only [List.set]
  exact h
structure Row where
 s:Int
 k:Nat
 st:Int
noncomputable def rowV (r:Row):V:=.lst .sh [.int r.s,.int r.k,.int r.st]
noncomputable def AM (plain:Int)(o:O)(l:List Row):V:=.obj true 9 [(42,.int plain),(43,.lst o (l.map rowV))]
theorem ap {n:Nat}{st u:Int}(hu:u=4∨u=5)(hs:st=0∨st=1∨st=2∨st=3∨st=4∨st=5):∃st',(st'=0∨st'=1∨st'=2∨st'=3∨st'=4∨st'=5)∧(st'=0∨st'=1∨st'=2→st=0∨st=1∨st=2)∧
  ∀{n:Nat} {K:V→List V→Prop},1≤n→K (.int st') []→AG TT n 26 [.int st,.int u] K:=by
 rcases hu with rfl | rfl
 ·rcases hs with rfl | rfl | rfl | rfl | rfl | rfl
  ·exact⟨2,by decide,by decide,fun {n K} hn h=>An hn fun n hn=>(h)⟩
  ·exact⟨3,by decide,by decide,fun {n K} hn h=>An hn fun n hn=>((h))⟩
  ·exact⟨2,by decide,by decide,fun {n K} hn h=>An hn fun n hn=>((h))⟩
  ·exact⟨3,by decide,by decide,fun {n K} hn h=>An hn fun n hn=>((h))⟩
  ·exact⟨4,by decide,by decide,fun {n K} hn h=>An hn fun n hn=>((h))⟩
  ·exact⟨5,by decide,by decide,fun {n K} hn h=>An hn fun n hn=>((h))⟩
 ·rcases hs with rfl | rfl | rfl | rfl | rfl | rfl
  ·exact⟨1,by decide,by decide,fun {n K} hn h=>An hn fun n hn=>(h)⟩
  ·exact⟨1,by decide,by decide,fun {n K} hn h=>An hn fun n hn=>((h))⟩
  ·exact⟨3,by decide,by decide,fun {n K} hn h=>An hn fun n hn=>((h))⟩
  ·exact⟨3,by decide,by decide,fun {n K} hn h=>An hn fun n hn=>((h))⟩
  ·exact⟨4,by decide,by decide,fun {n K} hn h=>An hn fun n hn=>((h))⟩
  ·exact⟨5,by decide,by decide,fun {n K} hn h=>An hn fun n hn=>((h))⟩
theorem R7 {T:Tabs}{Φ:Nat→List V→(V→List V→Prop)→Prop}{t:List Nat}{p:Pt}{x:V}{xs σ:List V}{K:Fl→List V→Prop}(g:get T σ p=some x)(e:N9 x=some xs)(a:xs.all fz=true)(h:OJ t xs σ fun σ=>K .next σ):WS T Φ (.unpackP t p) σ K:=pS g (pS e ⟨a,h⟩)
theorem Zk {T:Tabs}{Φ:Nat→List V→(V→List V→Prop)→Prop}{p:Pt}{j:Ix}{e:E}{l σ σ':List V}{i k x:Int}{K:Fl→List V→Prop}(g:get T σ p=some (.lst .sh l))(gi:dL T σ j=some i)(ge:QW T e=some (.int k))(hi:0≤i)(gx:Qb l i=some (.int x))
  (ep:put T σ p (.lst .sh (M4 l i (.int (x+k))))=some σ') (h:K .next σ'):WS T Φ (.augItem p j e) σ K:=pS g (pS gi (pS ge ⟨hi,pS gx (pS ep h)⟩))
theorem Pe {T:Tabs}{p:Pt}{l σ σ':List V}{i:Int}{y:V}{K:List V→Prop}(g:get T σ p=some (.lst .sh l))(hi:0≤i)(hl:i < l.length)(e:put T σ p (.lst .sh (M4 l i y))=some σ')(h:K σ'):setItem T σ p i y K:=pS g ⟨hi,hl,pS e h⟩
noncomputable def D9 (lo:Int)(oct:List V)(r:Row):Prop:=(r.st=0∨r.st=1∨r.st=2∨r.st=3∨r.st=4∨r.st=5)∧∃i,oct[r.k]?=some (.int i)∧lo≤i∧i≤lo+13∧(r.st=0∨r.st=1∨r.st=2→i≤lo+3)
set_option genCtorIdx false
inductive HO where
 | miss
 | old (k:Nat)
 | one (k:Nat)
 | two (k:Nat)
set_option genCtorIdx true
noncomputable def XH (l:List Row):HO→Prop
 | .miss=>True
 | .old k=>∃r,l[k]?=some r∧(r.st=4∨r.st=5)
 | .one k=>∃r,l[k]?=some r∧(r.st=0∨r.st=1)
 | .two k=>∃r,l[k]?=some r∧(r.st=0∨r.st=2)
noncomputable def WZ (plain size:Int)(o:O)(l:List Row)(oct:List V)(K:Fl→List V→Prop):HO→Prop
 | .miss=>(∀u3 u4 u5 u6 u7,K .next [AM plain o l,.lst .sh oct,.int size,u3,u4,u5,u6,u7])∧∀u3 u4 u5 u6 u7,K (.ret (.int (-1))) [AM plain o l,.lst .sh oct,.int size,u3,u4,u5,u6,u7]
 | .old k=>∀u3 u4 u5 u6 u7,K (.ret (.int k)) [AM plain o l,.lst .sh oct,.int size,u3,u4,u5,u6,u7]
 | .one k=>∀r i,l[k]?=some r→oct[r.k]?=some (.int i)→∀u3 u4 u5 u6 u7,K (.ret (.int k)) [AM plain o (l.set k { r with st:=4 }),.lst .sh (oct.set r.k (.int (i+5))),.int size,u3,u4,u5,u6,u7]
 | .two k=>∀r i,l[k]?=some r→oct[r.k]?=some (.int i)→∀u3 u4 u5 u6 u7,K (.ret (.int k)) [AM plain o (l.set k { r with st:=5 }),.lst .sh (oct.set r.k (.int (i+10))),.int size,u3,u4,u5,u6,u7]
noncomputable abbrev Q5:Ss:=(.cons (.ifs (.cmp .eq (.v 5) (.v 2)) (.cons (.ifs (.or (.and (.cmp .eq (.v 7) (.glob 31)) (.cmp .ne (.v 3) (.glob 70))) (.and (.cmp .eq (.v 7) (.glob 69)) (.cmp .ne (.v 3) (.glob 68)))) (.cons (.ret (.v 4)) .nil) .nil) (.cons (.ifs (.and (.or (.cmp .eq (.v 7) (.glob 32)) (.cmp .eq (.v 7) (.glob 34))) (.cmp .ne (.v 3) (.glob 70))) (.cons (.augItem (.var 1) (.at_ (.var 6)) (.glob 71)) (.cons (.setitem (.at_ (.attr (.var 0) 43) (.var 4)) (.lit 2) (.glob 31)) (.cons (.ret (.v 4)) .nil))) .nil) (.cons (.ifs (.and (.or (.cmp .eq (.v 7) (.glob 32)) (.cmp .eq (.v 7) (.glob 33))) (.cmp .ne (.v 3) (.glob 68))) (.cons (.augItem (.var 1) (.at_ (.var 6)) (.glob 72)) (.cons (.setitem (.at_ (.attr (.var 0) 43) (.var 4)) (.lit 2) (.glob 69)) (.cons (.ret (.v 4)) .nil))) .nil) .nil))) (.cons (.ifs (.cmp .eq (.v 7) (.glob 31)) (.cons (.ifs (.cmp .eq (.v 3) (.glob 68)) (.cons (.ret (.int (-1))) .nil) .nil) (.cons (.assign 3 (.glob 70)) .nil)) (.cons (.ifs (.cmp .eq (.v 7) (.glob 69)) (.cons (.ifs (.cmp .eq (.v 3) (.glob 70)) (.cons (.ret (.int (-1))) .nil) .nil) (.cons (.assign 3 (.glob 68)) .nil)) .nil) .nil)) .nil)) .nil)
noncomputable abbrev Cs:Ss:=.cons (.unpackP [5,6,7] (.at_ (.attr (.var 0) 43) (.var 4))) Q5
set_option genCtorIdx false
inductive HT where
 | go (seen:Int)
 | miss
 | old
 | one
 | two
set_option genCtorIdx true
noncomputable def Tn (plain size:Int)(l:List Row)(oct:List V)(p:Nat)(r:Row)(K:Fl→List V→Prop):HT→Prop
 | .go seen=>∀u4 u5 u6 u7,K .next [AM plain .dp l,.lst .sh oct,.int size,.int seen,u4,u5,u6,u7]
 | .miss=>∀u3 u4 u5 u6 u7,K (.ret (.int (-1))) [AM plain .dp l,.lst .sh oct,.int size,u3,u4,u5,u6,u7]
 | .old=>∀u3 u4 u5 u6 u7,K (.ret (.int p)) [AM plain .dp l,.lst .sh oct,.int size,u3,u4,u5,u6,u7]
 | .one=>∀i,oct[r.k]?=some (.int i)→∀u3 u4 u5 u6 u7,K (.ret (.int p)) [AM plain .dp (l.set p { r with st:=4 }),.lst .sh (oct.set r.k (.int (i+5))),.int size,u3,u4,u5,u6,u7]
 | .two=>∀i,oct[r.k]?=some (.int i)→∀u3 u4 u5 u6 u7,K (.ret (.int p)) [AM plain .dp (l.set p { r with st:=5 }),.lst .sh (oct.set r.k (.int (i+10))),.int size,u3,u4,u5,u6,u7]
noncomputable def ZQ (st:Int):HT→Prop
 | .go s=>s=0∨s=1∨s=2
 | .miss=>True
 | .old=>st=4∨st=5
 | .one=>st=0∨st=1
 | .two=>st=0∨st=2
theorem VY {plain:Int}{l:List Row}{p:Nat}{r r':Row}:V.obj true 9 [(42,.int plain),(43,.lst .dp ((l.map rowV).set p (rowV r')))]=AM plain .dp (l.set p r'):=by
 unfold AM;rw [List.map_set]
theorem TG {plain size:Int}{l:List Row}{oct:List V}{p k:Nat}{s st i m:Int}{u3:V}{G:List V→Prop}(ho:oct[k]?=some (.int i))(h:G [AM plain .dp l,.lst .sh (oct.set k (.int (i+m))),.int size,u3,.int p,.int s,.int k,.int st]):
  0≤(k:Int)∧AI (Qb oct k) fun z=>BM z fun x=>AI (put TT [AM plain .dp l,.lst .sh oct,.int size,u3,.int p,.int s,.int k,.int st] (.var 1) (.lst .sh (M4 oct k (.int (x+m))))) G:=⟨Int.natCast_nonneg k,pS ho h⟩
theorem Tc {plain size:Int}{l:List Row}{p k:Nat}{s st sp:Int}{u1 u3:V}{G:List V→Prop}(hk:l[p]?=some ⟨s,k,st⟩)(h:G [AM plain .dp (l.set p ⟨s,k,sp⟩),u1,.int size,u3,.int p,.int s,.int k,.int st]):
  setItem TT [AM plain .dp l,u1,.int size,u3,.int p,.int s,.int k,.int st] (.at_ (.attr (.var 0) 43) (.var 4)) 2 (.int sp) G:=by
 have gr:(l.map rowV)[p]?=some (.lst .sh [.int s,.int k,.int st]):=by rw [List.getElem?_map,hk];rfl
 refine Pe (l:=[.int s,.int k,.int st]) (σ':=[.obj true 9 [(42,.int plain),(43,.lst .dp ((l.map rowV).set p (rowV ⟨s,k,sp⟩)))],u1,.int size,u3,.int p,.int s,.int k,.int st]) gr (by decide) (show (2:Int) < 3 by decide) rfl ?_
 rw [VY (r:=⟨s,k,st⟩)]
 exact h
theorem UM {plain size:Int}{l:List Row}{oct:List V}{p:Nat}{r:Row}(hp:l[p]?=some r)(hr:D9 plain oct r){seen:Int}(hseen:seen=0∨seen=1∨seen=2):
  ∃t,ZQ r.st t∧∀{n:Nat} {u4 u5 u6 u7:V} {K:Fl→List V→Prop},Tn plain size l oct p r K t→Aj TT (AG TT n) Cs [AM plain .dp l,.lst .sh oct,.int size,.int seen,.int p,u5,u6,u7] K:=by
 obtain⟨s,k,st⟩:=r
 obtain⟨hst,i,ho,-⟩:=hr
 have gr:(l.map rowV)[p]?=some (.lst .sh [.int s,.int k,.int st]):=by rw [List.getElem?_map,hp];rfl
 have start:∀{n:Nat} {u5 u6 u7:V} {K:Fl→List V→Prop},Aj TT (AG TT n) Q5 [AM plain .dp l,.lst .sh oct,.int size,.int seen,.int p,.int s,.int k,.int st] K→Aj TT (AG TT n) Cs [AM plain .dp l,.lst .sh oct,.int size,.int seen,.int p,u5,u6,u7] K:=fun {n u5 u6 u7 K} h=>
  R7 (x:=.lst .sh [.int s,.int k,.int st]) gr rfl rfl h
 by_cases hs:s=size
 ·have tt:decide (s=size)=true:=decide_eq_true hs
  rcases hst with rfl | rfl | rfl | rfl | rfl | rfl <;> rcases hseen with rfl | rfl | rfl
  all_goals first
   | exact⟨.old,.inl rfl,fun {n u4 u5 u6 u7 K} h=>start (BE tt (h _ _ _ _ _))⟩
   | exact⟨.old,.inr rfl,fun {n u4 u5 u6 u7 K} h=>start (BE tt (h _ _ _ _ _))⟩
   | exact⟨.one,(by first | exact .inl rfl | exact .inr rfl),fun {n u4 u5 u6 u7 K} h=>start (BE tt (TG ho (Tc hp (h i ho _ _ _ _ _))))⟩
   | exact⟨.two,(by first | exact .inl rfl | exact .inr rfl),fun {n u4 u5 u6 u7 K} h=>start (BE tt (TG ho (Tc hp (h i ho _ _ _ _ _))))⟩
   | exact⟨.go 0,.inl rfl,fun {n u4 u5 u6 u7 K} h=>start (BE tt (h _ _ _ _))⟩
   | exact⟨.go 1,.inr (.inl rfl),fun {n u4 u5 u6 u7 K} h=>start (BE tt (h _ _ _ _))⟩
   | exact⟨.go 2,.inr (.inr rfl),fun {n u4 u5 u6 u7 K} h=>start (BE tt (h _ _ _ _))⟩
 ·have tt:decide (s=size)=false:=decide_eq_false hs
  rcases hst with rfl | rfl | rfl | rfl | rfl | rfl <;> rcases hseen with rfl | rfl | rfl
  all_goals first
   | exact⟨.miss,trivial,fun {n u4 u5 u6 u7 K} h=>start (Aq tt (h _ _ _ _ _))⟩
   | exact⟨.go 0,.inl rfl,fun {n u4 u5 u6 u7 K} h=>start (Aq tt (h _ _ _ _))⟩
   | exact⟨.go 1,.inr (.inl rfl),fun {n u4 u5 u6 u7 K} h=>start (Aq tt (h _ _ _ _))⟩
   | exact⟨.go 2,.inr (.inr rfl),fun {n u4 u5 u6 u7 K} h=>start (Aq tt (h _ _ _ _))⟩
theorem Nx {plain size:Int}{o:O}{l:List Row}{oct:List V}(ho:l≠[]→o=.dp)(hr:∀r∈l,D9 plain oct r):∀(m:Nat),m≤l.length→∀seen:Int,seen=0∨seen=1∨seen=2→
  ∃out,XH l out∧∀{n:Nat} {u4 u5 u6 u7:V} {K:Fl→List V→Prop},WZ plain size o l oct K out→Cc (Aj TT (AG TT n) Cs) (fun x σ=>σ.set 4 x) (A9 ((m:Int) - 1) m) [AM plain o l,.lst .sh oct,.int size,.int seen,u4,u5,u6,u7] K
 | 0,_,seen,_=>⟨.miss,trivial,fun {n u4 u5 u6 u7 K} h=>h.1 _ _ _ _ _⟩
 | m+1,hm,seen,hs=>by
  have hl:m < l.length:=by lia
  obtain rfl:o=.dp:=ho (fun e=>by subst e;simp at hl)
  have hp:l[m]?=some l[m]:=List.getElem?_eq_getElem hl
  have e:((m+1:Nat):Int) - 1=(m:Nat):=by lia
  rw [e]
  obtain⟨t,tok,T⟩:=UM (plain:=plain) (size:=size) (oct:=oct) hp (hr _ (List.getElem_mem hl)) hs
  cases t with
  | go s2=>
   obtain⟨out,ok,L⟩:=Nx ho hr m (by lia) s2 tok
   exact⟨out,ok,fun {n u4 u5 u6 u7 K} h=>T (K:=fun fl σ=>match fl with
    | .next=>Cc (Aj TT (AG TT n) Cs) (fun x σ=>σ.set 4 x) (A9 ((m:Int) - 1) m) σ K
    | .ret y=>K (.ret y) σ) (u4:=u4) fun u4 u5 u6 u7=>L h⟩
  | miss=>exact⟨.miss,trivial,fun {n u4 u5 u6 u7 K} h=>T (u4:=u4) (K:=fun fl σ=>match fl with
    | .next=>Cc (Aj TT (AG TT n) Cs) (fun x σ=>σ.set 4 x) (A9 ((m:Int) - 1) m) σ K
    | .ret y=>K (.ret y) σ) fun u3 u4 u5 u6 u7=>h.2 _ _ _ _ _⟩
  | old=>exact⟨.old m,⟨_,hp,tok⟩,fun {n u4 u5 u6 u7 K} h=>T (u4:=u4) (K:=fun fl σ=>match fl with
    | .next=>Cc (Aj TT (AG TT n) Cs) (fun x σ=>σ.set 4 x) (A9 ((m:Int) - 1) m) σ K
    | .ret y=>K (.ret y) σ) fun u3 u4 u5 u6 u7=>h _ _ _ _ _⟩
  | one=>exact⟨.one m,⟨_,hp,tok⟩,fun {n u4 u5 u6 u7 K} h=>T (u4:=u4) (K:=fun fl σ=>match fl with
    | .next=>Cc (Aj TT (AG TT n) Cs) (fun x σ=>σ.set 4 x) (A9 ((m:Int) - 1) m) σ K
    | .ret y=>K (.ret y) σ) fun i hi u3 u4 u5 u6 u7=>h _ i hp hi _ _ _ _ _⟩
  | two=>exact⟨.two m,⟨_,hp,tok⟩,fun {n u4 u5 u6 u7 K} h=>T (u4:=u4) (K:=fun fl σ=>match fl with
    | .next=>Cc (Aj TT (AG TT n) Cs) (fun x σ=>σ.set 4 x) (A9 ((m:Int) - 1) m) σ K
    | .ret y=>K (.ret y) σ) fun i hi u3 u4 u5 u6 u7=>h _ i hp hi _ _ _ _ _⟩
noncomputable def YW (plain:Int)(o:O)(l:List Row)(oct:List V)(K:V→List V→Prop):HO→Prop
 | .miss=>K (.int (-1)) [AM plain o l,.lst .sh oct]
 | .old k=>K (.int k) [AM plain o l,.lst .sh oct]
 | .one k=>∀r i,l[k]?=some r→oct[r.k]?=some (.int i)→K (.int k) [AM plain o (l.set k { r with st:=4 }),.lst .sh (oct.set r.k (.int (i+5)))]
 | .two k=>∀r i,l[k]?=some r→oct[r.k]?=some (.int i)→K (.int k) [AM plain o (l.set k { r with st:=5 }),.lst .sh (oct.set r.k (.int (i+10)))]
theorem cK {plain size:Int}{o:O}{l:List Row}{oct:List V}(ho:l≠[]→o=.dp)(hr:∀r∈l,D9 plain oct r)(hl:l.length≤1000000):
  ∃out,XH l out∧∀{n:Nat} {K:V→List V→Prop},1≤n→YW plain o l oct K out→AG TT n 67 [AM plain o l,.lst .sh oct,.int size] K:=by
 obtain⟨out,ok,L⟩:=Nx (size:=size) ho hr l.length (Nat.le_refl _) 0 (.inl rfl)
 refine⟨out,ok,fun {n K} hn h=>Lz hn fun n hn=>?_⟩
 refine⟨⟨by rw [List.length_map];lia,by rw [List.length_map];lia,by decide,by decide⟩,?_⟩
 rw [List.length_map,show ((l.length:Int) - 1 - -1).toNat=l.length by lia]
 refine L ?_
 cases out with
 | miss=>exact⟨fun _ _ _ _ _=>h,fun _ _ _ _ _=>h⟩
 | old k=>exact fun _ _ _ _ _=>h
 | one k=>exact fun r i e1 e2 _ _ _ _ _=>h r i e1 e2
 | two k=>exact fun r i e1 e2 _ _ _ _ _=>h r i e1 e2
noncomputable def IM (u st:Int):Int:=if u=4 then (if st=0 then 2 else if st=1 then 3 else st) else (if st=0 then 1 else if st=2 then 3 else st)
theorem Ye {n:Nat}{st u:Int}{K:V→List V→Prop}(hn:1≤n)(hu:u=4∨u=5)(hs:st=0∨st=1∨st=2∨st=3∨st=4∨st=5)(h:K (.int (IM u st)) []):AG TT n 26 [.int st,.int u] K:=by
 rcases hu with rfl | rfl <;> rcases hs with rfl | rfl | rfl | rfl | rfl | rfl <;>
  exact An hn fun n hn=>(by exact h)
theorem Wh {u st:Int}(hs:st=0∨st=1∨st=2∨st=3∨st=4∨st=5):(IM u st=0∨IM u st=1∨IM u st=2∨IM u st=3∨IM u st=4∨IM u st=5)∧(IM u st=0∨IM u st=1∨IM u st=2→st=0∨st=1∨st=2):=by
 unfold IM
 rcases hs with rfl | rfl | rfl | rfl | rfl | rfl <;> by_cases e:u=4 <;> simp [e]
noncomputable def NC (u:Int)(r:Row):Row:={ r with st:=IM u r.st }
noncomputable abbrev Vi:Ss:=.cons (.setitem (.var 5) (.lit 2) (.call 26 (.val (.rd (.at_ (.var 5) (.lit 2))) (.val (.v 4) .nil)))) .nil
theorem NF {n:Nat}{u:Int}(hn:1≤n)(hu:u=4∨u=5){M o s h:V}:∀(l:List Row) (acc:List Row) (u5:V) (K:List V→List V→Prop),(∀r∈l,r.st=0∨r.st=1∨r.st=2∨r.st=3∨r.st=4∨r.st=5)→
  (∀u5,K ((acc++l.map (NC u)).map rowV) [M,o,s,h,.int u,u5])→PZ (Aj TT (AG TT n) Vi) 5 (l.map rowV) (acc.map rowV) [M,o,s,h,.int u,u5] K
 | [],acc,u5,K,_,k=>by
  have:=k u5
  rw [List.map_nil,List.append_nil] at this
  exact this
 | r::l,acc,u5,K,hs,k=>by
  refine⟨rfl,?_⟩
  refine Ye hn hu (hs r (.head _)) ?_
  refine⟨by decide,show (2:Int) < 3 by decide,?_⟩
  refine⟨rfl,?_⟩
  have:=NF hn hu l (acc++[NC u r]) .undef K (fun r' h=>hs r' (.tail _ h)) (fun u5=>by
   have:=k u5
   rw [List.append_assoc]
   exact this)
  rw [List.map_append] at this
  exact this
theorem bJ {T:Tabs}{Φ:Nat→List V→(V→List V→Prop)→Prop}{l:Ss}{σ:List V}{K:Fl→List V→Prop}(h:Aj T Φ l σ K):Aj T Φ .nil σ (fun fl σ=>match fl with | .next=>Aj T Φ l σ K | .ret x=>K (.ret x) σ):=h
theorem UZ {T:Tabs}{Φ:Nat→List V→(V→List V→Prop)→Prop}{i:Nat}{e:E}{l:Ss}{σ:List V}{K:Fl→List V→Prop}(h:WE T Φ e σ fun x σ=>Aj T Φ l (σ.set i x) K):Aj T Φ (.cons (.assign i e) l) σ K:=h
theorem Jf {T:Tabs}{Φ:Nat→List V→(V→List V→Prop)→Prop}{p:Pt}{σ:List V}{i:Int}{K:V→List V→Prop}(g:get T σ p=some (.int i))(h:K (.int i) σ):WE T Φ (.rd p) σ K:=pS g h
theorem Gf {T:Tabs}{σ:List V}{p:Pt}{x y:V}{i:Int}(g:get T σ p=some x)(e:WV x i=some y):get T σ (.at_ p (.lit i))=some y:=by
 show Option.bind _ _=_
 rw [g]
 exact e
theorem UI {W:List V→(Fl→List V→Prop)→Prop}{t:Nat}{l l' acc σ:List V}{K:List V→List V→Prop}(e:l=l')(h:PZ W t l' acc σ K):PZ W t l acc σ K:=e▸h
theorem Qm {l:List Row}{k:Nat}{u:Int}:(l.take (k+1)++(l.drop (k+1)).map (NC u)).length=l.length:=by rw [List.length_append,List.length_map,List.length_take,List.length_drop];exact gK _ _
noncomputable abbrev bf:Ss:=(.cons (.assign 4 (.rd (.at_ (.at_ (.attr (.var 0) 43) (.var 3)) (.lit 2)))) (.cons (.forOwn 5 (.attr (.var 0) 43) (.bin .add (.v 3) (.int 1)) (.cons (.setitem (.var 5) (.lit 2) (.call 26 (.val (.rd (.at_ (.var 5) (.lit 2))) (.val (.v 4) .nil)))) .nil)) (.cons (.appendO (.attr (.var 0) 43) (.lst (.cons (.v 2) (.cons (.lenP (.var 1)) (.cons (.v 4) .nil))))) (.cons (.append (.var 1) (.bin .add (.a 0 42) (.ite (.cmp .eq (.v 4) (.glob 31)) (.glob 65) (.glob 66)))) .nil))))
noncomputable abbrev XG:Ss:=(.cons (.ifs (.cmp .lt (.v 3) (.int 0)) (.cons (.appendO (.attr (.var 0) 43) (.lst (.cons (.v 2) (.cons (.lenP (.var 1)) (.cons (.glob 32) .nil))))) (.cons (.expr (.call 21 (.bor (.var 1) (.val (.a 0 42) (.val (.v 2) .nil))))) (.cons .ret0 .nil))) .nil) bf)
noncomputable def F9 (l:List Row)(k:Nat)(u size:Int)(m:Nat):List Row:=l.take (k+1)++(l.drop (k+1)).map (NC u)++[⟨size,m,u⟩]
theorem Us {n:Nat}{plain size u:Int}{l:List Row}{oct:List V}{k:Nat}{r:Row}{K:V→List V→Prop}(hn:1≤n)(hk:l[k]?=some r)(hu:r.st=u)(hu':u=4∨u=5)(hs:∀r∈l,r.st=0∨r.st=1∨r.st=2∨r.st=3∨r.st=4∨r.st=5)
  (hl:l.length+2≤1000000) (hol:oct.length+2≤1000000)
  (h:K .none [AM plain .dp (F9 l k u size oct.length),.lst .sh (oct++[.int (plain+if u=4 then 4 else 9)])]):Aj TT (AG TT n) XG [AM plain .dp l,.lst .sh oct,.int size,.int k,.undef,.undef] (Bp [0,1] K):=by
 obtain⟨s0,k0,st⟩:=r
 have hu:st=u:=hu
 subst hu
 have gr:(l.map rowV)[k]?=some (.lst .sh [.int s0,.int k0,.int st]):=by rw [List.getElem?_map,hk];rfl
 refine bJ (UZ ?_)
 refine Jf (i:=st) ?_ ?_
 ·exact Gf (x:=.lst .sh [.int s0,.int k0,.int st]) gr rfl
 dsimp only [List.set]
 intro v vals hv
 refine⟨rfl,?_⟩
 dsimp only [List.set]
 refine UI (List.map_drop).symm ?_
 refine NF hn hu' (l.drop (k+1)) [] _ _ (fun r hr=>hs r (List.mem_of_mem_drop hr)) fun u5=>?_
 refine⟨_,rfl,?_⟩
 have el:(List.take (k+1) (l.map rowV)++([]++(l.drop (k+1)).map (NC st)).map rowV).length < 16000000:=by
  rw [List.nil_append,←List.map_take,←List.map_append,List.length_map,Qm];exact Nat.lt_of_le_of_lt (Nat.le_of_succ_le (Nat.le_of_succ_le hl)) (by decide)
 have fin:∀x:Int,x=(if st=4 then 4 else 9)→K .none [.obj true 9 [(42,.int plain),(43,.lst .dp (List.take (k+1) (l.map rowV)++([]++(l.drop (k+1)).map (NC st)).map rowV++[.lst .sh [.int size,.int oct.length,.int st]]))],.lst .sh (oct++[.int (plain+x)])]:=fun x ex=>by
  subst ex
  unfold AM F9 at h
  rw [List.map_append,List.map_append,List.map_take] at h
  exact h
 refine⟨rfl,?_⟩
 intro v2
 refine⟨el,?_⟩
 refine⟨rfl,?_⟩
 dsimp only [List.set]
 intro v3
 have o16:oct.length < 16000000:=Nat.lt_of_le_of_lt (Nat.le_of_succ_le (Nat.le_of_succ_le hol)) (by decide)
 refine Xm (fun e=>?_) fun e=>?_
 ·refine⟨o16,⟨rfl,?_⟩⟩
  exact fin 4 (by rw [if_pos (of_decide_eq_true e)])
 ·refine⟨o16,⟨rfl,?_⟩⟩
  exact fin 9 (by rw [if_neg (of_decide_eq_false e)])
theorem RW {n:Nat}{plain size:Int}{o:O}{l:List Row}{oct:List V}{r:Nat}{K:V→List V→Prop}(ho:o=.dp∨o=.sh)(hl:l.length+2≤1000000)
  (hS:∀{K:V→List V→Prop},K .none [.lst .sh (oct++.int (plain+r - 1)::BG size r)]→AG TT n 21 [.lst .sh oct,.int plain,.int size] K)
  (h:K .none [AM plain .dp (l++[⟨size,oct.length,0⟩]),.lst .sh (oct++.int (plain+r - 1)::BG size r)]):Aj TT (AG TT n) XG [AM plain o l,.lst .sh oct,.int size,.int (-1),.undef,.undef] (Bp [0,1] K):=by
 have el:(l.map rowV).length < 16000000:=by rw [List.length_map];exact Nat.lt_of_le_of_lt (Nat.le_of_succ_le (Nat.le_of_succ_le hl)) (by decide)
 have fin:K .none [.obj true 9 [(42,.int plain),(43,.lst .dp (l.map rowV++[.lst .sh [.int size,.int oct.length,.int 0]]))],.lst .sh (oct++.int (plain+r - 1)::BG size r)]:=by
  unfold AM at h
  rw [List.map_append] at h
  exact h
 rcases ho with rfl | rfl
 ·refine⟨rfl,?_⟩
  intro v
  refine⟨el,?_⟩
  refine⟨rfl,?_⟩
  dsimp only [List.set]
  intro v2
  exact hS ⟨rfl,fin⟩
 ·refine⟨rfl,?_⟩
  intro v
  refine⟨el,?_⟩
  refine⟨rfl,?_⟩
  dsimp only [List.set]
  intro v2
  exact hS ⟨rfl,fin⟩
structure Al (lo:Int)(oct:List V)(o:O)(l:List Row):Prop where
 ho:o=.dp∨(o=.sh∧l=[])
 rows:∀(j:Nat) (r:Row),l[j]?=some r→D9 lo oct r
 nd:∀(i j:Nat) (a b:Row),i≠j→l[i]?=some a→l[j]?=some b→a.k≠b.k
noncomputable def Frame (lo:Int)(oct oct':List V):Prop:=oct.length≤oct'.length∧∀(k:Nat) (x:V),oct[k]?=some x→(∀i:Int,x=.int i→i < lo∨lo+3 < i)→oct'[k]?=some x
theorem Frame.refl (lo:Int)(oct:List V):Frame lo oct oct:=⟨Nat.le_refl _,fun k x h _=>h⟩
theorem Frame.trans {lo:Int}{a b c:List V}(x:Frame lo a b)(y:Frame lo b c):Frame lo a c:=⟨Nat.le_trans x.1 y.1,fun k v h n=>y.2 k v (x.2 k v h n) n⟩
theorem Frame.app (lo:Int)(oct d:List V):Frame lo oct (oct++d):=⟨by rw [List.length_append];exact Nat.le_add_right _ _,fun k x h _=>by
 rw [List.getElem?_append_left (List.getElem?_eq_some_iff.mp h).1];exact h⟩
theorem D9.app {lo:Int}{oct d:List V}{r:Row}(x:D9 lo oct r):D9 lo (oct++d) r:=by
 obtain⟨h,i,e,k⟩:=x
 exact⟨h,i,by rw [List.getElem?_append_left (List.getElem?_eq_some_iff.mp e).1];exact e,k⟩
theorem Al.frame {lo lo':Int}{oct oct':List V}{o:O}{l:List Row}(x:Al lo' oct o l)(f:Frame lo oct oct')(d:lo'+13 < lo∨lo+3 < lo'):Al lo' oct' o l:=
 ⟨x.ho,fun j r h=>by
  obtain⟨hs,i,e,h1,h2,h3⟩:=x.rows j r h
  exact⟨hs,i,f.2 _ _ e (fun i' q=>by cases q;exact d.imp (Int.lt_of_le_of_lt h2) fun d=>Int.lt_of_lt_of_le d h1),h1,h2,h3⟩,x.nd⟩
theorem D9.lt {lo:Int}{oct:List V}{r:Row}(x:D9 lo oct r):r.k < oct.length:=by
 obtain⟨h,i,e,k⟩:=x
 exact (List.getElem?_eq_some_iff.mp e).1
theorem Oo {lo:Int}{oct d:List V}{o:O}{l:List Row}{size i st:Int}(R:Al lo oct o l)(hd:d≠[])(h0:d[0]?=some (.int i))(hi:lo≤i)(hi2:i≤lo+13)(hst:st=0∨st=1∨st=2∨st=3∨st=4∨st=5)(hf:st=0∨st=1∨st=2→i≤lo+3):
  Al lo (oct++d) .dp (l++[⟨size,oct.length,st⟩]):=by
 have new:D9 lo (oct++d) ⟨size,oct.length,st⟩:=⟨hst,i,by rw [List.getElem?_append_right (Nat.le_refl _),Nat.sub_self];exact h0,hi,hi2,hf⟩
 have cases_:∀(j:Nat) (r:Row),(l++[⟨size,oct.length,st⟩])[j]?=some r→l[j]?=some r∨(j=l.length∧r=⟨size,oct.length,st⟩):=fun j r h=>by
  by_cases hj:j < l.length
  ·rw [List.getElem?_append_left hj] at h;exact .inl h
  ·have hj:=Nat.le_of_not_lt hj
   rw [List.getElem?_append_right hj] at h
   by_cases hz:j - l.length=0
   ·rw [hz] at h;cases h;exact .inr ⟨Nat.le_antisymm (Nat.le_of_sub_eq_zero hz) hj,rfl⟩
   ·rw [List.getElem?_eq_none (Nat.pos_of_ne_zero hz)] at h;cases h
 refine⟨.inl rfl,fun j r h=>?_,fun a b x y hab hx hy=>?_⟩
 ·rcases cases_ j r h with h | ⟨-,rfl⟩
  ·exact (R.rows j r h).app
  ·exact new
 ·rcases cases_ a x hx with hx | ⟨ea,rfl⟩ <;> rcases cases_ b y hy with hy | ⟨eb,rfl⟩
  ·exact R.nd a b x y hab hx hy
  ·exact Nat.ne_of_lt (R.rows a x hx).lt
  ·exact Ne.symm (Nat.ne_of_lt (R.rows b y hy).lt)
  ·exact absurd (ea.trans eb.symm) hab
theorem W9 {s:Int}(h:s=4∨s=5)(q:s=0∨s=1∨s=2):False:=by lia
theorem Od {lo:Int}{oct:List V}{l:List Row}{k:Nat}{r:Row}{i m sp:Int}(R:Al lo oct .dp l)(hk:l[k]?=some r)(ho:oct[r.k]?=some (.int i))(h1:lo≤i)(h2:i≤lo+3)(hm:0≤m∧m≤10)(hsp:sp=4∨sp=5):
  Al lo (oct.set r.k (.int (i+m))) .dp (l.set k { r with st:=sp }):=by
 have hkl:=(List.getElem?_eq_some_iff.mp hk).1
 have hol:=(List.getElem?_eq_some_iff.mp ho).1
 have cases_:∀(j:Nat) (a:Row),(l.set k { r with st:=sp })[j]?=some a→(j≠k∧l[j]?=some a)∨(j=k∧a={ r with st:=sp }):=fun j a h=>by
  rw [List.getElem?_set] at h
  by_cases e:k=j
  ·subst e
   rw [if_pos rfl,if_pos hkl] at h
   cases h;exact .inr ⟨rfl,rfl⟩
  ·rw [if_neg e] at h;exact .inl ⟨fun q=>e q.symm,h⟩
 refine⟨.inl rfl,fun j a h=>?_,fun a b x y hab hx hy=>?_⟩
 ·rcases cases_ j a h with ⟨ne,h⟩ | ⟨-,rfl⟩
  ·obtain⟨hs,i',e,q⟩:=R.rows j a h
   refine⟨hs,i',?_,q⟩
   rw [List.getElem?_set,if_neg (R.nd k j r a (Ne.symm ne) hk h)]
   exact e
  ·refine⟨.inr (.inr (.inr (.inr hsp))),i+m,?_,Int.le_trans h1 (Int.le_add_of_nonneg_right hm.1),Int.le_trans (Int.add_le_add h2 hm.2) (Int.le_of_eq (Int.add_assoc lo 3 10)),fun q=>?_⟩
   ·show (oct.set r.k _)[r.k]?=_
    rw [List.getElem?_set,if_pos rfl,if_pos hol]
   ·exact (W9 hsp q).elim
 ·rcases cases_ a x hx with ⟨-,hx⟩ | ⟨ea,rfl⟩ <;> rcases cases_ b y hy with ⟨-,hy⟩ | ⟨eb,rfl⟩
  ·exact R.nd a b x y hab hx hy
  ·exact R.nd a k x r (eb▸hab) hx hk
  ·exact R.nd k b r y (ea▸hab) hk hy
  ·exact absurd (ea.trans eb.symm) hab
theorem K8 {lo:Int}{oct:List V}{k:Nat}{i x:Int}(ho:oct[k]?=some (.int i))(h1:lo≤i)(h2:i≤lo+3):Frame lo oct (oct.set k (.int x)):=
 ⟨by rw [List.length_set];exact Nat.le_refl _,fun j v h n=>by
  rw [List.getElem?_set]
  by_cases e:k=j
  ·subst e
   rw [ho] at h;cases h
   exact absurd (n i rfl) fun q=>q.elim (Int.not_lt.2 h1) (Int.not_lt.2 h2)
  ·rw [if_neg e];exact h⟩
theorem jd {lo i m:Int}(h:0≤lo)(q:lo≤i)(hm:0≤m):0≤i+m:=Int.add_nonneg (Int.le_trans h q) hm
theorem iW {lo i m:Int}(h:lo+13 < 256)(q:i≤lo+3)(hm:m≤10):i+m < 256:=Int.lt_of_le_of_lt (Int.le_trans (Int.add_le_add q hm) (Int.le_of_eq (Int.add_assoc lo 3 10))) h
theorem Qf {oct:List V}{k:Nat}{i:Int}(h:BO oct)(h1:0≤i)(h2:i < 256):BO (oct.set k (.int i)):=fun x hx=>by
 rcases List.mem_or_eq_of_mem_set hx with q | q
 ·exact h x q
 ·exact⟨i,q,h1,h2⟩
theorem Md {l:List Row}{k:Nat}{u:Int}{j:Nat}{a:Row}(h:(l.take (k+1)++(l.drop (k+1)).map (NC u))[j]?=some a):∃r,l[j]?=some r∧(a=r∨a=NC u r):=by
 by_cases hj:j < (l.take (k+1)).length
 ·rw [List.getElem?_append_left hj,List.getElem?_take] at h
  split at h
  ·exact⟨a,h,.inl rfl⟩
  ·cases h
 ·rw [List.getElem?_append_right (Nat.le_of_not_lt hj),List.getElem?_map,List.getElem?_drop] at h
  obtain⟨r,e,rfl⟩:=Option.map_eq_some_iff.mp h
  rw [List.length_take] at e hj
  rcases Nat.le_total (k+1) l.length with hk | hk
  ·rw [Nat.min_eq_left hk] at e hj
   rw [XE hj] at e
   exact⟨r,e,.inr rfl⟩
  ·rw [List.getElem?_eq_none (Nat.le_add_right_of_le hk)] at e;cases e
theorem Ut {lo:Int}{oct:List V}{l:List Row}{k:Nat}{u:Int}(R:Al lo oct .dp l):Al lo oct .dp (l.take (k+1)++(l.drop (k+1)).map (NC u)):=by
 refine⟨.inl rfl,fun j a h=>?_,fun a b x y hab hx hy=>?_⟩
 ·obtain⟨r,e,q⟩:=Md h
  have Z:=R.rows j r e
  rcases q with rfl | rfl
  ·exact Z
  ·obtain⟨hs,i,e,h1,h2,h3⟩:=Z
   have b:=Wh (u:=u) hs
   exact⟨b.1,i,e,h1,h2,fun q=>h3 (b.2 q)⟩
 ·obtain⟨r,e,q⟩:=Md hx
  obtain⟨r',e',q'⟩:=Md hy
  have:=R.nd a b r r' hab e e'
  rcases q with rfl | rfl <;> rcases q' with rfl | rfl <;> exact this
theorem Al.sts {lo:Int}{oct:List V}{o:O}{l:List Row}(R:Al lo oct o l):∀r∈l,r.st=0∨r.st=1∨r.st=2∨r.st=3∨r.st=4∨r.st=5:=fun r hr=>by
 obtain⟨j,hj⟩:=List.mem_iff_getElem?.mp hr
 exact (R.rows j r hj).1
inductive Mv (lo size:Int)(o:O)(l:List Row)(oct:List V):Prop
 | mk (l':List Row) (oct':List V) (R:Al lo oct' .dp l') (B:BO oct') (F:Frame lo oct oct') (n1:oct'.length≤oct.length+5) (n2:oct.length < oct'.length) (n3:l'.length≤l.length+1)
  (run:∀{n:Nat} {K:V→List V→Prop},4≤n→K .none [AM lo .dp l',.lst .sh oct']→AG TT n 66 [AM lo o l,.lst .sh oct,.int size] K):Mv lo size o l oct
theorem Sy {lo size:Int}{o:O}{l:List Row}{oct:List V}(R:Al lo oct o l)(hB:BO oct)(hlo:0≤lo∧lo+13 < 256)(hl:l.length+2≤1000000)(hol:oct.length+10≤1000000):
  Mv lo size o l oct:=by
 have rws:∀r∈l,D9 lo oct r:=fun r hr=>by
  obtain⟨j,hj⟩:=List.mem_iff_getElem?.mp hr
  exact R.rows j r hj
 obtain⟨out,ook,H⟩:=cK (plain:=lo) (size:=size) (o:=o) (l:=l) (oct:=oct) (fun ne=>by rcases R.ho with h | ⟨-,h⟩;exact h;exact absurd h ne) rws (by lia)
 have tail:∀(l1:List Row) (oct1:List V) (k:Nat) (r:Row),Al lo oct1 .dp l1→BO oct1→Frame lo oct oct1→l1[k]?=some r→(r.st=4∨r.st=5)→l1.length=l.length→oct1.length=oct.length→
   (∀{n:Nat} {K:V→List V→Prop},1≤n→K (.int k) [AM lo .dp l1,.lst .sh oct1]→AG TT n 67 [AM lo o l,.lst .sh oct,.int size] K)→
   Mv lo size o l oct:=fun l1 oct1 k r R1 B1 F1 hk hu el eo H1=>by
  obtain⟨x,ex,x0,x13⟩:∃x:Int,x=(if r.st=4 then 4 else 9)∧0≤x∧x≤13:=by
   rcases hu with h | h <;> rw [h] <;> exact⟨_,rfl,by decide,by decide⟩
  obtain⟨b,eb⟩:∃b,b=lo+x:=⟨_,rfl⟩
  have hb1:lo≤b:=eb▸Int.le_add_of_nonneg_right x0
  have hb2:b≤lo+13:=eb▸Int.add_le_add_left x13 lo
  rw [ex] at eb
  refine⟨F9 l1 k r.st size oct1.length,oct1++[.int b],?_,B1.app (BO.one (Int.le_trans hlo.1 hb1) (Int.lt_of_le_of_lt hb2 hlo.2)),F1.trans (Frame.app _ _ _),by rw [List.length_append,eo];exact Nat.add_le_add_left (by decide:1≤5) _,by rw [List.length_append,eo];exact Nat.lt_succ_self _,?_,fun {n K} hn h=>?_⟩
  ·unfold F9
   exact Oo (Ut R1) (by simp) rfl hb1 hb2 (.inr (.inr (.inr (.inr hu)))) (fun q=>(W9 hu q).elim)
  ·unfold F9
   rw [List.length_append,Qm,el];exact Nat.le_refl _
  ·refine FC hn fun n hn=>?_
   refine⟨rfl,fun v v2=>H1 (fe hn rfl) ⟨rfl,⟨rfl,Us (fe hn rfl) hk rfl hu R1.sts (el▸hl) (Nat.le_trans (eo▸Nat.add_le_add_left (by decide:2≤10) _) hol) ?_⟩⟩⟩
   rw [←eb];exact h
 cases out with
 | miss=>
  obtain⟨r,h1,h4,S⟩:=Mb size
  refine⟨l++[⟨size,oct.length,0⟩],oct++.int (lo+r - 1)::BG size r,?_,?_,Frame.app _ _ _,by simp [AU];lia,by simp,by simp,fun {n K} hn h=>?_⟩
  ·exact Oo R (by simp) rfl (by lia) (by lia) (.inl rfl) (fun _=>by lia)
  ·exact hB.app ((BO.one (i:=lo+r - 1) (by lia) (by lia)).app (Ai _ _))
  ·refine FC hn fun n hn=>?_
   exact⟨rfl,fun v v2=>H (fe hn rfl) ⟨rfl,⟨rfl,RW (R.ho.imp id And.left) hl (fun {K} k=>S (fe hn rfl) (Nat.le_trans (Nat.add_le_add_left (by decide) _) (Nat.le_trans hol (by decide))) k) h⟩⟩⟩
 | old k=>
  obtain⟨r,hk,hu⟩:=ook
  obtain rfl:o=.dp:=by
   rcases R.ho with h | ⟨-,h⟩
   ·exact h
   ·subst h;cases hk
  exact tail l oct k r R hB (Frame.refl _ _) hk hu rfl rfl fun {n K} hn h=>H hn h
 | one k=>
  obtain⟨r,hk,hu⟩:=ook
  obtain rfl:o=.dp:=by
   rcases R.ho with h | ⟨-,h⟩
   ·exact h
   ·subst h;cases hk
  obtain⟨hs,i,e,q1,q2,q3⟩:=R.rows k r hk
  have q4:=q3 (hu.imp id .inl)
  have hkl:=(List.getElem?_eq_some_iff.mp hk).1
  exact tail (l.set k { r with st:=4 }) (oct.set r.k (.int (i+5))) k { r with st:=4 } (Od R hk e q1 q4 (by decide) (.inl rfl)) (Qf hB (jd hlo.1 q1 (by decide)) (iW hlo.2 q4 (by decide))) (K8 e q1 q4) (by rw [List.getElem?_set,if_pos rfl,if_pos hkl]) (.inl rfl) (List.length_set ..) (List.length_set ..) fun {n K} hn h=>H hn fun r' i' e1 e2=>by
   rw [hk] at e1;cases e1
   rw [e] at e2;cases e2
   exact h
 | two k=>
  obtain⟨r,hk,hu⟩:=ook
  obtain rfl:o=.dp:=by
   rcases R.ho with h | ⟨-,h⟩
   ·exact h
   ·subst h;cases hk
  obtain⟨hs,i,e,q1,q2,q3⟩:=R.rows k r hk
  have q4:=q3 (hu.imp id .inr)
  have hkl:=(List.getElem?_eq_some_iff.mp hk).1
  exact tail (l.set k { r with st:=5 }) (oct.set r.k (.int (i+10))) k { r with st:=5 } (Od R hk e q1 q4 (by decide) (.inr rfl)) (Qf hB (jd hlo.1 q1 (by decide)) (iW hlo.2 q4 (by decide))) (K8 e q1 q4) (by rw [List.getElem?_set,if_pos rfl,if_pos hkl]) (.inr rfl) (List.length_set ..) (List.length_set ..) fun {n K} hn h=>H hn fun r' i' e1 e2=>by
   rw [hk] at e1;cases e1
   rw [e] at e2;cases e2
   exact h
structure PS where
 oct:List V
 fo:List (Int×V)
 h:Int
 v:Int
 font:Int
 deep:Int
 ao:O
 ac:List Row
 bo:O
 dn:List Row
noncomputable def AL (p:PS):V:=.obj true 10 [(4,.lst .sh p.oct),(44,.dct true p.fo),(12,.int 5),(41,.int p.h),(40,.int p.v),(24,.int p.font),(45,AM 143 p.ao p.ac),(46,AM 157 p.bo p.dn),(47,.int p.deep)]
structure Good (a:Addr)(N:Nat)(p:PS):Prop where
 byt:BO p.oct
 ra:Al 143 p.oct p.ao p.ac
 rd:Al 157 p.oct p.bo p.dn
 fo:p.fo=[]∨p.fo=[(1,BV a)]
 no:p.oct.length≤N
 na:p.ac.length≤N
 nd:p.dn.length≤N
 dp:0≤p.deep∧p.deep≤5
theorem Good.mono {a:Addr}{N M:Nat}{p:PS}(G:Good a N p)(h:N≤M):Good a M p:={ G with no:=Nat.le_trans G.no h,na:=Nat.le_trans G.na h,nd:=Nat.le_trans G.nd h }
noncomputable def Dk (p p':PS):Prop:=p.oct.length≤p'.oct.length∧∀k:Nat,p.oct[k]?=some (.int 141)→p'.oct[k]?=some (.int 141)
theorem Dk.refl (p:PS):Dk p p:=⟨Nat.le_refl _,fun _ h=>h⟩
theorem Dk.trans {p q r:PS}(x:Dk p q)(y:Dk q r):Dk p r:=⟨Nat.le_trans x.1 y.1,fun k h=>y.2 k (x.2 k h)⟩
theorem Dk.frame {lo:Int}{p p':PS}(h:141 < lo)(f:Frame lo p.oct p'.oct):Dk p p':=⟨f.1,fun k e=>f.2 k _ e fun i q=>by cases q;lia⟩
inductive Ct (a:Addr)(N:Nat)(p:PS)(R:PS→Prop):Prop
 | mk (p':PS) (G:Good a N p') (E:Dk p p') (r:R p'):Ct a N p R
theorem Al.app {lo:Int}{oct d:List V}{o:O}{l:List Row}(R:Al lo oct o l):Al lo (oct++d) o l:=⟨R.ho,fun j r h=>(R.rows j r h).app,R.nd⟩
theorem Ea {a:Addr}{N:Nat}{p:PS}{h:Int}(G:Good a N p)(hN:N+20≤1000000)(hh:h.natAbs≤1073741823):Ct a (N+5) p fun p'=>∀{n:Nat} {K:V→List V→Prop},6≤n→K .none [AL p']→AG TT n 70 [AL p,.int h] K:=by
 by_cases e:h=p.h
 ·refine⟨p,G.mono (Nat.le_add_right N 5),Dk.refl p,fun {n K} hn k=>Bc hn fun n hn=>?_⟩
  refine BS (fe hn rfl) hh ?_
  refine Aq (show (!decide (h=p.h))=false by rw [decide_eq_true e];rfl) ?_
  exact k
 ·obtain⟨l',oct',R,B,F,L1,L2,L3,run⟩:=Sy (size:=h - p.h) G.ra G.byt (by decide) (Nat.le_trans (Nat.add_le_add G.na (by decide:2≤20)) hN) (Nat.le_trans (Nat.add_le_add G.no (by decide:10≤20)) hN)
  refine⟨{ p with oct:=oct',ao:=.dp,ac:=l',h:=h },⟨B,R,G.rd.frame F (by decide),G.fo,Nat.le_trans L1 (Nat.add_le_add_right G.no 5),Nat.le_trans L3 (Nat.add_le_add G.na (by decide:1≤5)),Nat.le_add_right_of_le G.nd,G.dp⟩,Dk.frame (lo:=143) (by decide) F,
   fun {n K} hn k=>Bc hn fun n hn=>?_⟩
  refine BS (fe hn rfl) hh ?_
  refine BE (show (!decide (h=p.h))=true by rw [decide_eq_false e];rfl) ?_
  refine⟨rfl,?_⟩
  intro v v2
  exact run (fe hn rfl) ⟨rfl,⟨rfl,⟨rfl,k⟩⟩⟩
theorem HB {a:Addr}{N:Nat}{p:PS}{h:Int}(G:Good a N p)(hN:N+20≤1000000)(hh:h.natAbs≤1073741823):Ct a (N+5) p fun p'=>∀{n:Nat} {K:V→List V→Prop},6≤n→K .none [AL p']→AG TT n 71 [AL p,.int h] K:=by
 by_cases e:h=p.v
 ·refine⟨p,G.mono (Nat.le_add_right N 5),Dk.refl p,fun {n K} hn k=>Br hn fun n hn=>?_⟩
  refine BS (fe hn rfl) hh ?_
  refine Aq (show (!decide (h=p.v))=false by rw [decide_eq_true e];rfl) ?_
  exact k
 ·obtain⟨l',oct',R,B,F,L1,L2,L3,run⟩:=Sy (size:=h - p.v) G.rd G.byt (by decide) (Nat.le_trans (Nat.add_le_add G.nd (by decide:2≤20)) hN) (Nat.le_trans (Nat.add_le_add G.no (by decide:10≤20)) hN)
  refine⟨{ p with oct:=oct',bo:=.dp,dn:=l',v:=h },⟨B,G.ra.frame F (by decide),R,G.fo,Nat.le_trans L1 (Nat.add_le_add_right G.no 5),Nat.le_add_right_of_le G.na,Nat.le_trans L3 (Nat.add_le_add G.nd (by decide:1≤5)),G.dp⟩,Dk.frame (lo:=157) (by decide) F,
   fun {n K} hn k=>Br hn fun n hn=>?_⟩
  refine BS (fe hn rfl) hh ?_
  refine BE (show (!decide (h=p.v))=true by rw [decide_eq_false e];rfl) ?_
  refine⟨rfl,?_⟩
  intro v v2
  exact run (fe hn rfl) ⟨rfl,⟨rfl,⟨rfl,k⟩⟩⟩
noncomputable def PS.add (p:PS)(d:List V):PS:={ p with oct:=p.oct++d }
theorem Good.add {a:Addr}{N:Nat}{p:PS}{d:List V}(G:Good a N p)(hd:BO d){m:Nat}(hm:d.length≤m):Good a (N+m) (p.add d):=
 ⟨G.byt.app hd,G.ra.app,G.rd.app,G.fo,List.length_append▸Nat.add_le_add G.no hm,Nat.le_add_right_of_le G.na,Nat.le_add_right_of_le G.nd,G.dp⟩
theorem Dk.add (p:PS)(d:List V):Dk p (p.add d):=⟨by show p.oct.length≤(p.oct++d).length;rw [List.length_append];exact Nat.le_add_right _ _,fun k e=>by
 show (p.oct++d)[k]?=_
 rw [List.getElem?_append_left (List.getElem?_eq_some_iff.mp e).1];exact e⟩
theorem Qo {n:Nat}{a:Addr}{p:PS}{u:V}{K:V→List V→Prop}(hl:p.oct.length+10≤1000000)(h1:p.font=1→K .none [AL p])(h2:p.font≠1→K .none [AL { p.add [.int 172] with font:=1 }]):
  Aj TT (AG TT n) (.cons (.ifs (.cmp .ne (.a 1 14) (.a 0 24)) (.cons (.ifs (.cmp .lt (.a 1 14) (.int 64)) (.cons (.append (.attr (.var 0) 4) (.bin .add (.glob 75) (.a 1 14))) .nil) (.cons (.expr (.call 22 (.bor (.attr (.var 0) 4) (.val (.glob 76) (.val (.a 1 14) .nil))))) .nil)) (.cons (.setattr (.var 0) 24 (.a 1 14)) .nil)) .nil) .nil) [AL p,BV a,u] (Bp [0] K):=by
 by_cases e:(1:Int)=p.font
 ·refine Aq (show (!decide ((1:Int)=p.font))=false by rw [decide_eq_true e];rfl) ?_
  exact h1 e.symm
 ·refine BE (show (!decide ((1:Int)=p.font))=true by rw [decide_eq_false e];rfl) ?_
  intro v
  refine⟨by lia,?_⟩
  refine⟨rfl,?_⟩
  refine⟨rfl,?_⟩
  exact h2 fun q=>e q.symm
theorem UX {a:Addr}{N:Nat}{p:PS}(G:Good a N p)(hN:N+60≤1000000):Ct a (N+20) p fun p'=>∀{n:Nat} {K:V→List V→Prop},5≤n→K .none [AL p']→AG TT n 72 [AL p,BV a] K:=by
 obtain⟨ds,hb,hl,D⟩:=FG
 have no:=G.no
 have key:∀p1:PS,Good a (N+18) p1→Dk p p1→(∀{n:Nat} {K:V→List V→Prop},4≤n→(∀u,Aj TT (AG TT n) (.cons (.ifs (.cmp .ne (.a 1 14) (.a 0 24)) (.cons (.ifs (.cmp .lt (.a 1 14) (.int 64)) (.cons (.append (.attr (.var 0) 4) (.bin .add (.glob 75) (.a 1 14))) .nil) (.cons (.expr (.call 22 (.bor (.attr (.var 0) 4) (.val (.glob 76) (.val (.a 1 14) .nil))))) .nil)) (.cons (.setattr (.var 0) 24 (.a 1 14)) .nil)) .nil) .nil) [AL p1,BV a,u] (Bp [0] K))→Aj TT (AG TT n) BN [AL p,BV a,.undef] (Bp [0] K))→
   Ct a (N+20) p fun p'=>∀{n:Nat} {K:V→List V→Prop},5≤n→K .none [AL p']→AG TT n 72 [AL p,BV a] K:=fun p1 G1 E1 run=>by
  have n1:=G1.no
  by_cases e:p1.font=1
  ·refine⟨p1,G1.mono (Nat.le_add_right _ 2),E1,fun {n K} hn k=>?_⟩
   refine B8 hn fun n hn=>?_
   refine run (fe hn rfl) fun u=>?_
   exact Qo (by lia) (fun _=>k) (fun q=>absurd e q)
  ·refine⟨{ p1.add [.int 172] with font:=1 },?_,E1.trans (Dk.add p1 [.int 172]),fun {n K} hn k=>?_⟩
   rotate_left
   ·refine B8 hn fun n hn=>?_
    refine run (fe hn rfl) fun u=>?_
    exact Qo (by lia) (fun q=>absurd q e) (fun _=>k)
   have:=G1.add (d:=[.int 172]) (BO.one (by decide) (by decide)) (m:=1) (Nat.le_refl _)
   refine Good.mono (N:=N+18+1) ?_ (Nat.le_add_right _ 1)
   exact⟨this.byt,this.ra,this.rd,this.fo,this.no,this.na,this.nd,this.dp⟩
 rcases G.fo with ef | ef
 ·have G1:=G.add hb (Nat.le_of_eq hl)
  refine key { p.add ds with fo:=[(1,BV a)] } ⟨G1.byt,G1.ra,G1.rd,.inr rfl,G1.no,G1.na,G1.nd,G1.dp⟩ (Dk.add p ds) fun {n K} hn run=>?_
  have ep:AL p=.obj true 10 [(4,.lst .sh p.oct),(44,.dct true []),(12,.int 5),(41,.int p.h),(40,.int p.v),(24,.int p.font),(45,AM 143 p.ao p.ac),(46,AM 157 p.bo p.dn),(47,.int p.deep)]:=by unfold AL;rw [ef]
  rw [ep]
  intro v
  refine⟨rfl,?_⟩
  intro v
  refine D (by lia) (by lia) ?_
  refine⟨rfl,?_⟩
  refine⟨by decide,?_⟩
  exact run .none
 ·refine key p (G.mono (Nat.le_add_right _ 18)) (Dk.refl p) fun {n K} hn run=>?_
  have ep:AL p=.obj true 10 [(4,.lst .sh p.oct),(44,.dct true [(1,BV a)]),(12,.int 5),(41,.int p.h),(40,.int p.v),(24,.int p.font),(45,AM 143 p.ao p.ac),(46,AM 157 p.bo p.dn),(47,.int p.deep)]:=by unfold AL;rw [ef]
  have run:=run (BV a)
  rw [ep] at run ⊢
  intro v
  refine⟨rfl,?_⟩
  refine⟨rfl,?_⟩
  exact run
theorem Al.take {lo:Int}{oct:List V}{o:O}{l:List Row}(R:Al lo oct o l)(m:Nat):Al lo oct o (l.take m):=by
 have g:∀(j:Nat) (r:Row),(l.take m)[j]?=some r→l[j]?=some r:=fun j r h=>by
  rw [List.getElem?_take] at h
  split at h
  ·exact h
  ·cases h
 exact⟨R.ho.imp id fun h=>⟨h.1,by rw [h.2,List.take_nil]⟩,fun j r h=>R.rows j r (g j r h),fun i j a b hij h1 h2=>R.nd i j a b hij (g i a h1) (g j b h2)⟩
noncomputable abbrev TB:E:=.and (.cmp .gt (.lenP (.attr (.var 0) 43)) (.int 0)) (.cmp .ge (.rd (.at_ (.at_ (.attr (.var 0) 43) (.lit (-1))) (.lit 1))) (.v 1))
theorem O3 {l:List Row}{r:Row}:Qb ((l++[r]).map rowV) (-1)=some (rowV r):=by
 show (if 0+1≤((l++[r]).map rowV).length then ((l++[r]).map rowV)[((l++[r]).map rowV).length - (0+1)]? else none)=_
 rw [if_pos (by simp),List.getElem?_map]
 simp
theorem JE {plain begin_:Int}{o:O}(ho:o=.dp∨o=.sh):∀(m:Nat) (l:List Row),l.length=m→∃j,∀{n:Nat} {K:Fl→List V→Prop},K .next [AM plain o (l.take j),.int begin_]→JY (WE TT (AG TT n) TB) (Aj TT (AG TT n) (.cons (.pop (.attr (.var 0) 43)) .nil)) (m+1) [AM plain o l,.int begin_] K
 | 0,l,e=>by
  obtain rfl:=List.length_eq_zero_iff.mp e
  refine⟨0,fun {n K} h=>?_⟩
  exact h
 | m+1,l,e=>by
  obtain⟨l0,r,rfl⟩:∃l0 r,l=l0++[r]:=by
   rcases List.eq_nil_or_concat l with h | ⟨l0,r,h⟩
   ·subst h;cases e
   ·exact⟨l0,r,by rw [h];simp⟩
  have el:l0.length=m:=by simpa using e
  obtain⟨s,k,st⟩:=r
  by_cases c:begin_≤(k:Int)
  ·obtain⟨j,H⟩:=JE (plain:=plain) (begin_:=begin_) ho m l0 el
   refine⟨min j m,fun {n K} h=>?_⟩
   refine BE (decide_eq_true (by simp)) ?_
   refine Jf (Φ:=AG TT n) (i:=k) ?_ ?_
   ·exact Gf (x:=.lst .sh [.int s,.int k,.int st]) (Gf (x:=.lst o ((l0++[(⟨s,k,st⟩:Row)]).map rowV)) rfl (O3 (l:=l0) (r:=⟨s,k,st⟩))) rfl
   refine BE (decide_eq_true c) ?_
   have dl:((l0++[(⟨s,k,st⟩:Row)]).map rowV).dropLast=l0.map rowV:=by rw [List.map_append];exact List.dropLast_concat
   have tk:(l0++[(⟨s,k,st⟩:Row)]).take (min j m)=l0.take j:=by
    rw [List.take_append_of_le_length (by lia),←el,←List.take_take,List.take_length]
   rw [tk] at h
   have ow:FN (.lst o ((l0++[(⟨s,k,st⟩:Row)]).map rowV))=true:=by rcases ho with rfl | rfl <;> rfl
   refine⟨ow,by simp,?_⟩
   have fin:JY (WE TT (AG TT n) TB) (Aj TT (AG TT n) (.cons (.pop (.attr (.var 0) 43)) .nil)) (m+1) [.obj true 9 [(42,.int plain),(43,.lst o ((l0++[(⟨s,k,st⟩:Row)]).map rowV).dropLast)],.int begin_] K:=by
    rw [dl];exact H h
   exact fin
  ·refine⟨m+1,fun {n K} h=>?_⟩
   refine BE (decide_eq_true (by simp)) ?_
   refine Jf (Φ:=AG TT n) (i:=k) ?_ ?_
   ·exact Gf (x:=.lst .sh [.int s,.int k,.int st]) (Gf (x:=.lst o ((l0++[(⟨s,k,st⟩:Row)]).map rowV)) rfl (O3 (l:=l0) (r:=⟨s,k,st⟩))) rfl
   refine Aq (decide_eq_false c) ?_
   rw [List.take_of_length_le (by simp;lia)] at h
   exact h
theorem Qu (plain begin_:Int){o:O}(ho:o=.dp∨o=.sh)(l:List Row):∃j,∀{n:Nat} {K:V→List V→Prop},1≤n→K .none [AM plain o (l.take j)]→AG TT n 65 [AM plain o l,.int begin_] K:=by
 obtain⟨j,H⟩:=JE (plain:=plain) (begin_:=begin_) ho l.length l rfl
 exact⟨j,fun {n K} hn h=>Jk hn fun n hn=>⟨_,H h⟩⟩
theorem SS {p:PS}{n:Nat}{d:Int}{K:V→List V→Prop}(hn:1≤n)(hd:0≤d)(hd5:d≤5)(hl:p.oct.length+10≤1000000)(h0:d=0→K (.int p.oct.length) [AL p])(h1:0 < d→K (.int (p.add [.int 141]).oct.length) [AL (p.add [.int 141])]):AG TT n 68 [AL p,.int d] K:=by
 refine FS hn fun n hn=>?_
 refine Aq (decide_eq_false (show ¬ ((5:Int) < d) by lia)) ?_
 by_cases e:0 < d
 ·refine BE (decide_eq_true e) ?_
  intro v
  refine⟨by lia,?_⟩
  refine⟨rfl,?_⟩
  exact h1 e
 ·refine Aq (decide_eq_false e) ?_
  exact h0 (by lia)
theorem V3 {a:Addr}{N:Nat}{p:PS}(G:Good a N p)(hN:N+20≤1000000){b:Nat}{d:Int}(hd:0≤d)(hd5:d≤5)(hb:0 < d→1≤b∧b≤p.oct.length∧p.oct[b - 1]?=some (.int 141)):∃p',Good a (N+5) p'∧(d=0∧p'.oct=p.oct∨0 < d∧p'.oct=p.oct++[.int 142]∨0 < d∧p.oct.length=b∧p'.oct=p.oct.dropLast)∧
  ∀{n:Nat} {K:V→List V→Prop},3≤n→K .none [AL p']→AG TT n 69 [AL p,.int b,.int d] K:=by
 obtain⟨j1,H1⟩:=Qu 143 b (o:=p.ao) (G.ra.ho.imp id And.left) p.ac
 obtain⟨j2,H2⟩:=Qu 157 b (o:=p.bo) (G.rd.ho.imp id And.left) p.dn
 have G1:Good a N { p with ac:=p.ac.take j1,dn:=p.dn.take j2 }:=⟨G.byt,G.ra.take j1,G.rd.take j2,G.fo,G.no,List.length_take▸XW G.na,List.length_take▸XW G.nd,G.dp⟩
 have no:=G.no
 have go:∀{n:Nat} {K:V→List V→Prop},3≤n→(∀n,n≥2→Aj TT (AG TT n) (.cons (.ifs (.and (.cmp .gt (.v 2) (.int 0)) (.cmp .eq (.lenP (.attr (.var 0) 4)) (.v 1))) (.cons (.pop (.attr (.var 0) 4)) .nil) (.cons (.ifs (.cmp .gt (.v 2) (.int 0)) (.cons (.append (.attr (.var 0) 4) (.glob 74)) (.cons (.setattr (.var 0) 47 (.prim .max2 (.cons (.a 0 47) (.cons (.v 2) .nil)))) .nil)) .nil) .nil)) .nil) [AL { p with ac:=p.ac.take j1,dn:=p.dn.take j2 },.int b,.int d] (Bp [0] K))→AG TT n 69 [AL p,.int b,.int d] K:=fun {n K} hn k=>by
  refine Et hn fun n hn=>?_
  refine⟨rfl,?_⟩
  intro v
  exact H1 (fe hn rfl) ⟨rfl,⟨rfl,fun v=>H2 (fe hn rfl) ⟨rfl,k n hn⟩⟩⟩
 by_cases e:0 < d
 ·by_cases e2:(p.oct.length:Int)=b
  ·obtain⟨hb1,hb2,hb3⟩:=hb e
   have el:p.oct.length=b:=Int.ofNat.inj e2
   have ne:p.oct≠[]:=fun q=>by rw [q] at el;subst el;cases hb1
   have lt:∀{lo:Int} {o:O} {l:List Row},141 < lo→Al lo p.oct o l→Al lo p.oct.dropLast o l:=fun {lo o l} hlo R=>⟨R.ho,fun j r h=>by
    obtain⟨hs,i,e0,q⟩:=R.rows j r h
    refine⟨hs,i,?_,q⟩
    have l1:=(List.getElem?_eq_some_iff.mp e0).1
    have:r.k≠b - 1:=fun q'=>by rw [q',hb3] at e0;cases e0;lia
    rw [List.getElem?_dropLast,if_pos (Nat.lt_of_le_of_ne (Nat.le_sub_one_of_lt l1) (el▸this))];exact e0,R.nd⟩
   refine⟨{ p with oct:=p.oct.dropLast,ac:=p.ac.take j1,dn:=p.dn.take j2 },?_,.inr (.inr ⟨e,Int.ofNat.inj e2,rfl⟩),fun {n K} hn h=>go hn fun n hn=>?_⟩
   ·refine Good.mono (N:=N) ⟨fun x hx=>G.byt x (List.dropLast_subset _ hx),lt (by decide) (G.ra.take j1),lt (by decide) (G.rd.take j2),G.fo,List.length_dropLast▸Nat.le_trans (Nat.sub_le _ 1) no,G1.na,G1.nd,G.dp⟩ (Nat.le_add_right N 5)
   ·refine BE (decide_eq_true e) ?_
    refine BE (decide_eq_true e2) ?_
    refine⟨rfl,ne,?_⟩
    exact h
  ·refine⟨{ p with oct:=p.oct++[.int 142],ac:=p.ac.take j1,dn:=p.dn.take j2,deep:=max p.deep d },?_,.inr (.inl ⟨e,rfl⟩),fun {n K} hn h=>go hn fun n hn=>?_⟩
   ·have G2:=G1.add (d:=[.int 142]) (BO.one (by decide) (by decide)) (m:=5) (by decide)
    exact⟨G2.byt,G2.ra,G2.rd,G2.fo,G2.no,G2.na,G2.nd,⟨Int.le_trans G.dp.1 (Int.le_max_left _ _),Int.max_le.2 ⟨G.dp.2,hd5⟩⟩⟩
   ·refine BE (decide_eq_true e) ?_
    refine Aq (decide_eq_false e2) ?_
    refine BE (decide_eq_true e) ?_
    intro v
    refine⟨Nat.lt_of_le_of_lt (Nat.le_trans (Nat.le_add_right_of_le no) hN) (by decide),?_⟩
    refine⟨rfl,?_⟩
    refine⟨rfl,?_⟩
    exact h
 ·refine⟨{ p with ac:=p.ac.take j1,dn:=p.dn.take j2 },G1.mono (Nat.le_add_right N 5),.inl ⟨Int.le_antisymm (Int.not_lt.1 e) hd,rfl⟩,fun {n K} hn h=>go hn fun n hn=>?_⟩
  refine Aq (decide_eq_false e) ?_
  refine Aq (decide_eq_false e) ?_
  exact h
theorem au {c:Int}:Iv 12 (lw c):=by unfold lw;split <;> decide
theorem lN {c:Int}(h:c=65∨c=66):0≤c∧c≤66:=by rcases h with rfl | rfl <;> decide
theorem Sd {a:Addr}{N:Nat}{p:PS}{c h v:Int}(G:Good a N p)(hN:N+100≤1000000)(hc:c=65∨c=66)(hh:h.natAbs≤1000000000)(hv:v.natAbs≤1000000000):Ct a (N+40) p fun p'=>∀{n:Nat} {K:V→List V→Prop},8≤n→K .none [AL p']→AG TT n 73 [AL p,BV a,.int c,.int h,.int v] K:=by
 obtain⟨p1,G1,E1,H1⟩:=Ea (h:=h) G (Nat.le_trans (Nat.add_le_add_left (by decide:20≤100) N) hN) (Nat.le_trans hh (by decide))
 obtain⟨p2,G2,E2,H2⟩:=HB (h:=v) G1 (Nat.le_trans (Nat.add_le_add_left (by decide:25≤100) N) hN) (Nat.le_trans hv (by decide))
 obtain⟨p3,G3,E3,H3⟩:=UX G2 (Nat.le_trans (Nat.add_le_add_left (by decide:70≤100) N) hN)
 have n3:=G3.no
 have cc:=lN hc
 refine⟨{ p3.add [.int c] with h:=h+lw c },?_,((E1.trans E2).trans E3).trans (Dk.add p3 [.int c]),fun {n K} hn k=>?_⟩
 ·have G4:=G3.add (d:=[.int c]) (BO.one cc.1 (Int.lt_of_le_of_lt cc.2 (by decide))) (m:=1) (Nat.le_refl _)
  refine Good.mono (N:=N+5+5+20+1) ?_ (Nat.add_le_add_left (by decide:31≤40) N)
  exact⟨G4.byt,G4.ra,G4.rd,G4.fo,G4.no,G4.na,G4.nd,G4.dp⟩
 ·refine EI hn fun n hn=>?_
  refine⟨rfl,?_⟩
  refine bU (fe hn rfl) hc ?_
  refine⟨rfl,?_⟩
  intro v1
  refine H1 (fe hn rfl) ⟨rfl,⟨rfl,fun v2=>H2 (fe hn rfl) ⟨rfl,⟨rfl,fun v3=>H3 (fe hn rfl) ⟨rfl,?_⟩⟩⟩⟩⟩
  refine Aq (decide_eq_false (Int.not_le.2 (Int.lt_of_le_of_lt cc.2 (by decide)))) ?_
  exact fun v4=>⟨Nat.lt_of_le_of_lt n3 (Nat.lt_of_le_of_lt (Nat.add_le_add_left (by decide:30≤100) N) (Nat.lt_of_le_of_lt hN (by decide))),⟨rfl,⟨rfl,Qj (fe hn rfl) hc (BS (fe hn rfl) (lL hh au rfl) ⟨rfl,k⟩)⟩⟩⟩
theorem Lf {a:Addr}{N:Nat}{p:PS}{o h v:Int}(G:Good a N p)(hN:N+100≤1000000)(ho:0≤o)(ho2:o < 256)(hh:h.natAbs≤1000000000)(hv:v.natAbs≤1000000000):Ct a (N+40) p fun p'=>∀{n:Nat} {K:V→List V→Prop},8≤n→K .none [AL p']→AG TT n 74 [AL p,.bytes [o,7],.int h,.int v] K:=by
 obtain⟨p1,G1,E1,H1⟩:=Ea (h:=h) G (Nat.le_trans (Nat.add_le_add_left (by decide:20≤100) N) hN) (Nat.le_trans hh (by decide))
 obtain⟨p2,G2,E2,H2⟩:=HB (h:=v) G1 (Nat.le_trans (Nat.add_le_add_left (by decide:25≤100) N) hN) (Nat.le_trans hv (by decide))
 have n2:=G2.no
 refine⟨p2.add ([.int 239,.int (YZ 2 0)]++[.int o,.int 7]),?_,(E1.trans E2).trans (Dk.add p2 _),fun {n K} hn k=>?_⟩
 ·refine Good.mono (N:=N+5+5+4) (G2.add ?_ (Nat.le_refl 4)) (Nat.add_le_add_left (by decide:14≤40) N)
  exact ((BO.one (by decide) (by decide)).app (BO.one (C3 _).1 (C3 _).2)).app ((BO.one ho ho2).app (BO.one (by decide) (by decide)))
 ·refine Dy hn fun n hn=>?_
  refine⟨rfl,?_⟩
  intro v1
  have n2:p2.oct.length+6≤16000000:=Nat.le_trans (Nat.add_le_add_right n2 6) (Nat.le_trans (Nat.add_le_add_left (by decide:16≤100) N) (Nat.le_trans hN (by decide)))
  have k:K .none [AL { p2 with oct:=p2.oct++[.int 239,.int (YZ 2 0)]++[.int o,.int 7] }]:=by
   rw [List.append_assoc];exact k
  exact H1 (fe hn rfl) ⟨rfl,⟨rfl,fun v2=>H2 (fe hn rfl) ⟨rfl,fun v3=>FJ (fe hn rfl) (show (2:Int) < 256 by decide) (Nat.le_trans (Nat.add_le_add_left (by decide) _) n2) ⟨rfl,fun v4=>⟨by rw [List.length_append];exact Nat.le_trans (Nat.add_le_add_left (by decide:2+2≤6) _) n2,⟨rfl,k⟩⟩⟩⟩⟩⟩
mutual
inductive Bx where
 | mk (k w sh:Int) (l:Dt)
inductive Nd where
 | ltr (c:Int)
 | krn (w:Int)
 | spc (o:Int)
 | don (s i:Int)
 | skp (w sort:Int) (t:Bx)
 | sub (t:Bx)
inductive Dt where
 | nil
 | cons (x:Nd) (l:Dt)
end
noncomputable def BU (b:Bool):Nd→Bool
 | .don _ _=>!b
 | _=>true
noncomputable def Ll (w:Int):V:=.obj false 0 [(22,.int w),(17,.int 0),(36,.int 0),(16,.int 0),(37,.int 0)]
noncomputable def Ax (k w sh:Int)(l:List V):V:=.obj false 2 [(5,.int k),(22,.int w),(21,.int 20),(12,.int 5),(9,.lst .fr l),(31,.int sh),(30,.int 0),(29,.int 0),(28,.tup [.int 0,.int 1])]
noncomputable def Ww (s i:Int):V:=if s=3 then .obj false 6 [(2,.int i),(1,.tup [.tup [.int 11,.int 97],.tup [.int 0,.int 3]])] else if s=4 then .obj false 7 [(2,.int i),(3,.str [97])] else .obj false 8 [(2,.int i)]
noncomputable def Ha (q:Bool)(x y:List V):List V:=match q with | true=>x | false=>y
mutual
noncomputable def He (a:Addr)(b:Bool):Bx→V
 | .mk k w sh l=>Ax k w sh (Ba a b l)
noncomputable def D0 (a:Addr)(b:Bool):Nd→V
 | .ltr c=>.obj false 1 [(24,BV a),(23,.int c)]
 | .krn w=>.obj false 3 [(22,.int w),(0,.int 1)]
 | .spc o=>.obj false 5 [(4,.bytes [o,7])]
 | .don s i=>Ww s i
 | .skp w sort t=>.obj false 4 [(33,Ll w),(0,.int sort),(32,He a b t)]
 | .sub t=>He a b t
noncomputable def Ba (a:Addr)(b:Bool):Dt→List V
 | .nil=>[]
 | .cons x l=>Ha (BU b x) (D0 a b x::Ba a b l) (Ba a b l)
end
theorem ED (a:Addr)(b:Bool)(x:Nd)(l:Dt):Ba a b (.cons x l)=Ha (BU b x) (D0 a b x::Ba a b l) (Ba a b l):=rfl
noncomputable def Dt.len:Dt→Nat
 | .nil=>0
 | .cons _ l=>l.len+1
noncomputable def Dt.hasK:Dt→Bool
 | .nil=>false
 | .cons (.krn _) _=>true
 | .cons _ l=>l.hasK
mutual
noncomputable def Cz:Nat→Bx→Prop
 | lev,.mk k w sh l=>(k=2∨k=3)∧(w=30∨w=40∨w=0∨w=25)∧(sh=0∨sh=3∨sh=6)∧l.len≤5∧l.hasK=true∧ME lev k l
noncomputable def G9:Nat→Int→Nd→Prop
 | lev,k,.ltr c=>k=2∧(c=65∨c=66)
 | lev,k,.krn w=>-7≤w∧w≤28
 | lev,k,.spc o=>0≤o∧o < 8
 | lev,k,.don s i=>(s=3∨s=4∨s=5)∧0≤i∧i≤1000000
 | lev,k,.skp w sort t=>1≤lev∧(w=0∨w=30∨w=60)∧(sort=1∨sort=2∨sort=3)∧Cz (lev - 1) t
 | lev,k,.sub t=>1≤lev∧Cz (lev - 1) t
noncomputable def ME:Nat→Int→Dt→Prop
 | lev,k,.nil=>True
 | lev,k,.cons x l=>G9 lev k x∧ME lev k l
end
noncomputable def Gk (k:Int):Nd→Int
 | .ltr c=>lw c
 | .krn w=>w
 | .spc _=>0
 | .don _ _=>0
 | .skp w _ _=>w
 | .sub (.mk _ w _ _)=>if k=2 then w else 25
theorem CZ {n:Nat}{a:Addr}{b:Bool}{lev:Nat}{nd:Nd}{K:V→List V→Prop}(hn:3≤n)(ok:G9 lev 2 nd)(ns:∀w s t,nd≠.skp w s t)(h:K (.int (Gk 2 nd)) []):AG TT n 11 [D0 a b nd] K:=by
 cases nd with
 | ltr c=>
  refine CB hn fun n hn=>?_
  refine⟨rfl,?_⟩
  exact Qj (fe hn rfl) ok.2 h
 | krn w=>
  refine CB hn fun n hn=>?_
  exact h
 | spc o=>
  refine CB hn fun n hn=>?_
  exact h
 | don s i=>
  refine CB hn fun n hn=>?_
  rcases ok.1 with rfl | rfl | rfl
  all_goals
   exact h
 | skp w s t=>exact absurd rfl (ns w s t)
 | sub t=>
  obtain⟨k,w,sh,l⟩:=t
  refine CB hn fun n hn=>?_
  obtain⟨hk,-⟩:=ok.2
  rcases hk with rfl | rfl
  all_goals
   exact h
noncomputable def hN:Nd→Int
 | .sub _=>20
 | _=>0
noncomputable def dN:Nd→Int
 | .sub _=>5
 | _=>0
theorem EB {n:Nat}{a:Addr}{b:Bool}{lev:Nat}{nd:Nd}{K:V→List V→Prop}(hn:3≤n)(ok:G9 lev 3 nd)(ns:∀w s t,nd≠.skp w s t)(nk:∀w,nd≠.krn w)(h:K (.int (hN nd)) []):AG TT n 12 [D0 a b nd] K:=by
 cases nd with
 | ltr c=>exact absurd ok.1 (by decide)
 | krn w=>exact absurd rfl (nk w)
 | skp w s t=>exact absurd rfl (ns w s t)
 | spc o=>
  refine Db hn fun n hn=>?_
  exact h
 | don s i=>
  refine Db hn fun n hn=>?_
  rcases ok.1 with rfl | rfl | rfl
  all_goals
   exact h
 | sub t=>
  obtain⟨k,w,sh,l⟩:=t
  refine Db hn fun n hn=>?_
  obtain⟨hk,-⟩:=ok.2
  rcases hk with rfl | rfl
  all_goals
   exact h
theorem Fa {n:Nat}{a:Addr}{b:Bool}{lev:Nat}{nd:Nd}{K:V→List V→Prop}(hn:3≤n)(ok:G9 lev 3 nd)(ns:∀w s t,nd≠.skp w s t)(nk:∀w,nd≠.krn w)(h:K (.int (dN nd)) []):AG TT n 13 [D0 a b nd] K:=by
 cases nd with
 | ltr c=>exact absurd ok.1 (by decide)
 | krn w=>exact absurd rfl (nk w)
 | skp w s t=>exact absurd rfl (ns w s t)
 | spc o=>
  refine EK hn fun n hn=>?_
  exact h
 | don s i=>
  refine EK hn fun n hn=>?_
  rcases ok.1 with rfl | rfl | rfl
  all_goals
   exact h
 | sub t=>
  obtain⟨k,w,sh,l⟩:=t
  refine EK hn fun n hn=>?_
  obtain⟨hk,-⟩:=ok.2
  rcases hk with rfl | rfl
  all_goals
   exact h
theorem B9 {n:Nat}{a:Addr}{b:Bool}{lev:Nat}{k w sh:Int}{l:List V}{nd:Nd}{K:V→List V→Prop}(hn:5≤n)(hk:k=2∨k=3)(ok:G9 lev k nd)(ns:∀w s t,nd≠.skp w s t)(h:K (.int (Gk k nd)) []):AG TT n 18 [Ax k w sh l,D0 a b nd] K:=by
 refine Ly hn fun n hn=>?_
 rcases hk with rfl | rfl
 ·refine ?_
  cases nd with
  | skp w s t=>exact absurd rfl (ns w s t)
  | don s i=>
   rcases ok.1 with rfl | rfl | rfl
   all_goals
    refine CZ (nd:=.don _ i) (a:=a) (b:=b) (lev:=lev) (fe hn rfl) ok ns ?_
    exact h
  | ltr c=>exact CZ (nd:=.ltr c) (lev:=lev) (b:=b) (fe hn rfl) ok ns h
  | krn w=>exact CZ (nd:=.krn w) (a:=a) (lev:=lev) (b:=b) (fe hn rfl) ok ns h
  | spc o=>exact CZ (nd:=.spc o) (a:=a) (lev:=lev) (b:=b) (fe hn rfl) ok ns h
  | sub t=>
   obtain⟨k',w',sh',l'⟩:=t
   exact CZ (nd:=.sub (.mk k' w' sh' l')) (a:=a) (lev:=lev) (b:=b) (by lia) ok ns h
 ·refine ?_
  cases nd with
  | skp w s t=>exact absurd rfl (ns w s t)
  | ltr c=>exact absurd ok.1 (by decide)
  | krn w=>
   exact h
  | don s i=>
   rcases ok.1 with rfl | rfl | rfl
   all_goals
    refine EB (nd:=.don _ i) (a:=a) (b:=b) (lev:=lev) (fe hn rfl) ok ns (fun _ q=>by cases q) ?_
    refine Fa (nd:=.don _ i) (a:=a) (b:=b) (lev:=lev) (fe hn rfl) ok ns (fun _ q=>by cases q) ?_
    exact h
  | spc o=>
   refine EB (nd:=.spc o) (a:=a) (b:=b) (lev:=lev) (fe hn rfl) ok ns (fun _ q=>by cases q) ?_
   refine Fa (nd:=.spc o) (a:=a) (b:=b) (lev:=lev) (fe hn rfl) ok ns (fun _ q=>by cases q) ?_
   exact h
  | sub t=>
   obtain⟨k',w',sh',l'⟩:=t
   obtain⟨hk,-⟩:=id ok.2
   refine Aq (show decide (k'=5)=false by rcases hk with rfl | rfl <;> rfl) ?_
   refine EB (nd:=.sub (.mk k' w' sh' l')) (a:=a) (b:=b) (lev:=lev) (by lia) ok ns (fun _ q=>by cases q) ?_
   refine Fa (nd:=.sub (.mk k' w' sh' l')) (a:=a) (b:=b) (lev:=lev) (by lia) ok ns (fun _ q=>by cases q) ?_
   exact h
theorem Cu {n:Nat}{a:Addr}{b:Bool}{lev:Nat}{x:V}{K:Fl→List V→Prop}:∀(l:Dt) (u:V),ME lev 3 l→(∀u,K .next [x,u])→Cc (Aj TT (AG TT n) (.cons (.ifs (.or (.cmp .eq (.a 1 5) (.glob 12)) (.or (.cmp .eq (.a 1 5) (.glob 13)) (.or (.cmp .eq (.a 1 5) (.glob 8)) (.cmp .eq (.a 1 5) (.glob 21))))) (.cons .bad .nil) .nil) .nil)) (fun x σ=>σ.set 1 x) (Ba a b l) [x,u] K
 | .nil,u,_,k=>k u
 | .cons nd l,u,ok,k=>by
  have rest:=fun u=>Cu (n:=n) (a:=a) (b:=b) l u ok.2 k
  rw [ED]
  cases hk:BU b nd with
  | false=>exact rest u
  | true=>
   cases nd with
   | ltr c=>exact absurd ok.1.1 (by decide)
   | krn w=>
    exact rest _
   | spc w=>
    exact rest _
   | don s i=>
    rcases ok.1.1 with rfl | rfl | rfl
    all_goals
     exact rest _
   | skp w s t=>
    exact rest _
   | sub t=>
    obtain⟨k',w',sh',l'⟩:=t
    obtain⟨hk,-⟩:=id ok.1.2
    rcases hk with rfl | rfl
    all_goals
     exact rest _
theorem Jz {n:Nat}{a:Addr}{b:Bool}{lev:Nat}{l:Dt}{K:V→List V→Prop}(hn:1≤n)(ok:ME lev 3 l)(h:K .none []):AG TT n 15 [.lst .fr (Ba a b l)] K:=by
 refine IX hn fun n hn=>?_
 exact Cu l _ ok fun u=>h
theorem X1 {n:Nat}{k w sh w':Int}{l:List V}{K:V→List V→Prop}(hn:1≤n)(h:K (.int 0) []):AG TT n 16 [Ax k w sh l,Ll w'] K:=by
 refine WY hn fun n hn=>?_
 exact h
theorem PJ {n:Nat}{k w sh:Int}{l:List V}{K:V→List V→Prop}(hn:2≤n)(h:K (.int 0) []):AG TT n 17 [Ax k w sh l,.int 0] K:=by
 refine NX hn fun n hn=>?_
 refine⟨.inl (Ab rfl),?_⟩
 refine Ru (fe hn rfl) ?_
 exact h
noncomputable def MJ (b:Bool)(k:Int):Int→Dt→List V
 | _,.nil=>[]
 | x,.cons nd l=>Ha (BU b nd) (.int (x+Gk k nd)::MJ b k (x+Gk k nd) l) (MJ b k x l)
theorem TF (b:Bool)(k x:Int)(nd:Nd)(l:Dt):MJ b k x (.cons nd l)=Ha (BU b nd) (.int (x+Gk k nd)::MJ b k (x+Gk k nd) l) (MJ b k x l):=rfl
noncomputable def EN (a:Addr)(b:Bool)(k:Int):Int→Dt→List V
 | _,.nil=>[]
 | x,.cons nd l=>Ha (BU b nd) (.tup [D0 a b nd,.int x,.int (x+Gk k nd)]::EN a b k (x+Gk k nd) l) (EN a b k x l)
theorem Q6 (a:Addr)(b:Bool)(k x:Int)(nd:Nd)(l:Dt):EN a b k x (.cons nd l)=Ha (BU b nd) (.tup [D0 a b nd,.int x,.int (x+Gk k nd)]::EN a b k (x+Gk k nd) l) (EN a b k x l):=rfl
noncomputable abbrev KB:Ss:=(.cons (.ifs (.cmp .eq (.a 4 5) (.glob 18)) (.cons (.assign 2 (.bin .add (.v 2) (.rd (.attr (.attr (.var 4) 33) 22)))) (.cons (.assign 3 (.bin .add (.v 3) (.call 16 (.val (.v 0) (.val (.a 4 33) .nil))))) .nil)) (.cons (.assign 2 (.bin .add (.v 2) (.call 18 (.val (.v 0) (.val (.v 4) .nil))))) .nil)) (.cons (.append (.var 1) (.bin .add (.v 2) (.call 17 (.val (.v 0) (.val (.v 3) .nil))))) .nil))
theorem mH {T:Tabs}{Φ:Nat→List V→(V→List V→Prop)→Prop}{c:E}{a b l:Ss}{σ:List V}{K:Fl→List V→Prop}(h:WE T Φ c σ fun x σ=>Dp x fun t=>Tz t (Aj T Φ a σ fun fl σ=>match fl with
    | .next=>Aj T Φ l σ K
    | .ret x=>K (.ret x) σ) (Aj T Φ b σ fun fl σ=>match fl with
    | .next=>Aj T Φ l σ K
    | .ret x=>K (.ret x) σ)):Aj T Φ (.cons (.ifs c a b) l) σ K:=h
theorem jr {T:Tabs}{Φ:Nat→List V→(V→List V→Prop)→Prop}{o:Nb}{a b:E}{σ:List V}{K:V→List V→Prop}(h:WE T Φ a σ fun x σ=>Cq x fun x=>WE T Φ b σ fun y σ=>Cq y fun y=>Uc o x y fun r=>K (.bool r) σ):WE T Φ (.cmp o a b) σ K:=h
theorem Ng {n:Nat}{a:Addr}{b:Bool}{lev:Nat}{k w sh x:Int}{L f:List V}{nd:Nd}{K:Fl→List V→Prop}(hn:6≤n)(hk:k=2∨k=3)(ok:G9 lev k nd)(hf:f.length < 1000000)
  (h:K .next [Ax k w sh L,.lst .sh (f++[.int (x+Gk k nd)]),.int (x+Gk k nd),.int 0,D0 a b nd]):Aj TT (AG TT n) KB [Ax k w sh L,.lst .sh f,.int x,.int 0,D0 a b nd] K:=by
 have tail:∀{nd':V},K .next [Ax k w sh L,.lst .sh (f++[.int (x+Gk k nd)]),.int (x+Gk k nd),.int 0,nd']→Aj TT (AG TT n) (.cons (.append (.var 1) (.bin .add (.v 2) (.call 17 (.val (.v 0) (.val (.v 3) .nil))))) .nil) [Ax k w sh L,.lst .sh f,.int (x+Gk k nd),.int 0,nd'] K:=fun {nd'} h=>by
  intro v
  refine PJ (fe hn rfl) ?_
  refine⟨by lia,?_⟩
  refine⟨rfl,?_⟩
  have e:x+Gk k nd=x+Gk k nd+0:=(Int.add_zero _).symm
  have h':K .next [Ax k w sh L,.lst .sh (f++[.int (x+Gk k nd+0)]),.int (x+Gk k nd),.int 0,nd']:=by rw [←e];exact h
  exact h'
 cases nd with
 | skp w' s' t'=>
  refine X1 (fe hn rfl) ?_
  exact tail h
 | ltr c=>
  refine B9 (nd:=.ltr c) (b:=b) (fe hn rfl) hk ok (fun _ _ _ q=>by cases q) ?_
  exact tail h
 | krn c=>
  refine B9 (nd:=.krn c) (a:=a) (b:=b) (fe hn rfl) hk ok (fun _ _ _ q=>by cases q) ?_
  exact tail h
 | spc c=>
  refine B9 (nd:=.spc c) (a:=a) (b:=b) (fe hn rfl) hk ok (fun _ _ _ q=>by cases q) ?_
  exact tail h
 | don s i=>
  rcases ok.1 with rfl | rfl | rfl
  all_goals
   refine B9 (nd:=.don _ i) (a:=a) (b:=b) (fe hn rfl) hk ok (fun _ _ _ q=>by cases q) ?_
   exact tail h
 | sub t'=>
  obtain⟨k',w',sh',l'⟩:=t'
  obtain⟨hk',-⟩:=id ok.2
  refine Aq (show decide (k'=6)=false by rcases hk' with rfl | rfl <;> rfl) ?_
  refine B9 (nd:=.sub (.mk k' w' sh' l')) (a:=a) (b:=b) (by lia) hk ok (fun _ _ _ q=>by cases q) ?_
  exact tail h
theorem Ci {n:Nat}{a:Addr}{b:Bool}{lev:Nat}{k w sh:Int}{L:List V}{K:Fl→List V→Prop}(hn:6≤n)(hk:k=2∨k=3):∀(l:Dt) (x:Int) (f:List V) (u:V),ME lev k l→f.length+l.len < 1000000→
  (∀x' u,K .next [Ax k w sh L,.lst .sh (f++MJ b k x l),.int x',.int 0,u])→Cc (Aj TT (AG TT n) KB) (fun x σ=>σ.set 4 x) (Ba a b l) [Ax k w sh L,.lst .sh f,.int x,.int 0,u] K
 | .nil,x,f,u,_,_,h=>by
  have:=h x u
  rw [show MJ b k x .nil=[] from rfl,List.append_nil] at this
  exact this
 | .cons nd l,x,f,u,ok,hl,h=>by
  rw [ED]
  rw [TF] at h
  have hl:f.length+(l.len+1) < 1000000:=hl
  cases hk':BU b nd with
  | false=>
   rw [hk'] at h
   exact Ci hn hk l x f u ok.2 (Nat.lt_of_succ_lt hl) h
  | true=>
   rw [hk'] at h
   refine Ng hn hk ok.1 (by lia) ?_
   refine Ci hn hk l _ _ _ ok.2 (by rw [List.length_append];exact Zt hl) fun x' u=>?_
   have:=h x' u
   rw [List.append_assoc];exact this
theorem Ti {n:Nat}{a:Addr}{b:Bool}{lev:Nat}{k w sh:Int}{l:Dt}{K:V→List V→Prop}(hn:7≤n)(hk:k=2∨k=3)(ok:ME lev k l)(hl:l.len≤5)(h:K (.lst .fr (.int 0::MJ b k 0 l)) []):AG TT n 19 [Ax k w sh (Ba a b l)] K:=by
 refine Rx hn fun n hn=>?_
 rcases hk with rfl | rfl
 ·refine ?_
  refine Ci (by lia) (.inl rfl) l 0 [.int 0] _ ok (by simp;lia) fun x' u=>?_
  exact h
 ·refine ?_
  refine Jz (fe hn rfl) ok ?_
  refine Ci (by lia) (.inr rfl) l 0 [.int 0] _ ok (by simp;lia) fun x' u=>?_
  exact h
noncomputable def Py:V→Bool
 | .undef=>false
 | .hole _=>false
 | .lst .fr _=>true
 | .lst _ _=>false
 | .dct o _=>!o
 | .obj o _ _=>!o
 | _=>true
theorem br {T:Tabs}{Φ:Nat→List V→(V→List V→Prop)→Prop}{p:Pt}{σ:List V}{x:V}{K:V→List V→Prop}(g:get T σ p=some x)(hx:Py x=true)(h:K x σ):WE T Φ (.rd p) σ K:=by
 refine pS g ?_
 cases x with
 | lst o l=>cases o <;> first | exact h | cases hx
 | dct o l=>cases o <;> first | exact h | cases hx
 | obj o c l=>cases o <;> first | exact h | cases hx
 | undef=>cases hx
 | hole _=>cases hx
 | _=>exact h
theorem bq {x:V}{K:V→Prop}(hx:Py x=true)(h:K x):Cq x K:=by
 cases x with
 | lst o l=>cases o <;> first | exact h | cases hx
 | dct o l=>cases o <;> first | exact h | cases hx
 | obj o c l=>cases o <;> first | exact h | cases hx
 | undef=>cases hx
 | hole _=>cases hx
 | _=>exact h
theorem Ri {a:Addr}{b:Bool}{lev:Nat}{k:Int}{nd:Nd}(ok:G9 lev k nd):Py (D0 a b nd)=true:=by
 cases nd with
 | don s i=>rcases ok.1 with rfl | rfl | rfl <;> rfl
 | sub t=>obtain⟨k',w',sh',l'⟩:=t;rfl
 | _=>rfl
theorem L7 {T:Tabs}{Φ:Nat→List V→(V→List V→Prop)→Prop}{t1 t2:Tg}{e1 e2:E}{l:Ss}{σ:List V}{K:Fl→List V→Prop}(h:WE T Φ e1 σ fun x σ=>WE T Φ e2 σ fun y σ=>QL T [t1,t2] [x,y] σ fun σ=>Aj T Φ l σ K):Aj T Φ (.cons (.assignTup [t1,t2] (.cons e1 (.cons e2 .nil))) l) σ K:=h
noncomputable abbrev LB:Ss:=(.cons (.ifs (.and (.cmp .eq (.a 4 5) (.glob 8)) (.cmp .eq (.a 0 5) (.glob 15))) (.cons (.for_ 6 (.of (.a 4 6)) (.cons (.assign 7 (.bin .add (.v 5) (.call 11 (.val (.v 6) .nil)))) (.cons (.append (.var 2) (.tup (.cons (.v 6) (.cons (.v 5) (.cons (.v 7) .nil))))) (.cons (.assign 5 (.v 7)) .nil)))) .nil) (.cons (.append (.var 2) (.tup (.cons (.v 4) (.cons (.v 5) (.cons (.idx (.v 1) (.bin .add (.v 3) (.int 1))) .nil))))) .nil)) .nil)
noncomputable abbrev Lc:Ss:=(.cons (.assignTup [.var 4,.var 5] (.cons (.rd (.at_ (.attr (.var 0) 9) (.var 3))) (.cons (.rd (.at_ (.var 1) (.var 3))) .nil))) LB)
theorem Pz {n:Nat}{a:Addr}{b:Bool}{lev p:Nat}{k w sh x y:Int}{L F f:List V}{nd:Nd}{u4 u5 u6 u7:V}{K:Fl→List V→Prop}(ok:G9 lev k nd)(hf:f.length < 1000000)(g1:L[p]?=some (D0 a b nd))(g2:F[p]?=some (.int x))(g3:F[p+1]?=some (.int y))
  (h:K .next [Ax k w sh L,.lst .fr F,.lst .sh (f++[.tup [D0 a b nd,.int x,.int y]]),.int p,D0 a b nd,.int x,u6,u7]):Aj TT (AG TT n) Lc [Ax k w sh L,.lst .fr F,.lst .sh f,.int p,u4,u5,u6,u7] K:=by
 refine L7 ?_
 refine br (Φ:=AG TT n) (x:=D0 a b nd) g1 (Ri ok) ?_
 refine br (Φ:=AG TT n) (x:=.int x) g2 rfl ?_
 show Aj TT (AG TT n) LB [Ax k w sh L,.lst .fr F,.lst .sh f,.int p,D0 a b nd,.int x,u6,u7] K
 cases nd with
 | don s i=>
  rcases ok.1 with rfl | rfl | rfl
  all_goals
   intro v
   refine pN g3 ?_
   refine⟨by lia,?_⟩
   refine⟨rfl,?_⟩
   exact h
 | sub t=>
  obtain⟨k',w',sh',l'⟩:=t
  obtain⟨hk',-⟩:=id ok.2
  have e:decide (k'=8)=false:=by rcases hk' with rfl | rfl <;> rfl
  refine Aq e (?_)
  intro v
  refine pN g3 ?_
  refine⟨by lia,?_⟩
  refine⟨rfl,?_⟩
  exact h
 | _=>
  intro v
  refine pN g3 ?_
  refine⟨by lia,?_⟩
  refine⟨rfl,?_⟩
  exact h
theorem Mw {α:Type}{l:List α}{p:Nat}{x:α}{r:List α}(h:l.drop p=x::r):l[p]?=some x∧l.drop (p+1)=r:=by
 constructor
 ·have:(l.drop p)[0]?=some x:=by rw [h];rfl
  rw [List.getElem?_drop] at this
  exact this
 ·have:(l.drop p).drop 1=r:=by rw [h];rfl
  rw [List.drop_drop] at this
  exact this
theorem FZ {n:Nat}{a:Addr}{b:Bool}{lev:Nat}{k w sh:Int}{L F:List V}{K:Fl→List V→Prop}:∀(l:Dt) (p:Nat) (x:Int) (f:List V) (u3 u4 u5 u6 u7:V),ME lev k l→f.length+l.len < 1000000→L.drop p=Ba a b l→F.drop p=.int x::MJ b k x l→
  (∀u3 u4 u5 u6 u7,K .next [Ax k w sh L,.lst .fr F,.lst .sh (f++EN a b k x l),u3,u4,u5,u6,u7])→Cc (Aj TT (AG TT n) Lc) (fun x σ=>σ.set 3 x) (upTo p (Ba a b l).length) [Ax k w sh L,.lst .fr F,.lst .sh f,u3,u4,u5,u6,u7] K
 | .nil,p,x,f,u3,u4,u5,u6,u7,_,_,_,_,h=>by
  have:=h u3 u4 u5 u6 u7
  rw [show EN a b k x .nil=[] from rfl,List.append_nil] at this
  exact this
 | .cons nd l,p,x,f,u3,u4,u5,u6,u7,ok,hl,hL,hF,h=>by
  rw [ED] at hL ⊢
  rw [TF] at hF
  rw [Q6] at h
  have hl:f.length+(l.len+1) < 1000000:=hl
  cases hk':BU b nd with
  | false=>
   rw [hk'] at h hL hF
   exact FZ l p x f u3 u4 u5 u6 u7 ok.2 (Nat.lt_of_succ_lt hl) hL hF h
  | true=>
   rw [hk'] at h hL hF
   obtain⟨gL,hL⟩:=Mw hL
   obtain⟨gF,hF⟩:=Mw hF
   obtain⟨gF2,-⟩:=Mw hF
   refine Pz ok.1 (by lia) gL gF gF2 ?_
   have e:((p:Int)+1)=((p+1:Nat):Int):=rfl
   have:=FZ (n:=n) (w:=w) (sh:=sh) (K:=K) l (p+1) (x+Gk k nd) (f++[.tup [D0 a b nd,.int x,.int (x+Gk k nd)]]) (.int p) (D0 a b nd) (.int x) u6 u7 ok.2 (by rw [List.length_append];exact Zt hl) hL hF fun u3 u4 u5 u6 u7=>by
    have:=h u3 u4 u5 u6 u7
    rw [List.append_assoc];exact this
   rw [←e] at this
   exact this
theorem PF {n:Nat}{a:Addr}{b:Bool}{lev:Nat}{k w sh:Int}{l:Dt}{K:V→List V→Prop}(hn:8≤n)(hk:k=2∨k=3)(ok:ME lev k l)(hl:l.len≤5)(h:K (.lst .fr (EN a b k 0 l)) []):AG TT n 27 [Ax k w sh (Ba a b l)] K:=by
 have len:∀l:Dt,(Ba a b l).length≤l.len:=fun l=>by
  induction l using Dt.rec (motive_1:=fun _=>True) (motive_2:=fun _=>True) with
  | nil=>exact Nat.le_refl _
  | cons x l _ ih=>
   show (Ba a b (.cons x l)).length≤l.len+1
   rw [ED]
   cases BU b x with
   | true=>exact Nat.succ_le_succ ih
   | false=>exact Nat.le_succ_of_le ih
  | _=>trivial
 have ln:=len l
 refine NM hn fun n hn=>?_
 refine Ti (fe hn rfl) hk ok hl ?_
 refine⟨⟨by lia,by lia⟩,?_⟩
 rw [Int.toNat_natCast]
 refine FZ l 0 0 [] _ _ _ _ _ ok (by simp;lia) rfl rfl fun u3 u4 u5 u6 u7=>?_
 exact h
noncomputable def KU (f wd:Int):Int→Nat→List Int
 | _,0=>[]
 | j,m+1=>(f+wd*j)::KU f wd (j+1) m
theorem N4 (f wd:Int):∀(m:Nat) (j:Int),(KU f wd j m).length=m
 | 0,_=>rfl
 | m+1,j=>congrArg (·+1) (N4 f wd m (j+1))
theorem Nv {f wd q:Int}:∀{m:Nat} {j:Int},q∈KU f wd j m→∃t:Int,j≤t∧t < j+m∧q=f+wd*t
 | 0,_,h=>by cases h
 | m+1,j,h=>by
  rcases List.mem_cons.mp h with rfl | h
  ·exact⟨j,by lia,by lia,rfl⟩
  ·obtain⟨t,h1,h2,e⟩:=Nv h
   exact⟨t,by lia,by lia,e⟩
theorem Na {n:Nat}{f wd:Int}{s0 s1 s2 s3 s4 s5 s6 s7 s8 s9 s10:V}{elt:E}{K:List V→List V→Prop}(hE:∀(t:Int) (K:V→List V→Prop),K (.int (f+wd*t)) [s0,s1,s2,s3,s4,s5,s6,s7,s8,s9,s10,.int t]→WE TT (AG TT n) elt [s0,s1,s2,s3,s4,s5,s6,s7,s8,s9,s10,.int t] K):
  ∀(m:Nat) (j:Int) (acc:List V) (u:V),acc.length+m < 1000000→(∀u,K (acc++(KU f wd j m).map .int) [s0,s1,s2,s3,s4,s5,s6,s7,s8,s9,s10,u])→Bn (WE TT (AG TT n) elt) 11 (upTo j m) acc [s0,s1,s2,s3,s4,s5,s6,s7,s8,s9,s10,u] K
 | 0,j,acc,u,_,h=>by
  have:=h u
  rw [show (KU f wd j 0).map V.int=[] from rfl,List.append_nil] at this
  exact this
 | m+1,j,acc,u,hl,h=>by
  refine hE j _ ?_
  refine⟨V5 hl,?_⟩
  refine Na hE m (j+1) _ .undef (by rw [List.length_append];exact Zt hl) fun u=>?_
  have:=h u
  rw [List.append_assoc];exact this
theorem MC {n:Nat}{f wd c:Int}{s0 s1 s2 s3 s4 s5 s6 s8 s9 s10:V}{elt:E}{K:V→List V→Prop}(hc:0≤c)(hc2:c≤1000)(hE:∀(t:Int) (K:V→List V→Prop),K (.int (f+wd*t)) [s0,s1,s2,s3,s4,s5,s6,.int c,s8,s9,s10,.int t]→WE TT (AG TT n) elt [s0,s1,s2,s3,s4,s5,s6,.int c,s8,s9,s10,.int t] K)
  (h:K (.lst .sh ((KU f wd 0 c.toNat).map .int)) []):Aj TT (AG TT n) (.cons (.ret (.comp elt 11 (.rng .range1 (.cons (.v 7) .nil)))) .nil) [s0,s1,s2,s3,s4,s5,s6,.int c,s8,s9,s10,.undef] (Bp [] K):=by
 refine⟨⟨by lia,by lia⟩,?_⟩
 refine Na hE c.toNat 0 [] .undef (by simp;lia) fun u=>?_
 exact h
noncomputable abbrev cL:Ss:=(.cons (.assignTup [.var 7,.var 8] (.cons (.bin .fdiv (.v 2) (.v 6)) (.cons (.bin .mod (.v 2) (.v 6)) .nil))) (.cons (.ifs (.cmp .gt (.v 7) (.glob 22)) (.cons .bad .nil) .nil) (.cons (.ifs (.cmp .eq (.a 0 0) (.glob 23)) (.cons (.assign 9 (.bin .sub (.v 3) (.bin .mul (.bin .fdiv (.bin .sub (.v 3) (.v 1)) (.v 6)) (.v 6)))) (.cons (.assign 7 (.prim .max2 (.cons (.int 0) (.cons (.bin .fdiv (.bin .sub (.bin .add (.v 1) (.v 2)) (.v 9)) (.v 6)) .nil)))) (.cons (.ret (.comp (.bin .add (.v 9) (.bin .mul (.v 6) (.v 11))) 11 (.rng .range1 (.cons (.v 7) .nil)))) .nil))) .nil) (.cons (.ifs (.cmp .eq (.a 0 0) (.glob 24)) (.cons (.ret (.comp (.bin .add (.bin .add (.v 1) (.bin .fdiv (.v 8) (.int 2))) (.bin .mul (.v 6) (.v 11))) 11 (.rng .range1 (.cons (.v 7) .nil)))) .nil) .nil) (.cons (.assign 10 (.bin .fdiv (.v 8) (.bin .add (.v 7) (.int 1)))) (.cons (.assign 9 (.bin .add (.v 1) (.bin .fdiv (.bin .sub (.v 8) (.bin .mul (.bin .sub (.v 7) (.int 1)) (.v 10))) (.int 2)))) (.cons (.ret (.comp (.bin .add (.v 9) (.bin .mul (.bin .add (.v 6) (.v 10)) (.v 11))) 11 (.rng .range1 (.cons (.v 7) .nil)))) .nil)))))))
theorem ay {x:Int}(h:x.natAbs≤1000000000):small x:=by
 show x.natAbs < 2 ^ 64
 lia
theorem Xs {x:Int}(a : -1000000000≤x)(b:x≤1000000000):small x:=ay (by lia)
theorem fl {b e w:Int}(h:0 < w):b≤e - Int.fdiv (e - b) w*w∧e - Int.fdiv (e - b) w*w < b+w:=by
 have e1:=Int.mul_fdiv_add_fmod (e - b) w
 have h1:=Int.fmod_nonneg_of_pos (e - b) h
 have h2:=Int.fmod_lt_of_pos (e - b) h
 rw [Int.mul_comm w] at e1
 generalize Int.fdiv (e - b) w*w=x at e1
 generalize Int.fmod (e - b) w=y at e1 h1 h2
 exact⟨by lia,by lia⟩
theorem fq {d w:Int}(hw:25≤w)(hd:d≤60):Int.fdiv d w≤2:=by
 rw [C6 (by lia)]
 exact Int.le_of_lt_add_one (Int.ediv_lt_of_lt_mul (by lia) (by lia))
theorem fb {r k:Int}(h:0≤r)(h2:r≤40)(hk:0 < k):0≤Int.fdiv r k∧Int.fdiv r k≤40:=by
 rw [C6 hk]
 exact⟨Int.ediv_nonneg h (Int.le_of_lt hk),Int.le_trans (Int.ediv_le_self k h) h2⟩
theorem cm {c x:Int}(h:0≤c)(h2:c≤2)(hx:0≤x)(hx2:x≤40):0≤(c - 1)*x+40∧(c - 1)*x≤40:=by
 have e:c=0∨c=1∨c=2:=by clear hx hx2;lia
 clear h h2
 rcases e with rfl | rfl | rfl <;> exact⟨by lia,by lia⟩
theorem cl {c:Int}(h:c≤2){f w:Int}:(KU f w 0 c.toNat).length≤3:=N4 f w _ 0▸by lia
theorem qb {f w b q c:Int}(hc:c≤2)(h1:b - 100≤f)(h2:f≤b+100)(w1:0≤w)(w2:w≤100)(hq:q∈KU f w 0 c.toNat):b - 100≤q∧q≤b+300:=by
 obtain⟨t,k1,k2,rfl⟩:=Nv hq
 have e:t=0∨t=1:=by clear h1 h2 w1 w2 hq;lia
 clear k1 k2 hq hc
 rcases e with rfl | rfl <;> exact⟨by lia,by lia⟩
theorem fh {b r:Int}(h : -40≤r)(h2:r≤80):b - 100≤b+Int.fdiv r 2∧b+Int.fdiv r 2≤b+100∧small (Int.fdiv r 2):=by
 rw [C6 (by decide)]
 exact⟨by lia,by lia,Xs (by lia) (by lia)⟩
theorem mV {b s z:Int}(h:s≤60)(k:b≤z):b+s - z≤60:=by lia
theorem mL {r x:Int}(a:0≤r)(b:x≤40) : -40≤r - x:=by lia
theorem nM {r x:Int}(a:r≤40)(b:0≤x+40):r - x≤80:=by lia
theorem LP {begin_ size edge wd:Int}(s1:0≤size)(s2:size≤60)(w1:25≤wd)(w2:wd≤40){sort:Int}(hsort:sort=1∨sort=2∨sort=3):∃ps:List Int,ps.length≤3∧(∀q∈ps,begin_ - 100≤q∧q≤begin_+300)∧
  ∀{n:Nat} {w:Int} {L s4:V} {K:V→List V→Prop},K (.lst .sh (ps.map .int)) []→Aj TT (AG TT n) cL [.obj false 4 [(33,Ll w),(0,.int sort),(32,L)],.int begin_,.int size,.int edge,s4,L,.int wd,.undef,.undef,.undef,.undef,.undef] (Bp [] K):=by
 have w0:0 < wd:=Int.lt_of_lt_of_le (by decide) w1
 have sw:small wd:=Xs (Int.le_of_lt (Int.lt_trans (by decide) w0)) (Int.le_trans w2 (by decide))
 have nw:wd≠0:=Int.ne_of_gt w0
 have wn:=Int.le_of_lt w0
 have wm:wd≤100:=Int.le_trans w2 (by decide)
 have c0:0≤Int.fdiv size wd:=Int.fdiv_nonneg s1 wn
 have c2:=fq w1 s2
 have r0:=Int.fmod_nonneg_of_pos size w0
 have r2:=Int.le_trans (Int.le_of_lt (Int.fmod_lt_of_pos size w0)) w2
 have no:decide ((2000:Int) < Int.fdiv size wd)=false:=decide_eq_false (Int.not_lt.2 (Int.le_trans c2 (by decide)))
 have cc:=Int.le_trans c2 (by decide:(2:Int)≤1000)
 clear s1
 rcases hsort with rfl | rfl | rfl
 ·obtain⟨f1,f2⟩:=fl (b:=begin_) (e:=edge) w0
  have hc:Int.fdiv (begin_+size - (edge - Int.fdiv (edge - begin_) wd*wd)) wd≤2:=fq w1 (mV s2 f1)
  have h0:=Int.le_max_left 0 (Int.fdiv (begin_+size - (edge - Int.fdiv (edge - begin_) wd*wd)) wd)
  have h2:=Int.max_le.2 ⟨(by decide:(0:Int)≤2),hc⟩
  refine⟨KU (edge - Int.fdiv (edge - begin_) wd*wd) wd 0 (max 0 (Int.fdiv (begin_+size - (edge - Int.fdiv (edge - begin_) wd*wd)) wd)).toNat,cl h2,fun q=>qb h2 (Int.le_trans (Int.sub_le_self _ (by decide)) f1) (Int.le_trans (Int.le_of_lt f2) (Int.add_le_add_left wm _)) wn wm,fun {n w L s4 K} h=>?_⟩
  exact⟨⟨nw,sw⟩,⟨nw,Aq no ⟨⟨nw,sw⟩,⟨.inr sw,⟨⟨nw,sw⟩,MC h0 (Int.le_trans h2 (by decide)) (fun t K k=>⟨.inl sw,k⟩) h⟩⟩⟩⟩⟩
 ·obtain⟨f1,f2,-⟩:=fh (b:=begin_) (Int.le_trans (by decide) r0) (Int.le_trans r2 (by decide))
  refine⟨KU (begin_+Int.fdiv (Int.fmod size wd) 2) wd 0 (Int.fdiv size wd).toNat,cl c2,fun q=>qb c2 f1 f2 wn wm,fun {n w L s4 K} h=>?_⟩
  exact⟨⟨nw,sw⟩,⟨nw,Aq no (MC c0 cc (fun t K k=>⟨⟨by decide,Ab rfl⟩,.inl sw,k⟩) h)⟩⟩
 ·have hk:0 < Int.fdiv size wd+1:=Int.lt_add_one_of_le c0
  obtain⟨b0,b2⟩:=fb r0 r2 hk
  obtain⟨m0,m2⟩:=cm c0 c2 b0 b2
  have sk:small (Int.fdiv size wd+1):=Xs (Int.le_of_lt (Int.lt_trans (by decide) hk)) (Int.le_trans (Int.add_le_add_right c2 1) (by decide))
  have sb:=Xs (Int.le_trans (by decide) b0) (Int.le_trans b2 (by decide))
  have st:small (wd+Int.fdiv (Int.fmod size wd) (Int.fdiv size wd+1)):=Xs (Int.le_trans (by decide) (Int.add_le_add w1 b0)) (Int.le_trans (Int.add_le_add w2 b2) (by decide))
  have x1:=Int.le_trans (by decide:(0:Int)≤25+0) (Int.add_le_add w1 b0)
  have x2:=Int.le_trans (Int.add_le_add w2 b2) (by decide:(40:Int)+40≤100)
  obtain⟨f1,f2,-⟩:=fh (b:=begin_) (r:=Int.fmod size wd - (Int.fdiv size wd - 1)*Int.fdiv (Int.fmod size wd) (Int.fdiv size wd+1)) (mL r0 m2) (nM r2 m0)
  refine⟨KU (begin_+Int.fdiv (Int.fmod size wd - (Int.fdiv size wd - 1)*Int.fdiv (Int.fmod size wd) (Int.fdiv size wd+1)) 2) (wd+Int.fdiv (Int.fmod size wd) (Int.fdiv size wd+1)) 0 (Int.fdiv size wd).toNat,cl c2,fun q=>qb c2 f1 f2 x1 x2,fun {n w L s4 K} h=>?_⟩
  refine⟨⟨nw,sw⟩,⟨nw,Aq no ⟨⟨Int.ne_of_gt hk,sk⟩,?_⟩⟩⟩
  refine⟨.inl (Xs (Int.le_trans (by decide) (Int.sub_le_sub_right c0 1)) (Int.le_trans (Int.sub_le_sub_right c2 1) (by decide))),?_⟩
  exact⟨⟨by decide,Ab rfl⟩,MC c0 cc (fun t K k=>⟨.inl st,k⟩) h⟩
theorem wr {w:Int}(h:w=30∨w=40∨w=0∨w=25)(n:w≠0):25≤w∧w≤40:=by
 rcases h with rfl | rfl | rfl | rfl
 ·decide
 ·decide
 ·exact absurd rfl n
 ·decide
theorem sr {s:Int}(h:s=30∨s=60):30≤s∧s≤60:=by rcases h with rfl | rfl <;> decide
theorem Do {a:Addr}{lev:Nat}{k w sort begin_ size edge:Int}{t:Bx}{vert:Bool}(ok:G9 lev k (.skp w sort t))(hs:size=0∨size=30∨size=60):∃ps:List Int,ps.length≤3∧(∀q∈ps,begin_ - 100≤q∧q≤begin_+300)∧
  ∀{b:Bool} {n:Nat} {K:V→List V→Prop},1≤n→K (.lst .sh (ps.map .int)) []→AG TT n 14 [D0 a b (.skp w sort t),.int begin_,.int size,.int edge,.bool vert] K:=by
 obtain⟨k',w',sh',l'⟩:=t
 obtain⟨-,-,hsort,⟨hk',hw',-,-⟩⟩:=ok
 have k4:decide (k'=4)=false:=by rcases hk' with rfl | rfl <;> rfl
 have empty:∀{b:Bool} {n:Nat} {K:V→List V→Prop},(size=0∨(vert=false∧w'=0))→1≤n→K (.lst .sh (([]:List Int).map .int)) []→AG TT n 14 [D0 a b (.skp w sort (.mk k' w' sh' l')),.int begin_,.int size,.int edge,.bool vert] K:=fun {b n K} hz hn h=>by
  refine By hn fun n hn=>?_
  refine (Aq k4 ?_)
  cases vert with
  | true=>
   obtain rfl:size=0:=by
    rcases hz with e | ⟨e,-⟩
    ·exact e
    ·cases e
   exact h
  | false=>
   by_cases e:w'≤0
   ·refine BE (decide_eq_true e) ?_
    exact h
   ·refine Aq (decide_eq_false e) ?_
    obtain rfl:size=0:=by
     rcases hz with e | ⟨-,e⟩
     ·exact e
     ·lia
    exact h
 rcases hs with rfl | hs
 ·exact⟨[],by decide,fun _ h=>(nomatch h),fun {b n K} hn h=>empty (.inl rfl) hn h⟩
 obtain⟨s0,s1⟩:=sr hs
 have sn:decide (size≤0)=false:=decide_eq_false (Int.not_le.2 (Int.lt_of_lt_of_le (by decide) s0))
 have s0:=Int.le_trans (by decide:(0:Int)≤30) s0
 cases vert with
 | true=>
  obtain⟨ps,h1,h2,run⟩:=LP (begin_:=begin_) (edge:=edge) (wd:=25) s0 s1 (by decide) (by decide) hsort
  refine⟨ps,h1,h2,fun {b n K} hn h=>?_⟩
  refine By hn fun n hn=>?_
  exact Aq k4 (Aq sn (run h))
 | false=>
  by_cases hz:w'=0
  ·exact⟨[],by decide,fun _ h=>(nomatch h),fun {b n K} hn h=>empty (.inr ⟨rfl,hz⟩) hn h⟩
  obtain⟨w0,w1⟩:=wr hw' hz
  obtain⟨ps,h1,h2,run⟩:=LP (begin_:=begin_) (edge:=edge) (wd:=w') s0 s1 w0 w1 hsort
  have wn:decide (w'≤0)=false:=decide_eq_false (Int.not_le.2 (Int.lt_of_lt_of_le (by decide) w0))
  refine⟨ps,h1,h2,fun {b n K} hn h=>?_⟩
  refine By hn fun n hn=>?_
  exact Aq k4 (Aq wn (Aq sn (run h)))
noncomputable def cy (a:Addr)(b cp:Bool)(nd:Nd)(cs:List (Int×Int)):List V:=match nd with
 | .sub t=>cs.map fun c=>.tup [He a b t,.int c.1,.int c.2,.bool cp]
 | .skp _ _ t=>cs.map fun c=>.tup [He a b t,.int c.1,.int c.2,.bool cp]
 | _=>[]
theorem MK {a:Addr}{b:Bool}:∀{l:Dt},l.hasK=true→∃x xs,Ba a b l=x::xs
 | .nil,h=>by cases h
 | .cons nd l,h=>by
  rw [ED]
  cases hk:BU b nd with
  | true=>exact⟨_,_,rfl⟩
  | false=>
   cases nd with
   | don s i=>exact MK (l:=l) h
   | _=>cases hk
theorem EM {n:Nat}{g:Int→Int×Int}{t:V}{cp:Bool}{s0 s1 s2 s3 s4 s5 s6 s7 s8 s9 s10 s11 s12:V}{elt:E}{K:List V→List V→Prop}
  (hE:∀(q:Int) (K:V→List V→Prop),K (.tup [t,.int (g q).1,.int (g q).2,.bool cp]) [s0,s1,s2,s3,s4,s5,s6,s7,s8,s9,s10,s11,s12,.int q]→WE TT (AG TT n) elt [s0,s1,s2,s3,s4,s5,s6,s7,s8,s9,s10,s11,s12,.int q] K):
  ∀(ps:List Int) (acc:List V) (u:V),acc.length+ps.length < 1000000→(∀u,K (acc++(ps.map g).map fun c=>.tup [t,.int c.1,.int c.2,.bool cp]) [s0,s1,s2,s3,s4,s5,s6,s7,s8,s9,s10,s11,s12,u])→
   Bn (WE TT (AG TT n) elt) 13 (ps.map .int) acc [s0,s1,s2,s3,s4,s5,s6,s7,s8,s9,s10,s11,s12,u] K
 | [],acc,u,_,h=>by
  have:=h u
  rw [show (([]:List Int).map g).map (fun c=>V.tup [t,.int c.1,.int c.2,.bool cp])=[] from rfl,List.append_nil] at this
  exact this
 | q::ps,acc,u,hl,h=>by
  have hl:acc.length+(ps.length+1) < 1000000:=hl
  refine hE q _ ?_
  refine⟨V5 hl,?_⟩
  refine EM hE ps _ .undef (by rw [List.length_append];exact Zt hl) fun u=>?_
  have:=h u
  rw [List.append_assoc];exact this
inductive Cp (a:Addr)(N:Nat)(p:PS)(B:Int)(R:PS→List (Int×Int)→Bool→Prop):Prop
 | mk (p':PS) (cs:List (Int×Int)) (cp:Bool) (G:Good a N p') (E:Dk p p') (n:cs.length≤3) (b:∀c∈cs,Iv B c.1∧Iv B c.2) (r:R p' cs cp):Cp a N p B R
theorem WP {s M z:Int}(h:s=0∨s=3∨s=6)(k:Iv M z):Iv (M+1000) (z+s):=iw (ia (c:=6) k (by rcases h with rfl | rfl | rfl <;> decide)) (Int.add_le_add_left (by decide) M)
theorem oI {M z:Int}(h:Iv (M+400) z):Iv (M+1000) (z+20):=iw (ia (x:=20) (c:=20) h (by decide)) (by rw [Int.add_assoc];exact Int.add_le_add_left (by decide) M)
theorem iq {M z q:Int}(h:Iv (M+400) z)(k:z - 100≤q∧q≤z+300):Iv (M+900) q∧Iv (M+1000) (q+20):=by
 unfold Iv at *
 exact⟨⟨by lia,by lia⟩,by lia,by lia⟩
theorem Z0 {α β:Type}{l:List α}(h:l.length≤3):([]:List β).length+l.length < 1000000:=Nat.lt_of_le_of_lt (Nat.le_trans (Nat.le_of_eq (Nat.zero_add _)) h) (by decide)
theorem yx {x y w:Int}(h:y=x+w):y - x=w:=by rw [h,Int.add_comm,Int.add_sub_cancel]
noncomputable abbrev Xd (a:Addr)(N:Nat)(p:PS)(f:Nat)(k w sh x y left base M:Int)(nd:Nd):Prop:=Cp a (N+40) p (M+1000) fun p' cs cp=>
 ∀{b:Bool} {L:List V} {n:Nat} {K:V→List V→Prop},12≤n→K (.lst .sh (cy a b cp nd cs)) [AL p']→AG TT n f [AL p,Ax k w sh L,.tup [D0 a b nd,.int x,.int y],.int left,.int base] K
theorem Kv {a:Addr}{lev N:Nat}{p:PS}{w sh x y left base:Int}{nd:Nd}(G:Good a N p)(hN:N+100≤1000000)(ok:G9 lev 2 nd)(hy:y=x+Gk 2 nd){M:Int}(hM:M≤1000000)(hl:Iv M left)(hb:Iv M base)(hx:Iv 400 x):
  Xd a N p 28 2 w sh x y left base M nd:=by
 have G0:=G.mono (Nat.le_add_right N 40)
 have lx:=ia hl hx
 have lx9:(left+x).natAbs≤1000000000:=na lx (Int.le_trans (Int.add_le_add_right hM 400) (by decide))
 have b9:base.natAbs≤1000000000:=na hb (Int.le_trans hM (by decide))
 cases nd with
 | ltr c=>
  obtain⟨p',G',E',run⟩:=Sd (h:=left+x) (v:=base) G hN ok.2 lx9 b9
  exact⟨p',[],false,G',E',by decide,fun _ h=>(nomatch h),fun {b L n K} hn h=>Ap hn fun n hn=>⟨rfl,fun v=>run (fe hn rfl) ⟨rfl,h⟩⟩⟩
 | krn c=>
  exact⟨p,[],false,G0,Dk.refl p,by decide,fun _ h=>(nomatch h),fun {b L n K} hn h=>Ap hn fun n hn=>h⟩
 | spc o=>
  obtain⟨p',G',E',run⟩:=Lf (o:=o) (h:=left+x) (v:=base) G hN ok.1 (Int.lt_trans ok.2 (by decide)) lx9 b9
  exact⟨p',[],false,G',E',by decide,fun _ h=>(nomatch h),fun {b L n K} hn h=>Ap hn fun n hn=>⟨rfl,fun v=>run (fe hn rfl) ⟨rfl,h⟩⟩⟩
 | don s i=>
  refine⟨p,[],false,G0,Dk.refl p,by decide,fun _ h=>(nomatch h),fun {b L n K} hn h=>Ap hn fun n hn=>?_⟩
  rcases ok.1 with rfl | rfl | rfl <;> exact h
 | sub t=>
  obtain⟨k',w',sh',l'⟩:=t
  obtain⟨hk',-,hsh,-,hK,-⟩:=id ok.2
  refine⟨p,[(left+x,base+sh')],false,G0,Dk.refl p,Nat.le_add_left 1 2,fun c hc=>?_,fun {b L n K} hn h=>?_⟩
  ·rcases List.mem_singleton.mp hc with rfl
   exact⟨iw lx (Int.add_le_add_left (by decide) M),WP hsh hb⟩
  ·obtain⟨z,zs,ez⟩:=MK (a:=a) (b:=b) hK
   refine Ap hn fun n hn=>?_
   show Aj TT (AG TT n) Cw [AL p,Ax 2 w sh L,.tup [Ax k' w' sh' (Ba a b l'),.int x,.int y],.int left,.int base,.undef,.undef,.undef,.undef,.undef,.undef,.undef,.undef,.undef] (Bp [0] K)
   have h:K (.lst .sh [.tup [Ax k' w' sh' (Ba a b l'),.int (left+x),.int (base+sh'),.bool false]]) [AL p]:=h
   rw [ez] at h ⊢
   rcases hk' with rfl | rfl <;> exact h
 | skp w0 sort t=>
  obtain⟨ps,h1,h2,run⟩:=Do (a:=a) (begin_:=left+x) (edge:=left) (size:=y - x) (vert:=false) ok (by rw [yx (w:=w0) hy];exact ok.2.1)
  obtain⟨k',w',sh',l'⟩:=t
  have hk':=ok.2.2.2.1
  have hsh:=ok.2.2.2.2.2.1
  have k4:(!decide (k'=4))=true:=by rcases hk' with rfl | rfl <;> rfl
  refine⟨p,ps.map fun q=>(q,base+sh'),true,G0,Dk.refl p,by rw [List.length_map];exact h1,fun c hc=>?_,fun {b L n K} hn h=>?_⟩
  ·obtain⟨q,hq,rfl⟩:=List.mem_map.mp hc
   exact⟨iw (iq lx (h2 q hq)).1 (Int.add_le_add_left (by decide) M),WP hsh hb⟩
  ·refine Ap hn fun n hn=>BE k4 (run (fe hn rfl) ?_)
   refine EM (g:=fun q=>(q,base+sh')) (t:=Ax k' w' sh' (Ba a b l')) (cp:=true) ?_ ps [] _ ?_ fun u=>?_
   ·exact fun q K k=>k
   ·exact Z0 h1
   ·exact h
theorem NT {a:Addr}{lev N:Nat}{p:PS}{w sh x y left base:Int}{nd:Nd}(G:Good a N p)(hN:N+100≤1000000)(ok:G9 lev 3 nd)(hy:y=x+Gk 3 nd){M:Int}(hM:M≤1000000)(hl:Iv M left)(hb:Iv M base)(hx:Iv 400 x):
  Xd a N p 29 3 w sh x y left base M nd:=by
 have G0:=G.mono (Nat.le_add_right N 40)
 have lx:=ia hb hx
 cases nd with
 | ltr c=>exact absurd ok.1 (by decide)
 | krn c=>
  exact⟨p,[],false,G0,Dk.refl p,by decide,fun _ h=>(nomatch h),fun {b L n K} hn h=>BJ hn fun n hn=>h⟩
 | spc o=>
  obtain⟨p',G',E',run⟩:=Lf (o:=o) (h:=left) (v:=base+x) G hN ok.1 (Int.lt_trans ok.2 (by decide)) (na hl (Int.le_trans hM (by decide))) (na lx (Int.le_trans (Int.add_le_add_right hM 400) (by decide)))
  exact⟨p',[],false,G',E',by decide,fun _ h=>(nomatch h),fun {b L n K} hn h=>BJ hn fun n hn=>⟨rfl,fun v=>run (fe hn rfl) ⟨rfl,h⟩⟩⟩
 | don s i=>
  refine⟨p,[],false,G0,Dk.refl p,by decide,fun _ h=>(nomatch h),fun {b L n K} hn h=>BJ hn fun n hn=>?_⟩
  rcases ok.1 with rfl | rfl | rfl <;> exact h
 | sub t=>
  obtain⟨k',w',sh',l'⟩:=t
  obtain⟨hk',-,hsh,-,hK,-⟩:=id ok.2
  refine⟨p,[(left+sh',base+x+20)],false,G0,Dk.refl p,Nat.le_add_left 1 2,fun c hc=>?_,fun {b L n K} hn h=>?_⟩
  ·rcases List.mem_singleton.mp hc with rfl
   exact⟨WP hsh hl,oI lx⟩
  ·obtain⟨z,zs,ez⟩:=MK (a:=a) (b:=b) hK
   refine BJ hn fun n hn=>?_
   show Aj TT (AG TT n) EV [AL p,Ax 3 w sh L,.tup [Ax k' w' sh' (Ba a b l'),.int x,.int y],.int left,.int base,.undef,.undef,.undef,.undef,.undef,.undef,.undef,.undef,.undef] (Bp [0] K)
   have h:K (.lst .sh [.tup [Ax k' w' sh' (Ba a b l'),.int (left+sh'),.int (base+x+20),.bool false]]) [AL p]:=h
   rw [ez] at h ⊢
   rcases hk' with rfl | rfl <;> exact h
 | skp w0 sort t=>
  obtain⟨ps,h1,h2,run⟩:=Do (a:=a) (begin_:=base+x) (edge:=base) (size:=y - x) (vert:=true) ok (by rw [yx (w:=w0) hy];exact ok.2.1)
  obtain⟨k',w',sh',l'⟩:=t
  have hk':=ok.2.2.2.1
  have hsh:=ok.2.2.2.2.2.1
  have k4:(!decide (k'=4))=true:=by rcases hk' with rfl | rfl <;> rfl
  refine⟨p,ps.map fun q=>(left+sh',q+20),true,G0,Dk.refl p,by rw [List.length_map];exact h1,fun c hc=>?_,fun {b L n K} hn h=>?_⟩
  ·obtain⟨q,hq,rfl⟩:=List.mem_map.mp hc
   exact⟨WP hsh hl,(iq lx (h2 q hq)).2⟩
  ·refine BJ hn fun n hn=>BE k4 (run (fe hn rfl) ?_)
   refine EM (g:=fun q=>(left+sh',q+20)) (t:=Ax k' w' sh' (Ba a b l')) (cp:=true) ?_ ps [] _ ?_ fun u=>?_
   ·exact fun q K k=>k
   ·exact Z0 h1
   ·exact h
theorem NB {a:Addr}{lev:Nat}{p:PS}{w sh x y left base s i:Int}{b:Bool}{L:List V}{n:Nat}{K:V→List V→Prop}(ok:G9 lev 2 (.don s i))(hn:12≤n)(h:K (.lst .sh []) [AL p]):AG TT n 28 [AL p,Ax 2 w sh L,.tup [D0 a b (.don s i),.int x,.int y],.int left,.int base] K:=by
 refine Ap hn fun n hn=>?_
 rcases ok.1 with rfl | rfl | rfl
 all_goals
  exact h
theorem Pl {a:Addr}{lev:Nat}{p:PS}{w sh x y left base s i:Int}{b:Bool}{L:List V}{n:Nat}{K:V→List V→Prop}(ok:G9 lev 3 (.don s i))(hn:12≤n)(h:K (.lst .sh []) [AL p]):AG TT n 29 [AL p,Ax 3 w sh L,.tup [D0 a b (.don s i),.int x,.int y],.int left,.int base] K:=by
 refine BJ hn fun n hn=>?_
 rcases ok.1 with rfl | rfl | rfl
 all_goals
  exact h
noncomputable abbrev Ef:Ss:=(.cons (.ifs (.or (.v 12) (.v 6)) (.cons (.expr (.meth (.var 0) 7 (.val (.v 11) .nil))) .nil) .nil) (.cons (.ifs (.v 12) (.cons (.expr (.meth (.var 0) 6 (.val (.v 10) .nil))) .nil) .nil) (.cons (.assignTup [.var 13,.var 14] (.cons (.a 0 41) (.cons (.a 0 40) .nil))) (.cons (.expr (.call 30 (.bor (.var 0) (.val (.v 9) (.val (.v 10) (.val (.v 11) (.val (.bin .add (.v 4) (.int 1)) .nil))))))) (.cons (.assignTup [.attr (.var 0) 41,.attr (.var 0) 40] (.cons (.v 13) (.cons (.v 14) .nil))) .nil)))))
noncomputable def CH:Nat→Nat
 | 0=>400
 | l+1=>1000+15*CH l
noncomputable def D7 (a:Addr)(lev:Nat)(t:Bx):Prop:=∀(N:Nat) (p:PS) (M left base d:Int),Good a N p→N+3*CH lev+2000≤1000000→M+2000*(lev+1)≤1000000→Iv M left→Iv M base→0≤d→d+lev≤5→
 Ct a (N+CH lev) p fun p'=>∀{b:Bool} {n:Nat} {K:V→List V→Prop},20*lev+20≤n→K .none [AL p']→AG TT n 30 [AL p,He a b t,.int left,.int base,.int d] K
theorem Good.hv {a:Addr}{N:Nat}{p:PS}(G:Good a N p)(h v:Int):Good a N { p with h:=h,v:=v }:=⟨G.byt,G.ra,G.rd,G.fo,G.no,G.na,G.nd,G.dp⟩
theorem fu {N x:Nat}(h:N+x+2200≤1000000):N+10+x+2000≤1000000:=by lia
theorem dQ {M:Int}{lev:Nat}(h:M+2000*(lev+1)≤1000000):M≤(1073741823:Nat):=by lia
theorem P2 {a:Addr}{lev:Nat}{t:Bx}(H:D7 a lev t){N:Nat}{p:PS}{M d:Int}{c:Int×Int}{cp vert:Bool}(G:Good a N p)(hN:N+3*CH lev+2200≤1000000)(hM:M+2000*(lev+1)≤1000000)(h1:Iv M c.1)(h3:Iv M c.2)(hd:0≤d)(hd2:d+1+lev≤5):
  Ct a (N+10+CH lev) p fun p'=>∀{b:Bool} {n:Nat} {s1 s2 s3 s5 s7 s8 u13 u14:V} {K:Fl→List V→Prop},20*lev+20≤n→
   (∀u13 u14,K .next [AL p',s1,s2,s3,.int d,s5,.bool vert,s7,s8,He a b t,.int c.1,.int c.2,.bool cp,u13,u14])→Aj TT (AG TT n) Ef [AL p,s1,s2,s3,.int d,s5,.bool vert,s7,s8,He a b t,.int c.1,.int c.2,.bool cp,u13,u14] K:=by
 obtain⟨k',w',sh',l'⟩:=t
 have MM:=dQ hM
 have cl:(c.1).natAbs≤1073741823:=na h1 MM
 have cl2:(c.2).natAbs≤1073741823:=na h3 MM
 have n25:N+25≤1000000:=Nat.le_trans (Nat.le_trans (Nat.add_le_add_left (by decide:25≤2200) N) (Nat.add_le_add_right (Nat.le_add_right N _) 2200)) hN
 -- going down,going across
 have step1:Ct a (N+5) p fun p1=>∀{b:Bool} {n:Nat} {s1 s2 s3 s5 s7 s8 u13 u14:V} {K:Fl→List V→Prop} {l:Ss},20≤n→
   Aj TT (AG TT n) l [AL p1,s1,s2,s3,.int d,s5,.bool vert,s7,s8,He a b (.mk k' w' sh' l'),.int c.1,.int c.2,.bool cp,u13,u14] K→
   Aj TT (AG TT n) (.cons (.ifs (.or (.v 12) (.v 6)) (.cons (.expr (.meth (.var 0) 7 (.val (.v 11) .nil))) .nil) .nil) l) [AL p,s1,s2,s3,.int d,s5,.bool vert,s7,s8,He a b (.mk k' w' sh' l'),.int c.1,.int c.2,.bool cp,u13,u14] K:=by
  obtain⟨p1,G1,E1,run⟩:=HB (h:=c.2) G (Nat.le_of_succ_le_succ (Nat.le_trans (Nat.add_le_add_left (by decide:21≤25) N) (Nat.le_trans n25 (by decide)))) cl2
  cases hc:(cp||vert) with
  | true=>
   refine⟨p1,G1,E1,fun {b n s1 s2 s3 s5 s7 s8 u13 u14 K l} hn h=>?_⟩
   have fin:Aj TT (AG TT n) (.cons (.expr (.meth (.var 0) 7 (.val (.v 11) .nil))) .nil) [AL p,s1,s2,s3,.int d,s5,.bool vert,s7,s8,He a b (.mk k' w' sh' l'),.int c.1,.int c.2,.bool cp,u13,u14] (fun fl σ=>match fl with
     | .next=>Aj TT (AG TT n) l σ K
     | .ret x=>K (.ret x) σ):=by
    exact⟨rfl,fun v=>run (fe hn rfl) ⟨rfl,h⟩⟩
   cases cp with
   | true=>exact (fin)
   | false=>
    obtain rfl:vert=true:=by simpa using hc
    exact (fin)
  | false=>
   refine⟨p,G.mono (Nat.le_add_right N 5),Dk.refl p,fun {b n s1 s2 s3 s5 s7 s8 u13 u14 K l} hn h=>?_⟩
   rw [Bool.or_eq_false_iff] at hc
   obtain⟨rfl,rfl⟩:=hc
   exact (h)
 obtain⟨p1,G1,E1,R1⟩:=step1
 have step2:Ct a (N+10) p1 fun p2=>∀{b:Bool} {n:Nat} {s1 s2 s3 s5 s7 s8 u13 u14:V} {K:Fl→List V→Prop} {l:Ss},20≤n→
   Aj TT (AG TT n) l [AL p2,s1,s2,s3,.int d,s5,.bool vert,s7,s8,He a b (.mk k' w' sh' l'),.int c.1,.int c.2,.bool cp,u13,u14] K→
   Aj TT (AG TT n) (.cons (.ifs (.v 12) (.cons (.expr (.meth (.var 0) 6 (.val (.v 10) .nil))) .nil) .nil) l) [AL p1,s1,s2,s3,.int d,s5,.bool vert,s7,s8,He a b (.mk k' w' sh' l'),.int c.1,.int c.2,.bool cp,u13,u14] K:=by
  cases cp with
  | true=>
   obtain⟨p2,G2,E2,run⟩:=Ea (h:=c.1) G1 n25 cl
   exact⟨p2,G2,E2,fun {b n s1 s2 s3 s5 s7 s8 u13 u14 K l} hn h=>⟨rfl,fun v=>run (fe hn rfl) ⟨rfl,h⟩⟩⟩
  | false=>
   exact⟨p1,G1.mono (Nat.le_add_right _ 5),Dk.refl p1,fun {b n s1 s2 s3 s5 s7 s8 u13 u14 K l} hn h=>h⟩
 obtain⟨p2,G2,E2,R2⟩:=step2
 obtain⟨p3,G3,E3,R3⟩:=H (N+10) p2 M c.1 c.2 (d+1) G2 (fu hN) hM h1 h3 (Int.le_trans hd (Int.le_of_lt (Int.lt_succ d))) hd2
 refine⟨{ p3 with h:=p2.h,v:=p2.v },G3.hv _ _,(E1.trans E2).trans E3,fun {b n s1 s2 s3 s5 s7 s8 u13 u14 K} hn h=>?_⟩
 have h20:=Nat.le_trans (Nat.le_add_left 20 _) hn
 exact R1 h20 (R2 h20 fun v=>R3 hn ⟨rfl,⟨rfl,⟨rfl,h _ _⟩⟩⟩)
theorem lX {N x c:Nat}(h:N+(x+(10+c))+2200+3*c≤1000000):N+3*c+2200≤1000000:=by lia
theorem nv {N x c:Nat}(h:N+(x+(10+c))+2200+3*c≤1000000):N+10+c+x+2200+3*c≤1000000:=by lia
theorem oB {N x c:Nat}:N+10+c+x=N+(x+(10+c)):=by lia
theorem Jb {a:Addr}{lev:Nat}{t:Bx}(H:D7 a lev t){M d:Int}{cp vert:Bool}(hM:M+2000*(lev+1)≤1000000)(hd:0≤d)(hd2:d+1+lev≤5):∀(cs:List (Int×Int)) (N:Nat) (p:PS),Good a N p→N+cs.length*(10+CH lev)+2200+3*CH lev≤1000000→(∀c∈cs,Iv M c.1∧Iv M c.2)→
  Ct a (N+cs.length*(10+CH lev)) p fun p'=>∀{b:Bool} {n:Nat} {s1 s2 s3 s5 s7 s8 u9 u10 u11 u12 u13 u14:V} {K:Fl→List V→Prop},20*lev+20≤n→
   (∀u9 u10 u11 u12 u13 u14,K .next [AL p',s1,s2,s3,.int d,s5,.bool vert,s7,s8,u9,u10,u11,u12,u13,u14])→
   OU (Aj TT (AG TT n) Ef) [9,10,11,12] (cs.map fun c=>.tup [He a b t,.int c.1,.int c.2,.bool cp]) [AL p,s1,s2,s3,.int d,s5,.bool vert,s7,s8,u9,u10,u11,u12,u13,u14] K
 | [],N,p,G,_,_=>⟨p,by simpa using G,Dk.refl p,fun {b n s1 s2 s3 s5 s7 s8 u9 u10 u11 u12 u13 u14 K} hn h=>h _ _ _ _ _ _⟩
 | c::cs,N,p,G,hN,hc=>by
  have el:(c::cs).length*(10+CH lev)=cs.length*(10+CH lev)+(10+CH lev):=by rw [List.length_cons,Nat.add_mul,Nat.one_mul]
  rw [el] at hN ⊢
  have hb:=hc c (.head _)
  obtain⟨p1,G1,E1,R1⟩:=P2 H (cp:=cp) (vert:=vert) G (lX hN) hM hb.1 hb.2 hd hd2
  obtain⟨p2,G2,E2,R2⟩:=Jb H hM hd hd2 cs (N+10+CH lev) p1 G1 (nv hN) (fun c h=>hc c (.tail _ h))
  refine⟨p2,G2.mono (Nat.le_of_eq oB),E1.trans E2,fun {b n s1 s2 s3 s5 s7 s8 u9 u10 u11 u12 u13 u14 K} hn h=>?_⟩
  obtain⟨k',w',sh',l'⟩:=t
  refine R1 (K:=fun fl σ=>match fl with
   | .next=>OU (Aj TT (AG TT n) Ef) [9,10,11,12] (cs.map fun c=>.tup [He a b (.mk k' w' sh' l'),.int c.1,.int c.2,.bool cp]) σ K
   | .ret y=>K (.ret y) σ) hn fun u13 u14=>?_
  exact R2 hn h
noncomputable abbrev QR:Ss:=(.cons (.forT [9,10,11,12] (.ofL (.v 8)) Ef) .nil)
noncomputable abbrev Eg:Ss:=(.cons (.ifs (.v 6) (.cons (.assign 8 (.call 29 (.bor (.var 0) (.val (.v 1) (.val (.v 7) (.val (.v 2) (.val (.bin .sub (.v 3) (.a 1 21)) .nil))))))) .nil) (.cons (.assign 8 (.call 28 (.bor (.var 0) (.val (.v 1) (.val (.v 7) (.val (.v 2) (.val (.v 3) .nil))))))) .nil)) QR)
noncomputable def Rp:Nat→Nat
 | 0=>0
 | l+1=>3*(10+CH l)
noncomputable def RU:Nat→Nat
 | 0=>0
 | l+1=>3*CH l+2300
noncomputable def Av (lev:Nat):Nat:=40+Rp lev
noncomputable def L8:Nd→Option Bx
 | .sub t=>some t
 | .skp _ _ t=>some t
 | _=>none
theorem kY {lev N:Nat}(h:N+Av lev+RU lev+300≤1000000):N+100≤1000000:=
 Nat.le_trans (Nat.add_le_add (Nat.le_trans (Nat.le_add_right _ _) (Nat.le_add_right _ _)) (by decide:100≤300)) h
theorem nQ {lev:Nat}{M:Int}(h:M+2000*(lev+1)≤1000000):M+20≤1000000:=by lia
theorem kU {M:Int}:M+20+1000≤M+1100:=by rw [Int.add_assoc];exact Int.add_le_add_left (by decide) M
theorem kX {lev:Nat}{M:Int}(h:M+2000*(((lev+1:Nat):Int)+1)≤1000000):M+1100+2000*(lev+1)≤1000000:=by lia
theorem lr {N x c:Nat}(h:N+(40+3*(10+c))+(3*c+2300)+300≤1000000)(k:x≤3*(10+c)):N+40+x+2200+3*c≤1000000:=by lia
theorem kK {N x y:Nat}(k:x≤y):N+40+x≤N+(40+y):=by rw [Nat.add_assoc];exact Nat.add_le_add_left (Nat.add_le_add_left k 40) N
theorem nO {d:Int}{l:Nat}(h:d+((l+1:Nat):Int)≤5):d+1+l≤5:=by lia
theorem SO {a:Addr}{lev:Nat}{k w sh x y left base d:Int}{nd:Nd}(IH:∀t,L8 nd=some t→1≤lev∧D7 a (lev - 1) t)(hk:k=2∨k=3)(ok:G9 lev k nd)(hy:y=x+Gk k nd)(hx:Iv 400 x)
  {N:Nat} {p:PS} {M:Int} (G:Good a N p) (hN:N+Av lev+RU lev+300≤1000000) (hM:M+2000*(lev+1)≤1000000) (hl:Iv M left) (hb:Iv M base) (hd:0≤d) (hd2:d+lev≤5):
  Ct a (N+Av lev) p fun p'=>∀{b:Bool} {L:List V} {n:Nat} {s5 u8 u9 u10 u11 u12 u13 u14:V} {K:Fl→List V→Prop},20*lev+15≤n→
   (∀u7 u8 u9 u10 u11 u12 u13 u14,K .next [AL p',Ax k w sh L,.int left,.int base,.int d,s5,.bool (decide (k=3)),u7,u8,u9,u10,u11,u12,u13,u14])→
   Aj TT (AG TT n) Eg [AL p,Ax k w sh L,.int left,.int base,.int d,s5,.bool (decide (k=3)),.tup [D0 a b nd,.int x,.int y],u8,u9,u10,u11,u12,u13,u14] K:=by
 have part:Cp a (N+40) p (M+1100) fun p1 cs cp=>
   ∀{b:Bool} {L:List V} {n:Nat} {s5 u8 u9 u10 u11 u12 u13 u14:V} {K:Fl→List V→Prop},12≤n→
   (∀s7,Aj TT (AG TT n) QR [AL p1,Ax k w sh L,.int left,.int base,.int d,s5,.bool (decide (k=3)),s7,.lst .sh (cy a b cp nd cs),u9,u10,u11,u12,u13,u14] K)→
   Aj TT (AG TT n) Eg [AL p,Ax k w sh L,.int left,.int base,.int d,s5,.bool (decide (k=3)),.tup [D0 a b nd,.int x,.int y],u8,u9,u10,u11,u12,u13,u14] K:=by
  have hN1:=kY hN
  have hM1:=nQ hM
  rcases hk with rfl | rfl
  ·obtain⟨p1,cs,cp,G1,E1,h1,h2,run⟩:=Kv (w:=w) (sh:=sh) (left:=left) (base:=base) G hN1 ok hy (M:=M) (Int.le_trans (Int.le_add_of_nonneg_right (by decide)) hM1) hl hb hx
   refine⟨p1,cs,cp,G1,E1,h1,fun c hc=>have q:=Int.add_le_add_left (by decide:(1000:Int)≤1100) M;⟨iw (h2 c hc).1 q,iw (h2 c hc).2 q⟩,fun {b L n s5 u8 u9 u10 u11 u12 u13 u14 K} hn h=>?_⟩
   exact fun v=>run hn ⟨rfl,h _⟩
  ·obtain⟨p1,cs,cp,G1,E1,h1,h2,run⟩:=NT (w:=w) (sh:=sh) (left:=left) (base:=base - 20) G hN1 ok hy (M:=M+20) hM1 (iw hl (Int.le_add_of_nonneg_right (by decide))) (ia (x:=-20) hb (by decide)) hx
   refine⟨p1,cs,cp,G1,E1,h1,fun c hc=>have q:=kU (M:=M);⟨iw (h2 c hc).1 q,iw (h2 c hc).2 q⟩,fun {b L n s5 u8 u9 u10 u11 u12 u13 u14 K} hn h=>?_⟩
   exact fun v=>run hn ⟨rfl,h _⟩
 obtain⟨p1,cs,cp,G1,E1,h1,h2,R1⟩:=part
 cases hkid:L8 nd with
 | none=>
  refine⟨p1,G1.mono (Nat.add_le_add_left (Nat.le_add_right 40 _) N),E1,fun {b L n s5 u8 u9 u10 u11 u12 u13 u14 K} hn h=>?_⟩
  refine R1 (Nat.le_trans (by decide) (Nat.le_trans (Nat.le_add_left 15 _) hn)) fun s7=>?_
  have e:cy a b cp nd cs=[]:=by cases nd <;> first | rfl | cases hkid
  rw [e]
  exact h _ _ _ _ _ _ _ _
 | some t=>
  obtain⟨hlev,H⟩:=IH t hkid
  cases lev with
  | zero=>cases hlev
  | succ lev=>
  have H:D7 a lev t:=H
  have nd1:RU (lev+1)=3*CH lev+2300:=rfl
  rw [nd1] at hN
  have lc:cs.length*(10+CH lev)≤3*(10+CH lev):=Nat.mul_le_mul_right _ h1
  have crc:Av (lev+1)=40+3*(10+CH lev):=rfl
  rw [crc] at hN
  obtain⟨p2,G2,E2,R2⟩:=Jb H (cp:=cp) (vert:=decide (k=3)) (M:=M+1100) (kX hM) hd (nO hd2) cs (N+40) p1 G1 (lr hN lc) h2
  refine⟨p2,G2.mono (kK lc),E1.trans E2,fun {b L n s5 u8 u9 u10 u11 u12 u13 u14 K} hn h=>?_⟩
  refine R1 (Nat.le_trans (by decide) (Nat.le_trans (Nat.le_add_left 15 _) hn)) fun s7=>?_
  have e:cy a b cp nd cs=cs.map fun c=>.tup [He a b t,.int c.1,.int c.2,.bool cp]:=by cases nd <;> first | (cases hkid;rfl) | cases hkid
  rw [e]
  exact R2 (Nat.le_trans (Nat.add_le_add_left (by decide:20≤35) _) hn) (h _ _)
theorem Wy {a:Addr}{lev:Nat}{k w sh x y left base d s i:Int}{b:Bool}(hk:k=2∨k=3)(ok:G9 lev k (.don s i)){p:PS}{L:List V}{n:Nat}{s5 u8 u9 u10 u11 u12 u13 u14:V}{K:Fl→List V→Prop}(hn:12≤n)
  (h:∀u7 u8,K .next [AL p,Ax k w sh L,.int left,.int base,.int d,s5,.bool (decide (k=3)),u7,u8,u9,u10,u11,u12,u13,u14]):
  Aj TT (AG TT n) Eg [AL p,Ax k w sh L,.int left,.int base,.int d,s5,.bool (decide (k=3)),.tup [D0 a b (.don s i),.int x,.int y],u8,u9,u10,u11,u12,u13,u14] K:=by
 rcases hk with rfl | rfl <;> rcases id ok.1 with rfl | rfl | rfl
 all_goals first
  | exact fun v=>NB (b:=b) ok hn ⟨rfl,h _ _⟩
  | exact fun v=>Pl (b:=b) ok hn ⟨rfl,h _ _⟩
theorem kL {w:Int}(h:w=0∨w=30∨w=60):Iv 60 w:=by rcases h with rfl | rfl | rfl <;> decide
theorem al {lev:Nat}{k:Int}{nd:Nd}(ok:G9 lev k nd):Iv 60 (Gk k nd):=by
 cases nd with
 | ltr c=>exact iw au (by decide)
 | krn w=>exact⟨Int.le_trans (by decide) ok.1,Int.le_trans ok.2 (by decide)⟩
 | spc o=>exact (by decide:Iv 60 0)
 | don s i=>exact (by decide:Iv 60 0)
 | skp w s t=>exact kL ok.2.1
 | sub t=>
  obtain⟨k',w',sh',l'⟩:=t
  have:=ok.2.2.1
  show Iv 60 (if k=2 then w' else 25)
  split
  ·rcases this with rfl | rfl | rfl | rfl <;> decide
  ·decide
theorem Ad {lev:Nat}{k:Int}{nd:Nd}{t:Bx}(ok:G9 lev k nd)(e:L8 nd=some t):1≤lev∧Cz (lev - 1) t:=by
 cases nd with
 | sub t'=>cases e;exact ok
 | skp w s t'=>cases e;exact⟨ok.1,ok.2.2.2⟩
 | _=>cases e
theorem lW {y:Nat}:(300:Int) - 60*((y+1:Nat):Int)≤300 - 60*y:=by lia
theorem iP {N x c m:Nat}(h:N+(x+c)+m+300≤1000000):N+x+m+300≤1000000:=by lia
theorem mC {y:Nat}:(300:Int) - 60*(y:Int)≤400:=by lia
theorem ma {N x c m:Nat}(h:N+(x+c)+m+300≤1000000):N+c+m+300≤1000000:=by rw [Nat.add_comm x] at h;exact iP h
theorem mY {N x c m:Nat}(h:N+(x+c)+m+300≤1000000):N+c+x+m+300≤1000000:=by rw [Nat.add_assoc N c,Nat.add_comm c];exact h
theorem nR {y:Nat}:(300:Int) - 60*((y+1:Nat):Int)+60=300 - 60*y:=by lia
theorem Gs {a:Addr}{lev:Nat}{k w sh left base d:Int}(IH:∀t,1≤lev→Cz (lev - 1) t→D7 a (lev - 1) t)(hk:k=2∨k=3){M:Int}(hM:M+2000*(lev+1)≤1000000)(hl:Iv M left)(hb:Iv M base)(hd:0≤d)(hd2:d+lev≤5):
  ∀(l:Dt) (x:Int) (N:Nat) (p:PS),ME lev k l→Iv (300 - 60*(l.len:Int)) x→Good a N p→N+l.len*Av lev+RU lev+300≤1000000→
   Ct a (N+l.len*Av lev) p fun p'=>∀{b:Bool} {L:List V} {n:Nat} {s5 u7 u8 u9 u10 u11 u12 u13 u14:V} {K:Fl→List V→Prop},20*lev+15≤n→
    (∀u7 u8 u9 u10 u11 u12 u13 u14,K .next [AL p',Ax k w sh L,.int left,.int base,.int d,s5,.bool (decide (k=3)),u7,u8,u9,u10,u11,u12,u13,u14])→
    Cc (Aj TT (AG TT n) Eg) (fun x σ=>σ.set 7 x) (EN a b k x l) [AL p,Ax k w sh L,.int left,.int base,.int d,s5,.bool (decide (k=3)),u7,u8,u9,u10,u11,u12,u13,u14] K
 | .nil,x,N,p,_,_,G,_=>⟨p,G.mono (Nat.le_add_right _ _),Dk.refl p,fun {b L n s5 u7 u8 u9 u10 u11 u12 u13 u14 K} hn h=>h _ _ _ _ _ _ _ _⟩
 | .cons nd l,x,N,p,ok,hx,G,hN=>by
  have hx:Iv (300 - 60*((l.len+1:Nat):Int)) x:=hx
  have el:(Dt.cons nd l).len*Av lev=l.len*Av lev+Av lev:=by show (l.len+1)*Av lev=_;rw [Nat.add_mul,Nat.one_mul]
  rw [el] at hN ⊢
  have sz:=al ok.1
  by_cases hdon:∃s i,nd=.don s i
  ·obtain⟨s,i,rfl⟩:=hdon
   obtain⟨p2,G2,E2,R2⟩:=Gs IH hk hM hl hb hd hd2 l x N p ok.2 (iw hx (lW (y:=l.len))) G (iP hN)
   refine⟨p2,G2.mono (Nat.add_le_add_left (Nat.le_add_right _ _) N),E2,fun {b L n s5 u7 u8 u9 u10 u11 u12 u13 u14 K} hn h=>?_⟩
   cases b with
   | true=>exact R2 (b:=true) hn h
   | false=>
    refine Wy (b:=false) (K:=fun fl σ=>match fl with
     | .next=>Cc (Aj TT (AG TT n) Eg) (fun x σ=>σ.set 7 x) (EN a false k (x+0) l) σ K
     | .ret y=>K (.ret y) σ) hk ok.1 (Nat.le_trans (by decide) (Nat.le_trans (Nat.le_add_left 15 _) hn)) fun u7 u8=>?_
    have:=R2 (b:=false) (u7:=u7) (u8:=u8) (s5:=s5) (u9:=u9) (u10:=u10) (u11:=u11) (u12:=u12) (u13:=u13) (u14:=u14) (L:=L) hn h
    rw [←Int.add_zero x] at this
    exact this
  ·have hkeep:∀b,BU b nd=true:=fun b=>by cases nd <;> first | rfl | exact absurd ⟨_,_,rfl⟩ hdon
   obtain⟨p1,G1,E1,R1⟩:=SO (x:=x) (y:=x+Gk k nd) (w:=w) (sh:=sh) (left:=left) (base:=base) (d:=d) (fun t e=>⟨(Ad ok.1 e).1,IH t (Ad ok.1 e).1 (Ad ok.1 e).2⟩) hk ok.1 rfl (iw hx (mC (y:=l.len+1))) G (ma hN) hM hl hb hd hd2
   obtain⟨p2,G2,E2,R2⟩:=Gs IH hk hM hl hb hd hd2 l (x+Gk k nd) (N+Av lev) p1 ok.2 (iw (ia hx sz) (Int.le_of_eq (nR (y:=l.len)))) G1 (mY hN)
   refine⟨p2,G2.mono (Nat.le_of_eq (by rw [Nat.add_assoc,Nat.add_comm (Av lev)])),E1.trans E2,fun {b L n s5 u7 u8 u9 u10 u11 u12 u13 u14 K} hn h=>?_⟩
   rw [Q6,hkeep b]
   refine R1 (b:=b) (K:=fun fl σ=>match fl with
     | .next=>Cc (Aj TT (AG TT n) Eg) (fun x σ=>σ.set 7 x) (EN a b k (x+Gk k nd) l) σ K
     | .ret y=>K (.ret y) σ) hn fun u7 u8 u9 u10 u11 u12 u13 u14=>?_
   exact R2 hn h
theorem WB (lev:Nat):6+5*Av lev≤CH lev∧1+6*Av lev+RU lev+300≤3*CH lev+2000:=by
 cases lev with
 | zero=>decide
 | succ l=>
  have e1:Av (l+1)=40+3*(10+CH l):=rfl
  have e2:CH (l+1)=1000+15*CH l:=rfl
  have e3:RU (l+1)=3*CH l+2300:=rfl
  rw [e1,e2,e3]
  clear e1 e2 e3
  exact⟨by lia,by lia⟩
theorem kR {N r c:Nat}(c1:6+5*r≤c)(h:N+3*c+2000≤1000000):N+10≤1000000:=by lia
theorem mM {N r c m x:Nat}(c2:1+6*r+m+300≤3*c+2000)(k:x≤5*r)(h:N+3*c+2000≤1000000):N+1+x+m+300≤1000000:=by lia
theorem kg {N r c x:Nat}(c1:6+5*r≤c)(k:x≤5*r)(h:N+3*c+2000≤1000000):N+1+x+20≤1000000:=by lia
theorem lE {N r c x:Nat}(c1:6+5*r≤c)(k:x≤5*r):N+1+x+5≤N+c:=by lia
theorem fN {n:Nat}(h:n≤5):Iv (300 - 60*(n:Int)) 0:=by unfold Iv;lia
theorem OQ {a:Addr}{lev:Nat}(IH:∀t,1≤lev→Cz (lev - 1) t→D7 a (lev - 1) t)(t:Bx)(ok:Cz lev t):D7 a lev t:=by
 intro N p M left base d G hN hM hl hb hd hd2
 obtain⟨k,w,sh,l⟩:=t
 obtain⟨hk,hw,hsh,hlen,hK,okl⟩:=ok
 obtain⟨c1,c2⟩:=WB lev
 have no:=G.no
 -- opening
 have n10:=kR c1 hN
 have d5:d≤5:=Int.le_trans (Int.le_add_of_nonneg_right (Int.natCast_nonneg lev)) hd2
 have op:∃(p1:PS) (bg:Nat),Good a (N+1) p1∧Dk p p1∧(d=0∧p1=p∨0 < d∧bg=p.oct.length+1∧p1.oct[bg - 1]?=some (.int 141)∧p1.oct.length=bg)∧∀{n:Nat} {K:V→List V→Prop},1≤n→K (.int bg) [AL p1]→AG TT n 68 [AL p,.int d] K:=by
  by_cases e:d=0
  ·exact⟨p,p.oct.length,G.mono (Nat.le_add_right N 1),Dk.refl p,.inl ⟨e,rfl⟩,fun {n K} hn h=>SS hn hd d5 (Nat.le_trans (Nat.add_le_add_right no 10) n10) (fun _=>h) (fun q=>absurd (e▸q) (by decide))⟩
  ·refine⟨p.add [.int 141],(p.add [.int 141]).oct.length,(G.add (BO.one (by decide) (by decide)) (Nat.le_refl 1)),Dk.add p _,.inr ⟨Int.lt_iff_le_and_ne.2 ⟨hd,Ne.symm e⟩,?_,?_,rfl⟩,fun {n K} hn h=>SS hn hd d5 (Nat.le_trans (Nat.add_le_add_right no 10) n10) (fun q=>absurd q e) (fun _=>h)⟩
   ·show (p.oct++[V.int 141]).length=_
    simp
   ·show (p.oct++[V.int 141])[(p.oct++[V.int 141]).length - 1]?=_
    simp
 obtain⟨p1,bg,G1,E1,hbg,ropen⟩:=op
 -- the rows
 have lm:l.len*Av lev≤5*Av lev:=Nat.mul_le_mul_right _ hlen
 obtain⟨p2,G2,E2,rrows⟩:=Gs (w:=w) (sh:=sh) IH hk hM hl hb hd hd2 l 0 (N+1) p1 okl (fN hlen) G1 (mM c2 lm hN)
 -- closing
 have n2:=G2.no
 obtain⟨p3,G3,hp3,rclose⟩:=V3 G2 (kg c1 lm hN) (b:=bg) hd d5 (fun hd0=>by
  rcases hbg with ⟨q,-⟩ | ⟨-,q1,q2,q3⟩
  ·exact absurd (q▸hd0) (by decide)
  ·exact⟨q1▸Nat.le_add_left 1 _,by rw [←q3];exact E2.1,E2.2 _ q2⟩)
 have E3:Dk p p3:=by
  have E12:=E1.trans E2
  rcases hp3 with ⟨-,e⟩ | ⟨-,e⟩ | ⟨hd0,e1,e⟩
  ·exact⟨by rw [e];exact E12.1,fun k h=>by rw [e];exact E12.2 k h⟩
  ·exact⟨by rw [e,List.length_append];exact Nat.le_add_right_of_le E12.1,fun k h=>by
    rw [e,List.getElem?_append_left (List.getElem?_eq_some_iff.mp (E12.2 k h)).1];exact E12.2 k h⟩
  ·rcases hbg with ⟨q,-⟩ | ⟨-,q1,q2,q3⟩
   ·exact absurd (q▸hd0) (by decide)
   ·have e1:=e1.trans q1
    refine⟨by rw [e,List.length_dropLast,e1];exact Nat.le_refl _,fun k h=>?_⟩
    have:=(List.getElem?_eq_some_iff.mp h).1
    rw [e,List.getElem?_dropLast,if_pos (ZN this e1)]
    exact E12.2 k h
 refine⟨p3,G3.mono (lE c1 lm),E3,fun {b n K} hn h=>?_⟩
 refine PY hn fun n hn=>?_
 have n19:=Nat.le_trans (Nat.le_add_left 19 _) hn
 refine⟨rfl,fun v=>ropen (fe n19 rfl) ⟨rfl,PF (a:=a) (b:=b) (fe n19 rfl) hk okl hlen (rrows (Nat.le_trans (Nat.add_le_add_left (by decide:15≤19) _) hn) fun u7 u8 u9 u10 u11 u12 u13 u14=>⟨rfl,fun v=>rclose (fe n19 rfl) ⟨rfl,h⟩⟩)⟩⟩
theorem Xi (a:Addr):∀(lev:Nat) (t:Bx),Cz lev t→D7 a lev t
 | 0,t,ok=>OQ (lev:=0) (fun _ h=>absurd h (by decide)) t ok
 | l+1,t,ok=>OQ (lev:=l+1) (fun t _ ok=>Xi a l t ok) t ok
theorem Gb {n:Nat}{plain:Int}{K:V→List V→Prop}(hn:1≤n)(h:K .none [AM plain .sh []]):AG TT n 60 [.obj true 9 [],.int plain] K:=by
 refine Kg hn fun n hn=>?_
 refine⟨rfl,?_⟩
 refine⟨rfl,?_⟩
 exact h
noncomputable def page0:PS:=⟨[],[],0,0,-1,0,.sh,[],.sh,[]⟩
theorem Of {n:Nat}{K:V→List V→Prop}(hn:2≤n)(h:K .none [AL page0]):AG TT n 61 [.obj true 10 [],.dct false [],.int 5] K:=by
 refine Fc hn fun n hn=>?_
 refine⟨rfl,?_⟩
 refine⟨rfl,?_⟩
 refine⟨rfl,?_⟩
 refine⟨rfl,?_⟩
 refine⟨rfl,?_⟩
 refine⟨rfl,?_⟩
 refine Gb (fe hn rfl) ?_
 refine⟨rfl,?_⟩
 refine Gb (fe hn rfl) ?_
 refine⟨rfl,?_⟩
 refine⟨rfl,?_⟩
 exact h
theorem Ga (lo:Int)(oct:List V):Al lo oct .sh []:=⟨.inr ⟨rfl,rfl⟩,fun j r h=>(by rw [List.getElem?_nil] at h;cases h),fun i j a b _ h=>(by rw [List.getElem?_nil] at h;cases h)⟩
theorem Pm (a:Addr):Good a 0 page0:=⟨BO.nil,Ga _ _,Ga _ _,.inl rfl,Nat.le_refl _,Nat.le_refl _,Nat.le_refl _,by decide⟩
theorem Mm {n:Nat}{k w sh:Int}{L:List V}{K:V→List V→Prop}(hn:3≤n)(hk:k=2∨k=3)(hw:w=30∨w=40∨w=0∨w=25)(h:K .none []):AG TT n 32 [Ax k w sh L,.int 3,.int 4] K:=by
 refine K4 hn fun n hn=>?_
 rcases hk with rfl | rfl
 all_goals
  refine Ae (fe hn rfl) (by decide) (by decide) ?_
  refine Ae (fe hn rfl) (by decide) (by decide) ?_
  refine Aq (decide_eq_false (by lia)) ?_
  exact h
noncomputable def zs:Nat→List V→List V
 | 0,o=>o
 | m+1,o=>zs m (o++BG 0 4)
theorem XB:∀(m:Nat) (o:List V),BO o→BO (zs m o)∧(zs m o).length=o.length+4*m
 | 0,o,h=>⟨h,rfl⟩
 | m+1,o,h=>by
  obtain⟨a,b⟩:=XB m (o++BG 0 4) (h.app (Ai _ _))
  refine⟨a,b.trans ?_⟩
  rw [List.length_append,AU];lia
noncomputable abbrev Nh:Ss:=(.cons (.expr (.call 20 (.bor (.attr (.var 5) 4) (.val (.ite (.cmp .lt (.v 6) (.lenP (.var 2))) (.call 2 (.val (.rd (.at_ (.var 2) (.var 6))) .nil)) (.int 0)) (.val (.int 4) .nil))))) .nil)
noncomputable def Ov (p:PS)(o:List V):V:=AL { p with oct:=o }
theorem LZ {n:Nat}{s0 s1 s3 s4:V}{K:Fl→List V→Prop}(hn:1≤n):∀(m:Nat) (j:Int) (o:List V) (u:V),1≤j→o.length+4*m+10≤16000000→(∀u,K .next [s0,s1,.tup [.int 1],s3,s4,Ov page0 (zs m o),u])→
  Cc (Aj TT (AG TT n) Nh) (fun x σ=>σ.set 6 x) (upTo j m) [s0,s1,.tup [.int 1],s3,s4,Ov page0 o,u] K
 | 0,j,o,u,_,_,h=>h u
 | m+1,j,o,u,hj,hl,h=>by
  intro v
  refine Aq (decide_eq_false (show ¬ j < (1:Int) by lia)) ?_
  refine AQ (r:=4) hn (by decide) (by show o.length+4≤16000000;lia) ?_
  refine⟨rfl,?_⟩
  exact LZ hn m (j+1) (o++BG 0 4) (.int j) (by lia) (by rw [List.length_append,AU];lia) h
noncomputable def fw (o:List V):V:=.obj true 11 [(12,.int 5),(4,.lst .sh o),(44,.dct true []),(48,.int 0),(49,.int (-1)),(50,.int 0),(51,.int 0),(47,.int 0)]
noncomputable def jf (o:List V):V:=.obj true 11 [(12,.int 5),(4,.lst .sh o),(44,.dct false []),(48,.int 0),(49,.int (-1)),(50,.int 0),(51,.int 0),(47,.int 0)]
noncomputable def Zj (f:Bool)(o:List V)(fo:List (Int×V))(last tall wide deep:Int):V:=.obj f 11 [(12,.int 5),(4,.lst (if f then .sh else .fr) o),(44,.dct false fo),(48,.int 1),(49,.int last),(50,.int tall),(51,.int wide),(47,.int deep)]
noncomputable abbrev SB:Ss:=(.cons (.setattr (.var 0) 44 .dct0) (.cons (.setattr (.var 0) 48 (.int 0)) (.cons (.setattr (.var 0) 49 (.int (-1))) (.cons (.setattr (.var 0) 50 (.int 0)) (.cons (.setattr (.var 0) 51 (.int 0)) (.cons (.setattr (.var 0) 47 (.int 0)) .nil))))))
theorem Rh {n:Nat}{o:List V}{u:V}{K:V→List V→Prop}(h:K .none [fw o]):Aj TT (AG TT n) SB [.obj true 11 [(12,.int 5),(4,.lst .sh o)],.int 5,u] (Bp [0] K):=by
 refine⟨rfl,?_⟩
 refine⟨rfl,?_⟩
 refine⟨rfl,?_⟩
 refine⟨rfl,?_⟩
 refine⟨rfl,?_⟩
 refine⟨rfl,?_⟩
 exact h
theorem LG {n:Nat}{K:Fl→List V→Prop}:∀(cs:List Nat) (o:List V) (u:V),o.length+cs.length≤1000000→(∀u,K .next [.obj true 11 [(12,.int 5),(4,.lst .sh (o++cs.map fun c=>.int (c:Int)))],.int 5,u])→
  Cc (Aj TT (AG TT n) (.cons (.append (.attr (.var 0) 4) (.prim .ord (.cons (.v 2) .nil))) .nil)) (fun x σ=>σ.set 2 x) (cs.map fun c=>.str [c]) [.obj true 11 [(12,.int 5),(4,.lst .sh o)],.int 5,u] K
 | [],o,u,_,h=>by
  have:=h u
  rw [List.map_nil,List.append_nil] at this
  exact this
 | c::cs,o,u,hl,h=>by
  have hl:o.length+(cs.length+1)≤1000000:=hl
  intro v
  refine⟨by lia,?_⟩
  refine⟨rfl,?_⟩
  refine LG cs (o++[.int c]) (.str [c]) (by rw [List.length_append,List.length_singleton];lia) fun u=>?_
  have:=h u
  rw [List.append_assoc];exact this
noncomputable def ES:List Nat:=[103,108,117,101,112,97,103,101]
theorem UE:∃o:List V,BO o∧o.length≤100∧∀{n:Nat} {K:V→List V→Prop},4≤n→K .none [fw o]→AG TT n 62 [.obj true 11 [],.int 5] K:=by
 obtain⟨ds,hb,hl,U⟩:=Hi
 refine⟨[V.int 247,V.int 2]++ds++[V.int 8]++ES.map fun c=>.int (c:Int),?_,by simp [hl,ES],fun {n K} hn h=>?_⟩
 ·have b2:BO [.int 247,.int 2]:=(BO.one (i:=247) (by decide) (by decide)).app (BO.one (i:=2) (by decide) (by decide))
  refine ((b2.app hb).app (BO.one (by decide) (by decide))).app fun x hx=>?_
  obtain⟨c,hc,rfl⟩:=List.mem_map.mp hx
  have:c < 256:=by
   have:∀c∈ES,c < 256:=by decide
   exact this c hc
  exact⟨_,rfl,by lia,by lia⟩
 ·refine F0 hn fun n hn=>?_
  refine AT (fe hn rfl) (by decide) (by decide) ?_
  refine⟨rfl,?_⟩
  refine⟨rfl,?_⟩
  intro v
  refine U (by lia) (by simp) ?_
  refine⟨rfl,?_⟩
  intro v
  refine⟨by simp [hl],?_⟩
  refine⟨rfl,?_⟩
  refine LG ES ([V.int 247,V.int 2]++ds++[V.int 8]) .undef (by simp [hl,ES]) fun u=>?_
  exact Rh h
noncomputable abbrev XO:Ss:=(.cons (.append (.attr (.var 5) 4) (.glob 80)) (.cons (.setattr (.var 0) 49 (.lenP (.attr (.var 0) 4))) (.cons (.extend (.attr (.var 0) 4) (.a 5 4)) (.cons (.setattr (.var 0) 44 (.a 5 44)) (.cons (.augAttr (.var 0) 48 (.int 1)) (.cons (.setattr (.var 0) 50 (.prim .max2 (.cons (.a 0 50) (.cons (.bin .add (.bin .add (.a 1 21) (.a 1 12)) (.v 4)) .nil)))) (.cons (.setattr (.var 0) 51 (.prim .max2 (.cons (.a 0 51) (.cons (.bin .add (.a 1 22) (.v 3)) .nil)))) (.cons (.setattr (.var 0) 47 (.prim .max2 (.cons (.a 0 47) (.cons (.a 5 47) .nil)))) .nil))))))))
theorem Rk {n:Nat}{o:List V}{p:PS}{k w sh:Int}{L:List V}{u2 u6:V}{K:V→List V→Prop}(ho:o.length≤1000)(hp:p.oct.length+10≤1000000)
  (h:K .none [Zj true (o++(p.oct++[V.int 140])) p.fo o.length (max 0 (20+5+4)) (max 0 (w+3)) (max 0 p.deep)]):
  Aj TT (AG TT n) XO [jf o,Ax k w sh L,u2,.int 3,.int 4,AL p,u6] (Bp [0] K):=by
 intro v
 refine⟨by lia,?_⟩
 refine⟨rfl,?_⟩
 refine⟨rfl,?_⟩
 intro v
 refine⟨by show o.length+(p.oct++[V.int 140]).length≤16000000;rw [List.length_append,List.length_singleton];lia,?_⟩
 refine⟨rfl,?_⟩
 refine⟨rfl,?_⟩
 refine⟨rfl,rfl,?_⟩
 refine⟨rfl,?_⟩
 refine⟨rfl,?_⟩
 refine⟨rfl,?_⟩
 exact h
noncomputable abbrev a9:Ss:=(.cons (.expr (.call 20 (.bor (.attr (.var 5) 4) (.val (.a 0 49) (.val (.int 4) .nil))))) (.cons (.expr (.call 30 (.bor (.var 5) (.val (.v 1) (.val (.v 3) (.val (.bin .add (.v 4) (.a 1 21)) (.val (.int 0) .nil))))))) XO))
theorem UF {n:Nat}{s0 s1 s3 s4 u:V}{K:Fl→List V→Prop}(hn:2≤n)(h:∀u,K .next [s0,s1,.tup [.int 1],s3,s4,Ov page0 (zs 9 ([V.int 139]++BG 1 4)),u]):
  Cc (Aj TT (AG TT n) Nh) (fun x σ=>σ.set 6 x) (upTo 0 10) [s0,s1,.tup [.int 1],s3,s4,Ov page0 [V.int 139],u] K:=by
 rw [show upTo 0 10=.int 0::upTo (0+1) 9 from Zh 0 9]
 obtain⟨ll,hll⟩:∃ll,ll=upTo (0+1) 9:=⟨_,rfl⟩
 rw [←hll]
 intro v
 refine Bo hn (by decide) (by decide) ?_
 refine AQ (r:=4) (fe hn rfl) (by decide) (by decide) ?_
 refine⟨rfl,?_⟩
 have:=LZ (Nat.le_of_succ_le hn) 9 (0+1) ([V.int 139]++BG 1 4) (.int 0) (by decide) (by simp [AU]) h
 rw [←hll] at this
 exact this
theorem Yc {a:Addr}{t:Bx}(ok:Cz 2 t){o:List V}(hB:BO o)(hl:o.length≤100):∃(oct:List V) (fo:List (Int×V)) (last tall wide deep:Int),BO oct∧oct.length≤900000∧(fo=[]∨fo=[(1,BV a)])∧
  ∀{b:Bool} {n:Nat} {K:V→List V→Prop},100≤n→K .none [Zj true oct fo last tall wide deep]→AG TT n 75 [fw o,He a b t,.tup [.int 1],.int 3,.int 4] K:=by
 have H:=Xi a 2 t ok
 obtain⟨k,w,sh,l⟩:=t
 obtain⟨hk,hw,-⟩:=ok
 obtain⟨D1,hD1⟩:∃D,BG 1 4=D:=⟨_,rfl⟩
 obtain⟨D2,hD2⟩:∃D,BG (-1) 4=D:=⟨_,rfl⟩
 have B1:BO D1∧D1.length=4:=by rw [←hD1];exact⟨Ai _ _,AU _ _⟩
 have B2:BO D2∧D2.length=4:=by rw [←hD2];exact⟨Ai _ _,AU _ _⟩
 have B0:BO (zs 9 ([V.int 139]++D1))∧(zs 9 ([V.int 139]++D1)).length=41:=by
  obtain⟨x,y⟩:=XB 9 ([V.int 139]++D1) ((BO.one (by decide) (by decide)).app B1.1)
  exact⟨x,y.trans (by simp [B1.2])⟩
 have G0:Good a 100 { page0 with oct:=zs 9 ([V.int 139]++D1)++D2 }:=by
  have:=Pm a
  refine⟨B0.1.app B2.1,Ga _ _,Ga _ _,.inl rfl,?_,Nat.zero_le _,Nat.zero_le _,⟨Int.le_refl 0,(by decide:(0:Int)≤5)⟩⟩
  show (zs 9 ([V.int 139]++D1)++D2).length≤100
  rw [List.length_append,B0.2,B2.2];decide
 obtain⟨p,G,E,run⟩:=H 100 _ 1000 3 24 0 G0 (by decide) (by decide) (by decide) (by decide) (by decide) (by decide)
 have np:p.oct.length≤100+CH 2:=G.no
 have c2:CH 2=106000:=by decide
 rw [c2] at np
 refine⟨o++(p.oct++[V.int 140]),p.fo,o.length,max 0 (20+5+4),max 0 (w+3),max 0 p.deep,hB.app (G.byt.app (BO.one (by decide) (by decide))),by simp;lia,G.fo,fun {b n K} hn h=>?_⟩
 refine GF hn fun n hn=>?_
 refine Mm (fe hn rfl) hk hw ?_
 refine Of (fe hn rfl) ?_
 intro v
 refine⟨by decide,?_⟩
 refine⟨rfl,?_⟩
 refine⟨by decide,?_⟩
 refine UF (by lia) fun u=>?_
 rw [hD1]
 have fin:Aj TT (AG TT n) a9 [jf o,Ax k w sh (Ba a b l),.tup [.int 1],.int 3,.int 4,Ov page0 (zs 9 ([V.int 139]++D1)),u] (Bp [0] K):=by
  intro v
  refine AQ (r:=4) (fe hn rfl) (by decide) (by show (zs 9 ([V.int 139]++D1)).length+4≤16000000;rw [B0.2];decide) ?_
  refine⟨rfl,?_⟩
  intro v
  rw [hD2]
  refine run (b:=b) (by lia) ?_
  refine⟨rfl,?_⟩
  exact Rk (by lia) (by lia) h
 exact fin
theorem Og:∀{l:List V},BO l→∃k,Dc l=some k∧∀i∈k,0≤i∧i < 256
 | [],_=>⟨[],rfl,fun _ h=>(nomatch h)⟩
 | x::l,h=>by
  obtain⟨i,rfl,h1,h2⟩:=h x (.head _)
  obtain⟨k,e,hk⟩:=Og (l:=l) fun y hy=>h y (.tail _ hy)
  refine⟨i::k,?_,fun j hj=>?_⟩
  ·show (vInt (.int i)).bind (fun i=>(Dc l).map (i::·))=_
   rw [e];rfl
  ·rcases List.mem_cons.mp hj with rfl | hj
   ·exact⟨h1,h2⟩
   ·exact hk j hj
theorem LI {n:Nat}{s0 s2:V}{K:Fl→List V→Prop}:∀(m:Nat) (j:Int) (o:List V) (u:V),o.length+m≤16000000→(∀u,K .next [s0,.lst .sh (o++List.replicate m (.int 223)),s2,u])→
  Cc (Aj TT (AG TT n) (.cons (.append (.var 1) (.glob 83)) .nil)) (fun x σ=>σ.set 3 x) (upTo j m) [s0,.lst .sh o,s2,u] K
 | 0,j,o,u,_,h=>by
  have:=h u
  rw [List.replicate_zero,List.append_nil] at this
  exact this
 | m+1,j,o,u,hl,h=>by
  intro v
  refine⟨df hl,?_⟩
  refine⟨rfl,?_⟩
  refine LI m (j+1) (o++[.int 223]) (.int j) (by rw [List.length_append];exact iy hl) fun u=>?_
  have:=h u
  rw [List.append_assoc];exact this
noncomputable abbrev Xe:Ss:=(.cons (.append (.var 1) (.glob 82)) (.cons (.expr (.call 20 (.bor (.var 1) (.val (.lenP (.attr (.var 0) 4)) (.val (.int 4) .nil))))) (.cons (.append (.var 1) (.glob 59)) (.cons (.for_ 3 (.rng .range1 (.cons (.bin .add (.int 4) (.bin .mod (.neg (.lenP (.var 1))) (.int 4))) .nil)) (.cons (.append (.var 1) (.glob 83)) .nil)) (.cons (.ret (.prim .bytes (.cons (.v 1) .nil))) .nil)))))
theorem Qz (oct:List V)(fo:List (Int×V))(last tall wide deep:Int){o:List V}(hB:BO o)(hl:o.length≤950000):∃bs,∀{n:Nat} {u2:V} {K:V→List V→Prop},2≤n→K (.bytes bs) []→Aj TT (AG TT n) Xe [Zj false oct fo last tall wide deep,.lst .sh o,u2,.undef] (Bp [] K):=by
 obtain⟨D,hD⟩:∃D,BG (oct.length:Int) 4=D:=⟨_,rfl⟩
 have B1:BO D∧D.length=4:=by rw [←hD];exact⟨Ai _ _,AU _ _⟩
 obtain⟨o2,ho2⟩:∃o2,o2=o++[V.int 249]++D++[V.int 2]:=⟨_,rfl⟩
 have B2:BO o2∧o2.length=o.length+6:=by
  subst ho2
  refine⟨((hB.app (BO.one (by decide) (by decide))).app B1.1).app (BO.one (by decide) (by decide)),by simp [B1.2]⟩
 have hm:0≤4+Int.fmod (-(o2.length:Int)) 4∧4+Int.fmod (-(o2.length:Int)) 4≤8:=by
  exact⟨Int.add_nonneg (by decide) (Int.fmod_nonneg_of_pos _ (by decide)),Int.add_le_add_left (Int.le_of_lt (Int.fmod_lt_of_pos _ (by decide:(0:Int) < 4))) 4⟩
 have B3:BO (o2++List.replicate (4+Int.fmod (-(o2.length:Int)) 4).toNat (.int 223)):=B2.1.app fun x hx=>by
  obtain⟨-,rfl⟩:=List.mem_replicate.mp hx
  exact⟨_,rfl,by decide,by decide⟩
 obtain⟨bs,e,hbs⟩:=Og B3
 refine⟨bs,fun {n u2 K} hn h=>?_⟩
 have fin:Aj TT (AG TT n) (.cons (.for_ 3 (.rng .range1 (.cons (.bin .add (.int 4) (.bin .mod (.neg (.lenP (.var 1))) (.int 4))) .nil)) (.cons (.append (.var 1) (.glob 83)) .nil)) (.cons (.ret (.prim .bytes (.cons (.v 1) .nil))) .nil)) [Zj false oct fo last tall wide deep,.lst .sh o2,u2,.undef] (Bp [] K):=by
  refine⟨by decide,?_⟩
  refine⟨⟨Int.le_trans (by decide) hm.1,Int.le_trans hm.2 (by decide)⟩,?_⟩
  refine LI _ 0 o2 .undef (Nat.le_trans (Nat.add_le_add_left (Int.toNat_le.2 hm.2:_≤8) _) (by rw [B2.2];exact Nat.le_trans (Nat.add_le_add_right hl 14) (by decide))) fun u=>?_
  show AI (Dc _) _
  refine pS e ?_
  exact⟨hbs,h⟩
 intro v
 refine⟨by lia,?_⟩
 refine⟨rfl,?_⟩
 intro v
 refine AQ (r:=4) (fe hn rfl) (by decide) (by rw [List.length_append,List.length_singleton];lia) ?_
 refine⟨rfl,?_⟩
 rw [hD]
 intro v
 refine⟨by simp [B1.2];lia,?_⟩
 refine⟨rfl,?_⟩
 rw [ho2] at fin
 exact fin
noncomputable abbrev bv:Ss:=(.cons (.for_ 2 (.of (.slRev (.prim .sorted (.cons (.a 0 44) .nil)))) (.cons (.expr (.call 24 (.bor (.var 1) (.val (.idx (.a 0 44) (.v 2)) .nil)))) .nil)) Xe)
theorem VV {a:Addr}(oct:List V)(fo:List (Int×V))(hfo:fo=[]∨fo=[(1,BV a)])(last tall wide deep:Int){o:List V}(hB:BO o)(hl:o.length≤940000):∃bs,∀{n:Nat} {K:V→List V→Prop},4≤n→K (.bytes bs) []→Aj TT (AG TT n) bv [Zj false oct fo last tall wide deep,.lst .sh o,.undef,.undef] (Bp [] K):=by
 rcases hfo with rfl | rfl
 ·obtain⟨bs,H⟩:=Qz oct [] last tall wide deep hB (by lia)
  refine⟨bs,fun {n K} hn h=>?_⟩
  exact H (by lia) h
 ·obtain⟨ds,hb,hdl,D⟩:=FG
  obtain⟨bs,H⟩:=Qz oct [(1,BV a)] last tall wide deep (hB.app hb) (by rw [List.length_append];lia)
  refine⟨bs,fun {n K} hn h=>?_⟩
  intro v
  refine D (by lia) (by lia) ?_
  refine⟨rfl,?_⟩
  exact H (by lia) h
theorem YJ {a:Addr}{oct:List V}{fo:List (Int×V)}(hfo:fo=[]∨fo=[(1,BV a)]){last tall wide deep:Int}(hB:BO oct)(hl:oct.length≤900000):∃bs,∀{n:Nat} {K:V→List V→Prop},6≤n→K (.bytes bs) []→AG TT n 76 [Zj false oct fo last tall wide deep] K:=by
 obtain⟨du,hu,hul,U⟩:=Hi
 obtain⟨D1,hD1⟩:∃D,BG last 4=D:=⟨_,rfl⟩
 obtain⟨D2,hD2⟩:∃D,BG tall 4=D:=⟨_,rfl⟩
 obtain⟨D3,hD3⟩:∃D,BG wide 4=D:=⟨_,rfl⟩
 obtain⟨D4,hD4⟩:∃D,BG deep 2=D:=⟨_,rfl⟩
 obtain⟨D5,hD5⟩:∃D,BG 1 2=D:=⟨_,rfl⟩
 have B1:BO D1∧D1.length=4:=by rw [←hD1];exact⟨Ai _ _,AU _ _⟩
 have B2:BO D2∧D2.length=4:=by rw [←hD2];exact⟨Ai _ _,AU _ _⟩
 have B3:BO D3∧D3.length=4:=by rw [←hD3];exact⟨Ai _ _,AU _ _⟩
 have B4:BO D4∧D4.length=2:=by rw [←hD4];exact⟨Ai _ _,AU _ _⟩
 have B5:BO D5∧D5.length=2:=by rw [←hD5];exact⟨Ai _ _,AU _ _⟩
 have H:=VV oct fo hfo last tall wide deep (o:=oct++[V.int 248]++D1++du++D2++D3++D4++D5) (((((((hB.app (BO.one (by decide) (by decide))).app B1.1).app hu).app B2.1).app B3.1).app B4.1).app B5.1) (by simp [B1.2,B2.2,B3.2,B4.2,B5.2,hul];lia)
 obtain⟨bs,H⟩:=H
 refine⟨bs,fun {n K} hn h=>?_⟩
 refine Gc hn fun n hn=>?_
 intro v
 refine⟨by lia,?_⟩
 refine⟨rfl,?_⟩
 intro v
 refine AQ (r:=4) (fe hn rfl) (by decide) (by simp;lia) ?_
 refine⟨rfl,?_⟩
 rw [hD1]
 dsimp only [List.set]
 intro v
 refine U (by lia) (by simp [B1.2];lia) ?_
 refine⟨rfl,?_⟩
 dsimp only [List.set]
 intro v
 refine AQ (r:=4) (fe hn rfl) (by decide) (by simp [B1.2,hul];lia) ?_
 refine⟨rfl,?_⟩
 rw [hD2]
 dsimp only [List.set]
 intro v
 refine AQ (r:=4) (fe hn rfl) (by decide) (by simp [B1.2,hul,B2.2];lia) ?_
 refine⟨rfl,?_⟩
 rw [hD3]
 dsimp only [List.set]
 intro v
 refine AQ (r:=2) (fe hn rfl) (by decide) (by simp [B1.2,hul,B2.2,B3.2];lia) ?_
 refine⟨rfl,?_⟩
 rw [hD4]
 dsimp only [List.set]
 intro v
 refine AQ (r:=2) (fe hn rfl) (by decide) (by simp [B1.2,hul,B2.2,B3.2,B4.2];lia) ?_
 refine⟨rfl,?_⟩
 rw [hD5]
 dsimp only [List.set]
 exact H (by lia) h
theorem ZK {a:Addr}{t:Bx}(ok:Cz 2 t):∃bs,∀{b:Bool} {n:Nat} {K:V→List V→Prop},110≤n→K (.bytes bs) []→AG TT n 49 [He a b t] K:=by
 obtain⟨o,hB,hl,W0⟩:=UE
 obtain⟨oct,fo,last,tall,wide,deep,hB1,hl1,hfo,S⟩:=Yc (a:=a) ok hB hl
 obtain⟨bs,D⟩:=YJ (last:=last) (tall:=tall) (wide:=wide) (deep:=deep) hfo hB1 hl1
 refine⟨bs,fun {b n K} hn h=>?_⟩
 obtain⟨k,w,sh,l⟩:=t
 refine OV hn fun n hn=>?_
 refine W0 (by lia) ?_
 refine⟨rfl,?_⟩
 intro v
 refine S (b:=b) (by lia) ?_
 refine⟨rfl,?_⟩
 refine⟨rfl,?_⟩
 refine D (by lia) ?_
 exact h
mutual
noncomputable def Ux:Bx→V
 | .mk k w sh l=>.tup [.int k,.int w,.int sh,.lst .fr (Gp l)]
noncomputable def Kw:Nd→V
 | .ltr c=>.tup [.int 0,.int c]
 | .krn w=>.tup [.int 1,.int w]
 | .spc o=>.tup [.int 2,.int o]
 | .don s i=>.tup [.int s,.int i]
 | .skp w sort t=>.tup [.int 6,.int w,.int sort,Ux t]
 | .sub t=>.tup [.int 7,Ux t]
noncomputable def Gp:Dt→List V
 | .nil=>[]
 | .cons x l=>Kw x::Gp l
end
theorem OL {n:Nat}{w:Int}{K:V→List V→Prop}(hn:4≤n)(hw:0≤w∧w≤60)(h:K .none [.obj true 0 [(22,.int w),(17,.int 0),(36,.int 0),(16,.int 0),(37,.int 0)]]):AG TT n 51 [.obj true 0 [],.int w] K:=by
 refine KM hn fun n hn=>?_
 refine AT (fe hn rfl) (by decide) (by decide) ?_
 refine AT (fe hn rfl) (by decide) (by decide) ?_
 refine Ae (fe hn rfl) (by lia) (by lia) ?_
 refine⟨rfl,?_⟩
 refine Ae (fe hn rfl) (by decide) (by decide) ?_
 refine⟨rfl,?_⟩
 refine⟨rfl,?_⟩
 refine Ae (fe hn rfl) (by decide) (by decide) ?_
 refine⟨rfl,?_⟩
 refine⟨rfl,?_⟩
 exact h
theorem NS {n:Nat}{a:Addr}{c:Int}{K:V→List V→Prop}(hn:4≤n)(hc:c=65∨c=66)(h:K .none [.obj true 1 [(24,BV a),(23,.int c)]]):AG TT n 52 [.obj true 1 [],BV a,.int c] K:=by
 refine Mo hn fun n hn=>?_
 refine⟨rfl,?_⟩
 refine Mg (fe hn rfl) (by lia) (by lia) ?_
 refine⟨rfl,?_⟩
 exact h
theorem PU {n:Nat}{k w:Int}{L:List V}{K:V→List V→Prop}(hn:4≤n)(hk:k=2∨k=3)(hw:w=30∨w=40∨w=0∨w=25)
  (h:K .none [.obj true 2 [(5,.int k),(22,.int w),(21,.int 20),(12,.int 5),(9,.lst .fr L),(31,.int 0),(30,.int 0),(29,.int 0),(28,.tup [.int 0,.int 1])]]):AG TT n 53 [.obj true 2 [],.int k,.int w,.int 20,.int 5,.lst .fr L] K:=by
 refine Oc hn fun n hn=>?_
 refine AT (fe hn rfl) (by lia) (by lia) ?_
 refine⟨rfl,?_⟩
 refine Ae (fe hn rfl) (by lia) (by lia) ?_
 refine⟨rfl,?_⟩
 refine Ae (fe hn rfl) (by decide) (by decide) ?_
 refine⟨rfl,?_⟩
 refine Ae (fe hn rfl) (by decide) (by decide) ?_
 refine⟨rfl,?_⟩
 refine⟨rfl,?_⟩
 refine⟨rfl,?_⟩
 refine⟨rfl,?_⟩
 refine⟨rfl,?_⟩
 refine⟨rfl,?_⟩
 exact h
theorem Op {n:Nat}{w:Int}{K:V→List V→Prop}(hn:4≤n)(hw : -7≤w∧w≤28)(h:K .none [.obj true 3 [(22,.int w),(0,.int 1)]]):AG TT n 54 [.obj true 3 [],.int w,.int 1] K:=by
 refine Ma hn fun n hn=>?_
 refine AT (fe hn rfl) (by decide) (by decide) ?_
 refine Ae (fe hn rfl) (by lia) (by lia) ?_
 refine⟨rfl,?_⟩
 refine⟨rfl,?_⟩
 exact h
theorem N1 {n:Nat}{a:Addr}{b:Bool}{w sort k' w' sh':Int}{l':List V}{K:V→List V→Prop}(hn:4≤n)(hs:sort=1∨sort=2∨sort=3)(hk:k'=2∨k'=3)
  (h:K .none [.obj true 4 [(33,Ll w),(0,.int sort),(32,Ax k' w' sh' l')]]):AG TT n 55 [.obj true 4 [],Ll w,.int sort,Ax k' w' sh' l'] K:=by
 refine Mk hn fun n hn=>?_
 refine AT (fe hn rfl) (by lia) (by lia) ?_
 refine BE (decide_eq_true (by lia)) ?_
 refine Aq (show (false==decide (sort≤3))=false by rw [decide_eq_true (show sort≤3 by lia)];rfl) ?_
 refine BE (decide_eq_true (by lia)) ?_
 refine Aq (show (!decide (k'≤4))=false by rw [decide_eq_true (show k'≤4 by lia)];rfl) ?_
 refine⟨rfl,?_⟩
 refine⟨rfl,?_⟩
 refine⟨rfl,?_⟩
 exact h
theorem JJ {n:Nat}{o:Int}{K:V→List V→Prop}(hn:4≤n)(ho:0≤o∧o < 8)(h:K .none [.obj true 5 [(4,.bytes [o,7])]]):AG TT n 56 [.obj true 5 [],.bytes [o,7]] K:=by
 refine IN hn fun n hn=>?_
 refine AT (fe hn rfl) (by lia) (by lia) ?_
 refine AT (fe hn rfl) (by decide) (by decide) ?_
 refine⟨rfl,?_⟩
 exact h
theorem M9 {n:Nat}{i:Int}{t:V}{ts:List V}{K:V→List V→Prop}(hn:4≤n)(hi:0≤i∧i≤1000000)(h:K .none [.obj true 6 [(2,.int i),(1,.tup ts)]]):AG TT n 57 [.obj true 6 [],.int i,.tup ts] K:=by
 refine Kb hn fun n hn=>?_
 refine Bo (fe hn rfl) (by lia) (by lia) ?_
 refine⟨rfl,?_⟩
 refine⟨rfl,?_⟩
 exact h
theorem OG {n:Nat}{i:Int}{s:List Nat}{K:V→List V→Prop}(hn:4≤n)(hi:0≤i∧i≤1000000)(h:K .none [.obj true 7 [(2,.int i),(3,.str s)]]):AG TT n 58 [.obj true 7 [],.int i,.str s] K:=by
 refine IU hn fun n hn=>?_
 refine Bo (fe hn rfl) (by lia) (by lia) ?_
 refine⟨rfl,?_⟩
 refine⟨rfl,?_⟩
 exact h
theorem Ms {n:Nat}{i:Int}{K:V→List V→Prop}(hn:4≤n)(hi:0≤i∧i≤1000000)(h:K .none [.obj true 8 [(2,.int i)]]):AG TT n 59 [.obj true 8 [],.int i] K:=by
 refine Gm hn fun n hn=>?_
 refine Bo (fe hn rfl) (by lia) (by lia) ?_
 refine⟨rfl,?_⟩
 exact h
noncomputable def J6 (a:Addr)(lev:Nat)(t:Bx):Prop:=∀{b:Bool} {n:Nat} {K:V→List V→Prop},20*lev+20≤n→K (He a b t) []→AG TT n 47 [Ux t,BV a,.bool b] K
theorem Y1 {a:Addr}{lev:Nat}{k:Int}{nd:Nd}(IH:∀t,L8 nd=some t→1≤lev∧J6 a (lev - 1) t)(ok:G9 lev k nd){b:Bool}{n:Nat}{K:V→List V→Prop}(hn:20*lev+15≤n)
  (h:∀y,(∀K':V→Prop,K' (D0 a b nd)→Cq y K')→K y []):AG TT n 48 [Kw nd,BV a,.bool b] K:=by
 cases nd with
 | ltr c=>
  refine A3 hn fun n hn=>?_
  refine NS (fe hn rfl) ok.2 ?_
  exact h _ fun K' k=>k
 | krn w=>
  refine A3 hn fun n hn=>?_
  refine Op (fe hn rfl) ok ?_
  exact h _ fun K' k=>k
 | spc o=>
  have ho:0≤o∧o < 8:=ok
  refine A3 hn fun n hn=>?_
  refine⟨?_,?_⟩
  ·intro i hi
   rcases List.mem_cons.mp hi with rfl | hi
   ·lia
   ·rcases List.mem_singleton.mp hi with rfl
    decide
  refine JJ (fe hn rfl) ho ?_
  exact h _ fun K' k=>k
 | don s i=>
  obtain⟨hs,hi⟩:=id ok
  rcases hs with rfl | rfl | rfl
  ·refine A3 hn fun n hn=>?_
   refine M9 (t:=.none) (fe hn rfl) hi ?_
   exact h _ fun K' k=>k
  ·refine A3 hn fun n hn=>?_
   refine OG (fe hn rfl) hi ?_
   exact h _ fun K' k=>k
  ·refine A3 hn fun n hn=>?_
   refine Ms (fe hn rfl) hi ?_
   exact h _ fun K' k=>k
 | skp w sort t=>
  obtain⟨hl,M⟩:=IH t rfl
  obtain⟨k',w',sh',l'⟩:=t
  obtain⟨-,hw,hs,⟨hk',-⟩⟩:=id ok
  refine A3 hn fun n hn=>?_
  refine OL (fe hn rfl) (by lia) ?_
  refine M (b:=b) (Zs hl hn rfl) ?_
  refine N1 (a:=a) (b:=b) (fe hn rfl) hs hk' ?_
  exact h _ fun K' k=>k
 | sub t=>
  obtain⟨hl,M⟩:=IH t rfl
  obtain⟨k',w',sh',l'⟩:=t
  refine A3 hn fun n hn=>?_
  refine M (b:=b) (Zs hl hn rfl) ?_
  exact h _ fun K' k=>k
noncomputable abbrev OI:E:=(.or (.not (.v 2)) (.or (.cmp .lt (.rd (.at_ (.var 4) (.lit 0))) (.int 3)) (.cmp .gt (.rd (.at_ (.var 4) (.lit 0))) (.int 5))))
noncomputable abbrev O0:E:=(.call 48 (.val (.v 4) (.val (.v 1) (.val (.v 2) .nil))))
theorem Rv {a:Addr}{n lev:Nat}{k:Int}{nd:Nd}{b:Bool}{t u:V}{K:V→List V→Prop}(ok:G9 lev k nd)(h:K (.bool (BU b nd)) [t,BV a,.bool b,u,Kw nd]):WE TT (AG TT n) OI [t,BV a,.bool b,u,Kw nd] K:=by
 cases b with
 | false=>
  cases nd <;> exact h
 | true=>
  cases nd with
  | don s i=>
   rcases ok.1 with rfl | rfl | rfl <;> exact h
  | skp w s t=>exact h
  | sub t=>exact h
  | _=>exact h
theorem G5 {a:Addr}{lev n:Nat}{k:Int}{b:Bool}{t u:V}{K:List V→List V→Prop}(IH:∀t,1≤lev→Cz (lev - 1) t→J6 a (lev - 1) t)(hn:20*lev+15≤n):∀(l:Dt) (acc:List V) (x:V),ME lev k l→acc.length+l.len < 1000000→
  (∀x,K (acc++Ba a b l) [t,BV a,.bool b,u,x])→Cj (WE TT (AG TT n) OI) (WE TT (AG TT n) O0) 4 (Gp l) acc [t,BV a,.bool b,u,x] K
 | .nil,acc,x,_,_,h=>by
  have:=h x
  rw [show Ba a b .nil=[] from rfl,List.append_nil] at this
  exact this
 | .cons nd l,acc,x,ok,hl,h=>by
  have hl:acc.length+(l.len+1) < 1000000:=hl
  rw [ED] at h
  refine Rv (nd:=nd) ok.1 ?_
  cases hk:BU b nd with
  | false=>
   rw [hk] at h
   exact G5 IH hn l acc .undef ok.2 (Nat.lt_of_succ_lt hl) h
  | true=>
   rw [hk] at h
   have go:WE TT (AG TT n) O0 [t,BV a,.bool b,u,Kw nd] fun y σ'=>Cq y fun y=>acc.length < 16000000∧Cj (WE TT (AG TT n) OI) (WE TT (AG TT n) O0) 4 (Gp l) (acc++[y]) (σ'.set 4 .undef) K:=by
    have call:AG TT n 48 [Kw nd,BV a,.bool b] (fun r Bl=>A0 TT [] Bl [t,BV a,.bool b,u,Kw nd] fun σ=>Cq r fun y=>acc.length < 16000000∧Cj (WE TT (AG TT n) OI) (WE TT (AG TT n) O0) 4 (Gp l) (acc++[y]) (σ.set 4 .undef) K):=by
     refine Y1 (nd:=nd) (b:=b) (fun t e=>⟨(Ad ok.1 e).1,IH t (Ad ok.1 e).1 (Ad ok.1 e).2⟩) ok.1 hn fun y hy=>?_
     refine hy (fun y=>acc.length < 16000000∧Cj (WE TT (AG TT n) OI) (WE TT (AG TT n) O0) 4 (Gp l) (acc++[y]) [t,BV a,.bool b,u,.undef] K) ⟨V5 hl,?_⟩
     refine G5 IH hn l (acc++[D0 a b nd]) .undef ok.2 (by rw [List.length_append];exact Zt hl) fun x=>?_
     have:=h x
     rw [List.append_assoc];exact this
    cases nd <;> exact call
   exact go
theorem Ld {a:Addr}{lev:Nat}(IH:∀t,1≤lev→Cz (lev - 1) t→J6 a (lev - 1) t)(t:Bx)(ok:Cz lev t):J6 a lev t:=by
 intro b n K hn h
 obtain⟨k,w,sh,l⟩:=t
 obtain⟨hk,hw,hsh,hlen,hK,okl⟩:=ok
 refine NG hn fun n hn=>?_
 refine G5 IH (by lia) l [] .undef okl (by simp;lia) fun x=>?_
 refine PU (fe hn rfl) hk hw ?_
 refine⟨rfl,?_⟩
 exact h
theorem UL (a:Addr):∀(lev:Nat) (t:Bx),Cz lev t→J6 a lev t
 | 0,t,ok=>Ld (lev:=0) (fun _ h=>absurd h (by decide)) t ok
 | l+1,t,ok=>Ld (lev:=l+1) (fun t _ ok=>UL a l t ok) t ok
mutual
noncomputable def Yx (b:Bool):Bx→V
 | .mk k w sh l=>.tup [.int k,.int w,.int 20,.int 5,.int sh,.int 0,.int 0,.tup [.int 0,.int 1],.tup (KY b l)]
noncomputable def XM (b:Bool):Nd→V
 | .ltr c=>.tup [.int 0,.int 1,.int c]
 | .krn w=>.tup [.int 5,.int w,.int 1]
 | .spc o=>.tup [.int 13,.int 0,.tup [.int o,.int 7]]
 | .don s i=>if s=3 then .tup [.int 13,.int 1,.int i,.tup [.tup [.int 11,.int 97],.tup [.int 0,.int 3]]] else if s=4 then .tup [.int 13,.int 2,.int i,.tup [.int 97]] else .tup [.int 13,.int 3,.int i]
 | .skp w sort t=>.tup [.int 6,.tup [.int w,.int 0,.int 0,.int 0,.int 0],.int sort,Yx b t]
 | .sub t=>Yx b t
noncomputable def KY (b:Bool):Dt→List V
 | .nil=>[]
 | .cons x l=>Ha (BU b x) (XM b x::KY b l) (KY b l)
end
theorem TN (b:Bool)(x:Nd)(l:Dt):KY b (.cons x l)=Ha (BU b x) (XM b x::KY b l) (KY b l):=rfl
noncomputable def HE (a:Addr)(b:Bool)(lev:Nat)(t:Bx):Prop:=∀{n:Nat} {d:Int} {K:V→List V→Prop},20*lev+20≤n→0≤d→d+2*lev≤20→K (Yx b t) []→AG TT n 9 [He a b t,.int d] K
theorem VG {n:Nat}{w:Int}{K:V→List V→Prop}(hn:1≤n)(h:K (.tup [.int w,.int 0,.int 0,.int 0,.int 0]) []):AG TT n 64 [Ll w] K:=by
 refine Ka hn fun n hn=>?_
 exact h
theorem Wp {a:Addr}{lev:Nat}{k:Int}{nd:Nd}{b:Bool}(IH:∀t,L8 nd=some t→1≤lev∧HE a b (lev - 1) t)(ok:G9 lev k nd){n:Nat}{d:Int}{K:V→List V→Prop}(hn:20*lev+8≤n)(hd:0≤d)(hd2:d+2*lev≤21)(h:K (XM b nd) []):AG TT n 9 [D0 a b nd,.int d] K:=by
 cases nd with
 | ltr c=>
  refine Au hn fun n hn=>?_
  refine Am (fe hn rfl) (by lia) ?_
  exact h
 | krn w=>
  refine Au hn fun n hn=>?_
  refine Am (fe hn rfl) (by lia) ?_
  exact h
 | spc o=>
  refine Au hn fun n hn=>?_
  refine Am (fe hn rfl) (by lia) ?_
  refine BD hn fun n hn=>?_
  refine Ar hn fun n hn=>?_
  refine⟨by simp,?_⟩
  exact h
 | don s i=>
  rcases id ok.1 with rfl | rfl | rfl
  ·refine Au hn fun n hn=>?_
   refine Am (fe hn rfl) (by lia) ?_
   refine BD hn fun n hn=>?_
   refine Ar hn fun n hn=>?_
   exact h
  ·refine Au hn fun n hn=>?_
   refine Am (fe hn rfl) (by lia) ?_
   refine BD hn fun n hn=>?_
   refine Ar hn fun n hn=>?_
   refine⟨by decide,?_⟩
   exact h
  ·refine Au hn fun n hn=>?_
   refine Am (fe hn rfl) (by lia) ?_
   refine BD hn fun n hn=>?_
   refine Ar hn fun n hn=>?_
   exact h
 | skp w sort t=>
  obtain⟨hl,D⟩:=IH t rfl
  obtain⟨k',w',sh',l'⟩:=t
  refine Au hn fun n hn=>?_
  refine Am (fe hn rfl) (by lia) ?_
  refine⟨rfl,?_⟩
  refine VG (fe hn rfl) ?_
  refine D (Zs hl hn rfl) (by lia) (by lia) ?_
  exact h
 | sub t=>
  obtain⟨hl,D⟩:=IH t rfl
  exact D (Zs hl hn rfl) hd (by lia) h
theorem Gy {a:Addr}{lev n:Nat}{k d:Int}{b:Bool}{s0:V}{K:List V→List V→Prop}(IH:∀t,1≤lev→Cz (lev - 1) t→HE a b (lev - 1) t)(hn:20*lev+8≤n)(hd:0≤d)(hd2:d+2*lev≤21):∀(l:Dt) (acc:List V) (x:V),ME lev k l→acc.length+l.len < 1000000→
  (∀x,K (acc++KY b l) [s0,.int d,x])→Bn (WE TT (AG TT n) (.call 9 (.val (.v 2) (.val (.v 1) .nil)))) 2 (Ba a b l) acc [s0,.int d,x] K
 | .nil,acc,x,_,_,h=>by
  have:=h x
  rw [show KY b .nil=[] from rfl,List.append_nil] at this
  exact this
 | .cons nd l,acc,x,ok,hl,h=>by
  have hl:acc.length+(l.len+1) < 1000000:=hl
  rw [TN] at h
  rw [ED]
  cases hk:BU b nd with
  | false=>
   rw [hk] at h
   exact Gy IH hn hd hd2 l acc x ok.2 (Nat.lt_of_succ_lt hl) h
  | true=>
   rw [hk] at h
   have fzD:∀K':V→Prop,K' (XM b nd)→Cq (XM b nd) K':=fun K' k=>by
    cases nd with
    | don s i=>rcases ok.1.1 with rfl | rfl | rfl <;> exact k
    | sub t=>obtain⟨k',w',sh',l'⟩:=t;exact k
    | _=>exact k
   have call:AG TT n 9 [D0 a b nd,.int d] (fun r Bl=>A0 TT [] Bl [s0,.int d,D0 a b nd] fun σ=>Cq r fun y=>acc.length < 16000000∧Bn (WE TT (AG TT n) (.call 9 (.val (.v 2) (.val (.v 1) .nil)))) 2 (Ba a b l) (acc++[y]) (σ.set 2 .undef) K):=by
    refine Wp (fun t e=>⟨(Ad ok.1 e).1,IH t (Ad ok.1 e).1 (Ad ok.1 e).2⟩) ok.1 hn hd hd2 ?_
    refine fzD (fun y=>acc.length < 16000000∧Bn (WE TT (AG TT n) (.call 9 (.val (.v 2) (.val (.v 1) .nil)))) 2 (Ba a b l) (acc++[y]) [s0,.int d,.undef] K) ⟨V5 hl,?_⟩
    refine Gy IH hn hd hd2 l (acc++[XM b nd]) .undef ok.2 (by rw [List.length_append];exact Zt hl) fun x=>?_
    have:=h x
    rw [List.append_assoc];exact this
   cases nd with
   | don s i=>rcases ok.1.1 with rfl | rfl | rfl <;> exact call
   | sub t=>obtain⟨k',w',sh',l'⟩:=t;exact call
   | _=>exact call
theorem OY {a:Addr}{lev n:Nat}{k d:Int}{b:Bool}{l:Dt}{K:V→List V→Prop}(IH:∀t,1≤lev→Cz (lev - 1) t→HE a b (lev - 1) t)(hn:20*lev+9≤n)(hd:0≤d)(hd2:d+2*lev≤21)(ok:ME lev k l)(hl:l.len≤5)(h:K (.tup (KY b l)) []):AG TT n 10 [.lst .fr (Ba a b l),.int d] K:=by
 refine GD hn fun n hn=>?_
 refine Gy IH (by lia) hd hd2 l [] .undef ok (by simp;lia) fun x=>?_
 exact h
theorem LN {a:Addr}{b:Bool}{lev:Nat}(IH:∀t,1≤lev→Cz (lev - 1) t→HE a b (lev - 1) t)(t:Bx)(ok:Cz lev t):HE a b lev t:=by
 intro n d K hn hd hd2 h
 obtain⟨k,w,sh,l⟩:=t
 obtain⟨hk,hw,hsh,hlen,hK,okl⟩:=ok
 rcases hk with rfl | rfl
 all_goals
  refine Au hn fun n hn=>?_
  refine Am (fe hn rfl) (by lia) ?_
  refine⟨⟨by simp,by simp,by simp⟩,?_⟩
  refine OY IH (by lia) (by lia) (by lia) okl hlen ?_
  refine⟨⟨by simp,by simp,by simp⟩,?_⟩
  exact h
theorem SH (a:Addr)(b:Bool):∀(lev:Nat) (t:Bx),Cz lev t→HE a b lev t
 | 0,t,ok=>LN (lev:=0) (fun _ h=>absurd h (by decide)) t ok
 | l+1,t,ok=>LN (lev:=l+1) (fun t _ ok=>SH a b l t ok) t ok
theorem HR {f:V→V→Option Bool}:∀{l:List V},(∀x∈l,f x x=some true)→HN f l l=some true
 | [],_=>rfl
 | x::l,h=>by
  show aC (f x x) (HN f l l)=some true
  rw [h x (.head _),HR (l:=l) fun y hy=>h y (.tail _ hy)]
  rfl
theorem AS (m:Nat)(i:Int):Id (m+1) (.int i) (.int i)=some true:=congrArg some (decide_eq_true rfl)
theorem BC {m:Nat}{l:List V}(h:∀x∈l,Id m x x=some true):Id (m+1) (.tup l) (.tup l)=some true:=HR h
theorem U1 {m:Nat}{o p:O}{l:List V}(h:∀x∈l,Id m x x=some true):Id (m+1) (.lst o l) (.lst p l)=some true:=HR h
theorem all_cons {P:V→Prop}{x:V}{l:List V}(h:P x)(k:∀y∈l,P y):∀y∈x::l,P y:=fun y hy=>by
 rcases List.mem_cons.mp hy with rfl | hy
 ·exact h
 ·exact k y hy
theorem BW {P:V→Prop}:∀y∈([]:List V),P y:=fun y hy=>(nomatch hy)
theorem GG {m:Nat}(l:List Int):Id (m+2) (.tup (l.map .int)) (.tup (l.map .int))=some true:=BC fun x hx=>by
 obtain⟨i,-,rfl⟩:=List.mem_map.mp hx
 exact AS m i
noncomputable def Oz (b:Bool)(lev:Nat)(t:Bx):Prop:=∀m,3*lev+6≤m→Id m (Yx b t) (Yx b t)=some true
theorem Zd {lev:Nat}{k:Int}{nd:Nd}{b:Bool}(IH:∀t,L8 nd=some t→1≤lev∧Oz b (lev - 1) t)(ok:G9 lev k nd){m:Nat}(hm:3*lev+4≤m):Id m (XM b nd) (XM b nd)=some true:=by
 obtain⟨m,rfl⟩:∃j,m=j+4:=⟨m - 4,by lia⟩
 cases nd with
 | ltr c=>exact BC (all_cons (AS _ _) (all_cons (AS _ _) (all_cons (AS _ _) BW)))
 | krn w=>exact BC (all_cons (AS _ _) (all_cons (AS _ _) (all_cons (AS _ _) BW)))
 | spc o=>exact BC (all_cons (AS _ _) (all_cons (AS _ _) (all_cons (GG [o,7]) BW)))
 | don s i=>
  rcases id ok.1 with rfl | rfl | rfl
  ·exact BC (all_cons (AS _ _) (all_cons (AS _ _) (all_cons (AS _ _) (all_cons (BC (all_cons (BC (all_cons (AS _ _) (all_cons (AS _ _) BW))) (all_cons (BC (all_cons (AS _ _) (all_cons (AS _ _) BW))) BW))) BW))))
  ·exact BC (all_cons (AS _ _) (all_cons (AS _ _) (all_cons (AS _ _) (all_cons (GG [97]) BW))))
  ·exact BC (all_cons (AS _ _) (all_cons (AS _ _) (all_cons (AS _ _) BW)))
 | skp w sort t=>
  obtain⟨hl,D⟩:=IH t rfl
  exact BC (all_cons (AS _ _) (all_cons (GG [w,0,0,0,0]) (all_cons (AS _ _) (all_cons (D _ (by lia)) BW))))
 | sub t=>
  obtain⟨hl,D⟩:=IH t rfl
  exact D _ (by lia)
theorem MF {lev:Nat}{k:Int}{b:Bool}(IH:∀t,1≤lev→Cz (lev - 1) t→Oz b (lev - 1) t){m:Nat}(hm:3*lev+4≤m):∀(l:Dt),ME lev k l→∀x∈KY b l,Id m x x=some true
 | .nil,_,x,hx=>nomatch (show x∈([]:List V) from hx)
 | .cons nd l,ok,x,hx=>by
  rw [TN] at hx
  cases hk:BU b nd with
  | false=>rw [hk] at hx;exact MF IH hm l ok.2 x hx
  | true=>
   rw [hk] at hx
   rcases List.mem_cons.mp hx with rfl | hx
   ·exact Zd (fun t e=>⟨(Ad ok.1 e).1,IH t (Ad ok.1 e).1 (Ad ok.1 e).2⟩) ok.1 hm
   ·exact MF IH hm l ok.2 x hx
theorem Om {b:Bool}{lev:Nat}(IH:∀t,1≤lev→Cz (lev - 1) t→Oz b (lev - 1) t)(t:Bx)(ok:Cz lev t):Oz b lev t:=by
 intro m hm
 obtain⟨k,w,sh,l⟩:=t
 obtain⟨-,-,-,-,-,okl⟩:=ok
 obtain⟨m,rfl⟩:∃j,m=j+3:=⟨m - 3,by lia⟩
 refine BC (all_cons (AS _ _) (all_cons (AS _ _) (all_cons (AS _ _) (all_cons (AS _ _) (all_cons (AS _ _) (all_cons (AS _ _) (all_cons (AS _ _) (all_cons (GG [0,1]) (all_cons ?_ BW)))))))))
 exact BC (MF IH (by lia) l okl)
theorem XI (b:Bool):∀(lev:Nat) (t:Bx),Cz lev t→Oz b lev t
 | 0,t,ok=>Om (lev:=0) (fun _ h=>absurd h (by decide)) t ok
 | l+1,t,ok=>Om (lev:=l+1) (fun t _ ok=>XI b l t ok) t ok
mutual
noncomputable def Oy:Bx→List (Int×Int)
 | .mk _ _ _ l=>Ce l
noncomputable def IK:Nd→List (Int×Int)
 | .don s i=>[(s,i)]
 | .sub t=>Oy t
 | _=>[]
noncomputable def Ce:Dt→List (Int×Int)
 | .nil=>[]
 | .cons x l=>IK x++Ce l
end
noncomputable def Ew (b:Bool)(ps:List (Int×Int)):List V:=match b with
 | true=>[]
 | false=>ps.map fun p=>Ww p.1 p.2
theorem Sw (b:Bool)(x y:List (Int×Int)):Ew b (x++y)=Ew b x++Ew b y:=by
 cases b
 ·exact List.map_append
 ·rfl
theorem KJ (b:Bool)(x:List (Int×Int)):(Ew b x).length≤x.length:=by
 cases b
 ·exact Nat.le_of_eq (List.length_map ..)
 ·exact Nat.zero_le _
noncomputable def nc:Nat→Nat
 | 0=>1
 | l+1=>5*nc l+1
theorem X6 (lev:Nat):1≤nc lev:=by cases lev with
 | zero=>exact Nat.le_refl 1
 | succ l=>exact Nat.le_add_left 1 _
noncomputable def Iw (lev:Nat)(t:Bx):Prop:=(Oy t).length≤5*nc lev∧∀p∈Oy t,p.1=3∨p.1=4∨p.1=5
theorem WH {lev:Nat}{k:Int}{nd:Nd}(IH:∀t,L8 nd=some t→1≤lev∧Iw (lev - 1) t)(ok:G9 lev k nd):(IK nd).length≤nc lev∧∀p∈IK nd,p.1=3∨p.1=4∨p.1=5:=by
 cases nd with
 | don s i=>exact⟨X6 lev,fun p hp=>by rcases List.mem_singleton.mp hp with rfl;exact ok.1⟩
 | sub t=>
  obtain⟨hl,D⟩:=IH t rfl
  obtain⟨lev,rfl⟩:∃l,lev=l+1:=⟨lev - 1,by lia⟩
  refine⟨?_,D.2⟩
  have:=D.1
  rw [Nat.add_sub_cancel] at this
  show (Oy t).length≤5*nc lev+1
  lia
 | _=>exact⟨Nat.zero_le _,fun p hp=>(nomatch hp)⟩
theorem Ow {lev:Nat}{k:Int}(IH:∀t,1≤lev→Cz (lev - 1) t→Iw (lev - 1) t):∀(l:Dt),ME lev k l→(Ce l).length≤l.len*nc lev∧∀p∈Ce l,p.1=3∨p.1=4∨p.1=5
 | .nil,_=>⟨Nat.zero_le _,fun p hp=>nomatch (show p∈([]:List (Int×Int)) from hp)⟩
 | .cons nd l,ok=>by
  obtain⟨a,b⟩:=WH (fun t e=>⟨(Ad ok.1 e).1,IH t (Ad ok.1 e).1 (Ad ok.1 e).2⟩) ok.1
  obtain⟨c,d⟩:=Ow IH l ok.2
  constructor
  ·show (IK nd++Ce l).length≤(l.len+1)*nc lev
   rw [List.length_append,Nat.add_mul,Nat.one_mul,Nat.add_comm]
   exact Nat.add_le_add c a
  ·intro p hp
   rcases List.mem_append.mp (show p∈IK nd++Ce l from hp) with h | h
   ·exact b p h
   ·exact d p h
theorem Lm {lev:Nat}(IH:∀t,1≤lev→Cz (lev - 1) t→Iw (lev - 1) t)(t:Bx)(ok:Cz lev t):Iw lev t:=by
 obtain⟨k,w,sh,l⟩:=t
 obtain⟨-,-,-,hl,-,okl⟩:=ok
 obtain⟨a,b⟩:=Ow IH l okl
 exact⟨Nat.le_trans a (Nat.mul_le_mul_right _ hl),b⟩
theorem JZ:∀(lev:Nat) (t:Bx),Cz lev t→Iw lev t
 | 0,t,ok=>Lm (lev:=0) (fun _ h=>absurd h (by decide)) t ok
 | l+1,t,ok=>Lm (lev:=l+1) (fun t _ ok=>JZ l t ok) t ok
noncomputable def KA (a:Addr)(b:Bool)(lev:Nat)(t:Bx):Prop:=∀{n:Nat} {d:Int} {K:V→List V→Prop},10*lev+10≤n→0≤d→d+lev≤20→K (.lst .sh (Ew b (Oy t))) []→AG TT n 31 [He a b t,.int d] K
noncomputable abbrev Os:Ss:=(.cons (.ifs (.or (.cmp .eq (.a 3 5) (.glob 15)) (.cmp .eq (.a 3 5) (.glob 14))) (.cons (.extend (.var 2) (.call 31 (.val (.v 3) (.val (.bin .add (.v 1) (.int 1)) .nil)))) .nil) (.cons (.ifs (.and (.cmp .eq (.a 3 5) (.glob 4)) (.cmp .ne (.a 3 0) (.glob 7))) (.cons (.append (.var 2) (.v 3)) .nil) .nil) .nil)) .nil)
theorem Re {a:Addr}{b:Bool}{lev:Nat}{k:Int}{nd:Nd}(hk:BU b nd=true)(IH:∀t,L8 nd=some t→1≤lev∧KA a b (lev - 1) t)(ok:G9 lev k nd){n:Nat}{d:Int}{s0:V}{f:List V}{K:Fl→List V→Prop}(hn:10*lev+5≤n)(hd:0≤d)(hd2:d+lev≤20)(hl:f.length+(IK nd).length≤1000000)
  (h:∀u,K .next [s0,.int d,.lst .sh (f++Ew b (IK nd)),u]):Aj TT (AG TT n) Os [s0,.int d,.lst .sh f,D0 a b nd] K:=by
 cases nd with
 | don s i=>
  obtain rfl:b=false:=by simpa [BU] using hk
  have hl:f.length+1≤1000000:=hl
  rcases id ok.1 with rfl | rfl | rfl
  all_goals
   intro v
   refine⟨by lia,?_⟩
   refine⟨rfl,?_⟩
   exact h _
 | sub t=>
  obtain⟨hlev,D⟩:=IH t rfl
  have hl:f.length+(Oy t).length≤1000000:=hl
  have hlen:=KJ b (Oy t)
  obtain⟨k',w',sh',l'⟩:=t
  obtain⟨hk',-⟩:=id ok.2
  have go:Aj TT (AG TT n) (.cons (.extend (.var 2) (.call 31 (.val (.v 3) (.val (.bin .add (.v 1) (.int 1)) .nil)))) .nil) [s0,.int d,.lst .sh f,Ax k' w' sh' (Ba a b l')] (fun fl σ=>match fl with
    | .next=>Aj TT (AG TT n) .nil σ K
    | .ret x=>K (.ret x) σ):=by
   intro v
   refine D (Zs hlev hn rfl) (by lia) (by lia) ?_
   refine⟨by lia,?_⟩
   refine⟨rfl,?_⟩
   exact h _
  rcases hk' with rfl | rfl
  ·exact (go)
  ·exact (go)
 | ltr c=>
  have:=h (D0 a b (.ltr c))
  rw [show Ew b (IK (.ltr c))=[] by cases b <;> rfl,List.append_nil] at this
  exact (((this)))
 | krn c=>
  have:=h (D0 a b (.krn c))
  rw [show Ew b (IK (.krn c))=[] by cases b <;> rfl,List.append_nil] at this
  exact (((this)))
 | spc c=>
  have:=h (D0 a b (.spc c))
  rw [show Ew b (IK (.spc c))=[] by cases b <;> rfl,List.append_nil] at this
  exact (((this)))
 | skp w s t=>
  have:=h (D0 a b (.skp w s t))
  rw [show Ew b (IK (.skp w s t))=[] by cases b <;> rfl,List.append_nil] at this
  exact (((this)))
theorem HI {a:Addr}{b:Bool}{lev n:Nat}{k d:Int}{s0:V}{K:Fl→List V→Prop}(IH:∀t,1≤lev→Cz (lev - 1) t→KA a b (lev - 1) t)(hn:10*lev+5≤n)(hd:0≤d)(hd2:d+lev≤20):∀(l:Dt) (f:List V) (u:V),ME lev k l→f.length+(Ce l).length≤1000000→
  (∀u,K .next [s0,.int d,.lst .sh (f++Ew b (Ce l)),u])→Cc (Aj TT (AG TT n) Os) (fun x σ=>σ.set 3 x) (Ba a b l) [s0,.int d,.lst .sh f,u] K
 | .nil,f,u,_,_,h=>by
  have:=h u
  rw [show Ew b (Ce .nil)=[] by cases b <;> rfl,List.append_nil] at this
  exact this
 | .cons nd l,f,u,ok,hl,h=>by
  rw [show Ce (.cons nd l)=IK nd++Ce l from rfl] at h hl
  rw [List.length_append] at hl
  rw [Sw,←List.append_assoc] at h
  rw [ED]
  cases hk:BU b nd with
  | false=>
   have e:Ew b (IK nd)=[]:=by
    cases nd <;> first | (cases hk;done) | skip
    cases b
    ·cases hk
    ·rfl
   rw [e,List.append_nil] at h
   exact HI IH hn hd hd2 l f u ok.2 (by lia) h
  | true=>
   refine Re hk (fun t e=>⟨(Ad ok.1 e).1,IH t (Ad ok.1 e).1 (Ad ok.1 e).2⟩) ok.1 hn hd hd2 (by lia) fun u=>?_
   refine HI IH hn hd hd2 l _ u ok.2 (by rw [List.length_append];have:=KJ b (IK nd);lia) h
theorem LD {a:Addr}{b:Bool}{lev:Nat}(hlev:lev≤3)(IH:∀t,1≤lev→Cz (lev - 1) t→KA a b (lev - 1) t)(t:Bx)(ok:Cz lev t):KA a b lev t:=by
 intro n d K hn hd hd2 h
 have PW:=(JZ lev t ok).1
 obtain⟨k,w,sh,l⟩:=t
 obtain⟨-,-,-,hlen,-,okl⟩:=ok
 have hp:(Ce l).length≤1000000:=by
  have PW:(Ce l).length≤5*nc lev:=PW
  have:nc lev≤1000:=by
   have e:lev=0∨lev=1∨lev=2∨lev=3:=by lia
   rcases e with rfl | rfl | rfl | rfl <;> decide
  lia
 refine PC hn fun n hn=>?_
 refine Aq (decide_eq_false (show ¬ ((60:Int) < d) by lia)) ?_
 refine HI IH (by lia) hd hd2 l [] .undef okl (by simpa using hp) fun u=>?_
 exact h
theorem LV (a:Addr)(b:Bool):∀(lev:Nat),lev≤3→∀(t:Bx),Cz lev t→KA a b lev t
 | 0,hl,t,ok=>LD (lev:=0) hl (fun _ h=>absurd h (by decide)) t ok
 | l+1,hl,t,ok=>LD (lev:=l+1) hl (fun t _ ok=>LV a b l (by lia) t ok) t ok
noncomputable def EG (ps:List (Int×Int)):List V:=ps.map fun p=>.tup [.int (p.1 - 2),.int p.2]
noncomputable def J5 (lev:Nat)(t:Bx):Prop:=∀{n:Nat} {K:V→List V→Prop},10*lev+10≤n→K (.lst .fr (EG (Oy t))) []→AG TT n 46 [Ux t] K
noncomputable abbrev NO:Ss:=(.cons (.ifs (.cmp2 .lt .lt (.int 2) (.rd (.at_ (.var 2) (.lit 0))) (.int 6)) (.cons (.append (.var 1) (.tup (.cons (.bin .sub (.rd (.at_ (.var 2) (.lit 0))) (.int 2)) (.cons (.rd (.at_ (.var 2) (.lit 1))) .nil)))) .nil) (.cons (.ifs (.cmp .eq (.rd (.at_ (.var 2) (.lit 0))) (.int 7)) (.cons (.assign 1 (.bin .add (.v 1) (.call 46 (.val (.rd (.at_ (.var 2) (.lit 1))) .nil)))) .nil) .nil) .nil)) .nil)
theorem RQ {lev:Nat}{k:Int}{nd:Nd}(IH:∀t,L8 nd=some t→1≤lev∧J5 (lev - 1) t)(ok:G9 lev k nd){n:Nat}{s0:V}{f:List V}{K:Fl→List V→Prop}(hn:10*lev+5≤n)(hl:f.length+(IK nd).length≤1000000)
  (h:∀u,K .next [s0,.lst .sh (f++EG (IK nd)),u]):Aj TT (AG TT n) NO [s0,.lst .sh f,Kw nd] K:=by
 cases nd with
 | don s i=>
  have hl:f.length+1≤1000000:=hl
  rcases id ok.1 with rfl | rfl | rfl
  all_goals
   intro v
   refine⟨by lia,?_⟩
   refine⟨rfl,?_⟩
   exact h _
 | sub t=>
  obtain⟨hlev,D⟩:=IH t rfl
  have hl:f.length+(Oy t).length≤1000000:=hl
  have hlen:(EG (Oy t)).length=(Oy t).length:=List.length_map ..
  obtain⟨k',w',sh',l'⟩:=t
  refine D (Zs hlev hn rfl) ?_
  refine⟨by lia,?_⟩
  exact h _
 | ltr c=>
  have:=h (Kw (.ltr c))
  rw [show EG (IK (.ltr c))=[] from rfl,List.append_nil] at this
  exact ((this))
 | krn c=>
  have:=h (Kw (.krn c))
  rw [show EG (IK (.krn c))=[] from rfl,List.append_nil] at this
  exact ((this))
 | spc c=>
  have:=h (Kw (.spc c))
  rw [show EG (IK (.spc c))=[] from rfl,List.append_nil] at this
  exact ((this))
 | skp w s t=>
  have:=h (Kw (.skp w s t))
  rw [show EG (IK (.skp w s t))=[] from rfl,List.append_nil] at this
  exact ((this))
theorem LT {lev n:Nat}{k:Int}{s0:V}{K:Fl→List V→Prop}(IH:∀t,1≤lev→Cz (lev - 1) t→J5 (lev - 1) t)(hn:10*lev+5≤n):∀(l:Dt) (f:List V) (u:V),ME lev k l→f.length+(Ce l).length≤1000000→
  (∀u,K .next [s0,.lst .sh (f++EG (Ce l)),u])→Cc (Aj TT (AG TT n) NO) (fun x σ=>σ.set 2 x) (Gp l) [s0,.lst .sh f,u] K
 | .nil,f,u,_,_,h=>by
  have:=h u
  rw [show EG (Ce .nil)=[] from rfl,List.append_nil] at this
  exact this
 | .cons nd l,f,u,ok,hl,h=>by
  rw [show Ce (.cons nd l)=IK nd++Ce l from rfl] at h hl
  rw [List.length_append] at hl
  rw [show EG (IK nd++Ce l)=EG (IK nd)++EG (Ce l) from List.map_append,←List.append_assoc] at h
  have e:(EG (IK nd)).length=(IK nd).length:=List.length_map ..
  refine RQ (nd:=nd) (fun t e=>⟨(Ad ok.1 e).1,IH t (Ad ok.1 e).1 (Ad ok.1 e).2⟩) ok.1 hn (by lia) fun u=>?_
  exact LT IH hn l _ u ok.2 (by rw [List.length_append];lia) h
theorem LQ {lev:Nat}(hlev:lev≤3)(IH:∀t,1≤lev→Cz (lev - 1) t→J5 (lev - 1) t)(t:Bx)(ok:Cz lev t):J5 lev t:=by
 intro n K hn h
 have PW:=(JZ lev t ok).1
 obtain⟨k,w,sh,l⟩:=t
 obtain⟨-,-,-,hlen,-,okl⟩:=ok
 have hp:(Ce l).length≤1000000:=by
  have PW:(Ce l).length≤5*nc lev:=PW
  have:nc lev≤1000:=by
   have e:lev=0∨lev=1∨lev=2∨lev=3:=by lia
   rcases e with rfl | rfl | rfl | rfl <;> decide
  lia
 refine KX hn fun n hn=>?_
 refine LT IH (by lia) l [] .undef okl (by simpa using hp) fun u=>?_
 exact h
theorem Uj:∀(lev:Nat),lev≤3→∀(t:Bx),Cz lev t→J5 lev t
 | 0,hl,t,ok=>LQ (lev:=0) hl (fun _ h=>absurd h (by decide)) t ok
 | l+1,hl,t,ok=>LQ (lev:=l+1) hl (fun t _ ok=>Uj l (by lia) t ok) t ok
theorem R6 {n:Nat}{i:Int}{K:V→List V→Prop}(hn:2≤n)(h1 : -1073741823≤i)(h2:i≤1073741823)(h:K (.bool true) []):AG TT n 33 [.int i] K:=by
 refine PR hn fun n hn=>?_
 refine AT (fe hn rfl) h1 h2 ?_
 exact h
theorem Iu {n:Nat}{s0:V}{K:Fl→List V→Prop}(hn:2≤n):∀(l:List Int) (u:V),(∀i∈l,-1073741823≤i∧i≤1073741823)→(∀u,K .next [s0,u])→Cc (Aj TT (AG TT n) (.cons (.ifs (.not (.call 33 (.val (.v 1) .nil))) (.cons .bad .nil) .nil) .nil)) (fun x σ=>σ.set 1 x) (l.map .int) [s0,u] K
 | [],u,_,h=>h u
 | i::l,u,hi,h=>by
  refine R6 hn (hi i (.head _)).1 (hi i (.head _)).2 ?_
  exact Iu hn l (.int i) (fun j hj=>hi j (.tail _ hj)) h
theorem Bz {n:Nat}(l:List Int){K:V→List V→Prop}(hn:3≤n)(hi:∀i∈l,-1073741823≤i∧i≤1073741823)(h:K .none []):AG TT n 34 [.tup (l.map .int)] K:=by
 refine J3 hn fun n hn=>?_
 refine Iu (by lia) l .undef hi fun u=>?_
 exact h
noncomputable def HV (o:Bool):V:=.dct o [(65,.tup [.int 12,.int 5,.int 0,.int 0,.int 0,.int 0]),(66,.tup [.int 7,.int 5,.int 0,.int 0,.int 0,.int 0])]
theorem KZ {n:Nat}{K:V→List V→Prop}(hn:5≤n)(h:K .none []):AG TT n 35 [HV false,.int 0] K:=by
 refine KC hn fun n hn=>?_
 refine AT (fe hn rfl) (by decide) (by decide) ?_
 refine⟨by decide,?_⟩
 refine Bz [12,5,0,0] (by lia) (by decide) ?_
 refine AT (fe hn rfl) (by decide) (by decide) ?_
 refine AT (fe hn rfl) (by decide) (by decide) ?_
 refine AT (fe hn rfl) (by decide) (by decide) ?_
 refine⟨by decide,?_⟩
 refine Bz [7,5,0,0] (by lia) (by decide) ?_
 refine AT (fe hn rfl) (by decide) (by decide) ?_
 refine AT (fe hn rfl) (by decide) (by decide) ?_
 exact h
theorem Js {n:Nat}{K:V→List V→Prop}(hn:2≤n)(h:K .none []):AG TT n 36 [HV false] K:=by
 refine IF hn fun n hn=>?_
 refine⟨1,?_⟩
 refine⟨1,?_⟩
 exact h
theorem IO {n:Nat}{K:V→List V→Prop}(hn:2≤n)(h:K .none []):AG TT n 37 [.tup [],.tup [],HV false,.int 256] K:=by
 refine HW hn fun n hn=>?_
 exact h
theorem MI {n:Nat}{K:V→List V→Prop}(hn:1≤n)(h:K (.int (-1)) []):AG TT n 38 [.tup []] K:=by
 refine Kz hn fun n hn=>?_
 exact h
theorem Ou {n:Nat}{K:V→List V→Prop}(hn:1≤n)(h:K (.str [102,97]) []):AG TT n 39 [.int 1] K:=by
 refine MX hn fun n hn=>?_
 refine⟨by decide,?_⟩
 refine⟨by decide,?_⟩
 refine⟨1,?_⟩
 refine⟨by decide,?_⟩
 exact h
noncomputable def MV:List Int:=[0,196608,98304,65536,262144,655360,65536]
noncomputable def Uh:V:=.obj true 12 [(14,.int 1),(3,.str [102,97]),(13,.int 655360),(39,.int 655360),(38,.int 0),(52,.lst .sh (MV.map .int)),(53,HV true),(54,.tup []),(55,.tup []),(56,.int 256),(57,.int (-1)),(58,.int 45),(59,.int (-1))]
noncomputable abbrev Th:Ss:=(.cons (.setattr (.var 0) 14 (.v 1)) (.cons (.setattr (.var 0) 3 (.v 2)) (.cons (.setattr (.var 0) 13 (.v 3)) (.cons (.setattr (.var 0) 39 (.v 3)) (.cons (.setattr (.var 0) 38 (.int 0)) (.cons (.setattr (.var 0) 52 (.prim .list (.cons (.v 4) .nil))) (.cons (.setattr (.var 0) 53 (.prim .dict (.cons (.v 5) .nil))) (.cons (.setattr (.var 0) 54 (.prim .tuple (.cons (.v 6) .nil))) (.cons (.setattr (.var 0) 55 (.prim .tuple (.cons (.v 7) .nil))) (.cons (.setattr (.var 0) 56 (.v 8)) (.cons (.setattr (.var 0) 57 (.call 38 (.val (.v 6) .nil))) (.cons (.setattr (.var 0) 58 (.int 45)) (.cons (.setattr (.var 0) 59 (.int (-1))) .nil)))))))))))))
theorem Rn {n:Nat}{K:V→List V→Prop}(hn:2≤n)(h:K .none [Uh]):Aj TT (AG TT n) Th [.obj true 12 [],.int 1,.str [102,97],.int 655360,.tup (MV.map .int),HV false,.tup [],.tup [],.int 256] (Bp [0] K):=by
 refine⟨rfl,?_⟩
 refine⟨rfl,?_⟩
 refine⟨rfl,?_⟩
 refine⟨rfl,?_⟩
 refine⟨rfl,?_⟩
 refine⟨rfl,?_⟩
 refine⟨rfl,?_⟩
 refine⟨rfl,?_⟩
 refine⟨rfl,?_⟩
 refine⟨rfl,?_⟩
 refine MI (fe hn rfl) ?_
 refine⟨rfl,?_⟩
 refine⟨rfl,?_⟩
 refine⟨rfl,?_⟩
 exact h
theorem O2 {n:Nat}{K:V→List V→Prop}(hn:8≤n)(h:K .none [Uh]):AG TT n 63 [.obj true 12 [],.int 1,.str [102,97],.int 655360,.tup (MV.map .int),HV false,.tup [],.tup [],.int 256] K:=by
 refine MO hn fun n hn=>?_
 refine AT (fe hn rfl) (by decide) (by decide) ?_
 refine AT (fe hn rfl) (by decide) (by decide) ?_
 refine AT (fe hn rfl) (by decide) (by decide) ?_
 refine Bz MV (by lia) (by decide) ?_
 refine Bz [] (by lia) (by decide) ?_
 refine KZ (fe hn rfl) ?_
 refine Js (fe hn rfl) ?_
 refine IO (fe hn rfl) ?_
 exact Rn (by lia) h
theorem YN {n:Nat}{K:V→List V→Prop}(hn:10≤n)(h:K Uh []):AG TT n 40 [.int 1,.lst .fr [.tup [.int 65,.int 12,.int 5,.int 0],.tup [.int 66,.int 7,.int 5,.int 0]]] K:=by
 refine Gg hn fun n hn=>?_
 refine AT (fe hn rfl) (by decide) (by decide) ?_
 refine⟨⟨by simp,by simp,by simp⟩,?_⟩
 refine⟨⟨by decide,by decide,by simp⟩,?_⟩
 refine⟨by decide,?_⟩
 refine⟨⟨by simp,by simp,by simp⟩,?_⟩
 refine⟨⟨by decide,by decide,by simp⟩,?_⟩
 refine⟨by decide,?_⟩
 refine Ou (fe hn rfl) ?_
 refine O2 (fe hn rfl) ?_
 exact h
noncomputable def Ib (cell cnt salt:Int):V:=.lst .sh [.int cell,.int cnt,.int salt]
theorem ZH {x:Int}(h:x.natAbs≤1000000000000000):small x:=by
 show x.natAbs < 2 ^ 64
 lia
theorem G6 {n:Nat}{cell cnt salt m:Int}{K:V→List V→Prop}(hn:1≤n)(hm:2≤m)(hm2:m≤12)(hc:0≤cell)(hcnt:0≤cnt)(hcnt2:cnt≤1000000)(hs:0≤salt)(hs2:salt < 1000003)
  (h:∀r cell' cnt',0≤r→r < m→0≤cell'→0≤cnt'→cnt'≤cnt+1→K (.int r) [Ib cell' cnt' salt]):AG TT n 42 [Ib cell cnt salt,.int m] K:=by
 have mp:0 < m:=Int.lt_of_lt_of_le (by decide) hm
 have sm:small m:=Xs (Int.le_trans (by decide) hm) (Int.le_trans hm2 (by decide))
 have mne:m≠0:=Int.ne_of_gt mp
 refine NK hn fun n hn=>?_
 refine⟨⟨Ab rfl,by decide,by decide⟩,?_⟩
 refine Xm (fun e=>?_) fun e=>?_
 ·refine⟨mne,?_⟩
  refine⟨⟨mne,sm⟩,?_⟩
  refine⟨by decide,show (0:Int) < 3 by decide,?_⟩
  refine h (Int.fmod cell m) (Int.fdiv cell m) cnt ?_ ?_ ?_ hcnt (by lia)
  ·rw [BQ mp];exact Int.emod_nonneg _ mne
  ·rw [BQ mp];exact Int.emod_lt_of_pos _ mp
  ·rw [C6 mp];exact Int.ediv_nonneg hc (by lia)
 ·refine⟨by decide,show (1:Int) < 3 by decide,?_⟩
  refine⟨.inl (Ab rfl),?_⟩
  refine⟨⟨ZH (by lia),by decide,by decide⟩,?_⟩
  refine⟨by decide,?_⟩
  have hmx:∀x:Int,0≤Int.fmod x 2147483647∧Int.fmod x 2147483647 < 2147483647:=fun x=>by
   exact⟨Int.fmod_nonneg_of_pos x (by decide),Int.fmod_lt_of_pos x (by decide)⟩
  refine⟨.inl ?_,?_⟩
  ·have:=hmx ((salt+7103*(cnt+1)+20023) ^ 5)
   show (Int.fmod ((salt+7103*(cnt+1)+20023) ^ 5) 2147483647).natAbs < 2 ^ 64
   generalize Int.fmod ((salt+7103*(cnt+1)+20023) ^ 5) 2147483647=q at this
   lia
  refine⟨by decide,?_⟩
  refine⟨⟨by decide,Ab rfl⟩,?_⟩
  refine⟨mne,?_⟩
  refine h _ cell (cnt+1) ?_ ?_ hc (by lia) (by lia)
  ·rw [BQ mp];exact Int.emod_nonneg _ mne
  ·rw [BQ mp];exact Int.emod_lt_of_pos _ mp
noncomputable def ti:Nat→Nat
 | 0=>3
 | l+1=>20+4*ti l
noncomputable def tk (lev:Nat):Nat:=6+4*ti lev
noncomputable def WW (cnt:Int)(L:List V)(c:Nat)(P:Int→Int→List V→Prop):Prop:=∀cell' cnt' L',0≤cell'→0≤cnt'→cnt'≤cnt+c→L'.length≤L.length+c→P cell' cnt' L'
noncomputable def DV (lev:Nat):Prop:=∀{n:Nat} {cell cnt salt:Int} {L:List V} {K:V→List V→Prop},30*lev+30≤n→0≤cell→0≤cnt→cnt+tk lev+10≤100000→0≤salt→salt < 1000003→L.length+tk lev+10≤100000→
 (∀t,Cz lev t→WW cnt L (tk lev) fun cell' cnt' L'=>K (Ux t) [Ib cell' cnt' salt,.lst .sh L'])→AG TT n 44 [Ib cell cnt salt,.int (2 - lev),.lst .sh L] K
noncomputable abbrev Te:Ss:=(.cons (.ifs (.and (.cmp .eq (.v 4) (.int 0)) (.cmp .eq (.v 2) (.int 2))) (.cons (.ret (.tup (.cons (.int 0) (.cons (.bin .add (.int 65) (.bin .mod (.v 5) (.int 2))) .nil)))) .nil) .nil) (.cons (.ifs (.cmp .eq (.v 4) (.int 2)) (.cons (.ret (.tup (.cons (.int 2) (.cons (.v 5) .nil)))) .nil) .nil) (.cons (.ifs (.or (.cmp2 .lt .lt (.int 2) (.v 4) (.int 7)) (.and (.cmp .gt (.v 4) (.int 6)) (.cmp .gt (.v 1) (.int 1)))) (.cons (.appLen (.var 3)) (.cons (.ret (.tup (.cons (.idx (.tup (.cons (.int 3) (.cons (.int 3) (.cons (.int 4) (.cons (.int 5) .nil))))) (.bin .mod (.v 4) (.int 4))) (.cons (.bin .sub (.lenP (.var 3)) (.int 1)) .nil)))) .nil)) .nil) (.cons (.ifs (.and (.cmp .eq (.v 4) (.int 7)) (.cmp .eq (.v 1) (.int 0))) (.cons (.ret (.tup (.cons (.int 6) (.cons (.bin .mul (.int 30) (.bin .mod (.v 5) (.int 3))) (.cons (.bin .add (.int 1) (.bin .fdiv (.v 5) (.int 3))) (.cons (.call 44 (.bor (.var 0) (.val (.bin .add (.v 1) (.int 1)) (.bor (.var 3) .nil)))) .nil)))))) .nil) .nil) (.cons (.ifs (.cmp .gt (.v 4) (.int 6)) (.cons (.ret (.tup (.cons (.int 7) (.cons (.call 44 (.bor (.var 0) (.val (.bin .add (.v 1) (.int 1)) (.bor (.var 3) .nil)))) .nil)))) .nil) .nil) (.cons (.ret (.tup (.cons (.int 1) (.cons (.bin .sub (.bin .mul (.int 5) (.v 5)) (.int 7)) .nil)))) .nil))))))
theorem Ox (lev:Nat):3≤ti lev:=by
 cases lev with
 | zero=>exact Nat.le_refl 3
 | succ l=>exact Nat.le_trans (by decide) (Nat.le_add_right 20 _)
theorem a8 {m:Nat}(h:m≤100000):0≤((m+1:Nat):Int) - 1∧((m+1:Nat):Int) - 1≤1000000:=by lia
theorem gq (a:Int):∃s,Qb [.int 3,.int 3,.int 4,.int 5] (Int.fmod a 4)=some (.int s)∧(s=3∨s=4∨s=5):=by
 have h:Int.fmod a 4=0∨Int.fmod a 4=1∨Int.fmod a 4=2∨Int.fmod a 4=3:=by rw [BQ (by decide)];lia
 rcases h with e | e | e | e <;> rw [e] <;> exact⟨_,rfl,by decide⟩
theorem iO {cnt:Int}{l:Nat}(h:cnt+ti (l+1)≤100000):cnt+tk l+10≤100000:=by unfold tk;unfold ti at h;lia
theorem ji {m l:Nat}(h:m+ti (l+1)≤100000):m+tk l+10≤100000:=by unfold tk;unfold ti at h;lia
theorem iM {c cnt:Int}{l:Nat}(h:c≤cnt+tk l):c+2≤cnt+ti (l+1):=by unfold tk at h;unfold ti;lia
theorem j7 {c m l:Nat}(h:c≤m+tk l):c≤m+ti (l+1):=by unfold tk at h;unfold ti;lia
theorem bA {l n:Nat}(h:30*(l+1)+5≤n):30*l+30≤n:=Nat.le_trans (Nat.le_add_right _ 5) h
theorem aO (l:Nat):((2 - ((l+1:Nat):Int))+1)=2 - (l:Int):=by lia
theorem RX {lev:Nat}(hlev:lev≤2)(IH:∀l,lev=l+1→DV l){n:Nat}{cell cnt salt k way one:Int}{L:List V}{K:V→List V→Prop}(hn:30*lev+5≤n)(hk:k=2∨k=3)(hw:0≤way)(hw2:way < 10)(ho:0≤one)(ho2:one < 8)(hc:0≤cell)(hcnt:0≤cnt)(hcnt2:cnt+ti lev≤100000)(hs:0≤salt)(hs2:salt < 1000003)(hl:L.length+ti lev≤100000)
  (h:∀nd,G9 lev k nd→∀cell' cnt' L',0≤cell'→0≤cnt'→cnt'+2≤cnt+ti lev→L'.length≤L.length+ti lev→K (Kw nd) [Ib cell' cnt' salt,.lst .sh L']):
  Aj TT (AG TT n) Te [Ib cell cnt salt,.int (2 - lev),.int k,.lst .sh L,.int way,.int one] (Bp [0,3] K):=by
 have ti3:3≤ti lev:=Ox lev
 have c2:cnt+2≤cnt+ti lev:=Int.add_le_add_left (Int.ofNat_le.2 (Nat.le_of_succ_le ti3)) cnt
 have l0:L.length≤L.length+ti lev:=Nat.le_add_right _ _
 have krn:K (Kw (.krn (5*one - 7))) [Ib cell cnt salt,.lst .sh L]:=h (.krn (5*one - 7)) (by show -7≤5*one - 7∧5*one - 7≤28;lia) cell cnt L hc hcnt c2 l0
 have don:∀s:Int,(s=3∨s=4∨s=5)→K (.tup [.int s,.int (((L++[V.int L.length]).length:Int) - 1)]) [Ib cell cnt salt,.lst .sh (L++[V.int L.length])]:=fun s hs=>
  h (.don s (((L++[V.int L.length]).length:Int) - 1)) ⟨hs,by rw [List.length_append];exact a8 (Nat.le_trans (Nat.le_add_right _ _) hl)⟩ cell cnt (L++[V.int L.length]) hc hcnt c2 (by rw [List.length_append];exact Nat.add_le_add_left (Nat.le_trans (by decide:1≤3) ti3) _)
 have hway:way=0∨way=1∨way=2∨way=3∨way=4∨way=5∨way=6∨way=7∨way=8∨way=9:=by lia
 have donW:Aj TT (AG TT n) (.cons (.appLen (.var 3)) (.cons (.ret (.tup (.cons (.idx (.tup (.cons (.int 3) (.cons (.int 3) (.cons (.int 4) (.cons (.int 5) .nil))))) (.bin .mod (.v 4) (.int 4))) (.cons (.bin .sub (.lenP (.var 3)) (.int 1)) .nil)))) .nil)) [Ib cell cnt salt,.int (2 - lev),.int k,.lst .sh L,.int way,.int one] (Bp [0,3] K):=by
  obtain⟨s,es,h3⟩:=gq way
  exact⟨Nat.lt_of_le_of_lt (Nat.le_trans (Nat.le_add_right _ _) hl) (by decide),⟨by decide,pN es (don s h3)⟩⟩
 have skpW:∀l,lev=l+1→Aj TT (AG TT n) (.cons (.ret (.tup (.cons (.int 6) (.cons (.bin .mul (.int 30) (.bin .mod (.v 5) (.int 3))) (.cons (.bin .add (.int 1) (.bin .fdiv (.v 5) (.int 3))) (.cons (.call 44 (.bor (.var 0) (.val (.bin .add (.v 1) (.int 1)) (.bor (.var 3) .nil)))) .nil)))))) .nil) [Ib cell cnt salt,.int (2 - lev),.int k,.lst .sh L,.int way,.int one] (Bp [0,3] K):=fun l el=>by
  subst el
  refine⟨by decide,?_⟩
  refine⟨.inl (Ab rfl),?_⟩
  refine⟨⟨by decide,Ab rfl⟩,?_⟩
  intro v v2
  have ed:=aO l
  have D:DV l:=IH l rfl
  have go:∀x,x=2 - (l:Int)→AG TT n 44 [Ib cell cnt salt,.int x,.lst .sh L] (fun r Bl=>A0 TT [(.var 0,v),(.var 3,v2)] Bl [.hole v,.int (2 - ((l+1:Nat):Int)),.int k,.hole v2,.int way,.int one] fun σ=>Cq r fun x=>Bp [0,3] K (.ret (.tup [.int 6,.int (30*Int.fmod one 3),.int (1+Int.fdiv one 3),x])) σ):=fun x ex=>by
   subst ex
   refine D (bA hn) hc hcnt (iO hcnt2) hs hs2 (ji hl) fun t okt cell' cnt' L' h1 h2 h3 h4=>?_
   refine⟨rfl,?_⟩
   refine⟨rfl,?_⟩
   obtain⟨k',w',sh',l'⟩:=t
   refine h (.skp (30*Int.fmod one 3) (1+Int.fdiv one 3) (.mk k' w' sh' l')) ⟨Nat.le_add_left 1 l,?_,?_,okt⟩ cell' cnt' L' h1 h2 (iM h3) (j7 h4)
   ·rw [BQ (by decide)];lia
   ·rw [C6 (by decide)];lia
  exact go _ ed
 have subW:∀l,lev=l+1→Aj TT (AG TT n) (.cons (.ret (.tup (.cons (.int 7) (.cons (.call 44 (.bor (.var 0) (.val (.bin .add (.v 1) (.int 1)) (.bor (.var 3) .nil)))) .nil)))) .nil) [Ib cell cnt salt,.int (2 - lev),.int k,.lst .sh L,.int way,.int one] (Bp [0,3] K):=fun l el=>by
  subst el
  intro v v2
  have ed:=aO l
  have D:DV l:=IH l rfl
  have go:∀x,x=2 - (l:Int)→AG TT n 44 [Ib cell cnt salt,.int x,.lst .sh L] (fun r Bl=>A0 TT [(.var 0,v),(.var 3,v2)] Bl [.hole v,.int (2 - ((l+1:Nat):Int)),.int k,.hole v2,.int way,.int one] fun σ=>Cq r fun x=>Bp [0,3] K (.ret (.tup [.int 7,x])) σ):=fun x ex=>by
   subst ex
   refine D (bA hn) hc hcnt (iO hcnt2) hs hs2 (ji hl) fun t okt cell' cnt' L' h1 h2 h3 h4=>?_
   refine⟨rfl,?_⟩
   refine⟨rfl,?_⟩
   obtain⟨k',w',sh',l'⟩:=t
   exact h (.sub (.mk k' w' sh' l')) ⟨Nat.le_add_left 1 l,okt⟩ cell' cnt' L' h1 h2 (iM h3) (j7 h4)
  exact go _ ed
 have hlv:lev=0∨∃l,lev=l+1:=by cases lev;exact .inl rfl;exact .inr ⟨_,rfl⟩
 rcases hway with rfl | rfl | rfl | rfl | rfl | rfl | rfl | rfl | rfl | rfl
 ·rcases hk with rfl | rfl
  ·refine⟨by decide,?_⟩
   exact h (.ltr (65+Int.fmod one 2)) ⟨rfl,by rw [BQ (by decide)];lia⟩ cell cnt L hc hcnt c2 l0
  ·exact⟨.inl (Ab rfl),krn⟩
 ·exact⟨.inl (Ab rfl),krn⟩
 ·exact h (.spc one) ⟨ho,ho2⟩ cell cnt L hc hcnt c2 l0
 ·exact donW
 ·exact donW
 ·exact donW
 ·exact donW
 ·skip
  rcases hlv with rfl | ⟨l,rfl⟩
  ·exact donW
  ·refine Aq (decide_eq_false (by lia)) ?_
   by_cases e:(2 - ((l+1:Nat):Int))=0
   ·refine BE (decide_eq_true e) ?_
    exact skpW l rfl
   ·refine Aq (decide_eq_false e) ?_
    exact subW l rfl
 ·skip
  rcases hlv with rfl | ⟨l,rfl⟩
  ·exact donW
  ·refine Aq (decide_eq_false (by lia)) ?_
   exact subW l rfl
 ·skip
  rcases hlv with rfl | ⟨l,rfl⟩
  ·exact donW
  ·refine Aq (decide_eq_false (by lia)) ?_
   exact subW l rfl
theorem ZR {lev:Nat}(hlev:lev≤2)(IH:∀l,lev=l+1→DV l){n:Nat}{cell cnt salt k:Int}{L:List V}{K:V→List V→Prop}(hn:30*lev+10≤n)(hk:k=2∨k=3)(hc:0≤cell)(hcnt:0≤cnt)(hcnt2:cnt+ti lev+2≤100000)(hs:0≤salt)(hs2:salt < 1000003)(hl:L.length+ti lev≤100000)
  (h:∀nd,G9 lev k nd→WW cnt L (ti lev) fun cell' cnt' L'=>K (Kw nd) [Ib cell' cnt' salt,.lst .sh L']):AG TT n 43 [Ib cell cnt salt,.int (2 - lev),.int k,.lst .sh L] K:=by
 refine Fg hn fun n hn=>?_
 intro v
 refine G6 (fe hn rfl) (by decide) (by decide) hc hcnt (by lia) hs hs2 fun way cell1 cnt1 w1 w2 c1 c2 c3=>?_
 refine⟨rfl,?_⟩
 intro v
 refine G6 (fe hn rfl) (by decide) (by decide) c1 c2 (by lia) hs hs2 fun one cell2 cnt2 o1 o2 d1 d2 d3=>?_
 refine⟨rfl,?_⟩
 refine RX hlev IH (by lia) hk w1 w2 o1 o2 d1 d2 (by lia) hs hs2 hl fun nd okn cell' cnt' L' h1 h2 h3 h4=>?_
 exact h nd okn cell' cnt' L' h1 h2 (by lia) h4
noncomputable abbrev QP:E:=(.call 43 (.bor (.var 0) (.val (.v 1) (.val (.v 3) (.bor (.var 2) .nil)))))
theorem mN {a b x t:Int}(h:a+(x+t)+10≤100000)(k:b≤a+t):b+x+10≤100000:=by lia
theorem n5 {a b x t:Nat}(h:a+(x+t)+10≤100000)(k:b≤a+t):b+x+10≤100000:=by lia
theorem kq {a b c x t:Int}(k:b≤a+t)(g:c≤b+x):c≤a+(x+t):=by lia
theorem mw {a b c x t:Nat}(k:b≤a+t)(g:c≤b+x):c≤a+(x+t):=by lia
theorem nZ {a x t:Int}(n:0≤x)(h:a+(x+t)+10≤100000):a+t+2≤100000:=by lia
theorem kw {a x t:Nat}(h:a+(x+t)+10≤100000):a+t≤100000:=by lia
theorem Li {lev:Nat}(hlev:lev≤2)(IH:∀l,lev=l+1→DV l){n:Nat}{salt k:Int}{one:V}{K:List V→List V→Prop}(hn:30*lev+10≤n)(hk:k=2∨k=3)(hs:0≤salt)(hs2:salt < 1000003):
  ∀(m:Nat) (j:Int) (acc:List V) (cell cnt:Int) (L:List V) (u5 u6:V),acc.length+m≤1000→0≤cell→0≤cnt→cnt+m*ti lev+10≤100000→L.length+m*ti lev+10≤100000→
   (∀l:Dt,l.len=m→ME lev k l→WW cnt L (m*ti lev) fun cell' cnt' L'=>∀u6,K (acc++Gp l) [Ib cell' cnt' salt,.int (2 - lev),.lst .sh L',.int k,one,u5,u6])→
   Bn (WE TT (AG TT n) QP) 6 (upTo j m) acc [Ib cell cnt salt,.int (2 - lev),.lst .sh L,.int k,one,u5,u6] K
 | 0,j,acc,cell,cnt,L,u5,u6,_,hc,hcnt,_,_,h=>by
  have:=h .nil rfl trivial cell cnt L hc hcnt (Int.le_add_of_nonneg_right (Int.natCast_nonneg _)) (Nat.le_add_right _ _) u6
  rw [show Gp .nil=[] from rfl,List.append_nil] at this
  exact this
 | m+1,j,acc,cell,cnt,L,u5,u6,ha,hc,hcnt,hcnt2,hl,h=>by
  have em:(m+1)*ti lev=m*ti lev+ti lev:=by rw [Nat.add_mul,Nat.one_mul]
  rw [em] at h hl
  have em2:(((m+1:Nat):Int))*(ti lev:Int)=(m:Int)*ti lev+ti lev:=by
   have:=congrArg (fun x:Nat=>(x:Int)) em
   simpa using this
  rw [em2] at hcnt2
  have mn:(0:Int)≤(m:Int)*ti lev:=Int.mul_nonneg (Int.natCast_nonneg m) (Int.natCast_nonneg _)
  intro v v2
  have cast:((m*ti lev:Nat):Int)=(m:Int)*ti lev:=by simp
  refine ZR hlev IH hn hk hc hcnt (nZ mn hcnt2) hs hs2 (kw hl) fun nd okn cell' cnt' L' h1 h2 h3 h4=>?_
  have go:Cq (Kw nd) fun y=>acc.length < 16000000∧Bn (WE TT (AG TT n) QP) 6 (upTo (j+1) m) (acc++[y]) [Ib cell' cnt' salt,.int (2 - lev),.lst .sh L',.int k,one,u5,.undef] K:=by
   have go2:acc.length < 16000000∧Bn (WE TT (AG TT n) QP) 6 (upTo (j+1) m) (acc++[Kw nd]) [Ib cell' cnt' salt,.int (2 - lev),.lst .sh L',.int k,one,u5,.undef] K:=by
    refine⟨Nat.lt_of_lt_of_le (Nat.lt_of_lt_of_le (Nat.lt_succ_self _) (Nat.le_trans (Nat.add_le_add_left (Nat.le_add_left 1 m) _) ha)) (by decide),?_⟩
    refine Li hlev IH hn hk hs hs2 m (j+1) (acc++[Kw nd]) cell' cnt' L' u5 .undef (by rw [List.length_append];exact iy ha) h1 h2 (mN hcnt2 h3) (n5 hl h4) fun l el okl cell2 cnt2 L2 g1 g2 g3 g4 u6=>?_
    have:=h (.cons nd l) (congrArg (·+1) el) ⟨okn,okl⟩ cell2 cnt2 L2 g1 g2 (by rw [Int.natCast_add,cast];rw [cast] at g3;exact kq h3 g3) (mw h4 g4) u6
    rw [List.append_assoc];exact this
   cases nd <;> exact go2
  refine⟨rfl,?_⟩
  refine⟨rfl,?_⟩
  exact go
noncomputable abbrev XR:Ss:=(.cons (.ret (.tup (.cons (.v 3) (.cons (.idx (.tup (.cons (.int 30) (.cons (.int 40) (.cons (.int 0) (.cons (.int 25) .nil))))) (.bin .mod (.v 4) (.int 4))) (.cons (.bin .mul (.bin .fdiv (.v 4) (.int 4)) (.int 3)) (.cons (.bin .add (.bin .add (.slTo (.v 5) 1) (.lst (.cons (.tup (.cons (.int 1) (.cons (.v 4) .nil))) .nil))) (.slFrom (.v 5) 1)) .nil)))))) .nil)
theorem len_T:∀l:Dt,(Gp l).length=l.len
 | .nil=>rfl
 | .cons x l=>congrArg (·+1) (len_T l)
theorem dm (a:Int):∃w,Qb [.int 30,.int 40,.int 0,.int 25] (Int.fmod a 4)=some (.int w)∧(w=30∨w=40∨w=0∨w=25):=by
 have h:Int.fmod a 4=0∨Int.fmod a 4=1∨Int.fmod a 4=2∨Int.fmod a 4=3:=by rw [BQ (by decide)];lia
 rcases h with e | e | e | e <;> rw [e] <;> exact⟨_,rfl,by decide⟩
theorem mz {a:Int}(h:0≤a)(h2:a < 12):Int.fdiv a 4*3=0∨Int.fdiv a 4*3=3∨Int.fdiv a 4*3=6:=by rw [C6 (by decide)];lia
theorem Ub {n lev:Nat}{k one:Int}{l:Dt}{s0 s1 s2 u6:V}{K:Fl→List V→Prop}(hk:k=2∨k=3)(ho:0≤one)(ho2:one < 12)(hl1:1≤l.len)(hl2:l.len≤4)(okl:ME lev k l)
  (h:∀t,Cz lev t→∀u5,K (.ret (Ux t)) [s0,s1,s2,.int k,.int one,u5,u6]):Aj TT (AG TT n) XR [s0,s1,s2,.int k,.int one,.lst .sh (Gp l),u6] K:=by
 cases l with
 | nil=>exact absurd hl1 (by decide)
 | cons x l=>
  have hl2:l.len+1≤4:=hl2
  have okl:G9 lev k x∧ME lev k l:=okl
  have len:=len_T l
  have kk:∀(w sh:Int),(w=30∨w=40∨w=0∨w=25)→(sh=0∨sh=3∨sh=6)→∀u5,K (.ret (.tup [.int k,.int w,.int sh,.lst .fr (Kw x::.tup [.int 1,.int one]::Gp l)])) [s0,s1,s2,.int k,.int one,u5,u6]:=fun w sh hw hsh u5=>by
   refine h (.mk k w sh (.cons x (.cons (.krn one) l))) ⟨hk,hw,hsh,Nat.succ_le_succ hl2,?_,okl.1,⟨Int.le_trans (by decide) ho,Int.le_trans (Int.le_of_lt ho2) (by decide)⟩,okl.2⟩ u5
   cases x <;> rfl
  have l1:([Kw x].length:Nat)+[V.tup [.int 1,.int one]].length≤16000000:=(by decide:1+1≤16000000)
  have l2:([Kw x]++[V.tup [.int 1,.int one]]).length+(Gp l).length≤16000000:=by rw [len];exact Nat.le_trans (Nat.add_le_add_left (Nat.le_of_succ_le hl2) 2) (by decide)
  obtain⟨w,e4,hw⟩:=dm one
  exact⟨by decide,pN e4 ⟨⟨by decide,Ab rfl⟩,⟨.inr (Ab rfl),⟨l1,⟨l2,kk _ _ hw (mz ho ho2) _⟩⟩⟩⟩⟩
theorem nW {a b c d:Int}{x t:Nat}(h:a+4*(t:Int)+14≤100000)(p:b≤a+1)(q:c≤b+1)(r:d≤c+1)(hx:x≤4*t):d+(x:Int)+10≤100000:=by lia
theorem kP {a x t:Nat}(h:a+4*t+14≤100000)(hx:x≤4*t):a+x+10≤100000:=by lia
theorem n6 {a b c d e:Int}{x t:Nat}(p:b≤a+1)(q:c≤b+1)(r:d≤c+1)(hx:x≤4*t)(g:e≤d+(x:Int)):e≤a+((6+4*t:Nat):Int):=by lia
theorem kZ {a b x t:Nat}(hx:x≤4*t)(g:b≤a+x):b≤a+(6+4*t):=by lia
theorem Lk {lev:Nat}(hlev:lev≤2)(IH:∀l,lev=l+1→DV l){n:Nat}{cell cnt salt:Int}{L:List V}{K:Fl→List V→Prop}(hn:30*lev+20≤n)(hc:0≤cell)(hcnt:0≤cnt)(hcnt2:cnt+tk lev+10≤200000)(hcnt3:cnt+4*ti lev+14≤100000)(hs:0≤salt)(hs2:salt < 1000003)(hl:L.length+4*ti lev+14≤100000)
  (h:∀t,Cz lev t→WW cnt L (tk lev) fun cell' cnt' L'=>∀u3 u4 u5 u6,K (.ret (Ux t)) [Ib cell' cnt' salt,.int (2 - lev),.lst .sh L',u3,u4,u5,u6]):
  Aj TT (AG TT n) A5 [Ib cell cnt salt,.int (2 - lev),.lst .sh L,.undef,.undef,.undef,.undef] K:=by
 have t3:=Ox lev
 have etk:tk lev=6+4*ti lev:=rfl
 intro v
 refine G6 (fe hn rfl) (by decide) (by decide) hc hcnt (by lia) hs hs2 fun kd cell1 cnt1 w1 w2 c1 c2 c3=>?_
 refine⟨rfl,?_⟩
 intro v
 refine G6 (fe hn rfl) (by decide) (by decide) c1 c2 (by lia) hs hs2 fun one cell2 cnt2 o1 o2 d1 d2 d3=>?_
 refine⟨rfl,?_⟩
 have hk:2+kd=2∨2+kd=3:=by lia
 have comp:∀(c cell3 cnt3:Int),1≤c→c≤4→0≤cell3→0≤cnt3→cnt3≤cnt2+1→Bn (WE TT (AG TT n) QP) 6 (upTo 0 c.toNat) [] [Ib cell3 cnt3 salt,.int (2 - lev),.lst .sh L,.int (2+kd),.int one,.undef,.undef] (fun acc σ=>(fun x σ=>Aj TT (AG TT n) XR (σ.set 5 x) K) (.lst .sh acc) σ):=fun c cell3 cnt3 h1 h2 h3 h4 h5=>by
  obtain⟨m,rfl⟩:∃m:Nat,c=m:=⟨c.toNat,by lia⟩
  rw [Int.toNat_natCast]
  have m4:m≤4:=Int.ofNat_le.1 h2
  have hm4:m*ti lev≤4*ti lev:=Nat.mul_le_mul_right _ m4
  have cast:((m*ti lev:Nat):Int)=(m:Int)*ti lev:=by simp
  refine Li hlev IH (by lia) hk hs hs2 m 0 [] cell3 cnt3 L .undef .undef (by rw [List.length_nil,Nat.zero_add];exact Nat.le_trans m4 (by decide)) h3 h4 (by rw [←cast];exact nW hcnt3 c3 d3 h5 hm4) (kP hl hm4) fun l el okl cell' cnt' L' g1 g2 g3 g4 u6=>?_
  refine Ub (lev:=lev) hk o1 o2 (by lia) (by lia) okl fun t okt u5=>?_
  exact h t okt cell' cnt' L' g1 g2 (n6 c3 d3 h5 hm4 g3) (kZ hm4 g4) _ _ _ _
 by_cases e:(2 - (lev:Int)) < 2
 ·refine BE (decide_eq_true e) ?_
  intro v
  refine G6 (fe hn rfl) (by decide) (by decide) d1 d2 (by lia) hs hs2 fun c cell3 cnt3 w1 w2 c1 c2 c3=>?_
  refine⟨rfl,?_⟩
  refine⟨⟨by lia,by lia⟩,?_⟩
  exact comp (2+c) cell3 cnt3 (by lia) (by lia) c1 c2 c3
 ·refine Aq (decide_eq_false e) ?_
  intro v
  refine G6 (fe hn rfl) (by decide) (by decide) d1 d2 (by lia) hs hs2 fun c cell3 cnt3 w1 w2 c1 c2 c3=>?_
  refine⟨rfl,?_⟩
  refine⟨⟨by lia,by lia⟩,?_⟩
  exact comp (1+c) cell3 cnt3 (by lia) (by lia) c1 c2 c3
theorem LS {lev:Nat}(hlev:lev≤2)(IH:∀l,lev=l+1→DV l):DV lev:=by
 intro n cell cnt salt L K hn hc hcnt hcnt2 hs hs2 hl h
 have etk:tk lev=6+4*ti lev:=rfl
 refine HS hn fun n hn=>?_
 refine Lk hlev IH (by lia) hc hcnt (by lia) (by lia) hs hs2 (by lia) fun t okt cell' cnt' L' h1 h2 h3 h4 u3 u4 u5 u6=>?_
 exact h t okt cell' cnt' L' h1 h2 h3 h4
theorem UW:∀lev:Nat,lev≤2→DV lev
 | 0,h=>LS h fun l e=>(by cases e)
 | l+1,h=>LS h fun l' e=>(by cases e;exact UW l (by lia))
theorem U8 {n:Nat}{cell salt:Int}{K:V→List V→Prop}(hn:100≤n)(hc:0≤cell)(hs:0≤salt)(hs2:salt < 1000003)
  (h:∀t,Cz 2 t→∀o,K (Ux t) [o]):AG TT n 45 [Ib cell 0 salt,.int 0,.lst .sh []] K:=by
 refine Fw hn fun n hn=>?_
 refine Lk (lev:=2) (by decide) (fun l e=>UW l (by lia)) (by lia) hc (by decide) (by decide) (by decide) hs hs2 (by decide) fun t okt cell' cnt' L' h1 h2 h3 h4 u3 u4 u5 u6=>?_
 exact h t okt _
theorem aP {n:Nat}{l:List Int}{K:V→List V→Prop}(hn:1≤n)(h:∀cell salt,0≤cell→0≤salt→salt < 1000003→K (Ib cell 0 salt) []):AG TT n 41 [.lst .fr (l.map .int),.int 0] K:=by
 refine Pp hn fun n hn=>?_
 have salt:∀x:Int,0≤Int.fmod x 1000003∧Int.fmod x 1000003 < 1000003:=fun x=>by
  rw [BQ (by decide)];lia
 cases l with
 | nil=>
  refine⟨.inl (Ab rfl),?_⟩
  refine⟨by decide,?_⟩
  refine⟨by decide,?_⟩
  exact h _ _ (by decide) (salt _).1 (salt _).2
 | cons i l=>
  refine BE (decide_eq_true (by simp)) ?_
  refine⟨by decide,?_⟩
  exact h _ _ (by lia) (salt _).1 (salt _).2
theorem KR {n:Nat}{s0 s1 s2 s3 s4 s5 s6 s7:V}{K:List V→List V→Prop}:∀(ps:List (Int×Int)) (acc:List V) (u:V),(∀p∈ps,p.1=3∨p.1=4∨p.1=5)→acc.length+ps.length < 1000000→(∀u,K (acc++EG ps) [s0,s1,s2,s3,s4,s5,s6,s7,u])→
  Bn (WE TT (AG TT n) (.tup (.cons (.a 8 0) (.cons (.a 8 2) .nil)))) 8 (ps.map fun p=>Ww p.1 p.2) acc [s0,s1,s2,s3,s4,s5,s6,s7,u] K
 | [],acc,u,_,_,h=>by
  have:=h u
  rw [show EG []=[] from rfl,List.append_nil] at this
  exact this
 | p::ps,acc,u,hp,hl,h=>by
  have hl:acc.length+(ps.length+1) < 1000000:=hl
  obtain⟨s,i⟩:=p
  have hs:s=3∨s=4∨s=5:=hp (s,i) (.head _)
  have go:acc.length < 16000000∧Bn (WE TT (AG TT n) (.tup (.cons (.a 8 0) (.cons (.a 8 2) .nil)))) 8 (ps.map fun p=>Ww p.1 p.2) (acc++[.tup [.int (s - 2),.int i]]) [s0,s1,s2,s3,s4,s5,s6,s7,.undef] K:=by
   refine⟨by lia,?_⟩
   refine KR ps _ .undef (fun q hq=>hp q (.tail _ hq)) (by rw [List.length_append,List.length_singleton];lia) fun u=>?_
   have:=h u
   rw [List.append_assoc];exact this
  rcases hs with rfl | rfl | rfl <;> exact go
noncomputable abbrev cV:Ss:=(.cons (.append (.var 7) (.int 0)) (.cons (.ret (.and (.cmp .eq (.prim .len (.cons (.call 31 (.val (.v 4) .nil)) .nil)) (.bin .sub (.lenP (.var 7)) (.int 1))) (.and (.cmp .eq (.call 31 (.val (.v 5) .nil)) (.lst .nil)) (.cmp .eq (.call 49 (.val (.v 4) .nil)) (.call 49 (.val (.v 5) .nil)))))) .nil))
theorem L5 {a:Addr}{b:Bool}{t:Bx}(ok:Cz 2 t){n:Nat}{K:V→List V→Prop}(hn:30≤n)(h:K (.lst .sh (Ew b (Oy t))) []):AG TT n 31 [He a b t] K:=by
 have D:=LV a b 2 (by decide) t ok (n:=n) (d:=0) (K:=K) (by lia) (by decide) (by decide) h
 obtain⟨m,rfl⟩:∃m,n=m+1:=⟨n - 1,by lia⟩
 exact D
theorem Vq {a:Addr}{b:Bool}{t:Bx}(ok:Cz 2 t){n:Nat}{K:V→List V→Prop}(hn:60≤n)(h:K (Yx b t) []):AG TT n 9 [He a b t] K:=by
 have D:=SH a b 2 t ok (n:=n) (d:=0) (K:=K) (by lia) (by decide) (by decide) h
 obtain⟨m,rfl⟩:∃m,n=m+1:=⟨n - 1,by lia⟩
 exact D
theorem VL (m:Nat)(ps:List (Int×Int)){o p:O}:Id (m+3) (.lst o (EG ps)) (.lst p (EG ps))=some true:=U1 fun x hx=>by
 obtain⟨q,-,rfl⟩:=List.mem_map.mp hx
 exact BC (all_cons (AS _ _) (all_cons (AS _ _) BW))
theorem We {a:Addr}{t:Bx}(ok:Cz 2 t){n:Nat}(hn:120≤n){s0 s1 s2 s3 s6 s8:V}:Aj TT (AG TT n) cV [s0,s1,s2,s3,He a false t,He a true t,s6,.lst .sh (Ew false (Oy t)),s8] (Bp [] fun r _=>r=.bool true):=by
 obtain⟨bs,F⟩:=ZK (a:=a) ok
 have PW:=JZ 2 t ok
 have hlen:(Ew false (Oy t)).length≤1000:=by
  have e:nc 2=31:=by decide
  have:=KJ false (Oy t)
  have:=PW.1
  lia
 obtain⟨k,w,sh,l⟩:=t
 intro v
 refine⟨by lia,?_⟩
 refine⟨rfl,?_⟩
 refine L5 (b:=false) ok (by lia) ?_
 refine BE (decide_eq_true ?_) ?_
 ·rw [List.length_append,List.length_singleton];lia
 refine L5 (b:=true) ok (by lia) ?_
 refine F (b:=false) (by lia) ?_
 refine F (b:=true) (by lia) ?_
 show V.bool (decide (bs=bs))=.bool true
 rw [decide_eq_true rfl]
noncomputable abbrev av:Ss:=(.cons (.assign 6 (.call 9 (.val (.v 4) .nil))) (.cons (.assign 7 (.call 31 (.val (.v 4) .nil))) (.cons (.ifs (.or (.cmp .ne (.compP (.tup (.cons (.a 8 0) (.cons (.a 8 2) .nil))) 8 (.var 7)) (.call 46 (.val (.v 3) .nil))) (.cmp .ne (.call 9 (.val (.v 4) .nil)) (.v 6))) (.cons (.ret (.bool false)) .nil) .nil) cV)))
theorem VP {a:Addr}{t:Bx}(ok:Cz 2 t){n:Nat}(hn:120≤n){s0 s1 s2:V}:Aj TT (AG TT n) av [s0,s1,s2,Ux t,He a false t,He a true t,.undef,.undef,.undef] (Bp [] fun r _=>r=.bool true):=by
 have PW:=JZ 2 t ok
 have hlen:(Oy t).length≤1000:=by
  have e:nc 2=31:=by decide
  have:=PW.1
  lia
 have fin:=fun s8=>We (a:=a) ok (n:=n) hn (s0:=s0) (s1:=s1) (s2:=s2) (s3:=Ux t) (s6:=Yx false t) (s8:=s8)
 have dq:=XI false 2 t ok 60 (by decide)
 have des:=fun {K}=>Vq (a:=a) (b:=false) ok (n:=n) (K:=K) (by lia)
 have don:=fun {K}=>L5 (a:=a) (b:=false) ok (n:=n) (K:=K) (by lia)
 have wal:=fun {K}=>Uj 2 (by decide) t ok (n:=n) (K:=K) (by lia)
 obtain⟨k,w,sh,l⟩:=t
 refine des ?_
 refine don ?_
 intro v
 refine KR (Oy (.mk k w sh l)) [] .undef PW.2 (by simp;lia) fun u=>?_
 refine⟨rfl,?_⟩
 refine wal ?_
 show AI (Id 60 _ _) _
 refine pS (VL 57 _) ?_
 refine des ?_
 show AI (Id 60 _ _) _
 refine pS dq ?_
 exact fin _
theorem aw {n:Nat}(hn:130≤n)(l:List Int):AG TT n 50 [.lst .fr (l.map .int)] fun r _=>r=.bool true:=by
 refine Yr hn fun n hn=>?_
 refine YN (fe hn rfl) ?_
 intro a
 have go:AG TT n 41 [.lst .fr ((l.map .int).take 1),.int 0] (fun r Bl=>A0 TT [] Bl [.lst .fr (l.map .int),.undef,.undef,.undef,.undef,.undef,.undef,.undef,.undef] fun σ=>QL TT [.var 1,.var 2] [BV a,r] σ fun σ=>Aj TT (AG TT n) (.cons (.assign 3 (.call 45 (.bor (.var 2) (.val (.int 0) (.own (.lst .nil) .nil))))) (.cons (.assignTup [.var 4,.var 5] (.cons (.call 47 (.val (.v 3) (.val (.v 1) (.val (.bool false) .nil)))) (.cons (.call 47 (.val (.v 3) (.val (.v 1) (.val (.bool true) .nil)))) .nil))) av)) σ (Bp [] fun r _=>r=.bool true)):=by
  rw [←List.map_take]
  refine aP (fe hn rfl) fun cell salt h1 h2 h3=>?_
  intro v
  refine U8 (fe hn rfl) h1 h2 h3 fun t okt o=>?_
  refine⟨rfl,?_⟩
  have M1:=fun {b K}=>UL a 2 t okt (b:=b) (n:=n) (K:=K) (by lia)
  have mid:=VP (a:=a) okt (n:=n) (by lia) (s0:=.lst .fr (l.map .int)) (s1:=BV a) (s2:=o)
  obtain⟨k,w,sh,ls⟩:=t
  refine M1 ?_
  refine M1 ?_
  exact mid
 exact go
end
section
open PySem PySem.W PyProof.Rows PySem.Calls
open Hd (pw)
theorem Tm {w:World}{s:Shared}(KI:(KF w.params).In s.heap){b:Addr}{vs:Array Value}{l:List Int}{n:Nat}(hb:s.heap.get? b=some (AD vs n))(hl:l.length≤63)(hv:RL TT.toTab (fun a=>s.heap.get? a) (l.map .int) vs.toList []){Q:Value→Shared→Prop}{E:Value→Shared→Prop}
  (post:∀s',(∀a o,s.heap.get? a=some o→s'.heap.get? a=some o)→s'.os=s.os→s'.gens=s.gens→Q (.bool true) s'):wpAny (model pw w) callerA (PySem.call (.ref 1058) [.ref b]) Q E s:=by
 have H:BZ w TT (AG TT 130) (KF w.params) 130 50 (TT.fa 50):=Tx (cG w.params) (bn w.params) 130 50 (by decide)
 have e50:TT.fa 50=1058:=rfl
 rw [e50] at H
 refine wpAny_call ?_
 refine H (fun r _=>r=.bool true) [.lst .fr (l.map .int)] [.ref b] (fun a=>s.heap.get? a) [] [] s callerA _ (aw (by decide) l) ?_ (fun a o h=>KI a o h) ⟨fun a o h=>h,fun p hp=>(nomatch hp),fun p hp=>(nomatch hp),List.nodup_nil⟩ ⟨rfl,by decide,by decide⟩ fun B' r os h1 h2 v s' le hr rr ro I rs=>?_
 ·exact RL.one (IsL.mk (by rw [List.length_map,sizeLine_eq];exact Nat.le_trans hl (by decide)) b vs n [] ⟨rfl,rfl,hb⟩ hv)
 ·subst hr
  obtain⟨⟩:=rr
  exact post s' (fun a o h=>I.base a o (le a o h)) rs.os rs.gens
end
section
open PySem PySem.W PyProof.Rows PySem.Calls
noncomputable abbrev dM:OpenLaw:=PySem.Challenge.rw_sq0079_01
theorem V2 {args:List WData}(h:dM.row.toRowW.claim.pre args=true):∃l:List Int,args=[.list (l.map .int)]∧l.length≤63:=by
 have h:(WShape.hasAll [] args [.list .int]&&WTm.holds [] (.and (.not (.lt (.lit (.int 63)) (.len (.arg 0)))) (.lit (.bool true))) { args:=args })=true:=h
 have h1:=AB h
 have h2:=AA h
 cases args with
 | nil=>exact no h1
 | cons x xs=>
  have h1:(WShape.has [] x (.list .int)&&WShape.hasAll [] xs [])=true:=h1
  cases xs with
  | cons y ys=>exact no (AA h1)
  | nil=>
   obtain⟨zs,rfl,hz⟩:=hasW_list (AB h1)
   obtain⟨ns,rfl⟩:=items_int hz
   refine⟨ns,rfl,?_⟩
   by_cases hc:ns.length≤63
   ·exact hc
   ·have v:=w_and (w_not (w_lt (w_lit (d:=.int 63)) (w_len_list (w_arg (R:=[]) (i:=0) (e:={ args:=[.list (ns.map .int)] }) rfl)))) (w_lit (d:=.bool true))
    unfold WTm.holds at h2
    have q:decide ((63:Int) < (ns.length:Int))=true:=decide_eq_true (Int.ofNat_lt.2 (Nat.lt_of_not_le hc))
    rw [v,List.length_map,q] at h2
    exact no h2
theorem post_of {args ds:List WData}:dM.row.toRowW.claim.post args (.bool true) ds=true:=by kernel_rfl
theorem Ra {h:Heap}{a:Addr}{m m':Str→Option Value}(x:h.Ns a m)(y:h.Ns a m'):m=m':=by
 obtain⟨o,es,ep,e,d,-,k⟩:=x
 obtain⟨o',es',ep',e',d',-,k'⟩:=y
 rw [e] at e';cases e'
 rw [d] at d';cases d'
 funext name
 rw [←k,←k']
theorem Y6 (P:Params):DR (KF P) mainGlobals "law"=some (.ref 1058):=by kernel_rfl
theorem QZ {P:Params}{h:Heap}{T:Tabs}{B:PM}:∀{vs:List Value} {l:List Int},WellAll P h vs (l.map .int)→RL T.toTab B (l.map .int) vs []
 | vs,[],x=>by
  cases x
  exact⟨⟩
 | vs,i::l,x=>by
  have x:WellAll P h vs (.int i::l.map .int):=x
  cases x with
  | cons a b=>
   cases a
   exact RL.consN RV.ofInt (QZ b)
theorem gC:WalkO Hd.qv Hd.lsq (fun _ _=>True) Hd.YPw dM.row.toRowW Hd.dlaw.1 Hd.dlaw.2 fun f vs=>PySem.call f vs:=by
 intro w s₀ s₁ mg mb G Y a o pm cd doc dV kV _ _ _ _ hm hg args vals as hpre hlay hr hw hs
 have KI:(KF w.params).In s₁.heap:=fun b o e=>Y b o (Hd.KP_in w.params b o e)
 have em:mg=DR (KF w.params) mainGlobals:=Ra G.T.g (Oi KI (S6 w.params))
 have en:Hd.dlaw.1.name=("law":Str):=defOf_name Hd.def1
 have ea:a=1058:=by
  rw [en,em,Y6] at hm
  cases hm;rfl
 subst ea
 obtain⟨l,rfl,hl⟩:=V2 hpre
 cases hw with
 | cons h1 h2=>
  cases h2
  cases h1 with
  | list hget hall=>
   refine Tm KI hget hl (QZ hall) fun s' keep hos hgens=>?_
   refine GoodW.toG ⟨.inl ⟨.bool true,.bool true,[],rfl,fun _=>rfl,.bool true,post_of,fun _=>⟨List.nodup_nil,fun a ha=>(nomatch ha)⟩⟩,keep,hos,?_⟩
   rw [hgens,hg]
theorem holds:dM.Holds:=Hd.held gC
end
end Mine
theorem PySem.Challenge.cw_sq0079_01_holds : PySem.Challenge.rw_sq0079_01.Holds :=
 Mine.holds
