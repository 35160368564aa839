import PyProof.Rows.All
import OpenK.KWalk
import Open.FastT9
import PySem.Challenge.RW_tn0016_01
set_option Elab.async false
set_option maxRecDepth 100000
set_option linter.all false
set_option genSizeOf false
set_option genInjectivity false
set_option tactic.hygienic false
section
set_option maxHeartbeats 8000000
namespace Gt
open PySem PySem.W PyProof.Rows PySem.Challenge
noncomputable abbrev vs (s:Str) (t:Nat):Value:=.str s t
noncomputable abbrev vi (n t:Nat):Value:=.int (.ofNat n) t
noncomputable abbrev r (a:Nat):Value:=.ref a
noncomputable def e (P:Params) (s:Str) (t:Nat) (x:Value):DictEntry:=⟨PyData.keyHash P s,.str s t,x⟩
noncomputable abbrev tu (l:List Value):Obj:=⟨.type "tuple",none,.seq ⟨l⟩ 0,#[]⟩
noncomputable abbrev fl (c:String) (l:List Value):Obj:=⟨.type c,none,.fields ⟨l⟩,#[]⟩
noncomputable def eo (o:Obj):List DictEntry:=match o.data with | .dict es _=>es.toList | _=>[]
noncomputable def nth (l:List Stmt):Nat→Stmt:=@List.rec Stmt (fun ξ=>Nat→Stmt) (fun ξ=>default) (fun x ξ ih n=>@Nat.rec (fun ξ=>Stmt) x (fun k ξ=>ih k) n) l
noncomputable def st (i:Nat):Stmt:=nth pw_tn0016_01.main.body i
noncomputable def svK {α:Type} (s:Stmt) (k:Str→Arguments→List Stmt→Scope→List Expr→List Stmt→Bool→α):α :=
 have d:=k ⟨#[]⟩ default [] default [] [] false
 Stmt.casesOn (motive_2:=fun ξ=>α) s (fun nm ar bd ξ ξ ξ sc ξ ξ ξ=>k nm ar bd sc [] [] false) (fun ξ ξ ξ ξ ξ ξ ξ ξ ξ ξ=>d) (fun ξ ξ ξ b ξ ξ ξ ξ ξ ξ ξ=>k ⟨#[]⟩ default b default [] [] false) (fun o ξ=>k ⟨#[]⟩ default [] default o.toList [] o.isNone) (fun ξ ξ=>d) (fun l e ξ=>k ⟨#[]⟩ default [] default (l++[e]) [] false) (fun ξ ξ ξ ξ ξ ξ ξ=>d) (fun t ξ e ξ=>k ⟨#[]⟩ default [] default [t,e] [] false) (fun ξ ξ ξ ξ ξ=>d) (fun t e b ξ ξ=>k ⟨#[]⟩ default b default [t,e] [] false) (fun ξ ξ ξ ξ ξ=>d) (fun ξ ξ ξ ξ=>d) (fun e b o ξ=>k ⟨#[]⟩ default b default [e] o false) (fun ξ ξ ξ=>d) (fun ξ ξ ξ=>d) (fun ξ ξ ξ=>d) (fun ξ ξ ξ=>d) (fun ξ ξ ξ ξ ξ=>d) (fun ξ ξ ξ ξ ξ=>d) (fun ξ ξ ξ=>d) (fun ξ ξ=>d) (fun ξ ξ ξ ξ=>d) (fun ξ ξ=>d) (fun ξ ξ=>d) (fun e ξ=>k ⟨#[]⟩ default [] default [e] [] false) (fun ξ=>k ⟨#[]⟩ default [] default [] [] true) (fun ξ=>d) (fun ξ=>d)
noncomputable def ms (i j:Nat):Stmt:=svK (st i) fun ξ ξ b ξ ξ ξ ξ=>nth b j
noncomputable def fo (s:Stmt) (q:Str) (cl:List (Str×Addr)) (df kd dc md:Value) (an:Option Addr) (cd ct:Value) (g b:Addr):Data:=svK s fun nm ar bd sc ξ ξ ξ=>.func ⟨nm,q,ar,.stmts bd,sc,g,cl,df,kd,dc,md,an,cd,ct,b⟩
noncomputable def ap {α:Type} (l m:List α):List α:=@List.rec α (fun ξ=>List α) m (fun x ξ ih=>x :: ih) l
noncomputable def se {α:Type} (l:List α):Nat→α→List α:=@List.rec α (fun ξ=>Nat→α→List α) (fun ξ ξ=>[]) (fun x t ih n y=>@Nat.rec (fun ξ=>List α) (y :: t) (fun k ξ=>x :: ih k y) n) l
noncomputable def sp {α:Type} (l:List α):Bool→List α:=@List.rec α (fun ξ=>Bool→List α) (fun ξ=>[]) (fun x ξ ih b=>@Bool.rec (fun ξ=>List α) (ih true) (x :: ih false) b) l
noncomputable def bt0 (n:Nat):List Obj→BT:=@Nat.rec (fun ξ=>List Obj→BT) (fun ξ=>.nil) (fun ξ ih l=>@List.rec Obj (fun ξ=>BT) .nil (fun x t ξ=>.node x (ih (sp t true)) (ih (sp t false))) l) n
noncomputable def bt1 (n:Nat):List Obj→BT:=@Nat.rec (fun ξ=>List Obj→BT) (fun ξ=>.nil) (fun ξ ih l=>@List.rec Obj (fun ξ=>BT) .nil (fun x t ξ=>.node x (ih (sp t true)) (ih (sp t false))) l) n
end Gt
end
section
set_option maxHeartbeats 8000000
namespace Gt
open PySem PySem.W PyProof.Rows PySem.Challenge
noncomputable def ei (P:Params) (s:Str) (t n:Nat):DictEntry:=e P s t (vi n (Nat.pred t))
noncomputable def vl (l:List Str):Nat→List Value:=@List.rec Str (fun ξ=>Nat→List Value) (fun ξ=>[]) (fun x ξ ih t=>vs x t :: ih (Nat.succ t)) l
noncomputable def fq (s:Stmt) (nm q:Str) (l:List Str) (t ln n1 n2 n3 fg a:Nat) (md:Value) (z:List Obj):List Obj :=
 tu [] :: ⟨.none,none,.fields ⟨[]⟩,⟨[]⟩⟩ :: tu (vl l (Nat.add t 3)) :: tu [] :: ⟨.none,none,fo s q [] .none .none .none .none none .none .none 0 0,⟨[]⟩⟩ ::
 fl "code" [vs nm t,vs q (Nat.add t 1),vs "/claim/cut.py" (Nat.add t 2),vi ln 0,vi n1 0,vi n2 0,vi n3 0,vi fg 0,r a,.bool true,vi 181 0,r (Nat.add a 1),.none,r (Nat.add a 2),r (Nat.add a 3),r (Nat.add a 4),vi (Nat.add t (Nat.add l.length 3)) 0,vi ln 0,vs "/claim/cut.py" (Nat.add t (Nat.add l.length 4))] ::
 ⟨.type "function",none,fo s q [] .none .none .none md none (r (Nat.add a 5)) .none 3 0,⟨[]⟩⟩ :: z
noncomputable def fs (s:Stmt) (nm:Str) (l:List Str) (t ln n1 n2 n3 fg a:Nat) (md:Value) (z:List Obj):List Obj:=fq s nm nm l t ln n1 n2 n3 fg a md z
noncomputable def l0 (P:Params):List Obj:=[PySem.W.boot_o_0 P,PySem.W.boot_o_1 P,PySem.W.boot_o_2 P,PySem.W.boot_o_3 P,PySem.W.boot_o_4 P,PySem.W.boot_o_5 P,PySem.W.boot_o_6 P,PySem.W.boot_o_7 P,PySem.W.boot_o_8 P,PySem.W.boot_o_9 P,PySem.W.boot_o_10 P]
noncomputable def d0 (P:Params):List DictEntry:=eo (PySem.W.boot_o_3 P)
noncomputable def s0 (w:World) (os:OsState):SharedT:=⟨bt0 11 (l0 w.params),11,{},#[],{},181,os⟩
noncomputable def d1 (P:Params):List DictEntry:=d0 P
noncomputable def g1:List Value:=[]
noncomputable def l1 (P:Params):List Obj:=ap (l0 P) (tu [] ::
 ⟨.none,none,(.fields ⟨[]⟩),⟨[]⟩⟩ ::
 fl "code" [(vs "<module>" 182),(vs "<module>" 183),(vs "/claim/cut.py" 184),(vi 1 0),(vi 0 0),(vi 0 0),(vi 0 0),(vi 0 0),(r 11),(.bool false),(vi 181 0),(r 12),.none,.none,.none,.none,(vi 185 0),(vi 1 0),(vs "/claim/cut.py" 186)] ::
 ⟨(.type "frame"),none,.plain,⟨[(some (r 13)),(some (r 3)),(some (r 3)),none,(some (vs "__main__" 164)),none,(some (r 0))]⟩⟩ ::
 [])
noncomputable def s1 (w:World) (os:OsState):SharedT:=⟨bt1 11 (l1 w.params),15,{},#[],{},187,os⟩
noncomputable def d2 (P:Params):List DictEntry:=ap (se (d1 P) 0 (e P "__name__" 165 (vs "framerune.kinds" 314))) [ei P "OP_LDNULL" 188 20,ei P "OP_LDC_I4" 190 32,ei P "OP_DUP" 192 37,ei P "OP_POP" 194 38,ei P "OP_CALL" 196 40,ei P "OP_RET" 198 42,ei P "OP_BR" 200 56,ei P "OP_BRFALSE" 202 57,ei P "OP_BRTRUE" 204 58,ei P "OP_BEQ" 206 59,ei P "OP_BLE" 208 62,ei P "OP_BLT" 210 63,ei P "OP_BLE_UN" 212 67,ei P "OP_BLT_UN" 214 68,ei P "OP_ADD" 216 88,ei P "OP_SUB" 218 89,ei P "OP_MUL" 220 90,ei P "OP_CONV_I4" 222 105,ei P "OP_CALLVIRT" 224 111,ei P "OP_LDSTR" 226 114,ei P "OP_NEWOBJ" 228 115,ei P "OP_THROW" 230 122,ei P "OP_LDFLD" 232 123,ei P "OP_LDFLDA" 234 124,ei P "OP_STFLD" 236 125,ei P "OP_BOX" 238 140,ei P "OP_NEWARR" 240 141,ei P "OP_LDLEN" 242 142,ei P "OP_LDELEM" 244 163,ei P "OP_STELEM" 246 164,ei P "OP_CEQ" 248 65025,ei P "OP_LDARG" 250 65033,ei P "OP_LDLOC" 252 65036,ei P "OP_STLOC" 254 65038,ei P "OP_CONSTRAINED" 256 65046,ei P "A_PRIVATE" 258 1,ei P "A_ASSEMBLY" 260 3,ei P "A_FAMILY" 262 4,ei P "A_PUBLIC" 264 6,e P "RuneError" 297 (r 31),e P "BadKind" 313 (r 44),ei P "VOID" 317 0,ei P "BOOL" 319 1,ei P "CHAR" 321 2,ei P "I1" 323 3,ei P "U1" 325 4,ei P "I2" 327 5,ei P "U2" 329 6,ei P "I4" 331 7,ei P "U4" 333 8,ei P "I8" 335 9,ei P "U8" 337 10,ei P "NINT" 339 11,ei P "OBJECT" 341 12,ei P "STRING" 343 13,ei P "NULLK" 345 14,ei P "PRIM_END" 347 16,ei P "R_PRIM" 349 1,ei P "R_CLASS" 351 2,ei P "R_VALUE" 353 3,ei P "R_ARRAY" 355 4,ei P "R_BYREF" 357 5,ei P "R_VAR" 359 6,ei P "R_MVAR" 361 7,ei P "R_BOXED" 363 8,ei P "R_ROREF" 365 9,ei P "R_FTN" 367 10,ei P "R_RAW" 369 11,ei P "DEEPEST_KIND" 371 24,ei P "HEAVIEST_KIND" 373 4096]
noncomputable def g2:List Value:=[(vi 41 0),(vi 0 0),(r 20),(vi 46 0),(vi 0 0),(r 40)]
noncomputable def l2 (P:Params):List Obj:=ap (se (se (se (l1 P) 2 (⟨.none,none,(.dict ⟨[e P "type.__subclasses__.Exception.0" 294 (vi 31 0),e P "type.__subclasses__.Exception.n" 295 (vi 1 0)]⟩ 2),⟨[]⟩⟩)) 3 ⟨(.type "dict"),none,.dict ⟨d2 P⟩ 79,⟨[]⟩⟩) 12 ⟨.none,none,.fields ⟨g2⟩,⟨[]⟩⟩) (tu [(.type "Exception")] ::
 fl "builtin_function_or_method" [(.builtin "type.__prepare__"),(.type "type")] ::
 ⟨(.type "dict"),none,(.dict ⟨[e P "__module__" 274 (vs "framerune.faults" 265),e P "__qualname__" 276 (vs "RuneError" 275),ei P "__firstlineno__" 278 41,e P "__init__" 287 (r 28),e P "__static_attributes__" 290 (r 29)]⟩ 5),⟨[]⟩⟩ ::
 tu [] ::
 ⟨.none,none,(.fields ⟨[(vi 43 0),(vi 4 0),(r 27)]⟩),⟨[]⟩⟩ ::
 fl "code" [(vs "RuneError" 269),(vs "RuneError" 270),(vs "/claim/cut.py" 271),(vi 41 0),(vi 0 0),(vi 0 0),(vi 0 0),(vi 0 0),(r 18),(.bool false),(vi 181 0),(r 19),.none,.none,.none,.none,(vi 272 0),(vi 41 0),(vs "/claim/cut.py" 273)] ::
 ⟨(.type "frame"),none,.plain,⟨[(some (r 20)),(some (r 3)),(some (r 17)),none,(some (vs "framerune.faults" 265)),none,(some (r 0))]⟩⟩ ::
 fq (ms 40 0) "__init__" "RuneError.__init__" ["self","code","at"] 279 43 3 0 0 3 22 (vs "framerune.faults" 265) (tu [(vs "at" 288),(vs "code" 289)] ::
 ⟨(.type "dict"),none,(.dict ⟨[e P "__module__" 274 (vs "framerune.faults" 265),ei P "__firstlineno__" 278 41,e P "__init__" 287 (r 28),e P "__static_attributes__" 290 (r 29),e P "__weakref__" 292 (r 32),e P "__doc__" 293 .none]⟩ 3),⟨[]⟩⟩ ::
 ⟨(.type "type"),none,(.cls ⟨"RuneError",[(.type "Exception")],[(r 31),(.type "Exception"),(.type "BaseException"),(.type "object")],30,"RuneError",true,[],[(r 44)],false,none,false⟩),⟨[(some (r 15)),none,(some (vs "RuneError" 267)),(some (vs "RuneError" 275)),(some (.builtin "Exception.__new__")),(some (.bool true))]⟩⟩ ::
 fl "getset_descriptor" [(vs "__weakref__" 291),(r 31),(.builtin "ExceptionGroup.__weakref__"),.none] ::
 fl "super" [(r 31),(r 31),(r 31)] ::
 fl "builtin_function_or_method" [(.builtin "object.__init_subclass__"),(r 31)] ::
 tu [(r 31)] ::
 fl "builtin_function_or_method" [(.builtin "type.__prepare__"),(.type "type")] ::
 ⟨(.type "dict"),none,(.dict ⟨[e P "__module__" 305 (vs "framerune.faults" 265),e P "__qualname__" 307 (vs "BadKind" 306),ei P "__firstlineno__" 309 46,e P "__static_attributes__" 310 (r 42)]⟩ 4),⟨[]⟩⟩ ::
 tu [] ::
 ⟨.none,none,(.fields ⟨[]⟩),⟨[]⟩⟩ ::
 fl "code" [(vs "BadKind" 300),(vs "BadKind" 301),(vs "/claim/cut.py" 302),(vi 46 0),(vi 0 0),(vi 0 0),(vi 0 0),(vi 0 0),(r 38),(.bool false),(vi 181 0),(r 39),.none,.none,.none,.none,(vi 303 0),(vi 46 0),(vs "/claim/cut.py" 304)] ::
 ⟨(.type "frame"),none,.plain,⟨[(some (r 40)),(some (r 3)),(some (r 37)),none,(some (vs "framerune.faults" 265)),none,(some (r 0))]⟩⟩ ::
 tu [] ::
 ⟨(.type "dict"),none,(.dict ⟨[e P "__module__" 305 (vs "framerune.faults" 265),ei P "__firstlineno__" 309 46,e P "__static_attributes__" 310 (r 42),e P "__doc__" 311 .none]⟩ 2),⟨[]⟩⟩ ::
 ⟨(.type "type"),none,(.cls ⟨"BadKind",[(r 31)],[(r 44),(r 31),(.type "Exception"),(.type "BaseException"),(.type "object")],43,"BadKind",true,[],[],false,none,false⟩),⟨[(some (r 35)),none,(some (vs "BadKind" 298)),(some (vs "BadKind" 306)),(some (.builtin "Exception.__new__")),(some (.bool true))]⟩⟩ ::
 fl "super" [(r 44),(r 44),(r 44)] ::
 fl "builtin_function_or_method" [(.builtin "object.__init_subclass__"),(r 44)] ::
 []))
noncomputable def s2 (w:World) (os:OsState):SharedT:=⟨bt0 11 (l2 w.params),47,{},#[],{},374,os⟩
noncomputable def d3 (P:Params):List DictEntry:=ap (d2 P) [e P "PRIM_TID" 402 (r 47),e P "TID_PRIM" 431 (r 48)]
noncomputable def g3:List Value:=g2
noncomputable def l3 (P:Params):List Obj:=ap (se (l2 P) 3 ⟨(.type "dict"),none,.dict ⟨d3 P⟩ 81,⟨[]⟩⟩) (⟨(.type "dict"),none,(.dict ⟨[⟨0,(vi 0 316),(vi 20 374)⟩,⟨1,(vi 1 318),(vi 9 375)⟩,⟨2,(vi 2 320),(vi 10 376)⟩,⟨3,(vi 3 322),(vi 11 377)⟩,⟨4,(vi 4 324),(vi 12 378)⟩,⟨5,(vi 5 326),(vi 13 379)⟩,⟨6,(vi 6 328),(vi 14 380)⟩,⟨7,(vi 7 330),(vi 15 381)⟩,⟨8,(vi 8 332),(vi 16 382)⟩,⟨9,(vi 9 334),(vi 17 383)⟩,⟨10,(vi 10 336),(vi 18 384)⟩,⟨11,(vi 11 338),(vi 19 385)⟩,⟨12,(vi 12 340),(vi 1 386)⟩,⟨13,(vi 13 342),(vi 4 387)⟩]⟩ 14),⟨[]⟩⟩ ::
 ⟨(.type "dict"),none,(.dict ⟨[⟨20,(vi 20 403),(vi 0 316)⟩,⟨9,(vi 9 404),(vi 1 318)⟩,⟨10,(vi 10 405),(vi 2 320)⟩,⟨11,(vi 11 406),(vi 3 322)⟩,⟨12,(vi 12 407),(vi 4 324)⟩,⟨13,(vi 13 408),(vi 5 326)⟩,⟨14,(vi 14 409),(vi 6 328)⟩,⟨15,(vi 15 410),(vi 7 330)⟩,⟨16,(vi 16 411),(vi 8 332)⟩,⟨17,(vi 17 412),(vi 9 334)⟩,⟨18,(vi 18 413),(vi 10 336)⟩,⟨19,(vi 19 414),(vi 11 338)⟩,⟨1,(vi 1 415),(vi 12 340)⟩,⟨4,(vi 4 416),(vi 13 342)⟩]⟩ 14),⟨[]⟩⟩ ::
 [])
noncomputable def s3 (w:World) (os:OsState):SharedT:=⟨bt1 11 (l3 w.params),49,{},#[],{},432,os⟩
noncomputable def d4 (P:Params):List DictEntry:=ap (d3 P) [ei P "ARRAY_TID" 433 5,e P "KindTable" 490 (r 79),e P "inner_kinds" 498 (r 90),e P "row_level" 505 (r 97),e P "row_length" 512 (r 104),e P "check_kind_row" 522 (r 111),e P "check_named" 530 (r 118),e P "check_args" 539 (r 125),e P "may_stand" 548 (r 132),e P "class_kind" 557 (r 139),e P "value_kind" 566 (r 146),e P "prim_kind" 574 (r 153),e P "array_kind" 582 (r 160),e P "byref_kind" 590 (r 167),e P "var_kind" 598 (r 174),e P "tid_of" 607 (r 181),e P "is_value" 615 (r 188),e P "is_ref" 624 (r 195),e P "is_var" 633 (r 202),ei P "CF_MESSAGE" 635 1,ei P "CF_INNER" 637 2,ei P "CF_HASVALUE" 639 6,ei P "CF_VALUE" 641 7,ei P "CF_ITEMS" 643 8,ei P "CF_COUNT" 645 9,ei P "CF_VERSION" 647 10,ei P "CF_LE_LIST" 649 20,ei P "CF_LE_AT" 651 21,ei P "CF_LE_CUR" 653 22,ei P "CF_LE_VER" 655 23,ei P "CF_END" 657 63,ei P "CM_OBJ_CTOR" 659 1,ei P "CM_OBJ_TOSTRING" 661 2,ei P "CM_OBJ_EQUALS" 663 3,ei P "CM_OBJ_HASH" 665 4,ei P "CM_OBJ_GETTYPE" 667 5,ei P "CM_OBJ_FINALIZE" 669 6,ei P "CM_OBJ_REFEQ" 671 7,ei P "CM_VT_EQUALS" 673 8,ei P "CM_VT_HASH" 675 9,ei P "CM_CONCAT" 677 10,ei P "CM_STR_LENGTH" 679 11,ei P "CM_STR_CHARS" 681 12,ei P "CM_STR_EQ" 683 13,ei P "CM_STR_NE" 685 14,ei P "CM_STR_EQUALS" 687 15,ei P "CM_STR_HASH" 689 16,ei P "CM_STR_TOSTRING" 691 17,ei P "CM_SUBSTRING" 693 18]
noncomputable def g4:List Value:=ap g3 [(vi 81 0),(vi 0 0),(r 54),(vi 130 0),(vi 0 0),(r 89),(vi 139 0),(vi 0 0),(r 96),(vi 143 0),(vi 0 0),(r 103),(vi 149 0),(vi 0 0),(r 110),(vi 171 0),(vi 0 0),(r 117),(vi 175 0),(vi 0 0),(r 124),(vi 179 0),(vi 0 0),(r 131),(vi 184 0),(vi 0 0),(r 138),(vi 188 0),(vi 0 0),(r 145),(vi 192 0),(vi 0 0),(r 152),(vi 196 0),(vi 0 0),(r 159),(vi 198 0),(vi 0 0),(r 166),(vi 200 0),(vi 0 0),(r 173),(vi 202 0),(vi 0 0),(r 180),(vi 211 0),(vi 0 0),(r 187),(vi 215 0),(vi 0 0),(r 194),(vi 220 0),(vi 0 0),(r 201)]
noncomputable def l4 (P:Params):List Obj:=ap (se (se (l3 P) 3 ⟨(.type "dict"),none,.dict ⟨d4 P⟩ 130,⟨[]⟩⟩) 12 ⟨.none,none,.fields ⟨g4⟩,⟨[]⟩⟩) (tu [] ::
 fl "builtin_function_or_method" [(.builtin "type.__prepare__"),(.type "type")] ::
 ⟨(.type "dict"),none,(.dict ⟨[e P "__module__" 441 (vs "framerune.kinds" 314),e P "__qualname__" 443 (vs "KindTable" 442),ei P "__firstlineno__" 445 81,e P "__init__" 454 (r 62),e P "row" 462 (r 69),e P "put" 477 (r 76),e P "__static_attributes__" 483 (r 77)]⟩ 7),⟨[]⟩⟩ ::
 tu [] ::
 ⟨.none,none,(.fields ⟨[(vi 83 0),(vi 4 0),(r 61),(vi 97 0),(vi 4 0),(r 68),(vi 102 0),(vi 4 0),(r 75)]⟩),⟨[]⟩⟩ ::
 fl "code" [(vs "KindTable" 436),(vs "KindTable" 437),(vs "/claim/cut.py" 438),(vi 81 0),(vi 0 0),(vi 0 0),(vi 0 0),(vi 0 0),(r 52),(.bool false),(vi 181 0),(r 53),.none,.none,.none,.none,(vi 439 0),(vi 81 0),(vs "/claim/cut.py" 440)] ::
 ⟨(.type "frame"),none,.plain,⟨[(some (r 54)),(some (r 3)),(some (r 51)),none,(some (vs "framerune.kinds" 314)),none,(some (r 0))]⟩⟩ ::
 fq (ms 75 0) "__init__" "KindTable.__init__" ["self","number","row"] 446 83 1 0 0 3 56 (vs "framerune.kinds" 314) (fq (ms 75 1) "row" "KindTable.row" ["self","k"] 455 97 2 0 0 3 63 (vs "framerune.kinds" 314) (fq (ms 75 2) "put" "KindTable.put" ["self","row","found","depth","weight","opened","level","inner","k"] 463 102 2 0 0 3 70 (vs "framerune.kinds" 314) (tu [(vs "depths" 478),(vs "index" 479),(vs "opens" 480),(vs "rows" 481),(vs "weights" 482)] ::
 ⟨(.type "dict"),none,(.dict ⟨[e P "__module__" 441 (vs "framerune.kinds" 314),ei P "__firstlineno__" 445 81,e P "__init__" 454 (r 62),e P "row" 462 (r 69),e P "put" 477 (r 76),e P "__static_attributes__" 483 (r 77),e P "__dict__" 485 (r 80),e P "__weakref__" 487 (r 81),e P "__doc__" 488 .none]⟩ 4),⟨[]⟩⟩ ::
 ⟨(.type "type"),none,(.cls ⟨"KindTable",[(.type "object")],[(r 79),(.type "object")],78,"KindTable",true,[],[],false,none,false⟩),⟨[none,none,(some (vs "KindTable" 434)),(some (vs "KindTable" 442)),(some (.builtin "object.__new__")),(some (.bool true))]⟩⟩ ::
 fl "getset_descriptor" [(vs "__dict__" 484),(r 79),(.builtin "function.__dict__"),(.builtin "function.__dict__#set")] ::
 fl "getset_descriptor" [(vs "__weakref__" 486),(r 79),(.builtin "ExceptionGroup.__weakref__"),.none] ::
 fl "super" [(r 79),(r 79),(r 79)] ::
 fl "builtin_function_or_method" [(.builtin "object.__init_subclass__"),(r 79)] ::
 fs (st 76) "inner_kinds" ["row","sort"] 491 130 1 0 0 3 84 (vs "framerune.kinds" 314) (fs (st 77) "row_level" ["sort"] 499 139 1 0 0 3 91 (vs "framerune.kinds" 314) (fs (st 78) "row_length" ["sort"] 506 143 1 0 0 3 98 (vs "framerune.kinds" 314) (fs (st 79) "check_kind_row" ["kt","row","sort","inner"] 513 149 2 0 0 3 105 (vs "framerune.kinds" 314) (fs (st 80) "check_named" ["kt","row"] 523 171 2 0 0 3 112 (vs "framerune.kinds" 314) (fs (st 81) "check_args" ["kt","args","arg"] 531 175 2 0 0 3 119 (vs "framerune.kinds" 314) (fs (st 82) "may_stand" ["kt","k","sort"] 540 179 2 0 0 3 126 (vs "framerune.kinds" 314) (fs (st 83) "class_kind" ["kt","tid","args"] 549 184 3 0 0 3 133 (vs "framerune.kinds" 314) (fs (st 84) "value_kind" ["kt","tid","args"] 558 188 3 0 0 3 140 (vs "framerune.kinds" 314) (fs (st 85) "prim_kind" ["tid","args"] 567 192 2 0 0 3 147 (vs "framerune.kinds" 314) (fs (st 86) "array_kind" ["kt","elem"] 575 196 2 0 0 3 154 (vs "framerune.kinds" 314) (fs (st 87) "byref_kind" ["kt","inner"] 583 198 2 0 0 3 161 (vs "framerune.kinds" 314) (fs (st 88) "var_kind" ["kt","i"] 591 200 2 0 0 3 168 (vs "framerune.kinds" 314) (fs (st 89) "tid_of" ["kt","k","row"] 599 202 2 0 0 3 175 (vs "framerune.kinds" 314) (fs (st 90) "is_value" ["kt","k"] 608 211 2 0 0 3 182 (vs "framerune.kinds" 314) (fs (st 91) "is_ref" ["kt","k","sort"] 616 215 2 0 0 3 189 (vs "framerune.kinds" 314) (fs (st 92) "is_var" ["kt","k","sort"] 625 220 2 0 0 3 196 (vs "framerune.kinds" 314) []))))))))))))))))))))
noncomputable def s4 (w:World) (os:OsState):SharedT:=⟨bt0 11 (l4 w.params),203,{},#[],{},694,os⟩
noncomputable def d5 (P:Params):List DictEntry:=ap (se (d4 P) 0 (e P "__name__" 165 (vs "framerune.store" 764))) [ei P "CM_INDEXOF" 695 19,ei P "CM_CONCAT_OBJ" 697 20,ei P "CM_EX_CTOR0" 699 21,ei P "CM_EX_CTOR1" 701 22,ei P "CM_EX_CTOR2" 703 23,ei P "CM_EX_MESSAGE" 705 24,ei P "CM_EX_INNER" 707 25,ei P "CM_EX_TOSTRING" 709 26,ei P "CM_EXCEPTIONS" 711 30,ei P "CM_NUL_CTOR" 713 65,ei P "CM_NUL_HASVALUE" 715 66,ei P "CM_NUL_VALUE" 717 67,ei P "CM_NUL_ORDEFAULT" 719 68,ei P "CM_STR_COMPARE" 721 105,ei P "CM_DISPOSE" 723 106,ei P "CM_GETENUM" 725 107,ei P "CM_GETCURRENT" 727 108,ei P "CM_MOVENEXT" 729 109,ei P "CM_COMPARETO" 731 111,ei P "CM_LIST_CTOR" 733 124,ei P "CM_ADD" 735 125,ei P "CM_LIST_COUNT" 737 126,ei P "CM_GETITEM" 739 127,ei P "CM_SETITEM" 741 128,ei P "CM_REMOVEAT" 743 129,ei P "CM_CLEAR" 745 130,ei P "CM_CONTAINS" 747 131,ei P "CM_LIST_ENUM" 749 132,ei P "CM_INSERT" 751 133,ei P "CM_LE_CTOR" 753 134,ei P "CM_LE_MOVE" 755 135,ei P "CM_LE_CURRENT" 757 136,ei P "CM_LE_DISPOSE" 759 137,ei P "CM_ARR_LENGTH" 761 203,ei P "CM_END" 763 255,ei P "S_CLASS" 767 1,ei P "S_STRUCT" 769 2,ei P "S_ENUM" 771 5,ei P "VA_NONE" 773 0,ei P "MF_STATIC" 775 1,ei P "MF_VIRTUAL" 777 2,ei P "MF_NEWSLOT" 779 4,ei P "MF_ABSTRACT" 781 8,ei P "MF_FINAL" 783 16,ei P "MF_CTOR" 785 32,ei P "MF_CCTOR" 787 64,ei P "MF_SPECIAL" 789 128,ei P "T_OBJECT" 791 1,ei P "T_VALUETYPE" 793 2,ei P "T_STRING" 795 4,ei P "T_ARRAY" 797 5,ei P "T_EXCEPTION" 799 7,ei P "T_NULLABLE" 801 8,ei P "T_NULLREF" 803 21,ei P "T_INVALIDOP" 805 29,ei P "T_ARGRANGE" 807 32,ei P "T_NOTSUPP" 809 33,ei P "T_DISPOSABLE" 811 34,ei P "T_IENUM" 813 35,ei P "T_IENUMERATOR" 815 36,ei P "T_LIST" 817 37,ei P "T_COMPARABLE" 819 48,ei P "T_TYPE" 821 51,ei P "T_LISTENUM" 823 55,e P "TypeDef" 877 (r 219),e P "FieldDef" 917 (r 240)]
noncomputable def g5:List Value:=ap g4 [(vi 318 0),(vi 0 0),(r 208),(vi 344 0),(vi 0 0),(r 229)]
noncomputable def l5 (P:Params):List Obj:=ap (se (se (l4 P) 3 ⟨(.type "dict"),none,.dict ⟨d5 P⟩ 196,⟨[]⟩⟩) 12 ⟨.none,none,.fields ⟨g5⟩,⟨[]⟩⟩) (tu [] ::
 fl "builtin_function_or_method" [(.builtin "type.__prepare__"),(.type "type")] ::
 ⟨(.type "dict"),none,(.dict ⟨[e P "__module__" 831 (vs "framerune.store" 764),e P "__qualname__" 833 (vs "TypeDef" 832),ei P "__firstlineno__" 835 318,e P "__init__" 850 (r 216),e P "__static_attributes__" 870 (r 217)]⟩ 5),⟨[]⟩⟩ ::
 tu [] ::
 ⟨.none,none,(.fields ⟨[(vi 320 0),(vi 4 0),(r 215)]⟩),⟨[]⟩⟩ ::
 fl "code" [(vs "TypeDef" 826),(vs "TypeDef" 827),(vs "/claim/cut.py" 828),(vi 318 0),(vi 0 0),(vi 0 0),(vi 0 0),(vi 0 0),(r 206),(.bool false),(vi 181 0),(r 207),.none,.none,.none,.none,(vi 829 0),(vi 318 0),(vs "/claim/cut.py" 830)] ::
 ⟨(.type "frame"),none,.plain,⟨[(some (r 208)),(some (r 3)),(some (r 205)),none,(some (vs "framerune.store" 764)),none,(some (r 0))]⟩⟩ ::
 fq (ms 188 0) "__init__" "TypeDef.__init__" ["self","tid","name","sort","flags","base","params","asm","word"] 836 320 8 0 0 3 210 (vs "framerune.store" 764) (tu [(vs "asm" 851),(vs "base" 852),(vs "bounds" 853),(vs "cctor" 854),(vs "events" 855),(vs "fields" 856),(vs "finaliser" 857),(vs "flags" 858),(vs "home" 859),(vs "ifaces" 860),(vs "impls" 861),(vs "methods" 862),(vs "name" 863),(vs "params" 864),(vs "props" 865),(vs "sort" 866),(vs "tid" 867),(vs "under" 868),(vs "variances" 869)] ::
 ⟨(.type "dict"),none,(.dict ⟨[e P "__module__" 831 (vs "framerune.store" 764),ei P "__firstlineno__" 835 318,e P "__init__" 850 (r 216),e P "__static_attributes__" 870 (r 217),e P "__dict__" 872 (r 220),e P "__weakref__" 874 (r 221),e P "__doc__" 875 .none]⟩ 4),⟨[]⟩⟩ ::
 ⟨(.type "type"),none,(.cls ⟨"TypeDef",[(.type "object")],[(r 219),(.type "object")],218,"TypeDef",true,[],[],false,none,false⟩),⟨[none,none,(some (vs "TypeDef" 824)),(some (vs "TypeDef" 832)),(some (.builtin "object.__new__")),(some (.bool true))]⟩⟩ ::
 fl "getset_descriptor" [(vs "__dict__" 871),(r 219),(.builtin "function.__dict__"),(.builtin "function.__dict__#set")] ::
 fl "getset_descriptor" [(vs "__weakref__" 873),(r 219),(.builtin "ExceptionGroup.__weakref__"),.none] ::
 fl "super" [(r 219),(r 219),(r 219)] ::
 fl "builtin_function_or_method" [(.builtin "object.__init_subclass__"),(r 219)] ::
 tu [] ::
 fl "builtin_function_or_method" [(.builtin "type.__prepare__"),(.type "type")] ::
 ⟨(.type "dict"),none,(.dict ⟨[e P "__module__" 885 (vs "framerune.store" 764),e P "__qualname__" 887 (vs "FieldDef" 886),ei P "__firstlineno__" 889 344,e P "__init__" 902 (r 237),e P "__static_attributes__" 910 (r 238)]⟩ 5),⟨[]⟩⟩ ::
 tu [] ::
 ⟨.none,none,(.fields ⟨[(vi 346 0),(vi 4 0),(r 236)]⟩),⟨[]⟩⟩ ::
 fl "code" [(vs "FieldDef" 880),(vs "FieldDef" 881),(vs "/claim/cut.py" 882),(vi 344 0),(vi 0 0),(vi 0 0),(vi 0 0),(vi 0 0),(r 227),(.bool false),(vi 181 0),(r 228),.none,.none,.none,.none,(vi 883 0),(vi 344 0),(vs "/claim/cut.py" 884)] ::
 ⟨(.type "frame"),none,.plain,⟨[(some (r 229)),(some (r 3)),(some (r 226)),none,(some (vs "framerune.store" 764)),none,(some (r 0))]⟩⟩ ::
 fq (ms 189 0) "__init__" "FieldDef.__init__" ["self","fid","owner","name","kind","access","flags"] 890 346 7 0 0 3 231 (vs "framerune.store" 764) (tu [(vs "access" 903),(vs "fid" 904),(vs "flags" 905),(vs "kind" 906),(vs "name" 907),(vs "owner" 908),(vs "value" 909)] ::
 ⟨(.type "dict"),none,(.dict ⟨[e P "__module__" 885 (vs "framerune.store" 764),ei P "__firstlineno__" 889 344,e P "__init__" 902 (r 237),e P "__static_attributes__" 910 (r 238),e P "__dict__" 912 (r 241),e P "__weakref__" 914 (r 242),e P "__doc__" 915 .none]⟩ 4),⟨[]⟩⟩ ::
 ⟨(.type "type"),none,(.cls ⟨"FieldDef",[(.type "object")],[(r 240),(.type "object")],239,"FieldDef",true,[],[],false,none,false⟩),⟨[none,none,(some (vs "FieldDef" 878)),(some (vs "FieldDef" 886)),(some (.builtin "object.__new__")),(some (.bool true))]⟩⟩ ::
 fl "getset_descriptor" [(vs "__dict__" 911),(r 240),(.builtin "function.__dict__"),(.builtin "function.__dict__#set")] ::
 fl "getset_descriptor" [(vs "__weakref__" 913),(r 240),(.builtin "ExceptionGroup.__weakref__"),.none] ::
 fl "super" [(r 240),(r 240),(r 240)] ::
 fl "builtin_function_or_method" [(.builtin "object.__init_subclass__"),(r 240)] ::
 [])))
noncomputable def s5 (w:World) (os:OsState):SharedT:=⟨bt1 11 (l5 w.params),245,{},#[],{},918,os⟩
noncomputable def d6 (P:Params):List DictEntry:=ap (d5 P) [e P "MethodDef" 965 (r 261),e P "Body" 1000 (r 282),e P "Store" 1034 (r 303),e P "plain_names" 1043 (r 314),e P "add_iface" 1053 (r 321),e P "put_field_at" 1067 (r 328),e P "kept_flags" 1074 (r 335),e P "put_method_at" 1090 (r 342),e P "note_method" 1100 (r 349),e P "set_body" 1116 (r 356),e P "set_native" 1125 (r 363),e P "put_once" 1133 (r 370),e P "add_prop" 1146 (r 377),e P "exception_ctor" 1154 (r 384),e P "self_kind" 1165 (r 391)]
noncomputable def g6:List Value:=ap g5 [(vi 354 0),(vi 0 0),(r 250),(vi 371 0),(vi 0 0),(r 271),(vi 378 0),(vi 0 0),(r 292),(vi 388 0),(vi 0 0),(r 313),(vi 393 0),(vi 0 0),(r 320),(vi 397 0),(vi 0 0),(r 327),(vi 407 0),(vi 0 0),(r 334),(vi 411 0),(vi 0 0),(r 341),(vi 427 0),(vi 0 0),(r 348),(vi 435 0),(vi 0 0),(r 355),(vi 443 0),(vi 0 0),(r 362),(vi 445 0),(vi 0 0),(r 369),(vi 448 0),(vi 0 0),(r 376),(vi 450 0),(vi 0 0),(r 383),(vi 452 0),(vi 0 0),(r 390)]
noncomputable def l6 (P:Params):List Obj:=ap (se (se (l5 P) 3 ⟨(.type "dict"),none,.dict ⟨d6 P⟩ 211,⟨[]⟩⟩) 12 ⟨.none,none,.fields ⟨g6⟩,⟨[]⟩⟩) (tu [] ::
 fl "builtin_function_or_method" [(.builtin "type.__prepare__"),(.type "type")] ::
 ⟨(.type "dict"),none,(.dict ⟨[e P "__module__" 925 (vs "framerune.store" 764),e P "__qualname__" 927 (vs "MethodDef" 926),ei P "__firstlineno__" 929 354,e P "__init__" 943 (r 258),e P "__static_attributes__" 958 (r 259)]⟩ 5),⟨[]⟩⟩ ::
 tu [] ::
 ⟨.none,none,(.fields ⟨[(vi 356 0),(vi 4 0),(r 257)]⟩),⟨[]⟩⟩ ::
 fl "code" [(vs "MethodDef" 920),(vs "MethodDef" 921),(vs "/claim/cut.py" 922),(vi 354 0),(vi 0 0),(vi 0 0),(vi 0 0),(vi 0 0),(r 248),(.bool false),(vi 181 0),(r 249),.none,.none,.none,.none,(vi 923 0),(vi 354 0),(vs "/claim/cut.py" 924)] ::
 ⟨(.type "frame"),none,.plain,⟨[(some (r 250)),(some (r 3)),(some (r 247)),none,(some (vs "framerune.store" 764)),none,(some (r 0))]⟩⟩ ::
 fq (ms 190 0) "__init__" "MethodDef.__init__" ["self","mid","owner","name","access","flags","ret","params"] 930 356 8 0 0 3 252 (vs "framerune.store" 764) (tu [(vs "access" 944),(vs "body" 945),(vs "flags" 946),(vs "gbounds" 947),(vs "gnames" 948),(vs "mid" 949),(vs "name" 950),(vs "native" 951),(vs "ngen" 952),(vs "owner" 953),(vs "params" 954),(vs "pflags" 955),(vs "pnames" 956),(vs "ret" 957)] ::
 ⟨(.type "dict"),none,(.dict ⟨[e P "__module__" 925 (vs "framerune.store" 764),ei P "__firstlineno__" 929 354,e P "__init__" 943 (r 258),e P "__static_attributes__" 958 (r 259),e P "__dict__" 960 (r 262),e P "__weakref__" 962 (r 263),e P "__doc__" 963 .none]⟩ 4),⟨[]⟩⟩ ::
 ⟨(.type "type"),none,(.cls ⟨"MethodDef",[(.type "object")],[(r 261),(.type "object")],260,"MethodDef",true,[],[],false,none,false⟩),⟨[none,none,(some (vs "MethodDef" 918)),(some (vs "MethodDef" 926)),(some (.builtin "object.__new__")),(some (.bool true))]⟩⟩ ::
 fl "getset_descriptor" [(vs "__dict__" 959),(r 261),(.builtin "function.__dict__"),(.builtin "function.__dict__#set")] ::
 fl "getset_descriptor" [(vs "__weakref__" 961),(r 261),(.builtin "ExceptionGroup.__weakref__"),.none] ::
 fl "super" [(r 261),(r 261),(r 261)] ::
 fl "builtin_function_or_method" [(.builtin "object.__init_subclass__"),(r 261)] ::
 tu [] ::
 fl "builtin_function_or_method" [(.builtin "type.__prepare__"),(.type "type")] ::
 ⟨(.type "dict"),none,(.dict ⟨[e P "__module__" 973 (vs "framerune.store" 764),e P "__qualname__" 975 (vs "Body" 974),ei P "__firstlineno__" 977 371,e P "__init__" 988 (r 279),e P "__static_attributes__" 993 (r 280)]⟩ 5),⟨[]⟩⟩ ::
 tu [] ::
 ⟨.none,none,(.fields ⟨[(vi 373 0),(vi 4 0),(r 278)]⟩),⟨[]⟩⟩ ::
 fl "code" [(vs "Body" 968),(vs "Body" 969),(vs "/claim/cut.py" 970),(vi 371 0),(vi 0 0),(vi 0 0),(vi 0 0),(vi 0 0),(r 269),(.bool false),(vi 181 0),(r 270),.none,.none,.none,.none,(vi 971 0),(vi 371 0),(vs "/claim/cut.py" 972)] ::
 ⟨(.type "frame"),none,.plain,⟨[(some (r 271)),(some (r 3)),(some (r 268)),none,(some (vs "framerune.store" 764)),none,(some (r 0))]⟩⟩ ::
 fq (ms 191 0) "__init__" "Body.__init__" ["self","locals_","maxstack","code","clauses"] 978 373 5 0 0 3 273 (vs "framerune.store" 764) (tu [(vs "clauses" 989),(vs "code" 990),(vs "locals_" 991),(vs "maxstack" 992)] ::
 ⟨(.type "dict"),none,(.dict ⟨[e P "__module__" 973 (vs "framerune.store" 764),ei P "__firstlineno__" 977 371,e P "__init__" 988 (r 279),e P "__static_attributes__" 993 (r 280),e P "__dict__" 995 (r 283),e P "__weakref__" 997 (r 284),e P "__doc__" 998 .none]⟩ 4),⟨[]⟩⟩ ::
 ⟨(.type "type"),none,(.cls ⟨"Body",[(.type "object")],[(r 282),(.type "object")],281,"Body",true,[],[],false,none,false⟩),⟨[none,none,(some (vs "Body" 966)),(some (vs "Body" 974)),(some (.builtin "object.__new__")),(some (.bool true))]⟩⟩ ::
 fl "getset_descriptor" [(vs "__dict__" 994),(r 282),(.builtin "function.__dict__"),(.builtin "function.__dict__#set")] ::
 fl "getset_descriptor" [(vs "__weakref__" 996),(r 282),(.builtin "ExceptionGroup.__weakref__"),.none] ::
 fl "super" [(r 282),(r 282),(r 282)] ::
 fl "builtin_function_or_method" [(.builtin "object.__init_subclass__"),(r 282)] ::
 tu [] ::
 fl "builtin_function_or_method" [(.builtin "type.__prepare__"),(.type "type")] ::
 ⟨(.type "dict"),none,(.dict ⟨[e P "__module__" 1008 (vs "framerune.store" 764),e P "__qualname__" 1010 (vs "Store" 1009),ei P "__firstlineno__" 1012 378,e P "__init__" 1019 (r 300),e P "__static_attributes__" 1027 (r 301)]⟩ 5),⟨[]⟩⟩ ::
 tu [] ::
 ⟨.none,none,(.fields ⟨[(vi 380 0),(vi 4 0),(r 299)]⟩),⟨[]⟩⟩ ::
 fl "code" [(vs "Store" 1003),(vs "Store" 1004),(vs "/claim/cut.py" 1005),(vi 378 0),(vi 0 0),(vi 0 0),(vi 0 0),(vi 0 0),(r 290),(.bool false),(vi 181 0),(r 291),.none,.none,.none,.none,(vi 1006 0),(vi 378 0),(vs "/claim/cut.py" 1007)] ::
 ⟨(.type "frame"),none,.plain,⟨[(some (r 292)),(some (r 3)),(some (r 289)),none,(some (vs "framerune.store" 764)),none,(some (r 0))]⟩⟩ ::
 fq (ms 192 0) "__init__" "Store.__init__" ["self"] 1013 380 1 0 0 3 294 (vs "framerune.store" 764) (tu [(vs "asms" 1020),(vs "entry" 1021),(vs "fields_" 1022),(vs "kt" 1023),(vs "methods" 1024),(vs "names" 1025),(vs "types" 1026)] ::
 ⟨(.type "dict"),none,(.dict ⟨[e P "__module__" 1008 (vs "framerune.store" 764),ei P "__firstlineno__" 1012 378,e P "__init__" 1019 (r 300),e P "__static_attributes__" 1027 (r 301),e P "__dict__" 1029 (r 304),e P "__weakref__" 1031 (r 305),e P "__doc__" 1032 .none]⟩ 4),⟨[]⟩⟩ ::
 ⟨(.type "type"),none,(.cls ⟨"Store",[(.type "object")],[(r 303),(.type "object")],302,"Store",true,[],[],false,none,false⟩),⟨[none,none,(some (vs "Store" 1001)),(some (vs "Store" 1009)),(some (.builtin "object.__new__")),(some (.bool true))]⟩⟩ ::
 fl "getset_descriptor" [(vs "__dict__" 1028),(r 303),(.builtin "function.__dict__"),(.builtin "function.__dict__#set")] ::
 fl "getset_descriptor" [(vs "__weakref__" 1030),(r 303),(.builtin "ExceptionGroup.__weakref__"),.none] ::
 fl "super" [(r 303),(r 303),(r 303)] ::
 fl "builtin_function_or_method" [(.builtin "object.__init_subclass__"),(r 303)] ::
 fs (st 193) "plain_names" ["count","out","place"] 1035 388 1 0 0 3 308 (vs "framerune.store" 764) (fs (st 194) "add_iface" ["store","tid","kind","t"] 1044 393 3 0 0 3 315 (vs "framerune.store" 764) (fs (st 195) "put_field_at" ["store","fid","tid","name","kind","access","flags","old"] 1054 397 7 0 0 3 322 (vs "framerune.store" 764) (fs (st 196) "kept_flags" ["flags"] 1068 407 1 0 0 3 329 (vs "framerune.store" 764) (fs (st 197) "put_method_at" ["store","mid","tid","name","access","flags","ret","params","old","t"] 1075 411 8 0 0 3 336 (vs "framerune.store" 764) (fs (st 198) "note_method" ["store","mid","m","t"] 1091 427 2 0 0 3 343 (vs "framerune.store" 764) (fs (st 199) "set_body" ["store","mid","locals_","maxstack","code","clauses","rows","ins","edges","clause"] 1101 435 6 0 0 3 350 (vs "framerune.store" 764) (fs (st 200) "set_native" ["store","mid","n"] 1117 443 3 0 0 3 357 (vs "framerune.store" 764) (fs (st 201) "put_once" ["rows","row"] 1126 445 2 0 0 3 364 (vs "framerune.store" 764) (fs (st 202) "add_prop" ["store","tid","name","kind","getter","setter","index_kinds"] 1134 448 7 0 0 3 371 (vs "framerune.store" 764) (fs (st 203) "exception_ctor" ["tid","with_text"] 1147 450 2 0 0 3 378 (vs "framerune.store" 764) (fs (st 204) "self_kind" ["store","tid","t","args","place"] 1155 452 2 0 0 3 385 (vs "framerune.store" 764) [])))))))))))))))
noncomputable def s6 (w:World) (os:OsState):SharedT:=⟨bt0 11 (l6 w.params),392,{},#[],{},1166,os⟩
noncomputable def d7 (P:Params):List DictEntry:=ap (se (d6 P) 0 (e P "__name__" 165 (vs "framerune.ops" 1183))) [e P "kind_with" 1175 (r 398),e P "is_virtual" 1182 (r 405),ei P "SO_NONE" 1186 0,ei P "SO_I4" 1188 1,ei P "SO_I8" 1190 2,ei P "SO_ARG" 1192 3,ei P "SO_LOCAL" 1194 4,ei P "SO_BRANCH" 1196 5,ei P "SO_SWITCH" 1198 6,ei P "SO_KIND" 1200 7,ei P "SO_FIELD" 1202 8,ei P "SO_METHOD" 1204 9,ei P "SO_TEXT" 1206 10,ei P "SO_TOKEN" 1208 11]
noncomputable def g7:List Value:=ap g6 [(vi 460 0),(vi 0 0),(r 397),(vi 465 0),(vi 0 0),(r 404)]
noncomputable def l7 (P:Params):List Obj:=ap (se (se (l6 P) 3 ⟨(.type "dict"),none,.dict ⟨d7 P⟩ 225,⟨[]⟩⟩) 12 ⟨.none,none,.fields ⟨g7⟩,⟨[]⟩⟩) (fs (st 205) "kind_with" ["store","tid","args","sort"] 1166 460 3 0 0 3 392 (vs "framerune.store" 764) (fs (st 206) "is_virtual" ["m"] 1176 465 1 0 0 3 399 (vs "framerune.store" 764) []))
noncomputable def s7 (w:World) (os:OsState):SharedT:=⟨bt1 11 (l7 w.params),406,{},#[],{},1209,os⟩
noncomputable def d8 (P:Params):List DictEntry:=ap (d7 P) [e P "OP_SORT" 1461 (r 406)]
noncomputable def g8:List Value:=g7
noncomputable def iy (k t v c:Nat):DictEntry:=⟨.ofNat k,vi k t,vi v c⟩
noncomputable def nq1:List DictEntry:=[iy 0 1209 0 1185,iy 20 1211 0 1185,iy 32 1213 1 1187,iy 33 1215 2 1189,iy 37 1217 0 1185,iy 38 1219 0 1185,iy 40 1221 9 1203,iy 42 1223 0 1185,iy 56 1225 5 1195,iy 57 1227 5 1195,iy 58 1229 5 1195,iy 59 1231 5 1195,iy 60 1233 5 1195,iy 61 1235 5 1195,iy 62 1237 5 1195,iy 63 1239 5 1195,iy 64 1241 5 1195]
noncomputable def mq1:List DictEntry:=nq1
noncomputable def nq2:List DictEntry:=[iy 65 1243 5 1195,iy 66 1245 5 1195,iy 67 1247 5 1195,iy 68 1249 5 1195,iy 69 1251 6 1197,iy 70 1253 0 1185,iy 71 1255 0 1185,iy 72 1257 0 1185,iy 73 1259 0 1185,iy 74 1261 0 1185,iy 75 1263 0 1185,iy 76 1265 0 1185,iy 77 1267 0 1185,iy 80 1269 0 1185,iy 81 1271 0 1185,iy 82 1273 0 1185,iy 83 1275 0 1185]
noncomputable def mq2:List DictEntry:=ap mq1 nq2
noncomputable def nq3:List DictEntry:=[iy 84 1277 0 1185,iy 85 1279 0 1185,iy 88 1281 0 1185,iy 89 1283 0 1185,iy 90 1285 0 1185,iy 91 1287 0 1185,iy 92 1289 0 1185,iy 93 1291 0 1185,iy 94 1293 0 1185,iy 95 1295 0 1185,iy 96 1297 0 1185,iy 97 1299 0 1185,iy 98 1301 0 1185,iy 99 1303 0 1185,iy 100 1305 0 1185,iy 101 1307 0 1185,iy 102 1309 0 1185]
noncomputable def mq3:List DictEntry:=ap mq2 nq3
noncomputable def nq4:List DictEntry:=[iy 103 1311 0 1185,iy 104 1313 0 1185,iy 105 1315 0 1185,iy 106 1317 0 1185,iy 109 1319 0 1185,iy 110 1321 0 1185,iy 111 1323 9 1203,iy 113 1325 7 1199,iy 114 1327 10 1205,iy 115 1329 9 1203,iy 116 1331 7 1199,iy 117 1333 7 1199,iy 121 1335 7 1199,iy 122 1337 0 1185,iy 123 1339 8 1201,iy 124 1341 8 1201,iy 125 1343 8 1201]
noncomputable def mq4:List DictEntry:=ap mq3 nq4
noncomputable def nq5:List DictEntry:=[iy 126 1345 8 1201,iy 127 1347 8 1201,iy 128 1349 8 1201,iy 129 1351 7 1199,iy 130 1353 0 1185,iy 131 1355 0 1185,iy 132 1357 0 1185,iy 133 1359 0 1185,iy 134 1361 0 1185,iy 135 1363 0 1185,iy 136 1365 0 1185,iy 137 1367 0 1185,iy 140 1369 7 1199,iy 141 1371 7 1199,iy 142 1373 0 1185,iy 143 1375 7 1199,iy 163 1377 7 1199]
noncomputable def mq5:List DictEntry:=ap mq4 nq5
noncomputable def nq6:List DictEntry:=[iy 164 1379 7 1199,iy 165 1381 7 1199,iy 179 1383 0 1185,iy 180 1385 0 1185,iy 181 1387 0 1185,iy 182 1389 0 1185,iy 183 1391 0 1185,iy 184 1393 0 1185,iy 185 1395 0 1185,iy 186 1397 0 1185,iy 208 1399 11 1207,iy 209 1401 0 1185,iy 210 1403 0 1185,iy 211 1405 0 1185,iy 214 1407 0 1185,iy 215 1409 0 1185,iy 216 1411 0 1185]
noncomputable def mq6:List DictEntry:=ap mq5 nq6
noncomputable def nq7:List DictEntry:=[iy 217 1413 0 1185,iy 218 1415 0 1185,iy 219 1417 0 1185,iy 220 1419 0 1185,iy 221 1421 5 1195,iy 223 1423 0 1185,iy 65025 1425 0 1185,iy 65026 1427 0 1185,iy 65027 1429 0 1185,iy 65028 1431 0 1185,iy 65029 1433 0 1185,iy 65030 1435 9 1203,iy 65031 1437 9 1203,iy 65033 1439 3 1191,iy 65034 1441 3 1191,iy 65035 1443 3 1191,iy 65036 1445 4 1193]
noncomputable def mq7:List DictEntry:=ap mq6 nq7
noncomputable def nq8:List DictEntry:=[iy 65037 1447 4 1193,iy 65038 1448 4 1193,iy 65041 1449 0 1185,iy 65045 1450 7 1199,iy 65046 1451 7 1199,iy 65050 1452 0 1185,iy 65054 1453 0 1185]
noncomputable def mq8:List DictEntry:=ap mq7 nq8
noncomputable def lq1 (P:Params):List Obj:=ap (l7 P) [⟨(.type "dict"),none,(.dict ⟨nq1⟩ 17),⟨[]⟩⟩]
noncomputable def sq1 (w:World) (os:OsState):SharedT:=⟨bt1 11 (lq1 w.params),407,{},#[],{},1243,os⟩
noncomputable def lq2 (P:Params):List Obj:=ap (se (lq1 P) 406 ⟨(.type "dict"),none,(.dict ⟨mq2⟩ 34),⟨[]⟩⟩) [⟨(.type "dict"),none,(.dict ⟨nq2⟩ 17),⟨[]⟩⟩]
noncomputable def sq2 (w:World) (os:OsState):SharedT:=⟨bt1 11 (lq2 w.params),408,{},#[],{},1277,os⟩
noncomputable def lq3 (P:Params):List Obj:=ap (se (lq2 P) 406 ⟨(.type "dict"),none,(.dict ⟨mq3⟩ 51),⟨[]⟩⟩) [⟨(.type "dict"),none,(.dict ⟨nq3⟩ 17),⟨[]⟩⟩]
noncomputable def sq3 (w:World) (os:OsState):SharedT:=⟨bt1 11 (lq3 w.params),409,{},#[],{},1311,os⟩
noncomputable def lq4 (P:Params):List Obj:=ap (se (lq3 P) 406 ⟨(.type "dict"),none,(.dict ⟨mq4⟩ 68),⟨[]⟩⟩) [⟨(.type "dict"),none,(.dict ⟨nq4⟩ 17),⟨[]⟩⟩]
noncomputable def sq4 (w:World) (os:OsState):SharedT:=⟨bt1 11 (lq4 w.params),410,{},#[],{},1345,os⟩
noncomputable def lq5 (P:Params):List Obj:=ap (se (lq4 P) 406 ⟨(.type "dict"),none,(.dict ⟨mq5⟩ 85),⟨[]⟩⟩) [⟨(.type "dict"),none,(.dict ⟨nq5⟩ 17),⟨[]⟩⟩]
noncomputable def sq5 (w:World) (os:OsState):SharedT:=⟨bt1 11 (lq5 w.params),411,{},#[],{},1379,os⟩
noncomputable def lq6 (P:Params):List Obj:=ap (se (lq5 P) 406 ⟨(.type "dict"),none,(.dict ⟨mq6⟩ 102),⟨[]⟩⟩) [⟨(.type "dict"),none,(.dict ⟨nq6⟩ 17),⟨[]⟩⟩]
noncomputable def sq6 (w:World) (os:OsState):SharedT:=⟨bt1 11 (lq6 w.params),412,{},#[],{},1413,os⟩
noncomputable def lq7 (P:Params):List Obj:=ap (se (lq6 P) 406 ⟨(.type "dict"),none,(.dict ⟨mq7⟩ 119),⟨[]⟩⟩) [⟨(.type "dict"),none,(.dict ⟨nq7⟩ 17),⟨[]⟩⟩]
noncomputable def sq7 (w:World) (os:OsState):SharedT:=⟨bt1 11 (lq7 w.params),413,{},#[],{},1447,os⟩
noncomputable def l8 (P:Params):List Obj:=ap (se (l7 P) 3 ⟨(.type "dict"),none,.dict ⟨d8 P⟩ 226,⟨[]⟩⟩) [⟨(.type "dict"),none,(.dict ⟨mq8⟩ 126),⟨[]⟩⟩,⟨(.type "dict"),none,(.dict ⟨nq2⟩ 17),⟨[]⟩⟩,⟨(.type "dict"),none,(.dict ⟨nq3⟩ 17),⟨[]⟩⟩,⟨(.type "dict"),none,(.dict ⟨nq4⟩ 17),⟨[]⟩⟩,⟨(.type "dict"),none,(.dict ⟨nq5⟩ 17),⟨[]⟩⟩,⟨(.type "dict"),none,(.dict ⟨nq6⟩ 17),⟨[]⟩⟩,⟨(.type "dict"),none,(.dict ⟨nq7⟩ 17),⟨[]⟩⟩,⟨(.type "dict"),none,(.dict ⟨nq8⟩ 7),⟨[]⟩⟩]
noncomputable def s8 (w:World) (os:OsState):SharedT:=⟨bt0 11 (l8 w.params),414,{},#[],{},1462,os⟩
noncomputable def d9 (P:Params):List DictEntry:=ap (se (d8 P) 0 (e P "__name__" 165 (vs "framerune.corelib" 1499))) [e P "is_branch" 1468 (r 420),ei P "N_CONCAT" 1470 1,ei P "N_STR_LENGTH" 1472 2,ei P "N_STR_CHARS" 1474 3,ei P "N_STR_EQ" 1476 4,ei P "N_STR_EQUALS" 1478 5,ei P "N_STR_HASH" 1480 6,ei P "N_SUBSTRING" 1482 7,ei P "N_INDEXOF" 1484 8,ei P "N_STR_COMPARE" 1486 9,ei P "N_OBJ_TOSTRING" 1488 10,ei P "N_OBJ_HASH" 1490 11,ei P "N_OBJ_GETTYPE" 1492 12,ei P "N_VT_EQUALS" 1494 13,ei P "N_VT_HASH" 1496 14,ei P "N_ARR_LENGTH" 1498 27,e P "MARK" 1503 (.int (.negSucc 0) 1502),ei P "CM_NUL_TOSTRING" 1505 208,ei P "CM_NUL_EQUALS" 1507 209,ei P "CM_NUL_HASH" 1509 210,ei P "VIRT_NEW" 1511 6,ei P "VIRT_SEAL" 1514 22,ei P "VIRT_NONE" 1517 14,ei P "STATIC_OP" 1519 129,e P "TEXT_NO_VALUE" 1521 (vs "Nullable object must have a value." 1520),e P "settle" 1533 (r 427),e P "put_il" 1548 (r 434),e P "put_native" 1562 (r 441),e P "put_prop" 1576 (r 448),e P "plain_class" 1584 (r 455),e P "call_of" 1592 (r 462),e P "virt_of" 1600 (r 469),e P "install_core_object" 1608 (r 476),e P "negated" 1616 (r 483),e P "concat_rows" 1622 (r 490),e P "install_core_text" 1630 (r 497),e P "ex_field" 1638 (r 504),e P "message_rows" 1645 (r 511),e P "ex_text_rows" 1653 (r 518),e P "install_exception_ctors" 1665 (r 525),e P "install_exception_members" 1673 (r 532),e P "ctor_of" 1680 (r 539),e P "install_derived" 1691 (r 546),e P "install_core_exceptions" 1699 (r 553),e P "throw_rows" 1708 (r 560),e P "asked_value" 1718 (r 567),e P "install_nullable_overrides" 1727 (r 574),e P "install_core_nullable" 1739 (r 581),e P "put_abstract" 1752 (r 588),e P "install_core_ifaces" 1760 (r 595)]
noncomputable def g9:List Value:=ap g8 [(vi 481 0),(vi 0 0),(r 419),(vi 508 0),(vi 0 0),(r 426),(vi 524 0),(vi 0 0),(r 433),(vi 527 0),(vi 0 0),(r 440),(vi 530 0),(vi 0 0),(r 447),(vi 535 0),(vi 0 0),(r 454),(vi 537 0),(vi 0 0),(r 461),(vi 539 0),(vi 0 0),(r 468),(vi 541 0),(vi 0 0),(r 475),(vi 555 0),(vi 0 0),(r 482),(vi 557 0),(vi 0 0),(r 489),(vi 559 0),(vi 0 0),(r 496),(vi 576 0),(vi 0 0),(r 503),(vi 578 0),(vi 0 0),(r 510),(vi 580 0),(vi 0 0),(r 517),(vi 583 0),(vi 0 0),(r 524),(vi 592 0),(vi 0 0),(r 531),(vi 600 0),(vi 0 0),(r 538),(vi 604 0),(vi 0 0),(r 545),(vi 610 0),(vi 0 0),(r 552),(vi 617 0),(vi 0 0),(r 559),(vi 619 0),(vi 0 0),(r 566),(vi 622 0),(vi 0 0),(r 573),(vi 628 0),(vi 0 0),(r 580),(vi 643 0),(vi 0 0),(r 587),(vi 645 0),(vi 0 0),(r 594)]
noncomputable def l9 (P:Params):List Obj:=ap (se (se (l8 P) 3 ⟨(.type "dict"),none,.dict ⟨d9 P⟩ 276,⟨[]⟩⟩) 12 ⟨.none,none,.fields ⟨g9⟩,⟨[]⟩⟩) (fs (st 221) "is_branch" ["op"] 1462 481 1 0 0 3 414 (vs "framerune.ops" 1183) (fs (st 247) "settle" ["rows","places","count","op","operand","code"] 1522 508 1 0 0 3 421 (vs "framerune.corelib" 1499) (fs (st 248) "put_il" ["store","mid","tid","name","flags","ret","params","depth","rows"] 1534 524 9 0 0 3 428 (vs "framerune.corelib" 1499) (fs (st 249) "put_native" ["store","mid","tid","name","flags","ret","params","number"] 1549 527 8 0 0 3 435 (vs "framerune.corelib" 1499) (fs (st 250) "put_prop" ["store","tid","name","kind","getter","setter","index_kinds","row"] 1563 530 7 0 0 3 442 (vs "framerune.corelib" 1499) (fs (st 251) "plain_class" ["store","tid"] 1577 535 2 0 0 3 449 (vs "framerune.corelib" 1499) (fs (st 252) "call_of" ["owner","mid"] 1585 537 2 0 0 3 456 (vs "framerune.corelib" 1499) (fs (st 253) "virt_of" ["owner","mid"] 1593 539 2 0 0 3 463 (vs "framerune.corelib" 1499) (fs (st 254) "install_core_object" ["store","type_kind"] 1601 541 1 0 0 3 470 (vs "framerune.corelib" 1499) (fs (st 255) "negated" ["owner","mid"] 1609 555 2 0 0 3 477 (vs "framerune.corelib" 1499) (fs (st 256) "concat_rows" [] 1617 557 0 0 0 3 484 (vs "framerune.corelib" 1499) (fs (st 257) "install_core_text" ["store","two"] 1623 559 1 0 0 3 491 (vs "framerune.corelib" 1499) (fs (st 258) "ex_field" ["store","fid"] 1631 576 2 0 0 3 498 (vs "framerune.corelib" 1499) (fs (st 259) "message_rows" ["store"] 1639 578 1 0 0 3 505 (vs "framerune.corelib" 1499) (fs (st 260) "ex_text_rows" ["store","own"] 1646 580 1 0 0 3 512 (vs "framerune.corelib" 1499) (fs (st 261) "install_exception_ctors" ["store","own","opening","message","inner","flags"] 1654 583 1 0 0 3 519 (vs "framerune.corelib" 1499) (fs (st 262) "install_exception_members" ["store","own"] 1666 592 1 0 0 3 526 (vs "framerune.corelib" 1499) (fs (st 263) "ctor_of" ["tid"] 1674 600 1 0 0 3 533 (vs "framerune.corelib" 1499) (fs (st 264) "install_derived" ["store","tid","base","above","flags"] 1681 604 2 0 0 3 540 (vs "framerune.corelib" 1499) (fs (st 265) "install_core_exceptions" ["store","tid"] 1692 610 1 0 0 3 547 (vs "framerune.corelib" 1499) (fs (st 266) "throw_rows" ["store","tid","text"] 1700 617 3 0 0 3 554 (vs "framerune.corelib" 1499) (fs (st 267) "asked_value" ["store","mid","between","own"] 1709 619 3 0 0 3 561 (vs "framerune.corelib" 1499) (fs (st 268) "install_nullable_overrides" ["store","opening","equals"] 1719 622 1 0 0 3 568 (vs "framerune.corelib" 1499) (fs (st 269) "install_core_nullable" ["store","item","own","has_it","held","value"] 1728 628 1 0 0 3 575 (vs "framerune.corelib" 1499) (fs (st 270) "put_abstract" ["store","mid","tid","name","flags","ret","params"] 1740 643 7 0 0 3 582 (vs "framerune.corelib" 1499) (fs (st 271) "install_core_ifaces" ["store","item"] 1753 645 1 0 0 3 589 (vs "framerune.corelib" 1499) []))))))))))))))))))))))))))
noncomputable def s9 (w:World) (os:OsState):SharedT:=⟨bt1 11 (l9 w.params),596,{},#[],{},1761,os⟩
noncomputable def d10 (P:Params):List DictEntry:=ap (se (d9 P) 0 (e P "__name__" 165 (vs "law_tn0016_01" 1990))) [ei P "CM_LIST_GROW" 1764 206,ei P "FIRST_SIZE" 1766 4,ei P "SEALED_VIRTUAL" 1769 22,e P "TEXT_INDEX" 1771 (vs "Index was out of range. Must be non-negative and less than the size of the collection." 1770),e P "TEXT_INSERT" 1773 (vs "Index must be within the bounds of the List." 1772),e P "TEXT_CHANGED" 1775 (vs "Collection was modified; enumeration operation may not execute." 1774),e P "load_items" 1782 (r 602),e P "load_count" 1789 (r 609),e P "add_to" 1799 (r 616),e P "step_local" 1807 (r 623),e P "check_index" 1815 (r 630),e P "put_member" 1831 (r 637),e P "grow_rows" 1840 (r 644),e P "add_rows" 1849 (r 651),e P "set_rows" 1858 (r 658),e P "remove_rows" 1867 (r 665),e P "insert_rows" 1876 (r 672),e P "clear_rows" 1885 (r 679),e P "contains_rows" 1894 (r 686),e P "install_list_fields" 1901 (r 693),e P "install_list_reading" 1913 (r 700),e P "install_list_writing" 1922 (r 707),e P "put_walker" 1937 (r 714),e P "walker_field" 1945 (r 721),e P "walker_list" 1953 (r 728),e P "walker_start" 1962 (r 735),e P "move_rows" 1972 (r 742),e P "install_walker" 1981 (r 749),e P "install_core_list" 1989 (r 756),ei P "_law_FROM" 1993 21,ei P "_law_LAST" 1995 33,e P "_law_tids" 2001 (r 761),e P "_law_bodies" 2007 (r 766),e P "_law_above" 2015 (r 773),e P "_law_install" 2023 (r 780),e P "_law_world" 2046 (r 787),e P "_law_flat" 2053 (r 794),e P "_law_goes" 2062 (r 801),e P "_law_field" 2072 (r 808)]
noncomputable def g10:List Value:=ap g9 [(vi 661 0),(vi 0 0),(r 601),(vi 663 0),(vi 0 0),(r 608),(vi 665 0),(vi 0 0),(r 615),(vi 668 0),(vi 0 0),(r 622),(vi 670 0),(vi 0 0),(r 629),(vi 673 0),(vi 0 0),(r 636),(vi 676 0),(vi 0 0),(r 643),(vi 686 0),(vi 0 0),(r 650),(vi 691 0),(vi 0 0),(r 657),(vi 695 0),(vi 0 0),(r 664),(vi 703 0),(vi 0 0),(r 671),(vi 713 0),(vi 0 0),(r 678),(vi 719 0),(vi 0 0),(r 685),(vi 725 0),(vi 0 0),(r 692),(vi 729 0),(vi 0 0),(r 699),(vi 740 0),(vi 0 0),(r 706),(vi 749 0),(vi 0 0),(r 713),(vi 752 0),(vi 0 0),(r 720),(vi 754 0),(vi 0 0),(r 727),(vi 756 0),(vi 0 0),(r 734),(vi 760 0),(vi 0 0),(r 741),(vi 771 0),(vi 0 0),(r 748),(vi 784 0),(vi 0 0),(r 755),(vi 796 0),(vi 0 0),(r 760),(vi 798 0),(vi 0 0),(r 765),(vi 801 0),(vi 0 0),(r 772),(vi 807 0),(vi 0 0),(r 779),(vi 818 0),(vi 0 0),(r 786),(vi 845 0),(vi 0 0),(r 793),(vi 849 0),(vi 0 0),(r 800),(vi 856 0),(vi 0 0),(r 807)]
noncomputable def l10 (P:Params):List Obj:=ap (se (se (l9 P) 3 ⟨(.type "dict"),none,.dict ⟨d10 P⟩ 315,⟨[]⟩⟩) 12 ⟨.none,none,.fields ⟨g10⟩,⟨[]⟩⟩) (fs (st 279) "load_items" ["store"] 1776 661 1 0 0 3 596 (vs "framerune.corecoll" 1761) (fs (st 280) "load_count" ["store"] 1783 663 1 0 0 3 603 (vs "framerune.corecoll" 1761) (fs (st 281) "add_to" ["store","fid","op","fref"] 1790 665 3 0 0 3 610 (vs "framerune.corecoll" 1761) (fs (st 282) "step_local" ["local","op"] 1800 668 2 0 0 3 617 (vs "framerune.corecoll" 1761) (fs (st 283) "check_index" ["store","rows"] 1808 670 1 0 0 3 624 (vs "framerune.corecoll" 1761) (fs (st 284) "put_member" ["store","mid","name","access","flags","ret","params","locals_","depth","rows"] 1816 673 10 0 0 3 631 (vs "framerune.corecoll" 1761) (fs (st 285) "grow_rows" ["store","item","rows"] 1832 676 1 0 0 3 638 (vs "framerune.corecoll" 1761) (fs (st 286) "add_rows" ["store","item","rows"] 1841 686 1 0 0 3 645 (vs "framerune.corecoll" 1761) (fs (st 287) "set_rows" ["store","item","rows"] 1850 691 1 0 0 3 652 (vs "framerune.corecoll" 1761) (fs (st 288) "remove_rows" ["store","item","rows"] 1859 695 1 0 0 3 659 (vs "framerune.corecoll" 1761) (fs (st 289) "insert_rows" ["store","item","rows"] 1868 703 1 0 0 3 666 (vs "framerune.corecoll" 1761) (fs (st 290) "clear_rows" ["store","item","rows"] 1877 713 1 0 0 3 673 (vs "framerune.corecoll" 1761) (fs (st 291) "contains_rows" ["store","item","rows"] 1886 719 1 0 0 3 680 (vs "framerune.corecoll" 1761) (fs (st 292) "install_list_fields" ["store"] 1895 725 1 0 0 3 687 (vs "framerune.corecoll" 1761) (fs (st 293) "install_list_reading" ["store","item","own","walker","opening","get"] 1902 729 1 0 0 3 694 (vs "framerune.corecoll" 1761) (fs (st 294) "install_list_writing" ["store","item","full"] 1914 740 1 0 0 3 701 (vs "framerune.corecoll" 1761) (fs (st 295) "put_walker" ["store","mid","name","flags","ret","params","locals_","depth","rows"] 1923 749 9 0 0 3 708 (vs "framerune.corecoll" 1761) (fs (st 296) "walker_field" ["store","fid"] 1938 752 2 0 0 3 715 (vs "framerune.corecoll" 1761) (fs (st 297) "walker_list" ["store","fid"] 1946 754 2 0 0 3 722 (vs "framerune.corecoll" 1761) (fs (st 298) "walker_start" ["store","own","version"] 1954 756 1 0 0 3 729 (vs "framerune.corecoll" 1761) (fs (st 299) "move_rows" ["store","own","item","rows"] 1963 760 1 0 0 3 736 (vs "framerune.corecoll" 1761) (fs (st 300) "install_walker" ["store","item","walked"] 1973 771 1 0 0 3 743 (vs "framerune.corecoll" 1761) (fs (st 301) "install_core_list" ["store","item"] 1982 784 1 0 0 3 750 (vs "framerune.corecoll" 1761) (tu [] ::
 ⟨.none,none,(.fields ⟨[]⟩),⟨[]⟩⟩ ::
 ⟨.none,none,(fo (st 305) "_law_tids" [] .none .none .none .none none .none .none 0 0),⟨[]⟩⟩ ::
 fl "code" [(vs "_law_tids" 1996),(vs "_law_tids" 1997),(vs "/claim/cut.py" 1998),(vi 796 0),(vi 1 0),(vi 0 0),(vi 0 0),(vi 3 0),(r 757),(.bool true),(vi 181 0),(r 758),.none,.none,.none,(r 759),(vi 1999 0),(vi 796 0),(vs "/claim/cut.py" 2000)] ::
 ⟨(.type "function"),none,(fo (st 305) "_law_tids" [] .none .none .none (vs "law_tn0016_01" 1990) none (r 760) .none 3 0),⟨[]⟩⟩ ::
 tu [] ::
 ⟨.none,none,(.fields ⟨[]⟩),⟨[]⟩⟩ ::
 ⟨.none,none,(fo (st 306) "_law_bodies" [] .none .none .none .none none .none .none 0 0),⟨[]⟩⟩ ::
 fl "code" [(vs "_law_bodies" 2002),(vs "_law_bodies" 2003),(vs "/claim/cut.py" 2004),(vi 798 0),(vi 1 0),(vi 0 0),(vi 0 0),(vi 3 0),(r 762),(.bool true),(vi 181 0),(r 763),.none,.none,.none,(r 764),(vi 2005 0),(vi 798 0),(vs "/claim/cut.py" 2006)] ::
 ⟨(.type "function"),none,(fo (st 306) "_law_bodies" [] .none .none .none (vs "law_tn0016_01" 1990) none (r 765) .none 3 0),⟨[]⟩⟩ ::
 fs (st 307) "_law_above" ["tid","shape"] 2008 801 2 0 0 3 767 (vs "law_tn0016_01" 1990) (fs (st 308) "_law_install" ["store","group"] 2016 807 2 0 0 3 774 (vs "law_tn0016_01" 1990) (fs (st 309) "_law_world" ["shift","shape","group","store","kt","i","item","selves","fault","goals","bases","heads","tid","own","above","open_one","sort"] 2024 818 3 0 0 3 781 (vs "law_tn0016_01" 1990) (fs (st 310) "_law_flat" ["k"] 2047 845 1 0 0 3 788 (vs "law_tn0016_01" 1990) (fs (st 311) "_law_goes" ["w","s","t"] 2054 849 3 0 0 3 795 (vs "law_tn0016_01" 1990) (fs (st 312) "_law_field" ["w","f","x","g"] 2063 856 3 0 0 3 802 (vs "law_tn0016_01" 1990) [])))))))))))))))))))))))))))))
noncomputable def s10 (w:World) (os:OsState):SharedT:=⟨bt0 11 (l10 w.params),809,{},#[],{},2073,os⟩
noncomputable def d11 (P:Params):List DictEntry:=ap (d10 P) [e P "_law_holder" 2081 (r 815),e P "_law_call" 2095 (r 822),e P "_law_takes" 2102 (r 829),e P "_law_lays" 2112 (r 836),e P "_law_one" 2126 (r 843),e P "_law_two" 2141 (r 850),e P "_law_step" 2153 (r 857),e P "_law_body" 2159 (r 862),e P "law" 2165 (r 867)]
noncomputable def g11:List Value:=ap g10 [(vi 863 0),(vi 0 0),(r 814),(vi 867 0),(vi 0 0),(r 821),(vi 896 0),(vi 0 0),(r 828),(vi 904 0),(vi 0 0),(r 835),(vi 914 0),(vi 0 0),(r 842),(vi 945 0),(vi 0 0),(r 849),(vi 969 0),(vi 0 0),(r 856),(vi 992 0),(vi 0 0),(r 861),(vi 1022 0),(vi 0 0),(r 866)]
noncomputable def l11 (P:Params):List Obj:=ap (se (se (l10 P) 3 ⟨(.type "dict"),none,.dict ⟨d11 P⟩ 324,⟨[]⟩⟩) 12 ⟨.none,none,.fields ⟨g11⟩,⟨[]⟩⟩) (fs (st 313) "_law_holder" ["w","k","owner"] 2073 863 3 0 0 3 809 (vs "law_tn0016_01" 1990) (fs (st 314) "_law_call" ["w","f","op","x","stack","head","k","this_one"] 2082 867 4 0 0 3 816 (vs "law_tn0016_01" 1990) (fs (st 315) "_law_takes" ["op"] 2096 896 1 0 0 3 823 (vs "law_tn0016_01" 1990) (fs (st 316) "_law_lays" ["w","f","op","x"] 2103 904 4 0 0 3 830 (vs "law_tn0016_01" 1990) (fs (st 317) "_law_one" ["w","f","op","x","kt","stack","k","g"] 2113 914 4 0 0 3 837 (vs "law_tn0016_01" 1990) (fs (st 318) "_law_two" ["w","f","op","x","kt","stack","k","g","other"] 2127 945 4 0 0 3 844 (vs "law_tn0016_01" 1990) (fs (st 319) "_law_step" ["w","f","op","x","stack","many"] 2142 969 4 0 0 3 851 (vs "law_tn0016_01" 1990) (tu [] ::
 ⟨.none,none,(.fields ⟨[]⟩),⟨[]⟩⟩ ::
 ⟨.none,none,(fo (st 320) "_law_body" [] .none .none .none .none none .none .none 0 0),⟨[]⟩⟩ ::
 fl "code" [(vs "_law_body" 2154),(vs "_law_body" 2155),(vs "/claim/cut.py" 2156),(vi 992 0),(vi 2 0),(vi 0 0),(vi 0 0),(vi 3 0),(r 858),(.bool true),(vi 181 0),(r 859),.none,.none,.none,(r 860),(vi 2157 0),(vi 992 0),(vs "/claim/cut.py" 2158)] ::
 ⟨(.type "function"),none,(fo (st 320) "_law_body" [] .none .none .none (vs "law_tn0016_01" 1990) none (r 861) .none 3 0),⟨[]⟩⟩ ::
 tu [] ::
 ⟨.none,none,(.fields ⟨[]⟩),⟨[]⟩⟩ ::
 ⟨.none,none,(fo (st 321) "law" [] .none .none .none .none none .none .none 0 0),⟨[]⟩⟩ ::
 fl "code" [(vs "law" 2160),(vs "law" 2161),(vs "/claim/cut.py" 2162),(vi 1022 0),(vi 1 0),(vi 0 0),(vi 0 0),(vi 3 0),(r 863),(.bool true),(vi 181 0),(r 864),.none,.none,.none,(r 865),(vi 2163 0),(vi 1022 0),(vs "/claim/cut.py" 2164)] ::
 ⟨(.type "function"),none,(fo (st 321) "law" [] .none .none .none (vs "law_tn0016_01" 1990) none (r 866) .none 3 0),⟨[]⟩⟩ ::
 []))))))))
noncomputable def s11 (w:World) (os:OsState):SharedT:=⟨bt1 11 (l11 w.params),868,{},#[],{},2166,os⟩
noncomputable def env:Env:={ scope:=pw_tn0016_01.main.scope,locals:=mainNs,globals:=mainNs,cells:=[],code:=.ref 13,frame:=some 14 }
noncomputable def body:List Stmt:=pw_tn0016_01.main.body
noncomputable def sts (a n:Nat):List Stmt:=(body.drop a).take n
theorem bM {w:World} {n:Nat} {s s':SharedT} {t:Thread} {f:Flow} {c:Code} {q:Pos} {p:Program}
  (h:PySem.W.Fast.tw10110043849684766642 PySem.W.Fast.tw14364793385576792824 p w 11 (some (.ref 6)) 1 n s t=some (f,s',c,q)) :
  segRun treeTable p w 11 (some (.ref 6)) 1 n s.abs t=some (f,s'.abs,c,q) :=
 segRun_of (by rw [PySem.W.Fast.te10110043849684766642,PySem.W.Fast.te14364793385576792824];exact h)
end Gt
end
section
set_option maxHeartbeats 8000000
namespace Gt
open PySem PySem.W PyProof.Rows PySem.Challenge
theorem p2 (w:World) (p:Program) (b:List Stmt) (os:OsState):PySem.W.Fast.tw10110043849684766642 PySem.W.Fast.tw14364793385576792824 p (w) 11 (some (.ref 6)) 1 1074 (s1 (w) os) (piecesOf (sts 0 72) env (.body b env) ⟨0,0,0,0⟩ [topFrame ⟨0,0,0,0⟩])=some (.next,s2 (w) os,.body b env,⟨77,0,77,13⟩):=by kernel_rfl
theorem p3f (w:World) (p:Program) (b:List Stmt) (os:OsState):PySem.W.Fast.tw10110043849684766642 PySem.W.Fast.tw14364793385576792824 p (w.withFollow "special-get-raises" false) 11 (some (.ref 6)) 1 413 (s2 (w.withFollow "special-get-raises" false) os) (piecesOf (sts 72 2) env (.body b env) ⟨77,0,77,13⟩ [topFrame ⟨0,0,0,0⟩])=some (.next,s3 (w.withFollow "special-get-raises" false) os,.body b env,⟨79,0,79,8⟩):=by kernel_rfl
theorem p3t (w:World) (p:Program) (b:List Stmt) (os:OsState):PySem.W.Fast.tw10110043849684766642 PySem.W.Fast.tw14364793385576792824 p (w.withFollow "special-get-raises" true) 11 (some (.ref 6)) 1 413 (s2 (w.withFollow "special-get-raises" true) os) (piecesOf (sts 72 2) env (.body b env) ⟨77,0,77,13⟩ [topFrame ⟨0,0,0,0⟩])=some (.next,s3 (w.withFollow "special-get-raises" true) os,.body b env,⟨79,0,79,8⟩):=by kernel_rfl
theorem p4 (w:World) (p:Program) (b:List Stmt) (os:OsState):PySem.W.Fast.tw10110043849684766642 PySem.W.Fast.tw14364793385576792824 p (w) 11 (some (.ref 6)) 1 1095 (s3 (w) os) (piecesOf (sts 74 49) env (.body b env) ⟨79,0,79,8⟩ [topFrame ⟨0,0,0,0⟩])=some (.next,s4 (w) os,.body b env,⟨252,0,252,12⟩):=by kernel_rfl
theorem p5 (w:World) (p:Program) (b:List Stmt) (os:OsState):PySem.W.Fast.tw10110043849684766642 PySem.W.Fast.tw14364793385576792824 p (w) 11 (some (.ref 6)) 1 1066 (s4 (w) os) (piecesOf (sts 123 67) env (.body b env) ⟨252,0,252,12⟩ [topFrame ⟨0,0,0,0⟩])=some (.next,s5 (w) os,.body b env,⟨344,0,353,25⟩):=by kernel_rfl
theorem p6 (w:World) (p:Program) (b:List Stmt) (os:OsState):PySem.W.Fast.tw10110043849684766642 PySem.W.Fast.tw14364793385576792824 p (w) 11 (some (.ref 6)) 1 1092 (s5 (w) os) (piecesOf (sts 190 15) env (.body b env) ⟨344,0,353,25⟩ [topFrame ⟨0,0,0,0⟩])=some (.next,s6 (w) os,.body b env,⟨452,0,459,45⟩):=by kernel_rfl
theorem p7 (w:World) (p:Program) (b:List Stmt) (os:OsState):PySem.W.Fast.tw10110043849684766642 PySem.W.Fast.tw14364793385576792824 p (w) 11 (some (.ref 6)) 1 179 (s6 (w) os) (piecesOf (sts 205 15) env (.body b env) ⟨452,0,459,45⟩ [topFrame ⟨0,0,0,0⟩])=some (.next,s7 (w) os,.body b env,⟨479,0,479,8⟩):=by kernel_rfl
theorem p9 (w:World) (p:Program) (b:List Stmt) (os:OsState):PySem.W.Fast.tw10110043849684766642 PySem.W.Fast.tw14364793385576792824 p (w) 11 (some (.ref 6)) 1 1095 (s8 (w) os) (piecesOf (sts 221 51) env (.body b env) ⟨480,0,480,7⟩ [topFrame ⟨0,0,0,0⟩])=some (.next,s9 (w) os,.body b env,⟨645,0,653,73⟩):=by kernel_rfl
theorem p10 (w:World) (p:Program) (b:List Stmt) (os:OsState):PySem.W.Fast.tw10110043849684766642 PySem.W.Fast.tw14364793385576792824 p (w) 11 (some (.ref 6)) 1 1075 (s9 (w) os) (piecesOf (sts 272 41) env (.body b env) ⟨645,0,653,73⟩ [topFrame ⟨0,0,0,0⟩])=some (.next,s10 (w) os,.body b env,⟨856,0,862,17⟩):=by kernel_rfl
theorem p11 (w:World) (p:Program) (b:List Stmt) (os:OsState):PySem.W.Fast.tw10110043849684766642 PySem.W.Fast.tw14364793385576792824 p (w) 11 (some (.ref 6)) 1 288 (s10 (w) os) (piecesOf (sts 313 9) env (.body b env) ⟨856,0,862,17⟩ [topFrame ⟨0,0,0,0⟩])=some (.next,s11 (w) os,.body b env,⟨1022,0,1041,96⟩):=by kernel_rfl
end Gt
end
section
set_option maxHeartbeats 8000000
namespace Gt
open PySem PySem.W PyProof.Rows PySem.Challenge
noncomputable abbrev It:=Option (Sem Value)×Sem Value
noncomputable abbrev St:=Option Addr×List (Sem Value×Sem Value)
noncomputable def dB:It→St→Sem (ForInStep St):=(fun(b:It→St→Sem (ForInStep St)) (f:St→Sem Value) (_:∀ l:List It,dictDisplay l=(forIn l ((none,[]):St) b >>= f))=>b) _ _ (fun l=>rfl)
noncomputable def dF:St→Sem Value:=(fun(b:It→St→Sem (ForInStep St)) (f:St→Sem Value) (_:∀ l:List It,dictDisplay l=(forIn l ((none,[]):St) b >>= f))=>f) _ _ (fun l=>rfl)
noncomputable def plc (l:List DictEntry) (h:Int):Nat→List Nat:=@List.rec DictEntry (fun ξ=>Nat→List Nat) (fun ξ=>[]) (fun e ξ ih i=>@Bool.rec (fun ξ=>List Nat) (ih (Nat.succ i)) (i :: ih (Nat.succ i)) (decide (e.hash=h))) l
theorem qx (h:Int):∀ (l:List DictEntry) (k:Nat),plc l h k=[]→∀ e∈l,e.hash≠h:=by
 intro l
 induction l with
 | nil=>intro k _ e m;exact nomatch m
 | cons x l ih =>
  intro k z e m
  have z:@Bool.rec (fun ξ=>List Nat) (plc l h (k+1)) (k :: plc l h (k+1)) (decide (x.hash=h))=[]:=z
  by_cases c:x.hash=h
  ·rw [decide_eq_true c] at z;exact nomatch z
  ·rw [decide_eq_false c] at z
   rcases List.mem_cons.mp m with rfl | m
   ·exact c
   ·exact ih _ z e m
theorem to (es:Array DictEntry) (h:Int) (z:plc es.toList h 0=[]):placesWithHash es.size (fun i=>Option.map (fun x=>x.hash) es[i]?) h=[]:=by
 refine List.filter_eq_nil_iff.mpr fun i ξ b=>?_
 have b:(Option.map (fun x=>x.hash) es[i]?==some h)=true:=b
 cases e:es[i]? with
 | none=>rw [e] at b;exact nomatch b
 | some x =>
  rw [e] at b
  exact qx h _ _ z x (Array.mem_toList_iff.mpr (Array.mem_of_getElem? e)) (Option.some.inj (eq_of_beq b))
noncomputable def isI (v:Value):Bool:=@Value.casesOn (fun ξ=>Bool) v false false false (fun ξ=>false) (fun ξ ξ=>true) (fun ξ ξ=>false) (fun ξ ξ=>false) (fun ξ ξ=>false) (fun ξ=>false) (fun ξ=>false) (fun ξ=>false)
theorem cZ {v:Value} (h:isI v=true):∃ i t,v=.int i t:=by
 cases v<;>first | exact ⟨_,_,rfl⟩ | exact nomatch h
noncomputable def fF:{g:Addr→Value→Int→Array DictEntry→Sem (Option Nat) // ∀ d key h,dictFind d key h=holding [key] (dictEntries d (keyPart key) >>= g d key h)}:=⟨_,fun d key h=>rfl⟩
theorem fE (d:Addr) (i:Int) (t:Tok) (h:Int) (es:Array DictEntry) (e:plc es.toList h 0=[]):fF.1 d (.int i t) h es=.pure none:=by
 delta fF
 dsimp only
 rw [to es h e]
 rfl
noncomputable def fN (d:Addr) (key:Value) (h:Int) (es:Array DictEntry):Sem (Option Nat):=cond (isI key&&(plc es.toList h 0).isEmpty) (.pure none) (fF.1 d key h es)
theorem wa (d:Addr) (key:Value) (h:Int):fF.1 d key h=fN d key h:=by
 funext es
 unfold fN
 cases e:isI key&&(plc es.toList h 0).isEmpty with
 | false=>rfl
 | true =>
  obtain ⟨a,b⟩:=Bool.and_eq_true_iff.mp e
  obtain ⟨i,t,rfl⟩:=cZ a
  exact fE d i t h es (List.isEmpty_iff.mp b)
theorem fQ:dictFind=fun d key h=>holding [key] (dictEntries d (keyPart key) >>= fN d key h):=by
 funext d key h
 rw [fF.2,wa]
noncomputable def pQ:{g:Addr→Int→Value→Value→Sem Unit // dictPut=g}:=⟨_,by delta dictPut;rewrite [fQ];exact rfl⟩
noncomputable def mQ:{g:Addr→Value→Bool→Sem Unit // mergeMapping=g}:=⟨_,by delta mergeMapping;rewrite [pQ.2];exact rfl⟩
noncomputable def dQ:{g:It→St→Sem (ForInStep St) // dB=g}:=⟨_,Eq.trans (by delta dB;dsimp only) (by rewrite [mQ.2];exact rfl)⟩
theorem disp (l:List It):dictDisplay l=(forIn l ((none,[]):St) dQ.1 >>= dF):=by rw [← dQ.2];rfl
noncomputable def bC (l:List It):St→Sem (ForInStep St):=@List.rec It (fun ξ=>St→Sem (ForInStep St)) (fun s=>.pure (.yield s)) (fun i ξ ih s=>dQ.1 i s >>= fun r=>ForInStep.casesOn r (fun s=>.pure (.done s)) ih) l
noncomputable def rs (r:ForInStep St):Flow:=ForInStep.casesOn r (fun ξ=>.brk) fun s=>Prod.casesOn s fun a l=>List.casesOn l (Option.casesOn a .brk fun d=>cond (Nat.beq d 406) .next .brk) fun ξ ξ=>.brk
theorem tf (r:ForInStep St) (h:rs r=.next):r=.yield (some 406,[]):=by
 cases r with
 | done s=>exact nomatch h
 | yield s =>
  obtain ⟨a,l⟩:=s
  cases l with
  | cons x y=>exact nomatch h
  | nil =>
   cases a with
   | none=>exact nomatch h
   | some d =>
    have e:Nat.beq d 406=true:=by
     cases e:Nat.beq d 406 with
     | true=>rfl
     | false=>have h:cond (Nat.beq d 406) Flow.next .brk=.next:=h;rw [e] at h;exact nomatch h
    rw [Nat.eq_of_beq_eq_true e]
theorem ui (m:List It):∀ (l:List It) (s:St),forIn (l++m) s dQ.1=(bC l s >>= fun r=>ForInStep.casesOn r (fun s=>.pure s) fun s=>forIn m s dQ.1):=by
 intro l
 induction l with
 | nil=>intro s;rfl
 | cons i l ih =>
  intro s
  rw [List.cons_append,List.forIn_cons]
  show _=(dQ.1 i s >>= fun r=>ForInStep.casesOn r (fun s=>.pure (.done s)) (bC l)) >>= _
  rw [Sem.bind_eq_wrap',Sem.bind_eq_wrap',Sem.bind_eq_wrap',Sem.wrap_wrap]
  refine Sem.wrap_congr _ _ _ (fun r=>?_) fun ξ=>rfl
  cases r with
  | done s=>rfl
  | yield s=>show forIn (l++m) s dQ.1=_;rw [ih s,Sem.bind_eq_wrap']
section
variable {tb:String→Option Builtin} {p:Program} {w:World} {n₀:Nat} {ann:Option Value} {n N:Nat} {s s' r:Shared} {c:Code} {pos p' q:Pos}
theorem lst {α:Type} {x:Sem α} {K:α→Sem Fin} {H:Value→Sem Fin} (res:α→Flow) (f:Flow)
  (h:segRun tb p w n₀ ann 1 n s ⟨x.wrap (fun a=>.pure (.done (res a))) deadEnd id id,c,pos,[topFrame q]⟩=some (f,s',c,p'))
  (k:∀ a,res a=f→topRun tb p w n₀ ann N s' ⟨K a,c,p',[topFrame q]⟩=some r) :
  topRun tb p w n₀ ann (n+N) s ⟨x.wrap K H id id,c,pos,[topFrame q]⟩=some r:=by
 obtain ⟨a,ha,hN⟩:=seg_top (res:=res) (K':=K) (H':=H) (gd:=id) (lv:=id) (B:=[topFrame q]) rfl n s ⟨x.wrap (fun a=>.pure (.done (res a))) deadEnd id id,c,pos,[topFrame q]⟩
  ⟨x.wrap K H id id,c,pos,[topFrame q]⟩ _ _ _ _ ⟨rfl,rfl,.inl ⟨rfl,rfl,_,rfl,rfl⟩⟩ h
 exact hN N r (k a ha)
theorem qQ {α β:Type} {x:Sem α} {f:α→Sem β} {K:β→Sem Fin} {H:Value→Sem Fin} (res:α→Flow)
  (h:segRun tb p w n₀ ann 1 n s ⟨x.wrap (fun a=>.pure (.done (res a))) deadEnd id id,c,pos,[topFrame q]⟩=some (.next,s',c,p'))
  (k:∀ a,res a=.next→topRun tb p w n₀ ann N s' ⟨(f a).wrap K H id id,c,p',[topFrame q]⟩=some r) :
  topRun tb p w n₀ ann (n+N) s ⟨(x >>= f).wrap K H id id,c,pos,[topFrame q]⟩=some r:=by
 rw [Sem.bind_eq_wrap',Sem.wrap_wrap]
 exact lst res .next h k
theorem asc {α β γ:Type} (x:Sem α) (f:α→Sem β) (g:β→Sem γ):(x >>= f) >>= g=x >>= fun a=>f a >>= g:=by
 rw [Sem.bind_eq_wrap',Sem.bind_eq_wrap',Sem.bind_eq_wrap',Sem.wrap_wrap]
 refine Sem.wrap_congr _ _ _ (fun r=>?_) fun ξ=>rfl
 rw [Sem.bind_eq_wrap']
theorem stp {β:Type} {g:St→Sem β} {K:β→Sem Fin} {H:Value→Sem Fin} {st:St} {l m:List It}
  (h:segRun tb p w n₀ ann 1 n s ⟨(bC l st).wrap (fun a=>.pure (.done (rs a))) deadEnd id id,c,pos,[topFrame q]⟩=some (.next,s',c,p'))
  (k:topRun tb p w n₀ ann N s' ⟨(forIn m ((some 406,[]):St) dQ.1 >>= g).wrap K H id id,c,p',[topFrame q]⟩=some r) :
  topRun tb p w n₀ ann (n+N) s ⟨(forIn (l++m) st dQ.1 >>= g).wrap K H id id,c,pos,[topFrame q]⟩=some r:=by
 rw [ui,asc]
 refine qQ rs h fun a e=>?_
 rw [tf a e]
 exact k
end
noncomputable def xD {α:Type} (e:Expr) (k:List (Option Expr)→List Expr→α):α :=
 have d:=k [] []
 Expr.casesOn (motive_1:=fun ξ=>α) e (fun ξ ξ ξ=>d) (fun ξ ξ ξ=>d) (fun ξ ξ ξ ξ=>d) (fun ξ ξ ξ=>d) (fun ξ ξ ξ ξ=>d) (fun ξ ξ ξ ξ=>d) (fun a b ξ=>k a b) (fun ξ ξ ξ=>d) (fun ξ ξ ξ ξ=>d) (fun ξ ξ ξ ξ=>d) (fun ξ ξ ξ ξ ξ=>d) (fun ξ ξ ξ ξ=>d) (fun ξ ξ=>d) (fun ξ ξ=>d) (fun ξ ξ=>d) (fun ξ ξ ξ ξ=>d) (fun ξ ξ ξ ξ=>d) (fun ξ ξ ξ ξ=>d) (fun ξ ξ=>d) (fun ξ ξ ξ=>d) (fun ξ ξ ξ=>d) (fun ξ ξ ξ=>d) (fun ξ ξ=>d) (fun ξ ξ=>d) (fun ξ ξ=>d) (fun ξ ξ ξ=>d) (fun ξ ξ ξ ξ=>d)
noncomputable def vA:Expr:=svK (st 220) fun ξ ξ ξ ξ es ξ ξ=>@List.rec Expr (fun ξ=>Expr) (.Constant .none 0 ⟨0,0,0,0⟩) (fun ξ l ξ=>@List.rec Expr (fun ξ=>Expr) (.Constant .none 0 ⟨0,0,0,0⟩) (fun a ξ ξ=>a) l) es
noncomputable def dk:List (Option Expr):=xD vA fun k ξ=>k
noncomputable def dv:List Expr:=xD vA fun ξ v=>v
noncomputable abbrev q0:Pos:=⟨480,0,480,1804⟩
noncomputable abbrev q1:Pos:=⟨480,10,480,1804⟩
noncomputable abbrev tg:List Expr:=[.Name "OP_SORT" ⟨480,0,480,7⟩]
theorem hA:st 220=.Assign tg (.Dict dk dv q1) q0:=by kernel_rfl
theorem hB:body.drop 220=st 220 :: body.drop 221:=by kernel_rfl
noncomputable def its (a:Nat):List It:=((evalEachOpt dk env).zip ((evalEach dv env).map fun v=>do let x ← v;standAt q1;pure x)).drop a
noncomputable def itc (a:Nat):List It:=(its a).take 17
theorem kW (a:Nat):its a=itc a++its (a+17):=by
 unfold itc its
 rw [← List.drop_drop,List.take_append_drop]
noncomputable def TT {α:Type} (n:Nat) (s:World→OsState→SharedT) (x:Sem α) (res:α→Flow) (s':World→OsState→SharedT) (p1 p2:Pos) (w:World):Prop:=∀ (p:Program) (b:List Stmt) (os:OsState),PySem.W.Fast.tw10110043849684766642 PySem.W.Fast.tw14364793385576792824 p w 11 (some (.ref 6)) 1 n (s w os) ⟨x.wrap (fun a=>.pure (.done (res a))) deadEnd id id,(.body b env),p1,[topFrame ⟨0,0,0,0⟩]⟩=some (.next,s' w os,(.body b env),p2)
noncomputable def SS {α:Type} (n:Nat) (s:World→OsState→SharedT) (x:Sem α) (res:α→Flow) (s':World→OsState→SharedT) (p1 p2:Pos) (w:World):Prop:=∀ (p:Program) (b:List Stmt) (os:OsState),segRun treeTable p w 11 (some (.ref 6)) 1 n (s w os).abs ⟨x.wrap (fun a=>.pure (.done (res a))) deadEnd id id,(.body b env),p1,[topFrame ⟨0,0,0,0⟩]⟩=some (.next,(s' w os).abs,(.body b env),p2)
theorem so {α:Type} {n:Nat} {s:World→OsState→SharedT} {x:Sem α} {res:α→Flow} {s':World→OsState→SharedT} {p1 p2:Pos} {w:World} (h:TT n s x res s' p1 p2 w):SS n s x res s' p1 p2 w:=fun p b os=>bM (h p b os)
theorem row {α:Type} {n:Nat} {s:World→OsState→SharedT} {x:Sem α} {res:α→Flow} {s':World→OsState→SharedT} {p1 p2:Pos} (h:∀ w:World,TT n s x res s' p1 p2 (w.withFollow "special-get-raises" false)) (k:∀ w:World,TT n s x res s' p1 p2 (w.withFollow "special-get-raises" true)) (w:World):SS n s x res s' p1 p2 w :=
 byRow2 "special-get-raises" (P:=fun w=>SS n s x res s' p1 p2 w) (fun w=>so (h w)) (fun w=>so (k w)) w
theorem u1 (w:World):TT 3 s7 (standAt q0) (fun ξ=>.next) s7 ⟨479,0,479,8⟩ ⟨480,0,480,1804⟩ w:=fun p b os=>by kernel_rfl
theorem u2 (w:World):TT 3 s7 (swapsWithSole tg (.Dict dk dv q1) 480 env) (fun a=>cond a .brk .next) s7 ⟨480,0,480,1804⟩ ⟨480,0,480,1804⟩ w:=fun p b os=>by kernel_rfl
theorem u3 (w:World):TT 3 s7 (standAt q1) (fun ξ=>.next) s7 ⟨480,0,480,1804⟩ ⟨480,10,480,1804⟩ w:=fun p b os=>by kernel_rfl
theorem k1f (w:World):TT 241 s7 (bC (itc 0) (none,[])) rs sq1 ⟨480,10,480,1804⟩ ⟨480,10,480,1804⟩ (w.withFollow "special-get-raises" false):=fun p b os=>by kernel_rfl
theorem k1t (w:World):TT 241 s7 (bC (itc 0) (none,[])) rs sq1 ⟨480,10,480,1804⟩ ⟨480,10,480,1804⟩ (w.withFollow "special-get-raises" true):=fun p b os=>by kernel_rfl
theorem k2f (w:World):TT 348 sq1 (bC (itc 17) (some 406,[])) rs sq2 ⟨480,10,480,1804⟩ ⟨480,10,480,1804⟩ (w.withFollow "special-get-raises" false):=fun p b os=>by kernel_rfl
theorem k2t (w:World):TT 348 sq1 (bC (itc 17) (some 406,[])) rs sq2 ⟨480,10,480,1804⟩ ⟨480,10,480,1804⟩ (w.withFollow "special-get-raises" true):=fun p b os=>by kernel_rfl
theorem k3f (w:World):TT 348 sq2 (bC (itc 34) (some 406,[])) rs sq3 ⟨480,10,480,1804⟩ ⟨480,10,480,1804⟩ (w.withFollow "special-get-raises" false):=fun p b os=>by kernel_rfl
theorem k3t (w:World):TT 348 sq2 (bC (itc 34) (some 406,[])) rs sq3 ⟨480,10,480,1804⟩ ⟨480,10,480,1804⟩ (w.withFollow "special-get-raises" true):=fun p b os=>by kernel_rfl
theorem k4f (w:World):TT 348 sq3 (bC (itc 51) (some 406,[])) rs sq4 ⟨480,10,480,1804⟩ ⟨480,10,480,1804⟩ (w.withFollow "special-get-raises" false):=fun p b os=>by kernel_rfl
theorem k4t (w:World):TT 348 sq3 (bC (itc 51) (some 406,[])) rs sq4 ⟨480,10,480,1804⟩ ⟨480,10,480,1804⟩ (w.withFollow "special-get-raises" true):=fun p b os=>by kernel_rfl
theorem k5f (w:World):TT 348 sq4 (bC (itc 68) (some 406,[])) rs sq5 ⟨480,10,480,1804⟩ ⟨480,10,480,1804⟩ (w.withFollow "special-get-raises" false):=fun p b os=>by kernel_rfl
theorem k5t (w:World):TT 348 sq4 (bC (itc 68) (some 406,[])) rs sq5 ⟨480,10,480,1804⟩ ⟨480,10,480,1804⟩ (w.withFollow "special-get-raises" true):=fun p b os=>by kernel_rfl
theorem k6f (w:World):TT 348 sq5 (bC (itc 85) (some 406,[])) rs sq6 ⟨480,10,480,1804⟩ ⟨480,10,480,1804⟩ (w.withFollow "special-get-raises" false):=fun p b os=>by kernel_rfl
theorem k6t (w:World):TT 348 sq5 (bC (itc 85) (some 406,[])) rs sq6 ⟨480,10,480,1804⟩ ⟨480,10,480,1804⟩ (w.withFollow "special-get-raises" true):=fun p b os=>by kernel_rfl
theorem k7f (w:World):TT 348 sq6 (bC (itc 102) (some 406,[])) rs sq7 ⟨480,10,480,1804⟩ ⟨480,10,480,1804⟩ (w.withFollow "special-get-raises" false):=fun p b os=>by kernel_rfl
theorem k7t (w:World):TT 348 sq6 (bC (itc 102) (some 406,[])) rs sq7 ⟨480,10,480,1804⟩ ⟨480,10,480,1804⟩ (w.withFollow "special-get-raises" true):=fun p b os=>by kernel_rfl
theorem kzf (w:World):TT 154 sq7 ((forIn (its 119) ((some 406,[]):St) dQ.1 >>= dF) >>= fun v=>swappedStores tg (.Dict dk dv q1) env >>= fun d=>assignStores env v d ((assignEach tg env).map fun x=>x.2)) (fun a=>a) s8 ⟨480,10,480,1804⟩ ⟨480,0,480,7⟩ (w.withFollow "special-get-raises" false):=fun p b os=>by kernel_rfl
theorem kzt (w:World):TT 154 sq7 ((forIn (its 119) ((some 406,[]):St) dQ.1 >>= dF) >>= fun v=>swappedStores tg (.Dict dk dv q1) env >>= fun d=>assignStores env v d ((assignEach tg env).map fun x=>x.2)) (fun a=>a) s8 ⟨480,10,480,1804⟩ ⟨480,0,480,7⟩ (w.withFollow "special-get-raises" true):=fun p b os=>by kernel_rfl
theorem z7a (w:World) (os:OsState) {M:Nat} {r:Shared} (z:topRun treeTable pw_tn0016_01 w 11 (some (.ref 6)) M (s8 w os).abs (restOf (body.drop 221) env (.body body env) ⟨480,0,480,7⟩ [topFrame ⟨0,0,0,0⟩])=some r) :
  topRun treeTable pw_tn0016_01 w 11 (some (.ref 6)) (3+(3+(3+(241+(348+(348+(348+(348+(348+(348+(154+M))))))))))) (s7 w os).abs (restOf (body.drop 220) env (.body body env) ⟨479,0,479,8⟩ [topFrame ⟨0,0,0,0⟩])=some r:=by
 rw [hB,hA]
 unfold restOf
 rw [execs_cons_wrap]
 show topRun _ _ _ _ _ _ _ ⟨(standAt q0 >>= _).wrap _ _ id id,_,_,_⟩=_
 refine qQ (fun ξ=>.next) (so (u1 w) _ _ os) fun ξ ξ=>?_
 refine qQ (fun a=>cond a .brk .next) (so (u2 w) _ _ os) fun a e=>?_
 cases a with
 | true=>exact nomatch e
 | false =>
  show topRun _ _ _ _ _ _ _ ⟨(eval (.Dict dk dv q1) env >>= _).wrap _ _ id id,_,_,_⟩=_
  rw [show eval (.Dict dk dv q1) env=(standAt q1 >>= fun ξ=>dictDisplay (its 0)) from rfl,asc]
  refine qQ (fun ξ=>.next) (so (u3 w) _ _ os) fun ξ ξ=>?_
  rw [disp,asc,kW 0]
  refine stp (row k1f k1t w _ _ os) ?_
  rw [kW 17]
  refine stp (row k2f k2t w _ _ os) ?_
  rw [kW 34]
  refine stp (row k3f k3t w _ _ os) ?_
  rw [kW 51]
  refine stp (row k4f k4t w _ _ os) ?_
  rw [kW 68]
  refine stp (row k5f k5t w _ _ os) ?_
  rw [kW 85]
  refine stp (row k6f k6t w _ _ os) ?_
  rw [kW 102]
  refine stp (row k7f k7t w _ _ os) ?_
  rw [← asc]
  exact lst (fun a=>a) .next (row kzf kzt w _ _ os) fun a e=>by subst e;exact z
end Gt
end
section
set_option maxHeartbeats 8000000
namespace Gt
open PySem PySem.W PyProof.Rows PySem.Challenge
theorem cut (a n:Nat):body.drop a=sts a n++body.drop (a+n):=by
 unfold sts
 rw [← List.drop_drop,List.take_append_drop]
theorem q2 (w:World) (p:Program) (b:List Stmt) (os:OsState):segRun treeTable p w 11 (some (.ref 6)) 1 1074 (s1 w os).abs (piecesOf (sts 0 72) env (.body b env) ⟨0,0,0,0⟩ [topFrame ⟨0,0,0,0⟩])=some (.next,(s2 w os).abs,.body b env,⟨77,0,77,13⟩):=bM (p2 w p b os)
theorem q3 (w:World):∀ (p:Program) (b:List Stmt) (os:OsState),segRun treeTable p w 11 (some (.ref 6)) 1 413 (s2 w os).abs (piecesOf (sts 72 2) env (.body b env) ⟨77,0,77,13⟩ [topFrame ⟨0,0,0,0⟩])=some (.next,(s3 w os).abs,.body b env,⟨79,0,79,8⟩) :=
 byRow2 "special-get-raises" (P:=fun w=>∀ (p:Program) (b:List Stmt) (os:OsState),segRun treeTable p w 11 (some (.ref 6)) 1 413 (s2 w os).abs (piecesOf (sts 72 2) env (.body b env) ⟨77,0,77,13⟩ [topFrame ⟨0,0,0,0⟩])=some (.next,(s3 w os).abs,.body b env,⟨79,0,79,8⟩)) (fun w p b os=>bM (p3f w p b os)) (fun w p b os=>bM (p3t w p b os)) w
theorem q4 (w:World) (p:Program) (b:List Stmt) (os:OsState):segRun treeTable p w 11 (some (.ref 6)) 1 1095 (s3 w os).abs (piecesOf (sts 74 49) env (.body b env) ⟨79,0,79,8⟩ [topFrame ⟨0,0,0,0⟩])=some (.next,(s4 w os).abs,.body b env,⟨252,0,252,12⟩):=bM (p4 w p b os)
theorem q5 (w:World) (p:Program) (b:List Stmt) (os:OsState):segRun treeTable p w 11 (some (.ref 6)) 1 1066 (s4 w os).abs (piecesOf (sts 123 67) env (.body b env) ⟨252,0,252,12⟩ [topFrame ⟨0,0,0,0⟩])=some (.next,(s5 w os).abs,.body b env,⟨344,0,353,25⟩):=bM (p5 w p b os)
theorem q6 (w:World) (p:Program) (b:List Stmt) (os:OsState):segRun treeTable p w 11 (some (.ref 6)) 1 1092 (s5 w os).abs (piecesOf (sts 190 15) env (.body b env) ⟨344,0,353,25⟩ [topFrame ⟨0,0,0,0⟩])=some (.next,(s6 w os).abs,.body b env,⟨452,0,459,45⟩):=bM (p6 w p b os)
theorem q7 (w:World) (p:Program) (b:List Stmt) (os:OsState):segRun treeTable p w 11 (some (.ref 6)) 1 179 (s6 w os).abs (piecesOf (sts 205 15) env (.body b env) ⟨452,0,459,45⟩ [topFrame ⟨0,0,0,0⟩])=some (.next,(s7 w os).abs,.body b env,⟨479,0,479,8⟩):=bM (p7 w p b os)
theorem q9 (w:World) (p:Program) (b:List Stmt) (os:OsState):segRun treeTable p w 11 (some (.ref 6)) 1 1095 (s8 w os).abs (piecesOf (sts 221 51) env (.body b env) ⟨480,0,480,7⟩ [topFrame ⟨0,0,0,0⟩])=some (.next,(s9 w os).abs,.body b env,⟨645,0,653,73⟩):=bM (p9 w p b os)
theorem q10 (w:World) (p:Program) (b:List Stmt) (os:OsState):segRun treeTable p w 11 (some (.ref 6)) 1 1075 (s9 w os).abs (piecesOf (sts 272 41) env (.body b env) ⟨645,0,653,73⟩ [topFrame ⟨0,0,0,0⟩])=some (.next,(s10 w os).abs,.body b env,⟨856,0,862,17⟩):=bM (p10 w p b os)
theorem q11 (w:World) (p:Program) (b:List Stmt) (os:OsState):segRun treeTable p w 11 (some (.ref 6)) 1 288 (s10 w os).abs (piecesOf (sts 313 9) env (.body b env) ⟨856,0,862,17⟩ [topFrame ⟨0,0,0,0⟩])=some (.next,(s11 w os).abs,.body b env,⟨1022,0,1041,96⟩):=bM (p11 w p b os)
theorem t9:restOf [] env (.body body env) ⟨1022,0,1041,96⟩ [topFrame ⟨0,0,0,0⟩]=⟨doneF .next,(.body body env),⟨1022,0,1041,96⟩,[topFrame ⟨0,0,0,0⟩]⟩:=by kernel_rfl
theorem fin (w:World) (os:OsState):topRun treeTable pw_tn0016_01 w 11 (some (.ref 6)) 2 (s11 w os).abs ⟨doneF .next,(.body body env),⟨1022,0,1041,96⟩,[topFrame ⟨0,0,0,0⟩]⟩=some (s11 w os).abs:=by kernel_rfl
theorem z11 (w:World) (os:OsState):topRun treeTable pw_tn0016_01 w 11 (some (.ref 6)) 2 (s11 w os).abs (restOf (body.drop 322) env (.body body env) ⟨1022,0,1041,96⟩ [topFrame ⟨0,0,0,0⟩])=some (s11 w os).abs:=by
 rw [show body.drop 322=[] by kernel_rfl,t9];exact fin w os
theorem z10 (w:World) (os:OsState):topRun treeTable pw_tn0016_01 w 11 (some (.ref 6)) (288+2) (s10 w os).abs (restOf (body.drop 313) env (.body body env) ⟨856,0,862,17⟩ [topFrame ⟨0,0,0,0⟩])=some (s11 w os).abs:=by
 rw [cut 313 9];exact piece_app (q11 w _ _ os) (z11 w os)
theorem z9 (w:World) (os:OsState):topRun treeTable pw_tn0016_01 w 11 (some (.ref 6)) (1075+(288+2)) (s9 w os).abs (restOf (body.drop 272) env (.body body env) ⟨645,0,653,73⟩ [topFrame ⟨0,0,0,0⟩])=some (s11 w os).abs:=by
 rw [cut 272 41];exact piece_app (q10 w _ _ os) (z10 w os)
theorem z8 (w:World) (os:OsState):topRun treeTable pw_tn0016_01 w 11 (some (.ref 6)) (1095+(1075+(288+2))) (s8 w os).abs (restOf (body.drop 221) env (.body body env) ⟨480,0,480,7⟩ [topFrame ⟨0,0,0,0⟩])=some (s11 w os).abs:=by
 rw [cut 221 51];exact piece_app (q9 w _ _ os) (z9 w os)
theorem z7 (w:World) (os:OsState):topRun treeTable pw_tn0016_01 w 11 (some (.ref 6)) (3+(3+(3+(241+(348+(348+(348+(348+(348+(348+(154+(1095+(1075+(288+2)))))))))))))) (s7 w os).abs (restOf (body.drop 220) env (.body body env) ⟨479,0,479,8⟩ [topFrame ⟨0,0,0,0⟩])=some (s11 w os).abs:=z7a w os (z8 w os)
theorem z6 (w:World) (os:OsState):topRun treeTable pw_tn0016_01 w 11 (some (.ref 6)) (179+(3+(3+(3+(241+(348+(348+(348+(348+(348+(348+(154+(1095+(1075+(288+2))))))))))))))) (s6 w os).abs (restOf (body.drop 205) env (.body body env) ⟨452,0,459,45⟩ [topFrame ⟨0,0,0,0⟩])=some (s11 w os).abs:=by
 rw [cut 205 15];exact piece_app (q7 w _ _ os) (z7 w os)
theorem z5 (w:World) (os:OsState):topRun treeTable pw_tn0016_01 w 11 (some (.ref 6)) (1092+(179+(3+(3+(3+(241+(348+(348+(348+(348+(348+(348+(154+(1095+(1075+(288+2)))))))))))))))) (s5 w os).abs (restOf (body.drop 190) env (.body body env) ⟨344,0,353,25⟩ [topFrame ⟨0,0,0,0⟩])=some (s11 w os).abs:=by
 rw [cut 190 15];exact piece_app (q6 w _ _ os) (z6 w os)
theorem z4 (w:World) (os:OsState):topRun treeTable pw_tn0016_01 w 11 (some (.ref 6)) (1066+(1092+(179+(3+(3+(3+(241+(348+(348+(348+(348+(348+(348+(154+(1095+(1075+(288+2))))))))))))))))) (s4 w os).abs (restOf (body.drop 123) env (.body body env) ⟨252,0,252,12⟩ [topFrame ⟨0,0,0,0⟩])=some (s11 w os).abs:=by
 rw [cut 123 67];exact piece_app (q5 w _ _ os) (z5 w os)
theorem z3 (w:World) (os:OsState):topRun treeTable pw_tn0016_01 w 11 (some (.ref 6)) (1095+(1066+(1092+(179+(3+(3+(3+(241+(348+(348+(348+(348+(348+(348+(154+(1095+(1075+(288+2)))))))))))))))))) (s3 w os).abs (restOf (body.drop 74) env (.body body env) ⟨79,0,79,8⟩ [topFrame ⟨0,0,0,0⟩])=some (s11 w os).abs:=by
 rw [cut 74 49];exact piece_app (q4 w _ _ os) (z4 w os)
theorem z2 (w:World) (os:OsState):topRun treeTable pw_tn0016_01 w 11 (some (.ref 6)) (413+(1095+(1066+(1092+(179+(3+(3+(3+(241+(348+(348+(348+(348+(348+(348+(154+(1095+(1075+(288+2))))))))))))))))))) (s2 w os).abs (restOf (body.drop 72) env (.body body env) ⟨77,0,77,13⟩ [topFrame ⟨0,0,0,0⟩])=some (s11 w os).abs:=by
 rw [cut 72 2];exact piece_app (q3 w _ _ os) (z3 w os)
theorem z1 (w:World) (os:OsState):topRun treeTable pw_tn0016_01 w 11 (some (.ref 6)) (1074+(413+(1095+(1066+(1092+(179+(3+(3+(3+(241+(348+(348+(348+(348+(348+(348+(154+(1095+(1075+(288+2)))))))))))))))))))) (s1 w os).abs (restOf (body.drop 0) env (.body body env) ⟨0,0,0,0⟩ [topFrame ⟨0,0,0,0⟩])=some (s11 w os).abs:=by
 rw [cut 0 72];exact piece_app (q2 w _ _ os) (z2 w os)
theorem block (w:World) (os:OsState):segRun treeTable pw_tn0016_01 w 11 (some (.ref 6)) 1 1 (s1 w os).abs (blockOf body env (.body body env) ⟨0,0,0,0⟩ [topFrame ⟨0,0,0,0⟩])=some (.next,(s1 w os).abs,(.body body env),⟨0,0,0,0⟩):=by kernel_rfl
noncomputable def S0 (w:World) (os:OsState):Shared:=⟨PySem.W.boot_heap w.params,Array.mk [],PySem.W.boot_drawn,PySem.W.boot_toks,os⟩
theorem pre (w:World) (os:OsState):topGo treeTable pw_tn0016_01 w 11 (some (.ref 6)) 12 (S0 w os) (topStub pw_tn0016_01)=some ((s1 w os).abs,⟨denote treeTable (.body body env),(.body body env),⟨0,0,0,0⟩,[topFrame ⟨0,0,0,0⟩]⟩):=by kernel_rfl
theorem run (w:World) (os:OsState):topRun treeTable pw_tn0016_01 w 11 (some (.ref 6)) (12+(1+(1074+(413+(1095+(1066+(1092+(179+(3+(3+(3+(241+(348+(348+(348+(348+(348+(348+(154+(1095+(1075+(288+2)))))))))))))))))))))) (S0 w os) (topStub pw_tn0016_01)=some (s11 w os).abs :=
 go_top (pre w os) (piece_block (block w os) (z1 w os))
end Gt
end
section
set_option maxHeartbeats 8000000
namespace Gt
open PySem PySem.W PyProof.Rows PySem.Challenge PySem.Calls
noncomputable def H1 (P:Params):Heap:=absHeap (bt1 11 (l11 P)) 868 {}
noncomputable def vw:Program:={ pw_tn0016_01 with main:={ pw_tn0016_01.main with body:=[st 321] } }
noncomputable def inL (s:Str) (l:List Str):Bool:=@List.rec Str (fun ξ=>Bool) false (fun x ξ ih=>PySem.W.Fast.sEq s x||ih) l
noncomputable def v2 (l:List (Str×NameKind)):List Str:=@List.rec (Str×NameKind) (fun ξ=>List Str) [] (fun x ξ ih=>@Bool.rec (fun ξ=>List Str) (x.1 :: ih) ih (inL x.1 ("law" :: startupNames))) l
noncomputable def loose:List Str:=v2 pw_tn0016_01.main.scope.names
theorem size (P:Params):((boot_heap P).isNs mainGlobals&&(#[]:Array GenState).size==0,(boot_heap P).objs.size,(boot_heap P).nsMap mainGlobals "__annotations__")=(true,11,some (.ref 6)):=by kernel_rfl
theorem vY (w:World) (os:OsState):(staticsOk (importedModules pw_tn0016_01.main.body) (boot_heap w.params) (H1 w.params)=true):=by kernel_rfl
theorem vX (P:Params):namesBound pw_tn0016_01 (H1 P)=true:=by
 unfold namesBound
 rw [PySem.W.Fast.sDec_eq]
 kernel_rfl
theorem vV (w:World) (os:OsState):gensDone ⟨H1 w.params,#[],{},2166,os⟩=true:=by kernel_rfl
theorem vU (w:World) (os:OsState):laidKept (boot_heap w.params) (H1 w.params)=true:=by kernel_rfl
theorem vW (w:World) (os:OsState):openSeen vw loose (importedModules pw_tn0016_01.main.body) (fun ξ=>true) true ⟨H1 w.params,#[],{},2166,os⟩=openGood vw loose:=by
 rw [PySem.W.Fast.te4187177175401517315]
 kernel_rfl
theorem left:LeftO pw_tn0016_01 vw loose (fun ξ=>true) (fun s:Shared=>s.heap) (fun w=>H1 w.params) 1000000 true :=
 LeftO.of_pieces (H₀:=boot_heap) (H₁:=H1) (gs₀:=#[]) (gs₁:=#[]) (d₀:=boot_drawn) (d₁:={}) (k₀:=boot_toks) (k₁:=2166) (m₀:=11) (ann:=some (.ref 6))
  (boot_open (by kernel_rfl) (by kernel_rfl) (fun s=>by kernel_rfl))
  (fun w=>size w.params) run (by kernel_rfl)
  (fun w=>funext fun os=>by
   rw [vW w os,vY w os,vX,vV w os,vU w os]
   rfl)
end Gt
end
section
set_option maxHeartbeats 8000000
namespace Gt
open PySem PySem.W PyProof.Rows PySem.Challenge PySem.Calls
theorem hs1:namesResolve rw_tn0016_01.row.prog=true:=by
 rewrite [Fast.te2368527892694137696,Fast.te8377067652309620493];kernel_rfl
theorem y1:(importedModules rw_tn0016_01.row.prog.main.body).all cThrough.contains=true:=by rewrite [Fast.te2368527892694137696];kernel_rfl
theorem fl3 {f:Str→Bool} {a b c:Str} (h1:f a=false) (h2:f b=false) (h3:f c=false):[a,b,c].filter f=[]:=by
 simp only [List.filter,h1,h2,h3]
theorem rd1:readsOut rw_tn0016_01.row.prog rw_tn0016_01.row.prog.main.body "vars"=false:=by rewrite [Fast.te2368527892694137696,Fast.te13343964577679436407];kernel_rfl
theorem rd2:readsOut rw_tn0016_01.row.prog rw_tn0016_01.row.prog.main.body "dir"=false:=by rewrite [Fast.te2368527892694137696,Fast.te13343964577679436407];kernel_rfl
theorem rd3:readsOut rw_tn0016_01.row.prog rw_tn0016_01.row.prog.main.body "locals"=false:=by rewrite [Fast.te2368527892694137696,Fast.te13343964577679436407];kernel_rfl
theorem rdL:noRoadLSs { strict:=false,foot:=none,bare:=[] } rw_tn0016_01.row.prog.main.body=true:=by rewrite [Fast.te2368527892694137696,Fast.te8326940854005059898];kernel_rfl
theorem hs3:noRoadLSs { strict:=!(importedModules rw_tn0016_01.row.prog.main.body).all cThrough.contains,foot:=none,bare:=(["vars","dir","locals"]:List Str).filter (readsOut rw_tn0016_01.row.prog rw_tn0016_01.row.prog.main.body) } rw_tn0016_01.row.prog.main.body=true:=by
 rw [y1,fl3 rd1 rd2 rd3];exact rdL
theorem hs4:(namesMeet rw_tn0016_01.row.prog rw_tn0016_01.row.prog.main.body fun ξ n=>attrL n)=true:=by
 rewrite [Fast.te2368527892694137696,Fast.te17119622794617984870,Fast.te17868728402115742887];kernel_rfl
theorem hs6:noRoadLSs { strict:=true,foot:=some rw_tn0016_01.bound',writes:=rw_tn0016_01.writes,may:=rw_tn0016_01.may } rw_tn0016_01.footing=true:=by
 rewrite [Fast.te8326940854005059898,Fast.te797321630700447069,Fast.te9572597257264208301];kernel_rfl
theorem hs8:rw_tn0016_01.bound'.all (fun n=>!builtinNamed n||rw_tn0016_01.about==[n]||!rw_tn0016_01.reads n)=true:=by
 rewrite [Fast.te797321630700447069,Fast.te6984425678791042302,R.allR_eq,Fast.named_eq,Fast.sDec_eq];kernel_rfl
theorem hs10:(namesMeet rw_tn0016_01.prog rw_tn0016_01.above fun ξ n=>!rw_tn0016_01.own.contains n)=true:=by
 rewrite [Fast.te3471404346716756564,Fast.te17119622794617984870,Fast.te10792542408131684335,Fast.sDec_eq];kernel_rfl
theorem ws:rw_tn0016_01.wellSaid=true:=by
 unfold OpenLaw.wellSaid OpenRow.wellSaid OpenRow.partSaid looksOpen
 repeat' (with_reducible apply look_both)
 all_goals (first | with_reducible exact hs1 | with_reducible exact hs3 | with_reducible exact hs4 | with_reducible exact hs6 | with_reducible exact hs8 | with_reducible exact hs10 | ((try rewrite [Fast.te11788848310118352699]);(try rewrite [Fast.te2368527892694137696]);(try rewrite [Fast.te9807087744658564304]);(try rewrite [Fast.te12862048085361865435]);(try rewrite [Fast.te8377067652309620493]);(try rewrite [Fast.te18344453789297297638]);(try rewrite [Fast.te3471404346716756564]);(try rewrite [Fast.te14412699480532031325]);(try rewrite [Fast.te8326940854005059898]);(try rewrite [Fast.te5923862056798008813]);(try rewrite [Fast.te17691160309236699985]);(try rewrite [Fast.te13343964577679436407]);(try rewrite [Fast.te17119622794617984870]);(try rewrite [Fast.te17868728402115742887]);(try rewrite [Fast.te9706382859710513879]);(try rewrite [Fast.te2357444279172408678]);(try rewrite [Fast.te4857012375875476094]);(try rewrite [Fast.te13582783067957832011]);(try rewrite [Fast.te5318747976498570220]);(try rewrite [Fast.te4579403493507170074]);(try rewrite [Fast.te4274047373036748609]);(try rewrite [Fast.te12749700546528644094]);(try rewrite [Fast.te10501279942588096481]);(try rewrite [Fast.te8179353310426384613]);(try rewrite [Fast.te797321630700447069]);(try rewrite [Fast.te9572597257264208301]);(try rewrite [Fast.te9558739934217749035]);(try rewrite [Fast.te16286561074155671207]);(try rewrite [Fast.te6984425678791042302]);(try rewrite [Fast.te17095254045102204799]);(try rewrite [Fast.te12879404354523853263]);(try rewrite [Fast.te482687673346738481]);(try rewrite [Fast.te10792542408131684335]);(try rewrite [Fast.te7723801398212525404]);(try rewrite [R.allR_eq]);(try rewrite [R.filterR_eq]);(try rewrite [R.mapR_eq]);(try rewrite [R.anyR_eq]);(try rewrite [Fast.named_eq]);(try rewrite [Fast.sDec_eq]);kernel_rfl))
end Gt
end
section
namespace Gh
inductive Ps where
 | h | o (p:Ps) | i (p:Ps)
inductive V where
 | unb | none
 | bool (b:Bool)
 | int (o:Int) (s:Nat)
 | str (i:Nat)
 | anyStr (k:Nat)
 | tup (vs:List V)
 | ref (g:Ps)
 | fn (i:Ps) | cls (i:Ps) | bi (i:Nat) | gd (i:Ps)
inductive O where
 | lst (n:Nat) (vs:List V)
 | gap (n:Nat) (pre suf:List V)
 | plst (its:List (Nat×V))
 | emp
 | idct (n:Nat) (kvs:List (V×V)) (may:List V)
 | sdct (n:Nat) (kvs:List (V×V))
 | kdct (n:Nat) (kvs:List (V×V)) (may:List V)
 | inst (c:Ps) (fs:List (Nat×V))
 | bag (has:List V)
inductive Cell where
 | no
 | ob (w:Bool) (o:O)
inductive Tr (α:Type) where
 | nil
 | node (v:α) (l r:Tr α)
noncomputable abbrev T:=Tr Cell
structure St where
 h:T
 n:Ps
inductive BO where
 | add | sub | mul | fdiv | mod | band
inductive CO where
 | eq | ne | lt | le | gt | ge | is | isnot | isin | notin
inductive BM where
 | append | extend | pop | get
inductive GE where
 | loc (i:Nat) | glob (i:Nat) (v:V)
 | cint (n:Int) | cstr (i:Nat) | cnone | cbool (b:Bool)
 | attr (e:GE) (f:Nat)
 | sub (e i:GE)
 | sliceTo (e:GE) (k:Nat) | sliceFrom (e:GE) (k:Nat) | rev (e:GE)
 | call (f:GE) (args:List GE)
 | meth (e:GE) (name:Nat) (args:List GE)
 | bmeth (e:GE) (m:BM) (args:List GE)
 | bin (op:BO) (a b:GE)
 | cmp (op:CO) (a b:GE)
 | cmp2 (o1 o2:CO) (a b c:GE)
 | and (es:List GE) | or (es:List GE) | not (e:GE)
 | ite (c a b:GE)
 | tup (es:List GE) | lst (es:List GE) | dct (kvs:List (GE×GE))
 | comp (elt:GE) (it:GE)
 | compR (elt:GE) (args:List GE)
 | neg (e:GE)
inductive GS where
 | assign (x:Nat) (e:GE)
 | setattr (o:GE) (f:Nat) (e:GE)
 | setsub (o i e:GE)
 | unpack (xs:List Nat) (e:GE)
 | aug (x:Nat) (op:BO) (e:GE)
 | augsub (o i:GE) (op:BO) (e:GE)
 | expr (e:GE)
 | ret (e:GE)
 | ifs (c:GE) (a b:List GS)
 | for1 (x:Nat) (it:GE) (b:List GS)
 | forN (xs:List Nat) (it:GE) (b:List GS)
 | forR (x:Nat) (args:List GE) (b:List GS)
 | stop
inductive Fn where
 | no
 | mk (ar:Nat) (nl:Nat) (body:List GS)
inductive Cl where
 | no
 | mk (init:Ps) (ms:List (Nat×Ps))
inductive RE where
 | fail
 | ok (v:V) (σ:St)
inductive RT where
 | fail
 | ok (b:Bool) (σ:St)
inductive RL where
 | fail
 | ok (vs:List V) (σ:St)
inductive RP where
 | fail
 | ok (kvs:List (V×V)) (σ:St)
inductive RS where
 | fail
 | next (ρ:List V) (σ:St)
 | ret (v:V) (σ:St)
inductive RU where
 | fail
 | ok (σ:St)
inductive B3 where
 | und | no | yes
inductive RK where
 | und | miss | hit (v:V)
inductive RB where
 | fail
 | ok (kvs:List (V×V))
inductive OL where
 | fail
 | ok (n:Nat) (vs:List V)
inductive LO where
 | fail
 | ok (ρ:List V)
noncomputable def Za:GE:=.loc 0
noncomputable def Zb:GE:=.cint 0
noncomputable def Zc:GE:=.loc 1
noncomputable def Zd:V:=.int 2 0
noncomputable def Ze:V:=.int 3 0
noncomputable def Zf:GE:=.glob 6 Ze
noncomputable def Zg:GE:=.cint 2
noncomputable def Zh:V:=.int 4 0
noncomputable def Zi:GE:=.glob 7 Zh
noncomputable def Zj:V:=.int 5 0
noncomputable def Zk:V:=.int 8 0
noncomputable def Zl:V:=.int 9 0
noncomputable def Zm:V:=.int 11 0
noncomputable def Zn:GE:=.cint 1
noncomputable def Zo:V:=.int 10 0
noncomputable def Zp:GE:=.cint 3
noncomputable def Zq:GE:=.tup []
noncomputable def f0:Fn:=.mk 1 2 [.assign 1 (.sub Za Zb),.ifs (.or [.cmp .eq Zc (.glob 5 Zd),.cmp .eq Zc Zf]) [.ret (.sub Za Zg)] [],.ifs (.or [.cmp .eq Zc Zi,.cmp .eq Zc (.glob 8 Zj),.cmp .eq Zc (.glob 9 Zk),.cmp .eq Zc (.glob 10 Zl),.cmp .eq Zc (.glob 11 Zm)]) [.ret (.tup [.sub Za Zn])] [],.ifs (.cmp .eq Zc (.glob 12 Zo)) [.ret (.bin .add (.tup [.sub Za Zn]) (.sub Za Zp))] [],.ret Zq]
noncomputable def f1:Fn:=.mk 1 1 [.ifs (.or [.cmp .eq Za (.glob 5 Zd),.cmp .eq Za Zf,.cmp .eq Za Zi]) [.ret Zn] [],.ret Zb]
noncomputable def f2:Fn:=.mk 1 1 [.ifs (.or [.cmp .eq Za (.glob 5 Zd),.cmp .eq Za Zf]) [.ret Zp] [],.ifs (.cmp .eq Za (.glob 12 Zo)) [.ret (.cint 4)] [],.ret Zg]
noncomputable def Zr:GE:=.glob 13 (.bi 0)
noncomputable def Zs:GE:=.sub Zc Zb
noncomputable def Zt:V:=.int 1 0
noncomputable def Zu:List GS:=[.stop]
noncomputable def Zv:GE:=.loc 2
noncomputable def Zw:GE:=.loc 3
noncomputable def Zx:V:=.int 6 0
noncomputable def Zy:V:=.int 7 0
noncomputable def Zz:GE:=.or [.cmp .eq Zv (.glob 19 Zx),.cmp .eq Zv (.glob 20 Zy)]
noncomputable def ZA:GE:=.not (.call (.glob 21 (.fn (.i (.i .h)))) [Za,.sub Zc Zn])
noncomputable def ZB:Ps:=.o (.o (.o .h))
noncomputable def f3:Fn:=.mk 2 4 [.ifs (.or [.cmp .eq (.call Zr [Zc]) Zb,.cmp .le Zs (.glob 14 Zt),.cmp .gt Zs (.glob 11 Zm)]) Zu [],.assign 2 Zs,.ifs (.cmp .ne (.call Zr [Zc]) (.call (.glob 15 (.fn (.i .h))) [Zv])) Zu [],.for1 3 (.call (.glob 16 (.fn .h)) [Zc]) [.expr (.meth Za 17 [Zw])],.ifs (.or [.cmp .eq Zv (.glob 5 Zd),.cmp .eq Zv Zf]) [.expr (.call (.glob 18 (.fn (.i (.o .h)))) [Za,Zc])] [.ifs Zz [.ifs (.cmp .lt (.sub Zc Zn) Zb) Zu []] [.ifs (.cmp .eq Zv (.glob 12 Zo)) [.ifs (.or [ZA,.cmp .lt (.sub Zc Zg) Zb]) Zu [],.expr (.call (.glob 22 (.fn (.o (.i .h)))) [Za,.sub Zc Zp])] [.ifs (.cmp .eq Zv (.glob 9 Zk)) [.ifs (.not (.or [.call (.glob 23 (.fn (.i (.i (.i .h))))) [Za,.sub Zc Zn],.call (.glob 24 (.fn (.i ZB))) [Za,.sub Zc Zn]])) Zu []] [.ifs ZA Zu []]]]]]
noncomputable def ZC:GE:=.glob 25 (.gd (.o .h))
noncomputable def f4:Fn:=.mk 2 2 [.ifs (.or [.cmp .le (.sub Zc Zn) Zb,.cmp .isin (.sub Zc Zn) ZC]) Zu [],.expr (.call (.glob 22 (.fn (.o (.i .h)))) [Za,.sub Zc Zg])]
noncomputable def f5:Fn:=.mk 2 3 [.for1 2 Zc [.ifs (.not (.call (.glob 21 (.fn (.i (.i .h)))) [Za,Zv])) Zu []]]
noncomputable def ZD:V:=.int 0 0
noncomputable def ZE:GE:=.glob 26 ZD
noncomputable def ZF:V:=.int 14 0
noncomputable def ZG:List GS:=[.ret (.cbool false)]
noncomputable def ZH:GS:=.assign 2 (.sub (.meth Za 17 [Zc]) Zb)
noncomputable def f6:Fn:=.mk 2 3 [.ifs (.or [.cmp .eq Zc ZE,.cmp .eq Zc (.glob 27 ZF)]) ZG [],ZH,.ret (.or [.cmp .le Zv Zi,.cmp .eq Zv (.glob 19 Zx),.cmp .eq Zv (.glob 20 Zy)])]
noncomputable def ZI:GS:=.ifs (.cmp .isin Zc ZC) [.ret (.call (.glob 28 (.fn (.o (.i (.o .h))))) [Zc,Zv])] []
noncomputable def f7:Fn:=.mk 3 3 [ZI,.ret (.meth Za 29 [.tup [.glob 5 Zd,Zc,Zv]])]
noncomputable def f8:Fn:=.mk 3 3 [ZI,.ret (.meth Za 29 [.tup [Zf,Zc,Zv]])]
noncomputable def f9:Fn:=.mk 2 2 [.ifs (.cmp .gt (.call Zr [Zc]) Zb) Zu [],.ret (.sub ZC Za)]
noncomputable def f10:Fn:=.mk 2 2 [.ret (.meth Za 29 [.tup [Zi,Zc]])]
noncomputable def f11:Fn:=.mk 2 2 [.ret (.meth Za 29 [.tup [.glob 8 Zj,Zc]])]
noncomputable def f12:Fn:=.mk 2 2 [.ret (.meth Za 29 [.tup [.glob 19 Zx,Zc]])]
noncomputable def f13:Fn:=.mk 2 3 [.assign 2 (.meth Za 17 [Zc]),.ifs (.or [.cmp .eq (.sub Zv Zb) (.glob 5 Zd),.cmp .eq (.sub Zv Zb) Zf]) [.ret (.sub Zv Zn)] [],.ifs (.cmp .eq (.sub Zv Zb) (.glob 14 Zt)) [.ret (.bmeth (.glob 30 (.gd .h)) .get [Zc,Zb])] [],.ifs (.cmp .eq (.sub Zv Zb) Zi) [.ret (.glob 31 Zj)] [],.ret Zb]
noncomputable def ZJ:GE:=.glob 32 Zt
noncomputable def ZK:GS:=.ret (.cbool true)
noncomputable def f14:Fn:=.mk 2 2 [.ifs (.and [.cmp .le ZJ Zc,.cmp .le Zc (.glob 33 Zm)]) [ZK] [],.ret (.cmp .eq (.sub (.meth Za 17 [Zc]) Zb) Zf)]
noncomputable def ZL:V:=.int 12 0
noncomputable def ZM:GE:=.glob 34 ZL
noncomputable def ZN:V:=.int 13 0
noncomputable def ZO:GE:=.glob 35 ZN
noncomputable def f15:Fn:=.mk 2 3 [.ifs (.or [.cmp .eq Zc ZM,.cmp .eq Zc ZO,.cmp .eq Zc (.glob 27 ZF)]) [ZK] [],ZH,.ret (.or [.cmp .eq Zv (.glob 5 Zd),.cmp .eq Zv Zi,.cmp .eq Zv (.glob 9 Zk)])]
noncomputable def f16:Fn:=.mk 2 3 [ZH,.ret Zz]
noncomputable def ZP:GE:=.lst []
noncomputable def ZQ:GE:=.glob 38 (.bi 2)
noncomputable def f17:Fn:=.mk 1 3 [.assign 1 ZP,.forR 2 [Za] [.expr (.bmeth Zc .append [.bin .add (.cstr 36) (.call (.glob 37 (.bi 4)) [Zv])])],.ret (.call ZQ [Zc])]
noncomputable def ZR:GE:=.sub (.attr Za 39) Zc
noncomputable def f18:Fn:=.mk 3 4 [.assign 3 ZR,.ifs (.cmp .notin Zv (.attr Zw 40)) [.expr (.bmeth (.attr Zw 40) .append [Zv])] []]
noncomputable def ZS:GE:=.loc 7
noncomputable def ZT:GE:=.sub (.attr Za 39) Zv
noncomputable def ZU:GE:=.loc 4
noncomputable def ZV:GE:=.loc 5
noncomputable def ZW:GE:=.loc 6
noncomputable def f19:Fn:=.mk 7 8 [.ifs (.or [.cmp .le Zc Zb,.cmp .gt Zc (.glob 41 (.int 63 0))]) Zu [],.assign 7 (.sub (.attr Za 42) Zc),.ifs (.cmp .is ZS .cnone) [.expr (.bmeth (.attr ZT 43) .append [Zc])] [.ifs (.cmp .ne (.attr ZS 44) Zv) Zu []],.setsub (.attr Za 42) Zc (.call (.glob 45 (.cls (.i (.o .h)))) [Zc,Zv,Zw,ZU,ZV,ZW]),.ret Zc]
noncomputable def ZX:GE:=.glob 46 (.int 32 0)
noncomputable def ZY:GE:=.glob 48 (.int 128 0)
noncomputable def f20:Fn:=.mk 1 1 [.ifs (.and [.cmp .ne (.bin .band Za (.bin .add ZX (.glob 47 (.int 64 0)))) Zb,.cmp .ne (.bin .band Za ZY) Zb]) [.ret (.bin .sub Za ZY)] [],.ret Za]
noncomputable def ZZ:GE:=.sub (.attr Za 50) Zc
noncomputable def Z0:GE:=.loc 8
noncomputable def Z1:Ps:=.i (.o (.i (.o .h)))
noncomputable def Z2:Ps:=.i (.i (.i (.o .h)))
noncomputable def f21:Fn:=.mk 8 10 [.ifs (.or [.cmp .le Zc Zb,.cmp .gt Zc (.glob 49 (.int 255 0))]) Zu [],.assign 8 ZZ,.ifs (.cmp .is Z0 .cnone) [.expr (.bmeth (.attr ZT 50) .append [Zc])] [.ifs (.cmp .ne (.attr Z0 44) Zv) Zu []],.setsub (.attr Za 50) Zc (.call (.glob 51 (.cls (.o (.i .h)))) [Zc,Zv,Zw,ZU,.call (.glob 52 (.fn Z1)) [ZV],ZW,ZS]),.assign 9 ZT,.ifs (.cmp .eq (.attr (.loc 9) 53) Zc) [.setattr (.loc 9) 53 Zb] [],.ifs (.cmp .eq (.attr (.loc 9) 54) Zc) [.setattr (.loc 9) 54 Zb] [],.expr (.call (.glob 55 (.fn Z2)) [Za,Zc]),.ret Zc]
noncomputable def Z3:GE:=.attr Zv 44
noncomputable def Z4:Ps:=.i (.i (.i (.i .h)))
noncomputable def Z5:GE:=.glob 62 Zt
noncomputable def f22:Fn:=.mk 2 4 [.assign 2 ZZ,.assign 3 (.sub (.attr Za 39) Z3),.ifs (.cmp .ne (.bin .band (.attr Zv 56) (.glob 47 (.int 64 0))) Zb) [.setattr Zw 53 Zc] [],.ifs (.and [.cmp .eq (.attr Zv 57) (.cstr 58),.call (.glob 59 (.fn Z4)) [Zv],.cmp .eq (.call Zr [.attr Zv 60]) Zb,.cmp .eq (.attr Zv 61) ZE]) [.ifs (.or [.cmp .eq Z3 Z5,.cmp .eq (.bin .band (.attr Zv 56) (.glob 63 Zh)) Zb]) [.setattr Zw 54 Zc] []] []]
noncomputable def f23:Fn:=.mk 6 10 [.assign 6 ZP,.for1 7 ZU [.expr (.bmeth ZW .append [ZS])],.assign 8 ZP,.for1 9 ZV [.expr (.bmeth Z0 .append [.loc 9])],.setattr ZZ 64 (.call (.glob 65 (.cls (.i (.i .h)))) [.call ZQ [Zv],Zw,ZW,Z0])]
noncomputable def f24:Fn:=.mk 3 3 [.setattr ZZ 66 Zv]
noncomputable def f25:Fn:=.mk 2 2 [.ifs (.cmp .notin Zc Za) [.expr (.bmeth Za .append [Zc])] []]
noncomputable def Z6:Ps:=.o (.i (.o (.i .h)))
noncomputable def f26:Fn:=.mk 7 7 [.expr (.call (.glob 67 (.fn Z6)) [.attr ZR 68,.tup [Zv,Zw,ZU,ZV,ZW]])]
noncomputable def f27:Fn:=.mk 2 2 [.ret (.bin .add (.bin .add (.glob 69 (.int 30 0)) (.bin .mul Zg (.bin .sub Za (.glob 70 (.int 21 0))))) Zc)]
noncomputable def Z7:GE:=.glob 71 (.fn (.i (.o (.i .h))))
noncomputable def Z8:GE:=.attr Za 72
noncomputable def Z9:Ps:=.o (.i (.i (.i .h)))
noncomputable def f28:Fn:=.mk 2 5 [.ifs (.cmp .isin Zc ZC) [.ret (.sub ZC Zc)] [],.assign 2 ZR,.assign 3 ZP,.forR 4 [.call Zr [.attr Zv 60]] [.expr (.bmeth Zw .append [.call Z7 [Z8,ZU]])],.ret (.call (.glob 73 (.fn Z9)) [Za,Zc,.call ZQ [Zw]])]
noncomputable def Zaa:GE:=.glob 78 (.fn ZB)
noncomputable def f29:Fn:=.mk 3 4 [.assign 3 (.attr ZR 74),.ifs (.or [.cmp .eq Zw (.glob 75 Zd),.cmp .eq Zw (.glob 76 Zj)]) [.ret (.call (.glob 77 (.fn (.i (.o (.o .h))))) [Z8,Zc,Zv])] [],.ret (.call Zaa [Z8,Zc,Zv])]
noncomputable def Zab:GE:=.glob 79 Zd
noncomputable def f30:Fn:=.mk 1 1 [.ret (.cmp .ne (.bin .band (.attr Za 56) Zab) Zb)]
noncomputable def Zac:GE:=.neg Zn
noncomputable def f31:Fn:=.mk 1 1 [.ret (.cmp .eq (.bmeth (.glob 80 (.gd (.i .h))) .get [Za,Zac]) (.glob 81 Zj))]
noncomputable def Zad:V:=.int (-1) 0
noncomputable def Zae:GE:=.glob 82 Zad
noncomputable def f32:Fn:=.mk 1 6 [.assign 1 (.dct []),.assign 2 Zb,.forN [3,4] Za [.ifs (.cmp .eq Zw Zae) [.setsub Zc ZU Zv] [.aug 2 .add Zn]],.assign 5 ZP,.forN [3,4] Za [.ifs (.cmp .ne Zw Zae) [.ifs (.call (.glob 83 (.fn (.o (.o ZB)))) [Zw]) [.expr (.bmeth ZV .append [.tup [Zw,.sub Zc ZU]])] [.expr (.bmeth ZV .append [.tup [Zw,ZU]])]] []],.ret ZV]
noncomputable def Zaf:Ps:=.o (.i (.i (.o .h)))
noncomputable def Zag:GE:=.glob 84 (.fn Zaf)
noncomputable def Zah:GE:=.glob 85 Zx
noncomputable def Zai:GS:=.expr (.call Zag [Za,Zc,Zv,Zw,Zah,ZU,ZV,ZW])
noncomputable def Zaj:Ps:=.o (.o (.o (.i .h)))
noncomputable def Zak:GE:=.glob 86 (.fn Zaj)
noncomputable def Zal:GE:=.glob 87 (.fn (.i (.o ZB)))
noncomputable def f33:Fn:=.mk 9 9 [Zai,.expr (.call Zak [Za,Zc,Zq,ZS,.call Zal [Z0],ZP])]
noncomputable def Zam:Ps:=.i (.o (.o (.i .h)))
noncomputable def f34:Fn:=.mk 8 8 [Zai,.expr (.call (.glob 88 (.fn Zam)) [Za,Zc,ZS])]
noncomputable def Zan:Ps:=.i (.i (.o (.i .h)))
noncomputable def f35:Fn:=.mk 7 8 [.for1 7 (.attr ZR 68) [.ifs (.and [.cmp .eq (.sub ZS Zb) Zv,.cmp .eq (.sub ZS Zg) ZU]) [.ret .cnone] []],.expr (.call (.glob 89 (.fn Zan)) [Za,Zc,Zv,Zw,ZU,ZV,ZW])]
noncomputable def f36:Fn:=.mk 2 2 [.ret (.call Zaa [Z8,Zc,Zq])]
noncomputable def Zao:GE:=.glob 90 (.int 40 0)
noncomputable def f37:Fn:=.mk 2 2 [.ret (.tup [Zao,.tup [Za,Zc,Zq]])]
noncomputable def Zap:GE:=.glob 91 (.int 111 0)
noncomputable def f38:Fn:=.mk 2 2 [.ret (.tup [Zap,.tup [Za,Zc,Zq]])]
noncomputable def Zaq:Ps:=.o (.i (.o (.o .h)))
noncomputable def Zar:GE:=.glob 92 (.fn (.i Zaq))
noncomputable def Zas:GE:=.glob 94 (.fn (.o (.i ZB)))
noncomputable def Zat:GE:=.cstr 96
noncomputable def Zau:GE:=.bin .add ZX ZY
noncomputable def Zav:GE:=.glob 97 (.int 42 0)
noncomputable def Zaw:GE:=.tup [Zav,Zb]
noncomputable def Zax:GE:=.lst [Zaw]
noncomputable def Zay:GE:=.glob 98 (.fn (.i (.i ZB)))
noncomputable def Zaz:GE:=.glob 101 Zx
noncomputable def ZaA:GE:=.glob 105 (.int 65033 0)
noncomputable def ZaB:GE:=.tup [ZaA,Zb]
noncomputable def ZaC:GE:=.tup [ZaA,Zn]
noncomputable def ZaD:GE:=.tup [.glob 106 (.int 65025 0),Zb]
noncomputable def ZaE:GE:=.glob 109 Zy
noncomputable def ZaF:GE:=.glob 128 (.fn (.o Zaq))
noncomputable def f39:Fn:=.mk 1 2 [.assign 1 (.call Zar [Za,.glob 93 (.int 51 0)]),.expr (.call Zas [Za,.glob 95 Zt,Z5,Zat,Zau,ZE,Zq,Zb,Zax]),.expr (.call Zay [Za,.glob 99 Zd,Z5,.cstr 100,Zaz,ZO,Zq,.glob 102 Zo]),.expr (.call Zas [Za,.glob 103 Ze,Z5,.cstr 104,Zaz,ZJ,.tup [ZM],Zg,.lst [ZaB,ZaC,ZaD,Zaw]]),.expr (.call Zay [Za,.glob 107 Zh,Z5,.cstr 108,Zaz,ZaE,Zq,.glob 110 Zm]),.expr (.call Zay [Za,.glob 111 Zj,Z5,.cstr 112,Zb,Zc,Zq,.glob 113 ZL]),.expr (.call Zag [Za,.glob 114 Zx,Z5,.cstr 58,.glob 115 Zh,Zaz,ZE,Zq]),.expr (.call Zak [Za,.glob 114 Zx,Zq,Zb,Zax,ZP]),.expr (.call Zas [Za,.glob 116 Zy,Z5,.cstr 117,.glob 118 Zt,ZJ,.tup [ZM,ZM],Zg,.lst [ZaB,ZaC,ZaD,Zaw]]),.expr (.call Zay [Za,.glob 119 Zk,.glob 120 Zd,.cstr 104,Zab,ZJ,.tup [ZM],.glob 121 ZN]),.expr (.call Zay [Za,.glob 122 Zl,.glob 120 Zd,.cstr 108,Zab,ZaE,Zq,.glob 123 ZF]),.expr (.call Zay [Za,.glob 124 (.int 203 0),.glob 125 Zj,.cstr 126,ZY,ZaE,Zq,.glob 127 (.int 27 0)]),.expr (.call ZaF [Za,.glob 125 Zj,.cstr 129,ZaE,.glob 124 (.int 203 0),Zb,Zq])]
noncomputable def ZaG:Ps:=.i (.i (.o (.o .h)))
noncomputable def ZaH:GE:=.glob 130 (.fn (.o ZaG))
noncomputable def ZaI:GE:=.glob 131 (.int 32 0)
noncomputable def ZaJ:GE:=.tup [ZaI,Zb]
noncomputable def f40:Fn:=.mk 2 2 [.ret (.lst [ZaB,ZaC,.call ZaH [Za,Zc],ZaJ,ZaD,Zaw])]
noncomputable def ZaK:GE:=.glob 132 (.int 58 0)
noncomputable def ZaL:GE:=.tup [ZaK,Zn]
noncomputable def ZaM:GE:=.glob 133 (.int 114 0)
noncomputable def ZaN:GE:=.tup [ZaM,.cstr 134]
noncomputable def ZaO:GE:=.glob 135 (.int 56 0)
noncomputable def ZaP:GE:=.tup [ZaO,Zg]
noncomputable def ZaQ:GE:=.tup [Zae,Zn]
noncomputable def ZaR:GE:=.glob 136 (.fn (.i ZaG))
noncomputable def ZaS:GE:=.call ZaR [ZM,.glob 99 Zd]
noncomputable def ZaT:GE:=.tup [Zae,Zg]
noncomputable def ZaU:GE:=.call ZaH [ZO,.glob 137 Zo]
noncomputable def f41:Fn:=.mk 0 0 [.ret (.lst [ZaB,ZaL,ZaN,ZaP,ZaQ,ZaB,ZaS,ZaT,ZaC,.tup [ZaK,Zp],ZaN,.tup [ZaO,.cint 4],.tup [Zae,Zp],ZaC,ZaS,.tup [Zae,.cint 4],ZaU,Zaw])]
noncomputable def ZaV:GE:=.glob 138 Zh
noncomputable def ZaW:GE:=.tup [ZaE]
noncomputable def ZaX:Ps:=.o (.o (.i (.o .h)))
noncomputable def ZaY:GE:=.tup [ZO]
noncomputable def ZaZ:V:=.int 20 0
noncomputable def Za0:V:=.int 22 0
noncomputable def Za1:GE:=.glob 171 (.fn ZaG)
noncomputable def f42:Fn:=.mk 1 2 [.assign 1 (.tup [ZO,ZO]),.expr (.call Zay [Za,.glob 137 Zo,ZaV,.cstr 139,.glob 118 Zt,ZO,Zc,.glob 140 Zt]),.expr (.call Zay [Za,.glob 141 Zm,ZaV,.cstr 126,ZY,ZaE,Zq,.glob 142 Zd]),.expr (.call Zay [Za,.glob 143 ZL,ZaV,.cstr 144,ZY,.glob 145 Zd,ZaW,.glob 146 Ze]),.expr (.call Zay [Za,.glob 147 ZN,ZaV,.cstr 148,.glob 149 (.int 129 0),ZJ,Zc,.glob 150 Zh]),.expr (.call Zas [Za,.glob 151 ZF,ZaV,.cstr 152,.glob 149 (.int 129 0),ZJ,Zc,Zg,.call (.glob 153 (.fn (.i ZaX))) [ZO,.glob 147 ZN]]),.expr (.call Zay [Za,.glob 154 (.int 15 0),ZaV,.cstr 104,Zab,ZJ,.tup [ZM],.glob 155 Zj]),.expr (.call Zay [Za,.glob 156 (.int 16 0),ZaV,.cstr 108,Zab,ZaE,Zq,.glob 157 Zx]),.expr (.call Zas [Za,.glob 158 (.int 17 0),ZaV,.cstr 100,Zab,ZO,Zq,Zn,.lst [ZaB,Zaw]]),.expr (.call Zay [Za,.glob 159 (.int 18 0),ZaV,.cstr 160,Zb,ZO,.tup [ZaE,ZaE],.glob 161 Zy]),.expr (.call Zay [Za,.glob 162 (.int 19 0),ZaV,.cstr 163,Zb,ZaE,ZaY,.glob 164 Zk]),.expr (.call Zas [Za,.glob 165 ZaZ,ZaV,.cstr 139,.glob 118 Zt,ZO,.tup [ZM,ZM],Zg,.call (.glob 166 (.fn (.o Z1))) []]),.expr (.call Zay [Za,.glob 167 (.int 105 0),ZaV,.cstr 168,.glob 169 Za0,ZaE,ZaY,.glob 170 Zl]),.expr (.call Za1 [Za,ZaV,.call Zaa [Z8,.glob 172 (.int 48 0),ZaY]]),.expr (.call ZaF [Za,ZaV,.cstr 129,ZaE,.glob 141 Zm,Zb,Zq]),.expr (.call ZaF [Za,ZaV,.cstr 173,.glob 145 Zd,.glob 143 ZL,Zb,ZaW])]
noncomputable def Za2:GE:=.glob 174 Zy
noncomputable def f43:Fn:=.mk 2 2 [.ret (.tup [.call Zar [Za,Za2],Zc])]
noncomputable def Za3:GE:=.glob 175 (.int 123 0)
noncomputable def Za4:GE:=.call (.glob 176 (.fn (.o Zaf))) [Za,.glob 177 Zt]
noncomputable def Za5:GE:=.glob 178 (.int 37 0)
noncomputable def f44:Fn:=.mk 1 1 [.ret (.lst [ZaB,.tup [Za3,Za4],.tup [Za5,Zb],ZaL,.tup [.glob 179 (.int 38 0),Zb],.tup [ZaM,.cstr 180],ZaB,.call ZaH [ZM,.glob 99 Zd],ZaU,.tup [ZaM,.cstr 181],ZaU,ZaQ,Zaw])]
noncomputable def Za6:GS:=.assign 1 (.call Zar [Za,Za2])
noncomputable def Za7:GE:=.glob 182 (.int 65038 0)
noncomputable def Za8:GE:=.tup [Za7,Zb]
noncomputable def Za9:GE:=.glob 183 (.int 24 0)
noncomputable def Zba:GE:=.glob 184 (.int 65036 0)
noncomputable def Zbb:GE:=.tup [Zba,Zn]
noncomputable def Zbc:GE:=.glob 185 (.int 57 0)
noncomputable def Zbd:GE:=.tup [Zba,Zb]
noncomputable def Zbe:GE:=.call (.glob 176 (.fn (.o Zaf))) [Za,.glob 187 Zd]
noncomputable def f45:Fn:=.mk 1 2 [Za6,.ret (.lst [ZaB,.call ZaH [ZM,.glob 99 Zd],Za8,ZaB,.call ZaR [Zc,Za9],.tup [Za7,Zn],Zbb,.tup [Zbc,Zn],Zbb,.call ZaH [ZO,.glob 141 Zm],.tup [Zbc,Zn],Zbd,.tup [ZaM,.cstr 186],ZaU,Zbb,ZaU,Za8,ZaQ,ZaB,.tup [Za3,Zbe],.tup [Zbc,Zg],Zbd,.tup [ZaM,.cstr 188],ZaU,ZaB,.tup [Za3,Zbe],ZaS,ZaU,Za8,ZaT,Zbd,Zaw])]
noncomputable def Zbf:GE:=.call ZaH [ZM,.glob 95 Zt]
noncomputable def Zbg:GE:=.glob 189 (.int 125 0)
noncomputable def Zbh:GE:=.glob 190 (.int 21 0)
noncomputable def f46:Fn:=.mk 1 6 [Za6,.assign 2 (.lst [ZaB,Zbf]),.assign 3 (.lst [ZaB,ZaC,.tup [Zbg,Za4]]),.assign 4 (.lst [ZaB,.tup [ZaA,Zg],.tup [Zbg,Zbe]]),.assign 5 Zau,.expr (.call Zas [Za,Zbh,Za2,Zat,ZV,ZE,Zq,Zn,.bin .add Zv Zax]),.expr (.call Zas [Za,.glob 191 Za0,Za2,Zat,ZV,ZE,ZaY,Zg,.bin .add (.bin .add Zv Zw) Zax]),.expr (.call Zas [Za,.glob 192 (.int 23 0),Za2,Zat,ZV,ZE,.tup [ZO,Zc],Zg,.bin .add (.bin .add (.bin .add Zv Zw) ZU) Zax])]
noncomputable def f47:Fn:=.mk 1 2 [Za6,.expr (.call Zas [Za,Za9,Za2,.cstr 193,.bin .add Zaz ZY,ZO,Zq,Zg,.call (.glob 194 (.fn (.i Zaf))) [Za]]),.expr (.call Zas [Za,.glob 195 (.int 25 0),Za2,.cstr 196,ZY,Zc,Zq,Zn,.lst [ZaB,.tup [Za3,Zbe],Zaw]]),.expr (.call Zag [Za,.glob 197 (.int 26 0),Za2,.cstr 100,Zah,Zab,ZO,Zq]),.expr (.call Zak [Za,.glob 197 (.int 26 0),.tup [ZO,ZO],Zg,.call Zal [.call (.glob 198 (.fn (.o Z2))) [Za]],ZP]),.expr (.call ZaF [Za,Za2,.cstr 199,ZO,Za9,Zb,Zq]),.expr (.call ZaF [Za,Za2,.cstr 200,Zc,.glob 195 (.int 25 0),Zb,Zq])]
noncomputable def Zbi:Ps:=.o (.o (.i (.i .h)))
noncomputable def f48:Fn:=.mk 1 1 [.ifs (.cmp .eq Za Za2) [.ret Zbh] [],.ret (.call (.glob 201 (.fn Zbi)) [Za,Zb])]
noncomputable def Zbj:GE:=.call (.glob 203 (.fn (.i Zaj))) [Zc]
noncomputable def f49:Fn:=.mk 2 5 [.assign 2 (.attr ZR 202),.assign 3 (.call (.glob 203 (.fn (.i Zaj))) [.call (.glob 204 (.fn (.o (.i (.i .h))))) [Z8,Zv]]),.assign 4 Zau,.expr (.call Zas [Za,Zbj,Zc,Zat,ZU,ZE,Zq,Zn,.lst [ZaB,.call ZaH [Zv,Zw],Zaw]]),.expr (.call Zas [Za,.bin .add Zbj Zn,Zc,Zat,ZU,ZE,ZaY,Zg,.lst [ZaB,ZaC,.call ZaH [Zv,.bin .add Zw Zn],Zaw]])]
noncomputable def Zbk:GE:=.glob 205 (.fn ZaX)
noncomputable def Zbl:GE:=.glob 207 Zt
noncomputable def f50:Fn:=.mk 1 2 [.expr (.call Zbk [Za,.glob 177 Zt,Za2,.cstr 206,ZO,Zbl,Zb]),.expr (.call Zbk [Za,.glob 187 Zd,Za2,.cstr 208,.call Zar [Za,Za2],Zbl,Zb]),.expr (.call (.glob 209 (.fn (.i Z2))) [Za]),.expr (.call (.glob 210 (.fn (.o Zaj))) [Za]),.forR 1 [.glob 70 (.int 21 0),.bin .add (.glob 211 (.int 33 0)) Zn] [.expr (.call (.glob 212 (.fn (.o Zam))) [Za,Zc])]]
noncomputable def Zbm:GE:=.glob 213 (.int 115 0)
noncomputable def Zbn:GE:=.glob 214 (.int 122 0)
noncomputable def f51:Fn:=.mk 3 3 [.ret (.lst [.tup [ZaM,Zv],.tup [Zbm,.tup [.call Zar [Za,Zc],.bin .add Zbj Zn,Zq]],.tup [Zbn,Zb]])]
noncomputable def Zbo:Ps:=.i (.o (.i (.i .h)))
noncomputable def Zbp:GE:=.glob 216 Zk
noncomputable def Zbq:GE:=.call (.glob 215 (.fn Zbo)) [Za,Zbp]
noncomputable def Zbr:GE:=.glob 217 (.int 124 0)
noncomputable def Zbs:GE:=.glob 219 (.int 65046 0)
noncomputable def Zbt:GE:=.call Z7 [Z8,Zb]
noncomputable def f52:Fn:=.mk 3 4 [.assign 3 Zbq,.ret (.bin .add (.bin .add (.lst [ZaB,.tup [Zbr,.tup [Zw,.glob 218 Zy]]]) Zv) (.lst [.tup [Zbs,Zbt],.call ZaR [ZM,Zc],Zaw]))]
noncomputable def Zbu:GE:=.glob 222 (.fn (.i Z6))
noncomputable def f53:Fn:=.mk 1 3 [.assign 1 (.lst [ZaB,.tup [Za3,.tup [Zbq,.glob 220 Zx]],ZaL]),.expr (.call Zas [Za,.glob 221 (.int 208 0),Zbp,.cstr 100,Zab,ZO,Zq,Zn,.bin .add (.bin .add Zc (.lst [ZaN,Zaw,ZaQ])) (.call Zbu [Za,.glob 99 Zd,ZP])]),.assign 2 (.bin .add Zc (.lst [ZaC,.tup [.glob 223 ZaZ,Zb],ZaD,Zaw,ZaQ,ZaC,.tup [ZaK,Zg],ZaJ,Zaw,ZaT])),.expr (.call Zas [Za,.glob 224 (.int 209 0),Zbp,.cstr 104,Zab,ZJ,.tup [ZM],Zg,.bin .add Zv (.call Zbu [Za,.glob 103 Ze,.lst [ZaC]])]),.expr (.call Zas [Za,.glob 225 (.int 210 0),Zbp,.cstr 108,Zab,ZaE,Zq,Zn,.bin .add (.bin .add Zc (.lst [ZaJ,Zaw,ZaQ])) (.call Zbu [Za,.glob 107 Zh,ZP])])]
noncomputable def Zbv:GS:=.assign 1 Zbt
noncomputable def Zbw:GE:=.tup [Zc]
noncomputable def Zbx:GE:=.tup [ZaI,Zn]
noncomputable def Zby:GE:=.glob 231 (.fn (.o Z6))
noncomputable def f54:Fn:=.mk 1 6 [Zbv,.assign 2 Zbq,.assign 3 (.tup [Zv,.glob 220 Zx]),.assign 4 (.tup [Zv,.glob 218 Zy]),.expr (.call Zbk [Za,.glob 220 Zx,Zbp,.cstr 226,ZJ,Zbl,Zb]),.expr (.call Zbk [Za,.glob 218 Zy,Zbp,.cstr 227,Zc,Zbl,Zb]),.expr (.call Zas [Za,.glob 228 (.int 65 0),Zbp,Zat,Zau,ZE,Zbw,Zg,.lst [ZaB,ZaC,.tup [Zbg,ZU],ZaB,Zbx,.tup [Zbg,Zw],Zaw]]),.expr (.call Zas [Za,.glob 229 (.int 66 0),Zbp,.cstr 230,ZY,ZJ,Zq,Zn,.lst [ZaB,.tup [Za3,Zw],Zaw]]),.assign 5 (.bin .add (.lst [ZaB,.tup [Za3,Zw],ZaL]) (.call Zby [Za,.glob 232 (.int 29 0),.glob 233 (.str 234)])),.expr (.call Zas [Za,.glob 235 (.int 67 0),Zbp,.cstr 236,ZY,Zc,Zq,Zn,.bin .add ZV (.lst [ZaQ,ZaB,.tup [Za3,ZU],Zaw])]),.expr (.call Zas [Za,.glob 237 (.int 68 0),Zbp,.cstr 238,Zb,Zc,Zq,Zn,.lst [ZaB,.tup [Za3,ZU],Zaw]]),.expr (.call (.glob 239 (.fn (.o Zan))) [Za]),.expr (.call ZaF [Za,Zbp,.cstr 240,ZJ,.glob 229 (.int 66 0),Zb,Zq]),.expr (.call ZaF [Za,Zbp,.cstr 241,Zc,.glob 235 (.int 67 0),Zb,Zq])]
noncomputable def f55:Fn:=.mk 7 7 [.expr (.call Zag [Za,Zc,Zv,Zw,Zah,.bin .add (.glob 242 ZF) ZU,ZV,ZW])]
noncomputable def Zbz:GE:=.glob 243 (.fn (.o Zbi))
noncomputable def ZbA:GE:=.glob 250 (.int 36 0)
noncomputable def ZbB:GE:=.call Zaa [Z8,ZbA,Zbw]
noncomputable def f56:Fn:=.mk 1 2 [Zbv,.expr (.call Zbz [Za,.glob 244 (.int 106 0),.glob 245 (.int 34 0),.cstr 246,Zb,ZE,Zq]),.expr (.call Zbz [Za,.glob 247 (.int 107 0),.glob 248 (.int 35 0),.cstr 249,Zb,ZbB,Zq]),.expr (.call Zbz [Za,.glob 251 (.int 108 0),ZbA,.cstr 252,ZY,Zc,Zq]),.expr (.call Zbz [Za,.glob 253 (.int 109 0),ZbA,.cstr 254,Zb,ZJ,Zq]),.expr (.call Zbz [Za,.glob 255 (.int 111 0),.glob 172 (.int 48 0),.cstr 168,Zb,ZaE,Zbw]),.expr (.call Za1 [Za,ZbA,.call Zar [Za,.glob 245 (.int 34 0)]]),.expr (.call ZaF [Za,ZbA,.cstr 256,Zc,.glob 251 (.int 108 0),Zb,Zq])]
noncomputable def ZbC:GE:=.glob 257 (.int 37 0)
noncomputable def ZbD:GE:=.call (.glob 215 (.fn Zbo)) [Za,ZbC]
noncomputable def f57:Fn:=.mk 1 1 [.ret (.lst [ZaB,.tup [Za3,.tup [ZbD,.glob 258 Zk]]])]
noncomputable def ZbE:GE:=.glob 259 Zl
noncomputable def f58:Fn:=.mk 1 1 [.ret (.lst [ZaB,.tup [Za3,.tup [ZbD,ZbE]]])]
noncomputable def f59:Fn:=.mk 3 4 [.assign 3 (.tup [ZbD,Zc]),.ret (.lst [ZaB,ZaB,.tup [Za3,Zw],Zbx,.tup [Zv,Zb],.tup [Zbg,Zw]])]
noncomputable def f60:Fn:=.mk 2 2 [.ret (.lst [.tup [Zba,Za],Zbx,.tup [Zc,Zb],.tup [Za7,Za]])]
noncomputable def ZbF:GE:=.call (.glob 260 (.fn (.i Zbo))) [Za]
noncomputable def ZbG:GE:=.glob 261 (.int 68 0)
noncomputable def f61:Fn:=.mk 1 2 [.assign 1 (.bin .add (.bin .add (.lst [ZaC]) ZbF) (.lst [.tup [ZbG,.cint 90]])),.ret (.bin .add (.bin .add Zc (.call Zby [Za,.glob 262 (.int 32 0),.glob 263 (.str 264)])) (.lst [.tup [Zae,.cint 90]]))]
noncomputable def f62:Fn:=.mk 10 10 [.expr (.call Zag [Za,Zc,ZbC,Zv,Zw,ZU,ZV,ZW]),.expr (.call Zak [Za,Zc,ZS,Z0,.call Zal [.loc 9],ZP])]
noncomputable def ZbH:GE:=.call (.glob 265 (.fn (.o Zbo))) [Za]
noncomputable def ZbI:GE:=.glob 266 (.int 142 0)
noncomputable def ZbJ:GE:=.glob 267 (.int 105 0)
noncomputable def ZbK:GE:=.glob 268 (.int 63 0)
noncomputable def ZbL:GE:=.bin .add Zv ZbF
noncomputable def ZbM:GE:=.glob 271 (.int 141 0)
noncomputable def ZbN:GE:=.bin .add Zv ZbH
noncomputable def ZbO:GE:=.glob 272 (.int 163 0)
noncomputable def ZbP:GE:=.tup [ZbO,Zc]
noncomputable def ZbQ:GE:=.glob 273 (.int 164 0)
noncomputable def ZbR:GE:=.tup [ZbQ,Zc]
noncomputable def ZbS:GE:=.glob 274 (.fn (.i Z9))
noncomputable def ZbT:GE:=.glob 275 (.int 88 0)
noncomputable def f63:Fn:=.mk 1 3 [Zbv,.assign 2 (.bin .add (.bin .add ZbF ZbH) (.lst [.tup [ZbI,Zb],.tup [ZbJ,Zb],.tup [ZbK,.cint 9]])),.assign 2 (.bin .add ZbL (.lst [ZaL,.tup [ZaI,.glob 269 Zh],ZaP,ZaQ])),.assign 2 (.bin .add ZbL (.lst [.tup [ZaI,Zg],.tup [.glob 270 (.int 90 0),Zb],ZaT,.tup [ZbM,Zc],Za8])),.assign 2 (.bin .add Zv (.lst [ZaJ,.tup [Za7,Zn],.tup [ZaO,.cint 4],.tup [Zae,Zp],Zbd,Zbb])),.assign 2 (.bin .add (.bin .add ZbN (.lst [Zbb,ZbP,ZbR])) (.call ZbS [Zn,ZbT])),.assign 2 (.bin .add (.bin .add (.bin .add Zv (.lst [.tup [Zae,.cint 4],Zbb])) ZbF) (.lst [.tup [ZbK,Zp]])),.assign 2 (.bin .add Zv (.lst [ZaB,Zbd,.tup [Zbg,.tup [ZbD,.glob 258 Zk]]])),.ret (.bin .add Zv (.lst [.tup [Zae,.cint 9],Zaw]))]
noncomputable def ZbU:GE:=.glob 276 (.int 206 0)
noncomputable def ZbV:GE:=.glob 277 (.fn (.o Z9))
noncomputable def ZbW:GS:=.ret (.bin .add (.bin .add (.bin .add Zv (.call ZbV [Za,ZbE,ZbT])) (.call ZbV [Za,.glob 278 Zo,ZbT])) Zax)
noncomputable def f64:Fn:=.mk 1 3 [Zbv,.assign 2 (.bin .add (.lst [ZaB,.call ZaH [ZbD,ZbU]]) ZbH),.assign 2 (.bin .add ZbL (.lst [ZaC,ZbR])),ZbW]
noncomputable def ZbX:GE:=.call (.glob 279 (.fn (.o Z4))) [Za]
noncomputable def ZbY:GS:=.ret (.bin .add (.bin .add Zv (.call ZbV [Za,.glob 278 Zo,ZbT])) Zax)
noncomputable def f65:Fn:=.mk 1 3 [Zbv,.assign 2 (.bin .add (.bin .add ZbX ZbH) (.lst [ZaC,.tup [ZaA,Zg],ZbR])),ZbY]
noncomputable def ZbZ:GE:=.glob 280 (.int 89 0)
noncomputable def Zb0:GS:=.assign 2 (.bin .add (.bin .add ZbN (.lst [Zbd])) ZbH)
noncomputable def Zb1:GS:=.assign 2 (.bin .add (.bin .add (.bin .add (.bin .add Zv (.call ZbS [Zb,ZbT])) (.lst [ZaT,Zbd])) ZbF) (.lst [.tup [ZbK,Zn]]))
noncomputable def f66:Fn:=.mk 1 3 [Zbv,.assign 2 (.bin .add (.bin .add ZbX (.call ZbV [Za,ZbE,ZbZ])) (.lst [ZaC,Za8,ZaP,ZaQ])),Zb0,.assign 2 (.bin .add Zv (.lst [Zbd,Zbx,.tup [ZbT,Zb],ZbP,ZbR])),Zb1,.assign 2 (.bin .add (.bin .add ZbN ZbF) (.lst [Zbb,ZbR])),ZbY]
noncomputable def Zb2:GE:=.glob 281 (.int 67 0)
noncomputable def f67:Fn:=.mk 1 3 [Zbv,.assign 2 (.bin .add (.bin .add (.bin .add (.lst [ZaC]) ZbF) (.lst [.tup [Zb2,.cint 90]])) (.call Zby [Za,.glob 262 (.int 32 0),.glob 282 (.str 283)])),.assign 2 (.bin .add Zv (.lst [.tup [Zae,.cint 90],ZaB,.call ZaH [ZbD,ZbU]])),.assign 2 (.bin .add ZbL (.lst [Za8,ZaP,ZaQ])),Zb0,.assign 2 (.bin .add Zv (.lst [Zbd,Zbx,.tup [ZbZ,Zb],ZbP,ZbR])),.assign 2 (.bin .add (.bin .add Zv (.call ZbS [Zb,ZbZ])) (.lst [ZaT,ZaC,Zbd,.tup [ZbK,Zn]])),.assign 2 (.bin .add ZbN (.lst [ZaC,.tup [ZaA,Zg],ZbR])),ZbW]
noncomputable def f68:Fn:=.mk 1 3 [Zbv,.assign 2 (.bin .add (.bin .add (.lst [ZaP,ZaQ]) ZbH) (.lst [Zbd,Zbb,ZbR])),Zb1,.assign 2 (.bin .add Zv (.lst [ZaB,ZaJ,.tup [Zbg,.tup [ZbD,ZbE]]])),ZbY]
noncomputable def Zb3:GE:=.glob 284 (.int 140 0)
noncomputable def f69:Fn:=.mk 1 3 [Zbv,.assign 2 (.bin .add (.lst [.tup [ZaO,.cint 4],ZaQ]) ZbH),.assign 2 (.bin .add Zv (.lst [Zbd,ZbP,.tup [Zb3,Zc],.tup [Za7,Zn],Zbb,.tup [ZaK,Zg],ZaC,.tup [Zb3,Zc],.tup [Zbc,.cint 5],.tup [ZaO,Zp],ZaT,ZaC,.tup [Zb3,Zc],.tup [Zbc,Zp],Zbb,ZaC,.tup [Zb3,Zc],.tup [Zap,.tup [ZM,.glob 103 Ze,Zq]],.tup [ZaK,.cint 5],.tup [Zae,Zp]])),.assign 2 (.bin .add (.bin .add (.bin .add (.bin .add Zv (.call ZbS [Zb,ZbT])) (.lst [.tup [Zae,.cint 4],Zbd])) ZbF) (.lst [.tup [ZbK,Zn]])),.ret (.bin .add Zv (.lst [ZaJ,Zaw,.tup [Zae,.cint 5],Zbx,Zaw]))]
noncomputable def Zb4:GE:=.glob 286 (.fn (.i (.i (.o .h))))
noncomputable def f70:Fn:=.mk 1 1 [.expr (.call Zbk [Za,.glob 258 Zk,ZbC,.cstr 285,.call Zb4 [Z8,Zbt],.glob 287 Ze,Zb]),.expr (.call Zbk [Za,ZbE,ZbC,.cstr 288,ZaE,.glob 287 Ze,Zb]),.expr (.call Zbk [Za,.glob 278 Zo,ZbC,.cstr 289,ZaE,.glob 287 Ze,Zb])]
noncomputable def Zb5:GE:=.glob 290 (.int 55 0)
noncomputable def Zb6:GE:=.glob 291 (.fn (.i Z4))
noncomputable def Zb7:GE:=.glob 302 (.int 134 0)
noncomputable def f71:Fn:=.mk 1 6 [Zbv,.assign 2 ZbD,.assign 3 (.call Zaa [Z8,Zb5,Zbw]),.assign 4 (.lst [ZaB,Zbf,ZaB,ZaJ,.tup [ZbM,Zc],.tup [Zbg,.tup [Zv,.glob 258 Zk]],Zaw]),.expr (.call Zb6 [Za,.glob 292 (.int 124 0),Zat,Zah,Zau,ZE,Zq,Zq,Zg,ZU]),.expr (.call Zb6 [Za,.glob 293 (.int 126 0),.cstr 294,Zah,ZY,ZaE,Zq,Zq,Zn,.bin .add ZbF Zax]),.assign 5 (.bin .add (.bin .add ZbX ZbH) (.lst [ZaC,ZbP,Zaw])),.expr (.call Zb6 [Za,.glob 295 (.int 127 0),.cstr 296,Zah,ZY,Zc,ZaW,Zq,Zg,ZV]),.expr (.call Zb6 [Za,.glob 297 (.int 131 0),.cstr 298,Zah,Zb,ZJ,Zbw,.tup [ZaE,ZM],Zg,.call (.glob 299 (.fn (.o (.i (.i ZB))))) [Za]]),.expr (.call Zb6 [Za,.glob 300 (.int 132 0),.cstr 249,Zah,.glob 301 Za0,ZbB,Zq,Zq,Zn,.lst [ZaB,.tup [Zbm,.tup [Zw,Zb7,Zq]],Zaw]])]
noncomputable def f72:Fn:=.mk 1 3 [Zbv,.assign 2 (.call Zb4 [Z8,Zc]),.expr (.call Zb6 [Za,ZbU,.cstr 303,Zbl,Zb,ZE,Zq,.tup [Zv,ZaE],.cint 4,.call (.glob 304 (.fn (.o (.o (.o ZB))))) [Za]]),.expr (.call Zb6 [Za,.glob 305 (.int 125 0),.cstr 306,Zah,Zb,ZE,Zbw,Zq,Zp,.call (.glob 307 (.fn (.i (.o (.o ZB))))) [Za]]),.expr (.call Zb6 [Za,.glob 308 (.int 128 0),.cstr 309,Zah,ZY,ZE,.tup [ZaE,Zc],Zq,Zp,.call (.glob 310 (.fn (.o (.i (.o ZB))))) [Za]]),.expr (.call Zb6 [Za,.glob 311 (.int 129 0),.cstr 312,Zah,Zb,ZE,ZaW,.tup [ZaE,Zc],.cint 5,.call (.glob 313 (.fn (.i (.i (.o ZB))))) [Za]]),.expr (.call Zb6 [Za,.glob 314 (.int 133 0),.cstr 315,Zah,Zb,ZE,.tup [ZaE,Zc],ZaW,.cint 5,.call (.glob 316 (.fn (.o (.o (.i ZB))))) [Za]]),.expr (.call Zb6 [Za,.glob 317 (.int 130 0),.cstr 318,Zah,Zb,ZE,Zq,.tup [ZaE,Zc],Zp,.call (.glob 319 (.fn (.i (.o (.i ZB))))) [Za]])]
noncomputable def f73:Fn:=.mk 9 9 [.expr (.call Zag [Za,Zc,Zb5,Zv,Zah,Zw,ZU,ZV]),.expr (.call Zak [Za,Zc,ZW,ZS,.call Zal [Z0],ZP])]
noncomputable def Zb8:GE:=.call (.glob 215 (.fn Zbo)) [Za,Zb5]
noncomputable def f74:Fn:=.mk 2 2 [.ret (.lst [ZaB,.tup [Za3,.tup [Zb8,Zc]]])]
noncomputable def Zb9:GE:=.glob 320 (.fn (.i (.i Zaq)))
noncomputable def f75:Fn:=.mk 2 2 [.ret (.bin .add (.call Zb9 [Za,.glob 321 ZaZ]) (.lst [.tup [Za3,.tup [ZbD,Zc]]]))]
noncomputable def Zca:GE:=.glob 322 (.int 23 0)
noncomputable def f76:Fn:=.mk 1 3 [.assign 1 Zb8,.assign 2 (.tup [ZbD,.glob 278 Zo]),.ret (.lst [ZaB,Zbf,ZaB,ZaC,.tup [Zbg,.tup [Zc,.glob 321 ZaZ]],ZaB,ZaC,.tup [Za3,Zv],.tup [Zbg,.tup [Zc,Zca]],Zaw])]
noncomputable def Zcb:GE:=.glob 323 (.fn (.o (.o ZaG)))
noncomputable def Zcc:GE:=.glob 324 (.int 59 0)
noncomputable def Zcd:GE:=.glob 327 (.int 21 0)
noncomputable def Zce:GE:=.glob 328 (.int 62 0)
noncomputable def f77:Fn:=.mk 1 4 [.assign 1 Zb8,.assign 2 Zbt,.assign 3 (.bin .add (.bin .add (.call Zb9 [Za,Zca]) (.call Zcb [Za,.glob 278 Zo])) (.lst [.tup [Zcc,Zn]])),.assign 3 (.bin .add (.bin .add Zw (.call Zby [Za,.glob 232 (.int 29 0),.glob 325 (.str 326)])) (.lst [ZaQ])),.assign 3 (.bin .add (.bin .add (.bin .add Zw (.call Zcb [Za,ZbE])) (.call Zb9 [Za,Zcd])) (.lst [.tup [Zce,Zg],ZaB])),.assign 3 (.bin .add (.bin .add Zw (.call Zcb [Za,.glob 258 Zk])) (.call Zb9 [Za,Zcd])),.assign 3 (.bin .add Zw (.lst [.tup [ZbO,Zv],.tup [Zbg,.tup [Zc,.glob 329 Za0]],ZaB])),.assign 3 (.bin .add (.bin .add Zw (.call Zb9 [Za,Zcd])) (.lst [Zbx,.tup [ZbT,Zb],.tup [Zbg,.tup [Zc,Zcd]]])),.assign 3 (.bin .add Zw (.lst [Zbx,Zaw,ZaT])),.ret (.bin .add Zw (.lst [ZaB,Zbd,.tup [Zbg,.tup [Zc,.glob 329 Za0]],ZaJ,Zaw]))]
noncomputable def Zcf:GE:=.glob 333 (.fn (.o (.i Zaq)))
noncomputable def f78:Fn:=.mk 1 3 [Zbv,.assign 2 ZbD,.expr (.call Zbk [Za,.glob 321 ZaZ,Zb5,.cstr 330,Zv,Zbl,Zb]),.expr (.call Zbk [Za,Zcd,Zb5,.cstr 331,ZaE,Zbl,Zb]),.expr (.call Zbk [Za,.glob 329 Za0,Zb5,.cstr 332,Zc,Zbl,Zb]),.expr (.call Zbk [Za,Zca,Zb5,.cstr 289,ZaE,Zbl,Zb]),.expr (.call Zcf [Za,Zb7,Zat,Zau,ZE,.tup [Zv],Zq,Zg,.call (.glob 334 (.fn (.i (.o ZaG)))) [Za]]),.expr (.call Zcf [Za,.glob 335 (.int 135 0),.cstr 254,.glob 301 Za0,ZJ,Zq,Zbw,Zp,.call (.glob 336 (.fn (.o (.i ZaG)))) [Za]]),.expr (.call Zcf [Za,.glob 337 (.int 136 0),.cstr 252,.bin .add (.glob 301 Za0) ZY,Zc,Zq,Zq,Zn,.bin .add (.call Zb9 [Za,.glob 329 Za0]) Zax]),.expr (.call Zcf [Za,.glob 338 (.int 137 0),.cstr 246,.glob 301 Za0,ZE,Zq,Zq,Zb,Zax]),.expr (.call Za1 [Za,Zb5,ZbB]),.expr (.call ZaF [Za,Zb5,.cstr 256,Zc,.glob 337 (.int 136 0),Zb,Zq])]
noncomputable def f79:Fn:=.mk 1 2 [Zbv,.expr (.call (.glob 339 (.fn (.i (.i (.i ZB))))) [Za]),.expr (.call (.glob 340 (.fn (.o (.o Zaq)))) [Za]),.expr (.call (.glob 341 (.fn (.i (.o Zaq)))) [Za]),.expr (.call Za1 [Za,ZbC,.call Zaa [Z8,.glob 248 (.int 35 0),Zbw]]),.expr (.call ZaF [Za,ZbC,.cstr 342,ZaE,.glob 293 (.int 126 0),Zb,Zq]),.expr (.call ZaF [Za,ZbC,.cstr 173,Zc,.glob 295 (.int 127 0),.glob 308 (.int 128 0),ZaW]),.expr (.call (.glob 343 (.fn (.i (.i ZaG)))) [Za])]
noncomputable def Zcg:GE:=.glob 344 (.int 21 0)
noncomputable def Zch:List GE:=[Zcg,.bin .add (.glob 345 (.int 33 0)) Zn]
noncomputable def f80:Fn:=.mk 1 1 [.ret (.sub (.tup [ZP,.lst [.cint 8],.bin .add (.lst [.cint 7]) (.compR Za Zch),.lst [.cint 4],.lst [Zn,Zg,.cint 5],.lst [.cint 34,.cint 35,.cint 36,.cint 48]]) Za)]
noncomputable def f81:Fn:=.mk 1 2 [.assign 1 (.compR (.bin .add (.cint 30) Za) [.cint 26]),.ret (.sub (.tup [ZP,.lst [.cint 65,.cint 66,.cint 67,.cint 68,.cint 208,.cint 209,.cint 210],.bin .add (.lst [.cint 21,.cint 22,.cint 23,.cint 24,.cint 25,.cint 26]) Zc,.lst [.cint 14,.cint 17,.cint 20],.lst [Zn,Zp,.cint 6,.cint 7],ZP]) Za)]
noncomputable def f82:Fn:=.mk 2 2 [.ifs (.cmp .eq Zc Zb) [.ret (.bmeth (.dct [(.cint 25,.cint 24),(.cint 26,.cint 24),(.cint 32,.cint 31)]) .get [Za,.cint 7])] [],.ifs (.or [.cmp .eq Za Zcg,.cmp .eq (.bin .mod (.bin .add Za Zc) Zp) Zb]) [.ret (.cint 7)] [],.ret (.bin .add Zcg (.bin .mod (.bin .mul Za Zc) (.bin .sub Za Zcg)))]
noncomputable def f83:Fn:=.mk 2 2 [.ifs (.cmp .eq Zc Zn) [.expr (.call (.glob 346 (.fn (.i Zan))) [Za])] [.ifs (.cmp .eq Zc Zg) [.expr (.call (.glob 347 (.fn (.i Zam))) [Za])] [.ifs (.cmp .eq Zc Zp) [.expr (.call (.glob 348 (.fn (.i Z1))) [Za])] [.ifs (.cmp .eq Zc (.cint 4)) [.expr (.call (.glob 349 (.fn (.o ZaX))) [Za])] [.ifs (.cmp .eq Zc (.cint 5)) [.expr (.call (.glob 350 (.fn (.i Zbi))) [Za])] []]]]]]
noncomputable def Zci:GE:=.lst [.cnone]
noncomputable def Zcj:GE:=.loc 12
noncomputable def f84:Fn:=.mk 3 17 [.assign 3 (.call (.glob 351 (.cls ZB)) []),.assign 4 (.attr Zw 72),.forR 5 [Za] [.expr (.call Zb4 [ZU,.sub (.tup [.glob 352 Zl,ZO,ZM]) ZV])],.setattr Zw 39 (.bin .mul Zci (.cint 64)),.setattr Zw 42 (.bin .mul Zci (.bin .add (.glob 41 (.int 63 0)) Zn)),.setattr Zw 50 (.bin .mul Zci (.bin .add (.glob 49 (.int 255 0)) Zn)),.assign 6 (.call Z7 [ZU,Zb]),.assign 7 (.dct [(Z5,ZM),(ZaV,ZO),(Zbp,.call (.glob 77 (.fn (.i (.o (.o .h))))) [ZU,Zbp,.tup [ZW]]),(ZbC,.call Zaa [ZU,ZbC,.tup [ZW]]),(Zb5,.call Zaa [ZU,Zb5,.tup [ZW]]),(Za2,.call Zaa [ZU,Za2,Zq])]),.assign 8 (.sub ZS Za2),.assign 9 (.dct [(.sub ZS Zb5,.lst [.call Zaa [ZU,ZbA,.tup [ZW]]]),(Z0,ZP)]),.assign 10 (.dct [(ZbC,ZM),(Zb5,ZM),(Za2,ZM)]),.assign 11 (.dct [(.glob 95 Zt,.tup [ZM,Zb,Zn,ZE,Zq]),(.glob 99 Zd,.tup [ZM,Zb,Zb,ZO,Zq]),(.glob 103 Ze,.tup [ZM,Zb,Zb,ZJ,.tup [ZM]]),(.glob 107 Zh,.tup [ZM,Zb,Zb,ZaE,Zq]),(.glob 137 Zo,.tup [ZO,Zn,Zb,ZO,.tup [ZO,ZO]]),(.glob 141 Zm,.tup [ZO,Zb,Zb,ZaE,Zq]),(.glob 147 ZN,.tup [ZO,Zn,Zb,ZJ,.tup [ZO,ZO]]),(Zbh,.tup [Z0,Zb,Zn,ZE,Zq]),(.glob 191 Za0,.tup [Z0,Zb,Zn,ZE,ZaY]),(Za9,.tup [Z0,Zb,Zb,ZO,Zq]),(ZbU,.tup [.sub ZS ZbC,Zb,Zb,ZE,Zq]),(Zb7,.tup [.sub ZS Zb5,Zb,Zn,ZE,.tup [.sub ZS ZbC]])]),.forR 12 Zch [.assign 13 (.call Zaa [ZU,Zcj,Zq]),.assign 14 (.sub ZS (.call (.glob 353 (.fn (.i (.i ZaX)))) [Zcj,Zc])),.setsub ZS Zcj (.loc 13),.setsub (.loc 10) Zcj (.loc 14),.setsub (.loc 9) (.loc 13) (.bin .add (.lst [.loc 14]) (.sub (.loc 9) (.loc 14))),.setsub (.loc 11) (.bin .sub (.bin .mul Zg Zcj) (.cint 12)) (.tup [.loc 13,Zb,Zn,ZE,Zq]),.setsub (.loc 11) (.bin .sub (.bin .mul Zg Zcj) (.cint 11)) (.tup [.loc 13,Zb,Zn,ZE,ZaY])],.for1 12 (.bin .add (.lst [ZbC,Zb5]) (.call (.glob 354 (.fn (.i (.o ZaX)))) [Zv])) [.assign 15 (.cmp .isin Zcj (.tup [ZbC,Zb5,Zbp])),.assign 16 (.ite (.cmp .eq Zcj Zbp) (.glob 75 Zd) (.glob 355 Zt)),.setsub (.attr Zw 39) Zcj (.call (.glob 356 (.cls (.o (.o .h)))) [Zcj,.bin .add (.cstr 357) (.call (.glob 37 (.bi 4)) [Zcj]),.loc 16,Zb,.bmeth (.loc 10) .get [Zcj,Zac],.ite (.loc 15) (.tup [.cstr 357]) Zq,Zb])],.ret (.dct [(.cstr 358,Zw),(.cstr 359,ZS),(.cstr 360,.loc 9),(.cstr 361,.loc 10),(.cstr 362,.loc 11)])]
noncomputable def f85:Fn:=.mk 1 1 [.ifs (.cmp2 .le .le ZJ Za (.glob 363 Zk)) [.ret ZaE] [],.ret Za]
noncomputable def Zck:GE:=.glob 364 (.fn (.o (.i Z1)))
noncomputable def Zcl:GE:=.glob 365 (.fn (.o ZB))
noncomputable def Zcm:GE:=.attr (.sub Za (.cstr 358)) 72
noncomputable def f86:Fn:=.mk 3 3 [.assign 2 (.call Zck [Zv]),.ifs (.cmp .eq Zc Zv) [ZK] [],.ifs (.cmp .eq Zv ZM) [.ret (.call Zcl [Zcm,Zc])] [],.ret (.cmp .isin Zv (.bmeth (.sub Za (.cstr 360)) .get [Zc,ZP]))]
noncomputable def Zcn:GE:=.sub Za (.cstr 359)
noncomputable def f87:Fn:=.mk 3 4 [.assign 3 (.sub (.attr (.sub Za (.cstr 358)) 42) (.sub Zv Zn)),.ifs (.or [.cmp .is Zw .cnone,.cmp .ne (.attr Zw 56) Zb,.cmp .ne (.sub Zv Zb) (.sub Zcn (.attr Zw 44))]) [.ret Zac] [],.ifs (.and [.cmp .ne (.attr Zw 44) (.sub Zc (.cstr 44)),.cmp .lt (.attr Zw 366) (.glob 287 Ze)]) [.ret Zac] [],.ret (.attr Zw 367)]
noncomputable def Zco:GE:=.glob 368 (.fn (.o (.o (.i .h))))
noncomputable def f88:Fn:=.mk 3 3 [.ifs (.cmp .eq Zv (.sub Zcn Zbp)) [.ret (.cmp .eq Zc (.call Zco [Zcm,Zv]))] [],.ret (.cmp .eq Zc Zv)]
noncomputable def Zcp:GE:=.call Zr [ZU]
noncomputable def Zcq:GE:=.glob 370 (.fn (.i (.i Z1)))
noncomputable def f89:Fn:=.mk 4 8 [.assign 4 (.sub Zc (.cstr 369)),.assign 5 (.bmeth (.sub Za (.cstr 362)) .get [.sub Zw Zn]),.ifs (.or [.cmp .is ZV .cnone,.cmp .ne (.sub Zw Zb) (.sub ZV Zb),.cmp .ne (.sub Zw Zg) Zq,.cmp .lt Zcp (.call Zr [.sub ZV (.cint 4)])]) ZG [],.for1 6 (.rev (.sub ZV (.cint 4))) [.ifs (.not (.call Zcq [Za,.bmeth ZU .pop [],ZW])) ZG []],.ifs (.cmp .eq Zv Zbm) [.expr (.bmeth ZU .append [.sub ZV Zb]),.ret (.cmp .eq (.sub ZV Zg) Zn)] [],.ifs (.cmp .eq (.sub ZV Zn) Zb) [.ifs (.cmp .eq Zcp Zb) ZG [],.assign 7 (.bmeth ZU .pop []),.ifs (.cmp .eq (.sub ZV Zg) Zn) [.augsub Zc (.cstr 371) .add Zn,.ret (.and [.cmp .eq Zv Zao,.cmp .eq (.sub Zc (.cstr 202)) (.sub ZV Zb),.cmp .eq ZS (.sub Zcn (.sub Zc (.cstr 44)))])] [],.ifs (.cmp .ge (.sub Zc (.cstr 372)) Zb) [.ifs (.or [.cmp .ne Zv Zap,.cmp .ne (.sub ZV Zb) ZM,.cmp .ne ZS (.call Zco [Zcm,.sub Zc (.cstr 372)])]) ZG [],.setsub Zc (.cstr 372) Zac] [.ifs (.not (.call Zcq [Za,ZS,.sub ZV Zb])) ZG []]] [.ifs (.cmp .ne Zv Zao) ZG []],.ifs (.cmp .ne (.sub ZV Zp) ZE) [.expr (.bmeth ZU .append [.call Zck [.sub ZV Zp]])] [],ZK]
noncomputable def f90:Fn:=.mk 1 1 [.ifs (.cmp .isin Za (.tup [ZaA,Zba,ZaI,ZaM,.glob 223 ZaZ,ZaO,Zbs])) [.ret Zb] [],.ifs (.cmp .isin Za (.tup [Za3,Zbr,Za7,Za5,.glob 179 (.int 38 0),ZbM,ZbI,ZbJ,Zb3,ZaK,Zbc,Zbn])) [.ret Zn] [],.ifs (.cmp .eq Za ZbQ) [.ret Zp] [],.ret Zg]
noncomputable def f91:Fn:=.mk 4 4 [.ifs (.cmp .eq Zv ZaA) [.ret (.call Zck [.sub (.sub Zc (.cstr 373)) Zw])] [],.ifs (.cmp .eq Zv Zba) [.ret (.call Zck [.sub (.sub Zc (.cstr 374)) Zw])] [],.ifs (.cmp .eq Zv ZaI) [.ret (.ite (.call (.glob 375 (.bi 5)) [Zw,.glob 376 (.bi 6)]) ZaE Zac)] [],.ifs (.cmp .eq Zv ZaM) [.ret (.ite (.call (.glob 375 (.bi 5)) [Zw,.glob 37 (.bi 4)]) ZO Zac)] [],.ret (.glob 27 ZF)]
noncomputable def Zcr:GS:=.assign 6 (.bmeth ZV .pop [])
noncomputable def Zcs:GS:=.assign 7 (.call (.glob 377 (.fn (.o (.o Zaf)))) [Za,Zc,Zw])
noncomputable def Zct:GE:=.cmp .eq ZW ZaE
noncomputable def Zcu:GS:=.expr (.bmeth ZV .append [ZaE])
noncomputable def f92:Fn:=.mk 4 8 [.assign 4 Zcm,.assign 5 (.sub Zc (.cstr 369)),Zcr,.ifs (.or [.cmp .eq Zv Za3,.cmp .eq Zv Zbr]) [Zcs,.ifs (.or [.cmp .lt ZS Zb,.not (.call (.glob 378 (.fn (.i (.o Zaf)))) [Za,ZW,.sub Zw Zb])]) ZG [],.expr (.bmeth ZV .append [.ite (.cmp .eq Zv Za3) (.call Zck [ZS]) (.call Zco [ZU,ZS])])] [.ifs (.cmp .eq Zv Za7) [.ret (.call Zcq [Za,ZW,.sub (.sub Zc (.cstr 374)) Zw])] [.ifs (.cmp .eq Zv Za5) [.expr (.bmeth ZV .append [ZW]),.expr (.bmeth ZV .append [ZW])] [.ifs (.cmp .eq Zv ZbM) [.expr (.bmeth ZV .append [.call Zb4 [ZU,Zw]]),.ret Zct] [.ifs (.cmp .eq Zv ZbI) [.expr (.bmeth ZV .append [.glob 33 Zm]),.ret (.cmp .eq ZW (.call Zb4 [ZU,.call Z7 [ZU,Zb]]))] [.ifs (.cmp .eq Zv ZbJ) [Zcu,.ret (.cmp .eq ZW (.glob 33 Zm))] [.ifs (.cmp .eq Zv Zb3) [.expr (.bmeth ZV .append [ZM]),.ret (.and [.cmp .eq ZW Zw,.cmp .eq Zw (.call Z7 [ZU,Zb])])] [.ifs (.or [.cmp .eq Zv ZaK,.cmp .eq Zv Zbc]) [.ret (.or [Zct,.call Zcl [ZU,ZW]])] [.ifs (.cmp .eq Zv Zbn) [.ret (.and [.call Zcq [Za,ZW,.sub Zcn Za2],.cmp .eq ZV ZP])] []]]]]]]]],ZK]
noncomputable def f93:Fn:=.mk 4 9 [.assign 4 Zcm,.assign 5 (.sub Zc (.cstr 369)),Zcr,.ifs (.cmp .eq Zv Zbg) [Zcs,.ret (.and [.cmp .ge ZS Zb,.call Zcq [Za,ZW,ZS],.call (.glob 378 (.fn (.i (.o Zaf)))) [Za,.bmeth ZV .pop [],.sub Zw Zb]])] [],.ifs (.cmp .eq Zv ZbQ) [.ifs (.not (.call Zcq [Za,ZW,Zw])) ZG [],Zcr] [],.assign 8 (.bmeth ZV .pop []),.ifs (.or [.cmp .eq Zv ZbQ,.cmp .eq Zv ZbO]) [.ifs (.cmp .eq Zv ZbO) [.expr (.bmeth ZV .append [.call Zck [Zw]])] [],.ret (.and [Zct,.cmp .eq Z0 (.call Zb4 [ZU,Zw])])] [],.ifs (.cmp .eq Zv (.glob 106 (.int 65025 0))) [Zcu,.ret (.or [.and [Zct,.cmp .eq Z0 ZaE],.and [.call Zcl [ZU,ZW],.call Zcl [ZU,Z0]]])] [],.ifs (.cmp .isin Zv (.tup [ZbT,ZbZ,.glob 270 (.int 90 0)])) [Zcu] [.ifs (.cmp .notin Zv (.tup [Zcc,Zce,Zb2,ZbK,ZbG])) ZG []],.ret (.and [Zct,.cmp .eq Z0 ZaE])]
noncomputable def f94:Fn:=.mk 4 6 [.assign 4 (.sub Zc (.cstr 369)),.ifs (.and [.cmp .ge (.sub Zc (.cstr 372)) Zb,.cmp .ne Zv Zap]) ZG [],.ifs (.or [.cmp .eq Zv Zao,.cmp .eq Zv Zap,.cmp .eq Zv Zbm]) [.ret (.call (.glob 379 (.fn (.o (.i Zaf)))) [Za,Zc,Zv,Zw])] [],.ifs (.cmp .eq Zv Zav) [.ifs (.cmp .eq (.sub Zc (.cstr 61)) ZE) [.ret (.and [.cmp .eq ZU ZP,.cmp .eq (.sub Zc (.cstr 371)) (.sub Zc (.cstr 361))])] [],.ret (.and [.cmp .eq Zcp Zn,.call Zcq [Za,.bmeth ZU .pop [],.sub Zc (.cstr 61)]])] [],.assign 5 (.call (.glob 380 (.fn (.i (.i Zaf)))) [Zv]),.ifs (.cmp .lt Zcp ZV) ZG [],.ifs (.cmp .eq ZV Zn) [.ret (.call (.glob 381 (.fn (.i (.o Z2)))) [Za,Zc,Zv,Zw])] [],.ifs (.cmp .gt ZV Zn) [.ret (.call (.glob 382 (.fn (.o (.i Z2)))) [Za,Zc,Zv,Zw])] [],.ifs (.cmp .eq Zv Zbs) [.setsub Zc (.cstr 372) Zw] [.ifs (.cmp .ne Zv ZaO) [.expr (.bmeth ZU .append [.call (.glob 383 (.fn (.o (.o Z2)))) [Za,Zc,Zv,Zw]]),.ret (.cmp .gt (.sub ZU (.bin .sub Zcp Zn)) Zb)] []],ZK]
noncomputable def Zcv:GE:=.sub ZS (.cstr 369)
noncomputable def f95:Fn:=.mk 2 13 [.assign 2 (.sub (.attr (.sub Za (.cstr 358)) 50) Zc),.assign 3 (.attr (.attr Zv 64) 384),.assign 4 (.sub Zcn Z3),.assign 5 (.comp Za (.attr Zv 60)),.ifs (.cmp .eq (.bin .band (.attr Zv 56) (.glob 118 Zt)) Zb) [.assign 5 (.bin .add (.lst [.ite (.cmp .eq Z3 Zbp) (.call Zco [Zcm,ZU]) ZU]) ZV)] [],.assign 6 (.and [.cmp .gt (.bin .band (.attr Zv 56) ZX) Zb,.cmp .isin Z3 (.sub Za (.cstr 361))]),.assign 7 (.dct [(.cstr 369,ZP),(.cstr 373,ZV),(.cstr 374,.attr (.attr Zv 64) 385),(.cstr 61,.attr Zv 61),(.cstr 44,Z3),(.cstr 372,Zac),(.cstr 371,Zb),(.cstr 361,.ite ZW Zn Zb),(.cstr 202,.ite ZW (.sub (.sub Za (.cstr 361)) Z3) Zac)]),.assign 8 (.dct []),.assign 9 (.cbool true),.forR 10 [.call Zr [Zw]] [.unpack [11,12] (.sub Zw (.loc 10)),.ifs (.and [.cmp .eq (.loc 11) Zbn,.or [.cmp .eq (.loc 10) Zb,.cmp .ne (.sub (.sub Zw (.bin .sub (.loc 10) Zn)) Zb) Zbm]]) ZG [],.ifs (.cmp .isin (.loc 10) Z0) [.ifs (.and [.loc 9,.cmp .ne (.sub Z0 (.loc 10)) Zcv]) ZG [],.setsub ZS (.cstr 369) (.comp Za (.sub Z0 (.loc 10)))] [.ifs (.not (.loc 9)) [.setsub ZS (.cstr 369) ZP] []],.setsub Z0 (.loc 10) (.comp Za Zcv),.ifs (.or [.not (.call (.glob 386 (.fn (.i (.i Z2)))) [Za,ZS,.loc 11,Zcj]),.cmp .gt (.call Zr [Zcv]) (.attr (.attr Zv 64) 387)]) ZG [],.ifs (.cmp .isin (.loc 11) (.tup [ZaO,ZaK,Zbc,Zcc,Zce,Zb2,ZbK,ZbG])) [.ifs (.or [.cmp .lt Zcj Zb,.cmp .ge Zcj (.call Zr [Zw]),.cmp .ne (.bmeth Z0 .get [Zcj,Zcv]) Zcv]) ZG [],.setsub Z0 Zcj (.comp Za Zcv)] [],.assign 9 (.cmp .notin (.loc 11) (.tup [ZaO,Zav,Zbn]))],.ret (.and [.not (.loc 9),.cmp .eq (.attr Zv 66) Zb,.cmp .eq (.attr (.attr Zv 64) 388) ZP])]
noncomputable def Zcw:GS:=.expr (.call (.glob 391 (.fn (.o (.o Z1)))) [ZV,Zw])
noncomputable def Zcx:GE:=.glob 394 (.fn (.o (.o Zaj)))
noncomputable def f96:Fn:=.mk 1 10 [.assign 1 (.comp (.bin .mod Za (.cint 1000000007)) (.sliceTo Za 5)),.assign 2 (.ite (.cmp .gt (.call Zr [Zc]) Zb) Zs Zb),.assign 3 (.bin .mod Zv (.cint 6)),.assign 4 (.call (.glob 389 (.fn (.i (.o Z1)))) [.bin .mod (.bin .fdiv Zv (.cint 6)) (.cint 4),.bin .mod (.bin .fdiv Zv (.cint 48)) (.cint 7),Zw]),.assign 5 (.sub ZU (.cstr 358)),.expr (.call (.glob 390 (.fn (.o (.o ZaX)))) [ZV]),Zcw,.ifs (.and [.cmp .eq (.bin .mod (.bin .fdiv Zv (.cint 24)) Zg) Zn,.cmp .ne Zw Zg]) [Zcw] [],.assign 6 (.bin .add (.bin .add (.lst [ZbU]) (.compR (.bin .add (.cint 124) Za) [.cint 14])) (.call (.glob 392 (.fn (.o (.i ZaX)))) [Zw])),.assign 7 ZP,.for1 8 (.bin .add (.lst [ZbC,Zb5]) (.call (.glob 354 (.fn (.i (.o ZaX)))) [Zw])) [.expr (.bmeth ZS .extend [.cnone])],.ifs (.cmp .ne (.call (.glob 393 (.bi 3)) [ZS]) (.call (.glob 393 (.bi 3)) [ZW])) ZG [],.for1 9 (.sliceFrom Zc 1) [.ifs (.not (.call Zcx [ZU,.sub ZW (.bin .mod (.loc 9) (.call Zr [ZW]))])) ZG []],.ret (.and [.call Zcx [ZU,.glob 297 (.int 131 0)],.call Zcx [ZU,.glob 300 (.int 132 0)],.call Zcx [ZU,.glob 335 (.int 135 0)]])]
noncomputable def f97:Fn:=.mk 3 3 [.setattr Za 384 Zc,.setattr Za 331 Zv]
noncomputable def f98:Fn:=.mk 1 3 [.setattr Za 395 ZP,.setattr Za 396 (.dct []),.setattr Za 397 ZP,.setattr Za 398 ZP,.setattr Za 399 ZP,.forR 1 [.glob 400 (.int 16 0)] [.assign 2 (.tup [.glob 14 Zt,Zc]),.expr (.bmeth (.attr Za 395) .append [Zv]),.setsub (.attr Za 396) Zv Zc,.expr (.bmeth (.attr Za 397) .append [Zn]),.expr (.bmeth (.attr Za 398) .append [Zn]),.expr (.bmeth (.attr Za 399) .append [Zb])]]
noncomputable def f99:Fn:=.mk 2 2 [.ifs (.or [.cmp .lt Zc Zb,.cmp .ge Zc (.call Zr [.attr Za 395])]) Zu [],.ret (.sub (.attr Za 395) Zc)]
noncomputable def Zcy:GE:=.bin .add (.sub (.attr Za 397) ZS) ZW
noncomputable def f100:Fn:=.mk 2 9 [.assign 2 (.bmeth (.attr Za 396) .get [Zc,Zac]),.ifs (.cmp .ge Zv Zb) [.ret Zv] [],.expr (.call (.glob 401 (.fn (.o (.o .h)))) [Za,Zc]),.assign 3 Zn,.assign 4 Zn,.assign 5 Zb,.ifs (.or [.cmp .eq Zs (.glob 19 Zx),.cmp .eq Zs (.glob 20 Zy)]) [.assign 5 Zn] [],.assign 6 (.call (.glob 402 (.fn (.o .h))) [Zs]),.for1 7 (.call (.glob 16 (.fn .h)) [Zc]) [.ifs (.cmp .gt Zcy Zw) [.assign 3 Zcy] [],.aug 4 .add (.sub (.attr Za 398) ZS),.ifs (.cmp .eq (.sub (.attr Za 399) ZS) Zn) [.assign 5 Zn] []],.ifs (.cmp .gt Zw (.glob 403 (.int 24 0))) Zu [],.ifs (.cmp .gt ZU (.glob 404 (.int 4096 0))) Zu [],.assign 8 (.call Zr [.attr Za 395]),.expr (.bmeth (.attr Za 395) .append [Zc]),.setsub (.attr Za 396) Zc Z0,.expr (.bmeth (.attr Za 397) .append [Zw]),.expr (.bmeth (.attr Za 398) .append [ZU]),.expr (.bmeth (.attr Za 399) .append [ZV]),.ret Z0]
noncomputable def f101:Fn:=.mk 8 9 [.setattr Za 405 Zc,.setattr Za 57 Zv,.setattr Za 74 Zw,.setattr Za 56 ZU,.setattr Za 202 ZV,.setattr Za 40 ZP,.setattr Za 60 ZP,.setattr Za 406 ZP,.setattr Za 407 ZP,.for1 8 ZW [.expr (.bmeth (.attr Za 60) .append [Z0]),.expr (.bmeth (.attr Za 406) .append [.glob 408 ZD]),.expr (.bmeth (.attr Za 407) .append [.tup [Zb,Zq]])],.setattr Za 43 ZP,.setattr Za 50 ZP,.setattr Za 409 ZS,.setattr Za 53 Zb,.setattr Za 410 Zac,.setattr Za 411 ZP,.setattr Za 68 ZP,.setattr Za 412 ZP,.setattr Za 54 Zb,.setattr Za 413 Zb]
noncomputable def f102:Fn:=.mk 7 7 [.setattr Za 414 Zc,.setattr Za 44 Zv,.setattr Za 57 Zw,.setattr Za 367 ZU,.setattr Za 366 ZV,.setattr Za 56 ZW,.setattr Za 227 .cnone]
noncomputable def f103:Fn:=.mk 8 8 [.setattr Za 415 Zc,.setattr Za 44 Zv,.setattr Za 57 Zw,.setattr Za 366 ZU,.setattr Za 56 ZV,.setattr Za 416 Zb,.setattr Za 417 ZP,.setattr Za 418 ZP,.setattr Za 61 ZW,.setattr Za 60 (.call ZQ [ZS]),.setattr Za 419 (.call (.glob 420 (.fn Zaq)) [.call Zr [ZS]]),.setattr Za 421 (.bin .mul (.tup [Zb]) (.call Zr [ZS])),.setattr Za 64 .cnone,.setattr Za 66 Zb]
noncomputable def f104:Fn:=.mk 5 5 [.setattr Za 385 Zc,.setattr Za 387 Zv,.setattr Za 384 Zw,.setattr Za 388 ZU]
noncomputable def f105:Fn:=.mk 1 1 [.setattr Za 72 (.call (.glob 422 (.cls (.i .h))) []),.setattr Za 39 Zci,.setattr Za 42 Zci,.setattr Za 50 Zci,.setattr Za 423 (.dct []),.setattr Za 424 ZP,.setattr Za 425 Zb]
noncomputable def ft:Tr Fn:=.node f0 (.node f1 (.node f3 (.node f7 (.node f15 (.node f31 (.node f63 .nil .nil) (.node f95 .nil .nil)) (.node f47 (.node f79 .nil .nil) .nil)) (.node f23 (.node f39 (.node f71 .nil .nil) (.node f103 .nil .nil)) (.node f55 (.node f87 .nil .nil) .nil))) (.node f11 (.node f19 (.node f35 (.node f67 .nil .nil) (.node f99 .nil .nil)) (.node f51 (.node f83 .nil .nil) .nil)) (.node f27 (.node f43 (.node f75 .nil .nil) .nil) (.node f59 (.node f91 .nil .nil) .nil)))) (.node f5 (.node f9 (.node f17 (.node f33 (.node f65 .nil .nil) (.node f97 .nil .nil)) (.node f49 (.node f81 .nil .nil) .nil)) (.node f25 (.node f41 (.node f73 .nil .nil) (.node f105 .nil .nil)) (.node f57 (.node f89 .nil .nil) .nil))) (.node f13 (.node f21 (.node f37 (.node f69 .nil .nil) (.node f101 .nil .nil)) (.node f53 (.node f85 .nil .nil) .nil)) (.node f29 (.node f45 (.node f77 .nil .nil) .nil) (.node f61 (.node f93 .nil .nil) .nil))))) (.node f2 (.node f4 (.node f8 (.node f16 (.node f32 (.node f64 .nil .nil) .nil) (.node f48 (.node f80 .nil .nil) .nil)) (.node f24 (.node f40 (.node f72 .nil .nil) (.node f104 .nil .nil)) (.node f56 (.node f88 .nil .nil) .nil))) (.node f12 (.node f20 (.node f36 (.node f68 .nil .nil) (.node f100 .nil .nil)) (.node f52 (.node f84 .nil .nil) .nil)) (.node f28 (.node f44 (.node f76 .nil .nil) .nil) (.node f60 (.node f92 .nil .nil) .nil)))) (.node f6 (.node f10 (.node f18 (.node f34 (.node f66 .nil .nil) (.node f98 .nil .nil)) (.node f50 (.node f82 .nil .nil) .nil)) (.node f26 (.node f42 (.node f74 .nil .nil) .nil) (.node f58 (.node f90 .nil .nil) .nil))) (.node f14 (.node f22 (.node f38 (.node f70 .nil .nil) (.node f102 .nil .nil)) (.node f54 (.node f86 .nil .nil) .nil)) (.node f30 (.node f46 (.node f78 .nil .nil) .nil) (.node f62 (.node f94 .nil .nil) .nil)))))
noncomputable def jn:Tr Cl:=.node .no (.node .no (.node (.mk (.o (.i Zam)) []) (.node (.mk (.o (.i Z6)) []) .nil .nil) .nil) (.node (.mk (.o (.o Z6)) []) .nil .nil)) (.node (.mk (.i (.i Zaj)) [(17,.o (.o Zam)),(29,.i (.o Zam))]) (.node (.mk (.i (.i Zam)) []) .nil .nil) (.node (.mk (.i (.o Z6)) []) .nil .nil))
noncomputable def Zcz:Tr V:=.node Zy .nil .nil
noncomputable def ZcA:Tr V:=.node Zl .nil .nil
noncomputable def ZcB:Tr V:=.node Zk .nil .nil
noncomputable def ZcC:Tr V:=.node ZD .nil .nil
noncomputable def ZcD:Tr V:=.node ZD .nil ZcC
noncomputable def ZcE:Tr V:=.node ZD (.node ZD (.node .unb (.node .unb .nil (.node .unb .nil (.node .unb .nil (.node .unb .nil (.node .unb .nil (.node .unb .nil ZcA)))))) .nil) .nil) .nil
noncomputable def ZcF:Tr V:=.node .unb (.node .unb .nil (.node .unb .nil (.node .unb .nil (.node .unb .nil (.node .unb .nil (.node .unb .nil ZcC)))))) .nil
noncomputable def ZcG:Tr V:=.node .unb (.node Zj (.node ZD ZcF .nil) .nil) (.node ZD Zcz .nil)
noncomputable def ZcH:Tr V:=.node .unb (.node .unb .nil (.node .unb .nil (.node .unb .nil (.node .unb .nil (.node .unb .nil (.node .unb .nil (.node Ze .nil .nil))))))) .nil
noncomputable def ZcI:Tr V:=.node .unb (.node .unb (.node .unb .nil (.node .unb .nil (.node .unb .nil (.node .unb .nil (.node .unb .nil (.node .unb .nil Zcz)))))) .nil) .nil
noncomputable def ZcJ:Tr V:=.node .unb (.node .unb .nil (.node .unb .nil (.node .unb .nil (.node .unb .nil (.node .unb .nil (.node .unb .nil (.node Zh .nil .nil))))))) .nil
noncomputable def gds:Tr (Tr V):=.node (.node ZaZ (.node Zl (.node Zm (.node (.int 15 0) .nil .nil) (.node (.int 19 0) .nil .nil)) (.node ZN (.node (.int 17 0) .nil .nil) (.node Zh .nil .nil))) (.node Zo (.node ZL (.node (.int 16 0) .nil .nil) (.node Zt .nil .nil)) (.node ZF (.node (.int 18 0) .nil .nil) .nil))) (.node (.node .unb (.node ZL (.node .unb (.node .unb Zcz .nil) (.node Ze (.node Zm .nil .nil) .nil)) (.node .unb (.node Zt ZcA .nil) (.node Zj .nil .nil))) (.node .unb (.node ZN (.node .unb ZcB .nil) (.node Zh ZcC .nil)) (.node .unb (.node Zd (.node Zo .nil .nil) .nil) (.node Zx .nil .nil)))) .nil .nil) (.node (.node ZD (.node .unb (.node .unb (.node .unb (.node .unb (.node .unb (.node Zj ZcB .nil) ZcD) (.node .unb (.node .unb Zcz .nil) ZcA)) (.node .unb (.node .unb ZcE ZcC) (.node .unb (.node .unb .nil ZcC) (.node .unb ZcC .nil)))) (.node .unb (.node .unb ZcG (.node .unb ZcD (.node Zl ZcC .nil))) (.node .unb (.node .unb (.node ZD (.node .unb ZcH .nil) .nil) .nil) (.node Zj ZcD ZcB)))) (.node .unb (.node .unb (.node .unb (.node Zd (.node Zj (.node Zy ZcF .nil) .nil) ZcC) (.node .unb (.node ZD (.node .unb ZcF .nil) ZcC) Zcz)) (.node .unb (.node .unb (.node ZD (.node ZD ZcH .nil) .nil) ZcC) (.node Zj ZcD (.node Zy ZcC .nil)))) (.node .unb (.node .unb (.node ZD (.node Zx (.node ZD ZcF .nil) .nil) (.node ZD Zcz .nil)) (.node .unb (.node ZD ZcI .nil) (.node Zy ZcC .nil))) (.node .unb (.node .unb (.node ZD (.node Zy ZcJ .nil) .nil) ZcC) (.node Zj (.node ZD .nil (.node Zj .nil .nil)) ZcB))))) (.node .unb (.node .unb (.node .unb (.node .unb (.node Zt (.node Zj ZcB .nil) ZcC) (.node .unb (.node ZD .nil (.node Zm .nil .nil)) .nil)) (.node .unb (.node Zl (.node ZD ZcC .nil) ZcC) (.node Zj ZcD (.node .unb ZcC .nil)))) (.node .unb (.node ZD ZcG (.node .unb ZcC (.node Zy ZcC .nil))) (.node .unb (.node .unb (.node ZD (.node Zy ZcJ .nil) .nil) .nil) (.node Zj ZcD ZcB)))) (.node .unb (.node .unb (.node .unb (.node .unb (.node Zj (.node ZD ZcF .nil) .nil) ZcC) (.node .unb ZcD (.node Zo .nil .nil))) (.node .unb (.node ZD (.node ZD (.node .unb ZcH .nil) .nil) ZcC) (.node Zj (.node ZD (.node .unb ZcF .nil) ZcC) (.node ZD ZcC .nil)))) (.node .unb (.node .unb (.node ZD ZcE ZcC) (.node .unb (.node .unb ZcI ZcC) (.node .unb ZcC .nil))) (.node .unb (.node .unb (.node .unb (.node ZD ZcJ .nil) .nil) ZcC) (.node Zj (.node ZD (.node .unb ZcF .nil) .nil) ZcB)))))) .nil .nil)
section elim
universe u
variable {α:Sort u}
noncomputable def am (v:V) (d:α) (k:Int→Nat→α):α:=@V.rec (fun ξ=>α) (fun ξ=>PUnit) d d (fun ξ=>d) k (fun ξ=>d) (fun ξ=>d) (fun ξ ξ=>d) (fun ξ=>d) (fun ξ=>d) (fun ξ=>d) (fun ξ=>d) (fun ξ=>d) ⟨⟩ (fun ξ ξ ξ ξ=>⟨⟩) v
noncomputable def bG (v:V) (d:α) (k:Nat→α):α:=@V.rec (fun ξ=>α) (fun ξ=>PUnit) d d (fun ξ=>d) (fun ξ ξ=>d) k (fun ξ=>d) (fun ξ ξ=>d) (fun ξ=>d) (fun ξ=>d) (fun ξ=>d) (fun ξ=>d) (fun ξ=>d) ⟨⟩ (fun ξ ξ ξ ξ=>⟨⟩) v
noncomputable def aQ (v:V) (d:α) (k:List V→α):α:=@V.rec (fun ξ=>α) (fun ξ=>PUnit) d d (fun ξ=>d) (fun ξ ξ=>d) (fun ξ=>d) (fun ξ=>d) (fun vs ξ=>k vs) (fun ξ=>d) (fun ξ=>d) (fun ξ=>d) (fun ξ=>d) (fun ξ=>d) ⟨⟩ (fun ξ ξ ξ ξ=>⟨⟩) v
noncomputable def aC (v:V) (d:α) (k:Ps→α):α:=@V.rec (fun ξ=>α) (fun ξ=>PUnit) d d (fun ξ=>d) (fun ξ ξ=>d) (fun ξ=>d) (fun ξ=>d) (fun ξ ξ=>d) k (fun ξ=>d) (fun ξ=>d) (fun ξ=>d) (fun ξ=>d) ⟨⟩ (fun ξ ξ ξ ξ=>⟨⟩) v
noncomputable def gY (v:V) (d:α) (k:Bool→α):α:=@V.rec (fun ξ=>α) (fun ξ=>PUnit) d d k (fun ξ ξ=>d) (fun ξ=>d) (fun ξ=>d) (fun ξ ξ=>d) (fun ξ=>d) (fun ξ=>d) (fun ξ=>d) (fun ξ=>d) (fun ξ=>d) ⟨⟩ (fun ξ ξ ξ ξ=>⟨⟩) v
noncomputable def lg (v:V) (d:α) (k:Ps→α):α:=@V.rec (fun ξ=>α) (fun ξ=>PUnit) d d (fun ξ=>d) (fun ξ ξ=>d) (fun ξ=>d) (fun ξ=>d) (fun ξ ξ=>d) (fun ξ=>d) (fun ξ=>d) (fun ξ=>d) (fun ξ=>d) k ⟨⟩ (fun ξ ξ ξ ξ=>⟨⟩) v
noncomputable def aP (v:V) (y n:α):α:=@V.rec (fun ξ=>α) (fun ξ=>PUnit) y n (fun ξ=>n) (fun ξ ξ=>n) (fun ξ=>n) (fun ξ=>n) (fun ξ ξ=>n) (fun ξ=>n) (fun ξ=>n) (fun ξ=>n) (fun ξ=>n) (fun ξ=>n) ⟨⟩ (fun ξ ξ ξ ξ=>⟨⟩) v
noncomputable def jS (v:V) (y n:α):α:=@V.rec (fun ξ=>α) (fun ξ=>PUnit) n y (fun ξ=>n) (fun ξ ξ=>n) (fun ξ=>n) (fun ξ=>n) (fun ξ ξ=>n) (fun ξ=>n) (fun ξ=>n) (fun ξ=>n) (fun ξ=>n) (fun ξ=>n) ⟨⟩ (fun ξ ξ ξ ξ=>⟨⟩) v
noncomputable def a6 (v:V) (d:α) (k:Nat→α):α:=am v d fun o s=>@Bool.rec (fun ξ=>α) d (@Int.rec (fun ξ=>α) k (fun ξ=>d) o) (Nat.beq s (nat_lit 0))
noncomputable def aS (c:Cell) (d:α) (k:Bool→Nat→List V→α):α:=@Cell.rec (fun ξ=>α) d (fun w o=>@O.rec (fun ξ=>α) (k w) (fun ξ ξ ξ=>d) (fun ξ=>d) d (fun ξ ξ ξ=>d) (fun ξ ξ=>d) (fun ξ ξ ξ=>d) (fun ξ ξ=>d) (fun ξ=>d) o) c
noncomputable def gv (c:Cell) (d:α) (k:Bool→Ps→List (Nat×V)→α):α:=@Cell.rec (fun ξ=>α) d (fun w o=>@O.rec (fun ξ=>α) (fun ξ ξ=>d) (fun ξ ξ ξ=>d) (fun ξ=>d) d (fun ξ ξ ξ=>d) (fun ξ ξ=>d) (fun ξ ξ ξ=>d) (k w) (fun ξ=>d) o) c
noncomputable def obj (c:Cell) (d:α) (k:Bool→O→α):α:=@Cell.rec (fun ξ=>α) d k c
end elim
noncomputable def Ps.succ (p:Ps):Ps:=@Ps.rec (fun ξ=>Ps) (.o .h) (fun p ξ=>.i p) (fun ξ ih=>.o ih) p
noncomputable def Ps.ofNat (n:Nat):Ps:=@Nat.rec (fun ξ=>Nat→Ps) (fun ξ=>.h) (fun ξ ih m=>@Bool.rec (fun ξ=>Ps) (@Bool.rec (fun ξ=>Ps) (.o (ih (Nat.div m (nat_lit 2)))) (.i (ih (Nat.div m (nat_lit 2)))) (Nat.beq (Nat.mod m (nat_lit 2)) (nat_lit 1))) .h (Nat.beq m (nat_lit 1))) (nat_lit 40) (Nat.succ n)
noncomputable def Tr.get {α:Type} (d:α) (p:Ps):Tr α→α :=
 @Ps.rec (fun ξ=>Tr α→α) (fun t=>@Tr.rec α (fun ξ=>α) d (fun v ξ ξ ξ ξ=>v) t) (fun ξ ih t=>@Tr.rec α (fun ξ=>α) d (fun ξ l ξ ξ ξ=>ih l) t) (fun ξ ih t=>@Tr.rec α (fun ξ=>α) d (fun ξ ξ r ξ ξ=>ih r) t) p
noncomputable def Tr.put {α:Type} (d:α) (x:α) (p:Ps):Tr α→Tr α :=
 @Ps.rec (fun ξ=>Tr α→Tr α) (fun t=>@Tr.rec α (fun ξ=>Tr α) (.node x .nil .nil) (fun ξ l r ξ ξ=>.node x l r) t)
  (fun ξ ih t=>@Tr.rec α (fun ξ=>Tr α) (.node d (ih .nil) .nil) (fun v l r ξ ξ=>.node v (ih l) r) t)
  (fun ξ ih t=>@Tr.rec α (fun ξ=>Tr α) (.node d .nil (ih .nil)) (fun v l r ξ ξ=>.node v l (ih r)) t) p
noncomputable def at_ (h:T) (g:Ps):Cell:=Tr.get .no g h
noncomputable def nth (l:List V):Nat→V :=
 @List.rec V (fun ξ=>Nat→V) (fun ξ=>.unb) (fun v ξ ih n=>@Bool.rec (fun ξ=>V) (ih (Nat.sub n (nat_lit 1))) v (Nat.beq n (nat_lit 0))) l
noncomputable def bD (l:List V):Nat→V→List V :=
 @List.rec V (fun ξ=>Nat→V→List V) (fun ξ ξ=>[]) (fun v t ih n x=>@Bool.rec (fun ξ=>List V) (v :: ih (Nat.sub n (nat_lit 1)) x) (x :: t) (Nat.beq n (nat_lit 0))) l
noncomputable def app (l m:List V):List V:=@List.rec V (fun ξ=>List V) m (fun v ξ ih=>v :: ih) l
noncomputable def len (l:List V):Nat:=@List.rec V (fun ξ=>Nat) (nat_lit 0) (fun ξ ξ ih=>Nat.succ ih) l
noncomputable def aA (f:Nat) (l:List (Nat×V)):V :=
 @List.rec (Nat×V) (fun ξ=>V) .unb (fun p ξ ih=>@Bool.rec (fun ξ=>V) ih p.2 (Nat.beq p.1 f)) l
noncomputable def dN (f:Nat) (x:V) (l:List (Nat×V)):List (Nat×V) :=
 @List.rec (Nat×V) (fun ξ=>List (Nat×V)) [(f,x)] (fun p t ih=>@Bool.rec (fun ξ=>List (Nat×V)) (p :: ih) ((p.1,x) :: t) (Nat.beq p.1 f)) l
noncomputable def qJ (l:List (Nat×V)):Nat:=@List.rec (Nat×V) (fun ξ=>Nat) (nat_lit 0) (fun ξ ξ ih=>Nat.succ ih) l
noncomputable def aK (q:V→B3) (l:List (V×V)):RK :=
 @List.rec (V×V) (fun ξ=>RK) .miss (fun p ξ ih=>@B3.rec (fun ξ=>RK) .und ih (.hit p.2) (q p.1)) l
noncomputable def bP (q:V→B3) (l:List V):B3 :=
 @List.rec V (fun ξ=>B3) .no (fun p ξ ih=>@B3.rec (fun ξ=>B3) .und ih .yes (q p)) l
noncomputable def iT (q:V→B3) (k x:V) (l:List (V×V)):RB :=
 @List.rec (V×V) (fun ξ=>RB) (.ok [(k,x)]) (fun p t ih=>@B3.rec (fun ξ=>RB) .fail (@RB.rec (fun ξ=>RB) .fail (fun t'=>.ok (p :: t')) ih) (.ok ((p.1,x) :: t)) (q p.1)) l
noncomputable def dw (f:V→V→B3) (l:List V):List V→B3 :=
 @List.rec V (fun ξ=>List V→B3) (fun m=>@List.rec V (fun ξ=>B3) .yes (fun ξ ξ ξ=>.no) m)
  (fun v ξ ih m=>@List.rec V (fun ξ=>B3) .no (fun w t ξ=>@B3.rec (fun ξ=>B3) .und .no (ih t) (f v w)) m) l
noncomputable def jf (n:Nat):List V:=@Nat.rec (fun ξ=>List V) [] (fun ξ ih=>.unb :: ih) n
noncomputable def rep (n:Nat) (l:List V):List V:=@Nat.rec (fun ξ=>List V) [] (fun ξ ih=>app l ih) n
noncomputable def fb (n:Nat):Int→List V:=@Nat.rec (fun ξ=>Int→List V) (fun ξ=>[]) (fun ξ ih a=>.int a (nat_lit 0) :: ih (Int.add a (Int.ofNat (nat_lit 1)))) n
noncomputable def de (xs:List Nat):List V→List V→LO :=
 @List.rec Nat (fun ξ=>List V→List V→LO) (fun vs ρ=>@List.rec V (fun ξ=>LO) (.ok ρ) (fun ξ ξ ξ=>.fail) vs)
  (fun x ξ ih vs=>@List.rec V (fun ξ=>List V→LO) (fun ξ=>.fail) (fun v t ξ ρ=>ih t (bD ρ x v)) vs) xs
noncomputable def nt (f:Nat) (l:List (Nat×Ps)):Option Ps :=
 @List.rec (Nat×Ps) (fun ξ=>Option Ps) none (fun p ξ ih=>@Bool.rec (fun ξ=>Option Ps) ih (some p.2) (Nat.beq p.1 f)) l
noncomputable def vK (l:List V):List V:=@List.rec V (fun ξ=>List V) [] (fun v t ih=>@List.rec V (fun ξ=>List V) [] (fun ξ ξ ξ=>v :: ih) t) l
noncomputable def lQ (l:List V):V:=@List.rec V (fun ξ=>V) .unb (fun v t ih=>@List.rec V (fun ξ=>V) v (fun ξ ξ ξ=>ih) t) l
noncomputable def qw (l:List V):List V→List V:=@List.rec V (fun ξ=>List V→List V) (fun acc=>acc) (fun v ξ ih acc=>ih (v :: acc)) l
noncomputable def jz (l:List V):Nat→List V:=@List.rec V (fun ξ=>Nat→List V) (fun ξ=>[]) (fun v ξ ih n=>@Bool.rec (fun ξ=>List V) (v :: ih (Nat.sub n (nat_lit 1))) [] (Nat.beq n (nat_lit 0))) l
noncomputable def j1 (l:List V):Nat→List V:=@List.rec V (fun ξ=>Nat→List V) (fun ξ=>[]) (fun v t ih n=>@Bool.rec (fun ξ=>List V) (ih (Nat.sub n (nat_lit 1))) (v :: t) (Nat.beq n (nat_lit 0))) l
noncomputable def sW (l:List (V×V)) (p:V×V):List (V×V):=@List.rec (V×V) (fun ξ=>List (V×V)) [p] (fun q ξ ih=>q :: ih) l
noncomputable def hi (s:Nat):Int:=@Bool.rec (fun ξ=>Int) (Int.ofNat (nat_lit 0)) (Int.ofNat (nat_lit 3)) (Nat.beq s (nat_lit 1))
noncomputable def b3 (b:Bool):B3:=@Bool.rec (fun ξ=>B3) .no .yes b
noncomputable def i3 (b:B3):B3:=@B3.rec (fun ξ=>B3) .und .yes .no b
noncomputable def o7 (a b:Int):B3:=@Int.rec (fun ξ=>B3) (fun m=>@Int.rec (fun ξ=>B3) (fun n=>b3 (Nat.beq m n)) (fun ξ=>.no) b) (fun m=>@Int.rec (fun ξ=>B3) (fun ξ=>.no) (fun n=>b3 (Nat.beq m n)) b) a
noncomputable def fY (a b:Int):Bool:=@Int.rec (fun ξ=>Bool) (fun m=>@Int.rec (fun ξ=>Bool) (fun n=>Nat.ble (Nat.succ m) n) (fun ξ=>false) b) (fun m=>@Int.rec (fun ξ=>Bool) (fun ξ=>true) (fun n=>Nat.ble (Nat.succ n) m) b) a
noncomputable def tO (a b:Int):Int:=@Int.rec (fun ξ=>Int) (fun m=>@Int.rec (fun ξ=>Int) (fun n=>Int.ofNat (Nat.add m n)) (fun n=>Int.add a b) b) (fun m=>Int.add a b) a
noncomputable def seq (o:Int) (s:Nat) (o':Int) (s':Nat):B3:=@Bool.rec (fun ξ=>B3)
 (@Bool.rec (fun ξ=>B3) (@Bool.rec (fun ξ=>B3) .und .no (fY (Int.add o' (hi s')) o)) .no (fY (Int.add o (hi s)) o'))
 (o7 o o') (Nat.beq s s')
noncomputable def slt (o:Int) (s:Nat) (o':Int) (s':Nat):B3:=@Bool.rec (fun ξ=>B3)
 (@Bool.rec (fun ξ=>B3) (@Bool.rec (fun ξ=>B3) .no .und (fY o (Int.add o' (hi s')))) .yes (fY (Int.add o (hi s)) o'))
 (b3 (fY o o')) (Nat.beq s s')
noncomputable def eqv (h:T) (n:Nat):V→V→B3:=@Nat.rec (fun ξ=>V→V→B3) (fun ξ ξ=>.und) (fun ξ ih a b =>
 @V.rec (fun ξ=>B3) (fun ξ=>PUnit) .und .und (fun ξ=>.und) (fun o s=>am b .und fun o' s'=>seq o s o' s') (fun i=>bG b .und fun j=>b3 (Nat.beq i j)) (fun ξ=>.und)
  (fun vs ξ=>aQ b .und fun ws=>dw ih vs ws) (fun g=>aC b .und fun g'=>aS (at_ h g) .und fun ξ ξ vs=>aS (at_ h g') .und fun ξ ξ ws=>dw ih vs ws)
  (fun ξ=>.und) (fun ξ=>.und) (fun ξ=>.und) (fun ξ=>.und) ⟨⟩ (fun ξ ξ ξ ξ=>⟨⟩) a) n
noncomputable def isInt (o:Int) (s:Nat) (v:V):B3:=am v .und fun o' s'=>seq o' s' o s
noncomputable def isStr (i:Nat) (v:V):B3:=bG v .und fun j=>b3 (Nat.beq j i)
noncomputable def jU (a b:V):B3:=am a .und fun o s=>am b .und fun o' s'=>seq o s o' s'
noncomputable def lG (l m:List V):B3:=@List.rec V (fun ξ=>B3) (@List.rec V (fun ξ=>B3) .yes (fun ξ ξ ξ=>.no) m)
 (fun a ξ ξ=>@List.rec V (fun ξ=>B3) .no (fun b ξ ξ=>aQ a .und fun x=>aQ b .und fun y=>dw jU x y) m) l
noncomputable def eh (a b:V):B3:=aQ a .und fun l=>aQ b .und fun m =>
 @List.rec V (fun ξ=>B3) .und (fun x l' ξ=>@List.rec V (fun ξ=>B3) .und (fun y m' ξ=>@B3.rec (fun ξ=>B3) .und .no
  (@List.rec V (fun ξ=>B3) .und (fun x l'' ξ=>@List.rec V (fun ξ=>B3) .und (fun y m'' ξ=>@B3.rec (fun ξ=>B3) .und .no (lG l'' m'') (jU x y)) m') l')
  (jU x y)) m) l
noncomputable def cG (f:V→Bool) (l:List V):Bool:=@List.rec V (fun ξ=>Bool) true (fun v ξ ih=>@Bool.rec (fun ξ=>Bool) false ih (f v)) l
noncomputable def isD (h:T) (n:Nat):V→Bool:=@Nat.rec (fun ξ=>V→Bool) (fun ξ=>false) (fun ξ ih v =>
 @V.rec (fun ξ=>Bool) (fun ξ=>PUnit) false true (fun ξ=>true) (fun ξ ξ=>true) (fun ξ=>true) (fun ξ=>false) (fun vs ξ=>cG ih vs) (fun g=>aS (at_ h g) false fun ξ ξ vs=>cG ih vs)
  (fun ξ=>false) (fun ξ=>false) (fun ξ=>false) (fun ξ=>false) ⟨⟩ (fun ξ ξ ξ ξ=>⟨⟩) v) n
noncomputable def isI (v:V):Bool:=am v false fun ξ ξ=>true
noncomputable def tK (t:List V):Bool:=@List.rec V (fun ξ=>Bool) true (fun c t ξ=>@List.rec V (fun ξ=>Bool) (aQ c false (cG isI)) (fun ξ ξ ξ=>false) t) t
noncomputable def gL (v:V):Bool:=aQ v false fun l=>@List.rec V (fun ξ=>Bool) false (fun a t ξ=>@List.rec V (fun ξ=>Bool) false (fun b t ξ=>@Bool.rec (fun ξ=>Bool) false (@Bool.rec (fun ξ=>Bool) false (tK t) (isI b)) (isI a)) t) l
noncomputable def qA (o:Int) (s:Nat) (vs:List V):B3:=@Bool.rec (fun ξ=>B3) .und (bP (isInt o s) vs) (cG isI vs)
noncomputable def tB (h:T) (a:V) (vs:List V):B3:=am a (@Bool.rec (fun ξ=>B3) .und (@Bool.rec (fun ξ=>B3) .und (bP (fun v=>eqv h (nat_lit 6) v a) vs) (cG (isD h (nat_lit 6)) vs)) (isD h (nat_lit 6) a)) fun o s=>qA o s vs
noncomputable def alloc (σ:St) (o:O):RE:=.ok (.ref σ.n) ⟨Tr.put .no (.ob true o) σ.n σ.h,σ.n.succ⟩
noncomputable def upd (σ:St) (g:Ps) (o:O):St:=⟨Tr.put .no (.ob true o) g σ.h,σ.n⟩
noncomputable def pO (o:Int) (s:Nat) (o':Int) (s':Nat) (σ:St):RE:=@Bool.rec (fun ξ=>RE) (@Bool.rec (fun ξ=>RE) .fail (.ok (.int (tO o o') s) σ) (Nat.beq s' (nat_lit 0))) (.ok (.int (tO o o') s') σ) (Nat.beq s (nat_lit 0))
noncomputable def oN (s s':Nat) (r:RE):RE:=@Bool.rec (fun ξ=>RE) .fail (@Bool.rec (fun ξ=>RE) .fail r (Nat.beq s' (nat_lit 0))) (Nat.beq s (nat_lit 0))
noncomputable def pos (o:Int) (r:RE):RE:=@Int.rec (fun ξ=>RE) (fun n=>@Bool.rec (fun ξ=>RE) r .fail (Nat.beq n (nat_lit 0))) (fun ξ=>.fail) o
noncomputable def lF (o:Int) (r:RE):RE:=@Int.rec (fun ξ=>RE) (fun n=>@Bool.rec (fun ξ=>RE) .fail r (Nat.ble n (nat_lit 1000000))) (fun ξ=>.fail) o
noncomputable def pJ (op:BO) (o:Int) (s:Nat) (o':Int) (s':Nat) (σ:St):RE:=@BO.rec (fun ξ=>RE) (pO o s o' s' σ)
 (@Bool.rec (fun ξ=>RE) .fail (.ok (.int (Int.sub o o') s) σ) (Nat.beq s' (nat_lit 0)))
 (oN s s' (lF o (.ok (.int (Int.mul o o') (nat_lit 0)) σ)))
 .fail
 (oN s s' (lF o (pos o' (.ok (.int (Int.emod o o') (nat_lit 0)) σ))))
 (oN s s' (@Int.rec (fun ξ=>RE) (fun m=>@Int.rec (fun ξ=>RE) (fun n=>.ok (.int (Int.ofNat (Nat.land m n)) (nat_lit 0)) σ) (fun ξ=>.fail) o') (fun ξ=>.fail) o)) op
noncomputable def BO.isAdd (op:BO):Bool:=@BO.rec (fun ξ=>Bool) true false false false false false op
noncomputable def BO.isMul (op:BO):Bool:=@BO.rec (fun ξ=>Bool) false false true false false false op
noncomputable def bz (n:Nat) (r:RE):RE:=@Bool.rec (fun ξ=>RE) .fail r (Nat.ble n (nat_lit 100000))
noncomputable def sg (v:V) (d:RE) (k:Nat→RE):RE:=@V.rec (fun ξ=>RE) (fun ξ=>PUnit) d d (fun ξ=>d) (fun ξ ξ=>d) (fun ξ=>d) k (fun ξ ξ=>d) (fun ξ=>d) (fun ξ=>d) (fun ξ=>d) (fun ξ=>d) (fun ξ=>d) ⟨⟩ (fun ξ ξ ξ ξ=>⟨⟩) v
noncomputable def wn (op:BO) (a b:V) (σ:St):RE:=@V.rec (fun ξ=>RE) (fun ξ=>PUnit) .fail .fail (fun ξ=>.fail) (fun ξ ξ=>.fail)
 (fun i=>@Bool.rec (fun ξ=>RE) .fail (sg b .fail fun k=>bz i (bz k (.ok (.anyStr (Nat.add k (nat_lit 200000))) σ))) op.isAdd) (fun ξ=>.fail)
 (fun vs ξ=>@Bool.rec (fun ξ=>RE) .fail (a6 b .fail fun n=>bz n (bz (Nat.mul n (len vs)) (@List.rec V (fun ξ=>RE) .fail (fun ξ ξ ξ=>.ok (.tup (rep n vs)) σ) vs))) op.isMul)
 (fun g=>aS (at_ σ.h g) .fail fun ξ m vs=>@Bool.rec (fun ξ=>RE) (@Bool.rec (fun ξ=>RE) .fail (a6 b .fail fun n=>bz n (bz (Nat.mul n m) (alloc σ (.lst (Nat.mul n m) (rep n vs))))) op.isMul)
  (aC b .fail fun g'=>aS (at_ σ.h g') .fail fun ξ m' ws=>bz (Nat.add m m') (alloc σ (.lst (Nat.add m m') (app vs ws)))) op.isAdd)
 (fun ξ=>.fail) (fun ξ=>.fail) (fun ξ=>.fail) (fun ξ=>.fail) ⟨⟩ (fun ξ ξ ξ ξ=>⟨⟩) a
noncomputable def r8 (op:BO) (a b:V) (σ:St):RE:=am a (wn op a b σ) fun o s=>am b .fail fun o' s'=>pJ op o s o' s' σ
noncomputable def isNone (a b:V):B3:=jS b (@V.rec (fun ξ=>B3) (fun ξ=>PUnit) .und .yes (fun ξ=>.und) (fun ξ ξ=>.no) (fun ξ=>.und) (fun ξ=>.und) (fun ξ ξ=>.no) (fun ξ=>.no) (fun ξ=>.und) (fun ξ=>.und) (fun ξ=>.und) (fun ξ=>.und) ⟨⟩ (fun ξ ξ ξ ξ=>⟨⟩) a) .und
noncomputable def tQ (q:V→B3) (kvs:List (V×V)) (may:List V):B3:=@RK.rec (fun ξ=>B3) .und (@B3.rec (fun ξ=>B3) .und .no .und (bP q may)) (fun ξ=>.yes) (aK q kvs)
noncomputable def lr (b:B3):B3:=@B3.rec (fun ξ=>B3) .und .und .yes b
noncomputable def fM (j:Ps) (n:Int):V:=@Int.rec (fun ξ=>V) (fun n=>Tr.get .unb (Ps.ofNat n) (Tr.get .nil j gds)) (fun ξ=>.unb) n
noncomputable def tM (a b:V) (h:T):B3:=@V.rec (fun ξ=>B3) (fun ξ=>PUnit) .und .und (fun ξ=>.und) (fun ξ ξ=>.und) (fun ξ=>.und) (fun ξ=>.und)
 (fun vs ξ=>am a .und fun o s=>qA o s vs)
 (fun g=>obj (at_ h g) .und fun ξ o=>@O.rec (fun ξ=>B3) (fun ξ vs=>tB h a vs) (fun ξ ξ ξ=>.und) (fun ξ=>.und) (am a .und fun ξ ξ=>.no)
  (fun ξ kvs may=>am a .und fun o s=>tQ (isInt o s) kvs may) (fun ξ ξ=>.und) (fun ξ ξ ξ=>.und) (fun ξ ξ=>.und) (fun vs=>am a .und fun o s=>lr (bP (isInt o s) vs)) o)
 (fun ξ=>.und) (fun ξ=>.und) (fun ξ=>.und) (fun j=>a6 a .und fun n=>aP (fM j (Int.ofNat n)) .no .yes) ⟨⟩ (fun ξ ξ ξ ξ=>⟨⟩) b
noncomputable def pC (a b:V) (h:T):B3:=am a (@Bool.rec (fun ξ=>B3) .und (@Bool.rec (fun ξ=>B3) .und (eqv h (nat_lit 6) a b) (isD h (nat_lit 6) b)) (isD h (nat_lit 6) a)) fun o s=>am b .und fun o' s'=>seq o s o' s'
noncomputable def j5 (a b:V):B3:=am a .und fun o s=>am b .und fun o' s'=>slt o s o' s'
noncomputable def eY (op:CO) (a b:V) (h:T):B3:=@CO.rec (fun ξ=>B3) (pC a b h) (i3 (pC a b h)) (j5 a b) (i3 (j5 b a)) (j5 b a) (i3 (j5 a b))
 (isNone a b) (i3 (isNone a b)) (tM a b h) (i3 (tM a b h)) op
noncomputable def rS (r:RK):V:=@RK.rec (fun ξ=>V) .unb .unb (fun v=>v) r
noncomputable def sml (n:Nat) (v:V):V:=@Bool.rec (fun ξ=>V) .unb v (Nat.ble n (nat_lit 100000))
noncomputable def tT (pre suf:List V) (i:V):V:=am i .unb fun o s=>@Int.rec (fun ξ=>V) (fun n=>@Bool.rec (fun ξ=>V)
  (@Bool.rec (fun ξ=>V) .unb (@Bool.rec (fun ξ=>V) .unb (sml n (nth suf (Nat.sub n (len pre)))) (Nat.ble (len pre) n)) (Nat.beq s (nat_lit 1)))
  (sml n (nth pre n)) (Nat.beq s (nat_lit 0))) (fun ξ=>.unb) o
noncomputable def item (a i:V) (h:T):V:=@V.rec (fun ξ=>V) (fun ξ=>PUnit) .unb .unb (fun ξ=>.unb) (fun ξ ξ=>.unb) (fun ξ=>.unb) (fun ξ=>.unb)
 (fun vs ξ=>a6 i .unb fun n=>sml n (nth vs n))
 (fun g=>obj (at_ h g) .unb fun ξ o=>@O.rec (fun ξ=>V) (fun ξ vs=>a6 i .unb fun n=>sml n (nth vs n)) (fun ξ pre suf=>tT pre suf i) (fun its=>a6 i .unb fun n=>sml n (aA n its)) .unb
  (fun ξ kvs ξ=>am i .unb fun o s=>rS (aK (isInt o s) kvs)) (fun ξ kvs=>bG i .unb fun j=>rS (aK (isStr j) kvs)) (fun ξ ξ ξ=>.unb) (fun ξ ξ=>.unb) (fun ξ=>.unb) o)
 (fun ξ=>.unb) (fun ξ=>.unb) (fun ξ=>.unb) (fun j=>a6 i .unb fun n=>fM j (Int.ofNat n)) ⟨⟩ (fun ξ ξ ξ ξ=>⟨⟩) a
noncomputable def vI (r:RB) (k:List (V×V)→St):RU:=@RB.rec (fun ξ=>RU) .fail (fun kvs=>.ok (k kvs)) r
noncomputable def iZ (q:V→B3) (kvs:List (V×V)) (may:List V) (r:RU):RU:=@RK.rec (fun ξ=>RU) .fail (@B3.rec (fun ξ=>RU) .fail r .fail (bP q may)) (fun ξ=>.fail) (aK q kvs)
noncomputable def pa (n:Nat) (r:RU):RU:=@Bool.rec (fun ξ=>RU) .fail r (Nat.ble n (nat_lit 100000))
noncomputable def iL (a i v:V) (σ:St):RU:=aC a .fail fun g=>obj (at_ σ.h g) .fail fun w o=>@Bool.rec (fun ξ=>RU) .fail
 (@O.rec (fun ξ=>RU)
  (fun m vs=>a6 i .fail fun n=>aP (sml n (nth vs n)) .fail (.ok (upd σ g (.lst m (bD vs n v)))))
  (fun ξ ξ ξ=>.fail)
  (fun its=>a6 i .fail fun n=>aP (sml n (aA n its)) .fail (.ok (upd σ g (.plst (dN n v its)))))
  (am i (@Bool.rec (fun ξ=>RU) .fail (.ok (upd σ g (.kdct (nat_lit 1) [(i,v)] []))) (gL i)) fun ξ ξ=>.ok (upd σ g (.idct (nat_lit 1) [(i,v)] [])))
  (fun m kvs may=>pa m (am i .fail fun o s=>@B3.rec (fun ξ=>RU) .fail (vI (iT (isInt o s) i v kvs) fun kvs=>upd σ g (.idct (Nat.succ m) kvs may)) .fail (bP (isInt o s) may)))
  (fun m kvs=>pa m (bG i .fail fun j=>vI (iT (isStr j) i v kvs) fun kvs=>upd σ g (.sdct (Nat.succ m) kvs)))
  (fun m kvs may=>pa m (@Bool.rec (fun ξ=>RU) .fail (iZ (eh i) kvs may (.ok (upd σ g (.kdct (Nat.succ m) (sW kvs (i,v)) may)))) (gL i)))
  (fun ξ ξ=>.fail) (fun ξ=>.fail) o) w
noncomputable def getD (kvs:List (V×V)) (may:List V) (q:V→B3) (d:V) (σ:St):RE:=@RK.rec (fun ξ=>RE) .fail (@B3.rec (fun ξ=>RE) .fail (.ok d σ) .fail (bP q may)) (fun v=>.ok v σ) (aK q kvs)
noncomputable def qH (args:List V) (k:V→V→RE):RE:=match args with
 | [x]=>k x .none
 | [x,d]=>k x d
 | _=>.fail
noncomputable def bmeth (a:V) (m:BM) (args:List V) (σ:St):RE:=@BM.rec (fun ξ=>RE)
 (match args with
  | [x]=>aC a .fail fun g=>obj (at_ σ.h g) .fail fun w o=>@Bool.rec (fun ξ=>RE) .fail
   (@O.rec (fun ξ=>RE) (fun n vs=>bz n (.ok .none (upd σ g (.lst (Nat.succ n) (app vs [x]))))) (fun n pre suf=>bz n (.ok .none (upd σ g (.gap (Nat.succ n) pre (app suf [x]))))) (fun ξ=>.fail) .fail (fun ξ ξ ξ=>.fail) (fun ξ ξ=>.fail) (fun ξ ξ ξ=>.fail) (fun ξ ξ=>.fail) (fun ξ=>.fail) o) w
  | _=>.fail)
 (match args with
  | [x]=>aC a .fail fun g=>aS (at_ σ.h g) .fail fun w n vs=>aC x .fail fun g'=>aS (at_ σ.h g') .fail fun ξ n' ws=>bz (Nat.add n n') (@Bool.rec (fun ξ=>RE) .fail (.ok .none (upd σ g (.lst (Nat.add n n') (app vs ws)))) w)
  | _=>.fail)
 (match args with
  | []=>aC a .fail fun g=>aS (at_ σ.h g) .fail fun w n vs=>@Bool.rec (fun ξ=>RE) .fail (bz n (aP (lQ vs) .fail (.ok (lQ vs) (upd σ g (.lst (Nat.sub n (nat_lit 1)) (vK vs)))))) w
  | _=>.fail)
 (qH args fun x d=>aC a (lg a .fail fun j=>a6 x .fail fun n=>aP (fM j (Int.ofNat n)) (.ok d σ) (.ok (fM j (Int.ofNat n)) σ))
  fun g=>obj (at_ σ.h g) .fail fun ξ o=>@O.rec (fun ξ=>RE) (fun ξ ξ=>.fail) (fun ξ ξ ξ=>.fail) (fun ξ=>.fail) (am x .fail fun ξ ξ=>.ok d σ)
   (fun ξ kvs may=>am x .fail fun o s=>getD kvs may (isInt o s) d σ) (fun ξ ξ=>.fail)
   (fun ξ kvs may=>@Bool.rec (fun ξ=>RE) .fail (getD kvs may (eh x) d σ) (gL x)) (fun ξ ξ=>.fail) (fun ξ=>.fail) o) m
noncomputable def one (args:List V) (k:V→RE):RE:=match args with
 | [x]=>k x
 | _=>.fail
noncomputable def iC (i:Nat) (args:List V) (σ:St):RE:=match i with
 | 0=>one args fun x=>aQ x (aC x .fail fun g=>obj (at_ σ.h g) .fail fun ξ o=>@O.rec (fun ξ=>RE) (fun n ξ=>bz n (.ok (.int (Int.ofNat n) (nat_lit 0)) σ)) (fun n ξ ξ=>bz n (.ok (.int (Int.ofNat n) (nat_lit 1)) σ))
   (fun ξ=>.fail) .fail (fun ξ ξ ξ=>.fail) (fun ξ ξ=>.fail) (fun ξ ξ ξ=>.fail) (fun ξ ξ=>.fail) (fun ξ=>.fail) o) fun vs=>bz (len vs) (.ok (.int (Int.ofNat (len vs)) (nat_lit 0)) σ)
 | 2=>one args fun x=>aQ x (aC x .fail fun g=>aS (at_ σ.h g) .fail fun ξ n vs=>bz n (.ok (.tup vs) σ)) fun vs=>.ok (.tup vs) σ
 | 4=>one args fun x=>a6 x .fail fun n=>@Bool.rec (fun ξ=>RE) .fail (.ok (.anyStr (nat_lit 20)) σ) (Nat.ble n (nat_lit 200))
 | 5=>match args with
  | [x,.bi 6]=>am x (bG x .fail fun ξ=>.ok (.bool false) σ) fun ξ ξ=>.ok (.bool true) σ
  | [x,.bi 4]=>am x (bG x .fail fun ξ=>.ok (.bool true) σ) fun ξ ξ=>.ok (.bool false) σ
  | _=>.fail
 | _=>.fail
noncomputable def gH (c:Cell) (l d:Bool):Bool:=obj c false fun ξ o=>@O.rec (fun ξ=>Bool) (fun ξ ξ=>l) (fun ξ ξ ξ=>l) (fun ξ=>l) d (fun ξ ξ ξ=>d) (fun ξ ξ=>d) (fun ξ ξ ξ=>d) (fun ξ ξ=>false) (fun ξ=>l) o
noncomputable def mOk (h:T) (a:V) (m:BM):Bool:=@BM.rec (fun ξ=>Bool) (aC a false fun g=>gH (at_ h g) true false) (aC a false fun g=>gH (at_ h g) true false) (aC a false fun g=>gH (at_ h g) true false)
 (aC a (lg a false fun ξ=>true) fun g=>gH (at_ h g) false true) m
structure Ev where
 e:List V→GE→St→RE
 t:List V→GE→St→RT
 s:List V→GS→St→RS
 f:Ps→List V→St→RE
section
variable (ih:Ev)
noncomputable def evs (ρ:List V) (l:List GE):St→RL :=
 @List.rec GE (fun ξ=>St→RL) (fun σ=>.ok [] σ) (fun e ξ rest σ=>@RE.rec (fun ξ=>RL) .fail (fun v σ=>@RL.rec (fun ξ=>RL) .fail (fun vs σ=>.ok (v :: vs) σ) (rest σ)) (ih.e ρ e σ)) l
noncomputable def evp (ρ:List V) (l:List (GE×GE)):St→RP :=
 @List.rec (GE×GE) (fun ξ=>St→RP) (fun σ=>.ok [] σ) (fun p ξ rest σ=>@RE.rec (fun ξ=>RP) .fail (fun k σ=>@RE.rec (fun ξ=>RP) .fail (fun v σ=>@RP.rec (fun ξ=>RP) .fail (fun kvs σ=>.ok ((k,v) :: kvs) σ) (rest σ)) (ih.e ρ p.2 σ)) (ih.e ρ p.1 σ)) l
noncomputable def evb (stop:Bool) (ρ:List V) (l:List GE):St→RT :=
 @List.rec GE (fun ξ=>St→RT) (fun σ=>.ok (not stop) σ) (fun e ξ rest σ=>@RT.rec (fun ξ=>RT) .fail
  (fun b σ=>@Bool.rec (fun ξ=>RT) (@Bool.rec (fun ξ=>RT) (.ok false σ) (rest σ) stop) (@Bool.rec (fun ξ=>RT) (rest σ) (.ok true σ) stop) b) (ih.t ρ e σ)) l
noncomputable def blk (l:List GS):List V→St→RS :=
 @List.rec GS (fun ξ=>List V→St→RS) (fun ρ σ=>.next ρ σ) (fun s ξ rest ρ σ=>@RS.rec (fun ξ=>RS) .fail (fun ρ σ=>rest ρ σ) (fun v σ=>.ret v σ) (ih.s ρ s σ)) l
noncomputable def lO (bind:List V→V→LO) (body:List GS) (l:List V):List V→St→RS :=
 @List.rec V (fun ξ=>List V→St→RS) (fun ρ σ=>.next ρ σ) (fun v ξ rest ρ σ=>@LO.rec (fun ξ=>RS) .fail (fun ρ=>@RS.rec (fun ξ=>RS) .fail (fun ρ σ=>rest ρ σ) (fun v σ=>.ret v σ) (blk ih body ρ σ)) (bind ρ v)) l
noncomputable def kQ (i:Ps) (args:List V) (σ:St):RE:=@Fn.rec (fun ξ=>RE) .fail (fun ar nl body=>@Bool.rec (fun ξ=>RE) .fail
 (@RS.rec (fun ξ=>RE) .fail (fun ξ σ=>.ok .none σ) (fun v σ=>.ok v σ) (blk ih body (app args (jf (Nat.sub nl ar))) σ)) (Nat.beq (len args) ar)) (Tr.get .no i ft)
noncomputable def new (c:Ps) (args:List V) (σ:St):RE:=@Cl.rec (fun ξ=>RE) .fail (fun init ξ=>@RE.rec (fun ξ=>RE) .fail (fun x σ=>@RE.rec (fun ξ=>RE) .fail (fun r σ=>jS r (.ok x σ) .fail) (ih.f init (x :: args) σ)) (alloc σ (.inst c []))) (Tr.get .no c jn)
noncomputable def apply (f:V) (args:List V) (σ:St):RE:=@V.rec (fun ξ=>RE) (fun ξ=>PUnit) .fail .fail (fun ξ=>.fail) (fun ξ ξ=>.fail) (fun ξ=>.fail) (fun ξ=>.fail) (fun ξ ξ=>.fail) (fun ξ=>.fail)
 (fun i=>ih.f i args σ) (fun c=>new ih c args σ) (fun i=>iC i args σ) (fun ξ=>.fail) ⟨⟩ (fun ξ ξ ξ ξ=>⟨⟩) f
noncomputable def fH (x:V) (e:GE):V:=match e with
 | .loc 0=>x
 | .bin .add (.cint n) (.loc 0)=>match x with | .int o s=>.int (Int.add n o) s | _=>.unb
 | _=>.unb
noncomputable def fO (elt:GE) (l:List V):LO :=
 @List.rec V (fun ξ=>LO) (.ok []) (fun v ξ r=>@LO.rec (fun ξ=>LO) .fail (fun r=>aP (fH v elt) .fail (.ok (fH v elt :: r))) r) l
noncomputable def items (a:V) (σ:St):OL:=aQ a (aC a .fail fun g=>aS (at_ σ.h g) .fail fun ξ n vs=>.ok n vs) fun vs=>.ok (len vs) vs
noncomputable def mj (n:Nat) (r:OL):OL:=@Bool.rec (fun ξ=>OL) .fail r (Nat.ble n (nat_lit 100000))
noncomputable def iR (args:List V):OL:=match args with
 | [x]=>a6 x .fail fun n=>mj n (.ok n (fb n (Int.ofNat (nat_lit 0))))
 | [x,y]=>a6 x .fail fun a=>a6 y .fail fun b=>mj a (mj b (.ok (Nat.sub b a) (fb (Nat.sub b a) (Int.ofNat a))))
 | _=>.fail
noncomputable def po (ρ:List V) (e:GE) (f:Nat) (σ:St):RE:=@RE.rec (fun ξ=>RE) .fail (fun v σ=>aC v .fail fun g=>gv (at_ σ.h g) .fail fun ξ ξ fs=>aP (aA f fs) .fail (.ok (aA f fs) σ)) (ih.e ρ e σ)
noncomputable def rV (ρ:List V) (a i:GE) (σ:St):RE:=@RE.rec (fun ξ=>RE) .fail (fun a σ=>@RE.rec (fun ξ=>RE) .fail (fun i σ=>aP (item a i σ.h) .fail (.ok (item a i σ.h) σ)) (ih.e ρ i σ)) (ih.e ρ a σ)
noncomputable def nL (ρ:List V) (a:GE) (k:Nat) (σ:St):RE:=@RE.rec (fun ξ=>RE) .fail (fun a σ=>aC a .fail fun g=>aS (at_ σ.h g) .fail fun ξ n vs=>bz n (alloc σ (.lst (len (jz vs k)) (jz vs k)))) (ih.e ρ a σ)
noncomputable def j0 (ρ:List V) (a:GE) (k:Nat) (σ:St):RE:=@RE.rec (fun ξ=>RE) .fail (fun a σ=>aC a .fail fun g=>aS (at_ σ.h g) .fail fun ξ n vs=>bz n (alloc σ (.lst (len (j1 vs k)) (j1 vs k)))) (ih.e ρ a σ)
noncomputable def rX (ρ:List V) (a:GE) (σ:St):RE:=@RE.rec (fun ξ=>RE) .fail (fun a σ=>aQ a .fail fun vs=>bz (len vs) (.ok (.tup (qw vs [])) σ)) (ih.e ρ a σ)
noncomputable def uc (ρ:List V) (f:GE) (args:List GE) (σ:St):RE:=@RE.rec (fun ξ=>RE) .fail (fun f σ=>@RL.rec (fun ξ=>RE) .fail (fun vs σ=>apply ih f vs σ) (evs ih ρ args σ)) (ih.e ρ f σ)
noncomputable def pn (ρ:List V) (o:GE) (name:Nat) (args:List GE) (σ:St):RE:=@RE.rec (fun ξ=>RE) .fail (fun o σ=>aC o .fail fun g=>gv (at_ σ.h g) .fail fun ξ c fs=>aP (aA name fs)
 (@Cl.rec (fun ξ=>RE) .fail (fun ξ ms=>@Option.rec Ps (fun ξ=>RE) .fail (fun f=>@RL.rec (fun ξ=>RE) .fail (fun vs σ=>ih.f f (o :: vs) σ) (evs ih ρ args σ)) (nt name ms)) (Tr.get .no c jn)) .fail) (ih.e ρ o σ)
noncomputable def mv (ρ:List V) (o:GE) (m:BM) (args:List GE) (σ:St):RE:=@RE.rec (fun ξ=>RE) .fail (fun o σ=>@Bool.rec (fun ξ=>RE) .fail (@RL.rec (fun ξ=>RE) .fail (fun vs σ=>bmeth o m vs σ) (evs ih ρ args σ)) (mOk σ.h o m)) (ih.e ρ o σ)
noncomputable def r7 (ρ:List V) (op:BO) (a b:GE) (σ:St):RE:=@RE.rec (fun ξ=>RE) .fail (fun a σ=>@RE.rec (fun ξ=>RE) .fail (fun b σ=>r8 op a b σ) (ih.e ρ b σ)) (ih.e ρ a σ)
noncomputable def mu (ρ:List V) (op:CO) (a b:GE) (σ:St):RT:=@RE.rec (fun ξ=>RT) .fail (fun a σ=>@RE.rec (fun ξ=>RT) .fail (fun b σ=>@B3.rec (fun ξ=>RT) .fail (.ok false σ) (.ok true σ) (eY op a b σ.h)) (ih.e ρ b σ)) (ih.e ρ a σ)
noncomputable def kT (ρ:List V) (o1 o2:CO) (a b c:GE) (σ:St):RT:=@RE.rec (fun ξ=>RT) .fail (fun a σ=>@RE.rec (fun ξ=>RT) .fail (fun b σ=>@B3.rec (fun ξ=>RT) .fail (.ok false σ)
 (@RE.rec (fun ξ=>RT) .fail (fun c σ=>@B3.rec (fun ξ=>RT) .fail (.ok false σ) (.ok true σ) (eY o2 b c σ.h)) (ih.e ρ c σ)) (eY o1 a b σ.h)) (ih.e ρ b σ)) (ih.e ρ a σ)
noncomputable def ofT (r:RT):RE:=@RT.rec (fun ξ=>RE) .fail (fun b σ=>.ok (.bool b) σ) r
noncomputable def ofL (r:RL) (k:List V→St→RE):RE:=@RL.rec (fun ξ=>RE) .fail k r
noncomputable def rZ (ρ:List V) (c a b:GE) (σ:St):RE:=@RT.rec (fun ξ=>RE) .fail (fun t σ=>@Bool.rec (fun ξ=>RE) (ih.e ρ b σ) (ih.e ρ a σ) t) (ih.t ρ c σ)
noncomputable def aZ (l:List (V×V)):Bool:=@List.rec (V×V) (fun ξ=>Bool) true (fun p t r=>am p.1 false fun o s=>@RK.rec (fun ξ=>Bool) false r (fun ξ=>false) (aK (isInt o s) t)) l
noncomputable def aY (l:List (V×V)):Bool:=@List.rec (V×V) (fun ξ=>Bool) true (fun p t r=>bG p.1 false fun i=>@RK.rec (fun ξ=>Bool) false r (fun ξ=>false) (aK (isStr i) t)) l
noncomputable def vO (kvs:List (V×V)) (σ:St):RE:=match kvs with
 | []=>alloc σ .emp
 | (k,_) :: _=>am k (bG k .fail fun ξ=>Bool.casesOn (aY kvs) .fail (alloc σ (.sdct (nat_lit 20) kvs))) fun ξ ξ=>Bool.casesOn (aZ kvs) .fail (alloc σ (.idct (nat_lit 20) kvs []))
noncomputable def r6 (ρ:List V) (l:List (GE×GE)) (σ:St):RE:=@RP.rec (fun ξ=>RE) .fail (fun kvs σ=>vO kvs σ) (evp ih ρ l σ)
noncomputable def kI (elt:GE) (r:OL) (σ:St):RE:=@OL.rec (fun ξ=>RE) .fail (fun n vs=>bz n (@LO.rec (fun ξ=>RE) .fail (fun ws=>alloc σ (.lst n ws)) (fO elt vs))) r
noncomputable def kS (ρ:List V) (elt it:GE) (σ:St):RE:=@RE.rec (fun ξ=>RE) .fail (fun a σ=>kI elt (items a σ) σ) (ih.e ρ it σ)
noncomputable def jj (ρ:List V) (elt:GE) (args:List GE) (σ:St):RE:=@RL.rec (fun ξ=>RE) .fail (fun vs σ=>kI elt (iR vs) σ) (evs ih ρ args σ)
noncomputable def rY (ρ:List V) (e:GE) (σ:St):RE:=@RE.rec (fun ξ=>RE) .fail (fun v σ=>a6 v .fail fun n=>.ok (.int (Int.neg (Int.ofNat n)) (nat_lit 0)) σ) (ih.e ρ e σ)
noncomputable def pk (ρ:List V) (e:GE) (σ:St):RT:=@RT.rec (fun ξ=>RT) .fail (fun b σ=>.ok (not b) σ) (ih.t ρ e σ)
noncomputable def rU (ρ:List V) (e:GE) (σ:St):RE:=GE.casesOn e
 (fun i=>aP (nth ρ i) .fail (.ok (nth ρ i) σ)) (fun ξ v=>.ok v σ)
 (fun n=>.ok (.int n (nat_lit 0)) σ) (fun i=>.ok (.str i) σ) (.ok .none σ) (fun b=>.ok (.bool b) σ)
 (fun e f=>po ih ρ e f σ) (fun a i=>rV ih ρ a i σ) (fun a k=>nL ih ρ a k σ) (fun a k=>j0 ih ρ a k σ) (fun a=>rX ih ρ a σ)
 (fun f args=>uc ih ρ f args σ) (fun o name args=>pn ih ρ o name args σ) (fun o m args=>mv ih ρ o m args σ)
 (fun op a b=>r7 ih ρ op a b σ) (fun op a b=>ofT (mu ih ρ op a b σ)) (fun o1 o2 a b c=>ofT (kT ih ρ o1 o2 a b c σ))
 (fun es=>ofT (evb ih false ρ es σ)) (fun es=>ofT (evb ih true ρ es σ)) (fun e=>ofT (pk ih ρ e σ)) (fun c a b=>rZ ih ρ c a b σ)
 (fun es=>ofL (evs ih ρ es σ) (fun vs σ=>.ok (.tup vs) σ)) (fun es=>ofL (evs ih ρ es σ) (fun vs σ=>alloc σ (.lst (len vs) vs))) (fun l=>r6 ih ρ l σ)
 (fun elt it=>kS ih ρ elt it σ) (fun elt args=>jj ih ρ elt args σ) (fun e=>rY ih ρ e σ)
noncomputable def bU (ρ:List V) (e:GE) (σ:St):RT:=@RE.rec (fun ξ=>RT) .fail (fun v σ=>gY v .fail fun b=>.ok b σ) (ih.e ρ e σ)
noncomputable def rB (ρ:List V) (e:GE) (σ:St):RT:=GE.casesOn e
 (fun ξ=>bU ih ρ e σ) (fun ξ ξ=>bU ih ρ e σ) (fun ξ=>bU ih ρ e σ) (fun ξ=>bU ih ρ e σ) (bU ih ρ e σ) (fun ξ=>bU ih ρ e σ)
 (fun ξ ξ=>bU ih ρ e σ) (fun ξ ξ=>bU ih ρ e σ) (fun ξ ξ=>bU ih ρ e σ) (fun ξ ξ=>bU ih ρ e σ) (fun ξ=>bU ih ρ e σ)
 (fun ξ ξ=>bU ih ρ e σ) (fun ξ ξ ξ=>bU ih ρ e σ) (fun ξ ξ ξ=>bU ih ρ e σ)
 (fun ξ ξ ξ=>bU ih ρ e σ) (fun op a b=>mu ih ρ op a b σ) (fun o1 o2 a b c=>kT ih ρ o1 o2 a b c σ)
 (fun es=>evb ih false ρ es σ) (fun es=>evb ih true ρ es σ) (fun e=>pk ih ρ e σ) (fun ξ ξ ξ=>.fail)
 (fun ξ=>bU ih ρ e σ) (fun ξ=>bU ih ρ e σ) (fun ξ=>bU ih ρ e σ)
 (fun ξ ξ=>bU ih ρ e σ) (fun ξ ξ=>bU ih ρ e σ) (fun ξ=>bU ih ρ e σ)
noncomputable def s_assign (ρ:List V) (x:Nat) (e:GE) (σ:St):RS:=@RE.rec (fun ξ=>RS) .fail (fun v σ=>.next (bD ρ x v) σ) (ih.e ρ e σ)
noncomputable def s_setattr (ρ:List V) (o:GE) (f:Nat) (e:GE) (σ:St):RS:=@RE.rec (fun ξ=>RS) .fail (fun v σ=>@RE.rec (fun ξ=>RS) .fail (fun o σ=>aC o .fail fun g=>gv (at_ σ.h g) .fail fun w c fs =>
 @Bool.rec (fun ξ=>RS) .fail (@Bool.rec (fun ξ=>RS) .fail (.next ρ (upd σ g (.inst c (dN f v fs)))) (Nat.ble (qJ fs) (nat_lit 200))) w) (ih.e ρ o σ)) (ih.e ρ e σ)
noncomputable def ofU (ρ:List V) (r:RU):RS:=@RU.rec (fun ξ=>RS) .fail (fun σ=>.next ρ σ) r
noncomputable def s_setsub (ρ:List V) (o i e:GE) (σ:St):RS:=@RE.rec (fun ξ=>RS) .fail (fun v σ=>@RE.rec (fun ξ=>RS) .fail (fun o σ=>@RE.rec (fun ξ=>RS) .fail (fun i σ=>ofU ρ (iL o i v σ)) (ih.e ρ i σ)) (ih.e ρ o σ)) (ih.e ρ e σ)
noncomputable def ofO (σ:St) (r:LO):RS:=@LO.rec (fun ξ=>RS) .fail (fun ρ=>.next ρ σ) r
noncomputable def jD (ρ:List V) (xs:List Nat) (e:GE) (σ:St):RS:=@RE.rec (fun ξ=>RS) .fail (fun v σ=>aQ v .fail fun vs=>ofO σ (de xs vs ρ)) (ih.e ρ e σ)
noncomputable def rG (ρ:List V) (x:Nat) (op:BO) (e:GE) (σ:St):RS:=am (nth ρ x) .fail fun o s=>@RE.rec (fun ξ=>RS) .fail (fun v σ=>am v .fail fun p t=>@RE.rec (fun ξ=>RS) .fail (fun r σ=>.next (bD ρ x r) σ) (pJ op o s p t σ)) (ih.e ρ e σ)
noncomputable def jE (ρ:List V) (o i:GE) (op:BO) (e:GE) (σ:St):RS:=@RE.rec (fun ξ=>RS) .fail (fun o σ=>@RE.rec (fun ξ=>RS) .fail (fun i σ=>am (item o i σ.h) .fail fun a s =>
 @RE.rec (fun ξ=>RS) .fail (fun v σ=>am v .fail fun p t=>@RE.rec (fun ξ=>RS) .fail (fun r σ=>ofU ρ (iL o i r σ)) (pJ op a s p t σ)) (ih.e ρ e σ)) (ih.e ρ i σ)) (ih.e ρ o σ)
noncomputable def flag (σ:St) (g:Ps) (w:Bool) (n:Nat) (vs:List V):St:=⟨Tr.put .no (.ob w (.lst n vs)) g σ.h,σ.n⟩
noncomputable def vM (a:V) (bind:List V→V→LO) (body:List GS) (ρ:List V) (σ:St):RS:=aQ a
 (aC a .fail fun g=>aS (at_ σ.h g) .fail fun w n vs=>@RS.rec (fun ξ=>RS) .fail (fun ρ σ=>.next ρ (flag σ g w n vs)) (fun v σ=>.ret v (flag σ g w n vs)) (lO ih bind body vs ρ (flag σ g false n vs)))
 fun vs=>lO ih bind body vs ρ σ
noncomputable def aL (x:Nat) (ρ:List V) (v:V):LO:=.ok (bD ρ x v)
noncomputable def r9 (xs:List Nat) (ρ:List V) (v:V):LO:=aQ v .fail fun vs=>de xs vs ρ
noncomputable def oi (ρ:List V) (bind:List V→V→LO) (it:GE) (b:List GS) (σ:St):RS:=@RE.rec (fun ξ=>RS) .fail (fun a σ=>vM ih a bind b ρ σ) (ih.e ρ it σ)
noncomputable def oh (ρ:List V) (x:Nat) (args:List GE) (b:List GS) (σ:St):RS:=@RL.rec (fun ξ=>RS) .fail (fun vs σ=>@OL.rec (fun ξ=>RS) .fail (fun ξ vs=>lO ih (aL x) b vs ρ σ) (iR vs)) (evs ih ρ args σ)
noncomputable def s_expr (ρ:List V) (e:GE) (σ:St):RS:=@RE.rec (fun ξ=>RS) .fail (fun ξ σ=>.next ρ σ) (ih.e ρ e σ)
noncomputable def s_ret (ρ:List V) (e:GE) (σ:St):RS:=@RE.rec (fun ξ=>RS) .fail (fun v σ=>.ret v σ) (ih.e ρ e σ)
noncomputable def rF (ρ:List V) (c:GE) (a b:List GS) (σ:St):RS:=@RT.rec (fun ξ=>RS) .fail (fun t σ=>@Bool.rec (fun ξ=>RS) (blk ih b ρ σ) (blk ih a ρ σ) t) (ih.t ρ c σ)
noncomputable def rE (ρ:List V) (s:GS) (σ:St):RS:=GS.casesOn s
 (fun x e=>s_assign ih ρ x e σ) (fun o f e=>s_setattr ih ρ o f e σ) (fun o i e=>s_setsub ih ρ o i e σ) (fun xs e=>jD ih ρ xs e σ) (fun x op e=>rG ih ρ x op e σ) (fun o i op e=>jE ih ρ o i op e σ)
 (fun e=>s_expr ih ρ e σ) (fun e=>s_ret ih ρ e σ) (fun c a b=>rF ih ρ c a b σ) (fun x it b=>oi ih ρ (aL x) it b σ) (fun xs it b=>oi ih ρ (r9 xs) it b σ) (fun x args b=>oh ih ρ x args b σ) .fail
end
noncomputable def ev0:Ev:=⟨fun ξ ξ ξ=>.fail,fun ξ ξ ξ=>.fail,fun ξ ξ ξ=>.fail,fun ξ ξ ξ=>.fail⟩
noncomputable def dP (ih:Ev):Ev:=⟨rU ih,rB ih,rE ih,kQ ih⟩
noncomputable def ev (n:Nat):Ev:=@Nat.rec (fun ξ=>Ev) ev0 (fun ξ ih=>dP ih) n
end Gh
end
section
namespace Gh
theorem ct {p:Prop} (h:(p→False)→False):p:=Classical.byContradiction h
open PySem PyProof.Rows PySem.W
theorem wm {α:Type} {M:Model} {A:Around} {t:Sem α} {Q Q':α→Shared→Prop} {E:Value→Shared→Prop} {s:Shared} (h:wpAny M A t Q E s) (k:∀ a s,Q a s→Q' a s):wpAny M A t Q' E s:=wpAny_mono h k fun ξ ξ e=>e
inductive F2 {α β:Type} (R:α→β→Prop):List α→List β→Prop
 | nil:F2 R [] []
 | cons {a b l m}:R a b→F2 R l m→F2 R (a :: l) (b :: m)
namespace F2
variable {α β:Type} {R S:α→β→Prop}
theorem length {l:List α} {m:List β} (f:F2 R l m):l.length=m.length:=by
 induction f with
 | nil=>rfl
 | cons _ _ ih=>exact congrArg Nat.succ ih
theorem mono (hRS:∀ a b,R a b→S a b) {l:List α} {m:List β} (f:F2 R l m):F2 S l m:=by
 induction f with
 | nil=>exact .nil
 | cons a _ ih=>exact .cons (hRS _ _ a) ih
theorem get {l:List α} {m:List β} (f:F2 R l m):∀ {i:Nat} {a b},l[i]?=some a→m[i]?=some b→R a b:=by
 induction f with
 | nil=>intro i a b h;exact nomatch h
 | cons x _ ih =>
  intro i a b ha hb
  cases i with
  | zero=>obtain rfl:=Option.some.inj ha;obtain rfl:=Option.some.inj hb;exact x
  | succ i=>exact ih (i:=i) ha hb
theorem of_get {l:List α}:∀ {m:List β},l.length=m.length→(∀ (i:Nat) a b,l[i]?=some a→m[i]?=some b→R a b)→F2 R l m:=by
 induction l with
 | nil=>intro m e _;cases m with
  | nil=>exact .nil
  | cons _ _=>exact nomatch e
 | cons a l ih=>intro m e h;cases m with
  | nil=>exact nomatch e
  | cons b m=>exact .cons (h 0 a b rfl rfl) (ih (Nat.succ.inj e) fun i=>h (i+1))
theorem app {l l':List α} {m m':List β} (f:F2 R l m) (h':F2 R l' m'):F2 R (l++l') (m++m'):=by
 induction f with
 | nil=>exact h'
 | cons a _ ih=>exact .cons a ih
theorem n1 {m:List β} (f:F2 R [] m):m=[]:=by cases f;rfl
theorem c1 {a:α} {l:List α} {m:List β} (f:F2 R (a :: l) m):∃ b k,m=b :: k∧R a b∧F2 R l k:=by cases f with | cons r f=>exact ⟨_,_,rfl,r,f⟩
theorem o1 {a:α} {m:List β} (f:F2 R [a] m):∃ b,m=[b]∧R a b:=by obtain ⟨b,k,rfl,r,f⟩:=f.c1;rw [f.n1];exact ⟨b,rfl,r⟩
theorem o2 {a b:α} {m:List β} (f:F2 R [a,b] m):∃ c d,m=[c,d]∧R a c∧R b d:=by obtain ⟨c,k,rfl,r,f⟩:=f.c1;obtain ⟨d,rfl,q⟩:=f.o1;exact ⟨c,d,rfl,r,q⟩
end F2
noncomputable abbrev hY:=Sum Int (List Int)
noncomputable abbrev bu:=Int×Int×Option (List Int)
noncomputable def ai:bu→List hY
 | (a,b,none)=>[.inl a,.inl b]
 | (a,b,some l)=>[.inl a,.inl b,.inr l]
theorem ee:∀ {x y:bu},ai x=ai y→x=y
 | (a,b,none),(c,d,none),e=>by simp [ai] at e;rw [e.1,e.2]
 | (a,b,some l),(c,d,some m),e=>by simp [ai] at e;rw [e.1,e.2.1,e.2.2]
 | (a,b,none),(c,d,some m),e=>by simp [ai] at e
 | (a,b,some l),(c,d,none),e=>by simp [ai] at e
inductive Al:List hY→List hY→Prop
 | nl {m}:Al [] m
 | nr {l}:Al l []
 | inl {i j l m}:Al l m→Al (.inl i :: l) (.inl j :: m)
 | inr {i j l m}:Al l m→Al (.inr i :: l) (.inr j :: m)
theorem qZ:∀ x y:bu,Al (ai x) (ai y)
 | (a,b,none),(c,d,none)=>.inl (.inl .nl)
 | (a,b,some l),(c,d,some m)=>.inl (.inl (.inr .nl))
 | (a,b,none),(c,d,some m)=>.inl (.inl .nl)
 | (a,b,some l),(c,d,none)=>.inl (.inl .nr)
section
variable {prog:Program} {w:World}
noncomputable def rowItem (prog:Program) (w:World) (h:Heap):hY→Value→Prop
 | .inl i,v=>(intKind prog w).is i v=true
 | .inr l,v=>∃ b,v=.ref b∧IsTupleKey (intKind prog w) h l b
noncomputable def IsRowKey (prog:Program) (w:World) (h:Heap) (k:bu) (a:Addr):Prop :=
 ∃ o items n,h.get? a=some o∧o.cls=.type "tuple"∧o.data=.seq items n∧F2 (rowItem prog w h) (ai k) items.toList
theorem rowItem.inj {h:Heap} {x y:hY} {v:Value} (a:rowItem prog w h x v) (b:rowItem prog w h y v):x=y:=by
 have nr:∀ {i:Int} {c:Addr},(intKind prog w).is i (.ref c)=true→False:=fun e=>by simp [intKind,Value.isInt] at e
 cases x<;>cases y
 ·exact congrArg _ ((intKind prog w).inj _ _ _ a b)
 ·obtain ⟨c,rfl,_⟩:=b;exact (nr a).elim
 ·obtain ⟨c,rfl,_⟩:=a;exact (nr b).elim
 ·obtain ⟨c,rfl,x1⟩:=a;obtain ⟨d,e,y1⟩:=b;cases e;exact congrArg _ (x1.inj y1)
theorem ol {h:Heap} {x y:List hY} {vs:List Value} (f:F2 (rowItem prog w h) x vs):F2 (rowItem prog w h) y vs→x=y:=by
 induction f generalizing y with
 | nil=>intro g;cases g;rfl
 | cons a l ih=>intro g;cases g with | cons b m=>rw [a.inj b,ih m]
theorem IsRowKey.inj {h:Heap} {a:Addr} {x y:bu} (hx:IsRowKey prog w h x a) (hy:IsRowKey prog w h y a):x=y:=by
 obtain ⟨o,items,n,ho,_,hd,hi⟩:=hx
 obtain ⟨o',items',n',ho',_,hd',hi'⟩:=hy
 obtain rfl:o=o':=Option.some.inj (ho.symm.trans ho')
 rw [hd] at hd'
 injection hd' with h1 _
 subst h1
 exact ee (ol hi hi')
theorem rowItem.keep {h h':Heap} (kp:∀ k c,IsTupleKey (intKind prog w) h k c→IsTupleKey (intKind prog w) h' k c) {x:hY} {v:Value} (a:rowItem prog w h x v):rowItem prog w h' x v:=by
 cases x with
 | inl i=>exact a
 | inr l=>obtain ⟨c,e,z⟩:=a;exact ⟨c,e,kp _ _ z⟩
theorem IsRowKey.keeps {h h':Heap} {ks:bu} {a d:Addr} {o:Obj} {es ep} (x:IsRowKey prog w h ks a) (ho:h.get? d=some o) (hd:o.data=.dict es ep) (hs:Heap.SameBut d h h'):IsRowKey prog w h' ks a:=by
 obtain ⟨o',items,n,ho',hc,hd',hi⟩:=x
 have hne:a≠d:=by
  rintro rfl
  obtain rfl:o'=o:=Option.some.inj (ho'.symm.trans ho)
  rw [hd] at hd';exact nomatch hd'
 exact ⟨o',items,n,(hs.2 a hne).trans ho',hc,hd',hi.mono fun ξ ξ=>rowItem.keep fun ξ ξ z=>z.keeps ho hd hs⟩
theorem IsRowKey.typeIs {s:Shared} {ks:bu} {a:Addr} (x:IsRowKey prog w s.heap ks a):s.TypeIs (.ref a) "tuple":=let ⟨o,_,_,ho,hc,_⟩:=x;⟨o,ho,hc⟩
noncomputable def bR (prog:Program) (w:World):hY→Int
 | .inl i=>(intKind prog w).hash i
 | .inr l=>tupleKeyHash (intKind prog w) l
noncomputable def fu:hY→Nat
 | .inl _=>1
 | .inr l=>l.length+1
noncomputable def iO (prog:Program) (w:World) (ks:bu):Int:=reduceHash (Builtin.Tuple.tupleHashOf ((ai ks).map (bR prog w)))
noncomputable def et (ks:bu):Nat:=((ai ks).map fu).sum+1
variable {A:Around} {E:Value→Shared→Prop} {s:Shared}
theorem ny {x:hY} {v:Value} {Q:Int→Shared→Prop} (hu:A.units < cLine) (hx:rowItem prog w s.heap x v) (q:Q (bR prog w x) { s with toks:=s.toks+fu x }):wpAny (model prog w) A (pyHash v) Q E s:=by
 cases x with
 | inl i=>exact (intKind prog w).pyHash hx q
 | inr l=>obtain ⟨b,rfl,z⟩:=hx;exact wpAny_pyHash_tuple hu z q
theorem om {ks:bu} {a:Addr} {Q:Int→Shared→Prop} (hu:A.units+50 < cLine) (hk:IsRowKey prog w s.heap ks a) (h:Q (iO prog w ks) { s with toks:=s.toks+et ks }) :
  wpAny (model prog w) A (pyHash (.ref a)) Q E s:=by
 have hT:=hk.typeIs
 obtain ⟨o,items,n,ho,_,hd,hi⟩:=hk
 unfold pyHash
 first | unfold pyHashByItsType | skip
 first | refine wpAny_bind (wpAny_cRoomFor_or (.inr (by omega)) ?_) | skip
 refine wpAny_bind (wpAny_specialOf hT F.slot_tuple_hash.lookup ?_)
 show wpAny _ _ (if (some (Value.builtin "tuple.__hash__")==some Value.none)=true then _ else _) Q E s
 rw [if_neg (by rw [beq_builtin_none];exact Bool.false_ne_true)]
 refine wpAny_bind (wpAny_specialOf hT F.slot_tuple_hash.lookup ?_)
 show wpAny _ _ (callSpecialIfBoundUnlessNone? (.ref a) "__hash__" _ >>= _) Q E s
 refine wpAny_bind (wpAny_callSpecialIfBoundUnlessNone?_slot hT F.slot_tuple_hash (wpAny_call_entry F.slot_tuple_hash hT F.entry_tuple_hash ?_ (F.args_tuple_hash_1 _)))
 show wpAny _ _ (Builtin.Tuple.tupleItemsOf (.ref a) >>= _) _ _ s
 refine wpAny_bind (wpAny_tupleItemsOf ho hd ?_)
 refine wpAny_bind ?_
 rw [← Array.forIn_toList]
 refine wpAny_forIn_list _
  (fun rest (b:Array Int) s'=>∃ done left,ai ks=done++left∧F2 (rowItem prog w s.heap) left rest∧b.toList=done.map (bR prog w)∧s'={ s with toks:=s.toks+(done.map fu).sum })
  _ ?_ ?_ _ _ ⟨[],ai ks,rfl,hi,rfl,rfl⟩
 ·rintro x rest b s' ⟨done,left,e,hl,hb,rfl⟩
  cases hl with
  | @cons k _ ks' _ h1 hl' =>
   refine wpAny_bind (ny (by rw [Around.in1_units];omega) h1 ?_)
   have e':ai ks=(done++[k])++ks':=by rw [e,List.append_assoc];rfl
   first
    | exact wpAny_pure ⟨done++[k],ks',e',hl',by simp [hb],by simp [Nat.add_assoc]⟩
    | exact wpAny_bind (wpAny_pure (wpAny_pure ⟨done++[k],ks',e',hl',by simp [hb],by simp [Nat.add_assoc]⟩))
 ·rintro b s' ⟨done,left,e,hl,hb,rfl⟩
  cases hl
  rw [List.append_nil] at e
  show wpAny _ _ (retInt (Builtin.Tuple.tupleHashOf b.toList)) _ _ _
  rw [hb]
  refine wpAny_ret_mkInt ?_
  show wpAny _ _ (if (decide (-(2:Int) ^ 63≤Builtin.Tuple.tupleHashOf (done.map (bR prog w)))&&decide (Builtin.Tuple.tupleHashOf (done.map (bR prog w)) < 2 ^ 63))=true then _ else _) Q E _
  unfold iO et reduceHash at h
  rw [e] at h
  by_cases hr:(decide (-(2:Int) ^ 63≤Builtin.Tuple.tupleHashOf (done.map (bR prog w)))&&decide (Builtin.Tuple.tupleHashOf (done.map (bR prog w)) < 2 ^ 63))=true
  ·rw [if_pos hr]
   rw [if_pos hr] at h
   exact wpAny_pure (by simpa [Nat.add_assoc] using h)
  ·rw [if_neg hr]
   rw [if_neg hr] at h
   exact wpAny_bind (wpAny_rule (wpAny_pure (by simpa [Nat.add_assoc] using h)))
theorem jF {x y:bu} {a b:Addr} {P:Fin→Shared→Prop} (hu:A.units+50 < cLine) (hx:IsRowKey prog w s.heap x a) (hy:IsRowKey prog w s.heap y b) (h:P (.done (.ret (.bool (decide (x=y))))) s) :
  wpAny (model prog w) A (Builtin.«tuple.__eq__» ⟨[.ref a,.ref b],[]⟩) P E s:=by
 have hTb:=hy.typeIs
 obtain ⟨oa,xs,na,hoa,_,hda,hia⟩:=hx
 obtain ⟨ob,ys,nb,hob,_,hdb,hib⟩:=hy
 have hxy:decide (x=y)=decide (ai x=ai y):=decide_eq_decide.mpr ⟨fun e=>congrArg _ e,ee⟩
 rw [hxy] at h
 show wpAny _ _ (isInstance (.ref b) (.type "tuple") >>= _) _ _ s
 refine wpAny_bind (wpAny_isInstance hTb isSubtype_tuple_tuple ?_)
 simp only [Bool.not_true,Bool.false_eq_true,if_false]
 refine wpAny_bind (wpAny_tupleItemsOf hoa hda ?_)
 refine wpAny_bind (wpAny_tupleItemsOf hob hdb ?_)
 refine wpAny_bind ?_
 refine wpAny_forIn_list _
  (fun rest r s'=>r.1=none∧s'=s∧∃ x' y' xs' ys',rest=List.zip xs' ys'∧Al x' y'∧F2 (rowItem prog w s.heap) x' xs'∧F2 (rowItem prog w s.heap) y' ys'∧decide (x'=y')=decide (ai x=ai y)∧(xs'.length==ys'.length)=(xs.size==ys.size))
  _ ?_ ?_ _ _ ⟨rfl,rfl,ai x,ai y,xs.toList,ys.toList,rfl,qZ x y,hia,hib,rfl,by simp⟩
 ·rintro ⟨u,v⟩ rest r s' ⟨hr,rfl,x',y',xs',ys',hz,hal,hx',hy',hdec,hlen⟩
  cases hx' with
  | nil=>simp at hz
  | @cons k1 u' x'' xs'' h1 hx'' =>
   cases hy' with
   | nil=>simp at hz
   | @cons k2 v' y'' ys'' h2 hy'' =>
    simp only [List.zip_cons_cons,List.cons.injEq,Prod.mk.injEq] at hz
    obtain ⟨⟨rfl,rfl⟩,rfl⟩:=hz
    have hal':Al x'' y''∧∀ (Q:Bool→Shared→Prop) (A:Around) (E:Value→Shared→Prop),A.units < cLine→Q (decide (k1=k2)) s'→wpAny (model prog w) A (eqBool u v) Q E s':=by
     cases hal with
     | inl r=>exact ⟨r,fun Q A E ξ q=>(intKind prog w).eqBool h1 h2 (by simpa using q)⟩
     | inr r =>
      obtain ⟨b1,rfl,z1⟩:=h1
      obtain ⟨b2,rfl,z2⟩:=h2
      exact ⟨r,fun Q A E hu q=>wpAny_eqBool_tuple hu z1 z2 (by simpa using q)⟩
    refine wpAny_bind (hal'.2 _ _ _ (by omega) ?_)
    by_cases hk:k1=k2
    ·subst hk
     rw [decide_eq_true rfl]
     simp only [Bool.not_true,Bool.false_eq_true,if_false]
     refine wpAny_pure ⟨rfl,rfl,x'',y'',xs'',ys'',rfl,hal'.1,hx'',hy'',?_,by simpa using hlen⟩
     rw [← hdec]
     by_cases hxy:x''=y''
     ·simp [hxy]
     ·simp [hxy]
    ·rw [decide_eq_false hk]
     simp only [Bool.not_false,if_true]
     have hf:decide (ai x=ai y)=false:=by rw [← hdec];simp [hk]
     rw [hf] at h
     exact wpAny_bind (wpAny_pure (wpAny_pure (wpAny_pure h)))
 ·rintro ⟨r1,r2⟩ s' ⟨hr,rfl,x',y',xs',ys',hz,hal,hx',hy',hdec,hlen⟩
  simp only at hr
  subst hr
  refine wpAny_pure ?_
  have hfin:(xs.size==ys.size)=decide (ai x=ai y):=by
   rw [← hdec,← hlen]
   cases hx' with
   | nil =>
    cases hy' with
    | nil=>simp
    | cons _ _=>simp
   | cons _ _ =>
    cases hy' with
    | nil=>simp
    | cons _ _=>simp at hz
  show P (.done (.ret (.bool (xs.size==ys.size)))) s'
  rw [hfin];exact h
theorem kD {x y:bu} {a b:Addr} {Q:Bool→Shared→Prop} (hu:A.units+80 < cLine) (hx:IsRowKey prog w s.heap x a) (hy:IsRowKey prog w s.heap y b) (h:Q (decide (x=y)) s) :
  wpAny (model prog w) A (eqBool (.ref a) (.ref b)) Q E s:=by
 unfold eqBool
 try with_reducible refine wpAny_holding ?_
 show wpAny _ _ (if (Value.ref a==Value.ref b)=true then _ else _) Q E s
 by_cases hab:(Value.ref a==Value.ref b)=true
 ·rw [if_pos hab]
  have e:a=b:=by have:=eq_of_beq hab;injection this
  subst e
  obtain rfl:=hx.inj hy
  exact wpAny_bind (wpAny_rule (wpAny_pure (by simpa using h)))
 ·rw [if_neg hab]
  exact wpAny_bind (wpAny_richCompare_same_room (op:=.Eq) hx.typeIs hy.typeIs F.slot_tuple_eq
   (wpAny_call_entry F.slot_tuple_eq hx.typeIs F.entry_tuple_eq (jF (by simp only [Around.in1_units];omega) hx hy ⟨_,rfl,(fun e=>nomatch e),wpAny_truthy_bool h⟩) (F.args_tuple_eq_2 _ _)) (by omega))
theorem m0 {ks:bu} {a:Addr} {Q:Bool→Shared→Prop} (hk:IsRowKey prog w s.heap ks a) (h:Q true s):wpAny (model prog w) A (eqIsQuiet 8 (.ref a)) Q E s:=by
 have hT:=hk.typeIs
 obtain ⟨o,items,n,ho,_,hd,hi⟩:=hk
 have step:∀ v k,rowItem prog w s.heap k v→∀ (Q:Bool→Shared→Prop) (A:Around) (E:Value→Shared→Prop),Q true s→wpAny (model prog w) A (eqIsQuiet 7 v) Q E s:=by
  intro v k hk Q A E q
  cases k with
  | inl i=>rw [eqIsQuiet_byValue _ ((intKind prog w).byValue _ _ hk)];exact wpAny_pure q
  | inr l =>
   obtain ⟨b,rfl,z⟩:=hk
   have hT:=z.typeIs
   obtain ⟨o,items,n,ho,_,hd,hi⟩:=z
   unfold eqIsQuiet
   refine wpAny_bind (wpAny_specialOf hT F.slot_tuple_eq.lookup ?_)
   show wpAny _ _ (isInstance (.ref b) (.type "tuple") >>= _) _ _ s
   refine wpAny_bind (wpAny_isInstance hT isSubtype_tuple_tuple ?_)
   simp only [Bool.not_true,Bool.false_eq_true,if_false]
   refine wpAny_bind (wpAny_seqItems ho hd ?_)
   refine wpAny_bind ?_
   show wpAny _ _ (forIn items _ _) _ _ s
   rw [← Array.forIn_toList]
   refine wpAny_forIn_list _ (fun rest r s'=>r.1=none∧s'=s∧∀ v∈rest,carriedByValue v=true) _ ?_ ?_ _ _ ⟨rfl,rfl,hi.byValue⟩
   ·rintro v rest r s' ⟨hr,rfl,hall⟩
    rw [eqIsQuiet_byValue _ (hall v List.mem_cons_self)]
    refine wpAny_bind (wpAny_pure ?_)
    simp only [Bool.not_true,Bool.false_eq_true,if_false]
    exact wpAny_pure ⟨rfl,rfl,fun u hu'=>hall u (List.mem_cons_of_mem _ hu')⟩
   ·rintro ⟨r1,r2⟩ s' ⟨hr,rfl,_⟩
    simp only at hr
    subst hr
    exact wpAny_pure q
 unfold eqIsQuiet
 refine wpAny_bind (wpAny_specialOf hT F.slot_tuple_eq.lookup ?_)
 show wpAny _ _ (isInstance (.ref a) (.type "tuple") >>= _) _ _ s
 refine wpAny_bind (wpAny_isInstance hT isSubtype_tuple_tuple ?_)
 simp only [Bool.not_true,Bool.false_eq_true,if_false]
 refine wpAny_bind (wpAny_seqItems ho hd ?_)
 refine wpAny_bind ?_
 show wpAny _ _ (forIn items _ _) _ _ s
 rw [← Array.forIn_toList]
 refine wpAny_forIn_list _ (fun rest r s'=>r.1=none∧s'=s∧∃ ks,F2 (rowItem prog w s.heap) ks rest) _ ?_ ?_ _ _ ⟨rfl,rfl,_,hi⟩
 ·rintro v rest r s' ⟨hr,rfl,ks,hall⟩
  cases hall with
  | cons hk hall =>
   refine wpAny_bind (step _ _ hk _ _ _ ?_)
   simp only [Bool.not_true,Bool.false_eq_true,if_false]
   exact wpAny_pure ⟨rfl,rfl,_,hall⟩
 ·rintro ⟨r1,r2⟩ s' ⟨hr,rfl,_⟩
  simp only at hr
  subst hr
  exact wpAny_pure h
noncomputable def bH (prog:Program) (w:World):HeapKind prog w bu where
 is:=IsRowKey prog w
 hash:=iO prog w
 draws:=et
 room:=fun A=>A.units+80 < cLine
 inj:=fun hx hy=>hx.inj hy
 keeps:=fun x ho hd hs=>x.keeps ho hd hs
 pyHash:=fun hu hk h=>om (by omega) hk h
 eqBool:=fun hu hx hy h=>kD hu hx hy h
 quiet:=fun hk h=>m0 hk h
end
end Gh
end
section
namespace Gh
open PySem
noncomputable def sV:Tr (Option (List Nat)):=(.node (some [97,112,112,101,110,100]) (.node (some [101,120,116,101,110,100]) (.node (some [103,101,116]) (.node (some [82,95,65,82,82,65,89]) (.node (some [114,111,119,95,108,101,110,103,116,104]) (.node (some [65,82,82,65,89,95,84,73,68]) (.node (some [77,70,95,78,69,87,83,76,79,84]) (.node (some [78,95,65,82,82,95,76,69,78,71,84,72]) (.node (some [67,77,95,67,79,77,80,65,82,69,84,79]) .nil .nil) (.node (some [95,108,97,119,95,108,97,121,115]) .nil .nil)) (.node (some [67,77,95,69,88,95,67,84,79,82,49]) (.node (some [99,108,101,97,114,95,114,111,119,115]) .nil .nil) (.node (some [110,117,109,98,101,114]) .nil .nil))) (.node (some [67,77,95,79,66,74,95,67,84,79,82]) (.node (some [67,77,95,83,85,66,83,84,82,73,78,71]) (.node (some [65,95,65,83,83,69,77,66,76,89]) .nil .nil) (.node (some [109,105,100]) .nil .nil)) (.node (some [79,80,95,76,68,78,85,76,76]) (.node (some [83,116,111,114,101]) .nil .nil) (.node (some [109,97,107,101,115]) .nil .nil)))) (.node (some [77,70,95,67,67,84,79,82]) (.node (some [77,70,95,86,73,82,84,85,65,76]) (.node (some [67,77,95,83,84,82,95,67,72,65,82,83]) (.node (some [79,80,95,78,69,87,65,82,82]) .nil .nil) (.node (some [111,112,101,110,115]) .nil .nil)) (.node (some [65,95,80,82,73,86,65,84,69]) (.node (some [67,77,95,76,69,95,77,79,86,69]) .nil .nil) (.node (some [119,97,108,107,101,100]) .nil .nil))) (.node (some [67,77,95,79,66,74,95,71,69,84,84,89,80,69]) (.node (some [79,80,95,76,68,70,76,68]) (.node (some [71,114,111,119]) .nil .nil) (.node (some [112,108,97,99,101]) .nil .nil)) (.node (some [105,110,115,116,97,108,108,95,110,117,108,108,97,98,108,101,95,111,118,101,114,114,105,100,101,115]) (.node (some [107,105,110,100]) .nil .nil) .nil)))) (.node (some [105,115,95,118,97,108,117,101]) (.node (some [116,121,112,101,115]) (.node (some [118,97,114,95,107,105,110,100]) (.node (some [79,80,95,66,82]) (.node (some [84,69,88,84,95,73,78,68,69,88]) .nil .nil) (.node (some [95,108,97,119,95,105,110,115,116,97,108,108]) .nil .nil)) (.node (some [77,101,115,115,97,103,101]) (.node (some [67,70,95,76,69,95,65,84]) .nil .nil) (.node (some [101,113,117,97,108,115]) .nil .nil))) (.node (some [67,77,95,79,66,74,95,69,81,85,65,76,83]) (.node (some [67,77,95,83,84,82,95,67,79,77,80,65,82,69]) (.node (some [67,77,95,71,69,84,73,84,69,77]) .nil .nil) (.node (some [110,97,109,101,115]) .nil .nil)) (.node (some [116,104,114,111,119,95,114,111,119,115]) (.node (some [115,101,108,118,101,115]) .nil .nil) (.node (some [115,101,108,102]) .nil .nil)))) (.node (some [110,111,116,101,95,109,101,116,104,111,100]) (.node (some [115,101,116,116,108,101]) (.node (some [67,77,95,83,84,82,95,78,69]) (.node (some [99,104,101,99,107,95,105,110,100,101,120]) .nil .nil) (.node (some [98,111,117,110,100,115]) .nil .nil)) (.node (some [115,101,108,102,95,107,105,110,100]) (.node (some [105,110,115,116,97,108,108,95,119,97,108,107,101,114]) .nil .nil) (.node (some [115]) .nil .nil))) (.node (some [67,77,95,86,84,95,69,81,85,65,76,83]) (.node (some [67,77,95,69,88,95,77,69,83,83,65,71,69]) (.node (some [67,77,95,82,69,77,79,86,69,65,84]) .nil .nil) (.node (some [103,101,116,116,101,114]) .nil .nil)) (.node (some [67,77,95,71,69,84,69,78,85,77]) (.node (some [105,115,105,110,115,116,97,110,99,101]) .nil .nil) .nil))))) (.node (some [82,95,82,65,87]) (.node (some [82,95,86,65,82]) (.node (some [83,84,82,73,78,71]) (.node (some [112,117,116,95,111,110,99,101]) (.node (some [79,80,95,76,68,67,95,73,52]) (.node (some [67,70,95,67,79,85,78,84]) .nil .nil) (.node (some [109,97,120,115,116,97,99,107]) .nil .nil)) (.node (some [67,77,95,69,88,95,73,78,78,69,82]) (.node (some [119,97,108,107,101,114,95,108,105,115,116]) .nil .nil) (.node (some [111,112,101,110,105,110,103]) .nil .nil))) (.node (some [67,77,95,79,66,74,95,84,79,83,84,82,73,78,71]) (.node (some [73,110,100,101,120,79,102]) (.node (some [112,117,116,95,109,101,109,98,101,114]) .nil .nil) (.node (some [112,110,97,109,101,115]) .nil .nil)) (.node (some [118,97,108,117,101]) (.node (some [83,95,67,76,65,83,83]) .nil .nil) (.node (some [110,117,109,115]) .nil .nil)))) (.node (some [77,101,116,104,111,100,68,101,102]) (.node (some [105,115,95,98,114,97,110,99,104]) (.node (some [67,77,95,83,84,82,95,69,81]) (.node (some [79,80,95,65,68,68]) .nil .nil) (.node (some [68,69,69,80,69,83,84,95,75,73,78,68]) .nil .nil)) (.node (some [84,95,78,79,84,83,85,80,80]) (.node (some [105,110,115,116,97,108,108,95,108,105,115,116,95,102,105,101,108,100,115]) .nil .nil) (.node (some [115,104,105,102,116]) .nil .nil))) (.node (some [65,95,70,65,77,73,76,89]) (.node (some [79,80,95,80,79,80]) (.node (some [97,100,100,95,114,111,119,115]) .nil .nil) (.node (some [105,110,115]) .nil .nil)) (.node (some [112,117,116,95,97,98,115,116,114,97,99,116]) (.node (some [98,97,115,101,100]) .nil .nil) .nil)))) (.node (some [78,85,76,76,75]) (.node (some [102,105,101,108,100,115]) (.node (some [83,95,83,84,82,85,67,84]) (.node (some [67,111,110,99,97,116]) (.node (some [79,80,95,67,79,78,86,95,73,52]) .nil .nil) (.node (some [114,111,119,115]) .nil .nil)) (.node (some [99,116,111,114,95,111,102]) (.node (some [97,116]) .nil .nil) (.node (some [102,114,101,102]) .nil .nil))) (.node (some [67,77,95,79,66,74,95,72,65,83,72]) (.node (some [97,100,100,95,105,102,97,99,101]) (.node (some [99,111,110,116,97,105,110,115,95,114,111,119,115]) .nil .nil) (.node (some [107]) .nil .nil)) (.node (some [67,77,95,78,85,76,95,86,65,76,85,69]) (.node (some [85,52]) .nil .nil) (.node (some [119,111,114,100]) .nil .nil)))) (.node (some [105,115,95,118,105,114,116,117,97,108]) (.node (some [79,80,95,67,65,76,76,86,73,82,84]) (.node (some [78,95,83,84,82,95,69,81,85,65,76,83]) (.node (some [73,110,100,101,120,32,109,117,115,116,32,98,101,32,119,105,116,104,105,110,32,116,104,101,32,98,111,117,110,100,115,32,111,102,32,116,104,101,32,76,105,115,116,46]) .nil .nil) (.node (some [105,109,112,108,115]) .nil .nil)) (.node (some [79,80,95,67,79,78,83,84,82,65,73,78,69,68]) (.node (some [105,110,115,116,97,108,108,95,99,111,114,101,95,101,120,99,101,112,116,105,111,110,115]) .nil .nil) (.node (some [104,101,97,100]) .nil .nil))) (.node (some [78,95,86,84,95,72,65,83,72]) (.node (some [67,70,95,73,78,78,69,82]) (.node (some [73,110,115,101,114,116]) .nil .nil) (.node (some [111,112]) .nil .nil)) (.node (some [67,77,95,71,69,84,67,85,82,82,69,78,84]) (.node (some [95,108,97,119,95,99,97,108,108]) .nil .nil) .nil)))))) (.node (some [82,95,67,76,65,83,83]) (.node (some [82,95,66,79,88,69,68]) (.node (some [114,111,119]) (.node (some [78,73,78,84]) (.node (some [66,111,100,121]) (.node (some [76,101,110,103,116,104]) (.node (some [84,95,76,73,83,84]) .nil .nil) (.node (some [108,111,99,97,108,115,95]) .nil .nil)) (.node (some [103,101,116,95,77,101,115,115,97,103,101]) (.node (some [67,70,95,76,69,95,76,73,83,84]) .nil .nil) (.node (some [116,119,111]) .nil .nil))) (.node (some [79,80,95,82,69,84]) (.node (some [78,95,83,85,66,83,84,82,73,78,71]) (.node (some [118,101,114,115,105,111,110]) .nil .nil) (.node (some [103,110,97,109,101,115]) .nil .nil)) (.node (some [67,77,95,78,85,76,95,72,65,83,72]) (.node (some [95,108,97,119,95,97,98,111,118,101]) .nil .nil) (.node (some [102,97,108,108,115]) .nil .nil)))) (.node (some [67,77,95,69,78,68]) (.node (some [83,79,95,66,82,65,78,67,72]) (.node (some [67,72,65,82]) (.node (some [79,80,95,83,84,69,76,69,77]) .nil .nil) (.node (some [99,104,101,99,107,95,107,105,110,100,95,114,111,119]) .nil .nil)) (.node (some [105,110,115,116,97,108,108,95,101,120,99,101,112,116,105,111,110,95,99,116,111,114,115]) (.node (some [67,77,95,76,69,95,67,85,82,82,69,78,84]) .nil .nil) (.node (some [109,97,100,101,95,111,110,101,115]) .nil .nil))) (.node (some [78,95,79,66,74,95,71,69,84,84,89,80,69]) (.node (some [67,70,95,77,69,83,83,65,71,69]) (.node (some [67,77,95,65,68,68]) .nil .nil) (.node (some [111,108,100]) .nil .nil)) (.node (some [86,97,108,117,101]) (.node (some [115,116,97,99,107]) .nil .nil) .nil)))) (.node (some [84,73,68,95,80,82,73,77]) (.node (some [67,70,95,69,78,68]) (.node (some [107,105,110,100,95,119,105,116,104]) (.node (some [67,77,95,67,79,78,67,65,84]) (.node (some [108,111,97,100,95,105,116,101,109,115]) .nil .nil) (.node (some [115,111,114,116,101,100]) .nil .nil)) (.node (some [101,120,99,101,112,116,105,111,110,95,99,116,111,114]) (.node (some [67,70,95,76,69,95,67,85,82]) .nil .nil) (.node (some [104,97,115,95,105,116]) .nil .nil))) (.node (some [79,80,95,76,68,65,82,71]) (.node (some [86,73,82,84,95,83,69,65,76]) (.node (some [67,77,95,67,79,78,84,65,73,78,83]) .nil .nil) (.node (some [101,110,116,114,121]) .nil .nil)) (.node (some [84,69,88,84,95,78,79,95,86,65,76,85,69]) (.node (some [98,97,115,101,115]) .nil .nil) (.node (some [111,112,101,110,101,100]) .nil .nil)))) (.node (some [110,97,109,101]) (.node (some [97,100,100,95,112,114,111,112]) (.node (some [110,101,103,97,116,101,100]) (.node (some [79,80,95,66,76,69,95,85,78]) .nil .nil) (.node (some [97,115,109]) .nil .nil)) (.node (some [79,80,95,76,68,70,76,68,65]) (.node (some [95,108,97,119,95,76,65,83,84]) .nil .nil) (.node (some [120]) .nil .nil))) (.node (some [78,95,86,84,95,69,81,85,65,76,83]) (.node (some [79,80,95,66,82,70,65,76,83,69]) (.node (some [114,101,109,111,118,101,95,114,111,119,115]) .nil .nil) (.node (some [105,110,100,101,120,95,107,105,110,100,115]) .nil .nil)) (.node (some [71,101,116,69,110,117,109,101,114,97,116,111,114]) (.node (some [95,108,97,119,95,102,105,101,108,100]) .nil .nil) .nil))))) (.node (some [108,101,110]) (.node (some [109,97,121,95,115,116,97,110,100]) (.node (some [115,116,114]) (.node (some [67,77,95,69,88,67,69,80,84,73,79,78,83]) (.node (some [79,80,95,76,68,83,84,82]) (.node (some [79,80,95,66,76,84,95,85,78]) .nil .nil) (.node (some [95,108,97,119,95,119,111,114,108,100]) .nil .nil)) (.node (some [67,77,95,69,88,95,84,79,83,84,82,73,78,71]) (.node (some [84,69,88,84,95,67,72,65,78,71,69,68]) .nil .nil) (.node (some [116,101,120,116]) .nil .nil))) (.node (some [86,73,82,84,95,78,69,87]) (.node (some [67,77,95,67,79,78,67,65,84,95,79,66,74]) (.node (some [67,77,95,76,73,83,84,95,67,79,85,78,84]) .nil .nil) (.node (some [112,102,108,97,103,115]) .nil .nil)) (.node (some [67,77,95,78,85,76,95,72,65,83,86,65,76,85,69]) (.node (some [84]) .nil .nil) (.node (some [109,105,100,115]) .nil .nil)))) (.node (some [99,99,116,111,114]) (.node (some [65,95,80,85,66,76,73,67]) (.node (some [83,84,65,84,73,67,95,79,80]) (.node (some [97,100,100,95,116,111]) .nil .nil) (.node (some [116,105,100]) .nil .nil)) (.node (some [79,80,95,78,69,87,79,66,74]) (.node (some [105,110,115,116,97,108,108,95,108,105,115,116,95,119,114,105,116,105,110,103]) .nil .nil) (.node (some [111,112,101,110,95,111,110,101]) .nil .nil))) (.node (some [82,101,102,101,114,101,110,99,101,69,113,117,97,108,115]) (.node (some [39,32,119,97,115,32,116,104,114,111,119,110,46]) (.node (some [115,101,116,95,73,116,101,109]) .nil .nil) (.node (some [99,108,97,117,115,101]) .nil .nil)) (.node (some [84,95,68,73,83,80,79,83,65,66,76,69]) (.node (some [97,114,103,115]) .nil .nil) .nil)))) (.node (some [112,117,116]) (.node (some [70,105,101,108,100,68,101,102]) (.node (some [118,97,108,117,101,95,107,105,110,100]) (.node (some [67,77,95,83,84,82,95,76,69,78,71,84,72]) (.node (some [70,73,82,83,84,95,83,73,90,69]) .nil .nil) (.node (some [100,101,112,116,104,115]) .nil .nil)) (.node (some [112,117,116,95,102,105,101,108,100,95,97,116]) (.node (some [112,117,116,95,119,97,108,107,101,114]) .nil .nil) (.node (some [119,97,108,107,101,114]) .nil .nil))) (.node (some [73,52]) (.node (some [73,116,101,109]) (.node (some [83,69,65,76,69,68,95,86,73,82,84,85,65,76]) .nil .nil) (.node (some [105]) .nil .nil)) (.node (some [67,77,95,78,85,76,95,79,82,68,69,70,65,85,76,84]) (.node (some [105,115,95,114,101,102]) .nil .nil) .nil))) (.node (some [114,101,116]) (.node (some [84,95,84,89,80,69]) (.node (some [78,95,83,84,82,95,72,65,83,72]) (.node (some [105,116,101,109,115]) .nil .nil) (.node (some [104,111,109,101]) .nil .nil)) (.node (some [67,77,95,78,85,76,95,84,79,83,84,82,73,78,71]) (.node (some [105,110,115,116,97,108,108,95,99,111,114,101,95,111,98,106,101,99,116]) .nil .nil) (.node (some [111,116,104,101,114]) .nil .nil))) (.node (some [84,95,65,82,82,65,89]) (.node (some [79,80,95,83,84,70,76,68]) (.node (some [67,77,95,67,76,69,65,82]) .nil .nil) (.node (some [111,112,101,114,97,110,100]) .nil .nil)) (.node (some [67,77,95,77,79,86,69,78,69,88,84]) (.node (some [95,108,97,119,95,111,110,101]) .nil .nil) .nil))))))) (.node (some [112,111,112]) (.node (some [114,97,110,103,101]) (.node (some [82,95,66,89,82,69,70]) (.node (some [105,110,110,101,114,95,107,105,110,100,115]) (.node (some [66,79,79,76]) (.node (some [98,111,100,121]) (.node (some [112,117,116,95,112,114,111,112]) (.node (some [67,117,114,114,101,110,116]) .nil .nil) (.node (some [99,111,100,101]) .nil .nil)) (.node (some [67,77,95,69,88,95,67,84,79,82,50]) (.node (some [119,97,108,107,101,114,95,102,105,101,108,100]) .nil .nil) (.node (some [116,121,112,101,95,107,105,110,100]) .nil .nil))) (.node (some [46,99,116,111,114]) (.node (some [83,117,98,115,116,114,105,110,103]) (.node (some [99,111,117,110,116]) .nil .nil) (.node (some [110,103,101,110]) .nil .nil)) (.node (some [67,77,95,78,85,76,95,69,81,85,65,76,83]) (.node (some [73,56]) .nil .nil) (.node (some [106,111,105,110,115]) .nil .nil)))) (.node (some [77,70,95,83,80,69,67,73,65,76]) (.node (some [79,80,95,83,79,82,84]) (.node (some [103,101,116,95,67,104,97,114,115]) (.node (some [79,80,95,76,68,69,76,69,77]) .nil .nil) (.node (some [80,82,73,77,95,69,78,68]) .nil .nil)) (.node (some [105,110,110,101,114]) (.node (some [109,111,118,101,95,114,111,119,115]) .nil .nil) (.node (some [103,114,111,117,112]) .nil .nil))) (.node (some [71,101,116,84,121,112,101]) (.node (some [101,120,95,102,105,101,108,100]) (.node (some [103,114,111,119,95,114,111,119,115]) .nil .nil) (.node (some [116]) .nil .nil)) (.node (some [72,97,115,86,97,108,117,101]) (.node (some [98,121,114,101,102,95,107,105,110,100]) .nil .nil) .nil)))) (.node (some [105,115,95,118,97,114]) (.node (some [105,102,97,99,101,115]) (.node (some [107,116]) (.node (some [118,105,114,116,95,111,102]) (.node (some [73,110,100,101,120,32,119,97,115,32,111,117,116,32,111,102,32,114,97,110,103,101,46,32,77,117,115,116,32,98,101,32,110,111,110,45,110,101,103,97,116,105,118,101,32,97,110,100,32,108,101,115,115,32,116,104,97,110,32,116,104,101,32,115,105,122,101,32,111,102,32,116,104,101,32,99,111,108,108,101,99,116,105,111,110,46]) .nil .nil) (.node (some [95,108,97,119,95,98,111,100,105,101,115]) .nil .nil)) (.node (some [73,110,110,101,114,69,120,99,101,112,116,105,111,110]) (.node (some [79,80,95,66,76,69]) .nil .nil) (.node (some [105,116,101,109]) .nil .nil))) (.node (some [69,113,117,97,108,115]) (.node (some [67,111,109,112,97,114,101,84,111]) (.node (some [103,101,116,95,73,116,101,109]) .nil .nil) (.node (some [97,115,109,115]) .nil .nil)) (.node (some [84,95,73,78,86,65,76,73,68,79,80]) (.node (some [103,111,97,108,115]) .nil .nil) (.node (some [119,101,105,103,104,116]) .nil .nil)))) (.node (some [102,108,97,103,115]) (.node (some [115,101,116,95,110,97,116,105,118,101]) (.node (some [111,112,95,73,110,101,113,117,97,108,105,116,121]) (.node (some [79,80,95,83,85,66]) .nil .nil) (.node (some [86,65,95,78,79,78,69]) .nil .nil)) (.node (some [84,95,78,85,76,76,65,66,76,69]) (.node (some [95,108,97,119,95,70,82,79,77]) .nil .nil) (.node (some [102]) .nil .nil))) (.node (some [84,95,86,65,76,85,69,84,89,80,69]) (.node (some [79,80,95,76,68,76,79,67]) (.node (some [82,101,109,111,118,101,65,116]) .nil .nil) (.node (some [115,101,116,116,101,114]) .nil .nil)) (.node (some [84,95,73,69,78,85,77]) (.node (some [105,110,116]) .nil .nil) .nil))))) (.node (some [82,95,70,84,78]) (.node (some [82,95,77,86,65,82]) (.node (some [112]) (.node (some [112,114,111,112,115]) (.node (some [79,80,95,66,82,84,82,85,69]) (.node (some [108,111,97,100,95,99,111,117,110,116]) .nil .nil) (.node (some [99,108,97,117,115,101,115]) .nil .nil)) (.node (some [103,101,116,95,73,110,110,101,114,69,120,99,101,112,116,105,111,110]) (.node (some [79,80,95,66,69,81]) .nil .nil) (.node (some [97,98,111,118,101]) .nil .nil))) (.node (some [84,111,83,116,114,105,110,103]) (.node (some [78,95,73,78,68,69,88,79,70]) (.node (some [67,77,95,76,73,83,84,95,67,84,79,82]) .nil .nil) (.node (some [112,108,97,105,110,95,110,97,109,101,115]) .nil .nil)) (.node (some [67,77,95,78,85,76,95,67,84,79,82]) (.node (some [84,121,112,101,68,101,102]) .nil .nil) (.node (some [102,105,114,115,116]) .nil .nil)))) (.node (some [107,101,112,116,95,102,108,97,103,115]) (.node (some [112,117,116,95,109,101,116,104,111,100,95,97,116]) (.node (some [111,112,95,69,113,117,97,108,105,116,121]) (.node (some [67,77,95,76,73,83,84,95,71,82,79,87]) .nil .nil) (.node (some [72,69,65,86,73,69,83,84,95,75,73,78,68]) .nil .nil)) (.node (some [105,110,115,116,97,108,108,95,100,101,114,105,118,101,100]) (.node (some [105,110,115,116,97,108,108,95,108,105,115,116,95,114,101,97,100,105,110,103]) .nil .nil) (.node (some [102,97,117,108,116]) .nil .nil))) (.node (some [67,77,95,79,66,74,95,82,69,70,69,81]) (.node (some [69,120,99,101,112,116,105,111,110,32,111,102,32,116,121,112,101,32,39]) (.node (some [67,77,95,83,69,84,73,84,69,77]) .nil .nil) (.node (some [101,100,103,101,115]) .nil .nil)) (.node (some [67,77,95,68,73,83,80,79,83,69]) (.node (some [112,114,101,102,105,120]) .nil .nil) .nil)))) (.node (some [112,114,105,109,95,107,105,110,100]) (.node (some [111,119,110,101,114]) (.node (some [83,95,69,78,85,77]) (.node (some [78,95,67,79,78,67,65,84]) (.node (some [79,80,95,66,76,84]) .nil .nil) (.node (some [105,110,100,101,120]) .nil .nil)) (.node (some [116,105,100,95,111,102]) (.node (some [99,117,114,114,101,110,116]) .nil .nil) (.node (some [108,111,99,97,108]) .nil .nil))) (.node (some [71,101,116,72,97,115,104,67,111,100,101]) (.node (some [84,95,67,79,77,80,65,82,65,66,76,69]) (.node (some [67,77,95,76,73,83,84,95,69,78,85,77]) .nil .nil) (.node (some [101,108,101,109]) .nil .nil)) (.node (some [103,101,116,95,86,97,108,117,101]) (.node (some [95,108,97,119,95,102,108,97,116]) .nil .nil) .nil))) (.node (some [112,97,114,97,109,115]) (.node (some [112,108,97,105,110,95,99,108,97,115,115]) (.node (some [67,77,95,83,84,82,95,72,65,83,72]) (.node (some [79,80,95,66,79,88]) .nil .nil) (.node (some [101,118,101,110,116,115]) .nil .nil)) (.node (some [67,70,95,72,65,83,86,65,76,85,69]) (.node (some [105,110,115,116,97,108,108,95,99,111,114,101,95,116,101,120,116]) .nil .nil) (.node (some [116,104,105,115,95,111,110,101]) .nil .nil))) (.node (some [67,77,95,65,82,82,95,76,69,78,71,84,72]) (.node (some [32,45,45,45,62,32]) (.node (some [105,110,115,101,114,116,95,114,111,119,115]) .nil .nil) (.node (some [112,108,97,99,101,115]) .nil .nil)) (.node (some [103,101,116,95,67,117,114,114,101,110,116]) (.node (some [95,108,97,119,95,116,97,107,101,115]) .nil .nil) .nil)))))) (.node (some [82,95,86,65,76,85,69]) (.node (some [82,95,82,79,82,69,70]) (.node (some [99,104,101,99,107,95,110,97,109,101,100]) (.node (some [79,66,74,69,67,84]) (.node (some [110,97,116,105,118,101]) (.node (some [99,97,108,108,95,111,102]) (.node (some [67,70,95,73,84,69,77,83]) .nil .nil) (.node (some [95,108,97,119,95,115,116,101,112]) .nil .nil)) (.node (some [109,101,115,115,97,103,101,95,114,111,119,115]) (.node (some [67,70,95,76,69,95,86,69,82]) .nil .nil) (.node (some [111,119,110]) .nil .nil))) (.node (some [112,117,116,95,110,97,116,105,118,101]) (.node (some [67,77,95,73,78,68,69,88,79,70]) (.node (some [84,95,76,73,83,84,69,78,85,77]) .nil .nil) (.node (some [103,98,111,117,110,100,115]) .nil .nil)) (.node (some [104,97,115,86,97,108,117,101]) (.node (some [95,108,97,119,95,116,105,100,115]) .nil .nil) (.node (some [115,99,114,105,112,116]) .nil .nil)))) (.node (some [109,101,116,104,111,100,115]) (.node (some [77,65,82,75]) (.node (some [78,95,83,84,82,95,67,72,65,82,83]) (.node (some [115,116,101,112,95,108,111,99,97,108]) .nil .nil) (.node (some [114,111,119,95,108,101,118,101,108]) .nil .nil)) (.node (some [105,110,115,116,97,108,108,95,101,120,99,101,112,116,105,111,110,95,109,101,109,98,101,114,115]) (.node (some [67,77,95,76,69,95,68,73,83,80,79,83,69]) .nil .nil) (.node (some [115,104,97,112,101]) .nil .nil))) (.node (some [67,77,95,79,66,74,95,70,73,78,65,76,73,90,69]) (.node (some [79,80,95,68,85,80]) (.node (some [65,100,100]) .nil .nil) (.node (some [109]) .nil .nil)) (.node (some [86,73,82,84,95,78,79,78,69]) (.node (some [95,108,97,119,95,103,111,101,115]) .nil .nil) .nil)))) (.node (some [86,79,73,68]) (.node (some [102,105,101,108,100,115,95]) (.node (some [115,111,114,116]) (.node (some [84,95,83,84,82,73,78,71]) (.node (some [79,80,95,76,68,76,69,78]) .nil .nil) (.node (some [95,108,97,119,95,98,111,100,121]) .nil .nil)) (.node (some [98,97,115,101]) (.node (some [108,105,115,116]) .nil .nil) (.node (some [104,101,108,100]) .nil .nil))) (.node (some [79,80,95,67,69,81]) (.node (some [78,95,83,84,82,95,67,79,77,80,65,82,69]) (.node (some [67,111,110,116,97,105,110,115]) .nil .nil) (.node (some [97,114,103]) .nil .nil)) (.node (some [78,117,108,108,97,98,108,101,32,111,98,106,101,99,116,32,109,117,115,116,32,104,97,118,101,32,97,32,118,97,108,117,101,46]) (.node (some [104,101,97,100,115]) .nil .nil) (.node (some [108,101,118,101,108]) .nil .nil)))) (.node (some [70,105,110,97,108,105,122,101]) (.node (some [79,80,95,67,65,76,76]) (.node (some [67,77,95,83,84,82,95,69,81,85,65,76,83]) (.node (some [84,69,88,84,95,73,78,83,69,82,84]) .nil .nil) (.node (some [117,110,100,101,114]) .nil .nil)) (.node (some [67,70,95,86,65,76,85,69]) (.node (some [105,110,115,116,97,108,108,95,99,111,114,101,95,110,117,108,108,97,98,108,101]) .nil .nil) (.node (some [103]) .nil .nil))) (.node (some [67,77,95,86,84,95,72,65,83,72]) (.node (some [58,32]) (.node (some [67,77,95,73,78,83,69,82,84]) .nil .nil) (.node (some [119,105,116,104,95,116,101,120,116]) .nil .nil)) (.node (some [84,95,73,69,78,85,77,69,82,65,84,79,82]) (.node (some [95,108,97,119,95,104,111,108,100,101,114]) .nil .nil) .nil))))) (.node (some [82,95,80,82,73,77]) (.node (some [99,104,101,99,107,95,97,114,103,115]) (.node (some [116,117,112,108,101]) (.node (some [84,95,78,85,76,76,82,69,70]) (.node (some []) (.node (some [84,95,65,82,71,82,65,78,71,69]) .nil .nil) (.node (some [105,110,115,116,97,108,108,95,99,111,114,101,95,108,105,115,116]) .nil .nil)) (.node (some [101,120,95,116,101,120,116,95,114,111,119,115]) (.node (some [67,111,108,108,101,99,116,105,111,110,32,119,97,115,32,109,111,100,105,102,105,101,100,59,32,101,110,117,109,101,114,97,116,105,111,110,32,111,112,101,114,97,116,105,111,110,32,109,97,121,32,110,111,116,32,101,120,101,99,117,116,101,46]) .nil .nil) (.node (some [98,101,116,119,101,101,110]) .nil .nil))) (.node (some [78,95,79,66,74,95,84,79,83,84,82,73,78,71]) (.node (some [99,111,110,99,97,116,95,114,111,119,115]) (.node (some [103,101,116,95,67,111,117,110,116]) .nil .nil) (.node (some [75,105,110,100,84,97,98,108,101]) .nil .nil)) (.node (some [103,101,116,95,72,97,115,86,97,108,117,101]) (.node (some [115,116,111,114,101]) .nil .nil) (.node (some [102,111,117,110,100]) .nil .nil)))) (.node (some [102,105,110,97,108,105,115,101,114]) (.node (some [115,101,116,95,98,111,100,121]) (.node (some [78,95,83,84,82,95,69,81]) (.node (some [67,70,95,86,69,82,83,73,79,78]) .nil .nil) (.node (some [118,97,114,105,97,110,99,101,115]) .nil .nil)) (.node (some [79,80,95,84,72,82,79,87]) (.node (some [67,111,117,110,116]) .nil .nil) (.node (some [119]) .nil .nil))) (.node (some [77,70,95,83,84,65,84,73,67]) (.node (some [79,80,95,83,84,76,79,67]) (.node (some [115,101,116,95,114,111,119,115]) .nil .nil) (.node (some [110]) .nil .nil)) (.node (some [68,105,115,112,111,115,101]) (.node (some [99,101,108,108,115]) .nil .nil) .nil)))) (.node (some [80,82,73,77,95,84,73,68]) (.node (some [77,70,95,67,84,79,82]) (.node (some [99,108,97,115,115,95,107,105,110,100]) (.node (some [78,95,83,84,82,95,76,69,78,71,84,72]) (.node (some [79,80,95,77,85,76]) .nil .nil) (.node (some [119,101,105,103,104,116,115]) .nil .nil)) (.node (some [109,101,115,115,97,103,101]) (.node (some [119,97,108,107,101,114,95,115,116,97,114,116]) .nil .nil) (.node (some [102,117,108,108]) .nil .nil))) (.node (some [78,95,79,66,74,95,72,65,83,72]) (.node (some [84,95,69,88,67,69,80,84,73,79,78]) (.node (some [67,77,95,76,69,95,67,84,79,82]) .nil .nil) (.node (some [111,117,116]) .nil .nil)) (.node (some [71,101,116,86,97,108,117,101,79,114,68,101,102,97,117,108,116]) (.node (some [97,99,99,101,115,115]) .nil .nil) .nil))) (.node (some [84,95,79,66,74,69,67,84]) (.node (some [112,117,116,95,105,108]) (.node (some [67,77,95,83,84,82,95,84,79,83,84,82,73,78,71]) (.node (some [97,114,114,97,121,95,107,105,110,100]) .nil .nil) (.node (some [102,105,100]) .nil .nil)) (.node (some [97,115,107,101,100,95,118,97,108,117,101]) (.node (some [105,110,115,116,97,108,108,95,99,111,114,101,95,105,102,97,99,101,115]) .nil .nil) (.node (some [109,97,110,121]) .nil .nil))) (.node (some [103,101,116,95,76,101,110,103,116,104]) (.node (some [67,77,95,69,88,95,67,84,79,82,48]) (.node (some [67,108,101,97,114]) .nil .nil) (.node (some [100,101,112,116,104]) .nil .nil)) (.node (some [77,111,118,101,78,101,120,116]) (.node (some [95,108,97,119,95,116,119,111]) .nil .nil) .nil))))))))
noncomputable def cK:Nat:=492
noncomputable def pd (i:Nat):List Nat:=List.replicate (i+1) 97
noncomputable def gcp (i:Nat):List Nat:=@Bool.rec (fun ξ=>List Nat) (pd i) ((Tr.get none (Ps.ofNat i) sV).getD (pd i)) (Nat.ble (Nat.succ i) cK)
noncomputable def gnm (i:Nat):Str:=⟨(gcp i).toArray⟩
noncomputable def ZcK:Tr V:=.node (.int 21 0) .nil .nil
noncomputable def lZ:Tr V:=.node .unb (.node .unb (.node .unb (.node Zh (.node (.fn (.i .h)) (.node Zj (.node Zh (.node (.int 27 0) (.node (.int 111 0) .nil .nil) (.node (.fn (.o (.o Z2))) .nil .nil)) (.node Za0 (.node (.fn (.i (.o (.i ZB)))) .nil .nil) .nil)) (.node Zt (.node (.int 18 0) (.node Ze .nil .nil) .nil) (.node ZaZ (.node (.cls ZB) .nil .nil) .nil))) (.node (.int 64 0) (.node Zd (.node ZL (.node (.int 141 0) .nil .nil) .nil) (.node Zt (.node (.int 135 0) .nil .nil) .nil)) (.node Zj (.node (.int 123 0) .nil .nil) (.node (.fn (.o Zan)) .nil .nil)))) (.node (.fn (.i (.i (.i .h)))) (.node .unb (.node (.fn (.i (.o (.i .h)))) (.node (.int 56 0) (.node (.str 264) .nil .nil) (.node (.fn (.o (.o Z1))) .nil .nil)) (.node .unb ZcK .nil)) (.node Ze (.node (.int 105 0) (.node (.int 127 0) .nil .nil) .nil) (.node (.fn (.o Z6)) .nil .nil))) (.node (.fn Z2) (.node (.fn (.i (.o ZB))) (.node ZF (.node (.fn (.o Z4)) .nil .nil) .nil) (.node (.fn Zbo) (.node (.fn (.i (.i ZaG))) .nil .nil) .nil)) (.node Zk (.node (.int 24 0) (.node (.int 129 0) .nil .nil) .nil) (.node (.int 107 0) (.node (.bi 5) .nil .nil) .nil))))) (.node Zm (.node Zx (.node ZN (.node (.fn Z6) (.node (.int 32 0) ZcA .nil) (.node (.int 25 0) (.node (.fn (.o (.o ZaG))) .nil .nil) .nil)) (.node Zd (.node .unb (.node (.fn (.i Z4)) .nil .nil) .nil) (.node .unb (.node Zt .nil .nil) .nil))) (.node (.cls (.o (.i .h))) (.node (.fn (.o (.o ZB))) (.node ZN (.node (.int 88 0) .nil .nil) (.node (.int 24 0) .nil .nil)) (.node (.int 33 0) (.node (.fn (.i (.i (.i ZB)))) .nil .nil) .nil)) (.node Zh (.node (.int 38 0) (.node (.fn (.i (.o (.o ZB)))) .nil .nil) .nil) (.node (.fn (.o Zbi)) .nil .nil)))) (.node ZF (.node .unb (.node Zd (.node .unb (.node (.int 105 0) .nil .nil) .nil) (.node (.fn (.i Zaj)) .nil .nil)) (.node Zh (.node (.fn ZaG) (.node (.fn (.o (.i (.i ZB)))) .nil .nil) .nil) (.node (.int 67 0) ZcB .nil))) (.node (.fn Z4) (.node (.int 111 0) (.node Zj .nil .nil) (.node (.int 65046 0) (.node (.fn (.i Zam)) .nil .nil) .nil)) (.node ZF (.node Zd .nil .nil) (.node (.int 108 0) (.node (.fn (.o (.i Zaf))) .nil .nil) .nil)))))) (.node Zd (.node Zk (.node .unb (.node Zm (.node (.cls (.i (.i .h))) (.node .unb (.node (.int 37 0) .nil .nil) .nil) (.node .unb (.node ZaZ .nil .nil) .nil)) (.node (.int 42 0) Zcz (.node (.int 210 0) (.node (.fn (.i (.i ZaX))) .nil .nil) .nil))) (.node (.int 255 0) (.node Zj (.node Zd (.node (.int 164 0) .nil .nil) (.node (.fn (.o (.o .h))) .nil .nil)) (.node (.fn (.i Z2)) (.node (.int 136 0) .nil .nil) .nil)) (.node ZL (.node Zt (.node (.int 125 0) .nil .nil) .nil) .nil))) (.node (.gd (.o .h)) (.node (.int 63 0) (.node (.fn Z9) (.node Zo (.node (.fn (.o Zbo)) .nil .nil) (.node (.bi 3) .nil .nil)) (.node (.fn Zbi) (.node Za0 .nil .nil) .nil)) (.node (.int 65033 0) (.node Za0 (.node (.int 131 0) .nil .nil) .nil) (.node (.str 234) .nil .nil))) (.node .unb (.node (.fn Zan) (.node (.fn (.i ZaX)) (.node (.int 67 0) .nil .nil) .nil) (.node (.int 124 0) (.node (.int 33 0) .nil .nil) .nil)) (.node ZN (.node (.int 57 0) (.node (.fn (.i (.i (.o ZB)))) .nil .nil) .nil) (.node .unb (.node (.fn (.o (.o Zaf))) .nil .nil) .nil))))) (.node (.bi 0) (.node (.fn (.i (.i .h))) (.node (.bi 4) (.node (.int 30 0) (.node (.int 114 0) (.node (.int 68 0) .nil .nil) (.node (.fn (.i (.o Z1))) .nil .nil)) (.node (.int 26 0) (.node (.str 326) .nil .nil) .nil)) (.node Zx (.node ZaZ (.node (.int 126 0) .nil .nil) .nil) (.node (.int 66 0) .nil .nil))) (.node .unb (.node Zx (.node (.int 129 0) (.node (.fn (.o Z9)) .nil .nil) .nil) (.node (.int 115 0) (.node (.fn (.i (.o Zaq))) .nil .nil) .nil)) (.node .unb .nil (.node (.int 34 0) .nil .nil)))) (.node .unb (.node (.cls (.i (.o .h))) (.node (.fn (.i (.o (.o .h)))) (.node Zm (.node Zh .nil .nil) .nil) (.node (.fn ZaX) (.node (.fn (.o (.i Zaq))) .nil .nil) .nil)) (.node Zy (.node .unb (.node Za0 .nil .nil) .nil) (.node (.int 68 0) (.node (.fn (.o ZB)) .nil .nil) .nil))) (.node .unb (.node (.int 51 0) (.node Zx .nil .nil) (.node (.int 208 0) (.node (.fn (.o ZaX)) .nil .nil) .nil)) (.node Zj (.node (.int 125 0) (.node (.int 130 0) .nil .nil) .nil) (.node (.int 109 0) (.node (.fn (.i (.o Z2))) .nil .nil) .nil))))))) (.node .unb (.node (.bi 1) (.node Zj (.node (.fn .h) (.node Zt (.node .unb (.node (.fn (.o Zaq)) .nil .nil) (.node (.int 23 0) (.node (.fn (.i (.i Zaq))) .nil .nil) .nil)) (.node .unb .nil (.node (.int 209 0) ZcA .nil))) (.node (.int 128 0) (.node (.gd (.i .h)) (.node .unb (.node (.int 163 0) .nil .nil) (.node (.int 16 0) .nil .nil)) (.node .unb (.node (.fn (.o (.i ZaG))) .nil .nil) .nil)) (.node .unb (.node (.fn (.o Zaf)) (.node (.fn (.o (.o (.o ZB)))) .nil .nil) .nil) (.node .unb (.node (.fn (.o (.o (.i .h)))) .nil .nil) .nil)))) (.node (.fn (.i ZB)) (.node .unb (.node .unb (.node (.fn (.i ZaG)) .nil (.node (.fn (.o (.i ZaX))) .nil .nil)) (.node .unb (.node (.int 62 0) .nil .nil) .nil)) (.node .unb .nil (.node (.int 29 0) .nil .nil))) (.node .unb (.node (.fn Zam) (.node .unb (.node (.int 89 0) .nil .nil) ZcC) (.node Zk ZcK .nil)) (.node Zd (.node (.int 65036 0) .nil .nil) (.node (.int 35 0) (.node (.bi 6) .nil .nil) .nil))))) (.node Zo (.node Zy (.node .unb (.node .unb (.node (.int 58 0) (.node (.fn (.i Zbo)) .nil .nil) .nil) (.node .unb (.node (.int 59 0) .nil .nil) .nil)) (.node .unb (.node Zk (.node (.int 124 0) .nil .nil) (.node (.fn Zaq) .nil .nil)) (.node (.int 65 0) (.node (.cls (.o (.o .h))) .nil .nil) .nil))) (.node (.fn Z1) (.node (.fn Zaf) (.node .unb (.node (.int 206 0) .nil .nil) (.node (.int 4096 0) .nil .nil)) (.node (.fn (.o Zam)) (.node (.fn (.o (.o Zaq))) .nil .nil) .nil)) (.node Zy (.node .unb (.node (.int 128 0) .nil .nil) .nil) (.node (.int 106 0) .nil .nil)))) (.node (.fn (.o (.i (.o .h)))) (.node .unb (.node Zj (.node Zt (.node (.int 63 0) .nil .nil) .nil) (.node (.fn (.o (.i (.i .h)))) .nil .nil)) (.node .unb (.node (.int 48 0) (.node (.int 132 0) .nil .nil) .nil) (.node .unb (.node (.fn (.o (.i Z1))) .nil .nil) .nil))) (.node .unb (.node (.fn (.i Zaq)) (.node (.int 16 0) (.node (.int 140 0) .nil .nil) .nil) (.node Zx (.node (.fn (.i Z1)) .nil .nil) .nil)) (.node (.int 203 0) (.node .unb (.node (.fn (.o (.o (.i ZB)))) .nil .nil) .nil) (.node .unb (.node (.fn (.i (.i Zaf))) .nil .nil) .nil)))))) (.node Ze (.node Zl (.node (.fn (.i (.o .h))) (.node ZL (.node .unb (.node (.fn (.o ZaG)) ZcB (.node (.fn (.i (.i Z2))) .nil .nil)) (.node (.fn (.i Zaf)) (.node (.int 23 0) .nil .nil) .nil)) (.node (.fn (.i (.i ZB))) (.node (.int 19 0) (.node (.int 55 0) .nil .nil) .nil) (.node .unb (.node (.fn (.i (.o ZaX))) .nil .nil) .nil))) (.node .unb (.node Zad (.node Ze (.node (.fn (.i Z9)) .nil .nil) (.node (.fn (.o .h)) .nil .nil)) (.node (.fn (.o Zaj)) (.node (.int 137 0) .nil .nil) .nil)) (.node Zx (.node (.int 37 0) .nil .nil) (.node ZF (.node (.fn (.i (.i Z1))) .nil .nil) .nil)))) (.node ZD (.node .unb (.node .unb (.node Zh (.node (.int 142 0) .nil .nil) (.node (.fn (.o (.o Zaj))) .nil .nil)) .nil) (.node (.int 65025 0) ZcA .nil)) (.node .unb (.node (.int 40 0) (.node (.int 15 0) (.node (.str 283) .nil .nil) .nil) (.node Zy (.node (.fn (.i Zan)) .nil .nil) .nil)) (.node Zl (.node .unb (.node (.int 133 0) .nil .nil) .nil) (.node (.int 36 0) (.node (.fn (.i (.o Zaf))) .nil .nil) .nil))))) (.node Zt (.node (.fn (.o (.i .h))) (.node (.bi 2) (.node (.int 21 0) (.node .unb (.node (.int 32 0) .nil .nil) (.node (.fn (.o (.o ZaX))) .nil .nil)) (.node (.fn (.o Z2)) .nil .nil)) (.node Zo (.node (.fn (.o Z1)) .nil (.node (.cls (.i .h)) .nil .nil)) .nil)) (.node .unb (.node (.fn Zaj) (.node Zh (.node Zo .nil .nil) .nil) (.node (.int 122 0) .nil .nil)) (.node Zt (.node (.int 65038 0) (.node (.fn (.o (.i (.o ZB)))) .nil .nil) .nil) .nil))) (.node (.gd .h) (.node (.int 32 0) (.node (.fn ZB) (.node Zd (.node (.int 90 0) .nil .nil) .nil) (.node .unb (.node (.fn (.i (.o ZaG))) .nil .nil) .nil)) (.node Zm (.node Zy (.node (.int 134 0) .nil .nil) .nil) .nil)) (.node Zt (.node (.fn (.o (.i ZB))) (.node (.int 17 0) (.node (.fn (.i (.i (.o .h)))) .nil .nil) .nil) (.node (.fn (.i Z6)) (.node (.fn (.i Zbi)) .nil .nil) .nil)) (.node .unb ZcK (.node .unb (.node (.fn (.o (.i Z2))) .nil .nil) .nil)))))))
noncomputable def ZcL:Tr (List Nat):=.node [358,456,395] .nil .nil
noncomputable def je:Tr (List Nat):=.node [17,74] (.node [74] (.node [72,17,74,208] (.node [72,405,373] (.node [72,427,74] (.node [443] ZcL (.node [470,415,434,384,450,373,479,472,480,481,429,443,473] .nil .nil)) (.node [358,450] (.node [358,456] .nil .nil) .nil)) (.node [358,415,385,387,384,388,395,435,436,437] (.node [358,448] (.node [358,456,450,461,451,3] .nil .nil) (.node [487,415,44,57,366,56,61,60] .nil .nil)) (.node [358,415,405,57,56,61,60] (.node [470,472,473,474] .nil .nil) .nil))) (.node [72,208] (.node [358,414,405,57,367,366,56,433] (.node [358,405,57,367,439,440,441,17] ZcL (.node [487,427] .nil .nil)) (.node [358,405,453] (.node [358,464] .nil .nil) .nil)) (.node [405,442] (.node [358,414] (.node [358,414] .nil .nil) .nil) (.node [358,414,443,459] (.node [470,472,443,473] .nil .nil) .nil)))) (.node [72,373,426] (.node [405,373] (.node [288,430,431] (.node [358,415,405,57,56,61,60,446,395] ZcL (.node [487,384,331] .nil .nil)) (.node [358,405,202,452,56] (.node [464,465] .nil .nil) .nil)) (.node [395,17] (.node [] (.node [358,415,57,56,61,60,385,446,395] .nil .nil) (.node [487] .nil .nil)) (.node [358] (.node [470,472,443,473,369,475,427,476] .nil .nil) .nil))) (.node [72,427,17] (.node [358,415,405,57,366,56,61,60,433,432] (.node [44,415] ZcL (.node [487,405,57,74,56,202,60,409,491] .nil .nil)) (.node [358,451,455] (.node [427] .nil .nil) .nil)) (.node [358,405,373,74] (.node [358,450] (.node [358,450,456,395] .nil .nil) .nil) (.node [358,395] (.node [470,472,443,473,72,369,427,474,477] .nil .nil) .nil))))) (.node [74] (.node [72,17] (.node [72,405,373] (.node [72,427,74] (.node [395,444,288,443,445,384] ZcL (.node [482,483,484,464,470,358,485,486,405,438] .nil .nil)) (.node [405] (.node [464] .nil .nil) .nil)) (.node [358,415,438] (.node [44,415] (.node [358,456,462] .nil .nil) (.node [487,385,387,384,388] .nil .nil)) (.node [358,456] (.node [470,427,44] .nil .nil) .nil))) (.node [72,429] (.node [56] (.node [358,405] ZcL (.node [487,17,486,446,488,489,490,208,427] .nil .nil)) (.node [358,415,454,450] (.node [467,466,464,358,72,429,456,359,468,360,361,362,405,450,452,469,74] .nil .nil) .nil)) (.node [358,405,432,373,431] (.node [358] (.node [358,450,289] .nil .nil) .nil) (.node [460,443] (.node [470,472,443,473,72,369,427,474] .nil .nil) .nil)))) (.node [72,427,74] (.node [72,428] (.node [358,405,367,432] (.node [358,415,405,57,56,61,60,447] ZcL (.node [487,447,17] .nil .nil)) (.node [358,405] (.node [405,466] .nil .nil) .nil)) (.node [358,405,57,367,439,440,441] (.node [358,449] (.node [358,414] .nil .nil) .nil) (.node [358] (.node [443] .nil .nil) .nil))) (.node [72,427] (.node [358,415,434,432] (.node [44,415] (.node [358] .nil .nil) (.node [487,414,44,57,367,366,56] .nil .nil)) (.node [358,456,450,457,458,227] (.node [470,471,432] .nil .nil) .nil)) (.node [434] (.node [358,450,451,206,208,56] (.node [358,456,463] .nil .nil) .nil) (.node [358,415,57,366,56,61,60,385,446,395] (.node [470,472,443,473,369,478] .nil .nil) .nil)))))
noncomputable def flds:List Nat:=[39,40,42,43,44,50,53,54,56,57,60,61,64,66,68,72,74,202,227,331,366,367,384,385,387,388,395,396,397,398,399,405,406,407,409,410,411,412,413,414,415,416,417,418,419,421,423,424,425]
end Gh
end
section
namespace Gh
open PySem PyProof.Rows PySem.W
noncomputable def Ps.num:Ps→Nat
 | .h=>1
 | .o p=>2 * p.num
 | .i p=>2 * p.num+1
theorem reN {v:V} {σ:St}:RE.fail≠.ok v σ:=fun h=>by injection h
theorem Ps.num_pos:∀ p:Ps,1≤p.num
 | .h=>Nat.le_refl _
 | .o p=>by have:=p.num_pos;simp only [num];omega
 | .i p=>by have:=p.num_pos;simp only [num];omega
theorem Ps.num_succ:∀ p:Ps,p.succ.num=p.num+1
 | .h=>rfl
 | .o p=>rfl
 | .i p=>by show 2 * p.succ.num=_;rw [p.num_succ];simp only [num];omega
theorem Ps.ne_succ {p q:Ps} (h:p.num < q.num):p≠q:=fun e=>absurd (e▸h) (Nat.lt_irrefl _)
section
variable {α:Type} {d:α}
theorem Tr.get_nil:∀ p:Ps,Tr.get d p .nil=d
 | .h=>rfl
 | .o _=>rfl
 | .i _=>rfl
theorem Tr.get_put_same (x:α):∀ (p:Ps) (t:Tr α),Tr.get d p (Tr.put d x p t)=x
 | .h,.nil=>rfl
 | .h,.node _ _ _=>rfl
 | .o p,.nil=>Tr.get_put_same x p .nil
 | .o p,.node _ l _=>Tr.get_put_same x p l
 | .i p,.nil=>Tr.get_put_same x p .nil
 | .i p,.node _ _ r=>Tr.get_put_same x p r
theorem Tr.get_put_ne (x:α):∀ (p q:Ps) (t:Tr α),q≠p→Tr.get d q (Tr.put d x p t)=Tr.get d q t
 | .h,.h,_,hn=>absurd rfl hn
 | .h,.o q,.nil,_=>(Tr.get_nil (d:=d) q)
 | .h,.i q,.nil,_=>(Tr.get_nil (d:=d) q)
 | .h,.o q,.node _ _ _,_=>rfl
 | .h,.i q,.node _ _ _,_=>rfl
 | .o p,.h,.nil,_=>rfl
 | .o p,.h,.node _ _ _,_=>rfl
 | .o p,.i q,.nil,_=>Tr.get_nil (d:=d) q
 | .o p,.i q,.node _ _ _,_=>rfl
 | .i p,.h,.nil,_=>rfl
 | .i p,.h,.node _ _ _,_=>rfl
 | .i p,.o q,.nil,_=>Tr.get_nil (d:=d) q
 | .i p,.o q,.node _ _ _,_=>rfl
 | .o p,.o q,.nil,hn=>(Tr.get_put_ne x p q .nil fun e=>hn (e▸rfl)).trans (Tr.get_nil (d:=d) q)
 | .o p,.o q,.node _ l _,hn=>Tr.get_put_ne x p q l fun e=>hn (e▸rfl)
 | .i p,.i q,.nil,hn=>(Tr.get_put_ne x p q .nil fun e=>hn (e▸rfl)).trans (Tr.get_nil (d:=d) q)
 | .i p,.i q,.node _ _ r,hn=>Tr.get_put_ne x p q r fun e=>hn (e▸rfl)
end
noncomputable def isT (o:Obj):Prop:=o.cls=.type "tuple"∧∃ xs n,o.data=.seq xs n
noncomputable def Tk (h h':Heap):Prop:=∀ a o,h.get? a=some o→isT o→h'.get? a=some o
noncomputable def IsTp (h:Heap) (a:Addr) (items:List Value):Prop:=∃ n,h.get? a=some { cls:=.type "tuple",data:=.seq items.toArray n }
theorem IsTp.tup {h:Heap} {a:Addr} {items:List Value} (t:IsTp h a items):IsTup h a items.toArray:=let ⟨n,e⟩:=t;⟨_,e,rfl,n,rfl⟩
theorem Tk.tup {h h':Heap} (k:Tk h h') {a:Addr} {items:List Value} (t:IsTp h a items):IsTp h' a items :=
 let ⟨n,e⟩:=t;⟨n,k a _ e ⟨rfl,_,n,rfl⟩⟩
theorem Tk.trans {h h' h'':Heap} (a:Tk h h') (b:Tk h' h''):Tk h h'':=fun x o e t=>b x o (a x o e t) t
theorem Tk.rfl {h:Heap}:Tk h h:=fun ξ ξ e ξ=>e
theorem Tk.key {P:Program} {W:World} {h h':Heap} (k:Tk h h') {l:List Int} {a:Addr} (t:IsTupleKey (intKind P W) h l a):IsTupleKey (intKind P W) h' l a :=
 let ⟨o,xs,n,e,c,d,z⟩:=t;⟨o,xs,n,k a o e ⟨c,xs,n,d⟩,c,d,z⟩
theorem Tk.row {P:Program} {W:World} {h h':Heap} (k:Tk h h') {l:bu} {a:Addr} (t:IsRowKey P W h l a):IsRowKey P W h' l a :=
 let ⟨o,xs,n,e,c,d,z⟩:=t;⟨o,xs,n,k a o e ⟨c,xs,n,d⟩,c,d,z.mono fun ξ ξ=>rowItem.keep fun ξ ξ=>k.key⟩
structure Cx where
 prog:Program
 w:World
 K:Frag
 h0:Heap
 ρ:Nat→Int
 fa:Ps→Addr
 ca:Ps→Addr
 ga:Ps→Addr
noncomputable def Cx.nm (_:Cx):Nat→Str:=gnm
noncomputable def biV:Nat→Value
 | 0=>.builtin "len" | 1=>.type "range" | 2=>.type "tuple" | 3=>.builtin "sorted" | 4=>.type "str" | 5=>.builtin "isinstance" | _=>.type "int"
noncomputable abbrev Im:=Ps→Option (Addr×Addr)
noncomputable def qg (C:Cx) (i:Ps):Prop:=∃ R,C.h0.DictOf (intKind C.prog C.w) (C.ga i) R∧(C.ga i==sysModules)=false∧∀ n:Nat,(fM i (Int.ofNat n)=.unb∧valueAt R (n:Int)=none)∨∃ o t,fM i (Int.ofNat n)=.int o 0∧valueAt R (n:Int)=some (.int o t)
inductive VR (C:Cx) (ι:Im) (h:Heap):V→Value→Prop
 | none:VR C ι h .none .none
 | bool {b}:VR C ι h (.bool b) (.bool b)
 | int {o s n t}:n=o+C.ρ s→VR C ι h (.int o s) (.int n t)
 | str {i x t}:x=C.nm i→VR C ι h (.str i) (.str x t)
 | anyStr {k x t}:x.length≤k→VR C ι h (.anyStr k) (.str x t)
 | tup {vs:List V} {a:Addr} {items:List Value}:IsTp h a items→vs.length=items.length→(∀ (i:Nat) v x,vs[i]?=some v→items[i]?=some x→VR C ι h v x)→VR C ι h (.tup vs) (.ref a)
 | ref {g a d}:ι g=some (a,d)→VR C ι h (.ref g) (.ref a)
 | fn {i}:VR C ι h (.fn i) (.ref (C.fa i))
 | cls {i}:VR C ι h (.cls i) (.ref (C.ca i))
 | bi {i}:VR C ι h (.bi i) (biV i)
 | gd {i}:qg C i→VR C ι h (.gd i) (.ref (C.ga i))
noncomputable abbrev VRs (C:Cx) (ι:Im) (h:Heap):=F2 (VR C ι h)
section
variable {C:Cx} {ι ι':Im} {h h':Heap}
theorem VR.mk_tup {vs:List V} {a:Addr} {items:List Value} (ht:IsTp h a items) (f:VRs C ι h vs items):VR C ι h (.tup vs) (.ref a):=.tup ht f.length fun ξ ξ ξ=>f.get
theorem VR.mono (hι:∀ g p,ι g=some p→ι' g=some p) (ht:Tk h h') {v x} (r:VR C ι h v x):VR C ι' h' v x:=by
 induction r with
 | none=>exact .none
 | bool=>exact .bool
 | int e=>exact .int e
 | str e=>exact .str e
 | anyStr e=>exact .anyStr e
 | tup a b _ ih=>exact .tup (ht.tup a) b ih
 | ref e=>exact .ref (hι _ _ e)
 | fn=>exact .fn
 | cls=>exact .cls
 | bi=>exact .bi
 | gd e=>exact .gd e
theorem VR.intI {o s x} (r:VR C ι h (.int o s) x):∃ n t,x=.int n t∧n=o+C.ρ s:=by cases r with | int e=>exact ⟨_,_,rfl,e⟩
theorem VR.refI {g x} (r:VR C ι h (.ref g) x):∃ a d,x=.ref a∧ι g=some (a,d):=by cases r with | ref e=>exact ⟨_,_,rfl,e⟩
theorem VR.strI {i x} (r:VR C ι h (.str i) x):∃ y t,x=.str y t∧y=C.nm i:=by cases r with | str e=>exact ⟨_,_,rfl,e⟩
theorem VR.anyStrI {k x} (r:VR C ι h (.anyStr k) x):∃ y t,x=.str y t∧y.length≤k:=by cases r with | anyStr e=>exact ⟨_,_,rfl,e⟩
theorem VR.tupI {vs x} (r:VR C ι h (.tup vs) x):∃ a items,x=.ref a∧IsTp h a items∧vs.length=items.length∧∀ (i:Nat) v x,vs[i]?=some v→items[i]?=some x→VR C ι h v x:=by cases r with | tup a b c=>exact ⟨_,_,rfl,a,b,c⟩
theorem VR.biI {i x} (r:VR C ι h (.bi i) x):x=biV i:=by cases r with | bi=>rfl
theorem VR.fnI {i x} (r:VR C ι h (.fn i) x):x=.ref (C.fa i):=by cases r with | fn=>rfl
theorem VR.clsI {i x} (r:VR C ι h (.cls i) x):x=.ref (C.ca i):=by cases r with | cls=>rfl
theorem VR.boolI {b x} (r:VR C ι h (.bool b) x):x=.bool b:=by cases r with | bool=>rfl
theorem VR.noneI {x} (r:VR C ι h .none x):x=.none:=by cases r with | none=>rfl
end
noncomputable def bE (C:Cx):V→Int→Prop
 | .int o s,k=>k=o+C.ρ s
 | _,_=>False
noncomputable def eW (C:Cx):V→Str→Prop
 | .str i,k=>k=C.nm i
 | _,_=>False
noncomputable def cT (C:Cx):List V→List Int→Prop
 | [],[]=>True
 | v :: l,k :: m=>bE C v k∧cT C l m
 | _,_=>False
noncomputable def pv (C:Cx) (t:List V) (z:Option (List Int)):Prop:=(t=[]∧z=none)∨∃ l m,t=[.tup l]∧z=some m∧cT C l m
noncomputable def di (C:Cx) (v:V) (k:bu):Prop:=∃ a b t,v=.tup (a :: b :: t)∧bE C a k.1∧bE C b k.2.1∧pv C t k.2.2
structure DR {κ:Type} (den:V→κ→Prop) (R:V→Value→Prop) (look:κ→Option Value) (kvs:List (V×V)) (may:List V):Prop where
 val:∀ p∈kvs,∃ k x,den p.1 k∧look k=some x∧R p.2 x
 apart:kvs.Pairwise fun p q=>∀ k,den p.1 k→¬ den q.1 k
 all:∀ k,look k≠none→(∃ p∈kvs,den p.1 k)∨∃ v∈may,den v k
theorem DR.mono {κ:Type} {den:V→κ→Prop} {R R':V→Value→Prop} {look kvs may} (hR:∀ v x,R v x→R' v x) (d:DR den R look kvs may):DR den R' look kvs may :=
 ⟨fun p hp=>let ⟨k,x,a,b,c⟩:=d.val p hp;⟨k,x,a,b,hR _ _ c⟩,d.apart,d.all⟩
noncomputable def cI (h:Heap) (a:Addr) (items:List Value):Prop:=∃ n,IsL h a items.toArray n
inductive OR (C:Cx) (ι:Im) (h:Heap) (p:Addr×Addr):O→Prop
 | lst {n vs} (items:List Value):cI h p.1 items→n=vs.length→VRs C ι h vs items→OR C ι h p (.lst n vs)
 | gap {n pre suf} (l m r t:List Value):cI h p.1 (l++m++r++t)→(m.length:Int)=C.ρ 1→(n≤100000→t=[]∧n=pre.length+suf.length)→VRs C ι h pre l→VRs C ι h suf r→OR C ι h p (.gap n pre suf)
 | plst {its} (items:List Value):cI h p.1 items→(∀ f,aA f its≠.unb→∃ x,items[f]?=some x∧VR C ι h (aA f its) x)→OR C ι h p (.plst its)
 | emp:h.get? p.1=some { cls:=.type "dict",data:=.dict #[] }→OR C ι h p .emp
 | idct {n kvs may} (R:List (Int×Value)):h.DictOf (intKind C.prog C.w) p.1 R→R.length≤n→DR (bE C) (VR C ι h) (valueAt R) kvs may→OR C ι h p (.idct n kvs may)
 | sdct {n kvs} (R:List (Str×Value)):h.DictOf (strKind C.prog C.w) p.1 R→R.length≤n→DR (eW C) (VR C ι h) (valueAt R) kvs []→OR C ι h p (.sdct n kvs)
 | kdct {n kvs may} (R:List (bu×Addr×Value)):h.DictOfH (bH C.prog C.w) p.1 R→R.length≤n→DR (di C) (VR C ι h) (fun k=>(atKey R k).map (·.2)) kvs may→OR C ι h p (.kdct n kvs may)
 | inst {c fs} (es:List DictEntry) (n:Nat):h.get? p.1=some (instObj (C.ca c) p.2)→h.get? p.2=some (dictOf es n)→(es.length=fs.length∧∀ q∈fs,q.2≠.unb) →
   (∀ f,aA f fs≠.unb→∃ x,getL (C.nm f) es=some (some x)∧VR C ι h (aA f fs) x)→(∀ f,aA f fs=.unb→getL (C.nm f) es=some none)→OR C ι h p (.inst c fs)
 | bag {has} (items:List Value) (ns:List Int):cI h p.1 items→F2 (fun n v=>∃ t,v=Value.int n t) ns items→(∀ v∈has,∃ k∈ns,bE C v k)→OR C ι h p (.bag has)
section
variable {C:Cx} {ι ι':Im} {h h':Heap} {p:Addr×Addr}
theorem OR.lstI {n vs} (r:OR C ι h p (.lst n vs)):∃ items,cI h p.1 items∧n=vs.length∧VRs C ι h vs items:=by cases r with | lst a b c d=>exact ⟨a,b,c,d⟩
theorem OR.gapI {n pre suf} (r:OR C ι h p (.gap n pre suf)):∃ l m r t,cI h p.1 (l++m++r++t)∧(m.length:Int)=C.ρ 1∧(n≤100000→t=[]∧n=pre.length+suf.length)∧VRs C ι h pre l∧VRs C ι h suf r:=by cases r with | gap a b c d e f g h i=>exact ⟨a,b,c,d,e,f,g,h,i⟩
theorem OR.plstI {its} (r:OR C ι h p (.plst its)):∃ items,cI h p.1 items∧∀ f,aA f its≠.unb→∃ x,items[f]?=some x∧VR C ι h (aA f its) x:=by cases r with | plst a b c=>exact ⟨a,b,c⟩
theorem OR.empI (r:OR C ι h p .emp):h.get? p.1=some { cls:=.type "dict",data:=.dict #[] }:=by cases r with | emp a=>exact a
theorem OR.idctI {n kvs may} (r:OR C ι h p (.idct n kvs may)):∃ R:List (Int×Value),h.DictOf (intKind C.prog C.w) p.1 R∧R.length≤n∧DR (bE C) (VR C ι h) (valueAt R) kvs may:=by cases r with | idct a b c d=>exact ⟨a,b,c,d⟩
theorem OR.sdctI {n kvs} (r:OR C ι h p (.sdct n kvs)):∃ R:List (Str×Value),h.DictOf (strKind C.prog C.w) p.1 R∧R.length≤n∧DR (eW C) (VR C ι h) (valueAt R) kvs []:=by cases r with | sdct a b c d=>exact ⟨a,b,c,d⟩
theorem OR.kdctI {n kvs may} (r:OR C ι h p (.kdct n kvs may)):∃ R:List (bu×Addr×Value),h.DictOfH (bH C.prog C.w) p.1 R∧R.length≤n∧DR (di C) (VR C ι h) (fun k=>(atKey R k).map (·.2)) kvs may:=by cases r with | kdct a b c d=>exact ⟨a,b,c,d⟩
theorem OR.instI {c fs} (r:OR C ι h p (.inst c fs)):∃ (es:List DictEntry) (n:Nat),h.get? p.1=some (instObj (C.ca c) p.2)∧h.get? p.2=some (dictOf es n)∧(es.length=fs.length∧∀ q∈fs,q.2≠.unb) ∧
  (∀ f,aA f fs≠.unb→∃ x,getL (C.nm f) es=some (some x)∧VR C ι h (aA f fs) x)∧∀ f,aA f fs=.unb→getL (C.nm f) es=some none:=by cases r with | inst a b c d e f g=>exact ⟨a,b,c,d,e,f,g⟩
theorem OR.bagI {has} (r:OR C ι h p (.bag has)):∃ (items:List Value) (ns:List Int),cI h p.1 items∧F2 (fun n v=>∃ t,v=Value.int n t) ns items∧∀ v∈has,∃ k∈ns,bE C v k:=by cases r with | bag a b c d e=>exact ⟨a,b,c,d,e⟩
theorem VRs.mono (hι:∀ g p,ι g=some p→ι' g=some p) (ht:Tk h h') {vs xs} (r:VRs C ι h vs xs):VRs C ι' h' vs xs:=F2.mono (fun ξ ξ=>VR.mono hι ht) r
theorem cY {a:Addr} {items:List Value} (hk:∀ o,h.get? a=some o→h'.get? a=some o) (x:cI h a items):cI h' a items:=let ⟨n,e⟩:=x;⟨n,hk _ e⟩
theorem kU {R:List (bu×Addr×Value)} {a:Addr} (ht:Tk h h') (hk:∀ o,h.get? a=some o→h'.get? a=some o) (x:h.DictOfH (bH C.prog C.w) a R):h'.DictOfH (bH C.prog C.w) a R :=
 let ⟨o,es,ep,e,c,d,l,i,n⟩:=x;⟨o,es,ep,hk o e,c,d,l,fun y hy=>ht.row (i y hy),n⟩
theorem OR.mono (hι:∀ g p,ι g=some p→ι' g=some p) (ht:Tk h h') (h1:∀ o,h.get? p.1=some o→h'.get? p.1=some o) (h2:∀ o,h.get? p.2=some o→h'.get? p.2=some o) {o} (r:OR C ι h p o):OR C ι' h' p o:=by
 cases r with
 | lst items a b c=>exact .lst items (cY h1 a) b (c.mono hι ht)
 | gap l m r t a b c d e=>exact .gap l m r t (cY h1 a) b c (d.mono hι ht) (e.mono hι ht)
 | plst items a b=>exact .plst items (cY h1 a) fun f hf=>let ⟨x,e,z⟩:=b f hf;⟨x,e,z.mono hι ht⟩
 | emp a=>exact .emp (h1 _ a)
 | idct R a b c=>exact .idct R (a.at h1) b (c.mono fun ξ ξ=>VR.mono hι ht)
 | sdct R a b c=>exact .sdct R (a.at h1) b (c.mono fun ξ ξ=>VR.mono hι ht)
 | kdct R a b c=>exact .kdct R (kU ht h1 a) b (c.mono fun ξ ξ=>VR.mono hι ht)
 | inst es n a b c d e=>exact .inst es n (h1 _ a) (h2 _ b) c (fun f hf=>let ⟨x,e,z⟩:=d f hf;⟨x,e,z.mono hι ht⟩) e
 | bag items ns a b c=>exact .bag items ns (cY h1 a) b c
theorem cr {a:Addr} {o:Obj} (e:h.get? a=some o) (hn:¬ isT o):∀ o',h.get? a=some o'→¬ isT o':=fun o' e'=>by rw [e] at e';obtain rfl:=Option.some.inj e';exact hn
theorem cw {a:Addr} {items:List Value} (x:cI h a items):∀ o,h.get? a=some o→¬ isT o:=let ⟨n,e⟩:=x;cr e fun t=>by obtain ⟨c,_⟩:=t;injection c with c;exact absurd c (by decide)
theorem aM {a:Addr} {o:Obj} {es n} (e:h.get? a=some o) (d:o.data=.dict es n):∀ o,h.get? a=some o→¬ isT o:=cr e fun⟨_,xs,m,z⟩=>by rw [d] at z;exact nomatch z
theorem OR.not_T {o} (r:OR C ι h p o):∀ x,h.get? p.1=some x→¬ isT x:=by
 cases r with
 | lst items a b c=>exact cw a
 | gap l m r t a b c d e=>exact cw a
 | plst items a b=>exact cw a
 | emp a=>exact aM a rfl
 | idct R a b c=>obtain ⟨o,es,ep,e,c,d,_⟩:=a;exact aM e d
 | sdct R a b c=>obtain ⟨o,es,ep,e,c,d,_⟩:=a;exact aM e d
 | kdct R a b c=>obtain ⟨o,es,ep,e,c,d,_⟩:=a;exact aM e d
 | inst es n a b c d e=>exact cr a fun⟨_,xs,m,z⟩=>nomatch z
 | bag items ns a b c=>exact cw a
theorem OR.not_T2 {c fs} (r:OR C ι h p (.inst c fs)):∀ x,h.get? p.2=some x→¬ isT x:=by
 cases r with
 | inst es n a b c d e=>exact aM b rfl
end
end Gh
end
section
namespace Gh
open PySem PyProof.Rows PySem.W
structure SR (C:Cx) (ι:Im) (σ:St) (h:Heap):Prop where
 dom:∀ g p,ι g=some p→g.num < σ.n.num∧C.h0.get? p.1=none∧C.h0.get? p.2=none∧(∃ o,h.get? p.1=some o)∧∃ o,h.get? p.2=some o
 apart:∀ g g' p p',ι g=some p→ι g'=some p'→g≠g'→p.1≠p'.1∧p.1≠p'.2∧p.2≠p'.1∧p.2≠p'.2
 obs:∀ g w o,at_ σ.h g=.ob w o→∃ p,ι g=some p∧OR C ι h p o
 base:∀ a o,C.h0.get? a=some o→h.get? a=some o
noncomputable def Wr (ι:Im) (σ:St) (a:Addr):Prop:=∃ g p o,at_ σ.h g=.ob true o∧ι g=some p∧(a=p.1∨a=p.2∧∃ c fs,o=.inst c fs)
structure SS (X:Addr→Prop) (ι:Im) (σ:St) (h:Heap) (ι':Im) (σ':St) (h':Heap):Prop where
 ext:∀ g p,ι g=some p→ι' g=some p
 new:∀ g p,ι' g=some p→ι g=some p∨(h.get? p.1=none∧h.get? p.2=none)
 keep:∀ a o,h.get? a=some o→¬ X a→¬ Wr ι σ a→h'.get? a=some o
 live:∀ a o,h.get? a=some o→∃ o',h'.get? a=some o'
 flag:∀ g p o,ι g=some p→at_ σ'.h g=.ob true o→∃ o',at_ σ.h g=.ob true o'∧((∃ c fs,o=.inst c fs)→∃ c fs,o'=.inst c fs)
noncomputable def X0:Addr→Prop:=fun ξ=>False
section
variable {C:Cx} {X Y:Addr→Prop} {ι ι' ι'':Im} {σ σ' σ'':St} {h h' h'':Heap}
theorem aa {α:Type} {x:Option α} {a:α} (e:x=none) (e':x=some a):False:=by rw [e] at e';exact nomatch e'
theorem OR.live {p:Addr×Addr} {o:O} (r:OR C ι h p o):∃ o,h.get? p.1=some o:=by
 cases r with
 | lst items a b c=>obtain ⟨n,a⟩:=a;exact ⟨_,a⟩
 | gap l m r t a b c d e=>obtain ⟨n,a⟩:=a;exact ⟨_,a⟩
 | plst items a b=>obtain ⟨n,a⟩:=a;exact ⟨_,a⟩
 | emp a=>exact ⟨_,a⟩
 | idct R a b c=>obtain ⟨o,es,ep,e,_⟩:=a;exact ⟨_,e⟩
 | sdct R a b c=>obtain ⟨o,es,ep,e,_⟩:=a;exact ⟨_,e⟩
 | kdct R a b c=>obtain ⟨o,es,ep,e,_⟩:=a;exact ⟨_,e⟩
 | inst es n a b c d e=>exact ⟨_,a⟩
 | bag items ns a b c=>obtain ⟨n,a⟩:=a;exact ⟨_,a⟩
theorem Wr.not_T (R:SR C ι σ h) {a} (w:Wr ι σ a):∀ o,h.get? a=some o→¬ isT o:=by
 refine ct fun ng=>?_
 obtain ⟨g,p,o,e,i,z⟩:=w
 obtain ⟨p',i',r⟩:=R.obs g _ _ e
 obtain rfl:p'=p:=Option.some.inj (i'.symm.trans i)
 refine ng ?_
 rcases z with rfl | ⟨rfl,c,fs,rfl⟩
 ·exact r.not_T
 ·exact r.not_T2
theorem Wr.new (R:SR C ι σ h) {a} (w:Wr ι σ a):C.h0.get? a=none:=by
 refine ct fun ng=>?_
 obtain ⟨g,p,o,e,i,z⟩:=w
 have d:=R.dom g p i
 refine ng ?_
 rcases z with rfl | ⟨rfl,_⟩
 ·exact d.2.1
 ·exact d.2.2.1
theorem SS.tk (R:SR C ι σ h) (S:SS X ι σ h ι' σ' h') (hX:∀ a,X a→∀ o,h.get? a=some o→¬ isT o):Tk h h':=fun a o e t=>by
 refine S.keep a o e (fun x=>hX a x o e t) (fun w=>w.not_T R o e t)
theorem SS.refl:SS X ι σ h ι σ h:=⟨fun ξ ξ e=>e,fun ξ ξ e=>.inl e,fun ξ ξ e ξ ξ=>e,fun ξ o e=>⟨o,e⟩,fun ξ ξ o ξ e=>⟨o,e,id⟩⟩
theorem SS.wr (S:SS X ι σ h ι' σ' h') {a o} (ha:h.get? a=some o) (w:Wr ι' σ' a):Wr ι σ a:=by
 obtain ⟨g,p,o,e,i,z⟩:=w
 rcases S.new g p i with i0 | ⟨l1,l2⟩
 ·obtain ⟨o',e',f⟩:=S.flag g p o i0 e
  exact ⟨g,p,o',e',i0,z.imp id fun⟨q,x⟩=>⟨q,f x⟩⟩
 ·rcases z with rfl | ⟨rfl,_⟩
  ·exact (aa l1 ha).elim
  ·exact (aa l2 ha).elim
theorem SS.dead (S:SS X ι σ h ι' σ' h') {a} (ha:h'.get? a=none):h.get? a=none:=by
 cases e:h.get? a with
 | none=>rfl
 | some o=>obtain ⟨o',e'⟩:=S.live a o e;exact (aa ha e').elim
theorem SS.trans (S:SS X ι σ h ι' σ' h') (S':SS X ι' σ' h' ι'' σ'' h''):SS X ι σ h ι'' σ'' h'' where
 ext g p e:=S'.ext g p (S.ext g p e)
 new g p e:=by
  rcases S'.new g p e with i | ⟨a,b⟩
  ·exact S.new g p i
  ·exact .inr ⟨S.dead a,S.dead b⟩
 keep a o e x w:=S'.keep a o (S.keep a o e x w) x fun w'=>w (S.wr e w')
 live a o e:=let ⟨o',e'⟩:=S.live a o e;S'.live a o' e'
 flag g p o i e:=by
  refine ct fun ng=>?_
  obtain ⟨o1,e1,f1⟩:=S'.flag g p o (S.ext g p i) e
  obtain ⟨o2,e2,f2⟩:=S.flag g p o1 i e1
  refine ng ?_
  exact ⟨o2,e2,fun z=>f2 (f1 z)⟩
theorem SS.weaken (S:SS X ι σ h ι' σ' h') (hXY:∀ a o,X a→h.get? a=some o→Y a):SS Y ι σ h ι' σ' h' :=
 ⟨S.ext,S.new,fun a o e y w=>S.keep a o e (fun x=>y (hXY a o x e)) w,S.live,S.flag⟩
theorem SR.grow (R:SR C ι σ h) (k:∀ a o,h.get? a=some o→h'.get? a=some o):SR C ι σ h' :=
 ⟨fun g p e=>let ⟨a,b,c,⟨o,d⟩,o',e⟩:=R.dom g p e;⟨a,b,c,⟨o,k _ _ d⟩,o',k _ _ e⟩,R.apart,
  fun g w o e=>let ⟨p,i,r⟩:=R.obs g w o e;⟨p,i,r.mono (fun ξ ξ e=>e) (fun a o e ξ=>k a o e) (k _) (k _)⟩,fun a o e=>k a o (R.base a o e)⟩
theorem SS.grow (k:∀ a o,h.get? a=some o→h'.get? a=some o):SS X ι σ h ι σ h' :=
 ⟨fun ξ ξ e=>e,fun ξ ξ e=>.inl e,fun a o e ξ ξ=>k a o e,fun a o e=>⟨o,k a o e⟩,fun ξ ξ o ξ e=>⟨o,e,id⟩⟩
theorem cW {L:Addr} (k:Heap.SameBut L h h') (hl:∃ o,h'.get? L=some o):∀ a o,h.get? a=some o→∃ o',h'.get? a=some o':=fun a o e=>by
 by_cases c:a=L
 ·exact c▸hl
 ·exact ⟨o,(k.2 a c).trans e⟩
theorem SR.other (R:SR C ι σ h) {L:Addr} (k:Heap.SameBut L h h') (hl:∃ o,h'.get? L=some o) (hL:C.h0.get? L=none) (hp:∀ g p,ι g=some p→L≠p.1∧L≠p.2) (hT:∀ o,h.get? L=some o→¬ isT o):SR C ι σ h' :=
 ⟨fun g p e=>let ⟨a,b,c,⟨o,d⟩,o',e⟩:=R.dom g p e;⟨a,b,c,cW k hl _ _ d,cW k hl _ _ e⟩,R.apart,
  fun g w o e=>let ⟨p,i,r⟩:=R.obs g w o e;⟨p,i,r.mono (fun ξ ξ e=>e) (fun a o e t=>(k.2 a fun c=>hT o (c▸e) t).trans e)
   (fun o e=>(k.2 _ (Ne.symm (hp g p i).1)).trans e) (fun o e=>(k.2 _ (Ne.symm (hp g p i).2)).trans e)⟩,
  fun a o e=>(k.2 a fun c=>aa (c▸hL) e).trans (R.base a o e)⟩
theorem SS.other {L:Addr} (k:Heap.SameBut L h h') (hl:∃ o,h'.get? L=some o) (hX:X L):SS X ι σ h ι σ h' :=
 ⟨fun ξ ξ e=>e,fun ξ ξ e=>.inl e,fun a o e x ξ=>(k.2 a fun c=>x (c▸hX)).trans e,cW k hl,fun ξ ξ o ξ e=>⟨o,e,id⟩⟩
theorem fU {g:Ps} {o:O}:at_ (upd σ g o).h g=.ob true o:=Tr.get_put_same ..
theorem iF {g g':Ps} {o:O} (hn:g'≠g):at_ (upd σ g o).h g'=at_ σ.h g':=Tr.get_put_ne _ _ _ _ hn
noncomputable def dJ:O→Prop:=fun o=>∃ c fs,o=.inst c fs
noncomputable def rR (o:O):Bool:=@O.rec (fun ξ=>Bool) (fun ξ ξ=>false) (fun ξ ξ ξ=>false) (fun ξ=>false) false (fun ξ ξ ξ=>false) (fun ξ ξ=>false) (fun ξ ξ ξ=>false) (fun ξ ξ=>true) (fun ξ=>false) o
theorem fh {o o':O} (h:rR o'=false) (i:dJ o'):dJ o:=by obtain ⟨c,fs,rfl⟩:=i;exact (Bool.false_ne_true h.symm).elim
theorem SR.write (R:SR C ι σ h) {g:Ps} {p:Addr×Addr} {a:Addr} {o₀ o:O} (e:at_ σ.h g=.ob true o₀) (i:ι g=some p) (ha:a=p.1∨a=p.2∧dJ o₀) (hk:dJ o→dJ o₀)
  (k:Heap.SameBut a h h') (hl:∃ o,h'.get? a=some o) (r':OR C ι h' p o):SR C ι (upd σ g o) h'∧SS X ι σ h ι (upd σ g o) h':=by
 have hw:Wr ι σ a:=⟨g,p,o₀,e,i,ha⟩
 have nT:=hw.not_T R
 have lv:=cW k hl
 refine ⟨⟨fun g p e=>let ⟨a,b,c,⟨o,d⟩,o',e⟩:=R.dom g p e;⟨a,b,c,lv _ _ d,lv _ _ e⟩,R.apart,fun g' w o' e'=>?_,fun b o e=>(k.2 b fun c=>aa (hw.new R) (c▸e)).trans (R.base b o e)⟩,
  fun ξ ξ e=>e,fun ξ ξ e=>.inl e,fun b o e ξ w=>(k.2 b fun c=>w (c▸hw)).trans e,lv,fun g' p' o' i' e'=>?_⟩
 ·by_cases hg:g'=g
  ·subst hg
   rw [fU] at e'
   cases e'
   exact ⟨p,i,r'⟩
  ·rw [iF hg] at e'
   obtain ⟨q,j,r⟩:=R.obs g' w o' e'
   have ap:=R.apart g' g q p j i hg
   refine ⟨q,j,r.mono (fun ξ ξ e=>e) (fun b o e t=>(k.2 b fun c=>nT o (c▸e) t).trans e) (fun o e=>(k.2 _ ?_).trans e) (fun o e=>(k.2 _ ?_).trans e)⟩
   ·rcases ha with rfl | ⟨rfl,_⟩
    ·exact ap.1
    ·exact ap.2.1
   ·rcases ha with rfl | ⟨rfl,_⟩
    ·exact ap.2.2.1
    ·exact ap.2.2.2
 ·by_cases hg:g'=g
  ·subst hg
   rw [fU] at e'
   cases e'
   exact ⟨o₀,e,hk⟩
  ·rw [iF hg] at e'
   exact ⟨o',e',id⟩
open Classical in
noncomputable def ιput (ι:Im) (g:Ps) (p:Addr×Addr):Im:=fun g'=>if g'=g then some p else ι g'
theorem SR.alloc (R:SR C ι σ h) {p:Addr×Addr} {o:O} (k:∀ a o,h.get? a=some o→h'.get? a=some o)
  (p1:h.get? p.1=none) (p2:h.get? p.2=none) (q2:∃ o,h'.get? p.2=some o) (r:∀ ι',(∀ g p,ι g=some p→ι' g=some p)→OR C ι' h' p o) :
  ∃ ι',ι' σ.n=some p∧SR C ι' ⟨Tr.put .no (.ob true o) σ.n σ.h,σ.n.succ⟩ h'∧SS X ι σ h ι' ⟨Tr.put .no (.ob true o) σ.n σ.h,σ.n.succ⟩ h':=by
 have hι:∀ g p,ι g=some p→g≠σ.n:=fun g p e c=>Nat.lt_irrefl _ (c▸(R.dom g p e).1)
 have ext:∀ g q,ι g=some q→ιput ι σ.n p g=some q:=fun g q e=>by unfold ιput;rw [if_neg (hι g q e)];exact e
 have new:∀ g q,ιput ι σ.n p g=some q→(g=σ.n∧q=p)∨(g≠σ.n∧ι g=some q):=fun g q e=>by
  unfold ιput at e
  split at e
  ·obtain rfl:=Option.some.inj e;exact .inl ⟨by assumption,rfl⟩
  ·exact .inr ⟨by assumption,e⟩
 have b0:∀ {a},h.get? a=none→C.h0.get? a=none:=fun{a} e=>by
  cases q:C.h0.get? a with
  | none=>rfl
  | some o=>exact (aa e (R.base a o q)).elim
 have nq:∀ {a b},h.get? a=none→(∃ o,h.get? b=some o)→a≠b:=fun e ⟨o,e'⟩ c=>aa e (c▸e')
 refine ⟨ιput ι σ.n p,by unfold ιput;rw [if_pos rfl],⟨fun g q e=>?_,fun g g' q q' e e' hn=>?_,fun g w o' e'=>?_,fun a o e=>k a o (R.base a o e)⟩,ext,fun g q e=>?_,fun a o e ξ ξ=>k a o e,fun a o e=>⟨o,k a o e⟩,fun g q o' i e'=>?_⟩
 ·show g.num < σ.n.succ.num∧_
  rw [Ps.num_succ]
  rcases new g q e with ⟨rfl,rfl⟩ | ⟨_,i⟩
  ·exact ⟨Nat.lt_succ_self _,b0 p1,b0 p2,(r _ ext).live,q2⟩
  ·refine ct fun ng=>?_
   obtain ⟨a,b,c,⟨o,d⟩,o',e⟩:=R.dom g q i
   refine ng ?_
   exact ⟨Nat.lt_succ_of_lt a,b,c,⟨o,k _ _ d⟩,o',k _ _ e⟩
 ·rcases new g q e with ⟨rfl,rfl⟩ | ⟨_,i⟩<;>rcases new g' q' e' with ⟨rfl,rfl⟩ | ⟨_,i'⟩
  ·exact absurd rfl hn
  ·have d:=R.dom g' q' i'
   exact ⟨nq p1 d.2.2.2.1,nq p1 d.2.2.2.2,nq p2 d.2.2.2.1,nq p2 d.2.2.2.2⟩
  ·have d:=R.dom g q i
   exact ⟨(nq p1 d.2.2.2.1).symm,(nq p2 d.2.2.2.1).symm,(nq p1 d.2.2.2.2).symm,(nq p2 d.2.2.2.2).symm⟩
  ·exact R.apart g g' q q' i i' hn
 ·by_cases hg:g=σ.n
  ·subst hg
   have e2:at_ (Tr.put .no (.ob true o) σ.n σ.h) σ.n=.ob true o:=Tr.get_put_same ..
   rw [e2] at e'
   cases e'
   exact ⟨p,by unfold ιput;rw [if_pos rfl],r _ ext⟩
  ·have e2:at_ (Tr.put .no (.ob true o) σ.n σ.h) g=at_ σ.h g:=Tr.get_put_ne _ _ _ _ hg
   rw [e2] at e'
   obtain ⟨q,j,r⟩:=R.obs g w o' e'
   exact ⟨q,ext _ _ j,r.mono ext (fun a o e ξ=>k a o e) (k _) (k _)⟩
 ·rcases new g q e with ⟨rfl,rfl⟩ | ⟨_,i⟩
  ·exact .inr ⟨p1,p2⟩
  ·exact .inl i
 ·have e2:at_ (Tr.put .no (.ob true o) σ.n σ.h) g=at_ σ.h g:=Tr.get_put_ne _ _ _ _ (hι g q i)
  rw [e2] at e'
  exact ⟨o',e',id⟩
end
end Gh
end
section
namespace Gh
open PySem PyProof.Rows PySem.W
noncomputable def Sh (s s':Shared):Prop:=∃ h t,s'={ s with heap:=h,toks:=t }
theorem Sh.refl {s:Shared}:Sh s s:=⟨_,_,rfl⟩
theorem Sh.trans {a b c:Shared} (x:Sh a b) (y:Sh b c):Sh a c:=by obtain ⟨h,t,rfl⟩:=x;obtain ⟨h',t',rfl⟩:=y;exact ⟨h',t',rfl⟩
theorem Sh.mk {s:Shared} (h:Heap) (t:Nat):Sh s { s with heap:=h,toks:=t }:=⟨h,t,rfl⟩
noncomputable def NoE:Value→Shared→Prop:=fun ξ ξ=>False
structure RM (A:Around) (n:Nat):Prop where
 han:A.handled=none
 dep:A.depth+2 * n+10 < recursionLimit
 uni:A.units+20 * n+200 < cLine
theorem RM.u2 {A:Around} {n:Nat} (r:RM A n):A.units+200 < cLine:=Nat.lt_of_le_of_lt (Nat.add_le_add_right (Nat.le_add_right _ _) _) r.uni
theorem RM.pred {A:Around} {n:Nat} (r:RM A (n+1)):RM A n:=⟨r.han,Nat.lt_of_le_of_lt (Nat.add_le_add_right (Nat.add_le_add_left (Nat.mul_le_mul_left 2 (Nat.le_succ n)) _) _) r.dep,Nat.lt_of_le_of_lt (Nat.add_le_add_right (Nat.add_le_add_left (Nat.mul_le_mul_left 20 (Nat.le_succ n)) _) _) r.uni⟩
noncomputable def X0':Addr→Prop:=X0
section
variable {C:Cx} {X:Addr→Prop} {ι ι' ι'':Im} {σ σ' σ'':St} {h h' h'':Heap}
theorem x0T:∀ a,X0 a→∀ o,h.get? a=some o→¬ isT o:=fun ξ x=>x.elim
theorem SR.vr (R:SR C ι σ h) (S:SS X0 ι σ h ι' σ' h') {v x} (r:VR C ι h v x):VR C ι' h' v x:=r.mono S.ext (S.tk R x0T)
theorem SR.vrs (R:SR C ι σ h) (S:SS X0 ι σ h ι' σ' h') {v x} (r:VRs C ι h v x):VRs C ι' h' v x:=VRs.mono S.ext (S.tk R x0T) r
noncomputable def PE (C:Cx) (ι:Im) (σ:St) (s:Shared) (σ':St) (v:V):Value→Shared→Prop :=
 fun x s'=>Sh s s'∧∃ ι',SR C ι' σ' s'.heap∧SS X0 ι σ s.heap ι' σ' s'.heap∧VR C ι' s'.heap v x
theorem PE.trans {s s1:Shared} {v:V} (S1:Sh s s1) (S:SS X0 ι σ s.heap ι' σ' s1.heap) {x s2} (p:PE C ι' σ' s1 σ'' v x s2):PE C ι σ s σ'' v x s2 :=
 let ⟨a,ι2,b,c,d⟩:=p;⟨S1.trans a,ι2,b,S.trans c,d⟩
theorem PE.same {s:Shared} {v:V} {x} (R:SR C ι σ s.heap) (r:VR C ι s.heap v x) {t:Nat}:PE C ι σ s σ v x { s with toks:=t } :=
 ⟨⟨_,_,rfl⟩,ι,R,SS.refl,r⟩
theorem PE.here {s:Shared} {v:V} {x} (R:SR C ι σ s.heap) (r:VR C ι s.heap v x):PE C ι σ s σ v x s :=
 ⟨Sh.refl,ι,R,SS.refl,r⟩
structure FS (C:Cx) (ι:Im) (σ:St) (h:Heap) (L:Addr) (ns:List Str) (ρ:List V):Prop where
 sr:SR C ι σ h
 ns:∃ m,h.Ns L m∧∀ (i:Nat) x,ns[i]?=some x→nth ρ i≠.unb→∃ v,m x=some v∧VR C ι h (nth ρ i) v
 above:C.h0.get? L=none
 off:∀ g p,ι g=some p→L≠p.1∧L≠p.2
theorem FS.live {L ns ρ} (F:FS C ι σ h L ns ρ):∃ o,h.get? L=some o:=let ⟨m,⟨o,es,ep,e,_⟩,_⟩:=F.ns;⟨o,e⟩
theorem FS.notWr {L ns ρ} (F:FS C ι σ h L ns ρ):¬ Wr ι σ L:=by
 rintro ⟨g,p,o,e,i,z⟩
 have f:=F.off g p i
 rcases z with z | ⟨z,_⟩
 ·exact f.1 z
 ·exact f.2 z
theorem FS.step {L ns ρ} (F:FS C ι σ h L ns ρ) (R:SR C ι' σ' h') (S:SS X0 ι σ h ι' σ' h'):FS C ι' σ' h' L ns ρ:=by
 refine ⟨R,?_,F.above,fun g p e=>?_⟩
 ·obtain ⟨m,⟨o,es,ep,e,r⟩,q⟩:=F.ns
  exact ⟨m,⟨o,es,ep,S.keep L o e (fun x=>x) F.notWr,r⟩,fun i x hx hn=>let ⟨v,e,z⟩:=q i x hx hn;⟨v,e,F.sr.vr S z⟩⟩
 ·rcases S.new g p e with i | ⟨a,b⟩
  ·exact F.off g p i
  ·obtain ⟨o,e⟩:=F.live
   exact ⟨fun c=>aa a (c▸e),fun c=>aa b (c▸e)⟩
theorem FS.notT {L ns ρ} (F:FS C ι σ h L ns ρ):∀ o,h.get? L=some o→¬ isT o:=by
 obtain ⟨m,⟨o,es,ep,e,d,_⟩,q⟩:=F.ns
 exact aM e d
structure EOk (env:Env) (L:Addr):Prop where
 kind:env.scope.kind=.function
 glob:env.globals=mainGlobals
 bi:env.builtins=builtinsNs
 loc:env.locals=L
theorem ao {A:Around} {t:Sem Value} {s:Shared} {L:Addr} {ns:List Str} {ρ:List V} {v:V} {Q:Value→Shared→Prop} {E:Value→Shared→Prop} (F:FS C ι σ s.heap L ns ρ)
  (hw:wpAny (model C.prog C.w) A t (PE C ι σ s σ' v) E s)
  (k:∀ ι1 s1 x,Sh s s1→FS C ι1 σ' s1.heap L ns ρ→SS X0 ι σ s.heap ι1 σ' s1.heap→VR C ι1 s1.heap v x→Q x s1):wpAny (model C.prog C.w) A t Q E s :=
 wm hw (fun x s1 ⟨a,ι1,b,c,d⟩=>k ι1 s1 x a (F.step b c) c d)
theorem eU {A:Around} {t:Sem Value} {s s1:Shared} {v:V} {E:Value→Shared→Prop} (a:Sh s s1) (S:SS X0 ι σ s.heap ι' σ' s1.heap)
  (hw:wpAny (model C.prog C.w) A t (PE C ι' σ' s1 σ'' v) E s1):wpAny (model C.prog C.w) A t (PE C ι σ s σ'' v) E s1 :=
 wpAny_mono hw (fun ξ ξ p=>p.trans a S) fun ξ ξ e=>e
end
section
variable {prog:Program} {w:World} {A:Around} {E:Value→Shared→Prop} {s:Shared} {env:Env}
noncomputable def bp:Expr→Bool
 | .Call (.Name _ _) [] [] _=>false
 | _=>true
theorem bq {o:Expr} {a:Str} {t:Sem Value} (h:bp o=true):attributeBase o a env t=t:=by
 cases o with
 | Call f l k p=>cases f with
  | Name x q=>cases l with
   | nil=>cases k with
    | nil=>exact (Bool.false_ne_true h).elim
    | cons _ _=>rfl
   | cons _ _=>rfl
  | _=>rfl
 | _=>rfl
theorem dK {value:Expr} {attr:Str} {pos:Pos} {Q:Value→Shared→Prop} (hb:bp value=true)
  (h:wpAny (model prog w) A (eval value env) (fun o s₁=>wpAny (model prog w) A (getAttr o attr true) Q E s₁) E s):wpAny (model prog w) A (eval (.Attribute value attr pos) env) Q E s:=by
 rw [arm_eval_Attribute,bq hb]
 exact wpAny_bind (wpAny_mono h (fun o s₁ h₁=>wpAny_bind (wpAny_standAt (wpAny_bind (wpAny_holding (wpAny_mono h₁ (fun r s₂ h₂=>wpAny_bind (wpAny_letTemporaryGo (wpAny_pure h₂))) fun ξ ξ e=>e))))) fun ξ ξ e=>e)
theorem dY {slice:Expr} {o i:Value} {Q:Value→Shared→Prop} (h:wpAny (model prog w) A (getItem o i) Q E s):wpAny (model prog w) A (subscripted slice false o i) Q E s:=by
 cases slice with
 | Slice a b c p=>cases c<;>exact wpAny_operating h
 | _=>exact wpAny_operating h
theorem bm {value slice:Expr} {pos:Pos} {Q:Value→Shared→Prop}
  (h:wpAny (model prog w) A (eval value env) (fun o s₁=>wpAny (model prog w) A (eval slice env) (fun i s₂=>SubscriptOn (model prog w) A o i Q E s₂) E s₁) E s):wpAny (model prog w) A (eval (.Subscript value slice pos) env) Q E s:=by
 rw [eval_Subscript]
 refine wpAny_bind (wpAny_mono h (fun o s₁ h₁=>wpAny_bind (wpAny_holding (wpAny_mono h₁ (fun i s₂ h₂=>wpAny_bind (wpAny_standAt ?_)) fun ξ ξ x=>x))) fun ξ ξ x=>x)
 obtain ⟨T,id,hl,hT,hg⟩:=h₂
 refine wpAny_bind ?_
 rw [getitemInPython_of_ne hT.not_modules]
 refine wpAny_bind (wpAny_specialOf hT hl ?_)
 have fin:wpAny (model prog w) A (subscripted slice false o i) (fun r s₃=>wpAny (model prog w) A (letTemporaryGo value o r >>= fun ξ=>pure r) Q E s₃) E s₂ :=
  dY (wm hg (fun r s₃ h₃=>wpAny_bind (wpAny_letTemporaryGo (wpAny_pure h₃))))
 first
  | exact wpAny_pure (wpAny_bind fin)
  | exact wpAny_bind (wpAny_pure (wpAny_bind fin))
  | exact wpAny_bind fin
end
end Gh
end
section
namespace Gh
open PySem PyProof.Rows PySem.W
structure RhoOk (C:Cx):Prop where
 lo:∀ s,0≤C.ρ s
 hi:∀ s,C.ρ s≤hi s
theorem RhoOk.zero {C:Cx} (R:RhoOk C):C.ρ 0=0:=Int.le_antisymm (R.hi 0) (R.lo 0)
theorem uC {b:Bool} (h:b3 b=.yes):b=true:=by cases b<;>first | rfl | exact nomatch h
theorem wp {b:Bool} (h:b3 b=.no):b=false:=by cases b<;>first | rfl | exact nomatch h
theorem k7 {a b:Bool} (h:b3 a=b3 b):a=b:=by cases a<;>cases b<;>first | rfl | exact nomatch h
theorem natbeq {a b:Nat}:Nat.beq a b=true↔a=b:=⟨Nat.eq_of_beq_eq_true,fun e=>e▸Nat.beq_refl a⟩
theorem natbeq_f {a b:Nat}:Nat.beq a b=false↔a≠b:=⟨Nat.ne_of_beq_eq_false,fun e=>by cases h:Nat.beq a b with | false=>rfl | true=>exact absurd (natbeq.mp h) e⟩
theorem eS (a b:Int):o7 a b=b3 (decide (a=b)):=by
 cases a with
 | ofNat m=>cases b with
  | ofNat n =>
   show b3 (Nat.beq m n)=_
   congr 1
   cases h:Nat.beq m n with
   | true=>rw [natbeq.mp h];simp
   | false=>have:=natbeq_f.mp h;simp;exact fun e=>this (by omega)
  | negSucc n=>show B3.no=_;rw [decide_eq_false (fun c=>nomatch c)];rfl
 | negSucc m=>cases b with
  | ofNat n=>show B3.no=_;rw [decide_eq_false (fun c=>nomatch c)];rfl
  | negSucc n =>
   show b3 (Nat.beq m n)=_
   congr 1
   cases h:Nat.beq m n with
   | true=>rw [natbeq.mp h];simp
   | false=>have:=natbeq_f.mp h;simp;exact fun e=>this (by omega)
theorem natble {a b:Nat}:Nat.ble a b=true↔a≤b:=⟨Nat.le_of_ble_eq_true,Nat.ble_eq_true_of_le⟩
theorem cg (a b:Int):fY a b=decide (a < b):=by
 cases a with
 | ofNat m=>cases b with
  | ofNat n =>
   show Nat.ble (m+1) n=_
   cases h:Nat.ble (m+1) n with
   | true=>have:=natble.mp h;symm;apply decide_eq_true;show (m:Int) < (n:Int);omega
   | false =>
    symm;apply decide_eq_false;intro c;have c':(m:Int) < (n:Int):=c
    have:m+1≤n:=by omega
    rw [natble.mpr this] at h;exact nomatch h
  | negSucc n=>show false=_;symm;apply decide_eq_false;rw [Int.ofNat_eq_natCast];omega
 | negSucc m=>cases b with
  | ofNat n=>show true=_;symm;apply decide_eq_true;rw [Int.ofNat_eq_natCast];omega
  | negSucc n =>
   show Nat.ble (n+1) m=_
   cases h:Nat.ble (n+1) m with
   | true=>have:=natble.mp h;symm;apply decide_eq_true;omega
   | false =>
    symm;apply decide_eq_false;intro c
    have:n+1≤m:=by omega
    rw [natble.mpr this] at h;exact nomatch h
theorem gh (a b:Int):tO a b=a+b:=by
 cases a with
 | ofNat m=>cases b with
  | ofNat n=>rfl
  | negSucc n=>rfl
 | negSucc m=>rfl
section
variable {C:Cx} (ρk:RhoOk C) {o o':Int} {s s':Nat}
include ρk
theorem bJ {b:Bool} (h:seq o s o' s'=b3 b):decide (o+C.ρ s=o'+C.ρ s')=b:=by
 unfold seq at h
 cases e:Nat.beq s s' with
 | true =>
  rw [e,eS] at h
  obtain rfl:=natbeq.mp e
  have:decide (o=o')=b:=k7 h
  rw [← this]
  apply decide_eq_decide.mpr
  omega
 | false =>
  have h1:=ρk.lo s;have h2:=ρk.hi s;have h3:=ρk.lo s';have h4:=ρk.hi s'
  rw [e] at h
  change (@Bool.rec (fun ξ=>B3) (@Bool.rec (fun ξ=>B3) .und .no (fY (Int.add o' (hi s')) o)) .no (fY (Int.add o (hi s)) o'))=b3 b at h
  rw [cg,cg] at h
  by_cases c1:o+hi s < o'
  ·have:decide (Int.add o (hi s) < o')=true:=decide_eq_true c1
   rw [this] at h
   cases b with
   | true=>exact nomatch h
   | false=>exact decide_eq_false (by omega)
  ·have:decide (Int.add o (hi s) < o')=false:=decide_eq_false c1
   rw [this] at h
   by_cases c2:o'+hi s' < o
   ·have:decide (Int.add o' (hi s') < o)=true:=decide_eq_true c2
    rw [this] at h
    cases b with
    | true=>exact nomatch h
    | false=>exact decide_eq_false (by omega)
   ·have:decide (Int.add o' (hi s') < o)=false:=decide_eq_false c2
    rw [this] at h
    cases b<;>exact nomatch h
theorem mY {b:Bool} (h:slt o s o' s'=b3 b):decide (o+C.ρ s < o'+C.ρ s')=b:=by
 unfold slt at h
 cases e:Nat.beq s s' with
 | true =>
  obtain rfl:=natbeq.mp e
  rw [e] at h
  change b3 (fY o o')=b3 b at h
  rw [cg] at h
  have:decide (o < o')=b:=k7 h
  rw [← this]
  apply decide_eq_decide.mpr
  omega
 | false =>
  have h1:=ρk.lo s;have h2:=ρk.hi s;have h3:=ρk.lo s';have h4:=ρk.hi s'
  rw [e] at h
  change (@Bool.rec (fun ξ=>B3) (@Bool.rec (fun ξ=>B3) .no .und (fY o (Int.add o' (hi s')))) .yes (fY (Int.add o (hi s)) o'))=b3 b at h
  rw [cg,cg] at h
  by_cases c1:o+hi s < o'
  ·have:decide (Int.add o (hi s) < o')=true:=decide_eq_true c1
   rw [this] at h
   cases b with
   | false=>exact nomatch h
   | true=>exact decide_eq_true (by omega)
  ·have:decide (Int.add o (hi s) < o')=false:=decide_eq_false c1
   rw [this] at h
   by_cases c2:o < o'+hi s'
   ·have:decide (o < Int.add o' (hi s'))=true:=decide_eq_true c2
    rw [this] at h
    cases b<;>exact nomatch h
   ·have:decide (o < Int.add o' (hi s'))=false:=decide_eq_false c2
    rw [this] at h
    cases b with
    | true=>exact nomatch h
    | false=>exact decide_eq_false (by omega)
end
theorem eE {x:B3} {b:Bool} (h:i3 x=b3 b):x=b3 (!b):=by cases x<;>cases b<;>first | rfl | exact nomatch h
noncomputable def m7:BO→Operator
 | .add=>.Add | .sub=>.Sub | .mul=>.Mult | .fdiv=>.FloorDiv | .mod=>.Mod | .band=>.BitAnd
section
variable {C:Cx} {ι:Im} {σ σ':St} {A:Around} {s:Shared} {E:Value→Shared→Prop}
theorem i6 {a b:Nat} {r:RE} {v:V} (h:oN a b r=.ok v σ'):a=0∧b=0∧r=.ok v σ':=by
 unfold oN at h
 cases ea:Nat.beq a 0 with
 | false=>rw [ea] at h;exact nomatch h
 | true =>
  rw [ea] at h
  cases eb:Nat.beq b 0 with
  | false=>rw [eb] at h;exact nomatch h
  | true=>rw [eb] at h;exact ⟨natbeq.mp ea,natbeq.mp eb,h⟩
theorem jC {o:Int} {r:RE} {v:V} (h:lF o r=.ok v σ'):0≤o∧o≤1000000∧r=.ok v σ':=by
 unfold lF at h
 cases o with
 | negSucc n=>exact nomatch h
 | ofNat n =>
  change @Bool.rec (fun ξ=>RE) .fail r (Nat.ble n 1000000)=_ at h
  cases e:Nat.ble n 1000000 with
  | false=>rw [e] at h;exact nomatch h
  | true=>rw [e] at h;have:=natble.mp e;exact ⟨Int.natCast_nonneg n,by show (n:Int)≤1000000;omega,h⟩
theorem ti {o:Int} {r:RE} {v:V} (h:pos o r=.ok v σ'):0 < o∧r=.ok v σ':=by
 unfold pos at h
 cases o with
 | negSucc n=>exact nomatch h
 | ofNat n =>
  change @Bool.rec (fun ξ=>RE) r .fail (Nat.beq n 0)=_ at h
  cases e:Nat.beq n 0 with
  | true=>rw [e] at h;exact nomatch h
  | false=>rw [e] at h;have:=natbeq_f.mp e;exact ⟨by show (0:Int) < (n:Int);omega,h⟩
theorem kZ (ρk:RhoOk C) {op:BO} {o o':Int} {a a':Nat} {t t':Tok} {v:V} {m m':Int} (hs:SR C ι σ s.heap) (e1:m=o+C.ρ a) (e2:m'=o'+C.ρ a') (h:pJ op o a o' a' σ=.ok v σ') :
  wpAny (model C.prog C.w) A (binaryOp (m7 op) (.int m t) (.int m' t')) (PE C ι σ s σ' v) E s:=by
 have z:=ρk.zero
 cases op with
 | add =>
  refine add_int ?_
  change pO o a o' a' σ=_ at h
  unfold pO at h
  cases ea:Nat.beq a 0 with
  | true =>
   rw [ea] at h
   injection h with h1 h2
   subst h2 h1
   obtain rfl:=natbeq.mp ea
   exact PE.same hs (.int (by rw [gh];omega))
  | false =>
   rw [ea] at h
   change @Bool.rec (fun ξ=>RE) .fail _ (Nat.beq a' 0)=_ at h
   cases eb:Nat.beq a' 0 with
   | false=>rw [eb] at h;exact nomatch h
   | true =>
    rw [eb] at h
    injection h with h1 h2
    subst h2 h1
    obtain rfl:=natbeq.mp eb
    exact PE.same hs (.int (by rw [gh];omega))
 | sub =>
  refine sub_int ?_
  change @Bool.rec (fun ξ=>RE) .fail _ (Nat.beq a' 0)=_ at h
  cases eb:Nat.beq a' 0 with
  | false=>rw [eb] at h;exact nomatch h
  | true =>
   rw [eb] at h
   injection h with h1 h2
   subst h2 h1
   obtain rfl:=natbeq.mp eb
   exact PE.same hs (.int (by show _=o - o'+_;omega))
 | mul =>
  obtain ⟨rfl,rfl,h⟩:=i6 h
  obtain ⟨l1,l2,h⟩:=jC h
  injection h with h1 h2
  subst h2 h1
  rw [z,Int.add_zero] at e1 e2
  subst e1 e2
  refine mul_int (PE.same hs (.int (by rw [z];show _=m * m'+0;omega))) (.of_left ?_)
  exact PySem.intBits_le_64 (by omega) (by omega)
 | fdiv=>exact nomatch h
 | mod =>
  obtain ⟨rfl,rfl,h⟩:=i6 h
  obtain ⟨l1,l2,h⟩:=jC h
  obtain ⟨l3,h⟩:=ti h
  injection h with h1 h2
  subst h2 h1
  rw [z,Int.add_zero] at e1 e2
  subst e1 e2
  refine mod_int' (by omega) (PE.same hs (.int (by rw [z,Int.add_zero];exact Int.fmod_eq_emod_of_nonneg _ (Int.le_of_lt l3))))
 | band =>
  obtain ⟨rfl,rfl,h⟩:=i6 h
  rw [z,Int.add_zero] at e1 e2
  subst e1 e2
  cases m with
  | negSucc n=>exact nomatch h
  | ofNat n=>cases m' with
   | negSucc n=>exact nomatch h
   | ofNat k =>
    injection h with h1 h2
    subst h2 h1
    refine and_int (PE.same hs (.int ?_))
    rw [z,Int.add_zero]
    rfl
end
end Gh
end
section
namespace Gh
open PySem PyProof.Rows PySem.W
section
universe u
variable {α:Sort u} {d r:α}
theorem ae {v:V} {k:Int→Nat→α} (h:am v d k=r) (hd:d≠r):∃ o s,v=.int o s∧k o s=r:=by
 cases v<;>first | exact ⟨_,_,rfl,h⟩ | exact absurd h hd
theorem bt {v:V} {k:Nat→α} (h:bG v d k=r) (hd:d≠r):∃ i,v=.str i∧k i=r:=by
 cases v<;>first | exact ⟨_,rfl,h⟩ | exact absurd h hd
theorem br {v:V} {k:List V→α} (h:aQ v d k=r) (hd:d≠r):∃ i,v=.tup i∧k i=r:=by
 cases v<;>first | exact ⟨_,rfl,h⟩ | exact absurd h hd
theorem aB {v:V} {k:Ps→α} (h:aC v d k=r) (hd:d≠r):∃ i,v=.ref i∧k i=r:=by
 cases v<;>first | exact ⟨_,rfl,h⟩ | exact absurd h hd
theorem lh {v:V} {k:Bool→α} (h:gY v d k=r) (hd:d≠r):∃ i,v=.bool i∧k i=r:=by
 cases v<;>first | exact ⟨_,rfl,h⟩ | exact absurd h hd
theorem wz {v:V} {k:Ps→α} (h:lg v d k=r) (hd:d≠r):∃ i,v=.gd i∧k i=r:=by
 cases v<;>first | exact ⟨_,rfl,h⟩ | exact absurd h hd
theorem au {v:V} {k:Nat→α} (h:a6 v d k=r) (hd:d≠r):∃ n:Nat,v=.int (Int.ofNat n) 0∧k n=r:=by
 obtain ⟨o,s,rfl,h'⟩:=ae h hd
 clear h
 cases e:Nat.beq s 0 with
 | false=>rw [e] at h';exact absurd h' hd
 | true =>
  rw [e] at h'
  obtain rfl:=natbeq.mp e
  cases o with
  | ofNat n=>exact ⟨n,rfl,h'⟩
  | negSucc n=>exact absurd h' hd
theorem bk {v:V} {n:α} (h:aP v d n=r) (hd:d≠r):v≠.unb∧n=r:=by
 cases v<;>first | exact ⟨nofun,h⟩ | exact absurd h hd
theorem aF {c:Cell} {k:Bool→Nat→List V→α} (h:aS c d k=r) (hd:d≠r):∃ w n vs,c=.ob w (.lst n vs)∧k w n vs=r:=by
 cases c with
 | no=>exact absurd h hd
 | ob w o=>cases o<;>first | exact ⟨_,_,_,rfl,h⟩ | exact absurd h hd
theorem cp {c:Cell} {k:Bool→Ps→List (Nat×V)→α} (h:gv c d k=r) (hd:d≠r):∃ w n vs,c=.ob w (.inst n vs)∧k w n vs=r:=by
 cases c with
 | no=>exact absurd h hd
 | ob w o=>cases o<;>first | exact ⟨_,_,_,rfl,h⟩ | exact absurd h hd
theorem bW {c:Cell} {k:Bool→O→α} (h:obj c d k=r) (hd:d≠r):∃ w o,c=.ob w o∧k w o=r:=by
 cases c with
 | no=>exact absurd h hd
 | ob w o=>exact ⟨_,_,rfl,h⟩
theorem ac {b:Bool} {n:α} (h:@Bool.rec (fun ξ=>α) d n b=r) (hd:d≠r):b=true∧n=r:=by
 cases b with
 | true=>exact ⟨rfl,h⟩
 | false=>exact absurd h hd
end
theorem dg {f:V→Bool} {v:V} {l:List V} (h:cG f (v :: l)=true):f v=true∧cG f l=true:=ac h nofun
structure NmOk:Prop where
 inj:∀ i j,gnm i=gnm j→i=j
 ok:∀ i,PyData.strOk (gnm i)=true
 dbg:∀ i,(gnm i==("__debug__":Str))=false
 len:∀ i,(gnm i).length≤i+200
section
variable {C:Cx} {ι:Im} {σ:St} {h:Heap}
theorem ii {n:Nat} (f:V→Bool) (ih:∀ v x,f v=true→VR C ι h v x→∃ d as,Reads h x d as∧d.canLay0=true∧d.depth≤n) {vs:List V}:∀ {xs},VRs C ι h vs xs→cG f vs=true →
  ∃ ds as,ReadsAll h xs ds as∧PyData.canLayAll0 ds=true∧PyData.depthAll ds≤n:=by
 induction vs with
 | nil=>intro xs r _;rw [r.n1];exact ⟨[],[],.nil,rfl,Nat.zero_le _⟩
 | cons v vs ihv =>
  intro xs r e
  refine ct fun ng=>?_
  obtain ⟨x,xs,rfl,r,l⟩:=r.c1
  obtain ⟨e1,e2⟩:=dg e
  obtain ⟨d,as,a,b,c⟩:=ih _ _ e1 r
  obtain ⟨ds,bs,a',b',c'⟩:=ihv l e2
  refine ng ?_
  exact ⟨d :: ds,as++bs,.cons a a',by simp [PyData.canLayAll0,b,b'],by simp only [PyData.depthAll];exact Nat.max_le.mpr ⟨c,c'⟩⟩
theorem c6 (nk:NmOk) (R:SR C ι σ h):∀ n v x,isD σ.h n v=true→VR C ι h v x→∃ d as,Reads h x d as∧d.canLay0=true∧d.depth≤n:=by
 intro n
 induction n with
 | zero=>intro v x e;injection e
 | succ n ih =>
  intro v x e r
  cases r with
  | none=>exact ⟨_,_,.none,rfl,Nat.zero_le _⟩
  | bool=>exact ⟨_,_,.bool _,rfl,Nat.zero_le _⟩
  | int z=>exact ⟨_,_,.int _ _,rfl,Nat.zero_le _⟩
  | str z=>subst z;exact ⟨_,_,.str _ _,by simp only [PyData.canLay0];exact nk.ok _,Nat.zero_le _⟩
  | anyStr z=>injection e
  | tup t l f =>
   refine ct fun ng=>?_
   obtain ⟨ds,as,a,b,c⟩:=ii _ ih (F2.of_get l f) e
   obtain ⟨m,t⟩:=t
   refine ng ?_
   exact ⟨.tuple ds,as,.tuple t rfl rfl (by simpa using a),b,Nat.succ_le_succ c⟩
  | ref z =>
   refine ct fun ng=>?_
   obtain ⟨w,k,vs,e1,e⟩:=aF e nofun
   obtain ⟨p,i,o⟩:=R.obs _ _ _ e1
   rw [z] at i
   obtain rfl:=Option.some.inj i
   obtain ⟨items,a,b,c⟩:=o.lstI
   obtain ⟨m,t⟩:=a
   obtain ⟨ds,as,a,b,c⟩:=ii _ ih c e
   refine ng ?_
   exact ⟨.list ds,_,.list t rfl rfl (by simpa using a),b,Nat.succ_le_succ c⟩
  | fn=>injection e
  | cls=>injection e
  | bi=>injection e
  | gd=>injection e
theorem jY (f:V→V→B3) (ih:∀ a b x y dx dy as bs r,f a b=b3 r→VR C ι h a x→VR C ι h b y→Reads h x dx as→Reads h y dy bs→PyData.eqv dx dy=r) :
  ∀ {l m xs ys dxs dys as bs r},dw f l m=b3 r→VRs C ι h l xs→VRs C ι h m ys→ReadsAll h xs dxs as→ReadsAll h ys dys bs→PyData.eqvAll dxs dys=r:=by
 intro l
 induction l with
 | nil =>
  intro m xs ys dxs dys as bs r e f1 f2 g1 g2
  obtain rfl:=f1.n1
  cases g1
  cases f2 with
  | nil=>cases g2;cases r<;>first | rfl | injection e
  | cons _ _=>cases g2;cases r<;>first | rfl | injection e
 | cons v l hl =>
  intro m xs ys dxs dys as bs r e f1 f2 g1 g2
  obtain ⟨x,xs,rfl,a,l'⟩:=f1.c1
  cases g1 with
  | cons ra la =>
  cases f2 with
  | nil=>cases g2;cases r<;>first | rfl | injection e
  | @cons w _ m _ b m' =>
  cases g2 with
  | cons rb lb =>
  change @B3.rec (fun ξ=>B3) .und .no (dw f l m) (f v w)=b3 r at e
  simp only [PyData.eqvAll]
  cases q:f v w with
  | und=>rw [q] at e;cases r<;>injection e
  | no =>
   rw [q] at e
   rw [ih _ _ _ _ _ _ _ _ false q a b ra rb]
   cases r<;>first | rfl | injection e
  | yes =>
   rw [q] at e
   rw [ih _ _ _ _ _ _ _ _ true q a b ra rb,Bool.true_and]
   exact hl e l' m' la lb
theorem aj {r:Bool}:B3.und≠b3 r:=by cases r<;>exact nofun
theorem ib {p:Addr} {c:String} {xs:List Value} {k:Nat} {d:PyData} {as:List Addr} (r:Reads h (.ref p) d as) (hp:h.get? p=some { cls:=.type c,data:=.seq xs.toArray k }) :
  ∃ l bs,ReadsAll h xs l bs∧((c="list"∧d=.list l)∨(c="tuple"∧d=.tuple l)):=by
 have ty:∀ {a b:String},Value.type a=Value.type b→a=b:=fun e=>by injection e
 have sq:∀ {x y:Array Value} {m n:Nat},Data.seq x m=Data.seq y n→x=y:=fun e=>by injection e
 cases r with
 | list g cl dt al=>rw [hp] at g;injection g with g;subst g;rw [← sq dt] at al;exact ⟨_,_,al,.inl ⟨ty cl,rfl⟩⟩
 | tuple g cl dt al=>rw [hp] at g;injection g with g;subst g;rw [← sq dt] at al;exact ⟨_,_,al,.inr ⟨ty cl,rfl⟩⟩
 | dict g cl dt _ _=>rw [hp] at g;injection g with g;subst g;injection dt
theorem ie {n t} {d:PyData} {as:List Addr} (r:Reads h (.int n t) d as):d=.int n:=by cases r;rfl
theorem ia {n t} {d:PyData} {as:List Addr} (r:Reads h (.str n t) d as):d=.str n:=by cases r;rfl
theorem iz (nk:NmOk) (ρk:RhoOk C) (R:SR C ι σ h):∀ n a b x y dx dy as bs r,eqv σ.h n a b=b3 r→VR C ι h a x→VR C ι h b y→Reads h x dx as→Reads h y dy bs→PyData.eqv dx dy=r:=by
 intro n
 induction n with
 | zero=>intro a b x y dx dy as bs r e;exact absurd e aj
 | succ n ih =>
  have lt:∀ {l m:List V} {xs ys:List Value} {p q:Addr} {c:String} {k k':Nat} {dx dy:PyData} {as bs} {r},VRs C ι h l xs→VRs C ι h m ys →
    h.get? p=some { cls:=.type c,data:=.seq xs.toArray k }→h.get? q=some { cls:=.type c,data:=.seq ys.toArray k' }→Reads h (.ref p) dx as→Reads h (.ref q) dy bs→dw (eqv σ.h n) l m=b3 r→PyData.eqv dx dy=r:=by
   intro l m xs ys p q c k k' dx dy as bs r fl fm hp hq da db e
   obtain ⟨l1,as,al,h1⟩:=ib da hp
   obtain ⟨l2,bs,bl,h2⟩:=ib db hq
   have E:=jY _ ih e fl fm al bl
   rcases h1 with ⟨rfl,rfl⟩ | ⟨rfl,rfl⟩<;>rcases h2 with ⟨c,rfl⟩ | ⟨c,rfl⟩
   ·exact E
   ·exact absurd c (by decide)
   ·exact absurd c (by decide)
   ·exact E
  intro a b x y dx dy as bs r e ra rb da db
  cases a with
  | int o s =>
   refine ct fun ng=>?_
   obtain ⟨o',s',rfl,e⟩:=ae e aj
   obtain ⟨_,_,rfl,z⟩:=ra.intI
   obtain ⟨_,_,rfl,z'⟩:=rb.intI
   refine ng ?_
   rw [ie da,ie db,z,z',← bJ ρk e]
   exact Bool.beq_eq_decide_eq _ _ |>.trans rfl
  | str i =>
   refine ct fun ng=>?_
   obtain ⟨j,rfl,e⟩:=bt e aj
   obtain ⟨_,_,rfl,z⟩:=ra.strI
   obtain ⟨_,_,rfl,z'⟩:=rb.strI
   refine ng ?_
   rw [ia da,ia db,z,z',← k7 e]
   show (_==_)=_
   cases q:Nat.beq i j with
   | true=>rw [natbeq.mp q];simp
   | false=>rw [beq_eq_false_iff_ne];exact fun c=>natbeq_f.mp q (nk.inj _ _ c)
  | tup l =>
   refine ct fun ng=>?_
   obtain ⟨ws,rfl,e⟩:=br e aj
   obtain ⟨_,_,rfl,⟨k,t⟩,hl,f⟩:=ra.tupI
   obtain ⟨_,_,rfl,⟨k',t'⟩,hl',f'⟩:=rb.tupI
   refine ng ?_
   exact lt (F2.of_get hl f) (F2.of_get hl' f') t t' da db e
  | ref g =>
   refine ct fun ng=>?_
   obtain ⟨g',rfl,e⟩:=aB e aj
   obtain ⟨w1,k1,vs,e1,e⟩:=aF e aj
   obtain ⟨w2,k2,ws,e2,e⟩:=aF e aj
   have at':∀ {g v w k vs},VR C ι h (.ref g) v→at_ σ.h g=.ob w (.lst k vs)→∃ a items n,v=.ref a∧h.get? a=some { cls:=.type "list",data:=.seq items.toArray n }∧VRs C ι h vs items:=by
    intro g v w k vs rv e
    obtain ⟨a,d,rfl,z⟩:=rv.refI
    obtain ⟨p,i,o⟩:=R.obs _ _ _ e
    rw [z] at i;injection i with i;subst i
    obtain ⟨items,⟨n,a⟩,_,c⟩:=o.lstI
    exact ⟨_,items,n,rfl,a,c⟩
   obtain ⟨p,xs,k,rfl,h1,f1⟩:=at' ra e1
   obtain ⟨q,ys,k',rfl,h2,f2⟩:=at' rb e2
   refine ng ?_
   exact lt f1 f2 h1 h2 da db e
  | _=>exact absurd e aj
end
end Gh
end
section
namespace Gh
open PySem PyProof.Rows PySem.W
theorem cC {i:Nat} (h:cK≤i):gcp i=List.replicate (i+1) 97:=by
 unfold gcp
 have:Nat.ble (Nat.succ i) cK=false:=by
  cases e:Nat.ble (Nat.succ i) cK with
  | false=>rfl
  | true=>have:=natble.mp e;omega
 rw [this];rfl
noncomputable def cpl:List (List Nat):=(List.range cK).map gcp
noncomputable def leq (l m:List Nat):Bool:=@List.rec Nat (fun ξ=>List Nat→Bool) (fun m=>@List.rec Nat (fun ξ=>Bool) true (fun ξ ξ ξ=>false) m) (fun a ξ ih m=>@List.rec Nat (fun ξ=>Bool) false (fun b m' ξ=>@Bool.rec (fun ξ=>Bool) false (ih m') (Nat.beq a b)) m) l m
theorem eJ:∀ l,leq l l=true
 | []=>rfl
 | a :: l=>by
  show @Bool.rec (fun ξ=>Bool) false (leq l l) (Nat.beq a a)=true
  rw [Nat.beq_refl];exact eJ l
noncomputable def notin (l:List Nat) (ls:List (List Nat)):Bool:=@List.rec (List Nat) (fun ξ=>Bool) true (fun m ξ ih=>@Bool.rec (fun ξ=>Bool) ih false (leq l m)) ls
noncomputable def li (ls:List (List Nat)):Bool:=@List.rec (List Nat) (fun ξ=>Bool) true (fun l r ih=>@Bool.rec (fun ξ=>Bool) false ih (notin l r)) ls
theorem fJ {l:List Nat}:∀ {ls},notin l ls=true→∀ m∈ls,l≠m
 | [],h,m,hm=>nomatch hm
 | x :: ls,h,m,hm=>by
  change @Bool.rec (fun ξ=>Bool) (notin l ls) false (leq l x)=true at h
  cases e:leq l x with
  | true=>rw [e] at h;exact nomatch h
  | false =>
   rw [e] at h
   rcases List.mem_cons.mp hm with rfl | hm
   ·rintro rfl;rw [eJ] at e;exact nomatch e
   ·exact fJ h m hm
theorem fW:∀ {ls},li ls=true→ls.Pairwise (·≠·)
 | [],h=>.nil
 | x :: ls,h=>by
  obtain ⟨a,b⟩:=ac (h:@Bool.rec (fun ξ=>Bool) false (li ls) (notin x ls)=true) nofun
  exact .cons (fJ a) (fW b)
theorem nN:li cpl=true:=by decide +kernel
theorem ud:(cpl.all fun l=>decide (l.length≤200))=true:=by decide +kernel
theorem fw {i:Nat} (h:i < cK):gcp i∈cpl:=List.mem_map.mpr ⟨i,List.mem_range.mpr h,rfl⟩
theorem jc {i:Nat} (h:i < cK):(gcp i).length≤200:=of_decide_eq_true (List.all_eq_true.mp ud _ (fw h))
theorem qI {i j:Nat} (h:gcp i=gcp j):i=j:=by
 by_cases hi:i < cK
 ·by_cases hj:j < cK
  ·have ap:=fW nN
   rw [List.pairwise_iff_getElem] at ap
   have hl:cpl.length=cK:=by unfold cpl;simp
   have ge:∀ k (hk:k < cpl.length),cpl[k]=gcp k:=fun k hk=>by simp [cpl]
   by_cases c:i=j
   ·exact c
   ·rcases Nat.lt_or_gt_of_ne c with c | c
    ·exact absurd (by rw [ge,ge];exact h) (ap i j (by omega) (by omega) c)
    ·exact absurd (by rw [ge,ge];exact h.symm) (ap j i (by omega) (by omega) c)
  ·have:=jc hi
   have e:cK=492:=rfl
   rw [h,cC (by omega),List.length_replicate] at this
   omega
 ·by_cases hj:j < cK
  ·have:=jc hj
   have e:cK=492:=rfl
   rw [← h,cC (by omega),List.length_replicate] at this
   omega
  ·rw [cC (by omega),cC (by omega)] at h
   have:=congrArg List.length h
   rw [List.length_replicate,List.length_replicate] at this
   omega
theorem mw:("__debug__":Str)=⟨#[95,95,100,101,98,117,103,95,95]⟩:=by decide +kernel
theorem mx:(cpl.all fun l=>l.all (· < 0x110000)&&(Bool.not (leq l [95,95,100,101,98,117,103,95,95])))=true:=by decide +kernel
theorem nmOk:NmOk where
 inj i j h:=by
  unfold gnm at h
  injection h with h
  exact qI (by simpa using congrArg Array.toList h)
 ok i:=by
  unfold gnm PyData.strOk
  rw [List.all_toArray]
  by_cases hi:i < cK
  ·have:=List.all_eq_true.mp mx _ (fw hi)
   rw [Bool.and_eq_true] at this
   exact this.1
  ·rw [cC (by omega),List.all_replicate]
   rfl
 dbg i:=by
  rw [mw,beq_eq_false_iff_ne]
  intro h
  unfold gnm at h
  injection h with h
  have h:gcp i=[95,95,100,101,98,117,103,95,95]:=by simpa using congrArg Array.toList h
  by_cases hi:i < cK
  ·have:=List.all_eq_true.mp mx _ (fw hi)
   rw [Bool.and_eq_true,h] at this
   exact nomatch this.2
  ·rw [cC (by omega)] at h
   have:=congrArg List.length h
   rw [List.length_replicate] at this
   have e:cK=492:=rfl
   simp at this
   omega
 len i:=by
  show (gcp i).toArray.size≤_
  rw [List.size_toArray]
  by_cases hi:i < cK
  ·have:=jc hi;omega
  ·rw [cC (by omega),List.length_replicate];omega
end Gh
end
section
namespace Gh
open PySem PyProof.Rows PySem.W PySem.SeqAt
noncomputable def bA:CO→CmpOp
 | .eq=>.Eq | .ne=>.NotEq | .lt=>.Lt | .le=>.LtE | .gt=>.Gt | .ge=>.GtE | .is=>.Is | .isnot=>.IsNot | .isin=>.In | .notin=>.NotIn
noncomputable def PB (s:Shared) (r:Bool):Value→Shared→Prop:=fun v s'=>v=.bool r∧∃ t,s'={ s with toks:=t }
theorem PB.here {s:Shared} {r:Bool} {b:Bool} (h:b=r):PB s r (.bool b) s:=⟨h▸rfl,s.toks,rfl⟩
theorem PB.at {s:Shared} {r:Bool} {b:Bool} {t:Nat} (h:b=r):PB s r (.bool b) { s with toks:=t }:=⟨h▸rfl,t,rfl⟩
section
variable {C:Cx} {ι:Im} {σ:St} {A:Around} {s:Shared} {E:Value→Shared→Prop} {a b:V} {x y:Value} {r:Bool}
theorem fP (nk:NmOk) (ρk:RhoOk C) (hu:A.units+100 < cLine) (R:SR C ι σ s.heap) (ra:VR C ι s.heap a x) (rb:VR C ι s.heap b y) (h:pC a b σ.h=b3 r) :
  wpAny (model C.prog C.w) A (compareOp .Eq x y) (PB s r) E s∧wpAny (model C.prog C.w) A (compareOp .NotEq x y) (PB s (!r)) E s:=by
 have data:(@Bool.rec (fun ξ=>B3) .und (@Bool.rec (fun ξ=>B3) .und (eqv σ.h 6 a b) (isD σ.h 6 b)) (isD σ.h 6 a))=b3 r →
   wpAny (model C.prog C.w) A (compareOp .Eq x y) (PB s r) E s∧wpAny (model C.prog C.w) A (compareOp .NotEq x y) (PB s (!r)) E s:=by
  intro h
  refine ct fun ng=>?_
  obtain ⟨e1,h⟩:=ac h aj
  obtain ⟨e2,h⟩:=ac h aj
  obtain ⟨dx,as,dr,dc,dd⟩:=c6 nk R 6 a x e1 ra
  obtain ⟨dy,bs,er,ec,ed⟩:=c6 nk R 6 b y e2 rb
  have z:=iz nk ρk R 6 a b x y dx dy as bs r h ra rb dr er
  refine ng ?_
  have hm:A.units+min dx.depth dy.depth < cLine:=by have:=Nat.min_le_left dx.depth dy.depth;omega
  exact ⟨compareEq_reads dr er dc ec hm (PB.here z),compareNe_reads dr er dc ec hm (PB.here (by rw [z]))⟩
 cases ra with
 | int z =>
  change (am b .und fun o' s'=>seq _ _ o' s')=b3 r at h
  refine ct fun ng=>?_
  obtain ⟨o',s',rfl,h1⟩:=ae h aj
  obtain ⟨_,_,rfl,z'⟩:=rb.intI
  have q:=bJ ρk h1
  rw [← z,← z'] at q
  refine ng ?_
  refine ⟨eq_int (PB.here ?_),ne_int (PB.here ?_)⟩
  ·rw [← q];exact Bool.beq_eq_decide_eq _ _ |>.trans rfl
  ·rw [← q];rfl
 | _=>exact data h
theorem bB (ρk:RhoOk C) (ra:VR C ι s.heap a x) (rb:VR C ι s.heap b y) (h:j5 a b=b3 r) :
  wpAny (model C.prog C.w) A (compareOp .Lt x y) (PB s r) E s∧wpAny (model C.prog C.w) A (compareOp .GtE x y) (PB s (!r)) E s ∧
   wpAny (model C.prog C.w) A (compareOp .Gt y x) (PB s r) E s∧wpAny (model C.prog C.w) A (compareOp .LtE y x) (PB s (!r)) E s:=by
 refine ct fun ng=>?_
 obtain ⟨o,q,rfl,h1⟩:=ae h aj
 obtain ⟨o',q',rfl,h2⟩:=ae h1 aj
 obtain ⟨_,_,rfl,z⟩:=ra.intI
 obtain ⟨_,_,rfl,z'⟩:=rb.intI
 have k:=mY ρk h2
 rw [← z,← z'] at k
 refine ng ?_
 refine ⟨lt_int (PB.here k),ge_int (PB.here ?_),gt_int (PB.here k),le_int (PB.here ?_)⟩
 ·rw [← k,← decide_not];exact decide_eq_decide.mpr (by omega)
 ·rw [← k,← decide_not];exact decide_eq_decide.mpr (by omega)
theorem eN (ra:VR C ι s.heap a x) (rb:VR C ι s.heap b y) (h:isNone a b=b3 r) :
  wpAny (model C.prog C.w) A (compareOp .Is x y) (PB s r) E s∧wpAny (model C.prog C.w) A (compareOp .IsNot x y) (PB s (!r)) E s:=by
 unfold isNone at h
 cases rb with
 | none =>
  have q:(x==.none)=r:=by
   cases ra<;>first | exact absurd h aj | (cases r<;>first | rfl | injection h)
  exact ⟨is_none (PB.here q),isNot_none (PB.here (by rw [q]))⟩
 | _=>exact absurd h aj
theorem gz {q:V→B3} {e:Value→Bool} {h:Heap} {P:Value→Prop} (hq:∀ v y r,P y→q v=b3 r→VR C ι h v y→e y=r):∀ {vs items r},(∀ y∈items,P y)→bP q vs=b3 r→VRs C ι h vs items→items.any e=r:=by
 intro vs
 induction vs with
 | nil=>intro items r _ g f;obtain rfl:=f.n1;cases r<;>first | rfl | injection g
 | cons v vs ih =>
  intro items r hp g f
  refine ct fun ng=>?_
  obtain ⟨y,items,rfl,a,l⟩:=f.c1
  change @B3.rec (fun ξ=>B3) .und (bP q vs) .yes (q v)=b3 r at g
  have p0:=hp y List.mem_cons_self
  have p1:∀ z∈items,P z:=fun z hz=>hp z (List.mem_cons_of_mem _ hz)
  refine ng ?_
  cases k:q v with
  | und=>rw [k] at g;exact absurd g aj
  | no=>rw [k] at g;rw [List.any_cons,hq v y false p0 k a,Bool.false_or];exact ih p1 g l
  | yes=>rw [k] at g;rw [List.any_cons,hq v y true p0 k a];cases r<;>first | rfl | injection g
open Classical in
noncomputable def pj (h:Heap) (d:PyData) (y:Value):Bool:=if k:∃ dy as,Reads h y dy as∧dy.canLay0=true∧dy.depth≤6 then PyData.eqv k.choose d else false
theorem qP (hu:A.units+100 < cLine) {d:PyData} {bs:List Addr} (rx:Reads s.heap x d bs) (hc:d.canLay0=true) (hy:∃ dy as,Reads s.heap y dy as∧dy.canLay0=true∧dy.depth≤6):EqAt A s y x (pj s.heap d y):=by
 unfold pj
 rw [dif_pos hy]
 obtain ⟨as,a,b,c⟩:=hy.choose_spec
 exact eqAt_reads _ _ _ _ _ _ _ _ a rx b hc (by have:=Nat.min_le_left hy.choose.depth d.depth;omega)
theorem kg {f:V→Bool} {h:Heap} {vs:List V}:∀ {items},cG f vs=true→VRs C ι h vs items→∀ y∈items,∃ v,f v=true∧VR C ι h v y:=by
 induction vs with
 | nil=>intro items _ r y hy;rw [r.n1] at hy;exact nomatch hy
 | cons v vs ih =>
  intro items e r y hy
  refine ct fun ng=>?_
  obtain ⟨x,xs,rfl,a,l⟩:=r.c1
  obtain ⟨e1,e2⟩:=dg e
  refine ng ?_
  rcases List.mem_cons.mp hy with rfl | hy
  ·exact ⟨v,e1,a⟩
  ·exact ih e2 l y hy
theorem il (nk:NmOk) (ρk:RhoOk C) (hu:A.units+100 < cLine) (R:SR C ι σ s.heap) (ra:VR C ι s.heap a x) {vs:List V} {items:List Value} (rv:VRs C ι s.heap vs items) (h:tB σ.h a vs=b3 r) :
  ∃ e:Value→Bool,(∀ y,y∈items.toArray→EqAt A s y x (e y))∧items.toArray.any e=r:=by
 unfold tB at h
 have data:(@Bool.rec (fun ξ=>B3) .und (@Bool.rec (fun ξ=>B3) .und (bP (fun v=>eqv σ.h 6 v a) vs) (cG (isD σ.h 6) vs)) (isD σ.h 6 a))=b3 r →
   ∃ e:Value→Bool,(∀ y,y∈items.toArray→EqAt A s y x (e y))∧items.toArray.any e=r:=by
  intro h
  refine ct fun ng=>?_
  obtain ⟨e1,h⟩:=ac h aj
  obtain ⟨e2,h⟩:=ac h aj
  obtain ⟨dx,as,dr,dc,dd⟩:=c6 nk R 6 a x e1 ra
  have rd:∀ y∈items,∃ dy as,Reads s.heap y dy as∧dy.canLay0=true∧dy.depth≤6:=fun y hy=>by
   obtain ⟨v,e,r⟩:=kg e2 rv y hy
   exact c6 nk R 6 v y e r
  refine ng ?_
  refine ⟨fun y=>pj s.heap dx y,fun y hy=>qP hu dr dc (rd y (by simpa using hy)),?_⟩
  rw [List.any_toArray]
  have rdv:∀ v y r,eqv σ.h 6 v a=b3 r→VR C ι s.heap v y→(∃ dy as,Reads s.heap y dy as∧dy.canLay0=true∧dy.depth≤6)→pj s.heap dx y=r:=fun v y r h ry k=>by
   unfold pj
   rw [dif_pos k]
   obtain ⟨bs,p,_⟩:=k.choose_spec
   exact iz nk ρk R 6 v a y x _ _ bs as r h ry ra p dr
  exact gz (fun v y r k h ry=>rdv v y r h ry k) rd h rv
 have int:∀ o q,a=.int o q→qA o q vs=b3 r→∃ e:Value→Bool,(∀ y,y∈items.toArray→EqAt A s y x (e y))∧items.toArray.any e=r:=by
  intro o q ha h
  subst ha
  unfold qA at h
  obtain ⟨e2,h⟩:=ac h aj
  obtain ⟨n,t,rfl,z⟩:=ra.intI
  refine ⟨fun y=>match y with | .int k _=>k==n | _=>false,fun y hy=>?_,?_⟩
  ·refine ct fun ng=>?_
   obtain ⟨v,e,r⟩:=kg e2 rv y (by simpa using hy)
   obtain ⟨o',q',rfl,_⟩:=ae e nofun
   obtain ⟨_,_,rfl,z'⟩:=r.intI
   refine ng ?_
   exact (MeetsSeq.EqGives.int _ _ _ _).at _ _
  ·rw [List.any_toArray]
   refine gz (P:=fun ξ=>True) (fun v y r ξ h ry=>?_) (fun ξ ξ=>trivial) h rv
   refine ct fun ng=>?_
   obtain ⟨o',q',rfl,h1⟩:=ae h aj
   obtain ⟨_,_,rfl,z'⟩:=ry.intI
   have:=bJ ρk h1
   refine ng ?_
   rw [z',z,← this]
   exact Bool.beq_eq_decide_eq _ _ |>.trans rfl
 cases ra with
 | int z=>exact int _ _ rfl h
 | _=>exact data h
end
end Gh
end
section
namespace Gh
open PySem PyProof.Rows PySem.W PySem.SeqAt
section
variable {κ:Type} {den:V→κ→Prop} {q:V→B3} {key:κ}
structure QOk (den:V→κ→Prop) (q:V→B3) (key:κ):Prop where
 yes:∀ v k,q v=.yes→den v k→k=key
 no:∀ v k,q v=.no→den v k→k≠key
theorem io {v:V}:∀ {kvs:List (V×V)},aK q kvs=.hit v→∃ p∈kvs,p.2=v∧q p.1=.yes
 | [],h=>nomatch h
 | p :: kvs,h=>by
  change @B3.rec (fun ξ=>RK) .und (aK q kvs) (.hit p.2) (q p.1)=_ at h
  cases e:q p.1 with
  | und=>rw [e] at h;injection h
  | no=>rw [e] at h;obtain ⟨p',m,z⟩:=io h;exact ⟨p',List.mem_cons_of_mem _ m,z⟩
  | yes=>rw [e] at h;injection h with h;exact ⟨p,List.mem_cons_self,h,e⟩
theorem bQ:∀ {kvs:List (V×V)},aK q kvs=.miss→∀ p∈kvs,q p.1=.no
 | [],h,p,hp=>nomatch hp
 | p :: kvs,h,p',hp=>by
  change @B3.rec (fun ξ=>RK) .und (aK q kvs) (.hit p.2) (q p.1)=_ at h
  cases e:q p.1 with
  | und=>rw [e] at h;injection h
  | no =>
   rw [e] at h
   rcases List.mem_cons.mp hp with rfl | hp
   ·exact e
   ·exact bQ h p' hp
  | yes=>rw [e] at h;injection h
theorem lN:∀ {l:List V},bP q l=.no→∀ v∈l,q v=.no
 | [],h,p,hp=>nomatch hp
 | p :: kvs,h,p',hp=>by
  change @B3.rec (fun ξ=>B3) .und (bP q kvs) .yes (q p)=_ at h
  cases e:q p with
  | und=>rw [e] at h;injection h
  | no =>
   rw [e] at h
   rcases List.mem_cons.mp hp with rfl | hp
   ·exact e
   ·exact lN h p' hp
  | yes=>rw [e] at h;injection h
theorem jL:∀ {l:List V},bP q l=.yes→∃ v∈l,q v=.yes
 | [],h=>nomatch h
 | p :: kvs,h=>by
  change @B3.rec (fun ξ=>B3) .und (bP q kvs) .yes (q p)=_ at h
  cases e:q p with
  | und=>rw [e] at h;injection h
  | no=>rw [e] at h;obtain ⟨p',m,z⟩:=jL h;exact ⟨p',List.mem_cons_of_mem _ m,z⟩
  | yes=>exact ⟨p,List.mem_cons_self,e⟩
variable {R:V→Value→Prop} {look:κ→Option Value} {kvs:List (V×V)} {may:List V}
theorem DR.hit (d:DR den R look kvs may) (k:QOk den q key) {v:V} (h:aK q kvs=.hit v):∃ x,look key=some x∧R v x:=by
 refine ct fun ng=>?_
 obtain ⟨p,m,rfl,e⟩:=io h
 obtain ⟨k',x,a,b,c⟩:=d.val p m
 obtain rfl:=k.yes _ _ e a
 refine ng ?_
 exact ⟨x,b,c⟩
theorem DR.miss (d:DR den R look kvs may) (k:QOk den q key) (h:aK q kvs=.miss) (hm:bP q may=.no):look key=none:=by
 cases e:look key with
 | none=>rfl
 | some x =>
  rcases d.all key (by rw [e];exact nofun) with ⟨p,m,z⟩ | ⟨v,m,z⟩
  ·exact absurd rfl (k.no _ _ (bQ h p m) z)
  ·exact absurd rfl (k.no _ _ (lN hm v m) z)
theorem DR.has (d:DR den R look kvs may) (k:QOk den q key) {r:Bool} (h:tQ q kvs may=b3 r):(look key).isSome=r:=by
 unfold tQ at h
 cases e:aK q kvs with
 | und=>rw [e] at h;exact absurd h aj
 | miss =>
  rw [e] at h
  cases f:bP q may with
  | und=>rw [f] at h;exact absurd h aj
  | yes=>rw [f] at h;exact absurd h aj
  | no=>rw [f] at h;rw [d.miss k e f];cases r<;>first | rfl | injection h
 | hit v=>rw [e] at h;obtain ⟨x,a,_⟩:=d.hit k e;rw [a];cases r<;>first | rfl | injection h
end
section
variable {C:Cx} (ρk:RhoOk C)
include ρk
theorem m4 {o:Int} {s:Nat}:QOk (bE C) (isInt o s) (o+C.ρ s) where
 yes v k h d:=by
  refine ct fun ng=>?_
  obtain ⟨o',s',rfl,h1⟩:=ae h nofun
  have:=of_decide_eq_true (bJ (b:=true) ρk h1)
  refine ng ?_
  exact d.trans this
 no v k h d:=by
  refine ct fun ng=>?_
  obtain ⟨o',s',rfl,h1⟩:=ae h nofun
  have:=of_decide_eq_false (bJ (b:=false) ρk h1)
  refine ng ?_
  exact fun e=>this (d.symm.trans e)
omit ρk in
theorem th (nk:NmOk) {i:Nat}:QOk (eW C) (isStr i) (gnm i) where
 yes v k h d:=by
  obtain ⟨j,rfl,h1⟩:=bt h nofun
  have:=natbeq.mp (uC h1)
  exact d.trans (congrArg _ this)
 no v k h d:=by
  obtain ⟨j,rfl,h1⟩:=bt h nofun
  have:=natbeq_f.mp (wp h1)
  exact fun e=>this (nk.inj _ _ (d.symm.trans e))
end
structure CxOk (C:Cx):Prop extends RhoOk C where
 nm:NmOk
 mods:∃ o,C.h0.get? sysModules=some o
theorem lL {C:Cx} (k:CxOk C) {ι:Im} {σ:St} {h:Heap} (R:SR C ι σ h) {g p} (e:ι g=some p):(p.1==sysModules)=false:=by
 obtain ⟨o,e'⟩:=k.mods
 exact beq_eq_false_iff_ne.mpr fun c=>aa (R.dom g p e).2.1 (c▸e')
section
variable {C:Cx} {ι:Im} {σ:St} {A:Around} {s:Shared} {E:Value→Shared→Prop} {a b:V} {x y:Value} {r:Bool}
theorem gO (k:CxOk C) (hu:A.units+200 < cLine) (R:SR C ι σ s.heap) (ra:VR C ι s.heap a x) (rb:VR C ι s.heap b y) (h:tM a b σ.h=b3 r) :
  wpAny (model C.prog C.w) A (compareOp .In x y) (PB s r) E s∧wpAny (model C.prog C.w) A (compareOp .NotIn x y) (PB s (!r)) E s:=by
 have ρk:=k.toRhoOk
 have hu':A.in1.units+100 < cLine:=by rw [Around.in1_units];omega
 have int0:∀ {n t},(intKind C.prog C.w).is n (.int n t)=true:=by intros;simp [intKind,Value.isInt]
 cases rb with
 | tup t l f =>
  refine ct fun ng=>?_
  obtain ⟨o,q,rfl,h1⟩:=ae h aj
  obtain ⟨e,he,ha⟩:=il k.nm ρk hu' R ra (F2.of_get l f) (by exact h1)
  obtain ⟨m,t⟩:=t
  have ht:s.heap.IsTuple _ _:=⟨_,t,rfl,m,rfl⟩
  refine ng ?_
  exact ⟨in_tupleAt e ht he (PB.here ha),notIn_tupleAt e ht he (PB.here (by rw [ha]))⟩
 | ref z =>
  obtain ⟨w,o,e1,h1⟩:=bW h aj
  obtain ⟨p,i,ob⟩:=R.obs _ _ _ e1
  have z':=z
  rw [z] at i;obtain rfl:=Option.some.inj i
  have nmod:=lL k R z
  cases ob with
  | lst items t l c =>
   obtain ⟨m,t⟩:=t
   obtain ⟨e,he,ha⟩:=il k.nm ρk hu' R ra c h1
   have ht:s.heap.IsList _ _:=⟨_,t,rfl,m,rfl⟩
   exact ⟨in_listAt e ht he (PB.here ha),notIn_listAt e ht he (PB.here (by rw [ha]))⟩
  | gap=>exact absurd h1 aj
  | plst=>exact absurd h1 aj
  | emp t =>
   obtain ⟨o,q,rfl,h2⟩:=ae h1 aj
   obtain ⟨_,_,rfl,za⟩:=ra.intI
   have hm:s.heap.MapOf (intKind C.prog C.w) _ (valueAt []):=Heap.DictOf.mapOf (kvs:=[]) ⟨_,#[],0,t,⟨rfl,rfl,rfl⟩,rfl,(fun e he=>by simp at he),.nil,List.nodup_nil⟩
   have hr:false=r:=by cases r<;>first | rfl | injection h2
   exact ⟨wpAny_in_of int0 nmod hm (PB.at hr),wpAny_notIn_of int0 nmod hm (PB.at (by rw [← hr];rfl))⟩
  | idct Rw d l dr =>
   obtain ⟨o,q,rfl,h2⟩:=ae h1 aj
   obtain ⟨_,_,rfl,za⟩:=ra.intI
   have hr:=dr.has (m4 ρk) h2
   rw [← za] at hr
   exact ⟨wpAny_in_of int0 nmod d.mapOf (PB.at hr),wpAny_notIn_of int0 nmod d.mapOf (PB.at (by rw [hr]))⟩
  | sdct=>exact absurd h1 aj
  | kdct=>exact absurd h1 aj
  | inst=>exact absurd h1 aj
  | @bag hs items ns t l c =>
   refine ct fun ng=>?_
   obtain ⟨o,q,rfl,h2⟩:=ae h1 aj
   obtain ⟨n,tn,rfl,za⟩:=ra.intI
   obtain ⟨m,t⟩:=t
   have ht:s.heap.IsList _ _:=⟨_,t,rfl,m,rfl⟩
   have hy:bP (isInt o q) hs=.yes∧true=r:=by
    revert h2
    unfold lr
    cases bP (isInt o q) hs with
    | und=>exact fun h=>absurd h aj
    | no=>exact fun h=>absurd h aj
    | yes=>intro h;exact ⟨rfl,by cases r<;>first | rfl | exact nomatch h⟩
   obtain ⟨hy,hr⟩:=hy
   obtain ⟨v,vm,vq⟩:=jL hy
   obtain ⟨k1,km,kd⟩:=c v vm
   have kn:k1=n:=by rw [(m4 ρk).yes v k1 vq kd,za]
   have he:∀ y,y∈items.toArray→EqAt A.in1 s y (.int n tn) ((fun y=>match y with | .int k _=>k==n | _=>false) y):=by
    intro y hy
    have:∀ {ns items},F2 (fun n v=>∃ t,v=Value.int n t) ns items→∀ y∈items,∃ n t,y=Value.int n t:=by
     intro ns items f
     induction f with
     | nil=>intro y hy;exact nomatch hy
     | cons a f ih =>
      intro y hy
      rcases List.mem_cons.mp hy with rfl | hy
      ·obtain ⟨t,rfl⟩:=a;exact ⟨_,t,rfl⟩
      ·exact ih y hy
    obtain ⟨n',t',rfl⟩:=this l y (by simpa using hy)
    exact (MeetsSeq.EqGives.int _ _ _ _).at _ _
   have ha:items.toArray.any (fun y=>match y with | .int k _=>k==n | _=>false)=true:=by
    rw [List.any_toArray]
    have:∀ {ns items},F2 (fun n v=>∃ t,v=Value.int n t) ns items→n∈ns→items.any (fun y=>match y with | .int k _=>k==n | _=>false)=true:=by
     intro ns items f
     induction f with
     | nil=>intro hy;exact nomatch hy
     | cons a f ih =>
      intro hy
      rw [List.any_cons]
      rcases List.mem_cons.mp hy with rfl | hy
      ·obtain ⟨t,rfl⟩:=a;simp
      ·rw [ih hy,Bool.or_true]
    exact this l (kn▸km)
   subst hr
   refine ng ?_
   exact ⟨in_listAt _ ht he (PB.here ha),notIn_listAt _ ht he (PB.here (by rw [ha]))⟩
 | gd g =>
  obtain ⟨n,rfl,h1⟩:=au h aj
  obtain ⟨Rw,d,nm,t⟩:=g
  have d':=d.keep R.base
  obtain ⟨_,_,rfl,za⟩:=ra.intI
  rw [ρk.zero,Int.add_zero] at za
  subst za
  have hr:(valueAt Rw (Int.ofNat n)).isSome=r:=by
   rcases t n with ⟨e,e'⟩ | ⟨o,tt,e,e'⟩
   ·rw [e] at h1;rw [show valueAt Rw (Int.ofNat n)=none from e'];cases r<;>first | rfl | injection h1
   ·rw [e] at h1;rw [show valueAt Rw (Int.ofNat n)=_ from e'];cases r<;>first | rfl | injection h1
  exact ⟨wpAny_in_of int0 nm d'.mapOf (PB.at hr),wpAny_notIn_of int0 nm d'.mapOf (PB.at (by rw [hr]))⟩
 | none=>exact absurd h aj
 | bool=>exact absurd h aj
 | int=>exact absurd h aj
 | str=>exact absurd h aj
 | anyStr=>exact absurd h aj
 | fn=>exact absurd h aj
 | cls=>exact absurd h aj
 | bi=>exact absurd h aj
theorem ay (k:CxOk C) (hu:A.units+200 < cLine) (R:SR C ι σ s.heap) (ra:VR C ι s.heap a x) (rb:VR C ι s.heap b y) {op:CO} (h:eY op a b σ.h=b3 r) :
  wpAny (model C.prog C.w) A (compareOp (bA op) x y) (PB s r) E s:=by
 have nn:(!!r)=r:=Bool.not_not r
 cases op with
 | eq=>exact (fP k.nm k.toRhoOk (by omega) R ra rb h).1
 | ne=>exact nn▸(fP k.nm k.toRhoOk (by omega) R ra rb (eE h)).2
 | lt=>exact (bB k.toRhoOk ra rb h).1
 | le=>exact nn▸(bB k.toRhoOk rb ra (eE h)).2.2.2
 | gt=>exact (bB k.toRhoOk rb ra h).2.2.1
 | ge=>exact nn▸(bB k.toRhoOk ra rb (eE h)).2.1
 | is=>exact (eN ra rb h).1
 | isnot=>exact nn▸(eN ra rb (eE h)).2
 | isin=>exact (gO k hu R ra rb h).1
 | notin=>exact nn▸(gO k hu R ra rb (eE h)).2
end
end Gh
end
section
namespace Gh
open PySem PyProof.Rows PySem.W PySem.SeqAt
theorem bI:∀ {l:List V} {n:Nat},nth l n≠.unb→l[n]?=some (nth l n)
 | [],n,h=>absurd rfl h
 | v :: l,0,h=>rfl
 | v :: l,n+1,h=>bI (l:=l) (n:=n) h
theorem ck {n:Nat} {v w:V} (h:sml n v=w) (hw:w≠.unb):n≤100000∧v=w:=by
 obtain ⟨a,b⟩:=ac h (fun e=>hw e.symm)
 exact ⟨natble.mp a,b⟩
theorem F2.at {α β:Type} {R:α→β→Prop} {l:List α} {m:List β} (f:F2 R l m):∀ {i:Nat} {a},l[i]?=some a→∃ b,m[i]?=some b∧R a b:=by
 induction f with
 | nil=>intro i a e;injection e
 | cons x h ih =>
  intro i a e
  cases i with
  | zero=>injection e with e;exact ⟨_,rfl,e▸x⟩
  | succ i=>exact ih (i:=i) e
noncomputable def PV (C:Cx) (ι:Im) (s:Shared) (v:V):Value→Shared→Prop:=fun x s'=>VR C ι s.heap v x∧∃ t,s'={ s with toks:=t }
theorem PV.here {C:Cx} {ι:Im} {s:Shared} {v:V} {x} (h:VR C ι s.heap v x):PV C ι s v x s:=⟨h,s.toks,rfl⟩
theorem PV.at {C:Cx} {ι:Im} {s:Shared} {v:V} {x} (h:VR C ι s.heap v x) {t:Nat}:PV C ι s v x { s with toks:=t }:=⟨h,t,rfl⟩
theorem PV.pe {C:Cx} {ι:Im} {σ:St} {s s':Shared} {v:V} {x} (R:SR C ι σ s.heap) (p:PV C ι s v x s'):PE C ι σ s σ v x s':=by
 obtain ⟨a,t,rfl⟩:=p;exact PE.same R a
theorem u4 {α:Sort _} {o:Int} {s:Nat} {d:α} {k:Int→Nat→α}:am (.int o s) d k=k o s:=rfl
section
variable {C:Cx} {ι:Im} {σ:St} {A:Around} {s:Shared} {E:Value→Shared→Prop} {a b:V} {x y:Value}
theorem nx {l:Addr} {items:List Value} {n:Nat} {t:Tok} {v:V} {vs:List V} (h:cI s.heap l items) (r:VRs C ι s.heap vs items) (hv:nth vs n=v) (hn:v≠.unb) (hs:n≤100000) :
  wpAny (model C.prog C.w) A (getItem (.ref l) (.int (Int.ofNat n) t)) (PV C ι s v) E s:=by
 refine ct fun ng=>?_
 obtain ⟨m,h⟩:=h
 subst hv
 obtain ⟨x,e,z⟩:=r.at (bI hn)
 refine ng ?_
 refine wpAny_getItem_list h.isList (Int.natCast_nonneg n) (by show (n:Int) < _;omega) (x:=x) ?_ (PV.here z)
 show items.toArray[n]?=_
 rw [List.getElem?_toArray];exact e
theorem cz (k:CxOk C) (R:SR C ι σ s.heap) (ra:VR C ι s.heap a x) (rb:VR C ι s.heap b y) {v:V} (h:item a b σ.h=v) (hn:v≠.unb):SubscriptOn (model C.prog C.w) A x y (PV C ι s v) E s:=by
 have ρk:=k.toRhoOk
 have int0:∀ {n t},(intKind C.prog C.w).is n (.int n t)=true:=by intros;simp [intKind,Value.isInt]
 have str0:∀ {n t},(strKind C.prog C.w).is n (.str n t)=true:=by intros;simp [PySem.strKind,Value.isStrOf]
 have lst:∀ {l:Addr} {items:List Value},cI s.heap l items→∀ {i Q},wpAny (model C.prog C.w) A (getItem (.ref l) i) Q E s→SubscriptOn (model C.prog C.w) A (.ref l) i Q E s :=
  fun h ξ ξ hw=>⟨"list",_,list_getitem_lookup,let ⟨m,h⟩:=h;⟨_,h,rfl⟩,hw⟩
 have dct:∀ {l:Addr} {o:Obj},s.heap.get? l=some o→o.cls=.type "dict"→∀ {i Q},wpAny (model C.prog C.w) A (getItem (.ref l) i) Q E s→SubscriptOn (model C.prog C.w) A (.ref l) i Q E s :=
  fun h c ξ ξ hw=>⟨"dict",_,F.slot_dict_getitem.lookup,⟨_,h,c⟩,hw⟩
 have nb:V.unb≠v:=fun e=>hn e.symm
 cases ra with
 | tup t l f =>
  refine ct fun ng=>?_
  obtain ⟨n,rfl,h1⟩:=au h nb
  obtain ⟨hs,h2⟩:=ck h1 hn
  obtain ⟨_,_,rfl,z⟩:=rb.intI
  rw [ρk.zero,Int.add_zero] at z
  subst z
  subst h2
  obtain ⟨x,e,zx⟩:=(F2.of_get l f).at (bI hn)
  refine ng ?_
  refine ⟨"tuple",_,F.slot_tuple_getitem.lookup,let ⟨m,h⟩:=t;⟨_,h,rfl⟩,?_⟩
  have hl:n < _:=(List.getElem?_eq_some_iff.mp e).1
  refine PyProof.Rows.getItem_tuple t.tup (by show _≤(n:Int);omega) (by show (n:Int) < _;omega) (j:=n) (x:=x) ?_ (by rw [List.getElem?_toArray];exact e) (PV.here zx)
  rw [show Int.ofNat n=(n:Int) from rfl,seqIndex_of (Int.natCast_nonneg n) (by simpa using hl)]
  rfl
 | ref z =>
  obtain ⟨w,o,e1,h1⟩:=bW h nb
  obtain ⟨p,i,ob⟩:=R.obs _ _ _ e1
  have z':=z
  rw [z] at i;obtain rfl:=Option.some.inj i
  cases ob with
  | lst items t l c =>
   refine ct fun ng=>?_
   obtain ⟨n,rfl,h2⟩:=au h1 nb
   obtain ⟨hs,h3⟩:=ck h2 hn
   obtain ⟨_,_,rfl,zb⟩:=rb.intI
   rw [ρk.zero,Int.add_zero] at zb
   subst zb
   refine ng ?_
   exact lst t (nx t c h3 hn hs)
  | @gap n0 pre suf l m r tl t lm lp rp rs =>
   obtain ⟨o,q,rfl,h2⟩:=ae h1 nb
   obtain ⟨_,_,rfl,zb⟩:=rb.intI
   cases o with
   | negSucc n=>exact absurd h2 nb
   | ofNat n =>
    refine lst t ?_
    change @Bool.rec (fun ξ=>V) (@Bool.rec (fun ξ=>V) .unb (@Bool.rec (fun ξ=>V) .unb (sml n (nth suf (Nat.sub n (len pre)))) (Nat.ble (len pre) n)) (Nat.beq q 1)) (sml n (nth pre n)) (Nat.beq q 0)=v at h2
    obtain ⟨mm,t⟩:=t
    have ll:∀ l:List V,len l=l.length:=fun l=>by induction l with | nil=>rfl | cons a l ih=>exact congrArg Nat.succ ih
    cases eq:Nat.beq q 0 with
    | true =>
     rw [eq] at h2
     obtain rfl:=natbeq.mp eq
     obtain ⟨hs,h3⟩:=ck h2 hn
     subst h3
     rw [ρk.zero,Int.add_zero] at zb
     subst zb
     obtain ⟨x,e,zx⟩:=rp.at (bI hn)
     refine wpAny_getItem_list t.isList (Int.natCast_nonneg n) (by show (n:Int) < _;omega) (x:=x) ?_ (PV.here zx)
     show (l++m++r++tl).toArray[n]?=_
     have:=(List.getElem?_eq_some_iff.mp e).1
     rw [List.getElem?_toArray,List.append_assoc,List.append_assoc,List.getElem?_append_left this];exact e
    | false =>
     rw [eq] at h2
     obtain ⟨q1,h3⟩:=ac h2 nb
     obtain ⟨q2,h4⟩:=ac h3 nb
     obtain ⟨hs,h5⟩:=ck h4 hn
     obtain rfl:=natbeq.mp q1
     have q2:=natble.mp q2
     subst h5
     obtain ⟨x,e,zx⟩:=rs.at (bI hn)
     have hl:len pre=l.length:=(ll pre).trans rp.length
     have b1:=ρk.lo 1
     have b2:=ρk.hi 1
     have b3:hi 1=3:=rfl
     subst zb
     refine wpAny_getItem_list t.isList (by show 0≤(n:Int)+_;omega) (by show (n:Int)+_ < _;omega) (x:=x) ?_ (PV.here zx)
     have hk:(Int.ofNat n+C.ρ 1).toNat=(l++m).length+(n - len pre):=by
      rw [List.length_append,← lm]
      show ((n:Int)+(m.length:Int)).toNat=_
      omega
     have hr:n - len pre < r.length:=(List.getElem?_eq_some_iff.mp e).1
     rw [hk,List.getElem?_toArray,List.append_assoc,List.getElem?_append_right (Nat.le_add_right _ _),Nat.add_sub_cancel_left,List.getElem?_append_left hr]
     exact e
  | plst items t f =>
   refine ct fun ng=>?_
   obtain ⟨n,rfl,h2⟩:=au h1 nb
   obtain ⟨hs,h3⟩:=ck h2 hn
   obtain ⟨_,_,rfl,zb⟩:=rb.intI
   rw [ρk.zero,Int.add_zero] at zb
   subst zb
   subst h3
   obtain ⟨x,e,zx⟩:=f n hn
   refine ng ?_
   refine lst t ?_
   obtain ⟨m,t⟩:=t
   refine wpAny_getItem_list t.isList (Int.natCast_nonneg n) (by show (n:Int) < _;omega) (x:=x) ?_ (PV.here zx)
   show items.toArray[n]?=_
   rw [List.getElem?_toArray];exact e
  | emp=>exact absurd h1 nb
  | idct Rw d l dr =>
   obtain ⟨o,q,rfl,h2⟩:=ae h1 nb
   obtain ⟨_,_,rfl,zb⟩:=rb.intI
   cases e:aK (isInt o q) _ with
   | und=>rw [e] at h2;exact absurd h2 nb
   | miss=>rw [e] at h2;exact absurd h2 nb
   | hit v' =>
    rw [e] at h2
    refine ct fun ng=>?_
    obtain rfl:v'=v:=h2
    obtain ⟨x,a,z⟩:=dr.hit (m4 ρk) e
    obtain ⟨ob,es,ep,e1,ex,_⟩:=id d
    refine ng ?_
    exact dct e1 ex.1 (wpAny_getItem_of int0 d.mapOf (zb▸a) (PV.at z))
  | sdct Rw d l dr =>
   refine ct fun ng=>?_
   obtain ⟨q,rfl,h2⟩:=bt h1 nb
   obtain ⟨_,_,rfl,zb⟩:=rb.strI
   refine ng ?_
   cases e:aK (isStr q) _ with
   | und=>rw [e] at h2;exact absurd h2 nb
   | miss=>rw [e] at h2;exact absurd h2 nb
   | hit v' =>
    rw [e] at h2
    refine ct fun ng=>?_
    obtain rfl:v'=v:=h2
    obtain ⟨x,a,z⟩:=dr.hit (th k.nm) e
    obtain ⟨ob,es,ep,e1,ex,_⟩:=id d
    refine ng ?_
    exact dct e1 ex.1 (wpAny_getItem_of str0 d.mapOf (zb▸a) (PV.at z))
  | kdct=>exact absurd h1 nb
  | inst=>exact absurd h1 nb
  | bag=>exact absurd h1 nb
 | gd g =>
  obtain ⟨n,rfl,h1⟩:=au h nb
  obtain ⟨Rw,d,nm,t⟩:=g
  have d':=d.keep R.base
  obtain ⟨_,_,rfl,zb⟩:=rb.intI
  rw [ρk.zero,Int.add_zero] at zb
  subst zb
  rcases t n with ⟨e,e'⟩ | ⟨o,tt,e,e'⟩
  ·rw [e] at h1;exact absurd h1 nb
  ·rw [e] at h1
   subst h1
   refine ct fun ng=>?_
   obtain ⟨ob,es,ep,e1,ex,_⟩:=id d'
   refine ng ?_
   exact dct e1 ex.1 (wpAny_getItem_of int0 d'.mapOf e' (PV.at (.int (by rw [ρk.zero,Int.add_zero]))))
 | none=>exact absurd h nb
 | bool=>exact absurd h nb
 | int=>exact absurd h nb
 | str=>exact absurd h nb
 | anyStr=>exact absurd h nb
 | fn=>exact absurd h nb
 | cls=>exact absurd h nb
 | bi=>exact absurd h nb
end
end Gh
end
section
namespace Gh
open PySem PyProof.Rows PySem.W PySem.SeqAt
section
variable {κ:Type} [DecidableEq κ]
theorem aq (a:κ) (b:Value) (l:List (κ×Value)) (k:κ):valueAt ((a,b) :: l) k=if a=k then some b else valueAt l k:=by
 unfold valueAt
 rw [List.find?_cons]
 by_cases h:a=k
 ·simp [h]
 ·simp [h]
theorem jw (l:List (κ×Value)) (k k':κ) (v:Value):valueAt (l.map fun kv=>if kv.1=k then (kv.1,v) else kv) k'=if k'=k then (valueAt l k).map (fun ξ=>v) else valueAt l k':=by
 induction l with
 | nil=>simp [valueAt]
 | cons x l ih =>
  obtain ⟨a,b⟩:=x
  rw [List.map_cons]
  by_cases h:a=k
  ·subst h
   rw [if_pos rfl,aq,aq,aq,ih]
   by_cases h':a=k'
   ·subst h';simp
   ·rw [if_neg h',if_neg (fun e=>h' e.symm),if_neg h',if_neg (fun e=>h' e.symm)]
  ·rw [if_neg h]
   rw [aq,ih,aq,aq,if_neg h]
   by_cases h':a=k'
   ·subst h';rw [if_pos rfl,if_neg h,if_pos rfl]
   ·rw [if_neg h',if_neg h']
theorem jx (l:List (κ×Value)) (k k':κ) (v:Value) (h:valueAt l k=none):valueAt (l++[(k,v)]) k'=if k'=k then some v else valueAt l k':=by
 induction l with
 | nil=>rw [List.nil_append,aq];by_cases e:k'=k<;>simp [e,valueAt];exact fun c=>absurd c.symm e
 | cons x l ih =>
  obtain ⟨a,b⟩:=x
  rw [aq] at h
  by_cases ha:a=k
  ·rw [if_pos ha] at h;injection h
  ·rw [if_neg ha] at h
   rw [List.cons_append,aq,aq,ih h]
   by_cases h':a=k'
   ·subst h';rw [if_pos rfl,if_neg ha,if_pos rfl]
   ·rw [if_neg h',if_neg h']
theorem fD (l:List (κ×Value)) (k:κ):(l.any fun kv=>decide (kv.1=k))=(valueAt l k).isSome:=by
 induction l with
 | nil=>rfl
 | cons x l ih =>
  obtain ⟨a,b⟩:=x
  rw [List.any_cons,aq,ih]
  by_cases h:a=k<;>simp [h]
theorem aH (l:List (κ×Value)) (k k':κ) (v:Value):valueAt (stored l k v) k'=if k'=k then some v else valueAt l k':=by
 unfold stored
 split
 ·rename_i h
  rw [jw]
  have h2:(l.any fun kv=>decide (kv.1=k))=true:=h
  rw [fD] at h2
  obtain ⟨x,e⟩:=Option.isSome_iff_exists.mp h2
  rw [e];rfl
 ·rename_i h
  refine jx l k k' v ?_
  have h2:¬ (l.any fun kv=>decide (kv.1=k))=true:=h
  rw [fD] at h2
  cases e:valueAt l k with
  | none=>rfl
  | some x=>rw [e] at h2;exact absurd rfl h2
theorem cD (a:κ) (b:Addr×Value) (l:List (κ×Addr×Value)) (k:κ):atKey ((a,b) :: l) k=if a=k then some b else atKey l k:=by
 unfold atKey
 rw [List.find?_cons]
 by_cases h:a=k
 ·simp [h]
 ·simp [h]
theorem fB (l:List (κ×Addr×Value)) (k k':κ) (v:Addr×Value) (h:atKey l k=none):atKey (l++[(k,v)]) k'=if k'=k then some v else atKey l k':=by
 induction l with
 | nil=>rw [List.nil_append,cD];by_cases e:k'=k<;>simp [e,atKey];exact fun c=>absurd c.symm e
 | cons x l ih =>
  obtain ⟨a,b⟩:=x
  rw [cD] at h
  by_cases ha:a=k
  ·rw [if_pos ha] at h;injection h
  ·rw [if_neg ha] at h
   rw [List.cons_append,cD,cD,ih h]
   by_cases h':a=k'
   ·subst h';rw [if_pos rfl,if_neg ha,if_pos rfl]
   ·rw [if_neg h',if_neg h']
end
theorem oo {q:V→B3} {i v:V} {kvs:List (V×V)}:∀ {kvs':List (V×V)},iT q i v kvs=.ok kvs' →
  (∃ pre p post,kvs=pre++p :: post∧(∀ x∈pre,q x.1=.no)∧q p.1=.yes∧kvs'=pre++(p.1,v) :: post)∨((∀ x∈kvs,q x.1=.no)∧kvs'=kvs++[(i,v)]):=by
 induction kvs with
 | nil=>intro kvs' h;injection h with h;exact .inr ⟨fun x hx=>(nomatch hx),h.symm⟩
 | cons p kvs ih =>
  intro kvs' h
  change @B3.rec (fun ξ=>RB) .fail (@RB.rec (fun ξ=>RB) .fail (fun t'=>.ok (p :: t')) (iT q i v kvs)) (.ok ((p.1,v) :: kvs)) (q p.1)=_ at h
  cases e:q p.1 with
  | und=>rw [e] at h;injection h
  | yes=>rw [e] at h;injection h with h;exact .inl ⟨[],p,kvs,rfl,fun x hx=>(nomatch hx),e,h.symm⟩
  | no =>
   rw [e] at h
   have cons:∀ {l:List (V×V)},(∀ x∈l,q x.1=.no)→∀ x∈p :: l,q x.1=.no:=fun a x hx=>(List.mem_cons.mp hx).elim (fun c=>c▸e) (a x)
   cases f:iT q i v kvs with
   | fail=>rw [f] at h;injection h
   | ok t =>
    rw [f] at h
    injection h with h
    rw [← h]
    rcases ih f with ⟨pre,p',post,c,a,b,d⟩ | ⟨a,d⟩
    ·exact .inl ⟨p :: pre,p',post,congrArg _ c,cons a,b,congrArg _ d⟩
    ·exact .inr ⟨cons a,congrArg _ d⟩
section
variable {κ:Type} {den:V→κ→Prop} {q:V→B3} {key:κ} {R R':V→Value→Prop} {look look':κ→Option Value} {kvs kvs':List (V×V)} {may:List V} {i v:V} {z:Value}
theorem DR.new (d:DR den R look kvs may) (k:QOk den q key) (hi:den i key) (hf:∀ k',den i k'→k'=key) (hR:∀ v x,R v x→R' v x) (hz:R' v z)
  (h1:look' key=some z) (h2:∀ k',k'≠key→look' k'=look k') (hno:∀ x∈kvs,q x.1=.no):DR den R' look' (kvs++[(i,v)]) may where
 val p hp:=by
  rcases List.mem_append.mp hp with hp | hp
  ·refine ct fun ng=>?_
   obtain ⟨k',x,a,b,c⟩:=d.val p hp
   refine ng ?_
   exact ⟨k',x,a,(h2 k' (k.no _ _ (hno p hp) a)).trans b,hR _ _ c⟩
  ·obtain rfl:=List.mem_singleton.mp hp
   exact ⟨key,z,hi,h1,hz⟩
 apart:=by
  rw [List.pairwise_append]
  refine ⟨d.apart,List.pairwise_singleton _ _,fun p hp p' hp' k' a b=>?_⟩
  obtain rfl:=List.mem_singleton.mp hp'
  exact k.no _ _ (hno p hp) a (hf k' b)
 all k' hk:=by
  by_cases e:k'=key
  ·subst e;exact .inl ⟨(i,v),by simp,hi⟩
  ·rcases d.all k' (by rw [← h2 k' e];exact hk) with ⟨p,m,z⟩ | ⟨p,m,z⟩
   ·exact .inl ⟨p,List.mem_append_left _ m,z⟩
   ·exact .inr ⟨p,m,z⟩
theorem DR.put (d:DR den R look kvs may) (k:QOk den q key) (hi:den i key) (hf:∀ k',den i k'→k'=key) (hR:∀ v x,R v x→R' v x) (hz:R' v z)
  (h1:look' key=some z) (h2:∀ k',k'≠key→look' k'=look k') (h:iT q i v kvs=.ok kvs'):DR den R' look' kvs' may:=by
 rcases oo h with ⟨pre,p,post,rfl,a,b,rfl⟩ | ⟨a,rfl⟩
 ·have ap:=List.pairwise_append.mp d.apart
  have ap2:=List.pairwise_cons.mp ap.2.1
  refine ct fun ng=>?_
  obtain ⟨kp,xp,dp,lp,rp⟩:=d.val p (by simp)
  obtain rfl:=k.yes _ _ b dp
  refine ng ?_
  refine ⟨fun p' hp'=>?_,?_,fun k' hk=>?_⟩
  ·rcases List.mem_append.mp hp' with hp | hp
   ·refine ct fun ng=>?_
    obtain ⟨k',x,a',b',c⟩:=d.val p' (List.mem_append_left _ hp)
    refine ng ?_
    exact ⟨k',x,a',(h2 k' (k.no _ _ (a p' hp) a')).trans b',hR _ _ c⟩
   ·rcases List.mem_cons.mp hp with rfl | hp
    ·exact ⟨kp,z,dp,h1,hz⟩
    ·obtain ⟨k',x,a',b',c⟩:=d.val p' (List.mem_append_right _ (List.mem_cons_of_mem _ hp))
     exact ⟨k',x,a',(h2 k' (fun e=>ap2.1 p' hp k' (e▸dp) a')).trans b',hR _ _ c⟩
  ·refine List.pairwise_append.mpr ⟨ap.1,List.pairwise_cons.mpr ⟨fun p' hp' k' x y=>ap2.1 p' hp' k' x y,ap2.2⟩,fun x hx y hy k' xk yk=>?_⟩
   rcases List.mem_cons.mp hy with rfl | hy
   ·exact ap.2.2 x hx p List.mem_cons_self k' xk yk
   ·exact ap.2.2 x hx y (List.mem_cons_of_mem _ hy) k' xk yk
  ·by_cases e:k'=kp
   ·subst e;exact .inl ⟨(p.1,v),by simp,dp⟩
   ·rcases d.all k' (by rw [← h2 k' e];exact hk) with ⟨p',m,z⟩ | ⟨p',m,z⟩
    ·rcases List.mem_append.mp m with m | m
     ·exact .inl ⟨p',List.mem_append_left _ m,z⟩
     ·rcases List.mem_cons.mp m with rfl | m
      ·exact .inl ⟨(p'.1,v),by simp,z⟩
      ·exact .inl ⟨p',List.mem_append_right _ (List.mem_cons_of_mem _ m),z⟩
    ·exact .inr ⟨p',m,z⟩
 ·exact d.new k hi hf hR hz h1 h2 a
end
theorem dZ:∀ (l:List V) (n:Nat) (x:V),bD l n x=l.set n x
 | [],_,_=>rfl
 | _ :: _,0,_=>rfl
 | v :: l,n+1,x=>congrArg (v :: ·) (dZ l n x)
theorem F2.set {α β:Type} {R:α→β→Prop} {l:List α} {m:List β} (f:F2 R l m) {a:α} {b:β}:∀ (n:Nat),R a b→F2 R (l.set n a) (m.set n b):=by
 induction f with
 | nil=>intro n r;exact .nil
 | cons x h ih =>
  intro n r
  cases n with
  | zero=>exact .cons r h
  | succ n=>exact .cons x (ih n r)
theorem c7 (f g:Nat) (x:V):∀ l:List (Nat×V),aA g (dN f x l)=if g=f then x else aA g l
 | []=>by
  show @Bool.rec (fun ξ=>V) .unb x (Nat.beq f g)=_
  cases e:Nat.beq f g with
  | true=>rw [if_pos (natbeq.mp e).symm]
  | false=>rw [if_neg (fun c=>natbeq_f.mp e c.symm)];rfl
 | p :: l=>by
  have ih:=c7 f g x l
  show aA g (@Bool.rec (fun ξ=>List (Nat×V)) (p :: dN f x l) ((p.1,x) :: l) (Nat.beq p.1 f))=if g=f then x else @Bool.rec (fun ξ=>V) (aA g l) p.2 (Nat.beq p.1 g)
  cases e:Nat.beq p.1 f with
  | true =>
   have ef:=natbeq.mp e
   show @Bool.rec (fun ξ=>V) (aA g l) x (Nat.beq p.1 g)=_
   cases e':Nat.beq p.1 g with
   | true=>rw [if_pos ((natbeq.mp e').symm.trans ef)]
   | false=>rw [if_neg (fun c=>natbeq_f.mp e' (ef.trans c.symm))]
  | false =>
   show @Bool.rec (fun ξ=>V) (aA g (dN f x l)) p.2 (Nat.beq p.1 g)=_
   cases e':Nat.beq p.1 g with
   | true=>rw [if_neg (fun c=>natbeq_f.mp e ((natbeq.mp e').trans c))]
   | false=>exact ih
end Gh
end
section
namespace Gh
open PySem PyProof.Rows PySem.W PySem.SeqAt
section
variable {C:Cx} (ρk:RhoOk C)
include ρk
theorem cR {a b:V} {x y:Int} {r:Bool} (h:jU a b=b3 r) (ha:bE C a x) (hb:bE C b y):decide (x=y)=r:=by
 refine ct fun ng=>?_
 obtain ⟨o,s,rfl,h1⟩:=ae h aj
 obtain ⟨o',s',rfl,h2⟩:=ae h1 aj
 have ha':x=o+C.ρ s:=ha
 have hb':y=o'+C.ρ s':=hb
 refine ng ?_
 rw [ha',hb'];exact bJ ρk h2
omit ρk in
theorem jJ {q:Bool} (e:B3.no=b3 q):q=false:=by cases q with | false=>rfl | true=>injection e
omit ρk in
theorem nS {q:Bool} (e:B3.yes=b3 q):q=true:=by cases q with | true=>rfl | false=>injection e
omit ρk in
theorem lc {P Q:Prop} [Decidable P] [Decidable Q] {a b:B3} {r:Bool} (h:@B3.rec (fun ξ=>B3) .und .no b a=b3 r) (hP:∀ q,a=b3 q→decide P=q) (hQ:P→∀ q,b=b3 q→decide Q=q):decide (P∧Q)=r:=by
 cases a with
 | und=>exact absurd h aj
 | no=>rw [jJ h];exact decide_eq_false fun c=>of_decide_eq_false (hP false rfl) c.1
 | yes =>
  have p:=of_decide_eq_true (hP true rfl)
  rw [← hQ p r h]
  exact decide_eq_decide.mpr ⟨fun c=>c.2,fun c=>⟨p,c⟩⟩
theorem ji:∀ {l:List V} {x:List Int},cT C l x→∀ {m y} {r:Bool},dw jU l m=b3 r→cT C m y→decide (x=y)=r:=by
 intro l
 induction l with
 | nil =>
  intro x ha m y r h hb
  cases x with | cons _ _=>exact ha.elim | nil =>
  cases m with
  | nil=>cases y with | cons _ _=>exact hb.elim | nil=>rw [nS h];rfl
  | cons _ _=>cases y with | nil=>exact hb.elim | cons _ _=>rw [jJ h];rfl
 | cons v l ih =>
  intro x ha m y r h hb
  cases x with | nil=>exact ha.elim | cons x xs =>
  cases m with
  | nil=>cases y with | cons _ _=>exact hb.elim | nil=>rw [jJ h];rfl
  | cons w m =>
   cases y with | nil=>exact hb.elim | cons y ys =>
   rw [← lc (P:=x=y) (Q:=xs=ys) h (fun q e=>cR ρk e ha.1 hb.1) fun ξ q e=>ih ha.2 e hb.2]
   exact decide_eq_decide.mpr List.cons_eq_cons
theorem kA {a b:List V} {x y:Option (List Int)} {r:Bool} (h:lG a b=b3 r) (ha:pv C a x) (hb:pv C b y):decide (x=y)=r:=by
 rcases ha with ⟨rfl,rfl⟩ | ⟨l,k,rfl,rfl,ha⟩<;>rcases hb with ⟨rfl,rfl⟩ | ⟨l',k',rfl,rfl,hb⟩
 ·rw [nS h];rfl
 ·rw [jJ h];rfl
 ·rw [jJ h];rfl
 ·rw [← ji ρk ha h hb]
  exact decide_eq_decide.mpr (Option.some_inj)
theorem fG {a b:V} {x y:bu} {r:Bool} (h:eh a b=b3 r) (ha:di C a x) (hb:di C b y):decide (x=y)=r:=by
 refine ct fun ng=>?_
 obtain ⟨a1,a2,l,rfl,p1,p2,p3⟩:=ha
 obtain ⟨b1,b2,m,rfl,q1,q2,q3⟩:=hb
 refine ng ?_
 rw [← lc (P:=x.1=y.1) (Q:=x.2.1=y.2.1∧x.2.2=y.2.2) h (fun q e=>cR ρk e p1 q1) fun ξ q e =>
  lc e (fun q e=>cR ρk e p2 q2) fun ξ q e=>kA ρk e p3 q3]
 exact decide_eq_decide.mpr ⟨fun c=>c▸⟨rfl,rfl,rfl⟩,fun c=>Prod.ext c.1 (Prod.ext c.2.1 c.2.2)⟩
theorem vF {i:V} {key:bu} (hi:di C i key):QOk (di C) (eh i) key where
 yes v k h d:=(of_decide_eq_true (fG ρk (r:=true) h hi d)).symm
 no v k h d:=fun e=>of_decide_eq_false (fG ρk (r:=false) h hi d) e.symm
end
section
variable {C:Cx} {ι:Im} {h:Heap}
theorem eX {v:V} {k k':Int} (a:bE C v k) (b:bE C v k'):k'=k:=by
 cases v<;>first | exact a.elim | skip
 have a':k=_:=a
 have b':k'=_:=b
 rw [a',b']
theorem pw {v:V} {k k':Str} (a:eW C v k) (b:eW C v k'):k'=k:=by
 cases v<;>first | exact a.elim | skip
 have a':k=_:=a
 have b':k'=_:=b
 rw [a',b']
theorem nM {v:List V}:∀ {k k':List Int},cT C v k→cT C v k'→k'=k:=by
 induction v with
 | nil=>intro k k' a b;cases k with | cons _ _=>exact a.elim | nil=>cases k' with | cons _ _=>exact b.elim | nil=>rfl
 | cons v l ih=>intro k k' a b;cases k with | nil=>exact a.elim | cons _ _=>cases k' with | nil=>exact b.elim | cons _ _=>rw [eX a.1 b.1,ih a.2 b.2]
theorem pu {v:List V} {k k':Option (List Int)} (a:pv C v k) (b:pv C v k'):k'=k:=by
 rcases a with ⟨rfl,rfl⟩ | ⟨l,m,rfl,rfl,a⟩<;>rcases b with ⟨e,rfl⟩ | ⟨l',m',e,rfl,b⟩
 ·rfl
 ·injection e
 ·injection e
 ·injection e with e;injection e with e;subst e;rw [nM a b]
theorem pz {v:V} {k k':bu} (a:di C v k) (b:di C v k'):k'=k:=by
 refine ct fun ng=>?_
 obtain ⟨a1,a2,l,rfl,p1,p2,p3⟩:=a
 obtain ⟨b1,b2,m,e,q1,q2,q3⟩:=b
 refine ng ?_
 injection e with e;injection e with e1 e;injection e with e2 e;subst e1 e2 e
 exact Prod.ext (eX p1 q1) (Prod.ext (eX p2 q2) (pu p3 q3))
theorem aU {n:Int} {t:Tok}:(intKind C.prog C.w).is n (.int n t)=true:=by simp [intKind,Value.isInt]
theorem cZ {v:V} {x:Value} (e:isI v=true) (r:VR C ι h v x):∃ n t,x=.int n t∧bE C v n:=by
 refine ct fun ng=>?_
 obtain ⟨o,s,rfl,_⟩:=ae e nofun
 obtain ⟨n,t,rfl,z⟩:=r.intI
 refine ng ?_
 exact ⟨n,t,rfl,z⟩
theorem o4:∀ {l:List V} {items:List Value},cG isI l=true→VRs C ι h l items→∃ ks,cT C l ks∧ItemsAre (intKind C.prog C.w) ks items:=by
 intro l
 induction l with
 | nil=>intro items _ f;rw [f.n1];exact ⟨[],trivial,.nil⟩
 | cons v l ih =>
  intro items e f
  refine ct fun ng=>?_
  obtain ⟨x,items,rfl,a,r⟩:=f.c1
  obtain ⟨e1,e2⟩:=dg e
  obtain ⟨ks,d,i⟩:=ih e2 r
  obtain ⟨n,t,rfl,z⟩:=cZ e1 a
  refine ng ?_
  exact ⟨n :: ks,⟨z,d⟩,.cons aU i⟩
theorem iN {i:V} {y:Value} (e:gL i=true) (r:VR C ι h i y):∃ a k,y=.ref a∧IsRowKey C.prog C.w h k a∧di C i k:=by
 obtain ⟨l,rfl,e⟩:=br e nofun
 obtain ⟨a,items,rfl,⟨m,t⟩,hl,f⟩:=r.tupI
 have F:=F2.of_get hl f
 clear f hl
 cases l with | nil=>injection e | cons v l =>
 cases l with | nil=>injection e | cons w l =>
 refine ct fun ng=>?_
 obtain ⟨e1,e⟩:=ac e nofun
 obtain ⟨e2,e⟩:=ac e nofun
 obtain ⟨_,_,rfl,r1,F1⟩:=F.c1
 obtain ⟨_,its,rfl,r2,G⟩:=F1.c1
 clear F F1
 obtain ⟨n1,_,rfl,z1⟩:=cZ e1 r1
 obtain ⟨n2,_,rfl,z2⟩:=cZ e2 r2
 refine ng ?_
 cases l with
 | nil =>
  rw [G.n1] at t
  exact ⟨a,(n1,n2,none),rfl,⟨_,_,m,t,rfl,rfl,.cons aU (.cons aU .nil)⟩,_,_,_,rfl,z1,z2,.inl ⟨rfl,rfl⟩⟩
 | cons c l=>cases l with | cons _ _=>injection e | nil =>
  refine ct fun ng=>?_
  obtain ⟨l,rfl,e⟩:=br (show aQ c false (cG isI)=true from e) nofun
  obtain ⟨_,rfl,r3⟩:=G.o1
  obtain ⟨a3,it3,rfl,⟨m3,t3⟩,l3,f3⟩:=r3.tupI
  obtain ⟨ks,d,i⟩:=o4 e (F2.of_get l3 f3)
  refine ng ?_
  exact ⟨a,(n1,n2,some ks),rfl,⟨_,_,m,t,rfl,rfl,.cons aU (.cons aU (.cons ⟨a3,rfl,_,_,m3,t3,rfl,rfl,i⟩ .nil))⟩,_,_,_,rfl,z1,z2,.inr ⟨_,_,rfl,rfl,d⟩⟩
end
end Gh
end
section
namespace Gh
open PySem PyProof.Rows PySem.W PySem.SeqAt
theorem pL {α:Sort _} {d r:α} {v:V} {k:Int→Nat→α} (h:am v d k=r):(∃ o s,v=.int o s∧k o s=r)∨d=r:=by
 cases v<;>first | exact .inl ⟨_,_,rfl,h⟩ | exact .inr h
noncomputable def PU (C:Cx) (ι:Im) (σ:St) (s:Shared) (σ':St):Unit→Shared→Prop:=fun ξ s'=>Sh s s'∧SR C ι σ' s'.heap∧SS X0 ι σ s.heap ι σ' s'.heap
section
variable {C:Cx} {ι:Im} {σ σ':St} {A:Around} {s:Shared} {E:Value→Shared→Prop} {a b v:V} {x y z:Value}
theorem gn {l:Addr} {items:Array Value} {m:Nat} {k:Int} {t:Tok} {v:Value} {Q:Unit→Shared→Prop} (hl:IsL s.heap l items m)
  (h0:0≤k) (hfit:k < 2 ^ 63) (hn:k < items.size)
  (hQ:∀ h' m',IsL h' l (items.setIfInBounds k.toNat v) m'→Heap.SameBut l s.heap h'→Q () { s with heap:=h' }) :
  wpAny (model C.prog C.w) A (setItem (.ref l) (.int k t) v) Q E s:=by
 have hT:s.TypeIs (.ref l) "list":=⟨_,hl,rfl⟩
 unfold setItem
 try with_reducible refine wpAny_holding ?_
 first | refine wpAny_bind (wpAny_pure ?_) | skip
 refine wpAny_bind (wpAny_sequenceKey hT (by decide) ?_)
 refine wpAny_bind (wpAny_callSpecial?_slot (name:=Str.ofString "__setitem__") hT slot_list_setitem
  (wpAny_call_entry slot_list_setitem hT entry_list_setitem ?_ (args_list_setitem _ _ _)))
 show wpAny _ _ (Builtin.List.listSubscript? (.int k t) >>= _) _ _ s
 refine wpAny_bind (wpAny_listSubscript_int (fitsIndex_of h0 hfit) ?_)
 clear hfit
 obtain ⟨j,rfl⟩:=Int.eq_ofNat_of_zero_le h0
 have hj:j < items.size:=by omega
 have hx':items[j]?=some items[j]:=Array.getElem?_eq_getElem hj
 show wpAny _ _ ((seqItemAt l j >>= fun r=>pure (r.map (j,·))) >>= _) _ _ s
 refine wpAny_bind (wpAny_bind (wpAny_seqItemAt hl rfl (wpAny_pure ?_)))
 rw [hx']
 show wpAny _ _ (setSeqItemAt l j v >>= _) _ _ s
 have hfin:=hl.update (·.setIfInBounds j v)
 refine wpAny_bind (wpAny_setSeqItemAt hl rfl ?_)
 first
  | exact wpAny_bind (wpAny_pure (wpAny_pure ⟨.none,rfl,wpAny_pure (hQ _ _ hfin (Heap.SameBut.update ..))⟩))
  | exact wpAny_pure ⟨.none,rfl,wpAny_pure (hQ _ _ hfin (Heap.SameBut.update ..))⟩
theorem dq {l:Addr} {items:List Value} {n:Nat} {t:Tok} {v:Value} {Q:Unit→Shared→Prop} (hl:cI s.heap l items) (hs:n≤100000) (hj:n < items.length)
  (hQ:∀ h',cI h' l (items.set n v)→Heap.SameBut l s.heap h'→Q () { s with heap:=h' }) :
  wpAny (model C.prog C.w) A (setItem (.ref l) (.int (Int.ofNat n) t) v) Q E s:=by
 obtain ⟨m,hl⟩:=hl
 refine gn hl (Int.natCast_nonneg n) (by show (n:Int) < _;omega) (by show (n:Int) < _;rw [List.size_toArray];omega) fun h' m' a b=>hQ h' ⟨m',?_⟩ b
 rw [List.setIfInBounds_toArray] at a
 exact a
theorem oV {n:Str} {t:Tok}:(PySem.strKind C.prog C.w).is n (.str n t)=true:=by simp [PySem.strKind,Value.isStrOf]
theorem a8 {l:Addr} {h h':Heap} (k:Heap.SameBut l h h') (nT:∀ o,h.get? l=some o→¬ isT o):Tk h h':=fun b o e t=>(k.2 b fun c=>nT o (c▸e) t).trans e
theorem dm (k:CxOk C) (hu:A.units+200 < cLine) (R:SR C ι σ s.heap) (ra:VR C ι s.heap a x) (rb:VR C ι s.heap b y) (rv:VR C ι s.heap v z) (h:iL a b v σ=.ok σ') :
  wpAny (model C.prog C.w) A (setItem x y z) (PU C ι σ s σ') E s:=by
 have ρk:=k.toRhoOk
 obtain ⟨g,rfl,h1⟩:=aB h nofun
 obtain ⟨w,o,e1,h2⟩:=bW h1 nofun
 obtain ⟨rfl,h3⟩:=ac h2 nofun
 obtain ⟨p,i,ob⟩:=R.obs _ _ _ e1
 have nT:=ob.not_T
 have fin:∀ {h':Heap} {t:Nat} {o':O},rR o'=false→Heap.SameBut p.1 s.heap h'→OR C ι h' p o'→PU C ι σ s (upd σ g o') () { s with heap:=h',toks:=t }:=fun hi sb r' =>
  let ⟨A,B⟩:=SR.write R e1 i (.inl rfl) (fh hi) sb r'.live r';⟨⟨_,_,rfl⟩,A,B⟩
 obtain ⟨ad,dd,rfl,z'⟩:=ra.refI
 rw [z'] at i;obtain rfl:=Option.some.inj i
 have u1:A.in1.units=A.units+1:=Around.in1_units A
 cases o with
 | lst m vs =>
  obtain ⟨items,t,l,r⟩:=ob.lstI
  obtain ⟨n,rfl,h4⟩:=au h3 nofun
  obtain ⟨h5,h6⟩:=bk h4 nofun
  obtain ⟨hs,h7⟩:=ck rfl h5
  injection h6 with h6
  subst h6
  obtain ⟨_,_,rfl,zb⟩:=rb.intI
  rw [ρk.zero,Int.add_zero] at zb
  subst zb
  obtain ⟨x0,e,_⟩:=r.at (bI fun c=>h5 (h7.symm.trans c))
  refine dq t hs (List.getElem?_eq_some_iff.mp e).1 fun h' t' sb=>fin rfl sb ?_
  have tk:=a8 sb nT
  refine .lst _ t' ?_ ?_
  ·rw [dZ,List.length_set];exact l
  ·rw [dZ];exact F2.set (r.mono (fun ξ ξ e=>e) tk) n (rv.mono (fun ξ ξ e=>e) tk)
 | gap=>injection h3
 | plst its =>
  obtain ⟨items,t,f⟩:=ob.plstI
  obtain ⟨n,rfl,h4⟩:=au h3 nofun
  obtain ⟨h5,h6⟩:=bk h4 nofun
  obtain ⟨hs,h7⟩:=ck rfl h5
  injection h6 with h6
  subst h6
  obtain ⟨_,_,rfl,zb⟩:=rb.intI
  rw [ρk.zero,Int.add_zero] at zb
  subst zb
  obtain ⟨x0,e,_⟩:=f n fun c=>h5 (h7.symm.trans c)
  have hlt:=(List.getElem?_eq_some_iff.mp e).1
  refine dq t hs hlt fun h' t' sb=>fin rfl sb ?_
  have tk:=a8 sb nT
  refine .plst _ t' fun f' hf=>?_
  rw [c7] at hf ⊢
  by_cases c:f'=n
  ·subst c
   rw [if_pos rfl]
   exact ⟨z,by rw [List.getElem?_set_self hlt],rv.mono (fun ξ ξ e=>e) tk⟩
  ·rw [if_neg c] at hf ⊢
   obtain ⟨x1,e1,r1⟩:=f f' hf
   exact ⟨x1,by rw [List.getElem?_set_ne (fun q=>c q.symm)];exact e1,r1.mono (fun ξ ξ e=>e) tk⟩
 | emp =>
  obtain t:=ob.empI
  have dI:s.heap.DictOf (intKind C.prog C.w) ad []:=⟨_,#[],0,t,⟨rfl,rfl,rfl⟩,rfl,(fun e he=>by simp at he),.nil,List.nodup_nil⟩
  have dH:s.heap.DictOfH (bH C.prog C.w) ad []:=⟨_,#[],0,t,⟨rfl,rfl,rfl⟩,rfl,rfl,(fun ξ hx=>by simp at hx),List.nodup_nil⟩
  have isI:∀ o q,b=.int o q→σ'=upd σ g (.idct 1 [(b,v)] [])→wpAny (model C.prog C.w) A (setItem (.ref ad) y z) (PU C ι σ s σ') E s:=by
   intro o q hb hσ
   subst hb hσ
   obtain ⟨nb,tb,rfl,zb⟩:=rb.intI
   refine wpAny_setItem_pairs (k:=nb) aU dI (fun h' d' sb=>fin (o':=.idct 1 [(.int o q,v)] []) rfl sb ?_) (by show 0≤_;omega)
   have tk:=a8 sb nT
   refine OR.idct (stored [] nb z) d' (Nat.le_refl 1) ⟨fun p hp=>?_,List.pairwise_singleton _ _,fun k' hk=>?_⟩
   ·obtain rfl:=List.mem_singleton.mp hp
    exact ⟨_,z,show bE C (.int o q) _ from zb,by rw [aH,if_pos rfl],rv.mono (fun ξ ξ e=>e) tk⟩
   ·rw [aH] at hk
    by_cases c:k'=nb
    ·exact .inl ⟨_,List.mem_singleton.mpr rfl,c▸zb⟩
    ·rw [if_neg c] at hk;exact absurd rfl hk
  have isR:gL b=true→σ'=upd σ g (.kdct 1 [(b,v)] [])→wpAny (model C.prog C.w) A (setItem (.ref ad) y z) (PU C ι σ s σ') E s:=by
   intro hr hσ
   subst hσ
   obtain ⟨ak,key,rfl,rk,dk⟩:=iN hr rb
   refine wpAny_setItem_heap (by show A.in1.units+80 < cLine;omega) rk dH (fun h' d' sb=>fin rfl sb ?_) (by show 0≤_;omega)
   have tk:=a8 sb nT
   have hl:∀ k',(atKey (storedH ([]:List (bu×Addr×Value)) key ak z) k').map (·.2)=if k'=key then some z else none:=fun k'=>by
    rw [storedH_new (by rfl),fB _ _ _ _ (by rfl)]
    by_cases c:k'=key
    ·simp [c]
    ·simp [c,atKey]
   refine .kdct _ d' (Nat.le_refl 1) ⟨fun p hp=>?_,List.pairwise_singleton _ _,fun k' hk=>?_⟩
   ·obtain rfl:=List.mem_singleton.mp hp
    exact ⟨key,z,dk,by rw [hl,if_pos rfl],rv.mono (fun ξ ξ e=>e) tk⟩
   ·rw [hl] at hk
    by_cases c:k'=key
    ·exact .inl ⟨_,List.mem_singleton.mpr rfl,c▸dk⟩
    ·rw [if_neg c] at hk;exact absurd rfl hk
  change am b (@Bool.rec (fun ξ=>RU) .fail (.ok (upd σ g (.kdct 1 [(b,v)] []))) (gL b)) (fun ξ ξ=>.ok (upd σ g (.idct 1 [(b,v)] [])))=.ok σ' at h3
  rcases pL h3 with ⟨o,q,hb,h4⟩ | h4
  ·exact isI o q hb (by injection h4 with h4;exact h4.symm)
  ·obtain ⟨hr,h5⟩:=ac h4 nofun
   exact isR hr (by injection h5 with h5;exact h5.symm)
 | idct m kvs may =>
  refine ct fun ng=>?_
  obtain ⟨Rw,d,l,dr⟩:=ob.idctI
  obtain ⟨hm,h4⟩:=ac h3 nofun
  have hm:m≤100000:=natble.mp hm
  obtain ⟨o,q,rfl,h5⟩:=ae h4 nofun
  obtain ⟨_,_,rfl,zb⟩:=rb.intI
  have hno:bP (isInt o q) may=.no∧∃ kvs',iT (isInt o q) (.int o q) v kvs=.ok kvs'∧σ'=upd σ g (.idct (Nat.succ m) kvs' may):=by
   cases e:bP (isInt o q) may with
   | und=>rw [e] at h5;injection h5
   | yes=>rw [e] at h5;injection h5
   | no =>
    rw [e] at h5
    cases e2:iT (isInt o q) (.int o q) v kvs with
    | fail=>rw [e2] at h5;injection h5
    | ok kvs'=>rw [e2] at h5;injection h5 with h5;exact ⟨rfl,kvs',rfl,h5.symm⟩
  obtain ⟨_,kvs',hp,rfl⟩:=hno
  refine ng ?_
  refine wpAny_setItem_pairs aU d (fun h' d' sb=>fin rfl sb ?_) (by have:sizeLine=2 ^ 24:=rfl;omega)
  have tk:=a8 sb nT
  refine .idct _ d' (Nat.le_trans (stored_length_le _ _ _) (Nat.succ_le_succ l)) (dr.put (key:=_) (zb▸m4 ρk) (show bE C (.int o q) _ from zb) (fun k' hk=>eX (show bE C (.int o q) _ from zb) hk) (fun ξ ξ=>VR.mono (fun ξ ξ e=>e) tk) (rv.mono (fun ξ ξ e=>e) tk) ?_ (fun k' hk=>?_) hp)
  ·rw [aH,if_pos rfl]
  ·rw [aH,if_neg hk]
 | sdct m kvs =>
  refine ct fun ng=>?_
  obtain ⟨Rw,d,l,dr⟩:=ob.sdctI
  obtain ⟨hm,h4⟩:=ac h3 nofun
  have hm:m≤100000:=natble.mp hm
  obtain ⟨q,rfl,h5⟩:=bt h4 nofun
  obtain ⟨_,_,rfl,zb⟩:=rb.strI
  refine ng ?_
  cases e2:iT (isStr q) (.str q) v kvs with
  | fail=>rw [e2] at h5;injection h5
  | ok kvs' =>
   rw [e2] at h5
   injection h5 with h5
   subst h5
   refine wpAny_setItem_pairs oV d (fun h' d' sb=>fin rfl sb ?_) (by have:sizeLine=2 ^ 24:=rfl;omega)
   have tk:=a8 sb nT
   refine .sdct _ d' (Nat.le_trans (stored_length_le _ _ _) (Nat.succ_le_succ l)) (dr.put (zb▸th k.nm) (show eW C (.str q) _ from zb) (fun k' hk=>pw (show eW C (.str q) _ from zb) hk) (fun ξ ξ=>VR.mono (fun ξ ξ e=>e) tk) (rv.mono (fun ξ ξ e=>e) tk) ?_ (fun k' hk=>?_) e2)
   ·rw [aH,if_pos rfl]
   ·rw [aH,if_neg hk]
 | kdct m kvs may =>
  refine ct fun ng=>?_
  obtain ⟨Rw,d,l,dr⟩:=ob.kdctI
  obtain ⟨hm,h4⟩:=ac h3 nofun
  have hm:m≤100000:=natble.mp hm
  obtain ⟨hr,h5⟩:=ac h4 nofun
  obtain ⟨ak,key,rfl,rk,dk⟩:=iN hr rb
  have hno:aK (eh b) kvs=.miss∧bP (eh b) may=.no∧σ'=upd σ g (.kdct (Nat.succ m) (sW kvs (b,v)) may):=by
   cases e:aK (eh b) kvs with
   | und=>unfold iZ at h5;rw [e] at h5;injection h5
   | hit _=>unfold iZ at h5;rw [e] at h5;injection h5
   | miss =>
    unfold iZ at h5
    rw [e] at h5
    cases e2:bP (eh b) may with
    | und=>rw [e2] at h5;injection h5
    | yes=>rw [e2] at h5;injection h5
    | no=>rw [e2] at h5;injection h5 with h5;exact ⟨rfl,rfl,h5.symm⟩
  obtain ⟨e,e2,rfl⟩:=hno
  have qr:=vF ρk dk
  have miss:=dr.miss qr e e2
  refine ng ?_
  have hk0:atKey Rw key=none:=by cases q:atKey Rw key with | none=>rfl | some _=>rw [q] at miss;injection miss
  have sn:∀ (l:List (V×V)) p,sW l p=l++[p]:=fun l p=>by induction l with | nil=>rfl | cons a l ih=>exact congrArg (a :: ·) ih
  refine wpAny_setItem_heap (by show A.in1.units+80 < cLine;omega) rk d (fun h' d' sb=>fin rfl sb ?_) (by have:sizeLine=2 ^ 24:=rfl;omega)
  have tk:=a8 sb nT
  refine .kdct _ d' ?_ ?_
  ·rw [storedH_new hk0,List.length_append];exact Nat.succ_le_succ l
  ·rw [sn]
   refine dr.new qr dk (fun k' hk=>pz dk hk) (fun ξ ξ=>VR.mono (fun ξ ξ e=>e) tk) (rv.mono (fun ξ ξ e=>e) tk) ?_ (fun k' hk=>?_) (bQ e)
   ·rw [storedH_new hk0,fB _ _ _ _ hk0,if_pos rfl];rfl
   ·rw [storedH_new hk0,fB _ _ _ _ hk0,if_neg hk]
 | inst=>injection h3
 | bag=>injection h3
end
end Gh
end
section
namespace Gh
open PySem PyProof.Rows PySem.W PySem.SeqAt
section
variable {C:Cx} {ι:Im} {σ σ':St} {A:Around} {s:Shared} {E:Value→Shared→Prop} {a b v:V} {x y z:Value}
theorem PE.alloc {o:O} {a:Addr} {h1:Heap} {t:Nat} (R:SR C ι σ s.heap) (k:∀ b o,s.heap.get? b=some o→h1.get? b=some o) (p:s.heap.get? a=none)
  (r:∀ ι',(∀ g p,ι g=some p→ι' g=some p)→OR C ι' h1 (a,a) o) {v:V} (e:Gh.alloc σ o=.ok v σ'):PE C ι σ s σ' v (.ref a) { s with heap:=h1,toks:=t }:=by
 injection e with e1 e2
 subst e1 e2
 refine ct fun ng=>?_
 obtain ⟨ι',i,R',S⟩:=R.alloc (X:=X0) k p p ((r ι fun ξ ξ e=>e).live) r
 refine ng ?_
 exact ⟨⟨_,_,rfl⟩,ι',R',S,.ref i⟩
theorem PE.tup {items:List Value} {vs:List V} {a:Addr} {h1:Heap} {t:Nat} (R:SR C ι σ s.heap) (k:∀ b o,s.heap.get? b=some o→h1.get? b=some o) (ht:IsTp h1 a items) (r:VRs C ι s.heap vs items) :
  PE C ι σ s σ (.tup vs) (.ref a) { s with heap:=h1,toks:=t } :=
 ⟨⟨_,_,rfl⟩,ι,R.grow k,SS.grow k,.mk_tup ht (r.mono (fun ξ ξ e=>e) fun a o e ξ=>k a o e)⟩
theorem PE.grow {h1:Heap} {t:Nat} (R:SR C ι σ s.heap) (k:∀ b o,s.heap.get? b=some o→h1.get? b=some o) (r:VR C ι s.heap v x):PE C ι σ s σ v x { s with heap:=h1,toks:=t } :=
 ⟨⟨_,_,rfl⟩,ι,R.grow k,SS.grow k,r.mono (fun ξ ξ e=>e) fun a o e ξ=>k a o e⟩
theorem ag (h:Heap) (o:Obj):∀ b o',h.get? b=some o'→(h.push o).get? b=some o':=fun b o' e=>Heap.get?_push_of_some o e
theorem fresh (h:Heap):h.get? h.objs.size=none:=by
 cases e:h.get? h.objs.size with
 | none=>rfl
 | some o=>exact absurd (Heap.lt_size e) (Nat.lt_irrefl _)
theorem m5 (h:Heap) (items:List Value):cI (h.push { cls:=.type "list",data:=.seq items.toArray }) h.objs.size items:=⟨0,IsL.new h items.toArray⟩
theorem jH (h:Heap) (items:List Value):IsTp (h.push { cls:=.type "tuple",data:=.seq items.toArray }) h.objs.size items:=⟨0,Heap.get?_push_size _ rfl⟩
theorem PE.newList {items:List Value} {vs:List V} {n:Nat} {t:Nat} (R:SR C ι σ s.heap) (r:VRs C ι s.heap vs items) (hn:n=vs.length) {v:V} (e:Gh.alloc σ (.lst n vs)=.ok v σ') :
  PE C ι σ s σ' v (.ref s.heap.objs.size) { s with heap:=s.heap.push { cls:=.type "list",data:=.seq items.toArray },toks:=t } :=
 PE.alloc R (ag _ _) (fresh _) (fun ι' ext=>.lst items (m5 _ _) hn (r.mono ext fun a o e ξ=>ag _ _ a o e)) e
theorem PE.newTup {items:List Value} {vs:List V} {t:Nat} (R:SR C ι σ s.heap) (r:VRs C ι s.heap vs items) :
  PE C ι σ s σ (.tup vs) (.ref s.heap.objs.size) { s with heap:=s.heap.push { cls:=.type "tuple",data:=.seq items.toArray },toks:=t } :=
 PE.tup R (ag _ _) (jH _ _) r
theorem cF:∀ l m:List V,app l m=l++m
 | [],_=>rfl
 | v :: l,m=>congrArg (v :: ·) (cF l m)
theorem cQ:∀ l:List V,len l=l.length
 | []=>rfl
 | _ :: l=>congrArg Nat.succ (cQ l)
theorem av {n:Nat} {r:RE} {v:V} (h:bz n r=.ok v σ'):n≤100000∧r=.ok v σ':=by
 obtain ⟨a,b⟩:=ac h reN
 exact ⟨natble.mp a,b⟩
theorem szl:sizeLine=16777216:=rfl
theorem PE.write {g:Ps} {p:Addr×Addr} {o o':O} {h1:Heap} {t:Nat} (R:SR C ι σ s.heap) (e:at_ σ.h g=.ob true o) (i:ι g=some p) (hk:dJ o'→dJ o) (k:Heap.SameBut p.1 s.heap h1)
  (r:Tk s.heap h1→OR C ι h1 p o') (rv:Tk s.heap h1→VR C ι h1 v x):PE C ι σ s (upd σ g o') v x { s with heap:=h1,toks:=t }:=by
 refine ct fun ng=>?_
 obtain ⟨p',i',ob⟩:=R.obs _ _ _ e
 obtain rfl:p'=p:=Option.some.inj (i'.symm.trans i)
 have tk:=a8 k ob.not_T
 obtain ⟨R',S⟩:=SR.write (X:=X0) R e i (.inl rfl) hk k (r tk).live (r tk)
 refine ng ?_
 exact ⟨⟨_,_,rfl⟩,ι,R',S,rv tk⟩
end
end Gh
end
section
namespace Gh
open PySem PyProof.Rows PySem.W PySem.SeqAt
noncomputable def gW:BM→Str
 | .append=>"append" | .extend=>"extend" | .pop=>"pop" | .get=>"get"
noncomputable def kX:BM→String
 | .get=>"dict" | _=>"list"
noncomputable def uz:BM→String
 | .append=>"list.append" | .extend=>"list.extend" | .pop=>"list.pop" | .get=>"dict.get"
section
variable {C:Cx} {ι:Im} {σ σ':St} {A:Around} {s:Shared} {E:Value→Shared→Prop} {a b v:V} {x y z:Value}
noncomputable def uY (C:Cx) (s:Shared) (A:Around) (x xk:Value) (val:Option Value):Prop:=∃ n,(∀ dv Q E,Q (val.getD dv) { s with toks:=s.toks+n }→wpAny (model C.prog C.w) A (call (.builtin "dict.get") [x,xk,dv]) Q E s) ∧
 ∀ Q E,Q (val.getD .none) { s with toks:=s.toks+n }→wpAny (model C.prog C.w) A (call (.builtin "dict.get") [x,xk]) Q E s
theorem ja {K:Type} [DecidableEq K] {knd:PySem.KeyKind C.prog C.w K} {d:Addr} {kvs:List (K×Value)} {k:K} {xk:Value} (hk:knd.is k xk=true) (hd:(d==sysModules)=false) (hm:s.heap.DictOf knd d kvs):uY C s A (.ref d) xk (valueAt kvs k) :=
 ⟨1,fun dv Q E q=>call_meetsIn F.slot_dict_get hm.typeIs F.entry_dict_get (F.args_dict_get_3 _ _ _) (meets_dict_get_default knd _ hk hd dv) ⟨_,hm.mapOf,q⟩,
  fun Q E q=>call_meetsIn F.slot_dict_get hm.typeIs F.entry_dict_get (F.args_dict_get_2 _ _) (meets_dict_get knd _ hk hd) ⟨_,hm.mapOf,q⟩⟩
theorem o9 {d a:Addr} {xs:List (bu×Addr×Value)} {k:bu} (hu:A.units+200 < cLine) (hk:IsRowKey C.prog C.w s.heap k a) (hd:(d==sysModules)=false) (hm:s.heap.DictOfH (bH C.prog C.w) d xs) :
  uY C s A (.ref d) (.ref a) ((atKey xs k).map (·.2)) :=
 have u1:(bH C.prog C.w).room A.in1:=by show A.in1.units+80 < cLine;rw [Around.in1_units];omega
 ⟨et k,fun dv Q E q=>call_meetsIn F.slot_dict_get hm.typeIs F.entry_dict_get (F.args_dict_get_3 _ _ _) (meetsH_dict_get_default (bH C.prog C.w) d a hd dv) ⟨u1,k,xs,hk,hm,q⟩,
  fun Q E q=>call_meetsIn F.slot_dict_get hm.typeIs F.entry_dict_get (F.args_dict_get_2 _ _) (meetsH_dict_get (bH C.prog C.w) d a hd) ⟨u1,k,xs,hk,hm,q⟩⟩
theorem gR {κ:Type} {den:V→κ→Prop} {q:V→B3} {key:κ} {Rl:V→Value→Prop} {look:κ→Option Value} {kvs:List (V×V)} {may:List V} {d v:V} {dv:Value}
  (dr:DR den Rl look kvs may) (k:QOk den q key) (rd:Rl d dv) (h:getD kvs may q d σ=.ok v σ'):Rl v ((look key).getD dv)∧σ'=σ:=by
 unfold getD at h
 cases e:aK q kvs with
 | und=>rw [e] at h;injection h
 | miss =>
  rw [e] at h
  cases f:bP q may with
  | und=>rw [f] at h;injection h
  | yes=>rw [f] at h;injection h
  | no=>rw [f] at h;injection h with h1 h2;subst h1 h2;rw [dr.miss k e f];exact ⟨rd,rfl⟩
 | hit w =>
  rw [e] at h
  injection h with h1 h2
  subst h1 h2
  obtain ⟨x,a,b⟩:=dr.hit k e
  rw [a];exact ⟨b,rfl⟩
theorem iw (k:CxOk C) (hu:A.units+200 < cLine) (R:SR C ι σ s.heap) {d w:V} {xk dv:Value} (ra:VR C ι s.heap a x) (rk:VR C ι s.heap w xk) (rd:VR C ι s.heap d dv)
  (h:aC a (lg a RE.fail fun j=>a6 w .fail fun n=>aP (fM j (Int.ofNat n)) (.ok d σ) (.ok (fM j (Int.ofNat n)) σ))
   (fun g=>obj (at_ σ.h g) .fail fun ξ o=>@O.rec (fun ξ=>RE) (fun ξ ξ=>.fail) (fun ξ ξ ξ=>.fail) (fun ξ=>.fail) (am w .fail fun ξ ξ=>.ok d σ)
    (fun ξ kvs may=>am w .fail fun o s=>getD kvs may (isInt o s) d σ) (fun ξ ξ=>.fail)
    (fun ξ kvs may=>@Bool.rec (fun ξ=>RE) .fail (getD kvs may (eh w) d σ) (gL w)) (fun ξ ξ=>.fail) (fun ξ=>.fail) o)=.ok v σ') :
  ∃ val,uY C s A x xk val∧VR C ι s.heap v (val.getD dv)∧σ'=σ:=by
 have ρk:=k.toRhoOk
 cases ra with
 | @ref g ad dd z' =>
  obtain ⟨w',o,e1,h2⟩:=bW (α:=RE) h reN
  obtain ⟨p,i,ob⟩:=R.obs _ _ _ e1
  rw [z'] at i;obtain rfl:=Option.some.inj i
  have nm:=lL k R z'
  cases ob with
  | lst=>injection h2
  | gap=>injection h2
  | plst=>injection h2
  | emp t =>
   obtain ⟨o,q,rfl,h3⟩:=ae h2 reN
   injection h3 with h3 h4
   subst h3 h4
   obtain ⟨_,_,rfl,z⟩:=rk.intI
   have dI:s.heap.DictOf (intKind C.prog C.w) ad []:=⟨_,#[],0,t,⟨rfl,rfl,rfl⟩,rfl,(fun e he=>by simp at he),.nil,List.nodup_nil⟩
   exact ⟨_,ja aU nm dI,rd,rfl⟩
  | idct Rw dd l dr =>
   obtain ⟨o,q,rfl,h3⟩:=ae h2 reN
   obtain ⟨_,_,rfl,z⟩:=rk.intI
   obtain ⟨r1,r2⟩:=gR dr (m4 ρk) rd h3
   exact ⟨_,ja aU nm dd,z▸r1,r2⟩
  | sdct=>injection h2
  | kdct Rw dd l dr =>
   obtain ⟨hr,h3⟩:=ac h2 reN
   obtain ⟨ak,key,rfl,rk',dk⟩:=iN hr rk
   obtain ⟨r1,r2⟩:=gR dr (vF ρk dk) rd h3
   exact ⟨_,o9 hu rk' nm dd,r1,r2⟩
  | inst=>injection h2
  | bag=>injection h2
 | gd g =>
  obtain ⟨n,rfl,h1⟩:=au (α:=RE) h reN
  obtain ⟨Rw,dd,nm,t⟩:=g
  have d':=dd.keep R.base
  obtain ⟨_,_,rfl,z⟩:=rk.intI
  rw [ρk.zero,Int.add_zero] at z
  subst z
  refine ⟨_,ja aU nm d',?_⟩
  rcases t n with ⟨e,e'⟩ | ⟨o,tt,e,e'⟩
  ·rw [e] at h1;injection h1 with h1 h2;subst h1 h2
   rw [show valueAt Rw (Int.ofNat n)=none from e'];exact ⟨rd,rfl⟩
  ·rw [e] at h1;injection h1 with h1 h2;subst h1 h2
   rw [show valueAt Rw (Int.ofNat n)=_ from e'];exact ⟨.int (by rw [ρk.zero,Int.add_zero]),rfl⟩
 | none=>injection h
 | bool=>injection h
 | int=>injection h
 | str=>injection h
 | anyStr=>injection h
 | tup=>injection h
 | fn=>injection h
 | cls=>injection h
 | bi=>injection h
theorem iU:∀ l:List V,vK l=l.dropLast
 | []=>rfl
 | [v]=>rfl
 | v :: w :: l=>congrArg (v :: ·) (iU (w :: l))
theorem jO:∀ l:List V,lQ l≠.unb→l.getLast?=some (lQ l)
 | [],h=>absurd rfl h
 | [v],h=>rfl
 | v :: w :: l,h=>jO (w :: l) h
theorem F2.dropLast {α β:Type} {R:α→β→Prop} {l:List α} {m:List β} (f:F2 R l m):F2 R l.dropLast m.dropLast:=by
 induction f with
 | nil=>exact .nil
 | cons a f ih=>cases f with
  | nil=>exact .nil
  | cons b h=>exact .cons a ih
theorem gT:∀ l:List Value,l.eraseIdx (l.length - 1)=l.dropLast
 | []=>rfl
 | [_]=>rfl
 | a :: b :: l=>congrArg (a :: ·) (gT (b :: l))
theorem fS (k:CxOk C) (hu:A.units+200 < cLine) (R:SR C ι σ s.heap) {m:BM} {args:List V} {xs:List Value} (ra:VR C ι s.heap a x) (rs:VRs C ι s.heap args xs) (h:bmeth a m args σ=.ok v σ') :
  wpAny (model C.prog C.w) A (call (.builtin (uz m)) (x :: xs)) (PE C ι σ s σ' v) E s:=by
 have ρk:=k.toRhoOk
 have u1:A.in1.units=A.units+1:=Around.in1_units A
 have tyL:∀ {l:Addr} {items:List Value},cI s.heap l items→s.TypeIs (.ref l) "list":=fun h=>let ⟨m,h⟩:=h;⟨_,h,rfl⟩
 cases m with
 | append =>
   obtain ⟨w,rfl⟩:∃ w,args=[w]:=by rcases args with _ | ⟨w,_ | ⟨_,_⟩⟩<;>first | exact ⟨_,rfl⟩ | injection h
   obtain ⟨y,rfl,rw⟩:=rs.o1
   obtain ⟨g,rfl,h1⟩:=aB h reN
   obtain ⟨wf,o,e1,h2⟩:=bW h1 reN
   obtain ⟨rfl,h3⟩:=ac h2 reN
   obtain ⟨p,i,ob⟩:=R.obs _ _ _ e1
   obtain ⟨ad,dd,rfl,z'⟩:=ra.refI
   rw [z'] at i;obtain rfl:=Option.some.inj i
   cases o with
   | lst n vs =>
    refine ct fun ng=>?_
    obtain ⟨hn,h4⟩:=av h3
    injection h4 with h4 h5
    subst h4 h5
    obtain ⟨items,t,l,r⟩:=ob.lstI
    have t':=t
    obtain ⟨m,t⟩:=t
    refine ng ?_
    refine call_meets F.slot_list_append (tyL t') F.entry_list_append (F.args_list_append_2 _ _) (list_append ad items.toArray m y (by rw [List.size_toArray,← r.length,← l,szl];omega)) ⟨t,?_⟩
    refine PE.write R e1 z' (fh rfl) (Heap.SameBut.update ..) (fun tk=>.lst (items++[y]) ?_ ?_ ?_) (fun ξ=>.none)
    ·have:=t.update (·.push y)
     rw [List.push_toArray] at this
     exact ⟨_,this⟩
    ·rw [cF,List.length_append,l];rfl
    ·rw [cF];exact (r.mono (fun ξ ξ e=>e) tk).app (.cons (rw.mono (fun ξ ξ e=>e) tk) .nil)
   | gap n pre suf =>
    refine ct fun ng=>?_
    obtain ⟨hn,h4⟩:=av h3
    injection h4 with h4 h5
    subst h4 h5
    obtain ⟨l,mm,r,tl,t,lm,lt,rp,rq⟩:=ob.gapI
    obtain ⟨rfl,ll⟩:=lt hn
    rw [List.append_nil] at t
    have t':=t
    obtain ⟨m,t⟩:=t
    have b1:=ρk.hi 1
    have b3:hi 1=3:=rfl
    have hz:(l++mm++r).length≤16777216:=by
     rw [List.length_append,List.length_append,← rp.length,← rq.length]
     omega
    refine ng ?_
    refine call_meets F.slot_list_append (tyL t') F.entry_list_append (F.args_list_append_2 _ _) (list_append ad _ m y (by rw [List.size_toArray,szl];exact hz)) ⟨t,?_⟩
    refine PE.write R e1 z' (fh rfl) (Heap.SameBut.update ..) (fun tk=>.gap l mm (r++[y]) [] ?_ lm (fun ξ=>⟨rfl,?_⟩) (rp.mono (fun ξ ξ e=>e) tk) ?_) (fun ξ=>.none)
    ·have:=t.update (·.push y)
     rw [List.push_toArray,List.append_assoc] at this
     rw [List.append_nil]
     exact ⟨_,this⟩
    ·rw [cF,List.length_append,ll];rfl
    ·rw [cF];exact (rq.mono (fun ξ ξ e=>e) tk).app (.cons (rw.mono (fun ξ ξ e=>e) tk) .nil)
   | plst=>injection h3
   | emp=>injection h3
   | idct=>injection h3
   | sdct=>injection h3
   | kdct=>injection h3
   | inst=>injection h3
   | bag=>injection h3
 | extend =>
   obtain ⟨w,rfl⟩:∃ w,args=[w]:=by rcases args with _ | ⟨w,_ | ⟨_,_⟩⟩<;>first | exact ⟨_,rfl⟩ | injection h
   refine ct fun ng=>?_
   obtain ⟨y,rfl,rw⟩:=rs.o1
   obtain ⟨g,rfl,h1⟩:=aB h reN
   obtain ⟨wf,n,vs,e1,h2⟩:=aF h1 reN
   obtain ⟨g',rfl,h3⟩:=aB h2 reN
   obtain ⟨wf',n',ws,e2,h4⟩:=aF h3 reN
   obtain ⟨hn,h5⟩:=av h4
   have hn:n+n'≤100000:=hn
   obtain ⟨rfl,h6⟩:=ac h5 reN
   injection h6 with h6 h7
   subst h6 h7
   obtain ⟨p,i,ob⟩:=R.obs _ _ _ e1
   obtain ⟨p',i',ob'⟩:=R.obs _ _ _ e2
   obtain ⟨ad,dd,rfl,z'⟩:=ra.refI
   refine ng ?_
   rw [z'] at i;obtain rfl:=Option.some.inj i
   obtain ⟨ad',dd',rfl,zz⟩:=rw.refI
   rw [zz] at i';obtain rfl:=Option.some.inj i'
   refine ct fun ng=>?_
   obtain ⟨items,t,l,r⟩:=ob.lstI
   obtain ⟨items',tb,l',r'⟩:=ob'.lstI
   have t':=t
   obtain ⟨m,t⟩:=t
   obtain ⟨m',tb⟩:=tb
   have hs:items.toArray.size+items'.toArray.size=n+n':=by rw [List.size_toArray,List.size_toArray,← r.length,← r'.length,l,l']
   refine ng ?_
   refine call_meets F.slot_list_extend (tyL t') F.entry_list_extend (F.args_list_extend_2 _ _) (AutoSeq1.list_extend_list_list_0 ad items.toArray m ad' items'.toArray m' ?_ (by rw [szl];omega) (by rw [szl];omega)) ⟨t,tb,?_⟩
   ·rw [Bool.and_eq_true]
    rintro ⟨_,c⟩
    revert c
    unfold Builtin.List.listTooLong
    intro c
    have:=of_decide_eq_true c
    rw [szl] at this
    omega
   ·refine PE.write R e1 z' (fh rfl) (Heap.SameBut.update ..) (fun tk=>.lst (items++items') ?_ ?_ ?_) (fun ξ=>.none)
    ·have:=t.update (fun xs=>xs++items'.toArray)
     rw [List.append_toArray] at this
     exact ⟨_,this⟩
    ·rw [cF,List.length_append,l,l'];rfl
    ·rw [cF];exact (r.mono (fun ξ ξ e=>e) tk).app (r'.mono (fun ξ ξ e=>e) tk)
 | pop =>
   obtain rfl:args=[]:=by rcases args with _ | ⟨w,_⟩<;>first | exact rfl | injection h
   refine ct fun ng=>?_
   obtain rfl:=rs.n1
   obtain ⟨g,rfl,h1⟩:=aB h reN
   obtain ⟨wf,n,vs,e1,h2⟩:=aF h1 reN
   obtain ⟨rfl,h3⟩:=ac h2 reN
   obtain ⟨hn,h4⟩:=av h3
   obtain ⟨hu,h5⟩:=bk h4 reN
   injection h5 with h5 h6
   subst h5 h6
   obtain ⟨p,i,ob⟩:=R.obs _ _ _ e1
   obtain ⟨ad,dd,rfl,z'⟩:=ra.refI
   refine ng ?_
   rw [z'] at i;obtain rfl:=Option.some.inj i
   refine ct fun ng=>?_
   obtain ⟨items,t,l,r⟩:=ob.lstI
   have t':=t
   obtain ⟨m,t⟩:=t
   have hl:=jO vs hu
   rw [List.getLast?_eq_getElem?] at hl
   obtain ⟨y,ey,ry⟩:=r.at hl
   refine ng ?_
   have ey':items.toArray[items.toArray.size - 1]?=some y:=by rw [List.size_toArray,← r.length,List.getElem?_toArray];exact ey
   refine call_meets F.slot_list_pop (tyL t') F.entry_list_pop (F.args_list_pop_1 _) (MeetsSeq.list_pop_last ad items.toArray m y ey' (by rw [List.size_toArray,← r.length,← l,szl];omega)) ⟨t,?_⟩
   refine PE.write R e1 z' (fh rfl) (Heap.SameBut.update ..) (fun tk=>.lst items.dropLast ?_ ?_ ?_) (fun tk=>ry.mono (fun ξ ξ e=>e) tk)
   ·have:=t.update (fun xs=>xs.eraseIdxIfInBounds (items.toArray.size - 1))
    have q:items.toArray.eraseIdxIfInBounds (items.toArray.size - 1)=items.dropLast.toArray:=by
     rw [List.size_toArray,List.eraseIdxIfInBounds_toArray,gT]
    rw [q] at this
    exact ⟨_,this⟩
   ·rw [iU,List.length_dropLast,l];rfl
   ·rw [iU];exact F2.dropLast (r.mono (fun ξ ξ e=>e) tk)
 | get =>
  rcases args with _ | ⟨w,_ | ⟨d,_ | ⟨_,_⟩⟩⟩
  ·injection h
  ·obtain ⟨y,rfl,rw⟩:=rs.o1
   obtain ⟨val,⟨n,_,g⟩,r,rfl⟩:=iw k hu R ra rw .none h
   exact g _ _ (PE.same R r)
  ·refine ct fun ng=>?_
   obtain ⟨y,dv,rfl,rw,rd⟩:=rs.o2
   obtain ⟨val,⟨n,g,_⟩,r,rfl⟩:=iw k hu R ra rw rd h
   refine ng ?_
   exact g _ _ _ (PE.same R r)
  ·injection h
end
end Gh
end
section
namespace Gh
open PySem PyProof.Rows PySem.W PySem.SeqAt
section
variable {C:Cx} {ι:Im} {σ σ':St} {A:Around} {s:Shared} {E:Value→Shared→Prop} {a b v:V} {x y z:Value}
theorem iV {args:List V} {k:V→RE} {r:RE} (h:one args k=r) (hr:RE.fail≠r):∃ x,args=[x]∧k x=r:=by
 match args with
 | []=>exact absurd h hr
 | [x]=>exact ⟨x,rfl,h⟩
 | _ :: _ :: _=>exact absurd h hr
theorem nu (k:CxOk C) (R:SR C ι σ s.heap) (ra:VR C ι s.heap a x)
  (h:aQ a (aC a RE.fail fun g=>obj (at_ σ.h g) .fail fun ξ o=>@O.rec (fun ξ=>RE) (fun n ξ=>bz n (.ok (.int (Int.ofNat n) 0) σ)) (fun n ξ ξ=>bz n (.ok (.int (Int.ofNat n) 1) σ))
   (fun ξ=>.fail) .fail (fun ξ ξ ξ=>.fail) (fun ξ ξ=>.fail) (fun ξ ξ ξ=>.fail) (fun ξ ξ=>.fail) (fun ξ=>.fail) o) (fun vs=>bz (len vs) (.ok (.int (Int.ofNat (len vs)) 0) σ))=.ok v σ') :
  wpAny (model C.prog C.w) A (call (.builtin "len") [x]) (PE C ι σ s σ' v) E s:=by
 have ρk:=k.toRhoOk
 have b1:=ρk.hi 1
 have b3:hi 1=3:=rfl
 cases ra with
 | tup t l f =>
  obtain ⟨hb,h⟩:=av h
  injection h with h1 h2
  subst h1 h2
  rw [cQ,l] at hb
  refine PyProof.Rows.len_tuple t.tup (by rw [List.size_toArray];omega) (PE.same R (.int ?_))
  rw [ρk.zero,Int.add_zero,cQ,l,List.size_toArray];rfl
 | @ref g ad dd z' =>
  obtain ⟨w',o,e1,h2⟩:=bW (α:=RE) h reN
  obtain ⟨p,i,ob⟩:=R.obs _ _ _ e1
  rw [z'] at i;obtain rfl:=Option.some.inj i
  cases ob with
  | lst items t l r =>
   obtain ⟨hb,h3⟩:=av h2
   injection h3 with h4 h5
   subst h4 h5
   obtain ⟨m,t⟩:=t
   rw [l,r.length] at hb
   refine PyProof.Rows.len_list t.isList (by rw [List.size_toArray];omega) (PE.same R (.int ?_))
   rw [ρk.zero,Int.add_zero,l,r.length,List.size_toArray];rfl
  | gap l m r tl t lm lt rp rq =>
   obtain ⟨hb,h3⟩:=av h2
   obtain ⟨rfl,ll⟩:=lt hb
   rw [List.append_nil] at t
   injection h3 with h4 h5
   subst h4 h5
   obtain ⟨m',t⟩:=t
   have e:(l++m++r).length=l.length+m.length+r.length:=by rw [List.length_append,List.length_append]
   have e2:=rp.length
   have e3:=rq.length
   refine PyProof.Rows.len_list t.isList (by rw [List.size_toArray,e];omega) (PE.same R (.int ?_))
   rw [List.size_toArray,e,← lm]
   show _=(_:Int)+_
   rw [Int.ofNat_eq_natCast]
   omega
  | plst=>injection h2
  | emp=>injection h2
  | idct=>injection h2
  | sdct=>injection h2
  | kdct=>injection h2
  | inst=>injection h2
  | bag=>injection h2
 | none=>injection h
 | bool=>injection h
 | int=>injection h
 | str=>injection h
 | anyStr=>injection h
 | gd=>injection h
 | fn=>injection h
 | cls=>injection h
 | bi=>injection h
end
end Gh
end
section
namespace Gh
open PySem PyProof.Rows PySem.W PySem.SeqAt
theorem mW:∀ n:Nat,n≤200→(Str.ofString (toString (n:Int))).length≤20:=by
 intro n hn
 have h:((List.range 201).all fun n=>decide ((Str.ofString (toString (n:Int))).length≤20))=true:=by decide +kernel
 have:=List.all_eq_true.mp h n (List.mem_range.mpr (by omega))
 exact of_decide_eq_true this
section
variable {C:Cx} {ι:Im} {σ σ':St} {A:Around} {s:Shared} {E:Value→Shared→Prop} {a b v:V} {x y z:Value}
theorem jy (R:SR C ι σ s.heap) (ra:VR C ι s.heap a x)
  (h:aQ a (aC a RE.fail fun g=>aS (at_ σ.h g) .fail fun ξ n vs=>bz n (.ok (.tup vs) σ)) (fun vs=>.ok (.tup vs) σ)=.ok v σ') :
  wpAny (model C.prog C.w) A (call (.type "tuple") [x]) (PE C ι σ s σ' v) E s:=by
 cases ra with
 | tup t l f =>
  injection h with h1 h2
  subst h1 h2
  exact call_tuple_tup t.tup (PE.here R (.tup t l f))
 | @ref g ad dd z' =>
  refine ct fun ng=>?_
  obtain ⟨w',n,vs,e1,h2⟩:=aF (α:=RE) h reN
  obtain ⟨hb,h3⟩:=av h2
  injection h3 with h4 h5
  subst h4 h5
  obtain ⟨p,i,ob⟩:=R.obs _ _ _ e1
  refine ng ?_
  rw [z'] at i;obtain rfl:=Option.some.inj i
  refine ct fun ng=>?_
  obtain ⟨items,t,l,r⟩:=ob.lstI
  obtain ⟨m,t⟩:=t
  refine ng ?_
  refine call_tuple_list t.isList (fun h' hk=>?_) (by rw [List.size_toArray,← r.length,← l,szl];omega)
  exact PE.tup R (fun b o e=>ag _ _ b o (hk b o e)) (jH _ _) r
 | none=>injection h
 | bool=>injection h
 | int=>injection h
 | str=>injection h
 | anyStr=>injection h
 | gd=>injection h
 | fn=>injection h
 | cls=>injection h
 | bi=>injection h
theorem mV (k:CxOk C) (R:SR C ι σ s.heap) (ra:VR C ι s.heap a x) (h:a6 a RE.fail (fun n=>@Bool.rec (fun ξ=>RE) .fail (.ok (.anyStr 20) σ) (Nat.ble n 200))=.ok v σ') :
  wpAny (model C.prog C.w) A (call (.type "str") [x]) (PE C ι σ s σ' v) E s:=by
 obtain ⟨n,rfl,h1⟩:=au h reN
 obtain ⟨hn,h2⟩:=ac h1 reN
 injection h2 with h4 h5
 subst h4 h5
 have hn:n≤200:=natble.mp hn
 obtain ⟨_,_,rfl,z⟩:=ra.intI
 rw [k.zero,Int.add_zero] at z
 subst z
 refine PySem.P.str_of_int ?_ (PE.same R (.anyStr (mW n hn)))
 show n.log2 < 1920
 have:n.log2≤n:=Nat.log2_le_self n
 omega
theorem iu (R:SR C ι σ s.heap) (ra:VR C ι s.heap a x) {i:Nat} (hi:i=6∨i=4)
  (h:am a (bG a RE.fail fun ξ=>.ok (.bool (Nat.beq i 4)) σ) (fun ξ ξ=>.ok (.bool (Nat.beq i 6)) σ)=.ok v σ') :
  wpAny (model C.prog C.w) A (call (.builtin "isinstance") [x,biV i]) (PE C ι σ s σ' v) E s:=by
 cases ra with
 | int z =>
  injection h with h4 h5
  subst h4 h5
  rcases hi with rfl | rfl
  ·exact IsiPair.int_int (PE.here R .bool)
  ·exact IsiPair.int_str (PE.same R .bool)
 | str z =>
  injection h with h4 h5
  subst h4 h5
  rcases hi with rfl | rfl
  ·exact IsiPair.str_int (PE.same R .bool)
  ·exact IsiPair.str_str (PE.here R .bool)
 | tup=>injection h
 | ref=>injection h
 | none=>injection h
 | bool=>injection h
 | anyStr=>injection h
 | gd=>injection h
 | fn=>injection h
 | cls=>injection h
 | bi=>injection h
end
end Gh
end
section
namespace Gh
open PySem PyProof.Rows PySem.W PySem.SeqAt
theorem bf {b:Bool} (h:b=false):decide (b=true)=false:=by subst h;rfl
theorem fj:fillsNumberSlot (.type "tuple") "mul"=pure false :=
 PySem.fillsNumberSlot_seq (id:="tuple.__mul__") (r:=some (.builtin "tuple.__rmul__")) F.slot_tuple_mul.lookup (by decide +kernel) F.slot_tuple_rmul.lookup (by decide +kernel)
theorem iQ:seqRepeat? (.type "tuple")=pure (some (.builtin "tuple.__mul__")):=by
 unfold seqRepeat?
 rw [PySem.seqSlot_of (T:="tuple") (name:="__mul__") (id:="tuple.__mul__") F.slot_tuple_mul.lookup (by decide +kernel),PySem.seqSlot_of (T:="tuple") (name:="__rmul__") (id:="tuple.__rmul__") F.slot_tuple_rmul.lookup (by decide +kernel)]
 rfl
theorem gP (a:Int) (t:Tok) (l:Addr) (items:Array Value) (n:Nat) (d:Option Addr) (sl:Array (Option Value)) :
  Meets (Builtin.«int.__rmul__» ⟨[.int a t,.ref l],[]⟩) (fun ξ R s=>s.heap.get? l=some { cls:=.type "tuple",dict:=d,data:=.seq items n,slots:=sl }∧R (.ok (.ret Value.notImplemented)) s) :=
 .of_wp fun prog w A R s h=>by obtain ⟨hp,g,d,tk,os⟩:=s;obtain ⟨hl,h⟩:=h;wp_walk;exact ⟨_,rfl,h⟩
theorem qp (l:Addr) (items:Array Value) (n:Nat) (x:Int) (u:Tok) (hx:x=0) (hi:items.isEmpty=false) :
  Meets (Builtin.«tuple.__mul__» ⟨[.ref l,.int x u],[]⟩) (fun ξ R s=>s.heap.get? l=some { cls:=.type "tuple",data:=.seq items n }∧R (.ok (.ret (Value.ref s.heap.objs.size))) { s with heap:=s.heap.push { cls:=Value.type "tuple",data:=.seq #[] } }) :=
 .of_wp fun prog w A R s h=>by
  obtain ⟨hp,g,d,tk,os⟩:=s;obtain ⟨hl,h⟩:=h
  subst hx
  wp_walk
  exact ⟨_,rfl,h⟩
theorem qo (l:Addr) (items:Array Value) (n:Nat) (x:Int) (u:Tok) (hx:x=1) :
  Meets (Builtin.«tuple.__mul__» ⟨[.ref l,.int x u],[]⟩) (fun ξ R s=>s.heap.get? l=some { cls:=.type "tuple",data:=.seq items n }∧R (.ok (.ret (Value.ref l))) s) :=
 .of_wp fun prog w A R s h=>by
  obtain ⟨hp,g,d,tk,os⟩:=s;obtain ⟨hl,h⟩:=h
  subst hx
  wp_walk
  exact ⟨_,rfl,h⟩
theorem sT (l:Addr) (items:Array Value) (n:Nat) (x:Int) (u:Tok) (h2:2≤x) (h3:x≤100000) (hi:items.isEmpty=false) (hz:items.size * x.toNat≤100000) :
  Meets (Builtin.«tuple.__mul__» ⟨[.ref l,.int x u],[]⟩) (fun ξ R s=>s.heap.get? l=some { cls:=.type "tuple",data:=.seq items n }∧R (.ok (.ret (Value.ref s.heap.objs.size))) { s with heap:=s.heap.push { cls:=Value.type "tuple",data:=.seq ((List.replicate x.toNat items).foldl (·++·) #[]) } }) :=
 .of_wp fun prog w A R s h=>by
  obtain ⟨hp,g,d,tk,os⟩:=s;obtain ⟨hl,h⟩:=h
  have c0:(decide (x < -2 ^ 63)||decide (x ≥ 2 ^ 63))=false:=by simp;omega
  have c1:(decide (x≤0)||items.isEmpty)=false:=by rw [hi];simp;omega
  have c2:(items.isEmpty||x==1)=false:=by rw [hi];simp;omega
  have e0:((items.size:Int) * x)=((items.size * x.toNat:Nat):Int):=by
   have:x=(x.toNat:Int):=by omega
   rw [Int.natCast_mul,← this]
  have c3:¬ ((items.size:Int) * x > (2 ^ 63 - 1) / 8):=by rw [e0];omega
  have c4:Builtin.Tuple.tupleTooMany ((items.size:Int) * x)=false:=by
   rw [e0];unfold Builtin.Tuple.tupleTooMany;rw [szl];exact decide_eq_false (by omega)
  wp_walk
  refine wpAny_ite_false (bf c0) ?_
  wp_walk
  refine wpAny_ite_false (bf c2) ?_
  wp_walk
  refine wpAny_ite_false (bf c1) ?_
  wp_walk
  refine wpAny_ite_false (decide_eq_false c3) ?_
  wp_walk
  refine wpAny_ite_false (bf c4) ?_
  wp_walk
  have c5:¬ (List.foldl (fun x1 x2=>x1++x2) #[] (List.replicate x.toNat items)).size > sizeLine:=by
   rw [listMul_foldl,List.nil_append,List.size_toArray,lm_len_rep_flat,szl,Array.length_toList,Nat.mul_comm];omega
  refine wpAny_ite_false (decide_eq_false c5) ?_
  wp_walk
  exact ⟨_,rfl,h⟩
section
variable {C:Cx} {ι:Im} {σ σ':St} {A:Around} {s:Shared} {E:Value→Shared→Prop} {a b v:V} {x y z:Value}
theorem qz {l:Addr} {vs:List Value} {m:Nat} {x:Int} {u:Tok} {Q:Value→Shared→Prop} (hl:IsL s.heap l vs.toArray m) (h0:0≤x) (hsz:vs.length * x.toNat≤100000) (hx:x≤100000)
  (h:Q (.ref s.heap.objs.size) { s with heap:=s.heap.push { cls:=.type "list",data:=.seq (List.replicate x.toNat vs).flatten.toArray } }):wpAny (model C.prog C.w) A (binaryOp .Mult (.ref l) (.int x u)) Q E s:=by
 have ho:=hl
 have hsz':vs.toArray.size * x.toNat≤100000:=by simpa using hsz
 refine wpAny_binaryOp_repeat_ref (T:="list") (U:="int") (by decide) ⟨_,ho,rfl⟩ (fun s'=>typeIs_int s' x u) noFill_list_mul F.fills_int_mul F.slot_int_rmul repeat_list F.slot_int_index.lookup
  (call_meets F.slot_int_rmul (typeIs_int s x u) F.entry_int_rmul (F.args_int_rmul_2 _ _) (lm_int_rmul_list_any x u l vs.toArray m none #[])
   ⟨ho,rfl,⟨_,ho,rfl⟩,call_meets F.slot_list_mul ⟨_,ho,rfl⟩ F.entry_list_mul (F.args_list_mul_2 _ _)
    (lm_list_mul_any l vs.toArray m none #[] x u (by simp [Builtin.List.listFitsIndex];omega) (by omega) (by simp [Builtin.List.listTooLong,sizeLine];omega))
    ⟨ho,?_⟩⟩)
 rw [listMul_foldl_if]
 exact h
theorem kE (n:Nat) (l:List V):rep n l=(List.replicate n l).flatten:=by
 induction n with
 | zero=>rfl
 | succ n ih=>show app l (rep n l)=_;rw [cF,ih,List.replicate_succ,List.flatten_cons]
theorem F2.rep {α β:Type} {R:α→β→Prop} {l:List α} {m:List β} (f:F2 R l m):∀ n,F2 R (List.replicate n l).flatten (List.replicate n m).flatten
 | 0=>.nil
 | n+1=>by rw [List.replicate_succ,List.replicate_succ,List.flatten_cons,List.flatten_cons];exact f.app (f.rep n)
theorem oF {l:Addr} {vs:List Value} {m:Nat} {x:Int} {u:Tok} {Q:Value→Shared→Prop} (hl:s.heap.get? l=some { cls:=.type "tuple",data:=.seq vs.toArray m }) (h0:0≤x) (hx:x≤100000) (hsz:vs.length * x.toNat≤100000) (hi:vs≠[])
  (h1:x=1→Q (.ref l) s) (h:Q (.ref s.heap.objs.size) { s with heap:=s.heap.push { cls:=.type "tuple",data:=.seq (List.replicate x.toNat vs).flatten.toArray } }):wpAny (model C.prog C.w) A (binaryOp .Mult (.ref l) (.int x u)) Q E s:=by
 have hi':vs.toArray.isEmpty=false:=by cases vs<;>first | exact absurd rfl hi | rfl
 have go:∀ {Q':Value→Shared→Prop},wpAny (model C.prog C.w) A (call (.builtin "tuple.__mul__") [.ref l,.int x u]) Q' E s→wpAny (model C.prog C.w) A (binaryOp .Mult (.ref l) (.int x u)) Q' E s:=fun hc =>
  wpAny_binaryOp_repeat_ref (T:="tuple") (U:="int") (by decide) ⟨_,hl,rfl⟩ (fun s'=>typeIs_int s' x u) fj F.fills_int_mul F.slot_int_rmul iQ F.slot_int_index.lookup
   (call_meets F.slot_int_rmul (typeIs_int s x u) F.entry_int_rmul (F.args_int_rmul_2 _ _) (gP x u l vs.toArray m none #[]) ⟨hl,rfl,⟨_,hl,rfl⟩,hc⟩)
 by_cases c1:x=1
 ·exact go (call_meets F.slot_tuple_mul ⟨_,hl,rfl⟩ F.entry_tuple_mul (F.args_tuple_mul_2 _ _) (qo l vs.toArray m x u c1) ⟨hl,h1 c1⟩)
 ·by_cases c0:x=0
  ·refine go (call_meets F.slot_tuple_mul ⟨_,hl,rfl⟩ F.entry_tuple_mul (F.args_tuple_mul_2 _ _) (qp l vs.toArray m x u c0 hi') ⟨hl,?_⟩)
   subst c0
   exact h
  ·refine go (call_meets F.slot_tuple_mul ⟨_,hl,rfl⟩ F.entry_tuple_mul (F.args_tuple_mul_2 _ _) (sT l vs.toArray m x u (by omega) hx hi' (by simpa using hsz)) ⟨hl,?_⟩)
   rw [listMul_foldl,List.nil_append]
   exact h
end
end Gh
end
section
namespace Gh
open PySem PyProof.Rows PySem.W PySem.SeqAt
section
variable {C:Cx} {ι:Im} {σ σ':St} {A:Around} {s:Shared} {E:Value→Shared→Prop} {a b v:V} {x y z:Value}
theorem nP {v:V} {d r:RE} {k:Nat→RE} (h:sg v d k=r) (hd:d≠r):∃ i,v=.anyStr i∧k i=r:=by
 cases v<;>first | exact ⟨_,rfl,h⟩ | exact absurd h hd
theorem jt {op:BO} (h:op.isAdd=true):op=.add:=by cases op<;>first | rfl | injection h
theorem lM {op:BO} (h:op.isMul=true):op=.mul:=by cases op<;>first | rfl | injection h
theorem kY (k:CxOk C) {op:BO} (R:SR C ι σ s.heap) (ra:VR C ι s.heap a x) (rb:VR C ι s.heap b y) (h:wn op a b σ=.ok v σ') :
  wpAny (model C.prog C.w) A (binaryOp (m7 op) x y) (PE C ι σ s σ' v) E s:=by
 cases ra with
 | @str i sx _ z =>
  obtain ⟨ho,h1⟩:=ac h reN
  obtain rfl:=jt ho
  obtain ⟨j,rfl,h2⟩:=nP h1 reN
  obtain ⟨b1,h3⟩:=av h2
  obtain ⟨b2,h4⟩:=av h3
  injection h4 with h5 h6
  subst h5 h6
  obtain ⟨sy,_,rfl,hl⟩:=rb.anyStrI
  have hz:sx.length≤i+200:=by rw [z];exact k.nm.len i
  refine PyProof.Rows.add_str (fun t' tk=>PE.same R (.anyStr ?_)) (by rw [szl];omega)
  rw [PySem.Str.length_append]
  show _≤j+200000
  omega
 | @tup vs ad items t l f =>
  obtain ⟨ho,h1⟩:=ac h reN
  obtain rfl:=lM ho
  obtain ⟨n,rfl,h2⟩:=au h1 reN
  obtain ⟨b1,h3⟩:=av h2
  obtain ⟨b2,h4⟩:=av h3
  have fl:=F2.of_get l f
  rw [cQ] at b2
  have b2:n * vs.length≤100000:=b2
  obtain ⟨m,tm,rfl,z⟩:=rb.intI
  rw [k.zero,Int.add_zero] at z
  subst z
  obtain ⟨mm,t⟩:=t
  have hv:vs≠[]:=by rintro rfl;injection h4
  have h5:RE.ok (.tup (rep n vs)) σ=.ok v σ':=by
   cases vs with
   | nil=>exact absurd rfl hv
   | cons a l=>exact h4
  injection h5 with h5 h6
  subst h5 h6
  have hi:items≠[]:=by rintro rfl;exact hv (List.eq_nil_of_length_eq_zero l)
  refine oF t (Int.natCast_nonneg n) (by show (n:Int)≤_;omega) (by show items.length * n≤_;rw [← l,Nat.mul_comm];exact b2) hi (fun e=>?_) ?_
  ·have:n=1:=by have:(n:Int)=1:=e;omega
   subst this
   refine PE.here R ?_
   rw [kE,List.replicate_succ,List.replicate_zero,List.flatten_cons,List.flatten_nil,List.append_nil]
   exact .tup ⟨mm,t⟩ l f
  ·rw [kE]
   exact PE.newTup R (fl.rep n)
 | @ref g ad dd z' =>
  obtain ⟨w',m,vs,e1,h2⟩:=aF h reN
  obtain ⟨p,i,ob⟩:=R.obs _ _ _ e1
  rw [z'] at i;obtain rfl:=Option.some.inj i
  obtain ⟨items,t,l,r⟩:=ob.lstI
  obtain ⟨mm,t⟩:=t
  by_cases ha:op.isAdd=true
  ·rw [ha] at h2
   refine ct fun ng=>?_
   obtain rfl:=jt ha
   obtain ⟨g',rfl,h3⟩:=aB h2 reN
   obtain ⟨w'',m',ws,e2,h4⟩:=aF h3 reN
   obtain ⟨hb,h5⟩:=av h4
   obtain ⟨p',i',ob'⟩:=R.obs _ _ _ e2
   obtain ⟨_,_,rfl,zz⟩:=rb.refI
   refine ng ?_
   rw [zz] at i';obtain rfl:=Option.some.inj i'
   refine ct fun ng=>?_
   obtain ⟨items',tb,l',r'⟩:=ob'.lstI
   obtain ⟨m2,tb⟩:=tb
   have hb:m+m'≤100000:=hb
   refine ng ?_
   refine PySem.P.add_list t tb ?_ (by rw [List.size_toArray,List.size_toArray,← r.length,← r'.length,← l,← l',szl];omega)
   rw [List.append_toArray]
   refine PE.newList R (r.app r') ?_ (cF vs ws▸h5)
   rw [List.length_append,l,l'];rfl
  ·rw [Bool.not_eq_true] at ha
   rw [ha] at h2
   refine ct fun ng=>?_
   obtain ⟨hm,h3⟩:=ac h2 reN
   obtain rfl:=lM hm
   obtain ⟨n,rfl,h4⟩:=au h3 reN
   obtain ⟨b1,h5⟩:=av h4
   obtain ⟨b2,h6⟩:=av h5
   have b2:n * m≤100000:=b2
   obtain ⟨m2,tm,rfl,z⟩:=rb.intI
   rw [k.zero,Int.add_zero] at z
   subst z
   refine ng ?_
   refine qz t (Int.natCast_nonneg n) (by show items.length * n≤_;rw [← r.length,← l,Nat.mul_comm];exact b2) (by show (n:Int)≤_;omega) ?_
   refine PE.newList R (r.rep n) ?_ (kE n vs▸h6)
   rw [lm_len_rep_flat,l];rfl
 | none=>injection h
 | bool=>injection h
 | int=>injection h
 | anyStr=>injection h
 | gd=>injection h
 | fn=>injection h
 | cls=>injection h
 | bi=>injection h
theorem j6 (k:CxOk C) {op:BO} (R:SR C ι σ s.heap) (ra:VR C ι s.heap a x) (rb:VR C ι s.heap b y) (h:r8 op a b σ=.ok v σ') :
  wpAny (model C.prog C.w) A (binaryOp (m7 op) x y) (PE C ι σ s σ' v) E s:=by
 cases a with
 | int o s' =>
  change am b .fail (fun o' s''=>pJ op o s' o' s'' σ)=_ at h
  obtain ⟨o',s'',rfl,h1⟩:=ae h reN
  obtain ⟨_,_,rfl,e1⟩:=ra.intI
  obtain ⟨_,_,rfl,e2⟩:=rb.intI
  exact kZ k.toRhoOk R e1 e2 h1
 | _=>exact kY k R ra rb h
end
end Gh
end
section
namespace Gh
open PySem PyProof.Rows PySem.W PySem.SeqAt PySem.Calls
structure KOk (C:Cx):Prop extends CxOk C where
 inK:C.K.In C.h0
 cls:∀ c,plainGet C.K (C.ca c) ""=true∧hasDictIn C.K (C.ca c)=true∧findIn C.K (.ref (C.ca c)) "__setattr__"=some (some (.builtin "object.__setattr__"))∧plainOver C.K (C.ca c)=true
 fld:∀ c f,f∈flds→findIn C.K (.ref (C.ca c)) (gnm f)=some none
 meth:∀ c init ms f i,Tr.get .no c jn=.mk init ms→nt f ms=some i→findIn C.K (.ref (C.ca c)) (gnm f)=some (some (.ref (C.fa i)))∧isFn C.K (.ref (C.fa i))=true
 init:∀ c init ms,Tr.get .no c jn=.mk init ms→findIn C.K (.ref (C.ca c)) "__init__"=some (some (.ref (C.fa init)))∧isFn C.K (.ref (C.fa init))=true∧makesIn C.K (C.ca c)=true
section
variable {C:Cx} {ι ι':Im} {σ σ':St} {A:Around} {s:Shared} {E:Value→Shared→Prop} {a b v:V} {x y z:Value}
theorem nE (i:Nat):handedIn (biV i)=true:=by
 rcases i with _ | i
 ·first | rfl | decide +kernel
 rcases i with _ | i
 ·first | rfl | decide +kernel
 rcases i with _ | i
 ·first | rfl | decide +kernel
 rcases i with _ | i
 ·first | rfl | decide +kernel
 rcases i with _ | i
 ·first | rfl | decide +kernel
 rcases i with _ | i
 ·first | rfl | decide +kernel
 first | rfl | decide +kernel
theorem VR.handed {h:Heap} (r:VR C ι h a x):handedIn x=true:=by
 cases r with
 | bi=>exact nE _
 | _=>rfl
theorem gc {g:Ps} {ad d:Addr} {w:Bool} {c:Ps} {fs:List (Nat×V)} (R:SR C ι σ s.heap) (hg:ι g=some (ad,d)) (e:at_ σ.h g=.ob w (.inst c fs)) :
  ∃ es n,InstAt s.heap ad (instObj (C.ca c) d) (C.ca c) (some (dictOf es n))∧(es.length=fs.length∧∀ q∈fs,q.2≠.unb)∧(∀ f,aA f fs≠.unb→∃ x,getL (gnm f) es=some (some x)∧VR C ι s.heap (aA f fs) x)∧(∀ f,aA f fs=.unb→getL (gnm f) es=some none):=by
 obtain ⟨p,i,ob⟩:=R.obs _ _ _ e
 rw [hg] at i;obtain rfl:=Option.some.inj i
 refine ct fun ng=>?_
 obtain ⟨es,n,a,b,l,h1,h2⟩:=ob.instI
 refine ng ?_
 exact ⟨es,n,⟨a,rfl,rfl,b⟩,l,h1,h2⟩
theorem ld (k:KOk C) (R:SR C ι σ s.heap) {g:Ps} {w:Bool} {c:Ps} {fs:List (Nat×V)} {f:Nat} (ra:VR C ι s.heap (.ref g) x) (e:at_ σ.h g=.ob w (.inst c fs)) (hf:f∈flds) (hn:aA f fs≠.unb) :
  wpAny (model C.prog C.w) A (getAttr x (gnm f) true) (PE C ι σ s σ (aA f fs)) E s:=by
 refine ct fun ng=>?_
 obtain ⟨_,_,rfl,z⟩:=ra.refI
 obtain ⟨es,n,I,l,h1,h2⟩:=gc R z e
 obtain ⟨y,hy,ry⟩:=h1 f hn
 obtain ⟨k1,k2,k3,k4⟩:=k.cls c
 refine ng ?_
 exact get_value (k.inK.keeps R.base) I (plainGet_of k1).1 (findObj_own k2 (k.fld c f hf) rfl hy) ry.handed (PE.same R ry)
theorem oW {e:DictEntry} {n:Str} (h:e.key.isStr n=true):∃ t,e.key=.str n t:=by
 obtain ⟨hs,ky,vl⟩:=e
 cases ky with
 | str m t =>
  have:m=n:=beq_iff_eq.mp h
  exact ⟨t,by rw [this]⟩
 | _=>simp [Value.isStr] at h
theorem ij (m:Str) (hsh:Int) (t:Tok) (v:Value):∀ es:List DictEntry,(putL m hsh (.str m t) v es).any (·.refKey)=es.any (·.refKey)
 | []=>rfl
 | e :: r=>by
  have ih:=ij m hsh t v r
  unfold putL
  split
  ·rfl
  ·rw [List.any_cons,List.any_cons,ih]
theorem cM (m:Str) (hsh:Int) (t:Tok) (v:Value):∀ es:List DictEntry,∃ e,(putL m hsh (.str m t) v es).find? (·.key.isStr m)=some e∧e.val=v
 | []=>⟨⟨hsh,.str m t,v⟩,by rw [putL,List.find?_cons];simp [Value.isStr],rfl⟩
 | e :: r=>by
  unfold putL
  split
  ·rename_i c;exact ⟨⟨e.hash,e.key,v⟩,by rw [List.find?_cons];simp [c],rfl⟩
  ·rename_i c
   obtain ⟨e',a,b⟩:=cM m hsh t v r
   exact ⟨e',by rw [List.find?_cons];simp only [c];exact a,b⟩
theorem nF (m:Str) (hsh:Int) (t:Tok) (v:Value) (es:List DictEntry):getL m (putL m hsh (.str m t) v es)=some (some v):=by
 obtain ⟨e,a,b⟩:=cM m hsh t v es
 unfold getL
 rw [a]
 show some (some e.val)=_
 rw [b]
theorem eu {m n:Str} (hn:m≠n) (hsh:Int) (t:Tok) (v:Value):∀ es:List DictEntry,((putL m hsh (.str m t) v es).find? (·.key.isStr n)).map (·.val)=(es.find? (·.key.isStr n)).map (·.val)
 | []=>by
  rw [putL,List.find?_cons]
  have:(Value.str m t).isStr n=false:=beq_eq_false_iff_ne.mpr hn
  simp only [this]
 | e :: r=>by
  have ih:=eu hn hsh t v r
  unfold putL
  split
  ·rename_i c
   obtain ⟨t',c⟩:=oW c
   have:(Value.str m t').isStr n=false:=beq_eq_false_iff_ne.mpr hn
   rw [List.find?_cons,List.find?_cons]
   simp only [c,this]
  ·rename_i c
   rw [List.find?_cons,List.find?_cons]
   cases q:e.key.isStr n with
   | true=>rfl
   | false=>exact ih
theorem me {m n:Str} (hn:m≠n) (hsh:Int) (t:Tok) (v:Value) (es:List DictEntry):getL n (putL m hsh (.str m t) v es)=getL n es:=by
 have a:=eu hn hsh t v es
 have b:=ij m hsh t v es
 unfold getL
 rw [b]
 cases q:(putL m hsh (.str m t) v es).find? (·.key.isStr n) with
 | some e =>
  rw [q] at a
  cases q':es.find? (·.key.isStr n) with
  | some e'=>rw [q'] at a;injection a with a;simp only [a]
  | none=>rw [q'] at a;injection a
 | none =>
  rw [q] at a
  cases q':es.find? (·.key.isStr n) with
  | some e'=>rw [q'] at a;injection a
  | none=>rfl
theorem mh:∀ l:List (Nat×V),qJ l=l.length
 | []=>rfl
 | _ :: l=>congrArg Nat.succ (mh l)
theorem jW (f:Nat) (x:V):∀ l:List (Nat×V),(∀ p∈l,p.2≠.unb)→(aA f l=.unb∧(dN f x l).length=l.length+1)∨(aA f l≠.unb∧(dN f x l).length=l.length)
 | [],_=>.inl ⟨rfl,rfl⟩
 | p :: l,hl=>by
  have ih:=jW f x l (fun q hq=>hl q (List.mem_cons_of_mem _ hq))
  show (@Bool.rec (fun ξ=>V) (aA f l) p.2 (Nat.beq p.1 f)=_∧(@Bool.rec (fun ξ=>List (Nat×V)) (p :: dN f x l) ((p.1,x) :: l) (Nat.beq p.1 f)).length=_)∨(@Bool.rec (fun ξ=>V) (aA f l) p.2 (Nat.beq p.1 f)≠_∧(@Bool.rec (fun ξ=>List (Nat×V)) (p :: dN f x l) ((p.1,x) :: l) (Nat.beq p.1 f)).length=_)
  cases e:Nat.beq p.1 f with
  | true=>exact .inr ⟨hl p List.mem_cons_self,rfl⟩
  | false=>exact ih.imp (fun⟨a,b⟩=>⟨a,congrArg Nat.succ b⟩) (fun⟨a,b⟩=>⟨a,congrArg Nat.succ b⟩)
theorem jX (f:Nat) (x:V) (hx:x≠.unb):∀ l:List (Nat×V),(∀ p∈l,p.2≠.unb)→∀ p∈dN f x l,p.2≠.unb
 | [],_=>fun p hp=>by rcases List.mem_cons.mp hp with rfl | hp;exact hx;exact nomatch hp
 | q :: l,hl=>by
  have ih:=jX f x hx l (fun q hq=>hl q (List.mem_cons_of_mem _ hq))
  show ∀ p∈@Bool.rec (fun ξ=>List (Nat×V)) (q :: dN f x l) ((q.1,x) :: l) (Nat.beq q.1 f),_
  cases e:Nat.beq q.1 f with
  | true=>exact fun p hp=>by rcases List.mem_cons.mp hp with rfl | hp;exact hx;exact hl p (List.mem_cons_of_mem _ hp)
  | false=>exact fun p hp=>by rcases List.mem_cons.mp hp with rfl | hp;exact hl _ List.mem_cons_self;exact ih p hp
theorem jG (m:Str) (hsh:Int) (t:Tok) (v:Value):∀ es:List DictEntry,(es.find? (·.key.isStr m)=none∧(putL m hsh (.str m t) v es).length=es.length+1)∨(es.find? (·.key.isStr m)≠none∧(putL m hsh (.str m t) v es).length=es.length)
 | []=>.inl ⟨rfl,rfl⟩
 | e :: r=>by
  have ih:=jG m hsh t v r
  rw [List.find?_cons]
  unfold putL
  cases c:e.key.isStr m with
  | true=>exact .inr ⟨nofun,rfl⟩
  | false=>exact ih.imp (fun⟨a,b⟩=>⟨a,congrArg Nat.succ b⟩) (fun⟨a,b⟩=>⟨a,congrArg Nat.succ b⟩)
theorem VR.not_unb {h:Heap} (r:VR C ι h a x):a≠.unb:=by rintro rfl;exact nomatch r
theorem nG {m:Str} {es:List DictEntry} {o:Option Value} (h:getL m es=some o):(es.find? (·.key.isStr m)=none↔o=none):=by
 unfold getL at h
 cases q:es.find? (·.key.isStr m) with
 | some e=>rw [q] at h;injection h with h;subst h;exact ⟨nofun,nofun⟩
 | none =>
  rw [q] at h
  simp only at h
  split at h
  ·injection h
  ·injection h with h;subst h;exact ⟨fun ξ=>rfl,fun ξ=>rfl⟩
set_option tactic.hygienic true in
theorem hE (k:KOk C) (R:SR C ι σ s.heap) {g:Ps} {c:Ps} {fs:List (Nat×V)} {f:Nat} (ra:VR C ι s.heap (.ref g) x) (rv:VR C ι s.heap v y) (e:at_ σ.h g=.ob true (.inst c fs)) (hf:f∈flds) (hl:qJ fs≤200) :
  wpAny (model C.prog C.w) A (setAttr x (gnm f) y) (PU C ι σ s (upd σ g (.inst c (dN f v fs)))) E s:=by
 refine ct fun ng=>?_
 obtain ⟨ad,dx,rfl,z⟩:=ra.refI
 obtain ⟨es,n,I,⟨l,lu⟩,h1,h2⟩:=gc R z e
 obtain ⟨k1,k2,k3,k4⟩:=k.cls c
 have X:=k.inK.keeps R.base
 refine ng ?_
 have ht:takerIn C.K (C.ca c) (gnm f)=some none:=by unfold takerIn;rw [k.fld c f hf];rfl
 refine set_plain X I k3 ?_
 refine osa_open (s:={ s with toks:=s.toks+1 }) X I k4 ht fun b=>?_
 obtain ⟨cd,hc,hd'⟩:=any_some k2
 have hx:=I.at_
 have D:s.heap.get? dx=some (dictOf es n):=I.dict
 have hgl:∃ o,getL (gnm f) es=some o:=by
  by_cases q:aA f fs=.unb
  ·exact ⟨_,h2 f q⟩
  ·obtain ⟨y,e,_⟩:=h1 f q;exact ⟨_,e⟩
 obtain ⟨o,hgl⟩:=hgl
 refine wpAny_bind (wpAny_pure (wpAny_bind (wpAny_bind (wpAny_loadPart hx (wpAny_bind (Looks.here (s:={ s with toks:=s.toks+1 }) (looks_clsIn X hc) ?_))))))
 rw [hd']
 refine wpAny_pure (a:=some dx) (wpAny_bind (wpAny_pure (wpAny_bind ?_)))
 unfold nsSet
 refine wpAny_bind (wpAny_bind (wpAny_askSetting (wpAny_pure (wpAny_bind (wpAny_mkText (wpAny_bind (wpAny_loadPart D ?_)))))))
 dsimp only
 have cc:(!es.toArray.any (·.key.isStr (gnm f))&&es.toArray.any (·.refKey))=false:=by
  rw [List.any_toArray,List.any_toArray]
  unfold getL at hgl
  split at hgl
  ·rename_i en he
   rw [List.any_eq_true.mpr ⟨en,List.mem_of_find?_eq_some he,List.find?_some he⟩];rfl
  ·split at hgl
   ·cases hgl
   ·rename_i z;rw [Bool.not_eq_true] at z;rw [z,Bool.and_false]
 rw [aRefKeyMayBeTheName_at,cc]
 refine wpAny_updatePart D ?_
 have D':=Heap.get?_update_self (Obj.putName (gnm f) (PyData.keyHash C.w.params (gnm f)) (.str (gnm f) (s.toks+1)) y) D (by rw [putName_dict];rfl)
 rw [putName_dict] at D'
 have sb:=Heap.SameBut.update s.heap dx (Obj.putName (gnm f) (PyData.keyHash C.w.params (gnm f)) (.str (gnm f) (s.toks+1)) y)
 obtain ⟨p,i,ob⟩:=R.obs _ _ _ e
 rw [z] at i;obtain rfl:=Option.some.inj i
 have tk:=a8 sb ob.not_T2
 have hne:ad≠dx:=by
  rintro rfl
  rw [hx] at D
  injection D with D
  injection D with D
  injection D
 have pl:=jG (gnm f) (PyData.keyHash C.w.params (gnm f)) (s.toks+1) y es
 have fl:=jW f v fs lu
 have gf:=nG hgl
 have len:(putL (gnm f) (PyData.keyHash C.w.params (gnm f)) (.str (gnm f) (s.toks+1)) y es).length=(dN f v fs).length:=by
  rcases fl with ⟨a,b⟩ | ⟨a,b⟩
  ·have:=h2 f a
   rw [hgl] at this
   injection this with this
   rcases pl with ⟨a',b'⟩ | ⟨a',b'⟩
   ·rw [b,b',l]
   ·exact absurd (gf.mpr this) a'
  ·obtain ⟨yy,e1,_⟩:=h1 f a
   rw [hgl] at e1
   injection e1 with e1
   rcases pl with ⟨a',b'⟩ | ⟨a',b'⟩
   ·have:=gf.mp a';rw [this] at e1;injection e1
   ·rw [b,b',l]
 rw [mh] at hl
 have hz:(putL (gnm f) (PyData.keyHash C.w.params (gnm f)) (.str (gnm f) (s.toks+1)) y es).length≤1000:=by
  rcases fl with ⟨_,b⟩ | ⟨_,b⟩<;>omega
 refine wpAny_bind (wpAny_lookBehind D' (pastItsLine_dict (by rw [List.size_toArray,sizeLine_eq];omega)) ?_)
 refine wpAny_pure ?_
 have r':OR C ι (s.heap.update dx (Obj.putName (gnm f) (PyData.keyHash C.w.params (gnm f)) (.str (gnm f) (s.toks+1)) y)) (ad,dx) (.inst c (dN f v fs)):=by
  refine .inst _ _ ((sb.2 ad hne).trans hx) D' ⟨len,jX f v rv.not_unb fs lu⟩ (fun f' hf'=>?_) (fun f' hf'=>?_)
  ·rw [c7] at hf' ⊢
   by_cases q:f'=f
   ·subst q
    rw [if_pos rfl]
    exact ⟨y,nF _ _ _ _ _,rv.mono (fun ξ ξ e=>e) tk⟩
   ·rw [if_neg q] at hf' ⊢
    obtain ⟨x,e1,r1⟩:=h1 f' hf'
    exact ⟨x,(me (fun c=>q (k.nm.inj _ _ c).symm) _ _ _ _).trans e1,r1.mono (fun ξ ξ e=>e) tk⟩
  ·rw [c7] at hf'
   by_cases q:f'=f
   ·subst q;rw [if_pos rfl] at hf';exact absurd hf' rv.not_unb
   ·rw [if_neg q] at hf'
    exact (me (fun c=>q (k.nm.inj _ _ c).symm) _ _ _ _).trans (h2 f' hf')
 obtain ⟨R',S⟩:=SR.write (X:=X0) R e z (.inr ⟨rfl,c,fs,rfl⟩) (fun ξ=>⟨c,fs,rfl⟩) sb ⟨_,D'⟩ r'
 exact ⟨⟨_,_,rfl⟩,R',S⟩
end
end Gh
end
section
namespace Gh
open PySem PyProof.Rows PySem.W PySem.SeqAt PySem.Calls
noncomputable def cS (i:Nat):V:=Tr.get .unb (Ps.ofNat i) lZ
noncomputable def ax (sc:Scope) (k:Nat):Prop:=sc.names.lookup (gnm k)=some .local
noncomputable def bc (sc:Scope) (k:Nat):Prop:=sc.names.lookup (gnm k)=some .globalImplicit
structure CompSc (sc:Scope) (x:Str):Prop where
 free:∀ y∈sc.names,y.2≠.free
 cell:∀ y∈sc.names,y.2≠.cell
 kind:sc.kind=.function
 names:∀ y∈sc.names,y.2=.local→sc.names.lookup y.1=some .local
 dbg:(x==("__debug__":Str))=false
 here:sc.names.lookup x=some .local
inductive RElt (x:Str):GE→Expr→Prop
 | var {p}:RElt x (.loc 0) (.Name x p)
 | add {n k p p' p''}:RElt x (.bin .add (.cint n) (.loc 0)) (.BinOp (.Constant (.int n) k p) .Add (.Name x p') p'')
inductive RXp (R:GE→Expr→Prop):List (GE×GE)→List (Option Expr)→List Expr→Prop
 | nil:RXp R [] [] []
 | cons {g h e f gs ks vs}:R g e→R h f→RXp R gs ks vs→RXp R ((g,h) :: gs) (some e :: ks) (f :: vs)
inductive RX1 (R:GE→Expr→Prop) (fn:List Nat) (sc:Scope):GE→Expr→Prop
 | loc {i k p}:fn[i]?=some k→ax sc k→RX1 R fn sc (.loc i) (.Name (gnm k) p)
 | glob {i v p}:bc sc i→cS i=v→v≠.unb→RX1 R fn sc (.glob i v) (.Name (gnm i) p)
 | cint {n k p}:RX1 R fn sc (.cint n) (.Constant (.int n) k p)
 | cstr {i k p}:RX1 R fn sc (.cstr i) (.Constant (.str (gnm i)) k p)
 | cnone {k p}:RX1 R fn sc .cnone (.Constant .none k p)
 | cbool {b k p}:RX1 R fn sc (.cbool b) (.Constant (.bool b) k p)
 | attr {g e f p}:R g e→f∈flds→bp e=true→RX1 R fn sc (.attr g f) (.Attribute e (gnm f) p)
 | sub {g e i j p}:R g e→R i j→RX1 R fn sc (.sub g i) (.Subscript e j p)
 | rev {g e} {k:Nat} {p p0 p' p''}:R g e→RX1 R fn sc (.rev g) (.Subscript e (.Slice none none (some (.UnaryOp .USub (.Constant (.int 1) k p) p0)) p') p'')
 | call {i v p gs es p'}:bc sc i→cS i=v→v≠.unb→F2 R gs es→es.length≤20→RX1 R fn sc (.call (.glob i v) gs) (.Call (.Name (gnm i) p) es [] p')
 | meth {g e m ap gs es p}:R g e→bp e=true→F2 R gs es→es.length≤20→(ap.endLine==p.line)=true→RX1 R fn sc (.meth g m gs) (.Call (.Attribute e (gnm m) ap) es [] p)
 | bmeth {g e m ap gs es p}:R g e→bp e=true→F2 R gs es→es.length≤20→(ap.endLine==p.line)=true→RX1 R fn sc (.bmeth g m gs) (.Call (.Attribute e (gW m) ap) es [] p)
 | bin {op g e h f p}:R g e→R h f→RX1 R fn sc (.bin op g h) (.BinOp e (m7 op) f p)
 | cmp {op g e h f p}:R g e→R h f→RX1 R fn sc (.cmp op g h) (.Compare e [bA op] [f] p)
 | cmp2 {o1 o2 g e h f i j p}:R g e→R h f→R i j→RX1 R fn sc (.cmp2 o1 o2 g h i) (.Compare e [bA o1,bA o2] [f,j] p)
 | and {g gs e es p}:F2 R (g :: gs) (e :: es)→RX1 R fn sc (.and (g :: gs)) (.BoolOp .And (e :: es) p)
 | or {g gs e es p}:F2 R (g :: gs) (e :: es)→RX1 R fn sc (.or (g :: gs)) (.BoolOp .Or (e :: es) p)
 | not {g e p}:R g e→RX1 R fn sc (.not g) (.UnaryOp .Not e p)
 | ite {g e h f i j p}:R g e→R h f→R i j→RX1 R fn sc (.ite g h i) (.IfExp e f j p)
 | tup {gs es k p}:F2 R gs es→es.length≤1000→RX1 R fn sc (.tup gs) (.Tuple es k p)
 | lst {gs es p}:F2 R gs es→es.length≤1000→RX1 R fn sc (.lst gs) (.List es p)
 | dct0 {p}:RX1 R fn sc (.dct []) (.Dict [] [] p)
 | dct {g gs k ks v vs p}:RXp R (g :: gs) (k :: ks) (v :: vs)→(k :: ks).length≤15→RX1 R fn sc (.dct (g :: gs)) (.Dict (k :: ks) (v :: vs) p)
 | comp {g e elt elt' x px sc' p}:R g e→RElt x elt elt'→CompSc sc' x→RX1 R fn sc (.comp elt g) (.ListComp elt' [⟨.Name x px,e,[],0⟩] sc' p)
 | compR {gs es elt elt' x px sc' p i p' p''}:F2 R gs es→es.length≤20→bc sc i→cS i=.bi 1→RElt x elt elt'→CompSc sc' x →
   RX1 R fn sc (.compR elt gs) (.ListComp elt' [⟨.Name x px,.Call (.Name (gnm i) p') es [] p'',[],0⟩] sc' p)
 | neg {n k p p'}:RX1 R fn sc (.neg (.cint n)) (.UnaryOp .USub (.Constant (.int n) k p) p')
noncomputable def aN:Expr→Bool
 | .ListComp .. | .SetComp .. | .DictComp ..=>false
 | _=>true
noncomputable def kG:Expr→Bool
 | .Tuple ..=>false
 | _=>true
inductive RTs (fn:List Nat) (sc:Scope):List Nat→List Expr→Prop
 | nil:RTs fn sc [] []
 | cons {i k p xs es}:fn[i]?=some k→ax sc k→RTs fn sc xs es→RTs fn sc (i :: xs) (.Name (gnm k) p :: es)
inductive RQ1 (R:GE→Expr→Prop) (S:GS→Stmt→Prop) (fn:List Nat) (sc:Scope):GS→Stmt→Prop
 | assign {i k p g e p'}:fn[i]?=some k→ax sc k→R g e→aN e=true→RQ1 R S fn sc (.assign i g) (.Assign [.Name (gnm k) p] e p')
 | assignC {i k py g e elt elt' x px sc' p spos}:fn[i]?=some k→ax sc k→R g e→RElt x elt elt'→CompSc sc' x→(py.line==p.line)=true→(sc'.names.any fun(n,kk)=>n==gnm k&&(kk==.local||kk==.cell))=false →
   RQ1 R S fn sc (.assign i (.comp elt g)) (.Assign [.Name (gnm k) py] (.ListComp elt' [⟨.Name x px,e,[],0⟩] sc' p) spos)
 | assignR {i k py gs es elt elt' x px sc' p spos j p' p''}:fn[i]?=some k→ax sc k→F2 R gs es→es.length≤20→bc sc j→cS j=.bi 1→RElt x elt elt'→CompSc sc' x→(py.line==p.line)=true →
   (sc'.names.any fun(n,kk)=>n==gnm k&&(kk==.local||kk==.cell))=false →
   RQ1 R S fn sc (.assign i (.compR elt gs)) (.Assign [.Name (gnm k) py] (.ListComp elt' [⟨.Name x px,.Call (.Name (gnm j) p') es [] p'',[],0⟩] sc' p) spos)
 | setattr {o f g e e' p p'}:R o e'→f∈flds→R g e→aN e=true→RQ1 R S fn sc (.setattr o f g) (.Assign [.Attribute e' (gnm f) p] e p')
 | setsub {o i g e e' j p p'}:R o e'→R i j→R g e→RQ1 R S fn sc (.setsub o i g) (.Assign [.Subscript e' j p] e p')
 | unpack {xs ts g e k p p'}:RTs fn sc xs ts→R g e→kG e=true→aN e=true→RQ1 R S fn sc (.unpack xs g) (.Assign [.Tuple ts k p] e p')
 | aug {i k g e p p'}:fn[i]?=some k→ax sc k→R g e→RQ1 R S fn sc (.aug i .add g) (.AugAssign (.Name (gnm k) p) .Add e p')
 | augsub {o i g e e' j p p'}:R o e'→R i j→R g e→RQ1 R S fn sc (.augsub o i .add g) (.AugAssign (.Subscript e' j p) .Add e p')
 | expr {g e p}:R g e→aN e=true→RQ1 R S fn sc (.expr g) (.Expr e p)
 | pass {p}:RQ1 R S fn sc (.expr .cnone) (.Pass p)
 | ret {g e p}:R g e→RQ1 R S fn sc (.ret g) (.Return (some e) p)
 | ret0 {p}:RQ1 R S fn sc (.ret .cnone) (.Return none p)
 | ifs {c e a b as bs p}:R c e→F2 S a as→F2 S b bs→RQ1 R S fn sc (.ifs c a b) (.If e as bs p)
 | for1 {i k g e b bs p p'}:fn[i]?=some k→ax sc k→R g e→F2 S b bs→RQ1 R S fn sc (.for1 i g b) (.For (.Name (gnm k) p) e bs [] p')
 | forN {xs ts g e b bs k p p'}:RTs fn sc xs ts→R g e→F2 S b bs→RQ1 R S fn sc (.forN xs g b) (.For (.Tuple ts k p) e bs [] p')
 | forR {i k gs es b bs j p p' p'' p3}:fn[i]?=some k→ax sc k→F2 R gs es→es.length≤20→bc sc j→cS j=.bi 1→F2 S b bs →
   RQ1 R S fn sc (.forR i gs b) (.For (.Name (gnm k) p) (.Call (.Name (gnm j) p') es [] p'') bs [] p3)
 | stop {s}:RQ1 R S fn sc .stop s
end Gh
end
section
namespace Gh
open PySem PyProof.Rows PySem.W PySem.SeqAt PySem.Calls
section
noncomputable def eP (e:Expr):Pos:=e.pos
noncomputable def evK {α:Type} (e:Expr) (k:List Expr→List Expr→Nat→Str→Scope→List Expr→α):α :=
 have d:=k [] [] 0 ⟨#[]⟩ default []
 Expr.casesOn (motive_1:=fun ξ=>α) e (fun ξ l ξ=>k l [] 0 ⟨#[]⟩ default []) (fun ξ ξ ξ=>d) (fun a ξ b ξ=>k [a,b] [] 0 ⟨#[]⟩ default []) (fun ξ a ξ=>k [a] [] 0 ⟨#[]⟩ default []) (fun ξ ξ ξ ξ=>d) (fun a b c ξ=>k [a,b,c] [] 0 ⟨#[]⟩ default []) (fun m l ξ=>k l (m.map fun k=>k.getD e) 0 ⟨#[]⟩ default []) (fun ξ ξ ξ=>d) (fun a g sc ξ=>k (a :: (g.map (·.iter)++g.map (·.target))) [] 0 ⟨#[]⟩ sc ((g.map (·.ifs)).headD [])) (fun ξ ξ ξ ξ=>d) (fun ξ ξ ξ ξ ξ=>d) (fun ξ ξ ξ ξ=>d) (fun ξ ξ=>d) (fun ξ ξ=>d) (fun ξ ξ=>d) (fun a ξ l ξ=>k (a :: l) [] 0 ⟨#[]⟩ default []) (fun a l ξ ξ=>k (a :: l) [] 0 ⟨#[]⟩ default []) (fun ξ ξ ξ ξ=>d) (fun ξ ξ=>d) (fun ξ n ξ=>k [] [] n ⟨#[]⟩ default []) (fun a ξ ξ=>k [a] [] 0 ⟨#[]⟩ default []) (fun a b ξ=>k [a,b] [] 0 ⟨#[]⟩ default []) (fun ξ ξ=>d) (fun x ξ=>k [] [] 0 x default []) (fun l ξ=>k l [] 0 ⟨#[]⟩ default []) (fun l n ξ=>k l [] n ⟨#[]⟩ default []) (fun a b c ξ=>k c.toList [] 0 ⟨#[]⟩ default [a.getD e,b.getD e])
noncomputable def ch (e:Expr):List Expr:=evK e fun l ξ ξ ξ ξ ξ=>l
noncomputable def dk (e:Expr):List Expr:=evK e fun ξ l ξ ξ ξ ξ=>l
noncomputable def kN (e:Expr):Nat:=evK e fun ξ ξ n ξ ξ ξ=>n
noncomputable def xN (e:Expr):Str:=evK e fun ξ ξ ξ x ξ ξ=>x
noncomputable def sC (e:Expr):Scope:=evK e fun ξ ξ ξ ξ s ξ=>s
noncomputable def sL (e:Expr):List Expr:=evK e fun ξ ξ ξ ξ ξ l=>l
noncomputable def hd (l:List Expr):Expr:=@List.rec Expr (fun ξ=>Expr) (.Constant .none 0 ⟨0,0,0,0⟩) (fun a ξ ξ=>a) l
noncomputable def tl (l:List Expr):List Expr:=@List.rec Expr (fun ξ=>List Expr) [] (fun ξ t ξ=>t) l
noncomputable def c0 (e:Expr):Expr:=hd (ch e)
noncomputable def c1 (e:Expr):Expr:=hd (tl (ch e))
noncomputable def c2 (e:Expr):Expr:=hd (tl (tl (ch e)))
noncomputable def hG (l:List Nat):Nat→Nat:=@List.rec Nat (fun ξ=>Nat→Nat) (fun ξ=>0) (fun a ξ ih n=>@Nat.rec (fun ξ=>Nat) a (fun n ξ=>ih n) n) l
noncomputable def tP (l:List Nat):Nat→Bool:=@List.rec Nat (fun ξ=>Nat→Bool) (fun ξ=>false) (fun a ξ ih n=>@Nat.rec (fun ξ=>Bool) true (fun n ξ=>ih n) n) l
noncomputable def gk (ih:GE→Expr→Expr) (gs:List GE):List Expr→List Expr:=@List.rec GE (fun ξ=>List Expr→List Expr) (fun ξ=>[]) (fun g ξ r ts=>ih g (hd ts) :: r (tl ts)) gs
noncomputable def sj (ih:GE→Expr→Expr) (gs:List (GE×GE)):List Expr→List (Option Expr):=@List.rec (GE×GE) (fun ξ=>List Expr→List (Option Expr)) (fun ξ=>[]) (fun g ξ r ts=>some (ih g.1 (hd ts)) :: r (tl ts)) gs
noncomputable def u5 (ih:GE→Expr→Expr) (gs:List (GE×GE)):List Expr→List Expr:=@List.rec (GE×GE) (fun ξ=>List Expr→List Expr) (fun ξ=>[]) (fun g ξ r ts=>ih g.2 (hd ts) :: r (tl ts)) gs
noncomputable def iS:Nat:=4
noncomputable def oS:Expr:=.Constant .none 0 ⟨0,0,0,0⟩
noncomputable def tV (g:GE) (x:Str) (t:Expr):Expr:=match g with
 | .loc _=>.Name x (eP t)
 | .bin _ (.cint n) _=>.BinOp (.Constant (.int n) (kN (c0 t)) (eP (c0 t))) .Add (.Name x (eP (c1 t))) (eP t)
 | _=>oS
noncomputable def ow (g:GE):Bool:=match g with
 | .loc 0=>true
 | .bin .add (.cint _) (.loc 0)=>true
 | _=>false
noncomputable def gE1 (fn:List Nat) (ih:GE→Expr→Expr) (g:GE) (t:Expr):Expr:=GE.casesOn g
 (fun i=>.Name (gnm (hG fn i)) (eP t)) (fun i ξ=>.Name (gnm i) (eP t))
 (fun n=>.Constant (.int n) (kN t) (eP t)) (fun i=>.Constant (.str (gnm i)) (kN t) (eP t)) (.Constant .none (kN t) (eP t)) (fun b=>.Constant (.bool b) (kN t) (eP t))
 (fun g f=>.Attribute (ih g (c0 t)) (gnm f) (eP t)) (fun g i=>.Subscript (ih g (c0 t)) (ih i (c1 t)) (eP t)) (fun ξ ξ=>oS) (fun ξ ξ=>oS)
 (fun g=>.Subscript (ih g (c0 t)) (.Slice none none (some (.UnaryOp .USub (.Constant (.int 1) (kN (c0 (c0 (c1 t)))) (eP (c0 (c0 (c1 t))))) (eP (c0 (c1 t))))) (eP (c1 t))) (eP t))
 (fun f gs=>.Call (ih f (c0 t)) (gk ih gs (tl (ch t))) [] (eP t))
 (fun g m gs=>.Call (.Attribute (ih g (c0 (c0 t))) (gnm m) (eP (c0 t))) (gk ih gs (tl (ch t))) [] (eP t))
 (fun g m gs=>.Call (.Attribute (ih g (c0 (c0 t))) (gW m) (eP (c0 t))) (gk ih gs (tl (ch t))) [] (eP t))
 (fun op a b=>.BinOp (ih a (c0 t)) (m7 op) (ih b (c1 t)) (eP t)) (fun op a b=>.Compare (ih a (c0 t)) [bA op] [ih b (c1 t)] (eP t))
 (fun o1 o2 a b c=>.Compare (ih a (c0 t)) [bA o1,bA o2] [ih b (c1 t),ih c (c2 t)] (eP t))
 (fun gs=>.BoolOp .And (gk ih gs (ch t)) (eP t)) (fun gs=>.BoolOp .Or (gk ih gs (ch t)) (eP t)) (fun g=>.UnaryOp .Not (ih g (c0 t)) (eP t))
 (fun a b c=>.IfExp (ih a (c0 t)) (ih b (c1 t)) (ih c (c2 t)) (eP t))
 (fun gs=>.Tuple (gk ih gs (ch t)) (kN t) (eP t)) (fun gs=>.List (gk ih gs (ch t)) (eP t)) (fun gs=>.Dict (sj ih gs (dk t)) (u5 ih gs (ch t)) (eP t))
 (fun elt g=>.ListComp (tV elt (xN (c2 t)) (c0 t)) [⟨.Name (xN (c2 t)) (eP (c2 t)),ih g (c1 t),[],0⟩] (sC t) (eP t))
 (fun elt gs=>.ListComp (tV elt (xN (c2 t)) (c0 t)) [⟨.Name (xN (c2 t)) (eP (c2 t)),.Call (.Name (gnm iS) (eP (c0 (c1 t)))) (gk ih gs (tl (ch (c1 t)))) [] (eP (c1 t)),[],0⟩] (sC t) (eP t))
 (fun g=>.UnaryOp .USub (ih g (c0 t)) (eP t))
noncomputable def gE (fn:List Nat) (n:Nat):GE→Expr→Expr:=@Nat.rec (fun ξ=>GE→Expr→Expr) (fun ξ ξ=>oS) (fun ξ ih=>gE1 fn ih) n
noncomputable def oO (x:Str) (l:List Nat):Bool:=leq x.cps.toList l
noncomputable def aD (l:List Nat) (names:List (Str×NameKind)):Option NameKind:=@List.rec (Str×NameKind) (fun ξ=>Option NameKind) none (fun p ξ ih=>@Bool.rec (fun ξ=>Option NameKind) ih (some p.2) (oO p.1 l)) names
noncomputable def jQ (o:Option NameKind):Bool:=match o with | some .local=>true | _=>false
noncomputable def aT (o:Option NameKind):Bool:=match o with | some .globalImplicit=>true | _=>false
noncomputable def eF (f:Nat) (l:List Nat):Bool:=@List.rec Nat (fun ξ=>Bool) false (fun a ξ ih=>@Bool.rec (fun ξ=>Bool) ih true (Nat.beq a f)) l
noncomputable def pEq (p:Ps):Ps→Bool:=@Ps.rec (fun ξ=>Ps→Bool) (fun q=>@Ps.rec (fun ξ=>Bool) true (fun ξ ξ=>false) (fun ξ ξ=>false) q)
 (fun ξ ih q=>@Ps.rec (fun ξ=>Bool) false (fun q ξ=>ih q) (fun ξ ξ=>false) q) (fun ξ ih q=>@Ps.rec (fun ξ=>Bool) false (fun ξ ξ=>false) (fun q ξ=>ih q) q) p
noncomputable def bEq (a b:Bool):Bool:=@Bool.rec (fun ξ=>Bool) (not b) b a
noncomputable def uO (v:V) (d:Bool) (f:Ps→Bool):Bool:=@V.rec (fun ξ=>Bool) (fun ξ=>PUnit) d d (fun ξ=>d) (fun ξ ξ=>d) (fun ξ=>d) (fun ξ=>d) (fun ξ ξ=>d) (fun ξ=>d) f (fun ξ=>d) (fun ξ=>d) (fun ξ=>d) ⟨⟩ (fun ξ ξ ξ ξ=>⟨⟩) v
noncomputable def mB (v:V) (d:Bool) (f:Ps→Bool):Bool:=@V.rec (fun ξ=>Bool) (fun ξ=>PUnit) d d (fun ξ=>d) (fun ξ ξ=>d) (fun ξ=>d) (fun ξ=>d) (fun ξ ξ=>d) (fun ξ=>d) (fun ξ=>d) f (fun ξ=>d) (fun ξ=>d) ⟨⟩ (fun ξ ξ ξ ξ=>⟨⟩) v
noncomputable def uP (v:V) (d:Bool) (f:Nat→Bool):Bool:=@V.rec (fun ξ=>Bool) (fun ξ=>PUnit) d d (fun ξ=>d) (fun ξ ξ=>d) (fun ξ=>d) (fun ξ=>d) (fun ξ ξ=>d) (fun ξ=>d) (fun ξ=>d) (fun ξ=>d) f (fun ξ=>d) ⟨⟩ (fun ξ ξ ξ ξ=>⟨⟩) v
noncomputable def vEq (a b:V):Bool:=@V.rec (fun ξ=>Bool) (fun ξ=>PUnit) false false (fun x=>gY b false fun y=>bEq x y) (fun o s=>am b false fun o' s'=>decide (o=o')&&Nat.beq s s') (fun i=>bG b false fun j=>Nat.beq i j) (fun ξ=>false) (fun ξ ξ=>false) (fun ξ=>false)
 (fun p=>uO b false (pEq p)) (fun p=>mB b false (pEq p)) (fun i=>uP b false (Nat.beq i)) (fun p=>lg b false (pEq p)) ⟨⟩ (fun ξ ξ ξ ξ=>⟨⟩) a
noncomputable def we:List Nat:=[95,95,100,101,98,117,103,95,95]
noncomputable def okP (p:Str×NameKind) (names:List (Str×NameKind)):Bool:=match p.2 with | .free=>false | .cell=>false | .local=>jQ (aD p.1.cps.toList names) | _=>true
noncomputable def qU (names all:List (Str×NameKind)):Bool:=@List.rec (Str×NameKind) (fun ξ=>Bool) true (fun p ξ ih=>okP p all&&ih) names
noncomputable def lU (k:ScopeKind):Bool:=match k with | .function=>true | _=>false
noncomputable def scX (sc:Scope) (x:Str):Bool:=lU sc.kind&&(jQ (aD x.cps.toList sc.names)&&(not (oO x we)&&qU sc.names sc.names))
noncomputable def mf (g:GE):Bool:=match g with | .call _ []=>false | _=>true
noncomputable def qD (g:GE):Bool:=match g with | .glob _ _=>true | _=>false
noncomputable def tN (g:GE):Bool:=match g with | .cint _=>true | _=>false
noncomputable def okL (ih:GE→Expr→Bool) (gs:List GE):List Expr→Bool:=@List.rec GE (fun ξ=>List Expr→Bool) (fun ξ=>true) (fun g ξ r ts=>ih g (hd ts)&&r (tl ts)) gs
noncomputable def okK (ih:GE→Expr→Bool) (gs:List (GE×GE)):List Expr→List Expr→Bool:=@List.rec (GE×GE) (fun ξ=>List Expr→List Expr→Bool) (fun ξ ξ=>true) (fun g ξ r ts us=>ih g.1 (hd ts)&&(ih g.2 (hd us)&&r (tl ts) (tl us))) gs
noncomputable def b5 {α:Type} (gs:List α) (n:Nat):Bool:=Nat.ble gs.length n
noncomputable def rN (a b:Pos):Bool:=Nat.beq a.endLine b.line
noncomputable def okE1 (fn:List Nat) (sc:Scope) (ih:GE→Expr→Bool) (g:GE) (t:Expr):Bool:=GE.casesOn g
 (fun i=>tP fn i&&jQ (aD (gcp (hG fn i)) sc.names)) (fun i v=>aT (aD (gcp i) sc.names)&&vEq (cS i) v)
 (fun ξ=>true) (fun ξ=>true) true (fun ξ=>true)
 (fun g f=>ih g (c0 t)&&(eF f flds&&mf g)) (fun g i=>ih g (c0 t)&&ih i (c1 t)) (fun ξ ξ=>false) (fun ξ ξ=>false)
 (fun g=>ih g (c0 t))
 (fun f gs=>qD f&&(ih f (c0 t)&&(okL ih gs (tl (ch t))&&b5 gs 20)))
 (fun g ξ gs=>ih g (c0 (c0 t))&&(mf g&&(okL ih gs (tl (ch t))&&(b5 gs 20&&rN (eP (c0 t)) (eP t)))))
 (fun g ξ gs=>ih g (c0 (c0 t))&&(mf g&&(okL ih gs (tl (ch t))&&(b5 gs 20&&rN (eP (c0 t)) (eP t)))))
 (fun ξ a b=>ih a (c0 t)&&ih b (c1 t)) (fun ξ a b=>ih a (c0 t)&&ih b (c1 t)) (fun ξ ξ a b c=>ih a (c0 t)&&(ih b (c1 t)&&ih c (c2 t)))
 (fun gs=>okL ih gs (ch t)&&not (b5 gs 0)) (fun gs=>okL ih gs (ch t)&&not (b5 gs 0)) (fun g=>ih g (c0 t))
 (fun a b c=>ih a (c0 t)&&(ih b (c1 t)&&ih c (c2 t)))
 (fun gs=>okL ih gs (ch t)&&b5 gs 1000) (fun gs=>okL ih gs (ch t)&&b5 gs 1000) (fun gs=>okK ih gs (dk t) (ch t)&&b5 gs 15)
 (fun elt g=>ih g (c1 t)&&(ow elt&&scX (sC t) (xN (c2 t))))
 (fun elt gs=>okL ih gs (tl (ch (c1 t)))&&(b5 gs 20&&(aT (aD (gcp iS) sc.names)&&(ow elt&&scX (sC t) (xN (c2 t))))))
 (fun g=>tN g&&ih g (c0 t))
noncomputable def okE (fn:List Nat) (sc:Scope) (n:Nat):GE→Expr→Bool:=@Nat.rec (fun ξ=>GE→Expr→Bool) (fun ξ ξ=>false) (fun ξ ih=>okE1 fn sc ih) n
end
end Gh
end
section
namespace Gh
open PySem PyProof.Rows PySem.W PySem.SeqAt PySem.Calls
theorem tF {l:List Nat}:∀ {m},leq l m=true→l=m:=by
 induction l with
 | nil=>intro m h;cases m with
  | nil=>rfl
  | cons _ _=>exact (Bool.false_ne_true h).elim
 | cons a l ih =>
  intro m h
  cases m with
  | nil=>exact (Bool.false_ne_true h).elim
  | cons b m =>
   obtain ⟨e,h⟩:=ac (h:@Bool.rec (fun ξ=>Bool) false (leq l m) (Nat.beq a b)=true) nofun
   rw [natbeq.mp e,ih h]
theorem qu {x y:Str} (h:x.cps.toList=y.cps.toList):x=y:=by
 obtain ⟨⟨c⟩⟩:=x;obtain ⟨⟨d⟩⟩:=y
 have:c=d:=h
 rw [this]
theorem lookC_eq {x:Str} {names:List (Str×NameKind)}:aD x.cps.toList names=names.lookup x:=by
 induction names with
 | nil=>rfl
 | cons p names ih =>
  show @Bool.rec (fun ξ=>Option NameKind) (aD x.cps.toList names) (some p.2) (leq p.1.cps.toList x.cps.toList)=_
  rw [show p=(p.1,p.2) from rfl,List.lookup_cons]
  cases e:leq p.1.cps.toList x.cps.toList with
  | true =>
   have e':x=p.1:=(qu (tF e)).symm
   rw [e',beq_self_eq_true]
  | false =>
   have:(x==p.1)=false:=by
    rw [beq_eq_false_iff_ne]
    intro c
    rw [← c,eJ] at e;exact (Bool.false_ne_true e.symm).elim
   rw [this]
   exact ih
theorem ma (k:Nat):(gnm k).cps.toList=gcp k:=by unfold gnm;rfl
theorem lookK_eq {k:Nat} {names:List (Str×NameKind)}:aD (gcp k) names=names.lookup (gnm k):=by rw [← ma,lookC_eq]
theorem eM {o:Option NameKind} (h:jQ o=true):o=some .local:=by
 cases o with
 | none=>exact (Bool.false_ne_true h).elim
 | some k=>cases k<;>first | rfl | exact (Bool.false_ne_true h).elim
theorem ce {o:Option NameKind} (h:aT o=true):o=some .globalImplicit:=by
 cases o with
 | none=>exact (Bool.false_ne_true h).elim
 | some k=>cases k<;>first | rfl | exact (Bool.false_ne_true h).elim
theorem i5 {f:Nat} {l:List Nat} (h:eF f l=true):f∈l:=by
 induction l with
 | nil=>exact (Bool.false_ne_true h).elim
 | cons a l ih =>
  change @Bool.rec (fun ξ=>Bool) (eF f l) true (Nat.beq a f)=true at h
  cases e:Nat.beq a f with
  | true=>rw [natbeq.mp e];exact List.mem_cons_self
  | false=>rw [e] at h;exact List.mem_cons_of_mem _ (ih h)
theorem aW {p:Ps}:∀ {q:Ps},pEq p q=true→p=q:=by
 induction p with
 | h=>intro q h;cases q<;>first | rfl | exact (Bool.false_ne_true h).elim
 | o p ih=>intro q h;cases q<;>first | exact congrArg _ (ih h) | exact (Bool.false_ne_true h).elim
 | i p ih=>intro q h;cases q<;>first | exact congrArg _ (ih h) | exact (Bool.false_ne_true h).elim
theorem ab {a b:Bool} (h:(a&&b)=true):a=true∧b=true:=Bool.and_eq_true_iff.mp h
set_option tactic.hygienic true in
theorem oc {a b:V} (h:vEq a b=true):a=b∧b≠.unb:=by
 cases a with
 | bool x=>cases b<;>first | exact (Bool.false_ne_true h).elim | (refine ⟨?_,nofun⟩;rename_i y;cases x<;>cases y<;>first | rfl | exact (Bool.false_ne_true h).elim)
 | int o s =>
  cases b<;>first | exact (Bool.false_ne_true h).elim | skip
  have h2:=ab h
  exact ⟨by rw [of_decide_eq_true h2.1,natbeq.mp h2.2],nofun⟩
 | str i=>cases b<;>first | exact (Bool.false_ne_true h).elim | exact ⟨congrArg _ (natbeq.mp h),nofun⟩
 | fn i=>cases b<;>first | exact (Bool.false_ne_true h).elim | exact ⟨congrArg _ (aW h),nofun⟩
 | cls i=>cases b<;>first | exact (Bool.false_ne_true h).elim | exact ⟨congrArg _ (aW h),nofun⟩
 | bi i=>cases b<;>first | exact (Bool.false_ne_true h).elim | exact ⟨congrArg _ (natbeq.mp h),nofun⟩
 | gd i=>cases b<;>first | exact (Bool.false_ne_true h).elim | exact ⟨congrArg _ (aW h),nofun⟩
 | _=>exact (Bool.false_ne_true h).elim
theorem pM {names l:List (Str×NameKind)} (h:qU names l=true):∀ p∈names,okP p l=true:=by
 induction names with
 | nil=>intro p hp;exact nomatch hp
 | cons q names ih =>
  intro p hp
  have h2:=ab (show (okP q l&&qU names l)=true from h)
  rcases List.mem_cons.mp hp with e | hp
  ·rw [e];exact h2.1
  ·exact ih h2.2 p hp
theorem gp {sc:Scope} {x:Str} (h:scX sc x=true):CompSc sc x:=by
 have h1:=ab (show (lU sc.kind&&(jQ (aD x.cps.toList sc.names)&&(not (oO x we)&&qU sc.names sc.names)))=true from h)
 have h2:=ab h1.2
 have h3:=ab h2.2
 have lk:sc.names.lookup x=some .local:=lookC_eq.symm.trans (eM h2.1)
 have al:=pM h3.2
 have no:∀ y∈sc.names,okP y sc.names=true:=al
 constructor
 ·intro y hy c
  have:=no y hy
  unfold okP at this
  rw [c] at this
  exact (Bool.false_ne_true this).elim
 ·intro y hy c
  have:=no y hy
  unfold okP at this
  rw [c] at this
  exact (Bool.false_ne_true this).elim
 ·have:=h1.1
  revert this
  cases sc.kind<;>intro this<;>first | rfl | exact (Bool.false_ne_true this).elim
 ·intro y hy c
  have:=no y hy
  unfold okP at this
  rw [c] at this
  exact lookC_eq.symm.trans (eM this)
 ·rw [mw,beq_eq_false_iff_ne]
  intro c
  have:=h3.1
  rw [c] at this
  exact (Bool.false_ne_true this).elim
 ·exact lk
theorem eD {g:GE} {x:Str} {t:Expr} (h:ow g=true):RElt x g (tV g x t):=by
 cases g with
 | loc i=>cases i with
  | zero=>exact .var
  | succ _=>exact (Bool.false_ne_true h).elim
 | bin op a b =>
  cases op<;>first | exact (Bool.false_ne_true h).elim | skip
  cases a<;>first | exact (Bool.false_ne_true h).elim | skip
  cases b with
  | loc i=>cases i with
   | zero=>exact .add
   | succ _=>exact (Bool.false_ne_true h).elim
  | _=>exact (Bool.false_ne_true h).elim
 | _=>exact (Bool.false_ne_true h).elim
theorem lY {l:List Nat}:∀ {i},tP l i=true→l[i]?=some (hG l i):=by
 induction l with
 | nil=>intro i h;exact (Bool.false_ne_true h).elim
 | cons a l ih =>
  intro i h
  cases i with
  | zero=>rfl
  | succ i=>exact ih h
section
variable {fn:List Nat} {sc:Scope} {n:Nat}
theorem bx {ih:GE→Expr→Expr} {gs:List GE}:∀ {ts},(gk ih gs ts).length=gs.length:=by
 induction gs with
 | nil=>intro ts;rfl
 | cons g gs ihg=>intro ts;exact congrArg Nat.succ ihg
theorem nQ {ih:GE→Expr→Expr} {gs:List (GE×GE)}:∀ {ts},(sj ih gs ts).length=gs.length:=by
 induction gs with
 | nil=>intro ts;rfl
 | cons g gs ihg=>intro ts;exact congrArg Nat.succ ihg
theorem nO {f a:Expr} {l:List Expr} {k:List Keyword} {p:Pos}:bp (.Call f (a :: l) k p)=true:=by cases f<;>rfl
set_option tactic.hygienic true in
theorem jq {g:GE} {t:Expr} (h:mf g=true):bp (gE fn n g t)=true:=by
 cases n with
 | zero=>rfl
 | succ n =>
  cases g<;>first | rfl | skip
  rename_i f gs
  cases gs with
  | nil=>exact (Bool.false_ne_true h).elim
  | cons g gs=>exact nO
noncomputable def RX (fn:List Nat) (sc:Scope) (g:GE) (e:Expr):Prop:=∃ n t,okE fn sc n g t=true∧e=gE fn n g t
noncomputable abbrev RXs (fn:List Nat) (sc:Scope):=F2 (RX fn sc)
theorem bO {fn:List Nat} {sc:Scope} (n:Nat):∀ g t,okE fn sc n g t=true→RX fn sc g (gE fn n g t):=fun g t h=>⟨n,t,h,rfl⟩
theorem b7 {gs:List GE}:∀ {ts},okL (okE fn sc n) gs ts=true→RXs fn sc gs (gk (gE fn n) gs ts):=by
 induction gs with
 | nil=>intro ts h;exact .nil
 | cons g gs ih =>
  intro ts h
  have h2:=ab (show (okE fn sc n g (hd ts)&&okL (okE fn sc n) gs (tl ts))=true from h)
  exact .cons (bO _ _ _ h2.1) (ih h2.2)
theorem tz {gs:List (GE×GE)}:∀ {ts us},okK (okE fn sc n) gs ts us=true→RXp (RX fn sc) gs (sj (gE fn n) gs ts) (u5 (gE fn n) gs us):=by
 induction gs with
 | nil=>intro ts us h;exact .nil
 | cons g gs ih =>
  intro ts us h
  have h2:=ab (show (okE fn sc n g.1 (hd ts)&&(okE fn sc n g.2 (hd us)&&okK (okE fn sc n) gs (tl ts) (tl us)))=true from h)
  have h3:=ab h2.2
  exact .cons (bO _ _ _ h2.1) (bO _ _ _ h3.1) (ih h3.2)
theorem ox:∀ g t,okE fn sc (n+1) g t=true→RX1 (RX fn sc) fn sc g (gE fn (n+1) g t):=by
 have H:=bO (fn:=fn) (sc:=sc) n
 intro g t h
 cases g with
 | loc i=>have h:=ab h;exact .loc (lY h.1) (lookK_eq.symm.trans (eM h.2))
 | glob i v=>have h:=ab h;have e:=oc h.2;exact .glob (lookK_eq.symm.trans (ce h.1)) e.1 e.2
 | cint=>exact .cint
 | cstr=>exact .cstr
 | cnone=>exact .cnone
 | cbool=>exact .cbool
 | attr g f=>have h:=ab h;have h2:=ab h.2;exact .attr (H _ _ h.1) (i5 h2.1) (jq h2.2)
 | sub g i=>have h:=ab h;exact .sub (H _ _ h.1) (H _ _ h.2)
 | sliceTo=>exact (Bool.false_ne_true h).elim
 | sliceFrom=>exact (Bool.false_ne_true h).elim
 | rev g=>exact .rev (H _ _ h)
 | call f gs =>
  have h:=ab h
  have h2:=ab h.2
  have h3:=ab h2.2
  have ls:=natble.mp h3.2
  have rs:=b7 h3.1
  cases f with
  | glob i v =>
   cases n with
   | zero=>exact (Bool.false_ne_true h2.1).elim
   | succ n =>
    have q:=ab (show (aT (aD (gcp i) sc.names)&&vEq (cS i) v)=true from h2.1)
    have e:=oc q.2
    exact .call (lookK_eq.symm.trans (ce q.1)) e.1 e.2 rs (by rw [bx];exact ls)
  | _=>exact (Bool.false_ne_true h.1).elim
 | meth g m gs =>
  have h:=ab h
  have h2:=ab h.2
  have h3:=ab h2.2
  have h4:=ab h3.2
  exact .meth (H _ _ h.1) (jq h2.1) (b7 h3.1) (by rw [bx];exact natble.mp h4.1) (beq_iff_eq.mpr (natbeq.mp h4.2))
 | bmeth g m gs =>
  have h:=ab h
  have h2:=ab h.2
  have h3:=ab h2.2
  have h4:=ab h3.2
  exact .bmeth (H _ _ h.1) (jq h2.1) (b7 h3.1) (by rw [bx];exact natble.mp h4.1) (beq_iff_eq.mpr (natbeq.mp h4.2))
 | bin op a b=>have h:=ab h;exact .bin (H _ _ h.1) (H _ _ h.2)
 | cmp op a b=>have h:=ab h;exact .cmp (H _ _ h.1) (H _ _ h.2)
 | cmp2 o1 o2 a b c=>have h:=ab h;have h2:=ab h.2;exact .cmp2 (H _ _ h.1) (H _ _ h2.1) (H _ _ h2.2)
 | and gs =>
  have h:=ab h
  cases gs with
  | nil=>exact (Bool.false_ne_true h.2).elim
  | cons g gs=>exact .and (b7 h.1)
 | or gs =>
  have h:=ab h
  cases gs with
  | nil=>exact (Bool.false_ne_true h.2).elim
  | cons g gs=>exact .or (b7 h.1)
 | not g=>exact .not (H _ _ h)
 | ite a b c=>have h:=ab h;have h2:=ab h.2;exact .ite (H _ _ h.1) (H _ _ h2.1) (H _ _ h2.2)
 | tup gs=>have h:=ab h;exact .tup (b7 h.1) (by rw [bx];exact natble.mp h.2)
 | lst gs=>have h:=ab h;exact .lst (b7 h.1) (by rw [bx];exact natble.mp h.2)
 | dct gs =>
  have h:=ab h
  cases gs with
  | nil=>exact .dct0
  | cons g gs=>exact .dct (tz h.1) (Nat.le_trans (Nat.le_of_eq (nQ (ih:=gE fn n) (gs:=g :: gs) (ts:=dk t))) (natble.mp h.2))
 | comp elt g=>have h:=ab h;have h2:=ab h.2;exact .comp (H _ _ h.1) (eD h2.1) (gp h2.2)
 | compR elt gs =>
  have h:=ab h
  have h2:=ab h.2
  have h3:=ab h2.2
  have h4:=ab h3.2
  exact .compR (b7 h.1) (by rw [bx];exact natble.mp h2.1) (lookK_eq.symm.trans (ce h3.1)) rfl (eD h4.1) (gp h4.2)
 | neg g =>
  have h:=ab h
  cases g<;>first | exact (Bool.false_ne_true h.1).elim | skip
  cases n with
  | zero=>exact (Bool.false_ne_true h.2).elim
  | succ n=>exact .neg
end
theorem RX.out {fn:List Nat} {sc:Scope} {g:GE} {e:Expr} (r:RX fn sc g e):RX1 (RX fn sc) fn sc g e:=by
 obtain ⟨n,t,h,rfl⟩:=r
 cases n with
 | zero=>exact (Bool.false_ne_true h).elim
 | succ n=>exact ox _ _ h
end Gh
end
section
namespace Gh
open PySem PyProof.Rows PySem.W PySem.SeqAt PySem.Calls
section
noncomputable def sP (s:Stmt):Pos:=s.pos
noncomputable def sE (s:Stmt):List Expr:=Gt.svK s fun ξ ξ ξ ξ l ξ ξ=>l
noncomputable def sB (s:Stmt):List Stmt:=Gt.svK s fun ξ ξ b ξ ξ ξ ξ=>b
noncomputable def sO (s:Stmt):List Stmt:=Gt.svK s fun ξ ξ ξ ξ ξ b ξ=>b
noncomputable def sM (s:Stmt):Bool:=Gt.svK s fun ξ ξ ξ ξ ξ ξ m=>m
noncomputable def hdS (l:List Stmt):Stmt:=@List.rec Stmt (fun ξ=>Stmt) (.Pass ⟨0,0,0,0⟩) (fun a ξ ξ=>a) l
noncomputable def tlS (l:List Stmt):List Stmt:=@List.rec Stmt (fun ξ=>List Stmt) [] (fun ξ t ξ=>t) l
noncomputable def s0 (s:Stmt):Expr:=hd (sE s)
noncomputable def s1 (s:Stmt):Expr:=hd (tl (sE s))
noncomputable def si (fn:List Nat) (xs:List Nat):List Expr→List Expr:=@List.rec Nat (fun ξ=>List Expr→List Expr) (fun ξ=>[]) (fun i ξ r ts=>.Name (gnm (hG fn i)) (eP (hd ts)) :: r (tl ts)) xs
noncomputable def kq (ih:GS→Stmt→Stmt) (gs:List GS):List Stmt→List Stmt:=@List.rec GS (fun ξ=>List Stmt→List Stmt) (fun ξ=>[]) (fun g ξ r ts=>ih g (hdS ts) :: r (tlS ts)) gs
noncomputable def nm (fn:List Nat) (i:Nat) (t:Expr):Expr:=.Name (gnm (hG fn i)) (eP t)
noncomputable def gS1 (fn:List Nat) (ge:GE→Expr→Expr) (ih:GS→Stmt→Stmt) (g:GS) (t:Stmt):Stmt:=GS.casesOn g
 (fun i g=>.Assign [nm fn i (s0 t)] (ge g (s1 t)) (sP t))
 (fun o f g=>.Assign [.Attribute (ge o (c0 (s0 t))) (gnm f) (eP (s0 t))] (ge g (s1 t)) (sP t))
 (fun o i g=>.Assign [.Subscript (ge o (c0 (s0 t))) (ge i (c1 (s0 t))) (eP (s0 t))] (ge g (s1 t)) (sP t))
 (fun xs g=>.Assign [.Tuple (si fn xs (ch (s0 t))) (kN (s0 t)) (eP (s0 t))] (ge g (s1 t)) (sP t))
 (fun i ξ g=>.AugAssign (nm fn i (s0 t)) .Add (ge g (s1 t)) (sP t))
 (fun o i ξ g=>.AugAssign (.Subscript (ge o (c0 (s0 t))) (ge i (c1 (s0 t))) (eP (s0 t))) .Add (ge g (s1 t)) (sP t))
 (fun g=>@Bool.rec (fun ξ=>Stmt) (.Expr (ge g (s0 t)) (sP t)) (.Pass (sP t)) (sM t))
 (fun g=>@Bool.rec (fun ξ=>Stmt) (.Return (some (ge g (s0 t))) (sP t)) (.Return none (sP t)) (sM t))
 (fun c a b=>.If (ge c (s0 t)) (kq ih a (sB t)) (kq ih b (sO t)) (sP t))
 (fun i g b=>.For (nm fn i (s0 t)) (ge g (s1 t)) (kq ih b (sB t)) [] (sP t))
 (fun xs g b=>.For (.Tuple (si fn xs (ch (s0 t))) (kN (s0 t)) (eP (s0 t))) (ge g (s1 t)) (kq ih b (sB t)) [] (sP t))
 (fun i gs b=>.For (nm fn i (s0 t)) (.Call (.Name (gnm iS) (eP (c0 (s1 t)))) (gk ge gs (tl (ch (s1 t)))) [] (eP (s1 t))) (kq ih b (sB t)) [] (sP t))
 t
noncomputable def gS (fn:List Nat) (N n:Nat):GS→Stmt→Stmt:=@Nat.rec (fun ξ=>GS→Stmt→Stmt) (fun ξ t=>t) (fun ξ ih=>gS1 fn (gE fn N) ih) n
noncomputable def jN (fn:List Nat) (sc:Scope) (i:Nat):Bool:=tP fn i&&jQ (aD (gcp (hG fn i)) sc.names)
noncomputable def kM (op:BO):Bool:=op.isAdd
noncomputable def eO (g:GE):Bool:=match g with | .cnone=>true | _=>false
noncomputable def cB (g:GE):Bool:=match g with | .comp _ _=>true | .compR _ _=>true | _=>false
noncomputable def oU (g:GE):Bool:=match g with | .tup _=>true | _=>false
noncomputable def qy (fn:List Nat) (sc:Scope) (xs:List Nat):Bool:=@List.rec Nat (fun ξ=>Bool) true (fun i ξ r=>jN fn sc i&&r) xs
noncomputable def okB (ih:GS→Stmt→Bool) (gs:List GS):List Stmt→Bool:=@List.rec GS (fun ξ=>List Stmt→Bool) (fun ξ=>true) (fun g ξ r ts=>ih g (hdS ts)&&r (tlS ts)) gs
noncomputable def okA (p:Str×NameKind) (l:List Nat):Bool:=not (oO p.1 l)||(match p.2 with | .local=>false | .cell=>false | _=>true)
noncomputable def qY (names:List (Str×NameKind)) (l:List Nat):Bool:=@List.rec (Str×NameKind) (fun ξ=>Bool) true (fun p ξ ih=>okA p l&&ih) names
noncomputable def oA (fn:List Nat) (i:Nat) (g:GE) (t:Stmt):Bool:=not (cB g)||(Nat.beq (eP (s0 t)).line (eP (s1 t)).line&&qY (sC (s1 t)).names (gcp (hG fn i)))
noncomputable def okS1 (fn:List Nat) (sc:Scope) (oe:GE→Expr→Bool) (ih:GS→Stmt→Bool) (g:GS) (t:Stmt):Bool:=GS.casesOn g
 (fun i g=>jN fn sc i&&(oe g (s1 t)&&oA fn i g t))
 (fun o f g=>oe o (c0 (s0 t))&&(eF f flds&&(oe g (s1 t)&&not (cB g))))
 (fun o i g=>oe o (c0 (s0 t))&&(oe i (c1 (s0 t))&&oe g (s1 t)))
 (fun xs g=>qy fn sc xs&&(oe g (s1 t)&&(not (oU g)&&not (cB g))))
 (fun i op g=>jN fn sc i&&(kM op&&oe g (s1 t)))
 (fun o i op g=>oe o (c0 (s0 t))&&(oe i (c1 (s0 t))&&(kM op&&oe g (s1 t))))
 (fun g=>@Bool.rec (fun ξ=>Bool) (oe g (s0 t)&&not (cB g)) (eO g) (sM t))
 (fun g=>@Bool.rec (fun ξ=>Bool) (oe g (s0 t)) (eO g) (sM t))
 (fun c a b=>oe c (s0 t)&&(okB ih a (sB t)&&okB ih b (sO t)))
 (fun i g b=>jN fn sc i&&(oe g (s1 t)&&okB ih b (sB t)))
 (fun xs g b=>qy fn sc xs&&(oe g (s1 t)&&okB ih b (sB t)))
 (fun i gs b=>jN fn sc i&&(okL oe gs (tl (ch (s1 t)))&&(b5 gs 20&&(aT (aD (gcp iS) sc.names)&&okB ih b (sB t)))))
 true
noncomputable def okS (fn:List Nat) (sc:Scope) (N n:Nat):GS→Stmt→Bool:=@Nat.rec (fun ξ=>GS→Stmt→Bool) (fun ξ ξ=>false) (fun ξ ih=>okS1 fn sc (okE fn sc N) ih) n
end
section
variable {fn:List Nat} {sc:Scope} {N n:Nat}
theorem eH {i:Nat} (h:jN fn sc i=true):fn[i]?=some (hG fn i)∧ax sc (hG fn i):=by
 have h:=ab h
 exact ⟨lY h.1,lookK_eq.symm.trans (eM h.2)⟩
theorem lJ {xs:List Nat} (h:qy fn sc xs=true):∀ {ts},RTs fn sc xs (si fn xs ts):=by
 induction xs with
 | nil=>intro ts;exact .nil
 | cons i xs ih =>
  intro ts
  have h:=ab (show (jN fn sc i&&qy fn sc xs)=true from h)
  have e:=eH h.1
  exact .cons e.1 e.2 (ih h.2)
theorem mC {names:List (Str×NameKind)} {k:Nat} (h:qY names (gcp k)=true):(names.any fun(n,kk)=>n==gnm k&&(kk==.local||kk==.cell))=false:=by
 induction names with
 | nil=>rfl
 | cons p names ih =>
  have h:=ab (show (okA p (gcp k)&&qY names (gcp k))=true from h)
  rw [List.any_cons,ih h.2,Bool.or_false]
  have h1:=h.1
  unfold okA oO at h1
  cases e:p.1==gnm k with
  | false=>show (p.1==gnm k&&_)=false;rw [e];rfl
  | true =>
   rw [beq_iff_eq.mp e,ma,eJ] at h1
   show (p.1==gnm k&&(p.2==.local||p.2==.cell))=false
   rw [e]
   revert h1
   cases p.2<;>intro h1<;>first | rfl | exact (Bool.false_ne_true h1).elim
theorem cu {g:GE} {t:Expr} (h:(not (cB g))=true):aN (gE fn n g t)=true:=by
 cases n with
 | zero=>rfl
 | succ n=>cases g<;>first | rfl | exact (Bool.false_ne_true h).elim
theorem nh {g:GE} {t:Expr} (h:(not (oU g))=true):kG (gE fn n g t)=true:=by
 cases n with
 | zero=>rfl
 | succ n=>cases g<;>first | rfl | exact (Bool.false_ne_true h).elim
theorem jT {op:BO} (h:kM op=true):op=.add:=jt h
theorem gN {g:GE} (h:eO g=true):g=.cnone:=by cases g<;>first | rfl | exact (Bool.false_ne_true h).elim
noncomputable def RQ (fn:List Nat) (sc:Scope) (g:GS) (e:Stmt):Prop:=∃ N n t,okS fn sc (N+1) n g t=true∧e=gS fn (N+1) n g t
noncomputable abbrev RQs (fn:List Nat) (sc:Scope):=F2 (RQ fn sc)
theorem tw {fn:List Nat} {sc:Scope} {N:Nat} (n:Nat):∀ g t,okS fn sc (N+1) n g t=true→RQ fn sc g (gS fn (N+1) n g t):=fun g t h=>⟨N,n,t,h,rfl⟩
theorem fc {gs:List GS}:∀ {ts},okB (okS fn sc (N+1) n) gs ts=true→RQs fn sc gs (kq (gS fn (N+1) n) gs ts):=by
 induction gs with
 | nil=>intro ts h;exact .nil
 | cons g gs ih =>
  intro ts h
  have h2:=ab (show (okS fn sc (N+1) n g (hdS ts)&&okB (okS fn sc (N+1) n) gs (tlS ts))=true from h)
  exact .cons (tw _ _ _ h2.1) (ih h2.2)
theorem uN {i:Nat} {g:GE} {t:Stmt} (hl:jN fn sc i=true) (he:okE fn sc (N+1) g (s1 t)=true) (ha:oA fn i g t=true):RQ1 (RX fn sc) (RQ fn sc) fn sc (.assign i g) (.Assign [nm fn i (s0 t)] (gE fn (N+1) g (s1 t)) (sP t)):=by
 have e:=eH hl
 cases hc:cB g with
 | false=>exact .assign e.1 e.2 (bO _ _ _ he) (cu (by rw [hc];rfl))
 | true =>
  unfold oA at ha
  rw [hc] at ha
  have ha:=ab (show (Nat.beq (eP (s0 t)).line (eP (s1 t)).line&&qY (sC (s1 t)).names (gcp (hG fn i)))=true from ha)
  have hp:((eP (s0 t)).line==(eP (s1 t)).line)=true:=beq_iff_eq.mpr (natbeq.mp ha.1)
  cases g<;>first | exact (Bool.false_ne_true hc).elim | skip
  ·have h:=ab he;have h2:=ab h.2;exact .assignC e.1 e.2 (bO _ _ _ h.1) (eD h2.1) (gp h2.2) hp (mC ha.2)
  ·have h:=ab he
   have h2:=ab h.2
   have h3:=ab h2.2
   have h4:=ab h3.2
   exact .assignR e.1 e.2 (b7 h.1) (by rw [bx];exact natble.mp h2.1) (lookK_eq.symm.trans (ce h3.1)) rfl (eD h4.1) (gp h4.2) hp (mC ha.2)
theorem ou:∀ g t,okS fn sc (N+1) (n+1) g t=true→RQ1 (RX fn sc) (RQ fn sc) fn sc g (gS fn (N+1) (n+1) g t):=by
 intro g t h
 have E:=bO (fn:=fn) (sc:=sc) (N+1)
 cases g with
 | assign i g=>have h:=ab h;have h2:=ab h.2;exact uN h.1 h2.1 h2.2
 | setattr o f g=>have h:=ab h;have h2:=ab h.2;have h3:=ab h2.2;exact .setattr (E _ _ h.1) (i5 h2.1) (E _ _ h3.1) (cu h3.2)
 | setsub o i g=>have h:=ab h;have h2:=ab h.2;exact .setsub (E _ _ h.1) (E _ _ h2.1) (E _ _ h2.2)
 | unpack xs g=>have h:=ab h;have h2:=ab h.2;have h3:=ab h2.2;exact .unpack (lJ h.1) (E _ _ h2.1) (nh h3.1) (cu h3.2)
 | aug i op g =>
  have h:=ab h;have h2:=ab h.2
  have e:=eH h.1
  rw [jT h2.1]
  exact .aug e.1 e.2 (E _ _ h2.2)
 | augsub o i op g =>
  have h:=ab h;have h2:=ab h.2;have h3:=ab h2.2
  rw [jT h3.1]
  exact .augsub (E _ _ h.1) (E _ _ h2.1) (E _ _ h3.2)
 | expr g =>
  change @Bool.rec (fun ξ=>Bool) (okE fn sc (N+1) g (s0 t)&&not (cB g)) (eO g) (sM t)=true at h
  show RQ1 (RX fn sc) (RQ fn sc) fn sc (.expr g) (@Bool.rec (fun ξ=>Stmt) (.Expr (gE fn (N+1) g (s0 t)) (sP t)) (.Pass (sP t)) (sM t))
  cases e:sM t with
  | false=>rw [e] at h;have h:=ab h;exact .expr (E _ _ h.1) (cu h.2)
  | true=>rw [e] at h;rw [gN h];exact .pass
 | ret g =>
  change @Bool.rec (fun ξ=>Bool) (okE fn sc (N+1) g (s0 t)) (eO g) (sM t)=true at h
  show RQ1 (RX fn sc) (RQ fn sc) fn sc (.ret g) (@Bool.rec (fun ξ=>Stmt) (.Return (some (gE fn (N+1) g (s0 t))) (sP t)) (.Return none (sP t)) (sM t))
  cases e:sM t with
  | false=>rw [e] at h;exact .ret (E _ _ h)
  | true=>rw [e] at h;rw [gN h];exact .ret0
 | ifs c a b=>have h:=ab h;have h2:=ab h.2;exact .ifs (E _ _ h.1) (fc h2.1) (fc h2.2)
 | for1 i g b=>have h:=ab h;have h2:=ab h.2;have e:=eH h.1;exact .for1 e.1 e.2 (E _ _ h2.1) (fc h2.2)
 | forN xs g b=>have h:=ab h;have h2:=ab h.2;exact .forN (lJ h.1) (E _ _ h2.1) (fc h2.2)
 | forR i gs b =>
  have h:=ab h
  have h2:=ab h.2
  have h3:=ab h2.2
  have h4:=ab h3.2
  have e:=eH h.1
  exact .forR e.1 e.2 (b7 h2.1) (by rw [bx];exact natble.mp h3.1) (lookK_eq.symm.trans (ce h4.1)) rfl (fc h4.2)
 | stop=>exact .stop
end
theorem RQ.out {fn:List Nat} {sc:Scope} {g:GS} {e:Stmt} (r:RQ fn sc g e):RQ1 (RX fn sc) (RQ fn sc) fn sc g e:=by
 obtain ⟨N,n,t,h,rfl⟩:=r
 cases n with
 | zero=>exact (Bool.false_ne_true h).elim
 | succ n=>exact ou _ _ h
noncomputable def gB (fn:List Nat) (b:List GS) (ts:List Stmt):List Stmt:=kq (gS fn 40 40) b ts
noncomputable def oz (fn:List Nat) (sc:Scope) (b:List GS) (ts:List Stmt):Bool:=okB (okS fn sc 40 40) b ts
theorem m8 {fn:List Nat} {sc:Scope} {b:List GS} {ts:List Stmt} (h:oz fn sc b ts=true):RQs fn sc b (gB fn b ts):=fc (N:=39) h
end Gh
end
section
namespace Gh
open PySem PyProof.Rows PySem.W PySem.SeqAt PySem.Calls
section
universe u
variable {α:Sort u} {d y:α}
theorem af {k:V→St→α} {r:RE} (h:@RE.rec (fun ξ=>α) d k r=y) (hd:d≠y):∃ v σ,r=.ok v σ∧k v σ=y:=by
 cases r with
 | fail=>exact absurd h hd
 | ok v σ=>exact ⟨v,σ,rfl,h⟩
theorem b6 {k:Bool→St→α} {r:RT} (h:@RT.rec (fun ξ=>α) d k r=y) (hd:d≠y):∃ v σ,r=.ok v σ∧k v σ=y:=by
 cases r with
 | fail=>exact absurd h hd
 | ok v σ=>exact ⟨v,σ,rfl,h⟩
theorem bN {k:List V→St→α} {r:RL} (h:@RL.rec (fun ξ=>α) d k r=y) (hd:d≠y):∃ v σ,r=.ok v σ∧k v σ=y:=by
 cases r with
 | fail=>exact absurd h hd
 | ok v σ=>exact ⟨v,σ,rfl,h⟩
theorem kC {k:List (V×V)→St→α} {r:RP} (h:@RP.rec (fun ξ=>α) d k r=y) (hd:d≠y):∃ v σ,r=.ok v σ∧k v σ=y:=by
 cases r with
 | fail=>exact absurd h hd
 | ok v σ=>exact ⟨v,σ,rfl,h⟩
theorem oj {k:St→α} {r:RU} (h:@RU.rec (fun ξ=>α) d k r=y) (hd:d≠y):∃ σ,r=.ok σ∧k σ=y:=by
 cases r with
 | fail=>exact absurd h hd
 | ok σ=>exact ⟨σ,rfl,h⟩
theorem dG {k:List V→α} {r:LO} (h:@LO.rec (fun ξ=>α) d k r=y) (hd:d≠y):∃ v,r=.ok v∧k v=y:=by
 cases r with
 | fail=>exact absurd h hd
 | ok v=>exact ⟨v,rfl,h⟩
theorem ot {k:Nat→List V→α} {r:OL} (h:@OL.rec (fun ξ=>α) d k r=y) (hd:d≠y):∃ n v,r=.ok n v∧k n v=y:=by
 cases r with
 | fail=>exact absurd h hd
 | ok n v=>exact ⟨n,v,rfl,h⟩
theorem k6 {n1 n2:α} {r:B3} (h:@B3.rec (fun ξ=>α) d n1 n2 r=y) (hd:d≠y):∃ b,r=b3 b∧(bif b then n2 else n1)=y:=by
 cases r with
 | und=>exact absurd h hd
 | no=>exact ⟨false,rfl,h⟩
 | yes=>exact ⟨true,rfl,h⟩
end
noncomputable def PT (C:Cx) (ι:Im) (σ:St) (s:Shared) (σ':St) (b:Bool):Bool→Shared→Prop :=
 fun x s'=>x=b∧Sh s s'∧∃ ι',SR C ι' σ' s'.heap∧SS X0 ι σ s.heap ι' σ' s'.heap
noncomputable def PL (C:Cx) (ι:Im) (σ:St) (s:Shared) (σ':St) (vs:List V):List Value→Shared→Prop :=
 fun xs s'=>Sh s s'∧∃ ι',SR C ι' σ' s'.heap∧SS X0 ι σ s.heap ι' σ' s'.heap∧VRs C ι' s'.heap vs xs
noncomputable def aG (C:Cx) (n:Nat) (ih:Ev):Prop:=∀ {A:Around} {ι:Im} {σ:St} {s:Shared} {L:Addr} {env:Env} {fn:List Nat} {ρ:List V} {g:GE} {ex:Expr} {v:V} {σ':St} {E:Value→Shared→Prop},
 RM A n→EOk env L→RX fn env.scope g ex→FS C ι σ s.heap L (fn.map gnm) ρ→ih.e ρ g σ=.ok v σ'→wpAny (model C.prog C.w) A (eval ex env) (PE C ι σ s σ' v) E s
noncomputable def hO (C:Cx) (n:Nat) (ih:Ev):Prop:=∀ {A:Around} {ι:Im} {σ:St} {s:Shared} {L:Addr} {env:Env} {fn:List Nat} {ρ:List V} {g:GE} {ex:Expr} {b:Bool} {σ':St} {E:Value→Shared→Prop},
 RM A n→EOk env L→RX fn env.scope g ex→FS C ι σ s.heap L (fn.map gnm) ρ→ih.t ρ g σ=.ok b σ' →
 wpAny (model C.prog C.w) A (isTrue ex env (eval ex env)) (PT C ι σ s σ' b) E s∧wpAny (model C.prog C.w) A (eval ex env) (PE C ι σ s σ' (.bool b)) E s
noncomputable def CB (Q:Value→Shared→Prop):Result→Shared→Prop:=fun r s'=>match r with | .ok (.ret v)=>Q v s' | _=>False
noncomputable def dU (C:Cx) (n:Nat) (ih:Ev):Prop:=∀ {A:Around} {ι:Im} {σ:St} {s:Shared} {i:Ps} {vs:List V} {xs:List Value} {v:V} {σ':St},
 RM A n→SR C ι σ s.heap→VRs C ι s.heap vs xs→ih.f i vs σ=.ok v σ'→codeAny (model C.prog C.w) A (.call (.ref (C.fa i)) ⟨xs,[]⟩) (CB (PE C ι σ s σ' v)) s
section
variable {C:Cx} {n:Nat} {ih:Ev} {ι ι':Im} {σ σ':St} {A:Around} {s:Shared} {E:Value→Shared→Prop} {L:Addr} {env:Env} {fn:List Nat} {ρ:List V} {a b v:V} {x y z:Value}
theorem bv {g:GE} {e:Expr} {es:List Expr} (h:RX fn env.scope g e):starEach (e :: es) env=(false,eval e env) :: starEach es env:=by cases h.out<;>rfl
theorem a9 {gs:List GE} {es:List Expr} {pos:Pos} (h:RXs fn env.scope gs es):(backTo pos (starEach es env)).any (·.1)=false:=by
 induction es generalizing gs with
 | nil=>rfl
 | cons e es ih=>cases h with
  | cons a b=>rw [bv a];show (false||_)=false;rw [Bool.false_or];exact ih b
theorem iK {gs:List GE} {es:List Expr} {pos:Pos} (h:RXs fn env.scope gs es):(backTo pos (starEach es env)).all (fun x=>!x.1)=true:=by
 induction es generalizing gs with
 | nil=>rfl
 | cons e es ih=>cases h with
  | cons a b=>rw [bv a];show (true&&_)=true;rw [Bool.true_and];exact ih b
theorem fA (H:aG C n ih) (rm:RM A n) (eo:EOk env L) {pos:Pos}:∀ {gs:List GE} {es:List Expr},RXs fn env.scope gs es→∀ {ι:Im} {σ σ':St} {s:Shared} {vs:List V},FS C ι σ s.heap L (fn.map gnm) ρ→evs ih ρ gs σ=.ok vs σ' →
  wpAny (model C.prog C.w) A (spliced (backTo pos (starEach es env))) (PL C ι σ s σ' vs) E s:=by
 intro gs
 induction gs with
 | nil =>
  intro es r ι σ σ' s vs F h
  cases r
  injection h with h1 h2
  subst h1 h2
  exact spliced_nil ⟨Sh.refl,ι,F.sr,SS.refl,.nil⟩
 | cons g gs ihh =>
  intro es r ι σ σ' s vs F h
  cases r with
  | @cons _ e _ es r rs =>
  change @RE.rec (fun ξ=>RL) .fail (fun v σ=>@RL.rec (fun ξ=>RL) .fail (fun vs σ=>.ok (v :: vs) σ) (evs ih ρ gs σ)) (ih.e ρ g σ)=_ at h
  refine ct fun ng=>?_
  obtain ⟨v,σ1,e1,h1⟩:=af h nofun
  obtain ⟨ws,σ2,e2,h2⟩:=bN h1 nofun
  injection h2 with h3 h4
  subst h3 h4
  refine ng ?_
  rw [bv r]
  refine spliced_cons (ao F (H rm eo r F e1) fun ι1 s1 x a F1 S1 r1=>?_)
  exact wm (ihh rs F1 e2) (fun xs s2 ⟨a2,ι2,R2,S2,r2⟩=>⟨a.trans a2,ι2,R2,S1.trans S2,.cons (F1.sr.vr S2 r1) r2⟩)
theorem vg (eo:EOk env L) (k:KOk C) {i kk:Nat} {p:Pos} (hi:fn[i]?=some kk) (hl:ax env.scope kk) (F:FS C ι σ s.heap L (fn.map gnm) ρ) (h:aP (nth ρ i) RE.fail (.ok (nth ρ i) σ)=.ok v σ') :
  wpAny (model C.prog C.w) A (eval (.Name (gnm kk) p) env) (PE C ι σ s σ' v) E s:=by
 obtain ⟨hu,h1⟩:=bk h reN
 injection h1 with h1 h2
 subst h1 h2
 obtain ⟨m,hm,q⟩:=F.ns
 obtain ⟨v,hv,r⟩:=q i (gnm kk) (by rw [List.getElem?_map,hi];rfl) hu
 exact wpAny_Name (wpAny_loadName_local eo.kind hl (eo.loc▸hm) hv (PE.here F.sr r)) (k.nm.dbg _)
end
end Gh
end
section
namespace Gh
open PySem PyProof.Rows PySem.W PySem.SeqAt PySem.Calls
theorem gC:∀ {l:List Str} {m:List Value},l.length=m.length→∀ n∈l,(List.lookup n (l.zip m)).isSome=true
 | [],_,_,n,h=>nomatch h
 | a :: l,[],h,_,_=>nomatch h
 | a :: l,b :: m,h,n,hn=>by
  rw [List.zip_cons_cons,List.lookup_cons]
  cases e:n==a with
  | true=>rfl
  | false =>
   rcases List.mem_cons.mp hn with rfl | hn
   ·simp at e
   ·exact gC (Nat.succ.inj h) n hn
theorem hJ:∀ {l:List Str} {m:List Value},l.length=m.length→l.Nodup→l.filterMap (fun n=>(List.lookup n (l.zip m)).map (Prod.mk n))=l.zip m:=by
 have key:∀ {l:List Str} {m:List Value} (q:List (Str×Value)),l.length=m.length→l.Nodup→(∀ p∈q,∀ n∈l,p.1≠n)→l.filterMap (fun n=>(List.lookup n (q++l.zip m)).map (Prod.mk n))=l.zip m:=by
  intro l
  induction l with
  | nil=>intro m q h hn hq;rfl
  | cons a l ih =>
   intro m q h hn hq
   cases m with
   | nil=>exact nomatch h
   | cons b m =>
    have hl:List.lookup a (q++(a,b) :: l.zip m)=some b:=by
     clear ih hn
     induction q with
     | nil=>rw [List.nil_append,List.lookup_cons];simp
     | cons p q ihq =>
      obtain ⟨p1,p2⟩:=p
      rw [List.cons_append,List.lookup_cons]
      have:(a==p1)=false:=by
       have:=hq (p1,p2) List.mem_cons_self a List.mem_cons_self
       exact beq_eq_false_iff_ne.mpr fun c=>this c.symm
      rw [this]
      exact ihq fun p hp=>hq p (List.mem_cons_of_mem _ hp)
    rw [List.zip_cons_cons,List.filterMap_cons,hl]
    simp only [Option.map_some]
    congr 1
    have:=ih (m:=m) (q++[(a,b)]) (Nat.succ.inj h) (List.nodup_cons.mp hn).2 (fun p hp n hn'=>by
     rcases List.mem_append.mp hp with hp | hp
     ·exact hq p hp n (List.mem_cons_of_mem _ hn')
     ·rcases List.mem_cons.mp hp with rfl | hp
      ·rintro rfl;exact (List.nodup_cons.mp hn).1 hn'
      ·exact nomatch hp)
    rw [List.append_assoc] at this
    exact this
 intro l m h hn
 exact key [] h hn (fun p hp=>nomatch hp)
theorem hF:seqItems? Value.none=pure none:=rfl
theorem dS (name qual:Str) (ps:List Arg) (body:List Stmt) (scope:Scope) (pm cd doc ct:Value) (an:Option Addr) (args:List Value) (hl:(ps.map (·.arg)).length=args.length) (hn:(ps.map (·.arg)).Nodup) :
  bindArgs (fnOf name qual ⟨[],ps,none,[],[],none,[]⟩ body scope .none .none doc pm an cd ct) ⟨args,[]⟩=pure ((ps.map (·.arg)).zip args):=by
 unfold bindArgs
 simp only [fnOf,List.map_nil,List.nil_append,List.forIn_nil,pure_bind,hF]
 generalize ps.map (·.arg)=l at hl hn ⊢
 have c1:(decide (args.length > l.length)&&(none:Option Arg).isNone)=false:=by rw [hl];simp
 have c2:List.filter (fun n=>(List.lookup n (l.zip args)).isNone) (List.take (l.length - (List.drop (((none:Option (Array Value)).getD #[]).toList.length - l.length) ((none:Option (Array Value)).getD #[]).toList).length) l)=[]:=by
  rw [List.filter_eq_nil_iff]
  intro a ha
  have:=gC hl a (List.mem_of_mem_take ha)
  rw [Option.isNone_eq_false_iff.mpr this];exact nofun
 rw [c1,c2]
 simp only [Bool.false_eq_true,if_false,List.isEmpty_nil,Bool.not_true,Option.getD_none,List.append_nil,List.zip_nil_right,List.drop_nil,List.forIn_nil,pure_bind]
 rw [hJ hl hn]
end Gh
end
section
namespace Gh
open PySem PyProof.Rows PySem.W PySem.SeqAt PySem.Calls
structure GOk (C:Cx):Prop extends KOk C where
 glob:∃ mg mb,C.h0.Ns mainGlobals mg∧C.h0.Ns builtinsNs mb∧∀ i v,cS i=v→v≠.unb→∃ x,(mg (gnm i)=some x∨(mg (gnm i)=none∧mb (gnm i)=some x))∧∀ ι h,VR C ι h v x
 nolimit:C.h0.NoLimit
 keepF:∀ i,keepIn C.K (.ref (C.fa i))=true
 keepC:∀ c,keepIn C.K (.ref (C.ca c))=true
section
variable {C:Cx} {n:Nat} {ih:Ev} {ι ι':Im} {σ σ':St} {A:Around} {s:Shared} {E:Value→Shared→Prop} {L:Addr} {env:Env} {fn:List Nat} {ρ:List V} {a b v:V} {x y z:Value}
theorem iI (eo:EOk env L) (k:GOk C) {i:Nat} {p:Pos} (R:SR C ι σ s.heap) (hg:bc env.scope i) (hv:cS i=v) (hn:v≠.unb) {Q:Value→Shared→Prop} (h:∀ x,(∀ ι h,VR C ι h v x)→Q x s) :
  wpAny (model C.prog C.w) A (eval (.Name (gnm i) p) env) Q E s:=by
 obtain ⟨mg,mb,h1,h2,h3⟩:=k.glob
 obtain ⟨x,hx,hr⟩:=h3 i v hv hn
 refine Calls.Name_function_global eo.kind hg ?_ (k.nm.dbg _)
 have g1:s.heap.Ns env.globals mg:=eo.glob▸h1.keeps R.base
 have g2:s.heap.Ns env.builtins mb:=eo.bi▸h2.keeps R.base
 rcases hx with e | ⟨e,e'⟩
 ·exact Calls.loadGlobal_global g1 e (h x hr)
 ·exact Calls.loadGlobal_builtin g1 e g2 e' (h x hr)
theorem RM.under {C:Addr} {rest:List Value} (rm:RM A (n+1)):RM (A.under (.builtin "type.__call__" ⟨.ref C :: rest,[]⟩)) n:=by
 have w:(Code.builtin "type.__call__" ⟨.ref C :: rest,[]⟩).weight=1:=by
  unfold Code.weight
  rw [show (Code.builtin "type.__call__" ⟨.ref C :: rest,[]⟩).isCreation=true from rfl,show (Code.builtin "type.__call__" ⟨.ref C :: rest,[]⟩).isGuard=false from (by decide +kernel:guardIds.contains "type.__call__"=false)]
  rfl
 have u:(Code.builtin "type.__call__" ⟨.ref C :: rest,[]⟩).cUnits=1:=rfl
 obtain ⟨h1,h2,h3⟩:=rm
 refine ⟨h1,?_,?_⟩
 ·show A.depth+_+2 * n+10 < _;rw [w];omega
 ·show A.units+_+20 * n+200 < _;rw [u];omega
theorem bK {M:Model} {f:Value} {xs:List Value} {Q:Value→Shared→Prop} (h:codeAny M A (.call f ⟨xs,[]⟩) (CB Q) s):wpAny M A (call f xs) Q E s :=
 wpAny_call (codeAny_mono h fun r s' z=>by
  rcases r with e | (v | _ | _ | _)<;>first | exact z | exact z.elim)
theorem np (k:GOk C) (H:dU C n ih) (rm:RM A (n+1)) {c:Ps} {vs:List V} {xs:List Value} (R:SR C ι σ s.heap) (rs:VRs C ι s.heap vs xs) (h:new ih c vs σ=.ok v σ') :
  codeAny (model C.prog C.w) A (.call (.ref (C.ca c)) ⟨xs,[]⟩) (CB (PE C ι σ s σ' v)) s:=by
 unfold new at h
 cases e:Tr.get .no c jn with
 | no=>rw [e] at h;injection h
 | mk init ms =>
  rw [e] at h
  change @RE.rec (fun ξ=>RE) .fail (fun r τ=>jS r (.ok (.ref σ.n) τ) .fail) (ih.f init (.ref σ.n :: vs) ⟨Tr.put .no (.ob true (.inst c [])) σ.n σ.h,σ.n.succ⟩)=_ at h
  obtain ⟨r,σ2,e2,h2⟩:=af h reN
  obtain ⟨k1,k2,k3⟩:=k.init c init ms e
  obtain ⟨hh,g,d,t,os⟩:=s
  have X:C.K.In hh:=k.inK.keeps R.base
  refine make_core (makes_of X k3) (looks_findIn X k1) (fun self=>bind_fn X self (beq_iff_eq.mp k2)) (.inl rfl) ?_
  have hx:((hh.push emptyDict).push (instObj (C.ca c) hh.objs.size)).get? (hh.objs.size+1)=some (instObj (C.ca c) hh.objs.size):=by heap_get
  have hd:((hh.push emptyDict).push (instObj (C.ca c) hh.objs.size)).get? hh.objs.size=some (dictOf [] 0):=Heap.get?_push_of_some _ (Heap.get?_push_size _ rfl)
  have old:∀ b o,hh.get? b=some o→((hh.push emptyDict).push (instObj (C.ca c) hh.objs.size)).get? b=some o:=fun b o e=>Heap.get?_push_of_some _ (Heap.get?_push_of_some _ e)
  have f1:hh.get? (hh.objs.size+1)=none:=by
   cases q:hh.get? (hh.objs.size+1) with
   | none=>rfl
   | some o=>exact absurd (Heap.lt_size q) (Nat.not_lt.mpr (Nat.le_succ _))
  obtain ⟨ι1,i1,R1,S1⟩:=SR.alloc (X:=X0) (p:=(hh.objs.size+1,hh.objs.size)) (o:=.inst c []) R old f1 (fresh hh) ⟨_,hd⟩ (fun ι' ext=>.inst [] 0 hx hd ⟨rfl,fun q hq=>nomatch hq⟩ (fun f hf=>absurd rfl hf) (fun f ξ=>rfl))
  have rs1:=R.vrs S1 rs
  have:=H (A:=A.under (.builtin "type.__call__" ⟨.ref (C.ca c) :: xs,[]⟩)) (s:=⟨(hh.push emptyDict).push (instObj (C.ca c) hh.objs.size),g,d,t,os⟩) rm.under R1 (.cons (.ref i1) rs1) e2
  refine codeAny_mono this fun r' s' z=>?_
  rcases r' with e | (v' | _ | _ | _)<;>first | exact z.elim | skip
  obtain ⟨a2,ι2,R2,S2,r2⟩:=z
  have hr:r=.none∧RE.ok (.ref σ.n) σ2=.ok v σ':=by cases r<;>first | exact ⟨rfl,h2⟩ | injection h2
  obtain ⟨rfl,h3⟩:=hr
  injection h3 with h3 h4
  subst h3 h4
  cases r2
  refine ⟨rfl,Sh.trans ⟨_,_,rfl⟩ a2,ι2,R2,S1.trans S2,.ref (S2.ext _ _ i1)⟩
theorem bc5 {vs:List V} (h:iC 5 vs σ=.ok v σ'):∃ w,vs=[w,.bi 6]∨vs=[w,.bi 4]:=by
 match vs,h with
 | [w,.bi 6],_=>exact ⟨w,.inl rfl⟩
 | [w,.bi 4],_=>exact ⟨w,.inr rfl⟩
theorem j8 (k:GOk C) (R:SR C ι σ s.heap) {i:Nat} {vs:List V} {xs:List Value} (rs:VRs C ι s.heap vs xs) (h:iC i vs σ=.ok v σ'):wpAny (model C.prog C.w) A (call (biV i) xs) (PE C ι σ s σ' v) E s:=by
 rcases i with _ | _ | _ | _ | _ | _ | i
 ·obtain ⟨w,rfl,h1⟩:=iV (show iC 0 vs σ=_ from h) nofun
  obtain ⟨x,rfl,r⟩:=rs.o1
  exact nu k.toCxOk R r h1
 ·injection h
 ·obtain ⟨w,rfl,h1⟩:=iV (show iC 2 vs σ=_ from h) nofun
  obtain ⟨x,rfl,r⟩:=rs.o1
  exact jy R r h1
 ·injection h
 ·obtain ⟨w,rfl,h1⟩:=iV (show iC 4 vs σ=_ from h) nofun
  obtain ⟨x,rfl,r⟩:=rs.o1
  exact mV k.toCxOk R r h1
 ·obtain ⟨w,e | e⟩:=bc5 h
  ·subst e
   obtain ⟨x,y,rfl,r,r2⟩:=rs.o2
   cases r2;exact iu R r (.inl rfl) h
  ·subst e
   obtain ⟨x,y,rfl,r,r2⟩:=rs.o2
   cases r2;exact iu R r (.inr rfl) h
 ·injection h
theorem ka (k:GOk C) (H:dU C n ih) (rm:RM A (n+1)) {vs:List V} {xs:List Value} (R:SR C ι σ s.heap) (rf:∀ ι h,VR C ι h a x) (rs:VRs C ι s.heap vs xs) (h:apply ih a vs σ=.ok v σ') :
  wpAny (model C.prog C.w) A (call x xs) (PE C ι σ s σ' v) E s:=by
 cases a with
 | fn i=>obtain rfl:=(rf ι s.heap).fnI;exact bK (H rm.pred R rs h)
 | cls c=>obtain rfl:=(rf ι s.heap).clsI;exact bK (np k @H rm R rs h)
 | bi i=>obtain rfl:=(rf ι s.heap).biI;exact j8 k R rs h
 | _=>injection h
theorem qC (k:GOk C) {vs:List V} (rf:∀ ι h,VR C ι h a x) (h:apply ih a vs σ=.ok v σ'):∀ h,C.K.In h→∃ kk,(kk=Keeper.frame∨kk=Keeper.machine∨kk=Keeper.boundFrame)∧Looks (model C.prog C.w) h (keeperOf x) kk:=by
 intro hh X
 cases a with
 | fn i=>obtain rfl:=(rf (fun ξ=>none) C.h0).fnI;exact keeps_K (k.keepF i) hh X
 | cls c=>obtain rfl:=(rf (fun ξ=>none) C.h0).clsI;exact keeps_K (k.keepC c) hh X
 | bi i =>
  cases rf (fun ξ=>none) C.h0
  refine ⟨.machine,.inr (.inl rfl),?_⟩
  unfold biV
  split<;>exact Looks.now
 | _=>injection h
theorem cE (H:aG C n ih) (rm:RM A n) (eo:EOk env L) {pos:Pos} {f:Value} {gs:List GE} {es:List Expr} {vs:List V} (rs:RXs fn env.scope gs es) (F:FS C ι σ s.heap L (fn.map gnm) ρ) (h:evs ih ρ gs σ=.ok vs σ') {Q:Args→Shared→Prop}
  (q:∀ ι1 s1 xs,Sh s s1→FS C ι1 σ' s1.heap L (fn.map gnm) ρ→SS X0 ι σ s.heap ι1 σ' s1.heap→VRs C ι1 s1.heap vs xs→Q ⟨xs,[]⟩ s1) :
  wpAny (model C.prog C.w) A (evalArgs f true (backTo pos (starEach es env)) []) Q E s:=by
 have hs:=fA (E:=E) @H rm eo (pos:=pos) rs F h
 cases es with
 | nil =>
  cases rs
  injection h with h1 h2
  subst h1 h2
  exact evalArgs_nil3 (q ι s [] Sh.refl F SS.refl .nil)
 | cons e es =>
  cases rs with
  | cons r rs =>
   rw [bv r] at hs ⊢
   exact evalArgs_plain (wm hs (fun xs s1 ⟨a1,ι1,R1,S1,r1⟩=>q ι1 s1 xs a1 (F.step R1 S1) S1 r1))
theorem sK (k:GOk C) (H:aG C n ih) (HF:dU C n ih) (rm:RM A (n+1)) (eo:EOk env L) {i:Nat} {w:V} {p p':Pos} {gs:List GE} {es:List Expr} (hg:bc env.scope i) (hv:cS i=w) (hw:w≠.unb)
  (rs:RXs fn env.scope gs es) (F:FS C ι σ s.heap L (fn.map gnm) ρ) {vs:List V} {σ1:St} (e1:evs ih ρ gs σ=.ok vs σ1) (h:apply ih w vs σ1=.ok v σ') :
  wpAny (model C.prog C.w) A (eval (.Call (.Name (gnm i) p) es [] p') env) (PE C ι σ s σ' v) E s:=by
 refine wpAny_Call_NameR (iI eo k F.sr hg hv hw fun f rf=>?_)
 refine callWith_of (P:=C.K.In) (by rw [a9 rs];rfl) (qC k rf h) ?_
 refine cE @H rm.pred eo rs F e1 fun ι1 s1 xs a1 F1 S1 r1=>?_
 exact ⟨k.inK.keeps F1.sr.base,eU a1 S1 (ka k @HF rm F1.sr rf r1 h)⟩
end
end Gh
end
section
namespace Gh
open PySem PyProof.Rows PySem.W PySem.SeqAt PySem.Calls
section
variable {C:Cx} {n:Nat} {ih:Ev} {ι ι':Im} {σ σ':St} {A:Around} {s:Shared} {E:Value→Shared→Prop} {L:Addr} {env:Env} {fn:List Nat} {ρ:List V} {a b v:V} {x y z:Value}
theorem kJ {c:Cell} (h:gH c true false=true):∃ w o,c=.ob w o∧∀ {ι h p},OR C ι h p o→∃ ob,h.get? p.1=some ob∧ob.cls=.type "list"∧ob.dict=none:=by
 refine ct fun ng=>?_
 obtain ⟨w,o,rfl,h1⟩:=bW (α:=Bool) (r:=true) h nofun
 refine ng ?_
 refine ⟨w,o,rfl,fun r=>?_⟩
 cases r with
 | lst _ a=>obtain ⟨n,a⟩:=a;exact ⟨_,a,rfl,rfl⟩
 | gap _ _ _ _ a=>obtain ⟨n,a⟩:=a;exact ⟨_,a,rfl,rfl⟩
 | plst _ a=>obtain ⟨n,a⟩:=a;exact ⟨_,a,rfl,rfl⟩
 | bag _ _ a=>obtain ⟨n,a⟩:=a;exact ⟨_,a,rfl,rfl⟩
 | emp=>injection h1
 | idct=>injection h1
 | sdct=>injection h1
 | kdct=>injection h1
 | inst=>injection h1
theorem kK {c:Cell} (h:gH c false true=true):∃ w o,c=.ob w o∧∀ {ι h p},OR C ι h p o→∃ ob,h.get? p.1=some ob∧ob.cls=.type "dict"∧ob.dict=none:=by
 refine ct fun ng=>?_
 obtain ⟨w,o,rfl,h1⟩:=bW (α:=Bool) (r:=true) h nofun
 refine ng ?_
 refine ⟨w,o,rfl,fun r=>?_⟩
 cases r with
 | lst=>injection h1
 | gap=>injection h1
 | plst=>injection h1
 | bag=>injection h1
 | emp a=>exact ⟨_,a,rfl,rfl⟩
 | idct R a=>obtain ⟨o,es,ep,e,c,_⟩:=a;exact ⟨_,e,c.1,c.2.1⟩
 | sdct R a=>obtain ⟨o,es,ep,e,c,_⟩:=a;exact ⟨_,e,c.1,c.2.1⟩
 | kdct R a=>obtain ⟨o,es,ep,e,c,_⟩:=a;exact ⟨_,e,c.1,c.2.1⟩
 | inst=>injection h1
theorem im (R:SR C ι σ s.heap) {m:BM} (ra:VR C ι s.heap a x) (h:mOk σ.h a m=true):s.TypeIs x (kX m)∧∀ ad,x=.ref ad→∃ ob,s.heap.get? ad=some ob∧ob.dict=none:=by
 have lst:(aC a false fun g=>gH (at_ σ.h g) true false)=true→s.TypeIs x "list"∧∀ ad,x=.ref ad→∃ ob,s.heap.get? ad=some ob∧ob.dict=none:=by
  intro h
  refine ct fun ng=>?_
  obtain ⟨g,rfl,h1⟩:=aB h nofun
  obtain ⟨w,o,e,h2⟩:=kJ (C:=C) h1
  obtain ⟨p,i,ob⟩:=R.obs _ _ _ e
  obtain ⟨_,_,rfl,z⟩:=ra.refI
  refine ng ?_
  rw [z] at i;obtain rfl:=Option.some.inj i
  obtain ⟨ob,e1,e2,e3⟩:=h2 ob
  exact ⟨⟨ob,e1,e2⟩,fun ad c=>by injection c with c;subst c;exact ⟨ob,e1,e3⟩⟩
 cases m with
 | append=>exact lst h
 | extend=>exact lst h
 | pop=>exact lst h
 | get =>
  cases ra with
  | @ref g ad dd z =>
   refine ct fun ng=>?_
   obtain ⟨w,o,e,h2⟩:=kK (C:=C) h
   obtain ⟨p,i,ob⟩:=R.obs _ _ _ e
   refine ng ?_
   rw [z] at i;obtain rfl:=Option.some.inj i
   refine ct fun ng=>?_
   obtain ⟨ob,e1,e2,e3⟩:=h2 ob
   refine ng ?_
   exact ⟨⟨ob,e1,e2⟩,fun ad c=>by injection c with c;subst c;exact ⟨ob,e1,e3⟩⟩
  | gd gq =>
   refine ct fun ng=>?_
   obtain ⟨Rw,d,nm,t⟩:=gq
   obtain ⟨o,es,ep,e,c,_⟩:=d.keep R.base
   refine ng ?_
   exact ⟨⟨o,e,c.1⟩,fun ad c'=>by injection c' with c';subst c';exact ⟨o,e,c.2.1⟩⟩
  | none=>injection h
  | bool=>injection h
  | int=>injection h
  | str=>injection h
  | anyStr=>injection h
  | tup=>injection h
  | fn=>injection h
  | cls=>injection h
  | bi=>injection h
theorem mA (m:BM):Slot (kX m) (gW m) (uz m)∧PlainAttrs (kX m)∧typeOf (.builtin (uz m))=pure (.type "method_descriptor"):=by
 cases m with
 | append=>exact ⟨F.slot_list_append,F.plainAttrs_list,F.type_list_append⟩
 | extend=>exact ⟨F.slot_list_extend,F.plainAttrs_list,F.type_list_extend⟩
 | pop=>exact ⟨F.slot_list_pop,F.plainAttrs_list,F.type_list_pop⟩
 | get=>exact ⟨F.slot_dict_get,F.plainAttrs_dict,F.type_dict_get⟩
theorem du {o:Expr} {name:Str} {ap pos:Pos} {gs:List GE} {es:List Expr} (hb:bp o=true) (rs:RXs fn env.scope gs es) (hl:es.length≤20) (hp:(ap.endLine==pos.line)=true) {Q:Value→Shared→Prop}
  (h:wpAny (model C.prog C.w) A (eval o env) (fun ov s₁=>∀ pl,wpAny (model C.prog C.w) A (getMethod ov name pl) (fun fx s₂=>wpAny (model C.prog C.w) A (callWith pos fx.1 fx.2 (backTo pos (starEach es env)) []) Q E s₂) E s₁) E s) :
  wpAny (model C.prog C.w) A (eval (.Call (.Attribute o name ap) es [] pos) env) Q E s:=by
 rw [arm_eval_Call,bq hb]
 refine wpAny_bind (wm h (fun ov s₁ h₁=>wpAny_bind (wpAny_standAt ?_)))
 have hform:methodCallForm (es.length+([]:List Keyword).length) (backTo pos (starEach es env)) (backToKw pos (keywordEach [] env))=true:=by
  unfold methodCallForm
  rw [iK rs]
  show (true&&true&&decide _)=true
  rw [Bool.true_and,Bool.true_and]
  exact decide_eq_true (by show es.length+0+0 < 30;omega)
 have hpos:methodCallPos true o env ap pos=pure pos:=by unfold methodCallPos;simp [hp]
 unfold methodCall
 rw [hform]
 refine wpAny_bind (wpAny_holding ?_)
 show wpAny _ _ (getMethod ov name _) _ _ _
 refine wm (h₁ _) (fun fx s₂ h₂=>?_)
 exact wpAny_bind (wpAny_of_eq hpos h₂)
theorem qn (k:GOk C) (H:aG C n ih) (rm:RM A (n+1)) (eo:EOk env L) {g:GE} {e:Expr} {m:BM} {ap p:Pos} {gs:List GE} {es:List Expr} (r:RX fn env.scope g e) (hb:bp e=true) (rs:RXs fn env.scope gs es) (hl:es.length≤20) (hp:(ap.endLine==p.line)=true)
  (F:FS C ι σ s.heap L (fn.map gnm) ρ) (h:mv ih ρ g m gs σ=.ok v σ'):wpAny (model C.prog C.w) A (eval (.Call (.Attribute e (gW m) ap) es [] p) env) (PE C ι σ s σ' v) E s:=by
 refine ct fun ng=>?_
 obtain ⟨o,σ1,e1,h1⟩:=af h reN
 obtain ⟨hm,h2⟩:=ac h1 reN
 obtain ⟨vs,σ2,e2,h3⟩:=bN h2 reN
 refine ng ?_
 refine du hb rs hl hp (ao F (H rm.pred eo r F e1) fun ι1 s1 x a1 F1 S1 r1 pl=>?_)
 refine ct fun ng=>?_
 obtain ⟨t1,t2⟩:=im F1.sr r1 hm
 obtain ⟨b1,b2,b3⟩:=mA m
 refine ng ?_
 refine getMethod_builtin t1 b2 b1 b3 t2 ?_
 refine callWith_builtin (a9 rs) ?_
 refine cE @H rm.pred eo rs F1 e2 fun ι2 s2 xs a2 F2 S2 r2=>?_
 exact eU (a1.trans a2) (S1.trans S2) (fS k.toCxOk (rm.u2) F2.sr (F1.sr.vr S2 r1) r2 h3)
theorem sH (k:GOk C) (H:aG C n ih) (HF:dU C n ih) (rm:RM A (n+1)) (eo:EOk env L) {g:GE} {e:Expr} {m:Nat} {ap p:Pos} {gs:List GE} {es:List Expr} (r:RX fn env.scope g e) (hb:bp e=true) (rs:RXs fn env.scope gs es) (hl:es.length≤20) (hp:(ap.endLine==p.line)=true)
  (F:FS C ι σ s.heap L (fn.map gnm) ρ) (h:pn ih ρ g m gs σ=.ok v σ'):wpAny (model C.prog C.w) A (eval (.Call (.Attribute e (gnm m) ap) es [] p) env) (PE C ι σ s σ' v) E s:=by
 refine ct fun ng=>?_
 obtain ⟨o,σ1,e1,h1⟩:=af h reN
 obtain ⟨gg,rfl,h2⟩:=aB h1 reN
 obtain ⟨w,c,fs,e2,h3⟩:=cp h2 reN
 have h4:aA m fs=.unb∧@Cl.rec (fun ξ=>RE) .fail (fun ξ ms=>@Option.rec Ps (fun ξ=>RE) .fail (fun f=>@RL.rec (fun ξ=>RE) .fail (fun vs σ=>ih.f f (.ref gg :: vs) σ) (evs ih ρ gs σ1)) (nt m ms)) (Tr.get .no c jn)=RE.ok v σ':=by
  revert h3
  cases aA m fs<;>first | exact fun h=>⟨rfl,h⟩ | exact fun h=>nomatch h
 obtain ⟨hu,h5⟩:=h4
 refine ng ?_
 cases ec:Tr.get .no c jn with
 | no=>rw [ec] at h5;injection h5
 | mk init ms =>
  rw [ec] at h5
  cases em:nt m ms with
  | none=>simp only [em] at h5;injection h5
  | some f =>
   simp only [em] at h5
   refine ct fun ng=>?_
   obtain ⟨vs,σ2,e3,h6⟩:=bN h5 reN
   refine ng ?_
   refine du hb rs hl hp (ao F (H rm.pred eo r F e1) fun ι1 s1 x a1 F1 S1 r1 pl=>?_)
   refine ct fun ng=>?_
   obtain ⟨ad,dx,rfl,z⟩:=r1.refI
   obtain ⟨es',nn,I,l,q1,q2⟩:=gc F1.sr z e2
   obtain ⟨k1,k2,k3,k4⟩:=k.cls c
   obtain ⟨m1,m2⟩:=k.meth c init ms m f ec em
   refine ng ?_
   refine method_fn (k.inK.keeps F1.sr.base) I (plainGet_of k1).1 (plainGet_of k1).2 m1 (beq_iff_eq.mp m2) (by show (lookIn (gnm m) (dictOf es' nn)).map _=_;rw [lookIn_dict,q2 m hu];rfl) ?_
   refine callWith_of (P:=C.K.In) (by rw [a9 rs];rfl) (keeps_K (k.keepF f)) ?_
   refine cE @H rm.pred eo rs F1 e3 fun ι2 s2 xs a2 F2 S2 r2=>?_
   refine ⟨k.inK.keeps F2.sr.base,eU (a1.trans a2) (S1.trans S2) (bK (HF rm.pred F2.sr (.cons (F1.sr.vr S2 (.ref z)) r2) h6))⟩
end
end Gh
end
section
namespace Gh
open PySem PyProof.Rows PySem.W PySem.SeqAt PySem.Calls
section
variable {C:Cx} {n:Nat} {ih:Ev} {ι ι':Im} {σ σ':St} {A:Around} {s:Shared} {E:Value→Shared→Prop} {L:Addr} {env:Env} {fn:List Nat} {ρ:List V} {a b v:V} {x y z:Value}
theorem sQ (k:GOk C) (H:aG C n ih) (rm:RM A (n+1)) (eo:EOk env L) {g:GE} {e:Expr} {f:Nat} {p:Pos} (r:RX fn env.scope g e) (hf:f∈flds) (hb:bp e=true)
  (F:FS C ι σ s.heap L (fn.map gnm) ρ) (h:po ih ρ g f σ=.ok v σ'):wpAny (model C.prog C.w) A (eval (.Attribute e (gnm f) p) env) (PE C ι σ s σ' v) E s:=by
 refine ct fun ng=>?_
 obtain ⟨o,σ1,e1,h1⟩:=af h reN
 obtain ⟨gg,rfl,h2⟩:=aB h1 reN
 obtain ⟨w,c,fs,e2,h3⟩:=cp h2 reN
 obtain ⟨hu,h4⟩:=bk h3 reN
 injection h4 with h5 h6
 subst h5 h6
 refine ng ?_
 refine dK hb (ao F (H rm.pred eo r F e1) fun ι1 s1 x a1 F1 S1 r1=>?_)
 exact eU a1 S1 (ld k.toKOk F1.sr r1 e2 hf hu)
theorem iW {M:Model} {o i:Value} {Q Q':Value→Shared→Prop} (h:SubscriptOn M A o i Q E s) (q:∀ v s',Q v s'→Q' v s'):SubscriptOn M A o i Q' E s :=
 let ⟨T,id,a,b,c⟩:=h;⟨T,id,a,b,wm c q⟩
theorem vb (k:GOk C) (H:aG C n ih) (rm:RM A (n+1)) (eo:EOk env L) {g i:GE} {e j:Expr} {p:Pos} (r:RX fn env.scope g e) (rj:RX fn env.scope i j)
  (F:FS C ι σ s.heap L (fn.map gnm) ρ) (h:rV ih ρ g i σ=.ok v σ'):wpAny (model C.prog C.w) A (eval (.Subscript e j p) env) (PE C ι σ s σ' v) E s:=by
 refine ct fun ng=>?_
 obtain ⟨o,σ1,e1,h1⟩:=af h reN
 obtain ⟨w,σ2,e2,h2⟩:=af h1 reN
 obtain ⟨hu,h4⟩:=bk h2 reN
 injection h4 with h5 h6
 subst h5 h6
 refine ng ?_
 refine bm (ao F (H rm.pred eo r F e1) fun ι1 s1 x a1 F1 S1 r1=>ao F1 (H rm.pred eo rj F1 e2) fun ι2 s2 y a2 F2 S2 r2=>?_)
 refine iW (cz k.toCxOk F2.sr (F1.sr.vr S2 r1) r2 rfl hu) fun x s3 q=>?_
 exact (q.pe F2.sr).trans (a1.trans a2) (S1.trans S2)
theorem vk (k:GOk C) (H:aG C n ih) (rm:RM A (n+1)) (eo:EOk env L) {op:BO} {g i:GE} {e j:Expr} {p:Pos} (r:RX fn env.scope g e) (rj:RX fn env.scope i j)
  (F:FS C ι σ s.heap L (fn.map gnm) ρ) (h:r7 ih ρ op g i σ=.ok v σ'):wpAny (model C.prog C.w) A (eval (.BinOp e (m7 op) j p) env) (PE C ι σ s σ' v) E s:=by
 refine ct fun ng=>?_
 obtain ⟨o,σ1,e1,h1⟩:=af h reN
 obtain ⟨w,σ2,e2,h2⟩:=af h1 reN
 refine ng ?_
 refine wpAny_BinOp (ao F (H rm.pred eo r F e1) fun ι1 s1 x a1 F1 S1 r1=>ao F1 (H rm.pred eo rj F1 e2) fun ι2 s2 y a2 F2 S2 r2=>?_)
 exact eU (a1.trans a2) (S1.trans S2) (j6 k.toCxOk F2.sr (F1.sr.vr S2 r1) r2 h2)
theorem oJ {op:CmpOp} {g:GE} {e:Expr} (r:RX fn env.scope g e):behindInMarks op e=false:=by cases r.out<;>rfl
theorem my (k:GOk C) (H:aG C n ih) (rm:RM A (n+1)) (eo:EOk env L) {op:CO} {g i:GE} {e j:Expr} (r:RX fn env.scope g e) (rj:RX fn env.scope i j)
  (F:FS C ι σ s.heap L (fn.map gnm) ρ) {c:Bool} (h:mu ih ρ op g i σ=.ok c σ') {Q:Value→Shared→Prop} (q:∀ ι1 s1,Sh s s1→SR C ι1 σ' s1.heap→SS X0 ι σ s.heap ι1 σ' s1.heap→Q (.bool c) s1) :
  wpAny (model C.prog C.w) A (eval e env) (fun a s₁=>wpAny (model C.prog C.w) A (eval j env) (fun b s₂=>wpAny (model C.prog C.w) A (compareOp (bA op) a b) Q E s₂) E s₁) E s:=by
 refine ct fun ng=>?_
 obtain ⟨o,σ1,e1,h1⟩:=af h nofun
 obtain ⟨w,σ2,e2,h2⟩:=af h1 nofun
 obtain ⟨c',e3,h3⟩:=k6 h2 nofun
 refine ng ?_
 have:c=c'∧σ'=σ2:=by cases c'<;>(injection h3 with h3 h4;exact ⟨h3.symm,h4.symm⟩)
 obtain ⟨rfl,rfl⟩:=this
 refine ao F (H rm.pred eo r F e1) fun ι1 s1 x a1 F1 S1 r1=>ao F1 (H rm.pred eo rj F1 e2) fun ι2 s2 y a2 F2 S2 r2=>?_
 refine wm (ay k.toCxOk (rm.u2) F2.sr (F1.sr.vr S2 r1) r2 e3) (fun x s3 q3=>?_)
 obtain ⟨rfl,t,rfl⟩:=q3
 exact q ι2 _ ((a1.trans a2).trans ⟨_,_,rfl⟩) F2.sr (S1.trans S2)
theorem rA (k:GOk C) (H:aG C n ih) (rm:RM A (n+1)) (eo:EOk env L) {op:CO} {g i:GE} {e j:Expr} {p:Pos} (r:RX fn env.scope g e) (rj:RX fn env.scope i j)
  (F:FS C ι σ s.heap L (fn.map gnm) ρ) {c:Bool} (h:mu ih ρ op g i σ=.ok c σ') :
  wpAny (model C.prog C.w) A (isTrue (.Compare e [bA op] [j] p) env (eval (.Compare e [bA op] [j] p) env)) (PT C ι σ s σ' c) E s ∧
  wpAny (model C.prog C.w) A (eval (.Compare e [bA op] [j] p) env) (PE C ι σ s σ' (.bool c)) E s :=
 ⟨wpAny_isTrue_Compare1 (my k @H rm eo r rj F h fun ι1 s1 a R S=>wpAny_truthy_bool ⟨rfl,a,ι1,R,S⟩) (oJ rj),
  wpAny_Compare1 (my k @H rm eo r rj F h fun ι1 s1 a R S=>⟨a,ι1,R,S,.bool⟩) (oJ rj)⟩
end
end Gh
end
section
namespace Gh
open PySem PyProof.Rows PySem.W PySem.SeqAt PySem.Calls
section
variable {C:Cx} {n:Nat} {ih:Ev} {ι ι':Im} {σ σ':St} {A:Around} {s:Shared} {E:Value→Shared→Prop} {L:Addr} {env:Env} {fn:List Nat} {ρ:List V} {a b v:V} {x y z:Value}
theorem lR {o1 o2:CmpOp} {h:GE} {e j:Expr} (r:RX fn env.scope h j):lastMarks [o1,o2] [e,j]=false:=by
 show behindInMarks o2 j=false
 exact oJ r
theorem n5 (k:GOk C) (H:aG C n ih) (rm:RM A (n+1)) (eo:EOk env L) {o1 o2:CO} {g i l:GE} {e j f:Expr} {p:Pos} (r:RX fn env.scope g e) (rj:RX fn env.scope i j) (rf:RX fn env.scope l f)
  (F:FS C ι σ s.heap L (fn.map gnm) ρ) {c:Bool} (h:kT ih ρ o1 o2 g i l σ=.ok c σ') :
  wpAny (model C.prog C.w) A (isTrue (.Compare e [bA o1,bA o2] [j,f] p) env (eval (.Compare e [bA o1,bA o2] [j,f] p) env)) (PT C ι σ s σ' c) E s ∧
  wpAny (model C.prog C.w) A (eval (.Compare e [bA o1,bA o2] [j,f] p) env) (PE C ι σ s σ' (.bool c)) E s:=by
 obtain ⟨o,σ1,e1,h1⟩:=af h nofun
 obtain ⟨w,σ2,e2,h2⟩:=af h1 nofun
 have hu:A.units+200 < cLine:=rm.u2
 obtain ⟨c1,e3,h3⟩:=k6 h2 nofun
 cases c1 with
 | false =>
  injection h3 with h3 h4
  subst h3 h4
  refine ⟨isTrue_chain ?_ (lR rf),Compare_chain ?_ (lR rf)⟩
  all_goals refine ao F (H rm.pred eo r F e1) fun ι1 s1 x a1 F1 S1 r1=>?_
  ·refine test_link (ao F1 (H rm.pred eo rj F1 e2) fun ι2 s2 y a2 F2 S2 r2=>wm (ay k.toCxOk hu F2.sr (F1.sr.vr S2 r1) r2 e3) (fun x s3 q3=>?_))
   obtain ⟨rfl,t,rfl⟩:=q3
   exact wpAny_truthy_bool ⟨rfl,(a1.trans a2).trans ⟨_,_,rfl⟩,ι2,F2.sr,S1.trans S2⟩
  ·refine chain_link (ao F1 (H rm.pred eo rj F1 e2) fun ι2 s2 y a2 F2 S2 r2=>wm (ay k.toCxOk hu F2.sr (F1.sr.vr S2 r1) r2 e3) (fun x s3 q3=>?_))
   obtain ⟨rfl,t,rfl⟩:=q3
   exact wpAny_truthy_bool ⟨(a1.trans a2).trans ⟨_,_,rfl⟩,ι2,F2.sr,S1.trans S2,.bool⟩
 | true =>
  obtain ⟨u,σ3,e4,h4⟩:=af h3 nofun
  obtain ⟨c2,e5,h5⟩:=k6 h4 nofun
  have:c=c2∧σ'=σ3:=by cases c2<;>(injection h5 with h6 h7;exact ⟨h6.symm,h7.symm⟩)
  obtain ⟨rfl,rfl⟩:=this
  refine ⟨isTrue_chain ?_ (lR rf),Compare_chain ?_ (lR rf)⟩
  all_goals refine ao F (H rm.pred eo r F e1) fun ι1 s1 x a1 F1 S1 r1=>?_
  ·refine test_link (ao F1 (H rm.pred eo rj F1 e2) fun ι2 s2 y a2 F2 S2 r2=>wm (ay k.toCxOk hu F2.sr (F1.sr.vr S2 r1) r2 e3) (fun x s3 q3=>?_))
   obtain ⟨rfl,t,rfl⟩:=q3
   refine wpAny_truthy_bool (test_last ?_)
   have F2':FS C ι2 σ2 ({ s2 with toks:=t }:Shared).heap L (fn.map gnm) ρ:=F2
   refine ao (s:={ s2 with toks:=t }) F2' (H rm.pred eo rf F2' e4) fun ι3 s3 z a3 F3 S3 r3=>wm (ay k.toCxOk hu F3.sr (F2.sr.vr S3 r2) r3 e5) (fun x s4 q4=>?_)
   obtain ⟨rfl,t',rfl⟩:=q4
   exact wpAny_truthy_bool ⟨rfl,((a1.trans a2).trans (Sh.mk _ _)).trans (a3.trans ⟨_,_,rfl⟩),ι3,F3.sr,(S1.trans S2).trans S3⟩
  ·refine chain_link (ao F1 (H rm.pred eo rj F1 e2) fun ι2 s2 y a2 F2 S2 r2=>wm (ay k.toCxOk hu F2.sr (F1.sr.vr S2 r1) r2 e3) (fun x s3 q3=>?_))
   obtain ⟨rfl,t,rfl⟩:=q3
   refine wpAny_truthy_bool (chain_last ?_)
   have F2':FS C ι2 σ2 ({ s2 with toks:=t }:Shared).heap L (fn.map gnm) ρ:=F2
   refine ao (s:={ s2 with toks:=t }) F2' (H rm.pred eo rf F2' e4) fun ι3 s3 z a3 F3 S3 r3=>wm (ay k.toCxOk hu F3.sr (F2.sr.vr S3 r2) r3 e5) (fun x s4 q4=>?_)
   obtain ⟨rfl,t',rfl⟩:=q4
   exact ⟨((a1.trans a2).trans (Sh.mk _ _)).trans (a3.trans ⟨_,_,rfl⟩),ι3,F3.sr,(S1.trans S2).trans S3,.bool⟩
theorem gl {t:Sem Bool} {b:Bool} {M:Model} {Q:Bool→Shared→Prop} (F:FS C ι σ s.heap L (fn.map gnm) ρ)
  (hw:wpAny M A t (PT C ι σ s σ' b) E s)
  (k:∀ ι1 s1,Sh s s1→FS C ι1 σ' s1.heap L (fn.map gnm) ρ→SS X0 ι σ s.heap ι1 σ' s1.heap→Q b s1):wpAny M A t Q E s :=
 wm hw (fun x s1 ⟨e,a,ι1,b,c⟩=>e▸k ι1 s1 a (F.step b c) c)
theorem PT.trans {s s1:Shared} {σ'':St} {c:Bool} (S1:Sh s s1) (S:SS X0 ι σ s.heap ι' σ' s1.heap) {x s2} (p:PT C ι' σ' s1 σ'' c x s2):PT C ι σ s σ'' c x s2 :=
 let ⟨e,a,ι2,b,d⟩:=p;⟨e,S1.trans a,ι2,b,S.trans d⟩
theorem rC {M:Model} {t:Sem Bool} {s1:Shared} {σ'':St} {c:Bool} (a:Sh s s1) (S:SS X0 ι σ s.heap ι' σ' s1.heap)
  (hw:wpAny M A t (PT C ι' σ' s1 σ'' c) E s1):wpAny M A t (PT C ι σ s σ'' c) E s1 :=
 wpAny_mono hw (fun ξ ξ p=>p.trans a S) fun ξ ξ e=>e
theorem n6 (T:hO C n ih) (rm:RM A n) (eo:EOk env L) {p:Pos}:∀ {gs:List GE} {es:List Expr},RXs fn env.scope gs es→es≠[]→∀ {ι:Im} {σ σ':St} {s:Shared} {c:Bool},FS C ι σ s.heap L (fn.map gnm) ρ→evb ih false ρ gs σ=.ok c σ' →
  (∀ whole,wpAny (model C.prog C.w) A (isTrue (.BoolOp .And es p) env whole) (PT C ι σ s σ' c) E s)∧wpAny (model C.prog C.w) A (eval (.BoolOp .And es p) env) (PE C ι σ s σ' (.bool c)) E s:=by
 intro gs
 induction gs with
 | nil=>intro es r hn;exact absurd r.n1 hn
 | cons g gs ihg =>
  intro es r _ ι σ σ' s c F h
  obtain ⟨e,es,rfl,r,rs⟩:=r.c1
  obtain ⟨b,σ1,e1,h1⟩:=b6 (k:=fun b σ=>@Bool.rec (fun ξ=>RT) (.ok false σ) (evb ih false ρ gs σ) b) h nofun
  obtain ⟨t1,t2⟩:=T (E:=E) rm eo r F e1
  cases b with
  | false =>
   injection h1 with h1 h2
   subst h1 h2
   refine ⟨fun whole=>isTrue_and (gl F t1 fun ι1 s1 a1 F1 S1=>?_),?_⟩
   ·exact ⟨rfl,a1,ι1,F1.sr,S1⟩
   ·cases es with
    | nil=>exact t2
    | cons e2 es =>
     refine BoolOp_and (ao F t2 fun ι1 s1 x a1 F1 S1 r1=>?_)
     obtain rfl:=r1.boolI
     exact wpAny_truthy_bool ⟨a1,ι1,F1.sr,S1,.bool⟩
  | true =>
   change evb ih false ρ gs σ1=_ at h1
   refine ⟨fun whole=>isTrue_and (gl F t1 fun ι1 s1 a1 F1 S1=>?_),?_⟩
   ·cases es with
    | nil =>
     cases rs
     injection h1 with h1 h2
     subst h1 h2
     exact isTrue_and_nil ⟨rfl,a1,ι1,F1.sr,S1⟩
    | cons e2 es=>exact rC a1 S1 ((ihg rs nofun F1 h1).1 _)
   ·cases es with
    | nil =>
     cases rs
     injection h1 with h1 h2
     subst h1 h2
     exact t2
    | cons e2 es =>
     refine BoolOp_and (ao F t2 fun ι1 s1 x a1 F1 S1 r1=>?_)
     obtain rfl:=r1.boolI
     exact wpAny_truthy_bool (eU a1 S1 (ihg rs nofun F1 h1).2)
theorem sG (T:hO C n ih) (rm:RM A n) (eo:EOk env L) {p:Pos}:∀ {gs:List GE} {es:List Expr},RXs fn env.scope gs es→es≠[]→∀ {ι:Im} {σ σ':St} {s:Shared} {c:Bool},FS C ι σ s.heap L (fn.map gnm) ρ→evb ih true ρ gs σ=.ok c σ' →
  (∀ whole,wpAny (model C.prog C.w) A (isTrue (.BoolOp .Or es p) env whole) (PT C ι σ s σ' c) E s)∧wpAny (model C.prog C.w) A (eval (.BoolOp .Or es p) env) (PE C ι σ s σ' (.bool c)) E s:=by
 intro gs
 induction gs with
 | nil=>intro es r hn;exact absurd r.n1 hn
 | cons g gs ihg =>
  intro es r _ ι σ σ' s c F h
  obtain ⟨e,es,rfl,r,rs⟩:=r.c1
  obtain ⟨b,σ1,e1,h1⟩:=b6 (k:=fun b σ=>@Bool.rec (fun ξ=>RT) (evb ih true ρ gs σ) (.ok true σ) b) h nofun
  obtain ⟨t1,t2⟩:=T (E:=E) rm eo r F e1
  cases b with
  | true =>
   injection h1 with h1 h2
   subst h1 h2
   refine ⟨fun whole=>isTrue_or (gl F t1 fun ι1 s1 a1 F1 S1=>?_),?_⟩
   ·exact ⟨rfl,a1,ι1,F1.sr,S1⟩
   ·cases es with
    | nil=>exact t2
    | cons e2 es =>
     refine BoolOp_or (ao F t2 fun ι1 s1 x a1 F1 S1 r1=>?_)
     obtain rfl:=r1.boolI
     exact wpAny_truthy_bool ⟨a1,ι1,F1.sr,S1,.bool⟩
  | false =>
   change evb ih true ρ gs σ1=_ at h1
   refine ⟨fun whole=>isTrue_or (gl F t1 fun ι1 s1 a1 F1 S1=>?_),?_⟩
   ·cases es with
    | nil =>
     cases rs
     injection h1 with h1 h2
     subst h1 h2
     exact isTrue_or_nil ⟨rfl,a1,ι1,F1.sr,S1⟩
    | cons e2 es=>exact rC a1 S1 ((ihg rs nofun F1 h1).1 _)
   ·cases es with
    | nil =>
     cases rs
     injection h1 with h1 h2
     subst h1 h2
     exact t2
    | cons e2 es =>
     refine BoolOp_or (ao F t2 fun ι1 s1 x a1 F1 S1 r1=>?_)
     obtain rfl:=r1.boolI
     exact wpAny_truthy_bool (eU a1 S1 (ihg rs nofun F1 h1).2)
theorem rn (T:hO C n ih) (rm:RM A n) (eo:EOk env L) {g:GE} {e:Expr} {p:Pos} (r:RX fn env.scope g e) (F:FS C ι σ s.heap L (fn.map gnm) ρ) {c:Bool} (h:pk ih ρ g σ=.ok c σ') :
  wpAny (model C.prog C.w) A (isTrue (.UnaryOp .Not e p) env (eval (.UnaryOp .Not e p) env)) (PT C ι σ s σ' c) E s∧wpAny (model C.prog C.w) A (eval (.UnaryOp .Not e p) env) (PE C ι σ s σ' (.bool c)) E s:=by
 obtain ⟨b,σ1,e1,h1⟩:=b6 h nofun
 injection h1 with h1 h2
 subst h1 h2
 obtain ⟨t1,t2⟩:=T (E:=E) rm eo r F e1
 refine ⟨isTrue_not (gl F t1 fun ι1 s1 a1 F1 S1=>⟨rfl,a1,ι1,F1.sr,S1⟩),UnaryOp_ (ao F t2 fun ι1 s1 x a1 F1 S1 r1=>?_)⟩
 obtain rfl:=r1.boolI
 exact not_of (wpAny_truthy_bool ⟨a1,ι1,F1.sr,S1,.bool⟩)
theorem vh (H:aG C n ih) (T:hO C n ih) (rm:RM A n) (eo:EOk env L) {g i l:GE} {e j f:Expr} {p:Pos} (r:RX fn env.scope g e) (rj:RX fn env.scope i j) (rf:RX fn env.scope l f)
  (F:FS C ι σ s.heap L (fn.map gnm) ρ) (h:rZ ih ρ g i l σ=.ok v σ'):wpAny (model C.prog C.w) A (eval (.IfExp e j f p) env) (PE C ι σ s σ' v) E s:=by
 obtain ⟨b,σ1,e1,h1⟩:=b6 h reN
 refine IfExp_ (gl F (T (E:=E) rm eo r F e1).1 fun ι1 s1 a1 F1 S1=>?_)
 cases b with
 | true=>exact eU a1 S1 (H rm eo rj F1 h1)
 | false=>exact eU a1 S1 (H rm eo rf F1 h1)
end
end Gh
end
section
namespace Gh
open PySem PyProof.Rows PySem.W PySem.SeqAt PySem.Calls
section
variable {C:Cx} {X:Addr→Prop} {n:Nat} {ih:Ev} {ι ι' ι0:Im} {σ σ' σ0:St} {A:Around} {s:Shared} {E:Value→Shared→Prop} {L:Addr} {env:Env} {fn:List Nat} {ρ:List V} {a b v:V} {x y z:Value} {h h' h0:Heap}
theorem SR.put (R:SR C ι σ h) {p:Addr×Addr} {o:O} (b1:C.h0.get? p.1=none) (b2:C.h0.get? p.2=none) (off:∀ g q,ι g=some q→p.1≠q.1∧p.1≠q.2∧p.2≠q.1∧p.2≠q.2) (l2:∃ o,h.get? p.2=some o)
  (r:∀ ι',(∀ g p,ι g=some p→ι' g=some p)→OR C ι' h p o):SR C (ιput ι σ.n p) ⟨Tr.put .no (.ob true o) σ.n σ.h,σ.n.succ⟩ h:=by
 have hι:∀ g p,ι g=some p→g≠σ.n:=fun g p e c=>Nat.lt_irrefl _ (c▸(R.dom g p e).1)
 have ext:∀ g q,ι g=some q→ιput ι σ.n p g=some q:=fun g q e=>by unfold ιput;rw [if_neg (hι g q e)];exact e
 have new:∀ g q,ιput ι σ.n p g=some q→(g=σ.n∧q=p)∨(g≠σ.n∧ι g=some q):=fun g q e=>by
  unfold ιput at e
  split at e
  ·obtain rfl:=Option.some.inj e;exact .inl ⟨by assumption,rfl⟩
  ·exact .inr ⟨by assumption,e⟩
 refine ⟨fun g q e=>?_,fun g g' q q' e e' hn=>?_,fun g w o' e'=>?_,R.base⟩
 ·show g.num < σ.n.succ.num∧_
  rw [Ps.num_succ]
  rcases new g q e with ⟨rfl,rfl⟩ | ⟨_,i⟩
  ·exact ⟨Nat.lt_succ_self _,b1,b2,(r _ ext).live,l2⟩
  ·obtain ⟨a,b⟩:=R.dom g q i
   exact ⟨Nat.lt_succ_of_lt a,b⟩
 ·rcases new g q e with ⟨rfl,rfl⟩ | ⟨_,i⟩<;>rcases new g' q' e' with ⟨rfl,rfl⟩ | ⟨_,i'⟩
  ·exact absurd rfl hn
  ·exact off g' q' i'
  ·have d:=off g q i
   exact ⟨d.1.symm,d.2.2.1.symm,d.2.1.symm,d.2.2.2.symm⟩
  ·exact R.apart g g' q q' i i' hn
 ·by_cases hg:g=σ.n
  ·subst hg
   have e2:at_ (Tr.put .no (.ob true o) σ.n σ.h) σ.n=.ob true o:=Tr.get_put_same ..
   rw [e2] at e'
   cases e'
   exact ⟨p,by unfold ιput;rw [if_pos rfl],r _ ext⟩
  ·have e2:at_ (Tr.put .no (.ob true o) σ.n σ.h) g=at_ σ.h g:=Tr.get_put_ne _ _ _ _ hg
   rw [e2] at e'
   obtain ⟨q,j,r⟩:=R.obs g w o' e'
   exact ⟨q,ext _ _ j,r.mono ext (fun a o e ξ=>e) (fun ξ e=>e) fun ξ e=>e⟩
theorem SS.put (R:SR C ι σ h) (R0:SR C ι0 σ0 h0) (S:SS X ι0 σ0 h0 ι σ h) {p:Addr×Addr} {o:O} (d1:h0.get? p.1=none) (d2:h0.get? p.2=none):SS X ι0 σ0 h0 (ιput ι σ.n p) ⟨Tr.put .no (.ob true o) σ.n σ.h,σ.n.succ⟩ h:=by
 have hι:∀ g p,ι g=some p→g≠σ.n:=fun g p e c=>Nat.lt_irrefl _ (c▸(R.dom g p e).1)
 have ext:∀ g q,ι g=some q→ιput ι σ.n p g=some q:=fun g q e=>by unfold ιput;rw [if_neg (hι g q e)];exact e
 refine ⟨fun g q e=>ext g q (S.ext g q e),fun g q e=>?_,S.keep,S.live,fun g q o' i e'=>?_⟩
 ·unfold ιput at e
  split at e
  ·obtain rfl:=Option.some.inj e;exact .inr ⟨d1,d2⟩
  ·exact S.new g q e
 ·have e2:at_ (Tr.put .no (.ob true o) σ.n σ.h) g=at_ σ.h g:=Tr.get_put_ne _ _ _ _ (hι g q (S.ext g q i))
  rw [e2] at e'
  exact S.flag g q o' i e'
theorem u9 (H:aG C n ih) (rm:RM A n) (eo:EOk env L) {gs:List GE} {es:List Expr} {k:Nat} {p:Pos} (rs:RXs fn env.scope gs es) (hl:es.length≤1000) (F:FS C ι σ s.heap L (fn.map gnm) ρ)
  (h:ofL (evs ih ρ gs σ) (fun vs σ=>.ok (.tup vs) σ)=.ok v σ'):wpAny (model C.prog C.w) A (eval (.Tuple es k p) env) (PE C ι σ s σ' v) E s:=by
 obtain ⟨vs,σ1,e1,h1⟩:=bN h reN
 injection h1 with h1 h2
 subst h1 h2
 refine wpAny_Tuple (wm (fA @H rm eo rs F e1) (fun xs s1 ⟨a1,ι1,R1,S1,r1⟩=>?_))
 have hx:xs.length=es.length:=by
  have:∀ {gs:List GE} {es:List Expr},RXs fn env.scope gs es→gs.length=es.length:=by
   intro gs
   induction gs with
   | nil=>intro es h;cases h;rfl
   | cons g gs ihh=>intro es h;cases h with | cons a b=>exact congrArg Nat.succ (ihh b)
  have h2:∀ {gs:List GE} {σ σ':St} {vs},evs ih ρ gs σ=.ok vs σ'→vs.length=gs.length:=by
   intro gs
   induction gs with
   | nil=>intro σ σ' vs h;injection h with h;subst h;rfl
   | cons g gs ihh =>
    intro σ σ' vs h
    refine ct fun ng=>?_
    obtain ⟨v,σ1,e1,h1⟩:=af (k:=fun v σ=>@RL.rec (fun ξ=>RL) .fail (fun vs σ=>.ok (v :: vs) σ) (evs ih ρ gs σ)) h nofun
    obtain ⟨ws,σ2,e2,h2⟩:=bN h1 nofun
    injection h2 with h3 h4
    subst h3
    refine ng ?_
    exact congrArg Nat.succ (ihh e2)
  rw [← r1.length,h2 e1,this rs]
 exact ⟨by rw [szl];omega,(PE.newTup (t:=s1.toks) R1 r1).trans a1 S1⟩
theorem sz {gs:List GE} {es:List Expr} (rs:RXs fn env.scope gs es):gs.length=es.length:=by
 induction gs generalizing es with
 | nil=>cases rs;rfl
 | cons g gs ihh=>cases rs with | cons a b=>exact congrArg Nat.succ (ihh b)
theorem qN {gs:List GE} {σ σ':St} {vs:List V} (h:evs ih ρ gs σ=.ok vs σ'):vs.length=gs.length:=by
 induction gs generalizing σ vs with
 | nil=>injection h with h;subst h;rfl
 | cons g gs ihh =>
  refine ct fun ng=>?_
  obtain ⟨v,σ1,e1,h1⟩:=af (k:=fun v σ=>@RL.rec (fun ξ=>RL) .fail (fun vs σ=>.ok (v :: vs) σ) (evs ih ρ gs σ)) h nofun
  obtain ⟨ws,σ2,e2,h2⟩:=bN h1 nofun
  injection h2 with h3 h4
  subst h3 h4
  refine ng ?_
  exact congrArg Nat.succ (ihh e2)
theorem vf (H:aG C n ih) (rm:RM A n) (eo:EOk env L) {gs:List GE} {es:List Expr} {p:Pos} (rs:RXs fn env.scope gs es) (hl:es.length≤1000) (F:FS C ι σ s.heap L (fn.map gnm) ρ)
  (h:ofL (evs ih ρ gs σ) (fun vs σ=>alloc σ (.lst (len vs) vs))=.ok v σ'):wpAny (model C.prog C.w) A (eval (.List es p) env) (PE C ι σ s σ' v) E s:=by
 refine ct fun ng=>?_
 obtain ⟨vs,σ1,e1,h1⟩:=bN h reN
 refine ng ?_
 refine wpAny_List (wm (fA @H rm eo rs F e1) (fun xs s1 ⟨a1,ι1,R1,S1,r1⟩=>?_))
 exact ⟨by rw [szl,← r1.length,qN e1,sz rs];omega,(PE.newList (t:=s1.toks) R1 r1 (cQ vs) h1).trans a1 S1⟩
theorem vd (k:GOk C) {m:Int} {kk:Nat} {p p':Pos} (R:SR C ι σ s.heap) (H:∀ {v σ'},ih.e ρ (.cint m) σ=.ok v σ'→v=.int m 0∧σ'=σ) (h:rY ih ρ (.cint m) σ=.ok v σ') :
  wpAny (model C.prog C.w) A (eval (.UnaryOp .USub (.Constant (.int m) kk p) p') env) (PE C ι σ s σ' v) E s:=by
 refine ct fun ng=>?_
 obtain ⟨w,σ1,e1,h1⟩:=af h reN
 obtain ⟨rfl,rfl⟩:=H e1
 obtain ⟨q,hq,h2⟩:=au h1 reN
 injection h2 with h3 h4
 subst h3 h4
 injection hq with hq
 subst hq
 refine ng ?_
 refine UnaryOp_ (wpAny_Constant_int (PyProof.Rows.neg_int (PE.same (s:=s) R (.int ?_))))
 rw [k.zero,Int.add_zero];rfl
end
end Gh
end
section
namespace Gh
open PySem PyProof.Rows PySem.W PySem.SeqAt PySem.Calls
section
variable {prog:Program} {w:World} {A:Around} {E:Value→Shared→Prop} {s:Shared}
theorem lj (n:Nat):Builtin.Slice.sliceAdjust none none (-1) (n:Int)=((n:Int) - 1,-1):=rfl
theorem kF (n:Nat):Builtin.Slice.slicePlaces ((n:Int) - 1) (-1) (-1)=n:=by
 unfold Builtin.Slice.slicePlaces
 rw [if_neg (by decide)]
 by_cases h:n=0
 ·subst h;rfl
 ·rw [if_pos (by omega)]
  have:((n:Int) - 1 - -1 - 1) / - -1+1=n:=by rw [show (- -1:Int)=1 by decide,Int.ediv_one];omega
  rw [this];rfl
theorem oq (xs:Array Value):((List.range xs.size).filterMap fun(k:Nat)=>xs[((xs.size:Int) - 1+(k:Int) * -1).toNat]?).toArray=xs.toList.reverse.toArray:=by
 have e:(List.range xs.size).filterMap (fun(k:Nat)=>xs[((xs.size:Int) - 1+(k:Int) * -1).toNat]?)=((List.range xs.size).map fun k=>xs.size - 1 - k).filterMap (xs[·]?):=by
  rw [List.filterMap_map]
  congr 1
  funext k
  have:((xs.size:Int) - 1+(k:Int) * -1).toNat=xs.size - 1 - k:=by omega
  rw [this];rfl
 have rg:∀ n:Nat,(List.range n).map (fun k=>n - 1 - k)=(List.range n).reverse:=fun n=>by
  apply List.ext_getElem
  ·simp
  ·intro i h1 h2
   rw [List.getElem_map,List.getElem_reverse];simp
 have al:(List.range xs.size).filterMap (xs[·]?)=xs.toList:=by
  have h:=pick_run xs 0 xs.size
  have e:(List.range xs.size).map (0+·)=List.range xs.size:=by
   rw [show ((0+·):Nat→Nat)=id from funext fun k=>Nat.zero_add k,List.map_id]
  rw [e,List.drop_zero,List.take_of_length_le (by rw [Array.length_toList];exact Nat.le_refl _)] at h
  exact h
 rw [e,rg,List.filterMap_reverse,al]
theorem eZ {sl:Addr} {n:Nat} {u:Tok} {Q:Int×Int×Nat→Shared→Prop} (hs:s.heap.IsSliceOf sl .none .none (.int (-1) u)) (h:Q ((n:Int) - 1,-1,n) s) :
  wpAny (model prog w) A (Builtin.Slice.sliceApplied (.ref sl) (pure (n:Int))) Q E s:=by
 refine ct fun ng=>?_
 obtain ⟨os,hos,hcs,hds⟩:=id hs
 refine ng ?_
 unfold Builtin.Slice.sliceApplied Builtin.Slice.sliceFields
 refine wpAny_bind (wpAny_bind (wpAny_field hos hds (x:=.none) rfl (wpAny_bind (wpAny_field hos hds (x:=.none) rfl (wpAny_bind (wpAny_field hos hds (x:=.int (-1) u) rfl (wpAny_pure ?_)))))))
 refine wpAny_bind (slicePart_int ?_)
 show wpAny _ _ (if ((-1:Int)==0)=true then _ else _) _ _ s
 rw [if_neg (by decide)]
 refine wpAny_bind (slicePart_none (wpAny_bind (slicePart_none (wpAny_bind (wpAny_pure ?_)))))
 show wpAny _ _ (match Builtin.Slice.sliceAdjust none none (-1) (n:Int) with | (lo,hi)=>pure (lo,(-1:Int),Builtin.Slice.slicePlaces lo hi (-1))) _ _ s
 rw [lj n]
 show wpAny _ _ (pure ((n:Int) - 1,(-1:Int),Builtin.Slice.slicePlaces ((n:Int) - 1) (-1) (-1))) _ _ s
 rw [kF n]
 exact wpAny_pure h
theorem eT {t sl:Addr} {items:Array Value} {u:Tok} {Q:Value→Shared→Prop} (ht:IsTup s.heap t items) (hs:s.heap.IsSliceOf sl .none .none (.int (-1) u))
  (h:Q (.ref s.heap.objs.size) { s with heap:=s.heap.push { cls:=.type "tuple",data:=.seq items.toList.reverse.toArray } })
  (hsz:items.size≤sizeLine):wpAny (model prog w) A (getItem (.ref t) (.ref sl)) Q E s:=by
 have hdrop:sizeOk (.seq items.toList.reverse.toArray):=by
  show items.toList.reverse.toArray.size≤sizeLine
  rw [List.size_toArray,List.length_reverse,Array.length_toList]
  exact hsz
 refine ct fun ng=>?_
 obtain ⟨os,hos,hcs,hds⟩:=id hs
 have hTs:s.TypeIs (.ref sl) "slice":=⟨os,hos,hcs⟩
 refine ng ?_
 unfold getItem
 try with_reducible refine wpAny_holding ?_
 first | refine wpAny_bind (wpAny_pure ?_) | skip
 refine wpAny_bind (wpAny_sequenceKey ht.typeIs (by decide) ?_)
 refine wpAny_bind (wpAny_callSpecial?_slot (name:=Str.ofString "__getitem__") ht.typeIs slot_tuple_getitem
  (wpAny_call_entry slot_tuple_getitem ht.typeIs entry_tuple_getitem ?_ (args_tuple_getitem _ _)))
 show wpAny _ _ (Builtin.Tuple.tupleItemsOf (.ref t) >>= _) _ _ s
 refine wpAny_bind (tupleItemsOf_ ht ?_)
 refine wpAny_bind (wpAny_typeOf hTs ?_)
 rw [if_pos (by decide)]
 refine wpAny_bind (eZ (n:=items.size) hs ?_)
 show wpAny _ _ (if ((items.size:Int) - 1==0&&(-1:Int)==1&&(items.size==items.size))=true then _ else _) _ _ s
 rw [if_neg (by rw [show ((-1:Int)==1)=false by decide,Bool.and_false,Bool.false_and];exact nofun),oq items]
 first
  | exact wpAny_bind (m:=Builtin.Tuple.tupleExact _) (wpAny_newObj_type (wpAny_pure ⟨_,rfl,wpAny_pure h⟩) hdrop)
  | exact wpAny_bind (m:=Builtin.Tuple.tupleExact _) (wpAny_newObj_type (wpAny_bind (wpAny_pure (wpAny_pure ⟨_,rfl,wpAny_pure h⟩))) hdrop)
  | exact wpAny_bind (wpAny_bind (m:=Builtin.Tuple.tupleExact _) (wpAny_newObj_type (wpAny_pure (wpAny_pure ⟨_,rfl,wpAny_pure h⟩)) hdrop))
  | exact wpAny_bind (wpAny_bind (m:=Builtin.Tuple.tupleExact _) (wpAny_newObj_type (wpAny_pure ⟨_,rfl,wpAny_pure h⟩) hdrop))
end
section
variable {C:Cx} {n:Nat} {ih:Ev} {ι ι' ι0:Im} {σ σ' σ0:St} {A:Around} {s:Shared} {E:Value→Shared→Prop} {L:Addr} {env:Env} {fn:List Nat} {ρ:List V} {a b v:V} {x y z:Value} {h h' h0:Heap}
theorem lI:∀ (l acc:List V),qw l acc=l.reverse++acc
 | [],acc=>rfl
 | v :: l,acc=>by show qw l (v :: acc)=_;rw [lI l,List.reverse_cons,List.append_assoc];rfl
theorem F2.rev {α β:Type} {R:α→β→Prop} {l:List α} {m:List β} (f:F2 R l m):F2 R l.reverse m.reverse:=by
 induction f with
 | nil=>exact .nil
 | cons x f ih=>rw [List.reverse_cons,List.reverse_cons];exact ih.app (.cons x .nil)
theorem vc (k:GOk C) (H:aG C n ih) (rm:RM A (n+1)) (eo:EOk env L) {g:GE} {e:Expr} {kk:Nat} {p p0 p' p'':Pos} (r:RX fn env.scope g e)
  (F:FS C ι σ s.heap L (fn.map gnm) ρ) (h:rX ih ρ g σ=.ok v σ'):wpAny (model C.prog C.w) A (eval (.Subscript e (.Slice none none (some (.UnaryOp .USub (.Constant (.int 1) kk p) p0)) p') p'') env) (PE C ι σ s σ' v) E s:=by
 refine ct fun ng=>?_
 obtain ⟨o,σ1,e1,h1⟩:=af h reN
 obtain ⟨vs,rfl,h2⟩:=br h1 reN
 change bz (len vs) (.ok (.tup (qw vs [])) σ1)=_ at h2
 obtain ⟨hl,h2⟩:=av h2
 injection h2 with h2 h3
 subst h2 h3
 refine ng ?_
 refine bm (ao F (H rm.pred eo r F e1) fun ι1 s1 x a1 F1 S1 r1=>?_)
 refine ct fun ng=>?_
 obtain ⟨ad,items,rfl,t,l,f⟩:=r1.tupI
 refine ng ?_
 refine wpAny_Slice (wpAny_pure (wpAny_pure ?_))
 refine UnaryOp_ (wpAny_Constant_int (PyProof.Rows.neg_int ?_))
 have ht:IsTp (s1.heap.push { cls:=.type "slice",data:=.fields #[.none,.none,.int (-1) (s1.toks+1)] }) ad items:=let ⟨n,e⟩:=t;⟨n,ag _ _ _ _ e⟩
 refine ⟨"tuple",_,PySem.F.slot_tuple_getitem.lookup,let ⟨m,h⟩:=ht;⟨_,h,rfl⟩,?_⟩
 refine eT ht.tup (Heap.IsSliceOf.new ..) ?_ (by rw [cQ,l] at hl;rw [List.size_toArray,szl];omega)
 have R2:SR C ι1 σ1 (s1.heap.push { cls:=.type "slice",data:=.fields #[.none,.none,.int (-1) (s1.toks+1)] }):=F1.sr.grow (ag _ _)
 have r2:VRs C ι1 (s1.heap.push { cls:=.type "slice",data:=.fields #[.none,.none,.int (-1) (s1.toks+1)] }) vs items:=VRs.mono (fun ξ ξ e=>e) (fun a o e ξ=>ag _ _ a o e) (F2.of_get l f)
 have:=PE.newTup (s:={ s1 with heap:=s1.heap.push { cls:=.type "slice",data:=.fields #[.none,.none,.int (-1) (s1.toks+1)] } }) (t:=s1.toks+1+1) R2 r2.rev
 rw [lI,List.append_nil]
 exact this.trans (a1.trans ⟨_,_,rfl⟩) (S1.trans (SS.grow (ag _ _)))
end
end Gh
end
section
namespace Gh
open PySem PyProof.Rows PySem.W PySem.SeqAt PySem.Calls
section
variable {κ:Type} [DecidableEq κ] {den:V→κ→Prop} {q:V→B3} {key:κ} {Rv:V→Value→Prop} {R:List (κ×Value)} {t:List (V×V)}
theorem b4 (a:κ) (b:Value) (l:List (κ×Value)) (k:κ):valueAt ((a,b) :: l) k=if a=k then some b else valueAt l k:=by
 unfold valueAt
 rw [List.find?_cons]
 by_cases h:a=k
 ·simp [h]
 ·simp [h]
theorem DR.cons (d:DR den Rv (valueAt R) t []) (Q:QOk den q key) {k v:V} {x:Value} (hk:den k key) (uni:∀ k',den k k'→k'=key) (hx:Rv v x) (hm:aK q t=.miss):DR den Rv (valueAt ((key,x) :: R)) ((k,v) :: t) []:=by
 have miss:=bQ hm
 refine ⟨fun p hp=>?_,.cons (fun p hp k' h1 h2=>?_) d.apart,fun k' hk'=>?_⟩
 ·rcases List.mem_cons.mp hp with rfl | hp
  ·exact ⟨key,x,hk,by rw [b4,if_pos rfl],hx⟩
  ·refine ct fun ng=>?_
   obtain ⟨k',y,a,b,c⟩:=d.val p hp
   have:k'≠key:=Q.no _ _ (miss p hp) a
   refine ng ?_
   exact ⟨k',y,a,by rw [b4,if_neg (Ne.symm this)];exact b,c⟩
 ·obtain rfl:=uni k' h1
  exact absurd rfl (Q.no _ _ (miss p hp) h2)
 ·rw [b4] at hk'
  by_cases e:key=k'
  ·subst e;exact .inl ⟨(k,v),List.mem_cons_self,hk⟩
  ·rw [if_neg e] at hk'
   rcases d.all k' hk' with ⟨p,m,z⟩ | ⟨v,m,z⟩
   ·exact .inl ⟨p,List.mem_cons_of_mem _ m,z⟩
   ·exact nomatch m
theorem DR.fresh (d:DR den Rv (valueAt R) t []) (Q:QOk den q key) (hm:aK q t=.miss):key∉R.map (·.1):=by
 intro hc
 have:valueAt R key≠none:=by
  obtain ⟨p,hp,rfl⟩:=List.mem_map.mp hc
  unfold valueAt
  intro c
  have:=Option.map_eq_none_iff.mp c
  have:=List.find?_eq_none.mp this p hp
  simp at this
 rcases d.all key this with ⟨p,m,z⟩ | ⟨v,m,z⟩
 ·exact Q.no _ _ (bQ hm p m) z rfl
 ·exact nomatch m
end
section
variable {C:Cx} {n:Nat} {ih:Ev} {ι ι' ι0:Im} {σ σ' σ0:St} {A:Around} {s:Shared} {E:Value→Shared→Prop} {L:Addr} {env:Env} {fn:List Nat} {ρ:List V} {a b v:V} {x y z:Value} {h h' h0:Heap}
noncomputable def VP (C:Cx) (ι:Im) (h:Heap):V×V→Value×Value→Prop:=fun p q=>VR C ι h p.1 q.1∧VR C ι h p.2 q.2
theorem pt (ρk:RhoOk C):∀ {kvs:List (V×V)} {xs:List (Value×Value)},F2 (VP C ι h) kvs xs→aZ kvs=true →
  ∃ R,Carries (intKind C.prog C.w) xs R∧(R.map (·.1)).Nodup∧R.length=kvs.length∧DR (bE C) (VR C ι h) (valueAt R) kvs []:=by
 intro kvs
 induction kvs with
 | nil=>intro xs f _;rw [f.n1];exact ⟨[],trivial,.nil,rfl,⟨(fun p hp=>nomatch hp),.nil,fun k hk=>absurd rfl hk⟩⟩
 | cons kv t ih =>
  intro xs f e
  refine ct fun ng=>?_
  obtain ⟨x,xs,rfl,r,f1⟩:=f.c1
  obtain ⟨k,v⟩:=kv
  obtain ⟨kx,vx⟩:=x
  obtain ⟨rk,rv⟩:=r
  change am k false (fun o s=>@RK.rec (fun ξ=>Bool) false (aZ t) (fun ξ=>false) (aK (isInt o s) t))=true at e
  obtain ⟨o,q,rfl,e1⟩:=ae e nofun
  have e2:aK (isInt o q) t=.miss∧aZ t=true:=by
   revert e1
   cases aK (isInt o q) t with
   | miss=>exact fun h=>⟨rfl,h⟩
   | _=>exact fun h=>(Bool.false_ne_true h).elim
  obtain ⟨R,c1,c2,c3,c4⟩:=ih f1 e2.2
  obtain ⟨nn,tt,rfl,z⟩:=rk.intI
  have Q:=m4 ρk (o:=o) (s:=q)
  refine ng ?_
  rw [← z] at Q
  exact ⟨(nn,vx) :: R,⟨by simp [intKind,Value.isInt],rfl,c1⟩,List.nodup_cons.mpr ⟨c4.fresh Q e2.1,c2⟩,congrArg Nat.succ c3,c4.cons Q z (fun k' h=>h.trans z.symm) rv e2.1⟩
theorem pq (nk:NmOk):∀ {kvs:List (V×V)} {xs:List (Value×Value)},F2 (VP C ι h) kvs xs→aY kvs=true →
  ∃ R,Carries (strKind C.prog C.w) xs R∧(R.map (·.1)).Nodup∧R.length=kvs.length∧DR (eW C) (VR C ι h) (valueAt R) kvs []:=by
 intro kvs
 induction kvs with
 | nil=>intro xs f _;rw [f.n1];exact ⟨[],trivial,.nil,rfl,⟨(fun p hp=>nomatch hp),.nil,fun k hk=>absurd rfl hk⟩⟩
 | cons kv t ih =>
  intro xs f e
  refine ct fun ng=>?_
  obtain ⟨x,xs,rfl,r,f1⟩:=f.c1
  obtain ⟨k,v⟩:=kv
  obtain ⟨kx,vx⟩:=x
  obtain ⟨rk,rv⟩:=r
  change bG k false (fun i=>@RK.rec (fun ξ=>Bool) false (aY t) (fun ξ=>false) (aK (isStr i) t))=true at e
  obtain ⟨i,rfl,e1⟩:=bt e nofun
  have e2:aK (isStr i) t=.miss∧aY t=true:=by
   revert e1
   cases aK (isStr i) t with
   | miss=>exact fun h=>⟨rfl,h⟩
   | _=>exact fun h=>(Bool.false_ne_true h).elim
  obtain ⟨R,c1,c2,c3,c4⟩:=ih f1 e2.2
  obtain ⟨xx,tt,rfl,z⟩:=rk.strI
  have Q:QOk (eW C) (isStr i) (gnm i):=th nk
  have z':xx=gnm i:=z
  refine ng ?_
  rw [← z'] at Q
  exact ⟨(xx,vx) :: R,⟨by simp [PySem.strKind,Value.isStrOf],rfl,c1⟩,List.nodup_cons.mpr ⟨c4.fresh Q e2.1,c2⟩,congrArg Nat.succ c3,c4.cons Q z (fun k' h=>h.trans z.symm) rv e2.1⟩
noncomputable def PP (C:Cx) (ι:Im) (σ:St) (s:Shared) (σ':St) (kvs:List (V×V)):List (Value×Value)→Shared→Prop :=
 fun xs s'=>Sh s s'∧∃ ι',SR C ι' σ' s'.heap∧SS X0 ι σ s.heap ι' σ' s'.heap∧F2 (VP C ι' s'.heap) kvs xs
theorem nK (H:aG C n ih) (rm:RM A n) (eo:EOk env L) {pos:Pos}:∀ {gs:List (GE×GE)} {ks:List (Option Expr)} {vs:List Expr},RXp (RX fn env.scope) gs ks vs→∀ {ι:Im} {σ σ':St} {s:Shared} {kvs:List (V×V)},FS C ι σ s.heap L (fn.map gnm) ρ→evp ih ρ gs σ=.ok kvs σ' →
  wpAny (model C.prog C.w) A (evalPairs (pairTrees ks vs env pos)) (PP C ι σ s σ' kvs) E s:=by
 intro gs
 induction gs with
 | nil =>
  intro ks vs r ι σ σ' s kvs F h
  cases r
  injection h with h1 h2
  subst h1 h2
  exact pairTrees_nil_walk ⟨Sh.refl,ι,F.sr,SS.refl,.nil⟩
 | cons gg gs ihh =>
  intro ks vs r ι σ σ' s kvs F h
  cases r with
  | @cons g g' e f _ ks vs r r' rs =>
  change @RE.rec (fun ξ=>RP) .fail (fun k σ=>@RE.rec (fun ξ=>RP) .fail (fun v σ=>@RP.rec (fun ξ=>RP) .fail (fun kvs σ=>.ok ((k,v) :: kvs) σ) (evp ih ρ gs σ)) (ih.e ρ g' σ)) (ih.e ρ g σ)=_ at h
  refine ct fun ng=>?_
  obtain ⟨k,σ1,e1,h1⟩:=af h nofun
  obtain ⟨v,σ2,e2,h2⟩:=af h1 nofun
  obtain ⟨ws,σ3,e3,h3⟩:=kC h2 nofun
  injection h3 with h4 h5
  subst h4 h5
  refine ng ?_
  refine pairTrees_cons_walk (ao F (H rm eo r F e1) fun ι1 s1 x a1 F1 S1 r1=>ao F1 (H rm eo r' F1 e2) fun ι2 s2 y a2 F2 S2 r2=>?_)
  exact wm (ihh rs F2 e3) (fun xs s3 ⟨a3,ι3,R3,S3,r3⟩=>⟨(a1.trans a2).trans a3,ι3,R3,(S1.trans S2).trans S3,.cons ⟨F2.sr.vr S3 (F1.sr.vr S2 r1),F2.sr.vr S3 r2⟩ r3⟩)
theorem sA:∀ {gs:List (GE×GE)} {ks:List (Option Expr)} {vs:List Expr},RXp (RX fn env.scope) gs ks vs→ks.all (·.isSome)=true∧ks.length=vs.length:=by
 intro gs
 induction gs with
 | nil=>intro ks vs r;cases r;exact ⟨rfl,rfl⟩
 | cons _ _ ih=>intro ks vs r;cases r with | cons _ _ rs=>exact let ⟨a,b⟩:=ih rs;⟨by rw [List.all_cons,a];rfl,congrArg Nat.succ b⟩
theorem qO:∀ {gs:List (GE×GE)} {ks:List (Option Expr)} {vs:List Expr},RXp (RX fn env.scope) gs ks vs→∀ {σ σ':St} {kvs:List (V×V)},evp ih ρ gs σ=.ok kvs σ'→kvs.length=ks.length:=by
 intro gs
 induction gs with
 | nil=>intro ks vs r σ σ' kvs h;cases r;injection h with h1 h2;subst h1;rfl
 | cons gg gs ihh =>
  intro ks vs r σ σ' kvs h
  cases r with
  | @cons g g' e f _ ks vs r r' rs =>
  change @RE.rec (fun ξ=>RP) .fail (fun k σ=>@RE.rec (fun ξ=>RP) .fail (fun v σ=>@RP.rec (fun ξ=>RP) .fail (fun kvs σ=>.ok ((k,v) :: kvs) σ) (evp ih ρ gs σ)) (ih.e ρ g' σ)) (ih.e ρ g σ)=_ at h
  refine ct fun ng=>?_
  obtain ⟨k,σ1,e1,h1⟩:=af h nofun
  obtain ⟨v,σ2,e2,h2⟩:=af h1 nofun
  obtain ⟨ws,σ3,e3,h3⟩:=kC h2 nofun
  injection h3 with h4 h5
  subst h4 h5
  refine ng ?_
  exact congrArg Nat.succ (ihh rs e3)
theorem sI (R:SR C ι σ s.heap) {p:Pos} (h:alloc σ .emp=.ok v σ'):wpAny (model C.prog C.w) A (eval (.Dict [] [] p) env) (PE C ι σ s σ' v) E s :=
 wpAny_Dict_empty (PE.alloc (t:=s.toks) R (ag _ _) (fresh _) (fun ι' ext=>.emp (Heap.get?_push_size _ rfl)) h)
theorem vj (k:GOk C) (H:aG C n ih) (rm:RM A n) (eo:EOk env L) {g:GE×GE} {gs:List (GE×GE)} {ke:Option Expr} {ks:List (Option Expr)} {ve:Expr} {vs:List Expr} {p:Pos} (rs:RXp (RX fn env.scope) (g :: gs) (ke :: ks) (ve :: vs)) (hl:(ke :: ks).length≤15)
  (F:FS C ι σ s.heap L (fn.map gnm) ρ) (h:r6 ih ρ (g :: gs) σ=.ok v σ'):wpAny (model C.prog C.w) A (eval (.Dict (ke :: ks) (ve :: vs) p) env) (PE C ι σ s σ' v) E s:=by
 obtain ⟨kvs,σ1,e1,h1⟩:=kC h reN
 have hlen:=qO rs e1
 have R1:=F.sr.grow (ag s.heap { cls:=.type "dict",data:=.dict #[] })
 have S1:SS X0 ι σ s.heap ι σ (s.heap.push { cls:=.type "dict",data:=.dict #[] }):=SS.grow (ag _ _)
 have F1:=F.step R1 S1
 have hev:=fun E=>nK (E:=E) @H rm eo (pos:=p) (s:={ s with heap:=s.heap.push { cls:=.type "dict",data:=.dict #[] } }) rs F1 e1
 have D0:(s.heap.push { cls:=.type "dict",data:=.dict #[] }).get? s.heap.objs.size=some { cls:=.type "dict",data:=.dict #[] }:=Heap.get?_push_size _ rfl
 have off:∀ g p,ι g=some p→s.heap.objs.size≠p.1∧s.heap.objs.size≠p.2:=fun g p e=>by
  obtain ⟨_,_,_,⟨o,l1⟩,o',l2⟩:=F.sr.dom g p e
  exact ⟨fun c=>aa (fresh s.heap) (c▸l1),fun c=>aa (fresh s.heap) (c▸l2)⟩
 have nw:¬ Wr ι σ s.heap.objs.size:=by
  rintro ⟨g,p,o,e,i,z⟩
  rcases z with z | ⟨z,_⟩
  ·exact (off g p i).1 z
  ·exact (off g p i).2 z
 have base0:C.h0.get? s.heap.objs.size=none:=by
  cases q:C.h0.get? s.heap.objs.size with
  | none=>rfl
  | some o=>exact (aa (fresh s.heap) (F.sr.base _ _ q)).elim
 obtain ⟨a1,a2⟩:=sA rs
 have fin:∀ {ι2:Im} {s2:Shared} {h':Heap} {t:Nat} {o:O},Sh { s with heap:=s.heap.push { cls:=.type "dict",data:=.dict #[] } } s2→SR C ι2 σ1 s2.heap →
   SS X0 ι σ (s.heap.push { cls:=.type "dict",data:=.dict #[] }) ι2 σ1 s2.heap→Heap.SameBut s.heap.objs.size s2.heap h'→(∃ o,h'.get? s.heap.objs.size=some o) →
   (∀ ι',(∀ g p,ι2 g=some p→ι' g=some p)→OR C ι' h' (s.heap.objs.size,s.heap.objs.size) o)→alloc σ1 o=.ok v σ'→PE C ι σ s σ' v (.ref s.heap.objs.size) { s2 with heap:=h',toks:=t }:=by
  intro ι2 s2 h' t o sh R2 S2 sb lv r al
  injection al with al1 al2
  subst al1 al2
  have D2:s2.heap.get? s.heap.objs.size=some { cls:=.type "dict",data:=.dict #[] }:=S2.keep _ _ D0 (fun x=>x) nw
  have off2:∀ g p,ι2 g=some p→s.heap.objs.size≠p.1∧s.heap.objs.size≠p.2:=fun g p e=>by
   rcases S2.new g p e with i | ⟨d1,d2⟩
   ·exact off g p i
   ·exact ⟨fun c=>aa d1 (c▸D0),fun c=>aa d2 (c▸D0)⟩
  have nT:∀ o,s2.heap.get? s.heap.objs.size=some o→¬ isT o:=aM D2 rfl
  have R3:SR C ι2 σ1 h':=R2.other sb lv base0 off2 nT
  have S3:SS X0 ι σ s.heap ι2 σ1 h':=by
   refine SS.weaken (X:=fun a=>a=s.heap.objs.size) (((S1.trans S2).weaken fun ξ ξ x ξ=>x.elim).trans (SS.other sb lv rfl)) fun a o e e'=>?_
   subst e;exact (aa (fresh s.heap) e').elim
  refine ⟨(Sh.mk _ s.toks).trans (sh.trans ⟨_,_,rfl⟩),_,R3.put base0 base0 (fun g q i=>⟨(off2 g q i).1,(off2 g q i).2,(off2 g q i).1,(off2 g q i).2⟩) lv r,S3.put R3 F.sr (fresh _) (fresh _),.ref (d:=s.heap.objs.size) ?_⟩
  unfold ιput;rw [if_pos rfl]
 have tkd:∀ {h1 h':Heap},h1.get? s.heap.objs.size=some { cls:=.type "dict",data:=.dict #[] }→Heap.SameBut s.heap.objs.size h1 h'→Tk h1 h':=fun e sb=>a8 sb (aM e rfl)
 cases kvs with
 | nil=>injection hlen
 | cons kv kvs =>
  obtain ⟨kk,vv⟩:=kv
  have cases2:(aZ ((kk,vv) :: kvs)=true∧alloc σ1 (.idct 20 ((kk,vv) :: kvs) [])=.ok v σ')∨(aY ((kk,vv) :: kvs)=true∧alloc σ1 (.sdct 20 ((kk,vv) :: kvs))=.ok v σ'):=by
   change am kk (bG kk RE.fail fun ξ=>Bool.casesOn (aY ((kk,vv) :: kvs)) .fail (alloc σ1 (.sdct 20 ((kk,vv) :: kvs)))) (fun ξ ξ=>Bool.casesOn (aZ ((kk,vv) :: kvs)) .fail (alloc σ1 (.idct 20 ((kk,vv) :: kvs) [])))=_ at h1
   cases kk with
   | int o q =>
    left
    change @Bool.casesOn (fun ξ=>RE) (aZ ((V.int o q,vv) :: kvs)) RE.fail _=_ at h1
    cases e:aZ ((V.int o q,vv) :: kvs) with
    | true=>rw [e] at h1;exact ⟨rfl,h1⟩
    | false=>rw [e] at h1;injection h1
   | str i =>
    right
    change @Bool.casesOn (fun ξ=>RE) (aY ((V.str i,vv) :: kvs)) RE.fail _=_ at h1
    cases e:aY ((V.str i,vv) :: kvs) with
    | true=>rw [e] at h1;exact ⟨rfl,h1⟩
    | false=>rw [e] at h1;injection h1
   | _=>injection h1
  rcases cases2 with ⟨hd,al⟩ | ⟨hd,al⟩
  ·refine wpAny_Dict_walk (knd:=intKind C.prog C.w) a1 a2 nofun hl (wm (hev E) (fun xs s2 ⟨sh,ι2,R2,S2,r2⟩=>?_))
   have D2:s2.heap.get? s.heap.objs.size=some { cls:=.type "dict",data:=.dict #[] }:=S2.keep _ _ D0 (fun x=>x) nw
   refine ct fun ng=>?_
   obtain ⟨Rw,c1,c2,c3,c4⟩:=pt k.toRhoOk r2 hd
   refine ng ?_
   refine ⟨Rw,c1,⟨_,#[],0,D2,⟨rfl,rfl,rfl⟩,rfl,(fun e he=>by simp at he),.nil,List.nodup_nil⟩,fun h' hm sb=>?_⟩
   rw [merged_nil_of_nodup _ c2] at hm
   have tk:=tkd D2 sb
   refine fin sh R2 S2 sb (let ⟨o,_,_,e,_⟩:=hm;⟨o,e⟩) (fun ι' ext=>.idct Rw hm ?_ (c4.mono fun ξ ξ=>VR.mono ext tk)) al
   have:((kk,vv) :: kvs).length≤15:=hlen▸hl
   rw [c3];omega
  ·refine wpAny_Dict_walk (knd:=strKind C.prog C.w) a1 a2 nofun hl (wm (hev E) (fun xs s2 ⟨sh,ι2,R2,S2,r2⟩=>?_))
   have D2:s2.heap.get? s.heap.objs.size=some { cls:=.type "dict",data:=.dict #[] }:=S2.keep _ _ D0 (fun x=>x) nw
   refine ct fun ng=>?_
   obtain ⟨Rw,c1,c2,c3,c4⟩:=pq k.nm r2 hd
   refine ng ?_
   refine ⟨Rw,c1,⟨_,#[],0,D2,⟨rfl,rfl,rfl⟩,rfl,(fun e he=>by simp at he),.nil,List.nodup_nil⟩,fun h' hm sb=>?_⟩
   rw [merged_nil_of_nodup _ c2] at hm
   have tk:=tkd D2 sb
   refine fin sh R2 S2 sb (let ⟨o,_,_,e,_⟩:=hm;⟨o,e⟩) (fun ι' ext=>.sdct Rw hm ?_ (c4.mono fun ξ ξ=>VR.mono ext tk)) al
   have:((kk,vv) :: kvs).length≤15:=hlen▸hl
   rw [c3];omega
end
end Gh
end
section
namespace Gh
open PySem PyProof.Rows PySem.W PySem.SeqAt PySem.Calls
noncomputable def lS:List String:=["list_iterator","tuple_iterator","range_iterator"]
structure Iter (C:Cx) (A:Around) (ι:Im) (σ:St) (L:Addr) (s:Shared) (vs:List V) (I:Addr) (fp:List Addr) (P:Nat→Value→Prop) (St:Nat→Heap→Prop) (m:Nat) (s2:Shared):Prop where
 walks:Walks C.prog C.w A I fp [I] m P St
 len:m=vs.length
 st:St 0 s2.heap
 lt:∀ b∈fp,b < s2.heap.objs.size
 new:s.heap.get? I=none
 obj:∀ i h,St i h→∃ o T fs,h.get? I=some o∧o.cls=.type T∧o.data=.fields fs∧T∈lS
 old:∀ b o,s.heap.get? b=some o→s2.heap.get? b=some o
 sh:Sh s s2
 keep:∀ b∈fp,b=I∨∃ o,s.heap.get? b=some o∧b≠L∧(isT o∨¬ Wr ι σ b)
 val:∀ i v,P i v→∃ w,vs[i]?=some w∧VR C ι s.heap w v
noncomputable def g0 (C:Cx) (A:Around) (ι:Im) (σ:St) (L:Addr) (s:Shared) (vs:List V):Value→Shared→Prop:=fun it s2=>∃ I fp P St m,it=.ref I∧Iter C A ι σ L s vs I fp P St m s2
section
variable {C:Cx} {n:Nat} {ih:Ev} {ι ι' ι0:Im} {σ σ' σ0:St} {A:Around} {s:Shared} {E:Value→Shared→Prop} {L:Addr} {env:Env} {fn:List Nat} {ρ:List V} {a b v:V} {x y z:Value} {h h' h0:Heap}
theorem ir {o:Obj} {T:String} (c:o.cls=.type T) (m:T∈lS):¬ isT o:=by
 rintro ⟨t,_⟩
 rw [c] at t
 injection t with t
 subst t
 exact absurd m (by decide)
theorem gJ {target:Expr} {I:Addr} {v:Value} {s:Shared} {o:Obj} {T:String} {fs:Array Value} {Q:Unit→Shared→Prop} (ho:s.heap.get? I=some o) (c:o.cls=.type T) (d:o.data=.fields fs) (m:T∈lS) (hq:Q () s) :
  wpAny (model C.prog C.w) A (letOwnedTupleGo target (.ref I) v) Q E s:=by
 have no:["enumerate","zip","dict_itemiterator","dict_reverseitemiterator","odict_iterator","itertools.zip_longest","itertools.pairwise"].contains T=false:=by
  unfold lS at m
  simp only [List.mem_cons,List.not_mem_nil,or_false] at m
  rcases m with rfl | rfl | rfl<;>decide
 unfold letOwnedTupleGo
 cases target<;>first
  | exact wpAny_pure hq
  | (cases v<;>first
    | exact wpAny_pure hq
    | (refine wpAny_bind (wpAny_load ho ?_)
       rw [c,d]
       dsimp only
       rw [if_neg (by rw [no,Bool.false_and];exact nofun)]
       exact wpAny_pure hq))
theorem jR (rm:RM A n) (F:FS C ι σ s.heap L (fn.map gnm) ρ) {vs:List V} (r:VR C ι s.heap (.tup vs) x):wpAny (model C.prog C.w) A (pyIter x) (g0 C A ι σ L s vs) E s:=by
 refine ct fun ng=>?_
 obtain ⟨ad,items,rfl,t,l,f⟩:=r.tupI
 have t':=t
 obtain ⟨m,t⟩:=t
 have ht:s.heap.IsTuple ad items.toArray:=⟨_,t,rfl,m,rfl⟩
 refine ng ?_
 refine wpAny_pyIter_tuple ht ?_
 have hne:ad≠s.heap.objs.size:=fun c=>aa (fresh s.heap) (c▸t)
 have hz:items.toArray.size=vs.length:=by rw [List.size_toArray,l]
 refine ⟨s.heap.objs.size,[s.heap.objs.size,ad],_,_,_,rfl,⟨Walks.tuple rm.han s.heap.objs.size ad hne items.toArray,hz,⟨⟨_,Heap.get?_push_size _ rfl,rfl,rfl⟩,ht.push _⟩,?_,fresh _,?_,ag _ _,Sh.mk _ _,?_,?_⟩⟩
 ·intro b hb
  rw [Heap.size_push]
  rcases List.mem_cons.mp hb with rfl | hb
  ·exact Nat.lt_succ_self _
  ·rcases List.mem_cons.mp hb with rfl | hb
   ·exact Nat.lt_succ_of_lt (Heap.lt_size t)
   ·exact nomatch hb
 ·rintro i h ⟨⟨o,e,c,d⟩,_⟩
  exact ⟨o,_,_,e,c,d,by decide⟩
 ·intro b hb
  rcases List.mem_cons.mp hb with rfl | hb
  ·exact .inl rfl
  ·rcases List.mem_cons.mp hb with rfl | hb
   ·exact .inr ⟨_,t,fun c=>F.notT _ (c▸t) ⟨rfl,_,_,rfl⟩,.inl ⟨rfl,_,_,rfl⟩⟩
   ·exact nomatch hb
 ·intro i v e
  have fl:=F2.of_get l f
  rw [List.getElem?_toArray] at e
  have hi:i < vs.length:=by rw [l];exact (List.getElem?_eq_some_iff.mp e).1
  exact ⟨vs[i],List.getElem?_eq_getElem hi,f i _ _ (List.getElem?_eq_getElem hi) e⟩
theorem fk (rm:RM A n) (F:FS C ι σ s.heap L (fn.map gnm) ρ) {g:Ps} {m:Nat} {vs:List V} (e:at_ σ.h g=.ob false (.lst m vs)) (r:VR C ι s.heap (.ref g) x):m=vs.length∧wpAny (model C.prog C.w) A (pyIter x) (g0 C A ι σ L s vs) E s:=by
 obtain ⟨ad,d,rfl,z⟩:=r.refI
 obtain ⟨p,i,ob⟩:=F.sr.obs _ _ _ e
 rw [z] at i;obtain rfl:=Option.some.inj i
 obtain ⟨items,t,l,f⟩:=ob.lstI
 refine ⟨l,?_⟩
 obtain ⟨mm,t⟩:=t
 have ht:s.heap.IsList ad items.toArray:=⟨_,t,rfl,mm,rfl⟩
 refine wpAny_pyIter_list ht ?_
 have hne:ad≠s.heap.objs.size:=fun c=>aa (fresh s.heap) (c▸t)
 have hz:items.toArray.size=vs.length:=by rw [List.size_toArray,f.length]
 refine ⟨s.heap.objs.size,[s.heap.objs.size,ad],_,_,_,rfl,⟨Walks.list rm.han s.heap.objs.size ad hne items.toArray,hz,⟨⟨_,Heap.get?_push_size _ rfl,rfl,rfl⟩,ht.at fun o e=>ag _ _ _ _ e⟩,?_,fresh _,?_,ag _ _,Sh.mk _ _,?_,?_⟩⟩
 ·intro b hb
  rw [Heap.size_push]
  rcases List.mem_cons.mp hb with rfl | hb
  ·exact Nat.lt_succ_self _
  ·rcases List.mem_cons.mp hb with rfl | hb
   ·exact Nat.lt_succ_of_lt (Heap.lt_size t)
   ·exact nomatch hb
 ·rintro i h ⟨⟨o,e,c,d⟩,_⟩
  exact ⟨o,_,_,e,c,d,by decide⟩
 ·intro b hb
  rcases List.mem_cons.mp hb with rfl | hb
  ·exact .inl rfl
  ·rcases List.mem_cons.mp hb with rfl | hb
   ·refine .inr ⟨_,t,fun c=>(F.off _ _ z).1 c.symm,.inr ?_⟩
    rintro ⟨g',p',o',e',i',zz⟩
    by_cases hg:g'=g
    ·subst hg;rw [e] at e';cases e'
    ·have ap:=F.sr.apart g g' _ _ z i' (Ne.symm hg)
     rcases zz with zz | ⟨zz,_⟩
     ·exact ap.1 zz
     ·exact ap.2.1 zz
   ·exact nomatch hb
 ·intro i v e
  rw [List.getElem?_toArray] at e
  have hi:i < vs.length:=by rw [f.length];exact (List.getElem?_eq_some_iff.mp e).1
  exact ⟨vs[i],List.getElem?_eq_getElem hi,f.get (List.getElem?_eq_getElem hi) e⟩
theorem gu:∀ (n:Nat) (a:Int) (i:Nat),i < n→(fb n a)[i]?=some (.int (a+i) 0)
 | n+1,a,0,_=>by show some (V.int a 0)=_;rw [show a+((0:Nat):Int)=a from Int.add_zero a]
 | n+1,a,i+1,h=>by
  show (fb n (Int.add a 1))[i]?=_
  rw [gu n (Int.add a 1) i (by omega)]
  have:Int.add a 1+(i:Int)=a+((i+1:Nat):Int):=by show a+1+(i:Int)=_;omega
  rw [this]
theorem cm:∀ (n:Nat) (a:Int),(fb n a).length=n
 | 0,_=>rfl
 | n+1,a=>congrArg Nat.succ (cm n _)
theorem jv {prog:Program} {w:World} {I:Addr} {fp wr:List Addr} {n:Nat} {P:Nat→Value→Prop} {St:Nat→Heap→Prop} (W:Walks prog w A I fp wr n P St):Walks prog w A I fp wr n (fun i v=>i < n∧P i v) St where
 sub:=W.sub
 frame:=W.frame
 item:=fun i s Q E hi hst hQ=>W.item i s Q E hi hst fun v h' tk hp hst' hk=>hQ v h' tk ⟨hi,hp⟩ hst' hk
 done:=W.done
 self:=W.self
theorem fL (k:GOk C) (rm:RM A n) {lo hi:Nat} {r:Addr} {t u v:Tok} (F:SR C ι σ s.heap) (hr:IsRange s.heap r lo hi 1 t u v) (hb:hi≤100000) (hl:lo≤100000) {s0:Shared} (h0:∀ b o,s0.heap.get? b=some o→s.heap.get? b=some o) (hs:Sh s0 s) :
  wpAny (model C.prog C.w) A (pyIter (.ref r)) (g0 C A ι σ L s0 (fb (hi - lo) lo)) E s:=by
 refine wpAny_pyIter_range hr (small_one (by omega) (by omega) (by omega) (by omega)) ?_
 have hsz:Builtin.Range.rangeSize (lo:Int) (hi:Int) 1=((hi - lo:Nat):Int):=by rw [rangeSize_one];split<;>omega
 refine ⟨s.heap.objs.size,[s.heap.objs.size],_,_,_,rfl,⟨jv (Walks.range rm.han s.heap.objs.size (lo:Int) 1 (hi - lo)),(cm (hi - lo) lo).symm,?_,?_,?_,?_,fun b o e=>ag _ _ b o (h0 b o e),hs.trans (Sh.mk _ _),?_,?_⟩⟩
 ·show IsRangeIter _ _ _ _ _
  have e1:((lo:Int)+((0:Nat):Int) * 1)=lo:=by omega
  have e2:(((hi - lo:Nat):Int) - ((0:Nat):Int))=Builtin.Range.rangeSize lo hi 1:=by rw [hsz];omega
  rw [e1,e2]
  exact Heap.get?_push_size _ rfl
 ·intro b hb
  rw [Heap.size_push]
  rcases List.mem_cons.mp hb with rfl | hb
  ·exact Nat.lt_succ_self _
  ·exact nomatch hb
 ·cases q:s0.heap.get? s.heap.objs.size with
  | none=>rfl
  | some o=>exact (aa (fresh s.heap) (h0 _ _ q)).elim
 ·intro i h e
  exact ⟨_,_,_,e,rfl,rfl,by decide⟩
 ·intro b hb
  rcases List.mem_cons.mp hb with rfl | hb
  ·exact .inl rfl
  ·exact nomatch hb
 ·rintro i v ⟨hi',t,rfl⟩
  exact ⟨_,gu _ _ _ hi',.int (by rw [k.zero];omega)⟩
end
end Gh
end
section
namespace Gh
open PySem PyProof.Rows PySem.W PySem.SeqAt PySem.Calls
section
variable {C:Cx} {n:Nat} {ih:Ev} {ι ι' ι0:Im} {σ σ' σ1 σ0:St} {A:Around} {s:Shared} {E:Value→Shared→Prop} {L:Addr} {env:Env} {fn:List Nat} {ρ:List V} {a b v:V} {x y z:Value} {h h' h0:Heap}
theorem fy {n:Nat} {r:OL} {m:Nat} {ws:List V} (h:mj n r=.ok m ws):n≤100000∧r=.ok m ws:=by
 obtain ⟨a,b⟩:=ac h nofun
 exact ⟨natble.mp a,b⟩
theorem cL (k:GOk C) (H:aG C n ih) (rm:RM A (n+1)) (eo:EOk env L) {j:Nat} {p p':Pos} {gs:List GE} {es:List Expr} (hg:bc env.scope j) (hv:cS j=.bi 1) (rs:RXs fn env.scope gs es) (F:FS C ι σ s.heap L (fn.map gnm) ρ)
  {vs ws:List V} {m:Nat} (e1:evs ih ρ gs σ=.ok vs σ1) (h:iR vs=.ok m ws) {Q:Value→Shared→Prop}
  (q:m=ws.length∧m≤100000→∀ ι1 s1,Sh s s1→FS C ι1 σ1 s1.heap L (fn.map gnm) ρ→SS X0 ι σ s.heap ι1 σ1 s1.heap→∀ it s2,g0 C A ι1 σ1 L s1 ws it s2→Q it s2) :
  wpAny (model C.prog C.w) A (eval (.Call (.Name (gnm j) p) es [] p') env) (fun xv s₁=>wpAny (model C.prog C.w) A (pyIter xv) Q E s₁) E s:=by
 refine wpAny_Call_NameR (iI eo k F.sr hg hv nofun fun f rf=>?_)
 obtain rfl:=(rf ι s.heap).biI
 refine callWith_of (P:=fun ξ=>True) (by rw [a9 rs];rfl) (fun h ξ=>⟨.machine,.inr (.inl rfl),Looks.now⟩) ?_
 refine cE @H rm.pred eo rs F e1 fun ι1 s1 xs a1 F1 S1 r1=>⟨trivial,?_⟩
 rcases vs with _ | ⟨x,_ | ⟨y,_ | ⟨_,_⟩⟩⟩
 ·injection h
 ·refine ct fun ng=>?_
  obtain ⟨xv,rfl,r⟩:=r1.o1
  obtain ⟨hi,rfl,h1⟩:=au h nofun
  obtain ⟨hb,h2⟩:=fy h1
  injection h2 with h3 h4
  subst h3 h4
  obtain ⟨nn,t,rfl,z⟩:=r.intI
  refine ng ?_
  have z:nn=(hi:Int):=by rw [z,k.zero];exact Int.add_zero _
  subst z
  refine call_range_1 ?_
  have:=fL (E:=E) (A:=A) (σ:=σ1) (L:=L) (lo:=0) (hi:=hi) (ι:=ι1) (s:={ s1 with heap:=s1.heap.push { cls:=.type "range",data:=.fields #[.int 0 s1.toks,.int hi t,.int 1 (s1.toks+1)] },toks:=s1.toks+1+1 }) k rm (F1.sr.grow (ag _ _)) (IsRange.new ..) hb (by omega) (s0:=s1) (ag _ _) (Sh.mk _ _)
  exact wm this (fun it s2 i=>q ⟨(cm _ _).symm,hb⟩ ι1 s1 a1 F1 S1 it s2 i)
 ·refine ct fun ng=>?_
  obtain ⟨xv,yv,rfl,r,r'⟩:=r1.o2
  obtain ⟨lo,rfl,h1⟩:=au h nofun
  obtain ⟨hi,rfl,h1⟩:=au h1 nofun
  obtain ⟨hb0,h1⟩:=fy h1
  obtain ⟨hb,h2⟩:=fy h1
  injection h2 with h3 h4
  subst h3 h4
  obtain ⟨nn,t,rfl,z⟩:=r.intI
  obtain ⟨nn',t',rfl,z'⟩:=r'.intI
  refine ng ?_
  have z:nn=(lo:Int):=by rw [z,k.zero];exact Int.add_zero _
  have z':nn'=(hi:Int):=by rw [z',k.zero];exact Int.add_zero _
  subst z z'
  refine call_range_2 ?_
  have:=fL (E:=E) (A:=A) (σ:=σ1) (L:=L) (lo:=lo) (hi:=hi) (ι:=ι1) (s:={ s1 with heap:=s1.heap.push { cls:=.type "range",data:=.fields #[.int lo t,.int hi t',.int 1 s1.toks] },toks:=s1.toks+1 }) k rm (F1.sr.grow (ag _ _)) (IsRange.new ..) hb hb0 (s0:=s1) (ag _ _) (Sh.mk _ _)
  exact wm this (fun it s2 i=>q ⟨(cm _ _).symm,by show hi - lo≤_;omega⟩ ι1 s1 a1 F1 S1 it s2 i)
 ·injection h
noncomputable def jg:GE→Value→Value→Prop
 | .loc 0,v,y=>y=v
 | .bin .add (.cint n) (.loc 0),v,y=>∃ m t t',v=.int m t∧y=.int (n+m) t'
 | _,_,_=>False
theorem c9 {elt:GE} {vs:List V}:∀ {ws:List V},fO elt vs=.ok ws→ws.length=vs.length∧∀ (i:Nat) w,vs[i]?=some w→fH w elt≠.unb∧ws[i]?=some (fH w elt):=by
 induction vs with
 | nil=>intro ws h;injection h with h;subst h;exact ⟨rfl,fun i w e=>nomatch e⟩
 | cons v vs ih =>
  intro ws h
  change @LO.rec (fun ξ=>LO) .fail (fun r=>aP (fH v elt) .fail (.ok (fH v elt :: r))) (fO elt vs)=_ at h
  refine ct fun ng=>?_
  obtain ⟨r,e,h1⟩:=dG h nofun
  obtain ⟨hu,h2⟩:=bk h1 nofun
  injection h2 with h2
  obtain ⟨a,b⟩:=ih e
  refine ng ?_
  rw [← h2]
  refine ⟨congrArg Nat.succ a,fun i w hi=>?_⟩
  cases i with
  | zero=>injection hi with hi;rw [← hi];exact ⟨hu,rfl⟩
  | succ i=>exact b i w hi
theorem dD {F:Value→Value→Prop} {l m:List Value} (p:Paired F l m):l.length=m.length∧∀ (i:Nat) a b,l[i]?=some a→m[i]?=some b→F a b:=by
 induction p with
 | nil=>exact ⟨rfl,fun i a b e=>nomatch e⟩
 | cons x h ih =>
  refine ⟨congrArg Nat.succ ih.1,fun i a b ea eb=>?_⟩
  cases i with
  | zero=>injection ea with ea;injection eb with eb;rw [← ea,← eb];exact x
  | succ i=>exact ih.2 i a b ea eb
theorem qL {elt:GE} {e:Expr} {nm:Str} (r:RElt nm elt e) (f:jg elt x y) (hv:VR C ι h v x) (hu:fH v elt≠.unb):VR C ι h (fH v elt) y:=by
 cases r with
 | var=>cases f;exact hv
 | add =>
  obtain ⟨m,t,t',rfl,rfl⟩:=f
  cases v with
  | int o q =>
   cases hv with
   | int z=>exact .int (by rw [z];exact (Int.add_assoc ..).symm)
  | _=>exact absurd rfl hu
theorem iB {elt:GE} {e:Expr} {nm:Str} (r:RElt nm elt e) {vs ws:List V} {I:Addr} {fp:List Addr} {P:Nat→Value→Prop} {St:Nat→Heap→Prop} {m:Nat} {s2:Shared} (J:Iter C A ι σ L s vs I fp P St m s2) (hc:fO elt vs=.ok ws)
  {vals ys:List Value} (hl:vals.length=m) (hP:∀ j v,vals[j]?=some v→P j v) (hp:Paired (jg elt) vals ys):VRs C ι s.heap ws ys:=by
 obtain ⟨c1,c2⟩:=c9 hc
 obtain ⟨p1,p2⟩:=dD hp
 refine F2.of_get (by rw [c1,← J.len,← hl,p1]) fun i w y ew ey=>?_
 have hi:i < vals.length:=by rw [p1];exact (List.getElem?_eq_some_iff.mp ey).1
 obtain ⟨w',e1,r1⟩:=J.val i vals[i] (hP i _ (List.getElem?_eq_getElem hi))
 obtain ⟨hu,e2⟩:=c2 i w' e1
 rw [ew] at e2
 obtain rfl:=Option.some.inj e2
 exact qL r (p2 i _ _ (List.getElem?_eq_getElem hi) ey) r1 hu
theorem cy:Keeps s s:=⟨s.heap,s.toks,rfl,fun ξ ξ e=>e⟩
theorem quiet {elt:GE} {e:Expr} {nm:Str} (r:RElt nm elt e) {sc:Scope} (cs:CompSc sc nm) {vs ws:List V} {I:Addr} {fp:List Addr} {P:Nat→Value→Prop} {St:Nat→Heap→Prop} {m:Nat} {s2:Shared} (J:Iter C A ι σ L s vs I fp P St m s2) (hc:fO elt vs=.ok ws) :
  QuietOn C.prog C.w A env sc nm [] e [I] P (fun ξ=>true) (jg elt) s2 where
 tests:=fun Ca i v s3 m3 E' hP hn hm hk ht=>wpAny_pure ⟨rfl,cy⟩
 elt:=fun Ca i v s3 m3 E' hP hp hn hm hk ht=>by
  have ev:∀ {p:Pos} {Q:Value→Shared→Prop} {s4:Shared},s4.heap.Ns Ca m3→Q v s4→wpAny (model C.prog C.w) A (eval (.Name nm p) (compEnv sc Ca env)) Q E' s4:=fun hn q =>
   wpAny_Name (wpAny_loadName_local cs.kind cs.here hn hm q) cs.dbg
  cases r with
  | var=>exact ev hn ⟨rfl,cy⟩
  | add =>
   obtain ⟨w,e1,r1⟩:=J.val i v hP
   obtain ⟨hu,e2⟩:=(c9 hc).2 i w e1
   refine wpAny_BinOp (wpAny_Constant_int (ev (s4:={ s3 with toks:=s3.toks+1 }) hn ?_))
   cases r1 with
   | int z=>exact add_int ⟨⟨_,_,_,rfl,rfl⟩,⟨_,_,rfl,fun ξ ξ e=>e⟩⟩
   | none=>exact absurd rfl hu
   | bool=>exact absurd rfl hu
   | str=>exact absurd rfl hu
   | anyStr=>exact absurd rfl hu
   | tup=>exact absurd rfl hu
   | ref=>exact absurd rfl hu
   | fn=>exact absurd rfl hu
   | cls=>exact absurd rfl hu
   | bi=>exact absurd rfl hu
   | gd=>exact absurd rfl hu
end
end Gh
end
section
namespace Gh
open PySem PyProof.Rows PySem.W PySem.SeqAt PySem.Calls
section
variable {C:Cx} {n:Nat} {ih:Ev} {ι ι' ι0:Im} {σ σ' σ1 σ0:St} {A:Around} {s:Shared} {E:Value→Shared→Prop} {L:Addr} {env:Env} {fn:List Nat} {ρ:List V} {a b v:V} {x y z:Value} {h h' h0:Heap}
theorem SR.flag (R:SR C ι σ h) {g:Ps} {w b:Bool} {m:Nat} {vs:List V} (e:at_ σ.h g=.ob w (.lst m vs)):SR C ι (Gh.flag σ g b m vs) h:=by
 refine ⟨R.dom,R.apart,fun g' w' o' e'=>?_,R.base⟩
 by_cases hg:g'=g
 ·subst hg
  have e2:at_ (Gh.flag σ g' b m vs).h g'=.ob b (.lst m vs):=Tr.get_put_same ..
  rw [e2] at e'
  cases e'
  exact R.obs _ _ _ e
 ·have e2:at_ (Gh.flag σ g b m vs).h g'=at_ σ.h g':=Tr.get_put_ne _ _ _ _ hg
  rw [e2] at e'
  exact R.obs _ _ _ e'
theorem FS.flag {ns:List Str} (F:FS C ι σ h L ns ρ) {g:Ps} {w b:Bool} {m:Nat} {vs:List V} (e:at_ σ.h g=.ob w (.lst m vs)):FS C ι (Gh.flag σ g b m vs) h L ns ρ :=
 ⟨F.sr.flag e,F.ns,F.above,F.off⟩
theorem gK (rm:RM A n) (F:FS C ι σ s.heap L (fn.map gnm) ρ) {m:Nat} {vs:List V} (h:items a σ=.ok m vs) (r:VR C ι s.heap a x):m=vs.length∧∃ σf,wpAny (model C.prog C.w) A (pyIter x) (g0 C A ι σf L s vs) E s:=by
 cases a with
 | tup ws =>
  injection h with h1 h2
  subst h1 h2
  exact ⟨cQ _,σ,jR rm F r⟩
 | ref g =>
  refine ct fun ng=>?_
  obtain ⟨w,m',vs',e,h1⟩:=aF (α:=OL) h nofun
  injection h1 with h1 h2
  subst h1 h2
  obtain ⟨a,b⟩:=fk (E:=E) rm (F.flag (b:=false) e) (Tr.get_put_same ..) r
  refine ng ?_
  exact ⟨a,_,b⟩
 | _=>injection h
theorem jd {g:GE} {e:Expr} (r:RX fn env.scope g e):∀ x,foldedSetIterable e env x=pure x:=by intro x;cases r.out<;>rfl
theorem dM (l:List Value):l.filter (fun ξ=>true)=l:=by induction l with | nil=>rfl | cons a l ih=>rw [List.filter_cons,if_pos rfl,ih]
theorem j4 {elt:GE} {e:Expr} {nm:Str} (r:RElt nm elt e) {σf:St} {vs ws:List V} {I:Addr} {fp:List Addr} {P:Nat→Value→Prop} {St:Nat→Heap→Prop} {m:Nat} {s2:Shared} (J:Iter C A ι σf L s vs I fp P St m s2) (hc:fO elt vs=.ok ws)
  (R:SR C ι σ s.heap) {D:Addr} {h1:Heap} {tk:Nat} {ys:Array Value} {vals:List Value} (hD:s2.heap.get? D=none) (hp:h1.PlainList D ys) (hl:vals.length=m) (hP:∀ j v,vals[j]?=some v→P j v) (pr:Paired (jg elt) (vals.filter fun ξ=>true) ys.toList)
  (hk:∀ b o,b∉[I]→s2.heap.get? b=some o→h1.get? b=some o) (al:alloc σ (.lst m ws)=.ok v σ'):PE C ι σ s σ' v (.ref D) { s2 with heap:=h1,toks:=tk }:=by
 rw [dM] at pr
 have rv:=iB r J hc hl hP pr
 have k:∀ b o,s.heap.get? b=some o→h1.get? b=some o:=fun b o e=>hk b o (fun c=>by
  rcases List.mem_cons.mp c with rfl | c
  ·exact aa J.new e
  ·exact nomatch c) (J.old b o e)
 have d:s.heap.get? D=none:=by
  cases q:s.heap.get? D with
  | none=>rfl
  | some o=>exact (aa hD (J.old _ _ q)).elim
 obtain ⟨hh,tt,rfl⟩:=J.sh
 refine PE.alloc R k d (fun ι' ext=>.lst ys.toList hp ?_ (VRs.mono ext (fun a o e ξ=>k a o e) rv)) al
 rw [(c9 hc).1,J.len]
theorem cv {elt:GE} {r:OL} (h:kI elt r σ=.ok v σ'):∃ m vs ws,r=.ok m vs∧m≤100000∧fO elt vs=.ok ws∧alloc σ (.lst m ws)=.ok v σ':=by
 refine ct fun ng=>?_
 obtain ⟨m,vs,rfl,h1⟩:=ot h reN
 obtain ⟨hb,h2⟩:=av h1
 obtain ⟨ws,e,h3⟩:=dG h2 reN
 refine ng ?_
 exact ⟨m,vs,ws,rfl,hb,e,h3⟩
theorem sJ (H:aG C n ih) (rm:RM A (n+1)) (eo:EOk env L) {g elt:GE} {e e':Expr} {nm:Str} {px p:Pos} {sc:Scope} (r:RX fn env.scope g e) (re:RElt nm elt e') (cs:CompSc sc nm)
  (F:FS C ι σ s.heap L (fn.map gnm) ρ) (h:kS ih ρ elt g σ=.ok v σ'):wpAny (model C.prog C.w) A (eval (.ListComp e' [⟨.Name nm px,e,[],0⟩] sc p) env) (PE C ι σ s σ' v) E s:=by
 refine ct fun ng=>?_
 obtain ⟨o,σ1,e1,h1⟩:=af h reN
 obtain ⟨m,vs,ws,e2,hb,e3,al⟩:=cv h1
 refine ng ?_
 refine wpAny_ListComp_walk (fun ξ=>true) (jg elt) cs.free cs.cell cs.kind cs.names cs.here (ao F (H rm.pred eo r F e1) fun ι1 s1 x a1 F1 S1 r1=>?_) (jd r)
 obtain ⟨hm,σf,hi⟩:=gK (E:=E) rm F1 e2 r1
 refine wm hi (fun it s2 ⟨I,fp,P,St,m',hit,J⟩=>?_)
 subst hm
 obtain rfl:m'=vs.length:=J.len
 refine ⟨I,fp,[I],vs.length,P,St,hit,J.walks,by rw [szl];omega,J.st,J.lt,quiet re cs J e3,fun D h' tk ys vals hD hl hp hn hP pr hk=>?_⟩
 exact (j4 re J e3 F1.sr hD hp hn hP pr hk al).trans a1 S1
theorem qm (k:GOk C) (H:aG C n ih) (rm:RM A (n+1)) (eo:EOk env L) {gs:List GE} {es:List Expr} {elt:GE} {e':Expr} {nm:Str} {px p p' p'':Pos} {sc:Scope} {j:Nat} (rs:RXs fn env.scope gs es) (hg:bc env.scope j) (hv:cS j=.bi 1) (re:RElt nm elt e') (cs:CompSc sc nm)
  (F:FS C ι σ s.heap L (fn.map gnm) ρ) (h:jj ih ρ elt gs σ=.ok v σ'):wpAny (model C.prog C.w) A (eval (.ListComp e' [⟨.Name nm px,.Call (.Name (gnm j) p') es [] p'',[],0⟩] sc p) env) (PE C ι σ s σ' v) E s:=by
 refine ct fun ng=>?_
 obtain ⟨args,σ1,e1,h1⟩:=bN h reN
 obtain ⟨m,vs,ws,e2,hb,e3,al⟩:=cv h1
 refine ng ?_
 refine wpAny_ListComp_walk (fun ξ=>true) (jg elt) cs.free cs.cell cs.kind cs.names cs.here (cL k @H rm eo hg hv rs F e1 e2 fun hm ι1 s1 a1 F1 S1 it s2 hi=>?_) (fun ξ=>rfl)
 refine ct fun ng=>?_
 obtain ⟨I,fp,P,St,m',hit,J⟩:=hi
 obtain ⟨hm,_⟩:=hm
 subst hm
 obtain rfl:m'=vs.length:=J.len
 refine ng ?_
 refine ⟨I,fp,[I],vs.length,P,St,hit,J.walks,by rw [szl];omega,J.st,J.lt,quiet re cs J e3,fun D h' tk ys vals hD hl hp hn hP pr hk=>?_⟩
 exact (j4 re J e3 F1.sr hD hp hn hP pr hk al).trans a1 S1
end
end Gh
end
section
namespace Gh
open PySem PyProof.Rows PySem.W PySem.SeqAt PySem.Calls
structure CI (ih:Ev):Prop where
 int:∀ {ρ m σ v σ'},ih.e ρ (.cint m) σ=.ok v σ'→v=.int m 0∧σ'=σ
 glob:∀ {ρ i w σ v σ'},ih.e ρ (.glob i w) σ=.ok v σ'→v=w∧σ'=σ
section
variable {C:Cx} {n:Nat} {ih:Ev}
theorem ub (k:GOk C) (H:aG C n ih) (T:hO C n ih) (HF:dU C n ih) (ci:CI ih):aG C (n+1) (dP ih):=by
 intro A ι σ s L env fn ρ g ex v σ' E rm eo r F h
 change rU ih ρ g σ=_ at h
 replace r:=r.out
 cases r with
 | loc hi hl=>exact vg eo k.toKOk hi hl F h
 | glob hg hv hn =>
  injection h with h1 h2
  subst h1 h2
  exact iI eo k F.sr hg hv hn fun x hx=>PE.here F.sr (hx _ _)
 | cint =>
  injection h with h1 h2
  subst h1 h2
  exact wpAny_Constant_int (PE.same F.sr (.int (by rw [k.zero,Int.add_zero])))
 | cstr =>
  injection h with h1 h2
  subst h1 h2
  exact wpAny_Constant_str (PE.same F.sr (.str rfl))
 | cnone =>
  injection h with h1 h2
  subst h1 h2
  exact wpAny_Constant_none (PE.here F.sr .none)
 | cbool =>
  injection h with h1 h2
  subst h1 h2
  exact wpAny_Constant_bool (PE.here F.sr .bool)
 | attr r hf hb=>exact sQ k @H rm eo r hf hb F h
 | sub r rj=>exact vb k @H rm eo r rj F h
 | rev r=>exact vc k @H rm eo r F h
 | call hg hv hn rs hl =>
  refine ct fun ng=>?_
  obtain ⟨w,σ0,e0,h0⟩:=af (k:=fun f σ=>@RL.rec (fun ξ=>RE) .fail (fun vs σ=>apply ih f vs σ) (evs ih ρ _ σ)) h nofun
  obtain ⟨vs,σ1,e1,h1⟩:=bN h0 reN
  obtain ⟨rfl,rfl⟩:=ci.glob e0
  refine ng ?_
  exact sK k @H @HF rm eo hg hv hn rs F e1 h1
 | meth r hb rs hl hp=>exact sH k @H @HF rm eo r hb rs hl hp F h
 | bmeth r hb rs hl hp=>exact qn k @H rm eo r hb rs hl hp F h
 | bin r rj=>exact vk k @H rm eo r rj F h
 | cmp r rj =>
  obtain ⟨b,σ1,e1,h1⟩:=b6 h reN
  injection h1 with h1 h2
  subst h1 h2
  exact (rA k @H rm eo r rj F e1).2
 | cmp2 r rj rf =>
  obtain ⟨b,σ1,e1,h1⟩:=b6 h reN
  injection h1 with h1 h2
  subst h1 h2
  exact (n5 k @H rm eo r rj rf F e1).2
 | and rs =>
  refine ct fun ng=>?_
  obtain ⟨b,σ1,e1,h1⟩:=b6 h reN
  injection h1 with h1 h2
  subst h1 h2
  refine ng ?_
  exact (n6 @T rm.pred eo rs nofun F e1).2
 | or rs =>
  refine ct fun ng=>?_
  obtain ⟨b,σ1,e1,h1⟩:=b6 h reN
  injection h1 with h1 h2
  subst h1 h2
  refine ng ?_
  exact (sG @T rm.pred eo rs nofun F e1).2
 | not r =>
  obtain ⟨b,σ1,e1,h1⟩:=b6 h reN
  injection h1 with h1 h2
  subst h1 h2
  exact (rn @T rm.pred eo r F e1).2
 | ite r rj rf=>exact vh @H @T rm.pred eo r rj rf F h
 | tup rs hl=>exact u9 @H rm.pred eo rs hl F h
 | lst rs hl=>exact vf @H rm.pred eo rs hl F h
 | dct0=>exact sI F.sr h
 | dct rs hl=>exact vj k @H rm.pred eo rs hl F h
 | comp r re cs=>exact sJ @H rm eo r re cs F h
 | compR rs hl hg hv re cs=>exact qm k @H rm eo rs hg hv re cs F h
 | neg=>exact vd k F.sr ci.int h
theorem rD (H:aG C n ih) {A:Around} {ι:Im} {σ σ':St} {s:Shared} {L:Addr} {env:Env} {fn:List Nat} {ρ:List V} {g:GE} {ex:Expr} {b:Bool} {E:Value→Shared→Prop}
  (rm:RM A n) (eo:EOk env L) (r:RX fn env.scope g ex) (F:FS C ι σ s.heap L (fn.map gnm) ρ) (h:bU ih ρ g σ=.ok b σ') (he:∀ whole,isTrue ex env whole=(do let v ← whole;standAt ex.pos;holding [v] (truthy v))) :
  wpAny (model C.prog C.w) A (isTrue ex env (eval ex env)) (PT C ι σ s σ' b) E s∧wpAny (model C.prog C.w) A (eval ex env) (PE C ι σ s σ' (.bool b)) E s:=by
 refine ct fun ng=>?_
 obtain ⟨v,σ1,e1,h1⟩:=af h nofun
 obtain ⟨b',rfl,h2⟩:=lh h1 nofun
 injection h2 with h2 h3
 subst h2 h3
 refine ng ?_
 refine ⟨isTrue_plain (ao F (H rm eo r F e1) fun ι1 s1 x a1 F1 S1 r1=>?_) (he _),H rm eo r F e1⟩
 obtain rfl:=r1.boolI
 exact wpAny_truthy_bool ⟨rfl,a1,ι1,F1.sr,S1⟩
theorem sU (k:GOk C) (H:aG C n ih) (T:hO C n ih):hO C (n+1) (dP ih):=by
 intro A ι σ s L env fn ρ g ex b σ' E rm eo r F h
 change rB ih ρ g σ=_ at h
 have r0:=r
 replace r:=r.out
 cases r with
 | cmp r rj=>exact rA k @H rm eo r rj F h
 | cmp2 r rj rf=>exact n5 k @H rm eo r rj rf F h
 | and rs=>exact ⟨(n6 @T rm.pred eo rs nofun F h).1 _,(n6 @T rm.pred eo rs nofun F h).2⟩
 | or rs=>exact ⟨(sG @T rm.pred eo rs nofun F h).1 _,(sG @T rm.pred eo rs nofun F h).2⟩
 | not r=>exact rn @T rm.pred eo r F h
 | ite r rj rf=>injection h
 | neg=>exact rD @H rm.pred eo r0 F h fun ξ=>rfl
 | _=>exact rD @H rm.pred eo r0 F h fun ξ=>rfl
end
end Gh
end
section
namespace Gh
open PySem PyProof.Rows PySem.W PySem.SeqAt PySem.Calls
noncomputable def QN (C:Cx) (ι:Im) (σ:St) (s:Shared) (L:Addr) (fn:List Nat) (ρ':List V) (σ':St):Shared→Prop :=
 fun s'=>Sh s s'∧∃ ι',FS C ι' σ' s'.heap L (fn.map gnm) ρ'∧SS (·=L) ι σ s.heap ι' σ' s'.heap
noncomputable def QV (C:Cx) (ι:Im) (σ:St) (s:Shared) (L:Addr) (v:V) (σ':St) (x:Value):Shared→Prop :=
 fun s'=>Sh s s'∧∃ ι',SR C ι' σ' s'.heap∧SS (·=L) ι σ s.heap ι' σ' s'.heap∧VR C ι' s'.heap v x
noncomputable def QS (C:Cx) (ι:Im) (σ:St) (s:Shared) (L:Addr) (fn:List Nat) (r:RS):Flow→Shared→Prop:=fun f s'=>match r,f with
 | .next ρ' σ',.next=>QN C ι σ s L fn ρ' σ' s'
 | .ret v σ',.ret x=>QV C ι σ s L v σ' x s'
 | _,_=>False
noncomputable def fC (C:Cx) (n:Nat) (ih:Ev):Prop:=∀ {A:Around} {ι:Im} {σ:St} {s:Shared} {L:Addr} {env:Env} {fn:List Nat} {ρ:List V} {g:GS} {st:Stmt} {r:RS} {E:Value→Shared→Prop},
 RM A n→EOk env L→fn.Nodup→RQ fn env.scope g st→FS C ι σ s.heap L (fn.map gnm) ρ→ih.s ρ g σ=r→r≠.fail→wpAny (model C.prog C.w) A (exec st env) (QS C ι σ s L fn r) E s
section
variable {C:Cx} {n:Nat} {ih:Ev} {ι ι' ι1:Im} {σ σ' σ1:St} {A:Around} {s s1:Shared} {E:Value→Shared→Prop} {L:Addr} {env:Env} {fn:List Nat} {ρ:List V} {a b v:V} {x y z:Value}
theorem SS.x0 {h h':Heap} {X:Addr→Prop} (S:SS X0 ι σ h ι' σ' h'):SS X ι σ h ι' σ' h':=S.weaken fun ξ ξ x ξ=>x.elim
theorem QS.trans {r:RS} {f:Flow} {s':Shared} (a:Sh s s1) (S:SS (·=L) ι σ s.heap ι1 σ1 s1.heap) (q:QS C ι1 σ1 s1 L fn r f s'):QS C ι σ s L fn r f s':=by
 cases r with
 | fail=>exact q
 | next ρ' σ'=>cases f<;>first | exact q | exact let ⟨b,ι2,F,T⟩:=q;⟨a.trans b,ι2,F,S.trans T⟩
 | ret v σ'=>cases f<;>first | exact q | exact let ⟨b,ι2,R,T,r⟩:=q;⟨a.trans b,ι2,R,S.trans T,r⟩
theorem dR (eo:EOk env L):(env.scope.kind==.class||(env.scope.kind==.module&&env.locals != env.globals))=false:=by rw [eo.kind];rfl
theorem dE:∀ (l:List V) (n:Nat),nth l n=l[n]?.getD .unb
 | [],_=>rfl
 | _ :: _,0=>rfl
 | _ :: l,n+1=>dE l n
theorem cN {l:List V} {i j:Nat} {v:V} (h:j≠i):nth (bD l i v) j=nth l j:=by
 rw [dZ,dE,dE,List.getElem?_set_ne (Ne.symm h)]
theorem cO {l:List V} {i:Nat} {v:V}:nth (bD l i v) i=v∨nth (bD l i v) i=.unb:=by
 rw [dZ,dE]
 by_cases h:i < l.length
 ·left;rw [List.getElem?_set_self h];rfl
 ·right;rw [List.getElem?_eq_none (by rw [List.length_set];omega)];rfl
theorem cV {l:List Nat} (nd:l.Nodup) {i j:Nat} (hi:i < l.length) (hj:j < l.length) (e:l[i]=l[j]):i=j:=by
 have:=List.pairwise_iff_getElem.mp nd
 rcases Nat.lt_trichotomy i j with c | c | c
 ·exact absurd e (this i j hi hj c)
 ·exact c
 ·exact absurd e.symm (this j i hj hi c)
theorem FS.set (nk:NmOk) (F:FS C ι σ s.heap L (fn.map gnm) ρ) {i k:Nat} (nd:fn.Nodup) (hi:fn[i]?=some k) {h':Heap} (sb:Heap.SameBut L s.heap h') {m:Str→Option Value} (hm:s.heap.Ns L m)
  (hq:∀ (j:Nat) x,(fn.map gnm)[j]?=some x→nth ρ j≠.unb→∃ v,m x=some v∧VR C ι s.heap (nth ρ j) v) (hn:h'.Ns L (fun y=>if y=gnm k then some x else m y)) (r:VR C ι s.heap v x) :
  FS C ι σ h' L (fn.map gnm) (bD ρ i v)∧SS (·=L) ι σ s.heap ι σ h':=by
 have lv:∃ o,h'.get? L=some o:=let ⟨o,_,_,e,_⟩:=hn;⟨o,e⟩
 have tk:=a8 sb F.notT
 refine ⟨⟨F.sr.other sb lv F.above F.off F.notT,⟨_,hn,fun j y hj hu=>?_⟩,F.above,F.off⟩,SS.other sb lv rfl⟩
 rw [List.getElem?_map] at hj
 obtain ⟨k',e,rfl⟩:=Option.map_eq_some_iff.mp hj
 by_cases c:j=i
 ·subst c
  rw [hi] at e
  obtain rfl:=Option.some.inj e
  rcases cO (l:=ρ) (i:=j) (v:=v) with q | q
  ·rw [q];exact ⟨x,if_pos rfl,r.mono (fun ξ ξ e=>e) tk⟩
  ·exact absurd q hu
 ·rw [cN c] at hu ⊢
  obtain ⟨w,e1,r1⟩:=hq j (gnm k') (by rw [List.getElem?_map,e];rfl) hu
  refine ⟨w,?_,r1.mono (fun ξ ξ e=>e) tk⟩
  rw [if_neg]
  ·exact e1
  ·intro q
   have:=nk.inj _ _ q
   subst this
   obtain ⟨h1,g1⟩:=List.getElem?_eq_some_iff.mp e
   obtain ⟨h2,g2⟩:=List.getElem?_eq_some_iff.mp hi
   exact c (cV nd h1 h2 (g1.trans g2.symm))
theorem bV (nk:NmOk) (eo:EOk env L) (nd:fn.Nodup) (F:FS C ι σ s.heap L (fn.map gnm) ρ) {i k:Nat} (hi:fn[i]?=some k) (hl:ax env.scope k) (r:VR C ι s.heap v x) {Q:Unit→Shared→Prop}
  (q:∀ s',QN C ι σ s L fn (bD ρ i v) σ s'→Q () s'):wpAny (model C.prog C.w) A (storeName env (gnm k) x) Q E s:=by
 obtain ⟨m,hm,hq⟩:=F.ns
 refine wpAny_storeName_local hl (eo.loc▸hm) (fun h' hn sb=>q _ ?_) (dR eo)
 rw [eo.loc] at hn sb
 obtain ⟨F',S'⟩:=F.set nk nd hi sb hm hq hn r
 exact ⟨⟨_,_,rfl⟩,ι,F',S'⟩
theorem aI {env:Env} {e:Expr} (h:aN e=true) (t:Option Expr) (l:Nat):swapsWith e t l env=pure false:=by
 cases e<;>first | rfl | injection h
theorem nZ (nk:NmOk) (H:aG C n ih) (rm:RM A (n+1)) (eo:EOk env L) (nd:fn.Nodup) {i k:Nat} {g:GE} {e:Expr} {p p':Pos} (hi:fn[i]?=some k) (hl:ax env.scope k) (r:RX fn env.scope g e) (hc:aN e=true)
  (F:FS C ι σ s.heap L (fn.map gnm) ρ) {rr:RS} (h:Gh.s_assign ih ρ i g σ=rr) (hn:rr≠.fail):wpAny (model C.prog C.w) A (exec (.Assign [.Name (gnm k) p] e p') env) (QS C ι σ s L fn rr) E s:=by
 refine ct fun ng=>?_
 obtain ⟨v,σ1,e1,h1⟩:=af h hn.symm
 subst h1
 refine ng ?_
 refine wpAny_Assign_Name (ao F (H rm.pred eo r F e1) fun ι1 s1 x a1 F1 S1 r1=>bV nk eo nd F1 hi hl r1 fun s' q=>?_) (aI hc _ _)
 exact QS.trans (r:=.next (bD ρ i v) σ1) (f:=.next) a1 S1.x0 q
theorem j9 {o:Expr} {f:Str} {p:Pos} {Q:Unit→Shared→Prop} (h:wpAny (model C.prog C.w) A (eval o env) (fun ov s1=>wpAny (model C.prog C.w) A (setAttr ov f x) Q E s1) E s):wpAny (model C.prog C.w) A (assign (.Attribute o f p) env x) Q E s:=by
 show wpAny _ A (do
  let ov ← holding [x] (eval o env)
  standAt p.atName
  holding [x,ov] (setAttr ov f x)
  release [x,ov] []) Q E s
 exact wpAny_bind (wpAny_holding (wpAny_mono h (fun ov s1 h1=>wpAny_bind (wpAny_standAt (wpAny_bind (wpAny_holding (wpAny_mono h1 (fun ξ s2 h2=>wpAny_release' h2) fun ξ ξ e=>e))))) fun ξ ξ e=>e))
theorem mN (k:GOk C) (H:aG C n ih) (rm:RM A (n+1)) (eo:EOk env L) {o g:GE} {f:Nat} {e e':Expr} {p p':Pos} (ro:RX fn env.scope o e') (hf:f∈flds) (r:RX fn env.scope g e) (hc:aN e=true)
  (F:FS C ι σ s.heap L (fn.map gnm) ρ) {rr:RS} (h:Gh.s_setattr ih ρ o f g σ=rr) (hn:rr≠.fail):wpAny (model C.prog C.w) A (exec (.Assign [.Attribute e' (gnm f) p] e p') env) (QS C ι σ s L fn rr) E s:=by
 obtain ⟨v,σ1,e1,h1⟩:=af h hn.symm
 obtain ⟨ov,σ2,e2,h2⟩:=af h1 hn.symm
 obtain ⟨gg,rfl,h3⟩:=aB h2 hn.symm
 obtain ⟨w,c,fs,e3,h4⟩:=cp h3 hn.symm
 obtain ⟨hw,h5⟩:=ac (α:=RS) (n:=@Bool.rec (fun ξ=>RS) .fail (.next ρ (upd σ2 gg (.inst c (dN f v fs)))) (Nat.ble (qJ fs) 200)) h4 hn.symm
 subst hw
 obtain ⟨hl,h6⟩:=ac (α:=RS) h5 hn.symm
 subst h6
 refine wpAny_Assign_stores (ao F (H rm.pred eo r F e1) fun ι1 s1 x a1 F1 S1 r1=>?_) (aI (env:=env) hc (some (.Attribute e' (gnm f) p)) p'.line) (by cases e<;>rfl)
 show wpAny _ A (assign (.Attribute e' (gnm f) p) env x) _ E s1
 refine j9 (ao F1 (H rm.pred eo ro F1 e2) fun ι2 s2 y a2 F2 S2 r2=>?_)
 refine wm (hE k.toKOk F2.sr r2 (F1.sr.vr S2 r1) e3 hf (natble.mp hl)) (fun _ s3 ⟨b,R3,S3⟩=>?_)
 exact ⟨(a1.trans a2).trans b,ι2,F2.step R3 S3,(S1.trans (S2.trans S3)).x0⟩
theorem nV (k:GOk C) (H:aG C n ih) (rm:RM A (n+1)) (eo:EOk env L) {o i g:GE} {e e' j:Expr} {p p':Pos} (ro:RX fn env.scope o e') (ri:RX fn env.scope i j) (r:RX fn env.scope g e)
  (F:FS C ι σ s.heap L (fn.map gnm) ρ) {rr:RS} (h:Gh.s_setsub ih ρ o i g σ=rr) (hn:rr≠.fail):wpAny (model C.prog C.w) A (exec (.Assign [.Subscript e' j p] e p') env) (QS C ι σ s L fn rr) E s:=by
 obtain ⟨v,σ1,e1,h1⟩:=af h hn.symm
 obtain ⟨ov,σ2,e2,h2⟩:=af h1 hn.symm
 obtain ⟨iv,σ3,e3,h3⟩:=af h2 hn.symm
 obtain ⟨σ4,e4,h4⟩:=oj h3 hn.symm
 subst h4
 refine wpAny_Assign_Subscript (ao F (H rm.pred eo r F e1) fun ι1 s1 x a1 F1 S1 r1=>ao F1 (H rm.pred eo ro F1 e2) fun ι2 s2 y a2 F2 S2 r2=>ao F2 (H rm.pred eo ri F2 e3) fun ι3 s3 z a3 F3 S3 r3=>?_) (by cases r.out<;>rfl)
 refine wm (dm k.toCxOk (rm.u2) F3.sr (F2.sr.vr S3 r2) r3 (F2.sr.vr S3 (F1.sr.vr S2 r1)) e4) (fun _ s4 ⟨b,R4,S4⟩=>?_)
 exact ⟨((a1.trans a2).trans a3).trans b,ι3,F3.step R4 S4,(S1.trans (S2.trans (S3.trans S4))).x0⟩
theorem sv (H:aG C n ih) (rm:RM A (n+1)) (eo:EOk env L) {g:GE} {e:Expr} {p:Pos} (r:RX fn env.scope g e) (hc:aN e=true)
  (F:FS C ι σ s.heap L (fn.map gnm) ρ) {rr:RS} (h:Gh.s_expr ih ρ g σ=rr) (hn:rr≠.fail):wpAny (model C.prog C.w) A (exec (.Expr e p) env) (QS C ι σ s L fn rr) E s:=by
 refine ct fun ng=>?_
 obtain ⟨v,σ1,e1,h1⟩:=af h hn.symm
 subst h1
 refine ng ?_
 exact wpAny_Expr_any (ao F (H rm.pred eo r F e1) fun ι1 s1 x a1 F1 S1 r1=>⟨a1,ι1,F1,S1.x0⟩) (by unfold interactive;rw [eo.kind];rfl) (aI hc _ _)
theorem u6 (H:aG C n ih) (rm:RM A (n+1)) (eo:EOk env L) {g:GE} {e:Expr} {p:Pos} (r:RX fn env.scope g e)
  (F:FS C ι σ s.heap L (fn.map gnm) ρ) {rr:RS} (h:Gh.s_ret ih ρ g σ=rr) (hn:rr≠.fail):wpAny (model C.prog C.w) A (exec (.Return (some e) p) env) (QS C ι σ s L fn rr) E s:=by
 refine ct fun ng=>?_
 obtain ⟨v,σ1,e1,h1⟩:=af h hn.symm
 subst h1
 refine ng ?_
 exact wpAny_Return_some (ao F (H rm.pred eo r F e1) fun ι1 s1 x a1 F1 S1 r1=>⟨a1,ι1,F1.sr,S1.x0,r1⟩)
end
end Gh
end
section
namespace Gh
open PySem PyProof.Rows PySem.W PySem.SeqAt PySem.Calls
section
variable {C:Cx} {X:Addr→Prop} {n:Nat} {ih:Ev} {ι ι' ι0 ι1:Im} {σ σ' σ0 σ1:St} {A:Around} {s s1:Shared} {E:Value→Shared→Prop} {L K:Addr} {env:Env} {fn:List Nat} {ρ ρ':List V} {a b v:V} {x y z:Value} {h h' h0:Heap}
theorem SR.but (R:SR C ι σ h) (k:∀ b o,b≠K→h.get? b=some o→h'.get? b=some o) (hK:C.h0.get? K=none) (off:∀ g p,ι g=some p→K≠p.1∧K≠p.2) (nT:∀ o,h.get? K=some o→¬ isT o):SR C ι σ h' :=
 ⟨fun g p e=>let ⟨a,b,c,⟨o,d⟩,o',e'⟩:=R.dom g p e;⟨a,b,c,⟨o,k _ _ (Ne.symm (off g p e).1) d⟩,o',k _ _ (Ne.symm (off g p e).2) e'⟩,R.apart,
  fun g w o e=>let ⟨p,i,r⟩:=R.obs g w o e;⟨p,i,r.mono (fun ξ ξ e=>e) (fun a o e t=>k a o (fun c=>nT o (c▸e) t) e) (fun o e=>k _ o (Ne.symm (off g p i).1) e) (fun o e=>k _ o (Ne.symm (off g p i).2) e)⟩,
  fun a o e=>k a o (fun c=>aa hK (c▸e)) (R.base a o e)⟩
theorem Tk.but (k:∀ b o,b≠K→h.get? b=some o→h'.get? b=some o) (nT:∀ o,h.get? K=some o→¬ isT o):Tk h h':=fun a o e t=>k a o (fun c=>nT o (c▸e) t) e
theorem SS.but (S:SS X ι0 σ0 h0 ι σ h) (k:∀ b o,b≠K→h.get? b=some o→h'.get? b=some o) (hK:h0.get? K=none):SS X ι0 σ0 h0 ι σ h' :=
 ⟨S.ext,S.new,fun a o e x w=>k a o (fun c=>aa hK (c▸e)) (S.keep a o e x w),fun a o e=>let ⟨o',e'⟩:=S.live a o e;⟨o',k a o' (fun c=>aa hK (c▸e)) e'⟩,S.flag⟩
theorem SS.butX (S:SS X ι0 σ0 h0 ι σ h) (k:∀ b o,b≠K→h.get? b=some o→h'.get? b=some o) (hK:X K) (lv:∃ o,h'.get? K=some o):SS X ι0 σ0 h0 ι σ h' :=
 ⟨S.ext,S.new,fun a o e x w=>k a o (fun c=>x (c▸hK)) (S.keep a o e x w),fun a o e=>by
  obtain ⟨o',e'⟩:=S.live a o e
  by_cases c:a=K
  ·subst c;exact lv
  ·exact ⟨o',k a o' c e'⟩,S.flag⟩
theorem QN.trans (a:Sh s s1) (S:SS (·=L) ι σ s.heap ι1 σ1 s1.heap) {s':Shared} (q:QN C ι1 σ1 s1 L fn ρ' σ' s'):QN C ι σ s L fn ρ' σ' s' :=
 let ⟨b,ι2,F,T⟩:=q;⟨a.trans b,ι2,F,S.trans T⟩
theorem mP (nk:NmOk) (eo:EOk env L) (nd:fn.Nodup) {xs:List Nat} {ts:List Expr} (rt:RTs fn env.scope xs ts):∀ {vs:List V} {items:List Value} {ι:Im} {σ:St} {s:Shared} {ρ ρ':List V},VRs C ι s.heap vs items→de xs vs ρ=.ok ρ'→FS C ι σ s.heap L (fn.map gnm) ρ →
  wpAny (model C.prog C.w) A (assignInOrder ((assignEach ts env).map (·.2)) items) (fun ξ s'=>QN C ι σ s L fn ρ' σ s') E s:=by
 induction rt with
 | nil =>
  intro vs items ι σ s ρ ρ' rs h F
  cases rs with
  | nil =>
   injection h with h;subst h
   exact wpAny_pure ⟨Sh.refl,ι,F,SS.refl⟩
  | cons _ _=>injection h
 | @cons i k p xs ts hi hl rt ihr =>
  intro vs items ι σ s ρ ρ' rs h F
  cases rs with
  | nil=>injection h
  | @cons v x vs items r rs =>
   change de xs vs (bD ρ i v)=_ at h
   show wpAny _ A (do holding items (assign (.Name (gnm k) p) env x);assignInOrder ((assignEach ts env).map (·.2)) items) _ _ _
   refine wpAny_bind (wpAny_holding (wpAny_assign_Name (bV nk eo nd F hi hl r fun s' q=>?_)))
   refine ct fun ng=>?_
   obtain ⟨a,ι1,F1,S1⟩:=q
   refine ng ?_
   have rs1:VRs C ι1 s'.heap vs items:=VRs.mono S1.ext (S1.tk F.sr fun a e o ho=>by subst e;exact F.notT o ho) rs
   exact wm (ihr rs1 h F1) (fun ξ s2 q=>q.trans a S1)
theorem fV:∀ {xs:List Nat} {vs:List V} {ρ ρ':List V},de xs vs ρ=.ok ρ'→xs.length=vs.length
 | [],[],_,_,_=>rfl
 | [],_ :: _,_,_,h=>nomatch h
 | _ :: _,[],_,_,h=>nomatch h
 | x :: xs,v :: vs,ρ,ρ',h=>congrArg Nat.succ (fV (ρ:=bD ρ x v) h)
theorem qv {xs:List Nat} {ts:List Expr} (r:RTs fn env.scope xs ts):xs.length=(assignEach ts env).length∧(assignEach ts env).findIdx? (·.1)=none:=by
 induction r with
 | nil=>exact ⟨rfl,rfl⟩
 | cons _ _ rt ih =>
  refine ⟨congrArg Nat.succ ih.1,?_⟩
  show ((false,_) :: assignEach _ env).findIdx? (·.1)=none
  rw [List.findIdx?_cons,ih.2];rfl
theorem ly (nk:NmOk) (rm:RM A n) (eo:EOk env L) (nd:fn.Nodup) {xs:List Nat} {ts:List Expr} {k:Nat} {p:Pos} (rt:RTs fn env.scope xs ts) {vs:List V} (r:VR C ι s.heap (.tup vs) x) (h:de xs vs ρ=.ok ρ') (F:FS C ι σ s.heap L (fn.map gnm) ρ) :
  wpAny (model C.prog C.w) A (assign (.Tuple ts k p) env x) (fun ξ s'=>QN C ι σ s L fn ρ' σ s') E s:=by
 refine ct fun ng=>?_
 obtain ⟨ad,items,rfl,t,l,f⟩:=r.tupI
 obtain ⟨m,t⟩:=t
 have ht:s.heap.IsTuple ad items.toArray:=⟨_,t,rfl,m,rfl⟩
 obtain ⟨r1,r2⟩:=qv (fn:=fn) rt
 refine ng ?_
 refine wpAny_assign_Tuple rm.han ht ?_ r2 fun h' he=>?_
 ·rw [← r1,fV h,List.size_toArray,l]
 ·have kp:∀ b o,s.heap.get? b=some o→h'.get? b=some o:=fun b o e=>he b o (Nat.ne_of_lt (Heap.lt_size e)) e
  have F':=F.step (F.sr.grow kp) (SS.grow kp)
  have:=mP (A:=A) (E:=E) (s:={ s with heap:=h' }) nk eo nd rt (VRs.mono (fun ξ ξ e=>e) (fun a o e ξ=>kp a o e) (F2.of_get l f)) h F'
  exact wm this (fun ξ s2 q=>q.trans (Sh.mk _ _) (SS.grow kp))
theorem nU (nk:NmOk) (H:aG C n ih) (rm:RM A (n+1)) (eo:EOk env L) (nd:fn.Nodup) {xs:List Nat} {ts:List Expr} {g:GE} {e:Expr} {k:Nat} {p p':Pos} (rt:RTs fn env.scope xs ts) (r:RX fn env.scope g e) (ht:kG e=true) (hc:aN e=true)
  (F:FS C ι σ s.heap L (fn.map gnm) ρ) {rr:RS} (h:jD ih ρ xs g σ=rr) (hn:rr≠.fail):wpAny (model C.prog C.w) A (exec (.Assign [.Tuple ts k p] e p') env) (QS C ι σ s L fn rr) E s:=by
 obtain ⟨v,σ1,e1,h1⟩:=af h hn.symm
 obtain ⟨vs,rfl,h2⟩:=br h1 hn.symm
 obtain ⟨ρ',e2,h3⟩:=dG h2 hn.symm
 subst h3
 refine wpAny_Assign_stores (ao F (H rm.pred eo r F e1) fun ι1 s1 x a1 F1 S1 r1=>?_) (aI (env:=env) hc (some (.Tuple ts k p)) p'.line) (by cases e<;>first | rfl | injection ht)
 show wpAny _ A (assign (.Tuple ts k p) env x) _ E s1
 exact wm (ly nk rm.pred eo nd rt r1 e2 F1) (fun ξ s2 q=>q.trans a1 S1.x0)
theorem gQ (ρk:RhoOk C) {o o':Int} {a a':Nat} {t t':Tok} {m m':Int} (hs:SR C ι σ s.heap) (e1:m=o+C.ρ a) (e2:m'=o'+C.ρ a') (h:pO o a o' a' σ=.ok v σ') :
  wpAny (model C.prog C.w) A (inplaceOp .Add (.int m t) (.int m' t')) (PE C ι σ s σ' v) E s:=by
 have z:=ρk.zero
 refine PyProof.Rows.iadd_int ?_
 unfold pO at h
 cases ea:Nat.beq a 0 with
 | true =>
  rw [ea] at h
  injection h with h1 h2
  subst h2 h1
  obtain rfl:=natbeq.mp ea
  exact PE.same hs (.int (by rw [gh];omega))
 | false =>
  rw [ea] at h
  change @Bool.rec (fun ξ=>RE) .fail _ (Nat.beq a' 0)=_ at h
  cases eb:Nat.beq a' 0 with
  | false=>rw [eb] at h;injection h
  | true =>
   rw [eb] at h
   injection h with h1 h2
   subst h2 h1
   obtain rfl:=natbeq.mp eb
   exact PE.same hs (.int (by rw [gh];omega))
theorem u8 (k:GOk C) (H:aG C n ih) (rm:RM A (n+1)) (eo:EOk env L) (nd:fn.Nodup) {i kk:Nat} {g:GE} {e:Expr} {p p':Pos} (hi:fn[i]?=some kk) (hl:ax env.scope kk) (r:RX fn env.scope g e)
  (F:FS C ι σ s.heap L (fn.map gnm) ρ) {rr:RS} (h:rG ih ρ i .add g σ=rr) (hn:rr≠.fail):wpAny (model C.prog C.w) A (exec (.AugAssign (.Name (gnm kk) p) .Add e p') env) (QS C ι σ s L fn rr) E s:=by
 refine ct fun ng=>?_
 obtain ⟨o,q,e0,h0⟩:=ae h hn.symm
 obtain ⟨v,σ1,e1,h1⟩:=af h0 hn.symm
 obtain ⟨o',q',rfl,h2⟩:=ae h1 hn.symm
 obtain ⟨w,σ2,e2,h3⟩:=af h2 hn.symm
 subst h3
 obtain ⟨m,hm,qq⟩:=F.ns
 refine ng ?_
 obtain ⟨ov,hv,rv⟩:=qq i (gnm kk) (by rw [List.getElem?_map,hi];rfl) (by rw [e0];exact nofun)
 rw [e0] at rv
 refine wpAny_AugAssign_Name (wpAny_loadName_local eo.kind hl (eo.loc▸hm) hv (ao F (H rm.pred eo r F e1) fun ι1 s1 x a1 F1 S1 r1=>?_))
 refine ct fun ng=>?_
 obtain ⟨_,_,rfl,z1⟩:=rv.intI
 obtain ⟨_,_,rfl,z2⟩:=r1.intI
 refine ng ?_
 refine ao F1 (gQ k.toRhoOk F1.sr z1 z2 e2) fun ι2 s2 y a2 F2 S2 r2=>?_
 exact bV k.nm eo nd F2 hi hl r2 fun s' q=>QN.trans (a1.trans a2) (S1.trans S2).x0 q
theorem nY (k:GOk C) (H:aG C n ih) (rm:RM A (n+1)) (eo:EOk env L) {o i g:GE} {e e' j:Expr} {p p':Pos} (ro:RX fn env.scope o e') (ri:RX fn env.scope i j) (r:RX fn env.scope g e)
  (F:FS C ι σ s.heap L (fn.map gnm) ρ) {rr:RS} (h:jE ih ρ o i .add g σ=rr) (hn:rr≠.fail):wpAny (model C.prog C.w) A (exec (.AugAssign (.Subscript e' j p) .Add e p') env) (QS C ι σ s L fn rr) E s:=by
 obtain ⟨ov,σ1,e1,h1⟩:=af h hn.symm
 obtain ⟨iv,σ2,e2,h2⟩:=af h1 hn.symm
 obtain ⟨n1,q1,e3,h3⟩:=ae h2 hn.symm
 obtain ⟨v,σ3,e4,h4⟩:=af h3 hn.symm
 obtain ⟨n2,q2,rfl,h5⟩:=ae h4 hn.symm
 obtain ⟨w,σ4,e5,h6⟩:=af h5 hn.symm
 obtain ⟨σ5,e6,h7⟩:=oj h6 hn.symm
 subst h7
 refine wpAny_AugAssign_Subscript_any (ao F (H rm.pred eo ro F e1) fun ι1 s1 x a1 F1 S1 r1=>ao F1 (H rm.pred eo ri F1 e2) fun ι2 s2 y a2 F2 S2 r2=>?_) (by cases ri.out<;>(intro _ _ _;rfl))
 refine ct fun ng=>?_
 obtain ⟨T,id,_,_,hg⟩:=cz (A:=A) (E:=E) k.toCxOk F2.sr (F1.sr.vr S2 r1) r2 e3 nofun
 refine ng ?_
 refine wm hg (fun x3 s3 q=>?_)
 obtain ⟨rv,t,rfl⟩:=q
 have F3:FS C ι2 σ2 ({ s2 with toks:=t }:Shared).heap L (fn.map gnm) ρ:=F2
 refine ao (s:={ s2 with toks:=t }) F3 (H rm.pred eo r F3 e4) fun ι4 s4 z a4 F4 S4 r4=>?_
 have rv4:=F2.sr.vr S4 rv
 refine ct fun ng=>?_
 obtain ⟨_,_,rfl,z1⟩:=rv4.intI
 obtain ⟨_,_,rfl,z2⟩:=r4.intI
 refine ng ?_
 refine ao F4 (gQ k.toRhoOk F4.sr z1 z2 e5) fun ι5 s5 y5 a5 F5 S5 r5=>?_
 refine wm (dm k.toCxOk (rm.u2) F5.sr (F4.sr.vr S5 (F2.sr.vr S4 (F1.sr.vr S2 r1))) (F4.sr.vr S5 (F2.sr.vr S4 r2)) r5 e6) (fun _ s6 ⟨b,R6,S6⟩=>?_)
 exact ⟨((a1.trans a2).trans (Sh.mk _ _)).trans ((a4.trans a5).trans b),ι5,F5.step R6 S6,(S1.trans (S2.trans (S4.trans (S5.trans S6)))).x0⟩
end
end Gh
end
section
namespace Gh
open PySem PyProof.Rows PySem.W PySem.SeqAt PySem.Calls
section
variable {C:Cx} {X:Addr→Prop} {n:Nat} {ih:Ev} {ι ι' ι0 ι1:Im} {σ σ' σ0 σ1:St} {A:Around} {s s1:Shared} {E:Value→Shared→Prop} {L K:Addr} {env:Env} {fn:List Nat} {ρ ρ':List V} {a b v:V} {x y z:Value} {h h' h0:Heap}
theorem FS.setK (nk:NmOk) (F:FS C ι σ h L (fn.map gnm) ρ) {i k:Nat} (nd:fn.Nodup) (hi:fn[i]?=some k) {m:Str→Option Value} (tk:Tk h h')
  (hq:∀ (j:Nat) x,(fn.map gnm)[j]?=some x→nth ρ j≠.unb→∃ v,m x=some v∧VR C ι h (nth ρ j) v) (hn:h'.Ns L (fun y=>if y=gnm k then some x else m y)) (R':SR C ι' σ' h') (ext:∀ g p,ι g=some p→ι' g=some p)
  (off:∀ g p,ι' g=some p→L≠p.1∧L≠p.2) (r:VR C ι' h' v x):FS C ι' σ' h' L (fn.map gnm) (bD ρ i v):=by
 refine ⟨R',⟨_,hn,fun j y hj hu=>?_⟩,F.above,off⟩
 rw [List.getElem?_map] at hj
 obtain ⟨k',e,rfl⟩:=Option.map_eq_some_iff.mp hj
 by_cases c:j=i
 ·subst c
  rw [hi] at e
  obtain rfl:=Option.some.inj e
  rcases cO (l:=ρ) (i:=j) (v:=v) with q | q
  ·rw [q];exact ⟨x,if_pos rfl,r⟩
  ·exact absurd q hu
 ·rw [cN c] at hu ⊢
  obtain ⟨w,e1,r1⟩:=hq j (gnm k') (by rw [List.getElem?_map,e];rfl) hu
  refine ⟨w,?_,r1.mono ext tk⟩
  rw [if_neg]
  ·exact e1
  ·intro q
   have:=nk.inj _ _ q
   subst this
   obtain ⟨h1,g1⟩:=List.getElem?_eq_some_iff.mp e
   obtain ⟨h2,g2⟩:=List.getElem?_eq_some_iff.mp hi
   exact c (cV nd h1 h2 (g1.trans g2.symm))
theorem j3 {elt:GE} {e:Expr} {nm:Str} (nk:NmOk) (nd:fn.Nodup) {i k:Nat} (hi:fn[i]?=some k) (F:FS C ι σ s.heap L (fn.map gnm) ρ) (r:RElt nm elt e) {σf:St} {vs ws:List V} {I:Addr} {fp:List Addr} {P:Nat→Value→Prop} {St:Nat→Heap→Prop} {m:Nat} {s2:Shared}
  (J:Iter C A ι σf L s vs I fp P St m s2) (hc:fO elt vs=.ok ws) {mm:Str→Option Value} (hm:s.heap.Ns L mm) (hq:∀ (j:Nat) x,(fn.map gnm)[j]?=some x→nth ρ j≠.unb→∃ v,mm x=some v∧VR C ι s.heap (nth ρ j) v)
  {D:Addr} {h1:Heap} {tk:Nat} {ys:Array Value} {vals:List Value} (hD:s2.heap.get? D=none) (hp:h1.PlainList D ys) (hl:vals.length=m) (hP:∀ j v,vals[j]?=some v→P j v) (pr:Paired (jg elt) (vals.filter fun ξ=>true) ys.toList)
  (hns:h1.Ns L (fun z=>if z=gnm k then some (.ref D) else mm z)) (hk:∀ b o,b≠L→b∉[I]→s2.heap.get? b=some o→h1.get? b=some o) (al:alloc σ (.lst m ws)=.ok v σ'):QN C ι σ s L fn (bD ρ i v) σ' { s2 with heap:=h1,toks:=tk }:=by
 rw [dM] at pr
 have rv:=iB r J hc hl hP pr
 have kk:∀ b o,b≠L→s.heap.get? b=some o→h1.get? b=some o:=fun b o hb e=>hk b o hb (fun c=>by
  rcases List.mem_cons.mp c with rfl | c
  ·exact aa J.new e
  ·exact nomatch c) (J.old b o e)
 have d:s.heap.get? D=none:=by
  cases q:s.heap.get? D with
  | none=>rfl
  | some o=>exact (aa hD (J.old _ _ q)).elim
 have lv:∃ o,h1.get? L=some o:=let ⟨o,_,_,e,_⟩:=hns;⟨o,e⟩
 have tk':=Tk.but kk F.notT
 have R1:SR C ι σ h1:=F.sr.but kk F.above F.off F.notT
 have S1:SS (·=L) ι σ s.heap ι σ h1:=SS.butX SS.refl kk rfl lv
 have dL:D≠L:=fun c=>by obtain ⟨o,e⟩:=F.live;exact aa d (c▸e)
 have offD:∀ g q,ι g=some q→D≠q.1∧D≠q.2:=fun g q e=>by
  refine ct fun ng=>?_
  obtain ⟨_,_,_,⟨o,l1⟩,o',l2⟩:=F.sr.dom g q e
  refine ng ?_
  exact ⟨fun c=>aa d (c▸l1),fun c=>aa d (c▸l2)⟩
 have base0:C.h0.get? D=none:=by
  cases q:C.h0.get? D with
  | none=>rfl
  | some o=>exact (aa d (F.sr.base _ _ q)).elim
 injection al with al1 al2
 subst al1 al2
 have ln:m=ws.length:=by rw [(c9 hc).1,J.len]
 have R2:SR C (ιput ι σ.n (D,D)) ⟨Tr.put .no (.ob true (.lst m ws)) σ.n σ.h,σ.n.succ⟩ h1 :=
  R1.put base0 base0 (fun g q e=>⟨(offD g q e).1,(offD g q e).2,(offD g q e).1,(offD g q e).2⟩) (let ⟨n,e⟩:=hp;⟨_,e⟩) (fun ι' ext=>.lst ys.toList hp ln (VRs.mono ext tk' rv))
 have S2:SS (·=L) ι σ s.heap (ιput ι σ.n (D,D)) ⟨Tr.put .no (.ob true (.lst m ws)) σ.n σ.h,σ.n.succ⟩ h1:=S1.put R1 F.sr d d
 refine ⟨J.sh.trans ⟨_,_,rfl⟩,_,F.setK nk nd hi tk' hq hns R2 S2.ext (fun g p e=>?_) (.ref (d:=D) (by unfold ιput;rw [if_pos rfl])),S2⟩
 unfold ιput at e
 split at e
 ·obtain rfl:=Option.some.inj e;exact ⟨dL.symm,dL.symm⟩
 ·exact F.off g p e
theorem dz (eo:EOk env L) {e e':Expr} {nm:Str} {px py p spos:Pos} {sc:Scope} {k:Nat} (hl:ax env.scope k) (hp:(py.line==p.line)=true) (hs:(sc.names.any fun(n,kk)=>n==gnm k&&(kk==.local||kk==.cell))=false) :
  swapsWith (.ListComp e' [⟨.Name nm px,e,[],0⟩] sc p) (some (.Name (gnm k) py)) spos.line env=pure true:=by
 have b:(env.blockKind==.function)=true:=by unfold Env.blockKind;rw [eo.kind];rfl
 have l:(env.kindOf (gnm k)==some .local)=true:=by rw [show env.kindOf (gnm k)=some .local from hl];rfl
 show pure (env.blockKind==.function&&env.kindOf (gnm k)==some .local&&py.line==p.line&&!(sc.names.any fun(n,kk)=>n==gnm k&&(kk==.local||kk==.cell)))=_
 rw [b,l,hp,hs];rfl
theorem mK {I:Addr} (F:FS C ι σ s.heap L (fn.map gnm) ρ) (h:s.heap.get? I=none):L∉[I]:=fun c=>by
 obtain ⟨o,e⟩:=F.live
 rcases List.mem_cons.mp c with rfl | c
 ·exact aa h e
 ·exact nomatch c
theorem mR (nk:NmOk) (H:aG C n ih) (rm:RM A (n+2)) (eo:EOk env L) (nd:fn.Nodup) {i k:Nat} {g elt:GE} {e e':Expr} {nm:Str} {px py p spos:Pos} {sc:Scope} (hi:fn[i]?=some k) (hl:ax env.scope k) (r:RX fn env.scope g e) (re:RElt nm elt e') (cs:CompSc sc nm)
  (hp:(py.line==p.line)=true) (hs:(sc.names.any fun(n,kk)=>n==gnm k&&(kk==.local||kk==.cell))=false)
  (F:FS C ι σ s.heap L (fn.map gnm) ρ) {rr:RS} (h:Gh.s_assign (dP ih) ρ i (.comp elt g) σ=rr) (hn:rr≠.fail):wpAny (model C.prog C.w) A (exec (.Assign [.Name (gnm k) py] (.ListComp e' [⟨.Name nm px,e,[],0⟩] sc p) spos) env) (QS C ι σ s L fn rr) E s:=by
 refine ct fun ng=>?_
 obtain ⟨v,σ2,e0,h0⟩:=af h hn.symm
 subst h0
 change kS ih ρ elt g σ=_ at e0
 obtain ⟨o,σ1,e1,h1⟩:=af e0 reN
 obtain ⟨m,vs,ws,e2,hb,e3,al⟩:=cv h1
 refine ng ?_
 refine wpAny_Assign_ListComp_walk (fun ξ=>true) (jg elt) (dz eo hl hp hs) cs.free cs.cell cs.kind cs.names cs.here hl (dR eo) (ao F (H rm.pred.pred eo r F e1) fun ι1 s1 x a1 F1 S1 r1=>?_) (jd r)
 obtain ⟨hm,σf,hi'⟩:=gK (E:=E) rm.pred F1 e2 r1
 refine wm hi' (fun it s2 ⟨I,fp,P,St,m',hit,J⟩=>?_)
 subst hm
 obtain rfl:m'=vs.length:=J.len
 obtain ⟨mm,hmm,hq⟩:=F1.ns
 refine ⟨I,fp,[I],vs.length,P,St,mm,hit,J.walks,by rw [szl];omega,J.st,J.lt,eo.loc▸mK F1 J.new,eo.loc▸hmm.keeps J.old,quiet re cs J e3,fun D h' tk ys vals hD hl hp hn hP pr hns hk=>?_⟩
 rw [eo.loc] at hns hk
 exact QN.trans a1 S1.x0 (j3 nk nd hi F1 re J e3 hmm hq hD hp hn hP pr hns hk al)
theorem mO (k:GOk C) (H:aG C n ih) (rm:RM A (n+2)) (eo:EOk env L) (nd:fn.Nodup) {i kk:Nat} {gs:List GE} {es:List Expr} {elt:GE} {e':Expr} {nm:Str} {px py p p' p'' spos:Pos} {sc:Scope} {j:Nat} (hi:fn[i]?=some kk) (hl:ax env.scope kk) (rs:RXs fn env.scope gs es) (hg:bc env.scope j) (hv:cS j=.bi 1) (re:RElt nm elt e') (cs:CompSc sc nm)
  (hp:(py.line==p.line)=true) (hs:(sc.names.any fun(n,k2)=>n==gnm kk&&(k2==.local||k2==.cell))=false)
  (F:FS C ι σ s.heap L (fn.map gnm) ρ) {rr:RS} (h:Gh.s_assign (dP ih) ρ i (.compR elt gs) σ=rr) (hn:rr≠.fail):wpAny (model C.prog C.w) A (exec (.Assign [.Name (gnm kk) py] (.ListComp e' [⟨.Name nm px,.Call (.Name (gnm j) p') es [] p'',[],0⟩] sc p) spos) env) (QS C ι σ s L fn rr) E s:=by
 refine ct fun ng=>?_
 obtain ⟨v,σ2,e0,h0⟩:=af h hn.symm
 subst h0
 change jj ih ρ elt gs σ=_ at e0
 obtain ⟨args,σ1,e1,h1⟩:=bN e0 reN
 obtain ⟨m,vs,ws,e2,hb,e3,al⟩:=cv h1
 refine ng ?_
 refine wpAny_Assign_ListComp_walk (fun ξ=>true) (jg elt) (dz eo hl hp hs) cs.free cs.cell cs.kind cs.names cs.here hl (dR eo) (cL k @H rm.pred eo hg hv rs F e1 e2 fun hm ι1 s1 a1 F1 S1 it s2 hi'=>?_) (fun ξ=>rfl)
 refine ct fun ng=>?_
 obtain ⟨I,fp,P,St,m',hit,J⟩:=hi'
 obtain ⟨hm,_⟩:=hm
 subst hm
 obtain rfl:m'=vs.length:=J.len
 obtain ⟨mm,hmm,hq⟩:=F1.ns
 refine ng ?_
 refine ⟨I,fp,[I],vs.length,P,St,mm,hit,J.walks,by rw [szl];omega,J.st,J.lt,eo.loc▸mK F1 J.new,eo.loc▸hmm.keeps J.old,quiet re cs J e3,fun D h' tk ys vals hD hl hp hn hP pr hns hk=>?_⟩
 rw [eo.loc] at hns hk
 exact QN.trans a1 S1.x0 (j3 k.nm nd hi F1 re J e3 hmm hq hD hp hn hP pr hns hk al)
theorem hZ (HS:fC C n ih) (rm:RM A n) (eo:EOk env L) (nd:fn.Nodup):∀ {gs:List GS} {sts:List Stmt},RQs fn env.scope gs sts→∀ {ι:Im} {σ:St} {s:Shared} {ρ:List V} {r:RS},FS C ι σ s.heap L (fn.map gnm) ρ→blk ih gs ρ σ=r→r≠.fail →
  wpAny (model C.prog C.w) A (execs sts env) (QS C ι σ s L fn r) E s:=by
 intro gs
 induction gs with
 | nil =>
  intro sts q ι σ s ρ r F h hn
  rw [q.n1]
  change RS.next ρ σ=r at h
  subst h
  exact wpAny_execs_nil ⟨Sh.refl,ι,F,SS.refl⟩
 | cons g gs ihg =>
  intro sts q ι σ s ρ r F h hn
  refine ct fun ng=>?_
  obtain ⟨st,sts,rfl,q,qs⟩:=q.c1
  change @RS.rec (fun ξ=>RS) .fail (fun ρ σ=>blk ih gs ρ σ) (fun v σ=>.ret v σ) (ih.s ρ g σ)=r at h
  refine ng ?_
  cases e:ih.s ρ g σ with
  | fail=>rw [e] at h;exact absurd h.symm hn
  | next ρ1 σ1 =>
   rw [e] at h
   refine wpAny_execs_cons (wm (HS rm eo nd q F e nofun) (fun f s1 q1=>?_))
   cases f<;>first | exact q1.elim | skip
   refine ct fun ng=>?_
   obtain ⟨a1,ι1,F1,S1⟩:=q1
   refine ng ?_
   exact wm (ihg qs F1 h hn) (fun f s2 q2=>q2.trans a1 S1)
  | ret v σ1 =>
   rw [e] at h
   subst h
   refine wpAny_execs_cons (wm (HS rm eo nd q F e nofun) (fun f s1 q1=>?_))
   cases f<;>first | exact q1.elim | exact q1
theorem u7 (T:hO C n ih) (HS:fC C n ih) (rm:RM A n) (eo:EOk env L) (nd:fn.Nodup) {c:GE} {e:Expr} {a b:List GS} {as bs:List Stmt} {p:Pos} (rc:RX fn env.scope c e) (ra:RQs fn env.scope a as) (rb:RQs fn env.scope b bs)
  (F:FS C ι σ s.heap L (fn.map gnm) ρ) {rr:RS} (h:rF ih ρ c a b σ=rr) (hn:rr≠.fail):wpAny (model C.prog C.w) A (exec (.If e as bs p) env) (QS C ι σ s L fn rr) E s:=by
 refine ct fun ng=>?_
 obtain ⟨t,σ1,e1,h1⟩:=b6 h hn.symm
 refine ng ?_
 refine wpAny_If (gl F (T rm eo rc F e1).1 fun ι1 s1 a1 F1 S1=>?_)
 cases t with
 | true=>exact wm (hZ @HS rm eo nd ra F1 h1 hn) (fun f s2 q2=>q2.trans a1 S1.x0)
 | false=>exact wm (hZ @HS rm eo nd rb F1 h1 hn) (fun f s2 q2=>q2.trans a1 S1.x0)
end
end Gh
end
section
namespace Gh
open PySem PyProof.Rows PySem.W PySem.SeqAt PySem.Calls
noncomputable def Kp (ι:Im) (h:Heap) (a:Addr) (o:Obj):Prop:=h.get? a=some o∧∀ g p,ι g=some p→a≠p.1∧a≠p.2
noncomputable def Kps (X:Addr→Prop) (ι:Im) (h:Heap) (ι':Im) (h':Heap):Prop:=∀ a o,¬ X a→Kp ι h a o→Kp ι' h' a o
section
variable {C:Cx} {X Y:Addr→Prop} {ι ι1 ι2:Im} {σ σ1:St} {h h1 h2:Heap}
theorem Kps.refl:Kps X ι h ι h:=fun ξ ξ ξ x=>x
theorem Kps.trans (a:Kps X ι h ι1 h1) (b:Kps X ι1 h1 ι2 h2):Kps X ι h ι2 h2:=fun x o hx k=>b x o hx (a x o hx k)
theorem Kps.mono (a:Kps X ι h ι1 h1) (z:∀ x,X x→Y x):Kps Y ι h ι1 h1:=fun x o hx k=>a x o (fun c=>hx (z x c)) k
theorem Kps.of (S:SS X ι σ h ι1 σ1 h1):Kps X ι h ι1 h1:=fun a o hx ⟨e,off⟩=>by
 refine ⟨S.keep a o e hx ?_,fun g p i=>?_⟩
 ·rintro ⟨g,p,o',_,i,z⟩
  have:=off g p i
  rcases z with z | ⟨z,_⟩
  ·exact this.1 z
  ·exact this.2 z
 ·rcases S.new g p i with i | ⟨d1,d2⟩
  ·exact off g p i
  ·exact ⟨fun c=>aa d1 (c▸e),fun c=>aa d2 (c▸e)⟩
end
section
variable {C:Cx} {X:Addr→Prop} {n:Nat} {ih:Ev} {ι ι' ι0 ι1:Im} {σ σ' σ0 σ1:St} {A:Around} {s s1:Shared} {E:Value→Shared→Prop} {L K:Addr} {env:Env} {fn:List Nat} {ρ ρ':List V} {a b v:V} {x y z:Value} {h h' h0:Heap}
theorem FS.but {ns:List Str} (F:FS C ι σ h L ns ρ) (k:∀ b o,b≠K→h.get? b=some o→h'.get? b=some o) (hK:C.h0.get? K=none) (off:∀ g p,ι g=some p→K≠p.1∧K≠p.2) (nT:∀ o,h.get? K=some o→¬ isT o) (hL:L≠K):FS C ι σ h' L ns ρ:=by
 obtain ⟨m,hm,q⟩:=F.ns
 refine ⟨F.sr.but k hK off nT,⟨m,hm.at' fun o e=>k L o hL e,fun i x hx hn=>?_⟩,F.above,F.off⟩
 obtain ⟨v,e,r⟩:=q i x hx hn
 exact ⟨v,e,r.mono (fun ξ ξ e=>e) (Tk.but k nT)⟩
structure Inv (C:Cx) (ι:Im) (σ:St) (s2:Shared) (L I:Addr) (fn:List Nat) (St:Nat→Heap→Prop) (run:List V→List V→Gh.St→RS) (Ix:Heap→Prop) (vs:List V) (r:RS) (m k i:Nat) (ρi:List V) (σi:Gh.St) (ιi:Im) (s':Shared):Prop where
 ki:k=m - i
 le:i≤m
 st:St i s'.heap
 sh:Sh s2 s'
 fs:FS C ιi σi s'.heap L (fn.map gnm) ρi
 ss:SS (fun a=>a=L∨a=I) ι σ s2.heap ιi σi s'.heap
 rest:run (vs.drop i) ρi σi=r
 ix:Ix s'.heap
noncomputable def eG (bind:List V→V→LO) (bf:List V→St→RS) (l:List V):List V→St→RS :=
 @List.rec V (fun ξ=>List V→St→RS) (fun ρ σ=>.next ρ σ) (fun v ξ rest ρ σ=>@LO.rec (fun ξ=>RS) .fail (fun ρ=>@RS.rec (fun ξ=>RS) .fail (fun ρ σ=>rest ρ σ) (fun v σ=>.ret v σ) (bf ρ σ)) (bind ρ v)) l
theorem iH (rm:RM A n) (eo:EOk env L) (nd:fn.Nodup) {target:Expr} {bind:List V→V→LO} {bf:List V→Gh.St→RS} {bh:List Stmt} {Ix:Heap→Prop} (hI:∀ h h':Heap,(∀ o,h.get? L=some o→h'.get? L=some o)→Ix h→Ix h') (ix:Ix s.heap)
  (hbf:∀ {ι':Im} {σ':Gh.St} {s':Shared} {ρ':List V} {E:Value→Shared→Prop},FS C ι' σ' s'.heap L (fn.map gnm) ρ'→Kps (·=L) ι s.heap ι' s'.heap→(∀ g p,ι g=some p→ι' g=some p)→Ix s'.heap→bf ρ' σ'≠.fail→wpAny (model C.prog C.w) A (execs bh env) (fun f s''=>QS C ι' σ' s' L fn (bf ρ' σ') f s''∧Ix s''.heap) E s')
  (hb:∀ {ι:Im} {σ:St} {s:Shared} {ρ ρ':List V} {v:V} {x:Value} {E:Value→Shared→Prop},FS C ι σ s.heap L (fn.map gnm) ρ→VR C ι s.heap v x→bind ρ v=.ok ρ'→Ix s.heap→wpAny (model C.prog C.w) A (assign target env x) (fun ξ s'=>QN C ι σ s L fn ρ' σ s'∧Ix s'.heap) E s)
  (F:FS C ι σ s.heap L (fn.map gnm) ρ) {vs:List V} {I:Addr} {fp:List Addr} {P:Nat→Value→Prop} {St:Nat→Heap→Prop} {m:Nat} {s2:Shared} (J:Iter C A ι σ L s vs I fp P St m s2)
  {r:RS} (h:eG bind bf vs ρ σ=r) (hn:r≠.fail) :
  codeAny (model C.prog C.w) A (.forLoop target (.ref I) bh [] env) (fun rr s'=>match rr with | .ok f=>QS C ι σ s L fn r f s'∧Ix s'.heap | .error _=>False) s2:=by
 have hIb:C.h0.get? I=none:=by
  cases q:C.h0.get? I with
  | none=>rfl
  | some o=>exact (aa J.new (F.sr.base _ _ q)).elim
 have hLI:L≠I:=fun c=>by obtain ⟨o,e⟩:=F.live;exact aa J.new (c▸e)
 obtain ⟨oI,TI,fI,eI,_⟩:=J.obj 0 _ J.st
 have conv:∀ {ιi:Im} {σi:Gh.St} {h':Heap},SS (fun a=>a=L∨a=I) ι σ s2.heap ιi σi h'→SS (·=L) ι σ s.heap ιi σi h':=fun S =>
  ((SS.grow J.old).trans S).weaken fun a o x e=>x.elim id fun c=>(aa J.new (c▸e)).elim
 have offI:∀ {ιi:Im} {σi:Gh.St} {h':Heap},SS (fun a=>a=L∨a=I) ι σ s2.heap ιi σi h'→∀ g p,ιi g=some p→I≠p.1∧I≠p.2:=fun S g p e=>by
  rcases S.new g p e with i | ⟨d1,d2⟩
  ·refine ct fun ng=>?_
   obtain ⟨_,_,_,⟨o,l1⟩,o',l2⟩:=F.sr.dom g p i
   refine ng ?_
   exact ⟨fun c=>aa J.new (c▸l1),fun c=>aa J.new (c▸l2)⟩
  ·exact ⟨fun c=>aa d1 (c▸eI),fun c=>aa d2 (c▸eI)⟩
 have nTI:∀ {i:Nat} {h':Heap},St i h'→∀ o,h'.get? I=some o→¬ isT o:=fun st o e=>by
  refine ct fun ng=>?_
  obtain ⟨o',T,fs,e',c,d,mT⟩:=J.obj _ _ st
  refine ng ?_
  rw [e] at e';obtain rfl:=Option.some.inj e'
  exact ir c mT
 refine codeAny_forLoop_any (fun k s'=>∃ i ρi σi ιi,Inv C ι σ s2 L I fn St (eG bind bf) Ix vs r m k i ρi σi ιi s') ?_ m
  ⟨0,ρ,σ,ι,rfl,Nat.zero_le _,J.st,Sh.refl,F.step (F.sr.grow J.old) (SS.grow J.old),SS.refl,h,hI _ _ (fun o e=>J.old L o e) ix⟩
 rintro k s' ⟨i,ρi,σi,ιi,V⟩
 have offi:=offI V.ss
 by_cases hlt:i < m
 ·refine J.walks.item i s' _ _ hlt V.st fun x h1 tk1 hP st1 hk1=>?_
  have kb:∀ b o,b≠I→s'.heap.get? b=some o→h1.get? b=some o:=fun b o hb e=>hk1 b o (fun c=>by
   rcases List.mem_cons.mp c with c | c
   ·exact hb c
   ·exact nomatch c) e
  obtain ⟨w,ew,rw_⟩:=J.val i x hP
  have F1:FS C ιi σi h1 L (fn.map gnm) ρi:=V.fs.but kb hIb offi (nTI V.st) hLI
  obtain ⟨o1,T1,fs1,eo1,c1,d1,m1⟩:=J.obj _ _ st1
  have ix1:Ix h1:=hI _ _ (fun o e=>kb L o hLI e) V.ix
  have S1:SS (fun a=>a=L∨a=I) ι σ s2.heap ιi σi h1:=V.ss.butX kb (.inr rfl) ⟨_,eo1⟩
  have r1:VR C ιi h1 w x:=rw_.mono V.ss.ext (((conv V.ss).tk F.sr fun a e o ho=>by subst e;exact F.notT o ho).trans (Tk.but kb (nTI V.st)))
  have hv:i < vs.length:=J.len▸hlt
  have hd:vs.drop i=w :: vs.drop (i+1):=by
   obtain ⟨hh,e⟩:=List.getElem?_eq_some_iff.mp ew
   rw [List.drop_eq_getElem_cons hh,e]
  have rest:=V.rest
  rw [hd] at rest
  change @LO.rec (fun ξ=>RS) .fail (fun ρ=>@RS.rec (fun ξ=>RS) .fail (fun ρ σ=>eG bind bf (vs.drop (i+1)) ρ σ) (fun v σ=>.ret v σ) (bf ρ σi)) (bind ρi w)=r at rest
  obtain ⟨ρ1,eb,rest⟩:=dG rest hn.symm
  refine gJ (s:={ s' with heap:=h1,toks:=tk1 }) eo1 c1 d1 m1 ?_
  refine wm (hb (s:={ s' with heap:=h1,toks:=tk1 }) F1 r1 eb ix1) (fun ξ s3 q3=>?_)
  obtain ⟨⟨a3,ι3,F3,S3⟩,ix3⟩:=q3
  have ne:bf ρ1 σi≠.fail:=by intro c;rw [c] at rest;exact hn rest.symm
  refine wm (hbf F3 (Kps.of (conv (S1.trans (S3.weaken fun a o c ξ=>.inl c)))) (conv (S1.trans (S3.weaken fun a o c ξ=>.inl c))).ext ix3 ne) (fun f s4 q4=>?_)
  cases eblk:bf ρ1 σi with
  | fail=>exact absurd eblk ne
  | ret v σ4 =>
   rw [eblk] at rest q4
   change RS.ret v σ4=r at rest
   subst rest
   obtain ⟨q4,ix4⟩:=q4
   cases f<;>first | exact q4.elim | skip
   refine ct fun ng=>?_
   obtain ⟨a4,ι4,R4,S4,r4⟩:=q4
   refine ng ?_
   exact ⟨⟨J.sh.trans (V.sh.trans ((Sh.mk _ _).trans (a3.trans a4))),ι4,R4,conv (S1.trans ((S3.trans S4).weaken fun a o c ξ=>.inl c)),r4⟩,ix4⟩
  | next ρ4 σ4 =>
   rw [eblk] at rest q4
   change eG bind bf (vs.drop (i+1)) ρ4 σ4=r at rest
   obtain ⟨q4,ix4⟩:=q4
   cases f<;>first | exact q4.elim | skip
   obtain ⟨a4,ι4,F4,S4⟩:=q4
   have S34:=S3.trans S4
   have S14:SS (fun a=>a=L∨a=I) ι σ s2.heap ι4 σ4 s4.heap:=S1.trans (S34.weaken fun a o c ξ=>.inl c)
   refine ⟨m - (i+1),by rw [V.ki];omega,i+1,ρ4,σ4,ι4,rfl,hlt,?_,V.sh.trans ((Sh.mk _ _).trans (a3.trans a4)),F4,S14,rest,ix4⟩
   refine J.walks.frame _ _ _ st1 fun b hb o e=>?_
   rcases J.keep b hb with rfl | ⟨o0,e0,bL,kk⟩
   ·refine S34.keep b o e (fun c=>hLI c.symm) ?_
    rintro ⟨g,p,ob,eg,ig,z⟩
    have:=offi g p ig
    rcases z with z | ⟨z,_⟩
    ·exact this.1 z
    ·exact this.2 z
   ·rcases kk with kk | kk
    ·have t1:h1.get? b=some o0:=((((conv V.ss).tk F.sr fun a e o ho=>by subst e;exact F.notT o ho).trans (Tk.but kb (nTI V.st))) b o0 e0 kk)
     have:o=o0:=Option.some.inj (e.symm.trans t1)
     subst this
     exact (S34.tk F1.sr fun a e o ho=>by subst e;exact F1.notT o ho) b o e kk
    ·refine S34.keep b o e bL fun wr=>kk ?_
     exact (conv S1).wr e0 wr
 ·have him:i=m:=Nat.le_antisymm V.le (Nat.not_lt.mp hlt)
  subst him
  refine J.walks.done s' _ _ V.st fun h1 tk1 hk1=>wpAny_execs_nil ?_
  have kb:∀ b o,b≠I→s'.heap.get? b=some o→h1.get? b=some o:=fun b o hb e=>hk1 b o (fun c=>by
   rcases List.mem_cons.mp c with c | c
   ·exact hb c
   ·exact nomatch c) e
  have F1:FS C ιi σi h1 L (fn.map gnm) ρi:=V.fs.but kb hIb offi (nTI V.st) hLI
  have rest:=V.rest
  rw [J.len,List.drop_length] at rest
  change RS.next ρi σi=r at rest
  subst rest
  exact ⟨⟨J.sh.trans (V.sh.trans (Sh.mk _ _)),ιi,F1,(conv V.ss).but kb J.new⟩,hI _ _ (fun o e=>kb L o hLI e) V.ix⟩
theorem sm (HS:fC C n ih) (rm:RM A n) (eo:EOk env L) (nd:fn.Nodup) {target:Expr} {bind:List V→V→LO}
  (hb:∀ {ι:Im} {σ:St} {s:Shared} {ρ ρ':List V} {v:V} {x:Value} {E:Value→Shared→Prop},FS C ι σ s.heap L (fn.map gnm) ρ→VR C ι s.heap v x→bind ρ v=.ok ρ'→wpAny (model C.prog C.w) A (assign target env x) (fun ξ s'=>QN C ι σ s L fn ρ' σ s') E s)
  {body:List GS} {bh:List Stmt} (rb:RQs fn env.scope body bh) (F:FS C ι σ s.heap L (fn.map gnm) ρ) {vs:List V} {I:Addr} {fp:List Addr} {P:Nat→Value→Prop} {St:Nat→Heap→Prop} {m:Nat} {s2:Shared} (J:Iter C A ι σ L s vs I fp P St m s2)
  {r:RS} (h:lO ih bind body vs ρ σ=r) (hn:r≠.fail) :
  codeAny (model C.prog C.w) A (.forLoop target (.ref I) bh [] env) (fun rr s'=>match rr with | .ok f=>QS C ι σ s L fn r f s' | .error _=>False) s2 :=
 codeAny_mono (iH (bf:=blk ih body) (Ix:=fun ξ=>True) rm eo nd (fun ξ ξ ξ x=>x) trivial (fun F ξ ξ ξ ne=>wpAny_mono (hZ @HS rm eo nd rb F rfl ne) (fun ξ ξ q=>⟨q,trivial⟩) fun ξ ξ e=>e) (fun F r e ξ=>wpAny_mono (hb F r e) (fun ξ ξ q=>⟨q,trivial⟩) fun ξ ξ e=>e) F J h hn) fun rr s' z=>by
  cases rr with
  | ok f=>exact z.1
  | error e=>exact z
end
end Gh
end
section
namespace Gh
open PySem PyProof.Rows PySem.W PySem.SeqAt PySem.Calls
section
variable {C:Cx} {X:Addr→Prop} {n:Nat} {ih:Ev} {ι ι' ι0 ι1:Im} {σ σ' σ0 σ1:St} {A:Around} {s s1:Shared} {E:Value→Shared→Prop} {L K:Addr} {env:Env} {fn:List Nat} {ρ ρ':List V} {a b v:V} {x y z:Value} {h h' h0:Heap}
theorem od {g:Ps} {w:Bool} {m:Nat} {vs:List V} (e:at_ σ.h g=.ob w (.lst m vs)) (R:SR C ι σ h) {ad d:Addr} (hg:ι g=some (ad,d)) (hL:ad≠L) (hT:∀ o,h.get? L=some o→¬ isT o) (R':SR C ι' σ' h') (S:SS (·=L) ι (flag σ g false m vs) h ι' σ' h') :
  SR C ι' (flag σ' g w m vs) h'∧SS (·=L) ι σ h ι' (flag σ' g w m vs) h':=by
 have e0:at_ (flag σ g false m vs).h g=.ob false (.lst m vs):=Tr.get_put_same ..
 have e1:∀ g',g'≠g→at_ (flag σ g false m vs).h g'=at_ σ.h g':=fun g' hn=>Tr.get_put_ne _ _ _ _ hn
 have e2:at_ (flag σ' g w m vs).h g=.ob w (.lst m vs):=Tr.get_put_same ..
 have e3:∀ g',g'≠g→at_ (flag σ' g w m vs).h g'=at_ σ'.h g':=fun g' hn=>Tr.get_put_ne _ _ _ _ hn
 have wr:∀ a,Wr ι (flag σ g false m vs) a→Wr ι σ a:=by
  rintro a ⟨g',p,o,eo,i,z⟩
  by_cases c:g'=g
  ·subst c;rw [e0] at eo;cases eo
  ·rw [e1 g' c] at eo;exact ⟨g',p,o,eo,i,z⟩
 have nw:¬ Wr ι (flag σ g false m vs) ad:=by
  rintro ⟨g',p,o,eo,i,z⟩
  by_cases c:g'=g
  ·subst c;rw [e0] at eo;cases eo
  ·have ap:=R.apart g g' _ _ hg i (Ne.symm c)
   rcases z with z | ⟨z,_⟩
   ·exact ap.1 z
   ·exact ap.2.1 z
 have tk:Tk h h':=S.tk (R.flag e) fun a e' o ho=>by subst e';exact hT o ho
 refine ⟨⟨R'.dom,R'.apart,fun g' w' o' eo=>?_,R'.base⟩,S.ext,S.new,fun a o ea x nwa=>S.keep a o ea x fun q=>nwa (wr a q),S.live,fun g' p o i eo=>?_⟩
 ·by_cases c:g'=g
  ·subst c
   rw [e2] at eo
   cases eo
   obtain ⟨p,i,ob⟩:=R.obs _ _ _ e
   rw [hg] at i;obtain rfl:=Option.some.inj i
   refine ct fun ng=>?_
   obtain ⟨items,t,l,f⟩:=ob.lstI
   obtain ⟨mm,t⟩:=t
   refine ng ?_
   exact ⟨(ad,d),S.ext _ _ hg,.lst items ⟨mm,S.keep _ _ t hL nw⟩ l (VRs.mono S.ext tk f)⟩
  ·rw [e3 g' c] at eo;exact R'.obs _ _ _ eo
 ·by_cases c:g'=g
  ·subst c
   rw [e2] at eo
   cases eo
   exact ⟨_,e,fh rfl⟩
  ·rw [e3 g' c] at eo
   obtain ⟨o',e',f⟩:=S.flag g' p o i eo
   rw [e1 g' c] at e'
   exact ⟨o',e',f⟩
noncomputable def rI (a:V) (bind:List V→V→LO) (bf:List V→Gh.St→RS) (ρ:List V) (σ:Gh.St):RS:=aQ a
 (aC a .fail fun g=>aS (at_ σ.h g) .fail fun w n vs=>@RS.rec (fun ξ=>RS) .fail (fun ρ σ=>.next ρ (flag σ g w n vs)) (fun v σ=>.ret v (flag σ g w n vs)) (eG bind bf vs ρ (flag σ g false n vs)))
 fun vs=>eG bind bf vs ρ σ
noncomputable def aJ (ih:Ev) (ρ:List V) (bind:List V→V→LO) (it:GE) (bf:List V→Gh.St→RS) (σ:Gh.St):RS:=@RE.rec (fun ξ=>RS) .fail (fun a σ=>rI a bind bf ρ σ) (ih.e ρ it σ)
theorem m6 {bind:List V→V→LO} {bf:List V→Gh.St→RS} {r:RS} (h:rI a bind bf ρ σ=r) (hn:r≠.fail) :
  (∃ vs,a=.tup vs∧eG bind bf vs ρ σ=r)∨∃ g w m vs r0,a=.ref g∧at_ σ.h g=.ob w (.lst m vs)∧eG bind bf vs ρ (flag σ g false m vs)=r0∧r0≠.fail ∧
   (match r0 with | .next ρ' σ'=>r=.next ρ' (flag σ' g w m vs) | .ret v σ'=>r=.ret v (flag σ' g w m vs) | .fail=>False):=by
 cases a with
 | tup vs=>exact .inl ⟨vs,rfl,h⟩
 | ref g =>
  right
  refine ct fun ng=>?_
  obtain ⟨w,m,vs,e,h1⟩:=aF (α:=RS) h hn.symm
  refine ng ?_
  refine ⟨g,w,m,vs,_,rfl,e,rfl,?_,?_⟩
  ·intro c;rw [c] at h1;exact hn h1.symm
  ·cases e0:eG bind bf vs ρ (flag σ g false m vs) with
   | fail=>rw [e0] at h1;exact hn h1.symm
   | next ρ' σ'=>rw [e0] at h1;exact h1.symm
   | ret v σ'=>rw [e0] at h1;exact h1.symm
 | _=>exact absurd h.symm hn
theorem nW (H:aG C n ih) (rm:RM A n) (eo:EOk env L) (nd:fn.Nodup) {Ix:Heap→Prop} (hI:∀ h h':Heap,(∀ o,h.get? L=some o→h'.get? L=some o)→Ix h→Ix h') (ix:Ix s.heap) {target e:Expr} {g:GE} {p:Pos} {bind:List V→V→LO}
  (hb:∀ {ι:Im} {σ:St} {s:Shared} {ρ ρ':List V} {v:V} {x:Value} {E:Value→Shared→Prop},FS C ι σ s.heap L (fn.map gnm) ρ→VR C ι s.heap v x→bind ρ v=.ok ρ'→Ix s.heap→wpAny (model C.prog C.w) A (assign target env x) (fun ξ s'=>QN C ι σ s L fn ρ' σ s'∧Ix s'.heap) E s)
  {bf:List V→Gh.St→RS} {bh:List Stmt} (hbf:∀ {ι':Im} {σ':Gh.St} {s':Shared} {ρ':List V} {E:Value→Shared→Prop},FS C ι' σ' s'.heap L (fn.map gnm) ρ'→Kps (·=L) ι s.heap ι' s'.heap→(∀ g p,ι g=some p→ι' g=some p)→Ix s'.heap→bf ρ' σ'≠.fail→wpAny (model C.prog C.w) A (execs bh env) (fun f s''=>QS C ι' σ' s' L fn (bf ρ' σ') f s''∧Ix s''.heap) E s')
  (r:RX fn env.scope g e) (F:FS C ι σ s.heap L (fn.map gnm) ρ) {rr:RS} (h:aJ ih ρ bind g bf σ=rr) (hn:rr≠.fail) :
  wpAny (model C.prog C.w) A (exec (.For target e bh [] p) env) (fun f s''=>QS C ι σ s L fn rr f s''∧Ix s''.heap) E s:=by
 refine ct fun ng=>?_
 obtain ⟨a,σ1,e1,h1⟩:=af h hn.symm
 refine ng ?_
 refine wpAny_For (ao F (H rm eo r F e1) fun ι1 s1 x a1 F1 S1 r1=>?_) (jd r)
 have ix1:Ix s1.heap:=by
  obtain ⟨oL,eL⟩:=F.live
  exact hI _ _ (fun o e=>S1.keep L o e (fun x=>x) F.notWr) ix
 rcases m6 h1 hn with ⟨vs,rfl,hl⟩ | ⟨gg,w,m,vs,r0,rfl,eg,hl,hn0,hr⟩
 ·refine wm (jR rm F1 r1) (fun it s2 ⟨I,fp,P,St,m',hit,J⟩=>?_)
  subst hit
  refine codeAny_mono (iH rm eo nd hI ix1 (fun F K e ix ne=>hbf F ((Kps.of S1.x0).trans K) (fun g p i=>e g p (S1.ext g p i)) ix ne) hb F1 J hl hn) fun rr' s' z=>?_
  cases rr' with
  | ok f=>exact ⟨z.1.trans a1 S1.x0,z.2⟩
  | error e=>exact z.elim
 ·have F1f:=F1.flag (b:=false) eg
  obtain ⟨hm,hi⟩:=fk (E:=E) rm F1f (Tr.get_put_same ..) r1
  refine wm hi (fun it s2 ⟨I,fp,P,St,m',hit,J⟩=>?_)
  subst hit
  refine codeAny_mono (iH rm eo nd hI ix1 (fun F K e ix ne=>hbf F ((Kps.of S1.x0).trans K) (fun g p i=>e g p (S1.ext g p i)) ix ne) hb F1f J hl hn0) fun rr' s' z=>?_
  obtain ⟨ad,d,rfl,zz⟩:=r1.refI
  have hL:=(F1.off _ _ zz).1
  cases rr' with
  | error e=>exact z.elim
  | ok f =>
   obtain ⟨z,ixz⟩:=z
   cases r0 with
   | fail=>exact hr.elim
   | next ρ' σ' =>
    subst hr
    cases f<;>first | exact z.elim | skip
    refine ct fun ng=>?_
    obtain ⟨a2,ι2,F2,S2⟩:=z
    obtain ⟨R3,S3⟩:=od eg F1.sr zz (Ne.symm hL) F1.notT F2.sr S2
    refine ng ?_
    exact ⟨⟨a1.trans a2,ι2,⟨R3,F2.ns,F2.above,F2.off⟩,S1.x0.trans S3⟩,ixz⟩
   | ret v σ' =>
    subst hr
    cases f<;>first | exact z.elim | skip
    refine ct fun ng=>?_
    obtain ⟨a2,ι2,R2,S2,r2⟩:=z
    obtain ⟨R3,S3⟩:=od eg F1.sr zz (Ne.symm hL) F1.notT R2 S2
    refine ng ?_
    exact ⟨⟨a1.trans a2,ι2,R3,S1.x0.trans S3,r2⟩,ixz⟩
theorem rh (H:aG C n ih) (HS:fC C n ih) (rm:RM A n) (eo:EOk env L) (nd:fn.Nodup) {target e:Expr} {g:GE} {p:Pos} {bind:List V→V→LO}
  (hb:∀ {ι:Im} {σ:St} {s:Shared} {ρ ρ':List V} {v:V} {x:Value} {E:Value→Shared→Prop},FS C ι σ s.heap L (fn.map gnm) ρ→VR C ι s.heap v x→bind ρ v=.ok ρ'→wpAny (model C.prog C.w) A (assign target env x) (fun ξ s'=>QN C ι σ s L fn ρ' σ s') E s)
  {body:List GS} {bh:List Stmt} (r:RX fn env.scope g e) (rb:RQs fn env.scope body bh) (F:FS C ι σ s.heap L (fn.map gnm) ρ) {rr:RS} (h:oi ih ρ bind g body σ=rr) (hn:rr≠.fail) :
  wpAny (model C.prog C.w) A (exec (.For target e bh [] p) env) (QS C ι σ s L fn rr) E s :=
 wpAny_mono (nW (bf:=blk ih body) (Ix:=fun ξ=>True) @H rm eo nd (fun ξ ξ ξ x=>x) trivial (fun F r e ξ=>wpAny_mono (hb F r e) (fun ξ ξ q=>⟨q,trivial⟩) fun ξ ξ e=>e) (fun F ξ ξ ξ ne=>wpAny_mono (hZ @HS rm eo nd rb F rfl ne) (fun ξ ξ q=>⟨q,trivial⟩) fun ξ ξ e=>e) r F h hn) (fun ξ ξ z=>z.1) fun ξ ξ e=>e
theorem j7 (nk:NmOk) (eo:EOk env L) (nd:fn.Nodup) {i k:Nat} {p:Pos} (hi:fn[i]?=some k) (hl:ax env.scope k) {ι:Im} {σ:St} {s:Shared} {ρ ρ':List V} {v:V} {x:Value} {E:Value→Shared→Prop} (F:FS C ι σ s.heap L (fn.map gnm) ρ) (r:VR C ι s.heap v x) (h:aL i ρ v=.ok ρ') :
  wpAny (model C.prog C.w) A (assign (.Name (gnm k) p) env x) (fun ξ s'=>QN C ι σ s L fn ρ' σ s') E s:=by
 injection h with h
 subst h
 exact wpAny_assign_Name (bV nk eo nd F hi hl r fun s' q=>q)
theorem pH (nk:NmOk) (rm:RM A n) (eo:EOk env L) (nd:fn.Nodup) {xs:List Nat} {ts:List Expr} {k:Nat} {p:Pos} (rt:RTs fn env.scope xs ts) {ι:Im} {σ:St} {s:Shared} {ρ ρ':List V} {v:V} {x:Value} {E:Value→Shared→Prop} (F:FS C ι σ s.heap L (fn.map gnm) ρ) (r:VR C ι s.heap v x) (h:r9 xs ρ v=.ok ρ') :
  wpAny (model C.prog C.w) A (assign (.Tuple ts k p) env x) (fun ξ s'=>QN C ι σ s L fn ρ' σ s') E s:=by
 obtain ⟨vs,rfl,h1⟩:=br h nofun
 exact ly nk rm eo nd rt r h1 F
theorem su (k:GOk C) (H:aG C n ih) (HS:fC C n ih) (rm:RM A (n+1)) (eo:EOk env L) (nd:fn.Nodup) {i kk:Nat} {p p' p'' p3:Pos} {gs:List GE} {es:List Expr} {j:Nat} {body:List GS} {bh:List Stmt} (hi:fn[i]?=some kk) (hl:ax env.scope kk) (rs:RXs fn env.scope gs es) (hg:bc env.scope j) (hv:cS j=.bi 1)
  (rb:RQs fn env.scope body bh) (F:FS C ι σ s.heap L (fn.map gnm) ρ) {rr:RS} (h:oh ih ρ i gs body σ=rr) (hn:rr≠.fail) :
  wpAny (model C.prog C.w) A (exec (.For (.Name (gnm kk) p) (.Call (.Name (gnm j) p') es [] p'') bh [] p3) env) (QS C ι σ s L fn rr) E s:=by
 refine ct fun ng=>?_
 obtain ⟨vs,σ1,e1,h1⟩:=bN h hn.symm
 obtain ⟨m,ws,e2,h2⟩:=ot h1 hn.symm
 refine ng ?_
 refine wpAny_For (cL k @H rm eo hg hv rs F e1 e2 fun hm ι1 s1 a1 F1 S1 it s2 hi'=>?_) (fun ξ=>rfl)
 refine ct fun ng=>?_
 obtain ⟨I,fp,P,St,m',hit,J⟩:=hi'
 subst hit
 refine ng ?_
 refine codeAny_mono (sm @HS rm.pred eo nd (bind:=aL i) (fun F r h=>j7 k.nm eo nd hi hl F r h) rb F1 J h2 hn) fun rr' s' z=>?_
 cases rr' with
 | ok f=>exact z.trans a1 S1.x0
 | error e=>exact z.elim
end
end Gh
end
section
namespace Gh
open PySem PyProof.Rows PySem.W PySem.SeqAt PySem.Calls
structure FnOk (C:Cx) (i:Ps) (ar nl:Nat) (body:List GS):Prop where
 ex:∃ (name qual:Str) (ps:List Arg) (stmts:List Stmt) (scope:Scope) (pm cd doc ct:Value) (an:Option Addr) (o:Obj) (fn:List Nat),
  C.h0.get? (C.fa i)=some o∧o.data=.func (fnOf name qual ⟨[],ps,none,[],[],none,[]⟩ stmts scope .none .none doc pm an cd ct)∧C.h0.CodeRec cd qual∧fn.Nodup∧fn.length=nl∧ar≤nl ∧
  ps.map (·.arg)=(fn.take ar).map gnm∧scope.kind=.function∧scope.isCoroutine=false∧scope.isGenerator=false∧(∀ x∈scope.names,x.2≠.cell)∧(∀ k∈fn.take ar,ax scope k)∧RQs fn scope body stmts
structure AllOk (C:Cx):Prop extends GOk C where
 fns:∀ i ar nl body,Tr.get .no i ft=.mk ar nl body→FnOk C i ar nl body
section
variable {C:Cx} {X:Addr→Prop} {n:Nat} {ih:Ev} {ι ι' ι0 ι1:Im} {σ σ' σ0 σ1:St} {A:Around} {s s1:Shared} {E:Value→Shared→Prop} {L K:Addr} {env:Env} {fn:List Nat} {ρ ρ':List V} {a b v:V} {x y z:Value} {h h' h0:Heap}
theorem ql (k:AllOk C) (H:aG C n ih) (T:hO C n ih) (HS:fC C n ih) (hC:∀ {A:Around} {ι:Im} {σ:St} {s:Shared} {L:Addr} {env:Env} {fn:List Nat} {ρ:List V} {i kk:Nat} {g elt:GE} {e elt':Expr} {nm:Str} {px py p spos:Pos} {sc:Scope} {r:RS} {E:Value→Shared→Prop},
   RM A (n+1)→EOk env L→fn.Nodup→fn[i]?=some kk→ax env.scope kk→RX fn env.scope g e→RElt nm elt elt'→CompSc sc nm→(py.line==p.line)=true→(sc.names.any fun(n,kk')=>n==gnm kk&&(kk'==.local||kk'==.cell))=false→FS C ι σ s.heap L (fn.map gnm) ρ →
   s_assign ih ρ i (.comp elt g) σ=r→r≠.fail→wpAny (model C.prog C.w) A (exec (.Assign [.Name (gnm kk) py] (.ListComp elt' [⟨.Name nm px,e,[],0⟩] sc p) spos) env) (QS C ι σ s L fn r) E s)
  (hR:∀ {A:Around} {ι:Im} {σ:St} {s:Shared} {L:Addr} {env:Env} {fn:List Nat} {ρ:List V} {i kk:Nat} {gs:List GE} {es:List Expr} {elt:GE} {elt':Expr} {nm:Str} {px py p p' p'' spos:Pos} {sc:Scope} {j:Nat} {r:RS} {E:Value→Shared→Prop},
   RM A (n+1)→EOk env L→fn.Nodup→fn[i]?=some kk→ax env.scope kk→RXs fn env.scope gs es→bc env.scope j→cS j=.bi 1→RElt nm elt elt'→CompSc sc nm→(py.line==p.line)=true→(sc.names.any fun(n,kk')=>n==gnm kk&&(kk'==.local||kk'==.cell))=false→FS C ι σ s.heap L (fn.map gnm) ρ →
   s_assign ih ρ i (.compR elt gs) σ=r→r≠.fail→wpAny (model C.prog C.w) A (exec (.Assign [.Name (gnm kk) py] (.ListComp elt' [⟨.Name nm px,.Call (.Name (gnm j) p') es [] p'',[],0⟩] sc p) spos) env) (QS C ι σ s L fn r) E s)
  (cn:∀ {ρ σ v σ'},ih.e ρ .cnone σ=.ok v σ'→v=.none∧σ'=σ):fC C (n+1) (dP ih):=by
 intro A ι σ s L env fn ρ g st r E rm eo nd rq F h hn
 change rE ih ρ g σ=r at h
 replace rq:=rq.out
 cases rq with
 | assign hi hl r hc=>exact nZ k.nm @H rm eo nd hi hl r hc F h hn
 | assignC hi hl r re cs hp hs=>exact hC rm eo nd hi hl r re cs hp hs F h hn
 | assignR hi hl rs hlen hg hv re cs hp hs=>exact hR rm eo nd hi hl rs hg hv re cs hp hs F h hn
 | setattr ro hf r hc=>exact mN k.toGOk @H rm eo ro hf r hc F h hn
 | setsub ro ri r=>exact nV k.toGOk @H rm eo ro ri r F h hn
 | unpack rt r ht hc=>exact nU k.nm @H rm eo nd rt r ht hc F h hn
 | aug hi hl r=>exact u8 k.toGOk @H rm eo nd hi hl r F h hn
 | augsub ro ri r=>exact nY k.toGOk @H rm eo ro ri r F h hn
 | expr r hc=>exact sv @H rm eo r hc F h hn
 | pass =>
  refine ct fun ng=>?_
  obtain ⟨v,σ1,e1,h1⟩:=af h hn.symm
  obtain ⟨rfl,rfl⟩:=cn e1
  subst h1
  refine ng ?_
  exact wpAny_Pass ⟨Sh.refl,ι,F,SS.refl⟩
 | ret r=>exact u6 @H rm eo r F h hn
 | ret0 =>
  refine ct fun ng=>?_
  obtain ⟨v,σ1,e1,h1⟩:=af h hn.symm
  obtain ⟨rfl,rfl⟩:=cn e1
  subst h1
  refine ng ?_
  exact wpAny_Return_none ⟨Sh.refl,ι,F.sr,SS.refl,.none⟩
 | ifs rc ra rb=>exact u7 @T @HS rm.pred eo nd rc ra rb F h hn
 | for1 hi hl r rb=>exact rh @H @HS rm.pred eo nd (fun F r h=>j7 k.nm eo nd hi hl F r h) r rb F h hn
 | forN rt r rb=>exact rh @H @HS rm.pred eo nd (fun F r h=>pH k.nm rm.pred eo nd rt F r h) r rb F h hn
 | forR hi hl rs hlen hg hv rb=>exact su k.toGOk @H @HS rm eo nd hi hl rs hg hv rb F h hn
 | stop=>exact absurd h.symm hn
theorem iX:∀ (l m:List V) (j:Nat),j < l.length→nth (app l m) j=nth l j
 | _ :: _,_,0,_=>rfl
 | _ :: l,m,j+1,h=>iX l m j (Nat.lt_of_succ_lt_succ h)
theorem jI:∀ (n j:Nat),nth (jf n) j=.unb
 | 0,_=>rfl
 | n+1,0=>rfl
 | n+1,j+1=>jI n j
theorem cq:∀ (l:List V) (k j:Nat),l.length≤j→nth (app l (jf k)) j=.unb
 | [],k,j,_=>jI k j
 | _ :: l,k,j+1,h=>cq l k j (Nat.le_of_succ_le_succ h)
theorem gD {l:List Nat} {xs:List Value} (nk:NmOk) (nd:l.Nodup) (hl:l.length=xs.length) {j k:Nat} {x:Value} (hk:l[j]?=some k) (hx:xs[j]?=some x):((l.map gnm).zip xs).reverse.lookup (gnm k)=some x:=by
 have mem:(gnm k,x)∈((l.map gnm).zip xs).reverse:=by
  rw [List.mem_reverse]
  have:((l.map gnm).zip xs)[j]?=some (gnm k,x):=by
   rw [List.getElem?_zip_eq_some]
   exact ⟨by rw [List.getElem?_map,hk];rfl,hx⟩
  exact List.mem_of_getElem? this
 have uniq:∀ p∈((l.map gnm).zip xs).reverse,p.1=gnm k→p.2=x:=by
  intro p hp hpk
  rw [List.mem_reverse] at hp
  refine ct fun ng=>?_
  obtain ⟨j',hj'⟩:=List.mem_iff_getElem?.mp hp
  rw [List.getElem?_zip_eq_some] at hj'
  obtain ⟨a,b⟩:=hj'
  rw [List.getElem?_map] at a
  obtain ⟨k',e,ek⟩:=Option.map_eq_some_iff.mp a
  have:k'=k:=nk.inj _ _ (ek.trans hpk)
  subst this
  obtain ⟨h1,g1⟩:=List.getElem?_eq_some_iff.mp e
  obtain ⟨h2,g2⟩:=List.getElem?_eq_some_iff.mp hk
  have:=cV nd h1 h2 (g1.trans g2.symm)
  subst this
  rw [hx] at b
  refine ng ?_
  exact (Option.some.inj b).symm
 have gen:∀ {q:List (Str×Value)},(gnm k,x)∈q→(∀ p∈q,p.1=gnm k→p.2=x)→q.lookup (gnm k)=some x:=by
  intro q
  induction q with
  | nil=>intro h;exact nomatch h
  | cons p q ihq =>
   intro hm hu
   obtain ⟨p1,p2⟩:=p
   rw [List.lookup_cons]
   cases e:gnm k==p1 with
   | true =>
    have:=hu (p1,p2) List.mem_cons_self (beq_iff_eq.mp e).symm
    exact congrArg some this
   | false =>
    refine ihq ?_ fun p hp=>hu p (List.mem_cons_of_mem _ hp)
    rcases List.mem_cons.mp hm with c | c
    ·injection c with c1 c2;rw [c1] at e;simp at e
    ·exact c
 exact gen mem uniq
theorem ua (k:AllOk C) (HS:fC C n ih):dU C (n+1) (dP ih):=by
 intro A ι σ s i vs xs v σ' rm R rs h
 change kQ ih i vs σ=_ at h
 unfold kQ at h
 cases ef:Tr.get .no i ft with
 | no=>rw [ef] at h;injection h
 | mk ar nl body =>
  rw [ef] at h
  obtain ⟨hl,h1⟩:=ac (α:=RE) h reN
  have hl:vs.length=ar:=by rw [← cQ];exact natbeq.mp hl
  refine ct fun ng=>?_
  obtain ⟨name,qual,ps,stmts,scope,pm,cd,doc,ct,an,o,fn,ho,hd,hcd,nd,fl,al,hps,sk,sco,sge,scell,sloc,rq⟩:=(k.fns i ar nl body ef).ex
  have lx:xs.length=ar:=rs.length▸hl
  refine ng ?_
  have lt:(fn.take ar).length=ar:=by rw [List.length_take,fl];omega
  have hn:(ps.map (·.arg)).Nodup:=by
   rw [hps]
   have:(fn.take ar).Nodup:=nd.sublist (List.take_sublist _ _)
   refine List.pairwise_map.mpr (this.imp fun hne c=>hne (k.nm.inj _ _ c))
  have hb:=dS name qual ps stmts scope pm cd doc ct an xs (by rw [hps,List.length_map,lt,lx]) hn
  refine codeAny_call_def (fd:=fnOf name qual ⟨[],ps,none,[],[],none,[]⟩ stmts scope .none .none doc pm an cd ct) (body:=stmts) (by have:=rm.dep;omega) (R.base _ _ ho) hd (k.nolimit.keeps R.base) (hcd.keeps R.base) rfl (BindsTo.of_eq hb) scell ?_ (fun hh hns hk=>?_) sco sge sk
  ·intro p hp
   have:p.1∈ps.map (·.arg):=(List.of_mem_zip hp).1
   rw [hps] at this
   obtain ⟨kk,hkk,e⟩:=List.mem_map.mp this
   rw [← e]
   exact sloc kk hkk
  ·have rm':RM (A.deeper (callEnv (fnOf name qual ⟨[],ps,none,[],[],none,[]⟩ stmts scope .none .none doc pm an cd ct) s.heap.objs.size (C.fa i))) n:=by
    obtain ⟨r1,r2,r3⟩:=rm
    refine ⟨r1,?_,?_⟩
    ·show A.depth+1+_+_ < _;omega
    ·show A.units+3+_+_ < _;omega
   have eo:EOk (callEnv (fnOf name qual ⟨[],ps,none,[],[],none,[]⟩ stmts scope .none .none doc pm an cd ct) s.heap.objs.size (C.fa i)) s.heap.objs.size:=⟨sk,rfl,rfl,rfl⟩
   have F:FS C ι σ hh s.heap.objs.size (fn.map gnm) (app vs (jf (Nat.sub nl ar))):=by
    refine ⟨R.grow hk,⟨_,hns,fun j nm hj hu=>?_⟩,?_,fun g p e=>?_⟩
    ·rw [List.getElem?_map] at hj
     obtain ⟨kk,e,rfl⟩:=Option.map_eq_some_iff.mp hj
     by_cases c:j < vs.length
     ·rw [iX _ _ _ c] at hu ⊢
      have e1:=bI hu
      obtain ⟨x,ex,rx⟩:=rs.at e1
      refine ⟨x,?_,rx.mono (fun ξ ξ e=>e) fun a o e ξ=>hk a o e⟩
      rw [hps]
      have e':(fn.take ar)[j]?=some kk:=by rw [List.getElem?_take,if_pos (by omega)];exact e
      exact gD k.nm (nd.sublist (List.take_sublist _ _)) (by rw [lt,lx]) e' ex
     ·rw [cq _ _ _ (Nat.not_lt.mp c)] at hu;exact absurd rfl hu
    ·cases q:C.h0.get? s.heap.objs.size with
     | none=>rfl
     | some o=>exact (aa (fresh s.heap) (R.base _ _ q)).elim
    ·obtain ⟨_,_,_,⟨o,l1⟩,o',l2⟩:=R.dom g p e
     exact ⟨fun c=>aa (fresh s.heap) (c▸l1),fun c=>aa (fresh s.heap) (c▸l2)⟩
   have nf:blk ih body (app vs (jf (Nat.sub nl ar))) σ≠.fail:=by intro c;rw [c] at h1;injection h1
   have w:=fun E=>hZ (E:=E) @HS rm' eo nd (s:={ s with heap:=hh,toks:=s.toks+((ps.map (·.arg)).zip xs).length }) rq F rfl nf
   have fin:∀ {ι':Im} {σ'':St} {h':Heap},SS (·=s.heap.objs.size) ι σ hh ι' σ'' h'→SS X0 ι σ s.heap ι' σ'' h':=fun S =>
    ((SS.grow hk).trans S).weaken fun a o c e=>by subst c;exact (aa (fresh s.heap) e).elim
   refine wm (w _) (fun f s' q=>?_)
   cases eb:blk ih body (app vs (jf (Nat.sub nl ar))) σ with
   | fail=>exact absurd eb nf
   | next ρ' σ'' =>
    rw [eb] at q h1
    injection h1 with h1 h2
    subst h1 h2
    cases f<;>first | exact q.elim | skip
    obtain ⟨a,ι',F',S'⟩:=q
    exact ⟨(Sh.mk _ _).trans a,ι',F'.sr,fin S',.none⟩
   | ret w σ'' =>
    rw [eb] at q h1
    injection h1 with h1 h2
    subst h1 h2
    cases f<;>first | exact q.elim | skip
    obtain ⟨a,ι',R',S',r'⟩:=q
    exact ⟨(Sh.mk _ _).trans a,ι',R',fin S',r'⟩
structure Snd (C:Cx) (n:Nat):Prop where
 e:aG C n (ev n)
 t:hO C n (ev n)
 s:fC C n (ev n)
 f:dU C n (ev n)
theorem wc:∀ n,CI (ev n)
 | 0=>⟨fun h=>(nomatch h),fun h=>nomatch h⟩
 | n+1=>⟨fun{ρ m σ v σ'} h=>by
   change RE.ok (V.int m 0) σ=_ at h
   injection h with h1 h2
   exact ⟨h1.symm,h2.symm⟩,fun{ρ i w σ v σ'} h=>by
   change RE.ok w σ=_ at h
   injection h with h1 h2
   exact ⟨h1.symm,h2.symm⟩⟩
theorem wb:∀ n {ρ σ v σ'},(ev n).e ρ .cnone σ=.ok v σ'→v=.none∧σ'=σ
 | 0,_,_,_,_,h=>nomatch h
 | n+1,ρ,σ,v,σ',h=>by
   change RE.ok V.none σ=_ at h
   injection h with h1 h2
   exact ⟨h1.symm,h2.symm⟩
theorem snd (k:AllOk C):∀ n,Snd C n:=by
 intro n
 induction n using Nat.strongRecOn with
 | _ n ihn =>
  cases n with
  | zero =>
   exact ⟨fun ξ ξ ξ ξ h=>(nomatch h),fun ξ ξ ξ ξ h=>(nomatch h),fun ξ ξ ξ ξ ξ h hn=>absurd h.symm hn,fun ξ ξ ξ h=>nomatch h⟩
  | succ n =>
   have P:=ihn n (Nat.lt_succ_self n)
   refine ⟨ub k.toGOk P.e P.t P.f (wc n),sU k.toGOk P.e P.t,?_,ua k P.s⟩
   refine ql k P.e P.t P.s ?_ ?_ (wb n)
   ·intro A ι σ s L env fn ρ i kk g elt e elt' nm px py p spos sc r E rm eo nd hi hl rx re cs hp hs F h hn
    cases n with
    | zero=>exact absurd h.symm hn
    | succ n'=>exact mR (ih:=ev n') k.nm (ihn n' (by omega)).e rm eo nd hi hl rx re cs hp hs F h hn
   ·intro A ι σ s L env fn ρ i kk gs es elt elt' nm px py p p' p'' spos sc j r E rm eo nd hi hl rs hg hv re cs hp hs F h hn
    cases n with
    | zero=>exact absurd h.symm hn
    | succ n'=>exact mO (ih:=ev n') k.toGOk (ihn n' (by omega)).e rm eo nd hi hl rs hg hv re cs hp hs F h hn
end
end Gh
end
section
namespace Gh
open PySem PyProof.Rows PySem.W PySem.SeqAt PySem.Calls
section
noncomputable def gPs (ks:List Nat):List Arg→List Arg:=@List.rec Nat (fun ξ=>List Arg→List Arg) (fun ξ=>[]) (fun k ξ r ts=>⟨gnm k,none,@List.rec Arg (fun ξ=>Pos) ⟨0,0,0,0⟩ (fun a ξ ξ=>a.pos) ts⟩ :: r (@List.rec Arg (fun ξ=>List Arg) [] (fun ξ t ξ=>t) ts)) ks
noncomputable def lC (l:List Nat):Nat→List Nat:=@List.rec Nat (fun ξ=>Nat→List Nat) (fun ξ=>[]) (fun a ξ ih n=>@Nat.rec (fun ξ=>List Nat) [] (fun n ξ=>a :: ih n) n) l
noncomputable def bh (fd:FuncData):List Stmt:=match fd.body with | .stmts l=>l | _=>[]
noncomputable def kH (names:List (Str×NameKind)):Bool:=@List.rec (Str×NameKind) (fun ξ=>Bool) true (fun p ξ ih=>(match p.2 with | .cell=>false | _=>true)&&ih) names
noncomputable def ff (l:List Nat):Bool:=@List.rec Nat (fun ξ=>Bool) true (fun a r ih=>not (eF a r)&&ih) l
noncomputable def jr (sc:Scope) (l:List Nat):Bool:=@List.rec Nat (fun ξ=>Bool) true (fun k ξ ih=>jQ (aD (gcp k) sc.names)&&ih) l
noncomputable def gF (fd:FuncData) (fnl:List Nat) (ar:Nat) (body:List GS):FuncData :=
 fnOf fd.name fd.qualname ⟨[],gPs (lC fnl ar) fd.params.args,none,[],[],none,[]⟩ (gB fnl body (bh fd)) fd.scope .none .none fd.doc fd.pyModule fd.annotations fd.code fd.closureTuple
noncomputable def okF (K:Frag) (fd:FuncData) (fnl:List Nat) (ar nl:Nat) (body:List GS):Bool :=
 codeIn K fd.code fd.qualname&&(lU fd.scope.kind&&(not fd.scope.isCoroutine&&(not fd.scope.isGenerator&&(kH fd.scope.names&&(ff fnl&&(Nat.beq fnl.length nl&&(Nat.ble ar nl&&(jr fd.scope (lC fnl ar)&&oz fnl fd.scope body (bh fd)))))))))
end
theorem jA {l:List Nat}:∀ {n},lC l n=l.take n:=by
 induction l with
 | nil=>intro n;rw [List.take_nil];rfl
 | cons a l ih =>
  intro n
  cases n with
  | zero=>rfl
  | succ n=>rw [List.take_succ_cons,← ih];rfl
theorem tU {ks:List Nat}:∀ {ts},(gPs ks ts).map (·.arg)=ks.map gnm:=by
 induction ks with
 | nil=>intro ts;rfl
 | cons k ks ih=>intro ts;exact congrArg (gnm k :: ·) ih
theorem oH {f:Nat} {l:List Nat} (h:f∈l):eF f l=true:=by
 induction l with
 | nil=>exact nomatch h
 | cons a l ih =>
  show @Bool.rec (fun ξ=>Bool) (eF f l) true (Nat.beq a f)=true
  cases e:Nat.beq a f with
  | true=>rfl
  | false =>
   rcases List.mem_cons.mp h with c | h
   ·rw [c,Nat.beq_refl] at e;exact (Bool.false_ne_true e.symm).elim
   ·exact ih h
theorem lK {b:Bool} (h:not b=true):b=false:=by cases b<;>first | rfl | exact (Bool.false_ne_true h).elim
theorem fe {l:List Nat} (h:ff l=true):l.Nodup:=by
 induction l with
 | nil=>exact .nil
 | cons a l ih =>
  have h:=ab (show (not (eF a l)&&ff l)=true from h)
  refine List.nodup_cons.mpr ⟨fun c=>?_,ih h.2⟩
  have:=lK h.1
  rw [oH c] at this
  exact (Bool.false_ne_true this.symm).elim
theorem nj {names:List (Str×NameKind)} (h:kH names=true):∀ x∈names,x.2≠.cell:=by
 induction names with
 | nil=>intro x hx;exact nomatch hx
 | cons p names ih =>
  have h:=ab (show ((match p.2 with | .cell=>false | _=>true)&&kH names)=true from h)
  intro x hx
  rcases List.mem_cons.mp hx with e | hx
  ·intro c
   have h1:=h.1
   rw [← e,c] at h1
   exact (Bool.false_ne_true h1).elim
  ·exact ih h.2 x hx
theorem iG {sc:Scope} {l:List Nat} (h:jr sc l=true):∀ k∈l,ax sc k:=by
 induction l with
 | nil=>intro k hk;exact nomatch hk
 | cons a l ih =>
  have h:=ab (show (jQ (aD (gcp a) sc.names)&&jr sc l)=true from h)
  intro k hk
  rcases List.mem_cons.mp hk with e | hk
  ·rw [e];exact lookK_eq.symm.trans (eM h.1)
  ·exact ih h.2 k hk
theorem oZ {k:ScopeKind} (h:lU k=true):k=.function:=by cases k<;>first | rfl | exact (Bool.false_ne_true h).elim
theorem v9 {C:Cx} {i:Ps} {o:Obj} {fd:FuncData} {fnl:List Nat} {ar nl:Nat} {body:List GS} (X:C.K.In C.h0) (ho:C.h0.get? (C.fa i)=some o) (hd:o.data=.func fd) (hf:fd=gF fd fnl ar body) (hc:okF C.K fd fnl ar nl body=true):FnOk C i ar nl body:=by
 have h1:=ab hc
 have h2:=ab h1.2
 have h3:=ab h2.2
 have h4:=ab h3.2
 have h5:=ab h4.2
 have h6:=ab h5.2
 have h7:=ab h6.2
 have h8:=ab h7.2
 have h9:=ab h8.2
 have hl:=natbeq.mp h7.1
 have hal:=natble.mp h8.1
 refine ⟨fd.name,fd.qualname,gPs (lC fnl ar) fd.params.args,gB fnl body (bh fd),fd.scope,fd.pyModule,fd.code,fd.doc,fd.closureTuple,fd.annotations,o,fnl,ho,hd.trans (congrArg _ hf),codeRec_of X h1.1,fe h6.1,hl,hal,?_,oZ h2.1,lK h3.1,lK h4.1,nj h5.1,?_,m8 h9.2⟩
 ·rw [tU,jA]
 ·have:=iG h9.1
  rw [jA] at this
  exact this
end Gh
end
section
namespace Gh
open PySem PyProof.Rows PySem.W PySem.SeqAt PySem.Calls
section
noncomputable def qX {α:Type} (f:Ps→α→Bool) (t:Tr α):(Ps→Ps)→Bool:=@Tr.rec α (fun ξ=>(Ps→Ps)→Bool) (fun ξ=>true) (fun v ξ ξ l r g=>f (g .h) v&&(l (fun p=>g (.o p))&&r (fun p=>g (.i p)))) t
noncomputable def gZ {α:Type} (f:Ps→α→Bool) (t:Tr α):Bool:=qX f t fun p=>p
noncomputable def u0 {α:Type} (Q:Ps→α→Prop) (t:Tr α):Prop:=@Tr.rec α (fun ξ=>(Ps→α→Prop)→Prop) (fun ξ=>True) (fun v ξ ξ l r Q=>Q .h v∧l (fun p=>Q (.o p))∧r (fun p=>Q (.i p))) t Q
noncomputable def nv (p:Ps):Nat:=@Ps.rec (fun ξ=>Nat) 0 (fun ξ n=>n.succ) (fun ξ n=>n.succ) p
noncomputable def oB (p:Ps):Nat:=@Ps.rec (fun ξ=>Nat) 1 (fun ξ n=>Nat.mul 2 n) (fun ξ n=>Nat.succ (Nat.mul 2 n)) p
end
theorem get_nil {α:Type} {d:α} {c:Ps}:Tr.get d c .nil=d:=by cases c<;>rfl
theorem qW {α:Type} {f:Ps→α→Bool} {d:α} {t:Tr α}:∀ {g:Ps→Ps},qX f t g=true→(∀ c,f c d=true)→∀ c,f (g c) (Tr.get d c t)=true:=by
 induction t with
 | nil=>intro g _ hd c;rw [get_nil];exact hd _
 | node v l r ihl ihr =>
  intro g h hd c
  have h1:=ab (show (f (g .h) v&&(qX f l (fun p=>g (.o p))&&qX f r (fun p=>g (.i p))))=true from h)
  have h2:=ab h1.2
  cases c with
  | h=>exact h1.1
  | o p=>exact ihl h2.1 hd p
  | i p=>exact ihr h2.2 hd p
theorem bZ {α:Type} {f:Ps→α→Bool} {d:α} {t:Tr α} (h:gZ f t=true) (hd:∀ c,f c d=true) (c:Ps):f c (Tr.get d c t)=true:=qW (g:=fun p=>p) h hd c
theorem AllP_ok {α:Type} {d:α} {t:Tr α}:∀ {Q:Ps→α→Prop},u0 Q t→(∀ c,Q c d)→∀ c,Q c (Tr.get d c t):=by
 induction t with
 | nil=>intro Q _ hd c;rw [get_nil];exact hd _
 | node v l r ihl ihr =>
  intro Q h hd c
  have h1:Q .h v∧u0 (fun p=>Q (.o p)) l∧u0 (fun p=>Q (.i p)) r:=h
  cases c with
  | h=>exact h1.1
  | o p=>exact ihl h1.2.1 (fun c=>hd _) p
  | i p=>exact ihr h1.2.2 (fun c=>hd _) p
theorem gx {n:Nat} (h:nv (Ps.ofNat n) < 40):oB (Ps.ofNat n)=n.succ:=by
 have H:∀ k m,1≤m→nv (@Nat.rec (fun ξ=>Nat→Ps) (fun ξ=>.h) (fun ξ ih m=>@Bool.rec (fun ξ=>Ps) (@Bool.rec (fun ξ=>Ps) (.o (ih (Nat.div m 2))) (.i (ih (Nat.div m 2))) (Nat.beq (Nat.mod m 2) 1)) .h (Nat.beq m 1)) k m) < k →
   oB (@Nat.rec (fun ξ=>Nat→Ps) (fun ξ=>.h) (fun ξ ih m=>@Bool.rec (fun ξ=>Ps) (@Bool.rec (fun ξ=>Ps) (.o (ih (Nat.div m 2))) (.i (ih (Nat.div m 2))) (Nat.beq (Nat.mod m 2) 1)) .h (Nat.beq m 1)) k m)=m:=by
  intro k
  induction k with
  | zero=>intro m _ h;exact absurd h (Nat.not_lt_zero _)
  | succ k ih =>
   intro m hm h
   have hd:m / 2+m / 2+m % 2=m:=by omega
   dsimp only at h ⊢
   cases e1:Nat.beq m 1 with
   | true=>rw [natbeq.mp e1];rfl
   | false =>
    have n1:m≠1:=Nat.ne_of_beq_eq_false e1
    rw [e1] at h
    dsimp only at h ⊢
    have hm2:1≤Nat.div m 2:=by show 1≤m / 2;omega
    cases e2:Nat.beq (Nat.mod m 2) 1 with
    | true =>
     rw [e2] at h
     have:=ih (Nat.div m 2) hm2 (Nat.lt_of_succ_lt_succ h)
     refine (congrArg (fun x=>Nat.succ (Nat.mul 2 x)) this).trans ?_
     have e3:m % 2=1:=natbeq.mp e2
     show 2 * (m / 2)+1=m
     omega
    | false =>
     rw [e2] at h
     have:=ih (Nat.div m 2) hm2 (Nat.lt_of_succ_lt_succ h)
     refine (congrArg (fun x=>Nat.mul 2 x) this).trans ?_
     have e3:m % 2≠1:=Nat.ne_of_beq_eq_false e2
     show 2 * (m / 2)=m
     omega
 exact H 40 n.succ (Nat.succ_le_succ (Nat.zero_le n)) h
section
noncomputable def fnd (s:Str) (es:List DictEntry):Option Value:=@List.rec DictEntry (fun ξ=>Option Value) none (fun e ξ ih=>match e.key with | .str k _=>@Bool.rec (fun ξ=>Option Value) ih (some e.val) (Fast.sEq k s) | _=>ih) es
noncomputable def gy (es:List DictEntry):Bool:=@List.rec DictEntry (fun ξ=>Bool) true (fun e ξ ih=>not e.refKey&&ih) es
end
theorem fnd_eq {s:Str} {es:List DictEntry}:(es.find? (·.key.isStr s)).map (·.val)=fnd s es:=by
 induction es with
 | nil=>rfl
 | cons e es ih =>
  show _=(match e.key with | .str k _=>@Bool.rec (fun ξ=>Option Value) (fnd s es) (some e.val) (Fast.sEq k s) | _=>fnd s es)
  rw [List.find?_cons,← ih]
  cases hk:e.key with
  | str k t =>
   dsimp only [Value.isStr]
   cases hs:Fast.sEq k s with
   | true=>rw [beq_iff_eq.mpr (Fast.sEq_iff.mp hs)];rfl
   | false =>
    have:(k==s)=false:=beq_eq_false_iff_ne.mpr fun c=>by rw [Fast.sEq_iff.mpr c] at hs;exact Bool.noConfusion hs
    rw [this]
  | _=>rfl
theorem ni {es:List DictEntry} (h:gy es=true):es.any (·.refKey)=false:=by
 induction es with
 | nil=>rfl
 | cons e es ih =>
  have h:=ab (show (not e.refKey&&gy es)=true from h)
  rw [List.any_cons,lK h.1,ih h.2];rfl
theorem m9 {K:Frag} {a:Addr} {s:Str} {c:Value} {d:Option Addr} {es:List DictEntry} {n:Nat} {sl:Array (Option Value)} {x:Value} (h:K.lookup a=some ⟨c,d,.dict ⟨es⟩ n,sl⟩) (e:fnd s es=some x):nsIn K a s=some (some x):=by
 unfold nsIn
 rw [h]
 rw [← fnd_eq] at e
 cases hf:es.find? (·.key.isStr s) with
 | none=>rw [hf] at e;cases e
 | some y=>rw [hf] at e;cases e;dsimp only;rw [hf]
theorem nc {K:Frag} {a:Addr} {s:Str} {c:Value} {d:Option Addr} {es:List DictEntry} {n:Nat} {sl:Array (Option Value)} (h:K.lookup a=some ⟨c,d,.dict ⟨es⟩ n,sl⟩) (e:fnd s es=none) (r:gy es=true):nsIn K a s=some none:=by
 unfold nsIn
 rw [h]
 rw [← fnd_eq] at e
 cases hf:es.find? (·.key.isStr s) with
 | none=>dsimp only;rw [hf];dsimp only;rw [ni r];rfl
 | some y=>rw [hf] at e;cases e
end Gh
end
section
namespace Gt
open PySem PySem.W
noncomputable def fdOf (o:Obj):FuncData:=match o.data with | .func f=>f | _=>default
noncomputable def nthO (l:List Obj):Nat→Obj:=@List.rec Obj (fun ξ=>Nat→Obj) (fun ξ=>default) (fun x ξ ih n=>@Nat.rec (fun ξ=>Obj) x (fun k ξ=>ih k) n) l
noncomputable def num (l:List Obj):Nat→Frag:=@List.rec Obj (fun ξ=>Nat→Frag) (fun ξ=>[]) (fun x ξ ih n=>(n,x) :: ih (Nat.succ n)) l
noncomputable def KK (P:Params):Frag:=num (l11 P) 0
noncomputable def esOf (o:Obj):List DictEntry:=match o.data with | .dict es _=>es.toList | _=>[]
end Gt
namespace Gh
open PySem PyProof.Rows PySem.W PySem.SeqAt PySem.Calls
section
noncomputable def fnAr (f:Fn):Nat:=@Fn.rec (fun ξ=>Nat) 0 (fun a ξ ξ=>a) f
noncomputable def fnNl (f:Fn):Nat:=@Fn.rec (fun ξ=>Nat) 0 (fun ξ n ξ=>n) f
noncomputable def fnBd (f:Fn):List GS:=@Fn.rec (fun ξ=>List GS) [] (fun ξ ξ b=>b) f
noncomputable def v6 (v:Value) (n:String):Bool:=match v with | .type m=>decide (m=n) | _=>false
noncomputable def rQ (v:Value) (n:String):Bool:=match v with | .builtin m=>decide (m=n) | _=>false
noncomputable def gM (v:Value) (a:Addr):Bool:=match v with | .ref b=>Nat.beq b a | _=>false
noncomputable def oX (v:Value) (o:Int):Bool:=match v with | .int n _=>decide (n=o) | _=>false
noncomputable def tJ (v:Value) (s:Str):Bool:=match v with | .str x _=>Fast.sEq x s | _=>false
noncomputable def qE (v:Value) (b:Bool):Bool:=match v with | .bool c=>bEq c b | _=>false
noncomputable def chkV (fa ca ga:Ps→Addr) (gd:Ps→Bool) (v:V) (x:Value):Bool:=V.casesOn v false (match x with | .none=>true | _=>false) (fun b=>qE x b) (fun o s=>Nat.beq s 0&&oX x o) (fun i=>tJ x (gnm i)) (fun ξ=>false) (fun ξ=>false) (fun ξ=>false)
 (fun i=>gM x (fa i)) (fun i=>gM x (ca i)) (fun i=>isVal x (biV i)) (fun i=>gd i&&gM x (ga i))
where isVal (x y:Value):Bool:=match y with | .builtin n=>rQ x n | .type n=>v6 x n | _=>false
end
theorem mz {C:Cx} {gd:Ps→Bool} {v:V} {x:Value} (z:C.ρ 0=0) (hg:∀ i,gd i=true→qg C i) (h:chkV C.fa C.ca C.ga gd v x=true):∀ ι h,VR C ι h v x:=by
 intro ι hp
 cases v with
 | none=>cases x<;>first | exact .none | exact (Bool.false_ne_true h).elim
 | bool b =>
  cases x with
  | bool c =>
   have:c=b:=by revert h;cases b<;>cases c<;>intro h<;>first | rfl | exact (Bool.false_ne_true h).elim
   rw [this];exact .bool
  | _=>exact (Bool.false_ne_true h).elim
 | int o s =>
  have h:=ab (show (Nat.beq s 0&&oX x o)=true from h)
  cases x with
  | int n t =>
   have e:n=o:=of_decide_eq_true h.2
   rw [e,natbeq.mp h.1]
   exact .int (by rw [z,Int.add_zero])
  | _=>exact (Bool.false_ne_true h.2).elim
 | str i =>
  cases x with
  | str s t=>rw [Fast.sEq_iff.mp (show Fast.sEq s (gnm i)=true from h)];exact .str rfl
  | _=>exact (Bool.false_ne_true h).elim
 | fn i =>
  cases x with
  | ref a=>rw [natbeq.mp (show Nat.beq a (C.fa i)=true from h)];exact .fn
  | _=>exact (Bool.false_ne_true h).elim
 | cls i =>
  cases x with
  | ref a=>rw [natbeq.mp (show Nat.beq a (C.ca i)=true from h)];exact .cls
  | _=>exact (Bool.false_ne_true h).elim
 | bi i =>
  have e:x=biV i:=by
   have h:chkV.isVal x (biV i)=true:=h
   revert h
   generalize biV i=y
   cases y<;>intro h<;>try exact (Bool.false_ne_true h).elim
   ·cases x<;>first | exact congrArg _ (of_decide_eq_true h) | exact (Bool.false_ne_true h).elim
   ·cases x<;>first | exact congrArg _ (of_decide_eq_true h) | exact (Bool.false_ne_true h).elim
  rw [e];exact .bi
 | gd i =>
  have h:=ab (show (gd i&&gM x (C.ga i))=true from h)
  cases x with
  | ref a=>rw [natbeq.mp (show Nat.beq a (C.ga i)=true from h.2)];exact .gd (hg _ h.1)
  | _=>exact (Bool.false_ne_true h.2).elim
 | _=>exact (Bool.false_ne_true h).elim
section
noncomputable def uh (g b:List DictEntry) (fa ca ga:Ps→Addr) (gd:Ps→Bool) (p:Ps) (v:V):Bool :=
 @Bool.rec (fun ξ=>Bool) (Nat.blt (nv p) 40&&@Option.rec Value (fun ξ=>Bool) (@Option.rec Value (fun ξ=>Bool) false (fun x=>chkV fa ca ga gd v x) (fnd (gnm (Nat.pred (oB p))) b)) (fun x=>chkV fa ca ga gd v x) (fnd (gnm (Nat.pred (oB p))) g)) true (aP v true false)
end
theorem qR {C:Cx} {gd:Ps→Bool} {g b:List DictEntry} {c1 c2:Value} {a1 a2:Option Addr} {n1 n2:Nat} {s1 s2:Array (Option Value)} {mg mb:Str→Option Value} (z:C.ρ 0=0) (hg:∀ i,gd i=true→qg C i) (X:C.K.In C.h0)
  (k1:C.K.lookup mainGlobals=some ⟨c1,a1,.dict ⟨g⟩ n1,s1⟩) (k2:C.K.lookup builtinsNs=some ⟨c2,a2,.dict ⟨b⟩ n2,s2⟩) (m1:C.h0.Ns mainGlobals mg) (m2:C.h0.Ns builtinsNs mb) (nr:gy g=true) (h:gZ (uh g b C.fa C.ca C.ga gd) lZ=true) :
  ∀ i v,cS i=v→v≠.unb→∃ x,(mg (gnm i)=some x∨(mg (gnm i)=none∧mb (gnm i)=some x))∧∀ ι h,VR C ι h v x:=by
 intro i v e hn
 have h1:=bZ h (d:=.unb) (fun c=>rfl) (Ps.ofNat i)
 rw [show Tr.get .unb (Ps.ofNat i) lZ=v from e] at h1
 have hu:aP v true false=false:=by cases v<;>first | rfl | exact absurd rfl hn
 unfold uh at h1
 rw [hu] at h1
 have h2:=ab h1
 have hl:nv (Ps.ofNat i) < 40:=by
  have:=h2.1
  unfold Nat.blt at this
  exact natble.mp this
 rw [gx hl] at h2
 have h3:=h2.2
 revert h3
 cases e1:fnd (gnm i) g with
 | some x =>
  intro h3
  have h3:=(show @Option.rec Value (fun ξ=>Bool) (@Option.rec Value (fun ξ=>Bool) false (fun x=>chkV C.fa C.ca C.ga gd v x) (fnd (gnm (Nat.pred i.succ)) b)) (fun x=>chkV C.fa C.ca C.ga gd v x) (fnd (gnm i) g)=true from h3)
  rw [e1] at h3
  exact ⟨x,.inl (mg_of X m1 (m9 k1 e1)),mz z hg h3⟩
 | none =>
  intro h3
  have h3:=(show @Option.rec Value (fun ξ=>Bool) (@Option.rec Value (fun ξ=>Bool) false (fun x=>chkV C.fa C.ca C.ga gd v x) (fnd (gnm i) b)) (fun x=>chkV C.fa C.ca C.ga gd v x) (fnd (gnm i) g)=true from h3)
  rw [e1] at h3
  cases e2:fnd (gnm i) b with
  | none=>rw [e2] at h3;exact (Bool.false_ne_true h3).elim
  | some x =>
   rw [e2] at h3
   refine ⟨x,.inr ⟨mg_none_of X m1 (nc k1 e1 nr),?_⟩,mz z hg h3⟩
   refine ct fun ng=>?_
   obtain ⟨o,es,ep,ho,hd,_,hf⟩:=m2
   have q:=X _ _ k2
   rw [ho] at q
   refine ng ?_
   cases q
   cases hd
   rw [← hf]
   unfold nsFind findBy
   rw [← Array.find?_toList]
   exact fnd_eq.trans e2
end Gh
end
section
namespace Gh
open PySem PyProof.Rows PySem.W PySem.SeqAt PySem.Calls
section
noncomputable def faT:Tr Nat:=(.node 90 (.node 97 (.node 111 (.node 139 (.node 195 (.node 420 (.node 644 .nil .nil) (.node 862 .nil .nil)) (.node 532 (.node 756 .nil .nil) .nil)) (.node 356 (.node 476 (.node 700 .nil .nil) (.node 258 .nil .nil)) (.node 588 (.node 808 .nil .nil) .nil))) (.node 167 (.node 328 (.node 448 (.node 672 .nil .nil) (.node 69 .nil .nil)) (.node 560 (.node 780 .nil .nil) .nil)) (.node 384 (.node 504 (.node 728 .nil .nil) .nil) (.node 616 (.node 836 .nil .nil) .nil)))) (.node 125 (.node 153 (.node 314 (.node 434 (.node 658 .nil .nil) (.node 28 .nil .nil)) (.node 546 (.node 766 .nil .nil) .nil)) (.node 370 (.node 490 (.node 714 .nil .nil) (.node 300 .nil .nil)) (.node 602 (.node 822 .nil .nil) .nil))) (.node 181 (.node 342 (.node 462 (.node 686 .nil .nil) (.node 216 .nil .nil)) (.node 574 (.node 794 .nil .nil) .nil)) (.node 398 (.node 518 (.node 742 .nil .nil) .nil) (.node 630 (.node 850 .nil .nil) .nil))))) (.node 104 (.node 118 (.node 146 (.node 202 (.node 427 (.node 651 .nil .nil) (.node 867 .nil .nil)) (.node 539 (.node 761 .nil .nil) .nil)) (.node 363 (.node 483 (.node 707 .nil .nil) (.node 279 .nil .nil)) (.node 595 (.node 815 .nil .nil) .nil))) (.node 174 (.node 335 (.node 455 (.node 679 .nil .nil) (.node 76 .nil .nil)) (.node 567 (.node 787 .nil .nil) .nil)) (.node 391 (.node 511 (.node 735 .nil .nil) .nil) (.node 623 (.node 843 .nil .nil) .nil)))) (.node 132 (.node 160 (.node 321 (.node 441 (.node 665 .nil .nil) (.node 62 .nil .nil)) (.node 553 (.node 773 .nil .nil) .nil)) (.node 377 (.node 497 (.node 721 .nil .nil) .nil) (.node 609 (.node 829 .nil .nil) .nil))) (.node 188 (.node 349 (.node 469 (.node 693 .nil .nil) (.node 237 .nil .nil)) (.node 581 (.node 801 .nil .nil) .nil)) (.node 405 (.node 525 (.node 749 .nil .nil) .nil) (.node 637 (.node 857 .nil .nil) .nil))))))
noncomputable def caT:Tr Nat:=(.node 79 (.node 79 (.node 219 (.node 303 .nil .nil) .nil) (.node 261 .nil .nil)) (.node 79 (.node 240 .nil .nil) (.node 282 .nil .nil)))
noncomputable def fa (i:Ps):Addr:=Tr.get 90 i faT
noncomputable def ca (i:Ps):Addr:=Tr.get 79 i caT
noncomputable def gaT:Tr Nat:=.node 47 (.node 48 .nil .nil) (.node 406 .nil .nil)
noncomputable def ga (i:Ps):Addr:=Tr.get 47 i gaT
noncomputable def gdB (i:Ps):Bool:=pEq i .h||(pEq i (.o .h)||pEq i (.i .h))
noncomputable def cx (w:World) (h0:Heap) (ρ:Nat→Int):Cx:=⟨PySem.Challenge.pw_tn0016_01,w,Gt.KK w.params,h0,ρ,fa,ca,ga⟩
noncomputable def eQ (r:Option (Option Value)) (a:Addr):Bool:=match r with | some (some v)=>gM v a | _=>false
noncomputable def i8 (r:Option (Option Value)):Bool:=match r with | some none=>true | _=>false
noncomputable def o3 (r:Option (Option Value)) (n:String):Bool:=match r with | some (some v)=>rQ v n | _=>false
noncomputable def oy (K:Frag) (a:Addr):Bool:=plainGet K a ""&&(hasDictIn K a&&(o3 (findIn K (.ref a) "__setattr__") "object.__setattr__"&&(plainOver K a&&(keepIn K (.ref a)&&flds.all fun f=>i8 (findIn K (.ref a) (gnm f))))))
noncomputable def vN (K:Frag) (a:Addr) (q:Nat×Ps):Bool:=eQ (findIn K (.ref a) (gnm q.1)) (fa q.2)&&isFn K (.ref (fa q.2))
noncomputable def okCl (K:Frag) (c:Ps) (cl:Cl):Bool:=Cl.casesOn cl true fun init ms=>eQ (findIn K (.ref (ca c)) "__init__") (fa init)&&(isFn K (.ref (fa init))&&(makesIn K (ca c)&&ms.all (vN K (ca c))))
end
theorem wk (P:Params):gZ (fun ξ a=>oy (Gt.KK P) a) caT=true:=by kernel_rfl
theorem c_79 (P:Params):oy (Gt.KK P) 79=true:=by kernel_rfl
theorem uu (P:Params):gZ (okCl (Gt.KK P)) jn=true:=by kernel_rfl
theorem uw (P:Params):gZ (fun ξ a=>keepIn (Gt.KK P) (.ref a)) faT=true:=by kernel_rfl
theorem ux (P:Params):gZ (uh (Gt.d11 P) (Gt.esOf (PySem.W.boot_o_0 P)) fa ca ga gdB) lZ=true:=by kernel_rfl
theorem ut (P:Params):gy (Gt.d11 P)=true:=by kernel_rfl
end Gh
end
section
namespace Gh
open PySem PyProof.Rows PySem.W PySem.SeqAt PySem.Calls
theorem kB {α:Type}:∀ (l:List α) (i:Nat),(Gt.sp l true)[i]?=l[2 * i]?∧(Gt.sp l false)[i]?=l[2 * i+1]?
 | [],i=>⟨rfl,rfl⟩
 | x :: l,i=>by
  have ih:=kB l
  refine ⟨?_,?_⟩
  ·show (x :: Gt.sp l false)[i]?=_
   cases i with
   | zero=>rfl
   | succ i=>rw [List.getElem?_cons_succ,(ih i).2,show 2 * (i+1)=2 * i+1+1 by omega,List.getElem?_cons_succ]
  ·show (Gt.sp l true)[i]?=_
   rw [(ih i).1,List.getElem?_cons_succ]
theorem uy {n:Nat}:∀ (l:List Obj) (i:Nat),i+1 < 2 ^ n→(Gt.bt1 n l).get i=l[i]?:=by
 induction n with
 | zero=>intro l i h;exact absurd h (by simp)
 | succ n ih =>
  intro l i h
  cases l with
  | nil=>rfl
  | cons x l =>
  show (BT.node x (Gt.bt1 n (Gt.sp l true)) (Gt.bt1 n (Gt.sp l false))).get i=_
  have e:2 ^ (n+1)=2 ^ n * 2:=Nat.pow_succ ..
  rw [BT.get_node]
  by_cases h0:i=0
  ·rw [if_pos h0,h0];rfl
  ·rw [if_neg h0]
   obtain ⟨j,rfl⟩:∃ j,i=j+1:=⟨i - 1,by omega⟩
   rw [List.getElem?_cons_succ]
   by_cases h1:(j+1) % 2=1
   ·rw [if_pos h1,ih _ _ (by omega),(kB l _).1,show 2 * ((j+1) / 2)=j by omega]
   ·rw [if_neg h1,ih _ _ (by omega),(kB l _).2,show 2 * ((j+1) / 2 - 1)+1=j by omega]
theorem wW {P:Params} {a:Nat} {o:Obj} (hl:(Gt.l11 P).length=868) (e:(Gt.l11 P)[a]?=some o):(Gt.H1 P).objs[a]?=some o:=by
 have ha:a < 868:=by rw [← hl];exact (List.getElem?_eq_some_iff.mp e).1
 show (absHeap (Gt.bt1 11 (Gt.l11 P)) 868 {}).objs[a]?=_
 rw [absHeap_at,if_pos ha,uy (n:=11) _ _ (by omega),e];rfl
section
noncomputable def oM (o:Obj):Bool:=match o.data with | .freed=>false | _=>true
noncomputable def uQ (l:List Obj):Bool:=@List.rec Obj (fun ξ=>Bool) true (fun x ξ ih=>oM x&&ih) l
noncomputable def v1 (l:List Obj):Nat:=@List.rec Obj (fun ξ=>Nat) 0 (fun ξ ξ ih=>Nat.succ ih) l
end
theorem lP:∀ l:List Obj,v1 l=l.length
 | []=>rfl
 | _ :: l=>congrArg Nat.succ (lP l)
theorem qV {l:List Obj} (h:uQ l=true):∀ {a:Nat} {o:Obj},l[a]?=some o→oM o=true:=by
 induction l with
 | nil=>intro a o e;injection e
 | cons x l ih =>
  have h:=ab (show (oM x&&uQ l)=true from h)
  intro a o e
  cases a with
  | zero=>cases e;exact h.1
  | succ a=>exact ih h.2 e
theorem uv (P:Params):uQ (Gt.l11 P)=true:=by kernel_rfl
theorem wj (P:Params):v1 (Gt.l11 P)=868:=by kernel_rfl
theorem gw {l:List Obj}:∀ (k a:Nat) (o:Obj),(Gt.num l k).lookup a=some o→k≤a∧l[a - k]?=some o:=by
 induction l with
 | nil=>intro k a o e;exact nomatch e
 | cons x l ih =>
  intro k a o e
  have e:(match a==k with | true=>some x | false=>(Gt.num l k.succ).lookup a)=some o:=e
  cases q:a==k with
  | true=>rw [q] at e;injection e with e;rw [beq_iff_eq.mp q,Nat.sub_self,← e];exact ⟨Nat.le_refl _,rfl⟩
  | false =>
   rw [q] at e
   obtain ⟨h1,h2⟩:=ih k.succ a o e
   refine ⟨by omega,?_⟩
   rw [show a - k=(a - k.succ)+1 by omega,List.getElem?_cons_succ];exact h2
theorem wV {P:Params} {h:Heap} (k:∀ a o,(Gt.H1 P).get? a=some o→h.get? a=some o):(Gt.KK P).In h:=by
 intro a o e
 obtain ⟨_,e⟩:=gw _ _ _ (show (Gt.num (Gt.l11 P) 0).lookup a=some o from e)
 rw [Nat.sub_zero] at e
 refine k a o ?_
 have hl:=qV (uv P) e
 unfold Heap.get?
 rw [wW ((lP _).symm.trans (wj P)) e]
 revert hl
 obtain ⟨c,d,dt,sl⟩:=o
 cases dt<;>first | (intro;rfl) | (intro h;exact (Bool.false_ne_true h).elim)
end Gh
end
section
namespace Gh
open PySem PyProof.Rows PySem.W PySem.SeqAt PySem.Calls
section
noncomputable def qF {α:Type} (v:Value) (d:α) (k:Nat→α):α:=match v with | .int (.ofNat n) _=>k n | _=>d
noncomputable def eK (e:DictEntry):Nat:=qF e.key 0 id
noncomputable def tL (v:V) (m:Nat):Bool:=am v false fun o s=>Nat.beq s 0&&decide (o=Int.ofNat m)
noncomputable def lH (tr:Tr V) (e:DictEntry):Bool:=qF e.key false fun n=>qF e.val false fun m=>decide (e.hash=Int.ofNat n)&&(Nat.ble n 1000000&&tL (Tr.get .unb (Ps.ofNat n) tr) m)
noncomputable def iM (tr:Tr V) (l:List DictEntry):Bool:=@List.rec DictEntry (fun ξ=>Bool) true (fun x ξ ih=>lH tr x&&ih) l
noncomputable def tR (l:List DictEntry) (m:Nat):Bool:=@List.rec DictEntry (fun ξ=>Bool) false (fun x ξ ih=>@Bool.rec (fun ξ=>Bool) ih true (Nat.beq (Nat.succ (eK x)) m)) l
noncomputable def k5 (l:List DictEntry) (p:Ps) (v:V):Bool:=aP v true (Nat.blt (nv p) 40&&tR l (oB p))
noncomputable def oR (l:List DictEntry):List Nat:=@List.rec DictEntry (fun ξ=>List Nat) [] (fun x ξ ih=>eK x :: ih) l
noncomputable def isTy (v:Value) (t:String):Bool:=match v with | .type s=>s==t | _=>false
noncomputable def wd {α:Type} (x:Data) (d:α) (k:List DictEntry→α):α:=match x with | .dict es _=>k es.toList | _=>d
noncomputable def jB (o:Obj) (i:Ps):Bool:=isTy o.cls "dict"&&(o.dict.isNone&&(o.slots.toList.isEmpty&&wd o.data false fun es=>iM (Tr.get .nil i gds) es&&(ff (oR es)&&gZ (k5 es) (Tr.get .nil i gds))))
noncomputable def qt (l:List DictEntry):List (Int×Value):=l.map fun e=>(Int.ofNat (eK e),e.val)
end
theorem jP:∀ l,oR l=l.map eK
 | []=>rfl
 | _ :: l=>congrArg (_ :: ·) (jP l)
theorem mZ {tr:Tr V} {l:List DictEntry} (h:iM tr l=true):∀ e∈l,lH tr e=true:=by
 induction l with
 | nil=>intro e he;exact nomatch he
 | cons x l ih =>
  have h:=ab (show (lH tr x&&iM tr l)=true from h)
  intro e he
  rcases List.mem_cons.mp he with c | he
  ·rw [c];exact h.1
  ·exact ih h.2 e he
theorem lW {v:Value} {k:Nat→Bool} (h:qF v false k=true):∃ n t,v=.int (.ofNat n) t∧k n=true:=by
 cases v with
 | int i t=>cases i with
  | ofNat n=>exact ⟨n,t,rfl,h⟩
  | negSucc n=>exact (Bool.false_ne_true h).elim
 | _=>exact (Bool.false_ne_true h).elim
theorem mS {o:Obj} {i:Ps} (h:jB o i=true):∃ es n,o=⟨.type "dict",none,.dict ⟨es⟩ n,⟨[]⟩⟩∧(iM (Tr.get .nil i gds) es&&(ff (oR es)&&gZ (k5 es) (Tr.get .nil i gds)))=true:=by
 obtain ⟨c,d,x,⟨sl⟩⟩:=o
 have h1:=ab h
 have h2:=ab h1.2
 have h3:=ab h2.2
 have e1:c=.type "dict":=by
  have h1:=h1.1
  cases c with
  | type s=>exact congrArg _ (beq_iff_eq.mp h1)
  | _=>exact (Bool.false_ne_true h1).elim
 have e2:d=none:=Option.isNone_iff_eq_none.mp h2.1
 have e3:sl=[]:=List.isEmpty_iff.mp h3.1
 rw [e1,e2,e3]
 have h4:=h3.2
 cases x with
 | dict es n=>exact ⟨es.toList,n,rfl,h4⟩
 | _=>exact (Bool.false_ne_true h4).elim
set_option tactic.hygienic true in
theorem gr {tr:Tr V} {e:DictEntry} (h:lH tr e=true):∃ n m t t',e.key=.int (Int.ofNat n) t∧e.val=.int (Int.ofNat m) t'∧eK e=n∧e.hash=Int.ofNat n∧n≤1000000∧∃ o,Tr.get .unb (Ps.ofNat n) tr=.int o 0∧o=Int.ofNat m:=by
 refine ct fun ng=>?_
 obtain ⟨hh,k,v⟩:=e
 obtain ⟨n,t,rfl,h⟩:=lW h
 obtain ⟨m,t',rfl,h⟩:=lW h
 have h1:=ab h
 have h2:=ab h1.2
 refine ng ?_
 refine ⟨n,m,t,t',rfl,rfl,rfl,of_decide_eq_true h1.1,natble.mp h2.1,?_⟩
 obtain ⟨o,s,e,h3⟩:=ae h2.2 nofun
 have h3:=ab h3
 exact ⟨o,by rw [e,natbeq.mp h3.1],of_decide_eq_true h3.2⟩
theorem qG {l:List DictEntry} {m:Nat} (h:tR l m=true):∃ e∈l,(eK e).succ=m:=by
 induction l with
 | nil=>exact (Bool.false_ne_true h).elim
 | cons x l ih =>
  have h:@Bool.rec (fun ξ=>Bool) (tR l m) true (Nat.beq (Nat.succ (eK x)) m)=true:=h
  cases q:Nat.beq (Nat.succ (eK x)) m with
  | true=>exact ⟨x,List.mem_cons_self,natbeq.mp q⟩
  | false=>rw [q] at h;obtain ⟨e,a,b⟩:=ih h;exact ⟨e,List.mem_cons_of_mem _ a,b⟩
theorem kP {n:Nat} (h:n≤1000000):hashInt (Int.ofNat n)=Int.ofNat n:=by
 have h1:(Int.ofNat n).natAbs=n:=rfl
 have h2:¬ (Int.ofNat n < 0):=by simp
 have h3:((n:Int) % ((2 ^ 61 - 1:Nat):Int))=n:=by
  rw [← Int.natCast_emod,Nat.mod_eq_of_lt (by omega)]
 have h4:((n:Int)==(-1:Int))=false:=by
  apply beq_eq_false_iff_ne.mpr
  intro c;omega
 unfold hashInt
 simp only [rawHash,h1,if_neg h2,h3,h4]
 rfl
set_option tactic.hygienic true in
theorem jb {C:Cx} {i:Ps} {o:Obj} (X:C.h0.get? (C.ga i)=some o) (hs:(C.ga i==sysModules)=false) (h:jB o i=true):qg C i:=by
 obtain ⟨es,n,rfl,h0⟩:=mS h
 clear h
 ·have h1:=ab h0
  have h2:=ab h1.2
  have hr:=mZ h1.1
  refine ⟨qt es,⟨_,⟨es⟩,n,X,⟨rfl,rfl,rfl⟩,rfl,?_,?_,?_⟩,hs,?_⟩
  ·intro e he
   refine ct fun ng=>?_
   obtain ⟨n,m,t,t',e1,e2,e3,e4,e5,_⟩:=gr (hr e (Array.mem_toList_iff.mpr he))
   refine ng ?_
   exact ⟨Int.ofNat n,by rw [e1];exact intKind_is _ _ _ _,e4.trans (kP e5).symm⟩
  ·show Pairs _ es (es.map fun e=>(Int.ofNat (eK e),e.val))
   clear h0 h1 h2 X
   induction es with
   | nil=>exact .nil
   | cons e es ih =>
    refine .cons ?_ rfl (ih fun e he=>hr e (List.mem_cons_of_mem _ he))
    refine ct fun ng=>?_
    obtain ⟨n,m,t,t',e1,e2,e3,_⟩:=gr (hr e List.mem_cons_self)
    refine ng ?_
    show (intKind _ _).is (Int.ofNat (eK e)) e.key=true
    rw [e3,e1];exact intKind_is _ _ _ _
  ·have:=fe h2.1
   rw [jP] at this
   have e:(qt es).map (·.1)=(es.map eK).map Int.ofNat:=by
    unfold qt;rw [List.map_map,List.map_map];rfl
   rw [e]
   exact List.Pairwise.map _ (fun a b hab c=>hab (Int.ofNat.inj c)) this
  ·intro k
   cases hv:valueAt (qt es) (k:Int) with
   | none =>
    left
    refine ⟨?_,rfl⟩
    show Tr.get .unb (Ps.ofNat k) (Tr.get .nil i gds)=.unb
    have hb:=bZ h2.2 (d:=.unb) (fun c=>rfl) (Ps.ofNat k)
    unfold k5 at hb
    cases hg:Tr.get V.unb (Ps.ofNat k) (Tr.get .nil i gds) with
    | unb=>rfl
    | _ =>
     exfalso
     rw [hg] at hb
     have hb:=ab hb
     have hl:nv (Ps.ofNat k) < 40:=by
      have:=hb.1
      unfold Nat.blt at this
      exact natble.mp this
     rw [gx hl] at hb
     obtain ⟨e,he,hk⟩:=qG hb.2
     have hk:=Nat.succ.inj hk
     unfold valueAt at hv
     rw [Option.map_eq_none_iff,List.find?_eq_none] at hv
     have:=hv (Int.ofNat (eK e),e.val) (List.mem_map.mpr ⟨e,he,rfl⟩)
     rw [hk] at this
     simp at this
   | some x =>
    right
    unfold valueAt at hv
    refine ct fun ng=>?_
    obtain ⟨kv,hf,hx⟩:=Option.map_eq_some_iff.mp hv
    have hm:=List.mem_of_find?_eq_some hf
    have hp:=List.find?_some hf
    obtain ⟨e,he,hkv⟩:=List.mem_map.mp hm
    obtain ⟨n,m,t,t',e1,e2,e3,e4,e5,o,e6,e7⟩:=gr (hr e he)
    subst hkv
    have hp:(Int.ofNat (eK e))=(k:Int):=by simpa using hp
    have hk:eK e=k:=Int.ofNat.inj hp
    rw [e3] at hk
    subst hk
    refine ng ?_
    refine ⟨o,t',e6,?_⟩
    rw [← hx]
    show some e.val=_
    rw [e2,e7]
theorem t_47 (P:Params):jB (Gt.nthO (Gt.l11 P) 47) .h=true:=by kernel_rfl
theorem t_48 (P:Params):jB (Gt.nthO (Gt.l11 P) 48) (.o .h)=true:=by kernel_rfl
theorem vp (P:Params):jB (Gt.nthO (Gt.l11 P) 406) (.i .h)=true:=by kernel_rfl
end Gh
end
section
namespace Gh
open PySem PyProof.Rows PySem.W PySem.SeqAt PySem.Calls
section
noncomputable def nOf (o:Obj):Nat:=match o.data with | .dict _ n=>n | _=>0
noncomputable def hM (P:Params) (c:Ps):FuncData:=Gt.fdOf (Gt.nthO (Gt.l11 P) (fa c))
noncomputable def vQ (P:Params) (t:Tr Fn):(Ps→Ps)→Tr FuncData:=@Tr.rec Fn (fun ξ=>(Ps→Ps)→Tr FuncData) (fun ξ=>.nil)
 (fun v ξ ξ l r g=>.node (@Fn.rec (fun ξ=>FuncData) default (fun ξ ξ ξ=>hM P (g .h)) v) (l fun p=>g (.o p)) (r fun p=>g (.i p))) t
noncomputable def vR (P:Params) (t:Tr Fn):(Ps→Ps)→Tr FuncData:=@Tr.rec Fn (fun ξ=>(Ps→Ps)→Tr FuncData) (fun ξ=>.nil)
 (fun v ξ ξ l r g=>.node (@Fn.rec (fun ξ=>FuncData) default (fun ar ξ body=>gF (hM P (g .h)) (Tr.get [] (g .h) je) ar body) v) (l fun p=>g (.o p)) (r fun p=>g (.i p))) t
noncomputable def rP (o:Option Obj):Bool:=@Option.rec Obj (fun ξ=>Bool) false (fun o=>match o.data with | .func _=>true | _=>false) o
noncomputable def okFn (P:Params) (c:Ps) (f:Fn):Bool:=@Fn.rec (fun ξ=>Bool) true (fun ar nl body=>rP ((Gt.KK P).lookup (fa c))&&okF (Gt.KK P) (hM P c) (Tr.get [] c je) ar nl body) f
end
theorem oY {o:Option Obj} (h:rP o=true):∃ c d fd sl,o=some ⟨c,d,.func fd,sl⟩:=by
 cases o with
 | none=>exact (Bool.false_ne_true h).elim
 | some o =>
  obtain ⟨c,d,x,sl⟩:=o
  cases x with
  | func fd=>exact ⟨c,d,fd,sl,rfl⟩
  | _=>exact (Bool.false_ne_true h).elim
theorem fE (P:Params):vQ P ft (fun p=>p)=vR P ft (fun p=>p):=by kernel_rfl
theorem fK (P:Params):gZ (okFn P) ft=true:=by kernel_rfl
theorem oK {P:Params} {t:Tr Fn}:∀ {g:Ps→Ps} {c ar nl body},Tr.get .no c t=.mk ar nl body→Tr.get default c (vQ P t g)=hM P (g c)∧Tr.get default c (vR P t g)=gF (hM P (g c)) (Tr.get [] (g c) je) ar body:=by
 induction t with
 | nil=>intro g c ar nl body e;rw [get_nil] at e;injection e
 | node v l r ihl ihr =>
  intro g c ar nl body e
  cases c with
  | h=>cases (show v=.mk ar nl body from e);exact ⟨rfl,rfl⟩
  | o p=>exact ihl (g:=fun p=>g (.o p)) e
  | i p=>exact ihr (g:=fun p=>g (.i p)) e
theorem tI (P:Params):(Gt.KK P).lookup mainGlobals=some ⟨.type "dict",none,.dict ⟨Gt.d11 P⟩ (nOf (Gt.nthO (Gt.l11 P) 3)),⟨[]⟩⟩:=by kernel_rfl
theorem k_bi (P:Params):(Gt.KK P).lookup builtinsNs=some ⟨(PySem.W.boot_o_0 P).cls,(PySem.W.boot_o_0 P).dict,.dict ⟨Gt.esOf (PySem.W.boot_o_0 P)⟩ (nOf (PySem.W.boot_o_0 P)),(PySem.W.boot_o_0 P).slots⟩:=by kernel_rfl
theorem tH (P:Params):(Gt.KK P).lookup sysModules=some (Gt.nthO (Gt.l11 P) 1):=by kernel_rfl
theorem k_47 (P:Params):(Gt.KK P).lookup 47=some (Gt.nthO (Gt.l11 P) 47):=by kernel_rfl
theorem k_48 (P:Params):(Gt.KK P).lookup 48=some (Gt.nthO (Gt.l11 P) 48):=by kernel_rfl
theorem v5 (P:Params):(Gt.KK P).lookup 406=some (Gt.nthO (Gt.l11 P) 406):=by kernel_rfl
theorem pF (P:Params):keepIn (Gt.KK P) (.ref 90)=true:=by kernel_rfl
set_option tactic.hygienic true in
theorem jV {r:Option (Option Value)} {a:Addr} (h:eQ r a=true):r=some (some (.ref a)):=by
 unfold eQ at h
 split at h
 case h_1 v =>
  cases v<;>first | exact (Bool.false_ne_true h).elim | skip
  case ref b=>rw [natbeq.mp (show Nat.beq b a=true from h)]
 case h_2=>exact (Bool.false_ne_true h).elim
theorem oC {r:Option (Option Value)} (h:i8 r=true):r=some none:=by
 unfold i8 at h
 split at h
 ·rfl
 ·exact (Bool.false_ne_true h).elim
set_option tactic.hygienic true in
theorem uA {r:Option (Option Value)} {n:String} (h:o3 r n=true):r=some (some (.builtin n)):=by
 unfold o3 at h
 split at h
 case h_1 v =>
  cases v<;>first | exact (Bool.false_ne_true h).elim | skip
  case builtin b=>rw [show b=n from of_decide_eq_true h]
 case h_2=>exact (Bool.false_ne_true h).elim
theorem jo (P:Params) (c:Ps):oy (Gt.KK P) (ca c)=true:=bZ (wk P) (d:=79) (fun ξ=>c_79 P) c
theorem oG {f:Nat} {i:Ps} {ms:List (Nat×Ps)} (h:nt f ms=some i):(f,i)∈ms:=by
 induction ms with
 | nil=>exact nomatch h
 | cons p ms ih =>
  have h:@Bool.rec (fun ξ=>Option Ps) (nt f ms) (some p.2) (Nat.beq p.1 f)=some i:=h
  cases q:Nat.beq p.1 f with
  | true=>rw [q] at h;injection h with h;rw [← natbeq.mp q,← h];exact List.mem_cons_self
  | false=>rw [q] at h;exact List.mem_cons_of_mem _ (ih h)
theorem pE {P:Params} {c:Ps} {init:Ps} {ms:List (Nat×Ps)} (e:Tr.get .no c jn=.mk init ms) :
  eQ (findIn (Gt.KK P) (.ref (ca c)) "__init__") (fa init)=true∧isFn (Gt.KK P) (.ref (fa init))=true∧makesIn (Gt.KK P) (ca c)=true∧∀ q∈ms,vN (Gt.KK P) (ca c) q=true:=by
 have h:=bZ (uu P) (d:=Cl.no) (fun ξ=>rfl) c
 rw [e] at h
 have h1:=ab (show (_&&_)=true from h)
 have h2:=ab h1.2
 have h3:=ab h2.2
 exact ⟨h1.1,h2.1,h3.1,List.all_eq_true.mp h3.2⟩
set_option tactic.hygienic true in
theorem wC {w:World} {h0:Heap} {ρ:Nat→Int} {mg mb:Str→Option Value} (r0:ρ 0=0) (rk:RhoOk (cx w h0 ρ)) (keep:∀ a o,(Gt.H1 w.params).get? a=some o→h0.get? a=some o)
  (m1:h0.Ns mainGlobals mg) (m2:h0.Ns builtinsNs mb) (nl:h0.NoLimit):AllOk (cx w h0 ρ):=by
 have X:(Gt.KK w.params).In h0:=wV keep
 have gd:∀ i,gdB i=true→qg (cx w h0 ρ) i:=by
  intro i hi
  have hi:(pEq i .h||(pEq i (.o .h)||pEq i (.i .h)))=true:=hi
  rcases Bool.or_eq_true_iff.mp hi with q | q
  ·rw [aW q];exact jb (X _ _ (k_47 _)) rfl (t_47 _)
  rcases Bool.or_eq_true_iff.mp q with q | q
  ·rw [aW q];exact jb (X _ _ (k_48 _)) rfl (t_48 _)
  ·rw [aW q];exact jb (X _ _ (v5 _)) rfl (vp _)
 refine { toRhoOk:=rk,nm:=nmOk,mods:=⟨_,X _ _ (tH _)⟩,inK:=X,cls:=fun c=>?_,fld:=fun c f hf=>?_,meth:=fun c init ms f i e hm=>?_,init:=fun c init ms e=>?_,glob:=⟨mg,mb,m1,m2,?_⟩,nolimit:=nl,keepF:=fun i=>?_,keepC:=fun c=>?_,fns:=fun i ar nl body e=>?_ }
 ·have h1:=ab (show (_&&_)=true from jo w.params c)
  have h2:=ab h1.2
  have h3:=ab h2.2
  have h4:=ab h3.2
  exact ⟨h1.1,h2.1,uA h3.1,h4.1⟩
 ·have h1:=ab (show (_&&_)=true from jo w.params c)
  have h2:=ab h1.2
  have h3:=ab h2.2
  have h4:=ab h3.2
  exact oC (List.all_eq_true.mp (ab h4.2).2 f hf)
 ·have q:=ab (show (_&&_)=true from (pE (P:=w.params) e).2.2.2 _ (oG hm))
  exact ⟨jV q.1,q.2⟩
 ·have q:=pE (P:=w.params) e
  exact ⟨jV q.1,q.2.1,q.2.2.1⟩
 ·exact qR (C:=cx w h0 ρ) (gd:=gdB) r0 gd X (tI _) (k_bi _) m1 m2 (ut _) (ux _)
 ·exact bZ (f:=fun ξ a=>keepIn (Gt.KK w.params) (.ref a)) (uw _) (d:=90) (fun ξ=>pF _) i
 ·have h1:=ab (show (_&&_)=true from jo w.params c)
  have h2:=ab h1.2
  have h3:=ab h2.2
  have h4:=ab h3.2
  exact (ab h4.2).1
 ·have h:=bZ (fK w.params) (d:=Fn.no) (fun ξ=>rfl) i
  rw [e] at h
  have h:=ab (show (_&&_)=true from h)
  have q:=oK (P:=w.params) (g:=fun p=>p) e
  have hf:hM w.params i=gF (hM w.params i) (Tr.get [] i je) ar body:=q.1.symm.trans ((congrArg (Tr.get default i) (fE w.params)).trans q.2)
  obtain ⟨c,d,fd,sl,hk⟩:=oY h.1
  ·have hd:hM w.params i=fd:=by
    obtain ⟨_,hn⟩:=gw _ _ _ (show (Gt.num (Gt.l11 w.params) 0).lookup (fa i)=some _ from hk)
    rw [Nat.sub_zero] at hn
    have:∀ (l:List Obj) (a:Nat) o,l[a]?=some o→Gt.nthO l a=o:=by
     intro l
     induction l with
     | nil=>intro a o e;injection e
     | cons x l ih=>intro a o e;cases a with
      | zero=>exact Option.some.inj e
      | succ a=>exact ih a o e
    unfold hM
    rw [this _ _ _ hn];rfl
   exact v9 (C:=cx w h0 ρ) (fd:=hM w.params i) X (X _ _ hk) (by rw [hd]) hf h.2
end Gh
end
section
namespace Gh
open PySem PyProof.Rows PySem.W
section
noncomputable def vL (c d:Cell):Cell:=@Cell.rec (fun ξ=>Cell) d (fun w o=>.ob w o) c
noncomputable def mrg (a:T):T→T:=@Tr.rec Cell (fun ξ=>T→T) (fun b=>b) (fun v ξ ξ l r b=>@Tr.rec Cell (fun ξ=>T) (.node v (l .nil) (r .nil)) (fun v' l' r' ξ ξ=>.node (vL v v') (l l') (r r')) b) a
noncomputable def dj (c d:Cell):Bool:=@Cell.rec (fun ξ=>Bool) true (fun w ξ=>@Bool.rec (fun ξ=>Bool) true (@Cell.rec (fun ξ=>Bool) true (fun ξ ξ=>false) d) w) c
noncomputable def aw (a:T):T→Bool:=@Tr.rec Cell (fun ξ=>T→Bool) (fun ξ=>true) (fun v ξ ξ l r b=>@Tr.rec Cell (fun ξ=>Bool) true (fun v' l' r' ξ ξ=>dj v v'&&(l l'&&r r')) b) a
end
theorem bF (g:Ps):at_ .nil g=.no:=Tr.get_nil g
theorem dT:∀ (g:Ps) (a b:T),at_ (mrg a b) g=vL (at_ a g) (at_ b g)
 | g,.nil,b=>by rw [bF];rfl
 | .h,.node v l r,.nil=>by cases v<;>rfl
 | .o g,.node v l r,.nil=>(dT g l .nil).trans (by rw [bF];rfl)
 | .i g,.node v l r,.nil=>(dT g r .nil).trans (by rw [bF];rfl)
 | .h,.node v l r,.node v' l' r'=>rfl
 | .o g,.node v l r,.node v' l' r'=>dT g l l'
 | .i g,.node v l r,.node v' l' r'=>dT g r r'
theorem eV:∀ (g:Ps) {a b:T} {o:O},aw a b=true→at_ a g=.ob true o→at_ b g=.no
 | g,.nil,b,o,_,e=>by rw [bF] at e;injection e
 | g,.node v l r,.nil,o,_,e=>bF g
 | .h,.node v l r,.node v' l' r',o,d,e=>by
  have d:=(Bool.and_eq_true_iff.mp (show (dj v v'&&(aw l l'&&aw r r'))=true from d)).1
  rw [show v=.ob true o from e] at d
  cases hv:v' with
  | no=>rfl
  | ob w o=>rw [hv] at d;exact (Bool.false_ne_true d).elim
 | .o g,.node v l r,.node v' l' r',o,d,e =>
  have d:=(Bool.and_eq_true_iff.mp (Bool.and_eq_true_iff.mp (show (dj v v'&&(aw l l'&&aw r r'))=true from d)).2).1
  eV g (a:=l) (b:=l') d e
 | .i g,.node v l r,.node v' l' r',o,d,e =>
  have d:=(Bool.and_eq_true_iff.mp (Bool.and_eq_true_iff.mp (show (dj v v'&&(aw l l'&&aw r r'))=true from d)).2).2
  eV g (a:=r) (b:=r') d e
section
variable {C:Cx} {ι ι1:Im} {σ σ1:St} {h h1:Heap} {a b:T} {n n1:Ps}
theorem SR.mrg (A:SR C ι ⟨a,n⟩ h) (B:SR C ι ⟨b,n⟩ h):SR C ι ⟨mrg a b,n⟩ h:=by
 refine ⟨A.dom,A.apart,fun g w o e=>?_,A.base⟩
 change at_ (Gh.mrg a b) g=_ at e
 rw [dT] at e
 cases q:at_ a g with
 | no=>rw [q] at e;exact B.obs g w o e
 | ob w' o'=>rw [q] at e;exact A.obs g w o (q.trans e)
theorem SR.left (A:SR C ι ⟨Gh.mrg a b,n⟩ h):SR C ι ⟨a,n⟩ h:=by
 refine ⟨A.dom,A.apart,fun g w o e=>A.obs g w o ?_,A.base⟩
 show at_ (Gh.mrg a b) g=_
 rw [dT,show at_ a g=_ from e];rfl
theorem SR.frame (R:SR C ι σ h) (R1:SR C ι1 σ1 h1) (S:SS X0 ι σ h ι1 σ1 h1) (B:SR C ι ⟨b,n⟩ h) (d:aw σ.h b=true):SR C ι1 ⟨b,σ1.n⟩ h1:=by
 refine ⟨R1.dom,R1.apart,fun g w o e=>?_,R1.base⟩
 obtain ⟨p,i,r⟩:=B.obs g w o e
 refine ⟨p,S.ext _ _ i,r.mono S.ext (S.tk R x0T) (fun o' e'=>S.keep _ _ e' (fun x=>x) ?_) fun o' e'=>S.keep _ _ e' (fun x=>x) ?_⟩
 all_goals
  rintro ⟨g',p',o',e1,i',z⟩
  by_cases c:g'=g
  ·subst c
   have:=eV g' d e1
   rw [show at_ b g'=_ from e] at this
   injection this
  ·have ap:=R.apart g' g p' p i' i c
   rcases z with z | ⟨z,_⟩
   ·first | exact ap.1 z.symm | exact ap.2.1 z.symm
   ·first | exact ap.2.2.1 z.symm | exact ap.2.2.2 z.symm
end
section
noncomputable def gG (p:Ps):Nat:=@Ps.rec (fun ξ=>Nat) 1 (fun ξ n=>Nat.mul 2 n) (fun ξ n=>Nat.succ (Nat.mul 2 n)) p
noncomputable def fT (g n:Ps):Bool:=Nat.ble (Nat.succ (gG g)) (gG n)
noncomputable def cut (ι:Im) (n:Ps) (f:Ps→Ps):Im:=fun g=>if g.num < n.num then ι (f g) else none
noncomputable def wA (v:V) (d:Bool) (k:Nat→Bool):Bool:=@V.rec (fun ξ=>Bool) (fun ξ=>PUnit) d d (fun ξ=>d) (fun ξ ξ=>d) (fun ξ=>d) k (fun ξ ξ=>d) (fun ξ=>d) (fun ξ=>d) (fun ξ=>d) (fun ξ=>d) (fun ξ=>d) ⟨⟩ (fun ξ ξ ξ ξ=>⟨⟩) v
noncomputable def ckB (v:V) (d:Bool) (k:Ps→Bool):Bool:=mB v d k
noncomputable def iEq (a b:Int):Bool:=@Int.rec (fun ξ=>Bool) (fun m=>@Int.rec (fun ξ=>Bool) (fun n=>Nat.beq m n) (fun ξ=>false) b) (fun m=>@Int.rec (fun ξ=>Bool) (fun ξ=>false) (fun n=>Nat.beq m n) b) a
noncomputable def ile (m:Option Nat) (o:Int) (s:Nat) (o':Int) (s':Nat):Bool:=@Bool.rec (fun ξ=>Bool) (@Option.rec Nat (fun ξ=>Bool) false (fun k=>Nat.beq s 1&&(Nat.beq s' 0&&iEq (Int.add o (Int.ofNat k)) o')) m) true (Nat.beq s s'&&iEq o o')
noncomputable def cH {α β:Type} (f:α→β→Bool) (l:List α):List β→Bool:=@List.rec α (fun ξ=>List β→Bool) (fun m=>@List.rec β (fun ξ=>Bool) true (fun ξ ξ ξ=>false) m) (fun a ξ ih m=>@List.rec β (fun ξ=>Bool) false (fun b t ξ=>f a b&&ih t) m) l
noncomputable def vle (m:Option Nat) (n:Ps) (f:Ps→Ps) (a:V):V→Bool:=@V.rec (fun ξ=>V→Bool) (fun ξ=>List V→Bool)
 (fun ξ=>false) (fun b=>jS b true false) (fun x b=>gY b false fun y=>bEq x y) (fun o s b=>am b false fun o' s'=>ile m o s o' s') (fun i b=>bG b false fun j=>Nat.beq i j) (fun k b=>wA b false fun k'=>Nat.beq k k')
 (fun ξ ih b=>aQ b false ih) (fun g b=>aC b false fun g'=>pEq (f g) g'&&fT g n) (fun p b=>uO b false (pEq p)) (fun p b=>mB b false (pEq p)) (fun i b=>uP b false (Nat.beq i)) (fun p b=>lg b false (pEq p))
 (fun l=>@List.rec V (fun ξ=>Bool) true (fun ξ ξ ξ=>false) l) (fun ξ ξ ih ihs l=>@List.rec V (fun ξ=>Bool) false (fun w t ξ=>ih w&&ihs t) l) a
end
noncomputable def nk (v:V):Bool:=@V.rec (fun ξ=>Bool) (fun ξ=>PUnit) true true (fun ξ=>true) (fun ξ ξ=>false) (fun ξ=>false) (fun ξ=>true) (fun ξ ξ=>false) (fun ξ=>true) (fun ξ=>true) (fun ξ=>true) (fun ξ=>true) (fun ξ=>true) ⟨⟩ (fun ξ ξ ξ ξ=>⟨⟩) v
theorem ik {C:Cx} {v:V} (h:nk v=true):(∀ k,¬ bE C v k)∧(∀ k,¬ eW C v k)∧∀ k,¬ di C v k:=by
 cases v<;>first | exact (Bool.false_ne_true h).elim | exact ⟨fun ξ c=>c,fun ξ c=>c,fun ξ c=>by obtain ⟨_,_,_,c,_⟩:=c;injection c⟩
theorem b8:∀ g:Ps,gG g=g.num
 | .h=>rfl
 | .o g=>by show Nat.mul 2 (gG g)=_;rw [b8 g];rfl
 | .i g=>by show Nat.succ (Nat.mul 2 (gG g))=_;rw [b8 g];rfl
theorem pK {g n:Ps} (h:fT g n=true):g.num < n.num:=by
 have:=natble.mp h
 rw [b8,b8] at this
 exact this
theorem pB {ι:Im} {n g:Ps} {f:Ps→Ps} {p} (h:fT g n=true) (e:ι (f g)=some p):cut ι n f g=some p:=by unfold cut;rw [if_pos (pK h)];exact e
theorem bY {ι:Im} {n g:Ps} {f:Ps→Ps} {p} (e:cut ι n f g=some p):g.num < n.num∧ι (f g)=some p:=by
 unfold cut at e
 split at e
 ·exact ⟨by assumption,e⟩
 ·injection e
theorem o8 {a b:Int} (h:iEq a b=true):a=b:=by
 cases a<;>cases b<;>first | exact congrArg _ (natbeq.mp h) | exact (Bool.false_ne_true h).elim
theorem bw {α β:Type} {f:α→β→Bool}:∀ {l:List α} {m:List β},cH f l m=true→F2 (fun a b=>f a b=true) l m
 | [],[],_=>.nil
 | [],_ :: _,h=>(Bool.false_ne_true h).elim
 | _ :: _,[],h=>(Bool.false_ne_true h).elim
 | a :: l,b :: m,h=>by
  have h:=Bool.and_eq_true_iff.mp (show (f a b&&cH f l m)=true from h)
  exact .cons h.1 (bw h.2)
theorem lA {m:Option Nat} {n:Ps} {f:Ps→Ps} {vs:List V} {b:V}:vle m n f (.tup vs) b=aQ b false fun l=>cH (vle m n f) vs l:=by
 have H:∀ (vs l:List V),@V.rec_1 (fun ξ=>V→Bool) (fun ξ=>List V→Bool)
   (fun ξ=>false) (fun b=>jS b true false) (fun x b=>gY b false fun y=>bEq x y) (fun o s b=>am b false fun o' s'=>ile m o s o' s') (fun i b=>bG b false fun j=>Nat.beq i j) (fun k b=>wA b false fun k'=>Nat.beq k k')
   (fun ξ ih b=>aQ b false ih) (fun g b=>aC b false fun g'=>pEq (f g) g'&&fT g n) (fun p b=>uO b false (pEq p)) (fun p b=>mB b false (pEq p)) (fun i b=>uP b false (Nat.beq i)) (fun p b=>lg b false (pEq p))
   (fun l=>@List.rec V (fun ξ=>Bool) true (fun ξ ξ ξ=>false) l) (fun ξ ξ ih ihs l=>@List.rec V (fun ξ=>Bool) false (fun w t ξ=>ih w&&ihs t) l) vs l=cH (vle m n f) vs l:=by
  intro vs
  induction vs with
  | nil=>intro l;cases l<;>rfl
  | cons v vs ih=>intro l;cases l with
   | nil=>rfl
   | cons w t=>exact congrArg (vle m n f v w&&·) (ih t)
 cases b<;>first | rfl | exact H _ _
theorem o6 {C:Cx} {m:Option Nat} {o o':Int} {s s':Nat} (ρk:RhoOk C) (hm:∀ k,m=some k→C.ρ 1=(k:Int)) (h:ile m o s o' s'=true):o+C.ρ s=o'+C.ρ s':=by
 have h:@Bool.rec (fun ξ=>Bool) (@Option.rec Nat (fun ξ=>Bool) false (fun k=>Nat.beq s 1&&(Nat.beq s' 0&&iEq (Int.add o (Int.ofNat k)) o')) m) true (Nat.beq s s'&&iEq o o')=true:=h
 cases q:(Nat.beq s s'&&iEq o o') with
 | true =>
  have q:=Bool.and_eq_true_iff.mp q
  rw [natbeq.mp q.1,o8 q.2]
 | false =>
  rw [q] at h
  cases m with
  | none=>exact (Bool.false_ne_true h).elim
  | some k =>
   have h:=Bool.and_eq_true_iff.mp (show (Nat.beq s 1&&(Nat.beq s' 0&&iEq (Int.add o (Int.ofNat k)) o'))=true from h)
   have h2:=Bool.and_eq_true_iff.mp h.2
   rw [natbeq.mp h.1,natbeq.mp h2.1,ρk.zero,hm k rfl,← o8 h2.2]
   show o+(k:Int)=(o+(k:Int))+0
   omega
section
variable {C:Cx} {ι:Im} {h:Heap} {m:Option Nat} {n:Ps} {f:Ps→Ps} (ρk:RhoOk C) (hm:∀ k,m=some k→C.ρ 1=(k:Int))
include ρk hm
set_option tactic.hygienic true in
theorem a7 {b:V} {x:Value} (r:VR C ι h b x):∀ {a:V},vle m n f a b=true→VR C (cut ι n f) h a x:=by
 induction r with
 | none=>intro a e;cases a<;>first | exact .none | exact (Bool.false_ne_true e).elim
 | @bool y =>
  intro a e
  cases a<;>first | exact (Bool.false_ne_true e).elim | skip
  case bool x=>cases x<;>cases y<;>first | exact .bool | exact (Bool.false_ne_true e).elim
 | int hz =>
  intro a e
  cases a<;>first | exact (Bool.false_ne_true e).elim | skip
  case int o s=>exact .int (hz.trans (o6 ρk hm e).symm)
 | @str j =>
  intro a e
  cases a<;>first | exact (Bool.false_ne_true e).elim | skip
  case str.str z i=>rw [natbeq.mp (show Nat.beq i j=true from e)];exact .str z
 | @anyStr k' =>
  intro a e
  cases a<;>first | exact (Bool.false_ne_true e).elim | skip
  case anyStr.anyStr z k=>rw [natbeq.mp (show Nat.beq k k'=true from e)];exact .anyStr z
 | @tup vs ad items ht hl _ ih =>
  intro a e
  cases a<;>first | exact (Bool.false_ne_true e).elim | skip
  case tup l =>
   rw [lA] at e
   have q:=bw (show cH (vle m n f) l vs=true from e)
   refine .tup ht (q.length.trans hl) fun i v x e1 e2=>?_
   obtain ⟨w,e3,e4⟩:=q.at e1
   exact ih i w x e3 e2 e4
 | @ref g ad d e0 =>
  intro a e
  cases a<;>first | exact (Bool.false_ne_true e).elim | skip
  case ref g' =>
   have e:=Bool.and_eq_true_iff.mp (show (pEq (f g') g&&fT g' n)=true from e)
   have e1:=aW e.1
   exact .ref (pB e.2 (e1▸e0))
 | @fn i =>
  intro a e
  cases a<;>first | exact (Bool.false_ne_true e).elim | skip
  case fn j=>rw [aW (show pEq j i=true from e)];exact .fn
 | @cls i =>
  intro a e
  cases a<;>first | exact (Bool.false_ne_true e).elim | skip
  case cls j=>rw [aW (show pEq j i=true from e)];exact .cls
 | @bi i =>
  intro a e
  cases a<;>first | exact (Bool.false_ne_true e).elim | skip
  case bi j=>rw [natbeq.mp (show Nat.beq j i=true from e)];exact .bi
 | @gd i z =>
  intro a e
  cases a<;>first | exact (Bool.false_ne_true e).elim | skip
  case gd j=>rw [aW (show pEq j i=true from e)];exact .gd z
omit ρk hm in
theorem gb {a b:V} (e:vle m n f a b=true):(∃ o s o' s',a=.int o s∧b=.int o' s'∧ile m o s o' s'=true)∨(∃ i,a=.str i∧b=.str i)∨(∃ l l',a=.tup l∧b=.tup l'∧F2 (fun a b=>vle m n f a b=true) l l')∨(nk a=true∧nk b=true):=by
 cases a with
 | int o s =>
  refine ct fun ng=>?_
  obtain ⟨o',s',rfl,e⟩:=ae (show am b false (fun o' s'=>ile m o s o' s')=true from e) nofun
  refine ng ?_
  exact .inl ⟨_,_,_,_,rfl,rfl,e⟩
 | str i =>
  obtain ⟨j,rfl,e⟩:=bt (show bG b false (fun j=>Nat.beq i j)=true from e) nofun
  exact .inr (.inl ⟨i,rfl,by rw [natbeq.mp e]⟩)
 | tup l =>
  rw [lA] at e
  obtain ⟨l',rfl,e⟩:=br e nofun
  exact .inr (.inr (.inl ⟨_,_,rfl,rfl,bw e⟩))
 | unb=>exact (Bool.false_ne_true e).elim
 | _=>exact .inr (.inr (.inr ⟨rfl,by cases b<;>first | rfl | exact e⟩))
set_option tactic.hygienic true in
theorem lB {a b:V} (e:vle m n f a b=true) (k:Int):bE C a k↔bE C b k:=by
 rcases gb e with ⟨o,s,o',s',rfl,rfl,e⟩ | ⟨i,rfl,rfl⟩ | ⟨l,l',rfl,rfl,_⟩ | ⟨ha,hb⟩
 ·show k=_↔k=_
  rw [o6 ρk hm e]
 ·exact Iff.rfl
 ·exact Iff.rfl
 ·exact iff_of_false ((ik ha).1 k) ((ik hb).1 k)
omit ρk hm in
set_option tactic.hygienic true in
theorem vn {a b:V} (e:vle m n f a b=true) (k:Str):eW C a k↔eW C b k:=by
 rcases gb e with ⟨o,s,o',s',rfl,rfl,e⟩ | ⟨i,rfl,rfl⟩ | ⟨l,l',rfl,rfl,_⟩ | ⟨ha,hb⟩
 ·exact Iff.rfl
 ·exact Iff.rfl
 ·exact Iff.rfl
 ·exact iff_of_false ((ik ha).2.1 k) ((ik hb).2.1 k)
theorem lz {l l':List V} (q:F2 (fun a b=>vle m n f a b=true) l l'):∀ k,cT C l k↔cT C l' k:=by
 induction q with
 | nil=>intro k;exact Iff.rfl
 | cons e _ ih =>
  intro k
  cases k with
  | nil=>exact Iff.rfl
  | cons x k=>exact and_congr (lB ρk hm e x) (ih k)
omit ρk hm in
theorem F2.flip {α β:Type} {R:α→β→Prop} {l:List α} {k:List β} (q:F2 R l k):F2 (fun a b=>R b a) k l:=by
 induction q with
 | nil=>exact .nil
 | cons a _ ih=>exact .cons a ih
omit ρk hm in
theorem j2 {E:V→V→Prop} (hI:∀ a b k,E a b→bE C a k→bE C b k) (hT:∀ l b z,E (.tup l) b→cT C l z→∃ l',b=.tup l'∧cT C l' z) {l l':List V} (q:F2 E l l') {k:bu} (h:di C (.tup l) k):di C (.tup l') k:=by
 obtain ⟨a,b,t,e,h1,h2,h3⟩:=h
 injection e with e;subst e
 obtain ⟨a',_,rfl,e1,q⟩:=q.c1
 obtain ⟨b',t',rfl,e2,q⟩:=q.c1
 refine ⟨a',b',t',rfl,hI _ _ _ e1 h1,hI _ _ _ e2 h2,?_⟩
 rcases h3 with ⟨rfl,z⟩ | ⟨l,m,rfl,z,d⟩
 ·exact .inl ⟨q.n1,z⟩
 ·obtain ⟨b,rfl,e3⟩:=q.o1
  obtain ⟨l',rfl,d⟩:=hT _ _ _ e3 d
  exact .inr ⟨_,_,rfl,z,d⟩
set_option tactic.hygienic true in
theorem vo {a b:V} (e:vle m n f a b=true) (k:bu):di C a k↔di C b k:=by
 rcases gb e with ⟨o,s,o',s',rfl,rfl,e⟩ | ⟨i,rfl,rfl⟩ | ⟨l,l',rfl,rfl,q⟩ | ⟨ha,hb⟩
 ·exact iff_of_false (fun c=>by obtain ⟨_,_,_,c,_⟩:=c;injection c) fun c=>by obtain ⟨_,_,_,c,_⟩:=c;injection c
 ·exact Iff.rfl
 ·refine ⟨j2 (fun a b k e=>(lB ρk hm e k).mp) (fun l b z e d=>?_) q,j2 (fun a b k e=>(lB ρk hm e k).mpr) (fun l b z e d=>?_) q.flip⟩ <;>
  rcases gb e with ⟨o,s,o',s',c,c',e⟩ | ⟨i,c,c'⟩ | ⟨l,l',c,c',q⟩ | ⟨c,c'⟩
  ·injection c
  ·injection c
  ·injection c with c;subst c c';exact ⟨_,rfl,(lz ρk hm q z).mp d⟩
  ·injection c
  ·injection c'
  ·injection c'
  ·injection c' with c';subst c c';exact ⟨_,rfl,(lz ρk hm q z).mpr d⟩
  ·injection c'
 ·exact iff_of_false ((ik ha).2.2 k) ((ik hb).2.2 k)
end
end Gh
end
section
namespace Gh
open PySem PyProof.Rows PySem.W
section
noncomputable def v7 {α:Type} (l:List α):Bool:=@List.rec α (fun ξ=>Bool) true (fun ξ ξ ξ=>false) l
noncomputable def i9 (m:Option Nat) (n:Ps) (f:Ps→Ps) (may:List V) (v:V):Bool:=@List.rec V (fun ξ=>Bool) false (fun u ξ ih=>@Bool.rec (fun ξ=>Bool) ih true (vle m n f u v)) may
noncomputable def dle (m:Option Nat) (n:Ps) (f:Ps→Ps) (may:List V) (k:List (V×V)):List (V×V)→Bool:=@List.rec (V×V) (fun ξ=>List (V×V)→Bool) (fun kvs=>v7 kvs)
 (fun p' ξ ih kvs=>@List.rec (V×V) (fun ξ=>Bool) (i9 m n f may p'.1&&ih []) (fun p t ξ=>@Bool.rec (fun ξ=>Bool) (i9 m n f may p'.1&&ih (p :: t)) (vle m n f p.2 p'.2&&ih t) (vle m n f p.1 p'.1)) kvs) k
noncomputable def lX (m:Option Nat) (n:Ps) (f:Ps→Ps) (v:V) (ws:List V):Bool:=@List.rec V (fun ξ=>Bool) false (fun u ξ ih=>@Bool.rec (fun ξ=>Bool) ih true (vle m n f v u)) ws
noncomputable def gA (m:Option Nat) (n:Ps) (f:Ps→Ps) (may:List V) (l:List V):Bool:=@List.rec V (fun ξ=>Bool) true (fun v ξ ih=>i9 m n f may v&&ih) l
noncomputable def ple (m:Option Nat) (n:Ps) (f:Ps→Ps) (p q:V×V):Bool:=vle m n f p.1 q.1&&vle m n f p.2 q.2
noncomputable def fle (m:Option Nat) (n:Ps) (f:Ps→Ps) (p q:Nat×V):Bool:=Nat.beq p.1 q.1&&vle m n f p.2 q.2
noncomputable def iq (m:Option Nat) (n:Ps) (f:Ps→Ps) (at':Nat→V) (l:List (Nat×V)):Bool:=@List.rec (Nat×V) (fun ξ=>Bool) true (fun p ξ ih=>vle m n f p.2 (at' p.1)&&ih) l
noncomputable def iD (m:Option Nat) (n:Ps) (f:Ps→Ps) (ws:List V) (l:List V):Bool:=@List.rec V (fun ξ=>Bool) true (fun v ξ ih=>lX m n f v ws&&ih) l
noncomputable def ole (m:Option Nat) (n:Ps) (f:Ps→Ps) (a b:O):Bool:=@O.rec (fun ξ=>Bool)
 (fun k vs=>@O.rec (fun ξ=>Bool) (fun k' ws=>Nat.beq k k'&&cH (vle m n f) vs ws) (fun ξ ξ ξ=>false) (fun ξ=>false) false (fun ξ ξ ξ=>false) (fun ξ ξ=>false) (fun ξ ξ ξ=>false) (fun ξ ξ=>false) (fun ξ=>false) b)
 (fun k pre suf=>@O.rec (fun ξ=>Bool) (fun k' ws=>@Option.rec Nat (fun ξ=>Bool) false (fun j=>Nat.beq k (Nat.add (len pre) (len suf))&&(Nat.beq k' (Nat.add k j)&&(cH (vle m n f) pre (jz ws (len pre))&&cH (vle m n f) suf (j1 ws (Nat.add (len pre) j))))) m)
  (fun k' pre' suf'=>Nat.beq k k'&&(cH (vle m n f) pre pre'&&cH (vle m n f) suf suf')) (fun ξ=>false) false (fun ξ ξ ξ=>false) (fun ξ ξ=>false) (fun ξ ξ ξ=>false) (fun ξ ξ=>false) (fun ξ=>false) b)
 (fun its=>@O.rec (fun ξ=>Bool) (fun ξ ws=>iq m n f (nth ws) its) (fun ξ ξ ξ=>false) (fun its'=>iq m n f (fun f=>aA f its') its) false (fun ξ ξ ξ=>false) (fun ξ ξ=>false) (fun ξ ξ ξ=>false) (fun ξ ξ=>false) (fun ξ=>false) b)
 (@O.rec (fun ξ=>Bool) (fun ξ ξ=>false) (fun ξ ξ ξ=>false) (fun ξ=>false) true (fun ξ ξ ξ=>false) (fun ξ ξ=>false) (fun ξ ξ ξ=>false) (fun ξ ξ=>false) (fun ξ=>false) b)
 (fun k kvs may=>@O.rec (fun ξ=>Bool) (fun ξ ξ=>false) (fun ξ ξ ξ=>false) (fun ξ=>false) false (fun k' kvs' may'=>Nat.ble k' k&&(dle m n f may kvs' kvs&&gA m n f may may')) (fun ξ ξ=>false) (fun ξ ξ ξ=>false) (fun ξ ξ=>false) (fun ξ=>false) b)
 (fun k kvs=>@O.rec (fun ξ=>Bool) (fun ξ ξ=>false) (fun ξ ξ ξ=>false) (fun ξ=>false) false (fun ξ ξ ξ=>false) (fun k' kvs'=>Nat.ble k' k&&dle m n f [] kvs' kvs) (fun ξ ξ ξ=>false) (fun ξ ξ=>false) (fun ξ=>false) b)
 (fun k kvs may=>@O.rec (fun ξ=>Bool) (fun ξ ξ=>false) (fun ξ ξ ξ=>false) (fun ξ=>false) false (fun ξ ξ ξ=>false) (fun ξ ξ=>false) (fun k' kvs' may'=>Nat.ble k' k&&(dle m n f may kvs' kvs&&gA m n f may may')) (fun ξ ξ=>false) (fun ξ=>false) b)
 (fun c fs=>@O.rec (fun ξ=>Bool) (fun ξ ξ=>false) (fun ξ ξ ξ=>false) (fun ξ=>false) false (fun ξ ξ ξ=>false) (fun ξ ξ=>false) (fun ξ ξ ξ=>false) (fun c' fs'=>pEq c c'&&cH (fle m n f) fs fs') (fun ξ=>false) b)
 (fun has=>@O.rec (fun ξ=>Bool) (fun ξ ws=>cG isI ws&&iD m n f ws has) (fun ξ ξ ξ=>false) (fun ξ=>false) false (fun ξ ξ ξ=>false) (fun ξ ξ=>false) (fun ξ ξ ξ=>false) (fun ξ ξ=>false) (fun has'=>iD m n f has' has) b) a
noncomputable def cle (m:Option Nat) (n:Ps) (f:Ps→Ps) (g:Ps) (c d:Cell):Bool:=@Cell.rec (fun ξ=>Bool) true (fun ξ o=>@Cell.rec (fun ξ=>Bool) false (fun ξ o'=>fT g n&&ole m n f o o') d) c
noncomputable def leT (m:Option Nat) (n:Ps) (f:Ps→Ps) (a b:T):Bool:=gZ (fun g c=>cle m n f g c (at_ b (f g))) a
end
theorem tG {m:Option Nat} {n:Ps} {f:Ps→Ps} {g:Ps} {a b:T} {w:Bool} {o:O} (h:leT m n f a b=true) (e:at_ a g=.ob w o):fT g n=true∧∃ w' o',at_ b (f g)=.ob w' o'∧ole m n f o o'=true:=by
 have z:=bZ h (d:=.no) (fun ξ=>rfl) g
 rw [show Tr.get .no g a=_ from e] at z
 cases q:at_ b (f g) with
 | no=>rw [q] at z;exact (Bool.false_ne_true z).elim
 | ob w' o' =>
  rw [q] at z
  have z:=Bool.and_eq_true_iff.mp (show (fT g n&&ole m n f o o')=true from z)
  exact ⟨z.1,w',o',rfl,z.2⟩
theorem gi {m:Option Nat} {n:Ps} {f:Ps→Ps} {v:V}:∀ {may:List V},i9 m n f may v=true→∃ u∈may,vle m n f u v=true
 | [],h=>(Bool.false_ne_true h).elim
 | u :: may,h=>by
  have h:@Bool.rec (fun ξ=>Bool) (i9 m n f may v) true (vle m n f u v)=true:=h
  cases q:vle m n f u v with
  | true=>exact ⟨u,List.mem_cons_self,q⟩
  | false=>rw [q] at h;obtain ⟨w,a,b⟩:=gi h;exact ⟨w,List.mem_cons_of_mem _ a,b⟩
theorem jM {m:Option Nat} {n:Ps} {f:Ps→Ps} {may:List V}:∀ {l:List V},gA m n f may l=true→∀ v∈l,∃ u∈may,vle m n f u v=true
 | [],h,v,hv=>nomatch hv
 | w :: l,h,v,hv=>by
  have h:=Bool.and_eq_true_iff.mp (show (i9 m n f may w&&gA m n f may l)=true from h)
  rcases List.mem_cons.mp hv with c | hv
  ·rw [c];exact gi h.1
  ·exact jM h.2 v hv
theorem jk {m:Option Nat} {n:Ps} {f:Ps→Ps} {may:List V}:∀ {kvs' kvs:List (V×V)},dle m n f may kvs' kvs=true →
  (∀ p∈kvs,∃ p'∈kvs',vle m n f p.1 p'.1=true∧vle m n f p.2 p'.2=true)∧(∀ p'∈kvs',(∃ p∈kvs,vle m n f p.1 p'.1=true)∨∃ u∈may,vle m n f u p'.1=true) ∧
   ∀ {P P':V×V→V×V→Prop},(∀ p q p' q',vle m n f p.1 p'.1=true→vle m n f q.1 q'.1=true→P' p' q'→P p q)→kvs'.Pairwise P'→kvs.Pairwise P
 | [],[],_=>⟨fun p hp=>(nomatch hp),fun p hp=>(nomatch hp),fun ξ ξ=>.nil⟩
 | [],_ :: _,h=>(Bool.false_ne_true h).elim
 | p' :: l',[],h=>by
  have h:=Bool.and_eq_true_iff.mp (show (i9 m n f may p'.1&&dle m n f may l' [])=true from h)
  have ih:=jk h.2
  refine ⟨fun p hp=>(nomatch hp),fun q hq=>?_,fun ξ ξ=>.nil⟩
  rcases List.mem_cons.mp hq with c | hq
  ·rw [c];exact .inr (gi h.1)
  ·exact ih.2.1 q hq
 | p' :: l',p :: l,h=>by
  have h:@Bool.rec (fun ξ=>Bool) (i9 m n f may p'.1&&dle m n f may l' (p :: l)) (vle m n f p.2 p'.2&&dle m n f may l' l) (vle m n f p.1 p'.1)=true:=h
  cases q:vle m n f p.1 p'.1 with
  | true =>
   rw [q] at h
   have h:=Bool.and_eq_true_iff.mp (show (vle m n f p.2 p'.2&&dle m n f may l' l)=true from h)
   have ih:=jk h.2
   refine ⟨fun x hx=>?_,fun x hx=>?_,fun{P P'} hp hl=>?_⟩
   ·rcases List.mem_cons.mp hx with c | hx
    ·rw [c];exact ⟨p',List.mem_cons_self,q,h.1⟩
    ·obtain ⟨y,a,b⟩:=ih.1 x hx;exact ⟨y,List.mem_cons_of_mem _ a,b⟩
   ·rcases List.mem_cons.mp hx with c | hx
    ·rw [c];exact .inl ⟨p,List.mem_cons_self,q⟩
    ·exact (ih.2.1 x hx).imp (fun⟨y,a,b⟩=>⟨y,List.mem_cons_of_mem _ a,b⟩) id
   ·have hl:=List.pairwise_cons.mp hl
    refine List.pairwise_cons.mpr ⟨fun x hx=>?_,ih.2.2 hp hl.2⟩
    obtain ⟨y,a,b,_⟩:=ih.1 x hx
    exact hp _ _ _ _ q b (hl.1 y a)
  | false =>
   rw [q] at h
   have h:=Bool.and_eq_true_iff.mp (show (i9 m n f may p'.1&&dle m n f may l' (p :: l))=true from h)
   have ih:=jk h.2
   refine ⟨fun x hx=>?_,fun x hx=>?_,fun{P P'} hp hl=>ih.2.2 hp (List.pairwise_cons.mp hl).2⟩
   ·obtain ⟨y,a,b⟩:=ih.1 x hx;exact ⟨y,List.mem_cons_of_mem _ a,b⟩
   ·rcases List.mem_cons.mp hx with c | hx
    ·rw [c];exact .inr (gi h.1)
    ·exact ih.2.1 x hx
theorem DR.weaken {κ:Type} {den:V→κ→Prop} {R R':V→Value→Prop} {look:κ→Option Value} {m:Option Nat} {n:Ps} {f:Ps→Ps} {kvs kvs':List (V×V)} {may may':List V} (d:DR den R look kvs' may') (hd:∀ a b,vle m n f a b=true→∀ k,den a k↔den b k) (hR:∀ a b x,vle m n f a b=true→R b x→R' a x)
  (h:dle m n f may kvs' kvs=true) (hm:gA m n f may may'=true):DR den R' look kvs may:=by
 obtain ⟨h1,h2,h3⟩:=jk h
 refine ⟨fun p hp=>?_,h3 (fun p q p' q' e1 e2 z k a b=>z k ((hd _ _ e1 k).mp a) ((hd _ _ e2 k).mp b)) d.apart,fun k hk=>?_⟩
 ·refine ct fun ng=>?_
  obtain ⟨p',hp',e1,e2⟩:=h1 p hp
  obtain ⟨k,x,a,b,c⟩:=d.val p' hp'
  refine ng ?_
  exact ⟨k,x,(hd _ _ e1 k).mpr a,b,hR _ _ _ e2 c⟩
 ·rcases d.all k hk with ⟨p',hp',a⟩ | ⟨v,hv,a⟩
  ·rcases h2 p' hp' with ⟨p,hp,e⟩ | ⟨u,hu,e⟩
   ·exact .inl ⟨p,hp,(hd _ _ e k).mpr a⟩
   ·exact .inr ⟨u,hu,(hd _ _ e k).mpr a⟩
  ·obtain ⟨u,hu,e⟩:=jM hm v hv
   exact .inr ⟨u,hu,(hd _ _ e k).mpr a⟩
theorem gI {m:Option Nat} {n:Ps} {f:Ps→Ps} {at':Nat→V}:∀ {l:List (Nat×V)},iq m n f at' l=true→∀ i,aA i l≠.unb→vle m n f (aA i l) (at' i)=true
 | [],_,i,hi=>absurd rfl hi
 | p :: l,h,i,hi=>by
  have h:=Bool.and_eq_true_iff.mp (show (vle m n f p.2 (at' p.1)&&iq m n f at' l)=true from h)
  have e:aA i (p :: l)=@Bool.rec (fun ξ=>V) (aA i l) p.2 (Nat.beq p.1 i):=rfl
  cases q:Nat.beq p.1 i with
  | true=>rw [q] at e;rw [e,← natbeq.mp q];exact h.1
  | false=>rw [q] at e;rw [e] at hi ⊢;exact gI h.2 i hi
theorem fZ {m:Option Nat} {n:Ps} {f:Ps→Ps} {a b:V} (h:vle m n f a b=true):b≠.unb:=by
 rintro rfl
 cases a<;>exact Bool.false_ne_true h
theorem bj:∀ l:List V,len l=l.length
 | []=>rfl
 | _ :: l=>congrArg Nat.succ (bj l)
theorem gm:∀ (l:List V) (n:Nat),jz l n=l.take n
 | [],n=>by rw [List.take_nil];rfl
 | v :: l,0=>rfl
 | v :: l,n+1=>congrArg (v :: ·) (gm l n)
theorem gU:∀ (l:List V) (n:Nat),j1 l n=l.drop n
 | [],n=>by rw [List.drop_nil];rfl
 | v :: l,0=>rfl
 | v :: l,n+1=>gU l n
theorem F2.take {α β:Type} {R:α→β→Prop} {l:List α} {m:List β} (q:F2 R l m):∀ n,F2 R (l.take n) (m.take n):=by
 induction q with
 | nil=>intro n;rw [List.take_nil,List.take_nil];exact .nil
 | cons a f ih=>intro n;cases n with
  | zero=>exact .nil
  | succ n=>exact .cons a (ih n)
theorem F2.drop {α β:Type} {R:α→β→Prop} {l:List α} {m:List β} (q:F2 R l m):∀ n,F2 R (l.drop n) (m.drop n):=by
 induction q with
 | nil=>intro n;rw [List.drop_nil,List.drop_nil];exact .nil
 | cons a f ih=>intro n;cases n with
  | zero=>exact .cons a f
  | succ n=>exact ih n
theorem F2.comp {α β γ:Type} {R:α→β→Prop} {S:β→γ→Prop} {U:α→γ→Prop} (hU:∀ a b c,R a b→S b c→U a c) {l:List α} {m:List β} (q:F2 R l m):∀ {k:List γ},F2 S m k→F2 U l k:=by
 induction q with
 | nil=>intro k g;rw [g.n1];exact .nil
 | cons a f ih=>intro k g;obtain ⟨x,k,rfl,b,g⟩:=g.c1;exact .cons (hU _ _ _ a b) (ih g)
section
variable {C:Cx} {ι:Im} {h:Heap} {m:Option Nat} {n:Ps} {f:Ps→Ps} (ρk:RhoOk C) (hm:∀ k,m=some k→C.ρ 1=(k:Int))
include ρk hm
theorem dX {vs ws:List V} {xs:List Value} (q:F2 (fun a b=>vle m n f a b=true) vs ws) (r:VRs C ι h ws xs):VRs C (cut ι n f) h vs xs :=
 F2.comp (R:=fun a b=>vle m n f a b=true) (S:=VR C ι h) (U:=VR C (cut ι n f) h) (fun ξ ξ ξ e r=>a7 ρk hm r e) q r
set_option tactic.hygienic true in
theorem uB {ws:List V} {items:List Value} (r:VRs C ι h ws items):cG isI ws=true→∃ ns,F2 (fun n v=>∃ t,v=Value.int n t) ns items∧∀ w∈ws,∃ k∈ns,bE C w k:=by
 induction r with
 | nil=>intro _;exact ⟨[],.nil,fun w hw=>nomatch hw⟩
 | @cons w x ws xs r _ ih =>
  intro hb
  refine ct fun ng=>?_
  obtain ⟨h1,h2⟩:=dg hb
  obtain ⟨n,t,rfl,hz⟩:=cZ h1 r
  obtain ⟨ns,f,hw⟩:=ih h2
  refine ng ?_
  refine ⟨_ :: ns,.cons ⟨_,rfl⟩ f,fun v hv=>?_⟩
  rcases List.mem_cons.mp hv with c | hv
  ·rw [c];exact ⟨_,List.mem_cons_self,hz⟩
  ·obtain ⟨k,a,b⟩:=hw v hv;exact ⟨k,List.mem_cons_of_mem _ a,b⟩
theorem gX {ws:List V}:∀ {l:List V},iD m n f ws l=true→∀ v∈l,∃ w∈ws,vle m n f v w=true
 | [],hh,v,hv=>nomatch hv
 | u :: l,hh,v,hv=>by
  have hh:=Bool.and_eq_true_iff.mp (show (lX m n f u ws&&iD m n f ws l)=true from hh)
  rcases List.mem_cons.mp hv with c | hv
  ·rw [c]
   have:∀ {ws:List V},lX m n f u ws=true→∃ w∈ws,vle m n f u w=true:=by
    intro ws
    induction ws with
    | nil=>intro z;exact (Bool.false_ne_true z).elim
    | cons w ws ih =>
     intro z
     have z:@Bool.rec (fun ξ=>Bool) (lX m n f u ws) true (vle m n f u w)=true:=z
     cases q:vle m n f u w with
     | true=>exact ⟨w,List.mem_cons_self,q⟩
     | false=>rw [q] at z;obtain ⟨w',a,b⟩:=ih z;exact ⟨w',List.mem_cons_of_mem _ a,b⟩
   exact this hh.1
  ·exact gX hh.2 v hv
theorem qK {fs fs':List (Nat×V)} (q:F2 (fun a b=>fle m n f a b=true) fs fs') (i:Nat):(aA i fs=.unb∧aA i fs'=.unb)∨vle m n f (aA i fs) (aA i fs')=true:=by
 induction q with
 | nil=>exact .inl ⟨rfl,rfl⟩
 | @cons p q l l' e _ ih =>
  have e:=Bool.and_eq_true_iff.mp (show (Nat.beq p.1 q.1&&vle m n f p.2 q.2)=true from e)
  have e1:aA i (p :: l)=@Bool.rec (fun ξ=>V) (aA i l) p.2 (Nat.beq p.1 i):=rfl
  have e2:aA i (q :: l')=@Bool.rec (fun ξ=>V) (aA i l') q.2 (Nat.beq q.1 i):=rfl
  rw [← natbeq.mp e.1] at e2
  cases c:Nat.beq p.1 i with
  | true=>rw [c] at e1 e2;rw [e1,e2];exact .inr e.2
  | false=>rw [c] at e1 e2;rw [e1,e2];exact ih
theorem tq {p:Addr×Addr} {a b:O} (r:OR C ι h p b) (e:ole m n f a b=true):OR C (cut ι n f) h p a:=by
 have hI:∀ a b,vle m n f a b=true→∀ k,bE C a k↔bE C b k:=fun a b e k=>lB ρk hm e k
 have hS:∀ a b,vle m n f a b=true→∀ k,eW C a k↔eW C b k:=fun a b e k=>vn e k
 have hR:∀ a b,vle m n f a b=true→∀ k,di C a k↔di C b k:=fun a b e k=>vo ρk hm e k
 have hV:∀ a b x,vle m n f a b=true→VR C ι h b x→VR C (cut ι n f) h a x:=fun a b x e r=>a7 ρk hm r e
 have bad:∀ {P:Prop},false=true→P:=fun c=>(Bool.false_ne_true c).elim
 cases a with
 | lst k vs =>
  cases b with
  | lst k' ws =>
   refine ct fun ng=>?_
   obtain ⟨items,t,l,r⟩:=r.lstI
   have e:=Bool.and_eq_true_iff.mp (show (Nat.beq k k'&&cH (vle m n f) vs ws)=true from e)
   have q:=bw e.2
   refine ng ?_
   exact .lst items t (by rw [natbeq.mp e.1,l,q.length]) (dX ρk hm q r)
  | _=>exact bad e
 | gap k pre suf =>
  cases b with
  | lst k' ws =>
   refine ct fun ng=>?_
   obtain ⟨items,t,l,r⟩:=r.lstI
   refine ng ?_
   cases m with
   | none=>exact bad e
   | some j =>
    have e:=Bool.and_eq_true_iff.mp (show (Nat.beq k (Nat.add (len pre) (len suf))&&(Nat.beq k' (Nat.add k j)&&(cH (vle (some j) n f) pre (jz ws (len pre))&&cH (vle (some j) n f) suf (j1 ws (Nat.add (len pre) j)))))=true from e)
    have e2:=Bool.and_eq_true_iff.mp e.2
    have e3:=Bool.and_eq_true_iff.mp e2.2
    have f1:=bw e3.1
    have f2:=bw e3.2
    rw [gm,bj] at f1
    rw [gU,bj] at f2
    have n1:=natbeq.mp e.1
    have n2:=natbeq.mp e2.1
    rw [bj,bj] at n1
    have n1:k=pre.length+suf.length:=n1
    have n2:k'=k+j:=n2
    have hl:=r.length
    obtain ⟨tn,t⟩:=t
    refine .gap (items.take pre.length) ((items.drop pre.length).take j) ((items.drop pre.length).drop j) [] ⟨tn,?_⟩ ?_ (fun ξ=>⟨rfl,n1⟩) (dX ρk hm f1 (F2.take r _)) ?_
    ·rw [List.append_nil,List.append_assoc,List.take_append_drop,List.take_append_drop];exact t
    ·rw [List.length_take,List.length_drop,hm j rfl]
     congr 1
     omega
    ·rw [List.drop_drop]
     exact dX ρk hm f2 (F2.drop r _)
  | gap k' pre' suf' =>
   refine ct fun ng=>?_
   obtain ⟨l,mm,r,tl,t,lm,lt,rp,rq⟩:=r.gapI
   have e:=Bool.and_eq_true_iff.mp (show (Nat.beq k k'&&(cH (vle m n f) pre pre'&&cH (vle m n f) suf suf'))=true from e)
   have e2:=Bool.and_eq_true_iff.mp e.2
   have f1:=bw e2.1
   have f2:=bw e2.2
   refine ng ?_
   refine .gap l mm r tl t lm (fun hk=>?_) (dX ρk hm f1 rp) (dX ρk hm f2 rq)
   rw [natbeq.mp e.1] at hk ⊢
   rw [f1.length,f2.length]
   exact lt hk
  | _=>exact bad e
 | plst its =>
  cases b with
  | lst k' ws =>
   refine ct fun ng=>?_
   obtain ⟨items,t,l,r⟩:=r.lstI
   have e:=gI (show iq m n f (nth ws) its=true from e)
   refine ng ?_
   refine .plst items t fun i hi=>?_
   have q:=e i hi
   obtain ⟨x,ex,rx⟩:=r.at (bI (fZ q))
   exact ⟨x,ex,a7 ρk hm rx q⟩
  | plst its' =>
   obtain ⟨items,t,g⟩:=r.plstI
   have e:=gI (show iq m n f (fun i=>aA i its') its=true from e)
   refine .plst items t fun i hi=>?_
   have q:=e i hi
   obtain ⟨x,ex,rx⟩:=g i (fZ q)
   exact ⟨x,ex,a7 ρk hm rx q⟩
  | _=>exact bad e
 | emp =>
  cases b with
  | emp=>exact .emp r.empI
  | _=>exact bad e
 | idct k kvs may =>
  cases b with
  | idct k' kvs' may' =>
   refine ct fun ng=>?_
   obtain ⟨R,t,l,d⟩:=r.idctI
   have e:=Bool.and_eq_true_iff.mp (show (Nat.ble k' k&&(dle m n f may kvs' kvs&&gA m n f may may'))=true from e)
   have e2:=Bool.and_eq_true_iff.mp e.2
   refine ng ?_
   exact .idct R t (Nat.le_trans l (natble.mp e.1)) (d.weaken hI hV e2.1 e2.2)
  | _=>exact bad e
 | sdct k kvs =>
  cases b with
  | sdct k' kvs' =>
   refine ct fun ng=>?_
   obtain ⟨R,t,l,d⟩:=r.sdctI
   have e:=Bool.and_eq_true_iff.mp (show (Nat.ble k' k&&dle m n f [] kvs' kvs)=true from e)
   refine ng ?_
   exact .sdct R t (Nat.le_trans l (natble.mp e.1)) (d.weaken hS hV e.2 rfl)
  | _=>exact bad e
 | kdct k kvs may =>
  cases b with
  | kdct k' kvs' may' =>
   refine ct fun ng=>?_
   obtain ⟨R,t,l,d⟩:=r.kdctI
   have e:=Bool.and_eq_true_iff.mp (show (Nat.ble k' k&&(dle m n f may kvs' kvs&&gA m n f may may'))=true from e)
   have e2:=Bool.and_eq_true_iff.mp e.2
   refine ng ?_
   exact .kdct R t (Nat.le_trans l (natble.mp e.1)) (d.weaken hR hV e2.1 e2.2)
  | _=>exact bad e
 | inst c fs =>
  cases b with
  | inst c' fs' =>
   refine ct fun ng=>?_
   obtain ⟨es,nn,a1,a2,a3,a4,a5⟩:=r.instI
   have e:=Bool.and_eq_true_iff.mp (show (pEq c c'&&cH (fle m n f) fs fs')=true from e)
   have q:=bw e.2
   have g:=qK ρk hm q
   refine ng ?_
   rw [aW e.1]
   refine .inst es nn a1 a2 ⟨a3.1.trans q.length.symm,fun r hr=>?_⟩ (fun i hi=>?_) fun i hi=>?_
   ·refine ct fun ng=>?_
    obtain ⟨j,hj,hg⟩:=List.getElem_of_mem hr
    obtain ⟨w,ew,ez⟩:=q.at (List.getElem?_eq_getElem hj)
    rw [hg] at ez
    have ez:=(Bool.and_eq_true_iff.mp (show (Nat.beq r.1 w.1&&vle m n f r.2 w.2)=true from ez)).2
    refine ng ?_
    intro c
    rw [c] at ez
    exact Bool.false_ne_true ez
   ·rcases g i with ⟨z,_⟩ | z
    ·exact absurd z hi
    ·obtain ⟨x,ex,rx⟩:=a4 i (fZ z)
     exact ⟨x,ex,a7 ρk hm rx z⟩
   ·rcases g i with ⟨_,z⟩ | z
    ·exact a5 i z
    ·rw [hi] at z;exact (Bool.false_ne_true z).elim
  | _=>exact bad e
 | bag has =>
  cases b with
  | lst k' ws =>
   refine ct fun ng=>?_
   obtain ⟨items,t,l,r⟩:=r.lstI
   have e:=Bool.and_eq_true_iff.mp (show (cG isI ws&&iD m n f ws has)=true from e)
   obtain ⟨ns,q,hw⟩:=uB ρk hm r e.1
   refine ng ?_
   refine .bag items ns t q fun v hv=>?_
   refine ct fun ng=>?_
   obtain ⟨w,hw1,e1⟩:=gX ρk hm e.2 v hv
   obtain ⟨k,a,b⟩:=hw w hw1
   refine ng ?_
   exact ⟨k,a,(hI _ _ e1 k).mpr b⟩
  | bag has' =>
   refine ct fun ng=>?_
   obtain ⟨items,ns,t,q,hw⟩:=r.bagI
   refine ng ?_
   refine .bag items ns t q fun v hv=>?_
   refine ct fun ng=>?_
   obtain ⟨w,hw1,e1⟩:=gX ρk hm (show iD m n f has' has=true from e) v hv
   obtain ⟨k,a,b⟩:=hw w hw1
   refine ng ?_
   exact ⟨k,a,(hI _ _ e1 k).mpr b⟩
  | _=>exact bad e
theorem SR.weaken {σ:St} {a:T} (R:SR C ι σ h) (hf:∀ a b,f a=f b→a=b) (e:leT m n f a σ.h=true):SR C (cut ι n f) ⟨a,n⟩ h:=by
 refine ⟨fun g p i=>?_,fun g g' p p' i i' c=>R.apart _ _ p p' (bY i).2 (bY i').2 fun z=>c (hf _ _ z),fun g w o q=>?_,R.base⟩
 ·have:=bY i
  exact ⟨this.1,(R.dom _ p this.2).2⟩
 ·refine ct fun ng=>?_
  obtain ⟨hb,w',o',e1,e2⟩:=tG e q
  obtain ⟨p,i,r⟩:=R.obs _ w' o' e1
  refine ng ?_
  exact ⟨p,pB hb i,tq ρk hm r e2⟩
end
end Gh
end
section
namespace Gh
open PySem
section
noncomputable abbrev i (n:Nat):V:=.int (Int.ofNat n) 0
noncomputable abbrev y (n:Nat):V:=.int (Int.ofNat n) 1
noncomputable abbrev t (l:List V):V:=.tup l
noncomputable abbrev r (n:Nat):V:=.ref (Ps.ofNat n)
noncomputable def mM (l:List Nat):List V→List (Nat×V):=@List.rec Nat (fun ξ=>List V→List (Nat×V)) (fun ξ=>[]) (fun k ξ ih vs=>@List.rec V (fun ξ=>List (Nat×V)) [] (fun v t ξ=>(k,v) :: ih t) vs) l
noncomputable def kc0 (l:List V):O:=.inst (.o (.o (.o .h))) (mM [72,39,42,50,423,424,425] l)
noncomputable def kc1 (l:List V):O:=.inst (.i .h) (mM [395,396,397,398,399] l)
noncomputable def kc2 (l:List V):O:=.inst (.o (.o .h)) (mM [405,57,74,56,202,40,60,406,407,43,50,409,53,410,411,68,412,54,413] l)
noncomputable def kc3 (l:List V):O:=.inst (.i (.o .h)) (mM [414,44,57,367,366,56,227] l)
noncomputable def kc4 (l:List V):O:=.inst (.o (.i .h)) (mM [415,44,57,366,56,416,417,418,61,60,419,421,64,66] l)
noncomputable def kc5 (l:List V):O:=.inst (.i (.i .h)) (mM [385,387,384,388] l)
noncomputable def idP (g:Ps):Ps:=g
noncomputable def swp (p q g:Ps):Ps:=@Bool.rec (fun ξ=>Ps) (@Bool.rec (fun ξ=>Ps) g p (pEq g q)) q (pEq g p)
noncomputable def E:=ev 200
noncomputable def ro (a:T):T:=@Tr.rec Cell (fun ξ=>T) .nil (fun v ξ ξ l r=>.node (@Cell.rec (fun ξ=>Cell) .no (fun ξ o=>.ob false o) v) l r) a
noncomputable def σ0:St:=⟨.nil,.h⟩
noncomputable def fnB (f:Fn):List GS:=@Fn.rec (fun ξ=>List GS) [] (fun ξ ξ b=>b) f
noncomputable def tkG (l:List GS):Nat→List GS:=@List.rec GS (fun ξ=>Nat→List GS) (fun ξ=>[]) (fun x ξ ih n=>@Nat.rec (fun ξ=>List GS) [] (fun k ξ=>x :: ih k) n) l
noncomputable def drG (l:List GS):Nat→List GS:=@List.rec GS (fun ξ=>Nat→List GS) (fun ξ=>[]) (fun x t ih n=>@Nat.rec (fun ξ=>List GS) (x :: t) (fun k ξ=>ih k) n) l
noncomputable def iA (m:Option Nat) (n:Ps) (f:Ps→Ps) (a b:List V):Bool:=cH (fun u v=>aP u true (vle m n f u v)) a b
structure Out where
 ok:Bool
 a:V
 b:V
noncomputable def leP (a b:Ps):Bool:=Nat.ble (gG a) (gG b)
noncomputable def fX (m:Option Nat) (n:Ps) (f:Ps→Ps) (Ls:List T) (h:T):Bool:=@List.rec T (fun ξ=>Bool) true (fun L ξ ih=>leT m n f L h&&ih) Ls
noncomputable def aE (m:Option Nat) (n:Ps) (f:Ps→Ps) (env:List V) (L:List T) (p q:Nat) (r:RS):Out:=@RS.rec (fun ξ=>Out) ⟨false,.unb,.unb⟩ (fun ρ σ=>⟨leP σ.n n&&(iA m n f env ρ&&fX m n f L σ.h),nth ρ p,nth ρ q⟩) (fun ξ ξ=>⟨false,.unb,.unb⟩) r
noncomputable def outR (n:Ps) (v:V) (L:List T) (r:RS):Bool:=@RS.rec (fun ξ=>Bool) false (fun ξ ξ=>false) (fun x σ=>leP σ.n n&&(vle none n idP v x&&fX none n idP L σ.h)) r
noncomputable def aR (n:Ps) (v:V) (L:List T) (r:RE):Bool:=@RE.rec (fun ξ=>Bool) false (fun x σ=>leP σ.n n&&(vle none n idP v x&&fX none n idP L σ.h)) r
noncomputable def tp (n:Ps) (v:V) (L:List T) (r:RE):Bool:=@RE.rec (fun ξ=>Bool) false (fun x σ=>vle none n idP v x&&fX none n idP L σ.h) r
noncomputable def wB:List GS:=fnB (Tr.get .no (.i (.o (.i (.o (.i (.o .h)))))) ft)
noncomputable def wB1:List GS:=tkG wB 12
noncomputable def wB2:List GS:=tkG (drG wB 12) 1
noncomputable def wB3:List GS:=tkG (drG wB 13) 1
noncomputable def wB4:List GS:=drG wB 14
noncomputable def nA:Ps:=Zam
noncomputable def nB:Ps:=.o (.o (.o ZB))
noncomputable def nC:Ps:=.o (.i (.o Zbo))
noncomputable def nR:Ps:=.i (.i (.o Zbo))
noncomputable def LA:T:=(.node (.ob true (kc0 [(r 1),(r 13),(r 15),(r 17),(r 10),(r 11),(i 0)])) (.node (.ob true (kc1 [(r 2),(r 3),(r 4),(r 5),(r 6)])) (.node (.ob true (.kdct 25 [((t [(i 1),(i 0)]),(i 0)),((t [(i 1),(i 1)]),(i 1)),((t [(i 1),(i 2)]),(i 2)),((t [(i 1),(i 3)]),(i 3)),((t [(i 1),(i 4)]),(i 4)),((t [(i 1),(i 5)]),(i 5)),((t [(i 1),(i 6)]),(i 6)),((t [(i 1),(i 7)]),(i 7)),((t [(i 1),(i 8)]),(i 8)),((t [(i 1),(i 9)]),(i 9)),((t [(i 1),(i 10)]),(i 10)),((t [(i 1),(i 11)]),(i 11)),((t [(i 1),(i 12)]),(i 12)),((t [(i 1),(i 13)]),(i 13)),((t [(i 1),(i 14)]),(i 14)),((t [(i 1),(i 15)]),(i 15)),((t [(i 6),(i 0)]),(y 16)),((t [(i 3),(i 8),(t [(y 16)])]),(y 17)),((t [(i 2),(i 37),(t [(y 16)])]),(y 18)),((t [(i 2),(i 55),(t [(y 16)])]),(y 19)),((t [(i 2),(i 7),(t [])]),(y 20)),((t [(i 2),(i 36),(t [(y 16)])]),(y 21))] [(t [(i 4),(i 9)]),(t [(i 4),(i 13)]),(t [(i 4),(i 12)])])) (.node .no (.node (.ob true (.lst 64 (rep 64 [.none]))) .nil .nil) (.node (.ob true (.idct 20 [((i 1),(t [(i 12),(i 0),(i 1),(i 0),(t [])])),((i 2),(t [(i 12),(i 0),(i 0),(i 13),(t [])])),((i 3),(t [(i 12),(i 0),(i 0),(i 1),(t [(i 12)])])),((i 4),(t [(i 12),(i 0),(i 0),(i 7),(t [])])),((i 10),(t [(i 13),(i 1),(i 0),(i 13),(t [(i 13),(i 13)])])),((i 11),(t [(i 13),(i 0),(i 0),(i 7),(t [])])),((i 13),(t [(i 13),(i 1),(i 0),(i 1),(t [(i 13),(i 13)])])),((i 21),(t [(y 20),(i 0),(i 1),(i 0),(t [])])),((i 22),(t [(y 20),(i 0),(i 1),(i 0),(t [(i 13)])])),((i 24),(t [(y 20),(i 0),(i 0),(i 13),(t [])])),((i 206),(t [(y 18),(i 0),(i 0),(i 0),(t [])])),((i 134),(t [(y 19),(i 0),(i 1),(i 0),(t [(y 18)])]))] [])) .nil .nil)) (.node (.ob true (.lst 0 [])) (.node (.ob true (.lst 1 [(y 21)])) .nil .nil) .nil)) (.node (.ob true (.gap 22 [(i 1),(i 1),(i 1),(i 1),(i 1),(i 1),(i 1),(i 1),(i 1),(i 1),(i 1),(i 1),(i 1),(i 1),(i 1),(i 1)] [(i 1),(i 2),(i 2),(i 2),(i 1),(i 2)])) (.node .no (.node (.ob true (.lst 256 (rep 256 [.none]))) .nil .nil) .nil) (.node (.ob true (.lst 64 (rep 64 [.none]))) (.node (.ob true (.idct 20 [((y 19),(r 19)),((y 20),(r 20))] [])) .nil .nil) .nil))) (.node (.ob true (.gap 22 [(t [(i 1),(i 0)]),(t [(i 1),(i 1)]),(t [(i 1),(i 2)]),(t [(i 1),(i 3)]),(t [(i 1),(i 4)]),(t [(i 1),(i 5)]),(t [(i 1),(i 6)]),(t [(i 1),(i 7)]),(t [(i 1),(i 8)]),(t [(i 1),(i 9)]),(t [(i 1),(i 10)]),(t [(i 1),(i 11)]),(t [(i 1),(i 12)]),(t [(i 1),(i 13)]),(t [(i 1),(i 14)]),(t [(i 1),(i 15)])] [(t [(i 6),(i 0)]),(t [(i 3),(i 8),(t [(y 16)])]),(t [(i 2),(i 37),(t [(y 16)])]),(t [(i 2),(i 55),(t [(y 16)])]),(t [(i 2),(i 7),(t [])]),(t [(i 2),(i 36),(t [(y 16)])])])) (.node (.ob true (.gap 22 [(i 1),(i 1),(i 1),(i 1),(i 1),(i 1),(i 1),(i 1),(i 1),(i 1),(i 1),(i 1),(i 1),(i 1),(i 1),(i 1)] [(i 1),(i 2),(i 2),(i 2),(i 1),(i 2)])) .nil (.node .no (.node (.ob true (.lst 0 [])) .nil .nil) .nil)) (.node (.ob true (.gap 22 [(i 0),(i 0),(i 0),(i 0),(i 0),(i 0),(i 0),(i 0),(i 0),(i 0),(i 0),(i 0),(i 0),(i 0),(i 0),(i 0)] [(i 1),(i 1),(i 1),(i 1),(i 0),(i 1)])) (.node (.ob true .emp) (.node (.ob true (.idct 20 [((i 1),(i 12)),((i 4),(i 13)),((i 8),(y 17)),((i 37),(y 18)),((i 55),(y 19)),((i 7),(y 20))] [])) .nil .nil) .nil) (.node .no (.node (.ob true (.idct 20 [((i 37),(i 12)),((i 55),(i 12)),((i 7),(i 12))] [])) .nil .nil) .nil))))
noncomputable def ZcM:V:=y 20
noncomputable def eA:List V:=[.unb,.unb,.unb,r 0,r 1,.unb,y 16,r 18,ZcM,r 21,r 22,r 23,.unb,.unb,.unb,.unb,.unb]
noncomputable def fl:List V:=jf 14
noncomputable def fz:Ps→Ps:=fun g=>swp (.o (.i (.o (.i (.o .h))))) (.i (.i (.o (.o (.i .h))))) (swp (.o (.o (.o (.o (.i .h))))) (.o (.o (.i (.i (.i .h))))) g)
noncomputable def zA (x:T):T:=.node .no x .nil
noncomputable def zB (x:T):T:=.node .no .nil x
noncomputable def zC (x y:T):T:=.node .no x y
noncomputable def zF (x:O):T:=.node (.ob false x) .nil .nil
noncomputable def zT (x:O):T:=.node (.ob true x) .nil .nil
noncomputable def mi (l:List Nat):List V:=@List.rec Nat (fun _=>List V) [] (fun n ξ k=>.int (Int.ofNat n) 0::k) l
noncomputable def zU (l:List Nat):V:=.tup (mi l)
noncomputable def zL (n:Nat) (l:List Nat):O:=.lst n (mi l)
noncomputable def ZcN:V:=t []
noncomputable def ZcO:V:=i 13
noncomputable def ZcP:V:=t [i 12]
noncomputable def ZcQ:V:=zU [13,13]
noncomputable def ZcR:V:=t [ZcO]
noncomputable def ZcS:V:=i 32
noncomputable def ZcT:V:=i 40
noncomputable def LW:T:=zC (zC (zC (zC (zB (zF (.bag [ZcM]))) (zF (.idct 46 [(i 1,t [i 12,i 0,i 1,i 0,ZcN]),(i 2,t [i 12,i 0,i 0,ZcO,ZcN]),(i 3,t [i 12,i 0,i 0,i 1,ZcP]),(i 4,t [i 12,i 0,i 0,i 7,ZcN]),(i 10,t [ZcO,i 1,i 0,ZcO,ZcQ]),(i 11,t [ZcO,i 0,i 0,i 7,ZcN]),(ZcO,t [ZcO,i 1,i 0,i 1,ZcQ]),(i 21,t [ZcM,i 0,i 1,i 0,ZcN]),(i 22,t [ZcM,i 0,i 1,i 0,ZcR]),(i 24,t [ZcM,i 0,i 0,ZcO,ZcN]),(i 206,t [y 18,i 0,i 0,i 0,ZcN]),(i 134,t [y 19,i 0,i 1,i 0,t [y 18]]),(i 30,t [y 22,i 0,i 1,i 0,ZcN]),(i 31,t [y 22,i 0,i 1,i 0,ZcR]),(ZcS,t [y 23,i 0,i 1,i 0,ZcN]),(i 33,t [y 23,i 0,i 1,i 0,ZcR]),(i 34,t [y 24,i 0,i 1,i 0,ZcN]),(i 35,t [y 24,i 0,i 1,i 0,ZcR]),(i 36,t [y 25,i 0,i 1,i 0,ZcN]),(i 37,t [y 25,i 0,i 1,i 0,ZcR]),(i 38,t [y 26,i 0,i 1,i 0,ZcN]),(i 39,t [y 26,i 0,i 1,i 0,ZcR]),(ZcT,t [y 27,i 0,i 1,i 0,ZcN]),(i 41,t [y 27,i 0,i 1,i 0,ZcR]),(i 42,t [y 28,i 0,i 1,i 0,ZcN]),(i 43,t [y 28,i 0,i 1,i 0,ZcR]),(i 44,t [y 29,i 0,i 1,i 0,ZcN]),(i 45,t [y 29,i 0,i 1,i 0,ZcR]),(i 46,t [y 30,i 0,i 1,i 0,ZcN]),(i 47,t [y 30,i 0,i 1,i 0,ZcR]),(i 48,t [y 31,i 0,i 1,i 0,ZcN]),(i 49,t [y 31,i 0,i 1,i 0,ZcR]),(i 50,t [y 32,i 0,i 1,i 0,ZcN]),(i 51,t [y 32,i 0,i 1,i 0,ZcR]),(i 52,t [y 33,i 0,i 1,i 0,ZcN]),(i 53,t [y 33,i 0,i 1,i 0,ZcR]),(i 54,t [y 34,i 0,i 1,i 0,ZcN]),(i 55,t [y 34,i 0,i 1,i 0,ZcR])] []))) (zA (zF (.lst 1 [y 21])))) (zC (zB (zA (zF (.bag [ZcM])))) (zA (zF (.idct 100 [(y 19,r 19),(y 30,r 41),(y 33,r 47)] [ZcM,y 22,y 23,y 24,y 25,y 26,y 27,y 28,y 29,y 31,y 32,y 34]))))) (zB (zC (zA (zF (.idct 33 [(i 1,i 12),(i 4,ZcO),(i 8,y 17),(i 37,y 18),(i 55,y 19),(i 7,ZcM),(i 21,y 22),(i 22,y 23),(i 23,y 24),(i 24,y 25),(i 25,y 26),(i 26,y 27),(i 27,y 28),(i 28,y 29),(i 29,y 30),(i 30,y 31),(i 31,y 32),(ZcS,y 33),(i 33,y 34)] []))) (zA (zF (.idct 100 [(i 37,i 12),(i 55,i 12),(i 7,i 12)] [i 21,i 22,i 23,i 24,i 25,i 26,i 27,i 28,i 29,i 30,i 31,ZcS,i 33])))))
noncomputable def LS:T:=(.node (.ob false (kc0 [(r 1),(r 13),(r 15),(r 17),(r 10),(r 11),(i 0)])) (.node (.ob false (kc1 [(r 2),(r 3),(r 4),(r 5),(r 6)])) (.node (.ob true (.kdct 38 [((t [(i 1),(i 0)]),(i 0)),((t [(i 1),(i 1)]),(i 1)),((t [(i 1),(i 2)]),(i 2)),((t [(i 1),(i 3)]),(i 3)),((t [(i 1),(i 4)]),(i 4)),((t [(i 1),(i 5)]),(i 5)),((t [(i 1),(i 6)]),(i 6)),((t [(i 1),(i 7)]),(i 7)),((t [(i 1),(i 8)]),(i 8)),((t [(i 1),(i 9)]),(i 9)),((t [(i 1),(i 10)]),(i 10)),((t [(i 1),(i 11)]),(i 11)),((t [(i 1),(i 12)]),(i 12)),((t [(i 1),(i 13)]),(i 13)),((t [(i 1),(i 14)]),(i 14)),((t [(i 1),(i 15)]),(i 15)),((t [(i 6),(i 0)]),(y 16)),((t [(i 3),(i 8),(t [(y 16)])]),(y 17)),((t [(i 2),(i 37),(t [(y 16)])]),(y 18)),((t [(i 2),(i 55),(t [(y 16)])]),(y 19)),((t [(i 2),(i 7),(t [])]),(y 20)),((t [(i 2),(i 36),(t [(y 16)])]),(y 21)),((t [(i 2),(i 21),(t [])]),(y 22)),((t [(i 2),(i 22),(t [])]),(y 23)),((t [(i 2),(i 23),(t [])]),(y 24)),((t [(i 2),(i 24),(t [])]),(y 25)),((t [(i 2),(i 25),(t [])]),(y 26)),((t [(i 2),(i 26),(t [])]),(y 27)),((t [(i 2),(i 27),(t [])]),(y 28)),((t [(i 2),(i 28),(t [])]),(y 29)),((t [(i 2),(i 29),(t [])]),(y 30)),((t [(i 2),(i 30),(t [])]),(y 31)),((t [(i 2),(i 31),(t [])]),(y 32)),((t [(i 2),(i 32),(t [])]),(y 33)),((t [(i 2),(i 33),(t [])]),(y 34))] [(t [(i 4),(i 9)]),(t [(i 4),(i 13)]),(t [(i 4),(i 12)])])) (.node .no (.node (.ob true (.lst 64 (rep 64 [.none]))) .nil .nil) .nil) .nil) (.node (.ob true (.gap 35 [(i 1),(i 1),(i 1),(i 1),(i 1),(i 1),(i 1),(i 1),(i 1),(i 1),(i 1),(i 1),(i 1),(i 1),(i 1),(i 1)] [(i 1),(i 2),(i 2),(i 2),(i 1),(i 2),(i 1),(i 1),(i 1),(i 1),(i 1),(i 1),(i 1),(i 1),(i 1),(i 1),(i 1),(i 1),(i 1)])) (.node .no (.node (.ob true (.lst 256 (rep 256 [.none]))) .nil .nil) .nil) .nil)) (.node (.ob true (.gap 35 [(t [(i 1),(i 0)]),(t [(i 1),(i 1)]),(t [(i 1),(i 2)]),(t [(i 1),(i 3)]),(t [(i 1),(i 4)]),(t [(i 1),(i 5)]),(t [(i 1),(i 6)]),(t [(i 1),(i 7)]),(t [(i 1),(i 8)]),(t [(i 1),(i 9)]),(t [(i 1),(i 10)]),(t [(i 1),(i 11)]),(t [(i 1),(i 12)]),(t [(i 1),(i 13)]),(t [(i 1),(i 14)]),(t [(i 1),(i 15)])] [(t [(i 6),(i 0)]),(t [(i 3),(i 8),(t [(y 16)])]),(t [(i 2),(i 37),(t [(y 16)])]),(t [(i 2),(i 55),(t [(y 16)])]),(t [(i 2),(i 7),(t [])]),(t [(i 2),(i 36),(t [(y 16)])]),(t [(i 2),(i 21),(t [])]),(t [(i 2),(i 22),(t [])]),(t [(i 2),(i 23),(t [])]),(t [(i 2),(i 24),(t [])]),(t [(i 2),(i 25),(t [])]),(t [(i 2),(i 26),(t [])]),(t [(i 2),(i 27),(t [])]),(t [(i 2),(i 28),(t [])]),(t [(i 2),(i 29),(t [])]),(t [(i 2),(i 30),(t [])]),(t [(i 2),(i 31),(t [])]),(t [(i 2),(i 32),(t [])]),(t [(i 2),(i 33),(t [])])])) (.node (.ob true (.gap 35 [(i 1),(i 1),(i 1),(i 1),(i 1),(i 1),(i 1),(i 1),(i 1),(i 1),(i 1),(i 1),(i 1),(i 1),(i 1),(i 1)] [(i 1),(i 2),(i 2),(i 2),(i 1),(i 2),(i 1),(i 1),(i 1),(i 1),(i 1),(i 1),(i 1),(i 1),(i 1),(i 1),(i 1),(i 1),(i 1)])) .nil .nil) (.node (.ob true (.gap 35 [(i 0),(i 0),(i 0),(i 0),(i 0),(i 0),(i 0),(i 0),(i 0),(i 0),(i 0),(i 0),(i 0),(i 0),(i 0),(i 0)] [(i 1),(i 1),(i 1),(i 1),(i 0),(i 1),(i 0),(i 0),(i 0),(i 0),(i 0),(i 0),(i 0),(i 0),(i 0),(i 0),(i 0),(i 0),(i 0)])) .nil .nil)))
noncomputable def L14:T:=(.node .no (.node .no .nil (.node .no .nil (.node (.ob true (.lst 64 (rep 64 [.none]))) .nil .nil))) .nil)
noncomputable def eB:List V:=[.unb,.unb,.unb,r 0,r 1,.unb,y 16,r 18,ZcM,r 21,r 22,r 23,.unb,.unb,.unb,.unb,.unb]
noncomputable def eAm (m:Nat) (b:V):List V:=[.unb,i m,b,(r 0),(r 1),.unb,(y 16),(r 18),(y 20),(r 21),(r 22),(r 23),.unb,.unb,.unb,.unb,.unb]
noncomputable def W0:T:=zB (zB (zB (zA (zF (.idct 33 [(i 37,i 12),(i 55,i 12),(i 7,i 12),(i 21,ZcM),(i 22,ZcM),(i 23,ZcM),(i 24,ZcM),(i 25,y 25),(i 26,y 25),(i 27,ZcM),(i 28,ZcM),(i 29,ZcM),(i 30,ZcM),(i 31,ZcM),(ZcS,y 32),(i 33,ZcM)] [])))))
noncomputable def W1:T:=zB (zB (zB (zA (zF (.idct 33 [(i 37,i 12),(i 55,i 12),(i 7,i 12),(i 21,ZcM),(i 22,y 22),(i 23,ZcM),(i 24,y 22),(i 25,y 23),(i 26,ZcM),(i 27,y 25),(i 28,y 22),(i 29,ZcM),(i 30,y 25),(i 31,y 23),(ZcS,ZcM),(i 33,y 31)] [])))))
noncomputable def W2:T:=zB (zB (zB (zA (zF (.idct 33 [(i 37,i 12),(i 55,i 12),(i 7,i 12),(i 21,ZcM),(i 22,ZcM),(i 23,y 22),(i 24,y 22),(i 25,ZcM),(i 26,y 24),(i 27,y 22),(i 28,ZcM),(i 29,y 24),(i 30,y 28),(i 31,ZcM),(ZcS,y 31),(i 33,y 28)] [])))))
noncomputable def W3:T:=zB (zB (zB (zA (zF (.idct 33 [(i 37,i 12),(i 55,i 12),(i 7,i 12),(i 21,ZcM),(i 22,y 22),(i 23,y 23),(i 24,ZcM),(i 25,y 25),(i 26,y 25),(i 27,ZcM),(i 28,y 22),(i 29,y 29),(i 30,ZcM),(i 31,y 25),(ZcS,y 30),(i 33,ZcM)] [])))))
noncomputable def W4:T:=zB (zB (zB (zA (zF (.idct 33 [(i 37,i 12),(i 55,i 12),(i 7,i 12),(i 21,ZcM),(i 22,y 22),(i 23,ZcM),(i 24,y 22),(i 25,y 22),(i 26,ZcM),(i 27,y 22),(i 28,y 22),(i 29,ZcM),(i 30,y 25),(i 31,y 26),(ZcS,ZcM),(i 33,y 22)] [])))))
noncomputable def W5:T:=zB (zB (zB (zA (zF (.idct 33 [(i 37,i 12),(i 55,i 12),(i 7,i 12),(i 21,ZcM),(i 22,ZcM),(i 23,y 23),(i 24,y 22),(i 25,ZcM),(i 26,y 22),(i 27,y 25),(i 28,ZcM),(i 29,y 23),(i 30,y 28),(i 31,ZcM),(ZcS,y 28),(i 33,y 31)] [])))))
noncomputable def W6:T:=zB (zB (zB (zA (zF (.idct 33 [(i 37,i 12),(i 55,i 12),(i 7,i 12),(i 21,ZcM),(i 22,y 22),(i 23,y 22),(i 24,ZcM),(i 25,y 24),(i 26,y 23),(i 27,ZcM),(i 28,y 22),(i 29,y 28),(i 30,ZcM),(i 31,y 28),(ZcS,y 27),(i 33,ZcM)] [])))))
noncomputable def eBg (g:Nat):List V:=[.unb,.unb,i g,(r 0),(r 1),.unb,(y 16),(r 18),(y 20),(r 21),(r 22),(r 23),.unb,.unb,.unb,.unb,.unb]
noncomputable def ZcU:Cell:=.ob true (.lst 0 [])
noncomputable def ZcV:T:=zT (.lst 0 [])
noncomputable def ZcW:T:=zB (zA ZcV)
noncomputable def ZcX:T:=zB (zA (zF (.lst 1 [t [i 0,ZcN]])))
noncomputable def ZcY:V:=.anyStr 200020
noncomputable def ZcZ:T:=zB (zA (zF (kc2 [i 55,ZcY,i 1,i 0,i 12,r 84,r 85,r 86,r 87,r 88,r 89,i 0,i 0,Zad,r 90,r 91,r 92,i 0,i 0])))
noncomputable def Zc0:T:=zA (zF (.lst 1 [.str 357]))
noncomputable def Zc1:T:=zA (zF (kc2 [i 37,ZcY,i 1,i 0,i 12,r 74,r 75,r 76,r 77,r 78,r 79,i 0,i 0,Zad,r 80,r 81,r 82,i 0,i 0]))
noncomputable def Zc2:T:=zC (zB Zc0) (zA (zA (zF (.lst 1 [t [i 0,ZcN]]))))
noncomputable def Zc3:Cell:=.ob false (.lst 0 [])
noncomputable def Zc4:T:=zF (.lst 0 [])
noncomputable def Zc5:T:=zA Zc4
noncomputable def TC:T:=zC (zC (zC (zC ZcW ZcX) (zC ZcZ (zC Zc0 (zA ZcV)))) (zC (zC ZcW (zC Zc1 (zA ZcV))) Zc2)) (zC (zC (zC (zB Zc5) ZcW) (zC ZcW (zC (zA (zF (.lst 1 [i 0]))) Zc5))) (zC (zC (zB Zc5) (zC (zA ZcV) Zc5)) (zC (zB (zA (zF (.lst 1 [i 0])))) (zA (zA ZcV)))))
noncomputable def Lc:T:=zA (zB (zB (zF (.plst [(37,r 73),(55,r 83)]))))
noncomputable def T0:T:=zA (zB (zB (zF (.plst [(37,r 73),(55,r 83)]))))
noncomputable def Zc6:T:=zA (zA (zB (zF (.lst 1 [.str 357]))))
noncomputable def Zc7:T:=zA (zA (zB (zF (.lst 1 [t [i 0,ZcN]]))))
noncomputable def Zc8:Cell:=.ob false (.plst [(8,r 93),(37,r 73),(55,r 83)])
noncomputable def Zc9:T:=zB (zA (zF (kc2 [i 8,ZcY,i 2,i 0,Zad,r 94,r 95,r 96,r 97,r 98,r 99,i 0,i 0,Zad,r 100,r 101,r 102,i 0,i 0])))
noncomputable def Zda:T:=zB Zc4
noncomputable def Zdb:T:=zA (zA Zda)
noncomputable def Zdc:T:=zC (zA (zA (zB (zF (.lst 1 [i 0]))))) Zdb
noncomputable def T1:T:=zC (zC (zC Zc6 (zA (zA (zB ZcV)))) (zC Zc7 (.node Zc8 (zA (zB ZcV)) Zc9))) (zC Zdc (zC (zA (zA (zB ZcV))) (zC (zA Zda) (zB Zc5))))
noncomputable def Zdd:Cell:=.ob false (.plst [(4,r 93),(37,r 73),(55,r 83)])
noncomputable def Zde:T:=zB (zA (zF (kc2 [i 4,ZcY,i 1,i 0,Zad,r 94,r 95,r 96,r 97,r 98,r 99,i 0,i 0,Zad,r 100,r 101,r 102,i 0,i 0])))
noncomputable def T3:T:=zC (zC (zC Zdb (zA (zA (zB ZcV)))) (zC Zdb (.node Zdd (zA (zB ZcV)) Zde))) (zC (zC Zdb Zdb) (zC Zdb (zC (zA Zda) ZcW)))
noncomputable def Zdf:T:=zC Zda Zda
noncomputable def Zdg:T:=zB (zF (kc2 [i 2,ZcY,i 1,i 0,Zad,r 104,r 105,r 106,r 107,r 108,r 109,i 0,i 0,Zad,r 110,r 111,r 112,i 0,i 0]))
noncomputable def Zdh:T:=zC Zda (zB (zF (kc2 [i 5,ZcY,i 1,i 0,Zad,r 114,r 115,r 116,r 117,r 118,r 119,i 0,i 0,Zad,r 120,r 121,r 122,i 0,i 0])))
noncomputable def Zdi:Cell:=.ob false (.plst [(1,r 93),(2,r 103),(5,r 113),(37,r 73),(55,r 83)])
noncomputable def Zdj:T:=zC (zC (zC Zdf Zdf) (zC Zdf (zA Zda))) (zC (zC Zdf Zdf) (zC Zdf (zC Zda Zc5)))
noncomputable def T4:T:=zC (zC (zC (zC Zdf (zC Zdg (zB ZcV))) (zC (zC (zB ZcV) Zda) (zA Zda))) (zC (zC Zdh (zC Zda (zB ZcV))) (.node Zdi Zdf (zC (zB ZcV) (zA (zT (kc2 [i 1,ZcY,i 1,i 0,Zad,r 94,r 95,r 96,r 97,r 98,r 99,i 0,i 0,Zad,r 100,r 101,r 102,i 0,i 0]))))))) Zdj
noncomputable def Zdk:T:=zC (zC Zc5 Zc4) Zda
noncomputable def Zdl:T:=zB (zF (kc2 [i 35,ZcY,i 1,i 0,Zad,r 104,r 105,r 106,r 107,r 108,r 109,i 0,i 0,Zad,r 110,r 111,r 112,i 0,i 0]))
noncomputable def Zdm:T:=zC Zda (zB (zF (kc2 [i 48,ZcY,i 1,i 0,Zad,r 124,r 125,r 126,r 127,r 128,r 129,i 0,i 0,Zad,r 130,r 131,r 132,i 0,i 0])))
noncomputable def Zdn:T:=zB (zF (kc2 [i 36,ZcY,i 1,i 0,Zad,r 114,r 115,r 116,r 117,r 118,r 119,i 0,i 0,Zad,r 120,r 121,r 122,i 0,i 0]))
noncomputable def Zdo:Cell:=.ob false (.plst [(34,r 93),(35,r 103),(36,r 113),(37,r 73),(48,r 123),(55,r 83)])
noncomputable def Zdp:T:=zC (zF (kc2 [i 34,ZcY,i 1,i 0,Zad,r 94,r 95,r 96,r 97,r 98,r 99,i 0,i 0,Zad,r 100,r 101,r 102,i 0,i 0])) Zc4
noncomputable def Zdq:T:=zC Zc4 Zc4
noncomputable def T5:T:=zC (zC (zC (zC Zdk (zC Zdl (zB ZcV))) (zC (zC (zC Zc5 ZcV) Zda) Zdm)) (zC (zC (zC (zC (zA ZcV) Zc4) Zdn) (zC Zda (zB ZcV))) (.node Zdo Zdf (zC (zB ZcV) Zdp)))) (zC (zC (zC Zdk Zdf) (zC Zdk Zdf)) (zC (zC (zC (zC Zc5 Zc4) (zB ZcV)) Zdf) (zC Zdf (zC Zda Zdq))))
noncomputable def Zdr:T:=.node Zc3 Zc4 .nil
noncomputable def Zds:T:=zC (zC Zdq (.node Zc3 ZcV .nil)) (zC Zda Zdr)
noncomputable def Zdt:T:=.node (.ob false (kc2 [i 21,ZcY,i 1,i 0,ZcM,r 104,r 105,r 106,r 107,r 108,r 109,i 0,i 0,Zad,r 110,r 111,r 112,i 0,i 0])) Zc4 Zc4
noncomputable def Zdu:T:=.node Zc3 Zc4 Zc4
noncomputable def Zdv:Cell:=.ob false (.plst [(7,r 93),(21,r 103),(22,r 113),(23,r 123),(24,r 133),(25,r 143),(26,r 153),(27,r 163),(28,r 173),(29,r 183),(30,r 193),(31,r 203),(32,r 213),(33,r 223),(37,r 73),(55,r 83)])
noncomputable def Zdw:T:=.node (.ob false (kc2 [i 7,ZcY,i 1,i 0,i 12,r 94,r 95,r 96,r 97,r 98,r 99,i 0,i 0,Zad,r 100,r 101,r 102,i 0,i 0])) Zc4 Zc4
noncomputable def Zdx:T:=zC Zdq Zdr
noncomputable def Zdy:T:=zC (zC Zdq Zdu) Zdx
noncomputable def Zdz:T:=zC (zC Zdy Zdy) (zC Zdy (zC Zdx Zdx))
noncomputable def T2:T:=zC (zC (zC (zC Zds (zC (zC (zC Zc4 ZcV) Zdt) (zC Zdq ZcV))) (zC (zC (zC Zdq (.node ZcU .nil Zc4)) (zC Zdq (.node Zc3 ZcV .nil))) (zC (zC (zA ZcV) Zdr) (zC (zC Zc4 ZcV) Zc5)))) (zC (zC (zC (zC (zA ZcV) Zdu) (zC (zC Zc4 ZcV) Zc5)) Zds) (.node Zdv (zC (zC Zda (.node ZcU Zc4 ZcV)) (zC (zA ZcV) Zdr)) (zC (zC Zdq ZcV) (zC Zdw (.node Zc3 ZcV .nil)))))) (zC Zdz (zC (zC (zC (zC Zdq (.node ZcU Zc4 Zc4)) Zdx) (zC Zdx Zdx)) (zC Zdy (zC Zdx (zC Zdu Zdr)))))
noncomputable def ZdA:T:=zB (zB (zF (kc2 [i 33,ZcY,i 1,i 0,ZcM,r 224,r 225,r 226,r 227,r 228,r 229,i 0,i 0,Zad,r 230,r 231,r 232,i 0,i 0])))
noncomputable def ZdB:T:=zC ZdA (zA (zA (zF (kc2 [i 25,ZcY,i 1,i 0,y 25,r 144,r 145,r 146,r 147,r 148,r 149,i 0,i 0,Zad,r 150,r 151,r 152,i 0,i 0]))))
noncomputable def ZdC:T:=zB (zB (zA (zF (kc2 [i 29,ZcY,i 1,i 0,ZcM,r 184,r 185,r 186,r 187,r 188,r 189,i 0,i 0,Zad,r 190,r 191,r 192,i 0,i 0]))))
noncomputable def ZdD:T:=zA (zB (zA (zF (kc2 [i 27,ZcY,i 1,i 0,ZcM,r 164,r 165,r 166,r 167,r 168,r 169,i 0,i 0,Zad,r 170,r 171,r 172,i 0,i 0]))))
noncomputable def ZdE:T:=zA (zB (zF (kc2 [i 31,ZcY,i 1,i 0,ZcM,r 204,r 205,r 206,r 207,r 208,r 209,i 0,i 0,Zad,r 210,r 211,r 212,i 0,i 0])))
noncomputable def ZdF:T:=zB (zF (kc2 [i 23,ZcY,i 1,i 0,ZcM,r 124,r 125,r 126,r 127,r 128,r 129,i 0,i 0,Zad,r 130,r 131,r 132,i 0,i 0]))
noncomputable def ZdG:T:=zA (zB (zF (kc2 [i 30,ZcY,i 1,i 0,ZcM,r 194,r 195,r 196,r 197,r 198,r 199,i 0,i 0,Zad,r 200,r 201,r 202,i 0,i 0])))
noncomputable def ZdH:T:=zB (zF (kc2 [i 22,ZcY,i 1,i 0,ZcM,r 114,r 115,r 116,r 117,r 118,r 119,i 0,i 0,Zad,r 120,r 121,r 122,i 0,i 0]))
noncomputable def ZdI:T:=zB (zA (zA (zF (kc2 [i 26,ZcY,i 1,i 0,y 25,r 154,r 155,r 156,r 157,r 158,r 159,i 0,i 0,Zad,r 160,r 161,r 162,i 0,i 0]))))
noncomputable def ZdJ:T:=zA (zA (zF (kc2 [i 24,ZcY,i 1,i 0,ZcM,r 134,r 135,r 136,r 137,r 138,r 139,i 0,i 0,Zad,r 140,r 141,r 142,i 0,i 0])))
noncomputable def ZdK:T:=zA (zB (zA (zF (kc2 [i 28,ZcY,i 1,i 0,ZcM,r 174,r 175,r 176,r 177,r 178,r 179,i 0,i 0,Zad,r 180,r 181,r 182,i 0,i 0]))))
noncomputable def wQ:T:=zA (zC (zC (zC ZdB ZdC) (zC ZdD (zC ZdE ZdF))) (zC (zC (zC ZdG ZdH) ZdI) (zC (zC ZdJ (zA (zB (zF (kc2 [ZcS,ZcY,i 1,i 0,y 32,r 214,r 215,r 216,r 217,r 218,r 219,i 0,i 0,Zad,r 220,r 221,r 222,i 0,i 0]))))) ZdK)))
noncomputable def uX:T:=mrg wQ T2
noncomputable def ZdL:T:=zB (zB (zF (kc2 [i 33,ZcY,i 1,i 0,y 31,r 224,r 225,r 226,r 227,r 228,r 229,i 0,i 0,Zad,r 230,r 231,r 232,i 0,i 0])))
noncomputable def ZdM:T:=zA (zB (zA (zF (kc2 [i 27,ZcY,i 1,i 0,y 25,r 164,r 165,r 166,r 167,r 168,r 169,i 0,i 0,Zad,r 170,r 171,r 172,i 0,i 0]))))
noncomputable def ZdN:T:=zB (zF (kc2 [i 22,ZcY,i 1,i 0,y 22,r 114,r 115,r 116,r 117,r 118,r 119,i 0,i 0,Zad,r 120,r 121,r 122,i 0,i 0]))
noncomputable def ZdO:T:=zA (zA (zF (kc2 [i 24,ZcY,i 1,i 0,y 22,r 134,r 135,r 136,r 137,r 138,r 139,i 0,i 0,Zad,r 140,r 141,r 142,i 0,i 0])))
noncomputable def ZdP:T:=zA (zB (zA (zF (kc2 [i 28,ZcY,i 1,i 0,y 22,r 174,r 175,r 176,r 177,r 178,r 179,i 0,i 0,Zad,r 180,r 181,r 182,i 0,i 0]))))
noncomputable def ZdQ:T:=zC (zC (zC (zA (zB (zF (kc2 [i 30,ZcY,i 1,i 0,y 25,r 194,r 195,r 196,r 197,r 198,r 199,i 0,i 0,Zad,r 200,r 201,r 202,i 0,i 0])))) ZdN) (zB (zA (zA (zF (kc2 [i 26,ZcY,i 1,i 0,ZcM,r 154,r 155,r 156,r 157,r 158,r 159,i 0,i 0,Zad,r 160,r 161,r 162,i 0,i 0])))))) (zC (zC ZdO (zA (zB (zF (kc2 [ZcS,ZcY,i 1,i 0,ZcM,r 214,r 215,r 216,r 217,r 218,r 219,i 0,i 0,Zad,r 220,r 221,r 222,i 0,i 0]))))) ZdP)
noncomputable def wP:T:=zA (zC (zC (zC (zC ZdL (zA (zA (zF (kc2 [i 25,ZcY,i 1,i 0,y 23,r 144,r 145,r 146,r 147,r 148,r 149,i 0,i 0,Zad,r 150,r 151,r 152,i 0,i 0]))))) ZdC) (zC ZdM (zC (zA (zB (zF (kc2 [i 31,ZcY,i 1,i 0,y 23,r 204,r 205,r 206,r 207,r 208,r 209,i 0,i 0,Zad,r 210,r 211,r 212,i 0,i 0])))) ZdF))) ZdQ)
noncomputable def uW:T:=mrg wP T2
noncomputable def ZdR:T:=zA (zA (zF (kc2 [i 25,ZcY,i 1,i 0,ZcM,r 144,r 145,r 146,r 147,r 148,r 149,i 0,i 0,Zad,r 150,r 151,r 152,i 0,i 0])))
noncomputable def ZdS:T:=zA (zB (zA (zF (kc2 [i 27,ZcY,i 1,i 0,y 22,r 164,r 165,r 166,r 167,r 168,r 169,i 0,i 0,Zad,r 170,r 171,r 172,i 0,i 0]))))
noncomputable def ZdT:T:=zB (zF (kc2 [i 23,ZcY,i 1,i 0,y 22,r 124,r 125,r 126,r 127,r 128,r 129,i 0,i 0,Zad,r 130,r 131,r 132,i 0,i 0]))
noncomputable def ZdU:T:=zC (zA (zB (zF (kc2 [i 30,ZcY,i 1,i 0,y 28,r 194,r 195,r 196,r 197,r 198,r 199,i 0,i 0,Zad,r 200,r 201,r 202,i 0,i 0])))) ZdH
noncomputable def wO:T:=zA (zC (zC (zC (zC (zB (zB (zF (kc2 [i 33,ZcY,i 1,i 0,y 28,r 224,r 225,r 226,r 227,r 228,r 229,i 0,i 0,Zad,r 230,r 231,r 232,i 0,i 0])))) ZdR) (zB (zB (zA (zF (kc2 [i 29,ZcY,i 1,i 0,y 24,r 184,r 185,r 186,r 187,r 188,r 189,i 0,i 0,Zad,r 190,r 191,r 192,i 0,i 0])))))) (zC ZdS (zC ZdE ZdT))) (zC (zC ZdU (zB (zA (zA (zF (kc2 [i 26,ZcY,i 1,i 0,y 24,r 154,r 155,r 156,r 157,r 158,r 159,i 0,i 0,Zad,r 160,r 161,r 162,i 0,i 0])))))) (zC (zC ZdO (zA (zB (zF (kc2 [ZcS,ZcY,i 1,i 0,y 31,r 214,r 215,r 216,r 217,r 218,r 219,i 0,i 0,Zad,r 220,r 221,r 222,i 0,i 0]))))) ZdK)))
noncomputable def uV:T:=mrg wO T2
noncomputable def ZdV:T:=zB (zF (kc2 [i 23,ZcY,i 1,i 0,y 23,r 124,r 125,r 126,r 127,r 128,r 129,i 0,i 0,Zad,r 130,r 131,r 132,i 0,i 0]))
noncomputable def wN:T:=zA (zC (zC (zC ZdB (zB (zB (zA (zF (kc2 [i 29,ZcY,i 1,i 0,y 29,r 184,r 185,r 186,r 187,r 188,r 189,i 0,i 0,Zad,r 190,r 191,r 192,i 0,i 0])))))) (zC ZdD (zC (zA (zB (zF (kc2 [i 31,ZcY,i 1,i 0,y 25,r 204,r 205,r 206,r 207,r 208,r 209,i 0,i 0,Zad,r 210,r 211,r 212,i 0,i 0])))) ZdV))) (zC (zC (zC ZdG ZdN) ZdI) (zC (zC ZdJ (zA (zB (zF (kc2 [ZcS,ZcY,i 1,i 0,y 30,r 214,r 215,r 216,r 217,r 218,r 219,i 0,i 0,Zad,r 220,r 221,r 222,i 0,i 0]))))) ZdP)))
noncomputable def uU:T:=mrg wN T2
noncomputable def wM:T:=zA (zC (zC (zC (zC (zB (zB (zF (kc2 [i 33,ZcY,i 1,i 0,y 22,r 224,r 225,r 226,r 227,r 228,r 229,i 0,i 0,Zad,r 230,r 231,r 232,i 0,i 0])))) (zA (zA (zF (kc2 [i 25,ZcY,i 1,i 0,y 22,r 144,r 145,r 146,r 147,r 148,r 149,i 0,i 0,Zad,r 150,r 151,r 152,i 0,i 0]))))) ZdC) (zC ZdS (zC (zA (zB (zF (kc2 [i 31,ZcY,i 1,i 0,y 26,r 204,r 205,r 206,r 207,r 208,r 209,i 0,i 0,Zad,r 210,r 211,r 212,i 0,i 0])))) ZdF))) ZdQ)
noncomputable def uT:T:=mrg wM T2
noncomputable def wL:T:=zA (zC (zC (zC (zC ZdL ZdR) (zB (zB (zA (zF (kc2 [i 29,ZcY,i 1,i 0,y 23,r 184,r 185,r 186,r 187,r 188,r 189,i 0,i 0,Zad,r 190,r 191,r 192,i 0,i 0])))))) (zC ZdM (zC ZdE ZdV))) (zC (zC ZdU (zB (zA (zA (zF (kc2 [i 26,ZcY,i 1,i 0,y 22,r 154,r 155,r 156,r 157,r 158,r 159,i 0,i 0,Zad,r 160,r 161,r 162,i 0,i 0])))))) (zC (zC ZdO (zA (zB (zF (kc2 [ZcS,ZcY,i 1,i 0,y 28,r 214,r 215,r 216,r 217,r 218,r 219,i 0,i 0,Zad,r 220,r 221,r 222,i 0,i 0]))))) ZdK)))
noncomputable def uS:T:=mrg wL T2
noncomputable def wK:T:=zA (zC (zC (zC (zC ZdA (zA (zA (zF (kc2 [i 25,ZcY,i 1,i 0,y 24,r 144,r 145,r 146,r 147,r 148,r 149,i 0,i 0,Zad,r 150,r 151,r 152,i 0,i 0]))))) (zB (zB (zA (zF (kc2 [i 29,ZcY,i 1,i 0,y 28,r 184,r 185,r 186,r 187,r 188,r 189,i 0,i 0,Zad,r 190,r 191,r 192,i 0,i 0])))))) (zC ZdD (zC (zA (zB (zF (kc2 [i 31,ZcY,i 1,i 0,y 28,r 204,r 205,r 206,r 207,r 208,r 209,i 0,i 0,Zad,r 210,r 211,r 212,i 0,i 0])))) ZdT))) (zC (zC (zC ZdG ZdN) (zB (zA (zA (zF (kc2 [i 26,ZcY,i 1,i 0,y 23,r 154,r 155,r 156,r 157,r 158,r 159,i 0,i 0,Zad,r 160,r 161,r 162,i 0,i 0])))))) (zC (zC ZdJ (zA (zB (zF (kc2 [ZcS,ZcY,i 1,i 0,y 27,r 214,r 215,r 216,r 217,r 218,r 219,i 0,i 0,Zad,r 220,r 221,r 222,i 0,i 0]))))) ZdP)))
noncomputable def uR:T:=mrg wK T2
noncomputable def LV:T:=zA (zB (zA (zB (zA (zB (zB (zF (.sdct 20 [(.str 358,r 0),(.str 359,r 18),(.str 360,r 21),(.str 361,r 22),(.str 362,r 23)]))))))))
noncomputable def Wm (m:Nat):T:=match m with | 0=>W0 | 1=>W1 | 2=>W2 | 3=>W3 | 4=>W4 | 5=>W5 | _=>W6
noncomputable def fm (m:Nat):Ps→Ps:=match m with | 0=>fz | _=>idP
noncomputable def Tg (m g:Nat):T:=match g with | 0=>T0 | 1=>T1 | 2=>(match m with | 0=>uX | 1=>uW | 2=>uV | 3=>uU | 4=>uT | 5=>uS | _=>uR) | 3=>T3 | 4=>T4 | _=>T5
noncomputable def Sc (m g:Nat):T:=match g with | 2=>mrg (Wm m) (mrg LS (mrg L14 LW)) | _=>mrg LS (mrg L14 LW)
end
theorem sA0 (a b:V):aE (some 0) nA idP eA [LA] 1 2 (blk E wB1 (app [i 0,a,b] fl) σ0)=⟨true,a,b⟩:=by kernel_rfl
theorem sA1 (a b:V):aE (some 1) nA idP eA [LA] 1 2 (blk E wB1 (app [i 1,a,b] fl) σ0)=⟨true,a,b⟩:=by kernel_rfl
theorem sA2 (a b:V):aE (some 2) nA idP eA [LA] 1 2 (blk E wB1 (app [i 2,a,b] fl) σ0)=⟨true,a,b⟩:=by kernel_rfl
theorem sA3 (a b:V):aE (some 3) nA idP eA [LA] 1 2 (blk E wB1 (app [i 3,a,b] fl) σ0)=⟨true,a,b⟩:=by kernel_rfl
theorem sB0 (b:V):aE none nB fz eB [LS,L14,LW,W0] 2 2 (blk E wB2 (eAm 0 b) ⟨LA,nA⟩)=⟨true,b,b⟩:=by kernel_rfl
theorem sB1 (b:V):aE none nB idP eB [LS,L14,LW,W1] 2 2 (blk E wB2 (eAm 1 b) ⟨LA,nA⟩)=⟨true,b,b⟩:=by kernel_rfl
theorem sB2 (b:V):aE none nB idP eB [LS,L14,LW,W2] 2 2 (blk E wB2 (eAm 2 b) ⟨LA,nA⟩)=⟨true,b,b⟩:=by kernel_rfl
theorem sB3 (b:V):aE none nB idP eB [LS,L14,LW,W3] 2 2 (blk E wB2 (eAm 3 b) ⟨LA,nA⟩)=⟨true,b,b⟩:=by kernel_rfl
theorem sB4 (b:V):aE none nB idP eB [LS,L14,LW,W4] 2 2 (blk E wB2 (eAm 4 b) ⟨LA,nA⟩)=⟨true,b,b⟩:=by kernel_rfl
theorem sB5 (b:V):aE none nB idP eB [LS,L14,LW,W5] 2 2 (blk E wB2 (eAm 5 b) ⟨LA,nA⟩)=⟨true,b,b⟩:=by kernel_rfl
theorem sB6 (b:V):aE none nB idP eB [LS,L14,LW,W6] 2 2 (blk E wB2 (eAm 6 b) ⟨LA,nA⟩)=⟨true,b,b⟩:=by kernel_rfl
theorem sC0:aE none nC idP eB [LS,LW,TC,T0] 0 0 (blk E wB3 (eBg 0) ⟨mrg LS (mrg L14 LW),nB⟩)=⟨true,.unb,.unb⟩:=by kernel_rfl
theorem sC1:aE none nC idP eB [LS,LW,TC,T1] 0 0 (blk E wB3 (eBg 1) ⟨mrg LS (mrg L14 LW),nB⟩)=⟨true,.unb,.unb⟩:=by kernel_rfl
theorem sC3:aE none nC idP eB [LS,LW,TC,T3] 0 0 (blk E wB3 (eBg 3) ⟨mrg LS (mrg L14 LW),nB⟩)=⟨true,.unb,.unb⟩:=by kernel_rfl
theorem sC4:aE none nC idP eB [LS,LW,TC,T4] 0 0 (blk E wB3 (eBg 4) ⟨mrg LS (mrg L14 LW),nB⟩)=⟨true,.unb,.unb⟩:=by kernel_rfl
theorem sC5:aE none nC idP eB [LS,LW,TC,T5] 0 0 (blk E wB3 (eBg 5) ⟨mrg LS (mrg L14 LW),nB⟩)=⟨true,.unb,.unb⟩:=by kernel_rfl
theorem vE:aE none nC idP eB [LS,LW,TC,uX] 0 0 (blk E wB3 (eBg 2) ⟨mrg W0 (mrg LS (mrg L14 LW)),nB⟩)=⟨true,.unb,.unb⟩:=by kernel_rfl
theorem vD:aE none nC idP eB [LS,LW,TC,uW] 0 0 (blk E wB3 (eBg 2) ⟨mrg W1 (mrg LS (mrg L14 LW)),nB⟩)=⟨true,.unb,.unb⟩:=by kernel_rfl
theorem vC:aE none nC idP eB [LS,LW,TC,uV] 0 0 (blk E wB3 (eBg 2) ⟨mrg W2 (mrg LS (mrg L14 LW)),nB⟩)=⟨true,.unb,.unb⟩:=by kernel_rfl
theorem vB:aE none nC idP eB [LS,LW,TC,uU] 0 0 (blk E wB3 (eBg 2) ⟨mrg W3 (mrg LS (mrg L14 LW)),nB⟩)=⟨true,.unb,.unb⟩:=by kernel_rfl
theorem vz:aE none nC idP eB [LS,LW,TC,uT] 0 0 (blk E wB3 (eBg 2) ⟨mrg W4 (mrg LS (mrg L14 LW)),nB⟩)=⟨true,.unb,.unb⟩:=by kernel_rfl
theorem vy:aE none nC idP eB [LS,LW,TC,uS] 0 0 (blk E wB3 (eBg 2) ⟨mrg W5 (mrg LS (mrg L14 LW)),nB⟩)=⟨true,.unb,.unb⟩:=by kernel_rfl
theorem vu:aE none nC idP eB [LS,LW,TC,uR] 0 0 (blk E wB3 (eBg 2) ⟨mrg W6 (mrg LS (mrg L14 LW)),nB⟩)=⟨true,.unb,.unb⟩:=by kernel_rfl
theorem sR:outR nR (.ref nC) [LV] (blk E wB4 eB ⟨.nil,nC⟩)=true:=by kernel_rfl
theorem rW:((List.range 7).all fun m=>leT none nC idP (Wm m) (Wm m)&&(aw (mrg LS (mrg L14 LW)) (Wm m)&&(aw (mrg (Wm m) (mrg LS (mrg L14 LW))) (Wm m)&&aw (mrg LS (mrg TC Lc)) (Wm m))))=true:=by kernel_rfl
theorem dLW:aw (mrg LS (mrg TC Lc)) LW=true:=by kernel_rfl
theorem dLV:aw (mrg LS (mrg TC Lc)) LV=true:=by kernel_rfl
theorem lT2:((List.range 7).all fun m=>leT none nR idP Lc (Tg m 2)&&aw (mrg LS (mrg TC Lc)) (Tg m 2))=true:=by kernel_rfl
theorem lT:([0,1,3,4,5].all fun g=>leT none nR idP Lc (Tg 0 g)&&aw (mrg LS (mrg TC Lc)) (Tg 0 g))=true:=by kernel_rfl
end Gh
end
section
namespace Gh
open PySem
section
noncomputable def nD:Ps:=.i (.i (.o (.o (.o Z1))))
noncomputable def ZdW:Cell:=.ob false (kc0 [r 1,r 13,r 15,r 17,r 10,r 11,i 0])
noncomputable def ZdX:Cell:=.ob false (kc1 [r 2,r 3,r 4,r 5,r 6])
noncomputable def ZdY:V:=t [y 16]
noncomputable def ZdZ:V:=t [i 3,i 8,ZdY]
noncomputable def Zd0:V:=t [i 2,i 37,ZdY]
noncomputable def Zd1:V:=t [i 2,i 55,ZdY]
noncomputable def Zd2:V:=t [i 2,i 7,ZcN]
noncomputable def Zd3:V:=t [i 2,i 36,ZdY]
noncomputable def Zd4:V:=t [i 2,i 21,ZcN]
noncomputable def Zd5:V:=t [i 2,i 22,ZcN]
noncomputable def Zd6:V:=t [i 2,i 23,ZcN]
noncomputable def Zd7:V:=t [i 2,i 24,ZcN]
noncomputable def Zd8:V:=t [i 2,i 25,ZcN]
noncomputable def Zd9:V:=t [i 2,i 26,ZcN]
noncomputable def Zea:V:=t [i 2,i 27,ZcN]
noncomputable def Zeb:V:=t [i 2,i 28,ZcN]
noncomputable def Zec:V:=t [i 2,i 29,ZcN]
noncomputable def Zed:V:=t [i 2,i 30,ZcN]
noncomputable def Zee:V:=t [i 2,i 31,ZcN]
noncomputable def Zef:V:=t [i 2,ZcS,ZcN]
noncomputable def Zeg:V:=t [i 2,i 33,ZcN]
noncomputable def Zeh:V:=t [i 4,y 16]
noncomputable def Zei:V:=t [i 2,i 35,ZdY]
noncomputable def Zej:List V:=[zU [4,9],zU [4,13],zU [4,12]]
noncomputable def Zek:Cell:=.ob true (.kdct 40 [(zU [1,0],i 0),(zU [1,1],i 1),(zU [1,2],i 2),(zU [1,3],i 3),(zU [1,4],i 4),(zU [1,5],i 5),(zU [1,6],i 6),(zU [1,7],i 7),(zU [1,8],i 8),(zU [1,9],i 9),(zU [1,10],i 10),(zU [1,11],i 11),(zU [1,12],i 12),(zU [1,13],ZcO),(zU [1,14],i 14),(zU [1,15],i 15),(zU [6,0],y 16),(ZdZ,y 17),(Zd0,y 18),(Zd1,y 19),(Zd2,ZcM),(Zd3,y 21),(Zd4,y 22),(Zd5,y 23),(Zd6,y 24),(Zd7,y 25),(Zd8,y 26),(Zd9,y 27),(Zea,y 28),(Zeb,y 29),(Zec,y 30),(Zed,y 31),(Zee,y 32),(Zef,y 33),(Zeg,y 34),(Zeh,y 35),(Zei,y 36)] Zej)
noncomputable def Zel:O:=.plst [(1,.none),(2,.none),(6,.none),(7,.none),(8,r 234),(9,r 235),(10,r 236),(20,r 576),(21,r 577),(22,r 578),(23,r 579)]
noncomputable def Zem:List V:=[i 1,i 1,i 1,i 1,i 1,i 1,i 1,i 1,i 1,i 1,i 1,i 1,i 1,i 1,i 1,i 1]
noncomputable def Zen:Cell:=.ob true (.gap 37 Zem [i 1,i 2,i 2,i 2,i 1,i 2,i 1,i 1,i 1,i 1,i 1,i 1,i 1,i 1,i 1,i 1,i 1,i 1,i 1,i 2,i 2])
noncomputable def Zeo:T:=zA (zT (.plst [(1,.none),(2,.none),(3,.none),(4,.none),(5,.none),(6,.none),(7,.none),(8,.none),(9,.none),(10,.none),(11,.none),(12,.none),(13,.none),(14,.none),(15,.none),(16,.none),(17,.none),(18,.none),(19,.none),(20,.none),(21,.none),(22,.none),(23,.none),(24,.none),(25,.none),(26,.none),(30,.none),(31,.none),(32,.none),(33,.none),(34,.none),(35,.none),(36,.none),(37,.none),(38,.none),(39,.none),(40,.none),(41,.none),(42,.none),(43,.none),(44,.none),(45,.none),(46,.none),(47,.none),(48,.none),(49,.none),(50,.none),(51,.none),(52,.none),(53,.none),(54,.none),(55,.none),(65,.none),(66,.none),(67,.none),(68,.none),(105,.none),(106,.none),(107,.none),(108,.none),(109,.none),(111,.none),(124,r 239),(125,r 392),(126,r 253),(127,r 278),(128,r 422),(129,r 479),(130,r 565),(131,r 305),(132,r 316),(133,r 532),(134,r 583),(135,r 639),(136,r 653),(137,r 664),(203,.none),(206,r 364),(208,.none),(209,.none),(210,.none)]))
noncomputable def Zep:List V:=[zU [1,0],zU [1,1],zU [1,2],zU [1,3],zU [1,4],zU [1,5],zU [1,6],zU [1,7],zU [1,8],zU [1,9],zU [1,10],zU [1,11],zU [1,12],zU [1,13],zU [1,14],zU [1,15]]
noncomputable def Zeq:O:=.gap 37 Zep [zU [6,0],ZdZ,Zd0,Zd1,Zd2,Zd3,Zd4,Zd5,Zd6,Zd7,Zd8,Zd9,Zea,Zeb,Zec,Zed,Zee,Zef,Zeg,Zeh,Zei]
noncomputable def Zer:T:=zT (.gap 37 Zem [i 1,i 2,i 2,i 2,i 1,i 2,i 1,i 1,i 1,i 1,i 1,i 1,i 1,i 1,i 1,i 1,i 1,i 1,i 1,i 2,i 2])
noncomputable def Zes:List V:=[i 0,i 0,i 0,i 0,i 0,i 0,i 0,i 0,i 0,i 0,i 0,i 0,i 0,i 0,i 0,i 0]
noncomputable def Zet:T:=.node (.ob true Zeq) Zer (zT (.gap 37 Zes [i 1,i 1,i 1,i 1,i 0,i 1,i 0,i 0,i 0,i 0,i 0,i 0,i 0,i 0,i 0,i 0,i 0,i 0,i 0,i 1,i 1]))
noncomputable def LD:T:=.node ZdW (.node ZdX (.node Zek (zA (zT Zel)) .nil) (.node Zen Zeo .nil)) Zet
noncomputable def Zeu:V:=zU [42,0]
noncomputable def Zev:T:=zA (zF (.lst 1 [Zeu]))
noncomputable def Zew:V:=t [ZcY]
noncomputable def Zex:V:=t [i 0]
noncomputable def Zey:V:=zU [65033,0]
noncomputable def Zez:V:=t [i 123,t [y 18,i 8]]
noncomputable def ZeA:V:=t [i 123,t [y 18,i 9]]
noncomputable def ZeB:V:=zU [65033,1]
noncomputable def ZeC:V:=t [i 164,y 16]
noncomputable def ZeD:V:=zU [32,1]
noncomputable def ZeE:V:=zU [88,0]
noncomputable def ZeF:V:=i 125
noncomputable def ZeG:V:=t [ZeF,t [y 18,i 9]]
noncomputable def ZeH:V:=t [i 123,t [y 18,i 10]]
noncomputable def ZeI:V:=t [ZeF,t [y 18,i 10]]
noncomputable def ZeJ:V:=.str 96
noncomputable def ZeK:V:=zU [65038,0]
noncomputable def ZeL:V:=zU [32,0]
noncomputable def ZeM:V:=zU [65036,0]
noncomputable def ZeN:V:=zU [65036,1]
noncomputable def ZeO:V:=t [i 163,y 16]
noncomputable def ZeP:V:=t [i 115,t [y 33,i 53,ZcN]]
noncomputable def ZeQ:V:=zU [122,0]
noncomputable def ZeR:T:=zA (zB Zc5)
noncomputable def ZeS:V:=i 128
noncomputable def ZeT:V:=t [i 140,y 16]
noncomputable def ZeU:V:=t [ZcY,ZcY]
noncomputable def ZeV:V:=zU [0,0]
noncomputable def ZeW:V:=t [i 123,t [y 19,i 20]]
noncomputable def ZeX:V:=t [i 123,t [y 19,i 21]]
noncomputable def ZeY:V:=t [ZcT,t [i 12,i 1,ZcN]]
noncomputable def MX:T:=zC (zC (zC (zC (zC (zC (zA (zB (zA (zF (kc4 [i 135,i 55,.str 254,i 6,i 22,i 0,r 640,r 641,i 1,ZcN,ZcN,ZcN,r 648,i 0]))))) (zC (zC (zF (kc5 [ZcN,i 2,r 285,r 286])) Zev) (zB (zF (kc4 [i 129,i 37,.str 312,i 6,i 0,i 0,r 480,r 481,i 0,t [i 7],Zew,Zex,r 488,i 0]))))) (zC (zC (zB (zF (.lst 21 [Zey,t [ZcT,t [y 18,i 206,ZcN]],Zey,Zez,Zey,ZeA,ZeB,ZeC,Zey,Zey,ZeA,ZeD,ZeE,ZeG,Zey,Zey,ZeH,ZeD,ZeE,ZeI,Zeu]))) (zA Zc5)) (zC (zB (zF (kc5 [ZcN,i 3,r 429,r 430]))) (zF (kc4 [i 124,i 37,ZeJ,i 6,ZcS,i 0,r 240,r 241,i 0,ZcN,ZcN,ZcN,r 248,i 0]))))) (zC (zC (zC (zB Zc5) (zA (zA (zF (kc4 [i 134,i 55,ZeJ,i 6,ZcS,i 0,r 584,r 585,i 0,t [y 18],Zew,Zex,r 592,i 0]))))) (zB Zda)) (zB Zda))) (zC (zC (zA (zB (zA (.node (.ob false (.lst 3 [Zey,t [i 115,t [y 19,i 134,ZcN]],Zeu])) (zF (kc3 [i 23,i 55,.str 289,i 7,i 1,i 0,.none])) .nil)))) (zB (zB (zA (zF (.lst 40 [Zey,ZeA,Zey,Zez,zU [142,0],zU [105,0],zU [63,39],Zey,ZeA,zU [58,12],zU [32,4],zU [56,16],Zey,ZeA,zU [32,2],zU [90,0],t [i 141,y 16],ZeK,ZeL,zU [65038,1],zU [56,32],ZeM,ZeN,Zey,Zez,ZeN,ZeO,ZeC,ZeN,ZeD,ZeE,zU [65038,1],ZeN,Zey,ZeA,zU [63,21],Zey,ZeM,t [ZeF,t [y 18,i 8]],Zeu])))))) (zC (zB (zB (zF (kc3 [i 9,i 37,.str 288,i 7,i 3,i 0,.none])))) (zA (zA (zA (zA (zF (.lst 48 [ZeB,Zey,ZeA,zU [67,7],t [i 114,.str 283],ZeP,ZeQ,Zey,t [ZcT,t [y 18,i 206,ZcN]],Zey,ZeA,ZeK,zU [56,27],Zey,Zez,ZeM,Zey,Zez,ZeM,ZeD,zU [89,0],ZeO,ZeC,ZeM,ZeD,zU [89,0],ZeK,ZeB,ZeM,zU [63,13],Zey,Zez,ZeB,zU [65033,2],ZeC,Zey,Zey,ZeA,ZeD,ZeE,ZeG,Zey,Zey,ZeH,ZeD,ZeE,ZeI,Zeu]))))))))) (zC (zC (zC (zC (zB (zA (zA (zF (kc3 [i 21,i 55,.str 331,i 7,i 1,i 0,.none]))))) (zA (zB (zA (zF (kc5 [ZcN,i 0,r 671,r 672])))))) (zC (zA (zB (zF (kc5 [ZcN,i 3,r 399,r 400])))) (zA (zA (zF (kc4 [i 131,i 37,.str 298,i 6,i 0,i 0,r 306,r 307,i 1,ZdY,Zew,Zex,r 314,i 0])))))) (zB (zB (zA Zc5)))) (zC (zC (zA (zC Zc5 (zA (zF (kc5 [ZcN,i 1,r 323,r 324]))))) (zC ZeR (zC (zA (zA (zF (kc4 [i 130,i 37,.str 318,i 6,i 0,i 0,r 566,r 567,i 0,ZcN,ZcN,ZcN,r 574,i 0])))) (zA (zF (kc5 [t [y 35,i 7],i 4,r 371,r 372])))))) (zC (zC (zA (zB (zA (zF (kc4 [i 136,i 55,.str 252,i 6,i 150,i 0,r 654,r 655,y 16,ZcN,ZcN,ZcN,r 662,i 0]))))) (zA (zB (zF (.lst 19 [ZeB,Zey,ZeA,zU [68,7],t [i 114,.str 264],ZeP,ZeQ,Zey,Zez,ZeB,zU [65033,2],ZeC,Zey,Zey,ZeH,ZeD,ZeE,ZeI,Zeu]))))) (zC (zA (zA (.node (.ob false (.lst 12 [ZeB,Zey,ZeA,zU [68,7],t [i 114,.str 264],ZeP,ZeQ,Zey,Zez,ZeB,ZeO,Zeu])) (zF (kc5 [t [i 7],i 5,r 539,r 540])) .nil))) (zC (zA Zc5) (zF (kc4 [i 126,i 37,.str 294,i 6,ZeS,i 0,r 254,r 255,i 7,ZcN,ZcN,ZcN,r 262,i 0])))))))) (zC (zC (zC (zC (zC (zB (zA (zA (zF (kc3 [i 20,i 55,.str 330,y 18,i 1,i 0,.none]))))) ZeR) (zA (zC Zda (zA (zA (zF (kc5 [ZcN,i 2,r 590,r 591]))))))) (zC (zC (zA (zB (.node (.ob false (kc4 [ZeF,i 37,.str 306,i 6,i 0,i 0,r 393,r 394,i 0,ZdY,Zew,Zex,r 401,i 0])) (zF (kc5 [ZdY,i 3,r 646,r 647])) .nil))) (zB (zB (zF (kc5 [t [i 7,y 16],i 5,r 486,r 487]))))) (zC (zA (zB (zA (zF (kc4 [i 137,i 55,.str 246,i 6,i 22,i 0,r 665,r 666,i 0,ZcN,ZcN,ZcN,r 673,i 0]))))) (zC (zA (zF (.lst 33 [zU [56,25],Zey,Zez,ZeM,ZeO,ZeT,zU [65038,1],ZeN,zU [58,13],ZeB,ZeT,zU [57,31],zU [56,21],ZeB,ZeT,zU [57,21],ZeN,ZeB,ZeT,t [i 111,t [i 12,i 3,ZcN]],zU [58,31],ZeM,ZeD,ZeE,ZeK,ZeM,Zey,ZeA,zU [63,1],ZeL,Zeu,ZeD,Zeu]))) (zF (kc5 [ZcN,i 2,r 246,r 247])))))) (zC (zC (zA (zC (zA (zF (.lst 3 [Zey,ZeA,Zeu]))) Zc5)) (zC (zA (zC (zA (zF (kc4 [i 133,i 37,.str 315,i 6,i 0,i 0,r 533,r 534,i 0,t [i 7,y 16],ZeU,ZeV,r 541,i 0]))) (zA (zF (.lst 3 [Zey,t [i 123,t [y 19,i 22]],Zeu]))))) (zB Zc5))) (zC (zB (zB (.node (.ob false (kc3 [i 10,i 37,.str 289,i 7,i 3,i 0,.none])) (zF (kc4 [i 206,i 37,.str 303,i 1,i 0,i 0,r 365,r 366,i 0,ZcN,ZcN,ZcN,r 373,i 0])) .nil))) (zC (zA (zA Zc5)) (zA (zA (.node (.ob false (kc4 [i 132,i 37,.str 249,i 6,i 22,i 0,r 317,r 318,y 21,ZcN,ZcN,ZcN,r 325,i 0])) (zF (.lst 24 [zU [56,10],Zey,Zez,ZeM,ZeN,ZeC,ZeM,ZeD,ZeE,ZeK,ZeM,Zey,ZeA,zU [63,1],Zey,ZeL,ZeG,Zey,Zey,ZeH,ZeD,ZeE,ZeI,Zeu])) .nil))))))) (zC (zC (zA (zA (zB (zA (zA (zF (kc3 [i 22,i 55,.str 332,y 16,i 1,i 0,.none]))))))) (zC (zB (zB (zF (kc3 [i 8,i 37,.str 285,y 35,i 3,i 0,.none])))) (zB (zA (zA (zF (kc5 [zU [7,12],i 2,r 312,r 313]))))))) (zC (zC (zC (zA (zC (zF (kc5 [ZcN,i 1,r 260,r 261])) (zA (zF (.lst 36 [Zey,t [i 123,t [y 19,i 23]],Zey,ZeW,ZeH,zU [59,9],t [i 114,.str 326],t [i 115,t [y 30,i 47,ZcN]],ZeQ,Zey,ZeW,ZeA,Zey,ZeX,zU [62,31],Zey,Zey,ZeW,Zez,Zey,ZeX,ZeO,t [ZeF,t [y 19,i 22]],Zey,Zey,ZeX,ZeD,ZeE,t [ZeF,t [y 19,i 21]],ZeD,Zeu,Zey,ZeM,t [ZeF,t [y 19,i 22]],ZeL,Zeu]))))) (zC (zB (zF (kc4 [ZeS,i 37,.str 309,i 6,ZeS,i 0,r 423,r 424,i 0,t [i 7,y 16],ZeU,ZeV,r 431,i 0]))) (zB (zF (.lst 47 [ZeB,Zey,ZeA,zU [68,7],t [i 114,.str 264],ZeP,ZeQ,Zey,Zey,ZeA,ZeD,zU [89,0],ZeG,ZeB,ZeK,zU [56,30],Zey,Zez,ZeM,Zey,Zez,ZeM,ZeD,ZeE,ZeO,ZeC,ZeM,ZeD,ZeE,ZeK,ZeM,Zey,ZeA,zU [63,16],Zey,Zez,Zey,ZeA,ZeN,ZeC,Zey,Zey,ZeH,ZeD,ZeE,ZeI,Zeu]))))) (zC (zA (zC (zF (kc4 [i 127,i 37,.str 296,i 6,ZeS,i 0,r 279,r 280,y 16,t [i 7],Zew,Zex,r 287,i 0])) (zA (zF (kc5 [ZcN,i 1,r 660,r 661]))))) (zB (zF (.lst 7 [Zey,ZeY,Zey,ZeL,t [i 141,y 16],t [ZeF,t [y 18,i 8]],Zeu]))))) (zC (zC (zB (zA (zA (zF (.lst 10 [Zey,ZeY,Zey,ZeB,t [ZeF,t [y 19,i 20]],Zey,ZeB,ZeH,t [ZeF,t [y 19,i 23]],Zeu]))))) (zA Zda)) (zC (zA Zc5) (zA (zA (zA (zF (kc5 [t [i 7,y 16],i 3,r 572,r 573]))))))))))
noncomputable def TD:T:=zC (zC (zC (zC (zB (zA (zF (zL 11 [124,126,127,131,132,206,125,128,129,133,130])))) ZcX) (zC ZcZ (zC Zc0 (zA (zF (.lst 1 [t [.str 256,y 16,i 136,i 0,ZcN]])))))) (zC (zC (zB (zA (zF (.lst 2 [t [.str 342,i 7,i 126,i 0,ZcN],t [.str 173,y 16,i 127,ZeS,t [i 7]]])))) (zC Zc1 (zA (zF (zL 4 [134,135,136,137]))))) Zc2)) (zC (zC (zC (zB Zc5) (zB (zA (zF (zL 4 [20,21,22,23]))))) (zC (zB (zA (zF (.lst 1 [y 21])))) (zC (zA (zF (.lst 1 [i 0]))) Zc5))) (zC (zC (zB Zc5) (zC (zA (zF (.lst 1 [y 36]))) Zc5)) (zC (zB (zA (zF (.lst 1 [i 0])))) (zA (zA (zF (zL 3 [8,9,10])))))))
end
theorem sD:aR nD .none [LD,TD,MX] (E.f (.o (.o (.o (.o (.i (.o .h)))))) [(r 0)] ⟨mrg LS (mrg TC Lc),nR⟩)=true:=by kernel_rfl
end Gh
end
section
namespace Gh
open PySem
section
noncomputable def aV:Ps:=.o (.o Z1)
noncomputable def wX:Ps:=.o (.o ZaX)
noncomputable def dj4 (S:T):Bool:=aw S TD&&(aw S MX&&(aw S LW&&aw S LV))
noncomputable def n1:Ps:=.o (.i (.i (.i (.o (.o (.o ZB))))))
noncomputable def n2:Ps:=.o (.o (.i (.i (.i (.i (.i ZB))))))
noncomputable def n3:Ps:=.o (.o (.o (.i (.o (.o Zaq)))))
noncomputable def n4:Ps:=.i (.i (.o (.o (.o (.i Zaq)))))
noncomputable def nX:Ps:=.i (.i (.i (.o (.o (.i Zaq)))))
noncomputable def ZeZ:Cell:=.ob false (.kdct 1000 [(zU [6,0],y 16),(Zeh,y 35)] [zU [1,0],zU [1,1],zU [1,2],zU [1,3],zU [1,4],zU [1,5],zU [1,6],zU [1,7],zU [1,8],zU [1,9],zU [1,10],zU [1,11],zU [1,12],zU [1,13],zU [1,14],zU [1,15],ZdZ,Zd0,Zd1,Zd2,Zd3,Zd4,Zd5,Zd6,Zd7,Zd8,Zd9,Zea,Zeb,Zec,Zed,Zee,Zef,Zeg,Zei,zU [4,9],zU [4,13],zU [4,12],t [i 2,i 48,ZcR],t [i 2,i 51,ZcN],t [i 2,i 34,ZcN],t [i 5,y 17],t [i 5,y 16]])
noncomputable def Ze0:T:=zA (zF (.kdct 1000 [(zU [6,0],y 16),(Zeh,y 35)] [zU [1,0],zU [1,1],zU [1,2],zU [1,3],zU [1,4],zU [1,5],zU [1,6],zU [1,7],zU [1,8],zU [1,9],zU [1,10],zU [1,11],zU [1,12],zU [1,13],zU [1,14],zU [1,15],ZdZ,Zd0,Zd1,Zd2,Zd3,Zd4,Zd5,Zd6,Zd7,Zd8,Zd9,Zea,Zeb,Zec,Zed,Zee,Zef,Zeg,Zei,zU [4,9],zU [4,13],zU [4,12],t [i 2,i 48,ZcR],t [i 2,i 51,ZcN],t [i 2,i 34,ZcN],t [i 5,y 17],t [i 5,y 16]]))
noncomputable def K0a:T:=zA Ze0
noncomputable def Ze1:T:=zA (zA (zT Zel))
noncomputable def R0a:T:=.node ZdW (.node ZdX Ze1 (zA Zeo)) .nil
noncomputable def X0a:T:=.node .no .nil .nil
noncomputable def M0a:T:=zA (zB (zB (zF (.plst [(37,r 73),(55,r 83)]))))
noncomputable def O0a:T:=mrg R0a X0a
noncomputable def K1a:T:=zC (zC (zT (.kdct 40 [(zU [1,0],i 0),(zU [1,1],i 1),(zU [1,2],i 2),(zU [1,3],i 3),(zU [1,4],i 4),(zU [1,5],i 5),(zU [1,6],i 6),(zU [1,7],i 7),(zU [1,8],i 8),(zU [1,9],i 9),(zU [1,10],i 10),(zU [1,11],i 11),(zU [1,12],i 12),(zU [1,13],ZcO),(zU [1,14],i 14),(zU [1,15],i 15),(zU [6,0],y 16),(ZdZ,y 17),(Zd0,y 18),(Zd1,y 19),(Zd2,ZcM),(Zd3,y 21),(Zd4,y 22),(Zd5,y 23),(Zd6,y 24),(Zd7,y 25),(Zd8,y 26),(Zd9,y 27),(Zea,y 28),(Zeb,y 29),(Zec,y 30),(Zed,y 31),(Zee,y 32),(Zef,y 33),(Zeg,y 34),(Zeh,y 35),(Zei,y 36)] Zej)) Zer) Zet
noncomputable def R1a:T:=.node ZdW (.node ZdX (zA (zA (zT (.plst [(1,.none),(2,.none),(6,r 675),(7,r 676),(8,r 234),(9,r 235),(10,r 236),(20,r 576),(21,r 577),(22,r 578),(23,r 579)])))) (zA (zA (zT (.plst [(1,.none),(2,.none),(3,.none),(4,.none),(5,.none),(6,.none),(7,.none),(8,.none),(9,.none),(10,.none),(11,.none),(12,.none),(13,.none),(14,.none),(15,.none),(16,.none),(17,.none),(18,.none),(19,.none),(20,.none),(21,.none),(22,.none),(23,.none),(24,.none),(25,.none),(26,.none),(30,.none),(31,.none),(32,.none),(33,.none),(34,.none),(35,.none),(36,.none),(37,.none),(38,.none),(39,.none),(40,.none),(41,.none),(42,.none),(43,.none),(44,.none),(45,.none),(46,.none),(47,.none),(48,.none),(49,.none),(50,.none),(51,.none),(52,.none),(53,.none),(54,.none),(55,.none),(65,r 678),(66,r 689),(67,r 704),(68,r 715),(105,.none),(106,.none),(107,.none),(108,.none),(109,.none),(111,.none),(124,r 239),(125,r 392),(126,r 253),(127,r 278),(128,r 422),(129,r 479),(130,r 565),(131,r 305),(132,r 316),(133,r 532),(134,r 583),(135,r 639),(136,r 653),(137,r 664),(203,.none),(206,r 364),(208,r 736),(209,r 755),(210,r 774)]))))) .nil
noncomputable def Ze2:T:=zA (zB (zF (kc5 [ZcN,i 1,r 781,r 782])))
noncomputable def Ze3:V:=t [i 123,t [y 17,i 6]]
noncomputable def Ze4:T:=zA (zF (.lst 9 [Zey,Ze3,zU [58,6],t [i 114,.str 234],t [i 115,t [y 30,i 47,ZcN]],ZeQ,Zey,t [i 123,t [y 17,i 7]],Zeu]))
noncomputable def Ze5:V:=t [i 124,t [y 17,i 7]]
noncomputable def Ze6:V:=t [i 111,t [i 12,i 2,ZcN]]
noncomputable def Ze7:T:=zA (zF (.lst 10 [Zey,Ze3,zU [58,5],t [i 114,.str 134],Zeu,Zey,Ze5,t [i 65046,y 16],Ze6,Zeu]))
noncomputable def Ze8:T:=zA (zF (kc3 [i 6,i 8,.str 226,i 1,i 1,i 0,.none]))
noncomputable def Ze9:T:=zB (zB Zc5)
noncomputable def Zfa:V:=.str 104
noncomputable def Zfb:T:=zF (.lst 10 [Zey,Ze3,zU [58,5],ZeL,Zeu,Zey,Ze5,t [i 65046,y 16],t [i 111,t [i 12,i 4,ZcN]],Zeu])
noncomputable def Zfc:T:=zA (zF (.lst 7 [Zey,ZeB,t [ZeF,t [y 17,i 7]],Zey,ZeD,t [ZeF,t [y 17,i 6]],Zeu]))
noncomputable def Zfd:T:=zA (zF (kc3 [i 7,i 8,.str 227,y 16,i 1,i 0,.none]))
noncomputable def Zfe:T:=zA (zF (.lst 3 [Zey,t [i 123,t [y 17,i 7]],Zeu]))
noncomputable def Zff:T:=zA (zF (.lst 17 [Zey,Ze3,zU [58,7],ZeB,zU [20,0],zU [65025,0],Zeu,ZeB,zU [58,11],ZeL,Zeu,Zey,Ze5,ZeB,t [i 65046,y 16],t [i 111,t [i 12,i 3,ZcN]],Zeu]))
noncomputable def Zfg:V:=.str 108
noncomputable def X1a:T:=zC (zC (zC (zC (zB (zC (zA Ze2) (zA (zB (zA (zF (kc5 [ZcN,i 2,r 685,r 686]))))))) (zA (zC (zB (zB Ze4)) (zB (zB Ze7))))) (zC (zC (zB (zA (zB Ze8))) (zC Ze9 (zB (zB (zA (zF (kc4 [i 209,i 8,Zfa,i 6,i 2,i 0,r 756,r 757,i 1,ZcP,Zew,Zex,r 764,i 0]))))))) (zC (zA (zB (zB (zA (zF (kc4 [i 68,i 8,.str 238,i 6,i 0,i 0,r 716,r 717,y 16,ZcN,ZcN,ZcN,r 724,i 0])))))) (zB Ze9)))) (zC (zC (zB (zB (zA (zB (zA (zF (kc4 [i 66,i 8,.str 230,i 6,ZeS,i 0,r 690,r 691,i 1,ZcN,ZcN,ZcN,r 698,i 0]))))))) (zC (zC (zB (zB (zA (zF (kc5 [ZcN,i 1,r 711,r 712]))))) (zB (zB (zA (zF (kc5 [ZcN,i 1,r 743,r 744])))))) (zB ZeR))) (zB (zA (zC (zA (zA (zB Zfb))) (zA (zB Zfc))))))) (zC (zC (zC (zA (zC (zB (zB (zA (zF (kc4 [i 67,i 8,.str 236,i 6,ZeS,i 0,r 705,r 706,y 16,ZcN,ZcN,ZcN,r 713,i 0]))))) (zB (zB (zA (zF (kc4 [i 208,i 8,.str 100,i 6,i 2,i 0,r 737,r 738,ZcO,ZcN,ZcN,ZcN,r 745,i 0]))))))) (zC (zC Ze9 Ze9) (zB (zA (zB (zA (zF (.lst 3 [Zey,Ze3,Zeu])))))))) (zC (zC (zB (zA (zB Zfd))) (zA (zB (zB (zA (zF (kc5 [ZcN,i 1,r 722,r 723]))))))) (zB (zB (zB (zB (zA (zF (kc5 [ZcN,i 2,r 762,r 763]))))))))) (zC (zC (zB (zA (zB (zB Zfe)))) (zB (zB (zC (zB (zA (zF (kc5 [ZcN,i 1,r 696,r 697])))) (zB Zff))))) (zC (zA (zC (zA (zA (zB (zF (kc4 [i 210,i 8,Zfg,i 6,i 2,i 0,r 775,r 776,i 7,ZcN,ZcN,ZcN,r 783,i 0]))))) (zA (zB (zA (zF (kc4 [i 65,i 8,ZeJ,i 6,ZcS,i 0,r 679,r 680,i 0,ZdY,Zew,Zex,r 687,i 0]))))))) (zA (zC Zdb ZeR)))))
noncomputable def M1a:T:=zC (zC (zC Zc6 (zA (zA (zB (zF (zL 7 [65,66,67,68,208,209,210])))))) (zC Zc7 (.node Zc8 (zA (zB (zF (.lst 2 [t [.str 240,i 1,i 66,i 0,ZcN],t [.str 241,y 16,i 67,i 0,ZcN]])))) Zc9))) (zC Zdc (zC (zA (zA (zB (zF (.lst 2 [i 6,i 7]))))) (zC (zA Zda) (zB Zc5))))
noncomputable def O1a:T:=mrg R1a X1a
noncomputable def K1b:T:=zC (zC (zT (.kdct 40 [(zU [1,0],i 0),(zU [1,1],i 1),(zU [1,2],i 2),(zU [1,3],i 3),(zU [1,4],i 4),(zU [1,5],i 5),(zU [1,6],i 6),(zU [1,7],i 7),(zU [1,8],i 8),(zU [1,9],i 9),(zU [1,10],i 10),(zU [1,11],i 11),(zU [1,12],i 12),(zU [1,13],ZcO),(zU [1,14],i 14),(zU [1,15],i 15),(zU [6,0],y 16),(ZdZ,y 17),(Zd0,y 18),(Zd1,y 19),(Zd2,ZcM),(Zd3,y 21),(Zd4,y 22),(Zd5,y 23),(Zd6,y 24),(Zd7,y 25),(Zd8,y 26),(Zd9,y 27),(Zea,y 28),(Zeb,y 29),(Zec,y 30),(Zed,y 31),(Zee,y 32),(Zef,y 33),(Zeg,y 34),(Zeh,y 35),(Zei,y 36)] Zej)) Zer) Zet
noncomputable def R1b:T:=.node ZdW (.node ZdX (zA (zA (zF (.plst [(1,.none),(2,.none),(6,r 1038),(7,r 1039),(8,r 234),(9,r 235),(10,r 236),(20,r 576),(21,r 577),(22,r 578),(23,r 579)])))) (zA (zA (zF (.plst [(1,.none),(2,.none),(3,.none),(4,.none),(5,.none),(6,.none),(7,.none),(8,.none),(9,.none),(10,.none),(11,.none),(12,.none),(13,.none),(14,.none),(15,.none),(16,.none),(17,.none),(18,.none),(19,.none),(20,.none),(21,.none),(22,.none),(23,.none),(24,.none),(25,.none),(26,.none),(30,.none),(31,.none),(32,.none),(33,.none),(34,.none),(35,.none),(36,.none),(37,.none),(38,.none),(39,.none),(40,.none),(41,.none),(42,.none),(43,.none),(44,.none),(45,.none),(46,.none),(47,.none),(48,.none),(49,.none),(50,.none),(51,.none),(52,.none),(53,.none),(54,.none),(55,.none),(65,r 1041),(66,r 1052),(67,r 1067),(68,r 1078),(105,.none),(106,.none),(107,.none),(108,.none),(109,.none),(111,.none),(124,r 239),(125,r 392),(126,r 253),(127,r 278),(128,r 422),(129,r 479),(130,r 565),(131,r 305),(132,r 316),(133,r 532),(134,r 583),(135,r 639),(136,r 653),(137,r 664),(203,.none),(206,r 364),(208,r 1099),(209,r 1118),(210,r 1137)]))))) .nil
noncomputable def Zfh:T:=zB (zA (zA Zc5))
noncomputable def Zfi:T:=zA (zA (zA Zc5))
noncomputable def X1b:T:=zC (zC (zC (zC (zC (zA (zB (zA (zA (zA (zF (kc5 [ZcN,i 1,r 1085,r 1086]))))))) (zA (zA (zA (zA Zfd))))) (zA (zB (zB (zA (zA (zA (zF (kc5 [ZcN,i 2,r 1125,r 1126]))))))))) (zC (zC (zB (zA (zA (zA (zA (zF (.lst 3 [Zey,Ze3,Zeu]))))))) (zC Zfh Zfi)) (zA (zC (zB (zA (zA (zA (zF (kc4 [i 208,i 8,.str 100,i 6,i 2,i 0,r 1100,r 1101,ZcO,ZcN,ZcN,ZcN,r 1108,i 0])))))) (zA (zA (zA (zA (zF (kc4 [i 67,i 8,.str 236,i 6,ZeS,i 0,r 1068,r 1069,y 16,ZcN,ZcN,ZcN,r 1076,i 0])))))))))) (zC (zC (zB (zC (zA (zA (zA (zA (zF (kc4 [i 65,i 8,ZeJ,i 6,ZcS,i 0,r 1042,r 1043,i 0,ZdY,Zew,Zex,r 1050,i 0])))))) (zB (zA (zA (zA (zF (kc4 [i 210,i 8,Zfg,i 6,i 2,i 0,r 1138,r 1139,i 7,ZcN,ZcN,ZcN,r 1146,i 0])))))))) (zB (zC Zfi Zfh))) (zC (zA (zB (zC (zA (zA (zA (zF (kc5 [ZcN,i 1,r 1059,r 1060]))))) (zA (zA Zff))))) (zB (zB (zA (zA (zA Zfe)))))))) (zC (zC (zB (zB (zC (zA (zA (zA Zfc))) (zB (zA (zA (zA Zfb))))))) (zC (zC (zB Zfi) (zC (zB (zA (zA (zA (zF (kc5 [ZcN,i 1,r 1106,r 1107])))))) (zA (zA (zA (zA (zF (kc5 [ZcN,i 1,r 1074,r 1075])))))))) (zB (zA (zA (zA (zA (zA (zF (kc4 [i 66,i 8,.str 230,i 6,ZeS,i 0,r 1053,r 1054,i 1,ZcN,ZcN,ZcN,r 1061,i 0])))))))))) (zC (zC (zB (zC (zB (zA (zA Ze7))) (zA (zA (zA Ze4))))) (zB (zC (zA (zA (zA (zA (zF (kc5 [ZcN,i 2,r 1048,r 1049])))))) (zB (zA (zA (zA (zF (kc5 [ZcN,i 1,r 1144,r 1145]))))))))) (zC (zC (zB Zfh) (zB (zA (zA (zA (zA (zF (kc4 [i 68,i 8,.str 238,i 6,i 0,i 0,r 1079,r 1080,y 16,ZcN,ZcN,ZcN,r 1087,i 0])))))))) (zC (zA (zA (zA (zA Ze8)))) (zC (zB (zA (zA (zA (zF (kc4 [i 209,i 8,Zfa,i 6,i 2,i 0,r 1119,r 1120,i 1,ZcP,Zew,Zex,r 1127,i 0])))))) Zfi)))))
noncomputable def M1b:T:=zC (zC (zC Zc6 (zA (zA (zB (zF (zL 7 [65,66,67,68,208,209,210])))))) (zC Zc7 (.node Zc8 (zA (zB (zF (.lst 2 [t [.str 240,i 1,i 66,i 0,ZcN],t [.str 241,y 16,i 67,i 0,ZcN]])))) Zc9))) (zC Zdc (zC (zA (zA (zB (zF (.lst 2 [i 6,i 7]))))) (zC (zA Zda) (zB Zc5))))
noncomputable def O1b:T:=mrg R1b X1b
noncomputable def Zfj:T:=zT (.gap 38 Zem [i 1,i 2,i 2,i 2,i 1,i 2,i 1,i 1,i 1,i 1,i 1,i 1,i 1,i 1,i 1,i 1,i 1,i 1,i 1,i 2,i 2,i 2])
noncomputable def Zfk:T:=zT (.gap 38 Zes [i 1,i 1,i 1,i 1,i 0,i 1,i 0,i 0,i 0,i 0,i 0,i 0,i 0,i 0,i 0,i 0,i 0,i 0,i 0,i 1,i 1,i 0])
noncomputable def K3a:T:=zC (zC (zT (.kdct 41 [(zU [1,0],i 0),(zU [1,1],i 1),(zU [1,2],i 2),(zU [1,3],i 3),(zU [1,4],i 4),(zU [1,5],i 5),(zU [1,6],i 6),(zU [1,7],i 7),(zU [1,8],i 8),(zU [1,9],i 9),(zU [1,10],i 10),(zU [1,11],i 11),(zU [1,12],i 12),(zU [1,13],ZcO),(zU [1,14],i 14),(zU [1,15],i 15),(zU [6,0],y 16),(ZdZ,y 17),(Zd0,y 18),(Zd1,y 19),(Zd2,ZcM),(Zd3,y 21),(Zd4,y 22),(Zd5,y 23),(Zd6,y 24),(Zd7,y 25),(Zd8,y 26),(Zd9,y 27),(Zea,y 28),(Zeb,y 29),(Zec,y 30),(Zed,y 31),(Zee,y 32),(Zef,y 33),(Zeg,y 34),(Zeh,y 35),(Zei,y 36),(t [i 2,i 48,ZcR],y 37)] Zej)) Zfj) (.node (.ob true (.gap 38 Zep [zU [6,0],ZdZ,Zd0,Zd1,Zd2,Zd3,Zd4,Zd5,Zd6,Zd7,Zd8,Zd9,Zea,Zeb,Zec,Zed,Zee,Zef,Zeg,Zeh,Zei,t [i 2,i 48,ZcR]])) Zfj Zfk)
noncomputable def R3a:T:=.node ZdW (.node ZdX Ze1 (zA (zA (zT (.plst [(1,.none),(2,.none),(3,.none),(4,.none),(5,.none),(6,.none),(7,.none),(8,.none),(9,.none),(10,r 674),(11,r 678),(12,r 682),(13,r 686),(14,r 691),(15,r 701),(16,r 705),(17,r 710),(18,r 720),(19,r 724),(20,r 729),(21,.none),(22,.none),(23,.none),(24,.none),(25,.none),(26,.none),(30,.none),(31,.none),(32,.none),(33,.none),(34,.none),(35,.none),(36,.none),(37,.none),(38,.none),(39,.none),(40,.none),(41,.none),(42,.none),(43,.none),(44,.none),(45,.none),(46,.none),(47,.none),(48,.none),(49,.none),(50,.none),(51,.none),(52,.none),(53,.none),(54,.none),(55,.none),(65,.none),(66,.none),(67,.none),(68,.none),(105,r 739),(106,.none),(107,.none),(108,.none),(109,.none),(111,.none),(124,r 239),(125,r 392),(126,r 253),(127,r 278),(128,r 422),(129,r 479),(130,r 565),(131,r 305),(132,r 316),(133,r 532),(134,r 583),(135,r 639),(136,r 653),(137,r 664),(203,.none),(206,r 364),(208,.none),(209,.none),(210,.none)]))))) .nil
noncomputable def Zfl:V:=t [ZcT,t [ZcO,i 10,ZcN]]
noncomputable def Zfm:T:=zA (zF (.lst 14 [Zey,zU [58,4],t [i 114,.str 134],zU [56,6],Zey,Ze6,ZeB,zU [58,10],t [i 114,.str 134],zU [56,12],ZeB,Ze6,Zfl,Zeu]))
noncomputable def Zfn:T:=zA (zF (.lst 6 [Zey,ZeB,t [ZcT,t [ZcO,ZcO,ZcN]],ZeL,zU [65025,0],Zeu]))
noncomputable def X3a:T:=zC (zC (zC (zA (zB (zA (zB (zB (zA (zF (kc5 [ZcN,i 1,r 717,r 718])))))))) (zC (zC (zB (zB (zB (zA (zF (kc4 [i 105,i 4,.str 168,i 6,i 22,i 0,r 740,r 741,i 7,ZcR,Zew,Zex,.none,i 9])))))) (zB (zA (zB (zA (zF (kc4 [i 14,i 4,.str 152,i 6,i 129,i 0,r 692,r 693,i 1,ZcQ,ZeU,ZeV,r 700,i 0]))))))) (zB (zB ZeR)))) (zC (zC (zA (zC (zB (zB (zA (zF (kc4 [i 16,i 4,Zfg,i 6,i 2,i 0,r 706,r 707,i 7,ZcN,ZcN,ZcN,.none,i 6]))))) Ze9)) (zB (zA (zB (zB (zA (zF (kc4 [i 20,i 4,.str 139,i 6,i 1,i 0,r 730,r 731,ZcO,zU [12,12],ZeU,ZeV,r 738,i 0])))))))) (zB (zC (zA (zB (zB (zA (zF (.lst 2 [Zey,Zeu])))))) (zB (zA (zB (zA (zF (kc4 [i 15,i 4,Zfa,i 6,i 2,i 0,r 702,r 703,i 1,ZcP,Zew,Zex,.none,i 5])))))))))) (zC (zC (zA (zC (zB (zB (zB Zfm))) (zA (zB (zB (zA (zF (kc4 [i 18,i 4,.str 160,i 6,i 0,i 0,r 721,r 722,ZcO,zU [7,7],ZeU,ZeV,.none,i 7])))))))) (zC (zB (zA (zB (zB (zA (zF (kc4 [i 19,i 4,.str 163,i 6,i 0,i 0,r 725,r 726,i 7,ZcR,Zew,Zex,.none,i 8]))))))) (zB (zB (zA (zB (zA (zF (kc5 [ZcN,i 2,r 698,r 699]))))))))) (zC (zC (zA (zB (zC (zB (zA (zF (kc4 [i 10,i 4,.str 139,i 6,i 1,i 0,r 675,r 676,ZcO,ZcQ,ZeU,ZeV,.none,i 1])))) (zB (zA (zF (kc5 [ZcN,i 2,r 736,r 737]))))))) (zC (zB (zA (zB (zA (zF (kc4 [i 12,i 4,.str 144,i 6,ZeS,i 0,r 683,r 684,i 2,t [i 7],Zew,Zex,.none,i 3])))))) (zB (zA (zB Zfn))))) (zC (zA (zC (zB (zB (zA (zF (kc4 [i 17,i 4,.str 100,i 6,i 2,i 0,r 711,r 712,ZcO,ZcN,ZcN,ZcN,r 719,i 0]))))) (zA (zB (zA (zF (kc4 [i 11,i 4,.str 126,i 6,ZeS,i 0,r 679,r 680,i 7,ZcN,ZcN,ZcN,.none,i 2]))))))) (zA (zC Ze9 (zA (zB (zA (zF (kc4 [ZcO,i 4,.str 148,i 6,i 129,i 0,r 687,r 688,i 1,ZcQ,ZeU,ZeV,.none,i 4]))))))))))
noncomputable def M3a:T:=zC (zC (zC Zdb (zA (zA (zB (zF (zL 12 [10,11,12,13,14,15,16,17,18,19,20,105])))))) (zC Zdb (.node Zdd (zA (zB (zF (.lst 2 [t [.str 129,i 7,i 11,i 0,ZcN],t [.str 173,i 2,i 12,i 0,t [i 7]]])))) Zde))) (zC (zC Zdb Zdb) (zC Zdb (zC (zA Zda) (zB (zA (zF (.lst 1 [y 37])))))))
noncomputable def O3a:T:=mrg R3a X3a
noncomputable def K3b:T:=zA Ze0
noncomputable def R3b:T:=.node ZdW (.node ZdX (zA (zA (zF Zel))) (zA (zA (zF (.plst [(1,.none),(2,.none),(3,.none),(4,.none),(5,.none),(6,.none),(7,.none),(8,.none),(9,.none),(10,r 1037),(11,r 1041),(12,r 1045),(13,r 1049),(14,r 1054),(15,r 1064),(16,r 1068),(17,r 1073),(18,r 1083),(19,r 1087),(20,r 1092),(21,.none),(22,.none),(23,.none),(24,.none),(25,.none),(26,.none),(30,.none),(31,.none),(32,.none),(33,.none),(34,.none),(35,.none),(36,.none),(37,.none),(38,.none),(39,.none),(40,.none),(41,.none),(42,.none),(43,.none),(44,.none),(45,.none),(46,.none),(47,.none),(48,.none),(49,.none),(50,.none),(51,.none),(52,.none),(53,.none),(54,.none),(55,.none),(65,.none),(66,.none),(67,.none),(68,.none),(105,r 1102),(106,.none),(107,.none),(108,.none),(109,.none),(111,.none),(124,r 239),(125,r 392),(126,r 253),(127,r 278),(128,r 422),(129,r 479),(130,r 565),(131,r 305),(132,r 316),(133,r 532),(134,r 583),(135,r 639),(136,r 653),(137,r 664),(203,.none),(206,r 364),(208,.none),(209,.none),(210,.none)]))))) .nil
noncomputable def X3b:T:=zC (zC (zC (zC (zA (zA (zB (zA (zA (zA (zF (kc4 [i 19,i 4,.str 163,i 6,i 0,i 0,r 1088,r 1089,i 7,ZcR,Zew,Zex,.none,i 8])))))))) (zA (zB (zA (zA (zA (zA (zF (kc5 [ZcN,i 2,r 1061,r 1062]))))))))) (zB (zC (zA (zB (zA (zA Zfm)))) (zB (zA (zA (zA (zA (zF (kc4 [i 18,i 4,.str 160,i 6,i 0,i 0,r 1084,r 1085,ZcO,zU [7,7],ZeU,ZeV,.none,i 7])))))))))) (zC (zC (zB (zC (zA (zA (zA (zA (zF (kc4 [i 11,i 4,.str 126,i 6,ZeS,i 0,r 1042,r 1043,i 7,ZcN,ZcN,ZcN,.none,i 2])))))) (zA (zA (zA (zA (zF (kc4 [i 17,i 4,.str 100,i 6,i 2,i 0,r 1074,r 1075,ZcO,ZcN,ZcN,ZcN,r 1082,i 0])))))))) (zB (zC (zA (zA (zA (zA (zF (kc4 [ZcO,i 4,.str 148,i 6,i 129,i 0,r 1050,r 1051,i 1,ZcQ,ZeU,ZeV,.none,i 4])))))) Zfi))) (zC (zC (zB (zA (zA (zA Zfn)))) (zA (zA (zA (zA (zA (zF (kc4 [i 12,i 4,.str 144,i 6,ZeS,i 0,r 1046,r 1047,i 2,t [i 7],Zew,Zex,.none,i 3])))))))) (zA (zA (zC (zA (zA (zA (zF (kc4 [i 10,i 4,.str 139,i 6,i 1,i 0,r 1038,r 1039,ZcO,ZcQ,ZeU,ZeV,.none,i 1]))))) (zA (zA (zA (zF (kc5 [ZcN,i 2,r 1099,r 1100]))))))))))) (zC (zC (zB (zC (zB (zA (zA (zA (zA (zF (kc4 [i 15,i 4,Zfa,i 6,i 2,i 0,r 1065,r 1066,i 1,ZcP,Zew,Zex,.none,i 5]))))))) (zB (zA (zA (zA (zA (zF (.lst 2 [Zey,Zeu]))))))))) (zC (zA (zA (zB (zA (zA (zA (zF (kc4 [i 20,i 4,.str 139,i 6,i 1,i 0,r 1093,r 1094,ZcO,zU [12,12],ZeU,ZeV,r 1101,i 0])))))))) (zA (zC Zfh (zA (zA (zA (zA (zF (kc4 [i 16,i 4,Zfg,i 6,i 2,i 0,r 1069,r 1070,i 7,ZcN,ZcN,ZcN,.none,i 6])))))))))) (zC (zB (zB (zB (zA (zA (zA (zA (zF (kc5 [ZcN,i 1,r 1080,r 1081]))))))))) (zC (zA (zB Zfi)) (zC (zA (zB (zA (zA (zA (zF (kc4 [i 105,i 4,.str 168,i 6,i 22,i 0,r 1103,r 1104,i 7,ZcR,Zew,Zex,.none,i 9]))))))) (zA (zA (zA (zA (zA (zF (kc4 [i 14,i 4,.str 152,i 6,i 129,i 0,r 1055,r 1056,i 1,ZcQ,ZeU,ZeV,r 1063,i 0])))))))))))
noncomputable def M3b:T:=zC (zC (zC Zdb (zA (zA (zB (zF (zL 12 [10,11,12,13,14,15,16,17,18,19,20,105])))))) (zC Zdb (.node Zdd (zA (zB (zF (.lst 2 [t [.str 129,i 7,i 11,i 0,ZcN],t [.str 173,i 2,i 12,i 0,t [i 7]]])))) Zde))) (zC (zC Zdb Zdb) (zC Zdb (zC (zA Zda) (zB (zA (zF (.lst 1 [y 37])))))))
noncomputable def O3b:T:=mrg R3b X3b
noncomputable def Zfo:T:=zT (.gap 38 Zem [i 1,i 2,i 2,i 2,i 1,i 2,i 1,i 1,i 1,i 1,i 1,i 1,i 1,i 1,i 1,i 1,i 1,i 1,i 1,i 2,i 2,i 1])
noncomputable def K4a:T:=zC (zC (zT (.kdct 41 [(zU [1,0],i 0),(zU [1,1],i 1),(zU [1,2],i 2),(zU [1,3],i 3),(zU [1,4],i 4),(zU [1,5],i 5),(zU [1,6],i 6),(zU [1,7],i 7),(zU [1,8],i 8),(zU [1,9],i 9),(zU [1,10],i 10),(zU [1,11],i 11),(zU [1,12],i 12),(zU [1,13],ZcO),(zU [1,14],i 14),(zU [1,15],i 15),(zU [6,0],y 16),(ZdZ,y 17),(Zd0,y 18),(Zd1,y 19),(Zd2,ZcM),(Zd3,y 21),(Zd4,y 22),(Zd5,y 23),(Zd6,y 24),(Zd7,y 25),(Zd8,y 26),(Zd9,y 27),(Zea,y 28),(Zeb,y 29),(Zec,y 30),(Zed,y 31),(Zee,y 32),(Zef,y 33),(Zeg,y 34),(Zeh,y 35),(Zei,y 36),(t [i 2,i 51,ZcN],y 37)] Zej)) Zfo) (.node (.ob true (.gap 38 Zep [zU [6,0],ZdZ,Zd0,Zd1,Zd2,Zd3,Zd4,Zd5,Zd6,Zd7,Zd8,Zd9,Zea,Zeb,Zec,Zed,Zee,Zef,Zeg,Zeh,Zei,t [i 2,i 51,ZcN]])) Zfo Zfk)
noncomputable def R4a:T:=.node ZdW (.node ZdX Ze1 (zA (zA (zT (.plst [(1,r 675),(2,r 685),(3,r 690),(4,r 700),(5,r 704),(6,r 708),(7,r 718),(8,r 728),(9,r 732),(10,.none),(11,.none),(12,.none),(13,.none),(14,.none),(15,.none),(16,.none),(17,.none),(18,.none),(19,.none),(20,.none),(21,.none),(22,.none),(23,.none),(24,.none),(25,.none),(26,.none),(30,.none),(31,.none),(32,.none),(33,.none),(34,.none),(35,.none),(36,.none),(37,.none),(38,.none),(39,.none),(40,.none),(41,.none),(42,.none),(43,.none),(44,.none),(45,.none),(46,.none),(47,.none),(48,.none),(49,.none),(50,.none),(51,.none),(52,.none),(53,.none),(54,.none),(55,.none),(65,.none),(66,.none),(67,.none),(68,.none),(105,.none),(106,.none),(107,.none),(108,.none),(109,.none),(111,.none),(124,r 239),(125,r 392),(126,r 253),(127,r 278),(128,r 422),(129,r 479),(130,r 565),(131,r 305),(132,r 316),(133,r 532),(134,r 583),(135,r 639),(136,r 653),(137,r 664),(203,r 736),(206,r 364),(208,.none),(209,.none),(210,.none)]))))) .nil
noncomputable def Zfp:T:=zA (zF (.lst 4 [Zey,ZeB,zU [65025,0],Zeu]))
noncomputable def X4a:T:=zC (zC (zC (zB (zB (zA (zB (zB (zA (zF (kc5 [ZcN,i 2,r 725,r 726])))))))) (zC (zA (zB (zA (zB (zA (zF (kc4 [i 1,i 1,ZeJ,i 6,ZcS,i 0,r 676,r 677,i 0,ZcN,ZcN,ZcN,r 684,i 0]))))))) (zC (zC Ze9 ZeR) (zB (zA (zB (zA (zF (kc5 [ZcN,i 2,r 697,r 698]))))))))) (zC (zB (zB (zB (zA (zB Zfp))))) (zC (zB (zA (zB (zB Zfp)))) (zA (zB (zA (zB (zA (zF (kc4 [i 2,i 1,.str 100,i 6,i 6,i 0,r 686,r 687,ZcO,ZcN,ZcN,ZcN,.none,i 10])))))))))) (zC (zC (zC (zA (zC (zB (zB (zA (zF (kc4 [i 5,i 1,.str 112,i 6,i 0,i 0,r 705,r 706,y 37,ZcN,ZcN,ZcN,.none,i 12]))))) (zB (zB (zA (zF (kc4 [i 203,i 5,.str 126,i 6,ZeS,i 0,r 737,r 738,i 7,ZcN,ZcN,ZcN,.none,i 27]))))))) (zB (zA (zB (zB (zA (zF (kc4 [i 8,i 2,Zfa,i 6,i 2,i 0,r 729,r 730,i 1,ZcP,Zew,Zex,.none,ZcO])))))))) (zC (zA (zA (zB (zB (zA (zF (kc4 [i 6,i 1,.str 58,i 4,i 6,i 0,r 709,r 710,i 0,ZcN,ZcN,ZcN,r 716,i 0]))))))) (zC (zC (zB (zB (zA (zF (kc5 [ZcN,i 0,r 714,r 715]))))) (zA (zB (zA (zF (kc5 [ZcN,i 0,r 682,r 683])))))) (zC (zB (zB (zA (zF (kc4 [i 9,i 2,Zfg,i 6,i 2,i 0,r 733,r 734,i 7,ZcN,ZcN,ZcN,.none,i 14]))))) (zA (zB (zA (zF (kc4 [i 4,i 1,Zfg,i 6,i 6,i 0,r 701,r 702,i 7,ZcN,ZcN,ZcN,.none,i 11]))))))))) (zC (zC (zB (zB (zA (zB (zA (zF (kc4 [i 3,i 1,Zfa,i 6,i 6,i 0,r 691,r 692,i 1,ZcP,Zew,Zex,r 699,i 0]))))))) (zC (zC (zB (zB Zev)) (zA (zB Zev))) (zB ZeR))) (zC (zB (zA Ze9)) (zA (zA (zB (zB (zA (zF (kc4 [i 7,i 1,.str 117,i 6,i 1,i 0,r 719,r 720,i 1,zU [12,12],ZeU,ZeV,r 727,i 0]))))))))))
noncomputable def Zfq:T:=zC (zC Zdf (zC Zdg (zB (zF (.lst 1 [i 203]))))) (zC (zC (zB (zF (zL 7 [1,2,3,4,5,6,7]))) Zda) (zA Zda))
noncomputable def Zfr:T:=zC Zdh (zC Zda (zB (zF (.lst 1 [t [.str 129,i 7,i 203,i 0,ZcN]]))))
noncomputable def Zfs:O:=kc2 [i 1,ZcY,i 1,i 0,Zad,r 94,r 95,r 96,r 97,r 98,r 99,i 0,i 0,Zad,r 100,r 101,r 102,i 6,i 0]
noncomputable def M4a:T:=zC (zC Zfq (zC Zfr (.node Zdi Zdf (zC (zB (zF (.lst 2 [i 8,i 9]))) (zA (zT Zfs)))))) Zdj
noncomputable def O4a:T:=mrg R4a X4a
noncomputable def K4b:T:=zA Ze0
noncomputable def R4b:T:=.node ZdW (.node ZdX (zA (zA (zF Zel))) (zA (zA (zF (.plst [(1,r 1038),(2,r 1048),(3,r 1053),(4,r 1063),(5,r 1067),(6,r 1071),(7,r 1081),(8,r 1091),(9,r 1095),(10,.none),(11,.none),(12,.none),(13,.none),(14,.none),(15,.none),(16,.none),(17,.none),(18,.none),(19,.none),(20,.none),(21,.none),(22,.none),(23,.none),(24,.none),(25,.none),(26,.none),(30,.none),(31,.none),(32,.none),(33,.none),(34,.none),(35,.none),(36,.none),(37,.none),(38,.none),(39,.none),(40,.none),(41,.none),(42,.none),(43,.none),(44,.none),(45,.none),(46,.none),(47,.none),(48,.none),(49,.none),(50,.none),(51,.none),(52,.none),(53,.none),(54,.none),(55,.none),(65,.none),(66,.none),(67,.none),(68,.none),(105,.none),(106,.none),(107,.none),(108,.none),(109,.none),(111,.none),(124,r 239),(125,r 392),(126,r 253),(127,r 278),(128,r 422),(129,r 479),(130,r 565),(131,r 305),(132,r 316),(133,r 532),(134,r 583),(135,r 639),(136,r 653),(137,r 664),(203,r 1099),(206,r 364),(208,.none),(209,.none),(210,.none)]))))) .nil
noncomputable def X4b:T:=zC (zC (zC (zC (zB (zB (zA (zA (zA (zA (zF (kc4 [i 6,i 1,.str 58,i 4,i 6,i 0,r 1072,r 1073,i 0,ZcN,ZcN,ZcN,r 1079,i 0])))))))) (zC (zC (zB (zA (zA (zA (zF (kc4 [i 9,i 2,Zfg,i 6,i 2,i 0,r 1096,r 1097,i 7,ZcN,ZcN,ZcN,.none,i 14])))))) (zA (zA (zA (zA (zF (kc4 [i 4,i 1,Zfg,i 6,i 6,i 0,r 1064,r 1065,i 7,ZcN,ZcN,ZcN,.none,i 11]))))))) (zC (zA (zA (zA (zA (zF (kc5 [ZcN,i 0,r 1045,r 1046])))))) (zA (zA (zA (zA (zF (kc5 [ZcN,i 0,r 1077,r 1078]))))))))) (zC (zA (zA (zB (zA (zA (zA (zF (kc4 [i 8,i 2,Zfa,i 6,i 2,i 0,r 1092,r 1093,i 1,ZcP,Zew,Zex,.none,ZcO])))))))) (zA (zC (zB (zA (zA (zA (zF (kc4 [i 203,i 5,.str 126,i 6,ZeS,i 0,r 1100,r 1101,i 7,ZcN,ZcN,ZcN,.none,i 27])))))) (zA (zA (zA (zA (zF (kc4 [i 5,i 1,.str 112,i 6,i 0,i 0,r 1068,r 1069,y 37,ZcN,ZcN,ZcN,.none,i 12])))))))))) (zC (zC (zA (zA Zfh)) (zB (zB (zA (zA (zA (zA (zF (kc4 [i 7,i 1,.str 117,i 6,i 1,i 0,r 1082,r 1083,i 1,zU [12,12],ZeU,ZeV,r 1090,i 0]))))))))) (zC (zC (zB Zfi) (zC (zA (zA (zA Zev))) (zA (zA (zA Zev))))) (zB (zA (zA (zA (zA (zA (zF (kc4 [i 3,i 1,Zfa,i 6,i 6,i 0,r 1054,r 1055,i 1,ZcP,Zew,Zex,r 1062,i 0]))))))))))) (zC (zC (zC (zA (zA (zB (zA (zA Zfp))))) (zB (zA (zA (zA (zA (zA (zF (kc4 [i 2,i 1,.str 100,i 6,i 6,i 0,r 1049,r 1050,ZcO,ZcN,ZcN,ZcN,.none,i 10]))))))))) (zA (zA (zB (zA (zA (zA Zfp))))))) (zC (zA (zA (zA (zB (zA (zA (zA (zF (kc5 [ZcN,i 2,r 1088,r 1089]))))))))) (zC (zC (zB (zA (zA (zA (zA (zF (kc5 [ZcN,i 2,r 1060,r 1061]))))))) (zC Zfi Zfi)) (zA (zA (zA (zA (zA (zA (zF (kc4 [i 1,i 1,ZeJ,i 6,ZcS,i 0,r 1039,r 1040,i 0,ZcN,ZcN,ZcN,r 1047,i 0])))))))))))
noncomputable def M4b:T:=zC (zC Zfq (zC Zfr (.node Zdi Zdf (zC (zB (zF (.lst 2 [i 8,i 9]))) (zA (zF Zfs)))))) Zdj
noncomputable def O4b:T:=mrg R4b X4b
noncomputable def K5a:T:=zC (zC (zT (.kdct 41 [(zU [1,0],i 0),(zU [1,1],i 1),(zU [1,2],i 2),(zU [1,3],i 3),(zU [1,4],i 4),(zU [1,5],i 5),(zU [1,6],i 6),(zU [1,7],i 7),(zU [1,8],i 8),(zU [1,9],i 9),(zU [1,10],i 10),(zU [1,11],i 11),(zU [1,12],i 12),(zU [1,13],ZcO),(zU [1,14],i 14),(zU [1,15],i 15),(zU [6,0],y 16),(ZdZ,y 17),(Zd0,y 18),(Zd1,y 19),(Zd2,ZcM),(Zd3,y 21),(Zd4,y 22),(Zd5,y 23),(Zd6,y 24),(Zd7,y 25),(Zd8,y 26),(Zd9,y 27),(Zea,y 28),(Zeb,y 29),(Zec,y 30),(Zed,y 31),(Zee,y 32),(Zef,y 33),(Zeg,y 34),(Zeh,y 35),(Zei,y 36),(t [i 2,i 34,ZcN],y 37)] Zej)) Zfo) (.node (.ob true (.gap 38 Zep [zU [6,0],ZdZ,Zd0,Zd1,Zd2,Zd3,Zd4,Zd5,Zd6,Zd7,Zd8,Zd9,Zea,Zeb,Zec,Zed,Zee,Zef,Zeg,Zeh,Zei,t [i 2,i 34,ZcN]])) Zfo Zfk)
noncomputable def R5a:T:=.node ZdW (.node ZdX Ze1 (zA (zA (zT (.plst [(1,.none),(2,.none),(3,.none),(4,.none),(5,.none),(6,.none),(7,.none),(8,.none),(9,.none),(10,.none),(11,.none),(12,.none),(13,.none),(14,.none),(15,.none),(16,.none),(17,.none),(18,.none),(19,.none),(20,.none),(21,.none),(22,.none),(23,.none),(24,.none),(25,.none),(26,.none),(30,.none),(31,.none),(32,.none),(33,.none),(34,.none),(35,.none),(36,.none),(37,.none),(38,.none),(39,.none),(40,.none),(41,.none),(42,.none),(43,.none),(44,.none),(45,.none),(46,.none),(47,.none),(48,.none),(49,.none),(50,.none),(51,.none),(52,.none),(53,.none),(54,.none),(55,.none),(65,.none),(66,.none),(67,.none),(68,.none),(105,.none),(106,r 674),(107,r 678),(108,r 682),(109,r 686),(111,r 690),(124,r 239),(125,r 392),(126,r 253),(127,r 278),(128,r 422),(129,r 479),(130,r 565),(131,r 305),(132,r 316),(133,r 532),(134,r 583),(135,r 639),(136,r 653),(137,r 664),(203,.none),(206,r 364),(208,.none),(209,.none),(210,.none)]))))) .nil
noncomputable def X5a:T:=zB (zB (zC (zC (zC (zB (zA (zB (zA (zF (kc4 [i 106,i 34,.str 246,i 6,i 14,i 0,r 675,r 676,i 0,ZcN,ZcN,ZcN,.none,i 0])))))) (zB (zA (zB (zA (zF (kc4 [i 111,i 48,.str 168,i 6,i 14,i 0,r 691,r 692,i 7,ZdY,Zew,Zex,.none,i 0]))))))) (zA (zB (zA (zB (zA (zF (kc4 [i 108,i 36,.str 252,i 6,i 142,i 0,r 683,r 684,y 16,ZcN,ZcN,ZcN,.none,i 0])))))))) (zC (zA (zB (zA (zB (zA (zF (kc4 [i 107,i 35,.str 249,i 6,i 14,i 0,r 679,r 680,y 21,ZcN,ZcN,ZcN,.none,i 0]))))))) (zA (zB (zA (zB (zA (zF (kc4 [i 109,i 36,.str 254,i 6,i 14,i 0,r 687,r 688,i 1,ZcN,ZcN,ZcN,.none,i 0]))))))))))
noncomputable def M5a:T:=zC (zC (zC (zC Zdk (zC Zdl (zB (zF (.lst 2 [i 108,i 109]))))) (zC (zC (zC Zc5 (zF (.lst 1 [i 106]))) Zda) Zdm)) (zC (zC (zC (zC (zA (zF (.lst 1 [i 111]))) Zc4) Zdn) (zC Zda (zB (zF (.lst 1 [t [.str 256,y 16,i 108,i 0,ZcN]]))))) (.node Zdo Zdf (zC (zB (zF (.lst 1 [i 107]))) Zdp)))) (zC (zC (zC Zdk Zdf) (zC Zdk Zdf)) (zC (zC (zC (zC Zc5 Zc4) (zB (zF (.lst 1 [y 37])))) Zdf) (zC Zdf (zC Zda Zdq))))
noncomputable def O5a:T:=mrg R5a X5a
noncomputable def K5b:T:=zA Ze0
noncomputable def R5b:T:=.node ZdW (.node ZdX (zA (zA (zF Zel))) (zA (zA (zF (.plst [(1,.none),(2,.none),(3,.none),(4,.none),(5,.none),(6,.none),(7,.none),(8,.none),(9,.none),(10,.none),(11,.none),(12,.none),(13,.none),(14,.none),(15,.none),(16,.none),(17,.none),(18,.none),(19,.none),(20,.none),(21,.none),(22,.none),(23,.none),(24,.none),(25,.none),(26,.none),(30,.none),(31,.none),(32,.none),(33,.none),(34,.none),(35,.none),(36,.none),(37,.none),(38,.none),(39,.none),(40,.none),(41,.none),(42,.none),(43,.none),(44,.none),(45,.none),(46,.none),(47,.none),(48,.none),(49,.none),(50,.none),(51,.none),(52,.none),(53,.none),(54,.none),(55,.none),(65,.none),(66,.none),(67,.none),(68,.none),(105,.none),(106,r 1037),(107,r 1041),(108,r 1045),(109,r 1049),(111,r 1053),(124,r 239),(125,r 392),(126,r 253),(127,r 278),(128,r 422),(129,r 479),(130,r 565),(131,r 305),(132,r 316),(133,r 532),(134,r 583),(135,r 639),(136,r 653),(137,r 664),(203,.none),(206,r 364),(208,.none),(209,.none),(210,.none)]))))) .nil
noncomputable def X5b:T:=zA (zB (zC (zC (zB (zA (zA (zA (zA (zA (zF (kc4 [i 107,i 35,.str 249,i 6,i 14,i 0,r 1042,r 1043,y 21,ZcN,ZcN,ZcN,.none,i 0])))))))) (zB (zA (zA (zA (zA (zA (zF (kc4 [i 109,i 36,.str 254,i 6,i 14,i 0,r 1050,r 1051,i 1,ZcN,ZcN,ZcN,.none,i 0]))))))))) (zC (zB (zA (zA (zA (zA (zA (zF (kc4 [i 108,i 36,.str 252,i 6,i 142,i 0,r 1046,r 1047,y 16,ZcN,ZcN,ZcN,.none,i 0])))))))) (zC (zA (zA (zA (zA (zA (zF (kc4 [i 106,i 34,.str 246,i 6,i 14,i 0,r 1038,r 1039,i 0,ZcN,ZcN,ZcN,.none,i 0]))))))) (zA (zA (zA (zA (zA (zF (kc4 [i 111,i 48,.str 168,i 6,i 14,i 0,r 1054,r 1055,i 7,ZdY,Zew,Zex,.none,i 0])))))))))))
noncomputable def M5b:T:=zC (zC (zC (zC Zdk (zC Zdl (zB (zF (.lst 2 [i 108,i 109]))))) (zC (zC (zC Zc5 (zF (.lst 1 [i 106]))) Zda) Zdm)) (zC (zC (zC (zC (zA (zF (.lst 1 [i 111]))) Zc4) Zdn) (zC Zda (zB (zF (.lst 1 [t [.str 256,y 16,i 108,i 0,ZcN]]))))) (.node Zdo Zdf (zC (zB (zF (.lst 1 [i 107]))) Zdp)))) (zC (zC (zC Zdk Zdf) (zC Zdk Zdf)) (zC (zC (zC (zC Zc5 Zc4) (zB (zF (.lst 1 [y 37])))) Zdf) (zC Zdf (zC Zda Zdq))))
noncomputable def O5b:T:=mrg R5b X5b
noncomputable def Zft:T:=zB (zB Zda)
noncomputable def Zfu:T:=zA (zB Zda)
noncomputable def Zfv:T:=zF (.lst 3 [Zey,t [ZcT,t [ZcM,i 21,ZcN]],Zeu])
noncomputable def Zfw:T:=zB (zA Zda)
noncomputable def Zfx:V:=t [i 123,t [ZcM,i 2]]
noncomputable def Zfy:T:=zF (.lst 4 [Zey,ZeB,t [ZcT,t [ZcM,i 22,ZcN]],Zeu])
noncomputable def X2:T:=zC (zC (zC (zC (zC (zC (zC (zB (zB (zF (kc4 [i 43,i 27,ZeJ,i 6,ZcS,i 0,r 896,r 897,i 0,ZcR,Zew,Zex,r 904,i 0])))) (zB (zC (zF (kc5 [ZcN,i 2,r 701,r 702])) (zF (kc5 [ZcN,i 1,r 957,r 958]))))) Zft) (zC (zC Ze2 (zB (zA (zF (kc4 [i 24,i 7,.str 193,i 6,i 134,i 0,r 720,r 721,ZcO,ZcN,ZcN,ZcN,r 728,i 0]))))) Zdb)) (zC (zC Zfu (zC (zA (zB (zF (kc4 [i 35,i 23,ZeJ,i 6,ZcS,i 0,r 808,r 809,i 0,ZcR,Zew,Zex,r 816,i 0])))) (zA (zB (zF (kc5 [ZcN,i 1,r 869,r 870])))))) (zC (zB (zB (zC Zc4 (zF (kc4 [i 51,i 31,ZeJ,i 6,ZcS,i 0,r 984,r 985,i 0,ZcR,Zew,Zex,r 992,i 0]))))) (zB (zB (zA Zfv)))))) (zC (zC (zC (zA (zA (zC (zA (zF (kc4 [i 55,i 33,ZeJ,i 6,ZcS,i 0,r 1028,r 1029,i 0,ZcR,Zew,Zex,r 1036,i 0]))) Zc4))) (zC (zB (zA (zF (kc3 [i 2,i 7,.str 208,ZcM,i 1,i 0,.none])))) (zB (zA (zF (kc5 [ZcN,i 1,r 737,r 738])))))) (zC (zC (zB (zB (zF (kc5 [ZcN,i 1,r 913,r 914])))) (zA (zB (zF (kc4 [i 39,i 25,ZeJ,i 6,ZcS,i 0,r 852,r 853,i 0,ZcR,Zew,Zex,r 860,i 0]))))) Zfu)) (zC (zC (zC (zA (zA Zc5)) (zB (zA (zF (.lst 9 [Zey,ZeY,Zey,ZeB,t [ZeF,t [ZcM,i 1]],Zey,zU [65033,2],t [ZeF,t [ZcM,i 2]],Zeu]))))) (zC (zB (zB (zF (kc4 [i 47,i 29,ZeJ,i 6,ZcS,i 0,r 940,r 941,i 0,ZcR,Zew,Zex,r 948,i 0])))) (zB (zB (zF (kc5 [ZcN,i 1,r 1001,r 1002])))))) (zC Zfw (zC (zA (zB (zF (kc5 [ZcN,i 1,r 825,r 826])))) (zB (zA (zF (kc4 [i 31,i 21,ZeJ,i 6,ZcS,i 0,r 764,r 765,i 0,ZcR,Zew,Zex,r 772,i 0]))))))))) (zC (zC (zC (zC (zC (zA (zA (zA (zF (kc5 [ZcN,i 1,r 1023,r 1024]))))) (zB (zB (zF (kc4 [i 49,i 30,ZeJ,i 6,ZcS,i 0,r 962,r 963,i 0,ZcR,Zew,Zex,r 970,i 0]))))) (zB (zB (zA (zF (.lst 3 [Zey,Zfx,Zeu])))))) (zC (zC (zA (zB (zF (kc4 [i 33,i 22,ZeJ,i 6,ZcS,i 0,r 786,r 787,i 0,ZcR,Zew,Zex,r 794,i 0])))) (zA (zB (zF (kc5 [ZcN,i 1,r 847,r 848]))))) (zC (zB Zc5) (zA Zda)))) (zC (zC Zft (zC (zB (zC (zF (kc4 [i 21,i 7,ZeJ,i 6,ZcS,i 0,r 682,r 683,i 0,ZcN,ZcN,ZcN,r 690,i 0])) (zF (kc5 [ZcN,i 1,r 935,r 936])))) (zA (zB (zF (kc4 [i 41,i 26,ZeJ,i 6,ZcS,i 0,r 874,r 875,i 0,ZcR,Zew,Zex,r 882,i 0])))))) (zC Zdb (zB (zB (zA (zF (kc5 [ZcN,i 1,r 759,r 760])))))))) (zC (zC (zC Zfw (zA (zA (zB (zF (kc5 [ZcN,i 1,r 803,r 804])))))) (zC (zC (zB (zB (zF (kc4 [i 45,i 28,ZeJ,i 6,ZcS,i 0,r 918,r 919,i 0,ZcR,Zew,Zex,r 926,i 0])))) (zB (zB (zF (kc5 [ZcN,i 1,r 979,r 980]))))) Zft)) (zC (zC (zB (zB (zA (zF (kc5 [ZcN,i 2,r 715,r 716]))))) (zB (zB (zC Zc4 (zF (kc4 [i 53,ZcS,ZeJ,i 6,ZcS,i 0,r 1006,r 1007,i 0,ZcR,Zew,Zex,r 1014,i 0])))))) (zC Zfu (zC (zC (zB (zF (kc4 [i 37,i 24,ZeJ,i 6,ZcS,i 0,r 830,r 831,i 0,ZcR,Zew,Zex,r 838,i 0]))) (zA (zF (.lst 6 [Zey,ZeY,Zey,ZeB,t [ZeF,t [ZcM,i 1]],Zeu])))) (zA (zB (zF (kc5 [ZcN,i 1,r 891,r 892])))))))))) (zC (zC (zC (zC (zC Zfi (zC (zB (zB (zF (kc4 [i 46,i 29,ZeJ,i 6,ZcS,i 0,r 929,r 930,i 0,ZcN,ZcN,ZcN,r 937,i 0])))) (zB (zB (zF (kc5 [ZcN,i 2,r 990,r 991])))))) (zC Zfw (zC (zC (zB (zF (kc5 [ZcN,i 2,r 814,r 815]))) (zA (zF (.lst 3 [Zey,ZeY,Zeu])))) (zB (zA (zF (kc4 [i 30,i 21,ZeJ,i 6,ZcS,i 0,r 753,r 754,i 0,ZcN,ZcN,ZcN,r 761,i 0]))))))) (zC (zC (zC (zB (zB (zF (kc5 [ZcN,i 2,r 902,r 903])))) (zA (zB (zF (kc4 [i 38,i 25,ZeJ,i 6,ZcS,i 0,r 841,r 842,i 0,ZcN,ZcN,ZcN,r 849,i 0]))))) Zfu) (zC (zB (zB (zA (zF (kc5 [ZcN,i 2,r 726,r 727]))))) (zB (zB (zC Zc4 (zF (kc4 [i 54,i 33,ZeJ,i 6,ZcS,i 0,r 1017,r 1018,i 0,ZcN,ZcN,ZcN,r 1025,i 0])))))))) (zC (zC (zC (zC (zA (zB (zF (kc5 [ZcN,i 2,r 770,r 771])))) (zB (zA (zF (kc4 [i 23,i 7,ZeJ,i 6,ZcS,i 0,r 709,r 710,i 0,t [ZcO,ZcM],ZeU,ZeV,r 717,i 0]))))) (zC (zA Zda) (zB (zA (zF (kc4 [i 26,i 7,.str 100,i 6,i 2,i 0,r 741,r 742,ZcO,ZcN,ZcN,ZcN,r 750,i 0])))))) (zC Zft (zC (zB (zB (zF (kc5 [ZcN,i 2,r 946,r 947])))) (zA (zB (zF (kc4 [i 42,i 27,ZeJ,i 6,ZcS,i 0,r 885,r 886,i 0,ZcN,ZcN,ZcN,r 893,i 0]))))))) (zC (zC (zC (zA (zA (zA (zF (kc5 [ZcN,i 2,r 1034,r 1035]))))) (zB (zC Zc4 (zF (kc4 [i 50,i 31,ZeJ,i 6,ZcS,i 0,r 973,r 974,i 0,ZcN,ZcN,ZcN,r 981,i 0]))))) (zB (zB (zA (zF (.lst 30 [Zey,t [ZcT,t [i 12,i 2,ZcN]],ZeK,Zey,t [i 111,t [ZcM,i 24,ZcN]],zU [65038,1],ZeN,zU [57,17],ZeN,t [ZcT,t [ZcO,i 11,ZcN]],zU [57,17],ZeM,t [i 114,.str 186],Zfl,ZeN,Zfl,ZeK,Zey,Zfx,zU [57,28],ZeM,t [i 114,.str 188],Zfl,Zey,Zfx,Ze6,Zfl,ZeK,ZeM,Zeu])))))) (zC (zC (zA (zB (zF (kc4 [i 34,i 23,ZeJ,i 6,ZcS,i 0,r 797,r 798,i 0,ZcN,ZcN,ZcN,r 805,i 0])))) (zA (zB (zF (kc5 [ZcN,i 2,r 858,r 859]))))) Zfw)))) (zC (zC (zC (zC (zA (zA (zB Zfy))) (zC (zB (zA (zF (kc3 [i 1,i 7,.str 206,ZcO,i 1,i 0,.none])))) (zB (zC Zc4 (zF (kc4 [i 52,ZcS,ZeJ,i 6,ZcS,i 0,r 995,r 996,i 0,ZcN,ZcN,ZcN,r 1003,i 0])))))) (zC Zfu (zC (zC (zB (zF (kc4 [i 36,i 24,ZeJ,i 6,ZcS,i 0,r 819,r 820,i 0,ZcN,ZcN,ZcN,r 827,i 0]))) (zA (zF (kc5 [ZcN,i 1,r 688,r 689])))) (zA (zB (zF (kc5 [ZcN,i 2,r 880,r 881]))))))) (zC (zC (zC (zB (zB (zF (kc4 [i 44,i 28,ZeJ,i 6,ZcS,i 0,r 907,r 908,i 0,ZcN,ZcN,ZcN,r 915,i 0])))) (zB (zB (zF (kc5 [ZcN,i 2,r 968,r 969]))))) Zft) (zC (zC (zA (zB (zF (kc5 [ZcN,i 2,r 792,r 793])))) (zB (zA (zF (kc4 [i 25,i 7,.str 196,i 6,ZeS,i 0,r 731,r 732,ZcM,ZcN,ZcN,ZcN,r 739,i 0]))))) Zdb))) (zC (zC (zC (zC (zA (zB (zF (kc4 [ZcS,i 22,ZeJ,i 6,ZcS,i 0,r 775,r 776,i 0,ZcN,ZcN,ZcN,r 783,i 0])))) (zA (zB (zF (kc5 [ZcN,i 2,r 836,r 837]))))) Zfw) (zC (zB (zB (zA (zF (.lst 12 [Zey,t [i 123,t [ZcM,i 1]],zU [37,0],zU [58,11],zU [38,0],t [i 114,.str 180],Zey,t [ZcT,t [i 12,i 2,ZcN]],Zfl,t [i 114,.str 181],Zfl,Zeu]))))) (zC (zB (zC (zF (kc4 [i 22,i 7,ZeJ,i 6,ZcS,i 0,r 695,r 696,i 0,ZcR,Zew,Zex,r 703,i 0])) (zF (kc4 [i 48,i 30,ZeJ,i 6,ZcS,i 0,r 951,r 952,i 0,ZcN,ZcN,ZcN,r 959,i 0])))) (zB (zB (zF (kc5 [ZcN,i 2,r 1012,r 1013]))))))) (zC (zC Zdb (zB (zB (zA (zF (kc5 [ZcQ,i 2,r 748,r 749])))))) (zC (zC (zB (zB (zF (kc5 [ZcN,i 2,r 924,r 925])))) (zA (zB (zF (kc4 [ZcT,i 26,ZeJ,i 6,ZcS,i 0,r 863,r 864,i 0,ZcN,ZcN,ZcN,r 871,i 0]))))) (zA (zB Zdq)))))))
noncomputable def V2:T:=zC (zC (zC (zC (zC (zC Zdq (.node Zc3 (zF (.lst 2 [ZcT,i 41])) .nil)) (zC Zda Zdr)) (zC (zC (zC Zc4 (zF (.lst 2 [i 48,i 49]))) Zdt) (zC Zdq (zF (.lst 2 [ZcS,i 33]))))) (zC (zC (zC Zdq (.node (.ob false (zL 6 [21,22,23,24,25,26])) .nil Zc4)) (zC Zdq (.node Zc3 (zF (.lst 2 [i 44,i 45])) .nil))) (zC (zC (zA (zF (.lst 2 [i 36,i 37]))) Zdr) (zC (zC Zc4 (zF (.lst 2 [i 52,i 53]))) Zc5)))) (zC (zC (zC (zC (zA (zF (.lst 2 [i 34,i 35]))) Zdu) (zC (zC Zc4 (zF (.lst 2 [i 50,i 51]))) Zc5)) (zC (zC Zdq (.node Zc3 (zF (.lst 2 [i 42,i 43])) .nil)) (zC Zda Zdr))) (.node Zdv (zC (zC Zda (.node (.ob false (.lst 2 [t [.str 199,ZcO,i 24,i 0,ZcN],t [.str 200,ZcM,i 25,i 0,ZcN]])) Zc4 (zF (.lst 2 [i 54,i 55])))) (zC (zA (zF (.lst 2 [i 38,i 39]))) Zdr)) (zC (zC Zdq (zF (.lst 2 [i 30,i 31]))) (zC Zdw (.node Zc3 (zF (.lst 2 [i 46,i 47])) .nil)))))) (zC Zdz (zC (zC (zC (zC Zdq (.node (.ob false (.lst 2 [i 1,i 2])) Zc4 Zc4)) Zdx) (zC Zdx Zdx)) (zC Zdy (zC Zdx (zC Zdu Zdr)))))
noncomputable def K2:T:=zC Ze0 (zF Zeq)
noncomputable def R2:T:=.node ZdW (.node ZdX (zA (zA (zT (.plst [(1,r 674),(2,r 675),(6,.none),(7,.none),(8,r 234),(9,r 235),(10,r 236),(20,r 576),(21,r 577),(22,r 578),(23,r 579)])))) (zA (zA (zT (.plst [(1,.none),(2,.none),(3,.none),(4,.none),(5,.none),(6,.none),(7,.none),(8,.none),(9,.none),(10,.none),(11,.none),(12,.none),(13,.none),(14,.none),(15,.none),(16,.none),(17,.none),(18,.none),(19,.none),(20,.none),(21,r 681),(22,r 694),(23,r 708),(24,r 719),(25,r 730),(26,r 740),(30,r 752),(31,r 763),(32,r 774),(33,r 785),(34,r 796),(35,r 807),(36,r 818),(37,r 829),(38,r 840),(39,r 851),(40,r 862),(41,r 873),(42,r 884),(43,r 895),(44,r 906),(45,r 917),(46,r 928),(47,r 939),(48,r 950),(49,r 961),(50,r 972),(51,r 983),(52,r 994),(53,r 1005),(54,r 1016),(55,r 1027),(65,.none),(66,.none),(67,.none),(68,.none),(105,.none),(106,.none),(107,.none),(108,.none),(109,.none),(111,.none),(124,r 239),(125,r 392),(126,r 253),(127,r 278),(128,r 422),(129,r 479),(130,r 565),(131,r 305),(132,r 316),(133,r 532),(134,r 583),(135,r 639),(136,r 653),(137,r 664),(203,.none),(206,r 364),(208,.none),(209,.none),(210,.none)]))))) .nil
noncomputable def Zfz:T:=zB (zF (.lst 3 [Zey,t [ZcT,t [y 25,i 36,ZcN]],Zeu]))
noncomputable def ZfA:T:=zC (zA (zA (zA (zA (zA Zfv))))) (zA (zB (zA Zfz)))
noncomputable def ZfB:T:=zB (zA (zB (zB Zfv)))
noncomputable def ZfC:T:=zB (zA (zA (zB Zfv)))
noncomputable def ZfD:T:=zA (zB (zB (zB Zfv)))
noncomputable def ZfE:T:=zB (zB (zB (zA (zB Zfv))))
noncomputable def ZfF:T:=zB (zA (zA (zB (zB Zfv))))
noncomputable def ZfG:T:=zB (zF (.lst 4 [Zey,ZeB,t [ZcT,t [y 25,i 37,ZcN]],Zeu]))
noncomputable def ZfH:T:=zA (zB (zB (zB Zfy)))
noncomputable def ZfI:T:=zA (zB (zA (zB Zfy)))
noncomputable def ZfJ:T:=zB (zA (zA (zB (zB Zfy))))
noncomputable def ZfK:T:=zB (zB (zA (zB (zB Zfy))))
noncomputable def ZfL:T:=zC (zA (zA (zA (zA (zA Zfy))))) (zA (zB (zA ZfG)))
noncomputable def ZfM:T:=zA (zA (zA (zB (zB Zfy))))
noncomputable def ZfN:T:=zB (zA (zA (zB Zfy)))
noncomputable def wJ:T:=zC (zC (zC (zC ZfA (zA ZfB)) (zC (zC ZfC ZfD) ZfE)) (zC (zC ZfF (zC (zB (zB (zB (zB (zF (.lst 3 [Zey,t [ZcT,t [y 32,i 50,ZcN]],Zeu])))))) ZfC)) (zC (zA (zB (zB (zA Zfz)))) (zC (zA (zA (zA (zB Zfv)))) ZfB)))) (zC (zC (zC (zB (zB (zB (zA ZfG)))) (zC ZfH (zA (zA (zA (zB Zfy)))))) (zC (zC ZfI (zB (zB (zB (zB (zF (.lst 4 [Zey,ZeB,t [ZcT,t [y 32,i 51,ZcN]],Zeu]))))))) ZfJ)) (zC (zC ZfK ZfL) (zC ZfM (zC ZfN ZfH))))
noncomputable def qf:T:=mrg R2 (mrg wJ X2)
noncomputable def pX:T:=mrg qf W0
noncomputable def mJ:T:=mrg wQ V2
noncomputable def ZfO:T:=zF (.lst 3 [Zey,t [ZcT,t [y 31,i 48,ZcN]],Zeu])
noncomputable def ZfP:T:=zB (zF (.lst 3 [Zey,t [ZcT,t [y 23,ZcS,ZcN]],Zeu]))
noncomputable def ZfQ:T:=zF (.lst 3 [Zey,t [ZcT,t [y 22,i 30,ZcN]],Zeu])
noncomputable def ZfR:T:=zB (zA (zA (zB (zB ZfQ))))
noncomputable def ZfS:T:=zB (zA (zA (zB ZfQ)))
noncomputable def ZfT:T:=zC (zC ZfR (zC (zB (zB (zB (zB Zfv)))) ZfS)) (zC (zA (zB (zB (zA (zB Zfv))))) (zC (zA (zA (zA (zB ZfQ)))) (zB (zA (zB Zfz)))))
noncomputable def ZfU:T:=zF (.lst 4 [Zey,ZeB,t [ZcT,t [y 22,i 31,ZcN]],Zeu])
noncomputable def ZfV:T:=zA (zB (zA (zB ZfU)))
noncomputable def ZfW:T:=zB (zA (zA (zB (zB ZfU))))
noncomputable def ZfX:T:=zC (zC (zB (zB (zB (zA (zB Zfy))))) (zC (zA (zB (zB ZfG))) (zA (zA (zA (zB ZfU)))))) (zC (zC ZfV (zB (zB (zB (zB Zfy))))) ZfW)
noncomputable def ZfY:T:=zF (.lst 4 [Zey,ZeB,t [ZcT,t [y 31,i 49,ZcN]],Zeu])
noncomputable def ZfZ:T:=zB (zF (.lst 4 [Zey,ZeB,t [ZcT,t [y 23,i 33,ZcN]],Zeu]))
noncomputable def wI:T:=zC (zC (zC (zC (zC (zA (zA (zA (zA (zA ZfO))))) (zA (zB (zA ZfP)))) (zA ZfB)) (zC (zC ZfC (zA (zB (zB ZfP)))) (zB (zB (zB (zA Zfz)))))) ZfT) (zC ZfX (zC (zC ZfK (zC (zA (zA (zA (zA (zA ZfY))))) (zA (zB (zA ZfZ))))) (zC (zA (zA (zA (zB ZfG)))) (zC ZfN (zA (zB (zB ZfZ)))))))
noncomputable def qe:T:=mrg R2 (mrg wI X2)
noncomputable def pW:T:=mrg qe W1
noncomputable def mI:T:=mrg wP V2
noncomputable def Zf0:T:=zF (.lst 3 [Zey,t [ZcT,t [y 28,i 42,ZcN]],Zeu])
noncomputable def Zf1:T:=zB (zF (.lst 3 [Zey,t [ZcT,t [y 24,i 34,ZcN]],Zeu]))
noncomputable def Zf2:T:=zC (zA (zA (zA (zB Zfv)))) (zB (zA (zB (zB Zf0))))
noncomputable def Zf3:T:=zB (zF (.lst 4 [Zey,ZeB,t [ZcT,t [y 24,i 35,ZcN]],Zeu]))
noncomputable def Zf4:T:=zF (.lst 4 [Zey,ZeB,t [ZcT,t [y 28,i 43,ZcN]],Zeu])
noncomputable def Zf5:T:=zC (zA (zB (zB (zB Zf4)))) (zA (zA (zA (zB Zfy))))
noncomputable def wH:T:=zC (zC (zC (zC (zC (zA (zA (zA (zA (zA Zf0))))) (zA (zB (zA (zB Zfv))))) (zA (zB (zA (zB Zf1))))) (zC (zC ZfS ZfD) (zB (zB (zB (zA (zB ZfQ))))))) (zC (zC ZfF (zC (zB (zB (zB (zB ZfO)))) ZfS)) (zC (zA (zB (zB (zA Zf1)))) Zf2))) (zC (zC (zC (zB (zB (zB (zA Zf3)))) Zf5) (zC (zC ZfV (zB (zB (zB (zB ZfY))))) ZfJ)) (zC (zC (zB (zB (zA (zB Zf3)))) (zC (zA (zA (zA (zA (zA Zf4))))) ZfI)) (zC (zA (zA (zA (zB (zB ZfU))))) (zC (zB (zA (zA (zB ZfU)))) ZfH))))
noncomputable def qd:T:=mrg R2 (mrg wH X2)
noncomputable def pV:T:=mrg qd W2
noncomputable def mH:T:=mrg wO V2
noncomputable def wG:T:=zC (zC (zC (zC ZfA (zA (zB (zA (zB (zB (zF (.lst 3 [Zey,t [ZcT,t [y 29,i 44,ZcN]],Zeu])))))))) (zC (zC (zB (zA (zA ZfP))) (zA (zB (zB Zfz)))) ZfE)) (zC (zC ZfR (zC (zB (zB (zB (zB (zF (.lst 3 [Zey,t [ZcT,t [y 30,i 46,ZcN]],Zeu])))))) ZfC)) (zC (zA (zB (zB (zA Zfz)))) (zC (zA (zA (zA (zB ZfQ)))) ZfB)))) (zC (zC (zC (zB (zB (zB (zA ZfG)))) (zC ZfH (zA (zA (zA (zB ZfU)))))) (zC (zC ZfI (zB (zB (zB (zB (zF (.lst 4 [Zey,ZeB,t [ZcT,t [y 30,i 47,ZcN]],Zeu]))))))) ZfW)) (zC (zC (zB (zB (zA (zB (zB (zF (.lst 4 [Zey,ZeB,t [ZcT,t [y 29,i 45,ZcN]],Zeu]))))))) ZfL) (zC ZfM (zC (zB (zA (zA ZfZ))) (zA (zB (zB ZfG)))))))
noncomputable def qc:T:=mrg R2 (mrg wG X2)
noncomputable def pU:T:=mrg qc W3
noncomputable def mG:T:=mrg wN V2
noncomputable def wF:T:=zC (zC (zC (zC (zC (zA (zA (zA (zA (zA ZfQ))))) (zA (zB (zA (zB ZfQ))))) (zA ZfB)) (zC (zC ZfC (zA (zB (zB (zB (zF (.lst 3 [Zey,t [ZcT,t [y 26,i 38,ZcN]],Zeu]))))))) (zB (zB (zB (zA (zB ZfQ))))))) ZfT) (zC ZfX (zC (zC ZfK (zC (zA (zA (zA (zA (zA ZfU))))) ZfV)) (zC (zA (zA (zA (zB (zB ZfU))))) (zC ZfN (zA (zB (zB (zB (zF (.lst 4 [Zey,ZeB,t [ZcT,t [y 26,i 39,ZcN]],Zeu]))))))))))
noncomputable def p8:T:=mrg R2 (mrg wF X2)
noncomputable def pT:T:=mrg p8 W4
noncomputable def mF:T:=mrg wM V2
noncomputable def wE:T:=zC (zC (zC (zC (zC (zA (zA (zA (zA (zA ZfO))))) (zA (zB (zA (zB Zfv))))) (zA (zB (zA (zB ZfP))))) (zC (zC (zB (zA (zA ZfP))) ZfD) (zB (zB (zB (zA Zfz)))))) (zC (zC ZfF (zC (zB (zB (zB (zB Zf0)))) ZfS)) (zC (zA (zB (zB (zA (zB ZfQ))))) Zf2))) (zC (zC (zC (zB (zB (zB (zA (zB ZfU))))) Zf5) (zC (zC ZfV (zB (zB (zB (zB Zf4))))) ZfJ)) (zC (zC (zB (zB (zA (zB ZfZ)))) (zC (zA (zA (zA (zA (zA ZfY))))) ZfI)) (zC (zA (zA (zA (zB ZfG)))) (zC (zB (zA (zA ZfZ))) ZfH))))
noncomputable def pZ:T:=mrg R2 (mrg wE X2)
noncomputable def pR:T:=mrg pZ W5
noncomputable def mE:T:=mrg wL V2
noncomputable def wD:T:=zC (zC (zC (zC (zC (zA (zA (zA (zA (zA Zfv))))) (zA (zB (zA Zf1)))) (zA (zB (zA (zB (zB Zf0)))))) (zC (zC ZfS (zA (zB (zB (zB Zf0))))) ZfE)) (zC (zC ZfR (zC (zB (zB (zB (zB (zF (.lst 3 [Zey,t [ZcT,t [y 27,ZcT,ZcN]],Zeu])))))) ZfC)) (zC (zA (zB (zB (zA ZfP)))) (zC (zA (zA (zA (zB ZfQ)))) ZfB)))) (zC (zC (zC (zB (zB (zB (zA ZfZ)))) (zC ZfH (zA (zA (zA (zB ZfU)))))) (zC (zC ZfI (zB (zB (zB (zB (zF (.lst 4 [Zey,ZeB,t [ZcT,t [y 27,i 41,ZcN]],Zeu]))))))) ZfW)) (zC (zC (zB (zB (zA (zB (zB Zf4))))) (zC (zA (zA (zA (zA (zA Zfy))))) (zA (zB (zA Zf3))))) (zC ZfM (zC (zB (zA (zA (zB ZfU)))) (zA (zB (zB (zB Zf4))))))))
noncomputable def pY:T:=mrg R2 (mrg wD X2)
noncomputable def pP:T:=mrg pY W6
noncomputable def mD:T:=mrg wK V2
end
theorem sE0a:aR n2 .none [K0a,M0a,O0a] (E.f aV [(r 0),i 0] ⟨mrg LD T0,nD⟩)=true:=by kernel_rfl
theorem sE1a:aR n1 .none [K1a,M1a,O1a] (E.f aV [(r 0),i 1] ⟨mrg LD T1,nD⟩)=true:=by kernel_rfl
theorem d1b:dj4 (mrg K1a (mrg M1a O1a))=true:=by kernel_rfl
theorem sE1b:aR n2 .none [K1b,M1b,O1b] (E.f aV [(r 0),i 1] ⟨mrg K1a (mrg M1a O1a),n1⟩)=true:=by kernel_rfl
theorem sE3a:aR n1 .none [K3a,M3a,O3a] (E.f aV [(r 0),i 3] ⟨mrg LD T3,nD⟩)=true:=by kernel_rfl
theorem d3b:dj4 (mrg K3a (mrg M3a O3a))=true:=by kernel_rfl
theorem sE3b:aR n2 .none [K3b,M3b,O3b] (E.f aV [(r 0),i 3] ⟨mrg K3a (mrg M3a O3a),n1⟩)=true:=by kernel_rfl
theorem sE4a:aR n1 .none [K4a,M4a,O4a] (E.f aV [(r 0),i 4] ⟨mrg LD T4,nD⟩)=true:=by kernel_rfl
theorem d4b:dj4 (mrg K4a (mrg M4a O4a))=true:=by kernel_rfl
theorem sE4b:aR n2 .none [K4b,M4b,O4b] (E.f aV [(r 0),i 4] ⟨mrg K4a (mrg M4a O4a),n1⟩)=true:=by kernel_rfl
theorem sE5a:aR n1 .none [K5a,M5a,O5a] (E.f aV [(r 0),i 5] ⟨mrg LD T5,nD⟩)=true:=by kernel_rfl
theorem d5b:dj4 (mrg K5a (mrg M5a O5a))=true:=by kernel_rfl
theorem sE5b:aR n2 .none [K5b,M5b,O5b] (E.f aV [(r 0),i 5] ⟨mrg K5a (mrg M5a O5a),n1⟩)=true:=by kernel_rfl
theorem te:aR n2 .none [K2,mJ,qf] (E.f aV [(r 0),i 2] ⟨mrg LD uX,nD⟩)=true:=by kernel_rfl
theorem td:aR n2 .none [K2,mI,qe] (E.f aV [(r 0),i 2] ⟨mrg LD uW,nD⟩)=true:=by kernel_rfl
theorem tc:aR n2 .none [K2,mH,qd] (E.f aV [(r 0),i 2] ⟨mrg LD uV,nD⟩)=true:=by kernel_rfl
theorem ta:aR n2 .none [K2,mG,qc] (E.f aV [(r 0),i 2] ⟨mrg LD uU,nD⟩)=true:=by kernel_rfl
theorem sZ:aR n2 .none [K2,mF,p8] (E.f aV [(r 0),i 2] ⟨mrg LD uT,nD⟩)=true:=by kernel_rfl
theorem sY:aR n2 .none [K2,mE,pZ] (E.f aV [(r 0),i 2] ⟨mrg LD uS,nD⟩)=true:=by kernel_rfl
theorem sX:aR n2 .none [K2,mD,pY] (E.f aV [(r 0),i 2] ⟨mrg LD uR,nD⟩)=true:=by kernel_rfl
theorem dA:((List.range 7).all fun m=>dj4 (mrg LD (Tg m 2))&&aw (mrg LD (Tg m 2)) (Wm m))=true:=by kernel_rfl
theorem dB:([0,1,3,4,5].all fun g=>dj4 (mrg LD (Tg 0 g)))=true:=by kernel_rfl
end Gh
end
section
namespace Gh
open PySem
section
noncomputable def CM:T:=mrg MX (mrg LW LV)
noncomputable def cJ:GE:=.bin .add (.bin .add (.lst [ZbU]) (.compR (.bin .add (.cint 124) Za) [.cint 14])) (.call (.glob 392 (.fn (.o (.i ZaX)))) [Zw])
noncomputable def itG:GE:=.bin .add (.lst [ZbC,Zb5]) (.call (.glob 354 (.fn (.i (.o ZaX)))) [Zw])
noncomputable def nH:GE:=.and [.call Zcx [ZU,.glob 297 (.int 131 0)],.call Zcx [ZU,.glob 300 (.int 132 0)],.call Zcx [ZU,.glob 335 (.int 135 0)]]
noncomputable def cj (v:V) (f:Nat) (h:T):V:=aC v .unb fun g=>gv (at_ h g) .unb fun ξ ξ fs=>aA f fs
noncomputable def mX:V:=(r 0)
noncomputable def mU (v t:V) (h:T):V:=item v t h
noncomputable def rJ (t:V) (h:T):V:=cj (mU (cj mX 39 h) t h) 50 h
noncomputable def cU (m:V) (h:T):V:=cj (mU (cj mX 50 h) m h) 64 h
noncomputable def b9 (h:T) (m:V):B3:=a6 m .und fun ξ=>aP (cU m h) .und (isNone (cU m h) .none)
noncomputable def pb (h:T) (l:List V):LO:=@List.rec V (fun ξ=>LO) (.ok []) (fun v ξ r=>@LO.rec (fun ξ=>LO) .fail (fun r=>@B3.rec (fun ξ=>LO) .fail (.ok (v :: r)) (.ok r) (b9 h v)) r) l
noncomputable def rT (fv t:V) (σ:St):RE:=@Bool.rec (fun ξ=>RE) .fail (aC (rJ t σ.h) .fail fun g=>aS (at_ σ.h g) .fail fun w n vs=>@Bool.rec (fun ξ=>RE) (bz n (@LO.rec (fun ξ=>RE) .fail (fun ws=>@RE.rec (fun ξ=>RE) .fail (fun d σ=>bmeth fv .extend [d] σ) (alloc σ (.lst (len ws) ws))) (pb σ.h vs))) .fail w) (mOk σ.h fv .extend)
noncomputable def bfF (ρ:List V) (σ:St):RS:=@RE.rec (fun ξ=>RS) .fail (fun ξ σ=>.next ρ σ) (rT (nth ρ 6) (nth ρ 7) σ)
noncomputable def ρ1 (g:Nat):List V:=[.unb,.unb,.unb,i g,(r 233),.unb,.unb,.unb,.unb]
noncomputable def ρ2 (g:Nat):List V:=[.unb,.unb,.unb,i g,(r 233),(r 1158),(r 1159),.unb,.unb]
noncomputable def ρ3:List V:=[.unb,.unb,.unb,.unb,r 233,r 1158,r 1159,.unb,.unb]
noncomputable def ρ4:List V:=[.unb,.unb,.unb,.unb,r 233,r 1158,.unb,.unb,.unb]
noncomputable def gMv:V:=(r 1158)
noncomputable def fpv:V:=(r 1159)
noncomputable def n3s:Ps:=.i (.o (.o (.i (.o (.o Zaq)))))
noncomputable def FD0:T:=zA (zA (zA (zB (zA (zA (zA (zB (zA (zA ZcV)))))))))
noncomputable def LM0:T:=zB (zB (zB (zA (zA (zA (zA (zB (zA (zA (zF (zL 15 [206,124,125,126,127,128,129,130,131,132,133,134,135,136,137])))))))))))
noncomputable def LM1:T:=zB (zB (zB (zA (zA (zA (zA (zB (zA (zA (zF (zL 22 [206,124,125,126,127,128,129,130,131,132,133,134,135,136,137,65,66,67,68,208,209,210])))))))))))
noncomputable def LM2:T:=zB (zB (zB (zA (zA (zA (zA (zB (zA (zA (zF (zL 47 [206,124,125,126,127,128,129,130,131,132,133,134,135,136,137,21,22,23,24,25,26,30,31,32,33,34,35,36,37,38,39,40,41,42,43,44,45,46,47,48,49,50,51,52,53,54,55])))))))))))
noncomputable def LM3:T:=zB (zB (zB (zA (zA (zA (zA (zB (zA (zA (zF (zL 18 [206,124,125,126,127,128,129,130,131,132,133,134,135,136,137,14,17,20])))))))))))
noncomputable def LM4:T:=zB (zB (zB (zA (zA (zA (zA (zB (zA (zA (zF (zL 19 [206,124,125,126,127,128,129,130,131,132,133,134,135,136,137,1,3,6,7])))))))))))
noncomputable def LM5:T:=zB (zB (zB (zA (zA (zA (zA (zB (zA (zA (zF (zL 15 [206,124,125,126,127,128,129,130,131,132,133,134,135,136,137])))))))))))
noncomputable def lq:T:=zA (zA (zA (zB (zA (zA (zA (zB (zA (zA (zF (zL 15 [124,126,127,131,132,206,125,128,129,133,130,134,135,136,137])))))))))))
noncomputable def qj:T:=zA (zA (zA (zB (zA (zA (zA (zB (zA (zA (zF (zL 22 [124,126,127,131,132,206,125,128,129,133,130,134,135,136,137,65,66,67,68,208,209,210])))))))))))
noncomputable def qi:T:=zA (zA (zA (zB (zA (zA (zA (zB (zA (zA (zF (zL 18 [124,126,127,131,132,206,125,128,129,133,130,134,135,136,137,14,17,20])))))))))))
noncomputable def qh:T:=zA (zA (zA (zB (zA (zA (zA (zB (zA (zA (zF (zL 19 [124,126,127,131,132,206,125,128,129,133,130,134,135,136,137,1,3,6,7])))))))))))
noncomputable def aX:T:=zA (zA (zA (zB (zA (zA (zA (zB (zA (zA (zF (zL 47 [124,126,127,131,132,206,125,128,129,133,130,134,135,136,137,21,22,23,24,25,26,30,31,32,33,34,35,36,37,38,39,40,41,42,43,44,45,46,47,48,49,50,51,52,53,54,55])))))))))))
end
theorem sF (ρ:List V):aR n3s fpv [FD0] (E.e ρ (.lst []) ⟨.nil,n3⟩)=true:=by kernel_rfl
theorem sM0:aR n3 gMv [LM0] (E.e (ρ1 0) cJ ⟨.nil,n2⟩)=true:=by kernel_rfl
theorem sM1:aR n3 gMv [LM1] (E.e (ρ1 1) cJ ⟨.nil,n2⟩)=true:=by kernel_rfl
theorem sM2:aR n3 gMv [LM2] (E.e (ρ1 2) cJ ⟨.nil,n2⟩)=true:=by kernel_rfl
theorem sM3:aR n3 gMv [LM3] (E.e (ρ1 3) cJ ⟨.nil,n2⟩)=true:=by kernel_rfl
theorem sM4:aR n3 gMv [LM4] (E.e (ρ1 4) cJ ⟨.nil,n2⟩)=true:=by kernel_rfl
theorem sM5:aR n3 gMv [LM5] (E.e (ρ1 5) cJ ⟨.nil,n2⟩)=true:=by kernel_rfl
theorem fn0a:aE none n4 idP ρ3 [lq] 0 0 (aJ E (ρ2 0) (aL 7) itG bfF ⟨mrg FD0 (ro (mrg M0a (mrg TD (mrg O0a CM)))),n3s⟩)=⟨true,.unb,.unb⟩:=by kernel_rfl
theorem fn1a:aE none n4 idP ρ3 [qj] 0 0 (aJ E (ρ2 1) (aL 7) itG bfF ⟨mrg FD0 (ro (mrg M1a (mrg TD (mrg O1a CM)))),n3s⟩)=⟨true,.unb,.unb⟩:=by kernel_rfl
theorem fn1b:aE none n4 idP ρ3 [qj] 0 0 (aJ E (ρ2 1) (aL 7) itG bfF ⟨mrg FD0 (ro (mrg M1b (mrg TD (mrg O1b CM)))),n3s⟩)=⟨true,.unb,.unb⟩:=by kernel_rfl
theorem fn3a:aE none n4 idP ρ3 [qi] 0 0 (aJ E (ρ2 3) (aL 7) itG bfF ⟨mrg FD0 (ro (mrg M3a (mrg TD (mrg O3a CM)))),n3s⟩)=⟨true,.unb,.unb⟩:=by kernel_rfl
theorem fn3b:aE none n4 idP ρ3 [qi] 0 0 (aJ E (ρ2 3) (aL 7) itG bfF ⟨mrg FD0 (ro (mrg M3b (mrg TD (mrg O3b CM)))),n3s⟩)=⟨true,.unb,.unb⟩:=by kernel_rfl
theorem fn4a:aE none n4 idP ρ3 [qh] 0 0 (aJ E (ρ2 4) (aL 7) itG bfF ⟨mrg FD0 (ro (mrg M4a (mrg TD (mrg O4a CM)))),n3s⟩)=⟨true,.unb,.unb⟩:=by kernel_rfl
theorem fn4b:aE none n4 idP ρ3 [qh] 0 0 (aJ E (ρ2 4) (aL 7) itG bfF ⟨mrg FD0 (ro (mrg M4b (mrg TD (mrg O4b CM)))),n3s⟩)=⟨true,.unb,.unb⟩:=by kernel_rfl
theorem fn5a:aE none n4 idP ρ3 [lq] 0 0 (aJ E (ρ2 5) (aL 7) itG bfF ⟨mrg FD0 (ro (mrg M5a (mrg TD (mrg O5a CM)))),n3s⟩)=⟨true,.unb,.unb⟩:=by kernel_rfl
theorem fn5b:aE none n4 idP ρ3 [lq] 0 0 (aJ E (ρ2 5) (aL 7) itG bfF ⟨mrg FD0 (ro (mrg M5b (mrg TD (mrg O5b CM)))),n3s⟩)=⟨true,.unb,.unb⟩:=by kernel_rfl
theorem t7:aE none n4 idP ρ3 [aX] 0 0 (aJ E (ρ2 2) (aL 7) itG bfF ⟨mrg FD0 (ro (mrg mJ (mrg TD (mrg pX CM)))),n3s⟩)=⟨true,.unb,.unb⟩:=by kernel_rfl
theorem t6:aE none n4 idP ρ3 [aX] 0 0 (aJ E (ρ2 2) (aL 7) itG bfF ⟨mrg FD0 (ro (mrg mI (mrg TD (mrg pW CM)))),n3s⟩)=⟨true,.unb,.unb⟩:=by kernel_rfl
theorem t5:aE none n4 idP ρ3 [aX] 0 0 (aJ E (ρ2 2) (aL 7) itG bfF ⟨mrg FD0 (ro (mrg mH (mrg TD (mrg pV CM)))),n3s⟩)=⟨true,.unb,.unb⟩:=by kernel_rfl
theorem t0:aE none n4 idP ρ3 [aX] 0 0 (aJ E (ρ2 2) (aL 7) itG bfF ⟨mrg FD0 (ro (mrg mG (mrg TD (mrg pU CM)))),n3s⟩)=⟨true,.unb,.unb⟩:=by kernel_rfl
theorem tZ:aE none n4 idP ρ3 [aX] 0 0 (aJ E (ρ2 2) (aL 7) itG bfF ⟨mrg FD0 (ro (mrg mF (mrg TD (mrg pT CM)))),n3s⟩)=⟨true,.unb,.unb⟩:=by kernel_rfl
theorem tY:aE none n4 idP ρ3 [aX] 0 0 (aJ E (ρ2 2) (aL 7) itG bfF ⟨mrg FD0 (ro (mrg mE (mrg TD (mrg pR CM)))),n3s⟩)=⟨true,.unb,.unb⟩:=by kernel_rfl
theorem tX:aE none n4 idP ρ3 [aX] 0 0 (aJ E (ρ2 2) (aL 7) itG bfF ⟨mrg FD0 (ro (mrg mD (mrg TD (mrg pP CM)))),n3s⟩)=⟨true,.unb,.unb⟩:=by kernel_rfl
end Gh
end
section
namespace Gh
open PySem
section
noncomputable def P1:T:=.node ZdW (.node ZdX (.node ZeZ (zA (zF (.plst [(8,r 234),(9,r 235),(10,r 236),(20,r 576),(21,r 577),(22,r 578),(23,r 579)]))) .nil) (zA (zA (zF (.plst [(124,r 239),(125,r 392),(126,r 253),(127,r 278),(128,r 422),(129,r 479),(130,r 565),(131,r 305),(132,r 316),(133,r 532),(134,r 583),(135,r 639),(136,r 653),(137,r 664),(206,r 364)]))))) .nil
noncomputable def outV (n:Ps) (v:V) (r:RE):Bool:=@RE.rec (fun ξ=>Bool) false (fun x ξ=>vle none n idP v x) r
noncomputable def mL:Ps:=.o (.o Zaj)
noncomputable def common:List Nat:=[206,124,125,126,127,128,129,130,131,132,133,134,135,136,137]
noncomputable def bo (L:List T) (S:T) (mid:Nat):Bool:=tp nX (.bool true) L (E.f mL [.ref nC,i mid] ⟨S,nX⟩)
noncomputable def cfB (Ks:List T) (O LM:T) (fl ml own:List Nat):Bool:=(Ks.all fun K=>leT none nX idP P1 (mrg K O)&&(leT none nX idP K K&&(aw K LM&&(aw K O&&aw K CM))))&&(leT none nX idP O O&&(leT none nX idP LM LM&&(fl.isPerm ml&&((ml.all fun x=>common.contains x||own.contains x)&&(Nat.ble ml.length 60&&Nat.ble 1 ml.length)))))
noncomputable def ml0:List Nat:=[206,124,125,126,127,128,129,130,131,132,133,134,135,136,137]
noncomputable def ow0:List Nat:=[]
noncomputable def ml1:List Nat:=[206,124,125,126,127,128,129,130,131,132,133,134,135,136,137,65,66,67,68,208,209,210]
noncomputable def ow1:List Nat:=[65,66,67,68,208,209,210]
noncomputable def ml2:List Nat:=[206,124,125,126,127,128,129,130,131,132,133,134,135,136,137,21,22,23,24,25,26,30,31,32,33,34,35,36,37,38,39,40,41,42,43,44,45,46,47,48,49,50,51,52,53,54,55]
noncomputable def ow2:List Nat:=[21,22,23,24,25,26,30,31,32,33,34,35,36,37,38,39,40,41,42,43,44,45,46,47,48,49,50,51,52,53,54,55]
noncomputable def ml3:List Nat:=[206,124,125,126,127,128,129,130,131,132,133,134,135,136,137,14,17,20]
noncomputable def ow3:List Nat:=[14,17,20]
noncomputable def ml4:List Nat:=[206,124,125,126,127,128,129,130,131,132,133,134,135,136,137,1,3,6,7]
noncomputable def ow4:List Nat:=[1,3,6,7]
noncomputable def ml5:List Nat:=[206,124,125,126,127,128,129,130,131,132,133,134,135,136,137]
noncomputable def ow5:List Nat:=[]
end
theorem sRet:outV nX (.bool true) (E.e ρ4 nH ⟨ro (mrg P1 CM),nX⟩)=true:=by kernel_rfl
theorem rCM:leT none nX idP CM CM=true:=by kernel_rfl
theorem bcom:common.all (bo [] (ro (mrg P1 CM)))=true:=by kernel_rfl
theorem ma0:at_ LM0 (.i (.i (.i (.o (.o (.o (.o (.i (.o (.o .h))))))))))=.ob false (.lst ml0.length (ml0.map i)):=by kernel_rfl
theorem ma1:at_ LM1 (.i (.i (.i (.o (.o (.o (.o (.i (.o (.o .h))))))))))=.ob false (.lst ml1.length (ml1.map i)):=by kernel_rfl
theorem ma2:at_ LM2 (.i (.i (.i (.o (.o (.o (.o (.i (.o (.o .h))))))))))=.ob false (.lst ml2.length (ml2.map i)):=by kernel_rfl
theorem ma3:at_ LM3 (.i (.i (.i (.o (.o (.o (.o (.i (.o (.o .h))))))))))=.ob false (.lst ml3.length (ml3.map i)):=by kernel_rfl
theorem ma4:at_ LM4 (.i (.i (.i (.o (.o (.o (.o (.i (.o (.o .h))))))))))=.ob false (.lst ml4.length (ml4.map i)):=by kernel_rfl
theorem ma5:at_ LM5 (.i (.i (.i (.o (.o (.o (.o (.i (.o (.o .h))))))))))=.ob false (.lst ml5.length (ml5.map i)):=by kernel_rfl
end Gh
end
section
namespace Gh
open PySem
section
noncomputable def ko:T:=zC (zC (zT (.kdct 41 [(zU [1,0],i 0),(zU [1,1],i 1),(zU [1,2],i 2),(zU [1,3],i 3),(zU [1,4],i 4),(zU [1,5],i 5),(zU [1,6],i 6),(zU [1,7],i 7),(zU [1,8],i 8),(zU [1,9],i 9),(zU [1,10],i 10),(zU [1,11],i 11),(zU [1,12],i 12),(zU [1,13],ZcO),(zU [1,14],i 14),(zU [1,15],i 15),(zU [6,0],y 16),(ZdZ,y 17),(Zd0,y 18),(Zd1,y 19),(Zd2,ZcM),(Zd3,y 21),(Zd4,y 22),(Zd5,y 23),(Zd6,y 24),(Zd7,y 25),(Zd8,y 26),(Zd9,y 27),(Zea,y 28),(Zeb,y 29),(Zec,y 30),(Zed,y 31),(Zee,y 32),(Zef,y 33),(Zeg,y 34),(Zeh,y 35),(Zei,y 36),(t [i 5,y 17],y 37)] Zej)) (zT (.gap 38 Zem [i 1,i 2,i 2,i 2,i 1,i 2,i 1,i 1,i 1,i 1,i 1,i 1,i 1,i 1,i 1,i 1,i 1,i 1,i 1,i 2,i 2,i 3]))) (.node (.ob true (.gap 38 Zep [zU [6,0],ZdZ,Zd0,Zd1,Zd2,Zd3,Zd4,Zd5,Zd6,Zd7,Zd8,Zd9,Zea,Zeb,Zec,Zed,Zee,Zef,Zeg,Zeh,Zei,t [i 5,y 17]])) Zfj (zT (.gap 38 Zes [i 1,i 1,i 1,i 1,i 0,i 1,i 0,i 0,i 0,i 0,i 0,i 0,i 0,i 0,i 0,i 0,i 0,i 0,i 0,i 1,i 1,i 1])))
noncomputable def kl:T:=zC (zC (zT (.kdct 42 [(zU [1,0],i 0),(zU [1,1],i 1),(zU [1,2],i 2),(zU [1,3],i 3),(zU [1,4],i 4),(zU [1,5],i 5),(zU [1,6],i 6),(zU [1,7],i 7),(zU [1,8],i 8),(zU [1,9],i 9),(zU [1,10],i 10),(zU [1,11],i 11),(zU [1,12],i 12),(zU [1,13],ZcO),(zU [1,14],i 14),(zU [1,15],i 15),(zU [6,0],y 16),(ZdZ,y 17),(Zd0,y 18),(Zd1,y 19),(Zd2,ZcM),(Zd3,y 21),(Zd4,y 22),(Zd5,y 23),(Zd6,y 24),(Zd7,y 25),(Zd8,y 26),(Zd9,y 27),(Zea,y 28),(Zeb,y 29),(Zec,y 30),(Zed,y 31),(Zee,y 32),(Zef,y 33),(Zeg,y 34),(Zeh,y 35),(Zei,y 36),(t [i 5,y 17],y 37),(t [i 5,y 16],y 38)] Zej)) (zT (.gap 39 Zem [i 1,i 2,i 2,i 2,i 1,i 2,i 1,i 1,i 1,i 1,i 1,i 1,i 1,i 1,i 1,i 1,i 1,i 1,i 1,i 2,i 2,i 3,i 2]))) (.node (.ob true (.gap 39 Zep [zU [6,0],ZdZ,Zd0,Zd1,Zd2,Zd3,Zd4,Zd5,Zd6,Zd7,Zd8,Zd9,Zea,Zeb,Zec,Zed,Zee,Zef,Zeg,Zeh,Zei,t [i 5,y 17],t [i 5,y 16]])) (zT (.gap 39 Zem [i 1,i 2,i 2,i 2,i 1,i 2,i 1,i 1,i 1,i 1,i 1,i 1,i 1,i 1,i 1,i 1,i 1,i 1,i 1,i 2,i 2,i 2,i 1])) (zT (.gap 39 Zes [i 1,i 1,i 1,i 1,i 0,i 1,i 0,i 0,i 0,i 0,i 0,i 0,i 0,i 0,i 0,i 0,i 0,i 0,i 0,i 1,i 1,i 1,i 1])))
noncomputable def kj:T:=zC (zC (zT (.kdct 41 [(zU [1,0],i 0),(zU [1,1],i 1),(zU [1,2],i 2),(zU [1,3],i 3),(zU [1,4],i 4),(zU [1,5],i 5),(zU [1,6],i 6),(zU [1,7],i 7),(zU [1,8],i 8),(zU [1,9],i 9),(zU [1,10],i 10),(zU [1,11],i 11),(zU [1,12],i 12),(zU [1,13],ZcO),(zU [1,14],i 14),(zU [1,15],i 15),(zU [6,0],y 16),(ZdZ,y 17),(Zd0,y 18),(Zd1,y 19),(Zd2,ZcM),(Zd3,y 21),(Zd4,y 22),(Zd5,y 23),(Zd6,y 24),(Zd7,y 25),(Zd8,y 26),(Zd9,y 27),(Zea,y 28),(Zeb,y 29),(Zec,y 30),(Zed,y 31),(Zee,y 32),(Zef,y 33),(Zeg,y 34),(Zeh,y 35),(Zei,y 36),(t [i 5,y 17],y 37)] Zej)) (zT (.gap 38 Zem [i 1,i 2,i 2,i 2,i 1,i 2,i 1,i 1,i 1,i 1,i 1,i 1,i 1,i 1,i 1,i 1,i 1,i 1,i 1,i 2,i 2,i 3]))) (.node (.ob true (.gap 38 Zep [zU [6,0],ZdZ,Zd0,Zd1,Zd2,Zd3,Zd4,Zd5,Zd6,Zd7,Zd8,Zd9,Zea,Zeb,Zec,Zed,Zee,Zef,Zeg,Zeh,Zei,t [i 5,y 17]])) Zfj (zT (.gap 38 Zes [i 1,i 1,i 1,i 1,i 0,i 1,i 0,i 0,i 0,i 0,i 0,i 0,i 0,i 0,i 0,i 0,i 0,i 0,i 0,i 1,i 1,i 1])))
noncomputable def kh:T:=zC (zC (zT (.kdct 42 [(zU [1,0],i 0),(zU [1,1],i 1),(zU [1,2],i 2),(zU [1,3],i 3),(zU [1,4],i 4),(zU [1,5],i 5),(zU [1,6],i 6),(zU [1,7],i 7),(zU [1,8],i 8),(zU [1,9],i 9),(zU [1,10],i 10),(zU [1,11],i 11),(zU [1,12],i 12),(zU [1,13],ZcO),(zU [1,14],i 14),(zU [1,15],i 15),(zU [6,0],y 16),(ZdZ,y 17),(Zd0,y 18),(Zd1,y 19),(Zd2,ZcM),(Zd3,y 21),(Zd4,y 22),(Zd5,y 23),(Zd6,y 24),(Zd7,y 25),(Zd8,y 26),(Zd9,y 27),(Zea,y 28),(Zeb,y 29),(Zec,y 30),(Zed,y 31),(Zee,y 32),(Zef,y 33),(Zeg,y 34),(Zeh,y 35),(Zei,y 36),(t [i 5,y 17],y 37),(t [i 5,y 16],y 38)] Zej)) (zT (.gap 39 Zem [i 1,i 2,i 2,i 2,i 1,i 2,i 1,i 1,i 1,i 1,i 1,i 1,i 1,i 1,i 1,i 1,i 1,i 1,i 1,i 2,i 2,i 3,i 2]))) (.node (.ob true (.gap 39 Zep [zU [6,0],ZdZ,Zd0,Zd1,Zd2,Zd3,Zd4,Zd5,Zd6,Zd7,Zd8,Zd9,Zea,Zeb,Zec,Zed,Zee,Zef,Zeg,Zeh,Zei,t [i 5,y 17],t [i 5,y 16]])) (zT (.gap 39 Zem [i 1,i 2,i 2,i 2,i 1,i 2,i 1,i 1,i 1,i 1,i 1,i 1,i 1,i 1,i 1,i 1,i 1,i 1,i 1,i 2,i 2,i 2,i 1])) (zT (.gap 39 Zes [i 1,i 1,i 1,i 1,i 0,i 1,i 0,i 0,i 0,i 0,i 0,i 0,i 0,i 0,i 0,i 0,i 0,i 0,i 0,i 1,i 1,i 1,i 1])))
end
theorem uM:[65,66,67,68].all (bo [ko] (mrg K1a (ro (mrg O1a CM))))=true:=by kernel_rfl
theorem uL:[208,209,210].all (bo [kl] (mrg K1a (ro (mrg O1a CM))))=true:=by kernel_rfl
theorem uK:[65,66,67,68].all (bo [ko] (mrg ko (ro (mrg O1a CM))))=true:=by kernel_rfl
theorem uJ:[208,209,210].all (bo [kl] (mrg ko (ro (mrg O1a CM))))=true:=by kernel_rfl
theorem uI:[65,66,67,68,208,209,210].all (bo [kl] (mrg kl (ro (mrg O1a CM))))=true:=by kernel_rfl
theorem uH:[65,66,67,68].all (bo [kj] (mrg K1b (ro (mrg O1b CM))))=true:=by kernel_rfl
theorem uG:[208,209,210].all (bo [kh] (mrg K1b (ro (mrg O1b CM))))=true:=by kernel_rfl
theorem uF:[65,66,67,68].all (bo [kj] (mrg kj (ro (mrg O1b CM))))=true:=by kernel_rfl
theorem uE:[208,209,210].all (bo [kh] (mrg kj (ro (mrg O1b CM))))=true:=by kernel_rfl
theorem uD:[65,66,67,68,208,209,210].all (bo [kh] (mrg kh (ro (mrg O1b CM))))=true:=by kernel_rfl
theorem b3a:ow3.all (bo [] (ro (mrg K3a (mrg O3a CM))))=true:=by kernel_rfl
theorem b3b:ow3.all (bo [] (ro (mrg K3b (mrg O3b CM))))=true:=by kernel_rfl
theorem b4a:ow4.all (bo [] (ro (mrg K4a (mrg O4a CM))))=true:=by kernel_rfl
theorem b4b:ow4.all (bo [] (ro (mrg K4b (mrg O4b CM))))=true:=by kernel_rfl
theorem wy:ow2.all (bo [] (ro (mrg K2 (mrg pX CM))))=true:=by kernel_rfl
theorem wx:ow2.all (bo [] (ro (mrg K2 (mrg pW CM))))=true:=by kernel_rfl
theorem ww:ow2.all (bo [] (ro (mrg K2 (mrg pV CM))))=true:=by kernel_rfl
theorem wv:ow2.all (bo [] (ro (mrg K2 (mrg pU CM))))=true:=by kernel_rfl
theorem wu:ow2.all (bo [] (ro (mrg K2 (mrg pT CM))))=true:=by kernel_rfl
theorem wt:ow2.all (bo [] (ro (mrg K2 (mrg pR CM))))=true:=by kernel_rfl
theorem wq:ow2.all (bo [] (ro (mrg K2 (mrg pP CM))))=true:=by kernel_rfl
end Gh
end
section
namespace Gh
open PySem
section
noncomputable def uZ (K K' O:T) (mid:Nat):Prop:=(K'=K∧bo [] (ro (mrg K (mrg O CM))) mid=true)∨bo [K'] (mrg K (ro (mrg O CM))) mid=true
noncomputable def dh (Ks:List T) (O:T) (own:List Nat):Prop:=∀ mid,mid∈own→∀ K,K∈Ks→∃ K',K'∈Ks∧uZ K K' O mid
noncomputable def Cf (g:Nat) (K M O:T):Prop:=∃ (FD LM:T) (fl ml own:List Nat) (Ks:List T),K∈Ks∧cfB Ks O LM fl ml own=true∧dh Ks O own∧aE none n4 idP ρ3 [FD] 0 0 (aJ E (ρ2 g) (aL 7) itG bfF ⟨mrg FD0 (ro (mrg M (mrg TD (mrg O CM)))),n3s⟩)=⟨true,.unb,.unb⟩ ∧
  aR n3 gMv [LM] (E.e (ρ1 g) cJ ⟨.nil,n2⟩)=true∧at_ FD (.o (.o (.o (.i (.o (.o (.o (.i (.o (.o .h))))))))))=.ob false (.lst fl.length (fl.map i))∧at_ LM (.i (.i (.i (.o (.o (.o (.o (.i (.o (.o .h))))))))))=.ob false (.lst ml.length (ml.map i))
noncomputable def fl_FD0a:List Nat:=[124,126,127,131,132,206,125,128,129,133,130,134,135,136,137]
noncomputable def fl_FD1a:List Nat:=[124,126,127,131,132,206,125,128,129,133,130,134,135,136,137,65,66,67,68,208,209,210]
noncomputable def fl_FD3a:List Nat:=[124,126,127,131,132,206,125,128,129,133,130,134,135,136,137,14,17,20]
noncomputable def fl_FD4a:List Nat:=[124,126,127,131,132,206,125,128,129,133,130,134,135,136,137,1,3,6,7]
noncomputable def fl_FD2_0a:List Nat:=[124,126,127,131,132,206,125,128,129,133,130,134,135,136,137,21,22,23,24,25,26,30,31,32,33,34,35,36,37,38,39,40,41,42,43,44,45,46,47,48,49,50,51,52,53,54,55]
noncomputable def Ka (m g:Nat):T:=match g with | 0=>K0a | 1=>K1a | 2=>K2 | 3=>K3a | 4=>K4a | _=>K5a
noncomputable def Ma (m g:Nat):T:=match g with | 0=>M0a | 1=>M1a | 2=>(match m with | 0=>mJ | 1=>mI | 2=>mH | 3=>mG | 4=>mF | 5=>mE | _=>mD) | 3=>M3a | 4=>M4a | _=>M5a
noncomputable def Na (m g:Nat):T:=match g with | 0=>O0a | 1=>O1a | 2=>(match m with | 0=>qf | 1=>qe | 2=>qd | 3=>qc | 4=>p8 | 5=>pZ | _=>pY) | 3=>O3a | 4=>O4a | _=>O5a
noncomputable def Nn (g:Nat):Ps:=match g with | 0=>n2 | 2=>n2 | _=>n1
end
theorem ba0 {K O:T}:dh [K] O []:=fun ξ h=>nomatch h
theorem ba1 {K O:T} {own:List Nat} (h:own.all (bo [] (ro (mrg K (mrg O CM))))=true):dh [K] O own:=fun mid hm K' hK=>by rw [List.mem_singleton.mp hK];exact ⟨K,.head _,.inl ⟨rfl,List.all_eq_true.mp h mid hm⟩⟩
theorem ba3 {K0 K1 K2 O:T} {l1 l2:List Nat} (a:l1.all (bo [K1] (mrg K0 (ro (mrg O CM))))=true) (b:l2.all (bo [K2] (mrg K0 (ro (mrg O CM))))=true) (c:l1.all (bo [K1] (mrg K1 (ro (mrg O CM))))=true) (d:l2.all (bo [K2] (mrg K1 (ro (mrg O CM))))=true) (e:(l1++l2).all (bo [K2] (mrg K2 (ro (mrg O CM))))=true):dh [K0,K1,K2] O (l1++l2):=fun mid hm K hK=>by
 simp only [List.mem_cons,List.not_mem_nil,or_false] at hK
 rcases hK with rfl | rfl | rfl
 ·rcases List.mem_append.mp hm with h | h
  ·exact ⟨K1,.tail _ (.head _),.inr (List.all_eq_true.mp a mid h)⟩
  ·exact ⟨K2,.tail _ (.tail _ (.head _)),.inr (List.all_eq_true.mp b mid h)⟩
 ·rcases List.mem_append.mp hm with h | h
  ·exact ⟨_,.tail _ (.head _),.inr (List.all_eq_true.mp c mid h)⟩
  ·exact ⟨K2,.tail _ (.tail _ (.head _)),.inr (List.all_eq_true.mp d mid h)⟩
 ·exact ⟨_,.tail _ (.tail _ (.head _)),.inr (List.all_eq_true.mp e mid hm)⟩
theorem jh:at_ lq (.o (.o (.o (.i (.o (.o (.o (.i (.o (.o .h))))))))))=.ob false (.lst fl_FD0a.length (fl_FD0a.map i)):=by kernel_rfl
theorem wg:Cf 0 K0a M0a O0a:=⟨lq,LM0,fl_FD0a,ml0,ow0,[K0a],.head _,by kernel_rfl,ba0,fn0a,sM0,jh,ma0⟩
theorem mr:at_ qj (.o (.o (.o (.i (.o (.o (.o (.i (.o (.o .h))))))))))=.ob false (.lst fl_FD1a.length (fl_FD1a.map i)):=by kernel_rfl
theorem cf1a:Cf 1 K1a M1a O1a:=⟨qj,LM1,fl_FD1a,ml1,ow1,[K1a,ko,kl],.head _,by kernel_rfl,ba3 (l1:=[65,66,67,68]) uM uL uK uJ uI,fn1a,sM1,mr,ma1⟩
theorem cf1b:Cf 1 K1b M1b O1b:=⟨qj,LM1,fl_FD1a,ml1,ow1,[K1b,kj,kh],.head _,by kernel_rfl,ba3 (l1:=[65,66,67,68]) uH uG uF uE uD,fn1b,sM1,mr,ma1⟩
theorem mq:at_ qi (.o (.o (.o (.i (.o (.o (.o (.i (.o (.o .h))))))))))=.ob false (.lst fl_FD3a.length (fl_FD3a.map i)):=by kernel_rfl
theorem cf3a:Cf 3 K3a M3a O3a:=⟨qi,LM3,fl_FD3a,ml3,ow3,[K3a],.head _,by kernel_rfl,ba1 b3a,fn3a,sM3,mq,ma3⟩
theorem cf3b:Cf 3 K3b M3b O3b:=⟨qi,LM3,fl_FD3a,ml3,ow3,[K3b],.head _,by kernel_rfl,ba1 b3b,fn3b,sM3,mq,ma3⟩
theorem mo:at_ qh (.o (.o (.o (.i (.o (.o (.o (.i (.o (.o .h))))))))))=.ob false (.lst fl_FD4a.length (fl_FD4a.map i)):=by kernel_rfl
theorem cf4a:Cf 4 K4a M4a O4a:=⟨qh,LM4,fl_FD4a,ml4,ow4,[K4a],.head _,by kernel_rfl,ba1 b4a,fn4a,sM4,mo,ma4⟩
theorem cf4b:Cf 4 K4b M4b O4b:=⟨qh,LM4,fl_FD4a,ml4,ow4,[K4b],.head _,by kernel_rfl,ba1 b4b,fn4b,sM4,mo,ma4⟩
theorem cf5a:Cf 5 K5a M5a O5a:=⟨lq,LM5,fl_FD0a,ml5,ow5,[K5a],.head _,by kernel_rfl,ba0,fn5a,sM5,jh,ma5⟩
theorem cf5b:Cf 5 K5b M5b O5b:=⟨lq,LM5,fl_FD0a,ml5,ow5,[K5b],.head _,by kernel_rfl,ba0,fn5b,sM5,jh,ma5⟩
theorem bn:at_ aX (.o (.o (.o (.i (.o (.o (.o (.i (.o (.o .h))))))))))=.ob false (.lst fl_FD2_0a.length (fl_FD2_0a.map i)):=by kernel_rfl
theorem ur:Cf 2 K2 mJ pX:=⟨aX,LM2,fl_FD2_0a,ml2,ow2,[K2],.head _,by kernel_rfl,ba1 wy,t7,sM2,bn,ma2⟩
theorem uq:Cf 2 K2 mI pW:=⟨aX,LM2,fl_FD2_0a,ml2,ow2,[K2],.head _,by kernel_rfl,ba1 wx,t6,sM2,bn,ma2⟩
theorem uo:Cf 2 K2 mH pV:=⟨aX,LM2,fl_FD2_0a,ml2,ow2,[K2],.head _,by kernel_rfl,ba1 ww,t5,sM2,bn,ma2⟩
theorem un:Cf 2 K2 mG pU:=⟨aX,LM2,fl_FD2_0a,ml2,ow2,[K2],.head _,by kernel_rfl,ba1 wv,t0,sM2,bn,ma2⟩
theorem um:Cf 2 K2 mF pT:=⟨aX,LM2,fl_FD2_0a,ml2,ow2,[K2],.head _,by kernel_rfl,ba1 wu,tZ,sM2,bn,ma2⟩
theorem ul:Cf 2 K2 mE pR:=⟨aX,LM2,fl_FD2_0a,ml2,ow2,[K2],.head _,by kernel_rfl,ba1 wt,tY,sM2,bn,ma2⟩
theorem uk:Cf 2 K2 mD pP:=⟨aX,LM2,fl_FD2_0a,ml2,ow2,[K2],.head _,by kernel_rfl,ba1 wq,tX,sM2,bn,ma2⟩
theorem sE0b:aR n2 .none [] (E.f aV [(r 0),i 0] ⟨.nil,n2⟩)=true:=by kernel_rfl
end Gh
end
section
namespace Gh
open PySem PyProof.Rows PySem.W PySem.SeqAt PySem.Calls
section
variable {C:Cx} {X Y:Addr→Prop} {ι ι1 ι2:Im} {σ σ1:St} {h h1 h2:Heap} {n:Ps} {f:Ps→Ps}
theorem Kps.cut:Kps X ι h (cut ι n f) h:=fun a o _ ⟨e,off⟩=>⟨e,fun g p i=>off _ p (bY i).2⟩
end
section
variable {C:Cx} {ι ι':Im} {σ σ':St} {h h':Heap} {L:Addr} {ns:List Str} {ρ ρ':List V} {n:Ps} {f:Ps→Ps} {m:Option Nat}
theorem FS.re (F:FS C ι σ h L ns ρ) (R':SR C ι' σ' h) (hs:∀ g p,ι' g=some p→∃ g',ι g'=some p) (hv:∀ i,nth ρ' i≠.unb→nth ρ i≠.unb∧∀ x,VR C ι h (nth ρ i) x→VR C ι' h (nth ρ' i) x):FS C ι' σ' h L ns ρ':=by
 obtain ⟨mm,hm,q⟩:=F.ns
 refine ⟨R',⟨mm,hm,fun i x hx hn=>?_⟩,F.above,fun g p i=>?_⟩
 ·refine ct fun ng=>?_
  obtain ⟨hu,hr⟩:=hv i hn
  obtain ⟨v,e,r⟩:=q i x hx hu
  refine ng ?_
  exact ⟨v,e,hr v r⟩
 ·obtain ⟨g',i'⟩:=hs g p i
  exact F.off g' p i'
theorem FS.same (F:FS C ι σ h L ns ρ) (R':SR C ι σ' h):FS C ι σ' h L ns ρ:=F.re R' (fun g p i=>⟨g,i⟩) fun i hn=>⟨hn,fun x r=>r⟩
theorem pN {l l':List V} {f:V→V→Bool} (h:cH f l l'=true):∀ i,i < l.length→f (nth l i) (nth l' i)=true:=by
 have q:=bw h
 intro i hi
 rw [dE,dE]
 obtain ⟨b,e,z⟩:=q.at (List.getElem?_eq_getElem hi)
 rw [List.getElem?_eq_getElem hi,e];exact z
theorem c8 {env:List V} (h:iA m n f env ρ=true) (i:Nat) (hn:nth env i≠.unb):nth ρ i≠.unb∧vle m n f (nth env i) (nth ρ i)=true:=by
 have hi:i < env.length:=by
  rcases Nat.lt_or_ge i env.length with c | c
  ·exact c
  ·exfalso;apply hn;rw [dE,List.getElem?_eq_none c];rfl
 have:=pN h i hi
 have e:aP (nth env i) true (vle m n f (nth env i) (nth ρ i))=true:=this
 have e2:vle m n f (nth env i) (nth ρ i)=true:=by
  revert e
  generalize nth env i=u at hn ⊢
  cases u<;>first | exact fun e=>e | exact absurd rfl hn
 exact ⟨fZ e2,e2⟩
theorem FS.weaken (ρk:RhoOk C) (hm:∀ k,m=some k→C.ρ 1=(k:Int)) (hf:∀ a b,f a=f b→a=b) {a:T} (F:FS C ι σ h L ns ρ) (he:iA m n f ρ' ρ=true) (hl:leT m n f a σ.h=true):FS C (Gh.cut ι n f) ⟨a,n⟩ h L ns ρ' :=
 F.re (F.sr.weaken ρk hm hf hl) (fun g p i=>⟨_,(bY i).2⟩) fun i hn=>let ⟨a,b⟩:=c8 he i hn;⟨a,fun x r=>a7 ρk hm r b⟩
end
theorem aO:∀ a b,idP a=idP b→a=b:=fun ξ ξ h=>h
theorem lD (p q g:Ps):swp p q (swp p q g)=g:=by
 have e:∀ g,swp p q g=@Bool.rec (fun ξ=>Ps) (@Bool.rec (fun ξ=>Ps) g p (pEq g q)) q (pEq g p):=fun ξ=>rfl
 have refl:∀ g:Ps,pEq g g=true:=by
  intro g
  induction g with
  | h=>rfl
  | o p ih=>exact ih
  | i p ih=>exact ih
 cases h1:pEq g p with
 | true =>
  rw [e g,h1]
  obtain rfl:=aW h1
  show swp g q q=g
  rw [e q]
  cases h2:pEq q g with
  | true=>exact aW h2
  | false=>rw [refl q]
 | false =>
  cases h2:pEq g q with
  | true =>
   have e1:swp p q g=p:=by rw [e g,h1,h2]
   rw [e1,e p,refl p];exact (aW h2).symm
  | false =>
   have e1:swp p q g=g:=by rw [e g,h1,h2]
   rw [e1,e1]
theorem lE (p q:Ps):∀ a b,swp p q a=swp p q b→a=b:=fun a b h=>by rw [← lD p q a,h,lD]
theorem tW:∀ a b,fz a=fz b→a=b:=fun a b h=>lE _ _ _ _ (lE _ _ _ _ h)
section
variable {C:Cx} {n:Nat} {ih:Ev} {ι ι' ι1:Im} {σ σ' σ1:St} {A:Around} {s s1:Shared} {E0:Value→Shared→Prop} {L:Addr} {env:Env} {fn:List Nat} {ρ ρ':List V} {a b v:V} {x y z:Value} {h h':Heap}
theorem qM (k:AllOk C) {i:Ps} {ar nl:Nat} {body:List GS} (ef:Tr.get .no i ft=.mk ar nl body) {vs:List V} {xs:List Value} (hl:vs.length=ar) (rm:RM A (n+1)) (R:SR C ι σ s.heap) (rs:VRs C ι s.heap vs xs) {Q:Value→Shared→Prop}
  (hb:∀ (A':Around) (L:Addr) (env:Env) (fn:List Nat) (stmts:List Stmt) (s1:Shared),RM A' n→EOk env L→fn.Nodup→RQs fn env.scope body stmts→Sh s s1→s.heap.get? L=none→(∀ b o,s.heap.get? b=some o→s1.heap.get? b=some o) →
   FS C ι σ s1.heap L (fn.map gnm) (app vs (jf (Nat.sub nl ar)))→wpAny (model C.prog C.w) A' (execs stmts env) (fun f s'=>match f with | .ret x=>Q x s' | _=>False) (fun ξ ξ=>False) s1) :
  codeAny (model C.prog C.w) A (.call (.ref (C.fa i)) ⟨xs,[]⟩) (CB Q) s:=by
 refine ct fun ng=>?_
 obtain ⟨name,qual,ps,stmts,scope,pm,cd,doc,ct,an,o,fn,ho,hd,hcd,nd,fl,al,hps,sk,sco,sge,scell,sloc,rq⟩:=(k.fns i ar nl body ef).ex
 have lx:xs.length=ar:=rs.length▸hl
 refine ng ?_
 have lt:(fn.take ar).length=ar:=by rw [List.length_take,fl];omega
 have hn:(ps.map (·.arg)).Nodup:=by
  rw [hps]
  have:(fn.take ar).Nodup:=nd.sublist (List.take_sublist _ _)
  refine List.pairwise_map.mpr (this.imp fun hne c=>hne (k.nm.inj _ _ c))
 have hb':=dS name qual ps stmts scope pm cd doc ct an xs (by rw [hps,List.length_map,lt,lx]) hn
 refine codeAny_call_def (fd:=fnOf name qual ⟨[],ps,none,[],[],none,[]⟩ stmts scope .none .none doc pm an cd ct) (body:=stmts) (by have:=rm.dep;omega) (R.base _ _ ho) hd (k.nolimit.keeps R.base) (hcd.keeps R.base) rfl (BindsTo.of_eq hb') scell ?_ (fun hh hns hk=>?_) sco sge sk
 ·intro p hp
  have:p.1∈ps.map (·.arg):=(List.of_mem_zip hp).1
  rw [hps] at this
  obtain ⟨kk,hkk,e⟩:=List.mem_map.mp this
  rw [← e]
  exact sloc kk hkk
 ·have rm':RM (A.deeper (callEnv (fnOf name qual ⟨[],ps,none,[],[],none,[]⟩ stmts scope .none .none doc pm an cd ct) s.heap.objs.size (C.fa i))) n:=by
   obtain ⟨r1,r2,r3⟩:=rm
   refine ⟨r1,?_,?_⟩
   ·show A.depth+1+_+_ < _;omega
   ·show A.units+3+_+_ < _;omega
  have eo:EOk (callEnv (fnOf name qual ⟨[],ps,none,[],[],none,[]⟩ stmts scope .none .none doc pm an cd ct) s.heap.objs.size (C.fa i)) s.heap.objs.size:=⟨sk,rfl,rfl,rfl⟩
  have F:FS C ι σ hh s.heap.objs.size (fn.map gnm) (app vs (jf (Nat.sub nl ar))):=by
   refine ⟨R.grow hk,⟨_,hns,fun j nm hj hu=>?_⟩,?_,fun g p e=>?_⟩
   ·rw [List.getElem?_map] at hj
    obtain ⟨kk,e,rfl⟩:=Option.map_eq_some_iff.mp hj
    by_cases c:j < vs.length
    ·rw [iX _ _ _ c] at hu ⊢
     have e1:=bI hu
     obtain ⟨x,ex,rx⟩:=rs.at e1
     refine ⟨x,?_,rx.mono (fun ξ ξ e=>e) fun a o e ξ=>hk a o e⟩
     rw [hps]
     have e':(fn.take ar)[j]?=some kk:=by rw [List.getElem?_take,if_pos (by omega)];exact e
     exact gD k.nm (nd.sublist (List.take_sublist _ _)) (by rw [lt,lx]) e' ex
    ·rw [cq _ _ _ (Nat.not_lt.mp c)] at hu;exact absurd rfl hu
   ·cases q:C.h0.get? s.heap.objs.size with
    | none=>rfl
    | some o=>exact (aa (fresh s.heap) (R.base _ _ q)).elim
   ·obtain ⟨_,_,_,⟨o,l1⟩,o',l2⟩:=R.dom g p e
    exact ⟨fun c=>aa (fresh s.heap) (c▸l1),fun c=>aa (fresh s.heap) (c▸l2)⟩
  have w:=hb _ _ _ fn stmts { s with heap:=hh,toks:=s.toks+((ps.map (·.arg)).zip xs).length } rm' eo nd rq (Sh.mk _ _) (fresh s.heap) hk F
  refine wpAny_mono w (fun f s' q=>?_) fun ξ ξ e=>e.elim
  cases f<;>first | exact q.elim | exact q
end
end Gh
end
section
namespace Gh
open PySem PyProof.Rows PySem.W PySem.SeqAt PySem.Calls
section
variable {C:Cx} {n:Nat} {ih:Ev} {ι ι' ι1:Im} {σ σ' σ1:St} {A:Around} {s s1:Shared} {E0:Value→Shared→Prop} {L:Addr} {env:Env} {fn:List Nat} {ρ ρ':List V} {a b v:V} {x y z:Value} {h h':Heap} {B S:T} {k k':Ps}
theorem oP (e:leP k k'=true):k.num≤k'.num:=by
 have:=natble.mp e
 rw [b8,b8] at this
 exact this
theorem bT (R:SR C ι σ h) (e:leP σ.n k=true):cut ι k idP=ι:=by
 funext g
 unfold cut
 split
 ·rfl
 ·cases i:ι g with
  | none=>rfl
  | some p=>exact absurd (Nat.lt_of_lt_of_le (R.dom g p i).1 (oP e)) ‹_›
theorem cX {m:Option Nat} {N:Ps} {f:Ps→Ps} {Ls:List T} {h:T} (e:fX m N f Ls h=true):∀ B∈Ls,leT m N f B h=true:=by
 induction Ls with
 | nil=>intro B hB;exact nomatch hB
 | cons L Ls ih =>
  have e:=Bool.and_eq_true_iff.mp (show (leT m N f L h&&fX m N f Ls h)=true from e)
  intro B hB
  rcases List.mem_cons.mp hB with c | hB
  ·rw [c];exact e.1
  ·exact ih e.2 B hB
theorem SR.raise (R:SR C ι ⟨B,k⟩ h) (e:leP k k'=true):SR C ι ⟨B,k'⟩ h :=
 ⟨fun g p i=>⟨Nat.lt_of_lt_of_le (R.dom g p i).1 (oP e),(R.dom g p i).2⟩,R.apart,R.obs,R.base⟩
theorem SR.none (R:SR C ι σ h):SR C ι ⟨.nil,σ.n⟩ h:=by
 refine ⟨R.dom,R.apart,fun g w o e=>?_,R.base⟩
 rw [show at_ (St.h ⟨.nil,σ.n⟩) g=.no from bF g] at e
 injection e
theorem cP:aw .nil B=true:=rfl
theorem on:∀ (g:Ps) (a:T) {w:Bool} {o:O},at_ (ro a) g=.ob w o→∃ w',at_ a g=.ob w' o
 | g,.nil,w,o,e=>by rw [show ro .nil=.nil from rfl,bF] at e;injection e
 | .h,.node v l r,w,o,e=>by
  cases v with
  | no=>exact nomatch (show Cell.no=.ob w o from e)
  | ob w' o'=>cases (show Cell.ob false o'=.ob w o from e);exact ⟨w',rfl⟩
 | .o g,.node v l r,w,o,e=>on g l e
 | .i g,.node v l r,w,o,e=>on g r e
theorem SR.ro (R:SR C ι ⟨B,k⟩ h):SR C ι ⟨Gh.ro B,k⟩ h:=⟨R.dom,R.apart,fun g w o e=>let ⟨w',e'⟩:=on g B e;R.obs g w' o e',R.base⟩
theorem sw (HS:fC C n ih) (rm:RM A n) (eo:EOk env L) (nd:fn.Nodup) {rest:List Stmt} {Q:Flow→Shared→Prop} {ρ1:List V}:∀ {gs:List GS} {sts:List Stmt},RQs fn env.scope gs sts→∀ {ι:Im} {σ:St} {s:Shared} {ρ:List V},FS C ι σ s.heap L (fn.map gnm) ρ→blk ih gs ρ σ=.next ρ1 σ1 →
  (∀ ι1 s1,Sh s s1→FS C ι1 σ1 s1.heap L (fn.map gnm) ρ1→SS (·=L) ι σ s.heap ι1 σ1 s1.heap→wpAny (model C.prog C.w) A (execs rest env) Q E0 s1)→wpAny (model C.prog C.w) A (execs (sts++rest) env) Q E0 s:=by
 intro gs
 induction gs with
 | nil =>
  intro sts q ι σ s ρ F h k
  rw [q.n1]
  injection (show RS.next ρ σ=.next ρ1 σ1 from h) with h1 h2
  subst h1 h2
  exact k ι s Sh.refl F SS.refl
 | cons g gs ihg =>
  intro sts q ι σ s ρ F h k
  refine ct fun ng=>?_
  obtain ⟨st,sts,rfl,q,qs⟩:=q.c1
  change @RS.rec (fun ξ=>RS) .fail (fun ρ σ=>blk ih gs ρ σ) (fun v σ=>.ret v σ) (ih.s ρ g σ)=.next ρ1 σ1 at h
  refine ng ?_
  cases e:ih.s ρ g σ with
  | fail=>rw [e] at h;injection h
  | ret v σ2=>rw [e] at h;injection h
  | next ρ2 σ2 =>
   rw [e] at h
   refine wpAny_execs_cons (wm (HS rm eo nd q F e nofun) (fun f s1 q1=>?_))
   cases f<;>first | exact q1.elim | skip
   refine ct fun ng=>?_
   obtain ⟨a1,ι1,F1,S1⟩:=q1
   refine ng ?_
   exact ihg qs F1 h fun ι2 s2 a2 F2 S2=>k ι2 s2 (a1.trans a2) F2 (S1.trans S2)
theorem F2.split {α β:Type} {R:α→β→Prop} {g1 g2:List α}:∀ {sts:List β},F2 R (g1++g2) sts→∃ s1 s2,sts=s1++s2∧F2 R g1 s1∧F2 R g2 s2:=by
 induction g1 with
 | nil=>intro sts r;exact ⟨[],sts,rfl,.nil,r⟩
 | cons g g1 ih =>
  intro sts r
  refine ct fun ng=>?_
  obtain ⟨st,sts,rfl,a,b⟩:=F2.c1 r
  obtain ⟨s1,s2,e,r1,r2⟩:=ih b
  refine ng ?_
  exact ⟨st :: s1,s2,congrArg _ e,.cons a r1,r2⟩
theorem seg {gs:List GS} {sts rest:List Stmt} (HS:fC C 200 (ev 200)) (rm:RM A 200) (eo:EOk env L) (nd:fn.Nodup) (rq:RQs fn env.scope gs sts) (F:FS C ι σ s.heap L (fn.map gnm) ρ) {m:Option Nat} {N:Ps} {f:Ps→Ps} {env':List V} {Lt:List T} {p q:Nat}
  (h:aE m N f env' Lt p q (blk E gs ρ σ)=⟨true,a,b⟩) {Q:Flow→Shared→Prop}
  (hq:∀ ι1 σ1 ρ1 s1,leP σ1.n N=true→Sh s s1→FS C ι1 σ1 s1.heap L (fn.map gnm) ρ1→SS (·=L) ι σ s.heap ι1 σ1 s1.heap→iA m N f env' ρ1=true→(∀ B∈Lt,leT m N f B σ1.h=true)→nth ρ1 p=a→nth ρ1 q=b→wpAny (model C.prog C.w) A (execs rest env) Q E0 s1) :
  wpAny (model C.prog C.w) A (execs (sts++rest) env) Q E0 s:=by
 cases e:blk E gs ρ σ with
 | fail=>rw [e] at h;exact (Bool.false_ne_true (congrArg Out.ok h)).elim
 | ret v σ1=>rw [e] at h;exact (Bool.false_ne_true (congrArg Out.ok h)).elim
 | next ρ1 σ1 =>
  rw [e] at h
  have h1:(leP σ1.n N&&(iA m N f env' ρ1&&fX m N f Lt σ1.h))=true:=congrArg Out.ok h
  have h3:=Bool.and_eq_true_iff.mp h1
  have h2:=Bool.and_eq_true_iff.mp h3.2
  exact sw @HS rm eo nd rq F e fun ι1 s1 a1 F1 S1=>hq ι1 σ1 ρ1 s1 h3.1 a1 F1 S1 h2.1 (cX h2.2) (congrArg Out.a h) (congrArg Out.b h)
theorem iP:∀ {a b:T},aw (Gh.ro a) b=true
 | .nil,b=>rfl
 | .node v l r,.nil=>rfl
 | .node v l r,.node v' l' r'=>by
  show (dj (@Cell.rec (fun ξ=>Cell) .no (fun ξ o=>.ob false o) v) v'&&(aw (Gh.ro l) l'&&aw (Gh.ro r) r'))=true
  rw [iP (a:=l),iP (a:=r)]
  cases v<;>rfl
end
theorem hA {kk:Nat} (h:kk < 4) (a b:V):aE (some kk) nA idP eA [LA] 1 2 (blk E wB1 (app [i kk,a,b] fl) σ0)=⟨true,a,b⟩:=by
 match kk,h with
 | 0,_=>exact sA0 a b
 | 1,_=>exact sA1 a b
 | 2,_=>exact sA2 a b
 | 3,_=>exact sA3 a b
theorem hB {m:Nat} (h:m < 7) (b:V):aE none nB (fm m) eB [LS,L14,LW,Wm m] 2 2 (blk E wB2 (eAm m b) ⟨LA,nA⟩)=⟨true,b,b⟩:=by
 match m,h with
 | 0,_=>exact sB0 b
 | 1,_=>exact sB1 b
 | 2,_=>exact sB2 b
 | 3,_=>exact sB3 b
 | 4,_=>exact sB4 b
 | 5,_=>exact sB5 b
 | 6,_=>exact sB6 b
theorem hC {m g:Nat} (h:m < 7) (hg:g < 6):aE none nC idP eB [LS,LW,TC,Tg m g] 0 0 (blk E wB3 (eBg g) ⟨Sc m g,nB⟩)=⟨true,.unb,.unb⟩:=by
 match g,hg with
 | 0,_=>exact sC0
 | 1,_=>exact sC1
 | 3,_=>exact sC3
 | 4,_=>exact sC4
 | 5,_=>exact sC5
 | 2,_ =>
  match m,h with
  | 0,_=>exact vE
  | 1,_=>exact vD
  | 2,_=>exact vC
  | 3,_=>exact vB
  | 4,_=>exact vz
  | 5,_=>exact vy
  | 6,_=>exact vu
theorem be {a b:Bool} (h:(a&&b)=true):a=true∧b=true:=Bool.and_eq_true_iff.mp h
theorem rWm {m:Nat} (h:m < 7):(leT none nC idP (Wm m) (Wm m)&&(aw (mrg LS (mrg L14 LW)) (Wm m)&&(aw (mrg (Wm m) (mrg LS (mrg L14 LW))) (Wm m)&&aw (mrg LS (mrg TC Lc)) (Wm m))))=true:=List.all_eq_true.mp rW m (List.mem_range.mpr h)
theorem hW {m g:Nat} (h:m < 7):leT none nC idP (Wm m) (Wm m)=true∧aw (Sc m g) (Wm m)=true:=by
 have d:=be (rWm h)
 have e:=be d.2
 refine ⟨d.1,?_⟩
 rcases g with _ | _ | _ | g
 ·exact e.1
 ·exact e.1
 ·exact (be e.2).1
 ·exact e.1
theorem gs6 {g:Nat} (h:g < 6):g=2∨g∈[0,1,3,4,5]:=by
 simp only [List.mem_cons,List.not_mem_nil,or_false];omega
theorem wR {m g:Nat} (h:g∈[0,1,3,4,5]):Tg m g=Tg 0 g:=by
 simp only [List.mem_cons,List.not_mem_nil,or_false] at h
 rcases h with rfl | rfl | rfl | rfl | rfl<;>rfl
theorem t8 (m:Nat):∀ a b,fm m a=fm m b→a=b:=by
 match m with
 | 0=>exact tW
 | _+1=>exact aO
end Gh
end
section
namespace Gh
open PySem PyProof.Rows PySem.W PySem.SeqAt PySem.Calls
section
variable {C:Cx} {n:Nat} {ih:Ev} {ι ι' ι1:Im} {σ σ' σ1:St} {A:Around} {s s1:Shared} {E0:Value→Shared→Prop} {L:Addr} {env:Env} {fn:List Nat} {ns:List Str} {ρ ρ':List V} {a b v:V} {x y z:Value} {h h1:Heap} {B S:T} {k k':Ps}
theorem SR.frameL (F:FS C ι σ h L ns ρ) (R1:SR C ι1 σ1 h1) (S:SS (·=L) ι σ h ι1 σ1 h1) (P:SR C ι ⟨B,k⟩ h) (d:aw σ.h B=true):SR C ι1 ⟨B,σ1.n⟩ h1:=by
 refine ⟨R1.dom,R1.apart,fun g w o e=>?_,R1.base⟩
 obtain ⟨p,i,r⟩:=P.obs g w o e
 have tk:Tk h h1:=S.tk F.sr fun a e o ho=>by subst e;exact F.notT o ho
 have f:=F.off g p i
 refine ⟨p,S.ext _ _ i,r.mono S.ext tk (fun o' e'=>S.keep _ _ e' (fun x=>f.1 x.symm) ?_) fun o' e'=>S.keep _ _ e' (fun x=>f.2 x.symm) ?_⟩
 all_goals
  rintro ⟨g',p',o',e1,i',z⟩
  by_cases c:g'=g
  ·subst c
   have:=eV g' d e1
   rw [show at_ B g'=_ from e] at this
   injection this
  ·have ap:=F.sr.apart g' g p' p i' i c
   rcases z with z | ⟨z,_⟩
   ·first | exact ap.1 z.symm | exact ap.2.1 z.symm
   ·first | exact ap.2.2.1 z.symm | exact ap.2.2.2 z.symm
structure WOut (C:Cx) (ι:Im) (h:Heap) (m g:Nat):Prop where
 s:SR C ι ⟨LS,nR⟩ h
 lw:SR C ι ⟨LW,nR⟩ h
 c:SR C ι ⟨TC,nR⟩ h
 t:SR C ι ⟨Tg m g,nR⟩ h
 w:SR C ι ⟨Wm m,nR⟩ h
 v:SR C ι ⟨LV,nR⟩ h
noncomputable def wi:Ps:=.i (.o Z1)
theorem w_ef:Tr.get .no wi ft=.mk 3 17 (wB1++(wB2++(wB3++wB4))):=by kernel_rfl
theorem ku {o:Int} {q:Nat} (r:VR C ι h (.int o q) x):VR C ι' h1 (.int o q) x:=by cases r with | int e=>exact .int e
theorem wT {m g:Nat} (P1:SR C ι ⟨LS,nB⟩ h) (P2:SR C ι ⟨L14,nB⟩ h) (P3:SR C ι ⟨LW,nB⟩ h) (W:SR C ι ⟨Wm m,nB⟩ h):SR C ι ⟨Sc m g,nB⟩ h:=by
 have P:SR C ι ⟨Gh.mrg LS (Gh.mrg L14 LW),nB⟩ h:=P1.mrg (P2.mrg P3)
 match g with
 | 0=>exact P
 | 1=>exact P
 | 2=>exact W.mrg P
 | _+3=>exact P
theorem kt (k:AllOk C) (HS:fC C 200 (ev 200)) (rm:RM A 201) {kk m g:Nat} (hkk:kk < 4) (hm:m < 7) (hg:g < 6) (hρ:C.ρ 1=(kk:Int)) (R:SR C ι σ0 s.heap) {xs:List Value} (rs:VRs C ι s.heap [i kk,i m,i g] xs) :
  codeAny (model C.prog C.w) A (.call (.ref (C.fa wi)) ⟨xs,[]⟩) (CB fun x s'=>Sh s s'∧∃ ι',Tk s.heap s'.heap∧Kps X0 ι s.heap ι' s'.heap∧VR C ι' s'.heap (.ref nC) x∧WOut C ι' s'.heap m g) s:=by
 have ρk:=k.toRhoOk
 have hn:∀ k,(none:Option Nat)=some k→C.ρ 1=(k:Int):=fun k e=>nomatch e
 refine qM k w_ef rfl rm R rs fun A' L env fn stmts s1 rm' eo nd rq a0 hL hk F=>?_
 refine ct fun ng=>?_
 obtain ⟨t1,t1',rfl,r1,rq⟩:=rq.split
 obtain ⟨t2,t2',rfl,r2,rq⟩:=rq.split
 obtain ⟨t3,t4,rfl,r3,r4⟩:=rq.split
 refine ng ?_
 have tkL:∀ {ι:Im} {σ:St} {h:Heap} {ns:List Str} {ρ:List V} {ι1:Im} {σ1:St} {h1:Heap},FS C ι σ h L ns ρ→SS (·=L) ι σ h ι1 σ1 h1→Tk h h1:=fun F S=>S.tk F.sr fun a e o ho=>by subst e;exact F.notT o ho
 have K0:Kps (·=L) ι s.heap ι s1.heap:=fun a o _ ⟨e,f⟩=>⟨hk _ _ e,f⟩
 refine seg @HS rm' eo nd r1 F (hA hkk (i m) (i g)) fun ι1 σ1 ρ1 s2 ξ a1 F1 S1 he hl ha hb=>?_
 have F1':FS C (cut ι1 nA idP) ⟨LA,nA⟩ s2.heap L (fn.map gnm) (eAm m (i g)):=F1.re (F1.sr.weaken ρk (fun k e=>by cases e;exact hρ) aO (hl _ (.head _))) (fun g p i=>⟨_,(bY i).2⟩) (fun j hj=>by
  match j,hj with
  | 0,hj=>exact absurd rfl hj
  | 1,_=>rw [ha];exact ⟨nofun,fun x r=>ku r⟩
  | 2,_=>rw [hb];exact ⟨nofun,fun x r=>ku r⟩
  | j+3,hj=>have:=c8 he (j+3) hj;exact ⟨this.1,fun x r=>a7 ρk (fun k e=>by cases e;exact hρ) r this.2⟩)
 have K1:Kps (·=L) ι s.heap (cut ι1 nA idP) s2.heap:=K0.trans ((Kps.of S1).trans Kps.cut)
 refine seg @HS rm' eo nd r2 F1' (hB hm (i g)) fun ι2 σ2 ρ2 s3 ξ a2 F2 S2 he hl ha ξ=>?_
 have w2:=fun B hB=>F2.sr.weaken ρk hn (t8 m) (hl B hB)
 have W2:=w2 (Wm m) (.tail _ (.tail _ (.tail _ (.head _))))
 have F2':FS C (cut ι2 nB (fm m)) ⟨Sc m g,nB⟩ s3.heap L (fn.map gnm) (eBg g):=F2.re (wT (w2 _ (.head _)) (w2 _ (.tail _ (.head _))) (w2 _ (.tail _ (.tail _ (.head _)))) W2) (fun g p i=>⟨_,(bY i).2⟩) (fun j hj=>by
  match j,hj with
  | 0,hj=>exact absurd rfl hj
  | 1,hj=>exact absurd rfl hj
  | 2,_=>rw [ha];exact ⟨nofun,fun x r=>ku r⟩
  | j+3,hj=>have:=c8 he (j+3) hj;exact ⟨this.1,fun x r=>a7 ρk hn r this.2⟩)
 have K2:Kps (·=L) ι s.heap (cut ι2 nB (fm m)) s3.heap:=K1.trans ((Kps.of S2).trans Kps.cut)
 refine seg @HS rm' eo nd r3 F2' (hC hm hg) fun ι3 σ3 ρ3 s4 ξ a3 F3 S3 he hl ξ ξ=>?_
 obtain ⟨w1,w2'⟩:=hW (m:=m) (g:=g) hm
 have p3:=fun B hB=>F3.sr.weaken ρk hn aO (hl B hB)
 have W3:SR C (cut ι3 nC idP) ⟨Wm m,nC⟩ s4.heap:=(SR.frameL F2' F3.sr S3 W2 w2').weaken ρk hn aO w1
 have K3:Kps (·=L) ι s.heap (cut ι3 nC idP) s4.heap:=K2.trans ((Kps.of S3).trans Kps.cut)
 have F3':FS C (cut ι3 nC idP) ⟨.nil,nC⟩ s4.heap L (fn.map gnm) eB:=F3.re W3.none (fun g p i=>⟨_,(bY i).2⟩) fun j hj=>have:=c8 he j hj;⟨this.1,fun x r=>a7 ρk hn r this.2⟩
 have hr:=sR
 cases e4:blk E wB4 eB ⟨.nil,nC⟩ with
 | fail=>rw [e4] at hr;exact (Bool.false_ne_true hr).elim
 | next ρ σ=>rw [e4] at hr;exact (Bool.false_ne_true hr).elim
 | ret v σ4 =>
  rw [e4] at hr
  have hr:=Bool.and_eq_true_iff.mp (show (leP σ4.n nR&&(vle none nR idP (.ref nC) v&&fX none nR idP [LV] σ4.h))=true from hr)
  have hr2:=Bool.and_eq_true_iff.mp hr.2
  refine wm (hZ @HS rm' eo nd r4 F3' e4 nofun) (fun fl s5 z=>?_)
  cases fl<;>first | exact z.elim | skip
  refine ct fun ng=>?_
  obtain ⟨a4,ι4,R4,S4,r4⟩:=z
  have cs:=bT R4 hr.1
  have v4:=a7 (n:=nR) (f:=idP) ρk hn r4 hr2.1
  have l4:=R4.weaken ρk hn aO (cX hr2.2 _ (.head _))
  rw [cs] at v4 l4
  refine ng ?_
  refine ⟨a0.trans (a1.trans (a2.trans (a3.trans a4))),ι4,(show Tk s.heap s1.heap from fun a o e ξ=>hk a o e).trans ((tkL F S1).trans ((tkL F1' S2).trans ((tkL F2' S3).trans (tkL F3' S4)))),?_,v4,⟨?_,?_,?_,?_,?_,l4⟩⟩
  ·intro a o _ kp
   exact (K3.trans (Kps.of S4)) a o (fun c=>aa hL (c▸kp.1)) kp
  ·exact (SR.frameL F3' R4 S4 (p3 _ (.head _)) cP).raise hr.1
  ·exact (SR.frameL F3' R4 S4 (p3 _ (.tail _ (.head _))) cP).raise hr.1
  ·exact (SR.frameL F3' R4 S4 (p3 _ (.tail _ (.tail _ (.head _)))) cP).raise hr.1
  ·exact (SR.frameL F3' R4 S4 (p3 _ (.tail _ (.tail _ (.tail _ (.head _))))) cP).raise hr.1
  ·exact (SR.frameL F3' R4 S4 W3 cP).raise hr.1
end
end Gh
end
section
namespace Gh
open PySem PyProof.Rows PySem.W PySem.SeqAt PySem.Calls
section
variable {C:Cx} {n:Nat} {ih:Ev} {ι ι' ι1:Im} {σ σ' σ1:St} {A:Around} {s s1:Shared} {E0:Value→Shared→Prop} {L:Addr} {env:Env} {fn:List Nat} {ns:List Str} {ρ ρ':List V} {a b v:V} {x y z:Value} {h h1:Heap} {B S L':T} {k k':Ps}
theorem callF (HF:dU C 200 (ev 200)) (ρk:RhoOk C) (rm:RM A 200) {fi:Ps} {vs:List V} {xs:List Value} {N N':Ps} {Ls:List T} (R:SR C ι ⟨S,N⟩ s.heap) (rs:VRs C ι s.heap vs xs) (h:aR N' v Ls (E.f fi vs ⟨S,N⟩)=true) :
  codeAny (model C.prog C.w) A (.call (.ref (C.fa fi)) ⟨xs,[]⟩) (CB fun x s'=>Sh s s'∧∃ ι',(∀ g p,ι g=some p→ι' g=some p)∧Tk s.heap s'.heap∧Kps X0 ι s.heap ι' s'.heap∧VR C ι' s'.heap v x∧(∀ B∈Ls,SR C ι' ⟨B,N'⟩ s'.heap) ∧
   ∀ P,SR C ι ⟨P,N⟩ s.heap→aw S P=true→SR C ι' ⟨P,N'⟩ s'.heap) s:=by
 have hn:∀ k,(none:Option Nat)=some k→C.ρ 1=(k:Int):=fun k e=>nomatch e
 cases e:E.f fi vs ⟨S,N⟩ with
 | fail=>rw [e] at h;exact (Bool.false_ne_true h).elim
 | ok w σ1 =>
  rw [e] at h
  have h:=Bool.and_eq_true_iff.mp (show (leP σ1.n N'&&(vle none N' idP v w&&fX none N' idP Ls σ1.h))=true from h)
  have h2:=Bool.and_eq_true_iff.mp h.2
  refine codeAny_mono (HF rm R rs e) fun r s' z=>?_
  rcases r with e | (x | _ | _ | _)<;>first | exact z.elim | skip
  refine ct fun ng=>?_
  obtain ⟨a1,ι1,R1,S1,r1⟩:=z
  have cs:=bT R1 h.1
  have v4:=a7 (n:=N') (f:=idP) ρk hn r1 h2.1
  rw [cs] at v4
  refine ng ?_
  exact ⟨a1,ι1,S1.ext,S1.tk R x0T,Kps.of S1,v4,fun B hB=>cs▸R1.weaken ρk hn aO (cX h2.2 B hB),fun P RP d=>(SR.frame R R1 S1 RP d).raise h.1⟩
theorem wh (HF:dU C 200 (ev 200)) (ρk:RhoOk C) (rm:RM A 200) {fi:Ps} {vs:List V} {xs:List Value} {N:Ps} {Ls:List T} (R:SR C ι ⟨S,N⟩ s.heap) (rs:VRs C ι s.heap vs xs) (h:tp N v Ls (E.f fi vs ⟨S,N⟩)=true) :
  codeAny (model C.prog C.w) A (.call (.ref (C.fa fi)) ⟨xs,[]⟩) (CB fun x s'=>Sh s s'∧∃ ι',(∀ g p,g.num < N.num→ι g=some p→ι' g=some p)∧Tk s.heap s'.heap∧Kps X0 ι s.heap ι' s'.heap∧VR C ι' s'.heap v x∧(∀ B∈Ls,SR C ι' ⟨B,N⟩ s'.heap) ∧
   ∀ P,SR C ι ⟨P,N⟩ s.heap→aw S P=true→leT none N idP P P=true→SR C ι' ⟨P,N⟩ s'.heap) s:=by
 have hn:∀ k,(none:Option Nat)=some k→C.ρ 1=(k:Int):=fun k e=>nomatch e
 cases e:E.f fi vs ⟨S,N⟩ with
 | fail=>rw [e] at h;exact (Bool.false_ne_true h).elim
 | ok w σ1 =>
  rw [e] at h
  have h2:=Bool.and_eq_true_iff.mp (show (vle none N idP v w&&fX none N idP Ls σ1.h)=true from h)
  refine codeAny_mono (HF rm R rs e) fun r s' z=>?_
  rcases r with e | (x | _ | _ | _)<;>first | exact z.elim | skip
  refine ct fun ng=>?_
  obtain ⟨a1,ι1,R1,S1,r1⟩:=z
  refine ng ?_
  refine ⟨a1,cut ι1 N idP,fun g p hg i=>?_,S1.tk R x0T,(Kps.of S1).trans Kps.cut,a7 ρk hn r1 h2.1,fun B hB=>R1.weaken ρk hn aO (cX h2.2 B hB),fun P RP d q=>(SR.frame R R1 S1 RP d).weaken ρk hn aO q⟩
  unfold cut
  rw [if_pos hg];exact S1.ext _ _ i
end
end Gh
end
section
namespace Gh
open PySem PyProof.Rows PySem.W PySem.SeqAt PySem.Calls
section
noncomputable def c3 (e:Expr):Expr:=hd (tl (tl (tl (ch e))))
noncomputable def slL (e:Expr):Expr:=hd (sL e)
noncomputable def slU (e:Expr):Expr:=hd (tl (sL e))
noncomputable def ifE (e:Expr):Expr:=hd (sL e)
noncomputable def v3 (l:List Expr):Expr:=@List.rec Expr (fun ξ=>Expr→Expr) id (fun a ξ ih ξ=>ih a) l oS
noncomputable def vS (s:Stmt):Expr:=v3 (sE s)
noncomputable def tS (s:Stmt):Expr:=hd (sE s)
noncomputable def bS (s:Stmt):List Stmt:=sB s
noncomputable def pS (s:Stmt):Pos:=s.pos
noncomputable def lwB:List Stmt:=Gt.svK (Gt.st 321) fun ξ ξ b ξ ξ ξ ξ=>b
noncomputable def lwS:Scope:=Gt.svK (Gt.st 321) fun ξ ξ ξ s ξ ξ ξ=>s
noncomputable def lwP:Arguments:=Gt.svK (Gt.st 321) fun ξ a ξ ξ ξ ξ ξ=>a
noncomputable def sN (l:List Stmt) (n:Nat):Stmt:=Gt.nth l n
noncomputable def fnl:List Nat:=[482,483,484,464,470,485,486,405,438]
noncomputable def z0:Stmt:=sN lwB 0
noncomputable def z1:Stmt:=sN lwB 1
noncomputable def z2:Stmt:=sN lwB 2
noncomputable def z3:Stmt:=sN lwB 3
noncomputable def z4:Stmt:=sN lwB 4
noncomputable def z5:Stmt:=sN lwB 5
noncomputable def z6:Stmt:=sN lwB 6
noncomputable def z7:Stmt:=sN lwB 7
noncomputable def z8:Stmt:=sN lwB 8
noncomputable def z9:Stmt:=sN lwB 9
noncomputable def z10:Stmt:=sN lwB 10
noncomputable def z11:Stmt:=sN lwB 11
noncomputable def z12:Stmt:=sN lwB 12
noncomputable def z13:Stmt:=sN lwB 13
noncomputable def kr:Stmt:=sN (bS z7) 0
noncomputable def az:Stmt:=sN (bS z10) 0
noncomputable def ju:Stmt:=sN (bS z11) 0
noncomputable def bg:Stmt:=sN (bS z12) 0
noncomputable def dW:Stmt:=sN (bS bg) 0
end
theorem qB:lwB=[z0,z1,z2,z3,z4,z5,z6,z7,z8,z9,z10,z11,z12,z13]:=by kernel_rfl
theorem q0:z0=(.Assign [(.Name (gnm 483) (eP (tS z0)))] (.ListComp (.BinOp (.Name (xN (c2 (vS z0))) (eP (c0 (c0 (vS z0))))) .Mod (.Constant (.int 1000000007) (kN (c1 (c0 (vS z0)))) (eP (c1 (c0 (vS z0))))) (eP (c0 (vS z0)))) [⟨.Name (xN (c2 (vS z0))) (eP (c2 (vS z0))),(.Subscript (.Name (gnm 482) (eP (c0 (c1 (vS z0))))) (.Slice none (some (.Constant (.int 5) (kN (slU (c1 (c1 (vS z0))))) (eP (slU (c1 (c1 (vS z0))))))) none (eP (c1 (c1 (vS z0))))) (eP (c1 (vS z0)))),[],0⟩] (sC (vS z0)) (eP (vS z0))) (pS z0)):=by kernel_rfl
theorem q1:z1=(.Assign [(.Name (gnm 484) (eP (tS z1)))] (.IfExp (.Compare (.Call (.Name (gnm 13) (eP (c0 (c0 (c0 (vS z1)))))) [(.Name (gnm 483) (eP (c1 (c0 (c0 (vS z1))))))] [] (eP (c0 (c0 (vS z1))))) [.Gt] [(.Constant (.int 0) (kN (c1 (c0 (vS z1)))) (eP (c1 (c0 (vS z1)))))] (eP (c0 (vS z1)))) (.Subscript (.Name (gnm 483) (eP (c0 (c1 (vS z1))))) (.Constant (.int 0) (kN (c1 (c1 (vS z1)))) (eP (c1 (c1 (vS z1))))) (eP (c1 (vS z1)))) (.Constant (.int 0) (kN (c2 (vS z1))) (eP (c2 (vS z1)))) (eP (vS z1))) (pS z1)):=by kernel_rfl
theorem q2:z2=(.Assign [(.Name (gnm 464) (eP (tS z2)))] (.BinOp (.Name (gnm 484) (eP (c0 (vS z2)))) .Mod (.Constant (.int 6) (kN (c1 (vS z2))) (eP (c1 (vS z2)))) (eP (vS z2))) (pS z2)):=by kernel_rfl
theorem q3:z3=(.Assign [(.Name (gnm 470) (eP (tS z3)))] (.Call (.Name (gnm 389) (eP (c0 (vS z3)))) [(.BinOp (.BinOp (.Name (gnm 484) (eP (c0 (c0 (c1 (vS z3)))))) .FloorDiv (.Constant (.int 6) (kN (c1 (c0 (c1 (vS z3))))) (eP (c1 (c0 (c1 (vS z3)))))) (eP (c0 (c1 (vS z3))))) .Mod (.Constant (.int 4) (kN (c1 (c1 (vS z3)))) (eP (c1 (c1 (vS z3))))) (eP (c1 (vS z3)))),(.BinOp (.BinOp (.Name (gnm 484) (eP (c0 (c0 (c2 (vS z3)))))) .FloorDiv (.Constant (.int 48) (kN (c1 (c0 (c2 (vS z3))))) (eP (c1 (c0 (c2 (vS z3)))))) (eP (c0 (c2 (vS z3))))) .Mod (.Constant (.int 7) (kN (c1 (c2 (vS z3)))) (eP (c1 (c2 (vS z3))))) (eP (c2 (vS z3)))),(.Name (gnm 464) (eP (c3 (vS z3))))] [] (eP (vS z3))) (pS z3)):=by kernel_rfl
theorem q4:z4=(.Assign [(.Name (gnm 358) (eP (tS z4)))] (.Subscript (.Name (gnm 470) (eP (c0 (vS z4)))) (.Constant (.str (gnm 358)) (kN (c1 (vS z4))) (eP (c1 (vS z4)))) (eP (vS z4))) (pS z4)):=by kernel_rfl
theorem q5:z5=(.Expr (.Call (.Name (gnm 390) (eP (c0 (vS z5)))) [(.Name (gnm 358) (eP (c1 (vS z5))))] [] (eP (vS z5))) (pS z5)):=by kernel_rfl
theorem q6:z6=(.Expr (.Call (.Name (gnm 391) (eP (c0 (vS z6)))) [(.Name (gnm 358) (eP (c1 (vS z6)))),(.Name (gnm 464) (eP (c2 (vS z6))))] [] (eP (vS z6))) (pS z6)):=by kernel_rfl
theorem q7:z7=(.If (.BoolOp .And [(.Compare (.BinOp (.BinOp (.Name (gnm 484) (eP (c0 (c0 (c0 (c0 (vS z7))))))) .FloorDiv (.Constant (.int 24) (kN (c1 (c0 (c0 (c0 (vS z7)))))) (eP (c1 (c0 (c0 (c0 (vS z7))))))) (eP (c0 (c0 (c0 (vS z7)))))) .Mod (.Constant (.int 2) (kN (c1 (c0 (c0 (vS z7))))) (eP (c1 (c0 (c0 (vS z7)))))) (eP (c0 (c0 (vS z7))))) [.Eq] [(.Constant (.int 1) (kN (c1 (c0 (vS z7)))) (eP (c1 (c0 (vS z7)))))] (eP (c0 (vS z7)))),(.Compare (.Name (gnm 464) (eP (c0 (c1 (vS z7))))) [.NotEq] [(.Constant (.int 2) (kN (c1 (c1 (vS z7)))) (eP (c1 (c1 (vS z7)))))] (eP (c1 (vS z7))))] (eP (vS z7))) (bS z7) [] (pS z7)):=by kernel_rfl
theorem q7b:bS z7=[kr]:=by kernel_rfl
theorem q8:z8=(.Assign [.Name (gnm 485) (eP (tS z8))] (vS z8) (pS z8)):=by kernel_rfl
theorem q9:z9=(.Assign [.Name (gnm 486) (eP (tS z9))] (vS z9) (pS z9)):=by kernel_rfl
theorem q10:z10=(.For (.Name (gnm 405) (eP (tS z10))) (vS z10) (bS z10) [] (pS z10)):=by kernel_rfl
theorem q10b:bS z10=[az]:=by kernel_rfl
theorem q11:z11=(.If (.Compare (.Call (.Name (gnm 393) (eP (c0 (c0 (vS z11))))) [(.Name (gnm 486) (eP (c1 (c0 (vS z11)))))] [] (eP (c0 (vS z11)))) [.NotEq] [(.Call (.Name (gnm 393) (eP (c0 (c1 (vS z11))))) [(.Name (gnm 485) (eP (c1 (c1 (vS z11)))))] [] (eP (c1 (vS z11))))] (eP (vS z11))) (bS z11) [] (pS z11)):=by kernel_rfl
theorem q11b:bS z11=[ju]:=by kernel_rfl
theorem q12:z12=(.For (.Name (gnm 438) (eP (tS z12))) (.Subscript (.Name (gnm 483) (eP (c0 (vS z12)))) (.Slice (some (.Constant (.int 1) (kN (slL (c1 (vS z12)))) (eP (slL (c1 (vS z12)))))) none none (eP (c1 (vS z12)))) (eP (vS z12))) (bS z12) [] (pS z12)):=by kernel_rfl
theorem q12b:bS z12=[bg]:=by kernel_rfl
theorem q13:z13=(.Return (some (vS z13)) (pS z13)):=by kernel_rfl
theorem q7_0:kr=(.Expr (.Call (.Name (gnm 391) (eP (c0 (vS kr)))) [(.Name (gnm 358) (eP (c1 (vS kr)))),(.Name (gnm 464) (eP (c2 (vS kr))))] [] (eP (vS kr))) (pS kr)):=by kernel_rfl
theorem vH:az=(.Expr (.Call (.Attribute (.Name (gnm 486) (eP (c0 (c0 (vS az))))) (gnm 1) (eP (c0 (vS az)))) [(.ListComp (.Name (xN (c2 (c1 (vS az)))) (eP (c0 (c1 (vS az))))) [⟨.Name (xN (c2 (c1 (vS az)))) (eP (c2 (c1 (vS az)))),(.Attribute (.Subscript (.Attribute (.Name (gnm 358) (eP (c0 (c0 (c0 (c1 (c1 (vS az)))))))) (gnm 39) (eP (c0 (c0 (c1 (c1 (vS az))))))) (.Name (gnm 405) (eP (c1 (c0 (c1 (c1 (vS az))))))) (eP (c0 (c1 (c1 (vS az)))))) (gnm 50) (eP (c1 (c1 (vS az))))),[(.Compare (.Attribute (.Subscript (.Attribute (.Name (gnm 358) (eP (c0 (c0 (c0 (c0 (ifE (c1 (vS az))))))))) (gnm 50) (eP (c0 (c0 (c0 (ifE (c1 (vS az)))))))) (.Name (xN (c2 (c1 (vS az)))) (eP (c1 (c0 (c0 (ifE (c1 (vS az)))))))) (eP (c0 (c0 (ifE (c1 (vS az))))))) (gnm 64) (eP (c0 (ifE (c1 (vS az)))))) [.IsNot] [(.Constant .none (kN (c1 (ifE (c1 (vS az))))) (eP (c1 (ifE (c1 (vS az))))))] (eP (ifE (c1 (vS az)))))],0⟩] (sC (c1 (vS az))) (eP (c1 (vS az))))] [] (eP (vS az))) (pS az)):=by kernel_rfl
theorem q11_0:ju=(.Return (some (.Constant (.bool false) (kN (vS ju)) (eP (vS ju)))) (pS ju)):=by kernel_rfl
theorem vG:bg=(.If (.UnaryOp .Not (.Call (.Name (gnm 394) (eP (c0 (c0 (vS bg))))) [(.Name (gnm 470) (eP (c1 (c0 (vS bg))))),(.Subscript (.Name (gnm 485) (eP (c0 (c2 (c0 (vS bg)))))) (.BinOp (.Name (gnm 438) (eP (c0 (c1 (c2 (c0 (vS bg))))))) .Mod (.Call (.Name (gnm 13) (eP (c0 (c1 (c1 (c2 (c0 (vS bg)))))))) [(.Name (gnm 485) (eP (c1 (c1 (c1 (c2 (c0 (vS bg))))))))] [] (eP (c1 (c1 (c2 (c0 (vS bg))))))) (eP (c1 (c2 (c0 (vS bg)))))) (eP (c2 (c0 (vS bg)))))] [] (eP (c0 (vS bg)))) (eP (vS bg))) (bS bg) [] (pS bg)):=by kernel_rfl
theorem q12_0b:bS bg=[dW]:=by kernel_rfl
theorem q12_0_0:dW=(.Return (some (.Constant (.bool false) (kN (vS dW)) (eP (vS dW)))) (pS dW)):=by kernel_rfl
theorem k8:okE fnl lwS 20 cJ (vS z8)=true:=by kernel_rfl
theorem e8:gE fnl 20 cJ (vS z8)=vS z8:=by kernel_rfl
theorem k9:okE fnl lwS 20 (.lst []) (vS z9)=true:=by kernel_rfl
theorem e9:gE fnl 20 (.lst []) (vS z9)=vS z9:=by kernel_rfl
theorem n8:aN (vS z8)=true:=by kernel_rfl
theorem n9:aN (vS z9)=true:=by kernel_rfl
theorem k10:okE fnl lwS 20 itG (vS z10)=true:=by kernel_rfl
theorem e10:gE fnl 20 itG (vS z10)=vS z10:=by kernel_rfl
theorem k13:okE fnl lwS 20 nH (vS z13)=true:=by kernel_rfl
theorem e13:gE fnl 20 nH (vS z13)=vS z13:=by kernel_rfl
theorem pG:(sC (c1 (vS az))).names=[(PySem.Str.ofString ".0",NameKind.local),(gnm 415,NameKind.local),(gnm 358,NameKind.free)]:=by kernel_rfl
theorem qT:(sC (c1 (vS az))).kind=.function:=by kernel_rfl
theorem c10N:xN (c2 (c1 (vS az)))=gnm 415:=by kernel_rfl
theorem vP:eF 50 flds=true:=by kernel_rfl
theorem mf39:eF 39 flds=true:=by kernel_rfl
theorem mf64:eF 64 flds=true:=by kernel_rfl
theorem c0X:scX (sC (vS z0)) (xN (c2 (vS z0)))=true:=by kernel_rfl
theorem tC:jr lwS fnl=true:=by kernel_rfl
theorem vT:ff fnl=true:=by kernel_rfl
theorem g389:aT (aD (gcp 389) lwS.names)=true:=by kernel_rfl
theorem g390:aT (aD (gcp 390) lwS.names)=true:=by kernel_rfl
theorem g391:aT (aD (gcp 391) lwS.names)=true:=by kernel_rfl
theorem g276:aT (aD (gcp 276) lwS.names)=true:=by kernel_rfl
theorem g392:aT (aD (gcp 392) lwS.names)=true:=by kernel_rfl
theorem g257:aT (aD (gcp 257) lwS.names)=true:=by kernel_rfl
theorem g290:aT (aD (gcp 290) lwS.names)=true:=by kernel_rfl
theorem g354:aT (aD (gcp 354) lwS.names)=true:=by kernel_rfl
theorem g394:aT (aD (gcp 394) lwS.names)=true:=by kernel_rfl
theorem g297:aT (aD (gcp 297) lwS.names)=true:=by kernel_rfl
theorem g300:aT (aD (gcp 300) lwS.names)=true:=by kernel_rfl
theorem g335:aT (aD (gcp 335) lwS.names)=true:=by kernel_rfl
theorem g13:aT (aD (gcp 13) lwS.names)=true:=by kernel_rfl
theorem g4:aT (aD (gcp 4) lwS.names)=true:=by kernel_rfl
theorem v8:aT (aD (gcp 393) lwS.names)=true:=by kernel_rfl
end Gh
end
section
namespace Gh
open PySem PyProof.Rows PySem.W PySem.SeqAt PySem.Calls
structure LQ (C:Cx) (s0:Shared) (L:Addr) (Pr:Addr→Obj→Prop) (Lx:Str→Option Value) (n:Ps) (Bs:List T) (ρ:List V) (ι:Im) (s:Shared):Prop where
 sh:Sh s0 s
 fs:FS C ι ⟨.nil,n⟩ s.heap L (fnl.map gnm) ρ
 sr:∀ B∈Bs,SR C ι ⟨B,n⟩ s.heap
 pr:∀ a o,Pr a o→Kp ι s.heap a o∧a≠L
 lx:∃ m,s.heap.Ns L m∧∀ x v,Lx x=some v→m x=some v
theorem iY {h:Heap} {L:Addr} {m m':Str→Option Value} (a:h.Ns L m) (b:h.Ns L m'):m=m':=by
 refine ct fun ng=>?_
 obtain ⟨o,es,ep,e,d,_,f⟩:=a
 obtain ⟨o',es',ep',e',d',_,f'⟩:=b
 refine ng ?_
 rw [e] at e';cases e'
 rw [d] at d';cases d'
 funext x
 rw [← f,← f']
theorem kR:fnl.Nodup:=fe vT
section
variable {C:Cx} {s0:Shared} {L:Addr} {Pr:Addr→Obj→Prop} {Lx:Str→Option Value} {n n':Ps} {Bs Bs':List T} {ρ ρ':List V} {ι ι':Im} {s s':Shared} {A:Around} {env:Env} {E0:Value→Shared→Prop} {v:V} {x:Value}
theorem LQ.run (q:LQ C s0 L Pr Lx n Bs ρ ι s) (a:Sh s s') (ext:∀ g p,g.num < n.num→ι g=some p→ι' g=some p) (tk:Tk s.heap s'.heap) (kp:Kps X0 ι s.heap ι' s'.heap) (R':SR C ι' ⟨.nil,n'⟩ s'.heap) (hB:∀ B∈Bs',SR C ι' ⟨B,n'⟩ s'.heap):LQ C s0 L Pr Lx n' Bs' ρ ι' s':=by
 refine ct fun ng=>?_
 obtain ⟨m,hm,hq⟩:=q.fs.ns
 obtain ⟨oL,eL⟩:=q.fs.live
 have kL:=kp L oL (fun x=>x) ⟨eL,fun g p i=>q.fs.off g p i⟩
 have ext':∀ g p,ι g=some p→ι' g=some p:=fun g p i=>ext g p (q.fs.sr.dom g p i).1 i
 refine ng ?_
 have at_:∀ o,s.heap.get? L=some o→s'.heap.get? L=some o:=fun o e=>by rw [eL] at e;cases e;exact kL.1
 refine ⟨q.sh.trans a,⟨R',⟨m,hm.at' at_,fun i x hx hn=>?_⟩,q.fs.above,kL.2⟩,hB,fun a o h=>⟨kp a o (fun x=>x) (q.pr a o h).1,(q.pr a o h).2⟩,?_⟩
 ·obtain ⟨v,e,r⟩:=hq i x hx hn
  exact ⟨v,e,r.mono ext' tk⟩
 ·obtain ⟨m',hm',z⟩:=q.lx
  exact ⟨m',hm'.at' at_,z⟩
theorem LQ.tok (q:LQ C s0 L Pr Lx n Bs ρ ι s) (t:Nat):LQ C s0 L Pr Lx n Bs ρ ι { s with toks:=t }:=⟨q.sh.trans ⟨_,_,rfl⟩,q.fs,q.sr,q.pr,q.lx⟩
theorem LQ.sub (q:LQ C s0 L Pr Lx n Bs ρ ι s) (h:∀ B∈Bs',B∈Bs):LQ C s0 L Pr Lx n Bs' ρ ι s:=⟨q.sh,q.fs,fun B hB=>q.sr B (h B hB),q.pr,q.lx⟩
theorem LQ.less (q:LQ C s0 L Pr Lx n Bs ρ ι s) (h:∀ i,nth ρ' i≠.unb→nth ρ' i=nth ρ i):LQ C s0 L Pr Lx n Bs ρ' ι s :=
 ⟨q.sh,q.fs.re q.fs.sr (fun g p i=>⟨g,i⟩) (fun i hn=>⟨h i hn▸hn,fun x r=>by rw [h i hn];exact r⟩),q.sr,q.pr,q.lx⟩
theorem LQ.parts (q:LQ C s0 L Pr Lx n Bs ρ ι s) (h:∀ B∈Bs',SR C ι ⟨B,n⟩ s.heap):LQ C s0 L Pr Lx n Bs' ρ ι s:=⟨q.sh,q.fs,h,q.pr,q.lx⟩
theorem LQ.raise (q:LQ C s0 L Pr Lx n Bs ρ ι s) (e:leP n n'=true):LQ C s0 L Pr Lx n' Bs ρ ι s:=⟨q.sh,q.fs.same (q.fs.sr.raise e),fun B hB=>(q.sr B hB).raise e,q.pr,q.lx⟩
theorem LQ.up (nk:NmOk) (q:LQ C s0 L Pr Lx n Bs ρ ι s) {m:Str→Option Value} (hm:s.heap.Ns L m) {i kk:Nat} {h':Heap} {tk:Nat} (hi:fnl[i]?=some kk) (kp:∀ b o,b≠L→s.heap.get? b=some o→h'.get? b=some o)
  (hn:h'.Ns L (fun z=>if z=gnm kk then some x else m z)) (v:V) (hv:v≠.unb→VR C ι h' v x):LQ C s0 L Pr (fun y=>if y=gnm kk then some x else Lx y) n Bs (bD ρ i v) ι { s with heap:=h',toks:=tk }:=by
 have tk':Tk s.heap h':=Tk.but kp q.fs.notT
 have sr:∀ B,SR C ι ⟨B,n⟩ s.heap→SR C ι ⟨B,n⟩ h':=fun B R=>R.but kp q.fs.above q.fs.off q.fs.notT
 refine ⟨q.sh.trans ⟨_,_,rfl⟩,⟨sr _ q.fs.sr,⟨_,hn,fun j y hj hu=>?_⟩,q.fs.above,q.fs.off⟩,fun B hB=>sr B (q.sr B hB),fun a o h=>?_,⟨_,hn,fun y w e=>?_⟩⟩
 ·rw [List.getElem?_map] at hj
  obtain ⟨k',e,rfl⟩:=Option.map_eq_some_iff.mp hj
  by_cases c:j=i
  ·subst c
   rw [hi] at e
   cases e
   rcases cO (l:=ρ) (i:=j) (v:=v) with z | z
   ·rw [z] at hu ⊢;exact ⟨x,if_pos rfl,hv hu⟩
   ·exact absurd z hu
  ·rw [cN c] at hu ⊢
   obtain ⟨m',hm',hq⟩:=q.fs.ns
   obtain rfl:=iY hm hm'
   obtain ⟨w,e1,r1⟩:=hq j (gnm k') (by rw [List.getElem?_map,e];rfl) hu
   refine ⟨w,?_,r1.mono (fun ξ ξ e=>e) tk'⟩
   rw [if_neg]
   ·exact e1
   ·intro z
    have:=nk.inj _ _ z
    subst this
    obtain ⟨h1,g1⟩:=List.getElem?_eq_some_iff.mp e
    obtain ⟨h2,g2⟩:=List.getElem?_eq_some_iff.mp hi
    exact c (cV kR h1 h2 (g1.trans g2.symm))
 ·have:=q.pr a o h
  exact ⟨⟨kp a o this.2 this.1.1,this.1.2⟩,this.2⟩
 ·obtain ⟨m',hm',z⟩:=q.lx
  obtain rfl:=iY hm hm'
  split at e
  ·rw [if_pos ‹_›];exact e
  ·rw [if_neg ‹_›];exact z _ _ e
theorem LQ.store (nk:NmOk) (eo:EOk env L) (q:LQ C s0 L Pr Lx n Bs ρ ι s) {i kk:Nat} (hi:fnl[i]?=some kk) (hl:ax env.scope kk) (r:VR C ι s.heap v x) {Q:Unit→Shared→Prop}
  (k:∀ s',LQ C s0 L Pr (fun y=>if y=gnm kk then some x else Lx y) n Bs (bD ρ i v) ι s'→Q () s'):wpAny (model C.prog C.w) A (storeName env (gnm kk) x) Q E0 s:=by
 obtain ⟨m,hm,hq⟩:=q.fs.ns
 refine wpAny_storeName_local hl (eo.loc▸hm) (fun h' hn sb=>k _ ?_) (dR eo)
 rw [eo.loc] at hn sb
 have kp:∀ b o,b≠L→s.heap.get? b=some o→h'.get? b=some o:=fun b o hb e=>sb.extBut b o hb e
 exact q.up nk hm hi kp hn v fun ξ=>r.mono (fun ξ ξ e=>e) (Tk.but kp q.fs.notT)
theorem LQ.name (nk:NmOk) (eo:EOk env L) (q:LQ C s0 L Pr Lx n Bs ρ ι s) {i kk:Nat} {p:Pos} (hi:fnl[i]?=some kk) (hl:ax env.scope kk) (hu:nth ρ i≠.unb) {Q:Value→Shared→Prop} (k:∀ x,VR C ι s.heap (nth ρ i) x→Q x s) :
  wpAny (model C.prog C.w) A (eval (.Name (gnm kk) p) env) Q E0 s:=by
 obtain ⟨m,hm,hq⟩:=q.fs.ns
 obtain ⟨v,hv,r⟩:=hq i (gnm kk) (by rw [List.getElem?_map,hi];rfl) hu
 exact wpAny_Name (wpAny_loadName_local eo.kind hl (eo.loc▸hm) hv (k _ r)) (nk.dbg _)
theorem LQ.nameX (nk:NmOk) (eo:EOk env L) (q:LQ C s0 L Pr Lx n Bs ρ ι s) {kk:Nat} {p:Pos} (hl:ax env.scope kk) {x:Value} (hx:Lx (gnm kk)=some x) {Q:Value→Shared→Prop} (k:Q x s) :
  wpAny (model C.prog C.w) A (eval (.Name (gnm kk) p) env) Q E0 s:=by
 obtain ⟨m,hm,z⟩:=q.lx
 exact wpAny_Name (wpAny_loadName_local eo.kind hl (eo.loc▸hm) (z _ _ hx) k) (nk.dbg _)
theorem ah (hsc:env.scope=lwS) {kk:Nat} (h:kk∈fnl):ax env.scope kk:=hsc▸iG tC kk h
theorem S0 (k:AllOk C) (han:A.handled=none) (eo:EOk env L) (hsc:env.scope=lwS) (q:LQ C s0 L Pr Lx n Bs ρ ι s) {sl:Addr} {so:Obj} {vs:Array Value} {kz:Nat} (hs:Lx (gnm 482)=some (.ref sl)) (hp:Pr sl so)
  (hc:so.cls=.type "list") (hd:so.data=.seq vs kz) (hi:∀ v∈vs.toList,∃ a t,v=.int a t) (hz:vs.size≤63) {rest:List Stmt} {Q:Flow→Shared→Prop}
  (kont:∀ nA kz' (ws:List Value) (ns:List Int) s1,LQ C s0 L (fun a o=>Pr a o∨(a=nA∧o={ cls:=.type "list",data:=.seq ws.toArray kz' })) (fun y=>if y=gnm 483 then some (.ref nA) else Lx y) n Bs (bD ρ 1 .unb) ι s1 →
   F2 (fun(a:Int) v=>∃ t,v=.int a t) ns ws→ns.length≤5→(∀ x∈ns,0≤x∧x < 1000000007)→wpAny (model C.prog C.w) A (execs rest env) Q E0 s1) :
  wpAny (model C.prog C.w) A (execs (z0 :: rest) env) Q E0 s:=by
 have nk:=k.nm
 have cs:=gp c0X
 have l482:ax env.scope 482:=ah hsc (by decide)
 have l483:ax env.scope 483:=ah hsc (by decide)
 refine wpAny_execs_cons ?_
 rw [q0]
 refine wpAny_Assign_ListComp_walk (fun ξ=>true) (fun v y=>∃ a t t',v=.int a t∧y=.int (a % 1000000007) t') (dz eo l483 (by kernel_rfl) (by kernel_rfl)) cs.free cs.cell cs.kind cs.names cs.here l483 (dR eo) ?_
 have hl:s.heap.IsList sl vs:=⟨so,(q.pr _ _ hp).1.1,hc,kz,hd⟩
 refine wpAny_Subscript_list_slice (q.nameX nk eo l482 hs (wpAny_evalPart_none (wpAny_evalPart_some (wpAny_Constant_int ?_))))
 refine ⟨sl,vs,none,some 5,rfl,hl,by have:vs.size≤63:=hz;exact Nat.le_trans this (by decide),.none,.int 5 _,?_⟩
 have hpick:slicePick vs none (some 5) none=(vs.toList.take 5).toArray:=slicePick_upto' vs 5
 rw [hpick]
 generalize hH:((s.heap.push { cls:=.type "slice",data:=.fields #[Value.none,Value.int 5 s.toks,.none] }).push { cls:=.type "list",data:=.seq (vs.toList.take 5).toArray })=H
 have old:∀ b o,s.heap.get? b=some o→H.get? b=some o:=fun b o e=>hH▸Heap.get?_push_of_some _ (Heap.get?_push_of_some _ e)
 have hD:H.get? (s.heap.objs.size+1)=some { cls:=.type "list",data:=.seq (vs.toList.take 5).toArray }:=by
  have e1:=Heap.get?_push_size (s.heap.push { cls:=.type "slice",data:=.fields #[Value.none,Value.int 5 s.toks,.none] }) (o:={ cls:=.type "list",data:=.seq (vs.toList.take 5).toArray }) rfl
  rw [Heap.size_push] at e1
  rw [← hH];exact e1
 have hDl:H.IsList (s.heap.objs.size+1) (vs.toList.take 5).toArray:=⟨_,hD,rfl,0,rfl⟩
 refine wpAny_pyIter_list hDl ?_
 have hsz:H.objs.size=s.heap.objs.size+2:=by rw [← hH,Heap.size_push,Heap.size_push]
 obtain ⟨m,hm,_⟩:=q.lx
 have hmH:H.Ns L m:=hm.keeps old
 refine ⟨H.objs.size,[H.objs.size,s.heap.objs.size+1],[H.objs.size],_,_,_,m,rfl,Walks.list han H.objs.size (s.heap.objs.size+1) (by rw [hsz];exact Nat.ne_of_lt (Nat.lt_succ_self _)) (vs.toList.take 5).toArray,?_,⟨⟨_,Heap.get?_push_size _ rfl,rfl,rfl⟩,hDl.at fun o e=>ag _ _ _ _ e⟩,?_,?_,?_,?_,?_⟩
 ·rw [List.size_toArray,List.length_take];exact Nat.le_trans (Nat.min_le_left _ _) (by decide)
 ·intro b hb
  rw [Heap.size_push,hsz]
  rcases List.mem_cons.mp hb with rfl | hb
  ·rw [hsz];exact Nat.lt_succ_self _
  ·rcases List.mem_cons.mp hb with rfl | hb
   ·exact Nat.lt_succ_of_lt (Nat.lt_succ_self _)
   ·exact nomatch hb
 ·rw [eo.loc]
  intro c
  rcases List.mem_cons.mp c with c | c
  ·obtain ⟨o,e⟩:=q.fs.live
   have:=Heap.lt_size e
   rw [c,hsz] at this;exact absurd this (Nat.not_lt.mpr (Nat.le_add_right _ 2))
  ·exact nomatch c
 ·rw [eo.loc];exact hmH.keeps (ag _ _)
 ·refine ⟨fun Ca i v s3 m3 E' hP hn hm hk ht=>wpAny_pure ⟨rfl,cy⟩,fun Ca i v s3 m3 E' hP ξ hn hm hk ht=>?_⟩
  have hv:v∈vs.toList:=by
   rw [List.getElem?_toArray] at hP
   exact List.mem_of_mem_take (List.mem_of_getElem? hP)
  obtain ⟨a,t,rfl⟩:=hi v hv
  refine wpAny_BinOp (wpAny_Name (wpAny_loadName_local cs.kind cs.here hn hm (wpAny_Constant_int ?_)) cs.dbg)
  exact mod_int' (by decide) ⟨⟨a,t,_,rfl,by rw [Int.fmod_eq_emod_of_nonneg _ (by decide)]⟩,⟨_,_,rfl,fun ξ ξ e=>e⟩⟩
 ·intro D h' tk ys vals hDn hl' hpl hlen hP hpr hns hk
  rw [dM] at hpr
  rw [eo.loc] at hns hk
  refine ct fun ng=>?_
  obtain ⟨p1,p2⟩:=dD hpr
  obtain ⟨kz',hpl⟩:=hpl
  have kp:∀ b o,b≠L→s.heap.get? b=some o→h'.get? b=some o:=fun b o hb e=>hk b o hb (fun c=>by
   rcases List.mem_cons.mp c with c | c
   ·have:=Heap.lt_size e
    rw [c,hsz] at this;exact absurd this (Nat.not_lt.mpr (Nat.le_add_right _ 2))
   ·exact nomatch c) (ag _ _ _ _ (old b o e))
  have q1:=q.up (tk:=tk) nk hm (i:=1) (x:=.ref D) (rfl:fnl[1]?=some 483) kp hns .unb (fun c=>absurd rfl c)
  have dn:s.heap.get? D=none:=by
   cases z:s.heap.get? D with
   | none=>rfl
   | some o=>exact (aa hDn (ag _ _ _ _ (old _ _ z))).elim
  have hint:∀ j v,vals[j]?=some v→∃ a t,v=Value.int a t:=fun j v e=>by
   have:=hP j v e
   rw [List.getElem?_toArray] at this
   exact hi v (List.mem_of_mem_take (List.mem_of_getElem? this))
  have gen:∀ (vals yl:List Value),vals.length=yl.length→(∀ (i:Nat) a b,vals[i]?=some a→yl[i]?=some b→∃ a_1 t t',a=Value.int a_1 t∧b=Value.int (a_1 % 1000000007) t')→∃ ns:List Int,F2 (fun(a:Int) v=>∃ t,v=Value.int a t) ns yl∧∀ x∈ns,0≤x∧x < 1000000007:=by
   intro vals
   induction vals with
   | nil=>intro yl e _;cases yl with
    | nil=>exact ⟨[],.nil,fun x hx=>nomatch hx⟩
    | cons _ _=>injection e
   | cons v vals ih=>intro yl e f;cases yl with
    | nil=>injection e
    | cons y yl =>
     obtain ⟨a,t,t',_,hy⟩:=f 0 v y rfl rfl
     obtain ⟨ns,g1,g2⟩:=ih yl (Nat.succ.inj e) fun i a b e1 e2=>f (i+1) a b e1 e2
     refine ⟨a % 1000000007 :: ns,.cons ⟨t',hy⟩ g1,fun x hx=>?_⟩
     rcases List.mem_cons.mp hx with rfl | hx
     ·exact ⟨Int.emod_nonneg _ (by decide),Int.emod_lt_of_pos _ (by decide)⟩
     ·exact g2 x hx
  have key:=gen vals ys.toList p1 p2
  obtain ⟨ns,f,hb⟩:=key
  refine ng ?_
  refine kont D kz' ys.toList ns _ ⟨q1.sh,q1.fs,q1.sr,fun a o h=>?_,q1.lx⟩ f ?_ hb
  ·rcases h with h | ⟨rfl,rfl⟩
   ·exact q1.pr a o h
   ·refine ⟨⟨hpl,fun g p i=>?_⟩,fun c=>?_⟩
    ·refine ct fun ng=>?_
     obtain ⟨_,_,_,⟨o,l1⟩,o',l2⟩:=q.fs.sr.dom g p i
     refine ng ?_
     exact ⟨fun c=>aa dn (c▸l1),fun c=>aa dn (c▸l2)⟩
    ·obtain ⟨o,e⟩:=q.fs.live
     exact aa dn (c▸e)
  ·rw [f.length,← p1,hlen,List.size_toArray,List.length_take];exact Nat.min_le_left _ _
end
end Gh
end
section
namespace Gh
open PySem PyProof.Rows PySem.W PySem.SeqAt PySem.Calls
theorem bX {env:Env} (hsc:env.scope=lwS) {i:Nat} (h:aT (aD (gcp i) lwS.names)=true):bc env.scope i:=hsc▸lookK_eq.symm.trans (ce h)
section
variable {C:Cx} {s0:Shared} {L:Addr} {Pr:Addr→Obj→Prop} {Lx:Str→Option Value} {n n':Ps} {Bs Bs':List T} {ρ ρ':List V} {ι ι':Im} {s s':Shared} {A:Around} {env:Env} {E0:Value→Shared→Prop} {v:V} {x:Value}
theorem fR (k:AllOk C) (eo:EOk env L) (R:SR C ι ⟨.nil,n⟩ s.heap) {i:Nat} {w:V} {p p':Pos} {es:List Expr} (hg:bc env.scope i) (hv:cS i=w) (hw:w≠.unb) (hkp:(∃ j,w=.fn j)∨∃ j,w=.bi j)
  (hst:(backTo p' (starEach es env)).any (·.1)=false) {Q:Value→Shared→Prop} (h:∀ x,(∀ ι h,VR C ι h w x)→wpAny (model C.prog C.w) A (evalArgs x true (backTo p' (starEach es env)) []) (fun a s1=>C.K.In s1.heap∧wpAny (model C.prog C.w) A (call x a.pos a.kw) Q E0 s1) E0 s) :
  wpAny (model C.prog C.w) A (eval (.Call (.Name (gnm i) p) es [] p') env) Q E0 s:=by
 refine wpAny_Call_NameR (iI eo k.toGOk R hg hv hw fun f rf=>?_)
 refine callWith_of (P:=C.K.In) (by rw [hst];rfl) ?_ (h f rf)
 intro hh X
 rcases hkp with ⟨j,rfl⟩ | ⟨j,rfl⟩
 ·cases rf (fun ξ=>none) C.h0;exact keeps_K (k.keepF j) hh X
 ·cases rf (fun ξ=>none) C.h0
  refine ⟨.machine,.inr (.inl rfl),?_⟩
  unfold biV
  split<;>exact Looks.now
theorem LQ.inK (k:AllOk C) (q:LQ C s0 L Pr Lx n Bs ρ ι s):C.K.In s.heap:=k.inK.keeps q.fs.sr.base
theorem vt {l:Addr} {items:Array Value} (hl:s.heap.IsList l items) {i:Value} {Q:Value→Shared→Prop} (h:wpAny (model C.prog C.w) A (getItem (.ref l) i) Q E0 s):SubscriptOn (model C.prog C.w) A (.ref l) i Q E0 s:=⟨_,_,list_getitem_lookup,hl.typeIs,h⟩
theorem LQ.fdm (nk:NmOk) (eo:EOk env L) (q:LQ C s0 L Pr Lx n Bs ρ ι s) (ρk:RhoOk C) {i kk:Nat} (hi:fnl[i]?=some kk) (hl:ax env.scope kk) {o a b:Int} (hu:nth ρ i=.int o 0) (h0:0≤o) (h1:o < 1000000007) (ha:0 < a) (ha':a < 1000) (hb:0 < b) {k1 k2:Nat} {p p1 p2 p3 p4:Pos} {Q:Value→Shared→Prop}
  (k:∀ t tk,LQ C s0 L Pr Lx n Bs ρ ι { s with toks:=tk }→Q (.int (o / a % b) t) { s with toks:=tk }) :
  wpAny (model C.prog C.w) A (eval (.BinOp (.BinOp (.Name (gnm kk) p) .FloorDiv (.Constant (.int a) k1 p1) p2) .Mod (.Constant (.int b) k2 p3) p4) env) Q E0 s:=by
 refine wpAny_BinOp (wpAny_BinOp (q.name nk eo hi hl (by rw [hu];exact nofun) fun x r=>?_))
 rw [hu] at r
 refine ct fun ng=>?_
 obtain ⟨_,_,rfl,e⟩:=r.intI
 rw [ρk.zero,Int.add_zero] at e
 subst e
 refine ng ?_
 refine wpAny_Constant_int (floordiv_int (by omega) (wpAny_Constant_int (mod_int' (by omega) ?_)) (.inl (PyProof.noPylong_small (by omega))))
 rw [Int.fdiv_eq_ediv_of_nonneg _ (Int.le_of_lt ha),Int.fmod_eq_emod_of_nonneg _ (Int.le_of_lt hb)]
 exact k _ _ (q.tok _)
theorem S1 (k:AllOk C) (eo:EOk env L) (hsc:env.scope=lwS) (q:LQ C s0 L Pr Lx n Bs ρ ι s) {nA:Addr} {kz:Nat} {ws:List Value} {ns:List Int} (hx:Lx (gnm 483)=some (.ref nA)) (hp:Pr nA { cls:=.type "list",data:=.seq ws.toArray kz })
  (hf:F2 (fun(a:Int) v=>∃ t,v=.int a t) ns ws) (hz:ns.length≤5) (hb:∀ x∈ns,0≤x∧x < 1000000007) {rest:List Stmt} {Q:Flow→Shared→Prop}
  (kont:∀ (o:Int) x s1,0≤o→o < 1000000007→LQ C s0 L Pr (fun y=>if y=gnm 484 then some x else Lx y) n Bs (bD ρ 2 (.int o 0)) ι s1→wpAny (model C.prog C.w) A (execs rest env) Q E0 s1) :
  wpAny (model C.prog C.w) A (execs (z1 :: rest) env) Q E0 s:=by
 have nk:=k.nm
 have l483:ax env.scope 483:=ah hsc (by decide)
 have l484:ax env.scope 484:=ah hsc (by decide)
 have ρk:=k.toRhoOk
 have hl:s.heap.IsList nA ws.toArray:=⟨_,(q.pr _ _ hp).1.1,rfl,kz,rfl⟩
 have fin:∀ (o:Int) t tk,0≤o→o < 1000000007→wpAny (model C.prog C.w) A (storeName env (gnm 484) (.int o t)) (fun ξ s1=>wpAny (model C.prog C.w) A (execs rest env) Q E0 s1) E0 { s with toks:=tk }:=fun o t tk h0 h1 =>
  (q.tok tk).store nk eo (i:=2) (v:=.int o 0) rfl l484 (.int (by rw [ρk.zero,Int.add_zero])) fun s' q'=>kont o _ s' h0 h1 q'
 refine wpAny_execs_cons ?_
 rw [q1]
 refine wpAny_Assign_Name (wpAny_IfExp (wpAny_isTrue_Compare1 ?_)) (aI rfl _ _)
 refine fR k eo q.fs.sr (bX hsc g13) (w:=.bi 0) (by kernel_rfl) nofun (.inr ⟨_,rfl⟩) rfl fun f rf=>?_
 obtain rfl:=(rf ι s.heap).biI
 refine evalArgs_plain (spliced_cons (q.nameX nk eo l483 hx (spliced_nil ⟨q.inK k,?_⟩)))
 refine PyProof.Rows.len_list hl (by rw [List.size_toArray,← hf.length];omega) ?_
 refine wpAny_Constant_int ?_
 have cs:=(bB (C:=C) (A:=A) (s:={ s with toks:=s.toks+1+1+1 }) (ι:=ι) (E:=E0) (a:=.int 0 0) (b:=.int (ws.toArray.size:Int) 0) (x:=.int 0 (s.toks+1+1)) (y:=.int (ws.toArray.size:Int) (s.toks+1)) (r:=decide ((0:Int) < (ws.toArray.size:Int))) ρk (.int (by rw [ρk.zero,Int.add_zero])) (.int (by rw [ρk.zero,Int.add_zero])) (by
  show slt 0 0 _ 0=_
  show b3 (fY 0 _)=_
  rw [cg])).2.2.1
 refine wm cs (fun c s3 hc=>?_)
 obtain ⟨rfl,t,rfl⟩:=hc
 refine wpAny_truthy_bool ?_
 cases hf with
 | nil =>
  show wpAny _ _ (eval _ env) _ _ _
  exact wpAny_Constant_int (fin 0 _ _ (by decide) (by decide))
 | @cons a v l m ha f =>
  obtain ⟨t1,rfl⟩:=ha
  have hb0:=hb a List.mem_cons_self
  rw [if_pos (decide_eq_true (by rw [List.size_toArray];exact Int.natCast_pos.mpr (Nat.succ_pos _)))]
  have q3:=q.tok t
  refine bm (q3.nameX nk eo l483 hx (wpAny_Constant_int ?_))
  have hl2:s.heap.IsList nA (Value.int a t1 :: m).toArray:=hl
  refine vt (items:=(Value.int a t1 :: m).toArray) ?_ (wpAny_getItem_list (k:=0) (x:=.int a t1) (items:=(Value.int a t1 :: m).toArray) ?_ (by decide) (by decide) rfl ?_)
  ·exact hl2
  ·exact hl2
  ·exact fin a _ _ hb0.1 hb0.2
theorem S2 (k:AllOk C) (eo:EOk env L) (hsc:env.scope=lwS) (q:LQ C s0 L Pr Lx n Bs ρ ι s) {o:Int} (hu:nth ρ 2=.int o 0) {rest:List Stmt} {Q:Flow→Shared→Prop}
  (kont:∀ x s1,LQ C s0 L Pr (fun y=>if y=gnm 464 then some x else Lx y) n Bs (bD ρ 3 (.int (o % 6) 0)) ι s1→wpAny (model C.prog C.w) A (execs rest env) Q E0 s1) :
  wpAny (model C.prog C.w) A (execs (z2 :: rest) env) Q E0 s:=by
 have nk:=k.nm
 have ρk:=k.toRhoOk
 refine wpAny_execs_cons ?_
 rw [q2]
 refine wpAny_Assign_Name (wpAny_BinOp (q.name nk eo (i:=2) rfl (ah hsc (by decide)) (by rw [hu];exact nofun) fun x r=>wpAny_Constant_int ?_)) (aI rfl _ _)
 rw [hu] at r
 refine ct fun ng=>?_
 obtain ⟨_,_,rfl,e⟩:=r.intI
 rw [ρk.zero,Int.add_zero] at e
 subst e
 refine ng ?_
 refine mod_int' (by decide) ?_
 rw [Int.fmod_eq_emod_of_nonneg _ (by decide)]
 exact (q.tok _).store nk eo (i:=3) rfl (ah hsc (by decide)) (.int (by rw [ρk.zero,Int.add_zero])) fun s' q'=>kont _ s' q'
theorem S3 (k:AllOk C) (HS:fC C 200 (ev 200)) (rm:RM A 201) (eo:EOk env L) (hsc:env.scope=lwS) {kk m g:Nat} (q:LQ C s0 L Pr Lx .h [] ρ ι s) {o:Int} (hu:nth ρ 2=.int o 0) (hu3:nth ρ 3=.int (o % 6) 0) (h0:0≤o) (h1:o < 1000000007)
  (ek:o / 6 % 4=(kk:Int)) (em:o / 48 % 7=(m:Int)) (eg:o % 6=(g:Int)) (hρ:C.ρ 1=(kk:Int)) {rest:List Stmt} {Q:Flow→Shared→Prop}
  (kont:∀ x ι' s1,LQ C s0 L Pr (fun y=>if y=gnm 470 then some x else Lx y) nR [LS,LW,TC,Tg m g,Wm m,LV] (bD ρ 4 (.ref nC)) ι' s1→wpAny (model C.prog C.w) A (execs rest env) Q E0 s1) :
  wpAny (model C.prog C.w) A (execs (z3 :: rest) env) Q E0 s:=by
 have nk:=k.nm
 have ρk:=k.toRhoOk
 refine wpAny_execs_cons ?_
 rw [q3]
 refine wpAny_Assign_Name ?_ (aI rfl _ _)
 refine fR k eo q.fs.sr (bX hsc g389) (w:=.fn wi) (by kernel_rfl) nofun (.inl ⟨_,rfl⟩) rfl fun f rf=>?_
 obtain rfl:=(rf ι s.heap).fnI
 have l2:ax env.scope 484:=ah hsc (by decide)
 refine evalArgs_plain (spliced_cons (q.fdm nk eo ρk (i:=2) rfl l2 hu h0 h1 (by decide) (by decide) (by decide) fun t1 k1 qa=>spliced_cons (qa.fdm nk eo ρk (i:=2) rfl l2 hu h0 h1 (by decide) (by decide) (by decide) fun t2 k2 qb=>spliced_cons (qb.name nk eo (i:=3) rfl (ah hsc (by decide)) (by rw [hu3];exact nofun) fun x3 r3=>spliced_nil ⟨qb.inK k,?_⟩))))
 rw [hu3,eg] at r3
 rw [ek,em]
 refine bK (codeAny_mono (kt (m:=m) (g:=g) k @HS rm (by have:=Int.emod_lt_of_pos (o / 6) (show (0:Int) < 4 by decide);omega) (by have:=Int.emod_lt_of_pos (o / 48) (show (0:Int) < 7 by decide);omega) (by have:=Int.emod_lt_of_pos o (show (0:Int) < 6 by decide);omega) hρ qb.fs.sr (.cons (.int (by rw [ρk.zero,Int.add_zero];rfl)) (.cons (.int (by rw [ρk.zero,Int.add_zero];rfl)) (.cons r3 .nil)))) fun r s' z=>?_)
 rcases r with e | (x | _ | _ | _)<;>first | exact z.elim | skip
 refine ct fun ng=>?_
 obtain ⟨a,ι',tk,kp,vx,w⟩:=z
 have q1:LQ C s0 L Pr Lx nR [LS,LW,TC,Tg m g,Wm m,LV] ρ ι' s':=by
  refine qb.run a (fun g p hg ξ=>absurd hg (by have:=g.num_pos;show ¬ g.num < 1;omega)) tk kp w.v.none ?_
  intro B hB
  simp only [List.mem_cons,List.not_mem_nil,or_false] at hB
  rcases hB with rfl | rfl | rfl | rfl | rfl | rfl
  ·exact w.s
  ·exact w.lw
  ·exact w.c
  ·exact w.t
  ·exact w.w
  ·exact w.v
 refine ng ?_
 exact q1.store nk eo (i:=4) rfl (ah hsc (by decide)) vx fun s'' q'=>kont _ ι' s'' q'
end
end Gh
end
section
namespace Gh
open PySem PyProof.Rows PySem.W PySem.SeqAt PySem.Calls
noncomputable def PrC (Pr0:Addr→Obj→Prop) (cA:Addr) (co:Obj):Addr→Obj→Prop:=fun a o=>Pr0 a o∨(a=cA∧o=co)
section
variable {C:Cx} {s0:Shared} {L cA sa sd:Addr} {co:Obj} {Pr0:Addr→Obj→Prop} {Lx:Str→Option Value} {n n':Ps} {Bs Bs':List T} {ρ ρ':List V} {ι ι':Im} {s s':Shared} {A:Around} {env:Env} {E0:Value→Shared→Prop} {v:V} {x:Value}
theorem LQ.cell (q:LQ C s0 L (PrC Pr0 cA co) Lx n Bs ρ ι s) (hn:∀ o,¬ Pr0 cA o) (h0:C.h0.get? cA=none) {v0:Option Value} (hcd:co.data=.cell v0) {h':Heap} (sb:Heap.SameBut cA s.heap h') {co':Obj} (e:h'.get? cA=some co'):LQ C s0 L (PrC Pr0 cA co') Lx n Bs ρ ι { s with heap:=h' }:=by
 obtain ⟨⟨eC,off⟩,hL⟩:=q.pr cA co (.inr ⟨rfl,rfl⟩)
 have kp:∀ b o,b≠cA→s.heap.get? b=some o→h'.get? b=some o:=fun b o hb e=>sb.extBut b o hb e
 have nT:∀ o,s.heap.get? cA=some o→¬ isT o:=fun o e' t=>by
  rw [eC] at e';cases e'
  obtain ⟨_,xs,m,d⟩:=t
  rw [hcd] at d;injection d
 refine ⟨q.sh.trans ⟨_,s.toks,rfl⟩,q.fs.but kp h0 off nT (Ne.symm hL),fun B hB=>(q.sr B hB).but kp h0 off nT,fun a o h=>?_,?_⟩
 ·rcases h with h | ⟨rfl,rfl⟩
  ·have:=q.pr a o (.inl h)
   exact ⟨⟨kp a o (fun c=>hn o (c▸h)) this.1.1,this.1.2⟩,this.2⟩
  ·exact ⟨⟨e,off⟩,hL⟩
 ·obtain ⟨m,hm,z⟩:=q.lx
  exact ⟨m,hm.at' fun o e=>kp L o (Ne.symm hL) e,z⟩
structure Sto (ι:Im) (sa sd:Addr) (co:Obj):Prop where
 ι0:ι .h=some (sa,sd)
 data:co.data=.cell (some (.ref sa))
theorem LQ.stoName (nk:NmOk) (eo:EOk env L) (hkc:env.kindOf (gnm 358)=some .cell) (hcl:env.cells.lookup (gnm 358)=some cA) (q:LQ C s0 L (PrC Pr0 cA co) Lx n Bs ρ ι s) (st:Sto ι sa sd co) {p:Pos} {Q:Value→Shared→Prop} (k:VR C ι s.heap (r 0) (.ref sa)→Q (.ref sa) s) :
  wpAny (model C.prog C.w) A (eval (.Name (gnm 358) p) env) Q E0 s :=
 wpAny_Name (wpAny_loadName_cell eo.kind hkc hcl ⟨co,(q.pr cA co (.inr ⟨rfl,rfl⟩)).1.1,st.data⟩ (k (.ref st.ι0))) (nk.dbg _)
theorem S4 (k:AllOk C) (eo:EOk env L) (hsc:env.scope=lwS) (hkc:env.kindOf (gnm 358)=some .cell) (hcl:env.cells.lookup (gnm 358)=some cA) (q:LQ C s0 L (PrC Pr0 cA co) Lx nR Bs ρ ι s) (hn:∀ o,¬ Pr0 cA o) (h0:C.h0.get? cA=none) (hcd:co.data=.cell none) (hLV:LV∈Bs)
  (hw:nth ρ 4=.ref nC) {rest:List Stmt} {Q:Flow→Shared→Prop} (kont:∀ sa sd co' s1,LQ C s0 L (PrC Pr0 cA co') Lx nR Bs ρ ι s1→Sto ι sa sd co'→wpAny (model C.prog C.w) A (execs rest env) Q E0 s1) :
  wpAny (model C.prog C.w) A (execs (z4 :: rest) env) Q E0 s:=by
 have nk:=k.nm
 refine wpAny_execs_cons ?_
 rw [q4]
 refine wpAny_Assign_Name (bm (q.name nk eo (i:=4) rfl (ah hsc (by decide)) (by rw [hw];exact nofun) fun x rx=>wpAny_Constant_str ?_)) (aI rfl _ _)
 rw [hw] at rx
 have q1:=q.tok (s.toks+1)
 refine iW (cz k.toCxOk (q1.sr LV hLV) rx (b:=.str 358) (.str rfl) (v:=r 0) (by kernel_rfl) nofun) fun y s2 hy=>?_
 refine ct fun ng=>?_
 obtain ⟨ry,t,rfl⟩:=hy
 obtain ⟨a,d,rfl,e0⟩:=ry.refI
 have q2:=q1.tok t
 have pc:=(q2.pr cA co (.inr ⟨rfl,rfl⟩)).1.1
 refine ng ?_
 refine wpAny_storeName_cell eo.kind hkc hcl ⟨co,pc,hcd⟩ fun h' hc' sb=>?_
 obtain ⟨co',ec,dc⟩:=hc'
 exact kont a d co' _ (q2.cell hn h0 hcd sb ec) ⟨e0,dc⟩
end
end Gh
end
section
namespace Gh
open PySem PyProof.Rows PySem.W PySem.SeqAt PySem.Calls
theorem hT {m g:Nat} (h:m < 7) (hg:g < 6):leT none nR idP Lc (Tg m g)=true∧aw (mrg LS (mrg TC Lc)) (Tg m g)=true:=by
 rcases gs6 hg with rfl | q
 ·exact be (List.all_eq_true.mp lT2 m (List.mem_range.mpr h))
 ·rw [wR q];exact be (List.all_eq_true.mp lT g q)
theorem hEW {m:Nat} (h:m < 7):aw (mrg LS (mrg TC Lc)) (Wm m)=true:=(be (be (be (rWm h)).2).2).2
section
variable {C:Cx} {s0:Shared} {L cA sa sd:Addr} {co:Obj} {Pr0:Addr→Obj→Prop} {Lx:Str→Option Value} {n n':Ps} {Bs Bs':List T} {ρ ρ':List V} {ι ι':Im} {s s':Shared} {A:Around} {env:Env} {E0:Value→Shared→Prop} {v:V} {x:Value} {S:T}
set_option tactic.hygienic true in
theorem LQ.callF (HF:dU C 200 (ev 200)) (ρk:RhoOk C) (rm:RM A 200) (q:LQ C s0 L (PrC Pr0 cA co) Lx n Bs ρ ι s) (st:Sto ι sa sd co) {fi:Ps} {vs:List V} {xs:List Value} {Ls:List T} (R:SR C ι ⟨S,n⟩ s.heap) (rs:VRs C ι s.heap vs xs) (h:aR n' v Ls (E.f fi vs ⟨S,n⟩)=true)
  (hB:∀ B∈Bs',B∈Ls∨(B∈Bs∧aw S B=true)) {Q:Value→Shared→Prop} (k:∀ x ι' s',LQ C s0 L (PrC Pr0 cA co) Lx n' Bs' ρ ι' s'→Sto ι' sa sd co→VR C ι' s'.heap v x→Q x s') :
  wpAny (model C.prog C.w) A (call (.ref (C.fa fi)) xs) Q E0 s:=by
 refine bK (codeAny_mono (Gh.callF @HF ρk rm R rs h) fun rr s' z=>?_)
 cases rr with
 | error e=>exact z.elim
 | ok fl =>
 cases fl<;>first | exact z.elim | skip
 rename_i x
 obtain ⟨a,ι',ext,tk,kp,vx,hL,hP⟩:=z
 refine k x ι' s' (q.run a (fun g p ξ i=>ext g p i) tk kp (hP _ q.fs.sr ?_) fun B hb=>?_) ⟨ext _ _ st.ι0,st.data⟩ vx
 ·cases S<;>rfl
 ·rcases hB B hb with c | ⟨c,d⟩
  ·exact hL B c
  ·exact hP B (q.sr B c) d
theorem ph (eo:EOk env L) {e:Expr} {p:Pos} (hc:aN e=true) {Q:Flow→Shared→Prop} (h:wpAny (model C.prog C.w) A (eval e env) (fun ξ=>Q .next) E0 s):wpAny (model C.prog C.w) A (exec (.Expr e p) env) Q E0 s :=
 wpAny_Expr_any h (by unfold interactive;rw [eo.kind];rfl) (aI hc _ _)
theorem S5 (k:AllOk C) (HF:dU C 200 (ev 200)) (rm:RM A 200) (eo:EOk env L) (hsc:env.scope=lwS) (hkc:env.kindOf (gnm 358)=some .cell) (hcl:env.cells.lookup (gnm 358)=some cA) {m g:Nat} (hm:m < 7) (hg:g < 6)
  (q:LQ C s0 L (PrC Pr0 cA co) Lx nR [LS,LW,TC,Tg m g,Wm m,LV] ρ ι s) (st:Sto ι sa sd co) {rest:List Stmt} {Q:Flow→Shared→Prop}
  (kont:∀ ι' s1,LQ C s0 L (PrC Pr0 cA co) Lx nD [LD,TD,MX,LW,LV,Tg m g,Wm m] ρ ι' s1→Sto ι' sa sd co→wpAny (model C.prog C.w) A (execs rest env) Q E0 s1) :
  wpAny (model C.prog C.w) A (execs (z5 :: rest) env) Q E0 s:=by
 have nk:=k.nm
 have ρk:=k.toRhoOk
 have hn:∀ k,(none:Option Nat)=some k→C.ρ 1=(k:Int):=fun k e=>nomatch e
 obtain ⟨t1,t2⟩:=hT hm hg
 refine wpAny_execs_cons ?_
 rw [q5]
 refine ph eo rfl ?_
 refine fR k eo q.fs.sr (bX hsc g390) (w:=.fn wX) (by kernel_rfl) nofun (.inl ⟨_,rfl⟩) rfl fun f rf=>?_
 obtain rfl:=(rf ι s.heap).fnI
 refine evalArgs_plain (spliced_cons (q.stoName nk eo hkc hcl st fun rx=>spliced_nil ⟨q.inK k,?_⟩))
 have RT:=q.sr (Tg m g) (.tail _ (.tail _ (.tail _ (.head _))))
 have RL:SR C ι ⟨Lc,nR⟩ s.heap:=by
  have z:=RT.weaken (m:=none) (n:=nR) ρk hn aO t1
  rw [bT RT (by kernel_rfl)] at z
  exact z
 have R:SR C ι ⟨mrg LS (mrg TC Lc),nR⟩ s.heap:=(q.sr LS (.head _)).mrg ((q.sr TC (.tail _ (.tail _ (.head _)))).mrg RL)
 refine q.callF (v:=.none) @HF ρk rm st R (.cons rx .nil) sD (fun B hB=>?_) fun x ι' s' q' st' ξ=>kont ι' s' q' st'
 simp only [List.mem_cons,List.not_mem_nil,or_false] at hB
 rcases hB with rfl | rfl | rfl | rfl | rfl | rfl | rfl
 ·exact .inl (.head _)
 ·exact .inl (.tail _ (.head _))
 ·exact .inl (.tail _ (.tail _ (.head _)))
 ·exact .inr ⟨.tail _ (.head _),dLW⟩
 ·exact .inr ⟨.tail _ (.tail _ (.tail _ (.tail _ (.tail _ (.head _))))),dLV⟩
 ·exact .inr ⟨.tail _ (.tail _ (.tail _ (.head _))),t2⟩
 ·exact .inr ⟨.tail _ (.tail _ (.tail _ (.tail _ (.head _)))),hEW hm⟩
theorem inst (k:AllOk C) (HF:dU C 200 (ev 200)) (rm:RM A 200) (eo:EOk env L) (hsc:env.scope=lwS) (hkc:env.kindOf (gnm 358)=some .cell) (hcl:env.cells.lookup (gnm 358)=some cA) {g:Nat}
  (q:LQ C s0 L (PrC Pr0 cA co) Lx n Bs ρ ι s) (st:Sto ι sa sd co) (hu:nth ρ 3=i g) {Ls:List T} (R:SR C ι ⟨S,n⟩ s.heap) (h:aR n' .none Ls (E.f aV [r 0,i g] ⟨S,n⟩)=true) (hB:∀ B∈Bs',B∈Ls∨(B∈Bs∧aw S B=true)) {p p1 p2 p3 p4:Pos} {Q:Flow→Shared→Prop}
  (kont:∀ ι' s1,LQ C s0 L (PrC Pr0 cA co) Lx n' Bs' ρ ι' s1→Sto ι' sa sd co→Q .next s1) :
  wpAny (model C.prog C.w) A (exec (.Expr (.Call (.Name (gnm 391) p) [.Name (gnm 358) p1,.Name (gnm 464) p2] [] p3) p4) env) Q E0 s:=by
 have nk:=k.nm
 refine ph eo rfl ?_
 refine fR k eo q.fs.sr (bX hsc g391) (w:=.fn aV) (by kernel_rfl) nofun (.inl ⟨_,rfl⟩) rfl fun f rf=>?_
 obtain rfl:=(rf ι s.heap).fnI
 refine evalArgs_plain (spliced_cons (q.stoName nk eo hkc hcl st fun rx=>spliced_cons (q.name nk eo (i:=3) rfl (ah hsc (by decide)) (by rw [hu];exact nofun) fun y ry=>spliced_nil ⟨q.inK k,?_⟩)))
 rw [hu] at ry
 exact q.callF (v:=.none) @HF k.toRhoOk rm st R (.cons rx (.cons ry .nil)) h hB fun x ι' s' q' st' ξ=>kont ι' s' q' st'
end
end Gh
end
section
namespace Gh
open PySem PyProof.Rows PySem.W PySem.SeqAt PySem.Calls
theorem ug (a b:Int) (h:T):eY .eq (.int a 0) (.int b 0) h=b3 (decide (a=b)):=(show eY .eq (.int a 0) (.int b 0) h=o7 a b from rfl).trans (eS a b)
theorem ue (a b:Int) (h:T):eY .ne (.int a 0) (.int b 0) h=b3 (!decide (a=b)):=by
 refine (show eY .ne (.int a 0) (.int b 0) h=i3 (o7 a b) from rfl).trans ?_
 rw [eS]
 cases decide (a=b)<;>rfl
theorem pp {S:T} (h:dj4 S=true):aw S TD=true∧aw S MX=true∧aw S LW=true∧aw S LV=true:=⟨(be h).1,(be (be h).2).1,(be (be (be h).2).2).1,(be (be (be h).2).2).2⟩
theorem hE1 {m g:Nat} (h:m < 7) (hg:g < 6):aR (Nn g) .none [Ka m g,Ma m g,Na m g] (E.f aV [r 0,i g] ⟨mrg LD (Tg m g),nD⟩)=true∧dj4 (mrg LD (Tg m g))=true∧(g=2→aw (mrg LD (Tg m g)) (Wm m)=true):=by
 refine ⟨?_,?_⟩
 ·rcases g with _ | _ | _ | _ | _ | _ | g
  ·exact sE0a
  ·exact sE1a
  ·rcases m with _ | _ | _ | _ | _ | _ | _ | m
   ·exact te
   ·exact td
   ·exact tc
   ·exact ta
   ·exact sZ
   ·exact sY
   ·exact sX
   ·omega
  ·exact sE3a
  ·exact sE4a
  ·exact sE5a
  ·omega
 ·rcases gs6 hg with rfl | q
  ·have:=be (List.all_eq_true.mp dA m (List.mem_range.mpr h))
   exact ⟨this.1,fun ξ=>this.2⟩
  ·rw [wR q];exact ⟨List.all_eq_true.mp dB g q,fun c=>by subst c;exact absurd q (by decide)⟩
theorem cf2 {m:Nat} (h:m < 7):Cf 2 (Ka m 2) (Ma m 2) (mrg (Na m 2) (Wm m)):=by
 rcases m with _ | _ | _ | _ | _ | _ | _ | m
 ·exact ur
 ·exact uq
 ·exact uo
 ·exact un
 ·exact um
 ·exact ul
 ·exact uk
 ·omega
theorem hE2 {m g:Nat} (h:m < 7) (hg:g < 6) (h2:g≠2):(∃ S Ls K M O,(∀ C ι h',SR C ι ⟨Ka m g,Nn g⟩ h'→SR C ι ⟨Ma m g,Nn g⟩ h'→SR C ι ⟨Na m g,Nn g⟩ h'→SR C ι ⟨S,Nn g⟩ h')∧aR n2 .none Ls (E.f aV [r 0,i g] ⟨S,Nn g⟩)=true∧Cf g K M O ∧
  (∀ B,B=K∨B=M∨B=O→B∈Ls∨((B=Ka m g∨B=Ma m g∨B=Na m g)∧aw S B=true))∧dj4 S=true)∧Cf g (Ka m g) (Ma m g) (Na m g):=by
 have three:∀ {K M O:T} (B:T),B=K∨B=M∨B=O→B∈[K,M,O]:=fun B h=>by
  rcases h with rfl | rfl | rfl
  ·exact .head _
  ·exact .tail _ (.head _)
  ·exact .tail _ (.tail _ (.head _))
 rcases g with _ | _ | _ | _ | _ | _ | g
 ·exact ⟨⟨.nil,[],_,_,_,fun C ι h' a ξ ξ=>a.none,sE0b,wg,fun B hB=>.inr ⟨hB,rfl⟩,rfl⟩,wg⟩
 ·exact ⟨⟨_,_,_,_,_,fun C ι h' a b c=>a.mrg (b.mrg c),sE1b,cf1b,fun B hB=>.inl (three B hB),d1b⟩,cf1a⟩
 ·exact absurd rfl h2
 ·exact ⟨⟨_,_,_,_,_,fun C ι h' a b c=>a.mrg (b.mrg c),sE3b,cf3b,fun B hB=>.inl (three B hB),d3b⟩,cf3a⟩
 ·exact ⟨⟨_,_,_,_,_,fun C ι h' a b c=>a.mrg (b.mrg c),sE4b,cf4b,fun B hB=>.inl (three B hB),d4b⟩,cf4a⟩
 ·exact ⟨⟨_,_,_,_,_,fun C ι h' a b c=>a.mrg (b.mrg c),sE5b,cf5b,fun B hB=>.inl (three B hB),d5b⟩,cf5a⟩
 ·omega
theorem wU {g:Nat} (hg:g < 6):leP (Nn g) n2=true:=by
 rcases g with _ | _ | _ | _ | _ | _ | g<;>first | kernel_rfl | omega
section
variable {C:Cx} {s0:Shared} {L cA sa sd:Addr} {co:Obj} {Pr0:Addr→Obj→Prop} {Lx:Str→Option Value} {n n':Ps} {Bs Bs':List T} {ρ ρ':List V} {ι ι':Im} {s s':Shared} {A:Around} {env:Env} {E0:Value→Shared→Prop} {v:V} {x:Value} {S:T}
theorem S67 (k:AllOk C) (HF:dU C 200 (ev 200)) (rm:RM A 200) (eo:EOk env L) (hsc:env.scope=lwS) (hkc:env.kindOf (gnm 358)=some .cell) (hcl:env.cells.lookup (gnm 358)=some cA) {m g:Nat} (hm:m < 7) (hg:g < 6) {o:Int} (hu2:nth ρ 2=.int o 0) (h0:0≤o) (h1:o < 1000000007) (hu:nth ρ 3=i g)
  (q:LQ C s0 L (PrC Pr0 cA co) Lx nD [LD,TD,MX,LW,LV,Tg m g,Wm m] ρ ι s) (st:Sto ι sa sd co) {rest:List Stmt} {Q:Flow→Shared→Prop}
  (kont:∀ K M O ι' s1,Cf g K M O→LQ C s0 L (PrC Pr0 cA co) Lx n2 [K,M,O,TD,CM] ρ ι' s1→Sto ι' sa sd co→wpAny (model C.prog C.w) A (execs rest env) Q E0 s1) :
  wpAny (model C.prog C.w) A (execs (z6 :: z7 :: rest) env) Q E0 s:=by
 have nk:=k.nm
 have ρk:=k.toRhoOk
 refine ct fun ng=>?_
 obtain ⟨e1,e2,e6⟩:=hE1 hm hg
 obtain ⟨e2,e3,e4,e5⟩:=pp e2
 have RT:=q.sr (Tg m g) (.tail _ (.tail _ (.tail _ (.tail _ (.tail _ (.head _))))))
 have R:SR C ι ⟨mrg LD (Tg m g),nD⟩ s.heap:=(q.sr LD (.head _)).mrg RT
 refine ng ?_
 refine wpAny_execs_cons ?_
 rw [q6]
 refine inst (Bs':=[Ka m g,Ma m g,Na m g,TD,MX,LW,LV]++if g=2 then [Wm m] else []) k @HF rm eo hsc hkc hcl q st hu R e1 (fun B hB=>?_) fun ι1 s1 q1 st1=>?_
 ·rcases List.mem_append.mp hB with hB | hB
  ·simp only [List.mem_cons,List.not_mem_nil,or_false] at hB
   rcases hB with rfl | rfl | rfl | rfl | rfl | rfl | rfl
   ·exact .inl (.head _)
   ·exact .inl (.tail _ (.head _))
   ·exact .inl (.tail _ (.tail _ (.head _)))
   ·exact .inr ⟨.tail _ (.head _),e2⟩
   ·exact .inr ⟨.tail _ (.tail _ (.head _)),e3⟩
   ·exact .inr ⟨.tail _ (.tail _ (.tail _ (.head _))),e4⟩
   ·exact .inr ⟨.tail _ (.tail _ (.tail _ (.tail _ (.head _)))),e5⟩
  ·split at hB
   ·next c =>
    rcases List.mem_cons.mp hB with rfl | hB
    ·exact .inr ⟨.tail _ (.tail _ (.tail _ (.tail _ (.tail _ (.tail _ (.head _)))))),e6 c⟩
    ·exact nomatch hB
   ·exact nomatch hB
 have p1:=q1.sr (Ka m g) (List.mem_append_left _ (.head _))
 have p2:=q1.sr (Ma m g) (List.mem_append_left _ (.tail _ (.head _)))
 have p3:=q1.sr (Na m g) (List.mem_append_left _ (.tail _ (.tail _ (.head _))))
 have p4:=q1.sr TD (List.mem_append_left _ (.tail _ (.tail _ (.tail _ (.head _)))))
 have p5:=q1.sr MX (List.mem_append_left _ (.tail _ (.tail _ (.tail _ (.tail _ (.head _))))))
 have p6:=q1.sr LW (List.mem_append_left _ (.tail _ (.tail _ (.tail _ (.tail _ (.tail _ (.head _)))))))
 have p7:=q1.sr LV (List.mem_append_left _ (.tail _ (.tail _ (.tail _ (.tail _ (.tail _ (.tail _ (.head _))))))))
 have pc:SR C ι1 ⟨CM,Nn g⟩ s1.heap:=p5.mrg (p6.mrg p7)
 have skip:∀ tk,Cf g (Ka m g) (Ma m g) (if g=2 then mrg (Na m g) (Wm m) else Na m g)→wpAny (model C.prog C.w) A (execs rest env) Q E0 { s1 with toks:=tk }:=fun tk cf=>by
  refine kont _ _ _ ι1 _ cf (((q1.tok tk).parts (Bs':=[Ka m g,Ma m g,if g=2 then mrg (Na m g) (Wm m) else Na m g,TD,CM]) fun B hB=>?_).raise (wU hg)) st1
  simp only [List.mem_cons,List.not_mem_nil,or_false] at hB
  rcases hB with rfl | rfl | rfl | rfl | rfl
  ·exact p1
  ·exact p2
  ·split
   ·next c =>
    have:=q1.sr (Wm m) (List.mem_append_right _ (by rw [if_pos c];exact .head _))
    exact p3.mrg this
   ·exact p3
  ·exact p4
  ·exact pc
 refine wpAny_execs_cons ?_
 rw [q7]
 refine wpAny_If (isTrue_and (wpAny_isTrue_Compare1 ?_))
 refine q1.fdm nk eo ρk (i:=2) rfl (ah hsc (by decide)) hu2 h0 h1 (by decide) (by decide) (by decide) fun t k1 qa=>wpAny_Constant_int ?_
 have cs:=ay (C:=C) (A:=A) (s:={ s1 with toks:=k1+1 }) (ι:=ι1) (E:=E0) (op:=.eq) (a:=.int (o / 24 % 2) 0) (b:=.int 1 0) (x:=.int (o / 24 % 2) t) (y:=.int 1 k1) (r:=decide (o / 24 % 2=1)) k.toCxOk (rm.u2) q1.fs.sr (.int (by rw [ρk.zero,Int.add_zero])) (.int (by rw [ρk.zero,Int.add_zero])) (ug _ _ _)
 refine wm cs (fun c s3 hc=>?_)
 obtain ⟨rfl,t2,rfl⟩:=hc
 refine wpAny_truthy_bool ?_
 by_cases hc:o / 24 % 2=1
 ·rw [if_pos (decide_eq_true hc)]
  refine isTrue_and (wpAny_isTrue_Compare1 ?_)
  have q2:=q1.tok t2
  refine q2.name nk eo (i:=3) rfl (ah hsc (by decide)) (by rw [hu];exact nofun) fun y ry=>wpAny_Constant_int ?_
  rw [hu] at ry
  have cs:=ay (C:=C) (A:=A) (s:={ s1 with toks:=t2+1 }) (ι:=ι1) (E:=E0) (op:=.ne) (a:=i g) (b:=.int 2 0) (x:=y) (y:=.int 2 t2) (r:=!decide ((g:Int)=2)) k.toCxOk (rm.u2) q1.fs.sr ry (.int (by rw [ρk.zero,Int.add_zero])) (ue _ _ _)
  refine wm cs (fun c s3 hc=>?_)
  obtain ⟨rfl,t3,rfl⟩:=hc
  refine wpAny_truthy_bool ?_
  by_cases hg2:g=2
  ·subst hg2
   rw [if_neg (by decide)]
   exact wpAny_execs_nil (skip _ (by rw [if_pos rfl];exact cf2 hm))
  ·have:¬ ((g:Int)=2):=by omega
   rw [if_pos (by rw [decide_eq_false this];rfl)]
   refine isTrue_and_nil ?_
   rw [if_pos rfl,q7b]
   refine wpAny_execs_cons ?_
   rw [q7_0]
   refine ct fun ng=>?_
   obtain ⟨⟨S,Ls,K,M,O,f1,f2,f3,f4,f5⟩,_⟩:=hE2 hm hg hg2
   obtain ⟨f5,f6,f7,f8⟩:=pp f5
   have q4:LQ C s0 L (PrC Pr0 cA co) Lx (Nn g) [Ka m g,Ma m g,Na m g,TD,MX,LW,LV] ρ ι1 { s1 with toks:=t3 }:=(q1.tok t3).sub fun B hB=>List.mem_append_left _ hB
   refine ng ?_
   refine inst (Bs':=[K,M,O,TD,MX,LW,LV]) k @HF rm eo hsc hkc hcl q4 st1 hu (f1 C ι1 _ p1 p2 p3) f2 (fun B hB=>?_) fun ι5 s5 q5 st5=>?_
   ·have sp:∀ B,B=K∨B=M∨B=O→B∈Ls∨(B∈[Ka m g,Ma m g,Na m g,TD,MX,LW,LV]∧aw S B=true):=fun B hB=>(f4 B hB).imp id fun⟨a,b⟩=>⟨by
     rcases a with rfl | rfl | rfl
     ·exact .head _
     ·exact .tail _ (.head _)
     ·exact .tail _ (.tail _ (.head _)),b⟩
    simp only [List.mem_cons,List.not_mem_nil,or_false] at hB
    rcases hB with h | h | h | rfl | rfl | rfl | rfl
    ·exact sp B (.inl h)
    ·exact sp B (.inr (.inl h))
    ·exact sp B (.inr (.inr h))
    ·exact .inr ⟨.tail _ (.tail _ (.tail _ (.head _))),f5⟩
    ·exact .inr ⟨.tail _ (.tail _ (.tail _ (.tail _ (.head _)))),f6⟩
    ·exact .inr ⟨.tail _ (.tail _ (.tail _ (.tail _ (.tail _ (.head _))))),f7⟩
    ·exact .inr ⟨.tail _ (.tail _ (.tail _ (.tail _ (.tail _ (.tail _ (.head _)))))),f8⟩
   ·refine wpAny_execs_nil (kont K M O ι5 s5 f3 (q5.parts (Bs':=[K,M,O,TD,CM]) fun B hB=>?_) st5)
    simp only [List.mem_cons,List.not_mem_nil,or_false] at hB
    rcases hB with rfl | rfl | rfl | rfl | rfl
    ·exact q5.sr _ (.head _)
    ·exact q5.sr _ (.tail _ (.head _))
    ·exact q5.sr _ (.tail _ (.tail _ (.head _)))
    ·exact q5.sr _ (.tail _ (.tail _ (.tail _ (.head _))))
    ·exact (q5.sr MX (.tail _ (.tail _ (.tail _ (.tail _ (.head _)))))).mrg ((q5.sr LW (.tail _ (.tail _ (.tail _ (.tail _ (.tail _ (.head _))))))).mrg (q5.sr LV (.tail _ (.tail _ (.tail _ (.tail _ (.tail _ (.tail _ (.head _)))))))))
 ·rw [if_neg (by rw [decide_eq_false hc];exact Bool.false_ne_true)]
  rw [if_neg Bool.false_ne_true]
  refine wpAny_execs_nil (skip _ ?_)
  by_cases hg2:g=2
  ·subst hg2;rw [if_pos rfl];exact cf2 hm
  ·rw [if_neg hg2];exact (hE2 hm hg hg2).2
end
end Gh
end
section
namespace Gh
open PySem PyProof.Rows PySem.W PySem.SeqAt PySem.Calls
theorem iE {v u:V} {f:Nat} {h:T} (e:cj v f h=u) (hu:u≠.unb):∃ g w c fs,v=.ref g∧at_ h g=.ob w (.inst c fs)∧aA f fs=u:=by
 refine ct fun ng=>?_
 obtain ⟨g,rfl,h1⟩:=aB (α:=V) e (fun c=>hu c.symm)
 obtain ⟨w,c,fs,h2,h3⟩:=cp (α:=V) h1 (fun c=>hu c.symm)
 refine ng ?_
 exact ⟨g,w,c,fs,rfl,h2,h3⟩
section
variable {C:Cx} {L cA sa sd:Addr} {co:Obj} {ι ι' ι1:Im} {σ σ' σ1:St} {s s':Shared} {A:Around} {env env':Env} {E0:Value→Shared→Prop} {v u:V} {x y:Value} {ρ:List V}
theorem sf (k:AllOk C) (R:SR C ι σ s.heap) {f:Nat} (hf:eF f flds=true) (ra:VR C ι s.heap v x) (e:cj v f σ.h=u) (hu:u≠.unb) {Q:Value→Shared→Prop} (q:∀ y t,VR C ι s.heap u y→Q y { s with toks:=t }):wpAny (model C.prog C.w) A (getAttr x (gnm f) true) Q E0 s:=by
 refine ct fun ng=>?_
 obtain ⟨g,w,c,fs,rfl,h2,h3⟩:=iE e hu
 subst h3
 obtain ⟨_,_,rfl,z⟩:=ra.refI
 obtain ⟨es,n,I,l,g1,g2⟩:=gc R z h2
 obtain ⟨y,hy,ry⟩:=g1 f hu
 obtain ⟨k1,k2,k3,k4⟩:=k.cls c
 refine ng ?_
 exact get_value (k.inK.keeps R.base) I (plainGet_of k1).1 (findObj_own k2 (k.fld c f (i5 hf)) rfl hy) ry.handed (q y _ ry)
theorem rH (k:AllOk C) (R:SR C ι σ s.heap) {f1 f2:Nat} (hf1:eF f1 flds=true) (hf2:eF f2 flds=true) {a i:Expr} {p1 p2 p3:Pos} (hb:bp a=true) {va vi:V} (e:cj (mU (cj va f1 σ.h) vi σ.h) f2 σ.h=u) (hu:u≠.unb)
  (ha:∀ {Q:Value→Shared→Prop},(∀ x,VR C ι s.heap va x→Q x s)→wpAny (model C.prog C.w) A (eval a env') Q E0 s) (hi:∀ t {Q:Value→Shared→Prop},(∀ x,VR C ι s.heap vi x→Q x { s with toks:=t })→wpAny (model C.prog C.w) A (eval i env') Q E0 { s with toks:=t })
  {Q:Value→Shared→Prop} (q:∀ y t,VR C ι s.heap u y→Q y { s with toks:=t }):wpAny (model C.prog C.w) A (eval (.Attribute (.Subscript (.Attribute a (gnm f1) p1) i p2) (gnm f2) p3) env') Q E0 s:=by
 have e':=e
 refine ct fun ng=>?_
 obtain ⟨g,w,c,fs,e1,_,_⟩:=iE e hu
 refine ng ?_
 have hs:mU (cj va f1 σ.h) vi σ.h≠.unb:=by rw [e1];exact nofun
 have hs1:cj va f1 σ.h≠.unb:=by
  intro c
  apply hs
  rw [c];rfl
 refine dK rfl (bm (dK hb (ha fun x rx=>?_)))
 refine sf k R hf1 rx rfl hs1 fun y t ry=>?_
 refine hi t fun z rz=>?_
 refine iW (cz (s:={ s with toks:=t }) k.toCxOk R ry rz rfl hs) fun y2 s2 hy=>?_
 obtain ⟨ry2,t2,rfl⟩:=hy
 exact sf (s:={ s with toks:=t2 }) k R hf2 ry2 e hu fun y t ry=>q y t ry
theorem tA:(gnm 358==PySem.Str.ofString ".0")=false:=by kernel_rfl
theorem oE:(gnm 358==gnm 415)=false:=by kernel_rfl
theorem oD:(gnm 415==PySem.Str.ofString ".0")=false:=by kernel_rfl
theorem wl (hcl:env.cells.lookup (gnm 358)=some cA):closureFor (sC (c1 (vS az))) env=pure [(gnm 358,cA)]:=by
 unfold closureFor
 rw [pG]
 simp [cellOf,hcl]
theorem jp:(sC (c1 (vS az))).names.lookup (gnm 415)=some .local:=by rw [pG,List.lookup_cons,oD,List.lookup_cons,beq_self_eq_true]
theorem qS (eo:EOk env L) (hkc:env.kindOf (gnm 358)=some .cell) {cl:List (Str×Addr)} {C0:Addr}:(compEnvC (sC (c1 (vS az))) cl C0 env).kindOf (gnm 358)=some .cell:=by
 unfold compEnvC Env.kindOf relabel
 dsimp only
 rw [pG]
 simp only [List.map_cons,List.map_nil,hkc,eo.kind]
 have lf:(NameKind.local==NameKind.free)=false:=rfl
 simp [lf,List.lookup_cons,tA,oE]
noncomputable def ip (h:T):Value→Bool:=fun x=>match x with | .int a _=>(match b9 h (.int a 0) with | .no=>true | _=>false) | _=>false
theorem mn {h:T} {l:List V}:∀ {ws:List V},pb h l=.ok ws→∀ v∈l,∃ n,v=.int (Int.ofNat n) 0∧(b9 h v=.no∨b9 h v=.yes):=by
 induction l with
 | nil=>intro ws _ v hv;exact nomatch hv
 | cons u l ih =>
  intro ws e v hv
  have e:@LO.rec (fun ξ=>LO) .fail (fun r=>@B3.rec (fun ξ=>LO) .fail (.ok (u :: r)) (.ok r) (b9 h u)) (pb h l)=.ok ws:=e
  obtain ⟨rr,e1,e2⟩:=dG e nofun
  rcases List.mem_cons.mp hv with rfl | hv
  ·have num:∀ {b},b9 h v=b→B3.und≠b→∃ n,v=.int (Int.ofNat n) 0:=fun hk hb=>let ⟨n,e,_⟩:=au (show a6 v .und (fun ξ=>aP (cU v h) .und (isNone (cU v h) .none))=_ from hk) hb;⟨n,e⟩
   cases hk:b9 h v with
   | und=>rw [hk] at e2;injection e2
   | no=>obtain ⟨n,e⟩:=num hk nofun;exact ⟨n,e,.inl rfl⟩
   | yes=>obtain ⟨n,e⟩:=num hk nofun;exact ⟨n,e,.inr rfl⟩
  ·exact ih e1 v hv
theorem nJ (ρk:RhoOk C) {hh:T} {h:Heap} {l:List V}:∀ {ws:List V} {xs:List Value},pb hh l=.ok ws→VRs C ι h l xs→VRs C ι h ws (xs.filter (ip hh)):=by
 induction l with
 | nil=>intro ws xs e r;rw [r.n1];injection (show LO.ok []=.ok ws from e) with e;rw [← e];exact .nil
 | cons u l ihl =>
  intro ws xs e r
  obtain ⟨x,xs,rfl,ru,rl⟩:=r.c1
  obtain ⟨n,rfl,hk⟩:=mn e u List.mem_cons_self
  have e:@LO.rec (fun ξ=>LO) .fail (fun r=>@B3.rec (fun ξ=>LO) .fail (.ok (.int (Int.ofNat n) 0 :: r)) (.ok r) (b9 hh (.int (Int.ofNat n) 0))) (pb hh l)=.ok ws:=e
  obtain ⟨rr,e1,e2⟩:=dG e nofun
  have ih:=ihl e1 rl
  have hx:ip hh x=(match b9 hh (.int (Int.ofNat n) 0) with | .no=>true | _=>false):=by
   obtain ⟨_,_,rfl,z⟩:=ru.intI
   rw [ρk.zero,Int.add_zero] at z;subst z;rfl
  rcases hk with hk | hk
  ·rw [hk] at e2 hx
   injection (show LO.ok (_ :: rr)=.ok ws from e2) with e2
   rw [List.filter_cons_of_pos hx,← e2];exact .cons ru ih
  ·rw [hk] at e2 hx
   injection (show LO.ok rr=.ok ws from e2) with e2
   rw [List.filter_cons_of_neg (by rw [hx];exact Bool.false_ne_true),← e2];exact ih
end
end Gh
end
section
namespace Gh
open PySem PyProof.Rows PySem.W PySem.SeqAt PySem.Calls
set_option tactic.hygienic true in
theorem oT {a:V} {h:T}:item a .unb h=.unb:=by
 cases a<;>try rfl
 case ref g =>
  show obj (α:=V) (at_ h g) V.unb _=V.unb
  cases at_ h g with
  | no=>rfl
  | ob w o=>cases o<;>rfl
theorem pg:gnm 1=gW .extend:=by kernel_rfl
section
variable {C:Cx} {L cA sa sd:Addr} {co:Obj} {ι ι' ι1:Im} {σ σ' σ1:St} {s s':Shared} {A:Around} {env env':Env} {E0:Value→Shared→Prop} {v u:V} {x y:Value} {ρ ρ':List V}
theorem i4 {o:Expr} {name:Str} {ap pos:Pos} {a:Expr} (hs:starEach [a] env=[(false,eval a env)]) (hb:bp o=true) (hp:(ap.endLine==pos.line)=true) {Q:Value→Shared→Prop}
  (h:wpAny (model C.prog C.w) A (eval o env) (fun ov s₁=>∀ pl,wpAny (model C.prog C.w) A (getMethod ov name pl) (fun fx s₂=>wpAny (model C.prog C.w) A (callWith pos fx.1 fx.2 (backTo pos (starEach [a] env)) []) Q E0 s₂) E0 s₁) E0 s) :
  wpAny (model C.prog C.w) A (eval (.Call (.Attribute o name ap) [a] [] pos) env) Q E0 s:=by
 rw [arm_eval_Call,bq hb]
 refine wpAny_bind (wm h (fun ov s₁ h₁=>wpAny_bind (wpAny_standAt ?_)))
 have hform:methodCallForm ([a].length+([]:List Keyword).length) (backTo pos (starEach [a] env)) (backToKw pos (keywordEach [] env))=true:=by
  unfold methodCallForm
  rw [hs]
  rfl
 have hpos:methodCallPos true o env ap pos=pure pos:=by unfold methodCallPos;simp [hp]
 unfold methodCall
 rw [hform]
 refine wpAny_bind (wpAny_holding ?_)
 show wpAny _ _ (getMethod ov name _) _ _ _
 refine wm (h₁ _) (fun fx s₂ h₂=>?_)
 exact wpAny_bind (wpAny_of_eq hpos h₂)
theorem wo (k:AllOk C) (rm:RM A 200) (eo:EOk env L) (hsc:env.scope=lwS) (hkc:env.kindOf (gnm 358)=some .cell) (hcl:env.cells.lookup (gnm 358)=some cA) {ι0:Im} {h0:Heap} (kc:Kp ι0 h0 cA co) (hcL:cA≠L) (st:Sto ι0 sa sd co)
  (F:FS C ι' σ' s'.heap L (fnl.map gnm) ρ') (kp:Kps (·=L) ι0 h0 ι' s'.heap) (ext:∀ g p,ι0 g=some p→ι' g=some p) (ne:bfF ρ' σ'≠.fail):wpAny (model C.prog C.w) A (execs [az] env) (fun f s''=>QS C ι' σ' s' L fnl (bfF ρ' σ') f s''∧∀ o,s'.heap.get? L=some o→s''.heap.get? L=some o) E0 s':=by
 have nk:=k.nm
 have ρk:=k.toRhoOk
 have kc':=kp cA co hcL kc
 have st':Sto ι' sa sd co:=⟨ext _ _ st.ι0,st.data⟩
 cases e:rT (nth ρ' 6) (nth ρ' 7) σ' with
 | fail=>exact absurd (show bfF ρ' σ'=.fail by unfold bfF;rw [e]) ne
 | ok v σ2 =>
 have hb:bfF ρ' σ'=.next ρ' σ2:=by unfold bfF;rw [e]
 rw [hb]
 refine ct fun ng=>?_
 obtain ⟨hm,e1⟩:=ac (α:=RE) e reN
 obtain ⟨g,eg,e2⟩:=aB (α:=RE) e1 reN
 obtain ⟨w,n,vs,ea,e3⟩:=aF (α:=RE) e2 reN
 refine ng ?_
 cases w with
 | true=>injection e3
 | false =>
 refine ct fun ng=>?_
 obtain ⟨hn,e5⟩:=av e3
 obtain ⟨ws,ef,e6⟩:=dG e5 reN
 obtain ⟨d,σ1,al,e7⟩:=af (α:=RE) (d:=.fail) (k:=fun d σ=>bmeth (nth ρ' 6) .extend [d] σ) (r:=alloc σ' (.lst (len ws) ws)) (y:=.ok v σ2) e6 nofun
 refine ng ?_
 have hu6:nth ρ' 6≠.unb:=by intro c;rw [c] at hm;injection hm
 have hml:rJ (nth ρ' 7) σ'.h≠.unb:=by rw [eg];exact nofun
 have hu7:nth ρ' 7≠.unb:=by
  intro c
  apply hml
  rw [c]
  show cj (mU (cj mX 39 σ'.h) .unb σ'.h) 50 σ'.h=_
  rw [show mU (cj mX 39 σ'.h) .unb σ'.h=.unb from oT];rfl
 refine ct fun ng=>?_
 obtain ⟨m,hmn,hq⟩:=F.ns
 obtain ⟨fx,hfx,rfx⟩:=hq 6 (gnm 486) rfl hu6
 obtain ⟨tx,htx,rtx⟩:=hq 7 (gnm 405) rfl hu7
 refine ng ?_
 refine wpAny_execs_cons ?_
 rw [vH,c10N,pg]
 refine ph eo rfl ?_
 refine i4 rfl rfl (by kernel_rfl) ?_
 refine wpAny_Name (wpAny_loadName_local eo.kind (ah hsc (by decide)) (eo.loc▸hmn) hfx fun pl=>?_) (nk.dbg _)
 refine ct fun ng=>?_
 obtain ⟨t1,t2⟩:=im F.sr rfx hm
 obtain ⟨bs1,bs2,bs3⟩:=mA .extend
 refine ng ?_
 refine getMethod_builtin t1 bs2 bs1 bs3 t2 ?_
 refine callWith_builtin rfl (evalArgs_plain (spliced_cons ?_))
 refine wpAny_ListComp_free (ip σ'.h) (fun v y=>y=v) (wl hcl) (fun y hy=>?_) qT (fun y hy hl=>?_) jp ?_
 ·rw [pG] at hy
  simp only [List.mem_cons,List.not_mem_nil,or_false] at hy
  rcases hy with rfl | rfl | rfl<;>exact nofun
 ·rw [pG] at hy ⊢
  simp only [List.mem_cons,List.not_mem_nil,or_false] at hy
  rcases hy with rfl | rfl | rfl
  ·rw [List.lookup_cons,beq_self_eq_true]
  ·rw [List.lookup_cons,oD,List.lookup_cons,beq_self_eq_true]
  ·injection hl
 refine rH (σ:=σ') (env':=env) k F.sr mf39 vP rfl (va:=mX) (vi:=nth ρ' 7) eg nofun (fun hk=>?_) (fun t Q hk=>?_) fun y t ry=>?_
 ·exact wpAny_Name (wpAny_loadName_cell eo.kind hkc hcl ⟨co,kc'.1,st'.data⟩ (hk _ (.ref st'.ι0))) (nk.dbg _)
 ·exact wpAny_Name (wpAny_loadName_local (s:={ s' with toks:=t }) eo.kind (ah hsc (by decide)) (eo.loc▸hmn) htx (hk _ rtx)) (nk.dbg _)
 obtain ⟨hnl,hit⟩:=fk (s:={ s' with toks:=t }) (E:=E0) rm F ea ry
 refine wm hit (fun it s2 ⟨I,fp,P,St,m',hI,J⟩=>?_)
 subst hI
 have old:∀ b o,s'.heap.get? b=some o→s2.heap.get? b=some o:=J.old
 refine ⟨I,fp,[I],m',P,St,rfl,J.walks,by rw [J.len,szl];omega,J.st,J.lt,⟨fun C0 i v s3 m3 E' hC hP hn3 hm3 hk3 ht3=>?_,fun C0 i v s3 m3 E' hC hP hp3 hn3 hm3 hk3 ht3=>?_⟩,fun D h' tk ys vals hD hl hpl hlen hPv hpr hkk=>?_⟩
 ·refine ct fun ng=>?_
  obtain ⟨w,ew,rw_⟩:=J.val i v hP
  obtain ⟨nn,rfl,hkq⟩:=mn ef w (List.mem_of_getElem? ew)
  have g3:∀ b o,s'.heap.get? b=some o→s3.heap.get? b=some o:=fun b o e=>hk3 b o (fun c=>by
   rcases List.mem_cons.mp c with c | c
   ·rw [c] at e;exact aa J.new e
   ·exact nomatch c) (old b o e)
  have R3:SR C ι' σ' s3.heap:=F.sr.grow g3
  have rw3:VR C ι' s3.heap (.int (Int.ofNat nn) 0) v:=rw_.mono (fun ξ ξ e=>e) fun a o e ξ=>g3 a o e
  have hbv:cU (.int (Int.ofNat nn) 0) σ'.h≠.unb:=by
   intro c
   rcases hkq with q | q<;>(unfold b9 at q;rw [c] at q;injection q)
  have hkq':b9 σ'.h (.int (Int.ofNat nn) 0)=isNone (cU (.int (Int.ofNat nn) 0) σ'.h) .none:=by
   show aP (cU (.int (Int.ofNat nn) 0) σ'.h) .und (isNone (cU (.int (Int.ofNat nn) 0) σ'.h) .none)=_
   revert hbv
   generalize cU (.int (Int.ofNat nn) 0) σ'.h=u
   intro hbv
   cases u<;>first | rfl | exact absurd rfl hbv
  have hv:∃ t,v=.int (Int.ofNat nn) t:=by
   obtain ⟨_,_,rfl,z⟩:=rw3.intI
   rw [ρk.zero,Int.add_zero] at z;subst z;exact ⟨_,rfl⟩
  obtain ⟨tv,hv⟩:=hv
  refine ng ?_
  have hpv:ip σ'.h v=(match b9 σ'.h (.int (Int.ofNat nn) 0) with | .no=>true | _=>false):=by rw [hv];rfl
  rw [List.forIn_cons]
  refine wpAny_bind ?_
  rw [if_pos rfl]
  refine wpAny_bind (wpAny_isTrue_Compare1 ?_)
  refine rH (s:=s3) (σ:=σ') k R3 vP mf64 rfl (va:=mX) (vi:=.int (Int.ofNat nn) 0) (u:=cU (.int (Int.ofNat nn) 0) σ'.h) rfl hbv (fun hk=>?_) (fun t Q hk=>?_) fun y t ry=>?_
  ·exact wpAny_Name (wpAny_loadName_cell qT (qS eo hkc) (by show List.lookup (gnm 358) [(gnm 358,cA)]=_;rw [List.lookup_cons,beq_self_eq_true]) ⟨co,g3 _ _ kc'.1,st'.data⟩ (hk _ (.ref st'.ι0))) (nk.dbg _)
  ·exact wpAny_Name (wpAny_loadName_local (s:={ s3 with toks:=t }) qT (lookup_relabel_local jp) hn3 hm3 (hk _ rw3)) (nk.dbg _)
  ·refine wpAny_Constant_none ?_
   obtain ⟨bb,hbb⟩:∃ bb,b9 σ'.h (.int (Int.ofNat nn) 0)=b3 bb:=by
    rcases hkq with q | q
    ·exact ⟨false,q⟩
    ·exact ⟨true,q⟩
   have cs:=ay (C:=C) (A:=A) (s:={ s3 with toks:=t }) (ι:=ι') (E:=E') (σ:=σ') (op:=.isnot) (b:=.none) (y:=.none) (r:=!bb) k.toCxOk (rm.u2) R3 ry .none (by
    show i3 (isNone (cU (.int (Int.ofNat nn) 0) σ'.h) .none)=_
    rw [← hkq',hbb]
    cases bb<;>rfl)
   refine wm cs (fun c s4 hc=>?_)
   obtain ⟨rfl,t4,rfl⟩:=hc
   refine wpAny_truthy_bool (wpAny_pure ?_)
   show wpAny _ _ (forIn [] (!bb) _) _ _ _
   refine wpAny_pure ⟨?_,⟨_,_,rfl,fun ξ ξ e=>e⟩⟩
   rw [hpv,hbb]
   cases bb<;>rfl
 ·exact wpAny_Name (wpAny_loadName_local qT (lookup_relabel_local jp) hn3 hm3 ⟨rfl,cy⟩) (nk.dbg _)
 ·refine ct fun ng=>?_
  obtain ⟨p1,p2⟩:=dD hpr
  have hys:ys.toList=vals.filter (ip σ'.h):=by
   apply List.ext_getElem?
   intro j
   by_cases hj:j < (vals.filter (ip σ'.h)).length
   ·have e1:=List.getElem?_eq_getElem hj
    have e2:=List.getElem?_eq_getElem (p1▸hj:j < ys.toList.length)
    rw [e1,e2,p2 j _ _ e1 e2]
   ·rw [List.getElem?_eq_none (by omega),List.getElem?_eq_none (by omega)]
  have rvs:VRs C ι' s'.heap vs vals:=F2.of_get (by rw [← J.len,hlen]) fun j v x ev ex=>by
   obtain ⟨w,ew,rw_⟩:=J.val j x (hPv j x ex)
   rw [ev] at ew;cases ew
   exact rw_
  have rws:=nJ (hh:=σ'.h) ρk ef rvs
  rw [← hys] at rws
  have old':∀ b o,s'.heap.get? b=some o→h'.get? b=some o:=fun b o e=>hkk b o (fun c=>by
   rcases List.mem_cons.mp c with c | c
   ·rw [c] at e;exact aa J.new e
   ·exact nomatch c) (old b o e)
  have dn:s'.heap.get? D=none:=by
   cases z:s'.heap.get? D with
   | none=>rfl
   | some o=>exact (aa hD (old _ _ z)).elim
  obtain ⟨h2',t2',rfl⟩:=J.sh
  have pe:PE C ι' σ' s' σ1 d (.ref D) { s' with heap:=h',toks:=tk }:=PE.alloc F.sr old' dn (fun ι'' ext=>.lst ys.toList hpl (bj ws) (VRs.mono ext (fun a o e ξ=>old' a o e) rws)) al
  obtain ⟨a1,ι1,R1,S1,r1⟩:=pe
  have F1:=F.step R1 S1
  refine ng ?_
  refine spliced_nil ?_
  refine wm (fS (E:=E0) k.toCxOk (rm.u2) R1 (F.sr.vr S1 rfx) (.cons r1 .nil) e7) (fun z s4 hz=>?_)
  refine ct fun ng=>?_
  obtain ⟨a2,ι2,R2,S2,r2⟩:=hz
  refine ng ?_
  exact wpAny_execs_nil ⟨⟨a1.trans a2,ι2,F1.step R2 S2,(S1.trans S2).x0⟩,fun o e=>(S1.trans S2).keep L o e (fun x=>x) F.notWr⟩
end
end Gh
end
section
namespace Gh
open PySem PyProof.Rows PySem.W PySem.SeqAt PySem.Calls
theorem jK:∀ (g:Ps) {a b:T} {o:O},at_ (mrg a (ro b)) g=.ob true o→at_ a g=.ob true o:=fun g a b o e=>by
 rw [dT] at e
 cases q:at_ a g with
 | ob w o'=>rw [q] at e;exact e
 | no =>
  rw [q] at e
  have e:at_ (ro b) g=.ob true o:=e
  exfalso
  have:∀ (g:Ps) (b:T),at_ (ro b) g≠.ob true o:=by
   intro g
   induction g with
   | h=>intro b;cases b with
    | nil=>intro c;rw [show ro .nil=.nil from rfl,bF] at c;injection c
    | node v l r=>intro c;cases v with
     | no=>exact nomatch (show Cell.no=.ob true o from c)
     | ob w o'=>exact nomatch (show Cell.ob false o'=.ob true o from c)
   | o g ih=>intro b;cases b with
    | nil=>intro c;rw [show ro .nil=.nil from rfl,bF] at c;injection c
    | node v l r=>exact ih l
   | i g ih=>intro b;cases b with
    | nil=>intro c;rw [show ro .nil=.nil from rfl,bF] at c;injection c
    | node v l r=>exact ih r
  exact this g b e
section
variable {C:Cx} {s0:Shared} {L cA sa sd:Addr} {co:Obj} {Pr Pr0:Addr→Obj→Prop} {Lx:Str→Option Value} {n n':Ps} {Bs Bs':List T} {ns:List Str} {ρ ρ' ρe:List V} {σ σ1:St} {ι ι' ι1:Im} {h h1:Heap} {s s':Shared} {A:Around} {env:Env} {E0:Value→Shared→Prop} {v:V} {x:Value} {S B:T} {k k':Ps}
theorem SR.frameT (F:FS C ι σ h L ns ρ) (R1:SR C ι1 σ1 h1) (S:SS (·=L) ι σ h ι1 σ1 h1) (P:SR C ι ⟨B,k⟩ h) (d:∀ g o,at_ σ.h g=.ob true o→at_ B g=.no):SR C ι1 ⟨B,σ1.n⟩ h1:=by
 refine ⟨R1.dom,R1.apart,fun g w o e=>?_,R1.base⟩
 obtain ⟨p,i,r⟩:=P.obs g w o e
 have tk:Tk h h1:=S.tk F.sr fun a e o ho=>by subst e;exact F.notT o ho
 have f:=F.off g p i
 refine ⟨p,S.ext _ _ i,r.mono S.ext tk (fun o' e'=>S.keep _ _ e' (fun x=>f.1 x.symm) ?_) fun o' e'=>S.keep _ _ e' (fun x=>f.2 x.symm) ?_⟩
 all_goals
  rintro ⟨g',p',o',e1,i',z⟩
  by_cases c:g'=g
  ·subst c
   have:=d g' o' e1
   rw [show at_ B g'=_ from e] at this
   injection this
  ·have ap:=F.sr.apart g' g p' p i' i c
   rcases z with z | ⟨z,_⟩
   ·first | exact ap.1 z.symm | exact ap.2.1 z.symm
   ·first | exact ap.2.2.1 z.symm | exact ap.2.2.2 z.symm
theorem LQ.evalE (He:aG C 200 (ev 200)) (ρk:RhoOk C) (rm:RM A 200) (eo:EOk env L) (q:LQ C s0 L Pr Lx n Bs ρ ι s) {g:GE} {ex:Expr} (rx:RX fnl env.scope g ex) (R:SR C ι ⟨S,n⟩ s.heap) (hρ:∀ i,nth ρe i≠.unb→nth ρe i=nth ρ i) {Ls:List T} (h:aR n' v Ls (E.e ρe g ⟨S,n⟩)=true)
  (hB:∀ B∈Bs',B∈Ls∨(B∈Bs∧aw S B=true)) {Q:Value→Shared→Prop} (k:∀ x ι' s',LQ C s0 L Pr Lx n' Bs' ρ ι' s'→(∀ g p,ι g=some p→ι' g=some p)→VR C ι' s'.heap v x→Q x s') :
  wpAny (model C.prog C.w) A (eval ex env) Q E0 s:=by
 have hn:∀ k,(none:Option Nat)=some k→C.ρ 1=(k:Int):=fun k e=>nomatch e
 have F:=(q.less hρ).fs.same R
 cases e:E.e ρe g ⟨S,n⟩ with
 | fail=>rw [e] at h;exact (Bool.false_ne_true h).elim
 | ok w σ1 =>
  rw [e] at h
  have h:=Bool.and_eq_true_iff.mp (show (leP σ1.n n'&&(vle none n' idP v w&&fX none n' idP Ls σ1.h))=true from h)
  have h2:=Bool.and_eq_true_iff.mp h.2
  refine wm (He rm eo rx F e) (fun x s' z=>?_)
  obtain ⟨a1,ι1,R1,S1,r1⟩:=z
  have cs:=bT R1 h.1
  have v4:=a7 (n:=n') (f:=idP) ρk hn r1 h2.1
  rw [cs] at v4
  refine k x ι1 s' (q.run a1 (fun g p ξ i=>S1.ext g p i) (S1.tk R x0T) (Kps.of S1) ((R1.none).raise h.1) fun B hb=>?_) S1.ext v4
  rcases hB B hb with c | ⟨c,d⟩
  ·exact cs▸R1.weaken ρk hn aO (cX h2.2 B c)
  ·exact (SR.frame R R1 S1 (q.sr B c) d).raise h.1
theorem rx8 (hsc:env.scope=lwS):RX fnl env.scope cJ (vS z8):=by have:=bO 20 cJ (vS z8) (fn:=fnl) (sc:=lwS) k8;rw [e8] at this;exact hsc▸this
theorem rx9 (hsc:env.scope=lwS):RX fnl env.scope (.lst []) (vS z9):=by have:=bO 20 (.lst []) (vS z9) (fn:=fnl) (sc:=lwS) k9;rw [e9] at this;exact hsc▸this
theorem rx10 (hsc:env.scope=lwS):RX fnl env.scope itG (vS z10):=by have:=bO 20 itG (vS z10) (fn:=fnl) (sc:=lwS) k10;rw [e10] at this;exact hsc▸this
theorem rx13 (hsc:env.scope=lwS):RX fnl env.scope nH (vS z13):=by have:=bO 20 nH (vS z13) (fn:=fnl) (sc:=lwS) k13;rw [e13] at this;exact hsc▸this
theorem S89 (k:AllOk C) (He:aG C 200 (ev 200)) (rm:RM A 200) (eo:EOk env L) (hsc:env.scope=lwS) {g:Nat} (q:LQ C s0 L (PrC Pr0 cA co) Lx n2 Bs ρ ι s) (st:Sto ι sa sd co) (h3:nth ρ 3=i g) (h4:nth ρ 4=.ref nC) {LM:T} (hm:aR n3 gMv [LM] (E.e (ρ1 g) cJ ⟨.nil,n2⟩)=true)
  {rest:List Stmt} {Q:Flow→Shared→Prop} (kont:∀ x1 x2 ι' s1,LQ C s0 L (PrC Pr0 cA co) (fun y=>if y=gnm 486 then some x2 else if y=gnm 485 then some x1 else Lx y) n3s (FD0 :: LM :: Bs) (bD (bD ρ 5 gMv) 6 fpv) ι' s1→Sto ι' sa sd co→(∀ B∈LM :: Bs,at_ B n3=.no)→wpAny (model C.prog C.w) A (execs rest env) Q E0 s1) :
  wpAny (model C.prog C.w) A (execs (z8 :: z9 :: rest) env) Q E0 s:=by
 have nk:=k.nm
 have ρk:=k.toRhoOk
 refine wpAny_execs_cons ?_
 rw [q8]
 refine wpAny_Assign_Name (q.evalE (Bs':=LM :: Bs) @He ρk rm eo (rx8 hsc) q.fs.sr (fun j hj=>?_) hm (fun B hB=>?_) fun x1 ι1 s1 q1 e1 r1=>?_) (aI n8 _ _)
 ·match j,hj with
  | 0,hj=>exact absurd rfl hj
  | 1,hj=>exact absurd rfl hj
  | 2,hj=>exact absurd rfl hj
  | 3,_=>exact h3.symm
  | 4,_=>exact h4.symm
  | 5,hj=>exact absurd rfl hj
  | 6,hj=>exact absurd rfl hj
  | 7,hj=>exact absurd rfl hj
  | 8,hj=>exact absurd rfl hj
  | j+9,hj=>exact absurd rfl hj
 ·rcases List.mem_cons.mp hB with rfl | hB
  ·exact .inl (.head _)
  ·exact .inr ⟨hB,rfl⟩
 refine q1.store nk eo (i:=5) (v:=gMv) rfl (ah hsc (by decide)) r1 fun s2 q2=>?_
 refine wpAny_execs_cons ?_
 rw [q9]
 refine wpAny_Assign_Name (q2.evalE (Bs':=FD0 :: LM :: Bs) (ρe:=[]) @He ρk rm eo (rx9 hsc) q2.fs.sr (fun j hj=>absurd rfl hj) (sF []) (fun B hB=>?_) fun x2 ι3 s3 q3 e3 r3=>?_) (aI n9 _ _)
 ·rcases List.mem_cons.mp hB with rfl | hB
  ·exact .inl (.head _)
  ·exact .inr ⟨hB,rfl⟩
 exact q3.store nk eo (i:=6) (v:=fpv) rfl (ah hsc (by decide)) r3 fun s4 q4=>kont x1 x2 ι3 s4 q4 ⟨e3 _ _ (e1 _ _ st.ι0),st.data⟩ fun B hB=>by
  cases z:at_ B n3 with
  | no=>rfl
  | ob w o =>
   obtain ⟨p,i,_⟩:=(q1.sr B hB).obs n3 w o z
   exact absurd ((q1.sr B hB).dom n3 p i).1 (Nat.lt_irrefl _)
theorem qk (g:Ps) {o:O} (e:at_ FD0 g=.ob true o):g=n3:=by
 have h:gZ (fun p c=>@Cell.rec (fun ξ=>Bool) true (fun ξ ξ=>pEq p n3) c) FD0=true:=by kernel_rfl
 have z:=bZ h (d:=.no) (fun ξ=>rfl) g
 rw [show Tr.get .no g FD0=_ from e] at z
 exact aW z
noncomputable def IxL (L:Addr) (Lx:Str→Option Value) (h:Heap):Prop:=∃ m,h.Ns L m∧∀ x v,Lx x=some v→m x=some v
theorem S10 (k:AllOk C) (He:aG C 200 (ev 200)) (rm:RM A 200) (eo:EOk env L) (hsc:env.scope=lwS) (hkc:env.kindOf (gnm 358)=some .cell) (hcl:env.cells.lookup (gnm 358)=some cA) {g:Nat} {K M O FD LM:T} (q:LQ C s0 L (PrC Pr0 cA co) Lx n3s [FD0,LM,K,M,O,TD,CM] ρ ι s) (st:Sto ι sa sd co)
  (hno:∀ B∈[LM,K,M,O,TD,CM],at_ B n3=.no) (hρ:∀ i,nth (ρ2 g) i≠.unb→nth (ρ2 g) i=nth ρ i) (hLt:Lx (gnm 405)=none)
  (hf:aE none n4 idP ρ3 [FD] 0 0 (aJ E (ρ2 g) (aL 7) itG bfF ⟨mrg FD0 (ro (mrg M (mrg TD (mrg O CM)))),n3s⟩)=⟨true,.unb,.unb⟩)
  {rest:List Stmt} {Q:Flow→Shared→Prop} (kont:∀ ι' s1,LQ C s0 L (PrC Pr0 cA co) Lx n4 [FD,LM,K,O,CM] ρ3 ι' s1→Sto ι' sa sd co→wpAny (model C.prog C.w) A (execs rest env) Q E0 s1) :
  wpAny (model C.prog C.w) A (execs (z10 :: rest) env) Q E0 s:=by
 have nk:=k.nm
 have ρk:=k.toRhoOk
 have hn:∀ k,(none:Option Nat)=some k→C.ρ 1=(k:Int):=fun k e=>nomatch e
 have m2:∀ B,B∈[K,M,O,TD,CM]→SR C ι ⟨B,n3s⟩ s.heap:=fun B hB=>q.sr B (.tail _ (.tail _ hB))
 have R:SR C ι ⟨mrg FD0 (ro (mrg M (mrg TD (mrg O CM)))),n3s⟩ s.heap:=(q.sr FD0 (.head _)).mrg (SR.ro ((m2 M (.tail _ (.head _))).mrg ((m2 TD (.tail _ (.tail _ (.tail _ (.head _))))).mrg ((m2 O (.tail _ (.tail _ (.head _)))).mrg (m2 CM (.tail _ (.tail _ (.tail _ (.tail _ (.head _))))))))))
 have F:=(q.less hρ).fs.same R
 have pc:=q.pr cA co (.inr ⟨rfl,rfl⟩)
 have l405:ax env.scope 405:=ah hsc (by decide)
 refine wpAny_execs_cons ?_
 rw [q10,q10b]
 cases er:aJ E (ρ2 g) (aL 7) itG bfF ⟨mrg FD0 (ro (mrg M (mrg TD (mrg O CM)))),n3s⟩ with
 | fail=>rw [er] at hf;exact (Bool.false_ne_true (congrArg Out.ok hf)).elim
 | ret v σ=>rw [er] at hf;exact (Bool.false_ne_true (congrArg Out.ok hf)).elim
 | next ρx σ2 =>
 rw [er] at hf
 have h1:=Bool.and_eq_true_iff.mp (show (leP σ2.n n4&&(iA none n4 idP ρ3 ρx&&fX none n4 idP [FD] σ2.h))=true from congrArg Out.ok hf)
 have h2:=Bool.and_eq_true_iff.mp h1.2
 refine wm (nW (ih:=ev 200) (bf:=bfF) (bind:=aL 7) (Ix:=IxL L Lx) @He rm eo kR (fun h h' kk ⟨m,a,b⟩=>⟨m,a.at' kk,b⟩) q.lx (fun{ι} {σ} {s} {ρ} {ρ'} {v} {x} {E1} Fb rb eb ixb=>?_) (fun{ι'} {σ'} {s'} {ρ'} {E1} Fb kb xb ixb ne=>?_) (rx10 hsc) F er (by exact nofun)) (fun f s2 z=>?_)
 ·obtain ⟨m,hm,hq⟩:=Fb.ns
  injection eb with eb
  subst eb
  refine wpAny_assign_Name (wpAny_storeName_local l405 (eo.loc▸hm) (fun h' hn' sb=>?_) (dR eo))
  rw [eo.loc] at hn' sb
  obtain ⟨F',S'⟩:=Fb.set nk kR (i:=7) (k:=405) rfl sb hm hq hn' rb
  refine ⟨⟨⟨_,_,rfl⟩,ι,F',S'⟩,⟨_,hn',fun y w e=>?_⟩⟩
  obtain ⟨m',hm',zz⟩:=ixb
  obtain rfl:=iY hm hm'
  rw [if_neg (fun c=>by rw [c,hLt] at e;injection e)]
  exact zz _ _ e
 ·have ixL:∀ h,(∀ o,s'.heap.get? L=some o→h.get? L=some o)→IxL L Lx h:=fun h kk=>let ⟨m,a,b⟩:=ixb;⟨m,a.at' kk,b⟩
  exact wm (wo (E0:=E1) k rm eo hsc hkc hcl pc.1 pc.2 st Fb kb xb ne) (fun f s4 z=>⟨z.1,ixL _ z.2⟩)
 ·obtain ⟨z,ix2⟩:=z
  cases f<;>first | exact z.elim | skip
  refine ct fun ng=>?_
  obtain ⟨a2,ι2,F2,S2⟩:=z
  have cs:=bT F2.sr h1.1
  have F3:=F2.weaken (a:=FD) ρk hn aO h2.1 (cX h2.2 _ (.head _))
  refine ng ?_
  rw [cs] at F3
  refine kont ι2 s2 ⟨q.sh.trans a2,F3.same F3.sr.none,fun B hB=>?_,fun a o h=>⟨Kps.of S2 a o (q.pr a o h).2 (q.pr a o h).1,(q.pr a o h).2⟩,ix2⟩ ⟨S2.ext _ _ st.ι0,st.data⟩
  have fr:∀ B,B∈[LM,K,M,O,TD,CM]→SR C ι2 ⟨B,n4⟩ s2.heap:=fun B hB=>(SR.frameT F F2.sr S2 (q.sr B (.tail _ hB)) (fun g o e=>by
   obtain rfl:=qk g (jK g e)
   exact hno B hB)).raise h1.1
  simp only [List.mem_cons,List.not_mem_nil,or_false] at hB
  rcases hB with rfl | rfl | rfl | rfl | rfl
  ·exact F3.sr
  ·exact fr _ (.head _)
  ·exact fr _ (.tail _ (.head _))
  ·exact fr _ (.tail _ (.tail _ (.tail _ (.head _))))
  ·exact fr _ (.tail _ (.tail _ (.tail _ (.tail _ (.tail _ (.head _))))))
end
end Gh
end
section
namespace Gh
open PySem PyProof.Rows PySem.W PySem.SeqAt PySem.Calls
noncomputable def iv (ns:List Int):List V:=ns.map fun n=>.int n 0
theorem og (n:Int):seq n 0 n 0=.yes:=by
 refine (show seq n 0 n 0=o7 n n from rfl).trans ((eS n n).trans ?_)
 rw [decide_eq_true rfl];rfl
theorem jZ (h:T) (m:Nat):∀ ns,dw (eqv h (m+1)) (iv ns) (iv ns)=.yes
 | []=>rfl
 | n :: ns=>by
  show @B3.rec (fun ξ=>B3) .und .no (dw (eqv h (m+1)) (iv ns) (iv ns)) (eqv h (m+1) (.int n 0) (.int n 0))=.yes
  rw [show eqv h (m+1) (.int n 0) (.int n 0)=seq n 0 n 0 from rfl,og]
  exact jZ h m ns
theorem js (h:T) (m:Nat):∀ ns,cG (isD h (m+1)) (iv ns)=true
 | []=>rfl
 | n :: ns=>by
  show @Bool.rec (fun ξ=>Bool) false (cG (isD h (m+1)) (iv ns)) (isD h (m+1) (.int n 0))=true
  rw [show isD h (m+1) (.int n 0)=true from rfl]
  exact js h m ns
theorem uf {h:T} {g g':Ps} {w w':Bool} {k k':Nat} {ns:List Int} (e:at_ h g=.ob w (.lst k (iv ns))) (e':at_ h g'=.ob w' (.lst k' (iv ns))):eY .ne (.ref g) (.ref g') h=b3 false:=by
 have d:isD h 6 (.ref g)=true:=by
  show aS (at_ h g) false (fun ξ ξ vs=>cG (isD h 5) vs)=true
  rw [e];exact js h 4 ns
 have d':isD h 6 (.ref g')=true:=by
  show aS (at_ h g') false (fun ξ ξ vs=>cG (isD h 5) vs)=true
  rw [e'];exact js h 4 ns
 have v:eqv h 6 (.ref g) (.ref g')=.yes:=by
  show aS (at_ h g) .und (fun ξ ξ vs=>aS (at_ h g') .und fun ξ ξ ws=>dw (eqv h 5) vs ws)=.yes
  rw [e,e'];exact jZ h 4 ns
 show i3 (@Bool.rec (fun ξ=>B3) .und (@Bool.rec (fun ξ=>B3) .und (eqv h 6 (.ref g) (.ref g')) (isD h 6 (.ref g'))) (isD h 6 (.ref g)))=_
 rw [d,d',v];rfl
section
variable {C:Cx} {s0:Shared} {L cA sa sd:Addr} {co:Obj} {Pr Pr0:Addr→Obj→Prop} {Lx:Str→Option Value} {n n':Ps} {Bs Bs':List T} {ns:List Str} {ρ ρ' ρe:List V} {σ σ1:St} {ι ι' ι1:Im} {h h1:Heap} {s s':Shared} {A:Around} {env:Env} {E0:Value→Shared→Prop} {v:V} {x:Value} {S B:T} {k k':Ps}
theorem LQ.grow (q:LQ C s0 L Pr Lx n Bs ρ ι s) {h':Heap} {tk:Nat} (kk:∀ b o,s.heap.get? b=some o→h'.get? b=some o):LQ C s0 L Pr Lx n Bs ρ ι { s with heap:=h',toks:=tk } :=
 q.run ⟨_,_,rfl⟩ (fun ξ ξ ξ i=>i) (fun a o e ξ=>kk a o e) (fun a o _ ⟨e,off⟩=>⟨kk a o e,off⟩) (q.fs.sr.grow kk) (fun B hB=>(q.sr B hB).grow kk)
theorem lV (ρk:RhoOk C):∀ {fl:List Nat} {items:List Value},VRs C ι h (fl.map i) items→IntsAre items (fl.map fun n:Nat=>(n:Int))
 | [],_,.nil=>.nil
 | n :: fl,_,.cons r rs=>by
  obtain ⟨_,_,rfl,z⟩:=r.intI
  rw [ρk.zero,Int.add_zero] at z
  subst z
  exact .cons _ _ (lV ρk rs)
theorem n7 (ρk:RhoOk C) {xs:List Value} {ns:List Int} (f:IntsAre xs ns):VRs C ι h (iv ns) xs:=by
 induction f with
 | nil=>exact .nil
 | cons n t r ih=>exact .cons (.int (by rw [ρk.zero,Int.add_zero])) ih
theorem i7 (ρk:RhoOk C) (R:SR C ι ⟨B,n⟩ h) {p:Ps} {w:Bool} {kz:Nat} {fl:List Nat} (e:at_ B p=.ob w (.lst kz (fl.map i))) (r:VR C ι h (.ref p) x):∃ a items,x=.ref a∧cI h a items∧IntsAre items (fl.map fun n:Nat=>(n:Int)):=by
 refine ct fun ng=>?_
 obtain ⟨_,_,rfl,z⟩:=r.refI
 obtain ⟨q,i,ob⟩:=R.obs _ _ _ e
 refine ng ?_
 rw [z] at i;cases i
 refine ct fun ng=>?_
 obtain ⟨items,t,l,f⟩:=ob.lstI
 refine ng ?_
 exact ⟨_,items,rfl,t,lV ρk f⟩
theorem eR:∀ {xs:List Value} {ns:List Int},IntsAre xs ns→xs.length=ns.length
 | _,_,.nil=>rfl
 | _,_,.cons n t r=>congrArg Nat.succ (eR r)
theorem S11 (k:AllOk C) (rm:RM A 200) (eo:EOk env L) (hsc:env.scope=lwS) {FD LM:T} {fl ml:List Nat} (q:LQ C s0 L Pr Lx n Bs ρ ι s) (h5:nth ρ 5=gMv) (h6:nth ρ 6=fpv) (hFD:FD∈Bs) (hLM:LM∈Bs) {kf km:Nat} {wf wm:Bool} {pf pm:Ps} (hpf:fpv=.ref pf) (hpm:gMv=.ref pm) (ef:at_ FD pf=.ob wf (.lst kf (fl.map i))) (em:at_ LM pm=.ob wm (.lst km (ml.map i))) (hp:fl.Perm ml) (hz:ml.length < 64)
  {rest:List Stmt} {Q:Flow→Shared→Prop} (kont:∀ s1,LQ C s0 L Pr Lx n Bs ρ ι s1→wpAny (model C.prog C.w) A (execs rest env) Q E0 s1) :
  wpAny (model C.prog C.w) A (execs (z11 :: rest) env) Q E0 s:=by
 have nk:=k.nm
 have ρk:=k.toRhoOk
 refine wpAny_execs_cons ?_
 rw [q11]
 refine wpAny_If (wpAny_isTrue_Compare1 ?_)
 refine fR k eo q.fs.sr (bX hsc v8) (w:=.bi 3) (by kernel_rfl) nofun (.inr ⟨_,rfl⟩) rfl fun f rf=>?_
 obtain rfl:=(rf ι s.heap).biI
 refine evalArgs_plain (spliced_cons (q.name nk eo (i:=6) rfl (ah hsc (by decide)) (by rw [h6,hpf];exact nofun) fun x rx=>spliced_nil ⟨q.inK k,?_⟩))
 rw [h6,hpf] at rx
 refine ct fun ng=>?_
 obtain ⟨a,items,rfl,⟨nz,hl⟩,hi⟩:=i7 ρk (q.sr FD hFD) ef rx
 refine ng ?_
 refine sorted_ints ⟨_,hl,rfl,nz,rfl⟩ hi (by rw [eR hi,List.length_map,hp.length_eq];exact hz) fun out ns1 i1 p1 o1=>?_
 have q1:=q.grow (h':=sortedAll s.heap items out) (tk:=s.toks) fun b o=>sortedAll_old
 obtain ⟨e1,he1⟩:=sortedAll_at s.heap items out
 refine fR k eo q1.fs.sr (bX hsc v8) (w:=.bi 3) (by kernel_rfl) nofun (.inr ⟨_,rfl⟩) rfl fun f rf=>?_
 obtain rfl:=(rf ι s.heap).biI
 refine evalArgs_plain (spliced_cons (q1.name nk eo (i:=5) rfl (ah hsc (by decide)) (by rw [h5,hpm];exact nofun) fun x rx=>spliced_nil ⟨q1.inK k,?_⟩))
 rw [h5,hpm] at rx
 refine ct fun ng=>?_
 obtain ⟨a',items',rfl,⟨nz',hl'⟩,hi'⟩:=i7 ρk (q1.sr LM hLM) em rx
 refine ng ?_
 refine sorted_ints ⟨_,hl',rfl,nz',rfl⟩ hi' (by rw [eR hi',List.length_map];exact hz) fun out' ns2 i2 p2 o2=>?_
 have q2:=q1.grow (h':=sortedAll (sortedAll s.heap items out) items' out') (tk:=s.toks) fun b o=>sortedAll_old
 obtain ⟨e2,he2⟩:=sortedAll_at (sortedAll s.heap items out) items' out'
 have he1':=sortedAll_old (vs:=items') (out:=out') he1
 have hns:ns1=ns2:=List.Perm.eq_of_pairwise (le:=fun a b=>a≤b) (fun x y ξ ξ h1 h2=>Int.le_antisymm h1 h2) o1 o2 (p1.trans ((hp.map _).trans p2.symm))
 subst hns
 generalize hA1:s.heap.objs.size+1=a1 at he1 he1' ⊢
 generalize hA2:(sortedAll s.heap items out).objs.size+1=a2 at he2 ⊢
 have n1:s.heap.get? a1=none:=by
  cases z:s.heap.get? a1 with
  | none=>rfl
  | some o=>have:=Heap.lt_size z;rw [← hA1] at this;exact absurd this (Nat.not_lt.mpr (Nat.le_succ _))
 have n2:(sortedAll s.heap items out).get? a2=none:=by
  cases z:(sortedAll s.heap items out).get? a2 with
  | none=>rfl
  | some o=>have:=Heap.lt_size z;rw [← hA2] at this;exact absurd this (Nat.not_lt.mpr (Nat.le_succ _))
 have b0:∀ {a:Addr} {h:Heap},(∀ b o,C.h0.get? b=some o→h.get? b=some o)→h.get? a=none→C.h0.get? a=none:=fun kk e=>by
  rename_i a h
  cases z:C.h0.get? a with
  | none=>rfl
  | some o=>exact (aa e (kk _ _ z)).elim
 have off1:∀ g p,ι g=some p→a1≠p.1∧a1≠p.2:=fun g p i=>by
  refine ct fun ng=>?_
  obtain ⟨_,_,_,⟨o,l1⟩,o',l2⟩:=q.fs.sr.dom g p i
  refine ng ?_
  exact ⟨fun c=>aa n1 (c▸l1),fun c=>aa n1 (c▸l2)⟩
 have off2:∀ g p,ι g=some p→a2≠p.1∧a2≠p.2:=fun g p i=>by
  refine ct fun ng=>?_
  obtain ⟨_,_,_,⟨o,l1⟩,o',l2⟩:=q1.fs.sr.dom g p i
  refine ng ?_
  exact ⟨fun c=>aa n2 (c▸l1),fun c=>aa n2 (c▸l2)⟩
 have a12:a2≠a1:=fun c=>aa n2 (c▸he1)
 have c1:C.h0.get? a1=none:=b0 q.fs.sr.base n1
 have c2:C.h0.get? a2=none:=b0 q1.fs.sr.base n2
 have R1:=q2.fs.sr.put (p:=(a1,a1)) (o:=.lst (iv ns1).length (iv ns1)) c1 c1 (fun g p i=>⟨(off1 g p i).1,(off1 g p i).2,(off1 g p i).1,(off1 g p i).2⟩) ⟨_,he1'⟩ (fun ι' ξ=>.lst out.toList ⟨e1,he1'⟩ rfl (n7 ρk i1))
 have R2:=R1.put (p:=(a2,a2)) (o:=.lst (iv ns1).length (iv ns1)) c2 c2 (fun g p i=>by
  have:a2≠p.1∧a2≠p.2:=by
   unfold ιput at i
   split at i
   ·cases i;exact ⟨a12,a12⟩
   ·exact off2 g p i
  exact ⟨this.1,this.2,this.1,this.2⟩) ⟨_,he2⟩ (fun ι' ξ=>.lst out'.toList ⟨e2,he2⟩ rfl (n7 ρk i2))
 have ne:(⟨.nil,n⟩:St).n≠(⟨.nil,n⟩:St).n.succ:=Ps.ne_succ (by rw [Ps.num_succ];exact Nat.lt_succ_self _)
 have cs:=ay (C:=C) (A:=A) (s:={ s with heap:=sortedAll (sortedAll s.heap items out) items' out' }) (E:=E0) (op:=.ne) (x:=.ref a1) (y:=.ref a2) (r:=false) k.toCxOk (rm.u2) R2
  (.ref (g:=n) (d:=a1) (by unfold ιput;rw [if_neg ne,if_pos rfl])) (.ref (g:=n.succ) (d:=a2) (by unfold ιput;rw [if_pos rfl]))
  (uf (w:=true) (w':=true) (k:=(iv ns1).length) (k':=(iv ns1).length) (ns:=ns1) (by exact (Tr.get_put_ne _ _ _ _ ne).trans (Tr.get_put_same ..)) (by exact Tr.get_put_same ..))
 refine wpAny_mono cs (fun c s3 hc=>?_) fun ξ ξ e=>e
 obtain ⟨rfl,t,rfl⟩:=hc
 refine wpAny_truthy_bool ?_
 rw [if_neg Bool.false_ne_true]
 exact wpAny_execs_nil (kont _ (q2.tok t))
end
end Gh
end
section
namespace Gh
open PySem PyProof.Rows PySem.W PySem.SeqAt PySem.Calls
theorem jm:∀ {a b:T},(∀ g o,at_ a g=.ob true o→at_ b g=.no)→aw a b=true
 | .nil,b,_=>rfl
 | .node v l r,.nil,_=>rfl
 | .node v l r,.node v' l' r',h=>by
  show (dj v v'&&(aw l l'&&aw r r'))=true
  rw [jm (a:=l) (b:=l') fun g o e=>h (.o g) o e,jm (a:=r) (b:=r') fun g o e=>h (.i g) o e]
  cases v with
  | no=>rfl
  | ob w o=>cases w with
   | false=>rfl
   | true=>rw [show v'=.no from h .h o rfl];rfl
theorem gV {a b c:T} (d:aw a b=true):aw (mrg a (ro c)) b=true:=jm fun g o e=>eV g d (jK g e)
structure CfgOk (Ks:List @T) (O LM:T) (ml own:List Nat):Prop where
 p1:∀ K,K∈Ks→leT none nX idP P1 (mrg K O)=true
 rK:∀ K,K∈Ks→leT none nX idP K K=true
 dL:∀ K,K∈Ks→aw K LM=true
 dO:∀ K,K∈Ks→aw K O=true
 dC:∀ K,K∈Ks→aw K CM=true
 rO:leT none nX idP O O=true
 rL:leT none nX idP LM LM=true
 mc:(ml.all fun x=>common.contains x||own.contains x)=true
 hi:ml.length≤60
 lo:1≤ml.length
 body:dh Ks O own
theorem uj {Ks:List T} {O LM:T} {fl ml own:List Nat} (h:cfB Ks O LM fl ml own=true) (hb:dh Ks O own):CfgOk Ks O LM ml own∧fl.Perm ml:=by
 have h:=be h
 have a:=fun K hK=>be (List.all_eq_true.mp h.1 K hK)
 have b:=fun K hK=>be (a K hK).2
 have c:=fun K hK=>be (b K hK).2
 have d:=fun K hK=>be (c K hK).2
 have e:=be h.2
 have f:=be e.2
 have g:=be f.2
 have i:=be g.2
 have j:=be i.2
 exact ⟨⟨fun K hK=>(a K hK).1,fun K hK=>(b K hK).1,fun K hK=>(c K hK).1,fun K hK=>(d K hK).1,fun K hK=>(d K hK).2,e.1,f.1,i.1,Nat.le_of_ble_eq_true j.1,Nat.le_of_ble_eq_true j.2,hb⟩,List.isPerm_iff.mp g.1⟩
section
variable {C:Cx} {s0:Shared} {L cA sa sd:Addr} {co:Obj} {Pr Pr0:Addr→Obj→Prop} {Lx:Str→Option Value} {n n':Ps} {Bs Bs':List T} {ns:List Str} {ρ ρ' ρe:List V} {σ σ1:St} {ι ι' ι1:Im} {h h1:Heap} {s s':Shared} {A:Around} {env:Env} {E0:Value→Shared→Prop} {v:V} {x:Value} {S B:T} {k k':Ps}
theorem LQ.at1 (q:LQ C s0 L (PrC Pr0 cA co) Lx n Bs ρ ι s) (hn:∀ o,¬ Pr0 cA o) (h0:C.h0.get? cA=none) (nT:¬ isT co) {h':Heap} {tk:Nat} (kp:∀ b o,b≠cA→s.heap.get? b=some o→h'.get? b=some o) {co':Obj} (e:h'.get? cA=some co'):LQ C s0 L (PrC Pr0 cA co') Lx n Bs ρ ι { s with heap:=h',toks:=tk }:=by
 obtain ⟨⟨eC,off⟩,hL⟩:=q.pr cA co (.inr ⟨rfl,rfl⟩)
 have nT:∀ o,s.heap.get? cA=some o→¬ isT o:=fun o e'=>by rw [eC] at e';cases e';exact nT
 refine ⟨q.sh.trans ⟨_,_,rfl⟩,q.fs.but kp h0 off nT (Ne.symm hL),fun B hB=>(q.sr B hB).but kp h0 off nT,fun a o h=>?_,?_⟩
 ·rcases h with h | ⟨rfl,rfl⟩
  ·have:=q.pr a o (.inl h)
   exact ⟨⟨kp a o (fun c=>hn o (c▸h)) this.1.1,this.1.2⟩,this.2⟩
  ·exact ⟨⟨e,off⟩,hL⟩
 ·obtain ⟨m,hm,z⟩:=q.lx
  exact ⟨m,hm.at' fun o e=>kp L o (Ne.symm hL) e,z⟩
theorem LQ.off1 (q:LQ C s0 L (PrC Pr0 cA co) Lx n Bs ρ ι s) (h0:C.h0.get? cA=none) (nT:¬ isT co) {h':Heap} {tk:Nat} (kp:∀ b o,b≠cA→s.heap.get? b=some o→h'.get? b=some o):LQ C s0 L (fun ξ ξ=>False) Lx n Bs ρ ι { s with heap:=h',toks:=tk }:=by
 obtain ⟨⟨eC,off⟩,hL⟩:=q.pr cA co (.inr ⟨rfl,rfl⟩)
 have nT:∀ o,s.heap.get? cA=some o→¬ isT o:=fun o e'=>by rw [eC] at e';cases e';exact nT
 exact ⟨q.sh.trans ⟨_,_,rfl⟩,q.fs.but kp h0 off nT (Ne.symm hL),fun B hB=>(q.sr B hB).but kp h0 off nT,fun a o h=>h.elim,let ⟨m,hm,z⟩:=q.lx;⟨m,hm.at' fun o e=>kp L o (Ne.symm hL) e,z⟩⟩
theorem F2.mem_r {α β:Type} {R:α→β→Prop} {l:List α} {m:List β} (f:F2 R l m):∀ b∈m,∃ a,a∈l∧R a b:=by
 induction f with
 | nil=>intro b h;exact nomatch h
 | cons r f ih =>
  intro b h
  rcases List.mem_cons.mp h with rfl | h
  ·exact ⟨_,.head _,r⟩
  ·obtain ⟨a,m,z⟩:=ih b h
   exact ⟨a,.tail _ m,z⟩
theorem LQ.re (q:LQ C s0 L Pr Lx n Bs ρ ι s) {Pr':Addr→Obj→Prop} {Lx':Str→Option Value} (hp:∀ a o,Pr' a o→Kp ι s.heap a o∧a≠L) (hl:∀ x v,Lx' x=some v→Lx x=some v):LQ C s0 L Pr' Lx' n Bs ρ ι s:=⟨q.sh,q.fs,q.sr,hp,let ⟨m,a,b⟩:=q.lx;⟨m,a,fun x v e=>b x v (hl x v e)⟩⟩
theorem o5 {xs:List Value} {ns:List Int} (f:IntsAre xs ns):∀ {j:Nat} {n:Int},ns[j]?=some n→∃ t,xs[j]?=some (.int n t):=by
 induction f with
 | nil=>intro j n e;exact nomatch e
 | cons a t r ih =>
  intro j n e
  cases j with
  | zero=>injection e with e;exact ⟨t,e▸rfl⟩
  | succ j=>exact ih (j:=j) e
theorem bod (k:AllOk C) (HF:dU C 200 (ev 200)) (rm:RM A 200) (eo:EOk env L) (hsc:env.scope=lwS) {K O LM:T} {Ks:List T} {own ml:List Nat} (q:LQ C s0 L Pr Lx nX [K,O,CM,LM] ρ4 ι s) (cfg:CfgOk Ks O LM ml own) (hK:K∈Ks) {pm:Ps} {kz:Nat} {wm:Bool}
  (hpm:gMv=.ref pm) (em:at_ LM pm=.ob wm (.lst kz (ml.map i))) {a:Int} {t:Nat} (hx:Lx (gnm 438)=some (.int a t)) (h0:0≤a) :
  wpAny (model C.prog C.w) A (execs [bg] env) (fun f s'=>f=.next∧∃ K' ι',K'∈Ks∧LQ C s0 L Pr Lx nX [K',O,CM,LM] ρ4 ι' s') E0 s:=by
 have nk:=k.nm
 have ρk:=k.toRhoOk
 have h1:=cfg.lo
 have h60:=cfg.hi
 have hn:∀ k,(none:Option Nat)=some k→C.ρ 1=(k:Int):=fun k e=>nomatch e
 have l485:ax env.scope 485:=ah hsc (by decide)
 refine wpAny_execs_cons ?_
 rw [vG]
 refine wpAny_If (isTrue_not (isTrue_plain ?_))
 refine fR k eo q.fs.sr (bX hsc g394) (w:=.fn mL) (by kernel_rfl) nofun (.inl ⟨_,rfl⟩) rfl fun f rf=>?_
 obtain rfl:=(rf ι s.heap).fnI
 refine evalArgs_plain (spliced_cons (q.name nk eo (i:=4) rfl (ah hsc (by decide)) (by exact nofun) fun x rx=>spliced_cons ?_))
 refine bm (q.name nk eo (i:=5) rfl l485 (by exact nofun) fun y ry=>?_)
 refine wpAny_BinOp (q.nameX nk eo (ah hsc (by decide)) hx ?_)
 refine fR k eo q.fs.sr (bX hsc g13) (w:=.bi 0) (by kernel_rfl) nofun (.inr ⟨_,rfl⟩) rfl fun f rf=>?_
 obtain rfl:=(rf ι s.heap).biI
 have RL:=q.sr LM (.tail _ (.tail _ (.tail _ (.head _))))
 have list:∀ {y},VR C ι s.heap gMv y→∃ a items,y=.ref a∧cI s.heap a items∧IntsAre items (ml.map fun n:Nat=>(n:Int)):=fun r=>by rw [hpm] at r;exact i7 ρk RL em r
 refine evalArgs_plain (spliced_cons (q.name nk eo (i:=5) rfl l485 (by exact nofun) fun z rz=>spliced_nil ⟨q.inK k,?_⟩))
 obtain ⟨l1,it1,rfl,⟨nz1,e1⟩,i1⟩:=list rz
 obtain ⟨l2,it2,rfl,⟨nz2,e2⟩,i2⟩:=list ry
 have z1:it1.toArray.size=ml.length:=by rw [List.size_toArray,eR i1,List.length_map]
 refine PyProof.Rows.len_list (items:=it1.toArray) ⟨_,e1,rfl,nz1,rfl⟩ (by rw [z1];omega) ?_
 rw [z1]
 refine mod_int' (by omega) ?_
 rw [Int.fmod_eq_emod_of_nonneg _ (by omega)]
 have b0:=Int.emod_nonneg a (show (ml.length:Int)≠0 by omega)
 have b1:=Int.emod_lt_of_pos a (show (0:Int) < ml.length by omega)
 generalize hj:a % (ml.length:Int)=j at b0 b1 ⊢
 obtain ⟨j,rfl⟩:=Int.eq_ofNat_of_zero_le b0
 have jl:j < ml.length:=by omega
 have gj:(ml.map fun n:Nat=>(n:Int))[j]?=some ((ml[j]:Nat):Int):=by rw [List.getElem?_map,List.getElem?_eq_getElem jl];rfl
 obtain ⟨tj,ej⟩:=o5 i2 gj
 have q1:=q.tok (s.toks+1+1+1)
 have hl2:Heap.IsList ({ s with toks:=s.toks+1+1+1 }:Shared).heap l2 it2.toArray:=⟨_,e2,rfl,nz2,rfl⟩
 refine vt (C:=C) (A:=A) (s:={ s with toks:=s.toks+1+1+1 }) hl2 (wpAny_getItem_list (s:={ s with toks:=s.toks+1+1+1 }) (k:=(j:Int)) (x:=.int (ml[j]:Nat) tj) (items:=it2.toArray) hl2 b0 (by omega) (by rw [List.getElem?_toArray];exact ej) ?_)
 refine spliced_nil ⟨q1.inK k,?_⟩
 have hm:common.contains ml[j]=true∨own.contains ml[j]=true:=Bool.or_eq_true_iff.mp (List.all_eq_true.mp cfg.mc _ (List.getElem_mem jl))
 generalize ml[j]=md at hm ej gj ⊢
 have rmd:VR C ι s.heap (i md) (.int (md:Int) tj):=.int (by rw [ρk.zero,Int.add_zero];rfl)
 have key:∀ {S:T} {K':T} {Ls:List T} {Q:Value→Shared→Prop},SR C ι ⟨S,nX⟩ s.heap→tp nX (.bool true) Ls (E.f mL [.ref nC,i md] ⟨S,nX⟩)=true→(∀ B∈[K',O,CM,LM],B∈Ls∨(B∈[K,O,CM,LM]∧aw S B=true)) →
   (∀ ι' s',LQ C s0 L Pr Lx nX [K',O,CM,LM] ρ4 ι' s'→Q (.bool true) s')→wpAny (model C.prog C.w) A (call (.ref (C.fa mL)) [x,.int (md:Int) tj]) Q E0 { s with toks:=s.toks+1+1+1 }:=fun{S K' Ls Q} R h hB kont=>by
  refine bK (codeAny_mono (wh (s:={ s with toks:=s.toks+1+1+1 }) @HF ρk rm R (.cons rx (.cons rmd .nil)) h) fun rr s' z=>?_)
  rcases rr with e | (x | _ | _ | _)<;>first | exact z.elim | skip
  obtain ⟨a1,ι',ext,tk,kp,vx,hL,hP⟩:=z
  obtain rfl:=vx.boolI
  refine kont ι' s' (q1.run a1 ext tk kp (hP _ q.fs.sr (by cases S<;>rfl) rfl) fun B hb=>?_)
  rcases hB B hb with c | ⟨c,d⟩
  ·exact hL B c
  ·refine hP B (q.sr B c) d ?_
   simp only [List.mem_cons,List.not_mem_nil,or_false] at c
   rcases c with rfl | rfl | rfl | rfl
   ·exact cfg.rK _ hK
   ·exact cfg.rO
   ·exact rCM
   ·exact cfg.rL
 have RK:=q.sr K (.head _)
 have RO:=q.sr O (.tail _ (.head _))
 have RC:=q.sr CM (.tail _ (.tail _ (.head _)))
 have same:∀ B∈[K,O,CM,LM],∀ {S},B∈([]:List @T)∨(B∈[K,O,CM,LM]∧aw (ro S) B=true):=fun B hB S=>.inr ⟨hB,iP⟩
 by_cases hc:common.contains md=true
 ·have hb:=List.all_eq_true.mp bcom md (List.contains_iff_mem.mp hc)
  have RP:=(RK.mrg RO).weaken ρk hn aO (cfg.p1 _ hK)
  rw [bT (RK.mrg RO) (by kernel_rfl)] at RP
  refine key (RP.mrg RC).ro hb (fun B hB=>same B hB) fun ι' s' q'=>?_
  exact wpAny_truthy_bool (wpAny_execs_nil (wpAny_execs_nil ⟨rfl,K,ι',hK,q'⟩))
 ·have ho:own.contains md=true:=hm.resolve_left hc
  obtain ⟨K',hK',hb⟩:=cfg.body md (List.contains_iff_mem.mp ho) K hK
  rcases hb with ⟨rfl,hb⟩ | hb
  ·refine key (RK.mrg (RO.mrg RC)).ro hb (fun B hB=>same B hB) fun ι' s' q'=>?_
   exact wpAny_truthy_bool (wpAny_execs_nil (wpAny_execs_nil ⟨rfl,K',ι',hK',q'⟩))
  ·refine key (K':=K') (RK.mrg (RO.mrg RC).ro) hb (fun B hB=>?_) fun ι' s' q'=>?_
   ·simp only [List.mem_cons,List.not_mem_nil,or_false] at hB
    rcases hB with rfl | rfl | rfl | rfl
    ·exact .inl (.head _)
    ·exact .inr ⟨.tail _ (.head _),gV (cfg.dO K hK)⟩
    ·exact .inr ⟨.tail _ (.tail _ (.head _)),gV (cfg.dC K hK)⟩
    ·exact .inr ⟨.tail _ (.tail _ (.tail _ (.head _))),gV (cfg.dL K hK)⟩
   ·exact wpAny_truthy_bool (wpAny_execs_nil (wpAny_execs_nil ⟨rfl,K',ι',hK',q'⟩))
theorem S12 (k:AllOk C) (HF:dU C 200 (ev 200)) (rm:RM A 200) (eo:EOk env L) (hsc:env.scope=lwS) {K O LM:T} {Ks:List T} {own ml:List Nat} (q:LQ C s0 L Pr Lx nX [K,O,CM,LM] ρ4 ι s) (cfg:CfgOk Ks O LM ml own) (hK:K∈Ks) {pm:Ps} {kz:Nat} {wm:Bool}
  (hpm:gMv=.ref pm) (em:at_ LM pm=.ob wm (.lst kz (ml.map i)))
  {nA:Addr} {kw:Nat} {ws:List Value} {ns:List Int} (hx:Lx (gnm 483)=some (.ref nA)) (hp:Pr nA { cls:=.type "list",data:=.seq ws.toArray kw }) (hf:F2 (fun(a:Int) v=>∃ t,v=.int a t) ns ws) (hz:ns.length≤5) (hb:∀ x∈ns,0≤x∧x < 1000000007)
  {rest:List Stmt} {Q:Flow→Shared→Prop} (kont:∀ K ι' s1,K∈Ks→LQ C s0 L (fun ξ ξ=>False) (fun ξ=>none) nX [K,O,CM,LM] ρ4 ι' s1→wpAny (model C.prog C.w) A (execs rest env) Q E0 s1) :
  wpAny (model C.prog C.w) A (execs (z12 :: rest) env) Q E0 s:=by
 have nk:=k.nm
 have l438:ax env.scope 438:=ah hsc (by decide)
 refine wpAny_execs_cons ?_
 rw [q12,q12b]
 have hl:s.heap.IsList nA ws.toArray:=⟨_,(q.pr _ _ hp).1.1,rfl,kw,rfl⟩
 have zz:ws.toArray.size≤5:=by rw [List.size_toArray,← hf.length];exact hz
 refine wpAny_For (wpAny_Subscript_list_slice (q.nameX nk eo (ah hsc (by decide)) hx (wpAny_evalPart_some (wpAny_Constant_int (wpAny_evalPart_none ?_))))) (fun x=>rfl)
 refine ⟨nA,ws.toArray,some 1,none,rfl,hl,Nat.le_trans zz (by decide),.int 1 _,.none,?_⟩
 have hpick:slicePick ws.toArray (some 1) none none=(ws.drop 1).toArray:=slicePick_from' ws.toArray 1
 rw [hpick]
 generalize hH:((s.heap.push { cls:=.type "slice",data:=.fields #[Value.int 1 s.toks,.none,.none] }).push { cls:=.type "list",data:=.seq (ws.drop 1).toArray })=H
 have old:∀ b o,s.heap.get? b=some o→H.get? b=some o:=fun b o e=>hH▸Heap.get?_push_of_some _ (Heap.get?_push_of_some _ e)
 have hD:H.get? (s.heap.objs.size+1)=some { cls:=.type "list",data:=.seq (ws.drop 1).toArray }:=by
  have e1:=Heap.get?_push_size (s.heap.push { cls:=.type "slice",data:=.fields #[Value.int 1 s.toks,.none,.none] }) (o:={ cls:=.type "list",data:=.seq (ws.drop 1).toArray }) rfl
  rw [Heap.size_push] at e1
  rw [← hH];exact e1
 have hDl:H.IsList (s.heap.objs.size+1) (ws.drop 1).toArray:=⟨_,hD,rfl,0,rfl⟩
 refine wpAny_pyIter_list hDl ?_
 have hsz:H.objs.size=s.heap.objs.size+2:=by rw [← hH,Heap.size_push,Heap.size_push]
 have hI:(H.push { cls:=.type "list_iterator",data:=.fields #[.ref (s.heap.objs.size+1),.int 0 0] }).get? H.objs.size=some { cls:=.type "list_iterator",data:=.fields #[.ref (s.heap.objs.size+1),.int 0 0] }:=Heap.get?_push_size _ rfl
 have hD':=ag @H { cls:=.type "list_iterator",data:=.fields #[.ref (s.heap.objs.size+1),.int 0 0] } _ _ hD
 have old':∀ b o,s.heap.get? b=some o→(H.push { cls:=.type "list_iterator",data:=.fields #[.ref (s.heap.objs.size+1),.int 0 0] }).get? b=some o:=fun b o e=>ag _ _ _ _ (old b o e)
 have nI:s.heap.get? H.objs.size=none:=by
  cases z:s.heap.get? H.objs.size with
  | none=>rfl
  | some o=>have:=Heap.lt_size z;rw [hsz] at this;exact absurd this (Nat.not_lt.mpr (Nat.le_add_right _ 2))
 have nD:s.heap.get? (s.heap.objs.size+1)=none:=by
  cases z:s.heap.get? (s.heap.objs.size+1) with
  | none=>rfl
  | some o=>have:=Heap.lt_size z;exact absurd this (Nat.not_lt.mpr (Nat.le_succ _))
 have off:∀ {a},s.heap.get? a=none→(∀ g p,ι g=some p→a≠p.1∧a≠p.2)∧a≠L:=fun{a} e=>⟨fun g p i=>by
  obtain ⟨_,_,_,⟨o,l1⟩,o',l2⟩:=q.fs.sr.dom g p i
  exact ⟨fun c=>aa e (c▸l1),fun c=>aa e (c▸l2)⟩,fun c=>by
  obtain ⟨o,eo⟩:=q.fs.live
  exact aa e (c▸eo)⟩
 have hne:s.heap.objs.size+1≠H.objs.size:=by rw [hsz];exact Nat.ne_of_lt (Nat.lt_succ_self _)
 generalize hIe:H.objs.size=I at *
 generalize hDe:s.heap.objs.size+1=D at *
 have hIb:C.h0.get? I=none:=by
  cases z:C.h0.get? I with
  | none=>rfl
  | some o=>exact (aa nI (q.fs.sr.base _ _ z)).elim
 have W:=Walks.list (prog:=C.prog) (w:=C.w) rm.han I D hne (ws.drop 1).toArray
 have q0:=(q.grow (tk:=s.toks+1) old').re (Pr':=PrC (PrC (fun ξ ξ=>False) D { cls:=.type "list",data:=.seq (ws.drop 1).toArray }) I { cls:=.type "list_iterator",data:=.fields #[.ref D,.int 0 0] }) (Lx':=fun ξ=>none) (fun a o h=>by
  rcases h with (h | ⟨rfl,rfl⟩) | ⟨rfl,rfl⟩
  ·exact h.elim
  ·exact ⟨⟨hD',(off nD).1⟩,(off nD).2⟩
  ·exact ⟨⟨hI,(off nI).1⟩,(off nI).2⟩) (fun x v e=>nomatch e)
 refine codeAny_mono (R:=fun r s'=>match r with | .ok f=>f=.next∧∃ K ι',K∈Ks∧LQ C s0 L (fun ξ ξ=>False) (fun ξ=>none) nX [K,O,CM,LM] ρ4 ι' s' | .error _=>False) ?_ fun r s' z=>?_
 ·refine codeAny_forLoop_any (fun kk s'=>∃ j K ι oI,kk=(ws.drop 1).toArray.size - j∧j≤(ws.drop 1).toArray.size∧K∈Ks∧s'.heap.IsListIter I D j∧LQ C s0 L (PrC (PrC (fun ξ ξ=>False) D { cls:=.type "list",data:=.seq (ws.drop 1).toArray }) I oI) (fun ξ=>none) nX [K,O,CM,LM] ρ4 ι s') ?_ (ws.drop 1).toArray.size ⟨0,K,ι,_,rfl,Nat.zero_le _,hK,⟨_,hI,rfl,rfl⟩,q0⟩
  rintro kk s' ⟨j,K,ι,oI,rfl,hj,hK,hit,q⟩
  have pI:=q.pr I oI (.inr ⟨rfl,rfl⟩)
  have pD:=q.pr D _ (.inl (.inr ⟨rfl,rfl⟩))
  have hl':s'.heap.IsList D (ws.drop 1).toArray:=⟨_,pD.1.1,rfl,0,rfl⟩
  have nT:¬ isT oI:=by
   refine ct fun ng=>?_
   obtain ⟨o,e,c,_⟩:=hit
   refine ng ?_
   rw [pI.1.1] at e;cases e
   exact ir c (.head _)
  have hnP:∀ o,¬ PrC (fun ξ ξ=>False) D { cls:=.type "list",data:=.seq (ws.drop 1).toArray } I o:=fun o h=>h.elim (fun x=>x) fun x=>hne x.1.symm
  by_cases hlt:j < (ws.drop 1).toArray.size
  ·refine W.item j s' _ _ hlt ⟨hit,hl'⟩ fun x g1 tk1 hP st1 hk1=>?_
   refine ct fun ng=>?_
   obtain ⟨o1,e1,c1,d1⟩:=st1.1
   have kp:∀ b o,b≠I→s'.heap.get? b=some o→g1.get? b=some o:=fun b o hb e=>hk1 b o (fun c=>by
    rcases List.mem_cons.mp c with c | c
    ·exact hb c
    ·exact nomatch c) e
   have q1:=q.at1 (tk:=tk1) hnP hIb nT kp e1
   refine ng ?_
   refine gJ (s:={ s' with heap:=g1,toks:=tk1 }) e1 c1 d1 (.head _) ?_
   obtain ⟨m,hm,_⟩:=q1.lx
   refine wpAny_assign_Name (wpAny_storeName_local l438 (eo.loc▸hm) (fun h2 hn2 sb=>?_) (dR eo))
   rw [eo.loc] at hn2 sb
   have q2:=q1.up (tk:=tk1+1) nk hm (i:=8) (x:=x) (rfl:fnl[8]?=some 438) (fun b o hb e=>sb.extBut b o hb e) hn2 .unb (fun c=>absurd rfl c)
   have hxv:x∈ws:=by
    rw [List.getElem?_toArray] at hP
    exact List.mem_of_mem_drop (List.mem_of_getElem? hP)
   obtain ⟨a,hxa,t,rfl⟩:=hf.mem_r _ hxv
   have hLx:(fun y:Str=>if y=gnm 438 then some (Value.int a t) else none) (gnm 438)=some (.int a t):=if_pos rfl
   refine wpAny_mono (bod (Lx:=fun y:Str=>if y=gnm 438 then some (Value.int a t) else none) k @HF rm eo hsc q2 cfg hK hpm em hLx (hb a hxa).1) (fun f s3 z=>?_) fun ξ ξ e=>e
   refine ct fun ng=>?_
   obtain ⟨rfl,K',ι',hK',q3⟩:=z
   have p3:=q3.pr I o1 (.inr ⟨rfl,rfl⟩)
   refine ng ?_
   exact ⟨_,by omega,j+1,K',ι',o1,rfl,hlt,hK',⟨o1,p3.1.1,c1,d1⟩,q3.re (fun a o h=>q3.pr a o h) (fun x v e=>nomatch e)⟩
  ·obtain rfl:j=(ws.drop 1).toArray.size:=Nat.le_antisymm hj (Nat.not_lt.mp hlt)
   refine W.done s' _ _ ⟨hit,hl'⟩ fun h1 tk1 hk1=>wpAny_execs_nil ⟨rfl,K,ι,hK,?_⟩
   exact q.off1 hIb nT fun b o hb e=>hk1 b o (fun c=>by
    rcases List.mem_cons.mp c with c | c
    ·exact hb c
    ·exact nomatch c) e
 ·cases r with
  | error e=>exact z.elim
  | ok f =>
   refine ct fun ng=>?_
   obtain ⟨rfl,K,ι',hK,q'⟩:=z
   refine ng ?_
   exact kont K ι' s' hK q'
end
end Gh
end
section
namespace Gh
open PySem PyProof.Rows PySem.W PySem.SeqAt PySem.Calls
section
variable {C C':Cx} {s0:Shared} {L cA sa sd:Addr} {co:Obj} {Pr Pr0:Addr→Obj→Prop} {Lx:Str→Option Value} {n n':Ps} {Bs Bs':List T} {ns:List Str} {ρ ρ' ρe:List V} {σ σ1:St} {ι ι' ι1:Im} {h h1:Heap} {s s':Shared} {A:Around} {env:Env} {E0:Value→Shared→Prop} {v:V} {x:Value} {S B:T} {k k':Ps}
theorem LQ.swap (hh:C'.h0=C.h0) (r:RhoOk C) (r':RhoOk C') (q:LQ C s0 L Pr Lx .h [] ρ ι s) (hρ:∀ i,nth ρ i≠.unb→∃ o,nth ρ i=.int o 0):LQ C' s0 L Pr Lx .h [] ρ ι s:=by
 have no:∀ g p,ι g=some p→False:=fun g p i=>absurd (q.fs.sr.dom g p i).1 (by have:=g.num_pos;show ¬ g.num < 1;omega)
 refine ⟨q.sh,⟨⟨fun g p i=>(no g p i).elim,fun g g' p p' i=>(no g p i).elim,fun g w o e=>?_,hh▸q.fs.sr.base⟩,?_,hh▸q.fs.above,q.fs.off⟩,fun B hB=>(nomatch hB),q.pr,q.lx⟩
 ·rw [show at_ (St.h ⟨.nil,.h⟩) g=.no from bF g] at e
  injection e
 ·obtain ⟨m,hm,hq⟩:=q.fs.ns
  refine ⟨m,hm,fun i x hx hn=>?_⟩
  refine ct fun ng=>?_
  obtain ⟨v,e,rv⟩:=hq i x hx hn
  obtain ⟨o,eo⟩:=hρ i hn
  refine ng ?_
  rw [eo] at rv ⊢
  refine ct fun ng=>?_
  obtain ⟨_,_,rfl,z⟩:=rv.intI
  refine ng ?_
  exact ⟨_,e,.int (by rw [r'.zero];rw [r.zero] at z;exact z)⟩
theorem S13 (k:AllOk C) (He:aG C 200 (ev 200)) (rm:RM A 200) (eo:EOk env L) (hsc:env.scope=lwS) {K O LM:T} {Ks:List T} {ml own:List Nat} (q:LQ C s0 L Pr Lx nX [K,O,CM,LM] ρ4 ι s) (cfg:CfgOk Ks O LM ml own) (hK:K∈Ks) {Q:Flow→Shared→Prop}
  (kont:∀ s1,Sh s0 s1→(∀ a o,C.h0.get? a=some o→s1.heap.get? a=some o)→Q (.ret (.bool true)) s1):wpAny (model C.prog C.w) A (execs [z13] env) Q E0 s:=by
 have ρk:=k.toRhoOk
 have hn:∀ k,(none:Option Nat)=some k→C.ρ 1=(k:Int):=fun k e=>nomatch e
 have RK:=q.sr K (.head _)
 have RO:=q.sr O (.tail _ (.head _))
 have RC:=q.sr CM (.tail _ (.tail _ (.head _)))
 have RP:=(RK.mrg RO).weaken ρk hn aO (cfg.p1 _ hK)
 rw [bT (RK.mrg RO) (by kernel_rfl)] at RP
 have F:=q.fs.same (RP.mrg RC).ro
 refine wpAny_execs_cons ?_
 rw [q13]
 have h:=sRet
 cases e:E.e ρ4 nH ⟨ro (mrg P1 CM),nX⟩ with
 | fail=>rw [e] at h;exact (Bool.false_ne_true h).elim
 | ok w σ1 =>
  rw [e] at h
  have h:vle none nX idP (.bool true) w=true:=h
  refine wpAny_Return_some (wm (He rm eo (rx13 hsc) F e) (fun x s' z=>?_))
  refine ct fun ng=>?_
  obtain ⟨a1,ι1,R1,S1,r1⟩:=z
  have v4:=a7 (n:=nX) (f:=idP) ρk hn r1 h
  refine ng ?_
  cases v4
  exact kont s' (q.sh.trans a1) R1.base
theorem LQ.drop {j:Nat} (q:LQ C s0 L Pr (fun y=>if y=gnm j then some x else Lx y) n Bs ρ ι s) (h:Lx (gnm j)=none):LQ C s0 L Pr Lx n Bs ρ ι s:=q.re (fun a o h=>q.pr a o h) fun y v e=>(if_neg (fun c=>by rw [c,h] at e;injection e)).trans e
theorem lawT (k:AllOk C) (rm:RM A 201) (eo:EOk env L) (hsc:env.scope=lwS) (hkc:env.kindOf (gnm 358)=some .cell) (hcl:env.cells.lookup (gnm 358)=some cA) (h0:C.h0.get? cA=none) (hcd:co.data=.cell none) {kk m g:Nat} {nA:Addr} {kw:Nat} {ws:List Value} {nz:List Int} {o:Int}
  (q:LQ C s0 L (PrC (fun a o=>a=nA∧o={ cls:=.type "list",data:=.seq ws.toArray kw }) cA co) (fun y=>if y=gnm 483 then some (.ref nA) else none) .h [] [.unb,.unb,.int o 0,.int (o % 6) 0,.unb,.unb,.unb,.unb,.unb] ι s) (b0:0≤o) (b1:o < 1000000007)
  (ek:o / 6 % 4=(kk:Int)) (em:o / 48 % 7=(m:Int)) (eg:o % 6=(g:Int)) (hρ:C.ρ 1=(kk:Int)) (hf:F2 (fun(a:Int) v=>∃ t,v=.int a t) nz ws) (hz:nz.length≤5) (hb:∀ x∈nz,0≤x∧x < 1000000007) {Q:Flow→Shared→Prop}
  (kont:∀ s1,Sh s0 s1→(∀ a o,C.h0.get? a=some o→s1.heap.get? a=some o)→Q (.ret (.bool true)) s1):wpAny (model C.prog C.w) A (execs [z3,z4,z5,z6,z7,z8,z9,z10,z11,z12,z13] env) Q E0 s:=by
 obtain ⟨He,Ht,HS,HF⟩:=snd k 200
 have rm':=rm.pred
 have hm:m < 7:=by have:=Int.emod_lt_of_pos (o / 48) (show (0:Int) < 7 by decide);omega
 have hg:g < 6:=by have:=Int.emod_lt_of_pos o (show (0:Int) < 6 by decide);omega
 have pA:=(q.pr nA _ (.inl ⟨rfl,rfl⟩)).1.1
 have hnA:∀ o,¬ ((fun a o=>a=nA∧o=({ cls:=.type "list",data:=.seq ws.toArray kw }:Obj)):Addr→Obj→Prop) cA o:=fun o ⟨e,_⟩=>by
  have pc:=(q.pr cA co (.inr ⟨rfl,rfl⟩)).1.1
  rw [e,pA] at pc
  cases pc
  injection hcd
 have lx:∀ j,j≠483→(fun y=>if y=gnm 483 then some (Value.ref nA) else none) (gnm j)=none:=fun j hj=>if_neg fun c=>hj (k.nm.inj _ _ c)
 refine S3 k @HS rm eo hsc q rfl rfl b0 b1 ek em eg hρ fun x3 ι3 s3 q3=>?_
 replace q3:=q3.drop (lx 470 (by decide))
 refine S4 k eo hsc hkc hcl q3 hnA h0 hcd (by simp only [List.mem_cons,true_or,or_true]) rfl fun sa sd co' s4 q4 st=>?_
 refine S5 k @HF rm' eo hsc hkc hcl hm hg q4 st fun ι5 s5 q5 st=>?_
 have h3:nth (bD [.unb,.unb,.int o 0,.int (o % 6) 0,.unb,.unb,.unb,.unb,.unb] 4 (.ref nC)) 3=i g:=by rw [eg];rfl
 refine S67 k @HF rm' eo hsc hkc hcl hm hg rfl b0 b1 h3 q5 st fun K M O ι7 s7 cf q7 st=>?_
 refine ct fun ng=>?_
 obtain ⟨FD,LM,fl,ml,own,Ks,hK,cb,ba,hfn,hmid,ef,el⟩:=cf
 obtain ⟨cfg,hpm⟩:=uj cb ba
 refine ng ?_
 refine S89 k @He rm' eo hsc q7 st h3 rfl hmid fun x1 x2 ι9 s9 q9 st hno=>?_
 replace q9:=(q9.drop (by exact (if_neg fun c=>by have:=k.nm.inj _ _ c;omega).trans (lx 486 (by decide)))).drop (lx 485 (by decide))
 refine S10 k @He rm' eo hsc hkc hcl q9 st hno (fun j hj=>?_) (lx 405 (by decide)) hfn fun ι10 s10 q10 st=>?_
 ·match j,hj with
  | 0,hj=>exact absurd rfl hj
  | 1,hj=>exact absurd rfl hj
  | 2,hj=>exact absurd rfl hj
  | 3,_=>exact h3.symm
  | 4,_=>rfl
  | 5,_=>rfl
  | 6,_=>rfl
  | 7,hj=>exact absurd rfl hj
  | 8,hj=>exact absurd rfl hj
  | j+9,hj=>exact absurd rfl hj
 refine S11 k rm' eo hsc q10 rfl rfl (.head _) (.tail _ (.head _)) (by kernel_rfl) (by kernel_rfl) ef el hpm (Nat.lt_of_le_of_lt cfg.hi (by decide)) fun s11 q11=>?_
 have q12:LQ C s0 L _ _ nX [K,O,CM,LM] ρ4 ι10 s11:=((q11.less (ρ':=ρ4) fun j hj=>?_).sub fun B hB=>?_).raise (by kernel_rfl)
 ·refine S12 k @HF rm' eo hsc q12 cfg hK (by kernel_rfl) el (if_pos rfl) (.inl ⟨rfl,rfl⟩) hf hz hb fun K' ι12 s12 hK' q13=>?_
  exact S13 k @He rm' eo hsc q13 cfg hK' kont
 ·match j,hj with
  | 0,hj=>exact absurd rfl hj
  | 1,hj=>exact absurd rfl hj
  | 2,hj=>exact absurd rfl hj
  | 3,hj=>exact absurd rfl hj
  | 4,_=>rfl
  | 5,_=>rfl
  | 6,hj=>exact absurd rfl hj
  | 7,hj=>exact absurd rfl hj
  | 8,hj=>exact absurd rfl hj
  | j+9,hj=>exact absurd rfl hj
 ·simp only [List.mem_cons,List.not_mem_nil,or_false] at hB ⊢
  rcases hB with rfl | rfl | rfl | rfl
  ·exact .inr (.inr (.inl rfl))
  ·exact .inr (.inr (.inr (.inl rfl)))
  ·exact .inr (.inr (.inr (.inr rfl)))
  ·exact .inr (.inl rfl)
end
end Gh
end
section
namespace Gh
open PySem PyProof.Rows PySem.W PySem.SeqAt PySem.Calls
theorem vZ (L:Nat):(cellsFrom (L+1) lwS.names []).lookup (gnm 358)=some (L+1):=by kernel_rfl
theorem tE:lwS.names.lookup (gnm 358)=some .cell:=by kernel_rfl
theorem rM:lwS.names.lookup (gnm 482)=some .local:=by kernel_rfl
theorem lwk:lwS.kind=.function:=by kernel_rfl
theorem lwco:lwS.isCoroutine=false:=by kernel_rfl
theorem lwg:lwS.isGenerator=false:=by kernel_rfl
theorem tD:lwP=⟨[],[⟨gnm 482,none,(lwP.args.headD default).pos⟩],none,[],[],none,[]⟩:=by kernel_rfl
noncomputable def ρk (kk:Nat):Nat→Int:=fun i=>if i=1 then (kk:Int) else 0
theorem ρk_ok {w:World} {h0:Heap} {kk:Nat} (h:kk < 4):RhoOk (cx w h0 (ρk kk)):=by
 have e:∀ i,(cx w h0 (ρk kk)).ρ i=if i=1 then (kk:Int) else 0:=fun i=>rfl
 refine ⟨fun i=>?_,fun i=>?_⟩
 ·rw [e];split<;>omega
 ·rw [e]
  match i with
  | 0=>exact Int.le_refl _
  | 1=>rw [if_pos rfl];show (kk:Int)≤3;omega
  | i+2=>rw [if_neg (by omega)];exact Int.le_refl _
noncomputable def nul:List V:=[.unb,.unb,.unb,.unb,.unb,.unb,.unb,.unb,.unb]
theorem oQ {w:World} {s:Shared} {mg mb:Str→Option Value} (keep:∀ a o,(Gt.H1 w.params).get? a=some o→s.heap.get? a=some o) (m1:s.heap.Ns mainGlobals mg) (m2:s.heap.Ns builtinsNs mb) (nl:s.heap.NoLimit)
  {a:Addr} {o:Obj} {name:Str} {pm cd doc:Value} (ho:s.heap.get? a=some o) (hd:o.data=.func (docDef name lwP lwB lwS pm cd doc)) (hcd:s.heap.CodeRec cd name)
  {sl:Addr} {so:Obj} {vs:Array Value} {kz:Nat} (hs:s.heap.get? sl=some so) (hc:so.cls=.type "list") (hdd:so.data=.seq vs kz) (hi:∀ v∈vs.toList,∃ a t,v=.int a t) (hz:vs.size≤63) {Q:Value→Shared→Prop}
  (kont:∀ s1,Sh s s1→(∀ a o,s.heap.get? a=some o→s1.heap.get? a=some o)→Q (.bool true) s1):codeAny (model PySem.Challenge.pw_tn0016_01 w) callerA (.call (.ref a) ⟨[.ref sl],[]⟩) (CB Q) s:=by
 have AK:∀ kk,kk < 4→AllOk (cx w s.heap (ρk kk)):=fun kk h=>wC rfl (ρk_ok h) keep m1 m2 nl
 rw [tD] at hd
 refine codeAny_call_cells (fd:=docDef name ⟨[],[⟨gnm 482,none,(lwP.args.headD default).pos⟩],none,[],[],none,[]⟩ lwB lwS pm cd doc) (by decide) ho hd nl hcd rfl (dS name name _ lwB lwS pm cd doc _ _ [.ref sl] rfl (by simp)) rfl (fun x hx=>.inl ?_) (fun s1 ic=>?_) lwco lwg lwk
 ·rw [List.mem_singleton.mp hx];exact rM
 ·generalize henv:callEnvC (docDef name ⟨[],[⟨gnm 482,none,(lwP.args.headD default).pos⟩],none,[],[],none,[]⟩ lwB lwS pm cd doc) s.heap.objs.size a=env at ic ⊢
  have eo:EOk env s.heap.objs.size:=henv▸⟨lwk,rfl,rfl,rfl⟩
  have hsc:env.scope=lwS:=henv▸rfl
  have hkc:env.kindOf (gnm 358)=some .cell:=henv▸tE
  have hkl:env.kindOf (gnm 482)=some .local:=henv▸rM
  have hcl:env.cells.lookup (gnm 358)=some (s.heap.objs.size+1):=henv▸vZ _
  have rm:RM (callerA.deeper env) 201:=⟨rfl,by show 1+claimMargin+1+_+_ < recursionLimit;decide,by show 4+3+_+_ < cLine;decide⟩
  have ns:=ic.toInCall.ns
  rw [eo.loc] at ns
  obtain ⟨co,eco,dco⟩:=ic.cell _ _ hcl
  have dco:co.data=.cell none:=by
   rw [dco]
   show Data.cell (bindC env.kindOf [] (if env.kindOf (gnm 482)=some .local then fun ξ=>none else _) (gnm 358))=_
   rw [if_pos hkl];rfl
  have hLx:bindL env.kindOf [(gnm 482,.ref sl)] (fun ξ=>none)=fun y=>if y=gnm 482 then some (.ref sl) else none:=by
   show bindL env.kindOf [] (if env.kindOf (gnm 482)=some .local then fun y=>if y=gnm 482 then some (.ref sl) else none else _)=_
   rw [if_pos hkl];rfl
  have ns:s1.heap.Ns s.heap.objs.size (fun y=>if y=gnm 482 then some (.ref sl) else none):=hLx▸ns
  have fr:=fresh s.heap
  have fr1:s.heap.get? (s.heap.objs.size+1)=none:=by
   cases z:s.heap.get? (s.heap.objs.size+1) with
   | none=>rfl
   | some o=>have:=Heap.lt_size z;exact absurd this (Nat.not_lt.mpr (Nat.le_succ _))
  have q:LQ (cx w s.heap (ρk 0)) s s.heap.objs.size (PrC (fun a o=>a=sl∧o=so) (s.heap.objs.size+1) co) (fun y=>if y=gnm 482 then some (.ref sl) else none) .h [] nul (fun ξ=>none) s1:=by
   refine ⟨ic.toInCall.same,⟨⟨fun g p i=>(nomatch i),fun g g' p p' i=>(nomatch i),fun g w o e=>?_,ic.toInCall.keep⟩,⟨_,ns,fun i x hx hn=>absurd ?_ hn⟩,fr,fun g p i=>(nomatch i)⟩,fun B hB=>(nomatch hB),fun a o h=>?_,⟨_,ns,fun x v e=>e⟩⟩
   ·rw [show at_ (St.h ⟨.nil,.h⟩) g=.no from bF g] at e
    injection e
   ·match i with
    | 0 | 1 | 2 | 3 | 4 | 5 | 6 | 7 | 8=>rfl
    | i+9=>rfl
   ·rcases h with ⟨rfl,rfl⟩ | ⟨rfl,rfl⟩
    ·exact ⟨⟨ic.toInCall.keep _ _ hs,fun g p i=>(nomatch i)⟩,fun c=>aa fr (c▸hs)⟩
    ·exact ⟨⟨eco,fun g p i=>(nomatch i)⟩,Nat.succ_ne_self _⟩
  have k0:=AK 0 (by decide)
  have k0':=k0.toRhoOk
  show wpAny _ _ (execs lwB env) _ _ _
  rw [qB]
  refine S0 k0 rm.han eo hsc q (if_pos rfl) (.inl ⟨rfl,rfl⟩) hc hdd hi hz fun nA kz' ws ns s2 q hf hz hb=>?_
  refine S1 k0 eo hsc q (if_pos rfl) (.inr ⟨rfl,rfl⟩) hf hz hb fun o x2 s3 b0 b1 q=>?_
  refine S2 k0 eo hsc q rfl fun x3 s4 q=>?_
  refine ct fun ng=>?_
  obtain ⟨kk,ek⟩:=Int.eq_ofNat_of_zero_le (Int.emod_nonneg (o / 6) (show (4:Int)≠0 by decide))
  obtain ⟨m,em⟩:=Int.eq_ofNat_of_zero_le (Int.emod_nonneg (o / 48) (show (7:Int)≠0 by decide))
  obtain ⟨g,eg⟩:=Int.eq_ofNat_of_zero_le (Int.emod_nonneg o (show (6:Int)≠0 by decide))
  refine ng ?_
  have hkk:kk < 4:=by have:=Int.emod_lt_of_pos (o / 6) (show (0:Int) < 4 by decide);omega
  have k1:=AK kk hkk
  have q1:=LQ.swap (C:=cx w s.heap (ρk 0)) (C':=cx w s.heap (ρk kk)) rfl k0' k1.toRhoOk q fun i hi=>?_
  ·refine lawT (C:=cx w s.heap (ρk kk)) (o:=o) (nA:=nA) (kw:=kz') (ι:=fun ξ=>none) (Q:=fun f s'=>CB Q (.ok (.ret (match f with | .ret v=>v | _=>.none))) s') k1 rm eo hsc hkc hcl fr1 dco (q1.re (fun a o h=>?_) fun y v e=>?_) b0 b1 ek em eg (show ρk kk 1=(kk:Int) from if_pos rfl) hf hz hb kont
   ·rcases h with h | h
    ·exact q1.pr a o (.inr h)
    ·exact q1.pr a o (.inl (.inr h))
   ·by_cases c:y=gnm 483
    ·subst c
     rw [if_pos rfl] at e
     have ne:∀ j,j≠483→gnm 483≠gnm j:=fun j hj c=>hj (k1.nm.inj _ _ c).symm
     exact (if_neg (ne 464 (by decide))).trans ((if_neg (ne 484 (by decide))).trans ((if_pos rfl).trans e))
    ·rw [if_neg c] at e;injection e
  ·match i,hi with
   | 2,_=>exact ⟨o,rfl⟩
   | 3,_=>exact ⟨_,rfl⟩
   | 0,hi=>exact absurd rfl hi
   | 1,hi=>exact absurd rfl hi
   | 4,hi=>exact absurd rfl hi
   | 5,hi=>exact absurd rfl hi
   | 6,hi=>exact absurd rfl hi
   | 7,hi=>exact absurd rfl hi
   | 8,hi=>exact absurd rfl hi
   | j+9,hi=>exact absurd rfl hi
end Gh
end
section
namespace Gh
open PySem PyProof.Rows PySem.W PySem.SeqAt PySem.Calls PySem.Challenge
theorem vJ (l:OpenLaw) (hm:l.most=some 63) (hb:l.bound=none) {xs:List WData} (b:l.pre.holds [] { args:=[.list xs] }=true):xs.length≤63:=by
 unfold OpenLaw.pre at b
 rw [hm,hb] at b
 by_cases c:xs.length≤63
 ·exact c
 ·exfalso
  have c:(63:Int) < (xs.length:Int):=by omega
  simp [WTm.holds,WTm.value,less?,Num.less?,c] at b
theorem kO {xs:List WData}:WShape.hasItems [] xs .int=true→∀ {cl h} {vs:List Value} {as},ReadsAllW [] cl h vs xs as→(∀ v∈vs,∃ a t,v=.int a t)∧vs.length=xs.length:=by
 induction xs with
 | nil=>intro _ cl h vs as r;cases r;exact ⟨fun v h=>(nomatch h),rfl⟩
 | cons x xs ih =>
  intro e cl h vs as r
  have e:=Bool.and_eq_true_iff.mp (show (WShape.has [] x .int&&WShape.hasItems [] xs .int)=true from e)
  obtain ⟨n,rfl⟩:=hasW_int e.1
  cases r with
  | cons r rs =>
  obtain ⟨z,l⟩:=ih e.2 rs
  refine ⟨fun w hw=>?_,congrArg Nat.succ l⟩
  rcases List.mem_cons.mp hw with rfl | hw
  ·cases r with | int i t=>exact ⟨_,_,rfl⟩
  ·exact z w hw
noncomputable def dl:DefRec:=⟨PySem.Str.ofString "law",lwP,lwB,lwS,(Gt.st 321).pos⟩
noncomputable def YP (w:World) (h:Heap):Prop:=∀ a o,(Gt.H1 w.params).get? a=some o→h.get? a=some o
theorem walk:WalkO Gt.vw Gt.loose (fun ξ ξ=>True) YP rw_tn0016_01.row.toRowW dl [] fun f vs=>PySem.call f vs:=by
 intro w s₀ s₁ mg mb G Y a o pm cd doc dV kV ho hd hcd df _ hg args vals as hpre hlay hrd _ _
 obtain ⟨p1,p2⟩:=pre_splitW hpre
 obtain ⟨d,r,rfl,c,e⟩:=hasAllW_cons p1
 obtain rfl:=hasAllW_nil e
 obtain ⟨xs,rfl,f⟩:=hasW_list c
 have l63:=vJ rw_tn0016_01 rfl rfl p2
 have hdV:dV=.none:=by
  rcases df.pos with ⟨_,e⟩ | ⟨e,_⟩
  ·exact e
  ·exact absurd (show dl.params.defaults=[] by show lwP.defaults=[];rw [tD]) e
 have hkV:kV=.none:=by
  rcases df.kw with ⟨_,e⟩ | ⟨e,_⟩
  ·exact e
  ·exact absurd rfl e
 subst hdV hkV
 cases hrd with
 | cons r rs =>
 cases rs
 cases r with
 | @list sl so vs kz _ as h1 h2 h3 h4 =>
 obtain ⟨hi,hl⟩:=kO f h4
 refine bK (oQ (w:=w) (s:=s₁) Y G.T.g G.T.b G.T.nolimit ho hd hcd h1 h2 h3 hi (by rw [← Array.length_toList,hl];exact l63) fun s' a k=>?_)
 refine GoodW.toG ⟨.inl ⟨_,.bool true,[],rfl,fun cls=>rfl,.bool true,by kernel_rfl,fun ξ=>⟨.nil,fun a h=>(nomatch h)⟩⟩,k,?_,?_⟩
 ·obtain ⟨h,t,rfl⟩:=a;rfl
 ·obtain ⟨h,t,rfl⟩:=a;exact hg
theorem hdef:defOf Gt.vw rw_tn0016_01.row.name=some (dl,[]):=by kernel_rfl
theorem hthe:rw_tn0016_01.row.prog.theDef rw_tn0016_01.row.name=some (dl.params,dl.body,dl.scope):=by kernel_rfl
theorem hkw:kwWritten? dl.params.kwonlyargs dl.params.kw_defaults=some []:=by show kwWritten? lwP.kwonlyargs lwP.kw_defaults=_;rw [tD];rfl
theorem hok:(chainsOk Gt.vw&&opensWell rw_tn0016_01.row.prog&&(frees rw_tn0016_01.row.toRowW&&rw_tn0016_01.row.within.isEmpty))=true:=by kernel_rfl
section
open TablesWhole
theorem tw1:noTwice pw_tn0016_01.main.scope=true:=by
 unfold noTwice
 rw [PySem.W.Fast.sDec_eq]
 kernel_rfl
theorem tw2:wSs gather pw_tn0016_01.main.scope ⟨pw_tn0016_01.main.scope,[],[],[],none⟩ pw_tn0016_01.main.scope pw_tn0016_01.main.body=[]:=by kernel_rfl
theorem sS {t:Scope} {c:TablesWhole.Ctx} {s:Scope} (m:List Stmt):∀ l:List Stmt,wSs TablesWhole.holds t c s (l++m)=(wSs TablesWhole.holds t c s l&&wSs TablesWhole.holds t c s m):=by
 intro l
 induction l with
 | nil=>rfl
 | cons x l ih=>show (wS TablesWhole.holds t c s x&&wSs TablesWhole.holds t c s (l++m))=((wS TablesWhole.holds t c s x&&wSs TablesWhole.holds t c s l)&&wSs TablesWhole.holds t c s m);rw [ih,Bool.and_assoc]
theorem iJ {t:Scope} {c:TablesWhole.Ctx} {s:Scope} {b:List Stmt} (n:Nat) (h:wSs TablesWhole.holds t c s (b.take n)=true) (k:wSs TablesWhole.holds t c s (b.drop n)=true):wSs TablesWhole.holds t c s b=true:=by
 have e:=sS (t:=t) (c:=c) (s:=s) (b.drop n) (b.take n)
 rw [List.take_append_drop,h,k] at e
 exact e
theorem ta0:wSs TablesWhole.holds pw_tn0016_01.main.scope ⟨pw_tn0016_01.main.scope,[],[],[],none⟩ pw_tn0016_01.main.scope (pw_tn0016_01.main.body.take 170)=true:=by kernel_rfl
theorem ta1:wSs TablesWhole.holds pw_tn0016_01.main.scope ⟨pw_tn0016_01.main.scope,[],[],[],none⟩ pw_tn0016_01.main.scope ((pw_tn0016_01.main.body.drop 170).take 70)=true:=by kernel_rfl
theorem ta2:wSs TablesWhole.holds pw_tn0016_01.main.scope ⟨pw_tn0016_01.main.scope,[],[],[],none⟩ pw_tn0016_01.main.scope (((pw_tn0016_01.main.body.drop 170).drop 70).take 40)=true:=by kernel_rfl
theorem ta3:wSs TablesWhole.holds pw_tn0016_01.main.scope ⟨pw_tn0016_01.main.scope,[],[],[],none⟩ pw_tn0016_01.main.scope ((((pw_tn0016_01.main.body.drop 170).drop 70).drop 40).take 20)=true:=by kernel_rfl
theorem ta4:wSs TablesWhole.holds pw_tn0016_01.main.scope ⟨pw_tn0016_01.main.scope,[],[],[],none⟩ pw_tn0016_01.main.scope ((((pw_tn0016_01.main.body.drop 170).drop 70).drop 40).drop 20)=true:=by kernel_rfl
theorem tw3:wSs TablesWhole.holds pw_tn0016_01.main.scope ⟨pw_tn0016_01.main.scope,[],[],[],none⟩ pw_tn0016_01.main.scope pw_tn0016_01.main.body=true:=iJ 170 ta0 (iJ 70 ta1 (iJ 40 ta2 (iJ 20 ta3 ta4)))
theorem tw4 (m:Module) (h1:noTwice m.scope=true) (h2:wSs gather m.scope ⟨m.scope,[],[],[],none⟩ m.scope m.body=[]) (h3:wSs TablesWhole.holds m.scope ⟨m.scope,[],[],[],none⟩ m.scope m.body=true):wModule TablesWhole.holds m=true:=by
 unfold wModule
 rw [h2]
 show (true&&(noTwice m.scope&&(wSs TablesWhole.holds m.scope ⟨m.scope,[],[],[],none⟩ m.scope m.body&&true)))=true
 rw [h1,h3];rfl
theorem tw5 (p:Program) (h:wModule TablesWhole.holds p.main=true) (e1:p.modules=[]) (e2:p.parses=[]) (e3:p.harvested=[]):p.tablesWhole=true:=by
 show (wModule TablesWhole.holds p.main&&(Alg.all TablesWhole.holds (p.modules.map fun(_,_,m)=>wModule TablesWhole.holds m)&&(Alg.all TablesWhole.holds (p.parses.map (wParse TablesWhole.holds))&&(Alg.all TablesWhole.holds (p.harvested.map (wParse TablesWhole.holds))&&true))))=true
 rw [h,e1,e2,e3];rfl
end
theorem hbare:rw_tn0016_01.row.prog.bare:=⟨rfl,rfl,rfl,rfl,rfl,tw5 _ (tw4 _ tw1 tw2 tw3) rfl rfl rfl⟩
theorem hprom:rw_tn0016_01.row.toRowW.promised:=⟨[.list []],by kernel_rfl,by kernel_rfl⟩
end Gh
theorem PySem.Challenge.cw_tn0016_01_holds : PySem.Challenge.rw_tn0016_01.Holds :=
 PySem.W.holds_law Gt.ws fun said=>PySem.W.holds_open (Xt:=fun ξ=>true) (XP:=fun ξ ξ=>True) (Yf:=fun s=>s.heap) (Ya:=fun w=>Gt.H1 w.params) (YP:=Gh.YP) Gt.left (fun w s e a o h=>e▸h) (fun w h h' y k a o e=>k _ _ (y a o e)) (fun ξ ξ=>trivial) (fun ξ ξ ξ x ξ=>x) Gh.hdef Gh.hthe Gh.hkw (fun s ξ=>PySem.W.recFacts_nil rfl) rfl said Gh.hok Gh.hbare Gh.hprom Gh.walk
end
