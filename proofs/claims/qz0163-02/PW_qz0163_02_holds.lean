import PyProof.Rows.All
import Wide.All
import OpenK.AllK
import Wide.FinOn
import Open.Tops
import PyProof.ByEvalTree
import PyProof.AutoListH
import PyProof.EqAt
import PyProof.EqKinds
import PyProof.ExcClass
import Lean
import PySem.Challenge.RW_qz0163_02
open PySem PySem.W PySem.W.X PySem.Calls PyProof.Rows
open List (map_append mem_cons mem_map length_map map_cons mem_append mem_append_right mem_append_left count_append not_mem_nil append_nil length_cons count_cons map_map nodup_cons map_nil nodup_append count_nil mem_of_getElem? getElem_mem nil_append length_append flatMap_append flatMap_cons filterMap_cons any_eq_false cons_append getElem?_map mem_flatMap eraseIdx_sublist filter_cons filter_append mem_singleton append_assoc getElem?_append_right getElem?_append_left getElem?_cons_succ findIdx?_cons find?_cons mem_filter length_nil count_pos_iff nodup_iff_count)
open Nat (lt_irrefl lt_of_lt_of_le le_of_ble_eq_true le_refl le_trans le_add_right lt_of_le_of_lt)
set_option Elab.async false
set_option linter.all false
set_option autoImplicit false
set_option maxRecDepth 100000
set_option maxHeartbeats 0
set_option genSizeOf false
set_option genInjectivity false
noncomputable section
namespace Mine
noncomputable def hd (b f:Nat):Nat->List Nat->List Nat:=@Nat.rec (fun _=>Nat->List Nat->List Nat) (fun _ r=>r) (fun _ ih c r=>@Bool.rec (fun _=>List Nat) (Nat.mod c b::ih (Nat.div c b) r) r (Nat.ble c 1)) f
noncomputable def hx (b:Nat) (l:List Nat):List Nat:=@List.rec Nat (fun _=>List Nat) [] (fun c _ ih=>hd b 100 c ih) l
theorem nm {α:Type} {P:α->Prop}:∀x∈([]:List α),P x:=fun _ h=>nomatch h
noncomputable def at1 (l:List Stmt) (n:Nat):Stmt:=@List.rec Stmt (fun _=>Nat->Stmt) (fun _=>.Pass default) (fun a _ ih n=>@Nat.rec (fun _=>Stmt) a (fun n _=>ih n) n) l n
noncomputable def at2 (l:List Stmt)(i j:Nat):Stmt:=match at1 l i with
 | .ClassDef _ _ _ b _ _ _ _ _ _ _=>at1 b j
 | s=>s
noncomputable def cO (o:Obj) (k:List Obj):List Obj:=o::k
noncomputable def oT (l:List Value):Obj:=⟨.type "tuple",none,.seq ⟨l⟩ 0,#[]⟩
noncomputable def oF (l:List Value):Obj:=⟨.none,none,.fields ⟨l⟩,#[]⟩
noncomputable def oG (n:String) (l:List Value):Obj:=⟨.type n,none,.fields ⟨l⟩,#[]⟩
noncomputable def oS (a:Nat):Obj:=⟨.type "super",none,.fields ⟨[.ref a,.ref a,.ref a]⟩,#[]⟩
noncomputable def ents (P:Params) (l:List (Str×Nat×Value)):List DictEntry:=@List.rec (Str×Nat×Value) (fun _=>List DictEntry) [] (fun x _ ih=>⟨PyData.keyHash P x.1,.str x.1 x.2.1,x.2.2⟩::ih) l
noncomputable def oD (P:Params)(ep:Nat) (l:List (Str×Nat×Value)):Obj:=⟨.type "dict",none,.dict ⟨ents P l⟩ ep,#[]⟩
noncomputable def oE (P:Params)(ep:Nat) (l:List (Str×Nat×Value)):Obj:=⟨.none,none,.dict ⟨ents P l⟩ ep,#[]⟩
noncomputable def oR (c n:Nat) (m:Value):Obj:=⟨.type "frame",none,.plain,⟨[some (.ref c),some (.ref 3),some (.ref n),none,some m,none,some (.ref 0)]⟩⟩
noncomputable def oCo (nm q:Str)(t line ar fl a:Nat) (b:Bool)(v1 v2 v3:Value) (k:Nat):Obj:=
 ⟨.type "code",none,.fields ⟨[.str nm t,.str q (t+1),.str "/claim/cut.py" (t+2),.int line 0,.int ar 0,.int 0 0,.int 0 0,.int fl 0,.ref a,.bool b,.int 181 0,.ref (a+1),.none,v1,v2,v3,.int k 0,.int line 0,.str "/claim/cut.py" (k+1)]⟩,#[]⟩
noncomputable def oK (nm:Str)(t line a:Nat):Obj:=oCo nm nm t line 0 0 a false .none .none .none (t+3)
noncomputable def oY (nm:Str)(bs mro:List Value)(ns:Nat)(sub:List Value)(s0:Option Value)(t1 t2:Nat)(nw:String):Obj:=
 ⟨.type "type",none,.cls {name:=nm,bases:=bs,mro:=mro,ns:=ns,qualname:=nm,subclasses:=sub},⟨[s0,none,some (.str nm t1),some (.str nm t2),some (.builtin nw),some (.bool true)]⟩⟩
noncomputable def stName:Stmt->Str
 | .FunctionDef n _ _ _ _ _ _ _ _ _=>n
 | _=>Str.empty
noncomputable def fnD (st:Stmt) (q:Str)(gl:Nat)(df md code:Value):Data:=match st with
 | .FunctionDef n ps b _ _ _ sc _ _ _=>.func {name:=n,qualname:=q,params:=ps,body:=.stmts b,scope:=sc,globals:=gl,closure:=[],defaults:=df,kwdefaults:=.none,pyModule:=md,code:=code}
 | _=>.plain
noncomputable def strz (l:List Str) (t:Nat):List Value:=@List.rec Str (fun _=>Nat->List Value) (fun _=>[]) (fun x _ ih t=>.str x t::ih (t+1)) l t
noncomputable def lenS (l:List Str):Nat:=@List.rec Str (fun _=>Nat) 0 (fun _ _ ih=>ih+1) l
noncomputable def fn5 (n t:Nat)(st:Stmt) (q:Str)(line ar:Nat)(md df:Value)(fl:List Value) (k:List Obj):List Obj:=
 oT []::oF fl::⟨.none,none,fnD st q 0 .none .none .none,#[]⟩::oCo (stName st) q t line ar 3 n true .none .none (.ref (n+2)) (t+3)::
  ⟨.type "function",none,fnD st q 3 df md (.ref (n+3)),#[]⟩::k
noncomputable def fn7 (n t:Nat)(st:Stmt) (q:Str)(line ar:Nat)(md df:Value)(fl:List Value)(xs ys:List Str) (k:List Obj):List Obj:=
 oT []::oF fl::oT (strz xs (t+3))::oT (strz ys (t+3+lenS xs))::⟨.none,none,fnD st q 0 .none .none .none,#[]⟩::
  oCo (stName st) q t line ar 3 n true (.ref (n+2)) (.ref (n+3)) (.ref (n+4)) (t+3+lenS xs+lenS ys)::
  ⟨.type "function",none,fnD st q 3 df md (.ref (n+5)),#[]⟩::k
noncomputable def alt (l:List Obj):Bool->List Obj:=@List.rec Obj (fun _=>Bool->List Obj) (fun _=>[]) (fun x _ ih b=>@Bool.rec (fun _=>List Obj) (ih true) (x::ih false) b) l
noncomputable def mkBT (n:Nat):List Obj->BT:=@Nat.rec (fun _=>List Obj->BT) (fun _=>.nil)
 (fun _ ih l=>@List.rec Obj (fun _=>BT) .nil (fun x r _=>.node x (ih (alt r true)) (ih (alt r false))) l) n
noncomputable def takeO (l:List Obj):Nat->List Obj:=@List.rec Obj (fun _=>Nat->List Obj) (fun _=>[]) (fun a _ ih n=>@Nat.rec (fun _=>List Obj) [] (fun n _=>a::ih n) n) l
noncomputable def top0 (n:Nat) (t:BT)(tk:Nat)(os:OsState):SharedT:={tree:=t,n:=n,life:={},gens:={toList:=[]},drawn:={},toks:=tk,os:=os}
noncomputable def lawEnv (sc:Scope):Env:={scope:=sc,locals:=mainNs,globals:=mainNs,cells:=[],code:=.ref 13,frame:=some 14}
noncomputable abbrev b2:List Stmt:=PySem.Challenge.pw_qz0163_02.main.body
noncomputable abbrev R02:OpenRow:=PySem.Challenge.rw_qz0163_02.row
noncomputable abbrev P02:Program:=R02.toRowW.prog
noncomputable def env2:Env:=lawEnv P02.main.scope
abbrev m2_0:Value:=.str "__main__" 164
abbrev m2_1:Value:=.str "thinstack.errors" 194
abbrev m2_2:Value:=.str "thinstack.ports" 305
abbrev m2_3:Value:=.str "thinstack.sequence" 391
abbrev m2_4:Value:=.str "thinstack.acks" 439
abbrev m2_5:Value:=.str "thinstack.congestion" 512
abbrev m2_6:Value:=.str "thinstack.retransmit" 631
abbrev m2_7:Value:=.str "thinstack.rtt" 734
abbrev m2_8:Value:=.str "thinstack.send_queue" 810
abbrev m2_9:Value:=.str "thinstack.sender" 882
abbrev m2_10:Value:=.str "thinstack.octets" 1183
abbrev m2_11:Value:=.str "thinstack.tcp_segment" 1192
abbrev m2_12:Value:=.str "thinstack.tcp_states" 1295
abbrev m2_13:Value:=.str "thinstack.wheel" 1354
abbrev m2_14:Value:=.str "thinstack.tcb" 1448
abbrev m2_15:Value:=.str "thinstack.tcp_user" 1581
abbrev m2_16:Value:=.str "thinstack.tcp_input" 1728
abbrev m2_17:Value:=.str "thinstack.tcp_table" 1741
abbrev m2_18:Value:=.str "thinstack.tcp_sockets" 1821
abbrev m2_19:Value:=.str "law_qz0163_02" 2197
noncomputable def o2_0 (P:Params)(x12:Obj) (k:List Obj):List Obj:=
 cO (oT []) <|
 cO (x12) <|
 cO (oK "<module>" 182 1 11) <|
 cO (oR 13 3 m2_0) <|
 fn7 15 187 (at1 b2 0) "_wall" 1 1 m2_0 (.none) [] ["k"] [] <|
 cO (oT [.type "Exception"]) <|
 cO (oG "builtin_function_or_method" [.builtin "type.__prepare__",.type "type"]) <|
 cO (oD P 5 [("__module__",203,m2_1),("__qualname__",205,.str "StackError" 204),("__firstlineno__",207,.int 5 206),("__init__",215,.ref 35),("__static_attributes__",217,.ref 36)]) <|
 cO (oT []) <|
 cO (oF [.int 7 0,.int 4 0,.ref 34]) <|
 cO (oK "StackError" 198 5 25) <|
 cO (oR 27 24 m2_1) <|
 fn7 29 208 (at2 b2 2 0) "StackError.__init__" 7 2 m2_1 (.none) [] ["self","message"] [] <|
 cO (oT [.str "message" 216]) <|
 cO (oD P 3 [("__module__",203,m2_1),("__firstlineno__",207,.int 5 206),("__init__",215,.ref 35),("__static_attributes__",217,.ref 36),("__weakref__",219,.ref 39),("__doc__",220,.none)]) <|
 cO (oY "StackError" [.type "Exception"] [.ref 38,.type "Exception",.type "BaseException",.type "object"] 37 [.ref 51,.ref 63,.ref 75,.ref 87,.ref 99] (some (.ref 22)) 196 204 "Exception.__new__") <|
 cO (oG "getset_descriptor" [.str "__weakref__" 218,.ref 38,.builtin "ExceptionGroup.__weakref__",.none]) <|
 cO (oS 38) <|
 cO (oG "builtin_function_or_method" [.builtin "object.__init_subclass__",.ref 38]) <|
 cO (oT [.ref 38]) <|
 cO (oG "builtin_function_or_method" [.builtin "type.__prepare__",.type "type"]) <|
 cO (oD P 4 [("__module__",232,m2_1),("__qualname__",234,.str "SizeError" 233),("__firstlineno__",236,.int 9 235),("__static_attributes__",237,.ref 49)]) <|
 cO (oT []) <|
 cO (oF []) <|
 cO (oK "SizeError" 227 9 45) <|
 cO (oR 47 44 m2_1) <|
 cO (oT []) <|
 cO (oD P 2 [("__module__",232,m2_1),("__firstlineno__",236,.int 9 235),("__static_attributes__",237,.ref 49),("__doc__",238,.none)]) <|
 cO (oY "SizeError" [.ref 38] [.ref 51,.ref 38,.type "Exception",.type "BaseException",.type "object"] 50 [] (some (.ref 42)) 225 233 "Exception.__new__") <|
 cO (oS 51) <|
 cO (oG "builtin_function_or_method" [.builtin "object.__init_subclass__",.ref 51]) <|
 cO (oT [.ref 38]) <|
 cO (oG "builtin_function_or_method" [.builtin "type.__prepare__",.type "type"]) <|
 cO (oD P 4 [("__module__",248,m2_1),("__qualname__",250,.str "PortError" 249),("__firstlineno__",252,.int 11 251),("__static_attributes__",253,.ref 61)]) <|
 cO (oT []) <|
 cO (oF []) <|
 cO (oK "PortError" 243 11 57) <|
 cO (oR 59 56 m2_1) <|
 cO (oT []) <|
 cO (oD P 2 [("__module__",248,m2_1),("__firstlineno__",252,.int 11 251),("__static_attributes__",253,.ref 61),("__doc__",254,.none)]) <|
 k
noncomputable def o2_1 (P:Params) (k:List Obj):List Obj:=
 cO (oY "PortError" [.ref 38] [.ref 63,.ref 38,.type "Exception",.type "BaseException",.type "object"] 62 [] (some (.ref 54)) 241 249 "Exception.__new__") <|
 cO (oS 63) <|
 cO (oG "builtin_function_or_method" [.builtin "object.__init_subclass__",.ref 63]) <|
 cO (oT [.ref 38]) <|
 cO (oG "builtin_function_or_method" [.builtin "type.__prepare__",.type "type"]) <|
 cO (oD P 4 [("__module__",264,m2_1),("__qualname__",266,.str "StateError" 265),("__firstlineno__",268,.int 13 267),("__static_attributes__",269,.ref 73)]) <|
 cO (oT []) <|
 cO (oF []) <|
 cO (oK "StateError" 259 13 69) <|
 cO (oR 71 68 m2_1) <|
 cO (oT []) <|
 cO (oD P 2 [("__module__",264,m2_1),("__firstlineno__",268,.int 13 267),("__static_attributes__",269,.ref 73),("__doc__",270,.none)]) <|
 cO (oY "StateError" [.ref 38] [.ref 75,.ref 38,.type "Exception",.type "BaseException",.type "object"] 74 [] (some (.ref 66)) 257 265 "Exception.__new__") <|
 cO (oS 75) <|
 cO (oG "builtin_function_or_method" [.builtin "object.__init_subclass__",.ref 75]) <|
 cO (oT [.ref 38]) <|
 cO (oG "builtin_function_or_method" [.builtin "type.__prepare__",.type "type"]) <|
 cO (oD P 4 [("__module__",280,m2_1),("__qualname__",282,.str "ResetError" 281),("__firstlineno__",284,.int 15 283),("__static_attributes__",285,.ref 85)]) <|
 cO (oT []) <|
 cO (oF []) <|
 cO (oK "ResetError" 275 15 81) <|
 cO (oR 83 80 m2_1) <|
 cO (oT []) <|
 cO (oD P 2 [("__module__",280,m2_1),("__firstlineno__",284,.int 15 283),("__static_attributes__",285,.ref 85),("__doc__",286,.none)]) <|
 cO (oY "ResetError" [.ref 38] [.ref 87,.ref 38,.type "Exception",.type "BaseException",.type "object"] 86 [] (some (.ref 78)) 273 281 "Exception.__new__") <|
 cO (oS 87) <|
 cO (oG "builtin_function_or_method" [.builtin "object.__init_subclass__",.ref 87]) <|
 cO (oT [.ref 38]) <|
 cO (oG "builtin_function_or_method" [.builtin "type.__prepare__",.type "type"]) <|
 cO (oD P 4 [("__module__",296,m2_1),("__qualname__",298,.str "TimedOutError" 297),("__firstlineno__",300,.int 17 299),("__static_attributes__",301,.ref 97)]) <|
 cO (oT []) <|
 cO (oF []) <|
 cO (oK "TimedOutError" 291 17 93) <|
 cO (oR 95 92 m2_1) <|
 cO (oT []) <|
 cO (oD P 2 [("__module__",296,m2_1),("__firstlineno__",300,.int 17 299),("__static_attributes__",301,.ref 97),("__doc__",302,.none)]) <|
 cO (oY "TimedOutError" [.ref 38] [.ref 99,.ref 38,.type "Exception",.type "BaseException",.type "object"] 98 [] (some (.ref 90)) 289 297 "Exception.__new__") <|
 cO (oS 99) <|
 cO (oG "builtin_function_or_method" [.builtin "object.__init_subclass__",.ref 99]) <|
 fn7 102 309 (at1 b2 10) "want_port" 21 1 m2_2 (.none) [] ["number"] [] <|
 k
noncomputable def o2_2 (P:Params) (k:List Obj):List Obj:=
 cO (oT []) <|
 cO (oG "builtin_function_or_method" [.builtin "type.__prepare__",.type "type"]) <|
 cO (oD P 10 [("__module__",323,m2_2),("__qualname__",325,.str "Ports" 324),("__firstlineno__",327,.int 24 326),("__init__",336,.ref 122),("is_taken",344,.ref 129),("take",353,.ref 137),("next_free",362,.ref 144),("behind",370,.ref 151),("free",378,.ref 158),("__static_attributes__",383,.ref 159)]) <|
 cO (oT []) <|
 cO (oF [.int 26 0,.int 4 0,.ref 121,.int 34 0,.int 4 0,.ref 128,.int 37 0,.int 4 0,.ref 136,.int 47 0,.int 4 0,.ref 143,.int 56 0,.int 4 0,.ref 150,.int 59 0,.int 4 0,.ref 157]) <|
 cO (oK "Ports" 318 24 112) <|
 cO (oR 114 111 m2_2) <|
 fn7 116 328 (at2 b2 11 0) "Ports.__init__" 26 3 m2_2 (.none) [] ["self","first","last"] [] <|
 fn7 123 337 (at2 b2 11 1) "Ports.is_taken" 34 2 m2_2 (.none) [] ["self","number"] [] <|
 cO (oT [.int 0 345]) <|
 fn7 131 346 (at2 b2 11 2) "Ports.take" 37 2 m2_2 (.ref 130) [] ["self","number"] [] <|
 fn7 138 354 (at2 b2 11 3) "Ports.next_free" 47 1 m2_2 (.none) [] ["self","number","turn"] [] <|
 fn7 145 363 (at2 b2 11 4) "Ports.behind" 56 2 m2_2 (.none) [] ["self","number"] [] <|
 fn7 152 371 (at2 b2 11 5) "Ports.free" 59 2 m2_2 (.none) [] ["self","number"] [] <|
 cO (oT [.str "first" 379,.str "following" 380,.str "last" 381,.str "taken" 382]) <|
 cO (oD P 4 [("__module__",323,m2_2),("__firstlineno__",327,.int 24 326),("__init__",336,.ref 122),("is_taken",344,.ref 129),("take",353,.ref 137),("next_free",362,.ref 144),("behind",370,.ref 151),("free",378,.ref 158),("__static_attributes__",383,.ref 159),("__dict__",385,.ref 162),("__weakref__",387,.ref 163),("__doc__",388,.none)]) <|
 cO (oY "Ports" [.type "object"] [.ref 161,.type "object"] 160 [] (.none) 316 324 "object.__new__") <|
 cO (oG "getset_descriptor" [.str "__dict__" 384,.ref 161,.builtin "function.__dict__",.builtin "function.__dict__#set"]) <|
 cO (oG "getset_descriptor" [.str "__weakref__" 386,.ref 161,.builtin "ExceptionGroup.__weakref__",.none]) <|
 cO (oS 161) <|
 cO (oG "builtin_function_or_method" [.builtin "object.__init_subclass__",.ref 161]) <|
 fn7 166 393 (at1 b2 13) "plus" 64 3 m2_3 (.none) [] ["a","n","ring"] [] <|
 fn7 173 402 (at1 b2 14) "distance" 66 3 m2_3 (.none) [] ["a","b","ring"] [] <|
 fn7 180 411 (at1 b2 15) "is_before" 68 3 m2_3 (.none) [] ["a","b","ring","gap"] [] <|
 fn7 187 421 (at1 b2 16) "is_at_most" 71 3 m2_3 (.none) [] ["a","b","ring"] [] <|
 fn7 194 430 (at1 b2 17) "latest" 73 3 m2_3 (.none) [] ["a","b","ring"] [] <|
 cO (oT []) <|
 cO (oG "builtin_function_or_method" [.builtin "type.__prepare__",.type "type"]) <|
 cO (oD P 10 [("__module__",448,m2_4),("__qualname__",450,.str "AckPolicy" 449),("__firstlineno__",452,.int 76 451),("__init__",460,.ref 214),("on_octets",470,.ref 222),("at_once",477,.ref 229),("is_due",485,.ref 236),("on_sent",492,.ref 243),("due_time",499,.ref 250),("__static_attributes__",504,.ref 251)]) <|
 cO (oT []) <|
 cO (oF [.int 78 0,.int 4 0,.ref 213,.int 84 0,.int 4 0,.ref 221,.int 87 0,.int 4 0,.ref 228,.int 90 0,.int 4 0,.ref 235,.int 93 0,.int 4 0,.ref 242,.int 97 0,.int 4 0,.ref 249]) <|
 cO (oK "AckPolicy" 443 76 204) <|
 cO (oR 206 203 m2_4) <|
 fn7 208 453 (at2 b2 19 0) "AckPolicy.__init__" 78 2 m2_4 (.none) [] ["self","delay"] [] <|
 cO (oT [.bool false]) <|
 fn7 216 461 (at2 b2 19 1) "AckPolicy.on_octets" 84 4 m2_4 (.ref 215) [] ["self","in_order","now","has_holes"] [] <|
 fn7 223 471 (at2 b2 19 2) "AckPolicy.at_once" 87 1 m2_4 (.none) [] ["self"] [] <|
 fn7 230 478 (at2 b2 19 3) "AckPolicy.is_due" 90 2 m2_4 (.none) [] ["self","now"] [] <|
 fn7 237 486 (at2 b2 19 4) "AckPolicy.on_sent" 93 1 m2_4 (.none) [] ["self"] [] <|
 fn7 244 493 (at2 b2 19 5) "AckPolicy.due_time" 97 1 m2_4 (.none) [] ["self"] [] <|
 k
noncomputable def o2_3 (P:Params) (k:List Obj):List Obj:=
 cO (oT [.str "delay" 500,.str "due" 501,.str "has_gap" 502,.str "waiting" 503]) <|
 cO (oD P 4 [("__module__",448,m2_4),("__firstlineno__",452,.int 76 451),("__init__",460,.ref 214),("on_octets",470,.ref 222),("at_once",477,.ref 229),("is_due",485,.ref 236),("on_sent",492,.ref 243),("due_time",499,.ref 250),("__static_attributes__",504,.ref 251),("__dict__",506,.ref 254),("__weakref__",508,.ref 255),("__doc__",509,.none)]) <|
 cO (oY "AckPolicy" [.type "object"] [.ref 253,.type "object"] 252 [] (.none) 441 449 "object.__new__") <|
 cO (oG "getset_descriptor" [.str "__dict__" 505,.ref 253,.builtin "function.__dict__",.builtin "function.__dict__#set"]) <|
 cO (oG "getset_descriptor" [.str "__weakref__" 507,.ref 253,.builtin "ExceptionGroup.__weakref__",.none]) <|
 cO (oS 253) <|
 cO (oG "builtin_function_or_method" [.builtin "object.__init_subclass__",.ref 253]) <|
 cO (oT []) <|
 cO (oG "builtin_function_or_method" [.builtin "type.__prepare__",.type "type"]) <|
 cO (oD P 15 [("__module__",521,m2_5),("__qualname__",523,.str "Congestion" 522),("__firstlineno__",525,.int 100 524),("__init__",535,.ref 271),("window",542,.ref 278),("told_mss",550,.ref 285),("grow",558,.ref 292),("halved",566,.ref 299),("acked",574,.ref 306),("slow_start",583,.ref 313),("avoid",591,.ref 320),("duplicate",599,.ref 327),("recovered",606,.ref 334),("timed_out",614,.ref 341),("__static_attributes__",623,.ref 342)]) <|
 cO (oT []) <|
 cO (oF [.int 102 0,.int 4 0,.ref 270,.int 112 0,.int 4 0,.ref 277,.int 115 0,.int 4 0,.ref 284,.int 118 0,.int 4 0,.ref 291,.int 123 0,.int 4 0,.ref 298,.int 126 0,.int 4 0,.ref 305,.int 136 0,.int 4 0,.ref 312,.int 142 0,.int 4 0,.ref 319,.int 148 0,.int 4 0,.ref 326,.int 151 0,.int 4 0,.ref 333,.int 158 0,.int 4 0,.ref 340]) <|
 cO (oK "Congestion" 516 100 261) <|
 cO (oR 263 260 m2_5) <|
 fn7 265 526 (at2 b2 21 0) "Congestion.__init__" 102 4 m2_5 (.none) [] ["self","mss","first","most"] [] <|
 fn7 272 536 (at2 b2 21 1) "Congestion.window" 112 1 m2_5 (.none) [] ["self"] [] <|
 fn7 279 543 (at2 b2 21 2) "Congestion.told_mss" 115 2 m2_5 (.none) [] ["self","mss"] [] <|
 fn7 286 551 (at2 b2 21 3) "Congestion.grow" 118 2 m2_5 (.none) [] ["self","octets"] [] <|
 fn7 293 559 (at2 b2 21 4) "Congestion.halved" 123 2 m2_5 (.none) [] ["self","flight"] [] <|
 fn7 300 567 (at2 b2 21 5) "Congestion.acked" 126 2 m2_5 (.none) [] ["self","octets"] [] <|
 fn7 307 575 (at2 b2 21 6) "Congestion.slow_start" 136 2 m2_5 (.none) [] ["self","octets","most"] [] <|
 fn7 314 584 (at2 b2 21 7) "Congestion.avoid" 142 2 m2_5 (.none) [] ["self","octets"] [] <|
 fn7 321 592 (at2 b2 21 8) "Congestion.duplicate" 148 2 m2_5 (.none) [] ["self","flight"] [] <|
 fn7 328 600 (at2 b2 21 9) "Congestion.recovered" 151 1 m2_5 (.none) [] ["self"] [] <|
 fn7 335 607 (at2 b2 21 10) "Congestion.timed_out" 158 2 m2_5 (.none) [] ["self","flight"] [] <|
 cO (oT [.str "duplicates" 615,.str "gathered" 616,.str "is_cautious" 617,.str "is_recovering" 618,.str "most" 619,.str "mss" 620,.str "size" 621,.str "threshold" 622]) <|
 cO (oD P 4 [("__module__",521,m2_5),("__firstlineno__",525,.int 100 524),("__init__",535,.ref 271),("window",542,.ref 278),("told_mss",550,.ref 285),("grow",558,.ref 292),("halved",566,.ref 299),("acked",574,.ref 306),("slow_start",583,.ref 313),("avoid",591,.ref 320),("duplicate",599,.ref 327),("recovered",606,.ref 334),("timed_out",614,.ref 341),("__static_attributes__",623,.ref 342),("__dict__",625,.ref 345),("__weakref__",627,.ref 346),("__doc__",628,.none)]) <|
 cO (oY "Congestion" [.type "object"] [.ref 344,.type "object"] 343 [] (.none) 514 522 "object.__new__") <|
 cO (oG "getset_descriptor" [.str "__dict__" 624,.ref 344,.builtin "function.__dict__",.builtin "function.__dict__#set"]) <|
 cO (oG "getset_descriptor" [.str "__weakref__" 626,.ref 344,.builtin "ExceptionGroup.__weakref__",.none]) <|
 cO (oS 344) <|
 cO (oG "builtin_function_or_method" [.builtin "object.__init_subclass__",.ref 344]) <|
 cO (oT []) <|
 cO (oG "builtin_function_or_method" [.builtin "type.__prepare__",.type "type"]) <|
 cO (oD P 13 [("__module__",642,m2_6),("__qualname__",644,.str "RetransmitClock" 643),("__firstlineno__",646,.int 162 645),("__init__",655,.ref 362),("is_timing",662,.ref 369),("sent",671,.ref 376),("forget",678,.ref 383),("acked",689,.ref 390),("back_off",696,.ref 397),("reset_tries",703,.ref 404),("waited",712,.ref 411),("deadline",720,.ref 418),("__static_attributes__",726,.ref 419)]) <|
 cO (oT []) <|
 cO (oF [.int 164 0,.int 4 0,.ref 361,.int 171 0,.int 4 0,.ref 368,.int 174 0,.int 4 0,.ref 375,.int 179 0,.int 4 0,.ref 382,.int 182 0,.int 4 0,.ref 389,.int 191 0,.int 4 0,.ref 396,.int 194 0,.int 4 0,.ref 403,.int 197 0,.int 4 0,.ref 410,.int 203 0,.int 4 0,.ref 417]) <|
 cO (oK "RetransmitClock" 637 162 352) <|
 cO (oR 354 351 m2_6) <|
 fn7 356 647 (at2 b2 24 0) "RetransmitClock.__init__" 164 3 m2_6 (.none) [] ["self","estimate","most_tries"] [] <|
 k
noncomputable def o2_4 (P:Params) (k:List Obj):List Obj:=
 fn7 363 656 (at2 b2 24 1) "RetransmitClock.is_timing" 171 1 m2_6 (.none) [] ["self"] [] <|
 fn7 370 663 (at2 b2 24 2) "RetransmitClock.sent" 174 3 m2_6 (.none) [] ["self","seq_end","now"] [] <|
 fn7 377 672 (at2 b2 24 3) "RetransmitClock.forget" 179 1 m2_6 (.none) [] ["self"] [] <|
 fn7 384 679 (at2 b2 24 4) "RetransmitClock.acked" 182 4 m2_6 (.none) [] ["self","ack","now","ring","measured"] [] <|
 fn7 391 690 (at2 b2 24 5) "RetransmitClock.back_off" 191 1 m2_6 (.none) [] ["self"] [] <|
 fn7 398 697 (at2 b2 24 6) "RetransmitClock.reset_tries" 194 1 m2_6 (.none) [] ["self"] [] <|
 fn7 405 704 (at2 b2 24 7) "RetransmitClock.waited" 197 1 m2_6 (.none) [] ["self","ticks","turn"] [] <|
 fn7 412 713 (at2 b2 24 8) "RetransmitClock.deadline" 203 2 m2_6 (.none) [] ["self","now"] [] <|
 cO (oT [.str "estimate" 721,.str "most_tries" 722,.str "timed_at" 723,.str "timed_end" 724,.str "tries" 725]) <|
 cO (oD P 4 [("__module__",642,m2_6),("__firstlineno__",646,.int 162 645),("__init__",655,.ref 362),("is_timing",662,.ref 369),("sent",671,.ref 376),("forget",678,.ref 383),("acked",689,.ref 390),("back_off",696,.ref 397),("reset_tries",703,.ref 404),("waited",712,.ref 411),("deadline",720,.ref 418),("__static_attributes__",726,.ref 419),("__dict__",728,.ref 422),("__weakref__",730,.ref 423),("__doc__",731,.none)]) <|
 cO (oY "RetransmitClock" [.type "object"] [.ref 421,.type "object"] 420 [] (.none) 635 643 "object.__new__") <|
 cO (oG "getset_descriptor" [.str "__dict__" 727,.ref 421,.builtin "function.__dict__",.builtin "function.__dict__#set"]) <|
 cO (oG "getset_descriptor" [.str "__weakref__" 729,.ref 421,.builtin "ExceptionGroup.__weakref__",.none]) <|
 cO (oS 421) <|
 cO (oG "builtin_function_or_method" [.builtin "object.__init_subclass__",.ref 421]) <|
 cO (oT []) <|
 cO (oG "builtin_function_or_method" [.builtin "type.__prepare__",.type "type"]) <|
 cO (oD P 10 [("__module__",743,m2_7),("__qualname__",745,.str "RttEstimate" 744),("__firstlineno__",747,.int 206 746),("__init__",757,.ref 439),("sample",766,.ref 446),("mean",773,.ref 453),("plain_timeout",780,.ref 460),("timeout",787,.ref 467),("bounded",795,.ref 474),("__static_attributes__",802,.ref 475)]) <|
 cO (oT []) <|
 cO (oF [.int 208 0,.int 4 0,.ref 438,.int 216 0,.int 4 0,.ref 445,.int 228 0,.int 4 0,.ref 452,.int 231 0,.int 4 0,.ref 459,.int 236 0,.int 4 0,.ref 466,.int 239 0,.int 4 0,.ref 473]) <|
 cO (oK "RttEstimate" 738 206 429) <|
 cO (oR 431 428 m2_7) <|
 fn7 433 748 (at2 b2 26 0) "RttEstimate.__init__" 208 4 m2_7 (.none) [] ["self","first","least","most"] [] <|
 fn7 440 758 (at2 b2 26 1) "RttEstimate.sample" 216 2 m2_7 (.none) [] ["self","measured","apart"] [] <|
 fn7 447 767 (at2 b2 26 2) "RttEstimate.mean" 228 1 m2_7 (.none) [] ["self"] [] <|
 fn7 454 774 (at2 b2 26 3) "RttEstimate.plain_timeout" 231 1 m2_7 (.none) [] ["self"] [] <|
 fn7 461 781 (at2 b2 26 4) "RttEstimate.timeout" 236 1 m2_7 (.none) [] ["self"] [] <|
 fn7 468 788 (at2 b2 26 5) "RttEstimate.bounded" 239 2 m2_7 (.none) [] ["self","ticks"] [] <|
 cO (oT [.str "first" 796,.str "least" 797,.str "mean8" 798,.str "measured" 799,.str "most" 800,.str "spread4" 801]) <|
 cO (oD P 4 [("__module__",743,m2_7),("__firstlineno__",747,.int 206 746),("__init__",757,.ref 439),("sample",766,.ref 446),("mean",773,.ref 453),("plain_timeout",780,.ref 460),("timeout",787,.ref 467),("bounded",795,.ref 474),("__static_attributes__",802,.ref 475),("__dict__",804,.ref 478),("__weakref__",806,.ref 479),("__doc__",807,.none)]) <|
 cO (oY "RttEstimate" [.type "object"] [.ref 477,.type "object"] 476 [] (.none) 736 744 "object.__new__") <|
 cO (oG "getset_descriptor" [.str "__dict__" 803,.ref 477,.builtin "function.__dict__",.builtin "function.__dict__#set"]) <|
 cO (oG "getset_descriptor" [.str "__weakref__" 805,.ref 477,.builtin "ExceptionGroup.__weakref__",.none]) <|
 cO (oS 477) <|
 cO (oG "builtin_function_or_method" [.builtin "object.__init_subclass__",.ref 477]) <|
 cO (oT []) <|
 cO (oG "builtin_function_or_method" [.builtin "type.__prepare__",.type "type"]) <|
 cO (oD P 10 [("__module__",819,m2_8),("__qualname__",821,.str "SendQueue" 820),("__firstlineno__",823,.int 244 822),("__init__",831,.ref 495),("size",838,.ref 502),("room_left",845,.ref 509),("put",854,.ref 516),("part",863,.ref 523),("drop",871,.ref 530),("__static_attributes__",874,.ref 531)]) <|
 cO (oT []) <|
 cO (oF [.int 246 0,.int 4 0,.ref 494,.int 252 0,.int 4 0,.ref 501,.int 255 0,.int 4 0,.ref 508,.int 258 0,.int 4 0,.ref 515,.int 263 0,.int 4 0,.ref 522,.int 268 0,.int 4 0,.ref 529]) <|
 k
noncomputable def o2_5 (P:Params) (k:List Obj):List Obj:=
 cO (oK "SendQueue" 814 244 485) <|
 cO (oR 487 484 m2_8) <|
 fn7 489 824 (at2 b2 28 0) "SendQueue.__init__" 246 2 m2_8 (.none) [] ["self","room"] [] <|
 fn7 496 832 (at2 b2 28 1) "SendQueue.size" 252 1 m2_8 (.none) [] ["self"] [] <|
 fn7 503 839 (at2 b2 28 2) "SendQueue.room_left" 255 1 m2_8 (.none) [] ["self"] [] <|
 fn7 510 846 (at2 b2 28 3) "SendQueue.put" 258 2 m2_8 (.none) [] ["self","octets","taken"] [] <|
 fn7 517 855 (at2 b2 28 4) "SendQueue.part" 263 3 m2_8 (.none) [] ["self","at","many"] [] <|
 fn7 524 864 (at2 b2 28 5) "SendQueue.drop" 268 2 m2_8 (.none) [] ["self","many"] [] <|
 cO (oT [.str "held" 872,.str "room" 873]) <|
 cO (oD P 4 [("__module__",819,m2_8),("__firstlineno__",823,.int 244 822),("__init__",831,.ref 495),("size",838,.ref 502),("room_left",845,.ref 509),("put",854,.ref 516),("part",863,.ref 523),("drop",871,.ref 530),("__static_attributes__",874,.ref 531),("__dict__",876,.ref 534),("__weakref__",878,.ref 535),("__doc__",879,.none)]) <|
 cO (oY "SendQueue" [.type "object"] [.ref 533,.type "object"] 532 [] (.none) 812 820 "object.__new__") <|
 cO (oG "getset_descriptor" [.str "__dict__" 875,.ref 533,.builtin "function.__dict__",.builtin "function.__dict__#set"]) <|
 cO (oG "getset_descriptor" [.str "__weakref__" 877,.ref 533,.builtin "ExceptionGroup.__weakref__",.none]) <|
 cO (oS 533) <|
 cO (oG "builtin_function_or_method" [.builtin "object.__init_subclass__",.ref 533]) <|
 cO (oT []) <|
 cO (oG "builtin_function_or_method" [.builtin "type.__prepare__",.type "type"]) <|
 cO (oD P 8 [("__module__",891,m2_9),("__qualname__",893,.str "PeerWindow" 892),("__firstlineno__",895,.int 273 894),("__init__",903,.ref 551),("is_newer",913,.ref 558),("take",923,.ref 565),("keep_edge",931,.ref 572),("__static_attributes__",937,.ref 573)]) <|
 cO (oT []) <|
 cO (oF [.int 275 0,.int 4 0,.ref 550,.int 282 0,.int 4 0,.ref 557,.int 290 0,.int 4 0,.ref 564,.int 299 0,.int 4 0,.ref 571]) <|
 cO (oK "PeerWindow" 886 273 541) <|
 cO (oR 543 540 m2_9) <|
 fn7 545 896 (at2 b2 30 0) "PeerWindow.__init__" 275 2 m2_9 (.none) [] ["self","ring"] [] <|
 fn7 552 904 (at2 b2 30 1) "PeerWindow.is_newer" 282 3 m2_9 (.none) [] ["self","seq","ack","ahead"] [] <|
 fn7 559 914 (at2 b2 30 2) "PeerWindow.take" 290 4 m2_9 (.none) [] ["self","seq","ack","size"] [] <|
 fn7 566 924 (at2 b2 30 3) "PeerWindow.keep_edge" 299 2 m2_9 (.none) [] ["self","many"] [] <|
 cO (oT [.str "most" 932,.str "ring" 933,.str "size" 934,.str "told_ack" 935,.str "told_seq" 936]) <|
 cO (oD P 4 [("__module__",891,m2_9),("__firstlineno__",895,.int 273 894),("__init__",903,.ref 551),("is_newer",913,.ref 558),("take",923,.ref 565),("keep_edge",931,.ref 572),("__static_attributes__",937,.ref 573),("__dict__",939,.ref 576),("__weakref__",941,.ref 577),("__doc__",942,.none)]) <|
 cO (oY "PeerWindow" [.type "object"] [.ref 575,.type "object"] 574 [] (.none) 884 892 "object.__new__") <|
 cO (oG "getset_descriptor" [.str "__dict__" 938,.ref 575,.builtin "function.__dict__",.builtin "function.__dict__#set"]) <|
 cO (oG "getset_descriptor" [.str "__weakref__" 940,.ref 575,.builtin "ExceptionGroup.__weakref__",.none]) <|
 cO (oS 575) <|
 cO (oG "builtin_function_or_method" [.builtin "object.__init_subclass__",.ref 575]) <|
 cO (oT []) <|
 cO (oG "builtin_function_or_method" [.builtin "type.__prepare__",.type "type"]) <|
 cO (oD P 29 [("__module__",952,m2_9),("__qualname__",954,.str "Sender" 953),("__firstlineno__",956,.int 301 955),("__init__",967,.ref 593),("window",975,.ref 601),("take_window",985,.ref 608),("put",993,.ref 615),("ask_fin",1000,.ref 622),("flight",1007,.ref 629),("usable",1015,.ref 636),("data_sent",1022,.ref 643),("unsent",1029,.ref 650),("is_fin_due",1037,.ref 657),("is_fin_acked",1044,.ref 664),("is_all_acked",1051,.ref 671),("go_on",1059,.ref 678),("start",1066,.ref 685),("may_go",1075,.ref 692),("pieces",1086,.ref 700),("piece_of",1099,.ref 707),("ever_sent",1106,.ref 714),("first_piece",1113,.ref 721),("reach",1121,.ref 728),("back_to",1129,.ref 735),("is_idle_with_more",1136,.ref 742),("needs_probe",1144,.ref 749),("probe",1151,.ref 756),("acked",1163,.ref 763),("__static_attributes__",1175,.ref 764)]) <|
 cO (oT []) <|
 cO (oF (.int 303 0::.int 4 0::.ref 592::.int 317 0::.int 4 0::.ref 599::.int 320 0::.int 4 0::.ref 607::.int 323 0::.int 4 0::.ref 614::.int 328 0::.int 4 0::.ref 621::.int 331 0::.int 4 0::.ref 628::.int 334 0::.int 4 0::.ref 635::.int 337 0::.int 4 0::.ref 642::.int 340 0::.int 4 0::.ref 649::.int 343 0::.int 4 0::.ref 656::.int 347 0::.int 4 0::.ref 663::.int 350 0::.int 4 0::.ref 670::.int 353 0::.int 4 0::.ref 677::.int 357 0::.int 4 0::.ref 684::.int 364 0::.int 4 0::.ref 691::.int 371 0::.int 4 0::.ref 699::.int 386 0::.int 4 0::.ref 706::.int 395 0::.int 4 0::.ref 713::.int 398 0::.int 4 0::.ref 720::.int 401 0::.int 4 0::.ref 727::.int 404 0::.int 4 0::.ref 734::.int 407 0::.int 4 0::.ref 741::.int 412 0::.int 4 0::.ref 748::.int 420 0::.int 4 0::.ref 755::.int 431 0::.int 4 0::.ref 762:: [])) <|
 cO (oK "Sender" 947 301 583) <|
 cO (oR 585 582 m2_9) <|
 k
noncomputable def o2_6 (P:Params) (k:List Obj):List Obj:=
 fn7 587 957 (at2 b2 31 0) "Sender.__init__" 303 5 m2_9 (.none) [] ["self","iss","ring","mss","room"] [] <|
 fn7 594 968 (at2 b2 31 1) "Sender.window" 316 1 m2_9 (.none) [] ["self"] [] <|
 cO (oG "property" [.ref 600,.none,.none,.none,.str "window" 975,.bool false]) <|
 fn7 602 976 (at2 b2 31 2) "Sender.take_window" 320 4 m2_9 (.none) [] ["self","seq","ack","window"] [] <|
 fn7 609 986 (at2 b2 31 3) "Sender.put" 323 2 m2_9 (.none) [] ["self","octets"] [] <|
 fn7 616 994 (at2 b2 31 4) "Sender.ask_fin" 328 1 m2_9 (.none) [] ["self"] [] <|
 fn7 623 1001 (at2 b2 31 5) "Sender.flight" 331 1 m2_9 (.none) [] ["self"] [] <|
 fn7 630 1008 (at2 b2 31 6) "Sender.usable" 334 2 m2_9 (.none) [] ["self","congestion_window"] [] <|
 fn7 637 1016 (at2 b2 31 7) "Sender.data_sent" 337 1 m2_9 (.none) [] ["self"] [] <|
 fn7 644 1023 (at2 b2 31 8) "Sender.unsent" 340 1 m2_9 (.none) [] ["self"] [] <|
 fn7 651 1030 (at2 b2 31 9) "Sender.is_fin_due" 343 1 m2_9 (.none) [] ["self","room"] [] <|
 fn7 658 1038 (at2 b2 31 10) "Sender.is_fin_acked" 347 1 m2_9 (.none) [] ["self"] [] <|
 fn7 665 1045 (at2 b2 31 11) "Sender.is_all_acked" 350 1 m2_9 (.none) [] ["self"] [] <|
 fn7 672 1052 (at2 b2 31 12) "Sender.go_on" 353 2 m2_9 (.none) [] ["self","many"] [] <|
 fn7 679 1060 (at2 b2 31 13) "Sender.start" 357 1 m2_9 (.none) [] ["self"] [] <|
 fn7 686 1067 (at2 b2 31 14) "Sender.may_go" 364 3 m2_9 (.none) [] ["self","many","is_nagle"] [] <|
 cO (oT [.bool true]) <|
 fn7 694 1076 (at2 b2 31 15) "Sender.pieces" 371 3 m2_9 (.ref 693) [] ["self","congestion_window","is_nagle","found","many"] [] <|
 fn7 701 1087 (at2 b2 31 16) "Sender.piece_of" 386 3 m2_9 (.none) [] ["self","many","congestion_window","seq","octets","is_last","has_fin"] [] <|
 fn7 708 1100 (at2 b2 31 17) "Sender.ever_sent" 395 1 m2_9 (.none) [] ["self"] [] <|
 fn7 715 1107 (at2 b2 31 18) "Sender.first_piece" 398 1 m2_9 (.none) [] ["self"] [] <|
 fn7 722 1114 (at2 b2 31 19) "Sender.reach" 401 2 m2_9 (.none) [] ["self","many"] [] <|
 fn7 729 1122 (at2 b2 31 20) "Sender.back_to" 404 2 m2_9 (.none) [] ["self","seq"] [] <|
 fn7 736 1130 (at2 b2 31 21) "Sender.is_idle_with_more" 407 1 m2_9 (.none) [] ["self"] [] <|
 fn7 743 1137 (at2 b2 31 22) "Sender.needs_probe" 412 1 m2_9 (.none) [] ["self","many"] [] <|
 fn7 750 1145 (at2 b2 31 23) "Sender.probe" 420 1 m2_9 (.none) [] ["self"] [] <|
 fn7 757 1152 (at2 b2 31 24) "Sender.acked" 431 2 m2_9 (.none) [] ["self","ack","many","ahead","is_syn","octets"] [] <|
 cO (oT [.str "fin_asked" 1164,.str "fin_sent" 1165,.str "greatest" 1166,.str "iss" 1167,.str "mss" 1168,.str "next" 1169,.str "peer" 1170,.str "queue" 1171,.str "ring" 1172,.str "syn_pending" 1173,.str "una" 1174]) <|
 cO (oD P 4 [("__module__",952,m2_9),("__firstlineno__",956,.int 301 955),("__init__",967,.ref 593),("window",975,.ref 601),("take_window",985,.ref 608),("put",993,.ref 615),("ask_fin",1000,.ref 622),("flight",1007,.ref 629),("usable",1015,.ref 636),("data_sent",1022,.ref 643),("unsent",1029,.ref 650),("is_fin_due",1037,.ref 657),("is_fin_acked",1044,.ref 664),("is_all_acked",1051,.ref 671),("go_on",1059,.ref 678),("start",1066,.ref 685),("may_go",1075,.ref 692),("pieces",1086,.ref 700),("piece_of",1099,.ref 707),("ever_sent",1106,.ref 714),("first_piece",1113,.ref 721),("reach",1121,.ref 728),("back_to",1129,.ref 735),("is_idle_with_more",1136,.ref 742),("needs_probe",1144,.ref 749),("probe",1151,.ref 756),("acked",1163,.ref 763),("__static_attributes__",1175,.ref 764),("__dict__",1177,.ref 767),("__weakref__",1179,.ref 768),("__doc__",1180,.none)]) <|
 cO (oY "Sender" [.type "object"] [.ref 766,.type "object"] 765 [] (.none) 945 953 "object.__new__") <|
 cO (oG "getset_descriptor" [.str "__dict__" 1176,.ref 766,.builtin "function.__dict__",.builtin "function.__dict__#set"]) <|
 cO (oG "getset_descriptor" [.str "__weakref__" 1178,.ref 766,.builtin "ExceptionGroup.__weakref__",.none]) <|
 cO (oS 766) <|
 cO (oG "builtin_function_or_method" [.builtin "object.__init_subclass__",.ref 766]) <|
 fn7 771 1185 (at1 b2 33) "put16" 445 1 m2_10 (.none) [] ["n"] [] <|
 cO (oT []) <|
 cO (oG "builtin_function_or_method" [.builtin "type.__prepare__",.type "type"]) <|
 cO (oD P 8 [("__module__",1215,m2_11),("__qualname__",1217,.str "Segment" 1216),("__firstlineno__",1219,.int 455 1218),("__init__",1238,.ref 792),("has",1246,.ref 799),("length",1254,.ref 806),("row",1262,.ref 813),("__static_attributes__",1272,.ref 814)]) <|
 cO (oT []) <|
 cO (oF [.int 457 0,.int 4 0,.ref 791,.int 468 0,.int 4 0,.ref 798,.int 471 0,.int 4 0,.ref 805,.int 479 0,.int 4 0,.ref 812]) <|
 k
noncomputable def o2_7 (P:Params) (k:List Obj):List Obj:=
 cO (oK "Segment" 1210 455 781) <|
 cO (oR 783 780 m2_11) <|
 cO (oT [.int 0 1220,.bytes #[] 1221,.bytes #[] 1222]) <|
 fn7 786 1223 (at2 b2 42 0) "Segment.__init__" 457 10 m2_11 (.ref 785) [] ["self","source_port","target_port","seq","ack","flags","window","urgent","options","payload"] [] <|
 fn7 793 1239 (at2 b2 42 1) "Segment.has" 468 2 m2_11 (.none) [] ["self","flag"] [] <|
 fn7 800 1247 (at2 b2 42 2) "Segment.length" 471 1 m2_11 (.none) [] ["self","many"] [] <|
 fn7 807 1255 (at2 b2 42 3) "Segment.row" 479 1 m2_11 (.none) [] ["self","numbers"] [] <|
 cO (oT [.str "ack" 1263,.str "flags" 1264,.str "options" 1265,.str "payload" 1266,.str "seq" 1267,.str "source_port" 1268,.str "target_port" 1269,.str "urgent" 1270,.str "window" 1271]) <|
 cO (oD P 4 [("__module__",1215,m2_11),("__firstlineno__",1219,.int 455 1218),("__init__",1238,.ref 792),("has",1246,.ref 799),("length",1254,.ref 806),("row",1262,.ref 813),("__static_attributes__",1272,.ref 814),("__dict__",1274,.ref 817),("__weakref__",1276,.ref 818),("__doc__",1277,.none)]) <|
 cO (oY "Segment" [.type "object"] [.ref 816,.type "object"] 815 [] (.none) 1208 1216 "object.__new__") <|
 cO (oG "getset_descriptor" [.str "__dict__" 1273,.ref 816,.builtin "function.__dict__",.builtin "function.__dict__#set"]) <|
 cO (oG "getset_descriptor" [.str "__weakref__" 1275,.ref 816,.builtin "ExceptionGroup.__weakref__",.none]) <|
 cO (oS 816) <|
 cO (oG "builtin_function_or_method" [.builtin "object.__init_subclass__",.ref 816]) <|
 fn7 821 1280 (at1 b2 43) "check_number" 482 2 m2_11 (.none) [] ["number","bits"] [] <|
 fn7 828 1288 (at1 b2 44) "mss_option" 485 1 m2_11 (.none) [] ["n"] [] <|
 fn7 835 1319 (at1 b2 57) "opening_steps" 500 0 m2_12 (.none) [] [] [] <|
 fn7 842 1325 (at1 b2 58) "closing_steps" 502 0 m2_12 (.none) [] [] [] <|
 fn7 849 1331 (at1 b2 59) "follow" 504 2 m2_12 (.none) [] ["state","event","found"] [] <|
 fn7 856 1340 (at1 b2 60) "may_send" 513 1 m2_12 (.none) [] ["state"] [] <|
 fn7 863 1347 (at1 b2 61) "is_sending" 515 1 m2_12 (.none) [] ["state"] [] <|
 cO (oT []) <|
 cO (oG "builtin_function_or_method" [.builtin "type.__prepare__",.type "type"]) <|
 cO (oD P 12 [("__module__",1363,m2_13),("__qualname__",1365,.str "Wheel" 1364),("__firstlineno__",1367,.int 518 1366),("__init__",1374,.ref 882),("put",1383,.ref 889),("list_of",1391,.ref 896),("cancel",1402,.ref 903),("time_of",1410,.ref 910),("next_time",1417,.ref 917),("due",1423,.ref 922),("keys_until",1433,.ref 929),("__static_attributes__",1440,.ref 930)]) <|
 cO (oT []) <|
 cO (oF [.int 520 0,.int 4 0,.ref 881,.int 528 0,.int 4 0,.ref 888,.int 534 0,.int 4 0,.ref 895,.int 539 0,.int 4 0,.ref 902,.int 546 0,.int 4 0,.ref 909,.int 549 0,.int 4 0,.ref 916,.int 552 0,.int 4 0,.ref 921,.int 564 0,.int 4 0,.ref 928]) <|
 cO (oK "Wheel" 1358 518 873) <|
 cO (oR 875 872 m2_13) <|
 cO (oT [.int 16 1368]) <|
 fn5 878 1369 (at2 b2 63 0) "Wheel.__init__" 520 2 m2_13 (.ref 877) [] <|
 fn7 883 1375 (at2 b2 63 1) "Wheel.put" 528 3 m2_13 (.none) [] ["self","key","time"] [] <|
 fn7 890 1384 (at2 b2 63 2) "Wheel.list_of" 534 2 m2_13 (.none) [] ["self","time"] [] <|
 fn7 897 1392 (at2 b2 63 3) "Wheel.cancel" 539 2 m2_13 (.none) [] ["self","key","time","order","keys"] [] <|
 fn7 904 1403 (at2 b2 63 4) "Wheel.time_of" 546 2 m2_13 (.none) [] ["self","key"] [] <|
 fn7 911 1411 (at2 b2 63 5) "Wheel.next_time" 549 1 m2_13 (.none) [] ["self"] [] <|
 fn5 918 1418 (at2 b2 63 6) "Wheel.due" 552 2 m2_13 (.none) [] <|
 fn7 923 1424 (at2 b2 63 7) "Wheel.keys_until" 564 2 m2_13 (.none) [] ["self","now","found","time"] [] <|
 cO (oT [.str "entries" 1434,.str "given" 1435,.str "late" 1436,.str "reached" 1437,.str "size" 1438,.str "slots" 1439]) <|
 cO (oD P 4 [("__module__",1363,m2_13),("__firstlineno__",1367,.int 518 1366),("__init__",1374,.ref 882),("put",1383,.ref 889),("list_of",1391,.ref 896),("cancel",1402,.ref 903),("time_of",1410,.ref 910),("next_time",1417,.ref 917),("due",1423,.ref 922),("keys_until",1433,.ref 929),("__static_attributes__",1440,.ref 930),("__dict__",1442,.ref 933),("__weakref__",1444,.ref 934),("__doc__",1445,.none)]) <|
 cO (oY "Wheel" [.type "object"] [.ref 932,.type "object"] 931 [] (.none) 1356 1364 "object.__new__") <|
 k
noncomputable def o2_8 (P:Params) (k:List Obj):List Obj:=
 cO (oG "getset_descriptor" [.str "__dict__" 1441,.ref 932,.builtin "function.__dict__",.builtin "function.__dict__#set"]) <|
 cO (oG "getset_descriptor" [.str "__weakref__" 1443,.ref 932,.builtin "ExceptionGroup.__weakref__",.none]) <|
 cO (oS 932) <|
 cO (oG "builtin_function_or_method" [.builtin "object.__init_subclass__",.ref 932]) <|
 cO (oT []) <|
 cO (oG "builtin_function_or_method" [.builtin "type.__prepare__",.type "type"]) <|
 cO (oD P 5 [("__module__",1467,m2_14),("__qualname__",1469,.str "Limits" 1468),("__firstlineno__",1471,.int 577 1470),("__init__",1488,.ref 950),("__static_attributes__",1499,.ref 951)]) <|
 cO (oT []) <|
 cO (oF [.int 579 0,.int 4 0,.ref 949]) <|
 cO (oK "Limits" 1462 577 940) <|
 cO (oR 942 939 m2_14) <|
 fn7 944 1472 (at2 b2 70 0) "Limits.__init__" 579 11 m2_14 (.none) [] ["self","ring","mss","send_room","receive_room","first_timeout","least_timeout","most_timeout","most_tries","ack_delay","time_wait"] [] <|
 cO (oT [.str "ack_delay" 1489,.str "first_timeout" 1490,.str "least_timeout" 1491,.str "most_timeout" 1492,.str "most_tries" 1493,.str "mss" 1494,.str "receive_room" 1495,.str "ring" 1496,.str "send_room" 1497,.str "time_wait" 1498]) <|
 cO (oD P 4 [("__module__",1467,m2_14),("__firstlineno__",1471,.int 577 1470),("__init__",1488,.ref 950),("__static_attributes__",1499,.ref 951),("__dict__",1501,.ref 954),("__weakref__",1503,.ref 955),("__doc__",1504,.none)]) <|
 cO (oY "Limits" [.type "object"] [.ref 953,.type "object"] 952 [] (.none) 1460 1468 "object.__new__") <|
 cO (oG "getset_descriptor" [.str "__dict__" 1500,.ref 953,.builtin "function.__dict__",.builtin "function.__dict__#set"]) <|
 cO (oG "getset_descriptor" [.str "__weakref__" 1502,.ref 953,.builtin "ExceptionGroup.__weakref__",.none]) <|
 cO (oS 953) <|
 cO (oG "builtin_function_or_method" [.builtin "object.__init_subclass__",.ref 953]) <|
 fn7 958 1507 (at1 b2 71) "clock_of" 590 1 m2_14 (.none) [] ["limits","estimate"] [] <|
 cO (oT []) <|
 cO (oG "builtin_function_or_method" [.builtin "type.__prepare__",.type "type"]) <|
 cO (oD P 7 [("__module__",1522,m2_14),("__qualname__",1524,.str "Tcb" 1523),("__firstlineno__",1526,.int 593 1525),("__init__",1537,.ref 978),("window_now",1544,.ref 985),("make",1558,.ref 993),("__static_attributes__",1573,.ref 994)]) <|
 cO (oT []) <|
 cO (oF [.int 595 0,.int 4 0,.ref 977,.int 611 0,.int 4 0,.ref 984,.int 616 0,.int 4 0,.ref 992]) <|
 cO (oK "Tcb" 1517 593 968) <|
 cO (oR 970 967 m2_14) <|
 fn7 972 1527 (at2 b2 72 0) "Tcb.__init__" 595 5 m2_14 (.none) [] ["self","limits","local","remote","iss"] [] <|
 fn7 979 1538 (at2 b2 72 1) "Tcb.window_now" 611 1 m2_14 (.none) [] ["self"] [] <|
 cO (oT [.bytes #[] 1545]) <|
 fn7 987 1546 (at2 b2 72 2) "Tcb.make" 616 4 m2_14 (.ref 986) [] ["self","flags","seq","payload","ack","options","window"] [] <|
 cO (oT [.str "acks" 1559,.str "clock" 1560,.str "congestion" 1561,.str "error" 1562,.str "is_nagle" 1563,.str "limits" 1564,.str "local" 1565,.str "probes" 1566,.str "receiver" 1567,.str "remote" 1568,.str "sender" 1569,.str "state" 1570,.str "unanswered" 1571,.str "wheel" 1572]) <|
 cO (oD P 4 [("__module__",1522,m2_14),("__firstlineno__",1526,.int 593 1525),("__init__",1537,.ref 978),("window_now",1544,.ref 985),("make",1558,.ref 993),("__static_attributes__",1573,.ref 994),("__dict__",1575,.ref 997),("__weakref__",1577,.ref 998),("__doc__",1578,.none)]) <|
 cO (oY "Tcb" [.type "object"] [.ref 996,.type "object"] 995 [] (.none) 1515 1523 "object.__new__") <|
 cO (oG "getset_descriptor" [.str "__dict__" 1574,.ref 996,.builtin "function.__dict__",.builtin "function.__dict__#set"]) <|
 cO (oG "getset_descriptor" [.str "__weakref__" 1576,.ref 996,.builtin "ExceptionGroup.__weakref__",.none]) <|
 cO (oS 996) <|
 cO (oG "builtin_function_or_method" [.builtin "object.__init_subclass__",.ref 996]) <|
 fn7 1001 1585 (at1 b2 75) "change_state" 628 2 m2_15 (.none) [] ["tcb","event","state"] [] <|
 fn7 1008 1594 (at1 b2 76) "closed" 633 2 m2_15 (.none) [] ["tcb","error","key"] [] <|
 k
noncomputable def o2_9 (P:Params) (k:List Obj):List Obj:=
 fn7 1015 1603 (at1 b2 77) "check_error" 639 1 m2_15 (.none) [] ["tcb"] [] <|
 fn7 1022 1610 (at1 b2 78) "open_active" 644 2 m2_15 (.none) [] ["tcb","now"] [] <|
 fn7 1029 1618 (at1 b2 79) "send" 647 3 m2_15 (.none) [] ["tcb","octets","now","taken"] [] <|
 fn7 1036 1629 (at1 b2 81) "close" 654 2 m2_15 (.none) [] ["tcb","now"] [] <|
 fn7 1043 1638 (at1 b2 83) "abort" 665 2 m2_15 (.none) [] ["tcb","now","found","is_ended"] [] <|
 fn7 1050 1649 (at1 b2 85) "is_all_sent" 675 1 m2_15 (.none) [] ["tcb"] [] <|
 fn7 1057 1656 (at1 b2 86) "reset_number" 677 1 m2_15 (.none) [] ["sender"] [] <|
 fn7 1064 1663 (at1 b2 87) "syn_segment" 679 1 m2_15 (.none) [] ["tcb"] [] <|
 fn7 1071 1670 (at1 b2 88) "flags_of" 681 2 m2_15 (.none) [] ["has_push","has_fin","flags"] [] <|
 fn7 1078 1679 (at1 b2 89) "take_asked_fin" 688 1 m2_15 (.none) [] ["tcb","state"] [] <|
 fn7 1085 1687 (at1 b2 90) "data_segments" 693 2 m2_15 (.none) [] ["tcb","now","found","ring","ahead","seq","octets","has_push","has_fin","end"] [] <|
 fn7 1092 1703 (at1 b2 91) "output" 703 2 m2_15 (.none) [] ["tcb","now","found"] [] <|
 fn7 1099 1712 (at1 b2 92) "keep_timers" 714 2 m2_15 (.none) [] ["tcb","now"] [] <|
 fn7 1106 1720 (at1 b2 93) "probe_wait" 726 1 m2_15 (.none) [] ["tcb","estimate"] [] <|
 cO (oT [.int 4294967296 1730]) <|
 fn7 1114 1732 (at1 b2 96) "reset_for" 731 2 m2_16 (.ref 1113) [] ["segment","ring","ack"] [] <|
 cO (oT []) <|
 cO (oG "builtin_function_or_method" [.builtin "type.__prepare__",.type "type"]) <|
 cO (oD P 11 [("__module__",1750,m2_17),("__qualname__",1752,.str "TcpTable" 1751),("__firstlineno__",1754,.int 739 1753),("__init__",1761,.ref 1134),("listen",1771,.ref 1141),("connect",1781,.ref 1148),("remove",1787,.ref 1153),("find",1798,.ref 1160),("is_port_used",1804,.ref 1165),("rows",1810,.ref 1170),("__static_attributes__",1813,.ref 1171)]) <|
 cO (oT []) <|
 cO (oF [.int 741 0,.int 4 0,.ref 1133,.int 745 0,.int 4 0,.ref 1140,.int 750 0,.int 4 0,.ref 1147,.int 755 0,.int 4 0,.ref 1152,.int 763 0,.int 4 0,.ref 1159,.int 766 0,.int 4 0,.ref 1164,.int 772 0,.int 4 0,.ref 1169]) <|
 cO (oK "TcpTable" 1745 739 1124) <|
 cO (oR 1126 1123 m2_17) <|
 fn7 1128 1755 (at2 b2 98 0) "TcpTable.__init__" 741 1 m2_17 (.none) [] ["self"] [] <|
 fn7 1135 1762 (at2 b2 98 1) "TcpTable.listen" 745 4 m2_17 (.none) [] ["self","address","port","owner"] [] <|
 fn7 1142 1772 (at2 b2 98 2) "TcpTable.connect" 750 4 m2_17 (.none) [] ["self","local","remote","owner"] [] <|
 fn5 1149 1782 (at2 b2 98 3) "TcpTable.remove" 755 2 m2_17 (.none) [] <|
 fn7 1154 1788 (at2 b2 98 4) "TcpTable.find" 763 5 m2_17 (.none) [] ["self","target","target_port","source","source_port"] [] <|
 fn5 1161 1799 (at2 b2 98 5) "TcpTable.is_port_used" 766 2 m2_17 (.none) [] <|
 fn5 1166 1805 (at2 b2 98 6) "TcpTable.rows" 772 1 m2_17 (.none) [] <|
 cO (oT [.str "connections" 1811,.str "listeners" 1812]) <|
 cO (oD P 4 [("__module__",1750,m2_17),("__firstlineno__",1754,.int 739 1753),("__init__",1761,.ref 1134),("listen",1771,.ref 1141),("connect",1781,.ref 1148),("remove",1787,.ref 1153),("find",1798,.ref 1160),("is_port_used",1804,.ref 1165),("rows",1810,.ref 1170),("__static_attributes__",1813,.ref 1171),("__dict__",1815,.ref 1174),("__weakref__",1817,.ref 1175),("__doc__",1818,.none)]) <|
 cO (oY "TcpTable" [.type "object"] [.ref 1173,.type "object"] 1172 [] (.none) 1743 1751 "object.__new__") <|
 cO (oG "getset_descriptor" [.str "__dict__" 1814,.ref 1173,.builtin "function.__dict__",.builtin "function.__dict__#set"]) <|
 cO (oG "getset_descriptor" [.str "__weakref__" 1816,.ref 1173,.builtin "ExceptionGroup.__weakref__",.none]) <|
 cO (oS 1173) <|
 cO (oG "builtin_function_or_method" [.builtin "object.__init_subclass__",.ref 1173]) <|
 cO (oT []) <|
 cO (oG "builtin_function_or_method" [.builtin "type.__prepare__",.type "type"]) <|
 cO (oD P 8 [("__module__",1832,m2_18),("__qualname__",1834,.str "Listener" 1833),("__firstlineno__",1836,.int 777 1835),("__init__",1846,.ref 1191),("waiting",1853,.ref 1198),("take_open",1861,.ref 1205),("forget",1870,.ref 1212),("__static_attributes__",1876,.ref 1213)]) <|
 k
noncomputable def o2_10 (P:Params) (k:List Obj):List Obj:=
 cO (oT []) <|
 cO (oF [.int 779 0,.int 4 0,.ref 1190,.int 786 0,.int 4 0,.ref 1197,.int 789 0,.int 4 0,.ref 1204,.int 794 0,.int 4 0,.ref 1211]) <|
 cO (oK "Listener" 1827 777 1181) <|
 cO (oR 1183 1180 m2_18) <|
 fn7 1185 1837 (at2 b2 101 0) "Listener.__init__" 779 4 m2_18 (.none) [] ["self","address","port","most_waiting"] [] <|
 fn7 1192 1847 (at2 b2 101 1) "Listener.waiting" 786 1 m2_18 (.none) [] ["self"] [] <|
 fn7 1199 1854 (at2 b2 101 2) "Listener.take_open" 789 2 m2_18 (.none) [] ["self","number"] [] <|
 fn7 1206 1862 (at2 b2 101 3) "Listener.forget" 794 2 m2_18 (.none) [] ["self","number","numbers"] [] <|
 cO (oT [.str "address" 1871,.str "most_waiting" 1872,.str "opening" 1873,.str "port" 1874,.str "ready" 1875]) <|
 cO (oD P 4 [("__module__",1832,m2_18),("__firstlineno__",1836,.int 777 1835),("__init__",1846,.ref 1191),("waiting",1853,.ref 1198),("take_open",1861,.ref 1205),("forget",1870,.ref 1212),("__static_attributes__",1876,.ref 1213),("__dict__",1878,.ref 1216),("__weakref__",1880,.ref 1217),("__doc__",1881,.none)]) <|
 cO (oY "Listener" [.type "object"] [.ref 1215,.type "object"] 1214 [] (.none) 1825 1833 "object.__new__") <|
 cO (oG "getset_descriptor" [.str "__dict__" 1877,.ref 1215,.builtin "function.__dict__",.builtin "function.__dict__#set"]) <|
 cO (oG "getset_descriptor" [.str "__weakref__" 1879,.ref 1215,.builtin "ExceptionGroup.__weakref__",.none]) <|
 cO (oS 1215) <|
 cO (oG "builtin_function_or_method" [.builtin "object.__init_subclass__",.ref 1215]) <|
 cO (oT []) <|
 cO (oG "builtin_function_or_method" [.builtin "type.__prepare__",.type "type"]) <|
 cO (oD P 6 [("__module__",1891,m2_18),("__qualname__",1893,.str "Link" 1892),("__firstlineno__",1895,.int 798 1894),("__init__",1905,.ref 1233),("is_done",1913,.ref 1240),("__static_attributes__",1919,.ref 1241)]) <|
 cO (oT []) <|
 cO (oF [.int 800 0,.int 4 0,.ref 1232,.int 807 0,.int 4 0,.ref 1239]) <|
 cO (oK "Link" 1886 798 1223) <|
 cO (oR 1225 1222 m2_18) <|
 fn7 1227 1896 (at2 b2 102 0) "Link.__init__" 800 4 m2_18 (.none) [] ["self","tcb","listener","own_port"] [] <|
 fn7 1234 1906 (at2 b2 102 1) "Link.is_done" 807 1 m2_18 (.none) [] ["self","is_read"] [] <|
 cO (oT [.str "is_dropped" 1914,.str "is_left" 1915,.str "listener" 1916,.str "own_port" 1917,.str "tcb" 1918]) <|
 cO (oD P 4 [("__module__",1891,m2_18),("__firstlineno__",1895,.int 798 1894),("__init__",1905,.ref 1233),("is_done",1913,.ref 1240),("__static_attributes__",1919,.ref 1241),("__dict__",1921,.ref 1244),("__weakref__",1923,.ref 1245),("__doc__",1924,.none)]) <|
 cO (oY "Link" [.type "object"] [.ref 1243,.type "object"] 1242 [] (.none) 1884 1892 "object.__new__") <|
 cO (oG "getset_descriptor" [.str "__dict__" 1920,.ref 1243,.builtin "function.__dict__",.builtin "function.__dict__#set"]) <|
 cO (oG "getset_descriptor" [.str "__weakref__" 1922,.ref 1243,.builtin "ExceptionGroup.__weakref__",.none]) <|
 cO (oS 1243) <|
 cO (oG "builtin_function_or_method" [.builtin "object.__init_subclass__",.ref 1243]) <|
 fn5 1248 1927 (at1 b2 103) "rows_out" 812 2 m2_18 (.none) [] <|
 cO (oT []) <|
 cO (oG "builtin_function_or_method" [.builtin "type.__prepare__",.type "type"]) <|
 cO (oD P 28 [("__module__",1940,m2_18),("__qualname__",1942,.str "TcpSockets" 1941),("__firstlineno__",1944,.int 814 1943),("__init__",1955,.ref 1266),("new_number",1962,.ref 1273),("new_iss",1969,.ref 1280),("link",1977,.ref 1287),("listen",1988,.ref 1294),("connect",2004,.ref 1302),("own_port",2014,.ref 1309),("accept",2022,.ref 1316),("send",2035,.ref 1323),("receive",2045,.ref 1330),("refuse_failed",2053,.ref 1337),("status",2061,.ref 1344),("is_ended",2070,.ref 1351),("close",2079,.ref 1358),("abort",2088,.ref 1365),("leave",2101,.ref 1372),("close_listener",2113,.ref 1379),("look_at",2123,.ref 1386),("end",2132,.ref 1393),("input",2143,.ref 1400),("refused",2154,.ref 1407),("input_new",2166,.ref 1414),("on_time",2174,.ref 1421),("next_time",2181,.ref 1428),("__static_attributes__",2189,.ref 1429)]) <|
 cO (oT []) <|
 cO (oF (.int 816 0::.int 4 0::.ref 1265::.int 825 0::.int 4 0::.ref 1272::.int 829 0::.int 4 0::.ref 1279::.int 833 0::.int 4 0::.ref 1286::.int 838 0::.int 4 0::.ref 1293::.int 845 0::.int 4 0::.ref 1301::.int 854 0::.int 4 0::.ref 1308::.int 865 0::.int 4 0::.ref 1315::.int 868 0::.int 4 0::.ref 1322::.int 874 0::.int 4 0::.ref 1329::.int 877 0::.int 4 0::.ref 1336::.int 883 0::.int 4 0::.ref 1343::.int 886 0::.int 4 0::.ref 1350::.int 890 0::.int 4 0::.ref 1357::.int 895 0::.int 4 0::.ref 1364::.int 901 0::.int 4 0::.ref 1371::.int 909 0::.int 4 0::.ref 1378::.int 918 0::.int 4 0::.ref 1385::.int 926 0::.int 4 0::.ref 1392::.int 937 0::.int 4 0::.ref 1399::.int 940 0::.int 4 0::.ref 1406::.int 944 0::.int 4 0::.ref 1413::.int 947 0::.int 4 0::.ref 1420::.int 950 0::.int 4 0::.ref 1427:: [])) <|
 cO (oK "TcpSockets" 1935 814 1256) <|
 cO (oR 1258 1255 m2_18) <|
 fn7 1260 1945 (at2 b2 104 0) "TcpSockets.__init__" 816 5 m2_18 (.none) [] ["self","limits","seed","first_port","last_port"] [] <|
 k
noncomputable def o2_11 (P:Params) (k:List Obj):List Obj:=
 fn7 1267 1956 (at2 b2 104 1) "TcpSockets.new_number" 825 1 m2_18 (.none) [] ["self"] [] <|
 fn7 1274 1963 (at2 b2 104 2) "TcpSockets.new_iss" 829 1 m2_18 (.none) [] ["self"] [] <|
 fn7 1281 1970 (at2 b2 104 3) "TcpSockets.link" 833 2 m2_18 (.none) [] ["self","number"] [] <|
 fn7 1288 1978 (at2 b2 104 4) "TcpSockets.listen" 838 4 m2_18 (.none) [] ["self","address","port","most_waiting","number"] [] <|
 cO (oT [.int 0 1989]) <|
 fn7 1296 1990 (at2 b2 104 5) "TcpSockets.connect" 845 6 m2_18 (.ref 1295) [] ["self","local","remote","port","now","local_port","own","number","tcb"] [] <|
 fn7 1303 2005 (at2 b2 104 6) "TcpSockets.own_port" 854 2 m2_18 (.none) [] ["self","local_port","turn","found"] [] <|
 fn7 1310 2015 (at2 b2 104 7) "TcpSockets.accept" 865 2 m2_18 (.none) [] ["self","number"] [] <|
 fn7 1317 2023 (at2 b2 104 8) "TcpSockets.send" 868 4 m2_18 (.none) [] ["self","number","octets","now","tcb","taken","segments"] [] <|
 fn7 1324 2036 (at2 b2 104 9) "TcpSockets.receive" 874 4 m2_18 (.none) [] ["self","number","many","now"] [] <|
 fn7 1331 2046 (at2 b2 104 10) "TcpSockets.refuse_failed" 877 2 m2_18 (.none) [] ["self","tcb"] [] <|
 fn7 1338 2054 (at2 b2 104 11) "TcpSockets.status" 883 2 m2_18 (.none) [] ["self","number"] [] <|
 fn7 1345 2062 (at2 b2 104 12) "TcpSockets.is_ended" 886 2 m2_18 (.none) [] ["self","number","receiver"] [] <|
 fn7 1352 2071 (at2 b2 104 13) "TcpSockets.close" 890 3 m2_18 (.none) [] ["self","number","now"] [] <|
 fn7 1359 2080 (at2 b2 104 14) "TcpSockets.abort" 895 3 m2_18 (.none) [] ["self","number","now"] [] <|
 fn7 1366 2089 (at2 b2 104 15) "TcpSockets.leave" 901 4 m2_18 (.none) [] ["self","number","call","now","link","segments","found"] [] <|
 fn7 1373 2102 (at2 b2 104 16) "TcpSockets.close_listener" 909 3 m2_18 (.none) [] ["self","number","now","listener","found","child"] [] <|
 fn7 1380 2114 (at2 b2 104 17) "TcpSockets.look_at" 918 2 m2_18 (.none) [] ["self","number","link","state"] [] <|
 fn7 1387 2124 (at2 b2 104 18) "TcpSockets.end" 926 3 m2_18 (.none) [] ["self","number","link"] [] <|
 fn7 1394 2133 (at2 b2 104 19) "TcpSockets.input" 937 5 m2_18 (.none) [] ["self","source","target","segment","now"] [] <|
 fn7 1401 2144 (at2 b2 104 20) "TcpSockets.refused" 940 4 m2_18 (.none) [] ["self","source","target","segment","answer"] [] <|
 fn7 1408 2155 (at2 b2 104 21) "TcpSockets.input_new" 944 6 m2_18 (.none) [] ["self","number","source","target","segment","now"] [] <|
 fn7 1415 2167 (at2 b2 104 22) "TcpSockets.on_time" 947 2 m2_18 (.none) [] ["self","now"] [] <|
 fn7 1422 2175 (at2 b2 104 23) "TcpSockets.next_time" 950 1 m2_18 (.none) [] ["self"] [] <|
 cO (oT [.str "given" 2182,.str "iss" 2183,.str "limits" 2184,.str "links" 2185,.str "listeners" 2186,.str "ports" 2187,.str "table" 2188]) <|
 cO (oD P 4 [("__module__",1940,m2_18),("__firstlineno__",1944,.int 814 1943),("__init__",1955,.ref 1266),("new_number",1962,.ref 1273),("new_iss",1969,.ref 1280),("link",1977,.ref 1287),("listen",1988,.ref 1294),("connect",2004,.ref 1302),("own_port",2014,.ref 1309),("accept",2022,.ref 1316),("send",2035,.ref 1323),("receive",2045,.ref 1330),("refuse_failed",2053,.ref 1337),("status",2061,.ref 1344),("is_ended",2070,.ref 1351),("close",2079,.ref 1358),("abort",2088,.ref 1365),("leave",2101,.ref 1372),("close_listener",2113,.ref 1379),("look_at",2123,.ref 1386),("end",2132,.ref 1393),("input",2143,.ref 1400),("refused",2154,.ref 1407),("input_new",2166,.ref 1414),("on_time",2174,.ref 1421),("next_time",2181,.ref 1428),("__static_attributes__",2189,.ref 1429),("__dict__",2191,.ref 1432),("__weakref__",2193,.ref 1433),("__doc__",2194,.none)]) <|
 cO (oY "TcpSockets" [.type "object"] [.ref 1431,.type "object"] 1430 [] (.none) 1933 1941 "object.__new__") <|
 cO (oG "getset_descriptor" [.str "__dict__" 2190,.ref 1431,.builtin "function.__dict__",.builtin "function.__dict__#set"]) <|
 cO (oG "getset_descriptor" [.str "__weakref__" 2192,.ref 1431,.builtin "ExceptionGroup.__weakref__",.none]) <|
 cO (oS 1431) <|
 cO (oG "builtin_function_or_method" [.builtin "object.__init_subclass__",.ref 1431]) <|
 fn7 1436 2199 (at1 b2 106) "_law_pool" 953 2 m2_19 (.none) [] ["script","k","cell","great","mixed"] [] <|
 fn7 1443 2210 (at1 b2 107) "_law_take" 958 2 m2_19 (.none) [] ["source","top","drawn"] [] <|
 fn7 1450 2219 (at1 b2 108) "_law_one" 965 2 m2_19 (.none) [] ["source","things"] [] <|
 fn7 1457 2227 (at1 b2 109) "_law_tried" 967 1 m2_19 (.none) [] ["deed"] [] <|
 fn5 1464 2234 (at1 b2 110) "_law_next" 972 1 m2_19 (.none) [] <|
 fn5 1469 2240 (at1 b2 111) "_law_deed_right" 981 4 m2_19 (.none) [] <|
 fn7 1474 2246 (at1 b2 112) "_law_right" 999 2 m2_19 (.none) [] ["many","deeds","sockets","book","way","port"] [] <|
 fn5 1481 2258 (at1 b2 113) "law" 1010 1 m2_19 (.none) [] <|
 k
noncomputable def oo2 (P:Params)(x2 x3 x12:Obj):List Obj:=cO (boot_o_0 P) <| cO (boot_o_1 P) <| cO x2 <| cO x3 <| cO (boot_o_4 P) <| cO (boot_o_5 P) <| cO (boot_o_6 P) <| cO (boot_o_7 P) <| cO (boot_o_8 P) <| cO (boot_o_9 P) <| cO (boot_o_10 P) <| o2_0 P x12 <| o2_1 P <| o2_2 P <| o2_3 P <| o2_4 P <| o2_5 P <| o2_6 P <| o2_7 P <| o2_8 P <| o2_9 P <| o2_10 P <| o2_11 P []
noncomputable def e2_0 (P:Params):Obj:=oE P 0 []
noncomputable def g2_0 (P:Params):Obj:=oD P 9 [("__name__",165,.str "__main__" 164),("__doc__",166,.none),("__package__",167,.none),("__loader__",168,.builtin "__main__.__loader__#opaque"),("__spec__",169,.none),("__annotations__",170,.ref 6),("__builtins__",171,.ref 4),("__file__",173,.str "/claim/cut.py" 172),("__cached__",174,.none)]
noncomputable def h2_0:Obj:=oF []
noncomputable def e2_2 (P:Params):Obj:=oE P 2 [("type.__subclasses__.Exception.0",221,.int 38 0),("type.__subclasses__.Exception.n",222,.int 1 0)]
noncomputable def g2_2 (P:Params):Obj:=oD P 57 (("__name__",165,.str "thinstack.tcp_states" 1295)::("__doc__",166,.none)::("__package__",167,.none)::("__loader__",168,.builtin "__main__.__loader__#opaque")::("__spec__",169,.none)::("__annotations__",170,.ref 6)::("__builtins__",171,.ref 4)::("__file__",173,.str "/claim/cut.py" 172)::("__cached__",174,.none)::("_wall",193,.ref 21)::("StackError",224,.ref 38)::("SizeError",240,.ref 51)::("PortError",256,.ref 63)::("StateError",272,.ref 75)::("ResetError",288,.ref 87)::("TimedOutError",304,.ref 99)::("MOST_PORT",308,.int 65535 307)::("want_port",315,.ref 108)::("Ports",390,.ref 161)::("plus",401,.ref 172)::("distance",410,.ref 179)::("is_before",420,.ref 186)::("is_at_most",429,.ref 193)::("latest",438,.ref 200)::("AckPolicy",511,.ref 253)::("Congestion",630,.ref 344)::("MOST_SHIFT_retransmit",634,.int 7 633)::("RetransmitClock",733,.ref 421)::("RttEstimate",809,.ref 477)::("SendQueue",881,.ref 533)::("PeerWindow",944,.ref 575)::("Sender",1182,.ref 766)::("put16",1191,.ref 777)::("FIN",1195,.int 1 1194)::("SYN",1197,.int 2 1196)::("RST",1199,.int 4 1198)::("PSH",1201,.int 8 1200)::("ACK",1203,.int 16 1202)::("OPTION_MSS",1205,.int 2 1204)::("MSS_SIZE",1207,.int 4 1206)::("Segment",1279,.ref 816)::("check_number",1287,.ref 827)::("mss_option",1294,.ref 834)::("CLOSED",1298,.str "closed" 1297)::("LISTEN",1300,.str "listen" 1299)::("SYN_SENT",1302,.str "syn sent" 1301)::("SYN_RECEIVED",1304,.str "syn received" 1303)::("ESTABLISHED",1306,.str "established" 1305)::("FIN_WAIT_1",1308,.str "fin wait 1" 1307)::("FIN_WAIT_2",1310,.str "fin wait 2" 1309)::("CLOSE_WAIT",1312,.str "close wait" 1311)::("CLOSING",1314,.str "closing" 1313)::("LAST_ACK",1316,.str "last ack" 1315)::("TIME_WAIT",1318,.str "time wait" 1317)::("opening_steps",1324,.ref 841)::("closing_steps",1330,.ref 848)::("follow",1339,.ref 855):: [])
noncomputable def h2_2:Obj:=oF (.int 1 0::.int 0 0::.ref 20::.int 5 0::.int 0 0::.ref 27::.int 9 0::.int 0 0::.ref 47::.int 11 0::.int 0 0::.ref 59::.int 13 0::.int 0 0::.ref 71::.int 15 0::.int 0 0::.ref 83::.int 17 0::.int 0 0::.ref 95::.int 21 0::.int 0 0::.ref 107::.int 24 0::.int 0 0::.ref 114::.int 64 0::.int 0 0::.ref 171::.int 66 0::.int 0 0::.ref 178::.int 68 0::.int 0 0::.ref 185::.int 71 0::.int 0 0::.ref 192::.int 73 0::.int 0 0::.ref 199::.int 76 0::.int 0 0::.ref 206::.int 100 0::.int 0 0::.ref 263::.int 162 0::.int 0 0::.ref 354::.int 206 0::.int 0 0::.ref 431::.int 244 0::.int 0 0::.ref 487::.int 273 0::.int 0 0::.ref 543::.int 301 0::.int 0 0::.ref 585::.int 445 0::.int 0 0::.ref 776::.int 455 0::.int 0 0::.ref 783::.int 482 0::.int 0 0::.ref 826::.int 485 0::.int 0 0::.ref 833::.int 500 0::.int 0 0::.ref 840::.int 502 0::.int 0 0::.ref 847::.int 504 0::.int 0 0::.ref 854:: [])
noncomputable def e2_3 (P:Params):Obj:=oE P 2 [("type.__subclasses__.Exception.0",221,.int 38 0),("type.__subclasses__.Exception.n",222,.int 1 0)]
noncomputable def g2_3 (P:Params):Obj:=oD P 104 (("__name__",165,.str "law_qz0163_02" 2197)::("__doc__",166,.none)::("__package__",167,.none)::("__loader__",168,.builtin "__main__.__loader__#opaque")::("__spec__",169,.none)::("__annotations__",170,.ref 6)::("__builtins__",171,.ref 4)::("__file__",173,.str "/claim/cut.py" 172)::("__cached__",174,.none)::("_wall",193,.ref 21)::("StackError",224,.ref 38)::("SizeError",240,.ref 51)::("PortError",256,.ref 63)::("StateError",272,.ref 75)::("ResetError",288,.ref 87)::("TimedOutError",304,.ref 99)::("MOST_PORT",308,.int 65535 307)::("want_port",315,.ref 108)::("Ports",390,.ref 161)::("plus",401,.ref 172)::("distance",410,.ref 179)::("is_before",420,.ref 186)::("is_at_most",429,.ref 193)::("latest",438,.ref 200)::("AckPolicy",511,.ref 253)::("Congestion",630,.ref 344)::("MOST_SHIFT_retransmit",634,.int 7 633)::("RetransmitClock",733,.ref 421)::("RttEstimate",809,.ref 477)::("SendQueue",881,.ref 533)::("PeerWindow",944,.ref 575)::("Sender",1182,.ref 766)::("put16",1191,.ref 777)::("FIN",1195,.int 1 1194)::("SYN",1197,.int 2 1196)::("RST",1199,.int 4 1198)::("PSH",1201,.int 8 1200)::("ACK",1203,.int 16 1202)::("OPTION_MSS",1205,.int 2 1204)::("MSS_SIZE",1207,.int 4 1206)::("Segment",1279,.ref 816)::("check_number",1287,.ref 827)::("mss_option",1294,.ref 834)::("CLOSED",1298,.str "closed" 1297)::("LISTEN",1300,.str "listen" 1299)::("SYN_SENT",1302,.str "syn sent" 1301)::("SYN_RECEIVED",1304,.str "syn received" 1303)::("ESTABLISHED",1306,.str "established" 1305)::("FIN_WAIT_1",1308,.str "fin wait 1" 1307)::("FIN_WAIT_2",1310,.str "fin wait 2" 1309)::("CLOSE_WAIT",1312,.str "close wait" 1311)::("CLOSING",1314,.str "closing" 1313)::("LAST_ACK",1316,.str "last ack" 1315)::("TIME_WAIT",1318,.str "time wait" 1317)::("opening_steps",1324,.ref 841)::("closing_steps",1330,.ref 848)::("follow",1339,.ref 855)::("may_send",1346,.ref 862)::("is_sending",1353,.ref 869)::("Wheel",1447,.ref 932)::("RESEND",1451,.int 1 1450)::("PERSIST",1453,.int 2 1452)::("DELAYED",1455,.int 3 1454)::("WAIT",1457,.int 4 1456)::("MOST_WINDOW",1459,.int 65535 1458)::("Limits",1506,.ref 953)::("clock_of",1514,.ref 964)::("Tcb",1580,.ref 996)::("MOST_SHIFT_tcp_user",1584,.int 7 1583)::("change_state",1593,.ref 1007)::("closed",1602,.ref 1014)::("check_error",1609,.ref 1021)::("open_active",1617,.ref 1028)::("send",1627,.ref 1035)::("send_tcp_user",1628,.ref 1035)::("close",1636,.ref 1042)::("close_tcp_user",1637,.ref 1042)::("abort",1647,.ref 1049)::("abort_tcp_user",1648,.ref 1049)::("is_all_sent",1655,.ref 1056)::("reset_number",1662,.ref 1063)::("syn_segment",1669,.ref 1070)::("flags_of",1678,.ref 1077)::("take_asked_fin",1686,.ref 1084)::("data_segments",1702,.ref 1091)::("output",1711,.ref 1098)::("keep_timers",1719,.ref 1105)::("probe_wait",1727,.ref 1112)::("WHOLE_RING",1731,.int 4294967296 1730)::("reset_for",1740,.ref 1120)::("TcpTable",1820,.ref 1173)::("ISS_STEP",1824,.int 64 1823)::("Listener",1883,.ref 1215)::("Link",1926,.ref 1243)::("rows_out",1932,.ref 1252)::("TcpSockets",2196,.ref 1431)::("_law_pool",2209,.ref 1442)::("_law_take",2218,.ref 1449)::("_law_one",2226,.ref 1456)::("_law_tried",2233,.ref 1463)::("_law_next",2239,.ref 1468)::("_law_deed_right",2245,.ref 1473)::("_law_right",2257,.ref 1480)::("law",2263,.ref 1485):: [])
noncomputable def h2_3:Obj:=oF (.int 1 0::.int 0 0::.ref 20::.int 5 0::.int 0 0::.ref 27::.int 9 0::.int 0 0::.ref 47::.int 11 0::.int 0 0::.ref 59::.int 13 0::.int 0 0::.ref 71::.int 15 0::.int 0 0::.ref 83::.int 17 0::.int 0 0::.ref 95::.int 21 0::.int 0 0::.ref 107::.int 24 0::.int 0 0::.ref 114::.int 64 0::.int 0 0::.ref 171::.int 66 0::.int 0 0::.ref 178::.int 68 0::.int 0 0::.ref 185::.int 71 0::.int 0 0::.ref 192::.int 73 0::.int 0 0::.ref 199::.int 76 0::.int 0 0::.ref 206::.int 100 0::.int 0 0::.ref 263::.int 162 0::.int 0 0::.ref 354::.int 206 0::.int 0 0::.ref 431::.int 244 0::.int 0 0::.ref 487::.int 273 0::.int 0 0::.ref 543::.int 301 0::.int 0 0::.ref 585::.int 445 0::.int 0 0::.ref 776::.int 455 0::.int 0 0::.ref 783::.int 482 0::.int 0 0::.ref 826::.int 485 0::.int 0 0::.ref 833::.int 500 0::.int 0 0::.ref 840::.int 502 0::.int 0 0::.ref 847::.int 504 0::.int 0 0::.ref 854::.int 513 0::.int 0 0::.ref 861::.int 515 0::.int 0 0::.ref 868::.int 518 0::.int 0 0::.ref 875::.int 577 0::.int 0 0::.ref 942::.int 590 0::.int 0 0::.ref 963::.int 593 0::.int 0 0::.ref 970::.int 628 0::.int 0 0::.ref 1006::.int 633 0::.int 0 0::.ref 1013::.int 639 0::.int 0 0::.ref 1020::.int 644 0::.int 0 0::.ref 1027::.int 647 0::.int 0 0::.ref 1034::.int 654 0::.int 0 0::.ref 1041::.int 665 0::.int 0 0::.ref 1048::.int 675 0::.int 0 0::.ref 1055::.int 677 0::.int 0 0::.ref 1062::.int 679 0::.int 0 0::.ref 1069::.int 681 0::.int 0 0::.ref 1076::.int 688 0::.int 0 0::.ref 1083::.int 693 0::.int 0 0::.ref 1090::.int 703 0::.int 0 0::.ref 1097::.int 714 0::.int 0 0::.ref 1104::.int 726 0::.int 0 0::.ref 1111::.int 731 0::.int 0 0::.ref 1119::.int 739 0::.int 0 0::.ref 1126::.int 777 0::.int 0 0::.ref 1183::.int 798 0::.int 0 0::.ref 1225::.int 812 0::.int 0 0::.ref 1251::.int 814 0::.int 0 0::.ref 1258::.int 953 0::.int 0 0::.ref 1441::.int 958 0::.int 0 0::.ref 1448::.int 965 0::.int 0 0::.ref 1455::.int 967 0::.int 0 0::.ref 1462::.int 972 0::.int 0 0::.ref 1467::.int 981 0::.int 0 0::.ref 1472::.int 999 0::.int 0 0::.ref 1479::.int 1010 0::.int 0 0::.ref 1484:: [])
noncomputable def tr2_0 (P:Params):BT:=mkBT 12 (takeO (oo2 P (e2_0 P) (g2_0 P) h2_0) 15)
noncomputable def tr2_2 (P:Params):BT:=mkBT 12 (takeO (oo2 P (e2_2 P) (g2_2 P) h2_2) 856)
noncomputable def tr2_3 (P:Params):BT:=mkBT 12 (oo2 P (e2_3 P) (g2_3 P) h2_3)
noncomputable def dropS (l:List Stmt):Nat->List Stmt:=@List.rec Stmt (fun _=>Nat->List Stmt) (fun _=>[]) (fun a r ih n=>@Nat.rec (fun _=>List Stmt) (a::r) (fun n _=>ih n) n) l
noncomputable def takeS (l:List Stmt):Nat->List Stmt:=@List.rec Stmt (fun _=>Nat->List Stmt) (fun _=>[]) (fun a _ ih n=>@Nat.rec (fun _=>List Stmt) [] (fun n _=>a::ih n) n) l
theorem pc2_0 (w:World):(fun(p:Program) (b:List Stmt)(os:OsState)=>
  Fast.tw10110043849684766642 Fast.tw14364793385576792824 p w 11 (some (.ref 6)) 1 6287 (top0 15 (tr2_0 w.params) 187 os)
   (piecesOf (takeS (dropS b2 0) 60) env2 (.body b env2) ⟨0,0,0,0⟩ [topFrame ⟨0,0,0,0⟩]))=
 fun p b os=>some (.next,top0 856 (tr2_2 w.params) 1340 os,.body b env2,⟨504,0,512,74⟩):=by kernel_rfl
theorem pc2_1 (w:World):(fun(p:Program) (b:List Stmt)(os:OsState)=>
  Fast.tw10110043849684766642 Fast.tw14364793385576792824 p w 11 (some (.ref 6)) 1 4051 (top0 856 (tr2_2 w.params) 1340 os)
   (piecesOf (takeS (dropS b2 60) 54) env2 (.body b env2) ⟨504,0,512,74⟩ [topFrame ⟨0,0,0,0⟩]))=
 fun p b os=>some (.next,top0 1486 (tr2_3 w.params) 2264 os,.body b env2,⟨1010,0,1019,34⟩):=by kernel_rfl
section
noncomputable def q02:Program:={P02 with main:={P02.main with body:=[at1 P02.main.body 113]}}
noncomputable def loose02:List Str:=((P02.main.body.flatMap bindsAtTop).eraseDups).filter (fun x=>x != "law")
noncomputable def H02 (p:Params):Heap:=absHeap (tr2_3 p) 1486 {}
noncomputable abbrev fin02 (w:World)(os:OsState):Shared:={heap:=H02 w.params,gens:=⟨[]⟩,drawn:={},toks:=2264,os:=os}
theorem open02:∀w:World,(fencedOpening treeTable P02 w 20762).map (fun s=>(s.heap,s.gens,s.drawn,s.toks))=some (boot_heap w.params,Array.mk [],boot_drawn,boot_toks):=
 boot_open (by kernel_rfl) (by decide) (fun s=>rfl)
theorem pre02 (w:World)(os:OsState):topGo treeTable P02 w 11 (some (Value.ref 6)) 12 ⟨boot_heap w.params,⟨[]⟩,boot_drawn,boot_toks,os⟩ (topStub P02)=
  some ((top0 15 (tr2_0 w.params) 187 os).abs,⟨denote treeTable (.body (behindTheImports P02) env2),Code.body (behindTheImports P02) env2,⟨0,0,0,0⟩,[topFrame ⟨0,0,0,0⟩]⟩):=by kernel_rfl
theorem block02 (w:World)(os:OsState):segRun treeTable P02 w 11 (some (Value.ref 6)) 1 1 (top0 15 (tr2_0 w.params) 187 os).abs (blockOf (behindTheImports P02) env2 (Code.body (behindTheImports P02) env2) ⟨0,0,0,0⟩ [topFrame ⟨0,0,0,0⟩])=
  some (.next,(top0 15 (tr2_0 w.params) 187 os).abs,Code.body (behindTheImports P02) env2,⟨0,0,0,0⟩):=by kernel_rfl
theorem last02 (w:World)(os:OsState):topRun treeTable P02 w 11 (some (Value.ref 6)) 2 (top0 1486 (tr2_3 w.params) 2264 os).abs
  (restOf [] env2 (Code.body (behindTheImports P02) env2) ⟨1010,0,1019,34⟩ [topFrame ⟨0,0,0,0⟩])=some (fin02 w os):=by kernel_rfl
theorem parts02:behindTheImports P02=takeS (dropS b2 0) 60++(takeS (dropS b2 60) 54++[]):=by kernel_rfl
theorem seg_tw {p:Program} {w:World} {n:Nat}{s s':SharedT} {t:Thread} {b:List Stmt} {q:Pos} {e:Env}
  (h:Fast.tw10110043849684766642 Fast.tw14364793385576792824 p w 11 (some (.ref 6)) 1 n s t=some (.next,s',.body b e,q)):
  segRun treeTable p w 11 (some (.ref 6)) 1 n s.abs t=some (.next,s'.abs,.body b e,q):=by
 refine segRun_of ?_
 rw[Fast.te10110043849684766642,Fast.te14364793385576792824]
 exact h
theorem run02:∃M,Nat.ble M 20762=true/\∀ (w:World)(os:OsState),topRun treeTable P02 w 11 (some (Value.ref 6)) M ⟨boot_heap w.params,⟨[]⟩,boot_drawn,boot_toks,os⟩ (topStub P02)=some (fin02 w os):=by
 refine⟨_,?h,fun w os=>go_top (pre02 w os) (piece_block (block02 w os) (parts02▸piece_app (seg_tw (congrFun (congrFun (congrFun (pc2_0 w) P02) (behindTheImports P02)) os)) (piece_app (seg_tw (congrFun (congrFun (congrFun (pc2_1 w) P02) (behindTheImports P02)) os)) (last02 w os))))⟩
 decide
noncomputable def YP02 (w:World) (h:Heap):Prop:=∀b o,(H02 w.params).get? b=some o->h.get? b=some o
section
variable (w:World)(os:OsState)
theorem l1:(staticsOk (importedModules P02.main.body) (boot_heap w.params) (H02 w.params) && namesBound P02 (H02 w.params) && gensDone (fin02 w os) && laidKept (boot_heap w.params) (H02 w.params))=true:=by kernel_rfl
theorem l2:openSeen q02 loose02 (importedModules P02.main.body) (fun _=>true) true (fin02 w os)=openGood q02 loose02:=by kernel_rfl
theorem l3:((boot_heap w.params).isNs mainGlobals && (⟨[]⟩:Array GenState).size == 0,(boot_heap w.params).objs.size,(boot_heap w.params).nsMap mainGlobals "__annotations__")=(true,11,some (Value.ref 6)):=by kernel_rfl
end
theorem left02:LeftO P02 q02 loose02 (fun _=>true) (fun s=>s.heap) (fun w=>H02 w.params) 20762:=by
 obtain⟨M,hM,run⟩:=run02
 exact LeftO.of_pieces open02 l3 run hM fun w=>funext fun os=>Prod.ext (l1 w os) (Prod.ext (l2 w os) rfl)
end
abbrev lw:=PySem.Challenge.rw_qz0163_02
theorem sd1:namesResolve (OpenLaw.row lw).prog=true:=by kernel_rfl
theorem sd2:noRoadLSs {strict:=!(importedModules (OpenLaw.row lw).prog.main.body).all cThrough.contains,foot:=none,bare:=(["vars","dir","locals"]:List Str).filter (readsOut (OpenLaw.row lw).prog (OpenLaw.row lw).prog.main.body)} (OpenLaw.row lw).prog.main.body=true:=by kernel_rfl
theorem sd3:(namesMeet (OpenLaw.row lw).prog (OpenLaw.row lw).prog.main.body fun _ n=>attrL n)=true:=by kernel_rfl
theorem sd4:(lw.bound'.all fun n=>!builtinNamed n || lw.about == [n] || !lw.reads n)=true:=by kernel_rfl
theorem sd5:namesMeet lw.prog lw.above (fun _ n=>!lw.own.contains n)=true:=by kernel_rfl
theorem said02:OpenLaw.wellSaid PySem.Challenge.rw_qz0163_02=true:=by
 unfold OpenLaw.wellSaid OpenRow.wellSaid OpenRow.partSaid looksOpen
 repeat' with_reducible apply look_both
 all_goals first | with_reducible exact sd1 | with_reducible exact sd2 | with_reducible exact sd3 | with_reducible exact sd4 | with_reducible exact sd5 | kernel_rfl
theorem head02 (call:∀d kwd,d.name=R02.name->WalkO q02 loose02 (fun _ _=>True) YP02 R02.toRowW d kwd fun f vs=>PySem.call f vs):PySem.Challenge.rw_qz0163_02.Holds:=by
 refine holds_law said02 fun said=>?_
 exact holds_open (q:=q02) (loose:=loose02) (XP:=fun _ _=>True) (YP:=YP02) left02 (fun w s e b o q=>e▸q) (fun w h h' y k b o q=>k b o (y b o q)) (fun _ _=>trivial) (fun _ _ _ _ _=>trivial)
  (by rfl) (by rfl) (by rfl) (fun _ _=>recFacts_nil rfl) (by rfl) (by assumption) (by decide+kernel) ⟨rfl,rfl,rfl,rfl,rfl,by decide+kernel⟩ ⟨[.list []],by decide+kernel,by decide+kernel⟩ (call _ _ (by rfl))
theorem ints_read {R:WRecords}{cl:Str->Option Addr} {h:Heap}:∀ {ns:List Int}{vs:List Value}{as:List Addr},ReadsAllW R cl h vs (ns.map WData.int) as->vs.length=ns.length/\∀x∈vs,∃z t,x=.int z t
 | [],_,_,hr=>by cases hr; exact⟨rfl,fun x h=>by cases h⟩
 | z::ns,_,_,hr=>by
  cases hr with
  | cons h1 h2=>
   obtain⟨g1,g2⟩:=ints_read h2
   refine⟨by rw[List.length_cons,List.length_cons,g1],fun x hm=>?_⟩
   rcases List.mem_cons.mp hm with e | e
   ·subst e
    cases h1
    exact⟨_,_,rfl⟩
   ·exact g2 x e
theorem law_at (w:World) (h:Heap) (y:YP02 w h){mg:Str->Option Value}(hn:h.Ns mainGlobals mg):mg (Str.ofString "law")=some (.ref 1485):=by
 have e:(H02 w.params).get? 3=some (g2_3 w.params):=(abs_get (t:=tr2_3 w.params) (n:=1486) (life:={}) (a:=3) (o:=g2_3 w.params) (by decide) (by kernel_rfl)).trans rfl
 obtain⟨o,es,ep,h1,h2,_,h4⟩:=hn
 have:=y 3 _ e
 rw[show mainGlobals=3 from rfl,this] at h1
 cases h1
 rw[<- h4]
 cases h2
 kernel_rfl
theorem pre_len {ns:List Int} (h:WTm.holds R02.toRowW.records R02.toRowW.pre {args:=[WData.list (ns.map WData.int)]}=true):ns.length<=63:=by
 have h:WTm.holds [] (.and (.not (.lt (.lit (.int 63)) (.len (.arg 0)))) (.lit (.bool true))) {args:=[WData.list (ns.map WData.int)]}=true:=h
 unfold WTm.holds at h
 simp[WTm.value] at h
 have e:less? (WData.int 63) (WData.int (ns.length:Int))=some (decide ((63:Int) < (ns.length:Int))):=by first | rfl | simp[less?]
 rw[e] at h
 by_cases hc:(63:Int) < (ns.length:Int)
 ·rw[decide_eq_true hc] at h
  simp at h
 ·omega
theorem law02_of (walk:∀ (w:World)(s₁:Shared) (L:Addr) (o:Obj)(xs:Array Value) (n:Nat),YP02 w s₁.heap->s₁.gens=#[]->s₁.heap.get? L=some o->o.cls=.type "list"->o.data=.seq xs n->
  (∀x∈xs.toList,∃z t,x=.int z t)->xs.size<=63->
  wpAny (model R02.toRowW.prog w) callerA (PySem.call (.ref 1485) [.ref L]) (fun v s'=>v=.bool true/\OldK s₁.heap s'.heap/\s'.os=s₁.os/\s'.gens=#[]) (fun _ _=>False) s₁):PySem.Challenge.rw_qz0163_02.Holds:=by
 refine head02 fun d kwd hd w s₀ s₁ mg mb G Y a o pm cd doc dV kV ha hfd hcd hdf hmg hg args vals as hpre hlay hrd hwell has=>?_
 have ea:a=1485:=by
  have:=law_at w s₁.heap Y G.T.g
  rw[hd] at hmg
  have h2:=hmg.symm.trans this
  cases h2; rfl
 subst ea
 obtain⟨h1,h2⟩:=pre_splitW hpre
 obtain⟨d1,r1,rfl,h3,h4⟩:=hasAllW_cons h1
 obtain rfl:=hasAllW_nil h4
 obtain⟨xs0,rfl,h5⟩:=hasW_list h3
 obtain⟨ns,rfl⟩:=items_int h5
 cases hrd with
 | cons r1 r2=>
 cases r2
 cases r1 with
 | list q1 q2 q3 q4=>
  obtain⟨hl,hi⟩:=ints_read q4
  refine wpAny_mono (walk w s₁ _ _ _ _ Y hg q1 q2 q3 hi (by have:=pre_len h2; rw[Array.length_toList] at hl; omega)) (fun v s' hv=>?_) fun _ _ x=>x.elim
  obtain⟨rfl,k1,k2,k3⟩:=hv
  refine⟨.inl ⟨.bool true,.bool true,[],rfl,fun cls=>rfl,.bool true,?_,fun _=>⟨List.nodup_nil,fun a ha=>by cases ha⟩⟩,k1,k2,by rw[k3]; exact .of_eq rfl⟩
  kernel_rfl
inductive Tr where
 | nil
 | node (v:Option (Addr×Obj)) (l r:Tr)
noncomputable def Tr.getX (t:Tr):Nat->Option (Addr×Obj):=@Tr.rec (fun _=>Nat->Option (Addr×Obj)) (fun _=>none)
 (fun v _ _ gl gr i=>@Bool.rec (fun _=>Option (Addr×Obj)) (@Bool.rec (fun _=>Option (Addr×Obj)) (gr (Nat.sub (Nat.div i 2) 1)) (gl (Nat.div i 2)) (Nat.beq (Nat.mod i 2) 1)) v (Nat.beq i 0)) t
@[irreducible] noncomputable def Tr.get (t:Tr) (i:Nat):Option (Addr×Obj):=t.getX i
noncomputable def Tr.putX (n:Nat):Tr->Nat->Option (Addr×Obj)->Tr:=@Nat.rec (fun _=>Tr->Nat->Option (Addr×Obj)->Tr) (fun t _ _=>t)
 (fun _ ih t i x=>@Tr.rec (fun _=>Tr)
  (@Bool.rec (fun _=>Tr) (@Bool.rec (fun _=>Tr) (.node none .nil (ih .nil (Nat.sub (Nat.div i 2) 1) x)) (.node none (ih .nil (Nat.div i 2) x) .nil) (Nat.beq (Nat.mod i 2) 1)) (.node x .nil .nil) (Nat.beq i 0))
  (fun v l r _ _=>@Bool.rec (fun _=>Tr) (@Bool.rec (fun _=>Tr) (.node v l (ih r (Nat.sub (Nat.div i 2) 1) x)) (.node v (ih l (Nat.div i 2) x) r) (Nat.beq (Nat.mod i 2) 1)) (.node x l r) (Nat.beq i 0)) t) n
@[irreducible] noncomputable def Tr.put (n:Nat) (t:Tr) (i:Nat) (x:Option (Addr×Obj)):Tr:=Tr.putX n t i x
inductive Eqn where
 | n (a b:Nat)
 | t (a b:Sem Fin)
 | c (a b:Code)
 | o (a b:Obj)
 | s (a b:String)
 | k (a b:Pos->List (Code×Pos)->Sem Fin)
noncomputable def Eqn.ok:Eqn->Prop
 | .n a b=>a=b
 | .t a b=>a=b
 | .c a b=>a=b
 | .o a b=>a=b
 | .s a b=>a=b
 | .k a b=>a=b
noncomputable def Eqn.swap:Eqn->Eqn
 | .n a b=>.n b a
 | .t a b=>.t b a
 | .c a b=>.c b a
 | .o a b=>.o b a
 | .s a b=>.s b a
 | .k a b=>.k b a
structure Con where
 code:Code
 n:Nat
 t:Nat
 pre:List (Addr×Obj)
 post:List Obj
 news:List (Addr×Obj)
 res:Result
 dm:Nat
 dt:Nat
 nd:Nat
inductive KS where
 | base
 | ret (c:Code) (dp un:Nat) (fx:Option Bool) (k:Result->Sem Fin) (κ:KS)
structure St where
 T:Tr
 m:Nat
 zb:Nat
 zk:Nat
 tb:Nat
 tk:Nat
 hs:List Nat
 es:List Eqn
 bs:List (Bool×Bool)
structure Cf where
 c:Code
 dp:Nat
 un:Nat
 κ:KS
 t:Sem Fin
 s:St
structure Vx where
 w:World
 fz:Addr->Option Obj
 nd:Nat
 cons:List Con
 ro:List (Addr×Obj)
inductive Out where
 | done (r:Result) (s:St)
 | call (c':Code) (k:Result->Sem Fin) (c:Code) (dp un:Nat) (κ:KS) (s:St)
 | again (c':Code) (κ:KS) (s:St)
 | stuck (n a:Nat) (s:St)
 | more (cf:Cf)
noncomputable def nthL {α:Type} (l:List α):Nat->Option α:=@List.rec α (fun _=>Nat->Option α) (fun _=>none) (fun a _ ih i=>@Nat.rec (fun _=>Option α) (some a) (fun i _=>ih i) i) l
noncomputable def baseLook (P:Params) (a:Nat):Option Obj:=match Nat.beq a 1470 with
 | true=>none
 | false=>match Nat.blt a 1486 with
  | false=>none
  | true=>match (tr2_3 P).get a with
   | some o=>alive o
   | none=>none
noncomputable def denF:Code->Sem Fin:=Fast.tw11892475500146522536 Fast.tw14364793385576792824
theorem denF_eq:denF=denote table:=by
 unfold denF
 rw[<- Fast.te11892475500146522536,<- Fast.te14364793385576792824,table_eq_tree]
noncomputable def ids:List (String×Nat):=[("object.__setattr__",0),("proto.getattr_hooked",0),("type.__call__",1),("object.__new__",0),("object.__init__",0),("int.__add__",0),("int.__sub__",0),("int.__mul__",0),("int.__mod__",0),("int.__floordiv__",0),("int.__eq__",0),("int.__ne__",0),("int.__lt__",0),("int.__le__",0),("int.__gt__",0),("int.__ge__",0),("int.__and__",0),("int.__or__",0),("int.__rshift__",0),("int.__hash__",0),("int.__bool__",0),("int.__neg__",0),("int.__int__",0),("int.__new__",0),("int.__pow__",0),("str.__eq__",0),("str.__hash__",0),("str.__ne__",0),("list.append",0),("list.__iter__",0),("list.__getitem__",0),("list.__setitem__",0),("list.__len__",0),("list.__eq__",0),("list.__ne__",0),("list.__eq__.loop",0),("list.__contains__",0),("list.__add__",0),("list.__iadd__",0),("list.remove",0),("list.sort",0),("list_iterator.__next__",0),("tuple.__iter__",0),("tuple.__getitem__",0),("tuple.__contains__",0),("tuple.__eq__",0),("tuple.__hash__",0),("tuple_iterator.__next__",0),("range.__new__",0),("range.__iter__",0),("range_iterator.__iter__",0),("list_iterator.__iter__",0),("tuple_iterator.__iter__",0),("dict_keyiterator.__iter__",0),("dict_valueiterator.__iter__",0),("range_iterator.__next__",0),("dict.__getitem__",0),("dict.__setitem__",0),("dict.__contains__",0),("dict.__iter__",0),("dict.__len__",0),("dict.__eq__",0),("dict.get",0),("dict.pop",0),("dict.values",0),("dict_values.__iter__",0),("dict_valueiterator.__next__",0),("dict_keyiterator.__next__",0),("proto.let_go",0),("proto.collect",0),("proto.contains_iter",0),("proto.index",0),("sorted",0),("len",0),("min",0),("max",0),("any",0),("any.loop",0),("min.loop",0),("max.loop",0),("bytes.__new__",0),("bytes.__add__",0),("bytes.__len__",0),("issubclass",0),("Exception.__new__",0),("bytes.__new__.loop",0),("list.__contains__.loop",0),("list.remove.loop",0),("list.extend",0),("list.extend.loop",0),("list.pop",0),("list.__new__",0),("list.__init__",0),("tuple.__len__",0),("tuple.__new__",0),("tuple.__add__",0),("tuple.__ne__",0),("int.__lshift__",0),("int.__xor__",0),("int.__invert__",0)]
noncomputable def kindOf (c:Code)(hs:List Nat)(es:List Eqn) (K:Nat->Nat->List Nat->List Eqn->Out)(bad:Out):Out:=match c with
 | .builtin id _=>(match hs with
  | h::hs=>(match nthL ids h with
   | some p=>K p.2 4 hs (.s id p.1::es)
   | none=>bad)
  | []=>bad)
 | .call _ _=>K 0 1 hs es
 | .func _ _=>K 1 3 hs es
 | .expr _ _=>K 1 3 hs es
 | .block _ _=>K 0 0 hs es
 | .forLoop ..=>K 0 0 hs es
 | .compStart e ..=>(match e with | .ListComp ..=>K 0 0 hs es | _=>bad)
 | .compLoop e ..=>(match e with | .ListComp ..=>K 0 0 hs es | _=>bad)
 | _=>bad
noncomputable def rooms:List String:=["comparison","hash","call"]
noncomputable def takeP (pre:List (Addr×Obj)):Tr->List Obj->Tr->List Nat->List Eqn->(Tr->List Nat->List Eqn->Out)->Out->Out:=
 @List.rec (Addr×Obj) (fun _=>Tr->List Obj->Tr->List Nat->List Eqn->(Tr->List Nat->List Eqn->Out)->Out->Out)
  (fun _ _ T hs es K _=>K T hs es)
  (fun p _ ih T₀ post T hs es K bad=>match post with
   | []=>bad
   | o'::post=>match hs with
    | []=>bad
    | j::hs=>match T₀.get j with
     | none=>bad
     | some q=>match Nat.blt j 4094 with
      | false=>bad
      | true=>ih (T₀.put 12 j none) post (T.put 12 j (some (q.1,o'))) hs (.n p.1 q.1::.o q.2 p.2::es) K bad) pre
noncomputable def putN (news:List (Addr×Obj)):Nat->Tr->(Nat->Tr->Out)->Out->Out:=
 @List.rec (Addr×Obj) (fun _=>Nat->Tr->(Nat->Tr->Out)->Out->Out) (fun m T K _=>K m T)
  (fun p _ ih m T K bad=>match Nat.blt m 4094 with
   | false=>bad
   | true=>ih (Nat.succ m) (T.put 12 m (some p)) K bad) news
noncomputable def popS (rn:Cf->Out) (r:Result) (κ:KS) (s:St):Out:=match κ with
 | .base=>.done r s
 | .ret c dp un fx k κ=>match fx with
  | none=>rn ⟨c,dp,un,κ,k r,s⟩
  | some b=>match r with
   | .ok f=>(match f with
    | .ret v=>(match v with
     | .bool x=>(match s with
      | ⟨T,m,zb,zk,tb,tk,hs,es,bs⟩=>rn ⟨c,dp,un,κ,k (.ok (.ret (.bool b))),⟨T,m,zb,zk,tb,tk,hs,es,(x,b)::bs⟩⟩)
     | _=>.stuck 20 0 s)
    | _=>.stuck 21 0 s)
   | .error _=>.stuck 22 0 s
noncomputable def enterS (V:Vx)(rn:Cf->Out) (c:Code)(dp un:Nat) (κ:KS)(c':Code)(fx:Option Bool) (k:Result->Sem Fin) (T:Tr)(m zb zk tb tk:Nat)(hs:List Nat)(es:List Eqn)(bs:List (Bool×Bool)):Out:=
 kindOf c' hs es (fun w u hs es=>rn ⟨c',Nat.add dp w,Nat.add un u,.ret c dp un fx k κ,denF c',⟨T,m,zb,zk,tb,tk,hs,es,bs⟩⟩) (.stuck 30 0 ⟨T,m,zb,zk,tb,tk,hs,es,bs⟩)
noncomputable def belowOf:KS->Nat×Nat
 | .base=>(0,0)
 | .ret _ dp un _ _ _=>(dp,un)
noncomputable def stepS (V:Vx)(rn:Cf->Out):Cf->Out
 | ⟨c,dp,un,κ,t,s⟩=>match t with
  | .pure fin=>(match fin with
   | .done f=>popS rn (.ok f) κ s
   | .again c'=>(match s with
    | ⟨T,m,zb,zk,tb,tk,hs,es,bs⟩=>match hs with
     | []=>.stuck 1 0 s
     | h::hs=>match h with
      | 0=>kindOf c' hs es (fun w u hs es=>rn ⟨c',Nat.add (belowOf κ).1 w,Nat.add (belowOf κ).2 u,κ,denF c',⟨T,m,zb,zk,tb,tk,hs,es,bs⟩⟩) (.stuck 31 0 s)
      | _=>kindOf c' hs es (fun _ _ hs es=>.again c' κ ⟨T,m,zb,zk,tb,tk,hs,es,bs⟩) (.stuck 31 0 s)))
  | .raise e=>popS rn (.error e) κ s
  | .rule _ k=>rn ⟨c,dp,un,κ,k (),s⟩
  | .at _ k=>rn ⟨c,dp,un,κ,k (),s⟩
  | .point _ k=>rn ⟨c,dp,un,κ,k (),s⟩
  | .ask k=>rn ⟨c,dp,un,κ,k ⟨P02,V.w.params⟩,s⟩
  | .handled own k=>(match own with
   | false=>rn ⟨c,dp,un,κ,k none,s⟩
   | true=>.stuck 2 0 s)
  | .fresh k=>(match s with
   | ⟨T,m,zb,zk,tb,tk,hs,es,bs⟩=>rn ⟨c,dp,un,κ,k (Nat.add tb tk),⟨T,m,zb,zk,tb,Nat.succ tk,hs,es,bs⟩⟩)
  | .alloc o k=>(match s with
   | ⟨T,m,zb,zk,tb,tk,hs,es,bs⟩=>match o.isFreed with
    | true=>.stuck 3 0 s
    | false=>match Nat.blt m 4094 with
     | false=>.stuck 4 0 s
     | true=>rn ⟨c,dp,un,κ,k (Nat.add zb zk),⟨T.put 12 m (some (Nat.add zb zk,o)),Nat.succ m,zb,Nat.succ zk,tb,tk,hs,es,bs⟩⟩)
  | .load a _ k=>(match s with
   | ⟨T,m,zb,zk,tb,tk,hs,es,bs⟩=>match hs with
    | []=>.stuck 5 a s
    | h::hs=>match h with
     | 0=>(match baseLook V.w.params a with
      | some o=>rn ⟨c,dp,un,κ,k o,⟨T,m,zb,zk,tb,tk,hs,es,bs⟩⟩
      | none=>.stuck 6 a s)
     | 1=>(match hs with
      | []=>.stuck 5 a s
      | j::hs=>(match nthL V.ro j with
       | some q=>rn ⟨c,dp,un,κ,k q.2,⟨T,m,zb,zk,tb,tk,hs,.n a q.1::es,bs⟩⟩
       | none=>.stuck 7 a s))
     | j+2=>(match T.get j with
      | some q=>rn ⟨c,dp,un,κ,k q.2,⟨T,m,zb,zk,tb,tk,hs,.n a q.1::es,bs⟩⟩
      | none=>.stuck 7 a s))
  | .update a _ f k=>(match s with
   | ⟨T,m,zb,zk,tb,tk,hs,es,bs⟩=>match hs with
    | []=>.stuck 8 a s
    | j::hs=>match T.get j with
     | some q=>(match (f q.2).isFreed with
      | true=>.stuck 9 a s
      | false=>rn ⟨c,dp,un,κ,k (),⟨T.put 12 j (some (q.1,f q.2)),m,zb,zk,tb,tk,hs,.n a q.1::es,bs⟩⟩)
     | none=>.stuck 10 a s)
  | .stack k=>(match s with
   | ⟨T,m,zb,zk,tb,tk,hs,es,bs⟩=>match hs with
    | []=>.stuck 11 0 s
    | h::hs=>match Nat.ble dp V.nd,Nat.ble un (Nat.mul 4 V.nd) with
     | true,true=>(match h with
     | 0=>(match k [(c,default)] with
      | .load a _ k₂=>(match baseLook V.w.params 2 with
       | some o=>rn ⟨c,dp,un,κ,k₂ o,⟨T,m,zb,zk,tb,tk,hs,.n a 2::.t (.stack k) (R.bindR (Fast.tw15066281185411960212 0) fun _=>k₂ o)::es,bs⟩⟩
       | none=>.stuck 12 0 s)
      | _=>.stuck 13 0 s)
     | 1=>rn ⟨c,dp,un,κ,k [(c,default)],⟨T,m,zb,zk,tb,tk,hs,.k (fun p l=>k ((c,p)::l)) (fun _ _=>k [(c,default)])::es,bs⟩⟩
     | h+2=>match nthL rooms h with
      | some what=>rn ⟨c,dp,un,κ,k [(c,default)],⟨T,m,zb,zk,tb,tk,hs,.t (.stack k) (R.bindR (Fast.tw10648789137845014744 what) fun _=>k [(c,default)])::es,bs⟩⟩
      | none=>.stuck 14 0 s)
     | _,_=>.stuck 26 0 s)
  | .call c' hd _ _ k=>(match hd with
   | some _=>.stuck 15 0 s
   | none=>match s with
    | ⟨T,m,zb,zk,tb,tk,hs,es,bs⟩=>match hs with
     | []=>.stuck 16 0 s
     | h::hs=>match h with
      | 0=>enterS V rn c dp un κ c' none k T m zb zk tb tk hs es bs
      | 1=>enterS V rn c dp un κ c' (some true) k T m zb zk tb tk hs es bs
      | 2=>enterS V rn c dp un κ c' (some false) k T m zb zk tb tk hs es bs
      | 3=>.call c' k c dp un κ ⟨T,m,zb,zk,tb,tk,hs,es,bs⟩
      | h+4=>match hs with
       | []=>.stuck 19 h s
       | rb::hs=>match nthL V.cons h with
        | none=>.stuck 17 h s
        | some C=>(match Nat.ble (Nat.add dp C.nd) V.nd,Nat.ble (Nat.add un (Nat.mul 4 C.nd)) (Nat.mul 4 V.nd) with
         | true,true=>takeP C.pre T C.post T hs (.c c' C.code::.n C.n (Nat.add zb zk)::.n C.t (Nat.add tb tk)::es)
            (fun T hs es=>putN C.news m T (fun m T=>match rb with
             | 0=>rn ⟨c,dp,un,κ,k C.res,⟨T,m,zb,Nat.add zk C.dm,tb,Nat.add tk C.dt,hs,es,bs⟩⟩
             | _=>rn ⟨c,dp,un,κ,k C.res,⟨T,m,Nat.add C.n C.dm,0,Nat.add C.t C.dt,0,hs,es,bs⟩⟩) (.stuck 23 h s)) (.stuck 24 h s)
         | _,_=>.stuck 18 h s))
  | _=>.stuck 25 0 s
noncomputable def runS (V:Vx) (n:Nat):Cf->Out:=@Nat.rec (fun _=>Cf->Out) (fun cf=>.more cf) (fun _ ih=>stepS V ih) n
section
theorem beq_dec (a b:Nat):Nat.beq a b=decide (a=b):=BT.beq_eq a b
theorem Tr.getX_node (v:Option (Addr×Obj))(l r:Tr) (i:Nat):(Tr.node v l r).getX i=if i=0 then v else if i % 2=1 then l.getX (i / 2) else r.getX (i / 2 - 1):=by
 show @Bool.rec (fun _=>Option (Addr×Obj)) (@Bool.rec (fun _=>Option (Addr×Obj)) (r.getX (i / 2 - 1)) (l.getX (i / 2)) (Nat.beq (i % 2) 1)) v (Nat.beq i 0)=_
 rw[beq_dec,beq_dec]
 by_cases h:i=0
 ·simp[h]
 ·by_cases q:i % 2=1<;>simp[h,q]
theorem Tr.putX_nil (n i:Nat) (x:Option (Addr×Obj)):Tr.putX (n+1) .nil i x=if i=0 then .node x .nil .nil else if i % 2=1 then .node none (Tr.putX n .nil (i / 2) x) .nil else .node none .nil (Tr.putX n .nil (i / 2 - 1) x):=by
 show @Bool.rec (fun _=>Tr) (@Bool.rec (fun _=>Tr) (.node none .nil (Tr.putX n .nil (i / 2 - 1) x)) (.node none (Tr.putX n .nil (i / 2) x) .nil) (Nat.beq (i % 2) 1)) (.node x .nil .nil) (Nat.beq i 0)=_
 rw[beq_dec,beq_dec]
 by_cases h:i=0
 ·simp[h]
 ·by_cases q:i % 2=1<;>simp[h,q]
theorem Tr.putX_node (n:Nat) (v:Option (Addr×Obj))(l r:Tr) (i:Nat) (x:Option (Addr×Obj)):Tr.putX (n+1) (.node v l r) i x=if i=0 then .node x l r else if i % 2=1 then .node v (Tr.putX n l (i / 2) x) r else .node v l (Tr.putX n r (i / 2 - 1) x):=by
 show @Bool.rec (fun _=>Tr) (@Bool.rec (fun _=>Tr) (.node v l (Tr.putX n r (i / 2 - 1) x)) (.node v (Tr.putX n l (i / 2) x) r) (Nat.beq (i % 2) 1)) (.node x l r) (Nat.beq i 0)=_
 rw[beq_dec,beq_dec]
 by_cases h:i=0
 ·simp[h]
 ·by_cases q:i % 2=1<;>simp[h,q]
theorem Tr.getX_putX (x:Option (Addr×Obj)):∀ (n:Nat) (t:Tr)(i j:Nat),i+1 < 2 ^ n->(t.putX n i x).getX j=if j=i then x else t.getX j
 | 0,_,i,_,h=>by simp at h
 | n+1,t,i,j,h=>by
  have h2:2 ^ (n+1)=2 * 2 ^ n:=by rw[Nat.pow_succ,Nat.mul_comm]
  have hl:i % 2=1->i / 2+1 < 2 ^ n:=fun q=>by omega
  have hr:i≠0->i % 2≠1->i / 2 - 1+1 < 2 ^ n:=fun q p=>by omega
  have key:∀v l r,((if i=0 then Tr.node x l r else if i % 2=1 then .node v (Tr.putX n l (i / 2) x) r else .node v l (Tr.putX n r (i / 2 - 1) x)):Tr).getX j=if j=i then x else (Tr.node v l r).getX j:=fun v l r=>by
   by_cases hi:i=0
   ·subst hi; rw[if_pos rfl,getX_node,getX_node]; by_cases hj:j=0<;>simp[hj]
   ·rw[if_neg hi]
    by_cases p:i % 2=1
    ·rw[if_pos p,getX_node,getX_node]
     by_cases hj:j=0
     ·simp[hj,Ne.symm hi]
     ·by_cases q:j % 2=1
      ·rw[if_neg hj,if_pos q,getX_putX x n l _ _ (hl p)]
       by_cases e:j=i
       ·subst e; simp
       ·have:j / 2≠i / 2:=by omega
        simp[hj,q,e,this]
      ·have:j≠i:=fun e=>q (e▸p)
       simp[hj,q,this]
    ·rw[if_neg p,getX_node,getX_node]
     by_cases hj:j=0
     ·simp[hj,Ne.symm hi]
     ·by_cases q:j % 2=1
      ·have:j≠i:=fun e=>p (e▸q)
       simp[hj,q,this]
      ·rw[if_neg hj,if_neg q,getX_putX x n r _ _ (hr hi p)]
       by_cases e:j=i
       ·subst e; simp
       ·have:j / 2 - 1≠i / 2 - 1:=by omega
        simp[hj,q,e,this]
  cases t with
  | nil=>
   rw[putX_nil,key none .nil .nil,getX_node]
   have e:∀k,Tr.nil.getX k=none:=fun _=>rfl
   simp[e]
  | node v l r=>rw[putX_node,key]
theorem get_put12 {i:Nat} (h:Nat.blt i 4094=true) (x:Option (Addr×Obj)) (t:Tr) (j:Nat):(t.put 12 i x).get j=if j=i then x else t.get j:=by
 unfold Tr.get Tr.put
 exact Tr.getX_putX x 12 t i j (by have:=le_of_ble_eq_true h; omega)
theorem swap_ok {l:List Eqn} (h:l.map Eqn.swap=l):∀e∈l,e.ok:=by
 induction l with
 | nil=>exact fun _ h=>nomatch h
 | cons e l ih=>
  rw[map_cons] at h
  intro x hx
  cases hx with
  | head=>
   have:=(List.cons.inj h).1
   cases e<;>(injection this)
  | tail _ hx=>exact ih (List.cons.inj h).2 x hx
theorem nthL_mem {α:Type}:∀ {l:List α} {i:Nat} {a:α},nthL l i=some a->a∈l
 | [],_,_,h=>nomatch h
 | b::l,0,_,h=>by cases h; exact .head _
 | b::l,i+1,_,h=>.tail _ (nthL_mem (l:=l) (i:=i) h)
theorem nthL_get {α:Type}:∀ (l:List α) (i:Nat),nthL l i=l[i]?
 | [],_=>rfl
 | _::_,0=>rfl
 | _::l,i+1=>by rw[getElem?_cons_succ]; exact nthL_get l i
structure CtxOk (A:Around)(nd:Nat):Prop where
 hd:A.handled=none
 dp:A.depth+nd<=900
 un:A.units+4 * nd<=9000
structure BaseOk (w:World)(fz:Addr->Option Obj) (h:Heap):Prop where
 top:∀a o,baseLook w.params a=some o->h.get? a=some o
 fz:∀a o,fz a=some o->h.get? a=some o
structure Apart (w:World)(fz:Addr->Option Obj)(as:List Addr):Prop where
 nd:as.Nodup
 nb:∀a∈as,baseLook w.params a=none
 nz:∀a∈as,fz a=none
noncomputable def zipA:List (Addr×Obj)->List Obj->List (Addr×Obj)
 | p::ps,o::os=>(p.1,o)::zipA ps os
 | _,_=>[]
structure After (C:Con)(h h':Heap):Prop where
 size:h'.objs.size=C.n+C.dm
 post:∀p∈zipA C.pre C.post,h'.get? p.1=some p.2
 news:∀p∈C.news,h'.get? p.1=some p.2
 fresh:(C.news.map (·.1)).Nodup/\∀p∈C.news,C.n<=p.1
 keep:∀b o,h.get? b=some o->(∀p∈C.pre,p.1≠b)->h'.get? b=some o
def ConOk (w:World)(fz:Addr->Option Obj) (C:Con):Prop:=∀ (A:Around) (s:Shared),CtxOk A C.nd->Apart w fz (C.pre.map (·.1))->BaseOk w fz s.heap->s.heap.objs.size=C.n->s.toks=C.t->(∀p∈C.pre,s.heap.get? p.1=some p.2)->
 ∀R:Result->Shared->Prop,(∀h',After C s.heap h'->R C.res ⟨h',s.gens,s.drawn,C.t+C.dt,s.os⟩)->codeAny (model P02 w) A C.code R s
structure Fx where
 w:World
 fz:Addr->Option Obj
 as:List Addr
 n₁:Nat
 h₀:Heap
structure FxOk (F:Fx):Prop where
 ap:Apart F.w F.fz F.as
 lt:∀a∈F.as,a < F.n₁
 fl:∀a o,F.fz a=some o->a < F.n₁
 bl:1486<=F.n₁
 sz:F.h₀.objs.size=F.n₁
structure Rep (F:Fx) (h:Heap) (T:Tr)(m z:Nat):Prop where
 mb:m<=4094
 size:h.objs.size=z
 own:∀j p,T.get j=some p->j < m/\h.get? p.1=some p.2
 inj:∀i j p q,T.get i=some p->T.get j=some q->p.1=q.1->i=j
 off:∀j p,T.get j=some p->p.1∈F.as\/F.n₁<=p.1
 base:BaseOk F.w F.fz h
 keep:∀b o,F.h₀.get? b=some o->b∉F.as->h.get? b=some o
 le:F.n₁<=z
theorem baseLook_lt {P:Params} {a:Nat} {o:Obj} (h:baseLook P a=some o):a < 1486:=by
 unfold baseLook at h
 cases q:Nat.beq a 1470 with
 | true=>rw[q] at h; cases h
 | false=>
  rw[q] at h
  cases p:Nat.blt a 1486 with
  | true=>exact le_of_ble_eq_true p
  | false=>rw[p] at h; cases h
section
variable {F:Fx} (O:FxOk F) {h:Heap} {T:Tr}{m z:Nat}
include O
theorem Rep.nb (D:Rep F h T m z) {j:Nat} {p:Addr×Obj} (q:T.get j=some p):baseLook F.w.params p.1=none:=by
 rcases D.off j p q with e | e
 ·exact O.ap.nb _ e
 ·cases k:baseLook F.w.params p.1 with
  | none=>rfl
  | some o=>exact absurd (lt_of_lt_of_le (baseLook_lt k) (le_trans O.bl e)) (lt_irrefl _)
theorem Rep.nz (D:Rep F h T m z) {j:Nat} {p:Addr×Obj} (q:T.get j=some p):F.fz p.1=none:=by
 rcases D.off j p q with e | e
 ·exact O.ap.nz _ e
 ·cases k:F.fz p.1 with
  | none=>rfl
  | some o=>exact absurd (lt_of_lt_of_le (O.fl _ _ k) e) (lt_irrefl _)
theorem Rep.nk (D:Rep F h T m z) {j:Nat} {p:Addr×Obj} (q:T.get j=some p) {b:Nat} {o:Obj} (e:F.h₀.get? b=some o)(hb:b∉F.as):p.1≠b:=by
 rintro rfl
 rcases D.off j p q with k | k
 ·exact hb k
 ·exact absurd (lt_of_lt_of_le (O.sz▸Heap.lt_size e) k) (lt_irrefl _)
omit O in
theorem Rep.alloc (D:Rep F h T m z) {o:Obj}(hf:o.isFreed=false)(hm:Nat.blt m 4094=true):Rep F (h.push o) (T.put 12 m (some (z,o))) (m+1) (z+1):=by
 have nw:∀ {j:Nat} {p:Addr×Obj},T.get j=some p->p.1≠z:=fun {j p} q e=>by
  have:=Heap.lt_size (D.own j p q).2
  rw[D.size,e] at this; exact lt_irrefl _ this
 have el:∀ {j:Nat} {p:Addr×Obj},(T.put 12 m (some (z,o))).get j=some p->(j=m/\p=(z,o))\/(j≠m/\T.get j=some p):=fun {j p} q=>by
  rw[get_put12 hm] at q
  by_cases hj:j=m
  ·rw[if_pos hj] at q; cases q; exact .inl ⟨hj,rfl⟩
  ·rw[if_neg hj] at q; exact .inr ⟨hj,q⟩
 refine⟨le_of_ble_eq_true hm,by rw[Heap.size_push,D.size],fun j p q=>?_,fun i j p q hi hj e=>?_,fun j p q=>?_,⟨fun a o' q=>Heap.get?_push_of_some _ (D.base.top a o' q),fun a o' q=>Heap.get?_push_of_some _ (D.base.fz a o' q)⟩,fun b o' q r=>Heap.get?_push_of_some _ (D.keep b o' q r),Nat.le_succ_of_le D.le⟩
 ·rcases el q with⟨rfl,rfl⟩ | ⟨_,q⟩
  ·exact⟨Nat.lt_succ_self _,by rw[<- D.size]; exact Heap.get?_push_size _ hf⟩
  ·have:=D.own j p q
   exact⟨Nat.lt_succ_of_lt this.1,Heap.get?_push_of_some _ this.2⟩
 ·rcases el hi with⟨e1,e2⟩ | ⟨_,e1⟩<;>rcases el hj with⟨e3,e4⟩ | ⟨_,e3⟩
  ·exact e1.trans e3.symm
  ·exact absurd (e.symm.trans (congrArg Prod.fst e2)) (nw e3)
  ·exact absurd (e.trans (congrArg Prod.fst e4)) (nw e1)
  ·exact D.inj i j p q e1 e3 e
 ·rcases el q with⟨rfl,rfl⟩ | ⟨_,q⟩
  ·exact .inr D.le
  ·exact D.off j p q
theorem Rep.update (D:Rep F h T m z) {j:Nat} {q:Addr×Obj} {f:Obj->Obj} (e:T.get j=some q)(hf:(f q.2).isFreed=false):Rep F (h.update q.1 f) (T.put 12 j (some (q.1,f q.2))) m z:=by
 have hj:Nat.blt j 4094=true:=Nat.ble_eq_true_of_le (lt_of_lt_of_le (D.own _ _ e).1 D.mb)
 have hsb:Heap.SameBut q.1 h (h.update q.1 f):=Heap.SameBut.update ..
 have el:∀ {i:Nat} {p:Addr×Obj},(T.put 12 j (some (q.1,f q.2))).get i=some p->(i=j/\p=(q.1,f q.2))\/(i≠j/\T.get i=some p):=fun {i p} k=>by
  rw[get_put12 hj] at k
  by_cases hi:i=j
  ·rw[if_pos hi] at k; cases k; exact .inl ⟨hi,rfl⟩
  ·rw[if_neg hi] at k; exact .inr ⟨hi,k⟩
 refine⟨D.mb,by rw[hsb.1,D.size],fun i p k=>?_,fun i₁ i₂ p₁ p₂ k₁ k₂ ee=>?_,fun i p k=>?_,⟨fun a o' p=>(hsb.2 a fun z=>by have:=D.nb O e; rw[<- z,p] at this; cases this).trans (D.base.top a o' p),fun a o' p=>(hsb.2 a fun z=>by have:=D.nz O e; rw[<- z,p] at this; cases this).trans (D.base.fz a o' p)⟩,fun b o' p r=>(hsb.2 b fun z=>D.nk O e p r z.symm).trans (D.keep b o' p r),D.le⟩
 ·rcases el k with⟨rfl,rfl⟩ | ⟨hi,k⟩
  ·exact⟨(D.own _ _ e).1,Heap.get?_update_self f (D.own _ _ e).2 hf⟩
  ·have:=D.own _ _ k
   exact⟨this.1,(hsb.2 _ fun z=>hi (D.inj _ _ _ _ k e z)).trans this.2⟩
 ·rcases el k₁ with⟨e1,e2⟩ | ⟨_,e1⟩<;>rcases el k₂ with⟨e3,e4⟩ | ⟨_,e3⟩
  ·exact e1.trans e3.symm
  ·subst e1 e2; exact D.inj _ _ _ _ e e3 ee
  ·subst e3 e4; exact D.inj _ _ _ _ e1 e ee
  ·exact D.inj _ _ _ _ e1 e3 ee
 ·rcases el k with⟨e1,e2⟩ | ⟨_,k⟩
  ·subst e2; exact D.off _ (q.1,q.2) e
  ·exact D.off _ _ k
end
end
section
def aro (A:Around):KS->Around
 | .base=>A
 | .ret c _ _ _ _ κ=>(aro A κ).under c
def endK (w:World) (A:Around) (R:Result->Shared->Prop):KS->Result->Shared->Prop
 | .base=>R
 | .ret c _ _ _ k κ=>postR P02 w (aro A κ) c (postC P02 w (aro A κ) (endK w A R κ)) (postE (endK w A R κ)) k
def MN (w:World) (A:Around) (R:Result->Shared->Prop) (c:Code) (κ:KS) (t:Sem Fin) (s:Shared):Prop:=
 wpOwn (model P02 w) (aro A κ) c t (postC P02 w (aro A κ) (endK w A R κ)) (postE (endK w A R κ)) s
def Dep (A B:Around)(dp un:Nat):Prop:=B.depth<=A.depth+dp/\B.units<=A.units+un/\B.handled=A.handled
def KsOk (A:Around):KS->Prop
 | .base=>True
 | .ret c dp un _ _ κ=>Dep A ((aro A κ).under c) dp un/\KsOk A κ
theorem below_ok {A:Around}:∀ {κ:KS},KsOk A κ->Dep A (aro A κ) (belowOf κ).1 (belowOf κ).2
 | .base,_=>⟨le_refl _,le_refl _,rfl⟩
 | .ret ..,h=>h.1
theorem Dep.under {A B:Around}{dp un w u:Nat} {c:Code} (h:Dep A B dp un)(hw:c.weight<=w)(hu:c.cUnits<=u):Dep A (B.under c) (Nat.add dp w) (Nat.add un u):=
 ⟨by have:=h.1; show B.depth+c.weight<=A.depth+(dp+w); omega,by have:=h.2.1; show B.units+c.cUnits<=A.units+(un+u); omega,h.2.2⟩
theorem ids_all:(ids.all fun p=>plainId p.1 || (p.1 == "type.__call__" && Nat.beq p.2 1))=true:=by decide+kernel
theorem ids_ok {i:Nat} {p:String×Nat} (h:nthL ids i=some p)(args:Args):(Code.builtin p.1 args).quiet=true/\(Code.builtin p.1 args).weight<=p.2/\(Code.builtin p.1 args).cUnits<=4:=by
 have:=List.all_eq_true.mp ids_all p (nthL_mem h)
 rcases (Bool.or_eq_true _ _).mp this with q | q
 ·exact⟨plainId_quiet q args,by rw[plainId_weight q args]; exact Nat.zero_le _,by rw[plainId_units q args]; decide⟩
 ·have q:=Bool.and_eq_true_iff.mp q
  have e:p.1="type.__call__":=of_decide_eq_true q.1
  have e2:p.2=1:=Nat.eq_of_beq_eq_true q.2
  rw[e,e2]
  refine⟨Code.quiet_builtin args (by decide+kernel),?_,by show 1+3 * 0<=4; decide⟩
  show 0+_+0+0<=1
  split<;>decide
def Out.st:Out->St
 | .done _ s=>s
 | .call _ _ _ _ _ _ s=>s
 | .again _ _ s=>s
 | .stuck _ _ s=>s
 | .more cf=>cf.s
def Lit (es es':List Eqn):Prop:=∀e∈es,e∈es'
theorem kind_el {c:Code}{hs:List Nat}{es:List Eqn} {K:Nat->Nat->List Nat->List Eqn->Out}{bad:Out}:kindOf c hs es K bad=bad\/
  ∃w u hs' es',kindOf c hs es K bad=K w u hs' es'/\Lit es es'/\((∀e∈es',e.ok)->c.quiet=true/\c.weight<=w/\c.cUnits<=u):=by
 have sub:Lit es es:=fun _ h=>h
 cases c with
 | builtin id args=>
  cases hs with
  | nil=>exact .inl rfl
  | cons h hs=>
   unfold kindOf
   cases q:nthL ids h with
   | none=>exact .inl (by simp only[q])
   | some p=>exact .inr ⟨p.2,4,hs,.s id p.1::es,by simp only[q],fun e he=>.tail _ he,fun H=>by
     have e:id=p.1:=H _ (.head _)
     rw[e]; exact ids_ok q args⟩
 | call f a=>exact .inr ⟨0,1,hs,es,rfl,sub,fun _=>⟨rfl,le_refl _,le_refl _⟩⟩
 | func b e=>exact .inr ⟨1,3,hs,es,rfl,sub,fun _=>⟨rfl,le_refl _,le_refl _⟩⟩
 | expr b e=>exact .inr ⟨1,3,hs,es,rfl,sub,fun _=>⟨rfl,le_refl _,le_refl _⟩⟩
 | block b e=>exact .inr ⟨0,0,hs,es,rfl,sub,fun _=>⟨rfl,le_refl _,le_refl _⟩⟩
 | forLoop=>exact .inr ⟨0,0,hs,es,rfl,sub,fun _=>⟨rfl,le_refl _,le_refl _⟩⟩
 | compStart e d=>cases e<;>first | exact .inl rfl | (cases d<;>exact .inr ⟨0,0,hs,es,rfl,sub,fun _=>⟨rfl,le_refl _,le_refl _⟩⟩)
 | compLoop e d=>cases e<;>first | exact .inl rfl | (cases d<;>exact .inr ⟨0,0,hs,es,rfl,sub,fun _=>⟨rfl,le_refl _,le_refl _⟩⟩)
 | _=>exact .inl rfl
section
def Rep' (F:Fx) (h:Heap) (s:St):Prop:=Rep F h s.T s.m (s.zb+s.zk)
def Sh (h:Heap) (g:Array GenState) (d:Drawn)(os:OsState) (s:St):Shared:=⟨h,g,d,s.tb+s.tk,os⟩
variable {V:Vx} {F:Fx} (O:FxOk F) {A:Around}(hA:CtxOk A V.nd) (R:Result->Shared->Prop) (g:Array GenState) (d:Drawn)(os:OsState)
def FinOk (V:Vx) (F:Fx) (A:Around) (R:Result->Shared->Prop) (g:Array GenState) (d:Drawn)(os:OsState):Out->Prop
 | .done r s=>∀h,Rep' F h s->R r (Sh h g d os s)
 | .call c' k c dp un κ s=>Dep A ((aro A κ).under c) dp un->KsOk A κ->∀h,Rep' F h s->codeAny (model P02 V.w) ((aro A κ).under c) c' (fun r s'=>MN V.w A R c κ (k r) s') (Sh h g d os s)
 | .again c' κ s=>KsOk A κ->∀h,Rep' F h s->codeAny (model P02 V.w) (aro A κ) c' (endK V.w A R κ) (Sh h g d os s)
 | .stuck _ _ _=>False
 | .more cf=>Dep A ((aro A cf.κ).under cf.c) cf.dp cf.un->KsOk A cf.κ->∀h,Rep' F h cf.s->MN V.w A R cf.c cf.κ cf.t (Sh h g d os cf.s)
structure Snd (V:Vx) (F:Fx) (A:Around) (R:Result->Shared->Prop) (g:Array GenState) (d:Drawn)(os:OsState)(cf:Cf)(out:Out):Prop where
 es:Lit cf.s.es out.st.es
 bs:∀b∈cf.s.bs,b∈out.st.bs
 ok:(∀e∈out.st.es,e.ok)->(∀b∈out.st.bs,b.1=b.2)->FinOk V F A R g d os out->Dep A ((aro A cf.κ).under cf.c) cf.dp cf.un->KsOk A cf.κ->
  ∀h,Rep' F h cf.s->MN V.w A R cf.c cf.κ cf.t (Sh h g d os cf.s)
variable {R g d os}
theorem Snd.bad {cf:Cf}{n a:Nat} {s:St}(h1:Lit cf.s.es s.es)(h2:∀b∈cf.s.bs,b∈s.bs):Snd V F A R g d os cf (.stuck n a s):=⟨h1,h2,fun _ _ f=>f.elim⟩
theorem Snd.go {cf cf':Cf}{out:Out} (x:Snd V F A R g d os cf' out)(h1:Lit cf.s.es cf'.s.es)(h2:∀b∈cf.s.bs,b∈cf'.s.bs)
  (h3:(∀e∈cf'.s.es,e.ok)->(∀b∈cf'.s.bs,b.1=b.2)->Dep A ((aro A cf.κ).under cf.c) cf.dp cf.un->KsOk A cf.κ->∀h,Rep' F h cf.s->
   (Dep A ((aro A cf'.κ).under cf'.c) cf'.dp cf'.un->KsOk A cf'.κ->∀h,Rep' F h cf'.s->MN V.w A R cf'.c cf'.κ cf'.t (Sh h g d os cf'.s))->MN V.w A R cf.c cf.κ cf.t (Sh h g d os cf.s)):
  Snd V F A R g d os cf out:=
 ⟨fun e he=>x.es e (h1 e he),fun b hb=>x.bs b (h2 b hb),fun e b f dp ks h D=>h3 (fun q hq=>e q (x.es q hq)) (fun q hq=>b q (x.bs q hq)) dp ks h D (x.ok e b f)⟩
theorem lit_refl {es:List Eqn}:Lit es es:=fun _ h=>h
theorem bs_refl {bs:List (Bool×Bool)}:∀b∈bs,b∈bs:=fun _ h=>h
variable {rn:Cf->Out}(IH:∀cf,Snd V F A R g d os cf (rn cf))
include IH
theorem pop_ok {r:Result} {t:Sem Fin}(ht:t=leafOf r) {c:Code}{dp un:Nat} {κ:KS} {s:St}:Snd V F A R g d os ⟨c,dp,un,κ,t,s⟩ (popS rn r κ s):=by
 have leaf:∀ {κ:KS} {h:Heap} {s:St},endK V.w A R κ r (Sh h g d os s)->MN V.w A R c κ t (Sh h g d os s):=fun k=>by
  subst ht
  cases r with
  | ok f=>exact y_pure _ _ _ _ _ _ _ _ _ (y_done _ _ _ _ _ _ k)
  | error e=>exact y_raise _ _ _ _ _ _ _ _ _ (y_err _ _ _ k)
 cases κ with
 | base=>exact⟨lit_refl,bs_refl,fun _ _ f _ _ h D=>leaf (κ:=.base) (f h D)⟩
 | ret c₁ dp₁ un₁ fx k κ=>
  cases fx with
  | none=>exact(IH _).go lit_refl bs_refl fun _ _ _ ks h D y=>leaf (κ:=.ret c₁ dp₁ un₁ none k κ) (y ks.1 ks.2 h D)
  | some b=>
   obtain⟨T,m,zb,zk,tb,tk,hs,es,bs⟩:=s
   cases r with
   | error e=>exact .bad lit_refl bs_refl
   | ok f=>
    cases f with
    | ret v=>
     cases v with
     | bool x=>exact(IH _).go (cf':=⟨c₁,dp₁,un₁,κ,k (.ok (.ret (.bool b))),⟨T,m,zb,zk,tb,tk,hs,es,(x,b)::bs⟩⟩) lit_refl (fun _ h=>.tail _ h) fun _ hb _ ks h D y=>leaf (κ:=.ret c₁ dp₁ un₁ (some b) k κ) (by
       have e:x=b:=hb _ (.head _)
       subst e; exact y ks.1 ks.2 h D)
     | _=>exact .bad lit_refl bs_refl
    | _=>exact .bad lit_refl bs_refl
theorem enter_ok {c:Code}{dp un:Nat} {κ:KS}{c':Code}{hl:Bool} {l:List Value}{fx:Option Bool} {k:Result->Sem Fin} {T:Tr}{m zb zk tb tk:Nat}{hs hs':List Nat}{es:List Eqn}{bs:List (Bool×Bool)}:
  Snd V F A R g d os ⟨c,dp,un,κ,.call c' none hl l k,⟨T,m,zb,zk,tb,tk,hs',es,bs⟩⟩ (enterS V rn c dp un κ c' fx k T m zb zk tb tk hs es bs):=by
 unfold enterS
 rcases kind_el (c:=c') (hs:=hs) (es:=es) (K:=fun w u hs es=>rn ⟨c',Nat.add dp w,Nat.add un u,.ret c dp un fx k κ,denF c',⟨T,m,zb,zk,tb,tk,hs,es,bs⟩⟩) (bad:=.stuck 30 0 ⟨T,m,zb,zk,tb,tk,hs,es,bs⟩) with e | ⟨w,u,hs₂,es₂,e,sub,H⟩
 ·rw[e]; exact .bad lit_refl bs_refl
 ·rw[e]
  refine(IH _).go sub bs_refl fun he _ hd ks h D y=>?_
  obtain⟨_,h2,h3⟩:=H he
  refine y_call _ _ _ _ _ _ _ _ _ _ _ _ _ (fun z=>nomatch z) (y_code _ _ _ _ _ _ ?_)
  have z:=y (hd.under h2 h3) ⟨hd,ks⟩ h D
  rw[denF_eq] at z
  exact z
end
end
section
structure Took (T₀ T:Tr)(ps:List (Addr×Obj))(qs:List Obj)(T':Tr)(js:List Nat):Prop where
 as:js.map T₀.get=ps.map some
 nd:js.Nodup
 out:∀j,(∃x∈zipA ps qs,T'.get j=some x/\∃o,T₀.get j=some (x.1,o))\/(T'.get j=T.get j/\j∉js)
theorem map_some_mem {α β:Type} {f:α->Option β}:∀ {js:List α}{ps:List β},js.map f=ps.map some->(∀j∈js,∃p∈ps,f j=some p)/\(∀p∈ps,∃j∈js,f j=some p)
 | [],[],_=>⟨fun _ h=>(nomatch h),fun _ h=>(nomatch h)⟩
 | [],_::_,h=>by cases h
 | _::_,[],h=>by cases h
 | j::js,p::ps,h=>by
  rw[map_cons,map_cons] at h
  obtain⟨h1,h2⟩:=List.cons.inj h
  obtain⟨a,b⟩:=map_some_mem h2
  refine⟨fun i hi=>?_,fun q hq=>?_⟩
  ·cases hi with
   | head=>exact⟨p,.head _,h1⟩
   | tail _ hi=>obtain⟨q,hq,e⟩:=a i hi; exact⟨q,.tail _ hq,e⟩
  ·cases hq with
   | head=>exact⟨j,.head _,h1⟩
   | tail _ hq=>obtain⟨i,hi,e⟩:=b q hq; exact⟨i,.tail _ hi,e⟩
theorem takeP_el {K:Tr->List Nat->List Eqn->Out}{bad:Out}:∀ (pre:List (Addr×Obj))(T₀:Tr)(post:List Obj) (T:Tr)(hs:List Nat)(es:List Eqn),takeP pre T₀ post T hs es K bad=bad\/
  ∃T' hs' es',takeP pre T₀ post T hs es K bad=K T' hs' es'/\Lit es es'/\((∀e∈es',e.ok)->∃js,Took T₀ T pre post T' js)
 | [],T₀,post,T,hs,es=>.inr ⟨T,hs,es,rfl,lit_refl,fun _=>⟨[],rfl,.nil,fun j=>.inr ⟨rfl,fun h=>nomatch h⟩⟩⟩
 | p::pre,T₀,post,T,hs,es=>by
  cases post with
  | nil=>exact .inl rfl
  | cons o' post=>
   cases hs with
   | nil=>exact .inl rfl
   | cons j hs=>
    show(match T₀.get j with | none=>bad | some q=>match Nat.blt j 4094 with | false=>bad | true=>takeP pre (T₀.put 12 j none) post (T.put 12 j (some (q.1,o'))) hs (.n p.1 q.1::.o q.2 p.2::es) K bad)=bad\/_
    cases q:T₀.get j with
    | none=>exact .inl rfl
    | some q₁=>
     cases b:Nat.blt j 4094 with
     | false=>exact .inl rfl
     | true=>
      rcases takeP_el pre (T₀.put 12 j none) post (T.put 12 j (some (q₁.1,o'))) hs (.n p.1 q₁.1::.o q₁.2 p.2::es) with e | ⟨T',hs',es',e,sub,H⟩
      ·exact .inl e
      ·refine .inr ⟨T',hs',es',?_,fun x hx=>sub x (.tail _ (.tail _ hx)),fun he=>?_⟩
       ·rw[<- e]
        show(match T₀.get j with | none=>bad | some q=>match Nat.blt j 4094 with | false=>bad | true=>takeP pre (T₀.put 12 j none) post (T.put 12 j (some (q.1,o'))) hs (.n p.1 q.1::.o q.2 p.2::es) K bad)=_
        rw[q,b]
       ·obtain⟨js,k⟩:=H he
        have e1:p.1=q₁.1:=he _ (sub _ (.head _))
        have e2:q₁.2=p.2:=he _ (sub _ (.tail _ (.head _)))
        have e3:q₁=p:=Prod.ext e1.symm e2
        subst e3
        have ne:∀ {i:Nat} {o:Addr×Obj},(T₀.put 12 j none).get i=some o->i≠j/\T₀.get i=some o:=fun {i o} h=>by
         rw[get_put12 b] at h
         by_cases hi:i=j
         ·rw[if_pos hi] at h; cases h
         ·rw[if_neg hi] at h; exact⟨hi,h⟩
        have al:=map_some_mem k.as
        refine⟨j::js,?_,nodup_cons.mpr ⟨fun hm=>?_,k.nd⟩,fun i=>?_⟩
        ·rw[map_cons,map_cons,q,<- k.as]
         congr 1
         refine List.map_congr_left fun i hi=>?_
         obtain⟨x,_,hx⟩:=al.1 i hi
         rw[(ne hx).2,hx]
        ·obtain⟨x,_,hx⟩:=al.1 j hm
         exact(ne hx).1 rfl
        ·rcases k.out i with⟨x,hx,h1,o,h2⟩ | ⟨h1,h2⟩
         ·exact .inl ⟨x,.tail _ hx,h1,o,(ne h2).2⟩
         ·rw[get_put12 b] at h1
          by_cases hi:i=j
          ·subst hi
           rw[if_pos rfl] at h1
           exact .inl ⟨(q₁.1,o'),.head _,h1,q₁.2,q⟩
          ·rw[if_neg hi] at h1
           exact .inr ⟨h1,fun hm=>by
            cases hm with
            | head=>exact hi rfl
            | tail _ hm=>exact h2 hm⟩
theorem putN_el {K:Nat->Tr->Out}{bad:Out}:∀ (news:List (Addr×Obj)) (m:Nat) (T:Tr),putN news m T K bad=bad\/
  ∃T',putN news m T K bad=K (m+news.length) T'/\(m<=4094->m+news.length<=4094)/\∀j,(∃i p,news[i]?=some p/\j=m+i/\T'.get j=some p)\/(T'.get j=T.get j/\(j < m\/m+news.length<=j))
 | [],m,T=>.inr ⟨T,rfl,fun h=>h,fun j=>.inr ⟨rfl,Nat.lt_or_ge _ _⟩⟩
 | p::news,m,T=>by
  show(match Nat.blt m 4094 with | false=>bad | true=>putN news (Nat.succ m) (T.put 12 m (some p)) K bad)=bad\/_
  cases b:Nat.blt m 4094 with
  | false=>exact .inl rfl
  | true=>
   rcases putN_el news (Nat.succ m) (T.put 12 m (some p)) with e | ⟨T',e,le,H⟩
   ·exact .inl e
   ·refine .inr ⟨T',?_,fun _=>?_,fun j=>?_⟩
    ·have:m+(p::news).length=Nat.succ m+news.length:=by rw[length_cons]; omega
     rw[this,<- e]
     show(match Nat.blt m 4094 with | false=>bad | true=>putN news (Nat.succ m) (T.put 12 m (some p)) K bad)=_
     rw[b]
    ·have:=le (le_of_ble_eq_true b); rw[length_cons]; omega
    ·rcases H j with⟨i,q,h1,h2,h3⟩ | ⟨h1,h2⟩
     ·exact .inl ⟨i+1,q,by simpa using h1,by omega,h3⟩
     ·rw[get_put12 b] at h1
      by_cases hj:j=m
      ·rw[if_pos hj] at h1
       exact .inl ⟨0,p,rfl,by omega,h1⟩
      ·rw[if_neg hj] at h1
       exact .inr ⟨h1,by rw[length_cons]; omega⟩
theorem lt_of_get {h:Heap} {a:Nat} {o:Obj} (e:h.get? a=some o):a < h.objs.size:=Heap.lt_size e
section
variable {F:Fx} (O:FxOk F){h h':Heap}{T T' T₂:Tr}{m z:Nat} (D:Rep F h T m z){ps:List (Addr×Obj)}{js:List Nat}
include D
theorem nodup_as (as:js.map T.get=ps.map some)(nd:js.Nodup):(ps.map (·.1)).Nodup:=by
 induction js generalizing ps with
 | nil=>cases ps with
  | nil=>exact .nil
  | cons=>cases as
 | cons j js ih=>cases ps with
  | nil=>cases as
  | cons p ps=>
   rw[map_cons,map_cons] at as
   obtain⟨h1,h2⟩:=List.cons.inj as
   obtain⟨n1,n2⟩:=nodup_cons.mp nd
   rw[map_cons]
   refine nodup_cons.mpr ⟨fun hm=>?_,ih h2 n2⟩
   obtain⟨q,hq,e⟩:=mem_map.mp hm
   obtain⟨i,hi,e'⟩:=(map_some_mem h2).2 q hq
   have:=D.inj _ _ _ _ e' h1 e
   exact n1 (this▸hi)
include O
theorem Took.apart {qs:List Obj} (k:Took T T ps qs T' js):Apart F.w F.fz (ps.map (·.1)):=by
 refine⟨nodup_as D k.as k.nd,fun a ha=>?_,fun a ha=>?_⟩
 ·obtain⟨p,hp,rfl⟩:=mem_map.mp ha
  obtain⟨j,_,e⟩:=(map_some_mem k.as).2 p hp
  exact D.nb O e
 ·obtain⟨p,hp,rfl⟩:=mem_map.mp ha
  obtain⟨j,_,e⟩:=(map_some_mem k.as).2 p hp
  exact D.nz O e
theorem Rep.con {C:Con}(hn:C.n=z) (k:Took T T C.pre C.post T' js)(hm:m+C.news.length<=4094)
  (H:∀j,(∃i p,C.news[i]?=some p/\j=m+i/\T₂.get j=some p)\/(T₂.get j=T'.get j/\(j < m\/m+C.news.length<=j))) (Q:After C h h'):Rep F h' T₂ (m+C.news.length) (C.n+C.dm):=by
 have pre:∀p∈C.pre,∃j,T.get j=some p:=fun p hp=>let ⟨j,_,e⟩:=(map_some_mem k.as).2 p hp; ⟨j,e⟩
 have keep:∀b o,h.get? b=some o->(∀j p,T.get j=some p->b≠p.1)->h'.get? b=some o:=fun b o e q=>Q.keep b o e fun p hp=>by
  obtain⟨j,e2⟩:=pre p hp
  exact Ne.symm (q j p e2)
 have old:∀ {j:Nat} {p:Addr×Obj},T'.get j=some p->∃o,T.get j=some (p.1,o):=fun {j p} q=>by
  rcases k.out j with⟨x,_,e1,o,e2⟩ | ⟨e1,_⟩
  ·rw[e1] at q; cases q; exact⟨o,e2⟩
  ·rw[e1] at q; exact⟨p.2,q⟩
 have lt:∀ {j:Nat} {p:Addr×Obj},T'.get j=some p->p.1 < C.n/\j < m:=fun {j p} q=>by
  obtain⟨o,e⟩:=old q
  have:=D.own j _ e
  have l:=lt_of_get this.2
  rw[D.size] at l
  exact⟨hn▸l,this.1⟩
 have el:∀ {j:Nat} {p:Addr×Obj},T₂.get j=some p->(∃i,C.news[i]?=some p/\j=m+i)\/(T'.get j=some p):=fun {j p} q=>by
  rcases H j with⟨i,x,h1,h2,h3⟩ | ⟨h1,_⟩
  ·rw[h3] at q; cases q; exact .inl ⟨i,h1,h2⟩
  ·rw[h1] at q; exact .inr q
 have sz:C.n<=C.n+C.dm:=le_add_right ..
 refine⟨hm,Q.size,fun j p q=>?_,fun i₁ i₂ p₁ p₂ k₁ k₂ ee=>?_,fun j p q=>?_,⟨fun a o q=>keep a o (D.base.top a o q) fun j p e z=>?_,fun a o q=>keep a o (D.base.fz a o q) fun j p e z=>?_⟩,fun b o q r=>keep b o (D.keep b o q r) fun j p e=>Ne.symm (D.nk O e q r),le_trans (hn▸D.le) sz⟩
 ·rcases el q with⟨i,h1,rfl⟩ | q
  ·have hi:i < C.news.length:=by obtain⟨h,_⟩:=List.getElem?_eq_some_iff.mp h1; exact h
   exact⟨by omega,Q.news p (mem_of_getElem? h1)⟩
  ·refine⟨by have:=(lt q).2; omega,?_⟩
   rcases k.out j with⟨x,hx,e1,_⟩ | ⟨e1,e2⟩
   ·rw[e1] at q; cases q; exact Q.post p hx
   ·rw[e1] at q
    refine Q.keep _ _ (D.own _ _ q).2 fun p' hp' e=>?_
    obtain⟨i,hi,e'⟩:=(map_some_mem k.as).2 p' hp'
    exact e2 (D.inj _ _ _ _ e' q e▸hi)
 ·rcases el k₁ with⟨i,h1,rfl⟩ | q₁<;>rcases el k₂ with⟨j,h2,rfl⟩ | q₂
  ·have hi:i < C.news.length:=by obtain⟨h,_⟩:=List.getElem?_eq_some_iff.mp h1; exact h
   have e:(C.news.map (·.1))[i]?=(C.news.map (·.1))[j]?:=by rw[getElem?_map,getElem?_map,h1,h2]; exact congrArg some ee
   rw[(List.getElem?_inj (by rw[length_map]; exact hi) Q.fresh.1).mp e]
  ·exact absurd (ee▸Q.fresh.2 p₁ (mem_of_getElem? h1)) (Nat.not_le.mpr (lt q₂).1)
  ·exact absurd (ee▸Q.fresh.2 p₂ (mem_of_getElem? h2)) (Nat.not_le.mpr (lt q₁).1)
  ·obtain⟨o₁,e₁⟩:=old q₁
   obtain⟨o₂,e₂⟩:=old q₂
   exact D.inj _ _ _ _ e₁ e₂ ee
 ·rcases el q with⟨i,h1,rfl⟩ | q
  ·exact .inr (le_trans (hn▸D.le) (Q.fresh.2 p (mem_of_getElem? h1)))
  ·obtain⟨o,e⟩:=old q
   exact D.off _ (p.1,o) e
 ·have:=D.nb O e; rw[<- z,q] at this; cases this
 ·have:=D.nz O e; rw[<- z,q] at this; cases this
end
end
section
theorem base2 (P:Params):baseLook P 2=some (e2_3 P):=by kernel_rfl
theorem base2k (P:Params):(match (e2_3 P).data with | .dict es _=>es.toList.all (fun e=>(match e.key with | .str _ _=>true | _=>false)) && (nsFind es "sys.recursionlimit").isNone | _=>false)=true:=by kernel_rfl
theorem noLimit {w:World}{fz:Addr->Option Obj} {h:Heap} (B:BaseOk w fz h):h.NoLimit:=by
 have k:=base2k w.params
 have b:=B.top 2 _ (base2 w.params)
 generalize e2_3 w.params=o at k b
 split at k
 ·rename_i es ep e
  have k:=Bool.and_eq_true_iff.mp k
  refine⟨nsFind es,⟨o,es,ep,b,e,fun x hx=>?_,fun _=>rfl⟩,Option.isNone_iff_eq_none.mp k.2⟩
  have:=List.all_eq_true.mp k.1 x (Array.mem_toList_iff.mpr hx)
  split at this
  ·exact⟨_,_,by assumption⟩
  ·cases this
 ·cases k
theorem enter_eq (t:Sem Fin):R.bindR (Fast.tw15066281185411960212 0) (fun _=>t)=Sem.bind (enterFrame 0) fun _=>t:=by
 rw[<- Fast.te15066281185411960212,<- R.bindR_eq]
theorem room_eq (what:String) (t:Sem Fin):R.bindR (Fast.tw10648789137845014744 what) (fun _=>t)=Sem.bind (cRoom what) fun _=>t:=by
 rw[<- Fast.te10648789137845014744,<- R.bindR_eq]
section
variable {V:Vx} {F:Fx} (O:FxOk F)(hw:F.w=V.w)(hC:∀C∈V.cons,ConOk V.w F.fz C)(hro:∀p∈V.ro,F.fz p.1=some p.2) {A:Around}(hA:CtxOk A V.nd) {R:Result->Shared->Prop} {g:Array GenState} {d:Drawn}{os:OsState}
variable {rn:Cf->Out}(IH:∀cf,Snd V F A R g d os cf (rn cf))
include O hw hC hro hA IH
theorem stepS_ok:∀cf,Snd V F A R g d os cf (stepS V rn cf):=by
 rintro ⟨c,dp,un,κ,t,s⟩
 obtain⟨T,m,zb,zk,tb,tk,hs,es,bs⟩:=s
 cases t with
 | pure fin=>
  cases fin with
  | done f=>exact pop_ok IH (r:=.ok f) rfl
  | again c'=>
   cases hs with
   | nil=>exact .bad lit_refl bs_refl
   | cons h hs=>
    cases h with
    | zero=>
     unfold stepS
     dsimp only
     rcases kind_el (c:=c') (hs:=hs) (es:=es) (K:=fun w u hs es=>rn ⟨c',Nat.add (belowOf κ).1 w,Nat.add (belowOf κ).2 u,κ,denF c',⟨T,m,zb,zk,tb,tk,hs,es,bs⟩⟩) (bad:=.stuck 31 0 ⟨T,m,zb,zk,tb,tk,0::hs,es,bs⟩) with e | ⟨w,u,hs₂,es₂,e,sub,H⟩
     ·rw[e]; exact .bad lit_refl bs_refl
     ·rw[e]
      refine(IH _).go sub bs_refl fun he _ _ ks h D y=>?_
      obtain⟨h1,h2,h3⟩:=H he
      have z:=y ((below_ok ks).under h2 h3) ks h D
      rw[denF_eq] at z
      exact y_pure _ _ _ _ _ _ _ _ _ (y_again _ _ _ _ _ _ h1 (y_code _ _ _ _ _ _ z))
    | succ n=>
     unfold stepS
     dsimp only
     rcases kind_el (c:=c') (hs:=hs) (es:=es) (K:=fun _ _ hs es=>.again c' κ ⟨T,m,zb,zk,tb,tk,hs,es,bs⟩) (bad:=.stuck 31 0 ⟨T,m,zb,zk,tb,tk,(n+1)::hs,es,bs⟩) with e | ⟨w,u,hs₂,es₂,e,sub,H⟩
     ·rw[e]; exact .bad lit_refl bs_refl
     ·rw[e]
      exact⟨sub,bs_refl,fun he _ f _ ks h D=>y_pure _ _ _ _ _ _ _ _ _ (y_again _ _ _ _ _ _ (H he).1 (f ks h D))⟩
 | raise e=>exact pop_ok IH (r:=.error e) rfl
 | rule tag k=>exact(IH _).go lit_refl bs_refl fun _ _ hd ks h D y=>y_skim _ _ _ _ _ _ _ _ _ 1 (y hd ks h D)
 | «at» q k=>exact(IH _).go lit_refl bs_refl fun _ _ hd ks h D y=>y_skim _ _ _ _ _ _ _ _ _ 1 (y hd ks h D)
 | point l k=>exact(IH _).go lit_refl bs_refl fun _ _ hd ks h D y=>y_skim _ _ _ _ _ _ _ _ _ 1 (y hd ks h D)
 | ask k=>exact(IH _).go lit_refl bs_refl fun _ _ hd ks h D y=>y_skim _ _ _ _ _ _ _ _ _ 1 (y hd ks h D)
 | handled own k=>
  cases own with
  | true=>exact .bad lit_refl bs_refl
  | false=>
   exact(IH _).go lit_refl bs_refl fun _ _ hd ks h D y=>y_handled _ _ _ _ _ _ _ _ _ (by
    have e:(aro A κ).handled=none:=hd.2.2.trans hA.hd
    rw[e]; exact y hd ks h D)
 | fresh k=>exact(IH _).go (cf':=⟨c,dp,un,κ,k (Nat.add tb tk),⟨T,m,zb,zk,tb,Nat.succ tk,hs,es,bs⟩⟩) lit_refl bs_refl fun _ _ hd ks h D y=>y_fresh _ _ _ _ _ _ _ _ _ _ _ _ _ (y hd ks h D)
 | alloc o k=>
  show Snd _ _ _ _ _ _ _ _ (match o.isFreed with | true=>.stuck 3 0 _ | false=>match Nat.blt m 4094 with | false=>.stuck 4 0 _ | true=>rn _)
  cases hf:o.isFreed with
  | true=>exact .bad lit_refl bs_refl
  | false=>
   cases hm:Nat.blt m 4094 with
   | false=>exact .bad lit_refl bs_refl
   | true=>
    exact(IH _).go (cf':=⟨c,dp,un,κ,k (Nat.add zb zk),⟨T.put 12 m (some (Nat.add zb zk,o)),Nat.succ m,zb,Nat.succ zk,tb,tk,hs,es,bs⟩⟩) lit_refl bs_refl fun _ _ hd ks h D y=>by
     have ea:h.objs.size=Nat.add zb zk:=D.size
     exact wpOwn_bind (m:=alloc o) (f:=k) (wpOwn_of_wpAny (wpAny_alloc (by
      have z:=y hd ks _ (D.alloc hf hm)
      rw[<- ea] at z
      exact z)))
 | load a q k=>
  cases hs with
  | nil=>exact .bad lit_refl bs_refl
  | cons j hs=>
   cases j with
   | zero=>
    show Snd _ _ _ _ _ _ _ _ (match baseLook V.w.params a with | some o=>rn _ | none=>.stuck 6 a _)
    cases e:baseLook V.w.params a with
    | none=>exact .bad lit_refl bs_refl
    | some o=>exact(IH _).go lit_refl bs_refl fun _ _ hd ks h D y=>y_load _ _ _ _ _ _ _ _ _ _ _ _ _ _ _ _ (D.base.top a o (hw▸e)) (y hd ks h D)
   | succ j=>
   cases j with
   | zero=>
    cases hs with
    | nil=>exact .bad lit_refl bs_refl
    | cons j hs=>
     show Snd _ _ _ _ _ _ _ _ (match nthL V.ro j with | some q=>rn _ | none=>.stuck 7 a _)
     cases e:nthL V.ro j with
     | none=>exact .bad lit_refl bs_refl
     | some p=>
      exact(IH _).go (cf':=⟨c,dp,un,κ,k p.2,⟨T,m,zb,zk,tb,tk,hs,.n a p.1::es,bs⟩⟩) (fun _ h=>.tail _ h) bs_refl fun he _ hd ks h D y=>by
       have ea:a=p.1:=he _ (.head _)
       exact y_load _ _ _ _ _ _ _ _ _ _ _ _ _ _ _ _ (by rw[ea]; exact D.base.fz _ _ (hro p (nthL_mem e))) (y hd ks h D)
   | succ j=>
    show Snd _ _ _ _ _ _ _ _ (match T.get j with | some o=>rn _ | none=>.stuck 7 a _)
    cases e:T.get j with
    | none=>exact .bad lit_refl bs_refl
    | some p=>
     exact(IH _).go (cf':=⟨c,dp,un,κ,k p.2,⟨T,m,zb,zk,tb,tk,hs,.n a p.1::es,bs⟩⟩) (fun _ h=>.tail _ h) bs_refl fun he _ hd ks h D y=>by
      have ea:a=p.1:=he _ (.head _)
      exact y_load _ _ _ _ _ _ _ _ _ _ _ _ _ _ _ _ (by rw[ea]; exact(D.own j p e).2) (y hd ks h D)
 | update a q f k=>
  cases hs with
  | nil=>exact .bad lit_refl bs_refl
  | cons j hs=>
   show Snd _ _ _ _ _ _ _ _ (match T.get j with | some p=>(match (f p.2).isFreed with | true=>.stuck 9 a _ | false=>rn _) | none=>.stuck 10 a _)
   cases e:T.get j with
   | none=>exact .bad lit_refl bs_refl
   | some p=>
    cases hf:(f p.2).isFreed with
    | true=>simp only[hf]; exact .bad lit_refl bs_refl
    | false=>
     simp only[hf]
     exact(IH _).go (cf':=⟨c,dp,un,κ,k (),⟨T.put 12 j (some (p.1,f p.2)),m,zb,zk,tb,tk,hs,.n a p.1::es,bs⟩⟩) (fun _ h=>.tail _ h) bs_refl fun he _ hd ks h D y=>by
      have ea:a=p.1:=he _ (.head _)
      subst ea
      exact wpOwn_bind (m:=updatePart p.1 q f) (f:=k) (wpOwn_of_wpAny (wpAny_updatePart (D.own j p e).2 (y hd ks _ (D.update O e hf))))
 | stack k=>
  cases hs with
  | nil=>exact .bad lit_refl bs_refl
  | cons n hs=>
   unfold stepS
   dsimp only
   cases hdp:Nat.ble dp V.nd with
   | false=>exact .bad lit_refl bs_refl
   | true=>
    cases hun:Nat.ble un (Nat.mul 4 V.nd) with
    | false=>exact .bad lit_refl bs_refl
    | true=>
     have hdp:dp<=V.nd:=le_of_ble_eq_true hdp
     have hun:un<=4 * V.nd:=le_of_ble_eq_true hun
     cases n with
     | zero=>
      dsimp only
      cases e:k [(c,default)] with
      | load a q k₂=>
       dsimp only
       rw[base2]
       exact(IH _).go (cf':=⟨c,dp,un,κ,k₂ (e2_3 V.w.params),⟨T,m,zb,zk,tb,tk,hs,_,bs⟩⟩) (fun _ h=>.tail _ (.tail _ h)) bs_refl fun he _ hd ks h D y=>by
        have et:Sem.stack k=PySem.W.R.bindR (Fast.tw15066281185411960212 0) (fun _=>k₂ (e2_3 V.w.params)):=he _ (.tail _ (.head _))
        rw[enter_eq] at et
        show wpOwn _ _ _ (Sem.stack k) _ _ _
        rw[et]
        exact wpOwn_bind (m:=enterFrame 0) (wpOwn_of_wpAny (wpAny_enterFrame (noLimit D.base) (by have:=hA.dp; have z:((aro A κ).under c).depth<=A.depth+dp:=hd.1; show((aro A κ).under c).depth < 1000; omega) (y hd ks h D)))
      | _=>exact .bad lit_refl bs_refl
     | succ n=>
      cases n with
      | zero=>
       dsimp only
       exact(IH _).go (cf':=⟨c,dp,un,κ,k [(c,default)],⟨T,m,zb,zk,tb,tk,hs,.k (fun p l=>k ((c,p)::l)) (fun _ _=>k [(c,default)])::es,bs⟩⟩) (fun _ h=>.tail _ h) bs_refl fun he _ hd ks h D y=>by
        have ek:(fun p l=>k ((c,p)::l))=(fun _ _=>k [(c,default)]):=he _ (.head _)
        refine y_stack _ _ _ _ _ _ _ _ _ fun p below _=>?_
        have:=congrFun (congrFun ek p) below
        rw[this]
        exact y hd ks h D
      | succ n=>
       dsimp only
       cases e:nthL rooms n with
       | none=>exact .bad lit_refl bs_refl
       | some what=>
        exact(IH _).go (cf':=⟨c,dp,un,κ,k [(c,default)],⟨T,m,zb,zk,tb,tk,hs,.t (.stack k) (PySem.W.R.bindR (Fast.tw10648789137845014744 what) fun _=>k [(c,default)])::es,bs⟩⟩) (fun _ h=>.tail _ h) bs_refl fun he _ hd ks h D y=>by
         have et:Sem.stack k=PySem.W.R.bindR (Fast.tw10648789137845014744 what) (fun _=>k [(c,default)]):=he _ (.head _)
         rw[room_eq] at et
         show wpOwn _ _ _ (Sem.stack k) _ _ _
         rw[et]
         exact wpOwn_bind (m:=cRoom what) (wpOwn_of_wpAny (wpAny_cRoom (by have:=hA.un; have z:((aro A κ).under c).units<=A.units+un:=hd.2.1; show((aro A κ).under c).units < 9900; omega) (y hd ks h D)))
 | call c' hd g' l k=>
  cases hd with
  | some v=>exact .bad lit_refl bs_refl
  | none=>
   cases hs with
   | nil=>exact .bad lit_refl bs_refl
   | cons n hs=>
    match n with
    | 0=>exact enter_ok IH
    | 1=>exact enter_ok IH
    | 2=>exact enter_ok IH
    | 3=>
     exact⟨lit_refl,bs_refl,fun _ _ f hd ks h D=>by
      have nb:(none:Option Value)≠some byPass:=fun z=>nomatch z
      exact y_call _ _ _ _ _ _ _ _ _ _ _ _ _ nb (f hd ks h D)⟩
    | n+4=>
     cases hs with
     | nil=>exact .bad lit_refl bs_refl
     | cons rb hs=>
     unfold stepS
     dsimp only
     cases e:nthL V.cons n with
     | none=>exact .bad lit_refl bs_refl
     | some C=>
      dsimp only
      cases h1:Nat.ble (Nat.add dp C.nd) V.nd with
      | false=>exact .bad lit_refl bs_refl
      | true=>
       cases h2:Nat.ble (Nat.add un (Nat.mul 4 C.nd)) (Nat.mul 4 V.nd) with
       | false=>exact .bad lit_refl bs_refl
       | true=>
         dsimp only
         let bad:Out:=.stuck 24 n ⟨T,m,zb,zk,tb,tk,(n+4)::rb::hs,es,bs⟩
         let K₂ (hs:List Nat) (es:List Eqn) (m:Nat) (T:Tr):Out:=match rb with
          | 0=>rn ⟨c,dp,un,κ,k C.res,⟨T,m,zb,Nat.add zk C.dm,tb,Nat.add tk C.dt,hs,es,bs⟩⟩
          | _=>rn ⟨c,dp,un,κ,k C.res,⟨T,m,Nat.add C.n C.dm,0,Nat.add C.t C.dt,0,hs,es,bs⟩⟩
         have fin:∀ {T₂ T':Tr} {hs':List Nat} {es':List Eqn} {zb' zk' tb' tk':Nat},(C.n=Nat.add zb zk->zb'+zk'=C.n+C.dm)->(C.t=Nat.add tb tk->tb'+tk'=C.t+C.dt)->Lit (.c c' C.code::.n C.n (Nat.add zb zk)::.n C.t (Nat.add tb tk)::es) es'->((∀e∈es',e.ok)->∃js,Took T T C.pre C.post T' js)->
           (m<=4094->m+C.news.length<=4094)->(∀j,(∃i p,C.news[i]?=some p/\j=m+i/\T₂.get j=some p)\/(T₂.get j=T'.get j/\(j < m\/m+C.news.length<=j)))->
           Snd V F A R g d os ⟨c,dp,un,κ,.call c' none g' l k,⟨T,m,zb,zk,tb,tk,(n+4)::rb::hs,es,bs⟩⟩ (rn ⟨c,dp,un,κ,k C.res,⟨T₂,m+C.news.length,zb',zk',tb',tk',hs',es',bs⟩⟩):=fun {T₂ T' hs' es' zb' zk' tb' tk'} ez et sub H le H2=>by
          refine(IH _).go (cf':=⟨c,dp,un,κ,k C.res,⟨T₂,m+C.news.length,zb',zk',tb',tk',hs',es',bs⟩⟩) (fun x hx=>sub x (.tail _ (.tail _ (.tail _ hx)))) bs_refl fun he _ hd ks h D y=>?_
          have ec:c'=C.code:=he _ (sub _ (.head _))
          have en:C.n=Nat.add zb zk:=he _ (sub _ (.tail _ (.head _)))
          have et':C.t=Nat.add tb tk:=he _ (sub _ (.tail _ (.tail _ (.head _))))
          obtain⟨js,k₀⟩:=H he
          have ez:=ez en
          have et:=et et'
          have nb:(none:Option Value)≠some byPass:=fun z=>nomatch z
          have h1:dp+C.nd<=V.nd:=le_of_ble_eq_true h1
          have h2:un+4 * C.nd<=4 * V.nd:=le_of_ble_eq_true h2
          refine y_call _ _ _ _ _ _ _ _ _ _ _ _ _ nb ?_
          rw[ec]
          have D:Rep F h T m (zb+zk):=D
          have ap:=k₀.apart O D
          have Bs:=D.base
          rw[hw] at ap Bs
          refine hC C (nthL_mem e) _ _ ⟨hd.2.2.trans hA.hd,?_,?_⟩ ap Bs (D.size.trans en.symm) et'.symm (fun p hp=>?_) _ fun h' Q=>?_
          ·have z:((aro A κ).under c).depth<=A.depth+dp:=hd.1; have:=hA.dp; show((aro A κ).under c).depth+C.nd<=900; omega
          ·have z:((aro A κ).under c).units<=A.units+un:=hd.2.1; have:=hA.un; show((aro A κ).under c).units+4 * C.nd<=9000; omega
          ·obtain⟨j,_,e2⟩:=(map_some_mem k₀.as).2 p hp
           exact(D.own j _ e2).2
          ·have z:=y hd ks h' (by
            have:=D.con O en k₀ (le D.mb) H2 Q
            rw[<- ez] at this
            exact this)
           show MN _ _ _ _ _ _ ⟨h',g,d,C.t+C.dt,os⟩
           rw[<- et]
           exact z
         show Snd V F A R g d os _ (takeP C.pre T C.post T hs (.c c' C.code::.n C.n (Nat.add zb zk)::.n C.t (Nat.add tb tk)::es) (fun T' hs' es'=>putN C.news m T' (K₂ hs' es') (.stuck 23 n ⟨T,m,zb,zk,tb,tk,(n+4)::rb::hs,es,bs⟩)) bad)
         rcases takeP_el (K:=fun T' hs' es'=>putN C.news m T' (K₂ hs' es') (.stuck 23 n ⟨T,m,zb,zk,tb,tk,(n+4)::rb::hs,es,bs⟩)) (bad:=bad) C.pre T C.post T hs
          (.c c' C.code::.n C.n (Nat.add zb zk)::.n C.t (Nat.add tb tk)::es) with e' | ⟨T',hs',es',e',sub,H⟩
         ·rw[e']; exact .bad lit_refl bs_refl
         ·rw[e']
          rcases putN_el (K:=K₂ hs' es') (bad:=.stuck 23 n ⟨T,m,zb,zk,tb,tk,(n+4)::rb::hs,es,bs⟩) C.news m T' with e2 | ⟨T₂,e2,le,H2⟩
          ·rw[e2]; exact .bad lit_refl bs_refl
          ·rw[e2]
           cases rb with
           | zero=>
            exact fin (fun e=>by rw[e]; exact(Nat.add_assoc ..).symm) (fun e=>by rw[e]; exact(Nat.add_assoc ..).symm) sub H le H2
           | succ rb=>exact fin (fun _=>Nat.add_zero _) (fun _=>Nat.add_zero _) sub H le H2
 | _=>exact .bad lit_refl bs_refl
omit IH in
theorem runS_ok:∀n cf,Snd V F A R g d os cf (runS V n cf)
 | 0,_=>⟨lit_refl,bs_refl,fun _ _ f dp ks h D=>f dp ks h D⟩
 | n+1,cf=>stepS_ok O hw hC hro hA (fun cf=>runS_ok n cf) cf
end
end
noncomputable def uptoL (n:Nat):Nat->List Nat:=@Nat.rec (fun _=>Nat->List Nat) (fun _=>[]) (fun _ ih i=>i::ih (Nat.succ i)) n
def mkT (l:List (Addr×Obj)):Nat->Tr->Tr:=@List.rec (Addr×Obj) (fun _=>Nat->Tr->Tr) (fun _ T=>T) (fun p _ ih i T=>ih (Nat.succ i) (T.put 12 i (some p))) l
def incr (l:List Nat):Nat->Bool:=@List.rec Nat (fun _=>Nat->Bool) (fun _=>true) (fun a _ ih m=>@Bool.rec (fun _=>Bool) false (ih (Nat.succ a)) (Nat.ble m a)) l
abbrev EndI:=Nat×Nat×List (Option (Addr×Obj))×List (Option (Addr×Obj))
def stOf (m₀:Nat)(ni:List Nat) (s:St):EndI:=(Nat.add s.zb s.zk,Nat.add s.tb s.tk,(uptoL m₀ 0).map s.T.get,ni.map s.T.get)
def stTo (C:Con)(ze te:Nat):EndI:=(ze,te,(zipA C.pre C.post).map some,C.news.map some)
def outOf (m₀:Nat)(ni:List Nat):Out->Option (Result×EndI)
 | .done r s=>some (r,stOf m₀ ni s)
 | _=>none
def vOf (w:World)(fz:Addr->Option Obj) (C:Con)(cons:List Con)(ro:List (Addr×Obj)):Vx:=⟨w,fz,C.nd,cons,ro⟩
def cfOf (w u:Nat) (C:Con)(hs:List Nat):Cf:=⟨C.code,w,u,.base,denF C.code,⟨mkT C.pre 0 .nil,C.pre.length,C.n,0,C.t,0,hs,[],[]⟩⟩
abbrev EndT:=Option (Result×EndI)×List Eqn×List (Bool×Bool)
def endL (m₀:Nat)(ni:List Nat) (X:Out):EndT:=(outOf m₀ ni X,X.st.es.map Eqn.swap,X.st.bs)
def endR (C:Con)(ze te:Nat)(bs:List (Bool×Bool)) (X:Out):EndT:=(some (C.res,stTo C ze te),X.st.es,bs)
def xOf (w:World)(fz:Addr->Option Obj) (C:Con)(cons:List Con)(ro:List (Addr×Obj))(N w0 u0:Nat)(hs:List Nat):Out:=runS (vOf w fz C cons ro) N (cfOf w0 u0 C hs)
theorem upto_get:∀ (n i j:Nat),(uptoL n i)[j]?=if j < n then some (i+j) else none
 | 0,i,j=>by show([]:List Nat)[j]?=_; simp
 | n+1,i,j=>by
  show(i::uptoL n (i+1))[j]?=_
  cases j with
  | zero=>simp
  | succ j=>rw[getElem?_cons_succ,upto_get n (i+1) j]; by_cases h:j < n<;>simp[h]; omega
theorem mkT_get:∀ (l:List (Addr×Obj)) (i:Nat) (T:Tr),i+l.length<=4094->∀j,(mkT l i T).get j=if i<=j/\j < i+l.length then l[j - i]? else T.get j
 | [],i,T,_,j=>by
  show T.get j=_
  rw[if_neg (by rw[length_nil]; omega)]
 | p::l,i,T,h,j=>by
  rw[length_cons] at h ⊢
  show(mkT l (i+1) (T.put 12 i (some p))).get j=_
  rw[mkT_get l (i+1) _ (by omega),get_put12 (Nat.ble_eq_true_of_le (by omega))]
  by_cases e:j=i
  ·subst e
   rw[if_neg (by omega),if_pos rfl,if_pos (by omega),Nat.sub_self]; rfl
  ·by_cases q:i+1<=j/\j < i+1+l.length
   ·rw[if_pos q,if_pos (by omega),show j - i=(j - (i+1))+1 by omega,getElem?_cons_succ]
   ·rw[if_neg q,if_neg e,if_neg (by omega)]
theorem nil_get (j:Nat):(Tr.nil).get j=none:=by unfold Tr.get; rfl
theorem base1485 (P:Params):(baseLook P 1485).isSome=true:=by kernel_rfl
theorem incr_ok:∀ {l:List Nat} {m:Nat},incr l m=true->l.Nodup/\∀a∈l,m<=a
 | [],_,_=>⟨.nil,fun _ h=>nomatch h⟩
 | a::l,m,h=>by
  change @Bool.rec (fun _=>Bool) false (incr l (Nat.succ a)) (Nat.ble m a)=true at h
  cases q:Nat.ble m a with
  | false=>rw[q] at h; cases h
  | true=>
   rw[q] at h
   obtain⟨h1,h2⟩:=incr_ok (l:=l) h
   have le:=le_of_ble_eq_true q
   refine⟨nodup_cons.mpr ⟨fun hm=>lt_irrefl _ (h2 a hm),h1⟩,fun b hb=>?_⟩
   cases hb with
   | head=>exact le
   | tail _ hb=>exact le_trans le (Nat.le_of_lt (h2 b hb))
def fxOf (w:World)(fz:Addr->Option Obj) (C:Con) (h:Heap):Fx:=⟨w,fz,C.pre.map (·.1),C.n,h⟩
theorem after_of {w:World}{fz:Addr->Option Obj} {C:Con}{h h':Heap}{st:St}{ni:List Nat}{ze te:Nat} (E:stOf C.pre.length ni st=stTo C ze te)(hz:ze=C.n+C.dm)(hi:incr ni C.pre.length=true)
  (D:Rep' (fxOf w fz C h) h' st):After C h h':=by
 obtain⟨e1,e⟩:=Prod.mk.inj E
 obtain⟨e2,e⟩:=Prod.mk.inj e
 obtain⟨e3,e4⟩:=Prod.mk.inj e
 obtain⟨n1,n2⟩:=incr_ok hi
 have at_:∀i,i < C.pre.length->∃x,(zipA C.pre C.post)[i]?=some x/\st.T.get i=some x:=fun i hi=>by
  have q:((uptoL C.pre.length 0).map st.T.get)[i]?=((zipA C.pre C.post).map some)[i]?:=by rw[e3]
  rw[getElem?_map,getElem?_map,upto_get,if_pos hi,Nat.zero_add] at q
  cases k:(zipA C.pre C.post)[i]? with
  | none=>rw[k] at q; cases q
  | some x=>rw[k] at q; exact⟨x,rfl,Option.some.inj q⟩
 have zl:∀ {ps:List (Addr×Obj)} {os:List Obj} {i:Nat} {x:Addr×Obj},(zipA ps os)[i]?=some x->i < ps.length/\(ps.map (·.1))[i]?=some x.1:=by
  intro ps
  induction ps with
  | nil=>intro os i x h; cases os<;>cases h
  | cons p ps ih=>
   intro os i x h
   cases os with
   | nil=>cases h
   | cons o os=>
    cases i with
    | zero=>cases h; exact⟨Nat.succ_pos _,rfl⟩
    | succ i=>obtain⟨a,b⟩:=ih (i:=i) (by simpa [zipA] using h); exact⟨Nat.succ_lt_succ a,by simpa using b⟩
 refine⟨D.size.trans (e1.trans hz),fun x hx=>?_,fun p hp=>?_,⟨nodup_as D e4 n1,fun p hp=>?_⟩,fun b o e q=>D.keep b o e fun hm=>by
  obtain⟨p,hp,rfl⟩:=mem_map.mp hm
  exact q p hp rfl⟩
 ·obtain⟨i,hi⟩:=List.getElem?_of_mem hx
  obtain⟨y,h1,h2⟩:=at_ i (zl hi).1
  rw[hi] at h1; cases h1
  exact(D.own _ _ h2).2
 ·obtain⟨j,_,e⟩:=(map_some_mem e4).2 p hp
  exact(D.own _ _ e).2
 ·obtain⟨j,hj,e⟩:=(map_some_mem e4).2 p hp
  rcases D.off _ _ e with hm | hm
  ·exfalso
   obtain⟨i,hi⟩:=List.getElem?_of_mem (show p.1∈C.pre.map (·.1) from hm)
   have il:i < C.pre.length:=by
    obtain⟨h,_⟩:=List.getElem?_eq_some_iff.mp hi
    rwa [length_map] at h
   obtain⟨y,h1,h2⟩:=at_ i il
   have e5:=(zl h1).2
   rw[hi] at e5
   have:=D.inj _ _ _ _ h2 e (Option.some.inj e5).symm
   have:=n2 j hj
   omega
  ·exact hm
structure Began (w:World)(fz:Addr->Option Obj) (C:Con) (h:Heap):Prop where
 ok:FxOk (fxOf w fz C h)
 rep:Rep (fxOf w fz C h) h (mkT C.pre 0 .nil) C.pre.length C.n
theorem began {w:World}{fz:Addr->Option Obj} {C:Con} {h:Heap}(hm':C.pre.length<=4000)(ap:Apart w fz (C.pre.map (·.1))) (B:BaseOk w fz h)(hsz:h.objs.size=C.n)(hpre:∀p∈C.pre,h.get? p.1=some p.2):Began w fz C h:=by
 have lt:∀a∈C.pre.map (·.1),a < C.n:=fun a ha=>by
  obtain⟨p,hp,rfl⟩:=mem_map.mp ha
  have:=lt_of_get (hpre p hp)
  rwa [hsz] at this
 have el:∀ {j:Nat} {p:Addr×Obj},(mkT C.pre 0 .nil).get j=some p->C.pre[j]?=some p/\j < C.pre.length:=fun {j p} e=>by
  rw[mkT_get _ _ _ (by omega),nil_get,Nat.zero_add] at e
  by_cases q:0<=j/\j < C.pre.length
  ·rw[if_pos q,Nat.sub_zero] at e
   exact⟨e,q.2⟩
  ·rw[if_neg q] at e; cases e
 refine⟨⟨ap,lt,fun a o e=>by have:=lt_of_get (B.fz a o e); rwa [hsz] at this,?_,hsz⟩,by omega,hsz,fun j p e=>?_,fun i j p q e₁ e₂ ee=>?_,fun j p e=>?_,B,fun _ _ e _=>e,le_refl _⟩
 ·obtain⟨o,ho⟩:=Option.isSome_iff_exists.mp (base1485 w.params)
  have:=lt_of_get (B.top _ _ ho)
  rwa [hsz] at this
 ·exact⟨(el e).2,hpre p (mem_of_getElem? (el e).1)⟩
 ·refine(List.getElem?_inj (by rw[length_map]; exact(el e₁).2) ap.nd).mp ?_
  rw[getElem?_map,getElem?_map,(el e₁).1,(el e₂).1]
  exact congrArg some ee
 ·exact .inl (mem_map.mpr ⟨p,mem_of_getElem? (el e).1,rfl⟩)
theorem run_from {w:World}{fz:Addr->Option Obj} {C:Con}{cons:List Con}{ro:List (Addr×Obj)}{N w0 u0:Nat}{hs:List Nat}{bs:List (Bool×Bool)}(hk:C.code.weight<=w0/\C.code.cUnits<=u0) {X:Out}(hX:runS (vOf w fz C cons ro) N (cfOf w0 u0 C hs)=X)
  (E2:X.st.es.map Eqn.swap=X.st.es) (E3:X.st.bs=bs) (hb:∀b∈bs,b.1=b.2) {A:Around} {s:Shared} (hA:CtxOk A C.nd) (hc:∀D∈cons,ConOk w fz D) (hro:∀p∈ro,fz p.1=some p.2) (ht:s.toks=C.t) (G:Began w fz C s.heap)
  {R:Result->Shared->Prop} (F:FinOk (vOf w fz C cons ro) (fxOf w fz C s.heap) A R s.gens s.drawn s.os X):codeAny (model P02 w) A C.code R s:=by
 obtain⟨heap,gens,drawn,toks,os⟩:=s
 dsimp only at ht G F
 subst ht
 have S:=runS_ok (V:=vOf w fz C cons ro) G.ok rfl hc hro hA (R:=R) (g:=gens) (d:=drawn) (os:=os) N (cfOf w0 u0 C hs)
 rw[hX] at S
 have z:MN w A R C.code .base (denF C.code) ⟨heap,gens,drawn,C.t,os⟩:=S.ok (swap_ok E2) (by rw[E3]; exact hb) F ⟨by show A.depth+C.code.weight<=A.depth+w0; omega,by show A.units+C.code.cUnits<=A.units+u0; omega,rfl⟩ trivial heap G.rep
 unfold MN at z
 rw[denF_eq] at z
 exact y_code _ _ _ _ _ _ z
theorem le_of_k {a b c d:Nat} (h:and (Nat.ble a b) (Nat.ble c d)=true):a<=b/\c<=d:=let k:=(Bool.and_eq_true _ _).mp h; ⟨le_of_ble_eq_true k.1,le_of_ble_eq_true k.2⟩
theorem con_run {w:World}{fz:Addr->Option Obj} {C:Con}{cons:List Con}{ro:List (Addr×Obj)}{N m₀ w0 u0 ze te:Nat}{hs ni:List Nat}{bs:List (Bool×Bool)}(hk:and (Nat.ble C.code.weight w0) (Nat.ble C.code.cUnits u0)=true)(hm:C.pre.length=m₀)(hm':Nat.ble m₀ 4000=true)(hi:incr ni m₀=true)(hz:ze=C.n+C.dm)(ht':te=C.t+C.dt)
  (E:endL m₀ ni (xOf w fz C cons ro N w0 u0 hs)=endR C ze te bs (xOf w fz C cons ro N w0 u0 hs)) (hc:∀D∈cons,ConOk w fz D) (hro:∀p∈ro,fz p.1=some p.2) (hb:∀b∈bs,b.1=b.2):ConOk w fz C:=by
 intro A s hA ap B hsz ht hpre R hR
 subst hm
 have G:=began (le_of_ble_eq_true hm') ap B hsz hpre
 unfold xOf at E
 generalize hX:runS (vOf w fz C cons ro) N (cfOf w0 u0 C hs)=X at E
 have E1:outOf C.pre.length ni X=some (C.res,stTo C ze te):=congrArg (fun x:EndT=>x.1) E
 refine run_from (le_of_k hk) hX (congrArg (fun x:EndT=>x.2.1) E) (congrArg (fun x:EndT=>x.2.2) E) hb hA hc hro ht G ?_
 cases X with
 | done r st=>
  intro h' D'
  obtain⟨e1,e⟩:=Prod.mk.inj (Option.some.inj E1)
  subst e1
  have:=hR h' (after_of e hz hi D')
  have et:st.tb+st.tk=C.t+C.dt:=(congrArg (fun x:EndI=>x.2.1) e).trans ht'
  show R C.res ⟨h',s.gens,s.drawn,st.tb+st.tk,s.os⟩
  rw[et]; exact this
 | _=>cases E1
def TurnOk (w:World)(fz:Addr->Option Obj) (C:Con)(c':Code):Prop:=∀ (A:Around) (s:Shared),CtxOk A C.nd->Apart w fz (C.pre.map (·.1))->BaseOk w fz s.heap->s.heap.objs.size=C.n->s.toks=C.t->(∀p∈C.pre,s.heap.get? p.1=some p.2)->
 ∀R:Result->Shared->Prop,(∀h',After C s.heap h'->codeAny (model P02 w) A c' R ⟨h',s.gens,s.drawn,C.t+C.dt,s.os⟩)->codeAny (model P02 w) A C.code R s
abbrev AgT:=Option (Code×EndI)×List Eqn×List (Bool×Bool)
def agOf (m₀:Nat)(ni:List Nat):Out->Option (Code×EndI)
 | .again c κ s=>match κ with
  | .base=>some (c,stOf m₀ ni s)
  | _=>none
 | _=>none
def agL (m₀:Nat)(ni:List Nat) (X:Out):AgT:=(agOf m₀ ni X,X.st.es.map Eqn.swap,X.st.bs)
def agR (C:Con)(c':Code)(ze te:Nat)(bs:List (Bool×Bool)) (X:Out):AgT:=(some (c',stTo C ze te),X.st.es,bs)
theorem turn_run {w:World}{fz:Addr->Option Obj} {C:Con}{c':Code}{cons:List Con}{ro:List (Addr×Obj)}{N m₀ w0 u0 ze te:Nat}{hs ni:List Nat}{bs:List (Bool×Bool)}(hk:and (Nat.ble C.code.weight w0) (Nat.ble C.code.cUnits u0)=true)(hm:C.pre.length=m₀)(hm':Nat.ble m₀ 4000=true)(hi:incr ni m₀=true)(hz:ze=C.n+C.dm)(ht':te=C.t+C.dt)
  (E:agL m₀ ni (xOf w fz C cons ro N w0 u0 hs)=agR C c' ze te bs (xOf w fz C cons ro N w0 u0 hs)) (hc:∀D∈cons,ConOk w fz D) (hro:∀p∈ro,fz p.1=some p.2) (hb:∀b∈bs,b.1=b.2):TurnOk w fz C c':=by
 intro A s hA ap B hsz ht hpre R hR
 subst hm
 have G:=began (le_of_ble_eq_true hm') ap B hsz hpre
 unfold xOf at E
 generalize hX:runS (vOf w fz C cons ro) N (cfOf w0 u0 C hs)=X at E
 have E1:agOf C.pre.length ni X=some (c',stTo C ze te):=congrArg (fun x:AgT=>x.1) E
 refine run_from (le_of_k hk) hX (congrArg (fun x:AgT=>x.2.1) E) (congrArg (fun x:AgT=>x.2.2) E) hb hA hc hro ht G ?_
 cases X with
 | again c₁ κ st=>
  cases κ with
  | base=>
   intro _ h' D'
   obtain⟨e1,e⟩:=Prod.mk.inj (Option.some.inj E1)
   subst e1
   have:=hR h' (after_of e hz hi D')
   have et:st.tb+st.tk=C.t+C.dt:=(congrArg (fun x:EndI=>x.2.1) e).trans ht'
   rw[<- et] at this
   exact this
  | ret=>cases E1
 | _=>cases E1
noncomputable def wR (w:World)(b1 b2:Bool):World:=(w.withFollow "special-get-raises" b1).withFollow "comprehension-iter-twice" b2
theorem wR_is (w:World):∃b1 b2,wR w b1 b2=w:=by
 refine⟨w.params.followText "special-get-raises",w.params.followText "comprehension-iter-twice",?_⟩
 unfold wR
 rw[World.withFollow_self]
 exact World.withFollow_self w _
noncomputable def oI (c d:Nat):Obj:=⟨.ref c,some d,.plain,#[]⟩
noncomputable def oX (P:Params)(cls:String)(ep:Nat) (l:List (Str×Nat×Value)):Obj:=⟨.type cls,none,.dict ⟨ents P l⟩ ep,#[]⟩
noncomputable def oL (l:List Value)(ep:Nat):Obj:=⟨.type "list",none,.seq ⟨l⟩ ep,#[]⟩
noncomputable def fdOf (P:Params) (a:Nat):Option FuncData:=match baseLook P a with
 | some o=>match o.data with
  | .func fd=>some fd
  | _=>none
 | none=>none
noncomputable def envF (P:Params)(a L:Nat)(cells:List (Str×Addr)):Env:=match fdOf P a with
 | some fd=>{scope:=fd.scope,locals:=L,globals:=fd.globals,cells:=cells,qual:=fd.qualname++".<locals>.",func:=some a,code:=fd.code,frame:=some L,builtins:=fd.builtins}
 | none=>default
noncomputable def bodyF (P:Params) (a:Nat):List Stmt:=match fdOf P a with
 | some fd=>match fd.body with
  | .stmts b=>b
  | _=>[]
 | none=>[]
noncomputable def forC (P:Params)(a i L:Nat)(cells:List (Str×Addr))(it:Value):Code:=match at1 (bodyF P a) i with
 | .For tg _ bd oe _=>.forLoop tg it bd oe (envF P a L cells)
 | _=>.block [] default
noncomputable def exAt:Stmt->Expr
 | .Return v _=>(match v with
  | some c=>(match c with
   | .Call _ l _ _=>(match l with
    | x::_=>x
    | []=>c)
   | _=>c)
  | none=>.Tuple [] 0 default)
 | .For _ it _ _ _=>it
 | .Assign _ v _=>v
 | _=>.Tuple [] 0 default
noncomputable def compEnv (e:Expr)(env:Env)(LC:Nat)(cs:List (Str×Addr)):Env:=
 {scope:=(match e with
   | .ListComp _ _ sc _=>{sc with names:=sc.names.map fun(n,k)=>if k ==.free && env.scope.kind ==.function && env.kindOf n == some .cell then (n,.cell) else (n,k)}
   | _=>env.scope),locals:=LC,globals:=env.globals,cells:=cs,qual:=env.qual,func:=none,code:=env.code,frame:=env.frame,builtins:=env.builtins}
noncomputable def compC (start:Bool) (e:Expr)(env:Env)(LC:Nat)(cs:List (Str×Addr))(it acc:Value):Code:=match start with
 | true=>.compStart e 0 it acc (compEnv e env LC cs)
 | false=>.compLoop e 0 it acc (compEnv e env LC cs)
section
noncomputable def TupKeep (h h':Heap):Prop:=∀b o items n,h.get? b=some o->o.cls=.type "tuple"->o.data=.seq items n->h'.get? b=some o
theorem TupKeep.sameBut {h h':Heap} {d:Addr} {o:Obj}{es:Array DictEntry}{ep:Nat}(ho:h.get? d=some o)(hd:o.data=.dict es ep)(hs:Heap.SameBut d h h'):TupKeep h h':=fun b o' items n e _ q=>by
 have hne:b≠d:=by
  rintro rfl
  rw[ho] at e; cases e; rw[hd] at q; cases q
 exact(hs.2 b hne).trans e
section
variable {prog:Program} {w:World}
noncomputable abbrev iK (prog:Program) (w:World):KeyKind prog w Int:=intKind prog w
theorem tupleKey_keep {K:Type} [DecidableEq K] {knd:KeyKind prog w K}{h h':Heap} {l:List K} {a:Addr} (k:TupKeep h h') (x:IsTupleKey knd h l a):IsTupleKey knd h' l a:=
 let ⟨o,i,n,e,c,d,r⟩:=x; ⟨o,i,n,k _ _ _ _ e c d,c,d,r⟩
inductive TupsAre (prog:Program) (w:World) (h:Heap):List (List Int)->List Value->Prop
 | nil:TupsAre prog w h [] []
 | cons {l:List Int} {b:Addr} {ls:List (List Int)} {vs:List Value}:IsTupleKey (iK prog w) h l b->TupsAre prog w h ls vs->TupsAre prog w h (l::ls) (.ref b::vs)
noncomputable def IsTT (prog:Program) (w:World) (h:Heap)(ks:List (List Int)) (a:Addr):Prop:=∃o items n,h.get? a=some o/\o.cls=.type "tuple"/\o.data=.seq items n/\TupsAre prog w h ks items.toList
theorem TupsAre.keep {h h':Heap} (k:TupKeep h h'){es:List (List Int)}{vs:List Value} (x:TupsAre prog w h es vs):TupsAre prog w h' es vs:=by
 induction x with
 | nil=>exact .nil
 | cons a _ ih=>exact .cons (tupleKey_keep k a) ih
theorem IsTT.keep {h h':Heap} (k:TupKeep h h'){ks:List (List Int)} {a:Addr} (x:IsTT prog w h ks a):IsTT prog w h' ks a:=let ⟨o,i,n,e,c,d,r⟩:=x; ⟨o,i,n,k _ _ _ _ e c d,c,d,r.keep k⟩
theorem TupsAre.inj {h:Heap}{x y:List (List Int)}{vs:List Value}(hx:TupsAre prog w h x vs)(hy:TupsAre prog w h y vs):x=y:=by
 induction hx generalizing y with
 | nil=>cases hy; rfl
 | cons a _ ih=>cases hy with | cons b q=>rw[a.inj b,ih q]
theorem IsTT.inj {h:Heap} {a:Addr}{x y:List (List Int)}(hx:IsTT prog w h x a)(hy:IsTT prog w h y a):x=y:=by
 obtain⟨o,i,n,e,_,d,r⟩:=hx
 obtain⟨o',i',n',e',_,d',r'⟩:=hy
 rw[e] at e'
 cases e'
 rw[d] at d'
 injection d' with d' _
 subst d'
 exact r.inj r'
theorem IsTT.typeIs {s:Shared}{ks:List (List Int)} {a:Addr} (x:IsTT prog w s.heap ks a):s.TypeIs (.ref a) "tuple":=let ⟨_,_,_,e,c,_⟩:=x; ⟨_,e,c⟩
noncomputable def ttDraws (ks:List (List Int)):Nat:=(ks.map fun l=>l.length+1).sum+1
noncomputable def ttHash (prog:Program) (w:World)(ks:List (List Int)):Int:=reduceHash (Builtin.Tuple.tupleHashOf (ks.map (tupleKeyHash (iK prog w))))
variable {A:Around} {E:Value->Shared->Prop} {s:Shared}
theorem room1 (hu:A.units < cLine - 100):A.in1.units < cLine:=by show A.units+1 < cLine; unfold cLine at *; omega
theorem hash_tt {ks:List (List Int)} {a:Addr} {Q:Int->Shared->Prop}(hu:A.units < cLine - 100)(hk:IsTT prog w s.heap ks a) (h:Q (ttHash prog w ks) {s with toks:=s.toks+ttDraws ks}):wpAny (model prog w) A (pyHash (.ref a)) Q E s:=by
 have hT:=hk.typeIs
 obtain⟨o,items,n,ho,_,hd,hi⟩:=hk
 unfold pyHash
 first | unfold pyHashByItsType | skip
 refine wpAny_bind (wpAny_cRoomFor_or (.inr (by omega)) ?_)
 refine wpAny_bind (wpAny_specialOf hT F.slot_tuple_hash.lookup ?_)
 show wpAny _ _ (if (some (Value.builtin "tuple.__hash__") == some Value.none)=true then _ else _) Q E s
 rw[if_neg (by rw[beq_builtin_none]; exact Bool.false_ne_true)]
 refine wpAny_bind (wpAny_specialOf hT F.slot_tuple_hash.lookup ?_)
 show wpAny _ _ (callSpecialIfBoundUnlessNone? (.ref a) "__hash__" _ >>= _) Q E s
 refine wpAny_bind (wpAny_callSpecialIfBoundUnlessNone?_slot hT F.slot_tuple_hash (wpAny_call_entry F.slot_tuple_hash hT F.entry_tuple_hash ?_ (F.args_tuple_hash_1 _)))
 show wpAny _ _ (Builtin.Tuple.tupleItemsOf (.ref a) >>= _) _ _ s
 refine wpAny_bind (wpAny_tupleItemsOf ho hd ?_)
 refine wpAny_bind ?_
 rw[<- Array.forIn_toList]
 refine wpAny_forIn_list _
  (fun rest (b:Array Int) s'=>∃done left,ks=done++left/\TupsAre prog w s.heap left rest/\b.toList=done.map (tupleKeyHash (iK prog w))/\s'={s with toks:=s.toks+(done.map fun l=>l.length+1).sum})
  _ ?_ ?_ _ _ ⟨[],ks,rfl,hi,rfl,rfl⟩
 ·rintro x rest b s' ⟨done,left,rfl,hl,hb,rfl⟩
  cases hl with
  | @cons l b' ls' _ h1 hl'=>
   refine wpAny_bind (wpAny_pyHash_tuple (knd:=iK prog w) (room1 hu) h1 ?_)
   refine wpAny_pure ⟨done++[l],ls',by simp,hl',by simp[hb],by simp[Nat.add_assoc]⟩
 ·rintro b s' ⟨done,left,rfl,hl,hb,rfl⟩
  cases hl
  rw[List.append_nil] at h
  show wpAny _ _ (retInt (Builtin.Tuple.tupleHashOf b.toList)) _ _ _
  rw[hb]
  refine wpAny_ret_mkInt ?_
  show wpAny _ _ (if (decide (-(2:Int) ^ 63<=Builtin.Tuple.tupleHashOf (done.map (tupleKeyHash (iK prog w)))) && decide (Builtin.Tuple.tupleHashOf (done.map (tupleKeyHash (iK prog w))) < 2 ^ 63))=true then _ else _) Q E _
  unfold ttHash reduceHash ttDraws at h
  split
  ·rename_i hr
   rw[if_pos hr] at h
   exact wpAny_pure (by simpa [Nat.add_assoc] using h)
  ·rename_i hr
   rw[if_neg hr] at h
   exact wpAny_bind (wpAny_rule (wpAny_pure (by simpa [Nat.add_assoc] using h)))
theorem eq_tt_tree {x y:List (List Int)}{a b:Addr} {P:Fin->Shared->Prop}(hu:A.units < cLine)(hx:IsTT prog w s.heap x a)(hy:IsTT prog w s.heap y b) (h:P (.done (.ret (.bool (decide (x=y))))) s):
  wpAny (model prog w) A (Builtin.«tuple.__eq__» ⟨[.ref a,.ref b],[]⟩) P E s:=by
 have hTb:=hy.typeIs
 obtain⟨oa,xs,na,hoa,_,hda,hia⟩:=hx
 obtain⟨ob,ys,nb,hob,_,hdb,hib⟩:=hy
 show wpAny _ _ (isInstance (.ref b) (.type "tuple") >>= _) _ _ s
 refine wpAny_bind (wpAny_isInstance hTb isSubtype_tuple_tuple ?_)
 simp only[Bool.not_true,Bool.false_eq_true,if_false]
 refine wpAny_bind (wpAny_tupleItemsOf hoa hda ?_)
 refine wpAny_bind (wpAny_tupleItemsOf hob hdb ?_)
 refine wpAny_bind ?_
 refine wpAny_forIn_list _
  (fun rest r s'=>r.1=none/\s'=s/\∃x' y' xs' ys',rest=List.zip xs' ys'/\TupsAre prog w s.heap x' xs'/\TupsAre prog w s.heap y' ys'/\decide (x'=y')=decide (x=y)/\(xs'.length == ys'.length)=(xs.size == ys.size))
  _ ?_ ?_ _ _ ⟨rfl,rfl,x,y,xs.toList,ys.toList,rfl,hia,hib,rfl,by simp⟩
 ·rintro ⟨u,v⟩ rest r s' ⟨hr,rfl,x',y',xs',ys',hz,hx',hy',hdec,hlen⟩
  cases hx' with
  | nil=>simp at hz
  | @cons k1 u' x'' xs'' h1 hx''=>
   cases hy' with
   | nil=>simp at hz
   | @cons k2 v' y'' ys'' h2 hy''=>
    simp only[List.zip_cons_cons,List.cons.injEq,Prod.mk.injEq] at hz
    obtain⟨⟨rfl,rfl⟩,rfl⟩:=hz
    refine wpAny_bind (wpAny_eqBool_tuple (knd:=iK prog w) hu h1 h2 ?_)
    by_cases hk:k1=k2
    ·subst hk
     rw[decide_eq_true rfl]
     simp only[Bool.not_true,Bool.false_eq_true,if_false]
     refine wpAny_pure ⟨rfl,rfl,x'',y'',xs'',ys'',rfl,hx'',hy'',?_,by simpa using hlen⟩
     rw[<- hdec]
     by_cases hxy:x''=y''
     ·simp[hxy]
     ·simp[hxy]
    ·rw[decide_eq_false hk]
     simp only[Bool.not_false,if_true]
     have hf:decide (x=y)=false:=by rw[<- hdec]; simp[hk]
     rw[hf] at h
     exact wpAny_bind (wpAny_pure (wpAny_pure (wpAny_pure h)))
 ·rintro ⟨r1,r2⟩ s' ⟨hr,rfl,x',y',xs',ys',hz,hx',hy',hdec,hlen⟩
  simp only at hr
  subst hr
  refine wpAny_pure ?_
  have hfin:(xs.size == ys.size)=decide (x=y):=by
   rw[<- hdec,<- hlen]
   cases hx' with
   | nil=>
    cases hy' with
    | nil=>simp
    | cons _ _=>simp
   | cons _ _=>
    cases hy' with
    | nil=>simp
    | cons _ _=>simp at hz
  show P (.done (.ret (.bool (xs.size == ys.size)))) s'
  rw[hfin]; exact h
theorem eqBool_tt {x y:List (List Int)}{a b:Addr} {Q:Bool->Shared->Prop}(hu:A.units < cLine - 100)(hx:IsTT prog w s.heap x a)(hy:IsTT prog w s.heap y b) (h:Q (decide (x=y)) s):
  wpAny (model prog w) A (eqBool (.ref a) (.ref b)) Q E s:=by
 unfold eqBool
 try with_reducible refine wpAny_holding ?_
 by_cases hab:(Value.ref a == Value.ref b)=true
 ·rw[if_pos hab]
  have e:a=b:=by have:=eq_of_beq hab; injection this
  subst e
  obtain rfl:=hx.inj hy
  exact wpAny_bind (wpAny_rule (wpAny_pure (by simpa using h)))
 ·rw[if_neg hab]
  exact wpAny_bind (wpAny_richCompare_same_room (op:=.Eq) hx.typeIs hy.typeIs F.slot_tuple_eq
   (wpAny_call_entry F.slot_tuple_eq hx.typeIs F.entry_tuple_eq (eq_tt_tree (room1 hu) hx hy ⟨_,rfl,(fun e=>nomatch e),wpAny_truthy_bool h⟩) (F.args_tuple_eq_2 _ _)) (by omega))
theorem quiet_t1 {ks:List Int} {a:Addr} {n:Nat} {Q:Bool->Shared->Prop}(hk:IsTupleKey (iK prog w) s.heap ks a) (h:Q true s):wpAny (model prog w) A (eqIsQuiet (n+1) (.ref a)) Q E s:=by
 have hT:=hk.typeIs
 obtain⟨o,items,m,ho,_,hd,hi⟩:=hk
 unfold eqIsQuiet
 refine wpAny_bind (wpAny_specialOf hT F.slot_tuple_eq.lookup ?_)
 show wpAny _ _ (isInstance (.ref a) (.type "tuple") >>= _) _ _ s
 refine wpAny_bind (wpAny_isInstance hT isSubtype_tuple_tuple ?_)
 simp only[Bool.not_true,Bool.false_eq_true,if_false]
 refine wpAny_bind (wpAny_seqItems ho hd ?_)
 refine wpAny_bind ?_
 show wpAny _ _ (forIn items _ _) _ _ s
 rw[<- Array.forIn_toList]
 refine wpAny_forIn_list _ (fun rest r s'=>r.1=none/\s'=s/\∀v∈rest,carriedByValue v=true) _ ?_ ?_ _ _ ⟨rfl,rfl,hi.byValue⟩
 ·rintro v rest r s' ⟨hr,rfl,hall⟩
  rw[eqIsQuiet_byValue _ (hall v List.mem_cons_self)]
  refine wpAny_bind (wpAny_pure ?_)
  simp only[Bool.not_true,Bool.false_eq_true,if_false]
  exact wpAny_pure ⟨rfl,rfl,fun u hu'=>hall u (List.mem_cons_of_mem _ hu')⟩
 ·rintro ⟨r1,r2⟩ s' ⟨hr,rfl,_⟩
  simp only at hr
  subst hr
  exact wpAny_pure h
theorem quiet_tt {ks:List (List Int)} {a:Addr} {Q:Bool->Shared->Prop}(hk:IsTT prog w s.heap ks a) (h:Q true s):wpAny (model prog w) A (eqIsQuiet 8 (.ref a)) Q E s:=by
 have hT:=hk.typeIs
 obtain⟨o,items,m,ho,_,hd,hi⟩:=hk
 unfold eqIsQuiet
 refine wpAny_bind (wpAny_specialOf hT F.slot_tuple_eq.lookup ?_)
 show wpAny _ _ (isInstance (.ref a) (.type "tuple") >>= _) _ _ s
 refine wpAny_bind (wpAny_isInstance hT isSubtype_tuple_tuple ?_)
 simp only[Bool.not_true,Bool.false_eq_true,if_false]
 refine wpAny_bind (wpAny_seqItems ho hd ?_)
 refine wpAny_bind ?_
 show wpAny _ _ (forIn items _ _) _ _ s
 rw[<- Array.forIn_toList]
 refine wpAny_forIn_list _ (fun rest r s'=>r.1=none/\s'=s/\∃left,TupsAre prog w s.heap left rest) _ ?_ ?_ _ _ ⟨rfl,rfl,ks,hi⟩
 ·rintro v rest r s' ⟨hr,rfl,left,hl⟩
  cases hl with
  | @cons l b ls _ h1 hl'=>
   refine wpAny_bind (quiet_t1 (n:=6) h1 ?_)
   simp only[Bool.not_true,Bool.false_eq_true,if_false]
   exact wpAny_pure ⟨rfl,rfl,_,hl'⟩
 ·rintro ⟨r1,r2⟩ s' ⟨hr,rfl,_⟩
  simp only at hr
  subst hr
  exact wpAny_pure h
end
noncomputable def ttKind (prog:Program) (w:World):HeapKind prog w (List (List Int)) where
 is:=IsTT prog w
 hash:=ttHash prog w
 draws:=ttDraws
 room:=fun A=>A.units < cLine - 100
 inj:=fun hx hy=>hx.inj hy
 keeps:=fun x ho hd hs=>x.keep (TupKeep.sameBut ho hd hs)
 pyHash:=fun hu hk h=>hash_tt hu hk h
 eqBool:=fun hu hx hy h=>eqBool_tt hu hx hy h
 quiet:=fun hk h=>quiet_tt hk h
end
section
structure KF (w:World) (h:Heap) (d:Addr) (x:Value)(hsh:Int)(dr:Nat) (o:Option Nat):Prop where
 hash:∀ (A:Around) (E:Value->Shared->Prop) (s:Shared) (Q:Int->Shared->Prop),s.heap=h->A.units < cLine - 300->Q hsh {s with toks:=s.toks+dr}->wpAny (model P02 w) A (pyHash x) Q E s
 find:∀ (A:Around) (E:Value->Shared->Prop) (s:Shared) (Q:Option Nat->Shared->Prop),s.heap=h->A.units < cLine - 300->Q o s->wpAny (model P02 w) A (dictFind d x hsh) Q E s
noncomputable def dD (es:Array DictEntry)(ep:Nat):Obj:=⟨.type "dict",none,.dict es ep,#[]⟩
theorem code_entry {w:World} {A:Around} {s:Shared} {T:String}{name:Str}{id:String} {b:Builtin}{self:Value}{rest:List Value} {R:Result->Shared->Prop} (h:Slot T name id)(hT:s.TypeIs self T)
  (hb:entryFor table id=some b) (ha:argsOk id ⟨self::rest,[]⟩)
  (hc:wpAny (model P02 w) A.in1 (b ⟨self::rest,[]⟩) (fun fin s'=>∃v,fin=.done (.ret v)/\R (.ok (.ret v)) s') (fun e s'=>R (.error e) s') s):
  codeAny (model P02 w) A (.call (.builtin id) ⟨self::rest,[]⟩) R s:=by
 refine codeAny_call_builtin h.plain hb (h.check _ _ _ _ _ _ _ _ hT ha (wpAny_mono hc (fun fin s' h'=>?_) fun _ _ h'=>h'))
 obtain⟨v,rfl,hv⟩:=h'; exact hv
section
variable {w:World} {A:Around} {E:Value->Shared->Prop} {s:Shared} {d:Addr}{ep:Nat}{es:Array DictEntry}(hd:s.heap.get? d=some (dD es ep)) {x:Value}{hsh:Int}{dr:Nat}
include hd
theorem kf_get {o:Option Nat}(kf:KF w s.heap d x hsh dr o)(hu:A.units < cLine - 300) {Q:Option Value->Shared->Prop} (h:Q (o.bind fun n=>(es[n]?).map (·.val)) {s with toks:=s.toks+dr}):wpAny (model P02 w) A (dictGet d x) Q E s:=by
 unfold dictGet
 try with_reducible refine wpAny_holding ?_
 refine wpAny_bind (kf.hash A _ s _ rfl hu (wpAny_bind (kf.find A _ {s with toks:=s.toks+dr} _ rfl hu ?_)))
 cases o with
 | none=>exact wpAny_pure h
 | some n=>exact wpAny_bind (wpAny_dictEntries (s:={s with toks:=s.toks+dr}) hd rfl (wpAny_pure h))
theorem kf_new (kf:KF w s.heap d x hsh dr none)(hu:A.units < cLine - 300)(hz:es.size<=sizeLine) {v:Value} {Q:Unit->Shared->Prop}
  (h:Q () {s with heap:=s.heap.update d (Obj.mapDictKeys (·.push ⟨hsh,x,v⟩)),toks:=s.toks+dr}):wpAny (model P02 w) A (dictSet d x v) Q E s:=by
 unfold dictSet
 try with_reducible refine wpAny_holding ?_
 refine wpAny_bind (kf.hash A _ s _ rfl hu ?_)
 unfold dictSetHashed
 try with_reducible refine wpAny_holding ?_
 refine wpAny_bind (kf.find A _ {s with toks:=s.toks+dr} _ rfl hu ?_)
 exact wpAny_bind (wpAny_rule (wpAny_updateDictKeys (hz:=hz) (s:={s with toks:=s.toks+dr}) hd rfl h))
theorem kf_out {n:Nat}(kf:KF w s.heap d x hsh dr (some n))(hu:A.units < cLine - 300)(hz:es.size<=sizeLine) {e:DictEntry}(he:es[n]?=some e) {Q:Option DictEntry->Shared->Prop}
  (h:Q (some e) {s with heap:=s.heap.update d (Obj.mapDictKeys (·.eraseIdxIfInBounds n)),toks:=s.toks+dr}):wpAny (model P02 w) A (Builtin.Dict.takeOut d x) Q E s:=by
 unfold Builtin.Dict.takeOut
 try with_reducible refine wpAny_holding ?_
 refine wpAny_bind (kf.hash A _ s _ rfl hu ?_)
 refine wpAny_bind (kf.find A _ {s with toks:=s.toks+dr} _ rfl hu ?_)
 refine wpAny_bind (wpAny_dictEntries (s:={s with toks:=s.toks+dr}) hd rfl ?_)
 rw[he]
 exact wpAny_bind (wpAny_updateDictKeys (hz:=hz) (s:={s with toks:=s.toks+dr}) hd rfl (wpAny_pure h))
omit hd in
theorem dict_is (hd:s.heap.get? d=some (dD es ep)):s.TypeIs (.ref d) "dict":=⟨_,hd,rfl⟩
end
noncomputable abbrev Objs:=List (Addr×Obj)
noncomputable def cIn (n t:Nat) (d:Addr)(es:Array DictEntry)(ep:Nat) (k:Value)(ex:Objs)(dr:Nat) (b:Bool):Con:=⟨.call (.builtin "dict.__contains__") ⟨[.ref d,k],[]⟩,n,t,(d,dD es ep)::ex,dD es ep::ex.map (·.2),[],.ok (.ret (.bool b)),0,dr,5⟩
noncomputable def cGet (n t:Nat) (d:Addr)(es:Array DictEntry)(ep:Nat) (k:Value)(ex:Objs)(dr:Nat) (v:Value):Con:=⟨.call (.builtin "dict.__getitem__") ⟨[.ref d,k],[]⟩,n,t,(d,dD es ep)::ex,dD es ep::ex.map (·.2),[],.ok (.ret v),0,dr,5⟩
noncomputable def cSet (n t:Nat) (d:Addr)(es:Array DictEntry)(ep:Nat) (k:Value)(ex:Objs)(dr:Nat)(hsh:Int) (v:Value):Con:=⟨.call (.builtin "dict.__setitem__") ⟨[.ref d,k,v],[]⟩,n,t,(d,dD es ep)::ex,dD (es.push ⟨hsh,k,v⟩) (ep+1)::ex.map (·.2),[],.ok (.ret .none),0,dr,5⟩
noncomputable def cPop (n t:Nat) (d:Addr)(es:Array DictEntry)(ep:Nat) (k:Value)(ex:Objs)(dr:Nat) (i:Nat) (v:Value):Con:=⟨.call (.builtin "dict.pop") ⟨[.ref d,k],[]⟩,n,t,(d,dD es ep)::ex,dD (es.eraseIdxIfInBounds i) (ep+1)::ex.map (·.2),[],.ok (.ret v),0,dr,5⟩
theorem zipA_same:∀ (l:Objs),zipA l (l.map (·.2))=l
 | []=>rfl
 | p::l=>by show(p.1,p.2)::zipA l (l.map (·.2))=_; rw[zipA_same l]
theorem fresh0' {n:Nat} {l:List (Addr×Obj)} (e:l= []):(l.map (·.1)).Nodup/\∀p∈l,n<=p.1:=by subst e; exact⟨.nil,fun _ h=>nomatch h⟩
theorem After.same {C:Con} {h:Heap}(hs:h.objs.size=C.n)(hp:∀p∈C.pre,h.get? p.1=some p.2)(e1:C.post=C.pre.map (·.2))(e2:C.news= [])(e3:C.dm=0):After C h h:=
 ⟨by rw[hs,e3]; rfl,fun p q=>hp p (by rw[e1,zipA_same] at q; exact q),fun p q=>(by rw[e2] at q; cases q),fresh0' e2,fun _ _ e _=>e⟩
theorem After.upd {C:Con} {h:Heap} {d:Addr} {o:Obj}{ex:Objs} {f:Obj->Obj}(hs:h.objs.size=C.n)(hp:∀p∈C.pre,h.get? p.1=some p.2)(nd:(C.pre.map (·.1)).Nodup)(e0:C.pre=(d,o)::ex)(e1:C.post=f o::ex.map (·.2))(e2:C.news= [])(e3:C.dm=0)(hf:(f o).isFreed=false):
  After C h (h.update d f):=by
 have sb:Heap.SameBut d h (h.update d f):=Heap.SameBut.update ..
 rw[e0] at hp nd
 have ho:=hp _ (.head _)
 refine⟨by rw[sb.1,hs,e3]; rfl,fun p q=>?_,fun p q=>(by rw[e2] at q; cases q),fresh0' e2,fun b o' e q=>(sb.2 b fun z=>q (d,o) (by rw[e0]; exact .head _) z.symm).trans e⟩
 rw[e0,e1] at q
 cases q with
 | head=>first | exact Heap.get?_update_self f ho hf | exact Heap.get?_update_self _ ho hf
 | tail _ q=>
  rw[zipA_same] at q
  refine(sb.2 p.1 fun z=>?_).trans (hp p (.tail _ q))
  exact(nodup_cons.mp nd).1 (mem_map.mpr ⟨p,q,z⟩)
theorem not_sys {w:World}{fz:Addr->Option Obj}{as:List Addr}(ap:Apart w fz as) {d:Addr} (h:d∈as):(d == sysModules)=false:=by
 have k:(baseLook w.params sysModules).isSome=true:=by kernel_rfl
 have:=ap.nb d h
 cases q:d == sysModules with
 | false=>rfl
 | true=>rw[eq_of_beq q] at this; rw[this] at k; cases k
theorem units_in {A:Around}{nd:Nat} (h:CtxOk A nd):A.in1.units < cLine - 300:=by have:=h.un; show A.units+1 < 9900 - 300; omega
section
variable {w:World}{fz:Addr->Option Obj}{n t:Nat} {d:Addr}{es:Array DictEntry}{ep:Nat} {k:Value}{ex:Objs}{hsh:Int}{dr:Nat}
noncomputable def KfAt (w:World)(fz:Addr->Option Obj) (d:Addr)(es:Array DictEntry)(ep:Nat) (k:Value)(ex:Objs)(hsh:Int)(dr:Nat) (o:Option Nat):Prop:=
 ∀h,BaseOk w fz h->(∀p∈(d,dD es ep)::ex,h.get? p.1=some p.2)->KF w h d k hsh dr o
theorem cGet_ok {i:Nat} {e:DictEntry}(kf:KfAt w fz d es ep k ex hsh dr (some i))(he:es[i]?=some e):ConOk w fz (cGet n t d es ep k ex dr e.val):=by
 intro A s hA ap B hsz ht hp R hR
 have hd:=hp _ (.head _)
 refine code_entry slot_dict_getitem (dict_is hd) entry_dict_getitem (args_dict_getitem _ _) ?_
 show wpAny _ _ (dictGet d k >>= _) _ _ s
 refine wpAny_bind (kf_get hd (kf _ B hp) (units_in hA) ?_)
 rw[Option.bind_some,he]
 exact wpAny_pure ⟨e.val,rfl,by have:=hR _ (.same hsz hp rfl rfl rfl); rw[<- ht] at this; exact this⟩
theorem cIn_ok {o:Option Nat}(kf:KfAt w fz d es ep k ex hsh dr o)(ho:∀i,o=some i->i < es.size):ConOk w fz (cIn n t d es ep k ex dr o.isSome):=by
 intro A s hA ap B hsz ht hp R hR
 have hd:=hp _ (.head _)
 refine code_entry slot_dict_contains (dict_is hd) entry_dict_contains (args_dict_contains _ _) ?_
 show wpAny _ _ (dictGet d k >>= _) _ _ s
 have hR:=hR _ (.same hsz hp rfl rfl rfl)
 refine wpAny_bind (kf_get hd (kf _ B hp) (units_in hA) ?_)
 cases o with
 | some i=>
  rw[Option.bind_some,Array.getElem?_eq_getElem (ho i rfl)]
  exact wpAny_pure ⟨.bool true,rfl,by rw[<- ht] at hR; exact hR⟩
 | none=>
  show wpAny _ _ (Builtin.Dict.pendingKey? d k >>= _) _ _ _
  exact wpAny_bind (wpAny_pendingKey_other (not_sys ap (.head _)) (wpAny_pure ⟨.bool false,rfl,by rw[<- ht] at hR; exact hR⟩))
theorem cSet_ok {v:Value}(kf:KfAt w fz d es ep k ex hsh dr none)(hz:es.size<=sizeLine):ConOk w fz (cSet n t d es ep k ex dr hsh v):=by
 intro A s hA ap B hsz ht hp R hR
 have hd:=hp _ (.head _)
 refine code_entry slot_dict_setitem (dict_is hd) entry_dict_setitem (args_dict_setitem _ _ _) ?_
 show wpAny _ _ (Builtin.Dict.notOrdered "__setitem__" ⟨[.ref d,k,v],[]⟩ >>= _) _ _ s
 refine wpAny_bind (wpAny_notOrdered_dict (dict_is hd) ?_)
 show wpAny _ _ (dictSet d k v >>= _) _ _ s
 refine wpAny_bind (kf_new hd (kf _ B hp) (units_in hA) hz (wpAny_pure ⟨.none,rfl,?_⟩))
 have:=hR _ (.upd (f:=Obj.mapDictKeys (·.push ⟨hsh,k,v⟩)) hsz hp ap.nd rfl rfl rfl rfl rfl)
 rw[<- ht] at this; exact this
theorem cPop_ok {i:Nat} {e:DictEntry}(kf:KfAt w fz d es ep k ex hsh dr (some i))(he:es[i]?=some e)(hz:es.size<=sizeLine):ConOk w fz (cPop n t d es ep k ex dr i e.val):=by
 intro A s hA ap B hsz ht hp R hR
 have hd:=hp _ (.head _)
 have hR:=hR _ (.upd (f:=Obj.mapDictKeys (·.eraseIdxIfInBounds i)) hsz hp ap.nd rfl rfl rfl rfl rfl)
 rw[<- ht] at hR
 have kf:=kf _ B hp
 refine code_entry PySem.F.slot_dict_pop (dict_is hd) PySem.F.entry_dict_pop (PySem.F.args_dict_pop_2 _ _) ?_
 unfold Builtin.«dict.pop»
 refine wpAny_bind ?_
 unfold Builtin.Dict.keyAndDefault
 refine wpAny_bind (wpAny_notOrdered_dict (dict_is hd) ?_)
 show wpAny _ _ (pure (d,k,none)) _ _ s
 refine wpAny_pure ?_
 cases hp:(keyPart k).isSome with
 | true=>
  simp only[hp,if_true]
  refine wpAny_bind (wpAny_pure ?_)
  simp only[Bool.false_eq_true,if_false]
  refine wpAny_bind (kf_out hd kf (units_in hA) hz he ?_)
  simp only[Option.isNone_some,Bool.false_eq_true,if_false]
  exact wpAny_bind (wpAny_letGo (wpAny_pure ⟨e.val,rfl,hR⟩))
 | false=>
  have ne:es.isEmpty=false:=by
   have:=(Array.getElem?_eq_some_iff.mp he).1
   cases q:es.isEmpty with
   | false=>rfl
   | true=>rw[Array.isEmpty_iff.mp q] at this; simp at this
  simp only[hp,Bool.false_eq_true,if_false]
  refine wpAny_bind (m:=dictEntries d) (wpAny_dictEntries hd rfl ?_)
  refine wpAny_bind (wpAny_pure ?_)
  rw[ne]
  simp only[Bool.false_eq_true,if_false]
  refine wpAny_bind (kf_out hd kf (units_in hA) hz he ?_)
  simp only[Option.isNone_some,Bool.false_eq_true,if_false]
  exact wpAny_bind (wpAny_letGo (wpAny_pure ⟨e.val,rfl,hR⟩))
end
end
section
noncomputable abbrev Ent:=Int×Nat×Value
noncomputable def dE (h:Int->Int) (k:Int->Nat->Value) (l:List Ent):Array DictEntry:=⟨l.map fun x=>⟨h x.1,k x.1 x.2.1,x.2.2⟩⟩
noncomputable def kC (w:World) (p:Int):Int:=(ttKind P02 w).hash [[1,p],[2,80]]
noncomputable def kL (w:World) (p:Int):Int:=(tupleKind (intKind P02 w)).hash [0,p]
noncomputable def dI (l:List Ent):Array DictEntry:=dE hashInt (fun z t=>.int z t) l
noncomputable def dC (w:World) (l:List Ent):Array DictEntry:=dE (kC w) (fun _ a=>.ref a) l
noncomputable def dL (w:World) (l:List Ent):Array DictEntry:=dE (kL w) (fun _ a=>.ref a) l
noncomputable def posP (l:List Ent) (p:Int):Option Nat:=l.findIdx? fun x=>decide (x.1=p)
theorem dE_size {h:Int->Int} {k:Int->Nat->Value} {l:List Ent}:(dE h k l).size=l.length:=by show(l.map _).length=_; rw[length_map]
theorem dE_get {h:Int->Int} {k:Int->Nat->Value} {l:List Ent} {i:Nat}:(dE h k l)[i]?=(l[i]?).map fun x=>⟨h x.1,k x.1 x.2.1,x.2.2⟩:=by
 rw[<- Array.getElem?_toList]; show(l.map _)[i]?=_; rw[getElem?_map]
theorem dE_push {h:Int->Int} {k:Int->Nat->Value} {l:List Ent} {x:Ent}:(dE h k l).push ⟨h x.1,k x.1 x.2.1,x.2.2⟩=dE h k (l++[x]):=by
 unfold dE; rw[List.push_toArray,map_append]; rfl
theorem map_eraseIdx {α β:Type} (f:α->β):∀ (l:List α) (i:Nat),(l.map f).eraseIdx i=(l.eraseIdx i).map f
 | [],_=>rfl
 | _::_,0=>rfl
 | a::l,i+1=>by show f a::(l.map f).eraseIdx i=f a::(l.eraseIdx i).map f; rw[map_eraseIdx f l i]
theorem dE_erase {h:Int->Int} {k:Int->Nat->Value} {l:List Ent} {i:Nat}(hi:i < l.length):(dE h k l).eraseIdxIfInBounds i=dE h k (l.eraseIdx i):=by
 unfold Array.eraseIdxIfInBounds
 rw[dif_pos (by rw[dE_size]; exact hi)]
 apply Array.ext'
 rw[Array.toList_eraseIdx]
 show(l.map _).eraseIdx i=(l.eraseIdx i).map _
 exact map_eraseIdx ..
theorem pos_none {l:List Ent} {p:Int} (h:posP l p=none):∀x∈l,x.1≠p:=fun x hx e=>by
 have:=List.findIdx?_eq_none_iff.mp h x hx
 simp[e] at this
theorem pos_some {l:List Ent} {p:Int} {i:Nat} (h:posP l p=some i):∃x,l[i]?=some x/\x.1=p:=by
 obtain⟨hi,h1,_⟩:=List.findIdx?_eq_some_iff_getElem.mp h
 exact⟨l[i],List.getElem?_eq_getElem hi,of_decide_eq_true h1⟩
section
variable {w:World}{fz:Addr->Option Obj}{n t:Nat} {d:Addr}{ep:Nat} {l:List Ent}{ex:Objs}
theorem kf_int {z:Int}{tk:Nat}:KfAt w fz d (dI l) ep (.int z tk) [] (hashInt z) 1 (posP l z):=by
 intro h _ hp
 have hd:=hp _ (.head _)
 have hk:IntKeys (dI l):=fun e he=>by
  obtain⟨x,_,rfl⟩:=mem_map.mp (Array.mem_toList_iff.mpr he)
  exact⟨x.1,x.2.1,rfl,rfl⟩
 refine⟨fun A E s Q _ _ hq=>wpAny_pyHash_int hq,fun A E s Q e _ hq=>?_⟩
 subst e
 refine wpAny_dictFind_int hd rfl hk ?_
 have:((dI l).findIdx? fun e=>Value.isInt z e.key)=posP l z:=by
  unfold dI dE posP
  rw[List.findIdx?_toArray,List.findIdx?_map]
  congr 1
 rw[this]; exact hq
theorem kf_heap {K:Type} [DecidableEq K] {knd:HeapKind P02 w K}(room:∀A:Around,A.units < cLine - 300->knd.room A) (e:Int->K)(inj:∀a b,e a=e b->a=b)(nd:(l.map (·.1)).Nodup) {p:Int} {a:Addr}
  (hl:∀h,BaseOk w fz h->∀x∈l,knd.is h (e x.1) x.2.1) (hk:∀h,BaseOk w fz h->(∀p∈ex,h.get? p.1=some p.2)->knd.is h (e p) a):
  KfAt w fz d (dE (fun q=>knd.hash (e q)) (fun _ b=>.ref b) l) ep (.ref a) ex (knd.hash (e p)) (knd.draws (e p)) (posP l p):=by
 intro h B hp
 have hd:=hp _ (.head _)
 have hk:=hk h B fun q hq=>hp q (.tail _ hq)
 have hl:=hl h B
 refine⟨fun A E s Q e hu hq=>knd.pyHash (room A hu) (e▸hk) hq,fun A E s Q eq hu hq=>?_⟩
 subst eq
 have get:∀j:Nat,(l.map fun x:Ent=>(e x.1,x.2.1,x.2.2))[j]?=(l[j]?).map fun x=>(e x.1,x.2.1,x.2.2):=fun j=>getElem?_map ..
 refine wpAny_dictFind_heap (xs:=l.map fun x=>(e x.1,x.2.1,x.2.2)) (room A hu) hk hd rfl (by show l.map _=_; rw[map_map]; rfl) (fun y hy=>?_) ?_ (fun hno=>?_) (fun j q hj=>?_)
 ·obtain⟨x,hx,rfl⟩:=mem_map.mp hy
  exact hl x hx
 ·rw[map_map]
  have:(l.map ((fun x:K×Addr×Value=>x.1) ∘ fun x:Ent=>(e x.1,x.2.1,x.2.2)))=(l.map (·.1)).map e:=by rw[map_map]; rfl
  rw[this]
  exact List.Pairwise.map e (fun a b (h:a≠b) q=>h (inj _ _ q)) nd
 ·cases ho:posP l p with
  | none=>rw[ho] at hq; exact hq
  | some i=>
   obtain⟨x,h1,h2⟩:=pos_some ho
   exact absurd (by rw[get,h1,<- h2]; rfl) (hno i (x.2.1,x.2.2))
 ·rw[get] at hj
  cases hx:l[j]? with
  | none=>rw[hx] at hj; cases hj
  | some x=>
   rw[hx] at hj
   have e1:x.1=p:=inj _ _ (congrArg (·.1) (Option.some.inj hj))
   cases ho:posP l p with
   | none=>exact absurd e1 (pos_none ho x (mem_of_getElem? hx))
   | some i=>
    obtain⟨y,h1,h2⟩:=pos_some ho
    have f1:(l.map (·.1))[i]?=some p:=by rw[getElem?_map,h1,<- h2]; rfl
    have f2:(l.map (·.1))[j]?=some p:=by rw[getElem?_map,hx,<- e1]; rfl
    have:i=j:=(List.getElem?_inj (List.getElem?_eq_some_iff.mp f1).1 nd).mp (f1.trans f2.symm)
    rw[ho,this] at hq; exact hq
theorem room_tt (A:Around) (h:A.units < cLine - 300):(ttKind P02 w).room A:=by show A.units < cLine - 100; unfold cLine at *; omega
theorem room_ti (A:Around) (h:A.units < cLine - 300):(tupleKind (intKind P02 w)).room A:=by show A.units < cLine; unfold cLine at *; omega
noncomputable def IsC (w:World) (h:Heap) (p:Int) (a:Addr):Prop:=IsTT P02 w h [[1,p],[2,80]] a
noncomputable def IsL (w:World) (h:Heap) (p:Int) (a:Addr):Prop:=IsTupleKey (intKind P02 w) h [0,p] a
noncomputable def isC3 (a b c:Addr) (p:Int)(t1 t2 t3 t4:Nat):Objs:=[(a,oT [.ref b,.ref c]),(b,oT [.int 1 t1,.int p t2]),(c,oT [.int 2 t3,.int 80 t4])]
theorem isC_of {h:Heap}{a b c:Addr} {p:Int}{t1 t2 t3 t4:Nat} (H:∀q∈isC3 a b c p t1 t2 t3 t4,h.get? q.1=some q.2):IsC w h p a:=by
 have h1:=H _ (.head _)
 have h2:=H _ (.tail _ (.head _))
 have h3:=H _ (.tail _ (.tail _ (.head _)))
 have i1:∀ (z:Int) (t:Nat),(intKind P02 w).is z (.int z t)=true:=fun z t=>by show Value.isInt z (.int z t)=true; unfold Value.isInt; simp
 exact⟨_,_,_,h1,rfl,rfl,.cons ⟨_,_,_,h2,rfl,rfl,.cons (i1 _ _) (.cons (i1 _ _) .nil)⟩ (.cons ⟨_,_,_,h3,rfl,rfl,.cons (i1 _ _) (.cons (i1 _ _) .nil)⟩ .nil)⟩
theorem isL_of {h:Heap} {a:Addr} {p:Int}{t1 t2:Nat} (H:h.get? a=some (oT [.int 0 t1,.int p t2])):IsL w h p a:=by
 have i1:∀ (z:Int) (t:Nat),(intKind P02 w).is z (.int z t)=true:=fun z t=>by show Value.isInt z (.int z t)=true; unfold Value.isInt; simp
 exact⟨_,_,_,H,rfl,rfl,.cons (i1 _ _) (.cons (i1 _ _) .nil)⟩
theorem kf_conn (nd:(l.map (·.1)).Nodup) {p:Int} {a:Addr}(hl:∀h,BaseOk w fz h->∀x∈l,IsC w h x.1 x.2.1)(hk:∀h,BaseOk w fz h->(∀p∈ex,h.get? p.1=some p.2)->IsC w h p a):KfAt w fz d (dC w l) ep (.ref a) ex (kC w p) 7 (posP l p):=
 kf_heap (knd:=ttKind P02 w) room_tt (fun p=>[[1,p],[2,80]]) (fun a b h=>by injection h with h _; injection h with _ h; injection h) nd hl hk
theorem kf_list (nd:(l.map (·.1)).Nodup) {p:Int} {a:Addr}(hl:∀h,BaseOk w fz h->∀x∈l,IsL w h x.1 x.2.1)(hk:∀h,BaseOk w fz h->(∀p∈ex,h.get? p.1=some p.2)->IsL w h p a):KfAt w fz d (dL w l) ep (.ref a) ex (kL w p) 3 (posP l p):=
 kf_heap (knd:=tupleKind (intKind P02 w)) room_ti (fun p=>[0,p]) (fun a b h=>by injection h with _ h; injection h) nd hl hk
end
end
section
noncomputable def oK3 (T:String) (d:Addr)(i N ep:Nat):Obj:=⟨.type T,none,.fields #[.ref d,.int i 0,.int N 0,.int ep 0],#[]⟩
noncomputable def oK3e (T:String)(i N ep:Nat):Obj:=⟨.type T,none,.fields #[.none,.int i 0,.int N 0,.int ep 0],#[]⟩
noncomputable def kIt (d:Addr)(i N ep:Nat):Obj:=oK3 "dict_keyiterator" d i N ep
noncomputable def vIt (d:Addr)(i N ep:Nat):Obj:=oK3 "dict_valueiterator" d i N ep
noncomputable def lIt (l:Addr) (i:Nat):Obj:=⟨.type "list_iterator",none,.fields #[.ref l,.int i 0],#[]⟩
noncomputable def lItE (i:Nat):Obj:=⟨.type "list_iterator",none,.fields #[.none,.int i 0],#[]⟩
noncomputable def rIt (x left:Int):Obj:=⟨.type "range_iterator",none,.fields #[.int x 0,.int left 0,.int 1 0],#[]⟩
noncomputable def oStop (a:Addr):Obj:=⟨.type "StopIteration",none,.fields (#[.ref a,.none,.none,.none,.bool false,.none]++ownMembersOf (.type "StopIteration") []),#[]⟩
noncomputable def oL0 (l:List Value)(ep:Nat):Obj:=⟨.type "list",none,.seq ⟨l⟩ ep,#[]⟩
theorem fresh1 (n:Nat) (o:Obj):([(n,o)].map (·.1)).Nodup/\∀p∈[(n,o)],n<=p.1:=⟨by simp,by simp⟩
theorem fresh2 (n:Nat)(o o':Obj):([(n,o),(n+1,o')].map (·.1)).Nodup/\∀p∈[(n,o),(n+1,o')],n<=p.1:=⟨by simp,by simp⟩
theorem fresh0 (n:Nat):(([]:List (Addr×Obj)).map (·.1)).Nodup/\∀p∈([]:List (Addr×Obj)),n<=p.1:=⟨.nil,fun _ h=>nomatch h⟩
noncomputable def cIterK (n t:Nat) (d:Addr)(es:Array DictEntry)(ep:Nat):Con:=⟨.call (.builtin "dict.__iter__") ⟨[.ref d],[]⟩,n,t,[(d,dD es ep)],[dD es ep],[(n,kIt d 0 es.size ep)],.ok (.ret (.ref n)),1,0,5⟩
noncomputable def cNextK (n t:Nat)(it d:Addr) (i:Nat)(es:Array DictEntry)(ep:Nat) (v:Value):Con:=⟨.call (.builtin "dict_keyiterator.__next__") ⟨[.ref it],[]⟩,n,t,[(it,kIt d i es.size ep),(d,dD es ep)],[kIt d (i+1) es.size ep,dD es ep],[],.ok (.ret v),0,0,5⟩
noncomputable def cEndK (n t:Nat)(it d:Addr)(es:Array DictEntry)(ep:Nat):Con:=⟨.call (.builtin "dict_keyiterator.__next__") ⟨[.ref it],[]⟩,n,t,[(it,kIt d es.size es.size ep),(d,dD es ep)],[oK3e "dict_keyiterator" es.size es.size ep,dD es ep],[(n,oT []),(n+1,oStop n)],.error (.ref (n+1)),2,0,5⟩
noncomputable def cNextL (n t:Nat)(it l:Addr) (i:Nat)(vs:List Value)(ep:Nat) (v:Value):Con:=⟨.call (.builtin "list_iterator.__next__") ⟨[.ref it],[]⟩,n,t,[(it,lIt l i),(l,oL0 vs ep)],[lIt l (i+1),oL0 vs ep],[],.ok (.ret v),0,0,5⟩
noncomputable def cEndL (n t:Nat)(it l:Addr) (i:Nat)(vs:List Value)(ep:Nat):Con:=⟨.call (.builtin "list_iterator.__next__") ⟨[.ref it],[]⟩,n,t,[(it,lIt l i),(l,oL0 vs ep)],[lItE i,oL0 vs ep],[(n,oT []),(n+1,oStop n)],.error (.ref (n+1)),2,0,5⟩
noncomputable def cNextR (n t:Nat)(it:Addr)(x left:Int):Con:=⟨.call (.builtin "range_iterator.__next__") ⟨[.ref it],[]⟩,n,t,[(it,rIt x left)],[rIt (x+1) (left - 1)],[],.ok (.ret (.int x t)),0,1,5⟩
noncomputable def cEndR (n t:Nat)(it:Addr)(x left:Int):Con:=⟨.call (.builtin "range_iterator.__next__") ⟨[.ref it],[]⟩,n,t,[(it,rIt x left)],[rIt x left],[(n,oT []),(n+1,oStop n)],.error (.ref (n+1)),2,0,5⟩
section
variable {w:World}{fz:Addr->Option Obj}{n t:Nat}
theorem code_meets {A:Around} {s:Shared} {T:String}{name:Str}{id:String} {B:Builtin}{self:Value}{rest:List Value} {S:PySem.Spec} {R:Result->Shared->Prop}(slot:Slot T name id)(hT:s.TypeIs self T)
  (entry:entryFor table id=some B) (args:argsOk id ⟨self::rest,[]⟩) (g:Meets (B ⟨self::rest,[]⟩) S) (h:S A R s):codeAny (model P02 w) A (.call (.builtin id) ⟨self::rest,[]⟩) R s:=
 codeAny_call_builtin slot.plain entry (slot.check _ _ _ _ _ _ _ _ hT args (g P02 w A R s h))
theorem cIterK_ok {d:Addr}{es:Array DictEntry}{ep:Nat}:ConOk w fz (cIterK n t d es ep):=by
 intro A s hA ap B hsz ht hp R hR
 have ho:=hp _ (.head _)
 have hT:=dict_is ho
 have hd:=not_sys ap (.head _)
 have hR:=hR (s.heap.push (kIt d 0 es.size ep)) ⟨by rw[Heap.size_push,hsz]; rfl,fun p q=>Heap.get?_push_of_some _ (hp p (by rw[show(cIterK n t d es ep).post=(cIterK n t d es ep).pre.map (·.2) from rfl,zipA_same] at q; exact q)),fun p q=>(by
  cases q with
  | head=>show(s.heap.push _).get? n=_; rw[show n=s.heap.objs.size from hsz.symm]; exact Heap.get?_push_size _ rfl
  | tail _ q=>cases q),fresh1 n _,fun b o e _=>Heap.get?_push_of_some _ e⟩
 refine code_entry F.slot_dict_iter hT F.entry_dict_iter (F.args_dict_iter_1 _) ?_
 unfold Builtin.«dict.__iter__»
 refine wpAny_bind ?_
 unfold Builtin.Dict.dictSlotNone
 refine wpAny_bind (wpAny_notOrdered_dict hT ?_)
 show wpAny _ _ (pure (Value.ref d)) _ _ s
 refine wpAny_pure ?_
 show wpAny _ _ (Builtin.Dict.showsAll d >>= _) _ _ s
 unfold Builtin.Dict.showsAll
 rw[if_neg (by rw[hd]; exact Bool.false_ne_true)]
 refine wpAny_bind (wpAny_pure ?_)
 refine wpAny_bind (wpAny_dictEntries ho rfl ?_)
 refine wpAny_bind (wpAny_dictEpoch ho rfl ?_)
 refine wpAny_bind (wpAny_newObj_type (wpAny_pure ⟨_,rfl,?_⟩))
 rw[<- ht,show(cIterK n t d es ep).res=.ok (.ret (.ref s.heap.objs.size)) by rw[hsz]; rfl] at hR
 exact hR
theorem stop_ok {A:Around}(hh:A.handled=none) {α:Type} {s:Shared} {Q:α->Shared->Prop} {E:Value->Shared->Prop} (h:E (.ref (s.heap.objs.size+1)) {s with heap:=(s.heap.push (oT [])).push (oStop s.heap.objs.size)}):
  wpAny (model P02 w) A ((newExc (.type "StopIteration") [] >>= fun e=>raiseNew e):Sem α) Q E s:=by
 refine wpAny_bind ?_
 simp only[newExc,newTuple]
 refine wpAny_bind (wpAny_newObj_type ?_ (by size_fits))
 refine wpAny_bind (m:=firstArgMember _ _) (wpAny_of_eq (a:=Value.none) (by first | rfl | (simp only[firstArgMember]; rfl)) ?_)
 refine wpAny_newObj_type ?_ (by size_fits)
 simp only[raiseNew]
 refine wpAny_bind (wpAny_handled ?_)
 rw[hh]
 refine wpAny_bind (wpAny_pure (wpAny_throw ?_))
 rw[Heap.size_push]
 exact h
theorem stop_after {C:Con}{h h₁:Heap}{it:Addr}{o o':Obj}{ex:Objs}(hs:h.objs.size=C.n)(hp:∀p∈C.pre,h.get? p.1=some p.2)(nd:(C.pre.map (·.1)).Nodup)(e0:C.pre=(it,o)::ex)(e1:C.post=o'::ex.map (·.2))(e2:C.news= [(C.n,oT []),(C.n+1,oStop C.n)])(e3:C.dm=2)
  (sb:Heap.SameBut it h h₁) (hi:h₁.get? it=some o'):After C h ((h₁.push (oT [])).push (oStop h₁.objs.size)):=by
 have hz:h₁.objs.size=C.n:=sb.1.trans hs
 have up:∀ {b:Addr} {x:Obj},h₁.get? b=some x->((h₁.push (oT [])).push (oStop h₁.objs.size)).get? b=some x:=fun e=>Heap.get?_push_of_some _ (Heap.get?_push_of_some _ e)
 rw[e0] at hp nd
 refine⟨by rw[Heap.size_push,Heap.size_push,hz,e3],fun p q=>up ?_,fun p q=>?_,by rw[e2]; exact fresh2 ..,fun b o' e q=>up ((sb.2 b fun z=>q (it,o) (by rw[e0]; exact .head _) z.symm).trans e)⟩
 ·rw[e0,e1] at q
  cases q with
  | head=>exact hi
  | tail _ q=>
   rw[zipA_same] at q
   refine(sb.2 p.1 fun z=>?_).trans (hp p (.tail _ q))
   exact(nodup_cons.mp nd).1 (mem_map.mpr ⟨p,q,z⟩)
 ·rw[e2] at q
  cases q with
  | head=>show Heap.get? _ C.n=_; rw[<- hz]; exact Heap.get?_push_of_some _ (Heap.get?_push_size _ rfl)
  | tail _ q=>
   cases q with
   | head=>
    show Heap.get? _ (C.n+1)=some (oStop C.n)
    rw[<- hz,show h₁.objs.size+1=(h₁.push (oT [])).objs.size from(Heap.size_push ..).symm]; exact Heap.get?_push_size _ rfl
   | tail _ q=>cases q
theorem cNextL_ok {it l:Addr} {i:Nat}{vs:List Value}{ep:Nat} {v:Value}(hv:vs[i]?=some v):ConOk w fz (cNextL n t it l i vs ep v):=by
 intro A s hA ap B hsz ht hp R hR
 have ho:=hp _ (.head _)
 have hol:=hp _ (.tail _ (.head _))
 have hT:s.TypeIs (.ref it) "list_iterator":=⟨_,ho,rfl⟩
 have hR:=hR _ (.upd (f:=Obj.mapFields (·.setIfInBounds 1 (rawInt ((i:Int)+1)))) hsz hp ap.nd rfl rfl rfl rfl rfl)
 rw[<- ht] at hR
 refine code_entry slot_listiter_next hT entry_listiter_next (args_listiter_next _) ?_
 show wpAny _ _ (field (.ref it) 0 >>= _) _ _ s
 refine wpAny_bind (wpAny_field ho rfl (x:=.ref l) rfl ?_)
 show wpAny _ _ (if (Value.ref l == Value.none)=true then _ else _) _ _ s
 rw[if_neg (show ¬ ((Value.ref l == Value.none)=true) from Bool.false_ne_true)]
 show wpAny _ _ (field (.ref it) 1 >>= _) _ _ s
 refine wpAny_bind (wpAny_field ho rfl (x:=.int i 0) rfl ?_)
 show wpAny _ _ (seqItems? (.ref l) >>= _) _ _ s
 refine wpAny_bind (wpAny_seqItems hol rfl ?_)
 have hx:(⟨vs⟩:Array Value)[(i:Int).toNat]?=some v:=by rw[Int.toNat_natCast]; simpa using hv
 simp only[hx]
 exact wpAny_bind (wpAny_setField ho rfl (by simp) (wpAny_pure ⟨v,rfl,hR⟩))
theorem cEndL_ok {it l:Addr} {i:Nat}{vs:List Value}{ep:Nat}(hv:vs.length<=i):ConOk w fz (cEndL n t it l i vs ep):=by
 intro A s hA ap B hsz ht hp R hR
 have ho:=hp _ (.head _)
 have hol:=hp _ (.tail _ (.head _))
 have hT:s.TypeIs (.ref it) "list_iterator":=⟨_,ho,rfl⟩
 have up:(s.heap.update it (Obj.mapFields (·.setIfInBounds 0 .none))).get? it=some (lItE i):=by first | exact Heap.get?_update_self _ ho rfl | exact Heap.get?_update_self (Obj.mapFields (·.setIfInBounds 0 .none)) ho rfl
 have hR:=hR _ (stop_after (o':=lItE i) hsz hp ap.nd rfl rfl rfl rfl (Heap.SameBut.update ..) up)
 rw[<- ht] at hR
 refine code_entry slot_listiter_next hT entry_listiter_next (args_listiter_next _) ?_
 show wpAny _ _ (field (.ref it) 0 >>= _) _ _ s
 refine wpAny_bind (wpAny_field ho rfl (x:=.ref l) rfl ?_)
 show wpAny _ _ (if (Value.ref l == Value.none)=true then _ else _) _ _ s
 rw[if_neg (show ¬ ((Value.ref l == Value.none)=true) from Bool.false_ne_true)]
 show wpAny _ _ (field (.ref it) 1 >>= _) _ _ s
 refine wpAny_bind (wpAny_field ho rfl (x:=.int i 0) rfl ?_)
 show wpAny _ _ (seqItems? (.ref l) >>= _) _ _ s
 refine wpAny_bind (wpAny_seqItems hol rfl ?_)
 have hx:(⟨vs⟩:Array Value)[(i:Int).toNat]?=none:=by rw[Int.toNat_natCast]; simpa using hv
 simp only[hx]
 refine wpAny_bind (wpAny_rule (wpAny_bind (wpAny_setField ho rfl (by simp) ?_)))
 refine stop_ok (A:=A.in1) hA.hd ?_
 rw[show(s.heap.update it (Obj.mapFields (·.setIfInBounds 0 .none))).objs.size=n from(Heap.SameBut.update ..).1.trans hsz] at hR ⊢
 exact hR
theorem cNextR_ok {it:Addr}{x left:Int}(hl:0 < left):ConOk w fz (cNextR n t it x left):=by
 intro A s hA ap B hsz ht hp R hR
 have ho:=hp _ (.head _)
 have hT:s.TypeIs (.ref it) "range_iterator":=⟨_,ho,rfl⟩
 have sb:Heap.SameBut it s.heap ((s.heap.update it (Obj.mapFields (·.setIfInBounds 0 (rawInt (x+1))))).update it (Obj.mapFields (·.setIfInBounds 1 (rawInt (left - 1))))):=(Heap.SameBut.update ..).trans (Heap.SameBut.update ..)
 have hi:((s.heap.update it (Obj.mapFields (·.setIfInBounds 0 (rawInt (x+1))))).update it (Obj.mapFields (·.setIfInBounds 1 (rawInt (left - 1))))).get? it=some (rIt (x+1) (left - 1)):=
  Heap.get?_update_self _ (Heap.get?_update_self _ ho rfl) rfl
 have hR:=hR _ ⟨by rw[sb.1,hsz]; rfl,fun p q=>(by
  cases q with
  | head=>exact hi
  | tail _ q=>cases q),fun p q=>(nomatch q),fresh0 _,fun b o e q=>(sb.2 b fun z=>q _ (.head _) z.symm).trans e⟩
 subst ht
 exact code_meets F.slot_range_iterator_next hT F.entry_range_iterator_next (F.args_range_iterator_next_1 _) (AutoRange.range_iterator___next___range_iterator_1 it x left 1 (by omega)) ⟨ho,hR⟩
theorem cEndR_ok {it:Addr}{x left:Int}(hl:left<=0):ConOk w fz (cEndR n t it x left):=by
 intro A s hA ap B hsz ht hp R hR
 have ho:=hp _ (.head _)
 have hT:s.TypeIs (.ref it) "range_iterator":=⟨_,ho,rfl⟩
 have hR:=hR _ (stop_after (ex:=[]) (o':=rIt x left) (h₁:=s.heap) hsz hp ap.nd rfl rfl rfl rfl (.refl _ _) ho)
 rw[<- ht] at hR
 refine code_entry F.slot_range_iterator_next hT F.entry_range_iterator_next (F.args_range_iterator_next_1 _) ?_
 show wpAny _ _ (field (.ref it) 0 >>= _) _ _ s
 refine wpAny_bind (wpAny_field ho rfl (x:=rawInt x) rfl ?_)
 show wpAny _ _ (field (.ref it) 1 >>= _) _ _ s
 refine wpAny_bind (wpAny_field ho rfl (x:=rawInt left) rfl ?_)
 show wpAny _ _ (field (.ref it) 2 >>= _) _ _ s
 refine wpAny_bind (wpAny_field ho rfl (x:=rawInt 1) rfl ?_)
 show wpAny _ _ (if left<=0 then _ else _) _ _ s
 rw[if_pos hl]
 refine wpAny_bind (wpAny_rule ?_)
 refine wpAny_bind (stop_ok (A:=A.in1) hA.hd ?_)
 rw[show s.heap.objs.size=n from hsz] at hR ⊢
 exact hR
theorem cNextK_ok {it d:Addr} {i:Nat}{es:Array DictEntry}{ep:Nat} {e:DictEntry}(he:es[i]?=some e):ConOk w fz (cNextK n t it d i es ep e.key):=by
 intro A s hA ap B hsz ht hp R hR
 have ho:=hp _ (.head _)
 have hod:=hp _ (.tail _ (.head _))
 have hit:s.heap.IsKeyIter it d i es.size ep:=⟨_,ho,rfl,rfl⟩
 have hR:=hR _ (.upd (f:=Obj.mapFields (·.setIfInBounds 1 (rawInt ((i:Int)+1)))) hsz hp ap.nd rfl rfl rfl rfl rfl)
 rw[<- ht] at hR
 refine code_entry F.slot_dict_keyiterator_next hit.typeIs F.entry_dict_keyiterator_next (F.args_dict_keyiterator_next_1 _) ?_
 refine wpAny_bind (wpAny_pure ?_)
 refine wpAny_bind ?_
 refine wpAny_bind ?_
 first | refine wpAny_bind (wpAny_typeNameOfWhole_keyiter hit.typeIs (wpAny_pure ?_)) | refine wpAny_bind (wpAny_typeNameOf_keyiter hit.typeIs (wpAny_pure ?_))
 refine wpAny_bind (wpAny_fieldsOf ho rfl ?_)
 have hown:Builtin.Dict_items.ownsTuple "dict_keyiterator"=false:=by decide
 simp only[hown,Bool.false_eq_true,if_false]
 show wpAny _ _ (if (Value.ref d == Value.none)=true then _ else _) _ _ s
 rw[if_neg (show ¬ ((Value.ref d == Value.none)=true) from Bool.false_ne_true)]
 refine wpAny_bind (wpAny_pure ?_)
 refine wpAny_bind (wpAny_dictEntries hod rfl ?_)
 rw[if_neg (by simp)]
 refine wpAny_bind (wpAny_pure ?_)
 refine wpAny_bind (wpAny_dictEpoch hod rfl ?_)
 rw[if_neg (by simp)]
 refine wpAny_pure ?_
 simp only[show ¬ ((i:Int) < 0) from by omega,if_false,Int.toNat_natCast,he]
 refine wpAny_bind ?_
 first | refine wpAny_bind (wpAny_typeNameOfWhole_keyiter hit.typeIs (wpAny_pure ?_)) | refine wpAny_bind (wpAny_typeNameOf_keyiter hit.typeIs (wpAny_pure ?_))
 refine wpAny_bind (wpAny_isOneOf_keyiter hit.typeIs ?_)
 show wpAny _ _ (setField (.ref it) 1 (rawInt ((i:Int)+1)) >>= _) _ _ s
 refine wpAny_bind (wpAny_setField ho rfl (by simp) ?_)
 have hT:({s with heap:=s.heap.update it (Obj.mapFields (·.setIfInBounds 1 (rawInt ((i:Int)+1))))}:Shared).TypeIs (.ref it) "dict_keyiterator":=⟨_,Heap.get?_update_self _ ho rfl,rfl⟩
 refine wpAny_bind (wpAny_holding ?_)
 refine wpAny_bind (wpAny_isOneOf_keyiter hT ?_)
 show wpAny _ _ (pure e.key) _ _ _
 exact wpAny_pure (wpAny_pure ⟨_,rfl,hR⟩)
theorem cEndK_ok {it d:Addr}{es:Array DictEntry}{ep:Nat}:ConOk w fz (cEndK n t it d es ep):=by
 intro A s hA ap B hsz ht hp R hR
 have ho:=hp _ (.head _)
 have hod:=hp _ (.tail _ (.head _))
 have hit:s.heap.IsKeyIter it d es.size es.size ep:=⟨_,ho,rfl,rfl⟩
 have up:(s.heap.update it (Obj.mapFields (·.setIfInBounds 0 .none))).get? it=some (oK3e "dict_keyiterator" es.size es.size ep):=by first | exact Heap.get?_update_self _ ho rfl | exact Heap.get?_update_self (Obj.mapFields (·.setIfInBounds 0 .none)) ho rfl
 have hR:=hR _ (stop_after (o':=oK3e "dict_keyiterator" es.size es.size ep) hsz hp ap.nd rfl rfl rfl rfl (Heap.SameBut.update ..) up)
 rw[<- ht] at hR
 refine code_entry F.slot_dict_keyiterator_next hit.typeIs F.entry_dict_keyiterator_next (F.args_dict_keyiterator_next_1 _) ?_
 refine wpAny_bind (wpAny_pure ?_)
 refine wpAny_bind ?_
 refine wpAny_bind ?_
 first | refine wpAny_bind (wpAny_typeNameOfWhole_keyiter hit.typeIs (wpAny_pure ?_)) | refine wpAny_bind (wpAny_typeNameOf_keyiter hit.typeIs (wpAny_pure ?_))
 refine wpAny_bind (wpAny_fieldsOf ho rfl ?_)
 have hown:Builtin.Dict_items.ownsTuple "dict_keyiterator"=false:=by decide
 simp only[hown,Bool.false_eq_true,if_false]
 show wpAny _ _ (if (Value.ref d == Value.none)=true then _ else _) _ _ s
 rw[if_neg (show ¬ ((Value.ref d == Value.none)=true) from Bool.false_ne_true)]
 refine wpAny_bind (wpAny_pure ?_)
 refine wpAny_bind (wpAny_dictEntries hod rfl ?_)
 rw[if_neg (by simp)]
 refine wpAny_bind (wpAny_pure ?_)
 refine wpAny_bind (wpAny_dictEpoch hod rfl ?_)
 rw[if_neg (by simp)]
 refine wpAny_pure ?_
 simp only[show ¬ ((es.size:Int) < 0) from by omega,if_false,Int.toNat_natCast,show es[es.size]?=none from by simp]
 refine wpAny_bind ?_
 first | refine wpAny_bind (wpAny_typeNameOfWhole_keyiter hit.typeIs (wpAny_pure ?_)) | refine wpAny_bind (wpAny_typeNameOf_keyiter hit.typeIs (wpAny_pure ?_))
 show wpAny _ _ (setField (.ref it) 0 .none >>= _) _ _ s
 refine wpAny_bind (wpAny_setField ho rfl (by simp) ?_)
 refine stop_ok (A:=A.in1) hA.hd ?_
 rw[show(s.heap.update it (Obj.mapFields (·.setIfInBounds 0 .none))).objs.size=n from(Heap.SameBut.update ..).1.trans hsz] at hR ⊢
 exact hR
end
end
section
theorem CtxOk.mono {A:Around}{nd nd':Nat} (h:CtxOk A nd')(le:nd<=nd'):CtxOk A nd:=⟨h.hd,by have:=h.dp; omega,by have:=h.un; omega⟩
theorem After.base {w:World}{fz:Addr->Option Obj} {C:Con}{h h':Heap} (Q:After C h h') (B:BaseOk w fz h)(ap:Apart w fz (C.pre.map (·.1))):BaseOk w fz h':=by
 refine⟨fun a o e=>Q.keep a o (B.top a o e) fun p hp z=>?_,fun a o e=>Q.keep a o (B.fz a o e) fun p hp z=>?_⟩
 ·have:=ap.nb p.1 (mem_map.mpr ⟨p,hp,rfl⟩)
  rw[z,e] at this; cases this
 ·have:=ap.nz p.1 (mem_map.mpr ⟨p,hp,rfl⟩)
  rw[z,e] at this; cases this
theorem zipA_fst:∀ {ps:List (Addr×Obj)}{os:List Obj},os.length=ps.length->(zipA ps os).map (·.1)=ps.map (·.1)
 | [],[],_=>rfl
 | [],_::_,h=>by cases h
 | _::_,[],h=>by cases h
 | p::ps,o::os,h=>by show p.1::(zipA ps os).map (·.1)=p.1::ps.map (·.1); rw[zipA_fst (Nat.succ.inj h)]
theorem zipA_addr:∀ {ps ps':List (Addr×Obj)}{os:List Obj},ps.map (·.1)=ps'.map (·.1)->zipA ps os=zipA ps' os
 | [],[],_,_=>rfl
 | [],_::_,_,h=>by cases h
 | _::_,[],_,h=>by cases h
 | p::ps,q::ps',[],h=>rfl
 | p::ps,q::ps',o::os,h=>by
  rw[map_cons,map_cons] at h
  obtain⟨h1,h2⟩:=List.cons.inj h
  show(p.1,o)::zipA ps os=(q.1,o)::zipA ps' os
  rw[h1,zipA_addr h2]
theorem zipA_append:∀ {ps qs:List (Addr×Obj)}{os os':List Obj},os.length=ps.length->zipA (ps++qs) (os++os')=zipA ps os++zipA qs os'
 | [],_,[],_,_=>rfl
 | [],_,_::_,_,h=>by cases h
 | _::_,_,[],_,h=>by cases h
 | p::ps,qs,o::os,os',h=>by show(p.1,o)::zipA (ps++qs) (os++os')=(p.1,o)::(zipA ps os++zipA qs os'); rw[zipA_append (Nat.succ.inj h)]
section
variable {w:World}{fz:Addr->Option Obj}
theorem base_big {h:Heap} (B:BaseOk w fz h):1486<=h.objs.size:=by
 obtain⟨o,ho⟩:=Option.isSome_iff_exists.mp (base1485 w.params)
 exact Heap.lt_size (B.top _ _ ho)
theorem next_apart {C:Con}{h h':Heap} (Q:After C h h')(hl:C.post.length=C.pre.length)(ap:Apart w fz (C.pre.map (·.1))) (B:BaseOk w fz h)(hs:h.objs.size=C.n)(hp:∀p∈C.pre,h.get? p.1=some p.2):
  Apart w fz ((zipA C.pre C.post++C.news).map (·.1)):=by
 have lt:∀a∈C.pre.map (·.1),a < C.n:=fun a ha=>by
  obtain⟨p,hm,rfl⟩:=mem_map.mp ha
  have:=Heap.lt_size (hp p hm)
  rwa [hs] at this
 have ge:∀a∈C.news.map (·.1),C.n<=a:=fun a ha=>by
  obtain⟨p,hm,rfl⟩:=mem_map.mp ha
  exact Q.fresh.2 p hm
 have big:=base_big B
 rw[hs] at big
 rw[map_append,zipA_fst hl]
 refine⟨nodup_append.mpr ⟨ap.nd,Q.fresh.1,fun a ha b hb e=>?_⟩,fun a ha=>?_,fun a ha=>?_⟩
 ·subst e
  exact absurd (lt_of_lt_of_le (lt a ha) (ge a hb)) (lt_irrefl _)
 ·rcases mem_append.mp ha with q | q
  ·exact ap.nb a q
  ·cases e:baseLook w.params a with
   | none=>rfl
   | some o=>exact absurd (lt_of_lt_of_le (baseLook_lt e) (le_trans big (ge a q))) (lt_irrefl _)
 ·rcases mem_append.mp ha with q | q
  ·exact ap.nz a q
  ·cases e:fz a with
   | none=>rfl
   | some o=>exact absurd (lt_of_lt_of_le (hs▸Heap.lt_size (B.fz a o e)) (ge a q)) (lt_irrefl _)
theorem after_then {C₁ C₂:Con}{h h' h'':Heap}{post rest:List Obj}{nd:Nat}(Q₁:After C₁ h h')(Q₂:After C₂ h' h'')(hn:C₂.n=C₁.n+C₁.dm)(hl:C₁.post.length=C₁.pre.length)(hp:C₂.pre=zipA C₁.pre C₁.post++C₁.news)
  (ho:C₂.post=post++rest) (hlp:post.length=C₁.pre.length) (hs:h.objs.size=C₁.n):After ⟨C₁.code,C₁.n,C₁.t,C₁.pre,post,C₂.news,C₂.res,C₁.dm+C₂.dm,C₁.dt+C₂.dt,nd⟩ h h'':=by
 refine⟨by rw[Q₂.size,hn]; exact Nat.add_assoc ..,fun p q=>Q₂.post p ?_,Q₂.news,⟨Q₂.fresh.1,fun p q=>le_trans (by rw[hn]; exact le_add_right ..) (Q₂.fresh.2 p q)⟩,fun b o e q=>Q₂.keep b o (Q₁.keep b o e q) fun p hm z=>?_⟩
 ·have e1:(zipA C₁.pre C₁.post).map (·.1)=C₁.pre.map (·.1):=zipA_fst hl
  rw[hp,ho,zipA_append (by have:=congrArg List.length e1; rw[length_map,length_map] at this; rw[this]; exact hlp)]
  exact mem_append.mpr (.inl (by rw[zipA_addr e1]; exact q))
 ·rw[hp] at hm
  rcases mem_append.mp hm with k | k
  ·have:p.1∈C₁.pre.map (·.1):=by rw[<- zipA_fst hl]; exact mem_map.mpr ⟨p,k,rfl⟩
   obtain⟨p',hp',e'⟩:=mem_map.mp this
   exact q p' hp' (e'.trans z)
  ·have:=Q₁.fresh.2 p k
   have lt:=Heap.lt_size e
   rw[hs,<- z] at lt
   exact absurd (lt_of_lt_of_le lt this) (lt_irrefl _)
theorem turn_con {C₁ C₂:Con}{post rest:List Obj}{nd:Nat} (T:TurnOk w fz C₁ C₂.code) (K:ConOk w fz C₂)(hn:C₂.n=C₁.n+C₁.dm)(ht:C₂.t=C₁.t+C₁.dt)(hl:C₁.post.length=C₁.pre.length)(hp:C₂.pre=zipA C₁.pre C₁.post++C₁.news)
  (ho:C₂.post=post++rest) (hlp:post.length=C₁.pre.length) (h1:C₁.nd<=nd) (h2:C₂.nd<=nd):ConOk w fz ⟨C₁.code,C₁.n,C₁.t,C₁.pre,post,C₂.news,C₂.res,C₁.dm+C₂.dm,C₁.dt+C₂.dt,nd⟩:=by
 intro A s hA ap B hsz htk hpre R hR
 refine T A s (hA.mono h1) ap B hsz htk hpre R fun h' Q=>?_
 refine K A ⟨h',s.gens,s.drawn,C₁.t+C₁.dt,s.os⟩ (hA.mono h2) (by rw[hp]; exact next_apart Q hl ap B hsz hpre) (Q.base B ap) (Q.size.trans hn.symm) ht.symm (fun p hm=>?_) R fun h'' Q₂=>?_
 ·rw[hp] at hm
  rcases mem_append.mp hm with k | k
  ·exact Q.post p k
  ·exact Q.news p k
 ·have:=hR h'' (after_then Q Q₂ hn hl hp ho hlp hsz)
  rw[show C₂.t+C₂.dt=C₁.t+(C₁.dt+C₂.dt) by rw[ht]; exact Nat.add_assoc ..]
  exact this
theorem turn_con' {C₁ C₂ C₃:Con}{rest:List Obj} (T:TurnOk w fz C₁ C₂.code) (K:ConOk w fz C₂) (e:C₃=⟨C₁.code,C₁.n,C₁.t,C₁.pre,C₃.post,C₂.news,C₂.res,C₁.dm+C₂.dm,C₁.dt+C₂.dt,C₃.nd⟩)(hn:C₂.n=C₁.n+C₁.dm)(ht:C₂.t=C₁.t+C₁.dt)(hl:C₁.post.length=C₁.pre.length)(hp:C₂.pre=zipA C₁.pre C₁.post++C₁.news)
  (ho:C₂.post=C₃.post++rest) (hlp:C₃.post.length=C₁.pre.length) (h1:Nat.ble C₁.nd C₃.nd=true) (h2:Nat.ble C₂.nd C₃.nd=true):ConOk w fz C₃:=by
 rw[e]
 exact turn_con T K hn ht hl hp ho hlp (le_of_ble_eq_true h1) (le_of_ble_eq_true h2)
def cApp (n t:Nat) (l:Addr)(vs:List Value)(ep:Nat) (v:Value):Con:=⟨.call (.builtin "list.append") ⟨[.ref l,v],[]⟩,n,t,[(l,oL0 vs ep)],[oL0 (vs++[v]) (ep+1)],[],.ok (.ret .none),0,0,5⟩
theorem cApp_ok {n t:Nat} {l:Addr}{vs:List Value}{ep:Nat} {v:Value}(hv:vs.length<=60):ConOk w fz (cApp n t l vs ep v):=by
 intro A s hA ap B hsz ht hp R hR
 have ho:=hp _ (.head _)
 have hT:s.TypeIs (.ref l) "list":=⟨_,ho,rfl⟩
 have hR:=hR _ (.upd (f:=Obj.mapSeq fun x=>x.push v) hsz hp ap.nd rfl (by
  show[oL0 (vs++[v]) (ep+1)]= [Obj.mapSeq (fun x=>x.push v) (oL0 vs ep)]
  unfold oL0 Obj.mapSeq
  simp) rfl rfl rfl)
 rw[<- ht] at hR
 exact code_meets F.slot_list_append hT F.entry_list_append (F.args_list_append_2 _ _) (AutoListH.list_append_list_val_0 l ⟨vs⟩ ep v (by rw[sizeLine_eq]; show vs.length<=_; omega)) ⟨ho,hR⟩
noncomputable def oRange (t₁ t₂ t₃:Nat) (N:Int):Obj:=⟨.type "range",none,.fields #[.int 0 t₁,.int N t₂,.int 1 t₃],#[]⟩
def cRIter (n t:Nat) (r:Addr)(t₁ t₂ t₃:Nat) (N:Int):Con:=⟨.call (.builtin "range.__iter__") ⟨[.ref r],[]⟩,n,t,[(r,oRange t₁ t₂ t₃ N)],[oRange t₁ t₂ t₃ N],[(n,rIt 0 N)],.ok (.ret (.ref n)),1,0,5⟩
theorem cRIter_ok {n t:Nat} {r:Addr}{t₁ t₂ t₃:Nat} {N:Int}(h1:0 < N)(h2:N<=1000):ConOk w fz (cRIter n t r t₁ t₂ t₃ N):=by
 intro A s hA ap B hsz ht hp R hR
 have ho:=hp _ (.head _)
 have hT:s.TypeIs (.ref r) "range":=⟨_,ho,rfl⟩
 have fits:∀x:Int,0<=x->x<=1000->Builtin.Range.rangeFitsLong x=true:=fun x a b=>by
  unfold Builtin.Range.rangeFitsLong
  rw[decide_eq_true (show -(2 ^ 63:Int)<=x by omega),decide_eq_true (show x < (2 ^ 63:Int) by omega)]; rfl
 have sz:Builtin.Range.rangeSize 0 N 1=N:=by
  unfold Builtin.Range.rangeSize
  rw[if_pos (by decide),if_pos h1,Int.ediv_one]; omega
 have all:(Builtin.Range.rangeFitsLong 0 && Builtin.Range.rangeFitsLong N && Builtin.Range.rangeFitsLong 1 && Builtin.Range.rangeFitsLong (Builtin.Range.rangeSize 0 N 1) && (Builtin.Range.rangeSize 0 N 1 == 0 || if (1:Int) > 0 then Builtin.Range.rangeFitsLong (N+(1 - 1)) else Builtin.Range.rangeFitsLong (N+(1+1))))=true:=by
  rw[sz,fits 0 (by decide) (by decide),fits N (by omega) h2,fits 1 (by decide) (by decide),if_pos (by decide),fits (N+(1 - 1)) (by omega) (by omega)]
  simp
 have hR:=hR (s.heap.push (rIt 0 N)) ⟨by rw[Heap.size_push,hsz]; rfl,fun p q=>Heap.get?_push_of_some _ (hp p (by
   cases q with
   | head=>exact .head _
   | tail _ q=>cases q)),fun p q=>(by
  cases q with
  | head=>show(s.heap.push _).get? n=_; rw[show n=s.heap.objs.size from hsz.symm]; exact Heap.get?_push_size _ rfl
  | tail _ q=>cases q),fresh1 n _,fun b o e _=>Heap.get?_push_of_some _ e⟩
 rw[<- ht,show(cRIter n t r t₁ t₂ t₃ N).res=.ok (.ret (.ref s.heap.objs.size)) by rw[hsz]; rfl] at hR
 refine code_meets F.slot_range_iter hT F.entry_range_iter (F.args_range_iter_1 _) (AutoRange.range___iter___range_1 r 0 N 1 t₁ t₂ t₃ (by rw[all]; decide)) ⟨ho,?_⟩
 rw[all,sz,if_pos rfl]
 exact hR
end
end
noncomputable def mcf:Out->Cf
 | .more cf=>cf
 | _=>⟨.block [] default,0,0,.base,.raise .none,⟨.nil,0,0,0,0,0,[],[],[]⟩⟩
def isMore:Out->Bool
 | .more _=>true
 | _=>false
def afterAct (s:St) (j:Nat) (p:Addr×Obj)(dr:Nat)(hs:List Nat):St:=⟨s.T.put 12 j (some p),s.m,s.zb,s.zk,s.tb,Nat.add s.tk dr,hs,[],[]⟩
def goOn (V:Vx) (N:Nat)(cf:Cf) (K:Sem Fin) (j:Nat) (p:Addr×Obj)(dr:Nat)(hs:List Nat):Out:=runS V N ⟨cf.c,cf.dp,cf.un,cf.κ,K,afterAct cf.s j p dr hs⟩
abbrev ActT:=Bool×List Eqn×List (Bool×Bool)×Sem Fin×List (Option (Addr×Obj))×Bool
def actL (V:Vx) (X:Out)(js:List Nat):ActT:=(isMore X,X.st.es.map Eqn.swap,X.st.bs,(mcf X).t,js.map (mcf X).s.T.get,and (Nat.ble (mcf X).dp V.nd) (Nat.ble (mcf X).un (Nat.mul 4 V.nd)))
def actR {α:Type} (X:Out)(act:Sem α) (K:α->Sem Fin)(xs:List (Addr×Obj)):ActT:=(true,X.st.es,[],R.bindR act K,xs.map some,true)
theorem act_run {w:World}{fz:Addr->Option Obj} {C:Con}{cons:List Con}{ro:List (Addr×Obj)}{N N₂ m₀ w0 u0 ze te j dr:Nat}{hs hs₂ js ni:List Nat} {d:Addr} {o:Obj} {f:Obj->Obj}{xs:List (Addr×Obj)} {α:Type}{act:Sem α} {K:α->Sem Fin}{a₀:α}
  (hk:and (Nat.ble C.code.weight w0) (Nat.ble C.code.cUnits u0)=true) (hm:C.pre.length=m₀) (hm':Nat.ble m₀ 4000=true) (hi:incr ni m₀=true) (hz:ze=C.n+C.dm) (ht':te=C.t+C.dt)
  (E:actL (vOf w fz C cons ro) (xOf w fz C cons ro N w0 u0 hs) (j::js)=actR (xOf w fz C cons ro N w0 u0 hs) act K ((d,o)::xs))
  (E₂:endL m₀ ni (goOn (vOf w fz C cons ro) N₂ (mcf (xOf w fz C cons ro N w0 u0 hs)) (K a₀) j (d,f o) dr hs₂)=endR C ze te [] (goOn (vOf w fz C cons ro) N₂ (mcf (xOf w fz C cons ro N w0 u0 hs)) (K a₀) j (d,f o) dr hs₂))
  (hc:∀D∈cons,ConOk w fz D) (hro:∀p∈ro,fz p.1=some p.2) (hf:(f o).isFreed=false)
  (ha:∀ (B:Around) (s:Shared) (Q:α->Shared->Prop) (Er:Value->Shared->Prop),B.units<=9000->B.handled=none->BaseOk w fz s.heap->(∀p∈(d,o)::xs,s.heap.get? p.1=some p.2)->Q a₀ {s with heap:=s.heap.update d f,toks:=s.toks+dr}->wpAny (model P02 w) B act Q Er s):ConOk w fz C:=by
 intro A s hA ap B hsz ht hp R hR
 subst hm
 have G:=began (le_of_ble_eq_true hm') ap B hsz hp
 unfold xOf at E E₂
 generalize hX:runS (vOf w fz C cons ro) N (cfOf w0 u0 C hs)=X at E E₂
 generalize hY:goOn (vOf w fz C cons ro) N₂ (mcf X) (K a₀) j (d,f o) dr hs₂=Y at E₂
 refine run_from (bs:=[]) (le_of_k hk) hX (congrArg (fun x:ActT=>x.2.1) E) (congrArg (fun x:ActT=>x.2.2.1) E) nm hA hc hro ht G ?_
 have e1:isMore X=true:=congrArg (fun x:ActT=>x.1) E
 cases X with
 | more cf=>
  have e2:cf.t=PySem.W.R.bindR act K:=congrArg (fun x:ActT=>x.2.2.2.1) E
  have e3:(j::js).map cf.s.T.get=((d,o)::xs).map some:=congrArg (fun x:ActT=>x.2.2.2.2.1) E
  have e4:=le_of_k (congrArg (fun x:ActT=>x.2.2.2.2.2) E)
  intro dp ks h D
  obtain⟨c,dp₁,un,κ,t,T,m,zb,zk,tb,tk,hs₁,es,bs⟩:=cf
  dsimp only at e2 e3 e4 dp ks D
  have D:Rep (fxOf w fz C s.heap) h T m (zb+zk):=D
  have ej:T.get j=some (d,o):=(List.cons.inj e3).1
  have al:=(map_some_mem e3).2
  show MN w A R c κ t _
  rw[e2,<- PySem.W.R.bindR_eq]
  refine wpOwn_bind (m:=act) (f:=K) (wpOwn_of_wpAny (ha _ (Sh h s.gens s.drawn s.os ⟨T,m,zb,zk,tb,tk,hs₁,es,bs⟩) _ _ ?_ (dp.2.2.trans hA.hd) D.base (fun p hp=>?_) ?_))
  ·have z:((aro A κ).under c).units<=A.units+un:=dp.2.1
   have:=hA.un
   have u:un<=4 * C.nd:=e4.2
   omega
  ·obtain⟨i,_,e⟩:=al p hp
   exact(D.own _ _ e).2
  ·have S:=runS_ok (V:=vOf w fz C cons ro) G.ok rfl hc hro hA (R:=R) (g:=s.gens) (d:=s.drawn) (os:=s.os) N₂ ⟨c,dp₁,un,κ,K a₀,afterAct ⟨T,m,zb,zk,tb,tk,hs₁,es,bs⟩ j (d,f o) dr hs₂⟩
   have hY':runS (vOf w fz C cons ro) N₂ ⟨c,dp₁,un,κ,K a₀,afterAct ⟨T,m,zb,zk,tb,tk,hs₁,es,bs⟩ j (d,f o) dr hs₂⟩=Y:=hY
   rw[hY'] at S
   have F1:outOf C.pre.length ni Y=some (C.res,stTo C ze te):=congrArg (fun x:EndT=>x.1) E₂
   have z:=S.ok (swap_ok (congrArg (fun x:EndT=>x.2.1) E₂)) (by rw[show Y.st.bs= [] from congrArg (fun x:EndT=>x.2.2) E₂]; exact fun _ h=>nomatch h) (by
    cases Y with
    | done r st=>
     intro h' D'
     obtain⟨e1,e⟩:=Prod.mk.inj (Option.some.inj F1)
     subst e1
     have:=hR h' (after_of e hz hi D')
     have et:st.tb+st.tk=C.t+C.dt:=(congrArg (fun x:EndI=>x.2.1) e).trans ht'
     show R C.res ⟨h',s.gens,s.drawn,st.tb+st.tk,s.os⟩
     rw[et]; exact this
    | _=>cases F1) dp ks (h.update d f) (D.update G.ok ej hf)
   have et:tb+(tk+dr)=tb+tk+dr:=(Nat.add_assoc ..).symm
   show MN w A R c κ (K a₀) ⟨h.update d f,s.gens,s.drawn,tb+tk+dr,s.os⟩
   rw[<- et]
   exact z
 | _=>cases e1
def frsOf:KS->List Env
 | .base=>[]
 | .ret c _ _ _ _ κ=>c.envs++frsOf κ
theorem aro_frames {A:Around}{fs:List Env} (h:A.frames=some fs):∀κ,(aro A κ).frames=some (frsOf κ++fs)
 | .base=>h
 | .ret c _ _ _ _ κ=>by
  show pushEnvs c.envs (aro A κ).frames=_
  rw[pushEnvs_eq,aro_frames h κ]
  exact congrArg some (append_assoc ..).symm
structure Stop where
 c':Code
 k:Result->Sem Fin
 c:Code
 dp:Nat
 un:Nat
 κ:KS
 s:St
noncomputable def tS:Out->Stop
 | .call c' k c dp un κ s=>⟨c',k,c,dp,un,κ,s⟩
 | _=>⟨.block [] default,fun _=>.raise .none,.block [] default,0,0,.base,⟨.nil,0,0,0,0,0,[],[],[]⟩⟩
def isCall:Out->Bool
 | .call ..=>true
 | _=>false
abbrev CallT:=Bool×List Eqn×List (Bool×Bool)×Code×List (Option (Addr×Obj))×(Nat×Nat)×List Env×Bool
def callL (nd nd':Nat)(js:List Nat) (X:Out):CallT:=(isCall X,X.st.es.map Eqn.swap,X.st.bs,(tS X).c',js.map (tS X).s.T.get,(Nat.add (tS X).s.zb (tS X).s.zk,Nat.add (tS X).s.tb (tS X).s.tk),(tS X).c.envs++frsOf (tS X).κ,and (Nat.ble (Nat.add (tS X).dp nd') nd) (Nat.ble (Nat.add (tS X).un (Nat.mul 4 nd')) (Nat.mul 4 nd)))
noncomputable def callR (c':Code)(xs:List (Addr×Obj))(z t:Nat)(envs:List Env)(bs:List (Bool×Bool)) (X:Out):CallT:=(true,X.st.es,bs,c',xs.map some,(z,t),envs,true)
structure At (w:World)(fz:Addr->Option Obj)(n₀:Nat)(pre:List Addr)(h₀ h:Heap)(xs:List (Addr×Obj)) (z:Nat):Prop where
 base:BaseOk w fz h
 size:h.objs.size=z
 le:n₀<=z
 at_:∀p∈xs,h.get? p.1=some p.2
 nd:(xs.map (·.1)).Nodup
 off:∀p∈xs,p.1∈pre\/n₀<=p.1
 keep:∀b o,h₀.get? b=some o->b∉pre->h.get? b=some o
structure Keeps (A:Around) (S:Stop):Prop where
 dep:Dep A ((aro A S.κ).under S.c) S.dp S.un
 ks:KsOk A S.κ
theorem fin_call {w:World}{fz:Addr->Option Obj} {C:Con}{cons:List Con}{ro:List (Addr×Obj)}{nd nd' z t:Nat}{js:List Nat}{c':Code}{xs:List (Addr×Obj)}{envs fs:List Env}{bs:List (Bool×Bool)} {X:Out}{h₀:Heap}
  (E:callL nd nd' js X=callR c' xs z t envs bs X) (hi:js.Nodup) {A:Around} {R:Result->Shared->Prop} {g:Array GenState} {d:Drawn} {os:OsState} (hA:CtxOk A nd) (hf:A.frames=some fs)
  (H:∀ (B:Around) (h:Heap),CtxOk B nd'->B.frames=some (envs++fs)->Keeps A (tS X)->At w fz C.n (C.pre.map (·.1)) h₀ h xs z->codeAny (model P02 w) B c' (fun r s'=>MN w A R (tS X).c (tS X).κ ((tS X).k r) s') ⟨h,g,d,t,os⟩):
  FinOk ⟨w,fz,nd,cons,ro⟩ (fxOf w fz C h₀) A R g d os X:=by
 have e1:isCall X=true:=congrArg (fun x:CallT=>x.1) E
 cases X with
 | call c'' k c dp un κ s=>
  intro dep ks h D
  have e4:c''=c':=congrArg (fun x:CallT=>x.2.2.2.1) E
  have e5:js.map s.T.get=xs.map some:=congrArg (fun x:CallT=>x.2.2.2.2.1) E
  have e6:(s.zb+s.zk,s.tb+s.tk)=(z,t):=congrArg (fun x:CallT=>x.2.2.2.2.2.1) E
  have e7:c.envs++frsOf κ=envs:=congrArg (fun x:CallT=>x.2.2.2.2.2.2.1) E
  have e8:=le_of_k (congrArg (fun x:CallT=>x.2.2.2.2.2.2.2) E)
  obtain⟨e9,e10⟩:=Prod.mk.inj e6
  subst e4
  have al:=(map_some_mem e5).2
  have z:=H ((aro A κ).under c) h ⟨dep.2.2.trans hA.hd,by have:=dep.1; have:=hA.dp; have e:dp+nd'<=nd:=e8.1; show((aro A κ).under c).depth+nd'<=900; omega,by have:=dep.2.1; have:=hA.un; have u:un+4 * nd'<=4 * nd:=e8.2; omega⟩
   (by show pushEnvs c.envs (aro A κ).frames=_; rw[pushEnvs_eq,aro_frames hf,<- e7]; exact congrArg some (append_assoc ..).symm) ⟨dep,ks⟩
   ⟨D.base,D.size.trans e9,e9▸D.le,fun p hp=>by obtain⟨i,_,e⟩:=al p hp; exact(D.own _ _ e).2,nodup_as D e5 hi,fun p hp=>by obtain⟨i,_,e⟩:=al p hp; exact D.off _ _ e,D.keep⟩
  show codeAny _ _ c'' _ ⟨h,g,d,s.tb+s.tk,os⟩
  rw[e10]
  exact z
 | _=>cases e1
theorem fin_done {w:World}{fz:Addr->Option Obj} {C:Con}{cons:List Con}{ro:List (Addr×Obj)}{nd ze te:Nat}{ni:List Nat} {X:Out}{h₀:Heap}(E1:outOf C.pre.length ni X=some (C.res,stTo C ze te))(hz:ze=C.n+C.dm)(ht:te=C.t+C.dt)(hi:incr ni C.pre.length=true)
  {A:Around} {R:Result->Shared->Prop} {g:Array GenState} {d:Drawn} {os:OsState} (hR:∀h',After C h₀ h'->R C.res ⟨h',g,d,C.t+C.dt,os⟩):FinOk ⟨w,fz,nd,cons,ro⟩ (fxOf w fz C h₀) A R g d os X:=by
 cases X with
 | done r st=>
  intro h' D'
  obtain⟨e1,e⟩:=Prod.mk.inj (Option.some.inj E1)
  subst e1
  have:=hR h' (after_of e hz hi D')
  have et:st.tb+st.tk=C.t+C.dt:=(congrArg (fun x:EndI=>x.2.1) e).trans ht
  show R C.res ⟨h',g,d,st.tb+st.tk,os⟩
  rw[et]; exact this
 | _=>cases E1
theorem fin_again {w:World}{fz:Addr->Option Obj} {C:Con}{c':Code}{cons:List Con}{ro:List (Addr×Obj)}{nd ze te:Nat}{ni:List Nat} {X:Out}{h₀:Heap}(E1:agOf C.pre.length ni X=some (c',stTo C ze te))(hz:ze=C.n+C.dm)(ht:te=C.t+C.dt)(hi:incr ni C.pre.length=true)
  {A:Around} {R:Result->Shared->Prop} {g:Array GenState} {d:Drawn} {os:OsState} (hR:∀h',After C h₀ h'->codeAny (model P02 w) A c' R ⟨h',g,d,C.t+C.dt,os⟩):FinOk ⟨w,fz,nd,cons,ro⟩ (fxOf w fz C h₀) A R g d os X:=by
 cases X with
 | again c₁ κ st=>
  cases κ with
  | base=>
   intro _ h' D'
   obtain⟨e1,e⟩:=Prod.mk.inj (Option.some.inj E1)
   subst e1
   have:=hR h' (after_of e hz hi D')
   have et:st.tb+st.tk=C.t+C.dt:=(congrArg (fun x:EndI=>x.2.1) e).trans ht
   rw[<- et] at this
   exact this
  | ret=>cases E1
 | _=>cases E1
def cfGo (S:Stop) (r:Result) (C:Con)(hs:List Nat):Cf:=⟨S.c,S.dp,S.un,S.κ,S.k r,⟨mkT C.pre 0 .nil,C.pre.length,C.n,0,C.t,0,hs,[],[]⟩⟩
theorem go_from {w:World}{fz:Addr->Option Obj} {C:Con}{cons:List Con}{ro:List (Addr×Obj)} {N:Nat}{hs:List Nat}{bs:List (Bool×Bool)} {S:Stop} {r:Result} {X:Out}(hX:runS (vOf w fz C cons ro) N (cfGo S r C hs)=X)
  (E2:X.st.es.map Eqn.swap=X.st.es) (E3:X.st.bs=bs) (hb:∀b∈bs,b.1=b.2) {A:Around} {s:Shared} (hA:CtxOk A C.nd) (hc:∀D∈cons,ConOk w fz D) (hro:∀p∈ro,fz p.1=some p.2) (ht:s.toks=C.t) (G:Began w fz C s.heap)
  {R:Result->Shared->Prop} (K:Keeps A S) (F:FinOk (vOf w fz C cons ro) (fxOf w fz C s.heap) A R s.gens s.drawn s.os X):MN w A R S.c S.κ (S.k r) s:=by
 obtain⟨heap,gens,drawn,toks,os⟩:=s
 dsimp only at ht G F
 subst ht
 have H:=runS_ok (V:=vOf w fz C cons ro) G.ok rfl hc hro hA (R:=R) (g:=gens) (d:=drawn) (os:=os) N (cfGo S r C hs)
 rw[hX] at H
 exact H.ok (swap_ok E2) (by rw[E3]; exact hb) F K.dep K.ks heap G.rep
section
def oVw (d:Addr):Obj:=⟨.type "dict_values",none,.fields #[.ref d],#[]⟩
def cVals (n t:Nat) (d:Addr)(es:Array DictEntry)(ep:Nat):Con:=⟨.call (.builtin "dict.values") ⟨[.ref d],[]⟩,n,t,[(d,dD es ep)],[dD es ep],[(n,oVw d)],.ok (.ret (.ref n)),1,0,5⟩
def cIterV (n t:Nat)(v d:Addr)(es:Array DictEntry)(ep:Nat):Con:=⟨.call (.builtin "dict_values.__iter__") ⟨[.ref v],[]⟩,n,t,[(v,oVw d),(d,dD es ep)],[oVw d,dD es ep],[(n,vIt d 0 es.size ep)],.ok (.ret (.ref n)),1,0,5⟩
def cNextV (n t:Nat)(it d:Addr) (i:Nat)(es:Array DictEntry)(ep:Nat) (v:Value):Con:=⟨.call (.builtin "dict_valueiterator.__next__") ⟨[.ref it],[]⟩,n,t,[(it,vIt d i es.size ep),(d,dD es ep)],[vIt d (i+1) es.size ep,dD es ep],[],.ok (.ret v),0,0,5⟩
def cEndV (n t:Nat)(it d:Addr)(es:Array DictEntry)(ep:Nat):Con:=⟨.call (.builtin "dict_valueiterator.__next__") ⟨[.ref it],[]⟩,n,t,[(it,vIt d es.size es.size ep),(d,dD es ep)],[oK3e "dict_valueiterator" es.size es.size ep,dD es ep],[(n,oT []),(n+1,oStop n)],.error (.ref (n+1)),2,0,5⟩
theorem After.push {C:Con} {h:Heap} {o:Obj}(hs:h.objs.size=C.n)(hp:∀p∈C.pre,h.get? p.1=some p.2)(e1:C.post=C.pre.map (·.2))(e2:C.news= [(C.n,o)])(e3:C.dm=1)(hf:o.isFreed=false):After C h (h.push o):=
 ⟨by rw[Heap.size_push,hs,e3],fun p q=>Heap.get?_push_of_some _ (hp p (by rw[e1,zipA_same] at q; exact q)),fun p q=>(by
  rw[e2] at q
  cases q with
  | head=>show(h.push o).get? C.n=_; rw[<- hs]; exact Heap.get?_push_size _ hf
  | tail _ q=>cases q),by rw[e2]; exact fresh1 _ _,fun b o e _=>Heap.get?_push_of_some _ e⟩
section
variable {w:World}{fz:Addr->Option Obj}{n t:Nat}
theorem cVals_ok {d:Addr}{es:Array DictEntry}{ep:Nat}:ConOk w fz (cVals n t d es ep):=by
 intro A s hA ap B hsz ht hp R hR
 have ho:=hp _ (.head _)
 have hT:=dict_is ho
 have hd:=not_sys ap (.head _)
 have hR:=hR _ (After.push (o:=oVw d) hsz hp rfl rfl rfl rfl)
 refine code_entry F.slot_dict_values hT F.entry_dict_values (F.args_dict_values_1 _) ?_
 refine wpAny_bind ?_
 unfold Builtin.Dict.noArgs
 refine wpAny_bind (wpAny_notOrdered_dict hT ?_)
 show wpAny _ _ (pure d) _ _ s
 refine wpAny_pure ?_
 show wpAny _ _ (Builtin.Dict.showsAll d >>= _) _ _ s
 unfold Builtin.Dict.showsAll
 rw[if_neg (by rw[hd]; exact Bool.false_ne_true)]
 refine wpAny_bind (wpAny_pure ?_)
 refine wpAny_bind (wpAny_newObj_type (wpAny_pure ⟨_,rfl,?_⟩))
 rw[<- ht,show(cVals n t d es ep).res=.ok (.ret (.ref s.heap.objs.size)) by rw[hsz]; rfl] at hR
 exact hR
theorem cIterV_ok {v d:Addr}{es:Array DictEntry}{ep:Nat}:ConOk w fz (cIterV n t v d es ep):=by
 intro A s hA ap B hsz ht hp R hR
 have hov:=hp _ (.head _)
 have ho:=hp _ (.tail _ (.head _))
 have hT:s.TypeIs (.ref v) "dict_values":=⟨_,hov,rfl⟩
 have hR:=hR _ (After.push (o:=vIt d 0 es.size ep) hsz hp rfl rfl rfl rfl)
 refine code_entry F.slot_dict_values_iter hT F.entry_dict_values_iter (F.args_dict_values_iter_1 _) ?_
 unfold Builtin.«dict_values.__iter__»
 refine wpAny_bind (wpAny_pure ?_)
 refine wpAny_bind ?_
 unfold Builtin.Dict_items.dictOf
 refine wpAny_bind (wpAny_field hov rfl (x:=.ref d) rfl (wpAny_pure ?_))
 refine wpAny_bind ?_
 unfold Builtin.Dict_items.newIterator
 refine wpAny_bind (wpAny_dictEntries ho rfl ?_)
 refine wpAny_bind (wpAny_dictEpoch ho rfl ?_)
 have hown:Builtin.Dict_items.ownsTuple "dict_valueiterator"=false:=by decide
 simp only[hown,Bool.false_eq_true,if_false]
 refine wpAny_newObj_type (wpAny_pure ⟨_,rfl,?_⟩)
 rw[<- ht,show(cIterV n t v d es ep).res=.ok (.ret (.ref s.heap.objs.size)) by rw[hsz]; rfl] at hR
 exact hR
theorem cNextV_ok {it d:Addr} {i:Nat}{es:Array DictEntry}{ep:Nat} {e:DictEntry}(he:es[i]?=some e):ConOk w fz (cNextV n t it d i es ep e.val):=by
 intro A s hA ap B hsz ht hp R hR
 have ho:=hp _ (.head _)
 have hod:=hp _ (.tail _ (.head _))
 have hit:s.heap.IsValIter it d i es.size ep:=⟨_,ho,rfl,rfl⟩
 have hR:=hR _ (.upd (f:=Obj.mapFields (·.setIfInBounds 1 (rawInt ((i:Int)+1)))) hsz hp ap.nd rfl rfl rfl rfl rfl)
 rw[<- ht] at hR
 refine code_entry F.slot_dict_valueiterator_next hit.typeIs F.entry_dict_valueiterator_next (F.args_dict_valueiterator_next_1 _) ?_
 refine wpAny_bind (wpAny_pure ?_)
 refine wpAny_bind ?_
 refine wpAny_bind ?_
 first | refine wpAny_bind (wpAny_typeNameOfWhole_valiter hit.typeIs (wpAny_pure ?_)) | refine wpAny_bind (wpAny_typeNameOf_valiter hit.typeIs (wpAny_pure ?_))
 refine wpAny_bind (wpAny_fieldsOf ho rfl ?_)
 have hown:Builtin.Dict_items.ownsTuple "dict_valueiterator"=false:=by decide
 simp only[hown,Bool.false_eq_true,if_false]
 show wpAny _ _ (if (Value.ref d == Value.none)=true then _ else _) _ _ s
 rw[if_neg (show ¬ ((Value.ref d == Value.none)=true) from Bool.false_ne_true)]
 refine wpAny_bind (wpAny_pure ?_)
 refine wpAny_bind (wpAny_dictEntries hod rfl ?_)
 rw[if_neg (by simp)]
 refine wpAny_bind (wpAny_pure ?_)
 refine wpAny_bind (wpAny_dictEpoch hod rfl ?_)
 rw[if_neg (by simp)]
 refine wpAny_pure ?_
 simp only[show ¬ ((i:Int) < 0) from by omega,if_false,Int.toNat_natCast,he]
 refine wpAny_bind ?_
 first | refine wpAny_bind (wpAny_typeNameOfWhole_valiter hit.typeIs (wpAny_pure ?_)) | refine wpAny_bind (wpAny_typeNameOf_valiter hit.typeIs (wpAny_pure ?_))
 refine wpAny_bind (wpAny_isOneOf_valiter hit.typeIs ?_)
 show wpAny _ _ (setField (.ref it) 1 (rawInt ((i:Int)+1)) >>= _) _ _ s
 refine wpAny_bind (wpAny_setField ho rfl (by simp) ?_)
 have hT:({s with heap:=s.heap.update it (Obj.mapFields (·.setIfInBounds 1 (rawInt ((i:Int)+1))))}:Shared).TypeIs (.ref it) "dict_valueiterator":=⟨_,Heap.get?_update_self _ ho rfl,rfl⟩
 refine wpAny_bind (wpAny_holding ?_)
 refine wpAny_bind (wpAny_isOneOf_valiter hT ?_)
 refine wpAny_bind (wpAny_isOneOf_valiter hT ?_)
 show wpAny _ _ (pure e.val) _ _ _
 exact wpAny_pure (wpAny_pure ⟨_,rfl,hR⟩)
theorem cEndV_ok {it d:Addr}{es:Array DictEntry}{ep:Nat}:ConOk w fz (cEndV n t it d es ep):=by
 intro A s hA ap B hsz ht hp R hR
 have ho:=hp _ (.head _)
 have hod:=hp _ (.tail _ (.head _))
 have hit:s.heap.IsValIter it d es.size es.size ep:=⟨_,ho,rfl,rfl⟩
 have up:(s.heap.update it (Obj.mapFields (·.setIfInBounds 0 .none))).get? it=some (oK3e "dict_valueiterator" es.size es.size ep):=by first | exact Heap.get?_update_self _ ho rfl | exact Heap.get?_update_self (Obj.mapFields (·.setIfInBounds 0 .none)) ho rfl
 have hR:=hR _ (stop_after (o':=oK3e "dict_valueiterator" es.size es.size ep) hsz hp ap.nd rfl rfl rfl rfl (Heap.SameBut.update ..) up)
 rw[<- ht] at hR
 refine code_entry F.slot_dict_valueiterator_next hit.typeIs F.entry_dict_valueiterator_next (F.args_dict_valueiterator_next_1 _) ?_
 refine wpAny_bind (wpAny_pure ?_)
 refine wpAny_bind ?_
 refine wpAny_bind ?_
 first | refine wpAny_bind (wpAny_typeNameOfWhole_valiter hit.typeIs (wpAny_pure ?_)) | refine wpAny_bind (wpAny_typeNameOf_valiter hit.typeIs (wpAny_pure ?_))
 refine wpAny_bind (wpAny_fieldsOf ho rfl ?_)
 have hown:Builtin.Dict_items.ownsTuple "dict_valueiterator"=false:=by decide
 simp only[hown,Bool.false_eq_true,if_false]
 show wpAny _ _ (if (Value.ref d == Value.none)=true then _ else _) _ _ s
 rw[if_neg (show ¬ ((Value.ref d == Value.none)=true) from Bool.false_ne_true)]
 refine wpAny_bind (wpAny_pure ?_)
 refine wpAny_bind (wpAny_dictEntries hod rfl ?_)
 rw[if_neg (by simp)]
 refine wpAny_bind (wpAny_pure ?_)
 refine wpAny_bind (wpAny_dictEpoch hod rfl ?_)
 rw[if_neg (by simp)]
 refine wpAny_pure ?_
 simp only[show ¬ ((es.size:Int) < 0) from by omega,if_false,Int.toNat_natCast,show es[es.size]?=none from by simp]
 refine wpAny_bind ?_
 first | refine wpAny_bind (wpAny_typeNameOfWhole_valiter hit.typeIs (wpAny_pure ?_)) | refine wpAny_bind (wpAny_typeNameOf_valiter hit.typeIs (wpAny_pure ?_))
 show wpAny _ _ (setField (.ref it) 0 .none >>= _) _ _ s
 refine wpAny_bind (wpAny_setField ho rfl (by simp) ?_)
 refine stop_ok (A:=A.in1) hA.hd ?_
 rw[show(s.heap.update it (Obj.mapFields (·.setIfInBounds 0 .none))).objs.size=n from(Heap.SameBut.update ..).1.trans hsz] at hR ⊢
 exact hR
end
end
section
def cColl0 (n t:Nat) (r:Addr)(pre:Objs)(it:Obj):Con:=⟨.builtin "proto.collect" ⟨[.ref r],[]⟩,n,t,pre,pre.map (·.2),[(n,oL0 [] 2),(n+1,it)],.ok .next,2,0,6⟩
theorem coll_after {C:Con} {h:Heap}{it:Obj}(hs:h.objs.size=C.n)(hp:∀p∈C.pre,h.get? p.1=some p.2)(e1:C.post=C.pre.map (·.2))(e2:C.news= [(C.n,oL0 [] 2),(C.n+1,it)])(e3:C.dm=2)(hf:it.isFreed=false):
  After C h ((((h.push (oL0 [] 0)).push it).update C.n (Obj.mapSeq (·.push .none))).update C.n (Obj.mapSeq (·.pop))):=by
 have z1:(h.push (oL0 [] 0)).objs.size=C.n+1:=by rw[Heap.size_push,hs]
 have g0:((h.push (oL0 [] 0)).push it).get? C.n=some (oL0 [] 0):=Heap.get?_push_of_some _ (by rw[<- hs]; exact Heap.get?_push_size _ rfl)
 have g1:=Heap.get?_update_self (Obj.mapSeq (·.push Value.none)) g0 rfl
 have g2:=Heap.get?_update_self (Obj.mapSeq (·.pop)) g1 rfl
 have ot:∀b,b≠C.n->((((h.push (oL0 [] 0)).push it).update C.n (Obj.mapSeq (·.push .none))).update C.n (Obj.mapSeq (·.pop))).get? b=((h.push (oL0 [] 0)).push it).get? b:=fun b hb=>
  (Heap.get?_update_other _ _ (Ne.symm hb)).trans (Heap.get?_update_other _ _ (Ne.symm hb))
 have old:∀b o,h.get? b=some o->((((h.push (oL0 [] 0)).push it).update C.n (Obj.mapSeq (·.push .none))).update C.n (Obj.mapSeq (·.pop))).get? b=some o:=fun b o e=>by
  rw[ot b (Nat.ne_of_lt (hs▸Heap.lt_size e))]
  exact Heap.get?_push_of_some _ (Heap.get?_push_of_some _ e)
 refine⟨by rw[Heap.size_update,Heap.size_update,Heap.size_push,z1,e3],fun p q=>old _ _ (hp p (by rw[e1,zipA_same] at q; exact q)),fun p q=>?_,by rw[e2]; exact fresh2 _ _ _,fun b o e _=>old b o e⟩
 rw[e2] at q
 cases q with
 | head=>exact g2
 | tail _ q=>cases q with
  | head=>
   show Heap.get? _ (C.n+1)=some it
   rw[ot _ (Nat.succ_ne_self _)]
   have:=Heap.get?_push_size (h.push (oL0 [] 0)) hf
   rw[z1] at this
   exact this
  | tail _ q=>cases q
section
variable {w:World}{fz:Addr->Option Obj}{n t:Nat}
theorem collD {d:Addr}{es:Array DictEntry}{ep:Nat}:TurnOk w fz (cColl0 n t d [(d,dD es ep)] (kIt d 0 es.size ep)) (.builtin "list.extend.loop" ⟨[.ref n,.ref (n+1),.ref n],[]⟩):=by
 intro A s hA ap B hsz ht hp R hR
 have ho:s.heap.get? d=some (dD es ep):=hp _ (.head _)
 have hsz':s.heap.objs.size=n:=hsz
 have hr:n≠d:=Ne.symm (Nat.ne_of_lt (hsz'▸Heap.lt_size ho))
 have hR:=hR _ (coll_after (it:=kIt d 0 es.size ep) hsz hp rfl rfl rfl rfl)
 rw[show(cColl0 n t d [(d,dD es ep)] (kIt d 0 es.size ep)).t+(cColl0 n t d [(d,dD es ep)] (kIt d 0 es.size ep)).dt=s.toks from ht.symm] at hR
 refine codeAny_builtin entry_proto_collect' ?_
 rw[Around.under_plainId PySem.F.plain_proto_collect _]
 show wpAny _ A.in1 (newList [] >>= fun l=>again (.builtin "list.__iadd__" ⟨[l,.ref d],[]⟩)) _ _ s
 refine wpAny_bind (wpAny_newObj_type ?_)
 refine wpAny_pure ⟨plainId_quiet PySem.F.plain_list_iadd _,codeAny_builtin entry_list_iadd' ?_⟩
 rw[Around.under_plainId PySem.F.plain_list_iadd _]
 show wpAny _ A.in1 (Builtin.List.listExtendWith (.ref s.heap.objs.size) (.ref d) (.ref s.heap.objs.size)) _ _ {s with heap:=s.heap.push (oL0 [] 0)}
 rw[hsz']
 unfold Builtin.List.listExtendWith
 have ho1:(s.heap.push (oL0 [] 0)).get? d=some (dD es ep):=Heap.get?_push_of_some _ ho
 have hT1:({s with heap:=s.heap.push (oL0 [] 0)}:Shared).TypeIs (.ref d) "dict":=⟨_,ho1,rfl⟩
 have hz1:(s.heap.push (oL0 [] 0)).objs.size=n+1:=by rw[Heap.size_push,hsz']
 have un:=hA.un
 refine wpAny_bind (wpAny_typeOf hT1 ?_)
 have h1:Builtin.List.listSameRef (.ref n) (.ref d)=false:=by simp[Builtin.List.listSameRef,hr]
 simp only[h1,show(Value.type "dict" == Value.type "list")=false by decide,show(Value.type "dict" == Value.type "tuple")=false by decide,Bool.or_false,Bool.false_eq_true,if_false]
 have hd1:(d == sysModules)=false:=not_sys ap (.head _)
 refine wpAny_bind (wpAny_pyIter_slot hT1 F.slot_dict_iter (wpAny_call_entry F.slot_dict_iter hT1 F.entry_dict_iter ?_ (F.args_dict_iter_1 _)))
 unfold Builtin.«dict.__iter__»
 refine wpAny_bind ?_
 unfold Builtin.Dict.dictSlotNone
 refine wpAny_bind (wpAny_notOrdered_dict hT1 ?_)
 refine wpAny_pure ?_
 show wpAny _ _ (Builtin.Dict.showsAll d >>= _) _ _ _
 unfold Builtin.Dict.showsAll
 rw[if_neg (by rw[hd1]; exact Bool.false_ne_true)]
 refine wpAny_bind (wpAny_pure ?_)
 refine wpAny_bind (wpAny_dictEntries ho1 rfl ?_)
 refine wpAny_bind (wpAny_dictEpoch ho1 rfl ?_)
 refine wpAny_bind (wpAny_newObj_type (wpAny_pure ⟨_,rfl,"dict_keyiterator",_,⟨_,Heap.get?_push_size _ rfl,rfl⟩,F.slot_dict_keyiterator_next.lookup,?_⟩))
 have hit:(({s with heap:=s.heap.push (oL0 [] 0)}:Shared).heap.push (kIt d 0 es.size ep)).get? d=some (dD es ep):=Heap.get?_push_of_some _ ho1
 refine wpAny_bind (wpAny_holding (kdl_hint_dict (s:={s with heap:=(s.heap.push (oL0 [] 0)).push (kIt d 0 es.size ep)}) ⟨_,hit,rfl⟩ ?_))
 rw[if_pos (by rfl)]
 refine wpAny_bind (wpAny_rule ?_)
 refine wpAny_bind ?_
 show wpAny _ _ (updateSeq n (·.push .none) >>= fun _=>updateSeq n (·.pop)) _ _ _
 have g0:((s.heap.push (oL0 [] 0)).push (kIt d 0 es.size ep)).get? n=some (oL0 [] 0):=Heap.get?_push_of_some _ (by rw[<- hsz']; exact Heap.get?_push_size _ rfl)
 refine wpAny_bind (wpAny_updateSeq g0 rfl ?_)
 have g1:=Heap.get?_update_self (Obj.mapSeq (·.push Value.none)) g0 rfl
 refine wpAny_updateSeq (hz:=by seq_fits) g1 rfl ?_
 refine wpAny_pure ⟨plainId_quiet PySem.F.plain_extend_loop _,?_⟩
 rw[hz1]
 exact hR
theorem collV {v d:Addr}{es:Array DictEntry}{ep:Nat}:TurnOk w fz (cColl0 n t v [(v,oVw d),(d,dD es ep)] (vIt d 0 es.size ep)) (.builtin "list.extend.loop" ⟨[.ref n,.ref (n+1),.ref n],[]⟩):=by
 intro A s hA ap B hsz ht hp R hR
 have ho:s.heap.get? v=some (oVw d):=hp _ (.head _)
 have hsz':s.heap.objs.size=n:=hsz
 have hr:n≠v:=Ne.symm (Nat.ne_of_lt (hsz'▸Heap.lt_size ho))
 have hR:=hR _ (coll_after (it:=vIt d 0 es.size ep) hsz hp rfl rfl rfl rfl)
 rw[show(cColl0 n t v [(v,oVw d),(d,dD es ep)] (vIt d 0 es.size ep)).t+(cColl0 n t v [(v,oVw d),(d,dD es ep)] (vIt d 0 es.size ep)).dt=s.toks from ht.symm] at hR
 refine codeAny_builtin entry_proto_collect' ?_
 rw[Around.under_plainId PySem.F.plain_proto_collect _]
 show wpAny _ A.in1 (newList [] >>= fun l=>again (.builtin "list.__iadd__" ⟨[l,.ref v],[]⟩)) _ _ s
 refine wpAny_bind (wpAny_newObj_type ?_)
 refine wpAny_pure ⟨plainId_quiet PySem.F.plain_list_iadd _,codeAny_builtin entry_list_iadd' ?_⟩
 rw[Around.under_plainId PySem.F.plain_list_iadd _]
 show wpAny _ A.in1 (Builtin.List.listExtendWith (.ref s.heap.objs.size) (.ref v) (.ref s.heap.objs.size)) _ _ {s with heap:=s.heap.push (oL0 [] 0)}
 rw[hsz']
 unfold Builtin.List.listExtendWith
 have ho1:(s.heap.push (oL0 [] 0)).get? v=some (oVw d):=Heap.get?_push_of_some _ ho
 have hT1:({s with heap:=s.heap.push (oL0 [] 0)}:Shared).TypeIs (.ref v) "dict_values":=⟨_,ho1,rfl⟩
 have hz1:(s.heap.push (oL0 [] 0)).objs.size=n+1:=by rw[Heap.size_push,hsz']
 have un:=hA.un
 refine wpAny_bind (wpAny_typeOf hT1 ?_)
 have h1:Builtin.List.listSameRef (.ref n) (.ref v)=false:=by simp[Builtin.List.listSameRef,hr]
 simp only[h1,show(Value.type "dict_values" == Value.type "list")=false by decide,show(Value.type "dict_values" == Value.type "tuple")=false by decide,Bool.or_false,Bool.false_eq_true,if_false]
 have hd1:(d == sysModules)=false:=not_sys ap (.tail _ (.head _))
 refine wpAny_bind (wpAny_pyIter_slot hT1 F.slot_dict_values_iter (wpAny_call_entry F.slot_dict_values_iter hT1 F.entry_dict_values_iter ?_ (F.args_dict_values_iter_1 _)))
 unfold Builtin.«dict_values.__iter__»
 refine wpAny_bind (wpAny_pure ?_)
 refine wpAny_bind ?_
 unfold Builtin.Dict_items.dictOf
 refine wpAny_bind (wpAny_field ho1 rfl (x:=.ref d) rfl (wpAny_pure ?_))
 refine wpAny_bind ?_
 unfold Builtin.Dict_items.newIterator
 have hod:(s.heap.push (oL0 [] 0)).get? d=some (dD es ep):=Heap.get?_push_of_some _ (hp _ (.tail _ (.head _)))
 refine wpAny_bind (wpAny_dictEntries hod rfl ?_)
 refine wpAny_bind (wpAny_dictEpoch hod rfl ?_)
 have hown:Builtin.Dict_items.ownsTuple "dict_valueiterator"=false:=by decide
 simp only[hown,Bool.false_eq_true,if_false]
 refine wpAny_newObj_type (wpAny_pure ⟨_,rfl,"dict_valueiterator",_,⟨_,Heap.get?_push_size _ rfl,rfl⟩,F.slot_dict_valueiterator_next.lookup,?_⟩)
 have hit:(({s with heap:=s.heap.push (oL0 [] 0)}:Shared).heap.push (vIt d 0 es.size ep)).get? v=some (oVw d):=Heap.get?_push_of_some _ ho1
 refine wpAny_bind (wpAny_holding (kdl_hint_values (s:={s with heap:=(s.heap.push (oL0 [] 0)).push (vIt d 0 es.size ep)}) ⟨_,hit,rfl⟩ ?_))
 rw[if_pos (by rfl)]
 refine wpAny_bind (wpAny_rule ?_)
 refine wpAny_bind ?_
 show wpAny _ _ (updateSeq n (·.push .none) >>= fun _=>updateSeq n (·.pop)) _ _ _
 have g0:((s.heap.push (oL0 [] 0)).push (vIt d 0 es.size ep)).get? n=some (oL0 [] 0):=Heap.get?_push_of_some _ (by rw[<- hsz']; exact Heap.get?_push_size _ rfl)
 refine wpAny_bind (wpAny_updateSeq g0 rfl ?_)
 have g1:=Heap.get?_update_self (Obj.mapSeq (·.push Value.none)) g0 rfl
 refine wpAny_updateSeq (hz:=by seq_fits) g1 rfl ?_
 refine wpAny_pure ⟨plainId_quiet PySem.F.plain_extend_loop _,?_⟩
 rw[hz1]
 exact hR
end
end
section
noncomputable def cNx (n t:Nat)(nx:String)(it:Addr)(o o':Obj)(src:Objs) (v:Value):Con:=⟨.call (.builtin nx) ⟨[.ref it],[]⟩,n,t,(it,o)::src,o'::src.map (·.2),[],.ok (.ret v),0,0,5⟩
def cNe (n t:Nat)(nx:String)(it:Addr)(o o':Obj)(src:Objs):Con:=⟨.call (.builtin nx) ⟨[.ref it],[]⟩,n,t,(it,o)::src,o'::src.map (·.2),[(n,oT []),(n+1,oStop n)],.error (.ref (n+1)),2,0,5⟩
def extC (l it:Addr):Code:=.builtin "list.extend.loop" ⟨[.ref l,.ref it,.ref l],[]⟩
def cEx (n t:Nat)(l it:Addr)(src:Objs)(vs vs':List Value)(ea ea':Nat)(o o':Obj) (r:Result)(dm:Nat):Con:=⟨extC l it,n,t,src++[(l,oL0 vs ea),(it,o)],src.map (·.2)++[oL0 vs' ea',o'],[],r,dm,0,7⟩
section
variable {w:World}{fz:Addr->Option Obj}{n t:Nat}{T nx:String}{it l:Addr}{o o':Obj}{src:Objs}{vs:List Value}{ea:Nat}
theorem sub_apart {as bs:List Addr}(ap:Apart w fz as)(nd:bs.Nodup) (h:∀b∈bs,b∈as):Apart w fz bs:=⟨nd,fun a ha=>ap.nb a (h a ha),fun a ha=>ap.nz a (h a ha)⟩
structure ExAt (w:World)(fz:Addr->Option Obj) (n:Nat)(l it:Addr) (o:Obj)(src:Objs)(vs:List Value)(ea:Nat) (h:Heap):Prop where
 ap:Apart w fz (((it,o)::src).map (·.1))
 at_:∀p∈(it,o)::src,h.get? p.1=some p.2
 ll:h.get? l=some (oL0 vs ea)
 ne:it≠l
 nl:∀p∈src,p.1≠l
theorem exAt_of {h:Heap}(ap:Apart w fz ((src++[(l,oL0 vs ea),(it,o)]).map (·.1)))(hp:∀p∈src++[(l,oL0 vs ea),(it,o)],h.get? p.1=some p.2):ExAt w fz n l it o src vs ea h:=by
 have nd:=ap.nd
 rw[map_append] at nd
 obtain⟨n1,n2,n3⟩:=nodup_append.mp nd
 have hm:∀p∈src,p.1∈src.map (·.1):=fun p hp=>mem_map.mpr ⟨p,hp,rfl⟩
 refine⟨sub_apart ap ?_ fun b hb=>?_,fun p q=>?_,hp _ (mem_append.mpr (.inr (.head _))),?_,fun p q=>n3 _ (hm p q) l (.head _)⟩
 ·exact nodup_cons.mpr ⟨fun h=>n3 _ h it (.tail _ (.head _)) rfl,n1⟩
 ·rw[map_append]
  cases hb with
  | head=>exact mem_append.mpr (.inr (.tail _ (.head _)))
  | tail _ hb=>exact mem_append.mpr (.inl hb)
 ·cases q with
  | head=>exact hp _ (mem_append.mpr (.inr (.tail _ (.head _))))
  | tail _ q=>exact hp _ (mem_append.mpr (.inl q))
 ·intro e
  have:=(nodup_cons.mp n2).1
  exact this (by rw[e]; exact .head _)
theorem ext_turn {v:Value}(slot:Slot T "__next__" nx)(hT:o.cls=.type T) (K:ConOk w fz (cNx n t nx it o o' src v))(hv:vs.length<=60):TurnOk w fz (cEx n t l it src vs (vs++[v]) ea (ea+1) o o' (.ok .next) 0) (extC l it):=by
 intro A s hA ap B hsz ht hp R hR
 have X:=exAt_of (n:=n) ap hp
 have un:=hA.un
 have un:A.units+4 * 7<=9000:=un
 have dp:A.depth+7<=900:=hA.dp
 refine codeAny_builtin PySem.F.entry_extend_loop ?_
 rw[Around.under_plainId PySem.F.plain_extend_loop _]
 show wpAny _ A.in1 (pyNext (.ref it) >>= _) _ _ s
 refine wpAny_bind ?_
 unfold pyNext
 refine wpAny_bind (wpAny_attempt (wpAny_callSpecial?_slot (name:=Str.ofString "__next__") ⟨o,X.at_ _ (.head _),hT⟩ slot (wpAny_call (K A.in1 s ⟨hA.hd,by show A.depth+5<=900; omega,by show A.units+1+4 * 5<=9000; omega⟩ X.ap B hsz ht X.at_ _ fun h' Q=>?_))))
 show wpAny _ _ (pure (some v)) _ _ _
 refine wpAny_pure ?_
 show wpAny _ _ (updateSeq l (·.push v) >>= _) _ _ _
 have hl:h'.get? l=some (oL0 vs ea):=Q.keep _ _ X.ll fun p q=>by
  cases q with
  | head=>exact X.ne
  | tail _ q=>exact X.nl p q
 refine wpAny_bind (wpAny_updateSeq hl rfl ?_ (by show vs.length<=sizeLine; rw[sizeLine_eq]; omega) (by show(List.toArray vs |>.push v).size<=_; rw[sizeLine_eq]; simp; omega))
 refine wpAny_pure ⟨plainId_quiet PySem.F.plain_extend_loop _,?_⟩
 have sb:Heap.SameBut l h' (h'.update l (Obj.mapSeq (·.push v))):=Heap.SameBut.update ..
 refine hR _ ⟨?_,fun p q=>?_,fun p q=>(nomatch q),fresh0 _,fun b o₁ e q=>?_⟩
 ·show(h'.update l _).objs.size=n+0
  rw[sb.1]; exact Q.size
 ·have q:p∈zipA (src++[(l,oL0 vs ea),(it,o)]) (src.map (·.2)++[oL0 (vs++[v]) (ea+1),o']):=q
  rw[zipA_append (by rw[length_map]),zipA_same] at q
  rcases mem_append.mp q with q | q
  ·rw[sb.2 _ (X.nl p q)]
   exact Q.post p (.tail _ (by rw[zipA_same]; exact q))
  ·cases q with
   | head=>
    have:=Heap.get?_update_self (Obj.mapSeq (·.push v)) hl rfl
    rw[this]
    show some (oL0 _ _)=some (oL0 _ _)
    simp
   | tail _ q=>cases q with
    | head=>rw[sb.2 _ X.ne]; exact Q.post (it,o') (.head _)
    | tail _ q=>cases q
 ·have q:∀p∈src++[(l,oL0 vs ea),(it,o)],p.1≠b:=q
  rw[sb.2 b fun e=>q (l,oL0 vs ea) (mem_append.mpr (.inr (.head _))) e.symm]
  refine Q.keep b o₁ e fun p hm=>?_
  cases hm with
  | head=>exact q (it,o) (mem_append.mpr (.inr (.tail _ (.head _))))
  | tail _ hm=>exact q p (mem_append.mpr (.inl hm))
theorem ext_end (slot:Slot T "__next__" nx)(hT:o.cls=.type T) (K:ConOk w fz (cNe n t nx it o o' src)):ConOk w fz (cEx n t l it src vs vs ea ea o o' (.ok (.ret (.ref l))) 2):=by
 intro A s hA ap B hsz ht hp R hR
 have X:=exAt_of (n:=n) ap hp
 have un:=hA.un
 have un:A.units+4 * 7<=9000:=un
 have dp:A.depth+7<=900:=hA.dp
 refine codeAny_builtin PySem.F.entry_extend_loop ?_
 rw[Around.under_plainId PySem.F.plain_extend_loop _]
 show wpAny _ A.in1 (pyNext (.ref it) >>= _) _ _ s
 refine wpAny_bind ?_
 unfold pyNext
 refine wpAny_bind (wpAny_attempt (wpAny_callSpecial?_slot (name:=Str.ofString "__next__") ⟨o,X.at_ _ (.head _),hT⟩ slot (wpAny_call (K A.in1 s ⟨hA.hd,by show A.depth+5<=900; omega,by show A.units+1+4 * 5<=9000; omega⟩ X.ap B hsz ht X.at_ _ fun h' Q=>?_))))
 have hs:h'.get? (n+1)=some (oStop n):=Q.news (n+1,oStop n) (.tail _ (.head _))
 refine wpAny_bind (wpAny_isInstance (T:="StopIteration") (b:=true) (s:=⟨h',s.gens,s.drawn,t+0,s.os⟩) ⟨_,hs,rfl⟩ isSubtype_stop ?_)
 rw[if_pos rfl]
 refine wpAny_pure (wpAny_pure ?_)
 have kp:∀b o₁,s.heap.get? b=some o₁->(∀p∈src++[(l,oL0 vs ea),(it,o)],p.1≠b)->h'.get? b=some o₁:=fun b o₁ e q=>Q.keep b o₁ e fun p hm=>by
  cases hm with
  | head=>exact q (it,o) (mem_append.mpr (.inr (.tail _ (.head _))))
  | tail _ hm=>exact q p (mem_append.mpr (.inl hm))
 refine hR _ ⟨Q.size,fun p q=>?_,fun p q=>(nomatch q),fresh0 _,kp⟩
 have q:p∈zipA (src++[(l,oL0 vs ea),(it,o)]) (src.map (·.2)++[oL0 vs ea,o']):=q
 rw[zipA_append (by rw[length_map]),zipA_same] at q
 rcases mem_append.mp q with q | q
 ·exact Q.post p (.tail _ (by rw[zipA_same]; exact q))
 ·cases q with
  | head=>
   refine Q.keep l _ X.ll fun p hm=>?_
   cases hm with
   | head=>exact X.ne
   | tail _ hm=>exact X.nl p hm
  | tail _ q=>cases q with
   | head=>exact Q.post (it,o') (.head _)
   | tail _ q=>cases q
end
end
def intV:Value->Int
 | .int z _=>z
 | _=>0
def IsI (v:Value):Prop:=∃z t,v=.int z t
noncomputable def κI:KeyKind where
 α:=Int
 blt a b:=decide (a < b)
 irrefl a:=by simp
 trans a b c h1 h2:=by simp at *; omega
 negTrans a b c h:=by simp at *; omega
 total a b h1 h2:=by simp at *; omega
 keyOf v:=match v with
  | .int z _=>some z
  | _=>none
 dflt:=(0:Int)
theorem κI_one:κI.OneLt:=by
 intro prog w A E s x y a b Q hx hy hq
 cases x<;>first | cases hx | skip
 cases y<;>first | cases hy | skip
 exact oneLt_int hq
def leV (a b:Value):Bool:=decide (intV a<=intV b)
def sortV (vs:List Value):List Value:=vs.mergeSort leV
theorem sort_uniq:∀ {l₁ l₂:List Value},l₁.Perm l₂->l₁.Pairwise (fun a b=>intV a<=intV b)->l₂.Pairwise (fun a b=>intV a<=intV b)->(l₁.map intV).Nodup->l₁=l₂
 | [],l₂,p,_,_,_=>(List.nil_perm.mp p).symm
 | a::l₁,[],p,_,_,_=>by have:=p.length_eq; cases this
 | a::l₁,b::l₂,p,h1,h2,nd=>by
  obtain⟨a1,a2⟩:=List.pairwise_cons.mp h1
  obtain⟨b1,b2⟩:=List.pairwise_cons.mp h2
  have e:a=b:=by
   have ma:a∈b::l₂:=p.subset (.head _)
   have mb:b∈a::l₁:=p.symm.subset (.head _)
   cases ma with
   | head=>rfl
   | tail _ ma=>
    cases mb with
    | head=>rfl
    | tail _ mb=>
     have:intV a=intV b:=Int.le_antisymm (a1 b mb) (b1 a ma)
     rw[map_cons] at nd
     exact absurd (mem_map.mpr ⟨b,mb,this.symm⟩) (nodup_cons.mp nd).1
  subst e
  rw[map_cons] at nd
  rw[sort_uniq (List.perm_cons a |>.mp p) a2 b2 (nodup_cons.mp nd).2]
theorem sortV_perm (vs:List Value):(sortV vs).Perm vs:=List.mergeSort_perm _ _
theorem sortV_pair (vs:List Value):(sortV vs).Pairwise (fun a b=>intV a<=intV b):=
 (List.pairwise_mergeSort (fun a b c h1 h2=>by unfold leV at *; simp at *; omega) (fun a b=>by unfold leV; simp; omega) vs).imp fun h=>by unfold leV at h; simpa using h
theorem pairs_ok {vs:List Value}(hI:∀v∈vs,IsI v):KeysOf κI (pairsOf vs):=fun p hp=>by
 rw[pairsOf_toList] at hp
 obtain⟨e1,e2⟩:=mem_zip_self hp
 obtain⟨z,t,e⟩:=hI _ e2
 exact⟨z,by rw[e]; rfl⟩
theorem kk_ok {vs:List Value}(hI:∀v∈vs,IsI v):∀v₁ v₂ rest,vs=v₁::v₂::rest->keyKind' (v₁::v₂::rest).toArray=pure oneType':=fun v₁ v₂ rest e=>by
 have:∀l:List Value,(∀v∈l,IsI v)->∃ns,IntsAre l ns:=fun l=>by
  induction l with
  | nil=>exact fun _=>⟨[],.nil⟩
  | cons v l ih=>
   intro h
   obtain⟨z,t,e⟩:=h v (.head _)
   obtain⟨ns,hn⟩:=ih fun x hx=>h x (.tail _ hx)
   exact⟨z::ns,by rw[e]; exact .cons _ _ hn⟩
 obtain⟨ns,h⟩:=this (v₁::v₂::rest) (by rw[<- e]; exact hI)
 exact keyKind_ints h
theorem sorted_is {vs:List Value}(hI:∀v∈vs,IsI v)(nd:(vs.map intV).Nodup){xs:Array Keyed}(hp:xs.Perm (pairsOf vs))(hs:SortedToK κI xs (pairsOf vs).size):xs.map (·.2)=⟨sortV vs⟩:=by
 have hl:xs.toList.Perm (vs.zip vs):=by rw[<- pairsOf_toList]; exact Array.perm_iff_toList_perm.mp hp
 have hmem:∀p,p∈xs.toList->p.1=p.2/\p.1∈vs:=fun p hp'=>mem_zip_self (hl.mem_iff.mp hp')
 have zs:(vs.zip vs).map (·.2)=vs:=by
  clear hl hmem hs hp nd hI xs
  induction vs with
  | nil=>rfl
  | cons v vs ih=>show v::(vs.zip vs).map (·.2)=_; rw[ih]
 have p1:(xs.toList.map (·.2)).Perm vs:=by have:=hl.map (·.2); rwa [zs] at this
 apply Array.ext'
 rw[Array.toList_map]
 refine sort_uniq (p1.trans (sortV_perm vs).symm) ?_ (sortV_pair vs) ((p1.map intV).nodup_iff.mpr nd)
 rw[List.pairwise_iff_getElem]
 intro i j hi hj hij
 rw[length_map] at hi hj
 have e:=hs i j (Nat.le_of_lt hij) (by rw[<- hp.size_eq]; exact hj)
 have key:∀k (hk:k < xs.toList.length),KK κI xs k=intV (xs.toList[k]).2:=fun k hk=>by
  have hk':k < xs.size:=hk
  have e1:xs[k]?=some (xs.toList[k]):=by rw[<- Array.getElem?_toList,List.getElem?_eq_getElem hk]
  unfold KK
  rw[e1]
  obtain⟨m1,m2⟩:=hmem _ (getElem_mem hk)
  obtain⟨z,t,e2⟩:=hI _ m2
  rw[<- m1]
  show(κI.keyOf (xs.toList[k]).1).getD κI.dflt=_
  rw[e2]; rfl
 rw[List.getElem_map,List.getElem_map]
 unfold KeyOrd.kle at e
 rw[key i hi,key j hj] at e
 have e:decide (intV (xs.toList[j]).2 < intV (xs.toList[i]).2)=false:=e
 simp at e
 exact e
section
section
variable {w:World}{fz:Addr->Option Obj}{n t:Nat}
theorem turn_keep {C₁ C₂:Con}{post rest:List Obj}{news:Objs}{nd:Nat} (T:TurnOk w fz C₁ C₂.code) (K:ConOk w fz C₂)(hn:C₂.n=C₁.n+C₁.dm)(ht:C₂.t=C₁.t+C₁.dt)(hl:C₁.post.length=C₁.pre.length)(hp:C₂.pre=zipA C₁.pre C₁.post++C₁.news)
  (ho:C₂.post=post++rest) (hlp:post.length=C₁.pre.length) (h1:C₁.nd<=nd) (h2:C₂.nd<=nd) (hw:∀p∈news,p∈zipA C₂.pre C₂.post\/p∈C₂.news) (hf:(news.map (·.1)).Nodup/\∀p∈news,C₁.n<=p.1):
  ConOk w fz ⟨C₁.code,C₁.n,C₁.t,C₁.pre,post,news,C₂.res,C₁.dm+C₂.dm,C₁.dt+C₂.dt,nd⟩:=by
 intro A s hA ap B hsz htk hpre R hR
 refine T A s (hA.mono h1) ap B hsz htk hpre R fun h' Q=>?_
 refine K A ⟨h',s.gens,s.drawn,C₁.t+C₁.dt,s.os⟩ (hA.mono h2) (by rw[hp]; exact next_apart Q hl ap B hsz hpre) (Q.base B ap) (Q.size.trans hn.symm) ht.symm (fun p hm=>?_) R fun h'' Q₂=>?_
 ·rw[hp] at hm
  rcases mem_append.mp hm with k | k
  ·exact Q.post p k
  ·exact Q.news p k
 ·have X:=after_then (nd:=nd) Q Q₂ hn hl hp ho hlp hsz
  have:=hR h'' ⟨X.size,X.post,fun p hp=>(hw p hp).elim (Q₂.post p) (Q₂.news p),hf,X.keep⟩
  rw[show C₂.t+C₂.dt=C₁.t+(C₁.dt+C₂.dt) by rw[ht]; exact Nat.add_assoc ..]
  exact this
variable {T nx:String}{it l:Addr}{src:Objs}{ea:Nat}
theorem ext_loop {xs:List Value}{itO:Nat->Obj}{oE:Obj}(slot:Slot T "__next__" nx)(hT:∀i,(itO i).cls=.type T)(hN:∀i v,xs[i]?=some v->ConOk w fz (cNx n t nx it (itO i) (itO (i+1)) src v))(hE:ConOk w fz (cNe n t nx it (itO xs.length) oE src))(hx:xs.length<=60):
  ∀k i vs ea,i+k=xs.length->vs.length=i->ConOk w fz (cEx n t l it src vs (vs++xs.drop i) ea (ea+k) (itO i) oE (.ok (.ret (.ref l))) 2)
 | 0,i,vs,ea,e,hv=>by
  rw[show xs.drop i= [] from List.drop_eq_nil_of_le (by omega),append_nil,show i=xs.length by omega]
  exact ext_end slot (hT _) hE
 | k+1,i,vs,ea,e,hv=>by
  have hi:i < xs.length:=by omega
  have hd:xs.drop i=xs[i]::xs.drop (i+1):=List.drop_eq_getElem_cons hi
  have K:=ext_loop slot hT hN hE hx k (i+1) (vs++[xs[i]]) (ea+1) (by omega) (by simp[hv])
  have T:=ext_turn (l:=l) (vs:=vs) (ea:=ea) slot (hT i) (hN i xs[i] (List.getElem?_eq_getElem hi)) (by omega)
  rw[hd,show vs++xs[i]::xs.drop (i+1)=vs++[xs[i]]++xs.drop (i+1) by simp,show ea+(k+1)=ea+1+k by omega]
  have z:∀ (a b c d:Obj),zipA (src++[(l,a),(it,b)]) (src.map (fun p:Addr×Obj=>p.2)++[c,d])++[]=src++[(l,c),(it,d)]:=fun a b c d=>by
   rw[append_nil,zipA_append (by rw[length_map]),zipA_same]; rfl
  exact turn_con' (C₁:=cEx n t l it src vs (vs++[xs[i]]) ea (ea+1) (itO i) (itO (i+1)) (.ok .next) 0) (C₂:=cEx n t l it src (vs++[xs[i]]) (vs++[xs[i]]++xs.drop (i+1)) (ea+1) (ea+1+k) (itO (i+1)) oE (.ok (.ret (.ref l))) 2) (rest:=[]) T K rfl rfl rfl
   (by show(src.map (fun p:Addr×Obj=>p.2)++[_,_]).length=(src++[_,_]).length; simp) (z _ _ _ _).symm (append_nil _).symm (by show(src.map (fun p:Addr×Obj=>p.2)++[_,_]).length=(src++[_,_]).length; simp) rfl rfl
def cColl (n t:Nat) (r:Addr)(src:Objs)(xs:List Value):Con:=⟨.builtin "proto.collect" ⟨[.ref r],[]⟩,n,t,src,src.map (·.2),[(n,oL0 xs (2+xs.length))],.ok (.ret (.ref n)),4,0,8⟩
theorem coll_ok {r:Addr}{xs:List Value}{itO:Nat->Obj}{oE:Obj} (S:TurnOk w fz (cColl0 n t r src (itO 0)) (extC n (n+1)))(slot:Slot T "__next__" nx)(hT:∀i,(itO i).cls=.type T)(hN:∀i v,xs[i]?=some v->ConOk w fz (cNx (n+2) t nx (n+1) (itO i) (itO (i+1)) src v))(hE:ConOk w fz (cNe (n+2) t nx (n+1) (itO xs.length) oE src))(hx:xs.length<=60):
  ConOk w fz (cColl n t r src xs):=by
 have K:=ext_loop (l:=n) slot hT hN hE hx xs.length 0 [] 2 (Nat.zero_add _) rfl
 rw[List.drop_zero,nil_append] at K
 refine turn_keep (C₁:=cColl0 n t r src (itO 0)) (C₂:=cEx (n+2) t n (n+1) src [] xs 2 (2+xs.length) (itO 0) oE (.ok (.ret (.ref n))) 2) (post:=src.map (·.2)) (rest:=[oL0 xs (2+xs.length),oE]) (news:=[(n,oL0 xs (2+xs.length))]) S K rfl rfl (length_map _)
  (by show _=zipA src (src.map (·.2))++_; rw[zipA_same]; rfl) rfl (length_map _) (by show 6<=8; decide) (by show 7<=8; decide) (fun p hp=>.inl ?_) (fresh1 n _)
 cases hp with
 | head=>
  show _∈zipA (src++[_,_]) (src.map (·.2)++[_,_])
  rw[zipA_append (by rw[length_map])]
  exact mem_append.mpr (.inr (.head _))
 | tail _ hp=>cases hp
def sEp:List Value->Nat
 | []=>0
 | _=>2
def cSorted (n t:Nat) (r:Addr)(src:Objs)(xs:List Value):Con:=⟨.call (.builtin "sorted") ⟨[.ref r],[]⟩,n,t,src,src.map (·.2),[(n+4,oL0 (sortV xs) (sEp xs))],.ok (.ret (.ref (n+4))),7,0,9⟩
theorem code_fn {A:Around} {s:Shared} {R:Result->Shared->Prop}{id:String} {b:Builtin}{args:List Value}(hk:builtinKind id=none)(hp:plainId id=true)
  (hb:entryFor table id=some b) (ha:argsOk id ⟨args,[]⟩)
  (hc:wpAny (model P02 w) A.in1 (b ⟨args,[]⟩) (fun fin s'=>∃v,fin=.done (.ret v)/\R (.ok (.ret v)) s') (fun e s'=>R (.error e) s') s):codeAny (model P02 w) A (.call (.builtin id) ⟨args,[]⟩) R s:=by
 refine codeAny_call_builtin hp hb ?_
 have hfin:=wpAny_mono hc (Q':=fun fin s'=>match fin with
   | .done f=>R (.ok f) s'
   | .again c'=>c'.quiet=true/\codeAny (model P02 w) A c' R s')
  (fun fin s' h'=>by obtain⟨v,rfl,hv⟩:=h'; exact hv) fun _ _ h'=>h'
 simp only[checkBuiltinCall,hk]
 cases hsig:Manifest.signature? id with
 | none=>exact wpAny_pure hfin
 | some sig=>
  simp only[argsOk,hsig] at ha
  have h2:Bind.checkArgs id sig ⟨args,[]⟩=pure ():=ha
  show wpAny _ A.in1 (Bind.checkArgs id sig ⟨args,[]⟩) _ _ s
  rw[h2]; exact wpAny_pure hfin
theorem sorted_ok {r:Addr}{xs:List Value} (K:ConOk w fz (cColl n t r src xs))(hI:∀v∈xs,IsI v)(nd:(xs.map intV).Nodup)(hx:xs.length<=60):ConOk w fz (cSorted n t r src xs):=by
 intro A s hA ap B hsz ht hp R hR
 have un:A.units+4 * 9<=9000:=hA.un
 have dp:A.depth+9<=900:=hA.dp
 refine code_fn kind_sorted plain_sorted entry_sorted (args_sorted1 _) ?_
 unfold Builtin.«sorted»
 refine wpAny_bind (m:=checkCount "sorted" 1 1 _) (wpAny_pure ?_)
 refine wpAny_bind ?_
 unfold collect
 refine wpAny_bind (wpAny_runValue (K A.in1 s ⟨hA.hd,by show A.depth+8<=900; omega,by show A.units+1+4 * 8<=9000; omega⟩ ap B hsz ht hp _ fun h' Q=>?_))
 have hc:h'.get? n=some (oL0 xs (2+xs.length)):=Q.news _ (.head _)
 have hz:h'.objs.size=n+4:=Q.size
 show wpAny _ _ (load n >>= _) _ _ _
 refine wpAny_bind (wpAny_load hc ?_)
 refine wpAny_pure ?_
 refine wpAny_bind (wpAny_newList ?_ (by rw[sizeLine_eq]; show xs.length<=_; omega))
 have hL:(h'.push (seqObj "list" xs.toArray 0)).get? h'.objs.size=some (seqObj "list" xs.toArray 0):=Heap.get?_push_size _ rfl
 rw[hz] at hL
 show wpAny _ _ _ _ _ {s with heap:=h'.push (seqObj "list" xs.toArray 0),toks:=t+0}
 rw[hz]
 refine wpAny_bind (wpAny_holding (wpAny_call_entry slot_list_sort ⟨_,hL,rfl⟩ entry_list_sort (list_sort_treeK κI_one hL (pairs_ok hI) (kk_ok hI) (by omega) fun st' a1 a2=>⟨_,rfl,?_⟩) (args_list_sort _)))
 refine wpAny_pure ⟨_,rfl,?_⟩
 rw[sorted_is hI nd a1 a2]
 have zs:(sortedHeap (h'.push (seqObj "list" xs.toArray 0)) (n+4) xs ⟨sortV xs⟩).objs.size=n+7:=by
  unfold sortedHeap
  rw[Heap.size_update,Heap.size_push,Heap.size_push,Heap.size_update,Heap.size_push,hz]
 have old:∀b o,h'.get? b=some o->(sortedHeap (h'.push (seqObj "list" xs.toArray 0)) (n+4) xs ⟨sortV xs⟩).get? b=some o:=fun b o e=>by
  have lt:=Heap.lt_size e
  rw[hz] at lt
  rw[sortedHeap_old (Nat.ne_of_lt lt) (by rw[Heap.size_push,hz]; exact Nat.lt_succ_of_lt lt)]
  exact Heap.get?_push_of_some _ e
 refine hR _ ⟨zs,fun p q=>old _ _ (Q.post p q),fun p q=>?_,⟨by simp[cSorted],fun p q=>?_⟩,fun b o e q=>old b o (Q.keep b o e q)⟩
 ·have q:p∈[(n+4,oL0 (sortV xs) (sEp xs))]:=q
  cases q with
  | head=>
   show(sortedHeap (h'.push (seqObj "list" xs.toArray 0)) (n+4) xs ⟨sortV xs⟩).get? (n+4)=some (oL0 (sortV xs) (sEp xs))
   unfold sortedHeap
   have g1:=Heap.get?_update_self (Obj.mapSeq fun _=>#[]) hL rfl
   have g2:=Heap.get?_push_of_some (h:=((h'.push (seqObj "list" xs.toArray 0)).update (n+4) (Obj.mapSeq fun _=>#[])).push (seqObj "tuple" xs.toArray 0)) (seqObj "list" #[] 0) (Heap.get?_push_of_some (seqObj "tuple" xs.toArray 0) g1)
   refine(Heap.get?_update_self (Obj.mapSeq fun _=>⟨sortV xs⟩) g2 rfl).trans (congrArg some ?_)
   cases xs with
   | nil=>
    have e:sortV []= []:=by unfold sortV; simp
    rw[e]; rfl
   | cons v vs=>
    have e:(sortV (v::vs)).length=vs.length+1:=(sortV_perm (v::vs)).length_eq
    show(⟨_,_,.seq _ (if (sortV (v::vs)).length == 0 then 1 else 1+1),_⟩:Obj)=_
    rw[e]; rfl
  | tail _ q=>cases q
 ·have q:p∈[(n+4,oL0 (sortV xs) (sEp xs))]:=q
  cases q with
  | head=>exact le_add_right _ _
  | tail _ q=>cases q
end
end
section
theorem con_frame {w:World}{fz:Addr->Option Obj}{C D:Con} (K:ConOk w fz C) (e:D={C with pre:=D.pre,post:=D.post,nd:=D.nd})(hs:C.pre.Sublist D.pre)(hq:(D.pre.map (·.1)).Nodup->∀p∈zipA D.pre D.post,p∈zipA C.pre C.post\/(p∈D.pre/\∀q∈C.pre,q.1≠p.1))(hn:Nat.ble C.nd D.nd=true):ConOk w fz D:=by
 intro A s hA ap B hsz ht hp R hR
 have hq:=hq ap.nd
 rw[e] at hsz ht hR ⊢
 have sub:=hs.map (·.1)
 refine K A s (hA.mono (le_of_ble_eq_true hn)) ⟨ap.nd.sublist sub,fun a h=>ap.nb a (sub.subset h),fun a h=>ap.nz a (sub.subset h)⟩ B hsz ht (fun p h=>hp p (hs.subset h)) R fun h' Q=>hR h' ⟨Q.size,fun p q=>?_,Q.news,Q.fresh,fun b o e q=>Q.keep b o e fun p h=>q p (hs.subset h)⟩
 rcases hq p q with h | ⟨h1,h2⟩
 ·exact Q.post p h
 ·exact Q.keep _ _ (hp p h1) h2
noncomputable def keysV (l:List Ent):List Value:=l.map fun x=>.int x.1 x.2.1
noncomputable def valsV (l:List Ent):List Value:=l.map fun x=>x.2.2
section
variable {w:World}{fz:Addr->Option Obj}{n t:Nat}{d v:Addr} {l:List Ent}{ep:Nat}
theorem dI_get {i:Nat} {x:Value} (h:(keysV l)[i]?=some x):∃e,(dI l)[i]?=some e/\e.key=x:=by
 unfold keysV at h
 rw[getElem?_map] at h
 unfold dI
 rw[dE_get]
 cases q:l[i]? with
 | none=>rw[q] at h; cases h
 | some y=>rw[q] at h; exact⟨_,rfl,Option.some.inj h⟩
theorem dI_gev {i:Nat} {x:Value} (h:(valsV l)[i]?=some x):∃e,(dI l)[i]?=some e/\e.val=x:=by
 unfold valsV at h
 rw[getElem?_map] at h
 unfold dI
 rw[dE_get]
 cases q:l[i]? with
 | none=>rw[q] at h; cases h
 | some y=>rw[q] at h; exact⟨_,rfl,Option.some.inj h⟩
theorem dI_size:(dI l).size=l.length:=by unfold dI; exact dE_size
theorem sortedK_ok (nd:(l.map (·.1)).Nodup)(hl:l.length<=60):ConOk w fz (cSorted n t d [(d,dD (dI l) ep)] (keysV l)):=by
 have e1:(keysV l).length=(dI l).size:=by rw[dI_size]; exact length_map _
 refine sorted_ok (coll_ok (itO:=fun i=>kIt d i (dI l).size ep) (oE:=oK3e "dict_keyiterator" (dI l).size (dI l).size ep) collD F.slot_dict_keyiterator_next (fun _=>rfl) (fun i x h=>?_) (by rw[e1]; exact cEndK_ok) (by rw[e1,dI_size]; exact hl)) (fun x hx=>?_) ?_ (by rw[e1,dI_size]; exact hl)
 ·obtain⟨e,h1,h2⟩:=dI_get h
  rw[<- h2]
  exact cNextK_ok h1
 ·obtain⟨y,_,rfl⟩:=mem_map.mp hx
  exact⟨_,_,rfl⟩
 ·unfold keysV
  rw[map_map]
  exact nd
theorem sortedV_ok (hv:∀x∈l,IsI x.2.2)(nd:(l.map fun x=>intV x.2.2).Nodup)(hl:l.length<=60):ConOk w fz (cSorted n t v [(v,oVw d),(d,dD (dI l) ep)] (valsV l)):=by
 have e1:(valsV l).length=(dI l).size:=by rw[dI_size]; exact length_map _
 have fr:∀ {o o':Obj},(((n+1,o)::(v,oVw d):: [(d,dD (dI l) ep)]).map (·.1)).Nodup->∀p∈zipA [(n+1,o),(v,oVw d),(d,dD (dI l) ep)] [o',oVw d,dD (dI l) ep],p∈zipA [(n+1,o),(d,dD (dI l) ep)] [o',dD (dI l) ep]\/(p∈[(n+1,o),(v,oVw d),(d,dD (dI l) ep)]/\∀q∈[(n+1,o),(d,dD (dI l) ep)],q.1≠p.1):=fun {o o'} nd p hp=>by
  obtain⟨n1,n2⟩:=nodup_cons.mp nd
  obtain⟨n3,_⟩:=nodup_cons.mp n2
  cases hp with
  | head=>exact .inl (.head _)
  | tail _ hp=>cases hp with
   | head=>
    refine .inr ⟨.tail _ (.head _),fun q hq=>?_⟩
    cases hq with
    | head=>exact fun e=>n1 (by rw[show n+1=v from e]; exact .head _)
    | tail _ hq=>cases hq with
     | head=>exact fun e=>n3 (by rw[show d=v from e]; exact .head _)
     | tail _ hq=>cases hq
   | tail _ hp=>cases hp with
    | head=>exact .inl (.tail _ (.head _))
    | tail _ hp=>cases hp
 have sb:∀ (o:Obj),[(n+1,o),(d,dD (dI l) ep)].Sublist [(n+1,o),(v,oVw d),(d,dD (dI l) ep)]:=fun o=>.cons₂ _ (.cons _ (.refl _))
 refine sorted_ok (coll_ok (itO:=fun i=>vIt d i (dI l).size ep) (oE:=oK3e "dict_valueiterator" (dI l).size (dI l).size ep) collV F.slot_dict_valueiterator_next (fun _=>rfl) (fun i x h=>?_) ?_ (by rw[e1,dI_size]; exact hl)) (fun x hx=>?_) ?_ (by rw[e1,dI_size]; exact hl)
 ·obtain⟨e,h1,h2⟩:=dI_gev h
  rw[<- h2]
  exact con_frame (cNextV_ok (n:=n+2) (t:=t) (it:=n+1) (d:=d) (ep:=ep) h1) rfl (sb _) fr rfl
 ·rw[e1]
  exact con_frame (cEndV_ok (n:=n+2) (t:=t) (it:=n+1) (d:=d) (ep:=ep)) rfl (sb _) fr rfl
 ·obtain⟨y,hy,rfl⟩:=mem_map.mp hx
  exact hv y hy
 ·unfold valsV
  rw[map_map]
  exact nd
end
end
def usedA0_c (w:World)(n t:Nat)(L ce it cn ka kb kc tb:Addr) (i:Nat)(lc:List Ent)(e1:Nat)(p q:Int)(tp tq t1 ts:Nat):Con:=⟨forC w.params 1165 0 L [("port",ce)] (.ref it),n,t,[(L,oX w.params "frame" 1 [("self",ts,.ref tb)]),(ce,⟨.type "cell",none,.cell (some (.int p tp)),#[]⟩),(it,kIt cn i (dC w lc).size e1),(cn,dD (dC w lc) e1)],[oX w.params "frame" 3 [("self",ts,.ref tb),("local",t,.ref kb),("remote",t+1,.ref kc)],⟨.type "cell",none,.cell (some (.int p tp)),#[]⟩,⟨.type "dict_keyiterator",none,.fields #[.ref cn,.int (↑(i+1)) 0,.int (↑(dC w lc).size) 0,.int ↑e1 0],#[]⟩,⟨.type "dict",none,.dict (dC w lc) e1,#[]⟩],[],.ok .next,3,3,5⟩
def usedA0_h0:List Nat:=hx 48 [0x7818d53e11f741b88b827041d033554d0e25b5f5f1a70d379008e03d28cb0fe299bb0ef9485890fa53883314f3e16c2a416b660c4]
theorem usedA0_ok (w ba bb fz n t L ce it cn ka kb kc tb i lc e1 p q tp tq t1 ts)(hc:∀D∈([cNextK n t it cn i (dC w lc) e1 (.ref ka)]:List Con),ConOk (wR w ba bb) fz D)(hro:∀p∈([(ka,oT [.ref kb,.ref kc]),(kb,oT [.int 1 t1,.int q tq])]:List (Addr×Obj)),fz p.1=some p.2)(hb:∀b∈([(q == p,false)]:List (Bool×Bool)),b.1=b.2):TurnOk (wR w ba bb) fz (usedA0_c w n t L ce it cn ka kb kc tb i lc e1 p q tp tq t1 ts) (forC w.params 1165 0 L [("port",ce)] (.ref it)):=by
 cases ba<;>exact turn_run (N:=90) (m₀:=4) (w0:=0) (u0:=0) (ze:=n+3) (te:=t+3) (ro:=[(ka,oT [.ref kb,.ref kc]),(kb,oT [.int 1 t1,.int q tq])]) (hs:=usedA0_h0) (ni:=[]) (by kernel_rfl) rfl rfl (by kernel_rfl) rfl rfl (by kernel_rfl) hc hro hb
def usedB0_c (w:World)(n t:Nat)(L ce it cn ka kb kc tb:Addr) (i:Nat)(lc:List Ent)(e1:Nat)(p q:Int)(tp tq t1 ts:Nat):Con:=⟨forC w.params 1165 0 L [("port",ce)] (.ref it),n,t,[(L,oX w.params "frame" 1 [("self",ts,.ref tb)]),(ce,⟨.type "cell",none,.cell (some (.int p tp)),#[]⟩),(it,kIt cn i (dC w lc).size e1),(cn,dD (dC w lc) e1)],[oX w.params "frame" 3 [("self",ts,.ref tb),("local",t,.ref kb),("remote",t+1,.ref kc)],⟨.type "cell",none,.cell (some (.int p tp)),#[]⟩,⟨.type "dict_keyiterator",none,.fields #[.ref cn,.int (↑(i+1)) 0,.int (↑(dC w lc).size) 0,.int ↑e1 0],#[]⟩,⟨.type "dict",none,.dict (dC w lc) e1,#[]⟩],[],.ok (.ret (.bool true)),3,3,5⟩
def usedB0_h0:List Nat:=usedA0_h0.take 71++[1,0,10]
theorem usedB0_ok (w ba bb fz n t L ce it cn ka kb kc tb i lc e1 p q tp tq t1 ts)(hc:∀D∈([cNextK n t it cn i (dC w lc) e1 (.ref ka)]:List Con),ConOk (wR w ba bb) fz D)(hro:∀p∈([(ka,oT [.ref kb,.ref kc]),(kb,oT [.int 1 t1,.int q tq])]:List (Addr×Obj)),fz p.1=some p.2)(hb:∀b∈([(q == p,true)]:List (Bool×Bool)),b.1=b.2):ConOk (wR w ba bb) fz (usedB0_c w n t L ce it cn ka kb kc tb i lc e1 p q tp tq t1 ts):=by
 cases ba<;>exact con_run (N:=91) (m₀:=4) (w0:=0) (u0:=0) (ze:=n+3) (te:=t+3) (ro:=[(ka,oT [.ref kb,.ref kc]),(kb,oT [.int 1 t1,.int q tq])]) (hs:=usedB0_h0) (ni:=[]) (by kernel_rfl) rfl rfl (by kernel_rfl) rfl rfl (by kernel_rfl) hc hro hb
def usedE0_c (w:World)(n t:Nat)(L ce it cn ka kb kc tb:Addr) (i:Nat)(lc:List Ent)(e1:Nat)(p q:Int)(tp tq t1 ts:Nat):Con:=⟨forC w.params 1165 0 L [("port",ce)] (.ref it),n,t,[(L,oX w.params "frame" 1 [("self",ts,.ref tb)]),(ce,⟨.type "cell",none,.cell (some (.int p tp)),#[]⟩),(it,kIt cn (dC w lc).size (dC w lc).size e1),(cn,dD (dC w lc) e1)],[oX w.params "frame" 1 [("self",ts,.ref tb)],⟨.type "cell",none,.cell (some (.int p tp)),#[]⟩,⟨.type "dict_keyiterator",none,.fields #[.none,.int (↑(dC w lc).size) 0,.int (↑(dC w lc).size) 0,.int ↑e1 0],#[]⟩,⟨.type "dict",none,.dict (dC w lc) e1,#[]⟩],[],.ok .next,2,0,5⟩
def usedE0_h0:List Nat:=[4,4,0,2,3,7,0]
theorem usedE0_ok (w ba bb fz n t L ce it cn ka kb kc tb i lc e1 p q tp tq t1 ts)(hc:∀D∈([cEndK n t it cn (dC w lc) e1]:List Con),ConOk (wR w ba bb) fz D):ConOk (wR w ba bb) fz (usedE0_c w n t L ce it cn ka kb kc tb i lc e1 p q tp tq t1 ts):=by
 exact con_run (N:=11) (m₀:=4) (w0:=0) (u0:=0) (ze:=n+2) (te:=t) (hs:=usedE0_h0) (ni:=[]) (by kernel_rfl) rfl rfl (by kernel_rfl) rfl rfl (by kernel_rfl) hc nm nm
def usedA1_c (w:World)(n t:Nat)(L ce it cn ka kb kc tb:Addr) (i:Nat)(lc:List Ent)(e1:Nat)(p q:Int)(tp tq t1 ts:Nat)(v1 v2:Value)(tl tr:Nat):Con:=⟨forC w.params 1165 0 L [("port",ce)] (.ref it),n,t,[(L,oX w.params "frame" 3 [("self",ts,.ref tb),("local",tl,v1),("remote",tr,v2)]),(ce,⟨.type "cell",none,.cell (some (.int p tp)),#[]⟩),(it,kIt cn i (dC w lc).size e1),(cn,dD (dC w lc) e1)],[oX w.params "frame" 3 [("self",ts,.ref tb),("local",tl,.ref kb),("remote",tr,.ref kc)],⟨.type "cell",none,.cell (some (.int p tp)),#[]⟩,⟨.type "dict_keyiterator",none,.fields #[.ref cn,.int (↑(i+1)) 0,.int (↑(dC w lc).size) 0,.int ↑e1 0],#[]⟩,⟨.type "dict",none,.dict (dC w lc) e1,#[]⟩],[],.ok .next,3,3,5⟩
theorem usedA1_ok (w ba bb fz n t L ce it cn ka kb kc tb i lc e1 p q tp tq t1 ts v1 v2 tl tr)(hc:∀D∈([cNextK n t it cn i (dC w lc) e1 (.ref ka)]:List Con),ConOk (wR w ba bb) fz D)(hro:∀p∈([(ka,oT [.ref kb,.ref kc]),(kb,oT [.int 1 t1,.int q tq])]:List (Addr×Obj)),fz p.1=some p.2)(hb:∀b∈([(q == p,false)]:List (Bool×Bool)),b.1=b.2):TurnOk (wR w ba bb) fz (usedA1_c w n t L ce it cn ka kb kc tb i lc e1 p q tp tq t1 ts v1 v2 tl tr) (forC w.params 1165 0 L [("port",ce)] (.ref it)):=by
 cases ba<;>exact turn_run (N:=90) (m₀:=4) (w0:=0) (u0:=0) (ze:=n+3) (te:=t+3) (ro:=[(ka,oT [.ref kb,.ref kc]),(kb,oT [.int 1 t1,.int q tq])]) (hs:=usedA0_h0) (ni:=[]) (by kernel_rfl) rfl rfl (by kernel_rfl) rfl rfl (by kernel_rfl) hc hro hb
def usedB1_c (w:World)(n t:Nat)(L ce it cn ka kb kc tb:Addr) (i:Nat)(lc:List Ent)(e1:Nat)(p q:Int)(tp tq t1 ts:Nat)(v1 v2:Value)(tl tr:Nat):Con:=⟨forC w.params 1165 0 L [("port",ce)] (.ref it),n,t,[(L,oX w.params "frame" 3 [("self",ts,.ref tb),("local",tl,v1),("remote",tr,v2)]),(ce,⟨.type "cell",none,.cell (some (.int p tp)),#[]⟩),(it,kIt cn i (dC w lc).size e1),(cn,dD (dC w lc) e1)],[oX w.params "frame" 3 [("self",ts,.ref tb),("local",tl,.ref kb),("remote",tr,.ref kc)],⟨.type "cell",none,.cell (some (.int p tp)),#[]⟩,⟨.type "dict_keyiterator",none,.fields #[.ref cn,.int (↑(i+1)) 0,.int (↑(dC w lc).size) 0,.int ↑e1 0],#[]⟩,⟨.type "dict",none,.dict (dC w lc) e1,#[]⟩],[],.ok (.ret (.bool true)),3,3,5⟩
theorem usedB1_ok (w ba bb fz n t L ce it cn ka kb kc tb i lc e1 p q tp tq t1 ts v1 v2 tl tr)(hc:∀D∈([cNextK n t it cn i (dC w lc) e1 (.ref ka)]:List Con),ConOk (wR w ba bb) fz D)(hro:∀p∈([(ka,oT [.ref kb,.ref kc]),(kb,oT [.int 1 t1,.int q tq])]:List (Addr×Obj)),fz p.1=some p.2)(hb:∀b∈([(q == p,true)]:List (Bool×Bool)),b.1=b.2):ConOk (wR w ba bb) fz (usedB1_c w n t L ce it cn ka kb kc tb i lc e1 p q tp tq t1 ts v1 v2 tl tr):=by
 cases ba<;>exact con_run (N:=91) (m₀:=4) (w0:=0) (u0:=0) (ze:=n+3) (te:=t+3) (ro:=[(ka,oT [.ref kb,.ref kc]),(kb,oT [.int 1 t1,.int q tq])]) (hs:=usedB0_h0) (ni:=[]) (by kernel_rfl) rfl rfl (by kernel_rfl) rfl rfl (by kernel_rfl) hc hro hb
def usedE1_c (w:World)(n t:Nat)(L ce it cn ka kb kc tb:Addr) (i:Nat)(lc:List Ent)(e1:Nat)(p q:Int)(tp tq t1 ts:Nat)(v1 v2:Value)(tl tr:Nat):Con:=⟨forC w.params 1165 0 L [("port",ce)] (.ref it),n,t,[(L,oX w.params "frame" 3 [("self",ts,.ref tb),("local",tl,v1),("remote",tr,v2)]),(ce,⟨.type "cell",none,.cell (some (.int p tp)),#[]⟩),(it,kIt cn (dC w lc).size (dC w lc).size e1),(cn,dD (dC w lc) e1)],[oX w.params "frame" 3 [("self",ts,.ref tb),("local",tl,v1),("remote",tr,v2)],⟨.type "cell",none,.cell (some (.int p tp)),#[]⟩,⟨.type "dict_keyiterator",none,.fields #[.none,.int (↑(dC w lc).size) 0,.int (↑(dC w lc).size) 0,.int ↑e1 0],#[]⟩,⟨.type "dict",none,.dict (dC w lc) e1,#[]⟩],[],.ok .next,2,0,5⟩
theorem usedE1_ok (w ba bb fz n t L ce it cn ka kb kc tb i lc e1 p q tp tq t1 ts v1 v2 tl tr)(hc:∀D∈([cEndK n t it cn (dC w lc) e1]:List Con),ConOk (wR w ba bb) fz D):ConOk (wR w ba bb) fz (usedE1_c w n t L ce it cn ka kb kc tb i lc e1 p q tp tq t1 ts v1 v2 tl tr):=by
 exact con_run (N:=11) (m₀:=4) (w0:=0) (u0:=0) (ze:=n+2) (te:=t) (hs:=usedE0_h0) (ni:=[]) (by kernel_rfl) rfl rfl (by kernel_rfl) rfl rfl (by kernel_rfl) hc nm nm
def anyS_c (w:World)(n t:Nat) (l:Addr)(vs:List Value)(ep:Nat):Con:=⟨Code.call (.builtin "any") ⟨[.ref l],[]⟩,n,t,[(l,oL0 vs ep)],[⟨.type "list",none,.seq ({toList:=vs}) ep,#[]⟩],[(n,⟨.type "list_iterator",none,.fields #[.ref l,.int 0 0],#[]⟩)],.ok .next,1,0,1⟩
noncomputable def anyS_h0:List Nat:=[0,76,2,2,0,2,0,29,3,1,77]
theorem anyS_ok (w ba bb fz n t l vs ep):TurnOk (wR w ba bb) fz (anyS_c w n t l vs ep) (Code.builtin "any.loop" ⟨[.ref n],[]⟩):=by
 cases ba<;>exact turn_run (N:=16) (m₀:=1) (w0:=0) (u0:=1) (ze:=n+1) (te:=t) (hs:=anyS_h0) (ni:=[1]) (by kernel_rfl) rfl rfl (by kernel_rfl) rfl rfl (by kernel_rfl) nm nm nm
def anyF_c (w:World)(n t:Nat)(it l:Addr) (i:Nat)(vs:List Value)(ep:Nat):Con:=⟨Code.builtin "any.loop" ⟨[.ref it],[]⟩,n,t,[(l,oL0 vs ep),(it,lIt l i)],[⟨.type "list",none,.seq ({toList:=vs}) ep,#[]⟩,⟨.type "list_iterator",none,.fields #[.ref l,.int (↑(i+1)) 0],#[]⟩],[],.ok .next,0,0,6⟩
def anyF_h0:List Nat:=[3,4,0,1,0,1,77]
theorem anyF_ok (w ba bb fz n t it l i vs ep)(hc:∀D∈([cNextL n t it l i vs ep (Value.bool false)]:List Con),ConOk (wR w ba bb) fz D):TurnOk (wR w ba bb) fz (anyF_c w n t it l i vs ep) (Code.builtin "any.loop" ⟨[.ref it],[]⟩):=by
 exact turn_run (N:=9) (m₀:=2) (w0:=0) (u0:=4) (ze:=n) (te:=t) (hs:=anyF_h0) (ni:=[]) (by kernel_rfl) rfl rfl (by kernel_rfl) rfl rfl (by kernel_rfl) hc nm nm
def anyT_c (w:World)(n t:Nat)(it l:Addr) (i:Nat)(vs:List Value)(ep:Nat):Con:=⟨Code.builtin "any.loop" ⟨[.ref it],[]⟩,n,t,[(l,oL0 vs ep),(it,lIt l i)],[⟨.type "list",none,.seq ({toList:=vs}) ep,#[]⟩,⟨.type "list_iterator",none,.fields #[.ref l,.int (↑(i+1)) 0],#[]⟩],[],.ok (.ret (.bool true)),0,0,6⟩
def anyT_h0:List Nat:=[3,4,0,1,0]
theorem anyT_ok (w ba bb fz n t it l i vs ep)(hc:∀D∈([cNextL n t it l i vs ep (Value.bool true)]:List Con),ConOk (wR w ba bb) fz D):ConOk (wR w ba bb) fz (anyT_c w n t it l i vs ep):=by
 exact con_run (N:=10) (m₀:=2) (w0:=0) (u0:=4) (ze:=n) (te:=t) (hs:=anyT_h0) (ni:=[]) (by kernel_rfl) rfl rfl (by kernel_rfl) rfl rfl (by kernel_rfl) hc nm nm
def anyE_c (w:World)(n t:Nat)(it l:Addr) (i:Nat)(vs:List Value)(ep:Nat):Con:=⟨Code.builtin "any.loop" ⟨[.ref it],[]⟩,n,t,[(l,oL0 vs ep),(it,lIt l i)],[⟨.type "list",none,.seq ({toList:=vs}) ep,#[]⟩,⟨.type "list_iterator",none,.fields #[.none,.int ↑i 0],#[]⟩],[],.ok (.ret (.bool false)),2,0,6⟩
def anyE_h0:List Nat:=[3,4,0,1,0,5]
theorem anyE_ok (w ba bb fz n t it l i vs ep)(hc:∀D∈([cEndL n t it l i vs ep]:List Con),ConOk (wR w ba bb) fz D):ConOk (wR w ba bb) fz (anyE_c w n t it l i vs ep):=by
 exact con_run (N:=10) (m₀:=2) (w0:=0) (u0:=4) (ze:=n+2) (te:=t) (hs:=anyE_h0) (ni:=[]) (by kernel_rfl) rfl rfl (by kernel_rfl) rfl rfl (by kernel_rfl) hc nm nm
def usedS_c (w:World)(n t:Nat)(L LC ce it ls acc ka:Addr) (i:Nat)(ll:List Ent)(e2:Nat)(vs:List Value)(ea:Nat)(p q:Int)(tp tq t1:Nat):Con:=⟨compC true (exAt (at1 (bodyF w.params 1165) 1)) (envF w.params 1165 L [("port",ce)]) LC [("port",ce)] (.ref it) (.ref acc),n,t,[(LC,⟨.type "dict",none,.dict #[] 0,#[]⟩),(it,kIt ls i (dL w ll).size e2),(ls,dD (dL w ll) e2),(acc,oL0 vs ea),(ce,⟨.type "cell",none,.cell (some (.int p tp)),#[]⟩)],[⟨.type "dict",none,.dict #[] 0,#[]⟩,⟨.type "dict_keyiterator",none,.fields #[.ref ls,.int ↑i 0,.int (↑(dL w ll).size) 0,.int ↑e2 0],#[]⟩,⟨.type "dict",none,.dict (dL w ll) e2,#[]⟩,⟨.type "list",none,.seq ({toList:=vs}) ea,#[]⟩,⟨.type "cell",none,.cell (some (.int p tp)),#[]⟩],[],.ok .next,0,0,1⟩
def usedS_h0:List Nat:=[3,3,0,3,0,53,3,1]
def usedS_h1:List Nat:=[1]
theorem usedS_ok (w ba bb fz n t L LC ce it ls acc ka i ll e2 vs ea p q tp tq t1):TurnOk (wR w ba bb) fz (usedS_c w n t L LC ce it ls acc ka i ll e2 vs ea p q tp tq t1) (compC false (exAt (at1 (bodyF w.params 1165) 1)) (envF w.params 1165 L [("port",ce)]) LC [("port",ce)] (.ref it) (.ref acc)):=by
 cases bb
 ·cases ba<;>exact turn_run (N:=17) (m₀:=5) (w0:=0) (u0:=0) (ze:=n) (te:=t) (hs:=usedS_h0) (ni:=[]) (by kernel_rfl) rfl rfl (by kernel_rfl) rfl rfl (by kernel_rfl) nm nm nm
 ·cases ba<;>exact turn_run (N:=7) (m₀:=5) (w0:=0) (u0:=0) (ze:=n) (te:=t) (hs:=usedS_h1) (ni:=[]) (by kernel_rfl) rfl rfl (by kernel_rfl) rfl rfl (by kernel_rfl) nm nm nm
def usedT0_c (w:World)(n t:Nat)(L LC ce it ls acc ka:Addr) (i:Nat)(ll:List Ent)(e2:Nat)(vs:List Value)(ea:Nat)(p q:Int)(tp tq t1:Nat):Con:=⟨compC false (exAt (at1 (bodyF w.params 1165) 1)) (envF w.params 1165 L [("port",ce)]) LC [("port",ce)] (.ref it) (.ref acc),n,t,[(LC,⟨.type "dict",none,.dict #[] 0,#[]⟩),(it,kIt ls i (dL w ll).size e2),(ls,dD (dL w ll) e2),(acc,oL0 vs ea),(ce,⟨.type "cell",none,.cell (some (.int p tp)),#[]⟩)],[oD w.params 1 [("place",t,.ref ka)],⟨.type "dict_keyiterator",none,.fields #[.ref ls,.int (↑(i+1)) 0,.int (↑(dL w ll).size) 0,.int ↑e2 0],#[]⟩,⟨.type "dict",none,.dict (dL w ll) e2,#[]⟩,⟨.type "list",none,.seq ({toList:=vs++[Value.bool ((fun x1 x2=>x1 == x2) q p)]}) (ea+1),#[]⟩,⟨.type "cell",none,.cell (some (.int p tp)),#[]⟩],[],.ok .next,0,2,5⟩
def usedT0_h0:List Nat:=hx 44 [0x5208556ae8ca90e4fbcbc3295b1438b5faef0773]
theorem usedT0_ok (w ba bb fz n t L LC ce it ls acc ka i ll e2 vs ea p q tp tq t1)(hc:∀D∈([cNextK n t it ls i (dL w ll) e2 (.ref ka),cApp n (t+2) acc vs ea (Value.bool ((fun x1 x2=>x1 == x2) q p))]:List Con),ConOk (wR w ba bb) fz D) (hro:∀p∈([(ka,oT [.int 0 t1,.int q tq])]:List (Addr×Obj)),fz p.1=some p.2):TurnOk (wR w ba bb) fz (usedT0_c w n t L LC ce it ls acc ka i ll e2 vs ea p q tp tq t1) (compC false (exAt (at1 (bodyF w.params 1165) 1)) (envF w.params 1165 L [("port",ce)]) LC [("port",ce)] (.ref it) (.ref acc)):=by
 cases ba<;>exact turn_run (N:=36) (m₀:=5) (w0:=0) (u0:=0) (ze:=n) (te:=t+2) (ro:=[(ka,oT [.int 0 t1,.int q tq])]) (hs:=usedT0_h0) (ni:=[]) (by kernel_rfl) rfl rfl (by kernel_rfl) rfl rfl (by kernel_rfl) hc hro nm
def usedF0_c (w:World)(n t:Nat)(L LC ce it ls acc ka:Addr) (i:Nat)(ll:List Ent)(e2:Nat)(vs:List Value)(ea:Nat)(p q:Int)(tp tq t1:Nat):Con:=⟨compC false (exAt (at1 (bodyF w.params 1165) 1)) (envF w.params 1165 L [("port",ce)]) LC [("port",ce)] (.ref it) (.ref acc),n,t,[(LC,⟨.type "dict",none,.dict #[] 0,#[]⟩),(it,kIt ls (dL w ll).size (dL w ll).size e2),(ls,dD (dL w ll) e2),(acc,oL0 vs ea),(ce,⟨.type "cell",none,.cell (some (.int p tp)),#[]⟩)],[⟨.type "dict",none,.dict #[] 0,#[]⟩,⟨.type "dict_keyiterator",none,.fields #[.none,.int (↑(dL w ll).size) 0,.int (↑(dL w ll).size) 0,.int ↑e2 0],#[]⟩,⟨.type "dict",none,.dict (dL w ll) e2,#[]⟩,⟨.type "list",none,.seq ({toList:=vs}) ea,#[]⟩,⟨.type "cell",none,.cell (some (.int p tp)),#[]⟩],[],.ok .next,2,0,5⟩
def usedF0_h0:List Nat:=[3,4,0,1,2,8]
theorem usedF0_ok (w ba bb fz n t L LC ce it ls acc ka i ll e2 vs ea p q tp tq t1)(hc:∀D∈([cEndK n t it ls (dL w ll) e2]:List Con),ConOk (wR w ba bb) fz D):ConOk (wR w ba bb) fz (usedF0_c w n t L LC ce it ls acc ka i ll e2 vs ea p q tp tq t1):=by
 exact con_run (N:=10) (m₀:=5) (w0:=0) (u0:=0) (ze:=n+2) (te:=t) (hs:=usedF0_h0) (ni:=[]) (by kernel_rfl) rfl rfl (by kernel_rfl) rfl rfl (by kernel_rfl) hc nm nm
def usedT1_c (w:World)(n t:Nat)(L LC ce it ls acc ka:Addr) (i:Nat)(ll:List Ent)(e2:Nat)(vs:List Value)(ea:Nat)(p q:Int)(tp tq t1:Nat)(tl:Nat) (v:Value):Con:=⟨compC false (exAt (at1 (bodyF w.params 1165) 1)) (envF w.params 1165 L [("port",ce)]) LC [("port",ce)] (.ref it) (.ref acc),n,t,[(LC,oD w.params 1 [("place",tl,v)]),(it,kIt ls i (dL w ll).size e2),(ls,dD (dL w ll) e2),(acc,oL0 vs ea),(ce,⟨.type "cell",none,.cell (some (.int p tp)),#[]⟩)],[oD w.params 1 [("place",tl,.ref ka)],⟨.type "dict_keyiterator",none,.fields #[.ref ls,.int (↑(i+1)) 0,.int (↑(dL w ll).size) 0,.int ↑e2 0],#[]⟩,⟨.type "dict",none,.dict (dL w ll) e2,#[]⟩,⟨.type "list",none,.seq ({toList:=vs++[Value.bool ((fun x1 x2=>x1 == x2) q p)]}) (ea+1),#[]⟩,⟨.type "cell",none,.cell (some (.int p tp)),#[]⟩],[],.ok .next,0,2,5⟩
theorem usedT1_ok (w ba bb fz n t L LC ce it ls acc ka i ll e2 vs ea p q tp tq t1 tl v)(hc:∀D∈([cNextK n t it ls i (dL w ll) e2 (.ref ka),cApp n (t+2) acc vs ea (Value.bool ((fun x1 x2=>x1 == x2) q p))]:List Con),ConOk (wR w ba bb) fz D) (hro:∀p∈([(ka,oT [.int 0 t1,.int q tq])]:List (Addr×Obj)),fz p.1=some p.2):TurnOk (wR w ba bb) fz (usedT1_c w n t L LC ce it ls acc ka i ll e2 vs ea p q tp tq t1 tl v) (compC false (exAt (at1 (bodyF w.params 1165) 1)) (envF w.params 1165 L [("port",ce)]) LC [("port",ce)] (.ref it) (.ref acc)):=by
 cases ba<;>exact turn_run (N:=36) (m₀:=5) (w0:=0) (u0:=0) (ze:=n) (te:=t+2) (ro:=[(ka,oT [.int 0 t1,.int q tq])]) (hs:=usedT0_h0) (ni:=[]) (by kernel_rfl) rfl rfl (by kernel_rfl) rfl rfl (by kernel_rfl) hc hro nm
def usedF1_c (w:World)(n t:Nat)(L LC ce it ls acc ka:Addr) (i:Nat)(ll:List Ent)(e2:Nat)(vs:List Value)(ea:Nat)(p q:Int)(tp tq t1:Nat)(tl:Nat) (v:Value):Con:=⟨compC false (exAt (at1 (bodyF w.params 1165) 1)) (envF w.params 1165 L [("port",ce)]) LC [("port",ce)] (.ref it) (.ref acc),n,t,[(LC,oD w.params 1 [("place",tl,v)]),(it,kIt ls (dL w ll).size (dL w ll).size e2),(ls,dD (dL w ll) e2),(acc,oL0 vs ea),(ce,⟨.type "cell",none,.cell (some (.int p tp)),#[]⟩)],[oD w.params 1 [("place",tl,v)],⟨.type "dict_keyiterator",none,.fields #[.none,.int (↑(dL w ll).size) 0,.int (↑(dL w ll).size) 0,.int ↑e2 0],#[]⟩,⟨.type "dict",none,.dict (dL w ll) e2,#[]⟩,⟨.type "list",none,.seq ({toList:=vs}) ea,#[]⟩,⟨.type "cell",none,.cell (some (.int p tp)),#[]⟩],[],.ok .next,2,0,5⟩
theorem usedF1_ok (w ba bb fz n t L LC ce it ls acc ka i ll e2 vs ea p q tp tq t1 tl v)(hc:∀D∈([cEndK n t it ls (dL w ll) e2]:List Con),ConOk (wR w ba bb) fz D):ConOk (wR w ba bb) fz (usedF1_c w n t L LC ce it ls acc ka i ll e2 vs ea p q tp tq t1 tl v):=by
 exact con_run (N:=10) (m₀:=5) (w0:=0) (u0:=0) (ze:=n+2) (te:=t) (hs:=usedF0_h0) (ni:=[]) (by kernel_rfl) rfl rfl (by kernel_rfl) rfl rfl (by kernel_rfl) hc nm nm
section
def FrL (fz:Addr->Option Obj) (x:Ent):Prop:=∃t1 tq,fz x.2.1=some (oT [.int 0 t1,.int x.1 tq])
def FrC (fz:Addr->Option Obj) (x:Ent):Prop:=∃b c t1 tq t3 t4,fz x.2.1=some (oT [.ref b,.ref c])/\fz b=some (oT [.int 1 t1,.int x.1 tq])/\fz c=some (oT [.int 2 t3,.int 80 t4])
theorem all1 {α:Type} {P:α->Prop} {a:α} (h:P a):∀x∈[a],P x:=fun x hx=>by cases hx with | head=>exact h | tail _ hx=>cases hx
theorem all2 {α:Type} {P:α->Prop}{a b:α} (h:P a)(h':P b):∀x∈[a,b],P x:=fun x hx=>by
 cases hx with
 | head=>exact h
 | tail _ hx=>exact all1 h' x hx
abbrev oCell (v:Value):Obj:=⟨.type "cell",none,.cell (some v),#[]⟩
abbrev oD0:Obj:=⟨.type "dict",none,.dict #[] 0,#[]⟩
def cAny (n t:Nat) (l:Addr)(bs:List Bool)(ep dm:Nat):Con:=⟨.call (.builtin "any") ⟨[.ref l],[]⟩,n,t,[(l,oL0 (bs.map .bool) ep)],[oL0 (bs.map .bool) ep],[],.ok (.ret (.bool (bs.any id))),dm,0,6⟩
section
variable {w:World}{ba bb:Bool}{fz:Addr->Option Obj}
theorem any_loop {it l:Addr}{ep n t:Nat}(bs:List Bool):∀k i,i+k=bs.length->∃o dm,ConOk (wR w ba bb) fz ⟨.builtin "any.loop" ⟨[.ref it],[]⟩,n,t,[(l,oL0 (bs.map .bool) ep),(it,lIt l i)],[oL0 (bs.map .bool) ep,o],[],.ok (.ret (.bool ((bs.drop i).any id))),dm,0,6⟩
 | 0,i,e=>by
  have:(bs.drop i).any id=false:=by rw[List.drop_eq_nil_of_le (by omega)]; rfl
  rw[this]
  exact⟨_,_,anyE_ok w ba bb fz n t it l i (bs.map .bool) ep (all1 (cEndL_ok (by rw[length_map]; omega)))⟩
 | k+1,i,e=>by
  have hi:i < bs.length:=by omega
  have hd:bs.drop i=bs[i]::bs.drop (i+1):=List.drop_eq_getElem_cons hi
  have hv:(bs.map Value.bool)[i]?=some (.bool bs[i]):=by rw[getElem?_map,List.getElem?_eq_getElem hi]; rfl
  cases q:bs[i] with
  | true=>
   rw[q] at hv hd
   rw[hd,show(true::bs.drop (i+1)).any id=true from rfl]
   exact⟨_,_,anyT_ok w ba bb fz n t it l i (bs.map .bool) ep (all1 (cNextL_ok hv))⟩
  | false=>
   rw[q] at hv hd
   obtain⟨o,dm,K⟩:=any_loop (it:=it) (l:=l) (ep:=ep) (n:=n) (t:=t) bs k (i+1) (by omega)
   rw[hd,show(false::bs.drop (i+1)).any id=(bs.drop (i+1)).any id from rfl]
   exact⟨o,0+dm,turn_con' (C₁:=anyF_c w n t it l i (bs.map .bool) ep) (rest:=[]) (anyF_ok w ba bb fz n t it l i (bs.map .bool) ep (all1 (cNextL_ok hv))) K rfl rfl rfl rfl rfl rfl rfl rfl rfl⟩
theorem any_ok {l:Addr}{ep n t:Nat}(bs:List Bool):∃dm,ConOk (wR w ba bb) fz (cAny n t l bs ep dm):=by
 obtain⟨o,dm,K⟩:=any_loop (w:=w) (ba:=ba) (bb:=bb) (fz:=fz) (it:=n) (l:=l) (ep:=ep) (n:=n+1) (t:=t) bs bs.length 0 (Nat.zero_add _)
 exact⟨1+dm,turn_con' (C₁:=anyS_c w n t l (bs.map .bool) ep) (rest:=[o]) (anyS_ok w ba bb fz n t l (bs.map .bool) ep) K rfl rfl rfl rfl rfl rfl rfl rfl rfl⟩
def usedC (st:Bool) (w:World)(L LC ce it acc:Addr):Code:=compC st (exAt (at1 (bodyF w.params 1165) 1)) (envF w.params 1165 L [("port",ce)]) LC [("port",ce)] (.ref it) (.ref acc)
section
variable {L LC ce it ls acc:Addr}{ll:List Ent}{e2:Nat} {p:Int}{tp:Nat}
theorem used_comp1 (hf:∀x∈ll,FrL fz x)(hl:ll.length<=30):∀k i n t ea tl v bs,i+k=ll.length->bs.length=i->∃dm dt tl' v',ConOk (wR w ba bb) fz
  ⟨usedC false w L LC ce it acc,n,t,[(LC,oD w.params 1 [("place",tl,v)]),(it,kIt ls i (dL w ll).size e2),(ls,dD (dL w ll) e2),(acc,oL0 (bs.map .bool) ea),(ce,oCell (.int p tp))],[oD w.params 1 [("place",tl',v')],oK3e "dict_keyiterator" (dL w ll).size (dL w ll).size e2,dD (dL w ll) e2,oL0 ((bs++(ll.drop i).map fun x=>x.1 == p).map .bool) (ea+k),oCell (.int p tp)],[],.ok .next,dm,dt,5⟩
 | 0,i,n,t,ea,tl,v,bs,e,hb=>by
  rw[show ll.drop i= [] from List.drop_eq_nil_of_le (by omega),map_nil,append_nil,show i=(dL w ll).size from by unfold dL; rw[dE_size]; omega]
  exact⟨_,_,_,_,usedF1_ok w ba bb fz n t L LC ce it ls acc 0 0 ll e2 (bs.map .bool) ea p 0 tp 0 0 tl v (all1 cEndK_ok)⟩
 | k+1,i,n,t,ea,tl,v,bs,e,hb=>by
  have hi:i < ll.length:=by omega
  have hd:ll.drop i=ll[i]::ll.drop (i+1):=List.drop_eq_getElem_cons hi
  obtain⟨t1,tq,hx⟩:=hf ll[i] (getElem_mem hi)
  have hg:(dL w ll)[i]?=some ⟨kL w ll[i].1,.ref ll[i].2.1,ll[i].2.2⟩:=by unfold dL; rw[dE_get,List.getElem?_eq_getElem hi]; rfl
  obtain⟨dm,dt,tl',v',K⟩:=used_comp1 hf hl k (i+1) n (t+2) (ea+1) tl (.ref ll[i].2.1) (bs++[ll[i].1 == p]) (by omega) (by simp[hb])
  rw[hd,map_cons,show bs++(ll[i].1 == p)::(ll.drop (i+1)).map (fun x=>x.1 == p)=(bs++[ll[i].1 == p])++(ll.drop (i+1)).map (fun x=>x.1 == p) by simp,show ea+(k+1)=ea+1+k by omega]
  have T:=usedT1_ok w ba bb fz n t L LC ce it ls acc ll[i].2.1 i ll e2 (bs.map .bool) ea p ll[i].1 tp tq t1 tl v (all2 (cNextK_ok hg) (cApp_ok (by rw[length_map]; omega))) (all1 hx)
  exact⟨0+dm,2+dt,tl',v',turn_con' (C₁:=usedT1_c w n t L LC ce it ls acc ll[i].2.1 i ll e2 (bs.map .bool) ea p ll[i].1 tp tq t1 tl v) (rest:=[]) T K rfl rfl rfl rfl (by rw[map_append]; rfl) rfl rfl rfl rfl⟩
def cUsedC (w:World)(n t:Nat)(L LC ce it ls acc:Addr)(ll:List Ent)(e2:Nat) (p:Int)(tp:Nat)(d':Obj)(bs:List Bool)(ea dm dt:Nat):Con:=
 ⟨usedC true w L LC ce it acc,n,t,[(LC,oD0),(it,kIt ls 0 (dL w ll).size e2),(ls,dD (dL w ll) e2),(acc,oL0 [] 0),(ce,oCell (.int p tp))],[d',oK3e "dict_keyiterator" (dL w ll).size (dL w ll).size e2,dD (dL w ll) e2,oL0 (bs.map .bool) ea,oCell (.int p tp)],[],.ok .next,dm,dt,5⟩
theorem used_comp (hf:∀x∈ll,FrL fz x)(hl:ll.length<=30){n t:Nat}:∃dm dt d',(d'=oD0\/∃tl v,d'=oD w.params 1 [("place",tl,v)])/\
  ConOk (wR w ba bb) fz (cUsedC w n t L LC ce it ls acc ll e2 p tp d' (ll.map fun x=>x.1 == p) ll.length dm dt):=by
 have S:=usedS_ok w ba bb fz n t L LC ce it ls acc 0 0 ll e2 [] 0 p 0 tp 0 0
 cases ll with
 | nil=>
  have K:=usedF0_ok w ba bb fz n t L LC ce it ls acc 0 0 [] e2 [] 0 p 0 tp 0 0 (all1 cEndK_ok)
  exact⟨0+_,0+_,_,.inl rfl,turn_con' (C₁:=usedS_c w n t L LC ce it ls acc 0 0 [] e2 [] 0 p 0 tp 0 0) (rest:=[]) S K rfl rfl rfl rfl rfl rfl rfl rfl rfl⟩
 | cons x l=>
  obtain⟨t1,tq,hx⟩:=hf x (.head _)
  have hg:(dL w (x::l))[0]?=some ⟨kL w x.1,.ref x.2.1,x.2.2⟩:=by unfold dL; rw[dE_get]; rfl
  obtain⟨dm,dt,tl',v',K⟩:=used_comp1 (w:=w) (ba:=ba) (bb:=bb) (L:=L) (LC:=LC) (ce:=ce) (it:=it) (ls:=ls) (acc:=acc) (e2:=e2) (p:=p) (tp:=tp) hf hl l.length 1 n (t+2) 1 t (.ref x.2.1) [x.1 == p] (by rw[length_cons]; omega) rfl
  rw[show 1+l.length=(x::l).length from by rw[length_cons,Nat.add_comm]] at K
  have T:=usedT0_ok w ba bb fz n t L LC ce it ls acc x.2.1 0 (x::l) e2 [] 0 p x.1 tp tq t1 (all2 (cNextK_ok hg) (cApp_ok (by decide))) (all1 hx)
  have K₂:ConOk (wR w ba bb) fz ⟨usedC false w L LC ce it acc,n,t,[(LC,oD0),(it,kIt ls 0 (dL w (x::l)).size e2),(ls,dD (dL w (x::l)) e2),(acc,oL0 [] 0),(ce,oCell (.int p tp))],[oD w.params 1 [("place",tl',v')],oK3e "dict_keyiterator" (dL w (x::l)).size (dL w (x::l)).size e2,dD (dL w (x::l)) e2,oL0 (((x::l).map fun x=>x.1 == p).map .bool) (x::l).length,oCell (.int p tp)],[],.ok .next,0+dm,2+dt,5⟩:=
   turn_con' (C₁:=usedT0_c w n t L LC ce it ls acc x.2.1 0 (x::l) e2 [] 0 p x.1 tp tq t1) (rest:=[]) T K rfl rfl rfl rfl rfl rfl rfl rfl rfl
  exact⟨0+(0+dm),0+(2+dt),_,.inr ⟨tl',v',rfl⟩,turn_con' (C₁:=usedS_c w n t L LC ce it ls acc 0 0 (x::l) e2 [] 0 p 0 tp 0 0) (rest:=[]) S K₂ rfl rfl rfl rfl rfl rfl rfl rfl rfl⟩
end
section
variable {L ce it cn tb:Addr}{lc:List Ent}{e1:Nat} {p:Int}{tp ts:Nat}
def usedF0 (w:World)(ts:Nat)(tb:Addr):Obj:=oX w.params "frame" 1 [("self",ts,.ref tb)]
def usedF1 (w:World)(ts:Nat)(tb:Addr)(tl tr:Nat)(v1 v2:Value):Obj:=oX w.params "frame" 3 [("self",ts,.ref tb),("local",tl,v1),("remote",tr,v2)]
def usedRes (b:Bool):Result:=bif b then .ok (.ret (.bool true)) else .ok .next
def cUsedX (w:World)(n t:Nat)(L ce it cn:Addr)(lc:List Ent)(e1:Nat) (p:Int)(tp:Nat) (i:Nat)(o0 o1 o2:Obj) (r:Result)(dm dt:Nat):Con:=
 ⟨forC w.params 1165 0 L [("port",ce)] (.ref it),n,t,[(L,o0),(ce,oCell (.int p tp)),(it,kIt cn i (dC w lc).size e1),(cn,dD (dC w lc) e1)],[o1,oCell (.int p tp),o2,dD (dC w lc) e1],[],r,dm,dt,5⟩
theorem used_loop1 (hf:∀x∈lc,FrC fz x):∀k i n t tl tr v1 v2,i+k=lc.length->∃dm dt tl' tr' v1' v2' o2,
  ConOk (wR w ba bb) fz (cUsedX w n t L ce it cn lc e1 p tp i (usedF1 w ts tb tl tr v1 v2) (usedF1 w ts tb tl' tr' v1' v2') o2 (usedRes ((lc.drop i).any fun x=>x.1 == p)) dm dt)
 | 0,i,n,t,tl,tr,v1,v2,e=>by
  rw[show lc.drop i= [] from List.drop_eq_nil_of_le (by omega),show i=(dC w lc).size from by unfold dC; rw[dE_size]; omega]
  exact⟨_,_,_,_,_,_,_,usedE1_ok w ba bb fz n t L ce it cn 0 0 0 tb 0 lc e1 p 0 tp 0 0 ts v1 v2 tl tr (all1 cEndK_ok)⟩
 | k+1,i,n,t,tl,tr,v1,v2,e=>by
  have hi:i < lc.length:=by omega
  have hd:lc.drop i=lc[i]::lc.drop (i+1):=List.drop_eq_getElem_cons hi
  obtain⟨b,c,t1,tq,_,_,h1,h2,_⟩:=hf lc[i] (getElem_mem hi)
  have hg:(dC w lc)[i]?=some ⟨kC w lc[i].1,.ref lc[i].2.1,lc[i].2.2⟩:=by unfold dC; rw[dE_get,List.getElem?_eq_getElem hi]; rfl
  cases q:lc[i].1 == p with
  | true=>
   have B:=usedB1_ok w ba bb fz n t L ce it cn lc[i].2.1 b c tb i lc e1 p lc[i].1 tp tq t1 ts v1 v2 tl tr (all1 (cNextK_ok hg)) (all2 h1 h2) (all1 q)
   rw[hd,List.any_cons,q,Bool.true_or]
   exact⟨_,_,_,_,_,_,_,B⟩
  | false=>
   have T:=usedA1_ok w ba bb fz n t L ce it cn lc[i].2.1 b c tb i lc e1 p lc[i].1 tp tq t1 ts v1 v2 tl tr (all1 (cNextK_ok hg)) (all2 h1 h2) (all1 q)
   obtain⟨dm,dt,tl',tr',v1',v2',o2,K⟩:=used_loop1 hf k (i+1) (n+3) (t+3) tl tr (.ref b) (.ref c) (by omega)
   rw[hd,List.any_cons,q,Bool.false_or]
   exact⟨3+dm,3+dt,tl',tr',v1',v2',o2,turn_con' (C₁:=usedA1_c w n t L ce it cn lc[i].2.1 b c tb i lc e1 p lc[i].1 tp tq t1 ts v1 v2 tl tr) (rest:=[]) T K rfl rfl rfl rfl rfl rfl rfl rfl rfl⟩
theorem used_loop (hf:∀x∈lc,FrC fz x){n t:Nat}:∃dm dt o1 o2,(o1=usedF0 w ts tb\/∃tl tr v1 v2,o1=usedF1 w ts tb tl tr v1 v2)/\
  ConOk (wR w ba bb) fz (cUsedX w n t L ce it cn lc e1 p tp 0 (usedF0 w ts tb) o1 o2 (usedRes (lc.any fun x=>x.1 == p)) dm dt):=by
 cases lc with
 | nil=>exact⟨_,_,_,_,.inl rfl,usedE0_ok w ba bb fz n t L ce it cn 0 0 0 tb 0 [] e1 p 0 tp 0 0 ts (all1 cEndK_ok)⟩
 | cons x l=>
  obtain⟨b,c,t1,tq,_,_,h1,h2,_⟩:=hf x (.head _)
  have hg:(dC w (x::l))[0]?=some ⟨kC w x.1,.ref x.2.1,x.2.2⟩:=by unfold dC; rw[dE_get]; rfl
  cases q:x.1 == p with
  | true=>
   have B:=usedB0_ok w ba bb fz n t L ce it cn x.2.1 b c tb 0 (x::l) e1 p x.1 tp tq t1 ts (all1 (cNextK_ok hg)) (all2 h1 h2) (all1 q)
   rw[List.any_cons,q,Bool.true_or]
   exact⟨_,_,_,_,.inr ⟨_,_,_,_,rfl⟩,B⟩
  | false=>
   have T:=usedA0_ok w ba bb fz n t L ce it cn x.2.1 b c tb 0 (x::l) e1 p x.1 tp tq t1 ts (all1 (cNextK_ok hg)) (all2 h1 h2) (all1 q)
   obtain⟨dm,dt,tl',tr',v1',v2',o2,K⟩:=used_loop1 (w:=w) (ba:=ba) (bb:=bb) (L:=L) (ce:=ce) (it:=it) (cn:=cn) (tb:=tb) (e1:=e1) (p:=p) (tp:=tp) (ts:=ts) hf l.length 1 (n+3) (t+3) t (t+1) (.ref b) (.ref c) (by rw[length_cons]; omega)
   rw[List.any_cons,q,Bool.false_or]
   exact⟨3+dm,3+dt,_,o2,.inr ⟨_,_,_,_,rfl⟩,turn_con' (C₁:=usedA0_c w n t L ce it cn x.2.1 b c tb 0 (x::l) e1 p x.1 tp tq t1 ts) (rest:=[]) T K rfl rfl rfl rfl rfl rfl rfl rfl rfl⟩
end
end
end
def usedH_c (w:World)(n t:Nat)(tb td cn ls:Addr)(k1 k2:Nat)(lc ll:List Ent)(e1 e2:Nat) (p:Int)(tk:Nat)(dm dt:Nat)(o2:Obj)(o1:Obj):Con:=⟨Code.call (.ref 1165) ⟨[.ref tb,.int p tk],[]⟩,n,t,[(tb,oI 1173 td),(td,oD w.params 2 [("connections",k1,.ref cn),("listeners",k2,.ref ls)]),(cn,dD (dC w lc) e1),(ls,dD (dL w ll) e2)],[oI 1173 td,oD w.params 2 [("connections",k1,.ref cn),("listeners",k2,.ref ls)],(dD (dC w lc) e1),(dD (dL w ll) e2)],[],.ok (.ret (.bool true)),3+(dm)+0,2+(dt)+0,6⟩
def usedH_h0:List Nat:=hx 9 [0xa0e85f489035fa4f491db96e319e]
theorem usedH_ok (w ba bb fz n t tb td cn ls k1 k2 lc ll e1 e2 p tk dm dt o2 o1)(hc:∀D∈([cIterK (n+2) (t+2) cn (dC w lc) e1,cUsedX w (n+3) (t+2) n (n+1) (n+2) cn lc e1 p tk 0 (usedF0 w t tb) o1 o2
 (Except.ok (Flow.ret (Value.bool true))) dm dt]:List Con),ConOk (wR w ba bb) fz D):ConOk (wR w ba bb) fz (usedH_c w n t tb td cn ls k1 k2 lc ll e1 e2 p tk dm dt o2 o1):=by
 cases ba<;>exact con_run (N:=46) (m₀:=4) (w0:=0) (u0:=1) (ze:=n+3+dm) (te:=t+2+dt) (hs:=usedH_h0) (ni:=[]) (by kernel_rfl) rfl rfl (by kernel_rfl) (by show n+3+dm=n+(3+(dm)+0); omega) (by show t+2+dt=t+(2+(dt)+0); omega) (by kernel_rfl) hc nm nm
def usedN00_c (w:World)(n t:Nat)(tb td cn ls:Addr)(k1 k2:Nat)(lc ll:List Ent)(e1 e2:Nat) (p:Int)(tk:Nat)(dm dt:Nat)(o2:Obj)(bs:List Bool)(ea dm' dt' dm2:Nat):Con:=⟨Code.call (.ref 1165) ⟨[.ref tb,.int p tk],[]⟩,n,t,[(tb,oI 1173 td),(td,oD w.params 2 [("connections",k1,.ref cn),("listeners",k2,.ref ls)]),(cn,dD (dC w lc) e1),(ls,dD (dL w ll) e2)],[oI 1173 td,oD w.params 2 [("connections",k1,.ref cn),("listeners",k2,.ref ls)],(dD (dC w lc) e1),(dD (dL w ll) e2)],[],.ok (.ret (.bool (bs.any id))),3+(dm)+3+(dm')+0+(dm2)+0,2+(dt)+1+(dt')+0+(0)+0,7⟩
def usedN00_h0:List Nat:=usedH_h0.take 35++hx 12 [0x6377a08d2f62b332708be5f38b910e0]
theorem usedN00_ok (w ba bb fz n t tb td cn ls k1 k2 lc ll e1 e2 p tk dm dt o2)(bs:List Bool)(ea dm' dt' dm2:Nat)(hc:∀D∈([cIterK (n+2) (t+2) cn (dC w lc) e1,cUsedX w (n+3) (t+2) n (n+1) (n+2) cn lc e1 p tk 0 (usedF0 w t tb) (usedF0 w t tb) o2 (Except.ok Flow.next) dm
 dt,cIterK (n+3+dm) (t+2+dt+1) ls (dL w ll) e2,cUsedC w (n+3+dm+3) (t+2+dt+1) n (n+3+dm+2) (n+1) (n+3+dm) ls (n+3+dm+1) ll e2 p tk oD0 bs
 ea dm' dt',cAny (n+3+dm+3+dm') (t+2+dt+1+dt') (n+3+dm+1) bs ea dm2]:List Con),ConOk (wR w ba bb) fz D):ConOk (wR w ba bb) fz (usedN00_c w n t tb td cn ls k1 k2 lc ll e1 e2 p tk dm dt o2 bs ea dm' dt' dm2):=by
 cases bb<;>cases ba<;>exact con_run (N:=82) (m₀:=4) (w0:=0) (u0:=1) (ze:=n+3+dm+3+dm'+dm2) (te:=t+2+dt+1+dt') (hs:=usedN00_h0) (ni:=[]) (by kernel_rfl) rfl rfl (by kernel_rfl) (by show n+3+dm+3+dm'+dm2=n+(3+(dm)+3+(dm')+0+(dm2)+0); omega) (by show t+2+dt+1+dt'=t+(2+(dt)+1+(dt')+0+(0)+0); omega) (by kernel_rfl) hc nm nm
def usedN01_c (w:World)(n t:Nat)(tb td cn ls:Addr)(k1 k2:Nat)(lc ll:List Ent)(e1 e2:Nat) (p:Int)(tk:Nat)(dm dt:Nat)(o2:Obj)(v3:Value)(tp:Nat)(bs:List Bool)(ea dm' dt' dm2:Nat):Con:=⟨Code.call (.ref 1165) ⟨[.ref tb,.int p tk],[]⟩,n,t,[(tb,oI 1173 td),(td,oD w.params 2 [("connections",k1,.ref cn),("listeners",k2,.ref ls)]),(cn,dD (dC w lc) e1),(ls,dD (dL w ll) e2)],[oI 1173 td,oD w.params 2 [("connections",k1,.ref cn),("listeners",k2,.ref ls)],(dD (dC w lc) e1),(dD (dL w ll) e2)],[],.ok (.ret (.bool (bs.any id))),3+(dm)+3+(dm')+0+(dm2)+0,2+(dt)+1+(dt')+0+(0)+0,7⟩
def usedN01_h0:List Nat:=usedN00_h0.take 66++[11,9]++usedN00_h0.drop 66
theorem usedN01_ok (w ba bb fz n t tb td cn ls k1 k2 lc ll e1 e2 p tk dm dt o2 v3 tp)(bs:List Bool)(ea dm' dt' dm2:Nat)(hc:∀D∈([cIterK (n+2) (t+2) cn (dC w lc) e1,cUsedX w (n+3) (t+2) n (n+1) (n+2) cn lc e1 p tk 0 (usedF0 w t tb) (usedF0 w t tb) o2 (Except.ok Flow.next) dm
 dt,cIterK (n+3+dm) (t+2+dt+1) ls (dL w ll) e2,cUsedC w (n+3+dm+3) (t+2+dt+1) n (n+3+dm+2) (n+1) (n+3+dm) ls (n+3+dm+1) ll e2 p tk
 (oD w.params 1 [(Str.ofString "place",tp,v3)]) bs ea dm' dt',cAny (n+3+dm+3+dm') (t+2+dt+1+dt') (n+3+dm+1) bs ea dm2]:List Con),ConOk (wR w ba bb) fz D):ConOk (wR w ba bb) fz (usedN01_c w n t tb td cn ls k1 k2 lc ll e1 e2 p tk dm dt o2 v3 tp bs ea dm' dt' dm2):=by
 cases bb<;>cases ba<;>exact con_run (N:=86) (m₀:=4) (w0:=0) (u0:=1) (ze:=n+3+dm+3+dm'+dm2) (te:=t+2+dt+1+dt') (hs:=usedN01_h0) (ni:=[]) (by kernel_rfl) rfl rfl (by kernel_rfl) (by show n+3+dm+3+dm'+dm2=n+(3+(dm)+3+(dm')+0+(dm2)+0); omega) (by show t+2+dt+1+dt'=t+(2+(dt)+1+(dt')+0+(0)+0); omega) (by kernel_rfl) hc nm nm
def usedN10_c (w:World)(n t:Nat)(tb td cn ls:Addr)(k1 k2:Nat)(lc ll:List Ent)(e1 e2:Nat) (p:Int)(tk:Nat)(dm dt:Nat)(o2:Obj)(v1 v2:Value)(tl tr:Nat)(bs:List Bool)(ea dm' dt' dm2:Nat):Con:=⟨Code.call (.ref 1165) ⟨[.ref tb,.int p tk],[]⟩,n,t,[(tb,oI 1173 td),(td,oD w.params 2 [("connections",k1,.ref cn),("listeners",k2,.ref ls)]),(cn,dD (dC w lc) e1),(ls,dD (dL w ll) e2)],[oI 1173 td,oD w.params 2 [("connections",k1,.ref cn),("listeners",k2,.ref ls)],(dD (dC w lc) e1),(dD (dL w ll) e2)],[],.ok (.ret (.bool (bs.any id))),3+(dm)+3+(dm')+0+(dm2)+0,2+(dt)+1+(dt')+0+(0)+0,7⟩
theorem usedN10_ok (w ba bb fz n t tb td cn ls k1 k2 lc ll e1 e2 p tk dm dt o2 v1 v2 tl tr)(bs:List Bool)(ea dm' dt' dm2:Nat)(hc:∀D∈([cIterK (n+2) (t+2) cn (dC w lc) e1,cUsedX w (n+3) (t+2) n (n+1) (n+2) cn lc e1 p tk 0 (usedF0 w t tb) (usedF1 w t tb tl tr v1 v2) o2
 (Except.ok Flow.next) dm dt,cIterK (n+3+dm) (t+2+dt+1) ls (dL w ll) e2,cUsedC w (n+3+dm+3) (t+2+dt+1) n (n+3+dm+2) (n+1) (n+3+dm) ls (n+3+dm+1) ll e2 p tk oD0 bs
 ea dm' dt',cAny (n+3+dm+3+dm') (t+2+dt+1+dt') (n+3+dm+1) bs ea dm2]:List Con),ConOk (wR w ba bb) fz D):ConOk (wR w ba bb) fz (usedN10_c w n t tb td cn ls k1 k2 lc ll e1 e2 p tk dm dt o2 v1 v2 tl tr bs ea dm' dt' dm2):=by
 cases bb<;>cases ba<;>exact con_run (N:=82) (m₀:=4) (w0:=0) (u0:=1) (ze:=n+3+dm+3+dm'+dm2) (te:=t+2+dt+1+dt') (hs:=usedN00_h0) (ni:=[]) (by kernel_rfl) rfl rfl (by kernel_rfl) (by show n+3+dm+3+dm'+dm2=n+(3+(dm)+3+(dm')+0+(dm2)+0); omega) (by show t+2+dt+1+dt'=t+(2+(dt)+1+(dt')+0+(0)+0); omega) (by kernel_rfl) hc nm nm
def usedN11_c (w:World)(n t:Nat)(tb td cn ls:Addr)(k1 k2:Nat)(lc ll:List Ent)(e1 e2:Nat) (p:Int)(tk:Nat)(dm dt:Nat)(o2:Obj)(v1 v2:Value)(tl tr:Nat)(v3:Value)(tp:Nat)(bs:List Bool)(ea dm' dt' dm2:Nat):Con:=⟨Code.call (.ref 1165) ⟨[.ref tb,.int p tk],[]⟩,n,t,[(tb,oI 1173 td),(td,oD w.params 2 [("connections",k1,.ref cn),("listeners",k2,.ref ls)]),(cn,dD (dC w lc) e1),(ls,dD (dL w ll) e2)],[oI 1173 td,oD w.params 2 [("connections",k1,.ref cn),("listeners",k2,.ref ls)],(dD (dC w lc) e1),(dD (dL w ll) e2)],[],.ok (.ret (.bool (bs.any id))),3+(dm)+3+(dm')+0+(dm2)+0,2+(dt)+1+(dt')+0+(0)+0,7⟩
theorem usedN11_ok (w ba bb fz n t tb td cn ls k1 k2 lc ll e1 e2 p tk dm dt o2 v1 v2 tl tr v3 tp)(bs:List Bool)(ea dm' dt' dm2:Nat)(hc:∀D∈([cIterK (n+2) (t+2) cn (dC w lc) e1,cUsedX w (n+3) (t+2) n (n+1) (n+2) cn lc e1 p tk 0 (usedF0 w t tb) (usedF1 w t tb tl tr v1 v2) o2
 (Except.ok Flow.next) dm dt,cIterK (n+3+dm) (t+2+dt+1) ls (dL w ll) e2,cUsedC w (n+3+dm+3) (t+2+dt+1) n (n+3+dm+2) (n+1) (n+3+dm) ls (n+3+dm+1) ll e2 p tk
 (oD w.params 1 [(Str.ofString "place",tp,v3)]) bs ea dm' dt',cAny (n+3+dm+3+dm') (t+2+dt+1+dt') (n+3+dm+1) bs ea dm2]:List Con),ConOk (wR w ba bb) fz D):ConOk (wR w ba bb) fz (usedN11_c w n t tb td cn ls k1 k2 lc ll e1 e2 p tk dm dt o2 v1 v2 tl tr v3 tp bs ea dm' dt' dm2):=by
 cases bb<;>cases ba<;>exact con_run (N:=86) (m₀:=4) (w0:=0) (u0:=1) (ze:=n+3+dm+3+dm'+dm2) (te:=t+2+dt+1+dt') (hs:=usedN01_h0) (ni:=[]) (by kernel_rfl) rfl rfl (by kernel_rfl) (by show n+3+dm+3+dm'+dm2=n+(3+(dm)+3+(dm')+0+(dm2)+0); omega) (by show t+2+dt+1+dt'=t+(2+(dt)+1+(dt')+0+(0)+0); omega) (by kernel_rfl) hc nm nm
section
theorem ac {α:Type} {P:α->Prop} {a:α} {l:List α} (h:P a)(h':∀x∈l,P x):∀x∈a::l,P x:=fun x hx=>by
 cases hx with
 | head=>exact h
 | tail _ hx=>exact h' x hx
theorem con_as {w:World}{fz:Addr->Option Obj}{C D:Con} (K:ConOk w fz C) (e:D={C with res:=D.res,dm:=D.dm,dt:=D.dt,nd:=D.nd})(er:D.res=C.res)(em:D.dm=C.dm)(et:D.dt=C.dt)(hn:Nat.ble C.nd D.nd=true):ConOk w fz D:=by
 rw[e,er,em,et]
 intro A s hA ap B hsz ht hp R hR
 exact K A s (hA.mono (le_of_ble_eq_true hn)) ap B hsz ht hp R fun h' Q=>hR h' ⟨Q.size,Q.post,Q.news,Q.fresh,Q.keep⟩
def usedB (lc ll:List Ent) (p:Int):Bool:=(lc.any fun x=>x.1 == p) || ll.any fun x=>x.1 == p
def cUsed (w:World)(n t:Nat)(tb td cn ls:Addr)(k1 k2:Nat)(lc ll:List Ent)(e1 e2:Nat) (p:Int)(tk dm dt:Nat):Con:=
 ⟨Code.call (.ref 1165) ⟨[.ref tb,.int p tk],[]⟩,n,t,[(tb,oI 1173 td),(td,oD w.params 2 [("connections",k1,.ref cn),("listeners",k2,.ref ls)]),(cn,dD (dC w lc) e1),(ls,dD (dL w ll) e2)],[oI 1173 td,oD w.params 2 [("connections",k1,.ref cn),("listeners",k2,.ref ls)],dD (dC w lc) e1,dD (dL w ll) e2],[],.ok (.ret (.bool (usedB lc ll p))),dm,dt,7⟩
section
variable {w:World}{ba bb:Bool}{fz:Addr->Option Obj}{tb td cn ls:Addr}{k1 k2:Nat}{lc ll:List Ent}{e1 e2:Nat} {p:Int}{tk:Nat}
theorem used_ok (hc:∀x∈lc,FrC fz x)(hl:∀x∈ll,FrL fz x)(hll:ll.length<=30)(n t:Nat):∃dm dt,ConOk (wR w ba bb) fz (cUsed w n t tb td cn ls k1 k2 lc ll e1 e2 p tk dm dt):=by
 obtain⟨dm,dt,o1,o2,ho,K⟩:=used_loop (w:=w) (ba:=ba) (bb:=bb) (L:=n) (ce:=n+1) (it:=n+2) (cn:=cn) (tb:=tb) (e1:=e1) (p:=p) (tp:=tk) (ts:=t) hc (n:=n+3) (t:=t+2)
 unfold cUsed usedB
 cases q:lc.any fun x=>x.1 == p with
 | true=>
  rw[q] at K
  exact⟨_,_,con_as (usedH_ok w ba bb fz n t tb td cn ls k1 k2 lc ll e1 e2 p tk dm dt o2 o1 (all2 cIterK_ok K)) rfl rfl rfl rfl rfl⟩
 | false=>
  rw[q] at K
  rw[Bool.false_or]
  obtain⟨dm',dt',d',hd,K'⟩:=used_comp (w:=w) (ba:=ba) (bb:=bb) (L:=n) (LC:=n+3+dm+2) (ce:=n+1) (it:=n+3+dm) (ls:=ls) (acc:=n+3+dm+1) (e2:=e2) (p:=p) (tp:=tk) hl hll (n:=n+3+dm+3) (t:=t+2+dt+1)
  obtain⟨dm2,K2⟩:=any_ok (w:=w) (ba:=ba) (bb:=bb) (fz:=fz) (l:=n+3+dm+1) (ep:=ll.length) (n:=n+3+dm+3+dm') (t:=t+2+dt+1+dt') (ll.map fun x=>x.1 == p)
  have ea:(ll.map fun x=>x.1 == p).any id=ll.any fun x=>x.1 == p:=by rw[List.any_map]; rfl
  rw[<- ea]
  rcases ho with rfl | ⟨tl,tr,v1,v2,rfl⟩<;>rcases hd with rfl | ⟨tp,v3,rfl⟩
  ·exact⟨_,_,con_as (usedN00_ok w ba bb fz n t tb td cn ls k1 k2 lc ll e1 e2 p tk dm dt o2 _ _ dm' dt' dm2 (ac cIterK_ok (ac K (ac cIterK_ok (ac K' (all1 K2)))))) rfl rfl rfl rfl rfl⟩
  ·exact⟨_,_,con_as (usedN01_ok w ba bb fz n t tb td cn ls k1 k2 lc ll e1 e2 p tk dm dt o2 v3 tp _ _ dm' dt' dm2 (ac cIterK_ok (ac K (ac cIterK_ok (ac K' (all1 K2)))))) rfl rfl rfl rfl rfl⟩
  ·exact⟨_,_,con_as (usedN10_ok w ba bb fz n t tb td cn ls k1 k2 lc ll e1 e2 p tk dm dt o2 v1 v2 tl tr _ _ dm' dt' dm2 (ac cIterK_ok (ac K (ac cIterK_ok (ac K' (all1 K2)))))) rfl rfl rfl rfl rfl⟩
  ·exact⟨_,_,con_as (usedN11_ok w ba bb fz n t tb td cn ls k1 k2 lc ll e1 e2 p tk dm dt o2 v1 v2 tl tr v3 tp _ _ dm' dt' dm2 (ac cIterK_ok (ac K (ac cIterK_ok (ac K' (all1 K2)))))) rfl rfl rfl rfl rfl⟩
end
end
def oPd (w:World) (k:Nat)(tk:Addr)(l x:Int)(tf tl tx:Nat):Obj:=oD w.params 4 [("first",k,.int 29 tf),("last",k+2,.int l tl),("following",k+4,.int x tx),("taken",k+6,.ref tk)]
def cBehind (w:World)(n t:Nat)(po pd tk:Addr) (k:Nat)(l x:Int)(tf tl tx:Nat) (y:Int)(ty:Nat) (z:Int)(tz dm dt:Nat):Con:=
 ⟨Code.call (.ref 151) ⟨[.ref po,.int y ty],[]⟩,n,t,[(po,oI 161 pd),(pd,oPd w k tk l x tf tl tx)],[oI 161 pd,oPd w k tk l x tf tl tx],[],.ok (.ret (.int z tz)),dm,dt,5⟩
def cInI (n t:Nat) (d:Addr)(lt:List Ent)(ep:Nat) (z:Int)(tz:Nat) (b:Bool):Con:=cIn n t d (dI lt) ep (.int z tz) [] 1 b
def cSetI (n t:Nat) (d:Addr)(lt:List Ent)(ep:Nat) (z:Int)(tz:Nat) (v:Value):Con:=⟨.call (.builtin "dict.__setitem__") ⟨[.ref d,.int z tz,v],[]⟩,n,t,[(d,dD (dI lt) ep)],[dD (dI (lt++[(z,tz,v)])) (ep+1)],[],.ok (.ret .none),0,1,5⟩
def cGetI (n t:Nat) (d:Addr)(lt:List Ent)(ep:Nat) (z:Int)(tz:Nat) (v:Value):Con:=cGet n t d (dI lt) ep (.int z tz) [] 1 v
def cPopI (n t:Nat) (d:Addr)(lt:List Ent)(ep:Nat) (z:Int)(tz:Nat) (i:Nat) (v:Value):Con:=⟨.call (.builtin "dict.pop") ⟨[.ref d,.int z tz],[]⟩,n,t,[(d,dD (dI lt) ep)],[dD (dI (lt.eraseIdx i)) (ep+1)],[],.ok (.ret v),0,1,5⟩
def behindA_c (w:World)(n t:Nat)(po pd tk:Addr) (k:Nat)(l x:Int)(tf tl tx:Nat) (y:Int)(ty:Nat):Con:=⟨Code.call (.ref 151) ⟨[.ref po,.int y ty],[]⟩,n,t,[(po,oI 161 pd),(pd,oPd w k tk l x tf tl tx)],[oI 161 pd,oD w.params 4 [("first",k,.int 29 tf),("last",k+2,.int l tl),("following",k+4,.int x tx),("taken",k+6,.ref tk)]],[],.ok (.ret (.int (y+1) (t+4))),1,5,1⟩
def behindA_h0:List Nat:=hx 11 [0xdc4b0fa776b1c105c1bb1060444]
theorem behindA_ok (w ba bb fz n t po pd tk k l x tf tl tx y ty)(hb:∀b∈([(y == l,false)]:List (Bool×Bool)),b.1=b.2):ConOk (wR w ba bb) fz (behindA_c w n t po pd tk k l x tf tl tx y ty):=by
 cases ba<;>exact con_run (N:=55) (m₀:=2) (w0:=0) (u0:=1) (ze:=n+1) (te:=t+5) (hs:=behindA_h0) (ni:=[]) (by kernel_rfl) rfl rfl (by kernel_rfl) rfl rfl (by kernel_rfl) nm nm hb
def behindB_c (w:World)(n t:Nat)(po pd tk:Addr) (k:Nat)(l x:Int)(tf tl tx:Nat) (y:Int)(ty:Nat):Con:=⟨Code.call (.ref 151) ⟨[.ref po,.int y ty],[]⟩,n,t,[(po,oI 161 pd),(pd,oPd w k tk l x tf tl tx)],[oI 161 pd,oD w.params 4 [("first",k,.int 29 tf),("last",k+2,.int l tl),("following",k+4,.int x tx),("taken",k+6,.ref tk)]],[],.ok (.ret (.int 29 tf)),1,4,1⟩
def behindB_h0:List Nat:=hx 11 [0x32123829dda2c544d84eb710e0abff7120be4]
theorem behindB_ok (w ba bb fz n t po pd tk k l x tf tl tx y ty)(hb:∀b∈([(y == l,true)]:List (Bool×Bool)),b.1=b.2):ConOk (wR w ba bb) fz (behindB_c w n t po pd tk k l x tf tl tx y ty):=by
 cases ba<;>exact con_run (N:=66) (m₀:=2) (w0:=0) (u0:=1) (ze:=n+1) (te:=t+4) (hs:=behindB_h0) (ni:=[]) (by kernel_rfl) rfl rfl (by kernel_rfl) rfl rfl (by kernel_rfl) nm nm hb
def freeA0_c (w:World)(n t:Nat)(L it:Addr)(ts tn tz:Nat)(y z:Int)(ty:Nat)(i left:Int)(dm dt:Nat)(po pd tk:Addr) (k:Nat)(l x:Int)(tf tl tx:Nat)(lt:List Ent)(e1:Nat):Con:=⟨forC w.params 144 1 L [] (.ref it),n,t,[(L,oX w.params "frame" 2 [("self",ts,.ref po),("number",tn,.int y ty)]),(it,rIt i left),(po,oI 161 pd),(pd,oPd w k tk l x tf tl tx),(tk,dD (dI lt) e1)],[oX w.params "frame" 3 [("self",ts,.ref po),("number",tn,.int z tz),("turn",t+1,.int i t)],⟨.type "range_iterator",none,.fields #[.int (i+1) 0,.int (left - 1) 0,.int 1 0],#[]⟩,oI 161 pd,oD w.params 4 [("first",k,.int 29 tf),("last",k+2,.int l tl),("following",k+4,.int x tx),("taken",k+6,.ref tk)],(dD (dI lt) e1)],[],.ok .next,1+(dm)+0,6+(dt)+1,6⟩
def freeA0_h0:List Nat:=hx 8 [0x24268e0ac0008008008a0bb51200210009f817de000ac000800800882223]
theorem freeA0_ok (w ba bb fz n t L it ts tn tz y z ty i left dm dt po pd tk k l x tf tl tx lt e1)(hc:∀D∈([cNextR n t it i left,cInI (n+1) (t+5) tk lt e1 y ty true,cBehind w (n+1) (t+6) po pd tk k l x tf tl tx y ty z tz dm dt]:List Con),ConOk (wR w ba bb) fz D):TurnOk (wR w ba bb) fz (freeA0_c w n t L it ts tn tz y z ty i left dm dt po pd tk k l x tf tl tx lt e1) (forC w.params 144 1 L [] (.ref it)):=by
 exact turn_run (N:=117) (m₀:=5) (w0:=0) (u0:=0) (ze:=n+1+dm) (te:=t+6+dt+1) (hs:=freeA0_h0) (ni:=[]) (by kernel_rfl) rfl rfl (by kernel_rfl) (by show n+1+dm=n+(1+(dm)+0); omega) (by show t+6+dt+1=t+(6+(dt)+1); omega) (by kernel_rfl) hc nm nm
def freeB0_c (w:World)(n t:Nat)(L it:Addr)(ts tn tz:Nat)(y z:Int)(ty:Nat)(i left:Int)(dm dt:Nat)(po pd tk:Addr) (k:Nat)(l x:Int)(tf tl tx:Nat)(lt:List Ent)(e1:Nat):Con:=⟨forC w.params 144 1 L [] (.ref it),n,t,[(L,oX w.params "frame" 2 [("self",ts,.ref po),("number",tn,.int y ty)]),(it,rIt i left),(po,oI 161 pd),(pd,oPd w k tk l x tf tl tx),(tk,dD (dI lt) e1)],[oX w.params "frame" 3 [("self",ts,.ref po),("number",tn,.int y ty),("turn",t+1,.int i t)],⟨.type "range_iterator",none,.fields #[.int (i+1) 0,.int (left - 1) 0,.int 1 0],#[]⟩,oI 161 pd,oD w.params 4 [("first",k,.int 29 tf),("last",k+2,.int l tl),("following",k+4,.int z tz),("taken",k+6,.ref tk)],(dD (dI lt) e1)],[],.ok (.ret (.int y ty)),1+(dm)+0,6+(dt)+2,6⟩
def freeB0_h0:List Nat:=freeA0_h0.take 77++hx 6 [0x7420e4297ef184]
theorem freeB0_ok (w ba bb fz n t L it ts tn tz y z ty i left dm dt po pd tk k l x tf tl tx lt e1)(hc:∀D∈([cNextR n t it i left,cInI (n+1) (t+5) tk lt e1 y ty false,cBehind w (n+1) (t+6) po pd tk k l x tf tl tx y ty z tz dm dt]:List Con),ConOk (wR w ba bb) fz D):ConOk (wR w ba bb) fz (freeB0_c w n t L it ts tn tz y z ty i left dm dt po pd tk k l x tf tl tx lt e1):=by
 exact con_run (N:=139) (m₀:=5) (w0:=0) (u0:=0) (ze:=n+1+dm) (te:=t+6+dt+2) (hs:=freeB0_h0) (ni:=[]) (by kernel_rfl) rfl rfl (by kernel_rfl) (by show n+1+dm=n+(1+(dm)+0); omega) (by show t+6+dt+2=t+(6+(dt)+2); omega) (by kernel_rfl) hc nm nm
def freeA1_c (w:World)(n t:Nat)(L it:Addr)(ts tn tz:Nat)(y z:Int)(ty:Nat)(i left:Int)(dm dt:Nat)(po pd tk:Addr) (k:Nat)(l x:Int)(tf tl tx:Nat)(lt:List Ent)(e1:Nat)(tt:Nat)(vt:Value):Con:=⟨forC w.params 144 1 L [] (.ref it),n,t,[(L,oX w.params "frame" 3 [("self",ts,.ref po),("number",tn,.int y ty),("turn",tt,vt)]),(it,rIt i left),(po,oI 161 pd),(pd,oPd w k tk l x tf tl tx),(tk,dD (dI lt) e1)],[oX w.params "frame" 3 [("self",ts,.ref po),("number",tn,.int z tz),("turn",tt,.int i t)],⟨.type "range_iterator",none,.fields #[.int (i+1) 0,.int (left - 1) 0,.int 1 0],#[]⟩,oI 161 pd,oD w.params 4 [("first",k,.int 29 tf),("last",k+2,.int l tl),("following",k+4,.int x tx),("taken",k+6,.ref tk)],(dD (dI lt) e1)],[],.ok .next,1+(dm)+0,6+(dt)+1,6⟩
theorem freeA1_ok (w ba bb fz n t L it ts tn tz y z ty i left dm dt po pd tk k l x tf tl tx lt e1 tt vt)(hc:∀D∈([cNextR n t it i left,cInI (n+1) (t+5) tk lt e1 y ty true,cBehind w (n+1) (t+6) po pd tk k l x tf tl tx y ty z tz dm dt]:List Con),ConOk (wR w ba bb) fz D):TurnOk (wR w ba bb) fz (freeA1_c w n t L it ts tn tz y z ty i left dm dt po pd tk k l x tf tl tx lt e1 tt vt) (forC w.params 144 1 L [] (.ref it)):=by
 exact turn_run (N:=117) (m₀:=5) (w0:=0) (u0:=0) (ze:=n+1+dm) (te:=t+6+dt+1) (hs:=freeA0_h0) (ni:=[]) (by kernel_rfl) rfl rfl (by kernel_rfl) (by show n+1+dm=n+(1+(dm)+0); omega) (by show t+6+dt+1=t+(6+(dt)+1); omega) (by kernel_rfl) hc nm nm
def freeB1_c (w:World)(n t:Nat)(L it:Addr)(ts tn tz:Nat)(y z:Int)(ty:Nat)(i left:Int)(dm dt:Nat)(po pd tk:Addr) (k:Nat)(l x:Int)(tf tl tx:Nat)(lt:List Ent)(e1:Nat)(tt:Nat)(vt:Value):Con:=⟨forC w.params 144 1 L [] (.ref it),n,t,[(L,oX w.params "frame" 3 [("self",ts,.ref po),("number",tn,.int y ty),("turn",tt,vt)]),(it,rIt i left),(po,oI 161 pd),(pd,oPd w k tk l x tf tl tx),(tk,dD (dI lt) e1)],[oX w.params "frame" 3 [("self",ts,.ref po),("number",tn,.int y ty),("turn",tt,.int i t)],⟨.type "range_iterator",none,.fields #[.int (i+1) 0,.int (left - 1) 0,.int 1 0],#[]⟩,oI 161 pd,oD w.params 4 [("first",k,.int 29 tf),("last",k+2,.int l tl),("following",k+4,.int z tz),("taken",k+6,.ref tk)],(dD (dI lt) e1)],[],.ok (.ret (.int y ty)),1+(dm)+0,6+(dt)+2,6⟩
theorem freeB1_ok (w ba bb fz n t L it ts tn tz y z ty i left dm dt po pd tk k l x tf tl tx lt e1 tt vt)(hc:∀D∈([cNextR n t it i left,cInI (n+1) (t+5) tk lt e1 y ty false,cBehind w (n+1) (t+6) po pd tk k l x tf tl tx y ty z tz dm dt]:List Con),ConOk (wR w ba bb) fz D):ConOk (wR w ba bb) fz (freeB1_c w n t L it ts tn tz y z ty i left dm dt po pd tk k l x tf tl tx lt e1 tt vt):=by
 exact con_run (N:=139) (m₀:=5) (w0:=0) (u0:=0) (ze:=n+1+dm) (te:=t+6+dt+2) (hs:=freeB0_h0) (ni:=[]) (by kernel_rfl) rfl rfl (by kernel_rfl) (by show n+1+dm=n+(1+(dm)+0); omega) (by show t+6+dt+2=t+(6+(dt)+2); omega) (by kernel_rfl) hc nm nm
section
section
variable {w:World}{ba bb:Bool}{fz:Addr->Option Obj}{n t:Nat} {d:Addr}{lt:List Ent}{ep:Nat} {z:Int}{tz:Nat}
theorem pos_lt {l:List Ent} {p:Int} {i:Nat} (h:posP l p=some i):i < l.length:=by
 obtain⟨x,hx,_⟩:=pos_some h
 obtain⟨q,_⟩:=List.getElem?_eq_some_iff.mp hx
 exact q
theorem cInI_ok {b:Bool} (h:(posP lt z).isSome=b):ConOk w fz (cInI n t d lt ep z tz b):=by
 subst h
 exact cIn_ok kf_int fun i e=>by unfold dI; rw[dE_size]; exact pos_lt e
theorem cGetI_ok {i:Nat} {x:Ent} (h:posP lt z=some i)(hx:lt[i]?=some x):ConOk w fz (cGetI n t d lt ep z tz x.2.2):=by
 have kf:KfAt w fz d (dI lt) ep (.int z tz) [] (hashInt z) 1 (some i):=h▸kf_int
 exact cGet_ok kf (e:=⟨hashInt x.1,.int x.1 x.2.1,x.2.2⟩) (by unfold dI; rw[dE_get,hx]; rfl)
theorem cSetI_ok {v:Value} (h:posP lt z=none)(hl:lt.length<=60):ConOk w fz (cSetI n t d lt ep z tz v):=by
 have kf:KfAt w fz d (dI lt) ep (.int z tz) [] (hashInt z) 1 none:=h▸kf_int
 have K:=cSet_ok (w:=w) (fz:=fz) (n:=n) (t:=t) (v:=v) kf (by unfold dI; rw[dE_size,sizeLine_eq]; omega)
 have e:cSetI n t d lt ep z tz v=cSet n t d (dI lt) ep (.int z tz) [] 1 (hashInt z) v:=by
  unfold cSetI cSet
  have:=dE_push (h:=hashInt) (k:=fun z t=>.int z t) (l:=lt) (x:=(z,tz,v))
  unfold dI
  rw[<- this]
  rfl
 rw[e]; exact K
theorem cPopI_ok {i:Nat} {x:Ent} (h:posP lt z=some i)(hx:lt[i]?=some x)(hl:lt.length<=60):ConOk w fz (cPopI n t d lt ep z tz i x.2.2):=by
 have kf:KfAt w fz d (dI lt) ep (.int z tz) [] (hashInt z) 1 (some i):=h▸kf_int
 have K:=cPop_ok (w:=w) (fz:=fz) (n:=n) (t:=t) kf (e:=⟨hashInt x.1,.int x.1 x.2.1,x.2.2⟩) (by unfold dI; rw[dE_get,hx]; rfl) (by unfold dI; rw[dE_size,sizeLine_eq]; omega)
 have e:cPopI n t d lt ep z tz i x.2.2=cPop n t d (dI lt) ep (.int z tz) [] 1 i x.2.2:=by
  unfold cPopI cPop
  have:=dE_erase (h:=hashInt) (k:=fun z t=>.int z t) (l:=lt) (pos_lt h)
  unfold dI
  rw[this]
  rfl
 rw[e]; exact K
end
def behP (l y:Int):Int:=if y=l then 29 else y+1
noncomputable def freeP (lt:List Ent) (l:Int):Nat->Int->Option Int
 | 0,_=>none
 | k+1,y=>if (posP lt y).isSome then freeP lt l k (behP l y) else some y
section
variable {w:World}{ba bb:Bool}{fz:Addr->Option Obj}{po pd tk:Addr} {k:Nat}{l x:Int}{tf tl tx:Nat}
theorem behind_ok (n t:Nat) (y:Int)(ty:Nat):∃tz dm dt,ConOk (wR w ba bb) fz (cBehind w n t po pd tk k l x tf tl tx y ty (behP l y) tz dm dt):=by
 unfold behP
 by_cases h:y=l
 ·rw[if_pos h]
  exact⟨_,_,_,con_as (behindB_ok w ba bb fz n t po pd tk k l x tf tl tx y ty (all1 (by simpa using h))) rfl rfl rfl rfl rfl⟩
 ·rw[if_neg h]
  exact⟨_,_,_,con_as (behindA_ok w ba bb fz n t po pd tk k l x tf tl tx y ty (all1 (by simpa using h))) rfl rfl rfl rfl rfl⟩
def cFreeL (w:World)(n t:Nat)(L it po pd tk:Addr) (k:Nat)(l x:Int)(tf tl tx:Nat)(lt:List Ent)(e1:Nat)(i left:Int)(o0 o1 o2:Obj) (r:Int)(tr:Nat) (z:Int)(tz dm dt:Nat):Con:=
 ⟨forC w.params 144 1 L [] (.ref it),n,t,[(L,o0),(it,rIt i left),(po,oI 161 pd),(pd,oPd w k tk l x tf tl tx),(tk,dD (dI lt) e1)],[o1,o2,oI 161 pd,oPd w k tk l z tf tl tz,dD (dI lt) e1],[],.ok (.ret (.int r tr)),dm,dt,6⟩
variable {L it:Addr}{lt:List Ent}{e1 ts:Nat}
def oFr3 (w:World)(ts:Nat)(po:Addr)(tn:Nat) (y:Int)(ty tt:Nat)(vt:Value):Obj:=oX w.params "frame" 3 [("self",ts,.ref po),("number",tn,.int y ty),("turn",tt,vt)]
theorem free_loop1 {r:Int}:∀m i n t y ty tn tt vt,freeP lt l m y=some r->∃o1 o2 tr tz dm dt,ConOk (wR w ba bb) fz (cFreeL w n t L it po pd tk k l x tf tl tx lt e1 i m (oFr3 w ts po tn y ty tt vt) o1 o2 r tr (behP l r) tz dm dt)
 | 0,i,n,t,y,ty,tn,tt,vt,h=>by cases h
 | m+1,i,n,t,y,ty,tn,tt,vt,h=>by
  unfold freeP at h
  obtain⟨tz,dm,dt,KB⟩:=behind_ok (w:=w) (ba:=ba) (bb:=bb) (fz:=fz) (po:=po) (pd:=pd) (tk:=tk) (k:=k) (l:=l) (x:=x) (tf:=tf) (tl:=tl) (tx:=tx) (n+1) (t+6) y ty
  cases q:(posP lt y).isSome with
  | false=>
   rw[q] at h
   have e:y=r:=Option.some.inj h
   subst e
   have B:=freeB1_ok w ba bb fz n t L it ts tn tz y (behP l y) ty i (m+1) dm dt po pd tk k l x tf tl tx lt e1 tt vt (ac (cNextR_ok (by omega)) (ac (cInI_ok q) (all1 KB)))
   exact⟨_,_,_,_,_,_,B⟩
  | true=>
   rw[q] at h
   have T:=freeA1_ok w ba bb fz n t L it ts tn tz y (behP l y) ty i (m+1) dm dt po pd tk k l x tf tl tx lt e1 tt vt (ac (cNextR_ok (by omega)) (ac (cInI_ok q) (all1 KB)))
   obtain⟨o1,o2,tr,tz',dm',dt',K⟩:=free_loop1 m (i+1) (n+(1+dm+0)) (t+(6+dt+1)) (behP l y) tz tn tt (.int i t) h
   refine⟨o1,o2,tr,tz',(1+dm+0)+dm',(6+dt+1)+dt',turn_con' (C₁:=freeA1_c w n t L it ts tn tz y (behP l y) ty i (m+1) dm dt po pd tk k l x tf tl tx lt e1 tt vt) (rest:=[]) T K rfl rfl rfl rfl ?_ rfl rfl rfl rfl⟩
   show _= [_,(it,rIt (i+1) ((m+1:Int) - 1)),_,_,_]
   rw[show((m+1:Int) - 1)=m by omega]
   rfl
def oFr2 (w:World)(ts:Nat)(po:Addr)(tn:Nat) (y:Int)(ty:Nat):Obj:=oX w.params "frame" 2 [("self",ts,.ref po),("number",tn,.int y ty)]
theorem free_loop {r:Int} {m:Nat}{n t:Nat} {y:Int}{ty tn:Nat} (h:freeP lt l m y=some r):∃o1 o2 tr tz dm dt,ConOk (wR w ba bb) fz (cFreeL w n t L it po pd tk k l x tf tl tx lt e1 0 m (oFr2 w ts po tn y ty) o1 o2 r tr (behP l r) tz dm dt):=by
 cases m with
 | zero=>cases h
 | succ m=>
  unfold freeP at h
  obtain⟨tz,dm,dt,KB⟩:=behind_ok (w:=w) (ba:=ba) (bb:=bb) (fz:=fz) (po:=po) (pd:=pd) (tk:=tk) (k:=k) (l:=l) (x:=x) (tf:=tf) (tl:=tl) (tx:=tx) (n+1) (t+6) y ty
  cases q:(posP lt y).isSome with
  | false=>
   rw[q] at h
   have e:y=r:=Option.some.inj h
   subst e
   have B:=freeB0_ok w ba bb fz n t L it ts tn tz y (behP l y) ty 0 (m+1) dm dt po pd tk k l x tf tl tx lt e1 (ac (cNextR_ok (by omega)) (ac (cInI_ok q) (all1 KB)))
   exact⟨_,_,_,_,_,_,B⟩
  | true=>
   rw[q] at h
   have T:=freeA0_ok w ba bb fz n t L it ts tn tz y (behP l y) ty 0 (m+1) dm dt po pd tk k l x tf tl tx lt e1 (ac (cNextR_ok (by omega)) (ac (cInI_ok q) (all1 KB)))
   obtain⟨o1,o2,tr,tz',dm',dt',K⟩:=free_loop1 (w:=w) (ba:=ba) (bb:=bb) (fz:=fz) (po:=po) (pd:=pd) (tk:=tk) (k:=k) (l:=l) (x:=x) (tf:=tf) (tl:=tl) (tx:=tx) (L:=L) (it:=it) (lt:=lt) (e1:=e1) (ts:=ts) m (0+1) (n+(1+dm+0)) (t+(6+dt+1)) (behP l y) tz tn (t+1) (.int 0 t) h
   refine⟨o1,o2,tr,tz',(1+dm+0)+dm',(6+dt+1)+dt',turn_con' (C₁:=freeA0_c w n t L it ts tn tz y (behP l y) ty 0 (m+1) dm dt po pd tk k l x tf tl tx lt e1) (rest:=[]) T K rfl rfl rfl rfl ?_ rfl rfl rfl rfl⟩
   show _= [_,(it,rIt (0+1) ((m+1:Int) - 1)),_,_,_]
   rw[show((m+1:Int) - 1)=m by omega]
   rfl
end
end
def free_c (w:World)(n t:Nat)(po pd tk:Addr) (k:Nat)(l x:Int)(tf tl tx:Nat)(lt:List Ent)(e1:Nat)(o1 o2:Obj)(r z:Int)(tr tz dm dt:Nat):Con:=⟨Code.call (.ref 144) ⟨[.ref po],[]⟩,n,t,[(po,oI 161 pd),(pd,oPd w k tk l x tf tl tx),(tk,dD (dI lt) e1)],[oI 161 pd,oD w.params 4 [("first",k,.int 29 tf),("last",k+2,.int l tl),("following",k+4,.int z tz),("taken",k+6,.ref tk)],(dD (dI lt) e1)],[],.ok (.ret (.int r tr)),3+(dm)+0,10+(dt)+0,7⟩
def free_h0:List Nat:=hx 49 [0x173b6dbc995060083c100bf4ab72ce6469322357a0eaef864ebede8e419991c15a567a1df470478708704b840b7298b02202ad6e5aeb34f1e50955566c9]
theorem free_ok (w ba bb fz n t po pd tk k l x tf tl tx lt e1 o1 o2 r z tr tz dm dt)(hc:∀D∈([cRIter (n+2) (t+10) (n+1) (t+8) (t+7) (t+9) (l - 29+1),cFreeL w (n+3) (t+10) n (n+2) po pd tk k l x tf tl tx lt e1 0 (l - 29+1) (oFr2 w t po (t+2) x tx) o1 o2 r tr z
 tz dm dt]:List Con),ConOk (wR w ba bb) fz D):ConOk (wR w ba bb) fz (free_c w n t po pd tk k l x tf tl tx lt e1 o1 o2 r z tr tz dm dt):=by
 cases ba<;>exact con_run (N:=122) (m₀:=3) (w0:=0) (u0:=1) (ze:=n+3+dm) (te:=t+10+dt) (hs:=free_h0) (ni:=[]) (by kernel_rfl) rfl rfl (by kernel_rfl) (by show n+3+dm=n+(3+(dm)+0); omega) (by show t+10+dt=t+(10+(dt)+0); omega) (by kernel_rfl) hc nm nm
def cNextF (w:World)(n t:Nat)(po pd tk:Addr) (k:Nat)(l x:Int)(tf tl tx:Nat)(lt:List Ent)(e1:Nat) (r:Int)(tr:Nat) (z:Int)(tz dm dt:Nat):Con:=
 ⟨Code.call (.ref 144) ⟨[.ref po],[]⟩,n,t,[(po,oI 161 pd),(pd,oPd w k tk l x tf tl tx),(tk,dD (dI lt) e1)],[oI 161 pd,oPd w k tk l z tf tl tz,dD (dI lt) e1],[],.ok (.ret (.int r tr)),dm,dt,7⟩
def cTake (w:World)(n t:Nat)(po pd tk:Addr) (k:Nat)(l x:Int)(tf tl tx:Nat)(lt:List Ent)(e1:Nat)(t0:Nat) (r:Int)(tr:Nat) (z:Int)(tz dm dt:Nat):Con:=
 ⟨Code.call (.ref 137) ⟨[.ref po,.int 0 t0],[]⟩,n,t,[(po,oI 161 pd),(pd,oPd w k tk l x tf tl tx),(tk,dD (dI lt) e1)],[oI 161 pd,oPd w k tk l z tf tl tz,dD (dI (lt++[(r,tr,.bool true)])) (e1+1)],[],.ok (.ret (.int r tr)),dm,dt,9⟩
def cFree (w:World)(n t:Nat)(po pd tk:Addr) (k:Nat)(l x:Int)(tf tl tx:Nat)(lt:List Ent)(e1:Nat) (y:Int)(ty i dm dt:Nat):Con:=
 ⟨Code.call (.ref 158) ⟨[.ref po,.int y ty],[]⟩,n,t,[(po,oI 161 pd),(pd,oPd w k tk l x tf tl tx),(tk,dD (dI lt) e1)],[oI 161 pd,oPd w k tk l x tf tl tx,dD (dI (lt.eraseIdx i)) (e1+1)],[],.ok (.ret .none),dm,dt,9⟩
theorem nextF_ok {w:World}{ba bb:Bool}{fz:Addr->Option Obj}{po pd tk:Addr} {k:Nat}{l x:Int}{tf tl tx:Nat}{lt:List Ent}{e1:Nat} {m:Nat} {r:Int}(n t:Nat)(hm:l - 29+1=m)(hm':m<=1000) (h:freeP lt l m x=some r):
  ∃tr tz dm dt,ConOk (wR w ba bb) fz (cNextF w n t po pd tk k l x tf tl tx lt e1 r tr (behP l r) tz dm dt):=by
 obtain⟨o1,o2,tr,tz,dm,dt,K⟩:=free_loop (w:=w) (ba:=ba) (bb:=bb) (fz:=fz) (po:=po) (pd:=pd) (tk:=tk) (k:=k) (l:=l) (x:=x) (tf:=tf) (tl:=tl) (tx:=tx) (L:=n) (it:=n+2) (lt:=lt) (e1:=e1) (ts:=t) (n:=n+3) (t:=t+10) (ty:=tx) (tn:=t+2) h
 have pos:0 < (m:Int):=by
  cases m with
  | zero=>cases h
  | succ m=>omega
 rw[<- hm] at K
 exact⟨_,_,_,_,con_as (free_ok w ba bb fz n t po pd tk k l x tf tl tx lt e1 o1 o2 r _ tr tz dm dt (ac (cRIter_ok (by omega) (by omega)) (all1 K))) rfl rfl rfl rfl rfl⟩
def take_c (w:World)(n t:Nat)(po pd tk:Addr) (k:Nat)(l x:Int)(tf tl tx:Nat)(lt:List Ent)(e1:Nat)(t0:Nat)(r z:Int)(tr tz dm dt:Nat):Con:=⟨Code.call (.ref 137) ⟨[.ref po,.int 0 t0],[]⟩,n,t,[(po,oI 161 pd),(pd,oPd w k tk l x tf tl tx),(tk,dD (dI lt) e1)],[oI 161 pd,oD w.params 4 [("first",k,.int 29 tf),("last",k+2,.int l tl),("following",k+4,.int z tz),("taken",k+6,.ref tk)],(dD (dI (lt++[(r,tr,Value.bool true)])) (e1+1))],[],.ok (.ret (.int r tr)),1+(dm)+0,3+(dt)+3,8⟩
def take_h0:List Nat:=hx 11 [0x1958a06106f6c8ed0e58db33d2ff901da13fb042f2d5e9354e7a]
theorem take_ok (w ba bb fz n t po pd tk k l x tf tl tx lt e1 t0 r z tr tz dm dt)(hc:∀D∈([cNextF w (n+1) (t+3) po pd tk k l x tf tl tx lt e1 r tr z tz dm dt,cSetI (n+1+dm) (t+3+dt+2) tk lt e1 r tr (Value.bool true)]:List Con),ConOk (wR w ba bb) fz D):ConOk (wR w ba bb) fz (take_c w n t po pd tk k l x tf tl tx lt e1 t0 r z tr tz dm dt):=by
 cases ba<;>exact con_run (N:=90) (m₀:=3) (w0:=0) (u0:=1) (ze:=n+1+dm) (te:=t+3+dt+3) (hs:=take_h0) (ni:=[]) (by kernel_rfl) rfl rfl (by kernel_rfl) (by show n+1+dm=n+(1+(dm)+0); omega) (by show t+3+dt+3=t+(3+(dt)+3); omega) (by kernel_rfl) hc nm nm
def free0_c (w:World)(n t:Nat)(po pd tk:Addr) (k:Nat)(l x:Int)(tf tl tx:Nat)(lt:List Ent)(e1:Nat) (y:Int)(ty:Nat) (i:Nat):Con:=⟨Code.call (.ref 158) ⟨[.ref po,.int y ty],[]⟩,n,t,[(po,oI 161 pd),(pd,oPd w k tk l x tf tl tx),(tk,dD (dI lt) e1)],[oI 161 pd,oD w.params 4 [("first",k,.int 29 tf),("last",k+2,.int l tl),("following",k+4,.int x tx),("taken",k+6,.ref tk)],(dD (dI (lt.eraseIdx i)) (e1+1))],[],.ok (.ret (.none)),1,6,6⟩
def free0_h0:List Nat:=hx 6 [0x7460b2790897ae888fe84f21716dce42ac]
theorem free0_ok (w ba bb fz n t po pd tk k l x tf tl tx lt e1 y ty i)(hc:∀D∈([cInI (n+1) (t+3) tk lt e1 y ty true,cPopI (n+1) (t+5) tk lt e1 y ty i (Value.bool true)]:List Con),ConOk (wR w ba bb) fz D):ConOk (wR w ba bb) fz (free0_c w n t po pd tk k l x tf tl tx lt e1 y ty i):=by
 exact con_run (N:=77) (m₀:=3) (w0:=0) (u0:=1) (ze:=n+1) (te:=t+6) (hs:=free0_h0) (ni:=[]) (by kernel_rfl) rfl rfl (by kernel_rfl) rfl rfl (by kernel_rfl) hc nm nm
section
def oSd (w:World) (T:Nat)(lm po tb ls lk:Addr)(iss:Int)(ti:Nat) (g:Int)(tg:Nat):Obj:=oD w.params 7 [("limits",T,.ref lm),("iss",T+2,.int iss ti),("ports",T+16,.ref po),("table",T+23,.ref tb),("listeners",T+25,.ref ls),("links",T+27,.ref lk),("given",T+30,.int g tg)]
def oTd (w:World) (T:Nat)(cn ll:Addr):Obj:=oD w.params 2 [("connections",T+19,.ref cn),("listeners",T+21,.ref ll)]
section
variable {w:World}{ba bb:Bool}{fz:Addr->Option Obj}{po pd tk:Addr} {k:Nat}{l x:Int}{tf tl tx:Nat}{lt:List Ent}{e1:Nat}
theorem take_is {m:Nat} {r:Int}(n t t0:Nat)(hm:l - 29+1=m)(hm':m<=1000) (h:freeP lt l m x=some r)(hp:posP lt r=none)(hl:lt.length<=60):
  ∃tr tz dm dt,ConOk (wR w ba bb) fz (cTake w n t po pd tk k l x tf tl tx lt e1 t0 r tr (behP l r) tz dm dt):=by
 obtain⟨tr,tz,dm,dt,K⟩:=nextF_ok (w:=w) (ba:=ba) (bb:=bb) (fz:=fz) (po:=po) (pd:=pd) (tk:=tk) (k:=k) (tf:=tf) (tl:=tl) (tx:=tx) (e1:=e1) (n+1) (t+3) hm hm' h
 exact⟨_,_,_,_,con_as (take_ok w ba bb fz n t po pd tk k l x tf tl tx lt e1 t0 r _ tr tz dm dt (ac K (all1 (cSetI_ok hp hl)))) rfl rfl rfl rfl rfl⟩
theorem free_is {y:Int} {i:Nat} {q:Ent}(n t ty:Nat) (h:posP lt y=some i)(hx:lt[i]?=some q)(hv:q.2.2=.bool true)(hl:lt.length<=60):∃dm dt,ConOk (wR w ba bb) fz (cFree w n t po pd tk k l x tf tl tx lt e1 y ty i dm dt):=by
 have P:=cPopI_ok (w:=wR w ba bb) (fz:=fz) (n:=n+1) (t:=t+5) (d:=tk) (ep:=e1) (tz:=ty) h hx hl
 rw[hv] at P
 exact⟨_,_,con_as (free0_ok w ba bb fz n t po pd tk k l x tf tl tx lt e1 y ty i (ac (cInI_ok (by rw[h]; rfl)) (all1 P))) rfl rfl rfl rfl rfl⟩
end
def cUsedV (w:World)(n t:Nat)(tb td cn ls:Addr) (T:Nat)(lc ll:List Ent)(e1 e2:Nat) (p:Int)(tk:Nat) (β:Bool)(dm dt:Nat):Con:=
 ⟨Code.call (.ref 1165) ⟨[.ref tb,.int p tk],[]⟩,n,t,[(tb,oI 1173 td),(td,oTd w T cn ls),(cn,dD (dC w lc) e1),(ls,dD (dL w ll) e2)],[oI 1173 td,oTd w T cn ls,dD (dC w lc) e1,dD (dL w ll) e2],[],.ok (.ret (.bool β)),dm,dt,7⟩
theorem usedV_is {w:World}{ba bb:Bool}{fz:Addr->Option Obj}{tb td cn ls:Addr} {T:Nat}{lc ll:List Ent}{e1 e2:Nat} {p:Int}{tk:Nat} {β:Bool}(hc:∀x∈lc,FrC fz x)(hl:∀x∈ll,FrL fz x)(hll:ll.length<=30)(n t:Nat) (h:usedB lc ll p=β):
  ∃dm dt,ConOk (wR w ba bb) fz (cUsedV w n t tb td cn ls T lc ll e1 e2 p tk β dm dt):=by
 subst h
 exact used_ok hc hl hll n t
def oFo2 (w:World)(ts tq:Nat)(sk:Addr)(t0:Nat):Obj:=oX w.params "frame" 2 [("self",ts,.ref sk),("local_port",tq,.int 0 t0)]
def oFo4 (w:World)(ts tq:Nat)(sk:Addr)(t0 tt:Nat)(vt:Value)(tg:Nat)(vf:Value):Obj:=oX w.params "frame" 4 [("self",ts,.ref sk),("local_port",tq,.int 0 t0),("turn",tt,vt),("found",tg,vf)]
end
def ownA0_c (w:World)(n t:Nat)(L it:Addr)(ts tq:Nat)(i left:Int)(r z:Int)(tr tz j dm dt dm2 dt2 dm3 dt3:Nat)(sk sd lm tb td cn ls sl ln po pd tk:Addr) (T:Nat)(iss g:Int)(ti tg:Nat)(l x:Int)(tf tl tx:Nat)(lt lc ll:List Ent)(e1 e2 e3 t0:Nat):Con:=⟨forC w.params 1309 1 L [] (.ref it),n,t,[(L,oFo2 w ts tq sk t0),(it,rIt i left),(sk,oI 1431 sd),(sd,oSd w T lm po tb sl ln iss ti g tg),(po,oI 161 pd),(pd,oPd w (T+8) tk l x tf tl tx),(tk,dD (dI lt) e1),(tb,oI 1173 td),(td,oTd w T cn ls),(cn,dD (dC w lc) e2),(ls,dD (dL w ll) e3)],[oX w.params "frame" 4 [("self",ts,.ref sk),("local_port",tq,.int 0 t0),("turn",t+1,.int i t),("found",t+4+dt,.int r tr)],⟨.type "range_iterator",none,.fields #[.int (i+1) 0,.int (left - 1) 0,.int 1 0],#[]⟩,oI 1431 sd,oD w.params 7 [("limits",T,.ref lm),("iss",T+2,.int iss ti),("ports",T+16,.ref po),("table",T+23,.ref tb),("listeners",T+25,.ref sl),("links",T+27,.ref ln),("given",T+30,.int g tg)],oI 161 pd,oD w.params 4 [("first",T+8,.int 29 tf),("last",T+10,.int l tl),("following",T+12,.int z tz),("taken",T+14,.ref tk)],(dD (dI ((lt++[(r,tr,Value.bool true)]).eraseIdx j)) (e1+2)),oI 1173 td,oD w.params 2 [("connections",T+19,.ref cn),("listeners",T+21,.ref ls)],(dD (dC w lc) e2),(dD (dL w ll) e3)],[],.ok .next,0+(dm)+0+(dm2)+0+(dm3)+0,4+(dt)+2+(dt2)+1+(dt3)+0,9⟩
def ownA0_h0:List Nat:=hx 11 [0xdfa359b2db7b814b08032bb3b95cd78cc0a4f676cd93924af7623302da022c855510e135dd74e7,0xfc13496da27da32271606e2f67]
theorem ownA0_ok (w ba bb fz n t L it ts tq i left r z tr tz j dm dt dm2 dt2 dm3 dt3 sk sd lm tb td cn ls sl ln po pd tk T iss g ti tg l x tf tl tx lt lc ll e1 e2 e3 t0)(hc:∀D∈([cNextR n t it i left,cTake w n (t+4) po pd tk (T+8) l x tf tl tx lt e1 (t+3) r tr z tz dm dt,cUsedV w (n+dm) (t+4+dt+2) tb td cn ls T lc ll e2 e3 r tr true dm2 dt2,cFree w (n+dm+dm2) (t+4+dt+2+dt2+1) po pd tk (T+8) l z tf tl tz (lt++[(r,tr,Value.bool true)])
 (e1+1) r tr j dm3 dt3]:List Con),ConOk (wR w ba bb) fz D):TurnOk (wR w ba bb) fz (ownA0_c w n t L it ts tq i left r z tr tz j dm dt dm2 dt2 dm3 dt3 sk sd lm tb td cn ls sl ln po pd tk T iss g ti tg l x tf tl tx lt lc ll e1 e2 e3 t0) (forC w.params 1309 1 L [] (.ref it)):=by
 exact turn_run (N:=152) (m₀:=11) (w0:=0) (u0:=0) (ze:=n+dm+dm2+dm3) (te:=t+4+dt+2+dt2+1+dt3) (hs:=ownA0_h0) (ni:=[]) (by kernel_rfl) rfl rfl (by kernel_rfl) (by show n+dm+dm2+dm3=n+(0+(dm)+0+(dm2)+0+(dm3)+0); omega) (by show t+4+dt+2+dt2+1+dt3=t+(4+(dt)+2+(dt2)+1+(dt3)+0); omega) (by kernel_rfl) hc nm nm
def ownB0_c (w:World)(n t:Nat)(L it:Addr)(ts tq:Nat)(i left:Int)(r z:Int)(tr tz j dm dt dm2 dt2 dm3 dt3:Nat)(sk sd lm tb td cn ls sl ln po pd tk:Addr) (T:Nat)(iss g:Int)(ti tg:Nat)(l x:Int)(tf tl tx:Nat)(lt lc ll:List Ent)(e1 e2 e3 t0:Nat):Con:=⟨forC w.params 1309 1 L [] (.ref it),n,t,[(L,oFo2 w ts tq sk t0),(it,rIt i left),(sk,oI 1431 sd),(sd,oSd w T lm po tb sl ln iss ti g tg),(po,oI 161 pd),(pd,oPd w (T+8) tk l x tf tl tx),(tk,dD (dI lt) e1),(tb,oI 1173 td),(td,oTd w T cn ls),(cn,dD (dC w lc) e2),(ls,dD (dL w ll) e3)],[oX w.params "frame" 4 [("self",ts,.ref sk),("local_port",tq,.int 0 t0),("turn",t+1,.int i t),("found",t+4+dt,.int r tr)],⟨.type "range_iterator",none,.fields #[.int (i+1) 0,.int (left - 1) 0,.int 1 0],#[]⟩,oI 1431 sd,oD w.params 7 [("limits",T,.ref lm),("iss",T+2,.int iss ti),("ports",T+16,.ref po),("table",T+23,.ref tb),("listeners",T+25,.ref sl),("links",T+27,.ref ln),("given",T+30,.int g tg)],oI 161 pd,oD w.params 4 [("first",T+8,.int 29 tf),("last",T+10,.int l tl),("following",T+12,.int z tz),("taken",T+14,.ref tk)],(dD (dI (lt++[(r,tr,Value.bool true)])) (e1+1)),oI 1173 td,oD w.params 2 [("connections",T+19,.ref cn),("listeners",T+21,.ref ls)],(dD (dC w lc) e2),(dD (dL w ll) e3)],[],.ok (.ret (.int r tr)),0+(dm)+0+(dm2)+0,4+(dt)+2+(dt2)+0,9⟩
def ownB0_h0:List Nat:=ownA0_h0.take 83
theorem ownB0_ok (w ba bb fz n t L it ts tq i left r z tr tz j dm dt dm2 dt2 dm3 dt3 sk sd lm tb td cn ls sl ln po pd tk T iss g ti tg l x tf tl tx lt lc ll e1 e2 e3 t0)(hc:∀D∈([cNextR n t it i left,cTake w n (t+4) po pd tk (T+8) l x tf tl tx lt e1 (t+3) r tr z tz dm dt,cUsedV w (n+dm) (t+4+dt+2) tb td cn ls T lc ll e2 e3 r tr false dm2 dt2]:List Con),ConOk (wR w ba bb) fz D):ConOk (wR w ba bb) fz (ownB0_c w n t L it ts tq i left r z tr tz j dm dt dm2 dt2 dm3 dt3 sk sd lm tb td cn ls sl ln po pd tk T iss g ti tg l x tf tl tx lt lc ll e1 e2 e3 t0):=by
 exact con_run (N:=112) (m₀:=11) (w0:=0) (u0:=0) (ze:=n+dm+dm2) (te:=t+4+dt+2+dt2) (hs:=ownB0_h0) (ni:=[]) (by kernel_rfl) rfl rfl (by kernel_rfl) (by show n+dm+dm2=n+(0+(dm)+0+(dm2)+0); omega) (by show t+4+dt+2+dt2=t+(4+(dt)+2+(dt2)+0); omega) (by kernel_rfl) hc nm nm
def ownA1_c (w:World)(n t:Nat)(L it:Addr)(ts tq:Nat)(i left:Int)(r z:Int)(tr tz j dm dt dm2 dt2 dm3 dt3:Nat)(sk sd lm tb td cn ls sl ln po pd tk:Addr) (T:Nat)(iss g:Int)(ti tg:Nat)(l x:Int)(tf tl tx:Nat)(lt lc ll:List Ent)(e1 e2 e3 t0:Nat)(tt tg':Nat)(vt vf:Value):Con:=⟨forC w.params 1309 1 L [] (.ref it),n,t,[(L,oFo4 w ts tq sk t0 tt vt tg' vf),(it,rIt i left),(sk,oI 1431 sd),(sd,oSd w T lm po tb sl ln iss ti g tg),(po,oI 161 pd),(pd,oPd w (T+8) tk l x tf tl tx),(tk,dD (dI lt) e1),(tb,oI 1173 td),(td,oTd w T cn ls),(cn,dD (dC w lc) e2),(ls,dD (dL w ll) e3)],[oX w.params "frame" 4 [("self",ts,.ref sk),("local_port",tq,.int 0 t0),("turn",tt,.int i t),("found",tg',.int r tr)],⟨.type "range_iterator",none,.fields #[.int (i+1) 0,.int (left - 1) 0,.int 1 0],#[]⟩,oI 1431 sd,oD w.params 7 [("limits",T,.ref lm),("iss",T+2,.int iss ti),("ports",T+16,.ref po),("table",T+23,.ref tb),("listeners",T+25,.ref sl),("links",T+27,.ref ln),("given",T+30,.int g tg)],oI 161 pd,oD w.params 4 [("first",T+8,.int 29 tf),("last",T+10,.int l tl),("following",T+12,.int z tz),("taken",T+14,.ref tk)],(dD (dI ((lt++[(r,tr,Value.bool true)]).eraseIdx j)) (e1+2)),oI 1173 td,oD w.params 2 [("connections",T+19,.ref cn),("listeners",T+21,.ref ls)],(dD (dC w lc) e2),(dD (dL w ll) e3)],[],.ok .next,0+(dm)+0+(dm2)+0+(dm3)+0,4+(dt)+2+(dt2)+1+(dt3)+0,9⟩
theorem ownA1_ok (w ba bb fz n t L it ts tq i left r z tr tz j dm dt dm2 dt2 dm3 dt3 sk sd lm tb td cn ls sl ln po pd tk T iss g ti tg l x tf tl tx lt lc ll e1 e2 e3 t0 tt tg' vt vf)(hc:∀D∈([cNextR n t it i left,cTake w n (t+4) po pd tk (T+8) l x tf tl tx lt e1 (t+3) r tr z tz dm dt,cUsedV w (n+dm) (t+4+dt+2) tb td cn ls T lc ll e2 e3 r tr true dm2 dt2,cFree w (n+dm+dm2) (t+4+dt+2+dt2+1) po pd tk (T+8) l z tf tl tz (lt++[(r,tr,Value.bool true)])
 (e1+1) r tr j dm3 dt3]:List Con),ConOk (wR w ba bb) fz D):TurnOk (wR w ba bb) fz (ownA1_c w n t L it ts tq i left r z tr tz j dm dt dm2 dt2 dm3 dt3 sk sd lm tb td cn ls sl ln po pd tk T iss g ti tg l x tf tl tx lt lc ll e1 e2 e3 t0 tt tg' vt vf) (forC w.params 1309 1 L [] (.ref it)):=by
 exact turn_run (N:=152) (m₀:=11) (w0:=0) (u0:=0) (ze:=n+dm+dm2+dm3) (te:=t+4+dt+2+dt2+1+dt3) (hs:=ownA0_h0) (ni:=[]) (by kernel_rfl) rfl rfl (by kernel_rfl) (by show n+dm+dm2+dm3=n+(0+(dm)+0+(dm2)+0+(dm3)+0); omega) (by show t+4+dt+2+dt2+1+dt3=t+(4+(dt)+2+(dt2)+1+(dt3)+0); omega) (by kernel_rfl) hc nm nm
def ownB1_c (w:World)(n t:Nat)(L it:Addr)(ts tq:Nat)(i left:Int)(r z:Int)(tr tz j dm dt dm2 dt2 dm3 dt3:Nat)(sk sd lm tb td cn ls sl ln po pd tk:Addr) (T:Nat)(iss g:Int)(ti tg:Nat)(l x:Int)(tf tl tx:Nat)(lt lc ll:List Ent)(e1 e2 e3 t0:Nat)(tt tg':Nat)(vt vf:Value):Con:=⟨forC w.params 1309 1 L [] (.ref it),n,t,[(L,oFo4 w ts tq sk t0 tt vt tg' vf),(it,rIt i left),(sk,oI 1431 sd),(sd,oSd w T lm po tb sl ln iss ti g tg),(po,oI 161 pd),(pd,oPd w (T+8) tk l x tf tl tx),(tk,dD (dI lt) e1),(tb,oI 1173 td),(td,oTd w T cn ls),(cn,dD (dC w lc) e2),(ls,dD (dL w ll) e3)],[oX w.params "frame" 4 [("self",ts,.ref sk),("local_port",tq,.int 0 t0),("turn",tt,.int i t),("found",tg',.int r tr)],⟨.type "range_iterator",none,.fields #[.int (i+1) 0,.int (left - 1) 0,.int 1 0],#[]⟩,oI 1431 sd,oD w.params 7 [("limits",T,.ref lm),("iss",T+2,.int iss ti),("ports",T+16,.ref po),("table",T+23,.ref tb),("listeners",T+25,.ref sl),("links",T+27,.ref ln),("given",T+30,.int g tg)],oI 161 pd,oD w.params 4 [("first",T+8,.int 29 tf),("last",T+10,.int l tl),("following",T+12,.int z tz),("taken",T+14,.ref tk)],(dD (dI (lt++[(r,tr,Value.bool true)])) (e1+1)),oI 1173 td,oD w.params 2 [("connections",T+19,.ref cn),("listeners",T+21,.ref ls)],(dD (dC w lc) e2),(dD (dL w ll) e3)],[],.ok (.ret (.int r tr)),0+(dm)+0+(dm2)+0,4+(dt)+2+(dt2)+0,9⟩
theorem ownB1_ok (w ba bb fz n t L it ts tq i left r z tr tz j dm dt dm2 dt2 dm3 dt3 sk sd lm tb td cn ls sl ln po pd tk T iss g ti tg l x tf tl tx lt lc ll e1 e2 e3 t0 tt tg' vt vf)(hc:∀D∈([cNextR n t it i left,cTake w n (t+4) po pd tk (T+8) l x tf tl tx lt e1 (t+3) r tr z tz dm dt,cUsedV w (n+dm) (t+4+dt+2) tb td cn ls T lc ll e2 e3 r tr false dm2 dt2]:List Con),ConOk (wR w ba bb) fz D):ConOk (wR w ba bb) fz (ownB1_c w n t L it ts tq i left r z tr tz j dm dt dm2 dt2 dm3 dt3 sk sd lm tb td cn ls sl ln po pd tk T iss g ti tg l x tf tl tx lt lc ll e1 e2 e3 t0 tt tg' vt vf):=by
 exact con_run (N:=112) (m₀:=11) (w0:=0) (u0:=0) (ze:=n+dm+dm2) (te:=t+4+dt+2+dt2) (hs:=ownB0_h0) (ni:=[]) (by kernel_rfl) rfl rfl (by kernel_rfl) (by show n+dm+dm2=n+(0+(dm)+0+(dm2)+0); omega) (by show t+4+dt+2+dt2=t+(4+(dt)+2+(dt2)+0); omega) (by kernel_rfl) hc nm nm
section
def ownP (lt lc ll:List Ent) (l:Int) (m:Nat):Nat->Int->Option Int
 | 0,_=>none
 | k+1,x=>match freeP lt l m x with
  | none=>none
  | some r=>if usedB lc ll r then ownP lt lc ll l m k (behP l r) else some r
def skO (w:World)(sk sd lm tb td cn ls sl ln po pd tk:Addr) (T:Nat)(iss:Int)(ti:Nat) (g:Int)(tg:Nat)(l x:Int)(tf tl tx:Nat)(lt:List Ent)(e1:Nat)(lc:List Ent)(e2:Nat)(ll:List Ent)(e3:Nat):List (Addr×Obj):=
 [(sk,oI 1431 sd),(sd,oSd w T lm po tb sl ln iss ti g tg),(po,oI 161 pd),(pd,oPd w (T+8) tk l x tf tl tx),(tk,dD (dI lt) e1),(tb,oI 1173 td),(td,oTd w T cn ls),(cn,dD (dC w lc) e2),(ls,dD (dL w ll) e3)]
def skP (w:World)(sk sd lm tb td cn ls sl ln po pd tk:Addr) (T:Nat)(iss:Int)(ti:Nat) (g:Int)(tg:Nat)(l x:Int)(tf tl tx:Nat)(lt:List Ent)(e1:Nat)(lc:List Ent)(e2:Nat)(ll:List Ent)(e3:Nat):List Obj:=
 [oI 1431 sd,oSd w T lm po tb sl ln iss ti g tg,oI 161 pd,oPd w (T+8) tk l x tf tl tx,dD (dI lt) e1,oI 1173 td,oTd w T cn ls,dD (dC w lc) e2,dD (dL w ll) e3]
def cOwnL (w:World)(n t:Nat)(L it sk sd lm tb td cn ls sl ln po pd tk:Addr) (T:Nat)(iss:Int)(ti:Nat) (g:Int)(tg:Nat)(l x:Int)(tf tl tx:Nat)(lt:List Ent)(e1:Nat)(lc:List Ent)(e2:Nat)(ll:List Ent)(e3:Nat)(i left:Int)(o0 o1 o2:Obj) (r:Int)(tr:Nat) (z:Int)(tz e1' dm dt:Nat):Con:=
 ⟨forC w.params 1309 1 L [] (.ref it),n,t,(L,o0)::(it,rIt i left)::skO w sk sd lm tb td cn ls sl ln po pd tk T iss ti g tg l x tf tl tx lt e1 lc e2 ll e3,o1::o2::skP w sk sd lm tb td cn ls sl ln po pd tk T iss ti g tg l z tf tl tz (lt++[(r,tr,.bool true)]) e1' lc e2 ll e3,[],.ok (.ret (.int r tr)),dm,dt,11⟩
theorem erase_last {α:Type}:∀ (l:List α) (a:α),(l++[a]).eraseIdx l.length=l
 | [],_=>rfl
 | b::l,a=>by show b::(l++[a]).eraseIdx l.length=b::l; rw[erase_last l a]
theorem pos_last {lt:List Ent} {r:Int}{tr:Nat} {v:Value} (h:posP lt r=none):posP (lt++[(r,tr,v)]) r=some lt.length:=by
 unfold posP at h ⊢
 rw[List.findIdx?_append,h]
 simp
theorem free_none:∀ {m:Nat}{lt:List Ent}{l x r:Int},freeP lt l m x=some r->posP lt r=none
 | 0,_,_,_,_,h=>by cases h
 | m+1,lt,l,x,r,h=>by
  unfold freeP at h
  cases q:(posP lt x).isSome with
  | true=>rw[q] at h; exact free_none h
  | false=>
   rw[q] at h
   have e:x=r:=Option.some.inj h
   subst e
   exact Option.isNone_iff_eq_none.mp (by rw[<- Option.not_isSome,q]; rfl)
section
variable {w:World}{ba bb:Bool}{fz:Addr->Option Obj}{L it sk sd lm tb td cn ls sl ln po pd tk:Addr} {T:Nat}{iss:Int}{ti:Nat} {g:Int}{tg:Nat} {l:Int}{tf tl:Nat}{lt:List Ent}{lc:List Ent}{e2:Nat}{ll:List Ent}{e3 t0 ts tq:Nat} {m:Nat}
 (hc:∀x∈lc,FrC fz x) (hl:∀x∈ll,FrL fz x) (hll:ll.length<=30) (hm:l - 29+1=m) (hm':m<=1000) (hlt:lt.length<=50)
include hc hl hll hm hm' hlt
theorem own_loop1 {r:Int}:∀k i n t x tx e1 tt tg' vt vf,ownP lt lc ll l m k x=some r->∃o1 o2 tr tz e1' dm dt,
  ConOk (wR w ba bb) fz (cOwnL w n t L it sk sd lm tb td cn ls sl ln po pd tk T iss ti g tg l x tf tl tx lt e1 lc e2 ll e3 i k (oFo4 w ts tq sk t0 tt vt tg' vf) o1 o2 r tr (behP l r) tz e1' dm dt)
 | 0,i,n,t,x,tx,e1,tt,tg',vt,vf,h=>by cases h
 | k+1,i,n,t,x,tx,e1,tt,tg',vt,vf,h=>by
  unfold ownP at h
  cases q:freeP lt l m x with
  | none=>rw[q] at h; cases h
  | some y=>
   rw[q] at h
   have hp:=free_none q
   obtain⟨tr,tz,dm,dt,K1⟩:=take_is (w:=w) (ba:=ba) (bb:=bb) (fz:=fz) (po:=po) (pd:=pd) (tk:=tk) (k:=T+8) (tf:=tf) (tl:=tl) (tx:=tx) (e1:=e1) n (t+4) (t+3) hm hm' q hp (by omega)
   obtain⟨dm2,dt2,K2⟩:=usedV_is (w:=w) (ba:=ba) (bb:=bb) (tb:=tb) (td:=td) (cn:=cn) (ls:=ls) (T:=T) (e1:=e2) (e2:=e3) (p:=y) (tk:=tr) hc hl hll (n+dm) (t+4+dt+2) (rfl:usedB lc ll y=_)
   dsimp only at h
   cases u:usedB lc ll y with
   | false=>
    rw[u] at h K2
    have e:y=r:=Option.some.inj h
    subst e
    exact⟨_,_,_,_,_,_,_,con_as (ownB1_ok w ba bb fz n t L it ts tq i (k+1) y (behP l y) tr tz 0 dm dt dm2 dt2 0 0 sk sd lm tb td cn ls sl ln po pd tk T iss g ti tg l x tf tl tx lt lc ll e1 e2 e3 t0 tt tg' vt vf (ac (cNextR_ok (by omega)) (ac K1 (all1 K2)))) rfl rfl rfl rfl rfl⟩
   | true=>
    rw[u] at h K2
    obtain⟨dm3,dt3,K3⟩:=free_is (w:=w) (ba:=ba) (bb:=bb) (fz:=fz) (po:=po) (pd:=pd) (tk:=tk) (k:=T+8) (l:=l) (x:=behP l y) (tf:=tf) (tl:=tl) (tx:=tz) (lt:=lt++[(y,tr,.bool true)]) (e1:=e1+1) (n+dm+dm2) (t+4+dt+2+dt2+1) tr (pos_last hp)
     (q:=(y,tr,.bool true)) (by simp) rfl (by simp; omega)
    have T1:=ownA1_ok w ba bb fz n t L it ts tq i (k+1) y (behP l y) tr tz lt.length dm dt dm2 dt2 dm3 dt3 sk sd lm tb td cn ls sl ln po pd tk T iss g ti tg l x tf tl tx lt lc ll e1 e2 e3 t0 tt tg' vt vf (ac (cNextR_ok (by omega)) (ac K1 (ac K2 (all1 K3))))
    obtain⟨o1,o2,tr',tz',e1',dm',dt',K⟩:=own_loop1 k (i+1) (n+(0+dm+0+dm2+0+dm3+0)) (t+(4+dt+2+dt2+1+dt3+0)) (behP l y) tz (e1+2) tt tg' (.int i t) (.int y tr) h
    refine⟨o1,o2,tr',tz',e1',(0+dm+0+dm2+0+dm3+0)+dm',(4+dt+2+dt2+1+dt3+0)+dt',turn_con' (C₁:=ownA1_c w n t L it ts tq i (k+1) y (behP l y) tr tz lt.length dm dt dm2 dt2 dm3 dt3 sk sd lm tb td cn ls sl ln po pd tk T iss g ti tg l x tf tl tx lt lc ll e1 e2 e3 t0 tt tg' vt vf) (rest:=[]) T1 K rfl rfl rfl rfl ?_ rfl rfl rfl rfl⟩
    show _= [_,(it,rIt (i+1) ((k+1:Int) - 1)),_,_,_,_,(tk,dD (dI ((lt++[(y,tr,Value.bool true)]).eraseIdx lt.length)) (e1+2)),_,_,_,_]
    rw[show((k+1:Int) - 1)=k by omega,erase_last]
    rfl
theorem own_loop {r:Int} {k:Nat}{n t:Nat} {x:Int}{tx e1:Nat} (h:ownP lt lc ll l m k x=some r):∃o1 o2 tr tz e1' dm dt,
  ConOk (wR w ba bb) fz (cOwnL w n t L it sk sd lm tb td cn ls sl ln po pd tk T iss ti g tg l x tf tl tx lt e1 lc e2 ll e3 0 k (oFo2 w ts tq sk t0) o1 o2 r tr (behP l r) tz e1' dm dt):=by
 cases k with
 | zero=>cases h
 | succ k=>
  have i0:True:=trivial
  unfold ownP at h
  cases q:freeP lt l m x with
  | none=>rw[q] at h; cases h
  | some y=>
   rw[q] at h
   have hp:=free_none q
   obtain⟨tr,tz,dm,dt,K1⟩:=take_is (w:=w) (ba:=ba) (bb:=bb) (fz:=fz) (po:=po) (pd:=pd) (tk:=tk) (k:=T+8) (tf:=tf) (tl:=tl) (tx:=tx) (e1:=e1) n (t+4) (t+3) hm hm' q hp (by omega)
   obtain⟨dm2,dt2,K2⟩:=usedV_is (w:=w) (ba:=ba) (bb:=bb) (tb:=tb) (td:=td) (cn:=cn) (ls:=ls) (T:=T) (e1:=e2) (e2:=e3) (p:=y) (tk:=tr) hc hl hll (n+dm) (t+4+dt+2) (rfl:usedB lc ll y=_)
   dsimp only at h
   cases u:usedB lc ll y with
   | false=>
    rw[u] at h K2
    have e:y=r:=Option.some.inj h
    subst e
    exact⟨_,_,_,_,_,_,_,con_as (ownB0_ok w ba bb fz n t L it ts tq 0 (k+1) y (behP l y) tr tz 0 dm dt dm2 dt2 0 0 sk sd lm tb td cn ls sl ln po pd tk T iss g ti tg l x tf tl tx lt lc ll e1 e2 e3 t0 (ac (cNextR_ok (by omega)) (ac K1 (all1 K2)))) rfl rfl rfl rfl rfl⟩
   | true=>
    rw[u] at h K2
    obtain⟨dm3,dt3,K3⟩:=free_is (w:=w) (ba:=ba) (bb:=bb) (fz:=fz) (po:=po) (pd:=pd) (tk:=tk) (k:=T+8) (l:=l) (x:=behP l y) (tf:=tf) (tl:=tl) (tx:=tz) (lt:=lt++[(y,tr,.bool true)]) (e1:=e1+1) (n+dm+dm2) (t+4+dt+2+dt2+1) tr (pos_last hp)
     (q:=(y,tr,.bool true)) (by simp) rfl (by simp; omega)
    have T1:=ownA0_ok w ba bb fz n t L it ts tq 0 (k+1) y (behP l y) tr tz lt.length dm dt dm2 dt2 dm3 dt3 sk sd lm tb td cn ls sl ln po pd tk T iss g ti tg l x tf tl tx lt lc ll e1 e2 e3 t0 (ac (cNextR_ok (by omega)) (ac K1 (ac K2 (all1 K3))))
    obtain⟨o1,o2,tr',tz',e1',dm',dt',K⟩:=own_loop1 (w:=w) (ba:=ba) (bb:=bb) (fz:=fz) (L:=L) (it:=it) (sk:=sk) (sd:=sd) (lm:=lm) (tb:=tb) (td:=td) (cn:=cn) (ls:=ls) (sl:=sl) (ln:=ln) (po:=po) (pd:=pd) (tk:=tk) (T:=T) (iss:=iss) (ti:=ti) (g:=g) (tg:=tg) (tf:=tf) (tl:=tl) (e2:=e2) (e3:=e3) (t0:=t0) (ts:=ts) (tq:=tq) hc hl hll hm hm' hlt k (0+1) (n+(0+dm+0+dm2+0+dm3+0)) (t+(4+dt+2+dt2+1+dt3+0)) (behP l y) tz (e1+2) (t+1) (t+4+dt) (.int 0 t) (.int y tr) h
    refine⟨o1,o2,tr',tz',e1',(0+dm+0+dm2+0+dm3+0)+dm',(4+dt+2+dt2+1+dt3+0)+dt',turn_con' (C₁:=ownA0_c w n t L it ts tq 0 (k+1) y (behP l y) tr tz lt.length dm dt dm2 dt2 dm3 dt3 sk sd lm tb td cn ls sl ln po pd tk T iss g ti tg l x tf tl tx lt lc ll e1 e2 e3 t0) (rest:=[]) T1 K rfl rfl rfl rfl ?_ rfl rfl rfl rfl⟩
    show _= [_,(it,rIt (0+1) ((k+1:Int) - 1)),_,_,_,_,(tk,dD (dI ((lt++[(y,tr,Value.bool true)]).eraseIdx lt.length)) (e1+2)),_,_,_,_]
    rw[show((k+1:Int) - 1)=k by omega,erase_last]
    rfl
 end
end
def own_c (w:World)(n t:Nat)(sk sd lm tb td cn ls sl ln po pd tk:Addr) (T:Nat)(iss:Int)(ti:Nat) (g:Int)(tg:Nat)(l x:Int)(tf tl tx:Nat)(lt:List Ent)(e1:Nat)(lc:List Ent)(e2:Nat)(ll:List Ent)(e3:Nat)(t0:Nat)(o1 o2:Obj) (r:Int)(tr:Nat) (z:Int)(tz e1' dm dt:Nat):Con:=⟨Code.call (.ref 1309) ⟨[.ref sk,.int 0 t0],[]⟩,n,t,skO w sk sd lm tb td cn ls sl ln po pd tk T iss ti g tg l x tf tl tx lt e1 lc e2 ll e3,[oI 1431 sd,oD w.params 7 [("limits",T,.ref lm),("iss",T+2,.int iss ti),("ports",T+16,.ref po),("table",T+23,.ref tb),("listeners",T+25,.ref sl),("links",T+27,.ref ln),("given",T+30,.int g tg)],oI 161 pd,oD w.params 4 [("first",T+8,.int 29 tf),("last",T+10,.int l tl),("following",T+12,.int z tz),("taken",T+14,.ref tk)],(dD (dI (lt++[(r,tr,Value.bool true)])) e1'),oI 1173 td,oD w.params 2 [("connections",T+19,.ref cn),("listeners",T+21,.ref ls)],(dD (dC w lc) e2),(dD (dL w ll) e3)],[],.ok (.ret (.int r tr)),3+(dm)+0,12+(dt)+0,12⟩
def own_h0:List Nat:=hx 69 [0x4014749803e5c2fe039e50671ae12ba66cd20577754bd3921468969922a5c89faf980f542043781094260e21eac4211198fd49ec5ef24139b511e15470f61daa05375984ca,0x6cbe163ef8d06228b4677486a4b1a1d9ee216]
theorem own_ok (w ba bb fz n t sk sd lm tb td cn ls sl ln po pd tk T iss ti g tg l x tf tl tx lt e1 lc e2 ll e3 t0 o1 o2 r tr z tz e1' dm dt)(hc:∀D∈([cRIter (n+2) (t+12) (n+1) (t+10) (t+9) (t+11) (l - 29+1),cOwnL w (n+3) (t+12) n (n+2) sk sd lm tb td cn ls sl ln po pd tk T iss ti g tg l x tf tl tx lt e1 lc e2 ll e3 0
 (l - 29+1) (oFo2 w t (t+1) sk t0) o1 o2 r tr z tz e1' dm dt]:List Con),ConOk (wR w ba bb) fz D):ConOk (wR w ba bb) fz (own_c w n t sk sd lm tb td cn ls sl ln po pd tk T iss ti g tg l x tf tl tx lt e1 lc e2 ll e3 t0 o1 o2 r tr z tz e1' dm dt):=by
 cases ba<;>exact con_run (N:=146) (m₀:=9) (w0:=0) (u0:=1) (ze:=n+3+dm) (te:=t+12+dt) (hs:=own_h0) (ni:=[]) (by kernel_rfl) rfl rfl (by kernel_rfl) (by show n+3+dm=n+(3+(dm)+0); omega) (by show t+12+dt=t+(12+(dt)+0); omega) (by kernel_rfl) hc nm nm
section
def cOwn (w:World)(n t:Nat)(sk sd lm tb td cn ls sl ln po pd tk:Addr) (T:Nat)(iss:Int)(ti:Nat) (g:Int)(tg:Nat)(l x:Int)(tf tl tx:Nat)(lt:List Ent)(e1:Nat)(lc:List Ent)(e2:Nat)(ll:List Ent)(e3 t0:Nat) (r:Int)(tr:Nat) (z:Int)(tz e1' dm dt:Nat):Con:=
 ⟨Code.call (.ref 1309) ⟨[.ref sk,.int 0 t0],[]⟩,n,t,skO w sk sd lm tb td cn ls sl ln po pd tk T iss ti g tg l x tf tl tx lt e1 lc e2 ll e3,skP w sk sd lm tb td cn ls sl ln po pd tk T iss ti g tg l z tf tl tz (lt++[(r,tr,.bool true)]) e1' lc e2 ll e3,[],.ok (.ret (.int r tr)),dm,dt,12⟩
def cInC (w:World)(n t:Nat) (d:Addr)(lc:List Ent)(ep:Nat)(a b c:Addr) (p:Int)(t1 t2 t3 t4:Nat) (β:Bool):Con:=cIn n t d (dC w lc) ep (.ref a) (isC3 a b c p t1 t2 t3 t4) 7 β
def cSetC (w:World)(n t:Nat) (d:Addr)(lc:List Ent)(ep:Nat)(a b c:Addr) (p:Int)(t1 t2 t3 t4:Nat) (v:Value):Con:=
 ⟨.call (.builtin "dict.__setitem__") ⟨[.ref d,.ref a,v],[]⟩,n,t,(d,dD (dC w lc) ep)::isC3 a b c p t1 t2 t3 t4,dD (dC w (lc++[(p,a,v)])) (ep+1)::(isC3 a b c p t1 t2 t3 t4).map (·.2),[],.ok (.ret .none),0,7,5⟩
def cInL (w:World)(n t:Nat) (d:Addr)(ll:List Ent)(ep:Nat) (a:Addr) (p:Int)(t1 t2:Nat) (β:Bool):Con:=cIn n t d (dL w ll) ep (.ref a) [(a,oT [.int 0 t1,.int p t2])] 3 β
def cSetL (w:World)(n t:Nat) (d:Addr)(ll:List Ent)(ep:Nat) (a:Addr) (p:Int)(t1 t2:Nat) (v:Value):Con:=
 ⟨.call (.builtin "dict.__setitem__") ⟨[.ref d,.ref a,v],[]⟩,n,t,[(d,dD (dL w ll) ep),(a,oT [.int 0 t1,.int p t2])],[dD (dL w (ll++[(p,a,v)])) (ep+1),oT [.int 0 t1,.int p t2]],[],.ok (.ret .none),0,3,5⟩
section
variable {w:World}{fz:Addr->Option Obj}{n t:Nat} {d:Addr}{lc ll:List Ent}{ep:Nat} {p:Int}
theorem FrC.is {x:Ent}(hf:FrC fz x) (h:Heap) (B:BaseOk w fz h):IsC w h x.1 x.2.1:=by
 obtain⟨b,c,t1,tq,t3,t4,h1,h2,h3⟩:=hf
 exact isC_of fun q hq=>by
  cases hq with
  | head=>exact B.fz _ _ h1
  | tail _ hq=>cases hq with
   | head=>exact B.fz _ _ h2
   | tail _ hq=>cases hq with
    | head=>exact B.fz _ _ h3
    | tail _ hq=>cases hq
theorem FrL.is {x:Ent}(hf:FrL fz x) (h:Heap) (B:BaseOk w fz h):IsL w h x.1 x.2.1:=by
 obtain⟨t1,tq,h1⟩:=hf
 exact isL_of (B.fz _ _ h1)
section
variable (hf:∀x∈lc,FrC fz x)(nd:(lc.map (·.1)).Nodup){a b c:Addr}{t1 t2 t3 t4:Nat}
include hf nd
theorem kfC:KfAt w fz d (dC w lc) ep (.ref a) (isC3 a b c p t1 t2 t3 t4) (kC w p) 7 (posP lc p):=kf_conn nd (fun h B x hx=>(hf x hx).is h B) fun h _ hp=>isC_of hp
theorem cInC_ok {β:Bool} (h:(posP lc p).isSome=β):ConOk w fz (cInC w n t d lc ep a b c p t1 t2 t3 t4 β):=by
 subst h
 exact cIn_ok (kfC hf nd) fun i e=>by unfold dC; rw[dE_size]; exact pos_lt e
theorem cSetC_ok {v:Value} (h:posP lc p=none)(hl:lc.length<=60):ConOk w fz (cSetC w n t d lc ep a b c p t1 t2 t3 t4 v):=by
 have kf:KfAt w fz d (dC w lc) ep (.ref a) (isC3 a b c p t1 t2 t3 t4) (kC w p) 7 none:=h▸kfC hf nd
 have K:=cSet_ok (w:=w) (fz:=fz) (n:=n) (t:=t) (v:=v) kf (by unfold dC; rw[dE_size,sizeLine_eq]; omega)
 have e:cSetC w n t d lc ep a b c p t1 t2 t3 t4 v=cSet n t d (dC w lc) ep (.ref a) (isC3 a b c p t1 t2 t3 t4) 7 (kC w p) v:=by
  unfold cSetC cSet
  have:=dE_push (h:=kC w) (k:=fun _ a=>.ref a) (l:=lc) (x:=(p,a,v))
  unfold dC
  rw[<- this]
 rw[e]; exact K
end
section
variable (hf:∀x∈ll,FrL fz x)(nd:(ll.map (·.1)).Nodup) {a:Addr}{t1 t2:Nat}
include hf nd
theorem kfL:KfAt w fz d (dL w ll) ep (.ref a) [(a,oT [.int 0 t1,.int p t2])] (kL w p) 3 (posP ll p):=kf_list nd (fun h B x hx=>(hf x hx).is h B) fun h _ hp=>isL_of (hp _ (.head _))
theorem cInL_ok {β:Bool} (h:(posP ll p).isSome=β):ConOk w fz (cInL w n t d ll ep a p t1 t2 β):=by
 subst h
 exact cIn_ok (kfL hf nd) fun i e=>by unfold dL; rw[dE_size]; exact pos_lt e
theorem cSetL_ok {v:Value} (h:posP ll p=none)(hl:ll.length<=60):ConOk w fz (cSetL w n t d ll ep a p t1 t2 v):=by
 have kf:KfAt w fz d (dL w ll) ep (.ref a) [(a,oT [.int 0 t1,.int p t2])] (kL w p) 3 none:=h▸kfL hf nd
 have K:=cSet_ok (w:=w) (fz:=fz) (n:=n) (t:=t) (v:=v) kf (by unfold dL; rw[dE_size,sizeLine_eq]; omega)
 have e:cSetL w n t d ll ep a p t1 t2 v=cSet n t d (dL w ll) ep (.ref a) [(a,oT [.int 0 t1,.int p t2])] 3 (kL w p) v:=by
  unfold cSetL cSet
  have:=dE_push (h:=kL w) (k:=fun _ a=>.ref a) (l:=ll) (x:=(p,a,v))
  unfold dL
  rw[<- this]
  rfl
 rw[e]; exact K
end
end
theorem own_is {w:World}{ba bb:Bool}{fz:Addr->Option Obj}{sk sd lm tb td cn ls sl ln po pd tk:Addr} {T:Nat}{iss:Int}{ti:Nat} {g:Int}{tg:Nat} {l:Int}{tf tl:Nat}{lt:List Ent}{lc:List Ent}{e2:Nat}{ll:List Ent}{e3 t0:Nat} {m:Nat} {x:Int}{tx e1:Nat}
  (hc:∀x∈lc,FrC fz x) (hl:∀x∈ll,FrL fz x) (hll:ll.length<=30) (hm:l - 29+1=m) (hm':m<=1000) (hlt:lt.length<=50) {r:Int} (n t:Nat) (h:ownP lt lc ll l m m x=some r):∃tr tz e1' dm dt,
  ConOk (wR w ba bb) fz (cOwn w n t sk sd lm tb td cn ls sl ln po pd tk T iss ti g tg l x tf tl tx lt e1 lc e2 ll e3 t0 r tr (behP l r) tz e1' dm dt):=by
 have pos:0 < (m:Int):=by
  cases m with
  | zero=>cases h
  | succ m=>omega
 obtain⟨o1,o2,tr,tz,e1',dm,dt,K⟩:=own_loop (w:=w) (ba:=ba) (bb:=bb) (fz:=fz) (L:=n) (it:=n+2) (sk:=sk) (sd:=sd) (lm:=lm) (tb:=tb) (td:=td) (cn:=cn) (ls:=ls) (sl:=sl) (ln:=ln) (po:=po) (pd:=pd) (tk:=tk) (T:=T) (iss:=iss) (ti:=ti) (g:=g) (tg:=tg) (tf:=tf) (tl:=tl) (e2:=e2) (e3:=e3) (t0:=t0) (ts:=t) (tq:=t+1) (tx:=tx) (e1:=e1) hc hl hll hm hm' hlt (n:=n+3) (t:=t+12) h
 rw[<- hm] at K
 exact⟨_,_,_,_,_,con_as (own_ok w ba bb fz n t sk sd lm tb td cn ls sl ln po pd tk T iss ti g tg l x tf tl tx lt e1 lc e2 ll e3 t0 o1 o2 r tr _ tz e1' dm dt (ac (cRIter_ok (by omega) (by omega)) (all1 K))) rfl rfl rfl rfl rfl⟩
end
def oLm (w:World)(K k:Nat):Obj:=oD w.params 10 [("ring",K,.int 65536 k),("mss",K+2,.int 4 (k+1)),("send_room",K+4,.int 16 (k+2)),("receive_room",K+6,.int 16 (k+3)),("first_timeout",K+8,.int 6 (k+4)),("least_timeout",K+10,.int 4 (k+5)),("most_timeout",K+12,.int 24 (k+6)),("most_tries",K+14,.int 3 (k+7)),("ack_delay",K+16,.int 2 (k+8)),("time_wait",K+18,.int 12 (k+9))]
def opTups (n t:Nat):List (Addr×Obj):=[(n+2,oT [.str "closed" 1297,.str "listen" t]),(n+3,oT [.str "closed" 1297,.str "connect" (t+1)]),(n+4,oT [.str "listen" 1299,.str "connect" (t+2)]),(n+5,oT [.str "listen" 1299,.str "syn" (t+3)]),(n+6,oT [.str "syn sent" 1301,.str "syn" (t+4)]),(n+7,oT [.str "syn sent" 1301,.str "syn ack" (t+5)]),(n+8,oT [.str "syn received" 1303,.str "ack of syn" (t+6)])]
noncomputable def opVs (n:Nat):List (Value×Value):=[(.ref (n+2),.str "listen" 1299),(.ref (n+3),.str "syn sent" 1301),(.ref (n+4),.str "syn sent" 1301),(.ref (n+5),.str "syn received" 1303),(.ref (n+6),.str "syn received" 1303),(.ref (n+7),.str "established" 1305),(.ref (n+8),.str "established" 1305)]
def opAct (n:Nat):Sem Unit:=letI:Monad Sem:=Fast.tw12456147031677567982; Fast.tw17359229931016689406 [.ref (n+1)] (Fast.tw17359229931016689406 (Fast.tw17095254045102204799 (fun x=>match x with | (k,v)=>[k,v]) (opVs n))
 (do
  forIn (opVs n) PUnit.unit fun x _=>(match x with
   | (k,v)=>do
    Fast.tw11925912800584824493 (n+1) k v
    pure (ForInStep.yield PUnit.unit))
  pure ()))
noncomputable def opH:List Nat:=[0,0,0,0,0,0,0,0,0,0,0,0,0,0,0,0,0,0]
def opCd (n t:Nat) (o:Obj)(dt:Nat):Con:=⟨.call (.ref 841) ⟨[],[]⟩,n,t,[],[],(n+1,o)::opTups n t,.ok (.ret (.ref (n+1))),9,dt,6⟩
def envOf (c:Code):Env:=match c with
 | .func _ e=>e
 | _=>default
def opK (f:Flow):Sem Fin:=match f with
 | .ret v=>Fast.tw6905046200447255374 v
 | _=>Fast.tw6905046200447255374 .none
def opAll (e:Env) (n:Nat):Sem Flow:=R.onRaiseR (R.bindR (R.bindR (R.bindR (R.bindR (R.bindR (opAct n) fun _=>Sem.pure (n+1)) fun d=>Sem.pure (some d)) fun o=>(match o with
 | some d=>Sem.pure (Value.ref d)
 | none=>newDict)) fun v=>Sem.pure (Flow.ret v)) fun f=>(match f with
 | .next=>Sem.pure .next
 | f=>Sem.pure f)) fun x=>Fast.tw9442747609961115081 e x
theorem op_test (w:World)(ba bb:Bool)(fz:Addr->Option Obj)(n t:Nat) (o:Obj)(dt:Nat):actL (vOf (wR w ba bb) fz (opCd n t o dt) [] []) (xOf (wR w ba bb) fz (opCd n t o dt) [] [] 65 0 1 opH) (1:: [2,3,4,5,6,7,8])=actR (xOf (wR w ba bb) fz (opCd n t o dt) [] [] 65 0 1 opH) (opAll (envOf (mcf (xOf (wR w ba bb) fz (opCd n t o dt) [] [] 65 0 1 opH)).c) n) opK ((n+1,⟨.type "dict",none,.dict #[] 0,#[]⟩)::opTups n t):=by
 kernel_rfl
section
theorem upd_upd (h:Heap) (d:Addr)(f g:Obj->Obj):(h.update d f).update d g=h.update d fun o=>g (f o):=by
 cases h with
 | mk objs life=>
  show Heap.mk ((objs.modify d f).modify d g) life=Heap.mk (objs.modify d fun o=>g (f o)) life
  congr 1
  apply Array.ext_getElem?
  intro i
  simp only[Array.getElem?_modify]
  split
  ·cases objs[i]?<;>rfl
  ·rfl
theorem upd_id (h:Heap) (d:Addr):(h.update d fun o=>o)=h:=by
 cases h with
 | mk objs life=>
  show Heap.mk (objs.modify d fun o=>o) life=Heap.mk objs life
  congr 1
  apply Array.ext_getElem?
  intro i
  simp only[Array.getElem?_modify]
  split
  ·cases objs[i]?<;>rfl
  ·rfl
section
variable {w:World} {K:Type} [DecidableEq K] {knd:HeapKind P02 w K}
noncomputable def dK (knd:HeapKind P02 w K) (l:List (K×Addr×Value)):Array DictEntry:=⟨l.map fun x=>⟨knd.hash x.1,.ref x.2.1,x.2.2⟩⟩
theorem kf_none {l:List (K×Addr×Value)} {h:Heap}{d a:Addr} {k:K}{ep:Nat}(room:∀A:Around,A.units < cLine - 300->knd.room A)(hd:h.get? d=some (dD (dK knd l) ep))(hl:∀x∈l,knd.is h x.1 x.2.1)(hk:knd.is h k a)(nd:(l.map (·.1)).Nodup)(hn:k∉l.map (·.1)):
  KF w h d (.ref a) (knd.hash k) (knd.draws k) none:=by
 refine⟨fun A E s Q e hu hq=>knd.pyHash (room A hu) (e▸hk) hq,fun A E s Q eq hu hq=>?_⟩
 subst eq
 refine wpAny_dictFind_heap (xs:=l) (room A hu) hk hd rfl rfl hl nd (fun hno=>hq) (fun j q hj=>?_)
 exact absurd (mem_map.mpr ⟨_,mem_of_getElem? hj,rfl⟩) hn
noncomputable def putAll (knd:HeapKind P02 w K) (l:List (K×Addr×Value)) (o:Obj):Obj:=l.foldl (fun o x=>Obj.mapDictKeys (·.push ⟨knd.hash x.1,.ref x.2.1,x.2.2⟩) o) o
theorem map_push (l:List (K×Addr×Value)) (x:K×Addr×Value)(ep:Nat):Obj.mapDictKeys (·.push ⟨knd.hash x.1,.ref x.2.1,x.2.2⟩) (dD (dK knd l) ep)=dD (dK knd (l++[x])) (ep+1):=by
 unfold dD dK Obj.mapDictKeys
 simp
theorem stores_ok {d:Addr}(room:∀A:Around,A.units < cLine - 300->knd.room A) {B:Around}(hu:B.units < cLine - 300):∀ (todo done:List (K×Addr×Value)) (s:Shared)(ep:Nat) (Q:PUnit->Shared->Prop) (E:Value->Shared->Prop),
  s.heap.get? d=some (dD (dK knd done) ep)->(∀x∈done++todo,knd.is s.heap x.1 x.2.1)->((done++todo).map (·.1)).Nodup->(done++todo).length<=60->
  Q PUnit.unit {s with heap:=s.heap.update d (putAll knd todo),toks:=s.toks+(todo.map fun x=>knd.draws x.1).sum}->
  wpAny (model P02 w) B (forIn (todo.map fun x=>(Value.ref x.2.1,x.2.2)) PUnit.unit fun(x:Value×Value) (_:PUnit)=>(do dictSet d x.1 x.2; pure (ForInStep.yield PUnit.unit):Sem (ForInStep PUnit))) Q E s
 | [],done,s,ep,Q,E,hd,hl,nd,hz,hq=>by
  rw[map_nil,List.forIn_nil]
  refine wpAny_pure ?_
  have e:s.heap.update d (putAll knd [])=s.heap:=upd_id ..
  rw[e] at hq
  exact hq
 | x::todo,done,s,ep,Q,E,hd,hl,nd,hz,hq=>by
  rw[map_cons,List.forIn_cons]
  have hx:x∈done++x::todo:=mem_append.mpr (.inr (.head _))
  rw[map_append,map_cons] at nd
  obtain⟨n1,n2,n3⟩:=nodup_append.mp nd
  have kf:=kf_none room hd (fun y hy=>hl y (mem_append.mpr (.inl hy))) (hl x hx) n1 fun hm=>n3 _ hm _ (.head _) rfl
  refine wpAny_bind (wpAny_bind (kf_new hd kf hu (by show(List.map _ done).length<=_; rw[length_map,sizeLine_eq]; rw[length_append] at hz; omega) (wpAny_pure ?_)))
  have sb:Heap.SameBut d s.heap (s.heap.update d (Obj.mapDictKeys (·.push ⟨knd.hash x.1,.ref x.2.1,x.2.2⟩))):=Heap.SameBut.update ..
  refine stores_ok room hu todo (done++[x]) _ (ep+1) Q E ?_ (fun y hy=>knd.keeps (hl y (by simpa using hy)) hd rfl sb) (by simpa using nd) (by simpa using hz) ?_
  ·rw[<- map_push]
   exact Heap.get?_update_self _ hd (by rw[map_push]; rfl)
  ·show Q PUnit.unit {s with heap:=(s.heap.update d _).update d (putAll knd todo),toks:=s.toks+knd.draws x.1+_}
   rw[upd_upd,Nat.add_assoc]
   rw[map_cons,List.sum_cons] at hq
   exact hq
end
end
abbrev sKn (w:World):HeapKind P02 w (List Str):=tupleKind (strKind P02 w)
noncomputable def opL (n:Nat):List (List Str×Addr×Value):=[(["closed","listen"],n+2,.str "listen" 1299),(["closed","connect"],n+3,.str "syn sent" 1301),(["listen","connect"],n+4,.str "syn sent" 1301),(["listen","syn"],n+5,.str "syn received" 1303),(["syn sent","syn"],n+6,.str "syn received" 1303),(["syn sent","syn ack"],n+7,.str "established" 1305),(["syn received","ack of syn"],n+8,.str "established" 1305)]
theorem isS {w:World} {h:Heap} {a:Addr}{x y:Str}{t u:Nat} (e:h.get? a=some (oT [.str x t,.str y u])):(sKn w).is h [x,y] a:=by
 have i1:∀ (z:Str) (t:Nat),(strKind P02 w).is z (.str z t)=true:=fun z t=>by show Value.isStrOf z (.str z t)=true; unfold Value.isStrOf; simp
 exact⟨_,_,_,e,rfl,rfl,.cons (i1 _ _) (.cons (i1 _ _) .nil)⟩
theorem room_s {w:World} (A:Around) (h:A.units < cLine - 300):(sKn w).room A:=by show A.units < cLine; unfold cLine at *; omega
theorem opL_nd (n:Nat):((opL n).map (·.1)).Nodup:=by
 show[(["closed","listen"]:List Str),["closed","connect"],["listen","connect"],["listen","syn"],["syn sent","syn"],["syn sent","syn ack"],["syn received","ack of syn"]].Nodup
 decide+kernel
theorem open_act {w:World} (e:Env)(n t:Nat) {B:Around} {s:Shared} {Q:Flow->Shared->Prop} {E:Value->Shared->Prop}(hu:B.units<=9000)(hx:∀p∈(n+1,(⟨.type "dict",none,.dict #[] 0,#[]⟩:Obj))::opTups n t,s.heap.get? p.1=some p.2)
  (hq:Q (.ret (.ref (n+1))) {s with heap:=s.heap.update (n+1) (putAll (sKn w) (opL n)),toks:=s.toks+21}):wpAny (model P02 w) B (opAll e n) Q E s:=by
 unfold opAll opAct
 rw[<- R.bindR_eq,<- R.onRaiseR_eq,<- Fast.te17359229931016689406,<- Fast.te17095254045102204799,<- Fast.te12456147031677567982,<- Fast.te11925912800584824493]
 refine wpAny_onRaise ?_
 have bi:∀ {α β:Type} {m:Sem α} {f:α->Sem β} {Q:β->Shared->Prop} {E:Value->Shared->Prop} {s:Shared},wpAny (model P02 w) B m (fun a s'=>wpAny (model P02 w) B (f a) Q E s') E s->wpAny (model P02 w) B (Sem.bind m f) Q E s:=fun h=>wpAny_bind h
 refine bi (bi (bi (bi (bi ?_))))
 refine wpAny_holding (wpAny_holding ?_)
 refine wpAny_bind ?_
 refine stores_ok (knd:=sKn w) (d:=n+1) room_s (by unfold cLine; omega) (opL n) [] s 0 _ _ (hx _ (.head _)) (fun x hm=>?_) (opL_nd n) (by show 7<=60; decide) ?_
 ·rcases mem_cons.mp hm with rfl | hm
  ·exact isS (hx (n+2,_) (.tail _ (.head _)))
  rcases mem_cons.mp hm with rfl | hm
  ·exact isS (hx (n+3,_) (.tail _ (.tail _ (.head _))))
  rcases mem_cons.mp hm with rfl | hm
  ·exact isS (hx (n+4,_) (.tail _ (.tail _ (.tail _ (.head _)))))
  rcases mem_cons.mp hm with rfl | hm
  ·exact isS (hx (n+5,_) (.tail _ (.tail _ (.tail _ (.tail _ (.head _))))))
  rcases mem_cons.mp hm with rfl | hm
  ·exact isS (hx (n+6,_) (.tail _ (.tail _ (.tail _ (.tail _ (.tail _ (.head _)))))))
  rcases mem_cons.mp hm with rfl | hm
  ·exact isS (hx (n+7,_) (.tail _ (.tail _ (.tail _ (.tail _ (.tail _ (.tail _ (.head _))))))))
  rcases mem_cons.mp hm with rfl | hm
  ·exact isS (hx (n+8,_) (.tail _ (.tail _ (.tail _ (.tail _ (.tail _ (.tail _ (.tail _ (.head _)))))))))
  cases hm
 ·exact wpAny_pure (wpAny_pure (wpAny_pure (wpAny_pure (wpAny_pure (wpAny_pure hq)))))
def opO (w:World) (n:Nat):Obj:=putAll (sKn w) (opL n) ⟨.type "dict",none,.dict #[] 0,#[]⟩
theorem open_ok (w:World)(ba bb:Bool)(fz:Addr->Option Obj)(n t:Nat):ConOk (wR w ba bb) fz (opCd n t (opO (wR w ba bb) n) 28):=by
 exact act_run (N:=65) (N₂:=4) (m₀:=0) (w0:=0) (u0:=1) (ze:=n+9) (te:=t+28) (j:=1) (dr:=21) (hs:=opH) (hs₂:=[]) (js:=[2,3,4,5,6,7,8]) (ni:=[1,2,3,4,5,6,7,8]) (d:=n+1) (o:=⟨.type "dict",none,.dict #[] 0,#[]⟩) (f:=putAll (sKn (wR w ba bb)) (opL n)) (xs:=opTups n t)
  (act:=opAll (envOf (mcf (xOf (wR w ba bb) fz (opCd n t (opO (wR w ba bb) n) 28) [] [] 65 0 1 opH)).c) n) (K:=opK) (a₀:=.ret (.ref (n+1)))
  (by kernel_rfl) rfl rfl (by kernel_rfl) rfl rfl (op_test w ba bb fz n t _ 28) (by kernel_rfl) nm nm rfl fun B s Q Er hu _ _ hx hq=>open_act _ n t hu hx hq
section
section
variable {w:World} {K:Type} [DecidableEq K] {knd:HeapKind P02 w K}
theorem kf_at {l:List (K×Addr×Value)} {h:Heap}{d a:Addr} {i:Nat} {x:K×Addr×Value}{ep:Nat}(room:∀A:Around,A.units < cLine - 300->knd.room A)(hd:h.get? d=some (dD (dK knd l) ep))(hl:∀x∈l,knd.is h x.1 x.2.1)(hx:l[i]?=some x)(hk:knd.is h x.1 a)(nd:(l.map (·.1)).Nodup):
  KF w h d (.ref a) (knd.hash x.1) (knd.draws x.1) (some i):=by
 refine⟨fun A E s Q e hu hq=>knd.pyHash (room A hu) (e▸hk) hq,fun A E s Q eq hu hq=>?_⟩
 subst eq
 refine wpAny_dictFind_heap (xs:=l) (room A hu) hk hd rfl rfl hl nd (fun hno=>absurd hx (hno i _)) (fun j q hj=>?_)
 have f1:(l.map (·.1))[i]?=some x.1:=by rw[getElem?_map,hx]; rfl
 have f2:(l.map (·.1))[j]?=some x.1:=by rw[getElem?_map,hj]; rfl
 have:i=j:=(List.getElem?_inj (List.getElem?_eq_some_iff.mp f1).1 nd).mp (f1.trans f2.symm)
 rw[<- this]; exact hq
end
section
variable {w:World}{fz:Addr->Option Obj}{n t:Nat} {d:Addr}{es:Array DictEntry}{ep:Nat} {k:Value}{ex:Objs}{hsh:Int}{dr:Nat}
def cGetD (n t:Nat) (d:Addr)(es:Array DictEntry)(ep:Nat) (k:Value)(ex:Objs)(dr:Nat) (v:Value):Con:=⟨.call (.builtin "dict.get") ⟨[.ref d,k],[]⟩,n,t,(d,dD es ep)::ex,dD es ep::ex.map (·.2),[],.ok (.ret v),0,dr,5⟩
theorem cGetD_ok {i:Nat} {e:DictEntry}(kf:KfAt w fz d es ep k ex hsh dr (some i))(he:es[i]?=some e):ConOk w fz (cGetD n t d es ep k ex dr e.val):=by
 intro A s hA ap B hsz ht hp R hR
 have hd:=hp _ (.head _)
 have hR:=hR _ (.same hsz hp rfl rfl rfl)
 rw[<- ht] at hR
 refine code_entry PySem.F.slot_dict_get (dict_is hd) PySem.F.entry_dict_get (PySem.F.args_dict_get_2 _ _) ?_
 unfold Builtin.«dict.get»
 refine wpAny_bind ?_
 unfold Builtin.Dict.keyAndDefault
 refine wpAny_bind (wpAny_notOrdered_dict (dict_is hd) ?_)
 show wpAny _ _ (pure (d,k,none)) _ _ s
 refine wpAny_pure ?_
 refine wpAny_bind (kf_get hd (kf _ B hp) (units_in hA) ?_)
 rw[Option.bind_some,he]
 exact wpAny_bind (wpAny_pure (wpAny_pure ⟨e.val,rfl,hR⟩))
end
end
def cOpGet (w:World)(m tb n t:Nat) (a:Addr)(t1 t2:Nat):Con:=⟨.call (.builtin "dict.get") ⟨[.ref (m+1),.ref a],[]⟩,n,t,(m+1,opO w m)::(a,oT [.str "closed" t1,.str "connect" t2])::opTups m tb,opO w m::oT [.str "closed" t1,.str "connect" t2]::(opTups m tb).map (·.2),[],.ok (.ret (.str "syn sent" 1301)),0,3,5⟩
theorem cOpGet_ok {w:World}{fz:Addr->Option Obj}{m tb n t:Nat} {a:Addr}{t1 t2:Nat}:ConOk w fz (cOpGet w m tb n t a t1 t2):=by
 have kf:KfAt w fz (m+1) (dK (sKn w) (opL m)) 7 (.ref a) ((a,oT [.str "closed" t1,.str "connect" t2])::opTups m tb) ((sKn w).hash ["closed","connect"]) 3 (some 1):=by
  intro h B hp
  refine kf_at (knd:=sKn w) (l:=opL m) (x:=(["closed","connect"],m+3,.str "syn sent" 1301)) room_s (hp _ (.head _)) (fun x hm=>?_) rfl (isS (hp _ (.tail _ (.head _)))) (opL_nd m)
  have hx:∀p∈opTups m tb,h.get? p.1=some p.2:=fun p hm=>hp p (.tail _ (.tail _ hm))
  rcases mem_cons.mp hm with rfl | hm
  ·exact isS (hx (m+2,_) (.head _))
  rcases mem_cons.mp hm with rfl | hm
  ·exact isS (hx (m+3,_) (.tail _ (.head _)))
  rcases mem_cons.mp hm with rfl | hm
  ·exact isS (hx (m+4,_) (.tail _ (.tail _ (.head _))))
  rcases mem_cons.mp hm with rfl | hm
  ·exact isS (hx (m+5,_) (.tail _ (.tail _ (.tail _ (.head _)))))
  rcases mem_cons.mp hm with rfl | hm
  ·exact isS (hx (m+6,_) (.tail _ (.tail _ (.tail _ (.tail _ (.head _))))))
  rcases mem_cons.mp hm with rfl | hm
  ·exact isS (hx (m+7,_) (.tail _ (.tail _ (.tail _ (.tail _ (.tail _ (.head _)))))))
  rcases mem_cons.mp hm with rfl | hm
  ·exact isS (hx (m+8,_) (.tail _ (.tail _ (.tail _ (.tail _ (.tail _ (.tail _ (.head _))))))))
  cases hm
 exact cGetD_ok (n:=n) (t:=t) kf (e:=⟨(sKn w).hash ["closed","connect"],.ref (m+3),.str "syn sent" 1301⟩) rfl
noncomputable def follow_c (w:World)(n t:Nat)(s1 s2:Nat):Con:=⟨Code.call (.ref 855) ⟨[.str "closed" s1,.str "connect" s2],[]⟩,n,t,[],[],[],.ok (.ret (.str ("syn sent") 1301)),11,37,7⟩
def follow_h0:List Nat:=hx 26 [0xc62e12328e0ace8ca92937fbcd768951f7aa88d38b35d774e4168]
theorem follow_ok (w ba bb fz n t s1 s2)(hc:∀D∈([opCd (n+1) (t+5) (opO (wR w ba bb) (n+1)) 28,cOpGet (wR w ba bb) (n+1) (t+5) (n+11) (t+33) (n+10) s1 s2]:List Con),ConOk (wR w ba bb) fz D):ConOk (wR w ba bb) fz (follow_c w n t s1 s2):=by
 cases ba<;>exact con_run (N:=82) (m₀:=0) (w0:=0) (u0:=1) (ze:=n+11) (te:=t+37) (hs:=follow_h0) (ni:=[]) (by kernel_rfl) rfl rfl (by kernel_rfl) rfl rfl (by kernel_rfl) hc nm nm
def cFollow (n t s1 s2:Nat):Con:=⟨Code.call (.ref 855) ⟨[.str "closed" s1,.str "connect" s2],[]⟩,n,t,[],[],[],.ok (.ret (.str "syn sent" 1301)),11,37,8⟩
theorem follow_is (w:World)(ba bb:Bool)(fz:Addr->Option Obj)(n t s1 s2:Nat):ConOk (wR w ba bb) fz (cFollow n t s1 s2):=
 con_as (follow_ok w ba bb fz n t s1 s2 (ac (open_ok w ba bb fz (n+1) (t+5)) (all1 cOpGet_ok))) rfl rfl rfl rfl rfl
def bdF:Stmt->List Stmt
 | .For _ _ bd _ _=>bd
 | _=>[]
def remX (w:World):Expr:=exAt (at1 (bdF (at1 (bodyF w.params 1153) 1)) 0)
def remC (st:Bool) (w:World)(L LC cr co it acc:Addr):Code:=compC st (remX w) (envF w.params 1153 L []) LC [("rows",cr),("owner",co)] (.ref it) (.ref acc)
def remS_c (w:World)(n t:Nat)(L LC cr co it d acc ka:Addr)(i dr:Nat)(es:Array DictEntry)(ep:Nat)(vs:List Value)(ea:Nat)(z q:Int)(tz tq:Nat):Con:=⟨remC true w L LC cr co it acc,n,t,[(LC,oD0),(it,kIt d i es.size ep),(d,dD es ep),(acc,oL0 vs ea),(cr,oCell (.ref d)),(co,oCell (.int z tz))],[(dD #[] 0),⟨.type "dict_keyiterator",none,.fields #[.ref d,.int ↑i 0,.int ↑es.size 0,.int ↑ep 0],#[]⟩,(dD es ep),(oL0 (vs) ea),(oCell (.ref d)),(oCell (.int z tz))],[],.ok .next,0,0,1⟩
def remS_h0:List Nat:=[3,3,0,3,0,53,3,1]
def remS_h1:List Nat:=[1]
theorem remS_ok (w ba bb fz n t L LC cr co it d acc ka i dr es ep vs ea z q tz tq):TurnOk (wR w ba bb) fz (remS_c w n t L LC cr co it d acc ka i dr es ep vs ea z q tz tq) (remC false w L LC cr co it acc):=by
 cases bb
 ·cases ba<;>exact turn_run (N:=17) (m₀:=6) (w0:=0) (u0:=0) (ze:=n) (te:=t) (hs:=remS_h0) (ni:=[]) (by kernel_rfl) rfl rfl (by kernel_rfl) rfl rfl (by kernel_rfl) nm nm nm
 ·cases ba<;>exact turn_run (N:=7) (m₀:=6) (w0:=0) (u0:=0) (ze:=n) (te:=t) (hs:=remS_h1) (ni:=[]) (by kernel_rfl) rfl rfl (by kernel_rfl) rfl rfl (by kernel_rfl) nm nm nm
def remM0_c (w:World)(n t:Nat)(L LC cr co it d acc ka:Addr)(i dr:Nat)(es:Array DictEntry)(ep:Nat)(vs:List Value)(ea:Nat)(z q:Int)(tz tq:Nat):Con:=⟨remC false w L LC cr co it acc,n,t,[(LC,oD0),(it,kIt d i es.size ep),(d,dD es ep),(acc,oL0 vs ea),(cr,oCell (.ref d)),(co,oCell (.int z tz))],[oD w.params 1 [("key",t,.ref ka)],⟨.type "dict_keyiterator",none,.fields #[.ref d,.int (↑(i+1)) 0,.int ↑es.size 0,.int ↑ep 0],#[]⟩,(dD es ep),(oL0 (vs) ea),(oCell (.ref d)),(oCell (.int z tz))],[],.ok .next,0+(0)+0,1+(dr)+0,5⟩
def remM0_h0:List Nat:=hx 11 [0x2ace520c10df057521]
theorem remM0_ok (w ba bb fz n t L LC cr co it d acc ka i dr es ep vs ea z q tz tq)(hc:∀D∈([cNextK n t it d i es ep (.ref ka),cGet n (t+1) d es ep (.ref ka) [] dr (.int q tq)]:List Con),ConOk (wR w ba bb) fz D) (hb:∀b∈([(q == z,false)]:List (Bool×Bool)),b.1=b.2):TurnOk (wR w ba bb) fz (remM0_c w n t L LC cr co it d acc ka i dr es ep vs ea z q tz tq) (remC false w L LC cr co it acc):=by
 cases ba<;>exact turn_run (N:=33) (m₀:=6) (w0:=0) (u0:=0) (ze:=n) (te:=t+1+dr) (hs:=remM0_h0) (ni:=[]) (by kernel_rfl) rfl rfl (by kernel_rfl) (by show n=n+(0+(0)+0); omega) (by show t+1+dr=t+(1+(dr)+0); omega) (by kernel_rfl) hc nm hb
def remH0_c (w:World)(n t:Nat)(L LC cr co it d acc ka:Addr)(i dr:Nat)(es:Array DictEntry)(ep:Nat)(vs:List Value)(ea:Nat)(z q:Int)(tz tq:Nat):Con:=⟨remC false w L LC cr co it acc,n,t,[(LC,oD0),(it,kIt d i es.size ep),(d,dD es ep),(acc,oL0 vs ea),(cr,oCell (.ref d)),(co,oCell (.int z tz))],[oD w.params 1 [("key",t,.ref ka)],⟨.type "dict_keyiterator",none,.fields #[.ref d,.int (↑(i+1)) 0,.int ↑es.size 0,.int ↑ep 0],#[]⟩,(dD es ep),(oL0 (vs++[Value.ref ka]) (ea+1)),(oCell (.ref d)),(oCell (.int z tz))],[],.ok .next,0+(0)+0,1+(dr)+0,5⟩
def remH0_h0:List Nat:=hx 11 [0x917fb790b4ba2cb129667]
theorem remH0_ok (w ba bb fz n t L LC cr co it d acc ka i dr es ep vs ea z q tz tq)(hc:∀D∈([cNextK n t it d i es ep (.ref ka),cGet n (t+1) d es ep (.ref ka) [] dr (.int q tq),cApp n (t+1+dr) acc vs ea (.ref ka)]:List Con),ConOk (wR w ba bb) fz D) (hb:∀b∈([(q == z,true)]:List (Bool×Bool)),b.1=b.2):TurnOk (wR w ba bb) fz (remH0_c w n t L LC cr co it d acc ka i dr es ep vs ea z q tz tq) (remC false w L LC cr co it acc):=by
 cases ba<;>exact turn_run (N:=36) (m₀:=6) (w0:=0) (u0:=0) (ze:=n) (te:=t+1+dr) (hs:=remH0_h0) (ni:=[]) (by kernel_rfl) rfl rfl (by kernel_rfl) (by show n=n+(0+(0)+0); omega) (by show t+1+dr=t+(1+(dr)+0); omega) (by kernel_rfl) hc nm hb
def remF0_c (w:World)(n t:Nat)(L LC cr co it d acc ka:Addr)(i dr:Nat)(es:Array DictEntry)(ep:Nat)(vs:List Value)(ea:Nat)(z q:Int)(tz tq:Nat):Con:=⟨remC false w L LC cr co it acc,n,t,[(LC,oD0),(it,kIt d es.size es.size ep),(d,dD es ep),(acc,oL0 vs ea),(cr,oCell (.ref d)),(co,oCell (.int z tz))],[(dD #[] 0),⟨.type "dict_keyiterator",none,.fields #[.none,.int ↑es.size 0,.int ↑es.size 0,.int ↑ep 0],#[]⟩,(dD es ep),(oL0 (vs) ea),(oCell (.ref d)),(oCell (.int z tz))],[],.ok .next,2,0,5⟩
def remF0_h0:List Nat:=[3,4,0,1,2,9]
theorem remF0_ok (w ba bb fz n t L LC cr co it d acc ka i dr es ep vs ea z q tz tq)(hc:∀D∈([cEndK n t it d es ep]:List Con),ConOk (wR w ba bb) fz D):ConOk (wR w ba bb) fz (remF0_c w n t L LC cr co it d acc ka i dr es ep vs ea z q tz tq):=by
 exact con_run (N:=10) (m₀:=6) (w0:=0) (u0:=0) (ze:=n+2) (te:=t) (hs:=remF0_h0) (ni:=[]) (by kernel_rfl) rfl rfl (by kernel_rfl) rfl rfl (by kernel_rfl) hc nm nm
def remM1_c (w:World)(n t:Nat)(L LC cr co it d acc ka:Addr)(i dr:Nat)(es:Array DictEntry)(ep:Nat)(vs:List Value)(ea:Nat)(z q:Int)(tz tq:Nat)(tl:Nat) (v:Value):Con:=⟨remC false w L LC cr co it acc,n,t,[(LC,oD w.params 1 [("key",tl,v)]),(it,kIt d i es.size ep),(d,dD es ep),(acc,oL0 vs ea),(cr,oCell (.ref d)),(co,oCell (.int z tz))],[oD w.params 1 [("key",tl,.ref ka)],⟨.type "dict_keyiterator",none,.fields #[.ref d,.int (↑(i+1)) 0,.int ↑es.size 0,.int ↑ep 0],#[]⟩,(dD es ep),(oL0 (vs) ea),(oCell (.ref d)),(oCell (.int z tz))],[],.ok .next,0+(0)+0,1+(dr)+0,5⟩
theorem remM1_ok (w ba bb fz n t L LC cr co it d acc ka i dr es ep vs ea z q tz tq tl v)(hc:∀D∈([cNextK n t it d i es ep (.ref ka),cGet n (t+1) d es ep (.ref ka) [] dr (.int q tq)]:List Con),ConOk (wR w ba bb) fz D) (hb:∀b∈([(q == z,false)]:List (Bool×Bool)),b.1=b.2):TurnOk (wR w ba bb) fz (remM1_c w n t L LC cr co it d acc ka i dr es ep vs ea z q tz tq tl v) (remC false w L LC cr co it acc):=by
 cases ba<;>exact turn_run (N:=33) (m₀:=6) (w0:=0) (u0:=0) (ze:=n) (te:=t+1+dr) (hs:=remM0_h0) (ni:=[]) (by kernel_rfl) rfl rfl (by kernel_rfl) (by show n=n+(0+(0)+0); omega) (by show t+1+dr=t+(1+(dr)+0); omega) (by kernel_rfl) hc nm hb
def remH1_c (w:World)(n t:Nat)(L LC cr co it d acc ka:Addr)(i dr:Nat)(es:Array DictEntry)(ep:Nat)(vs:List Value)(ea:Nat)(z q:Int)(tz tq:Nat)(tl:Nat) (v:Value):Con:=⟨remC false w L LC cr co it acc,n,t,[(LC,oD w.params 1 [("key",tl,v)]),(it,kIt d i es.size ep),(d,dD es ep),(acc,oL0 vs ea),(cr,oCell (.ref d)),(co,oCell (.int z tz))],[oD w.params 1 [("key",tl,.ref ka)],⟨.type "dict_keyiterator",none,.fields #[.ref d,.int (↑(i+1)) 0,.int ↑es.size 0,.int ↑ep 0],#[]⟩,(dD es ep),(oL0 (vs++[Value.ref ka]) (ea+1)),(oCell (.ref d)),(oCell (.int z tz))],[],.ok .next,0+(0)+0,1+(dr)+0,5⟩
theorem remH1_ok (w ba bb fz n t L LC cr co it d acc ka i dr es ep vs ea z q tz tq tl v)(hc:∀D∈([cNextK n t it d i es ep (.ref ka),cGet n (t+1) d es ep (.ref ka) [] dr (.int q tq),cApp n (t+1+dr) acc vs ea (.ref ka)]:List Con),ConOk (wR w ba bb) fz D) (hb:∀b∈([(q == z,true)]:List (Bool×Bool)),b.1=b.2):TurnOk (wR w ba bb) fz (remH1_c w n t L LC cr co it d acc ka i dr es ep vs ea z q tz tq tl v) (remC false w L LC cr co it acc):=by
 cases ba<;>exact turn_run (N:=36) (m₀:=6) (w0:=0) (u0:=0) (ze:=n) (te:=t+1+dr) (hs:=remH0_h0) (ni:=[]) (by kernel_rfl) rfl rfl (by kernel_rfl) (by show n=n+(0+(0)+0); omega) (by show t+1+dr=t+(1+(dr)+0); omega) (by kernel_rfl) hc nm hb
def remF1_c (w:World)(n t:Nat)(L LC cr co it d acc ka:Addr)(i dr:Nat)(es:Array DictEntry)(ep:Nat)(vs:List Value)(ea:Nat)(z q:Int)(tz tq:Nat)(tl:Nat) (v:Value):Con:=⟨remC false w L LC cr co it acc,n,t,[(LC,oD w.params 1 [("key",tl,v)]),(it,kIt d es.size es.size ep),(d,dD es ep),(acc,oL0 vs ea),(cr,oCell (.ref d)),(co,oCell (.int z tz))],[oD w.params 1 [("key",tl,v)],⟨.type "dict_keyiterator",none,.fields #[.none,.int ↑es.size 0,.int ↑es.size 0,.int ↑ep 0],#[]⟩,(dD es ep),(oL0 (vs) ea),(oCell (.ref d)),(oCell (.int z tz))],[],.ok .next,2,0,5⟩
theorem remF1_ok (w ba bb fz n t L LC cr co it d acc ka i dr es ep vs ea z q tz tq tl v)(hc:∀D∈([cEndK n t it d es ep]:List Con),ConOk (wR w ba bb) fz D):ConOk (wR w ba bb) fz (remF1_c w n t L LC cr co it d acc ka i dr es ep vs ea z q tz tq tl v):=by
 exact con_run (N:=10) (m₀:=6) (w0:=0) (u0:=0) (ze:=n+2) (te:=t) (hs:=remF0_h0) (ni:=[]) (by kernel_rfl) rfl rfl (by kernel_rfl) rfl rfl (by kernel_rfl) hc nm nm
section
noncomputable def hitsL (l:List Ent) (z:Int):List Value:=(l.filter fun x=>intV x.2.2 == z).map fun x=>.ref x.2.1
theorem hits_cons {x:Ent} {l:List Ent} {z:Int}:hitsL (x::l) z=if intV x.2.2 == z then .ref x.2.1::hitsL l z else hitsL l z:=by
 unfold hitsL
 rw[filter_cons]
 cases q:(intV x.2.2 == z)<;>simp
def cRemC (w:World)(n t:Nat)(L LC cr co it d acc:Addr)(es:Array DictEntry)(ep:Nat) (z:Int)(tz:Nat)(d':Obj)(hs:List Value)(ea dm dt:Nat):Con:=
 ⟨remC true w L LC cr co it acc,n,t,[(LC,oD0),(it,kIt d 0 es.size ep),(d,dD es ep),(acc,oL0 [] 0),(cr,oCell (.ref d)),(co,oCell (.int z tz))],[d',oK3e "dict_keyiterator" es.size es.size ep,dD es ep,oL0 hs ea,oCell (.ref d),oCell (.int z tz)],[],.ok .next,dm,dt,5⟩
section
variable {w:World}{ba bb:Bool}{fz:Addr->Option Obj}{L LC cr co it d acc:Addr}{dr:Nat}{es:Array DictEntry}{ep:Nat} {z:Int}{tz:Nat}{lc:List Ent}
structure TabE (w:World)(fz:Addr->Option Obj) (d:Addr)(dr:Nat)(es:Array DictEntry)(ep:Nat)(lc:List Ent):Prop where
 size:es.size=lc.length
 at_:∀ (i:Nat) (x:Ent),lc[i]?=some x->∃h:Int,es[i]?=some ({hash:=h,key:=.ref x.2.1,val:=x.2.2}:DictEntry)
 get:∀x∈lc,∀n t,ConOk w fz (cGet n t d es ep (.ref x.2.1) [] dr x.2.2)
 num:∀x∈lc,IsI x.2.2
 len:lc.length<=50
theorem rem_comp1 (H:TabE (wR w ba bb) fz d dr es ep lc):∀k i n t ea tl v vs,i+k=lc.length->vs.length<=i->∃dm dt tl' v',ConOk (wR w ba bb) fz
  ⟨remC false w L LC cr co it acc,n,t,[(LC,oD w.params 1 [("key",tl,v)]),(it,kIt d i es.size ep),(d,dD es ep),(acc,oL0 vs ea),(cr,oCell (.ref d)),(co,oCell (.int z tz))],[oD w.params 1 [("key",tl',v')],oK3e "dict_keyiterator" es.size es.size ep,dD es ep,oL0 (vs++hitsL (lc.drop i) z) (ea+(hitsL (lc.drop i) z).length),oCell (.ref d),oCell (.int z tz)],[],.ok .next,dm,dt,5⟩
 | 0,i,n,t,ea,tl,v,vs,e,hv=>by
  rw[show lc.drop i= [] from List.drop_eq_nil_of_le (by omega),show hitsL [] z= [] from rfl,append_nil,show i=es.size by rw[H.size]; omega]
  exact⟨_,_,_,_,remF1_ok w ba bb fz n t L LC cr co it d acc 0 0 0 es ep vs ea z 0 tz 0 tl v (all1 cEndK_ok)⟩
 | k+1,i,n,t,ea,tl,v,vs,e,hv=>by
  have hi:i < lc.length:=by omega
  have hd:lc.drop i=lc[i]::lc.drop (i+1):=List.drop_eq_getElem_cons hi
  obtain⟨hh,hg⟩:=H.at_ i lc[i] (List.getElem?_eq_getElem hi)
  obtain⟨q,tq,hq⟩:=H.num _ (getElem_mem hi)
  have G:=H.get _ (getElem_mem hi) n (t+1)
  have len:=H.len
  rw[hd,hits_cons,hq]
  rw[hq] at G
  cases b:(q == z) with
  | false=>
   obtain⟨dm,dt,tl',v',K⟩:=rem_comp1 H k (i+1) n (t+(1+dr+0)) ea tl (.ref lc[i].2.1) vs (by omega) (by omega)
   have T:=remM1_ok w ba bb fz n t L LC cr co it d acc lc[i].2.1 i dr es ep vs ea z q tz tq tl v (all2 (cNextK_ok hg) G) (all1 b)
   rw[if_neg (by show ¬ (q == z)=true; rw[b]; exact Bool.false_ne_true)]
   exact⟨0+0+0+dm,1+dr+0+dt,tl',v',turn_con' (C₁:=remM1_c w n t L LC cr co it d acc lc[i].2.1 i dr es ep vs ea z q tz tq tl v) (rest:=[]) T K rfl rfl rfl rfl rfl rfl rfl rfl rfl⟩
  | true=>
   obtain⟨dm,dt,tl',v',K⟩:=rem_comp1 H k (i+1) n (t+(1+dr+0)) (ea+1) tl (.ref lc[i].2.1) (vs++[.ref lc[i].2.1]) (by omega) (by rw[length_append]; simp; omega)
   have T:=remH1_ok w ba bb fz n t L LC cr co it d acc lc[i].2.1 i dr es ep vs ea z q tz tq tl v (ac (cNextK_ok hg) (all2 G (cApp_ok (by omega)))) (all1 b)
   rw[if_pos (by show(q == z)=true; exact b),show vs++.ref lc[i].2.1::hitsL (lc.drop (i+1)) z=vs++[.ref lc[i].2.1]++hitsL (lc.drop (i+1)) z by simp,length_cons,show ea+((hitsL (lc.drop (i+1)) z).length+1)=ea+1+(hitsL (lc.drop (i+1)) z).length by omega]
   exact⟨0+0+0+dm,1+dr+0+dt,tl',v',turn_con' (C₁:=remH1_c w n t L LC cr co it d acc lc[i].2.1 i dr es ep vs ea z q tz tq tl v) (rest:=[]) T K rfl rfl rfl rfl rfl rfl rfl rfl rfl⟩
theorem rem_comp (H:TabE (wR w ba bb) fz d dr es ep lc){n t:Nat}:∃dm dt d',((lc= []/\d'=oD0)\/∃tl v,d'=oD w.params 1 [("key",tl,v)])/\ConOk (wR w ba bb) fz (cRemC w n t L LC cr co it d acc es ep z tz d' (hitsL lc z) (hitsL lc z).length dm dt):=by
 have S:=remS_ok w ba bb fz n t L LC cr co it d acc 0 0 0 es ep [] 0 z 0 tz 0
 cases lc with
 | nil=>
  have e0:es.size=0:=H.size
  have K:=remF0_ok w ba bb fz n t L LC cr co it d acc 0 0 0 es ep [] 0 z 0 tz 0 (all1 cEndK_ok)
  exact⟨0+_,0+_,_,.inl ⟨rfl,rfl⟩,turn_con' (C₁:=remS_c w n t L LC cr co it d acc 0 0 0 es ep [] 0 z 0 tz 0) (rest:=[]) S K rfl rfl rfl rfl (by rw[show(remF0_c w n t L LC cr co it d acc 0 0 0 es ep [] 0 z 0 tz 0).pre= [(LC,oD0),(it,kIt d es.size es.size ep),(d,dD es ep),(acc,oL0 [] 0),(cr,oCell (.ref d)),(co,oCell (.int z tz))] from rfl]; show _= [(LC,oD0),(it,kIt d 0 es.size ep),(d,dD es ep),(acc,oL0 [] 0),(cr,oCell (.ref d)),(co,oCell (.int z tz))]; rw[e0]) rfl rfl rfl rfl⟩
 | cons x l=>
  obtain⟨hh,hg⟩:=H.at_ 0 x rfl
  obtain⟨q,tq,hq⟩:=H.num x (.head _)
  have G:=H.get x (.head _) n (t+1)
  have len:(x::l).length<=50:=H.len
  rw[hits_cons,hq]
  rw[hq] at G
  cases b:(q == z) with
  | false=>
   obtain⟨dm,dt,tl',v',K⟩:=rem_comp1 (L:=L) (LC:=LC) (cr:=cr) (co:=co) (it:=it) (acc:=acc) (z:=z) (tz:=tz) H l.length 1 n (t+(1+dr+0)) 0 t (.ref x.2.1) [] (by rw[length_cons]; omega) (Nat.zero_le _)
   rw[show(x::l).drop 1=l from rfl,nil_append,Nat.zero_add] at K
   have T:=remM0_ok w ba bb fz n t L LC cr co it d acc x.2.1 0 dr es ep [] 0 z q tz tq (all2 (cNextK_ok hg) G) (all1 b)
   rw[if_neg (by show ¬ (q == z)=true; rw[b]; exact Bool.false_ne_true)]
   have K₂:ConOk (wR w ba bb) fz ⟨remC false w L LC cr co it acc,n,t,[(LC,oD0),(it,kIt d 0 es.size ep),(d,dD es ep),(acc,oL0 [] 0),(cr,oCell (.ref d)),(co,oCell (.int z tz))],[oD w.params 1 [("key",tl',v')],oK3e "dict_keyiterator" es.size es.size ep,dD es ep,oL0 (hitsL l z) (hitsL l z).length,oCell (.ref d),oCell (.int z tz)],[],.ok .next,0+0+0+dm,1+dr+0+dt,5⟩:=
    turn_con' (C₁:=remM0_c w n t L LC cr co it d acc x.2.1 0 dr es ep [] 0 z q tz tq) (rest:=[]) T K rfl rfl rfl rfl rfl rfl rfl rfl rfl
   exact⟨0+(0+0+0+dm),0+(1+dr+0+dt),_,.inr ⟨tl',v',rfl⟩,turn_con' (C₁:=remS_c w n t L LC cr co it d acc 0 0 0 es ep [] 0 z 0 tz 0) (rest:=[]) S K₂ rfl rfl rfl rfl rfl rfl rfl rfl rfl⟩
  | true=>
   obtain⟨dm,dt,tl',v',K⟩:=rem_comp1 (L:=L) (LC:=LC) (cr:=cr) (co:=co) (it:=it) (acc:=acc) (z:=z) (tz:=tz) H l.length 1 n (t+(1+dr+0)) 1 t (.ref x.2.1) [.ref x.2.1] (by rw[length_cons]; omega) (le_refl _)
   rw[show(x::l).drop 1=l from rfl,show[Value.ref x.2.1]++hitsL l z=.ref x.2.1::hitsL l z from rfl,show 1+(hitsL l z).length=(.ref x.2.1::hitsL l z:List Value).length by rw[length_cons,Nat.add_comm]] at K
   have T:=remH0_ok w ba bb fz n t L LC cr co it d acc x.2.1 0 dr es ep [] 0 z q tz tq (ac (cNextK_ok hg) (all2 G (cApp_ok (by decide)))) (all1 b)
   rw[if_pos (by show(q == z)=true; exact b)]
   have K₂:ConOk (wR w ba bb) fz ⟨remC false w L LC cr co it acc,n,t,[(LC,oD0),(it,kIt d 0 es.size ep),(d,dD es ep),(acc,oL0 [] 0),(cr,oCell (.ref d)),(co,oCell (.int z tz))],[oD w.params 1 [("key",tl',v')],oK3e "dict_keyiterator" es.size es.size ep,dD es ep,oL0 (.ref x.2.1::hitsL l z) (.ref x.2.1::hitsL l z:List Value).length,oCell (.ref d),oCell (.int z tz)],[],.ok .next,0+0+0+dm,1+dr+0+dt,5⟩:=
    turn_con' (C₁:=remH0_c w n t L LC cr co it d acc x.2.1 0 dr es ep [] 0 z q tz tq) (rest:=[]) T K rfl rfl rfl rfl rfl rfl rfl rfl rfl
   exact⟨0+(0+0+0+dm),0+(1+dr+0+dt),_,.inr ⟨tl',v',rfl⟩,turn_con' (C₁:=remS_c w n t L LC cr co it d acc 0 0 0 es ep [] 0 z 0 tz 0) (rest:=[]) S K₂ rfl rfl rfl rfl rfl rfl rfl rfl rfl⟩
end
end
def cPopE (n t:Nat) (d:Addr)(es es':Array DictEntry)(ep:Nat) (a:Addr)(dr:Nat) (v:Value):Con:=⟨.call (.builtin "dict.pop") ⟨[.ref d,.ref a],[]⟩,n,t,[(d,dD es ep)],[dD es' (ep+1)],[],.ok (.ret v),0,dr,5⟩
def remA0_c (w:World)(n t:Nat)(tb td cn ls:Addr) (T:Nat)(es1 es2 es':Array DictEntry)(e1 e2:Nat)(z q:Int)(tz tq:Nat)(ka:Addr)(dm dt dm2 dt2 dr:Nat)(p1:Nat)(v1:Value):Con:=⟨Code.call (.ref 1153) ⟨[.ref tb,.int z tz],[]⟩,n,t,[(tb,oI 1173 td),(td,oTd w T cn ls),(cn,dD es1 e1),(ls,dD es2 e2)],[oI 1173 td,oD w.params 2 [("connections",T+19,.ref cn),("listeners",T+21,.ref ls)],(dD es' (e1+1)),⟨.type "dict",none,.dict es2 e2,#[]⟩],[],.ok (.ret (.int 1 (t+5+dt+1+dr+1))),8+(dm)+1+(0)+5+(dm2)+5,5+(dt)+1+(dr)+3+(dt2)+0,6⟩
def remA0_h0:List Nat:=hx 48 [0x64cd1a0b74a5fae72c67d3f7d9588c689fd6b0ad51773cec5c1327b5c670b4844b668523e8b5cf5aeccae544f95e0a6a90d33e81418fa15bfb28864e2df600,0x64a08d7438bb1642519ba562ca9507afcf14bd2ef9c1952d22f44c77d7d7a11b9b97748f24e316ea7b86435101e2537c318bf4d91845ee15916bfc90c2c0c9,0x5683ad4b98c0f]
theorem remA0_ok (w ba bb fz n t tb td cn ls T es1 es2 es' e1 e2 z q tz tq ka dm dt dm2 dt2 dr p1 v1)(hc:∀D∈([cIterK (n+5) (t+5) cn es1 e1,cRemC w (n+8) (t+5) n (n+7) (n+2) (n+1) (n+5) cn (n+6) es1 e1 z tz
 (oD w.params 1 [(Str.ofString "key",p1,v1)]) [Value.ref ka] 1 dm dt,cPopE (n+8+dm+1) (t+5+dt+1) cn es1 es' e1 ka dr (.int q tq),cIterK (n+8+dm+1+2) (t+5+dt+1+dr+3) ls es2 e2,cRemC w (n+8+dm+1+5) (t+5+dt+1+dr+3) n (n+8+dm+5) (n+2) (n+1) (n+8+dm+3) ls
 (n+8+dm+4) es2 e2 z tz oD0 [] 0 dm2 dt2]:List Con),ConOk (wR w ba bb) fz D):ConOk (wR w ba bb) fz (remA0_c w n t tb td cn ls T es1 es2 es' e1 e2 z q tz tq ka dm dt dm2 dt2 dr p1 v1):=by
 cases bb<;>cases ba<;>exact con_run (N:=273) (m₀:=4) (w0:=0) (u0:=1) (ze:=n+8+dm+6+dm2+5) (te:=t+5+dt+1+dr+3+dt2) (hs:=remA0_h0) (ni:=[]) (by kernel_rfl) rfl rfl (by kernel_rfl) (by show n+8+dm+6+dm2+5=n+(8+(dm)+1+(0)+5+(dm2)+5); omega) (by show t+5+dt+1+dr+3+dt2=t+(5+(dt)+1+(dr)+3+(dt2)+0); omega) (by kernel_rfl) hc nm nm
def remA1_c (w:World)(n t:Nat)(tb td cn ls:Addr) (T:Nat)(es1 es2 es':Array DictEntry)(e1 e2:Nat)(z q:Int)(tz tq:Nat)(ka:Addr)(dm dt dm2 dt2 dr:Nat)(p1:Nat)(v1:Value)(p2:Nat)(v2:Value):Con:=⟨Code.call (.ref 1153) ⟨[.ref tb,.int z tz],[]⟩,n,t,[(tb,oI 1173 td),(td,oTd w T cn ls),(cn,dD es1 e1),(ls,dD es2 e2)],[oI 1173 td,oD w.params 2 [("connections",T+19,.ref cn),("listeners",T+21,.ref ls)],(dD es' (e1+1)),⟨.type "dict",none,.dict es2 e2,#[]⟩],[],.ok (.ret (.int 1 (t+5+dt+1+dr+1))),8+(dm)+1+(0)+5+(dm2)+5,5+(dt)+1+(dr)+3+(dt2)+0,6⟩
def remA1_h0:List Nat:=remA0_h0.take 155++[19,17]++remA0_h0.drop 155
theorem remA1_ok (w ba bb fz n t tb td cn ls T es1 es2 es' e1 e2 z q tz tq ka dm dt dm2 dt2 dr p1 v1 p2 v2)(hc:∀D∈([cIterK (n+5) (t+5) cn es1 e1,cRemC w (n+8) (t+5) n (n+7) (n+2) (n+1) (n+5) cn (n+6) es1 e1 z tz
 (oD w.params 1 [(Str.ofString "key",p1,v1)]) [Value.ref ka] 1 dm dt,cPopE (n+8+dm+1) (t+5+dt+1) cn es1 es' e1 ka dr (.int q tq),cIterK (n+8+dm+1+2) (t+5+dt+1+dr+3) ls es2 e2,cRemC w (n+8+dm+1+5) (t+5+dt+1+dr+3) n (n+8+dm+5) (n+2) (n+1) (n+8+dm+3) ls
 (n+8+dm+4) es2 e2 z tz (oD w.params 1 [(Str.ofString "key",p2,v2)]) [] 0 dm2 dt2]:List Con),ConOk (wR w ba bb) fz D):ConOk (wR w ba bb) fz (remA1_c w n t tb td cn ls T es1 es2 es' e1 e2 z q tz tq ka dm dt dm2 dt2 dr p1 v1 p2 v2):=by
 cases bb<;>cases ba<;>exact con_run (N:=277) (m₀:=4) (w0:=0) (u0:=1) (ze:=n+8+dm+6+dm2+5) (te:=t+5+dt+1+dr+3+dt2) (hs:=remA1_h0) (ni:=[]) (by kernel_rfl) rfl rfl (by kernel_rfl) (by show n+8+dm+6+dm2+5=n+(8+(dm)+1+(0)+5+(dm2)+5); omega) (by show t+5+dt+1+dr+3+dt2=t+(5+(dt)+1+(dr)+3+(dt2)+0); omega) (by kernel_rfl) hc nm nm
def remB0_c (w:World)(n t:Nat)(tb td cn ls:Addr) (T:Nat)(es1 es2 es':Array DictEntry)(e1 e2:Nat)(z q:Int)(tz tq:Nat)(ka:Addr)(dm dt dm2 dt2 dr:Nat)(p2:Nat)(v2:Value):Con:=⟨Code.call (.ref 1153) ⟨[.ref tb,.int z tz],[]⟩,n,t,[(tb,oI 1173 td),(td,oTd w T cn ls),(cn,dD es1 e1),(ls,dD es2 e2)],[oI 1173 td,oD w.params 2 [("connections",T+19,.ref cn),("listeners",T+21,.ref ls)],⟨.type "dict",none,.dict es1 e1,#[]⟩,(dD es' (e2+1))],[],.ok (.ret (.int 1 (t+5+dt+dt2+1+dr+1))),8+(dm)+6+(dm2)+1+(0)+4,5+(dt)+0+(dt2)+1+(dr)+3,6⟩
def remB0_h0:List Nat:=remA0_h0.take 76++hx 48 [0x157e22ed483a5c3b4236e52e5bfaf553ba2d2e670c2d3aed9e51bc449fec26228ee293444e40c2a3ad4ddf9c9572b3929f36cf1f4bcd7a4f79684424c]++remA0_h0.drop 162
theorem remB0_ok (w ba bb fz n t tb td cn ls T es1 es2 es' e1 e2 z q tz tq ka dm dt dm2 dt2 dr p2 v2)(hc:∀D∈([cIterK (n+5) (t+5) cn es1 e1,cRemC w (n+8) (t+5) n (n+7) (n+2) (n+1) (n+5) cn (n+6) es1 e1 z tz oD0 [] 0 dm dt,cIterK (n+8+dm+3) (t+5+dt) ls es2 e2,cRemC w (n+8+dm+6) (t+5+dt) n (n+8+dm+5) (n+2) (n+1) (n+8+dm+3) ls (n+8+dm+4) es2 e2 z
 tz (oD w.params 1 [(Str.ofString "key",p2,v2)]) [Value.ref ka] 1 dm2 dt2,cPopE (n+8+dm+6+dm2+1) (t+5+dt+dt2+1) ls es2 es' e2 ka dr (.int q tq)]:List Con),ConOk (wR w ba bb) fz D):ConOk (wR w ba bb) fz (remB0_c w n t tb td cn ls T es1 es2 es' e1 e2 z q tz tq ka dm dt dm2 dt2 dr p2 v2):=by
 cases bb<;>cases ba<;>exact con_run (N:=273) (m₀:=4) (w0:=0) (u0:=1) (ze:=n+8+dm+6+dm2+5) (te:=t+5+dt+dt2+1+dr+3) (hs:=remB0_h0) (ni:=[]) (by kernel_rfl) rfl rfl (by kernel_rfl) (by show n+8+dm+6+dm2+5=n+(8+(dm)+6+(dm2)+1+(0)+4); omega) (by show t+5+dt+dt2+1+dr+3=t+(5+(dt)+0+(dt2)+1+(dr)+3); omega) (by kernel_rfl) hc nm nm
def remB1_c (w:World)(n t:Nat)(tb td cn ls:Addr) (T:Nat)(es1 es2 es':Array DictEntry)(e1 e2:Nat)(z q:Int)(tz tq:Nat)(ka:Addr)(dm dt dm2 dt2 dr:Nat)(p1:Nat)(v1:Value)(p2:Nat)(v2:Value):Con:=⟨Code.call (.ref 1153) ⟨[.ref tb,.int z tz],[]⟩,n,t,[(tb,oI 1173 td),(td,oTd w T cn ls),(cn,dD es1 e1),(ls,dD es2 e2)],[oI 1173 td,oD w.params 2 [("connections",T+19,.ref cn),("listeners",T+21,.ref ls)],⟨.type "dict",none,.dict es1 e1,#[]⟩,(dD es' (e2+1))],[],.ok (.ret (.int 1 (t+5+dt+dt2+1+dr+1))),8+(dm)+6+(dm2)+1+(0)+4,5+(dt)+0+(dt2)+1+(dr)+3,6⟩
def remB1_h0:List Nat:=remB0_h0.take 76++[13,11]++remB0_h0.drop 76
theorem remB1_ok (w ba bb fz n t tb td cn ls T es1 es2 es' e1 e2 z q tz tq ka dm dt dm2 dt2 dr p1 v1 p2 v2)(hc:∀D∈([cIterK (n+5) (t+5) cn es1 e1,cRemC w (n+8) (t+5) n (n+7) (n+2) (n+1) (n+5) cn (n+6) es1 e1 z tz
 (oD w.params 1 [(Str.ofString "key",p1,v1)]) [] 0 dm dt,cIterK (n+8+dm+3) (t+5+dt) ls es2 e2,cRemC w (n+8+dm+6) (t+5+dt) n (n+8+dm+5) (n+2) (n+1) (n+8+dm+3) ls (n+8+dm+4) es2 e2 z
 tz (oD w.params 1 [(Str.ofString "key",p2,v2)]) [Value.ref ka] 1 dm2 dt2,cPopE (n+8+dm+6+dm2+1) (t+5+dt+dt2+1) ls es2 es' e2 ka dr (.int q tq)]:List Con),ConOk (wR w ba bb) fz D):ConOk (wR w ba bb) fz (remB1_c w n t tb td cn ls T es1 es2 es' e1 e2 z q tz tq ka dm dt dm2 dt2 dr p1 v1 p2 v2):=by
 cases bb<;>cases ba<;>exact con_run (N:=277) (m₀:=4) (w0:=0) (u0:=1) (ze:=n+8+dm+6+dm2+5) (te:=t+5+dt+dt2+1+dr+3) (hs:=remB1_h0) (ni:=[]) (by kernel_rfl) rfl rfl (by kernel_rfl) (by show n+8+dm+6+dm2+5=n+(8+(dm)+6+(dm2)+1+(0)+4); omega) (by show t+5+dt+dt2+1+dr+3=t+(5+(dt)+0+(dt2)+1+(dr)+3); omega) (by kernel_rfl) hc nm nm
section
def cRem (w:World)(n t:Nat)(tb td cn ls:Addr) (T:Nat)(es1 es2 es1' es2':Array DictEntry)(e1 e2 e1' e2':Nat) (z:Int)(tz tr dm dt:Nat):Con:=
 ⟨Code.call (.ref 1153) ⟨[.ref tb,.int z tz],[]⟩,n,t,[(tb,oI 1173 td),(td,oTd w T cn ls),(cn,dD es1 e1),(ls,dD es2 e2)],[oI 1173 td,oTd w T cn ls,dD es1' e1',dD es2' e2'],[],.ok (.ret (.int 1 tr)),dm,dt,7⟩
section
variable {w:World}{ba bb:Bool}{fz:Addr->Option Obj}{tb td cn ls:Addr} {T:Nat}{z q:Int}{tz tq:Nat}
theorem rem_A {es1 es2 es1':Array DictEntry}{e1 e2 dr1 dr2:Nat}{lc ll:List Ent}{ka:Addr}(H1:TabE (wR w ba bb) fz cn dr1 es1 e1 lc)(H2:TabE (wR w ba bb) fz ls dr2 es2 e2 ll)(h1:hitsL lc z= [.ref ka])(h2:hitsL ll z= [])(n t:Nat) (P:∀n t,ConOk (wR w ba bb) fz (cPopE n t cn es1 es1' e1 ka dr1 (.int q tq))):
  ∃tr dm dt,ConOk (wR w ba bb) fz (cRem w n t tb td cn ls T es1 es2 es1' es2 e1 e2 (e1+1) e2 z tz tr dm dt):=by
 obtain⟨dm,dt,d1,o1,K1⟩:=rem_comp (L:=n) (LC:=n+7) (cr:=n+2) (co:=n+1) (it:=n+5) (acc:=n+6) (z:=z) (tz:=tz) H1 (n:=n+8) (t:=t+5)
 obtain⟨dm2,dt2,d2,o2,K2⟩:=rem_comp (L:=n) (LC:=n+8+dm+5) (cr:=n+2) (co:=n+1) (it:=n+8+dm+3) (acc:=n+8+dm+4) (z:=z) (tz:=tz) H2 (n:=n+8+dm+6) (t:=t+5+dt+1+dr1+3)
 rw[h1] at K1
 rw[h2] at K2
 rcases o1 with⟨rfl,_⟩ | ⟨p1,v1,rfl⟩
 ·cases h1
 ·rcases o2 with⟨_,rfl⟩ | ⟨p2,v2,rfl⟩
  ·exact⟨_,_,_,con_as (remA0_ok w ba bb fz n t tb td cn ls T es1 es2 es1' e1 e2 z q tz tq ka dm dt dm2 dt2 dr1 p1 v1 (ac cIterK_ok (ac K1 (ac (P _ _) (all2 cIterK_ok K2))))) rfl rfl rfl rfl rfl⟩
  ·exact⟨_,_,_,con_as (remA1_ok w ba bb fz n t tb td cn ls T es1 es2 es1' e1 e2 z q tz tq ka dm dt dm2 dt2 dr1 p1 v1 p2 v2 (ac cIterK_ok (ac K1 (ac (P _ _) (all2 cIterK_ok K2))))) rfl rfl rfl rfl rfl⟩
theorem rem_B {es1 es2 es2':Array DictEntry}{e1 e2 dr1 dr2:Nat}{lc ll:List Ent}{ka:Addr}(H1:TabE (wR w ba bb) fz cn dr1 es1 e1 lc)(H2:TabE (wR w ba bb) fz ls dr2 es2 e2 ll)(h1:hitsL lc z= [])(h2:hitsL ll z= [.ref ka])(n t:Nat) (P:∀n t,ConOk (wR w ba bb) fz (cPopE n t ls es2 es2' e2 ka dr2 (.int q tq))):
  ∃tr dm dt,ConOk (wR w ba bb) fz (cRem w n t tb td cn ls T es1 es2 es1 es2' e1 e2 e1 (e2+1) z tz tr dm dt):=by
 obtain⟨dm,dt,d1,o1,K1⟩:=rem_comp (L:=n) (LC:=n+7) (cr:=n+2) (co:=n+1) (it:=n+5) (acc:=n+6) (z:=z) (tz:=tz) H1 (n:=n+8) (t:=t+5)
 obtain⟨dm2,dt2,d2,o2,K2⟩:=rem_comp (L:=n) (LC:=n+8+dm+5) (cr:=n+2) (co:=n+1) (it:=n+8+dm+3) (acc:=n+8+dm+4) (z:=z) (tz:=tz) H2 (n:=n+8+dm+6) (t:=t+5+dt)
 rw[h1] at K1
 rw[h2] at K2
 rcases o2 with⟨rfl,_⟩ | ⟨p2,v2,rfl⟩
 ·cases h2
 ·rcases o1 with⟨_,rfl⟩ | ⟨p1,v1,rfl⟩
  ·exact⟨_,_,_,con_as (remB0_ok w ba bb fz n t tb td cn ls T es1 es2 es2' e1 e2 z q tz tq ka dm dt dm2 dt2 dr2 p2 v2 (ac cIterK_ok (ac K1 (ac cIterK_ok (all2 K2 (P _ _)))))) rfl rfl rfl rfl rfl⟩
  ·exact⟨_,_,_,con_as (remB1_ok w ba bb fz n t tb td cn ls T es1 es2 es2' e1 e2 z q tz tq ka dm dt dm2 dt2 dr2 p1 v1 p2 v2 (ac cIterK_ok (ac K1 (ac cIterK_ok (all2 K2 (P _ _)))))) rfl rfl rfl rfl rfl⟩
end
end
def linkO (w:World)(N M:Nat)(lm:Addr) (k:Nat)(I r:Int)(tr td':Nat):List (Addr×Obj):=
 [(N+5,oD w.params 14 [("limits",M+28,.ref lm),("local",M+30,.ref (N+1)),("remote",M+32,.ref (N+2)),("state",M+34,.str ("syn sent") 1301),("sender",M+89,.ref (N+9)),("receiver",M+91,.none),("clock",M+133,.ref (N+22)),("congestion",M+164,.ref (N+25)),("acks",M+178,.ref (N+28)),("wheel",M+229,.ref (N+31)),("error",M+231,.none),("probes",M+234,.int 0 (M+530)),("unanswered",M+237,.int 0 (M+235)),("is_nagle",M+239,.bool true)]),(N+6,oI 996 (N+5)),(N+8,oD w.params 11 [("iss",M+44,.int (I) (M+18)),("ring",M+46,.int 65536 k),("mss",M+48,.int 4 (k+1)),("una",M+50,.int (I) (M+18)),("next",M+52,.int ((I+1).fmod 65536) (M+353)),("greatest",M+54,.int ((I+1).fmod 65536) (M+353)),("peer",M+71,.ref (N+12)),("queue",M+81,.ref (N+15)),("syn_pending",M+83,.bool true),("fin_asked",M+85,.bool false),("fin_sent",M+87,.bool false)]),(N+9,oI 766 (N+8)),(N+11,oD w.params 5 [("ring",M+58,.int 65536 k),("size",M+61,.int 0 (M+59)),("most",M+64,.int 0 (M+62)),("told_seq",M+66,.none),("told_ack",M+69,.int 0 (M+67))]),(N+12,oI 575 (N+11)),(N+14,oD w.params 2 [("room",M+76,.int 16 (k+2)),("held",M+79,.bytes #[] (M+77))]),(N+15,oI 533 (N+14)),(N+18,oD w.params 6 [("first",M+101,.int 6 (k+4)),("least",M+103,.int 4 (k+5)),("most",M+105,.int 24 (k+6)),("mean8",M+108,.int 0 (M+106)),("spread4",M+111,.int 0 (M+109)),("measured",M+114,.int 0 (M+112))]),(N+19,oI 477 (N+18)),(N+21,oD w.params 5 [("estimate",M+121,.ref (N+19)),("most_tries",M+123,.int 3 (k+7)),("tries",M+126,.int 0 (M+124)),("timed_end",M+128,.int ((I+1).fmod 65536) (M+353)),("timed_at",M+131,.int 0 td')]),(N+22,oI 421 (N+21)),(N+24,oD w.params 8 [("mss",M+146,.int 4 (k+1)),("most",M+148,.int 20 (M+140)),("size",M+150,.int 8 (M+137)),("threshold",M+152,.int 20 (M+140)),("gathered",M+155,.int 0 (M+153)),("duplicates",M+158,.int 0 (M+156)),("is_recovering",M+160,.bool false),("is_cautious",M+162,.bool false)]),(N+25,oI 344 (N+24)),(N+27,oD w.params 4 [("delay",M+169,.int 2 (k+8)),("waiting",M+172,.int 0 (M+170)),("due",M+174,.none),("has_gap",M+176,.bool false)]),(N+28,oI 253 (N+27)),(N+30,oD w.params 6 [("size",M+182,.int 16 1368),("slots",M+218,.ref (N+35)),("late",M+220,.ref (N+55)),("entries",M+222,.ref (N+56)),("reached",M+224,.none),("given",M+227,.int 1 (M+511))]),(N+31,oI 932 (N+30)),(N+35,oL [.ref (N+37),.ref (N+38),.ref (N+39),.ref (N+40),.ref (N+41),.ref (N+42),.ref (N+43),.ref (N+44),.ref (N+45),.ref (N+46),.ref (N+47),.ref (N+48),.ref (N+49),.ref (N+50),.ref (N+51),.ref (N+52)] 16),(N+37,oL [] 0),(N+38,oL [] 0),(N+39,oL [] 0),(N+40,oL [] 0),(N+41,oL [] 0),(N+42,oL [] 0),(N+43,oL [.int 1 1450] 1),(N+44,oL [] 0),(N+45,oL [] 0),(N+46,oL [] 0),(N+47,oL [] 0),(N+48,oL [] 0),(N+49,oL [] 0),(N+50,oL [] 0),(N+51,oL [] 0),(N+52,oL [] 0),(N+55,oL [] 0),(N+56,⟨.type "dict",none,.dict (dI [(1,1450,.ref (N+133))]) 1,#[]⟩),(N+60,oD w.params 5 [("tcb",M+270,.ref (N+6)),("listener",M+272,.none),("own_port",M+274,.int r tr),("is_left",M+276,.bool false),("is_dropped",M+278,.bool false)]),(N+61,oI 1243 (N+60)),(N+133,⟨.type "tuple",none,.seq #[.int 6 (M+501),.int 1 (M+511)] 0,#[]⟩)]
noncomputable def keyO (N:Nat) (r:Int)(tr ta tb' tc:Nat):List (Addr×Obj):=
 [(N+59,⟨.type "tuple",none,.seq #[.ref (N+1),.ref (N+2)] 0,#[]⟩),(N+1,⟨.type "tuple",none,.seq #[.int 1 ta,.int r tr] 0,#[]⟩),(N+2,⟨.type "tuple",none,.seq #[.int 2 tb',.int 80 tc] 0,#[]⟩)]
def outO (w:World)(N M:Nat) (k:Nat)(I r:Int)(tr ta tb' tc:Nat) (g:Int):List (Addr×Obj):=
 [(N+112,oD w.params 9 [("source_port",M+427,.int r tr),("target_port",M+429,.int 80 tc),("seq",M+431,.int (I) (M+18)),("ack",M+433,.int 0 (M+381)),("flags",M+435,.int 2 1196),("window",M+437,.int 16 (k+3)),("urgent",M+439,.int 0 (M+415)),("options",M+441,.bytes #[2,4,0,4] (M+404)),("payload",M+443,.bytes #[] 1545)]),(N+113,oI 816 (N+112)),(N+141,oL [.ref (N+143)] 1),(N+143,⟨.type "tuple",none,.seq #[.int 1 ta,.int 2 tb',.ref (N+113)] 0,#[]⟩),(N+146,⟨.type "tuple",none,.seq #[.int (g+1) (M+4),.ref (N+141)] 0,#[]⟩)]
def deadO (w:World)(N M:Nat)(lm:Addr) (k:Nat)(I r:Int)(tr td':Nat):List Obj:=
 [oD w.params 14 [("limits",M+28,.ref lm),("local",M+30,.ref (N+1)),("remote",M+32,.ref (N+2)),("state",M+34,.str "closed" 1297),("sender",M+89,.ref (N+9)),("receiver",M+91,.none),("clock",M+133,.ref (N+22)),("congestion",M+164,.ref (N+25)),("acks",M+178,.ref (N+28)),("wheel",M+229,.ref (N+31)),("error",M+231,.none),("probes",M+234,.int 0 (M+530)),("unanswered",M+237,.int 0 (M+235)),("is_nagle",M+239,.bool true)],oI 996 (N+5),oD w.params 11 [("iss",M+44,.int I (M+18)),("ring",M+46,.int 65536 k),("mss",M+48,.int 4 (k+1)),("una",M+50,.int I (M+18)),("next",M+52,.int ((I+1).fmod 65536) (M+353)),("greatest",M+54,.int ((I+1).fmod 65536) (M+353)),("peer",M+71,.ref (N+12)),("queue",M+81,.ref (N+15)),("syn_pending",M+83,.bool true),("fin_asked",M+85,.bool false),("fin_sent",M+87,.bool false)],oI 766 (N+8),oD w.params 5 [("ring",M+58,.int 65536 k),("size",M+61,.int 0 (M+59)),("most",M+64,.int 0 (M+62)),("told_seq",M+66,.none),("told_ack",M+69,.int 0 (M+67))],oI 575 (N+11),oD w.params 2 [("room",M+76,.int 16 (k+2)),("held",M+79,.bytes #[] (M+77))],oI 533 (N+14),oD w.params 6 [("first",M+101,.int 6 (k+4)),("least",M+103,.int 4 (k+5)),("most",M+105,.int 24 (k+6)),("mean8",M+108,.int 0 (M+106)),("spread4",M+111,.int 0 (M+109)),("measured",M+114,.int 0 (M+112))],oI 477 (N+18),oD w.params 5 [("estimate",M+121,.ref (N+19)),("most_tries",M+123,.int 3 (k+7)),("tries",M+126,.int 0 (M+124)),("timed_end",M+128,.int ((I+1).fmod 65536) (M+353)),("timed_at",M+131,.int 0 td')],oI 421 (N+21),oD w.params 8 [("mss",M+146,.int 4 (k+1)),("most",M+148,.int 20 (M+140)),("size",M+150,.int 8 (M+137)),("threshold",M+152,.int 20 (M+140)),("gathered",M+155,.int 0 (M+153)),("duplicates",M+158,.int 0 (M+156)),("is_recovering",M+160,.bool false),("is_cautious",M+162,.bool false)],oI 344 (N+24),oD w.params 4 [("delay",M+169,.int 2 (k+8)),("waiting",M+172,.int 0 (M+170)),("due",M+174,.none),("has_gap",M+176,.bool false)],oI 253 (N+27),oD w.params 6 [("size",M+182,.int 16 1368),("slots",M+218,.ref (N+35)),("late",M+220,.ref (N+55)),("entries",M+222,.ref (N+56)),("reached",M+224,.none),("given",M+227,.int 1 (M+511))],oI 932 (N+30),oL [.ref (N+37),.ref (N+38),.ref (N+39),.ref (N+40),.ref (N+41),.ref (N+42),.ref (N+43),.ref (N+44),.ref (N+45),.ref (N+46),.ref (N+47),.ref (N+48),.ref (N+49),.ref (N+50),.ref (N+51),.ref (N+52)] 16,oL [] 0,oL [] 0,oL [] 0,oL [] 0,oL [] 0,oL [] 0,oL [] 2,oL [] 0,oL [] 0,oL [] 0,oL [] 0,oL [] 0,oL [] 0,oL [] 0,oL [] 0,oL [] 0,oL [] 0,⟨.type "dict",none,.dict #[] 2,#[]⟩,oD w.params 5 [("tcb",M+270,.ref (N+6)),("listener",M+272,.none),("own_port",M+274,.none),("is_left",M+276,.bool true),("is_dropped",M+278,.bool true)],oI 1243 (N+60),⟨.type "tuple",none,.seq #[.int 6 (M+501),.int 1 (M+511)] 0,#[]⟩]
def allO (w:World)(sk sd lm tb td cn ls sl ln po pd tk:Addr) (T:Nat)(iss:Int)(ti:Nat) (g:Int)(tg:Nat)(l x:Int)(tf tl tx:Nat)(lt:List Ent)(e1:Nat)(lc:List Ent)(e2:Nat)(ll:List Ent)(e3:Nat)(lk:List Ent)(e4:Nat)(lh:List Ent)(e5:Nat):List (Addr×Obj):=
 skO w sk sd lm tb td cn ls sl ln po pd tk T iss ti g tg l x tf tl tx lt e1 lc e2 ll e3++[(ln,dD (dI lk) e4),(sl,dD (dI lh) e5)]
def lisO (w:World)(N M:Nat) (p:Int)(ta tp tm:Nat):List (Addr×Obj):=
 [(N+6,oD w.params 5 [("address",M+32,.int 0 ta),("port",M+34,.int p tp),("most_waiting",M+36,.int 2 tm),("opening",M+38,.ref (N+9)),("ready",M+40,.ref (N+10))]),(N+7,oI 1215 (N+6)),(N+9,oL [] 0),(N+10,oL [] 0)]
section
noncomputable def dSt (w:World) (l:List (Str×Nat×Value)):Array DictEntry:=⟨l.map fun x=>⟨hashStr w x.1,.str x.1 x.2.1,x.2.2⟩⟩
theorem dSt_get {w:World} {l:List (Str×Nat×Value)} {i:Nat}:(dSt w l)[i]?=(l[i]?).map fun x=>⟨hashStr w x.1,.str x.1 x.2.1,x.2.2⟩:=by
 rw[<- Array.getElem?_toList]; show(l.map _)[i]?=_; rw[getElem?_map]
section
variable {w:World}{fz:Addr->Option Obj}{n t:Nat} {d:Addr}{ep:Nat} {l:List (Str×Nat×Value)} {x:Str}{tx:Nat}
theorem kf_str:KfAt w fz d (dSt w l) ep (.str x tx) [] (hashStr w x) 1 (l.findIdx? fun y=>Value.isStrOf x (.str y.1 y.2.1)):=by
 intro h _ hp
 have hd:=hp _ (.head _)
 have hk:PySem.KeysOf (strKind P02 w) (dSt w l):=fun e he=>by
  obtain⟨y,_,rfl⟩:=mem_map.mp (Array.mem_toList_iff.mpr he)
  exact⟨y.1,by show Value.isStrOf y.1 (.str y.1 y.2.1)=true; unfold Value.isStrOf; simp,rfl⟩
 refine⟨fun A E s Q _ _ hq=>wpAny_pyHash_str hq,fun A E s Q e _ hq=>?_⟩
 subst e
 refine wpAny_dictFind_of (knd:=strKind P02 w) (k:=x) (by show Value.isStrOf x (.str x tx)=true; unfold Value.isStrOf; simp) hd rfl hk ?_
 have:((dSt w l).findIdx? fun e=>(strKind P02 w).is x e.key)=l.findIdx? fun y=>Value.isStrOf x (.str y.1 y.2.1):=by
  unfold dSt
  rw[List.findIdx?_toArray,List.findIdx?_map]
  rfl
 rw[this]; exact hq
def cGetS (w:World)(n t:Nat) (d:Addr) (l:List (Str×Nat×Value))(ep:Nat) (x:Str)(tx:Nat) (v:Value):Con:=cGet n t d (dSt w l) ep (.str x tx) [] 1 v
theorem cGetS_ok {i:Nat} {y:Str×Nat×Value} (h:(l.findIdx? fun y=>Value.isStrOf x (.str y.1 y.2.1))=some i)(hy:l[i]?=some y):ConOk w fz (cGetS w n t d l ep x tx y.2.2):=by
 have kf:KfAt w fz d (dSt w l) ep (.str x tx) [] (hashStr w x) 1 (some i):=h▸kf_str
 exact cGet_ok (n:=n) (t:=t) kf (e:=⟨hashStr w y.1,.str y.1 y.2.1,y.2.2⟩) (by rw[dSt_get,hy]; rfl)
def cPutS (w:World)(n t:Nat) (d:Addr)(l l':List (Str×Nat×Value))(ep:Nat) (x:Str)(tx:Nat) (v:Value):Con:=⟨.call (.builtin "dict.__setitem__") ⟨[.ref d,.str x tx,v],[]⟩,n,t,[(d,dD (dSt w l) ep)],[dD (dSt w l') ep],[],.ok (.ret .none),0,1,5⟩
theorem cPutS_ok {l':List (Str×Nat×Value)} {i:Nat} {v:Value} (h:(l.findIdx? fun y=>Value.isStrOf x (.str y.1 y.2.1))=some i)(hl:l'=l.modify i fun y=>(y.1,y.2.1,v)):ConOk w fz (cPutS w n t d l l' ep x tx v):=by
 intro A s hA ap B hsz ht hp R hR
 have hd:=hp _ (.head _)
 have kf:KF w s.heap d (.str x tx) (hashStr w x) 1 (some i):=(h▸kf_str:KfAt w fz d (dSt w l) ep (.str x tx) [] (hashStr w x) 1 (some i)) _ B hp
 have ee:(dSt w l).modify i (fun e=>{e with val:=v})=dSt w l':=by
  apply Array.ext'
  rw[hl,Array.toList_modify]
  show(l.map _).modify i _=(l.modify i _).map _
  apply List.ext_getElem?
  intro j
  rw[List.getElem?_modify,getElem?_map,getElem?_map,List.getElem?_modify]
  cases l[j]? with
  | none=>rfl
  | some y=>by_cases q:i=j<;>simp[q]
 have hR:=hR _ (.upd (f:=Obj.mapDict (·.modify i fun e=>{e with val:=v})) hsz hp ap.nd rfl (by
  show[dD (dSt w l') ep]= [Obj.mapDict _ (dD (dSt w l) ep)]
  rw[<- ee]; rfl) rfl rfl rfl)
 rw[<- ht] at hR
 refine code_entry slot_dict_setitem (dict_is hd) entry_dict_setitem (args_dict_setitem _ _ _) ?_
 show wpAny _ _ (Builtin.Dict.notOrdered "__setitem__" ⟨[.ref d,.str x tx,v],[]⟩ >>= _) _ _ s
 refine wpAny_bind (wpAny_notOrdered_dict (dict_is hd) ?_)
 show wpAny _ _ (dictSet d (.str x tx) v >>= _) _ _ s
 refine wpAny_bind ?_
 unfold dictSet
 try with_reducible refine wpAny_holding ?_
 refine wpAny_bind (kf.hash A.in1 _ s _ rfl (units_in hA) ?_)
 unfold dictSetHashed
 try with_reducible refine wpAny_holding ?_
 refine wpAny_bind (kf.find A.in1 _ {s with toks:=s.toks+1} _ rfl (units_in hA) ?_)
 refine wpAny_bind (wpAny_rule (wpAny_bind (wpAny_updateDict (s:={s with toks:=s.toks+1}) hd rfl (wpAny_point (wpAny_pure ⟨.none,rfl,hR⟩)))))
end
end
noncomputable def bkL (q1 q2 q3 q4:Nat) (m:Int)(tm:Nat) (a:Int)(ta:Nat)(hd hr:Addr):List (Str×Nat×Value):=[("many",q1,.int m tm),("at",q2,.int a ta),("held",q3,.ref hd),("heard",q4,.ref hr)]
section
section
variable {w:World}{fz:Addr->Option Obj}{n t:Nat}
theorem code_gives {A:Around} {s:Shared} {T:String}{name:Str}{id:String} {B:Builtin}{self:Value}{rest:List Value} {m:Made} {R:Result->Shared->Prop}(slot:Slot T name id)(hT:s.TypeIs self T)
  (entry:entryFor table id=some B) (args:argsOk id ⟨self::rest,[]⟩) (g:Gives (B ⟨self::rest,[]⟩) m) (h:m.post (fun v s'=>R (.ok (.ret v)) s') s):codeAny (model P02 w) A (.call (.builtin id) ⟨self::rest,[]⟩) R s:=
 codeAny_call_builtin slot.plain entry (slot.check _ _ _ _ _ _ _ _ hT args (g P02 w A R s h))
def cArith (id:String)(n t:Nat) (a:Int)(ta:Nat) (b:Int)(tb:Nat) (r:Int):Con:=⟨.call (.builtin id) ⟨[.int a ta,.int b tb],[]⟩,n,t,[],[],[],.ok (.ret (.int r t)),0,1,5⟩
theorem cArith_ok {id:String}{name:Str} {B:Builtin}{a b r:Int}{ta tb:Nat}(slot:Slot "int" name id)(entry:entryFor table id=some B)(args:argsOk id ⟨[.int a ta,.int b tb],[]⟩) (g:Gives (B ⟨[.int a ta,.int b tb],[]⟩) (.int r)):ConOk w fz (cArith id n t a ta b tb r):=by
 intro A s hA ap B hsz ht hp R hR
 have hR:=hR _ (.same hsz hp rfl rfl rfl)
 refine code_gives slot (typeIs_int s a ta) entry args g ?_
 have ht:s.toks=t:=ht
 show R (.ok (.ret (.int r s.toks))) {s with toks:=s.toks+1}
 rw[ht]
 exact hR
def cMod (n t:Nat) (a:Int)(ta:Nat) (b:Int)(tb:Nat):Con:=cArith "int.__mod__" n t a ta b tb (a.fmod b)
def cDiv (n t:Nat) (a:Int)(ta:Nat) (b:Int)(tb:Nat):Con:=cArith "int.__floordiv__" n t a ta b tb (a.fdiv b)
def cMul (n t:Nat) (a:Int)(ta:Nat) (b:Int)(tb:Nat):Con:=cArith "int.__mul__" n t a ta b tb (a * b)
variable {a b:Int}{ta tb:Nat}
theorem cMod_ok (h:b≠0):ConOk w fz (cMod n t a ta b tb):=cArith_ok PySem.F.slot_int_mod PySem.F.entry_int_mod (PySem.F.args_int_mod_2 _ _) (AutoIntG6.int___mod___int_int_1 a ta b tb (by simpa using h))
theorem cDiv_ok (h:b≠0)(h2:b.natAbs < 1073741824):ConOk w fz (cDiv n t a ta b tb):=cArith_ok PySem.F.slot_int_floordiv PySem.F.entry_int_floordiv (PySem.F.args_int_floordiv_2 _ _) (AutoIntG4.int___floordiv___int_int_1 a ta b tb (by simpa using h) (by rw[PyProof.noPylong_small h2]; exact Bool.false_ne_true))
theorem cMul_ok (h:IntMulOk a b):ConOk w fz (cMul n t a ta b tb):=cArith_ok PySem.F.slot_int_mul PySem.F.entry_int_mul (PySem.F.args_int_mul_2 _ _) (AutoIntG1.int___mul___int_int_0 a ta b tb h)
theorem mulSmall {a b:Int}(h1:0<=b)(h2:b < 2147483648):IntMulOk a b:=IntMulOk.of_right (intBits_le_64 (by omega) (by omega))
def cLGet (n t:Nat) (l:Addr)(vs:List Value)(ep:Nat) (k:Int)(tk:Nat) (v:Value):Con:=⟨.call (.builtin "list.__getitem__") ⟨[.ref l,.int k tk],[]⟩,n,t,[(l,oL0 vs ep)],[oL0 vs ep],[],.ok (.ret v),0,0,5⟩
theorem cLGet_ok {l:Addr}{vs:List Value}{ep:Nat} {k:Int}{tk:Nat} {v:Value}(h0:0<=k)(h1:k < 1000)(hv:vs[k.toNat]?=some v):ConOk w fz (cLGet n t l vs ep k tk v):=by
 intro A s hA ap B hsz ht hp R hR
 have ho:=hp _ (.head _)
 have hR:=hR _ (.same hsz hp rfl rfl rfl)
 have ht:s.toks=t:=ht
 rw[show(cLGet n t l vs ep k tk v).t+(cLGet n t l vs ep k tk v).dt=s.toks from ht.symm] at hR
 refine code_entry PySem.F.slot_list_getitem ⟨_,ho,rfl⟩ PySem.F.entry_list_getitem (PySem.F.args_list_getitem_2 _ _) ?_
 show wpAny _ _ (Builtin.List.listSubscript? (.int k tk) >>= _) _ _ s
 refine wpAny_bind (wpAny_listSubscript_int (fitsIndex_of h0 (by omega)) ?_)
 obtain⟨j,rfl⟩:=Int.eq_ofNat_of_zero_le h0
 have hv:(⟨vs⟩:Array Value)[j]?=some v:=by simpa using hv
 show wpAny _ _ ((seqItemAt l j >>= fun r=>pure (r.map (j,·))) >>= _) _ _ s
 refine wpAny_bind (wpAny_bind (wpAny_seqItemAt ho rfl (wpAny_pure ?_)))
 rw[hv]
 first
  | exact wpAny_bind (wpAny_pure (wpAny_pure ⟨v,rfl,hR⟩))
  | exact wpAny_pure ⟨v,rfl,hR⟩
end
end
def nxX (w:World) (i:Nat):Expr:=exAt (at1 (bodyF w.params 1468) i)
def nxC1 (st:Bool) (w:World)(L LC cm cb it acc:Addr):Code:=compC st (nxX w 1) (envF w.params 1468 L []) LC [("many",cm),("book",cb)] (.ref it) (.ref acc)
def nxC (st:Bool) (w:World) (i:Nat)(L LC cb it acc:Addr):Code:=compC st (nxX w i) (envF w.params 1468 L []) LC [("book",cb)] (.ref it) (.ref acc)
def cHas (n t:Nat)(it d:Addr)(es:Array DictEntry)(ep:Nat) (x:Int)(tx:Nat) (o:Obj) (β:Bool)(dm:Nat):Con:=
 ⟨.builtin "proto.contains_iter" ⟨[.ref it,.int x tx],[]⟩,n,t,[(it,vIt d 0 es.size ep),(d,dD es ep)],[o,dD es ep],[],.ok (.ret (.bool β)),dm,0,6⟩
section
def hasC (it:Addr) (x:Int)(tx:Nat):Code:=.builtin "proto.contains_iter" ⟨[.ref it,.int x tx],[]⟩
theorem plain_has:plainId "proto.contains_iter"=true:=by decide+kernel
theorem entry_has:entryFor table "proto.contains_iter"=some Builtin.«proto.contains_iter»:=entryFor_of_fast (by kernel_rfl)
def cHasAt (n t:Nat)(it d:Addr)(es:Array DictEntry)(ep i:Nat) (x:Int)(tx:Nat) (o:Obj) (β:Bool)(dm:Nat):Con:=
 ⟨hasC it x tx,n,t,[(it,vIt d i es.size ep),(d,dD es ep)],[o,dD es ep],[],.ok (.ret (.bool β)),dm,0,6⟩
section
variable {w:World}{fz:Addr->Option Obj}{n t:Nat}{it d:Addr}{es:Array DictEntry}{ep:Nat} {x:Int}{tx:Nat}
theorem has_end:ConOk w fz (cHasAt n t it d es ep es.size x tx (oK3e "dict_valueiterator" es.size es.size ep) false 2):=by
 intro A s hA ap B hsz ht hp R hR
 have un:A.units+4 * 6<=9000:=hA.un
 have dp:A.depth+6<=900:=hA.dp
 refine codeAny_builtin entry_has ?_
 rw[Around.under_plainId plain_has _]
 show wpAny _ A.in1 (pyNext (.ref it) >>= _) _ _ s
 refine wpAny_bind ?_
 unfold pyNext
 refine wpAny_bind (wpAny_attempt (wpAny_callSpecial?_slot (name:=Str.ofString "__next__") ⟨_,hp _ (.head _),rfl⟩ F.slot_dict_valueiterator_next (wpAny_call (cEndV_ok A.in1 s ⟨hA.hd,by show A.depth+5<=900; omega,by show A.units+1+4 * 5<=9000; omega⟩ ap B hsz ht hp _ fun h' Q=>?_))))
 have hs:h'.get? (n+1)=some (oStop n):=Q.news (n+1,oStop n) (.tail _ (.head _))
 refine wpAny_bind (wpAny_isInstance (T:="StopIteration") (b:=true) (s:=⟨h',s.gens,s.drawn,t+0,s.os⟩) ⟨_,hs,rfl⟩ isSubtype_stop ?_)
 rw[if_pos rfl]
 refine wpAny_pure ?_
 refine wpAny_bind (wpAny_rule (wpAny_pure ?_))
 exact hR _ ⟨Q.size,fun p q=>Q.post p q,fun p q=>(nomatch q),fresh0 _,Q.keep⟩
theorem has_next {i:Nat} {e:DictEntry} {q:Int}{tq:Nat}(he:es[i]?=some e)(hv:e.val=.int q tq) {A:Around} {s:Shared} {R:Result->Shared->Prop}(hA:CtxOk A 6)(ap:Apart w fz [it,d]) (B:BaseOk w fz s.heap)(hsz:s.heap.objs.size=n)(ht:s.toks=t)
  (hp:∀p∈[(it,vIt d i es.size ep),(d,dD es ep)],s.heap.get? p.1=some p.2) (h:∀h',After (cNextV n t it d i es ep e.val) s.heap h'->match (q == x) with
   | true=>R (.ok (.ret (.bool true))) ⟨h',s.gens,s.drawn,t,s.os⟩
   | false=>codeAny (model P02 w) A (hasC it x tx) R ⟨h',s.gens,s.drawn,t,s.os⟩):codeAny (model P02 w) A (hasC it x tx) R s:=by
 have un:A.units+4 * 6<=9000:=hA.un
 have dp:A.depth+6<=900:=hA.dp
 refine codeAny_builtin entry_has ?_
 rw[Around.under_plainId plain_has _]
 show wpAny _ A.in1 (pyNext (.ref it) >>= _) _ _ s
 refine wpAny_bind ?_
 unfold pyNext
 refine wpAny_bind (wpAny_attempt (wpAny_callSpecial?_slot (name:=Str.ofString "__next__") ⟨_,hp _ (.head _),rfl⟩ F.slot_dict_valueiterator_next (wpAny_call (cNextV_ok he A.in1 s ⟨hA.hd,by show A.depth+5<=900; omega,by show A.units+1+4 * 5<=9000; omega⟩ ap B hsz ht hp _ fun h' Q=>?_))))
 have h:=h h' Q
 show wpAny _ _ (pure (some e.val)) _ _ _
 refine wpAny_pure ?_
 rw[hv]
 show wpAny _ _ (eqBool (.int q tq) (.int x tx) >>= _) _ _ _
 refine wpAny_bind (wpAny_eqBool_int ?_)
 cases b:(q == x) with
 | true=>
  rw[b] at h
  exact wpAny_bind (wpAny_rule (wpAny_pure h))
 | false=>
  rw[b] at h
  exact wpAny_pure ⟨plainId_quiet plain_has _,h⟩
theorem has_loop {vs:List Int}(hv:∀ (i:Nat) (z:Int),vs[i]?=some z->∃e tq,es[i]?=some e/\e.val=.int z tq)(hs:es.size=vs.length):∀k i n,i+k=vs.length->∃o dm,ConOk w fz (cHasAt n t it d es ep i x tx o ((vs.drop i).any fun z=>z == x) dm)
 | 0,i,n,e=>by
  rw[show vs.drop i= [] from List.drop_eq_nil_of_le (by omega),show i=es.size by omega]
  exact⟨_,_,has_end⟩
 | k+1,i,n,e=>by
  have hi:i < vs.length:=by omega
  obtain⟨en,tq,he,hq⟩:=hv i vs[i] (List.getElem?_eq_getElem hi)
  rw[List.drop_eq_getElem_cons hi,List.any_cons]
  cases b:(vs[i] == x) with
  | true=>
   refine⟨vIt d (i+1) es.size ep,0,fun A s hA ap B hsz ht hp R hR=>?_⟩
   refine has_next he hq hA ap B hsz ht hp fun h' Q=>?_
   rw[b]
   exact hR _ ⟨Q.size,Q.post,Q.news,Q.fresh,Q.keep⟩
  | false=>
   obtain⟨o,dm,K⟩:=has_loop hv hs k (i+1) n (by omega)
   refine⟨o,dm,fun A s hA ap B hsz ht hp R hR=>?_⟩
   refine has_next he hq hA ap B hsz ht hp fun h' Q=>?_
   rw[b]
   exact K A ⟨h',s.gens,s.drawn,t,s.os⟩ hA ap (Q.base B ap) Q.size rfl (fun p q=>Q.post p q) R fun h'' Q₂=>hR h'' ⟨Q₂.size,Q₂.post,Q₂.news,Q₂.fresh,fun b o e q=>Q₂.keep b o (Q.keep b o e q) fun p hp=>by
    cases hp with
    | head=>exact q (it,vIt d i es.size ep) (.head _)
    | tail _ hp=>exact q p (.tail _ hp)⟩
end
theorem has_ok {w:World}{fz:Addr->Option Obj} {t:Nat}{it d:Addr} {l:List Ent}{ep:Nat} {x:Int}{tx:Nat}(hv:∀e∈l,IsI e.2.2) (n:Nat):∃o dm,ConOk w fz (cHas n t it d (dI l) ep x tx o (l.any fun e=>intV e.2.2 == x) dm):=by
 obtain⟨o,dm,K⟩:=has_loop (w:=w) (fz:=fz) (t:=t) (it:=it) (d:=d) (es:=dI l) (ep:=ep) (x:=x) (tx:=tx) (vs:=l.map fun e=>intV e.2.2) (fun i z h=>by
  rw[getElem?_map] at h
  cases q:l[i]? with
  | none=>rw[q] at h; cases h
  | some y=>
   rw[q] at h
   obtain⟨z',tq,e⟩:=hv y (mem_of_getElem? q)
   have hz:intV y.2.2=z:=Option.some.inj h
   rw[e] at hz
   refine⟨⟨hashInt y.1,.int y.1 y.2.1,y.2.2⟩,tq,by unfold dI; rw[dE_get,q]; rfl,?_⟩
   show y.2.2=_
   rw[e,<- hz]; rfl) (by rw[dI_size,length_map]) l.length 0 n (by rw[length_map,Nat.zero_add])
 refine⟨o,dm,?_⟩
 have e:((l.map fun e=>intV e.2.2).drop 0).any (fun z=>z == x)=l.any fun e=>intV e.2.2 == x:=by rw[List.drop_zero,List.any_map]; rfl
 rw[e] at K
 exact K
end
def rowS_c (w:World)(n t:Nat)(L LC cm cb it acc bk hd hr:Addr)(q1 q2 q3 q4:Nat) (m:Int)(tm:Nat) (a:Int)(ta eb:Nat)(x left:Int)(vs:List Value)(ea:Nat):Con:=⟨nxC1 true w L LC cm cb it acc,n,t,[(LC,oD0),(it,rIt x left),(acc,oL0 vs ea),(cm,oCell (.int m tm)),(cb,oCell (.ref bk)),(bk,dD (dSt w (bkL q1 q2 q3 q4 m tm a ta hd hr)) eb)],[(dD #[] 0),⟨.type "range_iterator",none,.fields #[.int x 0,.int left 0,.int 1 0],#[]⟩,(oL0 (vs) ea),(oCell (.int m tm)),(oCell (.ref bk)),(dD (dSt w (bkL q1 q2 q3 q4 m tm a ta hd hr)) eb)],[],.ok .next,0,0,1⟩
def rowS_h0:List Nat:=[3,3,0,3,0,50,3,1]
def rowS_h1:List Nat:=[1]
theorem rowS_ok (w ba bb fz n t L LC cm cb it acc bk hd hr q1 q2 q3 q4 m tm a ta eb x left vs ea):TurnOk (wR w ba bb) fz (rowS_c w n t L LC cm cb it acc bk hd hr q1 q2 q3 q4 m tm a ta eb x left vs ea) (nxC1 false w L LC cm cb it acc):=by
 cases bb
 ·cases ba<;>exact turn_run (N:=17) (m₀:=6) (w0:=0) (u0:=0) (ze:=n) (te:=t) (hs:=rowS_h0) (ni:=[]) (by kernel_rfl) rfl rfl (by kernel_rfl) rfl rfl (by kernel_rfl) nm nm nm
 ·cases ba<;>exact turn_run (N:=7) (m₀:=6) (w0:=0) (u0:=0) (ze:=n) (te:=t) (hs:=rowS_h1) (ni:=[]) (by kernel_rfl) rfl rfl (by kernel_rfl) rfl rfl (by kernel_rfl) nm nm nm
def rowT0_c (w:World)(n t:Nat)(L LC cm cb it acc bk hd hr:Addr)(q1 q2 q3 q4:Nat) (m:Int)(tm:Nat) (a:Int)(ta eb:Nat)(x left:Int)(vs:List Value)(ea:Nat):Con:=⟨nxC1 false w L LC cm cb it acc,n,t,[(LC,oD0),(it,rIt x left),(acc,oL0 vs ea),(cm,oCell (.int m tm)),(cb,oCell (.ref bk)),(bk,dD (dSt w (bkL q1 q2 q3 q4 m tm a ta hd hr)) eb)],[oD w.params 1 [("step",t+1,.int x t)],⟨.type "range_iterator",none,.fields #[.int (x+1) 0,.int (left - 1) 0,.int 1 0],#[]⟩,(oL0 (vs++[Value.int (29+(a - 29+x).fmod m) (t+9)]) (ea+1)),(oCell (.int m tm)),(oCell (.ref bk)),(dD (dSt w (bkL q1 q2 q3 q4 m tm a ta hd hr)) eb)],[],.ok .next,0,10,5⟩
def rowT0_h0:List Nat:=hx 8 [0x4a1e8035a02c0517ff82223]
theorem rowT0_ok (w ba bb fz n t L LC cm cb it acc bk hd hr q1 q2 q3 q4 m tm a ta eb x left vs ea)(hc:∀D∈([cNextR n t it x left,cGetS w n (t+4) bk (bkL q1 q2 q3 q4 m tm a ta hd hr) eb "at" (t+3) (.int a ta),cMod n (t+8) (a - 29+x) (t+7) m tm,cApp n (t+10) acc vs ea (.int (29+(a - 29+x).fmod m) (t+9))]:List Con),ConOk (wR w ba bb) fz D):TurnOk (wR w ba bb) fz (rowT0_c w n t L LC cm cb it acc bk hd hr q1 q2 q3 q4 m tm a ta eb x left vs ea) (nxC1 false w L LC cm cb it acc):=by
 exact turn_run (N:=48) (m₀:=6) (w0:=0) (u0:=0) (ze:=n) (te:=t+10) (hs:=rowT0_h0) (ni:=[]) (by kernel_rfl) rfl rfl (by kernel_rfl) rfl rfl (by kernel_rfl) hc nm nm
def rowT1_c (w:World)(n t:Nat)(L LC cm cb it acc bk hd hr:Addr)(q1 q2 q3 q4:Nat) (m:Int)(tm:Nat) (a:Int)(ta eb:Nat)(x left:Int)(vs:List Value)(ea:Nat)(tl:Nat) (v:Value):Con:=⟨nxC1 false w L LC cm cb it acc,n,t,[(LC,oD w.params 1 [("step",tl,v)]),(it,rIt x left),(acc,oL0 vs ea),(cm,oCell (.int m tm)),(cb,oCell (.ref bk)),(bk,dD (dSt w (bkL q1 q2 q3 q4 m tm a ta hd hr)) eb)],[oD w.params 1 [("step",tl,.int x t)],⟨.type "range_iterator",none,.fields #[.int (x+1) 0,.int (left - 1) 0,.int 1 0],#[]⟩,(oL0 (vs++[Value.int (29+(a - 29+x).fmod m) (t+9)]) (ea+1)),(oCell (.int m tm)),(oCell (.ref bk)),(dD (dSt w (bkL q1 q2 q3 q4 m tm a ta hd hr)) eb)],[],.ok .next,0,10,5⟩
theorem rowT1_ok (w ba bb fz n t L LC cm cb it acc bk hd hr q1 q2 q3 q4 m tm a ta eb x left vs ea tl v)(hc:∀D∈([cNextR n t it x left,cGetS w n (t+4) bk (bkL q1 q2 q3 q4 m tm a ta hd hr) eb "at" (t+3) (.int a ta),cMod n (t+8) (a - 29+x) (t+7) m tm,cApp n (t+10) acc vs ea (.int (29+(a - 29+x).fmod m) (t+9))]:List Con),ConOk (wR w ba bb) fz D):TurnOk (wR w ba bb) fz (rowT1_c w n t L LC cm cb it acc bk hd hr q1 q2 q3 q4 m tm a ta eb x left vs ea tl v) (nxC1 false w L LC cm cb it acc):=by
 exact turn_run (N:=48) (m₀:=6) (w0:=0) (u0:=0) (ze:=n) (te:=t+10) (hs:=rowT0_h0) (ni:=[]) (by kernel_rfl) rfl rfl (by kernel_rfl) rfl rfl (by kernel_rfl) hc nm nm
def rowE1_c (w:World)(n t:Nat)(L LC cm cb it acc bk hd hr:Addr)(q1 q2 q3 q4:Nat) (m:Int)(tm:Nat) (a:Int)(ta eb:Nat)(x left:Int)(vs:List Value)(ea:Nat)(tl:Nat) (v:Value):Con:=⟨nxC1 false w L LC cm cb it acc,n,t,[(LC,oD w.params 1 [("step",tl,v)]),(it,rIt x left),(acc,oL0 vs ea),(cm,oCell (.int m tm)),(cb,oCell (.ref bk)),(bk,dD (dSt w (bkL q1 q2 q3 q4 m tm a ta hd hr)) eb)],[oD w.params 1 [("step",tl,v)],⟨.type "range_iterator",none,.fields #[.int x 0,.int left 0,.int 1 0],#[]⟩,(oL0 (vs) ea),(oCell (.int m tm)),(oCell (.ref bk)),(dD (dSt w (bkL q1 q2 q3 q4 m tm a ta hd hr)) eb)],[],.ok .next,2,0,5⟩
def rowE1_h0:List Nat:=[3,4,0,1,9]
theorem rowE1_ok (w ba bb fz n t L LC cm cb it acc bk hd hr q1 q2 q3 q4 m tm a ta eb x left vs ea tl v)(hc:∀D∈([cEndR n t it x left]:List Con),ConOk (wR w ba bb) fz D):ConOk (wR w ba bb) fz (rowE1_c w n t L LC cm cb it acc bk hd hr q1 q2 q3 q4 m tm a ta eb x left vs ea tl v):=by
 exact con_run (N:=10) (m₀:=6) (w0:=0) (u0:=0) (ze:=n+2) (te:=t) (hs:=rowE1_h0) (ni:=[]) (by kernel_rfl) rfl rfl (by kernel_rfl) rfl rfl (by kernel_rfl) hc nm nm
def fil2S_c (w:World)(n t:Nat)(L LC cb it acc rw bk hd hr:Addr) (i:Nat)(ws:List Value)(er:Nat)(q1 q2 q3 q4:Nat) (m:Int)(tm:Nat) (a:Int)(ta eb:Nat) (d:Addr)(es:Array DictEntry)(ep:Nat) (x:Int)(tx:Nat)(vs:List Value)(ea:Nat):Con:=⟨nxC true w 2 L LC cb it acc,n,t,[(LC,oD0),(it,lIt rw i),(rw,oL0 ws er),(acc,oL0 vs ea),(cb,oCell (.ref bk)),(bk,dD (dSt w (bkL q1 q2 q3 q4 m tm a ta d hr)) eb),(d,dD es ep)],[(dD #[] 0),⟨.type "list_iterator",none,.fields #[.ref rw,.int ↑i 0],#[]⟩,(oL0 (ws) er),(oL0 (vs) ea),(oCell (.ref bk)),oD w.params eb [("many",q1,.int m tm),("at",q2,.int a ta),("held",q3,.ref d),("heard",q4,.ref hr)],(dD es ep)],[],.ok .next,0,0,1⟩
def fil2S_h0:List Nat:=[3,3,0,3,0,51,3,1]
theorem fil2S_ok (w ba bb fz n t L LC cb it acc rw bk hd hr i ws er q1 q2 q3 q4 m tm a ta eb d es ep x tx vs ea):TurnOk (wR w ba bb) fz (fil2S_c w n t L LC cb it acc rw bk hd hr i ws er q1 q2 q3 q4 m tm a ta eb d es ep x tx vs ea) (nxC false w 2 L LC cb it acc):=by
 cases bb
 ·cases ba<;>exact turn_run (N:=17) (m₀:=7) (w0:=0) (u0:=0) (ze:=n) (te:=t) (hs:=fil2S_h0) (ni:=[]) (by kernel_rfl) rfl rfl (by kernel_rfl) rfl rfl (by kernel_rfl) nm nm nm
 ·cases ba<;>exact turn_run (N:=7) (m₀:=7) (w0:=0) (u0:=0) (ze:=n) (te:=t) (hs:=rowS_h1) (ni:=[]) (by kernel_rfl) rfl rfl (by kernel_rfl) rfl rfl (by kernel_rfl) nm nm nm
def fil2H0_c (w:World)(n t:Nat)(L LC cb it acc rw bk hd hr:Addr) (i:Nat)(ws:List Value)(er:Nat)(q1 q2 q3 q4:Nat) (m:Int)(tm:Nat) (a:Int)(ta eb:Nat) (d:Addr)(es:Array DictEntry)(ep:Nat) (x:Int)(tx:Nat)(vs:List Value)(ea:Nat) (o:Obj)(dm:Nat):Con:=⟨nxC false w 2 L LC cb it acc,n,t,[(LC,oD0),(it,lIt rw i),(rw,oL0 ws er),(acc,oL0 vs ea),(cb,oCell (.ref bk)),(bk,dD (dSt w (bkL q1 q2 q3 q4 m tm a ta d hr)) eb),(d,dD es ep)],[oD w.params 1 [("port",t,.int x tx)],⟨.type "list_iterator",none,.fields #[.ref rw,.int (↑(i+1)) 0],#[]⟩,(oL0 (ws) er),(oL0 (vs) ea),(oCell (.ref bk)),oD w.params eb [("many",q1,.int m tm),("at",q2,.int a ta),("held",q3,.ref d),("heard",q4,.ref hr)],(dD es ep)],[],.ok .next,2+(dm)+0,3+(0)+0,6⟩
def fil2H0_h0:List Nat:=hx 11 [0x1aaa8a036deae246e44ecf8318495842]
theorem fil2H0_ok (w ba bb fz n t L LC cb it acc rw bk hd hr i ws er q1 q2 q3 q4 m tm a ta eb d es ep x tx vs ea o dm)(hc:∀D∈([cNextL n t it rw i ws er (.int x tx),cGetS w n (t+2) bk (bkL q1 q2 q3 q4 m tm a ta d hr) eb "held" (t+1) (.ref d),cVals n (t+3) d es ep,cIterV (n+1) (t+3) n d es ep,cHas (n+2) (t+3) (n+1) d es ep x tx o true dm]:List Con),ConOk (wR w ba bb) fz D):TurnOk (wR w ba bb) fz (fil2H0_c w n t L LC cb it acc rw bk hd hr i ws er q1 q2 q3 q4 m tm a ta eb d es ep x tx vs ea o dm) (nxC false w 2 L LC cb it acc):=by
 cases ba<;>exact turn_run (N:=45) (m₀:=7) (w0:=0) (u0:=0) (ze:=n+2+dm) (te:=t+3) (hs:=fil2H0_h0) (ni:=[]) (by kernel_rfl) rfl rfl (by kernel_rfl) (by show n+2+dm=n+(2+(dm)+0); omega) (by show t+3=t+(3+(0)+0); omega) (by kernel_rfl) hc nm nm
def fil2M0_c (w:World)(n t:Nat)(L LC cb it acc rw bk hd hr:Addr) (i:Nat)(ws:List Value)(er:Nat)(q1 q2 q3 q4:Nat) (m:Int)(tm:Nat) (a:Int)(ta eb:Nat) (d:Addr)(es:Array DictEntry)(ep:Nat) (x:Int)(tx:Nat)(vs:List Value)(ea:Nat) (o:Obj)(dm:Nat):Con:=⟨nxC false w 2 L LC cb it acc,n,t,[(LC,oD0),(it,lIt rw i),(rw,oL0 ws er),(acc,oL0 vs ea),(cb,oCell (.ref bk)),(bk,dD (dSt w (bkL q1 q2 q3 q4 m tm a ta d hr)) eb),(d,dD es ep)],[oD w.params 1 [("port",t,.int x tx)],⟨.type "list_iterator",none,.fields #[.ref rw,.int (↑(i+1)) 0],#[]⟩,(oL0 (ws) er),(oL0 (vs++[Value.int x tx]) (ea+1)),(oCell (.ref bk)),oD w.params eb [("many",q1,.int m tm),("at",q2,.int a ta),("held",q3,.ref d),("heard",q4,.ref hr)],(dD es ep)],[],.ok .next,2+(dm)+0,3+(0)+0,6⟩
def fil2M0_h0:List Nat:=hx 11 [0x5ccc77c2b8d66594d0ac1e59ba5c905e39c]
theorem fil2M0_ok (w ba bb fz n t L LC cb it acc rw bk hd hr i ws er q1 q2 q3 q4 m tm a ta eb d es ep x tx vs ea o dm)(hc:∀D∈([cNextL n t it rw i ws er (.int x tx),cGetS w n (t+2) bk (bkL q1 q2 q3 q4 m tm a ta d hr) eb "held" (t+1) (.ref d),cVals n (t+3) d es ep,cIterV (n+1) (t+3) n d es ep,cHas (n+2) (t+3) (n+1) d es ep x tx o false dm,cApp (n+2+dm) (t+3) acc vs ea (.int x tx)]:List Con),ConOk (wR w ba bb) fz D):TurnOk (wR w ba bb) fz (fil2M0_c w n t L LC cb it acc rw bk hd hr i ws er q1 q2 q3 q4 m tm a ta eb d es ep x tx vs ea o dm) (nxC false w 2 L LC cb it acc):=by
 cases ba<;>exact turn_run (N:=48) (m₀:=7) (w0:=0) (u0:=0) (ze:=n+2+dm) (te:=t+3) (hs:=fil2M0_h0) (ni:=[]) (by kernel_rfl) rfl rfl (by kernel_rfl) (by show n+2+dm=n+(2+(dm)+0); omega) (by show t+3=t+(3+(0)+0); omega) (by kernel_rfl) hc nm nm
def fil2E0_c (w:World)(n t:Nat)(L LC cb it acc rw bk hd hr:Addr) (i:Nat)(ws:List Value)(er:Nat)(q1 q2 q3 q4:Nat) (m:Int)(tm:Nat) (a:Int)(ta eb:Nat) (d:Addr)(es:Array DictEntry)(ep:Nat) (x:Int)(tx:Nat)(vs:List Value)(ea:Nat):Con:=⟨nxC false w 2 L LC cb it acc,n,t,[(LC,oD0),(it,lIt rw i),(rw,oL0 ws er),(acc,oL0 vs ea),(cb,oCell (.ref bk)),(bk,dD (dSt w (bkL q1 q2 q3 q4 m tm a ta d hr)) eb),(d,dD es ep)],[(dD #[] 0),⟨.type "list_iterator",none,.fields #[.none,.int ↑i 0],#[]⟩,(oL0 (ws) er),(oL0 (vs) ea),(oCell (.ref bk)),oD w.params eb [("many",q1,.int m tm),("at",q2,.int a ta),("held",q3,.ref d),("heard",q4,.ref hr)],(dD es ep)],[],.ok .next,2,0,5⟩
def fil2E0_h0:List Nat:=[3,4,0,1,2,10]
theorem fil2E0_ok (w ba bb fz n t L LC cb it acc rw bk hd hr i ws er q1 q2 q3 q4 m tm a ta eb d es ep x tx vs ea)(hc:∀D∈([cEndL n t it rw i ws er]:List Con),ConOk (wR w ba bb) fz D):ConOk (wR w ba bb) fz (fil2E0_c w n t L LC cb it acc rw bk hd hr i ws er q1 q2 q3 q4 m tm a ta eb d es ep x tx vs ea):=by
 exact con_run (N:=10) (m₀:=7) (w0:=0) (u0:=0) (ze:=n+2) (te:=t) (hs:=fil2E0_h0) (ni:=[]) (by kernel_rfl) rfl rfl (by kernel_rfl) rfl rfl (by kernel_rfl) hc nm nm
def fil2H1_c (w:World)(n t:Nat)(L LC cb it acc rw bk hd hr:Addr) (i:Nat)(ws:List Value)(er:Nat)(q1 q2 q3 q4:Nat) (m:Int)(tm:Nat) (a:Int)(ta eb:Nat) (d:Addr)(es:Array DictEntry)(ep:Nat) (x:Int)(tx:Nat)(vs:List Value)(ea:Nat)(tl:Nat) (v:Value) (o:Obj)(dm:Nat):Con:=⟨nxC false w 2 L LC cb it acc,n,t,[(LC,oD w.params 1 [("port",tl,v)]),(it,lIt rw i),(rw,oL0 ws er),(acc,oL0 vs ea),(cb,oCell (.ref bk)),(bk,dD (dSt w (bkL q1 q2 q3 q4 m tm a ta d hr)) eb),(d,dD es ep)],[oD w.params 1 [("port",tl,.int x tx)],⟨.type "list_iterator",none,.fields #[.ref rw,.int (↑(i+1)) 0],#[]⟩,(oL0 (ws) er),(oL0 (vs) ea),(oCell (.ref bk)),oD w.params eb [("many",q1,.int m tm),("at",q2,.int a ta),("held",q3,.ref d),("heard",q4,.ref hr)],(dD es ep)],[],.ok .next,2+(dm)+0,3+(0)+0,6⟩
theorem fil2H1_ok (w ba bb fz n t L LC cb it acc rw bk hd hr i ws er q1 q2 q3 q4 m tm a ta eb d es ep x tx vs ea tl v o dm)(hc:∀D∈([cNextL n t it rw i ws er (.int x tx),cGetS w n (t+2) bk (bkL q1 q2 q3 q4 m tm a ta d hr) eb "held" (t+1) (.ref d),cVals n (t+3) d es ep,cIterV (n+1) (t+3) n d es ep,cHas (n+2) (t+3) (n+1) d es ep x tx o true dm]:List Con),ConOk (wR w ba bb) fz D):TurnOk (wR w ba bb) fz (fil2H1_c w n t L LC cb it acc rw bk hd hr i ws er q1 q2 q3 q4 m tm a ta eb d es ep x tx vs ea tl v o dm) (nxC false w 2 L LC cb it acc):=by
 cases ba<;>exact turn_run (N:=45) (m₀:=7) (w0:=0) (u0:=0) (ze:=n+2+dm) (te:=t+3) (hs:=fil2H0_h0) (ni:=[]) (by kernel_rfl) rfl rfl (by kernel_rfl) (by show n+2+dm=n+(2+(dm)+0); omega) (by show t+3=t+(3+(0)+0); omega) (by kernel_rfl) hc nm nm
def fil2M1_c (w:World)(n t:Nat)(L LC cb it acc rw bk hd hr:Addr) (i:Nat)(ws:List Value)(er:Nat)(q1 q2 q3 q4:Nat) (m:Int)(tm:Nat) (a:Int)(ta eb:Nat) (d:Addr)(es:Array DictEntry)(ep:Nat) (x:Int)(tx:Nat)(vs:List Value)(ea:Nat)(tl:Nat) (v:Value) (o:Obj)(dm:Nat):Con:=⟨nxC false w 2 L LC cb it acc,n,t,[(LC,oD w.params 1 [("port",tl,v)]),(it,lIt rw i),(rw,oL0 ws er),(acc,oL0 vs ea),(cb,oCell (.ref bk)),(bk,dD (dSt w (bkL q1 q2 q3 q4 m tm a ta d hr)) eb),(d,dD es ep)],[oD w.params 1 [("port",tl,.int x tx)],⟨.type "list_iterator",none,.fields #[.ref rw,.int (↑(i+1)) 0],#[]⟩,(oL0 (ws) er),(oL0 (vs++[Value.int x tx]) (ea+1)),(oCell (.ref bk)),oD w.params eb [("many",q1,.int m tm),("at",q2,.int a ta),("held",q3,.ref d),("heard",q4,.ref hr)],(dD es ep)],[],.ok .next,2+(dm)+0,3+(0)+0,6⟩
theorem fil2M1_ok (w ba bb fz n t L LC cb it acc rw bk hd hr i ws er q1 q2 q3 q4 m tm a ta eb d es ep x tx vs ea tl v o dm)(hc:∀D∈([cNextL n t it rw i ws er (.int x tx),cGetS w n (t+2) bk (bkL q1 q2 q3 q4 m tm a ta d hr) eb "held" (t+1) (.ref d),cVals n (t+3) d es ep,cIterV (n+1) (t+3) n d es ep,cHas (n+2) (t+3) (n+1) d es ep x tx o false dm,cApp (n+2+dm) (t+3) acc vs ea (.int x tx)]:List Con),ConOk (wR w ba bb) fz D):TurnOk (wR w ba bb) fz (fil2M1_c w n t L LC cb it acc rw bk hd hr i ws er q1 q2 q3 q4 m tm a ta eb d es ep x tx vs ea tl v o dm) (nxC false w 2 L LC cb it acc):=by
 cases ba<;>exact turn_run (N:=48) (m₀:=7) (w0:=0) (u0:=0) (ze:=n+2+dm) (te:=t+3) (hs:=fil2M0_h0) (ni:=[]) (by kernel_rfl) rfl rfl (by kernel_rfl) (by show n+2+dm=n+(2+(dm)+0); omega) (by show t+3=t+(3+(0)+0); omega) (by kernel_rfl) hc nm nm
def fil2E1_c (w:World)(n t:Nat)(L LC cb it acc rw bk hd hr:Addr) (i:Nat)(ws:List Value)(er:Nat)(q1 q2 q3 q4:Nat) (m:Int)(tm:Nat) (a:Int)(ta eb:Nat) (d:Addr)(es:Array DictEntry)(ep:Nat) (x:Int)(tx:Nat)(vs:List Value)(ea:Nat)(tl:Nat) (v:Value):Con:=⟨nxC false w 2 L LC cb it acc,n,t,[(LC,oD w.params 1 [("port",tl,v)]),(it,lIt rw i),(rw,oL0 ws er),(acc,oL0 vs ea),(cb,oCell (.ref bk)),(bk,dD (dSt w (bkL q1 q2 q3 q4 m tm a ta d hr)) eb),(d,dD es ep)],[oD w.params 1 [("port",tl,v)],⟨.type "list_iterator",none,.fields #[.none,.int ↑i 0],#[]⟩,(oL0 (ws) er),(oL0 (vs) ea),(oCell (.ref bk)),oD w.params eb [("many",q1,.int m tm),("at",q2,.int a ta),("held",q3,.ref d),("heard",q4,.ref hr)],(dD es ep)],[],.ok .next,2,0,5⟩
theorem fil2E1_ok (w ba bb fz n t L LC cb it acc rw bk hd hr i ws er q1 q2 q3 q4 m tm a ta eb d es ep x tx vs ea tl v)(hc:∀D∈([cEndL n t it rw i ws er]:List Con),ConOk (wR w ba bb) fz D):ConOk (wR w ba bb) fz (fil2E1_c w n t L LC cb it acc rw bk hd hr i ws er q1 q2 q3 q4 m tm a ta eb d es ep x tx vs ea tl v):=by
 exact con_run (N:=10) (m₀:=7) (w0:=0) (u0:=0) (ze:=n+2) (te:=t) (hs:=fil2E0_h0) (ni:=[]) (by kernel_rfl) rfl rfl (by kernel_rfl) rfl rfl (by kernel_rfl) hc nm nm
def fil3S_c (w:World)(n t:Nat)(L LC cb it acc rw bk hd hr:Addr) (i:Nat)(ws:List Value)(er:Nat)(q1 q2 q3 q4:Nat) (m:Int)(tm:Nat) (a:Int)(ta eb:Nat) (d:Addr)(es:Array DictEntry)(ep:Nat) (x:Int)(tx:Nat)(vs:List Value)(ea:Nat):Con:=⟨nxC true w 3 L LC cb it acc,n,t,[(LC,oD0),(it,lIt rw i),(rw,oL0 ws er),(acc,oL0 vs ea),(cb,oCell (.ref bk)),(bk,dD (dSt w (bkL q1 q2 q3 q4 m tm a ta hd d)) eb),(d,dD es ep)],[(dD #[] 0),⟨.type "list_iterator",none,.fields #[.ref rw,.int ↑i 0],#[]⟩,(oL0 (ws) er),(oL0 (vs) ea),(oCell (.ref bk)),oD w.params eb [("many",q1,.int m tm),("at",q2,.int a ta),("held",q3,.ref hd),("heard",q4,.ref d)],(dD es ep)],[],.ok .next,0,0,1⟩
theorem fil3S_ok (w ba bb fz n t L LC cb it acc rw bk hd hr i ws er q1 q2 q3 q4 m tm a ta eb d es ep x tx vs ea):TurnOk (wR w ba bb) fz (fil3S_c w n t L LC cb it acc rw bk hd hr i ws er q1 q2 q3 q4 m tm a ta eb d es ep x tx vs ea) (nxC false w 3 L LC cb it acc):=by
 cases bb
 ·cases ba<;>exact turn_run (N:=17) (m₀:=7) (w0:=0) (u0:=0) (ze:=n) (te:=t) (hs:=fil2S_h0) (ni:=[]) (by kernel_rfl) rfl rfl (by kernel_rfl) rfl rfl (by kernel_rfl) nm nm nm
 ·cases ba<;>exact turn_run (N:=7) (m₀:=7) (w0:=0) (u0:=0) (ze:=n) (te:=t) (hs:=rowS_h1) (ni:=[]) (by kernel_rfl) rfl rfl (by kernel_rfl) rfl rfl (by kernel_rfl) nm nm nm
def fil3H0_c (w:World)(n t:Nat)(L LC cb it acc rw bk hd hr:Addr) (i:Nat)(ws:List Value)(er:Nat)(q1 q2 q3 q4:Nat) (m:Int)(tm:Nat) (a:Int)(ta eb:Nat) (d:Addr)(es:Array DictEntry)(ep:Nat) (x:Int)(tx:Nat)(vs:List Value)(ea:Nat) (o:Obj)(dm:Nat):Con:=⟨nxC false w 3 L LC cb it acc,n,t,[(LC,oD0),(it,lIt rw i),(rw,oL0 ws er),(acc,oL0 vs ea),(cb,oCell (.ref bk)),(bk,dD (dSt w (bkL q1 q2 q3 q4 m tm a ta hd d)) eb),(d,dD es ep)],[oD w.params 1 [("port",t,.int x tx)],⟨.type "list_iterator",none,.fields #[.ref rw,.int (↑(i+1)) 0],#[]⟩,(oL0 (ws) er),(oL0 (vs) ea),(oCell (.ref bk)),oD w.params eb [("many",q1,.int m tm),("at",q2,.int a ta),("held",q3,.ref hd),("heard",q4,.ref d)],(dD es ep)],[],.ok .next,2+(dm)+0,3+(0)+0,6⟩
theorem fil3H0_ok (w ba bb fz n t L LC cb it acc rw bk hd hr i ws er q1 q2 q3 q4 m tm a ta eb d es ep x tx vs ea o dm)(hc:∀D∈([cNextL n t it rw i ws er (.int x tx),cGetS w n (t+2) bk (bkL q1 q2 q3 q4 m tm a ta hd d) eb "heard" (t+1) (.ref d),cVals n (t+3) d es ep,cIterV (n+1) (t+3) n d es ep,cHas (n+2) (t+3) (n+1) d es ep x tx o true dm]:List Con),ConOk (wR w ba bb) fz D):TurnOk (wR w ba bb) fz (fil3H0_c w n t L LC cb it acc rw bk hd hr i ws er q1 q2 q3 q4 m tm a ta eb d es ep x tx vs ea o dm) (nxC false w 3 L LC cb it acc):=by
 cases ba<;>exact turn_run (N:=45) (m₀:=7) (w0:=0) (u0:=0) (ze:=n+2+dm) (te:=t+3) (hs:=fil2H0_h0) (ni:=[]) (by kernel_rfl) rfl rfl (by kernel_rfl) (by show n+2+dm=n+(2+(dm)+0); omega) (by show t+3=t+(3+(0)+0); omega) (by kernel_rfl) hc nm nm
def fil3M0_c (w:World)(n t:Nat)(L LC cb it acc rw bk hd hr:Addr) (i:Nat)(ws:List Value)(er:Nat)(q1 q2 q3 q4:Nat) (m:Int)(tm:Nat) (a:Int)(ta eb:Nat) (d:Addr)(es:Array DictEntry)(ep:Nat) (x:Int)(tx:Nat)(vs:List Value)(ea:Nat) (o:Obj)(dm:Nat):Con:=⟨nxC false w 3 L LC cb it acc,n,t,[(LC,oD0),(it,lIt rw i),(rw,oL0 ws er),(acc,oL0 vs ea),(cb,oCell (.ref bk)),(bk,dD (dSt w (bkL q1 q2 q3 q4 m tm a ta hd d)) eb),(d,dD es ep)],[oD w.params 1 [("port",t,.int x tx)],⟨.type "list_iterator",none,.fields #[.ref rw,.int (↑(i+1)) 0],#[]⟩,(oL0 (ws) er),(oL0 (vs++[Value.int x tx]) (ea+1)),(oCell (.ref bk)),oD w.params eb [("many",q1,.int m tm),("at",q2,.int a ta),("held",q3,.ref hd),("heard",q4,.ref d)],(dD es ep)],[],.ok .next,2+(dm)+0,3+(0)+0,6⟩
theorem fil3M0_ok (w ba bb fz n t L LC cb it acc rw bk hd hr i ws er q1 q2 q3 q4 m tm a ta eb d es ep x tx vs ea o dm)(hc:∀D∈([cNextL n t it rw i ws er (.int x tx),cGetS w n (t+2) bk (bkL q1 q2 q3 q4 m tm a ta hd d) eb "heard" (t+1) (.ref d),cVals n (t+3) d es ep,cIterV (n+1) (t+3) n d es ep,cHas (n+2) (t+3) (n+1) d es ep x tx o false dm,cApp (n+2+dm) (t+3) acc vs ea (.int x tx)]:List Con),ConOk (wR w ba bb) fz D):TurnOk (wR w ba bb) fz (fil3M0_c w n t L LC cb it acc rw bk hd hr i ws er q1 q2 q3 q4 m tm a ta eb d es ep x tx vs ea o dm) (nxC false w 3 L LC cb it acc):=by
 cases ba<;>exact turn_run (N:=48) (m₀:=7) (w0:=0) (u0:=0) (ze:=n+2+dm) (te:=t+3) (hs:=fil2M0_h0) (ni:=[]) (by kernel_rfl) rfl rfl (by kernel_rfl) (by show n+2+dm=n+(2+(dm)+0); omega) (by show t+3=t+(3+(0)+0); omega) (by kernel_rfl) hc nm nm
def fil3E0_c (w:World)(n t:Nat)(L LC cb it acc rw bk hd hr:Addr) (i:Nat)(ws:List Value)(er:Nat)(q1 q2 q3 q4:Nat) (m:Int)(tm:Nat) (a:Int)(ta eb:Nat) (d:Addr)(es:Array DictEntry)(ep:Nat) (x:Int)(tx:Nat)(vs:List Value)(ea:Nat):Con:=⟨nxC false w 3 L LC cb it acc,n,t,[(LC,oD0),(it,lIt rw i),(rw,oL0 ws er),(acc,oL0 vs ea),(cb,oCell (.ref bk)),(bk,dD (dSt w (bkL q1 q2 q3 q4 m tm a ta hd d)) eb),(d,dD es ep)],[(dD #[] 0),⟨.type "list_iterator",none,.fields #[.none,.int ↑i 0],#[]⟩,(oL0 (ws) er),(oL0 (vs) ea),(oCell (.ref bk)),oD w.params eb [("many",q1,.int m tm),("at",q2,.int a ta),("held",q3,.ref hd),("heard",q4,.ref d)],(dD es ep)],[],.ok .next,2,0,5⟩
theorem fil3E0_ok (w ba bb fz n t L LC cb it acc rw bk hd hr i ws er q1 q2 q3 q4 m tm a ta eb d es ep x tx vs ea)(hc:∀D∈([cEndL n t it rw i ws er]:List Con),ConOk (wR w ba bb) fz D):ConOk (wR w ba bb) fz (fil3E0_c w n t L LC cb it acc rw bk hd hr i ws er q1 q2 q3 q4 m tm a ta eb d es ep x tx vs ea):=by
 exact con_run (N:=10) (m₀:=7) (w0:=0) (u0:=0) (ze:=n+2) (te:=t) (hs:=fil2E0_h0) (ni:=[]) (by kernel_rfl) rfl rfl (by kernel_rfl) rfl rfl (by kernel_rfl) hc nm nm
def fil3H1_c (w:World)(n t:Nat)(L LC cb it acc rw bk hd hr:Addr) (i:Nat)(ws:List Value)(er:Nat)(q1 q2 q3 q4:Nat) (m:Int)(tm:Nat) (a:Int)(ta eb:Nat) (d:Addr)(es:Array DictEntry)(ep:Nat) (x:Int)(tx:Nat)(vs:List Value)(ea:Nat)(tl:Nat) (v:Value) (o:Obj)(dm:Nat):Con:=⟨nxC false w 3 L LC cb it acc,n,t,[(LC,oD w.params 1 [("port",tl,v)]),(it,lIt rw i),(rw,oL0 ws er),(acc,oL0 vs ea),(cb,oCell (.ref bk)),(bk,dD (dSt w (bkL q1 q2 q3 q4 m tm a ta hd d)) eb),(d,dD es ep)],[oD w.params 1 [("port",tl,.int x tx)],⟨.type "list_iterator",none,.fields #[.ref rw,.int (↑(i+1)) 0],#[]⟩,(oL0 (ws) er),(oL0 (vs) ea),(oCell (.ref bk)),oD w.params eb [("many",q1,.int m tm),("at",q2,.int a ta),("held",q3,.ref hd),("heard",q4,.ref d)],(dD es ep)],[],.ok .next,2+(dm)+0,3+(0)+0,6⟩
theorem fil3H1_ok (w ba bb fz n t L LC cb it acc rw bk hd hr i ws er q1 q2 q3 q4 m tm a ta eb d es ep x tx vs ea tl v o dm)(hc:∀D∈([cNextL n t it rw i ws er (.int x tx),cGetS w n (t+2) bk (bkL q1 q2 q3 q4 m tm a ta hd d) eb "heard" (t+1) (.ref d),cVals n (t+3) d es ep,cIterV (n+1) (t+3) n d es ep,cHas (n+2) (t+3) (n+1) d es ep x tx o true dm]:List Con),ConOk (wR w ba bb) fz D):TurnOk (wR w ba bb) fz (fil3H1_c w n t L LC cb it acc rw bk hd hr i ws er q1 q2 q3 q4 m tm a ta eb d es ep x tx vs ea tl v o dm) (nxC false w 3 L LC cb it acc):=by
 cases ba<;>exact turn_run (N:=45) (m₀:=7) (w0:=0) (u0:=0) (ze:=n+2+dm) (te:=t+3) (hs:=fil2H0_h0) (ni:=[]) (by kernel_rfl) rfl rfl (by kernel_rfl) (by show n+2+dm=n+(2+(dm)+0); omega) (by show t+3=t+(3+(0)+0); omega) (by kernel_rfl) hc nm nm
def fil3M1_c (w:World)(n t:Nat)(L LC cb it acc rw bk hd hr:Addr) (i:Nat)(ws:List Value)(er:Nat)(q1 q2 q3 q4:Nat) (m:Int)(tm:Nat) (a:Int)(ta eb:Nat) (d:Addr)(es:Array DictEntry)(ep:Nat) (x:Int)(tx:Nat)(vs:List Value)(ea:Nat)(tl:Nat) (v:Value) (o:Obj)(dm:Nat):Con:=⟨nxC false w 3 L LC cb it acc,n,t,[(LC,oD w.params 1 [("port",tl,v)]),(it,lIt rw i),(rw,oL0 ws er),(acc,oL0 vs ea),(cb,oCell (.ref bk)),(bk,dD (dSt w (bkL q1 q2 q3 q4 m tm a ta hd d)) eb),(d,dD es ep)],[oD w.params 1 [("port",tl,.int x tx)],⟨.type "list_iterator",none,.fields #[.ref rw,.int (↑(i+1)) 0],#[]⟩,(oL0 (ws) er),(oL0 (vs++[Value.int x tx]) (ea+1)),(oCell (.ref bk)),oD w.params eb [("many",q1,.int m tm),("at",q2,.int a ta),("held",q3,.ref hd),("heard",q4,.ref d)],(dD es ep)],[],.ok .next,2+(dm)+0,3+(0)+0,6⟩
theorem fil3M1_ok (w ba bb fz n t L LC cb it acc rw bk hd hr i ws er q1 q2 q3 q4 m tm a ta eb d es ep x tx vs ea tl v o dm)(hc:∀D∈([cNextL n t it rw i ws er (.int x tx),cGetS w n (t+2) bk (bkL q1 q2 q3 q4 m tm a ta hd d) eb "heard" (t+1) (.ref d),cVals n (t+3) d es ep,cIterV (n+1) (t+3) n d es ep,cHas (n+2) (t+3) (n+1) d es ep x tx o false dm,cApp (n+2+dm) (t+3) acc vs ea (.int x tx)]:List Con),ConOk (wR w ba bb) fz D):TurnOk (wR w ba bb) fz (fil3M1_c w n t L LC cb it acc rw bk hd hr i ws er q1 q2 q3 q4 m tm a ta eb d es ep x tx vs ea tl v o dm) (nxC false w 3 L LC cb it acc):=by
 cases ba<;>exact turn_run (N:=48) (m₀:=7) (w0:=0) (u0:=0) (ze:=n+2+dm) (te:=t+3) (hs:=fil2M0_h0) (ni:=[]) (by kernel_rfl) rfl rfl (by kernel_rfl) (by show n+2+dm=n+(2+(dm)+0); omega) (by show t+3=t+(3+(0)+0); omega) (by kernel_rfl) hc nm nm
def fil3E1_c (w:World)(n t:Nat)(L LC cb it acc rw bk hd hr:Addr) (i:Nat)(ws:List Value)(er:Nat)(q1 q2 q3 q4:Nat) (m:Int)(tm:Nat) (a:Int)(ta eb:Nat) (d:Addr)(es:Array DictEntry)(ep:Nat) (x:Int)(tx:Nat)(vs:List Value)(ea:Nat)(tl:Nat) (v:Value):Con:=⟨nxC false w 3 L LC cb it acc,n,t,[(LC,oD w.params 1 [("port",tl,v)]),(it,lIt rw i),(rw,oL0 ws er),(acc,oL0 vs ea),(cb,oCell (.ref bk)),(bk,dD (dSt w (bkL q1 q2 q3 q4 m tm a ta hd d)) eb),(d,dD es ep)],[oD w.params 1 [("port",tl,v)],⟨.type "list_iterator",none,.fields #[.none,.int ↑i 0],#[]⟩,(oL0 (ws) er),(oL0 (vs) ea),(oCell (.ref bk)),oD w.params eb [("many",q1,.int m tm),("at",q2,.int a ta),("held",q3,.ref hd),("heard",q4,.ref d)],(dD es ep)],[],.ok .next,2,0,5⟩
theorem fil3E1_ok (w ba bb fz n t L LC cb it acc rw bk hd hr i ws er q1 q2 q3 q4 m tm a ta eb d es ep x tx vs ea tl v)(hc:∀D∈([cEndL n t it rw i ws er]:List Con),ConOk (wR w ba bb) fz D):ConOk (wR w ba bb) fz (fil3E1_c w n t L LC cb it acc rw bk hd hr i ws er q1 q2 q3 q4 m tm a ta eb d es ep x tx vs ea tl v):=by
 exact con_run (N:=10) (m₀:=7) (w0:=0) (u0:=0) (ze:=n+2) (te:=t) (hs:=fil2E0_h0) (ni:=[]) (by kernel_rfl) rfl rfl (by kernel_rfl) rfl rfl (by kernel_rfl) hc nm nm
section
noncomputable def rowL (a m:Int):Nat->Int->List Int
 | 0,_=>[]
 | k+1,x=>(29+(a - 29+x).fmod m)::rowL a m k (x+1)
theorem turn_c {w:World}{fz:Addr->Option Obj}{C₁ C₂:Con}(nd:Nat) (T:TurnOk w fz C₁ C₂.code) (K:ConOk w fz C₂)(hn:C₂.n=C₁.n+C₁.dm)(ht:C₂.t=C₁.t+C₁.dt)(hl:C₁.post.length=C₁.pre.length)(hp:C₂.pre=zipA C₁.pre C₁.post++C₁.news)(hlp:C₂.post.length=C₁.pre.length)(h1:Nat.ble C₁.nd nd=true)(h2:Nat.ble C₂.nd nd=true):
  ConOk w fz ⟨C₁.code,C₁.n,C₁.t,C₁.pre,C₂.post,C₂.news,C₂.res,C₁.dm+C₂.dm,C₁.dt+C₂.dt,nd⟩:=turn_con T K hn ht hl hp (append_nil _).symm hlp (le_of_ble_eq_true h1) (le_of_ble_eq_true h2)
def IsV (zs:List Int)(ws:List Value):Prop:=ws.map intV=zs/\∀v∈ws,IsI v
theorem IsV.cons {z:Int} {t:Nat}{zs:List Int}{ws:List Value} (h:IsV zs ws):IsV (z::zs) (.int z t::ws):=⟨by rw[map_cons,h.1]; rfl,fun v hv=>by
 cases hv with
 | head=>exact⟨z,t,rfl⟩
 | tail _ hv=>exact h.2 v hv⟩
theorem IsV.nil:IsV [] []:=⟨rfl,fun _ h=>nomatch h⟩
theorem rowL_len (a m:Int):∀k x,(rowL a m k x).length=k
 | 0,_=>rfl
 | k+1,x=>by show(rowL a m k (x+1)).length+1=k+1; rw[rowL_len a m k]
theorem IsV.len {zs:List Int}{ws:List Value} (h:IsV zs ws):ws.length=zs.length:=by rw[<- h.1,length_map]
section
variable {w:World}{ba bb:Bool}{fz:Addr->Option Obj}{L LC cm cb it acc bk hd hr:Addr}{q1 q2 q3 q4:Nat} {m:Int}{tm:Nat} {a:Int}{ta eb:Nat}
theorem bk_many {n t tx:Nat}:ConOk w fz (cGetS w n t bk (bkL q1 q2 q3 q4 m tm a ta hd hr) eb "many" tx (.int m tm)):=cGetS_ok (i:=0) (y:=("many",q1,.int m tm)) (by kernel_rfl) rfl
theorem bk_at {n t tx:Nat}:ConOk w fz (cGetS w n t bk (bkL q1 q2 q3 q4 m tm a ta hd hr) eb "at" tx (.int a ta)):=cGetS_ok (i:=1) (y:=("at",q2,.int a ta)) (by kernel_rfl) rfl
theorem bk_held {n t tx:Nat}:ConOk w fz (cGetS w n t bk (bkL q1 q2 q3 q4 m tm a ta hd hr) eb "held" tx (.ref hd)):=cGetS_ok (i:=2) (y:=("held",q3,.ref hd)) (by kernel_rfl) rfl
theorem bk_heard {n t tx:Nat}:ConOk w fz (cGetS w n t bk (bkL q1 q2 q3 q4 m tm a ta hd hr) eb "heard" tx (.ref hr)):=cGetS_ok (i:=3) (y:=("heard",q4,.ref hr)) (by kernel_rfl) rfl
theorem bk_put {n t tx:Nat} {b:Int}{tb:Nat}:ConOk w fz (cPutS w n t bk (bkL q1 q2 q3 q4 m tm a ta hd hr) (bkL q1 q2 q3 q4 m tm b tb hd hr) eb "at" tx (.int b tb)):=cPutS_ok (i:=1) (by kernel_rfl) rfl
theorem row_loop1 (hm:m≠0):∀k x n t ea tl v vs,vs.length+k<=60->∃dm dt ws o tl' v',IsV (rowL a m k x) ws/\ConOk (wR w ba bb) fz ⟨nxC1 false w L LC cm cb it acc,n,t,[(LC,oD w.params 1 [("step",tl,v)]),(it,rIt x k),(acc,oL0 vs ea),(cm,oCell (.int m tm)),(cb,oCell (.ref bk)),(bk,dD (dSt w (bkL q1 q2 q3 q4 m tm a ta hd hr)) eb)],[oD w.params 1 [("step",tl',v')],o,oL0 (vs++ws) (ea+k),oCell (.int m tm),oCell (.ref bk),dD (dSt w (bkL q1 q2 q3 q4 m tm a ta hd hr)) eb],[],.ok .next,dm,dt,5⟩
 | 0,x,n,t,ea,tl,v,vs,h=>⟨_,_,[],_,_,_,.nil,by
  rw[append_nil]
  exact rowE1_ok w ba bb fz n t L LC cm cb it acc bk hd hr q1 q2 q3 q4 m tm a ta eb x 0 vs ea tl v (all1 (cEndR_ok (Int.le_refl _)))⟩
 | k+1,x,n,t,ea,tl,v,vs,h=>by
  obtain⟨dm,dt,ws,o,tl',v',hw,K⟩:=row_loop1 hm k (x+1) (n+0) (t+10) (ea+1) tl (.int x t) (vs++[.int (29+(a - 29+x).fmod m) (t+9)]) (by rw[length_append]; simp; omega)
  have T:=rowT1_ok w ba bb fz n t L LC cm cb it acc bk hd hr q1 q2 q3 q4 m tm a ta eb x (k+1) vs ea tl v (ac (cNextR_ok (by omega)) (ac bk_at (ac (cMod_ok hm) (all1 (cApp_ok (by omega))))))
  refine⟨0+dm,10+dt,.int (29+(a - 29+x).fmod m) (t+9)::ws,o,tl',v',hw.cons,?_⟩
  rw[show vs++.int (29+(a - 29+x).fmod m) (t+9)::ws=vs++[.int (29+(a - 29+x).fmod m) (t+9)]++ws by simp,show ea+(k+1)=ea+1+k by omega]
  refine turn_con' (C₁:=rowT1_c w n t L LC cm cb it acc bk hd hr q1 q2 q3 q4 m tm a ta eb x (k+1) vs ea tl v) (rest:=[]) T K rfl rfl rfl rfl ?_ rfl rfl rfl rfl
  show _= [_,(it,rIt (x+1) ((k+1:Int) - 1)),_,_,_,_]
  rw[show((k+1:Int) - 1)=k by omega]
  try rfl
def cRow (w:World)(n t:Nat)(L LC cm cb it acc bk:Addr) (m:Int)(tm:Nat) (B:List (Str×Nat×Value))(eb:Nat)(d' o:Obj)(ws:List Value)(ea dm dt:Nat):Con:=
 ⟨nxC1 true w L LC cm cb it acc,n,t,[(LC,oD0),(it,rIt 0 m),(acc,oL0 [] 0),(cm,oCell (.int m tm)),(cb,oCell (.ref bk)),(bk,dD (dSt w B) eb)],[d',o,oL0 ws ea,oCell (.int m tm),oCell (.ref bk),dD (dSt w B) eb],[],.ok .next,dm,dt,5⟩
theorem row_ok {k:Nat}(hm:m=k+1)(hk:k<=50)(n t:Nat):∃dm dt ws o tl' v',IsV (rowL a m (k+1) 0) ws/\ConOk (wR w ba bb) fz (cRow w n t L LC cm cb it acc bk m tm (bkL q1 q2 q3 q4 m tm a ta hd hr) eb (oD w.params 1 [("step",tl',v')]) o ws (k+1) dm dt):=by
 have m0:m≠0:=by omega
 obtain⟨dm,dt,ws,o,tl',v',hw,K⟩:=row_loop1 (w:=w) (ba:=ba) (bb:=bb) (fz:=fz) (L:=L) (LC:=LC) (cm:=cm) (cb:=cb) (it:=it) (acc:=acc) (bk:=bk) (hd:=hd) (hr:=hr) (q1:=q1) (q2:=q2) (q3:=q3) (q4:=q4) (tm:=tm) (a:=a) (ta:=ta) (eb:=eb) m0 k (0+1) (n+0) (t+10) (0+1) (t+1) (.int 0 t) ([]++[.int (29+(a - 29+0).fmod m) (t+9)]) (by simp; omega)
 have S:=rowS_ok w ba bb fz n t L LC cm cb it acc bk hd hr q1 q2 q3 q4 m tm a ta eb 0 m [] 0
 have T:=rowT0_ok w ba bb fz n t L LC cm cb it acc bk hd hr q1 q2 q3 q4 m tm a ta eb 0 m [] 0 (ac (cNextR_ok (by omega)) (ac bk_at (ac (cMod_ok m0) (all1 (cApp_ok (by decide))))))
 refine⟨0+(0+dm),0+(10+dt),.int (29+(a - 29+0).fmod m) (t+9)::ws,o,tl',v',hw.cons,?_⟩
 rw[show[]++[Value.int (29+(a - 29+0).fmod m) (t+9)]++ws=.int (29+(a - 29+0).fmod m) (t+9)::ws from rfl,show 0+1+k=k+1 by omega] at K
 have K₂:ConOk (wR w ba bb) fz ⟨nxC1 false w L LC cm cb it acc,n,t,[(LC,oD0),(it,rIt 0 m),(acc,oL0 [] 0),(cm,oCell (.int m tm)),(cb,oCell (.ref bk)),(bk,dD (dSt w (bkL q1 q2 q3 q4 m tm a ta hd hr)) eb)],[oD w.params 1 [("step",tl',v')],o,oL0 (.int (29+(a - 29+0).fmod m) (t+9)::ws) (k+1),oCell (.int m tm),oCell (.ref bk),dD (dSt w (bkL q1 q2 q3 q4 m tm a ta hd hr)) eb],[],.ok .next,0+dm,10+dt,5⟩:=by
  refine turn_con' (C₁:=rowT0_c w n t L LC cm cb it acc bk hd hr q1 q2 q3 q4 m tm a ta eb 0 m [] 0) (rest:=[]) T K rfl rfl rfl rfl ?_ rfl rfl rfl rfl
  show _= [_,(it,rIt (0+1) (m - 1)),_,_,_,_]
  rw[show m - 1=k by omega]
  try rfl
 exact turn_con' (C₁:=rowS_c w n t L LC cm cb it acc bk hd hr q1 q2 q3 q4 m tm a ta eb 0 m [] 0) (rest:=[]) S K₂ rfl rfl rfl rfl rfl rfl rfl rfl rfl
end
noncomputable def notIn (l:List Ent)(ws:List Value):List Value:=ws.filter fun v=>!(l.any fun e=>intV e.2.2 == intV v)
theorem notIn_hit {l:List Ent}{ws:List Value} {x:Int}{tx:Nat} (h:(l.any fun e=>intV e.2.2 == x)=true):notIn l (.int x tx::ws)=notIn l ws:=by
 unfold notIn
 rw[filter_cons,if_neg (by show ¬ (!(l.any fun e=>intV e.2.2 == x))=true; rw[h]; decide)]
theorem notIn_miss {l:List Ent}{ws:List Value} {x:Int}{tx:Nat} (h:(l.any fun e=>intV e.2.2 == x)=false):notIn l (.int x tx::ws)=.int x tx::notIn l ws:=by
 unfold notIn
 rw[filter_cons,if_pos (by show(!(l.any fun e=>intV e.2.2 == x))=true; rw[h]; decide)]
section
variable {w:World}{ba bb:Bool}{fz:Addr->Option Obj}{L LC cb it acc rw bk hd hr d:Addr}{q1 q2 q3 q4:Nat} {m:Int}{tm:Nat} {a:Int}{ta eb:Nat} {l:List Ent}{ep:Nat}{ws:List Value}{er:Nat}
theorem fil2_loop1 (hl:∀e∈l,IsI e.2.2)(hw:∀v∈ws,IsI v)(hn:ws.length<=60):∀k i n t ea tl v vs,i+k=ws.length->vs.length<=i->∃dm dt o tl' v',ConOk (wR w ba bb) fz
  ⟨nxC false w 2 L LC cb it acc,n,t,[(LC,oD w.params 1 [("port",tl,v)]),(it,lIt rw i),(rw,oL0 ws er),(acc,oL0 vs ea),(cb,oCell (.ref bk)),(bk,dD (dSt w (bkL q1 q2 q3 q4 m tm a ta d hr)) eb),(d,dD (dI l) ep)],[oD w.params 1 [("port",tl',v')],o,oL0 ws er,oL0 (vs++notIn l (ws.drop i)) (ea+(notIn l (ws.drop i)).length),oCell (.ref bk),dD (dSt w (bkL q1 q2 q3 q4 m tm a ta d hr)) eb,dD (dI l) ep],[],.ok .next,dm,dt,6⟩
 | 0,i,n,t,ea,tl,v,vs,e,hv=>by
  rw[show ws.drop i= [] from List.drop_eq_nil_of_le (by omega),show notIn l []= [] from rfl,append_nil]
  exact⟨_,_,_,_,_,con_as (fil2E1_ok w ba bb fz n t L LC cb it acc rw bk 0 hr i ws er q1 q2 q3 q4 m tm a ta eb d (dI l) ep 0 0 vs ea tl v (all1 (cEndL_ok (by omega)))) rfl rfl rfl rfl rfl⟩
 | k+1,i,n,t,ea,tl,v,vs,e,hv=>by
  have hi:i < ws.length:=by omega
  have hd':ws.drop i=ws[i]::ws.drop (i+1):=List.drop_eq_getElem_cons hi
  obtain⟨x,tx,hx⟩:=hw _ (getElem_mem hi)
  obtain⟨o1,dm1,H⟩:=has_ok (w:=wR w ba bb) (fz:=fz) (t:=t+3) (it:=n+1) (d:=d) (ep:=ep) (x:=x) (tx:=tx) hl (n+2)
  have hg:ws[i]?=some (.int x tx):=by rw[List.getElem?_eq_getElem hi,hx]
  rw[hd',hx]
  cases b:(l.any fun e=>intV e.2.2 == x) with
  | true=>
   rw[b] at H
   obtain⟨dm,dt,o,tl',v',K⟩:=fil2_loop1 hl hw hn k (i+1) (n+(2+dm1+0)) (t+(3+0+0)) ea tl (.int x tx) vs (by omega) (by omega)
   have T:=fil2H1_ok w ba bb fz n t L LC cb it acc rw bk 0 hr i ws er q1 q2 q3 q4 m tm a ta eb d (dI l) ep x tx vs ea tl v o1 dm1 (ac (cNextL_ok hg) (ac bk_held (ac cVals_ok (all2 cIterV_ok H))))
   rw[notIn_hit b]
   exact⟨2+dm1+0+dm,3+0+0+dt,o,tl',v',turn_con' (C₁:=fil2H1_c w n t L LC cb it acc rw bk 0 hr i ws er q1 q2 q3 q4 m tm a ta eb d (dI l) ep x tx vs ea tl v o1 dm1) (rest:=[]) T K rfl rfl rfl rfl rfl rfl rfl rfl rfl⟩
  | false=>
   rw[b] at H
   obtain⟨dm,dt,o,tl',v',K⟩:=fil2_loop1 hl hw hn k (i+1) (n+(2+dm1+0)) (t+(3+0+0)) (ea+1) tl (.int x tx) (vs++[.int x tx]) (by omega) (by rw[length_append]; simp; omega)
   have T:=fil2M1_ok w ba bb fz n t L LC cb it acc rw bk 0 hr i ws er q1 q2 q3 q4 m tm a ta eb d (dI l) ep x tx vs ea tl v o1 dm1 (ac (cNextL_ok hg) (ac bk_held (ac cVals_ok (ac cIterV_ok (all2 H (cApp_ok (by omega)))))))
   rw[notIn_miss b,show ∀y:List Value,vs++.int x tx::y=vs++[.int x tx]++y from fun y=>by simp,length_cons,show ∀y:Nat,ea+(y+1)=ea+1+y from fun y=>by omega]
   exact⟨2+dm1+0+dm,3+0+0+dt,o,tl',v',turn_con' (C₁:=fil2M1_c w n t L LC cb it acc rw bk 0 hr i ws er q1 q2 q3 q4 m tm a ta eb d (dI l) ep x tx vs ea tl v o1 dm1) (rest:=[]) T K rfl rfl rfl rfl rfl rfl rfl rfl rfl⟩
def cFil2 (w:World)(n t:Nat)(L LC cb it acc rw bk d:Addr) (B:List (Str×Nat×Value))(eb:Nat) (l:List Ent)(ep:Nat)(ws:List Value)(er:Nat)(d' o:Obj)(us:List Value)(ea dm dt:Nat):Con:=
 ⟨nxC true w 2 L LC cb it acc,n,t,[(LC,oD0),(it,lIt rw 0),(rw,oL0 ws er),(acc,oL0 [] 0),(cb,oCell (.ref bk)),(bk,dD (dSt w B) eb),(d,dD (dI l) ep)],[d',o,oL0 ws er,oL0 us ea,oCell (.ref bk),dD (dSt w B) eb,dD (dI l) ep],[],.ok .next,dm,dt,6⟩
theorem fil2_ok (hl:∀e∈l,IsI e.2.2)(hw:∀v∈ws,IsI v)(hn:ws.length<=60)(n t:Nat):∃dm dt d' o,((ws= []/\d'=oD0)\/(ws≠ []/\∃tl' v',d'=oD w.params 1 [("port",tl',v')]))/\ConOk (wR w ba bb) fz
  (cFil2 w n t L LC cb it acc rw bk d (bkL q1 q2 q3 q4 m tm a ta d hr) eb l ep ws er d' o (notIn l ws) (notIn l ws).length dm dt):=by
 have S:=fil2S_ok w ba bb fz n t L LC cb it acc rw bk 0 hr 0 ws er q1 q2 q3 q4 m tm a ta eb d (dI l) ep 0 0 [] 0
 cases ws with
 | nil=>exact⟨0+_,0+_,_,_,.inl ⟨rfl,rfl⟩,turn_con' (C₁:=fil2S_c w n t L LC cb it acc rw bk 0 hr 0 [] er q1 q2 q3 q4 m tm a ta eb d (dI l) ep 0 0 [] 0) (rest:=[]) S (fil2E0_ok w ba bb fz n t L LC cb it acc rw bk 0 hr 0 [] er q1 q2 q3 q4 m tm a ta eb d (dI l) ep 0 0 [] 0 (all1 (cEndL_ok (le_refl _)))) rfl rfl rfl rfl rfl rfl rfl rfl rfl⟩
 | cons u us=>
  obtain⟨x,tx,rfl⟩:=hw u (.head _)
  obtain⟨o1,dm1,H⟩:=has_ok (w:=wR w ba bb) (fz:=fz) (t:=t+3) (it:=n+1) (d:=d) (ep:=ep) (x:=x) (tx:=tx) hl (n+2)
  cases b:(l.any fun e=>intV e.2.2 == x) with
  | true=>
   rw[b] at H
   obtain⟨dm,dt,o,tl',v',K⟩:=fil2_loop1 (w:=w) (ba:=ba) (bb:=bb) (fz:=fz) (L:=L) (LC:=LC) (cb:=cb) (it:=it) (acc:=acc) (rw:=rw) (bk:=bk) (hr:=hr) (d:=d) (q1:=q1) (q2:=q2) (q3:=q3) (q4:=q4) (m:=m) (tm:=tm) (a:=a) (ta:=ta) (eb:=eb) (ep:=ep) (er:=er) hl hw hn us.length 1 (n+(2+dm1+0)) (t+(3+0+0)) 0 t (.int x tx) [] (by rw[length_cons]; omega) (Nat.zero_le _)
   have T:=fil2H0_ok w ba bb fz n t L LC cb it acc rw bk 0 hr 0 (.int x tx::us) er q1 q2 q3 q4 m tm a ta eb d (dI l) ep x tx [] 0 o1 dm1 (ac (cNextL_ok rfl) (ac bk_held (ac cVals_ok (all2 cIterV_ok H))))
   rw[notIn_hit b]
   rw[show(Value.int x tx::us).drop 1=us from rfl,nil_append,Nat.zero_add] at K
   have K₂:=turn_c 6 (C₁:=fil2H0_c w n t L LC cb it acc rw bk 0 hr 0 (.int x tx::us) er q1 q2 q3 q4 m tm a ta eb d (dI l) ep x tx [] 0 o1 dm1) T K rfl rfl rfl rfl rfl rfl rfl
   exact⟨_,_,_,_,.inr ⟨List.cons_ne_nil _ _,_,_,rfl⟩,turn_con' (C₁:=fil2S_c w n t L LC cb it acc rw bk 0 hr 0 (.int x tx::us) er q1 q2 q3 q4 m tm a ta eb d (dI l) ep 0 0 [] 0) (rest:=[]) S K₂ rfl rfl rfl rfl rfl rfl rfl rfl rfl⟩
  | false=>
   rw[b] at H
   obtain⟨dm,dt,o,tl',v',K⟩:=fil2_loop1 (w:=w) (ba:=ba) (bb:=bb) (fz:=fz) (L:=L) (LC:=LC) (cb:=cb) (it:=it) (acc:=acc) (rw:=rw) (bk:=bk) (hr:=hr) (d:=d) (q1:=q1) (q2:=q2) (q3:=q3) (q4:=q4) (m:=m) (tm:=tm) (a:=a) (ta:=ta) (eb:=eb) (ep:=ep) (er:=er) hl hw hn us.length 1 (n+(2+dm1+0)) (t+(3+0+0)) 1 t (.int x tx) [.int x tx] (by rw[length_cons]; omega) (le_refl _)
   have T:=fil2M0_ok w ba bb fz n t L LC cb it acc rw bk 0 hr 0 (.int x tx::us) er q1 q2 q3 q4 m tm a ta eb d (dI l) ep x tx [] 0 o1 dm1 (ac (cNextL_ok rfl) (ac bk_held (ac cVals_ok (ac cIterV_ok (all2 H (cApp_ok (by decide)))))))
   rw[notIn_miss b]
   rw[show(Value.int x tx::us).drop 1=us from rfl,show[Value.int x tx]++notIn l us=.int x tx::notIn l us from rfl,show 1+(notIn l us).length=(Value.int x tx::notIn l us).length by rw[length_cons,Nat.add_comm]] at K
   have K₂:=turn_c 6 (C₁:=fil2M0_c w n t L LC cb it acc rw bk 0 hr 0 (.int x tx::us) er q1 q2 q3 q4 m tm a ta eb d (dI l) ep x tx [] 0 o1 dm1) T K rfl rfl rfl rfl rfl rfl rfl
   exact⟨_,_,_,_,.inr ⟨List.cons_ne_nil _ _,_,_,rfl⟩,turn_con' (C₁:=fil2S_c w n t L LC cb it acc rw bk 0 hr 0 (.int x tx::us) er q1 q2 q3 q4 m tm a ta eb d (dI l) ep 0 0 [] 0) (rest:=[]) S K₂ rfl rfl rfl rfl rfl rfl rfl rfl rfl⟩
end
section
variable {w:World}{ba bb:Bool}{fz:Addr->Option Obj}{L LC cb it acc rw bk hd hr d:Addr}{q1 q2 q3 q4:Nat} {m:Int}{tm:Nat} {a:Int}{ta eb:Nat} {l:List Ent}{ep:Nat}{ws:List Value}{er:Nat}
theorem fil3_loop1 (hl:∀e∈l,IsI e.2.2)(hw:∀v∈ws,IsI v)(hn:ws.length<=60):∀k i n t ea tl v vs,i+k=ws.length->vs.length<=i->∃dm dt o tl' v',ConOk (wR w ba bb) fz
  ⟨nxC false w 3 L LC cb it acc,n,t,[(LC,oD w.params 1 [("port",tl,v)]),(it,lIt rw i),(rw,oL0 ws er),(acc,oL0 vs ea),(cb,oCell (.ref bk)),(bk,dD (dSt w (bkL q1 q2 q3 q4 m tm a ta hd d)) eb),(d,dD (dI l) ep)],[oD w.params 1 [("port",tl',v')],o,oL0 ws er,oL0 (vs++notIn l (ws.drop i)) (ea+(notIn l (ws.drop i)).length),oCell (.ref bk),dD (dSt w (bkL q1 q2 q3 q4 m tm a ta hd d)) eb,dD (dI l) ep],[],.ok .next,dm,dt,6⟩
 | 0,i,n,t,ea,tl,v,vs,e,hv=>by
  rw[show ws.drop i= [] from List.drop_eq_nil_of_le (by omega),show notIn l []= [] from rfl,append_nil]
  exact⟨_,_,_,_,_,con_as (fil3E1_ok w ba bb fz n t L LC cb it acc rw bk hd 0 i ws er q1 q2 q3 q4 m tm a ta eb d (dI l) ep 0 0 vs ea tl v (all1 (cEndL_ok (by omega)))) rfl rfl rfl rfl rfl⟩
 | k+1,i,n,t,ea,tl,v,vs,e,hv=>by
  have hi:i < ws.length:=by omega
  have hd':ws.drop i=ws[i]::ws.drop (i+1):=List.drop_eq_getElem_cons hi
  obtain⟨x,tx,hx⟩:=hw _ (getElem_mem hi)
  obtain⟨o1,dm1,H⟩:=has_ok (w:=wR w ba bb) (fz:=fz) (t:=t+3) (it:=n+1) (d:=d) (ep:=ep) (x:=x) (tx:=tx) hl (n+2)
  have hg:ws[i]?=some (.int x tx):=by rw[List.getElem?_eq_getElem hi,hx]
  rw[hd',hx]
  cases b:(l.any fun e=>intV e.2.2 == x) with
  | true=>
   rw[b] at H
   obtain⟨dm,dt,o,tl',v',K⟩:=fil3_loop1 hl hw hn k (i+1) (n+(2+dm1+0)) (t+(3+0+0)) ea tl (.int x tx) vs (by omega) (by omega)
   have T:=fil3H1_ok w ba bb fz n t L LC cb it acc rw bk hd 0 i ws er q1 q2 q3 q4 m tm a ta eb d (dI l) ep x tx vs ea tl v o1 dm1 (ac (cNextL_ok hg) (ac bk_heard (ac cVals_ok (all2 cIterV_ok H))))
   rw[notIn_hit b]
   exact⟨2+dm1+0+dm,3+0+0+dt,o,tl',v',turn_con' (C₁:=fil3H1_c w n t L LC cb it acc rw bk hd 0 i ws er q1 q2 q3 q4 m tm a ta eb d (dI l) ep x tx vs ea tl v o1 dm1) (rest:=[]) T K rfl rfl rfl rfl rfl rfl rfl rfl rfl⟩
  | false=>
   rw[b] at H
   obtain⟨dm,dt,o,tl',v',K⟩:=fil3_loop1 hl hw hn k (i+1) (n+(2+dm1+0)) (t+(3+0+0)) (ea+1) tl (.int x tx) (vs++[.int x tx]) (by omega) (by rw[length_append]; simp; omega)
   have T:=fil3M1_ok w ba bb fz n t L LC cb it acc rw bk hd 0 i ws er q1 q2 q3 q4 m tm a ta eb d (dI l) ep x tx vs ea tl v o1 dm1 (ac (cNextL_ok hg) (ac bk_heard (ac cVals_ok (ac cIterV_ok (all2 H (cApp_ok (by omega)))))))
   rw[notIn_miss b,show ∀y:List Value,vs++.int x tx::y=vs++[.int x tx]++y from fun y=>by simp,length_cons,show ∀y:Nat,ea+(y+1)=ea+1+y from fun y=>by omega]
   exact⟨2+dm1+0+dm,3+0+0+dt,o,tl',v',turn_con' (C₁:=fil3M1_c w n t L LC cb it acc rw bk hd 0 i ws er q1 q2 q3 q4 m tm a ta eb d (dI l) ep x tx vs ea tl v o1 dm1) (rest:=[]) T K rfl rfl rfl rfl rfl rfl rfl rfl rfl⟩
def cFil3 (w:World)(n t:Nat)(L LC cb it acc rw bk d:Addr) (B:List (Str×Nat×Value))(eb:Nat) (l:List Ent)(ep:Nat)(ws:List Value)(er:Nat)(d' o:Obj)(us:List Value)(ea dm dt:Nat):Con:=
 ⟨nxC true w 3 L LC cb it acc,n,t,[(LC,oD0),(it,lIt rw 0),(rw,oL0 ws er),(acc,oL0 [] 0),(cb,oCell (.ref bk)),(bk,dD (dSt w B) eb),(d,dD (dI l) ep)],[d',o,oL0 ws er,oL0 us ea,oCell (.ref bk),dD (dSt w B) eb,dD (dI l) ep],[],.ok .next,dm,dt,6⟩
theorem fil3_ok (hl:∀e∈l,IsI e.2.2)(hw:∀v∈ws,IsI v)(hn:ws.length<=60)(n t:Nat):∃dm dt d' o,((ws= []/\d'=oD0)\/(ws≠ []/\∃tl' v',d'=oD w.params 1 [("port",tl',v')]))/\ConOk (wR w ba bb) fz
  (cFil3 w n t L LC cb it acc rw bk d (bkL q1 q2 q3 q4 m tm a ta hd d) eb l ep ws er d' o (notIn l ws) (notIn l ws).length dm dt):=by
 have S:=fil3S_ok w ba bb fz n t L LC cb it acc rw bk hd 0 0 ws er q1 q2 q3 q4 m tm a ta eb d (dI l) ep 0 0 [] 0
 cases ws with
 | nil=>exact⟨0+_,0+_,_,_,.inl ⟨rfl,rfl⟩,turn_con' (C₁:=fil3S_c w n t L LC cb it acc rw bk hd 0 0 [] er q1 q2 q3 q4 m tm a ta eb d (dI l) ep 0 0 [] 0) (rest:=[]) S (fil3E0_ok w ba bb fz n t L LC cb it acc rw bk hd 0 0 [] er q1 q2 q3 q4 m tm a ta eb d (dI l) ep 0 0 [] 0 (all1 (cEndL_ok (le_refl _)))) rfl rfl rfl rfl rfl rfl rfl rfl rfl⟩
 | cons u us=>
  obtain⟨x,tx,rfl⟩:=hw u (.head _)
  obtain⟨o1,dm1,H⟩:=has_ok (w:=wR w ba bb) (fz:=fz) (t:=t+3) (it:=n+1) (d:=d) (ep:=ep) (x:=x) (tx:=tx) hl (n+2)
  cases b:(l.any fun e=>intV e.2.2 == x) with
  | true=>
   rw[b] at H
   obtain⟨dm,dt,o,tl',v',K⟩:=fil3_loop1 (w:=w) (ba:=ba) (bb:=bb) (fz:=fz) (L:=L) (LC:=LC) (cb:=cb) (it:=it) (acc:=acc) (rw:=rw) (bk:=bk) (hd:=hd) (d:=d) (q1:=q1) (q2:=q2) (q3:=q3) (q4:=q4) (m:=m) (tm:=tm) (a:=a) (ta:=ta) (eb:=eb) (ep:=ep) (er:=er) hl hw hn us.length 1 (n+(2+dm1+0)) (t+(3+0+0)) 0 t (.int x tx) [] (by rw[length_cons]; omega) (Nat.zero_le _)
   have T:=fil3H0_ok w ba bb fz n t L LC cb it acc rw bk hd 0 0 (.int x tx::us) er q1 q2 q3 q4 m tm a ta eb d (dI l) ep x tx [] 0 o1 dm1 (ac (cNextL_ok rfl) (ac bk_heard (ac cVals_ok (all2 cIterV_ok H))))
   rw[notIn_hit b]
   rw[show(Value.int x tx::us).drop 1=us from rfl,nil_append,Nat.zero_add] at K
   have K₂:=turn_c 6 (C₁:=fil3H0_c w n t L LC cb it acc rw bk hd 0 0 (.int x tx::us) er q1 q2 q3 q4 m tm a ta eb d (dI l) ep x tx [] 0 o1 dm1) T K rfl rfl rfl rfl rfl rfl rfl
   exact⟨_,_,_,_,.inr ⟨List.cons_ne_nil _ _,_,_,rfl⟩,turn_con' (C₁:=fil3S_c w n t L LC cb it acc rw bk hd 0 0 (.int x tx::us) er q1 q2 q3 q4 m tm a ta eb d (dI l) ep 0 0 [] 0) (rest:=[]) S K₂ rfl rfl rfl rfl rfl rfl rfl rfl rfl⟩
  | false=>
   rw[b] at H
   obtain⟨dm,dt,o,tl',v',K⟩:=fil3_loop1 (w:=w) (ba:=ba) (bb:=bb) (fz:=fz) (L:=L) (LC:=LC) (cb:=cb) (it:=it) (acc:=acc) (rw:=rw) (bk:=bk) (hd:=hd) (d:=d) (q1:=q1) (q2:=q2) (q3:=q3) (q4:=q4) (m:=m) (tm:=tm) (a:=a) (ta:=ta) (eb:=eb) (ep:=ep) (er:=er) hl hw hn us.length 1 (n+(2+dm1+0)) (t+(3+0+0)) 1 t (.int x tx) [.int x tx] (by rw[length_cons]; omega) (le_refl _)
   have T:=fil3M0_ok w ba bb fz n t L LC cb it acc rw bk hd 0 0 (.int x tx::us) er q1 q2 q3 q4 m tm a ta eb d (dI l) ep x tx [] 0 o1 dm1 (ac (cNextL_ok rfl) (ac bk_heard (ac cVals_ok (ac cIterV_ok (all2 H (cApp_ok (by decide)))))))
   rw[notIn_miss b]
   rw[show(Value.int x tx::us).drop 1=us from rfl,show[Value.int x tx]++notIn l us=.int x tx::notIn l us from rfl,show 1+(notIn l us).length=(Value.int x tx::notIn l us).length by rw[length_cons,Nat.add_comm]] at K
   have K₂:=turn_c 6 (C₁:=fil3M0_c w n t L LC cb it acc rw bk hd 0 0 (.int x tx::us) er q1 q2 q3 q4 m tm a ta eb d (dI l) ep x tx [] 0 o1 dm1) T K rfl rfl rfl rfl rfl rfl rfl
   exact⟨_,_,_,_,.inr ⟨List.cons_ne_nil _ _,_,_,rfl⟩,turn_con' (C₁:=fil3S_c w n t L LC cb it acc rw bk hd 0 0 (.int x tx::us) er q1 q2 q3 q4 m tm a ta eb d (dI l) ep 0 0 [] 0) (rest:=[]) S K₂ rfl rfl rfl rfl rfl rfl rfl rfl rfl⟩
end
end
section
section
variable {w:World}{fz:Addr->Option Obj}{n t:Nat}
def cLen (n t:Nat) (l:Addr)(vs:List Value)(ep:Nat):Con:=⟨.call (.builtin "len") ⟨[.ref l],[]⟩,n,t,[(l,oL0 vs ep)],[oL0 vs ep],[],.ok (.ret (.int vs.length (t+1))),0,2,5⟩
theorem cLen_ok {l:Addr}{vs:List Value}{ep:Nat} (h:vs.length<=1000):ConOk w fz (cLen n t l vs ep):=by
 intro A s hA ap B hsz ht hp R hR
 have ho:=hp _ (.head _)
 have hR:=hR _ (.same hsz hp rfl rfl rfl)
 have ht:s.toks=t:=ht
 refine code_fn kind_len plain_len entry_len (args_len1 _) ?_
 have e:(⟨vs⟩:Array Value).size=vs.length:=rfl
 refine wpAny_len_body_list (items:=⟨vs⟩) ⟨_,ho,rfl,_,rfl⟩ (by rw[e]; omega) ?_
 rw[ht,e]
 exact hR
def cLenD (n t:Nat) (d:Addr) (l:List Ent)(ep:Nat):Con:=⟨.call (.builtin "len") ⟨[.ref d],[]⟩,n,t,[(d,dD (dI l) ep)],[dD (dI l) ep],[],.ok (.ret (.int l.length (t+1))),0,2,5⟩
theorem dictOf_of {h:Heap} {d:Addr} {l:List Ent}{ep:Nat}(nd:(l.map (·.1)).Nodup)(ho:h.get? d=some (dD (dI l) ep)):h.DictOf (intKind P02 w) d (l.map fun x=>(x.1,x.2.2)):=by
 refine⟨_,_,_,ho,⟨rfl,rfl,rfl⟩,rfl,fun e he=>?_,?_,by rw[map_map]; exact nd⟩
 ·obtain⟨y,_,rfl⟩:=mem_map.mp (Array.mem_toList_iff.mpr he)
  exact⟨y.1,by show Value.isInt y.1 (.int y.1 y.2.1)=true; unfold Value.isInt; simp,rfl⟩
 ·unfold dI dE
  show Pairs _ (l.map _) _
  clear ho nd
  induction l with
  | nil=>exact .nil
  | cons x l ih=>exact .cons (e:=⟨hashInt x.1,.int x.1 x.2.1,x.2.2⟩) (kv:=(x.1,x.2.2)) (by show Value.isInt x.1 (.int x.1 x.2.1)=true; unfold Value.isInt; simp) rfl ih
theorem cLenD_ok {d:Addr} {l:List Ent}{ep:Nat}(nd:(l.map (·.1)).Nodup) (h:l.length<=1000):ConOk w fz (cLenD n t d l ep):=by
 intro A s hA ap B hsz ht hp R hR
 have ho:=hp _ (.head _)
 have hR:=hR _ (.same hsz hp rfl rfl rfl)
 have ht:s.toks=t:=ht
 refine code_fn kind_len plain_len entry_len (args_len1 _) ?_
 refine wpAny_len_body_dict (knd:=intKind P02 w) (not_sys ap (.head _)) (dictOf_of nd ho) (by rw[length_map]; omega) ?_
 rw[ht,length_map]
 exact hR
end
end
abbrev tExecs:=Fast.tw12563942051412417395
abbrev tEval:=Fast.tw14044960220447912780
def tCmp (op:CmpOp)(a b:Value):Sem Value:=Fast.tw8004119333741010377 [a,b] (Fast.tw12886488535604756494 op a b)
theorem tCmp_eq (op:CmpOp)(a b:Value):tCmp op a b=operate [a,b] (compareOp op a b):=by unfold tCmp; rw[<- Fast.te8004119333741010377,<- Fast.te12886488535604756494]
def tTruth (c:Value):Sem Bool:=Fast.tw17359229931016689406 [c] (Fast.tw15245631507167962100 c)
def tNext (rest:List Stmt) (e:Env) (f:Flow):Sem Flow:=match f with
 | .next=>tExecs rest e
 | f=>Sem.pure f
def xFun (e:Env) (m:Sem Flow):Sem Fin:=R.bindR (R.onRaiseR m fun x=>Fast.tw9442747609961115081 e x) opK
def tIf (body orelse:List Stmt) (e:Env) (b:Bool):Sem Flow:=if b=true then tExecs body e else tExecs orelse e
def ifBody:Stmt->List Stmt
 | .If _ b _ _=>b
 | _=>[]
def ifElse:Stmt->List Stmt
 | .If _ _ b _=>b
 | _=>[]
def dropL (l:List Stmt) (n:Nat):List Stmt:=@List.rec Stmt (fun _=>Nat->List Stmt) (fun _=>[]) (fun a r ih n=>@Nat.rec (fun _=>List Stmt) (a::r) (fun n _=>ih n) n) l n
def xIf (B:List Stmt) (i:Nat) (e:Env) (m:Sem Value):Sem Fin:=
 xFun e (R.bindR (R.bindR (R.bindR m tTruth) (tIf (ifBody (at1 B i)) (ifElse (at1 B i)) e)) (tNext (dropL B (Nat.succ i)) e))
section
open Sem (wp)
def Good {α β:Type}(cx:Sem α->Sem β):Prop:=∀ (M:Model) (Γ:Ctx) (m:Sem α) (Q:β->Pos->Shared->Prop) (E:Value->Pos->Shared->Prop) (p:Pos) (s:Shared),
 wp M Γ m (fun a p' s'=>wp M Γ (cx (.pure a)) Q E p' s') (fun e p' s'=>wp M Γ (cx (.raise e)) Q E p' s') p s->wp M Γ (cx m) Q E p s
theorem good_id {α:Type}:Good (fun m:Sem α=>m):=fun _ _ _ _ _ _ _ h=>h
theorem good_bind {α β γ:Type}{cx:Sem α->Sem β} (h:Good cx) (f:β->Sem γ):Good (fun m=>PySem.W.R.bindR (cx m) f):=fun M Γ m Q E p s k=>by
 have e:∀x:Sem β,PySem.W.R.bindR x f=x >>= f:=fun x=>by rw[<- PySem.W.R.bindR_eq]; rfl
 simp only[e,Sem.wp_bind'] at k ⊢
 exact h M Γ m _ _ p s k
theorem good_onr {α β:Type}{cx:Sem α->Sem β} (h:Good cx) (g:Value->Sem Unit):Good (fun m=>PySem.W.R.onRaiseR (cx m) g):=fun M Γ m Q E p s k=>by
 have e:∀x:Sem β,PySem.W.R.onRaiseR x g=x.onRaise g:=fun x=>by rw[<- PySem.W.R.onRaiseR_eq]
 simp only[e,Sem.wp_onRaise] at k ⊢
 exact h M Γ m _ _ p s k
theorem good_fun (e:Env) {α:Type}{cx:Sem α->Sem Flow} (h:Good cx):Good (fun m=>xFun e (cx m)):=good_bind (good_onr h _) _
theorem good_if (B:List Stmt) (i:Nat) (e:Env):Good (xIf B i e):=good_fun e (good_bind (good_bind (good_bind good_id _) _) _)
theorem good_own {α β:Type}{cx:Sem α->Sem β} (h:Good cx) {M:Model} {A:Around} {c:Code} {m:Sem α} {Q:β->Shared->Prop} {E:Value->Shared->Prop} {s:Shared}
  (k:wpAny M (A.under c) m (fun a s'=>wpOwn M A c (cx (.pure a)) Q E s') (fun e s'=>wpOwn M A c (cx (.raise e)) Q E s') s):wpOwn M A c (cx m) Q E s:=fun Γ p hc hΓ=>
 h M Γ m _ _ p s (Sem.wp_mono M Γ m (fun a p' s' h'=>h' Γ p' hc hΓ) (fun e p' s' h'=>h' Γ p' hc hΓ) p s (k Γ p (hc▸hΓ.in)))
noncomputable def stNew (s:St)(hs:List Nat):St:=⟨s.T,s.m,s.zb,s.zk,s.tb,s.tk,hs,[],[]⟩
def goOn1 (V:Vx) (N:Nat) (X:Out) (K:Sem Fin)(hs:List Nat):Out:=runS V N ⟨(mcf X).c,(mcf X).dp,(mcf X).un,(mcf X).κ,K,stNew (mcf X).s hs⟩
abbrev SiteT:=Bool×Sem Fin×List (Option (Addr×Obj))×Bool
def siteL (V:Vx) (X:Out)(js:List Nat):SiteT:=(isMore X,(mcf X).t,js.map (mcf X).s.T.get,and (Nat.ble (mcf X).dp V.nd) (Nat.ble (mcf X).un (Nat.mul 4 V.nd)))
def siteR (t:Sem Fin)(xs:List (Addr×Obj)):SiteT:=(true,t,xs.map some,true)
def ActOk (w:World)(fz:Addr->Option Obj) {α:Type}(xs:List (Addr×Obj))(act:Sem α)(a₀:α):Prop:=∀ (B:Around) (s:Shared) (Q:α->Shared->Prop) (E:Value->Shared->Prop),B.units<=9000->B.handled=none->BaseOk w fz s.heap->(∀p∈xs,s.heap.get? p.1=some p.2)->(xs.map (·.1)).Nodup->Q a₀ s->wpAny (model P02 w) B act Q E s
abbrev FineO (X:Out)(bs:List (Bool×Bool)):Prop:=(X.st.es.map Eqn.swap,X.st.bs)=(X.st.es,bs)
theorem fin_act {w:World}{fz:Addr->Option Obj}{cons:List Con}{ro:List (Addr×Obj)}{nd:Nat} {F:Fx} {A:Around} {R:Result->Shared->Prop} {g:Array GenState} {d:Drawn}{os:OsState} (O:FxOk F)(hF:F.w=w/\F.fz=fz)(hc:∀D∈cons,ConOk w fz D)(hro:∀p∈ro,fz p.1=some p.2)(hA:CtxOk A nd)
  {α:Type} {X:Out} {cx:Sem α->Sem Fin} {act:Sem α} {a₀:α} {xs:List (Addr×Obj)} {js hs:List Nat} {N:Nat} {bs:List (Bool×Bool)} (hj:incr js 0=true) (E:siteL ⟨w,fz,nd,cons,ro⟩ X js=siteR (cx act) xs) (hg:Good cx) (ha:ActOk w fz xs act a₀)
  (E₂:FineO (goOn1 ⟨w,fz,nd,cons,ro⟩ N X (cx (.pure a₀)) hs) bs) (hb:∀b∈bs,b.1=b.2) (FY:FinOk ⟨w,fz,nd,cons,ro⟩ F A R g d os (goOn1 ⟨w,fz,nd,cons,ro⟩ N X (cx (.pure a₀)) hs)):FinOk ⟨w,fz,nd,cons,ro⟩ F A R g d os X:=by
 obtain⟨hFw,hFf⟩:=hF
 have e1:isMore X=true:=congrArg (fun x:SiteT=>x.1) E
 cases X with
 | more cf=>
  have e2:cf.t=cx act:=congrArg (fun x:SiteT=>x.2.1) E
  have e3:js.map cf.s.T.get=xs.map some:=congrArg (fun x:SiteT=>x.2.2.1) E
  have e4:=le_of_k (congrArg (fun x:SiteT=>x.2.2.2) E)
  intro dp ks h D
  obtain⟨c,dp₁,un,κ,t,T,m,zb,zk,tb,tk,hs₁,es,bs₁⟩:=cf
  dsimp only at e2 e3 e4 dp ks D
  have D:Rep F h T m (zb+zk):=D
  have al:=(map_some_mem e3).2
  show MN w A R c κ t _
  rw[e2]
  refine good_own hg (ha _ (Sh h g d os ⟨T,m,zb,zk,tb,tk,hs₁,es,bs₁⟩) _ _ ?_ (dp.2.2.trans hA.hd) (hFw▸hFf▸D.base) (fun p hp=>?_) (nodup_as D e3 (incr_ok hj).1) ?_)
  ·have z:((aro A κ).under c).units<=A.units+un:=dp.2.1
   have:=hA.un
   have u:un<=4 * nd:=e4.2
   omega
  ·obtain⟨i,_,e⟩:=al p hp
   exact(D.own _ _ e).2
  ·have S:=runS_ok (V:=⟨w,fz,nd,cons,ro⟩) O hFw (hFf▸hc) (hFf▸hro) hA (R:=R) (g:=g) (d:=d) (os:=os) N ⟨c,dp₁,un,κ,cx (.pure a₀),⟨T,m,zb,zk,tb,tk,hs,[],[]⟩⟩
   have f1:=congrArg Prod.fst E₂
   have f2:=congrArg Prod.snd E₂
   exact S.ok (swap_ok f1) (by
    have f2:(runS ⟨w,fz,nd,cons,ro⟩ N ⟨c,dp₁,un,κ,cx (.pure a₀),⟨T,m,zb,zk,tb,tk,hs,[],[]⟩⟩).st.bs=bs:=f2
    rw[f2]; exact hb) FY dp ks h D
 | _=>cases e1
theorem con_fin {w:World}{fz:Addr->Option Obj} {C:Con}{cons:List Con}{ro:List (Addr×Obj)}{N w0 u0:Nat}{hs:List Nat}{bs:List (Bool×Bool)}(hk:and (Nat.ble C.code.weight w0) (Nat.ble C.code.cUnits u0)=true)(hm':Nat.ble C.pre.length 4000=true)
  (E:FineO (xOf w fz C cons ro N w0 u0 hs) bs) (hc:∀D∈cons,ConOk w fz D) (hro:∀p∈ro,fz p.1=some p.2) (hb:∀b∈bs,b.1=b.2)
  (F:∀ (A:Around) (s:Shared) (R:Result->Shared->Prop),CtxOk A C.nd->FxOk (fxOf w fz C s.heap)->(∀h',After C s.heap h'->R C.res ⟨h',s.gens,s.drawn,C.t+C.dt,s.os⟩)->FinOk (vOf w fz C cons ro) (fxOf w fz C s.heap) A R s.gens s.drawn s.os (xOf w fz C cons ro N w0 u0 hs)):ConOk w fz C:=by
 intro A s hA ap B hsz ht hpre R hR
 have G:=began (le_of_ble_eq_true hm') ap B hsz hpre
 exact run_from (le_of_k hk) rfl (congrArg Prod.fst E) (congrArg Prod.snd E) hb hA hc hro ht G (F A s R hA G.ok hR)
end
def asT:Stmt->List Expr
 | .Assign t _ _=>t
 | _=>[]
noncomputable def asV:Stmt->Expr
 | .Assign _ v _=>v
 | .Return v _=>(match v with
  | some v=>v
  | none=>.Tuple [] 0 default)
 | _=>.Tuple [] 0 default
def ieB:Expr->Expr
 | .IfExp _ b _ _=>b
 | e=>e
def ieE:Expr->Expr
 | .IfExp _ _ b _=>b
 | e=>e
def tAssign (s:Stmt) (e:Env) (v:Value):Sem Flow:=R.bindR (Fast.tw4016559146275205325 (asT s) (asV s) e) fun x=>Fast.tw2470068587113613483 e v x (R.mapR (fun x=>x.2) (Fast.tw15628205474173192105 (asT s) e))
def tIfE (x:Expr) (e:Env) (b:Bool):Sem Value:=if b=true then tEval (ieB x) e else tEval (ieE x) e
def tRet (v:Value):Sem Flow:=Sem.pure (.ret v)
def xIfAs (B:List Stmt)(i j:Nat) (e:Env) (m:Sem Value):Sem Fin:=
 xFun e (R.bindR (R.bindR (R.bindR (R.bindR (R.bindR m tTruth) (tIfE (asV (at1 (ifBody (at1 B i)) j)) e)) (tAssign (at1 (ifBody (at1 B i)) j) e)) (tNext (dropL (ifBody (at1 B i)) (Nat.succ j)) e)) (tNext (dropL B (Nat.succ i)) e))
def xRetIf (B:List Stmt) (i:Nat) (e:Env) (m:Sem Value):Sem Fin:=
 xFun e (R.bindR (R.bindR (R.bindR (R.bindR m tTruth) (tIfE (asV (at1 B i)) e)) tRet) (tNext (dropL B (Nat.succ i)) e))
theorem good_ifAs (B:List Stmt)(i j:Nat) (e:Env):Good (xIfAs B i j e):=good_fun e (good_bind (good_bind (good_bind (good_bind (good_bind good_id _) _) _) _) _)
theorem good_retIf (B:List Stmt) (i:Nat) (e:Env):Good (xRetIf B i e):=good_fun e (good_bind (good_bind (good_bind (good_bind good_id _) _) _) _)
section
open PySem.MeetsSeq PySem.SeqAt
open PySem.AutoSeq1 (wpAny_loadPart')
theorem mine_ne_loop (l b:Addr)(items items2:Array Value)(n n2:Nat)(hsz:items.size=items2.size) (k:Nat):
  ∀i:Nat,items.size - i=k->Meets (Builtin.«list.__eq__.loop» ⟨[.ref l,.ref b,rawInt i,rawInt 3],[]⟩)
   (fun A R s=>s.heap.get? l=some {cls:=.type "list",dict:=none,data:=.seq items n,slots:=#[]}/\s.heap.get? b=some {cls:=.type "list",dict:=none,data:=.seq items2 n2,slots:=#[]}/\
    (∀j (h1:j < items.size) (h2:j < items2.size),EqAt A.in1 s items[j] items2[j] true)/\R (.ok (.ret (.bool false))) s):=by
 induction k with
 | zero=>
  intro i hk prog w A R s h
  obtain⟨hp,g,d,tk,os⟩:=s; obtain⟨hl,hb,he,h⟩:=h
  wp_walk using wpAny_loadPart' hl,wpAny_loadPart' hb
  have hi1:items[((i:Nat):Int).toNat]?=none:=by simp; omega
  have hi2:items2[((i:Nat):Int).toNat]?=none:=by simp; omega
  rw[hi1,hi2]
  wp_walk using wpAny_loadPart' hl,wpAny_loadPart' hb
  first | done | (show R (.ok (.ret (.bool (items.size != items2.size)))) _; rw[hsz]; simpa using h)
 | succ k ih=>
  intro i hk prog w A R s h
  obtain⟨hp,g,d,tk,os⟩:=s; obtain⟨hl,hb,he,h⟩:=h
  wp_walk using wpAny_loadPart' hl,wpAny_loadPart' hb
  have hlt:i < items.size:=by omega
  have hlt2:i < items2.size:=by omega
  have hi1:items[((i:Nat):Int).toNat]?=some items[i]:=by simp[hlt]
  have hi2:items2[((i:Nat):Int).toNat]?=some items2[i]:=by simp[hlt2]
  have hc:((i:Int)+1)=((i+1:Nat):Int):=by push_cast; rfl
  rw[hi1,hi2]
  refine wpAny_bind (he i hlt hlt2 prog w _ _ ?_)
  wp_walk
  rw[hc]
  exact⟨plainId_quiet MeetsSeq3.plain_eq_loop _,codeAny_builtin MeetsSeq3.entry_eq_loop (by
   rw[Around.under_plainId MeetsSeq3.plain_eq_loop _]
   exact ih (i+1) (by omega) prog w A R _ ⟨hl,hb,he,h⟩)⟩
theorem mine_ne (l b:Addr)(items items2:Array Value)(n n2:Nat)(hsz:items.size=items2.size):
  Meets (Builtin.«list.__ne__» ⟨[.ref l,.ref b],[]⟩)
   (fun A R s=>s.heap.get? l=some {cls:=.type "list",dict:=none,data:=.seq items n,slots:=#[]}/\s.heap.get? b=some {cls:=.type "list",dict:=none,data:=.seq items2 n2,slots:=#[]}/\
    (∀j (h1:j < items.size) (h2:j < items2.size),EqAt A.in1 s items[j] items2[j] true)/\R (.ok (.ret (.bool false))) s):=by
 intro prog w A R s h
 obtain⟨hp,g,d,tk,os⟩:=s; obtain⟨hl,hb,he,h⟩:=h
 have f3:=AutoSeq1.sub_list_list
 have hne:¬ (items.size != items2.size)=true:=by simp[hsz]
 wp_walk using wpAny_loadPart' hl,wpAny_loadPart' hb
 exact⟨plainId_quiet MeetsSeq3.plain_eq_loop _,codeAny_builtin MeetsSeq3.entry_eq_loop (by
  rw[Around.under_plainId MeetsSeq3.plain_eq_loop _]
  exact mine_ne_loop l b items items2 n n2 hsz _ 0 rfl prog w A R _ ⟨hl,hb,he,h⟩)⟩
theorem mine_ne_lengths (l b:Addr)(items items2:Array Value)(n n2:Nat)(hc0:(items.size != items2.size)=true):
  Meets (Builtin.«list.__ne__» ⟨[.ref l,.ref b],[]⟩)
   (fun _ R s=>s.heap.get? l=some {cls:=.type "list",dict:=none,data:=.seq items n,slots:=#[]}/\s.heap.get? b=some {cls:=.type "list",dict:=none,data:=.seq items2 n2,slots:=#[]}/\
    R (.ok (.ret (.bool true))) s):=
 .of_wp fun prog w A R s h=>by
  obtain⟨hp,g,d,tk,os⟩:=s; obtain⟨hl,hb,h⟩:=h
  have f3:=AutoSeq1.sub_list_list
  wp_walk using wpAny_loadPart' hl,wpAny_loadPart' hb
  exact⟨_,rfl,h⟩
section
variable {w:World}{fz:Addr->Option Obj}
theorem u_lt {n:Nat} (h:n<=9000):n < cLine:=by unfold cLine; omega
theorem act_ne {l z:Addr}{vs:List Value} {e:Nat} {β:Bool} (h:(!vs.isEmpty)=β):ActOk w fz [(l,oL0 vs e),(z,oL [] 0)] (tCmp .NotEq (.ref l) (.ref z)) (.bool β):=by
 subst h
 intro B s Q E hu hh hB hp nd hq
 have ho:=hp _ (.head _)
 have hz:=hp _ (.tail _ (.head _))
 rw[tCmp_eq]
 refine wpAny_operateT ?_
 show wpAny _ _ (richCompare .NotEq (.ref l) (.ref z)) _ _ s
 cases vs with
 | nil=>exact richCompare_meets_room (op:=.NotEq) ⟨_,ho,rfl⟩ ⟨_,hz,rfl⟩ F.slot_list_ne F.entry_list_ne (F.args_list_ne_2 _ _) (mine_ne l z #[] #[] e 0 rfl) ⟨ho,hz,fun j h1 _=>(by cases h1),show Value.bool false≠Value.notImplemented/\_ from⟨(fun x=>nomatch x),hq⟩⟩ (u_lt hu)
 | cons v vs=>exact richCompare_meets_room (op:=.NotEq) ⟨_,ho,rfl⟩ ⟨_,hz,rfl⟩ F.slot_list_ne F.entry_list_ne (F.args_list_ne_2 _ _) (mine_ne_lengths l z ⟨v::vs⟩ #[] e 0 (by rfl)) ⟨ho,hz,show Value.bool true≠Value.notImplemented/\_ from⟨(fun x=>nomatch x),hq⟩⟩ (u_lt hu)
end
end
def nxA_c (w:World)(n t:Nat)(bk hd hr:Addr)(q1 q2 q3 q4:Nat) (m:Int)(tm:Nat) (a:Int)(ta eb:Nat)(lh lr:List Ent)(e1 e2:Nat)(ws:List Value)(o1 o2 o3:Obj)(ea dm dt dm2 dt2 dm3 dt3:Nat)(p1:Nat)(v1:Value)(p2:Nat)(v2:Value)(f0:Value)(fs:List Value)(ef:Nat) (g:Int)(tg:Nat)(gs:List Value)(eg:Nat) (f:Int)(tf:Nat)(p3:Nat)(v3:Value):Con:=⟨Code.call (.ref 1468) ⟨[.ref bk],[]⟩,n,t,[(bk,dD (dSt w (bkL q1 q2 q3 q4 m tm a ta hd hr)) eb),(hd,dD (dI lh) e1),(hr,dD (dI lr) e2)],[(dD (dSt w (bkL q1 q2 q3 q4 m tm (29+(g - 28).fmod m) (t+4+dt+1+dt2+1+dt3+7) hd hr)) eb),(dD (dI lh) e1),(dD (dI lr) e2)],[],.ok (.ret (.int g tg)),7+(dm)+3+(dm2)+3+(dm3)+3,4+(dt)+1+(dt2)+1+(dt3)+11,7⟩
def nxA_h00:List Nat:=hx 49 [0x2c2cc5a44d0bf1d75e0936a4204b91a0468fc6442e68edb6bdfcd5fa24e7b0317e00a2fbd5027308579be334982554a8ba2fb9463ff462017495b4d203c077a,0x12a99cea]
def nxA_h01:List Nat:=[5]
def nxA_h02:List Nat:=hx 31 [0x7a3633c68418891cdecc46396e24c7cac5d]
def nxA_h0:List Nat:=[5,16,16,16,0,16,0,30,16]
theorem nxA_ok (w ba bb fz n t bk hd hr q1 q2 q3 q4 m tm a ta eb lh lr e1 e2 ws o1 o2 o3 ea dm dt dm2 dt2 dm3 dt3 p1 v1 p2 v2 f0 fs ef g tg gs eg f tf p3 v3)(hc:∀D∈([cGetS w (n+3) (t+1) bk (bkL q1 q2 q3 q4 m tm a ta hd hr) eb "many" t (.int m tm),cRIter (n+4) (t+4) (n+3) (t+2) tm (t+3) m,cRow w (n+7) (t+4) n (n+6) (n+2) (n+1) (n+4) (n+5) bk m tm (bkL q1 q2 q3 q4 m tm a ta hd hr) eb
 (oD w.params 1 [(Str.ofString "step",p1,v1)]) o1 ws ea dm dt,cFil2 w (n+7+dm+3) (t+4+dt+1) n (n+7+dm+2) (n+1) (n+7+dm) (n+7+dm+1) (n+5) bk hd
 (bkL q1 q2 q3 q4 m tm a ta hd hr) eb lh e1 ws ea (oD w.params 1 [(Str.ofString "port",p2,v2)]) o2 (f0::fs) ef dm2
 dt2,cFil3 w (n+7+dm+3+dm2+3) (t+4+dt+1+dt2+1) n (n+7+dm+3+dm2+2) (n+1)
 (n+7+dm+3+dm2) (n+7+dm+3+dm2+1) (n+7+dm+1) bk hr (bkL q1 q2 q3 q4 m tm a ta hd hr) eb lr e2
 (f0::fs) ef (oD w.params 1 [(Str.ofString "port",p3,v3)]) o3 (.int g tg::gs) eg dm3 dt3,cMod (n+7+dm+3+dm2+3+dm3+2) (t+4+dt+1+dt2+1+dt3+6) (g - 28)
 (t+4+dt+1+dt2+1+dt3+5) m tm,cPutS w (n+7+dm+3+dm2+3+dm3+2) (t+4+dt+1+dt2+1+dt3+9) bk (bkL q1 q2 q3 q4 m tm a ta hd hr)
 (bkL q1 q2 q3 q4 m tm (29+(g - 28).fmod m) (t+4+dt+1+dt2+1+dt3+7) hd hr) eb "at"
 (t+4+dt+1+dt2+1+dt3+8) (.int (29+(g - 28).fmod m) (t+4+dt+1+dt2+1+dt3+7))]:List Con),ConOk (wR w ba bb) fz D) (ha0:ActOk (wR w ba bb) fz [(n+7+dm+1,(oL0 (f0::fs) ef)),(n+7+dm+3+dm2+3+dm3,oL [] 0)] (tCmp .NotEq (.ref (n+7+dm+1)) (.ref (n+7+dm+3+dm2+3+dm3))) (Value.bool true)) (ha1:ActOk (wR w ba bb) fz [(n+7+dm+3+dm2+1,(oL0 (.int g tg::gs) eg)),(n+7+dm+3+dm2+3+dm3+1,oL [] 0)] (tCmp .NotEq (.ref (n+7+dm+3+dm2+1)) (.ref (n+7+dm+3+dm2+3+dm3+1))) (Value.bool true)) (ha2:ActOk (wR w ba bb) fz [(n+7+dm+3+dm2+1,(oL0 (.int g tg::gs) eg)),(n+7+dm+3+dm2+3+dm3+2,oL [] 0)] (tCmp .NotEq (.ref (n+7+dm+3+dm2+1)) (.ref (n+7+dm+3+dm2+3+dm3+2))) (Value.bool true)):ConOk (wR w ba bb) fz (nxA_c w n t bk hd hr q1 q2 q3 q4 m tm a ta eb lh lr e1 e2 ws o1 o2 o3 ea dm dt dm2 dt2 dm3 dt3 p1 v1 p2 v2 f0 fs ef g tg gs eg f tf p3 v3):=by
 cases bb<;>cases ba<;>exact con_fin (N:=138) (w0:=0) (u0:=1) (hs:=nxA_h00) (by kernel_rfl) (by kernel_rfl) (by kernel_rfl) hc nm nm (fun A s R hA O hR=>
  fin_act O ⟨rfl,rfl⟩ hc nm hA (cx:=xIf (bodyF w.params 1468) 4 (envF w.params 1468 n [("book",n+1),("many",n+2)])) (act:=tCmp .NotEq (.ref (n+7+dm+1)) (.ref (n+7+dm+3+dm2+3+dm3))) (a₀:=Value.bool true) (xs:=[(n+7+dm+1,(oL0 (f0::fs) ef)),(n+7+dm+3+dm2+3+dm3,oL [] 0)]) (js:=[11,16]) (hs:=nxA_h01) (N:=6) (by kernel_rfl) (by kernel_rfl) (good_if _ _ _) ha0 (by kernel_rfl) nm (
  fin_act O ⟨rfl,rfl⟩ hc nm hA (cx:=xIfAs (bodyF w.params 1468) 4 0 (envF w.params 1468 n [("book",n+1),("many",n+2)])) (act:=tCmp .NotEq (.ref (n+7+dm+3+dm2+1)) (.ref (n+7+dm+3+dm2+3+dm3+1))) (a₀:=Value.bool true) (xs:=[(n+7+dm+3+dm2+1,(oL0 (.int g tg::gs) eg)),(n+7+dm+3+dm2+3+dm3+1,oL [] 0)]) (js:=[14,17]) (hs:=nxA_h02) (N:=51) (by kernel_rfl) (by kernel_rfl) (good_ifAs _ _ _ _) ha1 (by kernel_rfl) nm (
  fin_act O ⟨rfl,rfl⟩ hc nm hA (cx:=xRetIf (bodyF w.params 1468) 5 (envF w.params 1468 n [("book",n+1),("many",n+2)])) (act:=tCmp .NotEq (.ref (n+7+dm+3+dm2+1)) (.ref (n+7+dm+3+dm2+3+dm3+2))) (a₀:=Value.bool true) (xs:=[(n+7+dm+3+dm2+1,(oL0 (.int g tg::gs) eg)),(n+7+dm+3+dm2+3+dm3+2,oL [] 0)]) (js:=[14,18]) (hs:=nxA_h0) (N:=18) (by kernel_rfl) (by kernel_rfl) (good_retIf _ _ _) ha2 (by kernel_rfl) nm (
  fin_done (ze:=n+7+dm+3+dm2+3+dm3+3) (te:=t+4+dt+1+dt2+1+dt3+11) (ni:=[]) (by kernel_rfl) (by show n+7+dm+3+dm2+3+dm3+3=n+(7+(dm)+3+(dm2)+3+(dm3)+3); omega) (by show t+4+dt+1+dt2+1+dt3+11=t+(4+(dt)+1+(dt2)+1+(dt3)+11); omega) (by kernel_rfl) hR))))
def nxB_c (w:World)(n t:Nat)(bk hd hr:Addr)(q1 q2 q3 q4:Nat) (m:Int)(tm:Nat) (a:Int)(ta eb:Nat)(lh lr:List Ent)(e1 e2:Nat)(ws:List Value)(o1 o2 o3:Obj)(ea dm dt dm2 dt2 dm3 dt3:Nat)(p1:Nat)(v1:Value)(p2:Nat)(v2:Value)(f0:Value)(fs:List Value)(ef:Nat) (f:Int)(tf:Nat)(p3:Nat)(v3:Value):Con:=⟨Code.call (.ref 1468) ⟨[.ref bk],[]⟩,n,t,[(bk,dD (dSt w (bkL q1 q2 q3 q4 m tm a ta hd hr)) eb),(hd,dD (dI lh) e1),(hr,dD (dI lr) e2)],[(dD (dSt w (bkL q1 q2 q3 q4 m tm (29+(f - 28).fmod m) (t+4+dt+1+dt2+1+dt3+11) hd hr)) eb),(dD (dI lh) e1),(dD (dI lr) e2)],[],.ok (.ret (.none)),7+(dm)+3+(dm2)+3+(dm3)+3,4+(dt)+1+(dt2)+1+(dt3)+14,7⟩
def nxB_h02:List Nat:=hx 14 [0x22c9257b58af503c5ec08dc5c99ccdbae7347]
def nxB_h0:List Nat:=[]
def nxB_h1:List Nat:=[]
theorem nxB_ok (w ba bb fz n t bk hd hr q1 q2 q3 q4 m tm a ta eb lh lr e1 e2 ws o1 o2 o3 ea dm dt dm2 dt2 dm3 dt3 p1 v1 p2 v2 f0 fs ef f tf p3 v3)(hc:∀D∈([cGetS w (n+3) (t+1) bk (bkL q1 q2 q3 q4 m tm a ta hd hr) eb "many" t (.int m tm),cRIter (n+4) (t+4) (n+3) (t+2) tm (t+3) m,cRow w (n+7) (t+4) n (n+6) (n+2) (n+1) (n+4) (n+5) bk m tm (bkL q1 q2 q3 q4 m tm a ta hd hr) eb
 (oD w.params 1 [(Str.ofString "step",p1,v1)]) o1 ws ea dm dt,cFil2 w (n+7+dm+3) (t+4+dt+1) n (n+7+dm+2) (n+1) (n+7+dm) (n+7+dm+1) (n+5) bk hd
 (bkL q1 q2 q3 q4 m tm a ta hd hr) eb lh e1 ws ea (oD w.params 1 [(Str.ofString "port",p2,v2)]) o2 (f0::fs) ef dm2
 dt2,cFil3 w (n+7+dm+3+dm2+3) (t+4+dt+1+dt2+1) n (n+7+dm+3+dm2+2) (n+1)
 (n+7+dm+3+dm2) (n+7+dm+3+dm2+1) (n+7+dm+1) bk hr (bkL q1 q2 q3 q4 m tm a ta hd hr) eb lr e2
 (f0::fs) ef (oD w.params 1 [(Str.ofString "port",p3,v3)]) o3 [] 0 dm3 dt3,cLen (n+7+dm+3+dm2+3+dm3+2) (t+4+dt+1+dt2+1+dt3+3) (n+7+dm+1) (f0::fs) ef,cMod (n+7+dm+3+dm2+3+dm3+2) (t+4+dt+1+dt2+1+dt3+5) (m - 1)
 (t+4+dt+1+dt2+1+dt3+2) (↑(f0::fs).length) (t+4+dt+1+dt2+1+dt3+4),cLGet (n+7+dm+3+dm2+3+dm3+2) (t+4+dt+1+dt2+1+dt3+6) (n+7+dm+1) (f0::fs) ef
 ((m - 1).fmod ↑(f0::fs).length) (t+4+dt+1+dt2+1+dt3+5) (.int f tf),cMod (n+7+dm+3+dm2+3+dm3+2) (t+4+dt+1+dt2+1+dt3+10) (f - 28)
 (t+4+dt+1+dt2+1+dt3+9) m tm,cPutS w (n+7+dm+3+dm2+3+dm3+2) (t+4+dt+1+dt2+1+dt3+13) bk (bkL q1 q2 q3 q4 m tm a ta hd hr)
 (bkL q1 q2 q3 q4 m tm (29+(f - 28).fmod m) (t+4+dt+1+dt2+1+dt3+11) hd hr) eb "at"
 (t+4+dt+1+dt2+1+dt3+12) (.int (29+(f - 28).fmod m) (t+4+dt+1+dt2+1+dt3+11))]:List Con),ConOk (wR w ba bb) fz D) (ha0:ActOk (wR w ba bb) fz [(n+7+dm+1,(oL0 (f0::fs) ef)),(n+7+dm+3+dm2+3+dm3,oL [] 0)] (tCmp .NotEq (.ref (n+7+dm+1)) (.ref (n+7+dm+3+dm2+3+dm3))) (Value.bool true)) (ha1:ActOk (wR w ba bb) fz [(n+7+dm+3+dm2+1,oL [] 0),(n+7+dm+3+dm2+3+dm3+1,oL [] 0)] (tCmp .NotEq (.ref (n+7+dm+3+dm2+1)) (.ref (n+7+dm+3+dm2+3+dm3+1))) (Value.bool false)) (ha2:ActOk (wR w ba bb) fz [(n+7+dm+3+dm2+1,oL [] 0),(n+7+dm+3+dm2+3+dm3+2,oL [] 0)] (tCmp .NotEq (.ref (n+7+dm+3+dm2+1)) (.ref (n+7+dm+3+dm2+3+dm3+2))) (Value.bool false)):ConOk (wR w ba bb) fz (nxB_c w n t bk hd hr q1 q2 q3 q4 m tm a ta eb lh lr e1 e2 ws o1 o2 o3 ea dm dt dm2 dt2 dm3 dt3 p1 v1 p2 v2 f0 fs ef f tf p3 v3):=by
 cases bb
 ·cases ba<;>exact con_fin (N:=138) (w0:=0) (u0:=1) (hs:=nxA_h00) (by kernel_rfl) (by kernel_rfl) (by kernel_rfl) hc nm nm (fun A s R hA O hR=>
  fin_act O ⟨rfl,rfl⟩ hc nm hA (cx:=xIf (bodyF w.params 1468) 4 (envF w.params 1468 n [("book",n+1),("many",n+2)])) (act:=tCmp .NotEq (.ref (n+7+dm+1)) (.ref (n+7+dm+3+dm2+3+dm3))) (a₀:=Value.bool true) (xs:=[(n+7+dm+1,(oL0 (f0::fs) ef)),(n+7+dm+3+dm2+3+dm3,oL [] 0)]) (js:=[11,16]) (hs:=nxA_h01) (N:=6) (by kernel_rfl) (by kernel_rfl) (good_if _ _ _) ha0 (by kernel_rfl) nm (
  fin_act O ⟨rfl,rfl⟩ hc nm hA (cx:=xIfAs (bodyF w.params 1468) 4 0 (envF w.params 1468 n [("book",n+1),("many",n+2)])) (act:=tCmp .NotEq (.ref (n+7+dm+3+dm2+1)) (.ref (n+7+dm+3+dm2+3+dm3+1))) (a₀:=Value.bool false) (xs:=[(n+7+dm+3+dm2+1,oL [] 0),(n+7+dm+3+dm2+3+dm3+1,oL [] 0)]) (js:=[14,17]) (hs:=nxB_h02) (N:=64) (by kernel_rfl) (by kernel_rfl) (good_ifAs _ _ _ _) ha1 (by kernel_rfl) nm (
  fin_act O ⟨rfl,rfl⟩ hc nm hA (cx:=xRetIf (bodyF w.params 1468) 5 (envF w.params 1468 n [("book",n+1),("many",n+2)])) (act:=tCmp .NotEq (.ref (n+7+dm+3+dm2+1)) (.ref (n+7+dm+3+dm2+3+dm3+2))) (a₀:=Value.bool false) (xs:=[(n+7+dm+3+dm2+1,oL [] 0),(n+7+dm+3+dm2+3+dm3+2,oL [] 0)]) (js:=[14,18]) (hs:=nxB_h0) (N:=6) (by kernel_rfl) (by kernel_rfl) (good_retIf _ _ _) ha2 (by kernel_rfl) nm (
  fin_done (ze:=n+7+dm+3+dm2+3+dm3+3) (te:=t+4+dt+1+dt2+1+dt3+14) (ni:=[]) (by kernel_rfl) (by show n+7+dm+3+dm2+3+dm3+3=n+(7+(dm)+3+(dm2)+3+(dm3)+3); omega) (by show t+4+dt+1+dt2+1+dt3+14=t+(4+(dt)+1+(dt2)+1+(dt3)+14); omega) (by kernel_rfl) hR))))
 ·cases ba<;>exact con_fin (N:=138) (w0:=0) (u0:=1) (hs:=nxA_h00) (by kernel_rfl) (by kernel_rfl) (by kernel_rfl) hc nm nm (fun A s R hA O hR=>
  fin_act O ⟨rfl,rfl⟩ hc nm hA (cx:=xIf (bodyF w.params 1468) 4 (envF w.params 1468 n [("book",n+1),("many",n+2)])) (act:=tCmp .NotEq (.ref (n+7+dm+1)) (.ref (n+7+dm+3+dm2+3+dm3))) (a₀:=Value.bool true) (xs:=[(n+7+dm+1,(oL0 (f0::fs) ef)),(n+7+dm+3+dm2+3+dm3,oL [] 0)]) (js:=[11,16]) (hs:=nxA_h01) (N:=6) (by kernel_rfl) (by kernel_rfl) (good_if _ _ _) ha0 (by kernel_rfl) nm (
  fin_act O ⟨rfl,rfl⟩ hc nm hA (cx:=xIfAs (bodyF w.params 1468) 4 0 (envF w.params 1468 n [("book",n+1),("many",n+2)])) (act:=tCmp .NotEq (.ref (n+7+dm+3+dm2+1)) (.ref (n+7+dm+3+dm2+3+dm3+1))) (a₀:=Value.bool false) (xs:=[(n+7+dm+3+dm2+1,oL [] 0),(n+7+dm+3+dm2+3+dm3+1,oL [] 0)]) (js:=[14,17]) (hs:=nxB_h02) (N:=64) (by kernel_rfl) (by kernel_rfl) (good_ifAs _ _ _ _) ha1 (by kernel_rfl) nm (
  fin_act O ⟨rfl,rfl⟩ hc nm hA (cx:=xRetIf (bodyF w.params 1468) 5 (envF w.params 1468 n [("book",n+1),("many",n+2)])) (act:=tCmp .NotEq (.ref (n+7+dm+3+dm2+1)) (.ref (n+7+dm+3+dm2+3+dm3+2))) (a₀:=Value.bool false) (xs:=[(n+7+dm+3+dm2+1,oL [] 0),(n+7+dm+3+dm2+3+dm3+2,oL [] 0)]) (js:=[14,18]) (hs:=nxB_h1) (N:=6) (by kernel_rfl) (by kernel_rfl) (good_retIf _ _ _) ha2 (by kernel_rfl) nm (
  fin_done (ze:=n+7+dm+3+dm2+3+dm3+3) (te:=t+4+dt+1+dt2+1+dt3+14) (ni:=[]) (by kernel_rfl) (by show n+7+dm+3+dm2+3+dm3+3=n+(7+(dm)+3+(dm2)+3+(dm3)+3); omega) (by show t+4+dt+1+dt2+1+dt3+14=t+(4+(dt)+1+(dt2)+1+(dt3)+14); omega) (by kernel_rfl) hR))))
def nxC0_c (w:World)(n t:Nat)(bk hd hr:Addr)(q1 q2 q3 q4:Nat) (m:Int)(tm:Nat) (a:Int)(ta eb:Nat)(lh lr:List Ent)(e1 e2:Nat)(ws:List Value)(o1 o2 o3:Obj)(ea dm dt dm2 dt2 dm3 dt3:Nat)(p1:Nat)(v1:Value)(p2:Nat)(v2:Value) (f:Int)(tf:Nat):Con:=⟨Code.call (.ref 1468) ⟨[.ref bk],[]⟩,n,t,[(bk,dD (dSt w (bkL q1 q2 q3 q4 m tm a ta hd hr)) eb),(hd,dD (dI lh) e1),(hr,dD (dI lr) e2)],[(dD (dSt w (bkL q1 q2 q3 q4 m tm a ta hd hr)) eb),(dD (dI lh) e1),(dD (dI lr) e2)],[],.ok (.ret (.none)),7+(dm)+3+(dm2)+3+(dm3)+2,4+(dt)+1+(dt2)+1+(dt3)+1,7⟩
def nxC0_h00:List Nat:=nxA_h00.take 92++nxA_h00.drop 94
def nxC0_h0:List Nat:=[]
def nxC0_h1:List Nat:=[]
theorem nxC0_ok (w ba bb fz n t bk hd hr q1 q2 q3 q4 m tm a ta eb lh lr e1 e2 ws o1 o2 o3 ea dm dt dm2 dt2 dm3 dt3 p1 v1 p2 v2 f tf)(hc:∀D∈([cGetS w (n+3) (t+1) bk (bkL q1 q2 q3 q4 m tm a ta hd hr) eb "many" t (.int m tm),cRIter (n+4) (t+4) (n+3) (t+2) tm (t+3) m,cRow w (n+7) (t+4) n (n+6) (n+2) (n+1) (n+4) (n+5) bk m tm (bkL q1 q2 q3 q4 m tm a ta hd hr) eb
 (oD w.params 1 [(Str.ofString "step",p1,v1)]) o1 ws ea dm dt,cFil2 w (n+7+dm+3) (t+4+dt+1) n (n+7+dm+2) (n+1) (n+7+dm) (n+7+dm+1) (n+5) bk hd
 (bkL q1 q2 q3 q4 m tm a ta hd hr) eb lh e1 ws ea (oD w.params 1 [(Str.ofString "port",p2,v2)]) o2 [] 0 dm2 dt2,cFil3 w (n+7+dm+3+dm2+3) (t+4+dt+1+dt2+1) n (n+7+dm+3+dm2+2) (n+1)
 (n+7+dm+3+dm2) (n+7+dm+3+dm2+1) (n+7+dm+1) bk hr (bkL q1 q2 q3 q4 m tm a ta hd hr) eb lr e2 []
 0 oD0 o3 [] 0 dm3 dt3]:List Con),ConOk (wR w ba bb) fz D) (ha0:ActOk (wR w ba bb) fz [(n+7+dm+1,oL [] 0),(n+7+dm+3+dm2+3+dm3,oL [] 0)] (tCmp .NotEq (.ref (n+7+dm+1)) (.ref (n+7+dm+3+dm2+3+dm3))) (Value.bool false)) (ha1:ActOk (wR w ba bb) fz [(n+7+dm+3+dm2+1,oL [] 0),(n+7+dm+3+dm2+3+dm3+1,oL [] 0)] (tCmp .NotEq (.ref (n+7+dm+3+dm2+1)) (.ref (n+7+dm+3+dm2+3+dm3+1))) (Value.bool false)):ConOk (wR w ba bb) fz (nxC0_c w n t bk hd hr q1 q2 q3 q4 m tm a ta eb lh lr e1 e2 ws o1 o2 o3 ea dm dt dm2 dt2 dm3 dt3 p1 v1 p2 v2 f tf):=by
 cases bb
 ·cases ba<;>exact con_fin (N:=134) (w0:=0) (u0:=1) (hs:=nxC0_h00) (by kernel_rfl) (by kernel_rfl) (by kernel_rfl) hc nm nm (fun A s R hA O hR=>
  fin_act O ⟨rfl,rfl⟩ hc nm hA (cx:=xIf (bodyF w.params 1468) 4 (envF w.params 1468 n [("book",n+1),("many",n+2)])) (act:=tCmp .NotEq (.ref (n+7+dm+1)) (.ref (n+7+dm+3+dm2+3+dm3))) (a₀:=Value.bool false) (xs:=[(n+7+dm+1,oL [] 0),(n+7+dm+3+dm2+3+dm3,oL [] 0)]) (js:=[11,16]) (hs:=nxA_h01) (N:=6) (by kernel_rfl) (by kernel_rfl) (good_if _ _ _) ha0 (by kernel_rfl) nm (
  fin_act O ⟨rfl,rfl⟩ hc nm hA (cx:=xRetIf (bodyF w.params 1468) 5 (envF w.params 1468 n [("book",n+1),("many",n+2)])) (act:=tCmp .NotEq (.ref (n+7+dm+3+dm2+1)) (.ref (n+7+dm+3+dm2+3+dm3+1))) (a₀:=Value.bool false) (xs:=[(n+7+dm+3+dm2+1,oL [] 0),(n+7+dm+3+dm2+3+dm3+1,oL [] 0)]) (js:=[14,17]) (hs:=nxC0_h0) (N:=6) (by kernel_rfl) (by kernel_rfl) (good_retIf _ _ _) ha1 (by kernel_rfl) nm (
  fin_done (ze:=n+7+dm+3+dm2+3+dm3+2) (te:=t+4+dt+1+dt2+1+dt3+1) (ni:=[]) (by kernel_rfl) (by show n+7+dm+3+dm2+3+dm3+2=n+(7+(dm)+3+(dm2)+3+(dm3)+2); omega) (by show t+4+dt+1+dt2+1+dt3+1=t+(4+(dt)+1+(dt2)+1+(dt3)+1); omega) (by kernel_rfl) hR)))
 ·cases ba<;>exact con_fin (N:=134) (w0:=0) (u0:=1) (hs:=nxC0_h00) (by kernel_rfl) (by kernel_rfl) (by kernel_rfl) hc nm nm (fun A s R hA O hR=>
  fin_act O ⟨rfl,rfl⟩ hc nm hA (cx:=xIf (bodyF w.params 1468) 4 (envF w.params 1468 n [("book",n+1),("many",n+2)])) (act:=tCmp .NotEq (.ref (n+7+dm+1)) (.ref (n+7+dm+3+dm2+3+dm3))) (a₀:=Value.bool false) (xs:=[(n+7+dm+1,oL [] 0),(n+7+dm+3+dm2+3+dm3,oL [] 0)]) (js:=[11,16]) (hs:=nxA_h01) (N:=6) (by kernel_rfl) (by kernel_rfl) (good_if _ _ _) ha0 (by kernel_rfl) nm (
  fin_act O ⟨rfl,rfl⟩ hc nm hA (cx:=xRetIf (bodyF w.params 1468) 5 (envF w.params 1468 n [("book",n+1),("many",n+2)])) (act:=tCmp .NotEq (.ref (n+7+dm+3+dm2+1)) (.ref (n+7+dm+3+dm2+3+dm3+1))) (a₀:=Value.bool false) (xs:=[(n+7+dm+3+dm2+1,oL [] 0),(n+7+dm+3+dm2+3+dm3+1,oL [] 0)]) (js:=[14,17]) (hs:=nxC0_h1) (N:=6) (by kernel_rfl) (by kernel_rfl) (good_retIf _ _ _) ha1 (by kernel_rfl) nm (
  fin_done (ze:=n+7+dm+3+dm2+3+dm3+2) (te:=t+4+dt+1+dt2+1+dt3+1) (ni:=[]) (by kernel_rfl) (by show n+7+dm+3+dm2+3+dm3+2=n+(7+(dm)+3+(dm2)+3+(dm3)+2); omega) (by show t+4+dt+1+dt2+1+dt3+1=t+(4+(dt)+1+(dt2)+1+(dt3)+1); omega) (by kernel_rfl) hR)))
section
def hasZ (l:List Ent) (z:Int):Bool:=l.any fun e=>intV e.2.2 == z
noncomputable def freeZ (a m:Int) (k:Nat)(lh:List Ent):List Int:=(rowL a m k 0).filter fun z=>!hasZ lh z
def goodZ (a m:Int) (k:Nat)(lh lr:List Ent):List Int:=(freeZ a m k lh).filter fun z=>!hasZ lr z
theorem notIn_is {l:List Ent}:∀ {zs:List Int}{ws:List Value},IsV zs ws->IsV (zs.filter fun z=>!hasZ l z) (notIn l ws)
 | zs,[],h=>by
  have:zs= []:=by have:=h.len; exact List.eq_nil_of_length_eq_zero this.symm
  subst this; exact .nil
 | [],v::ws,h=>by have:=h.len; cases this
 | z::zs,v::ws,h=>by
  obtain⟨h1,h2⟩:=h
  rw[map_cons] at h1
  obtain⟨e1,e2⟩:=List.cons.inj h1
  obtain⟨x,tx,rfl⟩:=h2 v (.head _)
  have e1:x=z:=e1
  subst e1
  have ih:=notIn_is (l:=l) (zs:=zs) (ws:=ws) ⟨e2,fun v hv=>h2 v (.tail _ hv)⟩
  rw[filter_cons]
  cases b:(l.any fun e=>intV e.2.2 == x) with
  | true=>rw[notIn_hit b,if_neg (by show ¬ (!(l.any fun e=>intV e.2.2 == x))=true; rw[b]; decide)]; exact ih
  | false=>rw[notIn_miss b,if_pos (by show(!(l.any fun e=>intV e.2.2 == x))=true; rw[b]; decide)]; exact ih.cons
noncomputable def nextP (a m:Int) (k:Nat)(lh lr:List Ent):Option Int×Int:=match goodZ a m k lh lr with
 | g::_=>(some g,29+(g - 28).fmod m)
 | []=>match freeZ a m k lh with
  | []=>(none,a)
  | f::fs=>(none,29+(((f::fs).getD ((m - 1).fmod ((f::fs).length)).toNat 0) - 28).fmod m)
def dueV:Option Int->Nat->Value
 | some g,tg=>.int g tg
 | none,_=>.none
def cNxt (w:World)(n t:Nat)(bk hd hr:Addr)(q1 q2 q3 q4:Nat) (m:Int)(tm:Nat) (a:Int)(ta eb:Nat)(lh lr:List Ent)(e1 e2:Nat)(a':Int)(ta':Nat)(dv:Value)(dm dt:Nat):Con:=
 ⟨Code.call (.ref 1468) ⟨[.ref bk],[]⟩,n,t,[(bk,dD (dSt w (bkL q1 q2 q3 q4 m tm a ta hd hr)) eb),(hd,dD (dI lh) e1),(hr,dD (dI lr) e2)],[dD (dSt w (bkL q1 q2 q3 q4 m tm a' ta' hd hr)) eb,dD (dI lh) e1,dD (dI lr) e2],[],.ok (.ret dv),dm,dt,9⟩
theorem nil_of_isV {zs:List Int} (h:IsV zs []):zs= []:=List.eq_nil_of_length_eq_zero h.len.symm
theorem getD_isV {zs:List Int}{ws:List Value} (h:IsV zs ws) {i:Nat}(hi:i < zs.length):∃t,ws[i]?=some (.int (zs.getD i 0) t):=by
 have hl:i < ws.length:=by rw[h.len]; exact hi
 obtain⟨z,t,e⟩:=h.2 _ (getElem_mem hl)
 have:zs.getD i 0=z:=by
  have e2:zs[i]?=(ws.map intV)[i]?:=by rw[h.1]
  rw[getElem?_map,List.getElem?_eq_getElem hl,e] at e2
  rw[List.getD_eq_getElem?_getD,e2]; rfl
 exact⟨t,by rw[List.getElem?_eq_getElem hl,e,this]⟩
section
variable {w:World}{ba bb:Bool}{fz:Addr->Option Obj}{bk hd hr:Addr}{q1 q2 q3 q4:Nat} {m:Int}{tm:Nat} {a:Int}{ta eb:Nat}{lh lr:List Ent}{e1 e2:Nat}
theorem next_ok {k:Nat}(hm:m=k+1)(hk:k<=50)(h1:∀e∈lh,IsI e.2.2)(h2:∀e∈lr,IsI e.2.2)(n t:Nat):∃ta' tg dm dt,ConOk (wR w ba bb) fz (cNxt w n t bk hd hr q1 q2 q3 q4 m tm a ta eb lh lr e1 e2 (nextP a m (k+1) lh lr).2 ta' (dueV (nextP a m (k+1) lh lr).1 tg) dm dt):=by
 have m0:m≠0:=by omega
 obtain⟨dm,dt,ws,o1,p1,v1,hw,K1⟩:=row_ok (w:=w) (ba:=ba) (bb:=bb) (fz:=fz) (L:=n) (LC:=n+6) (cm:=n+2) (cb:=n+1) (it:=n+4) (acc:=n+5) (bk:=bk) (hd:=hd) (hr:=hr) (q1:=q1) (q2:=q2) (q3:=q3) (q4:=q4) (tm:=tm) (a:=a) (ta:=ta) (eb:=eb) hm hk (n+7) (t+4)
 have wl:ws.length=k+1:=by rw[hw.len,rowL_len]
 obtain⟨dm2,dt2,d2,o2,hd2,K2⟩:=fil2_ok (w:=w) (ba:=ba) (bb:=bb) (fz:=fz) (L:=n) (LC:=n+7+dm+2) (cb:=n+1) (it:=n+7+dm) (acc:=n+7+dm+1) (rw:=n+5) (bk:=bk) (hr:=hr) (d:=hd) (q1:=q1) (q2:=q2) (q3:=q3) (q4:=q4) (m:=m) (tm:=tm) (a:=a) (ta:=ta) (eb:=eb) (ep:=e1) (er:=k+1) h1 hw.2 (by omega) (n+7+dm+3) (t+4+dt+1)
 have hu:=notIn_is (l:=lh) hw
 have ul:(notIn lh ws).length<=60:=le_trans (List.length_filter_le _ _) (by omega)
 obtain⟨dm3,dt3,d3,o3,hd3,K3⟩:=fil3_ok (w:=w) (ba:=ba) (bb:=bb) (fz:=fz) (L:=n) (LC:=n+7+dm+3+dm2+2) (cb:=n+1) (it:=n+7+dm+3+dm2) (acc:=n+7+dm+3+dm2+1) (rw:=n+7+dm+1) (bk:=bk) (hd:=hd) (d:=hr) (q1:=q1) (q2:=q2) (q3:=q3) (q4:=q4) (m:=m) (tm:=tm) (a:=a) (ta:=ta) (eb:=eb) (ep:=e2) (er:=(notIn lh ws).length) h2 hu.2 ul (n+7+dm+3+dm2+3) (t+4+dt+1+dt2+1)
 have hg:=notIn_is (l:=lr) hu
 have RI:∀n t r t1 t2 t3,ConOk (wR w ba bb) fz (cRIter n t r t1 t2 t3 m):=fun _ _ _ _ _ _=>cRIter_ok (by omega) (by omega)
 have eF:(rowL a m (k+1) 0).filter (fun z=>!hasZ lh z)=freeZ a m (k+1) lh:=rfl
 have eG:((rowL a m (k+1) 0).filter (fun z=>!hasZ lh z)).filter (fun z=>!hasZ lr z)=goodZ a m (k+1) lh lr:=rfl
 rw[eG] at hg
 rw[eF] at hu
 rcases hd2 with⟨rfl,_⟩ | ⟨_,p2,v2,rfl⟩
 ·simp at wl
 generalize notIn lh ws=us at *
 generalize eq:notIn lr us=gs at *
 unfold nextP
 cases gs with
 | cons g0 gs=>
  obtain⟨g,tg,rfl⟩:=hg.2 g0 (.head _)
  cases us with
  | nil=>cases eq
  | cons f0 fs=>
   rcases hd3 with⟨h,_⟩ | ⟨_,p3,v3,rfl⟩
   ·cases h
   have e3:∃r,goodZ a m (k+1) lh lr=g::r:=by
    have:=hg.1
    rw[map_cons] at this
    exact⟨_,this.symm⟩
   obtain⟨r,e3⟩:=e3
   rw[e3]
   exact⟨_,tg,_,_,con_as (nxA_ok w ba bb fz n t bk hd hr q1 q2 q3 q4 m tm a ta eb lh lr e1 e2 ws o1 o2 o3 (k+1) dm dt dm2 dt2 dm3 dt3 p1 v1 p2 v2 f0 fs (fs.length+1) g tg gs (gs.length+1) 0 0 p3 v3
    (ac bk_many (ac (RI _ _ _ _ _ _) (ac K1 (ac K2 (ac K3 (ac (cMod_ok m0) (all1 bk_put))))))) (act_ne rfl) (act_ne rfl) (act_ne rfl)) rfl rfl rfl rfl rfl⟩
 | nil=>
  rw[nil_of_isV hg]
  cases us with
  | nil=>
   rcases hd3 with⟨_,rfl⟩ | ⟨h,_⟩
   ·rw[nil_of_isV hu]
    exact⟨_,0,_,_,con_as (nxC0_ok w ba bb fz n t bk hd hr q1 q2 q3 q4 m tm a ta eb lh lr e1 e2 ws o1 o2 o3 (k+1) dm dt dm2 dt2 dm3 dt3 p1 v1 p2 v2 0 0 (ac bk_many (ac (RI _ _ _ _ _ _) (ac K1 (all2 K2 K3)))) (act_ne rfl) (act_ne rfl)) rfl rfl rfl rfl rfl⟩
   ·exact absurd rfl h
  | cons f0 fs=>
   rcases hd3 with⟨h,_⟩ | ⟨_,p3,v3,rfl⟩
   ·cases h
   have e3:∃f r,freeZ a m (k+1) lh=f::r/\r.length=fs.length:=by
    have:=hu.1
    rw[map_cons] at this
    exact⟨_,_,this.symm,length_map _⟩
   obtain⟨f,r,e3,e4⟩:=e3
   rw[e3] at hu
   rw[e3]
   have lp:(0:Int) < ((f0::fs).length:Int):=by rw[length_cons]; omega
   have i0:=Int.fmod_nonneg_of_pos (m - 1) lp
   have i1:=Int.fmod_lt_of_pos (m - 1) lp
   have el:((f::r).length:Int)=((f0::fs).length:Int):=by rw[length_cons,length_cons,e4]
   obtain⟨tf,hf⟩:=getD_isV hu (i:=((m - 1).fmod ((f0::fs).length:Int)).toNat) (by omega)
   dsimp only
   rw[el]
   have len60:(f0::fs).length<=60:=ul
   exact⟨_,0,_,_,con_as (nxB_ok w ba bb fz n t bk hd hr q1 q2 q3 q4 m tm a ta eb lh lr e1 e2 ws o1 o2 o3 (k+1) dm dt dm2 dt2 dm3 dt3 p1 v1 p2 v2 f0 fs (fs.length+1) _ tf p3 v3
    (ac bk_many (ac (RI _ _ _ _ _ _) (ac K1 (ac K2 (ac K3 (ac (cLen_ok (by omega)) (ac (cMod_ok (by omega)) (ac (cLGet_ok i0 (by omega) hf) (ac (cMod_ok m0) (all1 bk_put)))))))))) (act_ne rfl) (act_ne rfl) (act_ne rfl)) rfl rfl rfl rfl rfl⟩
end
end
def abA_c (w:World)(n t:Nat)(sk sd lm lmd tb td cn ls sl ln po pd tk:Addr)(K k T:Nat)(iss:Int)(ti:Nat) (g:Int)(tg:Nat)(l x:Int)(tf tl tx:Nat)(lt:List Ent)(e1:Nat)(lc:List Ent)(e2:Nat)(ll:List Ent)(e3:Nat)(lk:List Ent)(e4:Nat)(lh:List Ent)(e5:Nat)(N M:Nat)(I r:Int)(tr ta tb' tc td':Nat) (z:Int)(tz t0:Nat)(es':Array DictEntry)(tr' i j dm dt dm2 dt2:Nat):Con:=⟨Code.call (.ref 1365) ⟨[.ref sk,.int z tz,.int 0 t0],[]⟩,n,t,allO w sk sd lm tb td cn ls sl ln po pd tk T iss ti g tg l x tf tl tx lt e1 lc e2 ll e3 lk e4 lh e5++linkO w N M lm k I r tr td',[oI 1431 sd,oSd w T lm po tb sl ln ((I+1).fmod 65536) (M+353) g tg,oI 161 pd,oPd w (T+8) tk l x tf tl tx,(dD (dI (lt.eraseIdx j)) (e1+1)),oI 1173 td,oTd w T cn ls,(dD es' (e2+1)),(dD (dL w ll) e3),(dD (dI (lk.eraseIdx i)) (e4+1)),(dD (dI lh) e5)]++deadO w N M lm k I r tr td',[(n+28,oL [] 0)],.ok (.ret (.ref (n+28))),34+(dm)+3+(dm2)+1,95+(dt)+26+(dt2)+7,13⟩
def abA_h0:List Nat:=hx 91 [0x3409f3383e76967b21193f4535c335b1368e89fa137b013a05215de574394452ba8fd01a0a06ab058724e6e51474db0d4f3f77992892bf4b10d369f08754eb97eb1695279d4a5574511,0x5467ef319e3ea9dd0b5ef75c4f47f6ca32956f13f431542cf57488c9be813c1e67db27c5192194a60f7e6a2d4813f389c8319f93d4aa2479dadea1806d00e2a56c8e33c648bda6fa946,0x340adcb1da58c8438d66aea01c992ac5b2efe9649069d6d9de3de9bba837988151c10e059cdd35bedabbb2d5ba2bdca45ee6955f08345bc893f8f6e0c0caf05f1ee089fb9a796f56b73,0x340b04d95329579cd927ec6ad87e25655192b6f6022b3c47c409d4c51f00f232796ee27bd87d931040d1c99030e616a1fd183aec390061e42515a28be62e63974065fa75e9a204384d9,0x5909ba33f4419a7b01c1ce0a924d41e408c9ec9819e780f0618240ffd4f2aeece19c59e1e8c9577cdec717b38bad60893c730d31203937d3007de5708a1e3c6ef64257f109a3ce52a7c,0x505ea5e6d4d6f617b6392bae83c92e6426a5365fea0f430e09b788b8cbfb5d366518fb1e01069995ef6d3384b97aceee976c7a1d0fe5cb36ee78f8e48a44ee8a95a66d1ec8eb7d67643,0x343abdfd260d451008a04dfbd4e6616c542695a8b1d71742700beb8a2e29f752b3f302023f0a820448990cf99627bb7e6b50f9bea36aa85fe1814d1e7c25439e8fc62e6c5a62f91f413,0x4a02c5dfb64b1c44b79f025590da62a2903495fc0a52b7629115de3a33943e7044e3417f59d3c975fd5ad7c1c04d950da89fad47e2841708bed45697277d8ab9b2e00c542693b59a2a7,0x3409f49cba658444d2e6506238fea71f48258c2ab2d73faebf3917c88a8da065bc676a9f08c68932d9b1c1dbaa48b8fae3b09cf82dfa0d42b7fec7d4bfc86ced978c7464477619a1c8e,0x5535baa12cc49986eb76fde1625f8e2acf8d9887459813d351a4c96ccfcb21004dc994e767b1b716e0181517ce85c044686660c3b1ee4573ee32c5eb24f1a534ed6a909a40399670965,0x4eeba60ec12b428eb88f237f390f21facccdd689eb29709f790266f38021b0a696eed2d43f79e7a19d0c1500d89ba157b286b709b20128ee35d6f1b4db30ff6b43c61129f9e4cc8b1e0,0x53d3edd2a2b926f8ed4aaf3acca3e9291c1c12f2872b7c993f44cd9ce8d85f70e9a382b8c3fda2b126b77a7e577c59a6fe174163712a3055f27b8c90f785c82cba0670050c92e89c289,0x4255d37f0937f8c03508fc4d26aece65e57c09a1642d8ac62b7776c91710222e58670fc0c246a8365b50bad4df0d50b1fe6dae531ff38f5da55707ffd0c10626df7adb14bdaf6f9d1dc,0x3409f325e892abd3e31341eb4fcb34495f69ac744e89c9ead7db3be4629c59fa1d81e003f6001e2a03ef249d051ce88d48e7a45a8f50e9399ab9db252ce10fa4e7f102e99c233e643cb,0x3409f76521044f569b37818317d6e613eb4e8a093d68f50ed29cfcb5819a006ee16d1a5533db31340e9c8ce64349aeaf342d3898c2b0f9e57140b931e30b6335fb8ff888645e824ca32,0x345ce598e76e90ebd34b4caa3155ed6848a5c47afdab4b79b9ddcbe7bb70c2ece316b57b42b83e2cdbb1845cfeed1e8f712bd574887263386430dd8e7f29958e5a55e90aa1feceebc51,0x51bf552c939a81e5e6d75f3470f8ee5e3572bc2e724cf01a62aa1920f56fe45a64a19d4ac68957a1622f078dc8d27eadb35d4218b891ee98a77d5692408488a33433e6e1edc170cd2b9,0x6691c876a34fc9d330bc7e7bbefa9fb5e6502be09f1ac1e92c4ef10e61b660a3a48113327f5a1925a3df4c693510158ed37ced5]
def abA_h1:List Nat:=abA_h0.take 1057++abA_h0.drop 1064
theorem abA_ok (w ba bb fz n t sk sd lm lmd tb td cn ls sl ln po pd tk K k T iss ti g tg l x tf tl tx lt e1 lc e2 ll e3 lk e4 lh e5 N M I r tr ta tb' tc td' z tz t0 es' tr' i j dm dt dm2 dt2)(hc:∀D∈([cInI (n+1) (t+4) sl lh e5 z tz false,cInI (n+2) (t+8) ln lk e4 z tz true,cGetI (n+2) (t+10) ln lk e4 z tz (.ref (N+61)),cInI (n+4) (t+20) ln lk e4 z tz true,cGetI (n+4) (t+22) ln lk e4 z tz (.ref (N+61)),cGetI (n+33) (t+86) ln lk e4 z tz (.ref (N+61)),cRem w (n+34) (t+95) tb td cn ls T (dC w lc) (dL w ll) es' (dL w ll) e2 e3 (e2+1) e3 z tz tr' dm dt,cFree w (n+34+dm+3) (t+95+dt+26) po pd tk (T+8) l x tf tl tx lt e1 r tr j dm2 dt2,cPopI (n+34+dm+3+dm2+1) (t+95+dt+26+dt2+6) ln lk e4 z tz i (.ref (N+61))]:List Con),ConOk (wR w ba bb) fz D) (hro:∀p∈([(lm,oI 953 lmd),(lmd,oLm w K k),(N+1,oT [.int 1 ta,.int r tr]),(N+2,oT [.int 2 tb',.int 80 tc])]:List (Addr×Obj)),fz p.1=some p.2) (hb:∀b∈([(decide (2 * ((I+1).fmod 65536 - iss).fmod 65536 < 65536),true),(decide (((I+1).fmod 65536 - iss).fmod 65536 > 0),true)]:List (Bool×Bool)),b.1=b.2):ConOk (wR w ba bb) fz (abA_c w n t sk sd lm lmd tb td cn ls sl ln po pd tk K k T iss ti g tg l x tf tl tx lt e1 lc e2 ll e3 lk e4 lh e5 N M I r tr ta tb' tc td' z tz t0 es' tr' i j dm dt dm2 dt2):=by
 cases bb
 ·cases ba<;>exact con_run (N:=2306) (m₀:=51) (w0:=0) (u0:=1) (ze:=n+34+dm+3+dm2+1) (te:=t+95+dt+26+dt2+7) (ro:=[(lm,oI 953 lmd),(lmd,oLm w K k),(N+1,oT [.int 1 ta,.int r tr]),(N+2,oT [.int 2 tb',.int 80 tc])]) (hs:=abA_h0) (ni:=[79]) (by kernel_rfl) rfl rfl (by kernel_rfl) (by show n+34+dm+3+dm2+1=n+(34+(dm)+3+(dm2)+1); omega) (by show t+95+dt+26+dt2+7=t+(95+(dt)+26+(dt2)+7); omega) (by kernel_rfl) hc hro hb
 ·cases ba<;>exact con_run (N:=2296) (m₀:=51) (w0:=0) (u0:=1) (ze:=n+34+dm+3+dm2+1) (te:=t+95+dt+26+dt2+7) (ro:=[(lm,oI 953 lmd),(lmd,oLm w K k),(N+1,oT [.int 1 ta,.int r tr]),(N+2,oT [.int 2 tb',.int 80 tc])]) (hs:=abA_h1) (ni:=[79]) (by kernel_rfl) rfl rfl (by kernel_rfl) (by show n+34+dm+3+dm2+1=n+(34+(dm)+3+(dm2)+1); omega) (by show t+95+dt+26+dt2+7=t+(95+(dt)+26+(dt2)+7); omega) (by kernel_rfl) hc hro hb
def abB_c (w:World)(n t:Nat)(sk sd lm lmd tb td cn ls sl ln po pd tk:Addr)(K k T:Nat)(iss:Int)(ti:Nat) (g:Int)(tg:Nat)(l x:Int)(tf tl tx:Nat)(lt:List Ent)(e1:Nat)(lc:List Ent)(e2:Nat)(ll:List Ent)(e3:Nat)(lk:List Ent)(e4:Nat)(lh:List Ent)(e5:Nat)(N M:Nat)(I r:Int)(tr ta tb' tc td':Nat) (z:Int)(tz t0:Nat)(es':Array DictEntry)(tr' i j dm dt dm2 dt2:Nat):Con:=⟨Code.call (.ref 1365) ⟨[.ref sk,.int z tz,.int 0 t0],[]⟩,n,t,allO w sk sd lm tb td cn ls sl ln po pd tk T iss ti g tg l x tf tl tx lt e1 lc e2 ll e3 lk e4 lh e5++linkO w N M lm k I r tr td',[oI 1431 sd,oSd w T lm po tb sl ln iss ti g tg,oI 161 pd,oPd w (T+8) tk l x tf tl tx,(dD (dI (lt.eraseIdx j)) (e1+1)),oI 1173 td,oTd w T cn ls,(dD es' (e2+1)),(dD (dL w ll) e3),(dD (dI (lk.eraseIdx i)) (e4+1)),(dD (dI lh) e5)]++deadO w N M lm k I r tr td',[(n+28,oL [] 0)],.ok (.ret (.ref (n+28))),34+(dm)+3+(dm2)+1,95+(dt)+26+(dt2)+7,13⟩
def abB_h0:List Nat:=abA_h0.take 1401++[2]++abA_h0.drop 1402
def abB_h1:List Nat:=abB_h0.take 1057++abB_h0.drop 1064
theorem abB_ok (w ba bb fz n t sk sd lm lmd tb td cn ls sl ln po pd tk K k T iss ti g tg l x tf tl tx lt e1 lc e2 ll e3 lk e4 lh e5 N M I r tr ta tb' tc td' z tz t0 es' tr' i j dm dt dm2 dt2)(hc:∀D∈([cInI (n+1) (t+4) sl lh e5 z tz false,cInI (n+2) (t+8) ln lk e4 z tz true,cGetI (n+2) (t+10) ln lk e4 z tz (.ref (N+61)),cInI (n+4) (t+20) ln lk e4 z tz true,cGetI (n+4) (t+22) ln lk e4 z tz (.ref (N+61)),cGetI (n+33) (t+86) ln lk e4 z tz (.ref (N+61)),cRem w (n+34) (t+95) tb td cn ls T (dC w lc) (dL w ll) es' (dL w ll) e2 e3 (e2+1) e3 z tz tr' dm dt,cFree w (n+34+dm+3) (t+95+dt+26) po pd tk (T+8) l x tf tl tx lt e1 r tr j dm2 dt2,cPopI (n+34+dm+3+dm2+1) (t+95+dt+26+dt2+6) ln lk e4 z tz i (.ref (N+61))]:List Con),ConOk (wR w ba bb) fz D) (hro:∀p∈([(lm,oI 953 lmd),(lmd,oLm w K k),(N+1,oT [.int 1 ta,.int r tr]),(N+2,oT [.int 2 tb',.int 80 tc])]:List (Addr×Obj)),fz p.1=some p.2) (hb:∀b∈([(decide (2 * ((I+1).fmod 65536 - iss).fmod 65536 < 65536),false),(decide (((I+1).fmod 65536 - iss).fmod 65536 > 0),true)]:List (Bool×Bool)),b.1=b.2):ConOk (wR w ba bb) fz (abB_c w n t sk sd lm lmd tb td cn ls sl ln po pd tk K k T iss ti g tg l x tf tl tx lt e1 lc e2 ll e3 lk e4 lh e5 N M I r tr ta tb' tc td' z tz t0 es' tr' i j dm dt dm2 dt2):=by
 cases bb
 ·cases ba<;>exact con_run (N:=2306) (m₀:=51) (w0:=0) (u0:=1) (ze:=n+34+dm+3+dm2+1) (te:=t+95+dt+26+dt2+7) (ro:=[(lm,oI 953 lmd),(lmd,oLm w K k),(N+1,oT [.int 1 ta,.int r tr]),(N+2,oT [.int 2 tb',.int 80 tc])]) (hs:=abB_h0) (ni:=[79]) (by kernel_rfl) rfl rfl (by kernel_rfl) (by show n+34+dm+3+dm2+1=n+(34+(dm)+3+(dm2)+1); omega) (by show t+95+dt+26+dt2+7=t+(95+(dt)+26+(dt2)+7); omega) (by kernel_rfl) hc hro hb
 ·cases ba<;>exact con_run (N:=2296) (m₀:=51) (w0:=0) (u0:=1) (ze:=n+34+dm+3+dm2+1) (te:=t+95+dt+26+dt2+7) (ro:=[(lm,oI 953 lmd),(lmd,oLm w K k),(N+1,oT [.int 1 ta,.int r tr]),(N+2,oT [.int 2 tb',.int 80 tc])]) (hs:=abB_h1) (ni:=[79]) (by kernel_rfl) rfl rfl (by kernel_rfl) (by show n+34+dm+3+dm2+1=n+(34+(dm)+3+(dm2)+1); omega) (by show t+95+dt+26+dt2+7=t+(95+(dt)+26+(dt2)+7); omega) (by kernel_rfl) hc hro hb
def lis_c (w:World)(n t:Nat)(sk sd lm lmd tb td cn ls sl ln po pd tk:Addr)(K k T:Nat)(iss:Int)(ti:Nat) (g:Int)(tg:Nat)(l x:Int)(tf tl tx:Nat)(lt:List Ent)(e1:Nat)(lc:List Ent)(e2:Nat)(ll:List Ent)(e3:Nat)(lk:List Ent)(e4:Nat)(lh:List Ent)(e5:Nat) (p:Int)(ta tp tm:Nat):Con:=⟨Code.call (.ref 1294) ⟨[.ref sk,.int 0 ta,.int p tp,.int 2 tm],[]⟩,n,t,allO w sk sd lm tb td cn ls sl ln po pd tk T iss ti g tg l x tf tl tx lt e1 lc e2 ll e3 lk e4 lh e5,[oI 1431 sd,oSd w T lm po tb sl ln iss ti (g+1) (t+9),oI 161 pd,oPd w (T+8) tk l x tf tl tx,(dD (dI lt) e1),oI 1173 td,oTd w T cn ls,(dD (dC w lc) e2),(dD (dL w (ll++[(p,n+5,Value.int (g+1) (t+9))])) (e3+1)),(dD (dI lk) e4),(dD (dI (lh++[(g+1,t+9,Value.ref (n+7))])) (e5+1))],[(n+5,(oT [.int 0 ta,.int p tp])),(n+6,oD w.params 5 [("address",t+32,.int 0 ta),("port",t+34,.int p tp),("most_waiting",t+36,.int 2 tm),("opening",t+38,.ref (n+9)),("ready",t+40,.ref (n+10))]),(n+7,oI 1215 (n+6)),(n+9,oL [] 0),(n+10,oL [] 0)],.ok (.ret (.int (g+1) (t+9))),11,43,7⟩
def lis_h0:List Nat:=hx 22 [0x28ebf60200befbda24f8804a0379fd6eea731709c0baa6938483b9d813d5b8cc5da3cd1ea476742858008ef5f41e9cd5713cc,0x4536ccb7cce656faa50fc1d49bf83e685c4037d846b104fac89a48a36ecc7acb390004fecc155f98263d3b7d38f88810039cd,0x28c0e4707dcfba048c51db9f198e7c4b639aad10d7e20ad3e3d6cd9b43df3dffcb1091b2c9510d54592942bd5a2a308e3a72c,0x28c1bd9517679d76884cfa73df76804b938432b0fac4ba11c29936b3ced5676dba27efad7afcb1b73ba92d2df69694664ea54,0xe6ad86e10757d75463bf48fd60b35836b1fe4]
theorem lis_ok (w ba bb fz n t sk sd lm lmd tb td cn ls sl ln po pd tk K k T iss ti g tg l x tf tl tx lt e1 lc e2 ll e3 lk e4 lh e5 p ta tp tm)(hc:∀D∈([cInL w (n+5) (t+20) ls ll e3 (n+4) p ta tp false,cSetL w (n+6) (t+24) ls ll e3 (n+5) p ta tp (.int (g+1) (t+9)),cSetI (n+11) (t+42) sl lh e5 (g+1) (t+9) (.ref (n+7))]:List Con),ConOk (wR w ba bb) fz D) (hb:∀b∈([(decide (p≤65535),true),(decide (1≤p),true)]:List (Bool×Bool)),b.1=b.2):ConOk (wR w ba bb) fz (lis_c w n t sk sd lm lmd tb td cn ls sl ln po pd tk K k T iss ti g tg l x tf tl tx lt e1 lc e2 ll e3 lk e4 lh e5 p ta tp tm):=by
 cases ba<;>exact con_run (N:=567) (m₀:=11) (w0:=0) (u0:=1) (ze:=n+11) (te:=t+43) (hs:=lis_h0) (ni:=[16,17,18,20,21]) (by kernel_rfl) rfl rfl (by kernel_rfl) rfl rfl (by kernel_rfl) hc nm hb
def clo_c (w:World)(n t:Nat)(sk sd lm lmd tb td cn ls sl ln po pd tk:Addr)(K k T:Nat)(iss:Int)(ti:Nat) (g:Int)(tg:Nat)(l x:Int)(tf tl tx:Nat)(lt:List Ent)(e1:Nat)(lc:List Ent)(e2:Nat)(ll:List Ent)(e3:Nat)(lk:List Ent)(e4:Nat)(lh:List Ent)(e5:Nat)(N M:Nat) (p:Int)(ta tp tm:Nat) (z:Int)(tz t0:Nat)(es':Array DictEntry)(tr' i dm dt:Nat):Con:=⟨Code.call (.ref 1358) ⟨[.ref sk,.int z tz,.int 0 t0],[]⟩,n,t,allO w sk sd lm tb td cn ls sl ln po pd tk T iss ti g tg l x tf tl tx lt e1 lc e2 ll e3 lk e4 lh e5++lisO w N M p ta tp tm,[oI 1431 sd,oSd w T lm po tb sl ln iss ti g tg,oI 161 pd,oPd w (T+8) tk l x tf tl tx,(dD (dI lt) e1),oI 1173 td,oTd w T cn ls,(dD (dC w lc) e2),(dD es' (e3+1)),(dD (dI lk) e4),(dD (dI (lh.eraseIdx i)) (e5+1)),oD w.params 5 [("address",M+32,.int 0 ta),("port",M+34,.int p tp),("most_waiting",M+36,.int 2 tm),("opening",M+38,.ref (N+9)),("ready",M+40,.ref (N+10))],oI 1215 (N+6),oL [] 0,oL [] 0],[(n+2,oL [] 0)],.ok (.ret (.ref (n+2))),7+(dm)+0,15+(dt)+2,9⟩
def clo_h0:List Nat:=hx 69 [0x44db4c068057bc76afb7cbcdc78fa1d214633072eb15ff71541ad1fe5e269ee1d694e117b7af9d8004ffe5fde320afcf2e49c055fa3c061baf3eac4a76319a0ceed4558d06,0x44c3646b433c097a79bacc2833e85dabe08cc0433f7db573eff50b66e6c96b8793cdf88e02a267ae9ba33876e802da25264deb6aae4bd81cdafa91f27db9777e23a196ff86,0x3d0d6ce5452d078c8d1c1b5ce383eab36b35c96ddc185871b61]
theorem clo_ok (w ba bb fz n t sk sd lm lmd tb td cn ls sl ln po pd tk K k T iss ti g tg l x tf tl tx lt e1 lc e2 ll e3 lk e4 lh e5 N M p ta tp tm z tz t0 es' tr' i dm dt)(hc:∀D∈([cInI (n+1) (t+4) sl lh e5 z tz true,cGetI (n+2) (t+9) sl lh e5 z tz (.ref (N+7)),cRem w (n+7) (t+15) tb td cn ls T (dC w lc) (dL w ll) (dC w lc) es' e2 e3 e2 (e3+1) z tz tr' dm dt,cPopI (n+7+dm) (t+15+dt+1) sl lh e5 z tz i (.ref (N+7))]:List Con),ConOk (wR w ba bb) fz D):ConOk (wR w ba bb) fz (clo_c w n t sk sd lm lmd tb td cn ls sl ln po pd tk K k T iss ti g tg l x tf tl tx lt e1 lc e2 ll e3 lk e4 lh e5 N M p ta tp tm z tz t0 es' tr' i dm dt):=by
 cases ba<;>exact con_run (N:=305) (m₀:=15) (w0:=0) (u0:=1) (ze:=n+7+dm) (te:=t+15+dt+2) (hs:=clo_h0) (ni:=[17]) (by kernel_rfl) rfl rfl (by kernel_rfl) (by show n+7+dm=n+(7+(dm)+0); omega) (by show t+15+dt+2=t+(15+(dt)+2); omega) (by kernel_rfl) hc nm nm
def xIfRet (B:List Stmt)(i j:Nat) (e:Env) (m:Sem Value):Sem Fin:=
 xFun e (R.bindR (R.bindR (R.bindR m tRet) (tNext (dropL (ifBody (at1 B i)) (Nat.succ j)) e)) (tNext (dropL B (Nat.succ i)) e))
def xRet (B:List Stmt) (i:Nat) (e:Env) (m:Sem Value):Sem Fin:=xFun e (R.bindR (R.bindR m tRet) (tNext (dropL B (Nat.succ i)) e))
theorem good_ifRet (B:List Stmt)(i j:Nat) (e:Env):Good (xIfRet B i j e):=good_fun e (good_bind (good_bind (good_bind good_id _) _) _)
theorem good_ret (B:List Stmt) (i:Nat) (e:Env):Good (xRet B i e):=good_fun e (good_bind (good_bind good_id _) _)
def lamC (N M line:Nat):Obj:=oCo "<lambda>" "_law_deed_right.<locals>.<lambda>" M line 0 19 N true (.ref (N+2)) (.ref (N+3)) (.ref (N+4)) (M+4)
def tabL (c:Addr)(rest:List Value):Obj:=oF (.int 983 0::.int 32 0::.ref c::rest)
def lamD (N M line:Nat):Obj:=oCo "<lambda>" "_law_deed_right.<locals>.<lambda>" M line 0 19 N true (.ref (N+2)) (.ref (N+3)) (.ref (N+4)) (M+5)
noncomputable def conDm (C:Con)(dm dt:Nat):Con:=⟨C.code,C.n,C.t,C.pre,C.post,C.news,C.res,dm,dt,C.nd⟩
section
open PySem.MeetsSeq PySem.SeqAt
section
variable {w:World}{fz:Addr->Option Obj}
theorem ne_sys {a:Addr} (h:a≠1):(a == sysModules)=false:=by
 cases q:a == sysModules with
 | false=>rfl
 | true=>exact absurd (eq_of_beq q) h
theorem act_eqD {d z:Addr}{es:Array DictEntry}{ep:Nat} {β:Bool}(hd:d≠1)(hz:z≠1) (h:(es.size == 0)=β):
  ActOk w fz [(d,dD es ep),(z,dD #[] 0)] (tCmp .Eq (.ref d) (.ref z)) (.bool β):=by
 intro B s Q E hu hh hB hp nd hq
 have ho:=hp _ (.head _)
 have hz':=hp _ (.tail _ (.head _))
 have hd:=ne_sys hd
 have hd2:=ne_sys hz
 rw[tCmp_eq]
 refine wpAny_operateT ?_
 show wpAny _ _ (richCompare .Eq (.ref d) (.ref z)) _ _ s
 refine wpAny_richCompare_same_room (op:=.Eq) (dict_is ho) (dict_is hz') F.slot_dict_eq (wpAny_call_entry F.slot_dict_eq (dict_is ho) F.entry_dict_eq ?_ (F.args_dict_eq_2 _ _)) (u_lt hu)
 show wpAny _ _ (Builtin.Dict.dictSlotArgs "__eq__" ⟨[.ref d,.ref z],[]⟩ >>= _) _ _ s
 refine wpAny_bind ?_
 unfold Builtin.Dict.dictSlotArgs
 refine wpAny_bind (wpAny_notOrdered_dict (dict_is ho) ?_)
 refine wpAny_pure ?_
 refine wpAny_bind (wpAny_isInstance (T:="dict") (b:=true) ⟨_,hz',rfl⟩ isSubtype_dict_dict ?_)
 simp only[Bool.not_true,Bool.false_eq_true,if_false]
 refine wpAny_bind ?_
 refine wpAny_pure ?_
 refine wpAny_bind ?_
 refine wpAny_pure ?_
 refine wpAny_bind ?_
 unfold Builtin.Dict.samePairs Builtin.Dict.showsAll
 rw[if_neg (by rw[hd]; exact Bool.false_ne_true),if_neg (by rw[hd2]; exact Bool.false_ne_true)]
 refine wpAny_bind (wpAny_pure (wpAny_bind (wpAny_pure ?_)))
 refine wpAny_bind (wpAny_dictEntries ho rfl ?_)
 refine wpAny_bind (wpAny_dictEntries hz' rfl ?_)
 cases q:(es.size == 0) with
 | false=>
  have e:(es.size != (#[]:Array DictEntry).size)=true:=by show(!(es.size == 0))=true; rw[q]; rfl
  rw[if_pos e]
  refine wpAny_bind (wpAny_rule (wpAny_pure ?_))
  refine wpAny_pure ⟨_,rfl,(fun x=>nomatch x),?_⟩
  rw[q] at h
  rw[<- h] at hq
  exact hq
 | true=>
  have e:¬ (es.size != (#[]:Array DictEntry).size)=true:=by show ¬ (!(es.size == 0))=true; rw[q]; decide
  rw[if_neg e]
  have e0:es.size=0:=eq_of_beq q
  refine wpAny_bind (wpAny_dictEpoch ho rfl ?_)
  rw[e0]
  refine wpAny_bind (wpAny_of_eq (a:=(none,())) (by first | rfl | simp) ?_)
  refine wpAny_pure ?_
  refine wpAny_pure ⟨_,rfl,(fun x=>nomatch x),?_⟩
  rw[q] at h
  rw[<- h] at hq
  exact hq
theorem eq_same {A:Around} {s:Shared} (x:Int)(t u:Tok):EqAt A s (.int x t) (.int x u) true:=by
 have h:=EqAt.int_int (A:=A) (s:=s) x t x u
 rw[beq_self_eq_true] at h
 exact h
theorem isL {h:Heap} {a:Addr}{vs:List Value} {e:Nat} (q:h.get? a=some (oL0 vs e)):h.IsList a vs.toArray:=⟨_,q,rfl,e,rfl⟩
theorem isT {h:Heap} {a:Addr}{vs:Array Value} {e:Nat} (q:h.get? a=some ⟨.type "tuple",none,.seq vs e,#[]⟩):h.IsTuple a vs:=⟨_,q,rfl,e,rfl⟩
theorem u_in {B:Around} (h:B.units<=9000):B.in1.units < cLine:=by show B.units+1 < cLine; unfold cLine; omega
theorem act_eqN {a b:Addr}{e e':Nat}:ActOk w fz [(a,oL [] e),(b,oL [] e')] (tCmp .Eq (.ref a) (.ref b)) (.bool true):=by
 intro B s Q E hu hh hB hp nd hq
 have ha:=hp _ (.head _)
 have hb:=hp _ (.tail _ (.head _))
 rw[tCmp_eq]
 refine wpAny_operateT ?_
 exact RcAt.lists (e:=fun _=>true) (isL (vs:=[]) ha) (isL (vs:=[]) hb) rfl (u_lt hu) (fun j h1 _=>by cases h1) _ _ _ _ hq
theorem act_eqT {a b c d:Addr}{e e' f f':Nat}{x1 x2 x3 x4:Int}{t1 t2 t3 t4 u1 u2 u3 u4:Tok}(h1:b≠c){as:List (Addr×Obj)}
  (ha:(a,oL [.ref b] e)∈as) (hb:(b,(⟨.type "tuple",none,.seq #[.int x1 t1,.int x2 t2,.int x3 t3,.int x4 t4] f,#[]⟩:Obj))∈as)
  (hc:(c,(⟨.type "tuple",none,.seq #[.int x1 u1,.int x2 u2,.int x3 u3,.int x4 u4] f',#[]⟩:Obj))∈as) (hd:(d,oL [.ref c] e')∈as):
  ActOk w fz as (tCmp .Eq (.ref a) (.ref d)) (.bool true):=by
 intro B s Q E hu hh hB hp nd hq
 have ha:=hp _ ha
 have hb:=hp _ hb
 have hc:=hp _ hc
 have hd:=hp _ hd
 rw[tCmp_eq]
 refine wpAny_operateT ?_
 refine RcAt.lists (e:=fun _=>true) (isL (vs:=[.ref b]) ha) (isL (vs:=[.ref c]) hd) rfl (u_lt hu) (fun j g1 g2=>?_) _ _ _ _ hq
 have:j=0:=Nat.lt_one_iff.mp g1
 subst this
 show EqAt _ _ (.ref b) (.ref c) true
 refine EqAt.of_refs h1 ?_
 have z:=RcAt.tuples (A:=B.in1) (e:=fun _=>true) (isT hb) (isT hc) (u_in hu) (fun j g1 g2=>?_)
 ·exact z
 ·have g1:j < 4:=g1
  match j,g1,g2 with
  | 0,_,_=>exact eq_same x1 t1 u1
  | 1,_,_=>exact eq_same x2 t2 u2
  | 2,_,_=>exact eq_same x3 t3 u3
  | 3,_,_=>exact eq_same x4 t4 u4
end
end
theorem runs_size {M:Model} {Γ:Ctx} {p:Pos} {t:Sem Fin}{fs:List Frame}{s s':Shared} {e:End} (h:Runs M Γ p t fs s e s'):s.heap.objs.size<=s'.heap.objs.size:=by
 induction h<;>(try simp only[Shared.setGen,Heap.size_push,Heap.size_after_update] at *)<;>omega
theorem returns_size {M:Model} {Γ:Ctx} {p:Pos}{s s':Shared} {r:Result} (h:Returns M Γ p s r s'):s.heap.objs.size<=s'.heap.objs.size:=runs_size h
theorem wakes_size {M:Model} {Γ:Ctx} {p:Pos} {g:Nat} {r:Resume}{s s':Shared}{res:GenResult} (h:Wakes M Γ p g r s res s'):s.heap.objs.size<=s'.heap.objs.size:=by
 unfold Wakes at h
 split at h
 ·exact h.elim
 ·split at h
  ·obtain⟨e₁,s₁,hr,_,_,rfl⟩:=h; exact(runs_size hr:(s.setGen g .running).heap.objs.size<=s₁.heap.objs.size)
  ·rw[h.2]; exact le_refl _
  ·rw[h.2]; exact le_refl _
 ·obtain⟨e₁,s₁,hr,_,_,rfl⟩:=h; exact(runs_size hr:(s.setGen g .running).heap.objs.size<=s₁.heap.objs.size)
 ·rw[h.2]; exact le_refl _
 ·rw[h.2]; exact le_refl _
theorem wp_size {α:Type} (M:Model) (Γ:Ctx) (n:Nat) (t:Sem α):∀ (Q:α->Pos->Shared->Prop) (E:Value->Pos->Shared->Prop) (p:Pos) (s:Shared),n<=s.heap.objs.size->Sem.wp M Γ t Q E p s->
  Sem.wp M Γ t (fun a p' s'=>n<=s'.heap.objs.size/\Q a p' s') (fun e p' s'=>n<=s'.heap.objs.size/\E e p' s') p s:=by
 induction t with
 | pure a=>intro Q E p s hn h; exact⟨hn,h⟩
 | raise e=>intro Q E p s hn h; exact⟨hn,h⟩
 | unsupported _=>intro Q E p s _ h; exact h
 | finish _=>intro Q E p s _ h; exact h
 | rule _ k ih=>intro Q E p s hn h; exact ih () Q E p s hn h
 | «at» p' k ih=>intro Q E p s hn h; exact ih () Q E p' s hn h
 | load a _ k ih=>intro Q E p s hn h; obtain⟨o,ho,h⟩:=h; exact⟨o,ho,ih o Q E p s hn h⟩
 | update a _ f k ih=>intro Q E p s hn h; exact⟨h.1,ih () Q E p _ (by rw[Heap.size_after_update]; exact hn) h.2⟩
 | loadIfAlive a k ih=>intro Q E p s hn h; exact ih _ Q E p s hn h
 | point _ k ih=>intro Q E p s hn h; exact ih () Q E p s hn h
 | register _ _=>intro Q E p s _ h; exact h
 | alloc o k ih=>intro Q E p s hn h; exact ih _ Q E p _ (by rw[Heap.size_push]; omega) h
 | fresh k ih=>intro Q E p s hn h; exact ih _ Q E p _ hn h
 | ask k ih=>intro Q E p s hn h; exact ih _ Q E p s hn h
 | choose src m k ih=>intro Q E p s hn h; exact⟨h.1,ih _ Q E p _ hn h.2⟩
 | os q _ k ih=>intro Q E p s hn h; exact ih _ Q E p _ hn h
 | call c hd _ _ k ih=>intro Q E p s hn h; obtain⟨r,s',hr,h⟩:=h; exact⟨r,s',hr,ih r Q E p s' (le_trans hn (returns_size hr)) h⟩
 | handled own k ih=>intro Q E p s hn h; exact ih _ Q E p s hn h
 | genState g k ih=>intro Q E p s hn h; obtain⟨st,hs,h⟩:=h; exact⟨st,hs,ih _ Q E p s hn h⟩
 | newGen c k ih=>intro Q E p s hn h; exact ih _ Q E p _ hn h
 | resume g r _ k ih=>intro Q E p s hn h; obtain⟨res,s',hw,h⟩:=h; exact⟨res,s',hw,ih res Q E p s' (le_trans hn (wakes_size hw)) h⟩
 | yield _ _ _ _=>intro Q E p s _ h; exact h
 | stack k ih=>intro Q E p s hn h; exact ih _ Q E p s hn h
 | fork _ _=>intro Q E p s _ h; exact h
 | thread k ih=>intro Q E p s hn h; exact ih _ Q E p s hn h
 | await _ _ _ _ _=>intro Q E p s _ h; exact h
theorem sz {α:Type} {M:Model} {A:Around} {s:Shared} {t:Sem α} {Q:α->Shared->Prop} {E:Value->Shared->Prop}
  (h:wpAny M A t (fun a s'=>s.heap.objs.size<=s'.heap.objs.size->Q a s') (fun e s'=>s.heap.objs.size<=s'.heap.objs.size->E e s') s):wpAny M A t Q E s:=
 fun Γ p hΓ=>Sem.wp_mono M Γ t (fun _ _ _ x=>x.2 x.1) (fun _ _ _ x=>x.2 x.1) p s (wp_size M Γ _ t _ _ p s (le_refl _) (h Γ p hΓ))
noncomputable def hole (h:Heap) (F:List Addr):Heap:=F.foldr (fun a h=>h.update a fun o=>{o with data:=.freed}) h
theorem hole_none (h:Heap):∀ {F:List Addr} {a:Addr},a∈F->(hole h F).get? a=none
 | b::F,a,hm=>by
  show((hole h F).update b fun o=>{o with data:=.freed}).get? a=none
  by_cases q:b=a
  ·subst q
   cases e:((hole h F).update b fun o=>{o with data:=.freed}).get? b with
   | none=>rfl
   | some o=>
    exfalso
    obtain⟨e1,e2⟩:=Heap.get?_some_iff.mp e
    revert e1
    cases hh:hole h F
    simp only[Heap.update,Array.getElem?_modify,if_true]
    intro e1
    cases e3:(‹Array Obj›:Array Obj)[b]? with
    | none=>rw[e3] at e1; cases e1
    | some o'=>rw[e3] at e1; cases e1; cases e2
  ·rw[Heap.get?_update_other _ _ q]
   exact hole_none h ((mem_cons.mp hm).resolve_left fun e=>q e.symm)
theorem hole_of (h:Heap):∀ {F:List Addr} {a:Addr},a∉F->(hole h F).get? a=h.get? a
 | [],_,_=>rfl
 | b::F,a,hm=>by
  have:b≠a:=fun e=>hm (e▸.head _)
  show((hole h F).update b fun o=>{o with data:=.freed}).get? a=_
  rw[Heap.get?_update_other _ _ this]
  exact hole_of h fun q=>hm (.tail _ q)
theorem hole_stays (h:Heap) {F:List Addr}:(hole h F).StaysIn h:=fun b o e=>by
 by_cases q:b∈F
 ·rw[hole_none h q] at e; cases e
 ·rwa [hole_of h q] at e
def frA (fs:List Env):List Addr:=fs.filterMap (·.frame)
structure FrsOk (w:World)(fz:Addr->Option Obj)(as:List Addr) (h:Heap)(fs:List Env):Prop where
 ff:h.FunFrames (hole h (frA fs)) fs
 off:∀a∈frA fs,a∉as
 nb:∀a∈frA fs,baseLook w.params a=none
 nz:∀a∈frA fs,fz a=none
theorem ff_to {h h' base base':Heap}:∀ {fs:List Env},h.FunFrames base fs->(∀a∈frA fs,base'.get? a=none)->(∀a∈frA fs,∀o,h.get? a=some o->∃sl,h'.get? a=some {o with slots:=sl})->h'.FunFrames base' fs
 | [],_,_,_=>trivial
 | env::fs,⟨k,⟨L,o,e1,e2,e3,e4⟩,r⟩,hb,hk=>by
  have m:frA (env::fs)=L::frA fs:=by unfold frA; rw[filterMap_cons,e1]
  rw[m] at hb hk
  obtain⟨sl,z⟩:=hk L (.head _) o e3
  exact⟨k,⟨L,_,e1,hb L (.head _),z,e4⟩,ff_to r (fun a ha=>hb a (.tail _ ha)) (fun a ha=>hk a (.tail _ ha))⟩
def SlotsKept (gs:List Env)(h h':Heap):Prop:=∀a∈frA gs,∀o,h.get? a=some o->∃sl,h'.get? a=some {o with slots:=sl}
theorem SlotsKept.refl {gs:List Env} {h:Heap}:SlotsKept gs h h:=fun _ _ o e=>⟨o.slots,e⟩
theorem SlotsKept.trans {gs:List Env}{h h' h'':Heap} (x:SlotsKept gs h h') (y:SlotsKept gs h' h''):SlotsKept gs h h'':=fun a ha o e=>
 let ⟨_,e1⟩:=x a ha o e; let ⟨sl,e2⟩:=y a ha _ e1; ⟨sl,e2⟩
def Fly (w:World)(fz:Addr->Option Obj)(n₀:Nat)(pre:List Addr)(post:List (Addr×Obj))(h₀:Heap)(gs fs:List Env) (F:Heap->Heap->Prop)(h':Heap):Prop:=
 ∃base:Heap,F base h'/\BaseOk w fz base/\n₀<=h'.objs.size/\(∀p∈post,base.get? p.1=some p.2)/\(∀b o,h₀.get? b=some o->b∉pre->b∉frA fs->base.get? b=some o)/\SlotsKept gs h₀ h'
def UpF (fs:List Env) (e:Addr)(base h:Heap):Prop:=∃a0,Heap.FlyingW base fs e (.ref 63) a0 h
def UpH (fs:List Env)(L e:Addr)(base h:Heap):Prop:=∃a0,Heap.HeldW base fs e (.ref 63) a0 L h
def FailOk (w:World)(fz:Addr->Option Obj) (C:Con)(post:List (Addr×Obj)):Prop:=∀ (A:Around) (s:Shared)(fs:List Env),CtxOk A C.nd->Apart w fz (C.pre.map (·.1))->BaseOk w fz s.heap->s.heap.objs.size=C.n->s.toks=C.t->(∀p∈C.pre,s.heap.get? p.1=some p.2)->
 A.frames=some fs->FrsOk w fz (C.pre.map (·.1)) s.heap fs->∀R:Result->Shared->Prop,(∀e h',Fly w fz C.n (C.pre.map (·.1)) post s.heap fs fs (UpF fs e) h'->R (.error (.ref e)) ⟨h',s.gens,s.drawn,C.t+C.dt,s.os⟩)->codeAny (model P02 w) A C.code R s
def HeldOk (w:World)(fz:Addr->Option Obj) (C:Con)(env:Env) (L:Addr)(post:List (Addr×Obj)):Prop:=∀ (A:Around) (s:Shared)(fs:List Env),CtxOk A C.nd->Apart w fz (C.pre.map (·.1))->BaseOk w fz s.heap->s.heap.objs.size=C.n->s.toks=C.t->(∀p∈C.pre,s.heap.get? p.1=some p.2)->
 A.frames=some (env::fs)->FrsOk w fz (C.pre.map (·.1)) s.heap fs->∀R:Result->Shared->Prop,(∀e h',Fly w fz C.n (C.pre.map (·.1)) post s.heap fs (env::fs) (UpH (env::fs) L e) h'->R (.error (.ref e)) ⟨h',s.gens,s.drawn,C.t+C.dt,s.os⟩)->codeAny (model P02 w) A C.code R s
theorem raise_xFun {M:Model} {A:Around} {c:Code}{env:Env} {v:Value} {Q:Fin->Shared->Prop} {E:Value->Shared->Prop} {s:Shared}
  (k:wpAny M (A.under c) («leaving» env v) (fun _ s'=>E v s') E s):wpOwn M A c (xFun env (.raise v)) Q E s:=fun Γ p hc hΓ=>by
 have z:=k Γ p (hc▸hΓ.in)
 unfold xFun
 rw[<- PySem.W.R.bindR_eq,<- PySem.W.R.onRaiseR_eq]
 show Sem.wp M Γ (Sem.onRaise (Sem.raise v) _ >>= _) _ _ p s
 rw[Sem.wp_bind',Sem.wp_onRaise,Sem.wp_raise,<- Fast.te9442747609961115081]
 exact z
section
def isMod (k:ScopeKind):Bool:=match k with
 | .module=>true
 | _=>false
theorem not_mod {k:ScopeKind} (h:isMod k=false):k≠ .module:=fun q=>by rw[q] at h; cases h
def isBase:KS->Bool
 | .base=>true
 | _=>false
abbrev RaT:=Bool×Bool×List Env×Sem Fin×List (Option (Addr×Obj))×Nat
def raL (js:List Nat) (X:Out):RaT:=(isMore X,isBase (mcf X).κ,(mcf X).c.envs,(mcf X).t,js.map (mcf X).s.T.get,Nat.add (mcf X).s.tb (mcf X).s.tk)
def raR (env:Env) (e:Addr)(xs:List (Addr×Obj)) (t:Nat):RaT:=(true,true,[env],xFun env (.raise (.ref e)),xs.map some,t)
section
variable {w:World}{fz:Addr->Option Obj} {C:Con}{cons:List Con}{ro:List (Addr×Obj)}{nd:Nat}{fs:List Env}{env:Env} {X:Out}{h₀:Heap}{L e:Addr} {A:Around} {R:Result->Shared->Prop} {g:Array GenState} {d:Drawn}{os:OsState}
theorem fin_raise {js:List Nat}{oE oF:Obj}{post:List (Addr×Obj)} {t:Nat}{vs:Array Value}{a0:Value} (E:raL js X=raR env e ((e,oE)::(L,oF)::post) t)(ht:t=C.t+C.dt) (O:FxOk (fxOf w fz C h₀))
  (hL:env.frame=some L) (hk:env.scope.kind≠ .module) (hcls:oE.cls=.ref 63) (hd:oE.data=.fields vs) (h1:vs[1]?=some .none) (h0:vs[0]?=some a0) (hF:∀vs,oF.data≠ .fields vs)
  (he:C.n<=e) (hl:C.n<=L) (hy:post.map (·.1)=C.pre.map (·.1)) (hf:A.frames=some fs) (hfs:FrsOk w fz (C.pre.map (·.1)) h₀ fs)
  (hR:∀e h',Fly w fz C.n (C.pre.map (·.1)) post h₀ fs fs (UpF fs e) h'->R (.error (.ref e)) ⟨h',g,d,C.t+C.dt,os⟩):FinOk ⟨w,fz,nd,cons,ro⟩ (fxOf w fz C h₀) A R g d os X:=by
 have hpo:∀p∈post,p.1≠e/\p.1≠L:=fun p hp=>by
  have z:p.1∈C.pre.map (·.1):=hy▸mem_map.mpr ⟨p,hp,rfl⟩
  have l:Nat.lt p.1 C.n:=O.lt _ z
  exact⟨fun q=>absurd (lt_of_lt_of_le l (q▸he)) (lt_irrefl _),fun q=>absurd (lt_of_lt_of_le l (q▸hl)) (lt_irrefl _)⟩
 have e1:isMore X=true:=congrArg (fun x:RaT=>x.1) E
 cases X with
 | more cf=>
  have e2:isBase cf.κ=true:=congrArg (fun x:RaT=>x.2.1) E
  have e3:cf.c.envs= [env]:=congrArg (fun x:RaT=>x.2.2.1) E
  have e4:cf.t=xFun env (.raise (.ref e)):=congrArg (fun x:RaT=>x.2.2.2.1) E
  have e5:js.map cf.s.T.get=((e,oE)::(L,oF)::post).map some:=congrArg (fun x:RaT=>x.2.2.2.2.1) E
  have e6:cf.s.tb+cf.s.tk=t:=congrArg (fun x:RaT=>x.2.2.2.2.2) E
  intro dp ks h D
  obtain⟨c,dp₁,un,κ,t',T,m,zb,zk,tb,tk,hs₁,es,bs₁⟩:=cf
  dsimp only at e2 e3 e4 e5 e6 dp ks D
  cases κ with
  | ret=>cases e2
  | base=>
  have D:Rep (fxOf w fz C h₀) h T m (zb+zk):=D
  have al:=(map_some_mem e5).2
  have own:∀p∈(e,oE)::(L,oF)::post,h.get? p.1=some p.2/\baseLook w.params p.1=none/\fz p.1=none:=fun p hp=>by
   obtain⟨i,_,q⟩:=al p hp
   exact⟨(D.own _ _ q).2,D.nb O q,D.nz O q⟩
  have oe:=own _ (.head _)
  have ol:=own _ (.tail _ (.head _))
  have hne:e≠L:=fun q=>by
   have a:=oe.1
   have b:=ol.1
   dsimp only at a b
   rw[q,b] at a
   have:oF=oE:=Option.some.inj a
   subst this
   exact hF _ hd
  have old:∀ {b:Nat} {o:Obj},h₀.get? b=some o->Nat.lt b C.n:=fun {b o} q=>by have z:h₀.objs.size=C.n:=O.sz; rw[<- z]; exact Heap.lt_size q
  have fr:∀a∈frA fs,∃o,h₀.get? a=some o/\h.get? a=some o/\∀vs,o.data≠ .fields vs:=fun a ha=>by
   obtain⟨_,o,q,r⟩:=hfs.ff.mem ha
   exact⟨o,q,D.keep a o q (hfs.off a ha),r⟩
  have fo:∀a∈frA fs,Nat.lt a C.n:=fun a ha=>let ⟨o,q,_⟩:=fr a ha; old q
  have frk:SlotsKept fs h₀ h:=fun a ha o q=>⟨o.slots,D.keep a o q (hfs.off a ha)⟩
  show MN w A R c .base t' _
  rw[e4]
  refine raise_xFun (sz ?_)
  have hfr:((aro A .base).under c).frames=some (env::fs):=by show pushEnvs c.envs A.frames=_; rw[e3,hf]; rfl
  have stay:(hole h (e::L::frA fs)).StaysIn h:=hole_stays h
  have hen:(hole h (e::L::frA fs)).get? e=none:=hole_none h (.head _)
  have ff:h.FunFrames (hole h (e::L::frA fs)) (env::fs):=⟨hk,⟨L,oF,hL,hole_none h (.tail _ (.head _)),ol.1,hF⟩,ff_to hfs.ff (fun a ha=>hole_none h (.tail _ (.tail _ ha))) frk⟩
  refine wpAny_leaving_firstW hfr ff hL oe.1 stay hen hd h1 h0 fun h' hLf hz=>?_
  obtain⟨k1,⟨_,_,k2⟩,k3,k4⟩:=hLf
  have hz:h.objs.size<=h'.objs.size:=hz
  have nin:∀ {b:Addr},b≠e->b≠L->b∉frA fs->(hole h (e::L::frA fs)).get? b=h.get? b:=fun x y z=>hole_of h fun q=>by
   rcases mem_cons.mp q with q | q
   ·exact x q
   ·rcases mem_cons.mp q with q | q
    ·exact y q
    ·exact z q
  have fine:=hR e h' ⟨hole h (e::L::frA fs),⟨a0,k1,hen,k2,hcls▸k3⟩,⟨fun a o q=>?_,fun a o q=>?_⟩,?_,fun p hp=>?_,fun b o q hb hb'=>?_,fun a ha o q=>?_⟩
  ·show R (.error (.ref e)) ⟨h',g,d,tb+tk,os⟩
   rw[e6,ht]
   exact fine
  ·rw[nin (fun z=>by rw[z,oe.2.1] at q; cases q) (fun z=>by rw[z,ol.2.1] at q; cases q) (fun z=>by rw[hfs.nb a z] at q; cases q)]
   exact D.base.top a o q
  ·rw[nin (fun z=>by rw[z,oe.2.2] at q; cases q) (fun z=>by rw[z,ol.2.2] at q; cases q) (fun z=>by rw[hfs.nz a z] at q; cases q)]
   exact D.base.fz a o q
  ·exact le_trans (le_trans D.le (Nat.le_of_eq D.size.symm)) hz
  ·obtain⟨i,_,q⟩:=al p (.tail _ (.tail _ hp))
   rw[nin (hpo p hp).1 (hpo p hp).2 (fun z=>by
    rcases D.off _ _ q with r | r
    ·exact hfs.off _ z r
    ·exact absurd (lt_of_lt_of_le (fo _ z) r) (lt_irrefl _))]
   exact(D.own _ _ q).2
  ·have q0:=old q
   rw[nin (fun z=>absurd (lt_of_lt_of_le q0 (z▸he)) (lt_irrefl _)) (fun z=>absurd (lt_of_lt_of_le q0 (z▸hl)) (lt_irrefl _)) hb']
   exact D.keep b o q hb
  ·obtain⟨o',q1,q2,q3⟩:=fr a ha
   rw[q] at q1
   cases q1
   exact k4 a o q2 q3
 | _=>cases e1
theorem fin_pass {nd' z t:Nat}{js:List Nat} {D:Con}{xs post post':List (Addr×Obj)}{oF:Obj}{bs:List (Bool×Bool)} (O:FxOk (fxOf w fz C h₀))
  (E:callL nd D.nd js X=callR D.code xs D.n D.t [env] bs X) (hi:js.Nodup) (hκ:isBase (tS X).κ=true) (hk:∀v,(tS X).k (.error v)=xFun env (.raise v)) (hL:env.frame=some L) (hm:env.scope.kind≠ .module)
  (hD:FailOk w fz D post') (hpr:∀p∈D.pre,p∈xs) (hnd:(D.pre.map (·.1)).Nodup) (hxL:(L,oF)∈xs) (hF:∀vs,oF.data≠ .fields vs) (hl:C.n<=L) (hLp:L∉D.pre.map (·.1))
  (hpo:∀p∈post,p∈post'\/(p∈xs/\p.1∉D.pre.map (·.1)/\p.1≠L)) (ht:t=D.t+D.dt) (hA:CtxOk A nd) (hf:A.frames=some fs) (hfs:FrsOk w fz (C.pre.map (·.1)) h₀ fs)
  (hR:∀e h',Fly w fz C.n (C.pre.map (·.1)) post h₀ fs fs (UpF fs e) h'->R (.error (.ref e)) ⟨h',g,d,t,os⟩):FinOk ⟨w,fz,nd,cons,ro⟩ (fxOf w fz C h₀) A R g d os X:=by
 refine fin_call E hi hA hf fun B h hB hBf K a=>?_
 have old:∀ {b:Nat} {o:Obj},h₀.get? b=some o->Nat.lt b C.n:=fun {b o} q=>by have z:h₀.objs.size=C.n:=O.sz; rw[<- z]; exact Heap.lt_size q
 have fr:∀a'∈frA fs,∃o,h₀.get? a'=some o/\h.get? a'=some o/\∀vs,o.data≠ .fields vs:=fun a' ha=>by
  obtain⟨_,o,q,r⟩:=hfs.ff.mem ha
  exact⟨o,q,a.keep a' o q (hfs.off a' ha),r⟩
 have fo:∀a'∈frA fs,Nat.lt a' C.n:=fun a' ha=>let ⟨o,q,_⟩:=fr a' ha; old q
 have frk:SlotsKept fs h₀ h:=fun a' ha o q=>⟨o.slots,a.keep a' o q (hfs.off a' ha)⟩
 have mL:frA (env::fs)=L::frA fs:=by unfold frA; rw[filterMap_cons,hL]
 have offX:∀p∈xs,p.1∉frA fs:=fun p hp z=>by
  rcases a.off p hp with r | r
  ·exact hfs.off _ z r
  ·exact absurd (lt_of_lt_of_le (fo _ z) r) (lt_irrefl _)
 have nbX:∀p∈xs,baseLook w.params p.1=none/\fz p.1=none:=fun p hp=>by
  rcases a.off p hp with r | r
  ·exact⟨O.ap.nb _ r,O.ap.nz _ r⟩
  ·constructor
   ·cases q:baseLook w.params p.1 with
    | none=>rfl
    | some o=>exact absurd (lt_of_lt_of_le (baseLook_lt q) (le_trans O.bl r)) (lt_irrefl _)
   ·cases q:fz p.1 with
    | none=>rfl
    | some o=>exact absurd (lt_of_lt_of_le (O.fl _ _ q) r) (lt_irrefl _)
 have apD:Apart w fz (D.pre.map (·.1)):=⟨hnd,fun b hb=>by obtain⟨p,hp,rfl⟩:=mem_map.mp hb; exact(nbX p (hpr p hp)).1,fun b hb=>by obtain⟨p,hp,rfl⟩:=mem_map.mp hb; exact(nbX p (hpr p hp)).2⟩
 have frD:FrsOk w fz (D.pre.map (·.1)) h (env::fs):=by
  refine⟨⟨hm,⟨L,oF,hL,hole_none h (by rw[mL]; exact .head _),a.at_ _ hxL,hF⟩,ff_to hfs.ff (fun a' ha=>hole_none h (by rw[mL]; exact .tail _ ha)) frk⟩,fun a' ha q=>?_,fun a' ha=>?_,fun a' ha=>?_⟩
  ·rw[mL] at ha
   rcases mem_cons.mp ha with r | r
   ·exact hLp (r▸q)
   ·obtain⟨p,hp,e⟩:=mem_map.mp q
    exact offX p (hpr p hp) (e▸r)
  ·rw[mL] at ha
   rcases mem_cons.mp ha with r | r
   ·exact r▸(nbX _ hxL).1
   ·exact hfs.nb _ r
  ·rw[mL] at ha
   rcases mem_cons.mp ha with r | r
   ·exact r▸(nbX _ hxL).2
   ·exact hfs.nz _ r
 refine hD B ⟨h,g,d,D.t,os⟩ (env::fs) hB apD a.base a.size rfl (fun p hp=>a.at_ p (hpr p hp)) hBf frD _ fun e h' ⟨base,⟨a0,fl⟩,b1,b2,b3,b4,b5⟩=>?_
 have e3:(tS X).c.envs++frsOf (tS X).κ= [env]:=congrArg (fun x:CallT=>x.2.2.2.2.2.2.1) E
 generalize tS X=S at hκ hk K e3 ⊢
 obtain⟨c',k,c,dp,un,κ,s⟩:=S
 dsimp only at hκ hk e3 ⊢
 cases κ with
 | ret=>cases hκ
 | base=>
 have e3:c.envs++[]= [env]:=e3
 rw[append_nil] at e3
 rw[hk]
 have hfr:((aro A .base).under c).frames=some (env::fs):=by show pushEnvs c.envs A.frames=_; rw[e3,hf]; rfl
 refine raise_xFun (sz (wpAny_leaves_onW hfr hL fl fun h'' fl' up hz=>?_))
 have hz:h'.objs.size<=h''.objs.size:=hz
 have fine:=hR e h'' ⟨base,⟨a0,fl'⟩,b1,?_,fun p hp=>?_,fun b o q hb hb'=>?_,fun a' ha o q=>?_⟩
 ·show R (.error (.ref e)) ⟨h'',g,d,D.t+D.dt,os⟩
  rw[<- ht]
  exact fine
 ·exact le_trans a.le (le_trans b2 hz)
 ·rcases hpo p hp with r | ⟨r1,r2,r3⟩
  ·exact b3 p r
  ·refine b4 _ _ (a.at_ p r1) r2 fun q=>?_
   rw[mL] at q
   rcases mem_cons.mp q with y | y
   ·exact r3 y
   ·exact offX p r1 y
 ·have q0:=old q
  refine b4 b o (a.keep b o q hb) (fun z=>?_) fun z=>?_
  ·obtain⟨p,hp,ep⟩:=mem_map.mp z
   rcases a.off p (hpr p hp) with r | r
   ·exact hb (ep▸r)
   ·exact absurd (lt_of_lt_of_le q0 (ep▸r)) (lt_irrefl _)
  ·rw[mL] at z
   rcases mem_cons.mp z with y | y
   ·exact absurd (lt_of_lt_of_le q0 (y▸hl)) (lt_irrefl _)
   ·exact hb' y
 ·obtain⟨o',q1,q2,q3⟩:=fr a' ha
  rw[q] at q1
  cases q1
  obtain⟨sl,r⟩:=b5 a' (by rw[mL]; exact .tail _ ha) o q2
  obtain⟨sl',r'⟩:=up a' _ r q3
  exact⟨sl',r'⟩
theorem idx_inj' {α:Type} {l:List α} (h:l.Nodup){i j:Nat} {a:α}(ei:l[i]?=some a)(ej:l[j]?=some a):i=j:=by
 obtain⟨hi,e1⟩:=List.getElem?_eq_some_iff.mp ei
 obtain⟨hj,e2⟩:=List.getElem?_eq_some_iff.mp ej
 rcases Nat.lt_trichotomy i j with q | q | q
 ·exact absurd (e1.trans e2.symm) (List.pairwise_iff_getElem.mp h i j hi hj q)
 ·exact q
 ·exact absurd (e2.trans e1.symm) (List.pairwise_iff_getElem.mp h j i hj hi q)
def pick {α:Type}(xs:List α)(idx:List Nat):List (Option α):=idx.map (nthL xs ·)
def mergeP (idx:List Nat)(post':List (Addr×Obj)):List (Addr×Obj)->Nat->List (Addr×Obj)
 | [],_=>[]
 | x::xs,i=>(match idx.idxOf? i with
  | none=>[x]
  | some k=>(nthL post' k).toList)++mergeP idx post' xs (i+1)
theorem merge_mem {idx:List Nat}{post':List (Addr×Obj)}(xs:List (Addr×Obj)):∀ {i:Nat} {p:Addr×Obj},p∈mergeP idx post' xs i->p∈post'\/∃j,xs[j]?=some p/\i+j∉idx:=by
 induction xs with
 | nil=>intro i p h; cases h
 | cons x xs ih=>
  intro i p h
  rcases mem_append.mp h with h | h
  ·cases q:idx.idxOf? i with
   | none=>
    rw[q] at h
    refine .inr ⟨0,?_,fun z=>?_⟩
    ·rw[mem_singleton.mp h]; rfl
    ·exact(List.idxOf?_eq_none_iff.mp q) z
   | some k=>
    rw[q] at h
    dsimp only at h
    cases y:nthL post' k with
    | none=>rw[y] at h; cases h
    | some v=>
     rw[y] at h
     have:p=v:=mem_singleton.mp h
     rw[this]
     exact .inl (nthL_mem y)
  ·rcases ih h with h | ⟨j,h1,h2⟩
   ·exact .inl h
   ·exact .inr ⟨j+1,h1,fun z=>h2 (by rwa [show i+1+j=i+(j+1) by omega])⟩
theorem pick_ok {ys pre post':List (Addr×Obj)}{idx:List Nat}(ndy:(ys.map (·.1)).Nodup)(hx:pick ys idx=pre.map some)(hix:idx.Nodup):(pre.map (·.1)).Nodup/\(∀p∈pre,p∈ys)/\∀p∈mergeP idx post' ys 0,p∈post'\/(p∈ys/\p.1∉pre.map (·.1)):=by
 have el:∀p∈pre,∃i∈idx,nthL ys i=some p:=fun p hp=>by
  have:some p∈pre.map some:=mem_map.mpr ⟨p,hp,rfl⟩
  rw[<- hx] at this
  obtain⟨i,h1,h2⟩:=mem_map.mp this
  exact⟨i,h1,h2⟩
 have inj:∀ (i j:Nat) (p q:Addr×Obj),ys[i]?=some p->ys[j]?=some q->p.1=q.1->i=j:=fun i j p q h1 h2 e=>by
  have a:(ys.map (·.1))[i]?=some p.1:=by rw[getElem?_map,h1]; rfl
  have b:(ys.map (·.1))[j]?=some p.1:=by rw[getElem?_map,h2]; exact congrArg some e.symm
  exact idx_inj' ndy a b
 refine⟨?_,fun p hp=>let ⟨i,_,h⟩:=el p hp; nthL_mem h,fun p hp=>?_⟩
 ·have s:(pre.map (·.1)).map some=idx.map fun i=>(nthL ys i).map (·.1):=by
   rw[map_map,show(some ∘ fun x:Addr×Obj=>x.1)=(Option.map (·.1)) ∘ some from rfl,<- map_map,<- hx]
   unfold pick
   rw[map_map]; rfl
  have nd2:((pre.map (·.1)).map some).Nodup:=by
   rw[s]
   have inj2:∀i∈idx,∃p,nthL ys i=some p:=fun i hi=>by
    have:nthL ys i∈pick ys idx:=mem_map.mpr ⟨i,hi,rfl⟩
    rw[hx] at this
    obtain⟨p,_,h⟩:=mem_map.mp this
    exact⟨p,h.symm⟩
   clear s hx
   have hE:∀i j,i∈idx->j∈idx->(nthL ys i).map (·.1)=(nthL ys j).map (·.1)->i=j:=fun i j hi hj e=>by
    obtain⟨p,h1⟩:=inj2 i hi
    obtain⟨q,h2⟩:=inj2 j hj
    rw[h1,h2] at e
    rw[nthL_get] at h1 h2
    exact inj i j p q h1 h2 (Option.some.inj e)
   clear el inj2
   induction idx with
   | nil=>exact .nil
   | cons i is ih=>
    obtain⟨n1,n2⟩:=nodup_cons.mp hix
    refine nodup_cons.mpr ⟨fun hm=>?_,ih n2 fun a b ha hb=>hE a b (.tail _ ha) (.tail _ hb)⟩
    obtain⟨j,hj,e⟩:=mem_map.mp hm
    exact n1 (hE i j (.head _) (.tail _ hj) e.symm▸hj)
  exact List.Pairwise.of_map some (fun a b h z=>h (congrArg some z)) nd2
 ·rcases merge_mem _ hp with h | ⟨j,h1,h2⟩
  ·exact .inl h
  ·rw[Nat.zero_add] at h2
   refine .inr ⟨mem_of_getElem? h1,fun z=>?_⟩
   obtain⟨q,hq,e⟩:=mem_map.mp z
   obtain⟨i,hi',hn⟩:=el q hq
   rw[nthL_get] at hn
   exact h2 (inj j i p q h1 hn e.symm▸hi')
theorem fin_pass' {js idx:List Nat} {D:Con}{ys:List (Addr×Obj)}{oF:Obj}{bs:List (Bool×Bool)}
  (E:callL nd D.nd js X=callR D.code ((L,oF)::ys) D.n D.t [env] bs X) (hi:js.Nodup) (hκ:isBase (tS X).κ=true) (hk:∀v,(tS X).k (.error v)=xFun env (.raise v)) (hy:ys.map (·.1)=C.pre.map (·.1)) (hx:pick ys idx=D.pre.map some) (hix:idx.Nodup)
  (hpo:zipA C.pre C.post=mergeP idx (zipA D.pre D.post) ys 0) (ht:C.t+C.dt=D.t+D.dt) (hL:env.frame=some L) (hm:env.scope.kind≠ .module) (hF:∀vs,oF.data≠ .fields vs) (hl:C.n<=L)
  (hD:FailOk w fz D (zipA D.pre D.post)) (O:FxOk (fxOf w fz C h₀)) (hA:CtxOk A nd) (hf:A.frames=some fs) (hfs:FrsOk w fz (C.pre.map (·.1)) h₀ fs)
  (hR:∀e h',Fly w fz C.n (C.pre.map (·.1)) (zipA C.pre C.post) h₀ fs fs (UpF fs e) h'->R (.error (.ref e)) ⟨h',g,d,C.t+C.dt,os⟩):FinOk ⟨w,fz,nd,cons,ro⟩ (fxOf w fz C h₀) A R g d os X:=by
 have ndy:(ys.map (·.1)).Nodup:=hy▸O.ap.nd
 have lt:∀p∈ys,Nat.lt p.1 C.n:=fun p hp=>by
  have z:p.1∈C.pre.map (·.1):=hy▸mem_map.mpr ⟨p,hp,rfl⟩
  exact O.lt _ z
 obtain⟨k1,k2,k3⟩:=pick_ok (post':=zipA D.pre D.post) ndy hx hix
 refine fin_pass (post:=zipA C.pre C.post) (post':=zipA D.pre D.post) (nd':=0) (z:=0) O E hi hκ hk hL hm hD (fun p hp=>.tail _ (k2 p hp)) k1 (.head _) hF hl (fun z=>?_) (fun p hp=>?_) ht hA hf hfs hR
 ·obtain⟨p,hp,e⟩:=mem_map.mp z
  exact absurd (lt_of_lt_of_le (lt p (k2 p hp)) (e▸hl)) (lt_irrefl _)
 ·rw[hpo] at hp
  rcases k3 p hp with h | ⟨my,h2⟩
  ·exact .inl h
  ·exact .inr ⟨.tail _ my,h2,fun z=>absurd (lt_of_lt_of_le (lt p my) (z▸hl)) (lt_irrefl _)⟩
theorem fail_of {N w0 u0:Nat}{hs:List Nat}{bs:List (Bool×Bool)}{post:List (Addr×Obj)}(hk:and (Nat.ble C.code.weight w0) (Nat.ble C.code.cUnits u0)=true)(hm':Nat.ble C.pre.length 4000=true)
  (E:FineO (xOf w fz C cons ro N w0 u0 hs) bs) (hc:∀D∈cons,ConOk w fz D) (hro:∀p∈ro,fz p.1=some p.2) (hb:∀b∈bs,b.1=b.2)
  (F:∀ (A:Around) (s:Shared) (R:Result->Shared->Prop) (fs:List Env),CtxOk A C.nd->FxOk (fxOf w fz C s.heap)->A.frames=some fs->FrsOk w fz (C.pre.map (·.1)) s.heap fs->
   (∀e h',Fly w fz C.n (C.pre.map (·.1)) post s.heap fs fs (UpF fs e) h'->R (.error (.ref e)) ⟨h',s.gens,s.drawn,C.t+C.dt,s.os⟩)->FinOk (vOf w fz C cons ro) (fxOf w fz C s.heap) A R s.gens s.drawn s.os (xOf w fz C cons ro N w0 u0 hs)):FailOk w fz C post:=by
 intro A s fs hA ap B hsz ht hpre hf hfs R hR
 have G:=began (le_of_ble_eq_true hm') ap B hsz hpre
 exact run_from (le_of_k hk) rfl (congrArg Prod.fst E) (congrArg Prod.snd E) hb hA hc hro ht G (F A s R fs hA G.ok hf hfs hR)
end
end
def freeE_c (w:World)(n t:Nat)(L it:Addr)(ts tn:Nat) (y:Int)(ty:Nat)(i left:Int)(po:Addr)(tt:Nat)(vt:Value):Con:=⟨forC w.params 144 1 L [] (.ref it),n,t,[(L,oFr3 w ts po tn y ty tt vt),(it,rIt i left)],[oX w.params "frame" 3 [("self",ts,.ref po),("number",tn,.int y ty),("turn",tt,vt)],⟨.type "range_iterator",none,.fields #[.int i 0,.int left 0,.int 1 0],#[]⟩],[],.ok .next,2,0,5⟩
def freeE_h0:List Nat:=[3,4,0,1,5,0]
theorem freeE_ok (w ba bb fz n t L it ts tn y ty i left po tt vt)(hc:∀D∈([cEndR n t it i left]:List Con),ConOk (wR w ba bb) fz D):ConOk (wR w ba bb) fz (freeE_c w n t L it ts tn y ty i left po tt vt):=by
 exact con_run (N:=11) (m₀:=2) (w0:=0) (u0:=0) (ze:=n+2) (te:=t) (ro:=[]) (hs:=freeE_h0) (ni:=[]) (by kernel_rfl) rfl rfl (by kernel_rfl) rfl rfl (by kernel_rfl) hc nm (bs:=[]) nm
def ownE_c (w:World)(n t:Nat)(L it:Addr)(ts tq sk t0 tt tg':Nat)(vt vf:Value)(i left:Int):Con:=⟨forC w.params 1309 1 L [] (.ref it),n,t,[(L,oFo4 w ts tq sk t0 tt vt tg' vf),(it,rIt i left)],[oX w.params "frame" 4 [("self",ts,.ref sk),("local_port",tq,.int 0 t0),("turn",tt,vt),("found",tg',vf)],⟨.type "range_iterator",none,.fields #[.int i 0,.int left 0,.int 1 0],#[]⟩],[],.ok .next,2,0,5⟩
theorem ownE_ok (w ba bb fz n t L it ts tq sk t0 tt tg' vt vf i left)(hc:∀D∈([cEndR n t it i left]:List Con),ConOk (wR w ba bb) fz D):ConOk (wR w ba bb) fz (ownE_c w n t L it ts tq sk t0 tt tg' vt vf i left):=by
 exact con_run (N:=11) (m₀:=2) (w0:=0) (u0:=0) (ze:=n+2) (te:=t) (ro:=[]) (hs:=freeE_h0) (ni:=[]) (by kernel_rfl) rfl rfl (by kernel_rfl) rfl rfl (by kernel_rfl) hc nm (bs:=[]) nm
section
theorem zipA_app {xs ys:List (Addr×Obj)}(ps:List (Addr×Obj)):∀ {os:List Obj},os.length=ps.length->zipA (ps++xs) (os++ys.map (·.2))=zipA ps os++zipA xs (ys.map (·.2)):=by
 induction ps with
 | nil=>intro os h; cases os with
  | nil=>rfl
  | cons o os=>exact absurd h (Nat.succ_ne_zero _)
 | cons p ps ih=>intro os h; cases os with
  | nil=>exact absurd h.symm (Nat.succ_ne_zero _)
  | cons o os=>
   show(p.1,o)::zipA (ps++xs) (os++_)=(p.1,o)::(zipA ps os++_)
   rw[ih (Nat.succ.inj h)]
theorem zipA_self:∀ {xs:List (Addr×Obj)},zipA xs (xs.map (·.2))=xs
 | []=>rfl
 | p::xs=>by show(p.1,p.2)::zipA xs _=_; rw[zipA_self]
theorem con_more {w:World}{fz:Addr->Option Obj}{C D:Con}(xs:List (Addr×Obj)) (K:ConOk w fz C)(hl:C.post.length=C.pre.length) (e:D={C with pre:=C.pre++xs,post:=C.post++xs.map (·.2),nd:=D.nd})(hn:Nat.ble C.nd D.nd=true):ConOk w fz D:=by
 have e1:D.pre=C.pre++xs:=congrArg Con.pre e
 have e2:D.post=C.post++xs.map (·.2):=congrArg Con.post e
 refine con_frame K (by rw[e1,e2]; exact e) (e1▸List.sublist_append_left _ _) (fun nd p hp=>?_) hn
 rw[e1,e2,zipA_app _ hl,zipA_self] at hp
 rw[e1,map_append] at nd
 rcases mem_append.mp hp with h | h
 ·exact .inl h
 ·refine .inr ⟨by rw[e1]; exact mem_append_right _ h,fun q hq z=>?_⟩
  exact(nodup_append.mp nd).2.2 _ (mem_map.mpr ⟨q,hq,rfl⟩) _ (mem_map.mpr ⟨p,h,rfl⟩) z
def cFreeZ (w:World)(n t:Nat)(L it po pd tk:Addr) (k:Nat)(l x:Int)(tf tl tx:Nat)(lt:List Ent)(e1:Nat)(i left:Int)(o0 o1 o2:Obj)(dm dt:Nat):Con:=
 ⟨forC w.params 144 1 L [] (.ref it),n,t,[(L,o0),(it,rIt i left),(po,oI 161 pd),(pd,oPd w k tk l x tf tl tx),(tk,dD (dI lt) e1)],[o1,o2,oI 161 pd,oPd w k tk l x tf tl tx,dD (dI lt) e1],[],.ok .next,dm,dt,6⟩
section
variable {w:World}{ba bb:Bool}{fz:Addr->Option Obj}{L it po pd tk:Addr} {k:Nat}{l x:Int}{tf tl tx:Nat}{lt:List Ent}{e1 ts:Nat}
theorem free_loopZ1:∀m i n t y ty tn tt vt,freeP lt l m y=none->∃z tz tz' tt' vt' o2 dm dt,ConOk (wR w ba bb) fz (cFreeZ w n t L it po pd tk k l x tf tl tx lt e1 i m (oFr3 w ts po tn y ty tt vt) (oFr3 w ts po tz' z tz tt' vt') o2 dm dt)
 | 0,i,n,t,y,ty,tn,tt,vt,h=>⟨_,_,_,_,_,_,_,_,con_more [(po,oI 161 pd),(pd,oPd w k tk l x tf tl tx),(tk,dD (dI lt) e1)] (freeE_ok w ba bb fz n t L it ts tn y ty i 0 po tt vt (all1 (cEndR_ok (by omega)))) rfl rfl rfl⟩
 | m+1,i,n,t,y,ty,tn,tt,vt,h=>by
  unfold freeP at h
  obtain⟨tz,dm,dt,KB⟩:=behind_ok (w:=w) (ba:=ba) (bb:=bb) (fz:=fz) (po:=po) (pd:=pd) (tk:=tk) (k:=k) (l:=l) (x:=x) (tf:=tf) (tl:=tl) (tx:=tx) (n+1) (t+6) y ty
  cases q:(posP lt y).isSome with
  | false=>rw[q] at h; cases h
  | true=>
   rw[q] at h
   have T:=freeA1_ok w ba bb fz n t L it ts tn tz y (behP l y) ty i (m+1) dm dt po pd tk k l x tf tl tx lt e1 tt vt (ac (cNextR_ok (by omega)) (ac (cInI_ok q) (all1 KB)))
   obtain⟨z',tz',tz2,tt',vt',o2,dm',dt',K⟩:=free_loopZ1 m (i+1) (n+(1+dm+0)) (t+(6+dt+1)) (behP l y) tz tn tt (.int i t) h
   refine⟨z',tz',tz2,tt',vt',o2,(1+dm+0)+dm',(6+dt+1)+dt',turn_con' (C₁:=freeA1_c w n t L it ts tn tz y (behP l y) ty i (m+1) dm dt po pd tk k l x tf tl tx lt e1 tt vt) (rest:=[]) T K rfl rfl rfl rfl ?_ rfl rfl rfl rfl⟩
   show _= [_,(it,rIt (i+1) ((m+1:Int) - 1)),_,_,_]
   rw[show((m+1:Int) - 1)=m by omega]
   rfl
theorem free_loopZ {m:Nat}{n t:Nat} {y:Int}{ty tn:Nat}(hm:m≠0) (h:freeP lt l m y=none):∃z tz tz' tt' vt' o2 dm dt,ConOk (wR w ba bb) fz (cFreeZ w n t L it po pd tk k l x tf tl tx lt e1 0 m (oFr2 w ts po tn y ty) (oFr3 w ts po tz' z tz tt' vt') o2 dm dt):=by
 cases m with
 | zero=>exact absurd rfl hm
 | succ m=>
  unfold freeP at h
  obtain⟨tz,dm,dt,KB⟩:=behind_ok (w:=w) (ba:=ba) (bb:=bb) (fz:=fz) (po:=po) (pd:=pd) (tk:=tk) (k:=k) (l:=l) (x:=x) (tf:=tf) (tl:=tl) (tx:=tx) (n+1) (t+6) y ty
  cases q:(posP lt y).isSome with
  | false=>rw[q] at h; cases h
  | true=>
   rw[q] at h
   have T:=freeA0_ok w ba bb fz n t L it ts tn tz y (behP l y) ty 0 (m+1) dm dt po pd tk k l x tf tl tx lt e1 (ac (cNextR_ok (by omega)) (ac (cInI_ok q) (all1 KB)))
   obtain⟨z',tz',tz2,tt',vt',o2,dm',dt',K⟩:=free_loopZ1 (w:=w) (ba:=ba) (bb:=bb) (fz:=fz) (po:=po) (pd:=pd) (tk:=tk) (k:=k) (l:=l) (x:=x) (tf:=tf) (tl:=tl) (tx:=tx) (L:=L) (it:=it) (lt:=lt) (e1:=e1) (ts:=ts) m (0+1) (n+(1+dm+0)) (t+(6+dt+1)) (behP l y) tz tn (t+1) (.int 0 t) h
   refine⟨z',tz',tz2,tt',vt',o2,(1+dm+0)+dm',(6+dt+1)+dt',turn_con' (C₁:=freeA0_c w n t L it ts tn tz y (behP l y) ty 0 (m+1) dm dt po pd tk k l x tf tl tx lt e1) (rest:=[]) T K rfl rfl rfl rfl ?_ rfl rfl rfl rfl⟩
   show _= [_,(it,rIt (0+1) ((m+1:Int) - 1)),_,_,_]
   rw[show((m+1:Int) - 1)=m by omega]
   rfl
end
def ownU (lt lc ll:List Ent) (l:Int) (m:Nat):Nat->Int->Option Int
 | 0,x=>some x
 | k+1,x=>match freeP lt l m x with
  | none=>none
  | some r=>if usedB lc ll r then ownU lt lc ll l m k (behP l r) else none
def cOwnZ (w:World)(n t:Nat)(L it sk sd lm tb td cn ls sl ln po pd tk:Addr) (T:Nat)(iss:Int)(ti:Nat) (g:Int)(tg:Nat)(l x:Int)(tf tl tx:Nat)(lt:List Ent)(e1:Nat)(lc:List Ent)(e2:Nat)(ll:List Ent)(e3:Nat)(i left:Int)(o0 o1 o2:Obj) (z:Int)(tz e1' dm dt:Nat):Con:=
 ⟨forC w.params 1309 1 L [] (.ref it),n,t,(L,o0)::(it,rIt i left)::skO w sk sd lm tb td cn ls sl ln po pd tk T iss ti g tg l x tf tl tx lt e1 lc e2 ll e3,o1::o2::skP w sk sd lm tb td cn ls sl ln po pd tk T iss ti g tg l z tf tl tz lt e1' lc e2 ll e3,[],.ok .next,dm,dt,11⟩
section
variable {w:World}{ba bb:Bool}{fz:Addr->Option Obj}{L it sk sd lm tb td cn ls sl ln po pd tk:Addr} {T:Nat}{iss:Int}{ti:Nat} {g:Int}{tg:Nat} {l:Int}{tf tl:Nat}{lt:List Ent}{lc:List Ent}{e2:Nat}{ll:List Ent}{e3 t0 ts tq:Nat} {m:Nat}
 (hc:∀x∈lc,FrC fz x) (hl:∀x∈ll,FrL fz x) (hll:ll.length<=30) (hm:l - 29+1=m) (hm':m<=1000) (hlt:lt.length<=50)
include hc hl hll hm hm' hlt
theorem own_loopZ1 {z:Int}:∀k i n t x tx e1 tt tg' vt vf,ownU lt lc ll l m k x=some z->∃tt' vt' tf' vf' o2 tz e1' dm dt,
  ConOk (wR w ba bb) fz (cOwnZ w n t L it sk sd lm tb td cn ls sl ln po pd tk T iss ti g tg l x tf tl tx lt e1 lc e2 ll e3 i k (oFo4 w ts tq sk t0 tt vt tg' vf) (oFo4 w ts tq sk t0 tt' vt' tf' vf') o2 z tz e1' dm dt)
 | 0,i,n,t,x,tx,e1,tt,tg',vt,vf,h=>by
  rw[<- show x=z from Option.some.inj h]
  exact⟨_,_,_,_,_,_,_,_,_,con_more (skO w sk sd lm tb td cn ls sl ln po pd tk T iss ti g tg l x tf tl tx lt e1 lc e2 ll e3) (ownE_ok w ba bb fz n t L it ts tq sk t0 tt tg' vt vf i 0 (all1 (cEndR_ok (by omega)))) rfl rfl rfl⟩
 | k+1,i,n,t,x,tx,e1,tt,tg',vt,vf,h=>by
  unfold ownU at h
  cases q:freeP lt l m x with
  | none=>rw[q] at h; cases h
  | some y=>
   rw[q] at h
   have hp:=free_none q
   obtain⟨tr,tz,dm,dt,K1⟩:=take_is (w:=w) (ba:=ba) (bb:=bb) (fz:=fz) (po:=po) (pd:=pd) (tk:=tk) (k:=T+8) (tf:=tf) (tl:=tl) (tx:=tx) (e1:=e1) n (t+4) (t+3) hm hm' q hp (by omega)
   obtain⟨dm2,dt2,K2⟩:=usedV_is (w:=w) (ba:=ba) (bb:=bb) (tb:=tb) (td:=td) (cn:=cn) (ls:=ls) (T:=T) (e1:=e2) (e2:=e3) (p:=y) (tk:=tr) hc hl hll (n+dm) (t+4+dt+2) (rfl:usedB lc ll y=_)
   dsimp only at h
   cases u:usedB lc ll y with
   | false=>rw[u] at h; cases h
   | true=>
    rw[u] at h K2
    obtain⟨dm3,dt3,K3⟩:=free_is (w:=w) (ba:=ba) (bb:=bb) (fz:=fz) (po:=po) (pd:=pd) (tk:=tk) (k:=T+8) (l:=l) (x:=behP l y) (tf:=tf) (tl:=tl) (tx:=tz) (lt:=lt++[(y,tr,.bool true)]) (e1:=e1+1) (n+dm+dm2) (t+4+dt+2+dt2+1) tr (pos_last hp)
     (q:=(y,tr,.bool true)) (by simp) rfl (by simp; omega)
    have T1:=ownA1_ok w ba bb fz n t L it ts tq i (k+1) y (behP l y) tr tz lt.length dm dt dm2 dt2 dm3 dt3 sk sd lm tb td cn ls sl ln po pd tk T iss g ti tg l x tf tl tx lt lc ll e1 e2 e3 t0 tt tg' vt vf (ac (cNextR_ok (by omega)) (ac K1 (ac K2 (all1 K3))))
    obtain⟨tt',vt',tf',vf',o2,tz',e1',dm',dt',K⟩:=own_loopZ1 k (i+1) (n+(0+dm+0+dm2+0+dm3+0)) (t+(4+dt+2+dt2+1+dt3+0)) (behP l y) tz (e1+2) tt tg' (.int i t) (.int y tr) h
    refine⟨tt',vt',tf',vf',o2,tz',e1',(0+dm+0+dm2+0+dm3+0)+dm',(4+dt+2+dt2+1+dt3+0)+dt',turn_con' (C₁:=ownA1_c w n t L it ts tq i (k+1) y (behP l y) tr tz lt.length dm dt dm2 dt2 dm3 dt3 sk sd lm tb td cn ls sl ln po pd tk T iss g ti tg l x tf tl tx lt lc ll e1 e2 e3 t0 tt tg' vt vf) (rest:=[]) T1 K rfl rfl rfl rfl ?_ rfl rfl rfl rfl⟩
    show _= [_,(it,rIt (i+1) ((k+1:Int) - 1)),_,_,_,_,(tk,dD (dI ((lt++[(y,tr,Value.bool true)]).eraseIdx lt.length)) (e1+2)),_,_,_,_]
    rw[show((k+1:Int) - 1)=k by omega,erase_last]
    rfl
theorem own_loopZ {z:Int} {k:Nat}{n t:Nat} {x:Int}{tx e1:Nat}(hk:k≠0) (h:ownU lt lc ll l m k x=some z):∃tt' vt' tf' vf' o2 tz e1' dm dt,
  ConOk (wR w ba bb) fz (cOwnZ w n t L it sk sd lm tb td cn ls sl ln po pd tk T iss ti g tg l x tf tl tx lt e1 lc e2 ll e3 0 k (oFo2 w ts tq sk t0) (oFo4 w ts tq sk t0 tt' vt' tf' vf') o2 z tz e1' dm dt):=by
 cases k with
 | zero=>exact absurd rfl hk
 | succ k=>
  unfold ownU at h
  cases q:freeP lt l m x with
  | none=>rw[q] at h; cases h
  | some y=>
   rw[q] at h
   have hp:=free_none q
   obtain⟨tr,tz,dm,dt,K1⟩:=take_is (w:=w) (ba:=ba) (bb:=bb) (fz:=fz) (po:=po) (pd:=pd) (tk:=tk) (k:=T+8) (tf:=tf) (tl:=tl) (tx:=tx) (e1:=e1) n (t+4) (t+3) hm hm' q hp (by omega)
   obtain⟨dm2,dt2,K2⟩:=usedV_is (w:=w) (ba:=ba) (bb:=bb) (tb:=tb) (td:=td) (cn:=cn) (ls:=ls) (T:=T) (e1:=e2) (e2:=e3) (p:=y) (tk:=tr) hc hl hll (n+dm) (t+4+dt+2) (rfl:usedB lc ll y=_)
   dsimp only at h
   cases u:usedB lc ll y with
   | false=>rw[u] at h; cases h
   | true=>
    rw[u] at h K2
    obtain⟨dm3,dt3,K3⟩:=free_is (w:=w) (ba:=ba) (bb:=bb) (fz:=fz) (po:=po) (pd:=pd) (tk:=tk) (k:=T+8) (l:=l) (x:=behP l y) (tf:=tf) (tl:=tl) (tx:=tz) (lt:=lt++[(y,tr,.bool true)]) (e1:=e1+1) (n+dm+dm2) (t+4+dt+2+dt2+1) tr (pos_last hp)
     (q:=(y,tr,.bool true)) (by simp) rfl (by simp; omega)
    have T1:=ownA0_ok w ba bb fz n t L it ts tq 0 (k+1) y (behP l y) tr tz lt.length dm dt dm2 dt2 dm3 dt3 sk sd lm tb td cn ls sl ln po pd tk T iss g ti tg l x tf tl tx lt lc ll e1 e2 e3 t0 (ac (cNextR_ok (by omega)) (ac K1 (ac K2 (all1 K3))))
    obtain⟨tt',vt',tf',vf',o2,tz',e1',dm',dt',K⟩:=own_loopZ1 (w:=w) (ba:=ba) (bb:=bb) (fz:=fz) (L:=L) (it:=it) (sk:=sk) (sd:=sd) (lm:=lm) (tb:=tb) (td:=td) (cn:=cn) (ls:=ls) (sl:=sl) (ln:=ln) (po:=po) (pd:=pd) (tk:=tk) (T:=T) (iss:=iss) (ti:=ti) (g:=g) (tg:=tg) (tf:=tf) (tl:=tl) (e2:=e2) (e3:=e3) (t0:=t0) (ts:=ts) (tq:=tq) hc hl hll hm hm' hlt k (0+1) (n+(0+dm+0+dm2+0+dm3+0)) (t+(4+dt+2+dt2+1+dt3+0)) (behP l y) tz (e1+2) (t+1) (t+4+dt) (.int 0 t) (.int y tr) h
    refine⟨tt',vt',tf',vf',o2,tz',e1',(0+dm+0+dm2+0+dm3+0)+dm',(4+dt+2+dt2+1+dt3+0)+dt',turn_con' (C₁:=ownA0_c w n t L it ts tq 0 (k+1) y (behP l y) tr tz lt.length dm dt dm2 dt2 dm3 dt3 sk sd lm tb td cn ls sl ln po pd tk T iss g ti tg l x tf tl tx lt lc ll e1 e2 e3 t0) (rest:=[]) T1 K rfl rfl rfl rfl ?_ rfl rfl rfl rfl⟩
    show _= [_,(it,rIt (0+1) ((k+1:Int) - 1)),_,_,_,_,(tk,dD (dI ((lt++[(y,tr,Value.bool true)]).eraseIdx lt.length)) (e1+2)),_,_,_,_]
    rw[show((k+1:Int) - 1)=k by omega,erase_last]
    rfl
end
end
def freeX_c (w:World)(n t:Nat)(po pd tk:Addr) (k:Nat)(l x:Int)(tf tl tx:Nat)(lt:List Ent)(e1:Nat) (z:Int)(tz q1 q2:Nat)(vt:Value)(o2:Obj)(dm dt:Nat):Con:=⟨Code.call (.ref 144) ⟨[.ref po],[]⟩,n,t,[(po,oI 161 pd),(pd,oPd w k tk l x tf tl tx),(tk,dD (dI lt) e1)],[oI 161 pd,oD w.params 4 [("first",k,.int 29 tf),("last",k+2,.int l tl),("following",k+4,.int x tx),("taken",k+6,.ref tk)],(dD (dI lt) e1)],[],.ok .next,0,10+(dt)+5,7⟩
def freeX_h0:List Nat:=hx 85 [0x1cbe70bdf0caade7ed31f47869c1d5e54780783683079d2d5ebcb7a4aa0d97042813f26e4955a97be2ec14b22abb65d0d72900f247c57adec6d64019ba16249f7c5b40bb934062485,0x1171aeb6836de7a495d4b113d9bb83f09b95ec7087e9bfee9eba2768a5d8446a90e1027bfdd78d03fc8237cc6409790c22b29b3f2fd62ea1f0f300ac8f7c25d657a95a]
theorem freeX_ok (w ba bb fz n t po pd tk k l x tf tl tx lt e1 z tz q1 q2 vt o2 dm dt)(hc:∀D∈([cRIter (n+2) (t+10) (n+1) (t+8) (t+7) (t+9) (l - 29+1),cFreeZ w (n+3) (t+10) n (n+2) po pd tk k l x tf tl tx lt e1 0 (l - 29+1) (oFr2 w t po (t+2) x tx)
 (oFr3 w t po q1 z tz q2 vt) o2 dm dt]:List Con),ConOk (wR w ba bb) fz D):FailOk (wR w ba bb) fz (freeX_c w n t po pd tk k l x tf tl tx lt e1 z tz q1 q2 vt o2 dm dt) (zipA (freeX_c w n t po pd tk k l x tf tl tx lt e1 z tz q1 q2 vt o2 dm dt).pre (freeX_c w n t po pd tk k l x tf tl tx lt e1 z tz q1 q2 vt o2 dm dt).post):=by
 cases ba<;>exact fail_of (N:=226) (w0:=0) (u0:=1) (ro:=[]) (hs:=freeX_h0) (bs:=[]) (by kernel_rfl) (by kernel_rfl) (by kernel_rfl) hc nm nm (fun A s R fs hA O hf hfs hR=>
  fin_raise (env:=envF w.params 144 n []) (L:=n) (e:=n+3+dm+1) (js:=[7,3,0,1,2]) (t:=t+10+dt+5) (oE:=⟨.ref 63,(some (n+3+dm+3)),.fields #[.ref (n+3+dm),.none,.none,.none,.bool false,.none],#[]⟩) (oF:=oX w.params "frame" 3 [("self",t,.ref po),("number",q1,.int z tz),("turn",q2,vt)]) (by kernel_rfl) (by show t+10+dt+5=t+(10+(dt)+5); omega) O (by kernel_rfl) (not_mod (by kernel_rfl)) rfl rfl rfl rfl (by intro vs h; cases h) (by show n≤n+3+dm+1; omega) (by show n≤n; omega) rfl hf hfs hR)
theorem fail_as {w:World}{fz:Addr->Option Obj}{C D:Con}{post post':List (Addr×Obj)} (K:FailOk w fz C post) (e:D={C with res:=D.res,dm:=D.dm,dt:=D.dt,post:=D.post,nd:=D.nd})(et:D.dt=C.dt)(ep:post'=post)(hn:Nat.ble C.nd D.nd=true):FailOk w fz D post':=by
 rw[e,et,ep]
 intro A s fs hA ap B hsz ht hp hf hfs R hR
 exact K A s fs (hA.mono (le_of_ble_eq_true hn)) ap B hsz ht hp hf hfs R hR
def cFreeX (w:World)(n t:Nat)(po pd tk:Addr) (k:Nat)(l x:Int)(tf tl tx:Nat)(lt:List Ent)(e1 dt:Nat):Con:=
 ⟨Code.call (.ref 144) ⟨[.ref po],[]⟩,n,t,[(po,oI 161 pd),(pd,oPd w k tk l x tf tl tx),(tk,dD (dI lt) e1)],[oI 161 pd,oPd w k tk l x tf tl tx,dD (dI lt) e1],[],.ok .next,0,dt,7⟩
theorem freeX_is {w:World}{ba bb:Bool}{fz:Addr->Option Obj}{po pd tk:Addr} {k:Nat}{l x:Int}{tf tl tx:Nat}{lt:List Ent}{e1 m:Nat}(n t:Nat)(hm:l - 29+1=m)(h0:m≠0)(hm':m<=1000) (h:freeP lt l m x=none):∃dt,FailOk (wR w ba bb) fz (cFreeX w n t po pd tk k l x tf tl tx lt e1 dt) (zipA (cFreeX w n t po pd tk k l x tf tl tx lt e1 dt).pre (cFreeX w n t po pd tk k l x tf tl tx lt e1 dt).post):=by
 obtain⟨z,tz,q1,q2,vt,o2,dm,dt,K⟩:=free_loopZ (w:=w) (ba:=ba) (bb:=bb) (fz:=fz) (L:=n) (it:=n+2) (po:=po) (pd:=pd) (tk:=tk) (k:=k) (x:=x) (tf:=tf) (tl:=tl) (tx:=tx) (e1:=e1) (ts:=t) (n:=n+3) (t:=t+10) (ty:=tx) (tn:=t+2) h0 h
 refine⟨_,fail_as (freeX_ok w ba bb fz n t po pd tk k l x tf tl tx lt e1 z tz q1 q2 vt o2 dm dt (ac ?_ (all1 ?_))) rfl rfl rfl rfl⟩
 ·exact cRIter_ok (by omega) (by omega)
 ·rw[hm]; exact K
def xHeld (env:Env) (m:Sem Fin):Sem Fin:=R.onRaiseR m fun x=>R.bindR (Fast.tw17872113653443481271 x env) fun _=>Fast.tw1623429502029203251 x
def xHeldB (env:Env) (m:Sem Flow):Sem Fin:=R.bindR (R.onRaiseR m fun x=>R.bindR (Fast.tw17872113653443481271 x env) fun _=>Fast.tw1623429502029203251 x) fun f=>.pure (.done f)
theorem raise_xHeld {M:Model} {A:Around} {c:Code}{env:Env} {v:Value} {Q:Fin->Shared->Prop} {E:Value->Shared->Prop} {s:Shared}
  (k:wpAny M (A.under c) (noteFrame v env) (fun _ s'=>wpAny M (A.under c) (theTreesLotGoes v) (fun _ s''=>E v s'') E s') E s):wpOwn M A c (xHeld env (.raise v)) Q E s:=fun Γ p hc hΓ=>by
 have z:=wpAny_bind k Γ p (hc▸hΓ.in)
 unfold xHeld
 rw[<- PySem.W.R.onRaiseR_eq]
 show Sem.wp M Γ (Sem.onRaise (Sem.raise v) _) _ _ p s
 rw[Sem.wp_onRaise,Sem.wp_raise]
 rw[<- PySem.W.R.bindR_eq,<- Fast.te17872113653443481271,<- Fast.te1623429502029203251]
 exact z
theorem raise_xHeldB {M:Model} {A:Around} {c:Code}{env:Env} {v:Value} {Q:Fin->Shared->Prop} {E:Value->Shared->Prop} {s:Shared}
  (k:wpAny M (A.under c) (noteFrame v env) (fun _ s'=>wpAny M (A.under c) (theTreesLotGoes v) (fun _ s''=>E v s'') E s') E s):wpOwn M A c (xHeldB env (.raise v)) Q E s:=fun Γ p hc hΓ=>by
 have z:=wpAny_bind k Γ p (hc▸hΓ.in)
 unfold xHeldB
 rw[<- PySem.W.R.onRaiseR_eq,<- PySem.W.R.bindR_eq]
 show Sem.wp M Γ (Sem.onRaise (Sem.raise v) _ >>= _) _ _ p s
 rw[Sem.wp_bind',Sem.wp_onRaise,Sem.wp_raise]
 rw[<- Fast.te17872113653443481271,<- Fast.te1623429502029203251]
 exact z
def takeX_c (w:World)(n t:Nat)(po pd tk:Addr) (k:Nat)(l x:Int)(tf tl tx:Nat)(lt:List Ent)(e1 t0:Nat)(dt:Nat):Con:=⟨Code.call (.ref 137) ⟨[.ref po,.int 0 t0],[]⟩,n,t,[(po,oI 161 pd),(pd,oPd w k tk l x tf tl tx),(tk,dD (dI lt) e1)],[oI 161 pd,oD w.params 4 [("first",k,.int 29 tf),("last",k+2,.int l tl),("following",k+4,.int x tx),("taken",k+6,.ref tk)],(dD (dI lt) e1)],[],.ok .next,0,3+(dt),8⟩
def takeX_h0:List Nat:=hx 11 [0xc112f756521de655a1a7c4346a9]
theorem takeX_ok (w ba bb fz n t po pd tk k l x tf tl tx lt e1 t0 dt)(hD:FailOk (wR w ba bb) fz (cFreeX w (n+1) (t+3) po pd tk k l x tf tl tx lt e1 dt) (zipA (cFreeX w (n+1) (t+3) po pd tk k l x tf tl tx lt e1 dt).pre (cFreeX w (n+1) (t+3) po pd tk k l x tf tl tx lt e1 dt).post)):FailOk (wR w ba bb) fz (takeX_c w n t po pd tk k l x tf tl tx lt e1 t0 dt) (zipA (takeX_c w n t po pd tk k l x tf tl tx lt e1 t0 dt).pre (takeX_c w n t po pd tk k l x tf tl tx lt e1 t0 dt).post):=by
 cases ba<;>exact fail_of (N:=52) (w0:=0) (u0:=1) (ro:=[]) (hs:=takeX_h0) (bs:=[]) (by kernel_rfl) (by kernel_rfl) (by kernel_rfl) (cons:=[]) nm nm nm (fun A s R fs hA O hf hfs hR=>
  fin_pass' (env:=envF w.params 137 n []) (L:=n) (js:=[3,0,1,2]) (idx:=[0,1,2]) (D:=cFreeX w (n+1) (t+3) po pd tk k l x tf tl tx lt e1 dt) (ys:=[(po,oI 161 pd),(pd,oD w.params 4 [("first",k,.int 29 tf),("last",k+2,.int l tl),("following",k+4,.int x tx),("taken",k+6,.ref tk)]),(tk,(dD (dI lt) e1))]) (oF:=oX w.params "frame" 2 [("self",t,.ref po),("number",t+1,.int 0 t0)]) (bs:=[]) (by kernel_rfl) (by decide) (by kernel_rfl) (by intro v; kernel_rfl) rfl rfl (by decide) (by kernel_rfl) (by show t+(3+(dt))=t+3+(dt); omega) (by kernel_rfl) (not_mod (by kernel_rfl)) (by intro vs h; cases h) (by show n≤n; omega) hD O hA hf hfs hR)
section
section
variable {w:World}{fz:Addr->Option Obj} {C:Con}{cons:List Con}{ro:List (Addr×Obj)}{nd:Nat}{fs:List Env}{env:Env} {X:Out}{h₀:Heap}{L e:Addr} {A:Around} {R:Result->Shared->Prop} {g:Array GenState} {d:Drawn}{os:OsState}
structure Nice (w:World)(fz:Addr->Option Obj) (C:Con)(fs:List Env)(h₀ h:Heap)(xs:List (Addr×Obj)):Prop where
 old:∀ {b:Nat} {o:Obj},h₀.get? b=some o->Nat.lt b C.n
 fr:∀a'∈frA fs,∃o,h₀.get? a'=some o/\h.get? a'=some o/\∀vs,o.data≠ .fields vs
 frk:SlotsKept fs h₀ h
 offX:∀p∈xs,p.1∉frA fs
 nbX:∀p∈xs,baseLook w.params p.1=none/\fz p.1=none
theorem nice {xs:List (Addr×Obj)} {h:Heap} {z:Nat} (O:FxOk (fxOf w fz C h₀))(hfs:FrsOk w fz (C.pre.map (·.1)) h₀ fs) (a:At w fz C.n (C.pre.map (·.1)) h₀ h xs z):Nice w fz C fs h₀ h xs:=by
 have old:∀ {b:Nat} {o:Obj},h₀.get? b=some o->Nat.lt b C.n:=fun {b o} q=>by have z:h₀.objs.size=C.n:=O.sz; rw[<- z]; exact Heap.lt_size q
 have fr:∀a'∈frA fs,∃o,h₀.get? a'=some o/\h.get? a'=some o/\∀vs,o.data≠ .fields vs:=fun a' ha=>by
  obtain⟨_,o,q,r⟩:=hfs.ff.mem ha
  exact⟨o,q,a.keep a' o q (hfs.off a' ha),r⟩
 have fo:∀a'∈frA fs,Nat.lt a' C.n:=fun a' ha=>let ⟨o,q,_⟩:=fr a' ha; old q
 refine⟨old,fr,fun a' ha o q=>⟨o.slots,a.keep a' o q (hfs.off a' ha)⟩,fun p hp z=>?_,fun p hp=>?_⟩
 ·rcases a.off p hp with r | r
  ·exact hfs.off _ z r
  ·exact absurd (lt_of_lt_of_le (fo _ z) r) (lt_irrefl _)
 ·rcases a.off p hp with r | r
  ·exact⟨O.ap.nb _ r,O.ap.nz _ r⟩
  ·constructor
   ·cases q:baseLook w.params p.1 with
    | none=>rfl
    | some o=>exact absurd (lt_of_lt_of_le (baseLook_lt q) (le_trans O.bl r)) (lt_irrefl _)
   ·cases q:fz p.1 with
    | none=>rfl
    | some o=>exact absurd (lt_of_lt_of_le (O.fl _ _ q) r) (lt_irrefl _)
theorem fin_held {js idx:List Nat} {D:Con}{ys post:List (Addr×Obj)}{oF:Obj}{bs:List (Bool×Bool)}{xH:Env->Sem Fin->Sem Fin}
  (E:callL nd D.nd js X=callR D.code ((L,oF)::ys) D.n D.t [] bs X) (hi:js.Nodup) (hκ:isBase (tS X).κ=true) (hk:(∀v,(tS X).k (.error v)=xHeld env (.raise v))\/∀v,(tS X).k (.error v)=xHeldB env (.raise v)) (hy:L::ys.map (·.1)=C.pre.map (·.1)) (hx:pick ys idx=D.pre.map some) (hix:idx.Nodup)
  (hpo:post=mergeP idx (zipA D.pre D.post) ys 0) (ht:C.t+C.dt=D.t+D.dt) (hL:env.frame=some L) (hm:env.scope.kind≠ .module) (hF:∀vs,oF.data≠ .fields vs)
  (hD:FailOk w fz D (zipA D.pre D.post)) (O:FxOk (fxOf w fz C h₀)) (hA:CtxOk A nd) (hf:A.frames=some (env::fs)) (hfs:FrsOk w fz (C.pre.map (·.1)) h₀ fs)
  (hR:∀e h',Fly w fz C.n (C.pre.map (·.1)) post h₀ fs (env::fs) (UpH (env::fs) L e) h'->R (.error (.ref e)) ⟨h',g,d,C.t+C.dt,os⟩):FinOk ⟨w,fz,nd,cons,ro⟩ (fxOf w fz C h₀) A R g d os X:=by
 have ndp:(L::ys.map (·.1)).Nodup:=hy▸O.ap.nd
 obtain⟨ndL,ndy⟩:=nodup_cons.mp ndp
 obtain⟨k1,k2,k3⟩:=pick_ok (post':=zipA D.pre D.post) ndy hx hix
 have mem:∀p∈D.pre,p.1∈C.pre.map (·.1):=fun p hp=>hy▸.tail _ (mem_map.mpr ⟨p,k2 p hp,rfl⟩)
 have hLp:L∉D.pre.map (·.1):=fun z=>by
  obtain⟨p,hp,e⟩:=mem_map.mp z
  exact ndL (e▸mem_map.mpr ⟨p,k2 p hp,rfl⟩)
 refine fin_call E hi hA hf fun B h hB hBf K a=>?_
 obtain⟨old,fr,frk,offX,nbX⟩:=nice O hfs a
 have mL:frA (env::fs)=L::frA fs:=by unfold frA; rw[filterMap_cons,hL]
 have apD:Apart w fz (D.pre.map (·.1)):=⟨k1,fun b hb=>by obtain⟨p,hp,rfl⟩:=mem_map.mp hb; exact(nbX p (.tail _ (k2 p hp))).1,fun b hb=>by obtain⟨p,hp,rfl⟩:=mem_map.mp hb; exact(nbX p (.tail _ (k2 p hp))).2⟩
 have frD:FrsOk w fz (D.pre.map (·.1)) h (env::fs):=by
  refine⟨⟨hm,⟨L,oF,hL,hole_none h (by rw[mL]; exact .head _),a.at_ _ (.head _),hF⟩,ff_to hfs.ff (fun a' ha=>hole_none h (by rw[mL]; exact .tail _ ha)) frk⟩,fun a' ha q=>?_,fun a' ha=>?_,fun a' ha=>?_⟩
  ·rw[mL] at ha
   rcases mem_cons.mp ha with r | r
   ·exact hLp (r▸q)
   ·obtain⟨p,hp,e⟩:=mem_map.mp q
    exact offX p (.tail _ (k2 p hp)) (e▸r)
  ·rw[mL] at ha
   rcases mem_cons.mp ha with r | r
   ·exact r▸(nbX _ (.head _)).1
   ·exact hfs.nb _ r
  ·rw[mL] at ha
   rcases mem_cons.mp ha with r | r
   ·exact r▸(nbX _ (.head _)).2
   ·exact hfs.nz _ r
 have hBf:B.frames=some (env::fs):=hBf
 refine hD B ⟨h,g,d,D.t,os⟩ (env::fs) hB apD a.base a.size rfl (fun p hp=>a.at_ p (.tail _ (k2 p hp))) hBf frD _ fun e h' ⟨base,⟨a0,fl⟩,b1,b2,b3,b4,b5⟩=>?_
 have e3:(tS X).c.envs++frsOf (tS X).κ= []:=congrArg (fun x:CallT=>x.2.2.2.2.2.2.1) E
 generalize tS X=S at hκ hk K e3 ⊢
 obtain⟨c',k,c,dp,un,κ,s⟩:=S
 dsimp only at hκ hk e3 ⊢
 cases κ with
 | ret=>cases hκ
 | base=>
 have e3:c.envs++[]= []:=e3
 rw[append_nil] at e3
 have hfr:((aro A .base).under c).frames=some (env::fs):=by show pushEnvs c.envs A.frames=_; rw[e3,hf]; rfl
 have go:wpAny (model P02 w) ((aro A .base).under c) (noteFrame (.ref e) env) (fun _ s'=>wpAny (model P02 w) ((aro A .base).under c) (theTreesLotGoes (.ref e)) (fun _ s''=>postE (endK w A R .base) (.ref e) s'') (postE (endK w A R .base)) s') (postE (endK w A R .base)) ⟨h',g,d,D.t+D.dt,os⟩:=by
  refine sz (wpAny_looks_onW hfr hL fl fun h'' fl' up hz=>wpAny_theTreesLotGoes ?_)
  have hz:h'.objs.size<=h''.objs.size:=hz
  have fine:=hR e h'' ⟨base,⟨a0,fl'⟩,b1,?_,fun p hp=>?_,fun b o q hb hb'=>?_,fun a' ha o q=>?_⟩
  ·show R (.error (.ref e)) ⟨h'',g,d,D.t+D.dt,os⟩
   rw[<- ht]
   exact fine
  ·exact le_trans a.le (le_trans b2 hz)
  ·rw[hpo] at hp
   rcases k3 p hp with r | ⟨r1,r2⟩
   ·exact b3 p r
   ·refine b4 _ _ (a.at_ p (.tail _ r1)) r2 fun q=>?_
    rw[mL] at q
    rcases mem_cons.mp q with y | y
    ·exact ndL (y▸mem_map.mpr ⟨p,r1,rfl⟩)
    ·exact offX p (.tail _ r1) y
  ·refine b4 b o (a.keep b o q hb) (fun z=>?_) hb'
   obtain⟨p,hp,ep⟩:=mem_map.mp z
   exact hb (ep▸mem p hp)
  ·obtain⟨o',q1,q2,q3⟩:=fr a' ha
   rw[q] at q1
   cases q1
   obtain⟨sl,r⟩:=b5 a' (by rw[mL]; exact .tail _ ha) o q2
   obtain⟨sl',r'⟩:=up a' _ r q3
   exact⟨sl',r'⟩
 rcases hk with hk | hk
 ·rw[hk]; exact raise_xHeld go
 ·rw[hk]; exact raise_xHeldB go
theorem held_of {N w0 u0:Nat}{hs:List Nat}{bs:List (Bool×Bool)}{post:List (Addr×Obj)}(hk:and (Nat.ble C.code.weight w0) (Nat.ble C.code.cUnits u0)=true)(hm':Nat.ble C.pre.length 4000=true)
  (E:FineO (xOf w fz C cons ro N w0 u0 hs) bs) (hc:∀D∈cons,ConOk w fz D) (hro:∀p∈ro,fz p.1=some p.2) (hb:∀b∈bs,b.1=b.2)
  (F:∀ (A:Around) (s:Shared) (R:Result->Shared->Prop) (fs:List Env),CtxOk A C.nd->FxOk (fxOf w fz C s.heap)->A.frames=some (env::fs)->FrsOk w fz (C.pre.map (·.1)) s.heap fs->
   (∀e h',Fly w fz C.n (C.pre.map (·.1)) post s.heap fs (env::fs) (UpH (env::fs) L e) h'->R (.error (.ref e)) ⟨h',s.gens,s.drawn,C.t+C.dt,s.os⟩)->FinOk (vOf w fz C cons ro) (fxOf w fz C s.heap) A R s.gens s.drawn s.os (xOf w fz C cons ro N w0 u0 hs)):HeldOk w fz C env L post:=by
 intro A s fs hA ap B hsz ht hpre hf hfs R hR
 have G:=began (le_of_ble_eq_true hm') ap B hsz hpre
 exact run_from (le_of_k hk) rfl (congrArg Prod.fst E) (congrArg Prod.snd E) hb hA hc hro ht G (F A s R fs hA G.ok hf hfs hR)
end
theorem sub_of' {l l':List (Addr×Obj)} (e:l'.tail=l):∀p∈l,p∈l':=fun p hp=>List.mem_of_mem_tail (e▸hp)
end
def cTakeX (w:World)(n t:Nat)(po pd tk:Addr) (k:Nat)(l x:Int)(tf tl tx:Nat)(lt:List Ent)(e1 t0 dt:Nat):Con:=
 ⟨Code.call (.ref 137) ⟨[.ref po,.int 0 t0],[]⟩,n,t,[(po,oI 161 pd),(pd,oPd w k tk l x tf tl tx),(tk,dD (dI lt) e1)],[oI 161 pd,oPd w k tk l x tf tl tx,dD (dI lt) e1],[],.ok .next,0,dt,8⟩
theorem takeX_is {w:World}{ba bb:Bool}{fz:Addr->Option Obj}{po pd tk:Addr} {k:Nat}{l x:Int}{tf tl tx:Nat}{lt:List Ent}{e1 m:Nat}(n t t0:Nat)(hm:l - 29+1=m)(h0:m≠0)(hm':m<=1000) (h:freeP lt l m x=none):∃dt,FailOk (wR w ba bb) fz (cTakeX w n t po pd tk k l x tf tl tx lt e1 t0 dt) (zipA (cTakeX w n t po pd tk k l x tf tl tx lt e1 t0 dt).pre (cTakeX w n t po pd tk k l x tf tl tx lt e1 t0 dt).post):=by
 obtain⟨dt,K⟩:=freeX_is (w:=w) (ba:=ba) (bb:=bb) (fz:=fz) (po:=po) (pd:=pd) (tk:=tk) (k:=k) (tf:=tf) (tl:=tl) (tx:=tx) (e1:=e1) (n+1) (t+3) hm h0 hm' h
 exact⟨_,fail_as (takeX_ok w ba bb fz n t po pd tk k l x tf tl tx lt e1 t0 dt K) rfl rfl rfl rfl⟩
def ownH_c (w:World)(n t:Nat)(L it:Addr)(ts tq:Nat)(i left:Int)(dt:Nat)(sk sd lm tb td cn ls sl ln po pd tk:Addr) (T:Nat)(iss g:Int)(ti tg:Nat)(l x:Int)(tf tl tx:Nat)(lt lc ll:List Ent)(e1 e2 e3 t0:Nat):Con:=⟨forC w.params 1309 1 L [] (.ref it),n,t,(L,oFo2 w ts tq sk t0)::(it,rIt i left)::skO w sk sd lm tb td cn ls sl ln po pd tk T iss ti g tg l x tf tl tx lt e1 lc e2 ll e3,[oX w.params "frame" 3 [("self",ts,.ref sk),("local_port",tq,.int 0 t0),("turn",t+1,.int i t)],⟨.type "range_iterator",none,.fields #[.int (i+1) 0,.int (left - 1) 0,.int 1 0],#[]⟩,oI 1431 sd,oSd w T lm po tb sl ln iss ti g tg,oI 161 pd,oPd w (T+8) tk l x tf tl tx,(dD (dI lt) e1),oI 1173 td,oTd w T cn ls,(dD (dC w lc) e2),(dD (dL w ll) e3)],[],.ok .next,0,4+(dt),8⟩
def ownH_h0:List Nat:=hx 8 [0x58f80030030035120021000882223]
theorem ownH_ok (w ba bb fz n t L it ts tq i left dt sk sd lm tb td cn ls sl ln po pd tk T iss g ti tg l x tf tl tx lt lc ll e1 e2 e3 t0)(hc:∀D∈([cNextR n t it i left]:List Con),ConOk (wR w ba bb) fz D)(hD:FailOk (wR w ba bb) fz (cTakeX w n (t+4) po pd tk (T+8) l x tf tl tx lt e1 (t+3) dt) (zipA (cTakeX w n (t+4) po pd tk (T+8) l x tf tl tx lt e1 (t+3) dt).pre (cTakeX w n (t+4) po pd tk (T+8) l x tf tl tx lt e1 (t+3) dt).post)):HeldOk (wR w ba bb) fz (ownH_c w n t L it ts tq i left dt sk sd lm tb td cn ls sl ln po pd tk T iss g ti tg l x tf tl tx lt lc ll e1 e2 e3 t0) (envF w.params 1309 L []) (L) (zipA (ownH_c w n t L it ts tq i left dt sk sd lm tb td cn ls sl ln po pd tk T iss g ti tg l x tf tl tx lt lc ll e1 e2 e3 t0).pre.tail (ownH_c w n t L it ts tq i left dt sk sd lm tb td cn ls sl ln po pd tk T iss g ti tg l x tf tl tx lt lc ll e1 e2 e3 t0).post.tail):=by
 exact held_of (N:=56) (w0:=0) (u0:=0) (ro:=[]) (hs:=ownH_h0) (bs:=[]) (by kernel_rfl) (by kernel_rfl) (by kernel_rfl) hc nm nm (fun A s R fs hA O hf hfs hR=>
  fin_held (xH:=xHeld) (env:=envF w.params 1309 L []) (L:=L) (js:=[0,1,2,3,4,5,6,7,8,9,10]) (idx:=[3,4,5]) (D:=cTakeX w n (t+4) po pd tk (T+8) l x tf tl tx lt e1 (t+3) dt) (ys:=[(it,⟨.type "range_iterator",none,.fields #[.int (i+1) 0,.int (left - 1) 0,.int 1 0],#[]⟩),(sk,oI 1431 sd),(sd,oSd w T lm po tb sl ln iss ti g tg),(po,oI 161 pd),(pd,oPd w (T+8) tk l x tf tl tx),(tk,(dD (dI lt) e1)),(tb,oI 1173 td),(td,oTd w T cn ls),(cn,(dD (dC w lc) e2)),(ls,(dD (dL w ll) e3))]) (oF:=oX w.params "frame" 3 [("self",ts,.ref sk),("local_port",tq,.int 0 t0),("turn",t+1,.int i t)]) (bs:=[]) (by kernel_rfl) (by decide) (by kernel_rfl) (.inl (by intro v; kernel_rfl)) rfl rfl (by decide) (by kernel_rfl) (by show t+(4+(dt))=t+4+(dt); omega) (by kernel_rfl) (not_mod (by kernel_rfl)) (by intro vs h; cases h) hD O hA hf hfs hR)
section
noncomputable def backS (env:Env) (x:Value):Sem Unit:=do
 if (<- field x 1) ==.none then unsupported "frame.own-activation:exception-without-traceback"
 setFlight x env.frame
def tBack (env:Env) (x:Value):Sem Unit:=R.bindR (Fast.tw6609576154772507232 x 1) fun a=>
 if (@BEq.beq Value (@instBEqOfDecidableEq Value Fast.tw7966671052430208091) a Value.none)=true then R.bindR (PySem.unsupported "frame.own-activation:exception-without-traceback":Sem Unit) fun _=>Fast.tw5670386056902412789 x env.frame else Fast.tw5670386056902412789 x env.frame
theorem tBack_eq (env:Env) (x:Value):tBack env x=backS env x:=by
 unfold tBack backS
 rw[<- Fast.te6609576154772507232,<- Fast.te5670386056902412789,<- Fast.te7966671052430208091]
 simp only[<- PySem.W.R.bindR_eq]
 rfl
def xBack (env:Env)(rest:Flow->Sem Flow) (v:Value):Sem Fin:=xFun env (R.bindR (R.onRaiseR (.raise v:Sem Flow) (tBack env)) rest)
theorem raise_xBack {M:Model} {A:Around} {c:Code}{env:Env}{rest:Flow->Sem Flow} {v:Value} {Q:Fin->Shared->Prop} {E:Value->Shared->Prop} {s:Shared}
  (k:wpAny M (A.under c) (backS env v) (fun _ s'=>wpAny M (A.under c) («leaving» env v) (fun _ s''=>E v s'') E s') (fun e s'=>wpAny M (A.under c) («leaving» env e) (fun _ s''=>E e s'') E s') s):wpOwn M A c (xBack env rest v) Q E s:=fun Γ p hc hΓ=>by
 have z:=k Γ p (hc▸hΓ.in)
 unfold xBack xFun
 rw[<- PySem.W.R.bindR_eq,<- PySem.W.R.onRaiseR_eq]
 show Sem.wp M Γ (Sem.onRaise (Sem.onRaise (Sem.raise v) (tBack env) >>= rest) _ >>= _) _ _ p s
 rw[Sem.wp_bind',Sem.wp_onRaise,Sem.wp_bind',Sem.wp_onRaise,Sem.wp_raise,tBack_eq,<- Fast.te9442747609961115081]
 exact Sem.wp_mono M Γ _ (fun _ p' s' h=>h Γ p' (hc▸hΓ.in)) (fun e p' s' h=>h Γ p' (hc▸hΓ.in)) p s z
theorem wpAny_backW {M:Model} {A:Around} {E:Value->Shared->Prop} {s:Shared}{base:Heap} {l:List Env}{env:Env}{e L:Addr}{cls a0:Value} {Q:Unit->Shared->Prop}(hL:env.frame=some L)(hh:Heap.HeldW base l e cls a0 L s.heap)
  (hQ:∀h',Heap.HeldW base l e cls a0 L h'->s.heap.UpToSlots h'->Q () {s with heap:=h'}):wpAny M A (backS env (.ref e)) Q E s:=by
 obtain⟨hkb,hen,hl,oe,vs,T,oT,ts,he,hcls,hd,h1,hnT,hTe,hT,hdT,h3⟩:=hh
 have hsz3:3 < ts.size:=(Array.getElem?_eq_some_iff.mp h3).1
 have other:∀b,b≠T->(s.heap.update T (Obj.mapFields (·.setIfInBounds 3 (rawInt L)))).get? b=s.heap.get? b:=
  fun b hb=>Heap.get?_update_other _ _ (Ne.symm hb)
 have noRecord:∀b o,s.heap.get? b=some o->(∀vs,o.data≠ .fields vs)->b≠T:=fun b o hb hnf q=>by
  rw[q,hT] at hb; injection hb with hb; subst hb; exact hnf ts hdT
 unfold backS
 refine wpAny_bind (wpAny_field he hd h1 ?_)
 rw[if_neg (show ¬ ((Value.ref T == Value.none)=true) from by simp)]
 rw[hL]
 unfold setFlight
 refine wpAny_bind (wpAny_field he hd h1 ?_)
 rw[if_pos (show(Value.ref T != Value.none)=true from by simp)]
 refine wpAny_setField hT hdT hsz3 (hQ _ ⟨fun b o hbo=>(other b fun q=>by rw[q,hnT] at hbo; cases hbo).trans (hkb b o hbo),hen,hl.of_keeps fun b o hb hnf=>⟨o,(other b (noRecord b o hb hnf)).trans hb,rfl⟩,?_⟩ fun b o hb hnf=>⟨o.slots,(other b (noRecord b o hb hnf)).trans hb⟩)
 exact⟨oe,vs,T,_,_,(other e (Ne.symm hTe)).trans he,hcls,hd,h1,hnT,hTe,Heap.get?_update_self _ hT (Obj.isFreed_of_fields (Obj.data_mapFields hdT _)),Obj.data_mapFields hdT _,by simp[hsz3]⟩
section
variable {w:World}{fz:Addr->Option Obj} {C:Con}{cons:List Con}{ro:List (Addr×Obj)}{nd:Nat}{fs:List Env}{env:Env} {X:Out}{h₀:Heap}{L e:Addr} {A:Around} {R:Result->Shared->Prop} {g:Array GenState} {d:Drawn}{os:OsState}
theorem fin_passH {js:List Nat}{rest:Flow->Sem Flow} {D:Con}{post':List (Addr×Obj)}{oF:Obj}{bs:List (Bool×Bool)}
  (E:callL nd D.nd js X=callR D.code D.pre D.n D.t [env] bs X) (hi:js.Nodup) (hκ:isBase (tS X).κ=true) (hk:∀v,(tS X).k (.error v)=xBack env rest v) (hxL:(L,oF)∈D.pre) (hpo:∀p∈zipA C.pre C.post,p∈post') (ht:C.t+C.dt=D.t+D.dt) (hL:env.frame=some L) (hl:C.n<=L)
  (hD:HeldOk w fz D env L post') (O:FxOk (fxOf w fz C h₀)) (hA:CtxOk A nd) (hf:A.frames=some fs) (hfs:FrsOk w fz (C.pre.map (·.1)) h₀ fs)
  (hR:∀e h',Fly w fz C.n (C.pre.map (·.1)) (zipA C.pre C.post) h₀ fs fs (UpF fs e) h'->R (.error (.ref e)) ⟨h',g,d,C.t+C.dt,os⟩):FinOk ⟨w,fz,nd,cons,ro⟩ (fxOf w fz C h₀) A R g d os X:=by
 refine fin_call E hi hA hf fun B h hB hBf K a=>?_
 obtain⟨old,fr,frk,offX,nbX⟩:=nice O hfs a
 have mL:frA (env::fs)=L::frA fs:=by unfold frA; rw[filterMap_cons,hL]
 have apD:Apart w fz (D.pre.map (·.1)):=⟨a.nd,fun b hb=>by obtain⟨p,hp,rfl⟩:=mem_map.mp hb; exact(nbX p hp).1,fun b hb=>by obtain⟨p,hp,rfl⟩:=mem_map.mp hb; exact(nbX p hp).2⟩
 have frD:FrsOk w fz (D.pre.map (·.1)) h fs:=⟨ff_to hfs.ff (fun a' ha=>hole_none h ha) frk,fun a' ha q=>by obtain⟨p,hp,e⟩:=mem_map.mp q; exact offX p hp (e▸ha),hfs.nb,hfs.nz⟩
 have hBf:B.frames=some (env::fs):=hBf
 refine hD B ⟨h,g,d,D.t,os⟩ fs hB apD a.base a.size rfl (fun p hp=>a.at_ p hp) hBf frD _ fun e h' ⟨base,⟨a0,fl⟩,b1,b2,b3,b4,b5⟩=>?_
 have e3:(tS X).c.envs++frsOf (tS X).κ= [env]:=congrArg (fun x:CallT=>x.2.2.2.2.2.2.1) E
 generalize tS X=S at hκ hk K e3 ⊢
 obtain⟨c',k,c,dp,un,κ,s⟩:=S
 dsimp only at hκ hk e3 ⊢
 cases κ with
 | ret=>cases hκ
 | base=>
 rw[hk]
 refine raise_xBack (sz (wpAny_backW hL fl fun h1 fl1 up1 hz1=>?_))
 have hz1:h'.objs.size<=h1.objs.size:=hz1
 unfold «leaving»
 refine wpAny_bind (wpAny_noteFrame_againW hL fl1.2.2.2 (sz (wpAny_landsW fl1 fun h'' fl' up hz=>?_)))
 have hz:h1.objs.size<=h''.objs.size:=hz
 obtain⟨f1,f2,⟨_,_,f3⟩,f4⟩:=fl'
 have fine:=hR e h'' ⟨base,⟨a0,f1,f2,f3,f4⟩,b1,?_,fun p hp=>b3 p (hpo p hp),fun b o q hb hb'=>?_,fun a' ha o q=>?_⟩
 ·show R (.error (.ref e)) ⟨h'',g,d,D.t+D.dt,os⟩
  rw[<- ht]
  exact fine
 ·exact le_trans a.le (le_trans b2 (le_trans hz1 hz))
 ·have q0:=old q
  refine b4 b o (a.keep b o q hb) (fun z=>?_) fun z=>?_
  ·obtain⟨p,hp,ep⟩:=mem_map.mp z
   rcases a.off p hp with r | r
   ·exact hb (ep▸r)
   ·exact absurd (lt_of_lt_of_le q0 (ep▸r)) (lt_irrefl _)
  ·rw[mL] at z
   rcases mem_cons.mp z with y | y
   ·exact absurd (lt_of_lt_of_le q0 (y▸hl)) (lt_irrefl _)
   ·exact hb' y
 ·obtain⟨o',q1,q2,q3⟩:=fr a' ha
  rw[q] at q1
  cases q1
  obtain⟨sl,r⟩:=b5 a' ha o q2
  obtain⟨sl1,r1⟩:=up1 a' _ r q3
  obtain⟨sl',r'⟩:=up a' _ r1 q3
  exact⟨sl',r'⟩
end
end
def ownX_c (w:World)(n t:Nat)(sk sd lm tb td cn ls sl ln po pd tk:Addr) (T:Nat)(iss g:Int)(ti tg:Nat)(l x:Int)(tf tl tx:Nat)(lt lc ll:List Ent)(e1 e2 e3 t0:Nat)(dt:Nat):Con:=⟨Code.call (.ref 1309) ⟨[.ref sk,.int 0 t0],[]⟩,n,t,skO w sk sd lm tb td cn ls sl ln po pd tk T iss ti g tg l x tf tl tx lt e1 lc e2 ll e3,[oI 1431 sd,oSd w T lm po tb sl ln iss ti g tg,oI 161 pd,oPd w (T+8) tk l x tf tl tx,(dD (dI lt) e1),oI 1173 td,oTd w T cn ls,(dD (dC w lc) e2),(dD (dL w ll) e3)],[],.ok .next,0,12+((ownH_c w (n+3) (t+12) n (n+2) t (t+1) 0 (l - 29+1) dt sk sd lm tb td cn ls sl ln po pd tk T iss g ti tg l x tf tl tx lt lc ll e1 e2 e3 t0).dt),9⟩
def ownX_h0:List Nat:=hx 69 [0x4014749803e5c2fe039e50671ae12ba66cd20577754bd3921468969922a5c89faf980f542043781094260e21eac4211198fd49ec5ef24139b511e15470f61daa05375984ca,0x2948ab9354c90756ed7]
theorem ownX_ok (w ba bb fz n t sk sd lm tb td cn ls sl ln po pd tk T iss g ti tg l x tf tl tx lt lc ll e1 e2 e3 t0 dt)(hc:∀D∈([cRIter (n+2) (t+12) (n+1) (t+10) (t+9) (t+11) (l - 29+1)]:List Con),ConOk (wR w ba bb) fz D)(hD:HeldOk (wR w ba bb) fz (ownH_c w (n+3) (t+12) n (n+2) t (t+1) 0 (l - 29+1) dt sk sd lm tb td cn ls sl ln po pd tk T iss g ti tg l x tf tl tx lt lc ll e1 e2 e3 t0) (envF w.params 1309 n []) (n) (zipA (ownH_c w (n+3) (t+12) n (n+2) t (t+1) 0 (l - 29+1) dt sk sd lm tb td cn ls sl ln po pd tk T iss g ti tg l x tf tl tx lt lc ll e1 e2 e3 t0).pre.tail (ownH_c w (n+3) (t+12) n (n+2) t (t+1) 0 (l - 29+1) dt sk sd lm tb td cn ls sl ln po pd tk T iss g ti tg l x tf tl tx lt lc ll e1 e2 e3 t0).post.tail)):FailOk (wR w ba bb) fz (ownX_c w n t sk sd lm tb td cn ls sl ln po pd tk T iss g ti tg l x tf tl tx lt lc ll e1 e2 e3 t0 dt) (zipA (ownX_c w n t sk sd lm tb td cn ls sl ln po pd tk T iss g ti tg l x tf tl tx lt lc ll e1 e2 e3 t0 dt).pre (ownX_c w n t sk sd lm tb td cn ls sl ln po pd tk T iss g ti tg l x tf tl tx lt lc ll e1 e2 e3 t0 dt).post):=by
 cases ba<;>exact fail_of (N:=145) (w0:=0) (u0:=1) (ro:=[]) (hs:=ownX_h0) (bs:=[]) (by kernel_rfl) (by kernel_rfl) (by kernel_rfl) hc nm nm (fun A s R fs hA O hf hfs hR=>
  fin_passH (rest:=tNext (dropL (bodyF w.params 1309) 2) (envF w.params 1309 n [])) (env:=envF w.params 1309 n []) (L:=n) (js:=[9,11,0,1,2,3,4,5,6,7,8]) (D:=ownH_c w (n+3) (t+12) n (n+2) t (t+1) 0 (l - 29+1) dt sk sd lm tb td cn ls sl ln po pd tk T iss g ti tg l x tf tl tx lt lc ll e1 e2 e3 t0) (oF:=oX w.params "frame" 2 [("self",t,.ref sk),("local_port",t+1,.int 0 t0)]) (bs:=[]) (by kernel_rfl) (by decide) (by kernel_rfl) (by intro v; kernel_rfl) (.head _) (sub_of' (by kernel_rfl)) (by show t+(12+((ownH_c w (n+3) (t+12) n (n+2) t (t+1) 0 (l - 29+1) dt sk sd lm tb td cn ls sl ln po pd tk T iss g ti tg l x tf tl tx lt lc ll e1 e2 e3 t0).dt))=t+12+((ownH_c w (n+3) (t+12) n (n+2) t (t+1) 0 (l - 29+1) dt sk sd lm tb td cn ls sl ln po pd tk T iss g ti tg l x tf tl tx lt lc ll e1 e2 e3 t0).dt); omega) (by kernel_rfl) (by show n≤n; omega) hD O hA hf hfs hR)
def ownY_c (w:World)(n t:Nat)(sk sd lm tb td cn ls sl ln po pd tk:Addr) (T:Nat)(iss g:Int)(ti tg:Nat)(l x:Int)(tf tl tx:Nat)(lt lc ll:List Ent)(e1 e2 e3 t0:Nat)(tt' tf':Nat)(vt' vf':Value)(o2:Obj) (z:Int)(tz e1' dm dt:Nat):Con:=⟨Code.call (.ref 1309) ⟨[.ref sk,.int 0 t0],[]⟩,n,t,skO w sk sd lm tb td cn ls sl ln po pd tk T iss ti g tg l x tf tl tx lt e1 lc e2 ll e3,[oI 1431 sd,oSd w T lm po tb sl ln iss ti g tg,oI 161 pd,oPd w (T+8) tk l z tf tl tz,(dD (dI lt) e1'),oI 1173 td,oTd w T cn ls,(dD (dC w lc) e2),(dD (dL w ll) e3)],[],.ok .next,0,12+(dt)+5,12⟩
def ownY_h0:List Nat:=ownX_h0.take 101++hx 85 [0x228b5ecf6279937f17dbabe009e88be2470f790fcada3769d643c9002d6560bce40c4284b621736c1f875c5afc59bc67cd78525cf9b41c575002f039c65b6b2300c8cc5fa643bfb21,0x3c819e503259784]
theorem ownY_ok (w ba bb fz n t sk sd lm tb td cn ls sl ln po pd tk T iss g ti tg l x tf tl tx lt lc ll e1 e2 e3 t0 tt' tf' vt' vf' o2 z tz e1' dm dt)(hc:∀D∈([cRIter (n+2) (t+12) (n+1) (t+10) (t+9) (t+11) (l - 29+1),cOwnZ w (n+3) (t+12) n (n+2) sk sd lm tb td cn ls sl ln po pd tk T iss ti g tg l x tf tl tx lt e1 lc e2 ll e3 0
 (l - 29+1) (oFo2 w t (t+1) sk t0) (oFo4 w t (t+1) sk t0 tt' vt' tf' vf') o2 z tz e1' dm dt]:List Con),ConOk (wR w ba bb) fz D):FailOk (wR w ba bb) fz (ownY_c w n t sk sd lm tb td cn ls sl ln po pd tk T iss g ti tg l x tf tl tx lt lc ll e1 e2 e3 t0 tt' tf' vt' vf' o2 z tz e1' dm dt) (zipA (ownY_c w n t sk sd lm tb td cn ls sl ln po pd tk T iss g ti tg l x tf tl tx lt lc ll e1 e2 e3 t0 tt' tf' vt' vf' o2 z tz e1' dm dt).pre (ownY_c w n t sk sd lm tb td cn ls sl ln po pd tk T iss g ti tg l x tf tl tx lt lc ll e1 e2 e3 t0 tt' tf' vt' vf' o2 z tz e1' dm dt).post):=by
 cases ba<;>exact fail_of (N:=250) (w0:=0) (u0:=1) (ro:=[]) (hs:=ownY_h0) (bs:=[]) (by kernel_rfl) (by kernel_rfl) (by kernel_rfl) hc nm nm (fun A s R fs hA O hf hfs hR=>
  fin_raise (post:=zipA (ownY_c w n t sk sd lm tb td cn ls sl ln po pd tk T iss g ti tg l x tf tl tx lt lc ll e1 e2 e3 t0 tt' tf' vt' vf' o2 z tz e1' dm dt).pre (ownY_c w n t sk sd lm tb td cn ls sl ln po pd tk T iss g ti tg l x tf tl tx lt lc ll e1 e2 e3 t0 tt' tf' vt' vf' o2 z tz e1' dm dt).post) (env:=envF w.params 1309 n []) (L:=n) (e:=n+3+dm+1) (js:=[13,9,0,1,2,3,4,5,6,7,8]) (t:=t+12+dt+5) (oE:=⟨.ref 63,(some (n+3+dm+3)),.fields #[.ref (n+3+dm),.none,.none,.none,.bool false,.none],#[]⟩) (oF:=oX w.params "frame" 4 [("self",t,.ref sk),("local_port",t+1,.int 0 t0),("turn",tt',vt'),("found",tf',vf')]) (by kernel_rfl) (by show t+12+dt+5=t+(12+(dt)+5); omega) O (by kernel_rfl) (not_mod (by kernel_rfl)) rfl rfl rfl rfl (by intro vs h; cases h) (by show n≤n+3+dm+1; omega) (by show n≤n; omega) rfl hf hfs hR)
section
def cOwnF (w:World)(n t:Nat)(sk sd lm tb td cn ls sl ln po pd tk:Addr) (T:Nat)(iss:Int)(ti:Nat) (g:Int)(tg:Nat)(l x:Int)(tf tl tx:Nat)(lt:List Ent)(e1:Nat)(lc:List Ent)(e2:Nat)(ll:List Ent)(e3 t0:Nat) (z:Int)(tz e1' dt:Nat):Con:=
 ⟨Code.call (.ref 1309) ⟨[.ref sk,.int 0 t0],[]⟩,n,t,skO w sk sd lm tb td cn ls sl ln po pd tk T iss ti g tg l x tf tl tx lt e1 lc e2 ll e3,skP w sk sd lm tb td cn ls sl ln po pd tk T iss ti g tg l z tf tl tz lt e1' lc e2 ll e3,[],.ok .next,0,dt,12⟩
abbrev FailC (w:World)(fz:Addr->Option Obj) (C:Con):Prop:=FailOk w fz C (zipA C.pre C.post)
section
variable {w:World}{ba bb:Bool}{fz:Addr->Option Obj}{sk sd lm tb td cn ls sl ln po pd tk:Addr} {T:Nat}{iss:Int}{ti:Nat} {g:Int}{tg:Nat}{l x:Int}{tf tl tx:Nat}{lt:List Ent}{lc:List Ent}{e1 e2:Nat}{ll:List Ent}{e3:Nat} {m:Nat}
 (hm:l - 29+1=m) (h0:m≠0) (hm':m<=1000)
include hm h0 hm'
theorem ownF_a (n t t0) (h:freeP lt l m x=none):∃dt,FailC (wR w ba bb) fz (cOwnF w n t sk sd lm tb td cn ls sl ln po pd tk T iss ti g tg l x tf tl tx lt e1 lc e2 ll e3 t0 x tx e1 dt):=by
 obtain⟨dt,K⟩:=takeX_is (w:=w) (ba:=ba) (bb:=bb) (fz:=fz) (po:=po) (pd:=pd) (tk:=tk) (k:=T+8) (tf:=tf) (tl:=tl) (tx:=tx) (e1:=e1) (n+3) (t+12+4) (t+12+3) hm h0 hm' h
 exact⟨_,fail_as (ownX_ok w ba bb fz n t sk sd lm tb td cn ls sl ln po pd tk T iss g ti tg l x tf tl tx lt lc ll e1 e2 e3 t0 dt (all1 (cRIter_ok (by omega) (by omega)))
  (ownH_ok w ba bb fz (n+3) (t+12) n (n+2) t (t+1) 0 (l - 29+1) dt sk sd lm tb td cn ls sl ln po pd tk T iss g ti tg l x tf tl tx lt lc ll e1 e2 e3 t0 (all1 (cNextR_ok (by omega))) K)) rfl rfl rfl rfl⟩
theorem ownF_b (hc:∀x∈lc,FrC fz x)(hl:∀x∈ll,FrL fz x)(hll:ll.length<=30)(hlt:lt.length<=50) {z:Int}(n t t0:Nat) (h:ownU lt lc ll l m m x=some z):∃tz e1' dt,FailC (wR w ba bb) fz (cOwnF w n t sk sd lm tb td cn ls sl ln po pd tk T iss ti g tg l x tf tl tx lt e1 lc e2 ll e3 t0 z tz e1' dt):=by
 obtain⟨tt',vt',tf',vf',o2,tz,e1',dm,dt,K⟩:=own_loopZ (w:=w) (ba:=ba) (bb:=bb) (fz:=fz) (L:=n) (it:=n+2) (sk:=sk) (sd:=sd) (lm:=lm) (tb:=tb) (td:=td) (cn:=cn) (ls:=ls) (sl:=sl) (ln:=ln) (po:=po) (pd:=pd) (tk:=tk) (T:=T) (iss:=iss) (ti:=ti) (g:=g) (tg:=tg) (tf:=tf) (tl:=tl) (e2:=e2) (e3:=e3) (t0:=t0) (ts:=t) (tq:=t+1) (n:=n+3) (t:=t+12) (tx:=tx) (e1:=e1) hc hl hll hm hm' hlt h0 h
 exact⟨_,_,_,fail_as (ownY_ok w ba bb fz n t sk sd lm tb td cn ls sl ln po pd tk T iss g ti tg l x tf tl tx lt lc ll e1 e2 e3 t0 tt' tf' vt' vf' o2 z tz e1' dm dt (ac (cRIter_ok (by omega) (by omega)) (all1 (by rw[hm]; exact K)))) rfl rfl rfl rfl⟩
end
end
def connX_c (w:World)(n t:Nat)(sk sd lm tb td cn ls sl ln po pd tk:Addr) (T:Nat)(iss:Int)(ti:Nat) (g:Int)(tg:Nat)(l x:Int)(tf tl tx:Nat)(lt:List Ent)(e1:Nat)(lc:List Ent)(e2:Nat)(ll:List Ent)(e3:Nat) (z:Int)(tz e1' dt ta tb' tc td':Nat):Con:=⟨Code.call (.ref 1302) ⟨[.ref sk,.int 1 ta,.int 2 tb',.int 80 tc,.int 0 td'],[]⟩,n,t,skO w sk sd lm tb td cn ls sl ln po pd tk T iss ti g tg l x tf tl tx lt e1 lc e2 ll e3,[oI 1431 sd,oSd w T lm po tb sl ln iss ti g tg,oI 161 pd,oPd w (T+8) tk l z tf tl tz,(dD (dI lt) e1'),oI 1173 td,oTd w T cn ls,(dD (dC w lc) e2),(dD (dL w ll) e3)],[],.ok .next,0,8+((cOwnF w (n+2) (t+8) sk sd lm tb td cn ls sl ln po pd tk T iss ti g tg l x tf tl tx lt e1 lc e2 ll e3 1989 z tz e1' dt).dt),13⟩
def connX_h0:List Nat:=hx 14 [0x3afa95415d829fccac5594f46356af50302ca0ac9424773475d8]
theorem connX_ok (w ba bb fz n t sk sd lm tb td cn ls sl ln po pd tk T iss ti g tg l x tf tl tx lt e1 lc e2 ll e3 z tz e1' dt ta tb' tc td')(hD:FailOk (wR w ba bb) fz (cOwnF w (n+2) (t+8) sk sd lm tb td cn ls sl ln po pd tk T iss ti g tg l x tf tl tx lt e1 lc e2 ll e3 1989 z tz e1' dt) (zipA (cOwnF w (n+2) (t+8) sk sd lm tb td cn ls sl ln po pd tk T iss ti g tg l x tf tl tx lt e1 lc e2 ll e3 1989 z tz e1' dt).pre (cOwnF w (n+2) (t+8) sk sd lm tb td cn ls sl ln po pd tk T iss ti g tg l x tf tl tx lt e1 lc e2 ll e3 1989 z tz e1' dt).post)):FailOk (wR w ba bb) fz (connX_c w n t sk sd lm tb td cn ls sl ln po pd tk T iss ti g tg l x tf tl tx lt e1 lc e2 ll e3 z tz e1' dt ta tb' tc td') (zipA (connX_c w n t sk sd lm tb td cn ls sl ln po pd tk T iss ti g tg l x tf tl tx lt e1 lc e2 ll e3 z tz e1' dt ta tb' tc td').pre (connX_c w n t sk sd lm tb td cn ls sl ln po pd tk T iss ti g tg l x tf tl tx lt e1 lc e2 ll e3 z tz e1' dt ta tb' tc td').post):=by
 cases ba<;>exact fail_of (N:=97) (w0:=0) (u0:=1) (ro:=[]) (hs:=connX_h0) (bs:=[]) (by kernel_rfl) (by kernel_rfl) (by kernel_rfl) (cons:=[]) nm nm nm (fun A s R fs hA O hf hfs hR=>
  fin_pass' (env:=envF w.params 1302 n []) (L:=n) (js:=[9,0,1,2,3,4,5,6,7,8]) (idx:=[0,1,2,3,4,5,6,7,8]) (D:=cOwnF w (n+2) (t+8) sk sd lm tb td cn ls sl ln po pd tk T iss ti g tg l x tf tl tx lt e1 lc e2 ll e3 1989 z tz e1' dt) (ys:=[(sk,oI 1431 sd),(sd,oSd w T lm po tb sl ln iss ti g tg),(po,oI 161 pd),(pd,oPd w (T+8) tk l x tf tl tx),(tk,(dD (dI lt) e1)),(tb,oI 1173 td),(td,oTd w T cn ls),(cn,(dD (dC w lc) e2)),(ls,(dD (dL w ll) e3))]) (oF:=oX w.params "frame" 6 [("self",t,.ref sk),("local",t+1,.int 1 ta),("remote",t+2,.int 2 tb'),("port",t+3,.int 80 tc),("now",t+4,.int 0 td'),("local_port",t+5,.int 0 1989)]) (bs:=[]) (by kernel_rfl) (by decide) (by kernel_rfl) (by intro v; kernel_rfl) rfl rfl (by decide) (by kernel_rfl) (by show t+(8+((cOwnF w (n+2) (t+8) sk sd lm tb td cn ls sl ln po pd tk T iss ti g tg l x tf tl tx lt e1 lc e2 ll e3 1989 z tz e1' dt).dt))=t+8+((cOwnF w (n+2) (t+8) sk sd lm tb td cn ls sl ln po pd tk T iss ti g tg l x tf tl tx lt e1 lc e2 ll e3 1989 z tz e1' dt).dt); omega) (by kernel_rfl) (not_mod (by kernel_rfl)) (by intro vs h; cases h) (by show n≤n; omega) hD O hA hf hfs hR)
def tlisX_c (w:World)(n t:Nat)(tb td cn ls:Addr) (T:Nat)(ll:List Ent)(e3:Nat)(ta:Nat) (p:Int)(tp:Nat) (y:Int)(ty:Nat):Con:=⟨Code.call (.ref 1141) ⟨[.ref tb,.int 0 ta,.int p tp,.int y ty],[]⟩,n,t,[(tb,oI 1173 td),(td,oTd w T cn ls),(ls,dD (dL w ll) e3)],[oI 1173 td,oTd w T cn ls,(dD (dL w ll) e3)],[],.ok .next,0,13,6⟩
def tlisX_h0:List Nat:=hx 85 [0x1f7c45f367e103a31d1e3501472a640f2bb5ebfbe59ee8c061366d80220b3435f80453ea422d466fe8a7e9c004100599dd3b72e9128fdce9e6a533bce4b4df9dd4b678058c10d055f,0x710e8c1196ca3452c5f2ee8cad50523bd57eee1f3f2054c807]
theorem tlisX_ok (w ba bb fz n t tb td cn ls T ll e3 ta p tp y ty)(hc:∀D∈([cInL w (n+2) (t+5) ls ll e3 (n+1) p ta tp true]:List Con),ConOk (wR w ba bb) fz D):FailOk (wR w ba bb) fz (tlisX_c w n t tb td cn ls T ll e3 ta p tp y ty) (zipA (tlisX_c w n t tb td cn ls T ll e3 ta p tp y ty).pre (tlisX_c w n t tb td cn ls T ll e3 ta p tp y ty).post):=by
 cases ba<;>exact fail_of (N:=163) (w0:=0) (u0:=1) (ro:=[]) (hs:=tlisX_h0) (bs:=[]) (by kernel_rfl) (by kernel_rfl) (by kernel_rfl) hc nm nm (fun A s R fs hA O hf hfs hR=>
  fin_raise (post:=zipA (tlisX_c w n t tb td cn ls T ll e3 ta p tp y ty).pre (tlisX_c w n t tb td cn ls T ll e3 ta p tp y ty).post) (env:=envF w.params 1141 n []) (L:=n) (e:=n+3) (js:=[6,3,0,1,2]) (t:=t+13) (oE:=⟨.ref 63,(some (n+5)),.fields #[.ref (n+2),.none,.none,.none,.bool false,.none],#[]⟩) (oF:=oX w.params "frame" 4 [("self",t,.ref tb),("address",t+1,.int 0 ta),("port",t+2,.int p tp),("owner",t+3,.int y ty)]) (by kernel_rfl) (by show t+13=t+(13); omega) O (by kernel_rfl) (not_mod (by kernel_rfl)) rfl rfl rfl rfl (by intro vs h; cases h) (by show n≤n+3; omega) (by show n≤n; omega) rfl hf hfs hR)
theorem port_cls (w:World):baseLook w.params 63=some (excClassObj (Str.ofString "PortError") (Str.ofString "PortError") 63 62 [.ref 38] [.ref 38,.type "Exception",.type "BaseException",.type "object"] true [] [] false none none (some (.ref 54)) none (some (.str (Str.ofString "PortError") 241)) (some (.str (Str.ofString "PortError") 249)) (some (.bool true)) "Exception.__new__"):=by kernel_rfl
noncomputable def hsT:List ExceptHandler:=[.ExceptHandler (some (.Name (Str.ofString "PortError") {line:=970,col:=11,endLine:=970,endCol:=20})) none [.Return (some (.Constant .none 0 {line:=971,col:=15,endLine:=971,endCol:=19})) {line:=971,col:=8,endLine:=971,endCol:=19}] {line:=970,col:=4,endLine:=971,endCol:=19}]
def envT (w:World) (L:Nat):Env:=envF w.params 1463 L []
theorem gl_some (w:World):∃o,baseLook w.params (envT w 0).globals=some o/\nsLook (Str.ofString "PortError") o=Sem.pure (some (Value.ref 63)):=by
 have h:((baseLook w.params (envT w 0).globals).map fun o=>nsLook (Str.ofString "PortError") o)=some (Sem.pure (some (Value.ref 63))):=by kernel_rfl
 cases q:baseLook w.params (envT w 0).globals with
 | none=>rw[q] at h; cases h
 | some o=>rw[q] at h; exact⟨o,rfl,Option.some.inj h⟩
theorem tried_ok {w:World}{fz:Addr->Option Obj} {A:Around} {s:Shared}{base:Heap}{fs:List Env}{L e:Addr}{a0:Value} {Q:Flow->Shared->Prop} {E:Value->Shared->Prop}
  (hfr:A.frames=some (envT w L::fs)) (B:BaseOk w fz base) (fl:Heap.FlyingW base (envT w L::fs) e (.ref 63) a0 s.heap)
  (hQ:∀h',Heap.FlyingW base (envT w L::fs) e (.ref 63) a0 h'->s.heap.UpToSlots h'->s.heap.objs.size<=h'.objs.size->Q (.ret .none) {s with heap:=h'}):
  wpAny (model P02 w) A (do noteFrame (.ref e) (envT w L); setFlight (.ref e) none; handleBy (.ref e) (envT w L) hsT) Q E s:=by
 have hL:(envT w L).frame=some L:=by kernel_rfl
 refine wpAny_bind (sz (wpAny_looks_onW hfr hL fl fun h1 hl1 up1 hz1=>wpAny_bind (sz (wpAny_landsW hl1 fun h2 fl2 up2 hz2=>?_))))
 have hz1:s.heap.objs.size<=h1.objs.size:=hz1
 have hz2:h1.objs.size<=h2.objs.size:=hz2
 obtain⟨h,g,d,tk,os⟩:=s
 dsimp only at hQ up1 hz1 ⊢
 refine wpAny_handleBy_cons (codeAny_handlers_test ?_) (by intro q; cases q)
 refine Name_function_global (by kernel_rfl) (by kernel_rfl) ?_ (by decide)
 obtain⟨o,hg,hn⟩:=gl_some w
 have hg2:h2.get? (envT w L).globals=some o:=fl2.1 _ _ (B.top _ _ hg)
 unfold loadGlobal nsGet
 refine wpAny_bind (wpAny_bind (PySem.AutoSeq1.wpAny_loadPart' hg2 ?_))
 rw[hn]
 refine wpAny_pure ?_
 refine wpAny_pure ?_
 obtain⟨oe,q1,q2⟩:=fl2.there
 refine wpAny_excMatches_sub_self (fl2.1 _ _ (B.top _ _ (port_cls w))) q1 q2 (by decide) ?_
 refine codeAny_handlers_suite ?_
 obtain⟨f1,f2,f3,f4⟩:=fl2
 refine sz (wpAny_setFlight_noneW f1 f3 f4.at fun h3 k1 k2 k3 k4 hz3=>?_)
 have hz3:h2.objs.size<=h3.objs.size:=hz3
 refine wpAny_execs_cons (wpAny_Return_some (Constant_none ?_))
 exact hQ h3 ⟨k1,f2,k2,k3⟩ ((up1.trans up2).trans fun b o hb hn=>⟨o.slots,k4 b o hb hn⟩) (le_trans hz1 (le_trans hz2 hz3))
def xTry (w:World) (L:Nat) (v:Value):Sem Fin:=xFun (envT w L) (R.bindR (R.bindR (Fast.tw17872113653443481271 v (envT w L)) fun _=>R.bindR (Fast.tw5670386056902412789 v none) fun _=>Fast.tw14206642085496868694 v (envT w L) hsT) (tNext (dropL (bodyF w.params 1463) 1) (envT w L)))
section
def xExpr (env:Env) (m:Sem Value):Sem Fin:=R.bindR (R.onRaiseR m fun x=>Fast.tw9442747609961115081 env x) fun v=>Fast.tw6905046200447255374 v
theorem raise_xExpr {M:Model} {A:Around} {c:Code}{env:Env} {v:Value} {Q:Fin->Shared->Prop} {E:Value->Shared->Prop} {s:Shared}
  (k:wpAny M (A.under c) («leaving» env v) (fun _ s'=>E v s') E s):wpOwn M A c (xExpr env (.raise v)) Q E s:=fun Γ p hc hΓ=>by
 have z:=k Γ p (hc▸hΓ.in)
 unfold xExpr
 rw[<- PySem.W.R.bindR_eq,<- PySem.W.R.onRaiseR_eq]
 show Sem.wp M Γ (Sem.onRaise (Sem.raise v) _ >>= _) _ _ p s
 rw[Sem.wp_bind',Sem.wp_onRaise,Sem.wp_raise,<- Fast.te9442747609961115081]
 exact z
theorem own_xTry {w:World} {A:Around} {c:Code} {L:Nat} {v:Value} {Q:Fin->Shared->Prop} {E:Value->Shared->Prop} {s:Shared}
  (k:wpAny (model P02 w) (A.under c) (do noteFrame v (envT w L); setFlight v none; handleBy v (envT w L) hsT) (fun f s'=>f=.ret .none/\Q (.done (.ret .none)) s') (fun _ _=>False) s):wpOwn (model P02 w) A c (xTry w L v) Q E s:=fun Γ p hc hΓ=>by
 have z:=k Γ p (hc▸hΓ.in)
 unfold xTry xFun
 rw[<- PySem.W.R.bindR_eq,<- PySem.W.R.onRaiseR_eq,<- Fast.te17872113653443481271,<- Fast.te5670386056902412789,<- Fast.te14206642085496868694]
 show Sem.wp _ Γ (Sem.onRaise ((do noteFrame v (envT w L); setFlight v none; handleBy v (envT w L) hsT:Sem Flow) >>= _) _ >>= _) _ _ p s
 rw[Sem.wp_bind',Sem.wp_onRaise,Sem.wp_bind']
 refine Sem.wp_mono _ Γ _ (fun f p' s' h=>?_) (fun e p' s' h=>h.elim) p s z
 obtain⟨rfl,h⟩:=h
 exact h
def kTop:KS->Code×(Result->Sem Fin)×KS
 | .ret c _ _ _ k κ=>(c,k,κ)
 | .base=>(.block [] default,fun _=>.raise .none,.base)
def is2:KS->Bool
 | .ret _ _ _ _ _ (.ret _ _ _ _ _ .base)=>true
 | _=>false
structure Mid (w:World)(fz:Addr->Option Obj) (C:Con)(fs:List Env)(h₀:Heap)(LD:Addr)(oD:Obj)(ys:List (Addr×Obj))(h':Heap):Prop where
 base:BaseOk w fz h'
 le:C.n<=h'.objs.size
 at_:∀p∈ys,h'.get? p.1=some p.2
 fr:∃sl,h'.get? LD=some {oD with slots:=sl}
 keep:∀b o,h₀.get? b=some o->b∉C.pre.map (·.1)->b∉frA fs->h'.get? b=some o
 slots:SlotsKept fs h₀ h'
 nd:(LD::ys.map (·.1)).Nodup
 off:∀p∈ys,p.1∈C.pre.map (·.1)\/C.n<=p.1
 gd:C.n<=LD
section
variable {w:World}{fz:Addr->Option Obj} {C:Con}{cons:List Con}{ro:List (Addr×Obj)}{nd:Nat}{fs:List Env} {X:Out}{h₀:Heap} {A:Around} {R:Result->Shared->Prop} {g:Array GenState} {d:Drawn}{os:OsState}
theorem fin_tried {js idx:List Nat} {D:Con}{ys0 ys:List (Addr×Obj)}{oL oT oD:Obj}{Ll Lt LD:Addr}{envL envD:Env}{bs:List (Bool×Bool)}
  (E:callL nd D.nd js X=callR D.code ((Ll,oL)::(Lt,oT)::(LD,oD)::ys0) D.n D.t [envL,envT w Lt,envD] bs X) (hi:js.Nodup) (hκ:is2 (tS X).κ=true)
  (hk1:∀v,(tS X).k (.error v)=xExpr envL (.raise v)) (hk2:∀v,(kTop (tS X).κ).2.1 (.error v)=xTry w Lt v)
  (hc1:(tS X).c.envs= [envL]) (hc2:(kTop (tS X).κ).1.envs= [envT w Lt]) (hc3:(kTop (kTop (tS X).κ).2.2).1.envs= [envD])
  (hx:pick ys0 idx=D.pre.map some) (hix:idx.Nodup) (hys:ys=mergeP idx (zipA D.pre D.post) ys0 0) (hya:ys.map (·.1)=ys0.map (·.1))
  (hLl:envL.frame=some Ll) (hmL:envL.scope.kind≠ .module) (hLD:envD.frame=some LD) (hmD:envD.scope.kind≠ .module)
  (hFl:∀vs,oL.data≠ .fields vs) (hFt:∀vs,oT.data≠ .fields vs) (hFd:∀vs,oD.data≠ .fields vs) (gl:C.n<=Ll) (gt:C.n<=Lt) (gd:C.n<=LD)
  (hD:FailC w fz D) (O:FxOk (fxOf w fz C h₀)) (hA:CtxOk A nd) (hf:A.frames=some fs) (hfs:FrsOk w fz (C.pre.map (·.1)) h₀ fs)
  (G:∀h',Keeps A ⟨(tS X).c',(kTop (kTop (tS X).κ).2.2).2.1,(kTop (kTop (tS X).κ).2.2).1,(tS X).dp,(tS X).un,.base,(tS X).s⟩->Mid w fz C fs h₀ LD oD ys h'->MN w A R (kTop (kTop (tS X).κ).2.2).1 .base ((kTop (kTop (tS X).κ).2.2).2.1 (.ok (.ret .none))) ⟨h',g,d,D.t+D.dt,os⟩):
  FinOk ⟨w,fz,nd,cons,ro⟩ (fxOf w fz C h₀) A R g d os X:=by
 refine fin_call E hi hA hf fun B h hB hBf K a=>?_
 obtain⟨old,fr,frk,offX,nbX⟩:=nice O hfs a
 have hLt:(envT w Lt).frame=some Lt:=by kernel_rfl
 have hmT:(envT w Lt).scope.kind≠ .module:=not_mod (by kernel_rfl)
 have mA:frA (envL::envT w Lt::envD::fs)=Ll::Lt::LD::frA fs:=by unfold frA; rw[filterMap_cons,hLl,filterMap_cons,hLt,filterMap_cons,hLD]
 have nda:=a.nd
 simp only[map_cons,nodup_cons,mem_cons,not_or] at nda
 obtain⟨⟨n1,n2,n3⟩,⟨n4,n5⟩,n6,ndy⟩:=nda
 obtain⟨k1,k2,k3⟩:=pick_ok (post':=zipA D.pre D.post) ndy hx hix
 have memY:∀p∈ys0,p∈(Ll,oL)::(Lt,oT)::(LD,oD)::ys0:=fun p hp=>.tail _ (.tail _ (.tail _ hp))
 have nin:∀ {b:Addr},b∉ys0.map (·.1)->b∉D.pre.map (·.1):=fun hb z=>by
  obtain⟨p,hp,e⟩:=mem_map.mp z
  exact hb (mem_map.mpr ⟨p,k2 p hp,e⟩)
 have apD:Apart w fz (D.pre.map (·.1)):=⟨k1,fun b hb=>by obtain⟨p,hp,rfl⟩:=mem_map.mp hb; exact(nbX p (memY p (k2 p hp))).1,fun b hb=>by obtain⟨p,hp,rfl⟩:=mem_map.mp hb; exact(nbX p (memY p (k2 p hp))).2⟩
 have hol:∀ {b:Addr},b∈frA (envL::envT w Lt::envD::fs)->(hole h (frA (envL::envT w Lt::envD::fs))).get? b=none:=fun hb=>hole_none h hb
 have frD:FrsOk w fz (D.pre.map (·.1)) h (envL::envT w Lt::envD::fs):=by
  have el:∀a'∈frA (envL::envT w Lt::envD::fs),(a'=Ll\/a'=Lt\/a'=LD)\/a'∈frA fs:=fun a' ha=>by
   rw[mA] at ha
   rcases mem_cons.mp ha with r | ha
   ·exact .inl (.inl r)
   ·rcases mem_cons.mp ha with r | ha
    ·exact .inl (.inr (.inl r))
    ·rcases mem_cons.mp ha with r | ha
     ·exact .inl (.inr (.inr r))
     ·exact .inr ha
  have nb3:∀a',(a'=Ll\/a'=Lt\/a'=LD)->baseLook w.params a'=none/\fz a'=none:=fun a' h=>by
   rcases h with rfl | rfl | rfl
   ·exact nbX _ (.head _)
   ·exact nbX _ (.tail _ (.head _))
   ·exact nbX _ (.tail _ (.tail _ (.head _)))
  refine⟨⟨hmL,⟨Ll,oL,hLl,hol (by rw[mA]; exact .head _),a.at_ _ (.head _),hFl⟩,hmT,⟨Lt,oT,hLt,hol (by rw[mA]; exact .tail _ (.head _)),a.at_ _ (.tail _ (.head _)),hFt⟩,hmD,⟨LD,oD,hLD,hol (by rw[mA]; exact .tail _ (.tail _ (.head _))),a.at_ _ (.tail _ (.tail _ (.head _))),hFd⟩,ff_to hfs.ff (fun a' ha=>hol (by rw[mA]; exact .tail _ (.tail _ (.tail _ ha)))) frk⟩,fun a' ha q=>?_,fun a' ha=>?_,fun a' ha=>?_⟩
  ·rcases el a' ha with r | r
   ·rcases r with rfl | rfl | rfl
    ·exact nin n3 q
    ·exact nin n5 q
    ·exact nin n6 q
   ·obtain⟨p,hp,e⟩:=mem_map.mp q
    exact offX p (memY p (k2 p hp)) (e▸r)
  ·rcases el a' ha with r | r
   ·exact(nb3 a' r).1
   ·exact hfs.nb _ r
  ·rcases el a' ha with r | r
   ·exact(nb3 a' r).2
   ·exact hfs.nz _ r
 have hBf:B.frames=some (envL::envT w Lt::envD::fs):=hBf
 refine hD B ⟨h,g,d,D.t,os⟩ _ hB apD a.base a.size rfl (fun p hp=>a.at_ p (memY p (k2 p hp))) hBf frD _ fun e h' ⟨base,⟨a0,fl⟩,b1,b2,b3,b4,b5⟩=>?_
 generalize tS X=S at hκ hk1 hk2 hc1 hc2 hc3 K G ⊢
 obtain⟨c',k,c,dp,un,κ,s⟩:=S
 dsimp only at hκ hk1 hk2 hc1 hc2 hc3 G ⊢
 cases κ with
 | base=>cases hκ
 | ret cT dT uT fT kT κ=>cases κ with
  | base=>cases hκ
  | ret cD dD uD fD kD κ=>cases κ with
   | ret=>cases hκ
   | base=>
    dsimp only[kTop] at hk2 hc2 hc3 G
    have hfr2:((aro A (.ret cD dD uD fD kD .base)).under cT).frames=some (envT w Lt::envD::fs):=by
     show pushEnvs cT.envs (pushEnvs cD.envs A.frames)=_
     rw[hc2,hc3,hf]; rfl
    have hfr1:((aro A (.ret cT dT uT fT kT (.ret cD dD uD fD kD .base))).under c).frames=some (envL::envT w Lt::envD::fs):=by
     show pushEnvs c.envs (pushEnvs cT.envs (pushEnvs cD.envs A.frames))=_
     rw[hc1,hc2,hc3,hf]; rfl
    rw[hk1]
    refine raise_xExpr (sz (wpAny_leaves_onW hfr1 hLl fl fun h1 fl1 up1 hz1=>?_))
    have hz1:h'.objs.size<=h1.objs.size:=hz1
    show MN w A R cT (.ret cD dD uD fD kD .base) (kT (.error (.ref e))) ⟨h1,g,d,D.t+D.dt,os⟩
    rw[hk2]
    refine own_xTry (tried_ok hfr2 b1 fl1 fun h2 fl2 up2 hz2=>⟨rfl,?_⟩)
    have hz2:h1.objs.size<=h2.objs.size:=hz2
    show MN w A R cD .base (kD (.ok (.ret .none))) ⟨h2,g,d,D.t+D.dt,os⟩
    have st:=fl2.1
    refine G h2 ⟨⟨?_,?_,K.dep.2.2⟩,trivial⟩ ⟨⟨fun a o q=>st _ _ (b1.top a o q),fun a o q=>st _ _ (b1.fz a o q)⟩,le_trans a.le (le_trans b2 (le_trans hz1 hz2)),fun p hp=>?_,?_,fun b o q hb hb'=>?_,fun a' ha o q=>?_,?_,fun p hp=>?_,gd⟩
    ·have:=K.dep.1
     have z:A.depth+cD.weight+cT.weight+c.weight<=A.depth+dp:=this
     show A.depth+cD.weight<=A.depth+dp
     omega
    ·have:=K.dep.2.1
     have z:A.units+cD.cUnits+cT.cUnits+c.cUnits<=A.units+un:=this
     show A.units+cD.cUnits<=A.units+un
     omega
    ·rw[hys] at hp
     rcases k3 p hp with r | ⟨r1,r2⟩
     ·exact st _ _ (b3 p r)
     ·refine st _ _ (b4 _ _ (a.at_ p (memY p r1)) r2 fun q=>?_)
      have mp:p.1∈ys0.map (·.1):=mem_map.mpr ⟨p,r1,rfl⟩
      rw[mA] at q
      rcases mem_cons.mp q with y | q
      ·exact n3 (y▸mp)
      ·rcases mem_cons.mp q with y | q
       ·exact n5 (y▸mp)
       ·rcases mem_cons.mp q with y | q
        ·exact n6 (y▸mp)
        ·exact offX p (memY p r1) q
    ·obtain⟨s1,r1⟩:=b5 LD (by rw[mA]; exact .tail _ (.tail _ (.head _))) oD (a.at_ _ (.tail _ (.tail _ (.head _))))
     obtain⟨s2,r2⟩:=up1 LD _ r1 hFd
     obtain⟨s3,r3⟩:=up2 LD _ r2 hFd
     exact⟨s3,r3⟩
    ·have q0:=old q
     refine st _ _ (b4 b o (a.keep b o q hb) (fun z=>?_) fun z=>?_)
     ·obtain⟨p,hp,ep⟩:=mem_map.mp z
      rcases a.off p (memY p (k2 p hp)) with r | r
      ·exact hb (ep▸r)
      ·exact absurd (lt_of_lt_of_le q0 (ep▸r)) (lt_irrefl _)
     ·rw[mA] at z
      rcases mem_cons.mp z with y | z
      ·exact absurd (lt_of_lt_of_le q0 (y▸gl)) (lt_irrefl _)
      ·rcases mem_cons.mp z with y | z
       ·exact absurd (lt_of_lt_of_le q0 (y▸gt)) (lt_irrefl _)
       ·rcases mem_cons.mp z with y | z
        ·exact absurd (lt_of_lt_of_le q0 (y▸gd)) (lt_irrefl _)
        ·exact hb' z
    ·obtain⟨o',q1,q2,q3⟩:=fr a' ha
     rw[q] at q1
     cases q1
     obtain⟨s1,r1⟩:=b5 a' (by rw[mA]; exact .tail _ (.tail _ (.tail _ ha))) o q2
     obtain⟨s2,r2⟩:=up1 a' _ r1 q3
     obtain⟨s3,r3⟩:=up2 a' _ r2 q3
     exact⟨s3,r3⟩
    ·rw[hya]; exact nodup_cons.mpr ⟨n6,ndy⟩
    ·have:p.1∈ys0.map (·.1):=hya▸mem_map.mpr ⟨p,hp,rfl⟩
     obtain⟨q,hq,e⟩:=mem_map.mp this
     exact e▸a.off q (memY q hq)
end
end
section
structure Wk (C:Con)(fs:List Env)(h₀ h':Heap):Prop where
 size:C.n<=h'.objs.size
 post:∀p∈zipA C.pre C.post,h'.get? p.1=some p.2
 news:∀p∈C.news,h'.get? p.1=some p.2
 fresh:(C.news.map (·.1)).Nodup/\∀p∈C.news,C.n<=p.1
 keep:∀b o,h₀.get? b=some o->b∉C.pre.map (·.1)->b∉frA fs->h'.get? b=some o
 slots:SlotsKept fs h₀ h'
def WkOk (w:World)(fz:Addr->Option Obj) (C:Con):Prop:=∀ (A:Around) (s:Shared)(fs:List Env),CtxOk A C.nd->Apart w fz (C.pre.map (·.1))->BaseOk w fz s.heap->s.heap.objs.size=C.n->s.toks=C.t->(∀p∈C.pre,s.heap.get? p.1=some p.2)->
 A.frames=some fs->FrsOk w fz (C.pre.map (·.1)) s.heap fs->∀R:Result->Shared->Prop,(∀h' t',Wk C fs s.heap h'->R C.res ⟨h',s.gens,s.drawn,t',s.os⟩)->codeAny (model P02 w) A C.code R s
theorem wk_of_con {w:World}{fz:Addr->Option Obj} {C:Con} (K:ConOk w fz C):WkOk w fz C:=by
 intro A s fs hA ap B hsz ht hp hf hfs R hR
 refine K A s hA ap B hsz ht hp R fun h' Q=>hR h' _ ⟨by rw[Q.size]; omega,Q.post,Q.news,Q.fresh,fun b o q hb _=>Q.keep b o q fun p hp z=>hb (mem_map.mpr ⟨p,hp,z⟩),fun a ha o q=>⟨o.slots,Q.keep a o q fun p hp z=>hfs.off a ha (mem_map.mpr ⟨p,hp,z⟩)⟩⟩
section
variable {w:World}{fz:Addr->Option Obj} {C:Con}{cons:List Con}{ro:List (Addr×Obj)}{nd:Nat}{fs:List Env}{h₀:Heap} {A:Around} {R:Result->Shared->Prop} {g:Array GenState} {d:Drawn}{os:OsState}
theorem mid_go {C':Con}{sl:Array (Option Value)}{LD:Addr}{oD:Obj}{ys:List (Addr×Obj)} {S:Stop} {r:Result}{N t₁:Nat}{hs ni:List Nat}{bs:List (Bool×Bool)}{ze te:Nat}{h':Heap}
  (M:Mid w fz C fs h₀ LD oD ys h') (hsl:h'.get? LD=some {oD with slots:=sl}) (hpre:C'.pre=(LD,{oD with slots:=sl})::ys) (hn:C'.n=h'.objs.size) (ht:C'.t=t₁) (hr:C'.res=C.res) (hnd:C'.nd=C.nd)
  (hsub:∀p∈zipA C.pre C.post,p∈zipA C'.pre C'.post) (hnw:C.news= []) (hl:Nat.ble ys.length 3000=true)
  (E1:outOf C'.pre.length ni (runS (vOf w fz C' cons ro) N (cfGo S r C' hs))=some (C'.res,stTo C' ze te)) (hz:ze=C'.n+C'.dm) (hte:te=C'.t+C'.dt) (hi:incr ni C'.pre.length=true)
  (E2:FineO (runS (vOf w fz C' cons ro) N (cfGo S r C' hs)) bs) (hc:∀D∈cons,ConOk w fz D) (hro:∀p∈ro,fz p.1=some p.2) (hb:∀b∈bs,b.1=b.2)
  (hA:CtxOk A C.nd) (O:FxOk (fxOf w fz C h₀)) (hfs:FrsOk w fz (C.pre.map (·.1)) h₀ fs) (K:Keeps A S)
  (hR:∀h' t',Wk C fs h₀ h'->R C.res ⟨h',g,d,t',os⟩):MN w A R S.c S.κ (S.k r) ⟨h',g,d,t₁,os⟩:=by
 have old:∀ {b:Nat} {o:Obj},h₀.get? b=some o->Nat.lt b C.n:=fun {b o} q=>by have z:h₀.objs.size=C.n:=O.sz; rw[<- z]; exact Heap.lt_size q
 have adr:C'.pre.map (·.1)=LD::ys.map (·.1):=by rw[hpre]; rfl
 have off:∀b∈C'.pre.map (·.1),b∈C.pre.map (·.1)\/C.n<=b:=fun b hb=>by
  rw[adr] at hb
  rcases mem_cons.mp hb with rfl | hb
  ·exact .inr M.gd
  ·obtain⟨p,hp,rfl⟩:=mem_map.mp hb
   exact M.off p hp
 have ap:Apart w fz (C'.pre.map (·.1)):=by
  refine⟨adr▸M.nd,fun b hb=>?_,fun b hb=>?_⟩
  ·rcases off b hb with r | r
   ·exact O.ap.nb _ r
   ·cases q:baseLook w.params b with
    | none=>rfl
    | some o=>exact absurd (lt_of_lt_of_le (baseLook_lt q) (le_trans O.bl r)) (lt_irrefl _)
  ·rcases off b hb with r | r
   ·exact O.ap.nz _ r
   ·cases q:fz b with
    | none=>rfl
    | some o=>exact absurd (lt_of_lt_of_le (O.fl _ _ q) r) (lt_irrefl _)
 have Bg:Began w fz C' h':=began (by rw[hpre]; have:=le_of_ble_eq_true hl; show ys.length+1<=4000; omega) ap M.base hn.symm (fun p hp=>by
  rw[hpre] at hp
  rcases mem_cons.mp hp with rfl | hp
  ·exact hsl
  ·exact M.at_ p hp)
 refine go_from (C:=C') (cons:=cons) (ro:=ro) (N:=N) (hs:=hs) (bs:=bs) (s:=⟨h',g,d,t₁,os⟩) rfl (congrArg Prod.fst E2) (congrArg Prod.snd E2) hb (by rw[hnd]; exact hA) hc hro ht.symm Bg K
  (fin_done E1 hz hte hi fun h'' Q=>?_)
 rw[hr]
 refine hR h'' _ {size:=?_,post:=fun p hp=>Q.post p (hsub p hp),news:=?_,fresh:=?_,keep:=fun b o q hb hb'=>?_,slots:=fun a ha o q=>?_}
 ·have z:=Q.size
  rw[hn] at z
  rw[z]
  exact le_trans M.le (le_add_right _ _)
 ·rw[hnw]; exact fun p hp=>nomatch hp
 ·rw[hnw]; exact⟨.nil,fun p hp=>nomatch hp⟩
 ·refine Q.keep b o (M.keep b o q hb hb') fun p hp z=>?_
  rcases off _ (mem_map.mpr ⟨p,hp,rfl⟩) with r | r
  ·exact hb (z▸r)
  ·exact absurd (lt_of_lt_of_le (old q) (z▸r)) (lt_irrefl _)
 ·obtain⟨s1,r1⟩:=M.slots a ha o q
  refine⟨s1,Q.keep a _ r1 fun p hp z=>?_⟩
  rcases off _ (mem_map.mpr ⟨p,hp,rfl⟩) with r | r
  ·exact hfs.off a ha (z▸r)
  ·exact absurd (lt_of_lt_of_le (old q) (z▸r)) (lt_irrefl _)
end
def WkP (w:World)(fz:Addr->Option Obj) (C:Con)(Cs:Con->Prop):Prop:=∀ (A:Around) (s:Shared)(fs:List Env),CtxOk A C.nd->Apart w fz (C.pre.map (·.1))->BaseOk w fz s.heap->s.heap.objs.size=C.n->s.toks=C.t->(∀p∈C.pre,s.heap.get? p.1=some p.2)->
 A.frames=some fs->FrsOk w fz (C.pre.map (·.1)) s.heap fs->∀R:Result->Shared->Prop,(∀C' h' t',Cs C'->Wk C' fs s.heap h'->R C'.res ⟨h',s.gens,s.drawn,t',s.os⟩)->codeAny (model P02 w) A C.code R s
theorem wkp_of {w:World}{fz:Addr->Option Obj} {C:Con}{Cs:Con->Prop}{cons:List Con}{ro:List (Addr×Obj)}{N w0 u0:Nat}{hs:List Nat}{bs:List (Bool×Bool)}(hk:and (Nat.ble C.code.weight w0) (Nat.ble C.code.cUnits u0)=true)(hm':Nat.ble C.pre.length 4000=true)
  (E:FineO (xOf w fz C cons ro N w0 u0 hs) bs) (hc:∀D∈cons,ConOk w fz D) (hro:∀p∈ro,fz p.1=some p.2) (hb:∀b∈bs,b.1=b.2)
  (F:∀ (A:Around) (s:Shared) (R:Result->Shared->Prop) (fs:List Env),CtxOk A C.nd->FxOk (fxOf w fz C s.heap)->A.frames=some fs->FrsOk w fz (C.pre.map (·.1)) s.heap fs->
   (∀C' h' t',Cs C'->Wk C' fs s.heap h'->R C'.res ⟨h',s.gens,s.drawn,t',s.os⟩)->FinOk (vOf w fz C cons ro) (fxOf w fz C s.heap) A R s.gens s.drawn s.os (xOf w fz C cons ro N w0 u0 hs)):WkP w fz C Cs:=by
 intro A s fs hA ap B hsz ht hpre hf hfs R hR
 have G:=began (le_of_ble_eq_true hm') ap B hsz hpre
 exact run_from (le_of_k hk) rfl (congrArg Prod.fst E) (congrArg Prod.snd E) hb hA hc hro ht G (F A s R fs hA G.ok hf hfs hR)
theorem mid_as {w:World}{fz:Addr->Option Obj}{C C':Con}{fs:List Env}{h₀ h':Heap}{LD:Addr}{oD:Obj}{ys:List (Addr×Obj)} (M:Mid w fz C fs h₀ LD oD ys h')(e1:C'.n=C.n)(e2:C'.pre=C.pre):Mid w fz C' fs h₀ LD oD ys h':=
 ⟨M.base,e1▸M.le,M.at_,M.fr,fun b o q hb hb'=>M.keep b o q (e2▸hb) hb',M.slots,M.nd,fun p hp=>by rw[e1,e2]; exact M.off p hp,e1▸M.gd⟩
def envX:Code->Env
 | .expr _ e=>e
 | .func _ e=>e
 | _=>default
noncomputable def stopD (X:Out):Stop:=⟨(tS X).c',(kTop (kTop (tS X).κ).2.2).2.1,(kTop (kTop (tS X).κ).2.2).1,(tS X).dp,(tS X).un,.base,(tS X).s⟩
abbrev dp4 (W:World)(fz:Addr->Option Obj) (C:Con) (X:Out)(cons:List Con)(ro:List (Addr×Obj)) (N:Nat)(hs:List Nat)(ze te:Nat):Prop:=outOf C.pre.length [] (runS (vOf W fz C cons ro) N (cfGo (stopD X) (.ok (.ret .none)) C hs))=some (.ok (.ret (.bool true)),stTo C ze te)/\FineO (runS (vOf W fz C cons ro) N (cfGo (stopD X) (.ok (.ret .none)) C hs)) []
end
def forBd:Stmt->List Stmt
 | .For _ _ bd _ _=>bd
 | _=>[]
def tTurn (c:Code) (f:Flow):Sem Fin:=match f with
 | .next=>Fast.tw12377390311714414960 c
 | .cont=>Fast.tw12377390311714414960 c
 | .brk=>Sem.pure (.done .next)
 | .ret v=>Sem.pure (.done (.ret v))
def xForIf (c:Code) (e:Env) (B:List Stmt) (i:Nat) (m:Sem Value):Sem Fin:=
 xHeld e (R.bindR (R.bindR (R.bindR (R.bindR m tTruth) (tIf (ifBody (at1 B i)) (ifElse (at1 B i)) e)) (tNext (dropL B (Nat.succ i)) e)) (tTurn c))
theorem good_forIf (c:Code) (e:Env) (B:List Stmt) (i:Nat):Good (xForIf c e B i):=good_onr (good_bind (good_bind (good_bind (good_bind good_id _) _) _) _) _
def rgF (w:World)(L it:Addr):Code:=forC w.params 1480 2 L [] (.ref it)
def rgB (w:World):List Stmt:=forBd (at1 (bodyF w.params 1480) 2)
def rgE (w:World) (L:Addr):Env:=envF w.params 1480 L []
def oLg (dc:Option Addr)(zs:Array (Option Value)) (l:List Value)(ep:Nat):Obj:=⟨.type "list",dc,.seq ⟨l⟩ ep,zs⟩
noncomputable def cLenZ (n t:Nat) (l:Addr)(vs:List Value)(ep:Nat)(dc:Option Addr)(zs:Array (Option Value))(sz:Nat):Con:=⟨.call (.builtin "len") ⟨[.ref l],[]⟩,n,t,[(l,oLg dc zs vs ep)],[oLg dc zs vs ep],[],.ok (.ret (.int sz (t+1))),0,2,5⟩
def cLGz (n t:Nat) (l:Addr)(vs:List Value)(ep:Nat)(dc:Option Addr)(zs:Array (Option Value)) (k:Int)(tk:Nat) (v:Value):Con:=⟨.call (.builtin "list.__getitem__") ⟨[.ref l,.int k tk],[]⟩,n,t,[(l,oLg dc zs vs ep)],[oLg dc zs vs ep],[],.ok (.ret v),0,0,5⟩
theorem cLenZ_ok {w:World}{fz:Addr->Option Obj}{n t:Nat} {l:Addr}{vs:List Value}{ep:Nat}{dc:Option Addr}{zs:Array (Option Value)} (h:vs.length<=1000):ConOk w fz (cLenZ n t l vs ep dc zs vs.length):=by
 intro A s hA ap B hsz ht hp R hR
 have ho:=hp _ (.head _)
 have hR:=hR _ (.same hsz hp rfl rfl rfl)
 have ht:s.toks=t:=ht
 refine code_fn kind_len plain_len entry_len (args_len1 _) ?_
 have e:(⟨vs⟩:Array Value).size=vs.length:=rfl
 refine wpAny_len_body_list (items:=⟨vs⟩) ⟨_,ho,rfl,_,rfl⟩ (by rw[e]; omega) ?_
 rw[ht,e]
 exact hR
theorem cLGz_ok {w:World}{fz:Addr->Option Obj}{n t:Nat} {l:Addr}{vs:List Value}{ep:Nat}{dc:Option Addr}{zs:Array (Option Value)} {k:Int}{tk:Nat} {v:Value}(h0:0<=k)(h1:k < 1000)(hv:vs[k.toNat]?=some v):ConOk w fz (cLGz n t l vs ep dc zs k tk v):=by
 intro A s hA ap B hsz ht hp R hR
 have ho:=hp _ (.head _)
 have hR:=hR _ (.same hsz hp rfl rfl rfl)
 have ht:s.toks=t:=ht
 rw[show(cLGz n t l vs ep dc zs k tk v).t+(cLGz n t l vs ep dc zs k tk v).dt=s.toks from ht.symm] at hR
 refine code_entry PySem.F.slot_list_getitem ⟨_,ho,rfl⟩ PySem.F.entry_list_getitem (PySem.F.args_list_getitem_2 _ _) ?_
 show wpAny _ _ (Builtin.List.listSubscript? (.int k tk) >>= _) _ _ s
 refine wpAny_bind (wpAny_listSubscript_int (fitsIndex_of h0 (by omega)) ?_)
 obtain⟨j,rfl⟩:=Int.eq_ofNat_of_zero_le h0
 have hv:(⟨vs⟩:Array Value)[j]?=some v:=by simpa using hv
 show wpAny _ _ ((seqItemAt l j >>= fun r=>pure (r.map (j,·))) >>= _) _ _ s
 refine wpAny_bind (wpAny_bind (wpAny_seqItemAt ho rfl (wpAny_pure ?_)))
 rw[hv]
 first
  | exact wpAny_bind (wpAny_pure (wpAny_pure ⟨v,rfl,hR⟩))
  | exact wpAny_pure ⟨v,rfl,hR⟩
def cPool (n t:Nat)(sc:Addr)(vs:List Value)(ep:Nat)(dc:Option Addr)(zs:Array (Option Value)) (k:Nat)(A B:Int)(ta tb dt:Nat):Con:=⟨Code.call (.ref 1442) ⟨[.ref sc,.int 0 k],[]⟩,n,t,[(sc,oLg dc zs vs ep)],[oLg dc zs vs ep],[(n+6,oL [.int A ta,.int B tb] 0)],.ok (.ret (.ref (n+6))),7,dt,6⟩
def cDraw (n t:Nat)(so:Addr)(a b:Int)(ta tb ep:Nat) (p:Int)(tp:Nat)(a' b':Int)(ta' tb':Nat) (d:Int)(td dt:Nat):Con:=⟨Code.call (.ref 1449) ⟨[.ref so,.int p tp],[]⟩,n,t,[(so,oL [.int a ta,.int b tb] ep)],[oL [.int a' ta',.int b' tb'] ep],[],.ok (.ret (.int d td)),1,dt,6⟩
section
abbrev hZ (s:Shared):Nat:=s.heap.objs.size
structure Wst (w:World) (h:Heap)(os:List (Addr×Obj))(fs:List Env):Prop where
 top:∀a o,baseLook w.params a=some o->h.get? a=some o
 at_:∀p∈os,h.get? p.1=some p.2
 nd:(os.map (·.1)).Nodup
 nb:∀p∈os,baseLook w.params p.1=none
 ff:h.FunFrames (hole h (frA fs)) fs
 off:∀a∈frA fs,a∉os.map (·.1)
 fnb:∀a∈frA fs,baseLook w.params a=none
structure Wrel (os os':List (Addr×Obj))(fs:List Env)(h h':Heap):Prop where
 size:h.objs.size<=h'.objs.size
 keep:∀b o,h.get? b=some o->b∉os.map (·.1)->b∉frA fs->h'.get? b=some o
 slots:SlotsKept fs h h'
 new:∀p∈os',p.1∈os.map (·.1)\/h.objs.size<=p.1
structure Upd (fs:List Env)(pre:List Addr)(xs:List (Addr×Obj))(h h':Heap):Prop where
 size:h.objs.size<=h'.objs.size
 at_:∀p∈xs,h'.get? p.1=some p.2
 off:∀p∈xs,p.1∈pre\/h.objs.size<=p.1
 keep:∀b o,h.get? b=some o->b∉pre->b∉frA fs->h'.get? b=some o
 slots:SlotsKept fs h h'
theorem mem_fst {os:List (Addr×Obj)} {p:Addr×Obj} (h:p∈os):p.1∈os.map (·.1):=mem_map.mpr ⟨p,h,rfl⟩
theorem fst_mem {os:List (Addr×Obj)} {a:Addr} (h:a∈os.map (·.1)):∃o,(a,o)∈os:=let ⟨p,hp,e⟩:=mem_map.mp h; ⟨p.2,e▸hp⟩
section
variable {w:World}{h h' h'':Heap}{os os' os'':List (Addr×Obj)}{fs:List Env}
theorem Wst.frame (W:Wst w h os fs) {a:Addr}(ha:a∈frA fs):∃o,h.get? a=some o/\∀vs,o.data≠ .fields vs:=by
 obtain⟨_,o,q,r⟩:=W.ff.mem ha
 exact⟨o,q,r⟩
theorem Wst.lt (W:Wst w h os fs) {p:Addr×Obj}(hp:p∈os):Nat.lt p.1 h.objs.size:=Heap.lt_size (W.at_ p hp)
theorem Wst.big (W:Wst w h os fs) {a:Addr}(ha:h.objs.size<=a):baseLook w.params a=none:=by
 cases q:baseLook w.params a with
 | none=>rfl
 | some o=>exact absurd (lt_of_lt_of_le (Heap.lt_size (W.top a o q)) ha) (lt_irrefl _)
theorem Wst.slotsFF (W:Wst w h os fs) (s:SlotsKept fs h h'):h'.FunFrames (hole h' (frA fs)) fs:=ff_to W.ff (fun a ha=>hole_none h' ha) s
theorem Wst.upd (W:Wst w h os fs){pre:List Addr}{xs:List (Addr×Obj)}(hp:∀a∈pre,a∈os.map (·.1)) (U:Upd fs pre xs h h')(nd:(os'.map (·.1)).Nodup)(hb:∀p∈os',p∈xs\/(p∈os/\p.1∉pre)):Wst w h' os' fs/\Wrel os os' fs h h':=by
 have nw:∀p∈os',p.1∈os.map (·.1)\/h.objs.size<=p.1:=fun p hp'=>by
  rcases hb p hp' with q | ⟨q,_⟩
  ·rcases U.off p q with r | r
   ·exact .inl (hp _ r)
   ·exact .inr r
  ·exact .inl (mem_fst q)
 have nbA:∀a∈os.map (·.1),baseLook w.params a=none:=fun a ha=>by obtain⟨o,q⟩:=fst_mem ha; exact W.nb _ q
 refine⟨⟨fun a o q=>?_,fun p hp'=>?_,nd,fun p hp'=>?_,W.slotsFF U.slots,fun a ha q=>?_,W.fnb⟩,U.size,fun b o q hb' hb''=>U.keep b o q (fun r=>hb' (hp _ r)) hb'',U.slots,nw⟩
 ·refine U.keep a o (W.top a o q) (fun r=>?_) fun r=>?_
  ·rw[nbA _ (hp _ r)] at q; cases q
  ·rw[W.fnb _ r] at q; cases q
 ·rcases hb p hp' with q | ⟨q,r⟩
  ·exact U.at_ p q
  ·exact U.keep p.1 p.2 (W.at_ p q) r fun z=>W.off _ z (mem_fst q)
 ·rcases nw p hp' with q | q
  ·exact nbA _ q
  ·exact W.big q
 ·obtain⟨o,q⟩:=fst_mem q
  rcases nw _ q with r | r
  ·exact W.off a ha r
  ·obtain⟨o',q',_⟩:=W.frame ha
   exact absurd (lt_of_lt_of_le (Heap.lt_size q') r) (lt_irrefl _)
theorem Wrel.trans (x:Wrel os os' fs h h') (y:Wrel os' os'' fs h' h''):Wrel os os'' fs h h'':=
 ⟨le_trans x.size y.size,fun b o q hb hb'=>y.keep b o (x.keep b o q hb hb') (fun r=>by
  obtain⟨o',r⟩:=fst_mem r
  rcases x.new _ r with z | z
  ·exact hb z
  ·exact absurd (lt_of_lt_of_le (Heap.lt_size q) z) (lt_irrefl _)) hb',x.slots.trans y.slots,fun p hp=>by
  rcases y.new p hp with z | z
  ·obtain⟨o',r⟩:=fst_mem z
   exact x.new (p.1,o') r
  ·exact .inr (le_trans x.size z)⟩
theorem Wrel.sub (x:Wrel os os' fs h h')(hs:∀p∈os'',p∈os'):Wrel os os'' fs h h':=⟨x.size,x.keep,x.slots,fun p hp=>x.new p (hs p hp)⟩
theorem Wst.sub (W:Wst w h os fs)(hs:∀p∈os',p∈os)(nd:(os'.map (·.1)).Nodup):Wst w h os' fs:=
 ⟨W.top,fun p hp=>W.at_ p (hs p hp),nd,fun p hp=>W.nb p (hs p hp),W.ff,fun a ha q=>by
  obtain⟨o,q⟩:=fst_mem q
  exact W.off a ha (mem_fst (hs _ q)),W.fnb⟩
theorem Wst.side {xs:List (Addr×Obj)} (W:Wst w h (xs++os) fs)(W':Wst w h' os' fs) (x:Wrel os os' fs h h'):Wst w h' (xs++os') fs/\Wrel (xs++os) (xs++os') fs h h':=by
 have nd:=W.nd
 rw[map_append] at nd
 obtain⟨n1,n2,n3⟩:=nodup_append.mp nd
 have xo:∀p∈xs,p.1∉os.map (·.1):=fun p hp q=>n3 _ (mem_fst hp) _ q rfl
 have xf:∀p∈xs,p.1∉frA fs:=fun p hp q=>W.off _ q (mem_fst (mem_append_left _ hp))
 have nw:∀p∈xs++os',p.1∈(xs++os).map (·.1)\/h.objs.size<=p.1:=fun p hp=>by
  rcases mem_append.mp hp with q | q
  ·exact .inl (mem_fst (mem_append_left _ q))
  ·rcases x.new p q with r | r
   ·exact .inl (by rw[map_append]; exact mem_append_right _ r)
   ·exact .inr r
 refine⟨⟨W'.top,fun p hp=>?_,?_,fun p hp=>?_,W'.ff,fun a ha q=>?_,W.fnb⟩,x.size,fun b o q hb hb'=>x.keep b o q (fun r=>hb (by rw[map_append]; exact mem_append_right _ r)) hb',x.slots,nw⟩
 ·rcases mem_append.mp hp with q | q
  ·exact x.keep _ _ (W.at_ p (mem_append_left _ q)) (xo p q) (xf p q)
  ·exact W'.at_ p q
 ·rw[map_append]
  refine nodup_append.mpr ⟨n1,W'.nd,fun a ha b hb e=>?_⟩
  subst e
  obtain⟨o,q⟩:=fst_mem ha
  obtain⟨o',r⟩:=fst_mem hb
  rcases x.new _ r with z | z
  ·exact xo _ q z
  ·exact absurd (lt_of_lt_of_le (W.lt (mem_append_left _ q)) z) (lt_irrefl _)
 ·rcases mem_append.mp hp with q | q
  ·exact W.nb p (mem_append_left _ q)
  ·exact W'.nb p q
 ·rw[map_append] at q
  rcases mem_append.mp q with r | r
  ·exact W.off a ha (by rw[map_append]; exact mem_append_left _ r)
  ·exact W'.off a ha r
theorem Wst.push {env:Env} {L:Addr} {o:Obj} (W:Wst w h ((L,o)::os) fs)(hL:env.frame=some L)(hm:env.scope.kind≠ .module)(ho:∀vs,o.data≠ .fields vs):Wst w h os (env::fs):=by
 have mL:frA (env::fs)=L::frA fs:=by unfold frA; rw[filterMap_cons,hL]
 have nd:=W.nd
 rw[map_cons] at nd
 obtain⟨n1,n2⟩:=nodup_cons.mp nd
 refine⟨W.top,fun p hp=>W.at_ p (.tail _ hp),n2,fun p hp=>W.nb p (.tail _ hp),⟨hm,⟨L,o,hL,hole_none h (by rw[mL]; exact .head _),W.at_ _ (.head _),ho⟩,ff_to W.ff (fun a ha=>hole_none h (by rw[mL]; exact .tail _ ha)) SlotsKept.refl⟩,fun a ha q=>?_,fun a ha=>?_⟩
 ·rw[mL] at ha
  rcases mem_cons.mp ha with r | r
  ·exact n1 (r▸q)
  ·exact W.off a r (.tail _ q)
 ·rw[mL] at ha
  rcases mem_cons.mp ha with r | r
  ·exact r▸W.nb _ (.head _)
  ·exact W.fnb a r
theorem Wst.pop {env:Env} {L:Addr} {o:Obj} (W:Wst w h ((L,o)::os) fs)(hL:env.frame=some L)(W':Wst w h' os' (env::fs)) (x:Wrel os os' (env::fs) h h'):∃sl,Wst w h' ((L,{o with slots:=sl})::os') fs/\Wrel ((L,o)::os) ((L,{o with slots:=sl})::os') fs h h':=by
 have mL:frA (env::fs)=L::frA fs:=by unfold frA; rw[filterMap_cons,hL]
 obtain⟨sl,q⟩:=x.slots L (by rw[mL]; exact .head _) o (W.at_ _ (.head _))
 have sk:SlotsKept fs h h':=fun a ha o q=>x.slots a (by rw[mL]; exact .tail _ ha) o q
 have Lf:L∉frA fs:=fun z=>W.off L z (.head _)
 refine⟨sl,⟨W'.top,fun p hp=>?_,?_,fun p hp=>?_,W.slotsFF sk,fun a ha z=>?_,W.fnb⟩,x.size,fun b o q hb hb'=>x.keep b o q (fun r=>hb (.tail _ r)) fun r=>?_,sk,fun p hp=>?_⟩
 ·rcases mem_cons.mp hp with rfl | hp
  ·exact q
  ·exact W'.at_ p hp
 ·rw[map_cons]
  exact nodup_cons.mpr ⟨W'.off L (by rw[mL]; exact .head _),W'.nd⟩
 ·rcases mem_cons.mp hp with rfl | hp
  ·exact W.nb (L,o) (.head _)
  ·exact W'.nb p hp
 ·rw[map_cons] at z
  rcases mem_cons.mp z with r | r
  ·have r':a=L:=r
   subst r'
   exact Lf ha
  ·exact W'.off a (by rw[mL]; exact .tail _ ha) r
 ·rw[mL] at r
  rcases mem_cons.mp r with r | r
  ·exact hb (r▸.head _)
  ·exact hb' r
 ·rcases mem_cons.mp hp with rfl | hp
  ·exact .inl (.head _)
  ·rcases x.new p hp with r | r
   ·exact .inl (.tail _ r)
   ·exact .inr r
end
def WeakC (w:World)(nd:Nat)(code:Code)(os:List (Addr×Obj))(res:Result) (Q:List (Addr×Obj)->Prop):Prop:=∀ (A:Around) (s:Shared)(fs:List Env),CtxOk A nd->A.frames=some fs->Wst w s.heap os fs->
 ∀R:Result->Shared->Prop,(∀h' t' os',Q os'->Wst w h' os' fs->Wrel os os' fs s.heap h'->R res ⟨h',s.gens,s.drawn,t',s.os⟩)->codeAny (model P02 w) A code R s
def fz0:Addr->Option Obj:=fun _=>none
theorem Wst.baseOk {w:World} {h:Heap}{os:List (Addr×Obj)}{fs:List Env} (W:Wst w h os fs):BaseOk w fz0 h:=⟨W.top,fun _ _ q=>nomatch q⟩
theorem Wst.apart {w:World} {h:Heap}{os:List (Addr×Obj)}{fs:List Env} (W:Wst w h os fs){pre:List (Addr×Obj)}(hp:∀p∈pre,p∈os)(nd:(pre.map (·.1)).Nodup):Apart w fz0 (pre.map (·.1)):=
 ⟨nd,fun a ha=>by obtain⟨o,q⟩:=fst_mem ha; exact W.nb _ (hp _ q),fun _ _=>rfl⟩
theorem Upd.of_at {w:World}{fz:Addr->Option Obj} {n:Nat}{pre:List Addr}{h h':Heap}{xs:List (Addr×Obj)} {z:Nat}{fs:List Env} (a:At w fz n pre h h' xs z)(hn:h.objs.size=n)(hf:∀a∈frA fs,a∉pre):Upd fs pre xs h h':=
 ⟨by rw[hn,a.size]; exact a.le,a.at_,fun p hp=>hn▸a.off p hp,fun b o q hb _=>a.keep b o q hb,fun b hb o q=>⟨o.slots,a.keep b o q (hf b hb)⟩⟩
theorem zipA_in:∀ {ps:List (Addr×Obj)}{os:List Obj} {p:Addr×Obj},p∈zipA ps os->p.1∈ps.map (·.1)
 | [],_,_,h=>by cases h
 | q::ps,[],_,h=>by cases h
 | q::ps,o::os,p,h=>by
  rcases mem_cons.mp (show p∈(q.1,o)::zipA ps os from h) with e | h
  ·exact e▸.head _
  ·exact .tail _ (zipA_in h)
theorem Upd.of_after {C:Con}{h h':Heap}{fs:List Env} (a:After C h h')(hn:h.objs.size=C.n)(hf:∀a∈frA fs,a∉C.pre.map (·.1)):Upd fs (C.pre.map (·.1)) (zipA C.pre C.post++C.news) h h':=
 have kp:∀b o,h.get? b=some o->b∉C.pre.map (·.1)->h'.get? b=some o:=fun b o q hb=>a.keep b o q fun p hp e=>hb (e▸mem_fst hp)
 ⟨by rw[hn,a.size]; exact le_add_right _ _,fun p hp=>(mem_append.mp hp).elim (a.post p) (a.news p),fun p hp=>by
  rcases mem_append.mp hp with q | q
  ·exact .inl (zipA_in q)
  ·exact .inr (hn▸a.fresh.2 p q),fun b o q hb _=>kp b o q hb,fun b hb o q=>⟨o.slots,kp b o q (hf b hb)⟩⟩
theorem Upd.of_wk {C:Con}{h h':Heap}{fs:List Env} (a:Wk C fs h h')(hn:h.objs.size=C.n):Upd fs (C.pre.map (·.1)) (zipA C.pre C.post++C.news) h h':=
 ⟨hn▸a.size,fun p hp=>(mem_append.mp hp).elim (a.post p) (a.news p),fun p hp=>by
  rcases mem_append.mp hp with q | q
  ·exact .inl (zipA_in q)
  ·exact .inr (hn▸a.fresh.2 p q),a.keep,a.slots⟩
end
section
noncomputable def restO (os:List (Addr×Obj))(as:List Addr):List (Addr×Obj):=os.filter fun p=>decide (p.1∉as)
theorem rest_mem {os:List (Addr×Obj)}{as:List Addr} {p:Addr×Obj}:p∈restO os as ↔ p∈os/\p.1∉as:=by unfold restO; rw[mem_filter,decide_eq_true_iff]
section
variable {w:World}{fs:List Env} {A:Around} {R:Result->Shared->Prop}{os:List (Addr×Obj)} {C:Con}{cons:List Con}{bs:List (Bool×Bool)}
theorem Wst.next {h h':Heap} (W:Wst w h os fs){pre:List Addr}{xs:List (Addr×Obj)}(hp:∀a∈pre,a∈os.map (·.1)) (U:Upd fs pre xs h h')(nx:(xs.map (·.1)).Nodup):Wst w h' (xs++restO os pre) fs/\Wrel os (xs++restO os pre) fs h h':=by
 refine W.upd hp U ?_ fun p hp'=>?_
 ·rw[map_append]
  refine nodup_append.mpr ⟨nx,W.nd.sublist ((List.filter_sublist).map _),fun a ha b hb e=>?_⟩
  subst e
  obtain⟨o,q⟩:=fst_mem ha
  obtain⟨o',r⟩:=fst_mem hb
  obtain⟨r1,r2⟩:=rest_mem.mp r
  rcases U.off _ q with z | z
  ·exact r2 z
  ·exact absurd (lt_of_lt_of_le (W.lt r1) z) (lt_irrefl _)
 ·rcases mem_append.mp hp' with q | q
  ·exact .inl q
  ·exact .inr (rest_mem.mp q)
theorem sub_fst {xs:List (Addr×Obj)}(hp:∀p∈xs,p∈os):∀a∈xs.map (·.1),a∈os.map (·.1):=fun a ha=>by obtain⟨o,q⟩:=fst_mem ha; exact mem_fst (hp _ q)
theorem Wst.offPre {h:Heap} (W:Wst w h os fs){xs:List (Addr×Obj)}(hp:∀p∈xs,p∈os):∀a∈frA fs,a∉xs.map (·.1):=fun a ha q=>W.off a ha (sub_fst hp a q)
theorem leg_start {N w0 u0:Nat}{hs:List Nat}(hk:and (Nat.ble C.code.weight w0) (Nat.ble C.code.cUnits u0)=true)(hm':Nat.ble C.pre.length 4000=true)
  (E:FineO (xOf w fz0 C cons [] N w0 u0 hs) bs) (hc:∀D∈cons,ConOk w fz0 D) (hb:∀b∈bs,b.1=b.2) {s:Shared} (hA:CtxOk A C.nd) (W:Wst w s.heap os fs) (hsz:s.heap.objs.size=C.n) (ht:s.toks=C.t) (hp:∀p∈C.pre,p∈os) (hnd:(C.pre.map (·.1)).Nodup)
  (F:FinOk (vOf w fz0 C cons []) (fxOf w fz0 C s.heap) A R s.gens s.drawn s.os (xOf w fz0 C cons [] N w0 u0 hs)):codeAny (model P02 w) A C.code R s:=
 have G:=began (le_of_ble_eq_true hm') (W.apart hp hnd) W.baseOk hsz (fun p q=>W.at_ p (hp p q))
 run_from (le_of_k hk) rfl (congrArg Prod.fst E) (congrArg Prod.snd E) hb hA hc nm ht G F
theorem leg_go {N:Nat}{hs:List Nat} {S:Stop} {r:Result}(hm':Nat.ble C.pre.length 4000=true)
  (E:FineO (runS (vOf w fz0 C cons []) N (cfGo S r C hs)) bs) (hc:∀D∈cons,ConOk w fz0 D) (hb:∀b∈bs,b.1=b.2) {s:Shared} (hA:CtxOk A C.nd) (W:Wst w s.heap os fs) (hsz:s.heap.objs.size=C.n) (ht:s.toks=C.t) (hp:∀p∈C.pre,p∈os) (hnd:(C.pre.map (·.1)).Nodup) (K:Keeps A S)
  (F:FxOk (fxOf w fz0 C s.heap)->FinOk (vOf w fz0 C cons []) (fxOf w fz0 C s.heap) A R s.gens s.drawn s.os (runS (vOf w fz0 C cons []) N (cfGo S r C hs))):MN w A R S.c S.κ (S.k r) s:=
 have G:=began (le_of_ble_eq_true hm') (W.apart hp hnd) W.baseOk hsz (fun p q=>W.at_ p (hp p q))
 go_from rfl (congrArg Prod.fst E) (congrArg Prod.snd E) hb hA hc nm ht G K (F G.ok)
variable {h₀:Heap} {g:Array GenState} {d:Drawn}{oss:OsState} {X:Out}
theorem cut_call {nd' z t:Nat}{js:List Nat}{c':Code}{xs:List (Addr×Obj)}{envs fsA:List Env} (E:callL C.nd nd' js X=callR c' xs z t envs bs X)(hi:js.Nodup)(hA:CtxOk A C.nd)(hf:A.frames=some fsA) (W:Wst w h₀ os fs)(hsz:h₀.objs.size=C.n)(hp:∀p∈C.pre,p∈os)
  (H:∀ (B:Around) (h:Heap),CtxOk B nd'->B.frames=some (envs++fsA)->Keeps A (tS X)->Wst w h (xs++restO os (C.pre.map (·.1))) fs->Wrel os (xs++restO os (C.pre.map (·.1))) fs h₀ h->h.objs.size=z->
   codeAny (model P02 w) B c' (fun r s'=>MN w A R (tS X).c (tS X).κ ((tS X).k r) s') ⟨h,g,d,t,oss⟩):FinOk (vOf w fz0 C cons []) (fxOf w fz0 C h₀) A R g d oss X:=
 fin_call E hi hA hf fun B h hB hBf K a=>
  have W':=W.next (sub_fst hp) (Upd.of_at a hsz (W.offPre hp)) a.nd
  H B h hB hBf K W'.1 W'.2 a.size
theorem Wst.same {h:Heap} (W:Wst w h os fs){p q:Addr×Obj}(hp:p∈os)(hq:q∈os) (e:p.1=q.1):p=q:=by
 have h1:=W.at_ p hp
 have h2:=W.at_ q hq
 rw[e,h2] at h1
 exact Prod.ext e (Option.some.inj h1).symm
theorem Wst.put {h h':Heap}{os' xs:List (Addr×Obj)}{pre:List Addr} (W:Wst w h os fs)(W':Wst w h' (xs++restO os pre) fs)(nd:os'.map (·.1)=os.map (·.1))(hs:∀p∈os',p∈xs\/p∈os/\p.1∉pre):Wst w h' os' fs:=
 W'.sub (fun p hp=>mem_append.mpr ((hs p hp).imp_right fun q=>rest_mem.mpr q)) (nd▸W.nd)
theorem Wrel.put {h h':Heap}{os' xs:List (Addr×Obj)}{pre:List Addr} (x:Wrel os (xs++restO os pre) fs h h')(hs:∀p∈os',p∈xs\/p∈os/\p.1∉pre):Wrel os os' fs h h':=
 x.sub fun p hp=>mem_append.mpr ((hs p hp).imp_right fun q=>rest_mem.mpr q)
theorem mem_idx {α:Type}{l xs:List α}{js:List Nat} (h:js.map (nthL l)=xs.map some):∀x∈xs,x∈l:=fun x hx=>by
 have:some x∈js.map (nthL l):=h▸mem_map.mpr ⟨x,hx,rfl⟩
 obtain⟨j,_,e⟩:=mem_map.mp this
 exact nthL_mem e
theorem after_nd {h h':Heap}(hn:(C.pre.map (·.1)).Nodup) (a:After C h h')(lt:∀p∈C.pre,Nat.lt p.1 C.n):((zipA C.pre C.post++C.news).map (·.1)).Nodup:=by
 rw[map_append]
 refine nodup_append.mpr ⟨?_,a.fresh.1,fun x hx y hy e=>?_⟩
 ·have:∀ (ps:List (Addr×Obj)) (os:List Obj),((zipA ps os).map (·.1)).Sublist (ps.map (·.1)):=fun ps=>by
   induction ps with
   | nil=>intro os; exact .slnil
   | cons p ps ih=>intro os; cases os with
    | nil=>exact List.nil_sublist _
    | cons o os=>exact(ih os).cons₂ _
  exact hn.sublist (this _ _)
 ·subst e
  obtain⟨o,q⟩:=fst_mem hx
  obtain⟨o',r⟩:=fst_mem hy
  obtain⟨o'',z⟩:=fst_mem (zipA_in q)
  exact absurd (lt_of_lt_of_le (lt _ z) (a.fresh.2 _ r)) (lt_irrefl _)
theorem Wst.after {h':Heap} (W:Wst w h₀ os fs)(hsz:h₀.objs.size=C.n)(hp:∀p∈C.pre,p∈os)(hnd:(C.pre.map (·.1)).Nodup) (a:After C h₀ h'):
  Wst w h' ((zipA C.pre C.post++C.news)++restO os (C.pre.map (·.1))) fs/\Wrel os ((zipA C.pre C.post++C.news)++restO os (C.pre.map (·.1))) fs h₀ h':=
 W.next (sub_fst hp) (Upd.of_after a hsz (W.offPre hp)) (after_nd hnd a fun p q=>hsz▸W.lt (hp p q))
theorem cut_done {ze te:Nat}{ni:List Nat}(E1:outOf C.pre.length ni X=some (C.res,stTo C ze te))(hz:ze=C.n+C.dm)(ht:te=C.t+C.dt)(hi:incr ni C.pre.length=true) (W:Wst w h₀ os fs)(hsz:h₀.objs.size=C.n)(hp:∀p∈C.pre,p∈os)(hnd:(C.pre.map (·.1)).Nodup)
  (H:∀h',Wst w h' ((zipA C.pre C.post++C.news)++restO os (C.pre.map (·.1))) fs->Wrel os ((zipA C.pre C.post++C.news)++restO os (C.pre.map (·.1))) fs h₀ h'->R C.res ⟨h',g,d,C.t+C.dt,oss⟩):FinOk (vOf w fz0 C cons []) (fxOf w fz0 C h₀) A R g d oss X:=
 fin_done E1 hz ht hi fun h' a=>have W':=W.after hsz hp hnd a; H h' W'.1 W'.2
theorem cut_again {c':Code}{ze te:Nat}{ni:List Nat}(E1:agOf C.pre.length ni X=some (c',stTo C ze te))(hz:ze=C.n+C.dm)(ht:te=C.t+C.dt)(hi:incr ni C.pre.length=true) (W:Wst w h₀ os fs)(hsz:h₀.objs.size=C.n)(hp:∀p∈C.pre,p∈os)(hnd:(C.pre.map (·.1)).Nodup)
  (H:∀h',Wst w h' ((zipA C.pre C.post++C.news)++restO os (C.pre.map (·.1))) fs->Wrel os ((zipA C.pre C.post++C.news)++restO os (C.pre.map (·.1))) fs h₀ h'->codeAny (model P02 w) A c' R ⟨h',g,d,C.t+C.dt,oss⟩):FinOk (vOf w fz0 C cons []) (fxOf w fz0 C h₀) A R g d oss X:=
 fin_again E1 hz ht hi fun h' a=>have W':=W.after hsz hp hnd a; H h' W'.1 W'.2
end
end
section
open PySem.SeqAt PySem.MeetsSeq
structure SameI (xs ys:List Value):Prop where
 eq:xs.map intV=ys.map intV
 h1:∀v∈xs,IsI v
 h2:∀v∈ys,IsI v
theorem SameI.at_ {xs ys:List Value} (h:SameI xs ys) {A:Around} {s:Shared} (j:Nat)(g1:j < xs.toArray.size)(g2:j < ys.toArray.size):EqAt A s xs.toArray[j] ys.toArray[j] true:=by
 have g1':j < xs.length:=g1
 have g2':j < ys.length:=g2
 show EqAt A s xs[j] ys[j] true
 obtain⟨z,t,e1⟩:=h.h1 _ (getElem_mem g1')
 obtain⟨z',t',e2⟩:=h.h2 _ (getElem_mem g2')
 have e:(xs.map intV)[j]?=(ys.map intV)[j]?:=by rw[h.eq]
 rw[getElem?_map,getElem?_map,List.getElem?_eq_getElem g1',List.getElem?_eq_getElem g2',Option.map_some,Option.map_some,e1,e2] at e
 have e:z=z':=Option.some.inj e
 subst e
 rw[e1,e2]
 exact eq_same z t t'
theorem SameI.len {xs ys:List Value} (h:SameI xs ys):xs.length=ys.length:=by
 have:=congrArg List.length h.eq
 rwa [length_map,length_map] at this
theorem all_t (n:Nat):((List.range n).all fun _=>true)=true:=List.all_eq_true.mpr fun _ _=>rfl
section
variable {w:World}{fz:Addr->Option Obj}
theorem act_neS {a b:Addr}{xs ys:List Value}{e e':Nat} (h:SameI xs ys):ActOk w fz [(a,oL0 xs e),(b,oL0 ys e')] (tCmp .NotEq (.ref a) (.ref b)) (.bool false):=by
 intro B s Q E hu hh hB hp nd hq
 have ha:=hp _ (.head _)
 have hb:=hp _ (.tail _ (.head _))
 rw[tCmp_eq]
 refine wpAny_operateT ?_
 show wpAny _ _ (richCompare .NotEq (.ref a) (.ref b)) _ _ s
 exact richCompare_meets_room (op:=.NotEq) ⟨_,ha,rfl⟩ ⟨_,hb,rfl⟩ F.slot_list_ne F.entry_list_ne (F.args_list_ne_2 _ _) (mine_ne a b xs.toArray ys.toArray e e' h.len)
  ⟨ha,hb,fun j g1 g2=>h.at_ j g1 g2,show Value.bool false≠Value.notImplemented/\_ from⟨(fun x=>nomatch x),hq⟩⟩ (u_lt hu)
theorem act_neN {a b x1 x2 y1 y2:Addr}{xs ys xs' ys':List Value}{e e':Nat}{e1 e2 e3 e4:Nat} (h:SameI xs ys)(h':SameI xs' ys'):
  ActOk w fz [(x1,oL0 xs e1),(x2,oL0 xs' e2),(a,oL [.ref x1,.ref x2] e),(y1,oL0 ys e3),(y2,oL0 ys' e4),(b,oL [.ref y1,.ref y2] e')] (tCmp .NotEq (.ref a) (.ref b)) (.bool false):=by
 intro B s Q E hu hh hB hp nd hq
 have p1:=hp _ (.head _)
 have p2:=hp _ (.tail _ (.head _))
 have p3:=hp _ (.tail _ (.tail _ (.head _)))
 have p4:=hp _ (.tail _ (.tail _ (.tail _ (.head _))))
 have p5:=hp _ (.tail _ (.tail _ (.tail _ (.tail _ (.head _)))))
 have p6:=hp _ (.tail _ (.tail _ (.tail _ (.tail _ (.tail _ (.head _))))))
 simp only[map_cons,map_nil,nodup_cons,mem_cons,not_or] at nd
 rw[tCmp_eq]
 refine wpAny_operateT ?_
 show wpAny _ _ (richCompare .NotEq (.ref a) (.ref b)) _ _ s
 refine richCompare_meets_room (op:=.NotEq) ⟨_,p3,rfl⟩ ⟨_,p6,rfl⟩ F.slot_list_ne F.entry_list_ne (F.args_list_ne_2 _ _) (mine_ne a b #[.ref x1,.ref x2] #[.ref y1,.ref y2] e e' rfl)
  ⟨p3,p6,fun j g1 g2=>?_,show Value.bool false≠Value.notImplemented/\_ from⟨(fun x=>nomatch x),hq⟩⟩ (u_lt hu)
 have g1:j < 2:=g1
 have ui:B.in1.units < cLine:=u_in hu
 match j,g1,g2 with
 | 0,_,_=>
  show EqAt _ _ (.ref x1) (.ref y1) true
  have z:=RcAt.lists (A:=B.in1) (e:=fun _=>true) (isL p1) (isL p4) h.len ui fun j g1 g2=>h.at_ j g1 g2
  rw[all_t] at z
  exact EqAt.of_refs nd.1.2.2.1 z
 | 1,_,_=>
  show EqAt _ _ (.ref x2) (.ref y2) true
  have z:=RcAt.lists (A:=B.in1) (e:=fun _=>true) (isL p2) (isL p5) h'.len ui fun j g1 g2=>h'.at_ j g1 g2
  rw[all_t] at z
  exact EqAt.of_refs nd.2.1.2.2.1 z
end
theorem sort_same {xs ys:List Value} (h:SameI xs ys)(nd:(xs.map intV).Nodup):SameI (sortV xs) (sortV ys):=by
 refine⟨?_,fun v hv=>h.h1 v ((sortV_perm xs).mem_iff.mp hv),fun v hv=>h.h2 v ((sortV_perm ys).mem_iff.mp hv)⟩
 have pr:((sortV xs).map intV).Perm ((sortV ys).map intV):=(((sortV_perm xs).map intV).trans (by rw[h.eq])).trans ((sortV_perm ys).map intV).symm
 have s1:((sortV xs).map intV).Pairwise (·<=·):=List.pairwise_map.mpr (sortV_pair xs)
 have s2:((sortV ys).map intV).Pairwise (·<=·):=List.pairwise_map.mpr (sortV_pair ys)
 exact pr.eq_of_pairwise (fun a b _ _ h1 h2=>Int.le_antisymm h1 h2) s1 s2
end
section
structure Cst where
 (sk sd lm lmd tb td cn ls sl ln po pd tk bk hd hr:Addr)
 (K k T q1 q2 q3 q4 tf tl tm m:Nat)
structure Lk where
 (r I z:Int)
 (N M tr ud ta tb tc tz th tv:Nat)
structure Ls where
 (p z:Int)
 (N M ta tp tm tz th tv:Nat)
inductive TabS where
 | t0
 | t1 (cl NL ML:Nat)
 | t2 (cl NL ML cm NM MM:Nat)
structure Sg where
 (iss g x a:Int)
 (ti tg tx ta e1 e2 e3 e4 e5 eb f1 f2:Nat)
 (us:List Lk)
 (vs:List Ls)
 (tab:TabS)
def TabS.obj:TabS->Obj
 | .t0=>oF []
 | .t1 cl _ _=>tabL cl []
 | .t2 cl _ _ cm _ _=>tabL cl [.int 989 0,.int 37 0,.ref cm]
def TabS.codes:TabS->List (Addr×Obj)
 | .t0=>[]
 | .t1 cl NL ML=>[(cl,lamC NL ML 983)]
 | .t2 cl NL ML cm NM MM=>[(cl,lamC NL ML 983),(cm,lamD NM MM 989)]
noncomputable def Sg.lt (σ:Sg):List Ent:=σ.us.map fun u=>(u.r,u.tr,.bool true)
noncomputable def Sg.lc (σ:Sg):List Ent:=σ.us.map fun u=>(u.r,u.N+59,.int u.z u.tz)
noncomputable def Sg.lk (σ:Sg):List Ent:=σ.us.map fun u=>(u.z,u.tz,.ref (u.N+61))
noncomputable def Sg.bh (σ:Sg):List Ent:=σ.us.map fun u=>(u.z,u.th,.int u.r u.tv)
noncomputable def Sg.ll (σ:Sg):List Ent:=σ.vs.map fun v=>(v.p,v.N+5,.int v.z v.tz)
noncomputable def Sg.lh (σ:Sg):List Ent:=σ.vs.map fun v=>(v.z,v.tz,.ref (v.N+7))
noncomputable def Sg.br (σ:Sg):List Ent:=σ.vs.map fun v=>(v.z,v.th,.int v.p v.tv)
def keyL (v:Ls):List (Addr×Obj):=[(v.N+5,oT [.int 0 v.ta,.int v.p v.tp])]
def core (w:World) (c:Cst) (σ:Sg):List (Addr×Obj):=
 allO w c.sk c.sd c.lm c.tb c.td c.cn c.ls c.sl c.ln c.po c.pd c.tk c.T σ.iss σ.ti σ.g σ.tg (28+(c.m:Int)) σ.x c.tf c.tl σ.tx σ.lt σ.e1 σ.lc σ.e2 σ.ll σ.e3 σ.lk σ.e4 σ.lh σ.e5
  ++[(c.bk,dD (dSt w (bkL c.q1 c.q2 c.q3 c.q4 (c.m:Int) c.tm σ.a σ.ta c.hd c.hr)) σ.eb),(c.hd,dD (dI σ.bh) σ.f1),(c.hr,dD (dI σ.br) σ.f2)]
def lkO (w:World) (c:Cst) (u:Lk):List (Addr×Obj):=linkO w u.N u.M c.lm c.k u.I u.r u.tr u.ud
def lkK (u:Lk):List (Addr×Obj):=keyO u.N u.r u.tr u.ta u.tb u.tc
def lsO (w:World) (v:Ls):List (Addr×Obj):=lisO w v.N v.M v.p v.ta v.tp v.tm
def limO (w:World) (c:Cst):List (Addr×Obj):=[(c.lm,oI 953 c.lmd),(c.lmd,oLm w c.K c.k)]
def frzO (w:World) (c:Cst) (σ:Sg):List (Addr×Obj):=limO w c++σ.tab.codes++σ.us.flatMap lkK++σ.vs.flatMap keyL
def objs (w:World) (c:Cst) (σ:Sg):List (Addr×Obj):=core w c σ++((1470,σ.tab.obj)::(σ.us.flatMap (lkO w c)++σ.vs.flatMap (lsO w)++frzO w c σ))
def TabS.set:TabS->Bool
 | .t0=>false
 | _=>true
def tabFit (σ:Sg):Prop:=match σ.tab with
 | .t0=>σ.us= []/\σ.vs= []
 | .t1 ..=>σ.vs= []
 | .t2 ..=>True
structure Inv (c:Cst) (σ:Sg) (k:Nat):Prop where
 m2:2<=c.m
 m6:c.m<=6
 hk:k<=20
 xa:σ.x=σ.a
 x1:29<=σ.x
 x2:σ.x<=28+(c.m:Int)
 g0:0<=σ.g
 gk:σ.g<=k
 i0:0<=σ.iss
 ik:σ.iss<=5+65 * (k:Int)
 ur:∀u∈σ.us,29<=u.r/\u.r<=28+(c.m:Int)
 und:(σ.us.map (·.r)).Nodup
 vnd:(σ.vs.map (·.p)).Nodup
 znd:(σ.us.map (·.z)++σ.vs.map (·.z)).Nodup
 uz:∀u∈σ.us,u.z<=σ.g
 vz:∀v∈σ.vs,v.z<=σ.g
 uI:∀u∈σ.us,0<=u.I/\u.I<=σ.iss/\u.I+1≠σ.iss
 ind:(σ.us.map (·.I)).Nodup
 ul:σ.us.length<=k
 vl:σ.vs.length<=k
 tb:tabFit σ
section
variable {c:Cst} {σ:Sg} {k:Nat} (I:Inv c σ k)
include I
theorem Inv.k1:(σ.lt.map (·.1)).Nodup:=by unfold Sg.lt; rw[map_map]; exact I.und
theorem Inv.k2:(σ.lc.map (·.1)).Nodup:=by unfold Sg.lc; rw[map_map]; exact I.und
theorem Inv.k3:(σ.ll.map (·.1)).Nodup:=by unfold Sg.ll; rw[map_map]; exact I.vnd
theorem Inv.uzn:(σ.us.map (·.z)).Nodup:=(nodup_append.mp I.znd).1
theorem Inv.vzn:(σ.vs.map (·.z)).Nodup:=(nodup_append.mp I.znd).2.1
theorem Inv.k4:(σ.lk.map (·.1)).Nodup:=by unfold Sg.lk; rw[map_map]; exact I.uzn
theorem Inv.k5:(σ.lh.map (·.1)).Nodup:=by unfold Sg.lh; rw[map_map]; exact I.vzn
theorem Inv.k6:(σ.bh.map (·.1)).Nodup:=by unfold Sg.bh; rw[map_map]; exact I.uzn
theorem Inv.k7:(σ.br.map (·.1)).Nodup:=by unfold Sg.br; rw[map_map]; exact I.vzn
theorem Inv.ul2:σ.us.length<=20:=le_trans I.ul I.hk
theorem Inv.vl2:σ.vs.length<=20:=le_trans I.vl I.hk
end
theorem keysV_at {α:Type} (l:List α) (f:α->Int) (g:α->Nat) (v:α->Value):keysV (l.map fun x=>(f x,g x,v x))=l.map fun x=>.int (f x) (g x):=by unfold keysV; rw[map_map]; rfl
theorem valsV_at {α:Type} (l:List α) (f:α->Int) (g:α->Nat) (v:α->Value):valsV (l.map fun x=>(f x,g x,v x))=l.map v:=by unfold valsV; rw[map_map]; rfl
theorem same_ints {α:Type} (l:List α) (f:α->Int)(g g':α->Nat):SameI (l.map fun x=>.int (f x) (g x)) (l.map fun x=>.int (f x) (g' x)):=
 ⟨by rw[map_map,map_map]; rfl,fun v hv=>by obtain⟨x,_,rfl⟩:=mem_map.mp hv; exact⟨_,_,rfl⟩,fun v hv=>by obtain⟨x,_,rfl⟩:=mem_map.mp hv; exact⟨_,_,rfl⟩⟩
theorem ints_of {α:Type} (l:List α) (f:α->Int) (g:α->Nat):(l.map fun x=>Value.int (f x) (g x)).map intV=l.map f:=by rw[map_map]; rfl
end
section
def fr4 (w:World)(u1 u2 u3 u4:Nat) (m:Int)(tm:Nat)(dl sk bk:Addr)(sl:Array (Option Value)):Obj:={oX w.params "frame" 4 [("many",u1,.int m tm),("deeds",u2,.ref dl),("sockets",u3,.ref sk),("book",u4,.ref bk)] with slots:=sl}
def fr6 (w:World)(u1 u2 u3 u4:Nat) (m:Int)(tm:Nat)(dl sk bk:Addr)(u5:Nat)(v5:Value)(u6:Nat)(v6:Value)(sl:Array (Option Value)):Obj:={oX w.params "frame" 6 [("many",u1,.int m tm),("deeds",u2,.ref dl),("sockets",u3,.ref sk),("book",u4,.ref bk),("way",u5,v5),("port",u6,v6)] with slots:=sl}
def frB (fb:Bool) (w:World)(u1 u2 u3 u4:Nat) (m:Int)(tm:Nat)(dl sk bk:Addr)(u5:Nat)(v5:Value)(u6:Nat)(v6:Value)(sl:Array (Option Value)):Obj:=match fb with
 | true=>fr6 w u1 u2 u3 u4 m tm dl sk bk u5 v5 u6 v6 sl
 | false=>fr4 w u1 u2 u3 u4 m tm dl sk bk sl
def tokB (fb:Bool)(u t:Nat):Nat:=match fb with
 | true=>u
 | false=>t
def rt_g:List Nat:=hx 48 [0x1cbf7aac5fb6c85434eb3f096fa24553066f12fd0ca20ba7a411733b9db52dedf2bcfdedb33b0c3]
def rt_h0:List Nat:=hx 69 [0x4c80fdcb0d8999c96fded0dee66ca9dad18ae5b5eb2c764d6b6276a2142583d88c2ac3a5baaa0a89260814]
def rt_h1:List Nat:=hx 14 [0x15e4edc1bf090f600e03938155df5f67b934c77d9ae35ddd7af3980049ecb0]
def rt_c (w:World)(n t:Nat)(L it dl sk bk tu:Addr)(ds:List Value)(ep i:Nat)(u1 u2 u3 u4:Nat) (m:Int)(tm:Nat)(s1:Str)(tw:Nat) (p:Int)(tp:Nat)(sl0:Array (Option Value))(u5 u6:Nat)(v5 v6:Value)(fb:Bool):Con:=⟨rgF w L it,n,t,[(L,frB fb w u1 u2 u3 u4 m tm dl sk bk u5 v5 u6 v6 sl0),(it,lIt dl i),(dl,oL0 ds ep),(tu,oT [.str s1 tw,.int p tp])],[],[],.ok .next,0,0,16⟩
def rt_X (w:World)(n t:Nat)(L it dl sk bk tu:Addr)(ds:List Value)(ep i:Nat)(u1 u2 u3 u4:Nat) (m:Int)(tm:Nat)(s1:Str)(tw:Nat) (p:Int)(tp:Nat)(sl0:Array (Option Value))(u5 u6:Nat)(v5 v6:Value)(fb:Bool)(ba bb:Bool):Out:=xOf (wR w ba bb) fz0 (rt_c w n t L it dl sk bk tu ds ep i u1 u2 u3 u4 m tm s1 tw p tp sl0 u5 u6 v5 v6 fb) [cNextL n t it dl i ds ep (.ref tu)] [] 84 0 0 rt_g
def rtCall (sk bk:Addr)(s1:Str)(tw:Nat) (p:Int)(tp:Nat):Code:=Code.call (.ref 1473) ⟨[.ref sk,.ref bk,.str s1 tw,.int p tp],[]⟩
theorem rt_1 (w:World)(n t:Nat)(L it dl sk bk tu:Addr)(ds:List Value)(ep i:Nat)(u1 u2 u3 u4:Nat) (m:Int)(tm:Nat)(s1:Str)(tw:Nat) (p:Int)(tp:Nat)(sl0:Array (Option Value))(u5 u6:Nat)(v5 v6:Value)(fb:Bool)(ba bb:Bool):callL 16 16 [0,1,2,3] (rt_X w n t L it dl sk bk tu ds ep i u1 u2 u3 u4 m tm s1 tw p tp sl0 u5 u6 v5 v6 fb ba bb)=
  callR (rtCall sk bk s1 tw p tp) [(L,fr6 w u1 u2 u3 u4 m tm dl sk bk (tokB fb u5 t) (.str s1 tw) (tokB fb u6 (t+1)) (.int p tp) sl0),(it,lIt dl (i+1)),(dl,oL0 ds ep),(tu,oT [.str s1 tw,.int p tp])] (n+3) (t+2) [] [] (rt_X w n t L it dl sk bk tu ds ep i u1 u2 u3 u4 m tm s1 tw p tp sl0 u5 u6 v5 v6 fb ba bb):=by
 cases fb<;>cases ba<;>cases bb<;>kernel_rfl
def rt2_pre (w:World) (c:Cst) (σ:Sg):List (Addr×Obj):=[(c.sk,oI 1431 c.sd),(c.sd,oSd w c.T c.lm c.po c.tb c.sl c.ln σ.iss σ.ti σ.g σ.tg),(c.po,oI 161 c.pd),(c.pd,oPd w (c.T+8) c.tk (28+(c.m:Int)) σ.x c.tf c.tl σ.tx),(c.tk,dD (dI σ.lt) σ.e1),(c.ln,dD (dI σ.lk) σ.e4),(c.sl,dD (dI σ.lh) σ.e5),(c.bk,dD (dSt w (bkL c.q1 c.q2 c.q3 c.q4 (c.m:Int) c.tm σ.a σ.ta c.hd c.hr)) σ.eb),(c.hd,dD (dI σ.bh) σ.f1),(c.hr,dD (dI σ.br) σ.f2)]
def rt2_c (w:World)(n' t':Nat) (L:Addr) (o:Obj)(ys:List (Addr×Obj)):Con:=⟨.block [] default,n',t',(L,o)::ys,o::ys.map (·.2),[],.ok .next,45,10,16⟩
def rt2_k (w:World)(n' t':Nat) (c:Cst) (σ:Sg):List Con:=[cSorted n' (t'+2) c.tk [(c.tk,dD (dI σ.lt) σ.e1)] (keysV σ.lt),cGetS w (n'+7) (t'+3) c.bk (bkL c.q1 c.q2 c.q3 c.q4 (c.m:Int) c.tm σ.a σ.ta c.hd c.hr) σ.eb (Str.ofString "held") (t'+2) (Value.ref c.hd),cVals (n'+7) (t'+4) c.hd (dI σ.bh) σ.f1,cSorted (n'+8) (t'+4) (n'+7) [(n'+7,oVw c.hd),(c.hd,dD (dI σ.bh) σ.f1)] (valsV σ.bh),cSorted (n'+15) (t'+5) c.ln [(c.ln,dD (dI σ.lk) σ.e4)] (keysV σ.lk),cSorted (n'+22) (t'+6) c.sl [(c.sl,dD (dI σ.lh) σ.e5)] (keysV σ.lh),cGetS w (n'+30) (t'+7) c.bk (bkL c.q1 c.q2 c.q3 c.q4 (c.m:Int) c.tm σ.a σ.ta c.hd c.hr) σ.eb (Str.ofString "held") (t'+6) (Value.ref c.hd),cSorted (n'+30) (t'+8) c.hd [(c.hd,dD (dI σ.bh) σ.f1)] (keysV σ.bh),cGetS w (n'+37) (t'+9) c.bk (bkL c.q1 c.q2 c.q3 c.q4 (c.m:Int) c.tm σ.a σ.ta c.hd c.hr) σ.eb (Str.ofString "heard") (t'+8) (Value.ref c.hr),cSorted (n'+37) (t'+10) c.hr [(c.hr,dD (dI σ.br) σ.f2)] (keysV σ.br)]
def rt_C2 (w:World)(n' t':Nat)(L dl:Addr) (c:Cst) (σ:Sg)(u1 u2 u3 u4 u5 u6:Nat)(v5 v6:Value)(sl:Array (Option Value)):Con:=rt2_c w n' t' L (fr6 w u1 u2 u3 u4 (c.m:Int) c.tm dl c.sk c.bk u5 v5 u6 v6 sl) (rt2_pre w c σ)
section
variable (w:World)(n t:Nat)(L it dl tu:Addr)(ds:List Value)(ep i:Nat)(u1 u2 u3 u4:Nat) (c:Cst)(s1:Str)(tw:Nat) (p:Int)(tp:Nat)(sl0:Array (Option Value))(u5 u6:Nat)(v5 v6:Value)(fb ba bb:Bool)(n' t':Nat) (σ:Sg)(y5 y6:Nat)(x5 x6:Value)(sl:Array (Option Value))
def rt_S:Stop:=tS (rt_X w n t L it dl c.sk c.bk tu ds ep i u1 u2 u3 u4 (c.m:Int) c.tm s1 tw p tp sl0 u5 u6 v5 v6 fb ba bb)
def rt_Y:Out:=runS (vOf (wR w ba bb) fz0 (rt_C2 w n' t' L dl c σ u1 u2 u3 u4 y5 y6 x5 x6 sl) (rt2_k w n' t' c σ) []) 71 (cfGo (rt_S w n t L it dl tu ds ep i u1 u2 u3 u4 c s1 tw p tp sl0 u5 u6 v5 v6 fb ba bb) (.ok (.ret (.bool true))) (rt_C2 w n' t' L dl c σ u1 u2 u3 u4 y5 y6 x5 x6 sl) rt_h0)
abbrev rt_V:Vx:=⟨wR w ba bb,fz0,16,rt2_k w n' t' c σ,[]⟩
abbrev rt_a1:Sem Value:=tCmp .NotEq (.ref (n'+4)) (.ref (n'+8+4))
abbrev rt_a2:Sem Value:=tCmp .NotEq (.ref (n'+29)) (.ref (n'+44))
abbrev rt_x (j:Nat) (m:Sem Value):Sem Fin:=xForIf (rgF w L it) (rgE w L) (rgB w) j m
def rt_l1:List (Addr×Obj):=[(n'+4,oL0 (sortV (keysV σ.lt)) (sEp (keysV σ.lt))),(n'+8+4,oL0 (sortV (valsV σ.bh)) (sEp (valsV σ.bh)))]
def rt_l2:List (Addr×Obj):=[(n'+19,oL0 (sortV (keysV σ.lk)) (sEp (keysV σ.lk))),(n'+26,oL0 (sortV (keysV σ.lh)) (sEp (keysV σ.lh))),(n'+29,oL [.ref (n'+19),.ref (n'+26)] 0),(n'+34,oL0 (sortV (keysV σ.bh)) (sEp (keysV σ.bh))),(n'+41,oL0 (sortV (keysV σ.br)) (sEp (keysV σ.br))),(n'+44,oL [.ref (n'+34),.ref (n'+41)] 0)]
theorem rt_2:FineO (rt_Y w n t L it dl tu ds ep i u1 u2 u3 u4 c s1 tw p tp sl0 u5 u6 v5 v6 fb ba bb n' t' σ y5 y6 x5 x6 sl) []/\siteL (rt_V w c ba bb n' t' σ) (rt_Y w n t L it dl tu ds ep i u1 u2 u3 u4 c s1 tw p tp sl0 u5 u6 v5 v6 fb ba bb n' t' σ y5 y6 x5 x6 sl) [11,13]=siteR (rt_x w L it 1 (rt_a1 n')) (rt_l1 n' σ):=
 ⟨by cases fb<;>cases ba<;>cases bb<;>kernel_rfl,by cases fb<;>cases ba<;>cases bb<;>kernel_rfl⟩
def rt_Z:Out:=goOn1 (rt_V w c ba bb n' t' σ) 84 (rt_Y w n t L it dl tu ds ep i u1 u2 u3 u4 c s1 tw p tp sl0 u5 u6 v5 v6 fb ba bb n' t' σ y5 y6 x5 x6 sl) (rt_x w L it 1 (.pure (.bool false))) rt_h1
theorem rt_3:FineO (rt_Z w n t L it dl tu ds ep i u1 u2 u3 u4 c s1 tw p tp sl0 u5 u6 v5 v6 fb ba bb n' t' σ y5 y6 x5 x6 sl) []/\siteL (rt_V w c ba bb n' t' σ) (rt_Z w n t L it dl tu ds ep i u1 u2 u3 u4 c s1 tw p tp sl0 u5 u6 v5 v6 fb ba bb n' t' σ y5 y6 x5 x6 sl) [14,15,16,17,18,19]=siteR (rt_x w L it 2 (rt_a2 n')) (rt_l2 n' σ):=
 ⟨by cases fb<;>cases ba<;>cases bb<;>kernel_rfl,by cases fb<;>cases ba<;>cases bb<;>kernel_rfl⟩
def rt_W:Out:=goOn1 (rt_V w c ba bb n' t' σ) 20 (rt_Z w n t L it dl tu ds ep i u1 u2 u3 u4 c s1 tw p tp sl0 u5 u6 v5 v6 fb ba bb n' t' σ y5 y6 x5 x6 sl) (rt_x w L it 2 (.pure (.bool false))) [1]
theorem rt_4:FineO (rt_W w n t L it dl tu ds ep i u1 u2 u3 u4 c s1 tw p tp sl0 u5 u6 v5 v6 fb ba bb n' t' σ y5 y6 x5 x6 sl) []/\agOf (rt_C2 w n' t' L dl c σ u1 u2 u3 u4 y5 y6 x5 x6 sl).pre.length [] (rt_W w n t L it dl tu ds ep i u1 u2 u3 u4 c s1 tw p tp sl0 u5 u6 v5 v6 fb ba bb n' t' σ y5 y6 x5 x6 sl)=some (rgF w L it,stTo (rt_C2 w n' t' L dl c σ u1 u2 u3 u4 y5 y6 x5 x6 sl) (n'+45) (t'+10)):=
 ⟨by cases fb<;>cases ba<;>cases bb<;>kernel_rfl,by cases fb<;>cases ba<;>cases bb<;>kernel_rfl⟩
end
end
section
theorem core_sub {w:World} {c:Cst} {σ:Sg}:∀p∈core w c σ,p∈objs w c σ:=fun p hp=>mem_append_left _ hp
theorem rt2_sub {w:World} {c:Cst} {σ:Sg}:∀p∈rt2_pre w c σ,p∈core w c σ:=mem_idx (js:=[0,1,2,3,4,9,10,11,12,13]) rfl
theorem objs_nd {w W:World} {c:Cst} {σ:Sg} {h:Heap}{fs:List Env}{xs:List (Addr×Obj)}(W1:Wst W h (xs++objs w c σ) fs):((objs w c σ).map (·.1)).Nodup:=by
 have:=W1.nd
 rw[map_append] at this
 exact(nodup_append.mp this).2.1
theorem core_nd {w W:World} {c:Cst} {σ:Sg} {h:Heap}{fs:List Env}(W1:Wst W h (objs w c σ) fs):((core w c σ).map (·.1)).Nodup:=by
 have:=W1.nd
 unfold objs at this
 rw[map_append] at this
 exact(nodup_append.mp this).1
theorem rt2_nd {w:World} {c:Cst} {σ:Sg} (h:((core w c σ).map (·.1)).Nodup):((rt2_pre w c σ).map (·.1)).Nodup:=by
 have:((rt2_pre w c σ).map (·.1)).Sublist ((core w c σ).map (·.1)):=by
  refine List.Sublist.map _ ?_
  unfold rt2_pre core allO skO
  refine .cons_cons _ (.cons_cons _ (.cons_cons _ (.cons_cons _ (.cons_cons _ (.cons _ (.cons _ (.cons _ (.cons _ ?_))))))))
  exact List.Sublist.refl _
 exact h.sublist this
theorem map_le {α β:Type} {f:α->β} {l:List α} (h:l.length<=20):(l.map f).length<=60:=by rw[length_map]; omega
section
variable {w:World}{ba bb:Bool} {c:Cst} {σ:Sg} {k:Nat} (I:Inv c σ k)
include I
theorem Inv.s1:SameI (sortV (keysV σ.lt)) (sortV (valsV σ.bh)):=by
 unfold Sg.lt Sg.bh
 rw[keysV_at,valsV_at]
 exact sort_same (same_ints _ _ _ _) (by rw[ints_of]; exact I.und)
theorem Inv.s2:SameI (sortV (keysV σ.lk)) (sortV (keysV σ.bh)):=by
 unfold Sg.lk Sg.bh
 rw[keysV_at,keysV_at]
 exact sort_same (same_ints _ _ _ _) (by rw[ints_of]; exact I.uzn)
theorem Inv.s3:SameI (sortV (keysV σ.lh)) (sortV (keysV σ.br)):=by
 unfold Sg.lh Sg.br
 rw[keysV_at,keysV_at]
 exact sort_same (same_ints _ _ _ _) (by rw[ints_of]; exact I.vzn)
theorem rt2_k_ok (n' t':Nat):∀D∈rt2_k w n' t' c σ,ConOk (wR w ba bb) fz0 D:=by
 have hv:∀x∈σ.bh,IsI x.2.2:=fun x hx=>by
  obtain⟨u,_,rfl⟩:=mem_map.mp hx
  exact⟨_,_,rfl⟩
 have hn:(σ.bh.map fun x=>intV x.2.2).Nodup:=by
  unfold Sg.bh
  rw[map_map]
  exact I.und
 exact ac (sortedK_ok I.k1 (map_le I.ul2)) (ac bk_held (ac cVals_ok (ac (sortedV_ok hv hn (map_le I.ul2)) (ac (sortedK_ok I.k4 (map_le I.ul2)) (ac (sortedK_ok I.k5 (map_le I.vl2)) (ac bk_held (ac (sortedK_ok I.k6 (map_le I.ul2)) (ac bk_heard (all1 (sortedK_ok I.k7 (map_le I.vl2)))))))))))
end
def frT (w:World)(u1 u2 u3 u4:Nat) (c:Cst)(dl:Addr)(fb:Bool)(u5 u6 t:Nat)(s1:Str)(tw:Nat) (p:Int)(tp:Nat)(sl:Array (Option Value)):Obj:=fr6 w u1 u2 u3 u4 (c.m:Int) c.tm dl c.sk c.bk (tokB fb u5 t) (.str s1 tw) (tokB fb u6 (t+1)) (.int p tp) sl
theorem rgE_frame (w:World) (L:Addr):(rgE w L).frame=some L:=by kernel_rfl
theorem rgE_fun (w:World) (L:Addr):(rgE w L).scope.kind≠ .module:=not_mod (by kernel_rfl)
theorem turn_go {w:World}{ba bb:Bool} {c:Cst} {σ:Sg}{fs:List Env}{L it dl tu:Addr}{ds:List Value}{ep i u1 u2 u3 u4:Nat}{s1:Str}{tw:Nat} {p:Int}{tp:Nat}{sl0:Array (Option Value)}{u5 u6:Nat}{v5 v6:Value}{fb:Bool}{tus:List (Addr×Obj)} {Q:Sg->Prop}
  (hds:ds[i]?=some (.ref tu)) (htu:(tu,oT [.str s1 tw,.int p tp])∈tus) (hQ:∀σ',Q σ'->∃k,Inv c σ' k)
  (hD:WeakC (wR w ba bb) 16 (rtCall c.sk c.bk s1 tw p tp) (objs w c σ) (.ok (.ret (.bool true))) (fun os'=>∃σ',os'=objs w c σ'/\Q σ'))
  {A:Around} {s:Shared} {R:Result->Shared->Prop} (hA:CtxOk A 16) (hf:A.frames=some (rgE w L::fs))
  (W:Wst (wR w ba bb) s.heap ((L,frB fb w u1 u2 u3 u4 (c.m:Int) c.tm dl c.sk c.bk u5 v5 u6 v6 sl0)::(it,lIt dl i)::(dl,oL0 ds ep)::(tus++objs w c σ)) fs)
  (hR:∀h' t' σ' y5 y6 x5 x6 sl,Q σ'->Wst (wR w ba bb) h' ((L,fr6 w u1 u2 u3 u4 (c.m:Int) c.tm dl c.sk c.bk y5 x5 y6 x6 sl)::(it,lIt dl (i+1))::(dl,oL0 ds ep)::(tus++objs w c σ')) fs->
   Wrel ((L,frB fb w u1 u2 u3 u4 (c.m:Int) c.tm dl c.sk c.bk u5 v5 u6 v6 sl0)::(it,lIt dl i)::(dl,oL0 ds ep)::(tus++objs w c σ)) ((L,fr6 w u1 u2 u3 u4 (c.m:Int) c.tm dl c.sk c.bk y5 x5 y6 x6 sl)::(it,lIt dl (i+1))::(dl,oL0 ds ep)::(tus++objs w c σ')) fs s.heap h'->
   codeAny (model P02 (wR w ba bb)) A (rgF w L it) R ⟨h',s.gens,s.drawn,t',s.os⟩):codeAny (model P02 (wR w ba bb)) A (rgF w L it) R s:=by
 have nd:=W.nd
 simp only[map_cons,nodup_cons,mem_cons,not_or] at nd
 obtain⟨⟨a1,a2,a3⟩,⟨a4,a5⟩,a6,a7⟩:=nd
 have tum:tu∈(tus++objs w c σ).map (·.1):=mem_fst (mem_append_left _ htu)
 have ne:∀ {x:Addr},x∉(tus++objs w c σ).map (·.1)->x≠tu:=fun h e=>h (e▸tum)
 have E:=rt_1 w s.heap.objs.size s.toks L it dl c.sk c.bk tu ds ep i u1 u2 u3 u4 (c.m:Int) c.tm s1 tw p tp sl0 u5 u6 v5 v6 fb ba bb
 have hp:∀q∈(rt_c w s.heap.objs.size s.toks L it dl c.sk c.bk tu ds ep i u1 u2 u3 u4 (c.m:Int) c.tm s1 tw p tp sl0 u5 u6 v5 v6 fb).pre,q∈(L,frB fb w u1 u2 u3 u4 (c.m:Int) c.tm dl c.sk c.bk u5 v5 u6 v6 sl0)::(it,lIt dl i)::(dl,oL0 ds ep)::(tus++objs w c σ):=by
  refine ac (.head _) (ac (.tail _ (.head _)) (ac (.tail _ (.tail _ (.head _))) (all1 (.tail _ (.tail _ (.tail _ (mem_append_left _ htu)))))))
 refine leg_start (C:=rt_c w s.heap.objs.size s.toks L it dl c.sk c.bk tu ds ep i u1 u2 u3 u4 (c.m:Int) c.tm s1 tw p tp sl0 u5 u6 v5 v6 fb) (cons:=[cNextL s.heap.objs.size s.toks it dl i ds ep (.ref tu)]) (N:=84) (w0:=0) (u0:=0) (hs:=rt_g) (bs:=[]) (by kernel_rfl) (by kernel_rfl)
  (Prod.ext (congrArg (fun x:CallT=>x.2.1) E) (congrArg (fun x:CallT=>x.2.2.1) E)) (all1 (cNextL_ok hds)) nm hA W rfl rfl hp ?_ (cut_call E (by decide) hA hf W rfl hp fun B h hB hBf K W1 x1 hz=>?_)
 ·show[L,it,dl,tu].Nodup
  simp only[nodup_cons,mem_cons,not_mem_nil,or_false,not_or,List.nodup_nil,and_true,not_false_eq_true]
  exact⟨⟨a1,a2,ne a3⟩,⟨a4,ne a5⟩,ne a6⟩
 ·have hs1:∀q∈(L,frT w u1 u2 u3 u4 c dl fb u5 u6 s.toks s1 tw p tp sl0)::(it,lIt dl (i+1))::(dl,oL0 ds ep)::(tus++objs w c σ),
    q∈[(L,frT w u1 u2 u3 u4 c dl fb u5 u6 s.toks s1 tw p tp sl0),(it,lIt dl (i+1)),(dl,oL0 ds ep),(tu,oT [.str s1 tw,.int p tp])]\/
    q∈(L,frB fb w u1 u2 u3 u4 (c.m:Int) c.tm dl c.sk c.bk u5 v5 u6 v6 sl0)::(it,lIt dl i)::(dl,oL0 ds ep)::(tus++objs w c σ)/\q.1∉ [L,it,dl,tu]:=fun q hq=>by
   rcases mem_cons.mp hq with rfl | hq
   ·exact .inl (.head _)
   rcases mem_cons.mp hq with rfl | hq
   ·exact .inl (.tail _ (.head _))
   rcases mem_cons.mp hq with rfl | hq
   ·exact .inl (.tail _ (.tail _ (.head _)))
   by_cases e:q.1=tu
   ·have:=W.same (p:=q) (q:=(tu,oT [.str s1 tw,.int p tp])) (.tail _ (.tail _ (.tail _ hq))) (.tail _ (.tail _ (.tail _ (mem_append_left _ htu)))) e
    subst this
    exact .inl (.tail _ (.tail _ (.tail _ (.head _))))
   ·refine .inr ⟨.tail _ (.tail _ (.tail _ hq)),fun z=>?_⟩
    have hm:=mem_fst hq
    simp only[mem_cons,not_mem_nil,or_false] at z
    rcases z with z | z | z | z
    ·exact a3 (z▸hm)
    ·exact a5 (z▸hm)
    ·exact a6 (z▸hm)
    ·exact e z
  have W2:=W.put W1 (os':=(L,frT w u1 u2 u3 u4 c dl fb u5 u6 s.toks s1 tw p tp sl0)::(it,lIt dl (i+1))::(dl,oL0 ds ep)::(tus++objs w c σ)) rfl hs1
  have x2:=x1.put hs1
  have W3:=W2.push (env:=rgE w L) (rgE_frame w L) (rgE_fun w L) (by intro vs h; cases h)
  have W3':Wst (wR w ba bb) h (((it,lIt dl (i+1))::(dl,oL0 ds ep)::tus)++objs w c σ) (rgE w L::fs):=W3
  have W4:=W3'.sub (os':=objs w c σ) (fun q hq=>mem_append_right _ hq) (objs_nd W3')
  refine hD B ⟨h,s.gens,s.drawn,s.toks+2,s.os⟩ (rgE w L::fs) hB (by rw[hBf]; rfl) W4 _ fun h' t' os' hos W5 x5=>?_
  obtain⟨σ',rfl,q'⟩:=hos
  obtain⟨k,I⟩:=hQ σ' q'
  have side:=Wst.side W3' W5 x5
  obtain⟨sl,W6,x6⟩:=W2.pop (rgE_frame w L) side.1 side.2
  have cnd:=core_nd (W5.sub (os':=objs w c σ') (fun _ h=>h) W5.nd)
  have W6:Wst (wR w ba bb) h' ((L,frT w u1 u2 u3 u4 c dl fb u5 u6 s.toks s1 tw p tp sl)::(it,lIt dl (i+1))::(dl,oL0 ds ep)::(tus++objs w c σ')) fs:=W6
  have nd6:=W6.nd
  simp only[map_cons,nodup_cons,mem_cons,not_or] at nd6
  obtain⟨b1,b2⟩:=rt_2 w s.heap.objs.size s.toks L it dl tu ds ep i u1 u2 u3 u4 c s1 tw p tp sl0 u5 u6 v5 v6 fb ba bb h'.objs.size t' σ' (tokB fb u5 s.toks) (tokB fb u6 (s.toks+1)) (.str s1 tw) (.int p tp) sl
  obtain⟨b3,b4⟩:=rt_3 w s.heap.objs.size s.toks L it dl tu ds ep i u1 u2 u3 u4 c s1 tw p tp sl0 u5 u6 v5 v6 fb ba bb h'.objs.size t' σ' (tokB fb u5 s.toks) (tokB fb u6 (s.toks+1)) (.str s1 tw) (.int p tp) sl
  obtain⟨b5,b6⟩:=rt_4 w s.heap.objs.size s.toks L it dl tu ds ep i u1 u2 u3 u4 c s1 tw p tp sl0 u5 u6 v5 v6 fb ba bb h'.objs.size t' σ' (tokB fb u5 s.toks) (tokB fb u6 (s.toks+1)) (.str s1 tw) (.int p tp) sl
  have hp2:∀q∈(rt_C2 w h'.objs.size t' L dl c σ' u1 u2 u3 u4 (tokB fb u5 s.toks) (tokB fb u6 (s.toks+1)) (.str s1 tw) (.int p tp) sl).pre,q∈(L,frT w u1 u2 u3 u4 c dl fb u5 u6 s.toks s1 tw p tp sl)::(it,lIt dl (i+1))::(dl,oL0 ds ep)::(tus++objs w c σ'):=by
   intro q hq
   rcases mem_cons.mp hq with rfl | hq
   ·exact .head _
   ·exact .tail _ (.tail _ (.tail _ (mem_append_right _ (core_sub _ (rt2_sub _ hq)))))
  have hn2:((rt_C2 w h'.objs.size t' L dl c σ' u1 u2 u3 u4 (tokB fb u5 s.toks) (tokB fb u6 (s.toks+1)) (.str s1 tw) (.int p tp) sl).pre.map (·.1)).Nodup:=by
   refine nodup_cons.mpr ⟨fun z=>?_,rt2_nd cnd⟩
   obtain⟨o,z⟩:=fst_mem z
   exact nd6.1.2.2 (mem_fst (mem_append_right _ (core_sub _ (rt2_sub _ z))))
  have hk:=rt2_k_ok (w:=w) (ba:=ba) (bb:=bb) I h'.objs.size t'
  refine leg_go (C:=rt_C2 w h'.objs.size t' L dl c σ' u1 u2 u3 u4 (tokB fb u5 s.toks) (tokB fb u6 (s.toks+1)) (.str s1 tw) (.int p tp) sl) (cons:=rt2_k w h'.objs.size t' c σ') (N:=71) (hs:=rt_h0) (bs:=[]) (by kernel_rfl) b1 hk nm hA W6 rfl rfl hp2 hn2 K fun O=>?_
  refine fin_act (ro:=[]) O ⟨rfl,rfl⟩ hk nm hA (by kernel_rfl) b2 (good_forIf _ _ _ _) (act_neS I.s1) b3 nm ?_
  refine fin_act (ro:=[]) O ⟨rfl,rfl⟩ hk nm hA (by kernel_rfl) b4 (good_forIf _ _ _ _) (act_neN I.s2 I.s3) b5 nm ?_
  refine cut_again (ni:=[]) b6 rfl rfl (by kernel_rfl) W6 rfl hp2 hn2 fun h'' W7 x7=>?_
  have hs7:∀q∈(L,frT w u1 u2 u3 u4 c dl fb u5 u6 s.toks s1 tw p tp sl)::(it,lIt dl (i+1))::(dl,oL0 ds ep)::(tus++objs w c σ'),
    q∈(rt_C2 w h'.objs.size t' L dl c σ' u1 u2 u3 u4 (tokB fb u5 s.toks) (tokB fb u6 (s.toks+1)) (.str s1 tw) (.int p tp) sl).pre++[]\/q∈(L,frT w u1 u2 u3 u4 c dl fb u5 u6 s.toks s1 tw p tp sl)::(it,lIt dl (i+1))::(dl,oL0 ds ep)::(tus++objs w c σ')/\q.1∉(rt_C2 w h'.objs.size t' L dl c σ' u1 u2 u3 u4 (tokB fb u5 s.toks) (tokB fb u6 (s.toks+1)) (.str s1 tw) (.int p tp) sl).pre.map (·.1):=fun q hq=>by
   by_cases e:q.1∈(rt_C2 w h'.objs.size t' L dl c σ' u1 u2 u3 u4 (tokB fb u5 s.toks) (tokB fb u6 (s.toks+1)) (.str s1 tw) (.int p tp) sl).pre.map (·.1)
   ·obtain⟨o,z⟩:=fst_mem e
    have:=W6.same hq (hp2 _ z) rfl
    rw[this]
    exact .inl (mem_append_left _ z)
   ·exact .inr ⟨hq,e⟩
  exact hR h'' _ σ' _ _ _ _ _ q' (W6.put W7 rfl hs7) (x2.trans (x6.trans (x7.put hs7)))
end
def rgEnd_c (w:World)(n t:Nat)(L it dl sk bk:Addr)(ds:List Value)(ep i:Nat)(u1 u2 u3 u4:Nat) (m:Int)(tm:Nat)(sl0:Array (Option Value))(u5 u6:Nat)(v5 v6:Value):Con:=⟨rgF w L it,n,t,[(L,({oX w.params "frame" 6 [("many",u1,.int m tm),("deeds",u2,.ref dl),("sockets",u3,.ref sk),("book",u4,.ref bk),("way",u5,v5),("port",u6,v6)] with slots:=sl0}:Obj)),(it,lIt dl i),(dl,oL0 ds ep)],[({oX w.params "frame" 6 [("many",u1,.int m tm),("deeds",u2,.ref dl),("sockets",u3,.ref sk),("book",u4,.ref bk),("way",u5,v5),("port",u6,v6)] with slots:=sl0}:Obj),⟨.type "list_iterator",none,.fields #[.none,.int ↑i 0],#[]⟩,⟨.type "list",none,.seq ({toList:=ds}) ep,#[]⟩],[],.ok .next,2,0,5⟩
def rgEnd_h0:List Nat:=[3,4,0,1,2,6,0]
theorem rgEnd_ok (w:World)(ba bb:Bool)(fz:Addr->Option Obj)(n t:Nat)(L it dl sk bk:Addr)(ds:List Value)(ep i:Nat)(u1 u2 u3 u4:Nat) (m:Int)(tm:Nat)(sl0:Array (Option Value))(u5 u6:Nat)(v5 v6:Value)(hc:∀D∈([cEndL n t it dl i ds ep]:List Con),ConOk (wR w ba bb) fz D):ConOk (wR w ba bb) fz (rgEnd_c w n t L it dl sk bk ds ep i u1 u2 u3 u4 m tm sl0 u5 u6 v5 v6):=by
 cases bb
 ·cases ba<;>exact con_run (N:=11) (m₀:=3) (w0:=0) (u0:=0) (ze:=n+2) (te:=t) (ro:=[]) (hs:=rgEnd_h0) (ni:=[]) (by kernel_rfl) rfl rfl (by kernel_rfl) rfl rfl (by kernel_rfl) hc nm (bs:=[]) nm
 ·cases ba<;>exact con_run (N:=11) (m₀:=3) (w0:=0) (u0:=0) (ze:=n+2) (te:=t) (ro:=[]) (hs:=rgEnd_h0) (ni:=[]) (by kernel_rfl) rfl rfl (by kernel_rfl) rfl rfl (by kernel_rfl) hc nm (bs:=[]) nm
structure Item where
 tu:Addr
 way:Str
 tw:Nat
 p:Int
 tp:Nat
def itV (x:Item):Value:=.ref x.tu
def itO (x:Item):Addr×Obj:=(x.tu,oT [.str x.way x.tw,.int x.p x.tp])
def goodI (x:Item):Prop:=x.way=Str.ofString "connect"\/(x.way=Str.ofString "listen"/\1<=x.p/\x.p<=65535)\/x.way=Str.ofString "give up"\/x.way=Str.ofString "close"
def DeedsOk (w:World)(ba bb:Bool):Prop:=∀ (c:Cst) (σ:Sg) (k:Nat) (x:Item),Inv c σ k->k < 20->goodI x->(σ.tab.set=true\/x.way=Str.ofString "connect")->
 WeakC (wR w ba bb) 16 (rtCall c.sk c.bk x.way x.tw x.p x.tp) (objs w c σ) (.ok (.ret (.bool true))) (fun os'=>∃σ',os'=objs w c σ'/\(Inv c σ' (k+1)/\σ'.tab.set=true))
theorem loop_go {w:World}{ba bb:Bool}(DS:DeedsOk w ba bb) {c:Cst}{fs:List Env}{L it dl:Addr}{items:List Item}{ep u1 u2 u3 u4:Nat}(hg:∀x∈items,goodI x) {A:Around} {R:Result->Shared->Prop}(hA:CtxOk A 16)(hf:A.frames=some (rgE w L::fs)):
  ∀ (rest:List Item) (i k:Nat) (σ:Sg) (fb:Bool) (sl0:Array (Option Value)) (u5 u6:Nat) (v5 v6:Value) (s:Shared),items.drop i=rest->i+rest.length=items.length->Inv c σ k->k+rest.length<=20->(σ.tab.set=true\/∃x r,rest=x::r/\x.way=Str.ofString "connect")->(fb=true\/rest≠ [])->
   Wst (wR w ba bb) s.heap ((L,frB fb w u1 u2 u3 u4 (c.m:Int) c.tm dl c.sk c.bk u5 v5 u6 v6 sl0)::(it,lIt dl i)::(dl,oL0 (items.map itV) ep)::(items.map itO++objs w c σ)) fs->
   (∀h' t' σ' y5 y6 x5 x6 sl ito,Inv c σ' (k+rest.length)->(rest≠ []\/σ.tab.set=true->σ'.tab.set=true)->Wst (wR w ba bb) h' ((L,fr6 w u1 u2 u3 u4 (c.m:Int) c.tm dl c.sk c.bk y5 x5 y6 x6 sl)::(it,ito)::(dl,oL0 (items.map itV) ep)::(items.map itO++objs w c σ')) fs->
    Wrel ((L,frB fb w u1 u2 u3 u4 (c.m:Int) c.tm dl c.sk c.bk u5 v5 u6 v6 sl0)::(it,lIt dl i)::(dl,oL0 (items.map itV) ep)::(items.map itO++objs w c σ)) ((L,fr6 w u1 u2 u3 u4 (c.m:Int) c.tm dl c.sk c.bk y5 x5 y6 x6 sl)::(it,ito)::(dl,oL0 (items.map itV) ep)::(items.map itO++objs w c σ')) fs s.heap h'->
    R (.ok .next) ⟨h',s.gens,s.drawn,t',s.os⟩)->codeAny (model P02 (wR w ba bb)) A (rgF w L it) R s:=by
 intro rest
 induction rest with
 | nil=>
  intro i k σ fb sl0 u5 u6 v5 v6 s hd hi I hk ht hfb W hR
  have hfb:fb=true:=hfb.resolve_right fun h=>h rfl
  subst hfb
  have K:=rgEnd_ok w ba bb fz0 s.heap.objs.size s.toks L it dl c.sk c.bk (items.map itV) ep i u1 u2 u3 u4 (c.m:Int) c.tm sl0 u5 u6 v5 v6 (all1 (cEndL_ok (by rw[length_map,<- hi]; exact le_refl _)))
  have nd:=W.nd
  simp only[map_cons,nodup_cons,mem_cons,not_or] at nd
  obtain⟨⟨a1,a2,a3⟩,⟨a4,a5⟩,a6,a7⟩:=nd
  have hp:∀q∈(rgEnd_c w s.heap.objs.size s.toks L it dl c.sk c.bk (items.map itV) ep i u1 u2 u3 u4 (c.m:Int) c.tm sl0 u5 u6 v5 v6).pre,q∈(L,frB true w u1 u2 u3 u4 (c.m:Int) c.tm dl c.sk c.bk u5 v5 u6 v6 sl0)::(it,lIt dl i)::(dl,oL0 (items.map itV) ep)::(items.map itO++objs w c σ):=
   ac (.head _) (ac (.tail _ (.head _)) (all1 (.tail _ (.tail _ (.head _)))))
  have hn:((rgEnd_c w s.heap.objs.size s.toks L it dl c.sk c.bk (items.map itV) ep i u1 u2 u3 u4 (c.m:Int) c.tm sl0 u5 u6 v5 v6).pre.map (·.1)).Nodup:=by
   show[L,it,dl].Nodup
   simp only[nodup_cons,mem_cons,not_mem_nil,or_false,not_or,List.nodup_nil,and_true,not_false_eq_true]
   exact⟨⟨a1,a2⟩,a4⟩
  refine K A s (hA.mono (by show 5<=16; omega)) (W.apart hp hn) W.baseOk rfl rfl (fun q hq=>W.at_ q (hp q hq)) R fun h' a=>?_
  obtain⟨W1,x1⟩:=W.after rfl hp hn a
  have hs:∀q∈(L,fr6 w u1 u2 u3 u4 (c.m:Int) c.tm dl c.sk c.bk u5 v5 u6 v6 sl0)::(it,(⟨.type "list_iterator",none,.fields #[.none,.int ↑i 0],#[]⟩:Obj))::(dl,oL0 (items.map itV) ep)::(items.map itO++objs w c σ),
    q∈zipA (rgEnd_c w s.heap.objs.size s.toks L it dl c.sk c.bk (items.map itV) ep i u1 u2 u3 u4 (c.m:Int) c.tm sl0 u5 u6 v5 v6).pre (rgEnd_c w s.heap.objs.size s.toks L it dl c.sk c.bk (items.map itV) ep i u1 u2 u3 u4 (c.m:Int) c.tm sl0 u5 u6 v5 v6).post++[]\/
    q∈(L,frB true w u1 u2 u3 u4 (c.m:Int) c.tm dl c.sk c.bk u5 v5 u6 v6 sl0)::(it,lIt dl i)::(dl,oL0 (items.map itV) ep)::(items.map itO++objs w c σ)/\q.1∉ [L,it,dl]:=fun q hq=>by
   rcases mem_cons.mp hq with rfl | hq
   ·exact .inl (.head _)
   rcases mem_cons.mp hq with rfl | hq
   ·exact .inl (.tail _ (.head _))
   rcases mem_cons.mp hq with rfl | hq
   ·exact .inl (.tail _ (.tail _ (.head _)))
   refine .inr ⟨.tail _ (.tail _ (.tail _ hq)),fun z=>?_⟩
   have hm:=mem_fst hq
   simp only[mem_cons,not_mem_nil,or_false] at z
   rcases z with z | z | z
   ·exact a3 (z▸hm)
   ·exact a5 (z▸hm)
   ·exact a6 (z▸hm)
  exact hR h' _ σ u5 u6 v5 v6 sl0 ⟨.type "list_iterator",none,.fields #[.none,.int ↑i 0],#[]⟩ I (fun h=>h.resolve_left fun h=>h rfl) (W.put W1 rfl hs) (x1.put hs)
 | cons x rest ih=>
  intro i k σ fb sl0 u5 u6 v5 v6 s hd hi I hk ht hfb W hR
  have hx:items[i]?=some x:=by
   have:(items.drop i)[0]?=some x:=by rw[hd]; rfl
   rwa [List.getElem?_drop,Nat.add_zero] at this
  have hxm:x∈items:=mem_of_getElem? hx
  have hl:(x::rest).length=rest.length+1:=rfl
  have ht':σ.tab.set=true\/x.way=Str.ofString "connect":=by
   rcases ht with h | ⟨y,r,e,h⟩
   ·exact .inl h
   ·cases e; exact .inr h
  refine turn_go (Q:=fun σ'=>Inv c σ' (k+1)/\σ'.tab.set=true) (tu:=x.tu) (s1:=x.way) (tw:=x.tw) (p:=x.p) (tp:=x.tp) (by rw[getElem?_map,hx]; rfl) (mem_map.mpr ⟨x,hxm,rfl⟩) (fun σ' h=>⟨_,h.1⟩) (DS c σ k x I (by omega) (hg x hxm) ht') hA hf W fun h' t' σ' y5 y6 x5 x6 sl q W1 x1=>?_
  refine ih (i+1) (k+1) σ' true sl y5 y6 x5 x6 ⟨h',s.gens,s.drawn,t',s.os⟩ (by rw[<- List.drop_drop,hd]; rfl) (by omega) q.1 (by omega) (.inl q.2) (.inl rfl) W1 fun h'' t'' σ'' z5 z6 r5 r6 sl' ito I'' hs W2 x2=>?_
  exact hR h'' t'' σ'' z5 z6 r5 r6 sl' ito (by rw[hl,show k+(rest.length+1)=k+1+rest.length by omega]; exact I'') (fun _=>hs (.inr q.2)) W2 (x1.trans x2)
section
def sq (a m j:Int):Int:=29+(a - 29+j).fmod m
theorem sq_in {a m j:Int}(hm:0 < m):29<=sq a m j/\sq a m j<=28+m:=by
 unfold sq
 rw[Int.fmod_eq_emod_of_nonneg _ (Int.le_of_lt hm)]
 have h1:=Int.emod_nonneg (a - 29+j) (by omega:m≠0)
 have h2:=Int.emod_lt_of_pos (a - 29+j) hm
 omega
theorem mod_succ {X m:Int}(hm:0 < m):(X+1) % m=if X % m+1=m then 0 else X % m+1:=by
 have h1:=Int.emod_nonneg X (by omega:m≠0)
 have h2:=Int.emod_lt_of_pos X hm
 have e:(X+1) % m=(X % m+1) % m:=(Int.emod_add_emod X m 1).symm
 rw[e]
 by_cases q:X % m+1=m
 ·rw[if_pos q,q,Int.emod_self]
 ·rw[if_neg q,Int.emod_eq_of_lt (by omega) (by omega)]
theorem sq_beh {a m j:Int}(hm:0 < m):behP (28+m) (sq a m j)=sq a m (j+1):=by
 unfold behP sq
 rw[Int.fmod_eq_emod_of_nonneg _ (Int.le_of_lt hm),Int.fmod_eq_emod_of_nonneg _ (Int.le_of_lt hm),show a - 29+(j+1)=a - 29+j+1 by omega,mod_succ hm]
 by_cases e:(a - 29+j) % m+1=m
 ·rw[if_pos (by omega),if_pos e]; omega
 ·rw[if_neg (by omega),if_neg e]; omega
theorem sq_zero {a m:Int}(h1:29<=a)(h2:a<=28+m):sq a m 0=a:=by
 unfold sq
 rw[Int.fmod_eq_emod_of_nonneg _ (by omega),Int.emod_eq_of_lt (by omega) (by omega)]; omega
theorem sq_per {a m j:Int}:sq a m (j+m)=sq a m j:=by
 unfold sq
 rw[<- Int.add_assoc,Int.add_fmod_right]
theorem next_beh {m g:Int}(h1:29<=g)(h2:g<=28+m):29+(g - 28).fmod m=behP (28+m) g:=by
 unfold behP
 rw[Int.fmod_eq_emod_of_nonneg _ (by omega)]
 by_cases e:g=28+m
 ·rw[if_pos e,show g - 28=m by omega,Int.emod_self]; omega
 ·rw[if_neg e,Int.emod_eq_of_lt (by omega) (by omega)]; omega
theorem row_add (a m:Int):∀ (k k':Nat) (j:Int),rowL a m (k+k') j=rowL a m k j++rowL a m k' (j+k)
 | 0,k',j=>by rw[Nat.zero_add]; show _=rowL a m k' (j+(0:Int)); rw[Int.add_zero]
 | k+1,k',j=>by
  rw[show k+1+k'=(k+k')+1 by omega]
  show _::rowL a m (k+k') (j+1)=_::(rowL a m k (j+1)++rowL a m k' (j+((k+1:Nat):Int)))
  rw[row_add a m k k' (j+1),show j+1+(k:Int)=j+((k+1:Nat):Int) by omega]
theorem row_per (a m:Int):∀ (k:Nat) (j:Int),rowL a m k (j+m)=rowL a m k j
 | 0,_=>rfl
 | k+1,j=>by
  show sq a m (j+m)::rowL a m k (j+m+1)=sq a m j::rowL a m k (j+1)
  rw[sq_per,show j+m+1=j+1+m by omega,row_per a m k (j+1)]
section
variable {a m:Int} {M:Nat}{lt lc ll:List Ent}{h u:Int->Bool}(hm:0 < m)(hM:(M:Int)=m)(hH:∀z,(posP lt z).isSome=h z)(hS:∀z,usedB lc ll z=(h z || u z))
abbrev frF (h:Int->Bool) (l:List Int):List Int:=l.filter fun z=>!h z
theorem frF_app {l l':List Int}:frF h (l++l')=frF h l++frF h l':=filter_append ..
theorem frF_cons {x:Int} {l:List Int}:frF h (x::l)=if (!h x)=true then x::frF h l else frF h l:=filter_cons
include hm hH in
theorem free_find:∀ (k:Nat) (j:Int),freeP lt (28+m) k (sq a m j)=(rowL a m k j).find? fun z=>!h z
 | 0,_=>rfl
 | k+1,j=>by
  show(if (posP lt (sq a m j)).isSome then freeP lt (28+m) k (behP (28+m) (sq a m j)) else some (sq a m j))=(sq a m j::rowL a m k (j+1)).find? _
  rw[hH,sq_beh hm,free_find k (j+1),find?_cons]
  cases h (sq a m j)<;>rfl
theorem find_split:∀ (k:Nat) (j:Int) {b:Int},((rowL a m k j).find? fun z=>!h z)=some b->∃i:Nat,i < k/\b=sq a m (j+i)/\h b=false/\frF h (rowL a m k j)=b::frF h (rowL a m (k - i - 1) (j+i+1))/\frF h (rowL a m (i+1) j)= [b]
 | 0,_,_,e=>by cases e
 | k+1,j,b,e=>by
  have e:((sq a m j::rowL a m k (j+1)).find? fun z=>!h z)=some b:=e
  rw[find?_cons] at e
  cases q:h (sq a m j) with
  | false=>
   rw[q] at e
   have e:sq a m j=b:=Option.some.inj e
   subst e
   refine⟨0,by omega,by rw[show j+((0:Nat):Int)=j by omega],q,?_,?_⟩
   ·show(sq a m j::rowL a m k (j+1)).filter _=_
    rw[List.filter_cons_of_pos (by rw[q]; rfl),show k+1 - 0 - 1=k by omega,show j+((0:Nat):Int)+1=j+1 by omega]
   ·show(sq a m j:: []).filter _=_
    rw[List.filter_cons_of_pos (by rw[q]; rfl)]; rfl
  | true=>
   rw[q] at e
   obtain⟨i,i1,i2,i3,i4,i5⟩:=find_split k (j+1) e
   refine⟨i+1,by omega,by rw[i2]; congr 1; omega,i3,?_,?_⟩
   ·show(sq a m j::rowL a m k (j+1)).filter _=_
    rw[List.filter_cons_of_neg (by rw[q]; decide),show k+1 - (i+1) - 1=k - i - 1 by omega,show j+((i+1:Nat):Int)+1=j+1+i+1 by omega]
    exact i4
   ·show(sq a m j::rowL a m (i+1) (j+1)).filter _=_
    rw[List.filter_cons_of_neg (by rw[q]; decide)]
    exact i5
theorem find_of_filter {l:List Int} {b:Int} {r:List Int} (e:frF h l=b::r):(l.find? fun z=>!h z)=some b:=by
 rw[<- List.head?_filter]
 show(frF h l).head?=_
 rw[e]; rfl
theorem find_none {l:List Int} (e:frF h l= []):(l.find? fun z=>!h z)=none:=by
 rw[<- List.head?_filter]
 show(frF h l).head?=_
 rw[e]; rfl
include hm hM hH hS in
theorem own_good {g:Int} {r:List Int}:∀ (n:Nat)(j k:Nat),j+n=M->n<=k->frF u (frF h (rowL a m n j))=g::r->ownP lt lc ll (28+m) M k (sq a m j)=some g:=by
 intro n
 induction n using Nat.strongRecOn with
 | ind n ih=>
  intro j k hj hk e
  cases ef:frF h (rowL a m n j) with
  | nil=>rw[ef] at e; cases e
  | cons b f=>
   have fd:=find_of_filter ef
   obtain⟨i,i1,i2,i3,i4,_⟩:=find_split n j fd
   obtain⟨k',rfl⟩:∃k',k=k'+1:=⟨k - 1,by omega⟩
   unfold ownP
   have:freeP lt (28+m) M (sq a m j)=some b:=by
    rw[free_find hm hH,show M=n+j by omega,row_add,List.find?_append,fd]; rfl
   rw[this]
   dsimp only
   rw[hS,i3,Bool.false_or]
   rw[i4,frF_cons] at e
   cases q:u b with
   | true=>
    rw[q] at e
    rw[if_pos rfl,i2,sq_beh hm,show((j:Int)+(i:Int)+1)=((j+i+1:Nat):Int) by omega]
    rw[show((j:Int)+(i:Int)+1)=((j+i+1:Nat):Int) by omega] at e
    exact ih (n - i - 1) (by omega) (j+i+1) k' (by omega) (by omega) e
   | false=>
    rw[q] at e
    rw[if_neg (by decide)]
    exact congrArg some (List.cons.inj e).1
include hm hM hH hS in
theorem own_used (hu:∀z∈frF h (rowL a m M 0),u z=true)(hne:frF h (rowL a m M 0)≠ []):∀ (k j:Nat),j<=M->ownU lt lc ll (28+m) M k (sq a m j)=if k=0 then some (sq a m j) else some (behP (28+m) ((frF h (rowL a m M 0)).getD (((frF h (rowL a m j 0)).length+(k - 1)) % (frF h (rowL a m M 0)).length) 0)):=by
 intro k
 induction k with
 | zero=>intro j _; rfl
 | succ k ih=>
  intro j hj
  rw[if_neg (Nat.succ_ne_zero k)]
  have split:frF h (rowL a m M 0)=frF h (rowL a m j 0)++frF h (rowL a m (M - j) j):=by
   have:=row_add a m j (M - j) 0
   rw[show j+(M - j)=M by omega,Int.zero_add] at this
   rw[this,frF_app]
  have two:rowL a m M j=rowL a m (M - j) j++rowL a m j 0:=by
   have:=row_add a m (M - j) j j
   rw[show M - j+j=M by omega,show((j:Int)+((M - j:Nat):Int))=0+m by omega,row_per] at this
   exact this
  have step:∀ {b:Int} {j':Nat},freeP lt (28+m) M (sq a m j)=some b->b∈frF h (rowL a m M 0)->behP (28+m) b=sq a m j'->ownU lt lc ll (28+m) M (k+1) (sq a m j)=ownU lt lc ll (28+m) M k (sq a m j'):=by
   intro b j' e hb hj'
   show(match freeP lt (28+m) M (sq a m j) with
    | none=>none
    | some r=>if usedB lc ll r then ownU lt lc ll (28+m) M k (behP (28+m) r) else none)=_
   rw[e]
   dsimp only
   rw[hS,hu b hb,Bool.or_true,if_pos rfl,hj']
  cases ef:frF h (rowL a m (M - j) j) with
  | cons b f=>
   have fd:=find_of_filter ef
   obtain⟨i,i1,i2,i3,i4,i5⟩:=find_split (M - j) j fd
   have hfr:freeP lt (28+m) M (sq a m j)=some b:=by rw[free_find hm hH,two,List.find?_append,fd]; rfl
   have hb:b∈frF h (rowL a m M 0):=by rw[split,ef]; exact mem_append_right _ (.head _)
   rw[step (j':=j+i+1) hfr hb (by rw[i2,sq_beh hm]; congr 1),ih (j+i+1) (by omega)]
   have hpre:frF h (rowL a m (j+i+1) 0)=frF h (rowL a m j 0)++[b]:=by
    have:=row_add a m j (i+1) 0
    rw[Int.zero_add] at this
    rw[show j+i+1=j+(i+1) by omega,this,frF_app,i5]
   by_cases hk:k=0
   ·subst hk
    rw[if_pos rfl]
    have lt1:(frF h (rowL a m j 0)).length < (frF h (rowL a m M 0)).length:=by rw[split,ef,length_append,length_cons]; omega
    rw[show(frF h (rowL a m j 0)).length+(0+1 - 1)=(frF h (rowL a m j 0)).length from rfl,Nat.mod_eq_of_lt lt1,split,ef,List.getD_eq_getElem?_getD,getElem?_append_right (le_refl _),Nat.sub_self]
    show _=some (behP (28+m) b)
    rw[i2,sq_beh hm]
    congr 1
   ·rw[if_neg hk,hpre,length_append,List.length_singleton,show(frF h (rowL a m j 0)).length+1+(k - 1)=(frF h (rowL a m j 0)).length+(k+1 - 1) by omega]
  | nil=>
   have hall:frF h (rowL a m M 0)=frF h (rowL a m j 0):=by rw[split,ef,append_nil]
   cases eg:frF h (rowL a m j 0) with
   | nil=>rw[eg] at hall; exact absurd hall hne
   | cons b f=>
    have fd:=find_of_filter eg
    obtain⟨i,i1,i2,i3,i4,i5⟩:=find_split j 0 fd
    rw[Int.zero_add] at i2
    have hfr:freeP lt (28+m) M (sq a m j)=some b:=by rw[free_find hm hH,two,List.find?_append,find_none ef,fd]; rfl
    have hb:b∈frF h (rowL a m M 0):=by rw[hall,eg]; exact .head _
    rw[step (j':=i+1) hfr hb (by rw[i2,sq_beh hm]; congr 1),ih (i+1) (by omega),i5,hall,eg]
    have hc:(b::f).length=f.length+1:=rfl
    by_cases hk:k=0
    ·subst hk
     rw[if_pos rfl,show(b::f).length+(0+1 - 1)=(b::f).length from rfl,Nat.mod_self]
     show _=some (behP (28+m) b)
     rw[i2,sq_beh hm]
     congr 1
    ·rw[if_neg hk,show(b::f).length+(k+1 - 1)=k+(b::f).length by omega,Nat.add_mod_right,List.length_singleton,show 1+(k - 1)=k by omega]
end
end
section
def Sg.hP (σ:Sg) (z:Int):Bool:=σ.us.any fun u=>u.r == z
def Sg.uP (σ:Sg) (z:Int):Bool:=σ.vs.any fun v=>v.p == z
theorem pos_is {α:Type} (l:List α) (f:α->Int) (g:α->Nat) (v:α->Value) (z:Int):(posP (l.map fun x=>(f x,g x,v x)) z).isSome=l.any fun x=>f x == z:=by
 unfold posP
 rw[List.findIdx?_isSome,List.any_map]
 rfl
section
variable (σ:Sg)
theorem Sg.hH (z:Int):(posP σ.lt z).isSome=σ.hP z:=pos_is _ _ _ _ z
theorem Sg.hC (z:Int):(posP σ.lc z).isSome=σ.hP z:=pos_is _ _ _ _ z
theorem Sg.hL (z:Int):(posP σ.ll z).isSome=σ.uP z:=pos_is _ _ _ _ z
theorem Sg.hB (z:Int):hasZ σ.bh z=σ.hP z:=by unfold hasZ Sg.bh; rw[List.any_map]; rfl
theorem Sg.hU (z:Int):hasZ σ.br z=σ.uP z:=by unfold hasZ Sg.br; rw[List.any_map]; rfl
theorem Sg.hS (z:Int):usedB σ.lc σ.ll z=(σ.hP z || σ.uP z):=by unfold usedB Sg.lc Sg.ll; rw[List.any_map,List.any_map]; rfl
theorem none_of {l:List Ent} {p:Int} (h:(posP l p).isSome=false):posP l p=none:=by
 cases e:posP l p with
 | none=>rfl
 | some i=>rw[e] at h; cases h
end
theorem row_in {a m:Int}(hm:0 < m):∀ (k:Nat) (j:Int),∀z∈rowL a m k j,29<=z/\z<=28+m
 | 0,_,_,h=>by cases h
 | k+1,j,z,h=>by
  rcases mem_cons.mp (show z∈sq a m j::rowL a m k (j+1) from h) with rfl | h
  ·exact sq_in hm
  ·exact row_in hm k (j+1) z h
theorem beh_in {m y:Int}(h1:29<=y)(h2:y<=28+m)(hm:0 < m):29<=behP (28+m) y/\behP (28+m) y<=28+m:=by
 unfold behP
 by_cases e:y=28+m
 ·rw[if_pos e]; omega
 ·rw[if_neg e]; omega
theorem Inv.ports {c:Cst} {σ:Sg} {k:Nat} (I:Inv c σ k):
  (∃r,ownP σ.lt σ.lc σ.ll (28+(c.m:Int)) c.m c.m σ.x=some r/\nextP σ.a (c.m:Int) c.m σ.bh σ.br=(some r,behP (28+(c.m:Int)) r)/\29<=r/\r<=28+(c.m:Int)/\σ.hP r=false/\σ.uP r=false)\/
  (∃z,nextP σ.a (c.m:Int) c.m σ.bh σ.br=(none,z)/\29<=z/\z<=28+(c.m:Int)/\((freeP σ.lt (28+(c.m:Int)) c.m σ.x=none/\z=σ.x)\/ownU σ.lt σ.lc σ.ll (28+(c.m:Int)) c.m c.m σ.x=some z)):=by
 have hm:(0:Int) < (c.m:Int):=by have:=I.m2; omega
 have x1:=I.x1
 have x2:=I.x2
 have z0:sq σ.x (c.m:Int) ((0:Nat):Int)=σ.x:=sq_zero x1 x2
 have ef:freeZ σ.a (c.m:Int) c.m σ.bh=frF σ.hP (rowL σ.x (c.m:Int) c.m 0):=by
  unfold freeZ
  rw[<- I.xa]
  exact congrArg (fun f=>List.filter f _) (funext fun z=>by rw[σ.hB])
 have eg:goodZ σ.a (c.m:Int) c.m σ.bh σ.br=frF σ.uP (frF σ.hP (rowL σ.x (c.m:Int) c.m 0)):=by
  unfold goodZ
  rw[ef]
  exact congrArg (fun f=>List.filter f _) (funext fun z=>by rw[σ.hU])
 have fin:∀z∈frF σ.hP (rowL σ.x (c.m:Int) c.m 0),(29<=z/\z<=28+(c.m:Int))/\σ.hP z=false:=fun z hz=>by
  obtain⟨h1,h2⟩:=mem_filter.mp hz
  exact⟨row_in hm _ _ z h1,by simpa using h2⟩
 cases g:frF σ.uP (frF σ.hP (rowL σ.x (c.m:Int) c.m 0)) with
 | cons r rs=>
  left
  have hr:r∈frF σ.uP (frF σ.hP (rowL σ.x (c.m:Int) c.m 0)):=by rw[g]; exact .head _
  obtain⟨h1,h2⟩:=mem_filter.mp hr
  obtain⟨⟨h3,h4⟩,h5⟩:=fin r h1
  refine⟨r,?_,?_,h3,h4,h5,by simpa using h2⟩
  ·have:=own_good hm rfl σ.hH σ.hS (lt:=σ.lt) (lc:=σ.lc) (ll:=σ.ll) (a:=σ.x) c.m 0 c.m (Nat.zero_add _) (le_refl _) g
   rwa [z0] at this
  ·unfold nextP
   rw[eg,g]
   dsimp only
   rw[next_beh h3 h4]
 | nil=>
  right
  have allu:∀z∈frF σ.hP (rowL σ.x (c.m:Int) c.m 0),σ.uP z=true:=fun z hz=>by
   cases q:σ.uP z with
   | true=>rfl
   | false=>
    have:z∈frF σ.uP (frF σ.hP (rowL σ.x (c.m:Int) c.m 0)):=mem_filter.mpr ⟨hz,by rw[q]; rfl⟩
    rw[g] at this; cases this
  cases f:frF σ.hP (rowL σ.x (c.m:Int) c.m 0) with
  | nil=>
   refine⟨σ.x,?_,x1,x2,.inl ⟨?_,rfl⟩⟩
   ·unfold nextP
    rw[eg,g,ef,f]
    dsimp only
    rw[I.xa]
   ·have:=free_find hm σ.hH (lt:=σ.lt) (a:=σ.x) c.m 0
    rw[sq_zero x1 x2] at this
    rw[this]
    exact find_none f
  | cons p ps=>
   have U:=own_used hm rfl σ.hH σ.hS (lc:=σ.lc) (ll:=σ.ll) (a:=σ.x) (M:=c.m) allu (by rw[f]; exact fun h=>nomatch h) c.m 0 (Nat.zero_le _)
   rw[z0,if_neg (by have:=I.m2; omega),f] at U
   have e0:frF σ.hP (rowL σ.x (c.m:Int) 0 0)= []:=rfl
   rw[e0,length_nil,Nat.zero_add] at U
   have hlt:(c.m - 1) % (p::ps).length < (p::ps).length:=Nat.mod_lt _ (by show 0 < ps.length+1; omega)
   have hmem:(p::ps).getD ((c.m - 1) % (p::ps).length) 0∈frF σ.hP (rowL σ.x (c.m:Int) c.m 0):=by
    rw[f,List.getD_eq_getElem?_getD,List.getElem?_eq_getElem hlt]
    exact getElem_mem hlt
   obtain⟨⟨h3,h4⟩,_⟩:=fin _ hmem
   have hi:(((c.m:Int) - 1).fmod ((p::ps).length:Int)).toNat=(c.m - 1) % (p::ps).length:=by
    rw[Int.fmod_eq_emod_of_nonneg _ (by omega),show((c.m:Int) - 1)=((c.m - 1:Nat):Int) by have:=I.m2; omega,<- Int.natCast_emod,Int.toNat_natCast]
   have bi:=beh_in h3 h4 hm
   refine⟨_,?_,bi.1,bi.2,.inr U⟩
   unfold nextP
   rw[eg,g,ef,f]
   dsimp only
   rw[hi,next_beh h3 h4]
end
section
def mutO (w:World) (c:Cst) (σ:Sg):List (Addr×Obj):=core w c σ++((1470,σ.tab.obj)::(σ.us.flatMap (lkO w c)++σ.vs.flatMap (lsO w)))
theorem objs_eq {w:World} {c:Cst} {σ:Sg}:objs w c σ=mutO w c σ++frzO w c σ:=by
 unfold objs mutO
 rw[append_assoc (core w c σ)]
 rfl
def fzO (w:World) (c:Cst) (σ:Sg):Addr->Option Obj:=fun a=>((frzO w c σ).find? fun p=>p.1 == a).map (·.2)
theorem find_at:∀ {l:List (Addr×Obj)} {p:Addr×Obj},(l.map (·.1)).Nodup->p∈l->(l.find? fun q=>q.1 == p.1)=some p
 | [],_,_,h=>by cases h
 | q::l,p,nd,h=>by
  obtain⟨n1,n2⟩:=nodup_cons.mp nd
  rw[find?_cons]
  rcases mem_cons.mp h with rfl | h
  ·rw[beq_self_eq_true]
  ·have:(q.1 == p.1)=false:=by
    rw[beq_eq_false_iff_ne]
    exact fun e=>n1 (by show q.1∈_; rw[e]; exact mem_fst h)
   rw[this]
   exact find_at n2 h
theorem fzO_mem {w:World} {c:Cst} {σ:Sg} {a:Addr} {o:Obj} (h:fzO w c σ a=some o):(a,o)∈frzO w c σ:=by
 unfold fzO at h
 cases e:(frzO w c σ).find? fun p=>p.1 == a with
 | none=>rw[e] at h; cases h
 | some p=>
  rw[e] at h
  have h1:p.2=o:=Option.some.inj h
  have h2:p.1=a:=by simpa using List.find?_some e
  rw[<- h1,<- h2]
  exact List.mem_of_find?_eq_some e
theorem nodup_le' {l l':List Nat} (h:l.Nodup)(hc:∀a,l'.count a<=l.count a):l'.Nodup:=nodup_iff_count.mpr fun a=>le_trans (hc a) (nodup_iff_count.mp h a)
theorem wkp_of_wk {w:World}{fz:Addr->Option Obj} {C:Con} (K:WkOk w fz C):WkP w fz C (fun C'=>C'=C):=fun A s fs h1 h2 h3 h4 h5 h6 h7 h8 R hR=>
 K A s fs h1 h2 h3 h4 h5 h6 h7 h8 R fun h' t' W=>hR C h' t' rfl W
structure Base (w:World)(ba bb:Bool) (c:Cst) (σ:Sg) (n:Nat):Prop where
 big:1486<=n
 nb:∀p∈objs w c σ,baseLook (wR w ba bb).params p.1=none
 lt:∀p∈objs w c σ,Nat.lt p.1 n
 nd:((objs w c σ).map (·.1)).Nodup
section
variable {w:World}{ba bb:Bool} {c:Cst} {σ:Sg} {n:Nat} (D:Base w ba bb c σ n)
include D
theorem Base.frz:((frzO w c σ).map (·.1)).Nodup:=by
 have:=D.nd
 rw[objs_eq,map_append] at this
 exact(nodup_append.mp this).2.1
theorem Base.mut:((mutO w c σ).map (·.1)).Nodup:=by
 have:=D.nd
 rw[objs_eq,map_append] at this
 exact(nodup_append.mp this).1
theorem Base.apart:∀p∈mutO w c σ,∀q∈frzO w c σ,p.1≠q.1:=by
 have:=D.nd
 rw[objs_eq,map_append] at this
 exact fun p hp q hq e=>(nodup_append.mp this).2.2 _ (mem_fst hp) _ (mem_fst hq) e
theorem Base.fz {p:Addr×Obj}(hp:p∈frzO w c σ):fzO w c σ p.1=some p.2:=by
 unfold fzO
 rw[find_at D.frz hp]; rfl
theorem Base.one {p:Addr×Obj}(hp:p∈objs w c σ):p.1≠1:=fun e=>by
 have h1:=D.nb p hp
 rw[e] at h1
 exact absurd h1 (by cases ba<;>cases bb<;>exact fun h=>by cases (show(none:Option Obj)=some _ from h.symm.trans rfl))
end
structure EndOk (w:World) (c:Cst) (σ:Sg) (Q:Sg->Prop)(C C':Con):Prop where
 n:C'.n=C.n
 pre:C'.pre=C.pre
 res:C'.res=.ok (.ret (.bool true))
 ex:∃σ',Q σ'/\(∀p∈objs w c σ',p∈zipA C'.pre C'.post\/p∈C'.news\/(p∈objs w c σ/\p.1∉C.pre.map (·.1)))/\∀a,((objs w c σ').map (·.1)).count a<=((objs w c σ).map (·.1)).count a+(C'.news.map (·.1)).count a
theorem deed_of {w:World}{ba bb:Bool} {c:Cst} {σ:Sg}{code:Code} {Q:Sg->Prop}
  (H:∀n t,Base w ba bb c σ n->∃C Cs,WkP (wR w ba bb) (fzO w c σ) C Cs/\C.code=code/\C.n=n/\C.t=t/\C.nd<=16/\(∀p∈C.pre,p∈mutO w c σ)/\(C.pre.map (·.1)).Nodup/\∀C',Cs C'->EndOk w c σ Q C C'):
  WeakC (wR w ba bb) 16 code (objs w c σ) (.ok (.ret (.bool true))) (fun os'=>∃σ',os'=objs w c σ'/\Q σ'):=by
 intro A s fs hA hf W R hR
 have hb:1486<=s.heap.objs.size:=by
  refine Nat.not_lt.mp fun h=>?_
  have e:baseLook (wR w ba bb).params 1485≠none:=by cases ba<;>cases bb<;>exact fun h=>by cases (show(none:Option Obj)=some _ from h.symm.trans rfl)
  cases q:baseLook (wR w ba bb).params 1485 with
  | none=>exact e q
  | some o=>exact absurd (Heap.lt_size (W.top _ _ q)) (by show ¬ (1485 < s.heap.objs.size); omega)
 have D:Base w ba bb c σ s.heap.objs.size:=⟨hb,W.nb,fun p hp=>W.lt hp,W.nd⟩
 obtain⟨C,Cs,K,h1,h2,h3,h4,h5,h6,h7⟩:=H s.heap.objs.size s.toks D
 have sub:∀p∈C.pre,p∈objs w c σ:=fun p hp=>objs_eq▸mem_append_left _ (h5 p hp)
 have fsub:∀p∈frzO w c σ,p∈objs w c σ:=fun p hp=>objs_eq▸mem_append_right _ hp
 rw[<- h1]
 refine K A s fs (hA.mono h4) ⟨h6,fun a ha=>?_,fun a ha=>?_⟩ ⟨W.top,fun a o q=>W.at_ _ (fsub _ (fzO_mem q))⟩ h2.symm h3.symm (fun p hp=>W.at_ p (sub p hp)) hf ⟨W.ff,fun a ha q=>W.off a ha (sub_fst sub a q),W.fnb,fun a ha=>?_⟩ R fun C' h' t' hC Wk'=>?_
 ·obtain⟨o,q⟩:=fst_mem ha
  exact W.nb _ (sub _ q)
 ·obtain⟨o,q⟩:=fst_mem ha
  cases e:fzO w c σ a with
  | none=>rfl
  | some o'=>exact absurd rfl (D.apart (a,o) (h5 _ q) (a,o') (fzO_mem e))
 ·cases e:fzO w c σ a with
  | none=>rfl
  | some o'=>exact absurd (mem_fst (fsub _ (fzO_mem e))) (W.off a ha)
 ·obtain⟨e1,e2,e3,σ',q,hs,hc⟩:=h7 C' hC
  rw[e3]
  have U:=Upd.of_wk Wk' (e1.trans h2).symm
  have hp':∀a∈C'.pre.map (·.1),a∈(objs w c σ).map (·.1):=by rw[e2]; exact sub_fst sub
  have ndn:((objs w c σ).map (·.1)++C'.news.map (·.1)).Nodup:=by
   refine nodup_append.mpr ⟨W.nd,Wk'.fresh.1,fun a ha b hb e=>?_⟩
   subst e
   obtain⟨o,z⟩:=fst_mem ha
   obtain⟨o',z'⟩:=fst_mem hb
   have l1:a < s.heap.objs.size:=W.lt z
   have l2:C'.n<=a:=Wk'.fresh.2 _ z'
   rw[e1,h2] at l2
   exact absurd (lt_of_lt_of_le l1 l2) (lt_irrefl _)
  have z:=W.upd (os':=objs w c σ') hp' U (nodup_le' ndn fun a=>by rw[count_append]; exact hc a) fun p hp=>?_
  ·exact hR h' t' _ ⟨σ',rfl,q⟩ z.1 z.2
  ·rcases hs p hp with r | r | r
   ·exact .inl (mem_append_left _ r)
   ·exact .inl (mem_append_right _ r)
   ·exact .inr (e2▸r)
end
def lisX_c (w:World)(n t:Nat)(sk sd lm tb td cn ls sl ln po pd tk:Addr) (T:Nat)(iss:Int)(ti:Nat) (g:Int)(tg:Nat)(l x:Int)(tf tl tx:Nat)(lt:List Ent)(e1:Nat)(lc:List Ent)(e2:Nat)(ll:List Ent)(e3:Nat) (p:Int)(ta tp tm:Nat):Con:=⟨Code.call (.ref 1294) ⟨[.ref sk,.int 0 ta,.int p tp,.int 2 tm],[]⟩,n,t,skO w sk sd lm tb td cn ls sl ln po pd tk T iss ti g tg l x tf tl tx lt e1 lc e2 ll e3,[oI 1431 sd,oSd w T lm po tb sl ln iss ti (g+1) (t+9),oI 161 pd,oPd w (T+8) tk l x tf tl tx,(dD (dI lt) e1),oI 1173 td,oTd w T cn ls,(dD (dC w lc) e2),(dD (dL w ll) e3)],[],.ok .next,0,15+((tlisX_c w (n+3) (t+15) tb td cn ls T ll e3 ta p tp (g+1) (t+9)).dt),7⟩
def lisX_h0:List Nat:=hx 14 [0x664b7d52ddb70ddea962d2f34ce31f81d09167ae575abb9f9326128f606d18102fa0c9915b156c27f7c6b4,0x339db6412020ed8997dc92c827b0587be0a9091b4de414b354fd5]
theorem lisX_ok (w ba bb fz n t sk sd lm tb td cn ls sl ln po pd tk T iss ti g tg l x tf tl tx lt e1 lc e2 ll e3 p ta tp tm)(hD:FailOk (wR w ba bb) fz (tlisX_c w (n+3) (t+15) tb td cn ls T ll e3 ta p tp (g+1) (t+9)) (zipA (tlisX_c w (n+3) (t+15) tb td cn ls T ll e3 ta p tp (g+1) (t+9)).pre (tlisX_c w (n+3) (t+15) tb td cn ls T ll e3 ta p tp (g+1) (t+9)).post))(hb:∀b∈([(decide (p≤65535),true),(decide (1≤p),true)]:List (Bool×Bool)),b.1=b.2):FailOk (wR w ba bb) fz (lisX_c w n t sk sd lm tb td cn ls sl ln po pd tk T iss ti g tg l x tf tl tx lt e1 lc e2 ll e3 p ta tp tm) (zipA (lisX_c w n t sk sd lm tb td cn ls sl ln po pd tk T iss ti g tg l x tf tl tx lt e1 lc e2 ll e3 p ta tp tm).pre (lisX_c w n t sk sd lm tb td cn ls sl ln po pd tk T iss ti g tg l x tf tl tx lt e1 lc e2 ll e3 p ta tp tm).post):=by
 cases ba<;>exact fail_of (N:=223) (w0:=0) (u0:=1) (ro:=[]) (hs:=lisX_h0) (bs:=[(decide (p≤65535),true),(decide (1≤p),true)]) (by kernel_rfl) (by kernel_rfl) (by kernel_rfl) (cons:=[]) nm nm hb (fun A s R fs hA O hf hfs hR=>
  fin_pass' (env:=envF w.params 1294 n []) (L:=n) (js:=[9,0,1,2,3,4,5,6,7,8]) (idx:=[5,6,8]) (D:=tlisX_c w (n+3) (t+15) tb td cn ls T ll e3 ta p tp (g+1) (t+9)) (ys:=[(sk,oI 1431 sd),(sd,oSd w T lm po tb sl ln iss ti (g+1) (t+9)),(po,oI 161 pd),(pd,oPd w (T+8) tk l x tf tl tx),(tk,(dD (dI lt) e1)),(tb,oI 1173 td),(td,oTd w T cn ls),(cn,(dD (dC w lc) e2)),(ls,(dD (dL w ll) e3))]) (oF:=oX w.params "frame" 5 [("self",t,.ref sk),("address",t+1,.int 0 ta),("port",t+2,.int p tp),("most_waiting",t+3,.int 2 tm),("number",t+13,.int (g+1) (t+9))]) (bs:=[(decide (p≤65535),true),(decide (1≤p),true)]) (by kernel_rfl) (by decide) (by kernel_rfl) (by intro v; kernel_rfl) rfl rfl (by decide) (by kernel_rfl) (by show t+(15+((tlisX_c w (n+3) (t+15) tb td cn ls T ll e3 ta p tp (g+1) (t+9)).dt))=t+15+((tlisX_c w (n+3) (t+15) tb td cn ls T ll e3 ta p tp (g+1) (t+9)).dt); omega) (by kernel_rfl) (not_mod (by kernel_rfl)) (by intro vs h; cases h) (by show n≤n; omega) hD O hA hf hfs hR)
def dmX_g0:List Nat:=hx 26 [0x763e77832a7832407d6f61b982d8593129b02cc24c22d1a84117c6523317281a9a8a87c0]
def dmX_h0:List Nat:=hx 48 [0x4f9fbeb3b95f4941bc0efc6ffa6f2229b702f545eab050f0613e84aca2ff9b1b59db84a085a53ba838c6f2a89c9f021290c520a0ac71]
section
def dmX_c (w:World)(n t:Nat)(sk sd lm tb td cn ls sl ln po pd tk:Addr) (T:Nat)(iss:Int)(ti:Nat) (g:Int)(tg:Nat)(l x:Int)(tf tl tx:Nat)(lt:List Ent)(e1:Nat)(lc:List Ent)(e2:Nat)(ll:List Ent)(e3:Nat)(bk hd hr:Addr)(q1 q2 q3 q4:Nat) (m:Int)(tm:Nat) (a:Int)(ta eb:Nat)(bh br:List Ent)(f1 f2:Nat) (p:Int)(tw tp:Nat)(cl cm:Addr)(rest:List Value)(NL ML:Nat):Con:=⟨Code.call (.ref 1473) ⟨[.ref sk,.ref bk,.str "listen" tw,.int p tp],[]⟩,n,t,skO w sk sd lm tb td cn ls sl ln po pd tk T iss ti g tg l x tf tl tx lt e1 lc e2 ll e3++[(bk,dD (dSt w (bkL q1 q2 q3 q4 m tm a ta hd hr)) eb),(hd,dD (dI bh) f1),(hr,dD (dI br) f2),(1470,tabL cl (.int 989 0::.int 37 0::.ref cm::rest))],[],[],.ok .next,0,0,10⟩
def dmX_D (w:World)(n t:Nat)(sk sd lm tb td cn ls sl ln po pd tk:Addr) (T:Nat)(iss:Int)(ti:Nat) (g:Int)(tg:Nat)(l x:Int)(tf tl tx:Nat)(lt:List Ent)(e1:Nat)(lc:List Ent)(e2:Nat)(ll:List Ent)(e3:Nat)(bk hd hr:Addr)(q1 q2 q3 q4:Nat) (m:Int)(tm:Nat) (a:Int)(ta eb:Nat)(bh br:List Ent)(f1 f2:Nat) (p:Int)(tw tp:Nat)(cl cm:Addr)(rest:List Value)(NL ML:Nat) (z:Int)(tz e1' dt:Nat):Con:=lisX_c w (n+7) (t+7) sk sd lm tb td cn ls sl ln po pd tk T iss ti g tg l x tf tl tx lt e1 lc e2 ll e3 p (t+5) tp (t+6)
def dmX_y0 (w:World)(n t:Nat)(sk sd lm tb td cn ls sl ln po pd tk:Addr) (T:Nat)(iss:Int)(ti:Nat) (g:Int)(tg:Nat)(l x:Int)(tf tl tx:Nat)(lt:List Ent)(e1:Nat)(lc:List Ent)(e2:Nat)(ll:List Ent)(e3:Nat)(bk hd hr:Addr)(q1 q2 q3 q4:Nat) (m:Int)(tm:Nat) (a:Int)(ta eb:Nat)(bh br:List Ent)(f1 f2:Nat) (p:Int)(tw tp:Nat)(cl cm:Addr)(rest:List Value)(NL ML:Nat):List (Addr×Obj):=[(sk,oI 1431 sd),(sd,oSd w T lm po tb sl ln iss ti g tg),(po,oI 161 pd),(pd,oPd w (T+8) tk l x tf tl tx),(tk,(dD (dI lt) e1)),(tb,oI 1173 td),(td,oTd w T cn ls),(cn,(dD (dC w lc) e2)),(ls,(dD (dL w ll) e3)),(bk,(dD (dSt w (bkL q1 q2 q3 q4 m tm a ta hd hr)) eb)),(hd,(dD (dI bh) f1)),(hr,(dD (dI br) f2)),(1470,⟨.none,none,.fields ({
 toList:=
  Value.int 983 0::Value.int 32 0::Value.ref cl::Value.int 989 0::Value.int 37 0::Value.ref cm::rest}),#[]⟩),(n+1,(oCell (.ref sk))),(n+2,(oCell (.int p tp)))]
def dmX_y (w:World)(n t:Nat)(sk sd lm tb td cn ls sl ln po pd tk:Addr) (T:Nat)(iss:Int)(ti:Nat) (g:Int)(tg:Nat)(l x:Int)(tf tl tx:Nat)(lt:List Ent)(e1:Nat)(lc:List Ent)(e2:Nat)(ll:List Ent)(e3:Nat)(bk hd hr:Addr)(q1 q2 q3 q4:Nat) (m:Int)(tm:Nat) (a:Int)(ta eb:Nat)(bh br:List Ent)(f1 f2:Nat) (p:Int)(tw tp:Nat)(cl cm:Addr)(rest:List Value)(NL ML:Nat) (z:Int)(tz e1':Nat):List (Addr×Obj):=[(sk,oI 1431 sd),(sd,oSd w T lm po tb sl ln iss ti (g+1) (t+16)),(po,oI 161 pd),(pd,oPd w (T+8) tk l x tf tl tx),(tk,(dD (dI lt) e1)),(tb,oI 1173 td),(td,oTd w T cn ls),(cn,(dD (dC w lc) e2)),(ls,(dD (dL w ll) e3)),(bk,(dD (dSt w (bkL q1 q2 q3 q4 m tm a ta hd hr)) eb)),(hd,(dD (dI bh) f1)),(hr,(dD (dI br) f2)),(1470,⟨.none,none,.fields ({
 toList:=
  Value.int 983 0::Value.int 32 0::Value.ref cl::Value.int 989 0::Value.int 37 0::Value.ref cm::rest}),#[]⟩),(n+1,(oCell (.ref sk))),(n+2,(oCell (.int p tp)))]
def dmX_e (w:World)(n t:Nat)(sk sd lm tb td cn ls sl ln po pd tk:Addr) (T:Nat)(iss:Int)(ti:Nat) (g:Int)(tg:Nat)(l x:Int)(tf tl tx:Nat)(lt:List Ent)(e1:Nat)(lc:List Ent)(e2:Nat)(ll:List Ent)(e3:Nat)(bk hd hr:Addr)(q1 q2 q3 q4:Nat) (m:Int)(tm:Nat) (a:Int)(ta eb:Nat)(bh br:List Ent)(f1 f2:Nat) (p:Int)(tw tp:Nat)(cl cm:Addr)(rest:List Value)(NL ML:Nat) (z:Int)(tz e1':Nat)(a':Int)(ta':Nat):Con:=⟨Code.call (.ref 1473) ⟨[.ref sk,.ref bk,.str "listen" tw,.int p tp],[]⟩,n,t,skO w sk sd lm tb td cn ls sl ln po pd tk T iss ti g tg l x tf tl tx lt e1 lc e2 ll e3++[(bk,dD (dSt w (bkL q1 q2 q3 q4 m tm a ta hd hr)) eb),(hd,dD (dI bh) f1),(hr,dD (dI br) f2),(1470,tabL cl (.int 989 0::.int 37 0::.ref cm::rest))],[oI 1431 sd,oSd w T lm po tb sl ln iss ti (g+1) (t+16),oI 161 pd,oPd w (T+8) tk l x tf tl tx,(dD (dI lt) e1),oI 1173 td,oTd w T cn ls,(dD (dC w lc) e2),(dD (dL w ll) e3),(dD (dSt w (bkL q1 q2 q3 q4 m tm a ta hd hr)) eb),(dD (dI bh) f1),(dD (dI br) f2),⟨.none,none,.fields ({
 toList:=
  Value.int 983 0::Value.int 32 0::Value.ref cl::Value.int 989 0::Value.int 37 0::Value.ref cm::rest}),#[]⟩],[],.ok (.ret (.bool true)),0,0,10⟩
def dmX_d (w:World)(n t:Nat)(sk sd lm tb td cn ls sl ln po pd tk:Addr) (T:Nat)(iss:Int)(ti:Nat) (g:Int)(tg:Nat)(l x:Int)(tf tl tx:Nat)(lt:List Ent)(e1:Nat)(lc:List Ent)(e2:Nat)(ll:List Ent)(e3:Nat)(bk hd hr:Addr)(q1 q2 q3 q4:Nat) (m:Int)(tm:Nat) (a:Int)(ta eb:Nat)(bh br:List Ent)(f1 f2:Nat) (p:Int)(tw tp:Nat)(cl cm:Addr)(rest:List Value)(NL ML:Nat) (z:Int)(tz e1':Nat)(a':Int)(ta' dm2 dt2 n' t':Nat)(sl0:Array (Option Value)):Con:=⟨Code.call (.ref 1473) ⟨[.ref sk,.ref bk,.str "listen" tw,.int p tp],[]⟩,n',t',(n,({oX w.params "frame" 2 [("book",t,.ref bk),("way",t+1,.str "listen" tw)] with slots:=sl0}:Obj))::dmX_y w n t sk sd lm tb td cn ls sl ln po pd tk T iss ti g tg l x tf tl tx lt e1 lc e2 ll e3 bk hd hr q1 q2 q3 q4 m tm a ta eb bh br f1 f2 p tw tp cl cm rest NL ML z tz e1',[({oX w.params "frame" 4 [("book",t,.ref bk),("way",t+1,.str "listen" tw),("is_there",t'+2,.bool true),("told",t'+3,.none)] with slots:=sl0}:Obj),oI 1431 sd,oSd w T lm po tb sl ln iss ti (g+1) (t+16),oI 161 pd,oPd w (T+8) tk l x tf tl tx,(dD (dI lt) e1),oI 1173 td,oTd w T cn ls,(dD (dC w lc) e2),(dD (dL w ll) e3),(dD (dSt w (bkL q1 q2 q3 q4 m tm a ta hd hr)) eb),(dD (dI bh) f1),(dD (dI br) f2),⟨.none,none,.fields ({
 toList:=
  Value.int 983 0::Value.int 32 0::Value.ref cl::Value.int 989 0::Value.int 37 0::Value.ref cm::rest}),#[]⟩,(oCell (.ref sk)),(oCell (.int p tp))],[],.ok (.ret (.bool true)),2+dm2+4,4,10⟩
def dmX_XX (w:World)(n t:Nat)(sk sd lm tb td cn ls sl ln po pd tk:Addr) (T:Nat)(iss:Int)(ti:Nat) (g:Int)(tg:Nat)(l x:Int)(tf tl tx:Nat)(lt:List Ent)(e1:Nat)(lc:List Ent)(e2:Nat)(ll:List Ent)(e3:Nat)(bk hd hr:Addr)(q1 q2 q3 q4:Nat) (m:Int)(tm:Nat) (a:Int)(ta eb:Nat)(bh br:List Ent)(f1 f2:Nat) (p:Int)(tw tp:Nat)(cl cm:Addr)(rest:List Value)(NL ML:Nat)(ba bb:Bool)(fz:Addr->Option Obj):Out:=xOf (wR w ba bb) fz (dmX_c w n t sk sd lm tb td cn ls sl ln po pd tk T iss ti g tg l x tf tl tx lt e1 lc e2 ll e3 bk hd hr q1 q2 q3 q4 m tm a ta eb bh br f1 f2 p tw tp cl cm rest NL ML) [] [(cm,lamD NL ML 989)] 106 0 1 dmX_g0
abbrev dp2dmX (w:World) (n:Nat) (X:Out):Prop:=is2 (tS X).κ=true/\(tS X).c.envs= [envX (tS X).c]/\(kTop (tS X).κ).1.envs= [envT w (n+5)]/\(kTop (kTop (tS X).κ).2.2).1.envs= [envF w.params 1473 n [("port",n+2),("sockets",n+1)]]/\(envX (tS X).c).frame=some (n+6)/\isMod (envX (tS X).c).scope.kind=false
abbrev dp3dmX (w:World) (n:Nat) (X:Out) (v:Value):Prop:=(tS X).k (.error v)=xExpr (envX (tS X).c) (.raise v)/\(kTop (tS X).κ).2.1 (.error v)=xTry w (n+5) v
theorem dmX_1 (w n t sk sd lm tb td cn ls sl ln po pd tk T iss ti g tg l x tf tl tx lt e1 lc e2 ll e3 bk hd hr q1 q2 q3 q4 m tm a ta eb bh br f1 f2 p tw tp cl cm rest NL ML ba bb fz z tz e1' dt):callL 10 (dmX_D w n t sk sd lm tb td cn ls sl ln po pd tk T iss ti g tg l x tf tl tx lt e1 lc e2 ll e3 bk hd hr q1 q2 q3 q4 m tm a ta eb bh br f1 f2 p tw tp cl cm rest NL ML z tz e1' dt).nd [19,18,13,0,1,2,3,4,5,6,7,8,9,10,11,12,14,15] (dmX_XX w n t sk sd lm tb td cn ls sl ln po pd tk T iss ti g tg l x tf tl tx lt e1 lc e2 ll e3 bk hd hr q1 q2 q3 q4 m tm a ta eb bh br f1 f2 p tw tp cl cm rest NL ML ba bb fz)=callR (dmX_D w n t sk sd lm tb td cn ls sl ln po pd tk T iss ti g tg l x tf tl tx lt e1 lc e2 ll e3 bk hd hr q1 q2 q3 q4 m tm a ta eb bh br f1 f2 p tw tp cl cm rest NL ML z tz e1' dt).code
  ((n+6,oX w.params "frame" 0 [])::(n+5,oX w.params "frame" 1 [("deed",t+4,.ref (n+4))])::(n,oX w.params "frame" 2 [("book",t,.ref bk),("way",t+1,.str "listen" tw)])::dmX_y0 w n t sk sd lm tb td cn ls sl ln po pd tk T iss ti g tg l x tf tl tx lt e1 lc e2 ll e3 bk hd hr q1 q2 q3 q4 m tm a ta eb bh br f1 f2 p tw tp cl cm rest NL ML) (dmX_D w n t sk sd lm tb td cn ls sl ln po pd tk T iss ti g tg l x tf tl tx lt e1 lc e2 ll e3 bk hd hr q1 q2 q3 q4 m tm a ta eb bh br f1 f2 p tw tp cl cm rest NL ML z tz e1' dt).n (dmX_D w n t sk sd lm tb td cn ls sl ln po pd tk T iss ti g tg l x tf tl tx lt e1 lc e2 ll e3 bk hd hr q1 q2 q3 q4 m tm a ta eb bh br f1 f2 p tw tp cl cm rest NL ML z tz e1' dt).t
  [envX (tS (dmX_XX w n t sk sd lm tb td cn ls sl ln po pd tk T iss ti g tg l x tf tl tx lt e1 lc e2 ll e3 bk hd hr q1 q2 q3 q4 m tm a ta eb bh br f1 f2 p tw tp cl cm rest NL ML ba bb fz)).c,envT w (n+5),envF w.params 1473 n [("port",n+2),("sockets",n+1)]] [] (dmX_XX w n t sk sd lm tb td cn ls sl ln po pd tk T iss ti g tg l x tf tl tx lt e1 lc e2 ll e3 bk hd hr q1 q2 q3 q4 m tm a ta eb bh br f1 f2 p tw tp cl cm rest NL ML ba bb fz):=by cases ba<;>cases bb<;>kernel_rfl
theorem dmX_2 (w n t sk sd lm tb td cn ls sl ln po pd tk T iss ti g tg l x tf tl tx lt e1 lc e2 ll e3 bk hd hr q1 q2 q3 q4 m tm a ta eb bh br f1 f2 p tw tp cl cm rest NL ML ba bb fz):dp2dmX w n (dmX_XX w n t sk sd lm tb td cn ls sl ln po pd tk T iss ti g tg l x tf tl tx lt e1 lc e2 ll e3 bk hd hr q1 q2 q3 q4 m tm a ta eb bh br f1 f2 p tw tp cl cm rest NL ML ba bb fz):=
 ⟨by cases ba<;>cases bb<;>kernel_rfl,by cases ba<;>cases bb<;>kernel_rfl,by cases ba<;>cases bb<;>kernel_rfl,by cases ba<;>cases bb<;>kernel_rfl,by cases ba<;>cases bb<;>kernel_rfl,by cases ba<;>cases bb<;>kernel_rfl⟩
theorem dmX_3 (w n t sk sd lm tb td cn ls sl ln po pd tk T iss ti g tg l x tf tl tx lt e1 lc e2 ll e3 bk hd hr q1 q2 q3 q4 m tm a ta eb bh br f1 f2 p tw tp cl cm rest NL ML ba bb fz v):dp3dmX w n (dmX_XX w n t sk sd lm tb td cn ls sl ln po pd tk T iss ti g tg l x tf tl tx lt e1 lc e2 ll e3 bk hd hr q1 q2 q3 q4 m tm a ta eb bh br f1 f2 p tw tp cl cm rest NL ML ba bb fz) v:=
 ⟨by cases ba<;>cases bb<;>kernel_rfl,by cases ba<;>cases bb<;>kernel_rfl⟩
theorem dmX_4 (w n t sk sd lm tb td cn ls sl ln po pd tk T iss ti g tg l x tf tl tx lt e1 lc e2 ll e3 bk hd hr q1 q2 q3 q4 m tm a ta eb bh br f1 f2 p tw tp cl cm rest NL ML ba bb fz z tz e1' a' ta' dm2 dt2 n' t' ob sl0):dp4 (wR w ba bb) fz (dmX_d w n t sk sd lm tb td cn ls sl ln po pd tk T iss ti g tg l x tf tl tx lt e1 lc e2 ll e3 bk hd hr q1 q2 q3 q4 m tm a ta eb bh br f1 f2 p tw tp cl cm rest NL ML z tz e1' a' ta' dm2 dt2 n' t' sl0) (dmX_XX w n t sk sd lm tb td cn ls sl ln po pd tk T iss ti g tg l x tf tl tx lt e1 lc e2 ll e3 bk hd hr q1 q2 q3 q4 m tm a ta eb bh br f1 f2 p tw tp cl cm rest NL ML ba bb fz) [cGetS w n' (t'+1) bk (bkL q1 q2 q3 q4 m tm a ta hd hr) eb (Str.ofString "heard") t' (Value.ref hr),cVals n' (t'+2) hr (dI br) f2,cIterV (n'+1) (t'+2) n' hr (dI br) f2,cHas (n'+2) (t'+2) (n'+1) hr (dI br) f2 p tp ob true dm2] [(cm,lamD NL ML 989)] 110 dmX_h0 (n'+2+dm2+4) (t'+4):=
 ⟨by cases ba<;>cases bb<;>kernel_rfl,by cases ba<;>cases bb<;>kernel_rfl⟩
end
section
end
theorem sub_take {l l':List (Addr×Obj)} (k:Nat) (e:l'.tail.take k=l):∀p∈l,p∈l':=fun p hp=>List.mem_of_mem_tail (List.mem_of_mem_take (e▸hp))
theorem dmX_ok (w n t sk sd lm tb td cn ls sl ln po pd tk T iss ti g tg l x tf tl tx lt e1 lc e2 ll e3 bk hd hr q1 q2 q3 q4 m tm a ta eb bh br f1 f2 p tw tp cl cm rest NL ML ba bb fz z tz e1' dt a')(hro:∀p∈([(cm,lamD NL ML 989)]:List (Addr×Obj)),fz p.1=some p.2)(hD:FailC (wR w ba bb) fz (dmX_D w n t sk sd lm tb td cn ls sl ln po pd tk T iss ti g tg l x tf tl tx lt e1 lc e2 ll e3 bk hd hr q1 q2 q3 q4 m tm a ta eb bh br f1 f2 p tw tp cl cm rest NL ML z tz e1' dt))
  (hN:∀n' t':Nat,∃ (ob:Obj) (dm2:Nat),∀D∈([cGetS w n' (t'+1) bk (bkL q1 q2 q3 q4 m tm a ta hd hr) eb (Str.ofString "heard") t' (Value.ref hr),cVals n' (t'+2) hr (dI br) f2,cIterV (n'+1) (t'+2) n' hr (dI br) f2,cHas (n'+2) (t'+2) (n'+1) hr (dI br) f2 p tp ob true dm2]:List Con),ConOk (wR w ba bb) fz D):
  WkP (wR w ba bb) fz (dmX_c w n t sk sd lm tb td cn ls sl ln po pd tk T iss ti g tg l x tf tl tx lt e1 lc e2 ll e3 bk hd hr q1 q2 q3 q4 m tm a ta eb bh br f1 f2 p tw tp cl cm rest NL ML) (fun C'=>∃ta',C'=dmX_e w n t sk sd lm tb td cn ls sl ln po pd tk T iss ti g tg l x tf tl tx lt e1 lc e2 ll e3 bk hd hr q1 q2 q3 q4 m tm a ta eb bh br f1 f2 p tw tp cl cm rest NL ML z tz e1' a' ta'):=by
 have E:=dmX_1 w n t sk sd lm tb td cn ls sl ln po pd tk T iss ti g tg l x tf tl tx lt e1 lc e2 ll e3 bk hd hr q1 q2 q3 q4 m tm a ta eb bh br f1 f2 p tw tp cl cm rest NL ML ba bb fz z tz e1' dt
 obtain⟨a1,a2,a3,a4,a5,a6⟩:=dmX_2 w n t sk sd lm tb td cn ls sl ln po pd tk T iss ti g tg l x tf tl tx lt e1 lc e2 ll e3 bk hd hr q1 q2 q3 q4 m tm a ta eb bh br f1 f2 p tw tp cl cm rest NL ML ba bb fz
 refine wkp_of (N:=106) (w0:=0) (u0:=1) (ro:=[(cm,lamD NL ML 989)]) (cons:=[]) (hs:=dmX_g0) (bs:=[]) (by kernel_rfl) (by kernel_rfl) (Prod.ext (congrArg (fun x:CallT=>x.2.1) E) (congrArg (fun x:CallT=>x.2.2.1) E)) nm hro nm fun A s R fs hA O hf hfs hR=>?_
 refine fin_tried (nd:=10) (ys:=dmX_y w n t sk sd lm tb td cn ls sl ln po pd tk T iss ti g tg l x tf tl tx lt e1 lc e2 ll e3 bk hd hr q1 q2 q3 q4 m tm a ta eb bh br f1 f2 p tw tp cl cm rest NL ML z tz e1') (idx:=[0,1,2,3,4,5,6,7,8]) E (by decide) a1 (fun v=>(dmX_3 w n t sk sd lm tb td cn ls sl ln po pd tk T iss ti g tg l x tf tl tx lt e1 lc e2 ll e3 bk hd hr q1 q2 q3 q4 m tm a ta eb bh br f1 f2 p tw tp cl cm rest NL ML ba bb fz v).1) (fun v=>(dmX_3 w n t sk sd lm tb td cn ls sl ln po pd tk T iss ti g tg l x tf tl tx lt e1 lc e2 ll e3 bk hd hr q1 q2 q3 q4 m tm a ta eb bh br f1 f2 p tw tp cl cm rest NL ML ba bb fz v).2) a2 a3 a4 (by kernel_rfl) (by decide) (by kernel_rfl) (by kernel_rfl) a5 (not_mod a6) (by kernel_rfl) (not_mod (by kernel_rfl))
  (by intro vs h; cases h) (by intro vs h; cases h) (by intro vs h; cases h) (by show n<=n+6; omega) (by show n<=n+5; omega) (le_refl n) hD O hA hf hfs fun h' K M=>?_
 obtain⟨sl0,hsl⟩:=M.fr
 obtain⟨ob,dm2,KN⟩:=hN h'.objs.size ((dmX_D w n t sk sd lm tb td cn ls sl ln po pd tk T iss ti g tg l x tf tl tx lt e1 lc e2 ll e3 bk hd hr q1 q2 q3 q4 m tm a ta eb bh br f1 f2 p tw tp cl cm rest NL ML z tz e1' dt).t+(dmX_D w n t sk sd lm tb td cn ls sl ln po pd tk T iss ti g tg l x tf tl tx lt e1 lc e2 ll e3 bk hd hr q1 q2 q3 q4 m tm a ta eb bh br f1 f2 p tw tp cl cm rest NL ML z tz e1' dt).dt)
 obtain⟨e1x,e2x⟩:=dmX_4 w n t sk sd lm tb td cn ls sl ln po pd tk T iss ti g tg l x tf tl tx lt e1 lc e2 ll e3 bk hd hr q1 q2 q3 q4 m tm a ta eb bh br f1 f2 p tw tp cl cm rest NL ML ba bb fz z tz e1' a' 0 dm2 0 h'.objs.size ((dmX_D w n t sk sd lm tb td cn ls sl ln po pd tk T iss ti g tg l x tf tl tx lt e1 lc e2 ll e3 bk hd hr q1 q2 q3 q4 m tm a ta eb bh br f1 f2 p tw tp cl cm rest NL ML z tz e1' dt).t+(dmX_D w n t sk sd lm tb td cn ls sl ln po pd tk T iss ti g tg l x tf tl tx lt e1 lc e2 ll e3 bk hd hr q1 q2 q3 q4 m tm a ta eb bh br f1 f2 p tw tp cl cm rest NL ML z tz e1' dt).dt) ob sl0
 exact mid_go (C:=dmX_e w n t sk sd lm tb td cn ls sl ln po pd tk T iss ti g tg l x tf tl tx lt e1 lc e2 ll e3 bk hd hr q1 q2 q3 q4 m tm a ta eb bh br f1 f2 p tw tp cl cm rest NL ML z tz e1' a' 0) (C':=dmX_d w n t sk sd lm tb td cn ls sl ln po pd tk T iss ti g tg l x tf tl tx lt e1 lc e2 ll e3 bk hd hr q1 q2 q3 q4 m tm a ta eb bh br f1 f2 p tw tp cl cm rest NL ML z tz e1' a' 0 dm2 0 h'.objs.size ((dmX_D w n t sk sd lm tb td cn ls sl ln po pd tk T iss ti g tg l x tf tl tx lt e1 lc e2 ll e3 bk hd hr q1 q2 q3 q4 m tm a ta eb bh br f1 f2 p tw tp cl cm rest NL ML z tz e1' dt).t+(dmX_D w n t sk sd lm tb td cn ls sl ln po pd tk T iss ti g tg l x tf tl tx lt e1 lc e2 ll e3 bk hd hr q1 q2 q3 q4 m tm a ta eb bh br f1 f2 p tw tp cl cm rest NL ML z tz e1' dt).dt) sl0) (mid_as M rfl rfl) hsl rfl rfl rfl rfl rfl
  (sub_take 13 (by kernel_rfl)) rfl (by kernel_rfl) e1x (by show h'.objs.size+2+dm2+4=h'.objs.size+(2+dm2+4); omega) rfl (by kernel_rfl) e2x KN hro nm hA O hfs K (fun h' t' W=>hR _ h' t' ⟨_,rfl⟩ W)
def dtX_g0:List Nat:=hx 26 [0xa6d920995f4ddfd58574f13ea0e6190c215d32b446bd02295d5a3e001e07cb87c0]
def dtX_h0:List Nat:=hx 48 [0x3225aaf2bf120c195aaf09068b2fb3607d12079ba21a017851eb70c75e85f182353a2b37c060]
section
def dtX_c (w:World)(n t:Nat)(sk sd lm tb td cn ls sl ln po pd tk:Addr) (T:Nat)(iss:Int)(ti:Nat) (g:Int)(tg:Nat)(l x:Int)(tf tl tx:Nat)(lt:List Ent)(e1:Nat)(lc:List Ent)(e2:Nat)(ll:List Ent)(e3:Nat)(bk hd hr:Addr)(q1 q2 q3 q4:Nat) (m:Int)(tm:Nat) (a:Int)(ta eb:Nat)(bh br:List Ent)(f1 f2:Nat) (p:Int)(tw tp:Nat)(cl:Addr)(rest:List Value)(NL ML:Nat):Con:=⟨Code.call (.ref 1473) ⟨[.ref sk,.ref bk,.str "connect" tw,.int p tp],[]⟩,n,t,skO w sk sd lm tb td cn ls sl ln po pd tk T iss ti g tg l x tf tl tx lt e1 lc e2 ll e3++[(bk,dD (dSt w (bkL q1 q2 q3 q4 m tm a ta hd hr)) eb),(hd,dD (dI bh) f1),(hr,dD (dI br) f2),(1470,tabL cl rest)],[],[],.ok .next,0,0,16⟩
def dtX_D (w:World)(n t:Nat)(sk sd lm tb td cn ls sl ln po pd tk:Addr) (T:Nat)(iss:Int)(ti:Nat) (g:Int)(tg:Nat)(l x:Int)(tf tl tx:Nat)(lt:List Ent)(e1:Nat)(lc:List Ent)(e2:Nat)(ll:List Ent)(e3:Nat)(bk hd hr:Addr)(q1 q2 q3 q4:Nat) (m:Int)(tm:Nat) (a:Int)(ta eb:Nat)(bh br:List Ent)(f1 f2:Nat) (p:Int)(tw tp:Nat)(cl:Addr)(rest:List Value)(NL ML:Nat) (z:Int)(tz e1' dt:Nat):Con:=connX_c w (n+7) (t+8) sk sd lm tb td cn ls sl ln po pd tk T iss ti g tg l x tf tl tx lt e1 lc e2 ll e3 z tz e1' dt (t+4) (t+5) (t+6) (t+7)
def dtX_y0 (w:World)(n t:Nat)(sk sd lm tb td cn ls sl ln po pd tk:Addr) (T:Nat)(iss:Int)(ti:Nat) (g:Int)(tg:Nat)(l x:Int)(tf tl tx:Nat)(lt:List Ent)(e1:Nat)(lc:List Ent)(e2:Nat)(ll:List Ent)(e3:Nat)(bk hd hr:Addr)(q1 q2 q3 q4:Nat) (m:Int)(tm:Nat) (a:Int)(ta eb:Nat)(bh br:List Ent)(f1 f2:Nat) (p:Int)(tw tp:Nat)(cl:Addr)(rest:List Value)(NL ML:Nat):List (Addr×Obj):=[(sk,oI 1431 sd),(sd,oSd w T lm po tb sl ln iss ti g tg),(po,oI 161 pd),(pd,oPd w (T+8) tk l x tf tl tx),(tk,(dD (dI lt) e1)),(tb,oI 1173 td),(td,oTd w T cn ls),(cn,(dD (dC w lc) e2)),(ls,(dD (dL w ll) e3)),(bk,(dD (dSt w (bkL q1 q2 q3 q4 m tm a ta hd hr)) eb)),(hd,(dD (dI bh) f1)),(hr,(dD (dI br) f2)),(1470,⟨.none,none,.fields ({toList:=Value.int 983 0::Value.int 32 0::Value.ref cl::rest}),#[]⟩),(n+1,(oCell (.ref sk))),(n+2,(oCell (.int p tp)))]
def dtX_y (w:World)(n t:Nat)(sk sd lm tb td cn ls sl ln po pd tk:Addr) (T:Nat)(iss:Int)(ti:Nat) (g:Int)(tg:Nat)(l x:Int)(tf tl tx:Nat)(lt:List Ent)(e1:Nat)(lc:List Ent)(e2:Nat)(ll:List Ent)(e3:Nat)(bk hd hr:Addr)(q1 q2 q3 q4:Nat) (m:Int)(tm:Nat) (a:Int)(ta eb:Nat)(bh br:List Ent)(f1 f2:Nat) (p:Int)(tw tp:Nat)(cl:Addr)(rest:List Value)(NL ML:Nat) (z:Int)(tz e1':Nat):List (Addr×Obj):=[(sk,oI 1431 sd),(sd,oSd w T lm po tb sl ln iss ti g tg),(po,oI 161 pd),(pd,oPd w (T+8) tk l z tf tl tz),(tk,(dD (dI lt) e1')),(tb,oI 1173 td),(td,oTd w T cn ls),(cn,(dD (dC w lc) e2)),(ls,(dD (dL w ll) e3)),(bk,(dD (dSt w (bkL q1 q2 q3 q4 m tm a ta hd hr)) eb)),(hd,(dD (dI bh) f1)),(hr,(dD (dI br) f2)),(1470,⟨.none,none,.fields ({toList:=Value.int 983 0::Value.int 32 0::Value.ref cl::rest}),#[]⟩),(n+1,(oCell (.ref sk))),(n+2,(oCell (.int p tp)))]
def dtX_e (w:World)(n t:Nat)(sk sd lm tb td cn ls sl ln po pd tk:Addr) (T:Nat)(iss:Int)(ti:Nat) (g:Int)(tg:Nat)(l x:Int)(tf tl tx:Nat)(lt:List Ent)(e1:Nat)(lc:List Ent)(e2:Nat)(ll:List Ent)(e3:Nat)(bk hd hr:Addr)(q1 q2 q3 q4:Nat) (m:Int)(tm:Nat) (a:Int)(ta eb:Nat)(bh br:List Ent)(f1 f2:Nat) (p:Int)(tw tp:Nat)(cl:Addr)(rest:List Value)(NL ML:Nat) (z:Int)(tz e1':Nat)(a':Int)(ta':Nat):Con:=⟨Code.call (.ref 1473) ⟨[.ref sk,.ref bk,.str "connect" tw,.int p tp],[]⟩,n,t,skO w sk sd lm tb td cn ls sl ln po pd tk T iss ti g tg l x tf tl tx lt e1 lc e2 ll e3++[(bk,dD (dSt w (bkL q1 q2 q3 q4 m tm a ta hd hr)) eb),(hd,dD (dI bh) f1),(hr,dD (dI br) f2),(1470,tabL cl rest)],[oI 1431 sd,oSd w T lm po tb sl ln iss ti g tg,oI 161 pd,oPd w (T+8) tk l z tf tl tz,(dD (dI lt) e1'),oI 1173 td,oTd w T cn ls,(dD (dC w lc) e2),(dD (dL w ll) e3),(dD (dSt w (bkL q1 q2 q3 q4 m tm a' ta' hd hr)) eb),(dD (dI bh) f1),(dD (dI br) f2),⟨.none,none,.fields ({toList:=Value.int 983 0::Value.int 32 0::Value.ref cl::rest}),#[]⟩],[],.ok (.ret (.bool true)),0,0,16⟩
def dtX_d (w:World)(n t:Nat)(sk sd lm tb td cn ls sl ln po pd tk:Addr) (T:Nat)(iss:Int)(ti:Nat) (g:Int)(tg:Nat)(l x:Int)(tf tl tx:Nat)(lt:List Ent)(e1:Nat)(lc:List Ent)(e2:Nat)(ll:List Ent)(e3:Nat)(bk hd hr:Addr)(q1 q2 q3 q4:Nat) (m:Int)(tm:Nat) (a:Int)(ta eb:Nat)(bh br:List Ent)(f1 f2:Nat) (p:Int)(tw tp:Nat)(cl:Addr)(rest:List Value)(NL ML:Nat) (z:Int)(tz e1':Nat)(a':Int)(ta' dm2 dt2 n' t':Nat)(sl0:Array (Option Value)):Con:=⟨Code.call (.ref 1473) ⟨[.ref sk,.ref bk,.str "connect" tw,.int p tp],[]⟩,n',t',(n,({oX w.params "frame" 2 [("book",t,.ref bk),("way",t+1,.str "connect" tw)] with slots:=sl0}:Obj))::dtX_y w n t sk sd lm tb td cn ls sl ln po pd tk T iss ti g tg l x tf tl tx lt e1 lc e2 ll e3 bk hd hr q1 q2 q3 q4 m tm a ta eb bh br f1 f2 p tw tp cl rest NL ML z tz e1',[({oX w.params "frame" 4 [("book",t,.ref bk),("way",t+1,.str "connect" tw),("due",t'+dt2,.none),("told",t'+dt2+1,.none)] with slots:=sl0}:Obj),oI 1431 sd,oSd w T lm po tb sl ln iss ti g tg,oI 161 pd,oPd w (T+8) tk l z tf tl tz,(dD (dI lt) e1'),oI 1173 td,oTd w T cn ls,(dD (dC w lc) e2),(dD (dL w ll) e3),(dD (dSt w (bkL q1 q2 q3 q4 m tm a' ta' hd hr)) eb),(dD (dI bh) f1),(dD (dI br) f2),⟨.none,none,.fields ({toList:=Value.int 983 0::Value.int 32 0::Value.ref cl::rest}),#[]⟩,(oCell (.ref sk)),(oCell (.int p tp))],[],.ok (.ret (.bool true)),dm2+4,dt2+2,16⟩
def dtX_XX (w:World)(n t:Nat)(sk sd lm tb td cn ls sl ln po pd tk:Addr) (T:Nat)(iss:Int)(ti:Nat) (g:Int)(tg:Nat)(l x:Int)(tf tl tx:Nat)(lt:List Ent)(e1:Nat)(lc:List Ent)(e2:Nat)(ll:List Ent)(e3:Nat)(bk hd hr:Addr)(q1 q2 q3 q4:Nat) (m:Int)(tm:Nat) (a:Int)(ta eb:Nat)(bh br:List Ent)(f1 f2:Nat) (p:Int)(tw tp:Nat)(cl:Addr)(rest:List Value)(NL ML:Nat)(ba bb:Bool)(fz:Addr->Option Obj):Out:=xOf (wR w ba bb) fz (dtX_c w n t sk sd lm tb td cn ls sl ln po pd tk T iss ti g tg l x tf tl tx lt e1 lc e2 ll e3 bk hd hr q1 q2 q3 q4 m tm a ta eb bh br f1 f2 p tw tp cl rest NL ML) [] [(cl,lamC NL ML 983)] 97 0 1 dtX_g0
abbrev dp2dtX (w:World) (n:Nat) (X:Out):Prop:=is2 (tS X).κ=true/\(tS X).c.envs= [envX (tS X).c]/\(kTop (tS X).κ).1.envs= [envT w (n+5)]/\(kTop (kTop (tS X).κ).2.2).1.envs= [envF w.params 1473 n [("port",n+2),("sockets",n+1)]]/\(envX (tS X).c).frame=some (n+6)/\isMod (envX (tS X).c).scope.kind=false
abbrev dp3dtX (w:World) (n:Nat) (X:Out) (v:Value):Prop:=(tS X).k (.error v)=xExpr (envX (tS X).c) (.raise v)/\(kTop (tS X).κ).2.1 (.error v)=xTry w (n+5) v
theorem dtX_1 (w n t sk sd lm tb td cn ls sl ln po pd tk T iss ti g tg l x tf tl tx lt e1 lc e2 ll e3 bk hd hr q1 q2 q3 q4 m tm a ta eb bh br f1 f2 p tw tp cl rest NL ML ba bb fz z tz e1' dt):callL 16 (dtX_D w n t sk sd lm tb td cn ls sl ln po pd tk T iss ti g tg l x tf tl tx lt e1 lc e2 ll e3 bk hd hr q1 q2 q3 q4 m tm a ta eb bh br f1 f2 p tw tp cl rest NL ML z tz e1' dt).nd [19,18,13,0,1,2,3,4,5,6,7,8,9,10,11,12,14,15] (dtX_XX w n t sk sd lm tb td cn ls sl ln po pd tk T iss ti g tg l x tf tl tx lt e1 lc e2 ll e3 bk hd hr q1 q2 q3 q4 m tm a ta eb bh br f1 f2 p tw tp cl rest NL ML ba bb fz)=callR (dtX_D w n t sk sd lm tb td cn ls sl ln po pd tk T iss ti g tg l x tf tl tx lt e1 lc e2 ll e3 bk hd hr q1 q2 q3 q4 m tm a ta eb bh br f1 f2 p tw tp cl rest NL ML z tz e1' dt).code
  ((n+6,oX w.params "frame" 0 [])::(n+5,oX w.params "frame" 1 [("deed",t+3,.ref (n+4))])::(n,oX w.params "frame" 2 [("book",t,.ref bk),("way",t+1,.str "connect" tw)])::dtX_y0 w n t sk sd lm tb td cn ls sl ln po pd tk T iss ti g tg l x tf tl tx lt e1 lc e2 ll e3 bk hd hr q1 q2 q3 q4 m tm a ta eb bh br f1 f2 p tw tp cl rest NL ML) (dtX_D w n t sk sd lm tb td cn ls sl ln po pd tk T iss ti g tg l x tf tl tx lt e1 lc e2 ll e3 bk hd hr q1 q2 q3 q4 m tm a ta eb bh br f1 f2 p tw tp cl rest NL ML z tz e1' dt).n (dtX_D w n t sk sd lm tb td cn ls sl ln po pd tk T iss ti g tg l x tf tl tx lt e1 lc e2 ll e3 bk hd hr q1 q2 q3 q4 m tm a ta eb bh br f1 f2 p tw tp cl rest NL ML z tz e1' dt).t
  [envX (tS (dtX_XX w n t sk sd lm tb td cn ls sl ln po pd tk T iss ti g tg l x tf tl tx lt e1 lc e2 ll e3 bk hd hr q1 q2 q3 q4 m tm a ta eb bh br f1 f2 p tw tp cl rest NL ML ba bb fz)).c,envT w (n+5),envF w.params 1473 n [("port",n+2),("sockets",n+1)]] [] (dtX_XX w n t sk sd lm tb td cn ls sl ln po pd tk T iss ti g tg l x tf tl tx lt e1 lc e2 ll e3 bk hd hr q1 q2 q3 q4 m tm a ta eb bh br f1 f2 p tw tp cl rest NL ML ba bb fz):=by cases ba<;>cases bb<;>kernel_rfl
theorem dtX_2 (w n t sk sd lm tb td cn ls sl ln po pd tk T iss ti g tg l x tf tl tx lt e1 lc e2 ll e3 bk hd hr q1 q2 q3 q4 m tm a ta eb bh br f1 f2 p tw tp cl rest NL ML ba bb fz):dp2dtX w n (dtX_XX w n t sk sd lm tb td cn ls sl ln po pd tk T iss ti g tg l x tf tl tx lt e1 lc e2 ll e3 bk hd hr q1 q2 q3 q4 m tm a ta eb bh br f1 f2 p tw tp cl rest NL ML ba bb fz):=
 ⟨by cases ba<;>cases bb<;>kernel_rfl,by cases ba<;>cases bb<;>kernel_rfl,by cases ba<;>cases bb<;>kernel_rfl,by cases ba<;>cases bb<;>kernel_rfl,by cases ba<;>cases bb<;>kernel_rfl,by cases ba<;>cases bb<;>kernel_rfl⟩
theorem dtX_3 (w n t sk sd lm tb td cn ls sl ln po pd tk T iss ti g tg l x tf tl tx lt e1 lc e2 ll e3 bk hd hr q1 q2 q3 q4 m tm a ta eb bh br f1 f2 p tw tp cl rest NL ML ba bb fz v):dp3dtX w n (dtX_XX w n t sk sd lm tb td cn ls sl ln po pd tk T iss ti g tg l x tf tl tx lt e1 lc e2 ll e3 bk hd hr q1 q2 q3 q4 m tm a ta eb bh br f1 f2 p tw tp cl rest NL ML ba bb fz) v:=
 ⟨by cases ba<;>cases bb<;>kernel_rfl,by cases ba<;>cases bb<;>kernel_rfl⟩
theorem dtX_4 (w n t sk sd lm tb td cn ls sl ln po pd tk T iss ti g tg l x tf tl tx lt e1 lc e2 ll e3 bk hd hr q1 q2 q3 q4 m tm a ta eb bh br f1 f2 p tw tp cl rest NL ML ba bb fz z tz e1' a' ta' dm2 dt2 n' t' sl0):dp4 (wR w ba bb) fz (dtX_d w n t sk sd lm tb td cn ls sl ln po pd tk T iss ti g tg l x tf tl tx lt e1 lc e2 ll e3 bk hd hr q1 q2 q3 q4 m tm a ta eb bh br f1 f2 p tw tp cl rest NL ML z tz e1' a' ta' dm2 dt2 n' t' sl0) (dtX_XX w n t sk sd lm tb td cn ls sl ln po pd tk T iss ti g tg l x tf tl tx lt e1 lc e2 ll e3 bk hd hr q1 q2 q3 q4 m tm a ta eb bh br f1 f2 p tw tp cl rest NL ML ba bb fz) [cNxt w n' t' bk hd hr q1 q2 q3 q4 m tm a ta eb bh br f1 f2 a' ta' .none dm2 dt2] [(cl,lamC NL ML 983)] 86 dtX_h0 (n'+dm2+4) (t'+dt2+2):=
 ⟨by cases ba<;>cases bb<;>kernel_rfl,by cases ba<;>cases bb<;>kernel_rfl⟩
end
theorem dtX_ok (w n t sk sd lm tb td cn ls sl ln po pd tk T iss ti g tg l x tf tl tx lt e1 lc e2 ll e3 bk hd hr q1 q2 q3 q4 m tm a ta eb bh br f1 f2 p tw tp cl rest NL ML ba bb fz z tz e1' dt a')(hro:∀p∈([(cl,lamC NL ML 983)]:List (Addr×Obj)),fz p.1=some p.2)(hD:FailC (wR w ba bb) fz (dtX_D w n t sk sd lm tb td cn ls sl ln po pd tk T iss ti g tg l x tf tl tx lt e1 lc e2 ll e3 bk hd hr q1 q2 q3 q4 m tm a ta eb bh br f1 f2 p tw tp cl rest NL ML z tz e1' dt))
  (hN:∀n' t',∃ta' dm2 dt2,ConOk (wR w ba bb) fz (cNxt w n' t' bk hd hr q1 q2 q3 q4 m tm a ta eb bh br f1 f2 a' ta' .none dm2 dt2)):
  WkP (wR w ba bb) fz (dtX_c w n t sk sd lm tb td cn ls sl ln po pd tk T iss ti g tg l x tf tl tx lt e1 lc e2 ll e3 bk hd hr q1 q2 q3 q4 m tm a ta eb bh br f1 f2 p tw tp cl rest NL ML) (fun C'=>∃ta',C'=dtX_e w n t sk sd lm tb td cn ls sl ln po pd tk T iss ti g tg l x tf tl tx lt e1 lc e2 ll e3 bk hd hr q1 q2 q3 q4 m tm a ta eb bh br f1 f2 p tw tp cl rest NL ML z tz e1' a' ta'):=by
 have E:=dtX_1 w n t sk sd lm tb td cn ls sl ln po pd tk T iss ti g tg l x tf tl tx lt e1 lc e2 ll e3 bk hd hr q1 q2 q3 q4 m tm a ta eb bh br f1 f2 p tw tp cl rest NL ML ba bb fz z tz e1' dt
 obtain⟨a1,a2,a3,a4,a5,a6⟩:=dtX_2 w n t sk sd lm tb td cn ls sl ln po pd tk T iss ti g tg l x tf tl tx lt e1 lc e2 ll e3 bk hd hr q1 q2 q3 q4 m tm a ta eb bh br f1 f2 p tw tp cl rest NL ML ba bb fz
 refine wkp_of (N:=97) (w0:=0) (u0:=1) (ro:=[(cl,lamC NL ML 983)]) (cons:=[]) (hs:=dtX_g0) (bs:=[]) (by kernel_rfl) (by kernel_rfl) (Prod.ext (congrArg (fun x:CallT=>x.2.1) E) (congrArg (fun x:CallT=>x.2.2.1) E)) nm hro nm fun A s R fs hA O hf hfs hR=>?_
 refine fin_tried (nd:=16) (ys:=dtX_y w n t sk sd lm tb td cn ls sl ln po pd tk T iss ti g tg l x tf tl tx lt e1 lc e2 ll e3 bk hd hr q1 q2 q3 q4 m tm a ta eb bh br f1 f2 p tw tp cl rest NL ML z tz e1') (idx:=[0,1,2,3,4,5,6,7,8]) E (by decide) a1 (fun v=>(dtX_3 w n t sk sd lm tb td cn ls sl ln po pd tk T iss ti g tg l x tf tl tx lt e1 lc e2 ll e3 bk hd hr q1 q2 q3 q4 m tm a ta eb bh br f1 f2 p tw tp cl rest NL ML ba bb fz v).1) (fun v=>(dtX_3 w n t sk sd lm tb td cn ls sl ln po pd tk T iss ti g tg l x tf tl tx lt e1 lc e2 ll e3 bk hd hr q1 q2 q3 q4 m tm a ta eb bh br f1 f2 p tw tp cl rest NL ML ba bb fz v).2) a2 a3 a4 (by kernel_rfl) (by decide) (by kernel_rfl) (by kernel_rfl) a5 (not_mod a6) (by kernel_rfl) (not_mod (by kernel_rfl))
  (by intro vs h; cases h) (by intro vs h; cases h) (by intro vs h; cases h) (by show n<=n+6; omega) (by show n<=n+5; omega) (le_refl n) hD O hA hf hfs fun h' K M=>?_
 obtain⟨sl0,hsl⟩:=M.fr
 obtain⟨ta',dm2,dt2,KN⟩:=hN h'.objs.size ((dtX_D w n t sk sd lm tb td cn ls sl ln po pd tk T iss ti g tg l x tf tl tx lt e1 lc e2 ll e3 bk hd hr q1 q2 q3 q4 m tm a ta eb bh br f1 f2 p tw tp cl rest NL ML z tz e1' dt).t+(dtX_D w n t sk sd lm tb td cn ls sl ln po pd tk T iss ti g tg l x tf tl tx lt e1 lc e2 ll e3 bk hd hr q1 q2 q3 q4 m tm a ta eb bh br f1 f2 p tw tp cl rest NL ML z tz e1' dt).dt)
 obtain⟨e1x,e2x⟩:=dtX_4 w n t sk sd lm tb td cn ls sl ln po pd tk T iss ti g tg l x tf tl tx lt e1 lc e2 ll e3 bk hd hr q1 q2 q3 q4 m tm a ta eb bh br f1 f2 p tw tp cl rest NL ML ba bb fz z tz e1' a' ta' dm2 dt2 h'.objs.size ((dtX_D w n t sk sd lm tb td cn ls sl ln po pd tk T iss ti g tg l x tf tl tx lt e1 lc e2 ll e3 bk hd hr q1 q2 q3 q4 m tm a ta eb bh br f1 f2 p tw tp cl rest NL ML z tz e1' dt).t+(dtX_D w n t sk sd lm tb td cn ls sl ln po pd tk T iss ti g tg l x tf tl tx lt e1 lc e2 ll e3 bk hd hr q1 q2 q3 q4 m tm a ta eb bh br f1 f2 p tw tp cl rest NL ML z tz e1' dt).dt) sl0
 exact mid_go (C:=dtX_e w n t sk sd lm tb td cn ls sl ln po pd tk T iss ti g tg l x tf tl tx lt e1 lc e2 ll e3 bk hd hr q1 q2 q3 q4 m tm a ta eb bh br f1 f2 p tw tp cl rest NL ML z tz e1' a' ta') (C':=dtX_d w n t sk sd lm tb td cn ls sl ln po pd tk T iss ti g tg l x tf tl tx lt e1 lc e2 ll e3 bk hd hr q1 q2 q3 q4 m tm a ta eb bh br f1 f2 p tw tp cl rest NL ML z tz e1' a' ta' dm2 dt2 h'.objs.size ((dtX_D w n t sk sd lm tb td cn ls sl ln po pd tk T iss ti g tg l x tf tl tx lt e1 lc e2 ll e3 bk hd hr q1 q2 q3 q4 m tm a ta eb bh br f1 f2 p tw tp cl rest NL ML z tz e1' dt).t+(dtX_D w n t sk sd lm tb td cn ls sl ln po pd tk T iss ti g tg l x tf tl tx lt e1 lc e2 ll e3 bk hd hr q1 q2 q3 q4 m tm a ta eb bh br f1 f2 p tw tp cl rest NL ML z tz e1' dt).dt) sl0) (mid_as M rfl rfl) hsl rfl rfl rfl rfl rfl
  (sub_take 13 (by kernel_rfl)) rfl (by kernel_rfl) e1x rfl rfl (by kernel_rfl) e2x (all1 KN) hro nm hA O hfs K (fun h' t' W=>hR _ h' t' ⟨_,rfl⟩ W)
section
end
def conn_c (w:World)(n t:Nat)(sk sd lm lmd tb td cn ls sl ln po pd tk:Addr)(K k T:Nat)(iss:Int)(ti:Nat) (g:Int)(tg:Nat)(l x:Int)(tf tl tx:Nat)(lt:List Ent)(e1:Nat)(lc:List Ent)(e2:Nat)(ll:List Ent)(e3:Nat)(lk:List Ent)(e4:Nat) (r:Int)(tr:Nat) (z:Int)(tz e1' dm dt ta tb' tc td':Nat):Con:=⟨Code.call (.ref 1302) ⟨[.ref sk,.int 1 ta,.int 2 tb',.int 80 tc,.int 0 td'],[]⟩,n,t,skO w sk sd lm tb td cn ls sl ln po pd tk T iss ti g tg l x tf tl tx lt e1 lc e2 ll e3++[(ln,dD (dI lk) e4)],[oI 1431 sd,oSd w T lm po tb sl ln ((iss+64).fmod 65536) (t+8+dt+18) (g+1) (t+8+dt+4),oI 161 pd,oPd w (T+8) tk l z tf tl tz,(dD (dI (lt++[(r,tr,Value.bool true)])) e1'),oI 1173 td,oTd w T cn ls,(dD (dC w (lc++[(r,n+2+dm+59,Value.int (g+1) (t+8+dt+4))])) (e2+1)),(dD (dL w ll) e3),(dD (dI (lk++[(g+1,t+8+dt+4,Value.ref (n+2+dm+61))])) (e4+1))],((keyO (n+2+dm) r tr ta tb' tc).drop 1++((linkO w (n+2+dm) (t+8+dt) lm k ((iss+64).fmod 65536) r tr td').take 37++((keyO (n+2+dm) r tr ta tb' tc).take 1++(((linkO w (n+2+dm) (t+8+dt) lm k ((iss+64).fmod 65536) r tr td').drop 37).take 2++((outO w (n+2+dm) (t+8+dt) k ((iss+64).fmod 65536) r tr ta tb' tc g).take 2++((linkO w (n+2+dm) (t+8+dt) lm k ((iss+64).fmod 65536) r tr td').drop 39++(outO w (n+2+dm) (t+8+dt) k ((iss+64).fmod 65536) r tr ta tb' tc g).drop 2)))))),.ok (.ret (.ref (n+2+dm+146))),2+(dm)+147,8+(dt)+539,13⟩
def conn_h0:List Nat:=hx 149 [0x34e62d721cef721873a9bdbc1032a0908f49a557ecd942cda162b53fe7436bbbadf8c4338a7cf8247c83d60804003e5aacfacf55e880a983a08a9388bffa2eb7a349accedb6455733798f547e8e08ea49c7,0x34e620c56c1438e85ce9f43be4f9ffa934e2849da13fe9d8cdfcbc9993cf82db6e26196a73381822e145aab208fd4d11ea1ef65e58d3fc99c1ec4dfd57d31505e5582355a0c8e68ded4f6722bf2fbec9e69,0x34e620c56c6ede399e2d57f5dcb6a8b5351d3b66a9cd062b68a93b4912749dd6135debc5c9c5c1cf3fb052a06cbf8754da6b3f633adda0169ea522a823246fd27407cd1faa8bea7f17a0afbc99013f173b3,0x3c0cc242acfa665732029e8b30e90f0e80a8069260d3f218dee7d7cefe365d2c6d6fdbb78a7f0f0112cbeffcafb7876d59823343fb94dda535a214f56688dd686d515ac90448da00aaebe5cf63bb0aca774,0x34e6d314e2c8b59a3e12c8d4fc08c1bd36f4d4eb5dcee224bfec626adc8d8c10dfb2f8cd9cc63f1d442071260ac896324304f0a969e4901c701bb00af2ab1e2592599a830893ad5bdcbef0c9902dd733351,0x34e620c565e44202158ba5ff6af0d65f243617ea45cb89b5029415c9f6fa7ced486426589ad970bb98001cfab655165f2db14ef10441bcfbbde9fb0093e5663d3f95e39a5669604f4e08c290f2d34adce5c,0x3cc1ed2dcaffcaebdde23855df23025a77a25c4bf9999977c36604735e0fa160085499d762bfc6e2a8ae1d0fae629920a115793bcf2fcae071a6b43ef408c9248f015721ffa0b913bcff5b14d1502d591c6,0x35f6c9ce86de8b7f8c8794ce60a104ff1cd91f9547e1c2f72bbd03978a90858d5d04ff66f499b6c6c825193319294dd42e61e71c6d65e25e58c27d77f43d06f8ac7abec4b603770de0aca7a0ad9dbfeef9b,0x34f5fcc95e0a7aa037b3b3ef6f6b9e69242a683064f3346fb5287b9a1d99bf16cd46109989ff1d619d4eec512744fe71f7ff77638ca104ea45d94623b5b9a089b683f9bec80639085ce67906eb50301cd85,0x35f6c9ce86de8b7f8c8794ce60a104ff1cd91f9547e1c2f72bbd03978a90858d5d04ff66f499b6c6c8283e7f4c9ca1812ade01db48b9a9ed1f6854112d97f0a126ddb755543a78438e384e3c302d3296d0e,0x34f4287c2af95c20cf261bf257df91b3fbea861e451fe7ac41f5a018543a3defbcda0eb0f8162c0c0cce8c5557cb4e26cbffa00aabeab52220ff511e37bdc5d14c2034eb34a7ad1d9dfa9990b93ee1e8c4d,0x3afacb0c58e0eddecbc3e2a9fd8cabb54c31f70f91849f879c7c48df78cb5f50f3b25c4b98643f7c9e94479cf138e23adab04eba6f9baee451fb25de8e291371aeec8239c30df80b9c8bc27b8216845a6b6,0x34e6bceebc5f9c205b7773a88f9bfd1b58056b5d15a0c21125fe408efe3489fb6012b43c718b188d4471ebbe6d09673611cf728cb02f9316a23061aa589ba6b5f778e58c9120100ae8ae7e7dffcaa73b849,0x34e6435b0a5d011314124f0b1f528722f212552d011656e432242a1ea847bbbb3e972cd6a08c33d7ee83e235233043a0fb93d673385e2aadf2ab0526446da28ac5f5059d3cad86db9f7caf9fe425a18a0e7,0x34fa42198bcae1eb62a0ebc062a5dbb704070d0294381241005bccfbae775ac761a9b660f1b289720498b84f967b5372cbfc9dac419a1c296f212511310b6909a7e1fae6c53317a28e0919d6a6e152adefd,0x34e62106aba0eaa78040765b3df56a8458c54bb7676a2d0ab6f996d3996498d742e29200cbeb42f62810940222851061464e3da2fbfdc884b1ef6621672a51fb536e64bfb434559eea1ccc6f17678d8c0b4,0x34e621063864e858bd4449cae6ebaa18faa6efebb14599d796c1449936054372cb23cd204c65c481702db99c824c134b11a4598c06fd06bd422d5efd1b7bfafea37ea265bf940bbb96b8789e3d680f89336,0x354103c870e7b45bbbbcea92ea3104369aaf04559508ae17e0c1a01d07d7eb1b24fa5bb868a04ba491957d3b4fbc24b69d9535c137a29c85f67acd3e20519b81987f5817f4eba881d5b3b6d31ce62248fb4,0x34e6210c1bd8dd06fd9d498a1024fb12b6ce3252b6ddbc2898ece00932b17fc64c13f677db8c95e0c0dc7fea7d8b04e151d40eaf8f98bc696a6040df7e75e53b63600c1102e1ac5a704e35e277055a9025b,0x34fdeacb594faf0c9f705512baf9a50b35911b076257fd4be99b3588192d1574ef2dde9457a228969d3f49fa239babb605a7001b499b98a54deff3789b708b849011d999b9f9b1ca63e21d1b456bd6ff4b8,0x34f2540027874d973c81440154c2a02a638be0ea67cc553201d808d2111012de41ae9f52f1fc6611e35f5d75f8006b21e71ca642248789c85bf97d50cd43c3a3a1dc51fc4fb916fd234ae1c76f961078c48,0x34e6211106250411d93144dd24d0cff24cfbfb5c250357c1ded5cfba23772b99eea860031405ffcf355b853da0dc7a334bc5608884a6eac84a6a0eaf91d78e4e156c3884bef3eff464a2cc92bfc340a1c7b,0x34e620e96979977fe4ebc3a3e20c56560b0769817fabcff66c31cf273756b26b3bd68b9d8074cbe284c036fbd13d766f05ff4cb1470af6c33103d7adac2b1de27944a5f2bf18c0f436e2b194d4c692593af,0x3651de13dff30e407653dfd52c80f64c3fd194db6791e16e48d5e2ce39bbcfb0fe8ca6100e97846021cbab1d861d149434c7a4212987fcebedbeb8bd7c2a90dbc6bf94f8071ae7c6bb30a1f2e3b9b8fcc1b,0x350368859e0b4b3c57476248971c60e8ed4ec21922b0c93525f3d71af9eab3df0675ea2ca3ca9df897b0db4afd30ee063da9589236870d52726c1442a6be73583c129aede3bc3aabca9e8210bed0a51e542,0x46123e2c7052e64b4e117e77e59ac8459b228f38bfdd1f0602da4f05dae868b9c433d984cb7c556165700a5873f797aaa76084d434d3991313e3ee1f126fd18f9fc083a5e73c322ec9db9515efdd4e696dc,0x460e2b724edf6db062c554d34edafd84edcc65b314c83ec66033f2f0f115121ee1a0155f5d35336efaf250a62da0003c5b7cfc68c29b372751070fef71720afdb0e10dc43aeeff633de6c788f50d905b3b5,0x4558656032d221a36fa6a628b95e28ddcbefcde9c568b3543cce7c743821ae3a49eada366c727ec907e281146497ce22f1cbe641bdad05935fbaaf4196d0eededcbe0ca2d105b5d449da58ffb08578ed92b,0x3501c43dc05d3f8c35273849f5c431dcab53d7ca9754bb5f3b426c46d0e92e94a1a1158b7feb40cb1c8c82ed977e307f7a38d9ce063c3c36ca8c42d6258180b18391c85ee92f24210a570026067f49b13b4,0x34e635bb3def607907b4b20b1715674f6d26e495a5744cbaa19678c30f53416e0a4e0fb5480691cbe396032f1e76bffabdbc578469ab1d81f225d6e53fc89bda3024405357eeb0b62e3a99ccf2ee9e6d46d,0x34e635d0f254a7527da402cb857399c15ca61fe149fa6c45d77e8e949b35dbe7a3c99f8cc0a954f7e1c645ba0e91df9be3e63ba17ed11326f827f8a831a1894982ba5f0cfe0282903aa962e6f482dac3eea,0x4e1f5bbd1ed1646e8fd377a444ea83ef4e737f14fdad6e90383fdae0f55ccd377bf20b77afd2899289f6122b622d7d6339318c927a06514b1c62f1dc683a912266af4ba1f36f4022ac2ce4ea0d55ea08761,0x3514308aa4641279220cc3bedc313322aad78ca5697b4b76ba6b2ffced6d1d3ad832f2bd5053dc4439ccd26e34c3e1a7a5bb4438f708fdcf84d7c1c5aca594794fafb6f6bcb9beb1bfa7591208f060b0b93,0x359c82f30566863260edc1a1b3b810af831e65c40e0ca23490f14113cb1d0c47afe874de05bc4065faafc86db570b129074f296fc696034896833f50ca99cd7810991b78dbf786ae55589e9c4f27018f4bf,0x3515695c7e1965b93692ac2375fc34fb85c209ebf3cbe67f310992bb3c9f4592ad8eb27d203fa716bbaf2667a1ea5597cdf3aaf9a8e55774620e5a450805b2d6ef6eeaacb21b06aa60cedb2d524f9d90974,0x34f268d1fc68193c1e144c17c190dc025355c809b7c5a63f582fa6e723aa917ba2f34f4ed6a8cc71e49f0dae20eb1bd8287170d62be50c6b407f0215d451b77d62ebb980c3163a617831e126cedb355f130,0x354103c8714f9eebc96f7b3277d896eea2ac9ede55e5368d31d37e253da4fc59f1cfbff158c3d0f523a337d630c906bc568bb004ff0b3ac3b75419146ec86aaaddf37adffb59632e0a363f0a2ed25709a7c,0x34f42852c16886602f05e6a2dbd96a8b0b9307997bdfe6f52223f4f3f49626f908e94cede81ab38525431b27d9012218515ae85e5496d860f442729f7068b690a483368f59bb1476a9e183b517fadfb8ac5,0x34f3a148ad035e6abd8c392590def64eec3fb9e0b90a8daf2a6fa640d7e61ba40f7ce5441f0f5e8c1fb594144364a291912a108579c954e614a3db6ea51d7952fa10c5a7107d4b774aba31a99a7dd50a298,0x547f0d71f4c4640afa136fe6a15a71a25957dff0c0da017c342dcca0f6ac96842ab4a0cfc30e32f5a61daa77fbdd8c1152d7ff4794acd5514a0a370f0e74a64e68d9cb41fad664f6f82de05d5034c1c17e9,0x34f268d1fc68193c1e144c17d2f9a031f6893237c41ec3d13c6f403aaac24af9a4ee72bfbfc60d5411acf7b7bff8cad92f31dfd6e3a7973d27d7af38229f6a0421493f47ffe1336a47e8bbed0ccfe8c9231,0x34e67fbe75b5488d8762f9774ae3f6a70fd36549a9494d988293eb045f870287b07d41dc58c662815b6d06f5dbf479953184c8070d3968deba2e68351f0e8a9ebe319400b8e92b001c57bc64a498deb10de,0x352387a0fed854e107518cfb2dc303499795b51ba7e38f924beded214e8e323e14bee911dc05faced9cca7d82afa7ff08aebdd675107a2d570fdb5291eff647f699f6dea3710d0791d7d5142af3e159bbee,0x352736e2d93c94247313ac1c19319946ec8ac41d0a8687dfead2a68b17247cc92e7ca1d882e66b9d2b7b834d139511d18d9ef7abaef6453e95a3c622af6a7b1e4ab35f0817e91daa93b4d84ce8d5a190b43,0x3c0c101900a086c90d153f673c4a93494a2f2380704a066978d9c8707eab3b2e0227a56590978ca98d794ed9e77f2b637b1be96538198ea5396d9578a40456e86a12bda24c7326be90d0eebdb89cafadcd6,0x34e6365d4e07fb54599a2801ae04431715ab48440b2d6619bf12ed97ecb8a7f0cf3c5f4c49682b8d0cb67f172218385039e246287e961e989a12e35d4c9a4b0d43fc72affe1f680c816ad850328604e440b,0x5e1577b846149ec28a628af10df3d3281f1f60cda8c2ae51024d83ce21d7dc6c3722255aa090e4b83c656847a8a2c79df76a5c9ec2cd2f90826538e5813884fe9db148dfd2139b8cbea51ae91bb2ddecc05,0x34e69a58b1cf7550bd0851442465d2130732897645e015b8b0ba43e983f479d7ea2082f0c7a1c270afc01c63cddb9173e7250b1a0c1d1221664d35de042d91dc4ba05831ccd35c8c8fac1ae0b161e1d4969,0x5e14fe27c7e96f1a78f539df0b0042d566b1107f6bb3e08229f9534f9c50391f90c7b9dc16a717bd2efd49b38f892a610cdc773d194e7dbb9ece7cb02e55fe2308a7d3e77d78f0aa54979aa929181e8bd31,0x34e620ea5e31339489388a4df10b6e769717931ee1635337366eebbba7ae8420964be5462fddb181c4f36adc4c7ff822e27ea21a67587dc31f5e896484acf42a0716c87d8e283c6992c3e772eaab74fee21,0x41ae0d33610058d4affbdb9cb21d3d2f65fd9e8f95e52fba254a1cefbe36fa70b4ebda998509c3bd4fc2badc9f6f44cce03380c6fe51e140f2de259475d530804d56e26c380de4ba8ddfe7806b3b53a617b,0x34f43c3c8c75fb5e3213929c82440de0745b96e3edd6d5c457cc765092bfbfc18d264792fdee4b90a28bbb2284807bfd9b4f7b7de0440a31e429f741bab5e546e19c797ddd7920b20e95b4ae9bca6fe64f9,0x34e76176d1e3c99a265699b15461cbc790cc35c2bb650e012a667ff54bb7fb3bff6b54f5b6fcf620c02457c0d447b2564379e44c9c5e09aa7f3face913ca7c68ebb04dc1dd8bb679b7fc46959bb66d121a8,0x34e64fee8bfedfe58423c7463fe8c1450c2d584eb29469f700580927d2a939f0cd9012236530278026bdeed9ed33cacd3ec0ca8688b4e29809412241a33d005b338b7d317c5b39040ae693fc487e2d3557b,0x4153502b3e03122325c9901be71253f24f16fc9c641a954b859fa4c80dbbf66748ea54cd174c83537fbb82c1a10d91415e092f1988c6aff935aaff973b462ff0f7b0156e1edacb56400444112ff2cb9f288,0x34fa42ea6af7a491e909ae9059af0ff66bb3bb88d818732d1a1ede431a4a9eccd28b7f57fc88a9843bc8a2e4fbe3b78c26bd2359adecc46ac8f9d60339aa14bc823f5ec0d9dfa1fdc423a5550b46e3b0bb3,0x41ae0d33610460c97ff1e7219a7cf3116aec76b8eb4b97a66c00159b290427826739aaf65283cf456d7b0a6fab953458d034cb76b31ecf5de2470aee7ac446deadf118bd80e0ca6d17ffc0344461187c0cc,0x34e62100d49cd5ebbe5aafeca08194f45a65568627009718050d72ae9f105fe39caa3a5f73c529f2f2e677175188c41c2b5e48a4cadf0110a3c16ff365b78b8375047cb30b6f48623581e2ab8bdf9ab63c7,0x3510d413e5178a37dca0c919ac68f7c8e2d2e9832c83e40071fbe01be2803b8f57ef53764d62eb522af76aedd03ece0f52068ed81983aa2163dbab7fb43fc0344f50a83807eed96c7488ae72c94a916107d,0x4de9f7f5a8fc2cda9fe894ec70fe4993e38332e81eba6557ec47b211c50cc494c96061cb3dd9f4d349cf5ec2231c2f975ecf44e16540f85f743b91b28b1fb575f2f843099da78c1b05cd2c07e2787674c75,0x4945ad649408996c494909573b4f34ae538395dcb2db44351291e07658dd3899dbaa3444d15619f081464d828debc7a491010580d2d3c37dbaeb1bde1c3afb87c1e46e1b5354fbf75be3f56388627f9f123,0x44a0983e76201a379f56cd1692b45bca9d20d1be352cd1d169273b9b87b7fb3cec87d61fcc7fd3e7b58ca1575e735fb269c6eb54fca94dbfce83630bd6ad897739ceda41e731e608d66147a3c78c8a2a780,0x353d5bdcb7c581ca752696d7ca5e7d5bae928c3108caa4e9e3ebee91d477b610aebd564e943f29a5a217947da680efd9ff11ad0babea9b5b7005e565e77ff568f3996a4b88703845be309c96026c5537cd3,0x35020d720b8fd1af2e94f7486c51a84bae4d05e3399b2381a6452bab62758aa1c89d729dd494304594e560a49c14bb6b89e8548a3e5a8fdbc2d9a05a09872aa8955442b948f3df5d530]
def conn_h1:List Nat:=conn_h0.take 2172++hx 144 [0x3448c6f6a84d9ac44192e731f02e49716cf201e1d9bbbb298c375d31c37495bc68ef9c10e87e699abd9a843842785c63badf4d1e15bea7d170fc98476a35d70ba9768b1f92d676f47fe885bff11d7b1b00,0x3448c5d26cd4a37afa636319a7c1765cbe6d69c66acd3adf83ae3c32062b3700ad9c760548b0b28c5d9090213cbe734382cfbd39d748f5b63850684117014fad52511abf58e23537326d09310f02fa0b00,0x3630c0dc7faccf3d461b6ac87bf7d2f5ed916258770c77c5aa9be534a5e91d2a6c4bfe750c4cbfcfa2eb081b10367a733366c031be57fdbd80ab5ca5a1fd1f9f0223c81cc6501c139eb4c54bf71fca4ef0,0x34600890021ebaad34f55a7e6f1b271665763c0f37701f74a0f0905d15a312aec264dbc4f52f8f2b7457583c2642920e275920df9b7a72dd34e84df7a98d0fc4574be0d6393e7f68a49680a6c80c884b30,0x33d2a19ca7e9ca638f46e24397286452325c26551e2855f8f0730b87f14673da51378fd180b63442f2f59034352376c6fd5712bb25c4345d9c88a883680064022702b4252f179c218149c7bf855a061870,0x2ca8b05a0e67726e9d1809261f0fe3836614b5ff7b69f5e9a08dde222d2355f3c0f4a0b44ad9570e609a5b8492dc0f15ddc646a5cec47915eb58dcfe337a8a32ee23b07394c49103323c0eefd8bb50002d,0x2ca92c488a7e2deb3feb3137e6ea554f19cabb299edda451312de2aebb303f0ede579ba3417b20c9e215ac49e1fd55bc8c335d6e6d082a6f319b708f78589229b18549a95c094b137e34b44c6056cf4000,0x27376d3ec6cec9645b72f770a5da2fe4d69bd91a5191d71c71fb09df8727983af6f43ffc070e06d1c41551b88626cc4aa998086ed96a728714c2613d405cb4a5601c740f6f7c78423a4a6e56afa7234000,0x3c0c9a03348506b39270bc0150c8afb6fd24906f7602daa3c244da15fca2eb80eb77ae8926db95dc109c9220f2b0bc133ec90826c98f0df99821c039c1b00ee94eab48ee3000015eb5ee84b00000000000,0x2a80ce6a2669999807430244ca93d95112e7c1a41e5db086f4cf3c6d131b0e278e037d14c2a318bb0265afecc054c3df3259c6a855a4bbe924b94ff34f86421209054a881320f355184e00db2f9b002a7c,0x2736b8fd62c2fb44a5721f50c4187f0b554bf8919578ba4e6bd6c7bfab3ba4ba2fc0e55713ee6a402e57cacb1c278a798ebb4300c421971cd97a4c78a6edaa5563f3c6b2a9b044ada0eb50df6f9a9d0000,0x2ccf2978a66726f4ad5b1080a479d56ef5efad2d9fdffcb161c8160e5947752242ecb6f35dd2ebb00af3af56c461c3e2ab50c361f3d6130c7baee0663576bae536ffc43c94f3a3054b3b0e827331000b90,0x2736892d3aa575e7536e25f5aa56a70c576164a6240ea5f0acc6f586d67221aa0ee2344d9953952ae3a905ac68395265a9b6c232d1b596107f8bc6ae6d595634a304658729d5978d13073ff0606ce10000,0x2741e0f66d336bc2aaa10262ebf2636a1271b60728804186f2f96e0637f4269b7509154b22075e30d71e5b1a4f465478dee4b110d6bdc598832b57372391750d32736bc729e649c67bb913377403f1a700,0x273689af83b69fb97706cc846453108d082d94a7992e09956304369c7aa2b966463cac1d514227d7ba8145244686c3446a396f755738a6330a017be2c4c16cdf9689dc0791c45c1240918b8fc94da49000,0x3f3075f93f068078e9613c91fdc4c129e4bc780e129e8c6365547d0bfe4091e8e50553608c2304dce1e6e71a2458b8bf1cabb900139ca7ccb4110f5436d690ff08ddb902b766ef42ce78068654f4184100,0x277c2b87d178abdd5d74bb23acb90490e6511d07292c266aa5138344a70b4b5eed11b806c391d85eca90ffaee0d6f6e998ec6c163a9ae3c40c33f1cd414317a4620558440cad4db5b0757a085424e4bc01,0x2763c9e5b488ea7fa2a0c7aee8b34b750a78fd81b6af6dd05df0ffc433df61689c8357566eb73c20fc1f576ea12fcc77d841156cb341d4e50890e4d828aa523973bff99aeb43c8be0ac3e7830303d40014,0x422c3bcb101ca5f1bbae011646c203a6f7edfcae22f474e889b377a75c5443d094e1b51adeb2a988417dd41a1915077b6ed9a9a74f83b47a48d73bedcf0679b16976a686a005ccd61c29e0b8697a340000,0x43ce85d91352d5fface7837c1e44a94ede9de66ad871b57154a4693346638d958f23fa5fdac24fbd4518b3be1555f9d5f0d893bb34af96a2892c1669ab90fb754904bbfc267533c99db66eb0bac8101a10,0x2736763e233c8a804d2f75ca663ea44cfe833e967ae4ef628f2aa6621d8226327dea4bb57028b89acdd85e6843b52cf3a0fb8b0499920f5af2759d0354a8f4870c28d3234c6a40ebe570ef4b8ce8496010,0x2b60f2c1d99d9c59a459f9f4a9fd0b15e314959926380b0cc22eb9c8f83f1b831100af6e4e9e157c93ca4463dca0a40e1db96356daa113504a336685b3a8f730820d398562f3474d0809e0beddac1a4091,0x474ac646282853752f5e5c9ffdf2033872cac8dec5a2236b0bc5632c4aef3f3bd27e4c63c9dbc88333750fb5e7639f0e19171bbebaa82d19ce9bd55f27b3f8fffca81425a34f5cc1bf9746728103abe040,0x276e9d7236346e29c1316cb6cb037410c0bd7b778eb72126606126985678f41063623734a6b0f86078e4223472db47f462a8cfbc00277f5c59a64bd5b86983fadab5db669e2313aaf85775dc475f1a7543,0x276e9e23af79b999a62269f13c7f086f9f330bf75cd9beb583b0583ea63544c4ce78854c7debef38cb766e45f4016b00e36983aa121f9b5a10f14de7a6fbf4a922b3b01282d8ddaae9fcbcb1a26ff40074,0x2736892ec2540d51ceded15a199e9a29a36d7e120827cc3e0ff140f2b6bc2f7b9d0c5ab59f6233711ca6f319b0b5551e33333fb996f08cfc7b0dcb16d8c8c7b7dd4f943194c590e64acd290bcfa007b400,0x2747e322635635824afa49fa239f12bd95aa996d2b07ff46dea8a8c5c1c4d7de1d20f7011494e03861d4dd780d7109b80555517823b9e8d1e10b0e16cd95ee0a898516d24adcb6c5f068608113a7dd53f0,0x47d8b4c62009b8bada79c1b28b05ed5506fb286496e7908bf22d9b7f644a0d8c0d01e5ddc4a44415528b5eeca1723e13f7a0087ee3fdeb3b691bb1e58104a84fad47187a38b897a0226610e330309e6400,0x27369c39672a75d0a6c07102f8e11fd7540b19f12f443166678e9c216019a5fcee57f80cdd4a92b34eca855390c62e7bb6e0432a8dc1ce86fadf8844faa6fd6c396d3c77f22e805b04d6f31b9263001000,0x27368699ca66e56cf73b0fca2f3aa6df177edb4f17d3294a8caacef079dc1c6fadb9030040f55848ffa6b21261a1ac51c28d1716f056c93ddedb3a65a9ee6c3fd2ad1a0e6446c6b279f31d3f88bb501950,0x273675622589ed6ffd0ed403b9010da1024d03725a014d0285d0f809890a664549ac0a85cba07356bc4b81d7269d7d8dece450e6bd63bff0fd880e144984462481d7fd15009519d9d3c146e648e3395f40,0x307155afc80cd0e8a67c445f644c3bc35ddf4fc2feced3a64c9cd75ebadd6293effe291788e6e351ed4d0e90bf52af1cc63165945aec0c9741215767121ad3975051be54cbaec42657712ba87859ce463e,0x27755859952e03cad9b748cc0e83214c731a96e5e75c9bdee5d0e0d503e4ccd764968c7b8583d212e659f3a623b29b4d5248e1744e40fe6a60c841fdb72c27b40cea6272394664b29bd449596bd6310000,0x273675944e332923cfa4018bcbf8c4ba6f38837558bafcbd53f85b6853646ac9452779f9062992e047fc8a620bca854eba14e2d79cc49e4bb2d3d6dd30b9777d353e24afb9bf969b000308168315b61181,0x274c650835c745c39a4930e36feafdc065da87b580c3555b473bf912b6d774b41611395534f76c5df364d1ae645ab56502b7dcc7f45f4175acf53af89d08e4b61b209594142c50510086e8f0e503b212b1,0x2736e8f8dc76430415d502497c7c199490e21e80dc205d3b6ffe393829f41bbd825ed2adb2ddc5f84d9a472746c2d14d7969c6112499c3f82a21bd3ea391c188d487536733e1f11590e5d87f962679d02c,0x27368699ca66e56cf73b1795bf7b678e7f2d49553598240a8dfa5f502602b12f7aecef5b89169c5a870d72ae4e921933537a040fa913c6f3ef2a6efc6e89bb07fa74868ff0076bda49d2cbd6c1014b4900,0x277c2b87d1f34601cbdbb76ab2cd5b03499532dc3a5eb34f23c12eb55624d52bbe89dc46644d69059e580bae37d577a59fb3776b07e2196364db9a565d9cd7dbd230f37a7c3e5c94bf138a1da1e6f95f40,0x8330688c551c0aa578ecc019dfa9ede52c27413affe3c9527b22944063010cf7af3ea905aa5e88de7a50b302a8258c913ffc9d002d]++conn_h0.drop 5665
theorem conn_ok (w ba bb fz n t sk sd lm lmd tb td cn ls sl ln po pd tk K k T iss ti g tg l x tf tl tx lt e1 lc e2 ll e3 lk e4 r tr z tz e1' dm dt ta tb' tc td')(hc:∀D∈([cOwn w (n+2) (t+8) sk sd lm tb td cn ls sl ln po pd tk T iss ti g tg l x tf tl tx lt e1 lc e2 ll e3 1989 r tr z tz
 e1' dm dt,cInC w (n+2+dm+59) (t+8+dt+249) cn lc e2 (n+2+dm+58) (n+2+dm+1) (n+2+dm+2) r ta tr tb' tc
 false,cSetC w (n+2+dm+60) (t+8+dt+257) cn lc e2 (n+2+dm+59) (n+2+dm+1) (n+2+dm+2) r ta tr tb' tc
 (.int (g+1) (t+8+dt+4)),cSetI (n+2+dm+63) (t+8+dt+280) ln lk e4 (g+1) (t+8+dt+4) (.ref (n+2+dm+61)),cFollow (n+2+dm+65) (t+8+dt+287) 1297 (t+8+dt+283)]:List Con),ConOk (wR w ba bb) fz D) (hro:∀p∈([(lm,oI 953 lmd),(lmd,oLm w K k)]:List (Addr×Obj)),fz p.1=some p.2) (hb:∀b∈([((((iss+64).fmod 65536+1).fmod 65536 - (iss+64).fmod 65536).fmod 65536 == 0,false),(decide (2 * (((iss+64).fmod 65536+1).fmod 65536 - (iss+64).fmod 65536).fmod 65536 < 65536),true),(decide ((((iss+64).fmod 65536+1).fmod 65536 - (iss+64).fmod 65536).fmod 65536 > 0),true),((iss+64).fmod 65536 == (iss+64).fmod 65536,true),((iss+64).fmod 65536 == (iss+64).fmod 65536,true)]:List (Bool×Bool)),b.1=b.2):ConOk (wR w ba bb) fz (conn_c w n t sk sd lm lmd tb td cn ls sl ln po pd tk K k T iss ti g tg l x tf tl tx lt e1 lc e2 ll e3 lk e4 r tr z tz e1' dm dt ta tb' tc td'):=by
 cases bb
 ·cases ba<;>exact con_run (N:=7885) (m₀:=10) (w0:=0) (u0:=1) (ze:=n+2+dm+147) (te:=t+8+dt+539) (ro:=[(lm,oI 953 lmd),(lmd,oLm w K k)]) (hs:=conn_h0) (ni:=[13,14,17,18,20,21,23,24,26,27,30,31,33,34,36,37,39,40,42,43,47,49,50,51,52,53,54,55,56,57,58,59,60,61,62,63,64,67,68,71,72,73,113,114,134,142,144,147]) (by kernel_rfl) rfl rfl (by kernel_rfl) (by show n+2+dm+147=n+(2+(dm)+147); omega) (by show t+8+dt+539=t+(8+(dt)+539); omega) (by kernel_rfl) hc hro hb
 ·cases ba<;>exact con_run (N:=7865) (m₀:=10) (w0:=0) (u0:=1) (ze:=n+2+dm+147) (te:=t+8+dt+539) (ro:=[(lm,oI 953 lmd),(lmd,oLm w K k)]) (hs:=conn_h1) (ni:=[13,14,17,18,20,21,23,24,26,27,30,31,33,34,36,37,39,40,42,43,47,49,50,51,52,53,54,55,56,57,58,59,60,61,62,63,64,67,68,71,72,73,113,114,134,142,144,147]) (by kernel_rfl) rfl rfl (by kernel_rfl) (by show n+2+dm+147=n+(2+(dm)+147); omega) (by show t+8+dt+539=t+(8+(dt)+539); omega) (by kernel_rfl) hc hro hb
def dcS_c (w:World)(n t:Nat)(sk sd lm lmd tb td cn ls sl ln po pd tk:Addr)(K k T:Nat)(iss:Int)(ti:Nat) (g:Int)(tg:Nat)(l x:Int)(tf tl tx:Nat)(lt:List Ent)(e1:Nat)(lc:List Ent)(e2:Nat)(ll:List Ent)(e3:Nat)(lk:List Ent)(e4:Nat)(lh:List Ent)(e5:Nat)(bk hd hr:Addr)(q1 q2 q3 q4:Nat) (m:Int)(tm:Nat) (a:Int)(ta eb:Nat)(bh br:List Ent)(f1 f2:Nat) (p:Int)(tw tp:Nat) (r:Int)(tr:Nat) (z:Int)(tz e1' dm dt:Nat)(a':Int)(ta' tv dm2 dt2:Nat):Con:=⟨Code.call (.ref 1473) ⟨[.ref sk,.ref bk,.str "connect" tw,.int p tp],[]⟩,n,t,allO w sk sd lm tb td cn ls sl ln po pd tk T iss ti g tg l x tf tl tx lt e1 lc e2 ll e3 lk e4 lh e5++[(bk,dD (dSt w (bkL q1 q2 q3 q4 m tm a ta hd hr)) eb),(hd,dD (dI bh) f1),(hr,dD (dI br) f2),(1470,oF [])],[oI 1431 sd,oSd w T lm po tb sl ln ((iss+64).fmod 65536) (t+22+dt+18) (g+1) (t+22+dt+4),oI 161 pd,oPd w (T+8) tk l z tf tl tz,(dD (dI (lt++[(r,tr,Value.bool true)])) e1'),oI 1173 td,oTd w T cn ls,(dD (dC w (lc++[(r,n+13+2+dm+59,Value.int (g+1) (t+14+8+dt+4))])) (e2+1)),(dD (dL w ll) e3),(dD (dI (lk++[(g+1,t+14+8+dt+4,Value.ref (n+13+2+dm+61))])) (e4+1)),(dD (dI lh) e5),(dD (dSt w (bkL q1 q2 q3 q4 m tm a' ta' hd hr)) eb),(dD (dI (bh++[(g+1,t+22+dt+4,Value.int r tv)])) (f1+1)),(dD (dI br) f2),⟨.none,none,.fields #[.int 983 0,.int 32 0,.ref (n+9)],#[]⟩],((n+9,⟨.type "code",none,.fields #[.str "<lambda>" (t+3),.str "_law_deed_right.<locals>.<lambda>" (t+4),.str "/claim/cut.py" (t+5),.int 983 0,.int 0 0,.int 0 0,.int 0 0,.int 19 0,.ref (n+4),.bool true,.int 181 0,.ref (n+5),.none,.ref (n+6),.ref (n+7),.ref (n+8),.int (↑(t+7)) 0,.int 983 0,.str "/claim/cut.py" (t+8)],#[]⟩)::((keyO (n+15+dm) r tr (t+10) (t+11) (t+12)).drop 1++((linkO w (n+15+dm) (t+22+dt) lm k ((iss+64).fmod 65536) r tr (t+13)).take 37++((keyO (n+15+dm) r tr (t+10) (t+11) (t+12)).take 1++(linkO w (n+15+dm) (t+22+dt) lm k ((iss+64).fmod 65536) r tr (t+13)).drop 37)))),.ok (.ret (.bool true)),13+(2+dm+147)+0+(dm2)+12,14+(8+dt+539)+0+(dt2)+17,16⟩
def dcS_h00:List Nat:=hx 88 [0x3e862651470748d9f23ace54d60cbc246e4a2d36dd89b00de62a24e94efad93e7a00026de267f4e61792ab0c386e8b0ab7637398456f9fffe790e75796892e49f03ce463202f3b1080,0x501486716d8e2686726056ebe3da25da9c5e7f3c5e7ff165bd00cf6ba42384f74397057be3a551dcc5e8ac948bea40b53f2ae6355b500cc7c3db30aabaa6949412783ed86775c51cf7,0x5019fdcfdf213bc1909f15bb33d52913f5ed90fc4ac4d81fbbd429209861836e68b3180deba1089f403972fd8580d4e9224d98062892d670bf55663d2af2869cf13e03a80f2e782032,9322]
def dcS_h0:List Nat:=[]
def dcS_h10:List Nat:=dcS_h00.take 161++dcS_h00.drop 168
def dcS_h1:List Nat:=[]
theorem dcS_ok (w ba bb fz n t sk sd lm lmd tb td cn ls sl ln po pd tk K k T iss ti g tg l x tf tl tx lt e1 lc e2 ll e3 lk e4 lh e5 bk hd hr q1 q2 q3 q4 m tm a ta eb bh br f1 f2 p tw tp r tr z tz e1' dm dt a' ta' tv dm2 dt2)(hc:∀D∈([conn_c w (n+13) (t+14) sk sd lm lmd tb td cn ls sl ln po pd tk K k T iss ti g tg l x tf tl tx lt e1 lc e2 ll e3 lk
 e4 r tr z tz e1' dm dt (t+10) (t+11) (t+12) (t+13),cNxt w (n+13+(2+dm)+147) (t+14+(8+dt)+539) bk hd hr q1 q2 q3 q4 m tm a ta eb bh br f1 f2 a' ta'
 (.int r tv) dm2 dt2,cGetS w (n+13+(2+dm)+147+dm2+4) (t+14+(8+dt)+539+dt2+3) bk (bkL q1 q2 q3 q4 m tm a' ta' hd hr)
 eb "held" (t+14+(8+dt)+539+dt2+2) (.ref hd),cSetI (n+13+(2+dm)+147+dm2+4) (t+14+(8+dt)+539+dt2+5) hd bh f1 (g+1) (t+22+dt+4)
 (.int r tv)]:List Con),ConOk (wR w ba bb) fz D) (ha0:ActOk (wR w ba bb) fz [(n+13+(2+dm)+147+dm2+5,oL [.ref (n+13+(2+dm)+147+dm2+7)] 1),(n+13+(2+dm)+147+dm2+7,(oT [.int 1 (t+10),.int 2 (t+11),.int r tr,.int 2 1196])),(n+13+(2+dm)+147+dm2+10,(oT [.int 1 (t+14+(8+dt)+539+dt2+14),.int 2 (t+14+(8+dt)+539+dt2+15),.int r tv,.int 2 (t+14+(8+dt)+539+dt2+16)])),(n+13+(2+dm)+147+dm2+11,oL [.ref (n+13+(2+dm)+147+dm2+10)] 0)] (tCmp .Eq (.ref (n+13+(2+dm)+147+dm2+5)) (.ref (n+13+(2+dm)+147+dm2+11))) (Value.bool true)):ConOk (wR w ba bb) fz (dcS_c w n t sk sd lm lmd tb td cn ls sl ln po pd tk K k T iss ti g tg l x tf tl tx lt e1 lc e2 ll e3 lk e4 lh e5 bk hd hr q1 q2 q3 q4 m tm a ta eb bh br f1 f2 p tw tp r tr z tz e1' dm dt a' ta' tv dm2 dt2):=by
 cases bb
 ·cases ba<;>exact con_fin (N:=397) (w0:=0) (u0:=1) (hs:=dcS_h00) (by kernel_rfl) (by kernel_rfl) (by kernel_rfl) hc nm nm (fun A s R hA O hR=>
  fin_act O ⟨rfl,rfl⟩ hc nm hA (cx:=xIfRet (bodyF w.params 1473) 0 3 (envF w.params 1473 n [("port",n+2),("sockets",n+1)])) (act:=tCmp .Eq (.ref (n+13+(2+dm)+147+dm2+5)) (.ref (n+13+(2+dm)+147+dm2+11))) (a₀:=Value.bool true) (xs:=[(n+13+(2+dm)+147+dm2+5,oL [.ref (n+13+(2+dm)+147+dm2+7)] 1),(n+13+(2+dm)+147+dm2+7,(oT [.int 1 (t+10),.int 2 (t+11),.int r tr,.int 2 1196])),(n+13+(2+dm)+147+dm2+10,(oT [.int 1 (t+14+(8+dt)+539+dt2+14),.int 2 (t+14+(8+dt)+539+dt2+15),.int r tv,.int 2 (t+14+(8+dt)+539+dt2+16)])),(n+13+(2+dm)+147+dm2+11,oL [.ref (n+13+(2+dm)+147+dm2+10)] 0)]) (js:=[81,83,86,87]) (hs:=dcS_h0) (N:=6) (by kernel_rfl) (by kernel_rfl) (good_ifRet _ _ _ _) ha0 (by kernel_rfl) nm (
  fin_done (ze:=n+13+(2+dm)+147+dm2+12) (te:=t+14+(8+dt)+539+dt2+17) (ni:=[24,28,29,30,31,32,33,34,35,36,37,38,39,40,41,42,43,44,45,46,47,48,49,50,51,52,53,54,55,56,57,58,59,60,61,62,63,64,65,66,67,68,69,72]) (by kernel_rfl) (by show n+13+(2+dm)+147+dm2+12=n+(13+(2+dm+147)+0+(dm2)+12); omega) (by show t+14+(8+dt)+539+dt2+17=t+(14+(8+dt+539)+0+(dt2)+17); omega) (by kernel_rfl) hR))
 ·cases ba<;>exact con_fin (N:=387) (w0:=0) (u0:=1) (hs:=dcS_h10) (by kernel_rfl) (by kernel_rfl) (by kernel_rfl) hc nm nm (fun A s R hA O hR=>
  fin_act O ⟨rfl,rfl⟩ hc nm hA (cx:=xIfRet (bodyF w.params 1473) 0 3 (envF w.params 1473 n [("port",n+2),("sockets",n+1)])) (act:=tCmp .Eq (.ref (n+13+(2+dm)+147+dm2+5)) (.ref (n+13+(2+dm)+147+dm2+11))) (a₀:=Value.bool true) (xs:=[(n+13+(2+dm)+147+dm2+5,oL [.ref (n+13+(2+dm)+147+dm2+7)] 1),(n+13+(2+dm)+147+dm2+7,(oT [.int 1 (t+10),.int 2 (t+11),.int r tr,.int 2 1196])),(n+13+(2+dm)+147+dm2+10,(oT [.int 1 (t+14+(8+dt)+539+dt2+14),.int 2 (t+14+(8+dt)+539+dt2+15),.int r tv,.int 2 (t+14+(8+dt)+539+dt2+16)])),(n+13+(2+dm)+147+dm2+11,oL [.ref (n+13+(2+dm)+147+dm2+10)] 0)]) (js:=[81,83,86,87]) (hs:=dcS_h1) (N:=6) (by kernel_rfl) (by kernel_rfl) (good_ifRet _ _ _ _) ha0 (by kernel_rfl) nm (
  fin_done (ze:=n+13+(2+dm)+147+dm2+12) (te:=t+14+(8+dt)+539+dt2+17) (ni:=[24,28,29,30,31,32,33,34,35,36,37,38,39,40,41,42,43,44,45,46,47,48,49,50,51,52,53,54,55,56,57,58,59,60,61,62,63,64,65,66,67,68,69,72]) (by kernel_rfl) (by show n+13+(2+dm)+147+dm2+12=n+(13+(2+dm+147)+0+(dm2)+12); omega) (by show t+14+(8+dt)+539+dt2+17=t+(14+(8+dt+539)+0+(dt2)+17); omega) (by kernel_rfl) hR))
def dcT_c (w:World)(n t:Nat)(sk sd lm lmd tb td cn ls sl ln po pd tk:Addr)(K k T:Nat)(iss:Int)(ti:Nat) (g:Int)(tg:Nat)(l x:Int)(tf tl tx:Nat)(lt:List Ent)(e1:Nat)(lc:List Ent)(e2:Nat)(ll:List Ent)(e3:Nat)(lk:List Ent)(e4:Nat)(lh:List Ent)(e5:Nat)(bk hd hr:Addr)(q1 q2 q3 q4:Nat) (m:Int)(tm:Nat) (a:Int)(ta eb:Nat)(bh br:List Ent)(f1 f2:Nat) (p:Int)(tw tp:Nat) (r:Int)(tr:Nat) (z:Int)(tz e1' dm dt:Nat)(a':Int)(ta' tv dm2 dt2:Nat)(cl:Addr)(rest:List Value)(NL ML:Nat):Con:=⟨Code.call (.ref 1473) ⟨[.ref sk,.ref bk,.str "connect" tw,.int p tp],[]⟩,n,t,allO w sk sd lm tb td cn ls sl ln po pd tk T iss ti g tg l x tf tl tx lt e1 lc e2 ll e3 lk e4 lh e5++[(bk,dD (dSt w (bkL q1 q2 q3 q4 m tm a ta hd hr)) eb),(hd,dD (dI bh) f1),(hr,dD (dI br) f2),(1470,tabL cl rest)],[oI 1431 sd,oSd w T lm po tb sl ln ((iss+64).fmod 65536) (t+16+dt+18) (g+1) (t+16+dt+4),oI 161 pd,oPd w (T+8) tk l z tf tl tz,(dD (dI (lt++[(r,tr,Value.bool true)])) e1'),oI 1173 td,oTd w T cn ls,(dD (dC w (lc++[(r,n+7+2+dm+59,Value.int (g+1) (t+8+8+dt+4))])) (e2+1)),(dD (dL w ll) e3),(dD (dI (lk++[(g+1,t+8+8+dt+4,Value.ref (n+7+2+dm+61))])) (e4+1)),(dD (dI lh) e5),(dD (dSt w (bkL q1 q2 q3 q4 m tm a' ta' hd hr)) eb),(dD (dI (bh++[(g+1,t+16+dt+4,Value.int r tv)])) (f1+1)),(dD (dI br) f2),⟨.none,none,.fields ({toList:=Value.int 983 0::Value.int 32 0::Value.ref cl::rest}),#[]⟩],(((keyO (n+9+dm) r tr (t+4) (t+5) (t+6)).drop 1++((linkO w (n+9+dm) (t+16+dt) lm k ((iss+64).fmod 65536) r tr (t+7)).take 37++((keyO (n+9+dm) r tr (t+4) (t+5) (t+6)).take 1++(linkO w (n+9+dm) (t+16+dt) lm k ((iss+64).fmod 65536) r tr (t+7)).drop 37)))),.ok (.ret (.bool true)),7+(2+dm+147)+0+(dm2)+12,8+(8+dt+539)+0+(dt2)+17,16⟩
def dcT_h00:List Nat:=hx 82 [0x22741a9d16af40e25751afc7b0ccf25fce548b9cd36ade939efebf1e51b619b63d6d0ed10ff3db07cc5f4c44ed28875014c1be083b13ddda3d0d189f13bbf6029ae28513951d01f8,0x23915302108ec33aac91ebb0b3a98fab35694e5dc95db4990f2c5e787e09358eb0147f2463c965d39d9ac54c674553739b2f4f530f4d7aa2cd3458c75b0a87a8ea707297e8f1532e,0x16162a1765572878a01e9552b5c661e71027660f4a6ad12923b2b140f502d812fcce3b64a8a40bdef2a586a58a24935c36d9e17d90b4d5be37cdf83b2fb467d5e8b415e0a505f16a]
def dcT_h0:List Nat:=[]
def dcT_h10:List Nat:=dcT_h00.take 159++dcT_h00.drop 166
def dcT_h1:List Nat:=[]
theorem dcT_ok (w ba bb fz n t sk sd lm lmd tb td cn ls sl ln po pd tk K k T iss ti g tg l x tf tl tx lt e1 lc e2 ll e3 lk e4 lh e5 bk hd hr q1 q2 q3 q4 m tm a ta eb bh br f1 f2 p tw tp r tr z tz e1' dm dt a' ta' tv dm2 dt2 cl rest NL ML)(hc:∀D∈([conn_c w (n+7) (t+8) sk sd lm lmd tb td cn ls sl ln po pd tk K k T iss ti g tg l x tf tl tx lt e1 lc e2 ll e3 lk e4
 r tr z tz e1' dm dt (t+4) (t+5) (t+6) (t+7),cNxt w (n+7+(2+dm)+147) (t+8+(8+dt)+539) bk hd hr q1 q2 q3 q4 m tm a ta eb bh br f1 f2 a' ta'
 (.int r tv) dm2 dt2,cGetS w (n+7+(2+dm)+147+dm2+4) (t+8+(8+dt)+539+dt2+3) bk (bkL q1 q2 q3 q4 m tm a' ta' hd hr) eb
 "held" (t+8+(8+dt)+539+dt2+2) (.ref hd),cSetI (n+7+(2+dm)+147+dm2+4) (t+8+(8+dt)+539+dt2+5) hd bh f1 (g+1) (t+16+dt+4)
 (.int r tv)]:List Con),ConOk (wR w ba bb) fz D) (hro:∀p∈([(cl,lamC NL ML 983)]:List (Addr×Obj)),fz p.1=some p.2) (ha0:ActOk (wR w ba bb) fz [(n+7+(2+dm)+147+dm2+5,oL [.ref (n+7+(2+dm)+147+dm2+7)] 1),(n+7+(2+dm)+147+dm2+7,(oT [.int 1 (t+4),.int 2 (t+5),.int r tr,.int 2 1196])),(n+7+(2+dm)+147+dm2+10,(oT [.int 1 (t+8+(8+dt)+539+dt2+14),.int 2 (t+8+(8+dt)+539+dt2+15),.int r tv,.int 2 (t+8+(8+dt)+539+dt2+16)])),(n+7+(2+dm)+147+dm2+11,oL [.ref (n+7+(2+dm)+147+dm2+10)] 0)] (tCmp .Eq (.ref (n+7+(2+dm)+147+dm2+5)) (.ref (n+7+(2+dm)+147+dm2+11))) (Value.bool true)):ConOk (wR w ba bb) fz (dcT_c w n t sk sd lm lmd tb td cn ls sl ln po pd tk K k T iss ti g tg l x tf tl tx lt e1 lc e2 ll e3 lk e4 lh e5 bk hd hr q1 q2 q3 q4 m tm a ta eb bh br f1 f2 p tw tp r tr z tz e1' dm dt a' ta' tv dm2 dt2 cl rest NL ML):=by
 cases bb
 ·cases ba<;>exact con_fin (N:=382) (w0:=0) (u0:=1) (ro:=[(cl,lamC NL ML 983)]) (hs:=dcT_h00) (by kernel_rfl) (by kernel_rfl) (by kernel_rfl) hc hro nm (fun A s R hA O hR=>
  fin_act (ro:=[(cl,lamC NL ML 983)]) O ⟨rfl,rfl⟩ hc hro hA (cx:=xIfRet (bodyF w.params 1473) 0 3 (envF w.params 1473 n [("port",n+2),("sockets",n+1)])) (act:=tCmp .Eq (.ref (n+7+(2+dm)+147+dm2+5)) (.ref (n+7+(2+dm)+147+dm2+11))) (a₀:=Value.bool true) (xs:=[(n+7+(2+dm)+147+dm2+5,oL [.ref (n+7+(2+dm)+147+dm2+7)] 1),(n+7+(2+dm)+147+dm2+7,(oT [.int 1 (t+4),.int 2 (t+5),.int r tr,.int 2 1196])),(n+7+(2+dm)+147+dm2+10,(oT [.int 1 (t+8+(8+dt)+539+dt2+14),.int 2 (t+8+(8+dt)+539+dt2+15),.int r tv,.int 2 (t+8+(8+dt)+539+dt2+16)])),(n+7+(2+dm)+147+dm2+11,oL [.ref (n+7+(2+dm)+147+dm2+10)] 0)]) (js:=[75,77,80,81]) (hs:=dcT_h0) (N:=6) (by kernel_rfl) (by kernel_rfl) (good_ifRet _ _ _ _) ha0 (by kernel_rfl) nm (
  fin_done (ze:=n+7+(2+dm)+147+dm2+12) (te:=t+8+(8+dt)+539+dt2+17) (ni:=[22,23,24,25,26,27,28,29,30,31,32,33,34,35,36,37,38,39,40,41,42,43,44,45,46,47,48,49,50,51,52,53,54,55,56,57,58,59,60,61,62,63,66]) (by kernel_rfl) (by show n+7+(2+dm)+147+dm2+12=n+(7+(2+dm+147)+0+(dm2)+12); omega) (by show t+8+(8+dt)+539+dt2+17=t+(8+(8+dt+539)+0+(dt2)+17); omega) (by kernel_rfl) hR))
 ·cases ba<;>exact con_fin (N:=372) (w0:=0) (u0:=1) (ro:=[(cl,lamC NL ML 983)]) (hs:=dcT_h10) (by kernel_rfl) (by kernel_rfl) (by kernel_rfl) hc hro nm (fun A s R hA O hR=>
  fin_act (ro:=[(cl,lamC NL ML 983)]) O ⟨rfl,rfl⟩ hc hro hA (cx:=xIfRet (bodyF w.params 1473) 0 3 (envF w.params 1473 n [("port",n+2),("sockets",n+1)])) (act:=tCmp .Eq (.ref (n+7+(2+dm)+147+dm2+5)) (.ref (n+7+(2+dm)+147+dm2+11))) (a₀:=Value.bool true) (xs:=[(n+7+(2+dm)+147+dm2+5,oL [.ref (n+7+(2+dm)+147+dm2+7)] 1),(n+7+(2+dm)+147+dm2+7,(oT [.int 1 (t+4),.int 2 (t+5),.int r tr,.int 2 1196])),(n+7+(2+dm)+147+dm2+10,(oT [.int 1 (t+8+(8+dt)+539+dt2+14),.int 2 (t+8+(8+dt)+539+dt2+15),.int r tv,.int 2 (t+8+(8+dt)+539+dt2+16)])),(n+7+(2+dm)+147+dm2+11,oL [.ref (n+7+(2+dm)+147+dm2+10)] 0)]) (js:=[75,77,80,81]) (hs:=dcT_h1) (N:=6) (by kernel_rfl) (by kernel_rfl) (good_ifRet _ _ _ _) ha0 (by kernel_rfl) nm (
  fin_done (ze:=n+7+(2+dm)+147+dm2+12) (te:=t+8+(8+dt)+539+dt2+17) (ni:=[22,23,24,25,26,27,28,29,30,31,32,33,34,35,36,37,38,39,40,41,42,43,44,45,46,47,48,49,50,51,52,53,54,55,56,57,58,59,60,61,62,63,66]) (by kernel_rfl) (by show n+7+(2+dm)+147+dm2+12=n+(7+(2+dm+147)+0+(dm2)+12); omega) (by show t+8+(8+dt)+539+dt2+17=t+(8+(8+dt+539)+0+(dt2)+17); omega) (by kernel_rfl) hR))
def dlS_c (w:World)(n t:Nat)(sk sd lm lmd tb td cn ls sl ln po pd tk:Addr)(K k T:Nat)(iss:Int)(ti:Nat) (g:Int)(tg:Nat)(l x:Int)(tf tl tx:Nat)(lt:List Ent)(e1:Nat)(lc:List Ent)(e2:Nat)(ll:List Ent)(e3:Nat)(lk:List Ent)(e4:Nat)(lh:List Ent)(e5:Nat)(bk hd hr:Addr)(q1 q2 q3 q4:Nat) (m:Int)(tm:Nat) (a:Int)(ta eb:Nat)(bh br:List Ent)(f1 f2:Nat) (p:Int)(tw tp:Nat) (o:Obj)(dm:Nat)(cl:Addr):Con:=⟨Code.call (.ref 1473) ⟨[.ref sk,.ref bk,.str "listen" tw,.int p tp],[]⟩,n,t,allO w sk sd lm tb td cn ls sl ln po pd tk T iss ti g tg l x tf tl tx lt e1 lc e2 ll e3 lk e4 lh e5++[(bk,dD (dSt w (bkL q1 q2 q3 q4 m tm a ta hd hr)) eb),(hd,dD (dI bh) f1),(hr,dD (dI br) f2),(1470,tabL cl [])],[oI 1431 sd,oSd w T lm po tb sl ln iss ti (g+1) (t+23),oI 161 pd,oPd w (T+8) tk l x tf tl tx,(dD (dI lt) e1),oI 1173 td,oTd w T cn ls,(dD (dC w lc) e2),(dD (dL w (ll++[(p,n+13+5,Value.int (g+1) (t+14+9))])) (e3+1)),(dD (dI lk) e4),(dD (dI (lh++[(g+1,t+14+9,Value.ref (n+13+7))])) (e5+1)),(dD (dSt w (bkL q1 q2 q3 q4 m tm a ta hd hr)) eb),(dD (dI bh) f1),(dD (dI (br++[(g+1,t+23,Value.int p tp)])) (f2+1)),⟨.none,none,.fields #[.int 983 0,.int 32 0,.ref cl,.int 989 0,.int 37 0,.ref (n+9)],#[]⟩],[(n+9,⟨.type "code",none,.fields #[.str "<lambda>" (t+4),.str "_law_deed_right.<locals>.<lambda>" (t+5),.str "/claim/cut.py" (t+6),.int 989 0,.int 0 0,.int 0 0,.int 0 0,.int 19 0,.ref (n+4),.bool true,.int 181 0,.ref (n+5),.none,.ref (n+6),.ref (n+7),.ref (n+8),.int (↑(t+9)) 0,.int 989 0,.str "/claim/cut.py" (t+10)],#[]⟩),(n+18,(oT [.int 0 (t+12),.int p tp])),(n+19,oD w.params 5 [("address",t+46,.int 0 (t+12)),("port",t+48,.int p tp),("most_waiting",t+50,.int 2 (t+13)),("opening",t+52,.ref (n+22)),("ready",t+54,.ref (n+23))]),(n+20,oI 1215 (n+19)),(n+22,oL [] 0),(n+23,oL [] 0)],.ok (.ret (.bool true)),26+(dm)+4,59+(0)+5,10⟩
def dlS_h0:List Nat:=hx 48 [0x7f554c4ea1cd26992584287a396266b54d14f87b95b23a2f88d6b1d92dae5f5871f27f5a72b81fd81e2179f02ad8355403635935fa96a20b54a056a24ca200,0x1a8a990dea48b01a96a99c72112a6fc1e6f66cd93de889b524bc3e6d8f22aaf4b1309e91341a394b32e079f4890efb31c72eb7351b3]
theorem dlS_ok (w ba bb fz n t sk sd lm lmd tb td cn ls sl ln po pd tk K k T iss ti g tg l x tf tl tx lt e1 lc e2 ll e3 lk e4 lh e5 bk hd hr q1 q2 q3 q4 m tm a ta eb bh br f1 f2 p tw tp o dm cl)(hc:∀D∈([lis_c w (n+13) (t+14) sk sd lm lmd tb td cn ls sl ln po pd tk K k T iss ti g tg l x tf tl tx lt e1 lc e2 ll e3 lk e4
 lh e5 p (t+12) tp (t+13),cGetS w (n+24) (t+58) bk (bkL q1 q2 q3 q4 m tm a ta hd hr) eb "heard" (t+57) (.ref hr),cVals (n+24) (t+59) hr (dI br) f2,cIterV (n+25) (t+59) (n+24) hr (dI br) f2,cHas (n+26) (t+59) (n+25) hr (dI br) f2 p tp o false dm,cGetS w (n+26+dm+4) (t+59+3) bk (bkL q1 q2 q3 q4 m tm a ta hd hr) eb "heard" (t+61)
 (.ref hr),cSetI (n+26+dm+4) (t+59+4) hr br f2 (g+1) (t+23) (.int p tp)]:List Con),ConOk (wR w ba bb) fz D):ConOk (wR w ba bb) fz (dlS_c w n t sk sd lm lmd tb td cn ls sl ln po pd tk K k T iss ti g tg l x tf tl tx lt e1 lc e2 ll e3 lk e4 lh e5 bk hd hr q1 q2 q3 q4 m tm a ta eb bh br f1 f2 p tw tp o dm cl):=by
 cases bb<;>cases ba<;>exact con_fin (N:=248) (w0:=0) (u0:=1) (hs:=dlS_h0) (by kernel_rfl) (by kernel_rfl) (by kernel_rfl) hc nm nm (fun A s R hA O hR=>
  fin_done (ze:=n+26+dm+4) (te:=t+64) (ni:=[24,28,29,30,31,32]) (by kernel_rfl) (by show n+26+dm+4=n+(26+(dm)+4); omega) (by show t+64=t+(59+(0)+5); omega) (by kernel_rfl) hR)
def dlT_c (w:World)(n t:Nat)(sk sd lm lmd tb td cn ls sl ln po pd tk:Addr)(K k T:Nat)(iss:Int)(ti:Nat) (g:Int)(tg:Nat)(l x:Int)(tf tl tx:Nat)(lt:List Ent)(e1:Nat)(lc:List Ent)(e2:Nat)(ll:List Ent)(e3:Nat)(lk:List Ent)(e4:Nat)(lh:List Ent)(e5:Nat)(bk hd hr:Addr)(q1 q2 q3 q4:Nat) (m:Int)(tm:Nat) (a:Int)(ta eb:Nat)(bh br:List Ent)(f1 f2:Nat) (p:Int)(tw tp:Nat) (o:Obj)(dm:Nat)(cl:Addr)(cm:Addr)(rest:List Value)(NL ML:Nat):Con:=⟨Code.call (.ref 1473) ⟨[.ref sk,.ref bk,.str "listen" tw,.int p tp],[]⟩,n,t,allO w sk sd lm tb td cn ls sl ln po pd tk T iss ti g tg l x tf tl tx lt e1 lc e2 ll e3 lk e4 lh e5++[(bk,dD (dSt w (bkL q1 q2 q3 q4 m tm a ta hd hr)) eb),(hd,dD (dI bh) f1),(hr,dD (dI br) f2),(1470,tabL cl (.int 989 0::.int 37 0::.ref cm::rest))],[oI 1431 sd,oSd w T lm po tb sl ln iss ti (g+1) (t+16),oI 161 pd,oPd w (T+8) tk l x tf tl tx,(dD (dI lt) e1),oI 1173 td,oTd w T cn ls,(dD (dC w lc) e2),(dD (dL w (ll++[(p,n+7+5,Value.int (g+1) (t+7+9))])) (e3+1)),(dD (dI lk) e4),(dD (dI (lh++[(g+1,t+7+9,Value.ref (n+7+7))])) (e5+1)),(dD (dSt w (bkL q1 q2 q3 q4 m tm a ta hd hr)) eb),(dD (dI bh) f1),(dD (dI (br++[(g+1,t+16,Value.int p tp)])) (f2+1)),⟨.none,none,.fields ({
 toList:=
  Value.int 983 0::Value.int 32 0::Value.ref cl::Value.int 989 0::Value.int 37 0::Value.ref cm::rest}),#[]⟩],[(n+12,(oT [.int 0 (t+5),.int p tp])),(n+13,oD w.params 5 [("address",t+39,.int 0 (t+5)),("port",t+41,.int p tp),("most_waiting",t+43,.int 2 (t+6)),("opening",t+45,.ref (n+16)),("ready",t+47,.ref (n+17))]),(n+14,oI 1215 (n+13)),(n+16,oL [] 0),(n+17,oL [] 0)],.ok (.ret (.bool true)),20+(dm)+4,52+(0)+5,10⟩
def dlT_h0:List Nat:=dlS_h0.take 23++hx 48 [0x6595938222ec64499338706cf0ebe2263da05881c195bc8ea1dc7141741159d9777c9be36104951837898df653f210829d5f59c18c0c759f402c5320000000,0xbf0bde58fb544e2b86de4339423b7cf1f5762f]++dlS_h0.drop 142
theorem dlT_ok (w ba bb fz n t sk sd lm lmd tb td cn ls sl ln po pd tk K k T iss ti g tg l x tf tl tx lt e1 lc e2 ll e3 lk e4 lh e5 bk hd hr q1 q2 q3 q4 m tm a ta eb bh br f1 f2 p tw tp o dm cl cm rest NL ML)(hc:∀D∈([lis_c w (n+7) (t+7) sk sd lm lmd tb td cn ls sl ln po pd tk K k T iss ti g tg l x tf tl tx lt e1 lc e2 ll e3 lk e4
 lh e5 p (t+5) tp (t+6),cGetS w (n+18) (t+51) bk (bkL q1 q2 q3 q4 m tm a ta hd hr) eb "heard" (t+50) (.ref hr),cVals (n+18) (t+52) hr (dI br) f2,cIterV (n+19) (t+52) (n+18) hr (dI br) f2,cHas (n+20) (t+52) (n+19) hr (dI br) f2 p tp o false dm,cGetS w (n+20+dm+4) (t+52+3) bk (bkL q1 q2 q3 q4 m tm a ta hd hr) eb "heard" (t+54)
 (.ref hr),cSetI (n+20+dm+4) (t+52+4) hr br f2 (g+1) (t+16) (.int p tp)]:List Con),ConOk (wR w ba bb) fz D) (hro:∀p∈([(cm,lamD NL ML 989)]:List (Addr×Obj)),fz p.1=some p.2):ConOk (wR w ba bb) fz (dlT_c w n t sk sd lm lmd tb td cn ls sl ln po pd tk K k T iss ti g tg l x tf tl tx lt e1 lc e2 ll e3 lk e4 lh e5 bk hd hr q1 q2 q3 q4 m tm a ta eb bh br f1 f2 p tw tp o dm cl cm rest NL ML):=by
 cases bb<;>cases ba<;>exact con_fin (N:=232) (w0:=0) (u0:=1) (ro:=[(cm,lamD NL ML 989)]) (hs:=dlT_h0) (by kernel_rfl) (by kernel_rfl) (by kernel_rfl) hc hro nm (fun A s R hA O hR=>
  fin_done (ze:=n+20+dm+4) (te:=t+57) (ni:=[22,23,24,25,26]) (by kernel_rfl) (by show n+20+dm+4=n+(20+(dm)+4); omega) (by show t+57=t+(52+(0)+5); omega) (by kernel_rfl) hR)
def dgE_c (w:World)(n t:Nat)(sk sd lm lmd tb td cn ls sl ln po pd tk:Addr)(K k T:Nat)(iss:Int)(ti:Nat) (g:Int)(tg:Nat)(l x:Int)(tf tl tx:Nat)(lt:List Ent)(e1:Nat)(lc:List Ent)(e2:Nat)(ll:List Ent)(e3:Nat)(lk:List Ent)(e4:Nat)(lh:List Ent)(e5:Nat)(bk hd hr:Addr)(q1 q2 q3 q4:Nat) (m:Int)(tm:Nat) (a:Int)(ta eb:Nat)(bh br:List Ent)(f1 f2:Nat) (p:Int)(tw tp:Nat):Con:=⟨Code.call (.ref 1473) ⟨[.ref sk,.ref bk,.str "give up" tw,.int p tp],[]⟩,n,t,allO w sk sd lm tb td cn ls sl ln po pd tk T iss ti g tg l x tf tl tx lt e1 lc e2 ll e3 lk e4 lh e5++[(bk,dD (dSt w (bkL q1 q2 q3 q4 m tm a ta hd hr)) eb),(hd,dD (dI bh) f1),(hr,dD (dI br) f2)],[oI 1431 sd,oSd w T lm po tb sl ln iss ti g tg,oI 161 pd,oPd w (T+8) tk l x tf tl tx,(dD (dI lt) e1),oI 1173 td,oTd w T cn ls,(dD (dC w lc) e2),(dD (dL w ll) e3),(dD (dI lk) e4),(dD (dI lh) e5),(dD (dSt w (bkL q1 q2 q3 q4 m tm a ta hd hr)) eb),(dD (dI bh) f1),(dD (dI br) f2)],[],.ok (.ret (.bool true)),4,8,6⟩
def dgE_h00:List Nat:=hx 26 [0x170a15371334e81492d78acfb3013ff83d47bff7c]
def dgE_h0:List Nat:=[]
theorem dgE_ok (w ba bb fz n t sk sd lm lmd tb td cn ls sl ln po pd tk K k T iss ti g tg l x tf tl tx lt e1 lc e2 ll e3 lk e4 lh e5 bk hd hr q1 q2 q3 q4 m tm a ta eb bh br f1 f2 p tw tp)(hc:∀D∈([cGetS w (n+3) (t+6) bk (bkL q1 q2 q3 q4 m tm a ta hd hr) eb "held" (t+5) (.ref hd)]:List Con),ConOk (wR w ba bb) fz D)(ha0:ActOk (wR w ba bb) fz [(hd,(dD (dI bh) f1)),(n+3,(dD #[] 0))] (tCmp .Eq (.ref hd) (.ref (n+3))) (Value.bool true)):ConOk (wR w ba bb) fz (dgE_c w n t sk sd lm lmd tb td cn ls sl ln po pd tk K k T iss ti g tg l x tf tl tx lt e1 lc e2 ll e3 lk e4 lh e5 bk hd hr q1 q2 q3 q4 m tm a ta eb bh br f1 f2 p tw tp):=by
 cases ba<;>exact con_fin (N:=68) (w0:=0) (u0:=1) (hs:=dgE_h00) (by kernel_rfl) (by kernel_rfl) (by kernel_rfl) hc nm nm (fun A s R hA O hR=>
  fin_act O ⟨rfl,rfl⟩ hc nm hA (cx:=xIf (bodyF w.params 1473) 3 (envF w.params 1473 n [("port",n+2),("sockets",n+1)])) (act:=tCmp .Eq (.ref hd) (.ref (n+3))) (a₀:=Value.bool true) (xs:=[(hd,(dD (dI bh) f1)),(n+3,(dD #[] 0))]) (js:=[12,17]) (hs:=dgE_h0) (N:=7) (by kernel_rfl) (by kernel_rfl) (good_if _ _ _) ha0 (by kernel_rfl) nm (
  fin_done (ze:=n+4) (te:=t+8) (ni:=[]) (by kernel_rfl) rfl rfl (by kernel_rfl) hR))
def dkE_c (w:World)(n t:Nat)(sk sd lm lmd tb td cn ls sl ln po pd tk:Addr)(K k T:Nat)(iss:Int)(ti:Nat) (g:Int)(tg:Nat)(l x:Int)(tf tl tx:Nat)(lt:List Ent)(e1:Nat)(lc:List Ent)(e2:Nat)(ll:List Ent)(e3:Nat)(lk:List Ent)(e4:Nat)(lh:List Ent)(e5:Nat)(bk hd hr:Addr)(q1 q2 q3 q4:Nat) (m:Int)(tm:Nat) (a:Int)(ta eb:Nat)(bh br:List Ent)(f1 f2:Nat) (p:Int)(tw tp:Nat):Con:=⟨Code.call (.ref 1473) ⟨[.ref sk,.ref bk,.str "close" tw,.int p tp],[]⟩,n,t,allO w sk sd lm tb td cn ls sl ln po pd tk T iss ti g tg l x tf tl tx lt e1 lc e2 ll e3 lk e4 lh e5++[(bk,dD (dSt w (bkL q1 q2 q3 q4 m tm a ta hd hr)) eb),(hd,dD (dI bh) f1),(hr,dD (dI br) f2)],[oI 1431 sd,oSd w T lm po tb sl ln iss ti g tg,oI 161 pd,oPd w (T+8) tk l x tf tl tx,(dD (dI lt) e1),oI 1173 td,oTd w T cn ls,(dD (dC w lc) e2),(dD (dL w ll) e3),(dD (dI lk) e4),(dD (dI lh) e5),(dD (dSt w (bkL q1 q2 q3 q4 m tm a ta hd hr)) eb),(dD (dI bh) f1),(dD (dI br) f2)],[],.ok (.ret (.bool true)),4,8,6⟩
def dkE_h0:List Nat:=[]
theorem dkE_ok (w ba bb fz n t sk sd lm lmd tb td cn ls sl ln po pd tk K k T iss ti g tg l x tf tl tx lt e1 lc e2 ll e3 lk e4 lh e5 bk hd hr q1 q2 q3 q4 m tm a ta eb bh br f1 f2 p tw tp)(hc:∀D∈([cGetS w (n+3) (t+6) bk (bkL q1 q2 q3 q4 m tm a ta hd hr) eb "heard" (t+5) (.ref hr)]:List Con),ConOk (wR w ba bb) fz D)(ha0:ActOk (wR w ba bb) fz [(hr,(dD (dI br) f2)),(n+3,(dD #[] 0))] (tCmp .Eq (.ref hr) (.ref (n+3))) (Value.bool true)):ConOk (wR w ba bb) fz (dkE_c w n t sk sd lm lmd tb td cn ls sl ln po pd tk K k T iss ti g tg l x tf tl tx lt e1 lc e2 ll e3 lk e4 lh e5 bk hd hr q1 q2 q3 q4 m tm a ta eb bh br f1 f2 p tw tp):=by
 cases ba<;>exact con_fin (N:=68) (w0:=0) (u0:=1) (hs:=dgE_h00) (by kernel_rfl) (by kernel_rfl) (by kernel_rfl) hc nm nm (fun A s R hA O hR=>
  fin_act O ⟨rfl,rfl⟩ hc nm hA (cx:=xIf (bodyF w.params 1473) 3 (envF w.params 1473 n [("port",n+2),("sockets",n+1)])) (act:=tCmp .Eq (.ref hr) (.ref (n+3))) (a₀:=Value.bool true) (xs:=[(hr,(dD (dI br) f2)),(n+3,(dD #[] 0))]) (js:=[13,17]) (hs:=dkE_h0) (N:=7) (by kernel_rfl) (by kernel_rfl) (good_if _ _ _) ha0 (by kernel_rfl) nm (
  fin_done (ze:=n+4) (te:=t+8) (ni:=[]) (by kernel_rfl) rfl rfl (by kernel_rfl) hR))
def dgA_c (w:World)(n t:Nat)(sk sd lm lmd tb td cn ls sl ln po pd tk:Addr)(K k T:Nat)(iss:Int)(ti:Nat) (g:Int)(tg:Nat)(l x:Int)(tf tl tx:Nat)(lt:List Ent)(e1:Nat)(lc:List Ent)(e2:Nat)(ll:List Ent)(e3:Nat)(lk:List Ent)(e4:Nat)(lh:List Ent)(e5:Nat)(bk hd hr:Addr)(q1 q2 q3 q4:Nat) (m:Int)(tm:Nat) (a:Int)(ta eb:Nat)(bh br:List Ent)(f1 f2:Nat) (p:Int)(tw tp:Nat) (z:Int)(tz:Nat)(ix:Nat)(N M:Nat)(I r:Int)(tr ua ub uc ud:Nat)(es':Array DictEntry)(tr' i j dm dt dm2 dt2:Nat):Con:=⟨Code.call (.ref 1473) ⟨[.ref sk,.ref bk,.str "give up" tw,.int p tp],[]⟩,n,t,allO w sk sd lm tb td cn ls sl ln po pd tk T iss ti g tg l x tf tl tx lt e1 lc e2 ll e3 lk e4 lh e5++[(bk,dD (dSt w (bkL q1 q2 q3 q4 m tm a ta hd hr)) eb),(hd,dD (dI bh) f1),(hr,dD (dI br) f2)]++linkO w N M lm k I r tr ud,[oI 1431 sd,oSd w T lm po tb sl ln ((I+1).fmod 65536) (M+353) g tg,oI 161 pd,oPd w (T+8) tk l x tf tl tx,(dD (dI (lt.eraseIdx j)) (e1+1)),oI 1173 td,oTd w T cn ls,(dD es' (e2+1)),(dD (dL w ll) e3),(dD (dI (lk.eraseIdx i)) (e4+1)),(dD (dI lh) e5),(dD (dSt w (bkL q1 q2 q3 q4 m tm a ta hd hr)) eb),(dD (dI (bh.eraseIdx ix)) (f1+1)),(dD (dI br) f2)]++deadO w N M lm k I r tr ud,[],.ok (.ret (.bool true)),11+(34+dm+3+dm2+1)+1,15+(95+dt+26+dt2+7)+0,14⟩
def dgA_h00:List Nat:=hx 59 [0x1fa79adeb17d9750c8ee98fad36fe5d3535a3e28dabcbb70e0e]
def dgA_h01:List Nat:=hx 69 [0x51aeba17647e6a29aee07ed49dc65d40feff58858c68ee973441b34ba3250712c49d4b7b974b13c68f0dfbd0892bc45fcccb2df684cc4b8df41db3d6944b11494843269395,0x1db7691102d6c8ba5354ef4fbd0cc9]
def dgA_h0:List Nat:=[]
def dgA_h1:List Nat:=[]
theorem dgA_ok (w ba bb fz n t sk sd lm lmd tb td cn ls sl ln po pd tk K k T iss ti g tg l x tf tl tx lt e1 lc e2 ll e3 lk e4 lh e5 bk hd hr q1 q2 q3 q4 m tm a ta eb bh br f1 f2 p tw tp z tz ix N M I r tr ua ub uc ud es' tr' i j dm dt dm2 dt2 r2 tv2)(hc:∀D∈([cGetS w (n+3) (t+6) bk (bkL q1 q2 q3 q4 m tm a ta hd hr) eb "held" (t+5) (.ref hd),cSorted (n+4) (t+8) hd [(hd,dD (dI bh) f1)] (keysV bh),cLenD (n+11) (t+8) hd bh f1,cMod (n+11) (t+10) p tp (↑bh.length) (t+9),cLGet (n+11) (t+11) (n+8) (sortV (keysV bh))
 (match keysV bh with
 | []=>0
 | x=>2)
 (p.fmod ↑bh.length) (t+10) (.int z tz),cPopI (n+11) (t+12) hd bh f1 z tz ix (.int r2 tv2),abA_c w (n+11) (t+15) sk sd lm lmd tb td cn ls sl ln po pd tk K k T iss ti g tg l x tf tl tx lt e1 lc e2 ll e3 lk e4
 lh e5 N M I r tr ua ub uc ud z tz (t+14) es' tr' i j dm dt dm2 dt2]:List Con),ConOk (wR w ba bb) fz D) (ha0:ActOk (wR w ba bb) fz [(hd,(dD (dI bh) f1)),(n+3,(dD #[] 0))] (tCmp .Eq (.ref hd) (.ref (n+3))) (Value.bool false)) (ha1:ActOk (wR w ba bb) fz [(n+39,oL [] 0),(n+11+(34+dm+3+dm2)+1,oL [] 0)] (tCmp .Eq (.ref (n+11+28)) (.ref (n+11+(34+dm+3+dm2)+1))) (Value.bool true)):ConOk (wR w ba bb) fz (dgA_c w n t sk sd lm lmd tb td cn ls sl ln po pd tk K k T iss ti g tg l x tf tl tx lt e1 lc e2 ll e3 lk e4 lh e5 bk hd hr q1 q2 q3 q4 m tm a ta eb bh br f1 f2 p tw tp z tz ix N M I r tr ua ub uc ud es' tr' i j dm dt dm2 dt2):=by
 cases bb
 ·cases ba<;>exact con_fin (N:=68) (w0:=0) (u0:=1) (hs:=dgA_h00) (by kernel_rfl) (by kernel_rfl) (by kernel_rfl) hc nm nm (fun A s R hA O hR=>
  fin_act O ⟨rfl,rfl⟩ hc nm hA (cx:=xIf (bodyF w.params 1473) 3 (envF w.params 1473 n [("port",n+2),("sockets",n+1)])) (act:=tCmp .Eq (.ref hd) (.ref (n+3))) (a₀:=Value.bool false) (xs:=[(hd,(dD (dI bh) f1)),(n+3,(dD #[] 0))]) (js:=[12,57]) (hs:=dgA_h01) (N:=87) (by kernel_rfl) (by kernel_rfl) (good_if _ _ _) ha0 (by kernel_rfl) nm (
  fin_act O ⟨rfl,rfl⟩ hc nm hA (cx:=xRet (bodyF w.params 1473) 6 (envF w.params 1473 n [("port",n+2),("sockets",n+1)])) (act:=tCmp .Eq (.ref (n+11+28)) (.ref (n+11+(34+dm+3+dm2)+1))) (a₀:=Value.bool true) (xs:=[(n+39,oL [] 0),(n+11+(34+dm+3+dm2)+1,oL [] 0)]) (js:=[59,60]) (hs:=dgA_h0) (N:=6) (by kernel_rfl) (by kernel_rfl) (good_ret _ _ _) ha1 (by kernel_rfl) nm (
  fin_done (ze:=n+11+(34+dm+3+dm2)+2) (te:=t+15+(95+dt+26+dt2)+7) (ni:=[]) (by kernel_rfl) (by show n+11+(34+dm+3+dm2)+2=n+(11+(34+dm+3+dm2+1)+1); omega) (by show t+15+(95+dt+26+dt2)+7=t+(15+(95+dt+26+dt2+7)+0); omega) (by kernel_rfl) hR)))
 ·cases ba<;>exact con_fin (N:=68) (w0:=0) (u0:=1) (hs:=dgA_h00) (by kernel_rfl) (by kernel_rfl) (by kernel_rfl) hc nm nm (fun A s R hA O hR=>
  fin_act O ⟨rfl,rfl⟩ hc nm hA (cx:=xIf (bodyF w.params 1473) 3 (envF w.params 1473 n [("port",n+2),("sockets",n+1)])) (act:=tCmp .Eq (.ref hd) (.ref (n+3))) (a₀:=Value.bool false) (xs:=[(hd,(dD (dI bh) f1)),(n+3,(dD #[] 0))]) (js:=[12,57]) (hs:=dgA_h01) (N:=87) (by kernel_rfl) (by kernel_rfl) (good_if _ _ _) ha0 (by kernel_rfl) nm (
  fin_act O ⟨rfl,rfl⟩ hc nm hA (cx:=xRet (bodyF w.params 1473) 6 (envF w.params 1473 n [("port",n+2),("sockets",n+1)])) (act:=tCmp .Eq (.ref (n+11+28)) (.ref (n+11+(34+dm+3+dm2)+1))) (a₀:=Value.bool true) (xs:=[(n+39,oL [] 0),(n+11+(34+dm+3+dm2)+1,oL [] 0)]) (js:=[59,60]) (hs:=dgA_h1) (N:=6) (by kernel_rfl) (by kernel_rfl) (good_ret _ _ _) ha1 (by kernel_rfl) nm (
  fin_done (ze:=n+11+(34+dm+3+dm2)+2) (te:=t+15+(95+dt+26+dt2)+7) (ni:=[]) (by kernel_rfl) (by show n+11+(34+dm+3+dm2)+2=n+(11+(34+dm+3+dm2+1)+1); omega) (by show t+15+(95+dt+26+dt2)+7=t+(15+(95+dt+26+dt2+7)+0); omega) (by kernel_rfl) hR)))
def dgB_c (w:World)(n t:Nat)(sk sd lm lmd tb td cn ls sl ln po pd tk:Addr)(K k T:Nat)(iss:Int)(ti:Nat) (g:Int)(tg:Nat)(l x:Int)(tf tl tx:Nat)(lt:List Ent)(e1:Nat)(lc:List Ent)(e2:Nat)(ll:List Ent)(e3:Nat)(lk:List Ent)(e4:Nat)(lh:List Ent)(e5:Nat)(bk hd hr:Addr)(q1 q2 q3 q4:Nat) (m:Int)(tm:Nat) (a:Int)(ta eb:Nat)(bh br:List Ent)(f1 f2:Nat) (p:Int)(tw tp:Nat) (z:Int)(tz:Nat)(ix:Nat)(N M:Nat)(I r:Int)(tr ua ub uc ud:Nat)(es':Array DictEntry)(tr' i j dm dt dm2 dt2:Nat):Con:=⟨Code.call (.ref 1473) ⟨[.ref sk,.ref bk,.str "give up" tw,.int p tp],[]⟩,n,t,allO w sk sd lm tb td cn ls sl ln po pd tk T iss ti g tg l x tf tl tx lt e1 lc e2 ll e3 lk e4 lh e5++[(bk,dD (dSt w (bkL q1 q2 q3 q4 m tm a ta hd hr)) eb),(hd,dD (dI bh) f1),(hr,dD (dI br) f2)]++linkO w N M lm k I r tr ud,[oI 1431 sd,oSd w T lm po tb sl ln iss ti g tg,oI 161 pd,oPd w (T+8) tk l x tf tl tx,(dD (dI (lt.eraseIdx j)) (e1+1)),oI 1173 td,oTd w T cn ls,(dD es' (e2+1)),(dD (dL w ll) e3),(dD (dI (lk.eraseIdx i)) (e4+1)),(dD (dI lh) e5),(dD (dSt w (bkL q1 q2 q3 q4 m tm a ta hd hr)) eb),(dD (dI (bh.eraseIdx ix)) (f1+1)),(dD (dI br) f2)]++deadO w N M lm k I r tr ud,[],.ok (.ret (.bool true)),11+(34+dm+3+dm2+1)+1,15+(95+dt+26+dt2+7)+0,14⟩
def dgB_h0:List Nat:=[]
def dgB_h1:List Nat:=[]
theorem dgB_ok (w ba bb fz n t sk sd lm lmd tb td cn ls sl ln po pd tk K k T iss ti g tg l x tf tl tx lt e1 lc e2 ll e3 lk e4 lh e5 bk hd hr q1 q2 q3 q4 m tm a ta eb bh br f1 f2 p tw tp z tz ix N M I r tr ua ub uc ud es' tr' i j dm dt dm2 dt2 r2 tv2)(hc:∀D∈([cGetS w (n+3) (t+6) bk (bkL q1 q2 q3 q4 m tm a ta hd hr) eb "held" (t+5) (.ref hd),cSorted (n+4) (t+8) hd [(hd,dD (dI bh) f1)] (keysV bh),cLenD (n+11) (t+8) hd bh f1,cMod (n+11) (t+10) p tp (↑bh.length) (t+9),cLGet (n+11) (t+11) (n+8) (sortV (keysV bh))
 (match keysV bh with
 | []=>0
 | x=>2)
 (p.fmod ↑bh.length) (t+10) (.int z tz),cPopI (n+11) (t+12) hd bh f1 z tz ix (.int r2 tv2),abB_c w (n+11) (t+15) sk sd lm lmd tb td cn ls sl ln po pd tk K k T iss ti g tg l x tf tl tx lt e1 lc e2 ll e3 lk e4
 lh e5 N M I r tr ua ub uc ud z tz (t+14) es' tr' i j dm dt dm2 dt2]:List Con),ConOk (wR w ba bb) fz D) (ha0:ActOk (wR w ba bb) fz [(hd,(dD (dI bh) f1)),(n+3,(dD #[] 0))] (tCmp .Eq (.ref hd) (.ref (n+3))) (Value.bool false)) (ha1:ActOk (wR w ba bb) fz [(n+39,oL [] 0),(n+11+(34+dm+3+dm2)+1,oL [] 0)] (tCmp .Eq (.ref (n+11+28)) (.ref (n+11+(34+dm+3+dm2)+1))) (Value.bool true)):ConOk (wR w ba bb) fz (dgB_c w n t sk sd lm lmd tb td cn ls sl ln po pd tk K k T iss ti g tg l x tf tl tx lt e1 lc e2 ll e3 lk e4 lh e5 bk hd hr q1 q2 q3 q4 m tm a ta eb bh br f1 f2 p tw tp z tz ix N M I r tr ua ub uc ud es' tr' i j dm dt dm2 dt2):=by
 cases bb
 ·cases ba<;>exact con_fin (N:=68) (w0:=0) (u0:=1) (hs:=dgA_h00) (by kernel_rfl) (by kernel_rfl) (by kernel_rfl) hc nm nm (fun A s R hA O hR=>
  fin_act O ⟨rfl,rfl⟩ hc nm hA (cx:=xIf (bodyF w.params 1473) 3 (envF w.params 1473 n [("port",n+2),("sockets",n+1)])) (act:=tCmp .Eq (.ref hd) (.ref (n+3))) (a₀:=Value.bool false) (xs:=[(hd,(dD (dI bh) f1)),(n+3,(dD #[] 0))]) (js:=[12,57]) (hs:=dgA_h01) (N:=87) (by kernel_rfl) (by kernel_rfl) (good_if _ _ _) ha0 (by kernel_rfl) nm (
  fin_act O ⟨rfl,rfl⟩ hc nm hA (cx:=xRet (bodyF w.params 1473) 6 (envF w.params 1473 n [("port",n+2),("sockets",n+1)])) (act:=tCmp .Eq (.ref (n+11+28)) (.ref (n+11+(34+dm+3+dm2)+1))) (a₀:=Value.bool true) (xs:=[(n+39,oL [] 0),(n+11+(34+dm+3+dm2)+1,oL [] 0)]) (js:=[59,60]) (hs:=dgB_h0) (N:=6) (by kernel_rfl) (by kernel_rfl) (good_ret _ _ _) ha1 (by kernel_rfl) nm (
  fin_done (ze:=n+11+(34+dm+3+dm2)+2) (te:=t+15+(95+dt+26+dt2)+7) (ni:=[]) (by kernel_rfl) (by show n+11+(34+dm+3+dm2)+2=n+(11+(34+dm+3+dm2+1)+1); omega) (by show t+15+(95+dt+26+dt2)+7=t+(15+(95+dt+26+dt2+7)+0); omega) (by kernel_rfl) hR)))
 ·cases ba<;>exact con_fin (N:=68) (w0:=0) (u0:=1) (hs:=dgA_h00) (by kernel_rfl) (by kernel_rfl) (by kernel_rfl) hc nm nm (fun A s R hA O hR=>
  fin_act O ⟨rfl,rfl⟩ hc nm hA (cx:=xIf (bodyF w.params 1473) 3 (envF w.params 1473 n [("port",n+2),("sockets",n+1)])) (act:=tCmp .Eq (.ref hd) (.ref (n+3))) (a₀:=Value.bool false) (xs:=[(hd,(dD (dI bh) f1)),(n+3,(dD #[] 0))]) (js:=[12,57]) (hs:=dgA_h01) (N:=87) (by kernel_rfl) (by kernel_rfl) (good_if _ _ _) ha0 (by kernel_rfl) nm (
  fin_act O ⟨rfl,rfl⟩ hc nm hA (cx:=xRet (bodyF w.params 1473) 6 (envF w.params 1473 n [("port",n+2),("sockets",n+1)])) (act:=tCmp .Eq (.ref (n+11+28)) (.ref (n+11+(34+dm+3+dm2)+1))) (a₀:=Value.bool true) (xs:=[(n+39,oL [] 0),(n+11+(34+dm+3+dm2)+1,oL [] 0)]) (js:=[59,60]) (hs:=dgB_h1) (N:=6) (by kernel_rfl) (by kernel_rfl) (good_ret _ _ _) ha1 (by kernel_rfl) nm (
  fin_done (ze:=n+11+(34+dm+3+dm2)+2) (te:=t+15+(95+dt+26+dt2)+7) (ni:=[]) (by kernel_rfl) (by show n+11+(34+dm+3+dm2)+2=n+(11+(34+dm+3+dm2+1)+1); omega) (by show t+15+(95+dt+26+dt2)+7=t+(15+(95+dt+26+dt2+7)+0); omega) (by kernel_rfl) hR)))
def dkA_c (w:World)(n t:Nat)(sk sd lm lmd tb td cn ls sl ln po pd tk:Addr)(K k T:Nat)(iss:Int)(ti:Nat) (g:Int)(tg:Nat)(l x:Int)(tf tl tx:Nat)(lt:List Ent)(e1:Nat)(lc:List Ent)(e2:Nat)(ll:List Ent)(e3:Nat)(lk:List Ent)(e4:Nat)(lh:List Ent)(e5:Nat)(bk hd hr:Addr)(q1 q2 q3 q4:Nat) (m:Int)(tm:Nat) (a:Int)(ta eb:Nat)(bh br:List Ent)(f1 f2:Nat) (p:Int)(tw tp:Nat) (z:Int)(tz:Nat)(ix:Nat)(N M:Nat) (r:Int)(ua up um:Nat)(r':Int)(tr:Nat)(es':Array DictEntry)(tr' i dm dt:Nat):Con:=⟨Code.call (.ref 1473) ⟨[.ref sk,.ref bk,.str "close" tw,.int p tp],[]⟩,n,t,allO w sk sd lm tb td cn ls sl ln po pd tk T iss ti g tg l x tf tl tx lt e1 lc e2 ll e3 lk e4 lh e5++[(bk,dD (dSt w (bkL q1 q2 q3 q4 m tm a ta hd hr)) eb),(hd,dD (dI bh) f1),(hr,dD (dI br) f2)]++lisO w N M r ua up um,[oI 1431 sd,oSd w T lm po tb sl ln iss ti g tg,oI 161 pd,oPd w (T+8) tk l x tf tl tx,(dD (dI lt) e1),oI 1173 td,oTd w T cn ls,(dD (dC w lc) e2),(dD es' (e3+1)),(dD (dI lk) e4),(dD (dI (lh.eraseIdx i)) (e5+1)),(dD (dSt w (bkL q1 q2 q3 q4 m tm a ta hd hr)) eb),(dD (dI bh) f1),(dD (dI (br.eraseIdx ix)) (f2+1)),oD w.params 5 [("address",M+32,.int 0 ua),("port",M+34,.int r up),("most_waiting",M+36,.int 2 um),("opening",M+38,.ref (N+9)),("ready",M+40,.ref (N+10))],oI 1215 (N+6),oL [] 0,oL [] 0],[],.ok (.ret (.bool true)),11+(dm)+1,15+(dt)+0,10⟩
def dkA_h00:List Nat:=hx 26 [0x194a845f47e5627377487f5dffadfe8325c81de6c]
def dkA_h01:List Nat:=hx 69 [0x4bca9e92fa31afd245edfdc87f4eee085bd40d3fff88dabf51c3900189424fac68e205ee0b04326961175b331e8e129cdbfa1f3cf6de71fe]
def dkA_h0:List Nat:=[]
def dkA_h1:List Nat:=[]
theorem dkA_ok (w ba bb fz n t sk sd lm lmd tb td cn ls sl ln po pd tk K k T iss ti g tg l x tf tl tx lt e1 lc e2 ll e3 lk e4 lh e5 bk hd hr q1 q2 q3 q4 m tm a ta eb bh br f1 f2 p tw tp z tz ix N M r ua up um r' tr es' tr' i dm dt)(hc:∀D∈([cGetS w (n+3) (t+6) bk (bkL q1 q2 q3 q4 m tm a ta hd hr) eb "heard" (t+5) (.ref hr),cSorted (n+4) (t+8) hr [(hr,dD (dI br) f2)] (keysV br),cLenD (n+11) (t+8) hr br f2,cMod (n+11) (t+10) p tp (↑br.length) (t+9),cLGet (n+11) (t+11) (n+8) (sortV (keysV br))
 (match keysV br with
 | []=>0
 | x=>2)
 (p.fmod ↑br.length) (t+10) (.int z tz),cPopI (n+11) (t+12) hr br f2 z tz ix (.int r' tr),conDm
 (clo_c w (n+11) (t+15) sk sd lm lmd tb td cn ls sl ln po pd tk K k T iss ti g tg l x tf tl tx lt e1 lc e2 ll e3 lk
  e4 lh e5 N M r ua up um z tz (t+14) es' tr' i 0 0)
 dm dt]:List Con),ConOk (wR w ba bb) fz D) (ha0:ActOk (wR w ba bb) fz [(hr,(dD (dI br) f2)),(n+3,(dD #[] 0))] (tCmp .Eq (.ref hr) (.ref (n+3))) (Value.bool false)) (ha1:ActOk (wR w ba bb) fz [(n+13,oL [] 0),(n+11+dm,oL [] 0)] (tCmp .Eq (.ref (n+11+2)) (.ref (n+11+dm))) (Value.bool true)):ConOk (wR w ba bb) fz (dkA_c w n t sk sd lm lmd tb td cn ls sl ln po pd tk K k T iss ti g tg l x tf tl tx lt e1 lc e2 ll e3 lk e4 lh e5 bk hd hr q1 q2 q3 q4 m tm a ta eb bh br f1 f2 p tw tp z tz ix N M r ua up um r' tr es' tr' i dm dt):=by
 cases bb
 ·cases ba<;>exact con_fin (N:=68) (w0:=0) (u0:=1) (hs:=dkA_h00) (by kernel_rfl) (by kernel_rfl) (by kernel_rfl) hc nm nm (fun A s R hA O hR=>
  fin_act O ⟨rfl,rfl⟩ hc nm hA (cx:=xIf (bodyF w.params 1473) 3 (envF w.params 1473 n [("port",n+2),("sockets",n+1)])) (act:=tCmp .Eq (.ref hr) (.ref (n+3))) (a₀:=Value.bool false) (xs:=[(hr,(dD (dI br) f2)),(n+3,(dD #[] 0))]) (js:=[13,21]) (hs:=dkA_h01) (N:=87) (by kernel_rfl) (by kernel_rfl) (good_if _ _ _) ha0 (by kernel_rfl) nm (
  fin_act O ⟨rfl,rfl⟩ hc nm hA (cx:=xRet (bodyF w.params 1473) 6 (envF w.params 1473 n [("port",n+2),("sockets",n+1)])) (act:=tCmp .Eq (.ref (n+11+2)) (.ref (n+11+dm))) (a₀:=Value.bool true) (xs:=[(n+13,oL [] 0),(n+11+dm,oL [] 0)]) (js:=[23,24]) (hs:=dkA_h0) (N:=6) (by kernel_rfl) (by kernel_rfl) (good_ret _ _ _) ha1 (by kernel_rfl) nm (
  fin_done (ze:=n+11+dm+1) (te:=t+15+dt) (ni:=[]) (by kernel_rfl) (by show n+11+dm+1=n+(11+(dm)+1); omega) (by show t+15+dt=t+(15+(dt)+0); omega) (by kernel_rfl) hR)))
 ·cases ba<;>exact con_fin (N:=68) (w0:=0) (u0:=1) (hs:=dkA_h00) (by kernel_rfl) (by kernel_rfl) (by kernel_rfl) hc nm nm (fun A s R hA O hR=>
  fin_act O ⟨rfl,rfl⟩ hc nm hA (cx:=xIf (bodyF w.params 1473) 3 (envF w.params 1473 n [("port",n+2),("sockets",n+1)])) (act:=tCmp .Eq (.ref hr) (.ref (n+3))) (a₀:=Value.bool false) (xs:=[(hr,(dD (dI br) f2)),(n+3,(dD #[] 0))]) (js:=[13,21]) (hs:=dkA_h01) (N:=87) (by kernel_rfl) (by kernel_rfl) (good_if _ _ _) ha0 (by kernel_rfl) nm (
  fin_act O ⟨rfl,rfl⟩ hc nm hA (cx:=xRet (bodyF w.params 1473) 6 (envF w.params 1473 n [("port",n+2),("sockets",n+1)])) (act:=tCmp .Eq (.ref (n+11+2)) (.ref (n+11+dm))) (a₀:=Value.bool true) (xs:=[(n+13,oL [] 0),(n+11+dm,oL [] 0)]) (js:=[23,24]) (hs:=dkA_h1) (N:=6) (by kernel_rfl) (by kernel_rfl) (good_ret _ _ _) ha1 (by kernel_rfl) nm (
  fin_done (ze:=n+11+dm+1) (te:=t+15+dt) (ni:=[]) (by kernel_rfl) (by show n+11+dm+1=n+(11+(dm)+1); omega) (by show t+15+dt=t+(15+(dt)+0); omega) (by kernel_rfl) hR)))
section
theorem same_nd {l:List (Addr×Obj)}(nd:(l.map (·.1)).Nodup){p q:Addr×Obj}(hp:p∈l)(hq:q∈l) (e:p.1=q.1):p=q:=by
 have h1:=find_at nd hp
 have h2:=find_at nd hq
 rw[e,h2] at h1
 exact(Option.some.inj h1).symm
theorem Inv.mono {c:Cst} {σ:Sg} {k:Nat} (I:Inv c σ k)(hk:k < 20):Inv c σ (k+1):=
 ⟨I.m2,I.m6,hk,I.xa,I.x1,I.x2,I.g0,by have:=I.gk; omega,I.i0,by have:=I.ik; omega,I.ur,I.und,I.vnd,I.znd,I.uz,I.vz,I.uI,I.ind,by have:=I.ul; omega,by have:=I.vl; omega,I.tb⟩
theorem end_same {w:World}{ba bb:Bool} {c:Cst} {σ:Sg} {n:Nat} (D:Base w ba bb c σ n) {Q:Sg->Prop} (q:Q σ) {C:Con}(hr:C.res=.ok (.ret (.bool true)))(hz:zipA C.pre C.post=C.pre)(hs:∀p∈C.pre,p∈objs w c σ):EndOk w c σ Q C C:=
 ⟨rfl,rfl,hr,σ,q,fun p hp=>by
  by_cases e:p.1∈C.pre.map (·.1)
  ·obtain⟨o,z⟩:=fst_mem e
   exact .inl (by rw[hz,same_nd D.nd hp (hs _ z) rfl]; exact z)
  ·exact .inr (.inr ⟨hp,e⟩),fun a=>le_add_right _ _⟩
theorem core_mut {w:World} {c:Cst} {σ:Sg}:∀p∈core w c σ,p∈mutO w c σ:=fun p hp=>mem_append_left _ hp
theorem mutc_nd {w:World} {c:Cst} {σ:Sg} (h:((mutO w c σ).map (·.1)).Nodup):((core w c σ).map (·.1)).Nodup:=by
 unfold mutO at h
 rw[map_append] at h
 exact(nodup_append.mp h).1
section
variable {w:World}{ba bb:Bool} {c:Cst} {σ:Sg} {k:Nat} (I:Inv c σ k)(hk:k < 20){tw:Nat} {p:Int}{tp:Nat}(ht:σ.tab.set=true)
include I hk ht
abbrev QD (c:Cst) (k:Nat)(σ':Sg):Prop:=Inv c σ' (k+1)/\σ'.tab.set=true
theorem dgE_deed (h:σ.us= []):WeakC (wR w ba bb) 16 (rtCall c.sk c.bk (Str.ofString "give up") tw p tp) (objs w c σ) (.ok (.ret (.bool true))) (fun os'=>∃σ',os'=objs w c σ'/\QD c k σ'):=by
 refine deed_of fun n t D=>?_
 have h1:c.hd≠1:=D.one (p:=(c.hd,dD (dI σ.bh) σ.f1)) (core_sub _ (mem_idx (l:=core w c σ) (js:=[12]) (xs:=[(c.hd,dD (dI σ.bh) σ.f1)]) rfl _ (.head _)))
 have hz:(dI σ.bh).size=0:=by unfold Sg.bh; rw[h]; rfl
 have K:=dgE_ok w ba bb (fzO w c σ) n t c.sk c.sd c.lm c.lmd c.tb c.td c.cn c.ls c.sl c.ln c.po c.pd c.tk c.K c.k c.T σ.iss σ.ti σ.g σ.tg (28+(c.m:Int)) σ.x c.tf c.tl σ.tx σ.lt σ.e1 σ.lc σ.e2 σ.ll σ.e3 σ.lk σ.e4 σ.lh σ.e5 c.bk c.hd c.hr c.q1 c.q2 c.q3 c.q4 (c.m:Int) c.tm σ.a σ.ta σ.eb σ.bh σ.br σ.f1 σ.f2 p tw tp (all1 bk_held) (act_eqD (d:=c.hd) (z:=n+3) (es:=dI σ.bh) (ep:=σ.f1) h1 (by have:=D.big; show(n+3:Nat)≠1; omega) (by rw[hz]; rfl))
 refine⟨_,_,wkp_of_wk (wk_of_con K),rfl,rfl,rfl,le_of_ble_eq_true rfl,fun q hq=>core_mut q hq,mutc_nd D.mut,fun C' hC=>?_⟩
 subst hC
 exact end_same D ⟨I.mono hk,ht⟩ rfl rfl fun q hq=>core_sub q hq
theorem dkE_deed (h:σ.vs= []):WeakC (wR w ba bb) 16 (rtCall c.sk c.bk (Str.ofString "close") tw p tp) (objs w c σ) (.ok (.ret (.bool true))) (fun os'=>∃σ',os'=objs w c σ'/\QD c k σ'):=by
 refine deed_of fun n t D=>?_
 have h1:c.hr≠1:=D.one (p:=(c.hr,dD (dI σ.br) σ.f2)) (core_sub _ (mem_idx (l:=core w c σ) (js:=[13]) (xs:=[(c.hr,dD (dI σ.br) σ.f2)]) rfl _ (.head _)))
 have hz:(dI σ.br).size=0:=by unfold Sg.br; rw[h]; rfl
 have K:=dkE_ok w ba bb (fzO w c σ) n t c.sk c.sd c.lm c.lmd c.tb c.td c.cn c.ls c.sl c.ln c.po c.pd c.tk c.K c.k c.T σ.iss σ.ti σ.g σ.tg (28+(c.m:Int)) σ.x c.tf c.tl σ.tx σ.lt σ.e1 σ.lc σ.e2 σ.ll σ.e3 σ.lk σ.e4 σ.lh σ.e5 c.bk c.hd c.hr c.q1 c.q2 c.q3 c.q4 (c.m:Int) c.tm σ.a σ.ta σ.eb σ.bh σ.br σ.f1 σ.f2 p tw tp (all1 bk_heard) (act_eqD (d:=c.hr) (z:=n+3) (es:=dI σ.br) (ep:=σ.f2) h1 (by have:=D.big; show(n+3:Nat)≠1; omega) (by rw[hz]; rfl))
 refine⟨_,_,wkp_of_wk (wk_of_con K),rfl,rfl,rfl,le_of_ble_eq_true rfl,fun q hq=>core_mut q hq,mutc_nd D.mut,fun C' hC=>?_⟩
 subst hC
 exact end_same D ⟨I.mono hk,ht⟩ rfl rfl fun q hq=>core_sub q hq
end
end
section
theorem count_sub {l l':List Nat}(nd:l.Nodup) (h:∀x∈l,x∈l') (a:Nat):l.count a<=l'.count a:=by
 by_cases e:a∈l
 ·have h1:=nodup_iff_count.mp nd a
  have h2:=count_pos_iff.mpr (h a e)
  omega
 ·rw[List.count_eq_zero_of_not_mem e]; exact Nat.zero_le _
theorem mem_of_split {α:Type} {l:List α} {i:Nat} {x:α} (h:l[i]?=some x):l=l.take i++x::l.drop (i+1)/\l.eraseIdx i=l.take i++l.drop (i+1):=by
 refine⟨?_,List.eraseIdx_eq_take_drop_succ ..⟩
 have hi:i < l.length:=(List.getElem?_eq_some_iff.mp h).1
 have e:l.drop i=x::l.drop (i+1):=by
  rw[List.drop_eq_getElem_cons hi]
  congr 1
  exact(List.getElem?_eq_some_iff.mp h).2
 rw[<- e,List.take_append_drop]
section
variable {w:World}{ba bb:Bool} {c:Cst} {σ:Sg} {n:Nat} (D:Base w ba bb c σ n)
include D
theorem end_of {Q:Sg->Prop}{σ':Sg}{C C':Con}(e1:C'.n=C.n)(e2:C'.pre=C.pre)(e3:C'.res=.ok (.ret (.bool true))) (q:Q σ'){Z Nw Rst:List (Addr×Obj)}(hm:∀p∈objs w c σ',p∈Z\/p∈Nw\/p∈Rst)
  (hcnt:∀a,((objs w c σ').map (·.1)).count a<=(Z.map (·.1)).count a+(Nw.map (·.1)).count a+(Rst.map (·.1)).count a) (hZ:∀p∈Z,p∈zipA C'.pre C'.post) (hZc:∀a,(Z.map (·.1)).count a<=(C.pre.map (·.1)).count a)
  (hN:∀p∈Nw,p∈C'.news) (hNn:(Nw.map (·.1)).Nodup) (hR:∀p∈Rst,p∈objs w c σ) (hRc:∀a,(C.pre.map (·.1)).count a+(Rst.map (·.1)).count a<=((objs w c σ).map (·.1)).count a):EndOk w c σ Q C C':=by
 refine⟨e1,e2,e3,σ',q,fun p hp=>?_,fun a=>?_⟩
 ·rcases hm p hp with h | h | h
  ·exact .inl (hZ p h)
  ·exact .inr (.inl (hN p h))
  ·refine .inr (.inr ⟨hR p h,fun z=>?_⟩)
   have h1:=count_pos_iff.mpr z
   have h2:=count_pos_iff.mpr (mem_fst h)
   have h3:=hRc p.1
   have h4:=nodup_iff_count.mp D.nd p.1
   omega
 ·have h1:=hcnt a
  have h2:=hZc a
  have h3:=hRc a
  have h4:=count_sub hNn (sub_fst hN) a
  omega
theorem Base.frC:∀x∈σ.lc,FrC (fzO w c σ) x:=fun x hx=>by
 obtain⟨u,hu,rfl⟩:=mem_map.mp hx
 have hk:∀q∈lkK u,q∈frzO w c σ:=fun q hq=>mem_append_left _ (mem_append_right _ (mem_flatMap.mpr ⟨u,hu,hq⟩))
 exact⟨u.N+1,u.N+2,u.ta,u.tr,u.tb,u.tc,D.fz (p:=(u.N+59,oT [.ref (u.N+1),.ref (u.N+2)])) (hk _ (.head _)),D.fz (p:=(u.N+1,oT [.int 1 u.ta,.int u.r u.tr])) (hk _ (.tail _ (.head _))),D.fz (p:=(u.N+2,oT [.int 2 u.tb,.int 80 u.tc])) (hk _ (.tail _ (.tail _ (.head _))))⟩
theorem Base.frL:∀x∈σ.ll,FrL (fzO w c σ) x:=fun x hx=>by
 obtain⟨v,hv,rfl⟩:=mem_map.mp hx
 exact⟨v.ta,v.tp,D.fz (p:=(v.N+5,oT [.int 0 v.ta,.int v.p v.tp])) (mem_append_right _ (mem_flatMap.mpr ⟨v,hv,.head _⟩))⟩
theorem Base.lim:∀p∈limO w c,fzO w c σ p.1=some p.2:=fun p hp=>D.fz (mem_append_left _ (mem_append_left _ (mem_append_left _ hp)))
theorem Base.code:∀p∈σ.tab.codes,fzO w c σ p.1=some p.2:=fun p hp=>D.fz (mem_append_left _ (mem_append_left _ (mem_append_right _ hp)))
theorem Base.key {u:Lk}(hu:u∈σ.us):∀p∈lkK u,fzO w c σ p.1=some p.2:=fun p hp=>D.fz (mem_append_left _ (mem_append_right _ (mem_flatMap.mpr ⟨u,hu,hp⟩)))
end
example (a b c d e f:Prop) (h:a\/(b\/c)\/(d\/e)):(e\/d)\/(c\/b\/a\/f):=by grind
end
section
section
variable {w:World}{fz:Addr->Option Obj} {d:Addr} {l:List Ent}{ep:Nat}
theorem pos_at:∀ {l:List Ent} {i:Nat} {x:Ent},(l.map (·.1)).Nodup->l[i]?=some x->posP l x.1=some i
 | [],i,x,_,h=>by cases h
 | y::l,0,x,nd,h=>by
  have e:y=x:=Option.some.inj h
  subst e
  unfold posP
  rw[findIdx?_cons,decide_eq_true rfl]
  rfl
 | y::l,i+1,x,nd,h=>by
  have h':l[i]?=some x:=by rw[getElem?_cons_succ] at h; exact h
  obtain⟨n1,n2⟩:=nodup_cons.mp nd
  have ih:=pos_at n2 h'
  have ne:y.1≠x.1:=fun e=>n1 (mem_map.mpr ⟨x,mem_of_getElem? h',e.symm⟩)
  unfold posP at ih ⊢
  rw[findIdx?_cons,decide_eq_false ne,ih]
  rfl
theorem kfC0 (hf:∀x∈l,FrC fz x)(nd:(l.map (·.1)).Nodup) {i:Nat} {x:Ent}(hx:l[i]?=some x):KfAt w fz d (dC w l) ep (.ref x.2.1) [] (kC w x.1) 7 (some i):=by
 have:=kf_conn (w:=w) (fz:=fz) (d:=d) (ep:=ep) (ex:=[]) (p:=x.1) (a:=x.2.1) nd (fun h B x hx=>(hf x hx).is h B) fun h B _=>(hf x (mem_of_getElem? hx)).is h B
 rwa [pos_at nd hx] at this
theorem kfL0 (hf:∀x∈l,FrL fz x)(nd:(l.map (·.1)).Nodup) {i:Nat} {x:Ent}(hx:l[i]?=some x):KfAt w fz d (dL w l) ep (.ref x.2.1) [] (kL w x.1) 3 (some i):=by
 have:=kf_list (w:=w) (fz:=fz) (d:=d) (ep:=ep) (ex:=[]) (p:=x.1) (a:=x.2.1) nd (fun h B x hx=>(hf x hx).is h B) fun h B _=>(hf x (mem_of_getElem? hx)).is h B
 rwa [pos_at nd hx] at this
theorem dE_at {h:Int->Int} {k:Int->Nat->Value} {i:Nat} {x:Ent}(hx:l[i]?=some x):(dE h k l)[i]?=some ⟨h x.1,k x.1 x.2.1,x.2.2⟩:=by rw[dE_get,hx]; rfl
theorem tabC (hf:∀x∈l,FrC fz x)(nd:(l.map (·.1)).Nodup)(hv:∀x∈l,IsI x.2.2)(hl:l.length<=50):TabE w fz d 7 (dC w l) ep l:=
 ⟨dE_size,fun i x hx=>⟨_,dE_at hx⟩,fun x hx n t=>by
  obtain⟨i,hi⟩:=List.mem_iff_getElem?.mp hx
  exact cGet_ok (kfC0 hf nd hi) (dE_at hi),hv,hl⟩
theorem tabLs (hf:∀x∈l,FrL fz x)(nd:(l.map (·.1)).Nodup)(hv:∀x∈l,IsI x.2.2)(hl:l.length<=50):TabE w fz d 3 (dL w l) ep l:=
 ⟨dE_size,fun i x hx=>⟨_,dE_at hx⟩,fun x hx n t=>by
  obtain⟨i,hi⟩:=List.mem_iff_getElem?.mp hx
  exact cGet_ok (kfL0 hf nd hi) (dE_at hi),hv,hl⟩
theorem popC (hf:∀x∈l,FrC fz x)(nd:(l.map (·.1)).Nodup)(hl:l.length<=50) {i:Nat} {x:Ent}(hx:l[i]?=some x)(n t:Nat):ConOk w fz (cPopE n t d (dC w l) (dC w (l.eraseIdx i)) ep x.2.1 7 x.2.2):=by
 have K:=cPop_ok (w:=w) (fz:=fz) (n:=n) (t:=t) (kfC0 (d:=d) (ep:=ep) hf nd hx) (dE_at hx) (by unfold dC; rw[dE_size,sizeLine_eq]; omega)
 unfold cPop at K
 unfold dC at K ⊢
 rw[dE_erase (pos_lt (pos_at nd hx))] at K
 exact K
theorem popL (hf:∀x∈l,FrL fz x)(nd:(l.map (·.1)).Nodup)(hl:l.length<=50) {i:Nat} {x:Ent}(hx:l[i]?=some x)(n t:Nat):ConOk w fz (cPopE n t d (dL w l) (dL w (l.eraseIdx i)) ep x.2.1 3 x.2.2):=by
 have K:=cPop_ok (w:=w) (fz:=fz) (n:=n) (t:=t) (kfL0 (d:=d) (ep:=ep) hf nd hx) (dE_at hx) (by unfold dL; rw[dE_size,sizeLine_eq]; omega)
 unfold cPop at K
 unfold dL at K ⊢
 rw[dE_erase (pos_lt (pos_at nd hx))] at K
 exact K
end
end
section
theorem filter_no {α:Type} {f:α->Int} {l:List α} {z:Int} (h:∀y∈l,f y≠z):(l.filter fun y=>f y == z)= []:=
 List.filter_eq_nil_iff.mpr fun y hy e=>h y hy (beq_iff_eq.mp e)
theorem filter_one {α:Type} {f:α->Int} {l:List α} {i:Nat} {x:α}(nd:(l.map f).Nodup) (h:l[i]?=some x):(l.filter fun y=>f y == f x)= [x]:=by
 obtain⟨e,_⟩:=mem_of_split h
 rw[e,map_append,map_cons] at nd
 obtain⟨n1,n2,n3⟩:=nodup_append.mp nd
 obtain⟨n4,n5⟩:=nodup_cons.mp n2
 rw[e,filter_append,List.filter_cons_of_pos (by rw[beq_self_eq_true]),filter_no (l:=l.take i) fun y hy q=>n3 _ (mem_map.mpr ⟨y,hy,rfl⟩) _ (.head _) q,filter_no (l:=l.drop (i+1)) fun y hy (q:f y=f x)=>n4 (mem_map.mpr ⟨y,hy,q⟩)]
 rfl
theorem hits_is {α:Type} (l:List α) (f:α->Int) (N:α->Nat)(zz:α->Int)(tz:α->Nat) (z:Int):hitsL (l.map fun x=>(f x,N x,Value.int (zz x) (tz x))) z=(l.filter fun x=>zz x == z).map fun x=>.ref (N x):=by
 unfold hitsL
 rw[List.filter_map,map_map]
 rfl
theorem pick_sorted {α:Type} (l:List α) (f:α->Int) (g:α->Nat) (v:α->Value) {k:Nat}(hk:k < l.length):∃ (j:Nat) (x:α),l[j]?=some x/\(sortV (keysV (l.map fun x=>(f x,g x,v x))))[k]?=some (.int (f x) (g x)):=by
 rw[keysV_at]
 have hl:k < (sortV (l.map fun x=>Value.int (f x) (g x))).length:=by rw[(sortV_perm _).length_eq,length_map]; exact hk
 have hm:=(sortV_perm _).mem_iff.mp (getElem_mem hl)
 obtain⟨x,hx,e⟩:=mem_map.mp hm
 obtain⟨j,hj⟩:=List.mem_iff_getElem?.mp hx
 exact⟨j,x,hj,by rw[List.getElem?_eq_getElem hl,<- e]⟩
theorem fmod_at {p:Int} {n:Nat} (h:0 < n):0<=p.fmod n/\(p.fmod n).toNat < n/\p.fmod n < n:=by
 rw[Int.fmod_eq_emod_of_nonneg _ (by omega)]
 have h1:=Int.emod_nonneg p (by omega:(n:Int)≠0)
 have h2:=Int.emod_lt_of_pos p (by omega:(0:Int) < n)
 omega
section
variable {w:World}{ba bb:Bool} {c:Cst} {σ:Sg} {k:Nat} (I:Inv c σ k)(hk:k < 20){tw:Nat} {p:Int}{tp:Nat}(ht:σ.tab.set=true)
noncomputable def Sg.noV (σ:Sg) (j:Nat):Sg:={σ with vs:=σ.vs.eraseIdx j,e3:=σ.e3+1,e5:=σ.e5+1,f2:=σ.f2+1}
include I hk in
theorem Inv.noV (j:Nat):Inv c (σ.noV j) (k+1):=by
 have J:=I.mono hk
 have sv:(σ.vs.eraseIdx j).Sublist σ.vs:=eraseIdx_sublist _ _
 have mv:∀v∈σ.vs.eraseIdx j,v∈σ.vs:=fun v hv=>sv.subset hv
 exact⟨J.m2,J.m6,J.hk,J.xa,J.x1,J.x2,J.g0,J.gk,J.i0,J.ik,J.ur,J.und,J.vnd.sublist (sv.map _),J.znd.sublist (List.Sublist.append_left (sv.map _) _),J.uz,fun v hv=>J.vz v (mv v hv),J.uI,J.ind,J.ul,le_trans (List.Sublist.length_le sv) J.vl,by
  have tb:=I.tb
  unfold tabFit Sg.noV at *
  cases e:σ.tab<;>rw[e] at tb<;>dsimp only at tb ⊢
  ·exact⟨tb.1,by rw[tb.2]; rfl⟩
  ·rw[tb]; rfl⟩
include I hk ht in
theorem dkA_deed (h:σ.vs≠ []):WeakC (wR w ba bb) 16 (rtCall c.sk c.bk (Str.ofString "close") tw p tp) (objs w c σ) (.ok (.ret (.bool true))) (fun os'=>∃σ',os'=objs w c σ'/\QD c k σ'):=by
 refine deed_of fun n t D=>?_
 have hlen:0 < σ.vs.length:=List.length_pos_iff.mpr h
 have hbr:σ.br.length=σ.vs.length:=length_map ..
 obtain⟨i0,i1,i2⟩:=fmod_at (p:=p) (n:=σ.br.length) (by omega)
 obtain⟨j,v,hj,hv⟩:=pick_sorted σ.vs (·.z) (·.th) (fun v=>.int v.p v.tv) (k:=(p.fmod σ.br.length).toNat) (by omega)
 have vm:v∈σ.vs:=mem_of_getElem? hj
 have b1:σ.br[j]?=some (v.z,v.th,.int v.p v.tv):=by unfold Sg.br; rw[getElem?_map,hj]; rfl
 have b2:σ.lh[j]?=some (v.z,v.tz,.ref (v.N+7)):=by unfold Sg.lh; rw[getElem?_map,hj]; rfl
 have b3:σ.ll[j]?=some (v.p,v.N+5,.int v.z v.tz):=by unfold Sg.ll; rw[getElem?_map,hj]; rfl
 have pb:=pos_at I.k7 b1
 have ph:=pos_at I.k5 b2
 have lv:σ.vs.length<=20:=I.vl2
 have lu:σ.us.length<=20:=I.ul2
 have l1:σ.lc.length=σ.us.length:=length_map ..
 have l2:σ.ll.length=σ.vs.length:=length_map ..
 have l3:σ.lh.length=σ.vs.length:=length_map ..
 have h1:hitsL σ.lc v.z= []:=by
  unfold Sg.lc
  rw[hits_is,filter_no fun u hu e=>(nodup_append.mp I.znd).2.2 _ (mem_map.mpr ⟨u,hu,rfl⟩) _ (mem_map.mpr ⟨v,vm,rfl⟩) e]
  rfl
 have h2:hitsL σ.ll v.z= [.ref (v.N+5)]:=by
  unfold Sg.ll
  rw[hits_is,filter_one (f:=fun v:Ls=>v.z) I.vzn hj]
  rfl
 have vC:∀x∈σ.lc,IsI x.2.2:=fun x hx=>by obtain⟨u,_,rfl⟩:=mem_map.mp hx; exact⟨_,_,rfl⟩
 have vL:∀x∈σ.ll,IsI x.2.2:=fun x hx=>by obtain⟨u,_,rfl⟩:=mem_map.mp hx; exact⟨_,_,rfl⟩
 have H1:TabE (wR w ba bb) (fzO w c σ) c.cn 7 (dC w σ.lc) σ.e2 σ.lc:=tabC D.frC I.k2 vC (by omega)
 have H2:TabE (wR w ba bb) (fzO w c σ) c.ls 3 (dL w σ.ll) σ.e3 σ.ll:=tabLs D.frL I.k3 vL (by omega)
 obtain⟨tr',dm,dt,KR⟩:=rem_B (w:=w) (ba:=ba) (bb:=bb) (tb:=c.tb) (td:=c.td) (T:=c.T) (tz:=v.th) H1 H2 h1 h2 (n+11+7) (t+15+15) fun n t=>popL (w:=wR w ba bb) D.frL I.k3 (by omega) b3 n t
 have KC:=clo_ok w ba bb (fzO w c σ) (n+11) (t+15) c.sk c.sd c.lm c.lmd c.tb c.td c.cn c.ls c.sl c.ln c.po c.pd c.tk c.K c.k c.T σ.iss σ.ti σ.g σ.tg (28+(c.m:Int)) σ.x c.tf c.tl σ.tx σ.lt σ.e1 σ.lc σ.e2 σ.ll σ.e3 σ.lk σ.e4 σ.lh σ.e5 v.N v.M v.p v.ta v.tp v.tm v.z v.th (t+14) (dL w (σ.ll.eraseIdx j)) tr' j dm dt
  (ac (cInI_ok (by rw[ph]; rfl)) (ac (cGetI_ok ph b2) (ac KR (all1 (cPopI_ok ph b2 (by omega))))))
 have hr1:c.hr≠1:=D.one (p:=(c.hr,dD (dI σ.br) σ.f2)) (core_sub _ (mem_idx (l:=core w c σ) (js:=[13]) (xs:=[(c.hr,dD (dI σ.br) σ.f2)]) rfl _ (.head _)))
 have K:=dkA_ok w ba bb (fzO w c σ) n t c.sk c.sd c.lm c.lmd c.tb c.td c.cn c.ls c.sl c.ln c.po c.pd c.tk c.K c.k c.T σ.iss σ.ti σ.g σ.tg (28+(c.m:Int)) σ.x c.tf c.tl σ.tx σ.lt σ.e1 σ.lc σ.e2 σ.ll σ.e3 σ.lk σ.e4 σ.lh σ.e5 c.bk c.hd c.hr c.q1 c.q2 c.q3 c.q4 (c.m:Int) c.tm σ.a σ.ta σ.eb σ.bh σ.br σ.f1 σ.f2 p tw tp v.z v.th j v.N v.M v.p v.ta v.tp v.tm v.p v.tv (dL w (σ.ll.eraseIdx j)) tr' j (7+dm+0) (15+dt+2)
  (ac bk_heard (ac (sortedK_ok I.k7 (by omega)) (ac (cLenD_ok I.k7 (by omega)) (ac (cMod_ok (by omega)) (ac (cLGet_ok i0 (by omega) hv) (ac (cPopI_ok pb b1 (by omega)) (all1 KC)))))))
  (act_eqD (d:=c.hr) (z:=n+3) (es:=dI σ.br) (ep:=σ.f2) hr1 (by have:=D.big; show(n+3:Nat)≠1; omega) (by have:(dI σ.br).size=σ.br.length:=dI_size; rw[this]; exact beq_eq_false_iff_ne.mpr (by omega))) act_eqN
 obtain⟨sp1,sp2⟩:=mem_of_split hj
 have spA:∀ (f:Ls->List (Addr×Obj)) (a:Nat),((σ.vs.flatMap f).map (·.1)).count a=((f v).map (·.1)).count a+(((σ.vs.eraseIdx j).flatMap f).map (·.1)).count a:=fun f a=>by
  rw[sp2]
  conv=>lhs; rw[sp1]
  simp only[flatMap_append,flatMap_cons,map_append,count_append]
  omega
 have spB:∀ (f:Ls->List (Addr×Obj)),∀q∈(σ.vs.eraseIdx j).flatMap f,q∈σ.vs.flatMap f:=fun f q hq=>by
  obtain⟨y,hy,hq⟩:=mem_flatMap.mp hq
  exact mem_flatMap.mpr ⟨y,(eraseIdx_sublist _ _).subset hy,hq⟩
 refine⟨_,_,wkp_of_wk (wk_of_con K),rfl,rfl,rfl,le_of_ble_eq_true rfl,fun q hq=>?_,?_,fun C' hC=>?_⟩
 ·rcases mem_append.mp hq with hq | hq
  ·exact core_mut q hq
  ·exact mem_append_right _ (.tail _ (mem_append_right _ (mem_flatMap.mpr ⟨v,vm,hq⟩)))
 ·refine nodup_le' D.mut fun a=>?_
  have:=spA (lsO w) a
  show((core w c σ++lsO w v).map (·.1)).count a<=((core w c σ++_).map (·.1)).count a
  simp only[map_append,map_cons,count_append,count_cons]
  omega
 ·subst hC
  refine end_of D (σ':=σ.noV j) rfl rfl rfl ⟨I.noV hk j,ht⟩ (Z:=core w c (σ.noV j)) (Nw:=[]) (Rst:=(1470,σ.tab.obj)::(σ.us.flatMap (lkO w c)++(σ.vs.eraseIdx j).flatMap (lsO w)++(limO w c++σ.tab.codes++σ.us.flatMap lkK++(σ.vs.eraseIdx j).flatMap keyL)))
   (fun q hq=>(mem_append.mp hq).imp_right .inr) (fun a=>?_) (fun q hq=>?_) (fun a=>?_) nm .nil (fun q hq=>?_) fun a=>?_
  ·have:objs w c (σ.noV j)=core w c (σ.noV j)++((1470,σ.tab.obj)::(σ.us.flatMap (lkO w c)++(σ.vs.eraseIdx j).flatMap (lsO w)++(limO w c++σ.tab.codes++σ.us.flatMap lkK++(σ.vs.eraseIdx j).flatMap keyL))):=rfl
   rw[this,map_append,count_append]
   show _<=_+0+_
   omega
  ·have e1:(σ.noV j).ll=σ.ll.eraseIdx j:=(map_eraseIdx _ _ _).symm
   have e2:(σ.noV j).lh=σ.lh.eraseIdx j:=(map_eraseIdx _ _ _).symm
   have e3:(σ.noV j).br=σ.br.eraseIdx j:=(map_eraseIdx _ _ _).symm
   unfold core at hq
   rw[e1,e2,e3] at hq
   exact mem_append_left (lsO w v) hq
  ·show((core w c σ).map (·.1)).count a<=((core w c σ++lsO w v).map (·.1)).count a
   rw[map_append,count_append]
   exact le_add_right _ _
  ·unfold objs frzO
   simp only[mem_cons,mem_append] at hq ⊢
   have:=spB (lsO w) q
   have:=spB keyL q
   grind
  ·have h3:=spA (lsO w) a
   have h4:=spA keyL a
   show((core w c σ++lsO w v).map (·.1)).count a+_<=_
   unfold objs frzO
   simp only[map_append,map_cons,count_append,count_cons]
   omega
end
end
section
section
variable {w:World}{ba bb:Bool} {c:Cst} {σ:Sg} {k:Nat} (I:Inv c σ k)(hk:k < 20){tw:Nat} {p:Int}{tp:Nat}(ht:σ.tab.set=true)
noncomputable def Sg.noU (σ:Sg) (j:Nat)(iss:Int)(ti:Nat):Sg:={σ with us:=σ.us.eraseIdx j,e1:=σ.e1+1,e2:=σ.e2+1,e4:=σ.e4+1,f1:=σ.f1+1,iss:=iss,ti:=ti}
theorem other_I {l:List Lk} {j:Nat} {u:Lk}(nd:(l.map (·.I)).Nodup)(hj:l[j]?=some u):∀y∈l.eraseIdx j,y.I≠u.I:=fun y hy e=>by
 obtain⟨s1,s2⟩:=mem_of_split hj
 rw[s1,map_append,map_cons] at nd
 obtain⟨n1,n2,n3⟩:=nodup_append.mp nd
 obtain⟨n4,n5⟩:=nodup_cons.mp n2
 rw[s2] at hy
 rcases mem_append.mp hy with h | h
 ·exact n3 _ (mem_map.mpr ⟨y,h,rfl⟩) _ (.head _) e
 ·exact n4 (mem_map.mpr ⟨y,h,e⟩)
include I hk in
theorem Inv.noU {j:Nat} {u:Lk}(hj:σ.us[j]?=some u){iss:Int}{ti:Nat}(hi:iss=σ.iss\/(u.I=σ.iss/\iss=u.I+1)):Inv c (σ.noU j iss ti) (k+1):=by
 have J:=I.mono hk
 have su:(σ.us.eraseIdx j).Sublist σ.us:=eraseIdx_sublist _ _
 have mu:∀v∈σ.us.eraseIdx j,v∈σ.us:=fun v hv=>su.subset hv
 have i0:=I.i0
 have ik:=I.ik
 refine⟨J.m2,J.m6,J.hk,J.xa,J.x1,J.x2,J.g0,J.gk,?_,?_,fun v hv=>J.ur v (mu v hv),J.und.sublist (su.map _),J.vnd,J.znd.sublist (List.Sublist.append_right (su.map _) _),fun v hv=>J.uz v (mu v hv),J.vz,fun v hv=>?_,J.ind.sublist (su.map _),le_trans (List.Sublist.length_le su) J.ul,J.vl,?_⟩
 ·show 0<=iss
  omega
 ·show iss<=5+65 * ((k+1:Nat):Int)
  omega
 ·have h1:=I.uI v (mu v hv)
  have h2:=other_I I.ind hj v hv
  show 0<=v.I/\v.I<=iss/\v.I+1≠iss
  omega
 ·have tb:=I.tb
  unfold tabFit Sg.noU at *
  cases e:σ.tab<;>rw[e] at tb<;>dsimp only at tb ⊢
  ·exact⟨by rw[tb.1]; rfl,tb.2⟩
  ·exact tb
theorem iss_A {i:Int}(h0:0<=i)(h1:i < 60000):(i+1).fmod 65536=i+1/\(2 * ((i+1).fmod 65536 - i).fmod 65536 < 65536)/\((i+1).fmod 65536 - i).fmod 65536 > 0:=by
 rw[Int.fmod_eq_emod_of_nonneg _ (by omega),Int.fmod_eq_emod_of_nonneg _ (by omega)]
 omega
theorem iss_B {i s:Int}(h0:0<=i)(h1:i+1 < s)(h2:s < 30000):¬ (2 * ((i+1).fmod 65536 - s).fmod 65536 < 65536)/\((i+1).fmod 65536 - s).fmod 65536 > 0:=by
 rw[Int.fmod_eq_emod_of_nonneg _ (by omega),Int.fmod_eq_emod_of_nonneg _ (by omega)]
 omega
include I hk ht in
theorem dg_deed (h:σ.us≠ []):WeakC (wR w ba bb) 16 (rtCall c.sk c.bk (Str.ofString "give up") tw p tp) (objs w c σ) (.ok (.ret (.bool true))) (fun os'=>∃σ',os'=objs w c σ'/\QD c k σ'):=by
 refine deed_of fun n t D=>?_
 have hlen:0 < σ.us.length:=List.length_pos_iff.mpr h
 have hbh:σ.bh.length=σ.us.length:=length_map ..
 obtain⟨i0,i1,i2⟩:=fmod_at (p:=p) (n:=σ.bh.length) (by omega)
 obtain⟨j,u,hj,hv⟩:=pick_sorted σ.us (·.z) (·.th) (fun v=>.int v.r v.tv) (k:=(p.fmod σ.bh.length).toNat) (by omega)
 have um:u∈σ.us:=mem_of_getElem? hj
 have b1:σ.bh[j]?=some (u.z,u.th,.int u.r u.tv):=by unfold Sg.bh; rw[getElem?_map,hj]; rfl
 have b2:σ.lk[j]?=some (u.z,u.tz,.ref (u.N+61)):=by unfold Sg.lk; rw[getElem?_map,hj]; rfl
 have b3:σ.lc[j]?=some (u.r,u.N+59,.int u.z u.tz):=by unfold Sg.lc; rw[getElem?_map,hj]; rfl
 have b4:σ.lt[j]?=some (u.r,u.tr,.bool true):=by unfold Sg.lt; rw[getElem?_map,hj]; rfl
 have pb:=pos_at I.k6 b1
 have ph:=pos_at I.k4 b2
 have pt:=pos_at I.k1 b4
 have lv:σ.vs.length<=20:=I.vl2
 have lu:σ.us.length<=20:=I.ul2
 have l1:σ.lc.length=σ.us.length:=length_map ..
 have l2:σ.ll.length=σ.vs.length:=length_map ..
 have l3:σ.lk.length=σ.us.length:=length_map ..
 have l4:σ.lt.length=σ.us.length:=length_map ..
 have h2:hitsL σ.ll u.z= []:=by
  unfold Sg.ll
  rw[hits_is,filter_no fun v hv e=>(nodup_append.mp I.znd).2.2 _ (mem_map.mpr ⟨u,um,rfl⟩) _ (mem_map.mpr ⟨v,hv,rfl⟩) e.symm]
  rfl
 have h1:hitsL σ.lc u.z= [.ref (u.N+59)]:=by
  unfold Sg.lc
  rw[hits_is,filter_one (f:=fun v:Lk=>v.z) I.uzn hj]
  rfl
 have nh:(posP σ.lh u.z).isSome=false:=by
  unfold Sg.lh
  rw[pos_is]
  refine any_eq_false.mpr fun v hv e=>?_
  exact(nodup_append.mp I.znd).2.2 _ (mem_map.mpr ⟨u,um,rfl⟩) _ (mem_map.mpr ⟨v,hv,rfl⟩) (beq_iff_eq.mp e).symm
 have vC:∀x∈σ.lc,IsI x.2.2:=fun x hx=>by obtain⟨u,_,rfl⟩:=mem_map.mp hx; exact⟨_,_,rfl⟩
 have vL:∀x∈σ.ll,IsI x.2.2:=fun x hx=>by obtain⟨u,_,rfl⟩:=mem_map.mp hx; exact⟨_,_,rfl⟩
 have H1:TabE (wR w ba bb) (fzO w c σ) c.cn 7 (dC w σ.lc) σ.e2 σ.lc:=tabC D.frC I.k2 vC (by omega)
 have H2:TabE (wR w ba bb) (fzO w c σ) c.ls 3 (dL w σ.ll) σ.e3 σ.ll:=tabLs D.frL I.k3 vL (by omega)
 obtain⟨tr',dm,dt,KR⟩:=rem_A (w:=w) (ba:=ba) (bb:=bb) (tb:=c.tb) (td:=c.td) (T:=c.T) (tz:=u.th) H1 H2 h1 h2 (n+11+34) (t+15+95) fun n t=>popC (w:=wR w ba bb) D.frC I.k2 (by omega) b3 n t
 obtain⟨dm2,dt2,KF⟩:=free_is (w:=w) (ba:=ba) (bb:=bb) (fz:=fzO w c σ) (po:=c.po) (pd:=c.pd) (tk:=c.tk) (k:=c.T+8) (l:=28+(c.m:Int)) (x:=σ.x) (tf:=c.tf) (tl:=c.tl) (tx:=σ.tx) (e1:=σ.e1) (n+11+34+dm+3) (t+15+95+dt+26) u.tr pt b4 rfl (by omega)
 have k1:=cInI_ok (w:=wR w ba bb) (fz:=fzO w c σ) (n:=n+11+1) (t:=t+15+4) (d:=c.sl) (ep:=σ.e5) (tz:=u.th) nh
 have k2:=cInI_ok (w:=wR w ba bb) (fz:=fzO w c σ) (n:=n+11+2) (t:=t+15+8) (d:=c.ln) (lt:=σ.lk) (z:=u.z) (ep:=σ.e4) (tz:=u.th) (b:=true) (by rw[ph]; rfl)
 have k3:=cGetI_ok (w:=wR w ba bb) (fz:=fzO w c σ) (n:=n+11+2) (t:=t+15+10) (d:=c.ln) (ep:=σ.e4) (tz:=u.th) ph b2
 have k4:=cInI_ok (w:=wR w ba bb) (fz:=fzO w c σ) (n:=n+11+4) (t:=t+15+20) (d:=c.ln) (lt:=σ.lk) (z:=u.z) (ep:=σ.e4) (tz:=u.th) (b:=true) (by rw[ph]; rfl)
 have k5:=cGetI_ok (w:=wR w ba bb) (fz:=fzO w c σ) (n:=n+11+4) (t:=t+15+22) (d:=c.ln) (ep:=σ.e4) (tz:=u.th) ph b2
 have k6:=cGetI_ok (w:=wR w ba bb) (fz:=fzO w c σ) (n:=n+11+33) (t:=t+15+86) (d:=c.ln) (ep:=σ.e4) (tz:=u.th) ph b2
 have k7:=cPopI_ok (w:=wR w ba bb) (fz:=fzO w c σ) (n:=n+11+34+dm+3+dm2+1) (t:=t+15+95+dt+26+dt2+6) (d:=c.ln) (ep:=σ.e4) (tz:=u.th) ph b2 (by omega)
 have hc:=ac k1 (ac k2 (ac k3 (ac k4 (ac k5 (ac k6 (ac KR (ac KF (all1 k7))))))))
 have hro:∀q∈([(c.lm,oI 953 c.lmd),(c.lmd,oLm w c.K c.k),(u.N+1,oT [.int 1 u.ta,.int u.r u.tr]),(u.N+2,oT [.int 2 u.tb,.int 80 u.tc])]:List (Addr×Obj)),fzO w c σ q.1=some q.2:=
by
  have r1:=D.lim _ (.head _)
  have r2:=D.lim _ (.tail _ (.head _))
  have r3:=D.key um (u.N+1,oT [.int 1 u.ta,.int u.r u.tr]) (.tail _ (.head _))
  have r4:=D.key um (u.N+2,oT [.int 2 u.tb,.int 80 u.tc]) (.tail _ (.tail _ (.head _)))
  exact ac r1 (ac r2 (ac r3 (all1 r4)))
 have hd1:c.hd≠1:=D.one (p:=(c.hd,dD (dI σ.bh) σ.f1)) (core_sub _ (mem_idx (l:=core w c σ) (js:=[12]) (xs:=[(c.hd,dD (dI σ.bh) σ.f1)]) rfl _ (.head _)))
 have ha0:=act_eqD (w:=wR w ba bb) (fz:=fzO w c σ) (d:=c.hd) (z:=n+3) (es:=dI σ.bh) (ep:=σ.f1) (β:=false) hd1 (by have:=D.big; show(n+3:Nat)≠1; omega) (by have:(dI σ.bh).size=σ.bh.length:=dI_size; rw[this]; exact beq_eq_false_iff_ne.mpr (by omega))
 obtain⟨sp1,sp2⟩:=mem_of_split hj
 have spA:∀ (f:Lk->List (Addr×Obj)) (a:Nat),((σ.us.flatMap f).map (·.1)).count a=((f u).map (·.1)).count a+(((σ.us.eraseIdx j).flatMap f).map (·.1)).count a:=fun f a=>by
  rw[sp2]
  conv=>lhs; rw[sp1]
  simp only[flatMap_append,flatMap_cons,map_append,count_append]
  omega
 have spB:∀ (f:Lk->List (Addr×Obj)),∀q∈(σ.us.eraseIdx j).flatMap f,q∈σ.us.flatMap f:=fun f q hq=>by
  obtain⟨y,hy,hq⟩:=mem_flatMap.mp hq
  exact mem_flatMap.mpr ⟨y,(eraseIdx_sublist _ _).subset hy,hq⟩
 have pre1:∀q∈core w c σ++lkO w c u,q∈mutO w c σ:=fun q hq=>by
  rcases mem_append.mp hq with hq | hq
  ·exact core_mut q hq
  ·exact mem_append_right _ (.tail _ (mem_append_left _ (mem_flatMap.mpr ⟨u,um,hq⟩)))
 have pre2:((core w c σ++lkO w c u).map (·.1)).Nodup:=by
  refine nodup_le' D.mut fun a=>?_
  have:=spA (lkO w c) a
  unfold mutO
  simp only[map_append,map_cons,count_append,count_cons]
  omega
 have fin:∀ (C:Con) (iss:Int) (ti:Nat),(iss=σ.iss\/(u.I=σ.iss/\iss=u.I+1))->C.pre=core w c σ++lkO w c u->C.res=.ok (.ret (.bool true))->(∀q∈core w c (σ.noU j iss ti),q∈zipA C.pre C.post)->EndOk w c σ (QD c k) C C:=by
  intro C iss ti hi hpre hres hz
  refine end_of D (σ':=σ.noU j iss ti) rfl rfl hres ⟨I.noU hk hj hi,ht⟩ (Z:=core w c (σ.noU j iss ti)) (Nw:=[]) (Rst:=(1470,σ.tab.obj)::((σ.us.eraseIdx j).flatMap (lkO w c)++σ.vs.flatMap (lsO w)++(limO w c++σ.tab.codes++(σ.us.eraseIdx j).flatMap lkK++σ.vs.flatMap keyL)))
   (fun q hq=>(mem_append.mp hq).imp_right .inr) (fun a=>?_) hz (fun a=>?_) nm .nil (fun q hq=>?_) fun a=>?_
  ·have:objs w c (σ.noU j iss ti)=core w c (σ.noU j iss ti)++((1470,σ.tab.obj)::((σ.us.eraseIdx j).flatMap (lkO w c)++σ.vs.flatMap (lsO w)++(limO w c++σ.tab.codes++(σ.us.eraseIdx j).flatMap lkK++σ.vs.flatMap keyL))):=rfl
   rw[this,map_append,count_append]
   show _<=_+0+_
   omega
  ·rw[hpre,map_append,count_append]
   show((core w c σ).map (·.1)).count a<=_
   exact le_add_right _ _
  ·unfold objs frzO
   simp only[mem_cons,mem_append] at hq ⊢
   have:=spB (lkO w c) q
   have:=spB lkK q
   grind
  ·have h3:=spA (lkO w c) a
   have h4:=spA lkK a
   rw[hpre]
   unfold objs frzO
   simp only[map_append,map_cons,count_append,count_cons]
   omega
 have q1:∀iss ti,(σ.noU j iss ti).lt=σ.lt.eraseIdx j:=fun _ _=>(map_eraseIdx _ _ _).symm
 have q2:∀iss ti,(σ.noU j iss ti).lc=σ.lc.eraseIdx j:=fun _ _=>(map_eraseIdx _ _ _).symm
 have q3:∀iss ti,(σ.noU j iss ti).lk=σ.lk.eraseIdx j:=fun _ _=>(map_eraseIdx _ _ _).symm
 have q4:∀iss ti,(σ.noU j iss ti).bh=σ.bh.eraseIdx j:=fun _ _=>(map_eraseIdx _ _ _).symm
 have uI:=I.uI u um
 have ik:=I.ik
 have i0':=I.i0
 by_cases hi:u.I=σ.iss
 ·obtain⟨f1,f2,f3⟩:=iss_A (i:=σ.iss) I.i0 (by omega)
  have KA:=abA_ok w ba bb (fzO w c σ) (n+11) (t+15) c.sk c.sd c.lm c.lmd c.tb c.td c.cn c.ls c.sl c.ln c.po c.pd c.tk c.K c.k c.T σ.iss σ.ti σ.g σ.tg (28+(c.m:Int)) σ.x c.tf c.tl σ.tx σ.lt σ.e1 σ.lc σ.e2 σ.ll σ.e3 σ.lk σ.e4 σ.lh σ.e5 u.N u.M u.I u.r u.tr u.ta u.tb u.tc u.ud u.z u.th (t+14) (dC w (σ.lc.eraseIdx j)) tr' j j dm dt dm2 dt2 hc hro (ac (decide_eq_true (by rw[hi]; exact f2)) (all1 (decide_eq_true (by rw[hi]; exact f3))))
  have K:=dgA_ok w ba bb (fzO w c σ) n t c.sk c.sd c.lm c.lmd c.tb c.td c.cn c.ls c.sl c.ln c.po c.pd c.tk c.K c.k c.T σ.iss σ.ti σ.g σ.tg (28+(c.m:Int)) σ.x c.tf c.tl σ.tx σ.lt σ.e1 σ.lc σ.e2 σ.ll σ.e3 σ.lk σ.e4 σ.lh σ.e5 c.bk c.hd c.hr c.q1 c.q2 c.q3 c.q4 (c.m:Int) c.tm σ.a σ.ta σ.eb σ.bh σ.br σ.f1 σ.f2 p tw tp u.z u.th j u.N u.M u.I u.r u.tr u.ta u.tb u.tc u.ud (dC w (σ.lc.eraseIdx j)) tr' j j dm dt dm2 dt2 u.r u.tv
   (ac bk_held (ac (sortedK_ok I.k6 (by omega)) (ac (cLenD_ok I.k6 (by omega)) (ac (cMod_ok (by omega)) (ac (cLGet_ok i0 (by omega) hv) (ac (cPopI_ok pb b1 (by omega)) (all1 KA))))))) ha0 act_eqN
  refine⟨_,_,wkp_of_wk (wk_of_con K),rfl,rfl,rfl,le_of_ble_eq_true rfl,pre1,pre2,fun C' hC=>?_⟩
  subst hC
  refine fin _ (u.I+1) (u.M+353) (.inr ⟨hi,rfl⟩) rfl rfl fun q hq=>?_
  unfold core at hq
  rw[q1,q2,q3,q4] at hq
  have e:(σ.noU j (u.I+1) (u.M+353)).iss=(u.I+1).fmod 65536:=by rw[hi]; exact f1.symm
  rw[e] at hq
  exact mem_append_left (zipA (lkO w c u) ((dgA_c w n t c.sk c.sd c.lm c.lmd c.tb c.td c.cn c.ls c.sl c.ln c.po c.pd c.tk c.K c.k c.T σ.iss σ.ti σ.g σ.tg (28+(c.m:Int)) σ.x c.tf c.tl σ.tx σ.lt σ.e1 σ.lc σ.e2 σ.ll σ.e3 σ.lk σ.e4 σ.lh σ.e5 c.bk c.hd c.hr c.q1 c.q2 c.q3 c.q4 (c.m:Int) c.tm σ.a σ.ta σ.eb σ.bh σ.br σ.f1 σ.f2 p tw tp u.z u.th j u.N u.M u.I u.r u.tr u.ta u.tb u.tc u.ud (dC w (σ.lc.eraseIdx j)) tr' j j dm dt dm2 dt2).post.drop 14)) hq
 ·obtain⟨f2,f3⟩:=iss_B (i:=u.I) (s:=σ.iss) uI.1 (by omega) (by omega)
  have KA:=abB_ok w ba bb (fzO w c σ) (n+11) (t+15) c.sk c.sd c.lm c.lmd c.tb c.td c.cn c.ls c.sl c.ln c.po c.pd c.tk c.K c.k c.T σ.iss σ.ti σ.g σ.tg (28+(c.m:Int)) σ.x c.tf c.tl σ.tx σ.lt σ.e1 σ.lc σ.e2 σ.ll σ.e3 σ.lk σ.e4 σ.lh σ.e5 u.N u.M u.I u.r u.tr u.ta u.tb u.tc u.ud u.z u.th (t+14) (dC w (σ.lc.eraseIdx j)) tr' j j dm dt dm2 dt2 hc hro (ac (decide_eq_false f2) (all1 (decide_eq_true f3)))
  have K:=dgB_ok w ba bb (fzO w c σ) n t c.sk c.sd c.lm c.lmd c.tb c.td c.cn c.ls c.sl c.ln c.po c.pd c.tk c.K c.k c.T σ.iss σ.ti σ.g σ.tg (28+(c.m:Int)) σ.x c.tf c.tl σ.tx σ.lt σ.e1 σ.lc σ.e2 σ.ll σ.e3 σ.lk σ.e4 σ.lh σ.e5 c.bk c.hd c.hr c.q1 c.q2 c.q3 c.q4 (c.m:Int) c.tm σ.a σ.ta σ.eb σ.bh σ.br σ.f1 σ.f2 p tw tp u.z u.th j u.N u.M u.I u.r u.tr u.ta u.tb u.tc u.ud (dC w (σ.lc.eraseIdx j)) tr' j j dm dt dm2 dt2 u.r u.tv
   (ac bk_held (ac (sortedK_ok I.k6 (by omega)) (ac (cLenD_ok I.k6 (by omega)) (ac (cMod_ok (by omega)) (ac (cLGet_ok i0 (by omega) hv) (ac (cPopI_ok pb b1 (by omega)) (all1 KA))))))) ha0 act_eqN
  refine⟨_,_,wkp_of_wk (wk_of_con K),rfl,rfl,rfl,le_of_ble_eq_true rfl,pre1,pre2,fun C' hC=>?_⟩
  subst hC
  refine fin _ σ.iss σ.ti (.inl rfl) rfl rfl fun q hq=>?_
  unfold core at hq
  rw[q1,q2,q3,q4] at hq
  exact mem_append_left (zipA (lkO w c u) ((dgB_c w n t c.sk c.sd c.lm c.lmd c.tb c.td c.cn c.ls c.sl c.ln c.po c.pd c.tk c.K c.k c.T σ.iss σ.ti σ.g σ.tg (28+(c.m:Int)) σ.x c.tf c.tl σ.tx σ.lt σ.e1 σ.lc σ.e2 σ.ll σ.e3 σ.lk σ.e4 σ.lh σ.e5 c.bk c.hd c.hr c.q1 c.q2 c.q3 c.q4 (c.m:Int) c.tm σ.a σ.ta σ.eb σ.bh σ.br σ.f1 σ.f2 p tw tp u.z u.th j u.N u.M u.I u.r u.tr u.ta u.tb u.tc u.ud (dC w (σ.lc.eraseIdx j)) tr' j j dm dt dm2 dt2).post.drop 14)) hq
end
end
section
section
variable {w:World}{ba bb:Bool} {c:Cst} {σ:Sg} {k:Nat} (I:Inv c σ k)(hk:k < 20){tw:Nat} {p:Int}{tp:Nat}
noncomputable def Sg.addV (σ:Sg) (v:Ls)(tg:Nat)(tab:TabS):Sg:={σ with vs:=σ.vs++[v],g:=σ.g+1,tg:=tg,e3:=σ.e3+1,e5:=σ.e5+1,f2:=σ.f2+1,tab:=tab}
def dlT_u (σ:Sg) (p:Int)(n t tp:Nat):Ls:=(⟨p,σ.g+1,n+7,t+7,t+5,tp,t+6,t+7+9,t+16,tp⟩:Ls)
noncomputable def dlT_s (σ:Sg) (p:Int)(n t tp cl NL ML cm NM MM:Nat):Sg:=σ.addV (⟨p,σ.g+1,n+7,t+7,t+5,tp,t+6,t+7+9,t+16,tp⟩:Ls) (t+16) (.t2 cl NL ML cm NM MM)
def dlS_u (σ:Sg) (p:Int)(n t tp:Nat):Ls:=(⟨p,σ.g+1,n+13,t+14,t+12,tp,t+13,t+14+9,t+23,tp⟩:Ls)
noncomputable def dlS_s (σ:Sg) (p:Int)(n t tp cl NL ML:Nat):Sg:=σ.addV (⟨p,σ.g+1,n+13,t+14,t+12,tp,t+13,t+14+9,t+23,tp⟩:Ls) (t+23) (.t2 cl NL ML (n+9) (n+4) (t+4))
include I hk in
theorem Inv.addV {v:Ls}{tg:Nat}{tab:TabS}(hu:σ.uP v.p=false)(hz:v.z=σ.g+1)(hb:tabFit (σ.addV v tg tab)):Inv c (σ.addV v tg tab) (k+1):=by
 have J:=I.mono hk
 have g0:=I.g0
 have gk:=I.gk
 have vl:=I.vl
 refine⟨J.m2,J.m6,J.hk,J.xa,J.x1,J.x2,?_,?_,J.i0,J.ik,J.ur,J.und,?_,?_,fun u hu=>?_,fun y hy=>?_,J.uI,J.ind,J.ul,?_,hb⟩
 ·show 0<=σ.g+1; omega
 ·show σ.g+1<=((k+1:Nat):Int); omega
 ·show((σ.vs++[v]).map (·.p)).Nodup
  rw[map_append]
  refine nodup_append.mpr ⟨I.vnd,nodup_cons.mpr ⟨not_mem_nil,.nil⟩,fun a ha b hb e=>?_⟩
  obtain⟨y,hy,rfl⟩:=mem_map.mp ha
  have hb:b=v.p:=by simpa using hb
  have:=any_eq_false.mp hu y hy
  exact this (beq_iff_eq.mpr (e.trans hb))
 ·show(σ.us.map (·.z)++(σ.vs++[v]).map (·.z)).Nodup
  rw[map_append,<- append_assoc]
  refine nodup_append.mpr ⟨I.znd,nodup_cons.mpr ⟨not_mem_nil,.nil⟩,fun a ha b hb e=>?_⟩
  have hb:b=v.z:=by simpa using hb
  rcases mem_append.mp ha with ha | ha
  ·obtain⟨y,hy,rfl⟩:=mem_map.mp ha
   have:=I.uz y hy
   omega
  ·obtain⟨y,hy,rfl⟩:=mem_map.mp ha
   have:=I.vz y hy
   omega
 ·have:=I.uz u hu
  show u.z<=σ.g+1; omega
 ·rcases mem_append.mp hy with hy | hy
  ·have:=I.vz y hy
   show y.z<=σ.g+1; omega
  ·have hy:y=v:=by simpa using hy
   subst hy
   show y.z<=σ.g+1; omega
 ·show(σ.vs++[v]).length<=k+1
  rw[length_append]
  show σ.vs.length+1<=k+1; omega
theorem br_ints:∀e∈σ.br,IsI e.2.2:=fun e he=>by obtain⟨v,_,rfl⟩:=mem_map.mp he; exact⟨_,_,rfl⟩
include I hk in
theorem dlS_deed (hu:σ.uP p=false)(hp1:1<=p)(hp2:p<=65535){cl NL ML:Nat}(htab:σ.tab=.t1 cl NL ML):WeakC (wR w ba bb) 16 (rtCall c.sk c.bk (Str.ofString "listen") tw p tp) (objs w c σ) (.ok (.ret (.bool true))) (fun os'=>∃σ',os'=objs w c σ'/\QD c k σ'):=by
 refine deed_of fun n t D=>?_
 obtain⟨o,dm,KH⟩:=has_ok (w:=wR w ba bb) (fz:=fzO w c σ) (t:=t+59) (it:=n+25) (d:=c.hr) (l:=σ.br) (ep:=σ.f2) (x:=p) (tx:=tp) br_ints (n+26)
 rw[show(σ.br.any fun e=>intV e.2.2 == p)=false from(σ.hU p).trans hu] at KH
 have lv:σ.vs.length<=20:=I.vl2
 have l2:σ.ll.length=σ.vs.length:=length_map ..
 have l3:σ.lh.length=σ.vs.length:=length_map ..
 have l4:σ.br.length=σ.vs.length:=length_map ..
 have pl:(posP σ.ll p).isSome=false:=(σ.hL p).trans hu
 have zl:posP σ.lh (σ.g+1)=none:=none_of (by
  unfold Sg.lh
  rw[pos_is]
  exact any_eq_false.mpr fun v hv e=>by have:=I.vz v hv; have:=beq_iff_eq.mp e; omega)
 have zb:posP σ.br (σ.g+1)=none:=none_of (by
  unfold Sg.br
  rw[pos_is]
  exact any_eq_false.mpr fun v hv e=>by have:=I.vz v hv; have:=beq_iff_eq.mp e; omega)
 have c1:=cInL_ok (w:=wR w ba bb) (n:=n+13+5) (t:=t+14+20) (d:=c.ls) (ep:=σ.e3) D.frL I.k3 (a:=n+13+4) (t1:=t+12) (t2:=tp) pl
 have c2:=cSetL_ok (w:=wR w ba bb) (n:=n+13+6) (t:=t+14+24) (d:=c.ls) (ep:=σ.e3) D.frL I.k3 (a:=n+13+5) (t1:=t+12) (t2:=tp) (v:=Value.int (σ.g+1) (t+14+9)) (none_of pl) (by omega)
 have c3:=cSetI_ok (w:=wR w ba bb) (fz:=fzO w c σ) (n:=n+13+11) (t:=t+14+42) (d:=c.sl) (ep:=σ.e5) (tz:=t+14+9) (v:=Value.ref (n+13+7)) zl (by omega)
 have KL:=lis_ok w ba bb (fzO w c σ) (n+13) (t+14) c.sk c.sd c.lm c.lmd c.tb c.td c.cn c.ls c.sl c.ln c.po c.pd c.tk c.K c.k c.T σ.iss σ.ti σ.g σ.tg (28+(c.m:Int)) σ.x c.tf c.tl σ.tx σ.lt σ.e1 σ.lc σ.e2 σ.ll σ.e3 σ.lk σ.e4 σ.lh σ.e5 p (t+12) tp (t+13) (ac c1 (ac c2 (all1 c3))) (ac (decide_eq_true hp2) (all1 (decide_eq_true hp1)))
 have c4:=cSetI_ok (w:=wR w ba bb) (fz:=fzO w c σ) (n:=n+26+dm+4) (t:=t+59+4) (d:=c.hr) (ep:=σ.f2) (tz:=t+23) (v:=Value.int p tp) zb (by omega)
 have K:=dlS_ok w ba bb (fzO w c σ) n t c.sk c.sd c.lm c.lmd c.tb c.td c.cn c.ls c.sl c.ln c.po c.pd c.tk c.K c.k c.T σ.iss σ.ti σ.g σ.tg (28+(c.m:Int)) σ.x c.tf c.tl σ.tx σ.lt σ.e1 σ.lc σ.e2 σ.ll σ.e3 σ.lk σ.e4 σ.lh σ.e5 c.bk c.hd c.hr c.q1 c.q2 c.q3 c.q4 (c.m:Int) c.tm σ.a σ.ta σ.eb σ.bh σ.br σ.f1 σ.f2 p tw tp o dm cl (ac KL (ac bk_heard (ac cVals_ok (ac cIterV_ok (ac KH (ac bk_heard (all1 c4)))))))
 have htab':(1470,tabL cl [])=((1470,σ.tab.obj):Addr×Obj):=by rw[htab]; rfl
 refine⟨_,_,wkp_of_wk (wk_of_con K),rfl,rfl,rfl,le_of_ble_eq_true rfl,fun q hq=>?_,?_,fun C' hC=>?_⟩
 ·have hq:q∈core w c σ++[(1470,tabL cl [])]:=hq
  rcases mem_append.mp hq with hq | hq
  ·exact core_mut q hq
  ·have hq:q=(1470,σ.tab.obj):=(mem_singleton.mp hq).trans htab'
   exact mem_append_right _ (hq▸.head _)
 ·have nd:=D.mut
  unfold mutO at nd
  refine nodup_le' nd fun a=>?_
  show((core w c σ++[(1470,tabL cl [])]).map (fun q:Addr×Obj=>q.1)).count a<=_
  simp only[map_append,map_cons,count_append,count_cons,map_nil,count_nil]
  omega
 ·subst hC
  have hf:tabFit (dlS_s σ p n t tp cl NL ML):=trivial
  refine end_of D (σ':=dlS_s σ p n t tp cl NL ML) rfl rfl rfl ⟨I.addV hk hu rfl hf,rfl⟩ (Z:=core w c (dlS_s σ p n t tp cl NL ML)++[(1470,TabS.obj (.t2 cl NL ML (n+9) (n+4) (t+4)))]) (Nw:=lsO w (dlS_u σ p n t tp)++(keyL (dlS_u σ p n t tp)++[(n+9,lamD (n+4) (t+4) 989)])) (Rst:=σ.us.flatMap (lkO w c)++σ.vs.flatMap (lsO w)++frzO w c σ)
   (fun q hq=>?_) (fun a=>?_) (fun q hq=>?_) (fun a=>?_) (mem_idx (js:=[2,3,4,5,1,0]) (by kernel_rfl)) ?_ (fun q hq=>?_) fun a=>?_
  ·have e:objs w c (dlS_s σ p n t tp cl NL ML)=core w c (dlS_s σ p n t tp cl NL ML)++((1470,TabS.obj (.t2 cl NL ML (n+9) (n+4) (t+4)))::(σ.us.flatMap (lkO w c)++(σ.vs++[(dlS_u σ p n t tp)]).flatMap (lsO w)++(limO w c++(σ.tab.codes++[(n+9,lamD (n+4) (t+4) 989)])++σ.us.flatMap lkK++(σ.vs++[(dlS_u σ p n t tp)]).flatMap keyL))):=by rw[htab]; rfl
   rw[e] at hq
   unfold frzO
   simp only[flatMap_append,flatMap_cons,List.flatMap_nil,append_nil,mem_append,mem_cons,not_mem_nil,or_false] at hq ⊢
   grind
  ·have e:objs w c (dlS_s σ p n t tp cl NL ML)=core w c (dlS_s σ p n t tp cl NL ML)++((1470,TabS.obj (.t2 cl NL ML (n+9) (n+4) (t+4)))::(σ.us.flatMap (lkO w c)++(σ.vs++[(dlS_u σ p n t tp)]).flatMap (lsO w)++(limO w c++(σ.tab.codes++[(n+9,lamD (n+4) (t+4) 989)])++σ.us.flatMap lkK++(σ.vs++[(dlS_u σ p n t tp)]).flatMap keyL))):=by rw[htab]; rfl
   rw[e]
   unfold frzO
   simp only[flatMap_append,flatMap_cons,List.flatMap_nil,append_nil,map_append,map_cons,map_nil,count_append,count_cons,count_nil]
   omega
  ·have e1:(dlS_s σ p n t tp cl NL ML).ll=σ.ll++[(p,n+13+5,Value.int (σ.g+1) (t+14+9))]:=map_append ..
   have e2:(dlS_s σ p n t tp cl NL ML).lh=σ.lh++[(σ.g+1,t+14+9,Value.ref (n+13+7))]:=map_append ..
   have e3:(dlS_s σ p n t tp cl NL ML).br=σ.br++[(σ.g+1,t+23,Value.int p tp)]:=map_append ..
   unfold core at hq
   rw[e1,e2,e3] at hq
   exact hq
  ·show((core w c σ++[(1470,σ.tab.obj)]).map (fun q:Addr×Obj=>q.1)).count a<=_
   exact le_refl _
  ·show[n+13+6,n+13+7,n+13+9,n+13+10,n+13+5,n+9].Nodup
   simp
  ·unfold objs
   simp only[mem_cons,mem_append] at hq ⊢
   grind
  ·show((core w c σ++[(1470,σ.tab.obj)]).map (fun q:Addr×Obj=>q.1)).count a+_<=_
   unfold objs
   simp only[map_append,map_cons,count_append,count_cons,map_nil,count_nil]
   omega
include I hk in
theorem dlT_deed (hu:σ.uP p=false)(hp1:1<=p)(hp2:p<=65535){cl NL ML cm NM MM:Nat}(htab:σ.tab=.t2 cl NL ML cm NM MM):WeakC (wR w ba bb) 16 (rtCall c.sk c.bk (Str.ofString "listen") tw p tp) (objs w c σ) (.ok (.ret (.bool true))) (fun os'=>∃σ',os'=objs w c σ'/\QD c k σ'):=by
 refine deed_of fun n t D=>?_
 obtain⟨o,dm,KH⟩:=has_ok (w:=wR w ba bb) (fz:=fzO w c σ) (t:=t+52) (it:=n+19) (d:=c.hr) (l:=σ.br) (ep:=σ.f2) (x:=p) (tx:=tp) br_ints (n+20)
 rw[show(σ.br.any fun e=>intV e.2.2 == p)=false from(σ.hU p).trans hu] at KH
 have lv:σ.vs.length<=20:=I.vl2
 have l2:σ.ll.length=σ.vs.length:=length_map ..
 have l3:σ.lh.length=σ.vs.length:=length_map ..
 have l4:σ.br.length=σ.vs.length:=length_map ..
 have pl:(posP σ.ll p).isSome=false:=(σ.hL p).trans hu
 have zl:posP σ.lh (σ.g+1)=none:=none_of (by
  unfold Sg.lh
  rw[pos_is]
  exact any_eq_false.mpr fun v hv e=>by have:=I.vz v hv; have:=beq_iff_eq.mp e; omega)
 have zb:posP σ.br (σ.g+1)=none:=none_of (by
  unfold Sg.br
  rw[pos_is]
  exact any_eq_false.mpr fun v hv e=>by have:=I.vz v hv; have:=beq_iff_eq.mp e; omega)
 have c1:=cInL_ok (w:=wR w ba bb) (n:=n+7+5) (t:=t+7+20) (d:=c.ls) (ep:=σ.e3) D.frL I.k3 (a:=n+7+4) (t1:=t+5) (t2:=tp) pl
 have c2:=cSetL_ok (w:=wR w ba bb) (n:=n+7+6) (t:=t+7+24) (d:=c.ls) (ep:=σ.e3) D.frL I.k3 (a:=n+7+5) (t1:=t+5) (t2:=tp) (v:=Value.int (σ.g+1) (t+7+9)) (none_of pl) (by omega)
 have c3:=cSetI_ok (w:=wR w ba bb) (fz:=fzO w c σ) (n:=n+7+11) (t:=t+7+42) (d:=c.sl) (ep:=σ.e5) (tz:=t+7+9) (v:=Value.ref (n+7+7)) zl (by omega)
 have KL:=lis_ok w ba bb (fzO w c σ) (n+7) (t+7) c.sk c.sd c.lm c.lmd c.tb c.td c.cn c.ls c.sl c.ln c.po c.pd c.tk c.K c.k c.T σ.iss σ.ti σ.g σ.tg (28+(c.m:Int)) σ.x c.tf c.tl σ.tx σ.lt σ.e1 σ.lc σ.e2 σ.ll σ.e3 σ.lk σ.e4 σ.lh σ.e5 p (t+5) tp (t+6) (ac c1 (ac c2 (all1 c3))) (ac (decide_eq_true hp2) (all1 (decide_eq_true hp1)))
 have c4:=cSetI_ok (w:=wR w ba bb) (fz:=fzO w c σ) (n:=n+20+dm+4) (t:=t+52+4) (d:=c.hr) (ep:=σ.f2) (tz:=t+16) (v:=Value.int p tp) zb (by omega)
 have K:=dlT_ok w ba bb (fzO w c σ) n t c.sk c.sd c.lm c.lmd c.tb c.td c.cn c.ls c.sl c.ln c.po c.pd c.tk c.K c.k c.T σ.iss σ.ti σ.g σ.tg (28+(c.m:Int)) σ.x c.tf c.tl σ.tx σ.lt σ.e1 σ.lc σ.e2 σ.ll σ.e3 σ.lk σ.e4 σ.lh σ.e5 c.bk c.hd c.hr c.q1 c.q2 c.q3 c.q4 (c.m:Int) c.tm σ.a σ.ta σ.eb σ.bh σ.br σ.f1 σ.f2 p tw tp o dm cl cm [] NM MM (ac KL (ac bk_heard (ac cVals_ok (ac cIterV_ok (ac KH (ac bk_heard (all1 c4))))))) (all1 (D.code (cm,lamD NM MM 989) (by rw[htab]; exact .tail _ (.head _))))
 have htab':(1470,tabL cl [.int 989 0,.int 37 0,.ref cm])=((1470,σ.tab.obj):Addr×Obj):=by rw[htab]; rfl
 refine⟨_,_,wkp_of_wk (wk_of_con K),rfl,rfl,rfl,le_of_ble_eq_true rfl,fun q hq=>?_,?_,fun C' hC=>?_⟩
 ·have hq:q∈core w c σ++[(1470,tabL cl [.int 989 0,.int 37 0,.ref cm])]:=hq
  rcases mem_append.mp hq with hq | hq
  ·exact core_mut q hq
  ·have hq:q=(1470,σ.tab.obj):=(mem_singleton.mp hq).trans htab'
   exact mem_append_right _ (hq▸.head _)
 ·have nd:=D.mut
  unfold mutO at nd
  refine nodup_le' nd fun a=>?_
  show((core w c σ++[(1470,tabL cl [.int 989 0,.int 37 0,.ref cm])]).map (fun q:Addr×Obj=>q.1)).count a<=_
  simp only[map_append,map_cons,count_append,count_cons,map_nil,count_nil]
  omega
 ·subst hC
  have hf:tabFit (dlT_s σ p n t tp cl NL ML cm NM MM):=trivial
  refine end_of D (σ':=dlT_s σ p n t tp cl NL ML cm NM MM) rfl rfl rfl ⟨I.addV hk hu rfl hf,rfl⟩ (Z:=core w c (dlT_s σ p n t tp cl NL ML cm NM MM)++[(1470,TabS.obj (.t2 cl NL ML cm NM MM))]) (Nw:=lsO w (dlT_u σ p n t tp)++(keyL (dlT_u σ p n t tp)++[])) (Rst:=σ.us.flatMap (lkO w c)++σ.vs.flatMap (lsO w)++frzO w c σ)
   (fun q hq=>?_) (fun a=>?_) (fun q hq=>?_) (fun a=>?_) (mem_idx (js:=[1,2,3,4,0]) (by kernel_rfl)) ?_ (fun q hq=>?_) fun a=>?_
  ·have e:objs w c (dlT_s σ p n t tp cl NL ML cm NM MM)=core w c (dlT_s σ p n t tp cl NL ML cm NM MM)++((1470,TabS.obj (.t2 cl NL ML cm NM MM))::(σ.us.flatMap (lkO w c)++(σ.vs++[(dlT_u σ p n t tp)]).flatMap (lsO w)++(limO w c++(σ.tab.codes++[])++σ.us.flatMap lkK++(σ.vs++[(dlT_u σ p n t tp)]).flatMap keyL))):=by rw[htab]; rfl
   rw[e] at hq
   unfold frzO
   simp only[flatMap_append,flatMap_cons,List.flatMap_nil,append_nil,mem_append,mem_cons,not_mem_nil,or_false] at hq ⊢
   grind
  ·have e:objs w c (dlT_s σ p n t tp cl NL ML cm NM MM)=core w c (dlT_s σ p n t tp cl NL ML cm NM MM)++((1470,TabS.obj (.t2 cl NL ML cm NM MM))::(σ.us.flatMap (lkO w c)++(σ.vs++[(dlT_u σ p n t tp)]).flatMap (lsO w)++(limO w c++(σ.tab.codes++[])++σ.us.flatMap lkK++(σ.vs++[(dlT_u σ p n t tp)]).flatMap keyL))):=by rw[htab]; rfl
   rw[e]
   unfold frzO
   simp only[flatMap_append,flatMap_cons,List.flatMap_nil,append_nil,map_append,map_cons,map_nil,count_append,count_cons,count_nil]
   omega
  ·have e1:(dlT_s σ p n t tp cl NL ML cm NM MM).ll=σ.ll++[(p,n+7+5,Value.int (σ.g+1) (t+7+9))]:=map_append ..
   have e2:(dlT_s σ p n t tp cl NL ML cm NM MM).lh=σ.lh++[(σ.g+1,t+7+9,Value.ref (n+7+7))]:=map_append ..
   have e3:(dlT_s σ p n t tp cl NL ML cm NM MM).br=σ.br++[(σ.g+1,t+16,Value.int p tp)]:=map_append ..
   unfold core at hq
   rw[e1,e2,e3] at hq
   exact hq
  ·show((core w c σ++[(1470,σ.tab.obj)]).map (fun q:Addr×Obj=>q.1)).count a<=_
   exact le_refl _
  ·show[n+7+6,n+7+7,n+7+9,n+7+10,n+7+5].Nodup
   simp
  ·unfold objs
   simp only[mem_cons,mem_append] at hq ⊢
   grind
  ·show((core w c σ++[(1470,σ.tab.obj)]).map (fun q:Addr×Obj=>q.1)).count a+_<=_
   unfold objs
   simp only[map_append,map_cons,count_append,count_cons,map_nil,count_nil]
   omega
end
end
section
noncomputable def Sg.upd (σ:Sg) (z:Int)(tz:Nat) (a:Int)(ta e1:Nat) (g:Int)(tg:Nat):Sg:={σ with x:=z,tx:=tz,a:=a,ta:=ta,e1:=e1,g:=g,tg:=tg}
def xO (w:World) (c:Cst) (σ:Sg):List (Addr×Obj):=skO w c.sk c.sd c.lm c.tb c.td c.cn c.ls c.sl c.ln c.po c.pd c.tk c.T σ.iss σ.ti σ.g σ.tg (28+(c.m:Int)) σ.x c.tf c.tl σ.tx σ.lt σ.e1 σ.lc σ.e2 σ.ll σ.e3++[(c.bk,dD (dSt w (bkL c.q1 c.q2 c.q3 c.q4 (c.m:Int) c.tm σ.a σ.ta c.hd c.hr)) σ.eb),(c.hd,dD (dI σ.bh) σ.f1),(c.hr,dD (dI σ.br) σ.f2)]
theorem bh_ints {σ:Sg}:∀e∈σ.bh,IsI e.2.2:=fun e he=>by obtain⟨v,_,rfl⟩:=mem_map.mp he; exact⟨_,_,rfl⟩
section
variable {w:World}{ba bb:Bool} {c:Cst} {σ:Sg} {n:Nat} (D:Base w ba bb c σ n)
include D
theorem pre_X {q:Addr×Obj}(hq:q∈xO w c σ++[(1470,σ.tab.obj)]):q∈mutO w c σ:=by
 unfold mutO core allO
 unfold xO at hq
 simp only[mem_append,mem_cons,not_mem_nil,or_false] at hq ⊢
 grind
theorem nd_X:((xO w c σ++[(1470,σ.tab.obj)]).map (fun q:Addr×Obj=>q.1)).Nodup:=by
 have nd:=D.mut
 unfold mutO core allO at nd
 refine nodup_le' nd fun a=>?_
 unfold xO
 simp only[map_append,map_cons,count_append,count_cons,map_nil,count_nil]
 omega
theorem end_X {Q:Sg->Prop} {z:Int}{tz:Nat} {a:Int}{ta e1:Nat} {g:Int}{tg:Nat} (q:Q (σ.upd z tz a ta e1 g tg)){C C':Con}(e1':C'.n=C.n)(e2:C'.pre=C.pre)(e3:C'.res=.ok (.ret (.bool true)))(hpre:C.pre=xO w c σ++[(1470,σ.tab.obj)])(hz:zipA C'.pre C'.post=xO w c (σ.upd z tz a ta e1 g tg)++[(1470,σ.tab.obj)]):EndOk w c σ Q C C':=by
 refine end_of D (σ':=σ.upd z tz a ta e1 g tg) e1' e2 e3 q (Z:=xO w c (σ.upd z tz a ta e1 g tg)++[(1470,σ.tab.obj)]) (Nw:=[]) (Rst:=(c.ln,dD (dI σ.lk) σ.e4)::(c.sl,dD (dI σ.lh) σ.e5)::(σ.us.flatMap (lkO w c)++σ.vs.flatMap (lsO w)++frzO w c σ))
  (fun p hp=>?_) (fun x=>?_) (fun p hp=>hz▸hp) (fun x=>?_) nm .nil (fun p hp=>?_) fun x=>?_
 ·have hp:p∈xO w c (σ.upd z tz a ta e1 g tg)++[(1470,σ.tab.obj)]\/p∈(c.ln,dD (dI σ.lk) σ.e4)::(c.sl,dD (dI σ.lh) σ.e5)::(σ.us.flatMap (lkO w c)++σ.vs.flatMap (lsO w)++frzO w c σ):=by
   have e:objs w c (σ.upd z tz a ta e1 g tg)=core w c (σ.upd z tz a ta e1 g tg)++((1470,σ.tab.obj)::(σ.us.flatMap (lkO w c)++σ.vs.flatMap (lsO w)++frzO w c σ)):=rfl
   have e2:core w c (σ.upd z tz a ta e1 g tg)=skO w c.sk c.sd c.lm c.tb c.td c.cn c.ls c.sl c.ln c.po c.pd c.tk c.T σ.iss σ.ti g tg (28+(c.m:Int)) z c.tf c.tl tz σ.lt e1 σ.lc σ.e2 σ.ll σ.e3++[(c.ln,dD (dI σ.lk) σ.e4),(c.sl,dD (dI σ.lh) σ.e5)]++[(c.bk,dD (dSt w (bkL c.q1 c.q2 c.q3 c.q4 (c.m:Int) c.tm a ta c.hd c.hr)) σ.eb),(c.hd,dD (dI σ.bh) σ.f1),(c.hr,dD (dI σ.br) σ.f2)]:=rfl
   have e3:xO w c (σ.upd z tz a ta e1 g tg)=skO w c.sk c.sd c.lm c.tb c.td c.cn c.ls c.sl c.ln c.po c.pd c.tk c.T σ.iss σ.ti g tg (28+(c.m:Int)) z c.tf c.tl tz σ.lt e1 σ.lc σ.e2 σ.ll σ.e3++[(c.bk,dD (dSt w (bkL c.q1 c.q2 c.q3 c.q4 (c.m:Int) c.tm a ta c.hd c.hr)) σ.eb),(c.hd,dD (dI σ.bh) σ.f1),(c.hr,dD (dI σ.br) σ.f2)]:=rfl
   rw[e,e2] at hp
   rw[e3]
   simp only[mem_append,mem_cons,not_mem_nil,or_false] at hp ⊢
   grind
  exact hp.imp_right .inr
 ·show((objs w c σ).map (fun q:Addr×Obj=>q.1)).count x<=((xO w c σ++[(1470,σ.tab.obj)]).map (fun q:Addr×Obj=>q.1)).count x+0+_
  unfold objs core allO xO
  simp only[map_append,map_cons,count_append,count_cons,map_nil,count_nil]
  omega
 ·rw[hpre]
  exact le_refl _
 ·unfold objs core allO
  simp only[mem_append,mem_cons,not_mem_nil,or_false] at hp ⊢
  grind
 ·rw[hpre]
  unfold objs core allO xO
  simp only[map_append,map_cons,count_append,count_cons,map_nil,count_nil]
  omega
end
theorem TabS.is {tab:TabS} (h:tab.set=true):∃cl NL ML rest,tab.obj=tabL cl rest/\(cl,lamC NL ML 983)∈tab.codes:=by
 cases tab with
 | t0=>cases h
 | t1 cl NL ML=>exact⟨cl,NL,ML,_,rfl,.head _⟩
 | t2 cl NL ML cm NM MM=>exact⟨cl,NL,ML,_,rfl,.head _⟩
section
variable {w:World}{ba bb:Bool} {c:Cst} {σ:Sg} {k:Nat} (I:Inv c σ k)(hk:k < 20){tw:Nat} {p:Int}{tp:Nat}
include I hk in
theorem dmX_deed (hu:σ.uP p=true)(hp1:1<=p)(hp2:p<=65535){cl NL ML cm NM MM:Nat}(htab:σ.tab=.t2 cl NL ML cm NM MM):WeakC (wR w ba bb) 16 (rtCall c.sk c.bk (Str.ofString "listen") tw p tp) (objs w c σ) (.ok (.ret (.bool true))) (fun os'=>∃σ',os'=objs w c σ'/\QD c k σ'):=by
 refine deed_of fun n t D=>?_
 have K1:=tlisX_ok w ba bb (fzO w c σ) (n+7+3) (t+7+15) c.tb c.td c.cn c.ls c.T σ.ll σ.e3 (t+5) p tp (σ.g+1) (t+7+9) (all1 (cInL_ok D.frL I.k3 ((σ.hL p).trans hu)))
 have K2:=lisX_ok w ba bb (fzO w c σ) (n+7) (t+7) c.sk c.sd c.lm c.tb c.td c.cn c.ls c.sl c.ln c.po c.pd c.tk c.T σ.iss σ.ti σ.g σ.tg (28+(c.m:Int)) σ.x c.tf c.tl σ.tx σ.lt σ.e1 σ.lc σ.e2 σ.ll σ.e3 p (t+5) tp (t+6) K1 (ac (decide_eq_true hp2) (all1 (decide_eq_true hp1)))
 have K:=dmX_ok w n t c.sk c.sd c.lm c.tb c.td c.cn c.ls c.sl c.ln c.po c.pd c.tk c.T σ.iss σ.ti σ.g σ.tg (28+(c.m:Int)) σ.x c.tf c.tl σ.tx σ.lt σ.e1 σ.lc σ.e2 σ.ll σ.e3 c.bk c.hd c.hr c.q1 c.q2 c.q3 c.q4 (c.m:Int) c.tm σ.a σ.ta σ.eb σ.bh σ.br σ.f1 σ.f2 p tw tp cl cm [] NM MM ba bb (fzO w c σ) 0 0 0 0 0 (all1 (D.code (cm,lamD NM MM 989) (by rw[htab]; exact .tail _ (.head _)))) K2 (fun n' t'=>by
  obtain⟨o,dm,KH⟩:=has_ok (w:=wR w ba bb) (fz:=fzO w c σ) (t:=t'+2) (it:=n'+1) (d:=c.hr) (l:=σ.br) (ep:=σ.f2) (x:=p) (tx:=tp) br_ints (n'+2)
  rw[show(σ.br.any fun e=>intV e.2.2 == p)=true from(σ.hU p).trans hu] at KH
  exact⟨o,dm,ac bk_heard (ac cVals_ok (ac cIterV_ok (all1 KH)))⟩)
 have ht:σ.tab.obj=tabL cl [.int 989 0,.int 37 0,.ref cm]:=by rw[htab]; rfl
 have J:=I.mono hk
 have g0:=I.g0
 have gk:=I.gk
 refine⟨_,_,K,rfl,rfl,rfl,le_of_ble_eq_true rfl,fun q hq=>pre_X D (by rw[ht]; exact hq),by have:=nd_X D; rw[ht] at this; exact this,fun C' hC=>?_⟩
 obtain⟨ta',rfl⟩:=hC
 refine end_X D (z:=σ.x) (tz:=σ.tx) (a:=σ.a) (ta:=σ.ta) (e1:=σ.e1) (g:=σ.g+1) (tg:=t+16) ⟨⟨J.m2,J.m6,J.hk,J.xa,J.x1,J.x2,by show 0<=σ.g+1; omega,by show σ.g+1<=((k+1:Nat):Int); omega,J.i0,J.ik,J.ur,J.und,J.vnd,J.znd,fun u hu=>by have:=I.uz u hu; show u.z<=σ.g+1; omega,fun v hv=>by have:=I.vz v hv; show v.z<=σ.g+1; omega,J.uI,J.ind,J.ul,J.vl,J.tb⟩,by show σ.tab.set=true; rw[htab]; rfl⟩ rfl rfl rfl (by rw[ht]; rfl) (by rw[ht]; rfl)
include I hk in
theorem dtX_deed (hset:σ.tab.set=true) {z:Int}(hn:nextP σ.a (c.m:Int) c.m σ.bh σ.br=(none,z))(z1:29<=z)(z2:z<=28+(c.m:Int))(hz:(freeP σ.lt (28+(c.m:Int)) c.m σ.x=none/\z=σ.x)\/ownU σ.lt σ.lc σ.ll (28+(c.m:Int)) c.m c.m σ.x=some z):
  WeakC (wR w ba bb) 16 (rtCall c.sk c.bk (Str.ofString "connect") tw p tp) (objs w c σ) (.ok (.ret (.bool true))) (fun os'=>∃σ',os'=objs w c σ'/\QD c k σ'):=by
 refine deed_of fun n t D=>?_
 obtain⟨cl,NL,ML,rest,ht,hcode⟩:=TabS.is hset
 have hm:(28+(c.m:Int)) - 29+1=c.m:=by omega
 have h0:c.m≠0:=by have:=I.m2; omega
 have h6:=I.m6
 have lu:=I.ul2
 have lv:=I.vl2
 have l1:σ.lt.length=σ.us.length:=length_map ..
 have l2:σ.ll.length=σ.vs.length:=length_map ..
 have KO:∃tz e1' dt,FailC (wR w ba bb) (fzO w c σ) (cOwnF w (n+7+2) (t+8+8) c.sk c.sd c.lm c.tb c.td c.cn c.ls c.sl c.ln c.po c.pd c.tk c.T σ.iss σ.ti σ.g σ.tg (28+(c.m:Int)) σ.x c.tf c.tl σ.tx σ.lt σ.e1 σ.lc σ.e2 σ.ll σ.e3 1989 z tz e1' dt):=by
  rcases hz with⟨hf,rfl⟩ | hf
  ·obtain⟨dt,K⟩:=ownF_a (w:=w) (ba:=ba) (bb:=bb) (fz:=fzO w c σ) (sk:=c.sk) (sd:=c.sd) (lm:=c.lm) (tb:=c.tb) (td:=c.td) (cn:=c.cn) (ls:=c.ls) (sl:=c.sl) (ln:=c.ln) (po:=c.po) (pd:=c.pd) (tk:=c.tk) (T:=c.T) (iss:=σ.iss) (ti:=σ.ti) (g:=σ.g) (tg:=σ.tg) (tf:=c.tf) (tl:=c.tl) (tx:=σ.tx) (lc:=σ.lc) (e1:=σ.e1) (e2:=σ.e2) (ll:=σ.ll) (e3:=σ.e3) hm h0 (by omega) (n+7+2) (t+8+8) 1989 hf
   exact⟨_,_,dt,K⟩
  ·exact ownF_b (w:=w) (ba:=ba) (bb:=bb) hm h0 (by omega) D.frC D.frL (by omega) (by omega) (n+7+2) (t+8+8) 1989 hf
 obtain⟨tz,e1',dt,KO⟩:=KO
 have K1:=connX_ok w ba bb (fzO w c σ) (n+7) (t+8) c.sk c.sd c.lm c.tb c.td c.cn c.ls c.sl c.ln c.po c.pd c.tk c.T σ.iss σ.ti σ.g σ.tg (28+(c.m:Int)) σ.x c.tf c.tl σ.tx σ.lt σ.e1 σ.lc σ.e2 σ.ll σ.e3 z tz e1' dt (t+4) (t+5) (t+6) (t+7) KO
 have K:=dtX_ok w n t c.sk c.sd c.lm c.tb c.td c.cn c.ls c.sl c.ln c.po c.pd c.tk c.T σ.iss σ.ti σ.g σ.tg (28+(c.m:Int)) σ.x c.tf c.tl σ.tx σ.lt σ.e1 σ.lc σ.e2 σ.ll σ.e3 c.bk c.hd c.hr c.q1 c.q2 c.q3 c.q4 (c.m:Int) c.tm σ.a σ.ta σ.eb σ.bh σ.br σ.f1 σ.f2 p tw tp cl rest NL ML ba bb (fzO w c σ) z tz e1' dt z (all1 (D.code _ hcode)) K1 (fun n' t'=>by
  obtain⟨kk,hkk⟩:∃kk,c.m=kk+1:=⟨c.m - 1,by omega⟩
  obtain⟨ta',tg,dm,dt,KN⟩:=next_ok (w:=w) (ba:=ba) (bb:=bb) (fz:=fzO w c σ) (bk:=c.bk) (hd:=c.hd) (hr:=c.hr) (q1:=c.q1) (q2:=c.q2) (q3:=c.q3) (q4:=c.q4) (m:=(c.m:Int)) (tm:=c.tm) (a:=σ.a) (ta:=σ.ta) (eb:=σ.eb) (lh:=σ.bh) (lr:=σ.br) (e1:=σ.f1) (e2:=σ.f2) (k:=kk) (by omega) (by omega) bh_ints br_ints n' t'
  rw[<- hkk,hn] at KN
  exact⟨ta',dm,dt,KN⟩)
 have J:=I.mono hk
 refine⟨_,_,K,rfl,rfl,rfl,le_of_ble_eq_true rfl,fun q hq=>pre_X D (by rw[ht]; exact hq),by have:=nd_X D; rw[ht] at this; exact this,fun C' hC=>?_⟩
 obtain⟨ta',rfl⟩:=hC
 refine end_X D (z:=z) (tz:=tz) (a:=z) (ta:=ta') (e1:=e1') (g:=σ.g) (tg:=σ.tg) ⟨⟨J.m2,J.m6,J.hk,rfl,z1,z2,J.g0,J.gk,J.i0,J.ik,J.ur,J.und,J.vnd,J.znd,J.uz,J.vz,J.uI,J.ind,J.ul,J.vl,J.tb⟩,hset⟩ rfl rfl rfl (by rw[ht]; rfl) (by rw[ht]; rfl)
end
end
section
noncomputable def Sg.addU (σ:Sg) (u:Lk)(ti tg:Nat) (z:Int)(tz:Nat)(ta e1:Nat)(tab:TabS):Sg:={σ with us:=σ.us++[u],iss:=u.I,ti:=ti,g:=σ.g+1,tg:=tg,x:=z,tx:=tz,a:=z,ta:=ta,e1:=e1,e2:=σ.e2+1,e4:=σ.e4+1,f1:=σ.f1+1,tab:=tab}
def offs:List Nat:=hx 134 [0xe8dc57ac97fe59aa09276b2fcd79d9cfb9f22020a8c6ccdcc5deb41c1ac193520bdfab2ac811]
theorem nodup_off (N:Nat):(offs.map (N+·)).Nodup:=by
 have h:offs.Nodup:=by decide
 exact List.Pairwise.map _ (fun a b h e=>h (Nat.add_left_cancel e)) h
theorem iss_C {i:Int}(h0:0<=i)(h1:i < 60000):(i+64).fmod 65536=i+64/\(((i+64)+1).fmod 65536 - (i+64)).fmod 65536=1:=by
 rw[Int.fmod_eq_emod_of_nonneg _ (by omega),Int.fmod_eq_emod_of_nonneg _ (by omega),Int.fmod_eq_emod_of_nonneg _ (by omega)]
 omega
noncomputable def dcS_u (σ:Sg) (r:Int)(n t dm dt tr tv:Nat):Lk:=(⟨r,(σ.iss+64).fmod 65536,σ.g+1,n+15+dm,t+22+dt,tr,t+13,t+10,t+11,t+12,t+14+8+dt+4,t+22+dt+4,tv⟩:Lk)
noncomputable def dcS_s (c:Cst) (σ:Sg) (r:Int)(n t dm dt tr tv tz ta' e1':Nat):Sg:=(σ.addU (⟨r,(σ.iss+64).fmod 65536,σ.g+1,n+15+dm,t+22+dt,tr,t+13,t+10,t+11,t+12,t+14+8+dt+4,t+22+dt+4,tv⟩:Lk) (t+22+dt+18) (t+22+dt+4) (behP (28+(c.m:Int)) r) tz ta' e1' (.t1 (n+9) (n+4) (t+3)))
noncomputable def dcT_u (σ:Sg) (r:Int)(n t dm dt tr tv:Nat):Lk:=(⟨r,(σ.iss+64).fmod 65536,σ.g+1,n+9+dm,t+16+dt,tr,t+7,t+4,t+5,t+6,t+8+8+dt+4,t+16+dt+4,tv⟩:Lk)
noncomputable def dcT_s (c:Cst) (σ:Sg) (r:Int)(n t dm dt tr tv tz ta' e1':Nat):Sg:=(σ.addU (⟨r,(σ.iss+64).fmod 65536,σ.g+1,n+9+dm,t+16+dt,tr,t+7,t+4,t+5,t+6,t+8+8+dt+4,t+16+dt+4,tv⟩:Lk) (t+16+dt+18) (t+16+dt+4) (behP (28+(c.m:Int)) r) tz ta' e1' (σ.tab))
section
variable {w:World}{ba bb:Bool} {c:Cst} {σ:Sg} {k:Nat} (I:Inv c σ k)(hk:k < 20){tw:Nat} {p:Int}{tp:Nat}
include I hk in
theorem Inv.addU {u:Lk}{ti tg:Nat} {z:Int}{tz ta e1:Nat}{tab:TabS}(h1:29<=u.r)(h2:u.r<=28+(c.m:Int))(hu:σ.hP u.r=false)(hz:u.z=σ.g+1)(hi:u.I=σ.iss+64)(z1:29<=z)(z2:z<=28+(c.m:Int))(hb:tabFit (σ.addU u ti tg z tz ta e1 tab)):Inv c (σ.addU u ti tg z tz ta e1 tab) (k+1):=by
 have J:=I.mono hk
 have g0:=I.g0
 have gk:=I.gk
 have i0:=I.i0
 have ik:=I.ik
 have ul:=I.ul
 refine⟨J.m2,J.m6,J.hk,rfl,z1,z2,?_,?_,?_,?_,fun y hy=>?_,?_,J.vnd,?_,fun y hy=>?_,fun v hv=>?_,fun y hy=>?_,?_,?_,J.vl,hb⟩
 ·show 0<=σ.g+1; omega
 ·show σ.g+1<=((k+1:Nat):Int); omega
 ·show 0<=u.I; omega
 ·show u.I<=5+65 * ((k+1:Nat):Int); omega
 ·rcases mem_append.mp hy with hy | hy
  ·exact I.ur y hy
  ·have hy:y=u:=by simpa using hy
   subst hy
   exact⟨h1,h2⟩
 ·show((σ.us++[u]).map (·.r)).Nodup
  rw[map_append]
  refine nodup_append.mpr ⟨I.und,nodup_cons.mpr ⟨not_mem_nil,.nil⟩,fun a ha b hb e=>?_⟩
  obtain⟨y,hy,rfl⟩:=mem_map.mp ha
  have hb:b=u.r:=by simpa using hb
  exact any_eq_false.mp hu y hy (beq_iff_eq.mpr (e.trans hb))
 ·show((σ.us++[u]).map (·.z)++σ.vs.map (·.z)).Nodup
  have pz:((σ.us++[u]).map (·.z)++σ.vs.map (·.z)).Perm ((σ.us.map (·.z)++σ.vs.map (·.z))++[u.z]):=by
   rw[map_append,append_assoc,append_assoc]
   exact List.Perm.append_left _ List.perm_append_comm
  refine pz.nodup_iff.mpr (nodup_append.mpr ⟨I.znd,nodup_cons.mpr ⟨not_mem_nil,.nil⟩,fun a ha b hb e=>?_⟩)
  have hb:b=u.z:=by simpa using hb
  rcases mem_append.mp ha with ha | ha
  ·obtain⟨y,hy,rfl⟩:=mem_map.mp ha
   have:=I.uz y hy
   omega
  ·obtain⟨y,hy,rfl⟩:=mem_map.mp ha
   have:=I.vz y hy
   omega
 ·show y.z<=σ.g+1
  rcases mem_append.mp hy with hy | hy
  ·have:=I.uz y hy
   omega
  ·have hy:y=u:=by simpa using hy
   subst hy
   omega
 ·have:=I.vz v hv
  show v.z<=σ.g+1; omega
 ·show 0<=y.I/\y.I<=u.I/\y.I+1≠u.I
  rcases mem_append.mp hy with hy | hy
  ·have:=I.uI y hy
   omega
  ·have hy:y=u:=by simpa using hy
   subst hy
   omega
 ·show((σ.us++[u]).map (·.I)).Nodup
  rw[map_append]
  refine nodup_append.mpr ⟨I.ind,nodup_cons.mpr ⟨not_mem_nil,.nil⟩,fun a ha b hb e=>?_⟩
  obtain⟨y,hy,rfl⟩:=mem_map.mp ha
  have hb:b=u.I:=by simpa using hb
  have:=I.uI y hy
  omega
 ·show(σ.us++[u]).length<=k+1
  rw[length_append]
  show σ.us.length+1<=k+1; omega
include I hk in
theorem dcS_deed (htab:σ.tab=.t0) {r:Int}(ho:ownP σ.lt σ.lc σ.ll (28+(c.m:Int)) c.m c.m σ.x=some r)(hn:nextP σ.a (c.m:Int) c.m σ.bh σ.br=(some r,behP (28+(c.m:Int)) r))(r1:29<=r)(r2:r<=28+(c.m:Int))(hr:σ.hP r=false):
  WeakC (wR w ba bb) 16 (rtCall c.sk c.bk (Str.ofString "connect") tw p tp) (objs w c σ) (.ok (.ret (.bool true))) (fun os'=>∃σ',os'=objs w c σ'/\QD c k σ'):=by
 refine deed_of fun n t D=>?_
 have ht:σ.tab.obj=oF []:=by rw[htab]; rfl
 have hm:(28+(c.m:Int)) - 29+1=c.m:=by omega
 have h6:=I.m6
 have h2:=I.m2
 have lu:=I.ul2
 have lv:=I.vl2
 have i0:=I.i0
 have ik:=I.ik
 have l1:σ.lt.length=σ.us.length:=length_map ..
 have l2:σ.ll.length=σ.vs.length:=length_map ..
 have l3:σ.lc.length=σ.us.length:=length_map ..
 have l4:σ.lk.length=σ.us.length:=length_map ..
 have l5:σ.bh.length=σ.us.length:=length_map ..
 obtain⟨tr,tz,e1',dm,dt,KO⟩:=own_is (w:=w) (ba:=ba) (bb:=bb) (fz:=fzO w c σ) (sk:=c.sk) (sd:=c.sd) (lm:=c.lm) (tb:=c.tb) (td:=c.td) (cn:=c.cn) (ls:=c.ls) (sl:=c.sl) (ln:=c.ln) (po:=c.po) (pd:=c.pd) (tk:=c.tk) (T:=c.T) (iss:=σ.iss) (ti:=σ.ti) (g:=σ.g) (tg:=σ.tg) (l:=28+(c.m:Int)) (tf:=c.tf) (tl:=c.tl) (lt:=σ.lt) (lc:=σ.lc) (e2:=σ.e2) (ll:=σ.ll) (e3:=σ.e3) (t0:=1989) (m:=c.m) (x:=σ.x) (tx:=σ.tx) (e1:=σ.e1) D.frC D.frL (by omega) hm (by omega) (by omega) (n+13+2) (t+14+8) ho
 have pc:(posP σ.lc r).isSome=false:=(σ.hC r).trans hr
 have zk:posP σ.lk (σ.g+1)=none:=none_of (by
  unfold Sg.lk
  rw[pos_is]
  exact any_eq_false.mpr fun u hu e=>by have:=I.uz u hu; have:=beq_iff_eq.mp e; omega)
 have zb:posP σ.bh (σ.g+1)=none:=none_of (by
  unfold Sg.bh
  rw[pos_is]
  exact any_eq_false.mpr fun u hu e=>by have:=I.uz u hu; have:=beq_iff_eq.mp e; omega)
 have c1:=cInC_ok (w:=wR w ba bb) (n:=n+13+2+dm+59) (t:=t+14+8+dt+249) (d:=c.cn) (ep:=σ.e2) D.frC I.k2 (a:=n+13+2+dm+58) (b:=n+13+2+dm+1) (c:=n+13+2+dm+2) (t1:=t+10) (t2:=tr) (t3:=t+11) (t4:=t+12) pc
 have c2:=cSetC_ok (w:=wR w ba bb) (n:=n+13+2+dm+60) (t:=t+14+8+dt+257) (d:=c.cn) (ep:=σ.e2) D.frC I.k2 (a:=n+13+2+dm+59) (b:=n+13+2+dm+1) (c:=n+13+2+dm+2) (t1:=t+10) (t2:=tr) (t3:=t+11) (t4:=t+12) (v:=Value.int (σ.g+1) (t+14+8+dt+4)) (none_of pc) (by omega)
 have c3:=cSetI_ok (w:=wR w ba bb) (fz:=fzO w c σ) (n:=n+13+2+dm+63) (t:=t+14+8+dt+280) (d:=c.ln) (ep:=σ.e4) (tz:=t+14+8+dt+4) (v:=Value.ref (n+13+2+dm+61)) zk (by omega)
 obtain⟨f1,f2⟩:=iss_C (i:=σ.iss) i0 (by omega)
 have f3:(((σ.iss+64).fmod 65536+1).fmod 65536 - (σ.iss+64).fmod 65536).fmod 65536=1:=by rw[f1]; exact f2
 have KC:=conn_ok w ba bb (fzO w c σ) (n+13) (t+14) c.sk c.sd c.lm c.lmd c.tb c.td c.cn c.ls c.sl c.ln c.po c.pd c.tk c.K c.k c.T σ.iss σ.ti σ.g σ.tg (28+(c.m:Int)) σ.x c.tf c.tl σ.tx σ.lt σ.e1 σ.lc σ.e2 σ.ll σ.e3 σ.lk σ.e4 r tr (behP (28+(c.m:Int)) r) tz e1' dm dt (t+10) (t+11) (t+12) (t+13) (ac KO (ac c1 (ac c2 (ac c3 (all1 (follow_is w ba bb _ _ _ _ _)))))) (ac (D.lim _ (.head _)) (all1 (D.lim _ (.tail _ (.head _)))))
  (ac (by rw[f3]; rfl) (ac (by rw[f3]; rfl) (ac (by rw[f3]; rfl) (ac (beq_self_eq_true _) (all1 (beq_self_eq_true _))))))
 obtain⟨kk,hkk⟩:∃kk,c.m=kk+1:=⟨c.m - 1,by omega⟩
 obtain⟨ta',tv,dm2,dt2,KN⟩:=next_ok (w:=w) (ba:=ba) (bb:=bb) (fz:=fzO w c σ) (bk:=c.bk) (hd:=c.hd) (hr:=c.hr) (q1:=c.q1) (q2:=c.q2) (q3:=c.q3) (q4:=c.q4) (m:=(c.m:Int)) (tm:=c.tm) (a:=σ.a) (ta:=σ.ta) (eb:=σ.eb) (lh:=σ.bh) (lr:=σ.br) (e1:=σ.f1) (e2:=σ.f2) (k:=kk) (by omega) (by omega) bh_ints br_ints (n+13+(2+dm)+147) (t+14+(8+dt)+539)
 rw[<- hkk,hn] at KN
 have c4:=cSetI_ok (w:=wR w ba bb) (fz:=fzO w c σ) (n:=n+13+(2+dm)+147+dm2+4) (t:=t+14+(8+dt)+539+dt2+5) (d:=c.hd) (ep:=σ.f1) (tz:=t+22+dt+4) (v:=Value.int r tv) zb (by omega)
 have ha:=act_eqT (w:=wR w ba bb) (fz:=fzO w c σ) (a:=n+13+(2+dm)+147+dm2+5) (b:=n+13+(2+dm)+147+dm2+7) (c:=n+13+(2+dm)+147+dm2+10) (d:=n+13+(2+dm)+147+dm2+11) (e:=1) (e':=0) (f:=0) (f':=0) (x1:=1) (x2:=2) (x3:=r) (x4:=2) (t1:=t+10) (t2:=t+11) (t3:=tr) (t4:=1196) (u1:=t+14+(8+dt)+539+dt2+14) (u2:=t+14+(8+dt)+539+dt2+15) (u3:=tv) (u4:=t+14+(8+dt)+539+dt2+16)
  (as:=[(n+13+(2+dm)+147+dm2+5,oL [.ref (n+13+(2+dm)+147+dm2+7)] 1),(n+13+(2+dm)+147+dm2+7,⟨.type "tuple",none,.seq #[.int 1 (t+10),.int 2 (t+11),.int r tr,.int 2 1196] 0,#[]⟩),(n+13+(2+dm)+147+dm2+10,⟨.type "tuple",none,.seq #[.int 1 (t+14+(8+dt)+539+dt2+14),.int 2 (t+14+(8+dt)+539+dt2+15),.int r tv,.int 2 (t+14+(8+dt)+539+dt2+16)] 0,#[]⟩),(n+13+(2+dm)+147+dm2+11,oL [.ref (n+13+(2+dm)+147+dm2+10)] 0)])
  (by show(n+13+(2+dm)+147+dm2+7:Nat)≠n+13+(2+dm)+147+dm2+10; omega) (.head _) (.tail _ (.head _)) (.tail _ (.tail _ (.head _))) (.tail _ (.tail _ (.tail _ (.head _))))
 have K:=dcS_ok w ba bb (fzO w c σ) n t c.sk c.sd c.lm c.lmd c.tb c.td c.cn c.ls c.sl c.ln c.po c.pd c.tk c.K c.k c.T σ.iss σ.ti σ.g σ.tg (28+(c.m:Int)) σ.x c.tf c.tl σ.tx σ.lt σ.e1 σ.lc σ.e2 σ.ll σ.e3 σ.lk σ.e4 σ.lh σ.e5 c.bk c.hd c.hr c.q1 c.q2 c.q3 c.q4 (c.m:Int) c.tm σ.a σ.ta σ.eb σ.bh σ.br σ.f1 σ.f2 p tw tp r tr (behP (28+(c.m:Int)) r) tz e1' dm dt (behP (28+(c.m:Int)) r) ta' tv dm2 dt2 (ac KC (ac KN (ac bk_held (all1 c4)))) ha
 have htab':(1470,oF [])=((1470,σ.tab.obj):Addr×Obj):=by rw[ht]
 refine⟨_,_,wkp_of_wk (wk_of_con K),rfl,rfl,rfl,le_of_ble_eq_true rfl,fun q hq=>?_,?_,fun C' hC=>?_⟩
 ·have hq:q∈core w c σ++[(1470,oF [])]:=hq
  rcases mem_append.mp hq with hq | hq
  ·exact core_mut q hq
  ·have hq:q=(1470,σ.tab.obj):=(mem_singleton.mp hq).trans htab'
   exact mem_append_right _ (hq▸.head _)
 ·have nd:=D.mut
  unfold mutO at nd
  refine nodup_le' nd fun a=>?_
  show((core w c σ++[(1470,oF [])]).map (fun q:Addr×Obj=>q.1)).count a<=_
  simp only[map_append,map_cons,count_append,count_cons,map_nil,count_nil]
  omega
 ·subst hC
  have bi:=beh_in r1 r2 (by omega)
  have hf:tabFit (dcS_s c σ r n t dm dt tr tv tz ta' e1'):=by
   have tb:=I.tb
   unfold tabFit at *
   rw[htab] at tb
   exact tb.2
  refine end_of D (σ':=(dcS_s c σ r n t dm dt tr tv tz ta' e1')) rfl rfl rfl ⟨I.addU hk r1 r2 hr rfl f1 bi.1 bi.2 hf,rfl⟩ (Z:=core w c (dcS_s c σ r n t dm dt tr tv tz ta' e1')++[(1470,TabS.obj (.t1 (n+9) (n+4) (t+3)))]) (Nw:=(lkO w c (dcS_u σ r n t dm dt tr tv)++lkK (dcS_u σ r n t dm dt tr tv))++[(n+9,lamC (n+4) (t+3) 983)]) (Rst:=σ.us.flatMap (lkO w c)++σ.vs.flatMap (lsO w)++frzO w c σ)
   (fun q hq=>?_) (fun a=>?_) (fun q hq=>?_) (fun a=>?_) (mem_idx (js:=[3,4,5,6,7,8,9,10,11,12,13,14,15,16,17,18,19,20,21,22,23,24,25,26,27,28,29,30,31,32,33,34,35,36,37,38,39,41,42,43,40,1,2,0]) (by kernel_rfl)) ?_ (fun q hq=>?_) fun a=>?_
  ·have e:objs w c (dcS_s c σ r n t dm dt tr tv tz ta' e1')=core w c (dcS_s c σ r n t dm dt tr tv tz ta' e1')++((1470,TabS.obj (.t1 (n+9) (n+4) (t+3)))::((σ.us++[(dcS_u σ r n t dm dt tr tv)]).flatMap (lkO w c)++σ.vs.flatMap (lsO w)++(limO w c++(σ.tab.codes++[(n+9,lamC (n+4) (t+3) 983)])++(σ.us++[(dcS_u σ r n t dm dt tr tv)]).flatMap lkK++σ.vs.flatMap keyL))):=by rw[htab]; rfl
   rw[e] at hq
   unfold frzO
   simp only[flatMap_append,flatMap_cons,List.flatMap_nil,append_nil,mem_append,mem_cons,not_mem_nil,or_false] at hq ⊢
   grind
  ·have e:objs w c (dcS_s c σ r n t dm dt tr tv tz ta' e1')=core w c (dcS_s c σ r n t dm dt tr tv tz ta' e1')++((1470,TabS.obj (.t1 (n+9) (n+4) (t+3)))::((σ.us++[(dcS_u σ r n t dm dt tr tv)]).flatMap (lkO w c)++σ.vs.flatMap (lsO w)++(limO w c++(σ.tab.codes++[(n+9,lamC (n+4) (t+3) 983)])++(σ.us++[(dcS_u σ r n t dm dt tr tv)]).flatMap lkK++σ.vs.flatMap keyL))):=by rw[htab]; rfl
   rw[e]
   unfold frzO
   simp only[flatMap_append,flatMap_cons,List.flatMap_nil,append_nil,map_append,map_cons,map_nil,count_append,count_cons,count_nil]
   omega
  ·have q1:(dcS_s c σ r n t dm dt tr tv tz ta' e1').lt=σ.lt++[(r,tr,Value.bool true)]:=map_append ..
   have q2:(dcS_s c σ r n t dm dt tr tv tz ta' e1').lc=σ.lc++[(r,n+15+dm+59,Value.int (σ.g+1) (t+14+8+dt+4))]:=map_append ..
   have q3:(dcS_s c σ r n t dm dt tr tv tz ta' e1').lk=σ.lk++[(σ.g+1,t+14+8+dt+4,Value.ref (n+15+dm+61))]:=map_append ..
   have q4:(dcS_s c σ r n t dm dt tr tv tz ta' e1').bh=σ.bh++[(σ.g+1,t+22+dt+4,Value.int r tv)]:=map_append ..
   unfold core at hq
   rw[q1,q2,q3,q4] at hq
   exact hq
  ·show((core w c σ++[(1470,σ.tab.obj)]).map (fun q:Addr×Obj=>q.1)).count a<=_
   exact le_refl _
  ·show((offs.map (n+15+dm+·))++[n+9]).Nodup
   refine nodup_append.mpr ⟨nodup_off _,nodup_cons.mpr ⟨not_mem_nil,.nil⟩,fun a ha b hb e=>?_⟩
   obtain⟨i,_,rfl⟩:=mem_map.mp ha
   have hb:b=n+9:=by simpa using hb
   omega
  ·unfold objs
   simp only[mem_cons,mem_append] at hq ⊢
   grind
  ·show((core w c σ++[(1470,σ.tab.obj)]).map (fun q:Addr×Obj=>q.1)).count a+_<=_
   unfold objs
   simp only[map_append,map_cons,count_append,count_cons,map_nil,count_nil]
   omega
include I hk in
theorem dcT_deed (hset:σ.tab.set=true) {r:Int}(ho:ownP σ.lt σ.lc σ.ll (28+(c.m:Int)) c.m c.m σ.x=some r)(hn:nextP σ.a (c.m:Int) c.m σ.bh σ.br=(some r,behP (28+(c.m:Int)) r))(r1:29<=r)(r2:r<=28+(c.m:Int))(hr:σ.hP r=false):
  WeakC (wR w ba bb) 16 (rtCall c.sk c.bk (Str.ofString "connect") tw p tp) (objs w c σ) (.ok (.ret (.bool true))) (fun os'=>∃σ',os'=objs w c σ'/\QD c k σ'):=by
 refine deed_of fun n t D=>?_
 obtain⟨cl,NL,ML,rest,ht,hcode⟩:=TabS.is hset
 have hm:(28+(c.m:Int)) - 29+1=c.m:=by omega
 have h6:=I.m6
 have h2:=I.m2
 have lu:=I.ul2
 have lv:=I.vl2
 have i0:=I.i0
 have ik:=I.ik
 have l1:σ.lt.length=σ.us.length:=length_map ..
 have l2:σ.ll.length=σ.vs.length:=length_map ..
 have l3:σ.lc.length=σ.us.length:=length_map ..
 have l4:σ.lk.length=σ.us.length:=length_map ..
 have l5:σ.bh.length=σ.us.length:=length_map ..
 obtain⟨tr,tz,e1',dm,dt,KO⟩:=own_is (w:=w) (ba:=ba) (bb:=bb) (fz:=fzO w c σ) (sk:=c.sk) (sd:=c.sd) (lm:=c.lm) (tb:=c.tb) (td:=c.td) (cn:=c.cn) (ls:=c.ls) (sl:=c.sl) (ln:=c.ln) (po:=c.po) (pd:=c.pd) (tk:=c.tk) (T:=c.T) (iss:=σ.iss) (ti:=σ.ti) (g:=σ.g) (tg:=σ.tg) (l:=28+(c.m:Int)) (tf:=c.tf) (tl:=c.tl) (lt:=σ.lt) (lc:=σ.lc) (e2:=σ.e2) (ll:=σ.ll) (e3:=σ.e3) (t0:=1989) (m:=c.m) (x:=σ.x) (tx:=σ.tx) (e1:=σ.e1) D.frC D.frL (by omega) hm (by omega) (by omega) (n+7+2) (t+8+8) ho
 have pc:(posP σ.lc r).isSome=false:=(σ.hC r).trans hr
 have zk:posP σ.lk (σ.g+1)=none:=none_of (by
  unfold Sg.lk
  rw[pos_is]
  exact any_eq_false.mpr fun u hu e=>by have:=I.uz u hu; have:=beq_iff_eq.mp e; omega)
 have zb:posP σ.bh (σ.g+1)=none:=none_of (by
  unfold Sg.bh
  rw[pos_is]
  exact any_eq_false.mpr fun u hu e=>by have:=I.uz u hu; have:=beq_iff_eq.mp e; omega)
 have c1:=cInC_ok (w:=wR w ba bb) (n:=n+7+2+dm+59) (t:=t+8+8+dt+249) (d:=c.cn) (ep:=σ.e2) D.frC I.k2 (a:=n+7+2+dm+58) (b:=n+7+2+dm+1) (c:=n+7+2+dm+2) (t1:=t+4) (t2:=tr) (t3:=t+5) (t4:=t+6) pc
 have c2:=cSetC_ok (w:=wR w ba bb) (n:=n+7+2+dm+60) (t:=t+8+8+dt+257) (d:=c.cn) (ep:=σ.e2) D.frC I.k2 (a:=n+7+2+dm+59) (b:=n+7+2+dm+1) (c:=n+7+2+dm+2) (t1:=t+4) (t2:=tr) (t3:=t+5) (t4:=t+6) (v:=Value.int (σ.g+1) (t+8+8+dt+4)) (none_of pc) (by omega)
 have c3:=cSetI_ok (w:=wR w ba bb) (fz:=fzO w c σ) (n:=n+7+2+dm+63) (t:=t+8+8+dt+280) (d:=c.ln) (ep:=σ.e4) (tz:=t+8+8+dt+4) (v:=Value.ref (n+7+2+dm+61)) zk (by omega)
 obtain⟨f1,f2⟩:=iss_C (i:=σ.iss) i0 (by omega)
 have f3:(((σ.iss+64).fmod 65536+1).fmod 65536 - (σ.iss+64).fmod 65536).fmod 65536=1:=by rw[f1]; exact f2
 have KC:=conn_ok w ba bb (fzO w c σ) (n+7) (t+8) c.sk c.sd c.lm c.lmd c.tb c.td c.cn c.ls c.sl c.ln c.po c.pd c.tk c.K c.k c.T σ.iss σ.ti σ.g σ.tg (28+(c.m:Int)) σ.x c.tf c.tl σ.tx σ.lt σ.e1 σ.lc σ.e2 σ.ll σ.e3 σ.lk σ.e4 r tr (behP (28+(c.m:Int)) r) tz e1' dm dt (t+4) (t+5) (t+6) (t+7) (ac KO (ac c1 (ac c2 (ac c3 (all1 (follow_is w ba bb _ _ _ _ _)))))) (ac (D.lim _ (.head _)) (all1 (D.lim _ (.tail _ (.head _)))))
  (ac (by rw[f3]; rfl) (ac (by rw[f3]; rfl) (ac (by rw[f3]; rfl) (ac (beq_self_eq_true _) (all1 (beq_self_eq_true _))))))
 obtain⟨kk,hkk⟩:∃kk,c.m=kk+1:=⟨c.m - 1,by omega⟩
 obtain⟨ta',tv,dm2,dt2,KN⟩:=next_ok (w:=w) (ba:=ba) (bb:=bb) (fz:=fzO w c σ) (bk:=c.bk) (hd:=c.hd) (hr:=c.hr) (q1:=c.q1) (q2:=c.q2) (q3:=c.q3) (q4:=c.q4) (m:=(c.m:Int)) (tm:=c.tm) (a:=σ.a) (ta:=σ.ta) (eb:=σ.eb) (lh:=σ.bh) (lr:=σ.br) (e1:=σ.f1) (e2:=σ.f2) (k:=kk) (by omega) (by omega) bh_ints br_ints (n+7+(2+dm)+147) (t+8+(8+dt)+539)
 rw[<- hkk,hn] at KN
 have c4:=cSetI_ok (w:=wR w ba bb) (fz:=fzO w c σ) (n:=n+7+(2+dm)+147+dm2+4) (t:=t+8+(8+dt)+539+dt2+5) (d:=c.hd) (ep:=σ.f1) (tz:=t+16+dt+4) (v:=Value.int r tv) zb (by omega)
 have ha:=act_eqT (w:=wR w ba bb) (fz:=fzO w c σ) (a:=n+7+(2+dm)+147+dm2+5) (b:=n+7+(2+dm)+147+dm2+7) (c:=n+7+(2+dm)+147+dm2+10) (d:=n+7+(2+dm)+147+dm2+11) (e:=1) (e':=0) (f:=0) (f':=0) (x1:=1) (x2:=2) (x3:=r) (x4:=2) (t1:=t+4) (t2:=t+5) (t3:=tr) (t4:=1196) (u1:=t+8+(8+dt)+539+dt2+14) (u2:=t+8+(8+dt)+539+dt2+15) (u3:=tv) (u4:=t+8+(8+dt)+539+dt2+16)
  (as:=[(n+7+(2+dm)+147+dm2+5,oL [.ref (n+7+(2+dm)+147+dm2+7)] 1),(n+7+(2+dm)+147+dm2+7,⟨.type "tuple",none,.seq #[.int 1 (t+4),.int 2 (t+5),.int r tr,.int 2 1196] 0,#[]⟩),(n+7+(2+dm)+147+dm2+10,⟨.type "tuple",none,.seq #[.int 1 (t+8+(8+dt)+539+dt2+14),.int 2 (t+8+(8+dt)+539+dt2+15),.int r tv,.int 2 (t+8+(8+dt)+539+dt2+16)] 0,#[]⟩),(n+7+(2+dm)+147+dm2+11,oL [.ref (n+7+(2+dm)+147+dm2+10)] 0)])
  (by show(n+7+(2+dm)+147+dm2+7:Nat)≠n+7+(2+dm)+147+dm2+10; omega) (.head _) (.tail _ (.head _)) (.tail _ (.tail _ (.head _))) (.tail _ (.tail _ (.tail _ (.head _))))
 have K:=dcT_ok w ba bb (fzO w c σ) n t c.sk c.sd c.lm c.lmd c.tb c.td c.cn c.ls c.sl c.ln c.po c.pd c.tk c.K c.k c.T σ.iss σ.ti σ.g σ.tg (28+(c.m:Int)) σ.x c.tf c.tl σ.tx σ.lt σ.e1 σ.lc σ.e2 σ.ll σ.e3 σ.lk σ.e4 σ.lh σ.e5 c.bk c.hd c.hr c.q1 c.q2 c.q3 c.q4 (c.m:Int) c.tm σ.a σ.ta σ.eb σ.bh σ.br σ.f1 σ.f2 p tw tp r tr (behP (28+(c.m:Int)) r) tz e1' dm dt (behP (28+(c.m:Int)) r) ta' tv dm2 dt2 cl rest NL ML (ac KC (ac KN (ac bk_held (all1 c4)))) (all1 (D.code _ hcode)) ha
 have htab':(1470,tabL cl rest)=((1470,σ.tab.obj):Addr×Obj):=by rw[ht]
 refine⟨_,_,wkp_of_wk (wk_of_con K),rfl,rfl,rfl,le_of_ble_eq_true rfl,fun q hq=>?_,?_,fun C' hC=>?_⟩
 ·have hq:q∈core w c σ++[(1470,tabL cl rest)]:=hq
  rcases mem_append.mp hq with hq | hq
  ·exact core_mut q hq
  ·have hq:q=(1470,σ.tab.obj):=(mem_singleton.mp hq).trans htab'
   exact mem_append_right _ (hq▸.head _)
 ·have nd:=D.mut
  unfold mutO at nd
  refine nodup_le' nd fun a=>?_
  show((core w c σ++[(1470,tabL cl rest)]).map (fun q:Addr×Obj=>q.1)).count a<=_
  simp only[map_append,map_cons,count_append,count_cons,map_nil,count_nil]
  omega
 ·subst hC
  have bi:=beh_in r1 r2 (by omega)
  have hf:tabFit (dcT_s c σ r n t dm dt tr tv tz ta' e1'):=by
   have tb:=I.tb
   unfold tabFit at *
   show(match σ.tab with
    | .t0=>_/\σ.vs= []
    | .t1 ..=>σ.vs= []
    | .t2 ..=>True)
   cases e:σ.tab<;>rw[e] at tb hset
   ·cases hset
   ·exact tb
   ·trivial
  refine end_of D (σ':=(dcT_s c σ r n t dm dt tr tv tz ta' e1')) rfl rfl rfl ⟨I.addU hk r1 r2 hr rfl f1 bi.1 bi.2 hf,hset⟩ (Z:=core w c (dcT_s c σ r n t dm dt tr tv tz ta' e1')++[(1470,TabS.obj (σ.tab))]) (Nw:=(lkO w c (dcT_u σ r n t dm dt tr tv)++lkK (dcT_u σ r n t dm dt tr tv))++[]) (Rst:=σ.us.flatMap (lkO w c)++σ.vs.flatMap (lsO w)++frzO w c σ)
   (fun q hq=>?_) (fun a=>?_) (fun q hq=>?_) (fun a=>?_) (mem_idx (js:=[2,3,4,5,6,7,8,9,10,11,12,13,14,15,16,17,18,19,20,21,22,23,24,25,26,27,28,29,30,31,32,33,34,35,36,37,38,40,41,42,39,0,1]) (by kernel_rfl)) ?_ (fun q hq=>?_) fun a=>?_
  ·have e:objs w c (dcT_s c σ r n t dm dt tr tv tz ta' e1')=core w c (dcT_s c σ r n t dm dt tr tv tz ta' e1')++((1470,TabS.obj (σ.tab))::((σ.us++[(dcT_u σ r n t dm dt tr tv)]).flatMap (lkO w c)++σ.vs.flatMap (lsO w)++(limO w c++(σ.tab.codes++[])++(σ.us++[(dcT_u σ r n t dm dt tr tv)]).flatMap lkK++σ.vs.flatMap keyL))):=by rw[append_nil σ.tab.codes]; rfl
   rw[e] at hq
   unfold frzO
   simp only[flatMap_append,flatMap_cons,List.flatMap_nil,append_nil,mem_append,mem_cons,not_mem_nil,or_false] at hq ⊢
   grind
  ·have e:objs w c (dcT_s c σ r n t dm dt tr tv tz ta' e1')=core w c (dcT_s c σ r n t dm dt tr tv tz ta' e1')++((1470,TabS.obj (σ.tab))::((σ.us++[(dcT_u σ r n t dm dt tr tv)]).flatMap (lkO w c)++σ.vs.flatMap (lsO w)++(limO w c++(σ.tab.codes++[])++(σ.us++[(dcT_u σ r n t dm dt tr tv)]).flatMap lkK++σ.vs.flatMap keyL))):=by rw[append_nil σ.tab.codes]; rfl
   rw[e]
   unfold frzO
   simp only[flatMap_append,flatMap_cons,List.flatMap_nil,append_nil,map_append,map_cons,map_nil,count_append,count_cons,count_nil]
   omega
  ·have q1:(dcT_s c σ r n t dm dt tr tv tz ta' e1').lt=σ.lt++[(r,tr,Value.bool true)]:=map_append ..
   have q2:(dcT_s c σ r n t dm dt tr tv tz ta' e1').lc=σ.lc++[(r,n+9+dm+59,Value.int (σ.g+1) (t+8+8+dt+4))]:=map_append ..
   have q3:(dcT_s c σ r n t dm dt tr tv tz ta' e1').lk=σ.lk++[(σ.g+1,t+8+8+dt+4,Value.ref (n+9+dm+61))]:=map_append ..
   have q4:(dcT_s c σ r n t dm dt tr tv tz ta' e1').bh=σ.bh++[(σ.g+1,t+16+dt+4,Value.int r tv)]:=map_append ..
   unfold core at hq
   rw[q1,q2,q3,q4,ht] at hq
   exact hq
  ·show((core w c σ++[(1470,σ.tab.obj)]).map (fun q:Addr×Obj=>q.1)).count a<=_
   exact le_refl _
  ·show((offs.map (n+9+dm+·))++[]).Nodup
   rw[append_nil]
   exact nodup_off _
  ·unfold objs
   simp only[mem_cons,mem_append] at hq ⊢
   grind
  ·show((core w c σ++[(1470,σ.tab.obj)]).map (fun q:Addr×Obj=>q.1)).count a+_<=_
   unfold objs
   simp only[map_append,map_cons,count_append,count_cons,map_nil,count_nil]
   omega
end
end
def rg_g:List Nat:=hx 30 [0x312f7ff0063f4aa81e797c144b38e72bc9cfea671b3d36f625a11a3cf929366e6de560a027b20fbe2e2141df638d02b133fd37340a05214,0x31755fdcc43f6d29d96cd89e31962317e83940e2f5d8aa8ee4146b44c3891b551537d06599b3961d77cf1a12667c74587e7b1fe97c73ad9,0x317573bce32dca7fdd94cd9e81a79d74e0c7f8ce1aebe92c432a8ad05efa8fee33e1de4ec16b1dc3e006768eb505421ed17ddc7adae0455,0x3132d485bc82892ec26b18d99bcfaca0c618fd4daebab8ef32f68155b8b68ba6e99d58d8e787d34b728c7664ef11effcc8a8f3c5487df94,0x312f6c16b71636297a12de9917749717bd5db8a56dabe05bf6650d7ff0245e28437d76237a2ea9fdfc9e9664976e7683046a50148109937,0x43e4f497c2c6fcde3af071ab800c93e7bbb2c330038f21e52f70fb77960dd314e3b430ec6409880ad5f85a356c89ce69027d4f40aa49a60,0x312fa9daed4d293e32bd7069ae0b92b8c545eb2a8e2d3d5feb39c6cd0fd82218d2b118f83488fe837569e3c5851c5f247de5e1a5a8bebb0,0x3e4d23830d1a199f36ec1029e77acd75a20e230af5046ee1efc2d6d2eac3decd076e5626e068c2790280c438a7b4e73623da8fe7179de62,0x5314c548a46a556f2972d401c3578e4af96d3ad4ee7373c4ee42569b30bfe1603c162f8a6bda561b7f32410f70]
def rg_h:List Nat:=hx 69 [0x6410192f28599f92d5ba150941d48f2cb34d7f4d822b3260a46eb8cfa485d12]
noncomputable def rgCst (n t tm m:Nat):Cst:=⟨n+5,n+4,n+2,n+1,n+12,n+11,n+14,n+15,n+16,n+17,n+8,n+7,n+10,n+18,n+19,n+20,t+24,t+2,t+53,t+85,t+86,t+88,t+89,t+44,t+46,tm,m⟩
def rgSg (t:Nat)(tab:TabS):Sg:=⟨5,0,29,29,t+43,t+81,t+44,t+87,0,0,0,0,0,4,0,0,[],[],tab⟩
def rgCall (m:Int)(tm:Nat)(dl:Addr):Code:=Code.call (.ref 1480) ⟨[.int m tm,.ref dl],[]⟩
def rg_c (n t:Nat)(m tm:Nat)(dl:Addr)(vs:List Value)(ep:Nat):Con:=⟨rgCall m tm dl,n,t,[(dl,oL0 vs ep)],[],[],.ok .next,0,0,17⟩
def rg_X (w:World)(n t:Nat)(m tm:Nat)(dl:Addr)(vs:List Value)(ep:Nat)(ba bb:Bool):Out:=xOf (wR w ba bb) fz0 (rg_c n t m tm dl vs ep) [] [] 1131 1 3 rg_g
def rg_bs (m:Nat):List (Bool×Bool):=[(decide ((28:Int)+(m:Int)<=65535),true),(decide ((29:Int)<=28+(m:Int)),true)]
def rg_xs (w:World)(n t:Nat)(m tm:Nat)(dl:Addr)(vs:List Value)(ep:Nat):List (Addr×Obj):=(n,fr4 w t (t+1) (t+84) (t+94) (m:Int) tm dl (n+5) (n+18) #[])::(n+21,lIt dl 0)::(dl,oL0 vs ep)::(core w (rgCst n t tm m) (rgSg t .t0)++limO w (rgCst n t tm m))
theorem rg_1 (w:World)(n t:Nat)(m tm:Nat)(dl:Addr)(vs:List Value)(ep:Nat)(ba bb:Bool):callL 17 16 [1,22,0,6,5,9,8,11,13,12,15,16,18,17,19,20,21,3,2] (rg_X w n t m tm dl vs ep ba bb)=
  callR (rgF w n (n+21)) (rg_xs w n t m tm dl vs ep) (n+22) (t+95) [rgE w n] (rg_bs m) (rg_X w n t m tm dl vs ep ba bb):=by
 cases ba<;>cases bb<;>kernel_rfl
def rg_C2 (w:World)(n t n1 t1:Nat)(m tm:Nat)(dl:Addr) (σ:Sg)(u5 u6:Nat)(v5 v6:Value)(sl:Array (Option Value)):Con:=⟨.block [] default,n1,t1,[(n,fr6 w t (t+1) (t+84) (t+94) (m:Int) tm dl (n+5) (n+18) u5 v5 u6 v6 sl),(n+5,oI 1431 (n+4)),(n+4,oSd w (t+53) (n+2) (n+8) (n+12) (n+16) (n+17) σ.iss σ.ti σ.g σ.tg),(n+8,oI 161 (n+7)),(n+7,oPd w (t+53+8) (n+10) (28+(m:Int)) σ.x (t+44) (t+46) σ.tx),(n+18,dD (dSt w (bkL (t+85) (t+86) (t+88) (t+89) (m:Int) tm σ.a σ.ta (n+19) (n+20))) σ.eb)],[fr6 w t (t+1) (t+84) (t+94) (m:Int) tm dl (n+5) (n+18) u5 v5 u6 v6 sl,oI 1431 (n+4),oSd w (t+53) (n+2) (n+8) (n+12) (n+16) (n+17) σ.iss σ.ti σ.g σ.tg,oI 161 (n+7),oPd w (t+53+8) (n+10) (28+(m:Int)) σ.x (t+44) (t+46) σ.tx,dD (dSt w (bkL (t+85) (t+86) (t+88) (t+89) (m:Int) tm σ.a σ.ta (n+19) (n+20))) σ.eb],[],.ok (.ret (.bool true)),0,4,17⟩
def rg_k2 (w:World)(n t n1 t1:Nat)(m tm:Nat) (σ:Sg):List Con:=[cGetS w n1 (t1+3) (n+18) (bkL (t+85) (t+86) (t+88) (t+89) (m:Int) tm σ.a σ.ta (n+19) (n+20)) σ.eb (Str.ofString "at") (t1+2) (Value.int σ.a σ.ta)]
def rg_Y (w:World)(n t:Nat)(m tm:Nat)(dl:Addr)(vs:List Value)(ep:Nat)(ba bb:Bool)(n1 t1:Nat) (σ:Sg)(u5 u6:Nat)(v5 v6:Value)(sl:Array (Option Value)):Out:=runS (vOf (wR w ba bb) fz0 (rg_C2 w n t n1 t1 m tm dl σ u5 u6 v5 v6 sl) (rg_k2 w n t n1 t1 m tm σ) []) 58 (cfGo (tS (rg_X w n t m tm dl vs ep ba bb)) (.ok .next) (rg_C2 w n t n1 t1 m tm dl σ u5 u6 v5 v6 sl) rg_h)
theorem rg_2 (w:World)(n t:Nat)(m tm:Nat)(dl:Addr)(vs:List Value)(ep:Nat)(ba bb:Bool)(n1 t1:Nat) (σ:Sg)(u5 u6:Nat)(v5 v6:Value)(sl:Array (Option Value)):
  FineO (rg_Y w n t m tm dl vs ep ba bb n1 t1 σ u5 u6 v5 v6 sl) [(σ.x == σ.a,true)]/\outOf (rg_C2 w n t n1 t1 m tm dl σ u5 u6 v5 v6 sl).pre.length [] (rg_Y w n t m tm dl vs ep ba bb n1 t1 σ u5 u6 v5 v6 sl)=some (.ok (.ret (.bool true)),stTo (rg_C2 w n t n1 t1 m tm dl σ u5 u6 v5 v6 sl) n1 (t1+4)):=
 ⟨by cases ba<;>cases bb<;>kernel_rfl,by cases ba<;>cases bb<;>kernel_rfl⟩
theorem nodup_le {l l':List Nat} (h:l.Nodup)(hc:∀a,l'.count a<=l.count a):l'.Nodup:=nodup_iff_count.mpr fun a=>le_trans (hc a) (nodup_iff_count.mp h a)
theorem rest_one {a:Addr} {o:Obj}{ys:List (Addr×Obj)} (h:a∉ys.map (·.1)):restO ((a,o)::ys) [a]=ys:=by
 unfold restO
 rw[List.filter_cons_of_neg (by simp)]
 refine List.filter_eq_self.mpr fun p hp=>decide_eq_true fun z=>h ?_
 have z:p.1=a:=by simpa using z
 exact z▸mem_fst hp
theorem stays {W:World} {h:Heap}{os pre:List (Addr×Obj)}{fs:List Env}(W1:Wst W h os fs)(hp:∀p∈pre,p∈os):∀p∈os,p∈pre\/p∈os/\p.1∉pre.map (·.1):=fun p hp'=>by
 by_cases e:p.1∈pre.map (·.1)
 ·obtain⟨o,z⟩:=fst_mem e
  have:=W1.same hp' (hp _ z) rfl
  exact .inl (this▸z)
 ·exact .inr ⟨hp',e⟩
def rgOs (dl:Addr)(items:List Item)(ep:Nat)(tab:TabS):List (Addr×Obj):=(dl,oL0 (items.map itV) ep)::(items.map itO++((1470,tab.obj)::tab.codes))
theorem inv0 {n t tm m:Nat}{tab:TabS}(h2:2<=m)(h6:m<=6):Inv (rgCst n t tm m) (rgSg t tab) 0:=
 ⟨h2,h6,by omega,rfl,by show(29:Int)<=29; omega,by show(29:Int)<=28+(m:Int); omega,by show(0:Int)<=0; omega,by show(0:Int)<=0; omega,by show(0:Int)<=5; omega,by show(5:Int)<=5+65 * (0:Int); omega,nm,.nil,.nil,.nil,nm,nm,nm,.nil,le_refl _,le_refl _,by cases tab<;>first | exact⟨rfl,rfl⟩ | rfl | trivial⟩
theorem right_ok {w:World}{ba bb:Bool}(DS:DeedsOk w ba bb){items:List Item}(hg:∀x∈items,goodI x)(hne:items≠ [])(hl:items.length<=20){m tm:Nat}(h2:2<=m)(h6:m<=6){tab:TabS}(ht:tab.set=true\/∃x r,items=x::r/\x.way=Str.ofString "connect"){dl:Addr}{ep:Nat}:
  WeakC (wR w ba bb) 17 (rgCall (m:Int) tm dl) (rgOs dl items ep tab) (.ok (.ret (.bool true))) (fun os'=>∃tab',tab'.set=true/\os'=rgOs dl items ep tab'):=by
 intro A s fs hA hf W R hR
 have E:=rg_1 w (hZ s) s.toks m tm dl (items.map itV) ep ba bb
 have hp:∀q∈(rg_c (hZ s) s.toks m tm dl (items.map itV) ep).pre,q∈rgOs dl items ep tab:=all1 (.head _)
 have nd:=W.nd
 have dln:dl∉(items.map itO++((1470,tab.obj)::tab.codes)).map (·.1):=(nodup_cons.mp nd).1
 refine leg_start (C:=rg_c (hZ s) s.toks m tm dl (items.map itV) ep) (cons:=[]) (N:=1131) (w0:=1) (u0:=3) (hs:=rg_g) (bs:=rg_bs m) (by kernel_rfl) (by kernel_rfl)
  (Prod.ext (congrArg (fun x:CallT=>x.2.1) E) (congrArg (fun x:CallT=>x.2.2.1) E)) nm (ac (decide_eq_true (by omega)) (all1 (decide_eq_true (by omega)))) hA W rfl rfl hp (nodup_cons.mpr ⟨not_mem_nil,.nil⟩)
  (cut_call E (by decide) hA hf W rfl hp fun B h hB hBf K W1 x1 hz=>?_)
 have er:restO (rgOs dl items ep tab) ((rg_c (hZ s) s.toks m tm dl (items.map itV) ep).pre.map (·.1))=items.map itO++((1470,tab.obj)::tab.codes):=rest_one dln
 rw[er] at W1 x1
 have sub1:∀q∈((hZ s),frB false w s.toks (s.toks+1) (s.toks+84) (s.toks+94) (m:Int) tm dl ((hZ s)+5) ((hZ s)+18) 0 .none 0 .none #[])::((hZ s)+21,lIt dl 0)::(dl,oL0 (items.map itV) ep)::(items.map itO++objs w (rgCst (hZ s) s.toks tm m) (rgSg s.toks tab)),
   q∈rg_xs w (hZ s) s.toks m tm dl (items.map itV) ep++(items.map itO++((1470,tab.obj)::tab.codes)):=fun q hq=>by
  rcases mem_cons.mp hq with rfl | hq
  ·exact .head _
  rcases mem_cons.mp hq with rfl | hq
  ·exact .tail _ (.head _)
  rcases mem_cons.mp hq with rfl | hq
  ·exact .tail _ (.tail _ (.head _))
  rcases mem_append.mp hq with hq | hq
  ·exact mem_append_right _ (mem_append_left _ hq)
  rcases mem_append.mp hq with hq | hq
  ·exact mem_append_left _ (.tail _ (.tail _ (.tail _ (mem_append_left _ hq))))
  rcases mem_cons.mp hq with rfl | hq
  ·exact mem_append_right _ (mem_append_right _ (.head _))
  have hq:q∈limO w (rgCst (hZ s) s.toks tm m)++tab.codes++[]++[]:=hq
  rw[append_nil,append_nil] at hq
  rcases mem_append.mp hq with hq | hq
  ·exact mem_append_left _ (.tail _ (.tail _ (.tail _ (mem_append_right _ hq))))
  ·exact mem_append_right _ (mem_append_right _ (.tail _ hq))
 have W2:=W1.sub sub1 (by
  refine nodup_le W1.nd fun a=>?_
  have e:objs w (rgCst (hZ s) s.toks tm m) (rgSg s.toks tab)=core w (rgCst (hZ s) s.toks tm m) (rgSg s.toks .t0)++((1470,tab.obj)::(limO w (rgCst (hZ s) s.toks tm m)++tab.codes++[]++[])):=rfl
  rw[e]
  unfold rg_xs
  simp only[map_append,map_cons,count_append,count_cons,append_nil,cons_append]
  omega)
 have x2:=x1.sub sub1
 refine loop_go (c:=rgCst (hZ s) s.toks tm m) (L:=(hZ s)) (it:=(hZ s)+21) (u1:=s.toks) (u2:=s.toks+1) (u3:=s.toks+84) (u4:=s.toks+94) DS hg hB hBf items 0 0 (rgSg s.toks tab) false #[] 0 0 .none .none ⟨h,s.gens,s.drawn,s.toks+95,s.os⟩ rfl (Nat.zero_add _) (inv0 h2 h6) (by omega) ht (.inr hne) W2 fun h' t' σ' y5 y6 x5 x6 sl ito I' hs W3 x3=>?_
 have I':Inv (rgCst (hZ s) s.toks tm m) σ' (0+items.length):=I'
 obtain⟨e1,e2⟩:=rg_2 w (hZ s) s.toks m tm dl (items.map itV) ep ba bb h'.objs.size t' σ' y5 y6 x5 x6 sl
 have hp3:∀q∈(rg_C2 w (hZ s) s.toks h'.objs.size t' m tm dl σ' y5 y6 x5 x6 sl).pre,q∈((hZ s),fr6 w s.toks (s.toks+1) (s.toks+84) (s.toks+94) ((rgCst (hZ s) s.toks tm m).m:Int) tm dl ((hZ s)+5) ((hZ s)+18) y5 x5 y6 x6 sl)::((hZ s)+21,ito)::(dl,oL0 (items.map itV) ep)::(items.map itO++objs w (rgCst (hZ s) s.toks tm m) σ'):=by
  intro q hq
  rcases mem_cons.mp hq with rfl | hq
  ·exact .head _
  refine .tail _ (.tail _ (.tail _ (mem_append_right _ (core_sub _ ?_))))
  exact mem_idx (l:=core w (rgCst (hZ s) s.toks tm m) σ') (js:=[0,1,2,3,11]) (xs:=(rg_C2 w (hZ s) s.toks h'.objs.size t' m tm dl σ' y5 y6 x5 x6 sl).pre.tail) rfl q hq
 have hn3:((rg_C2 w (hZ s) s.toks h'.objs.size t' m tm dl σ' y5 y6 x5 x6 sl).pre.map (·.1)).Nodup:=by
  show[(hZ s),(hZ s)+5,(hZ s)+4,(hZ s)+8,(hZ s)+7,(hZ s)+18].Nodup
  simp
 refine leg_go (C:=rg_C2 w (hZ s) s.toks h'.objs.size t' m tm dl σ' y5 y6 x5 x6 sl) (cons:=rg_k2 w (hZ s) s.toks h'.objs.size t' m tm σ') (N:=58) (hs:=rg_h) (by kernel_rfl) e1 (all1 bk_at) (all1 (beq_iff_eq.mpr I'.xa)) hA W3 rfl rfl hp3 hn3 K fun O=>?_
 refine cut_done (ni:=[]) e2 rfl rfl (by kernel_rfl) W3 rfl hp3 hn3 fun h'' W4 x4=>?_
 have ez:zipA (rg_C2 w (hZ s) s.toks h'.objs.size t' m tm dl σ' y5 y6 x5 x6 sl).pre (rg_C2 w (hZ s) s.toks h'.objs.size t' m tm dl σ' y5 y6 x5 x6 sl).post++(rg_C2 w (hZ s) s.toks h'.objs.size t' m tm dl σ' y5 y6 x5 x6 sl).news=(rg_C2 w (hZ s) s.toks h'.objs.size t' m tm dl σ' y5 y6 x5 x6 sl).pre:=rfl
 rw[ez] at W4 x4
 have W5:=W3.put W4 rfl (stays W3 hp3)
 have x5':=x4.put (stays W3 hp3)
 have sub5:∀q∈rgOs dl items ep σ'.tab,q∈((hZ s),fr6 w s.toks (s.toks+1) (s.toks+84) (s.toks+94) ((rgCst (hZ s) s.toks tm m).m:Int) tm dl ((hZ s)+5) ((hZ s)+18) y5 x5 y6 x6 sl)::((hZ s)+21,ito)::(dl,oL0 (items.map itV) ep)::(items.map itO++objs w (rgCst (hZ s) s.toks tm m) σ'):=fun q hq=>by
  rcases mem_cons.mp hq with rfl | hq
  ·exact .tail _ (.tail _ (.head _))
  refine .tail _ (.tail _ (.tail _ ?_))
  rcases mem_append.mp hq with hq | hq
  ·exact mem_append_left _ hq
  refine mem_append_right _ (mem_append_right _ ?_)
  rcases mem_cons.mp hq with rfl | hq
  ·exact .head _
  ·exact .tail _ (mem_append_right _ (mem_append_left _ (mem_append_left _ (mem_append_right _ hq))))
 refine hR h'' _ _ ⟨σ'.tab,hs (.inl hne),rfl⟩ (W5.sub sub5 ?_) ((x2.trans (x3.trans x5')).sub sub5)
 refine nodup_le W5.nd fun a=>?_
 unfold rgOs objs frzO
 simp only[map_append,map_cons,count_append,count_cons]
 omega
def fl2 (w:World)(u1 u2:Nat)(sc fx:Addr)(sl:Array (Option Value)):Obj:={oX w.params "frame" 2 [("script",u1,.ref sc),("fixed",u2,.ref fx)] with slots:=sl}
def fl5 (w:World)(u1 u2:Nat)(sc fx:Addr)(u3 u4 u5:Nat)(so dl:Addr) (m:Int)(tm:Nat)(sl:Array (Option Value)):Obj:={oX w.params "frame" 5 [("script",u1,.ref sc),("fixed",u2,.ref fx),("source",u3,.ref so),("deeds",u4,.ref dl),("many",u5,.int m tm)] with slots:=sl}
def fl7 (w:World)(u1 u2:Nat)(sc fx:Addr)(u3 u4 u5:Nat)(so dl:Addr) (m:Int)(tm:Nat)(u6:Nat)(v6:Value)(u7:Nat)(v7:Value)(sl:Array (Option Value)):Obj:={oX w.params "frame" 7 [("script",u1,.ref sc),("fixed",u2,.ref fx),("source",u3,.ref so),("deeds",u4,.ref dl),("many",u5,.int m tm),("turn",u6,v6),("way",u7,v7)] with slots:=sl}
def flB (fb:Bool) (w:World)(u1 u2:Nat)(sc fx:Addr)(u3 u4 u5:Nat)(so dl:Addr) (m:Int)(tm:Nat)(u6:Nat)(v6:Value)(u7:Nat)(v7:Value)(sl:Array (Option Value)):Obj:=match fb with
 | true=>fl7 w u1 u2 sc fx u3 u4 u5 so dl m tm u6 v6 u7 v7 sl
 | false=>fl5 w u1 u2 sc fx u3 u4 u5 so dl m tm sl
def lwF (w:World)(L it:Addr):Code:=forC w.params 1485 4 L [] (.ref it)
def lwE (w:World) (L:Addr):Env:=envF w.params 1485 L []
def tkA_c (w:World)(n t:Nat)(so:Addr)(a b:Int)(ta tb ep:Nat) (p:Int)(tp:Nat):Con:=⟨Code.call (.ref 1449) ⟨[.ref so,.int p tp],[]⟩,n,t,[(so,oL [.int a ta,.int b tb] ep)],[oL [.int (a.fdiv p) (t+8),.int b tb] ep],[],.ok (.ret (.int (a.fmod p) (t+5))),1,10,6⟩
def tkA_h0:List Nat:=hx 32 [0x230085f0080210c0518bc01004210c2301062f00401084370022f0040108430002308c00]
theorem tkA_ok (w:World)(ba bb:Bool)(fz:Addr->Option Obj)(n t:Nat)(so:Addr)(a b:Int)(ta tb ep:Nat) (p:Int)(tp:Nat)(hc:∀D∈([cMod (n+1) (t+5) a ta p tp,cDiv (n+1) (t+8) a ta p tp]:List Con),ConOk (wR w ba bb) fz D) (hb:∀b∈([(decide (a > 0),true)]:List (Bool×Bool)),b.1=b.2):ConOk (wR w ba bb) fz (tkA_c w n t so a b ta tb ep p tp):=by
 cases bb<;>cases ba<;>exact con_run (N:=96) (m₀:=1) (w0:=0) (u0:=1) (ze:=n+1) (te:=t+10) (ro:=[]) (hs:=tkA_h0) (ni:=[]) (by kernel_rfl) rfl rfl (by kernel_rfl) rfl rfl (by kernel_rfl) hc nm hb
def tkB_c (w:World)(n t:Nat)(so:Addr)(a b:Int)(ta tb ep:Nat) (p:Int)(tp:Nat):Con:=⟨Code.call (.ref 1449) ⟨[.ref so,.int p tp],[]⟩,n,t,[(so,oL [.int a ta,.int b tb] ep)],[oL [.int a ta,.int ((b * 39373+7).fmod 2147483647) (t+10)] ep],[],.ok (.ret (.int (((((b * 39373+7).fmod 2147483647 * (b * 39373+7).fmod 2147483647).fmod 2147483629).fdiv 32).fmod p) (t+19))),1,20,6⟩
def tkB_h0:List Nat:=hx 32 [0x2048c0801c06178020084218bc01004210c0217c0200843014a000082f00401084370042f0040108430002308c00]
theorem tkB_ok (w:World)(ba bb:Bool)(fz:Addr->Option Obj)(n t:Nat)(so:Addr)(a b:Int)(ta tb ep:Nat) (p:Int)(tp:Nat)(hc:∀D∈([cMul (n+1) (t+6) b tb 39373 (t+5),cMod (n+1) (t+10) (b * 39373+7) (t+8) 2147483647 (t+9),cMul (n+1) (t+14) ((b * 39373+7).fmod 2147483647) (t+10) ((b * 39373+7).fmod 2147483647) (t+10),cMod (n+1) (t+16) ((b * 39373+7).fmod 2147483647 * (b * 39373+7).fmod 2147483647) (t+14) 2147483629 (t+15),cDiv (n+1) (t+18) (((b * 39373+7).fmod 2147483647 * (b * 39373+7).fmod 2147483647).fmod 2147483629) (t+16) 32
 (t+17),cMod (n+1) (t+19) ((((b * 39373+7).fmod 2147483647 * (b * 39373+7).fmod 2147483647).fmod 2147483629).fdiv 32)
 (t+18) p tp]:List Con),ConOk (wR w ba bb) fz D) (hb:∀b∈([(decide (a > 0),false)]:List (Bool×Bool)),b.1=b.2):ConOk (wR w ba bb) fz (tkB_c w n t so a b ta tb ep p tp):=by
 cases bb<;>cases ba<;>exact con_run (N:=114) (m₀:=1) (w0:=0) (u0:=1) (ze:=n+1) (te:=t+20) (ro:=[]) (hs:=tkB_h0) (ni:=[]) (by kernel_rfl) rfl rfl (by kernel_rfl) rfl rfl (by kernel_rfl) hc nm hb
def plA_c (w:World)(n t:Nat)(sc:Addr)(vs:List Value)(ep:Nat)(dc:Option Addr)(zs:Array (Option Value)) (k:Nat) (z:Int)(tz:Nat)(sz:Nat):Con:=⟨Code.call (.ref 1442) ⟨[.ref sc,.int 0 k],[]⟩,n,t,[(sc,oLg dc zs vs ep)],[oLg dc zs vs ep],[(n+6,oL [.int (z * 0) (t+29),.int (((z.fmod 2147483629+0 * 0+31 * 0+17) * 48271).fmod 2147483647) (t+23)] 0)],.ok (.ret (.ref (n+6))),7,30,6⟩
def plA_h0:List Nat:=hx 80 [0x2168c59a2fe2c0d32543b61f32e6d231068ded67506461b410cd1af7b33feb23060462c73db2fe233fca53f03587672b82f5a5cb6a0b737779949d0cdce1e19ac1f51a3caab1b00,0x33a6f67ad4aea90aff7a36c1972cce741f8e0ee1635ec6593f048371d3a67a87bca90ce759aa7fc9063d1897ac224cc94]
theorem plA_ok (w:World)(ba bb:Bool)(fz:Addr->Option Obj)(n t:Nat)(sc:Addr)(vs:List Value)(ep:Nat)(dc:Option Addr)(zs:Array (Option Value)) (k:Nat) (z:Int)(tz:Nat)(sz:Nat)(hc:∀D∈([cLenZ (n+1) (t+2) sc vs ep dc zs sz,cLGz (n+1) (t+4) sc vs ep dc zs 0 k (Value.int z tz),cMod (n+6) (t+10) z tz 2147483629 (t+9),cMul (n+6) (t+12) 7919 (t+11) 0 k,cMul (n+6) (t+13) 0 (t+12) 0 k,cMul (n+6) (t+16) 31 (t+15) 0 k,cMul (n+6) (t+21) (z.fmod 2147483629+0 * 0+31 * 0+17) (t+19) 48271 (t+20),cMod (n+6) (t+23) ((z.fmod 2147483629+0 * 0+31 * 0+17) * 48271) (t+21) 2147483647 (t+22),cMul (n+6) (t+29) z tz 0 (t+28)]:List Con),ConOk (wR w ba bb) fz D) (hb:∀b∈([(decide (z ≥ 10 ^ Int.toNat 18),false),(decide ((-1:Int) - z > z),false),(decide ((0:Int) < (sz:Int)),true)]:List (Bool×Bool)),b.1=b.2):ConOk (wR w ba bb) fz (plA_c w n t sc vs ep dc zs k z tz sz):=by
 cases bb<;>cases ba<;>exact con_run (N:=240) (m₀:=1) (w0:=0) (u0:=1) (ze:=n+7) (te:=t+30) (ro:=[]) (hs:=plA_h0) (ni:=[7]) (by kernel_rfl) rfl rfl (by kernel_rfl) rfl rfl (by kernel_rfl) hc nm hb
def plB_c (w:World)(n t:Nat)(sc:Addr)(vs:List Value)(ep:Nat)(dc:Option Addr)(zs:Array (Option Value)) (k:Nat) (z:Int)(tz:Nat)(sz:Nat):Con:=⟨Code.call (.ref 1442) ⟨[.ref sc,.int 0 k],[]⟩,n,t,[(sc,oLg dc zs vs ep)],[oLg dc zs vs ep],[(n+6,oL [.int 0 (t+30),.int 820607 (t+24)] 0)],.ok (.ret (.ref (n+6))),7,31,6⟩
def plB_h0:List Nat:=hx 80 [0x20a0472062db2500aa1e3872e569d97be3e2fbaaf9a4b77508e83fd081be03bf77dcb7bd71c15d58b13d848dee7096371c9f260c3f85bcec1ff8c5a5b5452b27c1f51a3caab1b00,0x8aa70dbf5e80428d5d215dcde4e3e729aba9427104ef1385c22f2a722cde298d8c4767aef2640b337df1]
theorem plB_ok (w:World)(ba bb:Bool)(fz:Addr->Option Obj)(n t:Nat)(sc:Addr)(vs:List Value)(ep:Nat)(dc:Option Addr)(zs:Array (Option Value)) (k:Nat) (z:Int)(tz:Nat)(sz:Nat)(hc:∀D∈([cLenZ (n+1) (t+2) sc vs ep dc zs sz,cMod (n+6) (t+11) 0 (t+4) 2147483629 (t+10),cMul (n+6) (t+13) 7919 (t+12) 0 k,cMul (n+6) (t+14) 0 (t+13) 0 k,cMul (n+6) (t+17) 31 (t+16) 0 k,cMul (n+6) (t+22) 17 (t+20) 48271 (t+21),cMod (n+6) (t+24) 820607 (t+22) 2147483647 (t+23),cMul (n+6) (t+30) 0 (t+4) 0 (t+29)]:List Con),ConOk (wR w ba bb) fz D) (hb:∀b∈([(decide ((0:Int) < (sz:Int)),false)]:List (Bool×Bool)),b.1=b.2):ConOk (wR w ba bb) fz (plB_c w n t sc vs ep dc zs k z tz sz):=by
 cases bb<;>cases ba<;>exact con_run (N:=232) (m₀:=1) (w0:=0) (u0:=1) (ze:=n+7) (te:=t+31) (ro:=[]) (hs:=plB_h0) (ni:=[7]) (by kernel_rfl) rfl rfl (by kernel_rfl) rfl rfl (by kernel_rfl) hc nm hb
def plC_c (w:World)(n t:Nat)(sc:Addr)(vs:List Value)(ep:Nat)(dc:Option Addr)(zs:Array (Option Value)) (k:Nat) (z:Int)(tz:Nat)(sz:Nat):Con:=⟨Code.call (.ref 1442) ⟨[.ref sc,.int 0 k],[]⟩,n,t,[(sc,oLg dc zs vs ep)],[oLg dc zs vs ep],[(n+6,oL [.int (((-1:Int) - z) * 0) (t+29),.int (((((-1:Int) - z).fmod 2147483629+0 * 0+31 * 0+17) * 48271).fmod 2147483647) (t+23)] 0)],.ok (.ret (.ref (n+6))),7,30,6⟩
def plC_h0:List Nat:=plA_h0.take 77++[1,0,14,6,4,6]++plA_h0.drop 80
theorem plC_ok (w:World)(ba bb:Bool)(fz:Addr->Option Obj)(n t:Nat)(sc:Addr)(vs:List Value)(ep:Nat)(dc:Option Addr)(zs:Array (Option Value)) (k:Nat) (z:Int)(tz:Nat)(sz:Nat)(hc:∀D∈([cLenZ (n+1) (t+2) sc vs ep dc zs sz,cLGz (n+1) (t+4) sc vs ep dc zs 0 k (Value.int z tz),cMod (n+6) (t+10) ((-1:Int) - z) (t+7) 2147483629 (t+9),cMul (n+6) (t+12) 7919 (t+11) 0 k,cMul (n+6) (t+13) 0 (t+12) 0 k,cMul (n+6) (t+16) 31 (t+15) 0 k,cMul (n+6) (t+21) (((-1:Int) - z).fmod 2147483629+0 * 0+31 * 0+17) (t+19) 48271
 (t+20),cMod (n+6) (t+23) ((((-1:Int) - z).fmod 2147483629+0 * 0+31 * 0+17) * 48271) (t+21)
 2147483647 (t+22),cMul (n+6) (t+29) ((-1:Int) - z) (t+7) 0 (t+28)]:List Con),ConOk (wR w ba bb) fz D) (hb:∀b∈([(decide ((-1:Int) - z ≥ 10 ^ Int.toNat 18),false),(decide ((-1:Int) - z > z),true),(decide ((0:Int) < (sz:Int)),true)]:List (Bool×Bool)),b.1=b.2):ConOk (wR w ba bb) fz (plC_c w n t sc vs ep dc zs k z tz sz):=by
 cases bb<;>cases ba<;>exact con_run (N:=243) (m₀:=1) (w0:=0) (u0:=1) (ze:=n+7) (te:=t+30) (ro:=[]) (hs:=plC_h0) (ni:=[7]) (by kernel_rfl) rfl rfl (by kernel_rfl) rfl rfl (by kernel_rfl) hc nm hb
def plD_c (w:World)(n t:Nat)(sc:Addr)(vs:List Value)(ep:Nat)(dc:Option Addr)(zs:Array (Option Value)) (k:Nat) (z:Int)(tz:Nat)(sz:Nat):Con:=⟨Code.call (.ref 1442) ⟨[.ref sc,.int 0 k],[]⟩,n,t,[(sc,oLg dc zs vs ep)],[oLg dc zs vs ep],[(n+6,oL [.int (z * 1) (t+29),.int (((z.fmod 2147483629+0 * 0+31 * 0+17) * 48271).fmod 2147483647) (t+23)] 0)],.ok (.ret (.ref (n+6))),7,30,6⟩
def plD_h0:List Nat:=plA_h0.take 133++[1]++plA_h0.drop 134
theorem plD_ok (w:World)(ba bb:Bool)(fz:Addr->Option Obj)(n t:Nat)(sc:Addr)(vs:List Value)(ep:Nat)(dc:Option Addr)(zs:Array (Option Value)) (k:Nat) (z:Int)(tz:Nat)(sz:Nat)(hc:∀D∈([cLenZ (n+1) (t+2) sc vs ep dc zs sz,cLGz (n+1) (t+4) sc vs ep dc zs 0 k (Value.int z tz),cMod (n+6) (t+10) z tz 2147483629 (t+9),cMul (n+6) (t+12) 7919 (t+11) 0 k,cMul (n+6) (t+13) 0 (t+12) 0 k,cMul (n+6) (t+16) 31 (t+15) 0 k,cMul (n+6) (t+21) (z.fmod 2147483629+0 * 0+31 * 0+17) (t+19) 48271 (t+20),cMod (n+6) (t+23) ((z.fmod 2147483629+0 * 0+31 * 0+17) * 48271) (t+21) 2147483647 (t+22),cMul (n+6) (t+29) z tz 1 (t+28)]:List Con),ConOk (wR w ba bb) fz D) (hb:∀b∈([(decide (z ≥ 10 ^ Int.toNat 18),true),(decide ((-1:Int) - z > z),false),(decide ((0:Int) < (sz:Int)),true)]:List (Bool×Bool)),b.1=b.2):ConOk (wR w ba bb) fz (plD_c w n t sc vs ep dc zs k z tz sz):=by
 cases bb<;>cases ba<;>exact con_run (N:=240) (m₀:=1) (w0:=0) (u0:=1) (ze:=n+7) (te:=t+30) (ro:=[]) (hs:=plD_h0) (ni:=[7]) (by kernel_rfl) rfl rfl (by kernel_rfl) rfl rfl (by kernel_rfl) hc nm hb
def plE_c (w:World)(n t:Nat)(sc:Addr)(vs:List Value)(ep:Nat)(dc:Option Addr)(zs:Array (Option Value)) (k:Nat) (z:Int)(tz:Nat)(sz:Nat):Con:=⟨Code.call (.ref 1442) ⟨[.ref sc,.int 0 k],[]⟩,n,t,[(sc,oLg dc zs vs ep)],[oLg dc zs vs ep],[(n+6,oL [.int (((-1:Int) - z) * 1) (t+29),.int (((((-1:Int) - z).fmod 2147483629+0 * 0+31 * 0+17) * 48271).fmod 2147483647) (t+23)] 0)],.ok (.ret (.ref (n+6))),7,30,6⟩
def plE_h0:List Nat:=plC_h0.take 136++[1]++plC_h0.drop 137
theorem plE_ok (w:World)(ba bb:Bool)(fz:Addr->Option Obj)(n t:Nat)(sc:Addr)(vs:List Value)(ep:Nat)(dc:Option Addr)(zs:Array (Option Value)) (k:Nat) (z:Int)(tz:Nat)(sz:Nat)(hc:∀D∈([cLenZ (n+1) (t+2) sc vs ep dc zs sz,cLGz (n+1) (t+4) sc vs ep dc zs 0 k (Value.int z tz),cMod (n+6) (t+10) ((-1:Int) - z) (t+7) 2147483629 (t+9),cMul (n+6) (t+12) 7919 (t+11) 0 k,cMul (n+6) (t+13) 0 (t+12) 0 k,cMul (n+6) (t+16) 31 (t+15) 0 k,cMul (n+6) (t+21) (((-1:Int) - z).fmod 2147483629+0 * 0+31 * 0+17) (t+19) 48271
 (t+20),cMod (n+6) (t+23) ((((-1:Int) - z).fmod 2147483629+0 * 0+31 * 0+17) * 48271) (t+21)
 2147483647 (t+22),cMul (n+6) (t+29) ((-1:Int) - z) (t+7) 1 (t+28)]:List Con),ConOk (wR w ba bb) fz D) (hb:∀b∈([(decide ((-1:Int) - z ≥ 10 ^ Int.toNat 18),true),(decide ((-1:Int) - z > z),true),(decide ((0:Int) < (sz:Int)),true)]:List (Bool×Bool)),b.1=b.2):ConOk (wR w ba bb) fz (plE_c w n t sc vs ep dc zs k z tz sz):=by
 cases bb<;>cases ba<;>exact con_run (N:=243) (m₀:=1) (w0:=0) (u0:=1) (ze:=n+7) (te:=t+30) (ro:=[]) (hs:=plE_h0) (ni:=[7]) (by kernel_rfl) rfl rfl (by kernel_rfl) rfl rfl (by kernel_rfl) hc nm hb
theorem fmod_in {a p:Int} (h:0 < p):0<=a.fmod p/\a.fmod p < p:=by
 rw[Int.fmod_eq_emod_of_nonneg _ (Int.le_of_lt h)]
 exact⟨Int.emod_nonneg _ (by omega),Int.emod_lt_of_pos _ h⟩
theorem draw_ok {w:World}{ba bb:Bool}{fz:Addr->Option Obj}(n t:Nat){so:Addr}{a b:Int}{ta tb ep:Nat} {p:Int}{tp:Nat}(h0:0 < p)(h1:p < 1000):
  ∃A' B' ta' tb' d td dt,0<=d/\d < p/\ConOk (wR w ba bb) fz (cDraw n t so a b ta tb ep p tp A' B' ta' tb' d td dt):=by
 by_cases h:a > 0
 ·exact⟨_,_,_,_,_,_,_,(fmod_in h0).1,(fmod_in h0).2,con_as (tkA_ok w ba bb fz n t so a b ta tb ep p tp (ac (cMod_ok (by omega)) (all1 (cDiv_ok (by omega) (by omega)))) (all1 (decide_eq_true h))) rfl rfl rfl rfl rfl⟩
 ·have z:=fmod_in (a:=b * 39373+7) (p:=2147483647) (by omega)
  exact⟨_,_,_,_,_,_,_,(fmod_in h0).1,(fmod_in h0).2,con_as (tkB_ok w ba bb fz n t so a b ta tb ep p tp (ac (cMul_ok (mulSmall (by omega) (by omega))) (ac (cMod_ok (by omega)) (ac (cMul_ok (mulSmall z.1 (by omega))) (ac (cMod_ok (by omega)) (ac (cDiv_ok (by omega) (by omega)) (all1 (cMod_ok (by omega)))))))) (all1 (decide_eq_false h))) rfl rfl rfl rfl rfl⟩
theorem pool_ok {w:World}{ba bb:Bool}{fz:Addr->Option Obj}(n t:Nat){sc:Addr}{vs:List Value}{ep:Nat}{dc:Option Addr}{zs:Array (Option Value)} {k:Nat}(hv:∀v∈vs,IsI v)(hl:vs.length<=63):∃A B ta tb dt,ConOk (wR w ba bb) fz (cPool n t sc vs ep dc zs k A B ta tb dt):=by
 have m1:∀ (x:Int),IntMulOk x 0:=fun x=>mulSmall (by omega) (by omega)
 have m2:∀ (x:Int),IntMulOk x 48271:=fun x=>mulSmall (by omega) (by omega)
 cases e:vs[0]? with
 | none=>
  have e0:vs= []:=by
   cases vs with
   | nil=>rfl
   | cons v vs=>cases e
  subst e0
  exact⟨_,_,_,_,_,con_as (plB_ok w ba bb fz n t sc [] ep dc zs k 0 0 0 (ac (cLenZ_ok (Nat.zero_le _)) (ac (cMod_ok (by omega)) (ac (cMul_ok (m1 _)) (ac (cMul_ok (m1 _)) (ac (cMul_ok (m1 _)) (ac (cMul_ok (m2 _)) (ac (cMod_ok (by omega)) (all1 (cMul_ok (m1 _)))))))))) (all1 (decide_eq_false (p:=(0:Int) < ((0:Nat):Int)) (by decide)))) rfl rfl rfl rfl rfl⟩
 | some v=>
  obtain⟨z,tz,rfl⟩:=hv v (mem_of_getElem? e)
  have hp:(0:Int) < (vs.length:Int):=by
   cases vs with
   | nil=>cases e
   | cons v vs=>show(0:Int) < ((vs.length+1:Nat):Int); omega
  have m3:∀ (x:Int),IntMulOk x 1:=fun x=>mulSmall (by omega) (by omega)
  have g0:∀n t,ConOk (wR w ba bb) fz (cLGz n t sc vs ep dc zs 0 k (Value.int z tz)):=fun n t=>cLGz_ok (by omega) (by omega) e
  by_cases h1:(-1:Int) - z > z
  ·by_cases h2:(-1:Int) - z ≥ 10 ^ Int.toNat 18
   ·exact⟨_,_,_,_,_,con_as (plE_ok w ba bb fz n t sc vs ep dc zs k z tz vs.length (ac (cLenZ_ok (by omega)) (ac (g0 _ _) (ac (cMod_ok (by omega)) (ac (cMul_ok (m1 _)) (ac (cMul_ok (m1 _)) (ac (cMul_ok (m1 _)) (ac (cMul_ok (m2 _)) (ac (cMod_ok (by omega)) (all1 (cMul_ok (m3 _))))))))))) (ac (decide_eq_true h2) (ac (decide_eq_true h1) (all1 (decide_eq_true hp))))) rfl rfl rfl rfl rfl⟩
   ·exact⟨_,_,_,_,_,con_as (plC_ok w ba bb fz n t sc vs ep dc zs k z tz vs.length (ac (cLenZ_ok (by omega)) (ac (g0 _ _) (ac (cMod_ok (by omega)) (ac (cMul_ok (m1 _)) (ac (cMul_ok (m1 _)) (ac (cMul_ok (m1 _)) (ac (cMul_ok (m2 _)) (ac (cMod_ok (by omega)) (all1 (cMul_ok (m1 _))))))))))) (ac (decide_eq_false h2) (ac (decide_eq_true h1) (all1 (decide_eq_true hp))))) rfl rfl rfl rfl rfl⟩
  ·by_cases h2:z ≥ 10 ^ Int.toNat 18
   ·exact⟨_,_,_,_,_,con_as (plD_ok w ba bb fz n t sc vs ep dc zs k z tz vs.length (ac (cLenZ_ok (by omega)) (ac (g0 _ _) (ac (cMod_ok (by omega)) (ac (cMul_ok (m1 _)) (ac (cMul_ok (m1 _)) (ac (cMul_ok (m1 _)) (ac (cMul_ok (m2 _)) (ac (cMod_ok (by omega)) (all1 (cMul_ok (m3 _))))))))))) (ac (decide_eq_true h2) (ac (decide_eq_false h1) (all1 (decide_eq_true hp))))) rfl rfl rfl rfl rfl⟩
   ·exact⟨_,_,_,_,_,con_as (plA_ok w ba bb fz n t sc vs ep dc zs k z tz vs.length (ac (cLenZ_ok (by omega)) (ac (g0 _ _) (ac (cMod_ok (by omega)) (ac (cMul_ok (m1 _)) (ac (cMul_ok (m1 _)) (ac (cMul_ok (m1 _)) (ac (cMul_ok (m2 _)) (ac (cMod_ok (by omega)) (all1 (cMul_ok (m1 _))))))))))) (ac (decide_eq_false h2) (ac (decide_eq_false h1) (all1 (decide_eq_true hp))))) rfl rfl rfl rfl rfl⟩
def lt_h:List Nat:=hx 74 [0xc6b90df377bd5f9bb725916160446b11be20d717496a0560d48f7c975085a648f8ef28a22694c91a847189d6653109c072b33]
def ltE_h:List Nat:=[2,4,0,0,4,0]
noncomputable def lt_ws (t:Nat):List Value:=[Value.str (Str.ofString "connect") (t+2),Value.str (Str.ofString "connect") (t+3),Value.str (Str.ofString "connect") (t+4),Value.str (Str.ofString "listen") (t+5),Value.str (Str.ofString "give up") (t+6),Value.str (Str.ofString "close") (t+7)]
def lt_c (w:World)(n t:Nat)(L it so dl sc fx:Addr)(u1 u2 u3 u4 u5:Nat) (m:Int)(tm:Nat)(sl0:Array (Option Value))(u6 u7:Nat)(v6 v7:Value)(fb:Bool)(j left:Int)(A B:Int)(ta tb ep:Nat)(ds:List Value)(ed:Nat)(A1 B1:Int)(ta1 tb1:Nat)(d1:Int)(td1 dt1:Nat)(A2 B2:Int)(ta2 tb2:Nat)(d2:Int)(td2 dt2:Nat)(s1:Str)(tw:Nat):Con:=⟨lwF w L it,n,t,[(L,flB fb w u1 u2 sc fx u3 u4 u5 so dl m tm u6 v6 u7 v7 sl0),(it,rIt j left),(so,oL [.int A ta,.int B tb] ep),(dl,oL0 ds ed)],[fl7 w u1 u2 sc fx u3 u4 u5 so dl m tm (tokB fb u6 (t+1)) (.int j t) (tokB fb u7 (t+12+dt1)) (.str s1 tw) sl0,rIt (j+1) (left - 1),oL [.int A2 ta2,.int B2 tb2] ep,oL0 (ds++[Value.ref (n+4)]) (ed+1)],[(n+4,oT [.str s1 tw,.int (29+d2) (t+12+dt1+2+dt2)])],.ok .next,2+1+0+1+1,12+dt1+2+dt2+1,7⟩
theorem lt_ok (w:World)(ba bb:Bool)(fz:Addr->Option Obj)(n t:Nat)(L it so dl sc fx:Addr)(u1 u2 u3 u4 u5:Nat) (m:Int)(tm:Nat)(sl0:Array (Option Value))(u6 u7:Nat)(v6 v7:Value)(fb:Bool)(j left:Int)(A B:Int)(ta tb ep:Nat)(ds:List Value)(ed:Nat)(A1 B1:Int)(ta1 tb1:Nat)(d1:Int)(td1 dt1:Nat)(A2 B2:Int)(ta2 tb2:Nat)(d2:Int)(td2 dt2:Nat)(s1:Str)(tw:Nat)(hc:∀D∈([cNextR n t it j left,cDraw (n+2) (t+12) so A B ta tb ep 6 (t+11) A1 B1 ta1 tb1 d1 td1 dt1,cLGet (n+3) (t+12+dt1) n (lt_ws t) 0 d1 td1 (Value.str s1 tw),cDraw (n+3) (t+12+dt1+2) so A1 B1 ta1 tb1 ep m tm A2 B2 ta2 tb2 d2 td2 dt2,cApp (n+4+1) (t+12+dt1+2+dt2+1) dl ds ed (Value.ref (n+4))]:List Con),ConOk (wR w ba bb) fz D):TurnOk (wR w ba bb) fz (lt_c w n t L it so dl sc fx u1 u2 u3 u4 u5 m tm sl0 u6 u7 v6 v7 fb j left A B ta tb ep ds ed A1 B1 ta1 tb1 d1 td1 dt1 A2 B2 ta2 tb2 d2 td2 dt2 s1 tw) (lwF w L it):=by
 cases fb<;>cases bb<;>cases ba<;>exact turn_run (N:=122) (m₀:=4) (w0:=0) (u0:=0) (ze:=n+5) (te:=t+12+dt1+2+dt2+1) (ro:=[]) (hs:=lt_h) (ni:=[6]) (by kernel_rfl) rfl rfl (by kernel_rfl) (by show n+5=n+(2+1+0+1+1); omega) (by show t+12+dt1+2+dt2+1=t+(12+dt1+2+dt2+1); omega) (by kernel_rfl) hc nm (bs:=[]) nm
def ltE_c (w:World)(n t:Nat)(L it:Addr)(j left:Int):Con:=⟨lwF w L it,n,t,[(it,rIt j left)],[rIt j left],[],.ok .next,2,0,5⟩
theorem ltE_ok (w:World)(ba bb:Bool)(fz:Addr->Option Obj)(n t:Nat)(L it:Addr)(j left:Int)(hc:∀D∈([cEndR n t it j left]:List Con),ConOk (wR w ba bb) fz D):ConOk (wR w ba bb) fz (ltE_c w n t L it j left):=by
 cases bb<;>cases ba<;>exact con_run (N:=11) (m₀:=1) (w0:=0) (u0:=0) (ze:=n+2) (te:=t) (ro:=[]) (hs:=ltE_h) (ni:=[]) (by kernel_rfl) rfl rfl (by kernel_rfl) rfl rfl (by kernel_rfl) hc nm (bs:=[]) nm
theorem rest_app {pre ys:List (Addr×Obj)}{as:List Addr} (e:as=pre.map (·.1)) (h:((pre++ys).map (·.1)).Nodup):restO (pre++ys) as=ys:=by
 subst e
 unfold restO
 rw[map_append] at h
 obtain⟨_,_,n3⟩:=nodup_append.mp h
 rw[filter_append,List.filter_eq_nil_iff.mpr fun p hp=>by rw[decide_eq_true_iff]; exact fun z=>z (mem_fst hp),nil_append]
 exact List.filter_eq_self.mpr fun p hp=>decide_eq_true fun z=>n3 _ z _ (mem_fst hp) rfl
theorem way_is (t:Nat) {d:Int}(h0:0<=d)(h1:d < 6):∃s1 tw,(lt_ws t)[d.toNat]?=some (.str s1 tw)/\(s1=Str.ofString "connect"\/s1=Str.ofString "listen"\/s1=Str.ofString "give up"\/s1=Str.ofString "close"):=by
 obtain⟨k,rfl⟩:=Int.eq_ofNat_of_zero_le h0
 have:k < 6:=by omega
 match k,this with
 | 0,_=>exact⟨_,_,rfl,.inl rfl⟩
 | 1,_=>exact⟨_,_,rfl,.inl rfl⟩
 | 2,_=>exact⟨_,_,rfl,.inl rfl⟩
 | 3,_=>exact⟨_,_,rfl,.inr (.inl rfl)⟩
 | 4,_=>exact⟨_,_,rfl,.inr (.inr (.inl rfl))⟩
 | 5,_=>exact⟨_,_,rfl,.inr (.inr (.inr rfl))⟩
theorem lawloop {w:World}{ba bb:Bool}{fs:List Env}{L it so dl sc fx:Addr}{u1 u2 u3 u4 u5:Nat} {m:Int}{tm:Nat}(hm:2<=m/\m<=6){sl0:Array (Option Value)}{ys:List (Addr×Obj)} {A:Around} {R:Result->Shared->Prop}(hA:CtxOk A 7):
  ∀ (kl:Nat) (items:List Item) (j:Int) (ed:Nat) (A0 B0:Int) (ta tb:Nat) (fb:Bool) (u6 u7:Nat) (v6 v7:Value) (s:Shared),(∀x∈items,goodI x)->(fb=true\/0 < kl)->items.length+kl<=20->
   Wst (wR w ba bb) s.heap ((L,flB fb w u1 u2 sc fx u3 u4 u5 so dl m tm u6 v6 u7 v7 sl0)::(it,rIt j kl)::(so,oL [.int A0 ta,.int B0 tb] 0)::(dl,oL0 (items.map itV) ed)::(items.map itO++ys)) fs->
   (∀h' t' (items':List Item) j' ed' A' B' ta' tb' y6 y7 x6 x7,(∀x∈items',goodI x)->items'.length=items.length+kl->
    Wst (wR w ba bb) h' ((L,fl7 w u1 u2 sc fx u3 u4 u5 so dl m tm y6 x6 y7 x7 sl0)::(it,rIt j' 0)::(so,oL [.int A' ta',.int B' tb'] 0)::(dl,oL0 (items'.map itV) ed')::(items'.map itO++ys)) fs->
    Wrel ((L,flB fb w u1 u2 sc fx u3 u4 u5 so dl m tm u6 v6 u7 v7 sl0)::(it,rIt j kl)::(so,oL [.int A0 ta,.int B0 tb] 0)::(dl,oL0 (items.map itV) ed)::(items.map itO++ys)) ((L,fl7 w u1 u2 sc fx u3 u4 u5 so dl m tm y6 x6 y7 x7 sl0)::(it,rIt j' 0)::(so,oL [.int A' ta',.int B' tb'] 0)::(dl,oL0 (items'.map itV) ed')::(items'.map itO++ys)) fs s.heap h'->
    R (.ok .next) ⟨h',s.gens,s.drawn,t',s.os⟩)->codeAny (model P02 (wR w ba bb)) A (lwF w L it) R s:=by
 intro kl
 induction kl with
 | zero=>
  intro items j ed A0 B0 ta tb fb u6 u7 v6 v7 s hg hfb hlen W hR
  have hfb:fb=true:=hfb.resolve_right (lt_irrefl _)
  subst hfb
  have K:=ltE_ok w ba bb fz0 s.heap.objs.size s.toks L it j 0 (all1 (cEndR_ok (Int.le_refl _)))
  have hp:∀q∈(ltE_c w s.heap.objs.size s.toks L it j 0).pre,q∈(L,flB true w u1 u2 sc fx u3 u4 u5 so dl m tm u6 v6 u7 v7 sl0)::(it,rIt j 0)::(so,oL [.int A0 ta,.int B0 tb] 0)::(dl,oL0 (items.map itV) ed)::(items.map itO++ys):=all1 (.tail _ (.head _))
  have hn:((ltE_c w s.heap.objs.size s.toks L it j 0).pre.map (·.1)).Nodup:=nodup_cons.mpr ⟨not_mem_nil,.nil⟩
  refine K A s (hA.mono (by show 5<=7; omega)) (W.apart hp hn) W.baseOk rfl rfl (fun q hq=>W.at_ q (hp q hq)) R fun h' a=>?_
  obtain⟨W1,x1⟩:=W.after rfl hp hn a
  exact hR h' _ items j ed A0 B0 ta tb u6 u7 v6 v7 hg rfl (W.put W1 rfl (stays W hp)) (x1.put (stays W hp))
 | succ kl ih=>
  intro items j ed A0 B0 ta tb fb u6 u7 v6 v7 s hg hfb hlen W hR
  obtain⟨A1,B1,ta1,tb1,d1,td1,dt1,p1,p2,K1⟩:=draw_ok (w:=w) (ba:=ba) (bb:=bb) (fz:=fz0) (s.heap.objs.size+2) (s.toks+12) (so:=so) (a:=A0) (b:=B0) (ta:=ta) (tb:=tb) (ep:=0) (p:=6) (tp:=s.toks+11) (by omega) (by omega)
  obtain⟨s1,tw,e1,hw⟩:=way_is s.toks p1 p2
  obtain⟨A2,B2,ta2,tb2,d2,td2,dt2,q1,q2,K2⟩:=draw_ok (w:=w) (ba:=ba) (bb:=bb) (fz:=fz0) (s.heap.objs.size+3) (s.toks+12+dt1+2) (so:=so) (a:=A1) (b:=B1) (ta:=ta1) (tb:=tb1) (ep:=0) (p:=m) (tp:=tm) (by omega) (by omega)
  have T:=lt_ok w ba bb fz0 s.heap.objs.size s.toks L it so dl sc fx u1 u2 u3 u4 u5 m tm sl0 u6 u7 v6 v7 fb j ((kl+1:Nat):Int) A0 B0 ta tb 0 (items.map itV) ed A1 B1 ta1 tb1 d1 td1 dt1 A2 B2 ta2 tb2 d2 td2 dt2 s1 tw
   (ac (cNextR_ok (by omega)) (ac K1 (ac (cLGet_ok p1 (by omega) e1) (ac K2 (all1 (cApp_ok (by rw[length_map]; omega)))))))
  have nd:=W.nd
  have hp:∀q∈(lt_c w s.heap.objs.size s.toks L it so dl sc fx u1 u2 u3 u4 u5 m tm sl0 u6 u7 v6 v7 fb j ((kl+1:Nat):Int) A0 B0 ta tb 0 (items.map itV) ed A1 B1 ta1 tb1 d1 td1 dt1 A2 B2 ta2 tb2 d2 td2 dt2 s1 tw).pre,q∈(L,flB fb w u1 u2 sc fx u3 u4 u5 so dl m tm u6 v6 u7 v7 sl0)::(it,rIt j ((kl+1:Nat):Int))::(so,oL [.int A0 ta,.int B0 tb] 0)::(dl,oL0 (items.map itV) ed)::(items.map itO++ys):=
   ac (.head _) (ac (.tail _ (.head _)) (ac (.tail _ (.tail _ (.head _))) (all1 (.tail _ (.tail _ (.tail _ (.head _)))))))
  have hn: [L,it,so,dl].Nodup:=by
   simp only[map_cons,nodup_cons,mem_cons,not_or] at nd
   simp only[nodup_cons,mem_cons,not_mem_nil,or_false,not_or,List.nodup_nil,and_true,not_false_eq_true]
   exact⟨⟨nd.1.1,nd.1.2.1,nd.1.2.2.1⟩,⟨nd.2.1.1,nd.2.1.2.1⟩,nd.2.2.1.1⟩
  refine T A s hA (W.apart hp hn) W.baseOk rfl rfl (fun q hq=>W.at_ q (hp q hq)) R fun h' a=>?_
  obtain⟨W1,x1⟩:=W.after rfl hp hn a
  have er:restO ((L,flB fb w u1 u2 sc fx u3 u4 u5 so dl m tm u6 v6 u7 v7 sl0)::(it,rIt j ((kl+1:Nat):Int))::(so,oL [.int A0 ta,.int B0 tb] 0)::(dl,oL0 (items.map itV) ed)::(items.map itO++ys)) [L,it,so,dl]=items.map itO++ys:=
   rest_app (pre:=[(L,flB fb w u1 u2 sc fx u3 u4 u5 so dl m tm u6 v6 u7 v7 sl0),(it,rIt j ((kl+1:Nat):Int)),(so,oL [.int A0 ta,.int B0 tb] 0),(dl,oL0 (items.map itV) ed)]) rfl nd
  have hx:∃x:Item,x=⟨s.heap.objs.size+4,s1,tw,29+d2,s.toks+12+dt1+2+dt2⟩:=⟨_,rfl⟩
  obtain⟨x,hx⟩:=hx
  have gx:goodI x:=by
   rw[hx]
   rcases hw with h | h | h | h
   ·exact .inl h
   ·exact .inr (.inl ⟨h,by show(1:Int)<=29+d2; omega,by show(29:Int)+d2<=65535; omega⟩)
   ·exact .inr (.inr (.inl h))
   ·exact .inr (.inr (.inr h))
  have W1:Wst (wR w ba bb) h' (([(L,fl7 w u1 u2 sc fx u3 u4 u5 so dl m tm (tokB fb u6 (s.toks+1)) (.int j s.toks) (tokB fb u7 (s.toks+12+dt1)) (.str s1 tw) sl0),(it,rIt (j+1) (((kl+1:Nat):Int) - 1)),(so,oL [.int A2 ta2,.int B2 tb2] 0),(dl,oL0 (items.map itV++[Value.ref (s.heap.objs.size+4)]) (ed+1)),(s.heap.objs.size+4,oT [.str s1 tw,.int (29+d2) (s.toks+12+dt1+2+dt2)])]++restO ((L,flB fb w u1 u2 sc fx u3 u4 u5 so dl m tm u6 v6 u7 v7 sl0)::(it,rIt j ((kl+1:Nat):Int))::(so,oL [.int A0 ta,.int B0 tb] 0)::(dl,oL0 (items.map itV) ed)::(items.map itO++ys)) [L,it,so,dl])) fs:=W1
  have x1:Wrel ((L,flB fb w u1 u2 sc fx u3 u4 u5 so dl m tm u6 v6 u7 v7 sl0)::(it,rIt j ((kl+1:Nat):Int))::(so,oL [.int A0 ta,.int B0 tb] 0)::(dl,oL0 (items.map itV) ed)::(items.map itO++ys)) (([(L,fl7 w u1 u2 sc fx u3 u4 u5 so dl m tm (tokB fb u6 (s.toks+1)) (.int j s.toks) (tokB fb u7 (s.toks+12+dt1)) (.str s1 tw) sl0),(it,rIt (j+1) (((kl+1:Nat):Int) - 1)),(so,oL [.int A2 ta2,.int B2 tb2] 0),(dl,oL0 (items.map itV++[Value.ref (s.heap.objs.size+4)]) (ed+1)),(s.heap.objs.size+4,oT [.str s1 tw,.int (29+d2) (s.toks+12+dt1+2+dt2)])]++restO ((L,flB fb w u1 u2 sc fx u3 u4 u5 so dl m tm u6 v6 u7 v7 sl0)::(it,rIt j ((kl+1:Nat):Int))::(so,oL [.int A0 ta,.int B0 tb] 0)::(dl,oL0 (items.map itV) ed)::(items.map itO++ys)) [L,it,so,dl])) fs s.heap h':=x1
  rw[er,show(((kl+1:Nat):Int) - 1)=(kl:Int) by omega] at W1 x1
  have ev:(items++[x]).map itV=items.map itV++[Value.ref (s.heap.objs.size+4)]:=by rw[map_append,hx]; rfl
  have eo:(items++[x]).map itO=items.map itO++[(s.heap.objs.size+4,oT [.str s1 tw,.int (29+d2) (s.toks+12+dt1+2+dt2)])]:=by rw[map_append,hx]; rfl
  have sub1:∀q∈(L,fl7 w u1 u2 sc fx u3 u4 u5 so dl m tm (tokB fb u6 (s.toks+1)) (.int j s.toks) (tokB fb u7 (s.toks+12+dt1)) (.str s1 tw) sl0)::(it,rIt (j+1) (kl:Int))::(so,oL [.int A2 ta2,.int B2 tb2] 0)::(dl,oL0 ((items++[x]).map itV) (ed+1))::((items++[x]).map itO++ys),
    q∈[(L,fl7 w u1 u2 sc fx u3 u4 u5 so dl m tm (tokB fb u6 (s.toks+1)) (.int j s.toks) (tokB fb u7 (s.toks+12+dt1)) (.str s1 tw) sl0),(it,rIt (j+1) (kl:Int)),(so,oL [.int A2 ta2,.int B2 tb2] 0),(dl,oL0 (items.map itV++[Value.ref (s.heap.objs.size+4)]) (ed+1)),(s.heap.objs.size+4,oT [.str s1 tw,.int (29+d2) (s.toks+12+dt1+2+dt2)])]++(items.map itO++ys):=by
   intro q hq
   rw[ev,eo] at hq
   simp only[mem_cons,mem_append,cons_append,nil_append,not_mem_nil,or_false] at hq ⊢
   rcases hq with h | h | h | h | (h | h) | h
   ·exact .inl h
   ·exact .inr (.inl h)
   ·exact .inr (.inr (.inl h))
   ·exact .inr (.inr (.inr (.inl h)))
   ·exact .inr (.inr (.inr (.inr (.inr (.inl h)))))
   ·exact .inr (.inr (.inr (.inr (.inl h))))
   ·exact .inr (.inr (.inr (.inr (.inr (.inr h)))))
  have W2:=W1.sub sub1 (by
   refine nodup_le W1.nd fun a=>?_
   rw[eo]
   simp only[map_append,map_cons,count_append,count_cons,cons_append,nil_append,map_nil,count_nil]
   omega)
  refine ih (items++[x]) (j+1) (ed+1) A2 B2 ta2 tb2 true _ _ _ _ ⟨h',s.gens,s.drawn,_,s.os⟩ (fun y hy=>?_) (.inl rfl) (by rw[length_append]; show items.length+1+kl<=20; omega) W2 fun h'' t'' items' j' ed' A' B' ta' tb' y6 y7 x6 x7 g' l' W3 x3=>?_
  ·rcases mem_append.mp hy with h | h
   ·exact hg y h
   ·exact mem_singleton.mp h▸gx
  ·exact hR h'' t'' items' j' ed' A' B' ta' tb' y6 y7 x6 x7 g' (by rw[l',length_append]; show items.length+1+kl=items.length+(kl+1); omega) W3 ((x1.sub sub1).trans x3)
section
def lw_g0:List Nat:=hx 52 [0x240dc9c9dfea66c9dc8ec3c67fce01dee164d16bc8090030fe4621483c8304369796c8689c4f33182c0b235139a2354b5a517d6530306b580f83f3998b87a34f0,0x1a44c37dc06c79cea601107b85d9e51f9f7a644b8d1db0a376c30d3371d984532ad227b1e1e8627ce59a895ff46c8d423f27802ff5a09144]
def lw_g1:List Nat:=lw_g0.take 18++lw_g0.drop 25
def lw_g (b:Bool):List Nat:=match b with
 | true=>lw_g1
 | false=>lw_g0
def lw_h:List Nat:=hx 49 [0x312dfb4dc111c0542d8966c9e86eb4221cf10246c25ca666a773c5edccbf3b8494f10342cf7596fe216d1bde0f487e959963db5fecf85ae1974e511d8236b93,52]
noncomputable def lw_it (n t:Nat):List Item:=[⟨n+5,Str.ofString "connect",t+1,0,t+10⟩,⟨n+6,Str.ofString "connect",t+2,0,t+12⟩,⟨n+7,Str.ofString "give up",t+3,0,t+14⟩,⟨n+8,Str.ofString "connect",t+4,0,t+16⟩,⟨n+9,Str.ofString "connect",t+5,0,t+18⟩,⟨n+10,Str.ofString "connect",t+6,0,t+20⟩]
def lwCall (sc:Addr):Code:=Code.call (.ref 1485) ⟨[.ref sc],[]⟩
section
variable (w:World)(n t:Nat)(sc:Addr)(vs:List Value)(ep:Nat)(dc:Option Addr)(zs:Array (Option Value))(ba bb:Bool)
def lw_c:Con:=⟨lwCall sc,n,t,[(sc,oLg dc zs vs ep)],[],[],.ok .next,0,0,18⟩
def lw_X:Out:=xOf (wR w ba bb) fz0 (lw_c n t sc vs ep dc zs) [] [] 274 0 1 (lw_g bb)
def lw_xs:List (Addr×Obj):=[(n,fl2 w t (t+7) sc (n+1) #[]),(sc,oLg dc zs vs ep),(n+3,oL0 ((lw_it n t).map itV) 6)]++(lw_it n t).map itO
theorem lw_1:callL 18 17 [1,0,4,6,7,8,9,10,11] (lw_X w n t sc vs ep dc zs ba bb)=callR (rgCall 3 (t+8) (n+3)) (lw_xs w n t sc vs ep dc zs) (n+13) (t+21) [lwE w n] [] (lw_X w n t sc vs ep dc zs ba bb):=by
 cases ba<;>cases bb<;>kernel_rfl
variable (n1 t1:Nat)(sl:Array (Option Value))(A B:Int)(ta tb dtp:Nat)(A1 B1:Int)(ta1 tb1:Nat)(d1:Int)(td1 dt1:Nat)(A2 B2:Int)(ta2 tb2:Nat)(d2:Int)(td2 dt2:Nat)
def lw_C2:Con:=⟨.block [] default,n1,t1,[(n,fl2 w t (t+7) sc (n+1) sl),(sc,oLg dc zs vs ep)],[],[],.ok .next,0,0,18⟩
def lw_k2:List Con:=[cPool n1 (t1+1) sc vs ep dc zs t1 A B ta tb dtp,cDraw (n1+7) (t1+1+dtp+3) (n1+6) A B ta tb 0 5 (t1+1+dtp+2) A1 B1 ta1 tb1 d1 td1 dt1,cDraw (n1+8+5) (t1+1+dtp+3+dt1+5) (n1+6) A1 B1 ta1 tb1 0 12 (t1+1+dtp+3+dt1+4) A2 B2 ta2 tb2 d2 td2 dt2,cRIter (n1+14+1) (t1+1+dtp+3+dt1+5+dt2+3) (n1+14) (t1+1+dtp+3+dt1+5+dt2+1) (t1+1+dtp+3+dt1+5+dt2) (t1+1+dtp+3+dt1+5+dt2+2) (5+d2)]
def lw_Y:Out:=runS (vOf (wR w ba bb) fz0 (lw_C2 w n t sc vs ep dc zs n1 t1 sl) (lw_k2 sc vs ep dc zs n1 t1 A B ta tb dtp A1 B1 ta1 tb1 d1 td1 dt1 A2 B2 ta2 tb2 d2 td2 dt2) []) 148 (cfGo (tS (lw_X w n t sc vs ep dc zs ba bb)) (.ok (.ret (.bool true))) (lw_C2 w n t sc vs ep dc zs n1 t1 sl) lw_h)
def lw_ys:List (Addr×Obj):=[(n,fl5 w t (t+7) sc (n+1) (t1+1+dtp) (t1+1+dtp+3+dt1+1) (t1+1+dtp+3+dt1+2) (n1+6) (n1+8) (2+d1) (t1+1+dtp+3+dt1) sl),(n1+15,rIt 0 (5+d2)),(n1+6,oL [.int A2 ta2,.int B2 tb2] 0),(n1+8,oL0 [] 0),(sc,oLg dc zs vs ep)]
theorem lw_2:callL 18 7 [0,9,2,3,1] (lw_Y w n t sc vs ep dc zs ba bb n1 t1 sl A B ta tb dtp A1 B1 ta1 tb1 d1 td1 dt1 A2 B2 ta2 tb2 d2 td2 dt2)=callR (lwF w n (n1+15)) (lw_ys w n t sc vs ep dc zs n1 t1 sl dtp d1 dt1 A2 B2 ta2 tb2 d2) (n1+16) (t1+1+dtp+3+dt1+5+dt2+3) [lwE w n] [] (lw_Y w n t sc vs ep dc zs ba bb n1 t1 sl A B ta tb dtp A1 B1 ta1 tb1 d1 td1 dt1 A2 B2 ta2 tb2 d2 td2 dt2):=by
 cases ba<;>cases bb<;>kernel_rfl
variable (n2 t2:Nat)(so dl:Addr)(u3 u4 u5 u6 u7 tm:Nat)(v6 v7:Value)(mm:Int)(n3 t3:Nat)(sl2:Array (Option Value))
def lw_C3 (n2 t2:Nat):Con:=⟨.block [] default,n2,t2,[(n,fl7 w t (t+7) sc (n+1) u3 u4 u5 so dl mm tm u6 v6 u7 v7 sl)],[fl7 w t (t+7) sc (n+1) u3 u4 u5 so dl mm tm u6 v6 u7 v7 sl],[],.ok (.ret (.bool true)),0,0,18⟩
def lw_Z:Out:=runS (vOf (wR w ba bb) fz0 (lw_C3 w n t sc sl so dl u3 u4 u5 u6 u7 tm v6 v7 mm n2 t2) [] []) 15 (cfGo (tS (lw_Y w n t sc vs ep dc zs ba bb n1 t1 sl A B ta tb dtp A1 B1 ta1 tb1 d1 td1 dt1 A2 B2 ta2 tb2 d2 td2 dt2)) (.ok .next) (lw_C3 w n t sc sl so dl u3 u4 u5 u6 u7 tm v6 v7 mm n2 t2) [0,2,2,0,3])
theorem lw_3:callL 18 17 [0] (lw_Z w n t sc vs ep dc zs ba bb n1 t1 sl A B ta tb dtp A1 B1 ta1 tb1 d1 td1 dt1 A2 B2 ta2 tb2 d2 td2 dt2 n2 t2 so dl u3 u4 u5 u6 u7 tm v6 v7 mm)=callR (rgCall mm tm dl) [(n,fl7 w t (t+7) sc (n+1) u3 u4 u5 so dl mm tm u6 v6 u7 v7 sl)] n2 t2 [lwE w n] [] (lw_Z w n t sc vs ep dc zs ba bb n1 t1 sl A B ta tb dtp A1 B1 ta1 tb1 d1 td1 dt1 A2 B2 ta2 tb2 d2 td2 dt2 n2 t2 so dl u3 u4 u5 u6 u7 tm v6 v7 mm):=by
 cases ba<;>cases bb<;>kernel_rfl
def lw_W:Out:=runS (vOf (wR w ba bb) fz0 (lw_C3 w n t sc sl2 so dl u3 u4 u5 u6 u7 tm v6 v7 mm n3 t3) [] []) 10 (cfGo (tS (lw_Z w n t sc vs ep dc zs ba bb n1 t1 sl A B ta tb dtp A1 B1 ta1 tb1 d1 td1 dt1 A2 B2 ta2 tb2 d2 td2 dt2 n2 t2 so dl u3 u4 u5 u6 u7 tm v6 v7 mm)) (.ok (.ret (.bool true))) (lw_C3 w n t sc sl2 so dl u3 u4 u5 u6 u7 tm v6 v7 mm n3 t3) [])
theorem lw_4:FineO (lw_W w n t sc vs ep dc zs ba bb n1 t1 sl A B ta tb dtp A1 B1 ta1 tb1 d1 td1 dt1 A2 B2 ta2 tb2 d2 td2 dt2 n2 t2 so dl u3 u4 u5 u6 u7 tm v6 v7 mm n3 t3 sl2) []/\outOf (lw_C3 w n t sc sl2 so dl u3 u4 u5 u6 u7 tm v6 v7 mm n3 t3).pre.length [] (lw_W w n t sc vs ep dc zs ba bb n1 t1 sl A B ta tb dtp A1 B1 ta1 tb1 d1 td1 dt1 A2 B2 ta2 tb2 d2 td2 dt2 n2 t2 so dl u3 u4 u5 u6 u7 tm v6 v7 mm n3 t3 sl2)=some (.ok (.ret (.bool true)),stTo (lw_C3 w n t sc sl2 so dl u3 u4 u5 u6 u7 tm v6 v7 mm n3 t3) n3 t3):=
 ⟨by cases ba<;>cases bb<;>kernel_rfl,by cases ba<;>cases bb<;>kernel_rfl⟩
end
end
def fq (w:World)(t sc n n1 t1 dtp dt1:Nat)(d1:Int)(y6:Nat)(z6:Value)(y7:Nat)(z7:Value)(sl:Array (Option Value)):Obj:=fl7 w t (t+7) sc (n+1) (t1+1+dtp) (t1+1+dtp+3+dt1+1) (t1+1+dtp+3+dt1+2) (n1+6) (n1+8) (2+d1) (t1+1+dtp+3+dt1) y6 z6 y7 z7 sl
def cq (w:World)(t sc n n1 t1 dtp dt1:Nat)(d1:Int)(y6 y7:Nat)(z6 z7:Value)(sl:Array (Option Value))(n2 t2:Nat):Con:=lw_C3 w n t sc sl (n1+6) (n1+8) (t1+1+dtp) (t1+1+dtp+3+dt1+1) (t1+1+dtp+3+dt1+2) y6 y7 (t1+1+dtp+3+dt1) z6 z7 (2+d1) n2 t2
theorem lwE_frame (w:World) (L:Addr):(lwE w L).frame=some L:=by kernel_rfl
theorem lwE_fun (w:World) (L:Addr):(lwE w L).scope.kind≠ .module:=not_mod (by kernel_rfl)
theorem lw_good (n t:Nat):∀x∈lw_it n t,goodI x:=by
 refine ac (.inl rfl) (ac (.inl rfl) (ac (.inr (.inr (.inl rfl))) (ac (.inl rfl) (ac (.inl rfl) (all1 (.inl rfl))))))
theorem under_law {w:World} {W:World} {n:Addr} {o:Obj}{fs:List Env} {h:Heap}{xs os:List (Addr×Obj)} {Q:List (Addr×Obj)->Prop}{code:Code}{res:Result}{nd:Nat} (K:WeakC W nd code os res Q)(ho:∀vs,o.data≠ .fields vs)
  {B:Around} {R:Result->Shared->Prop} {g:Array GenState} {d:Drawn} {t:Nat} {oss:OsState} (hB:CtxOk B nd) (hf:B.frames=some (lwE w n::fs)) (W1:Wst W h ((n,o)::(xs++os)) fs)
  (hR:∀h' t' os' sl,Q os'->Wst W h' ((n,{o with slots:=sl})::(xs++os')) fs->Wrel ((n,o)::(xs++os)) ((n,{o with slots:=sl})::(xs++os')) fs h h'->R res ⟨h',g,d,t',oss⟩):codeAny (model P02 W) B code R ⟨h,g,d,t,oss⟩:=by
 have W2:=W1.push (env:=lwE w n) (lwE_frame w n) (lwE_fun w n) ho
 have W3:=W2.sub (os':=os) (fun q hq=>mem_append_right _ hq) (by
  have:=W2.nd
  rw[map_append] at this
  exact(nodup_append.mp this).2.1)
 refine K B ⟨h,g,d,t,oss⟩ _ hB hf W3 R fun h' t' os' q W4 x4=>?_
 have side:=Wst.side W2 W4 x4
 obtain⟨sl,W5,x5⟩:=W1.pop (lwE_frame w n) side.1 side.2
 exact hR h' t' os' sl q W5 x5
theorem law_ok {w:World}{ba bb:Bool}(DS:DeedsOk w ba bb){sc:Addr}{vs:List Value}{ep:Nat}{dc:Option Addr}{zs:Array (Option Value)}(hv:∀v∈vs,IsI v)(hl:vs.length<=63):
  WeakC (wR w ba bb) 18 (lwCall sc) [(sc,oLg dc zs vs ep),(1470,oF [])] (.ok (.ret (.bool true))) (fun os'=>∃tab:TabS,os'= [(sc,oLg dc zs vs ep),(1470,tab.obj)]):=by
 intro A s fs hA hf W R hR
 have E:=lw_1 w (hZ s) s.toks sc vs ep dc zs ba bb
 have hp:∀q∈(lw_c (hZ s) s.toks sc vs ep dc zs).pre,q∈[(sc,oLg dc zs vs ep),(1470,oF [])]:=all1 (.head _)
 have hn0:((lw_c (hZ s) s.toks sc vs ep dc zs).pre.map (·.1)).Nodup:=nodup_cons.mpr ⟨not_mem_nil,.nil⟩
 refine leg_start (C:=lw_c (hZ s) s.toks sc vs ep dc zs) (cons:=[]) (N:=274) (w0:=0) (u0:=1) (hs:=lw_g bb) (bs:=[]) (by kernel_rfl) (by kernel_rfl)
  (Prod.ext (congrArg (fun x:CallT=>x.2.1) E) (congrArg (fun x:CallT=>x.2.2.1) E)) nm nm hA W rfl rfl hp hn0 (cut_call E (by decide) hA hf W rfl hp fun B h hB hBf K W1 x1 hz=>?_)
 have er:restO [(sc,oLg dc zs vs ep),(1470,oF [])] [sc]= [(1470,oF [])]:=rest_app (pre:=[(sc,oLg dc zs vs ep)]) rfl W.nd
 have er':restO [(sc,oLg dc zs vs ep),(1470,oF [])] ((lw_c (hZ s) s.toks sc vs ep dc zs).pre.map (·.1))= [(1470,oF [])]:=er
 rw[er'] at W1 x1
 have sub1:∀q∈((hZ s),fl2 w s.toks (s.toks+7) sc ((hZ s)+1) #[])::([(sc,oLg dc zs vs ep)]++rgOs ((hZ s)+3) (lw_it (hZ s) s.toks) 6 .t0),q∈lw_xs w (hZ s) s.toks sc vs ep dc zs++[(1470,oF [])]:=fun q hq=>hq
 have W2:=W1.sub sub1 W1.nd
 have x2:=x1.sub sub1
 refine under_law (w:=w) (right_ok DS (lw_good _ _) (fun h=>by cases h) (by show 6<=20; omega) (m:=3) (tm:=s.toks+8) (by omega) (by omega) (tab:=.t0) (.inr ⟨_,_,rfl,rfl⟩)) (by intro vs h; cases h) hB hBf W2 fun h1 t1 os' sl hq W3 x3=>?_
 obtain⟨tab,htab,rfl⟩:=hq
 -- leg B
 obtain⟨P,Q,tp,tq,dtp,KP⟩:=pool_ok (w:=w) (ba:=ba) (bb:=bb) (fz:=fz0) h1.objs.size (t1+1) (sc:=sc) (vs:=vs) (ep:=ep) (dc:=dc) (zs:=zs) (k:=t1) hv hl
 obtain⟨A1,B1,ta1,tb1,d1,td1,dt1,p1,p2,K1⟩:=draw_ok (w:=w) (ba:=ba) (bb:=bb) (fz:=fz0) (h1.objs.size+7) (t1+1+dtp+3) (so:=h1.objs.size+6) (a:=P) (b:=Q) (ta:=tp) (tb:=tq) (ep:=0) (p:=5) (tp:=t1+1+dtp+2) (by omega) (by omega)
 obtain⟨A2,B2,ta2,tb2,d2,td2,dt2,q1,q2,K2⟩:=draw_ok (w:=w) (ba:=ba) (bb:=bb) (fz:=fz0) (h1.objs.size+8+5) (t1+1+dtp+3+dt1+5) (so:=h1.objs.size+6) (a:=A1) (b:=B1) (ta:=ta1) (tb:=tb1) (ep:=0) (p:=12) (tp:=t1+1+dtp+3+dt1+4) (by omega) (by omega)
 have E2:=lw_2 w (hZ s) s.toks sc vs ep dc zs ba bb h1.objs.size t1 sl P Q tp tq dtp A1 B1 ta1 tb1 d1 td1 dt1 A2 B2 ta2 tb2 d2 td2 dt2
 have W3:Wst (wR w ba bb) h1 ([((hZ s),fl2 w s.toks (s.toks+7) sc ((hZ s)+1) sl),(sc,oLg dc zs vs ep)]++rgOs ((hZ s)+3) (lw_it (hZ s) s.toks) 6 tab) fs:=W3
 have hp2:∀q∈(lw_C2 w (hZ s) s.toks sc vs ep dc zs h1.objs.size t1 sl).pre,q∈[((hZ s),fl2 w s.toks (s.toks+7) sc ((hZ s)+1) sl),(sc,oLg dc zs vs ep)]++rgOs ((hZ s)+3) (lw_it (hZ s) s.toks) 6 tab:=ac (.head _) (all1 (.tail _ (.head _)))
 have nd3:=W3.nd
 have hn2:((lw_C2 w (hZ s) s.toks sc vs ep dc zs h1.objs.size t1 sl).pre.map (·.1)).Nodup:=by
  rw[map_append] at nd3
  exact(nodup_append.mp nd3).1
 refine leg_go (C:=lw_C2 w (hZ s) s.toks sc vs ep dc zs h1.objs.size t1 sl) (cons:=lw_k2 sc vs ep dc zs h1.objs.size t1 P Q tp tq dtp A1 B1 ta1 tb1 d1 td1 dt1 A2 B2 ta2 tb2 d2 td2 dt2) (N:=148) (hs:=lw_h) (bs:=[]) (by kernel_rfl) (Prod.ext (congrArg (fun x:CallT=>x.2.1) E2) (congrArg (fun x:CallT=>x.2.2.1) E2))
  (ac KP (ac K1 (ac K2 (all1 (cRIter_ok (by omega) (by omega)))))) nm hA W3 rfl rfl hp2 hn2 K fun O=>?_
 refine cut_call E2 (by decide) hA hf W3 rfl hp2 fun B h2 hB hBf K W4 x4 hz=>?_
 have er2:restO ([((hZ s),fl2 w s.toks (s.toks+7) sc ((hZ s)+1) sl),(sc,oLg dc zs vs ep)]++rgOs ((hZ s)+3) (lw_it (hZ s) s.toks) 6 tab) ((lw_C2 w (hZ s) s.toks sc vs ep dc zs h1.objs.size t1 sl).pre.map (·.1))=rgOs ((hZ s)+3) (lw_it (hZ s) s.toks) 6 tab:=rest_app rfl nd3
 rw[er2] at W4 x4
 have sub4:∀q∈((hZ s),flB false w s.toks (s.toks+7) sc ((hZ s)+1) (t1+1+dtp) (t1+1+dtp+3+dt1+1) (t1+1+dtp+3+dt1+2) (h1.objs.size+6) (h1.objs.size+8) (2+d1) (t1+1+dtp+3+dt1) 0 .none 0 .none sl)::(h1.objs.size+15,rIt 0 ((5+d2.toNat:Nat):Int))::(h1.objs.size+6,oL [.int A2 ta2,.int B2 tb2] 0)::(h1.objs.size+8,oL0 (([]:List Item).map itV) 0)::(([]:List Item).map itO++((sc,oLg dc zs vs ep)::(1470,tab.obj)::tab.codes)),
   q∈lw_ys w (hZ s) s.toks sc vs ep dc zs h1.objs.size t1 sl dtp d1 dt1 A2 B2 ta2 tb2 d2++rgOs ((hZ s)+3) (lw_it (hZ s) s.toks) 6 tab:=fun q hq=>by
  rw[show((5+d2.toNat:Nat):Int)=5+d2 by omega] at hq
  rcases mem_cons.mp hq with rfl | hq
  ·exact .head _
  rcases mem_cons.mp hq with rfl | hq
  ·exact .tail _ (.head _)
  rcases mem_cons.mp hq with rfl | hq
  ·exact .tail _ (.tail _ (.head _))
  rcases mem_cons.mp hq with rfl | hq
  ·exact .tail _ (.tail _ (.tail _ (.head _)))
  rcases mem_cons.mp hq with rfl | hq
  ·exact .tail _ (.tail _ (.tail _ (.tail _ (.head _))))
  ·exact mem_append_right _ (.tail _ (mem_append_right _ hq))
 have W5:=W4.sub sub4 (by
  refine nodup_le W4.nd fun a=>?_
  unfold rgOs lw_ys
  simp only[map_append,map_cons,count_append,count_cons,map_nil,count_nil,nil_append]
  omega)
 have x5:=x4.sub sub4
 refine lawloop (w:=w) (ba:=ba) (bb:=bb) (fs:=fs) (m:=2+d1) ⟨by omega,by omega⟩ hB (5+d2.toNat) [] 0 0 A2 B2 ta2 tb2 false 0 0 .none .none ⟨h2,s.gens,s.drawn,_,s.os⟩ nm (.inr (by omega)) (by show 0+(5+d2.toNat)<=20; omega) W5 fun h3 t3 items j' ed A3 B3 ta3 tb3 y6 y7 z6 z7 hg hlen W6 x6=>?_
 have hlen:items.length=5+d2.toNat:=by rw[hlen]; exact Nat.zero_add _
 -- leg C
 have sub6:∀q∈((hZ s),fq w s.toks sc (hZ s) h1.objs.size t1 dtp dt1 d1 y6 z6 y7 z7 sl)::([(sc,oLg dc zs vs ep)]++rgOs (h1.objs.size+8) items ed tab),
   q∈((hZ s),fq w s.toks sc (hZ s) h1.objs.size t1 dtp dt1 d1 y6 z6 y7 z7 sl)::(h1.objs.size+15,rIt j' 0)::(h1.objs.size+6,oL [.int A3 ta3,.int B3 tb3] 0)::(h1.objs.size+8,oL0 (items.map itV) ed)::(items.map itO++((sc,oLg dc zs vs ep)::(1470,tab.obj)::tab.codes)):=fun q hq=>by
  rcases mem_cons.mp hq with rfl | hq
  ·exact .head _
  rcases mem_cons.mp hq with rfl | hq
  ·exact .tail _ (.tail _ (.tail _ (.tail _ (mem_append_right _ (.head _)))))
  rcases mem_cons.mp hq with rfl | hq
  ·exact .tail _ (.tail _ (.tail _ (.head _)))
  rcases mem_append.mp hq with hq | hq
  ·exact .tail _ (.tail _ (.tail _ (.tail _ (mem_append_left _ hq))))
  ·exact .tail _ (.tail _ (.tail _ (.tail _ (mem_append_right _ (.tail _ hq)))))
 have W7:=W6.sub sub6 (by
  refine nodup_le W6.nd fun a=>?_
  unfold rgOs
  simp only[map_append,map_cons,count_append,count_cons,map_nil,count_nil,nil_append,cons_append]
  omega)
 have x7:=x6.sub sub6
 have E3:=lw_3 w (hZ s) s.toks sc vs ep dc zs ba bb h1.objs.size t1 sl P Q tp tq dtp A1 B1 ta1 tb1 d1 td1 dt1 A2 B2 ta2 tb2 d2 td2 dt2 h3.objs.size t3 (h1.objs.size+6) (h1.objs.size+8) (t1+1+dtp) (t1+1+dtp+3+dt1+1) (t1+1+dtp+3+dt1+2) y6 y7 (t1+1+dtp+3+dt1) z6 z7 (2+d1)
 have hp3:∀q∈(cq w s.toks sc (hZ s) h1.objs.size t1 dtp dt1 d1 y6 y7 z6 z7 sl h3.objs.size t3).pre,q∈((hZ s),fq w s.toks sc (hZ s) h1.objs.size t1 dtp dt1 d1 y6 z6 y7 z7 sl)::([(sc,oLg dc zs vs ep)]++rgOs (h1.objs.size+8) items ed tab):=all1 (.head _)
 refine leg_go (C:=cq w s.toks sc (hZ s) h1.objs.size t1 dtp dt1 d1 y6 y7 z6 z7 sl h3.objs.size t3) (cons:=[]) (N:=15) (hs:=[0,2,2,0,3]) (bs:=[]) (by kernel_rfl) (Prod.ext (congrArg (fun x:CallT=>x.2.1) E3) (congrArg (fun x:CallT=>x.2.2.1) E3))
  nm nm hA W7 rfl rfl hp3 (nodup_cons.mpr ⟨not_mem_nil,.nil⟩) K fun O=>?_
 refine cut_call E3 (by decide) hA hf W7 rfl hp3 fun B h4 hB hBf K W8 x8 hz=>?_
 have W9:=W7.put W8 rfl (stays W7 hp3)
 have x9:=x8.put (stays W7 hp3)
 obtain⟨mm,hmm⟩:=Int.eq_ofNat_of_zero_le (show 0<=2+d1 by omega)
 have R9:=right_ok (w:=w) (ba:=ba) (bb:=bb) DS hg (fun h=>by rw[h] at hlen; simp at hlen; omega) (by omega) (m:=mm) (tm:=t1+1+dtp+3+dt1) (by omega) (by omega) (tab:=tab) (.inl htab) (dl:=h1.objs.size+8) (ep:=ed)
 rw[show((mm:Nat):Int)=2+d1 from hmm.symm] at R9
 refine under_law (w:=w) R9 (by intro vs h; cases h) hB hBf W9 fun h5 t5 os' sl2 hq W10 x10=>?_
 obtain⟨tab2,htab2,rfl⟩:=hq
 -- leg D
 obtain⟨e1,e2⟩:=lw_4 w (hZ s) s.toks sc vs ep dc zs ba bb h1.objs.size t1 sl P Q tp tq dtp A1 B1 ta1 tb1 d1 td1 dt1 A2 B2 ta2 tb2 d2 td2 dt2 h3.objs.size t3 (h1.objs.size+6) (h1.objs.size+8) (t1+1+dtp) (t1+1+dtp+3+dt1+1) (t1+1+dtp+3+dt1+2) y6 y7 (t1+1+dtp+3+dt1) z6 z7 (2+d1) h5.objs.size t5 sl2
 have hp4:∀q∈(cq w s.toks sc (hZ s) h1.objs.size t1 dtp dt1 d1 y6 y7 z6 z7 sl2 h5.objs.size t5).pre,q∈((hZ s),fq w s.toks sc (hZ s) h1.objs.size t1 dtp dt1 d1 y6 z6 y7 z7 sl2)::([(sc,oLg dc zs vs ep)]++rgOs (h1.objs.size+8) items ed tab2):=all1 (.head _)
 refine leg_go (C:=cq w s.toks sc (hZ s) h1.objs.size t1 dtp dt1 d1 y6 y7 z6 z7 sl2 h5.objs.size t5) (cons:=[]) (N:=10) (hs:=[]) (bs:=[]) (by kernel_rfl) e1
  nm nm hA W10 rfl rfl hp4 (nodup_cons.mpr ⟨not_mem_nil,.nil⟩) K fun O=>?_
 refine cut_done (ni:=[]) e2 rfl rfl (by kernel_rfl) W10 rfl hp4 (nodup_cons.mpr ⟨not_mem_nil,.nil⟩) fun h6 W11 x11=>?_
 have W12:=W10.put W11 rfl (stays W10 hp4)
 have x12:=x11.put (stays W10 hp4)
 have sub12:∀q∈[(sc,oLg dc zs vs ep),(1470,tab2.obj)],q∈((hZ s),fq w s.toks sc (hZ s) h1.objs.size t1 dtp dt1 d1 y6 z6 y7 z7 sl2)::([(sc,oLg dc zs vs ep)]++rgOs (h1.objs.size+8) items ed tab2):=
  ac (.tail _ (.head _)) (all1 (.tail _ (.tail _ (.tail _ (mem_append_right _ (.head _))))))
 exact hR h6 _ _ ⟨tab2,rfl⟩ (W12.sub sub12 (by
  refine nodup_le W12.nd fun a=>?_
  unfold rgOs
  simp only[map_append,map_cons,count_append,count_cons,map_nil,count_nil,nil_append,cons_append]
  omega)) ((x2.trans (x3.trans (x5.trans (x7.trans (x9.trans (x10.trans x12)))))).sub sub12)
theorem deeds_ok (w:World)(ba bb:Bool):DeedsOk w ba bb:=by
 intro c σ k x I hk hg ht
 obtain⟨tu,way,tw,p,tp⟩:=x
 dsimp only at hg ht ⊢
 unfold goodI at hg
 dsimp only at hg
 have set_of:way≠Str.ofString "connect"->σ.tab.set=true:=fun h=>ht.resolve_right h
 rcases hg with rfl | ⟨rfl,p1,p2⟩ | rfl | rfl
 ·rcases I.ports with⟨r,h1,h2,h3,h4,h5,h6⟩ | ⟨z,h1,h2,h3,h4⟩
  ·cases e:σ.tab with
   | t0=>exact dcS_deed I hk e h1 h2 h3 h4 h5
   | t1=>exact dcT_deed I hk (by rw[e]; rfl) h1 h2 h3 h4 h5
   | t2=>exact dcT_deed I hk (by rw[e]; rfl) h1 h2 h3 h4 h5
  ·have hset:σ.tab.set=true:=by
    cases e:σ.tab with
    | t1=>rfl
    | t2=>rfl
    | t0=>
     exfalso
     have tb:=I.tb
     unfold tabFit at tb
     rw[e] at tb
     obtain⟨hu,hv⟩:=tb
     have e1:σ.lt= []:=by unfold Sg.lt; rw[hu]; rfl
     have e2:σ.lc= []:=by unfold Sg.lc; rw[hu]; rfl
     have e3:σ.ll= []:=by unfold Sg.ll; rw[hv]; rfl
     obtain⟨m,hm⟩:∃m,c.m=m+1:=⟨c.m - 1,by have:=I.m2; omega⟩
     have f:freeP [] (28+(c.m:Int)) c.m σ.x=some σ.x:=by rw[hm]; rfl
     rcases h4 with⟨q,_⟩ | q
     ·rw[e1,f] at q; cases q
     ·rw[e1,e2,e3] at q
      have:ownU [] [] [] (28+(c.m:Int)) c.m c.m σ.x=none:=by
       conv=>lhs; arg 6; rw[hm]
       show(match freeP [] (28+(c.m:Int)) c.m σ.x with
        | none=>none
        | some r=>if usedB [] [] r then ownU [] [] [] (28+(c.m:Int)) c.m m (behP (28+(c.m:Int)) r) else none)=none
       rw[f]
       rfl
      rw[this] at q; cases q
   exact dtX_deed I hk hset h1 h2 h3 h4
 ·have hs:=set_of (by decide)
  cases e:σ.tab with
  | t0=>rw[e] at hs; cases hs
  | t1 cl NL ML=>
   refine dlS_deed I hk ?_ p1 p2 e
   have tb:=I.tb
   unfold tabFit at tb
   rw[e] at tb
   unfold Sg.uP
   rw[show σ.vs= [] from tb]
   rfl
  | t2 cl NL ML cm NM MM=>
   cases q:σ.uP p with
   | false=>exact dlT_deed I hk q p1 p2 e
   | true=>exact dmX_deed I hk q p1 p2 e
 ·have hs:=set_of (by decide)
  by_cases q:σ.us= []
  ·exact dgE_deed I hk hs q
  ·exact dg_deed I hk hs q
 ·have hs:=set_of (by decide)
  by_cases q:σ.vs= []
  ·exact dkE_deed I hk hs q
  ·exact dkA_deed I hk hs q
def isListO (o:Obj):Bool:=match o.cls with
 | .type s=>decide (s="list")
 | _=>false
def listsIn (P:Params) (n:Nat):List Nat:=(List.range n).filter fun a=>match (tr2_3 P).get a with
 | some o=>isListO o
 | none=>false
theorem noList (P:Params):listsIn P 1486= []:=by kernel_rfl
theorem base_at {P:Params} {a:Nat} {o:Obj} (h:baseLook P a=some o):a < 1486/\∃o1,(tr2_3 P).get a=some o1/\alive o1=some o:=by
 have l:=baseLook_lt h
 refine⟨l,?_⟩
 unfold baseLook at h
 cases q:Nat.beq a 1470 with
 | true=>rw[q] at h; cases h
 | false=>
  rw[q] at h
  cases p:Nat.blt a 1486 with
  | false=>rw[p] at h; cases h
  | true=>
   rw[p] at h
   cases r:(tr2_3 P).get a with
   | none=>rw[r] at h; cases h
   | some o1=>rw[r] at h; exact⟨o1,rfl,h⟩
theorem alive_is {o o1:Obj} (h:alive o1=some o):o=o1:=by
 unfold alive at h
 split at h
 ·cases h
 ·exact(Option.some.inj h).symm
theorem base_top {w:World} {h:Heap} (Y:YP02 w h):∀a o,baseLook w.params a=some o->h.get? a=some o:=fun a o e=>by
 obtain⟨l,o1,h1,h2⟩:=base_at e
 exact Y a o ((abs_get (life:={}) l h1).trans h2)
theorem tab_at (w:World) {h:Heap} (Y:YP02 w h):h.get? 1470=some (oF []):=by
 have e:(H02 w.params).get? 1470=some (oF []):=(abs_get (t:=tr2_3 w.params) (n:=1486) (life:={}) (a:=1470) (o:=oF []) (by decide) (by kernel_rfl)).trans rfl
 exact Y _ _ e
def ob1472 (P:Params):Obj:=match baseLook P 1472 with
 | some o=>o
 | none=>default
def vs1472 (P:Params):Array Value:=match (ob1472 P).data with
 | .fields vs=>vs
 | _=>#[]
theorem isTable_at {w:World} {h:Heap} (Y:YP02 w h):isCodeTable h 1470:=
 ⟨1472,ob1472 w.params,vs1472 w.params,base_top Y _ _ (by kernel_rfl),by kernel_rfl,by kernel_rfl,by kernel_rfl⟩
noncomputable def TabS.more:TabS->Array Value
 | .t0=>#[]
 | .t1 cl _ _=>#[.int 983 0,.int 32 0,.ref cl]
 | .t2 cl _ _ cm _ _=>#[.int 983 0,.int 32 0,.ref cl,.int 989 0,.int 37 0,.ref cm]
theorem TabS.more_is (tab:TabS):tab.obj={oF [] with data:=.fields (#[]++tab.more)}:=by cases tab<;>rfl
theorem law02_walk (w:World)(s₁:Shared) (L:Addr) (o:Obj)(xs:Array Value) (n:Nat) (Y:YP02 w s₁.heap)(hg:s₁.gens=#[])(ho:s₁.heap.get? L=some o)(hc:o.cls=.type "list")(hd:o.data=.seq xs n)
  (hi:∀x∈xs.toList,∃z t,x=.int z t) (hs:xs.size<=63):
  wpAny (model R02.toRowW.prog w) callerA (PySem.call (.ref 1485) [.ref L]) (fun v s'=>v=.bool true/\OldK s₁.heap s'.heap/\s'.os=s₁.os/\s'.gens=#[]) (fun _ _=>False) s₁:=by
 obtain⟨ba,bb,hw⟩:=wR_is w
 have main:wpAny (model P02 (wR w ba bb)) callerA (PySem.call (.ref 1485) [.ref L]) (fun v s'=>v=.bool true/\OldK s₁.heap s'.heap/\s'.os=s₁.os/\s'.gens=#[]) (fun _ _=>False) s₁:=by
  have Y':YP02 (wR w ba bb) s₁.heap:=hw.symm▸Y
  have ht:=tab_at _ Y'
  have eo:o=oLg o.dict o.slots xs.toList n:=by
   obtain⟨c1,c2,c3,c4⟩:=o
   dsimp only at hc hd
   subst hc
   subst hd
   rfl
  have hL:baseLook (wR w ba bb).params L=none:=by
   cases q:baseLook (wR w ba bb).params L with
   | none=>rfl
   | some o'=>
    exfalso
    obtain⟨l,o1,h1,h2⟩:=base_at q
    have e:=base_top Y' _ _ q
    rw[ho] at e
    cases e
    have e1:=alive_is h2
    subst e1
    have:L∈listsIn (wR w ba bb).params 1486:=mem_filter.mpr ⟨List.mem_range.mpr l,by
     rw[h1]
     unfold isListO
     dsimp only
     rw[hc]
     exact decide_eq_true rfl⟩
    rw[noList] at this
    cases this
  have hne:L≠1470:=fun e=>by
   rw[e,ht] at ho
   cases ho
   cases hc
  have W:Wst (wR w ba bb) s₁.heap [(L,oLg o.dict o.slots xs.toList n),(1470,oF [])] []:=by
   refine⟨base_top Y',ac (eo▸ho) (all1 ht),?_,ac hL (all1 (by cases ba<;>cases bb<;>rfl)),trivial,(fun a ha=>nomatch ha),(fun a ha=>nomatch ha)⟩
   exact nodup_cons.mpr ⟨fun h=>hne (mem_singleton.mp h),nodup_cons.mpr ⟨not_mem_nil,.nil⟩⟩
  refine wpAny_call (law_ok (deeds_ok w ba bb) (sc:=L) (vs:=xs.toList) (ep:=n) (dc:=o.dict) (zs:=o.slots) hi (by rw[Array.length_toList]; exact hs) callerA s₁ [] ⟨rfl,by decide,by decide⟩ rfl W _ fun h' t' os' hos W' x=>?_)
  obtain⟨tab,rfl⟩:=hos
  have h1:=W'.at_ _ (.head _)
  have h2:=W'.at_ _ (.tail _ (.head _))
  refine⟨rfl,⟨fun b o' e=>?_,fun b o' e=>?_⟩,rfl,hg⟩
  ·by_cases q:b=1470
   ·subst q
    rw[ht] at e
    cases e
    exact .inr (.inl ⟨isTable_at Y',rfl,#[],tab.more,rfl,h2.trans (congrArg some tab.more_is)⟩)
   ·refine .inl ?_
    by_cases q':b=L
    ·subst q'
     rw[ho] at e
     cases e
     rw[eo]
     exact h1
    ·exact x.keep b o' e (fun hm=>by
      have hm:b∈[L,1470]:=hm
      simp only[mem_cons,not_mem_nil,or_false] at hm
      exact hm.elim q' q) fun hm=>nomatch hm
  ·by_cases q:b=1470
   ·subst q; exact⟨_,h2⟩
   ·by_cases q':b=L
    ·subst q'; exact⟨_,h1⟩
    ·exact⟨_,x.keep b o' e (fun hm=>by
      have hm:b∈[L,1470]:=hm
      simp only[mem_cons,not_mem_nil,or_false] at hm
      exact hm.elim q' q) fun hm=>nomatch hm⟩
 rw[hw] at main
 exact main
theorem law02_holds:PySem.Challenge.rw_qz0163_02.Holds:=law02_of law02_walk
end Mine
end
theorem PySem.Challenge.cw_qz0163_02_holds : PySem.Challenge.rw_qz0163_02.Holds := by
  exact Mine.law02_holds
