import PyProof.Rows.All
import Wide.All
import OpenK.AllK
import Wide.FinOn
import KE.KxMul
import KE.KNest
import KE.KSliceW
import KE.KRevSl
import ObjForm.ListNI
import KE.KDictOf
import PyProof.AttrMissHeap
import KE.FramesApart
import PySem.Challenge.RW_up0061_01
set_option Elab.async false
set_option linter.unusedVariables false
set_option genSizeOf false
set_option bootstrap.genMatcherCode false
open PySem.Str renaming ofString→aa
open PySem renaming wpAny_bind→ab,wpAny_mono→af,wpAny_pure→ag,Shared→ak,OsState→aD,wpAny_holding→aF,Around→aI,NameKind→aK,mainGlobals→aX,wpAny_standAt→aZ,wpAny_field→bk,binaryOp→bp,wpAny_call_entry→bx,wpAny_seqItems→bI,wpAny_callSpecial?_slot→bK,IsPair→bM,arm_eval_Call_Name'→bQ
open Option.some renaming inj→ac,injEq→bg
open PySem.W renaming boot_drawn→ad
open Option renaming casesOn→ae,map_some→aR,isSome_iff_exists→bj
open Array renaming mk→ah,length_toList→am
open PySem.Heap renaming get?_push_of_some→ai,get?_push_size→ax,SameBut→bY,get?_update_other→ce
open Nat renaming le_of_ble_eq_true→aj,eq_of_beq_eq_true→aw,beq→aA,le_refl→aG,le_trans→aJ,casesOn→aU,ne_of_lt→aV,lt_of_lt_of_le→ba,ble→be,lt_of_le_of_lt→bo,not_lt→bq,lt_succ_self→bu,le_add_right→bJ
open Bool renaming casesOn→ao,and_eq_true→az,and_eq_true_iff→bX
open PySem.W.Fast renaming te2368527892694137696→aq,te3471404346716756564→aM,sDec_eq→aO,te18344453789297297638→bR,te17119622794617984870→bS,te10792542408131684335→bT
open PySem.W.SharedT renaming abs→au
open List renaming casesOn→av,mem_singleton→aB,lookup_cons→aC,mem_cons→aE,mem_cons_of_mem→aH,all_eq_true→aL,mem_cons_self→aP,mem_of_getElem?→bc,length_cons→bh,zip_cons_cons→bn,nodup_cons→br,getElem?_eq_getElem→bw,not_mem_of_not_mem_cons→bz,pairwise_cons→bC,ne_of_not_mem_cons→bD,map_cons→bE,not_mem_nil→bG,length_drop→bH,all_cons→bL,getElem?_map→bZ,take_of_length_le→cc
open Int renaming le_trans→aN,ofNat→aQ,natCast_nonneg→bW
open PySem.Env renaming kindOf→aS
open PySem.Builtin.SmallTypes renaming nextOf→aT,ownedTupleIsFree→aW
open PySem.W.R renaming allR_eq→aY
open PySem.Heap.SameBut renaming update→bl
open PySem.Builtin.Tuple renaming tupleHashOf→bF
open PySem.Builtin.Range renaming rangeSize→bP
open PySem.Obj renaming putNameByArray→bU
set_option maxRecDepth 100000
set_option maxHeartbeats 0
namespace Mine
open PySem PySem.W
noncomputable section
noncomputable abbrev pw:Program:=PySem.Challenge.pw_up0061_01
noncomputable def A6 (i:Nat):Stmt:=match pw.main.body.drop i with | s::_=>s | []=>.Pass default
noncomputable def F8i:Stmt->List Stmt | .ClassDef _ _ _ b _ _ _ _ _ _ _=>b | _=>[]
noncomputable def mth (i j:Nat):Stmt:=match (F8i (A6 i)).drop j with | s::_=>s | []=>.Pass default
noncomputable def nmS:Stmt->Str | .FunctionDef n _ _ _ _ _ _ _ _ _=>n | _=>Str.empty
noncomputable def prS:Stmt->Arguments | .FunctionDef _ a _ _ _ _ _ _ _ _=>a | _=>default
noncomputable def bdS:Stmt->List Stmt | .FunctionDef _ _ b _ _ _ _ _ _ _=>b | _=>[]
noncomputable def scS:Stmt->Scope | .FunctionDef _ _ _ _ _ _ s _ _ _=>s | _=>default
noncomputable def vs (x:String) (t:Nat):Value:=.str (aa x) t
noncomputable def en (P:Params) (x:String) (t:Nat) (v:Value):DictEntry:=⟨PyData.keyHash P (aa x),.str (aa x) t,v⟩
noncomputable def tp (l:List Value):Obj:=⟨.type "tuple",none,.seq ⟨l⟩ 0,#[]⟩
noncomputable def tb (l:List Value):Obj:=⟨.none,none,.fields ⟨l⟩,#[]⟩
noncomputable def fl (c:String) (l:List Value):Obj:=⟨.type c,none,.fields ⟨l⟩,#[]⟩
noncomputable def fm (l:List (Option Value)):Obj:=⟨.type "frame",none,.plain,⟨l⟩⟩
noncomputable def di (l:List DictEntry) (n:Nat):Obj:=⟨.type "dict",none,.dict ⟨l⟩ n,#[]⟩
noncomputable def fr (s:Stmt) (q:String):Obj:=⟨.none,none,.func { name:=nmS s,qualname:=aa q,params:=prS s,body:=.stmts (bdS s),scope:=scS s,globals:=0,closure:=[],defaults:=.none,kwdefaults:=.none },#[]⟩
noncomputable def fu (s:Stmt) (q:String) (d m c:Value):Obj:=⟨.type "function",none,.func { name:=nmS s,qualname:=aa q,params:=prS s,body:=.stmts (bdS s),scope:=scS s,globals:=3,closure:=[],defaults:=d,kwdefaults:=.none,doc:=.none,pyModule:=m,annotations:=none,code:=c,closureTuple:=.none,builtins:=0 },#[]⟩
noncomputable def cl (n:String) (bs mro:List Value) (ns:Nat) (subs:List Value) (sl:List (Option Value)):Obj:=⟨.type "type",none,.cls { name:=aa n,bases:=bs,mro:=mro,ns:=ns,qualname:=aa n,hasDict:=true,slotNames:=[],subclasses:=subs,abstract:=false,collection:=none,hasDel:=false },⟨sl⟩⟩
noncomputable def F0w:List DictEntry->Nat->Value->List DictEntry
 | [],_,_=>[]
 | e::r,0,v=>⟨e.hash,e.key,v⟩::r
 | e::r,i + 1,v=>e::F0w r i v
noncomputable def du (chg:List (Nat×Value)) (new:List DictEntry) (o:Obj):Obj:=match o with
 | ⟨c,d,.dict es n,s⟩=>⟨c,d,.dict ⟨(chg.foldl (λl p=>F0w l p.1 p.2) es.toList)++new⟩ (n + new.length),s⟩
 | o=>o
noncomputable def tu (l:List Value) (o:Obj):Obj:=match o with
 | ⟨c,d,.fields vs,s⟩=>⟨c,d,.fields ⟨vs.toList++l⟩,s⟩
 | o=>o
inductive OT where
 | nil | node (f:Option (Obj->Obj)) (l r:OT)
noncomputable def OT.put:Nat->OT->Nat->(Obj->Obj)->OT
 | 0,t,_,_=>t
 | n + 1,.nil,i,o=>match aA i 0 with
  | true=>.node (some o) .nil .nil
  | false=>match aA (i % 2) 1 with
   | true=>.node none (OT.put n .nil (i / 2) o) .nil
   | false=>.node none .nil (OT.put n .nil (i / 2 - 1) o)
 | n + 1,.node v l r,i,o=>match aA i 0 with
  | true=>.node (some o) l r
  | false=>match aA (i % 2) 1 with
   | true=>.node v (OT.put n l (i / 2) o) r
   | false=>.node v l (OT.put n r (i / 2 - 1) o)
noncomputable def ap (f:Option (Obj->Obj)) (o:Obj):Obj:=match f with | some f=>f o | none=>o
noncomputable def F0:OT->BT->BT
 | .nil,t=>t
 | .node f l r,.node v l' r'=>.node (ap f v) (F0 l l') (F0 r r')
 | .node f l r,.nil=>.node (ap f default) (F0 l .nil) (F0 r .nil)
noncomputable def S0 (l:List (Nat×(Obj->Obj))):OT:=l.foldl (λt p=>t.put 14 p.1 p.2) .nil
noncomputable def F0o (P:Params):BT:=F0 (S0 [(0,λ_=>boot_o_0 P),(1,λ_=>boot_o_1 P),(2,λ_=>boot_o_2 P),(3,λ_=>boot_o_3 P),(4,λ_=>boot_o_4 P),(5,λ_=>boot_o_5 P),(6,λ_=>boot_o_6 P),(7,λ_=>boot_o_7 P),(8,λ_=>boot_o_8 P),(9,λ_=>boot_o_9 P),(10,λ_=>boot_o_10 P)]) .nil
noncomputable def lf:Life:={}
noncomputable def B2y:Env:={ scope:=pw.main.scope,locals:=mainNs,globals:=mainNs,cells:=[],code:=.ref 13,frame:=some 14 }
noncomputable def cE:Code:=.body (behindTheImports pw) B2y
noncomputable abbrev F4 (p:Program) (w:World):=PySem.W.Fast.tw10110043849684766642 PySem.W.Fast.tw14364793385576792824 p w 11 (some (.ref 6)) 1
noncomputable def Q2 (l:List Stmt) (pos:Pos):Thread:=⟨(PySem.W.Fast.tw12563942051412417395 l B2y:Sem Flow).wrap doneF deadEnd id id,cE,pos,[topFrame ⟨0,0,0,0⟩]⟩
noncomputable abbrev LO:=List (Nat×(Obj->Obj))
noncomputable def bf:String:="builtin_function_or_method"
noncomputable def zi (n:Int):Value:=.int n 0
noncomputable def rf (n:Nat):Value:=.ref n
noncomputable def sr (n:Nat):Option Value:=some (.ref n)
noncomputable def rz:Nat->Value
 | 0=>.none
 | n + 1=>.ref (n + 1)
noncomputable def kk (n:Nat) (o:Obj):Nat×(Obj->Obj):=(n,λ_=>o)
noncomputable def kt (n:Nat):Nat×(Obj->Obj):=(n,λ_=>tp [])
noncomputable def kb (n:Nat):Nat×(Obj->Obj):=(n,λ_=>tb [])
noncomputable def co (A Q:String) (t:Nat) (L F X:Int) (T:Nat) (B:Bool) (p a b c m:Nat):Obj:=fl "code" [vs A t,vs Q (t + 1),vs "/claim/cut.py" (t + 2),.int L 0,.int F 0,.int 0 0,.int 0 0,.int X 0,.ref T,.bool B,.int 181 0,.ref p,.none,rz a,rz b,rz c,.int (aQ m) 0,.int L 0,vs "/claim/cut.py" (m + 1)]
noncomputable def F6v (P:Params):LO:=[kt 11,kb 12,kk 13 (co "<module>" "<module>" 182 1 0 0 11 false 12 0 0 0 185),kk 14 (fm [sr 13,sr 3,sr 3,none,some (vs "__main__" 164),none,sr 0])]
noncomputable def T0 (P:Params):BT:=F0 (S0 (F6v P)) (F0o P)
noncomputable def d0 (P:Params):LO:=[(3,du [(0,vs "lendcore.errors" 194)] [en P "_wall" 193 (.ref 21),en P "LendError" 227 (.ref 39)]),(12,tu [zi 1,zi 0,rf 20,zi 5,zi 0,rf 27]),kt 15,kb 16,kk 17 (tp [vs "k" 190]),kt 18,kk 19 (fr (A6 0) "_wall"),kk 20 (co "_wall" "_wall" 187 1 1 3 15 true 16 17 18 19 191),kk 21 (fu (A6 0) "_wall" (.none) (vs "__main__" 164) (.ref 20)),(2,du [] [en P "type.__subclasses__.Exception.0" 224 (.int 39 0),en P "type.__subclasses__.Exception.n" 225 (.int 1 0)]),kk 22 (tp [.type "Exception"]),kk 23 (fl bf [.builtin "type.__prepare__",.type "type"]),kk 24 (di [en P "__module__" 203 (vs "lendcore.errors" 194),en P "__qualname__" 205 (vs "LendError" 204),en P "__firstlineno__" 207 (.int 5 206),en P "__init__" 217 (.ref 36),en P "__static_attributes__" 220 (.ref 37)] 5),kt 25,kk 26 (tb [zi 7,zi 4,rf 35]),kk 27 (co "LendError" "LendError" 198 5 0 0 25 false 26 0 0 0 201),kk 28 (fm [sr 27,sr 3,sr 24,none,some (vs "lendcore.errors" 194),none,sr 0]),kk 29 (tp [.int 0 208]),kt 30,kb 31,kk 32 (tp [vs "self" 212,vs "message" 213,vs "spot" 214]),kt 33,kk 34 (fr (mth 2 0) "LendError.__init__"),kk 35 (co "__init__" "LendError.__init__" 209 7 3 3 30 true 31 32 33 34 215),kk 36 (fu (mth 2 0) "LendError.__init__" (.ref 29) (vs "lendcore.errors" 194) (.ref 35)),kk 37 (tp [vs "message" 218,vs "spot" 219]),kk 38 (di [en P "__module__" 203 (vs "lendcore.errors" 194),en P "__firstlineno__" 207 (.int 5 206),en P "__init__" 217 (.ref 36),en P "__static_attributes__" 220 (.ref 37),en P "__weakref__" 222 (.ref 40),en P "__doc__" 223 (.none)] 3),kk 39 (cl "LendError" [.type "Exception"] [rf 39,.type "Exception",.type "BaseException",.type "object"] 38 [] [sr 22,none,some (vs "LendError" 196),some (vs "LendError" 204),some (.builtin "Exception.__new__"),some (.bool true)]),kk 40 (fl "getset_descriptor" [vs "__weakref__" 221,rf 39,.builtin "ExceptionGroup.__weakref__",.none]),kk 41 (fl "super" [rf 39,rf 39,rf 39]),kk 42 (fl bf [.builtin "object.__init_subclass__",rf 39])]
noncomputable def T1 (P:Params):BT:=F0 (S0 (d0 P)) (T0 P)
noncomputable def d1 (P:Params):LO:=[(3,du [] [en P "TypeFault" 243 (.ref 52)]),(12,tu [zi 11,zi 0,rf 48]),kk 39 (cl "LendError" [.type "Exception"] [rf 39,.type "Exception",.type "BaseException",.type "object"] 38 [rf 52] [sr 22,none,some (vs "LendError" 196),some (vs "LendError" 204),some (.builtin "Exception.__new__"),some (.bool true)]),kk 43 (tp [rf 39]),kk 44 (fl bf [.builtin "type.__prepare__",.type "type"]),kk 45 (di [en P "__module__" 235 (vs "lendcore.errors" 194),en P "__qualname__" 237 (vs "TypeFault" 236),en P "__firstlineno__" 239 (.int 11 238),en P "__static_attributes__" 240 (.ref 50)] 4),kt 46,kb 47,kk 48 (co "TypeFault" "TypeFault" 230 11 0 0 46 false 47 0 0 0 233),kk 49 (fm [sr 48,sr 3,sr 45,none,some (vs "lendcore.errors" 194),none,sr 0]),kt 50,kk 51 (di [en P "__module__" 235 (vs "lendcore.errors" 194),en P "__firstlineno__" 239 (.int 11 238),en P "__static_attributes__" 240 (.ref 50),en P "__doc__" 241 (.none)] 2),kk 52 (cl "TypeFault" [rf 39] [rf 52,rf 39,.type "Exception",.type "BaseException",.type "object"] 51 [] [sr 43,none,some (vs "TypeFault" 228),some (vs "TypeFault" 236),some (.builtin "Exception.__new__"),some (.bool true)]),kk 53 (fl "super" [rf 52,rf 52,rf 52]),kk 54 (fl bf [.builtin "object.__init_subclass__",rf 52])]
noncomputable def T2 (P:Params):BT:=F0 (S0 (d1 P)) (T1 P)
noncomputable def d2 (P:Params):LO:=[(3,du [] [en P "TraitFault" 259 (.ref 64)]),(12,tu [zi 13,zi 0,rf 60]),kk 39 (cl "LendError" [.type "Exception"] [rf 39,.type "Exception",.type "BaseException",.type "object"] 38 [rf 52,rf 64] [sr 22,none,some (vs "LendError" 196),some (vs "LendError" 204),some (.builtin "Exception.__new__"),some (.bool true)]),kk 55 (tp [rf 39]),kk 56 (fl bf [.builtin "type.__prepare__",.type "type"]),kk 57 (di [en P "__module__" 251 (vs "lendcore.errors" 194),en P "__qualname__" 253 (vs "TraitFault" 252),en P "__firstlineno__" 255 (.int 13 254),en P "__static_attributes__" 256 (.ref 62)] 4),kt 58,kb 59,kk 60 (co "TraitFault" "TraitFault" 246 13 0 0 58 false 59 0 0 0 249),kk 61 (fm [sr 60,sr 3,sr 57,none,some (vs "lendcore.errors" 194),none,sr 0]),kt 62,kk 63 (di [en P "__module__" 251 (vs "lendcore.errors" 194),en P "__firstlineno__" 255 (.int 13 254),en P "__static_attributes__" 256 (.ref 62),en P "__doc__" 257 (.none)] 2),kk 64 (cl "TraitFault" [rf 39] [rf 64,rf 39,.type "Exception",.type "BaseException",.type "object"] 63 [] [sr 55,none,some (vs "TraitFault" 244),some (vs "TraitFault" 252),some (.builtin "Exception.__new__"),some (.bool true)]),kk 65 (fl "super" [rf 64,rf 64,rf 64]),kk 66 (fl bf [.builtin "object.__init_subclass__",rf 64])]
noncomputable def T3 (P:Params):BT:=F0 (S0 (d2 P)) (T2 P)
noncomputable def d3 (P:Params):LO:=[(3,du [] [en P "MachineFault" 285 (.ref 83)]),(12,tu [zi 15,zi 0,rf 72]),kk 39 (cl "LendError" [.type "Exception"] [rf 39,.type "Exception",.type "BaseException",.type "object"] 38 [rf 52,rf 64,rf 83] [sr 22,none,some (vs "LendError" 196),some (vs "LendError" 204),some (.builtin "Exception.__new__"),some (.bool true)]),kk 67 (tp [rf 39]),kk 68 (fl bf [.builtin "type.__prepare__",.type "type"]),kk 69 (di [en P "__module__" 267 (vs "lendcore.errors" 194),en P "__qualname__" 269 (vs "MachineFault" 268),en P "__firstlineno__" 271 (.int 15 270),en P "__init__" 280 (.ref 80),en P "__static_attributes__" 282 (.ref 81)] 5),kt 70,kk 71 (tb [zi 17,zi 4,rf 79]),kk 72 (co "MachineFault" "MachineFault" 262 15 0 0 70 false 71 0 0 0 265),kk 73 (fm [sr 72,sr 3,sr 69,none,some (vs "lendcore.errors" 194),none,sr 0]),kt 74,kb 75,kk 76 (tp [vs "self" 275,vs "kind" 276,vs "message" 277]),kt 77,kk 78 (fr (mth 5 0) "MachineFault.__init__"),kk 79 (co "__init__" "MachineFault.__init__" 272 17 3 3 74 true 75 76 77 78 278),kk 80 (fu (mth 5 0) "MachineFault.__init__" (.none) (vs "lendcore.errors" 194) (.ref 79)),kk 81 (tp [vs "kind" 281]),kk 82 (di [en P "__module__" 267 (vs "lendcore.errors" 194),en P "__firstlineno__" 271 (.int 15 270),en P "__init__" 280 (.ref 80),en P "__static_attributes__" 282 (.ref 81),en P "__doc__" 283 (.none)] 2),kk 83 (cl "MachineFault" [rf 39] [rf 83,rf 39,.type "Exception",.type "BaseException",.type "object"] 82 [] [sr 67,none,some (vs "MachineFault" 260),some (vs "MachineFault" 268),some (.builtin "Exception.__new__"),some (.bool true)]),kk 84 (fl "super" [rf 83,rf 83,rf 83]),kk 85 (fl bf [.builtin "object.__init_subclass__",rf 83])]
noncomputable def T4 (P:Params):BT:=F0 (S0 (d3 P)) (T3 P)
noncomputable def d4 (P:Params):LO:=[(3,du [(0,vs "lendcore.type_heads" 302),(0,vs "lendcore.types" 358)] [en P "FuelFault" 301 (.ref 95),en P "head_pairs" 313 (.ref 104),en P "could_be" 327 (.ref 111),en P "match_type" 343 (.ref 118),en P "match_all" 357 (.ref 125),en P "COPY" 361 (vs "Copy" 360),en P "DROP_types" 363 (vs "Drop" 362)]),(12,tu [zi 20,zi 0,rf 91,zi 23,zi 0,rf 103,zi 41,zi 0,rf 110,zi 61,zi 0,rf 117,zi 82,zi 0,rf 124]),kk 39 (cl "LendError" [.type "Exception"] [rf 39,.type "Exception",.type "BaseException",.type "object"] 38 [rf 52,rf 64,rf 83,rf 95] [sr 22,none,some (vs "LendError" 196),some (vs "LendError" 204),some (.builtin "Exception.__new__"),some (.bool true)]),kk 86 (tp [rf 39]),kk 87 (fl bf [.builtin "type.__prepare__",.type "type"]),kk 88 (di [en P "__module__" 293 (vs "lendcore.errors" 194),en P "__qualname__" 295 (vs "FuelFault" 294),en P "__firstlineno__" 297 (.int 20 296),en P "__static_attributes__" 298 (.ref 93)] 4),kt 89,kb 90,kk 91 (co "FuelFault" "FuelFault" 288 20 0 0 89 false 90 0 0 0 291),kk 92 (fm [sr 91,sr 3,sr 88,none,some (vs "lendcore.errors" 194),none,sr 0]),kt 93,kk 94 (di [en P "__module__" 293 (vs "lendcore.errors" 194),en P "__firstlineno__" 297 (.int 20 296),en P "__static_attributes__" 298 (.ref 93),en P "__doc__" 299 (.none)] 2),kk 95 (cl "FuelFault" [rf 39] [rf 95,rf 39,.type "Exception",.type "BaseException",.type "object"] 94 [] [sr 86,none,some (vs "FuelFault" 286),some (vs "FuelFault" 294),some (.builtin "Exception.__new__"),some (.bool true)]),kk 96 (fl "super" [rf 95,rf 95,rf 95]),kk 97 (fl bf [.builtin "object.__init_subclass__",rf 95]),kt 98,kb 99,kk 100 (tp [vs "one" 307,vs "other" 308,vs "kind" 309,vs "alike" 310]),kt 101,kk 102 (fr (A6 8) "head_pairs"),kk 103 (co "head_pairs" "head_pairs" 304 23 2 3 98 true 99 100 101 102 311),kk 104 (fu (A6 8) "head_pairs" (.none) (vs "lendcore.type_heads" 302) (.ref 103)),kt 105,kb 106,kk 107 (tp [vs "one" 317,vs "other" 318,vs "answer" 319,vs "left" 320,vs "here" 321,vs "there" 322,vs "kinds" 323,vs "pairs" 324]),kt 108,kk 109 (fr (A6 9) "could_be"),kk 110 (co "could_be" "could_be" 314 41 2 3 105 true 106 107 108 109 325),kk 111 (fu (A6 9) "could_be" (.none) (vs "lendcore.type_heads" 302) (.ref 110)),kt 112,kb 113,kk 114 (tp [vs "pattern" 331,vs "subject" 332,vs "names" 333,vs "found" 334,vs "answer" 335,vs "left" 336,vs "here" 337,vs "there" 338,vs "told" 339,vs "pairs" 340]),kt 115,kk 116 (fr (A6 10) "match_type"),kk 117 (co "match_type" "match_type" 328 61 4 3 112 true 113 114 115 116 341),kk 118 (fu (A6 10) "match_type" (.none) (vs "lendcore.type_heads" 302) (.ref 117)),kt 119,kb 120,kk 121 (tp [vs "patterns" 347,vs "subjects" 348,vs "names" 349,vs "found" 350,vs "answer" 351,vs "pattern" 352,vs "subject" 353,vs "told" 354]),kt 122,kk 123 (fr (A6 11) "match_all"),kk 124 (co "match_all" "match_all" 344 82 4 3 119 true 120 121 122 123 355),kk 125 (fu (A6 11) "match_all" (.none) (vs "lendcore.type_heads" 302) (.ref 124))]
noncomputable def T5 (P:Params):BT:=F0 (S0 (d4 P)) (T4 P)
noncomputable def d5 (P:Params):LO:=[(3,du [(0,vs "lendcore.traits" 463)] [en P "parts_of" 371 (.ref 132),en P "rebuilt" 380 (.ref 139),en P "substituted" 386 (.ref 144),en P "with_regions" 392 (.ref 149),en P "no_region" 399 (.ref 156),en P "erased" 406 (.ref 163),en P "region_text" 413 (.ref 170),en P "type_text" 419 (.ref 175),en P "matched" 432 (.ref 182),en P "field_rows" 441 (.ref 189),en P "fields_of" 447 (.ref 194),en P "has_drop" 456 (.ref 201),en P "needs_drop" 462 (.ref 206),en P "MOST_DEEP_traits" 466 (.int 60 465)]),(12,tu [zi 95,zi 0,rf 131,zi 104,zi 0,rf 138,zi 115,zi 0,rf 143,zi 119,zi 0,rf 148,zi 125,zi 0,rf 155,zi 127,zi 0,rf 162,zi 129,zi 0,rf 169,zi 133,zi 0,rf 174,zi 155,zi 0,rf 181,zi 174,zi 0,rf 188,zi 176,zi 0,rf 193,zi 188,zi 0,rf 200,zi 193,zi 0,rf 205]),kt 126,kb 127,kk 128 (tp [vs "told" 367,vs "kind" 368]),kt 129,kk 130 (fr (A6 15) "parts_of"),kk 131 (co "parts_of" "parts_of" 364 95 1 3 126 true 127 128 129 130 369),kk 132 (fu (A6 15) "parts_of" (.none) (vs "lendcore.types" 358) (.ref 131)),kt 133,kb 134,kk 135 (tp [vs "told" 375,vs "parts" 376,vs "kind" 377]),kt 136,kk 137 (fr (A6 16) "rebuilt"),kk 138 (co "rebuilt" "rebuilt" 372 104 2 3 133 true 134 135 136 137 378),kk 139 (fu (A6 16) "rebuilt" (.none) (vs "lendcore.types" 358) (.ref 138)),kt 140,kb 141,kk 142 (fr (A6 17) "substituted"),kk 143 (co "substituted" "substituted" 381 115 2 3 140 true 141 0 0 142 384),kk 144 (fu (A6 17) "substituted" (.none) (vs "lendcore.types" 358) (.ref 143)),kt 145,kb 146,kk 147 (fr (A6 18) "with_regions"),kk 148 (co "with_regions" "with_regions" 387 119 2 3 145 true 146 0 0 147 390),kk 149 (fu (A6 18) "with_regions" (.none) (vs "lendcore.types" 358) (.ref 148)),kt 150,kb 151,kk 152 (tp [vs "region" 396]),kt 153,kk 154 (fr (A6 19) "no_region"),kk 155 (co "no_region" "no_region" 393 125 1 3 150 true 151 152 153 154 397),kk 156 (fu (A6 19) "no_region" (.none) (vs "lendcore.types" 358) (.ref 155)),kt 157,kb 158,kk 159 (tp [vs "told" 403]),kt 160,kk 161 (fr (A6 20) "erased"),kk 162 (co "erased" "erased" 400 127 1 3 157 true 158 159 160 161 404),kk 163 (fu (A6 20) "erased" (.none) (vs "lendcore.types" 358) (.ref 162)),kt 164,kb 165,kk 166 (tp [vs "region" 410]),kt 167,kk 168 (fr (A6 21) "region_text"),kk 169 (co "region_text" "region_text" 407 129 1 3 164 true 165 166 167 168 411),kk 170 (fu (A6 21) "region_text" (.none) (vs "lendcore.types" 358) (.ref 169)),kt 171,kb 172,kk 173 (fr (A6 22) "type_text"),kk 174 (co "type_text" "type_text" 414 133 1 3 171 true 172 0 0 173 417),kk 175 (fu (A6 22) "type_text" (.none) (vs "lendcore.types" 358) (.ref 174)),kt 176,kb 177,kk 178 (tp [vs "pattern" 423,vs "told" 424,vs "table" 425,vs "some" 426,vs "others" 427,vs "one" 428,vs "other" 429]),kt 179,kk 180 (fr (A6 23) "matched"),kk 181 (co "matched" "matched" 420 155 3 3 176 true 177 178 179 180 430),kk 182 (fu (A6 23) "matched" (.none) (vs "lendcore.types" 358) (.ref 181)),kt 183,kb 184,kk 185 (tp [vs "told" 436,vs "variant" 437,vs "world" 438]),kt 186,kk 187 (fr (A6 24) "field_rows"),kk 188 (co "field_rows" "field_rows" 433 174 3 3 183 true 184 185 186 187 439),kk 189 (fu (A6 24) "field_rows" (.none) (vs "lendcore.types" 358) (.ref 188)),kt 190,kb 191,kk 192 (fr (A6 25) "fields_of"),kk 193 (co "fields_of" "fields_of" 442 176 3 3 190 true 191 0 0 192 445),kk 194 (fu (A6 25) "fields_of" (.none) (vs "lendcore.types" 358) (.ref 193)),kt 195,kb 196,kk 197 (tp [vs "told" 451,vs "world" 452,vs "row" 453]),kt 198,kk 199 (fr (A6 26) "has_drop"),kk 200 (co "has_drop" "has_drop" 448 188 2 3 195 true 196 197 198 199 454),kk 201 (fu (A6 26) "has_drop" (.none) (vs "lendcore.types" 358) (.ref 200)),kt 202,kb 203,kk 204 (fr (A6 27) "needs_drop"),kk 205 (co "needs_drop" "needs_drop" 457 193 2 3 202 true 203 0 0 204 460),kk 206 (fu (A6 27) "needs_drop" (.none) (vs "lendcore.types" 358) (.ref 205))]
noncomputable def T6 (P:Params):BT:=F0 (S0 (d5 P)) (T5 P)
noncomputable def d6 (P:Params):LO:=[(3,du [] [en P "names_of" 472 (.ref 211),en P "matches_impl" 483 (.ref 218),en P "is_plainly_copy" 490 (.ref 225)]),(12,tu [zi 211,zi 0,rf 210,zi 213,zi 0,rf 217,zi 219,zi 0,rf 224]),kt 207,kb 208,kk 209 (fr (A6 30) "names_of"),kk 210 (co "names_of" "names_of" 467 211 1 3 207 true 208 0 0 209 470),kk 211 (fu (A6 30) "names_of" (.none) (vs "lendcore.traits" 463) (.ref 210)),kt 212,kb 213,kk 214 (tp [vs "impl" 476,vs "trait_args" 477,vs "T" 478,vs "found" 479,vs "patterns" 480]),kt 215,kk 216 (fr (A6 31) "matches_impl"),kk 217 (co "matches_impl" "matches_impl" 473 213 3 3 212 true 213 214 215 216 481),kk 218 (fu (A6 31) "matches_impl" (.none) (vs "lendcore.traits" 463) (.ref 217)),kt 219,kb 220,kk 221 (tp [vs "T" 487]),kt 222,kk 223 (fr (A6 32) "is_plainly_copy"),kk 224 (co "is_plainly_copy" "is_plainly_copy" 484 219 1 3 219 true 220 221 222 223 488),kk 225 (fu (A6 32) "is_plainly_copy" (.none) (vs "lendcore.traits" 463) (.ref 224))]
noncomputable def T7 (P:Params):BT:=F0 (S0 (d6 P)) (T6 P)
noncomputable def d7 (P:Params):LO:=[(3,du [] [en P "Selection" 572 (.ref 273)]),(12,tu [zi 225,zi 0,rf 231]),kt 226,kk 227 (fl bf [.builtin "type.__prepare__",.type "type"]),kk 228 (di [en P "__module__" 498 (vs "lendcore.traits" 463),en P "__qualname__" 500 (vs "Selection" 499),en P "__firstlineno__" 502 (.int 225 501),en P "__init__" 511 (.ref 239),en P "bound_of" 520 (.ref 246),en P "needs_of" 526 (.ref 251),en P "candidates" 544 (.ref 258),en P "asked" 555 (.ref 265),en P "answer_of" 561 (.ref 270),en P "__static_attributes__" 565 (.ref 271)] 10),kt 229,kk 230 (tb [zi 227,zi 4,rf 238,zi 232,zi 4,rf 245,zi 237,zi 4,rf 250,zi 244,zi 4,rf 257,zi 258,zi 4,rf 264,zi 265,zi 4,rf 269]),kk 231 (co "Selection" "Selection" 493 225 0 0 229 false 230 0 0 0 496),kk 232 (fm [sr 231,sr 3,sr 228,none,some (vs "lendcore.traits" 463),none,sr 0]),kt 233,kb 234,kk 235 (tp [vs "self" 506,vs "world" 507,vs "bounds" 508]),kt 236,kk 237 (fr (mth 33 0) "Selection.__init__"),kk 238 (co "__init__" "Selection.__init__" 503 227 3 3 233 true 234 235 236 237 509),kk 239 (fu (mth 33 0) "Selection.__init__" (.none) (vs "lendcore.traits" 463) (.ref 238)),kt 240,kb 241,kk 242 (tp [vs "self" 515,vs "trait" 516,vs "T" 517]),kt 243,kk 244 (fr (mth 33 1) "Selection.bound_of"),kk 245 (co "bound_of" "Selection.bound_of" 512 232 3 3 240 true 241 242 243 244 518),kk 246 (fu (mth 33 1) "Selection.bound_of" (.none) (vs "lendcore.traits" 463) (.ref 245)),kt 247,kb 248,kk 249 (fr (mth 33 2) "Selection.needs_of"),kk 250 (co "needs_of" "Selection.needs_of" 521 237 3 3 247 true 248 0 0 249 524),kk 251 (fu (mth 33 2) "Selection.needs_of" (.none) (vs "lendcore.traits" 463) (.ref 250)),kt 252,kb 253,kk 254 (tp [vs "self" 530,vs "trait" 531,vs "args" 532,vs "T" 533,vs "deep" 534,vs "rows" 535,vs "impl" 536,vs "answer" 537,vs "found" 538,vs "other" 539,vs "part" 540,vs "told" 541]),kt 255,kk 256 (fr (mth 33 3) "Selection.candidates"),kk 257 (co "candidates" "Selection.candidates" 527 244 5 3 252 true 253 254 255 256 542),kk 258 (fu (mth 33 3) "Selection.candidates" (.none) (vs "lendcore.traits" 463) (.ref 257)),kt 259,kb 260,kk 261 (tp [vs "self" 548,vs "trait" 549,vs "args" 550,vs "T" 551,vs "deep" 552]),kt 262,kk 263 (fr (mth 33 4) "Selection.asked"),kk 264 (co "asked" "Selection.asked" 545 258 5 3 259 true 260 261 262 263 553),kk 265 (fu (mth 33 4) "Selection.asked" (.none) (vs "lendcore.traits" 463) (.ref 264)),kt 266,kb 267,kk 268 (fr (mth 33 5) "Selection.answer_of"),kk 269 (co "answer_of" "Selection.answer_of" 556 265 5 3 266 true 267 0 0 268 559),kk 270 (fu (mth 33 5) "Selection.answer_of" (.none) (vs "lendcore.traits" 463) (.ref 269)),kk 271 (tp [vs "bounds" 562,vs "known" 563,vs "world" 564]),kk 272 (di [en P "__module__" 498 (vs "lendcore.traits" 463),en P "__firstlineno__" 502 (.int 225 501),en P "__init__" 511 (.ref 239),en P "bound_of" 520 (.ref 246),en P "needs_of" 526 (.ref 251),en P "candidates" 544 (.ref 258),en P "asked" 555 (.ref 265),en P "answer_of" 561 (.ref 270),en P "__static_attributes__" 565 (.ref 271),en P "__dict__" 567 (.ref 274),en P "__weakref__" 569 (.ref 275),en P "__doc__" 570 (.none)] 4),kk 273 (cl "Selection" [.type "object"] [rf 273,.type "object"] 272 [] [none,none,some (vs "Selection" 491),some (vs "Selection" 499),some (.builtin "object.__new__"),some (.bool true)]),kk 274 (fl "getset_descriptor" [vs "__dict__" 566,rf 273,.builtin "function.__dict__",.builtin "function.__dict__#set"]),kk 275 (fl "getset_descriptor" [vs "__weakref__" 568,rf 273,.builtin "ExceptionGroup.__weakref__",.none]),kk 276 (fl "super" [rf 273,rf 273,rf 273]),kk 277 (fl bf [.builtin "object.__init_subclass__",rf 273])]
noncomputable def T8 (P:Params):BT:=F0 (S0 (d7 P)) (T7 P)
noncomputable def d8 (P:Params):LO:=[(3,du [(0,vs "lendcore.generics" 587),(0,vs "lendcore.mir" 634)] [en P "select" 586 (.ref 284),en P "DROP_generics" 590 (vs "Drop" 589),en P "key_of" 596 (.ref 289),en P "param_names" 602 (.ref 294),en P "substitution_of" 612 (.ref 301),en P "closed_ref" 618 (.ref 306),en P "resolved_ref" 624 (.ref 311),en P "drop_impl" 633 (.ref 318)]),(12,tu [zi 278,zi 0,rf 283,zi 293,zi 0,rf 288,zi 297,zi 0,rf 293,zi 299,zi 0,rf 300,zi 304,zi 0,rf 305,zi 309,zi 0,rf 310,zi 326,zi 0,rf 317]),kt 278,kb 279,kk 280 (tp [vs "world" 576,vs "trait" 577,vs "args" 578,vs "T" 579,vs "bounds" 580,vs "selection" 581,vs "found" 582,vs "rows" 583]),kt 281,kk 282 (fr (A6 34) "select"),kk 283 (co "select" "select" 573 278 5 3 278 true 279 280 281 282 584),kk 284 (fu (A6 34) "select" (.none) (vs "lendcore.traits" 463) (.ref 283)),kt 285,kb 286,kk 287 (fr (A6 37) "key_of"),kk 288 (co "key_of" "key_of" 591 293 2 3 285 true 286 0 0 287 594),kk 289 (fu (A6 37) "key_of" (.none) (vs "lendcore.generics" 587) (.ref 288)),kt 290,kb 291,kk 292 (fr (A6 38) "param_names"),kk 293 (co "param_names" "param_names" 597 297 2 3 290 true 291 0 0 292 600),kk 294 (fu (A6 38) "param_names" (.none) (vs "lendcore.generics" 587) (.ref 293)),kt 295,kb 296,kk 297 (tp [vs "world" 606,vs "path" 607,vs "types" 608,vs "names" 609]),kt 298,kk 299 (fr (A6 39) "substitution_of"),kk 300 (co "substitution_of" "substitution_of" 603 299 3 3 295 true 296 297 298 299 610),kk 301 (fu (A6 39) "substitution_of" (.none) (vs "lendcore.generics" 587) (.ref 300)),kt 302,kb 303,kk 304 (fr (A6 40) "closed_ref"),kk 305 (co "closed_ref" "closed_ref" 613 304 2 3 302 true 303 0 0 304 616),kk 306 (fu (A6 40) "closed_ref" (.none) (vs "lendcore.generics" 587) (.ref 305)),kt 307,kb 308,kk 309 (fr (A6 41) "resolved_ref"),kk 310 (co "resolved_ref" "resolved_ref" 619 309 2 3 307 true 308 0 0 309 622),kk 311 (fu (A6 41) "resolved_ref" (.none) (vs "lendcore.generics" 587) (.ref 310)),kt 312,kb 313,kk 314 (tp [vs "world" 628,vs "T" 629,vs "found" 630]),kt 315,kk 316 (fr (A6 42) "drop_impl"),kk 317 (co "drop_impl" "drop_impl" 625 326 2 3 312 true 313 314 315 316 631),kk 318 (fu (A6 42) "drop_impl" (.none) (vs "lendcore.generics" 587) (.ref 317))]
noncomputable def T9 (P:Params):BT:=F0 (S0 (d8 P)) (T8 P)
noncomputable def d9 (P:Params):LO:=[(3,du [] [en P "Body" 721 (.ref 379)]),(12,tu [zi 334,zi 0,rf 324]),kt 319,kk 320 (fl bf [.builtin "type.__prepare__",.type "type"]),kk 321 (di [en P "__module__" 643 (vs "lendcore.mir" 634),en P "__qualname__" 645 (vs "Body" 644),en P "__firstlineno__" 647 (.int 334 646),en P "__init__" 659 (.ref 333),en P "type_of" 667 (.ref 340),en P "args" 674 (.ref 347),en P "statements" 682 (.ref 354),en P "terminator" 690 (.ref 361),en P "spot" 698 (.ref 368),en P "new_local" 708 (.ref 376),en P "__static_attributes__" 714 (.ref 377)] 11),kt 322,kk 323 (tb [zi 336,zi 4,rf 332,zi 343,zi 4,rf 339,zi 346,zi 4,rf 346,zi 349,zi 4,rf 353,zi 352,zi 4,rf 360,zi 355,zi 4,rf 367,zi 358,zi 4,rf 375]),kk 324 (co "Body" "Body" 638 334 0 0 322 false 323 0 0 0 641),kk 325 (fm [sr 324,sr 3,sr 321,none,some (vs "lendcore.mir" 634),none,sr 0]),kk 326 (tp [.none,.none]),kt 327,kb 328,kk 329 (tp [vs "self" 651,vs "name" 652,vs "arg_count" 653,vs "locals_told" 654,vs "blocks" 655,vs "spots" 656]),kt 330,kk 331 (fr (mth 44 0) "Body.__init__"),kk 332 (co "__init__" "Body.__init__" 648 336 6 3 327 true 328 329 330 331 657),kk 333 (fu (mth 44 0) "Body.__init__" (.ref 326) (vs "lendcore.mir" 634) (.ref 332)),kt 334,kb 335,kk 336 (tp [vs "self" 663,vs "local" 664]),kt 337,kk 338 (fr (mth 44 1) "Body.type_of"),kk 339 (co "type_of" "Body.type_of" 660 343 2 3 334 true 335 336 337 338 665),kk 340 (fu (mth 44 1) "Body.type_of" (.none) (vs "lendcore.mir" 634) (.ref 339)),kt 341,kb 342,kk 343 (tp [vs "self" 671]),kt 344,kk 345 (fr (mth 44 2) "Body.args"),kk 346 (co "args" "Body.args" 668 346 1 3 341 true 342 343 344 345 672),kk 347 (fu (mth 44 2) "Body.args" (.none) (vs "lendcore.mir" 634) (.ref 346)),kt 348,kb 349,kk 350 (tp [vs "self" 678,vs "block" 679]),kt 351,kk 352 (fr (mth 44 3) "Body.statements"),kk 353 (co "statements" "Body.statements" 675 349 2 3 348 true 349 350 351 352 680),kk 354 (fu (mth 44 3) "Body.statements" (.none) (vs "lendcore.mir" 634) (.ref 353)),kt 355,kb 356,kk 357 (tp [vs "self" 686,vs "block" 687]),kt 358,kk 359 (fr (mth 44 4) "Body.terminator"),kk 360 (co "terminator" "Body.terminator" 683 352 2 3 355 true 356 357 358 359 688),kk 361 (fu (mth 44 4) "Body.terminator" (.none) (vs "lendcore.mir" 634) (.ref 360)),kt 362,kb 363,kk 364 (tp [vs "self" 694,vs "point" 695]),kt 365,kk 366 (fr (mth 44 5) "Body.spot"),kk 367 (co "spot" "Body.spot" 691 355 2 3 362 true 363 364 365 366 696),kk 368 (fu (mth 44 5) "Body.spot" (.none) (vs "lendcore.mir" 634) (.ref 367)),kk 369 (tp [.bool true,.none]),kt 370,kb 371,kk 372 (tp [vs "self" 702,vs "told" 703,vs "is_mut" 704,vs "name" 705]),kt 373,kk 374 (fr (mth 44 6) "Body.new_local"),kk 375 (co "new_local" "Body.new_local" 699 358 4 3 370 true 371 372 373 374 706),kk 376 (fu (mth 44 6) "Body.new_local" (.ref 369) (vs "lendcore.mir" 634) (.ref 375)),kk 377 (tp [vs "arg_count" 709,vs "blocks" 710,vs "locals" 711,vs "name" 712,vs "spots" 713]),kk 378 (di [en P "__module__" 643 (vs "lendcore.mir" 634),en P "__firstlineno__" 647 (.int 334 646),en P "__init__" 659 (.ref 333),en P "type_of" 667 (.ref 340),en P "args" 674 (.ref 347),en P "statements" 682 (.ref 354),en P "terminator" 690 (.ref 361),en P "spot" 698 (.ref 368),en P "new_local" 708 (.ref 376),en P "__static_attributes__" 714 (.ref 377),en P "__dict__" 716 (.ref 380),en P "__weakref__" 718 (.ref 381),en P "__doc__" 719 (.none)] 4),kk 379 (cl "Body" [.type "object"] [rf 379,.type "object"] 378 [] [none,none,some (vs "Body" 636),some (vs "Body" 644),some (.builtin "object.__new__"),some (.bool true)]),kk 380 (fl "getset_descriptor" [vs "__dict__" 715,rf 379,.builtin "function.__dict__",.builtin "function.__dict__#set"]),kk 381 (fl "getset_descriptor" [vs "__weakref__" 717,rf 379,.builtin "ExceptionGroup.__weakref__",.none]),kk 382 (fl "super" [rf 379,rf 379,rf 379]),kk 383 (fl bf [.builtin "object.__init_subclass__",rf 379])]
noncomputable def T10 (P:Params):BT:=F0 (S0 (d9 P)) (T9 P)
noncomputable def d10 (P:Params):LO:=[(3,du [(0,vs "lendcore.mono" 755)] [en P "field_type" 731 (.ref 390),en P "projected" 742 (.ref 397),en P "place_type" 754 (.ref 404),en P "MOST_INSTANCES" 758 (.int 400 757),en P "MOST_PARTS_mono" 760 (.int 120 759),en P "MOST_DROPPED" 762 (.int 1000 761),en P "plain_type" 770 (.ref 411),en P "plain_operand" 778 (.ref 418),en P "plain_operands" 784 (.ref 423),en P "plain_rvalue" 793 (.ref 430),en P "plain_statement" 801 (.ref 437),en P "want_small" 810 (.ref 444)]),(12,tu [zi 360,zi 0,rf 389,zi 366,zi 0,rf 396,zi 377,zi 0,rf 403,zi 386,zi 0,rf 410,zi 388,zi 0,rf 417,zi 392,zi 0,rf 422,zi 394,zi 0,rf 429,zi 411,zi 0,rf 436,zi 417,zi 0,rf 443]),kt 384,kb 385,kk 386 (tp [vs "told" 725,vs "variant" 726,vs "k" 727,vs "world" 728]),kt 387,kk 388 (fr (A6 45) "field_type"),kk 389 (co "field_type" "field_type" 722 360 4 3 384 true 385 386 387 388 729),kk 390 (fu (A6 45) "field_type" (.none) (vs "lendcore.mir" 634) (.ref 389)),kt 391,kb 392,kk 393 (tp [vs "told" 735,vs "variant" 736,vs "projection" 737,vs "world" 738,vs "word" 739]),kt 394,kk 395 (fr (A6 46) "projected"),kk 396 (co "projected" "projected" 732 366 4 3 391 true 392 393 394 395 740),kk 397 (fu (A6 46) "projected" (.none) (vs "lendcore.mir" 634) (.ref 396)),kt 398,kb 399,kk 400 (tp [vs "body" 746,vs "place" 747,vs "world" 748,vs "told" 749,vs "variant" 750,vs "projection" 751]),kt 401,kk 402 (fr (A6 47) "place_type"),kk 403 (co "place_type" "place_type" 743 377 3 3 398 true 399 400 401 402 752),kk 404 (fu (A6 47) "place_type" (.none) (vs "lendcore.mir" 634) (.ref 403)),kt 405,kb 406,kk 407 (tp [vs "T" 766,vs "table" 767]),kt 408,kk 409 (fr (A6 52) "plain_type"),kk 410 (co "plain_type" "plain_type" 763 386 2 3 405 true 406 407 408 409 768),kk 411 (fu (A6 52) "plain_type" (.none) (vs "lendcore.mono" 755) (.ref 410)),kt 412,kb 413,kk 414 (tp [vs "operand" 774,vs "table" 775]),kt 415,kk 416 (fr (A6 53) "plain_operand"),kk 417 (co "plain_operand" "plain_operand" 771 388 2 3 412 true 413 414 415 416 776),kk 418 (fu (A6 53) "plain_operand" (.none) (vs "lendcore.mono" 755) (.ref 417)),kt 419,kb 420,kk 421 (fr (A6 54) "plain_operands"),kk 422 (co "plain_operands" "plain_operands" 779 392 2 3 419 true 420 0 0 421 782),kk 423 (fu (A6 54) "plain_operands" (.none) (vs "lendcore.mono" 755) (.ref 422)),kt 424,kb 425,kk 426 (tp [vs "rvalue" 788,vs "table" 789,vs "kind" 790]),kt 427,kk 428 (fr (A6 55) "plain_rvalue"),kk 429 (co "plain_rvalue" "plain_rvalue" 785 394 2 3 424 true 425 426 427 428 791),kk 430 (fu (A6 55) "plain_rvalue" (.none) (vs "lendcore.mono" 755) (.ref 429)),kt 431,kb 432,kk 433 (tp [vs "statement" 797,vs "table" 798]),kt 434,kk 435 (fr (A6 56) "plain_statement"),kk 436 (co "plain_statement" "plain_statement" 794 411 2 3 431 true 432 433 434 435 799),kk 437 (fu (A6 56) "plain_statement" (.none) (vs "lendcore.mono" 755) (.ref 436)),kt 438,kb 439,kk 440 (tp [vs "T" 805,vs "left" 806,vs "many" 807]),kt 441,kk 442 (fr (A6 57) "want_small"),kk 443 (co "want_small" "want_small" 802 417 1 3 438 true 439 440 441 442 808),kk 444 (fu (A6 57) "want_small" (.none) (vs "lendcore.mono" 755) (.ref 443))]
noncomputable def T11 (P:Params):BT:=F0 (S0 (d10 P)) (T10 P)
noncomputable def d11 (P:Params):LO:=[(3,du [] [en P "Instances" 894 (.ref 492)]),(12,tu [zi 424,zi 0,rf 450]),kt 445,kk 446 (fl bf [.builtin "type.__prepare__",.type "type"]),kk 447 (di [en P "__module__" 818 (vs "lendcore.mono" 755),en P "__qualname__" 820 (vs "Instances" 819),en P "__firstlineno__" 822 (.int 424 821),en P "__init__" 831 (.ref 458),en P "wanted" 837 (.ref 463),en P "want_drops" 848 (.ref 470),en P "make_all" 859 (.ref 477),en P "made_body" 865 (.ref 482),en P "plain_terminator" 879 (.ref 489),en P "__static_attributes__" 887 (.ref 490)] 10),kt 448,kk 449 (tb [zi 426,zi 4,rf 457,zi 435,zi 4,rf 462,zi 450,zi 4,rf 469,zi 465,zi 4,rf 476,zi 471,zi 4,rf 481,zi 479,zi 4,rf 488]),kk 450 (co "Instances" "Instances" 813 424 0 0 448 false 449 0 0 0 816),kk 451 (fm [sr 450,sr 3,sr 447,none,some (vs "lendcore.mono" 755),none,sr 0]),kt 452,kb 453,kk 454 (tp [vs "self" 826,vs "world" 827,vs "bodies" 828]),kt 455,kk 456 (fr (mth 58 0) "Instances.__init__"),kk 457 (co "__init__" "Instances.__init__" 823 426 3 3 452 true 453 454 455 456 829),kk 458 (fu (mth 58 0) "Instances.__init__" (.none) (vs "lendcore.mono" 755) (.ref 457)),kt 459,kb 460,kk 461 (fr (mth 58 1) "Instances.wanted"),kk 462 (co "wanted" "Instances.wanted" 832 435 2 3 459 true 460 0 0 461 835),kk 463 (fu (mth 58 1) "Instances.wanted" (.none) (vs "lendcore.mono" 755) (.ref 462)),kt 464,kb 465,kk 466 (tp [vs "self" 841,vs "T" 842,vs "waiting" 843,vs "here" 844,vs "reference" 845]),kt 467,kk 468 (fr (mth 58 2) "Instances.want_drops"),kk 469 (co "want_drops" "Instances.want_drops" 838 450 2 3 464 true 465 466 467 468 846),kk 470 (fu (mth 58 2) "Instances.want_drops" (.none) (vs "lendcore.mono" 755) (.ref 469)),kt 471,kb 472,kk 473 (tp [vs "self" 852,vs "key" 853,vs "path" 854,vs "types" 855,vs "table" 856]),kt 474,kk 475 (fr (mth 58 3) "Instances.make_all"),kk 476 (co "make_all" "Instances.make_all" 849 465 1 3 471 true 472 473 474 475 857),kk 477 (fu (mth 58 3) "Instances.make_all" (.none) (vs "lendcore.mono" 755) (.ref 476)),kt 478,kb 479,kk 480 (fr (mth 58 4) "Instances.made_body"),kk 481 (co "made_body" "Instances.made_body" 860 471 4 3 478 true 479 0 0 480 863),kk 482 (fu (mth 58 4) "Instances.made_body" (.none) (vs "lendcore.mono" 755) (.ref 481)),kt 483,kb 484,kk 485 (tp [vs "self" 869,vs "body" 870,vs "terminator" 871,vs "table" 872,vs "kind" 873,vs "reference" 874,vs "operands" 875,vs "T" 876]),kt 486,kk 487 (fr (mth 58 5) "Instances.plain_terminator"),kk 488 (co "plain_terminator" "Instances.plain_terminator" 866 479 4 3 483 true 484 485 486 487 877),kk 489 (fu (mth 58 5) "Instances.plain_terminator" (.none) (vs "lendcore.mono" 755) (.ref 488)),kk 490 (tp [vs "bodies" 880,vs "closed" 881,vs "dropped" 882,vs "keys" 883,vs "made" 884,vs "waiting" 885,vs "world" 886]),kk 491 (di [en P "__module__" 818 (vs "lendcore.mono" 755),en P "__firstlineno__" 822 (.int 424 821),en P "__init__" 831 (.ref 458),en P "wanted" 837 (.ref 463),en P "want_drops" 848 (.ref 470),en P "make_all" 859 (.ref 477),en P "made_body" 865 (.ref 482),en P "plain_terminator" 879 (.ref 489),en P "__static_attributes__" 887 (.ref 490),en P "__dict__" 889 (.ref 493),en P "__weakref__" 891 (.ref 494),en P "__doc__" 892 (.none)] 4),kk 492 (cl "Instances" [.type "object"] [rf 492,.type "object"] 491 [] [none,none,some (vs "Instances" 811),some (vs "Instances" 819),some (.builtin "object.__new__"),some (.bool true)]),kk 493 (fl "getset_descriptor" [vs "__dict__" 888,rf 492,.builtin "function.__dict__",.builtin "function.__dict__#set"]),kk 494 (fl "getset_descriptor" [vs "__weakref__" 890,rf 492,.builtin "ExceptionGroup.__weakref__",.none]),kk 495 (fl "super" [rf 492,rf 492,rf 492]),kk 496 (fl bf [.builtin "object.__init_subclass__",rf 492])]
noncomputable def T12 (P:Params):BT:=F0 (S0 (d11 P)) (T11 P)
noncomputable def d12 (P:Params):LO:=[(3,du [(0,vs "lendcore.integers" 901)] [en P "inner_types" 900 (.ref 501)]),(12,tu [zi 494,zi 0,rf 500]),kt 497,kb 498,kk 499 (fr (A6 59) "inner_types"),kk 500 (co "inner_types" "inner_types" 895 494 2 3 497 true 498 0 0 499 898),kk 501 (fu (A6 59) "inner_types" (.none) (vs "lendcore.mono" 755) (.ref 500))]
noncomputable def T13 (P:Params):BT:=F0 (S0 (d12 P)) (T12 P)
noncomputable def d13 (P:Params):LO:=[(3,du [] [en P "BITS" 930 (.ref 502)]),kk 502 (di [en P "i8" 903 (.int 8 904),en P "i16" 905 (.int 16 906),en P "i32" 907 (.int 32 908),en P "i64" 909 (.int 64 910),en P "u8" 911 (.int 8 912),en P "u16" 913 (.int 16 914),en P "u32" 915 (.int 32 916),en P "u64" 917 (.int 64 918),en P "usize" 919 (.int 64 920)] 9)]
noncomputable def T14 (P:Params):BT:=F0 (S0 (d13 P)) (T13 P)
noncomputable def d14 (P:Params):LO:=[(3,du [(0,vs "lendcore.layout" 1035)] [en P "is_signed" 937 (.ref 509),en P "least" 944 (.ref 516),en P "greatest" 951 (.ref 523),en P "fits" 959 (.ref 530),en P "wrapped" 968 (.ref 537),en P "cast_int" 976 (.ref 544),en P "cut_quotient" 985 (.ref 551),en P "exact" 994 (.ref 558),en P "checked" 1005 (.ref 565),en P "shifted" 1017 (.ref 572),en P "inverted" 1025 (.ref 579),en P "compared" 1034 (.ref 586),en P "MOST_DEEP_layout" 1038 (.int 100 1037)]),(12,tu [zi 509,zi 0,rf 508,zi 511,zi 0,rf 515,zi 513,zi 0,rf 522,zi 515,zi 0,rf 529,zi 517,zi 0,rf 536,zi 520,zi 0,rf 543,zi 522,zi 0,rf 550,zi 525,zi 0,rf 557,zi 543,zi 0,rf 564,zi 552,zi 0,rf 571,zi 556,zi 0,rf 578,zi 558,zi 0,rf 585]),kt 503,kb 504,kk 505 (tp [vs "kind" 934]),kt 506,kk 507 (fr (A6 62) "is_signed"),kk 508 (co "is_signed" "is_signed" 931 509 1 3 503 true 504 505 506 507 935),kk 509 (fu (A6 62) "is_signed" (.none) (vs "lendcore.integers" 901) (.ref 508)),kt 510,kb 511,kk 512 (tp [vs "kind" 941]),kt 513,kk 514 (fr (A6 63) "least"),kk 515 (co "least" "least" 938 511 1 3 510 true 511 512 513 514 942),kk 516 (fu (A6 63) "least" (.none) (vs "lendcore.integers" 901) (.ref 515)),kt 517,kb 518,kk 519 (tp [vs "kind" 948]),kt 520,kk 521 (fr (A6 64) "greatest"),kk 522 (co "greatest" "greatest" 945 513 1 3 517 true 518 519 520 521 949),kk 523 (fu (A6 64) "greatest" (.none) (vs "lendcore.integers" 901) (.ref 522)),kt 524,kb 525,kk 526 (tp [vs "kind" 955,vs "number" 956]),kt 527,kk 528 (fr (A6 65) "fits"),kk 529 (co "fits" "fits" 952 515 2 3 524 true 525 526 527 528 957),kk 530 (fu (A6 65) "fits" (.none) (vs "lendcore.integers" 901) (.ref 529)),kt 531,kb 532,kk 533 (tp [vs "kind" 963,vs "number" 964,vs "low" 965]),kt 534,kk 535 (fr (A6 66) "wrapped"),kk 536 (co "wrapped" "wrapped" 960 517 2 3 531 true 532 533 534 535 966),kk 537 (fu (A6 66) "wrapped" (.none) (vs "lendcore.integers" 901) (.ref 536)),kt 538,kb 539,kk 540 (tp [vs "kind" 972,vs "number" 973]),kt 541,kk 542 (fr (A6 67) "cast_int"),kk 543 (co "cast_int" "cast_int" 969 520 2 3 538 true 539 540 541 542 974),kk 544 (fu (A6 67) "cast_int" (.none) (vs "lendcore.integers" 901) (.ref 543)),kt 545,kb 546,kk 547 (tp [vs "a" 980,vs "b" 981,vs "found" 982]),kt 548,kk 549 (fr (A6 68) "cut_quotient"),kk 550 (co "cut_quotient" "cut_quotient" 977 522 2 3 545 true 546 547 548 549 983),kk 551 (fu (A6 68) "cut_quotient" (.none) (vs "lendcore.integers" 901) (.ref 550)),kt 552,kb 553,kk 554 (tp [vs "op" 989,vs "a" 990,vs "b" 991]),kt 555,kk 556 (fr (A6 69) "exact"),kk 557 (co "exact" "exact" 986 525 3 3 552 true 553 554 555 556 992),kk 558 (fu (A6 69) "exact" (.none) (vs "lendcore.integers" 901) (.ref 557)),kt 559,kb 560,kk 561 (tp [vs "kind" 998,vs "op" 999,vs "a" 1000,vs "b" 1001,vs "found" 1002]),kt 562,kk 563 (fr (A6 70) "checked"),kk 564 (co "checked" "checked" 995 543 4 3 559 true 560 561 562 563 1003),kk 565 (fu (A6 70) "checked" (.none) (vs "lendcore.integers" 901) (.ref 564)),kt 566,kb 567,kk 568 (tp [vs "kind" 1009,vs "op" 1010,vs "a" 1011,vs "many" 1012,vs "places" 1013,vs "found" 1014]),kt 569,kk 570 (fr (A6 71) "shifted"),kk 571 (co "shifted" "shifted" 1006 552 4 3 566 true 567 568 569 570 1015),kk 572 (fu (A6 71) "shifted" (.none) (vs "lendcore.integers" 901) (.ref 571)),kt 573,kb 574,kk 575 (tp [vs "kind" 1021,vs "a" 1022]),kt 576,kk 577 (fr (A6 72) "inverted"),kk 578 (co "inverted" "inverted" 1018 556 2 3 573 true 574 575 576 577 1023),kk 579 (fu (A6 72) "inverted" (.none) (vs "lendcore.integers" 901) (.ref 578)),kt 580,kb 581,kk 582 (tp [vs "op" 1029,vs "a" 1030,vs "b" 1031]),kt 583,kk 584 (fr (A6 73) "compared"),kk 585 (co "compared" "compared" 1026 558 3 3 580 true 581 582 583 584 1032),kk 586 (fu (A6 73) "compared" (.none) (vs "lendcore.integers" 901) (.ref 585))]
noncomputable def T15 (P:Params):BT:=F0 (S0 (d14 P)) (T14 P)
noncomputable def d15 (P:Params):LO:=[(3,du [(0,vs "lendcore.stacks" 1110)] [en P "MOST_PARTS_layout" 1042 (.int 65536 1041),en P "size_of" 1050 (.ref 593),en P "measured" 1060 (.ref 600),en P "measured_anew" 1066 (.ref 605),en P "summed" 1080 (.ref 612),en P "part_types" 1086 (.ref 617),en P "first_place" 1094 (.ref 624),en P "offset_of_field" 1100 (.ref 629),en P "offset_of_item" 1109 (.ref 636)]),(12,tu [zi 575,zi 0,rf 592,zi 577,zi 0,rf 599,zi 592,zi 0,rf 604,zi 606,zi 0,rf 611,zi 612,zi 0,rf 616,zi 616,zi 0,rf 623,zi 618,zi 0,rf 628,zi 621,zi 0,rf 635]),kt 587,kb 588,kk 589 (tp [vs "told" 1046,vs "world" 1047]),kt 590,kk 591 (fr (A6 77) "size_of"),kk 592 (co "size_of" "size_of" 1043 575 2 3 587 true 588 589 590 591 1048),kk 593 (fu (A6 77) "size_of" (.none) (vs "lendcore.layout" 1035) (.ref 592)),kt 594,kb 595,kk 596 (tp [vs "told" 1054,vs "world" 1055,vs "deep" 1056,vs "known" 1057]),kt 597,kk 598 (fr (A6 78) "measured"),kk 599 (co "measured" "measured" 1051 577 4 3 594 true 595 596 597 598 1058),kk 600 (fu (A6 78) "measured" (.none) (vs "lendcore.layout" 1035) (.ref 599)),kt 601,kb 602,kk 603 (fr (A6 79) "measured_anew"),kk 604 (co "measured_anew" "measured_anew" 1061 592 4 3 601 true 602 0 0 603 1064),kk 605 (fu (A6 79) "measured_anew" (.none) (vs "lendcore.layout" 1035) (.ref 604)),kt 606,kb 607,kk 608 (tp [vs "types" 1070,vs "world" 1071,vs "deep" 1072,vs "known" 1073,vs "cells" 1074,vs "parts" 1075,vs "told" 1076,vs "row" 1077]),kt 609,kk 610 (fr (A6 80) "summed"),kk 611 (co "summed" "summed" 1067 606 4 3 606 true 607 608 609 610 1078),kk 612 (fu (A6 80) "summed" (.none) (vs "lendcore.layout" 1035) (.ref 611)),kt 613,kb 614,kk 615 (fr (A6 81) "part_types"),kk 616 (co "part_types" "part_types" 1081 612 3 3 613 true 614 0 0 615 1084),kk 617 (fu (A6 81) "part_types" (.none) (vs "lendcore.layout" 1035) (.ref 616)),kt 618,kb 619,kk 620 (tp [vs "told" 1090,vs "world" 1091]),kt 621,kk 622 (fr (A6 82) "first_place"),kk 623 (co "first_place" "first_place" 1087 616 2 3 618 true 619 620 621 622 1092),kk 624 (fu (A6 82) "first_place" (.none) (vs "lendcore.layout" 1035) (.ref 623)),kt 625,kb 626,kk 627 (fr (A6 83) "offset_of_field"),kk 628 (co "offset_of_field" "offset_of_field" 1095 618 4 3 625 true 626 0 0 627 1098),kk 629 (fu (A6 83) "offset_of_field" (.none) (vs "lendcore.layout" 1035) (.ref 628)),kt 630,kb 631,kk 632 (tp [vs "told" 1104,vs "number" 1105,vs "world" 1106]),kt 633,kk 634 (fr (A6 84) "offset_of_item"),kk 635 (co "offset_of_item" "offset_of_item" 1101 621 3 3 630 true 631 632 633 634 1107),kk 636 (fu (A6 84) "offset_of_item" (.none) (vs "lendcore.layout" 1035) (.ref 635))]
noncomputable def T16 (P:Params):BT:=F0 (S0 (d15 P)) (T15 P)
noncomputable def d16 (P:Params):LO:=[(3,du [] [en P "Stack" 1193 (.ref 693)]),(12,tu [zi 624,zi 0,rf 642]),kt 637,kk 638 (fl bf [.builtin "type.__prepare__",.type "type"]),kk 639 (di [en P "__module__" 1119 (vs "lendcore.stacks" 1110),en P "__qualname__" 1121 (vs "Stack" 1120),en P "__firstlineno__" 1123 (.int 624 1122),en P "__init__" 1131 (.ref 650),en P "place" 1140 (.ref 657),en P "may" 1151 (.ref 664),en P "kind" 1159 (.ref 671),en P "read" 1165 (.ref 676),en P "write" 1174 (.ref 683),en P "push" 1184 (.ref 690),en P "__static_attributes__" 1186 (.ref 691)] 11),kt 640,kk 641 (tb [zi 626,zi 4,rf 649,zi 629,zi 4,rf 656,zi 635,zi 4,rf 663,zi 641,zi 4,rf 670,zi 644,zi 4,rf 675,zi 649,zi 4,rf 682,zi 655,zi 4,rf 689]),kk 642 (co "Stack" "Stack" 1114 624 0 0 640 false 641 0 0 0 1117),kk 643 (fm [sr 642,sr 3,sr 639,none,some (vs "lendcore.stacks" 1110),none,sr 0]),kt 644,kb 645,kk 646 (tp [vs "self" 1127,vs "tag" 1128]),kt 647,kk 648 (fr (mth 86 0) "Stack.__init__"),kk 649 (co "__init__" "Stack.__init__" 1124 626 2 3 644 true 645 646 647 648 1129),kk 650 (fu (mth 86 0) "Stack.__init__" (.none) (vs "lendcore.stacks" 1110) (.ref 649)),kt 651,kb 652,kk 653 (tp [vs "self" 1135,vs "tag" 1136,vs "at" 1137]),kt 654,kk 655 (fr (mth 86 1) "Stack.place"),kk 656 (co "place" "Stack.place" 1132 629 2 3 651 true 652 653 654 655 1138),kk 657 (fu (mth 86 1) "Stack.place" (.none) (vs "lendcore.stacks" 1110) (.ref 656)),kt 658,kb 659,kk 660 (tp [vs "self" 1144,vs "tag" 1145,vs "is_write" 1146,vs "other" 1147,vs "kind" 1148]),kt 661,kk 662 (fr (mth 86 2) "Stack.may"),kk 663 (co "may" "Stack.may" 1141 635 3 3 658 true 659 660 661 662 1149),kk 664 (fu (mth 86 2) "Stack.may" (.none) (vs "lendcore.stacks" 1110) (.ref 663)),kt 665,kb 666,kk 667 (tp [vs "self" 1155,vs "tag" 1156]),kt 668,kk 669 (fr (mth 86 3) "Stack.kind"),kk 670 (co "kind" "Stack.kind" 1152 641 2 3 665 true 666 667 668 669 1157),kk 671 (fu (mth 86 3) "Stack.kind" (.none) (vs "lendcore.stacks" 1110) (.ref 670)),kt 672,kb 673,kk 674 (fr (mth 86 4) "Stack.read"),kk 675 (co "read" "Stack.read" 1160 644 2 3 672 true 673 0 0 674 1163),kk 676 (fu (mth 86 4) "Stack.read" (.none) (vs "lendcore.stacks" 1110) (.ref 675)),kt 677,kb 678,kk 679 (tp [vs "self" 1169,vs "tag" 1170,vs "at" 1171]),kt 680,kk 681 (fr (mth 86 5) "Stack.write"),kk 682 (co "write" "Stack.write" 1166 649 2 3 677 true 678 679 680 681 1172),kk 683 (fu (mth 86 5) "Stack.write" (.none) (vs "lendcore.stacks" 1110) (.ref 682)),kt 684,kb 685,kk 686 (tp [vs "self" 1178,vs "parent" 1179,vs "tag" 1180,vs "kind" 1181]),kt 687,kk 688 (fr (mth 86 6) "Stack.push"),kk 689 (co "push" "Stack.push" 1175 655 4 3 684 true 685 686 687 688 1182),kk 690 (fu (mth 86 6) "Stack.push" (.none) (vs "lendcore.stacks" 1110) (.ref 689)),kk 691 (tp [vs "items" 1185]),kk 692 (di [en P "__module__" 1119 (vs "lendcore.stacks" 1110),en P "__firstlineno__" 1123 (.int 624 1122),en P "__init__" 1131 (.ref 650),en P "place" 1140 (.ref 657),en P "may" 1151 (.ref 664),en P "kind" 1159 (.ref 671),en P "read" 1165 (.ref 676),en P "write" 1174 (.ref 683),en P "push" 1184 (.ref 690),en P "__static_attributes__" 1186 (.ref 691),en P "__dict__" 1188 (.ref 694),en P "__weakref__" 1190 (.ref 695),en P "__doc__" 1191 (.none)] 4),kk 693 (cl "Stack" [.type "object"] [rf 693,.type "object"] 692 [] [none,none,some (vs "Stack" 1112),some (vs "Stack" 1120),some (.builtin "object.__new__"),some (.bool true)]),kk 694 (fl "getset_descriptor" [vs "__dict__" 1187,rf 693,.builtin "function.__dict__",.builtin "function.__dict__#set"]),kk 695 (fl "getset_descriptor" [vs "__weakref__" 1189,rf 693,.builtin "ExceptionGroup.__weakref__",.none]),kk 696 (fl "super" [rf 693,rf 693,rf 693]),kk 697 (fl bf [.builtin "object.__init_subclass__",rf 693])]
noncomputable def T17 (P:Params):BT:=F0 (S0 (d16 P)) (T16 P)
noncomputable def d17 (P:Params):LO:=[(3,du [(0,vs "lendcore.memory" 1194)] [en P "UNINIT" 1197 (.ref 698),en P "OWNER" 1199 (.int 0 1198),en P "MOST_CELLS" 1201 (.int 200000 1200),en P "pointer" 1210 (.ref 705),en P "moved" 1218 (.ref 712),en P "Allocation" 1247 (.ref 727)]),kk 698 (tp [vs "uninit" 1196]),(12,tu [zi 667,zi 0,rf 704,zi 669,zi 0,rf 711,zi 671,zi 0,rf 718]),kt 699,kb 700,kk 701 (tp [vs "allocation" 1205,vs "offset" 1206,vs "tag" 1207]),kt 702,kk 703 (fr (A6 91) "pointer"),kk 704 (co "pointer" "pointer" 1202 667 3 3 699 true 700 701 702 703 1208),kk 705 (fu (A6 91) "pointer" (.none) (vs "lendcore.memory" 1194) (.ref 704)),kt 706,kb 707,kk 708 (tp [vs "place" 1214,vs "many" 1215]),kt 709,kk 710 (fr (A6 92) "moved"),kk 711 (co "moved" "moved" 1211 669 2 3 706 true 707 708 709 710 1216),kk 712 (fu (A6 92) "moved" (.none) (vs "lendcore.memory" 1194) (.ref 711)),kt 713,kk 714 (fl bf [.builtin "type.__prepare__",.type "type"]),kk 715 (di [en P "__module__" 1226 (vs "lendcore.memory" 1194),en P "__qualname__" 1228 (vs "Allocation" 1227),en P "__firstlineno__" 1230 (.int 671 1229),en P "__init__" 1236 (.ref 724),en P "__static_attributes__" 1240 (.ref 725)] 5),kt 716,kk 717 (tb [zi 673,zi 4,rf 723]),kk 718 (co "Allocation" "Allocation" 1221 671 0 0 716 false 717 0 0 0 1224),kk 719 (fm [sr 718,sr 3,sr 715,none,some (vs "lendcore.memory" 1194),none,sr 0]),kt 720,kb 721,kk 722 (fr (mth 93 0) "Allocation.__init__"),kk 723 (co "__init__" "Allocation.__init__" 1231 673 2 3 720 true 721 0 0 722 1234),kk 724 (fu (mth 93 0) "Allocation.__init__" (.none) (vs "lendcore.memory" 1194) (.ref 723)),kk 725 (tp [vs "cells" 1237,vs "is_live" 1238,vs "stacks" 1239]),kk 726 (di [en P "__module__" 1226 (vs "lendcore.memory" 1194),en P "__firstlineno__" 1230 (.int 671 1229),en P "__init__" 1236 (.ref 724),en P "__static_attributes__" 1240 (.ref 725),en P "__dict__" 1242 (.ref 728),en P "__weakref__" 1244 (.ref 729),en P "__doc__" 1245 (.none)] 4),kk 727 (cl "Allocation" [.type "object"] [rf 727,.type "object"] 726 [] [none,none,some (vs "Allocation" 1219),some (vs "Allocation" 1227),some (.builtin "object.__new__"),some (.bool true)]),kk 728 (fl "getset_descriptor" [vs "__dict__" 1241,rf 727,.builtin "function.__dict__",.builtin "function.__dict__#set"]),kk 729 (fl "getset_descriptor" [vs "__weakref__" 1243,rf 727,.builtin "ExceptionGroup.__weakref__",.none]),kk 730 (fl "super" [rf 727,rf 727,rf 727]),kk 731 (fl bf [.builtin "object.__init_subclass__",rf 727])]
noncomputable def T18 (P:Params):BT:=F0 (S0 (d17 P)) (T17 P)
noncomputable def d18 (P:Params):LO:=[(3,du [] [en P "Memory" 1391 (.ref 837)]),(12,tu [zi 677,zi 0,rf 737]),kt 732,kk 733 (fl bf [.builtin "type.__prepare__",.type "type"]),kk 734 (di [en P "__module__" 1255 (vs "lendcore.memory" 1194),en P "__qualname__" 1257 (vs "Memory" 1256),en P "__firstlineno__" 1259 (.int 677 1258),en P "__init__" 1266 (.ref 745),en P "fresh_tag" 1273 (.ref 752),en P "allocate" 1281 (.ref 759),en P "base" 1289 (.ref 766),en P "is_live" 1297 (.ref 773),en P "live_count" 1304 (.ref 780),en P "free" 1313 (.ref 787),en P "room" 1323 (.ref 794),en P "read" 1332 (.ref 801),en P "known" 1341 (.ref 808),en P "write" 1351 (.ref 815),en P "read_all" 1357 (.ref 820),en P "write_all" 1367 (.ref 827),en P "retagged" 1380 (.ref 834),en P "__static_attributes__" 1384 (.ref 835)] 18),kt 735,kk 736 (tb [zi 679,zi 4,rf 744,zi 684,zi 4,rf 751,zi 688,zi 4,rf 758,zi 695,zi 4,rf 765,zi 698,zi 4,rf 772,zi 701,zi 4,rf 779,zi 704,zi 4,rf 786,zi 711,zi 4,rf 793,zi 719,zi 4,rf 800,zi 724,zi 4,rf 807,zi 730,zi 4,rf 814,zi 735,zi 4,rf 819,zi 738,zi 4,rf 826,zi 742,zi 4,rf 833]),kk 737 (co "Memory" "Memory" 1250 677 0 0 735 false 736 0 0 0 1253),kk 738 (fm [sr 737,sr 3,sr 734,none,some (vs "lendcore.memory" 1194),none,sr 0]),kt 739,kb 740,kk 741 (tp [vs "self" 1263]),kt 742,kk 743 (fr (mth 94 0) "Memory.__init__"),kk 744 (co "__init__" "Memory.__init__" 1260 679 1 3 739 true 740 741 742 743 1264),kk 745 (fu (mth 94 0) "Memory.__init__" (.none) (vs "lendcore.memory" 1194) (.ref 744)),kt 746,kb 747,kk 748 (tp [vs "self" 1270]),kt 749,kk 750 (fr (mth 94 1) "Memory.fresh_tag"),kk 751 (co "fresh_tag" "Memory.fresh_tag" 1267 684 1 3 746 true 747 748 749 750 1271),kk 752 (fu (mth 94 1) "Memory.fresh_tag" (.none) (vs "lendcore.memory" 1194) (.ref 751)),kt 753,kb 754,kk 755 (tp [vs "self" 1277,vs "size" 1278]),kt 756,kk 757 (fr (mth 94 2) "Memory.allocate"),kk 758 (co "allocate" "Memory.allocate" 1274 688 2 3 753 true 754 755 756 757 1279),kk 759 (fu (mth 94 2) "Memory.allocate" (.none) (vs "lendcore.memory" 1194) (.ref 758)),kt 760,kb 761,kk 762 (tp [vs "self" 1285,vs "number" 1286]),kt 763,kk 764 (fr (mth 94 3) "Memory.base"),kk 765 (co "base" "Memory.base" 1282 695 2 3 760 true 761 762 763 764 1287),kk 766 (fu (mth 94 3) "Memory.base" (.none) (vs "lendcore.memory" 1194) (.ref 765)),kt 767,kb 768,kk 769 (tp [vs "self" 1293,vs "number" 1294]),kt 770,kk 771 (fr (mth 94 4) "Memory.is_live"),kk 772 (co "is_live" "Memory.is_live" 1290 698 2 3 767 true 768 769 770 771 1295),kk 773 (fu (mth 94 4) "Memory.is_live" (.none) (vs "lendcore.memory" 1194) (.ref 772)),kt 774,kb 775,kk 776 (tp [vs "self" 1301]),kt 777,kk 778 (fr (mth 94 5) "Memory.live_count"),kk 779 (co "live_count" "Memory.live_count" 1298 701 1 3 774 true 775 776 777 778 1302),kk 780 (fu (mth 94 5) "Memory.live_count" (.none) (vs "lendcore.memory" 1194) (.ref 779)),kt 781,kb 782,kk 783 (tp [vs "self" 1308,vs "number" 1309,vs "gone" 1310]),kt 784,kk 785 (fr (mth 94 6) "Memory.free"),kk 786 (co "free" "Memory.free" 1305 704 2 3 781 true 782 783 784 785 1311),kk 787 (fu (mth 94 6) "Memory.free" (.none) (vs "lendcore.memory" 1194) (.ref 786)),kt 788,kb 789,kk 790 (tp [vs "self" 1317,vs "place" 1318,vs "size" 1319,vs "found" 1320]),kt 791,kk 792 (fr (mth 94 7) "Memory.room"),kk 793 (co "room" "Memory.room" 1314 711 3 3 788 true 789 790 791 792 1321),kk 794 (fu (mth 94 7) "Memory.room" (.none) (vs "lendcore.memory" 1194) (.ref 793)),kt 795,kb 796,kk 797 (tp [vs "self" 1327,vs "place" 1328,vs "found" 1329]),kt 798,kk 799 (fr (mth 94 8) "Memory.read"),kk 800 (co "read" "Memory.read" 1324 719 2 3 795 true 796 797 798 799 1330),kk 801 (fu (mth 94 8) "Memory.read" (.none) (vs "lendcore.memory" 1194) (.ref 800)),kt 802,kb 803,kk 804 (tp [vs "self" 1336,vs "place" 1337,vs "found" 1338]),kt 805,kk 806 (fr (mth 94 9) "Memory.known"),kk 807 (co "known" "Memory.known" 1333 724 2 3 802 true 803 804 805 806 1339),kk 808 (fu (mth 94 9) "Memory.known" (.none) (vs "lendcore.memory" 1194) (.ref 807)),kt 809,kb 810,kk 811 (tp [vs "self" 1345,vs "place" 1346,vs "value" 1347,vs "found" 1348]),kt 812,kk 813 (fr (mth 94 10) "Memory.write"),kk 814 (co "write" "Memory.write" 1342 730 3 3 809 true 810 811 812 813 1349),kk 815 (fu (mth 94 10) "Memory.write" (.none) (vs "lendcore.memory" 1194) (.ref 814)),kt 816,kb 817,kk 818 (fr (mth 94 11) "Memory.read_all"),kk 819 (co "read_all" "Memory.read_all" 1352 735 3 3 816 true 817 0 0 818 1355),kk 820 (fu (mth 94 11) "Memory.read_all" (.none) (vs "lendcore.memory" 1194) (.ref 819)),kt 821,kb 822,kk 823 (tp [vs "self" 1361,vs "place" 1362,vs "values" 1363,vs "at" 1364]),kt 824,kk 825 (fr (mth 94 12) "Memory.write_all"),kk 826 (co "write_all" "Memory.write_all" 1358 738 3 3 821 true 822 823 824 825 1365),kk 827 (fu (mth 94 12) "Memory.write_all" (.none) (vs "lendcore.memory" 1194) (.ref 826)),kt 828,kb 829,kk 830 (tp [vs "self" 1371,vs "place" 1372,vs "size" 1373,vs "kind" 1374,vs "found" 1375,vs "at" 1376,vs "tag" 1377]),kt 831,kk 832 (fr (mth 94 13) "Memory.retagged"),kk 833 (co "retagged" "Memory.retagged" 1368 742 4 3 828 true 829 830 831 832 1378),kk 834 (fu (mth 94 13) "Memory.retagged" (.none) (vs "lendcore.memory" 1194) (.ref 833)),kk 835 (tp [vs "allocations" 1381,vs "many" 1382,vs "tags" 1383]),kk 836 (di [en P "__module__" 1255 (vs "lendcore.memory" 1194),en P "__firstlineno__" 1259 (.int 677 1258),en P "__init__" 1266 (.ref 745),en P "fresh_tag" 1273 (.ref 752),en P "allocate" 1281 (.ref 759),en P "base" 1289 (.ref 766),en P "is_live" 1297 (.ref 773),en P "live_count" 1304 (.ref 780),en P "free" 1313 (.ref 787),en P "room" 1323 (.ref 794),en P "read" 1332 (.ref 801),en P "known" 1341 (.ref 808),en P "write" 1351 (.ref 815),en P "read_all" 1357 (.ref 820),en P "write_all" 1367 (.ref 827),en P "retagged" 1380 (.ref 834),en P "__static_attributes__" 1384 (.ref 835),en P "__dict__" 1386 (.ref 838),en P "__weakref__" 1388 (.ref 839),en P "__doc__" 1389 (.none)] 4),kk 837 (cl "Memory" [.type "object"] [rf 837,.type "object"] 836 [] [none,none,some (vs "Memory" 1248),some (vs "Memory" 1256),some (.builtin "object.__new__"),some (.bool true)]),kk 838 (fl "getset_descriptor" [vs "__dict__" 1385,rf 837,.builtin "function.__dict__",.builtin "function.__dict__#set"]),kk 839 (fl "getset_descriptor" [vs "__weakref__" 1387,rf 837,.builtin "ExceptionGroup.__weakref__",.none]),kk 840 (fl "super" [rf 837,rf 837,rf 837]),kk 841 (fl bf [.builtin "object.__init_subclass__",rf 837])]
noncomputable def T19 (P:Params):BT:=F0 (S0 (d18 P)) (T18 P)
noncomputable def d19 (P:Params):LO:=[(3,du [(0,vs "lendcore.cells" 1392),(0,vs "lendcore.drop_glue" 1504)] [en P "is_enum" 1401 (.ref 848),en P "parts_told" 1407 (.ref 853),en P "is_of_parts" 1414 (.ref 860),en P "parts_of_cells" 1428 (.ref 867),en P "want_whole" 1441 (.ref 874),en P "is_told" 1454 (.ref 881),en P "inner_told" 1465 (.ref 888),en P "paired" 1471 (.ref 893),en P "cells_of" 1477 (.ref 899),en P "joined" 1486 (.ref 906),en P "filled" 1497 (.ref 913),en P "told_value" 1503 (.ref 918)]),(12,tu [zi 752,zi 0,rf 847,zi 754,zi 0,rf 852,zi 760,zi 0,rf 859,zi 762,zi 0,rf 866,zi 772,zi 0,rf 873,zi 783,zi 0,rf 880,zi 792,zi 0,rf 887,zi 810,zi 0,rf 892,zi 817,zi 0,rf 898,zi 840,zi 0,rf 905,zi 845,zi 0,rf 912,zi 850,zi 0,rf 917]),kt 842,kb 843,kk 844 (tp [vs "t" 1397,vs "world" 1398]),kt 845,kk 846 (fr (A6 96) "is_enum"),kk 847 (co "is_enum" "is_enum" 1394 752 2 3 842 true 843 844 845 846 1399),kk 848 (fu (A6 96) "is_enum" (.none) (vs "lendcore.cells" 1392) (.ref 847)),kt 849,kb 850,kk 851 (fr (A6 97) "parts_told"),kk 852 (co "parts_told" "parts_told" 1402 754 3 3 849 true 850 0 0 851 1405),kk 853 (fu (A6 97) "parts_told" (.none) (vs "lendcore.cells" 1392) (.ref 852)),kt 854,kb 855,kk 856 (tp [vs "t" 1411]),kt 857,kk 858 (fr (A6 98) "is_of_parts"),kk 859 (co "is_of_parts" "is_of_parts" 1408 760 1 3 854 true 855 856 857 858 1412),kk 860 (fu (A6 98) "is_of_parts" (.none) (vs "lendcore.cells" 1392) (.ref 859)),kt 861,kb 862,kk 863 (tp [vs "t" 1418,vs "cells" 1419,vs "world" 1420,vs "variant" 1421,vs "at" 1422,vs "found" 1423,vs "each" 1424,vs "many" 1425]),kt 864,kk 865 (fr (A6 99) "parts_of_cells"),kk 866 (co "parts_of_cells" "parts_of_cells" 1415 762 3 3 861 true 862 863 864 865 1426),kk 867 (fu (A6 99) "parts_of_cells" (.none) (vs "lendcore.cells" 1392) (.ref 866)),kt 868,kb 869,kk 870 (tp [vs "t" 1432,vs "cells" 1433,vs "world" 1434,vs "variant" 1435,vs "rows" 1436,vs "types_now" 1437,vs "k" 1438]),kt 871,kk 872 (fr (A6 100) "want_whole"),kk 873 (co "want_whole" "want_whole" 1429 772 3 3 868 true 869 870 871 872 1439),kk 874 (fu (A6 100) "want_whole" (.none) (vs "lendcore.cells" 1392) (.ref 873)),kt 875,kb 876,kk 877 (tp [vs "t" 1445,vs "value" 1446,vs "world" 1447,vs "left" 1448,vs "here" 1449,vs "told" 1450,vs "inner" 1451]),kt 878,kk 879 (fr (A6 101) "is_told"),kk 880 (co "is_told" "is_told" 1442 783 3 3 875 true 876 877 878 879 1452),kk 881 (fu (A6 101) "is_told" (.none) (vs "lendcore.cells" 1392) (.ref 880)),kt 882,kb 883,kk 884 (tp [vs "t" 1458,vs "value" 1459,vs "world" 1460,vs "is_whole" 1461,vs "is_there" 1462]),kt 885,kk 886 (fr (A6 102) "inner_told"),kk 887 (co "inner_told" "inner_told" 1455 792 3 3 882 true 883 884 885 886 1463),kk 888 (fu (A6 102) "inner_told" (.none) (vs "lendcore.cells" 1392) (.ref 887)),kt 889,kb 890,kk 891 (fr (A6 103) "paired"),kk 892 (co "paired" "paired" 1466 810 4 3 889 true 890 0 0 891 1469),kk 893 (fu (A6 103) "paired" (.none) (vs "lendcore.cells" 1392) (.ref 892)),kk 894 (tp [.none]),kt 895,kb 896,kk 897 (fr (A6 104) "cells_of"),kk 898 (co "cells_of" "cells_of" 1472 817 4 3 895 true 896 0 0 897 1475),kk 899 (fu (A6 104) "cells_of" (.ref 894) (vs "lendcore.cells" 1392) (.ref 898)),kt 900,kb 901,kk 902 (tp [vs "rows" 1481,vs "found" 1482,vs "row" 1483]),kt 903,kk 904 (fr (A6 105) "joined"),kk 905 (co "joined" "joined" 1478 840 1 3 900 true 901 902 903 904 1484),kk 906 (fu (A6 105) "joined" (.none) (vs "lendcore.cells" 1392) (.ref 905)),kt 907,kb 908,kk 909 (tp [vs "t" 1490,vs "variant" 1491,vs "rows" 1492,vs "world" 1493,vs "found" 1494]),kt 910,kk 911 (fr (A6 106) "filled"),kk 912 (co "filled" "filled" 1487 845 4 3 907 true 908 909 910 911 1495),kk 913 (fu (A6 106) "filled" (.none) (vs "lendcore.cells" 1392) (.ref 912)),kt 914,kb 915,kk 916 (fr (A6 107) "told_value"),kk 917 (co "told_value" "told_value" 1498 850 4 3 914 true 915 0 0 916 1501),kk 918 (fu (A6 107) "told_value" (.none) (vs "lendcore.cells" 1392) (.ref 917))]
noncomputable def T20 (P:Params):BT:=F0 (S0 (d19 P)) (T19 P)
noncomputable def d20 (P:Params):LO:=[(3,du [] [en P "jobs_of" 1513 (.ref 925),en P "DropGlue" 1580 (.ref 963),en P "offset_of_part" 1590 (.ref 974)]),(12,tu [zi 872,zi 0,rf 924,zi 874,zi 0,rf 931,zi 912,zi 0,rf 973]),kt 919,kb 920,kk 921 (tp [vs "pointer" 1509,vs "t" 1510]),kt 922,kk 923 (fr (A6 109) "jobs_of"),kk 924 (co "jobs_of" "jobs_of" 1506 872 2 3 919 true 920 921 922 923 1511),kk 925 (fu (A6 109) "jobs_of" (.none) (vs "lendcore.drop_glue" 1504) (.ref 924)),kt 926,kk 927 (fl bf [.builtin "type.__prepare__",.type "type"]),kk 928 (di [en P "__module__" 1521 (vs "lendcore.drop_glue" 1504),en P "__qualname__" 1523 (vs "DropGlue" 1522),en P "__firstlineno__" 1525 (.int 874 1524),en P "__init__" 1533 (.ref 939),en P "step" 1544 (.ref 946),en P "dropped" 1556 (.ref 953),en P "put_parts" 1570 (.ref 960),en P "__static_attributes__" 1573 (.ref 961)] 8),kt 929,kk 930 (tb [zi 876,zi 4,rf 938,zi 880,zi 4,rf 945,zi 892,zi 4,rf 952,zi 904,zi 4,rf 959]),kk 931 (co "DropGlue" "DropGlue" 1516 874 0 0 929 false 930 0 0 0 1519),kk 932 (fm [sr 931,sr 3,sr 928,none,some (vs "lendcore.drop_glue" 1504),none,sr 0]),kt 933,kb 934,kk 935 (tp [vs "self" 1529,vs "places" 1530]),kt 936,kk 937 (fr (mth 110 0) "DropGlue.__init__"),kk 938 (co "__init__" "DropGlue.__init__" 1526 876 2 3 933 true 934 935 936 937 1531),kk 939 (fu (mth 110 0) "DropGlue.__init__" (.none) (vs "lendcore.drop_glue" 1504) (.ref 938)),kt 940,kb 941,kk 942 (tp [vs "self" 1537,vs "jobs" 1538,vs "kind" 1539,vs "pointer" 1540,vs "t" 1541]),kt 943,kk 944 (fr (mth 110 1) "DropGlue.step"),kk 945 (co "step" "DropGlue.step" 1534 880 2 3 940 true 941 942 943 944 1542),kk 946 (fu (mth 110 1) "DropGlue.step" (.none) (vs "lendcore.drop_glue" 1504) (.ref 945)),kt 947,kb 948,kk 949 (tp [vs "self" 1548,vs "jobs" 1549,vs "pointer" 1550,vs "t" 1551,vs "own" 1552,vs "reference" 1553]),kt 950,kk 951 (fr (mth 110 2) "DropGlue.dropped"),kk 952 (co "dropped" "DropGlue.dropped" 1545 892 4 3 947 true 948 949 950 951 1554),kk 953 (fu (mth 110 2) "DropGlue.dropped" (.none) (vs "lendcore.drop_glue" 1504) (.ref 952)),kt 954,kb 955,kk 956 (tp [vs "self" 1560,vs "jobs" 1561,vs "pointer" 1562,vs "t" 1563,vs "variant" 1564,vs "types_now" 1565,vs "k" 1566,vs "at" 1567]),kt 957,kk 958 (fr (mth 110 3) "DropGlue.put_parts"),kk 959 (co "put_parts" "DropGlue.put_parts" 1557 904 4 3 954 true 955 956 957 958 1568),kk 960 (fu (mth 110 3) "DropGlue.put_parts" (.none) (vs "lendcore.drop_glue" 1504) (.ref 959)),kk 961 (tp [vs "places" 1571,vs "world" 1572]),kk 962 (di [en P "__module__" 1521 (vs "lendcore.drop_glue" 1504),en P "__firstlineno__" 1525 (.int 874 1524),en P "__init__" 1533 (.ref 939),en P "step" 1544 (.ref 946),en P "dropped" 1556 (.ref 953),en P "put_parts" 1570 (.ref 960),en P "__static_attributes__" 1573 (.ref 961),en P "__dict__" 1575 (.ref 964),en P "__weakref__" 1577 (.ref 965),en P "__doc__" 1578 (.none)] 4),kk 963 (cl "DropGlue" [.type "object"] [rf 963,.type "object"] 962 [] [none,none,some (vs "DropGlue" 1514),some (vs "DropGlue" 1522),some (.builtin "object.__new__"),some (.bool true)]),kk 964 (fl "getset_descriptor" [vs "__dict__" 1574,rf 963,.builtin "function.__dict__",.builtin "function.__dict__#set"]),kk 965 (fl "getset_descriptor" [vs "__weakref__" 1576,rf 963,.builtin "ExceptionGroup.__weakref__",.none]),kk 966 (fl "super" [rf 963,rf 963,rf 963]),kk 967 (fl bf [.builtin "object.__init_subclass__",rf 963]),kt 968,kb 969,kk 970 (tp [vs "t" 1584,vs "variant" 1585,vs "k" 1586,vs "world" 1587]),kt 971,kk 972 (fr (A6 111) "offset_of_part"),kk 973 (co "offset_of_part" "offset_of_part" 1581 912 4 3 968 true 969 970 971 972 1588),kk 974 (fu (A6 111) "offset_of_part" (.none) (vs "lendcore.drop_glue" 1504) (.ref 973))]
noncomputable def T21 (P:Params):BT:=F0 (S0 (d20 P)) (T20 P)
noncomputable def d21 (P:Params):LO:=[(3,du [(0,vs "lendcore.places" 1591)] [])]
noncomputable def T22 (P:Params):BT:=F0 (S0 (d21 P)) (T21 P)
noncomputable def d22 (P:Params):LO:=[(3,du [] [en P "TAG_KINDS" 1602 (.ref 975)]),kk 975 (di [en P "shared" 1593 (vs "shared" 1594),en P "mut" 1595 (vs "unique" 1596),en P "two-phase" 1597 (vs "reserved" 1598)] 3)]
noncomputable def T23 (P:Params):BT:=F0 (S0 (d22 P)) (T22 P)
noncomputable def d23 (P:Params):LO:=[(3,du [] [en P "COMPARISONS" 1609 (.ref 976),en P "is_pointer" 1616 (.ref 983),en P "of_bits" 1625 (.ref 990),en P "reckoned" 1637 (.ref 997)]),kk 976 (tp [vs "==" 1603,vs "!=" 1604,vs "<" 1605,vs "<=" 1606,vs ">" 1607,vs ">=" 1608]),(12,tu [zi 919,zi 0,rf 982,zi 921,zi 0,rf 989,zi 925,zi 0,rf 996]),kt 977,kb 978,kk 979 (tp [vs "cell" 1613]),kt 980,kk 981 (fr (A6 115) "is_pointer"),kk 982 (co "is_pointer" "is_pointer" 1610 919 1 3 977 true 978 979 980 981 1614),kk 983 (fu (A6 115) "is_pointer" (.none) (vs "lendcore.places" 1591) (.ref 982)),kt 984,kb 985,kk 986 (tp [vs "op" 1620,vs "a" 1621,vs "b" 1622]),kt 987,kk 988 (fr (A6 116) "of_bits"),kk 989 (co "of_bits" "of_bits" 1617 921 3 3 984 true 985 986 987 988 1623),kk 990 (fu (A6 116) "of_bits" (.none) (vs "lendcore.places" 1591) (.ref 989)),kt 991,kb 992,kk 993 (tp [vs "t" 1629,vs "op" 1630,vs "a" 1631,vs "b" 1632,vs "value" 1633,vs "is_over" 1634]),kt 994,kk 995 (fr (A6 117) "reckoned"),kk 996 (co "reckoned" "reckoned" 1626 925 4 3 991 true 992 993 994 995 1635),kk 997 (fu (A6 117) "reckoned" (.none) (vs "lendcore.places" 1591) (.ref 996))]
noncomputable def T24 (P:Params):BT:=F0 (S0 (d23 P)) (T23 P)
noncomputable def d24 (P:Params):LO:=[(3,du [] [en P "Places" 1753 (.ref 1070)]),(12,tu [zi 930,zi 0,rf 1003]),kt 998,kk 999 (fl bf [.builtin "type.__prepare__",.type "type"]),kk 1000 (di [en P "__module__" 1645 (vs "lendcore.places" 1591),en P "__qualname__" 1647 (vs "Places" 1646),en P "__firstlineno__" 1649 (.int 930 1648),en P "__init__" 1658 (.ref 1011),en P "home_of" 1667 (.ref 1018),en P "spot_of" 1682 (.ref 1025),en P "want_variant" 1691 (.ref 1032),en P "led" 1700 (.ref 1039),en P "element_of" 1712 (.ref 1046),en P "read" 1722 (.ref 1053),en P "leave" 1731 (.ref 1060),en P "taken" 1743 (.ref 1067),en P "__static_attributes__" 1746 (.ref 1068)] 13),kt 1001,kk 1002 (tb [zi 932,zi 4,rf 1010,zi 936,zi 4,rf 1017,zi 941,zi 4,rf 1024,zi 958,zi 4,rf 1031,zi 962,zi 4,rf 1038,zi 968,zi 4,rf 1045,zi 974,zi 4,rf 1052,zi 979,zi 4,rf 1059,zi 982,zi 4,rf 1066]),kk 1003 (co "Places" "Places" 1640 930 0 0 1001 false 1002 0 0 0 1643),kk 1004 (fm [sr 1003,sr 3,sr 1000,none,some (vs "lendcore.places" 1591),none,sr 0]),kt 1005,kb 1006,kk 1007 (tp [vs "self" 1653,vs "memory" 1654,vs "world" 1655]),kt 1008,kk 1009 (fr (mth 118 0) "Places.__init__"),kk 1010 (co "__init__" "Places.__init__" 1650 932 3 3 1005 true 1006 1007 1008 1009 1656),kk 1011 (fu (mth 118 0) "Places.__init__" (.none) (vs "lendcore.places" 1591) (.ref 1010)),kt 1012,kb 1013,kk 1014 (tp [vs "self" 1662,vs "frame" 1663,vs "local" 1664]),kt 1015,kk 1016 (fr (mth 118 1) "Places.home_of"),kk 1017 (co "home_of" "Places.home_of" 1659 936 3 3 1012 true 1013 1014 1015 1016 1665),kk 1018 (fu (mth 118 1) "Places.home_of" (.none) (vs "lendcore.places" 1591) (.ref 1017)),kt 1019,kb 1020,kk 1021 (tp [vs "self" 1671,vs "frame" 1672,vs "place" 1673,vs "local" 1674,vs "steps" 1675,vs "pointer" 1676,vs "t" 1677,vs "variant" 1678,vs "step" 1679]),kt 1022,kk 1023 (fr (mth 118 2) "Places.spot_of"),kk 1024 (co "spot_of" "Places.spot_of" 1668 941 3 3 1019 true 1020 1021 1022 1023 1680),kk 1025 (fu (mth 118 2) "Places.spot_of" (.none) (vs "lendcore.places" 1591) (.ref 1024)),kt 1026,kb 1027,kk 1028 (tp [vs "self" 1686,vs "pointer" 1687,vs "variant" 1688]),kt 1029,kk 1030 (fr (mth 118 3) "Places.want_variant"),kk 1031 (co "want_variant" "Places.want_variant" 1683 958 3 3 1026 true 1027 1028 1029 1030 1689),kk 1032 (fu (mth 118 3) "Places.want_variant" (.none) (vs "lendcore.places" 1591) (.ref 1031)),kt 1033,kb 1034,kk 1035 (tp [vs "self" 1695,vs "pointer" 1696,vs "cell" 1697]),kt 1036,kk 1037 (fr (mth 118 4) "Places.led"),kk 1038 (co "led" "Places.led" 1692 962 2 3 1033 true 1034 1035 1036 1037 1698),kk 1039 (fu (mth 118 4) "Places.led" (.none) (vs "lendcore.places" 1591) (.ref 1038)),kt 1040,kb 1041,kk 1042 (tp [vs "self" 1704,vs "frame" 1705,vs "pointer" 1706,vs "t" 1707,vs "local" 1708,vs "number" 1709]),kt 1043,kk 1044 (fr (mth 118 5) "Places.element_of"),kk 1045 (co "element_of" "Places.element_of" 1701 968 5 3 1040 true 1041 1042 1043 1044 1710),kk 1046 (fu (mth 118 5) "Places.element_of" (.none) (vs "lendcore.places" 1591) (.ref 1045)),kt 1047,kb 1048,kk 1049 (tp [vs "self" 1716,vs "pointer" 1717,vs "t" 1718,vs "cells" 1719]),kt 1050,kk 1051 (fr (mth 118 6) "Places.read"),kk 1052 (co "read" "Places.read" 1713 974 3 3 1047 true 1048 1049 1050 1051 1720),kk 1053 (fu (mth 118 6) "Places.read" (.none) (vs "lendcore.places" 1591) (.ref 1052)),kt 1054,kb 1055,kk 1056 (tp [vs "self" 1726,vs "pointer" 1727,vs "t" 1728]),kt 1057,kk 1058 (fr (mth 118 7) "Places.leave"),kk 1059 (co "leave" "Places.leave" 1723 979 3 3 1054 true 1055 1056 1057 1058 1729),kk 1060 (fu (mth 118 7) "Places.leave" (.none) (vs "lendcore.places" 1591) (.ref 1059)),kt 1061,kb 1062,kk 1063 (tp [vs "self" 1735,vs "frame" 1736,vs "operand" 1737,vs "pointer" 1738,vs "t" 1739,vs "cells" 1740]),kt 1064,kk 1065 (fr (mth 118 8) "Places.taken"),kk 1066 (co "taken" "Places.taken" 1732 982 3 3 1061 true 1062 1063 1064 1065 1741),kk 1067 (fu (mth 118 8) "Places.taken" (.none) (vs "lendcore.places" 1591) (.ref 1066)),kk 1068 (tp [vs "memory" 1744,vs "world" 1745]),kk 1069 (di [en P "__module__" 1645 (vs "lendcore.places" 1591),en P "__firstlineno__" 1649 (.int 930 1648),en P "__init__" 1658 (.ref 1011),en P "home_of" 1667 (.ref 1018),en P "spot_of" 1682 (.ref 1025),en P "want_variant" 1691 (.ref 1032),en P "led" 1700 (.ref 1039),en P "element_of" 1712 (.ref 1046),en P "read" 1722 (.ref 1053),en P "leave" 1731 (.ref 1060),en P "taken" 1743 (.ref 1067),en P "__static_attributes__" 1746 (.ref 1068),en P "__dict__" 1748 (.ref 1071),en P "__weakref__" 1750 (.ref 1072),en P "__doc__" 1751 (.none)] 4),kk 1070 (cl "Places" [.type "object"] [rf 1070,.type "object"] 1069 [] [none,none,some (vs "Places" 1638),some (vs "Places" 1646),some (.builtin "object.__new__"),some (.bool true)]),kk 1071 (fl "getset_descriptor" [vs "__dict__" 1747,rf 1070,.builtin "function.__dict__",.builtin "function.__dict__#set"]),kk 1072 (fl "getset_descriptor" [vs "__weakref__" 1749,rf 1070,.builtin "ExceptionGroup.__weakref__",.none]),kk 1073 (fl "super" [rf 1070,rf 1070,rf 1070]),kk 1074 (fl bf [.builtin "object.__init_subclass__",rf 1070])]
noncomputable def T25 (P:Params):BT:=F0 (S0 (d24 P)) (T24 P)
noncomputable def d25 (P:Params):LO:=[(3,du [] [en P "Rvalues" 1863 (.ref 1138)]),(12,tu [zi 990,zi 0,rf 1080]),kt 1075,kk 1076 (fl bf [.builtin "type.__prepare__",.type "type"]),kk 1077 (di [en P "__module__" 1761 (vs "lendcore.places" 1591),en P "__qualname__" 1763 (vs "Rvalues" 1762),en P "__firstlineno__" 1765 (.int 990 1764),en P "__init__" 1773 (.ref 1088),en P "cells" 1783 (.ref 1095),en P "reference" 1795 (.ref 1102),en P "of_two" 1812 (.ref 1109),en P "of_one" 1824 (.ref 1116),en P "variant_of" 1835 (.ref 1123),en P "boxed" 1847 (.ref 1130),en P "made" 1853 (.ref 1135),en P "__static_attributes__" 1856 (.ref 1136)] 12),kt 1078,kk 1079 (tb [zi 992,zi 4,rf 1087,zi 996,zi 4,rf 1094,zi 1012,zi 4,rf 1101,zi 1016,zi 4,rf 1108,zi 1028,zi 4,rf 1115,zi 1037,zi 4,rf 1122,zi 1043,zi 4,rf 1129,zi 1050,zi 4,rf 1134]),kk 1080 (co "Rvalues" "Rvalues" 1756 990 0 0 1078 false 1079 0 0 0 1759),kk 1081 (fm [sr 1080,sr 3,sr 1077,none,some (vs "lendcore.places" 1591),none,sr 0]),kt 1082,kb 1083,kk 1084 (tp [vs "self" 1769,vs "places" 1770]),kt 1085,kk 1086 (fr (mth 119 0) "Rvalues.__init__"),kk 1087 (co "__init__" "Rvalues.__init__" 1766 992 2 3 1082 true 1083 1084 1085 1086 1771),kk 1088 (fu (mth 119 0) "Rvalues.__init__" (.none) (vs "lendcore.places" 1591) (.ref 1087)),kt 1089,kb 1090,kk 1091 (tp [vs "self" 1777,vs "frame" 1778,vs "rvalue" 1779,vs "kind" 1780]),kt 1092,kk 1093 (fr (mth 119 1) "Rvalues.cells"),kk 1094 (co "cells" "Rvalues.cells" 1774 996 3 3 1089 true 1090 1091 1092 1093 1781),kk 1095 (fu (mth 119 1) "Rvalues.cells" (.none) (vs "lendcore.places" 1591) (.ref 1094)),kt 1096,kb 1097,kk 1098 (tp [vs "self" 1787,vs "frame" 1788,vs "kind" 1789,vs "place" 1790,vs "pointer" 1791,vs "t" 1792]),kt 1099,kk 1100 (fr (mth 119 2) "Rvalues.reference"),kk 1101 (co "reference" "Rvalues.reference" 1784 1012 4 3 1096 true 1097 1098 1099 1100 1793),kk 1102 (fu (mth 119 2) "Rvalues.reference" (.none) (vs "lendcore.places" 1591) (.ref 1101)),kt 1103,kb 1104,kk 1105 (tp [vs "self" 1799,vs "frame" 1800,vs "rvalue" 1801,vs "op" 1802,vs "first" 1803,vs "t" 1804,vs "second" 1805,vs "a" 1806,vs "b" 1807,vs "value" 1808,vs "is_over" 1809]),kt 1106,kk 1107 (fr (mth 119 3) "Rvalues.of_two"),kk 1108 (co "of_two" "Rvalues.of_two" 1796 1016 3 3 1103 true 1104 1105 1106 1107 1810),kk 1109 (fu (mth 119 3) "Rvalues.of_two" (.none) (vs "lendcore.places" 1591) (.ref 1108)),kt 1110,kb 1111,kk 1112 (tp [vs "self" 1816,vs "frame" 1817,vs "rvalue" 1818,vs "cell" 1819,vs "t" 1820,vs "cells" 1821]),kt 1113,kk 1114 (fr (mth 119 4) "Rvalues.of_one"),kk 1115 (co "of_one" "Rvalues.of_one" 1813 1028 3 3 1110 true 1111 1112 1113 1114 1822),kk 1116 (fu (mth 119 4) "Rvalues.of_one" (.none) (vs "lendcore.places" 1591) (.ref 1115)),kt 1117,kb 1118,kk 1119 (tp [vs "self" 1828,vs "frame" 1829,vs "place" 1830,vs "pointer" 1831,vs "t" 1832]),kt 1120,kk 1121 (fr (mth 119 5) "Rvalues.variant_of"),kk 1122 (co "variant_of" "Rvalues.variant_of" 1825 1037 3 3 1117 true 1118 1119 1120 1121 1833),kk 1123 (fu (mth 119 5) "Rvalues.variant_of" (.none) (vs "lendcore.places" 1591) (.ref 1122)),kt 1124,kb 1125,kk 1126 (tp [vs "self" 1839,vs "frame" 1840,vs "operand" 1841,vs "cells" 1842,vs "memory" 1843,vs "pointer" 1844]),kt 1127,kk 1128 (fr (mth 119 6) "Rvalues.boxed"),kk 1129 (co "boxed" "Rvalues.boxed" 1836 1043 3 3 1124 true 1125 1126 1127 1128 1845),kk 1130 (fu (mth 119 6) "Rvalues.boxed" (.none) (vs "lendcore.places" 1591) (.ref 1129)),kt 1131,kb 1132,kk 1133 (fr (mth 119 7) "Rvalues.made"),kk 1134 (co "made" "Rvalues.made" 1848 1050 3 3 1131 true 1132 0 0 1133 1851),kk 1135 (fu (mth 119 7) "Rvalues.made" (.none) (vs "lendcore.places" 1591) (.ref 1134)),kk 1136 (tp [vs "places" 1854,vs "world" 1855]),kk 1137 (di [en P "__module__" 1761 (vs "lendcore.places" 1591),en P "__firstlineno__" 1765 (.int 990 1764),en P "__init__" 1773 (.ref 1088),en P "cells" 1783 (.ref 1095),en P "reference" 1795 (.ref 1102),en P "of_two" 1812 (.ref 1109),en P "of_one" 1824 (.ref 1116),en P "variant_of" 1835 (.ref 1123),en P "boxed" 1847 (.ref 1130),en P "made" 1853 (.ref 1135),en P "__static_attributes__" 1856 (.ref 1136),en P "__dict__" 1858 (.ref 1139),en P "__weakref__" 1860 (.ref 1140),en P "__doc__" 1861 (.none)] 4),kk 1138 (cl "Rvalues" [.type "object"] [rf 1138,.type "object"] 1137 [] [none,none,some (vs "Rvalues" 1754),some (vs "Rvalues" 1762),some (.builtin "object.__new__"),some (.bool true)]),kk 1139 (fl "getset_descriptor" [vs "__dict__" 1857,rf 1138,.builtin "function.__dict__",.builtin "function.__dict__#set"]),kk 1140 (fl "getset_descriptor" [vs "__weakref__" 1859,rf 1138,.builtin "ExceptionGroup.__weakref__",.none]),kk 1141 (fl "super" [rf 1138,rf 1138,rf 1138]),kk 1142 (fl bf [.builtin "object.__init_subclass__",rf 1138])]
noncomputable def T26 (P:Params):BT:=F0 (S0 (d25 P)) (T25 P)
noncomputable def d26 (P:Params):LO:=[(3,du [(0,vs "lendcore.machine" 1864)] [en P "Frame" 1910 (.ref 1166),en P "told_live" 1921 (.ref 1177)]),(12,tu [zi 1056,zi 0,rf 1148,zi 1070,zi 0,rf 1176]),kt 1143,kk 1144 (fl bf [.builtin "type.__prepare__",.type "type"]),kk 1145 (di [en P "__module__" 1873 (vs "lendcore.machine" 1864),en P "__qualname__" 1875 (vs "Frame" 1874),en P "__firstlineno__" 1877 (.int 1056 1876),en P "__init__" 1887 (.ref 1156),en P "go" 1895 (.ref 1163),en P "__static_attributes__" 1903 (.ref 1164)] 6),kt 1146,kk 1147 (tb [zi 1058,zi 4,rf 1155,zi 1067,zi 4,rf 1162]),kk 1148 (co "Frame" "Frame" 1868 1056 0 0 1146 false 1147 0 0 0 1871),kk 1149 (fm [sr 1148,sr 3,sr 1145,none,some (vs "lendcore.machine" 1864),none,sr 0]),kt 1150,kb 1151,kk 1152 (tp [vs "self" 1881,vs "body" 1882,vs "target" 1883,vs "after" 1884]),kt 1153,kk 1154 (fr (mth 121 0) "Frame.__init__"),kk 1155 (co "__init__" "Frame.__init__" 1878 1058 4 3 1150 true 1151 1152 1153 1154 1885),kk 1156 (fu (mth 121 0) "Frame.__init__" (.none) (vs "lendcore.machine" 1864) (.ref 1155)),kt 1157,kb 1158,kk 1159 (tp [vs "self" 1891,vs "block" 1892]),kt 1160,kk 1161 (fr (mth 121 1) "Frame.go"),kk 1162 (co "go" "Frame.go" 1888 1067 2 3 1157 true 1158 1159 1160 1161 1893),kk 1163 (fu (mth 121 1) "Frame.go" (.none) (vs "lendcore.machine" 1864) (.ref 1162)),kk 1164 (tp [vs "after" 1896,vs "block" 1897,vs "body" 1898,vs "homes" 1899,vs "index" 1900,vs "jobs" 1901,vs "target" 1902]),kk 1165 (di [en P "__module__" 1873 (vs "lendcore.machine" 1864),en P "__firstlineno__" 1877 (.int 1056 1876),en P "__init__" 1887 (.ref 1156),en P "go" 1895 (.ref 1163),en P "__static_attributes__" 1903 (.ref 1164),en P "__dict__" 1905 (.ref 1167),en P "__weakref__" 1907 (.ref 1168),en P "__doc__" 1908 (.none)] 4),kk 1166 (cl "Frame" [.type "object"] [rf 1166,.type "object"] 1165 [] [none,none,some (vs "Frame" 1866),some (vs "Frame" 1874),some (.builtin "object.__new__"),some (.bool true)]),kk 1167 (fl "getset_descriptor" [vs "__dict__" 1904,rf 1166,.builtin "function.__dict__",.builtin "function.__dict__#set"]),kk 1168 (fl "getset_descriptor" [vs "__weakref__" 1906,rf 1166,.builtin "ExceptionGroup.__weakref__",.none]),kk 1169 (fl "super" [rf 1166,rf 1166,rf 1166]),kk 1170 (fl bf [.builtin "object.__init_subclass__",rf 1166]),kt 1171,kb 1172,kk 1173 (tp [vs "body" 1914,vs "found" 1915,vs "statements" 1916,vs "terminator" 1917,vs "statement" 1918]),kt 1174,kk 1175 (fr (A6 122) "told_live"),kk 1176 (co "told_live" "told_live" 1911 1070 1 3 1171 true 1172 1173 1174 1175 1919),kk 1177 (fu (A6 122) "told_live" (.none) (vs "lendcore.machine" 1864) (.ref 1176))]
noncomputable def T27 (P:Params):BT:=F0 (S0 (d26 P)) (T26 P)
noncomputable def d27 (P:Params):LO:=[(3,du [] [en P "Machine" 2098 (.ref 1281)]),(12,tu [zi 1077,zi 0,rf 1183]),kt 1178,kk 1179 (fl bf [.builtin "type.__prepare__",.type "type"]),kk 1180 (di [en P "__module__" 1929 (vs "lendcore.machine" 1864),en P "__qualname__" 1931 (vs "Machine" 1930),en P "__firstlineno__" 1933 (.int 1077 1932),en P "__init__" 1944 (.ref 1191),en P "run" 1952 (.ref 1198),en P "input_rows" 1958 (.ref 1203),en P "body_of" 1966 (.ref 1210),en P "enter" 1980 (.ref 1217),en P "make_home" 1989 (.ref 1224),en P "give_back" 1998 (.ref 1231),en P "leave" 2009 (.ref 1238),en P "step" 2020 (.ref 1245),en P "do_statement" 2033 (.ref 1252),en P "do_terminator" 2045 (.ref 1259),en P "do_switch" 2058 (.ref 1266),en P "do_assert" 2072 (.ref 1273),en P "do_call" 2078 (.ref 1278),en P "__static_attributes__" 2091 (.ref 1279)] 18),kt 1181,kk 1182 (tb [zi 1079,zi 4,rf 1190,zi 1093,zi 4,rf 1197,zi 1103,zi 4,rf 1202,zi 1113,zi 4,rf 1209,zi 1118,zi 4,rf 1216,zi 1131,zi 4,rf 1223,zi 1135,zi 4,rf 1230,zi 1139,zi 4,rf 1237,zi 1154,zi 4,rf 1244,zi 1167,zi 4,rf 1251,zi 1181,zi 4,rf 1258,zi 1202,zi 4,rf 1265,zi 1212,zi 4,rf 1272,zi 1219,zi 4,rf 1277]),kk 1183 (co "Machine" "Machine" 1924 1077 0 0 1181 false 1182 0 0 0 1927),kk 1184 (fm [sr 1183,sr 3,sr 1180,none,some (vs "lendcore.machine" 1864),none,sr 0]),kt 1185,kb 1186,kk 1187 (tp [vs "self" 1937,vs "program" 1938,vs "world" 1939,vs "inputs" 1940,vs "fuel" 1941]),kt 1188,kk 1189 (fr (mth 123 0) "Machine.__init__"),kk 1190 (co "__init__" "Machine.__init__" 1934 1079 5 3 1185 true 1186 1187 1188 1189 1942),kk 1191 (fu (mth 123 0) "Machine.__init__" (.none) (vs "lendcore.machine" 1864) (.ref 1190)),kt 1192,kb 1193,kk 1194 (tp [vs "self" 1948,vs "key" 1949]),kt 1195,kk 1196 (fr (mth 123 1) "Machine.run"),kk 1197 (co "run" "Machine.run" 1945 1093 2 3 1192 true 1193 1194 1195 1196 1950),kk 1198 (fu (mth 123 1) "Machine.run" (.none) (vs "lendcore.machine" 1864) (.ref 1197)),kt 1199,kb 1200,kk 1201 (fr (mth 123 2) "Machine.input_rows"),kk 1202 (co "input_rows" "Machine.input_rows" 1953 1103 2 3 1199 true 1200 0 0 1201 1956),kk 1203 (fu (mth 123 2) "Machine.input_rows" (.none) (vs "lendcore.machine" 1864) (.ref 1202)),kt 1204,kb 1205,kk 1206 (tp [vs "self" 1962,vs "key" 1963]),kt 1207,kk 1208 (fr (mth 123 3) "Machine.body_of"),kk 1209 (co "body_of" "Machine.body_of" 1959 1113 2 3 1204 true 1205 1206 1207 1208 1964),kk 1210 (fu (mth 123 3) "Machine.body_of" (.none) (vs "lendcore.machine" 1864) (.ref 1209)),kt 1211,kb 1212,kk 1213 (tp [vs "self" 1970,vs "key" 1971,vs "rows" 1972,vs "target" 1973,vs "after" 1974,vs "frame" 1975,vs "local" 1976,vs "k" 1977]),kt 1214,kk 1215 (fr (mth 123 4) "Machine.enter"),kk 1216 (co "enter" "Machine.enter" 1967 1118 5 3 1211 true 1212 1213 1214 1215 1978),kk 1217 (fu (mth 123 4) "Machine.enter" (.none) (vs "lendcore.machine" 1864) (.ref 1216)),kt 1218,kb 1219,kk 1220 (tp [vs "self" 1984,vs "frame" 1985,vs "local" 1986]),kt 1221,kk 1222 (fr (mth 123 5) "Machine.make_home"),kk 1223 (co "make_home" "Machine.make_home" 1981 1131 3 3 1218 true 1219 1220 1221 1222 1987),kk 1224 (fu (mth 123 5) "Machine.make_home" (.none) (vs "lendcore.machine" 1864) (.ref 1223)),kt 1225,kb 1226,kk 1227 (tp [vs "self" 1993,vs "frame" 1994,vs "local" 1995]),kt 1228,kk 1229 (fr (mth 123 6) "Machine.give_back"),kk 1230 (co "give_back" "Machine.give_back" 1990 1135 3 3 1225 true 1226 1227 1228 1229 1996),kk 1231 (fu (mth 123 6) "Machine.give_back" (.none) (vs "lendcore.machine" 1864) (.ref 1230)),kt 1232,kb 1233,kk 1234 (tp [vs "self" 2002,vs "frame" 2003,vs "t" 2004,vs "cells" 2005,vs "local" 2006]),kt 1235,kk 1236 (fr (mth 123 7) "Machine.leave"),kk 1237 (co "leave" "Machine.leave" 1999 1139 2 3 1232 true 1233 1234 1235 1236 2007),kk 1238 (fu (mth 123 7) "Machine.leave" (.none) (vs "lendcore.machine" 1864) (.ref 1237)),kt 1239,kb 1240,kk 1241 (tp [vs "self" 2013,vs "frame" 2014,vs "call" 2015,vs "statements" 2016,vs "terminator" 2017]),kt 1242,kk 1243 (fr (mth 123 8) "Machine.step"),kk 1244 (co "step" "Machine.step" 2010 1154 2 3 1239 true 1240 1241 1242 1243 2018),kk 1245 (fu (mth 123 8) "Machine.step" (.none) (vs "lendcore.machine" 1864) (.ref 1244)),kt 1246,kb 1247,kk 1248 (tp [vs "self" 2024,vs "frame" 2025,vs "statement" 2026,vs "kind" 2027,vs "cells" 2028,vs "pointer" 2029,vs "t" 2030]),kt 1249,kk 1250 (fr (mth 123 9) "Machine.do_statement"),kk 1251 (co "do_statement" "Machine.do_statement" 2021 1167 3 3 1246 true 1247 1248 1249 1250 2031),kk 1252 (fu (mth 123 9) "Machine.do_statement" (.none) (vs "lendcore.machine" 1864) (.ref 1251)),kt 1253,kb 1254,kk 1255 (tp [vs "self" 2037,vs "frame" 2038,vs "terminator" 2039,vs "kind" 2040,vs "pointer" 2041,vs "t" 2042]),kt 1256,kk 1257 (fr (mth 123 10) "Machine.do_terminator"),kk 1258 (co "do_terminator" "Machine.do_terminator" 2034 1181 3 3 1253 true 1254 1255 1256 1257 2043),kk 1259 (fu (mth 123 10) "Machine.do_terminator" (.none) (vs "lendcore.machine" 1864) (.ref 1258)),kt 1260,kb 1261,kk 1262 (tp [vs "self" 2049,vs "frame" 2050,vs "terminator" 2051,vs "value" 2052,vs "goal" 2053,vs "one" 2054,vs "block" 2055]),kt 1263,kk 1264 (fr (mth 123 11) "Machine.do_switch"),kk 1265 (co "do_switch" "Machine.do_switch" 2046 1202 3 3 1260 true 1261 1262 1263 1264 2056),kk 1266 (fu (mth 123 11) "Machine.do_switch" (.none) (vs "lendcore.machine" 1864) (.ref 1265)),kt 1267,kb 1268,kk 1269 (tp [vs "self" 2062,vs "frame" 2063,vs "terminator" 2064,vs "kind" 2065,vs "operand" 2066,vs "expected" 2067,vs "text" 2068,vs "block" 2069]),kt 1270,kk 1271 (fr (mth 123 12) "Machine.do_assert"),kk 1272 (co "do_assert" "Machine.do_assert" 2059 1212 3 3 1267 true 1268 1269 1270 1271 2070),kk 1273 (fu (mth 123 12) "Machine.do_assert" (.none) (vs "lendcore.machine" 1864) (.ref 1272)),kt 1274,kb 1275,kk 1276 (fr (mth 123 13) "Machine.do_call"),kk 1277 (co "do_call" "Machine.do_call" 2073 1219 3 3 1274 true 1275 0 0 1276 2076),kk 1278 (fu (mth 123 13) "Machine.do_call" (.none) (vs "lendcore.machine" 1864) (.ref 1277)),kk 1279 (tp [vs "frames" 2079,vs "fuel" 2080,vs "glue" 2081,vs "inputs" 2082,vs "late" 2083,vs "memory" 2084,vs "outcome" 2085,vs "places" 2086,vs "prints" 2087,vs "program" 2088,vs "rvalues" 2089,vs "world" 2090]),kk 1280 (di [en P "__module__" 1929 (vs "lendcore.machine" 1864),en P "__firstlineno__" 1933 (.int 1077 1932),en P "__init__" 1944 (.ref 1191),en P "run" 1952 (.ref 1198),en P "input_rows" 1958 (.ref 1203),en P "body_of" 1966 (.ref 1210),en P "enter" 1980 (.ref 1217),en P "make_home" 1989 (.ref 1224),en P "give_back" 1998 (.ref 1231),en P "leave" 2009 (.ref 1238),en P "step" 2020 (.ref 1245),en P "do_statement" 2033 (.ref 1252),en P "do_terminator" 2045 (.ref 1259),en P "do_switch" 2058 (.ref 1266),en P "do_assert" 2072 (.ref 1273),en P "do_call" 2078 (.ref 1278),en P "__static_attributes__" 2091 (.ref 1279),en P "__dict__" 2093 (.ref 1282),en P "__weakref__" 2095 (.ref 1283),en P "__doc__" 2096 (.none)] 4),kk 1281 (cl "Machine" [.type "object"] [rf 1281,.type "object"] 1280 [] [none,none,some (vs "Machine" 1922),some (vs "Machine" 1930),some (.builtin "object.__new__"),some (.bool true)]),kk 1282 (fl "getset_descriptor" [vs "__dict__" 2092,rf 1281,.builtin "function.__dict__",.builtin "function.__dict__#set"]),kk 1283 (fl "getset_descriptor" [vs "__weakref__" 2094,rf 1281,.builtin "ExceptionGroup.__weakref__",.none]),kk 1284 (fl "super" [rf 1281,rf 1281,rf 1281]),kk 1285 (fl bf [.builtin "object.__init_subclass__",rf 1281])]
noncomputable def T28 (P:Params):BT:=F0 (S0 (d27 P)) (T27 P)
noncomputable def d28 (P:Params):LO:=[(3,du [(0,vs "lendcore.world" 2099)] [en P "Adt" 2142 (.ref 1304)]),(12,tu [zi 1224,zi 0,rf 1291]),kt 1286,kk 1287 (fl bf [.builtin "type.__prepare__",.type "type"]),kk 1288 (di [en P "__module__" 2108 (vs "lendcore.world" 2099),en P "__qualname__" 2110 (vs "Adt" 2109),en P "__firstlineno__" 2112 (.int 1224 2111),en P "__init__" 2127 (.ref 1301),en P "__static_attributes__" 2135 (.ref 1302)] 5),kt 1289,kk 1290 (tb [zi 1226,zi 4,rf 1300]),kk 1291 (co "Adt" "Adt" 2103 1224 0 0 1289 false 1290 0 0 0 2106),kk 1292 (fm [sr 1291,sr 3,sr 1288,none,some (vs "lendcore.world" 2099),none,sr 0]),kt 1293,kk 1294 (tp [vs "" 2113,rf 1293]),kt 1295,kb 1296,kk 1297 (tp [vs "self" 2117,vs "path" 2118,vs "regions" 2119,vs "params" 2120,vs "variants" 2121,vs "is_enum" 2122,vs "module" 2123,vs "publics" 2124]),kt 1298,kk 1299 (fr (mth 125 0) "Adt.__init__"),kk 1300 (co "__init__" "Adt.__init__" 2114 1226 8 3 1295 true 1296 1297 1298 1299 2125),kk 1301 (fu (mth 125 0) "Adt.__init__" (.ref 1294) (vs "lendcore.world" 2099) (.ref 1300)),kk 1302 (tp [vs "is_enum" 2128,vs "module" 2129,vs "params" 2130,vs "path" 2131,vs "publics" 2132,vs "regions" 2133,vs "variants" 2134]),kk 1303 (di [en P "__module__" 2108 (vs "lendcore.world" 2099),en P "__firstlineno__" 2112 (.int 1224 2111),en P "__init__" 2127 (.ref 1301),en P "__static_attributes__" 2135 (.ref 1302),en P "__dict__" 2137 (.ref 1305),en P "__weakref__" 2139 (.ref 1306),en P "__doc__" 2140 (.none)] 4),kk 1304 (cl "Adt" [.type "object"] [rf 1304,.type "object"] 1303 [] [none,none,some (vs "Adt" 2101),some (vs "Adt" 2109),some (.builtin "object.__new__"),some (.bool true)]),kk 1305 (fl "getset_descriptor" [vs "__dict__" 2136,rf 1304,.builtin "function.__dict__",.builtin "function.__dict__#set"]),kk 1306 (fl "getset_descriptor" [vs "__weakref__" 2138,rf 1304,.builtin "ExceptionGroup.__weakref__",.none]),kk 1307 (fl "super" [rf 1304,rf 1304,rf 1304]),kk 1308 (fl bf [.builtin "object.__init_subclass__",rf 1304])]
noncomputable def T29 (P:Params):BT:=F0 (S0 (d28 P)) (T28 P)
noncomputable def d29 (P:Params):LO:=[(3,du [] [en P "Sig" 2185 (.ref 1325)]),(12,tu [zi 1234,zi 0,rf 1314]),kt 1309,kk 1310 (fl bf [.builtin "type.__prepare__",.type "type"]),kk 1311 (di [en P "__module__" 2150 (vs "lendcore.world" 2099),en P "__qualname__" 2152 (vs "Sig" 2151),en P "__firstlineno__" 2154 (.int 1234 2153),en P "__init__" 2169 (.ref 1322),en P "__static_attributes__" 2178 (.ref 1323)] 5),kt 1312,kk 1313 (tb [zi 1236,zi 4,rf 1321]),kk 1314 (co "Sig" "Sig" 2145 1234 0 0 1312 false 1313 0 0 0 2148),kk 1315 (fm [sr 1314,sr 3,sr 1311,none,some (vs "lendcore.world" 2099),none,sr 0]),kt 1316,kb 1317,kk 1318 (tp [vs "self" 2158,vs "path" 2159,vs "regions" 2160,vs "params" 2161,vs "own" 2162,vs "inputs" 2163,vs "output" 2164,vs "self_kind" 2165,vs "has_body" 2166]),kt 1319,kk 1320 (fr (mth 126 0) "Sig.__init__"),kk 1321 (co "__init__" "Sig.__init__" 2155 1236 9 3 1316 true 1317 1318 1319 1320 2167),kk 1322 (fu (mth 126 0) "Sig.__init__" (.none) (vs "lendcore.world" 2099) (.ref 1321)),kk 1323 (tp [vs "has_body" 2170,vs "inputs" 2171,vs "output" 2172,vs "own" 2173,vs "params" 2174,vs "path" 2175,vs "regions" 2176,vs "self_kind" 2177]),kk 1324 (di [en P "__module__" 2150 (vs "lendcore.world" 2099),en P "__firstlineno__" 2154 (.int 1234 2153),en P "__init__" 2169 (.ref 1322),en P "__static_attributes__" 2178 (.ref 1323),en P "__dict__" 2180 (.ref 1326),en P "__weakref__" 2182 (.ref 1327),en P "__doc__" 2183 (.none)] 4),kk 1325 (cl "Sig" [.type "object"] [rf 1325,.type "object"] 1324 [] [none,none,some (vs "Sig" 2143),some (vs "Sig" 2151),some (.builtin "object.__new__"),some (.bool true)]),kk 1326 (fl "getset_descriptor" [vs "__dict__" 2179,rf 1325,.builtin "function.__dict__",.builtin "function.__dict__#set"]),kk 1327 (fl "getset_descriptor" [vs "__weakref__" 2181,rf 1325,.builtin "ExceptionGroup.__weakref__",.none]),kk 1328 (fl "super" [rf 1325,rf 1325,rf 1325]),kk 1329 (fl bf [.builtin "object.__init_subclass__",rf 1325])]
noncomputable def T30 (P:Params):BT:=F0 (S0 (d29 P)) (T29 P)
noncomputable def d30 (P:Params):LO:=[(3,du [] [en P "TraitRow" 2220 (.ref 1346)]),(12,tu [zi 1245,zi 0,rf 1335]),kt 1330,kk 1331 (fl bf [.builtin "type.__prepare__",.type "type"]),kk 1332 (di [en P "__module__" 2193 (vs "lendcore.world" 2099),en P "__qualname__" 2195 (vs "TraitRow" 2194),en P "__firstlineno__" 2197 (.int 1245 2196),en P "__init__" 2208 (.ref 1343),en P "__static_attributes__" 2213 (.ref 1344)] 5),kt 1333,kk 1334 (tb [zi 1247,zi 4,rf 1342]),kk 1335 (co "TraitRow" "TraitRow" 2188 1245 0 0 1333 false 1334 0 0 0 2191),kk 1336 (fm [sr 1335,sr 3,sr 1332,none,some (vs "lendcore.world" 2099),none,sr 0]),kt 1337,kb 1338,kk 1339 (tp [vs "self" 2201,vs "path" 2202,vs "params" 2203,vs "methods" 2204,vs "defaults" 2205]),kt 1340,kk 1341 (fr (mth 127 0) "TraitRow.__init__"),kk 1342 (co "__init__" "TraitRow.__init__" 2198 1247 5 3 1337 true 1338 1339 1340 1341 2206),kk 1343 (fu (mth 127 0) "TraitRow.__init__" (.none) (vs "lendcore.world" 2099) (.ref 1342)),kk 1344 (tp [vs "defaults" 2209,vs "methods" 2210,vs "params" 2211,vs "path" 2212]),kk 1345 (di [en P "__module__" 2193 (vs "lendcore.world" 2099),en P "__firstlineno__" 2197 (.int 1245 2196),en P "__init__" 2208 (.ref 1343),en P "__static_attributes__" 2213 (.ref 1344),en P "__dict__" 2215 (.ref 1347),en P "__weakref__" 2217 (.ref 1348),en P "__doc__" 2218 (.none)] 4),kk 1346 (cl "TraitRow" [.type "object"] [rf 1346,.type "object"] 1345 [] [none,none,some (vs "TraitRow" 2186),some (vs "TraitRow" 2194),some (.builtin "object.__new__"),some (.bool true)]),kk 1347 (fl "getset_descriptor" [vs "__dict__" 2214,rf 1346,.builtin "function.__dict__",.builtin "function.__dict__#set"]),kk 1348 (fl "getset_descriptor" [vs "__weakref__" 2216,rf 1346,.builtin "ExceptionGroup.__weakref__",.none]),kk 1349 (fl "super" [rf 1346,rf 1346,rf 1346]),kk 1350 (fl bf [.builtin "object.__init_subclass__",rf 1346])]
noncomputable def T31 (P:Params):BT:=F0 (S0 (d30 P)) (T30 P)
noncomputable def d31 (P:Params):LO:=[(3,du [] [en P "ImplRow" 2264 (.ref 1368)]),(12,tu [zi 1252,zi 0,rf 1356]),kt 1351,kk 1352 (fl bf [.builtin "type.__prepare__",.type "type"]),kk 1353 (di [en P "__module__" 2228 (vs "lendcore.world" 2099),en P "__qualname__" 2230 (vs "ImplRow" 2229),en P "__firstlineno__" 2232 (.int 1252 2231),en P "__init__" 2248 (.ref 1365),en P "__static_attributes__" 2257 (.ref 1366)] 5),kt 1354,kk 1355 (tb [zi 1254,zi 4,rf 1364]),kk 1356 (co "ImplRow" "ImplRow" 2223 1252 0 0 1354 false 1355 0 0 0 2226),kk 1357 (fm [sr 1356,sr 3,sr 1353,none,some (vs "lendcore.world" 2099),none,sr 0]),kk 1358 (tp [.int 0 2233]),kt 1359,kb 1360,kk 1361 (tp [vs "self" 2237,vs "number" 2238,vs "regions" 2239,vs "params" 2240,vs "trait" 2241,vs "trait_args" 2242,vs "self_type" 2243,vs "methods" 2244,vs "spot" 2245]),kt 1362,kk 1363 (fr (mth 128 0) "ImplRow.__init__"),kk 1364 (co "__init__" "ImplRow.__init__" 2234 1254 9 3 1359 true 1360 1361 1362 1363 2246),kk 1365 (fu (mth 128 0) "ImplRow.__init__" (.ref 1358) (vs "lendcore.world" 2099) (.ref 1364)),kk 1366 (tp [vs "methods" 2249,vs "number" 2250,vs "params" 2251,vs "regions" 2252,vs "self_type" 2253,vs "spot" 2254,vs "trait" 2255,vs "trait_args" 2256]),kk 1367 (di [en P "__module__" 2228 (vs "lendcore.world" 2099),en P "__firstlineno__" 2232 (.int 1252 2231),en P "__init__" 2248 (.ref 1365),en P "__static_attributes__" 2257 (.ref 1366),en P "__dict__" 2259 (.ref 1369),en P "__weakref__" 2261 (.ref 1370),en P "__doc__" 2262 (.none)] 4),kk 1368 (cl "ImplRow" [.type "object"] [rf 1368,.type "object"] 1367 [] [none,none,some (vs "ImplRow" 2221),some (vs "ImplRow" 2229),some (.builtin "object.__new__"),some (.bool true)]),kk 1369 (fl "getset_descriptor" [vs "__dict__" 2258,rf 1368,.builtin "function.__dict__",.builtin "function.__dict__#set"]),kk 1370 (fl "getset_descriptor" [vs "__weakref__" 2260,rf 1368,.builtin "ExceptionGroup.__weakref__",.none]),kk 1371 (fl "super" [rf 1368,rf 1368,rf 1368]),kk 1372 (fl bf [.builtin "object.__init_subclass__",rf 1368])]
noncomputable def T32 (P:Params):BT:=F0 (S0 (d31 P)) (T31 P)
noncomputable def d32 (P:Params):LO:=[(3,du [(0,vs "law_up0061_01" 2312)] [en P "World" 2311 (.ref 1397),en P "_law_chest" 2322 (.ref 1408),en P "_law_drawer" 2331 (.ref 1415),en P "_law_one" 2339 (.ref 1422),en P "_law_plan" 2345 (.ref 1427)]),(12,tu [zi 1263,zi 0,rf 1378,zi 1278,zi 0,rf 1407,zi 1282,zi 0,rf 1414,zi 1289,zi 0,rf 1421,zi 1291,zi 0,rf 1426]),kt 1373,kk 1374 (fl bf [.builtin "type.__prepare__",.type "type"]),kk 1375 (di [en P "__module__" 2272 (vs "lendcore.world" 2099),en P "__qualname__" 2274 (vs "World" 2273),en P "__firstlineno__" 2276 (.int 1263 2275),en P "__init__" 2284 (.ref 1387),en P "is_field_seen" 2295 (.ref 1394),en P "__static_attributes__" 2304 (.ref 1395)] 6),kt 1376,kk 1377 (tb [zi 1265,zi 4,rf 1386,zi 1275,zi 4,rf 1393]),kk 1378 (co "World" "World" 2267 1263 0 0 1376 false 1377 0 0 0 2270),kk 1379 (fm [sr 1378,sr 3,sr 1375,none,some (vs "lendcore.world" 2099),none,sr 0]),kk 1380 (tp [.none]),kt 1381,kb 1382,kk 1383 (tp [vs "self" 2280,vs "modules" 2281]),kt 1384,kk 1385 (fr (mth 129 0) "World.__init__"),kk 1386 (co "__init__" "World.__init__" 2277 1265 2 3 1381 true 1382 1383 1384 1385 2282),kk 1387 (fu (mth 129 0) "World.__init__" (.ref 1380) (vs "lendcore.world" 2099) (.ref 1386)),kt 1388,kb 1389,kk 1390 (tp [vs "self" 2288,vs "path" 2289,vs "number" 2290,vs "k" 2291,vs "module" 2292]),kt 1391,kk 1392 (fr (mth 129 1) "World.is_field_seen"),kk 1393 (co "is_field_seen" "World.is_field_seen" 2285 1275 5 3 1388 true 1389 1390 1391 1392 2293),kk 1394 (fu (mth 129 1) "World.is_field_seen" (.none) (vs "lendcore.world" 2099) (.ref 1393)),kk 1395 (tp [vs "adts" 2296,vs "bodies" 2297,vs "consts" 2298,vs "impls" 2299,vs "modules" 2300,vs "sigs" 2301,vs "traits" 2302,vs "variants" 2303]),kk 1396 (di [en P "__module__" 2272 (vs "lendcore.world" 2099),en P "__firstlineno__" 2276 (.int 1263 2275),en P "__init__" 2284 (.ref 1387),en P "is_field_seen" 2295 (.ref 1394),en P "__static_attributes__" 2304 (.ref 1395),en P "__dict__" 2306 (.ref 1398),en P "__weakref__" 2308 (.ref 1399),en P "__doc__" 2309 (.none)] 4),kk 1397 (cl "World" [.type "object"] [rf 1397,.type "object"] 1396 [] [none,none,some (vs "World" 2265),some (vs "World" 2273),some (.builtin "object.__new__"),some (.bool true)]),kk 1398 (fl "getset_descriptor" [vs "__dict__" 2305,rf 1397,.builtin "function.__dict__",.builtin "function.__dict__#set"]),kk 1399 (fl "getset_descriptor" [vs "__weakref__" 2307,rf 1397,.builtin "ExceptionGroup.__weakref__",.none]),kk 1400 (fl "super" [rf 1397,rf 1397,rf 1397]),kk 1401 (fl bf [.builtin "object.__init_subclass__",rf 1397]),kt 1402,kb 1403,kk 1404 (tp [vs "script" 2317,vs "told" 2318,vs "size" 2319]),kt 1405,kk 1406 (fr (A6 131) "_law_chest"),kk 1407 (co "_law_chest" "_law_chest" 2314 1278 1 3 1402 true 1403 1404 1405 1406 2320),kk 1408 (fu (A6 131) "_law_chest" (.none) (vs "law_up0061_01" 2312) (.ref 1407)),kt 1409,kb 1410,kk 1411 (tp [vs "chest" 2326,vs "many" 2327,vs "found" 2328]),kt 1412,kk 1413 (fr (A6 132) "_law_drawer"),kk 1414 (co "_law_drawer" "_law_drawer" 2323 1282 2 3 1409 true 1410 1411 1412 1413 2329),kk 1415 (fu (A6 132) "_law_drawer" (.none) (vs "law_up0061_01" 2312) (.ref 1414)),kt 1416,kb 1417,kk 1418 (tp [vs "chest" 2335,vs "things" 2336]),kt 1419,kk 1420 (fr (A6 133) "_law_one"),kk 1421 (co "_law_one" "_law_one" 2332 1289 2 3 1416 true 1417 1418 1419 1420 2337),kk 1422 (fu (A6 133) "_law_one" (.none) (vs "law_up0061_01" 2312) (.ref 1421)),kt 1423,kb 1424,kk 1425 (fr (A6 134) "_law_plan"),kk 1426 (co "_law_plan" "_law_plan" 2340 1291 1 3 1423 true 1424 0 0 1425 2343),kk 1427 (fu (A6 134) "_law_plan" (.none) (vs "law_up0061_01" 2312) (.ref 1426))]
noncomputable def T33 (P:Params):BT:=F0 (S0 (d32 P)) (T32 P)
noncomputable def d33 (P:Params):LO:=[(3,du [] [en P "_law_types" 2351 (.ref 1434),en P "_law_body" 2357 (.ref 1439),en P "_law_reckoned" 2365 (.ref 1446),en P "_law_asked" 2376 (.ref 1453),en P "_law_low" 2388 (.ref 1460),en P "_law_high" 2399 (.ref 1467),en P "_law_two" 2410 (.ref 1474),en P "_law_sig" 2416 (.ref 1479),en P "_law_made" 2431 (.ref 1486),en P "_law_worked" 2441 (.ref 1493),en P "_law_answer" 2451 (.ref 1500),en P "law" 2457 (.ref 1505)]),(12,tu [zi 1304,zi 0,rf 1433,zi 1306,zi 0,rf 1438,zi 1308,zi 0,rf 1445,zi 1310,zi 0,rf 1452,zi 1312,zi 0,rf 1459,zi 1317,zi 0,rf 1466,zi 1321,zi 0,rf 1473,zi 1326,zi 0,rf 1478,zi 1329,zi 0,rf 1485,zi 1346,zi 0,rf 1492,zi 1349,zi 0,rf 1499,zi 1354,zi 0,rf 1504]),kt 1428,kb 1429,kt 1430,kt 1431,kk 1432 (fr (A6 135) "_law_types"),kk 1433 (co "_law_types" "_law_types" 2346 1304 0 3 1428 true 1429 1430 1431 1432 2349),kk 1434 (fu (A6 135) "_law_types" (.none) (vs "law_up0061_01" 2312) (.ref 1433)),kt 1435,kb 1436,kk 1437 (fr (A6 136) "_law_body"),kk 1438 (co "_law_body" "_law_body" 2352 1306 4 3 1435 true 1436 0 0 1437 2355),kk 1439 (fu (A6 136) "_law_body" (.none) (vs "law_up0061_01" 2312) (.ref 1438)),kt 1440,kb 1441,kk 1442 (tp [vs "sign" 2361,vs "other" 2362]),kt 1443,kk 1444 (fr (A6 137) "_law_reckoned"),kk 1445 (co "_law_reckoned" "_law_reckoned" 2358 1308 2 3 1440 true 1441 1442 1443 1444 2363),kk 1446 (fu (A6 137) "_law_reckoned" (.none) (vs "law_up0061_01" 2312) (.ref 1445)),kt 1447,kb 1448,kk 1449 (tp [vs "name" 2369,vs "T" 2370,vs "local" 2371,vs "goal" 2372,vs "behind" 2373]),kt 1450,kk 1451 (fr (A6 138) "_law_asked"),kk 1452 (co "_law_asked" "_law_asked" 2366 1310 5 3 1447 true 1448 1449 1450 1451 2374),kk 1453 (fu (A6 138) "_law_asked" (.none) (vs "law_up0061_01" 2312) (.ref 1452)),kt 1454,kb 1455,kk 1456 (tp [vs "path" 2380,vs "T" 2381,vs "told" 2382,vs "number" 2383,vs "place" 2384,vs "rows" 2385]),kt 1457,kk 1458 (fr (A6 139) "_law_low"),kk 1459 (co "_law_low" "_law_low" 2377 1312 3 3 1454 true 1455 1456 1457 1458 2386),kk 1460 (fu (A6 139) "_law_low" (.none) (vs "law_up0061_01" 2312) (.ref 1459)),kt 1461,kb 1462,kk 1463 (tp [vs "path" 2392,vs "T" 2393,vs "told" 2394,vs "number" 2395,vs "last" 2396]),kt 1464,kk 1465 (fr (A6 140) "_law_high"),kk 1466 (co "_law_high" "_law_high" 2389 1317 3 3 1461 true 1462 1463 1464 1465 2397),kk 1467 (fu (A6 140) "_law_high" (.none) (vs "law_up0061_01" 2312) (.ref 1466)),kt 1468,kb 1469,kk 1470 (tp [vs "plan" 2403,vs "number" 2404,vs "one" 2405,vs "other" 2406,vs "blocks" 2407]),kt 1471,kk 1472 (fr (A6 141) "_law_two"),kk 1473 (co "_law_two" "_law_two" 2400 1321 1 3 1468 true 1469 1470 1471 1472 2408),kk 1474 (fu (A6 141) "_law_two" (.none) (vs "law_up0061_01" 2312) (.ref 1473)),kt 1475,kb 1476,kk 1477 (fr (A6 142) "_law_sig"),kk 1478 (co "_law_sig" "_law_sig" 2411 1326 2 3 1475 true 1476 0 0 1477 2414),kk 1479 (fu (A6 142) "_law_sig" (.none) (vs "law_up0061_01" 2312) (.ref 1478)),kt 1480,kb 1481,kk 1482 (tp [vs "plan" 2420,vs "world" 2421,vs "number" 2422,vs "bodies" 2423,vs "at" 2424,vs "T" 2425,vs "head" 2426,vs "methods" 2427,vs "name" 2428]),kt 1483,kk 1484 (fr (A6 143) "_law_made"),kk 1485 (co "_law_made" "_law_made" 2417 1329 1 3 1480 true 1481 1482 1483 1484 2429),kk 1486 (fu (A6 143) "_law_made" (.none) (vs "law_up0061_01" 2312) (.ref 1485)),kt 1487,kb 1488,kk 1489 (tp [vs "one" 2435,vs "told" 2436,vs "sign" 2437,vs "number" 2438]),kt 1490,kk 1491 (fr (A6 144) "_law_worked"),kk 1492 (co "_law_worked" "_law_worked" 2432 1346 2 3 1487 true 1488 1489 1490 1491 2439),kk 1493 (fu (A6 144) "_law_worked" (.none) (vs "law_up0061_01" 2312) (.ref 1492)),kt 1494,kb 1495,kk 1496 (tp [vs "plan" 2445,vs "at" 2446,vs "word" 2447,vs "low" 2448]),kt 1497,kk 1498 (fr (A6 145) "_law_answer"),kk 1499 (co "_law_answer" "_law_answer" 2442 1349 3 3 1494 true 1495 1496 1497 1498 2449),kk 1500 (fu (A6 145) "_law_answer" (.none) (vs "law_up0061_01" 2312) (.ref 1499)),kt 1501,kb 1502,kk 1503 (fr (A6 146) "law"),kk 1504 (co "law" "law" 2452 1354 1 3 1501 true 1502 0 0 1503 2455),kk 1505 (fu (A6 146) "law" (.none) (vs "law_up0061_01" 2312) (.ref 1504))]
noncomputable def T34 (P:Params):BT:=F0 (S0 (d33 P)) (T33 P)
theorem pc0 (w:World) (os:aD):F4 pw w 271 ⟨T0 w.params,15,lf,ah [],ad,187,os⟩ (Q2 ((pw.main.body.drop 0).take 3) ⟨0,0,0,0⟩)=some (.next,⟨T1 w.params,43,lf,ah [],ad,228,os⟩,cE,⟨5,0,10,24⟩):=by kernel_rfl
theorem pc1 (w:World) (os:aD):F4 pw w 214 ⟨T1 w.params,43,lf,ah [],ad,228,os⟩ (Q2 ((pw.main.body.drop 3).take 1) ⟨5,0,10,24⟩)=some (.next,⟨T2 w.params,55,lf,ah [],ad,244,os⟩,cE,⟨11,0,12,8⟩):=by kernel_rfl
theorem pc2 (w:World) (os:aD):F4 pw w 214 ⟨T2 w.params,55,lf,ah [],ad,244,os⟩ (Q2 ((pw.main.body.drop 4).take 1) ⟨11,0,12,8⟩)=some (.next,⟨T3 w.params,67,lf,ah [],ad,260,os⟩,cE,⟨13,0,14,8⟩):=by kernel_rfl
theorem pc3 (w:World) (os:aD):F4 pw w 247 ⟨T3 w.params,67,lf,ah [],ad,260,os⟩ (Q2 ((pw.main.body.drop 5).take 1) ⟨13,0,14,8⟩)=some (.next,⟨T4 w.params,86,lf,ah [],ad,286,os⟩,cE,⟨15,0,19,24⟩):=by kernel_rfl
theorem pc4 (w:World) (os:aD):F4 pw w 392 ⟨T4 w.params,86,lf,ah [],ad,286,os⟩ (Q2 ((pw.main.body.drop 6).take 9) ⟨15,0,19,24⟩)=some (.next,⟨T5 w.params,126,lf,ah [],ad,364,os⟩,cE,⟨94,0,94,10⟩):=by kernel_rfl
theorem pc5 (w:World) (os:aD):F4 pw w 394 ⟨T5 w.params,126,lf,ah [],ad,364,os⟩ (Q2 ((pw.main.body.drop 15).take 15) ⟨94,0,94,10⟩)=some (.next,⟨T6 w.params,207,lf,ah [],ad,467,os⟩,cE,⟨210,0,210,16⟩):=by kernel_rfl
theorem pc6 (w:World) (os:aD):F4 pw w 89 ⟨T6 w.params,207,lf,ah [],ad,467,os⟩ (Q2 ((pw.main.body.drop 30).take 3) ⟨210,0,210,16⟩)=some (.next,⟨T7 w.params,226,lf,ah [],ad,491,os⟩,cE,⟨219,0,224,46⟩):=by kernel_rfl
theorem pc7 (w:World) (os:aD):F4 pw w 392 ⟨T7 w.params,226,lf,ah [],ad,491,os⟩ (Q2 ((pw.main.body.drop 33).take 1) ⟨219,0,224,46⟩)=some (.next,⟨T8 w.params,278,lf,ah [],ad,573,os⟩,cE,⟨225,0,277,88⟩):=by kernel_rfl
theorem pc8 (w:World) (os:aD):F4 pw w 231 ⟨T8 w.params,278,lf,ah [],ad,573,os⟩ (Q2 ((pw.main.body.drop 34).take 10) ⟨225,0,277,88⟩)=some (.next,⟨T9 w.params,319,lf,ah [],ad,636,os⟩,cE,⟨333,0,333,8⟩):=by kernel_rfl
theorem pc9 (w:World) (os:aD):F4 pw w 426 ⟨T9 w.params,319,lf,ah [],ad,636,os⟩ (Q2 ((pw.main.body.drop 44).take 1) ⟨333,0,333,8⟩)=some (.next,⟨T10 w.params,384,lf,ah [],ad,722,os⟩,cE,⟨334,0,359,16⟩):=by kernel_rfl
theorem F8s (w:World) (os:aD):F4 pw w 314 ⟨T10 w.params,384,lf,ah [],ad,722,os⟩ (Q2 ((pw.main.body.drop 45).take 13) ⟨334,0,359,16⟩)=some (.next,⟨T11 w.params,445,lf,ah [],ad,811,os⟩,cE,⟨417,0,423,41⟩):=by kernel_rfl
theorem F9r (w:World) (os:aD):F4 pw w 394 ⟨T11 w.params,445,lf,ah [],ad,811,os⟩ (Q2 ((pw.main.body.drop 58).take 1) ⟨417,0,423,41⟩)=some (.next,⟨T12 w.params,497,lf,ah [],ad,895,os⟩,cE,⟨424,0,493,25⟩):=by kernel_rfl
theorem F4p (w:World) (os:aD):F4 pw w 36 ⟨T12 w.params,497,lf,ah [],ad,895,os⟩ (Q2 ((pw.main.body.drop 59).take 2) ⟨424,0,493,25⟩)=some (.next,⟨T13 w.params,502,lf,ah [],ad,903,os⟩,cE,⟨507,0,507,8⟩):=by kernel_rfl
theorem B3c (w:World) (os:aD):F4 pw (w.withFollow "special-get-raises" false) 146 ⟨T13 w.params,502,lf,ah [],ad,903,os⟩ (Q2 ((pw.main.body.drop 61).take 1) ⟨507,0,507,8⟩)=some (.next,⟨T14 w.params,503,lf,ah [],ad,931,os⟩,cE,⟨508,0,508,4⟩):=by kernel_rfl
theorem B7o (w:World) (os:aD):F4 pw (w.withFollow "special-get-raises" true) 146 ⟨T13 w.params,502,lf,ah [],ad,903,os⟩ (Q2 ((pw.main.body.drop 61).take 1) ⟨507,0,507,8⟩)=some (.next,⟨T14 w.params,503,lf,ah [],ad,931,os⟩,cE,⟨508,0,508,4⟩):=by kernel_rfl
theorem F5y (w:World) (os:aD):F4 pw w 387 ⟨T14 w.params,503,lf,ah [],ad,931,os⟩ (Q2 ((pw.main.body.drop 62).take 14) ⟨508,0,508,4⟩)=some (.next,⟨T15 w.params,587,lf,ah [],ad,1039,os⟩,cE,⟨573,0,573,16⟩):=by kernel_rfl
theorem G2h (w:World) (os:aD):F4 pw w 262 ⟨T15 w.params,587,lf,ah [],ad,1039,os⟩ (Q2 ((pw.main.body.drop 76).take 10) ⟨573,0,573,16⟩)=some (.next,⟨T16 w.params,637,lf,ah [],ad,1112,os⟩,cE,⟨623,0,623,8⟩):=by kernel_rfl
theorem G1y (w:World) (os:aD):F4 pw w 418 ⟨T16 w.params,637,lf,ah [],ad,1112,os⟩ (Q2 ((pw.main.body.drop 86).take 1) ⟨623,0,623,8⟩)=some (.next,⟨T17 w.params,698,lf,ah [],ad,1194,os⟩,cE,⟨624,0,662,38⟩):=by kernel_rfl
theorem F8e (w:World) (os:aD):F4 pw w 320 ⟨T17 w.params,698,lf,ah [],ad,1194,os⟩ (Q2 ((pw.main.body.drop 87).take 7) ⟨624,0,662,38⟩)=some (.next,⟨T18 w.params,732,lf,ah [],ad,1248,os⟩,cE,⟨671,0,676,27⟩):=by kernel_rfl
theorem F7p (w:World) (os:aD):F4 pw w 648 ⟨T18 w.params,732,lf,ah [],ad,1248,os⟩ (Q2 ((pw.main.body.drop 94).take 1) ⟨671,0,676,27⟩)=some (.next,⟨T19 w.params,842,lf,ah [],ad,1392,os⟩,cE,⟨677,0,750,47⟩):=by kernel_rfl
theorem G2b (w:World) (os:aD):F4 pw w 386 ⟨T19 w.params,842,lf,ah [],ad,1392,os⟩ (Q2 ((pw.main.body.drop 95).take 14) ⟨677,0,750,47⟩)=some (.next,⟨T20 w.params,919,lf,ah [],ad,1506,os⟩,cE,⟨871,0,871,8⟩):=by kernel_rfl
theorem F9d (w:World) (os:aD):F4 pw w 395 ⟨T20 w.params,919,lf,ah [],ad,1506,os⟩ (Q2 ((pw.main.body.drop 109).take 3) ⟨871,0,871,8⟩)=some (.next,⟨T21 w.params,975,lf,ah [],ad,1591,os⟩,cE,⟨912,0,915,48⟩):=by kernel_rfl
theorem G1d (w:World) (os:aD):F4 pw w 10 ⟨T21 w.params,975,lf,ah [],ad,1591,os⟩ (Q2 ((pw.main.body.drop 112).take 1) ⟨912,0,915,48⟩)=some (.next,⟨T22 w.params,975,lf,ah [],ad,1593,os⟩,cE,⟨916,0,916,8⟩):=by kernel_rfl
theorem B4i (w:World) (os:aD):F4 pw (w.withFollow "special-get-raises" false) 56 ⟨T22 w.params,975,lf,ah [],ad,1593,os⟩ (Q2 ((pw.main.body.drop 113).take 1) ⟨916,0,916,8⟩)=some (.next,⟨T23 w.params,976,lf,ah [],ad,1603,os⟩,cE,⟨917,0,917,9⟩):=by kernel_rfl
theorem B6d (w:World) (os:aD):F4 pw (w.withFollow "special-get-raises" true) 56 ⟨T22 w.params,975,lf,ah [],ad,1593,os⟩ (Q2 ((pw.main.body.drop 113).take 1) ⟨916,0,916,8⟩)=some (.next,⟨T23 w.params,976,lf,ah [],ad,1603,os⟩,cE,⟨917,0,917,9⟩):=by kernel_rfl
theorem G1c (w:World) (os:aD):F4 pw w 111 ⟨T23 w.params,976,lf,ah [],ad,1603,os⟩ (Q2 ((pw.main.body.drop 114).take 4) ⟨917,0,917,9⟩)=some (.next,⟨T24 w.params,998,lf,ah [],ad,1638,os⟩,cE,⟨925,0,929,27⟩):=by kernel_rfl
theorem F9t (w:World) (os:aD):F4 pw w 502 ⟨T24 w.params,998,lf,ah [],ad,1638,os⟩ (Q2 ((pw.main.body.drop 118).take 1) ⟨925,0,929,27⟩)=some (.next,⟨T25 w.params,1075,lf,ah [],ad,1754,os⟩,cE,⟨930,0,989,25⟩):=by kernel_rfl
theorem F9a (w:World) (os:aD):F4 pw w 470 ⟨T25 w.params,1075,lf,ah [],ad,1754,os⟩ (Q2 ((pw.main.body.drop 119).take 1) ⟨930,0,989,25⟩)=some (.next,⟨T26 w.params,1143,lf,ah [],ad,1864,os⟩,cE,⟨990,0,1054,61⟩):=by kernel_rfl
theorem G2l (w:World) (os:aD):F4 pw w 305 ⟨T26 w.params,1143,lf,ah [],ad,1864,os⟩ (Q2 ((pw.main.body.drop 120).take 3) ⟨990,0,1054,61⟩)=some (.next,⟨T27 w.params,1178,lf,ah [],ad,1922,os⟩,cE,⟨1070,0,1076,16⟩):=by kernel_rfl
theorem F6f (w:World) (os:aD):F4 pw w 679 ⟨T27 w.params,1178,lf,ah [],ad,1922,os⟩ (Q2 ((pw.main.body.drop 123).take 1) ⟨1070,0,1076,16⟩)=some (.next,⟨T28 w.params,1286,lf,ah [],ad,2099,os⟩,cE,⟨1077,0,1222,79⟩):=by kernel_rfl
theorem F6k (w:World) (os:aD):F4 pw w 248 ⟨T28 w.params,1286,lf,ah [],ad,2099,os⟩ (Q2 ((pw.main.body.drop 124).take 2) ⟨1077,0,1222,79⟩)=some (.next,⟨T29 w.params,1309,lf,ah [],ad,2143,os⟩,cE,⟨1224,0,1233,30⟩):=by kernel_rfl
theorem F5f (w:World) (os:aD):F4 pw w 237 ⟨T29 w.params,1309,lf,ah [],ad,2143,os⟩ (Q2 ((pw.main.body.drop 126).take 1) ⟨1224,0,1233,30⟩)=some (.next,⟨T30 w.params,1330,lf,ah [],ad,2186,os⟩,cE,⟨1234,0,1244,32⟩):=by kernel_rfl
theorem F6w (w:World) (os:aD):F4 pw w 229 ⟨T30 w.params,1330,lf,ah [],ad,2186,os⟩ (Q2 ((pw.main.body.drop 127).take 1) ⟨1234,0,1244,32⟩)=some (.next,⟨T31 w.params,1351,lf,ah [],ad,2221,os⟩,cE,⟨1245,0,1251,32⟩):=by kernel_rfl
theorem G2p (w:World) (os:aD):F4 pw w 239 ⟨T31 w.params,1351,lf,ah [],ad,2221,os⟩ (Q2 ((pw.main.body.drop 128).take 1) ⟨1245,0,1251,32⟩)=some (.next,⟨T32 w.params,1373,lf,ah [],ad,2265,os⟩,cE,⟨1252,0,1262,24⟩):=by kernel_rfl
theorem F8l (w:World) (os:aD):F4 pw w 393 ⟨T32 w.params,1373,lf,ah [],ad,2265,os⟩ (Q2 ((pw.main.body.drop 129).take 6) ⟨1252,0,1262,24⟩)=some (.next,⟨T33 w.params,1428,lf,ah [],ad,2346,os⟩,cE,⟨1291,0,1303,15⟩):=by kernel_rfl
theorem G0v (w:World) (os:aD):F4 pw w 371 ⟨T33 w.params,1428,lf,ah [],ad,2346,os⟩ (Q2 ((pw.main.body.drop 135).take 12) ⟨1291,0,1303,15⟩)=some (.next,⟨T34 w.params,1506,lf,ah [],ad,2458,os⟩,cE,⟨1354,0,1363,81⟩):=by kernel_rfl
theorem D0o (l:List Stmt) (pos:Pos):piecesOf l B2y cE pos [topFrame ⟨0,0,0,0⟩]=Q2 l pos:=by
 unfold Q2
 rw [<- PySem.W.Fast.te12563942051412417395]
noncomputable def B4 (w:World) (N:Nat) (s:ak) (l:List Stmt) (pos:Pos) (r:ak):Prop:=
 topRun treeTable pw w 11 (some (.ref 6)) N s (restOf l B2y cE pos [topFrame ⟨0,0,0,0⟩])=some r
theorem D0 {w:World} {n N i c:Nat} {s s':SharedT} {pos p':Pos} {r:ak}
  (h:F4 pw w n s (Q2 ((pw.main.body.drop i).take c) pos)=some (.next,s',cE,p'))
  (k:B4 w N s'.abs (pw.main.body.drop (i + c)) p' r):B4 w (n + N) s.abs (pw.main.body.drop i) pos r:=by
 have e:pw.main.body.drop i=(pw.main.body.drop i).take c++pw.main.body.drop (i + c):=by
  rw [<- List.drop_drop,List.take_append_drop]
 unfold F4 at h
 rw [<- PySem.W.Fast.te10110043849684766642,<- PySem.W.Fast.te14364793385576792824,<- D0o] at h
 unfold B4
 rw [e]
 exact piece_app (segRun_of h) k
theorem C3s (w:World) (os:aD):B4 w 2 (au ⟨T34 w.params,1506,lf,ah [],ad,2458,os⟩) (pw.main.body.drop (135 + 12)) ⟨1354,0,1363,81⟩ (au ⟨T34 w.params,1506,lf,ah [],ad,2458,os⟩):=by
 have e:pw.main.body.drop (135 + 12)=[]:=by kernel_rfl
 unfold B4
 rw [e]
 rfl
theorem ch0 {w:World} {os:aD} {N:Nat} {r:ak} (k:B4 w N (au ⟨T1 w.params,43,lf,ah [],ad,228,os⟩) (pw.main.body.drop (0 + 3)) ⟨5,0,10,24⟩ r):B4 w (271 + N) (au ⟨T0 w.params,15,lf,ah [],ad,187,os⟩) (pw.main.body.drop 0) ⟨0,0,0,0⟩ r:=D0 (pc0 w os) k
theorem ch1 {w:World} {os:aD} {N:Nat} {r:ak} (k:B4 w N (au ⟨T2 w.params,55,lf,ah [],ad,244,os⟩) (pw.main.body.drop (3 + 1)) ⟨11,0,12,8⟩ r):B4 w (214 + N) (au ⟨T1 w.params,43,lf,ah [],ad,228,os⟩) (pw.main.body.drop 3) ⟨5,0,10,24⟩ r:=D0 (pc1 w os) k
theorem ch2 {w:World} {os:aD} {N:Nat} {r:ak} (k:B4 w N (au ⟨T3 w.params,67,lf,ah [],ad,260,os⟩) (pw.main.body.drop (4 + 1)) ⟨13,0,14,8⟩ r):B4 w (214 + N) (au ⟨T2 w.params,55,lf,ah [],ad,244,os⟩) (pw.main.body.drop 4) ⟨11,0,12,8⟩ r:=D0 (pc2 w os) k
theorem ch3 {w:World} {os:aD} {N:Nat} {r:ak} (k:B4 w N (au ⟨T4 w.params,86,lf,ah [],ad,286,os⟩) (pw.main.body.drop (5 + 1)) ⟨15,0,19,24⟩ r):B4 w (247 + N) (au ⟨T3 w.params,67,lf,ah [],ad,260,os⟩) (pw.main.body.drop 5) ⟨13,0,14,8⟩ r:=D0 (pc3 w os) k
theorem ch4 {w:World} {os:aD} {N:Nat} {r:ak} (k:B4 w N (au ⟨T5 w.params,126,lf,ah [],ad,364,os⟩) (pw.main.body.drop (6 + 9)) ⟨94,0,94,10⟩ r):B4 w (392 + N) (au ⟨T4 w.params,86,lf,ah [],ad,286,os⟩) (pw.main.body.drop 6) ⟨15,0,19,24⟩ r:=D0 (pc4 w os) k
theorem ch5 {w:World} {os:aD} {N:Nat} {r:ak} (k:B4 w N (au ⟨T6 w.params,207,lf,ah [],ad,467,os⟩) (pw.main.body.drop (15 + 15)) ⟨210,0,210,16⟩ r):B4 w (394 + N) (au ⟨T5 w.params,126,lf,ah [],ad,364,os⟩) (pw.main.body.drop 15) ⟨94,0,94,10⟩ r:=D0 (pc5 w os) k
theorem ch6 {w:World} {os:aD} {N:Nat} {r:ak} (k:B4 w N (au ⟨T7 w.params,226,lf,ah [],ad,491,os⟩) (pw.main.body.drop (30 + 3)) ⟨219,0,224,46⟩ r):B4 w (89 + N) (au ⟨T6 w.params,207,lf,ah [],ad,467,os⟩) (pw.main.body.drop 30) ⟨210,0,210,16⟩ r:=D0 (pc6 w os) k
theorem ch7 {w:World} {os:aD} {N:Nat} {r:ak} (k:B4 w N (au ⟨T8 w.params,278,lf,ah [],ad,573,os⟩) (pw.main.body.drop (33 + 1)) ⟨225,0,277,88⟩ r):B4 w (392 + N) (au ⟨T7 w.params,226,lf,ah [],ad,491,os⟩) (pw.main.body.drop 33) ⟨219,0,224,46⟩ r:=D0 (pc7 w os) k
theorem ch8 {w:World} {os:aD} {N:Nat} {r:ak} (k:B4 w N (au ⟨T9 w.params,319,lf,ah [],ad,636,os⟩) (pw.main.body.drop (34 + 10)) ⟨333,0,333,8⟩ r):B4 w (231 + N) (au ⟨T8 w.params,278,lf,ah [],ad,573,os⟩) (pw.main.body.drop 34) ⟨225,0,277,88⟩ r:=D0 (pc8 w os) k
theorem ch9 {w:World} {os:aD} {N:Nat} {r:ak} (k:B4 w N (au ⟨T10 w.params,384,lf,ah [],ad,722,os⟩) (pw.main.body.drop (44 + 1)) ⟨334,0,359,16⟩ r):B4 w (426 + N) (au ⟨T9 w.params,319,lf,ah [],ad,636,os⟩) (pw.main.body.drop 44) ⟨333,0,333,8⟩ r:=D0 (pc9 w os) k
theorem F6o {w:World} {os:aD} {N:Nat} {r:ak} (k:B4 w N (au ⟨T11 w.params,445,lf,ah [],ad,811,os⟩) (pw.main.body.drop (45 + 13)) ⟨417,0,423,41⟩ r):B4 w (314 + N) (au ⟨T10 w.params,384,lf,ah [],ad,722,os⟩) (pw.main.body.drop 45) ⟨334,0,359,16⟩ r:=D0 (F8s w os) k
theorem F5l {w:World} {os:aD} {N:Nat} {r:ak} (k:B4 w N (au ⟨T12 w.params,497,lf,ah [],ad,895,os⟩) (pw.main.body.drop (58 + 1)) ⟨424,0,493,25⟩ r):B4 w (394 + N) (au ⟨T11 w.params,445,lf,ah [],ad,811,os⟩) (pw.main.body.drop 58) ⟨417,0,423,41⟩ r:=D0 (F9r w os) k
theorem F7k {w:World} {os:aD} {N:Nat} {r:ak} (k:B4 w N (au ⟨T13 w.params,502,lf,ah [],ad,903,os⟩) (pw.main.body.drop (59 + 2)) ⟨507,0,507,8⟩ r):B4 w (36 + N) (au ⟨T12 w.params,497,lf,ah [],ad,895,os⟩) (pw.main.body.drop 59) ⟨424,0,493,25⟩ r:=D0 (F4p w os) k
theorem F7l {w:World} {os:aD} {N:Nat} {r:ak} (k:B4 w N (au ⟨T14 w.params,503,lf,ah [],ad,931,os⟩) (pw.main.body.drop (61 + 1)) ⟨508,0,508,4⟩ r):B4 w (146 + N) (au ⟨T13 w.params,502,lf,ah [],ad,903,os⟩) (pw.main.body.drop 61) ⟨507,0,507,8⟩ r:=by
 have z:=World.withFollow_self w "special-get-raises"
 cases q:w.params.followText "special-get-raises" with
 | false=>rw [q] at z; have y:=B3c w os; rw [z] at y; exact D0 y k
 | true=>rw [q] at z; have y:=B7o w os; rw [z] at y; exact D0 y k
theorem F4n {w:World} {os:aD} {N:Nat} {r:ak} (k:B4 w N (au ⟨T15 w.params,587,lf,ah [],ad,1039,os⟩) (pw.main.body.drop (62 + 14)) ⟨573,0,573,16⟩ r):B4 w (387 + N) (au ⟨T14 w.params,503,lf,ah [],ad,931,os⟩) (pw.main.body.drop 62) ⟨508,0,508,4⟩ r:=D0 (F5y w os) k
theorem G1h {w:World} {os:aD} {N:Nat} {r:ak} (k:B4 w N (au ⟨T16 w.params,637,lf,ah [],ad,1112,os⟩) (pw.main.body.drop (76 + 10)) ⟨623,0,623,8⟩ r):B4 w (262 + N) (au ⟨T15 w.params,587,lf,ah [],ad,1039,os⟩) (pw.main.body.drop 76) ⟨573,0,573,16⟩ r:=D0 (G2h w os) k
theorem F8h {w:World} {os:aD} {N:Nat} {r:ak} (k:B4 w N (au ⟨T17 w.params,698,lf,ah [],ad,1194,os⟩) (pw.main.body.drop (86 + 1)) ⟨624,0,662,38⟩ r):B4 w (418 + N) (au ⟨T16 w.params,637,lf,ah [],ad,1112,os⟩) (pw.main.body.drop 86) ⟨623,0,623,8⟩ r:=D0 (G1y w os) k
theorem F4z {w:World} {os:aD} {N:Nat} {r:ak} (k:B4 w N (au ⟨T18 w.params,732,lf,ah [],ad,1248,os⟩) (pw.main.body.drop (87 + 7)) ⟨671,0,676,27⟩ r):B4 w (320 + N) (au ⟨T17 w.params,698,lf,ah [],ad,1194,os⟩) (pw.main.body.drop 87) ⟨624,0,662,38⟩ r:=D0 (F8e w os) k
theorem G0t {w:World} {os:aD} {N:Nat} {r:ak} (k:B4 w N (au ⟨T19 w.params,842,lf,ah [],ad,1392,os⟩) (pw.main.body.drop (94 + 1)) ⟨677,0,750,47⟩ r):B4 w (648 + N) (au ⟨T18 w.params,732,lf,ah [],ad,1248,os⟩) (pw.main.body.drop 94) ⟨671,0,676,27⟩ r:=D0 (F7p w os) k
theorem G1w {w:World} {os:aD} {N:Nat} {r:ak} (k:B4 w N (au ⟨T20 w.params,919,lf,ah [],ad,1506,os⟩) (pw.main.body.drop (95 + 14)) ⟨871,0,871,8⟩ r):B4 w (386 + N) (au ⟨T19 w.params,842,lf,ah [],ad,1392,os⟩) (pw.main.body.drop 95) ⟨677,0,750,47⟩ r:=D0 (G2b w os) k
theorem F5b {w:World} {os:aD} {N:Nat} {r:ak} (k:B4 w N (au ⟨T21 w.params,975,lf,ah [],ad,1591,os⟩) (pw.main.body.drop (109 + 3)) ⟨912,0,915,48⟩ r):B4 w (395 + N) (au ⟨T20 w.params,919,lf,ah [],ad,1506,os⟩) (pw.main.body.drop 109) ⟨871,0,871,8⟩ r:=D0 (F9d w os) k
theorem F6z {w:World} {os:aD} {N:Nat} {r:ak} (k:B4 w N (au ⟨T22 w.params,975,lf,ah [],ad,1593,os⟩) (pw.main.body.drop (112 + 1)) ⟨916,0,916,8⟩ r):B4 w (10 + N) (au ⟨T21 w.params,975,lf,ah [],ad,1591,os⟩) (pw.main.body.drop 112) ⟨912,0,915,48⟩ r:=D0 (G1d w os) k
theorem G0e {w:World} {os:aD} {N:Nat} {r:ak} (k:B4 w N (au ⟨T23 w.params,976,lf,ah [],ad,1603,os⟩) (pw.main.body.drop (113 + 1)) ⟨917,0,917,9⟩ r):B4 w (56 + N) (au ⟨T22 w.params,975,lf,ah [],ad,1593,os⟩) (pw.main.body.drop 113) ⟨916,0,916,8⟩ r:=by
 have z:=World.withFollow_self w "special-get-raises"
 cases q:w.params.followText "special-get-raises" with
 | false=>rw [q] at z; have y:=B4i w os; rw [z] at y; exact D0 y k
 | true=>rw [q] at z; have y:=B6d w os; rw [z] at y; exact D0 y k
theorem F4i {w:World} {os:aD} {N:Nat} {r:ak} (k:B4 w N (au ⟨T24 w.params,998,lf,ah [],ad,1638,os⟩) (pw.main.body.drop (114 + 4)) ⟨925,0,929,27⟩ r):B4 w (111 + N) (au ⟨T23 w.params,976,lf,ah [],ad,1603,os⟩) (pw.main.body.drop 114) ⟨917,0,917,9⟩ r:=D0 (G1c w os) k
theorem G1j {w:World} {os:aD} {N:Nat} {r:ak} (k:B4 w N (au ⟨T25 w.params,1075,lf,ah [],ad,1754,os⟩) (pw.main.body.drop (118 + 1)) ⟨930,0,989,25⟩ r):B4 w (502 + N) (au ⟨T24 w.params,998,lf,ah [],ad,1638,os⟩) (pw.main.body.drop 118) ⟨925,0,929,27⟩ r:=D0 (F9t w os) k
theorem F5w {w:World} {os:aD} {N:Nat} {r:ak} (k:B4 w N (au ⟨T26 w.params,1143,lf,ah [],ad,1864,os⟩) (pw.main.body.drop (119 + 1)) ⟨990,0,1054,61⟩ r):B4 w (470 + N) (au ⟨T25 w.params,1075,lf,ah [],ad,1754,os⟩) (pw.main.body.drop 119) ⟨930,0,989,25⟩ r:=D0 (F9a w os) k
theorem F6d {w:World} {os:aD} {N:Nat} {r:ak} (k:B4 w N (au ⟨T27 w.params,1178,lf,ah [],ad,1922,os⟩) (pw.main.body.drop (120 + 3)) ⟨1070,0,1076,16⟩ r):B4 w (305 + N) (au ⟨T26 w.params,1143,lf,ah [],ad,1864,os⟩) (pw.main.body.drop 120) ⟨990,0,1054,61⟩ r:=D0 (G2l w os) k
theorem F7x {w:World} {os:aD} {N:Nat} {r:ak} (k:B4 w N (au ⟨T28 w.params,1286,lf,ah [],ad,2099,os⟩) (pw.main.body.drop (123 + 1)) ⟨1077,0,1222,79⟩ r):B4 w (679 + N) (au ⟨T27 w.params,1178,lf,ah [],ad,1922,os⟩) (pw.main.body.drop 123) ⟨1070,0,1076,16⟩ r:=D0 (F6f w os) k
theorem F9m {w:World} {os:aD} {N:Nat} {r:ak} (k:B4 w N (au ⟨T29 w.params,1309,lf,ah [],ad,2143,os⟩) (pw.main.body.drop (124 + 2)) ⟨1224,0,1233,30⟩ r):B4 w (248 + N) (au ⟨T28 w.params,1286,lf,ah [],ad,2099,os⟩) (pw.main.body.drop 124) ⟨1077,0,1222,79⟩ r:=D0 (F6k w os) k
theorem G0j {w:World} {os:aD} {N:Nat} {r:ak} (k:B4 w N (au ⟨T30 w.params,1330,lf,ah [],ad,2186,os⟩) (pw.main.body.drop (126 + 1)) ⟨1234,0,1244,32⟩ r):B4 w (237 + N) (au ⟨T29 w.params,1309,lf,ah [],ad,2143,os⟩) (pw.main.body.drop 126) ⟨1224,0,1233,30⟩ r:=D0 (F5f w os) k
theorem F5i {w:World} {os:aD} {N:Nat} {r:ak} (k:B4 w N (au ⟨T31 w.params,1351,lf,ah [],ad,2221,os⟩) (pw.main.body.drop (127 + 1)) ⟨1245,0,1251,32⟩ r):B4 w (229 + N) (au ⟨T30 w.params,1330,lf,ah [],ad,2186,os⟩) (pw.main.body.drop 127) ⟨1234,0,1244,32⟩ r:=D0 (F6w w os) k
theorem G1v {w:World} {os:aD} {N:Nat} {r:ak} (k:B4 w N (au ⟨T32 w.params,1373,lf,ah [],ad,2265,os⟩) (pw.main.body.drop (128 + 1)) ⟨1252,0,1262,24⟩ r):B4 w (239 + N) (au ⟨T31 w.params,1351,lf,ah [],ad,2221,os⟩) (pw.main.body.drop 128) ⟨1245,0,1251,32⟩ r:=D0 (G2p w os) k
theorem G2f {w:World} {os:aD} {N:Nat} {r:ak} (k:B4 w N (au ⟨T33 w.params,1428,lf,ah [],ad,2346,os⟩) (pw.main.body.drop (129 + 6)) ⟨1291,0,1303,15⟩ r):B4 w (393 + N) (au ⟨T32 w.params,1373,lf,ah [],ad,2265,os⟩) (pw.main.body.drop 129) ⟨1252,0,1262,24⟩ r:=D0 (F8l w os) k
theorem G1e {w:World} {os:aD} {N:Nat} {r:ak} (k:B4 w N (au ⟨T34 w.params,1506,lf,ah [],ad,2458,os⟩) (pw.main.body.drop (135 + 12)) ⟨1354,0,1363,81⟩ r):B4 w (371 + N) (au ⟨T33 w.params,1428,lf,ah [],ad,2346,os⟩) (pw.main.body.drop 135) ⟨1291,0,1303,15⟩ r:=D0 (G0v w os) k
noncomputable def E2l:Nat:=271 + (214 + (214 + (247 + (392 + (394 + (89 + (392 + (231 + (426 + (314 + (394 + (36 + (146 + (387 + (262 + (418 + (320 + (648 + (386 + (395 + (10 + (56 + (111 + (502 + (470 + (305 + (679 + (248 + (237 + (229 + (239 + (393 + (371 + 2)))))))))))))))))))))))))))))))))
theorem ran (w:World) (os:aD):B4 w E2l (au ⟨T0 w.params,15,lf,ah [],ad,187,os⟩) (pw.main.body.drop 0) ⟨0,0,0,0⟩ (au ⟨T34 w.params,1506,lf,ah [],ad,2458,os⟩):=
 ch0 (ch1 (ch2 (ch3 (ch4 (ch5 (ch6 (ch7 (ch8 (ch9 (F6o (F5l (F7k (F7l (F4n (G1h (F8h (F4z (G0t (G1w (F5b (F6z (G0e (F4i (G1j (F5w (F6d (F7x (F9m (G0j (F5i (G1v (G2f (G1e (C3s w os))))))))))))))))))))))))))))))))))
noncomputable def E3w (w:World) (os:aD):ak:=au ⟨T34 w.params,1506,lf,ah [],ad,2458,os⟩
theorem F5v (w:World) (os:aD):PySem.W.Fast.tw15667345088766844465 PySem.W.Fast.tw14364793385576792824 pw w 11 (some (.ref 6)) 12 ⟨boot_heap w.params,ah [],ad,boot_toks,os⟩ (topStub pw)=
  some (au ⟨T0 w.params,15,lf,ah [],ad,187,os⟩,⟨PySem.W.Fast.tw11892475500146522536 PySem.W.Fast.tw14364793385576792824 cE,cE,⟨0,0,0,0⟩,[topFrame ⟨0,0,0,0⟩]⟩):=by kernel_rfl
theorem pre (w:World) (os:aD):topGo treeTable pw w 11 (some (.ref 6)) 12 ⟨boot_heap w.params,ah [],ad,boot_toks,os⟩ (topStub pw)=
  some (au ⟨T0 w.params,15,lf,ah [],ad,187,os⟩,⟨denote treeTable cE,cE,⟨0,0,0,0⟩,[topFrame ⟨0,0,0,0⟩]⟩):=by
 have h:=F5v w os
 rw [<- PySem.W.Fast.te15667345088766844465,<- PySem.W.Fast.te11892475500146522536,<- PySem.W.Fast.te14364793385576792824] at h
 exact h
theorem C3k:blockStart (behindTheImports pw) B2y=pure ():=by kernel_rfl
theorem blk (w:World) (s:ak):segRun treeTable pw w 11 (some (.ref 6)) 1 1 s (blockOf (behindTheImports pw) B2y cE ⟨0,0,0,0⟩ [topFrame ⟨0,0,0,0⟩])=some (.next,s,cE,⟨0,0,0,0⟩):=by
 unfold blockOf
 rw [C3k]
 rfl
theorem E6i:behindTheImports pw=pw.main.body.drop 0:=by kernel_rfl
noncomputable def A4g:Nat:=12 + (1 + E2l)
theorem run (w:World) (os:aD):topRun treeTable pw w 11 (some (.ref 6)) A4g ⟨boot_heap w.params,ah [],ad,boot_toks,os⟩ (topStub pw)=some (E3w w os):=by
 refine go_top (pre w os) (piece_block (blk w _) ?_)
 have h:=ran w os
 unfold B4 at h
 rw [<- E6i] at h
 exact h
theorem opn:opening pw=plainProg pw.main.scope.names:=by kernel_rfl
theorem fen (s:ak):fenceModules? pw s=some s:=by kernel_rfl
theorem E0z:be 600 A4g=true:=by kernel_rfl
theorem D4m:∀ w:World,(fencedOpening treeTable pw w A4g).map (λs=>(s.heap,s.gens,s.drawn,s.toks))=some (boot_heap w.params,ah [],ad,boot_toks):=boot_open (p:=pw) (N:=A4g) opn E0z fen
theorem E9t (w:World):((boot_heap w.params).isNs aX && (ah ([]:List GenState)).size == 0,(boot_heap w.params).objs.size,(boot_heap w.params).nsMap aX "__annotations__")=(true,11,some (.ref 6)):=by kernel_rfl
noncomputable abbrev rW:=PySem.Challenge.rw_up0061_01
theorem ws0:(PySem.W.sreFenced rW.row.prog.main)=true:=by
  (try rw [PySem.W.Fast.te11788848310118352699]); (try rw [aq]); kernel_rfl
theorem ws1:((PySem.moduleNames rW.row.prog.main.body).isEmpty ||
        PySem.lookedIntoSs (PySem.moduleNames rW.row.prog.main.body) rW.row.prog.main.body)=true:=by
  (try rw [PySem.W.Fast.te9807087744658564304]); (try rw [aq]); (try rw [PySem.W.Fast.te12862048085361865435]); kernel_rfl
theorem ws2:(PySem.W.namesResolve rW.row.prog)=true:=by
  (try rw [PySem.W.Fast.te8377067652309620493]); (try rw [aq]); kernel_rfl
theorem ws3:(rW.row.prog.boundNames.all λn=>!PySem.W.worldNames.contains n)=true:=by
  (try rw [aY]); (try rw [bR]); (try rw [aq]); (try rw [aM]); (try rw [aO]); (try rw [PySem.W.Fast.te14412699480532031325]); kernel_rfl
theorem ro1:PySem.W.readsOut rW.row.prog rW.row.prog.main.body (aa "vars")=false:=by
  (try rw [aq]); (try rw [PySem.W.Fast.te13343964577679436407]); kernel_rfl
theorem ro2:PySem.W.readsOut rW.row.prog rW.row.prog.main.body (aa "dir")=false:=by
  (try rw [aq]); (try rw [PySem.W.Fast.te13343964577679436407]); kernel_rfl
theorem ro3:PySem.W.readsOut rW.row.prog rW.row.prog.main.body (aa "locals")=false:=by
  (try rw [aq]); (try rw [PySem.W.Fast.te13343964577679436407]); kernel_rfl
theorem ro4:List.filter (PySem.W.readsOut rW.row.prog rW.row.prog.main.body) [aa "vars",aa "dir",aa "locals"]=[]:=by
  rw [List.filter_cons,ro1,List.filter_cons,ro2,List.filter_cons,ro3]; rfl
theorem ro5:(PySem.importedModules rW.row.prog.main.body).all PySem.W.cThrough.contains=true:=by kernel_rfl
theorem ro6:PySem.W.noRoadLSs { strict:=!true,foot:=Option.none,bare:=[] } rW.row.prog.main.body=true:=by
  (try rw [PySem.W.Fast.te8326940854005059898]); (try rw [aq]); kernel_rfl
theorem ws4:(PySem.W.noRoadLSs
        { strict:=!(PySem.importedModules rW.row.prog.main.body).all PySem.W.cThrough.contains,foot:=Option.none,
          bare:=
            List.filter (PySem.W.readsOut rW.row.prog rW.row.prog.main.body)
              [aa "vars",aa "dir",aa "locals"] }
        rW.row.prog.main.body)=true:=by
  rw [ro4,ro5]; exact ro6
theorem ws5:(PySem.W.namesMeet rW.row.prog rW.row.prog.main.body λx n=>PySem.W.attrL n)=true:=by
  (try rw [bS]); (try rw [aq]); (try rw [PySem.W.Fast.te17868728402115742887]); kernel_rfl
theorem ws6:(rW.row.loose.isEmpty)=true:=by
  (try rw [aq]); kernel_rfl
theorem ws7:(rW.row.makers.isEmpty)=true:=by
  (try rw [aq]); kernel_rfl
theorem ws8:(List.isEmpty rW.row.records ||
        rW.row.raises.all λct=>
          ct.fst != PySem.ExcName.builtin "AttributeError" && ct.fst != PySem.ExcName.builtin "TypeError")=true:=by
  (try rw [aq]); (try rw [aY]); (try rw [PySem.W.Fast.te9706382859710513879]); kernel_rfl
theorem ws9:(rW.row.raises.all λct=>
        match ct.fst with
        | PySem.ExcName.builtin n=>!rW.row.prog.boundNames.contains (aa n) && !PySem.W.ofTheWorld.contains n
        | PySem.ExcName.own name=>true)=true:=by
  (try rw [aY]); (try rw [aq]); (try rw [aM]); (try rw [aO]); (try rw [bR]); (try rw [PySem.W.S.strDecS_eq]); (try rw [PySem.W.Fast.te2357444279172408678]); kernel_rfl
theorem F6s:(Decidable.decide (List.map (λx=>x.fst) rW.row.records).Nodup)=true:=by
  (try rw [PySem.W.R.mapR_eq]); (try rw [aq]); (try rw [aO]); kernel_rfl
theorem F4g:(List.all rW.row.records λx=>
        !x.fst.opensWith (aa "__") && !PySem.W.builtinNamed x.fst && rW.row.prog.boundNames.contains x.fst &&
          x.snd.all λf=>!f.fst.opensWith (aa "__"))=true:=by
  (try rw [aY]); (try rw [aq]); (try rw [PySem.W.Fast.te4857012375875476094]); (try rw [PySem.W.Fast.named_eq]); (try rw [aM]); (try rw [aO]); (try rw [bR]); kernel_rfl
theorem F9g:(rW.row.solid)=true:=by
  (try rw [PySem.W.Fast.te13582783067957832011]); (try rw [aq]); kernel_rfl
theorem F5s:(rW.row.pre.litsOk)=true:=by
  (try rw [PySem.W.Fast.te5318747976498570220]); (try rw [aq]); kernel_rfl
theorem F7m:(rW.row.post.litsOk)=true:=by
  (try rw [PySem.W.Fast.te5318747976498570220]); (try rw [aq]); kernel_rfl
theorem G1l:(rW.row.raises.all λx=>x.snd.litsOk)=true:=by
  (try rw [aY]); (try rw [aq]); (try rw [PySem.W.Fast.te5318747976498570220]); kernel_rfl
theorem F7o:(rW.row.mutates.all λi=>
        match rW.row.args[i]? with
        | Option.some sh=>!sh.arms.any PySem.W.WShape.isObj
        | Option.none=>false)=true:=by
  (try rw [aY]); (try rw [aq]); (try rw [PySem.W.Fast.te4579403493507170074]); (try rw [PySem.W.R.anyR_eq]); (try rw [PySem.W.Fast.te4274047373036748609]); kernel_rfl
theorem F5e:(rW.row.within.all λi=>Decidable.decide (i < rW.row.args.length))=true:=by
  (try rw [aY]); (try rw [aq]); kernel_rfl
theorem F8k:(Option.all (λi=>Decidable.decide (i < rW.row.args.length)) rW.row.same)=true:=by
  (try rw [aq]); kernel_rfl
theorem F6y:(rW.row.prog.boundNames.contains rW.row.name)=true:=by
  (try rw [aM]); (try rw [aO]); (try rw [bR]); (try rw [aq]); kernel_rfl
theorem F8r:(!PySem.startupNames.contains rW.row.name)=true:=by
  (try rw [aM]); (try rw [aO]); (try rw [PySem.W.Fast.te12749700546528644094]); (try rw [aq]); kernel_rfl
theorem G1m:(Decidable.decide (rW.foot<=(PySem.W.behindTheImports rW.prog).length))=true:=by
  kernel_rfl
theorem G0i:(rW.footing.all PySem.W.footLine)=true:=by
  (try rw [aY]); (try rw [PySem.W.Fast.te10501279942588096481]); kernel_rfl
theorem F9w:(PySem.W.noClassBlock rW.prog rW.footing)=true:=by
  (try rw [PySem.W.Fast.te8179353310426384613]); kernel_rfl
theorem F8m:(Option.all (λn=>Decidable.decide (63<=n)) rW.most)=true:=by
  kernel_rfl
theorem F7y:(Option.all (λn=>Decidable.decide (2 ^ 63<=n)) rW.bound)=true:=by
  kernel_rfl
theorem G2s:(PySem.W.noRoadLSs { strict:=true,foot:=Option.some rW.bound',writes:=rW.writes,may:=rW.may }
        rW.footing)=true:=by
  (try rw [PySem.W.Fast.te8326940854005059898]); (try rw [PySem.W.Fast.te797321630700447069]); (try rw [PySem.W.Fast.te9572597257264208301]); kernel_rfl
theorem F9s:(PySem.W.defStands rW.about rW.above)=true:=by
  (try rw [PySem.W.Fast.te9558739934217749035]); kernel_rfl
theorem G0x:(rW.namesIt)=true:=by
  (try rw [PySem.W.Fast.te16286561074155671207]); kernel_rfl
theorem F8x:([aa "type",aa "isinstance",aa "issubclass",
            aa "getattr",aa "hasattr"].all
        λn=>rW.about != [n])=true:=by
  (try rw [aY]); (try rw [aO]); kernel_rfl
theorem F4m:(rW.bound'.all λn=>!PySem.W.builtinNamed n || rW.about == [n] || !rW.reads n)=true:=by
  (try rw [aY]); (try rw [PySem.W.Fast.te797321630700447069]); (try rw [PySem.W.Fast.named_eq]); (try rw [aO]); (try rw [PySem.W.Fast.te6984425678791042302]); kernel_rfl
theorem F8f:(!rW.writes || (List.flatMap PySem.importedNames rW.prog.main.body).all λn=>!rW.reads n)=true:=by
  (try rw [aY]); (try rw [PySem.W.Fast.te17095254045102204799]); (try rw [PySem.W.Fast.te12879404354523853263]); (try rw [PySem.W.Fast.te6984425678791042302]); kernel_rfl
theorem G0h:((List.flatMap PySem.importedNames rW.prog.main.body).all λn=>
        !rW.reads n ||
          (PySem.drawsOf n rW.prog.main.body).all λmn=>
            mn.snd != aa "attrgetter" && mn.snd != aa "methodcaller")=true:=by
  (try rw [aY]); (try rw [PySem.W.Fast.te17095254045102204799]); (try rw [PySem.W.Fast.te12879404354523853263]); (try rw [PySem.W.Fast.te6984425678791042302]); (try rw [PySem.W.Fast.te482687673346738481]); (try rw [aO]); kernel_rfl
theorem F4k:(PySem.W.namesMeet rW.prog rW.footing λsc n=>
        (![aa "type",aa "isinstance",aa "issubclass",
                    aa "getattr",aa "hasattr"].contains
                n ||
            List.lookup n sc.names == Option.some PySem.NameKind.globalImplicit) &&
          (rW.may != Option.some n || sc.kind == PySem.ScopeKind.module ||
            List.lookup n sc.names == Option.some PySem.NameKind.globalImplicit))=true:=by
  (try rw [bS]); (try rw [aM]); (try rw [aO]); (try rw [PySem.W.Fast.te9572597257264208301]); kernel_rfl
theorem F4e:(rW.own.contains rW.name)=true:=by
  (try rw [aM]); (try rw [aO]); (try rw [bT]); kernel_rfl
theorem F4x:(rW.own.eraseDups.length == rW.own.length)=true:=by
  (try rw [PySem.W.Fast.te7723801398212525404]); (try rw [aO]); (try rw [bT]); kernel_rfl
theorem F5u:(rW.own.all λn=>!PySem.W.builtinNamed n)=true:=by
  (try rw [aY]); (try rw [bT]); (try rw [PySem.W.Fast.named_eq]); kernel_rfl
theorem G0k:(PySem.W.namesMeet rW.prog rW.above λx n=>!rW.own.contains n)=true:=by
  (try rw [bS]); (try rw [aM]); (try rw [aO]); (try rw [bT]); kernel_rfl
theorem F7d:(PySem.W.namesMeet rW.prog rW.footing λsc n=>
        sc.kind == PySem.ScopeKind.module || List.lookup n sc.names != Option.some PySem.NameKind.globalExplicit)=true:=by
  (try rw [bS]); (try rw [aO]); kernel_rfl
theorem ws:rW.wellSaid=true:=by
  unfold OpenLaw.wellSaid OpenRow.wellSaid OpenRow.partSaid looksOpen
  repeat' (with_reducible apply look_both)
  ·exact ws0
  ·exact ws1
  ·exact ws2
  ·exact ws3
  ·exact ws4
  ·exact ws5
  ·exact ws6
  ·exact ws7
  ·exact ws8
  ·exact ws9
  ·exact F6s
  ·exact F4g
  ·exact F9g
  ·exact F5s
  ·exact F7m
  ·exact G1l
  ·exact F7o
  ·exact F5e
  ·exact F8k
  ·exact F6y
  ·exact F8r
  ·exact G1m
  ·exact G0i
  ·exact F9w
  ·exact F8m
  ·exact F7y
  ·exact G2s
  ·exact F9s
  ·exact G0x
  ·exact F8x
  ·exact F4m
  ·exact F8f
  ·exact G0h
  ·exact F4k
  ·exact F4e
  ·exact F4x
  ·exact F5u
  ·exact G0k
  ·exact F7d
end
end Mine
set_option maxRecDepth 100000
set_option maxHeartbeats 0
namespace Mine
open PySem PySem.W PyProof.Rows
noncomputable section
noncomputable def qv:Program:={ pw with main:={ pw.main with body:=[A6 146] } }
noncomputable def B6:List Str:=(pw.main.scope.names.map (·.1)).filter λn=>n != "law" && n != "__name__"
noncomputable def hT (P:Params):Heap:=absHeap (T34 P) 1506 lf
theorem lk1 (P:Params):staticsOk (importedModules pw.main.body) (boot_heap P) (hT P)=true:=by rw [PySem.W.Fast.te5923862056798008813]; kernel_rfl
theorem lk2 (P:Params):namesBound pw (hT P)=true:=by kernel_rfl
theorem lk3 (P:Params):laidKept (boot_heap P) (hT P)=true:=by kernel_rfl
theorem lk4 (w:World) (os:aD):seen ((recsOf qv).map (·.name)) (ownsOf qv) [] (⟨hT w.params,ah [],ad,2458,os⟩:ak)=expectedOf qv:=by
 rw [PySem.W.Fast.te5160383126252970620,PySem.W.R.mapR_eq,PySem.W.Fast.te3399658132070893891,PySem.W.Fast.te5991557255702980513]; kernel_rfl
theorem lk5 (P:Params):(hT P).bltView=bltViewBooted:=by kernel_rfl
theorem lk6 (P:Params):(hT P).keysOk (looseW qv B6) ((recsOf qv).map (·.name)) ((litsOf qv).map (·.1)) ((clssOf qv (looseW qv B6)).map (·.name))=true:=by
 rw [PySem.W.Fast.te10880121769531294198,PySem.W.Fast.te821141287760084731,PySem.W.R.mapR_eq,PySem.W.Fast.te3399658132070893891,PySem.W.Fast.te7409074990110511671,PySem.W.Fast.te13664370479719496447]; kernel_rfl
theorem lk7 (P:Params):(hT P).accountedOkI (importedModules pw.main.body)=true:=by rw [PySem.W.Fast.te14722251495701143533,PySem.W.Fast.te5923862056798008813]; kernel_rfl
theorem E7b (P:Params):(hT P).isNs aX=true:=by kernel_rfl
theorem G1g (P:Params):(hT P).isNs builtinsNs=true:=by kernel_rfl
theorem F5h (P:Params):tablesOk qv (hT P)=true:=by rw [PySem.W.Fast.te10994771534591457954]; kernel_rfl
theorem lk9 (w:World) (os:aD):tabsOk qv (⟨hT w.params,ah [],ad,2458,os⟩:ak)=true:=by rw [PySem.W.Fast.te479339242167458305]; kernel_rfl
theorem F7g (w:World) (os:aD):pinSeenD qv (drecsOf qv) (⟨hT w.params,ah [],ad,2458,os⟩:ak)=pinGoodD (drecsOf qv):=by rw [PySem.W.Fast.te16090120013241838585,PySem.W.Fast.te3247288618530077131]; kernel_rfl
theorem F6m (w:World) (os:aD):plainSeenE qv (looseW qv B6) (⟨hT w.params,ah [],ad,2458,os⟩:ak)=plainGoodE qv (looseW qv B6):=by rw [PySem.W.Fast.te2386780881361962483,PySem.W.Fast.te821141287760084731]; kernel_rfl
theorem F9o (w:World) (os:aD):plainSeenD qv B6 (⟨hT w.params,ah [],ad,2458,os⟩:ak)=plainGoodD qv B6:=by rw [PySem.W.Fast.te11698064438423848299]; kernel_rfl
theorem F5m (w:World) (os:aD):wideSeen qv (⟨hT w.params,ah [],ad,2458,os⟩:ak)=wideGood qv:=by rw [PySem.W.Fast.te7317090234206586261]; kernel_rfl
theorem F6g (w:World) (os:aD):clsSeenW qv B6 (⟨hT w.params,ah [],ad,2458,os⟩:ak)=clsGoodW qv B6:=by rw [PySem.W.Fast.te7369524293546568484]; kernel_rfl
end
end Mine
set_option maxRecDepth 100000
set_option maxHeartbeats 400000
namespace Mine
open PySem PySem.W PyProof.Rows
noncomputable section
theorem G1n (w:World) (os:aD):((hT w.params).keysOk (looseW qv B6) ((recsOf qv).map (·.name)) ((litsOf qv).map (·.1)) ((clssOf qv (looseW qv B6)).map (·.name)) && (hT w.params).accountedOkI (importedModules pw.main.body) && (hT w.params).isNs aX && (hT w.params).isNs builtinsNs && tablesOk qv (hT w.params) && true && ((ah ([]:List GenState)).size == 0))=true:=by
 rw [lk6,lk7,E7b,G1g,F5h]
 rfl
theorem lkB (w:World) (os:aD):openSeen qv B6 (importedModules pw.main.body) (λ_=>true) true ⟨hT w.params,ah [],ad,2458,os⟩=openGood qv B6:=
 looks_pair (lk4 w os) (looks_pair (lk5 _) (looks_pair (G1n w os) (looks_pair (lk9 w os) (looks_pair (F7g w os) (looks_pair (F6m w os) (looks_pair (F9o w os) (looks_pair (F5m w os) (F6g w os))))))))
theorem D9o (w:World):(λos=>((staticsOk (importedModules pw.main.body) (boot_heap w.params) (hT w.params) && namesBound pw (hT w.params) && gensDone ⟨hT w.params,ah [],ad,2458,os⟩ && laidKept (boot_heap w.params) (hT w.params)),
    openSeen qv B6 (importedModules pw.main.body) (λ_=>true) true ⟨hT w.params,ah [],ad,2458,os⟩,Shared.heap ⟨hT w.params,ah [],ad,2458,os⟩))=λ_=>(true,openGood qv B6,hT w.params):=by
 funext os
 exact looks_pair (look_both (look_both (look_both (lk1 _) (lk2 _)) rfl) (lk3 _)) (looks_pair (lkB w os) rfl)
theorem leN:be A4g A4g=true:=by kernel_rfl
theorem C2x (w:World) (os:aD):E3w w os=⟨hT w.params,ah [],ad,2458,os⟩:=by kernel_rfl
theorem F4d (w:World) (os:aD):topRun treeTable pw w 11 (some (.ref 6)) A4g ⟨boot_heap w.params,ah [],ad,boot_toks,os⟩ (topStub pw)=some ⟨hT w.params,ah [],ad,2458,os⟩:=by
 rw [<- C2x]
 exact run w os
theorem left:LeftO pw qv B6 (λ_=>true) Shared.heap (λw=>hT w.params) A4g:=
 LeftO.of_pieces (H₀:=boot_heap) (H₁:=hT) (gs₀:=ah []) (gs₁:=ah []) (d₀:=ad) (d₁:=ad) (k₀:=boot_toks) (k₁:=2458) (m₀:=11) (ann:=some (.ref 6)) (M:=A4g)
  D4m E9t F4d leN D9o
noncomputable def A6h:DefRec:=(((recsOf qv).head?).getD ⟨"",default,[],default,default⟩)
theorem F4q:defOf qv rW.row.name=some (A6h,[]):=by kernel_rfl
theorem F4j:rW.row.prog.theDef rW.row.name=some (A6h.params,A6h.body,A6h.scope):=by kernel_rfl
theorem hkw:kwWritten? A6h.params.kwonlyargs A6h.params.kw_defaults=some []:=by kernel_rfl
theorem hok:(chainsOk qv && opensWell rW.row.prog && (frees rW.row.toRowW && rW.row.within.isEmpty))=true:=by kernel_rfl
theorem E8s:rW.row.toRowW.claim.pre [.list []]=true:=by kernel_rfl
theorem E4o:(WData.layableAll [.list []] && rW.row.toRowW.returnsAt [.list []])=true:=by kernel_rfl
theorem D9q:rW.row.toRowW.promised:=⟨[.list []],E8s,E4o⟩
theorem D9i:rW.row.toRowW.records=[]:=by kernel_rfl
theorem F9j:rW.row.prog.tablesWhole=true:=by
 unfold Program.tablesWhole TablesWhole.wProgram
 rw [PySem.W.Fast.te6116379765354995101]
 kernel_rfl
end
end Mine
set_option genInjectivity false
set_option maxRecDepth 100000
namespace Mine
noncomputable section
set_option genCtorIdx false
set_option genCtorIdx true in
inductive I where
 | lit (n:Int) | var (k:Nat) | off (x:I) (k:Int) | add (a b:I) | sub (a b:I) | mul (a b:I) | sel (k:Nat) (a b c:I)
set_option genCtorIdx true in
inductive V where
 | none | bool (b:Bool) | int (i:I) | str (n:Nat) | sgn (k:Nat) | ref (h:Nat) | tup (l:List V) | big | opq | scr
set_option genCtorIdx true in
inductive O where
 | list (l:List V) | dict (l:List (V×V)) | inst (c:Nat) (l:List (Nat×V)) | chest | pair | tab
mutual
inductive X where
 | bad | cst (v:V) | loc (i:Nat) | cel (i:Nat) | glb (i:Nat) | and (a b:X) | or (a b:X) | not (x:X) | neg (x:X) | bin (op:Nat) (a b:X)
 | cmp (op:Nat) (a b:X) | cmp2 (o1 o2:Nat) (a b d:X) | ite (t a b:X) | tup (l:XL) | lst (l:XL) | dct (l:XD)
 | cfn (i k:Nat) (l:XL) | ccl (i k:Nat) (l:XL) | bcl (i k:Nat) (l:XL) | isi (x:X) (i:Nat) | col (k:Nat) (it:XI) | colz (k:Nat) (x y:X) | mth (o:X) (n:Nat) (l:XL) | att (o:X) (n:Nat) | sub (o i:X)
 | slc (o:X) (a b d:XO) | lcp (x:X) (t:Tg) (it:XI) (ifs:XL)
inductive XL where
 | nil | cons (x:X) (l:XL)
inductive XD where
 | nil | cons (k v:X) (l:XD)
inductive XO where
 | no | so (x:X)
inductive XI where
 | of (x:X) | rng (l:XL) | zip (x y:X)
inductive Tg where
 | bad | loc (i:Nat) | cel (i:Nat) | att (o:X) (n:Nat) | sub (o i:X) | tup (l:TgL)
inductive TgL where
 | nil | cons (t:Tg) (l:TgL)
end
mutual
inductive S where
 | bad | expr (x:X) | ret (x:XO) | asg (t:Tg) (x:X) | auL (i:Nat) (op:Nat) (x:X) | auA (o:X) (n:Nat) (op:Nat) (x:X) | iff (t:X) (a b:SL) | whl (t:X) (b:SL)
 | for (t:Tg) (it:XI) (b:SL) | brk | pass | fdef (i:Nat) | fdec (i:Nat)
inductive SL where
 | nil | cons (x:S) (l:SL)
end
structure Cls where
 init:Option Nat
 ms:List (Nat×Nat)
inductive Tr (α:Type) where
 | nil | node (v:Option α) (l r:Tr α)
noncomputable def Tr.get {α:Type} (t:Tr α):Nat->Option α:=
 @Tr.rec α (λ_=>Nat->Option α) (λ_=>none) (λv _ _ gl gr i=>@Bool.rec (λ_=>Option α) (@Bool.rec (λ_=>Option α) (gr (Nat.div (Nat.sub i 2) 2)) (gl (Nat.div i 2)) (aA (Nat.mod i 2) 1)) v (aA i 0)) t
noncomputable def Tr.mk {α:Type} (o:α) (n:Nat):Nat->Tr α:=
 @Nat.rec (λ_=>Nat->Tr α) (λ_=>.nil) (λ_ g i=>@Bool.rec (λ_=>Tr α) (@Bool.rec (λ_=>Tr α) (.node none .nil (g (Nat.div (Nat.sub i 2) 2))) (.node none (g (Nat.div i 2)) .nil) (aA (Nat.mod i 2) 1)) (.node (some o) .nil .nil) (aA i 0)) n
noncomputable def Tr.set {α:Type} (o:α) (t:Tr α):Nat->Tr α:=
 @Tr.rec α (λ_=>Nat->Tr α) (λi=>Tr.mk o 20 i) (λv l r gl gr i=>@Bool.rec (λ_=>Tr α) (@Bool.rec (λ_=>Tr α) (.node v l (gr (Nat.div (Nat.sub i 2) 2))) (.node v (gl (Nat.div i 2)) r) (aA (Nat.mod i 2) 1)) (.node (some o) l r) (aA i 0)) t
noncomputable def cl0:Cls:=⟨some 14,[(7093017055122648934,15),(7954875798926618470,16),(469311570577966398465395,17)]⟩
noncomputable def cl1:Cls:=⟨some 24,[]⟩
noncomputable def cl2:Cls:=⟨some 31,[(131260348654948,32),(7881698906011167852,33),(2017712949614038967417,34),(149436279335479706057984128630863982450,35)]⟩
noncomputable def cl3:Cls:=⟨some 51,[(482854658917,52),(1919246692,53),(513020621925,54)]⟩
noncomputable def cl4:Cls:=⟨some 57,[]⟩
noncomputable def cl5:Cls:=⟨some 58,[(7020105144828261477,59),(1650553701,60),(29681726232557157,61),(1718773093,62),(1919905645,63),(1919246692,64),(513020621925,65),(8243101776696405100,66),(2203406793343055785068,67)]⟩
noncomputable def cl6:Cls:=⟨some 80,[]⟩
noncomputable def cl7:Cls:=⟨some 82,[(29395913220779878,83),(32493246317817702,84),(1919246692,85),(465557354085,86),(499850634606,87)]⟩
noncomputable def cl8:Cls:=⟨some 88,[(426903366771,89),(122485478815599,90),(122485478485605,91)]⟩
noncomputable def cl9:Cls:=⟨some 92,[(26479,93)]⟩
noncomputable def E3t:Cls:=⟨some 95,[(7501166,96),(497885726060478611814259,97),(27707025041354598,98),(435644818802,99),(2017714919938976607589,100),(1907614012473664955243,101),(465557354085,102),(1937007984,103),(31083142502689283763880685172,104),(7957284485135344978493539905394,105),(28269953150970988,106)]⟩
noncomputable def E6l:Cls:=⟨some 107,[]⟩
noncomputable def F0z:Cls:=⟨some 108,[]⟩
noncomputable def F2f:Cls:=⟨some 109,[]⟩
noncomputable def F0e:Cls:=⟨some 110,[]⟩
noncomputable def F0m:Cls:=⟨some 111,[]⟩
noncomputable def glT:List (Nat×V):=[(2037167106948900417390,.opq),(1129271385,.str 1131376761),(401415770515326665446188500042870383,.int (.lit 120)),(1568030353575366596720777733817683,.int (.lit 400)),(1112101971,.ref 0),(102762437251909137893762300547083236724,.int (.lit 100)),(26307183936492448346681409537650096829812,.int (.lit 65536)),(93794725677396,.tup [.str 129117075695988]),(340767163730,.int (.lit 0)),(365085516491731457821779,.int (.lit 200000)),(81372523048614403716894291,.tup [.str 15677,.str 8509,.str 60,.str 15421,.str 62,.str 15933])]
noncomputable def fnT:List (Nat×Nat):=[(492996253208943392289395,0),(516535667469631434092645,1),(2017717451053246540908,2),(8097879449466269542,3),(32199620896058484,4),(139580802234487687685104996,5),(36956203099650666862004366963,6),(2037167106948900417390,7),(111541935629668,8),(2148572918086937966708,9),(483625597707099734767475,10),(1889162491043692638054,11),(7953758699407765350,12),(33851681503291453303258181740,13),(126879447475060,18),(118083572166502,19),(135859871294873547867776371,20),(599494980746568341922192351289110374,21),(469514561038097811924326,22),(35403937754964083257350710630,23),(530904313704211384201317,25),(8907096346347313085086974439012,26),(2280216664664912149782265456387187,27),(34793345102919195062858184037,28),(583735466154217584418342944104607348,29),(563758904728028438424684,30),(1945221618073196193124,36),(465557353332,37),(7454131802490631028,38),(1718187123,39),(33621285052376420,40),(7161131826149944948,41),(435811345268,42),(27980807363323236,43),(32485596729405286,44),(7882813871301485924,45),(8667245511089928960354447943031,46),(126948184253796,47),(530702627578321570915699,48),(123808393329597239575798629,49),(578421874062941984328230864198921316,50),(31647696006964594,55),(470021465444,56),(29681726115444077,68),(530702627600221525208164,69),(127482043672961397061481587,70),(2279350429444218050288762747645043,71),(563758904728045535325285,72),(29681726367165540,73),(497885577439491918883940,74),(123563683243364,75),(7162249995450543974,76),(117026742756708,77),(112602976642404,78),(549849911077676417578341,79),(8243104006053717348,81),(2147851215147006260837,94),(450624087419601392333684,112),(115359766379419098831873394,113),(6875977896418045541,114),(1760250341483036303726,115),(450624087419674692707699,116),(1760250341482801620089,117),(7560217649442615210335139685732,118),(450624087419592987338084,119),(6875977896417849207,120),(1760250341482901890920,121),(6875977896418375535,122),(6875977896418306407,123),(1760250341482985251941,124),(115359766379439976952325476,125),(115359766379415783419110770,126),(7102839,127)]
noncomputable def clT:List (Nat×Nat):=[(1538388085891037491054,0),(1114596473,1),(1354571150309103723891,2),(358434825067,3),(308953883319636297609070,4),(85098023055993,5),(4932127069949424997,6),(88426420594035,7),(23211108893812083,8),(302566698341,9),(21780652788117093,10),(4285556,11),(5466471,12),(6085033152081981303,13),(20668002920984439,14),(375531924580,15)]
noncomputable def H1:Tr Cls:=.node (some cl0) (.node (some cl1) (.node (some cl3) (.node (some cl7) (.node (some F0m) (.nil) (.nil)) (.nil)) (.node (some E6l) (.nil) (.nil))) (.node (some cl5) (.node (some cl9) (.nil) (.nil)) (.node (some F2f) (.nil) (.nil)))) (.node (some cl2) (.node (some cl4) (.node (some cl8) (.nil) (.nil)) (.node (some F0z) (.nil) (.nil))) (.node (some cl6) (.node (some E3t) (.nil) (.nil)) (.node (some F0e) (.nil) (.nil))))
structure St where
 t:Tr O
 n:Nat
 d:Nat
 f:Nat
set_option genCtorIdx true in
inductive Rs (α:Type) where
 | no | ok (a:α) (s:St)
noncomputable abbrev M (α:Type):=St->Rs α
noncomputable def D7 {α:Type} (a:α):M α:=λs=>.ok a s
noncomputable def A5 {α:Type}:M α:=λ_=>.no
noncomputable def D3 {α β:Type} (m:M α) (f:α->M β):M β:=λs=>@Rs.rec α (λ_=>Rs β) .no (λa s'=>f a s') (m s)
noncomputable def lift {α:Type} (o:Option α):M α:=λs=>@Option.rec α (λ_=>Rs α) .no (λa=>.ok a s) o
noncomputable def G1 (i:Nat):M O:=λs=>@Option.rec O (λ_=>Rs O) .no (λa=>.ok a s) (Tr.get s.t i)
noncomputable def A3n (i:Nat) (o:O):M Unit:=λs=>@St.rec (λ_=>Rs Unit) (λt n d f=>@Bool.rec (λ_=>Rs Unit) .no (@Bool.rec (λ_=>Rs Unit) .no (.ok () ⟨Tr.set o t i,n,d,f⟩) (Nat.blt i n)) (be f i)) s
noncomputable def w9 (o:O):M V:=λs=>@St.rec (λ_=>Rs V) (λt n d f=>@Bool.rec (λ_=>Rs V) .no (.ok (.ref n) ⟨Tr.set o t n,Nat.succ n,d,f⟩) (be n 60000)) s
noncomputable def C8u (o:O):M Nat:=λs=>@St.rec (λ_=>Rs Nat) (λt n d f=>@Bool.rec (λ_=>Rs Nat) .no (.ok n ⟨Tr.set o t n,Nat.succ (Nat.succ n),d,f⟩) (be n 60000)) s
noncomputable def len {α:Type} (l:List α):Nat:=@List.rec α (λ_=>Nat) 0 (λ_ _ r=>Nat.succ r) l
noncomputable def K4 (l:List V):M V:=@Bool.rec (λ_=>M V) A5 (w9 (.list l)) (be (len l) 10000)
noncomputable def B3b (l:List (V×V)):M V:=@Bool.rec (λ_=>M V) A5 (w9 (.dict l)) (be (len l) 10000)
noncomputable def j4 (i:Nat) (l:List V):M Unit:=@Bool.rec (λ_=>M Unit) A5 (A3n i (.list l)) (be (len l) 10000)
noncomputable def B6c (i:Nat) (l:List (V×V)):M Unit:=@Bool.rec (λ_=>M Unit) A5 (A3n i (.dict l)) (be (len l) 10000)
noncomputable def mkT (l:List V):M V:=@Bool.rec (λ_=>M V) A5 (D7 (.tup l)) (be (len l) 10000)
noncomputable def mkS (n:Nat):M V:=@Bool.rec (λ_=>M V) A5 (D7 (.str n)) (Nat.blt n (Nat.pow 2 8000))
structure Cx where
 asg:List (Nat×Nat)
 many:List Nat
 wide:Bool
noncomputable def A8 {α:Type} (k:Nat) (l:List (Nat×α)):Option α:=
 @List.rec (Nat×α) (λ_=>Option α) none (λp _ r=>@Bool.rec (λ_=>Option α) r (some p.2) (aA p.1 k)) l
noncomputable def G0 {α:Type} (k:Nat) (v:α) (l:List (Nat×α)):List (Nat×α):=
 @List.rec (Nat×α) (λ_=>List (Nat×α)) [(k,v)] (λp t r=>@Bool.rec (λ_=>List (Nat×α)) (p::r) ((k,v)::t) (aA p.1 k)) l
noncomputable def D5 {α:Type} (b:Bool) (x y:α):α:=@Bool.rec (λ_=>α) y x b
noncomputable def leI (a b:Int):Bool:=match Int.sub b a with
 | .ofNat _=>true
 | .negSucc _=>false
noncomputable def ltZ (a b:Int):Bool:=match Int.sub a b with
 | .ofNat _=>false
 | .negSucc _=>true
noncomputable def eqZ (a b:Int):Bool:=match Int.sub a b with
 | .ofNat n=>aA n 0
 | .negSucc _=>false
noncomputable def mn (a b:Int):Int:=D5 (leI a b) a b
noncomputable def mx (a b:Int):Int:=D5 (leI a b) b a
noncomputable def bO {α β:Type} (o:Option α) (k:α->Option β):Option β:=@Option.rec α (λ_=>Option β) none k o
noncomputable def iL {α:Type} (j:I) (k:Int->α) (d:I->α):α:=@I.rec (λ_=>α) k (λv=>d (.var v)) (λx n _=>d (.off x n)) (λa b _ _=>d (.add a b)) (λa b _ _=>d (.sub a b)) (λa b _ _=>d (.mul a b)) (λn a b c _ _ _=>d (.sel n a b c)) j
noncomputable def iV {α:Type} (j:I) (k:Nat->α) (d:I->α):α:=@I.rec (λ_=>α) (λn=>d (.lit n)) k (λx n _=>d (.off x n)) (λa b _ _=>d (.add a b)) (λa b _ _=>d (.sub a b)) (λa b _ _=>d (.mul a b)) (λn a b c _ _ _=>d (.sel n a b c)) j
noncomputable def iO {α:Type} (j:I) (k:I->Int->α) (d:I->α):α:=@I.rec (λ_=>α) (λn=>d (.lit n)) (λv=>d (.var v)) (λx n _=>k x n) (λa b _ _=>d (.add a b)) (λa b _ _=>d (.sub a b)) (λa b _ _=>d (.mul a b)) (λn a b c _ _ _=>d (.sel n a b c)) j
noncomputable def rng (c:Cx) (i:I):Option (Int×Int):=@I.rec (λ_=>Option (Int×Int)) (λn=>some (n,n)) (λk=>bO c.many[k]? λm=>some (0,Int.sub (aQ m) 1)) (λ_ k p=>bO p λa=>some (Int.add a.1 k,Int.add a.2 k)) (λ_ _ p q=>bO p λa=>bO q λb=>some (Int.add a.1 b.1,Int.add a.2 b.2)) (λ_ _ p q=>bO p λa=>bO q λb=>some (Int.sub a.1 b.2,Int.sub a.2 b.1))
 (λ_ _ p q=>bO p λa=>bO q λb=>some (mn (mn (Int.mul a.1 b.1) (Int.mul a.1 b.2)) (mn (Int.mul a.2 b.1) (Int.mul a.2 b.2)),mx (mx (Int.mul a.1 b.1) (Int.mul a.1 b.2)) (mx (Int.mul a.2 b.1) (Int.mul a.2 b.2)))) (λ_ _ _ _ p q r=>bO p λa=>bO q λb=>bO r λd=>some (mn a.1 (mn b.1 d.1),mx a.2 (mx b.2 d.2))) i
noncomputable def m6 (x:I) (k:Int):I:=D5 (eqZ k 0) x (.off x k)
noncomputable def D0x (x y:I):I:=iL x (λa=>iL y (λb=>.lit (Int.add a b)) λy=>iO y (λz k=>m6 z (Int.add a k)) λy=>m6 y a) λx=>iL y (λa=>iO x (λz k=>m6 z (Int.add k a)) λx=>m6 x a) λy=>.add x y
noncomputable def D5w (x y:I):I:=iL y (λa=>iL x (λb=>.lit (Int.sub b a)) λx=>iO x (λz k=>m6 z (Int.sub k a)) λx=>m6 x (Int.neg a)) λy=>iL x (λb=>.sub (.lit b) y) λx=>.sub x y
noncomputable def E7q (x y:I):I:=iL x (λa=>iL y (λb=>.lit (Int.mul a b)) λy=>.mul (.lit a) y) λx=>iL y (λb=>.mul x (.lit b)) λy=>.mul x y
noncomputable def F0l (c:Cx) (x y:I):Option I:=iL y (λb=>iL x (λa=>D5 (eqZ b 0) none (some (.lit (Int.fmod a b)))) λx=>bO (rng c x) λp=>D5 (leI 0 p.1 && ltZ p.2 b) (some x) none) λ_=>none
noncomputable def ltI (c:Cx) (a b:I):Option Bool:=bO (rng c a) λp=>bO (rng c b) λq=>D5 (ltZ p.2 q.1) (some true) (D5 (leI q.2 p.1) (some false) none)
noncomputable def iA (j:I) (k:I->I->Bool):Bool:=@I.rec (λ_=>Bool) (λ_=>false) (λ_=>false) (λ_ _ _=>false) (λa b _ _=>k a b) (λ_ _ _ _=>false) (λ_ _ _ _=>false) (λ_ _ _ _ _ _ _=>false) j
noncomputable def iS (j:I) (k:I->I->Bool):Bool:=@I.rec (λ_=>Bool) (λ_=>false) (λ_=>false) (λ_ _ _=>false) (λ_ _ _ _=>false) (λa b _ _=>k a b) (λ_ _ _ _=>false) (λ_ _ _ _ _ _ _=>false) j
noncomputable def iM (j:I) (k:I->I->Bool):Bool:=@I.rec (λ_=>Bool) (λ_=>false) (λ_=>false) (λ_ _ _=>false) (λ_ _ _ _=>false) (λ_ _ _ _=>false) (λa b _ _=>k a b) (λ_ _ _ _ _ _ _=>false) j
noncomputable def iE (j:I) (k:Nat->I->I->I->Bool):Bool:=@I.rec (λ_=>Bool) (λ_=>false) (λ_=>false) (λ_ _ _=>false) (λ_ _ _ _=>false) (λ_ _ _ _=>false) (λ_ _ _ _=>false) (λn a b c _ _ _=>k n a b c) j
noncomputable def E6s (i:I):I->Bool:=@I.rec (λ_=>I->Bool) (λa j=>iL j (eqZ a) λ_=>false) (λa j=>iV j (aA a) λ_=>false) (λ_ k p j=>iO j (λb l=>eqZ k l && p b) λ_=>false) (λ_ _ p q j=>iA j λa b=>p a && q b) (λ_ _ p q j=>iS j λa b=>p a && q b) (λ_ _ p q j=>iM j λa b=>p a && q b) (λn _ _ _ p q r j=>iE j λm a b c=>aA n m && p a && q b && r c) i
noncomputable def eqI (c:Cx) (a b:I):Option Bool:=D5 (E6s a b) (some true) (bO (rng c a) λp=>bO (rng c b) λq=>D5 (ltZ p.2 q.1 || ltZ q.2 p.1) (some false) none)
noncomputable def A0d (b:Nat):Nat:=cond (aA b 0) 0 (Nat.succ (Nat.div (Nat.log2 b) 8))
noncomputable def cat (a b:Nat):Nat:=Nat.add (Nat.mul a (Nat.pow 256 (A0d b))) b
noncomputable def B1o (c:Cx) (k:Nat) (s:Nat):Option Bool:=match A8 k c.asg with
 | some j=>match [43,45,42][j]? with
  | some x=>some (aA x s)
  | none=>none
 | none=>cond (aA s 43 || aA s 45 || aA s 42) none (some false)
noncomputable def B9v (a b:Option Bool):Option Bool:=@Option.rec Bool (λ_=>Option Bool) none (λx=>@Option.rec Bool (λ_=>Option Bool) none (λy=>some (D5 x y false)) b) a
noncomputable def orO (a b:Option Bool):Option Bool:=@Option.rec Bool (λ_=>Option Bool) none (λx=>@Option.rec Bool (λ_=>Option Bool) none (λy=>some (D5 x true y)) b) a
noncomputable def B9n (l m:List V):Option Bool:=match l,m with
 | [],[]=>some true
 | _::_,[]=>some false
 | [],_::_=>some false
 | _,_=>none
noncomputable def E9h (x y:Option O):Option Bool:=match x,y with
 | some (.list l),some (.list m)=>B9n l m
 | _,_=>none
mutual
noncomputable def eqD (c:Cx) (t:Tr O):Nat->V->V->Option Bool
 | 0,_,_=>none
 | n + 1,a,b=>match a,b with
  | .str x,.str y=>some (aA x y)
  | .int x,.int y=>eqI c x y
  | .tup l,.tup m=>eqDs c t n l m
  | .none,.none=>some true
  | .bool x,.bool y=>some (D5 x y (not y))
  | .str x,.sgn k=>B1o c k x
  | .sgn k,.str x=>B1o c k x
  | .ref x,.ref y=>E9h (Tr.get t x) (Tr.get t y)
  | .none,.tup _=>some false
  | .tup _,.none=>some false
  | .none,.str _=>some false
  | .none,.int _=>some false
  | .str _,.none=>some false
  | .int _,.tup _=>some false
  | .tup _,.int _=>some false
  | .bool _,.tup _=>some false
  | .int _,.none=>some false
  | _,_=>none
noncomputable def eqDs (c:Cx) (t:Tr O):Nat->List V->List V->Option Bool
 | 0,_,_=>none
 | n + 1,l,m=>match l,m with
  | [],[]=>some true
  | [],_::_=>some false
  | _::_,[]=>some false
  | x::l,y::m=>B9v (eqD c t n x y) (eqDs c t n l m)
end
noncomputable def truthy:V->M Bool
 | .none=>D7 false
 | .bool b=>D7 b
 | .int (.lit n)=>D7 (not (eqZ n 0))
 | .ref h=>D3 (G1 h) λo=>match o with
  | .list []=>D7 false
  | .list _=>D7 true
  | _=>A5
 | _=>A5
structure Env where
 ls:List (Nat×V)
 cs:List (Nat×V)
set_option genCtorIdx true in
inductive Fl where
 | nxt (e:Env) | brk (e:Env) | ret (v:V)
set_option genCtorIdx true in
inductive It where
 | rng (a s:Int) (n:Nat) | lst (h k:Nat) | tup (l:List V) | zip (a b:It) (h:Nat)
noncomputable abbrev F5:=Cx->Nat->List V->M V
noncomputable abbrev CX:=F5->Cx->Env->M V
noncomputable abbrev CL:=F5->Cx->Env->M (List V)
noncomputable abbrev CD:=F5->Cx->Env->M (List (V×V))
noncomputable abbrev CO:=F5->Cx->Env->M (Option V)
noncomputable abbrev CB:=F5->Cx->Env->M Bool
noncomputable abbrev CI:=F5->Cx->Env->M It
noncomputable abbrev CT:=F5->Cx->Env->V->M Env
noncomputable abbrev CTL:=F5->Cx->Env->List V->M Env
noncomputable abbrev CS:=F5->Cx->Env->M Fl
noncomputable def idx (l:List V) (i:Int):Option V:=match i with
 | .ofNat k=>l[k]?
 | .negSucc k=>D5 (be (Nat.succ k) l.length) (l[Nat.sub l.length (Nat.succ k)]?) none
noncomputable def C3 (c:Cx):Nat->V->V->Option Bool
 | 0,_,_=>none
 | n + 1,a,b=>match a,b with
  | .str x,.str y=>some (aA x y)
  | .int (.lit x),.int (.lit y)=>some (eqZ x y)
  | .tup l,.tup m=>go n l m
  | _,_=>none
where
 go (n:Nat) (l m:List V):Option Bool:=match n with
 | 0=>none
 | n + 1=>match l,m with
  | [],[]=>some true
  | [],_::_=>some false
  | _::_,[]=>some false
  | x::l,y::m=>match C3 c n x y with
   | some true=>go n l m
   | o=>o
mutual
noncomputable def M3:Nat->V->Bool
 | 0,_=>false
 | n + 1,v=>match v with
  | .str _=>true
  | .int i=>match i with
   | .lit _=>true
   | _=>false
  | .tup l=>keyDs n l
  | _=>false
noncomputable def keyDs:Nat->List V->Bool
 | 0,_=>false
 | n + 1,l=>match l with
  | []=>true
  | v::r=>D5 (M3 n v) (keyDs n r) false
end
noncomputable def A1l (c:Cx) (k:V) (l:List (V×V)):Option (Option V):=
 @List.rec (V×V) (λ_=>Option (Option V)) (D5 (M3 12 k) (some none) none) (λp _ r=>@Option.rec Bool (λ_=>Option (Option V)) none (λe=>D5 e (some (some p.2)) r) (C3 c 30 p.1 k)) l
noncomputable def G2 (c:Cx) (k v:V) (l:List (V×V)):Option (List (V×V)):=
 @List.rec (V×V) (λ_=>Option (List (V×V))) (D5 (M3 12 k) (some [(k,v)]) none) (λp t r=>@Option.rec Bool (λ_=>Option (List (V×V))) none (λe=>D5 e (some ((p.1,v)::t)) (@Option.rec (List (V×V)) (λ_=>Option (List (V×V))) none (λr'=>some (p::r')) r)) (C3 c 30 p.1 k)) l
noncomputable def J2 (c:Cx) (k:V) (l:List (V×V)):Option (V×List (V×V)):=
 @List.rec (V×V) (λ_=>Option (V×List (V×V))) none (λp t r=>@Option.rec Bool (λ_=>Option (V×List (V×V))) none (λe=>D5 e (some (p.2,t)) (@Option.rec (V×List (V×V)) (λ_=>Option (V×List (V×V))) none (λr'=>some (r'.1,p::r'.2)) r)) (C3 c 30 p.1 k)) l
noncomputable def Z1 (c:Cx) (k:V) (l:List (V×V)):Option (Option V):=D5 (M3 12 k) (A1l c k l) none
noncomputable def M4 (c:Cx) (k v:V) (l:List (V×V)):Option (List (V×V)):=D5 (M3 12 k) (G2 c k v l) none
noncomputable def A0g (c:Cx) (k:V) (l:List (V×V)):Option (V×List (V×V)):=D5 (M3 12 k) (J2 c k l) none
noncomputable def Y4:V->Bool
 | .tup _=>false
 | _=>true
noncomputable def C8v {α:Type} (v:V) (k:Nat->M α):M α:=match v with
 | .ref h=>k h
 | _=>A5
noncomputable def E5y {α:Type} (v:V) (k:I->M α):M α:=match v with
 | .int i=>k i
 | _=>A5
noncomputable def E2g {α:Type} (o:O) (k:List V->M α):M α:=match o with
 | .list l=>k l
 | _=>A5
noncomputable def F0s {α:Type} (o:O) (k:List (V×V)->M α):M α:=match o with
 | .dict l=>k l
 | _=>A5
noncomputable def C5d {α:Type} (v:V) (k:Nat->List V->M α):M α:=C8v v λi=>D3 (G1 i) λo=>E2g o (k i)
noncomputable def E5i {α:Type} (v:V) (k:Nat->List (V×V)->M α):M α:=C8v v λi=>D3 (G1 i) λo=>F0s o (k i)
noncomputable def D7h (v:V):Option Nat:=match v with
 | .str n=>some n
 | _=>none
noncomputable def A0w (l:List V):Option (List Nat):=@List.rec V (λ_=>Option (List Nat)) (some []) (λv _ ih=>bO (D7h v) λn=>bO ih λm=>some (n::m)) l
noncomputable def i6 (l:List V) (m:List Nat):Bool:=@Option.rec (List Nat) (λ_=>Bool) false (λx=>x == m) (A0w l)
noncomputable def R8 (v:V):Option Int:=match v with
 | .int i=>iL i (λn=>some n) λ_=>none
 | _=>none
noncomputable def isZ (v:V):Bool:=@Option.rec Int (λ_=>Bool) false (λn=>eqZ n 0) (R8 v)
noncomputable def A7w (l:List V) (q:Nat):Bool:=D5 (i6 l [43,45,42]) (be q 3) (D5 (i6 l [43,45]) (be q 2) false)
noncomputable def F1o (c:Cx) (l:List V) (k:Nat):M V:=D3 (lift c.many[k]?) λq=>D5 (A7w l q) (D7 (.sgn k)) A5
noncomputable def C6m (c:Cx) (l:List V) (i:V):M V:=E5y i λj=>iL j (λk=>lift (idx l k)) λj=>iV j (F1o c l) λ_=>A5
noncomputable def B8y (c:Cx) (i:V):O->M V
 | .list l=>C6m c l i
 | .dict l=>D3 (lift (Z1 c i l)) λr=>lift r
 | .chest=>D5 (isZ i) (D7 .big) A5
 | _=>A5
noncomputable def C7b (n:Nat) (i:V):M V:=D5 (isZ i && not (aA n 0)) (D7 (.str (Nat.div n (Nat.pow 256 (Nat.sub (A0d n) 1))))) A5
noncomputable def getItem (c:Cx) (i:V):V->M V
 | .tup l=>D3 (lift (R8 i)) λk=>lift (idx l k)
 | .ref h=>D3 (G1 h) (B8y c i)
 | .str n=>C7b n i
 | _=>A5
noncomputable def setItem (c:Cx) (o i v:V):M Unit:=match o with
 | .ref h=>D3 (G1 h) λob=>match ob with
  | .list l=>match i with
   | .int (.lit (.ofNat k))=>D5 (Nat.blt k l.length) (j4 h (l.set k v)) A5
   | _=>A5
  | .dict l=>D3 (lift (M4 c i v l)) λr=>B6c h r
  | _=>A5
 | _=>A5
noncomputable def A5g (c:Cx) (t:Tr O) (x:V) (l:List V):Option Bool:=
 @List.rec V (λ_=>Option Bool) (some false) (λy _ r=>orO (eqD c t 30 y x) r) l
noncomputable def C2y (c:Cx) (x o:V):M Bool:=match o with
 | .tup l=>λs=>lift (A5g c s.t x l) s
 | .ref h=>D3 (G1 h) λob=>match ob with
  | .list l=>λs=>lift (A5g c s.t x l) s
  | .dict l=>D3 (lift (Z1 c x l)) λr=>D7 r.isSome
  | _=>A5
 | _=>A5
noncomputable def eqM (c:Cx) (a b:V):M Bool:=λs=>lift (eqD c s.t 30 a b) s
noncomputable def C7v (a:V):Option Bool:=match a with
 | .none=>some true
 | .ref _=>some false
 | .int _=>some false
 | .str _=>some false
 | .bool _=>some false
 | .tup _=>some false
 | _=>none
noncomputable def A0x (a b:V):Option Bool:=match b with
 | .none=>C7v a
 | _=>none
noncomputable def A6a (m:M Bool):M Bool:=D3 m λb=>D7 (not b)
noncomputable def ltV (c:Cx) (a b:V):M Bool:=match a,b with
 | .int x,.int y=>lift (ltI c x y)
 | .int (.lit (.ofNat 0)),.big=>D7 c.wide
 | _,_=>A5
noncomputable def f0 (c:Cx) (op:Nat) (a b:V):M Bool:=match op with
 | 0=>eqM c a b
 | 1=>A6a (eqM c a b)
 | 2=>ltV c a b
 | 3=>A6a (ltV c b a)
 | 4=>ltV c b a
 | 5=>A6a (ltV c a b)
 | 6=>lift (A0x a b)
 | 7=>A6a (lift (A0x a b))
 | 8=>C2y c a b
 | 9=>A6a (C2y c a b)
 | _=>A5
noncomputable def rep (l:List V):Nat->List V
 | 0=>[]
 | n + 1=>l++rep l n
noncomputable def small (c:Cx) (x:I):Bool:=(bO (rng c x) λp=>D5 (leI (-9223372036854775808) p.1 && leI p.2 9223372036854775807) (some true) none).isSome
noncomputable def E7f (x y:I):M V:=iL y (λq=>iL x (λp=>D5 (leI 1 q && leI q 1000000) (D7 (.int (.lit (Int.fdiv p q)))) A5) λ_=>A5) λ_=>A5
noncomputable def E4x (x y:I):M V:=iL y (λq=>iL x (λp=>match q with
 | .ofNat q=>D5 (be q 1000 && leI (-9223372036854775808) p && leI p 9223372036854775807) (D7 (.int (.lit (Int.pow p q)))) A5
 | .negSucc _=>A5) λ_=>A5) λ_=>A5
noncomputable def C9j (c:Cx) (op:Nat) (x y:I):M V:=match op with
 | 0=>D7 (.int (D0x x y))
 | 1=>D7 (.int (D5w x y))
 | 2=>D5 (small c x || small c y) (D7 (.int (E7q x y))) A5
 | 3=>D3 (lift (F0l c x y)) λr=>D7 (.int r)
 | 4=>E7f x y
 | 5=>E4x x y
 | _=>A5
noncomputable def c0 (c:Cx) (op:Nat) (a b:V):M V:=match a,b with
 | .int x,.int y=>C9j c op x y
 | .str x,.str y=>match op with
  | 0=>mkS (cat x y)
  | _=>A5
 | .tup l,.tup m=>match op with
  | 0=>mkT (l++m)
  | _=>A5
 | .ref x,.ref y=>match op with
  | 0=>D3 (G1 x) λox=>D3 (G1 y) λoy=>match ox,oy with
   | .list l,.list m=>K4 (l++m)
   | _,_=>A5
  | _=>A5
 | .ref x,.int (.lit (.ofNat k))=>match op with
  | 2=>D5 (be k 10000) (D3 (G1 x) λox=>match ox with
   | .list l=>K4 (rep l k)
   | _=>A5) A5
  | _=>A5
 | _,_=>A5
noncomputable def B5n (a:Option V):Option (Option Nat):=@Option.rec V (λ_=>Option (Option Nat)) (some none) (λv=>bO (R8 v) λn=>match n with
 | .ofNat p=>some (some p)
 | .negSucc _=>none) a
noncomputable def C7i (l:List V) (p q:Option Nat):List V:=@Option.rec Nat (λ_=>List V) (@Option.rec Nat (λ_=>List V) l (λq=>l.take q) q) (λp=>@Option.rec Nat (λ_=>List V) (l.drop p) (λq=>(l.take q).drop p) q) p
noncomputable def B3d (v:V):Bool:=@Option.rec Int (λ_=>Bool) false (λn=>eqZ n (-1)) (R8 v)
noncomputable def cut (l:List V) (a b s:Option V):Option (List V):=@Option.rec V (λ_=>Option (List V)) (bO (B5n a) λp=>bO (B5n b) λq=>some (C7i l p q)) (λv=>D5 (B3d v && a.isNone && b.isNone) (some l.reverse) none) s
noncomputable def l5:V->M It
 | .tup l=>D7 (.tup l)
 | .ref h=>D3 (G1 h) λo=>match o with
  | .list _=>D7 (.lst h 0)
  | _=>A5
 | _=>A5
noncomputable def G8:It->M (Option (V×It))
 | .rng a s n=>match n with
  | 0=>D7 none
  | n + 1=>D7 (some (.int (.lit a),.rng (Int.add a s) s n))
 | .lst h k=>D3 (G1 h) λo=>match o with
  | .list l=>match l[k]? with
   | some v=>D7 (some (v,.lst h (Nat.succ k)))
   | none=>D7 none
  | _=>A5
 | .tup l=>match l with
  | []=>D7 none
  | v::r=>D7 (some (v,.tup r))
 | .zip _ _ _=>A5
noncomputable def B4t (h:Nat):M Unit:=D3 (G1 h) λo=>match o with
 | .pair=>D7 ()
 | _=>A5
noncomputable def next:It->M (Option (V×It))
 | .zip i j h=>D3 (B4t h) λ_=>D3 (G8 i) λx=>match x with
  | none=>D3 (G8 j) λ_=>D7 none
  | some (v,i')=>D3 (G8 j) λy=>match y with
   | none=>D7 none
   | some (w,j')=>D7 (some (.tup [v,w],.zip i' j' h))
 | i=>G8 i
noncomputable def J4:Nat->It->M (List V)
 | 0,_=>A5
 | n + 1,i=>D3 (next i) λr=>match r with
  | none=>D7 []
  | some (v,i')=>D3 (J4 n i') λl=>D7 (v::l)
noncomputable def B1d:V->M (List V)
 | .tup l=>D7 l
 | .ref h=>D3 (G1 h) λo=>match o with
  | .list l=>D7 l
  | _=>A5
 | _=>A5
noncomputable def A8a (ov:V) (a:Nat) (v:V):M Unit:=match ov with
 | .ref h=>D3 (G1 h) λob=>match ob with
  | .inst k l=>@Bool.rec (λ_=>M Unit) A5 (A3n h (.inst k (G0 a v l))) (be (len l) 100)
  | _=>A5
 | _=>A5
noncomputable def B1z (k:Int):List Int->List Int
 | []=>[k]
 | a::r=>D5 (ltZ k a) (k::a::r) (a::B1z k r)
noncomputable def A5n:List Int->List Int
 | []=>[]
 | a::r=>B1z a (A5n r)
noncomputable def litsOf (l:List V):Option (List Int):=@List.rec V (λ_=>Option (List Int)) (some []) (λv _ ih=>bO (R8 v) λn=>bO ih λl=>some (n::l)) l
noncomputable def A9d (n:Nat):Nat:=D5 (Nat.blt n 10) (Nat.add 48 n) (Nat.add (Nat.mul (Nat.add 48 (Nat.div n 10)) 256) (Nat.add 48 (Nat.mod n 10)))
noncomputable def B0o (s:Nat):List Nat->Nat
 | []=>0
 | [a]=>a
 | a::r=>cat (cat a s) (B0o s r)
noncomputable def E5n:V->M V
 | .tup l=>D7 (.int (.lit (aQ l.length)))
 | .ref h=>D3 (G1 h) λo=>match o with
  | .list l=>D7 (.int (.lit (aQ l.length)))
  | _=>A5
 | _=>A5
noncomputable def E2c (ks:List V):M V:=D5 (i6 ks [7106423]) (K4 [.str 7106423]) (D5 (i6 ks [7106423,1751738216]) (K4 [.str 1751738216,.str 7106423]) A5)
noncomputable def D0w (is:List Int):M V:=D5 (Nat.blt (len is) 64) (K4 ((A5n is).map λk=>.int (.lit k))) A5
noncomputable def B5z (ks:List V):M V:=@Option.rec (List Int) (λ_=>M V) (E2c ks) D0w (litsOf ks)
noncomputable def E9g (v:V):M V:=E5i v λ_ l=>B5z (l.map (·.1))
noncomputable def D9e (v:V):M V:=C5d v λ_ l=>D3 (lift (litsOf l)) λks=>D7 (.int (.lit (ks.foldl Int.add 0)))
noncomputable def F0y (v:V):M V:=D3 (lift (R8 v)) λz=>match z with
 | .ofNat n=>D5 (Nat.blt n 100) (D7 (.str (A9d n))) A5
 | .negSucc _=>A5
noncomputable def E7n:V->M V
 | .int i=>D7 (.int i)
 | .bool b=>D7 (.int (.lit (cond b 1 0)))
 | _=>A5
noncomputable def bfn (k:Nat) (v:V):M V:=match k with
 | 0=>E5n v
 | 6=>E7n v
 | 7=>F0y v
 | 8=>E9g v
 | 9=>D9e v
 | _=>A5
noncomputable def builtin (k:Nat) (vs:List V):M V:=match vs with
 | []=>A5
 | v::l=>match l with
  | []=>bfn k v
  | _::_=>A5
noncomputable def A8z (t:Nat):V->M Bool
 | .int _=>D7 (aA t 6)
 | .tup _=>D7 (aA t 3)
 | _=>A5
noncomputable def B2i (c:Cx) (d l:List (V×V)):Option (List (V×V)):=
 @List.rec (V×V) (λ_=>List (V×V)->Option (List (V×V))) (λd=>some d) (λp _ r d=>@Option.rec (List (V×V)) (λ_=>Option (List (V×V))) none (λd'=>r d') (M4 c p.1 p.2 d)) l d
noncomputable def D3f (c:Cx) (k:Nat) (l:List V):M V:=match k with
 | 2=>K4 l
 | 3=>mkT l
 | _=>A5
noncomputable def A4b:List V->List V->List (V×V)
 | a::l,b::m=>(a,b)::A4b l m
 | _,_=>[]
noncomputable def D6a (c:Cx) (k:Nat) (ps:List (V×V)):M V:=match k with
 | 2=>match ps with
  | []=>K4 []
  | _=>A5
 | 4=>D5 (be (len ps) 100) (D3 (lift (B2i c [] ps)) λd=>B3b d) A5
 | _=>A5
noncomputable def C2j (h:Nat) (l:List V):M V:=match l.reverse with
 | x::r=>D3 (j4 h r.reverse) λ_=>D7 x
 | []=>A5
noncomputable def B5x (h:Nat) (l:List V) (v:V):M V:=D5 (isZ v) (match l with
 | x::r=>D3 (j4 h r) λ_=>D7 x
 | []=>A5) A5
noncomputable def D5t (h:Nat) (l:List V) (v:V):M V:=D3 (j4 h (l++[v])) λ_=>D7 .none
noncomputable def D2e (h:Nat) (l:List V) (v:V):M V:=D3 (B1d v) λm=>D3 (j4 h (l++m)) λ_=>D7 .none
noncomputable def B5f (h:Nat) (l:List V) (n:Nat) (vs:List V):M V:=match vs with
 | []=>D5 (aA n 7368560) (C2j h l) A5
 | v::r=>match r with
  | []=>D5 (aA n 107135549927012) (D5t h l v) (D5 (aA n 111568023285348) (D2e h l v) (D5 (aA n 7368560) (B5x h l v) A5))
  | _::_=>A5
noncomputable def C8w (c:Cx) (l:List (V×V)) (k d:V):M V:=D3 (lift (Z1 c k l)) λr=>D7 (r.getD d)
noncomputable def D2w (c:Cx) (h:Nat) (l:List (V×V)) (k:V):M V:=D3 (lift (A0g c k l)) λp=>D3 (B6c h p.2) λ_=>D7 p.1
noncomputable def B9h (c:Cx) (h:Nat) (l:List (V×V)) (n:Nat) (vs:List V):M V:=match vs with
 | []=>A5
 | k::r=>match r with
  | []=>D5 (aA n 7368560 && Y4 k) (D2w c h l k) A5
  | d::r=>match r with
   | []=>D5 (aA n 6776180 && Y4 k) (C8w c l k d) A5
   | _::_=>A5
noncomputable def D6p (s:Nat) (n:Nat) (vs:List V):M V:=match vs with
 | []=>A5
 | v::r=>match r with
  | []=>D5 (aA n 1785686382 && Nat.blt s (Nat.pow 2 8000)) (C5d v λ_ l=>D3 (lift (A0w l)) λm=>mkS (B0o s m)) A5
  | _::_=>A5
structure Fn where
 ps:List (Nat×Bool)
 dflt:List V
 body:SL
structure Fc where
 ps:List (Nat×Bool)
 dflt:List V
 body:CS
noncomputable def bd {α β:Type} (r:Rs α) (f:α->M β):Rs β:=@Rs.rec α (λ_=>Rs β) .no f r
noncomputable def D8y:CX:=λ_ _ _ _=>.no
noncomputable def H5 (v:V):CX:=λ_ _ _ s=>.ok v s
noncomputable def W5 (i:Nat):CX:=λ_ _ e s=>lift (A8 i e.ls) s
noncomputable def E6a (i:Nat):CX:=λ_ _ e s=>lift (A8 i e.cs) s
noncomputable def E6o (a b:CX):CX:=λrn c e s=>bd (a rn c e s) λv s1=>bd (truthy v s1) λy s2=>D5 y (b rn c e s2) (.ok v s2)
noncomputable def cOr (a b:CX):CX:=λrn c e s=>bd (a rn c e s) λv s1=>bd (truthy v s1) λy s2=>D5 y (.ok v s2) (b rn c e s2)
noncomputable def E8w (a:CX):CX:=λrn c e s=>bd (a rn c e s) λv s1=>bd (truthy v s1) λy s2=>.ok (.bool (not y)) s2
noncomputable def F7s:V->M V
 | .int (.lit n)=>D7 (.int (.lit (Int.neg n)))
 | _=>A5
noncomputable def E9o (a:CX):CX:=λrn c e s=>bd (a rn c e s) F7s
noncomputable def A1u (op:Nat) (a b:CX):CX:=λrn c e s=>bd (a rn c e s) λx s1=>bd (b rn c e s1) λy=>c0 c op x y
noncomputable def A6f (op:Nat) (a b:CX):CX:=λrn c e s=>bd (a rn c e s) λx s1=>bd (b rn c e s1) λy s2=>bd (f0 c op x y s2) λr s3=>.ok (.bool r) s3
noncomputable def C7t (o1 o2:Nat) (a b d:CX):CX:=λrn c e s=>bd (a rn c e s) λx s1=>bd (b rn c e s1) λy s2=>bd (f0 c o1 x y s2) λr s3=>
 D5 r (bd (d rn c e s3) λz s4=>bd (f0 c o2 y z s4) λr s5=>.ok (.bool r) s5) (.ok (.bool false) s3)
noncomputable def A8c (t a b:CX):CX:=λrn c e s=>bd (t rn c e s) λv s1=>bd (truthy v s1) λy s2=>D5 y (a rn c e s2) (b rn c e s2)
noncomputable def B6f:CL:=λ_ _ _ s=>.ok [] s
noncomputable def A2c (a:CX) (l:CL):CL:=λrn c e s=>bd (a rn c e s) λv s1=>bd (l rn c e s1) λvs s2=>.ok (v::vs) s2
noncomputable def E9z:CD:=λ_ _ _ s=>.ok [] s
noncomputable def C7a (k v:CX) (l:CD):CD:=λrn c e s=>bd (k rn c e s) λx s1=>bd (v rn c e s1) λy s2=>bd (l rn c e s2) λd s3=>.ok ((x,y)::d) s3
noncomputable def oNo:CO:=λ_ _ _ s=>.ok none s
noncomputable def oSo (a:CX):CO:=λrn c e s=>bd (a rn c e s) λv s1=>.ok (some v) s1
noncomputable def D3l (l:CL):CX:=λrn c e s=>bd (l rn c e s) mkT
noncomputable def D1h (l:CL):CX:=λrn c e s=>bd (l rn c e s) λvs=>K4 vs
noncomputable def mkD (c:Cx) (ps:List (V×V)):M V:=D3 (lift (B2i c [] ps)) λd=>B3b d
noncomputable def E8h (l:CD):CX:=λrn c e s=>bd (l rn c e s) (mkD c)
noncomputable def E2d (k:Nat) (l:CL):CX:=λrn c e s=>bd (l rn c e s) (rn c k)
noncomputable def isNone (r:V) (h:Nat):M V:=match r with
 | .none=>D7 (.ref h)
 | _=>A5
noncomputable def E8z (rn:F5) (c:Cx) (k:Nat) (vs:List V):M V:=
 D3 (lift (Tr.get H1 k)) λcl=>D3 (lift cl.init) λi=>D3 (C8u (.inst k [])) λh=>D3 (rn c i (.ref h::vs)) λr=>isNone r h
noncomputable def F0u (k:Nat) (l:CL):CX:=λrn c e s=>bd (l rn c e s) (E8z rn c k)
inductive MK where
 | fn (f:Nat) | lst | dct | str (s:Nat)
noncomputable def F8v (n:Nat):O->M MK
 | .inst k l=>@Option.rec V (λ_=>M MK) (D3 (lift (Tr.get H1 k)) λcl=>D3 (lift (A8 n cl.ms)) λf=>D7 (.fn f)) (λ_=>A5) (A8 n l)
 | .list _=>D7 .lst
 | .dict _=>D7 .dct
 | _=>A5
noncomputable def D6d (n:Nat):V->M MK
 | .ref h=>D3 (G1 h) (F8v n)
 | .str s=>D7 (.str s)
 | _=>A5
noncomputable def goL (h n:Nat) (vs:List V):O->M V
 | .list l=>B5f h l n vs
 | _=>A5
noncomputable def goD (c:Cx) (h n:Nat) (vs:List V):O->M V
 | .dict l=>B9h c h l n vs
 | _=>A5
noncomputable def E6w (rn:F5) (c:Cx) (n:Nat) (vs:List V) (ov:V):MK->M V
 | .fn f=>rn c f (ov::vs)
 | .lst=>match ov with
  | .ref h=>D3 (G1 h) (goL h n vs)
  | _=>A5
 | .dct=>match ov with
  | .ref h=>D3 (G1 h) (goD c h n vs)
  | _=>A5
 | .str s=>D6p s n vs
noncomputable def F2d (o:CX) (n:Nat) (l:CL):CX:=λrn c e s=>bd (o rn c e s) λov s1=>bd (D6d n ov s1) λk s2=>bd (l rn c e s2) λvs=>E6w rn c n vs ov k
noncomputable def C3c (k:Nat) (l:CL):CX:=λrn c e s=>bd (l rn c e s) (builtin k)
noncomputable def E0h (a:CX) (t:Nat):CX:=λrn c e s=>bd (a rn c e s) λv s1=>bd (A8z t v s1) λb s2=>.ok (.bool b) s2
noncomputable def A8h (v:V):M V:=match v with
 | .opq=>A5
 | v=>D7 v
noncomputable def C9q (n:Nat):V->M V
 | .ref h=>D3 (G1 h) λob=>match ob with
  | .inst _ l=>D3 (lift (A8 n l)) A8h
  | _=>A5
 | _=>A5
noncomputable def E1d (o:CX) (n:Nat):CX:=λrn c e s=>bd (o rn c e s) (C9q n)
noncomputable def B9e (o i:CX):CX:=λrn c e s=>bd (o rn c e s) λov s1=>bd (i rn c e s1) λiv=>getItem c iv ov
noncomputable def E8l (ov:V) (a b s:Option V):M V:=match ov with
 | .tup l=>match s with
  | none=>D3 (lift (cut l a b none)) mkT
  | some _=>A5
 | .ref h=>D3 (G1 h) λob=>match ob with
  | .list l=>D3 (lift (cut l a b s)) λr=>K4 r
  | _=>A5
 | _=>A5
noncomputable def E4r (o:CX) (x y z:CO):CX:=λrn c e s=>bd (o rn c e s) λov s1=>bd (x rn c e s1) λa s2=>bd (y rn c e s2) λb s3=>bd (z rn c e s3) λd=>E8l ov a b d
noncomputable def fits (a:Int):Bool:=leI (-1000000) a && leI a 1000000
noncomputable def F8z (x:V):M It:=D3 (lift (R8 x)) λb=>D5 (fits b) (D7 (.rng 0 1 (Int.toNat b))) A5
noncomputable def G2a (x y z:V):M It:=D3 (lift (R8 x)) λa=>D3 (lift (R8 y)) λb=>D5 (B3d z && fits a && fits b) (D7 (.rng a (-1) (Int.toNat (Int.sub a b)))) A5
noncomputable def C5g (vs:List V):M It:=match vs with
 | []=>A5
 | x::l=>match l with
  | []=>F8z x
  | y::l=>match l with
   | []=>A5
   | z::l=>match l with
    | []=>G2a x y z
    | _::_=>A5
noncomputable def iOf (a:CX):CI:=λrn c e s=>bd (a rn c e s) l5
noncomputable def D6b (l:CL):CI:=λrn c e s=>bd (l rn c e s) C5g
noncomputable def C9a (i j:It):V->M It
 | .ref h=>D7 (.zip i j h)
 | _=>A5
noncomputable def D1f (x y:CX):CI:=λrn c e s=>bd (x rn c e s) λa s1=>bd (y rn c e s1) λb=>D3 (l5 a) λi=>D3 (l5 b) λj=>D3 (w9 .pair) (C9a i j)
noncomputable def E8v (k:Nat) (it:CI):CX:=λrn c e s=>bd (it rn c e s) λi s1=>bd (J4 100 i s1) λl=>D3f c k l
noncomputable def restOf:It->M (List V)
 | .lst h k=>D3 (G1 h) λo=>match o with
  | .list l=>D7 (l.drop k)
  | _=>A5
 | .tup l=>D7 l
 | _=>A5
noncomputable def B1a:It->M (List (V×V))
 | .zip i j h=>D3 (B4t h) λ_=>D3 (restOf i) λl=>D3 (restOf j) λm=>D7 (A4b l m)
 | _=>A5
noncomputable def C6w (k:Nat) (it:CI):CX:=λrn c e s=>bd (it rn c e s) λi s1=>bd (B1a i s1) λps=>D6a c k ps
noncomputable def E5l:CT:=λ_ _ _ _=>A5
noncomputable def A4z (i:Nat):CT:=λ_ _ e v s=>.ok ⟨G0 i v e.ls,e.cs⟩ s
noncomputable def D5m (i:Nat):CT:=λ_ _ e v s=>.ok ⟨e.ls,G0 i v e.cs⟩ s
noncomputable def E6k (o:CX) (n:Nat):CT:=λrn c e v s=>bd (o rn c e s) λov s1=>bd (A8a ov n v s1) λ_ s2=>.ok e s2
noncomputable def C1f (o i:CX):CT:=λrn c e v s=>bd (o rn c e s) λov s1=>bd (i rn c e s1) λiv s2=>bd (setItem c ov iv v s2) λ_ s3=>.ok e s3
noncomputable def D6g:CTL:=λ_ _ e vs s=>@List.rec V (λ_=>Rs Env) (.ok e s) (λ_ _ _=>.no) vs
noncomputable def B0d (t:CT) (l:CTL):CTL:=λrn c e vs s=>@List.rec V (λ_=>Rs Env) .no (λv r _=>bd (t rn c e v s) λe'=>l rn c e' r) vs
noncomputable def B5b (l:CTL):CT:=λrn c e v s=>bd (B1d v s) λvs=>l rn c e vs
noncomputable def E1j:CB:=λ_ _ _ s=>.ok true s
noncomputable def C8c (a:CX) (l:CB):CB:=λrn c e s=>bd (a rn c e s) λv s1=>bd (truthy v s1) λy s2=>D5 y (l rn c e s2) (.ok false s2)
noncomputable def A2k (x:CX) (t:CT) (ifs:CB) (rn:F5) (c:Cx):Nat->Env->It->M (List V)
 | 0,_,_=>A5
 | n + 1,e,i=>D3 (next i) λr=>match r with
  | none=>D7 []
  | some (v,i')=>D3 (t rn c e v) λe'=>D3 (ifs rn c e') λb=>
   D5 b (D3 (x rn c e') λy=>D3 (A2k x t ifs rn c n e' i') λl=>D7 (y::l)) (A2k x t ifs rn c n e' i')
noncomputable def D3p (x:CX) (t:CT) (it:CI) (ifs:CB):CX:=λrn c e s=>bd (it rn c e s) λi s1=>bd (A2k x t ifs rn c 100 ⟨[],e.cs⟩ i s1) λl=>K4 l
noncomputable def E9k:CS:=λ_ _ _=>A5
noncomputable def C6c (a:CX):CS:=λrn c e s=>bd (a rn c e s) λ_ s1=>.ok (.nxt e) s1
noncomputable def C2b (a:CO):CS:=λrn c e s=>bd (a rn c e s) λv s1=>.ok (.ret (@Option.rec V (λ_=>V) .none (λv=>v) v)) s1
noncomputable def R7 (t:CT) (a:CX):CS:=λrn c e s=>bd (a rn c e s) λv s1=>bd (t rn c e v s1) λe' s2=>.ok (.nxt e') s2
noncomputable def D2j (op:Nat) (a b:V):M V:=match a,b with
 | .int x,.int y=>match op with
  | 0=>D7 (.int (D0x x y))
  | 1=>D7 (.int (D5w x y))
  | _=>A5
 | _,_=>A5
noncomputable def E7l (i op:Nat) (a:CX):CS:=λrn c e s=>bd (lift (A8 i e.ls) s) λx s1=>bd (a rn c e s1) λy s2=>bd (D2j op x y s2) λv s3=>.ok (.nxt ⟨G0 i v e.ls,e.cs⟩) s3
noncomputable def E2r (o:CX) (n op:Nat) (a:CX):CS:=λrn c e s=>bd (o rn c e s) λov s1=>bd (C9q n ov s1) λx s2=>bd (a rn c e s2) λy s3=>bd (D2j op x y s3) λv s4=>bd (A8a ov n v s4) λ_ s5=>.ok (.nxt e) s5
noncomputable def D5o (t:CX) (a b:CS):CS:=λrn c e s=>bd (t rn c e s) λv s1=>bd (truthy v s1) λy s2=>D5 y (a rn c e s2) (b rn c e s2)
noncomputable def B0z (t:CX) (b:CS) (rn:F5) (c:Cx):Nat->Env->M Fl
 | 0,_=>A5
 | n + 1,e=>D3 (t rn c e) λv=>D3 (truthy v) λy=>D5 y (D3 (b rn c e) λf=>match f with
   | .nxt e'=>B0z t b rn c n e'
   | .brk _=>A5
   | .ret v=>D7 (.ret v)) (D7 (.nxt e))
noncomputable def E5j (t:CX) (b:CS):CS:=λrn c e=>B0z t b rn c 300 e
noncomputable def A9p (t:CT) (b:CS) (rn:F5) (c:Cx):Nat->Env->It->M Fl
 | 0,_,_=>A5
 | n + 1,e,i=>D3 (next i) λr=>match r with
  | none=>D7 (.nxt e)
  | some (v,i')=>D3 (t rn c e v) λe'=>D3 (b rn c e') λf=>match f with
   | .nxt e''=>A9p t b rn c n e'' i'
   | .brk _=>A5
   | .ret v=>D7 (.ret v)
noncomputable def E3r (t:CT) (it:CI) (b:CS):CS:=λrn c e s=>bd (it rn c e s) λi=>A9p t b rn c 300 e i
noncomputable def F5o:CS:=λ_ _ _=>A5
noncomputable def E4b:CS:=λ_ _ _=>A5
noncomputable def E4k (_:Nat):CS:=λ_ _ _=>A5
noncomputable def C7m:O->M Unit
 | .tab=>D7 ()
 | _=>A5
noncomputable def c6 (i:Nat):CS:=λ_ _ e s=>bd (G1 1 s) λo s1=>bd (C7m o s1) λ_ s2=>.ok (.nxt ⟨e.ls,G0 i .opq e.cs⟩) s2
noncomputable def E8b:CS:=λ_ _ e s=>.ok (.nxt e) s
noncomputable def B6e (a r:CS):CS:=λrn c e s=>bd (a rn c e s) λf s1=>@Fl.rec (λ_=>Rs Fl) (λe'=>r rn c e' s1) (λe'=>.ok (.brk e') s1) (λv=>.ok (.ret v) s1) f
noncomputable def S4:List (Nat×Bool)->List V->List V->Env->M Env
 | [],[],_,e=>D7 e
 | [],_::_,_,_=>A5
 | p::ps,v::vs,ds,e=>S4 ps vs ds (D5 p.2 ⟨e.ls,G0 p.1 v e.cs⟩ ⟨G0 p.1 v e.ls,e.cs⟩)
 | p::ps,[],ds,e=>D3 (lift (D5 (be (Nat.succ ps.length) ds.length) (ds[Nat.sub ds.length (Nat.succ ps.length)]?) none)) λv=>
  S4 ps [] ds (D5 p.2 ⟨e.ls,G0 p.1 v e.cs⟩ ⟨G0 p.1 v e.ls,e.cs⟩)
noncomputable def A9j (c:Cx) (j:Nat):Option Nat:=@Option.rec Nat (λ_=>Option Nat) (@Option.rec Nat (λ_=>Option Nat) none (λm=>D5 (be m 3) (some j) none) c.many[j]?) (λ_=>none) (A8 j c.asg)
noncomputable def E5z (k:Nat) (vs:List V):Option Nat:=
 D5 (aA k 42) (match vs with
  | .sgn j::_=>some j
  | _=>none) (D5 (aA k 125) (match vs with
  | [_,.tup (.sgn j::_)]=>some j
  | _=>none) none)
noncomputable def A3i (c:Cx) (k:Nat) (vs:List V):Option Nat:=@Option.rec Nat (λ_=>Option Nat) none (A9j c) (E5z k vs)
noncomputable def Q5 (s:St):St:=@St.rec (λ_=>St) (λt n d _=>⟨t,n,d,n⟩) s
noncomputable def E6f (d:Nat) (i:I) (s:St):Option I:=@St.rec (λ_=>Option I) (λ_ _ d' _=>D5 (aA d' d) (some i) none) s
noncomputable def E1w:V->Option I
 | .int i=>some i
 | _=>none
noncomputable def A5o (d:Nat) (r:Rs V):Option I:=@Rs.rec V (λ_=>Option I) none (λv s=>@Option.rec I (λ_=>Option I) none (λi=>E6f d i s) (E1w v)) r
noncomputable def rsO {α:Type} (o:Option α) (f:α->Rs V):Rs V:=@Option.rec α (λ_=>Rs V) .no f o
noncomputable def A8l (vs:List V):M V:=match vs with
 | [.scr]=>λs=>@St.rec (λ_=>Rs V) (λt n d f=>D5 (aA n 2 && aA d 0) (w9 .chest ⟨t,n,d,f⟩) .no) s
 | _=>A5
noncomputable def B8q (c:Cx) (h m:Nat) (t:Tr O) (n d f:Nat):Rs V:=match Tr.get t h with
 | some .chest=>match c.many[d]? with
  | some q=>D5 (aA q m && be f h) (.ok (match A8 d c.asg with
   | some j=>.int (.lit (aQ j))
   | none=>.int (.var d)) ⟨t,n,Nat.succ d,f⟩) .no
  | none=>.no
 | _=>.no
noncomputable def drawn (c:Cx) (vs:List V):M V:=match vs with
 | [.ref h,.int (.lit (.ofNat m))]=>λs=>@St.rec (λ_=>Rs V) (B8q c h m) s
 | _=>A5
section
variable (fnTab:Tr Fc)
noncomputable def P4 (rn:F5) (c:Cx) (k:Nat) (vs:List V):M V:=
 D3 (lift (fnTab.get k)) λf=>D3 (S4 f.ps vs f.dflt ⟨[],[]⟩) λe=>D3 (f.body rn c e) λfl=>@Fl.rec (λ_=>M V) (λ_=>D7 .none) (λ_=>A5) (λv=>D7 v) fl
noncomputable def B6k (rn:F5) (c:Cx) (k:Nat) (vs:List V) (j:Nat):M V:=λs=>
 rsO (A5o s.d (P4 fnTab rn ⟨(j,0)::c.asg,c.many,c.wide⟩ k vs (Q5 s))) λx=>rsO (A5o s.d (P4 fnTab rn ⟨(j,1)::c.asg,c.many,c.wide⟩ k vs (Q5 s))) λy=>rsO (A5o s.d (P4 fnTab rn ⟨(j,2)::c.asg,c.many,c.wide⟩ k vs (Q5 s))) λz=>.ok (.int (.sel j x y z)) s
noncomputable def F7e (rn:F5) (c:Cx) (k:Nat) (vs:List V):M V:=
 D5 (aA k 113) (drawn c vs) (D5 (aA k 112) (A8l vs) (@Option.rec Nat (λ_=>M V) (P4 fnTab rn c k vs) (λj=>B6k fnTab rn c k vs j) (A3i c k vs)))
noncomputable def C4v (n:Nat):F5:=@Nat.rec (λ_=>F5) (λ_ _ _=>A5) (λ_ r=>F7e fnTab r) n
end
noncomputable def k0:CX:=D8y
noncomputable def k1 (a0:V):CX:=H5 a0
noncomputable def k2 (a0:Nat):CX:=W5 a0
noncomputable def k3 (a0:Nat):CX:=E6a a0
noncomputable def k4 (a0:Nat):CX:=H5 (@Option.rec V (λ_=>V) .opq (λv=>v) (A8 a0 glT))
noncomputable def k5 (a0:X) (a1:X) (b0:CX) (b1:CX):CX:=E6o b0 b1
noncomputable def k6 (a0:X) (a1:X) (b0:CX) (b1:CX):CX:=cOr b0 b1
noncomputable def k7 (a0:X) (b0:CX):CX:=E8w b0
noncomputable def k8 (a0:X) (b0:CX):CX:=E9o b0
noncomputable def k9 (a0:Nat) (a1:X) (a2:X) (b1:CX) (b2:CX):CX:=A1u a0 b1 b2
noncomputable def k10 (a0:Nat) (a1:X) (a2:X) (b1:CX) (b2:CX):CX:=A6f a0 b1 b2
noncomputable def k11 (a0:Nat) (a1:Nat) (a2:X) (a3:X) (a4:X) (b2:CX) (b3:CX) (b4:CX):CX:=C7t a0 a1 b2 b3 b4
noncomputable def k12 (a0:X) (a1:X) (a2:X) (b0:CX) (b1:CX) (b2:CX):CX:=A8c b0 b1 b2
noncomputable def k13 (a0:XL) (b0:CL×CB):CX:=D3l b0.1
noncomputable def k14 (a0:XL) (b0:CL×CB):CX:=D1h b0.1
noncomputable def k15 (a0:XD) (b0:CD):CX:=E8h b0
noncomputable def k16 (a0:Nat) (a1:Nat) (a2:XL) (b2:CL×CB):CX:=E2d a1 b2.1
noncomputable def k17 (a0:Nat) (a1:Nat) (a2:XL) (b2:CL×CB):CX:=F0u a1 b2.1
noncomputable def k18 (a0:Nat) (a1:Nat) (a2:XL) (b2:CL×CB):CX:=C3c a1 b2.1
noncomputable def k19 (a0:X) (a1:Nat) (b0:CX):CX:=E0h b0 a1
noncomputable def k20 (a0:Nat) (a1:XI) (b1:CI):CX:=E8v a0 b1
noncomputable def k21 (a0:Nat) (a1:X) (a2:X) (b1:CX) (b2:CX):CX:=C6w a0 (D1f b1 b2)
noncomputable def k22 (a0:X) (a1:Nat) (a2:XL) (b0:CX) (b2:CL×CB):CX:=F2d b0 a1 b2.1
noncomputable def k23 (a0:X) (a1:Nat) (b0:CX):CX:=E1d b0 a1
noncomputable def k24 (a0:X) (a1:X) (b0:CX) (b1:CX):CX:=B9e b0 b1
noncomputable def k25 (a0:X) (a1:XO) (a2:XO) (a3:XO) (b0:CX) (b1:CO) (b2:CO) (b3:CO):CX:=E4r b0 b1 b2 b3
noncomputable def k26 (a0:X) (a1:Tg) (a2:XI) (a3:XL) (b0:CX) (b1:CT) (b2:CI) (b3:CL×CB):CX:=D3p b0 b1 b2 b3.2
noncomputable def k27:CL×CB:=(B6f,E1j)
noncomputable def k28 (a0:X) (a1:XL) (b0:CX) (b1:CL×CB):CL×CB:=(A2c b0 b1.1,C8c b0 b1.2)
noncomputable def k29:CD:=E9z
noncomputable def k30 (a0:X) (a1:X) (a2:XD) (b0:CX) (b1:CX) (b2:CD):CD:=C7a b0 b1 b2
noncomputable def k31:CO:=oNo
noncomputable def k32 (a0:X) (b0:CX):CO:=oSo b0
noncomputable def k33 (a0:X) (b0:CX):CI:=iOf b0
noncomputable def k34 (a0:XL) (b0:CL×CB):CI:=D6b b0.1
noncomputable def k35 (a0:X) (a1:X) (b0:CX) (b1:CX):CI:=D1f b0 b1
noncomputable def k36:CT:=E5l
noncomputable def k37 (a0:Nat):CT:=A4z a0
noncomputable def k38 (a0:Nat):CT:=D5m a0
noncomputable def k39 (a0:X) (a1:Nat) (b0:CX):CT:=E6k b0 a1
noncomputable def k40 (a0:X) (a1:X) (b0:CX) (b1:CX):CT:=C1f b0 b1
noncomputable def k41 (a0:TgL) (b0:CTL):CT:=B5b b0
noncomputable def k42:CTL:=D6g
noncomputable def k43 (a0:Tg) (a1:TgL) (b0:CT) (b1:CTL):CTL:=B0d b0 b1
noncomputable def X.den:X->CX:=@X.rec (λ_=>CX) (λ_=>CL×CB) (λ_=>CD) (λ_=>CO) (λ_=>CI) (λ_=>CT) (λ_=>CTL) k0 k1 k2 k3 k4 k5 k6 k7 k8 k9 k10 k11 k12 k13 k14 k15 k16 k17 k18 k19 k20 k21 k22 k23 k24 k25 k26 k27 k28 k29 k30 k31 k32 k33 k34 k35 k36 k37 k38 k39 k40 k41 k42 k43
noncomputable def XL.dd:XL->CL×CB:=@XL.rec (λ_=>CX) (λ_=>CL×CB) (λ_=>CD) (λ_=>CO) (λ_=>CI) (λ_=>CT) (λ_=>CTL) k0 k1 k2 k3 k4 k5 k6 k7 k8 k9 k10 k11 k12 k13 k14 k15 k16 k17 k18 k19 k20 k21 k22 k23 k24 k25 k26 k27 k28 k29 k30 k31 k32 k33 k34 k35 k36 k37 k38 k39 k40 k41 k42 k43
noncomputable def XD.den:XD->CD:=@XD.rec (λ_=>CX) (λ_=>CL×CB) (λ_=>CD) (λ_=>CO) (λ_=>CI) (λ_=>CT) (λ_=>CTL) k0 k1 k2 k3 k4 k5 k6 k7 k8 k9 k10 k11 k12 k13 k14 k15 k16 k17 k18 k19 k20 k21 k22 k23 k24 k25 k26 k27 k28 k29 k30 k31 k32 k33 k34 k35 k36 k37 k38 k39 k40 k41 k42 k43
noncomputable def XO.den:XO->CO:=@XO.rec (λ_=>CX) (λ_=>CL×CB) (λ_=>CD) (λ_=>CO) (λ_=>CI) (λ_=>CT) (λ_=>CTL) k0 k1 k2 k3 k4 k5 k6 k7 k8 k9 k10 k11 k12 k13 k14 k15 k16 k17 k18 k19 k20 k21 k22 k23 k24 k25 k26 k27 k28 k29 k30 k31 k32 k33 k34 k35 k36 k37 k38 k39 k40 k41 k42 k43
noncomputable def XI.den:XI->CI:=@XI.rec (λ_=>CX) (λ_=>CL×CB) (λ_=>CD) (λ_=>CO) (λ_=>CI) (λ_=>CT) (λ_=>CTL) k0 k1 k2 k3 k4 k5 k6 k7 k8 k9 k10 k11 k12 k13 k14 k15 k16 k17 k18 k19 k20 k21 k22 k23 k24 k25 k26 k27 k28 k29 k30 k31 k32 k33 k34 k35 k36 k37 k38 k39 k40 k41 k42 k43
noncomputable def Tg.den:Tg->CT:=@Tg.rec (λ_=>CX) (λ_=>CL×CB) (λ_=>CD) (λ_=>CO) (λ_=>CI) (λ_=>CT) (λ_=>CTL) k0 k1 k2 k3 k4 k5 k6 k7 k8 k9 k10 k11 k12 k13 k14 k15 k16 k17 k18 k19 k20 k21 k22 k23 k24 k25 k26 k27 k28 k29 k30 k31 k32 k33 k34 k35 k36 k37 k38 k39 k40 k41 k42 k43
noncomputable def TgL.den:TgL->CTL:=@TgL.rec (λ_=>CX) (λ_=>CL×CB) (λ_=>CD) (λ_=>CO) (λ_=>CI) (λ_=>CT) (λ_=>CTL) k0 k1 k2 k3 k4 k5 k6 k7 k8 k9 k10 k11 k12 k13 k14 k15 k16 k17 k18 k19 k20 k21 k22 k23 k24 k25 k26 k27 k28 k29 k30 k31 k32 k33 k34 k35 k36 k37 k38 k39 k40 k41 k42 k43
noncomputable def XL.den (l:XL):CL:=l.dd.1
noncomputable def XL.denB (l:XL):CB:=l.dd.2
noncomputable def k44:CS:=E9k
noncomputable def k45 (a0:X):CS:=C6c a0.den
noncomputable def k46 (a0:XO):CS:=C2b a0.den
noncomputable def k47 (a0:Tg) (a1:X):CS:=R7 a0.den a1.den
noncomputable def k48 (a0:Nat) (a1:Nat) (a2:X):CS:=E7l a0 a1 a2.den
noncomputable def k49 (a0:X) (a1:Nat) (a2:Nat) (a3:X):CS:=E2r a0.den a1 a2 a3.den
noncomputable def k50 (a0:X) (a1:SL) (a2:SL) (b1:CS) (b2:CS):CS:=D5o a0.den b1 b2
noncomputable def k51 (a0:X) (a1:SL) (b1:CS):CS:=E5j a0.den b1
noncomputable def k52 (a0:Tg) (a1:XI) (a2:SL) (b2:CS):CS:=E3r a0.den a1.den b2
noncomputable def k53:CS:=F5o
noncomputable def k54:CS:=E4b
noncomputable def k55 (a0:Nat):CS:=E4k a0
noncomputable def k56 (a0:Nat):CS:=c6 a0
noncomputable def k57:CS:=E8b
noncomputable def k58 (a0:S) (a1:SL) (b0:CS) (b1:CS):CS:=B6e b0 b1
noncomputable def S.den:S->CS:=@S.rec (λ_=>CS) (λ_=>CS) k44 k45 k46 k47 k48 k49 k50 k51 k52 k53 k54 k55 k56 k57 k58
noncomputable def SL.den:SL->CS:=@SL.rec (λ_=>CS) (λ_=>CS) k44 k45 k46 k47 k48 k49 k50 k51 k52 k53 k54 k55 k56 k57 k58
noncomputable def Fn.den (f:Fn):Fc:=⟨f.ps,f.dflt,f.body.den⟩
set_option genCtorIdx true
end
end Mine
set_option genInjectivity true
set_option maxRecDepth 100000
namespace Mine
noncomputable section
noncomputable def x0:=X.cst
noncomputable def x1:=X.loc
noncomputable def x2:=X.cel
noncomputable def x3:=X.glb
noncomputable def x4:=X.and
noncomputable def x5:=X.or
noncomputable def x6:=X.not
noncomputable def x7:=X.neg
noncomputable def x8:=X.bin
noncomputable def x9:=X.cmp
noncomputable def xA:=X.cmp2
noncomputable def xB:=X.ite
noncomputable def xC:=X.tup
noncomputable def xD:=X.lst
noncomputable def xE:=X.dct
noncomputable def xF:=X.cfn
noncomputable def xG:=X.ccl
noncomputable def xH:=X.bcl
noncomputable def xI:=X.isi
noncomputable def xJ:=X.col
noncomputable def xK:=X.colz
noncomputable def xL:=X.mth
noncomputable def xM:=X.att
noncomputable def xN:=X.sub
noncomputable def xO:=X.slc
noncomputable def xP:=X.lcp
noncomputable def s0:=S.expr
noncomputable def s1:=S.ret
noncomputable def s2:=S.asg
noncomputable def s3:=S.auL
noncomputable def s4:=S.auA
noncomputable def s5:=S.iff
noncomputable def s6:=S.whl
noncomputable def s7:=S.«for»
noncomputable def s9:=S.fdec
noncomputable def t0:=Tg.loc
noncomputable def t1:=Tg.cel
noncomputable def t2:=Tg.att
noncomputable def t3:=Tg.sub
noncomputable def t4:=Tg.tup
noncomputable def i0:=XI.of
noncomputable def i1:=XI.rng
noncomputable def i2:=XI.zip
noncomputable def o0:=XO.so
noncomputable def xl:List X->XL
 | []=>.nil
 | x::l=>.cons x (xl l)
noncomputable def sl:List S->SL
 | []=>.nil
 | x::l=>.cons x (sl l)
noncomputable def tl:List Tg->TgL
 | []=>.nil
 | x::l=>.cons x (tl l)
noncomputable def n0:Nat:=1936026726
noncomputable def n1:Nat:=512970878052
noncomputable def n2:Nat:=123610792682867
noncomputable def n3:Nat:=440005651813
noncomputable def n4:Nat:=107135549927012
noncomputable def n5:Nat:=1953459300
noncomputable def n6:Nat:=121450625394034
noncomputable def n7:Nat:=7103854
noncomputable def n8:Nat:=499850046565
noncomputable def n9:Nat:=33321191274016372
noncomputable def n10:Nat:=123563833126259
noncomputable def n11:Nat:=482854658917
noncomputable def n12:Nat:=1885434984
noncomputable def n13:Nat:=120282395144825
noncomputable def n14:Nat:=139580802234487687685104996
noncomputable def n15:Nat:=1797577837673427857012
noncomputable def n16:Nat:=108217864776563
noncomputable def n17:Nat:=549665878526739097087858
noncomputable def n18:Nat:=426903366771
noncomputable def n19:Nat:=32199642169962099
noncomputable def n20:Nat:=29681726115444077
noncomputable def n21:Nat:=8530224966148191347
noncomputable def n22:Nat:=2110235463390346503013
noncomputable def n23:Nat:=115359766379419098831873394
noncomputable def n24:Nat:=108230565520755
noncomputable def n25:Nat:=130160803538291
noncomputable def n26:Nat:=115923054064755
noncomputable def n27:Nat:=31647696006964594
noncomputable def n28:Nat:=30792323104203891
noncomputable def n29:Nat:=1835101817
noncomputable def n30:Nat:=1651467385
noncomputable def n31:Nat:=549904460106728972904307
noncomputable def n32:Nat:=500135192948
noncomputable def n33:Nat:=500253615475
noncomputable def n34:Nat:=1802071652
noncomputable def n35:Nat:=108230851060851
noncomputable def n36:Nat:=127961880028532
noncomputable def n37:Nat:=2129761680436714892916
noncomputable def n38:Nat:=2148572918172485578615
noncomputable def n39:Nat:=2128683897332075950181
noncomputable def n40:Nat:=2203406793343055785068
noncomputable def n41:Nat:=36956203099650666862004366963
noncomputable def n42:Nat:=29681726232557157
noncomputable def n43:Nat:=508440638821
noncomputable def n44:Nat:=418330731890
noncomputable def n45:Nat:=422726034283
noncomputable def n46:Nat:=115359766379439976952325476
noncomputable def n47:Nat:=7234300945208472691
noncomputable def n48:Nat:=6875977896418045541
noncomputable def n49:Nat:=125852766205285
noncomputable def n50:Nat:=111568023285348
noncomputable def n51:Nat:=465725251948
noncomputable def n52:Nat:=439855772532
noncomputable def n53:Nat:=530702627600221525208164
noncomputable def n54:Nat:=530904313704211384201317
noncomputable def n55:Nat:=450624087419592987338084
noncomputable def n56:Nat:=1768779884
noncomputable def n57:Nat:=1886151022
noncomputable def n58:Nat:=31367303427878500
noncomputable def n59:Nat:=31651020194079085
noncomputable def n60:Nat:=32485596729405286
noncomputable def n61:Nat:=2128683897331923906148
noncomputable def n62:Nat:=1760250341482801620089
noncomputable def n63:Nat:=478694368626
noncomputable def n64:Nat:=474080961907
noncomputable def n65:Nat:=439956631140
noncomputable def n66:Nat:=461414299502
noncomputable def n67:Nat:=426953241460
noncomputable def n68:Nat:=119225664498803
noncomputable def n69:Nat:=125779852226414
noncomputable def n70:Nat:=495807591539
def a0:X:=x1 7302757
def a1:X:=x0 (.int (.lit 0))
def a2:X:=x1 n63
def a3:X:=x0 .none
def a4:SL:=.nil
def a5:Tg:=t0 n34
def a6:X:=x1 n34
def a7:X:=x0 (.str 6909556)
def a8:X:=x0 (.str 482671223149)
def a9:X:=x0 (.str 7758194)
def a10:X:=x0 (.str 115923121234290)
def G9:X:=x0 (.int (.lit 1))
def Q8:XL:=.nil
def a13:X:=x0 (.str 500186508389)
def V5:S:=.bad
def a15:X:=x0 (.str 7497062)
def a16:X:=x0 (.str 6451064)
def a17:X:=x0 (.str 418531926393)
def a18:X:=x0 (.str 6382708)
def a19:X:=x0 (.int (.lit 3))
def a20:Tg:=t0 107127011501426
def a21:Tg:=t0 1818584692
def a22:X:=x1 31632350188499566
def a23:X:=x1 32498687873999732
def a24:X:=x1 1818584692
def a25:Tg:=t0 1751478885
def a26:X:=x1 1751478885
def a27:X:=x1 n64
def a28:Tg:=t0 n5
def a29:X:=x0 (.str 28271)
def P2:X:=x1 n5
def a31:X:=x0 (.str 469786780261)
def a32:X:=x1 107127011501426
def a33:X:=x1 8097881648255889011
def a34:X:=x1 8319664095743931507
def a35:X:=x1 n65
def X3:X:=x0 (.int (.lit 2))
def a37:X:=x1 482671228019
def a38:X:=x2 n8
def a39:X:=x1 1885434484
def a40:Tg:=t0 1885434484
def a41:X:=x0 (.str 1651470188)
def a42:X:=x0 (.str 474148660594)
def a43:Tg:=t0 452824294770
def a44:X:=x1 452824294770
def Y3:X:=x1 n1
def a46:X:=x1 n9
def a47:X:=x1 1851878757
def a48:Tg:=t0 1851878757
def a49:Tg:=t0 n35
def a50:X:=x1 n56
def a51:Tg:=t0 n65
def a52:X:=x1 n31
def a53:X:=x1 84
def C4:X:=x1 n0
def a55:X:=x1 n35
def a56:X:=x1 n32
def a57:Tg:=t0 1919907699
def a58:X:=x1 1634887539
def a59:X:=x1 1919907699
def a60:X:=x1 2128683896249743142766
def a61:X:=x0 (.str n56)
def a62:X:=x1 n33
def a63:X:=x1 n12
def a64:Tg:=t0 84
def a65:Tg:=t0 n33
def a66:X:=x1 n22
def a67:X:=x0 (.str 26222)
def a68:X:=x0 (.str 120282512125796)
def a69:Tg:=t0 7499639
def a70:XO:=.no
def a71:X:=x1 7499639
def a72:X:=x1 7305070
def a73:X:=x1 482671223149
def a74:X:=x1 n16
def a75:X:=x1 n8
def a76:X:=x1 n58
def a77:X:=x0 (.str 427071271796)
def a78:X:=x1 8030029677536896115
def a79:X:=x1 n49
def a80:X:=x0 (.str 108204962968185)
def a81:X:=x0 (.str 27980807363323236)
def a82:X:=x0 (.str 504363053689)
def a83:X:=x0 (.str 1667330932)
def a84:X:=x1 n37
def a85:X:=x0 (.str 107148485420910)
def a86:X:=x1 n29
def a87:X:=x1 n24
def a88:X:=x1 7038329
def a89:X:=x0 (.bool true)
def a90:X:=x1 n30
def a91:Tg:=t0 n37
def a92:X:=x1 545218990191799012586611
def a93:X:=x1 n17
def a94:X:=x0 (.str 1667329132)
def a95:Tg:=t0 8030029677536896115
def a96:X:=x0 (.str 126956707537768)
def a97:X:=x1 n6
def a98:X:=x1 7106423
def a99:X:=x1 28528
def B6g:X:=x0 (.str 43)
def C4o:X:=x0 (.str 45)
def A3x:X:=x1 n66
def C4l:X:=x1 1684366704
def B2s:Tg:=t0 n9
def B7f:Tg:=t0 n18
def o3:X:=x1 n18
def D4g:X:=x2 n1
def C4p:X:=x1 7627111
def E4w:X:=x0 (.str 129117075895653)
def A1a:Tg:=t0 24948
def M9:X:=x1 24948
def E7k:X:=x0 (.str n27)
def q9:X:=x1 n11
def A4j:X:=x1 1936292453
def C3v:X:=x1 1735356005
def Y0:X:=x1 n43
def A5y:X:=x2 n0
def N6:X:=x1 116
def A6g:Tg:=t0 107
def A4r:X:=x1 107
def D7b:Tg:=t1 n38
def E7y:X:=x2 n38
def D3c:X:=x0 (.str n43)
def B8z:X:=x1 2003792484
def D2a:X:=x0 (.str 482671228019)
def B4b:X:=x2 1685024357
def A1t:X:=x1 n51
def J5:X:=x1 n3
def C9o:Tg:=t0 n51
def D6n:Tg:=t0 n27
def E5q:X:=x0 (.str 439854918756)
def B7c:X:=x1 n27
def D7l:X:=x1 n52
def D5l:X:=x1 126879297138276
def E9a:X:=x0 (.str 125780071117422)
def B3p:X:=x1 n28
def D0v:X:=x1 126870958469236
def E3y:X:=x0 (.int (.lit 1000033))
def A6w:X:=x1 n67
def A4u:X:=x2 n67
def A8s:X:=x0 (.str 7106423)
def U4:X:=x1 n57
def A4k:X:=x0 (.str 1751738216)
def D0d:X:=x0 (.str 1751477348)
def D7d:X:=x0 (.str 1634954099)
def D0j:X:=x0 (.str 1936287598)
def D9b:X:=x0 (.str 1945221619224431977828)
def C3q:X:=x0 (.str 65)
def D6h:X:=x1 1936287598
def D5g:X:=x0 (.str 1668247673)
def B8w:X:=x0 (.str 5464441)
def B8b:Tg:=t0 n6
def B8t:X:=x0 (.str 7632751)
def C0d:X:=x0 (.str 1538103467234288035688)
def A7v:X:=x2 n57
def D4v:X:=x1 1835099237
def F3:X:=xD Q8
def B3:SL:=sl [V5]
def E1r:S:=s2 a20 (x0 (.str 7955827))
def B5g:X:=xL a24 7368560 Q8
def B8k:X:=xN a26 a1
def Y7:X:=xN P2 a1
def R9:X:=xC Q8
def A5u:X:=xN P2 G9
def C4h:X:=xM Y3 1633973363
def R4:X:=xE .nil
def A1v:X:=xM C4 n1
def A4o:X:=x7 G9
def D9n:X:=xM Y3 128034609394803
def D2x:X:=xM Y3 452807650419
def F1a:X:=xM a50 n28
def E6m:X:=xM a71 n47
def C2z:X:=xN a76 G9
def C3j:X:=xN a79 G9
def E1m:X:=xM C4 n24
def D0s:X:=xM C4 33602627781095015
def D5s:Tg:=t2 C4 452924370291
def B2x:X:=xM C4 452924370291
def B2p:X:=xN q9 X3
def D6w:Tg:=t2 C4 n29
def B8m:X:=xM C4 117777820357495025778519667
def D1e:X:=xM a35 n18
def q7:X:=xN N6 a1
def B7h:X:=xN N6 G9
def C2v:X:=xN E7y A4r
def E5d:X:=xN (x2 n25) A4r
def B4a:X:=xM J5 448546039155
def A1x:X:=xM C4 n13
def C4s:X:=xM J5 n30
def E4t:X:=xN (x1 1937007984) G9
def A4n:X:=xM C4 n2
def D1i:Tg:=t2 C4 31372865159785829
def E2a:X:=xM C4 31372865159785829
def B5l:X:=xM C4 112641446864243
def D3r:X:=xM A5y n26
def E6e:X:=xM (x2 n30) n15
def F1w:X:=xM C4 n59
def D2h:X:=xM C4 1818326117
def F2c:X:=xM J5 n36
def E6d:X:=xM A5y n2
def F2j:Tg:=t2 C4 n21
def B3k:X:=xN U4 (x0 (.str 7305070))
def D2c:X:=xF 450624087419674692707699 116 Q8
def D0y:X:=x8 0 (x1 1751474532) A8s
def D0q:X:=x8 0 (x1 1751474532) A4k
def D9v:X:=xN A7v (x0 (.str 1885432178))
def E3i:X:=x9 0 (xN a0 G9) (xN a2 G9)
def C2l:S:=s5 (x9 0 a6 a13) B3 a4
def C3w:S:=s5 (x9 0 a6 a15) B3 a4
def D1t:S:=s5 (x9 0 a6 a16) B3 a4
def D0c:S:=s5 (x9 0 a6 a17) B3 a4
def B5w:X:=x9 1 a24 F3
def B3j:SL:=sl [V5,V5]
def C3l:X:=xN C4h A5u
def C1k:XI:=i0 (xM a50 n10)
def C5r:S:=s2 (t2 C4 n1) Y3
def C5i:X:=xH n7 0 (xl [a59])
def E8x:X:=xH n7 0 (xl [a62])
def E8r:X:=xF 111541935629668 8 (xl [a53])
def E1f:X:=xJ 3 (i0 (x1 1836020325))
def E0s:XI:=i0 (xM a90 n16)
def B8c:S:=s1 (o0 a35)
def D7k:X:=xF 1945221618073196193124 36 (xl [a6])
def E2t:X:=x8 5 X3 (xN (x3 1112101971) a6)
def E3s:X:=xF 465557353332 37 (xl [a6])
def E4v:X:=xB (x9 6 a46 a3) a1 a46
def E7d:X:=xD (xl [(x3 93794725677396)])
def E1q:X:=x8 0 (xM C4 n29) A4j
def E4m:X:=xN (xM a35 126943687306099) B2p
def E0r:X:=x9 0 (xN o3 a1) (x3 93794725677396)
def D4i:X:=xH n7 0 (xl [(x2 n25)])
def D4j:X:=xH n7 0 (xl [E7y])
def E6v:X:=xF 117026742756708 77 (xl [a59])
def E8u:XL:=xl [Y0,(x1 29681726283736434)]
def D1w:XL:=xl [J5,A1t]
def C3h:X:=xM C4s n68
def D7s:XL:=xl [B7c,N6]
def E0p:S:=s2 (t2 C4 452823639416) a1
def F1s:S:=s2 (t2 C4 n26) (x1 n26)
def C9y:S:=s2 (t2 C4 n12) a63
def D0z:S:=s2 (t2 C4 n19) (x1 n19)
def C3d:S:=s2 (t2 C4 n10) (x1 n10)
def F2m:S:=s2 (t2 C4 n28) B3p
def D3i:XI:=i1 (xl [a19])
def C9m:X:=xC (xl [E9a])
def E9c:X:=xN (xN U4 A8s) M9
def E3h:X:=xN (xN A7v D0d) M9
def E9e:S:=s2 a20 (xB (x9 0 P2 a31) a31 a32)
def D3w:XI:=i0 (xF 8097879449466269542 3 (xl [P2]))
def D6y:S:=s5 (x9 0 Y7 a13) B3 a4
def E9u:S:=s5 (x9 1 Y7 a18) B3 a4
def D2z:SL:=sl [V5,V5,V5]
def D9c:S:=s5 (x9 0 (xN a66 a1) a67) B3 a4
def D9s:Tg:=t4 (tl [(t0 482671223149),a49])
def C9k:Tg:=t4 (tl [(t0 545218990191799012586611),(t0 n17)])
def E4q:X:=x8 5 X3 (x8 1 (xN (x3 1112101971) a6) G9)
def F0q:Tg:=t4 (tl [B7f,(t0 482671228019)])
def F2h:S:=s2 A1a (xL C4 n11 (xl [C4p]))
def E8i:X:=xH n7 0 (xl [B8m])
def D1v:X:=xF n20 68 (xl [N6,Y3])
def E6h:Tg:=t4 (tl [(t1 1685024357),a21])
def E8m:X:=x6 (xF 127482043672961397061481587 70 (xl [a26]))
def E0b:Tg:=t4 (tl [(t0 n43),(t0 29681726283736434)])
def E3f:Tg:=t4 (tl [D6n,(t0 116)])
def D2k:XI:=i1 (xl [E6e])
def E2k:X:=xF n23 113 (xl [A4u,(x0 (.int (.lit 9)))])
def E5r:X:=xF n23 113 (xl [A4u,(x0 (.int (.lit 90)))])
def B4j:X:=xC (xl [a7,(x0 (.str 6894386))])
def D9p:X:=xH n7 0 (xl [D2x])
def D9u:S:=s5 (x9 0 P2 a29) (sl [(s1 (o0 a29))]) a4
def E0c:XO:=o0 (xH n7 0 (xl [(xM a71 n10)]))
def E2p:X:=x9 8 a6 (xC (xl [a80,a81]))
def D7j:SL:=sl [V5,V5,V5,V5]
def E1e:S:=s2 a51 (xL C4 1919905645 (xl [q9,G9]))
def C9t:X:=xF n53 69 (xl [N6,a46,Y3])
def G8o:SL:=sl [(s2 (t2 C4 n2) (x1 n2)),(s2 (t2 C4 n1) (xM (x1 n2) n1))]
def E9v:X:=xF n60 44 (xl [N6,A1v])
def E8g:S:=s0 (xL C4 1907614012473664955243 D1w)
def D1n:X:=x9 0 (xF n23 113 (xl [A4u,X3])) a1
def D5h:X:=xC (xl [a1,R9])
def F0d:X:=xD (xl [(xC (xl [C4p,E4w]))])
def F0b:X:=xF 7560217649442615210335139685732 118 (xl [Y7,(xC (xl [a77,a97,A5u]))])
def E3x:X:=xC (xl [(xF n48 114 (xl [A4u,(xD (xl [B6g,C4o,(x0 (.str 42))]))])),E2k])
def fn0:Fn:=⟨[(7302757,false),(n63,false)],[],sl [(s5 (x9 1 (xN a0 a1) (xN a2 a1)) (sl [(s1 (o0 a3))]) a4),(s2 a5 (xN a0 a1)),(s5 (x9 8 a6 (xC (xl [a7,a8,a9,a10]))) (sl [(s1 (o0 (xB E3i F3 a3)))]) a4),C2l,C3w,D1t,D0c,(s5 (x9 0 a6 a18) (sl [(s2 (t0 418430675813) (x4 E3i (x9 0 (xH n7 0 (xl [(xN a0 a19)])) (xH n7 0 (xl [(xN a2 a19)]))))),(s1 (o0 (xB (x1 418430675813) (xK 2 (xN a0 a19) (xN a2 a19)) a3)))]) a4),V5]⟩
def fn1:Fn:=⟨[(31632350188499566,false),(32498687873999732,false),(n64,false),(n65,false)],[],sl [E1r,(s2 a21 (xD (xl [(xC (xl [a22,a23]))]))),(s6 B5w (sl [(s2 (t4 (tl [a25,(t0 499967685221)])) B5g),(s5 (x4 (x9 0 B8k a8) (x9 8 (xN a26 G9) a27)) B3j (sl [(s5 (x9 8 (xN (x1 499967685221) a1) (xC (xl [a9,a10]))) B3 (sl [(s2 (t0 482670637683) (xF 492996253208943392289395 0 (xl [a26,(x1 499967685221)]))),(s2 a28 (xB (x9 6 (x1 482670637683) a3) a29 (x0 (.str 7955827)))),(s0 (xL a24 n50 (xl [(x5 (x1 482670637683) F3)])))]))])),D9u,E9e])),(s1 (o0 a32))]⟩
def fn2:Fn:=⟨[(8097881648255889011,false),(8319664095743931507,false),(n64,false),(n65,false)],[],sl [(s5 (x9 1 (xH n7 0 (xl [a33])) (xH n7 0 (xl [a34]))) B3 a4),E1r,(s7 (t4 (tl [(t0 31632350188499566),(t0 32498687873999732)])) (i2 a33 a34) (sl [(s2 a28 (xF 516535667469631434092645 1 (xl [a22,a23,a27,a35]))),D9u,E9e])),(s1 (o0 a32))]⟩
def fn3:Fn:=⟨[(n5,false)],[],sl [(s2 a5 Y7),C3w,(s5 (x5 (x9 0 a6 a16) (x9 0 a6 a17)) B3 a4),C2l,(s1 (o0 (xB (x9 0 a6 a18) (xN P2 a19) R9)))]⟩
def fn4:Fn:=⟨[(n5,false),(482671228019,false)],[],sl [(s2 a5 Y7),C3w,D1t,D0c,C2l,(s1 (o0 (xB (x9 0 a6 a18) (xC (xl [a18,A5u,(xN P2 X3),(xJ 3 (i0 a37))])) P2)))]⟩
def fn5:Fn:=⟨[(n5,false),(n8,true)],[],sl [(s5 (x9 0 Y7 a8) (sl [(s1 (o0 (xL a38 6776180 (xl [A5u,P2]))))]) a4),(s1 (o0 (xF 32199620896058484 4 (xl [P2,(xP (xF n14 5 (xl [a39,a38])) a40 D3w Q8)]))))]⟩
def fn6:Fn:=⟨[(n5,false),(109299962373989,true)],[],sl [(s5 (x9 0 Y7 a15) B3 (sl [(s5 (x9 0 Y7 a18) (sl [(s2 a28 (xC (xl [a18,A5u,(xJ 3 (i0 (xP .bad (t0 n69) (i0 (xN P2 X3)) Q8))),(xN P2 a19)])))]) a4)])),(s1 (o0 (xF 32199620896058484 4 (xl [P2,(xP (xF n41 6 (xl [a39,(x2 109299962373989)])) a40 D3w Q8)]))))]⟩
def fn7:Fn:=⟨[(n69,false)],[],sl [V5]⟩
def fn8:Fn:=⟨[(n5,false)],[],sl [(s1 (o0 (xF n41 6 (xl [P2,(x3 2037167106948900417390)]))))]⟩
def fn9:Fn:=⟨[(n5,false)],[],sl [(s2 a5 Y7),(s5 (x5 (x9 0 a6 a7) (x9 0 a6 a8)) (sl [(s1 (o0 A5u))]) a4),(s5 (x9 0 a6 a41) B3 a4),(s5 (x9 0 a6 a42) B3 a4),(s5 (x5 (x9 0 a6 a9) (x9 0 a6 a10)) B3 a4),(s2 a43 (xP (xF 2148572918086937966708 9 (xl [a39])) a40 D3w Q8)),(s5 (x9 0 a6 a15) B3j a4),D1t,D0c,C2l,(s2 a43 (x8 0 (xP .bad (t0 n69) (i0 (xN P2 X3)) (xl [(x9 7 (x1 n69) a3)])) a44)),(s1 (o0 (x8 0 A5u (xB (x9 1 a44 F3) (x8 0 (x8 0 (x0 (.str 60)) (xL (x0 (.str 11296)) 1785686382 (xl [a44]))) (x0 (.str 62))) (x0 (.str 0))))))]⟩
def F1u:Fn:=⟨[(n5,false),(n9,false),(n1,false)],[],sl [(s1 (o0 (xN (xN (xM C3l n21) a46) X3)))]⟩
def E1n:Fn:=⟨[(n5,false),(n9,false),(n1,false)],[],sl [D6y,E9u,(s2 (t0 6382708) C3l),(s2 (t1 n33) (xK 4 (xM (x1 6382708) n10) (xN P2 a19))),(s2 (t1 n19) (xK 4 (xM (x1 6382708) n19) (xN P2 X3))),(s9 123649765894510),(s1 (o0 (xP (xC (xl [a47,(xF n14 5 (xl [(xF n41 6 (xl [a39,(x2 123649765894510)])),(x2 n33)]))])) (t4 (tl [a48,a40])) (i0 (xF 483625597707099734767475 10 (xl [P2,a46,Y3]))) Q8)))]⟩
def E7x:Fn:=⟨[(n56,false)],[],sl [(s1 (o0 (xP a47 (t4 (tl [a48,a49])) C1k Q8)))]⟩
def E4u:Fn:=⟨[(n56,false),(n31,false),(84,false)],[],sl [(s2 a51 R4),(s2 (t0 8097881648255889011) (xC (xl [(xM a50 n39)]))),(s5 (x9 4 (xH n7 0 (xl [a52])) a1) B3 a4),(s1 (o0 (xC (xl [(xF 2017717451053246540908 2 (xl [a33,(x8 0 (xJ 3 (i0 a52)) (xC (xl [a53]))),(xF 7953758699407765350 12 (xl [a50])),a35])),a35]))))]⟩
def E2u:Fn:=⟨[(n0,false),(n1,false),(n35,false)],[],sl [C5r,(s2 (t2 C4 n35) a55),(s2 (t2 C4 n66) R4)]⟩
def E2s:Fn:=⟨[(n0,false),(n32,false),(84,false)],[],sl [(s5 (x4 (x9 0 (xN a53 a1) a8) (x9 8 a56 (xL (xM C4 n35) 6776180 (xl [(xN a53 G9),R9])))) B3 a4),(s1 (o0 a3))]⟩
def E4f:Fn:=⟨[(n0,false),(n56,false),(n65,true)],[],sl [(s2 (t0 474147546227) F3),(s7 (t4 (tl [(t1 1851878757),(t0 128034609394803)])) C1k B3),(s1 (o0 (x1 474147546227)))]⟩
def E9j:Fn:=⟨[(n0,false),(n32,false),(1634887539,false),(84,false),(1684366704,false)],[],sl [(s2 a57 F3),(s7 (t0 n56) (i0 (xM A1v 452807650419)) (sl [(s5 (x9 0 (xM a50 n32) a56) (sl [(s2 (t4 (tl [a20,a51])) (xF 33851681503291453303258181740 13 (xl [a50,a58,a53]))),(s7 (t4 (tl [(t0 n63),a40])) (i0 (xB (x9 1 a32 a29) (xL C4 7954875798926618470 (xl [a50,a35])) F3)) D2z),(s5 (x9 1 a32 a29) (sl [(s0 (xL a59 n4 (xl [(xC (xl [a32,(xM a50 n6),a35]))])))]) a4)]) a4)])),(s1 (o0 a59))]⟩
def E1s:Fn:=⟨[(n1,false),(n32,false),(1634887539,false),(84,false),(n35,false)],[],sl [(s2 (t0 2128683896249743142766) (xG 1538388085891037491054 0 (xl [Y3,a55]))),(s5 (x9 0 (xN a53 a1) a9) B3 a4),(s2 a51 (xL a60 7093017055122648934 (xl [a56,a53]))),(s5 (x9 7 a35 a3) B3 a4),(s5 (x4 (x9 0 a56 (x3 1129271385)) (x9 7 .bad a3)) B3 a4),(s2 a57 (xL a60 469311570577966398465395 (xl [a56,a58,a53,a1]))),(s5 (x9 4 C5i G9) B3 a4),(s1 (o0 (xB (x9 1 a59 F3) (xC (xl [a61,(xN (xN a59 a1) G9),(xN (xN a59 a1) X3)])) a3)))]⟩
def E7z:Fn:=⟨[(n12,false),(n33,false)],[],sl [(s5 (x9 0 E8x a1) (sl [(s1 (o0 a63))]) a4),(s1 (o0 (x8 0 (x8 0 (x8 0 a63 (x0 (.str 60))) (xL (x0 (.str 11296)) 1785686382 (xl [(xP (xF 2148572918086937966708 9 (xl [E8r])) a64 (i0 a62) Q8)]))) (x0 (.str 62)))))]⟩
def E3u:Fn:=⟨[(n1,false),(n12,false)],[],sl [(s1 (o0 (xP a47 (t4 (tl [a48,a49])) (i0 (xM (xN (xM Y3 1936287603) a63) n10)) Q8)))]⟩
def E9p:Fn:=⟨[(n1,false),(n12,false),(n33,false)],[],sl [(s2 (t0 n64) (xF 135859871294873547867776371 20 (xl [Y3,a63]))),(s5 (x9 1 (xH n7 0 (xl [a27])) E8x) B3 a4),(s1 (o0 (xK 4 a27 a62)))]⟩
def E7m:Fn:=⟨[(n22,false),(n8,true)],[],sl [(s2 a65 (xJ 3 (i0 (xP (xF n14 5 (xl [a53,a38])) a64 (i0 (xN a66 A4o)) Q8)))),D9c,(s1 (o0 (xC (xl [a68,(xN a66 G9),(xN a66 X3),(xF n14 5 (xl [(xN a66 a19),a38])),a62]))))]⟩
def E4n:Fn:=⟨[(n1,false),(n22,false)],[],sl [D9c,(s2 (t4 (tl [a5,(t0 n32),a48,(t0 7305070),a65])) a66),(s2 a69 (xN D9n a56)),(s2 (t4 (tl [(t0 1634887539),(t0 1836020325)])) (xC (xl [(xO a62 a70 E0c a70),(xO a62 E0c a70 a70)]))),(s2 a51 (xF 126879447475060 18 (xl [Y3,a56,a58,a72,R4]))),(s5 (x5 (x9 6 a35 a3) (x9 1 (xN a35 a1) a61)) B3 a4),(s2 (t4 (tl [(t0 n56),(t1 n8)])) (xC (xl [(xN D2x (xN a35 G9)),(xN a35 X3)]))),(s5 (x9 1 (xP a73 D9s C1k (xl [(x9 9 a73 a38)])) F3) B3 a4),(s5 (x9 8 a47 F1a) (sl [(s1 (o0 (xC (xl [a67,(xN F1a a47),(x8 0 (xJ 3 (i0 (xP (xN a38 a73) D9s C1k Q8))) E1f)]))))]) a4),(s5 (x9 9 a47 E6m) B3 a4),(s1 (o0 (xC (xl [a67,(xN E6m a47),(x8 0 (x8 0 (xC (xl [a72])) (xJ 3 (i0 a58))) E1f)]))))]⟩
def E7i:Fn:=⟨[(n0,false),(1851878757,false),(n15,false),(131090004445754551708904548,false),(n16,false),(n70,false)],[.none,.none],sl [(s2 (t2 C4 1851878757) a47),(s2 (t2 C4 n15) (x1 n15)),(s2 (t2 C4 n68) (xJ 2 (i0 (x1 131090004445754551708904548)))),(s2 (t2 C4 n16) (xB (x9 6 a74 a3) F3 a74)),(s2 (t2 C4 n70) (xB (x9 6 (x1 n70) a3) R4 (x1 n70)))]⟩
def E0e:Fn:=⟨[(84,false),(n8,false)],[],sl [(s1 (o0 (xF 111541935629668 8 (xl [(xF n14 5 (xl [a53,a75]))]))))]⟩
def E0y:Fn:=⟨[(n58,false),(n8,false)],[],sl [(s5 (x9 0 (xN a76 a1) a77) (sl [(s1 (o0 (xC (xl [a77,(xF n54 25 (xl [C2z,a75])),(xN a76 X3)]))))]) a4),(s1 (o0 a76))]⟩
def E5v:Fn:=⟨[(8030029677536896115,false),(n8,true)],[],sl [(s1 (o0 (xJ 3 (i0 (xP (xF 8907096346347313085086974439012 26 (xl [a76,a38])) (t0 n58) (i0 a78) Q8)))))]⟩
def E1l:Fn:=⟨[(n49,false),(n8,false)],[],sl [(s2 a5 (xN a79 a1)),(s5 (x9 8 a6 (xC (xl [(x0 (.str 7697253)),a16]))) B3 a4),(s5 E2p (sl [(s1 (o0 (x8 0 (xC (xl [a6,C3j])) (xF 2280216664664912149782265456387187 27 (xl [(xO a79 (o0 X3) a70 a70),a75])))))]) a4),(s5 (x9 0 a6 a82) B3 a4),(s5 (x9 0 a6 a83) (sl [(s1 (o0 (xC (xl [a6,(xF 8907096346347313085086974439012 26 (xl [C3j,a75])),(xF n54 25 (xl [(xN a79 X3),a75]))]))))]) a4),V5,V5,V5,V5]⟩
def E8a:Fn:=⟨[(n37,false),(n8,false)],[],sl [(s5 (x9 0 (xN a84 a1) a85) (sl [(s1 (o0 (xC (xl [a85,(xN a84 G9),(xF 34793345102919195062858184037 28 (xl [(xN a84 X3),a75]))]))))]) a4),V5,V5]⟩
def E6j:Fn:=⟨[(84,false)],[],sl [(s2 (t4 (tl [a21,(t0 n29)])) (xC (xl [(xD (xl [a53])),a1]))),(s6 B5w (sl [(s3 n29 0 G9),(s5 (x9 4 a86 (x3 401415770515326665446188500042870383)) B3 a4),(s0 (xL a24 n50 (xl [(xF 8097879449466269542 3 (xl [B5g]))])))]))]⟩
def E0v:Fn:=⟨[(n0,false),(n1,false),(n24,false)],[],sl [C5r,(s2 (t2 C4 n24) a87),(s2 (t2 C4 1835099237) R4),(s2 (t2 C4 33602627781095015) F3),(s2 (t2 C4 1801812339) R4),(s2 (t2 C4 109317377451364) a1),(s2 (t2 C4 28273320624416100) R4)]⟩
def E7u:Fn:=⟨[(n0,false),(n22,false)],[],sl [(s7 a64 (i0 (xN a66 X3)) (sl [(s0 (xF 563758904728028438424684 30 (xl [a53])))])),(s2 (t4 (tl [(t0 n12),a65])) (xC (xl [(xN a66 G9),(xJ 3 (i0 (xP E8r a64 (i0 (xN a66 X3)) Q8)))]))),(s2 (t0 7038329) (xF 118083572166502 19 (xl [a63,a62]))),(s5 (x9 9 a88 (xM C4 1801812339)) (sl [(s4 C4 109317377451364 0 (xB (x9 1 a62 R9) G9 a1)),(s5 (x9 4 (xM C4 109317377451364) (x3 1568030353575366596720777733817683)) B3 a4),(s5 (x9 9 a63 E1m) B3 a4),(s2 (t3 (xM C4 1801812339) a88) a89),(s0 (xL D0s n4 (xl [(xC (xl [a88,a63,a62]))])))]) a4),(s1 (o0 a88))]⟩
def E5u:Fn:=⟨[(n0,false)],[],sl [(s6 (x9 1 D0s F3) (sl [(s2 (t4 (tl [(t0 7038329),(t0 n12),a65])) (xL D0s 7368560 (xl [a1]))),(s2 (t0 n8) (xF 599494980746568341922192351289110374 21 (xl [A1v,a63,a62]))),(s2 (t3 (xM C4 1835099237) a88) (xL C4 2017712949614038967417 (xl [a88,(xN E1m a63),a75])))]))]⟩
def E4a:Fn:=⟨[(n0,false),(7038329,false),(n30,false),(n8,true)],[],sl [(s2 a57 (xP (xC (xl [(xF n54 25 (xl [a53,a38])),(x1 115944243164532),a47])) (t4 (tl [a64,(t0 115944243164532),a48])) (i0 (xM a90 n68)) Q8)),(s2 a51 (xG 1114596473 1 (xl [a88,(xM a90 n15),a59,F3,(xM a90 n70)]))),(s7 C9k E0s (sl [(s2 a28 (xP (xF 583735466154217584418342944104607348 29 (xl [a84,a38])) a91 (i0 a92) Q8)),(s0 (xL (xM a35 n16) n4 (xl [(xD (xl [P2,(xL C4 149436279335479706057984128630863982450 (xl [a35,a93,a38]))]))])))])),B8c]⟩
def E1p:Fn:=⟨[(n0,false),(n30,false),(n17,false),(n8,false)],[],sl [(s2 a5 (xN a93 a1)),(s5 (x9 0 a6 a94) (sl [(s2 (t0 n22) (xF 35403937754964083257350710630 23 (xl [A1v,(xF 469514561038097811924326 22 (xl [(xN a93 G9),a75]))]))),(s2 a95 (xF 2280216664664912149782265456387187 27 (xl [(xN a93 X3),a75]))),(s1 (o0 (xC (xl [a94,(xC (xl [a67,(xL C4 131260348654948 (xl [a66])),R9])),a78,(xN a93 a19),(xN a93 (x0 (.int (.lit 4))))]))))]) a4),(s5 (x9 0 a6 (x0 (.str 1685221232))) D7j a4),(s5 (x9 8 a6 (xC (xl [a96,(x0 (.str 107148485161588))]))) B3 a4),(s1 (o0 a93))]⟩
def E6n:Fn:=⟨[(n34,false)],[],sl [(s1 (o0 (x9 0 (xN a6 a1) (x0 (.str 105)))))]⟩
def F1i:Fn:=⟨[(n34,false)],[],sl [(s1 (o0 (xB D7k (x8 1 a1 E4q) a1)))]⟩
def E5o:Fn:=⟨[(n34,false)],[],sl [(s1 (o0 (xB D7k (x8 1 E4q G9) (x8 1 E2t G9))))]⟩
def E4p:Fn:=⟨[(n34,false),(n6,false)],[],sl [(s1 (o0 (xA 3 3 E3s a97 (xF 7454131802490631028 38 (xl [a6])))))]⟩
def E0g:Fn:=⟨[(n34,false),(n6,false)],[],sl [(s2 (t0 7106423) E3s),(s1 (o0 (x8 0 a98 (x8 3 (x8 1 a97 a98) E2t))))]⟩
def E6t:Fn:=⟨[(n34,false),(n6,false)],[],sl [(s1 (o0 (xF 33621285052376420 40 (xl [a6,(xH 6909556 6 (xl [a97]))]))))]⟩
def E8j:Fn:=⟨[(28528,false),(97,false),(98,false)],[],sl [(s5 (x9 0 a99 B6g) (sl [(s1 (o0 (x8 0 (x1 97) (x1 98))))]) a4),(s5 (x9 0 a99 C4o) (sl [(s1 (o0 (x8 1 (x1 97) (x1 98))))]) a4),(s5 (x9 0 a99 (x0 (.str 42))) (sl [(s1 (o0 (x8 2 (x1 97) (x1 98))))]) a4),V5,V5,V5,V5,V5,V5]⟩
def E8t:Fn:=⟨[(n34,false),(28528,false),(97,false),(98,false)],[],sl [(s5 (x9 8 a99 (xC (xl [(x0 (.str 15420)),(x0 (.str 15934))]))) B3 a4),(s2 a51 (xF 435811345268 42 (xl [a99,(x1 97),(x1 98)]))),(s5 (x9 6 a35 a3) B3 a4),(s5 (x4 (x9 0 a99 (x0 (.str 37))) (x4 (x9 0 (x1 98) A4o) D7k)) B3 a4),(s1 (o0 (xC (xl [(xF 33621285052376420 40 (xl [a6,a35])),(x6 (xF 1718187123 39 (xl [a6,a35])))]))))]⟩
def E4e:Fn:=⟨[(n5,false),(n1,false)],[],sl [(s1 (o0 (xN (xF 7882813871301485924 45 (xl [P2,Y3,a1,R4])) a1)))]⟩
def F2l:Fn:=⟨[(n5,false),(n1,false),(1684366704,false),(n66,false)],[],sl [(s5 (x9 8 Y7 (xC (xl [a7,a41,a15,a16]))) (sl [(s1 (o0 (xC (xl [G9,G9]))))]) a4),(s5 (x9 0 Y7 a42) B3 a4),(s5 (x9 9 P2 A3x) (sl [(s5 (x9 5 C4l (x3 102762437251909137893762300547083236724)) B3 a4),(s2 (t3 A3x P2) a3),(s2 (t3 A3x P2) (xF 8667245511089928960354447943031 46 (xl [P2,Y3,(x8 0 C4l G9),A3x])))]) a4),(s5 (x9 6 (xN A3x P2) a3) B3 a4),(s5 (x9 4 (xN (xN A3x P2) G9) (x3 26307183936492448346681409537650096829812)) B3 a4),(s1 (o0 (xN A3x P2)))]⟩
def E9b:Fn:=⟨[(n5,false),(n1,false),(1684366704,false),(n66,false)],[],sl [D6y,(s5 (x9 0 Y7 a17) B3j a4),E9u,(s2 (t4 (tl [a51,a57])) (xC (xl [C3l,F3]))),(s7 B2s (i1 (xl [(xH n7 0 (xl [(xM a35 n21)]))])) (sl [(s0 (xL a59 n4 (xl [(xF 126948184253796 47 (xl [(xF 530702627578321570915699 48 (xl [P2,a46,Y3])),Y3,C4l,A3x]))])))])),(s5 (x6 (xM a35 n20)) (sl [(s1 (o0 (xN a59 a1)))]) a4),V5]⟩
def E3b:Fn:=⟨[(n33,false),(n1,false),(1684366704,false),(n66,false)],[],sl [(s2 F0q (xC (xl [a1,G9]))),(s7 a28 (i0 a62) (sl [(s2 a69 (xF 7882813871301485924 45 (xl [P2,Y3,C4l,A3x]))),(s2 F0q (xC (xl [(x8 0 o3 (xN a71 a1)),(x8 0 a37 (xN a71 G9))])))])),(s1 (o0 (xC (xl [o3,a37]))))]⟩
def E0k:Fn:=⟨[(n5,false),(n9,false),(n1,false)],[],sl [D6y,(s1 (o0 (xP a44 (t4 (tl [a48,a43])) (i0 (xF 1889162491043692638054 11 (xl [P2,E4v,Y3]))) Q8)))]⟩
def E4y:Fn:=⟨[(n5,false),(n1,false)],[],sl [(s1 (o0 (xB (x4 (x9 0 Y7 a18) (xM C3l n20)) G9 a1)))]⟩
def E0j:Fn:=⟨[(n5,false),(n9,false),(n6,false),(n1,true)],[],sl [(s2 a65 (xF 530702627578321570915699 48 (xl [P2,a46,D4g]))),(s1 (o0 (x8 0 (xF 123808393329597239575798629 49 (xl [P2,D4g])) (xH 7566701 9 (xl [(xP (xF n60 44 (xl [a0,D4g])) (t0 7302757) (i0 (xO a62 a70 (o0 a97) a70)) Q8)])))))]⟩
def E2o:Fn:=⟨[(n0,false),(7627111,false)],[],sl [(s2 D5s F0d)]⟩
def F0i:Fn:=⟨[(n0,false),(7627111,false)],[],sl [(s7 A1a (i1 (xl [(x8 1 (xH n7 0 (xl [B2x])) G9),A4o,A4o])) (sl [(s5 (x9 0 (xN (xN B2x M9) a1) C4p) (sl [(s1 (o0 M9))]) a4)])),V5]⟩
def E0u:Fn:=⟨[(n0,false),(7627111,false)],[],sl [F2h,(s2 (t0 1801810036) (xP a71 a69 (i0 (xO B2x (o0 (x8 0 M9 G9)) a70 a70)) (xl [(x9 1 (xN a71 G9) E4w)]))),(s2 D5s (x8 0 (xO B2x a70 (o0 (x8 0 M9 G9)) a70) (x1 1801810036)))]⟩
def E8o:Fn:=⟨[(n0,false),(7627111,false)],[],sl [F2h,(s5 (x9 0 (xN (xN B2x M9) G9) (x0 (.str 126892148680036))) B3 a4),(s2 D5s (x8 0 (xO B2x a70 (o0 M9) a70) F0d))]⟩
def E9y:Fn:=⟨[(460069610771464944447342,false),(122485596185972,false),(7627111,false)],[],sl [(s1 (o0 (xC (xl [E7k,(x1 460069610771464944447342),(x1 122485596185972),C4p]))))]⟩
def E2x:Fn:=⟨[(n11,false),(n29,false)],[],sl [(s1 (o0 (xC (xl [E7k,(xN q9 G9),(x8 0 B2p a86),(xN q9 a19)]))))]⟩
def E9n:Fn:=⟨[(n0,false),(1936292453,false)],[],sl [(s2 (t2 C4 n18) (x8 2 E7d A4j)),(s2 (t2 C4 126943687306099) (xP (xG 358434825067 3 (xl [(x3 340767163730)])) A1a (i1 (xl [A4j])) Q8)),(s2 (t2 C4 n42) a89)]⟩
def F2e:Fn:=⟨[(n0,false)],[],sl [(s2 (t2 C4 117777820357495025778519667) F3),(s2 D6w a1),(s2 (t2 C4 1952540531) a1)]⟩
def F1n:Fn:=⟨[(n0,false),(1936292453,false)],[],sl [(s5 (x9 4 E1q (x3 365085516491731457821779)) B3 a4),(s2 D6w E1q),(s0 (xL B8m n4 (xl [(xG 308953883319636297609070 4 (xl [A4j]))]))),(s1 (o0 (x8 1 E8i G9)))]⟩
def F0t:Fn:=⟨[(n0,false),(n6,false)],[],sl [(s1 (o0 (xF n27 55 (xl [a97,a1,(x3 340767163730)]))))]⟩
def F2i:Fn:=⟨[(n0,false),(n6,false)],[],sl [(s1 (o0 (x4 (xA 3 2 a1 a97 E8i) (xM (xN B8m a97) n42))))]⟩
def E3v:Fn:=⟨[(n0,false),(n6,false)],[],sl [(s5 (x6 (xL C4 n42 (xl [a97]))) B3 a4),(s2 (t0 1735356005) (xN B8m a97)),(s2 D6w (x8 1 (xM C4 n29) (xH n7 0 (xl [(xM C3v n18)])))),(s2 (t4 (tl [(t2 C3v n42),(t2 C3v n18),(t2 C3v 126943687306099)])) (xC (xl [(x0 (.bool false)),F3,F3])))]⟩
def E3e:Fn:=⟨[(n0,false),(n11,false),(1936292453,false)],[],sl [(s5 (x6 (xL C4 n42 (xl [(xN q9 G9)]))) B3 a4),(s2 a51 (xN B8m (xN q9 G9))),(s5 (x5 (x9 2 B2p a1) (x9 4 (x8 0 B2p A4j) (xH n7 0 (xl [D1e])))) B3 a4),B8c]⟩
def E1y:Fn:=⟨[(n0,false),(n11,false)],[],sl [E1e,(s0 (xL E4m 1919246692 (xl [(xN q9 a19)]))),(s1 (o0 (xN D1e B2p)))]⟩
def D9f:Fn:=⟨[(n0,false),(n11,false),(n43,false)],[],sl [E1e,(s0 (xL E4m 513020621925 (xl [(xN q9 a19)]))),(s2 (t3 D1e B2p) Y0)]⟩
def E1v:Fn:=⟨[(n0,true),(n11,true),(1936292453,false)],[],sl [(s1 (o0 (xP (xL A5y 1919246692 (xl [(xF 470021465444 56 (xl [(x2 n11),M9]))])) A1a (i1 (xl [A4j])) Q8)))]⟩
def E3a:Fn:=⟨[(n0,false),(n11,false),(n25,false)],[],sl [(s7 A1a (i1 (xl [(xH n7 0 (xl [(x1 n25)]))])) (sl [(s0 (xL C4 513020621925 (xl [(xF 470021465444 56 (xl [q9,M9])),(xN (x1 n25) M9)])))]))]⟩
def E2y:Fn:=⟨[(116,false),(n1,false)],[],sl [(s1 (o0 (x4 (x9 0 q7 a18) (xM (xN C4h B7h) n20))))]⟩
def D9d:Fn:=⟨[(116,false),(n9,false),(n1,false)],[],sl [(s5 (x9 0 q7 a13) B3 a4),(s5 (x9 0 q7 a17) B3 a4),(s1 (o0 (xP (x1 1700881256) (t4 (tl [a48,(t0 1700881256)])) (i0 (xF 1889162491043692638054 11 (xl [N6,E4v,Y3]))) Q8)))]⟩
def E7p:Fn:=⟨[(116,false)],[],sl [(s1 (o0 (x9 8 q7 (xC (xl [a13,a17,a18])))))]⟩
def F1t:Fn:=⟨[(116,false),(n18,false),(n1,false)],[],sl [(s2 (t4 (tl [B2s,A1a])) (xC (xl [a3,a1]))),(s5 D1v B3 a4),(s2 a51 F3),(s7 (t0 1700881256) (i0 C9t) (sl [(s2 (t0 n29) (xF n60 44 (xl [(x1 1700881256),Y3]))),(s0 (xL a35 n4 (xl [(xO o3 (o0 M9) (o0 (x8 0 M9 a86)) a70)]))),(s3 24948 0 a86)])),(s1 (o0 (xC (xl [a46,a35]))))]⟩
def E2b:Fn:=⟨[(116,false),(n18,false),(n1,false)],[],sl [(s5 (x6 (xF 127482043672961397061481587 70 (xl [N6]))) (sl [(s5 (x5 (x9 0 q7 a42) E0r) B3 a4),(s1 a70)]) a4),(s5 (x4 D1v E0r) B3 a4),(s2 (t4 (tl [B2s,a57])) (xF 2279350429444218050288762747645043 71 (xl [N6,o3,Y3]))),(s2 (t0 n38) C9t),(s7 A6g (i1 (xl [C5i])) (sl [(s0 (xF 563758904728045535325285 72 (xl [(xN (x1 n38) A4r),(xN a59 A4r),Y3])))]))]⟩
def F0j:Fn:=⟨[(116,false),(n43,false),(n1,false)],[],sl [(s2 a21 (xD (xl [(xC (xl [N6,Y0]))]))),(s6 B5w (sl [(s2 (t4 (tl [a25,a28])) B5g),(s2 a43 (xF 497885577439491918883940 74 (xl [a26,P2,Y3]))),(s5 (x9 6 a44 a3) B3 a4),(s0 (xL a24 n50 (xl [a44])))])),(s1 (o0 a89))]⟩
def F0f:Fn:=⟨[(116,false),(n43,false),(n1,false)],[],sl [(s5 (x9 0 q7 a41) B3 a4),(s5 (x9 0 q7 a7) (sl [(s2 (t0 7598521962762038373) (x4 (xI Y0 6) (x6 (xI Y0 11)))),(s1 (o0 (xB (x4 (x1 7598521962762038373) (xF 1718187123 39 (xl [B7h,Y0]))) F3 a3)))]) a4),(s5 (x6 (xI Y0 3)) B3 a4),(s5 (x9 8 q7 (xC (xl [a13,a17]))) B3 a4),(s5 (x9 1 (xH n7 0 (xl [Y0])) X3) B3 a4),(s5 (x9 0 q7 a16) B3 a4),(s5 (x5 (x9 1 q7 a18) (x6 (xI (xN Y0 G9) 3))) B3 a4),(s2 (t0 7598521949876482661) (x9 8 (xN Y0 a1) (xJ 2 (i1 (xl [(xH n7 0 (xl [(xM (xN C4h B7h) n21)]))]))))),(s1 (o0 (xB (x1 7598521949876482661) (xF 123563683243364 75 (xl [N6,(xN Y0 a1),(xN Y0 G9),Y3])) a3)))]⟩
def E0d:Fn:=⟨[(116,false),(n9,false),(n25,true),(n1,false)],[],sl [(s5 (x4 (x9 0 q7 a17) (x9 1 D4i (xN N6 X3))) B3 a4),(s2 D7b C9t),(s5 (x9 1 D4i D4j) B3 a4),(s1 (o0 (xP (xC (xl [C2v,E5d])) A6g (i1 (xl [D4i])) Q8)))]⟩
def E6r:Fn:=⟨[(116,false),(n43,false),(n1,false),(n13,false)],[.none],sl [(s2 E6h (xC (xl [F3,(xD (xl [(xC (xl [D3c,N6,Y0]))]))]))),(s6 B5w (sl [(s2 (t4 (tl [(t0 2003792484),a25,a28])) B5g),(s5 (x9 0 B8z (x0 (.str 422776956260))) D7j (sl [(s5 (x9 0 B8z D2a) (sl [(s2 a57 (xO (xP (xL B4b 7368560 Q8) A6g (i1 (xl [A5u])) Q8) a70 a70 (o0 A4o))),(s0 (xL B4b n4 (xl [(xB (x9 0 B8k a18) (xF 112602976642404 78 (xl [a26,Y7,a59,Y3])) E6v)])))]) (sl [(s5 (x4 (x9 0 B8k a16) (x9 7 (x1 n13) a3)) B3j (sl [(s5 E8m (sl [(s0 (xL B4b n4 (xl [(xD (xl [P2]))])))]) (sl [(s2 (t4 (tl [B2s,(t1 n25)])) (xB (x9 0 B8k a18) P2 (xC (xl [a3,P2])))),(s2 D7b (xF n53 69 (xl [a26,a46,Y3]))),(s0 (xL a24 n4 (xl [(xC (xl [D2a,a26,(xC (xl [a46,D4j]))]))]))),(s0 (xL a24 n50 (xl [(xP (xC (xl [D3c,C2v,E5d])) A6g (i1 (xl [(x8 1 D4j G9),A4o,A4o])) Q8)])))]))]))]))]))])),(s1 (o0 (xN B4b a1)))]⟩
def E4g:Fn:=⟨[(1919907699,false)],[],sl [(s2 a51 F3),(s7 a69 (i0 a59) (sl [(s0 (xL a35 n50 (xl [a71])))])),B8c]⟩
def D9x:Fn:=⟨[(116,false),(n9,false),(1919907699,false),(n1,false)],[],sl [(s5 (x6 D1v) (sl [(s1 (o0 E6v))]) a4),V5,V5]⟩
def E2e:Fn:=⟨[(116,false),(n18,false),(n1,false),(n13,false)],[],sl [(s2 E6h (xC (xl [F3,(xD (xl [(xC (xl [D3c,N6,o3]))]))]))),(s6 B5w (sl [(s2 (t4 (tl [(t0 2003792484),a25,a69])) B5g),(s5 (x9 0 B8z (x0 (.str 7103844))) B3 (sl [(s5 (x9 0 B8z D2a) B3j (sl [(s5 (x9 8 B8k (xC (xl [a16,a15]))) D2z (sl [(s5 E8m (sl [(s0 (xL B4b n4 (xl [(xN a71 a1)])))]) D7j)]))]))]))])),(s1 (o0 (xN B4b a1)))]⟩
def E9w:Fn:=⟨[(n0,false),(n2,false)],[],sl [(s2 (t2 C4 n2) (x1 n2)),(s2 (t2 C4 n1) (xM (x1 n2) n1))]⟩
def F1j:Fn:=⟨[(116,false),(28528,false),(97,false),(98,false)],[],sl [(s2 E0b (xF 27980807363323236 43 (xl [B7h,a99,(x1 97),(x1 98)]))),(s5 (x9 6 Y0 a3) B3 a4),(s1 (o0 (xC E8u)))]⟩
def E9m:Fn:=⟨[(n0,false),(n13,false),(n1,false)],[],sl [(s2 (t2 C4 n13) (x1 n13)),C5r]⟩
def F2n:Fn:=⟨[(n0,false),(n3,false),(n51,false)],[],sl [(s5 (x9 9 A1t B4a) B3 a4),(s1 (o0 (xL A1x 1650553701 (xl [(xN B4a A1t)]))))]⟩
def E0w:Fn:=⟨[(n0,false),(n3,false),(n11,false)],[],sl [(s2 (t4 (tl [C9o,(t0 495874044019)])) q9),(s2 (t4 (tl [D6n,(t0 116),B2s])) (xC (xl [(xL C4 29395913220779878 D1w),(xN (xN C3h A1t) a1),a3]))),(s7 (t0 1937007984) (i0 (x1 495874044019)) (sl [(s5 (x9 0 (xN (x1 1937007984) a1) (x0 (.str 7237134442205115252))) B3j (sl [(s5 (x9 0 (xN (x1 1937007984) a1) E5q) (sl [(s2 D6n (xF 470021465444 56 (xl [B7c,(xF 578421874062941984328230864198921316 50 (xl [N6,a46,E4t,A1v]))]))),(s2 (t4 (tl [(t0 116),B2s])) (xC (xl [(xN (xF n53 69 (xl [N6,a46,A1v])) E4t),a3])))]) B3)]))])),(s1 (o0 (xC D7s)))]⟩
def F1f:Fn:=⟨[(n0,false),(n27,false),(116,false)],[],sl [(s2 B7f (xL A1x 8243101776696405100 (xl [B7c,E9v]))),(s0 (xF 563758904728045535325285 72 (xl [N6,o3,A1v]))),(s1 (o0 o3))]⟩
def E4l:Fn:=⟨[(n0,false),(n27,false),(116,false)],[],sl [(s0 (xL A1x n40 (xl [B7c,(x8 2 E7d E9v)])))]⟩
def E9i:Fn:=⟨[(n0,false),(n3,false),(n58,false)],[],sl [(s5 (x9 0 (xN a76 a1) a77) (sl [(s1 (o0 (xC (xl [(xF 7162249995450543974 76 (xl [C2z,(xN a76 X3),A1v])),C2z]))))]) a4),(s2 E3f (xL C4 32493246317817702 (xl [J5,C2z]))),(s2 B7f (xL C4 1919246692 D7s)),(s5 (x9 0 (xN a76 a1) (x0 (.str 1836021349))) (sl [(s0 (xL C4 465557354085 D7s))]) a4),(s1 (o0 (xC (xl [o3,N6]))))]⟩
def E0m:Fn:=⟨[(n0,false),(n2,false)],[],sl [(s2 (t2 C4 n2) (x1 n2)),(s2 (t2 C4 n1) (xM (x1 n2) n1))]⟩
def E0x:Fn:=⟨[(n0,false),(n3,false),(n49,false)],[],sl [(s2 a5 (xN a79 a1)),(s5 (x9 0 a6 (x0 (.str 7697253))) B3 a4),C3w,(s5 E2p (sl [(s1 (o0 (xL C4 122485478815599 (xl [J5,a79]))))]) a4),(s5 (x9 8 a6 (xC (xl [a82,a83]))) (sl [(s1 (o0 (xD (xl [(xL C4 122485478485605 (xl [J5,a79]))]))))]) a4),V5,V5,V5]⟩
def E3j:Fn:=⟨[(n0,false),(n3,false),(n49,false)],[],sl [(s2 (t0 28528) C3j),(s2 (t4 (tl [(t0 n52),(t0 116)])) (xL A4n 499850634606 (xl [J5,(xN a79 X3)]))),(s2 (t0 126879297138276) (xN (xL A4n 499850634606 (xl [J5,(xN a79 a19)])) a1)),(s2 (t4 (tl [(t0 97),(t0 98)])) (xC (xl [(xN D7l a1),(xN D5l a1)]))),(s5 (x9 8 a99 (x3 81372523048614403716894291)) B3 a4),(s5 (x9 8 a99 (xC (xl [(x0 (.str 38)),(x0 (.str 124)),(x0 (.str 94))]))) B3 a4),(s2 E0b (xF 8243104006053717348 81 (xl [N6,a99,(x1 97),(x1 98)]))),(s1 (o0 (xB (x9 0 (xN a79 a1) a81) (xD E8u) (xD (xl [Y0])))))]⟩
def E5e:Fn:=⟨[(n0,false),(n3,false),(n49,false)],[],sl [(s5 (x9 0 (xN a79 a1) a83) (sl [(s2 (t4 (tl [(t0 1667591276),(t0 116)])) (xC (xl [(xN (xN (xL A4n 499850634606 (xl [J5,C3j])) a1) a1),(xN a79 X3)]))),(s1 (o0 (xB (x9 0 q7 a7) (xF 7161131826149944948 41 (xl [B7h,(xH 6909556 6 (xl [(x1 1667591276)]))])) (x1 1667591276))))]) a4),V5,V5,V5]⟩
def E7v:Fn:=⟨[(n0,false),(n30,false),(n36,false),(n44,false)],[],sl [(s2 (t2 C4 n30) a90),(s2 (t2 C4 n36) (x1 n36)),(s2 (t2 C4 n44) (x1 n44)),(s2 (t2 C4 448546039155) R4),(s2 (t2 C4 n45) a1),E0p,(s2 (t2 C4 1785684595) F3)]⟩
def E8k:Fn:=⟨[(n0,false),(n45,false)],[],sl [(s2 (t2 C4 n45) (x1 n45)),E0p]⟩
def F2b:Fn:=⟨[(n30,false)],[],sl [(s2 a51 R4),(s7 C9k E0s (sl [(s7 a91 (i0 a92) (sl [(s5 (x9 0 (xN a84 a1) (x0 (.str 1818850917))) B3 a4)]))])),B8c]⟩
def D9l:Fn:=⟨[(n0,false),(n59,false),(n1,false),(n26,false),(1718969708,false)],[],sl [(s2 (t2 C4 n59) (x1 n59)),C5r,F1s,(s2 (t2 C4 1718969708) (x1 1718969708)),(s2 (t2 C4 n13) (xG 85098023055993 5 Q8)),(s2 (t2 C4 n2) (xG 88426420594035 7 (xl [A1x,Y3]))),(s2 (t2 C4 32218308148553075) (xG 23211108893812083 8 (xl [A4n]))),(s2 (t2 C4 1735161189) (xG 4932127069949424997 6 (xl [A4n]))),(s2 (t2 C4 1818326117) R4),(s2 (t2 C4 112641446864243) F3),(s2 (t2 C4 123636697429107) F3),(s2 D1i a3)]⟩
def F1p:Fn:=⟨[(n0,false),(7038329,false)],[],sl [(s2 (t4 (tl [(t2 C4 112641446864243),(t2 C4 123636697429107),D1i])) (xC (xl [F3,F3,a3]))),(s0 (xL C4 435644818802 (xl [a88,(xL C4 497885726060478611814259 (xl [a88])),a3,a3]))),(s6 (x9 6 E2a a3) (sl [(s5 (x9 3 (xM C4 1718969708) a1) B3 a4),(s4 C4 1718969708 1 G9),(s0 (xL C4 1937007984 (xl [(xN B5l A4o)])))])),(s1 (o0 (xC (xl [E2a,(xM C4 123636697429107)]))))]⟩
def F1y:Fn:=⟨[(n0,true),(7038329,false)],[],sl [(s2 (t1 n30) (xL A5y 27707025041354598 (xl [a88]))),(s5 (x9 1 (xH n7 0 (xl [D3r])) E6e) B3 a4),(s2 D7b (xP (xN (xN (xM (x2 n30) n68) (x8 0 A4r G9)) a1) A6g D2k Q8)),(s7 A6g D2k (sl [(s5 (x6 (xF 29681726367165540 73 (xl [C2v,(xN D3r A4r),(xM A5y n1)]))) B3 a4)])),(s1 (o0 (xP (xF 7162249995450543974 76 (xl [C2v,(xN D3r A4r),(xM A5y n1),(xM A5y n13)])) A6g D2k Q8)))]⟩
def E5g:Fn:=⟨[(n0,false),(7038329,false)],[],sl [(s5 (x9 9 a88 F1w) B3 a4),(s1 (o0 (xN F1w a88)))]⟩
def E2z:Fn:=⟨[(n0,false),(7038329,false),(1919907699,false),(n36,false),(n44,false)],[],sl [(s2 (t0 n3) (xG 302566698341 9 (xl [(xL C4 27707025041354598 (xl [a88])),(x1 n36),(x1 n44)]))),(s5 (x9 1 C5i (xM C4s n15)) B3 a4),(s5 (x9 9 a88 D2h) (sl [(s2 (t3 D2h a88) (xF 2147851215147006260837 94 (xl [C4s])))]) a4),(s7 C9o (i1 (xl [(xH n7 0 (xl [C3h]))])) (sl [(s5 (x9 9 A1t (xN D2h a88)) (sl [(s0 (xL C4 2017714919938976607589 D1w))]) a4)])),(s7 A6g (i1 (xl [C5i])) (sl [(s0 (xL A1x n40 (xl [(xL A4n 29395913220779878 (xl [J5,(x8 0 A4r G9)])),(xN a59 A4r)])))])),(s0 (xL B5l n4 (xl [J5])))]⟩
def C7c:Fn:=⟨[(n0,false),(n3,false),(n51,false)],[],sl [E8g,(s2 (t3 B4a A1t) (xL A1x 7020105144828261477 (xl [(xF n60 44 (xl [(xN (xN C3h A1t) a1),A1v]))])))]⟩
def C6g:Fn:=⟨[(n0,false),(n3,false),(n51,false)],[],sl [(s5 (x9 8 A1t B4a) (sl [(s0 (xL A1x 1718773093 (xl [(xL B4a 7368560 (xl [A1t]))])))]) a4)]⟩
def C8e:Fn:=⟨[(n0,false),(n3,false)],[],sl [(s2 (t0 116) (xN (xN C3h a1) a1)),(s2 B7f (xL A4n 1919246692 (xl [(xL A4n 29395913220779878 (xl [J5,a1])),N6]))),(s7 C9o (i0 (xH 126922498794852 8 (xl [B4a]))) (sl [E8g])),(s0 (xL B5l 7368560 Q8)),(s5 (x9 0 B5l F3) (sl [(s2 D1i (xC (xl [(x0 (.str 1685024357)),(xF 549849911077676417578341 79 (xl [N6,o3,A1v,A1x]))]))),(s1 a70)]) a4),(s5 (x9 7 F2c a3) (sl [(s0 (xL A1x n40 (xl [(xN F2c a1),o3]))),(s5 (x9 6 (xM J5 n44) a3) B3 a4),(s0 (xL (xN B5l A4o) 26479 (xl [(xM J5 n44)])))]) a4)]⟩
def C8q:Fn:=⟨[(n0,false),(n3,false)],[],sl [(s5 (x9 1 (xM J5 1785684595) F3) D2z a4),(s2 C9k (xN (xM C4s n16) (xM J5 n45))),(s5 (x9 2 (xM J5 452823639416) (xH n7 0 (xl [a92]))) (sl [(s4 J5 452823639416 0 G9),(s0 (xL C4 31083142502689283763880685172 (xl [J5,(xN a92 (x8 1 (xM J5 452823639416) G9))])))]) (sl [(s0 (xL C4 7957284485135344978493539905394 (xl [J5,a93])))]))]⟩
def C6f:Fn:=⟨[(n0,false),(n3,false),(n37,false)],[],sl [(s2 a5 (xN a84 a1)),(s5 (x9 0 a6 a85) (sl [(s2 B7f (xL (xM C4 32218308148553075) n18 (xl [J5,(xN a84 X3)]))),(s2 E3f (xL A4n 32493246317817702 (xl [J5,(xN a84 G9)]))),(s0 (xL A1x n40 (xl [B7c,o3])))]) B3)]⟩
def C7q:Fn:=⟨[(n0,false),(n3,false),(n17,false)],[],sl [(s2 a5 (xN a93 a1)),(s5 (x9 0 a6 (x0 (.str 1735357551))) B3 (sl [(s5 (x9 0 a6 a96) B3 (sl [(s5 (x9 0 a6 E9a) (sl [(s0 (xL C4 465557354085 (xl [J5])))]) (sl [(s5 (x9 0 a6 a94) (sl [(s0 (xL C4 28269953150970988 (xl [J5,a93])))]) B3)]))]))]))]⟩
def C6v:Fn:=⟨[(n0,true),(n3,true),(n17,false)],[],sl [(s2 (t4 (tl [a5,(t0 7382928537577680750),a95,(t0 n11),(t0 n45)])) a93),(s2 a57 (xP (xN (xL E6d 499850634606 (xl [(x2 n3),a0])) a1) (t0 7302757) (i0 a78) Q8)),(s0 (xL A5y 435644818802 (xl [(xN (x1 7382928537577680750) G9),a59,(xL E6d 32493246317817702 (xl [(x2 n3),q9])),(x1 n45)])))]⟩
def C8s:Fn:=⟨[(n0,false),(n12,false),(n19,false),(n10,false),(n21,false),(n20,false),(120325194214501,false),(31654262977684339,false)],[.str 0,.tup []],sl [C9y,(s2 (t2 C4 120325194214501) (x1 120325194214501)),D0z,C3d,(s2 F2j (x1 n21)),(s2 (t2 C4 31654262977684339) (x1 31654262977684339)),(s2 (t2 C4 n20) (x1 n20))]⟩
def C7f:Fn:=⟨[(n0,false),(n12,false),(n19,false),(n10,false),(7305070,false),(n26,false),(122550255383924,false),(n61,false),(7521419706195993721,false)],[],sl [C9y,D0z,C3d,(s2 (t2 C4 7305070) a72),F1s,(s2 (t2 C4 122550255383924) (x1 122550255383924)),(s2 (t2 C4 n61) (x1 n61)),(s2 (t2 C4 7521419706195993721) (x1 7521419706195993721))]⟩
def C6j:Fn:=⟨[(n0,false),(n12,false),(n10,false),(n28,false),(n47,false)],[],sl [C9y,C3d,F2m,(s2 (t2 C4 n47) (x1 n47))]⟩
def C8o:Fn:=⟨[(n0,false),(n6,false),(n19,false),(n10,false),(n32,false),(n31,false),(n39,false),(n28,false),(1936748404,false)],[.int (.lit 0)],sl [(s2 (t2 C4 n6) a97),D0z,C3d,(s2 (t2 C4 n32) a56),(s2 (t2 C4 n31) a52),(s2 (t2 C4 n39) (x1 n39)),F2m,(s2 (t2 C4 1936748404) (x1 1936748404))]⟩
def C7x:Fn:=⟨[(n0,false),(30803249718912371,false)],[.none],sl [(s2 (t2 C4 30803249718912371) (x1 30803249718912371)),(s2 (t2 C4 1633973363) R4),(s2 F2j R4),(s2 (t2 C4 1936287603) R4),(s2 (t2 C4 128034609394803) R4),(s2 (t2 C4 452807650419) F3),(s2 (t2 C4 109330245579891) R4),(s2 (t2 C4 n24) R4)]⟩
def B0h:Fn:=⟨[(126870958469236,false)],[],sl [(s2 a28 (xB (x9 1 D0v F3) (xN D0v a1) a1)),(s2 (t0 1936292453) (xB (x9 5 P2 a1) P2 (x8 1 (x0 (.int (.lit 31))) (x8 2 X3 P2)))),(s1 (o0 (xD (xl [(xB (x9 5 A4j (x8 5 (x0 (.int (.lit 10))) (x0 (.int (.lit 15))))) A4j a1),(x8 0 (x8 3 (x8 0 (x8 2 A4j (x0 (.int (.lit 17)))) (xH 6909556 6 (xl [(x9 2 P2 a1)]))) E3y) (x0 (.int (.lit 83))))]))))]⟩
def B7x:Fn:=⟨[(n67,false),(n29,false)],[],sl [(s5 (x9 4 (xN A6w a1) a1) (sl [(s2 a51 (x8 3 (xN A6w a1) a86)),(s2 (t3 A6w a1) (x8 4 (xN A6w a1) a86)),B8c]) a4),(s2 (t3 A6w G9) (x8 3 (x8 0 (x8 2 (xN A6w G9) (x0 (.int (.lit 6089)))) (x0 (.int (.lit 733)))) E3y)),(s1 (o0 (x8 3 (x8 4 (xN A6w G9) (x0 (.int (.lit 16)))) a86)))]⟩
def C6q:Fn:=⟨[(n67,false),(127991794263923,false)],[],sl [(s1 (o0 (xN (x1 127991794263923) (xF n23 113 (xl [A6w,(xH n7 0 (xl [(x1 127991794263923)]))])))))]⟩
def C6d:Fn:=⟨[(n67,true)],[],sl [(s2 (t0 29681726417101925) (x9 4 (xN A4u a1) a1)),(s2 (t0 n57) (xE (.cons A8s (xP E3x A1a D3i Q8) .nil))),(s2 (t3 U4 A4k) E3x),(s2 (t3 U4 (x0 (.str 7305070))) (xE (.cons G9 (x8 0 (x0 (.int (.lit 1000))) E5r) .nil))),(s5 D1n (sl [(s2 (t3 B3k a1) (x8 0 (x0 (.int (.lit 2000))) E5r))]) a4),(s2 (t3 U4 D0d) (xP E2k A1a D3i Q8)),(s2 (t4 (tl [(t3 U4 D7d),(t3 U4 D0j)])) (xC (xl [(xF n48 114 (xl [A4u,(xD (xl [A8s,A4k]))])),(xF n48 114 (xl [A4u,(xD (xl [B6g,C4o]))]))]))),(s2 (t3 U4 D9b) D1n),(s2 (t1 n52) (xB (x4 (x1 29681726417101925) (x4 (x9 8 a1 B3k) D1n)) a1 G9)),(s2 (t3 U4 (x0 (.str 1885432178))) (xC (xl [(x2 n52),(xB (x1 29681726417101925) (xF n48 114 (xl [A4u,(xP M9 A1a D3i (xl [(x9 1 M9 (x2 n52))]))])) X3)]))),(s1 (o0 U4))]⟩
def C8b:Fn:=⟨[],[],sl [(s1 (o0 (xD (xl [(xC (xl [a18,C3q,R9,R9])),(xC (xl [a7,(x0 (.str 6895156))])),B4j]))))]⟩
def C7d:Fn:=⟨[(n12,false),(n33,false),(n29,false),(n16,false)],[],sl [(s1 (o0 (xG 1114596473 1 (xl [a63,a86,(xP (xC (xl [a53,a89,a3])) a64 (i0 a62) Q8),a74]))))]⟩
def C6k:Fn:=⟨[(1936287598,false),(n63,false)],[],sl [(s1 (o0 (xC (xl [a85,D5h,(xC (xl [a80,D6h,(xC (xl [D5g,D5h])),a2]))]))))]⟩
def C6r:Fn:=⟨[(1851878757,false),(84,false),(n51,false),(1735352684,false),(108187682958948,false)],[],sl [(s1 (o0 (xC (xl [a94,(xC (xl [a68,B8w,a47,a53,R9])),(xC (xl [(xC (xl [(x0 (.str 1836021349)),(xC (xl [A1t,R9]))]))])),(xC (xl [(x1 1735352684),R9])),(x1 108187682958948)]))))]⟩
def C7g:Fn:=⟨[(n12,false),(84,false),(n5,false)],[],sl [(s2 B8b B4j),(s2 (t0 n11) (xB (x9 0 (xN a53 a1) a18) (xC (xl [G9,(xC (xl [(xC (xl [E5q,a1]))]))])) (xC (xl [G9,R9])))),(s2 a57 (xD (xl [(xC (xl [a85,D5h,(xC (xl [a83,(xC (xl [D5g,q9])),a97]))])),F0b]))),(s1 (o0 (xF n62 117 (xl [a63,(xD (xl [a97,a53])),G9,(xD (xl [(xD (xl [a59,C9m]))]))]))))]⟩
def C7j:Fn:=⟨[(n12,false),(84,false),(n5,false)],[],sl [(s2 B8b B4j),(s2 (t0 1818325876) (xD (xl [F0b]))),(s1 (o0 (xF n62 117 (xl [a63,(xD (xl [a97,a53])),G9,(xD (xl [(xD (xl [F3,(xF n55 119 (xl [A8s,a53,G9,a1,G9]))])),(xD (xl [(x1 1818325876),C9m]))]))]))))]⟩
def C8a:Fn:=⟨[(n57,false)],[],sl [(s2 (t4 (tl [B8b,(t0 7302757),(t0 n63)])) (xC (xl [B4j,(xC (xl [a8,(x0 (.str 84))])),(xC (xl [a8,(x0 (.str 85))]))]))),(s2 (t0 n16) (xD (xl [(xD (xl [F3,(xF n55 119 (xl [A4k,a0,G9,a1,G9]))])),(xD (xl [F3,(xF n55 119 (xl [(xN U4 D7d),a2,X3,a19,X3]))]))]))),(s0 (xL a74 n4 (xl [(xD (xl [(xD (xl [(xF 7560217649442615210335139685732 118 (xl [(xN U4 D0j),(xC (xl [D5g,(xC (xl [a19,R9]))]))]))])),C9m]))]))),(s1 (o0 (xF n62 117 (xl [B8t,(xD (xl [a97,a0,a2,a97])),X3,a74]))))]⟩
def C7e:Fn:=⟨[(n12,false),(n64,false)],[],sl [(s2 a49 (xP (xC (xl [a47,(xC (xl [B8w]))])) a48 (i0 a27) Q8)),(s1 (o0 (xG 5466471 12 (xl [a63,R9,a55,a55,F3,B4j,a3,a89]))))]⟩
def C6o:Fn:=⟨[(n57,false)],[],sl [(s2 (t4 (tl [(t0 n1),B8b])) (xC (xl [(xG 375531924580 15 (xl [a3])),B4j]))),(s2 (t0 n24) (xE (.cons B8t (xF 6875977896418375535 122 (xl [U4])) (.cons C0d (xF 1760250341482901890920 121 (xl [C0d,(xC (xl [a8,(x0 (.str 1399155814))])),(xN U4 A4k)])) .nil)))),(s2 (t2 Y3 1936287603) (xE (.cons B8t (xF 6875977896418306407 123 (xl [B8t,(xD (xl [(x0 (.str 84)),(x0 (.str 85))]))])) (.cons C0d (xF 6875977896418306407 123 (xl [C0d,(xD (xl [(x0 (.str 1399155814))]))])) .nil)))),(s2 (t3 D9n B8w) (xG 6085033152081981303 13 (xl [B8w,R9,R4,(xE (.cons A4k C0d .nil))]))),(s2 (t3 C4h C3q) (xG 4285556 11 (xl [C3q,R9,R9,(xD (xl [(xC (xl [C3q,(x0 (.str 474080961892)),(xD (xl [(xC (xl [(x0 (.str 110)),a97]))]))]))])),(x0 (.bool false))]))),(s7 A1a (i0 (xB (xN U4 D9b) (xD (xl [X3,G9,a1])) (xD (xl [a1,G9,X3])))) (sl [(s2 (t4 (tl [a64,(t0 1751474532)])) (xC (xl [(xN D2c M9),(x8 0 (x8 0 (x0 (.str 452807650339)) (xH 7566450 7 (xl [D9p]))) (x0 (.str 14906)))]))),(s2 (t0 n28) (xE (.cons A8s D0y .nil))),(s2 (t3 a87 D0y) (xF 6875977896417849207 120 (xl [D0y,a53,E9c]))),(s5 (x9 8 M9 B3k) (sl [(s2 (t3 B3p A4k) D0q),(s2 (t3 a87 D0q) (xF 1760250341482901890920 121 (xl [D0q,a53,(xC (xl [B6g,(xN B3k M9)]))])))]) a4),(s7 a48 (i0 (xH 126922498794852 8 (xl [B3p]))) (sl [(s2 (t3 (xM Y3 1936287603) (xN B3p a47)) (xF 6875977896418306407 123 (xl [(xN B3p a47),F3])))])),(s0 (xL D2x n4 (xl [(xG 20668002920984439 14 (xl [D9p,R9,F3,B8w,R9,a53,B3p]))])))])),(s1 (o0 (xC (xl [Y3,a87]))))]⟩
def C7n:Fn:=⟨[(7302757,false),(n5,false)],[],sl [(s2 (t4 (tl [(t0 1936287598),B8b])) P2),(s1 (o0 (xB (x9 0 D6h B6g) (x8 0 a0 a97) (xB (x9 0 D6h C4o) (x8 1 a0 a97) (x8 2 a0 a97)))))]⟩
def C8h:Fn:=⟨[(n57,false),(24948,false),(2003792484,false)],[],sl [(s2 (t0 7106423) (xF n46 125 (xl [(xN (xN U4 D0d) M9),E9c]))),(s5 (x9 0 B8z A8s) (sl [(s1 (o0 a98))]) a4),(s1 (o0 (xB (x9 8 M9 B3k) (x8 0 a98 (xN B3k M9)) (xF n46 125 (xl [a98,(xN U4 A4k)])))))]⟩
def C6z:Fn:=⟨[(126870958469236,false)],[],sl [(s2 (t1 n57) (xF 1760250341483036303726 115 (xl [(xF 450624087419601392333684 112 (xl [D0v]))]))),(s2 (t4 (tl [(t0 n52),(t0 126879297138276)])) D9v),(s2 (t0 6583653) (xF n46 125 (xl [(xF 115359766379415783419110770 126 (xl [A7v,D7l,A4k])),(xC (xl [(xN A7v D0j),(xF 115359766379415783419110770 126 (xl [A7v,D5l,(xN A7v D7d)]))]))]))),(s2 (t4 (tl [(t0 n1),(t0 n24)])) (xF 1760250341482985251941 124 (xl [A7v]))),(s2 (t0 1835099237) (xG 1354571150309103723891 2 (xl [Y3,a87]))),(s2 (t0 7038329) (xL D4v 131260348654948 (xl [(xC (xl [a67,B8t,(xC (xl [(xN D2c D7l),(xN D2c D5l)]))]))]))),(s0 (xL D4v 7881698906011167852 Q8)),(s2 (t0 n26) (xP (xB (x9 0 M9 a1) (xC (xl [a1,(xC (xl [E3h]))])) E3h) A1a (i0 D9v) Q8)),(s1 (o0 (x9 0 (xL (xG 21780652788117093 10 (xl [(xM D4v 1835099237),Y3,(x1 n26),(x0 (.int (.lit 200)))])) 7501166 (xl [a88])) (xC (xl [(xC (xl [(x0 (.str 1685024357)),(x1 6583653)])),F3])))))]⟩
noncomputable def O3:Tr Fc:=.node (some fn0.den) (.node (some fn1.den) (.node (some fn3.den) (.node (some fn7.den) (.node (some E2s.den) (.node (some E0v.den) (.node (some E3e.den) (.node (some C6z.den) (.nil) (.nil)) (.nil)) (.node (some D9l.den) (.nil) (.nil))) (.node (some E3b.den) (.node (some E2e.den) (.nil) (.nil)) (.node (some C7x.den) (.nil) (.nil)))) (.node (some E4n.den) (.node (some E4p.den) (.node (some F1t.den) (.nil) (.nil)) (.node (some C8q.den) (.nil) (.nil))) (.node (some E9y.den) (.node (some E9i.den) (.nil) (.nil)) (.node (some C6r.den) (.nil) (.nil))))) (.node (some E1n.den) (.node (some E7z.den) (.node (some E1p.den) (.node (some E3a.den) (.nil) (.nil)) (.node (some E2z.den) (.nil) (.nil))) (.node (some E2o.den) (.node (some F2n.den) (.nil) (.nil)) (.node (some C6d.den) (.nil) (.nil)))) (.node (some E5v.den) (.node (some E8t.den) (.node (some E0d.den) (.nil) (.nil)) (.node (some C8s.den) (.nil) (.nil))) (.node (some F1n.den) (.node (some E5e.den) (.nil) (.nil)) (.node (some C7e.den) (.nil) (.nil)))))) (.node (some fn5.den) (.node (some fn9.den) (.node (some E9j.den) (.node (some E5u.den) (.node (some D9f.den) (.nil) (.nil)) (.node (some F1y.den) (.nil) (.nil))) (.node (some E4y.den) (.node (some F1j.den) (.nil) (.nil)) (.node (some B7x.den) (.nil) (.nil)))) (.node (some E0e.den) (.node (some E6t.den) (.node (some F0j.den) (.nil) (.nil)) (.node (some C7q.den) (.nil) (.nil))) (.node (some E9n.den) (.node (some E0x.den) (.nil) (.nil)) (.node (some C7j.den) (.nil) (.nil))))) (.node (some E4u.den) (.node (some E9p.den) (.node (some F1i.den) (.node (some D9d.den) (.nil) (.nil)) (.node (some C6g.den) (.nil) (.nil))) (.node (some E0u.den) (.node (some F1f.den) (.nil) (.nil)) (.node (some C7d.den) (.nil) (.nil)))) (.node (some E8a.den) (.node (some F2l.den) (.node (some E4g.den) (.nil) (.nil)) (.node (some C6j.den) (.nil) (.nil))) (.node (some F2i.den) (.node (some E8k.den) (.nil) (.nil)) (.node (some C7n.den) (.nil) (.nil))))))) (.node (some fn2.den) (.node (some fn4.den) (.node (some fn8.den) (.node (some E4f.den) (.node (some E7u.den) (.node (some E1y.den) (.nil) (.nil)) (.node (some F1p.den) (.nil) (.nil))) (.node (some E0k.den) (.node (some E9w.den) (.nil) (.nil)) (.node (some B0h.den) (.nil) (.nil)))) (.node (some E7i.den) (.node (some E0g.den) (.node (some E2b.den) (.nil) (.nil)) (.node (some C6f.den) (.nil) (.nil))) (.node (some E2x.den) (.node (some E0m.den) (.nil) (.nil)) (.node (some C7g.den) (.nil) (.nil))))) (.node (some E7x.den) (.node (some E3u.den) (.node (some E6n.den) (.node (some E2y.den) (.nil) (.nil)) (.node (some C7c.den) (.nil) (.nil))) (.node (some F0i.den) (.node (some E0w.den) (.nil) (.nil)) (.node (some C8b.den) (.nil) (.nil)))) (.node (some E1l.den) (.node (some E4e.den) (.node (some E6r.den) (.nil) (.nil)) (.node (some C7f.den) (.nil) (.nil))) (.node (some F0t.den) (.node (some E7v.den) (.nil) (.nil)) (.node (some C6o.den) (.nil) (.nil)))))) (.node (some fn6.den) (.node (some F1u.den) (.node (some E1s.den) (.node (some E4a.den) (.node (some E1v.den) (.nil) (.nil)) (.node (some E5g.den) (.nil) (.nil))) (.node (some E0j.den) (.node (some E9m.den) (.nil) (.nil)) (.node (some C6q.den) (.nil) (.nil)))) (.node (some E0y.den) (.node (some E8j.den) (.node (some F0f.den) (.nil) (.nil)) (.node (some C6v.den) (.nil) (.nil))) (.node (some F2e.den) (.node (some E3j.den) (.nil) (.nil)) (.node (some C8a.den) (.nil) (.nil))))) (.node (some E2u.den) (.node (some E7m.den) (.node (some E5o.den) (.node (some E7p.den) (.nil) (.nil)) (.node (some C8e.den) (.nil) (.nil))) (.node (some E8o.den) (.node (some E4l.den) (.nil) (.nil)) (.node (some C6k.den) (.nil) (.nil)))) (.node (some E6j.den) (.node (some E9b.den) (.node (some D9x.den) (.nil) (.nil)) (.node (some C8o.den) (.nil) (.nil))) (.node (some E3v.den) (.node (some F2b.den) (.nil) (.nil)) (.node (some C8h.den) (.nil) (.nil)))))))
noncomputable def C7l:Nat:=127
noncomputable def A0q:List Fn:=[fn0,fn1,fn2,fn3,fn4,fn5,fn6,fn7,fn8,fn9,F1u,E1n,E7x,E4u,E2u,E2s,E4f,E9j,E1s,E7z,E3u,E9p,E7m,E4n,E7i,E0e,E0y,E5v,E1l,E8a,E6j,E0v,E7u,E5u,E4a,E1p,E6n,F1i,E5o,E4p,E0g,E6t,E8j,E8t,E4e,F2l,E9b,E3b,E0k,E4y,E0j,E2o,F0i,E0u,E8o,E9y,E2x,E9n,F2e,F1n,F0t,F2i,E3v,E3e,E1y,D9f,E1v,E3a,E2y,D9d,E7p,F1t,E2b,F0j,F0f,E0d,E6r,E4g,D9x,E2e,E9w,F1j,E9m,F2n,E0w,F1f,E4l,E9i,E0m,E0x,E3j,E5e,E7v,E8k,F2b,D9l,F1p,F1y,E5g,E2z,C7c,C6g,C8e,C8q,C6f,C7q,C6v,C8s,C7f,C6j,C8o,C7x,B0h,B7x,C6q,C6d,C8b,C7d,C6k,C6r,C7g,C7j,C8a,C7e,C6o,C7n,C8h,C6z]
noncomputable def C8l:List Fc:=A0q.map Fn.den
noncomputable def C0b:Fc:=B0h.den
noncomputable def l6:Fc:=B7x.den
theorem C1n:C8l=A0q.map Fn.den:=Eq.refl _
end
end Mine
namespace Mine
noncomputable section
section
universe u1 u2 u3 u4 u5 u6 u7
variable {α:Sort u1} {β:Sort u2} {γ:Sort u3} {δ:Sort u4} {ε:Sort u5} {ζ:Sort u6} {η:Sort u7} {G:Prop}
theorem O8 {p q r:Prop} (h:p/\q/\r) (k:p->q->r->G):G:=k h.1 h.2.1 h.2.2
theorem B7s {p q r s:Prop} (h:p/\q/\r/\s) (k:p->q->r->s->G):G:=k h.1 h.2.1 h.2.2.1 h.2.2.2
theorem A2f {p q r s t:Prop} (h:p/\q/\r/\s/\t) (k:p->q->r->s->t->G):G:=k h.1 h.2.1 h.2.2.1 h.2.2.2.1 h.2.2.2.2
theorem D0k {p q r s t u:Prop} (h:p/\q/\r/\s/\t/\u) (k:p->q->r->s->t->u->G):G:=k h.1 h.2.1 h.2.2.1 h.2.2.2.1 h.2.2.2.2.1 h.2.2.2.2.2
theorem C1t {p q r s t u v:Prop} (h:p/\q/\r/\s/\t/\u/\v) (k:p->q->r->s->t->u->v->G):G:=k h.1 h.2.1 h.2.2.1 h.2.2.2.1 h.2.2.2.2.1 h.2.2.2.2.2.1 h.2.2.2.2.2.2
theorem A6q {p q r s t u v w:Prop} (h:p/\q/\r/\s/\t/\u/\v/\w) (k:p->q->r->s->t->u->v->w->G):G:=k h.1 h.2.1 h.2.2.1 h.2.2.2.1 h.2.2.2.2.1 h.2.2.2.2.2.1 h.2.2.2.2.2.2.1 h.2.2.2.2.2.2.2
theorem C6x {p q r:Prop} {s:α->Prop} (h:p/\q/\r/\∃ a,s a) (k:p->q->r->∀ a,s a->G):G:=h.2.2.2.elim λa h1=>k h.1 h.2.1 h.2.2.1 a h1
theorem D8g {p q r:Prop} {s t u:α->β->γ->Prop} (h:p/\q/\r/\∃ a,∃ b,∃ c,s a b c/\t a b c/\u a b c) (k:p->q->r->∀ a,∀ b,∀ c,s a b c->t a b c->u a b c->G):G:=h.2.2.2.elim λa h1=>h1.elim λb h2=>h2.elim λc h3=>k h.1 h.2.1 h.2.2.1 a b c h3.1 h3.2.1 h3.2.2
theorem C0w {p q r:Prop} {s t u v w x:α->β->γ->Prop} (h:p/\q/\r/\∃ a,∃ b,∃ c,s a b c/\t a b c/\u a b c/\v a b c/\w a b c/\x a b c) (k:p->q->r->∀ a,∀ b,∀ c,s a b c->t a b c->u a b c->v a b c->w a b c->x a b c->G):G:=h.2.2.2.elim λa h1=>h1.elim λb h2=>h2.elim λc h3=>k h.1 h.2.1 h.2.2.1 a b c h3.1 h3.2.1 h3.2.2.1 h3.2.2.2.1 h3.2.2.2.2.1 h3.2.2.2.2.2
theorem B5r {p q:Prop} {r s:α->Prop} (h:p/\q/\∃ a,r a/\s a) (k:p->q->∀ a,r a->s a->G):G:=h.2.2.elim λa h1=>k h.1 h.2.1 a h1.1 h1.2
theorem C6y {p q:Prop} {r:α->β->Prop} (h:p/\q/\∃ a,∃ b,r a b) (k:p->q->∀ a,∀ b,r a b->G):G:=h.2.2.elim λa h1=>h1.elim λb h2=>k h.1 h.2.1 a b h2
theorem C5n {p q:Prop} {r s:α->β->γ->Prop} (h:p/\q/\∃ a,∃ b,∃ c,r a b c/\s a b c) (k:p->q->∀ a,∀ b,∀ c,r a b c->s a b c->G):G:=h.2.2.elim λa h1=>h1.elim λb h2=>h2.elim λc h3=>k h.1 h.2.1 a b c h3.1 h3.2
theorem z8 {p q:Prop} {r s t u v:α->β->γ->Prop} (h:p/\q/\∃ a,∃ b,∃ c,r a b c/\s a b c/\t a b c/\u a b c/\v a b c) (k:p->q->∀ a,∀ b,∀ c,r a b c->s a b c->t a b c->u a b c->v a b c->G):G:=h.2.2.elim λa h1=>h1.elim λb h2=>h2.elim λc h3=>k h.1 h.2.1 a b c h3.1 h3.2.1 h3.2.2.1 h3.2.2.2.1 h3.2.2.2.2
theorem kAE {p:Prop} {q:α->Prop} (h:p/\∃ a,q a) (k:p->∀ a,q a->G):G:=h.2.elim λa h1=>k h.1 a h1
theorem A1y {p:Prop} {q r:α->Prop} (h:p/\∃ a,q a/\r a) (k:p->∀ a,q a->r a->G):G:=h.2.elim λa h1=>k h.1 a h1.1 h1.2
theorem M5 {p:Prop} {q r s:α->Prop} (h:p/\∃ a,q a/\r a/\s a) (k:p->∀ a,q a->r a->s a->G):G:=h.2.elim λa h1=>k h.1 a h1.1 h1.2.1 h1.2.2
theorem C4r {p:Prop} {q:α->β->Prop} (h:p/\∃ a,∃ b,q a b) (k:p->∀ a,∀ b,q a b->G):G:=h.2.elim λa h1=>h1.elim λb h2=>k h.1 a b h2
theorem E9x {p:Prop} {q:α->β->γ->Prop} (h:p/\∃ a,∃ b,∃ c,q a b c) (k:p->∀ a,∀ b,∀ c,q a b c->G):G:=h.2.elim λa h1=>h1.elim λb h2=>h2.elim λc h3=>k h.1 a b c h3
theorem v6 {p:Prop} {q r s:α->β->γ->Prop} (h:p/\∃ a,∃ b,∃ c,q a b c/\r a b c/\s a b c) (k:p->∀ a,∀ b,∀ c,q a b c->r a b c->s a b c->G):G:=h.2.elim λa h1=>h1.elim λb h2=>h2.elim λc h3=>k h.1 a b c h3.1 h3.2.1 h3.2.2
theorem D8c {p:Prop} {q r:α->β->γ->Prop} {s t:α->β->γ->δ->Prop} (h:p/\∃ a,∃ b,∃ c,q a b c/\r a b c/\∃ d,s a b c d/\t a b c d) (k:p->∀ a,∀ b,∀ c,q a b c->r a b c->∀ d,s a b c d->t a b c d->G):G:=h.2.elim λa h1=>h1.elim λb h2=>h2.elim λc h3=>h3.2.2.elim λd h4=>k h.1 a b c h3.1 h3.2.1 d h4.1 h4.2
theorem C6i {p:Prop} {q r:α->β->γ->Prop} {s t u v:α->β->γ->δ->Prop} (h:p/\∃ a,∃ b,∃ c,q a b c/\r a b c/\∃ d,s a b c d/\t a b c d/\u a b c d/\v a b c d) (k:p->∀ a,∀ b,∀ c,q a b c->r a b c->∀ d,s a b c d->t a b c d->u a b c d->v a b c d->G):G:=h.2.elim λa h1=>h1.elim λb h2=>h2.elim λc h3=>h3.2.2.elim λd h4=>k h.1 a b c h3.1 h3.2.1 d h4.1 h4.2.1 h4.2.2.1 h4.2.2.2
theorem B5c {p:Prop} {q r s:α->β->γ->δ->Prop} (h:p/\∃ a,∃ b,∃ c,∃ d,q a b c d/\r a b c d/\s a b c d) (k:p->∀ a,∀ b,∀ c,∀ d,q a b c d->r a b c d->s a b c d->G):G:=h.2.elim λa h1=>h1.elim λb h2=>h2.elim λc h3=>h3.elim λd h4=>k h.1 a b c d h4.1 h4.2.1 h4.2.2
theorem A4h {p:Prop} {q r s t u v:α->β->γ->δ->ε->Prop} (h:p/\∃ a,∃ b,∃ c,∃ d,∃ e,q a b c d e/\r a b c d e/\s a b c d e/\t a b c d e/\u a b c d e/\v a b c d e) (k:p->∀ a,∀ b,∀ c,∀ d,∀ e,q a b c d e->r a b c d e->s a b c d e->t a b c d e->u a b c d e->v a b c d e->G):G:=h.2.elim λa h1=>h1.elim λb h2=>h2.elim λc h3=>h3.elim λd h4=>h4.elim λe h5=>k h.1 a b c d e h5.1 h5.2.1 h5.2.2.1 h5.2.2.2.1 h5.2.2.2.2.1 h5.2.2.2.2.2
theorem C5 {p q:α->Prop} (h:∃ a,p a/\q a) (k:∀ a,p a->q a->G):G:=h.elim λa h1=>k a h1.1 h1.2
theorem E2 {p q r:α->Prop} (h:∃ a,p a/\q a/\r a) (k:∀ a,p a->q a->r a->G):G:=h.elim λa h1=>k a h1.1 h1.2.1 h1.2.2
theorem A3b {p q r s:α->Prop} (h:∃ a,p a/\q a/\r a/\s a) (k:∀ a,p a->q a->r a->s a->G):G:=h.elim λa h1=>k a h1.1 h1.2.1 h1.2.2.1 h1.2.2.2
theorem D3s {p q r s t:α->Prop} (h:∃ a,p a/\q a/\r a/\s a/\t a) (k:∀ a,p a->q a->r a->s a->t a->G):G:=h.elim λa h1=>k a h1.1 h1.2.1 h1.2.2.1 h1.2.2.2.1 h1.2.2.2.2
theorem B0k {p q r s t u:α->Prop} (h:∃ a,p a/\q a/\r a/\s a/\t a/\u a) (k:∀ a,p a->q a->r a->s a->t a->u a->G):G:=h.elim λa h1=>k a h1.1 h1.2.1 h1.2.2.1 h1.2.2.2.1 h1.2.2.2.2.1 h1.2.2.2.2.2
theorem P5 {p q:α->Prop} {r:α->β->Prop} (h:∃ a,p a/\q a/\∃ b,r a b) (k:∀ a,p a->q a->∀ b,r a b->G):G:=h.elim λa h1=>h1.2.2.elim λb h2=>k a h1.1 h1.2.1 b h2
theorem H6 {p q:α->Prop} {r s t u v w:α->β->γ->Prop} (h:∃ a,p a/\q a/\∃ b,∃ c,r a b c/\s a b c/\t a b c/\u a b c/\v a b c/\w a b c) (k:∀ a,p a->q a->∀ b,∀ c,r a b c->s a b c->t a b c->u a b c->v a b c->w a b c->G):G:=h.elim λa h1=>h1.2.2.elim λb h2=>h2.elim λc h3=>k a h1.1 h1.2.1 b c h3.1 h3.2.1 h3.2.2.1 h3.2.2.2.1 h3.2.2.2.2.1 h3.2.2.2.2.2
theorem kEE {p:α->β->Prop} (h:∃ a,∃ b,p a b) (k:∀ a,∀ b,p a b->G):G:=h.elim λa h1=>h1.elim λb h2=>k a b h2
theorem C2k {p q:α->β->Prop} (h:∃ a,∃ b,p a b/\q a b) (k:∀ a,∀ b,p a b->q a b->G):G:=h.elim λa h1=>h1.elim λb h2=>k a b h2.1 h2.2
theorem P1 {p q r:α->β->Prop} (h:∃ a,∃ b,p a b/\q a b/\r a b) (k:∀ a,∀ b,p a b->q a b->r a b->G):G:=h.elim λa h1=>h1.elim λb h2=>k a b h2.1 h2.2.1 h2.2.2
theorem A8y {p q r s:α->β->Prop} (h:∃ a,∃ b,p a b/\q a b/\r a b/\s a b) (k:∀ a,∀ b,p a b->q a b->r a b->s a b->G):G:=h.elim λa h1=>h1.elim λb h2=>k a b h2.1 h2.2.1 h2.2.2.1 h2.2.2.2
theorem B1s {p q r s t:α->β->Prop} (h:∃ a,∃ b,p a b/\q a b/\r a b/\s a b/\t a b) (k:∀ a,∀ b,p a b->q a b->r a b->s a b->t a b->G):G:=h.elim λa h1=>h1.elim λb h2=>k a b h2.1 h2.2.1 h2.2.2.1 h2.2.2.2.1 h2.2.2.2.2
theorem B4s {p q r s t u:α->β->Prop} (h:∃ a,∃ b,p a b/\q a b/\r a b/\s a b/\t a b/\u a b) (k:∀ a,∀ b,p a b->q a b->r a b->s a b->t a b->u a b->G):G:=h.elim λa h1=>h1.elim λb h2=>k a b h2.1 h2.2.1 h2.2.2.1 h2.2.2.2.1 h2.2.2.2.2.1 h2.2.2.2.2.2
theorem A7y {p q r:α->β->Prop} {s t u:α->β->γ->δ->Prop} (h:∃ a,∃ b,p a b/\q a b/\r a b/\∃ c,∃ d,s a b c d/\t a b c d/\u a b c d) (k:∀ a,∀ b,p a b->q a b->r a b->∀ c,∀ d,s a b c d->t a b c d->u a b c d->G):G:=h.elim λa h1=>h1.elim λb h2=>h2.2.2.2.elim λc h3=>h3.elim λd h4=>k a b h2.1 h2.2.1 h2.2.2.1 c d h4.1 h4.2.1 h4.2.2
theorem A4p {p q r:α->β->Prop} {s t u v w:α->β->γ->δ->Prop} (h:∃ a,∃ b,p a b/\q a b/\r a b/\∃ c,∃ d,s a b c d/\t a b c d/\u a b c d/\v a b c d/\w a b c d) (k:∀ a,∀ b,p a b->q a b->r a b->∀ c,∀ d,s a b c d->t a b c d->u a b c d->v a b c d->w a b c d->G):G:=h.elim λa h1=>h1.elim λb h2=>h2.2.2.2.elim λc h3=>h3.elim λd h4=>k a b h2.1 h2.2.1 h2.2.2.1 c d h4.1 h4.2.1 h4.2.2.1 h4.2.2.2.1 h4.2.2.2.2
theorem F5d {p:α->β->γ->Prop} (h:∃ a,∃ b,∃ c,p a b c) (k:∀ a,∀ b,∀ c,p a b c->G):G:=h.elim λa h1=>h1.elim λb h2=>h2.elim λc h3=>k a b c h3
theorem U1 {p q:α->β->γ->Prop} (h:∃ a,∃ b,∃ c,p a b c/\q a b c) (k:∀ a,∀ b,∀ c,p a b c->q a b c->G):G:=h.elim λa h1=>h1.elim λb h2=>h2.elim λc h3=>k a b c h3.1 h3.2
theorem B7k {p q r:α->β->γ->Prop} (h:∃ a,∃ b,∃ c,p a b c/\q a b c/\r a b c) (k:∀ a,∀ b,∀ c,p a b c->q a b c->r a b c->G):G:=h.elim λa h1=>h1.elim λb h2=>h2.elim λc h3=>k a b c h3.1 h3.2.1 h3.2.2
theorem C1o {p q r s:α->β->γ->Prop} (h:∃ a,∃ b,∃ c,p a b c/\q a b c/\r a b c/\s a b c) (k:∀ a,∀ b,∀ c,p a b c->q a b c->r a b c->s a b c->G):G:=h.elim λa h1=>h1.elim λb h2=>h2.elim λc h3=>k a b c h3.1 h3.2.1 h3.2.2.1 h3.2.2.2
theorem K0 {p q r s t:α->β->γ->Prop} (h:∃ a,∃ b,∃ c,p a b c/\q a b c/\r a b c/\s a b c/\t a b c) (k:∀ a,∀ b,∀ c,p a b c->q a b c->r a b c->s a b c->t a b c->G):G:=h.elim λa h1=>h1.elim λb h2=>h2.elim λc h3=>k a b c h3.1 h3.2.1 h3.2.2.1 h3.2.2.2.1 h3.2.2.2.2
theorem L8 {p q r s t u:α->β->γ->Prop} (h:∃ a,∃ b,∃ c,p a b c/\q a b c/\r a b c/\s a b c/\t a b c/\u a b c) (k:∀ a,∀ b,∀ c,p a b c->q a b c->r a b c->s a b c->t a b c->u a b c->G):G:=h.elim λa h1=>h1.elim λb h2=>h2.elim λc h3=>k a b c h3.1 h3.2.1 h3.2.2.1 h3.2.2.2.1 h3.2.2.2.2.1 h3.2.2.2.2.2
theorem Z2 {p q r s t u v w x:α->β->γ->Prop} (h:∃ a,∃ b,∃ c,p a b c/\q a b c/\r a b c/\s a b c/\t a b c/\u a b c/\v a b c/\w a b c/\x a b c) (k:∀ a,∀ b,∀ c,p a b c->q a b c->r a b c->s a b c->t a b c->u a b c->v a b c->w a b c->x a b c->G):G:=h.elim λa h1=>h1.elim λb h2=>h2.elim λc h3=>k a b c h3.1 h3.2.1 h3.2.2.1 h3.2.2.2.1 h3.2.2.2.2.1 h3.2.2.2.2.2.1 h3.2.2.2.2.2.2.1 h3.2.2.2.2.2.2.2.1 h3.2.2.2.2.2.2.2.2
theorem E3m {p:α->β->γ->δ->Prop} (h:∃ a,∃ b,∃ c,∃ d,p a b c d) (k:∀ a,∀ b,∀ c,∀ d,p a b c d->G):G:=h.elim λa h1=>h1.elim λb h2=>h2.elim λc h3=>h3.elim λd h4=>k a b c d h4
theorem B8r {p q r s:α->β->γ->δ->Prop} (h:∃ a,∃ b,∃ c,∃ d,p a b c d/\q a b c d/\r a b c d/\s a b c d) (k:∀ a,∀ b,∀ c,∀ d,p a b c d->q a b c d->r a b c d->s a b c d->G):G:=h.elim λa h1=>h1.elim λb h2=>h2.elim λc h3=>h3.elim λd h4=>k a b c d h4.1 h4.2.1 h4.2.2.1 h4.2.2.2
theorem A3h {p q r s:α->β->γ->δ->ε->Prop} (h:∃ a,∃ b,∃ c,∃ d,∃ e,p a b c d e/\q a b c d e/\r a b c d e/\s a b c d e) (k:∀ a,∀ b,∀ c,∀ d,∀ e,p a b c d e->q a b c d e->r a b c d e->s a b c d e->G):G:=h.elim λa h1=>h1.elim λb h2=>h2.elim λc h3=>h3.elim λd h4=>h4.elim λe h5=>k a b c d e h5.1 h5.2.1 h5.2.2.1 h5.2.2.2
end
theorem ff {G:Prop} (h:false=true):G:=nomatch h
theorem nS {α:Type} {a:α} {G:Prop} (h:none=some a):G:=nomatch h
theorem sN {α:Type} {a:α} {G:Prop} (h:some a=none):G:=nomatch h
theorem tF {G:Prop} (h:true=false):G:=nomatch h
theorem nt {b:Bool} (h:(!b)=true):b=false:=by cases b<;>first | rfl | cases h
theorem nf {b:Bool} (h:(!b)=false):b=true:=by cases b<;>first | rfl | cases h
theorem b2 {a b:Bool} {G:Prop} (h:(a && b)=true) (k:a=true->b=true->G):G:=by
 cases a
 ·cases h
 ·exact k rfl h
theorem b3 {a b c:Bool} {G:Prop} (h:(a && b && c)=true) (k:a=true->b=true->c=true->G):G:=b2 h λh z=>b2 h λx y=>k x y z
theorem b4 {a b c d:Bool} {G:Prop} (h:(a && b && c && d)=true) (k:a=true->b=true->c=true->d=true->G):G:=b2 h λh z=>b3 h λx y w=>k x y w z
theorem b5 {a b c d e:Bool} {G:Prop} (h:(a && b && c && d && e)=true) (k:a=true->b=true->c=true->d=true->e=true->G):G:=b2 h λh z=>b4 h λx y w v=>k x y w v z
theorem b6 {a b c d e f:Bool} {G:Prop} (h:(a && b && c && d && e && f)=true) (k:a=true->b=true->c=true->d=true->e=true->f=true->G):G:=b2 h λh z=>b5 h λx y w v u=>k x y w v u z
theorem Z4 {a b:Bool} (h:(a || b)=true):a=true∨b=true:=by
 cases a
 ·exact .inr h
 ·exact .inl rfl
theorem A0z {α:Type} {o:Option α} {G:Prop} (h:o.isSome=true) (k:∀ v,o=some v->G):G:=by
 induction o using ae with
 | none=>exact ff h
 | some v=>exact k v rfl
theorem dt {p:Prop} [Decidable p] {g:p->Bool} (h:(dite p g λ_=>false)=true):∃ q,g q=true:=by
 by_cases q:p
 ·rw [dif_pos q] at h; exact ⟨q,h⟩
 ·rw [dif_neg q] at h; cases h
end
end Mine
namespace Mine
open PySem PySem.W PyProof.Rows PySem.SeqAt
noncomputable section
noncomputable def D1p (e:Expr) (k:BoolOp->List Expr->Pos->Bool):Bool:=dite (e.ctorIdx=0) (λq=>Expr.BoolOp.elim e q λo l p=>k o l p) λ_=>false
theorem A9w {P:Expr->Prop} {e k} (h:D1p e k=true) (m:∀ o l p,k o l p=true->P (.BoolOp o l p)):P e:=(dt h).elim λq=>@Expr.BoolOp.elim (λe=>∀ q:e.ctorIdx=0,Expr.BoolOp.elim e q (λo l p=>k o l p)=true->P e) e q (λo l p _ h=>m o l p h) q
noncomputable def E9r (e:Expr) (k:Expr->Operator->Expr->Bool):Bool:=dite (e.ctorIdx=2) (λq=>Expr.BinOp.elim e q λa o b _=>k a o b) λ_=>false
theorem C4w {P:Expr->Prop} {e k} (h:E9r e k=true) (m:∀ a o b p,k a o b=true->P (.BinOp a o b p)):P e:=(dt h).elim λq=>@Expr.BinOp.elim (λe=>∀ q:e.ctorIdx=2,Expr.BinOp.elim e q (λa o b _=>k a o b)=true->P e) e q (λa o b p _ h=>m a o b p h) q
noncomputable def oUn (e:Expr) (k:UnaryOp->Expr->Bool):Bool:=dite (e.ctorIdx=3) (λq=>Expr.UnaryOp.elim e q λo a _=>k o a) λ_=>false
theorem B7e {P:Expr->Prop} {e k} (h:oUn e k=true) (m:∀ o a p,k o a=true->P (.UnaryOp o a p)):P e:=(dt h).elim λq=>@Expr.UnaryOp.elim (λe=>∀ q:e.ctorIdx=3,Expr.UnaryOp.elim e q (λo a _=>k o a)=true->P e) e q (λo a p _ h=>m o a p h) q
noncomputable def E3k (e:Expr) (k:Expr->Expr->Expr->Bool):Bool:=dite (e.ctorIdx=5) (λq=>Expr.IfExp.elim e q λa b c _=>k a b c) λ_=>false
theorem C1q {P:Expr->Prop} {e k} (h:E3k e k=true) (m:∀ a b c p,k a b c=true->P (.IfExp a b c p)):P e:=(dt h).elim λq=>@Expr.IfExp.elim (λe=>∀ q:e.ctorIdx=5,Expr.IfExp.elim e q (λa b c _=>k a b c)=true->P e) e q (λa b c p _ h=>m a b c p h) q
noncomputable def F1r (e:Expr) (k:List (Option Expr)->List Expr->Bool):Bool:=dite (e.ctorIdx=6) (λq=>Expr.Dict.elim e q λa b _=>k a b) λ_=>false
theorem C1y {P:Expr->Prop} {e k} (h:F1r e k=true) (m:∀ a b p,k a b=true->P (.Dict a b p)):P e:=(dt h).elim λq=>@Expr.Dict.elim (λe=>∀ q:e.ctorIdx=6,Expr.Dict.elim e q (λa b _=>k a b)=true->P e) e q (λa b p _ h=>m a b p h) q
noncomputable def B9k (e:Expr) (k:Expr->List Comprehension->Scope->Pos->Bool):Bool:=dite (e.ctorIdx=8) (λq=>Expr.ListComp.elim e q λa g s p=>k a g s p) λ_=>false
theorem B0f {P:Expr->Prop} {e k} (h:B9k e k=true) (m:∀ a g s p,k a g s p=true->P (.ListComp a g s p)):P e:=(dt h).elim λq=>@Expr.ListComp.elim (λe=>∀ q:e.ctorIdx=8,Expr.ListComp.elim e q (λa g s p=>k a g s p)=true->P e) e q (λa g s p _ h=>m a g s p h) q
noncomputable def D7i (e:Expr) (k:Expr->List CmpOp->List Expr->Bool):Bool:=dite (e.ctorIdx=15) (λq=>Expr.Compare.elim e q λa o b _=>k a o b) λ_=>false
theorem B1f {P:Expr->Prop} {e k} (h:D7i e k=true) (m:∀ a o b p,k a o b=true->P (.Compare a o b p)):P e:=(dt h).elim λq=>@Expr.Compare.elim (λe=>∀ q:e.ctorIdx=15,Expr.Compare.elim e q (λa o b _=>k a o b)=true->P e) e q (λa o b p _ h=>m a o b p h) q
noncomputable def C2f (e:Expr) (k:Expr->List Expr->List Keyword->Pos->Bool):Bool:=dite (e.ctorIdx=16) (λq=>Expr.Call.elim e q λa b c p=>k a b c p) λ_=>false
theorem B1j {P:Expr->Prop} {e k} (h:C2f e k=true) (m:∀ a b c p,k a b c p=true->P (.Call a b c p)):P e:=(dt h).elim λq=>@Expr.Call.elim (λe=>∀ q:e.ctorIdx=16,Expr.Call.elim e q (λa b c p=>k a b c p)=true->P e) e q (λa b c p _ h=>m a b c p h) q
noncomputable def E2w (e:Expr) (k:Const->Bool):Bool:=dite (e.ctorIdx=19) (λq=>Expr.Constant.elim e q λa _ _=>k a) λ_=>false
theorem C1z {P:Expr->Prop} {e k} (h:E2w e k=true) (m:∀ a b p,k a=true->P (.Constant a b p)):P e:=(dt h).elim λq=>@Expr.Constant.elim (λe=>∀ q:e.ctorIdx=19,Expr.Constant.elim e q (λa _ _=>k a)=true->P e) e q (λa b p _ h=>m a b p h) q
noncomputable def B3v (e:Expr) (k:Expr->Str->Pos->Bool):Bool:=dite (e.ctorIdx=20) (λq=>Expr.Attribute.elim e q λa s p=>k a s p) λ_=>false
theorem Y9 {P:Expr->Prop} {e k} (h:B3v e k=true) (m:∀ a s p,k a s p=true->P (.Attribute a s p)):P e:=(dt h).elim λq=>@Expr.Attribute.elim (λe=>∀ q:e.ctorIdx=20,Expr.Attribute.elim e q (λa s p=>k a s p)=true->P e) e q (λa s p _ h=>m a s p h) q
noncomputable def B7m (e:Expr) (k:Expr->Expr->Bool):Bool:=dite (e.ctorIdx=21) (λq=>Expr.Subscript.elim e q λa b _=>k a b) λ_=>false
theorem v9 {P:Expr->Prop} {e k} (h:B7m e k=true) (m:∀ a b p,k a b=true->P (.Subscript a b p)):P e:=(dt h).elim λq=>@Expr.Subscript.elim (λe=>∀ q:e.ctorIdx=21,Expr.Subscript.elim e q (λa b _=>k a b)=true->P e) e q (λa b p _ h=>m a b p h) q
noncomputable def y9 (e:Expr) (k:Str->Bool):Bool:=dite (e.ctorIdx=23) (λq=>Expr.Name.elim e q λs _=>k s) λ_=>false
theorem K6 {P:Expr->Prop} {e k} (h:y9 e k=true) (m:∀ s p,k s=true->P (.Name s p)):P e:=(dt h).elim λq=>@Expr.Name.elim (λe=>∀ q:e.ctorIdx=23,Expr.Name.elim e q (λs _=>k s)=true->P e) e q (λs p _ h=>m s p h) q
noncomputable def E3z (e:Expr) (k:Str->Pos->Bool):Bool:=dite (e.ctorIdx=23) (λq=>Expr.Name.elim e q λs p=>k s p) λ_=>false
theorem C1h {P:Expr->Prop} {e k} (h:E3z e k=true) (m:∀ s p,k s p=true->P (.Name s p)):P e:=(dt h).elim λq=>@Expr.Name.elim (λe=>∀ q:e.ctorIdx=23,Expr.Name.elim e q (λs p=>k s p)=true->P e) e q (λs p _ h=>m s p h) q
noncomputable def D9k (e:Expr) (k:List Expr->Bool):Bool:=dite (e.ctorIdx=24) (λq=>Expr.List.elim e q λa _=>k a) λ_=>false
theorem C1x {P:Expr->Prop} {e k} (h:D9k e k=true) (m:∀ a p,k a=true->P (.List a p)):P e:=(dt h).elim λq=>@Expr.List.elim (λe=>∀ q:e.ctorIdx=24,Expr.List.elim e q (λa _=>k a)=true->P e) e q (λa p _ h=>m a p h) q
noncomputable def A8m (e:Expr) (k:List Expr->Bool):Bool:=dite (e.ctorIdx=25) (λq=>Expr.Tuple.elim e q λa _ _=>k a) λ_=>false
theorem V6 {P:Expr->Prop} {e k} (h:A8m e k=true) (m:∀ a b p,k a=true->P (.Tuple a b p)):P e:=(dt h).elim λq=>@Expr.Tuple.elim (λe=>∀ q:e.ctorIdx=25,Expr.Tuple.elim e q (λa _ _=>k a)=true->P e) e q (λa b p _ h=>m a b p h) q
noncomputable def E6u (e:Expr) (k:Option Expr->Option Expr->Option Expr->Bool):Bool:=dite (e.ctorIdx=26) (λq=>Expr.Slice.elim e q λa b c _=>k a b c) λ_=>false
theorem C5s {P:Expr->Prop} {e k} (h:E6u e k=true) (m:∀ a b c p,k a b c=true->P (.Slice a b c p)):P e:=(dt h).elim λq=>@Expr.Slice.elim (λe=>∀ q:e.ctorIdx=26,Expr.Slice.elim e q (λa b c _=>k a b c)=true->P e) e q (λa b c p _ h=>m a b c p h) q
noncomputable def oFd (e:PySem.Stmt) (k:Str->Arguments->List Stmt->List Expr->Option Expr->List TypeParam->Scope->Option Scope->Str->Bool):Bool:=dite (e.ctorIdx=0) (λq=>PySem.Stmt.FunctionDef.elim e q λa b c d e f g h i _=>k a b c d e f g h i) λ_=>false
theorem D4a {P:PySem.Stmt->Prop} {e k} (h:oFd e k=true) (m:∀ a b c d e f g h i j,k a b c d e f g h i=true->P (.FunctionDef a b c d e f g h i j)):P e:=(dt h).elim λq=>@PySem.Stmt.FunctionDef.elim (λe=>∀ q:e.ctorIdx=0,PySem.Stmt.FunctionDef.elim e q (λa b c d e f g h i _=>k a b c d e f g h i)=true->P e) e q (λa b c d e f g h i j _ z=>m a b c d e f g h i j z) q
noncomputable def E4d (e:PySem.Stmt) (k:Option Expr->Bool):Bool:=dite (e.ctorIdx=3) (λq=>PySem.Stmt.Return.elim e q λa _=>k a) λ_=>false
theorem C5j {P:PySem.Stmt->Prop} {e k} (h:E4d e k=true) (m:∀ a p,k a=true->P (.Return a p)):P e:=(dt h).elim λq=>@PySem.Stmt.Return.elim (λe=>∀ q:e.ctorIdx=3,PySem.Stmt.Return.elim e q (λa _=>k a)=true->P e) e q (λa p _ h=>m a p h) q
noncomputable def E0o (e:PySem.Stmt) (k:List Expr->Expr->Bool):Bool:=dite (e.ctorIdx=5) (λq=>PySem.Stmt.Assign.elim e q λa b _=>k a b) λ_=>false
theorem C4n {P:PySem.Stmt->Prop} {e k} (h:E0o e k=true) (m:∀ a b p,k a b=true->P (.Assign a b p)):P e:=(dt h).elim λq=>@PySem.Stmt.Assign.elim (λe=>∀ q:e.ctorIdx=5,PySem.Stmt.Assign.elim e q (λa b _=>k a b)=true->P e) e q (λa b p _ h=>m a b p h) q
noncomputable def D7y (e:PySem.Stmt) (k:Expr->Operator->Expr->Bool):Bool:=dite (e.ctorIdx=7) (λq=>PySem.Stmt.AugAssign.elim e q λa o b _=>k a o b) λ_=>false
theorem A9z {P:PySem.Stmt->Prop} {e k} (h:D7y e k=true) (m:∀ a o b p,k a o b=true->P (.AugAssign a o b p)):P e:=(dt h).elim λq=>@PySem.Stmt.AugAssign.elim (λe=>∀ q:e.ctorIdx=7,PySem.Stmt.AugAssign.elim e q (λa o b _=>k a o b)=true->P e) e q (λa o b p _ h=>m a o b p h) q
noncomputable def E2q (e:PySem.Stmt) (k:Expr->Expr->List Stmt->List Stmt->Bool):Bool:=dite (e.ctorIdx=9) (λq=>PySem.Stmt.For.elim e q λa b c d _=>k a b c d) λ_=>false
theorem C2w {P:PySem.Stmt->Prop} {e k} (h:E2q e k=true) (m:∀ a b c d p,k a b c d=true->P (.For a b c d p)):P e:=(dt h).elim λq=>@PySem.Stmt.For.elim (λe=>∀ q:e.ctorIdx=9,PySem.Stmt.For.elim e q (λa b c d _=>k a b c d)=true->P e) e q (λa b c d p _ h=>m a b c d p h) q
noncomputable def F1c (e:PySem.Stmt) (k:Expr->List Stmt->List Stmt->Bool):Bool:=dite (e.ctorIdx=11) (λq=>PySem.Stmt.While.elim e q λa b c _=>k a b c) λ_=>false
theorem C4d {P:PySem.Stmt->Prop} {e k} (h:F1c e k=true) (m:∀ a b c p,k a b c=true->P (.While a b c p)):P e:=(dt h).elim λq=>@PySem.Stmt.While.elim (λe=>∀ q:e.ctorIdx=11,PySem.Stmt.While.elim e q (λa b c _=>k a b c)=true->P e) e q (λa b c p _ h=>m a b c p h) q
noncomputable def oIf (e:PySem.Stmt) (k:Expr->List Stmt->List Stmt->Bool):Bool:=dite (e.ctorIdx=12) (λq=>PySem.Stmt.If.elim e q λa b c _=>k a b c) λ_=>false
theorem D4u {P:PySem.Stmt->Prop} {e k} (h:oIf e k=true) (m:∀ a b c p,k a b c=true->P (.If a b c p)):P e:=(dt h).elim λq=>@PySem.Stmt.If.elim (λe=>∀ q:e.ctorIdx=12,PySem.Stmt.If.elim e q (λa b c _=>k a b c)=true->P e) e q (λa b c p _ h=>m a b c p h) q
noncomputable def E1x (e:PySem.Stmt) (k:Expr->Bool):Bool:=dite (e.ctorIdx=24) (λq=>PySem.Stmt.Expr.elim e q λa _=>k a) λ_=>false
theorem C2o {P:PySem.Stmt->Prop} {e k} (h:E1x e k=true) (m:∀ a p,k a=true->P (.Expr a p)):P e:=(dt h).elim λq=>@PySem.Stmt.Expr.elim (λe=>∀ q:e.ctorIdx=24,PySem.Stmt.Expr.elim e q (λa _=>k a)=true->P e) e q (λa p _ h=>m a p h) q
noncomputable def oVi (e:Value) (k:Int->Bool):Bool:=dite (e.ctorIdx=4) (λq=>Value.int.elim e q λm _=>k m) λ_=>false
theorem D2p {P:Value->Prop} {e k} (h:oVi e k=true) (m:∀ a t,k a=true->P (.int a t)):P e:=(dt h).elim λq=>@Value.int.elim (λe=>∀ q:e.ctorIdx=4,Value.int.elim e q (λm _=>k m)=true->P e) e q (λa t _ h=>m a t h) q
noncomputable def oVs (e:Value) (k:Str->Bool):Bool:=dite (e.ctorIdx=6) (λq=>Value.str.elim e q λm _=>k m) λ_=>false
theorem C9g {P:Value->Prop} {e k} (h:oVs e k=true) (m:∀ a t,k a=true->P (.str a t)):P e:=(dt h).elim λq=>@Value.str.elim (λe=>∀ q:e.ctorIdx=6,Value.str.elim e q (λm _=>k m)=true->P e) e q (λa t _ h=>m a t h) q
noncomputable def oVr (e:Value) (k:Addr->Bool):Bool:=dite (e.ctorIdx=10) (λq=>Value.ref.elim e q k) λ_=>false
theorem A8t {P:Value->Prop} {e k} (h:oVr e k=true) (m:∀ a,k a=true->P (.ref a)):P e:=(dt h).elim λq=>@Value.ref.elim (λe=>∀ q:e.ctorIdx=10,Value.ref.elim e q k=true->P e) e q (λa _ h=>m a h) q
noncomputable def oVn (e:Value):Bool:=aA e.ctorIdx 0
theorem B5v {e:Value} (h:oVn e=true):e=.none:=@Value.none.elim (λe=>e=.none) e (aw h) rfl
noncomputable def oSq (e:Data) (k:Array Value->Bool):Bool:=dite (e.ctorIdx=2) (λq=>Data.seq.elim e q λa _=>k a) λ_=>false
theorem D1s {P:Data->Prop} {e k} (h:oSq e k=true) (m:∀ a b,k a=true->P (.seq a b)):P e:=(dt h).elim λq=>@Data.seq.elim (λe=>∀ q:e.ctorIdx=2,Data.seq.elim e q (λa _=>k a)=true->P e) e q (λa b _ h=>m a b h) q
end
end Mine
set_option maxRecDepth 100000
namespace Mine
open PySem
noncomputable section
noncomputable def E4 (l:List Nat):Nat:=l.foldl (λa c=>a * 256 + c) 0
noncomputable def t6 (l:List Nat):Bool:=l.all λc=>be 1 c && be c 255
noncomputable def SV (n:Nat) (x:Str):Prop:=t6 x.cps.toList=true/\E4 x.cps.toList=n
theorem B4m (l:List Nat) (a:Nat):l.foldl (λa c=>a * 256 + c) a=a * 256 ^ l.length + E4 l:=by
 induction l generalizing a with
 | nil=>simp [E4]
 | cons c l ih=>
  simp only [List.foldl_cons,bh,E4]
  rw [ih,ih (0 * 256 + c)]
  rw [Nat.pow_succ]
  simp only [Nat.zero_mul,Nat.zero_add,Nat.add_mul]
  have:a * 256 * 256 ^ l.length=a * (256 ^ l.length * 256):=by rw [Nat.mul_assoc,Nat.mul_comm 256]
  rw [this,Nat.add_assoc]
theorem H8 (l m:List Nat):E4 (l++m)=E4 l * 256 ^ m.length + E4 m:=by
 rw [E4,List.foldl_append,B4m]; rfl
theorem w6 (l m:List Nat):t6 (l++m)=(t6 l && t6 m):=by simp [t6]
theorem B3x (l:List Nat) (c:Nat):E4 (l++[c])=E4 l * 256 + c:=by
 rw [H8]; simp [E4]
theorem A5s {l:List Nat} (h:t6 l=true) (hn:l≠[]):0 < E4 l:=by
 obtain ⟨c,m,rfl⟩:=List.exists_cons_of_ne_nil hn
 have:E4 (c::m)=c * 256 ^ m.length + E4 m:=by
  have:=H8 [c] m
  simpa [E4] using this
 have hc:1<=c:=by simp [t6] at h; exact h.1.1
 rw [this]
 have:0 < c * 256 ^ m.length:=Nat.mul_pos hc (Nat.pow_pos (by decide))
 exact ba this (bJ _ _)
theorem Y5:∀ (l m:List Nat),t6 l.reverse=true->t6 m.reverse=true->E4 l.reverse=E4 m.reverse->l=m
 | [],[],_,_,_=>rfl
 | [],c::m,_,h,e=>by
  have:=A5s h (by simp)
  rw [<- e] at this; simp [E4] at this
 | c::l,[],h,_,e=>by
  have:=A5s h (by simp)
  rw [e] at this; simp [E4] at this
 | c::l,d::m,h,h',e=>by
  simp only [List.reverse_cons,B3x,w6,az] at h h' e
  have hc:c<=255:=by have:=h.2; simp [t6] at this; exact this.2
  have hd:d<=255:=by have:=h'.2; simp [t6] at this; exact this.2
  have e1:c=d:=(Nat.mul_add_mod_of_lt (Nat.lt_succ_of_le hc)).symm.trans ((congrArg (· % 256) e).trans (Nat.mul_add_mod_of_lt (Nat.lt_succ_of_le hd)))
  rw [e1] at e ⊢
  rw [Y5 l m h.1 h'.1 (Nat.eq_of_mul_eq_mul_right (by decide) (Nat.add_right_cancel e))]
theorem B5s {l m:List Nat} (h:t6 l=true) (h':t6 m=true) (e:E4 l=E4 m):l=m:=by
 have:=Y5 l.reverse m.reverse (by simpa using h) (by simpa using h') (by simpa using e)
 simpa using congrArg List.reverse this
theorem SV.inj {n:Nat} {x y:Str} (h:SV n x) (h':SV n y):x=y:=by
 obtain ⟨x⟩:=x; obtain ⟨y⟩:=y
 have:=B5s h.1 h'.1 (h.2.trans h'.2.symm)
 simp only at this
 congr 1
 exact Array.toList_inj.mp this
theorem SV.inj_n {n m:Nat} {x:Str} (h:SV n x) (h':SV m x):n=m:=h.2.symm.trans h'.2
section
variable {α:Type}
theorem Tr.get_nil (i:Nat):(Tr.nil:Tr α).get i=none:=rfl
theorem Tr.get_node (v:Option α) (l r:Tr α) (i:Nat):(Tr.node v l r).get i=if i=0 then v else if i % 2=1 then l.get (i / 2) else r.get ((i - 2) / 2):=by
 show @Bool.rec (λ_=>Option α) (@Bool.rec (λ_=>Option α) (r.get (Nat.div (Nat.sub i 2) 2)) (l.get (Nat.div i 2)) (aA (Nat.mod i 2) 1)) v (aA i 0)=_
 by_cases h:i=0
 ·subst h; rfl
 ·have hb:aA i 0=false:=by induction hh:aA i 0 using ao with
   | false=>rfl
   | true=>exact absurd (aw hh) h
  rw [hb,if_neg h]
  by_cases h2:i % 2=1
  ·have:aA (Nat.mod i 2) 1=true:=by show aA (i % 2) 1=true; rw [h2]; rfl
   rw [this,if_pos h2]; rfl
  ·have:aA (Nat.mod i 2) 1=false:=by
    induction hh:aA (Nat.mod i 2) 1 using ao with
    | false=>rfl
    | true=>exact absurd (aw hh) h2
   rw [this,if_neg h2]; rfl
theorem A9o {i:Nat} (h:i % 2=1):2 * (i / 2) + 1=i:=(congrArg (2 * (i / 2) + ·) h).symm.trans (Nat.div_add_mod i 2)
theorem B1t {i:Nat} (h0:i≠0) (h:¬ i % 2=1):2 * ((i - 2) / 2) + 2=i:=by
 have e:=Nat.div_add_mod i 2
 rw [(Nat.mod_two_eq_zero_or_one i).resolve_right h,Nat.add_zero] at e
 induction hk:i / 2 using aU with
 | zero=>rw [hk] at e; exact absurd e.symm h0
 | succ k=>
  rw [hk] at e
  rw [<- e]
  show 2 * (2 * k / 2) + 2=_
  rw [Nat.mul_div_cancel_left k Nat.two_pos]; rfl
theorem B1g {k i m:Nat} (e:2 * k + 2<=i + 1) (h:i + 1 < m * 2):k + 1 < m:=Nat.lt_of_mul_lt_mul_left (a:=2) (bo e (Nat.mul_comm m 2 ▸ h))
theorem G0c {i j:Nat} (h:i % 2=1) (h':j % 2=1):(j / 2=i / 2)=(j=i):=propext ⟨λe=>(A9o h').symm.trans ((congrArg (2 * · + 1) e).trans (A9o h)),λe=>e ▸ rfl⟩
theorem F7h {i j:Nat} (h0:i≠0) (h:¬ i % 2=1) (h1:j≠0) (h':¬ j % 2=1):((j - 2) / 2=(i - 2) / 2)=(j=i):=propext ⟨λe=>(B1t h1 h').symm.trans ((congrArg (2 * · + 2) e).trans (B1t h0 h)),λe=>e ▸ rfl⟩
theorem E6b {i:Nat} (h:¬ i % 2=1):aA (Nat.mod i 2) 1=false:=by
 induction hh:aA (Nat.mod i 2) 1 using ao with
 | false=>rfl
 | true=>exact absurd (aw hh) h
theorem E9f {i:Nat} (h:i % 2=1):aA (Nat.mod i 2) 1=true:=by show aA (i % 2) 1=true; rw [h]; rfl
theorem E7r {i:Nat} (h:¬ i=0):aA i 0=false:=by
 induction hh:aA i 0 using ao with
 | false=>rfl
 | true=>exact absurd (aw hh) h
theorem B5y (o:α) {v:Option α} {l r:Tr α} {i j:Nat} {t:Tr α} (h2:i % 2=1) (ih:j % 2=1->t.get (j / 2)=if j / 2=i / 2 then some o else l.get (j / 2)):(Tr.node v t r).get j=if j=i then some o else (Tr.node v l r).get j:=by
 rw [Tr.get_node,Tr.get_node]
 by_cases hj:j=0
 ·rw [if_pos hj,if_pos hj,if_neg (λe:j=i=>by rw [<- e,hj] at h2; cases h2)]
 ·rw [if_neg hj,if_neg hj]
  by_cases hj2:j % 2=1
  ·rw [if_pos hj2,if_pos hj2,ih hj2]
   simp only [G0c h2 hj2]
  ·rw [if_neg hj2,if_neg hj2,if_neg (λe:j=i=>hj2 (e ▸ h2))]
theorem A9x (o:α) {v:Option α} {l r:Tr α} {i j:Nat} {t:Tr α} (h0:i≠0) (h2:¬ i % 2=1) (ih:t.get ((j - 2) / 2)=if (j - 2) / 2=(i - 2) / 2 then some o else r.get ((j - 2) / 2)):(Tr.node v l t).get j=if j=i then some o else (Tr.node v l r).get j:=by
 rw [Tr.get_node,Tr.get_node]
 by_cases hj:j=0
 ·rw [if_pos hj,if_pos hj,if_neg (λe:j=i=>h0 (e ▸ hj))]
 ·rw [if_neg hj,if_neg hj]
  by_cases hj2:j % 2=1
  ·rw [if_pos hj2,if_pos hj2,if_neg (λe:j=i=>h2 (e ▸ hj2))]
  ·rw [if_neg hj2,if_neg hj2,ih]
   simp only [F7h h0 h2 hj hj2]
theorem B0r (o:α) {v:Option α} {l r:Tr α} {i j:Nat} (h0:i=0):(Tr.node (some o) l r).get j=if j=i then some o else (Tr.node v l r).get j:=by
 subst h0
 rw [Tr.get_node,Tr.get_node]
 by_cases hj:j=0
 ·rw [if_pos hj,if_pos hj]
 ·rw [if_neg hj,if_neg hj,if_neg hj]
theorem C8x (j:Nat):(Tr.node (none:Option α) .nil .nil).get j=none:=by
 rw [Tr.get_node,Tr.get_nil,Tr.get_nil]
 split<;>try split
 all_goals rfl
theorem Tr.mk_get (o:α):∀ (n i j:Nat),i + 1 < 2 ^ n->(Tr.mk o n i).get j=if j=i then some o else none
 | 0,i,j,h=>absurd h (by simp)
 | n + 1,i,j,h=>by
  show (@Bool.rec (λ_=>Tr α) (@Bool.rec (λ_=>Tr α) (.node none .nil (Tr.mk o n (Nat.div (Nat.sub i 2) 2))) (.node none (Tr.mk o n (Nat.div i 2)) .nil) (aA (Nat.mod i 2) 1)) (.node (some o) .nil .nil) (aA i 0)).get j=_
  refine Eq.trans ?_ (show (if j=i then some o else (Tr.node (none:Option α) .nil .nil).get j)=_ by rw [C8x])
  rw [Nat.pow_succ] at h
  by_cases h0:i=0
  ·rw [h0]; exact B0r o rfl
  ·rw [E7r h0]
   by_cases h2:i % 2=1
   ·rw [E9f h2]
    exact B5y o h2 λ_=>(Tr.mk_get o n (i / 2) (j / 2) (B1g (Nat.le_of_eq (congrArg (· + 1) (A9o h2))) h)).trans (by rw [Tr.get_nil])
   ·rw [E6b h2]
    exact A9x o h0 h2 ((Tr.mk_get o n ((i - 2) / 2) ((j - 2) / 2) (B1g (Nat.le_succ_of_le (Nat.le_of_eq (B1t h0 h2))) h)).trans (by rw [Tr.get_nil]))
theorem Tr.set_get (o:α):∀ (t:Tr α) (i j:Nat),i < 1000000->(Tr.set o t i).get j=if j=i then some o else t.get j
 | .nil,i,j,h=>(Tr.mk_get o 20 i j (ba (Nat.succ_lt_succ h) (by decide))).trans (by rw [Tr.get_nil])
 | .node v l r,i,j,h=>by
  show (@Bool.rec (λ_=>Tr α) (@Bool.rec (λ_=>Tr α) (.node v l (Tr.set o r (Nat.div (Nat.sub i 2) 2))) (.node v (Tr.set o l (Nat.div i 2)) r) (aA (Nat.mod i 2) 1)) (.node (some o) l r) (aA i 0)).get j=_
  by_cases h0:i=0
  ·rw [h0]; exact B0r o rfl
  ·rw [E7r h0]
   by_cases h2:i % 2=1
   ·rw [E9f h2]
    exact B5y o h2 λ_=>Tr.set_get o l (i / 2) (j / 2) (bo (Nat.div_le_self _ _) h)
   ·rw [E6b h2]
    exact A9x o h0 h2 (Tr.set_get o r ((i - 2) / 2) ((j - 2) / 2) (bo (aJ (Nat.div_le_self _ _) (Nat.sub_le _ _)) h))
end
theorem U2 {α:Type} (k:Nat):A8 k ([]:List (Nat×α))=none:=rfl
theorem G4 {α:Type} (k:Nat) (p:Nat×α) (l:List (Nat×α)):A8 k (p::l)=if p.1=k then some p.2 else A8 k l:=by
 show @Bool.rec (λ_=>Option α) (A8 k l) (some p.2) (aA p.1 k)=_
 by_cases h:p.1=k
 ·rw [if_pos h,h,Nat.beq_refl]
 ·have:aA p.1 k=false:=by
   induction hh:aA p.1 k using ao with
   | false=>rfl
   | true=>exact absurd (aw hh) h
  rw [if_neg h,this]
theorem B4r {α:Type} (k:Nat) (v:α):G0 k v []=[(k,v)]:=rfl
theorem A2s {α:Type} (k:Nat) (v:α) (p:Nat×α) (l:List (Nat×α)):G0 k v (p::l)=if p.1=k then (k,v)::l else p::G0 k v l:=by
 show @Bool.rec (λ_=>List (Nat×α)) (p::G0 k v l) ((k,v)::l) (aA p.1 k)=_
 by_cases h:p.1=k
 ·rw [if_pos h,h,Nat.beq_refl]
 ·have:aA p.1 k=false:=by
   induction hh:aA p.1 k using ao with
   | false=>rfl
   | true=>exact absurd (aw hh) h
  rw [if_neg h,this]
theorem M2 {α:Type} (k:Nat) (v:α):∀ (l:List (Nat×α)) (j:Nat),A8 j (G0 k v l)=if j=k then some v else A8 j l
 | [],j=>by
  rw [B4r,G4,U2]
  by_cases h:j=k
  ·simp [h]
  ·simp [h,Ne.symm h]
 | p::l,j=>by
  rw [A2s]
  by_cases h:p.1=k
  ·rw [if_pos h,G4,G4]
   by_cases hj:j=k
   ·simp [hj]
   ·simp [hj,Ne.symm hj,h]
  ·rw [if_neg h,G4,G4,M2 k v l j]
   by_cases hj:p.1=j
   ·subst hj; simp [h]
   ·simp [hj]
end
end Mine
set_option maxRecDepth 100000
namespace Mine
open PySem PySem.W PyProof.Rows
noncomputable section
structure Kx where
 rho:Nat->Int
 chs:Nat->Int×Int
 wide:Bool
 base:Heap
 clsA:Nat->Addr
 fA:Nat->Addr
 glb:Str->Option Value
 blt:Str->Option Value
 prog:Program
 wld:World
 frag:PySem.W.Frag
 scr:Addr
 tab:Addr
 tc:Addr
noncomputable def I.val (r:Nat->Int) (i:I):Int:=@I.rec (λ_=>Int) (λn=>n) (λk=>r k) (λ_ k p=>p + k) (λ_ _ p q=>p + q) (λ_ _ p q=>p - q) (λ_ _ p q=>p * q) (λk _ _ _ p q s=>if r k=0 then p else if r k=1 then q else s) i
noncomputable def sgc (i:Int):Nat:=if i=0 then 43 else if i=1 then 45 else 42
mutual
inductive A4 (κ:Kx) (φ:Nat->Addr) (n:Nat) (h:Heap):V->Value->Prop
 | none:A4 κ φ n h .none .none
 | bool (b:Bool):A4 κ φ n h (.bool b) (.bool b)
 | int {i:I} {m:Int} {t:Tok}:i.val κ.rho=m->A4 κ φ n h (.int i) (.int m t)
 | str {m:Nat} {x:Str} {t:Tok}:SV m x->A4 κ φ n h (.str m) (.str x t)
 | sgn {k:Nat} {x:Str} {t:Tok}:SV (sgc (κ.rho k)) x->A4 κ φ n h (.sgn k) (.str x t)
 | ref {k:Nat} {a:Addr}:k < n->φ k=a->A4 κ φ n h (.ref k) (.ref a)
 | tup {l:List V} {a:Addr} {o:Obj} {items:Array Value} {e:Nat}:h.get? a=some o->o.cls=.type "tuple"->o.data=.seq items e->(∀ i,i < n->φ i≠a)->l.length<=10000->VRels κ φ n h l items.toList->A4 κ φ n h (.tup l) (.ref a)
 | big {m:Int} {t:Tok}:decide (0 < m)=κ.wide->A4 κ φ n h .big (.int m t)
 | opq (v:Value):A4 κ φ n h .opq v
 | scr:A4 κ φ n h .scr (.ref κ.scr)
inductive VRels (κ:Kx) (φ:Nat->Addr) (n:Nat) (h:Heap):List V->List Value->Prop
 | nil:VRels κ φ n h [] []
 | cons {v:V} {x:Value} {l:List V} {xs:List Value}:A4 κ φ n h v x->VRels κ φ n h l xs->VRels κ φ n h (v::l) (x::xs)
end
theorem A4.el {κ:Kx} {φ:Nat->Addr} {n:Nat} {h:Heap} {P:(v:V)->(x:Value)->A4 κ φ n h v x->Prop} (none:P .none .none .none) (bool:∀ b,P (.bool b) (.bool b) (.bool b)) (int:∀ {i m t} (e:i.val κ.rho=m),P (.int i) (.int m t) (.int e)) (str:∀ {m x t} (e:SV m x),P (.str m) (.str x t) (.str e)) (sgn:∀ {k x t} (e:SV (sgc (κ.rho k)) x),P (.sgn k) (.str x t) (.sgn e))
  (ref:∀ {k a} (hk:k < n) (e:φ k=a),P (.ref k) (.ref a) (.ref hk e)) (tup:∀ {l a o items e} (h1:h.get? a=some o) (h2:o.cls=.type "tuple") (h3:o.data=.seq items e) (h4:∀ i,i < n->φ i≠a) (h5:l.length<=10000) (h6:VRels κ φ n h l items.toList),P (.tup l) (.ref a) (.tup h1 h2 h3 h4 h5 h6))
  (big:∀ {m t} (e:decide (0 < m)=κ.wide),P .big (.int m t) (.big e)) (opq:∀ x,P .opq x (.opq x)) (scr:P .scr (.ref κ.scr) .scr) {v:V} {x:Value} (r:A4 κ φ n h v x):P v x r:=
 @A4.casesOn κ φ n h P v x r none bool (λe=>int e) (λe=>str e) (λe=>sgn e) (λa b=>ref a b) (λa b c d e f=>tup a b c d e f) (λe=>big e) opq scr
section
variable {κ:Kx} {φ:Nat->Addr} {n:Nat} {h:Heap}
theorem A4.elI {i:I} {P:(x:Value)->A4 κ φ n h (.int i) x->Prop} (int:∀ {m t} (e:i.val κ.rho=m),P (.int m t) (.int e)) {x:Value} (r:A4 κ φ n h (.int i) x):P x r:=by cases r with
 | int e=>exact int e
theorem A4.elS {m:Nat} {P:(x:Value)->A4 κ φ n h (.str m) x->Prop} (str:∀ {y t} (e:SV m y),P (.str y t) (.str e)) {x:Value} (r:A4 κ φ n h (.str m) x):P x r:=by cases r with
 | str e=>exact str e
theorem A4.elR {k:Nat} {P:(x:Value)->A4 κ φ n h (.ref k) x->Prop} (ref:∀ {a} (hk:k < n) (e:φ k=a),P (.ref a) (.ref hk e)) {x:Value} (r:A4 κ φ n h (.ref k) x):P x r:=by cases r with
 | ref a b=>exact ref a b
theorem A4.elN {P:(x:Value)->A4 κ φ n h .none x->Prop} (none:P .none .none) {x:Value} (r:A4 κ φ n h .none x):P x r:=by cases r; exact none
theorem A4.elB {b:Bool} {P:(x:Value)->A4 κ φ n h (.bool b) x->Prop} (bool:P (.bool b) (.bool b)) {x:Value} (r:A4 κ φ n h (.bool b) x):P x r:=by cases r; exact bool
theorem A4.elT {l:List V} {P:(x:Value)->A4 κ φ n h (.tup l) x->Prop} (tup:∀ {a o items e} (h1:h.get? a=some o) (h2:o.cls=.type "tuple") (h3:o.data=.seq items e) (h4:∀ i,i < n->φ i≠a) (h5:l.length<=10000) (h6:VRels κ φ n h l items.toList),P (.ref a) (.tup h1 h2 h3 h4 h5 h6)) {x:Value} (r:A4 κ φ n h (.tup l) x):P x r:=by cases r with
 | tup a b c d e f=>exact tup a b c d e f
theorem VRels.elC {v:V} {l:List V} {P:(xs:List Value)->VRels κ φ n h (v::l) xs->Prop} (cons:∀ {x xs} (a:A4 κ φ n h v x) (b:VRels κ φ n h l xs),P (x::xs) (.cons a b)) {xs:List Value} (r:VRels κ φ n h (v::l) xs):P xs r:=by cases r with
 | cons a b=>exact cons a b
theorem VRels.elE {P:(xs:List Value)->VRels κ φ n h [] xs->Prop} (nil:P [] .nil) {xs:List Value} (r:VRels κ φ n h [] xs):P xs r:=by cases r; exact nil
theorem VRels.el {P:(l:List V)->(xs:List Value)->VRels κ φ n h l xs->Prop} (nil:P [] [] .nil) (cons:∀ {v x l xs} (a:A4 κ φ n h v x) (b:VRels κ φ n h l xs),P (v::l) (x::xs) (.cons a b)) {l:List V} {xs:List Value} (r:VRels κ φ n h l xs):P l xs r:=by cases r with
 | nil=>exact nil
 | cons a b=>exact cons a b
end
noncomputable def Y6 (o:Obj):Prop:=o.cls=.type "tuple"/\∃ items e,o.data=.seq items e
structure Up (φ:Nat->Addr) (n:Nat) (h:Heap) (φ':Nat->Addr) (n':Nat) (h':Heap):Prop where
 tup:∀ a o,h.get? a=some o->Y6 o->(∀ i,i < n->φ i≠a)->h'.get? a=some o
 same:∀ i,i < n->φ' i=φ i
 new:∀ i,n<=i->i < n'->∀ o,h.get? (φ' i)=some o->¬ Y6 o
 le:n<=n'
theorem VRels.ind {κ:Kx} {φ:Nat->Addr} {n:Nat} {h:Heap} {P:List V->List Value->Prop} (nil:P [] []) (cons:∀ {v x l xs},A4 κ φ n h v x->VRels κ φ n h l xs->P l xs->P (v::l) (x::xs)) {l:List V} {xs:List Value} (r:VRels κ φ n h l xs):P l xs:=
 @VRels.rec κ φ n h (λ_ _ _=>True) (λl xs _=>P l xs) trivial (λ_=>trivial) (λ_=>trivial) (λ_=>trivial) (λ_=>trivial) (λ_ _=>trivial) (λ_ _ _ _ _ _ _=>trivial) (λ_=>trivial) (λ_=>trivial) trivial nil (λa b _ ih=>cons a b ih) l xs r
theorem VRels.both {κ:Kx} {φ:Nat->Addr} {n:Nat} {h:Heap} {P:V->Value->Prop} {Q:List V->List Value->Prop} (none:P .none .none) (bool:∀ b,P (.bool b) (.bool b)) (int:∀ {i m t},i.val κ.rho=m->P (.int i) (.int m t)) (str:∀ {m y t},SV m y->P (.str m) (.str y t)) (sgn:∀ {k y t},SV (sgc (κ.rho k)) y->P (.sgn k) (.str y t))
  (ref:∀ {k a},k < n->φ k=a->P (.ref k) (.ref a)) (tup:∀ {l a o items e},h.get? a=some o->o.cls=.type "tuple"->o.data=.seq items e->(∀ i,i < n->φ i≠a)->l.length<=10000->VRels κ φ n h l items.toList->Q l items.toList->P (.tup l) (.ref a))
  (big:∀ {m t},decide (0 < m)=κ.wide->P .big (.int m t)) (opq:∀ v,P .opq v) (scr:P .scr (.ref κ.scr)) (nil:Q [] []) (cons:∀ {v x l xs},P v x->Q l xs->Q (v::l) (x::xs)) {l:List V} {xs:List Value} (r:VRels κ φ n h l xs):Q l xs:=
 @VRels.rec κ φ n h (λv x _=>P v x) (λl xs _=>Q l xs) none bool (λe=>int e) (λe=>str e) (λe=>sgn e) (λa b=>ref a b) (λa b c d e f=>tup a b c d e f) (λe=>big e) opq scr nil (λ_ _ a b=>cons a b) l xs r
theorem VRels.up {κ:Kx} {φ φ':Nat->Addr} {n n':Nat} {h h':Heap} (u:Up φ n h φ' n' h') {l:List V} {xs:List Value} (r:VRels κ φ n h l xs):VRels κ φ' n' h' l xs:=
 VRels.both (P:=A4 κ φ' n' h') (Q:=VRels κ φ' n' h') .none .bool .int .str .sgn (λhk e=>.ref (ba hk u.le) ((u.same _ hk).trans e)) (λho hc hd hn hl _ hv=>.tup (u.tup _ _ ho ⟨hc,_,_,hd⟩ hn) hc hd (λi hi e=>by
   by_cases hi':i < n
   ·exact hn i hi' ((u.same i hi').symm.trans e)
   ·exact u.new i (Nat.le_of_not_lt hi') hi _ (e.symm ▸ ho) ⟨hc,_,_,hd⟩) hl hv) .big .opq .scr .nil .cons r
theorem VRels.hd {κ:Kx} {φ:Nat->Addr} {n:Nat} {h:Heap} {v:V} {x:Value} {l:List V} {xs:List Value} (r:VRels κ φ n h (v::l) (x::xs)):A4 κ φ n h v x:=by cases r with
 | cons a b=>exact a
theorem A4.up {κ:Kx} {φ φ':Nat->Addr} {n n':Nat} {h h':Heap} (u:Up φ n h φ' n' h') {v:V} {x:Value} (r:A4 κ φ n h v x):A4 κ φ' n' h' v x:=(VRels.up u (.cons r .nil)).hd
theorem VRels.length {κ:Kx} {φ:Nat->Addr} {n:Nat} {h:Heap} {l:List V} {xs:List Value} (r:VRels κ φ n h l xs):l.length=xs.length:=VRels.ind (P:=λl xs=>l.length=xs.length) rfl (λ_ _ e=>congrArg (· + 1) e) r
theorem VRels.get {κ:Kx} {φ:Nat->Addr} {n:Nat} {h:Heap} {l:List V} {xs:List Value} (r:VRels κ φ n h l xs):∀ {i:Nat} {v:V},l[i]?=some v->∃ x,xs[i]?=some x/\A4 κ φ n h v x:=
 VRels.ind (P:=λl xs=>∀ {i:Nat} {v:V},l[i]?=some v->∃ x,xs[i]?=some x/\A4 κ φ n h v x) (λe=>nomatch e) (λ{v x l xs} a _ ih i u e=>by
  induction i using aU with
  | zero=>exact ⟨x,rfl,ac e ▸ a⟩
  | succ i=>exact ih (i:=i) e) r
theorem VRels.append {κ:Kx} {φ:Nat->Addr} {n:Nat} {h:Heap} {l m:List V} {xs ys:List Value} (r:VRels κ φ n h l xs) (b:VRels κ φ n h m ys):VRels κ φ n h (l++m) (xs++ys):=VRels.ind (P:=λl xs=>VRels κ φ n h (l++m) (xs++ys)) b (λa _ ih=>.cons a ih) r
noncomputable def Opt {α β:Type} (R:α->β->Prop):Option α->Option β->Prop
 | none,none=>True
 | some a,some b=>R a b
 | _,_=>False
mutual
inductive J0:V->PyData->Prop
 | int (k:Int):J0 (.int (.lit k)) (.int k)
 | str {m:Nat} {x:Str}:SV m x->J0 (.str m) (.str x)
 | tup {l:List V} {ds:List PyData}:DatasOf l ds->J0 (.tup l) (.tuple ds)
inductive DatasOf:List V->List PyData->Prop
 | nil:DatasOf [] []
 | cons {v:V} {d:PyData} {l:List V} {ds:List PyData}:J0 v d->DatasOf l ds->DatasOf (v::l) (d::ds)
end
structure W where
 φ:Nat->Addr
 es:St
 s:ak
noncomputable abbrev W.h (w:W):Heap:=w.s.heap
noncomputable abbrev W.n (w:W):Nat:=w.es.n
noncomputable abbrev W.vr (w:W) (κ:Kx):V->Value->Prop:=A4 κ w.φ w.n w.h
noncomputable abbrev W.vrs (w:W) (κ:Kx):List V->List Value->Prop:=VRels κ w.φ w.n w.h
structure Le (X:List Addr) (w w':W):Prop where
 keep:∀ a o,w.h.get? a=some o->(Y6 o∨a ∉ X)->(∀ i,i < w.n->w.φ i≠a)->w'.h.get? a=some o
 live:∀ a,(∃ o,w.h.get? a=some o)->∃ o,w'.h.get? a=some o
 same:∀ i,i < w.n->w'.φ i=w.φ i
 new:∀ i,w.n<=i->i < w'.n->w.h.get? (w'.φ i)=none
 le:w.n<=w'.n
 flo:w'.es.f=w.es.f
 old:∀ i,i < w.es.f->w'.es.t.get i=w.es.t.get i
 dr:w.es.d<=w'.es.d
 gens:w'.s.gens=w.s.gens
 os:w'.s.os=w.s.os
 drawn:w'.s.drawn=w.s.drawn
theorem Le.up {X:List Addr} {w w':W} (l:Le X w w'):Up w.φ w.n w.h w'.φ w'.n w'.h:=⟨λa o ho hc hn=>l.keep a o ho (.inl hc) hn,l.same,λi h1 h2 o ho=>by (rw [l.new i h1 h2] at ho; cases ho),l.le⟩
theorem Le.vr {X:List Addr} {w w':W} {κ:Kx} (l:Le X w w') {v:V} {x:Value} (r:w.vr κ v x):w'.vr κ v x:=A4.up l.up r
theorem Le.vrs {X:List Addr} {w w':W} {κ:Kx} (l:Le X w w') {v:List V} {x:List Value} (r:w.vrs κ v x):w'.vrs κ v x:=VRels.up l.up r
theorem Le.refl (X:List Addr) (w:W):Le X w w:=
 ⟨λ_ _ e _ _=>e,λ_ h=>h,λ_ _=>rfl,λi a b=>absurd b (bq.mpr a),aG _,rfl,λ_ _=>rfl,aG _,rfl,rfl,rfl⟩
theorem Le.trans {X Y Z:List Addr} {w w₁ w₂:W} (a:Le X w w₁) (b:Le Y w₁ w₂) (hX:∀ x ∈ X,x ∈ Z∨w.h.get? x=none) (hY:∀ x ∈ Y,x ∈ Z∨w.h.get? x=none):Le Z w w₂ where
 keep:=λx o ho hx hn=>by
  have nX:Y6 o∨x ∉ X:=hx.imp id λhz hm=>(hX x hm).elim hz λq=>by rw [ho] at q; cases q
  have nY:Y6 o∨x ∉ Y:=hx.imp id λhz hm=>(hY x hm).elim hz λq=>by rw [ho] at q; cases q
  refine b.keep x o (a.keep x o ho nX hn) nY λi hi e=>?_
  by_cases h:i < w.n
  ·exact hn i h ((a.same i h).symm.trans e)
  ·have:=a.new i (Nat.le_of_not_lt h) hi
   rw [e,ho] at this
   cases this
 live:=λx hx=>b.live x (a.live x hx)
 same:=λi hi=>(b.same i (ba hi a.le)).trans (a.same i hi)
 new:=λi h1 h2=>by
  by_cases h:i < w₁.n
  ·rw [b.same i h]; exact a.new i h1 h
  ·have:=b.new i (Nat.le_of_not_lt h) h2
   induction hx:w.h.get? (w₂.φ i) using ae with
   | none=>rfl
   | some o=>
    obtain ⟨o',ho'⟩:=a.live _ ⟨o,hx⟩
    rw [this] at ho'; cases ho'
 le:=aJ a.le b.le
 flo:=b.flo.trans a.flo
 old:=λi hi=>(b.old i (a.flo ▸ hi)).trans (a.old i hi)
 dr:=aJ a.dr b.dr
 gens:=b.gens.trans a.gens
 os:=b.os.trans a.os
 drawn:=b.drawn.trans a.drawn
theorem Le.comp {X:List Addr} {w w₁ w₂:W} (a:Le X w w₁) (b:Le X w₁ w₂):Le X w w₂:=a.trans b (λ_ h=>.inl h) λ_ h=>.inl h
theorem Le.mono {X Y:List Addr} {w w₁:W} (a:Le X w w₁) (h:∀ x ∈ X,x ∈ Y∨w.h.get? x=none):Le Y w w₁:=a.trans (Le.refl [] w₁) h λ_ h=>nomatch h
theorem Le.nil {Y:List Addr} {w w₁:W} (a:Le [] w w₁):Le Y w w₁:=a.mono λ_ h=>nomatch h
end
end Mine
set_option maxRecDepth 100000
namespace Mine
open PySem PySem.W PyProof.Rows PySem.SeqAt
noncomputable section
inductive D2 where
 | i (k:Int) | s (x:Str)
 deriving DecidableEq
noncomputable def D2.is:D2->Value->Bool
 | .i k,v=>Value.isInt k v
 | .s x,v=>Value.isStrOf x v
theorem D2.is_shape {a:D2} {v:Value} (h:a.is v=true):(∃ k t,a=.i k/\v=.int k t)∨(∃ x t,a=.s x/\v=.str x t):=by
 induction a using D2.casesOn with
 | i k=>obtain ⟨t,rfl⟩:=Value.isInt_shape h; exact .inl ⟨k,t,rfl,rfl⟩
 | s x=>obtain ⟨t,rfl⟩:=Value.isStrOf_shape h; exact .inr ⟨x,t,rfl,rfl⟩
noncomputable def C0 (prog:Program) (w:World):KeyKind prog w D2 where
 is:=D2.is
 hash:=λa=>match a with
  | .i k=>hashInt k
  | .s x=>hashStr w x
 inj:=λv a b ha hb=>by
  rcases D2.is_shape ha with ⟨k,t,rfl,rfl⟩ | ⟨x,t,rfl,rfl⟩
  ·rcases D2.is_shape hb with ⟨k',t',rfl,e⟩ | ⟨x',t',rfl,e⟩
   ·injection e with e1; rw [e1]
   ·cases e
  ·rcases D2.is_shape hb with ⟨k',t',rfl,e⟩ | ⟨x',t',rfl,e⟩
   ·cases e
   ·injection e with e1; rw [e1]
 byValue:=λk v h=>by rcases D2.is_shape h with ⟨k,t,rfl,rfl⟩ | ⟨x,t,rfl,rfl⟩<;>rfl
 pyHash:=λ{A E s k v Q} h q=>by
  rcases D2.is_shape h with ⟨k,t,rfl,rfl⟩ | ⟨x,t,rfl,rfl⟩
  ·exact wpAny_pyHash_int q
  ·exact wpAny_pyHash_str q
 eqBool:=λ{A E s a b u v Q} ha hb q=>by
  rcases D2.is_shape ha with ⟨k,t,rfl,rfl⟩ | ⟨x,t,rfl,rfl⟩
  ·rcases D2.is_shape hb with ⟨k',t',rfl,rfl⟩ | ⟨x',t',rfl,rfl⟩
   ·exact wpAny_eqBool_int (by rw [show (k == k')=decide (D2.i k=D2.i k') by rw [Bool.eq_iff_iff]; simp]; exact q)
   ·exact EqAt.int_str _ _ _ _ prog w E Q (by simpa using q)
  ·rcases D2.is_shape hb with ⟨k',t',rfl,rfl⟩ | ⟨x',t',rfl,rfl⟩
   ·exact EqAt.str_int _ _ _ _ prog w E Q (by simpa using q)
   ·exact wpAny_eqBool_str (by rw [show decide (x=x')=decide (D2.s x=D2.s x') by rw [Bool.eq_iff_iff]; simp]; exact q)
 «strs»:=λk x t v h=>by
  rcases D2.is_shape h with ⟨k,t',rfl,e⟩ | ⟨x',t',rfl,e⟩
  ·cases e
  ·injection e with e1
   subst e1
   cases v<;>first | rfl | simp [D2.is,Value.isStrOf,Value.isStr]
end
end Mine
set_option maxRecDepth 100000
namespace Mine
open PySem PySem.W PyProof.Rows
noncomputable section
mutual
noncomputable def A0o (w:World):PyData->Int
 | .int k=>hashInt k
 | .str x=>hashStr w x
 | .tuple ds=>reduceHash (bF (dhashes w ds))
 | _=>0
noncomputable def dhashes (w:World):List PyData->List Int
 | []=>[]
 | d::ds=>A0o w d::dhashes w ds
end
noncomputable def J1:V->Bool
 | .tup _=>true
 | _=>false
inductive N7:V->D2->Prop
 | int (k:Int):N7 (.int (.lit k)) (.i k)
 | str {m:Nat} {x:Str}:SV m x->N7 (.str m) (.s x)
inductive j8 (κ:Kx) (φ:Nat->Addr) (n:Nat) (h:Heap):List (V×V)->List (D2×Value)->Prop
 | nil:j8 κ φ n h [] []
 | cons {k v:V} {a:D2} {x:Value} {l:List (V×V)} {ks:List (D2×Value)}:N7 k a->A4 κ φ n h v x->j8 κ φ n h l ks->j8 κ φ n h ((k,v)::l) ((a,x)::ks)
inductive KTs (κ:Kx) (φ:Nat->Addr) (n:Nat) (h:Heap):List (V×V)->List (PyData×Addr×Value)->Prop
 | nil:KTs κ φ n h [] []
 | cons {k v:V} {d:PyData} {a:Addr} {x:Value} {l:List (V×V)} {ks:List (PyData×Addr×Value)}:J0 k d->M3 12 k=true->J1 k=true->A4 κ φ n h k (.ref a)->A4 κ φ n h v x->KTs κ φ n h l ks->KTs κ φ n h ((k,v)::l) ((d,a,x)::ks)
theorem j8.up {κ:Kx} {φ φ':Nat->Addr} {n n':Nat} {h h':Heap} (u:Up φ n h φ' n' h') {l:List (V×V)} {ks:List (D2×Value)} (r:j8 κ φ n h l ks):j8 κ φ' n' h' l ks:=by
 induction r with
 | nil=>exact .nil
 | cons a b c ih=>exact .cons a (b.up u) ih
theorem KTs.up {κ:Kx} {φ φ':Nat->Addr} {n n':Nat} {h h':Heap} (u:Up φ n h φ' n' h') {l:List (V×V)} {ks:List (PyData×Addr×Value)} (r:KTs κ φ n h l ks):KTs κ φ' n' h' l ks:=by
 induction r with
 | nil=>exact .nil
 | cons a b c d e f ih=>exact .cons a b c (d.up u) (e.up u) ih
noncomputable def c7 (w:World) (h:Heap) (a:Addr) (xs:List (PyData×Addr×Value)):Prop:=
 ∃ o es ep,h.get? a=some o/\o.ExactDict/\o.data=.dict es ep/\es.toList=xs.map (λx=>⟨A0o w x.1,.ref x.2.1,x.2.2⟩)/\(xs.map (·.1)).Nodup
noncomputable def D3u (κ:Kx) (φ:Nat->Addr) (n:Nat) (h:Heap) (l:List (Nat×V)) (od:Obj):Prop:=
 ∃ es ep,od.data=.dict es ep/\StrKeys es/\od.cls=.type "dict"/\od.dict=none/\es.size<=l.length/\(∀ a x,SV a x->Opt (A4 κ φ n h) (A8 a l) (nsFind es x))
noncomputable def c8 (κ:Kx) (φ:Nat->Addr) (n d:Nat) (h:Heap) (i:Nat):O->Prop
 | .list l=>∃ items,h.PlainList (φ i) items/\l.length<=10000/\VRels κ φ n h l items.toList
 | .dict l=>l.length<=10000/\((∃ ks,h.DictOf (C0 κ.prog κ.wld) (φ i) ks/\j8 κ φ n h l ks)∨(∃ xs,c7 κ.wld h (φ i) xs/\KTs κ φ n h l xs))
 | .inst k l=>∃ od,(InstAt h (φ i) (instObj (κ.clsA k) (φ (i + 1))) (κ.clsA k) (some od)/\∃ cl,H1.get k=some cl)/\i + 1 < n/\D3u κ φ n h l od
 | .pair=>∃ a b,h.get? (φ i)=some { cls:=.type "tuple",data:=.seq #[a,b] }
 | .tab=>φ i=κ.tab/\∃ ps,h.get? (φ i)=some { cls:=.none,data:=.fields ps }/\PySem.TriplesOk ps.toList
 | .chest=>i=2/\∃ t u,h.PlainList (φ i) #[.int (κ.chs d).1 t,.int (κ.chs d).2 u]
theorem Opt.mono {α β:Type} {R R':α->β->Prop} (k:∀ a b,R a b->R' a b) {x:Option α} {y:Option β} (h:Opt R x y):Opt R' x y:=by
 cases x<;>cases y<;>first | exact trivial | exact k _ _ h | exact h.elim
theorem c8.up {κ:Kx} {φ φ':Nat->Addr} {n n' d d':Nat} {h h':Heap} (u:Up φ n h φ' n' h') {i:Nat} {o:O} (hi:i < n) (hd:o=.chest->κ.chs d'=κ.chs d) (own:∀ ob,h.get? (φ i)=some ob->h'.get? (φ i)=some ob)
  (own':∀ ob,h.get? (φ (i + 1))=some ob->(∃ k l,o=.inst k l)->h'.get? (φ (i + 1))=some ob) (r:c8 κ φ n d h i o):c8 κ φ' n' d' h' i o:=by
 have sw:∀ ob,h.get? (φ i)=some ob->h'.get? (φ' i)=some ob:=λob q=>(u.same i hi).symm ▸ own ob q
 induction o using O.casesOn with
 | list l=>exact E2 r λitems q hl hv=>q.elim λn' ho=>⟨items,⟨n',sw _ ho⟩,hl,hv.up u⟩
 | dict l=>exact ⟨r.1,r.2.imp (λq=>C5 q λks q hv=>q.elim λob q=>q.elim λes q=>q.elim λep q=>⟨ks,⟨ob,es,ep,sw _ q.1,q.2⟩,hv.up u⟩) λq=>C5 q λxs q hv=>q.elim λob q=>q.elim λes q=>q.elim λep q=>⟨xs,⟨ob,es,ep,sw _ q.1,q.2⟩,hv.up u⟩⟩
 | inst k l=>
  refine H6 r λod q25' hlt es ep h1 h2 h3 h4 h5 h6=>?_
  have I:=q25'.1
  exact ⟨od,⟨⟨(u.same _ hlt).symm ▸ sw _ I.at_,I.cls,I.no,(u.same _ hlt).symm ▸ own' _ I.dict ⟨k,l,rfl⟩⟩,q25'.2⟩,ba hlt u.le,es,ep,h1,h2,h3,h4,h5,λa x hx=>(h6 a x hx).mono λ_ _ q=>q.up u⟩
 | tab=>exact A1y r λe1 ps ho ht=>⟨(u.same i hi).trans e1,ps,sw _ ho,ht⟩
 | pair=>exact kEE r λa b ho=>⟨a,b,sw _ ho⟩
 | chest=>exact E9x r λi1 t v n' ho=>⟨i1,t,v,n',hd rfl ▸ sw _ ho⟩
noncomputable abbrev E5 (κ:Kx) (v:V):W->Value->Prop:=λw x=>w.vr κ v x
structure A7 (κ:Kx) (w:W):Prop where
 obj:∀ i o,w.es.t.get i=some o->i < w.n/\c8 κ w.φ w.n w.es.d w.h i o
 inj:∀ i j,i < w.n->j < w.n->w.φ i=w.φ j->i=j
 lt:∀ i,i < w.n->∃ o,w.h.get? (w.φ i)=some o
 base:κ.base.StaysIn w.h
 lim:κ.base.NoLimit
 fl:w.es.f<=w.n
 f1:1<=w.es.f
 nb:w.n<=60002
 sb:∃ o,κ.base.get? sysModules=some o
 z0:w.φ 0≠sysModules
 own:∀ i,1<=i->i < w.n->κ.base.get? (w.φ i)=none
 sec:∀ i k l,w.es.t.get i=some (.inst k l)->w.es.t.get (i + 1)=none
inductive A1 {β:Type} (κ:Kx) (X:List Addr) (w:W) (es':St) (R:W->β->Prop) (b:β) (s':ak):Prop
 | mk (φ':Nat->Addr) (le:Le X w ⟨φ',es',s'⟩) (inv:A7 κ ⟨φ',es',s'⟩) (r:R ⟨φ',es',s'⟩ b)
noncomputable abbrev D1:Value->ak->Prop:=λ_ _=>False
noncomputable abbrev Kx.m (κ:Kx):Model:=model κ.prog κ.wld
noncomputable def Sim {α β:Type} (κ:Kx) (A:aI) (X:List Addr) (w:W) (m:M α) (t:Sem β) (R:W->α->β->Prop):Prop:=
 ∀ a es',m w.es=.ok a es'->wpAny κ.m A t (A1 κ X w es' λw' b=>R w' a b) D1 w.s
inductive BdR {α β:Type} (r:Rs α) (f:α->M β) (b:β) (s':St):Prop
 | mk (a:α) (s1:St) (h1:r=.ok a s1) (h2:f a s1=.ok b s')
theorem E0f {α β:Type} {r:Rs α} {f:α->M β} {b:β} {s':St} (h:bd r f=.ok b s'):BdR r f b s':=by
 induction r using Rs.casesOn with
 | no=>exact nomatch h
 | ok a s1=>exact ⟨a,s1,rfl,h⟩
theorem D5e {α β:Type} {m:M α} {f:α->M β} {s:St} {b:β} {s':St} (h:D3 m f s=.ok b s'):BdR (m s) f b s':=by
 unfold D3 at h
 induction hm:m s using Rs.casesOn with
 | no=>rw [hm] at h; exact nomatch h
 | ok a s1=>rw [hm] at h; exact ⟨a,s1,rfl,h⟩
theorem D6 {α:Type} {o:Option α} {s:St} {a:α} {s':St} (h:lift o s=.ok a s'):o=some a/\s'=s:=by
 induction o using ae with
 | none=>exact nomatch h
 | some x=>cases h; exact ⟨rfl,rfl⟩
theorem A3 {α:Type} {x:α} {s:St} {a:α} {s':St} (h:D7 x s=.ok a s'):a=x/\s'=s:=by cases h; exact ⟨rfl,rfl⟩
theorem A0 {α:Type} {s:St} {a:α} {s':St} (h:(A5:M α) s=.ok a s'):False:=nomatch h
theorem Q4 {i:Nat} {s s':St} {o:O} (h:G1 i s=.ok o s'):s.t.get i=some o/\s'=s:=by
 unfold G1 at h
 induction e:s.t.get i using ae with
 | none=>rw [e] at h; exact nomatch h
 | some x=>rw [e] at h; cases h; exact ⟨rfl,rfl⟩
theorem A2 {α β:Type} {r:Rs α} {f:α->M β} {b:β} {s':St} {G:Prop} (h:bd r f=.ok b s') (k:∀ a s1,r=.ok a s1->f a s1=.ok b s'->G):G:=by
 obtain ⟨a,s1,h1,h2⟩:=E0f h
 exact k a s1 h1 h2
theorem B8 {α β:Type} {m:M α} {f:α->M β} {s:St} {b:β} {s':St} {G:Prop} (h:D3 m f s=.ok b s') (k:∀ a s1,m s=.ok a s1->f a s1=.ok b s'->G):G:=by
 obtain ⟨a,s1,h1,h2⟩:=D5e h
 exact k a s1 h1 h2
theorem gOn {β:Type} {i:Nat} {f:O->M β} {s:St} {b:β} {s':St} {G:Prop} (h:D3 (G1 i) f s=.ok b s') (k:∀ o,s.t.get i=some o->f o s=.ok b s'->G):G:=B8 h λa s1 h1 h2=>by
 obtain ⟨h3,rfl⟩:=Q4 h1
 exact k a h3 h2
theorem gO {β:Type} {i:Nat} {f:O->M β} {s:St} {b:β} {s':St} {G:Prop} (h:bd (G1 i s) f=.ok b s') (k:∀ o,s.t.get i=some o->f o s=.ok b s'->G):G:=A2 h λa s1 h1 h2=>by
 obtain ⟨h3,rfl⟩:=Q4 h1
 exact k a h3 h2
theorem lfn {α β:Type} {x:Option α} {f:α->M β} {s:St} {b:β} {s':St} {G:Prop} (h:D3 (lift x) f s=.ok b s') (k:∀ a,x=some a->f a s=.ok b s'->G):G:=B8 h λa s1 h1 h2=>by
 obtain ⟨h3,rfl⟩:=D6 h1
 exact k a h3 h2
theorem lfb {α β:Type} {x:Option α} {f:α->M β} {s:St} {b:β} {s':St} {G:Prop} (h:bd (lift x s) f=.ok b s') (k:∀ a,x=some a->f a s=.ok b s'->G):G:=A2 h λa s1 h1 h2=>by
 obtain ⟨h3,rfl⟩:=D6 h1
 exact k a h3 h2
section
variable {κ:Kx} {A:aI} {X:List Addr} {w:W}
theorem A1.here {β:Type} {R:W->β->Prop} {b:β} (I:A7 κ w) (r:R w b):A1 κ X w w.es R b w.s:=⟨w.φ,Le.refl X w,I,r⟩
theorem A7.toks (I:A7 κ w) (t:Nat):A7 κ ⟨w.φ,w.es,{ w.s with toks:=t }⟩:=⟨I.obj,I.inj,I.lt,I.base,I.lim,I.fl,I.f1,I.nb,I.sb,I.z0,I.own,I.sec⟩
theorem Le.toks (t:Nat):Le X w ⟨w.φ,w.es,{ w.s with toks:=t }⟩:=⟨(Le.refl X w).keep,λ_ h=>h,λ_ _=>rfl,(Le.refl X w).new,aG _,rfl,λ_ _=>rfl,aG _,rfl,rfl,rfl⟩
theorem A1.toks {β:Type} {R:W->β->Prop} {b:β} {t:Nat} (I:A7 κ w) (r:R ⟨w.φ,w.es,{ w.s with toks:=t }⟩ b):A1 κ X w w.es R b { w.s with toks:=t }:=⟨w.φ,Le.toks t,I.toks t,r⟩
theorem A1.next {β γ:Type} {Y:List Addr} {es₁ es₂:St} {R:W->β->Prop} {R':W->γ->Prop} {t:Sem γ} {b:β} {s₁:ak} (p:A1 κ X w es₁ R b s₁)
  (hX:∀ x ∈ X,x ∈ Y∨w.h.get? x=none) (k:∀ w₁:W,Le X w w₁->A7 κ w₁->R w₁ b->w₁.es=es₁->w₁.s=s₁->∃ Z,(∀ x ∈ Z,x ∈ Y∨w.h.get? x=none)/\wpAny κ.m A t (A1 κ Z w₁ es₂ R') D1 w₁.s):
  wpAny κ.m A t (A1 κ Y w es₂ R') D1 s₁:=by
 obtain ⟨φ',le,inv,r⟩:=p
 refine C5 (k ⟨φ',es₁,s₁⟩ le inv r rfl rfl) λZ hZ h=>?_
 refine af h (λc s₂ q=>?_) λ_ _ x=>x
 obtain ⟨φ'',le',inv',r'⟩:=q
 exact ⟨φ'',le.trans le' hX hZ,inv',r'⟩
theorem A1.go {β γ:Type} {es₁ es₂:St} {R:W->β->Prop} {R':W->γ->Prop} {t:Sem γ} {b:β} {s₁:ak} (p:A1 κ X w es₁ R b s₁)
  (k:∀ w₁:W,Le X w w₁->A7 κ w₁->R w₁ b->w₁.es=es₁->w₁.s=s₁->wpAny κ.m A t (A1 κ X w₁ es₂ R') D1 w₁.s):wpAny κ.m A t (A1 κ X w es₂ R') D1 s₁:=
 p.next (λ_ h=>.inl h) λw₁ a b c d e=>⟨X,λ_ h=>.inl h,k w₁ a b c d e⟩
theorem A1.mono {β γ:Type} {Y:List Addr} {es₁:St} {R:W->β->Prop} {R':W->γ->Prop} {b:β} {b':γ} {s₁:ak} (p:A1 κ X w es₁ R b s₁) (hX:∀ x ∈ X,x ∈ Y∨w.h.get? x=none) (k:∀ w₁:W,Le X w w₁->A7 κ w₁->R w₁ b->R' w₁ b'):A1 κ Y w es₁ R' b' s₁:=by
 obtain ⟨φ',le,inv,r⟩:=p
 exact ⟨φ',le.mono hX,inv,k _ le inv r⟩
end
theorem r8 {o:O} {s s':St} {v:V} (h:w9 o s=.ok v s'):v=.ref s.n/\s.n<=60000/\s'=⟨Tr.set o s.t s.n,s.n + 1,s.d,s.f⟩:=by
 obtain ⟨t,n,d,f⟩:=s
 have h':@Bool.rec (λ_=>Rs V) .no (.ok (.ref n) ⟨Tr.set o t n,Nat.succ n,d,f⟩) (be n 60000)=.ok v s':=h
 induction hb:be n 60000 using ao with
 | false=>rw [hb] at h'; exact nomatch h'
 | true=>rw [hb] at h'; cases h'; exact ⟨rfl,aj hb,rfl⟩
theorem C4y {o:O} {s s':St} {v:Nat} (h:C8u o s=.ok v s'):v=s.n/\s.n<=60000/\s'=⟨Tr.set o s.t s.n,s.n + 2,s.d,s.f⟩:=by
 obtain ⟨t,n,d,f⟩:=s
 have h':@Bool.rec (λ_=>Rs Nat) .no (.ok n ⟨Tr.set o t n,Nat.succ (Nat.succ n),d,f⟩) (be n 60000)=.ok v s':=h
 induction hb:be n 60000 using ao with
 | false=>rw [hb] at h'; exact nomatch h'
 | true=>rw [hb] at h'; cases h'; exact ⟨rfl,aj hb,rfl⟩
theorem s8 {i:Nat} {o:O} {s s':St} {u:Unit} (h:A3n i o s=.ok u s'):s.f<=i/\i < s.n/\s'=⟨Tr.set o s.t i,s.n,s.d,s.f⟩:=by
 obtain ⟨t,n,d,f⟩:=s
 have h':@Bool.rec (λ_=>Rs Unit) .no (@Bool.rec (λ_=>Rs Unit) .no (.ok () ⟨Tr.set o t i,n,d,f⟩) (Nat.blt i n)) (be f i)=.ok u s':=h
 induction hb:be f i using ao with
 | false=>rw [hb] at h'; exact nomatch h'
 | true=>
  rw [hb] at h'
  induction hc:Nat.blt i n using ao with
  | false=>rw [hc] at h'; exact nomatch h'
  | true=>rw [hc] at h'; cases h'; exact ⟨aj hb,aj hc,rfl⟩
noncomputable def W3 (φ:Nat->Addr) (n:Nat) (a:Addr):Nat->Addr:=λi=>if i=n then a else φ i
theorem B1 (φ:Nat->Addr) (n:Nat) (a:Addr):W3 φ n a n=a:=if_pos rfl
theorem C7 (φ:Nat->Addr) {n i:Nat} (a:Addr) (h:i≠n):W3 φ n a i=φ i:=if_neg h
structure c9 (s s':ak):Prop where
 gens:s'.gens=s.gens
 os:s'.os=s.os
 drawn:s'.drawn=s.drawn
theorem A7.sm {κ:Kx} {w:W} (I:A7 κ w) {i:Nat} (hi:i < w.n):(w.φ i == sysModules)=false:=by
 rw [beq_eq_false_iff_ne]
 intro e
 by_cases h:i=0
 ·subst h; exact I.z0 e
 ·have h1:=I.own i (by omega) hi
  obtain ⟨o,h2⟩:=I.sb
  rw [e,h2] at h1; cases h1
theorem A7.fresh {κ:Kx} {w:W} (I:A7 κ w) {a:Addr} (h:w.h.get? a=none):κ.base.get? a=none:=by
 induction e:κ.base.get? a using ae with
 | none=>rfl
 | some o=>have:=I.base a o e; rw [h] at this; cases this
section
variable {κ:Kx} {X:List Addr} {w:W}
theorem A2b (I:A7 κ w) {o:O} {v:V} {es':St} (h:w9 o w.es=.ok v es') {s':ak} {a:Addr} (hk:∀ b ob,w.h.get? b=some ob->s'.heap.get? b=some ob) (ha:w.h.get? a=none) (ha':∃ ob,s'.heap.get? a=some ob)
  (hb:c9 w.s s') (hni:∀ k l,o≠.inst k l) (r:Up w.φ w.n w.h (W3 w.φ w.n a) (w.n + 1) s'.heap->c8 κ (W3 w.φ w.n a) (w.n + 1) w.es.d s'.heap w.n o):
  A1 κ X w es' (E5 κ v) (.ref a) s':=by
 refine O8 (r8 h) λq26' hn q27'=>?_; subst q26'; subst q27'
 have en:w.n=w.es.n:=rfl
 have nw:∀ i,w.n<=i->i < w.n + 1->w.h.get? (W3 w.φ w.n a i)=none:=λi h1 h2=>by rw [show i=w.n from (by omega),B1]; exact ha
 have u:Up w.φ w.n w.h (W3 w.φ w.n a) (w.n + 1) s'.heap:=⟨λb ob e _ _=>hk b ob e,λi hi=>C7 _ _ (aV hi),λi h1 h2 o ho=>by (rw [nw i h1 h2] at ho; cases ho),Nat.le_succ _⟩
 have hg:∀ i,(Tr.set o w.es.t w.n).get i=if i=w.n then some o else w.es.t.get i:=λi=>Tr.set_get o w.es.t w.n i (by show w.es.n < _; omega)
 refine ⟨W3 w.φ w.n a,⟨λb ob e _ _=>hk b ob e,λb ⟨ob,e⟩=>⟨ob,hk b ob e⟩,u.same,nw,Nat.le_succ _,rfl,λi hi=>?_,aG _,hb.gens,hb.os,hb.drawn⟩,⟨λi o' e=>?_,λi j hi hj e=>?_,λi hi=>?_,λb ob e=>hk b ob (I.base b ob e),I.lim,Nat.le_succ_of_le I.fl,I.f1,(by show w.es.n + 1<=_; omega),I.sb,(by show W3 w.φ w.n a 0≠_; rw [C7 _ _ (by have:=I.fl; have:=I.f1; omega)]; exact I.z0),λi h1 hi=>?_,λi k l e=>?_⟩,.ref (bu _) (B1 _ _ _)⟩
 ·show (Tr.set o w.es.t w.n).get i=_
  rw [hg,if_neg (by have:=I.fl; show i≠w.es.n; omega)]
 ·have e':(Tr.set o w.es.t w.n).get i=some o':=e
  rw [hg] at e'
  by_cases hi:i=w.n
  ·subst hi
   rw [if_pos rfl] at e'
   cases e'
   exact ⟨bu _,r u⟩
  ·rw [if_neg hi] at e'
   obtain ⟨h1,h2⟩:=I.obj i o' e'
   exact ⟨Nat.lt_succ_of_lt h1,h2.up u h1 (λ_=>rfl) (λob=>hk _ ob) λob q _=>hk _ ob q⟩
 ·have hi':i < w.n + 1:=hi
  have hj':j < w.n + 1:=hj
  have e':W3 w.φ w.n a i=W3 w.φ w.n a j:=e
  by_cases h1:i=w.n
  ·by_cases h2:j=w.n
   ·omega
   ·rw [h1,B1,C7 _ _ h2] at e'
    obtain ⟨o,h9⟩:=I.lt j (by omega)
    rw [<- e',ha] at h9
    cases h9
  ·by_cases h2:j=w.n
   ·rw [h2,B1,C7 _ _ h1] at e'
    obtain ⟨o,h9⟩:=I.lt i (by omega)
    rw [e',ha] at h9
    cases h9
   ·rw [C7 _ _ h1,C7 _ _ h2] at e'
    exact I.inj i j (by omega) (by omega) e'
 ·have hi':i < w.n + 1:=hi
  show ∃ o,s'.heap.get? (W3 w.φ w.n a i)=some o
  by_cases h1:i=w.n
  ·rw [h1,B1]; exact ha'
  ·rw [C7 _ _ h1]; exact let ⟨o,h9⟩:=I.lt i (by omega); ⟨o,hk _ _ h9⟩
 ·have hi':i < w.n + 1:=hi
  show κ.base.get? (W3 w.φ w.n a i)=none
  by_cases h2:i=w.n
  ·rw [h2,B1]; exact I.fresh ha
  ·rw [C7 _ _ h2]; exact I.own i h1 (by omega)
 ·have e':(Tr.set o w.es.t w.n).get i=some (.inst k l):=e
  show (Tr.set o w.es.t w.n).get (i + 1)=none
  rw [hg] at e' ⊢
  by_cases h1:i=w.n
  ·rw [if_pos h1] at e'; cases e'; exact absurd rfl (hni k l)
  ·rw [if_neg h1] at e'
   refine M5 (I.obj i _ e') λ_ _ _ h2 _=>?_
   rw [if_neg (by show i + 1≠w.n; omega)]
   exact I.sec i k l e'
theorem L9 (I:A7 κ w) {i:Nat} {o o₀:O} {u:Unit} {es':St} (h:A3n i o w.es=.ok u es') (h0:w.es.t.get i=some o₀) {s':ak} {c:Addr} (hc:bY c w.h s'.heap) (hb:c9 w.s s')
  (hci:(c=w.φ i/\(∀ k l,o₀≠.inst k l)/\(∀ k l,o≠.inst k l))∨(c=w.φ (i + 1)/\i + 1 < w.n/\(∃ k l,o₀=.inst k l)/\∃ k l,o=.inst k l)) (hch:o₀≠.chest)
  (hlv:∃ ob,s'.heap.get? c=some ob)
  (r:Up w.φ w.n w.h w.φ w.n s'.heap->c8 κ w.φ w.n w.es.d s'.heap i o) {β:Type} {R:W->β->Prop} {b:β} (hR:R ⟨w.φ,es',s'⟩ b):A1 κ X w es' R b s':=by
 refine O8 (s8 h) λhf hin q28'=>?_; subst q28'
 have en:w.n=w.es.n:=rfl
 have hcm:∃ j,1<=j/\j < w.n/\c=w.φ j:=by
  rcases hci with ⟨e,_⟩ | ⟨e,hl,_⟩
  ·exact ⟨i,aJ I.f1 hf,hin,e⟩
  ·exact ⟨i + 1,by omega,hl,e⟩
 have up:Up w.φ w.n w.h w.φ w.n s'.heap:=⟨λb ob e _ hu=>(hc.2 b λq=>by
  refine E2 hcm λj _ hj hcj=>?_; clear hcm
  exact hu j hj (hcj ▸ q).symm).trans e,λ_ _=>rfl,λj h1 h2=>absurd h2 (bq.mpr h1),aG _⟩
 have hg:∀ j,(Tr.set o w.es.t i).get j=if j=i then some o else w.es.t.get j:=λj=>Tr.set_get o w.es.t i j (by have:=I.nb; omega)
 have live:∀ b,(∃ ob,w.h.get? b=some ob)->∃ ob,s'.heap.get? b=some ob:=λb ⟨ob,e⟩=>by
  by_cases hb:b=c
  ·subst hb; exact hlv
  ·exact ⟨ob,(hc.2 b hb).trans e⟩
 refine ⟨w.φ,⟨λb ob e _ hu=>(hc.2 b λq=>?_).trans e,live,λ_ _=>rfl,(λj h1 h2=>absurd h2 (bq.mpr h1)),aG _,rfl,λj hj=>?_,aG _,hb.gens,hb.os,hb.drawn⟩,⟨λj o' e=>?_,I.inj,λj hj=>?_,λb ob e=>(hc.2 b λq=>?_).trans (I.base b ob e),I.lim,I.fl,I.f1,I.nb,I.sb,I.z0,I.own,λj k l e=>?_⟩,hR⟩
 ·refine E2 hcm λj _ hj hcj=>?_; clear hcm
  exact hu j hj (hcj ▸ q).symm
 ·show (Tr.set o w.es.t i).get j=_
  rw [hg,if_neg (aV (ba hj hf))]
 ·have e':(Tr.set o w.es.t i).get j=some o':=e
  rw [hg] at e'
  by_cases hj:j=i
  ·subst hj
   rw [if_pos rfl] at e'
   cases e'
   exact ⟨hin,r up⟩
  ·rw [if_neg hj] at e'
   obtain ⟨h1,h2⟩:=I.obj j o' e'
   refine ⟨h1,h2.up up h1 (λ_=>rfl) (λob q=>(hc.2 _ λq'=>?_).trans q) λob q hi=>(hc.2 _ λq'=>?_).trans q⟩
   ·rcases hci with ⟨e,_⟩ | ⟨e,hl,⟨k,l,h3⟩,_⟩
    ·exact hj (I.inj j i h1 hin (q'.trans e))
    ·have:=I.inj j (i + 1) h1 hl (q'.trans e)
     subst this
     have:=I.sec i k l (h3 ▸ h0)
     rw [this] at e'; cases e'
   ·refine kEE hi λk' l' q29'=>?_; clear hi; subst q29'
    refine E2 h2 λ_ _ hlt _=>?_; clear h2
    rcases hci with ⟨e,hn,_⟩ | ⟨e,hl,⟨k,l,h3⟩,_⟩
    ·have:=I.inj (j + 1) i hlt hin (q'.trans e)
     have h5:=I.sec j k' l' e'
     rw [this,h0] at h5; cases h5
    ·have:=I.inj (j + 1) (i + 1) hlt hl (q'.trans e)
     omega
 ·exact live _ (I.lt j hj)
 ·refine E2 hcm λj h1 hj hcj=>?_; clear hcm
  have h2:=I.own j h1 hj
  rw [<- hcj,<- q,e] at h2
  cases h2
 ·have e':(Tr.set o w.es.t i).get j=some (.inst k l):=e
  show (Tr.set o w.es.t i).get (j + 1)=none
  rw [hg] at e' ⊢
  by_cases h1:j=i
  ·subst h1
   rw [if_pos rfl] at e'
   cases e'
   rcases hci with ⟨_,_,h2⟩ | ⟨_,_,⟨k',l',h3⟩,_⟩
   ·exact absurd rfl (h2 k l)
   ·rw [if_neg (by omega)]; exact I.sec j k' l' (h3 ▸ h0)
  ·rw [if_neg h1] at e'
   have h5:=I.sec j k l e'
   by_cases h6:j + 1=i
   ·rw [h6,h0] at h5; cases h5
   ·rw [if_neg h6]; exact h5
end
noncomputable def GlR (κ:Kx) (w:W):Prop:=∀ i v x,A8 i glT=some v->SV i x->∃ val,κ.glb x=some val/\w.vr κ v val
theorem GlR.le {κ:Kx} {X:List Addr} {w w':W} (g:GlR κ w) (l:Le X w w'):GlR κ w':=λi v x a b=>let ⟨val,c,d⟩:=g i v x a b; ⟨val,c,l.vr d⟩
noncomputable def N9:Nat:=123649765894510
structure C8 (κ:Kx) (w:W) (e:Mine.Env) (env:PySem.Env):Prop where
 kind:env.scope.kind=.function
 glob:env.globals=aX
 blt:env.builtins=builtinsNs
 ns:∃ m,w.h.Ns env.locals m/\∀ i v x,A8 i e.ls=some v->SV i x->∃ val,m x=some val/\w.vr κ v val
 nsU:∀ i,i < w.n->w.φ i≠env.locals
 cell:∀ i v x,A8 i e.cs=some v->SV i x->(env.scope.names.lookup x=some .cell∨env.scope.names.lookup x=some .free)->∃ c val,env.cells.lookup x=some c/\w.h.IsCell c (some val)/\w.vr κ v val
 cellU:∀ x c,env.cells.lookup x=some c->(∃ v,w.h.IsCell c v)/\∀ i,i < w.n->w.φ i≠c
 gl:GlR κ w
 apart:∀ x y c,env.cells.lookup x=some c->env.cells.lookup y=some c->x=y
 fresh:κ.base.get? env.locals=none/\∀ x c,env.cells.lookup x=some c->κ.base.get? c=none/\c≠env.locals
 cellD:∀ x,(env.scope.names.lookup x=some .cell∨env.scope.names.lookup x=some .free)->(env.cells.lookup x).isSome=true
 cellA:∀ p ∈ env.cells,env.cells.lookup p.1=some p.2
 code:∀ x,SV N9 x->env.scope.names.lookup x=some .cell->env.code=.ref κ.tc
theorem Le.unm {X:List Addr} {w w':W} (l:Le X w w') {a:Addr} (ha:∃ o,w.h.get? a=some o) (hn:∀ i,i < w.n->w.φ i≠a):∀ i,i < w'.n->w'.φ i≠a:=λi hi e=>by
 by_cases h:i < w.n
 ·exact hn i h ((l.same i h).symm.trans e)
 ·have:=l.new i (Nat.le_of_not_lt h) hi
  obtain ⟨o,ho⟩:=ha
  rw [e,ho] at this
  cases this
theorem C8.le {κ:Kx} {w w':W} {e:Mine.Env} {env:PySem.Env} (r:C8 κ w e env) (l:Le [] w w'):C8 κ w' e env:=by
 refine C5 r.ns λm hm hv=>?_
 refine ⟨r.kind,r.glob,r.blt,⟨m,?_,λi v x h1 h2=>?_⟩,l.unm (let ⟨o,_,_,ho,_⟩:=hm; ⟨o,ho⟩) r.nsU,λi v x h1 h2 h0=>?_,λx c h1=>?_,r.gl.le l,r.apart,r.fresh,r.cellD,r.cellA,r.code⟩
 ·refine U1 hm λo es ep ho q=>?_; clear hm
  exact ⟨o,es,ep,l.keep _ _ ho (.inr (by simp)) r.nsU,q⟩
 ·refine C5 (hv i v x h1 h2) λval a b=>?_
  exact ⟨val,a,l.vr b⟩
 ·refine P1 (r.cell i v x h1 h2 h0) λc val h3 q30' h5=>?_; refine C5 q30' λo ho hd=>?_; clear q30'
  exact ⟨c,val,h3,⟨o,l.keep _ _ ho (.inr (by simp)) (r.cellU x c h3).2,hd⟩,l.vr h5⟩
 ·obtain ⟨⟨v,o,ho,hd⟩,h3⟩:=r.cellU x c h1
  exact ⟨⟨v,o,l.keep _ _ ho (.inr (by simp)) h3,hd⟩,l.unm ⟨o,ho⟩ h3⟩
noncomputable def E8:List Nat:=[7305070,1633973363,1651467385,1718969708,1735161189,1785684595,1801812339,1818326117,1835099237,1835101817,1851878757,1885434984,1936287603,1936748404,1952540531,418330731890,422726034283,426903366771,448546039155,452807650419,452823639416,452924370291,461414299502,495807591539,500135192948,512970878052,108217864776563,108230565520755,108230851060851,109317377451364,109330245579891,112641446864243,115923054064755,119225664498803,120282395144825,120325194214501,121450625394034,122550255383924,123563833126259,123610792682867,123636697429107,126943687306099,127961880028532,128034609394803,28273320624416100,29681726115444077,29681726232557157,30792323104203891,30803249718912371,31372865159785829,31651020194079085,31654262977684339,32199642169962099,32218308148553075,33602627781095015,7234300945208472691,7521419706195993721,8530224966148191347,1797577837673427857012,2128683897331923906148,2128683897332075950181,549904460106728972904307,117777820357495025778519667]
noncomputable def A6j (K:PySem.W.Frag) (C:Addr) (x:Str):Bool:=match findIn K (.ref C) x with
 | some none=>true
 | some (some a)=>(takesIn K a == some false) && (specialIn K a "__get__").isSome
 | none=>false
noncomputable def A6i (K:PySem.W.Frag) (C:Addr):Bool:=plainGet K C Str.empty && hasDictIn K C && plainOver K C && findIn K (.ref C) "__setattr__" == some (some (.builtin "object.__setattr__")) && makesIn K C
noncomputable def C4c (h:Heap) (c P:Addr):Prop:=
 ∃ o vs file tf flags tg inF text tt,h.get? c=some o/\o.cls=.type "code"/\o.data=.fields vs/\vs[11]?=some (.ref P)/\vs.getD 11 .none=.ref P/\vs.getD 18 .none=.str file tf/\
  vs.getD 7 .none=.int flags tg/\vs.getD 9 .none=.bool inF/\vs.getD 10 .none=.int text tt/\c≠P
structure U8 (κ:Kx):Prop where
 tcd:C4c κ.base κ.tc κ.tab
 bmain:κ.base.BuiltinsAt κ.glb κ.tab
 glbN:κ.base.Ns aX κ.glb
 bltN:κ.base.Ns builtinsNs κ.blt
 bltV:∀ x:Str,x≠"__name__"->κ.blt x=bootBuiltins x
 fns:∀ i k x,A8 i fnT=some k->SV i x->κ.glb x=some (.ref (κ.fA k))
 cls:∀ i k x,A8 i clT=some k->SV i x->κ.glb x=some (.ref (κ.clsA k))
 kin:κ.frag.In κ.base
 fobj:∀ k,k < 128->∃ o fd,κ.base.get? (κ.fA k)=some o/\o.data=.func fd
 cok:∀ k cl,H1.get k=some cl->A6i κ.frag (κ.clsA k)=true
 att:∀ k cl n x,H1.get k=some cl->n ∈ E8->SV n x->A6j κ.frag (κ.clsA k) x=true/\takerIn κ.frag (κ.clsA k) x=some none
 mth:∀ k cl n x f,H1.get k=some cl->A8 n cl.ms=some f->SV n x->f < 128/\findIn κ.frag (.ref (κ.clsA k)) x=some (some (.ref (κ.fA f)))/\typeIn κ.frag (.ref (κ.fA f))=some (.type "function")
 ini:∀ k cl f,H1.get k=some cl->cl.init=some f->findIn κ.frag (.ref (κ.clsA k)) "__init__"=some (some (.ref (κ.fA f)))/\typeIn κ.frag (.ref (κ.fA f))=some (.type "function")
noncomputable def H0 (c:Int×Int) (m:Nat):Int:=if 0 < c.1 then Int.fmod c.1 (m:Int) else Int.fmod (Int.fdiv (Int.fmod (c.2 * 6089 + 733) 1000033) 16) (m:Int)
noncomputable def D8 (c:Int×Int) (m:Nat):Int×Int:=if 0 < c.1 then (Int.fdiv c.1 (m:Int),c.2) else (c.1,Int.fmod (c.2 * 6089 + 733) 1000033)
structure D9 (κ:Kx) (c:Cx):Prop where
 asg:∀ k j,A8 k c.asg=some j->κ.rho k=(j:Int)
 many:∀ k (m:Nat),c.many[k]?=some m->0<=κ.rho k/\κ.rho k < (m:Int)
 wide:c.wide=κ.wide
 chw:∀ d,decide (0 < (κ.chs d).1)=κ.wide
 dr:∀ d m,c.many[d]?=some m->(0 < m/\m<=1000)/\κ.rho d=H0 (κ.chs d) m/\κ.chs (d + 1)=D8 (κ.chs d) m
structure B7 (A:aI) (f n:Nat):Prop where
 handled:A.handled=none
 depth:A.depth + 3 * f<=900
 units:A.units + 60 * f + n<=9000
theorem B7.line {A:aI} {f n:Nat} (g:B7 A f n):A.units + 200 < cLine:=by have:=g.units; show _ < 9900; omega
theorem B7.room {A:aI} {f n:Nat} (g:B7 A f n):A.depth < recursionLimit:=by have:=g.depth; show _ < 1000; omega
noncomputable abbrev VR (κ:Kx):W->V->Value->Prop:=λw v x=>w.vr κ v x
section
variable {κ:Kx} {A:aI} {w:W}
theorem K9 {v:V} {val:Value} {b:Bool} {es':St} (I:A7 κ w) (r:w.vr κ v val) (h:Mine.truthy v w.es=.ok b es'):
  es'=w.es/\∀ {Q:Bool->ak->Prop} {E:Value->ak->Prop},(∀ t,Q b { w.s with toks:=t })->wpAny κ.m A (PySem.truthy val) Q E w.s:=by
 unfold Mine.truthy at h
 induction r using A4.el with
 | none=>obtain ⟨rfl,rfl⟩:=A3 h; exact ⟨rfl,λq=>truthy_none (q _)⟩
 | bool x=>obtain ⟨rfl,rfl⟩:=A3 h; exact ⟨rfl,λq=>wpAny_truthy_bool (q _)⟩
 | @int i m t e=>
  cases i with
  | lit n=>
   obtain ⟨rfl,rfl⟩:=A3 h
   refine ⟨rfl,λq=>truthy_int ?_⟩
   have e':n=m:=e
   subst e'
   have:(n != 0)=!(eqZ n 0):=by
    unfold eqZ
    show (n != 0)=!(match n - 0 with | .ofNat k=>aA k 0 | .negSucc _=>false)
    rw [Int.sub_zero]
    induction n using Int.casesOn with
    | ofNat k=>induction k using aU<;>rfl
    | negSucc k=>rfl
   rw [this]; exact q _
  | _=>exact (A0 h).elim
 | @ref k a hk e=>
  refine gOn h λo h3 h2=>?_
  obtain ⟨_,ho⟩:=I.obj _ _ h3
  induction o using O.casesOn with
  | list l=>
   refine E2 ho λitems hl hlen hv=>?_; clear ho
   have hl:=hl.isList
   have hs:l.length=items.size:=by rw [hv.length,am]
   induction l using av with
   | nil=>
    obtain ⟨rfl,rfl⟩:=A3 h2
    refine ⟨rfl,λq=>?_⟩
    subst e
    refine wpAny_truthy_list hl (by omega) ?_
    have:items.isEmpty=true:=by rw [Array.isEmpty_iff_size_eq_zero]; exact hs.symm
    rw [this]; exact q _
   | cons a l=>
    obtain ⟨rfl,rfl⟩:=A3 h2
    refine ⟨rfl,λq=>?_⟩
    subst e
    refine wpAny_truthy_list hl (by omega) ?_
    have:items.isEmpty=false:=by
     induction hh:items.isEmpty using ao with
     | false=>rfl
     | true=>rw [Array.isEmpty_iff_size_eq_zero] at hh; rw [hh] at hs; simp at hs
    rw [this]; exact q _
  | dict l=>exact (A0 h2).elim
  | inst k l=>exact (A0 h2).elim
  | chest=>exact (A0 h2).elim
  | pair=>exact (A0 h2).elim
  | tab=>exact (A0 h2).elim
 | str _=>exact (A0 h).elim
 | sgn _=>exact (A0 h).elim
 | tup _ _ _ _ _ _=>exact (A0 h).elim
 | big _=>exact (A0 h).elim
 | opq _=>exact (A0 h).elim
 | scr=>exact (A0 h).elim
end
section
variable (κ:Kx) (rn:F5) (f n:Nat) (nm:List (Str×aK))
noncomputable def SX (cx:CX) (e:Expr):Prop:=∀ A c ev env w,B7 A f n->D9 κ c->A7 κ w->C8 κ w ev env->env.scope.names=nm->Sim κ A [] w (cx rn c ev) (eval e env) (VR κ)
noncomputable def ST (cx:CX) (e:Expr):Prop:=∀ A c ev env w,B7 A f n->D9 κ c->A7 κ w->C8 κ w ev env->env.scope.names=nm->Sim κ A [] w (λs=>bd (cx rn c ev s) Mine.truthy) (isTrue e env (eval e env)) (λ_ a b=>b=a)
noncomputable def SE (cx:CX) (e:Expr):Prop:=SX κ rn f n nm cx e/\ST κ rn f n nm cx e
end
section
variable {κ:Kx} {rn:F5} {f n:Nat} {nm:List (Str×aK)}
theorem ST.of_value {cx:CX} {e:Expr} (h:SX κ rn f n nm cx e) (he:∀ env whole,isTrue e env whole=(do let v <- whole; standAt e.pos; holding [v] (PySem.truthy v))):ST κ rn f n nm cx e:=by
 intro A c ev env w hA hc I r hn b es' hb
 refine A2 hb λv s1 h1 h2=>?_
 refine wpAny_isTrue_value (af (h A c ev env w hA hc I r hn v s1 h1) (λval s₁ p=>?_) λ_ _ x=>x) (he _ _)
 refine p.go λw₁ le inv hr e1 e2=>?_
 obtain ⟨e3,e4⟩:=K9 (A:=A) (w:=w₁) inv hr (by rw [e1]; exact h2)
 rw [e3]
 exact e4 λt=>A1.toks inv rfl
theorem SE.value {cx:CX} {e:Expr} (h:SX κ rn f n nm cx e) (he:∀ env whole,isTrue e env whole=(do let v <- whole; standAt e.pos; holding [v] (PySem.truthy v))):SE κ rn f n nm cx e:=⟨h,.of_value h he⟩
theorem C2c {k pos}:SE κ rn f n nm (H5 .none) (.Constant .none k pos):=
 SE.value (λA c ev env w hA hc I r hn v es' h=>by cases h; exact wpAny_Constant_none (A1.here I .none)) λ_ _=>rfl
theorem C3m {b k pos}:SE κ rn f n nm (H5 (.bool b)) (.Constant (.bool b) k pos):=
 SE.value (λA c ev env w hA hc I r hn v es' h=>by cases h; exact wpAny_Constant_bool (A1.here I (.bool b))) λ_ _=>rfl
theorem A8v {i k pos}:SE κ rn f n nm (H5 (.int (.lit i))) (.Constant (.int i) k pos):=
 SE.value (λA c ev env w hA hc I r hn v es' h=>by cases h; exact wpAny_Constant_int (A1.toks I (.int rfl))) λ_ _=>rfl
theorem C9s {m:Nat} {x:Str} {k pos} (hx:SV m x):SE κ rn f n nm (H5 (.str m)) (.Constant (.str x) k pos):=
 SE.value (λA c ev env w hA hc I r hn v es' h=>by cases h; exact wpAny_Constant_str (A1.toks I (.str hx))) λ_ _=>rfl
theorem A4m {i:Nat} {x:Str} {pos} (hx:SV i x) (hk:nm.lookup x=some .local) (hd:(x == ("__debug__":Str))=false):SE κ rn f n nm (W5 i) (.Name x pos):=
 SE.value (λA c ev env w hA hc I r hn v es' h=>by
  obtain ⟨h1,rfl⟩:=D6 h
  refine C5 r.ns λm hm hv=>?_
  refine C5 (hv i v x h1 hx) λval h2 h3=>?_
  exact wpAny_Name (wpAny_loadName_local r.kind (by unfold Env.kindOf; rw [hn]; exact hk) hm h2 (A1.here I h3)) hd) λ_ _=>rfl
theorem D1u {i:Nat} {x:Str} {pos} (hx:SV i x) (hk:nm.lookup x=some .cell∨nm.lookup x=some .free) (hd:(x == ("__debug__":Str))=false) (hd':(x == ("__classdict__":Str))=false):SE κ rn f n nm (E6a i) (.Name x pos):=
 SE.value (λA c ev env w hA hc I r hn v es' h=>by
  obtain ⟨h1,rfl⟩:=D6 h
  refine P1 (r.cell i v x h1 hx (by rw [hn]; exact hk)) λca val h2 h3 h4=>?_
  rcases hk with hk | hk
  ·exact wpAny_Name (wpAny_loadName_cell r.kind (by unfold Env.kindOf; rw [hn]; exact hk) h2 h3 (A1.here I h4)) hd
  ·exact wpAny_Name (wpAny_loadName_free r.kind (by unfold Env.kindOf; rw [hn]; exact hk) h2 h3 (A1.here I h4) hd') hd) λ_ _=>rfl
theorem D4x (K:U8 κ) {i:Nat} {x:Str} {pos} {v₀:V} (hg:A8 i glT=some v₀) (hx:SV i x) (hk:nm.lookup x=some .globalImplicit) (hd:(x == ("__debug__":Str))=false):SE κ rn f n nm (H5 v₀) (.Name x pos):=
 SE.value (λA c ev env w hA hc I r hn v es' h=>by
  cases h
  refine C5 (r.gl i _ x hg hx) λval h2 h3=>?_
  exact Calls.Name_function_global r.kind (by unfold Env.kindOf; rw [hn]; exact hk) (Calls.loadGlobal_global (mg:=κ.glb) (by rw [r.glob]; exact K.glbN.keeps I.base) h2 (A1.here I h3)) hd) λ_ _=>rfl
theorem D2g {a:CX} {e:Expr} {pos} (h:SE κ rn f n nm a e):SE κ rn f n nm (E8w a) (.UnaryOp .Not e pos):=by
 refine ⟨λA c ev env w hA hc I r hn v es' hv=>?_,λA c ev env w hA hc I r hn v es' hv=>?_⟩
 ·refine A2 hv λx s1 h1 h2=>?_
  refine A2 h2 λy s2 h3 h4=>?_
  cases h4
  refine wpAny_UnaryOp (af (h.1 A c ev env w hA hc I r hn x s1 h1) (λval s₁ p=>?_) λ_ _ x=>x)
  refine p.go λw₁ le inv hr e1 e2=>not_value ?_
  obtain ⟨e3,e4⟩:=K9 (A:=A) (w:=w₁) inv hr (by rw [e1]; exact h3)
  rw [e3]
  exact e4 λt=>A1.toks inv (.bool _)
 ·refine A2 hv λx s1 h1 h2=>?_
  refine A2 h1 λx' s1' h5 h6=>?_
  refine A2 h6 λy s2 h3 h4=>?_
  cases h4
  have hb:(λs=>bd (a rn c ev s) Mine.truthy) w.es=.ok y s1:=by
   show bd (a rn c ev w.es) Mine.truthy=_
   rw [h5]; exact h3
  obtain ⟨e1,e2⟩:=A3 h2
  rw [e1,e2]
  refine wpAny_isTrue_Not (af (h.2 A c ev env w hA hc I r hn y s1 hb) (λb s₁ p=>?_) λ_ _ x=>x)
  exact p.mono (λ_ h=>.inl h) λw₁ le inv hr=>congrArg (!·) hr
end
noncomputable def bop (op:BoolOp) (y:Expr) (r:List Expr) (pos:Pos):Expr:=match r with
 | []=>y
 | z::l=>.BoolOp op (y::z::l) pos
theorem A6d (op:BoolOp) (x y:Expr) (r:List Expr) (pos:Pos) (env:PySem.Env):eval (.BoolOp op (x::y::r) pos) env=(do
  let v <- eval x env
  standAt pos
  let t <- holding [v] (PySem.truthy v)
  match op,t with
  | .And,false | .Or,true=>pure v
  | _,_=>eval (bop op y r pos) env):=by induction r using av<;>rfl
theorem A3e {v:V} {s s':St} {b:Bool} (h:Mine.truthy v s=.ok b s'):s'=s:=by
 unfold Mine.truthy at h
 induction v using V.casesOn with
 | none=>exact (A3 h).2
 | bool x=>exact (A3 h).2
 | int i=>induction i using I.casesOn<;>first | exact (A3 (s:=s) h).2 | exact (A0 (s:=s) h).elim
 | ref k=>
  refine B8 h λo s1 h1 h2=>?_
  obtain ⟨_,rfl⟩:=Q4 h1
  induction o using O.casesOn with
  | list l=>induction l using av<;>exact (A3 h2).2
  | _=>exact (A0 (s:=s1) h2).elim
 | _=>exact (A0 (s:=s) h).elim
section
variable {κ:Kx} {A:aI} {X:List Addr} {w:W} {t:Nat}
theorem A1.ofToks {β:Type} {es:St} {R:W->β->Prop} {t:Sem β} {tk:Nat} (h:wpAny κ.m A t (A1 κ X ⟨w.φ,w.es,{ w.s with toks:=tk }⟩ es R) D1 { w.s with toks:=tk }):wpAny κ.m A t (A1 κ X w es R) D1 { w.s with toks:=tk }:=
 af h (λ_ _ p=>let ⟨φ',l',i',r'⟩:=p; ⟨φ',(Le.toks tk).comp l',i',r'⟩) λ_ _ x=>x
end
section
variable {κ:Kx} {rn:F5} {f n:Nat} {nm:List (Str×aK)}
theorem SX.after {b:CX} {e:Expr} (hb:SX κ rn f n nm b e) {A:aI} {c:Cx} {ev:Mine.Env} {env:PySem.Env} {w:W} (hA:B7 A f n) (hc:D9 κ c) (I:A7 κ w) (r:C8 κ w ev env) (hn:env.scope.names=nm) (tk:Nat)
  {v:V} {es':St} (h:b rn c ev w.es=.ok v es'):wpAny κ.m A (eval e env) (A1 κ [] w es' λw' x=>w'.vr κ v x) D1 { w.s with toks:=tk }:=
 A1.ofToks (hb A c ev env ⟨w.φ,w.es,{ w.s with toks:=tk }⟩ hA hc (I.toks tk) (r.le (Le.toks tk)) hn v es' h)
theorem ST.after {b:CX} {e:Expr} (hb:ST κ rn f n nm b e) {A:aI} {c:Cx} {ev:Mine.Env} {env:PySem.Env} {w:W} (hA:B7 A f n) (hc:D9 κ c) (I:A7 κ w) (r:C8 κ w ev env) (hn:env.scope.names=nm)
  {y:Bool} {es':St} {v:V} {s1:St} (h:b rn c ev w.es=.ok v s1) (h':Mine.truthy v s1=.ok y es'):wpAny κ.m A (isTrue e env (eval e env)) (A1 κ [] w es' λ_ x=>x=y) D1 w.s:=
 hb A c ev env w hA hc I r hn y es' (by show bd (b rn c ev w.es) _=_; rw [h]; exact h')
theorem D0b {a b:CX} {x y:Expr} {r:List Expr} {pos} (ha:SE κ rn f n nm a x) (hb:SE κ rn f n nm b (bop .And y r pos)):SE κ rn f n nm (E6o a b) (.BoolOp .And (x::y::r) pos):=by
 refine ⟨λA c ev env w hA hc I rr hn v es' hv=>?_,λA c ev env w hA hc I rr hn v es' hv=>?_⟩
 ·refine A2 hv λv1 s1 h1 h2=>?_
  refine A2 h2 λt s2 h3 h4=>?_
  rw [A6d]
  refine ab (af (ha.1 A c ev env w hA hc I rr hn v1 s1 h1) (λval s₁ p=>?_) λ_ _ x=>x)
  refine p.go λw₁ le inv hr e1 e2=>ab (aZ (ab (aF ?_)))
  obtain ⟨e3,e4⟩:=K9 (A:=A) (w:=w₁) inv hr (by rw [e1]; exact h3)
  refine e4 λtk=>?_
  cases t with
  | false=>
   cases h4
   rw [e3]
   exact ag (A1.toks inv hr)
  | true=>exact hb.1.after hA hc inv (rr.le le) hn tk (by rw [<- e3]; exact h4)
 ·refine A2 hv λv' s' h0 h5=>?_
  refine A2 h0 λv1 s1 h1 h2=>?_
  refine A2 h2 λt s2 h3 h4=>?_
  have e2:=A3e h3
  subst e2
  refine wpAny_isTrue_BoolOp (wpAny_allTrue_And_cons (af (ha.2.after hA hc I rr hn h1 h3) (λt' s₁ p=>?_) λ_ _ x=>x))
  cases t with
  | false=>
   cases h4
   rw [h3] at h5
   cases h5
   obtain ⟨φ',le,inv,hr⟩:=p
   cases hr
   exact ⟨φ',le,inv,rfl⟩
  | true=>
   have h4':b rn c ev s2=.ok v' s':=h4
   have hr:t'=true:=by obtain ⟨_,_,_,q⟩:=p; exact q
   subst hr
   refine p.go λw₁ le inv _ e1 e2=>?_
   rw [<- e1] at h4'
   have q:=hb.2.after hA hc inv (rr.le le) hn h4' h5
   induction r using av with
   | nil=>exact wpAny_allTrue_And_cons (af q (λt'' s'' p'=>by
     induction t'' using ao with
     | false=>exact p'
     | true=>exact wpAny_allTrue_And_nil p') λ_ _ x=>x)
   | cons z l=>exact q
theorem D8z {a b:CX} {x y:Expr} {r:List Expr} {pos} (ha:SE κ rn f n nm a x) (hb:SE κ rn f n nm b (bop .Or y r pos)):SE κ rn f n nm (cOr a b) (.BoolOp .Or (x::y::r) pos):=by
 refine ⟨λA c ev env w hA hc I rr hn v es' hv=>?_,λA c ev env w hA hc I rr hn v es' hv=>?_⟩
 ·refine A2 hv λv1 s1 h1 h2=>?_
  refine A2 h2 λt s2 h3 h4=>?_
  rw [A6d]
  refine ab (af (ha.1 A c ev env w hA hc I rr hn v1 s1 h1) (λval s₁ p=>?_) λ_ _ x=>x)
  refine p.go λw₁ le inv hr e1 e2=>ab (aZ (ab (aF ?_)))
  obtain ⟨e3,e4⟩:=K9 (A:=A) (w:=w₁) inv hr (by rw [e1]; exact h3)
  refine e4 λtk=>?_
  cases t with
  | true=>
   cases h4
   rw [e3]
   exact ag (A1.toks inv hr)
  | false=>exact hb.1.after hA hc inv (rr.le le) hn tk (by rw [<- e3]; exact h4)
 ·refine A2 hv λv' s' h0 h5=>?_
  refine A2 h0 λv1 s1 h1 h2=>?_
  refine A2 h2 λt s2 h3 h4=>?_
  have e2:=A3e h3
  subst e2
  refine wpAny_isTrue_BoolOp (wpAny_allTrue_Or_cons (af (ha.2.after hA hc I rr hn h1 h3) (λt' s₁ p=>?_) λ_ _ x=>x))
  cases t with
  | true=>
   cases h4
   rw [h3] at h5
   cases h5
   obtain ⟨φ',le,inv,hr⟩:=p
   cases hr
   exact ⟨φ',le,inv,rfl⟩
  | false=>
   have h4':b rn c ev s2=.ok v' s':=h4
   have hr:t'=false:=by obtain ⟨_,_,_,q⟩:=p; exact q
   subst hr
   refine p.go λw₁ le inv _ e1 e2=>?_
   rw [<- e1] at h4'
   have q:=hb.2.after hA hc inv (rr.le le) hn h4' h5
   induction r using av with
   | nil=>exact wpAny_allTrue_Or_cons (af q (λt'' s'' p'=>by
     induction t'' using ao with
     | true=>exact p'
     | false=>exact wpAny_allTrue_Or_nil p') λ_ _ x=>x)
   | cons z l=>exact q
theorem B6q {t a b:CX} {x y z:Expr} {pos} (ht:SE κ rn f n nm t x) (ha:SE κ rn f n nm a y) (hb:SE κ rn f n nm b z):SE κ rn f n nm (A8c t a b) (.IfExp x y z pos):=by
 refine ⟨λA c ev env w hA hc I rr hn v es' hv=>?_,λA c ev env w hA hc I rr hn v es' hv=>?_⟩
 ·refine A2 hv λv1 s1 h1 h2=>?_
  refine A2 h2 λk s2 h3 h4=>?_
  refine wpAny_IfExp (af (ht.2.after hA hc I rr hn h1 h3) (λk' s₁ p=>?_) λ_ _ x=>x)
  have hr:k'=k:=by obtain ⟨_,_,_,q⟩:=p; exact q
  subst hr
  induction k' using ao with
  | true=>exact p.go λw₁ le inv _ e1 e2=>ha.1 A c ev env w₁ hA hc inv (rr.le le) hn v es' (by rw [e1]; exact h4)
  | false=>exact p.go λw₁ le inv _ e1 e2=>hb.1 A c ev env w₁ hA hc inv (rr.le le) hn v es' (by rw [e1]; exact h4)
 ·refine A2 hv λv' s' h0 h5=>?_
  refine A2 h0 λv1 s1 h1 h2=>?_
  refine A2 h2 λk s2 h3 h4=>?_
  show wpAny κ.m A (isTrue x env (eval x env) >>= λc=>if c=true then isTrue y env (eval y env) else isTrue z env (eval z env)) _ _ _
  refine ab (af (ht.2.after hA hc I rr hn h1 h3) (λk' s₁ p=>?_) λ_ _ x=>x)
  have hr:k'=k:=by obtain ⟨_,_,_,q⟩:=p; exact q
  subst hr
  induction k' using ao with
  | true=>exact p.go λw₁ le inv _ e1 e2=>ha.2.after hA hc inv (rr.le le) hn (by rw [e1]; exact h4) h5
  | false=>exact p.go λw₁ le inv _ e1 e2=>hb.2.after hA hc inv (rr.le le) hn (by rw [e1]; exact h4) h5
end
end
end Mine
set_option maxRecDepth 100000
namespace Mine
open PySem PySem.W PyProof.Rows PySem.SeqAt
noncomputable section
theorem E1 {α:Type} (b:Bool) (x y:α):D5 b x y=if b=true then x else y:=by induction b using ao<;>rfl
theorem E0 (a b:Int):leI a b=true↔a<=b:=by
 show (match b - a with | .ofNat _=>true | .negSucc _=>false)=true↔Int.NonNeg (b - a)
 cases b - a with
 | ofNat n=>exact ⟨λ_=>.mk n,λ_=>rfl⟩
 | negSucc n=>exact ⟨λh=>ff h,λh=>nomatch h⟩
theorem N2 (a b:Int):ltZ a b=true↔a < b:=by
 unfold ltZ
 show (match a - b with | .ofNat _=>false | .negSucc _=>true)=true↔_
 cases h:a - b with
 | ofNat n=>exact ⟨λh=>ff h,λq=>absurd (Int.sub_neg_of_lt q) (Int.not_lt.mpr (h ▸ bW n))⟩
 | negSucc n=>exact ⟨λ_=>Int.lt_of_sub_neg (h ▸ Int.negSucc_lt_zero n),λ_=>rfl⟩
theorem L6 (a b:Int):eqZ a b=true↔a=b:=by
 unfold eqZ
 show (match a - b with | .ofNat n=>aA n 0 | .negSucc _=>false)=true↔_
 cases h:a - b with
 | ofNat n=>exact ⟨λq=>Int.eq_of_sub_eq_zero (h.trans (congrArg aQ (aw q))),λq=>by rw [q,Int.sub_self] at h; cases h; rfl⟩
 | negSucc n=>exact ⟨λh=>ff h,λq=>by rw [q,Int.sub_self] at h; cases h⟩
theorem A5e (a b:Int):mn a b<=a/\mn a b<=b:=by
 unfold mn; rw [E1]
 by_cases h:leI a b=true
 ·rw [if_pos h]; exact ⟨Int.le_refl _,(E0 a b).mp h⟩
 ·rw [if_neg h]; exact ⟨Int.le_of_lt (Int.not_le.mp λq=>h ((E0 a b).mpr q)),Int.le_refl _⟩
theorem A7h (a b:Int):a<=mx a b/\b<=mx a b:=by
 unfold mx; rw [E1]
 by_cases h:leI a b=true
 ·rw [if_pos h]; exact ⟨(E0 a b).mp h,Int.le_refl _⟩
 ·rw [if_neg h]; exact ⟨Int.le_refl _,Int.le_of_lt (Int.not_le.mp λq=>h ((E0 a b).mpr q))⟩
theorem btw {a b x:Int} (h:(a<=x/\x<=b)∨(b<=x/\x<=a)):mn a b<=x/\x<=mx a b:=
 h.elim (λh=>⟨aN (A5e a b).1 h.1,aN h.2 (A7h a b).2⟩) λh=>⟨aN (A5e a b).2 h.1,aN h.2 (A7h a b).1⟩
theorem A9k {c p q y:Int} (h3:p<=y) (h4:y<=q):mn (c * p) (c * q)<=c * y/\c * y<=mx (c * p) (c * q):=
 btw ((Int.le_total 0 c).imp (λh=>⟨Int.mul_le_mul_of_nonneg_left h3 h,Int.mul_le_mul_of_nonneg_left h4 h⟩) λh=>⟨Int.mul_le_mul_of_nonpos_left h h4,Int.mul_le_mul_of_nonpos_left h h3⟩)
theorem A6o {a b x p q y:Int} (h1:a<=x) (h2:x<=b) (h3:p<=y) (h4:y<=q):
  mn (mn (a * p) (a * q)) (mn (b * p) (b * q))<=x * y/\x * y<=mx (mx (a * p) (a * q)) (mx (b * p) (b * q)):=by
 have l:=A5e (mn (a * p) (a * q)) (mn (b * p) (b * q))
 have g:=A7h (mx (a * p) (a * q)) (mx (b * p) (b * q))
 have ay:=A9k (c:=a) h3 h4
 have by_:=A9k (c:=b) h3 h4
 rcases Int.le_total 0 y with h | h
 ·exact ⟨aN l.1 (aN ay.1 (Int.mul_le_mul_of_nonneg_right h1 h)),aN (Int.mul_le_mul_of_nonneg_right h2 h) (aN by_.2 g.2)⟩
 ·exact ⟨aN l.2 (aN by_.1 (Int.mul_le_mul_of_nonpos_right h2 h)),aN (Int.mul_le_mul_of_nonpos_right h1 h) (aN ay.2 g.1)⟩
theorem E6 {α β:Type} {o:Option α} {k:α->Option β} {b:β} {G:Prop} (h:bO o k=some b) (m:∀ a,o=some a->k a=some b->G):G:=by
 induction o using ae with
 | none=>cases h
 | some a=>exact m a rfl h
theorem l7 {α:Type} {b:Bool} {x y:Option α} {z:α} {G:Prop} (h:D5 b x y=some z) (p:b=true->x=some z->G) (q:b=false->y=some z->G):G:=by
 induction b using ao
 ·exact q rfl h
 ·exact p rfl h
theorem J9 {α:Type} {P:I->α->Prop} {j:I} {k:Int->α} {d:I->α} (a:∀ n,P (.lit n) (k n)) (b:∀ j,P j (d j)):P j (iL j k d):=by
 induction j using I.casesOn with
 | lit n=>exact a n
 | _=>exact b _
theorem C8j {α:Type} {P:I->α->Prop} {j:I} {k:Nat->α} {d:I->α} (a:∀ n,P (.var n) (k n)) (b:∀ j,P j (d j)):P j (iV j k d):=by
 induction j using I.casesOn with
 | var n=>exact a n
 | _=>exact b _
theorem B0w {α:Type} {P:I->α->Prop} {j:I} {k:I->Int->α} {d:I->α} (a:∀ x n,P (.off x n) (k x n)) (b:∀ j,P j (d j)):P j (iO j k d):=by
 induction j using I.casesOn with
 | off x n=>exact a x n
 | _=>exact b _
theorem E8d {P:I->Prop} {j k} (h:iA j k=true) (m:∀ a b,k a b=true->P (.add a b)):P j:=by
 induction j using I.casesOn with
 | add a b=>exact m a b h
 | _=>exact ff h
theorem E2m {P:I->Prop} {j k} (h:iS j k=true) (m:∀ a b,k a b=true->P (.sub a b)):P j:=by
 induction j using I.casesOn with
 | sub a b=>exact m a b h
 | _=>exact ff h
theorem E6g {P:I->Prop} {j k} (h:iM j k=true) (m:∀ a b,k a b=true->P (.mul a b)):P j:=by
 induction j using I.casesOn with
 | mul a b=>exact m a b h
 | _=>exact ff h
theorem E5f {P:I->Prop} {j k} (h:iE j k=true) (m:∀ n a b c,k n a b c=true->P (.sel n a b c)):P j:=by
 induction j using I.casesOn with
 | sel n a b c=>exact m n a b c h
 | _=>exact ff h
section
variable {κ:Kx} {c:Cx}
theorem K3 (hc:D9 κ c) {i:I}:∀ {p:Int×Int},rng c i=some p->p.1<=i.val κ.rho/\i.val κ.rho<=p.2:=by
 induction i with
 | lit n=>exact λh=>ac h ▸ ⟨Int.le_refl _,Int.le_refl _⟩
 | var k=>exact λh=>E6 h λm hm h=>ac h ▸ ⟨(hc.many k m hm).1,Int.le_sub_one_of_lt (hc.many k m hm).2⟩
 | off x k ih=>exact λh=>E6 h λa ha h=>ac h ▸ ⟨Int.add_le_add_right (ih ha).1 k,Int.add_le_add_right (ih ha).2 k⟩
 | add x y ih1 ih2=>exact λh=>E6 h λa ha h=>E6 h λb hb h=>ac h ▸ ⟨Int.add_le_add (ih1 ha).1 (ih2 hb).1,Int.add_le_add (ih1 ha).2 (ih2 hb).2⟩
 | sub x y ih1 ih2=>exact λh=>E6 h λa ha h=>E6 h λb hb h=>ac h ▸ ⟨Int.sub_le_sub (ih1 ha).1 (ih2 hb).2,Int.sub_le_sub (ih1 ha).2 (ih2 hb).1⟩
 | mul x y ih1 ih2=>exact λh=>E6 h λa ha h=>E6 h λb hb h=>ac h ▸ A6o (ih1 ha).1 (ih1 ha).2 (ih2 hb).1 (ih2 hb).2
 | sel k x y z ih1 ih2 ih3=>
  intro p h
  refine E6 h λa ha h=>E6 h λb hb h=>E6 h λd hd h=>ac h ▸ ?_
  have l1:=A5e a.1 (mn b.1 d.1)
  have l2:=A5e b.1 d.1
  have g1:=A7h a.2 (mx b.2 d.2)
  have g2:=A7h b.2 d.2
  show _<=(if κ.rho k=0 then x.val κ.rho else if κ.rho k=1 then y.val κ.rho else z.val κ.rho)/\(if κ.rho k=0 then x.val κ.rho else if κ.rho k=1 then y.val κ.rho else z.val κ.rho)<=_
  by_cases h0:κ.rho k=0
  ·rw [if_pos h0]; exact ⟨aN l1.1 (ih1 ha).1,aN (ih1 ha).2 g1.1⟩
  ·rw [if_neg h0]
   by_cases h1:κ.rho k=1
   ·rw [if_pos h1]; exact ⟨aN (aN l1.2 l2.1) (ih2 hb).1,aN (ih2 hb).2 (aN g2.1 g1.2)⟩
   ·rw [if_neg h1]; exact ⟨aN (aN l1.2 l2.2) (ih3 hd).1,aN (ih3 hd).2 (aN g2.2 g1.2)⟩
theorem D7w (hc:D9 κ c) {i j:I} {b:Bool} (h:ltI c i j=some b):decide (i.val κ.rho < j.val κ.rho)=b:=E6 h λ_ hx h=>E6 h λ_ hy h=>l7 h (λh3 h=>ac h ▸ decide_eq_true (Int.lt_of_le_of_lt (K3 hc hx).2 (Int.lt_of_lt_of_le ((N2 _ _).mp h3) (K3 hc hy).1)))
 λ_ h=>l7 h (λh4 h=>ac h ▸ decide_eq_false (Int.not_lt.mpr (aN (K3 hc hy).2 (aN ((E0 _ _).mp h4) (K3 hc hx).1)))) λ_ h=>nomatch h
theorem cg2 {f:Int->Int->Int} {a b c d:Int} (h:a=b) (h':c=d):f a c=f b d:=h ▸ h' ▸ rfl
theorem F7c (r:Nat->Int) {k m:Nat} {a b d x y z:Int} (e:k=m) (p:a=x) (q:b=y) (s:d=z):(if r k=0 then a else if r k=1 then b else d)=if r m=0 then x else if r m=1 then y else z:=by subst e p q s; rfl
theorem C4e (r:Nat->Int) {i:I}:∀ {j:I},E6s i j=true->i.val r=j.val r:=by
 induction i with
 | lit a=>exact λ{j}=>J9 (P:=λj b=>b=true->a=j.val r) (λb h=>(L6 a b).mp h) λ_ h=>ff h
 | var a=>exact λ{j}=>C8j (P:=λj b=>b=true->r a=j.val r) (λb h=>congrArg r (aw h)) λ_ h=>ff h
 | off a k ih=>exact λ{j}=>B0w (P:=λj b=>b=true->a.val r + k=j.val r) (λb l h=>b2 h λp q=>(congrArg (· + k) (ih q)).trans (congrArg (b.val r + ·) ((L6 _ _).mp p))) λ_ h=>ff h
 | add _ _ p q=>exact λh=>E8d (P:=λj=>_=j.val r) h λa b h=>b2 h λx y=>cg2 (f:=λx y:Int=>x + y) (p x) (q y)
 | sub _ _ p q=>exact λh=>E2m (P:=λj=>_=j.val r) h λa b h=>b2 h λx y=>cg2 (f:=λx y:Int=>x - y) (p x) (q y)
 | mul _ _ p q=>exact λh=>E6g (P:=λj=>_=j.val r) h λa b h=>b2 h λx y=>cg2 (f:=λx y:Int=>x * y) (p x) (q y)
 | sel k a b d p q s=>exact λh=>E5f (P:=λj=>(I.sel k a b d).val r=j.val r) h λm x y z h=>b4 h λe1 e2 e3 e4=>F7c r (aw e1) (p e2) (q e3) (s e4)
theorem D4z (hc:D9 κ c) {i j:I} {b:Bool} (h:eqI c i j=some b):(i.val κ.rho == j.val κ.rho)=b:=l7 h (λh1 h=>ac h ▸ beq_iff_eq.mpr (C4e κ.rho h1))
 λ_ h=>E6 h λ_ hx h=>E6 h λ_ hy h=>l7 h (λh3 h=>ac h ▸ beq_eq_false_iff_ne.mpr ((Z4 h3).elim (λz=>Int.ne_of_lt (Int.lt_of_le_of_lt (K3 hc hx).2 (Int.lt_of_lt_of_le ((N2 _ _).mp z) (K3 hc hy).1))) λz=>Int.ne_of_gt (Int.lt_of_le_of_lt (K3 hc hy).2 (Int.lt_of_lt_of_le ((N2 _ _).mp z) (K3 hc hx).1)))) λ_ h=>nomatch h
theorem A7b (hc:D9 κ c) {k s:Nat} {b:Bool} (h:B1o c k s=some b):aA (sgc (κ.rho k)) s=b:=by
 unfold B1o at h
 split at h
 ·rename_i j hj
  have:=hc.asg k j hj
  unfold sgc
  rw [this]
  match j,h with
  | 0,h=>simpa using h
  | 1,h=>simpa using h
  | 2,h=>simpa using h
  | j + 3,h=>simp at h
 ·rename_i hj
  cases hs:(aA s 43 || aA s 45 || aA s 42) with
  | true=>rw [hs] at h; cases h
  | false=>
   rw [hs] at h
   cases h
   simp only [Bool.or_eq_false_iff] at hs
   have f:∀ m:Nat,aA s m=false->aA m s=false:=λm hm=>by
    induction hh:aA m s using ao with
    | false=>rfl
    | true=>have:=aw hh; subst this; rw [Nat.beq_refl] at hm; cases hm
   unfold sgc
   split
   ·exact f _ hs.1.1
   ·split
    ·exact f _ hs.1.2
    ·exact f _ hs.2
end
theorem SV.beq {m n:Nat} {x y:Str} (hx:SV m x) (hy:SV n y):(x == y)=aA m n:=by
 induction h:aA m n using ao with
 | true=>
  have:=aw h
  subst this
  rw [hx.inj hy]; simp
 | false=>
  rw [beq_eq_false_iff_ne]
  rintro rfl
  have:=hx.inj_n hy
  subst this
  rw [Nat.beq_refl] at h; cases h
theorem i4 {a b:Option Bool} {r:Bool} (h:B9v a b=some r):∃ x y,a=some x/\b=some y/\r=(x && y):=by
 induction a using ae with
 | none=>cases h
 | some x=>induction b using ae with
  | none=>cases h
  | some y=>cases h; exact ⟨x,y,rfl,rfl,by induction x using ao<;>rfl⟩
theorem B7t {a b:Option Bool} {r:Bool} (h:orO a b=some r):∃ x y,a=some x/\b=some y/\r=(x || y):=by
 induction a using ae with
 | none=>cases h
 | some x=>induction b using ae with
  | none=>cases h
  | some y=>cases h; exact ⟨x,y,rfl,rfl,by induction x using ao<;>rfl⟩
end
end Mine
set_option maxRecDepth 100000
set_option maxHeartbeats 4000000
namespace Mine
open PySem PySem.W PyProof.Rows PySem.SeqAt
noncomputable section
section
variable {κ:Kx} {c:Cx} {w:W}
theorem B0 {a:Addr} {o:Obj} {items:Array Value} {e:Nat} {h:Heap} (ho:h.get? a=some o) (hc:o.cls=.type "tuple") (hd:o.data=.seq items e):h.IsTuple a items:=⟨o,ho,hc,e,hd⟩
theorem U6 {α:Type} {a:α} {P:Prop} (h:(none:Option α)=some a):P:=nomatch h
theorem B3f {x y:Option O} {r:Bool} (h:E9h x y=some r):∃ l m,x=some (.list l)/\y=some (.list m)/\B9n l m=some r:=by
 induction x using ae with
 | none=>exact U6 h
 | some x=>induction x using O.casesOn with
  | list l=>induction y using ae with
   | none=>exact U6 h
   | some y=>induction y using O.casesOn with
    | list m=>exact ⟨_,_,rfl,rfl,h⟩
    | _=>exact U6 h
  | _=>exact U6 h
theorem A3q (hc:D9 κ c) {n:Nat} {a b:V} {x y:Value} {r:Bool} {P:Value->Value->Bool->Prop} (h:eqD c w.es.t (n + 1) a b=some r) (ra:w.vr κ a x) (rb:w.vr κ b y)
  (nn:P .none .none true) (ns:∀ s t,P .none (.str s t) false) (ni:∀ m t,P .none (.int m t) false) (sn:∀ s t,P (.str s t) .none false) (zn:∀ m t,P (.int m t) .none false)
  (nt:∀ {p items},w.h.IsTuple p items->P .none (.ref p) false) (tn:∀ {p items},w.h.IsTuple p items->P (.ref p) .none false) (it:∀ {p items} m t,w.h.IsTuple p items->P (.int m t) (.ref p) false) (ti:∀ {p items} m t,w.h.IsTuple p items->P (.ref p) (.int m t) false) (bt:∀ {p items} d,w.h.IsTuple p items->P (.bool d) (.ref p) false)
  (bb:∀ d e,P (.bool d) (.bool e) (d == e)) (ii:∀ m t k u,P (.int m t) (.int k u) (m == k)) (ss:∀ s t z u,P (.str s t) (.str z u) (s == z))
  (rr:∀ {k k' p q l m},k < w.n->w.φ k=p->k' < w.n->w.φ k'=q->w.es.t.get k=some (.list l)->w.es.t.get k'=some (.list m)->B9n l m=some r->P (.ref p) (.ref q) r)
  (tt:∀ {l m p q o o' items items' e e'},w.h.get? p=some o->o.cls=.type "tuple"->o.data=.seq items e->w.vrs κ l items.toList->w.h.get? q=some o'->o'.cls=.type "tuple"->o'.data=.seq items' e'->w.vrs κ m items'.toList->eqDs c w.es.t n l m=some r->P (.ref p) (.ref q) r):P x y r:=by
 induction ra using A4.el with
 | none=>
  induction rb using A4.el with
  | none=>exact ac h ▸ nn
  | tup ho hcl hd hn hl hv=>exact ac h ▸ nt (B0 ho hcl hd)
  | str e=>exact ac h ▸ ns _ _
  | int e=>exact ac h ▸ ni _ _
  | _=>exact U6 h
 | bool p=>
  induction rb using A4.el with
  | bool q=>
   have e:(p == q)=r:=ac ((show some (p == q)=some (D5 p q (not q)) by induction p using ao<;>induction q using ao<;>rfl).trans h)
   exact e ▸ bb p q
  | tup ho hcl hd hn hl hv=>exact ac h ▸ bt _ (B0 ho hcl hd)
  | _=>exact U6 h
 | int e=>
  induction rb using A4.el with
  | int e'=>have q:=D4z hc h; rw [e,e'] at q; exact q ▸ ii _ _ _ _
  | tup ho hcl hd hn hl hv=>exact ac h ▸ it _ _ (B0 ho hcl hd)
  | none=>exact ac h ▸ zn _ _
  | _=>exact U6 h
 | str e=>
  induction rb using A4.el with
  | str e'=>exact (e.beq e').trans (ac h) ▸ ss _ _ _ _
  | sgn e'=>exact (BEq.comm.trans (e'.beq e)).trans (A7b hc h) ▸ ss _ _ _ _
  | none=>exact ac h ▸ sn _ _
  | _=>exact U6 h
 | sgn e=>
  induction rb using A4.el with
  | str e'=>exact (e.beq e').trans (A7b hc h) ▸ ss _ _ _ _
  | _=>exact U6 h
 | ref hk e=>
  induction rb using A4.el with
  | ref hk' e'=>exact P1 (B3f h) λl m h1 h2 h3=>rr hk e hk' e' h1 h2 h3
  | _=>exact U6 h
 | tup ho hcl hd hn hl hv=>
  induction rb using A4.el with
  | none=>exact ac h ▸ tn (B0 ho hcl hd)
  | int e'=>exact ac h ▸ ti _ _ (B0 ho hcl hd)
  | tup ho' hcl' hd' hn' hl' hv'=>exact tt ho hcl hd hv ho' hcl' hd' hv' h
  | _=>exact U6 h
 | big _=>induction rb using A4.el<;>exact U6 h
 | opq _=>induction b using V.casesOn<;>exact U6 h
 | scr=>induction b using V.casesOn<;>exact U6 h
theorem A2o {l:List V} {r:Bool} (h:B9n l l=some r):r=true:=by
 induction l using av with
 | nil=>exact (ac h).symm
 | cons _ _=>exact U6 h
theorem B1v (hc:D9 κ c) (I:A7 κ w):∀ n:Nat,(∀ (a b:V) (x:Value) (r:Bool),eqD c w.es.t n a b=some r->w.vr κ a x->w.vr κ b x->r=true)/\
  (∀ (l m:List V) (xs:List Value) (r:Bool),eqDs c w.es.t n l m=some r->w.vrs κ l xs->w.vrs κ m xs->r=true):=by
 intro n
 induction n with
 | zero=>exact ⟨λ_ _ _ _ h=>U6 h,λ_ _ _ _ h=>U6 h⟩
 | succ n ih=>
  refine ⟨λa b x r h ra rb=>A3q (P:=λx y r=>x=y->r=true) hc h ra rb (λ_=>rfl) (λ_ _ q=>nomatch q) (λ_ _ q=>nomatch q) (λ_ _ q=>nomatch q) (λ_ _ q=>nomatch q) (λ_ q=>nomatch q) (λ_ q=>nomatch q) (λ_ _ _ q=>nomatch q) (λ_ _ _ q=>nomatch q) (λ_ _ q=>nomatch q) (λd e q=>beq_iff_eq.mpr (Value.bool.inj q)) (λ_ _ _ _ q=>beq_iff_eq.mpr (Value.int.inj q).1) (λ_ _ _ _ q=>beq_iff_eq.mpr (Value.str.inj q).1)
   (λhk e hk' e' h1 h2 h3 q=>?_) (λho hcl hd hv ho' hcl' hd' hv' h q=>?_) rfl,λl m xs r h ra rb=>?_⟩
  ·have:=I.inj _ _ hk hk' (e.trans ((Value.ref.inj q).trans e'.symm))
   subst this
   cases ac (h1.symm.trans h2)
   exact A2o h3
  ·have q:=Value.ref.inj q
   subst q
   cases ac (ho.symm.trans ho')
   cases hd.symm.trans hd'
   exact ih.2 _ _ _ _ h hv hv'
  ·induction ra using VRels.el with
   | nil=>cases rb; exact (ac h).symm
   | cons a b=>
    cases rb with
    | cons a' b'=>
     refine P1 (i4 (show B9v _ _=some r from h)) λx y h1 h2 h3=>?_
     rw [h3,ih.1 _ _ _ _ h1 a a',ih.2 _ _ _ _ h2 b b']; rfl
theorem X7 (I:A7 κ w) {k k':Nat} {p q:Addr} {l m:List V} {r:Bool} {G:Prop} (e:w.φ k=p) (e':w.φ k'=q) (h1:w.es.t.get k=some (.list l)) (h2:w.es.t.get k'=some (.list m)) (h3:B9n l m=some r)
  (g:∀ items items',w.h.IsList p items->w.h.IsList q items'->(items.size=0/\items'.size=0/\r=true∨(items.size != items'.size)=true/\r=false)->G):G:=by
 refine M5 (I.obj _ _ h1) λ_ items hl _ hv=>?_
 refine M5 (I.obj _ _ h2) λ_ items' hl' _ hv'=>?_
 refine g items items' (e ▸ hl.isList) (e' ▸ hl'.isList) ?_
 have s1:l.length=items.size:=hv.length.trans am
 have s2:m.length=items'.size:=hv'.length.trans am
 rw [<- s1,<- s2]
 induction l using av with
 | nil=>induction m using av with
  | nil=>exact .inl ⟨rfl,rfl,(ac h3).symm⟩
  | cons _ _=>exact .inr ⟨rfl,(ac h3).symm⟩
 | cons _ _=>induction m using av with
  | nil=>exact .inr ⟨rfl,(ac h3).symm⟩
  | cons _ _=>exact U6 h3
theorem A1k (n:Nat) (e:Nat->Bool):(List.range (n + 1)).all e=(e 0 && (List.range n).all λj=>e (j + 1)):=by
 rw [List.range_succ_eq_map,bL,List.all_map]; rfl
theorem B9r (hc:D9 κ c) (I:A7 κ w):∀ n:Nat,(∀ (A:aI) (a b:V) (x y:Value) (r:Bool),A.units + n < cLine->eqD c w.es.t n a b=some r->w.vr κ a x->w.vr κ b y->EqAt A w.s x y r)/\
  (∀ (A:aI) (l m:List V) (xs ys:List Value) (r:Bool),A.units + n < cLine->eqDs c w.es.t n l m=some r->w.vrs κ l xs->w.vrs κ m ys->
   ∃ e:Nat->Bool,(∀ j (h1:j < xs.length) (h2:j < ys.length),EqAt A w.s xs[j] ys[j] (e j))/\((List.range (min xs.length ys.length)).all e && xs.length == ys.length)=r):=by
 intro n
 induction n with
 | zero=>exact ⟨λ_ _ _ _ _ _ _ h=>U6 h,λ_ _ _ _ _ _ _ h=>U6 h⟩
 | succ n ih=>
  refine ⟨λA a b x y r hu h ra rb=>?_,λA l m xs ys r hu h ra rb=>?_⟩
  ·have hu':A.units < cLine:=bo (bJ _ _) hu
   refine A3q (P:=λx y r=>EqAt A w.s x y r) hc h ra rb (EqAt.same _) (λ_ _=>EqAt.none_str _ _) (λ_ _=>EqAt.none_int _ _) (λ_ _=>EqAt.str_none _ _) (λ_ _=>EqAt.int_none _ _) (λz=>EqAt.none_tuple z hu') (λz=>EqAt.tuple_none z hu') (λ_ _ z=>EqAt.int_tuple _ _ z hu') (λ_ _ z=>EqAt.tuple_int _ _ z hu') (λ_ z=>EqAt.bool_tuple _ z hu') (λ_ _=>EqAt.bool_bool _ _) (λ_ _ _ _=>EqAt.int_int _ _ _ _) (λ_ _ _ _=>EqAt.str_str _ _ _ _)
    (λ{k k' p q _ _} hk e hk' e' h1 h2 h3=>?_) (λ{_ _ p q _ _ _ _ _ _} ho hcl hd hv ho' hcl' hd' hv' h=>?_)
   ·by_cases hkk:k=k'
    ·subst hkk
     cases ac (h1.symm.trans h2)
     exact A2o h3 ▸ e ▸ e' ▸ EqAt.same _
    ·refine EqAt.of_refs (λq'=>hkk (I.inj _ _ hk hk' (e.trans (q'.trans e'.symm)))) (X7 I e e' h1 h2 h3 λitems items' hl hl' g=>?_)
     rcases g with ⟨z1,z2,g⟩ | ⟨g1,g⟩
     ·have:=RcAt.lists (e:=λ_=>true) hl hl' (z1.trans z2.symm) hu' (λj h1 _=>absurd h1 (by rw [z1]; exact Nat.not_lt_zero _))
      rw [z1] at this
      exact g ▸ this
     ·exact g ▸ RcAt.lists_lengths hl hl' g1 hu'
   ·by_cases hpq:p=q
    ·subst hpq
     cases ac (ho.symm.trans ho')
     cases hd.symm.trans hd'
     exact (B1v hc I n).2 _ _ _ _ h hv hv' ▸ EqAt.same _
    ·refine EqAt.of_refs hpq (C5 (ih.2 A.in1 _ _ _ _ _ (by show A.units + 1 + n < _; omega) h hv hv') λe he hr=>?_)
     have:=RcAt.tuples (e:=e) (B0 ho hcl hd) (B0 ho' hcl' hd') hu' (λj h1 h2=>by
      have:=he j (by simpa using h1) (by simpa using h2)
      simpa using this)
     rw [<- hr]
     simpa using this
  ·induction ra using VRels.el with
   | nil=>
    induction rb using VRels.el with
    | nil=>have h:=ac h; subst h; exact ⟨λ_=>true,λj h1 _=>absurd h1 (Nat.not_lt_zero _),rfl⟩
    | cons a b=>have h:=ac h; subst h; exact ⟨λ_=>true,λj h1 _=>absurd h1 (Nat.not_lt_zero _),by simp⟩
   | cons a b=>
    induction rb using VRels.el with
    | nil=>have h:=ac h; subst h; exact ⟨λ_=>true,λj _ h1=>absurd h1 (Nat.not_lt_zero _),by simp⟩
    | cons a' b'=>
     refine P1 (i4 (show B9v _ _=some r from h)) λx y h1 h2 h3=>?_
     have q1:=ih.1 A _ _ _ _ _ (by omega) h1 a a'
     refine C5 (ih.2 A _ _ _ _ _ (by omega) h2 b b') λe he hr=>?_
     refine ⟨λj=>match j with | 0=>x | j + 1=>e j,λj g1 g2=>?_,?_⟩
     ·induction j using aU with
      | zero=>exact q1
      | succ j=>exact he j (by simpa using g1) (by simpa using g2)
     ·rw [h3,<- hr]
      simp only [bh,Nat.add_min_add_right,A1k]
      have:∀ p q:Nat,(p + 1 == q + 1)=(p == q):=λp q=>by rw [Bool.eq_iff_iff]; simp
      rw [this,Bool.and_assoc]
end
section
variable {κ:Kx} {c:Cx} {w:W} {A:aI}
theorem B9s (hc:D9 κ c) (I:A7 κ w) {n:Nat} {a b:V} {x y:Value} {r:Bool} (hu:A.units + n < cLine) (h:eqD c w.es.t n a b=some r) (ra:w.vr κ a x) (rb:w.vr κ b y):RcAt A w.s x y r/\RcNeAt A w.s x y (!r):=by
 induction n using aU with
 | zero=>exact U6 h
 | succ n=>
  have hu':A.units < cLine:=bo (bJ _ _) hu
  refine A3q (P:=λx y r=>RcAt A w.s x y r/\RcNeAt A w.s x y (!r)) hc h ra rb ⟨RcAt.none_none,RcNeAt.none_none⟩ (λ_ _=>⟨RcAt.none_str _ _,RcNeAt.none_str _ _⟩) (λ_ _=>⟨RcAt.none_int _ _,RcNeAt.none_int _ _⟩) (λ_ _=>⟨RcAt.str_none _ _,RcNeAt.str_none _ _⟩) (λ_ _=>⟨RcAt.int_none _ _,RcNeAt.int_none _ _⟩)
   (λz=>⟨RcAt.none_tuple z hu',RcNeAt.none_tuple z hu'⟩) (λz=>⟨RcAt.tuple_none z hu',RcNeAt.tuple_none z hu'⟩) (λ_ _ z=>⟨RcAt.int_tuple _ _ z hu',RcNeAt.int_tuple _ _ z hu'⟩) (λ_ _ z=>⟨RcAt.tuple_int _ _ z hu',RcNeAt.tuple_int _ _ z hu'⟩) (λ_ z=>⟨RcAt.bool_tuple _ z hu',RcNeAt.bool_tuple _ z hu'⟩)
   (λ_ _=>⟨RcAt.bool_bool _ _,RcNeAt.bool_bool _ _⟩) (λ_ _ _ _=>⟨RcAt.int_int _ _ _ _,RcNeAt.int_int _ _ _ _⟩) (λ_ _ _ _=>⟨RcAt.str_str _ _ _ _,RcNeAt.str_str _ _ _ _⟩)
   (λhk e hk' e' h1 h2 h3=>X7 I e e' h1 h2 h3 λitems items' hl hl' g=>?_) (λ{_ _ _ _ _ _ items items' _ _} ho hcl hd hv ho' hcl' hd' hv' h=>C5 ((B9r hc I n).2 A.in1 _ _ _ _ _ (by show A.units + 1 + n < _; omega) h hv hv') λe he hr=>?_)
  ·rcases g with ⟨z1,z2,g⟩ | ⟨g1,g⟩
   ·have t1:=RcAt.lists (e:=λ_=>true) hl hl' (z1.trans z2.symm) hu' (λj h1 _=>absurd h1 (by rw [z1]; exact Nat.not_lt_zero _))
    have t2:=RcNeAt.lists (e:=λ_=>true) hl hl' (z1.trans z2.symm) hu' (λj h1 _=>absurd h1 (by rw [z1]; exact Nat.not_lt_zero _))
    rw [z1] at t1 t2
    exact g ▸ ⟨t1,t2⟩
   ·exact g ▸ ⟨RcAt.lists_lengths hl hl' g1 hu',RcNeAt.lists_lengths hl hl' g1 hu'⟩
  ·have he':∀ j (h1:j < items.size) (h2:j < items'.size),EqAt A.in1 w.s items[j] items'[j] (e j):=λj h1 h2=>by
    have:=he j (by simpa using h1) (by simpa using h2)
    simpa using this
   have t1:=RcAt.tuples (e:=e) (B0 ho hcl hd) (B0 ho' hcl' hd') hu' he'
   have t2:=RcNeAt.tuples (e:=e) (B0 ho hcl hd) (B0 ho' hcl' hd') hu' he'
   rw [<- hr]
   exact ⟨by simpa using t1,by simpa using t2⟩
end
noncomputable def A6s (h:Heap) (p:Addr):Option (Bool×List Value):=@Option.rec Obj (λ_=>Option (Bool×List Value)) none (λo=>match o.data with
 | .seq xs _=>some (decide (o.cls=.type "tuple"),xs.toList)
 | _=>none) (h.get? p)
theorem r9 {h:Heap} {p:Addr} {o:Obj} {xs:Array Value} {e:Nat} (ho:h.get? p=some o) (hd:o.data=.seq xs e):A6s h p=some (decide (o.cls=.type "tuple"),xs.toList):=by
 obtain ⟨c,d,dt,s⟩:=o
 cases (show dt=_ from hd)
 unfold A6s
 rw [ho]
noncomputable def B5k (f:List Value->List Value->Bool) (x y:Option (Bool×List Value)):Bool:=@Option.rec (Bool×List Value) (λ_=>Bool) false (λa=>@Option.rec (Bool×List Value) (λ_=>Bool) false (λb=>cond (a.1 && b.1) (f a.2 b.2) (a.2.length == b.2.length)) y) x
mutual
noncomputable def A6t (h:Heap):Nat->Value->Value->Bool
 | 0,_,_=>false
 | n + 1,x,y=>match x,y with
  | .int i _,.int j _=>i == j
  | .str a _,.str b _=>a == b
  | .bool a,.bool b=>a == b
  | .none,.none=>true
  | .ref p,.ref q=>B5k (sameVs h n) (A6s h p) (A6s h q)
  | _,_=>false
noncomputable def sameVs (h:Heap):Nat->List Value->List Value->Bool
 | 0,_,_=>false
 | n + 1,xs,ys=>match xs,ys with
  | [],[]=>true
  | x::xs,y::ys=>A6t h n x y && sameVs h n xs ys
  | _,_=>false
end
section
variable {κ:Kx} {c:Cx} {w:W}
theorem C1v (hc:D9 κ c) (I:A7 κ w):∀ n:Nat,(∀ (a b:V) (x y:Value) (r:Bool),eqD c w.es.t n a b=some r->w.vr κ a x->w.vr κ b y->r=A6t w.h n x y)/\
  (∀ (l m:List V) (xs ys:List Value) (r:Bool),eqDs c w.es.t n l m=some r->w.vrs κ l xs->w.vrs κ m ys->r=sameVs w.h n xs ys):=by
 intro n
 induction n with
 | zero=>exact ⟨λ_ _ _ _ _ h=>U6 h,λ_ _ _ _ _ h=>U6 h⟩
 | succ n ih=>
  refine ⟨λa b x y r h ra rb=>A3q (P:=λx y r=>r=A6t w.h (n + 1) x y) hc h ra rb rfl (λ_ _=>rfl) (λ_ _=>rfl) (λ_ _=>rfl) (λ_ _=>rfl) (λ_=>rfl) (λ_=>rfl) (λ_ _ _=>rfl) (λ_ _ _=>rfl) (λ_ _=>rfl) (λ_ _=>rfl) (λ_ _ _ _=>rfl) (λ_ _ _ _=>rfl)
   (λ{k k' p q l m} hk e hk' e' h1 h2 h3=>X7 I e e' h1 h2 h3 λitems items' hq hq' g=>?_) (λ{_ _ p q _ _ items items' _ _} ho hcl hd hv ho' hcl' hd' hv' h=>?_),λl m xs ys r h ra rb=>?_⟩
  ·refine P5 hq λo ho hcl ep hd=>?_
   refine P5 hq' λo' ho' hcl' ep' hd'=>?_
   show r=B5k (sameVs w.h n) (A6s w.h p) (A6s w.h q)
   rw [r9 ho hd,r9 ho' hd',hcl,hcl']
   show r=(items.toList.length == items'.toList.length)
   rw [am,am]
   rcases g with ⟨z1,z2,g⟩ | ⟨g1,g⟩
   ·rw [g,z1,z2]; rfl
   ·rw [g]; exact (Bool.not_eq_true' _ |>.mp g1).symm
  ·show r=B5k (sameVs w.h n) (A6s w.h p) (A6s w.h q)
   rw [r9 ho hd,r9 ho' hd',hcl,hcl']
   exact ih.2 _ _ _ _ _ h hv hv'
  ·induction ra using VRels.el with
   | nil=>cases rb<;>exact (ac h).symm
   | cons a b=>
    induction rb using VRels.el with
    | nil=>exact (ac h).symm
    | cons a' b'=>
     refine P1 (i4 (show B9v _ _=some r from h)) λx y h1 h2 h3=>?_
     rw [h3,ih.1 _ _ _ _ _ h1 a a',ih.2 _ _ _ _ _ h2 b b']; rfl
theorem A5r (hc:D9 κ c) (I:A7 κ w) {A:aI} {a:V} {x:Value} (ra:w.vr κ a x) (hu:A.units + 30 < cLine):∀ {l:List V} {xs:List Value} {r:Bool},A5g c w.es.t a l=some r->w.vrs κ l xs->
  (∀ y ∈ xs,EqAt A w.s y x (A6t w.h 30 y x))/\(xs.any λy=>A6t w.h 30 y x)=r:=by
 intro l
 induction l with
 | nil=>intro xs r h rv; cases rv; cases h; exact ⟨λy hy=>(nomatch hy),rfl⟩
 | cons b l ih=>
  intro xs r h rv
  cases rv with
  | @cons _ y _ ys rb rl=>
   have h':orO (eqD c w.es.t 30 b a) (A5g c w.es.t a l)=some r:=h
   refine P1 (B7t h') λp q h1 h2 h3=>?_
   obtain ⟨he,hr⟩:=ih h2 rl
   have q1:=(B9r hc I 30).1 A _ _ _ _ _ hu h1 rb ra
   have q2:=(C1v hc I 30).1 _ _ _ _ _ h1 rb ra
   refine ⟨λz hz=>?_,?_⟩
   ·rcases aE.mp hz with rfl | hz
    ·rw [<- q2]; exact q1
    ·exact he z hz
   ·rw [List.any_cons,h3,hr,<- q2]
end
theorem A5p (c:Cx) (k:V):A1l c k []=D5 (M3 12 k) (some none) none:=rfl
theorem j0 (c:Cx) (k:V) (p:V×V) (l:List (V×V)):A1l c k (p::l)=match C3 c 30 p.1 k with
  | none=>none
  | some e=>D5 e (some (some p.2)) (A1l c k l):=by
 show @Option.rec Bool (λ_=>Option (Option V)) none (λe=>D5 e (some (some p.2)) (A1l c k l)) (C3 c 30 p.1 k)=_
 cases C3 c 30 p.1 k<;>rfl
theorem m8 (c:Cx) (k v:V):G2 c k v []=D5 (M3 12 k) (some [(k,v)]) none:=rfl
theorem Q6 (c:Cx) (k v:V) (p:V×V) (l:List (V×V)):G2 c k v (p::l)=match C3 c 30 p.1 k with
  | none=>none
  | some e=>D5 e (some ((p.1,v)::l)) ((G2 c k v l).map (p::·)):=by
 show @Option.rec Bool (λ_=>Option (List (V×V))) none (λe=>D5 e (some ((p.1,v)::l)) (@Option.rec (List (V×V)) (λ_=>Option (List (V×V))) none (λr'=>some (p::r')) (G2 c k v l))) (C3 c 30 p.1 k)=_
 induction C3 c 30 p.1 k using ae with
 | none=>rfl
 | some e=>cases G2 c k v l<;>rfl
theorem A6z (c:Cx) (k:V):J2 c k []=none:=rfl
theorem Z0 (c:Cx) (k:V) (p:V×V) (l:List (V×V)):J2 c k (p::l)=match C3 c 30 p.1 k with
  | none=>none
  | some e=>D5 e (some (p.2,l)) ((J2 c k l).map λr=>(r.1,p::r.2)):=by
 show @Option.rec Bool (λ_=>Option (V×List (V×V))) none (λe=>D5 e (some (p.2,l)) (@Option.rec (V×List (V×V)) (λ_=>Option (V×List (V×V))) none (λr'=>some (r'.1,p::r'.2)) (J2 c k l))) (C3 c 30 p.1 k)=_
 induction C3 c 30 p.1 k using ae with
 | none=>rfl
 | some e=>cases J2 c k l<;>rfl
theorem S9 {c:Cx} {p k:V} {a b:D2} {e:Bool} (ha:N7 p a) (hb:N7 k b) (h:C3 c 30 p k=some e):e=decide (a=b):=by
 cases ha with
 | int i=>
  cases hb with
  | int j=>
   have h':some (eqZ i j)=some e:=h
   rw [<- ac h',Bool.eq_iff_iff,L6]; simp
  | str hx=>exact nomatch h
 | str hx=>
  cases hb with
  | int j=>exact nomatch h
  | str hy=>
   have h':some (aA _ _)=some e:=h
   rw [<- ac h',<- hx.beq hy,Bool.eq_iff_iff]; simp
section
variable {κ:Kx} {φ:Nat->Addr} {n:Nat} {h:Heap} {c:Cx}
theorem Q0 {k:V} {a:D2} (ha:N7 k a) {l:List (V×V)} {ks:List (D2×Value)} (g:j8 κ φ n h l ks):∀ {r:Option V},A1l c k l=some r->Opt (A4 κ φ n h) r (valueAt ks a):=by
 induction g with
 | nil=>
  intro r e
  rw [A5p,E1] at e
  split at e
  ·cases e; exact trivial
  ·cases e
 | @cons k' v a' x l ks h1 h2 h3 ih=>
  intro r e
  rw [j0] at e
  induction hq:C3 c 30 k' k using ae with
  | none=>rw [hq] at e; cases e
  | some q=>
   rw [hq] at e
   have:=S9 h1 ha hq
   subst this
   have e':D5 (decide (a'=a)) (some (some v)) (A1l c k l)=some r:=e
   rw [E1] at e'
   by_cases haa:a'=a
   ·rw [if_pos (decide_eq_true haa)] at e'
    cases e'
    simp only [valueAt,List.find?_cons,haa,decide_true,aR]
    exact h2
   ·rw [if_neg (by simpa using haa)] at e'
    have:=ih e'
    simp only [valueAt,List.find?_cons,haa,decide_false] at this ⊢
    exact this
theorem X0 {k v:V} {a:D2} {x:Value} (ha:N7 k a) (hv:A4 κ φ n h v x) {l:List (V×V)} {ks:List (D2×Value)} (g:j8 κ φ n h l ks):∀ {l':List (V×V)},(ks.map (·.1)).Nodup->G2 c k v l=some l'->j8 κ φ n h l' (stored ks a x):=by
 induction g with
 | nil=>
  intro l' hn e
  rw [m8,E1] at e
  split at e
  ·cases e; exact .cons ha hv .nil
  ·cases e
 | @cons k' v' a' x' l ks h1 h2 h3 ih=>
  intro l' hn e
  rw [Q6] at e
  rw [bE,br] at hn
  induction hq:C3 c 30 k' k using ae with
  | none=>rw [hq] at e; cases e
  | some q=>
   rw [hq] at e
   have:=S9 h1 ha hq
   subst this
   have e':D5 (decide (a'=a)) (some ((k',v)::l)) ((G2 c k v l).map ((k',v')::·))=some l':=e
   rw [E1] at e'
   by_cases haa:a'=a
   ·rw [if_pos (decide_eq_true haa)] at e'
    cases e'
    subst haa
    have hs:stored ((a',x')::ks) a' x=(a',x)::ks:=by
     unfold stored
     rw [if_pos (by simp),bE,if_pos rfl,map_store_of_not_mem ks a' x hn.1]
    rw [hs]
    exact .cons h1 hv h3
   ·rw [if_neg (by simpa using haa)] at e'
    refine C5 (Option.map_eq_some_iff.mp e') λm hm q72'=>?_; subst q72'
    have ih:=ih hn.2 hm
    have hs:stored ((a',x')::ks) a x=(a',x')::stored ks a x:=by
     unfold stored
     by_cases hany:(ks.any λkv=>decide (kv.1=a))=true
     ·rw [if_pos (by simpa [haa] using hany),if_pos hany,bE,if_neg haa]
     ·rw [if_neg (by simpa [haa] using hany),if_neg hany]; rfl
    rw [hs]
    exact .cons h1 h2 ih
theorem A1w {k v:V} {a:D2} (ha:N7 k a) {l:List (V×V)} {ks:List (D2×Value)} (g:j8 κ φ n h l ks):∀ {l':List (V×V)},(ks.map (·.1)).Nodup->J2 c k l=some (v,l')->(∃ x,valueAt ks a=some x/\A4 κ φ n h v x)/\j8 κ φ n h l' (without ks a):=by
 induction g with
 | nil=>
  intro l' hn e
  rw [A6z] at e; cases e
 | @cons k' v' a' x' l ks h1 h2 h3 ih=>
  intro l' hn e
  rw [Z0] at e
  rw [bE,br] at hn
  induction hq:C3 c 30 k' k using ae with
  | none=>rw [hq] at e; cases e
  | some q=>
   rw [hq] at e
   have:=S9 h1 ha hq
   subst this
   have e':D5 (decide (a'=a)) (some (v',l)) ((J2 c k l).map λr=>(r.1,(k',v')::r.2))=some (v,l'):=e
   rw [E1] at e'
   by_cases haa:a'=a
   ·rw [if_pos (decide_eq_true haa)] at e'
    cases e'
    subst haa
    refine ⟨⟨x',by simp [valueAt,List.find?_cons],h2⟩,?_⟩
    have:without ((a',x')::ks) a'=ks:=by
     have h9:=without_of_not_mem ks a' hn.1
     unfold without at h9 ⊢
     rw [List.filter_cons,if_neg (by simp),h9]
    rw [this]; exact h3
   ·rw [if_neg (by simpa using haa)] at e'
    refine C5 (Option.map_eq_some_iff.mp e') λq73' hm e2=>?_; obtain ⟨v1,m⟩:=q73'
    cases e2
    obtain ⟨⟨x,hx,hv⟩,ih⟩:=ih hn.2 hm
    refine ⟨⟨x,?_,hv⟩,?_⟩
    ·simp only [valueAt,List.find?_cons,haa,decide_false] at hx ⊢
     exact hx
    ·have:without ((a',x')::ks) a=(a',x')::without ks a:=by
      unfold without
      rw [List.filter_cons,if_pos (by simpa using haa)]
     rw [this]; exact .cons h1 h2 ih
theorem j8.length {l:List (V×V)} {ks:List (D2×Value)} (r:j8 κ φ n h l ks):l.length=ks.length:=by
 induction r with
 | nil=>rfl
 | cons _ _ _ ih=>exact congrArg (· + 1) ih
end
mutual
inductive TD (h:Heap):PyData->Value->Prop
 | int (k:Int) (t:Tok):TD h (.int k) (.int k t)
 | str (x:Str) (t:Tok):TD h (.str x) (.str x t)
 | tup {ds:List PyData} {a:Addr} {o:Obj} {items:Array Value} {e:Nat}:h.get? a=some o->o.cls=.type "tuple"->o.data=.seq items e->TDs h ds items.toList->TD h (.tuple ds) (.ref a)
inductive TDs (h:Heap):List PyData->List Value->Prop
 | nil:TDs h [] []
 | cons {d:PyData} {v:Value} {ds:List PyData} {vs:List Value}:TD h d v->TDs h ds vs->TDs h (d::ds) (v::vs)
end
theorem TDs.both {h:Heap} {P:PyData->Value->Prop} {Q:List PyData->List Value->Prop} (int:∀ k t,P (.int k) (.int k t)) (str:∀ x t,P (.str x) (.str x t)) (tup:∀ {ds a o items e},h.get? a=some o->o.cls=.type "tuple"->o.data=.seq items e->Q ds items.toList->P (.tuple ds) (.ref a)) (nil:Q [] []) (cons:∀ {d v ds vs},P d v->Q ds vs->Q (d::ds) (v::vs))
  {ds:List PyData} {vs:List Value} (r:TDs h ds vs):Q ds vs:=
 @TDs.rec h (λd v _=>P d v) (λds vs _=>Q ds vs) int str (λa b c _ d=>tup a b c d) nil (λ_ _ a b=>cons a b) ds vs r
theorem TDs.ind {h:Heap} {Q:List PyData->List Value->Prop} (nil:Q [] []) (cons:∀ {d v ds vs},TD h d v->Q ds vs->Q (d::ds) (v::vs)) {ds:List PyData} {vs:List Value} (r:TDs h ds vs):Q ds vs:=
 @TDs.rec h (λd v _=>True) (λds vs _=>Q ds vs) (λ_ _=>trivial) (λ_ _=>trivial) (λ_ _ _ _ _=>trivial) nil (λa _ _ b=>cons a b) ds vs r
theorem TDs.elC {h:Heap} {d:PyData} {ds:List PyData} {P:Value->List Value->Prop} {x:Value} {xs:List Value} (r:TDs h (d::ds) (x::xs)) (k:TD h d x->TDs h ds xs->P x xs):P x xs:=by cases r with
 | cons a b=>exact k a b
theorem TDs.of {κ:Kx} {φ:Nat->Addr} {n:Nat} {h:Heap} {l:List V} {ds:List PyData} (g:DatasOf l ds):∀ {xs:List Value},VRels κ φ n h l xs->TDs h ds xs:=
 @DatasOf.rec (λv d _=>∀ x,A4 κ φ n h v x->TD h d x) (λl ds _=>∀ {xs},VRels κ φ n h l xs->TDs h ds xs) (λk x r=>by
  induction r using A4.elI with
  | int e=>exact (show k=_ from e) ▸ .int _ _) (λe' x r=>by
  induction r using A4.elS with
  | str e=>rw [e'.inj e]; exact .str _ _) (λ_ ih x r=>by
  induction r using A4.elT with
  | tup a b c d e f=>exact .tup a b c (ih f)) (λr=>by
  induction r using VRels.elE with
  | nil=>exact .nil) (λ_ _ ih1 ih2 _ r=>by
  induction r using VRels.elC with
  | cons a b=>exact .cons (ih1 _ a) (ih2 b)) l ds g
theorem TD.of {κ:Kx} {φ:Nat->Addr} {n:Nat} {h:Heap} {v:V} {d:PyData} {x:Value} (g:J0 v d) (r:A4 κ φ n h v x):TD h d x:=TDs.elC (P:=λx _=>TD h d x) (TDs.of (.cons g .nil) (.cons r .nil)) λa _=>a
theorem TDs.inj {h:Heap} {d:List PyData} {x:List Value} (r:TDs h d x):∀ {d':List PyData},TDs h d' x->d=d':=
 TDs.both (P:=λd x=>∀ {d'},TD h d' x->d=d') (Q:=λd x=>∀ {d'},TDs h d' x->d=d') (λk t d' r=>by cases r; rfl) (λx t d' r=>by cases r; rfl) (λa b c ih d' r=>by
  cases r with
  | tup a' b' c' q=>
   rw [a] at a'
   cases a'
   rw [c] at c'
   cases c'
   rw [ih q]) (λr=>by cases r; rfl) (λih1 ih2 d' r=>by
  cases r with
  | cons a b=>rw [ih1 a,ih2 b]) r
theorem TD.inj {h:Heap} {d d':PyData} {x:Value} (a:TD h d x) (b:TD h d' x):d=d':=(List.cons.inj (TDs.inj (.cons a .nil) (.cons b .nil))).1
theorem TDs.keeps {h h':Heap} (k:∀ a o items e,h.get? a=some o->o.cls=.type "tuple"->o.data=.seq items e->h'.get? a=some o) {d:List PyData} {x:List Value} (r:TDs h d x):TDs h' d x:=
 TDs.both (P:=TD h') (Q:=TDs h') .int .str (λa b c d=>.tup (k _ _ _ _ a b c) b c d) .nil .cons r
theorem TD.keeps {h h':Heap} (k:∀ a o items e,h.get? a=some o->o.cls=.type "tuple"->o.data=.seq items e->h'.get? a=some o) {d:PyData} {x:Value} (r:TD h d x):TD h' d x:=TDs.elC (P:=λx _=>TD h' d x) (TDs.keeps k (.cons r .nil)) λa _=>a
mutual
noncomputable def dep:PyData->Nat
 | .tuple ds=>deps ds + 1
 | _=>1
noncomputable def deps:List PyData->Nat
 | []=>0
 | d::ds=>max (dep d) (deps ds)
end
mutual
noncomputable def drw:PyData->Nat
 | .tuple ds=>drws ds + 1
 | _=>1
noncomputable def drws:List PyData->Nat
 | []=>0
 | d::ds=>drw d + drws ds
end
theorem S6 (w:World) (a b:List PyData):dhashes w (a++b)=dhashes w a++dhashes w b:=by
 induction a with
 | nil=>simp [dhashes]
 | cons x a ih=>simp [dhashes,ih]
theorem A6v (a b:List PyData):drws (a++b)=drws a + drws b:=by
 induction a with
 | nil=>simp [drws]
 | cons x a ih=>simp [drws,ih]; omega
theorem C5z {prog:Program} {w:World}:∀ (n:Nat) {A:aI} {E:Value->ak->Prop} {s:ak} {d:PyData} {x:Value} {Q:Int->ak->Prop},dep d<=n->A.units + n < cLine->TD s.heap d x->
  Q (A0o w d) { s with toks:=s.toks + drw d }->wpAny (model prog w) A (pyHash x) Q E s:=by
 intro n
 induction n with
 | zero=>intro A E s d x Q hd; induction d using PySem.PyData.casesOn<;>simp [dep] at hd
 | succ n ih=>
  intro A E s d x Q hd hu ht q
  cases ht with
  | int k t=>exact wpAny_pyHash_int (by simpa [A0o,drw] using q)
  | str y t=>exact wpAny_pyHash_str (by simpa [A0o,drw] using q)
  | @tup ds a o items e ho hc hdt hi=>
   have hT:s.TypeIs (.ref a) "tuple":=⟨o,ho,hc⟩
   unfold pyHash
   first | unfold pyHashByItsType | skip
   first | refine ab (wpAny_cRoomFor_or (.inr (by omega)) ?_) | skip
   refine ab (wpAny_specialOf hT F.slot_tuple_hash.lookup ?_)
   show wpAny _ _ (if (some (Value.builtin "tuple.__hash__") == some Value.none)=true then _ else _) Q E s
   rw [if_neg (by rw [beq_builtin_none]; exact Bool.false_ne_true)]
   refine ab (wpAny_specialOf hT F.slot_tuple_hash.lookup ?_)
   show wpAny _ _ (callSpecialIfBoundUnlessNone? (.ref a) "__hash__" _ >>= _) Q E s
   refine ab (wpAny_callSpecialIfBoundUnlessNone?_slot hT F.slot_tuple_hash (bx F.slot_tuple_hash hT F.entry_tuple_hash ?_ (F.args_tuple_hash_1 _)))
   show wpAny _ _ (Builtin.Tuple.tupleItemsOf (.ref a) >>= _) _ _ s
   refine ab (wpAny_tupleItemsOf ho hdt ?_)
   refine ab ?_
   rw [<- Array.forIn_toList]
   refine wpAny_forIn_list _
    (λrest (b:Array Int) s'=>∃ done left,ds=done++left/\TDs s.heap left rest/\b.toList=dhashes w done/\s'={ s with toks:=s.toks + drws done })
    _ ?_ ?_ _ _ ⟨[],ds,rfl,hi,rfl,rfl⟩
   ·rintro y rest b s' ⟨done,left,rfl,hl,hb,rfl⟩
    cases hl with
    | @cons k _ ks' _ h1 hl'=>
     have hk:dep k<=n:=by
      have:∀ (l:List PyData),k ∈ l->dep k<=deps l:=by
       intro l
       induction l with
       | nil=>intro h; cases h
       | cons z l ih'=>
        intro h
        simp only [deps]
        rcases aE.mp h with rfl | h
        ·exact Nat.le_max_left _ _
        ·exact aJ (ih' h) (Nat.le_max_right _ _)
      have:=this (done++k::ks') (by simp)
      simp only [dep] at hd
      omega
     refine ab (ih (s:={ s with toks:=s.toks + drws done }) hk (by show A.units + 1 + n < _; omega) h1 ?_)
     have e:s.toks + drws done + drw k=s.toks + drws (done++[k]):=by rw [A6v]; simp [drws]; omega
     first
      | exact ag ⟨done++[k],ks',by simp,hl',by simp [hb,S6,dhashes],by rw [<- e]⟩
      | exact ab (ag (ag ⟨done++[k],ks',by simp,hl',by simp [hb,S6,dhashes],by rw [<- e]⟩))
   ·rintro b s' ⟨done,left,rfl,hl,hb,rfl⟩
    cases hl
    rw [List.append_nil] at q
    show wpAny _ _ (retInt (bF b.toList)) _ _ _
    rw [hb]
    refine wpAny_ret_mkInt ?_
    show wpAny _ _ (if (decide (-(2:Int) ^ 63<=bF (dhashes w done)) && decide (bF (dhashes w done) < 2 ^ 63))=true then _ else _) Q E _
    simp only [A0o,drw] at q
    unfold reduceHash at q
    by_cases hr:(decide (-(2:Int) ^ 63<=bF (dhashes w done)) && decide (bF (dhashes w done) < 2 ^ 63))=true
    ·rw [if_pos hr]
     rw [if_pos hr] at q
     exact ag (by simpa [Nat.add_assoc] using q)
    ·rw [if_neg hr]
     rw [if_neg hr] at q
     exact ab (wpAny_rule (ag (by simpa [Nat.add_assoc] using q)))
theorem TDs.length {h:Heap} {d:List PyData} {x:List Value} (r:TDs h d x):d.length=x.length:=TDs.ind (Q:=λd x=>d.length=x.length) rfl (λ_ e=>congrArg (· + 1) e) r
theorem TDs.get {h:Heap} {ds:List PyData} {xs:List Value} (r:TDs h ds xs):∀ (j:Nat) (h1:j < ds.length) (h2:j < xs.length),TD h ds[j] xs[j]:=
 TDs.ind (Q:=λds xs=>∀ (j:Nat) (h1:j < ds.length) (h2:j < xs.length),TD h ds[j] xs[j]) (λ_ h1 _=>absurd h1 (Nat.not_lt_zero _)) (λa ih j h1 h2=>by
  induction j using aU with
  | zero=>exact a
  | succ j=>exact ih j (Nat.lt_of_succ_lt_succ h1) (Nat.lt_of_succ_lt_succ h2)) r
theorem B1n:∀ {l:List PyData} {k:PyData},k ∈ l->dep k<=deps l
 | z::l,k,h=>by
  simp only [deps]
  rcases aE.mp h with rfl | h
  ·exact Nat.le_max_left _ _
  ·exact aJ (B1n h) (Nat.le_max_right _ _)
theorem E5m:∀ (n:Nat) {A:aI} {s:ak} {d d':PyData} {x y:Value},dep d<=n->A.units + n < cLine->TD s.heap d x->TD s.heap d' y->∃ b,EqAt A s x y b/\(b=true↔d=d'):=by
 intro n
 induction n with
 | zero=>intro A s d d' x y hd; induction d using PySem.PyData.casesOn<;>simp [dep] at hd
 | succ n ih=>
  intro A s d d' x y hd hu ht ht'
  have hu':A.units < cLine:=by omega
  cases ht with
  | int k t=>
   cases ht' with
   | int k' t'=>exact ⟨_,EqAt.int_int _ _ _ _,by simp⟩
   | str x' t'=>exact ⟨_,EqAt.int_str _ _ _ _,by simp⟩
   | tup ho hc hdt hi=>exact ⟨_,EqAt.int_tuple _ _ (B0 ho hc hdt) hu',by simp⟩
  | str z t=>
   cases ht' with
   | int k' t'=>exact ⟨_,EqAt.str_int _ _ _ _,by simp⟩
   | str x' t'=>exact ⟨_,EqAt.str_str _ _ _ _,by simp⟩
   | tup ho hc hdt hi=>exact ⟨_,EqAt.str_tuple _ _ (B0 ho hc hdt) hu',by simp⟩
  | @tup ds a o items e ho hc hdt hi=>
   cases ht' with
   | int k' t'=>exact ⟨_,EqAt.tuple_int _ _ (B0 ho hc hdt) hu',by simp⟩
   | str x' t'=>exact ⟨_,EqAt.tuple_str _ _ (B0 ho hc hdt) hu',by simp⟩
   | @tup ds' a' o' items' e' ho' hc' hdt' hi'=>
    by_cases haa:a=a'
    ·subst haa
     have:PyData.tuple ds=.tuple ds':=TD.inj (.tup ho hc hdt hi) (.tup ho' hc' hdt' hi')
     exact ⟨true,EqAt.same _,by simp [this]⟩
    ·have l1:=TDs.length hi
     have l2:=TDs.length hi'
     have each:∀ j,∃ b,∀ (h1:j < items.size) (h2:j < items'.size),EqAt A.in1 s items[j] items'[j] b/\(b=true↔ds[j]?=ds'[j]?):=λj=>by
      by_cases h1:j < items.size
      ·by_cases h2:j < items'.size
       ·have g1:j < ds.length:=by rw [l1]; simpa using h1
        have g2:j < ds'.length:=by rw [l2]; simpa using h2
        have hk:dep ds[j]<=n:=by
         have:=B1n (List.getElem_mem g1)
         simp only [dep] at hd
         omega
        obtain ⟨b,hb,hiff⟩:=ih (A:=A.in1) hk (by show A.units + 1 + n < _; omega) (TDs.get hi j g1 (by simpa using h1)) (TDs.get hi' j g2 (by simpa using h2))
        refine ⟨b,λ_ _=>⟨by simpa using hb,?_⟩⟩
        rw [hiff,bw g1,bw g2]
        simp
       ·exact ⟨true,λ_ h=>absurd h h2⟩
      ·exact ⟨true,λh=>absurd h h1⟩
     let e:=λj=>Classical.choose (each j)
     have he:∀ j (h1:j < items.size) (h2:j < items'.size),EqAt A.in1 s items[j] items'[j] (e j)/\(e j=true↔ds[j]?=ds'[j]?):=λj=>Classical.choose_spec (each j)
     refine ⟨_,EqAt.of_refs haa (RcAt.tuples (e:=e) (B0 ho hc hdt) (B0 ho' hc' hdt') hu' λj h1 h2=>(he j h1 h2).1),?_⟩
     have s1:ds.length=items.size:=by rw [l1,am]
     have s2:ds'.length=items'.size:=by rw [l2,am]
     rw [az,aL,beq_iff_eq]
     constructor
     ·rintro ⟨h1,h2⟩
      have:ds=ds':=List.ext_getElem? λj=>by
       by_cases hj:j < items.size
       ·exact ((he j hj (h2 ▸ hj)).2).mp (h1 j (List.mem_range.mpr (by omega)))
       ·rw [List.getElem?_eq_none (by omega),List.getElem?_eq_none (by omega)]
      rw [this]
     ·intro h
      injection h with h
      subst h
      exact ⟨λj hj=>((he j (by have:=List.mem_range.mp hj; omega) (by have:=List.mem_range.mp hj; omega)).2).mpr rfl,by omega⟩
theorem B8i {prog:Program} {w:World}:∀ (n:Nat) {A:aI} {E:Value->ak->Prop} {s:ak} {d:PyData} {x:Value} {Q:Bool->ak->Prop},((∃ ds,d=.tuple ds)->dep d<=n)->TD s.heap d x->Q true s->wpAny (model prog w) A (eqIsQuiet n x) Q E s:=by
 intro n
 induction n with
 | zero=>
  intro A E s d x Q hd ht q
  cases ht with
  | int k t=>rw [eqIsQuiet_byValue _ rfl]; exact ag q
  | str k t=>rw [eqIsQuiet_byValue _ rfl]; exact ag q
  | tup ho hc hdt hi=>have:=hd ⟨_,rfl⟩; simp [dep] at this
 | succ n ih=>
  intro A E s d x Q hd ht q
  cases ht with
  | int k t=>rw [eqIsQuiet_byValue _ rfl]; exact ag q
  | str k t=>rw [eqIsQuiet_byValue _ rfl]; exact ag q
  | @tup ds a o items e ho hc hdt hi=>
   have hT:s.TypeIs (.ref a) "tuple":=⟨o,ho,hc⟩
   unfold eqIsQuiet
   refine ab (wpAny_specialOf hT F.slot_tuple_eq.lookup ?_)
   show wpAny _ _ (isInstance (.ref a) (.type "tuple") >>= _) _ _ s
   refine ab (wpAny_isInstance hT isSubtype_tuple_tuple ?_)
   simp only [Bool.not_true,Bool.false_eq_true,if_false]
   refine ab (bI ho hdt ?_)
   refine ab ?_
   show wpAny _ _ (forIn items _ _) _ _ s
   rw [<- Array.forIn_toList]
   refine wpAny_forIn_list _ (λrest r s'=>r.1=none/\s'=s/\∃ left,TDs s.heap left rest/\deps left<=n) _ ?_ ?_ _ _ ⟨rfl,rfl,ds,hi,by have:=hd ⟨_,rfl⟩; simp only [dep] at this; omega⟩
   ·rintro v rest r s' ⟨hr,rfl,left,hl,hdl⟩
    cases hl with
    | @cons k _ ks _ h1 hl'=>
     simp only [deps] at hdl
     refine ab (ih (λ_=>by omega) h1 ?_)
     simp only [Bool.not_true,Bool.false_eq_true,if_false]
     exact ag ⟨rfl,rfl,ks,hl',by omega⟩
   ·rintro ⟨r1,r2⟩ s' ⟨hr,rfl,_⟩
    simp only at hr
    subst hr
    exact ag q
noncomputable def K2:DecidableEq PyData:=λ_ _=>Classical.propDecidable _
noncomputable def y5 (prog:Program) (w:World):@HeapKind prog w PyData K2:=@HeapKind.mk prog w PyData K2
 (λh d a=>TD h d (.ref a)/\dep d<=8) (A0o w) drw (λA=>A.units + 8 < cLine)
 (λhx hy=>TD.inj hx.1 hy.1)
 (λx ho hd hs=>⟨TD.keeps (λa o _ _ e hc hsq=>(hs.2 a λq=>by
  subst q
  rw [ho] at e
  cases e
  rw [hd] at hsq
  cases hsq).trans e) x.1,x.2⟩)
 (λhu hk q=>C5z 8 hk.2 hu hk.1 q)
 (λ{A E s x y a b Q} hu hx hy q=>by
  refine C5 (E5m 8 hx.2 hu hx.1 hy.1) λr h1 h2=>?_
  refine h1 prog w E Q ?_
  have:r=@decide (x=y) (K2 x y):=by rw [Bool.eq_iff_iff,h2]; simp
  rw [this]; exact q)
 (λhk q=>B8i 8 (λ_=>hk.2) hk.1 q)
theorem w8 {c:Cx}:∀ n:Nat,(∀ (p k:V) (d d':PyData) (e:Bool),C3 c n p k=some e->J0 p d->J0 k d'->(e=true↔d=d'))/\
  (∀ (l m:List V) (d d':List PyData) (e:Bool),C3.go c n l m=some e->DatasOf l d->DatasOf m d'->(e=true↔d=d')):=by
 intro n
 induction n with
 | zero=>exact ⟨λ_ _ _ _ _ h=>by simp [C3] at h,λ_ _ _ _ _ h=>by simp [C3.go] at h⟩
 | succ n ih=>
  refine ⟨λp k d d' e h hp hk=>?_,λl m d d' e h hl hm=>?_⟩
  ·cases hp with
   | int i=>
    cases hk with
    | int j=>simp only [C3,bg] at h; rw [<- h,L6]; simp
    | str _=>simp [C3] at h
    | tup _=>simp [C3] at h
   | str hx=>
    cases hk with
    | int j=>simp [C3] at h
    | str hy=>simp only [C3,bg] at h; rw [<- h,<- hx.beq hy]; simp
    | tup _=>simp [C3] at h
   | tup hl=>
    cases hk with
    | int j=>simp [C3] at h
    | str _=>simp [C3] at h
    | tup hm=>simp only [C3] at h; rw [ih.2 _ _ _ _ _ h hl hm]; simp
  ·cases hl with
   | nil=>
    cases hm with
    | nil=>simp [C3.go] at h; simp [h]
    | cons _ _=>simp [C3.go] at h; simp [h]
   | cons a b=>
    cases hm with
    | nil=>simp [C3.go] at h; simp [h]
    | cons a' b'=>
     simp only [C3.go] at h
     split at h
     ·rename_i h1
      have e1:=ih.1 _ _ _ _ _ h1 a a'
      have e2:=ih.2 _ _ _ _ _ h b b'
      rw [e2]
      have:=e1.mp rfl
      simp [this]
     ·rename_i q hq
      induction q2:C3 c n _ _ using ae with
      | none=>rw [q2] at h; cases h
      | some t=>
       rw [q2] at h
       cases h
       induction e using ao with
       | true=>exact absurd q2 hq
       | false=>
        have e1:=ih.1 _ _ _ _ _ q2 a a'
        constructor
        ·intro h; cases h
        ·intro h
         injection h with h1 _
         exact absurd (e1.mpr h1) (by simp)
section
variable {κ:Kx} {φ:Nat->Addr} {n:Nat} {h:Heap} {c:Cx}
theorem KTs.length {l:List (V×V)} {ks:List (PyData×Addr×Value)} (r:KTs κ φ n h l ks):l.length=ks.length:=by
 induction r with
 | nil=>rfl
 | cons _ _ _ _ _ _ ih=>exact congrArg (· + 1) ih
theorem V8 {k:V} {d:PyData} (hk:J0 k d) {l:List (V×V)} {ks:List (PyData×Addr×Value)} (g:KTs κ φ n h l ks):∀ {r:Option V},A1l c k l=some r->Opt (A4 κ φ n h) r ((@atKey PyData K2 ks d).map (·.2)):=by
 induction g with
 | nil=>
  intro r e
  rw [A5p,E1] at e
  split at e
  ·cases e; exact trivial
  ·cases e
 | @cons k' v d' a' x l ks h1 hd h2 h3 h4 h5 ih=>
  intro r e
  rw [j0] at e
  induction hq:C3 c 30 k' k using ae with
  | none=>rw [hq] at e; cases e
  | some q=>
   rw [hq] at e
   have hiff:=(w8 (c:=c) 30).1 _ _ _ _ _ hq h1 hk
   have e':D5 q (some (some v)) (A1l c k l)=some r:=e
   rw [E1] at e'
   by_cases haa:d'=d
   ·rw [if_pos (hiff.mpr haa)] at e'
    cases e'
    simp only [atKey,List.find?_cons,haa,decide_true,aR]
    exact h4
   ·rw [if_neg (λq=>haa (hiff.mp q))] at e'
    have:=ih e'
    have hf:@decide (d'=d) (K2 d' d)=false:=@decide_eq_false _ (K2 d' d) haa
    simp only [atKey,List.find?_cons,hf] at this ⊢
    exact this
theorem f6 {k v:V} {d:PyData} {a:Addr} {x:Value} (hk:J0 k d) (hkd:M3 12 k=true) (hkt:J1 k=true) (hka:A4 κ φ n h k (.ref a)) (hv:A4 κ φ n h v x):
  ∀ {l:List (V×V)} {ks:List (PyData×Addr×Value)} (g:KTs κ φ n h l ks) {l':List (V×V)},(ks.map (·.1)).Nodup->G2 c k v l=some l'->KTs κ φ n h l' (@storedH PyData K2 ks d a x):=by
 intro l ks g
 induction g with
 | nil=>
  intro l' hn e
  rw [m8,hkd] at e
  cases e
  exact .cons hk hkd hkt hka hv .nil
 | @cons k' v' d' a' x' l ks h1 hd h2 h3 h4 h5 ih=>
  intro l' hn e
  rw [Q6] at e
  rw [bE,br] at hn
  induction hq:C3 c 30 k' k using ae with
  | none=>rw [hq] at e; cases e
  | some q=>
   rw [hq] at e
   have hiff:=(w8 (c:=c) 30).1 _ _ _ _ _ hq h1 hk
   have e':D5 q (some ((k',v)::l)) ((G2 c k v l).map ((k',v')::·))=some l':=e
   rw [E1] at e'
   by_cases haa:d'=d
   ·rw [if_pos (hiff.mpr haa)] at e'
    cases e'
    subst haa
    have hs:@storedH PyData K2 ((d',a',x')::ks) d' a x=(d',a',x)::ks:=by
     unfold storedH
     rw [if_pos (by simp [atKey,List.find?_cons]),bE,@map_putAt_of_not_mem PyData K2 ks d' x hn.1]
     simp [putAt]
    rw [hs]
    exact .cons h1 hd h2 h3 hv h5
   ·rw [if_neg (λq=>haa (hiff.mp q))] at e'
    refine C5 (Option.map_eq_some_iff.mp e') λm hm q74'=>?_; subst q74'
    have ih:=ih hn.2 hm
    have hs:@storedH PyData K2 ((d',a',x')::ks) d a x=(d',a',x')::@storedH PyData K2 ks d a x:=by
     unfold storedH
     have hat:@atKey PyData K2 ((d',a',x')::ks) d=@atKey PyData K2 ks d:=by
      have hf:@decide (d'=d) (K2 d' d)=false:=@decide_eq_false _ (K2 d' d) haa
      simp only [atKey,List.find?_cons,hf]
     rw [hat]
     by_cases hany:(@atKey PyData K2 ks d).isSome=true
     ·rw [if_pos hany,if_pos hany,bE]
      simp [putAt,haa]
     ·rw [if_neg hany,if_neg hany]; rfl
    rw [hs]
    exact .cons h1 hd h2 h3 h4 ih
end
theorem S7 {α:Type} (l:List α):len l=l.length:=by
 induction l with
 | nil=>rfl
 | cons a l ih=>show Nat.succ (len l)=_; rw [ih]; rfl
theorem Q1 {l:List V} {s s':St} {v:V} (h:K4 l s=.ok v s'):l.length<=10000/\w9 (.list l) s=.ok v s':=by
 unfold K4 at h
 induction hb:be (len l) 10000 using ao with
 | false=>rw [hb] at h; exact nomatch h
 | true=>rw [hb] at h; exact ⟨S7 l ▸ aj hb,h⟩
theorem C5x {l:List (V×V)} {s s':St} {v:V} (h:B3b l s=.ok v s'):l.length<=10000/\w9 (.dict l) s=.ok v s':=by
 unfold B3b at h
 induction hb:be (len l) 10000 using ao with
 | false=>rw [hb] at h; exact nomatch h
 | true=>rw [hb] at h; exact ⟨S7 l ▸ aj hb,h⟩
theorem v8 {i:Nat} {l:List V} {s s':St} {v:Unit} (h:j4 i l s=.ok v s'):l.length<=10000/\A3n i (.list l) s=.ok v s':=by
 unfold j4 at h
 induction hb:be (len l) 10000 using ao with
 | false=>rw [hb] at h; exact nomatch h
 | true=>rw [hb] at h; exact ⟨S7 l ▸ aj hb,h⟩
theorem B0i {i:Nat} {l:List (V×V)} {s s':St} {v:Unit} (h:B6c i l s=.ok v s'):l.length<=10000/\A3n i (.dict l) s=.ok v s':=by
 unfold B6c at h
 induction hb:be (len l) 10000 using ao with
 | false=>rw [hb] at h; exact nomatch h
 | true=>rw [hb] at h; exact ⟨S7 l ▸ aj hb,h⟩
theorem z6 {l:List V} {s s':St} {v:V} (h:mkT l s=.ok v s'):l.length<=10000/\v=.tup l/\s'=s:=by
 unfold mkT at h
 induction hb:be (len l) 10000 using ao with
 | false=>rw [hb] at h; exact nomatch h
 | true=>rw [hb] at h; cases h; exact ⟨S7 l ▸ aj hb,rfl,rfl⟩
theorem C9z {l:List V} {s s':St} {v:V} {P:V->St->Prop} (h:mkT l s=.ok v s') (k:l.length<=10000->P (.tup l) s):P v s':=O8 (z6 h) λa b c=>b ▸ c ▸ k a
theorem B9q {n:Nat} {s s':St} {v:V} (h:mkS n s=.ok v s'):n < 2 ^ 8000/\v=.str n/\s'=s:=by
 unfold mkS at h
 induction hb:Nat.blt n (Nat.pow 2 8000) using ao with
 | false=>rw [hb] at h; exact nomatch h
 | true=>rw [hb] at h; cases h; exact ⟨aj hb,rfl,rfl⟩
section
variable {κ:Kx} {A:aI} {X:List Addr} {w:W}
theorem B5 {h:Heap}:h.get? h.objs.size=none:=Heap.get?_none_of_le (aG _)
theorem A7.ne_new (I:A7 κ w) {a:Addr} (ha:w.h.get? a=none):∀ i,i < w.n->w.φ i≠a:=λi hi e=>by
 obtain ⟨o,ho⟩:=I.lt i hi
 rw [e,ha] at ho; cases ho
theorem A7.grow (I:A7 κ w) {s':ak} (hk:∀ b ob,w.h.get? b=some ob->s'.heap.get? b=some ob):A7 κ ⟨w.φ,w.es,s'⟩:=by
 have u:Up w.φ w.n w.h w.φ w.n s'.heap:=⟨λb ob e _ _=>hk b ob e,λ_ _=>rfl,λi h1 h2=>absurd h2 (bq.mpr h1),aG _⟩
 exact ⟨λi o e=>⟨(I.obj i o e).1,(I.obj i o e).2.up u (I.obj i o e).1 (λ_=>rfl) (λob=>hk _ ob) λob q _=>hk _ ob q⟩,I.inj,λi hi=>let ⟨o,ho⟩:=I.lt i hi; ⟨o,hk _ _ ho⟩,λb ob e=>hk b ob (I.base b ob e),I.lim,I.fl,I.f1,I.nb,I.sb,I.z0,I.own,I.sec⟩
theorem Le.grow {s':ak} (hk:∀ b ob,w.h.get? b=some ob->s'.heap.get? b=some ob) (hb:c9 w.s s'):Le X w ⟨w.φ,w.es,s'⟩:=
 ⟨λb ob e _ _=>hk b ob e,λb ⟨ob,e⟩=>⟨ob,hk b ob e⟩,λ_ _=>rfl,λi h1 h2=>absurd h2 (bq.mpr h1),aG _,rfl,λ_ _=>rfl,aG _,hb.gens,hb.os,hb.drawn⟩
theorem C9 {h:Heap} (o:Obj):∀ b ob,h.get? b=some ob->(h.push o).get? b=some ob:=λ_ _ e=>ai o e
theorem O4 (I:A7 κ w) {l:List V} {items:Array Value} (hv:w.vrs κ l items.toList) (hl:l.length<=10000) {s':ak} {a:Addr} (hk:∀ b ob,w.h.get? b=some ob->s'.heap.get? b=some ob) (ha:w.h.get? a=none) (ht:s'.heap.IsTuple a items) (hb:c9 w.s s'):
  A1 κ X w w.es (E5 κ (.tup l)) (.ref a) s':=by
 have u:Up w.φ w.n w.h w.φ w.n s'.heap:=⟨λb ob e _ _=>hk b ob e,λ_ _=>rfl,λi h1 h2=>absurd h2 (bq.mpr h1),aG _⟩
 refine P5 ht λo ho hc e hd=>?_; clear ht
 exact ⟨w.φ,Le.grow hk hb,I.grow hk,.tup ho hc hd (I.ne_new ha) hl (VRels.up u hv)⟩
theorem A0s (I:A7 κ w) {l:List V} {vs:List Value} (hv:w.vrs κ l vs) (hl:l.length<=10000) {t:Nat}:
  A1 κ X w w.es (E5 κ (.tup l)) (.ref w.h.objs.size) { w.s with heap:=w.h.push { cls:=.type "tuple",data:=.seq vs.toArray },toks:=t }:=
 O4 (items:=vs.toArray) I (by simpa using hv) hl (C9 _) B5 ⟨_,ax _ rfl,rfl,0,rfl⟩ ⟨rfl,rfl,rfl⟩
theorem F2 (I:A7 κ w) {l:List V} {items:Array Value} (hv:w.vrs κ l items.toList) {v:V} {es':St} (h:K4 l w.es=.ok v es') {s':ak} {a:Addr} (hk:∀ b ob,w.h.get? b=some ob->s'.heap.get? b=some ob) (ha:w.h.get? a=none) (ht:s'.heap.PlainList a items) (hb:c9 w.s s'):
  A1 κ X w es' (E5 κ v) (.ref a) s':=by
 obtain ⟨hl,h⟩:=Q1 h
 refine A2b I h hk ha (let ⟨_,ho⟩:=ht; ⟨_,ho⟩) hb (λ_ _=>by simp) λu=>?_
 exact ⟨items,by rw [B1]; exact ht,hl,VRels.up u hv⟩
theorem i7 (I:A7 κ w) {l:List V} {vs:List Value} (hv:w.vrs κ l vs) {v:V} {es':St} (h:K4 l w.es=.ok v es') {t:Nat}:
  A1 κ X w es' (E5 κ v) (.ref w.h.objs.size) { w.s with heap:=w.h.push { cls:=.type "list",data:=.seq vs.toArray },toks:=t }:=
 F2 (items:=vs.toArray) I (by simpa using hv) h (C9 _) B5 ⟨0,ax _ rfl⟩ ⟨rfl,rfl,rfl⟩
end
section
variable (κ:Kx) (rn:F5) (f n:Nat) (nm:List (Str×aK))
noncomputable def SLs (cl:CL) (es:List Expr):Prop:=∀ pos A c ev env w,B7 A f n->D9 κ c->A7 κ w->C8 κ w ev env->env.scope.names=nm->Sim κ A [] w (cl rn c ev) (spliced (backTo pos (starEach es env))) (λw' vs xs=>w'.vrs κ vs xs)
end
section
variable {κ:Kx} {rn:F5} {f n:Nat} {nm:List (Str×aK)}
theorem B6t:SLs κ rn f n nm B6f []:=λpos A c ev env w hA hc I r hn v es' h=>by cases h; exact spliced_none (A1.here I .nil)
theorem C3u {a:CX} {l:CL} {e:Expr} {es:List Expr} (he:∀ env,starEach (e::es) env=(false,eval e env)::starEach es env) (ha:SX κ rn f n nm a e) (hl:SLs κ rn f n nm l es):SLs κ rn f n nm (A2c a l) (e::es):=
 λpos A c ev env w hA hc I r hn v es' h=>by
  refine A2 h λx s1 h1 h2=>?_
  refine A2 h2 λxs s2 h3 h4=>?_
  cases h4
  refine spliced_more (af (ha A c ev env w hA hc I r hn x s1 h1) (λval s₁ p=>?_) λ_ _ x=>x) (he env)
  refine af (p.go (es₂:=es') (R':=λw' ys=>w'.vr κ x val/\w'.vrs κ xs ys) λw₁ le inv hr e1 e2=>
   af (hl pos A c ev env w₁ hA hc inv (r.le le) hn xs es' (by rw [e1]; exact h3)) (λys s₂ q=>q.mono (λ_ h=>.inl h) λw₂ le2 _ hv=>⟨le2.vr hr,hv⟩) λ_ _ x=>x)
   (λys s₂ q=>q.mono (λ_ h=>.inl h) λw' _ _ h=>VRels.cons h.1 h.2) λ_ _ x=>x
theorem B6v {l:CL} {es:List Expr} {k pos} (hl:SLs κ rn f n nm l es):SE κ rn f n nm (D3l l) (.Tuple es k pos):=
 SE.value (λA c ev env w hA hc I r hn v es' h=>by
  refine A2 h λvs s1 h1 h2=>?_
  refine O8 (z6 h2) λh3 e3 e4=>?_
  subst e3 e4
  refine wpAny_Tuple (af (hl pos A c ev env w hA hc I r hn vs _ h1) (λxs s₁ p=>?_) λ_ _ x=>x)
  obtain ⟨φ',le,inv,hv⟩:=p
  refine ⟨?_,?_⟩
  ·rw [<- VRels.length hv]; exact aJ h3 (by decide)
  ·obtain ⟨φ'',l2,i2,r2⟩:=A0s (X:=[]) inv hv h3 (t:=s₁.toks)
   exact ⟨φ'',le.comp l2,i2,r2⟩) λ_ _=>rfl
theorem D6o {l:CL} {es:List Expr} {pos} (hl:SLs κ rn f n nm l es):SE κ rn f n nm (D1h l) (.List es pos):=
 SE.value (λA c ev env w hA hc I r hn v es' h=>by
  refine A2 h λvs s1 h1 h2=>?_
  refine wpAny_List (af (hl pos A c ev env w hA hc I r hn vs _ h1) (λxs s₁ p=>?_) λ_ _ x=>x)
  obtain ⟨φ',le,inv,hv⟩:=p
  refine ⟨?_,?_⟩
  ·rw [<- VRels.length hv]; exact aJ (Q1 h2).1 (by decide)
  ·obtain ⟨φ'',l2,i2,r2⟩:=i7 (X:=[]) inv hv h2 (t:=s₁.toks)
   exact ⟨φ'',le.comp l2,i2,r2⟩) λ_ _=>rfl
end
theorem M1 (r:Nat->Int) (x:I) (k:Int):(m6 x k).val r=x.val r + k:=by
 unfold m6
 induction h:eqZ k 0 using ao with
 | true=>rw [(L6 k 0).mp h]; exact (Int.add_zero _).symm
 | false=>rfl
theorem A5w (r:Nat->Int) (x y:I):(D0x x y).val r=x.val r + y.val r:=
 J9 (P:=λx (z:I)=>z.val r=x.val r + y.val r) (λa=>J9 (P:=λy (z:I)=>z.val r=a + y.val r) (λb=>rfl) λ_=>B0w (P:=λy (z:I)=>z.val r=a + y.val r) (λz k=>(M1 r z _).trans (Int.add_left_comm _ _ _)) λy=>(M1 r y a).trans (Int.add_comm _ _))
  λx=>J9 (P:=λy (z:I)=>z.val r=x.val r + y.val r) (λa=>B0w (P:=λx (z:I)=>z.val r=x.val r + a) (λz k=>(M1 r z _).trans (Int.add_assoc _ _ _).symm) λx=>M1 r x a) λ_=>rfl
theorem A5j (r:Nat->Int) (x y:I):(D5w x y).val r=x.val r - y.val r:=
 J9 (P:=λy (z:I)=>z.val r=x.val r - y.val r) (λa=>J9 (P:=λx (z:I)=>z.val r=x.val r - a) (λb=>rfl) λ_=>B0w (P:=λx (z:I)=>z.val r=x.val r - a) (λz k=>(M1 r z _).trans (Int.add_sub_assoc _ _ _).symm) λx=>(M1 r x _).trans Int.sub_eq_add_neg.symm) λy=>J9 (P:=λx (z:I)=>z.val r=x.val r - y.val r) (λ_=>rfl) λ_=>rfl
theorem B7p (r:Nat->Int) (x y:I):(E7q x y).val r=x.val r * y.val r:=
 J9 (P:=λx (z:I)=>z.val r=x.val r * y.val r) (λa=>J9 (P:=λy (z:I)=>z.val r=a * y.val r) (λb=>rfl) λ_=>rfl) λx=>J9 (P:=λy (z:I)=>z.val r=x.val r * y.val r) (λ_=>rfl) λ_=>rfl
theorem B8a {κ:Kx} {c:Cx} (hc:D9 κ c) {x y z:I}:F0l c x y=some z->y.val κ.rho≠0/\z.val κ.rho=Int.fmod (x.val κ.rho) (y.val κ.rho):=
 J9 (P:=λy (o:Option I)=>o=some z->y.val κ.rho≠0/\z.val κ.rho=Int.fmod (x.val κ.rho) (y.val κ.rho)) (λb=>J9 (P:=λx (o:Option I)=>o=some z->b≠0/\z.val κ.rho=Int.fmod (x.val κ.rho) b) (λa h=>l7 h (λ_ h=>nomatch h) λe h=>ac h ▸ ⟨λq=>Bool.noConfusion (((L6 b 0).mpr q).symm.trans e),rfl⟩)
  λx h=>E6 h λ_ hr h=>l7 h (λe h=>b2 e λe1 e2=>by
   have h0:=aN ((E0 _ _).mp e1) (K3 hc hr).1
   have hl:=Int.lt_of_le_of_lt (K3 hc hr).2 ((N2 _ _).mp e2)
   exact ac h ▸ ⟨Int.ne_of_gt (Int.lt_of_le_of_lt h0 hl),(Int.fmod_eq_of_lt h0 hl).symm⟩) λ_ h=>nomatch h) λ_ h=>nomatch h
theorem A5i {κ:Kx} {c:Cx} (hc:D9 κ c) {x:I} (h:small c x=true):-9223372036854775808<=x.val κ.rho/\x.val κ.rho<=9223372036854775807:=
 A0z h λv hv=>E6 hv λ_ hr h=>l7 h (λe _=>b2 e λe1 e2=>⟨aN ((E0 _ _).mp e1) (K3 hc hr).1,aN (K3 hc hr).2 ((E0 _ _).mp e2)⟩) λ_ h=>nomatch h
theorem A9t {m:Int} (h:-9223372036854775808<=m/\m<=9223372036854775807):Builtin.Int.intBits m<=64:=intBits_le_64 (Int.lt_of_lt_of_le (by decide) h.1) (Int.lt_of_le_of_lt h.2 (by decide))
noncomputable def opB:Nat->Option Operator
 | 0=>some .Add | 1=>some .Sub | 2=>some .Mult | 3=>some .Mod | 4=>some .FloorDiv | 5=>some .Pow
 | _=>none
theorem D0l {P:Nat->Operator->Prop} {op:Nat} {o:Operator} (h:opB op=some o) (p0:P 0 .Add) (p1:P 1 .Sub) (p2:P 2 .Mult) (p3:P 3 .Mod) (p4:P 4 .FloorDiv) (p5:P 5 .Pow):P op o:=by
 induction op using aU with
 | zero=>exact ac h ▸ p0
 | succ op=>induction op using aU with
  | zero=>exact ac h ▸ p1
  | succ op=>induction op using aU with
   | zero=>exact ac h ▸ p2
   | succ op=>induction op using aU with
    | zero=>exact ac h ▸ p3
    | succ op=>induction op using aU with
     | zero=>exact ac h ▸ p4
     | succ op=>induction op using aU with
      | zero=>exact ac h ▸ p5
      | succ _=>exact nomatch h
section
variable {κ:Kx} {c:Cx} {A:aI} {X:List Addr} {w:W}
theorem N3 {α:Type} {x:α} {s:St} {P:α->St->Prop} {a:α} {s':St} (h:D7 x s=.ok a s') (k:P x s):P a s':=by cases h; exact k
theorem P6 {r:Sem Value} {z v:V} {es':St} (h:D7 z w.es=.ok v es') (k:wpAny κ.m A r (A1 κ X w w.es (E5 κ z)) D1 w.s):wpAny κ.m A r (A1 κ X w es' (E5 κ v)) D1 w.s:=N3 (P:=λv es'=>wpAny κ.m A r (A1 κ X w es' (E5 κ v)) D1 w.s) h k
theorem cF {α:Type} {b:Bool} {x:M α} {s:St} {a:α} {s':St} {G:Prop} (h:D5 b x A5 s=.ok a s') (k:b=true->x s=.ok a s'->G):G:=by
 induction b using ao
 ·exact nomatch h
 ·exact k rfl h
theorem cI {α:Type} {b:Bool} {x y:M α} {s:St} {a:α} {s':St} {G:Prop} (h:D5 b x y s=.ok a s') (k:b=true->x s=.ok a s'->G) (q:b=false->y s=.ok a s'->G):G:=by
 induction b using ao
 ·exact q rfl h
 ·exact k rfl h
theorem B0j {α:Type} {φ:Nat->Addr} {N:Nat} {H:Heap} {v:V} {x:Value} {k:Nat->M α} {s s':St} {a:α} {P:Value->Prop} (r:A4 κ φ N H v x) (h:C8v v k s=.ok a s') (m:∀ i,i < N->k i s=.ok a s'->P (.ref (φ i))):P x:=by
 induction r using A4.el with
 | ref hk e=>exact e ▸ m _ hk h
 | _=>exact (A0 (s:=s) h).elim
theorem C1m {α:Type} {φ:Nat->Addr} {N:Nat} {H:Heap} {v:V} {x:Value} {k:Mine.I->M α} {s s':St} {a:α} {P:Value->Prop} (r:A4 κ φ N H v x) (h:E5y v k s=.ok a s') (m:∀ i n t,i.val κ.rho=n->k i s=.ok a s'->P (.int n t)):P x:=by
 induction r using A4.el with
 | int e=>exact m _ _ _ e h
 | _=>exact (A0 (s:=s) h).elim
theorem B1u {α:Type} (I:A7 κ w) {v:V} {x:Value} {k:Nat->List V->M α} {s':St} {a:α} {P:Value->Prop} (r:w.vr κ v x) (h:C5d v k w.es=.ok a s') (m:∀ i l items,w.es.t.get i=some (.list l)->i < w.n->w.h.PlainList (w.φ i) items->l.length<=10000->w.vrs κ l items.toList->k i l w.es=.ok a s'->P (.ref (w.φ i))):P x:=by
 refine B0j r h λi hi h=>gOn h λo ho h=>?_
 induction o using O.casesOn with
 | list l=>exact E2 (I.obj _ _ ho).2 λitems hp hl hv=>m i l items ho hi hp hl hv h
 | _=>exact (A0 (s:=w.es) h).elim
theorem C5c {α:Type} (I:A7 κ w) {v:V} {x:Value} {k:Nat->List (V×V)->M α} {s':St} {a:α} {P:Value->Prop} (r:w.vr κ v x) (h:E5i v k w.es=.ok a s') (m:∀ i l,w.es.t.get i=some (.dict l)->i < w.n->k i l w.es=.ok a s'->P (.ref (w.φ i))):P x:=by
 refine B0j r h λi hi h=>gOn h λo ho h=>?_
 induction o using O.casesOn with
 | dict l=>exact m i l ho hi h
 | _=>exact (A0 (s:=w.es) h).elim
theorem C5q (I:A7 κ w) {x y:Mine.I} {t u:Tok} {v:V} {es':St}:E7f x y w.es=.ok v es'->wpAny κ.m A (bp .FloorDiv (.int (x.val κ.rho) t) (.int (y.val κ.rho) u)) (A1 κ X w es' (E5 κ v)) D1 w.s:=
 J9 (P:=λy (f:M V)=>f w.es=.ok v es'->wpAny κ.m A (bp .FloorDiv (.int (x.val κ.rho) t) (.int (y.val κ.rho) u)) (A1 κ X w es' (E5 κ v)) D1 w.s) (λq=>J9 (P:=λx (f:M V)=>f w.es=.ok v es'->wpAny κ.m A (bp .FloorDiv (.int (x.val κ.rho) t) (.int q u)) (A1 κ X w es' (E5 κ v)) D1 w.s)
  (λp h=>cF h λhb h=>b2 hb λe1 e2=>by
   have e1:=(E0 _ _).mp e1
   have e2:=(E0 _ _).mp e2
   exact P6 h (floordiv_int (Int.ne_of_gt (Int.lt_of_lt_of_le (by decide) e1)) (A1.toks I (.int rfl)) (.inl (PyProof.noPylong_small (by omega))))) λ_ h=>(A0 (s:=w.es) h).elim) λ_ h=>(A0 (s:=w.es) h).elim
theorem C3g (I:A7 κ w) {x y:Mine.I} {t u:Tok} {v:V} {es':St}:E4x x y w.es=.ok v es'->wpAny κ.m A (bp .Pow (.int (x.val κ.rho) t) (.int (y.val κ.rho) u)) (A1 κ X w es' (E5 κ v)) D1 w.s:=
 J9 (P:=λy (f:M V)=>f w.es=.ok v es'->wpAny κ.m A (bp .Pow (.int (x.val κ.rho) t) (.int (y.val κ.rho) u)) (A1 κ X w es' (E5 κ v)) D1 w.s) (λq=>J9 (P:=λx (f:M V)=>f w.es=.ok v es'->wpAny κ.m A (bp .Pow (.int (x.val κ.rho) t) (.int q u)) (A1 κ X w es' (E5 κ v)) D1 w.s)
  (λp h=>by
   induction q using Int.casesOn with
   | negSucc _=>exact (A0 (s:=w.es) h).elim
   | ofNat q=>
    refine cF h λhb h=>b3 hb λe1 e2 e3=>?_
    have e2:=(E0 _ _).mp e2
    have e3:=(E0 _ _).mp e3
    exact P6 h (pow_int_small (bW q) (aN (Int.ofNat_le.mpr (aj e1)) (by decide)) (by show p.natAbs < 2 ^ 64; omega) (A1.toks I (.int rfl)))) λ_ h=>(A0 (s:=w.es) h).elim) λ_ h=>(A0 (s:=w.es) h).elim
theorem C5l (hc:D9 κ c) (I:A7 κ w) {op:Nat} {o:Operator} (ho:opB op=some o) {x y:Mine.I} {m k:Int} {t u:Tok} {v:V} {es':St} (hx:x.val κ.rho=m) (hy:y.val κ.rho=k):C9j c op x y w.es=.ok v es'->
  wpAny κ.m A (bp o (.int m t) (.int k u)) (A1 κ X w es' (E5 κ v)) D1 w.s:=by
 refine D0l (P:=λop o=>C9j c op x y w.es=.ok v es'->wpAny κ.m A (bp o (.int m t) (.int k u)) (A1 κ X w es' (E5 κ v)) D1 w.s) ho ?_ ?_ ?_ ?_ ?_ ?_
 ·exact λh=>P6 h (PyProof.Rows.add_int (A1.toks I (.int (by rw [A5w,hx,hy]))))
 ·exact λh=>P6 h (PyProof.Rows.sub_int (A1.toks I (.int (by rw [A5j,hx,hy]))))
 ·exact λh=>cF h λhs h=>P6 h (PyProof.Rows.mul_int (A1.toks I (.int (by rw [B7p,hx,hy]))) ((Z4 hs).elim (λhs=>.of_left (A9t (hx ▸ A5i hc hs))) λhs=>.of_right (A9t (hy ▸ A5i hc hs))))
 ·exact λh=>lfn h λz h3=>by
   have q:=B8a hc h3
   rw [hx,hy] at q
   exact λh=>P6 h (PyProof.Rows.mod_int q.1 (A1.toks I (.int q.2)))
 ·exact hx ▸ hy ▸ C5q I
 ·exact hx ▸ hy ▸ C3g I
theorem t9 {v:V} {n:Int} (h:R8 v=some n):v=.int (.lit n):=by
 induction v using V.casesOn with
 | int i=>induction i using I.casesOn with
  | lit k=>exact congrArg (λn=>V.int (.lit n)) (ac h)
  | _=>exact U6 h
 | _=>exact U6 h
theorem B1h {v:V} (h:B3d v=true):v=.int (.lit (-1)):=by
 unfold B3d at h
 induction e:R8 v using ae with
 | none=>rw [e] at h; exact ff h
 | some n=>rw [e] at h; exact (L6 n (-1)).mp h ▸ t9 e
theorem B8e {v:V} (h:B3d v=true):R8 v=some (-1):=B1h h ▸ rfl
theorem B1e {v:V} {n:Nat} (h:D7h v=some n):v=.str n:=by
 induction v using V.casesOn with
 | str m=>exact congrArg V.str (ac h)
 | _=>exact U6 h
theorem B8o {l:List V}:∀ {m:List Nat},A0w l=some m->l=m.map V.str:=by
 induction l with
 | nil=>exact λh=>ac h ▸ rfl
 | cons v l ih=>
  intro m h
  refine E6 h λn hn h=>E6 h λm' hm h=>?_
  rw [<- ac h,ih hm,B1e hn]
  rfl
theorem I0 {l:List V} {m:List Nat} (h:i6 l m=true):l=m.map V.str:=by
 unfold i6 at h
 induction e:A0w l using ae with
 | none=>rw [e] at h; exact ff h
 | some x=>rw [e] at h; exact beq_iff_eq.mp h ▸ B8o e
theorem A3z {v:V} (h:isZ v=true):R8 v=some 0:=by
 unfold isZ at h
 induction e:R8 v using ae with
 | none=>rw [e] at h; exact ff h
 | some n=>rw [e] at h; exact congrArg some ((L6 n 0).mp h)
theorem C7h {a x y:Bool} {G:Prop} (h:D5 a x y=true) (p:a=true->x=true->G) (q:y=true->G):G:=by
 induction a using ao
 ·exact q h
 ·exact p rfl h
theorem O0 {κ:Kx} {φ:Nat->Addr} {N:Nat} {H:Heap} {v:V} {x:Value} {n:Int} {P:Value->Prop} (h:R8 v=some n) (r:A4 κ φ N H v x) (m:∀ t,P (.int n t)):P x:=by
 have r':A4 κ φ N H (.int (.lit n)) x:=t9 h ▸ r
 induction r' using A4.elI with
 | int e=>exact (show n=_ from e) ▸ m _
theorem B0l (l:List Nat) (h:t6 l=true):E4 l < 256 ^ l.length:=by
 induction l with
 | nil=>simp [E4]
 | cons a l ih=>
  have e:E4 (a::l)=a * 256 ^ l.length + E4 l:=by
   have:=H8 [a] l
   simpa [E4] using this
  have h':t6 l=true:=by simp only [t6,bL,az] at h ⊢; exact h.2
  have ha:a<=255:=by simp [t6] at h; exact h.1.2
  have:=ih h'
  rw [e,bh,Nat.pow_succ]
  have:a * 256 ^ l.length<=255 * 256 ^ l.length:=Nat.mul_le_mul_right _ ha
  omega
end
theorem B1b {a:Nat} {l:List Nat} (h:t6 (a::l)=true):256 ^ l.length<=E4 (a::l):=by
 have e:E4 (a::l)=a * 256 ^ l.length + E4 l:=by
  have:=H8 [a] l
  simpa [E4] using this
 have ha:1<=a:=by simp [t6] at h; exact h.1.1
 have:1 * 256 ^ l.length<=a * 256 ^ l.length:=Nat.mul_le_mul_right _ ha
 rw [e]; omega
theorem B8v (n:Nat):256 ^ n=2 ^ (8 * n):=by rw [show (256:Nat)=2 ^ 8 by decide,<- Nat.pow_mul]
theorem A2z {l:List Nat} (h:t6 l=true):A0d (E4 l)=l.length:=by
 induction l using av with
 | nil=>rfl
 | cons a l=>
  have h1:=B1b h
  have h2:=B0l _ h
  have h0:E4 (a::l)≠0:=by have:=Nat.pow_pos (n:=l.length) (show 0 < 256 by decide); omega
  have hb:aA (E4 (a::l)) 0=false:=by
   induction hh:aA (E4 (a::l)) 0 using ao with
   | false=>rfl
   | true=>exact absurd (aw hh) h0
  unfold A0d
  rw [hb]
  show Nat.succ (Nat.log2 (E4 (a::l)) / 8)=l.length + 1
  rw [B8v] at h1 h2
  have l1:=(Nat.le_log2 h0).mpr h1
  have l2:=(Nat.log2_lt h0).mpr h2
  rw [bh] at l2
  omega
theorem Str.append_list (x y:Str):(x++y).cps.toList=x.cps.toList++y.cps.toList:=by
 show (x.cps++y.cps).toList=_
 rw [Array.toList_append]
theorem SV.cat {m n:Nat} {x y:Str} (hx:SV m x) (hy:SV n y):SV (cat m n) (x++y):=by
 refine ⟨?_,?_⟩
 ·rw [Str.append_list,w6,hx.1,hy.1]; rfl
 ·rw [Str.append_list,H8,hx.2,<- hy.2]
  show _=Nat.add (Nat.mul m (Nat.pow 256 (A0d (E4 y.cps.toList)))) (E4 y.cps.toList)
  rw [A2z hy.1]; rfl
theorem SV.short {n:Nat} {x:Str} (hx:SV n x) (h:n < 2 ^ 8000):x.length<=1000:=by
 have e:x.length=x.cps.toList.length:=by show x.cps.size=_; rw [am]
 rw [e]
 induction hl:x.cps.toList using av with
 | nil=>simp
 | cons a l=>
  have h1:t6 (a::l)=true:=hl ▸ hx.1
  have h2:=B1b h1
  rw [<- hl,hx.2,B8v] at h2
  have h3:2 ^ (8 * l.length) < 2 ^ 8000:=bo h2 h
  have h4:=(Nat.pow_lt_pow_iff_right (by decide:1 < 2)).mp h3
  rw [bh]; omega
section
variable {κ:Kx} {c:Cx} {A:aI} {X:List Addr} {w:W}
theorem A8j (I:A7 κ w) {m n:Nat} {x y:Str} {t u:Tok} (hx:SV m x) (hy:SV n y) {v:V} {es':St} (h:mkS (Mine.cat m n) w.es=.ok v es'):
  wpAny κ.m A (bp .Add (.str x t) (.str y u)) (A1 κ X w es' (E5 κ v)) D1 w.s:=by
 refine O8 (B9q h) λh1 e2 e3=>?_
 subst e2 e3
 have hs:=(hx.cat hy).short h1
 refine PyProof.Rows.add_str (λt' tk=>A1.toks I (.str (hx.cat hy))) ?_
 have:(x++y).length=x.length + y.length:=by show (x.cps++y.cps).size=_; rw [Array.size_append]; rfl
 rw [<- this]
 exact aJ hs (by decide)
end
section
variable {κ:Kx} {c:Cx} {A:aI} {X:List Addr} {w:W}
theorem A4e (I:A7 κ w) {a b:Addr} {l m:List V} {xs ys:Array Value} (ha:w.h.IsList a xs) (hb:w.h.IsList b ys) (hl:w.vrs κ l xs.toList) (hm:w.vrs κ m ys.toList) {v:V} {es':St} (h:K4 (l++m) w.es=.ok v es'):
  wpAny κ.m A (bp .Add (.ref a) (.ref b)) (A1 κ X w es' (E5 κ v)) D1 w.s:=by
 have hz:=(Q1 h).1
 rw [List.length_append,VRels.length hl,VRels.length hm] at hz
 refine P5 (id ha) λq2' ho hc n hd=>?_; obtain ⟨cls,dd,data,sl⟩:=q2'
 refine P5 (id hb) λq3' ho2 hc2 n2 hd2=>?_; obtain ⟨cls2,dd2,data2,sl2⟩:=q3'
 simp only at hc hd hc2 hd2
 subst hc hd hc2 hd2
 have e:xs++ys=(xs.toList++ys.toList).toArray:=by simp
 refine concat_meets ⟨_,ho,rfl⟩ ⟨_,ho2,rfl⟩ noFill_list_add seq_list_add PySem.F.slot_list_add PySem.F.entry_list_add (PySem.F.args_list_add_2 _ _) (list_addW a b xs ys n n2 dd dd2 sl sl2 (by
  have:sizeLine=2 ^ 24:=rfl
  rw [this]; simp at hz; omega)) ⟨ho,ho2,?_⟩
 rw [e]
 exact i7 I (VRels.append hl hm) h
theorem A1z (I:A7 κ w) {a b:Addr} {l m:List V} {xs ys:Array Value} (ha:w.vr κ (.tup l) (.ref a)) (hb:w.vr κ (.tup m) (.ref b)) {v:V} {es':St} (h:mkT (l++m) w.es=.ok v es'):
  wpAny κ.m A (bp .Add (.ref a) (.ref b)) (A1 κ X w es' (E5 κ v)) D1 w.s:=by
 refine O8 (z6 h) λhz e2 e3=>?_
 subst e2 e3
 have ha':=ha
 have hb':=hb
 cases ha with
 | @tup _ _ o xs ep ho hcl hd hn hl hv=>
  cases hb with
  | @tup _ _ o' ys ep' ho' hcl' hd' hn' hl' hv'=>
   have hz':xs.toList.length + ys.toList.length<=10000:=by rw [<- VRels.length hv,<- VRels.length hv',<- List.length_append]; exact hz
   obtain ⟨cls,dd,data,sl⟩:=o
   obtain ⟨cls2,dd2,data2,sl2⟩:=o'
   simp only at hcl hd hcl' hd'
   subst hcl hd hcl' hd'
   have hline:xs.size + ys.size<=sizeLine:=by
    have:sizeLine=2 ^ 24:=rfl
    rw [this]; simp at hz'; omega
   have e:xs++ys=(xs.toList++ys.toList).toArray:=by simp
   by_cases h1:xs.toList=[]
   ·have:l=[]:=by have:=VRels.length hv; rw [h1] at this; exact List.length_eq_zero_iff.mp this
    subst this
    exact concat_meets ⟨_,ho,rfl⟩ ⟨_,ho',rfl⟩ noFill_tuple_add seq_tuple_add PySem.F.slot_tuple_add PySem.F.entry_tuple_add (PySem.F.args_tuple_add_2 _ _)
     (tuple_addW0 a b xs ys ep ep' dd dd2 sl sl2 (by simpa using h1)) ⟨ho,ho',A1.here I hb'⟩
   ·by_cases h2:ys.toList=[]
    ·have:m=[]:=by have:=VRels.length hv'; rw [h2] at this; exact List.length_eq_zero_iff.mp this
     subst this
     exact concat_meets ⟨_,ho,rfl⟩ ⟨_,ho',rfl⟩ noFill_tuple_add seq_tuple_add PySem.F.slot_tuple_add PySem.F.entry_tuple_add (PySem.F.args_tuple_add_2 _ _)
      (tuple_addW1 a b xs ys ep ep' dd dd2 sl sl2 (by simpa using h1) (by simpa using h2)) ⟨ho,ho',by rw [List.append_nil]; exact A1.here I ha'⟩
    ·refine concat_meets ⟨_,ho,rfl⟩ ⟨_,ho',rfl⟩ noFill_tuple_add seq_tuple_add PySem.F.slot_tuple_add PySem.F.entry_tuple_add (PySem.F.args_tuple_add_2 _ _)
      (tuple_addW2 a b xs ys ep ep' dd dd2 sl sl2 (by simpa using h1) (by simpa using h2) hline) ⟨ho,ho',?_⟩
     rw [e]
     exact A0s I (VRels.append hv hv') hz
end
theorem D4b (l:List V) (k:Nat):rep l k=(List.replicate k l).flatten:=by
 induction k with
 | zero=>rfl
 | succ k ih=>rw [List.replicate_succ,List.flatten_cons,<- ih]; rfl
theorem VRels.rep {κ:Kx} {φ:Nat->Addr} {n:Nat} {h:Heap} {l:List V} {xs:List Value} (r:VRels κ φ n h l xs) (k:Nat):VRels κ φ n h (List.replicate k l).flatten (List.replicate k xs).flatten:=by
 induction k with
 | zero=>exact .nil
 | succ k ih=>exact r.append ih
section
variable {κ:Kx} {c:Cx} {A:aI} {X:List Addr} {w:W}
theorem B9a (I:A7 κ w) {a:Addr} {l:List V} {xs:Array Value} {k:Nat} {u:Tok} (ha:w.h.IsList a xs) (hl:w.vrs κ l xs.toList) (hk:k<=10000) {v:V} {es':St} (h:K4 (rep l k) w.es=.ok v es'):
  wpAny κ.m A (bp .Mult (.ref a) (.int (aQ k) u)) (A1 κ X w es' (E5 κ v)) D1 w.s:=by
 have hz:=(Q1 h).1
 rw [D4b] at hz h
 have hlen:l.length=xs.size:=by rw [VRels.length hl,am]
 have hsz:xs.size * k<=10000:=by
  have:(List.replicate k l).flatten.length=k * l.length:=by simp
  rw [this,hlen,Nat.mul_comm] at hz
  exact hz
 refine P5 (id ha) λq1' ho hcl n hd=>?_; obtain ⟨cls,d,data,sl⟩:=q1'
 simp only at hcl hd
 subst hcl hd
 have ek0:(aQ k).toNat=k:=rfl
 have hb0:0<=aQ k/\aQ k<=10000:=⟨bW k,by show (k:Int)<=_; omega⟩
 generalize aQ k=x at ek0 hb0 ⊢
 have ek:=ek0
 refine wpAny_binaryOp_repeat_ref (T:="list") (U:="int") (by decide) ⟨_,ho,rfl⟩ (λs'=>typeIs_int s' x u) noFill_list_mul F.fills_int_mul F.slot_int_rmul repeat_list F.slot_int_index.lookup
  (call_meets F.slot_int_rmul (typeIs_int w.s x u) F.entry_int_rmul (F.args_int_rmul_2 _ _) (lm_int_rmul_list_any x u a xs n d sl)
   ⟨ho,rfl,⟨_,ho,rfl⟩,call_meets F.slot_list_mul ⟨_,ho,rfl⟩ F.entry_list_mul (F.args_list_mul_2 _ _)
    (lm_list_mul_any a xs n d sl x u (by simp [Builtin.List.listFitsIndex]; omega) (by rw [ek]; omega) (by rw [ek]; simp [Builtin.List.listTooLong,sizeLine]; omega))
    ⟨ho,?_⟩⟩)
 rw [listMul_foldl_if,ek]
 exact i7 I (VRels.rep hl k) h
end
section
variable {κ:Kx} {c:Cx} {A:aI} {X:List Addr} {w:W}
theorem A1.lift {β:Type} {w₁:W} {es:St} {R:W->β->Prop} {b:β} {s:ak} (p:A1 κ X w₁ es R b s) (le:Le X w w₁):A1 κ X w es R b s:=let ⟨φ',l,i,r⟩:=p; ⟨φ',le.comp l,i,r⟩
theorem B5p (hc:D9 κ c) (I:A7 κ w) {op:Nat} {o:Operator} (ho:opB op=some o) {a b:V} {x y:Value} {v:V} {es':St} (ra:w.vr κ a x) (rb:w.vr κ b y) (h:Mine.c0 c op a b w.es=.ok v es'):
  wpAny κ.m A (bp o x y) (A1 κ X w es' (E5 κ v)) D1 w.s:=by
 induction ra using A4.el with
 | int e=>
  induction rb using A4.el with
  | int e'=>exact C5l hc I ho e e' h
  | _=>exact (A0 (s:=w.es) h).elim
 | str e=>
  induction rb using A4.el with
  | str e'=>
   match op,ho,h with
   | 0,ho,h=>cases ho; exact A8j I e e' h
   | n + 1,ho,h=>exact (A0 (s:=w.es) h).elim
  | _=>exact (A0 (s:=w.es) h).elim
 | tup p1 p2 p3 p4 p5 p6=>
  induction rb using A4.el with
  | tup q1 q2 q3 q4 q5 q6=>
   match op,ho,h with
   | 0,ho,h=>cases ho; exact A1z (xs:=#[]) (ys:=#[]) I (.tup p1 p2 p3 p4 p5 p6) (.tup q1 q2 q3 q4 q5 q6) h
   | n + 1,ho,h=>exact (A0 (s:=w.es) h).elim
  | _=>exact (A0 (s:=w.es) h).elim
 | ref hk e=>
  induction rb using A4.el with
  | ref hk' e'=>
   match op,ho,h with
   | 0,ho,h=>
    cases ho
    refine gOn h λo1 h3 h2=>?_
    refine B8 h2 λo2 s2 h4 h5=>?_
    obtain ⟨h6,e9⟩:=Q4 h4
    rw [e9] at h5
    obtain ⟨_,r1⟩:=I.obj _ _ h3
    obtain ⟨_,r2⟩:=I.obj _ _ h6
    induction o1 using O.casesOn with
    | list l=>
     induction o2 using O.casesOn with
     | list m=>
      refine E2 r1 λxs l1 _ v1=>?_; clear r1
      refine E2 r2 λys l2 _ v2=>?_; clear r2
      rw [e] at l1
      rw [e'] at l2
      exact A4e I l1.isList l2.isList v1 v2 h5
     | _=>exact (A0 (s:=w.es) h5).elim
    | _=>exact (A0 (s:=w.es) h5).elim
   | n + 1,ho,h=>exact (A0 (s:=w.es) h).elim
  | @int i m t e'=>
   cases i with
   | lit p=>
    induction p using Int.casesOn with
    | ofNat k=>
     match op,ho,h with
     | 2,ho,h=>
      cases ho
      have h':D5 (be k 10000) (D3 (G1 _) λox=>match ox with
       | .list l=>K4 (rep l k)
       | _=>A5) A5 w.es=.ok v es':=h
      rw [E1] at h'
      split at h'
      ·rename_i hb
       refine gOn h' λo1 h3 h2=>?_
       obtain ⟨_,r1⟩:=I.obj _ _ h3
       induction o1 using O.casesOn with
       | list l=>
        refine E2 r1 λxs l1 _ v1=>?_; clear r1
        rw [e] at l1
        have e2:aQ k=m:=e'
        rw [<- e2]
        exact B9a I l1.isList v1 (aj hb) h2
       | _=>exact (A0 (s:=w.es) h2).elim
      ·exact (A0 (s:=w.es) h').elim
     | 0,ho,h=>exact (A0 (s:=w.es) h).elim
     | 1,ho,h=>exact (A0 (s:=w.es) h).elim
     | n + 3,ho,h=>exact (A0 (s:=w.es) h).elim
    | negSucc k=>exact (A0 (s:=w.es) h).elim
   | _=>exact (A0 (s:=w.es) h).elim
  | _=>exact (A0 (s:=w.es) h).elim
 | _=>exact (A0 (s:=w.es) h).elim
end
section
variable {κ:Kx} {rn:F5} {f n:Nat} {nm:List (Str×aK)}
theorem D7x {a b:CX} {x y:Expr} {op:Nat} {o:Operator} {pos} (ho:opB op=some o) (ha:SX κ rn f n nm a x) (hb:SX κ rn f n nm b y):SE κ rn f n nm (A1u op a b) (.BinOp x o y pos):=
 SE.value (λA c ev env w hA hc I r hn v es' h=>by
  refine A2 h λv1 s1 h1 h2=>?_
  refine A2 h2 λv2 s2 h3 h4=>?_
  refine wpAny_BinOp (af (ha A c ev env w hA hc I r hn v1 s1 h1) (λval s₁ p=>?_) λ_ _ x=>x)
  obtain ⟨φ1,le,inv,hr⟩:=p
  refine af (hb A c ev env ⟨φ1,s1,s₁⟩ hA hc inv (r.le le) hn v2 s2 h3) (λval2 s₂ p2=>?_) λ_ _ x=>x
  obtain ⟨φ2,le2,inv2,hr2⟩:=p2
  exact af (B5p (w:=⟨φ2,s2,s₂⟩) hc inv2 ho (le2.vr hr) hr2 h4) (λ_ _ p3=>p3.lift (le.comp le2)) λ_ _ x=>x) λ_ _=>rfl
end
section
variable {κ:Kx} {φ:Nat->Addr} {m:Nat} {h:Heap}
theorem B1q:∀ n:Nat,(∀ (v:V) (x:Value),M3 n v=true->A4 κ φ m h v x->∃ d,J0 v d/\2 * dep d<=n + 1)/\
  (∀ (l:List V) (xs:List Value),keyDs n l=true->VRels κ φ m h l xs->∃ ds,DatasOf l ds/\2 * deps ds<=n):=by
 intro n
 induction n with
 | zero=>exact ⟨λ_ _ h=>by simp [M3] at h,λ_ _ h=>by simp [keyDs] at h⟩
 | succ n ih=>
  refine ⟨λv x hk r=>?_,λl xs hk r=>?_⟩
  ·induction r using A4.el with
   | int e=>
    rename_i i _ _
    induction i using I.casesOn with
    | lit k=>exact ⟨_,.int k,by simp [dep]⟩
    | _=>simp [M3] at hk
   | str e=>exact ⟨_,.str e,by simp [dep]⟩
   | tup a b c d e f=>
    simp only [M3] at hk
    refine C5 (ih.2 _ _ hk f) λds h1 h2=>?_
    exact ⟨_,.tup h1,by simp only [dep]; omega⟩
   | opq x=>simp [M3] at hk
   | _=>simp [M3] at hk
  ·induction r using VRels.el with
   | nil=>exact ⟨_,.nil,by simp [deps]⟩
   | cons a b=>
    simp only [keyDs,E1] at hk
    split at hk
    ·rename_i h1
     refine C5 (ih.1 _ _ h1 a) λd h2 h3=>?_
     refine C5 (ih.2 _ _ hk b) λds h4 h5=>?_
     exact ⟨_,.cons h2 h4,by simp only [deps]; omega⟩
    ·cases hk
end
theorem H7 {κ:Kx} {w:W} {k:V} {x:Value} (hk:M3 12 k=true) (r:w.vr κ k x):
  (J1 k=false/\∃ a,N7 k a/\a.is x=true)∨(J1 k=true/\∃ d a,J0 k d/\x=.ref a/\TD w.h d (.ref a)/\dep d<=8):=by
 refine C5 ((B1q 12).1 _ _ hk r) λd h1 h2=>?_
 cases h1 with
 | int i=>induction r using A4.elI with
  | int e=>exact .inl ⟨rfl,_,.int i,by have:i=_:=e; subst this; simp [D2.is,Value.isInt]⟩
 | str e=>induction r using A4.elS with
  | str e'=>exact .inl ⟨rfl,_,.str e,by rw [e.inj e']; simp [D2.is,Value.isStrOf]⟩
 | tup hd=>
  have hd':=J0.tup hd
  have t:=TD.of hd' r
  induction r using A4.elT with
  | tup a b c e f g=>exact .inr ⟨rfl,_,_,hd',rfl,t,by omega⟩
theorem Pairs.nil_inv {prog:Program} {w:World} {es:List DictEntry} (h:Pairs (C0 prog w) es []):es=[]:=by cases h; rfl
theorem A2g {prog:Program} {w:World} {h:Heap} {a:Addr} (r:c7 w h a []):h.DictOf (C0 prog w) a []:=by
 refine K0 r λo es ep ho hx hd he hn=>?_; clear r
 have:es=#[]:=by
  have:es.toList=[]:=he
  exact Array.toList_eq_nil_iff.mp this
 subst this
 exact ⟨o,#[],ep,ho,hx,hd,λe he=>by simp at he,.nil,List.nodup_nil⟩
theorem A8k {prog:Program} {w:World} {h:Heap} {a:Addr} (r:h.DictOf (C0 prog w) a []):c7 w h a []:=by
 refine L8 r λo es ep ho hx hd hk hp hn=>?_; clear r
 exact ⟨o,es,ep,ho,hx,hd,Pairs.nil_inv hp,List.nodup_nil⟩
noncomputable def S8 (k:V) (l:List (V×V)):Prop:=∀ p r,l=p::r->J1 p.1=J1 k
theorem X6 {c:Cx} {p k:V} {e:Bool} (h:C3 c 30 p k=some e):J1 p=J1 k:=by
 unfold C3 at h
 split at h<;>first | rfl | cases h
theorem H9 {c:Cx} {k:V} {l:List (V×V)} {r:Option V} (h:A1l c k l=some r):S8 k l:=by
 rintro p q rfl
 rw [j0] at h
 cases hq:C3 c 30 p.1 k with
 | none=>rw [hq] at h; cases h
 | some e=>exact X6 hq
theorem L0 {c:Cx} {k v:V} {l r:List (V×V)} (h:G2 c k v l=some r):S8 k l:=by
 rintro p q rfl
 rw [Q6] at h
 induction hq:C3 c 30 p.1 k using ae with
 | none=>rw [hq] at h; cases h
 | some e=>exact X6 hq
theorem A3v {c:Cx} {k:V} {l:List (V×V)} {r:V×List (V×V)} (h:J2 c k l=some r):S8 k l:=by
 rintro p q rfl
 rw [Z0] at h
 cases hq:C3 c 30 p.1 k with
 | none=>rw [hq] at h; cases h
 | some e=>exact X6 hq
section
variable {κ:Kx} {φ:Nat->Addr} {n:Nat} {h:Heap} {a:Addr} {l:List (V×V)} {k:V}
noncomputable abbrev H4 (κ:Kx) (φ:Nat->Addr) (n:Nat) (h:Heap) (a:Addr) (l:List (V×V)):Prop:=(∃ ks,h.DictOf (C0 κ.prog κ.wld) a ks/\j8 κ φ n h l ks)∨(∃ xs,c7 κ.wld h a xs/\KTs κ φ n h l xs)
theorem H3 (r:H4 κ φ n h a l) (hs:S8 k l) (hk:J1 k=false):∃ ks,h.DictOf (C0 κ.prog κ.wld) a ks/\j8 κ φ n h l ks:=by
 rcases r with r | ⟨xs,hd,hv⟩
 ·exact r
 ·cases hv with
  | nil=>exact ⟨[],A2g hd,.nil⟩
  | cons h1 h2 h3 h4 h5 h6=>have:=hs _ _ rfl; rw [hk] at this; rw [h3] at this; cases this
theorem A6y {a:D2} (h:N7 k a):J1 k=false:=by cases h<;>rfl
theorem L7 (r:H4 κ φ n h a l) (hs:S8 k l) (hk:J1 k=true):∃ xs,c7 κ.wld h a xs/\KTs κ φ n h l xs:=by
 rcases r with ⟨ks,hd,hv⟩ | r
 ·cases hv with
  | nil=>exact ⟨[],A8k hd,.nil⟩
  | cons h1 h2 h3=>have:=hs _ _ rfl; rw [hk,A6y h1] at this; cases this
 ·exact r
end
theorem U7 {c:Cx} {k:V} {l:List (V×V)} {r:Option V} (h:Z1 c k l=some r):M3 12 k=true/\A1l c k l=some r:=by
 unfold Z1 at h
 induction hb:M3 12 k using ao with
 | false=>rw [hb] at h; cases h
 | true=>rw [hb] at h; exact ⟨rfl,h⟩
theorem Opt.isSome {α β:Type} {R:α->β->Prop} {x:Option α} {y:Option β} (h:Opt R x y):x.isSome=y.isSome:=by induction x using ae<;>induction y using ae<;>first | rfl | exact h.elim
section
variable {κ:Kx} {c:Cx} {A:aI} {w:W}
theorem O9 {a:Addr} {l:List (V×V)} {xs:List (PyData×Addr×Value)} (hd:c7 κ.wld w.h a xs) (hv:KTs κ w.φ w.n w.h l xs):@Heap.DictOfH κ.prog κ.wld PyData K2 (y5 κ.prog κ.wld) w.h a xs:=by
 refine K0 hd λo es ep ho hx hdt he hn=>?_; clear hd
 refine ⟨o,es,ep,ho,hx,hdt,he,?_,hn⟩
 clear he hn
 induction hv with
 | nil=>intro x hx; cases hx
 | cons h1 h2 h3 h4 h5 h6 ih=>
  intro x hx
  rcases aE.mp hx with rfl | hx
  ·refine ⟨TD.of h1 h4,?_⟩
   refine C5 ((B1q 12).1 _ _ h2 h4) λd h7 h8=>?_
   have:=TD.inj (TD.of h1 h4) (TD.of h7 h4)
   rw [this]; show dep d<=8; omega
  ·exact ih x hx
theorem N1 {k v:V} {l r:List (V×V)} (h:M4 c k v l=some r):M3 12 k=true/\G2 c k v l=some r:=by
 unfold M4 at h
 induction hb:M3 12 k using ao with
 | false=>rw [hb] at h; cases h
 | true=>rw [hb] at h; exact ⟨rfl,h⟩
theorem A7d {k:V} {l:List (V×V)} {r:V×List (V×V)} (h:A0g c k l=some r):M3 12 k=true/\J2 c k l=some r:=by
 unfold A0g at h
 induction hb:M3 12 k using ao with
 | false=>rw [hb] at h; cases h
 | true=>rw [hb] at h; exact ⟨rfl,h⟩
theorem D3g {d:Addr} {l:List (V×V)} {k:V} {key:Value} {r:Option V} (rd:H4 κ w.φ w.n w.h d l) (hd:(d == sysModules)=false) (rk:w.vr κ k key) (h:Z1 c k l=some r) (hu:A.units + 20 < cLine) {Q:Value->ak->Prop} {E:Value->ak->Prop}
  (q:∀ t,Q (.bool r.isSome) { w.s with toks:=t }):wpAny κ.m A (compareOp .In key (.ref d)) Q E w.s:=by
 obtain ⟨h1,h2⟩:=U7 h
 rcases H7 h1 rk with ⟨h3,a,h4,h5⟩ | ⟨h3,dd,a,h4,rfl,h5,h6⟩
 ·refine C5 (H3 rd (H9 h2) h3) λks hm hv=>?_
  have:=Q0 h4 hv h2
  exact wpAny_in_of (knd:=C0 κ.prog κ.wld) h5 hd hm.mapOf (by rw [<- Opt.isSome this]; exact q _)
 ·refine C5 (L7 rd (H9 h2) h3) λxs hm hv=>?_
  have:=V8 h4 hv h2
  exact @wpAny_in_heap κ.prog κ.wld PyData K2 (y5 κ.prog κ.wld) A E w.s d a dd xs Q (by show A.units + 1 + 8 < _; omega) ⟨h5,h6⟩ hd (O9 hm hv) (by
   have e:=Opt.isSome this
   rw [Option.isSome_map] at e
   rw [<- e]; exact q _)
theorem B4f {d:Addr} {l:List (V×V)} {k:V} {key:Value} {r:Option V} (rd:H4 κ w.φ w.n w.h d l) (hd:(d == sysModules)=false) (rk:w.vr κ k key) (h:Z1 c k l=some r) (hu:A.units + 20 < cLine) {Q:Value->ak->Prop} {E:Value->ak->Prop}
  (q:∀ t,Q (.bool (!r.isSome)) { w.s with toks:=t }):wpAny κ.m A (compareOp .NotIn key (.ref d)) Q E w.s:=by
 obtain ⟨h1,h2⟩:=U7 h
 rcases H7 h1 rk with ⟨h3,a,h4,h5⟩ | ⟨h3,dd,a,h4,rfl,h5,h6⟩
 ·refine C5 (H3 rd (H9 h2) h3) λks hm hv=>?_
  have:=Q0 h4 hv h2
  exact wpAny_notIn_of (knd:=C0 κ.prog κ.wld) h5 hd hm.mapOf (by rw [<- Opt.isSome this]; exact q _)
 ·refine C5 (L7 rd (H9 h2) h3) λxs hm hv=>?_
  have:=V8 h4 hv h2
  exact @wpAny_notIn_heap κ.prog κ.wld PyData K2 (y5 κ.prog κ.wld) d a A E w.s dd xs Q (by show A.units + 1 + 8 < _; omega) ⟨h5,h6⟩ hd (O9 hm hv) (by
   have e:=Opt.isSome this
   rw [Option.isSome_map] at e
   rw [<- e]; exact q _)
theorem C5h {d:Addr} {l:List (V×V)} {k v:V} {key:Value} (rd:H4 κ w.φ w.n w.h d l) (rk:w.vr κ k key) (h:Z1 c k l=some (some v)) (hu:A.units + 20 < cLine) {Q:Value->ak->Prop} {E:Value->ak->Prop}
  (q:∀ x t,w.vr κ v x->Q x { w.s with toks:=t }):wpAny κ.m A (PySem.getItem (.ref d) key) Q E w.s:=by
 obtain ⟨h1,h2⟩:=U7 h
 rcases H7 h1 rk with ⟨h3,a,h4,h5⟩ | ⟨h3,dd,a,h4,rfl,h5,h6⟩
 ·refine C5 (H3 rd (H9 h2) h3) λks hm hv=>?_
  have:=Q0 h4 hv h2
  induction hx:valueAt ks a using ae with
  | none=>rw [hx] at this; exact this.elim
  | some x=>
   rw [hx] at this
   exact wpAny_getItem_of (knd:=C0 κ.prog κ.wld) h5 hm.mapOf hx (q _ _ this)
 ·refine C5 (L7 rd (H9 h2) h3) λxs hm hv=>?_
  have:=V8 h4 hv h2
  induction hx:@atKey PyData K2 xs dd using ae with
  | none=>rw [hx] at this; exact this.elim
  | some x=>
   rw [hx] at this
   exact @wpAny_getItem_heap κ.prog κ.wld PyData K2 (y5 κ.prog κ.wld) A E w.s d a dd xs x Q (by show A.units + 1 + 8 < _; omega) ⟨h5,h6⟩ (O9 hm hv) hx (q _ _ this)
theorem B4d {d:Addr} {l:List (V×V)} {k v:V} {key:Value} {r:Option V} {dv:Value} (rd:H4 κ w.φ w.n w.h d l) (rk:w.vr κ k key) (h:Z1 c k l=some r) (rv:w.vr κ v dv):
  (∃ a f,(C0 κ.prog κ.wld).is a key=true/\w.h.MapOf (C0 κ.prog κ.wld) d f/\w.vr κ (r.getD v) ((f a).getD dv))∨
  (∃ a dd xs,key=.ref a/\(TD w.h dd (.ref a)/\dep dd<=8)/\@Heap.DictOfH κ.prog κ.wld PyData K2 (y5 κ.prog κ.wld) w.h d xs/\w.vr κ (r.getD v) (((@atKey PyData K2 xs dd).map (·.2)).getD dv)):=by
 obtain ⟨h1,h2⟩:=U7 h
 have ho:∀ y,Opt (A4 κ w.φ w.n w.h) r y->w.vr κ (r.getD v) (y.getD dv):=λy hy=>by
  induction r using ae<;>induction y using ae
  ·exact rv
  ·exact hy.elim
  ·exact hy.elim
  ·exact hy
 rcases H7 h1 rk with ⟨h3,a,h4,h5⟩ | ⟨h3,dd,a,h4,rfl,h5,h6⟩
 ·refine C5 (H3 rd (H9 h2) h3) λks hm hv=>?_
  exact .inl ⟨a,_,h5,hm.mapOf,ho _ (Q0 h4 hv h2)⟩
 ·refine C5 (L7 rd (H9 h2) h3) λxs hm hv=>?_
  exact .inr ⟨a,dd,xs,rfl,⟨h5,h6⟩,O9 hm hv,ho _ (V8 h4 hv h2)⟩
theorem C5t (I:A7 κ w) {i:Nat} {l l':List (V×V)} {k v:V} {key x:Value} {u:Unit} {es':St} (hg:w.es.t.get i=some (.dict l)) (rk:w.vr κ k key) (rv:w.vr κ v x) (h:M4 c k v l=some l') (hs:B6c i l' w.es=.ok u es') (hu:A.units + 20 < cLine):
  wpAny κ.m A (PySem.setItem (.ref (w.φ i)) key x) (A1 κ [] w es' λ_ _=>True) D1 w.s:=by
 refine O8 (I.obj _ _ hg) λhi hl rd=>?_
 obtain ⟨hl',hs⟩:=B0i hs
 obtain ⟨h1,h2⟩:=N1 h
 have hz:(10000:Nat)<=sizeLine:=by decide
 rcases H7 h1 rk with ⟨h3,a,h4,h5⟩ | ⟨h3,dd,a,h4,rfl,h5,h6⟩
 ·refine C5 (H3 rd (L0 h2) h3) λks hm hv=>?_
  refine L8 (id hm) λ_ _ _ _ _ _ _ _ hnd=>?_
  refine wpAny_setItem_pairs (knd:=C0 κ.prog κ.wld) h5 hm (λh' hm' hb=>?_) (by rw [<- hv.length]; omega)
  refine L9 (s':={ w.s with heap:=h',toks:=_ }) (R:=λ_ _=>True) I hs hg hb ⟨rfl,rfl,rfl⟩ (.inl ⟨rfl,λ_ _=>by simp,λ_ _=>by simp⟩) (by simp) (let ⟨o,_,_,ho,_⟩:=hm'; ⟨o,ho⟩) (λup=>⟨hl',.inl ⟨_,hm',?_⟩⟩) trivial
  exact X0 (c:=c) h4 (rv.up up) (hv.up up) hnd h2
 ·refine C5 (L7 rd (L0 h2) h3) λxs hm hv=>?_
  refine K0 (id hm) λ_ _ _ _ _ _ _ hnd=>?_
  refine @wpAny_setItem_heap κ.prog κ.wld PyData K2 (y5 κ.prog κ.wld) A D1 w.s (w.φ i) a dd xs x _ (by show A.units + 1 + 8 < _; omega) ⟨h5,h6⟩ (O9 hm hv) (λh' hm' hb=>?_) (by rw [<- hv.length]; omega)
  refine L9 (s':={ w.s with heap:=h',toks:=_ }) (R:=λ_ _=>True) I hs hg hb ⟨rfl,rfl,rfl⟩ (.inl ⟨rfl,λ_ _=>by simp,λ_ _=>by simp⟩) (by simp) (let ⟨o,_,_,ho,_⟩:=hm'; ⟨o,ho⟩) (λup=>⟨hl',.inr ⟨_,?_,f6 (c:=c) h4 h1 h3 (rk.up up) (rv.up up) (hv.up up) hnd h2⟩⟩) trivial
  refine L8 hm' λo es ep q1 q2 q3 q4 q5 q6=>?_; clear hm'
  exact ⟨o,es,ep,q1,q2,q3,q4,q6⟩
end
noncomputable def opC:Nat->Option CmpOp
 | 0=>some .Eq | 1=>some .NotEq | 2=>some .Lt | 3=>some .LtE | 4=>some .Gt | 5=>some .GtE | 6=>some .Is | 7=>some .IsNot | 8=>some .In | 9=>some .NotIn
 | _=>none
section
variable {κ:Kx} {c:Cx} {A:aI} {w:W} {E:Value->ak->Prop}
noncomputable abbrev A6b (κ:Kx) (A:aI) (w:W) (E:Value->ak->Prop) (o:CmpOp) (x y:Value) (r:Bool):Prop:=
 ∀ {Q:Value->ak->Prop},(∀ t,Q (.bool r) { w.s with toks:=t })->wpAny κ.m A (compareOp o x y) Q E w.s
theorem D2v (hc:D9 κ c) {a b:V} {x y:Value} {r:Bool} {es':St} (ra:w.vr κ a x) (rb:w.vr κ b y) (h:ltV c a b w.es=.ok r es'):
  es'=w.es/\∃ m n t u,x=.int m t/\y=.int n u/\decide (m < n)=r:=by
 induction ra using A4.el with
 | int e=>
  induction rb using A4.el with
  | int e'=>
   obtain ⟨h1,h2⟩:=D6 h
   refine ⟨h2,_,_,_,_,rfl,rfl,?_⟩
   have:=D7w hc h1
   rw [e,e'] at this; exact this
  | big e'=>
   rename_i i _ _ _ _
   induction i using I.casesOn with
   | lit k=>
    induction k using Int.casesOn with
    | ofNat k=>
     induction k using aU with
     | zero=>
      obtain ⟨h1,h2⟩:=A3 h
      refine ⟨h2,_,_,_,_,rfl,rfl,?_⟩
      have e0:(0:Int)=_:=e
      rw [<- e0,h1,hc.wide]; exact e'
     | succ k=>exact (A0 (s:=w.es) h).elim
    | negSucc k=>exact (A0 (s:=w.es) h).elim
   | _=>exact (A0 (s:=w.es) h).elim
  | opq y=>exact (A0 (s:=w.es) h).elim
  | _=>exact (A0 (s:=w.es) h).elim
 | opq x=>exact (A0 (s:=w.es) h).elim
 | _=>exact (A0 (s:=w.es) h).elim
theorem B6p {a:V} {x:Value} {r:Bool} (ra:w.vr κ a x) (h:C7v a=some r):(x == .none)=r:=by
 induction ra using A4.el<;>first | exact ac h | exact U6 h
theorem A1e {a b:V} {x y:Value} {r:Bool} (ra:w.vr κ a x) (rb:w.vr κ b y) (h:A0x a b=some r):y=.none/\(x == .none)=r:=by
 induction rb using A4.el with
 | none=>exact ⟨rfl,B6p ra h⟩
 | _=>exact U6 h
theorem Z7 {m:M Bool} {s s':St} {r:Bool} (h:A6a m s=.ok r s'):∃ q,m s=.ok q s'/\r=!q:=by
 refine B8 h λq s1 h1 h2=>?_
 obtain ⟨h3,h4⟩:=A3 h2
 exact ⟨q,h4 ▸ h1,h3⟩
theorem B0t (hc:D9 κ c) (I:A7 κ w) {a b:V} {x y:Value} {r:Bool} {es':St} (hu:A.units + 60 < cLine) (ra:w.vr κ a x) (rb:w.vr κ b y) (h:C2y c a b w.es=.ok r es'):
  es'=w.es/\A6b κ A w E .In x y r/\A6b κ A w E .NotIn x y (!r):=by
 have hu':A.in1.units + 30 < cLine:=by show A.units + 1 + 30 < _; omega
 induction rb using A4.el with
 | tup h1 h2 h3 h4 h5 h6=>
  have h':lift (A5g c w.es.t a _) w.es=.ok r es':=h
  obtain ⟨h7,h8⟩:=D6 h'
  obtain ⟨h9,h10⟩:=A5r hc I ra hu' h7 h6
  refine ⟨h8,λ{Q} q=>?_,λ{Q} q=>?_⟩
  ·exact in_tupleAt _ (B0 h1 h2 h3) (λz hz=>h9 z (Array.mem_toList_iff.mpr hz)) (by rw [<- Array.any_toList,h10]; exact q _)
  ·exact notIn_tupleAt _ (B0 h1 h2 h3) (λz hz=>h9 z (Array.mem_toList_iff.mpr hz)) (by rw [<- Array.any_toList,h10]; exact q _)
 | ref hk e=>
  refine gOn h λo h3 h2=>?_
  obtain ⟨hi,ro⟩:=I.obj _ _ h3
  subst e
  induction o using O.casesOn with
  | list l=>
   refine E2 ro λitems hl _ hv=>?_; clear ro
   have hl:=hl.isList
   obtain ⟨h7,h8⟩:=D6 h2
   obtain ⟨h9,h10⟩:=A5r hc I ra hu' h7 hv
   refine ⟨h8,λ{Q} q=>?_,λ{Q} q=>?_⟩
   ·exact in_listAt _ hl (λz hz=>h9 z (Array.mem_toList_iff.mpr hz)) (by rw [<- Array.any_toList,h10]; exact q _)
   ·exact notIn_listAt _ hl (λz hz=>h9 z (Array.mem_toList_iff.mpr hz)) (by rw [<- Array.any_toList,h10]; exact q _)
  | dict l=>
   refine lfn h2 λv h6 h5=>?_
   obtain ⟨h7,h8⟩:=A3 h5
   refine ⟨h8,λ{Q} q=>?_,λ{Q} q=>?_⟩
   ·exact D3g (A:=A) ro.2 (I.sm hk) ra h6 (by omega) (λt=>h7 ▸ q t)
   ·exact B4f (A:=A) ro.2 (I.sm hk) ra h6 (by omega) (λt=>h7 ▸ q t)
  | inst k l=>exact (A0 h2).elim
  | chest=>exact (A0 h2).elim
  | pair=>exact (A0 h2).elim
  | tab=>exact (A0 h2).elim
 | opq y=>exact (A0 (s:=w.es) h).elim
 | _=>exact (A0 (s:=w.es) h).elim
theorem D6z {P:Nat->CmpOp->Prop} {op:Nat} {o:CmpOp} (h:opC op=some o) (p0:P 0 .Eq) (p1:P 1 .NotEq) (p2:P 2 .Lt) (p3:P 3 .LtE) (p4:P 4 .Gt) (p5:P 5 .GtE) (p6:P 6 .Is) (p7:P 7 .IsNot) (p8:P 8 .In) (p9:P 9 .NotIn):P op o:=by
 cases op with
 | zero=>exact ac h ▸ p0
 | succ op=>cases op with
  | zero=>exact ac h ▸ p1
  | succ op=>cases op with
   | zero=>exact ac h ▸ p2
   | succ op=>cases op with
    | zero=>exact ac h ▸ p3
    | succ op=>cases op with
     | zero=>exact ac h ▸ p4
     | succ op=>cases op with
      | zero=>exact ac h ▸ p5
      | succ op=>cases op with
       | zero=>exact ac h ▸ p6
       | succ op=>cases op with
        | zero=>exact ac h ▸ p7
        | succ op=>cases op with
         | zero=>exact ac h ▸ p8
         | succ op=>cases op with
          | zero=>exact ac h ▸ p9
          | succ op=>exact U6 h
theorem B0e (hc:D9 κ c) {a b:V} {x y:Value} {r:Bool} {es':St} (ra:w.vr κ a x) (rb:w.vr κ b y) (h:ltV c a b w.es=.ok r es'):es'=w.es/\A6b κ A w E .Lt x y r/\A6b κ A w E .GtE x y (!r)/\A6b κ A w E .Gt y x r/\A6b κ A w E .LtE y x (!r):=by
 refine B5c (D2v hc ra rb h) λh1 m n t u q5' q6' h2=>?_; subst q5'; subst q6'
 have e:decide (n<=m)=!r:=by rw [<- h2,Bool.eq_iff_iff]; simp
 exact ⟨h1,λ{Q} q=>PyProof.Rows.lt_int (by rw [h2]; exact q w.s.toks),λ{Q} q=>PyProof.Rows.ge_int (by rw [e]; exact q w.s.toks),λ{Q} q=>PyProof.Rows.gt_int (by rw [h2]; exact q w.s.toks),λ{Q} q=>PyProof.Rows.le_int (by rw [e]; exact q w.s.toks)⟩
theorem j6 (hc:D9 κ c) (I:A7 κ w) {op:Nat} {o:CmpOp} (ho:opC op=some o) {a b:V} {x y:Value} {r:Bool} {es':St} (hu:A.units + 60 < cLine) (ra:w.vr κ a x) (rb:w.vr κ b y) (h:f0 c op a b w.es=.ok r es'):
  es'=w.es/\A6b κ A w E o x y r:=by
 have hu':A.units + 30 < cLine:=bo (Nat.add_le_add_left (by decide) _) hu
 revert h
 refine D6z (P:=λop o=>f0 c op a b w.es=.ok r es'->es'=w.es/\A6b κ A w E o x y r) ho (λh=>⟨(D6 h).2,λ{Q} q=>(B9s hc I hu' (D6 h).1 ra rb).1 _ _ _ _ (q w.s.toks)⟩) (λh=>C5 (Z7 (m:=eqM c a b) h) λp h0 e=>?_) (λh=>O8 (B0e hc ra rb h) λh1 h2 _=>⟨h1,h2⟩)
  (λh=>C5 (Z7 (m:=ltV c b a) h) λp h0 e=>A2f (B0e hc rb ra h0) λh1 _ _ _ h2=>⟨h1,e ▸ h2⟩) (λh=>A2f (B0e hc rb ra h) λh1 _ _ h2 _=>⟨h1,h2⟩) (λh=>C5 (Z7 (m:=ltV c a b) h) λp h0 e=>B7s (B0e hc ra rb h0) λh1 _ h2 _=>⟨h1,e ▸ h2⟩)
  (λh=>?_) (λh=>C5 (Z7 (m:=lift (A0x a b)) h) λp h0 e=>?_)
  (λh=>O8 (B0t (E:=E) hc I hu ra rb h) λh1 h2 _=>⟨h1,h2⟩) λh=>C5 (Z7 (m:=C2y c a b) h) λp h0 e=>O8 (B0t (E:=E) hc I hu ra rb h0) λh1 _ h3=>⟨h1,e ▸ h3⟩
 ·have h0':lift (eqD c w.es.t 30 a b) w.es=.ok p es':=h0
  subst e
  exact ⟨(D6 h0').2,λ{Q} q=>(B9s hc I hu' (D6 h0').1 ra rb).2 _ _ _ _ (q w.s.toks)⟩
 ·obtain ⟨h1,h2⟩:=D6 (o:=A0x a b) h
  obtain ⟨q,h3⟩:=A1e ra rb h1
  subst q
  exact ⟨h2,λ{Q} k=>is_none_gen (by rw [h3]; exact k w.s.toks)⟩
 ·obtain ⟨h1,h2⟩:=D6 h0
  obtain ⟨q,h3⟩:=A1e ra rb h1
  subst q
  exact ⟨h2,λ{Q} k=>isnot_none_gen (by rw [h3,<- e]; exact k w.s.toks)⟩
end
section
variable {κ:Kx} {rn:F5} {f n:Nat} {nm:List (Str×aK)}
theorem B7.u60 {A:aI} (g:B7 A f n):A.units + 60 < cLine:=by have:=g.units; show _ < 9900; omega
theorem K7 {s s':St} {r b:Bool} (h:Mine.truthy (.bool r) s=.ok b s'):b=r/\s'=s:=A3 (s:=s) h
theorem D6i {a b:CX} {x y:Expr} {op:Nat} {o:CmpOp} {pos} (ho:opC op=some o) (hm:behindInMarks o y=false) (ha:SX κ rn f n nm a x) (hb:SX κ rn f n nm b y):SE κ rn f n nm (A6f op a b) (.Compare x [o] [y] pos):=by
 refine ⟨λA c ev env w hA hc I r hn v es' h=>?_,λA c ev env w hA hc I r hn v es' h=>?_⟩
 ·refine A2 h λv1 s1 h1 h2=>?_
  refine A2 h2 λv2 s2 h3 h4=>?_
  refine A2 h4 λv3 s3 h5 h6=>?_
  cases h6
  refine wpAny_Compare1 (af (ha A c ev env w hA hc I r hn v1 s1 h1) (λval s₁ p=>?_) λ_ _ x=>x) hm
  obtain ⟨φ1,le,inv,hr⟩:=p
  refine af (hb A c ev env ⟨φ1,s1,s₁⟩ hA hc inv (r.le le) hn v2 s2 h3) (λval2 s₂ p2=>?_) λ_ _ x=>x
  obtain ⟨φ2,le2,inv2,hr2⟩:=p2
  obtain ⟨e1,e2⟩:=j6 (A:=A) (E:=D1) (w:=⟨φ2,s2,s₂⟩) hc inv2 ho hA.u60 (le2.vr hr) hr2 h5
  rw [show es'=s2 from e1]
  exact e2 λt=>(A1.toks (X:=[]) (w:=⟨φ2,s2,s₂⟩) (R:=E5 κ (.bool v3)) inv2 (.bool v3)).lift (le.comp le2)
 ·refine A2 h λv' s' h0 h5=>?_
  refine A2 h0 λv1 s1 h1 h2=>?_
  refine A2 h2 λv2 s2 h3 h4=>?_
  refine A2 h4 λv3 s3 h6 h7=>?_
  cases h7
  obtain ⟨rfl,e9⟩:=K7 h5
  rw [e9]
  refine wpAny_isTrue_Compare1 (af (ha A c ev env w hA hc I r hn v1 s1 h1) (λval s₁ p=>?_) λ_ _ x=>x) hm
  obtain ⟨φ1,le,inv,hr⟩:=p
  refine af (hb A c ev env ⟨φ1,s1,s₁⟩ hA hc inv (r.le le) hn v2 s2 h3) (λval2 s₂ p2=>?_) λ_ _ x=>x
  obtain ⟨φ2,le2,inv2,hr2⟩:=p2
  obtain ⟨e1,e2⟩:=j6 (A:=A) (E:=D1) (w:=⟨φ2,s2,s₂⟩) hc inv2 ho hA.u60 (le2.vr hr) hr2 h6
  rw [show s'=s2 from e1]
  exact e2 λt=>wpAny_truthy_bool ((A1.toks (X:=[]) (w:=⟨φ2,s2,s₂⟩) (R:=λ_ b=>b=v) inv2 rfl).lift (le.comp le2))
theorem C4f {a b d:CX} {x y z:Expr} {o1 o2:Nat} {p1 p2:CmpOp} {pos} (ho:opC o1=some p1) (ho':opC o2=some p2) (hm:behindInMarks p2 z=false) (ha:SX κ rn f n nm a x) (hb:SX κ rn f n nm b y) (hd:SX κ rn f n nm d z):
  SE κ rn f n nm (C7t o1 o2 a b d) (.Compare x [p1,p2] [y,z] pos):=by
 have hmm:lastMarks [p1,p2] [y,z]=false:=by simpa [lastMarks] using hm
 refine ⟨λA c ev env w hA hc I r hn v es' h=>?_,λA c ev env w hA hc I r hn v es' h=>?_⟩
 ·refine A2 h λv1 s1 h1 h2=>?_
  refine A2 h2 λv2 s2 h3 h4=>?_
  refine A2 h4 λv3 s3 h5 h6=>?_
  refine Compare_chain (ops:=[]) (rs:=[]) (af (ha A c ev env w hA hc I r hn v1 s1 h1) (λval s₁ p=>?_) λ_ _ x=>x) hmm
  obtain ⟨φ1,le,inv,hr⟩:=p
  refine chain_link (af (hb A c ev env ⟨φ1,s1,s₁⟩ hA hc inv (r.le le) hn v2 s2 h3) (λval2 s₂ p2=>?_) λ_ _ x=>x)
  obtain ⟨φ2,le2,inv2,hr2⟩:=p2
  obtain ⟨e1,e2⟩:=j6 (A:=A) (E:=D1) (w:=⟨φ2,s2,s₂⟩) hc inv2 ho hA.u60 (le2.vr hr) hr2 h5
  rw [show s3=s2 from e1] at h6
  refine e2 λt=>wpAny_truthy_bool ?_
  induction v3 using ao with
  | false=>
   cases h6
   exact (A1.toks (X:=[]) (w:=⟨φ2,es',s₂⟩) (R:=E5 κ (.bool false)) inv2 (.bool false)).lift (le.comp le2)
  | true=>
   refine A2 h6 λv4 s4 h7 h8=>?_
   refine A2 h8 λv5 s5 h9 h10=>?_
   cases h10
   have le3:=(le.comp le2).comp (Le.toks (X:=[]) (w:=⟨φ2,s2,s₂⟩) t)
   refine chain_last (af (hd A c ev env ⟨φ2,s2,{ s₂ with toks:=t }⟩ hA hc (inv2.toks t) (r.le le3) hn v4 s4 h7) (λval3 s₃ p3=>?_) λ_ _ x=>x)
   obtain ⟨φ3,le4,inv3,hr3⟩:=p3
   obtain ⟨e3,e4⟩:=j6 (A:=A) (E:=D1) (w:=⟨φ3,s4,s₃⟩) hc inv3 ho' hA.u60 (le4.vr ((Le.toks (X:=[]) t).vr hr2)) hr3 h9
   rw [show es'=s4 from e3]
   exact e4 λt=>(A1.toks (X:=[]) (w:=⟨φ3,s4,s₃⟩) (R:=E5 κ (.bool v5)) inv3 (.bool v5)).lift (le3.comp le4)
 ·refine A2 h λv' s' h0 h50=>?_
  refine A2 h0 λv1 s1 h1 h2=>?_
  refine A2 h2 λv2 s2 h3 h4=>?_
  refine A2 h4 λv3 s3 h5 h6=>?_
  refine isTrue_chain (ops:=[]) (rs:=[]) (af (ha A c ev env w hA hc I r hn v1 s1 h1) (λval s₁ p=>?_) λ_ _ x=>x) hmm
  obtain ⟨φ1,le,inv,hr⟩:=p
  refine test_link (af (hb A c ev env ⟨φ1,s1,s₁⟩ hA hc inv (r.le le) hn v2 s2 h3) (λval2 s₂ p2=>?_) λ_ _ x=>x)
  obtain ⟨φ2,le2,inv2,hr2⟩:=p2
  obtain ⟨e1,e2⟩:=j6 (A:=A) (E:=D1) (w:=⟨φ2,s2,s₂⟩) hc inv2 ho hA.u60 (le2.vr hr) hr2 h5
  rw [show s3=s2 from e1] at h6
  refine e2 λt=>wpAny_truthy_bool ?_
  induction v3 using ao with
  | false=>
   cases h6
   obtain ⟨rfl,e9⟩:=K7 h50
   subst e9
   exact (A1.toks (X:=[]) (w:=⟨φ2,es',s₂⟩) (R:=λ_ b=>b=false) inv2 rfl).lift (le.comp le2)
  | true=>
   refine A2 h6 λv4 s4 h7 h8=>?_
   refine A2 h8 λv5 s5 h9 h10=>?_
   cases h10
   obtain ⟨rfl,e9⟩:=K7 h50
   rw [e9]
   have le3:=(le.comp le2).comp (Le.toks (X:=[]) (w:=⟨φ2,s2,s₂⟩) t)
   refine test_last (af (hd A c ev env ⟨φ2,s2,{ s₂ with toks:=t }⟩ hA hc (inv2.toks t) (r.le le3) hn v4 s4 h7) (λval3 s₃ p3=>?_) λ_ _ x=>x)
   obtain ⟨φ3,le4,inv3,hr3⟩:=p3
   obtain ⟨e3,e4⟩:=j6 (A:=A) (E:=D1) (w:=⟨φ3,s4,s₃⟩) hc inv3 ho' hA.u60 (le4.vr ((Le.toks (X:=[]) t).vr hr2)) hr3 h9
   rw [show s'=s4 from e3]
   exact e4 λt=>wpAny_truthy_bool ((A1.toks (X:=[]) (w:=⟨φ3,s4,s₃⟩) (R:=λ_ b=>b=v) inv3 rfl).lift (le3.comp le4))
end
theorem B8x {l:List V} {k:Int} {v:V} (h:idx l k=some v):∃ j,seqIndex? k l.length=some j/\l[j]?=some v/\-(l.length:Int)<=k/\k < l.length/\(0<=k->j=k.toNat)/\(k < 0->j=(k + l.length).toNat):=by
 unfold idx at h
 induction k using Int.casesOn with
 | ofNat k=>
  have h':l[k]?=some v:=h
  have hl:k < l.length:=(List.getElem?_eq_some_iff.mp h').1
  have hk:(aQ k:Int)=(k:Int):=rfl
  refine ⟨k,?_,h',by rw [hk]; omega,by rw [hk]; omega,λ_=>rfl,λq=>by rw [hk] at q; omega⟩
  unfold seqIndex?
  rw [hk]
  have:¬ ((k:Int) < 0):=by omega
  simp only [this,if_false]
  rw [if_pos (by simp only [az,decide_eq_true_eq]; omega)]; rfl
 | negSucc k=>
  have h':D5 (be (Nat.succ k) l.length) (l[Nat.sub l.length (Nat.succ k)]?) none=some v:=h
  rw [E1] at h'
  split at h'
  ·rename_i hb
   have hb:=aj hb
   have hk:(Int.negSucc k:Int)=-((k:Int) + 1):=by omega
   have hs:Nat.sub l.length (Nat.succ k)=l.length - (k + 1):=rfl
   rw [hs] at h'
   refine ⟨l.length - (k + 1),?_,h',by rw [hk]; omega,by rw [hk]; omega,λq=>by rw [hk] at q; omega,λ_=>by rw [hk]; omega⟩
   unfold seqIndex?
   rw [hk]
   have h1:(-((k:Int) + 1) < 0):=by omega
   simp only [h1,if_true]
   rw [if_pos (by simp only [az,decide_eq_true_eq]; omega)]
   congr 1; omega
  ·cases h'
section
variable {κ:Kx} {c:Cx} {A:aI} {w:W}
theorem G7 {a:Addr} {o:Obj} {items:Array Value} {e:Nat} {h:Heap} (ho:h.get? a=some o) (hc:o.cls=.type "tuple") (hd:o.data=.seq items e):IsTup h a items:=⟨o,ho,hc,e,hd⟩
noncomputable abbrev o4 (κ:Kx) (A:aI) (w:W) (v:V) (x y:Value):Prop:=
 (∃ T id,typeLookup (.type T) "__getitem__"=pure (some (.builtin id))/\w.s.TypeIs x T)/\
 ∀ {Q:Value->ak->Prop} {E:Value->ak->Prop},(∀ z t,w.vr κ v z->Q z { w.s with toks:=t })->wpAny κ.m A (PySem.getItem x y) Q E w.s
theorem A5v {a:Addr} {items:Array Value} {l:List V} (hl:w.h.IsList a items) (hlen:l.length<=10000) (hv:w.vrs κ l items.toList) {k:Int} {t:Tok} {v:V} (h:idx l k=some v):
  o4 κ A w v (.ref a) (.int k t):=by
 refine B0k (B8x h) λj h1 h2 h3 h4 h5 h6=>?_
 refine C5 (hv.get h2) λx h7 h8=>?_
 have h7:items[j]?=some x:=by rw [<- h7]; simp
 have hs:l.length=items.size:=by rw [hv.length,am]
 refine ⟨⟨"list",_,list_getitem_lookup,hl.typeIs⟩,λ{Q E} q=>?_⟩
 by_cases hk:0<=k
 ·exact wpAny_getItem_list hl hk (by omega) (by rw [<- h5 hk]; exact h7) (q x w.s.toks h8)
 ·exact wpAny_getItem_list_neg hl (by omega) (by rw [<- hs]; exact h3) (by omega) (by rw [<- hs,<- h6 (by omega)]; exact h7) (q x w.s.toks h8)
theorem B2t {l:List V} {q:Nat} (h:A7w l q=true):∃ r,l=.str 43::.str 45::r/\((r=[]/\q<=2)∨(r=[.str 42]/\q<=3)):=
 C7h h (λe h=>⟨_,I0 e,.inr ⟨rfl,aj h⟩⟩) λh=>C7h h (λe h=>⟨_,I0 e,.inl ⟨rfl,aj h⟩⟩) λh=>ff h
theorem D3j {l:List V} {k:Int} {q:Nat} (hb:A7w l q=true) (g1:0<=k) (g2:k < q):idx l k=some (.str (sgc k)):=by
 refine C5 (B2t hb) λr q49' hr=>?_; subst q49'
 have h3:k=0∨k=1∨(k=2/\r=[.str 42]):=by
  rcases hr with ⟨rfl,hr⟩ | ⟨rfl,hr⟩
  ·omega
  ·have:k=0∨k=1∨k=2:=by omega
   exact this.imp id λa=>a.imp id λa=>⟨a,rfl⟩
 rcases h3 with rfl | rfl | ⟨rfl,rfl⟩<;>rfl
theorem B5d (hc:D9 κ c) {a:Addr} {items:Array Value} {l:List V} (hl:w.h.IsList a items) (hlen:l.length<=10000) (hv:w.vrs κ l items.toList) {i v:V} {y:Value} {es':St} (ri:w.vr κ i y) (h:C6m c l i w.es=.ok v es'):es'=w.es/\o4 κ A w v (.ref a) y:=
 C1m (P:=λy=>es'=w.es/\o4 κ A w v (.ref a) y) ri h λi n t e h=>J9 (P:=λi (f:M V)=>i.val κ.rho=n->f w.es=.ok v es'->es'=w.es/\o4 κ A w v (.ref a) (.int n t)) (λk e h=>⟨(D6 h).2,(show k=n from e) ▸ A5v hl hlen hv (D6 h).1⟩)
  (λi=>C8j (P:=λi (f:M V)=>i.val κ.rho=n->f w.es=.ok v es'->es'=w.es/\o4 κ A w v (.ref a) (.int n t)) (λk e h=>lfn (s:=w.es) h λq hm h=>cF h λhb h=>N3 (P:=λv es'=>es'=w.es/\o4 κ A w v (.ref a) (.int n t)) h (by
   have e:κ.rho k=n:=e
   subst e
   obtain ⟨g1,g2⟩:=hc.many k q hm
   obtain ⟨k2,k3⟩:=A5v (A:=A) (t:=t) hl hlen hv (D3j hb g1 g2)
   refine ⟨rfl,k2,λ{Q E} q=>k3 λz t rz=>q z t ?_⟩
   induction rz using A4.elS with
   | str hx=>exact .sgn hx)) λ_ _ h=>(A0 (s:=w.es) h).elim) e h
theorem C5y {n:Nat} {x:Str} {t:Tok} (hx:SV n x) {i v:V} {y:Value} {es':St} (ri:w.vr κ i y) (h:C7b n i w.es=.ok v es'):es'=w.es/\o4 κ A w v (.str x t) y:=cF h λhb h=>b2 hb λhz hb=>N3 (P:=λv es'=>es'=w.es/\o4 κ A w v (.str x t) y) h (O0 (P:=λy=>w.es=w.es/\o4 κ A w _ (.str x t) y) (A3z hz) ri λu=>by
 obtain ⟨hx1,hx2⟩:=hx
 induction hl:x.cps.toList using av with
 | nil=>rw [hl] at hx2; exact absurd (hx2 ▸ nt hb) (λh=>Bool.noConfusion h)
 | cons a l=>
  rw [hl] at hx1 hx2
  have hs:x.cps.size=l.length + 1:=by rw [<- am,hl]; rfl
  have ha:x.cps[0]?=some a:=by rw [<- Array.getElem?_toList,hl]; rfl
  refine ⟨rfl,⟨"str",_,slot_str_getitem.lookup,typeIs_str _ _ _⟩,λ{Q E} q=>PyProof.Rows.getItem_str (c:=a) (by decide) ?_ (q _ _ (.str ?_))⟩
  ·have hq:seqIndex? 0 x.length=some 0:=by
    unfold seqIndex?
    have:x.length=l.length + 1:=hs
    rw [this]
    simp only [show ¬ ((0:Int) < 0) by decide,if_false]
    rw [if_pos (by simp only [az,decide_eq_true_eq]; omega)]; rfl
   rw [hq]; exact ha
  ·refine b2 hx1 λh1 h2=>?_
   have h1:t6 [a]=true:=bX.mpr ⟨h1,rfl⟩
   refine ⟨h1,?_⟩
   show E4 [a]=n / 256 ^ (A0d n - 1)
   have e1:E4 (a::l)=a * 256 ^ l.length + E4 l:=by
    have:=H8 [a] l
    simpa [E4] using this
   have hb:A0d n - 1=l.length:=by rw [<- hx2,A2z hx1]; rfl
   rw [hb,<- hx2,e1,Nat.mul_comm,Nat.mul_add_div (Nat.pow_pos (by decide)),Nat.div_eq_of_lt (B0l _ h2)]
   simp [E4])
theorem A7z (hc:D9 κ c) (I:A7 κ w) {o i v:V} {x y:Value} {es':St} (hu:A.units + 60 < cLine) (ra:w.vr κ o x) (ri:w.vr κ i y) (h:Mine.getItem c i o w.es=.ok v es'):es'=w.es/\o4 κ A w v x y:=by
 induction ra using A4.el with
 | @tup l a ob items ep h1 h2 h3 h4 h5 h6=>
  refine lfn (s:=w.es) h λk hk h'=>?_
  obtain ⟨h7,h8⟩:=D6 h'
  refine O0 (P:=λy=>es'=w.es/\o4 κ A w v (.ref a) y) hk ri λt=>?_
  refine B0k (B8x h7) λj g1 g2 g3 g4 g5 g6=>?_
  refine C5 (h6.get g2) λz g7 g8=>?_
  have hs:l.length=items.size:=h6.length.trans am
  rw [hs] at g1 g3 g4
  exact ⟨h8,⟨"tuple",_,slot_tuple_getitem.lookup,(G7 h1 h2 h3).typeIs⟩,λ{Q E} q=>PyProof.Rows.getItem_tuple (G7 h1 h2 h3) (by omega) (by omega) g1 (by rw [<- g7]; simp) (q z w.s.toks g8)⟩
 | ref hk e=>
  refine gOn h λob h3 h2=>?_
  obtain ⟨hi,ro⟩:=I.obj _ _ h3
  subst e
  induction ob using O.casesOn with
  | list l=>exact E2 ro λitems hl hlen hv=>B5d hc hl.isList hlen hv ri h2
  | dict l=>
   refine lfn h2 λr h6 h5=>?_
   obtain ⟨h7,h8⟩:=D6 h5
   subst h7
   refine ⟨h8,?_,λ{Q E} q=>C5h (A:=A) ro.2 ri h6 (bo (Nat.add_le_add_left (by decide) _) hu) λz t rz=>q z t rz⟩
   obtain ⟨_,⟨ks,hm,_⟩ | ⟨xs,⟨ob,es,ep,ho,hx,_⟩,_⟩⟩:=ro
   ·exact ⟨"dict",_,slot_dict_getitem.lookup,hm.typeIs⟩
   ·exact ⟨"dict",_,slot_dict_getitem.lookup,⟨ob,ho,hx.1⟩⟩
  | chest=>
   refine cF (s:=w.es) h2 λhz h=>O0 (P:=λy=>es'=w.es/\o4 κ A w v (.ref (w.φ _)) y) (A3z hz) ri λu=>?_
   obtain ⟨rfl,h8⟩:=A3 (s:=w.es) h
   refine C4r ro λ_ t1 t2 hl=>?_
   have hl:=hl.isList
   exact ⟨h8,⟨"list",_,list_getitem_lookup,hl.typeIs⟩,λ{Q E} q=>wpAny_getItem_list hl (by decide) (by decide) rfl (q _ w.s.toks (.big (hc.chw _)))⟩
  | _=>exact (A0 (s:=w.es) h2).elim
 | str hx=>exact C5y hx ri h
 | _=>exact (A0 (s:=w.es) h).elim
theorem o8 {x y:Value} (slice:Expr):∃ ops,subscripted slice false x y=operate ops (PySem.getItem x y):=by
 induction slice using Expr.casesOn with
 | Slice a b c p=>induction c using ae<;>exact ⟨_,rfl⟩
 | _=>exact ⟨_,rfl⟩
theorem Y8 {value slice:Expr} {x y:Value} {Q:Value->ak->Prop} {E:Value->ak->Prop} {s:ak} (g:∃ T id,typeLookup (.type T) "__getitem__"=pure (some (.builtin id))/\s.TypeIs x T)
  (h:wpAny κ.m A (PySem.getItem x y) Q E s):wpAny κ.m A (subscriptTail value slice x y) Q E s:=by
 refine C2k g λT id hl hT=>?_; clear g
 unfold subscriptTail
 refine ab ?_
 rw [getitemInPython_of_ne hT.not_modules]
 refine ab (wpAny_specialOf hT hl ?_)
 have fin:wpAny κ.m A (subscripted slice false x y) (λr s₃=>wpAny κ.m A (letTemporaryGo value x r >>= λ_=>pure r) Q E s₃) E s:=by
  refine (o8 slice).elim λops hs=>hs.symm ▸ ?_
  exact wpAny_operating (af h (λr s₃ h₃=>ab (wpAny_letTemporaryGo (ag h₃))) λ_ _ x=>x)
 first
  | exact ag (ab fin)
  | exact ab (ag (ab fin))
  | exact ab fin
end
section
variable {κ:Kx} {rn:F5} {f n:Nat} {nm:List (Str×aK)}
theorem C9w {a b:CX} {x y:Expr} {pos} (ha:SX κ rn f n nm a x) (hb:SX κ rn f n nm b y):SE κ rn f n nm (B9e a b) (.Subscript x y pos):=
 SE.value (λA c ev env w hA hc I r hn v es' h=>by
  refine A2 h λv1 s1 h1 h2=>?_
  refine A2 h2 λv2 s2 h3 h4=>?_
  refine Subscript_ (af (ha A c ev env w hA hc I r hn v1 s1 h1) (λval s₁ p=>?_) λ_ _ x=>x)
  obtain ⟨φ1,le,inv,hr⟩:=p
  refine af (hb A c ev env ⟨φ1,s1,s₁⟩ hA hc inv (r.le le) hn v2 s2 h3) (λval2 s₂ p2=>?_) λ_ _ x=>x
  obtain ⟨φ2,le2,inv2,hr2⟩:=p2
  refine O8 (A7z (A:=A) (w:=⟨φ2,s2,s₂⟩) hc inv2 hA.u60 (le2.vr hr) hr2 h4) λe1 g1 g2=>?_
  have e1':es'=s2:=e1
  subst e1'
  exact Y8 g1 (g2 λz t rz=>(A1.toks (X:=[]) (w:=⟨φ2,es',s₂⟩) (R:=E5 κ v) (t:=t) inv2 rz).lift (le.comp le2))) λ_ _=>rfl
end
noncomputable def D9z (e:Expr):Bool:=C2f e λg es ks _=>es.isEmpty && ks.isEmpty && y9 g λs=>!(s != "super")
noncomputable def U9 (e:Expr):Bool:=!(D9z e)
theorem w4 {o:Expr} (h:U9 o=true) (attr:Str) (env:PySem.Env) (whole:Sem Value):attributeBase o attr env whole=whole:=by
 induction o using Expr.casesOn with
 | Call g es ks p=>induction g using Expr.casesOn with
  | Name id q=>induction es using av with
   | cons _ _=>rfl
   | nil=>induction ks using av with
    | cons _ _=>rfl
    | nil=>
     have q:(id != "super")=true:=nf (show (!(id != "super"))=false from nt h)
     unfold attributeBase
     simp only [q,Bool.true_or,if_true]
  | _=>rfl
 | _=>rfl
theorem A2v {od:Obj} {es:Array DictEntry} {ep:Nat} (hd:od.data=.dict es ep) (hk:StrKeys es) (x:Str):lookIn x od=some (nsFind es x):=by
 unfold lookIn nsFind findBy
 rw [hd]
 dsimp only
 rw [Array.find?_toList]
 induction hf:es.find? λe=>e.key.isStr x using ae with
 | some e=>rfl
 | none=>
  have:es.toList.any (·.refKey)=false:=by
   rw [Array.any_toList,Array.any_eq_false']
   intro e he
   refine kEE (hk e he) λn t h=>?_
   simp [DictEntry.refKey,h]
  simp [this]
theorem B2o {M:Model} {A:aI} {E:Value->ak->Prop} {s:ak} {a:Addr} {od:Obj} {es:Array DictEntry} {ep:Nat} {name:Str} {v:Value} {Q:Unit->ak->Prop} (ho:s.heap.get? a=some od) (hd:od.data=.dict es ep) (hk:StrKeys es)
  (hq:∀ h' od' es' ep',h'.get? a=some od'->bY a s.heap h'->od'.data=.dict es' ep'->StrKeys es'->od'.cls=od.cls->od'.dict=od.dict->
   (if (nsFind es name).isSome then es'.size=es.size else es'.size=es.size + 1)->(∀ x,nsFind es' x=if x=name then some v else nsFind es x)->Q () { s with heap:=h',toks:=s.toks + 1 }):wpAny M A (nsSet a name v) Q E s:=by
 intro Γ p _
 simp only [nsSet,strHash,Sem.wp_bind',Sem.wp_cmd_ask,Sem.wp_pure',Sem.wp_cmd_mkText]
 rw [Sem.wp_loadPart_of M Γ _ p { s with toks:=s.toks + 1 } (o:=od) _ ho]
 have hany:es.any (·.refKey)=false:=by
  rw [Array.any_eq_false']; intro e he; refine kEE (hk e he) λn t h=>?_; simp [DictEntry.refKey,h]
 simp only [hd,aRefKeyMayBeTheName_eq,aRefKeyMayBeTheNameByArray,hany,Bool.and_false,Bool.false_eq_true,if_false,Sem.wp_cmd_updatePart]
 refine ⟨by rw [ho]; rfl,?_⟩
 obtain ⟨c,d,dt,sl⟩:=od
 subst hd
 have hsome:(nsFind es name).isSome=(es.find? λe=>e.key.isStr name).isSome:=by unfold nsFind findBy; rw [Option.isSome_map]
 induction hi:es.findIdx? (·.key.isStr name) using ae with
 | some i=>
  refine hq _ _ _ ep (Heap.get?_update_self _ ho (by simp only [Obj.putName_eq,bU,hi]; rfl)) (bl ..) (by simp only [Obj.putName_eq,bU,hi]; rfl) (hk.modify _ _) (by simp only [Obj.putName_eq,bU,hi]) (by simp only [Obj.putName_eq,bU,hi]) ?_ λx=>?_
  ·have:(nsFind es name).isSome=true:=by
    rw [hsome]
    obtain ⟨hlt,hp,_⟩:=Array.findIdx?_eq_some_iff_getElem.mp hi
    rw [Array.find?_isSome]
    exact ⟨_,Array.getElem_mem hlt,hp⟩
   rw [if_pos this,Array.size_modify]
  ·exact findBy_modify (λn v=>v.isStr n) Value.isStr_inj es name x v i hi
 | none=>
  refine hq _ _ _ (ep + 1) (Heap.get?_update_self _ ho (by simp only [Obj.putName_eq,bU,hi]; rfl)) (bl ..) (by simp only [Obj.putName_eq,bU,hi]; rfl) (hk.push _ _ _ _) (by simp only [Obj.putName_eq,bU,hi]) (by simp only [Obj.putName_eq,bU,hi]) ?_ λx=>?_
  ·have:(nsFind es name).isSome=false:=by
    rw [hsome,Bool.eq_false_iff]
    intro h
    rw [Array.find?_isSome] at h
    refine C5 h λe he hp=>?_; clear h
    have:=Array.findIdx?_eq_none_iff.mp hi e he
    rw [hp] at this; cases this
   rw [if_neg (by rw [this]; decide),Array.size_push]
  ·exact findBy_push (λn v=>v.isStr n) es name x _ _ v (λy=>by
    show (name == y)=decide (y=name)
    by_cases h:y=name
    ·subst h; simp
    ·have:¬ name=y:=λe=>h e.symm
     simp [h,this]) hi
theorem V0 {α:Type} (k:Nat) (v:α):∀ l:List (Nat×α),(G0 k v l).length=if (A8 k l).isSome then l.length else l.length + 1
 | []=>rfl
 | p::l=>by
  rw [A2s,G4]
  by_cases h:p.1=k
  ·rw [if_pos h,if_pos h]; rfl
  ·rw [if_neg h,if_neg h,bh,V0 k v l,bh]
   split<;>omega
section
variable {K:PySem.W.Frag} {C:Addr} {od:Obj} {v:Value} {name:Str}
theorem A5z (hh:hasDictIn K C=true) (ha:A6j K C name=true) (hl:lookIn name od=some (some v)):findObj K C (some od) name=some (.value v):=by
 refine C5 (any_some hh) λcd hc hd=>?_
 unfold findObj
 have ho:PySem.W.ownOf cd (some od) name=some (some v):=by unfold PySem.W.ownOf; rw [if_pos hd]; exact hl
 unfold A6j at ha
 rw [hc,Option.bind_some]
 induction hf:findIn K (.ref C) name using ae with
 | none=>rw [hf] at ha; cases ha
 | some attr=>
  rw [hf] at ha
  rw [Option.bind_some]
  induction attr using ae with
  | none=>simp [ho]
  | some a=>
   simp only [az,beq_iff_eq] at ha
   obtain ⟨h1,h2⟩:=ha
   obtain ⟨g,hg⟩:=bj.mp h2
   induction g using ae<;>simp [ho,h1,hg]
end
section
variable {κ:Kx} {c:Cx} {A:aI} {w:W}
theorem B2z {v:V} {x:Value} (r:w.vr κ v x) (h:v≠.opq):handedIn x=true:=by
 induction r using A4.el with
 | opq x=>exact absurd rfl h
 | _=>rfl
theorem B2w {v r:V} {s s':St} (h:A8h v s=.ok r s'):r=v/\s'=s/\v≠.opq:=by
 unfold A8h at h
 split at h
 ·exact (A0 h).elim
 ·rename_i hne
  obtain ⟨a,b⟩:=A3 h
  exact ⟨a,b,λq=>hne q⟩
theorem c5 {K:PySem.W.Frag} {C:Addr} (h:A6i K C=true):plainGet K C Str.empty=true/\hasDictIn K C=true/\plainOver K C=true/\findIn K (.ref C) "__setattr__"=some (some (.builtin "object.__setattr__"))/\makesIn K C=true:=by
 unfold A6i at h
 simp only [az,beq_iff_eq] at h
 obtain ⟨⟨⟨⟨h1,h2⟩,h3⟩,h4⟩,h5⟩:=h
 exact ⟨h1,h2,h3,h4,h5⟩
theorem B9c (KO:U8 κ) (I:A7 κ w) {n:Nat} {name:Str} (hn:n ∈ E8) (hx:SV n name) {ov v:V} {x:Value} {es':St} (ro:w.vr κ ov x) (h:C9q n ov w.es=.ok v es'):
  es'=w.es/\∃ y,w.vr κ v y/\∀ {ex:Bool} {Q:Value->ak->Prop} {E:Value->ak->Prop},(Q y { w.s with toks:=w.s.toks + 1 })->wpAny κ.m A (getAttr x name ex) Q E w.s:=by
 induction ro using A4.el with
 | ref hk e=>
  refine gOn h λob h3 h2=>?_
  obtain ⟨hi,rob⟩:=I.obj _ _ h3
  subst e
  induction ob using O.casesOn with
  | inst k l=>
   refine H6 rob λod q13' hlt es ep hd hsk hcl hdn hsz hat=>?_; clear rob; refine kAE q13' λIA cl hcl0=>?_; clear q13'
   refine lfn h2 λu h6 h5=>?_
   refine O8 (B2w h5) λq14' h8 h9=>?_; subst q14'
   have hop:=hat n name hx
   rw [h6] at hop
   induction hy:nsFind es name using ae with
   | none=>rw [hy] at hop; exact hop.elim
   | some y=>
    rw [hy] at hop
    refine ⟨h8,y,hop,λ{ex Q E} q=>?_⟩
    refine A2f (c5 (KO.cok k cl hcl0)) λk1 k2 k3 k4 k5=>?_
    exact get_value (KO.kin.keeps I.base) IA (plainGet_of k1).1 (A5z k2 (KO.att k cl n name hcl0 hn hx).1 (by rw [A2v hd hsk,hy])) (B2z hop h9) q
  | _=>exact (A0 (s:=w.es) h2).elim
 | opq x=>exact (A0 (s:=w.es) h).elim
 | _=>exact (A0 (s:=w.es) h).elim
theorem B1p (KO:U8 κ) (I:A7 κ w) {n:Nat} {name:Str} (hn:n ∈ E8) (hx:SV n name) {ov v:V} {x y:Value} {u:Unit} {es':St} (ro:w.vr κ ov x) (rv:w.vr κ v y) (h:A8a ov n v w.es=.ok u es'):
  wpAny κ.m A (setAttr x name y) (A1 κ [] w es' λ_ _=>True) D1 w.s:=by
 induction ro using A4.el with
 | ref hk e=>
  refine gOn h λob h3 h2=>?_
  obtain ⟨hi,rob⟩:=I.obj _ _ h3
  subst e
  induction ob using O.casesOn with
  | inst k l=>
   refine H6 rob λod q15' hlt es ep hd hsk hcl hdn hsz hat=>?_; clear rob; refine kAE q15' λIA cl hcl0=>?_; clear q15'
   have h2':@Bool.rec (λ_=>M Unit) A5 (A3n _ (.inst k (G0 n v l))) (be (len l) 100) w.es=.ok u es':=h2
   induction hb:be (len l) 100 using ao with
   | false=>rw [hb] at h2'; exact nomatch h2'
   | true=>
    rw [hb] at h2'
    have hlen:l.length<=100:=S7 l ▸ aj hb
    have hset:A3n _ (.inst k (G0 n v l)) w.es=.ok u es':=h2'
    refine A2f (c5 (KO.cok k cl hcl0)) λk1 k2 k3 k4 k5=>?_
    refine C5 (any_some k2) λcd hc hdd=>?_
    have X:=KO.kin.keeps I.base
    have hD:w.s.heap.get? (w.φ (_ + 1))=some od:=IA.dict
    refine set_plain X IA k4 ?_
    refine osa_open (s:={ w.s with toks:=w.s.toks + 1 }) X IA k3 (KO.att k cl n name hcl0 hn hx).2 λb=>?_
    refine ab (ag (ab (ab (wpAny_loadPart IA.at_ (ab (Looks.here (s:={ w.s with toks:=w.s.toks + 1 }) (looks_clsIn X hc) ?_))))))
    rw [hdd]
    refine ag (a:=some (w.φ (_ + 1))) (ab (ag (ab ?_)))
    refine B2o (s:={ w.s with toks:=w.s.toks + 1 }) hD hd hsk λh' od' es'' ep' g1 g2 g3 g4 g5 g6 g7 g8=>?_
    have hop:=hat n name hx
    have hsz2:es''.size<=(G0 n v l).length:=by
     rw [V0]
     induction hy:nsFind es name using ae with
     | none=>
      rw [hy] at hop g7
      induction hz:A8 n l using ae with
      | none=>simp only [Option.isSome_none,Bool.false_eq_true,if_false] at g7 ⊢; omega
      | some z=>rw [hz] at hop; exact hop.elim
     | some y=>
      rw [hy] at hop g7
      induction hz:A8 n l using ae with
      | none=>rw [hz] at hop; exact hop.elim
      | some z=>simp only [Option.isSome_some,if_true] at g7 ⊢; omega
    have hsz3:(G0 n v l).length<=101:=by rw [V0]; split<;>omega
    refine ab (wpAny_lookBehind (s:={ w.s with heap:=h',toks:=_ }) g1 (by rw [g3]; exact pastItsLine_dict (aJ (aJ hsz2 hsz3) (by decide))) ?_)
    refine ag ?_
    refine L9 (s':={ w.s with heap:=h',toks:=_ }) (R:=λ_ _=>True) I hset h3 g2 ⟨rfl,rfl,rfl⟩ (.inr ⟨rfl,hlt,⟨k,l,rfl⟩,k,_,rfl⟩) (by simp) ⟨_,g1⟩ (λup=>?_) trivial
    ·refine ⟨od',⟨⟨?_,IA.cls,IA.no,g1⟩,cl,hcl0⟩,hlt,es'',ep',g3,g4,g5.trans hcl,g6.trans hdn,hsz2,λa z hz=>?_⟩
     ·exact (g2.2 _ λq=>by have:=I.inj _ _ hi hlt q; omega).trans IA.at_
     ·rw [M2,g8]
      by_cases ha:a=n
      ·subst ha
       rw [if_pos rfl,if_pos (hz.inj hx)]
       exact rv.up up
      ·rw [if_neg ha,if_neg (λq=>by subst q; exact ha (hz.inj_n hx))]
       exact (hat a z hz).mono λ_ _ q=>q.up up
  | _=>exact (A0 (s:=w.es) h2).elim
 | opq x=>exact (A0 (s:=w.es) h).elim
 | _=>exact (A0 (s:=w.es) h).elim
end
noncomputable def A9 (e:Expr):Bool:=!(aA e.ctorIdx 22)
theorem K8 {e:Expr} {es:List Expr} (h:A9 e=true) (env:PySem.Env):starEach (e::es) env=(false,eval e env)::starEach es env:=by
 induction e using Expr.casesOn<;>first | rfl | exact ff h
theorem E3 {M:Model} {A:aI} {E:Value->ak->Prop} {s:ak} {f:Value} {es:List Expr} {pos:Pos} {env:PySem.Env} {Q:Args->ak->Prop} (hns:es.all A9=true)
  (h:wpAny M A (spliced (backTo pos (starEach es env))) (λvs s'=>Q ⟨vs,[]⟩ s') E s):wpAny M A (evalArgs f true (backTo pos (starEach es env)) []) Q E s:=by
 induction es using av with
 | nil=>
  unfold evalArgs
  show wpAny M A (spliced [] >>= _) Q E s
  refine ab (af h (λvs s' h'=>?_) λ_ _ x=>x)
  refine aF ?_
  exact ab (ag (ab (ag (ag h'))))
 | cons e es=>
  simp only [bL,az] at hns
  rw [K8 hns.1] at h ⊢
  exact Calls.evalArgs_plain h
noncomputable def X2 (κ:Kx) (f:Nat) (rn:F5):Prop:=∀ k A c w vs xs v es',B7 A f 60->A.depth + 3 * f + 2<=900->D9 κ c->A7 κ w->GlR κ w->w.vrs κ vs xs->rn c k vs w.es=.ok v es'->
 codeAny κ.m A (.call (.ref (κ.fA k)) ⟨xs,[]⟩) (λr s'=>∃ val,r=.ok (.ret val)/\A1 κ [] w es' (E5 κ v) val s') w.s
section
variable {κ:Kx} {rn:F5} {f n:Nat} {nm:List (Str×aK)}
theorem B7.room2 {A:aI} {m:Nat} (g:B7 A (f + 1) m):A.depth + 3 * f + 2<=900:=by have:=g.depth; omega
theorem B7.callee {A:aI} {m:Nat} (g:B7 A (f + 1) m):B7 A f 60:=⟨g.handled,by have:=g.depth; omega,by have:=g.units; omega⟩
theorem D2n (KO:U8 κ) {a:CX} {e:Expr} {m:Nat} {name:Str} {pos} (hm:m ∈ E8) (hx:SV m name) (hs:U9 e=true) (ha:SX κ rn f n nm a e):SE κ rn f n nm (E1d a m) (.Attribute e name pos):=
 SE.value (λA c ev env w hA hc I r hn v es' h=>by
  refine A2 h λv1 s1 h1 h2=>?_
  rw [arm_eval_Attribute,w4 hs]
  refine ab (af (ha A c ev env w hA hc I r hn v1 s1 h1) (λval s₁ p=>?_) λ_ _ x=>x)
  obtain ⟨φ1,le,inv,hr⟩:=p
  refine A1y (B9c (A:=A) (w:=⟨φ1,s1,s₁⟩) KO inv hm hx hr h2) λe1 y hy g=>?_
  have e1':es'=s1:=e1
  subst e1'
  refine ab (aZ (ab (aF (g ?_))))
  refine ab (wpAny_letTemporaryGo (ag ?_))
  exact (A1.toks (X:=[]) (w:=⟨φ1,es',s₁⟩) (R:=E5 κ v) (t:=s₁.toks + 1) inv hy).lift le) λ_ _=>rfl
theorem A3a (KO:U8 κ) {A:aI} {env:PySem.Env} {w:W} {x:Str} {p:Pos} {v:Value} {Q:Value->ak->Prop} {E:Value->ak->Prop} {ev:Mine.Env} (I:A7 κ w) (r:C8 κ w ev env) (hk:env.kindOf x=some .globalImplicit) (hd:(x == ("__debug__":Str))=false)
  (hv:κ.glb x=some v) (q:Q v w.s):wpAny κ.m A (eval (.Name x p) env) Q E w.s:=
 Calls.Name_function_global r.kind hk (Calls.loadGlobal_global (mg:=κ.glb) (by rw [r.glob]; exact KO.glbN.keeps I.base) hv q) hd
theorem M6 (KO:U8 κ) {A:aI} {env:PySem.Env} {w:W} {x:Str} {p:Pos} {v:Value} {Q:Value->ak->Prop} {E:Value->ak->Prop} {ev:Mine.Env} (I:A7 κ w) (r:C8 κ w ev env) (hk:env.kindOf x=some .globalImplicit) (hd:(x == ("__debug__":Str))=false)
  (hg:κ.glb x=none) (hv:κ.blt x=some v) (q:Q v w.s):wpAny κ.m A (eval (.Name x p) env) Q E w.s:=
 Calls.Name_function_global r.kind hk (Calls.loadGlobal_builtin (mg:=κ.glb) (mb:=κ.blt) (by rw [r.glob]; exact KO.glbN.keeps I.base) hg (by rw [r.blt]; exact KO.bltN.keeps I.base) hv q) hd
theorem A5c (KO:U8 κ) (RO:X2 κ f rn) {k:Nat} (hk:k < 128) {A:aI} {c:Cx} {env:PySem.Env} {ev:Mine.Env} {w:W} {cl:CL} {es:List Expr} {pos pos':Pos} {vs:List V} {first:List Value} {fv:List V} {s1 es':St} {v:V} (hA:B7 A (f + 1) n) (hc:D9 κ c) (I:A7 κ w) (r:C8 κ w ev env) (hn:env.scope.names=nm)
  (hns:es.all A9=true) (hl:SLs κ rn (f + 1) n nm cl es) (hf:w.vrs κ fv first) (h1:cl rn c ev w.es=.ok vs s1) (h2:rn c k (fv++vs) s1=.ok v es'):
  wpAny κ.m A (callWith pos (.ref (κ.fA k)) first (backTo pos' (starEach es env)) []) (A1 κ [] w es' (E5 κ v)) D1 w.s:=by
 refine C2k (KO.fobj k hk) λo fd h3 h4=>?_
 refine Calls.callWith_function (o:=o) (fd:=fd) (E3 hns (af (hl pos' A c ev env w hA hc I r hn vs s1 h1) (λxs s₂ p=>?_) λ_ _ x=>x))
 obtain ⟨φ1,le,inv,hv⟩:=p
 refine ⟨⟨inv.base _ _ h3,h4⟩,wpAny_call (codeAny_mono (RO k A c ⟨φ1,s1,s₂⟩ (fv++vs) (first++xs) v es' hA.callee hA.room2 hc inv (r.gl.le le) ((le.vrs hf).append hv) h2) λrr s' z=>?_)⟩
 refine C5 z λval q1' p=>?_; clear z; subst q1'
 exact p.lift le
noncomputable def D5f:Bool:=fnT.all λp=>Nat.blt p.2 128
theorem B2a:D5f=true:=by decide +kernel
theorem A0m {α:Type} {i:Nat} {v:α}:∀ {l:List (Nat×α)},A8 i l=some v->(i,v) ∈ l
 | [],h=>by rw [U2] at h; cases h
 | p::l,h=>by
  rw [G4] at h
  split at h
  ·rename_i e; cases h; subst e; exact aP
  ·exact aH _ (A0m h)
theorem E3g {i k:Nat} (h:A8 i fnT=some k):k < 128:=by
 have:=aL.mp B2a _ (A0m h)
 exact aj this
theorem D1d (KO:U8 κ) (RO:X2 κ f rn) {i k:Nat} {x:Str} {l:CL} {es:List Expr} {p pos} (hk:A8 i fnT=some k) (hx:SV i x) (hkd:nm.lookup x=some .globalImplicit) (hd:(x == ("__debug__":Str))=false) (hns:es.all A9=true) (hl:SLs κ rn (f + 1) n nm l es):
  SE κ rn (f + 1) n nm (E2d k l) (.Call (.Name x p) es [] pos):=
 SE.value (λA c ev env w hA hc I r hn v es' h=>by
  refine A2 h λvs s1 h1 h2=>?_
  rw [bQ]
  refine ab (A3a KO I r (by unfold aS; rw [hn]; exact hkd) hd (KO.fns i k x hk hx) ?_)
  exact A5c KO RO (E3g hk) hA hc I r hn hns hl (fv:=[]) (first:=[]) .nil h1 h2) λ_ _=>rfl
end
section
variable {κ:Kx} {X:List Addr} {w:W}
noncomputable def W6 (φ:Nat->Addr) (n:Nat) (a b:Addr):Nat->Addr:=λi=>if i=n then a else if i=n + 1 then b else φ i
theorem A8n (I:A7 κ w) {k h:Nat} {es':St} (hn:C8u (.inst k []) w.es=.ok h es') (hcl:∃ cl,H1.get k=some cl):
  ∃ φ',φ' h=w.h.objs.size + 1/\h < es'.n/\Le X w ⟨φ',es',{ w.s with heap:=(w.h.push emptyDict).push (instObj (κ.clsA k) w.h.objs.size) }⟩/\A7 κ ⟨φ',es',{ w.s with heap:=(w.h.push emptyDict).push (instObj (κ.clsA k) w.h.objs.size) }⟩:=by
 refine O8 (C4y hn) λq16' hle q17'=>?_; subst q16'; subst q17'
 have en:w.n=w.es.n:=rfl
 have hk:∀ b ob,w.h.get? b=some ob->((w.h.push emptyDict).push (instObj (κ.clsA k) w.h.objs.size)).get? b=some ob:=λb ob e=>ai _ (ai _ e)
 have n0:w.h.get? (w.h.objs.size + 1)=none:=Heap.get?_none_of_le (Nat.le_succ _)
 have n1:w.h.get? w.h.objs.size=none:=B5
 have g0:((w.h.push emptyDict).push (instObj (κ.clsA k) w.h.objs.size)).get? (w.h.objs.size + 1)=some (instObj (κ.clsA k) w.h.objs.size):=by
  have:=ax (o:=instObj (κ.clsA k) w.h.objs.size) (w.h.push emptyDict) rfl
  rw [Heap.size_push] at this; exact this
 have g1:((w.h.push emptyDict).push (instObj (κ.clsA k) w.h.objs.size)).get? w.h.objs.size=some emptyDict:=ai _ (ax _ rfl)
 have u0:W6 w.φ w.n (w.h.objs.size + 1) w.h.objs.size w.n=w.h.objs.size + 1:=if_pos rfl
 have u1:W6 w.φ w.n (w.h.objs.size + 1) w.h.objs.size (w.n + 1)=w.h.objs.size:=by unfold W6; rw [if_neg (by omega),if_pos rfl]
 have u2:∀ i,i < w.n->W6 w.φ w.n (w.h.objs.size + 1) w.h.objs.size i=w.φ i:=λi hi=>by unfold W6; rw [if_neg (by omega),if_neg (by omega)]
 have nw:∀ i,w.n<=i->i < w.n + 2->w.h.get? (W6 w.φ w.n (w.h.objs.size + 1) w.h.objs.size i)=none:=λi h1 h2=>by
  have:i=w.n∨i=w.n + 1:=by omega
  rcases this with rfl | rfl
  ·rw [u0]; exact n0
  ·rw [u1]; exact n1
 have u:Up w.φ w.n w.h (W6 w.φ w.n (w.h.objs.size + 1) w.h.objs.size) (w.n + 2) ((w.h.push emptyDict).push (instObj (κ.clsA k) w.h.objs.size)):=⟨λb ob e _ _=>hk b ob e,u2,λi h1 h2 o ho=>by (rw [nw i h1 h2] at ho; cases ho),bJ _ _⟩
 have hg:∀ i,(Tr.set (.inst k []) w.es.t w.n).get i=if i=w.n then some (.inst k []) else w.es.t.get i:=λi=>Tr.set_get _ w.es.t w.n i (by show w.es.n < _; omega)
 have hlast:∀ i,i < w.n + 2->i < w.n∨i=w.n∨i=w.n + 1:=λi hi=>by omega
 have ne0:=I.ne_new n0
 have ne1:=I.ne_new n1
 refine ⟨W6 w.φ w.n (w.h.objs.size + 1) w.h.objs.size,u0,(by show w.es.n < w.es.n + 2; omega),⟨λb ob e _ _=>hk b ob e,λb ⟨ob,e⟩=>⟨ob,hk b ob e⟩,u.same,nw,bJ _ _,rfl,λi hi=>?_,aG _,rfl,rfl,rfl⟩,⟨λi o' e=>?_,λi j hi hj e=>?_,λi hi=>?_,λb ob e=>hk b ob (I.base b ob e),I.lim,aJ I.fl (bJ _ _),I.f1,(by show w.es.n + 2<=_; omega),I.sb,(by show W6 _ _ _ _ 0≠_; rw [u2 0 (by have:=I.fl; have:=I.f1; omega)]; exact I.z0),λi h1 hi=>?_,λi k' l e=>?_⟩⟩
 ·show (Tr.set _ w.es.t w.n).get i=_
  rw [hg,if_neg (by have:=I.fl; show i≠w.es.n; omega)]
 ·have e':(Tr.set (.inst k []) w.es.t w.n).get i=some o':=e
  rw [hg] at e'
  by_cases hi:i=w.n
  ·subst hi
   rw [if_pos rfl] at e'
   cases e'
   refine ⟨(by show w.es.n < w.es.n + 2; omega),?_⟩
   refine ⟨emptyDict,⟨⟨?_,rfl,rfl,?_⟩,hcl⟩,(by show w.es.n + 1 < w.es.n + 2; omega),#[],0,rfl,λe he=>by simp at he,rfl,rfl,by simp,λa x hx=>?_⟩
   ·show ((w.h.push emptyDict).push _).get? (W6 _ _ _ _ w.n)=some (instObj _ (W6 _ _ _ _ (w.n + 1)))
    rw [u0,u1]
    exact g0
   ·show ((w.h.push emptyDict).push _).get? (W6 _ _ _ _ (w.n + 1))=some emptyDict
    rw [u1]
    exact g1
   ·show Opt _ none (nsFind #[] x)
    exact trivial
  ·rw [if_neg hi] at e'
   obtain ⟨h1,h2⟩:=I.obj i o' e'
   exact ⟨ba h1 (bJ _ _),h2.up u h1 (λ_=>rfl) (λob=>hk _ ob) λob q _=>hk _ ob q⟩
 ·have e':W6 w.φ w.n (w.h.objs.size + 1) w.h.objs.size i=W6 w.φ w.n (w.h.objs.size + 1) w.h.objs.size j:=e
  have hi:i < w.n + 2:=hi
  have hj:j < w.n + 2:=hj
  rcases hlast i hi with h1 | h1 | h1<;>rcases hlast j hj with h2 | h2 | h2
  ·rw [u2 i h1,u2 j h2] at e'; exact I.inj i j h1 h2 e'
  ·rw [u2 i h1,h2,u0] at e'; exact absurd e' (ne0 i h1)
  ·rw [u2 i h1,h2,u1] at e'; exact absurd e' (ne1 i h1)
  ·rw [h1,u0,u2 j h2] at e'; exact absurd e'.symm (ne0 j h2)
  ·omega
  ·rw [h1,u0,h2,u1] at e'; exact absurd e' (Nat.succ_ne_self _)
  ·rw [h1,u1,u2 j h2] at e'; exact absurd e'.symm (ne1 j h2)
  ·rw [h1,u1,h2,u0] at e'; exact absurd e'.symm (Nat.succ_ne_self _)
  ·omega
 ·show ∃ o,((w.h.push emptyDict).push _).get? (W6 w.φ w.n (w.h.objs.size + 1) w.h.objs.size i)=some o
  rcases hlast i hi with h1 | h1 | h1
  ·rw [u2 i h1]; exact let ⟨o,ho⟩:=I.lt i h1; ⟨o,hk _ _ ho⟩
  ·rw [h1,u0]; exact ⟨_,g0⟩
  ·rw [h1,u1]; exact ⟨_,g1⟩
 ·show κ.base.get? (W6 w.φ w.n (w.h.objs.size + 1) w.h.objs.size i)=none
  rcases hlast i hi with h2 | h2 | h2
  ·rw [u2 i h2]; exact I.own i h1 h2
  ·rw [h2,u0]; exact I.fresh n0
  ·rw [h2,u1]; exact I.fresh n1
 ·have e':(Tr.set (.inst k []) w.es.t w.n).get i=some (.inst k' l):=e
  show (Tr.set (.inst k []) w.es.t w.n).get (i + 1)=none
  rw [hg] at e' ⊢
  by_cases h1:i=w.n
  ·rw [if_neg (by omega)]
   induction hq:w.es.t.get (i + 1) using ae with
   | none=>rfl
   | some o=>have:=(I.obj _ _ hq).1; omega
  ·rw [if_neg h1] at e'
   refine M5 (I.obj i _ e') λ_ _ _ h2 _=>?_
   rw [if_neg (by show i + 1≠w.n; omega)]
   exact I.sec i k' l e'
end
section
variable {κ:Kx} {rn:F5} {f n:Nat} {nm:List (Str×aK)}
theorem B3a {r:V} {h:Nat} {s s':St} {v:V} (e:isNone r h s=.ok v s'):r=.none/\v=.ref h/\s'=s:=by
 unfold isNone at e
 split at e
 ·obtain ⟨a,b⟩:=A3 e; exact ⟨rfl,a,b⟩
 ·exact (A0 e).elim
theorem L3 {es:List Expr} (hns:es.all A9=true) (pos:Pos) (env:PySem.Env):(backTo pos (starEach es env)).any (·.1)=false:=by
 induction es with
 | nil=>rfl
 | cons e es ih=>
  simp only [bL,az] at hns
  rw [K8 hns.1]
  show (false || (backTo pos (starEach es env)).any (·.1))=false
  rw [ih hns.2]; rfl
theorem B9m {K:PySem.W.Frag} {C:Addr} (h:makesIn K C=true):keepIn K (.ref C)=true:=by
 unfold makesIn at h
 unfold keepIn
 split at h
 ·rename_i ho
  dsimp only
  rw [ho]
  simp only [az] at h
  exact h.1.2
 ·cases h
theorem B7.make {A:aI} {m:Nat} {C:Addr} {rest:List Value} (g:B7 A (f + 1) (m + 1)):B7 (A.under (.builtin "type.__call__" ⟨.ref C::rest,[]⟩)) f 60:=by
 have h1:(Code.builtin "type.__call__" ⟨.ref C::rest,[]⟩).weight=1:=by
  kernel_rfl
 have h2:(Code.builtin "type.__call__" ⟨.ref C::rest,[]⟩).cUnits=1:=by kernel_rfl
 refine ⟨g.handled,?_,?_⟩
 ·show A.depth + Code.weight _ + 3 * f<=900
  rw [h1]; have:=g.depth; omega
 ·show A.units + Code.cUnits _ + 60 * f + 60<=9000
  rw [h2]; have:=g.units; omega
theorem B7.make2 {A:aI} {m:Nat} {C:Addr} {rest:List Value} (g:B7 A (f + 1) (m + 1)):(A.under (.builtin "type.__call__" ⟨.ref C::rest,[]⟩)).depth + 3 * f + 2<=900:=by
 have h1:(Code.builtin "type.__call__" ⟨.ref C::rest,[]⟩).weight=1:=by
  kernel_rfl
 show A.depth + Code.weight _ + 3 * f + 2<=900
 rw [h1]; have:=g.depth; omega
theorem D5v (KO:U8 κ) (RO:X2 κ f rn) {i k:Nat} {x:Str} {l:CL} {es:List Expr} {p pos} (hk:A8 i clT=some k) (hx:SV i x) (hkd:nm.lookup x=some .globalImplicit) (hd:(x == ("__debug__":Str))=false) (hns:es.all A9=true) (hl:SLs κ rn (f + 1) (n + 1) nm l es):
  SE κ rn (f + 1) (n + 1) nm (F0u k l) (.Call (.Name x p) es [] pos):=
 SE.value (λA c ev env w hA hc I r hn v es' h=>by
  refine A2 h λvs s1 h1 h2=>?_
  refine B8 h2 λcl s2 h3 h4=>?_
  obtain ⟨h3,e3⟩:=D6 h3
  rw [e3] at h4
  refine B8 h4 λfi s3 h5 h6=>?_
  obtain ⟨h5,e5⟩:=D6 h5
  rw [e5] at h6
  refine B8 h6 λhh s4 h7 h8=>?_
  refine B8 h8 λrv s5 h9 h10=>?_
  refine O8 (B3a h10) λe10 e11 e12=>?_
  rw [e10] at h9
  rw [e11,e12]
  refine A2f (c5 (KO.cok k cl h3)) λ_ _ _ _ hm=>?_
  obtain ⟨g1,g2⟩:=KO.ini k cl fi h3 h5
  rw [bQ]
  refine ab (A3a KO I r (by unfold aS; rw [hn]; exact hkd) hd (KO.cls i k x hk hx) ?_)
  refine callWith_of (P:=λh=>κ.frag.In h) (by rw [L3 hns]; rfl) (keeps_K (B9m hm)) (E3 hns (af (hl pos A c ev env w hA hc I r hn vs s1 h1) (λxs s₁ p=>?_) λ_ _ x=>x))
  obtain ⟨φ1,le,inv,hv⟩:=p
  have X:=KO.kin.keeps inv.base
  refine ⟨X,wpAny_call ?_⟩
  refine A3b (A8n (X:=[]) (w:=⟨φ1,s1,s₁⟩) inv h7 ⟨cl,h3⟩) λφ2 e2 hlt le2 inv2=>?_
  have run:=RO fi (A.under (.builtin "type.__call__" ⟨.ref (κ.clsA k)::xs,[]⟩)) c _ (.ref hh::vs) (.ref (s₁.heap.objs.size + 1)::xs) .none s5 hA.make hA.make2 hc inv2 ((r.gl.le le).le le2) (.cons (.ref hlt e2) (le2.vrs hv)) h9
  refine make_core (makes_of X hm) (looks_findIn X g1) (λself=>bind_fn X self g2) (.inl rfl) (codeAny_mono run λrr s' z=>?_)
  refine C5 z λval q18' q19'=>?_; clear z; subst q18'; obtain ⟨φ3,le3,inv3,hr3⟩:=q19'
  have hr3':val=.none:=by cases hr3; rfl
  exact ⟨hr3',φ3,(le.comp le2).comp le3,inv3,A4.up le3.up (.ref hlt e2)⟩) λ_ _=>rfl
end
noncomputable def X4 (env:PySem.Env):List Addr:=env.locals::env.cells.map (·.2)
theorem A8q {env:PySem.Env} {x:Str} {c:Addr} (h:env.cells.lookup x=some c):c ∈ X4 env:=by
 refine aH _ ?_
 generalize env.cells=l at h ⊢
 induction l with
 | nil=>cases h
 | cons p l ih=>
  obtain ⟨y,d⟩:=p
  rw [aC] at h
  split at h
  ·cases h; exact aP
  ·exact aH _ (ih h)
section
variable {prog:Program} {wd:World} {A:aI} {E:Value->ak->Prop} {s:ak}
theorem set_plain {l:Addr} {items:Array Value} {k:Int} {t:Tok} {v:Value} {Q:Unit->ak->Prop} (hl:s.heap.PlainList l items) (h0:0<=k) (hfit:k < 2 ^ 63) (hn:k < items.size)
  (hQ:∀ h',h'.PlainList l (items.setIfInBounds k.toNat v)->bY l s.heap h'->Q () { s with heap:=h' }):wpAny (model prog wd) A (PySem.setItem (.ref l) (.int k t) v) Q E s:=by
 obtain ⟨ne,ho⟩:=id hl
 have hT:=hl.isList.typeIs (s:=s)
 unfold PySem.setItem
 try with_reducible refine aF ?_
 first | refine ab (ag ?_) | skip
 refine ab (wpAny_sequenceKey hT (by decide) ?_)
 refine ab (bK (name:=aa "__setitem__") hT slot_list_setitem
  (bx slot_list_setitem hT entry_list_setitem ?_ (args_list_setitem _ _ _)))
 show wpAny _ _ (Builtin.List.listSubscript? (.int k t) >>= _) _ _ s
 refine ab (wpAny_listSubscript_int (fitsIndex_of h0 hfit) ?_)
 clear hfit
 obtain ⟨j,rfl⟩:=Int.eq_ofNat_of_zero_le h0
 have hj:j < items.size:=by omega
 have hx':items[j]?=some items[j]:=Array.getElem?_eq_getElem hj
 show wpAny _ _ ((seqItemAt l j >>= λr=>pure (r.map (j,·))) >>= _) _ _ s
 refine ab (ab (wpAny_seqItemAt ho rfl (ag ?_)))
 rw [hx']
 show wpAny _ _ (setSeqItemAt l j v >>= _) _ _ s
 have hfin:(s.heap.update l (Obj.mapSeq (·.setIfInBounds j v))).PlainList l (items.setIfInBounds j v):=⟨_,get?_update_seq ho _⟩
 refine ab (wpAny_setSeqItemAt ho rfl ?_)
 first
  | exact ab (ag (ag ⟨.none,rfl,ag (hQ _ hfin (bl ..))⟩))
  | exact ag ⟨.none,rfl,ag (hQ _ hfin (bl ..))⟩
end
section
variable {κ:Kx} {X:List Addr} {w:W}
theorem j2 (I:A7 κ w) {s':ak} {a:Addr} (hs:bY a w.h s'.heap) (hb:c9 w.s s') (hu:∀ i,i < w.n->w.φ i≠a) (hf:κ.base.get? a=none) (ht:∀ o,w.h.get? a=some o->¬ Y6 o) (hlv:∃ o,s'.heap.get? a=some o) (ha:a ∈ X):
  Le X w ⟨w.φ,w.es,s'⟩/\A7 κ ⟨w.φ,w.es,s'⟩:=by
 have hk:∀ b ob,w.h.get? b=some ob->b≠a->s'.heap.get? b=some ob:=λb ob e hne=>(hs.2 b hne).trans e
 have u:Up w.φ w.n w.h w.φ w.n s'.heap:=⟨λb ob e hT hn=>hk b ob e λq=>by subst q; exact ht _ e hT,λ_ _=>rfl,λi h1 h2=>absurd h2 (bq.mpr h1),aG _⟩
 have live:∀ b,(∃ ob,w.h.get? b=some ob)->∃ ob,s'.heap.get? b=some ob:=λb ⟨ob,e⟩=>by
  by_cases hb:b=a
  ·subst hb; exact hlv
  ·exact ⟨ob,hk b ob e hb⟩
 refine ⟨⟨λb ob e hx hn=>hk b ob e λq=>by subst q; exact hx.elim (ht _ e) λz=>z ha,live,λ_ _=>rfl,(λi h1 h2=>absurd h2 (bq.mpr h1)),aG _,rfl,λ_ _=>rfl,aG _,hb.gens,hb.os,hb.drawn⟩,
  ⟨λi o e=>⟨(I.obj i o e).1,(I.obj i o e).2.up u (I.obj i o e).1 (λ_=>rfl) (λob q=>hk _ ob q (hu i (I.obj i o e).1)) λob q hi=>?_⟩,I.inj,λi hi=>live _ (I.lt i hi),λb ob e=>hk b ob (I.base b ob e) λq=>?_,I.lim,I.fl,I.f1,I.nb,I.sb,I.z0,I.own,I.sec⟩⟩
 ·refine kEE hi λk l q20'=>?_; clear hi; subst q20'
  refine M5 (I.obj i _ e) λ_ _ _ hlt _=>?_
  exact hk _ ob q (hu (i + 1) hlt)
 ·subst q; rw [hf] at e; cases e
theorem A6c (i j:Nat) (v:V) (l:List (Nat×V)):A8 j (G0 i v l)=if j=i then some v else A8 j l:=M2 i v l j
theorem Ns.notT {h:Heap} {a:Addr} {m:Str->Option Value} (x:h.Ns a m):∀ o,h.get? a=some o->¬ Y6 o:=λo ho ⟨_,items,e,hd⟩=>by
 refine B7k x λo' es ep h1 h2 _=>?_; clear x
 rw [h1] at ho; cases ho; rw [h2] at hd; cases hd
theorem Cell.notT {h:Heap} {a:Addr} {v:Option Value} (x:h.IsCell a v):∀ o,h.get? a=some o->¬ Y6 o:=λo ho ⟨_,items,e,hd⟩=>by
 refine C5 x λo' h1 h2=>?_; clear x
 rw [h1] at ho; cases ho; rw [h2] at hd; cases hd
theorem V9 (I:A7 κ w) {A:aI} {e:Mine.Env} {env:PySem.Env} (hX:env.locals ∈ X) {i:Nat} {x:Str} {v:V} {val:Value} (r:C8 κ w e env) (hx:SV i x) (hk:env.kindOf x=some .local) (rv:w.vr κ v val):
  wpAny κ.m A (storeName env x val) (A1 κ X w w.es λw' _=>C8 κ w' ⟨G0 i v e.ls,e.cs⟩ env) D1 w.s:=by
 refine C5 r.ns λm hm hv=>?_
 refine wpAny_storeName_local hk hm (λh' hm' hs=>?_) (by rw [r.kind]; rfl)
 obtain ⟨le,inv⟩:=j2 (X:=X) (s':={ w.s with heap:=h',toks:=w.s.toks + 1 }) I hs ⟨rfl,rfl,rfl⟩ r.nsU r.fresh.1 (Ns.notT hm) (let ⟨o,_,_,ho,_⟩:=hm'; ⟨o,ho⟩) hX
 refine ⟨w.φ,le,inv,?_⟩
 have r0:C8 κ w ⟨e.ls,e.cs⟩ env:=r
 refine ⟨r.kind,r.glob,r.blt,⟨_,hm',λj u y h1 h2=>?_⟩,r.nsU,λj u y h1 h2 h0=>?_,λy c h1=>?_,r.gl.le le,r.apart,r.fresh,r.cellD,r.cellA,r.code⟩
 ·rw [A6c] at h1
  by_cases hj:j=i
  ·subst hj
   rw [if_pos rfl] at h1; cases h1
   exact ⟨val,by rw [if_pos (h2.inj hx)],le.vr rv⟩
  ·rw [if_neg hj] at h1
   refine C5 (hv j u y h1 h2) λz h3 h4=>?_
   exact ⟨z,by rw [if_neg (λq=>by subst q; exact hj (h2.inj_n hx))]; exact h3,le.vr h4⟩
 ·refine P1 (r.cell j u y h1 h2 h0) λc z h3 h4 h5=>?_
  exact ⟨c,z,h3,h4.sameBut hs (r.fresh.2 y c h3).2,le.vr h5⟩
 ·obtain ⟨⟨z,h3⟩,h4⟩:=r.cellU y c h1
  exact ⟨⟨z,h3.sameBut hs (r.fresh.2 y c h1).2⟩,h4⟩
theorem A2x (I:A7 κ w) {A:aI} {e:Mine.Env} {env:PySem.Env} {i:Nat} {x:Str} {v:V} {val:Value} (r:C8 κ w e env) (hx:SV i x) (hk:env.kindOf x=some .cell) (hc:(env.cells.lookup x).isSome=true) (rv:w.vr κ v val):
  wpAny κ.m A (storeName env x val) (A1 κ (X4 env) w w.es λw' _=>C8 κ w' ⟨e.ls,G0 i v e.cs⟩ env) D1 w.s:=by
 refine C5 r.ns λm hm hv=>?_
 obtain ⟨c,hc⟩:=bj.mp hc
 obtain ⟨⟨v0,h0⟩,hun⟩:=r.cellU x c hc
 refine wpAny_storeName_cell r.kind hk hc h0 λh' hc' hs=>?_
 obtain ⟨hf1,hf2⟩:=r.fresh.2 x c hc
 obtain ⟨le,inv⟩:=j2 (X:=X4 env) (s':={ w.s with heap:=h' }) I hs ⟨rfl,rfl,rfl⟩ hun hf1 (Cell.notT h0) (let ⟨o,ho,_⟩:=hc'; ⟨o,ho⟩) (A8q hc)
 refine ⟨w.φ,le,inv,?_⟩
 have other:∀ y c',env.cells.lookup y=some c'->y≠x->c'≠c:=λy c' h hne q=>by subst q; exact hne (r.apart y x _ h hc)
 refine ⟨r.kind,r.glob,r.blt,⟨m,hm.sameBut hs (Ne.symm hf2),λj u y h1 h2=>?_⟩,r.nsU,λj u y h1 h2 h0=>?_,λy c' h1=>?_,r.gl.le le,r.apart,r.fresh,r.cellD,r.cellA,r.code⟩
 ·refine C5 (hv j u y h1 h2) λz h3 h4=>?_
  exact ⟨z,h3,le.vr h4⟩
 ·rw [A6c] at h1
  by_cases hj:j=i
  ·subst hj
   rw [if_pos rfl] at h1; cases h1
   rw [h2.inj hx]
   exact ⟨c,val,hc,hc',le.vr rv⟩
  ·rw [if_neg hj] at h1
   refine P1 (r.cell j u y h1 h2 h0) λc' z h3 h4 h5=>?_
   exact ⟨c',z,h3,h4.sameBut hs (other y c' h3 λq=>by subst q; exact hj (h2.inj_n hx)),le.vr h5⟩
 ·obtain ⟨⟨z,h3⟩,h4⟩:=r.cellU y c' h1
  by_cases hy:y=x
  ·subst hy
   rw [hc] at h1; cases h1
   exact ⟨⟨_,hc'⟩,h4⟩
  ·exact ⟨⟨z,h3.sameBut hs (other y c' h1 hy)⟩,h4⟩
theorem W1 {M:Model} {A:aI} {E:Value->ak->Prop} {s:ak} {env:PySem.Env} {x:Str} {v:Value} {Q:Unit->ak->Prop} (h:wpAny M A (storeName env x v) Q E s):wpAny M A (bindName env x v) Q E s:=by
 unfold bindName
 exact ab (aF (wpAny_point (ab (af h (λ_ _ q=>wpAny_point q) λ_ _ e=>e))))
end
theorem VRels.set {κ:Kx} {φ:Nat->Addr} {n:Nat} {h:Heap} {l:List V} {xs:List Value} (q:VRels κ φ n h l xs):∀ (k:Nat) {v:V} {x:Value} (_:A4 κ φ n h v x),VRels κ φ n h (l.set k v) (xs.set k x):=
 VRels.ind (P:=λl xs=>∀ (k:Nat) {v:V} {x:Value} (_:A4 κ φ n h v x),VRels κ φ n h (l.set k v) (xs.set k x)) (λ_ _ _ _=>.nil) (λa b ih k _ _ r=>by
  induction k using aU with
  | zero=>exact .cons r b
  | succ k=>exact .cons a (ih k r)) q
noncomputable def frl (l:Bool) (env:PySem.Env):List Addr:=if l then [env.locals] else X4 env
theorem A3o (l:Bool) (env:PySem.Env):env.locals ∈ frl l env:=by induction l using ao<;>exact aP
section
variable (κ:Kx) (rn:F5) (f n:Nat) (nm:List (Str×aK))
noncomputable def TT (l:Bool) (ct:CT) (t:Expr):Prop:=∀ A c ev env w v x ev' es',B7 A f n->D9 κ c->A7 κ w->C8 κ w ev env->env.scope.names=nm->w.vr κ v x->ct rn c ev v w.es=.ok ev' es'->
 wpAny κ.m A (assign t env x) (A1 κ (frl l env) w es' λw' _=>C8 κ w' ev' env) D1 w.s
end
section
variable {κ:Kx} {rn:F5} {f n:Nat} {nm:List (Str×aK)}
theorem B9u {l:Bool} {i:Nat} {x:Str} {pos} (hx:SV i x) (hk:nm.lookup x=some .local):TT κ rn f n nm l (A4z i) (.Name x pos):=λA c ev env w v val ev' es' hA hc I r hn rv h=>by
 cases h
 show wpAny κ.m A (do standAt pos; bindName env x val) _ _ _
 exact ab (aZ (W1 (V9 I (A3o l env) r hx (by unfold aS; rw [hn]; exact hk) rv)))
theorem D4h {l:Bool} (KO:U8 κ) {a:CX} {m:Nat} {e:Expr} {name:Str} {pos} (hm:m ∈ E8) (hx:SV m name) (ha:SX κ rn f n nm a e):TT κ rn f n nm l (E6k a m) (.Attribute e name pos):=λA c ev env w v val ev' es' hA hc I r hn rv h=>by
 refine A2 h λov s1 h1 h2=>?_
 refine A2 h2 λu s2 h3 h4=>?_
 cases h4
 show wpAny κ.m A (do
  let ov <- holding [val] (eval e env)
  standAt pos.atName
  holding [val,ov] (setAttr ov name val)
  release [val,ov] []) _ _ _
 refine ab (aF (af (ha A c ev env w hA hc I r hn ov s1 h1) (λo s₁ p=>?_) λ_ _ x=>x))
 obtain ⟨φ1,le,inv,hr⟩:=p
 refine ab (aZ (ab (aF (af (B1p (w:=⟨φ1,s1,s₁⟩) KO inv hm hx hr (le.vr rv) h3) (λ_ s₂ p2=>wpAny_release ?_) λ_ _ x=>x))))
 obtain ⟨φ2,le2,inv2,_⟩:=p2
 exact ⟨φ2,(le.comp le2).nil,inv2,r.le (le.comp le2)⟩
theorem A8p (hc:D9 κ c) {A:aI} {w:W} (I:A7 κ w) (hu:A.units + 60 < cLine) {o i v:V} {ox ix vx:Value} {u:Unit} {es':St} (ro:w.vr κ o ox) (ri:w.vr κ i ix) (rv:w.vr κ v vx) (h:Mine.setItem c o i v w.es=.ok u es'):
  wpAny κ.m A (PySem.setItem ox ix vx) (A1 κ [] w es' λ_ _=>True) D1 w.s:=by
 induction ro using A4.el with
 | ref hk e=>
  refine gOn h λob h3 h2=>?_
  obtain ⟨hi,rob⟩:=I.obj _ _ h3
  subst e
  induction ob using O.casesOn with
  | list l=>
   refine E2 rob λitems hpl hlen hv=>?_; clear rob
   have hl:=hpl.isList
   induction ri using A4.el with
   | int e=>
    rename_i ii m t
    cases ii with
    | lit k=>
     induction k using Int.casesOn with
     | ofNat k=>
      have h2':D5 (Nat.blt k l.length) (j4 _ (l.set k v)) A5 w.es=.ok u es':=h2
      rw [E1] at h2'
      split at h2'
      ·rename_i hb
       have hlt:k < l.length:=aj hb
       obtain ⟨g1,g2⟩:=v8 h2'
       have hs:l.length=items.size:=by rw [hv.length,am]
       have ek:(aQ k)=m:=e
       subst ek
       have ekk:(aQ k:Int)=(k:Int):=rfl
       refine set_plain hpl (bW k) (by rw [ekk]; omega) (by rw [ekk]; omega) (λh' hl' hb=>?_)
       refine L9 (s':={ w.s with heap:=h' }) (R:=λ_ _=>True) I g2 h3 hb ⟨rfl,rfl,rfl⟩ (.inl ⟨rfl,λ_ _=>by simp,λ_ _=>by simp⟩) (by simp) (let ⟨_,ho⟩:=hl'; ⟨_,ho⟩) (λup=>⟨_,hl',g1,?_⟩) trivial
       have hs2:(items.setIfInBounds (aQ k).toNat vx).toList=items.toList.set k vx:=by rw [Array.toList_setIfInBounds]; rfl
       rw [hs2]
       exact (hv.up up).set k (rv.up up)
      ·exact (A0 (s:=w.es) h2').elim
     | negSucc k=>exact (A0 (s:=w.es) h2).elim
    | _=>exact (A0 (s:=w.es) h2).elim
   | opq y=>exact (A0 (s:=w.es) h2).elim
   | _=>exact (A0 (s:=w.es) h2).elim
  | dict l=>
   refine lfn h2 λl' h6 h5=>?_
   exact C5t (A:=A) I h3 ri rv h6 h5 (by omega)
  | inst k l=>exact (A0 (s:=w.es) h2).elim
  | chest=>exact (A0 (s:=w.es) h2).elim
  | pair=>exact (A0 (s:=w.es) h2).elim
  | tab=>exact (A0 (s:=w.es) h2).elim
 | opq x=>exact (A0 (s:=w.es) h).elim
 | _=>exact (A0 (s:=w.es) h).elim
theorem D0r {l:Bool} {a b:CX} {e y:Expr} {pos} (ha:SX κ rn f n nm a e) (hb:SX κ rn f n nm b y):TT κ rn f n nm l (C1f a b) (.Subscript e y pos):=λA c ev env w v val ev' es' hA hc I r hn rv h=>by
 refine A2 h λov s1 h1 h2=>?_
 refine A2 h2 λiv s2 h3 h4=>?_
 refine A2 h4 λu s3 h5 h6=>?_
 cases h6
 rw [arm_assign_Subscript]
 refine ab (aF (af (ha A c ev env w hA hc I r hn ov s1 h1) (λo s₁ p=>?_) λ_ _ x=>x))
 obtain ⟨φ1,le,inv,hr⟩:=p
 refine ab (aF (af (hb A c ev env ⟨φ1,s1,s₁⟩ hA hc inv (r.le le) hn iv s2 h3) (λi s₂ p2=>?_) λ_ _ x=>x))
 obtain ⟨φ2,le2,inv2,hr2⟩:=p2
 refine ab (aZ (ab (aF (af (A8p (w:=⟨φ2,s2,s₂⟩) hc inv2 hA.u60 (le2.vr hr) hr2 ((le.comp le2).vr rv) h5) (λ_ s₃ p3=>wpAny_release ?_) λ_ _ x=>x))))
 obtain ⟨φ3,le3,inv3,_⟩:=p3
 exact ⟨φ3,((le.comp le2).comp le3).nil,inv3,r.le ((le.comp le2).comp le3)⟩
end
section
variable {prog:Program} {w:World} {A:aI} {E:Value->ak->Prop} {s:ak}
theorem A2i {it l:Addr} {items:Array Value} (hne:l≠it):∀ (n i:Nat) (s:ak) (Q:List Value->ak->Prop),s.heap.IsListIter it l i->s.heap.IsList l items->i + n<=items.size->
  (∀ h',h'.IsListIter it l (i + n)->bY it s.heap h'->Q ((items.toList.drop i).take n) { s with heap:=h' })->wpAny (model prog w) A (draw (.ref it) n) Q E s
 | 0,i,s,Q,hit,_,_,hQ=>by
  show wpAny _ _ (pure []) Q E s
  exact ag (by simpa using hQ s.heap hit (Heap.SameBut.refl ..))
 | n + 1,i,s,Q,hit,ht,hle,hQ=>by
  have hlt:i < items.size:=by omega
  show wpAny _ _ (pyNext (.ref it) >>= _) Q E s
  refine ab (wpAny_pyNext_list_item hit ht (x:=items[i]) (by simp [hlt]) λh₁ hit₁ hs₁=>?_)
  refine ab (aF (A2i hne n (i + 1) _ _ hit₁ (ht.extBut hs₁.extBut hne) (by omega) λh₂ hit₂ hs₂=>ag ?_))
  have hd:items.toList.drop i=items[i]::items.toList.drop (i + 1):=by simp [List.drop_eq_getElem_cons,hlt]
  have:=hQ h₂ (by rw [show i + (n + 1)=i + 1 + n by omega]; exact hit₂) (hs₁.trans hs₂)
  rw [hd,List.take_succ_cons] at this
  exact this
theorem f9 {t:Addr} {items:Array Value} {Q:List Value->ak->Prop} (hh:A.handled=none) (ht:s.heap.IsList t items)
  (hQ:∀ h',Heap.ExtBut s.heap.objs.size s.heap h'->Q items.toList { s with heap:=h' }):wpAny (model prog w) A (unpackItems (.ref t) items.size none) Q E s:=by
 have hlt:t≠s.heap.objs.size:=by refine C5 ht λo ho _=>?_; clear ht; exact aV (Heap.lt_size ho)
 unfold unpackItems
 refine ab ?_
 ·unfold notIterableAtAll
  refine ab (wpAny_specialOf ht.typeIs slot_list_iter.lookup ?_)
  refine ag ?_
  simp only [Bool.false_eq_true,if_false]
  refine ab (aF (wpAny_pyIter_list ht ?_))
  have hit0:Heap.IsListIter (s.heap.push { cls:=.type "list_iterator",data:=.fields #[.ref t,.int 0 0] }) s.heap.objs.size t 0:=⟨_,ax _ rfl,rfl,rfl⟩
  refine ab (aF (A2i hlt items.size 0 _ _ hit0 (ht.push _) (by omega) λh₁ hit₁ hs₁=>?_))
  have hall:List.take items.size (List.drop 0 items.toList)=items.toList:=by
   rw [List.drop_zero]; exact cc (by simp)
  rw [hall]
  rw [if_neg (by simp)]
  have ht₁:h₁.IsList t items:=(ht.push _).extBut hs₁.extBut hlt
  refine ab (aF (wpAny_pyNext_list_end hh hit₁ ht₁ (by simp) λh₂ he₂=>?_))
  simp only [Option.isSome_none,Bool.false_eq_true,if_false]
  refine ag (hQ h₂ λb o hb e=>he₂ b o hb (hs₁.extBut b o hb (ai _ e)))
end
section
variable {κ:Kx} {X:List Addr} {w:W}
theorem A2j {h h':Heap} (e:Heap.ExtBut h.objs.size h h'):∀ b o,h.get? b=some o->h'.get? b=some o:=λb o q=>e b o (aV (Heap.lt_size q)) q
theorem B9x (I:A7 κ w) {A:aI} (hh:A.handled=none) {v:V} {x:Value} {vs:List V} {es':St} (r:w.vr κ v x) (h:B1d v w.es=.ok vs es'):
  es'=w.es/\∃ xs,w.vrs κ vs xs/\∀ {Q:List Value->ak->Prop} {E:Value->ak->Prop},(∀ h',(∀ b o,w.h.get? b=some o->h'.get? b=some o)->Q xs { w.s with heap:=h' })->wpAny κ.m A (unpackItems x vs.length none) Q E w.s:=by
 induction r using A4.el with
 | tup h1 h2 h3 h4 h5 h6=>
  obtain ⟨rfl,e2⟩:=A3 (s:=w.es) h
  refine ⟨e2,_,h6,λ{Q E} q=>?_⟩
  rw [h6.length,am]
  exact PyProof.Rows.unpackItems_tuple hh (G7 h1 h2 h3) λh' he=>q h' (A2j he)
 | ref hk e=>
  refine gOn h λob h3 h2=>?_
  obtain ⟨hi,rob⟩:=I.obj _ _ h3
  subst e
  induction ob using O.casesOn with
  | list l=>
   obtain ⟨rfl,e2⟩:=A3 (s:=w.es) h2
   refine E2 rob λitems hl hlen hv=>?_; clear rob
   have hl:=hl.isList
   refine ⟨e2,_,hv,λ{Q E} q=>?_⟩
   rw [hv.length,am]
   exact f9 hh hl λh' he=>q h' (A2j he)
  | _=>exact (A0 (s:=w.es) h2).elim
 | opq x=>exact (A0 (s:=w.es) h).elim
 | _=>exact (A0 (s:=w.es) h).elim
end
section
variable (κ:Kx) (rn:F5) (f n:Nat) (nm:List (Str×aK))
noncomputable def TTs (l:Bool) (cl:CTL) (ts:List Expr):Prop:=(∀ c ev vs s ev' s',cl rn c ev vs s=.ok ev' s'->vs.length=ts.length)/\∀ A c ev env w vs xs ev' es',B7 A f n->D9 κ c->A7 κ w->C8 κ w ev env->env.scope.names=nm->w.vrs κ vs xs->cl rn c ev vs w.es=.ok ev' es'->
 wpAny κ.m A (assignInOrder ((assignEach ts env).map (·.2)) xs) (A1 κ (frl l env) w es' λw' _=>C8 κ w' ev' env) D1 w.s
end
section
variable {κ:Kx} {rn:F5} {f n:Nat} {nm:List (Str×aK)}
theorem B3w {ts:List Expr} (hns:ts.all A9=true) (env:PySem.Env):(assignEach ts env).length=ts.length/\(assignEach ts env).findIdx? (·.1)=none:=by
 induction ts with
 | nil=>exact ⟨rfl,rfl⟩
 | cons t ts ih=>
  simp only [bL,az] at hns
  have:assignEach (t::ts) env=(false,assign t env)::assignEach ts env:=by induction t using Expr.casesOn<;>first | rfl | cases hns.1
  rw [this]
  obtain ⟨h1,h2⟩:=ih hns.2
  exact ⟨by rw [bh,h1,bh],by rw [List.findIdx?_cons]; simp [h2]⟩
theorem C2g {l:Bool}:TTs κ rn f n nm l D6g []:=by
 refine ⟨λc ev vs s ev' s' h=>?_,λA c ev env w vs xs ev' es' hA hc I r hn rv h=>?_⟩
 ·induction vs using av with
  | nil=>rfl
  | cons a b=>cases h
 ·induction rv using VRels.el with
  | nil=>cases h; exact ag (A1.here I r)
  | cons a b=>cases h
theorem B9o {l:Bool} {ct:CT} {cl:CTL} {t:Expr} {ts:List Expr} (hs:A9 t=true) (ht:TT κ rn f n nm l ct t) (hl:TTs κ rn f n nm l cl ts):TTs κ rn f n nm l (B0d ct cl) (t::ts):=by
 refine ⟨λc ev vs s ev' s' h=>?_,λA c ev env w vs xs ev' es' hA hc I r hn rv h=>?_⟩
 ·induction vs using av with
  | nil=>cases h
  | cons v vs=>
   refine A2 h λev1 s1 h1 h2=>?_
   rw [bh,hl.1 _ _ _ _ _ _ h2,bh]
 ·induction rv using VRels.el with
  | nil=>cases h
  | @cons v x vs xs ra rb=>
   refine A2 h λev1 s1 h1 h2=>?_
   have he:assignEach (t::ts) env=(false,assign t env)::assignEach ts env:=by induction t using Expr.casesOn<;>first | rfl | cases hs
   rw [he]
   show wpAny κ.m A (do holding xs (assign t env x); assignInOrder ((assignEach ts env).map (·.2)) xs) _ _ _
   refine ab (aF (af (ht A c ev env w v x ev1 s1 hA hc I r hn ra h1) (λ_ s₁ p=>?_) λ_ _ x=>x))
   obtain ⟨φ1,le,inv,r1⟩:=p
   exact af (hl.2 A c ev1 env ⟨φ1,s1,s₁⟩ vs xs ev' es' hA hc inv r1 hn (le.vrs rb) h2) (λ_ _ p2=>p2.lift le) λ_ _ x=>x
theorem D5x {l:Bool} {cl:CTL} {ts:List Expr} {k pos} (hns:ts.all A9=true) (hl:TTs κ rn f n nm l cl ts):TT κ rn f n nm l (B5b cl) (.Tuple ts k pos):=λA c ev env w v val ev' es' hA hc I r hn rv h=>by
 refine A2 h λvs s1 h1 h2=>?_
 refine A1y (B9x I hA.handled rv h1) λe1 xs hxs g=>?_
 obtain ⟨l1,l2⟩:=B3w hns env
 rw [arm_assign_Tuple]
 refine ab (aZ ?_)
 unfold unpack
 rw [l1,l2,<- hl.1 _ _ _ _ _ _ h2]
 refine ab (aF (g λh' hk=>?_))
 have le:=Le.grow (X:=[]) (w:=w) (s':={ w.s with heap:=h' }) hk ⟨rfl,rfl,rfl⟩
 subst e1
 exact af (hl.2 A c ev env ⟨w.φ,w.es,{ w.s with heap:=h' }⟩ vs xs ev' es' hA hc (I.grow hk) (r.le le) hn (le.vrs hxs) h2) (λ_ _ p=>p.lift le.nil) λ_ _ x=>x
theorem D2d {i:Nat} {x:Str} {pos} (hx:SV i x) (hk:nm.lookup x=some .cell):TT κ rn f n nm false (D5m i) (.Name x pos):=λA c ev env w v val ev' es' hA hc I r hn rv h=>by
 cases h
 rw [arm_assign_Name]
 exact ab (aZ (W1 (A2x I r hx (by unfold aS; rw [hn]; exact hk) (r.cellD x (.inl (by rw [hn]; exact hk))) rv)))
end
noncomputable def FR (κ:Kx) (env:PySem.Env) (fl:Fl):W->Flow->Prop:=λw r=>match fl with
 | .nxt e'=>r=.next/\C8 κ w e' env
 | .brk _=>False
 | .ret v=>∃ val,r=.ret val/\w.vr κ v val
section
variable (κ:Kx) (rn:F5) (f n:Nat) (nm:List (Str×aK))
noncomputable def SS (cs:CS) (st:Stmt):Prop:=∀ A c ev env w fl es',B7 A f n->D9 κ c->A7 κ w->C8 κ w ev env->env.scope.names=nm->cs rn c ev w.es=.ok fl es'->wpAny κ.m A (exec st env) (A1 κ (X4 env) w es' (FR κ env fl)) D1 w.s
noncomputable def SSs (cs:CS) (sts:List Stmt):Prop:=∀ A c ev env w fl es',B7 A f n->D9 κ c->A7 κ w->C8 κ w ev env->env.scope.names=nm->cs rn c ev w.es=.ok fl es'->wpAny κ.m A (execs sts env) (A1 κ (X4 env) w es' (FR κ env fl)) D1 w.s
end
noncomputable def u9 (e:Expr):Bool:=!(aA e.ctorIdx 9 || aA e.ctorIdx 8 || aA e.ctorIdx 10)
theorem y4 {e:Expr} (h:u9 e=true) (t:Option Expr) (l:Nat) (env:PySem.Env):swapsWith e t l env=pure false:=by
 induction e using Expr.casesOn<;>first | rfl | exact ff h
section
variable {κ:Kx} {rn:F5} {f n:Nat} {nm:List (Str×aK)}
theorem C8.inter {w:W} {ev:Mine.Env} {env:PySem.Env} (r:C8 κ w ev env):interactive env=false:=by unfold interactive; rw [r.kind]; rfl
theorem C8.block {w:W} {ev:Mine.Env} {env:PySem.Env} (r:C8 κ w ev env):env.blockKind=.function:=by unfold PySem.Env.blockKind; rw [r.kind]; rfl
theorem C4q {a:CX} {e:Expr} {pos} (hn':u9 e=true) (ha:SX κ rn f n nm a e):SS κ rn f n nm (C6c a) (.Expr e pos):=λA c ev env w fl es' hA hc I r hn h=>by
 refine A2 h λv s1 h1 h2=>?_
 cases h2
 refine wpAny_Expr_any (af (ha A c ev env w hA hc I r hn v es' h1) (λ_ _ p=>?_) λ_ _ x=>x) r.inter (y4 hn' _ _ _)
 exact p.mono (λ_ q=>nomatch q) λw₁ le _ _=>⟨rfl,r.le le⟩
theorem D4e {a:CX} {e:Expr} {pos} (ha:SX κ rn f n nm a e):SS κ rn f n nm (C2b (oSo a)) (.Return (some e) pos):=λA c ev env w fl es' hA hc I r hn h=>by
 refine A2 h λv s1 h1 h2=>?_
 refine A2 h1 λv' s2 h3 h4=>?_
 cases h4
 cases h2
 refine wpAny_Return_some (af (ha A c ev env w hA hc I r hn v' es' h3) (λval _ p=>?_) λ_ _ x=>x)
 exact p.mono (λ_ q=>nomatch q) λw₁ le _ hr=>⟨val,rfl,hr⟩
theorem C2h {pos}:SS κ rn f n nm (C2b oNo) (.Return none pos):=λA c ev env w fl es' hA hc I r hn h=>by
 cases h
 rw [arm_exec_Return]
 exact ab (aZ (ag (A1.here I ⟨.none,rfl,.none⟩)))
theorem D7g {t:CX} {a b:CS} {e:Expr} {x y:List Stmt} {pos} (ht:SE κ rn f n nm t e) (ha:SSs κ rn f n nm a x) (hb:SSs κ rn f n nm b y):SS κ rn f n nm (D5o t a b) (.If e x y pos):=λA c ev env w fl es' hA hc I r hn h=>by
 refine A2 h λv1 s1 h1 h2=>?_
 refine A2 h2 λk s2 h3 h4=>?_
 refine wpAny_If (af (ht.2.after hA hc I r hn h1 h3) (λk' s₁ p=>?_) λ_ _ x=>x)
 have hr:k'=k:=by obtain ⟨_,_,_,q⟩:=p; exact q
 subst hr
 obtain ⟨φ1,le,inv,_⟩:=p
 induction k' using ao with
 | true=>exact af (ha A c ev env ⟨φ1,s2,s₁⟩ fl es' hA hc inv (r.le le) hn h4) (λ_ _ p=>p.lift le.nil) λ_ _ x=>x
 | false=>exact af (hb A c ev env ⟨φ1,s2,s₁⟩ fl es' hA hc inv (r.le le) hn h4) (λ_ _ p=>p.lift le.nil) λ_ _ x=>x
theorem C2n:SSs κ rn f n nm E8b []:=λA c ev env w fl es' hA hc I r hn h=>by
 cases h
 exact wpAny_execs_nil (A1.here I ⟨rfl,r⟩)
theorem A5a {a b:CS} {st:Stmt} {sts:List Stmt} (ha:SS κ rn f n nm a st) (hb:SSs κ rn f n nm b sts):SSs κ rn f n nm (B6e a b) (st::sts):=λA c ev env w fl es' hA hc I r hn h=>by
 refine A2 h λfl1 s1 h1 h2=>?_
 refine wpAny_execs_cons (af (ha A c ev env w fl1 s1 hA hc I r hn h1) (λflow s₁ p=>?_) λ_ _ x=>x)
 obtain ⟨φ1,le,inv,hr⟩:=p
 induction fl1 using Fl.casesOn with
 | nxt e'=>
  obtain ⟨rfl,r1⟩:=hr
  exact af (hb A c e' env ⟨φ1,s1,s₁⟩ fl es' hA hc inv r1 hn h2) (λ_ _ p=>p.lift le) λ_ _ x=>x
 | brk e'=>exact hr.elim
 | ret v=>
  refine C5 hr λval q23' r1=>?_; clear hr; subst q23'
  cases h2
  exact ⟨φ1,le,inv,val,rfl,r1⟩
theorem B7v {ct:CT} {a:CX} {t e:Expr} {pos} (hs:A9 t=true) (hn':∀ env:PySem.Env,env.scope.names=nm->env.blockKind=.function->swapsWith e (some t) pos.line env=pure false) (hw:∀ env:PySem.Env,env.scope.names=nm->env.blockKind=.function->swappedStores [t] e env=pure none) (ht:TT κ rn f n nm false ct t) (ha:SX κ rn f n nm a e):SS κ rn f n nm (R7 ct a) (.Assign [t] e pos):=λA c ev env w fl es' hA hc I r hn h=>by
 refine A2 h λv s1 h1 h2=>?_
 refine A2 h2 λev' s2 h3 h4=>?_
 cases h4
 rw [arm_exec_Assign]
 refine ab (aZ (ab ?_))
 rw [show swapsWithSole [t] e pos.line env=pure false from hn' env hn r.block]
 refine ag ?_
 rw [if_neg (by decide)]
 refine ab (af (ha A c ev env w hA hc I r hn v s1 h1) (λval s₁ p=>?_) λ_ _ x=>x)
 obtain ⟨φ1,le,inv,hr⟩:=p
 refine ab ?_
 rw [hw env hn r.block]
 refine ag ?_
 have he:(assignEach [t] env).map (·.2)=[assign t env]:=by induction t using Expr.casesOn<;>first | rfl | cases hs
 rw [he]
 show wpAny κ.m A (do assign t env val; pure Flow.next) _ _ _
 refine ab (af (ht A c ev env ⟨φ1,s1,s₁⟩ v val ev' es' hA hc inv (r.le le) hn hr h3) (λ_ s₂ p2=>ag ?_) λ_ _ x=>x)
 obtain ⟨φ2,le2,inv2,r2⟩:=p2
 exact ⟨φ2,le.nil.comp le2,inv2,rfl,r2⟩
theorem B9t {A:aI} {w:W} {op:Nat} {o:Operator} (ho:opB op=some o) {a b v:V} {x y:Value} {es':St} (I:A7 κ w) (ra:w.vr κ a x) (rb:w.vr κ b y) (h:D2j op a b w.es=.ok v es'):
  es'=w.es/\∃ m,(∀ t,w.vr κ v (.int m t))/\∀ {Q:Value->ak->Prop} {E:Value->ak->Prop},(∀ t,Q (.int m t) { w.s with toks:=w.s.toks + 1 })->wpAny κ.m A (inplaceOp o x y) Q E w.s:=by
 induction ra using A4.el with
 | int e=>
  induction rb using A4.el with
  | int e'=>
   match op,ho,h with
   | 0,ho,h=>
    cases ho
    obtain ⟨rfl,h2⟩:=A3 (s:=w.es) h
    exact ⟨h2,_,λt=>.int (by rw [A5w,e,e']),λ{Q E} q=>PyProof.Rows.iadd_int (q _)⟩
   | 1,ho,h=>
    cases ho
    obtain ⟨rfl,h2⟩:=A3 (s:=w.es) h
    exact ⟨h2,_,λt=>.int (by rw [A5j,e,e']),λ{Q E} q=>PyProof.Rows.isub_int (q _)⟩
   | n + 2,ho,h=>exact (A0 (s:=w.es) h).elim
  | opq y=>exact (A0 (s:=w.es) h).elim
  | _=>exact (A0 (s:=w.es) h).elim
 | opq x=>exact (A0 (s:=w.es) h).elim
 | _=>exact (A0 (s:=w.es) h).elim
theorem D2t {op:Nat} {o:Operator} (ho:opB op=some o) {i:Nat} {x:Str} {a:CX} {e:Expr} {p pos} (hx:SV i x) (hk:nm.lookup x=some .local) (ha:SX κ rn f n nm a e):SS κ rn f n nm (E7l i op a) (.AugAssign (.Name x p) o e pos):=λA c ev env w fl es' hA hc I r hn h=>by
 refine lfb h λv0 g0 h1=>?_
 refine A2 h1 λv1 s1 h2 h3=>?_
 refine A2 h3 λv2 s2 h4 h5=>?_
 cases h5
 refine C5 r.ns λm hm hv=>?_
 refine C5 (hv i v0 x g0 hx) λval g2 g3=>?_
 have hk':env.kindOf x=some .local:=by unfold aS; rw [hn]; exact hk
 refine wpAny_AugAssign_Name (wpAny_loadName_local r.kind hk' hm g2 (af (ha A c ev env w hA hc I r hn v1 s1 h2) (λval1 s₁ p=>?_) λ_ _ x=>x))
 obtain ⟨φ1,le,inv,hr⟩:=p
 refine A1y (B9t (A:=A) (w:=⟨φ1,s1,s₁⟩) ho inv (le.vr g3) hr h4) λe1 k g4 g5=>?_
 have e1':es'=s1:=e1
 subst e1'
 refine g5 λt=>?_
 have le1:=Le.toks (X:=[]) (w:=⟨φ1,es',s₁⟩) (s₁.toks + 1)
 refine af (V9 (w:=⟨φ1,es',{ s₁ with toks:=s₁.toks + 1 }⟩) (inv.toks _) (A3o false env) (r.le (le.comp le1)) hx hk' (le1.vr (g4 t))) (λ_ s₂ p2=>?_) λ_ _ x=>x
 obtain ⟨φ2,le2,inv2,r2⟩:=p2
 exact ⟨φ2,(le.comp le1).nil.comp le2,inv2,rfl,r2⟩
theorem D1o (KO:U8 κ) {op:Nat} {o:Operator} (ho:opB op=some o) {m:Nat} {name:Str} {b a:CX} {e0 e:Expr} {p pos} (hm:m ∈ E8) (hx:SV m name) (hb:SX κ rn f n nm b e0) (ha:SX κ rn f n nm a e):SS κ rn f n nm (E2r b m op a) (.AugAssign (.Attribute e0 name p) o e pos):=λA c ev env w fl es' hA hc I r hn h=>by
 refine A2 h λov s1 h1 h2=>?_
 refine A2 h2 λx s2 h3 h4=>?_
 refine A2 h4 λy s3 h5 h6=>?_
 refine A2 h6 λv s4 h7 h8=>?_
 refine A2 h8 λu s5 h9 h10=>?_
 cases h10
 rw [arm_exec_AugAssign_2]
 refine ab (aZ (ab (af (hb A c ev env w hA hc I r hn ov s1 h1) (λo1 s₁ p=>?_) λ_ _ x=>x)))
 obtain ⟨φ1,le,inv,hr⟩:=p
 refine A1y (B9c (A:=A) (w:=⟨φ1,s1,s₁⟩) KO inv hm hx hr h3) λe1 z hz g=>?_
 have e1':s2=s1:=e1
 subst e1'
 refine ab (aF (ab (aZ (ab (g ?_)))))
 have le1:=le.comp (Le.toks (X:=[]) (w:=⟨φ1,s2,s₁⟩) (s₁.toks + 1))
 refine ab (aF (af (ha A c ev env ⟨φ1,s2,{ s₁ with toks:=s₁.toks + 1 }⟩ hA hc (inv.toks _) (r.le le1) hn y s3 h5) (λy1 s₂ p2=>?_) λ_ _ x=>x))
 obtain ⟨φ2,le2,inv2,hr2⟩:=p2
 refine A1y (B9t (A:=A) (w:=⟨φ2,s3,s₂⟩) ho inv2 (le2.vr ((Le.toks (X:=[]) _).vr hz)) hr2 h7) λe2 k g4 g5=>?_
 have e2':s4=s3:=e2
 subst e2'
 refine ab (aZ (wpAny_operating (g5 λt=>?_)))
 have le3:=Le.toks (X:=[]) (w:=⟨φ2,s4,s₂⟩) (s₂.toks + 1)
 refine ab (aZ (ab (aF (af (B1p (w:=⟨φ2,s4,{ s₂ with toks:=s₂.toks + 1 }⟩) KO (inv2.toks _) hm hx (le3.vr (le2.vr ((Le.toks (X:=[]) _).vr hr))) (le3.vr (g4 t)) h9) (λ_ s₃ p3=>?_) λ_ _ x=>x))))
 obtain ⟨φ3,le4,inv3,_⟩:=p3
 refine ab (wpAny_release (ag ?_))
 have lef:=((le1.comp le2).comp le3).comp le4
 exact ⟨φ3,lef.nil,inv3,rfl,r.le lef⟩
end
noncomputable def I8 (κ:Kx) (w:W) (a:Addr):It->Prop
 | .rng x st k=>IsRangeIter w.h a x (k:Nat) st
 | .lst h k=>h < w.n/\w.h.IsListIter a (w.φ h) k
 | .tup l=>∃ t items i,IsTupIter w.h a t i/\IsTup w.h t items/\(∀ j,j < w.n->w.φ j≠t)/\i<=items.size/\w.vrs κ l (items.toList.drop i)
 | .zip _ _ _=>False
structure N0 (κ:Kx) (w:W) (a:Addr):Prop where
 unm:∀ i,i < w.n->w.φ i≠a
 fresh:κ.base.get? a=none
section
variable {κ:Kx} {X:List Addr} {w:W}
theorem I8.there {a:Addr} {it:It} (r:I8 κ w a it):∃ o,w.h.get? a=some o/\¬ Y6 o:=by
 induction it using It.casesOn with
 | rng x st k=>exact ⟨_,r,λ⟨h,_⟩=>by simp at h⟩
 | lst h k=>refine M5 r λ_ o ho hc _=>?_; clear r; exact ⟨o,ho,λ⟨h,_⟩=>by rw [hc] at h; simp at h⟩
 | tup l=>refine U1 r λt items i q21' _=>?_; clear r; refine E2 q21' λo ho hc _=>?_; clear q21'; exact ⟨o,ho,λ⟨h,_⟩=>by rw [hc] at h; simp at h⟩
 | zip _ _ _=>exact r.elim
theorem w3 {h:Heap} {t:Addr} {items:Array Value} (x:IsTup h t items):∃ o,h.get? t=some o/\Y6 o/\∃ e,o.data=.seq items e:=let ⟨o,ho,hc,e,hd⟩:=x; ⟨o,ho,⟨hc,_,_,hd⟩,e,hd⟩
theorem I8.le {w':W} {a:Addr} {it:It} (r:I8 κ w a it) (l:Le X w w') (hs:∀ o,w.h.get? a=some o->w'.h.get? a=some o):I8 κ w' a it:=by
 induction it using It.casesOn with
 | rng x st k=>exact hs _ r
 | lst h k=>
  refine A1y r λh1 o ho q=>?_; clear r
  exact ⟨ba h1 l.le,o,hs _ ho,by rw [l.same h h1]; exact q⟩
 | tup lv=>
  refine K0 r λt items i q22' ht hu hi hv=>?_; clear r; refine C5 q22' λo ho q=>?_; clear q22'
  refine P5 (w3 ht) λot h1 h2 e h3=>?_
  have h4:=l.keep t ot h1 (.inl h2) hu
  exact ⟨t,items,i,⟨o,hs _ ho,q⟩,⟨ot,h4,h2.1,e,h3⟩,l.unm ⟨_,h1⟩ hu,hi,l.vrs hv⟩
 | zip _ _ _=>exact r.elim
theorem N0.le {w':W} {a:Addr} (x:N0 κ w a) (l:Le X w w') (h:∃ o,w.h.get? a=some o):N0 κ w' a:=⟨l.unm h x.unm,x.fresh⟩
noncomputable def E5k (κ:Kx) (w:W) (A:aI) (a:Addr) (r:Option (V×It)) (t:(Q:Option Value->ak->Prop)->Prop):Prop:=match r with
 | some (v,it')=>∀ Q:Option Value->ak->Prop,(∀ x s',c9 w.s s'->bY a w.h s'.heap->I8 κ ⟨w.φ,w.es,s'⟩ a it'->A4 κ w.φ w.n s'.heap v x->Q (some x) s')->t Q
 | none=>∀ Q:Option Value->ak->Prop,(∀ h',Heap.ExtBut a w.h h'->Q none { w.s with heap:=h' })->t Q
theorem B7l {a:Addr} {h':Heap} (hs:bY a w.h h') (hn:∀ o,w.h.get? a=some o->¬ Y6 o):Up w.φ w.n w.h w.φ w.n h':=⟨λb ob e hT _=>(hs.2 b λq=>by subst q; exact hn _ e hT).trans e,λ_ _=>rfl,λi h1 h2=>absurd h2 (bq.mpr h1),aG _⟩
theorem C0a (I:A7 κ w) {A:aI} (hh:A.handled=none) {a:Addr} {it:It} {r:Option (V×It)} {es':St} (R:I8 κ w a it) (O:N0 κ w a) (h:G8 it w.es=.ok r es'):
  es'=w.es/\∀ E:Value->ak->Prop,E5k κ w A a r λQ=>wpAny κ.m A (pyNext (.ref a)) Q E w.s:=by
 refine C5 R.there λoa hoa hna=>?_
 have hna':∀ o,w.h.get? a=some o->¬ Y6 o:=λo ho=>by rw [hoa] at ho; cases ho; exact hna
 induction it using It.casesOn with
 | rng x st k=>
  have R':IsRangeIter w.s.heap a x (k:Nat) st:=R
  induction k using aU with
  | zero=>
   obtain ⟨rfl,e⟩:=A3 (s:=w.es) h
   exact ⟨e,λE Q q=>wpAny_pyNext_range_end hh R' (by decide) q⟩
  | succ k=>
   obtain ⟨rfl,e⟩:=A3 (s:=w.es) h
   refine ⟨e,λE Q q=>wpAny_pyNext_range_item R' (by omega) λh' hi hs=>?_⟩
   refine q _ _ ⟨rfl,rfl,rfl⟩ hs ?_ (.int rfl)
   show IsRangeIter h' a (x + st) (k:Nat) st
   have e:(((k + 1:Nat):Int) - 1)=((k:Nat):Int):=by omega
   rw [e] at hi; exact hi
 | lst hd k=>
  obtain ⟨R1,R2⟩:=R
  refine gOn h λob h3 h2=>?_
  obtain ⟨hi,rob⟩:=I.obj _ _ h3
  cases ob with
  | list l=>
   refine E2 rob λitems hl hlen hv=>?_; clear rob
   have hl:=hl.isList
   have h2':(match l[k]? with | some v=>D7 (some (v,It.lst hd (Nat.succ k))) | none=>D7 none) w.es=.ok r es':=h2
   induction hk:l[k]? using ae with
   | none=>
    rw [hk] at h2'
    obtain ⟨rfl,e⟩:=A3 (s:=w.es) h2'
    refine ⟨e,λE Q q=>wpAny_pyNext_list_end hh R2 hl ?_ q⟩
    have:items.size<=k:=by
     have:=List.getElem?_eq_none_iff.mp hk
     rw [hv.length,am] at this; exact this
    exact Array.getElem?_eq_none this
   | some v=>
    rw [hk] at h2'
    obtain ⟨rfl,e⟩:=A3 (s:=w.es) h2'
    refine C5 (hv.get hk) λx hx rx=>?_
    refine ⟨e,λE Q q=>wpAny_pyNext_list_item R2 hl (x:=x) (by rw [<- hx]; simp) λh' hi' hs=>?_⟩
    exact q _ _ ⟨rfl,rfl,rfl⟩ hs ⟨R1,hi'⟩ (rx.up (B7l hs hna'))
  | _=>exact (A0 (s:=w.es) h2).elim
 | tup l=>
  refine K0 R λt items i hit ht hu hi hv=>?_; clear R
  have hat:t≠a:=λq=>by
   refine E2 (w3 ht) λot h1 h2 _=>?_
   subst q; exact hna' ot h1 h2
  induction l using av with
  | nil=>
   obtain ⟨rfl,e⟩:=A3 (s:=w.es) h
   refine ⟨e,λE Q q=>next_tuple_end hh hit ht ?_ q⟩
   have:(items.toList.drop i).length=0:=hv.length.symm
   rw [bH,am] at this
   exact Array.getElem?_eq_none (by omega)
  | cons v l=>
   obtain ⟨rfl,e⟩:=A3 (s:=w.es) h
   have hlt:i < items.size:=by
    have:(items.toList.drop i).length=l.length + 1:=hv.length.symm
    rw [bH,am] at this
    omega
   have hd:items.toList.drop i=items[i]::items.toList.drop (i + 1):=by simp [List.drop_eq_getElem_cons,hlt]
   rw [hd] at hv
   cases hv with
   | cons ra rb=>
    refine ⟨e,λE Q q=>next_tuple_item hit ht (x:=items[i]) (by simp [hlt]) λh' hi' hs=>?_⟩
    have u:=B7l hs hna'
    refine q _ _ ⟨rfl,rfl,rfl⟩ hs ⟨t,items,i + 1,hi',?_,hu,hlt,rb.up u⟩ (ra.up u)
    exact ht.extBut hs.extBut hat
 | zip _ _ _=>exact R.elim
end
inductive B9 (h:Heap) (it src:Addr) (items:Array Value) (k:Nat):Prop
 | list:h.IsListIter it src k->h.IsList src items->B9 h it src items k
 | tup:IsTupIter h it src k->IsTup h src items->B9 h it src items k
theorem B9.ext {h h':Heap} {it src a:Addr} {items:Array Value} {k:Nat} (r:B9 h it src items k) (e:Heap.ExtBut a h h') (h1:it≠a) (h2:src≠a):B9 h' it src items k:=by
 induction r using B9.casesOn with
 | list a b=>exact .list (a.extBut e h1) (b.extBut e h2)
 | tup a b=>exact .tup (a.extBut e h1) (b.extBut e h2)
section
variable {prog:Program} {w:World} {A:aI} {E:Value->ak->Prop} {s:ak}
theorem J7 {it src:Addr} {x:Value} {items:Array Value} {k:Nat} {Q:Value->ak->Prop} (r:B9 s.heap it src items k) (h1:items[k]?=some x) (hne:src≠it)
  (hQ:∀ h',B9 h' it src items (k + 1)->bY it s.heap h'->Q x { s with heap:=h' }):wpAny (model prog w) A (aT (.ref it)) Q E s:=by
 induction r using B9.casesOn with
 | list a b=>exact wpAny_nextOf_list_item a b h1 λh' hi hs=>hQ h' (.list hi (b.extBut hs.extBut hne)) hs
 | tup a b=>
  refine E2 (id a) λo ho hc hd=>?_
  refine P5 (id b) λol hol hcl nl hdl=>?_
  unfold aT
  refine ab (bK (name:=aa "__next__") a.typeIs slot_tupleiter_next
   (bx slot_tupleiter_next a.typeIs entry_tupleiter_next ?_ (args_tupleiter_next _)))
  show wpAny _ _ (field (.ref it) 0 >>= _) _ _ s
  refine ab (bk ho hd (x:=.ref src) rfl ?_)
  show wpAny _ _ (if (Value.ref src == Value.none)=true then _ else _) _ _ s
  rw [if_neg (show ¬ ((Value.ref src == Value.none)=true) from Bool.false_ne_true)]
  show wpAny _ _ (field (.ref it) 1 >>= _) _ _ s
  refine ab (bk ho hd (x:=.int _ 0) rfl ?_)
  show wpAny _ _ (seqItems? (.ref src) >>= _) _ _ s
  refine ab (bI hol hdl ?_)
  simp only [Int.toNat_natCast,h1]
  refine ab (wpAny_setField ho hd (by simp) (ag ⟨x,rfl,ag (hQ _ (.tup ?_ (b.extBut (bl ..).extBut hne)) (bl ..))⟩))
  exact ⟨_,Heap.get?_update_self _ ho (Obj.isFreed_of_fields (Obj.data_mapFields hd _)),(Obj.cls_mapFields ..).trans hc,by
   rw [Obj.data_mapFields hd]; simp [rawInt]⟩
theorem Q7 {it src:Addr} {items:Array Value} {k:Nat} {Q:Value->ak->Prop} (hh:A.handled=none) (r:B9 s.heap it src items k) (h1:items[k]?=none)
  (hE:∀ h' e,Heap.ExtBut it s.heap h'->(∃ o,h'.get? e=some o/\o.cls=.type "StopIteration")->E (.ref e) { s with heap:=h' }):wpAny (model prog w) A (aT (.ref it)) Q E s:=by
 cases r with
 | list a b=>exact wpAny_nextOf_list_end hh a b h1 hE
 | tup a b=>
  refine E2 (id a) λo ho hc hd=>?_
  refine P5 (id b) λol hol hcl nl hdl=>?_
  unfold aT
  refine ab (bK (name:=aa "__next__") a.typeIs slot_tupleiter_next
   (bx slot_tupleiter_next a.typeIs entry_tupleiter_next ?_ (args_tupleiter_next _)))
  show wpAny _ _ (field (.ref it) 0 >>= _) _ _ s
  refine ab (bk ho hd (x:=.ref src) rfl ?_)
  show wpAny _ _ (if (Value.ref src == Value.none)=true then _ else _) _ _ s
  rw [if_neg (show ¬ ((Value.ref src == Value.none)=true) from Bool.false_ne_true)]
  show wpAny _ _ (field (.ref it) 1 >>= _) _ _ s
  refine ab (bk ho hd (x:=.int _ 0) rfl ?_)
  show wpAny _ _ (seqItems? (.ref src) >>= _) _ _ s
  refine ab (bI hol hdl ?_)
  simp only [Int.toNat_natCast,h1]
  refine ab (wpAny_rule (ab (wpAny_setField ho hd (by simp) ?_)))
  show wpAny _ _ (newExc (.type "StopIteration") [] >>= _) _ _ _
  refine ab ?_
  simp only [newExc,newTuple]
  refine ab (wpAny_newObj_type ?_ (by size_fits))
  refine ab (m:=firstArgMember _ _) (wpAny_of_eq (a:=Value.none) (by first | rfl | (simp only [firstArgMember]; rfl)) ?_)
  refine wpAny_newObj_type ?_ (by size_fits)
  simp only [raiseNew]
  refine ab (wpAny_handled ?_)
  first | rw [show A.in1.handled=none from hh] | rw [hh]
  refine ab (ag (wpAny_throw ?_))
  exact hE _ _ (((bl ..).extBut.push _).push _) ⟨_,ax _ rfl,rfl⟩
theorem A4t {z TI TO i1 i2 l1 l2:Addr} {xs ys:Array Value} {k1 k2:Nat} {x y a b:Value} {Q:Value->ak->Prop} (D:ZipApart z TI TO i1 i2 l1 l2)
  (hz:IsZip s.heap z TI TO .none) (hTI:bM s.heap TI (.ref i1) (.ref i2)) (hTO:bM s.heap TO a b) (h1:B9 s.heap i1 l1 xs k1) (h2:B9 s.heap i2 l2 ys k2) (hx:xs[k1]?=some x) (hy:ys[k2]?=some y)
  (hQ:∀ h',IsZip h' z TI TO (rawInt s.heap.objs.size)->bM h' TO x y->B9 h' i1 l1 xs (k1 + 1)->B9 h' i2 l2 ys (k2 + 1)->bM h' s.heap.objs.size x y->
   (∀ c o,c≠z->c≠TO->c≠i1->c≠i2->s.heap.get? c=some o->h'.get? c=some o)->Q (.ref s.heap.objs.size) { s with heap:=h' }):
  wpAny (model prog w) A (Builtin.«zip.__next__» ⟨[.ref z],[]⟩) (λfin s'=>∃ v,fin=.done (.ret v)/\Q v s') E s:=by
 show wpAny _ _ (field (.ref z) 2 >>= _) _ _ _
 refine ab (bk hz rfl (x:=.bool false) rfl ?_)
 show wpAny _ _ (field (.ref z) 3 >>= _) _ _ _
 refine ab (bk hz rfl (x:=.ref TI) rfl (ab (bI hTI rfl ?_)))
 show wpAny _ _ (aW (.ref z) >>= _) _ _ _
 refine ab ?_
 unfold aW
 refine ab (bk hz rfl (x:=.none) rfl (ag ?_))
 simp only [if_true]
 refine ab (wpAny_rule (ab (bk hz rfl (x:=.ref TO) rfl (ab (wpAny_setField_rec hz (by simp) λh₁ hz₁ hs₁=>?_)))))
 replace hz₁:IsZip h₁ z TI TO .ellipsis:=hz₁
 refine ab ?_
 simp only [List.zipIdx_cons,List.zipIdx_nil,List.forIn_cons,List.forIn_nil]
 refine ab (ab (wpAny_onRaise ?_))
 show wpAny _ _ (aT (.ref i1) >>= _) _ _ _
 refine ab (J7 (h1.ext hs₁.extBut D.i1z D.l1z) hx D.l1i1 λh₂ h1₂ hs₂=>ag ?_)
 have hTO₂:bM h₂ TO a b:=hs₂.extBut _ _ D.TOi1 (hs₁.extBut _ _ D.TOz hTO)
 refine ab (bI hTO₂ rfl (ab (wpAny_updateSeq_pair hTO₂ λh₃ hTO₃ hs₃=>?_)))
 replace hTO₃:bM h₃ TO x b:=hTO₃
 refine ab (wpAny_letGo (ag (ab (ab (wpAny_onRaise ?_)))))
 show wpAny _ _ (aT (.ref i2) >>= _) _ _ _
 refine ab (J7 (((h2.ext hs₁.extBut D.i2z D.l2z).ext hs₂.extBut D.i12.symm D.l2i1).ext hs₃.extBut D.TOi2.symm D.l2TO) hy D.l2i2 λh₄ h2₄ hs₄=>ag ?_)
 have hTO₄:bM h₄ TO x b:=hs₄.extBut _ _ D.TOi2 hTO₃
 refine ab (bI hTO₄ rfl (ab (wpAny_updateSeq_pair hTO₄ λh₅ hTO₅ hs₅=>?_)))
 replace hTO₅:bM h₅ TO x y:=hTO₅
 refine ab (wpAny_letGo (ag (ag ?_)))
 refine ab (bI hTO₅ rfl (ab (wpAny_newTuple ?_)))
 have hsz:h₅.objs.size=s.heap.objs.size:=by rw [hs₅.1,hs₄.1,hs₃.1,hs₂.1,hs₁.1]
 have hz₅:IsZip h₅ z TI TO .ellipsis:=hs₅.extBut _ _ D.TOz.symm (hs₄.extBut _ _ D.i2z.symm (hs₃.extBut _ _ D.TOz.symm (hs₂.extBut _ _ D.i1z.symm hz₁)))
 have hk₅:∀ c o,c≠z->c≠TO->c≠i1->c≠i2->s.heap.get? c=some o->h₅.get? c=some o:=λc o c1 c2 c3 c4 e=>
  hs₅.extBut _ _ c2 (hs₄.extBut _ _ c4 (hs₃.extBut _ _ c2 (hs₂.extBut _ _ c3 (hs₁.extBut _ _ c1 e))))
 have h1₅:B9 h₅ i1 l1 xs (k1 + 1):=((h1₂.ext hs₃.extBut D.TOi1.symm D.l1TO).ext hs₄.extBut D.i12 D.l1i2).ext hs₅.extBut D.TOi1.symm D.l1TO
 have h2₅:B9 h₅ i2 l2 ys (k2 + 1):=h2₄.ext hs₅.extBut D.TOi2.symm D.l2TO
 have hzlt:z < h₅.objs.size:=Heap.lt_size hz₅
 show wpAny _ _ (Builtin.SmallTypes.ownedTupleHandOut (.ref z) (.ref h₅.objs.size) >>= _) _ _ _
 refine ab ?_
 unfold Builtin.SmallTypes.ownedTupleHandOut
 have hz₆:IsZip (h₅.push { cls:=.type "tuple",data:=.seq #[x,y] }) z TI TO .ellipsis:=ai _ hz₅
 refine ab (wpAny_setField_rec hz₆ (by simp) λh₇ hz₇ hs₇=>?_)
 replace hz₇:IsZip h₇ z TI TO (rawInt h₅.objs.size):=hz₇
 refine wpAny_setField_rec hz₇ (by simp) λh₈ hz₈ hs₈=>?_
 replace hz₈:IsZip h₈ z TI TO (rawInt h₅.objs.size):=hz₈
 have up:∀ c o,c≠z->h₅.get? c=some o->h₈.get? c=some o:=λc o c1 e=>hs₈.extBut _ _ c1 (hs₇.extBut _ _ c1 (ai _ e))
 have ex:Heap.ExtBut z h₅ h₈:=λc o c1 e=>up c o c1 e
 have hT₈:bM h₈ h₅.objs.size x y:=hs₈.extBut _ _ (Nat.ne_of_gt hzlt) (hs₇.extBut _ _ (Nat.ne_of_gt hzlt) (ax _ rfl))
 rw [hsz] at hz₈ hT₈
 refine ag ⟨_,rfl,?_⟩
 show Q (.ref h₅.objs.size) _
 rw [hsz]
 exact hQ h₈ hz₈ (up _ _ D.TOz hTO₅) (h1₅.ext ex D.i1z D.l1z) (h2₅.ext ex D.i2z D.l2z) hT₈ λc o c1 c2 c3 c4 e=>up c o c1 (hk₅ c o c1 c2 c3 c4 e)
theorem A6e {z TI TO i1 i2 l1 l2:Addr} {xs ys:Array Value} {k1 k2:Nat} {a b:Value} {Q:Fin->ak->Prop} (hh:A.handled=none) (D:ZipApart z TI TO i1 i2 l1 l2)
  (hz:IsZip s.heap z TI TO .none) (hTI:bM s.heap TI (.ref i1) (.ref i2)) (hTO:bM s.heap TO a b) (h1:B9 s.heap i1 l1 xs k1) (h2:B9 s.heap i2 l2 ys k2) (hend:xs[k1]?=none∨ys[k2]?=none)
  (hE:∀ h' e,(∀ c o,c≠z->c≠TO->c≠i1->c≠i2->s.heap.get? c=some o->h'.get? c=some o)->(∃ a b,bM h' TO a b)->(∃ o,h'.get? e=some o/\o.cls=.type "StopIteration")->E (.ref e) { s with heap:=h' }):
  wpAny (model prog w) A (Builtin.«zip.__next__» ⟨[.ref z],[]⟩) Q E s:=by
 show wpAny _ _ (field (.ref z) 2 >>= _) _ _ _
 refine ab (bk hz rfl (x:=.bool false) rfl ?_)
 show wpAny _ _ (field (.ref z) 3 >>= _) _ _ _
 refine ab (bk hz rfl (x:=.ref TI) rfl (ab (bI hTI rfl ?_)))
 show wpAny _ _ (aW (.ref z) >>= _) _ _ _
 refine ab ?_
 unfold aW
 refine ab (bk hz rfl (x:=.none) rfl (ag ?_))
 simp only [if_true]
 refine ab (wpAny_rule (ab (bk hz rfl (x:=.ref TO) rfl (ab (wpAny_setField_rec hz (by simp) λh₁ hz₁ hs₁=>?_)))))
 replace hz₁:IsZip h₁ z TI TO .ellipsis:=hz₁
 refine ab ?_
 simp only [List.zipIdx_cons,List.zipIdx_nil,List.forIn_cons,List.forIn_nil]
 refine ab (ab (wpAny_onRaise ?_))
 show wpAny _ _ (aT (.ref i1) >>= _) _ _ _
 cases hx:xs[k1]? with
 | none=>
  refine ab (Q7 hh (h1.ext hs₁.extBut D.i1z D.l1z) hx λh₂ e hs₂ he=>?_)
  refine C5 he λoe hoe hce=>?_; clear he
  have hz₂:IsZip h₂ z TI TO .ellipsis:=hs₂ _ _ D.i1z.symm hz₁
  have hT₂:bM h₂ TO a b:=hs₂ _ _ D.TOi1 (hs₁.extBut _ _ D.TOz hTO)
  have hez:e≠z:=λx=>by subst x; rw [hz₂] at hoe; cases hoe; simp at hce
  refine wpAny_setField_rec hz₂ (by simp) λh₃ _ hs₃=>hE h₃ e (λc o c1 _ c3 _ x=>hs₃.extBut _ _ c1 (hs₂ _ _ c3 (hs₁.extBut _ _ c1 x))) ⟨a,b,hs₃.extBut _ _ D.TOz hT₂⟩ ⟨oe,hs₃.extBut _ _ hez hoe,hce⟩
 | some x=>
  have hy:ys[k2]?=none:=by rcases hend with h | h; rw [hx] at h; cases h; exact h
  refine ab (J7 (h1.ext hs₁.extBut D.i1z D.l1z) hx D.l1i1 λh₂ h1₂ hs₂=>ag ?_)
  have hTO₂:bM h₂ TO a b:=hs₂.extBut _ _ D.TOi1 (hs₁.extBut _ _ D.TOz hTO)
  refine ab (bI hTO₂ rfl (ab (wpAny_updateSeq_pair hTO₂ λh₃ hTO₃ hs₃=>?_)))
  replace hTO₃:bM h₃ TO x b:=hTO₃
  refine ab (wpAny_letGo (ag (ab (ab (wpAny_onRaise ?_)))))
  show wpAny _ _ (aT (.ref i2) >>= _) _ _ _
  refine ab (Q7 hh (((h2.ext hs₁.extBut D.i2z D.l2z).ext hs₂.extBut D.i12.symm D.l2i1).ext hs₃.extBut D.TOi2.symm D.l2TO) hy λh₄ e hs₄ he=>?_)
  refine C5 he λoe hoe hce=>?_; clear he
  have hz₄:IsZip h₄ z TI TO .ellipsis:=hs₄ _ _ D.i2z.symm (hs₃.extBut _ _ D.TOz.symm (hs₂.extBut _ _ D.i1z.symm hz₁))
  have hT₄:bM h₄ TO x b:=hs₄ _ _ D.TOi2 hTO₃
  have hez:e≠z:=λx=>by subst x; rw [hz₄] at hoe; cases hoe; simp at hce
  refine wpAny_setField_rec hz₄ (by simp) λh₅ _ hs₅=>hE h₅ e (λc o c1 c2 c3 c4 x=>hs₅.extBut _ _ c1 (hs₄ _ _ c4 (hs₃.extBut _ _ c2 (hs₂.extBut _ _ c3 (hs₁.extBut _ _ c1 x))))) ⟨x,b,hs₅.extBut _ _ D.TOz hT₄⟩ ⟨oe,hs₅.extBut _ _ hez hoe,hce⟩
theorem Q9 {z TI TO i1 i2 l1 l2:Addr} {xs ys:Array Value} {k1 k2:Nat} {x y a b:Value} {Q:Option Value->ak->Prop} (D:ZipApart z TI TO i1 i2 l1 l2)
  (hz:IsZip s.heap z TI TO .none) (hTI:bM s.heap TI (.ref i1) (.ref i2)) (hTO:bM s.heap TO a b) (h1:B9 s.heap i1 l1 xs k1) (h2:B9 s.heap i2 l2 ys k2) (hx:xs[k1]?=some x) (hy:ys[k2]?=some y)
  (hQ:∀ h',IsZip h' z TI TO (rawInt s.heap.objs.size)->bM h' TO x y->B9 h' i1 l1 xs (k1 + 1)->B9 h' i2 l2 ys (k2 + 1)->bM h' s.heap.objs.size x y->
   (∀ c o,c≠z->c≠TO->c≠i1->c≠i2->s.heap.get? c=some o->h'.get? c=some o)->Q (some (.ref s.heap.objs.size)) { s with heap:=h' }):
  wpAny (model prog w) A (pyNext (.ref z)) Q E s:=by
 have hT:s.TypeIs (.ref z) "zip":=⟨_,hz,rfl⟩
 unfold pyNext
 exact ab (wpAny_attempt (bK (name:=aa "__next__") hT F.slot_zip_next
  (bx F.slot_zip_next hT F.entry_zip_next
   (A4t D hz hTI hTO h1 h2 hx hy λh' a1 a2 a3 a4 a5 a6=>ag (hQ h' a1 a2 a3 a4 a5 a6)) (F.args_zip_next_1 _))))
theorem I6 {z TI TO i1 i2 l1 l2:Addr} {xs ys:Array Value} {k1 k2:Nat} {a b:Value} {Q:Option Value->ak->Prop} (hh:A.handled=none) (D:ZipApart z TI TO i1 i2 l1 l2)
  (hz:IsZip s.heap z TI TO .none) (hTI:bM s.heap TI (.ref i1) (.ref i2)) (hTO:bM s.heap TO a b) (h1:B9 s.heap i1 l1 xs k1) (h2:B9 s.heap i2 l2 ys k2) (hend:xs[k1]?=none∨ys[k2]?=none)
  (hQ:∀ h',(∀ c o,c≠z->c≠TO->c≠i1->c≠i2->s.heap.get? c=some o->h'.get? c=some o)->(∃ a b,bM h' TO a b)->Q none { s with heap:=h' }):wpAny (model prog w) A (pyNext (.ref z)) Q E s:=by
 have hT:s.TypeIs (.ref z) "zip":=⟨_,hz,rfl⟩
 unfold pyNext
 refine ab (wpAny_attempt (bK (name:=aa "__next__") hT F.slot_zip_next
  (bx F.slot_zip_next hT F.entry_zip_next (A6e hh D hz hTI hTO h1 h2 hend λh' e hk hp he=>?_) (F.args_zip_next_1 _))))
 refine C5 he λo ho hc=>?_; clear he
 refine ab (wpAny_isInstance (T:="StopIteration") (b:=true) ⟨o,ho,hc⟩ isSubtype_stop ?_)
 exact ag (hQ _ hk hp)
end
noncomputable def G3 (h:Heap) (l:Addr) (items:Array Value) (T:String):Prop:=(T="list_iterator"/\h.IsList l items)∨(T="tuple_iterator"/\IsTup h l items)
theorem G3.push {h:Heap} {l:Addr} {items:Array Value} {T:String} (x:G3 h l items T) (o:Obj):G3 (h.push o) l items T:=x.imp (λ⟨a,b⟩=>⟨a,b.push o⟩) λ⟨a,b⟩=>⟨a,b.push o⟩
noncomputable abbrev N4 (T:String) (l:Addr):Obj:={ cls:=.type T,data:=.fields #[.ref l,.int 0 0] }
section
variable {prog:Program} {w:World} {A:aI} {E:Value->ak->Prop} {s:ak}
theorem A0u {l:Addr} {items:Array Value} {T:String} {Q:Value->ak->Prop} (x:G3 s.heap l items T) (q:Q (.ref s.heap.objs.size) { s with heap:=s.heap.push (N4 T l) }):wpAny (model prog w) A (pyIter (.ref l)) Q E s:=by
 rcases x with ⟨rfl,x⟩ | ⟨rfl,x⟩
 ·exact wpAny_pyIter_list x q
 ·exact iter_tuple x q
noncomputable abbrev zH1 (h:Heap) (T1:String) (l1:Addr):Heap:=h.push (N4 T1 l1)
noncomputable abbrev zH2 (h:Heap) (T1 T2:String) (l1 l2:Addr):Heap:=(zH1 h T1 l1).push (N4 T2 l2)
noncomputable abbrev zH3 (h:Heap) (T1 T2:String) (l1 l2:Addr):Heap:=(zH2 h T1 T2 l1 l2).push { cls:=.type "tuple",data:=.seq #[.ref h.objs.size,.ref (zH1 h T1 l1).objs.size] }
noncomputable abbrev zH4 (h:Heap) (T1 T2:String) (l1 l2:Addr):Heap:=(zH3 h T1 T2 l1 l2).push { cls:=.type "tuple",data:=.seq #[.none,.none] }
noncomputable abbrev zH5 (h:Heap) (T1 T2:String) (l1 l2:Addr):Heap:=(zH4 h T1 T2 l1 l2).push { cls:=.type "zip",data:=.fields #[.none,.bool false,.bool false,.ref (zH2 h T1 T2 l1 l2).objs.size,.ref (zH3 h T1 T2 l1 l2).objs.size] }
theorem B2n (T1 T2:String) (l1 l2:Addr) (xs ys:Array Value):
  Meets (Builtin.«zip.__new__» ⟨[.type "zip",.ref l1,.ref l2],[]⟩) (λ_ R s=>G3 s.heap l1 xs T1/\G3 s.heap l2 ys T2/\
   R (.ok (.ret (.ref (zH4 s.heap T1 T2 l1 l2).objs.size))) { s with heap:=zH5 s.heap T1 T2 l1 l2 }):=
 .of_wp λprog w A R s h=>by
  obtain ⟨hp,g,d,tk,os⟩:=s; refine O8 h λhl1 hl2 h'=>?_; clear h; revert h'; intro h
  have hsub:=sub_zip
  have hL1:G3 (Shared.heap ⟨hp,g,d,tk,os⟩) l1 xs T1:=hl1
  have hL2:G3 (Shared.heap ⟨hp.push (N4 T1 l1),g,d,tk,os⟩) l2 ys T2:=hl2.push _
  wp_walk using A0u hL1,A0u hL2
  exact ⟨_,rfl,h⟩
theorem B4u {T1 T2:String} {l1 l2:Addr} {xs ys:Array Value} {Q:Value->ak->Prop} (hl1:G3 s.heap l1 xs T1) (hl2:G3 s.heap l2 ys T2)
  (h:∀ h' z TI TO i1 i2,[z,TI,TO,i1,i2].Pairwise (·≠·)->(∀ c ∈ [z,TI,TO,i1,i2],s.heap.get? c=none)->IsZip h' z TI TO .none->bM h' TI (.ref i1) (.ref i2)->bM h' TO .none .none->
   h'.get? i1=some (N4 T1 l1)->h'.get? i2=some (N4 T2 l2)->(∀ c o,s.heap.get? c=some o->h'.get? c=some o)->Q (.ref z) { s with heap:=h' }):
  wpAny (model prog w) A (call (.type "zip") [.ref l1,.ref l2]) Q E s:=by
 refine callType_new F.called_zip (by decide) (F.typeCall_zip_2 _ _) (F.newCall_zip_2 _ _) (λobj=>F.args_object_init_3 obj _ _) F.entry_zip_new
  (B2n T1 T2 l1 l2 xs ys) ⟨hl1,hl2,?_⟩
 have z1:(zH1 s.heap T1 l1).objs.size=s.heap.objs.size + 1:=Heap.size_push ..
 have z2:(zH2 s.heap T1 T2 l1 l2).objs.size=s.heap.objs.size + 2:=by rw [Heap.size_push,z1]
 have z3:(zH3 s.heap T1 T2 l1 l2).objs.size=s.heap.objs.size + 3:=by rw [Heap.size_push,z2]
 have z4:(zH4 s.heap T1 T2 l1 l2).objs.size=s.heap.objs.size + 4:=by rw [Heap.size_push,z3]
 have g5:(zH5 s.heap T1 T2 l1 l2).get? (zH4 s.heap T1 T2 l1 l2).objs.size=some _:=ax _ rfl
 have g4:(zH5 s.heap T1 T2 l1 l2).get? (zH3 s.heap T1 T2 l1 l2).objs.size=some _:=ai _ (ax _ rfl)
 have g3:(zH5 s.heap T1 T2 l1 l2).get? (zH2 s.heap T1 T2 l1 l2).objs.size=some _:=ai _ (ai _ (ax _ rfl))
 have g2:(zH5 s.heap T1 T2 l1 l2).get? (zH1 s.heap T1 l1).objs.size=some _:=ai _ (ai _ (ai _ (ax _ rfl)))
 have g1:(zH5 s.heap T1 T2 l1 l2).get? s.heap.objs.size=some _:=ai _ (ai _ (ai _ (ai _ (ax _ rfl))))
 show _/\_
 rw [z2,z3,z4] at g5
 rw [z1,z2] at g3
 rw [z3] at g4
 rw [z1] at g2
 rw [z4]
 refine ⟨⟨_,g5,rfl⟩,h _ _ _ _ _ _ ?_ ?_ g5 g3 g4 g1 g2 λc o x=>ai _ (ai _ (ai _ (ai _ (ai _ x))))⟩
 ·simp only [bC,aE,bG,or_false,forall_eq_or_imp,forall_eq,List.Pairwise.nil,and_true,false_imp_iff,implies_true]
  refine ⟨⟨?_,?_,?_,?_⟩,⟨?_,?_,?_⟩,⟨?_,?_⟩,?_⟩<;>first | exact Nat.ne_of_gt (by omega) | exact aV (by omega)
 ·intro c hc
  refine Heap.get?_none_of_le ?_
  simp only [aE,bG,or_false] at hc
  rcases hc with rfl | rfl | rfl | rfl | rfl<;>omega
end
structure o9 (w:W) (own:List Addr) (to:Option Nat) (s':ak):Prop where
 keep:∀ c o,w.h.get? c=some o->c ∉ own->(∀ h,to=some h->c≠w.φ h)->s'.heap.get? c=some o
 same:c9 w.s s'
 one:∀ h,to=some h->1<=h
 pair:∀ h,to=some h->h < w.n/\w.es.t.get h=some .pair/\∃ a b,s'.heap.get? (w.φ h)=some { cls:=.type "tuple",data:=.seq #[a,b] }
structure G6 (κ:Kx) (w:W) (own:List Addr):Prop where
 each:∀ a ∈ own,N0 κ w a
 live:∀ a ∈ own,∃ o,w.h.get? a=some o/\¬ Y6 o
section
variable {κ:Kx} {X:List Addr} {w:W} {own:List Addr} {to:Option Nat} {s':ak}
theorem G6.notT (O:G6 κ w own) {c:Addr} {o:Obj} (hc:w.h.get? c=some o) (hT:Y6 o):c ∉ own:=λhm=>by
 refine C5 (O.live c hm) λo' h1 h2=>?_
 rw [hc] at h1; cases h1; exact h2 hT
theorem G6.mng (O:G6 κ w own) {i:Nat} (hi:i < w.n):w.φ i ∉ own:=λhm=>(O.each _ hm).unm i hi rfl
theorem G6.same (O:G6 κ w own) {s'':ak} (h:∀ a ∈ own,∃ o,s''.heap.get? a=some o/\¬ Y6 o):G6 κ ⟨w.φ,w.es,s''⟩ own:=⟨λa ha=>⟨(O.each a ha).unm,(O.each a ha).fresh⟩,h⟩
theorem o9.up (C:o9 w own to s') (O:G6 κ w own):Up w.φ w.n w.h w.φ w.n s'.heap:=
 ⟨λa o ho hT hu=>C.keep a o ho (O.notT ho hT) λh e q=>hu h (C.pair h e).1 q.symm,λ_ _=>rfl,λi h1 h2=>absurd h2 (bq.mpr h1),aG _⟩
theorem o9.inv (C:o9 w own to s') (O:G6 κ w own) (I:A7 κ w):A7 κ ⟨w.φ,w.es,s'⟩:=by
 have mk:∀ i,i < w.n->(∀ h,to=some h->i≠h)->∀ o,w.h.get? (w.φ i)=some o->s'.heap.get? (w.φ i)=some o:=λi hi hne o ho=>
  C.keep _ _ ho (O.mng hi) λh e q=>hne h e (I.inj i h hi (C.pair h e).1 q)
 refine ⟨λi o e=>⟨(I.obj i o e).1,?_⟩,I.inj,λi hi=>?_,λb ob e=>?_,I.lim,I.fl,I.f1,I.nb,I.sb,I.z0,I.own,I.sec⟩
 ·obtain ⟨hi,ro⟩:=I.obj i o e
  by_cases ht:∃ h,to=some h/\i=h
  ·refine C5 ht λh e1 q31'=>?_; clear ht; subst q31'
   refine O8 (C.pair i e1) λ_ g1 g2=>?_
   have e':w.es.t.get i=some o:=e
   rw [g1] at e'; cases e'
   exact g2
  ·have hne:∀ h,to=some h->i≠h:=λh e1 e2=>ht ⟨h,e1,e2⟩
   refine ro.up (C.up O) hi (λ_=>rfl) (mk i hi hne) λob q hin=>?_
   refine kEE hin λk l q32'=>?_; clear hin; subst q32'
   refine E2 ro λ_ _ hlt _=>?_; clear ro
   refine mk (i + 1) hlt (λh e1 e2=>?_) ob q
   have:=(C.pair h e1).2.1
   rw [<- e2,I.sec i k l e] at this
   cases this
 ·obtain ⟨o,ho⟩:=I.lt i hi
  by_cases ht:∃ h,to=some h/\i=h
  ·refine C5 ht λh e1 q33'=>?_; clear ht; subst q33'
   refine C6y (C.pair i e1) λ_ _ a b g2=>?_
   exact ⟨_,g2⟩
  ·exact ⟨o,mk i hi (λh e1 e2=>ht ⟨h,e1,e2⟩) o ho⟩
 ·refine C.keep b ob (I.base b ob e) (λhm=>?_) λh e1 q=>?_
  ·have:=(O.each b hm).fresh
   rw [e] at this; cases this
  ·have h1:=(C.pair h e1).1
   have:=I.own h (C.one h e1) h1
   rw [<- q,e] at this; cases this
theorem o9.env (C:o9 w own to s') (O:G6 κ w own) {e:Mine.Env} {env:PySem.Env} (r:C8 κ w e env) (hf:∀ a ∈ X4 env,a ∉ own):C8 κ ⟨w.φ,w.es,s'⟩ e env:=by
 refine C5 r.ns λm hm hv=>?_
 have u:=C.up O
 have kc:∀ x c o,env.cells.lookup x=some c->w.h.get? c=some o->s'.heap.get? c=some o:=λx c o h1 ho=>C.keep c o ho (hf c (A8q h1)) λh e1 q=>(r.cellU x c h1).2 h (C.pair h e1).1 q.symm
 refine ⟨r.kind,r.glob,r.blt,⟨m,?_,λi v x h1 h2=>?_⟩,r.nsU,λi v x h1 h2 h0=>?_,λx c h1=>?_,λi v x a b=>?_,r.apart,r.fresh,r.cellD,r.cellA,r.code⟩
 ·refine U1 hm λo es ep ho q=>?_; clear hm
  exact ⟨o,es,ep,C.keep _ _ ho (hf _ aP) λh e1 q=>r.nsU h (C.pair h e1).1 q.symm,q⟩
 ·refine C5 (hv i v x h1 h2) λz h3 h4=>?_
  exact ⟨z,h3,h4.up u⟩
 ·refine P1 (r.cell i v x h1 h2 h0) λc z h3 q34' h5=>?_; refine C5 q34' λo ho hd=>?_; clear q34'
  exact ⟨c,z,h3,⟨o,kc x c o h3 ho,hd⟩,h5.up u⟩
 ·obtain ⟨⟨v,o,ho,hd⟩,h3⟩:=r.cellU x c h1
  exact ⟨⟨v,o,kc x c o h1 ho,hd⟩,h3⟩
 ·refine C5 (r.gl i v x a b) λval c d=>?_
  exact ⟨val,c,d.up u⟩
theorem o9.last {w0:W} (C:o9 w own to s') (O:G6 κ w own) (l:Le X w0 w) (hd:∀ a ∈ own,w0.h.get? a=none) (ht:∀ h,to=some h->w0.n<=h):Le X w0 ⟨w.φ,w.es,s'⟩:=by
 have far:∀ a o,w0.h.get? a=some o->a ∉ own/\∀ h,to=some h->a≠w.φ h:=λa o ho=>by
  refine ⟨λhm=>?_,λh e q=>?_⟩
  ·have:=hd a hm
   rw [ho] at this; cases this
  ·have:=l.new h (ht h e) (C.pair h e).1
   rw [<- q,ho] at this; cases this
 refine ⟨λa o ho hx hn=>?_,λa ⟨o,ho⟩=>?_,l.same,l.new,l.le,l.flo,l.old,l.dr,C.same.gens.trans l.gens,C.same.os.trans l.os,C.same.drawn.trans l.drawn⟩
 ·exact C.keep a o (l.keep a o ho hx hn) (far a o ho).1 (far a o ho).2
 ·obtain ⟨o',ho'⟩:=l.live a ⟨o,ho⟩
  exact ⟨o',C.keep a o' ho' (far a o ho).1 (far a o ho).2⟩
noncomputable def M7:It->Bool
 | .rng _ _ _=>false
 | .zip _ _ _=>false
 | _=>true
noncomputable def P3 (w:W) (src:Addr):Prop:=(∃ i l,i < w.n/\w.φ i=src/\w.es.t.get i=some (.list l))∨((∀ i,i < w.n->w.φ i≠src)/\∃ o,w.h.get? src=some o/\Y6 o)
theorem P3.far {w:W} {src:Addr} (x:P3 w src) (O:G6 κ w own):src ∉ own:=by
 rcases x with ⟨i,l,h1,rfl,_⟩ | ⟨_,o,h1,h2⟩
 ·exact O.mng h1
 ·exact O.notT h1 h2
theorem P3.notPair {w:W} {src:Addr} (x:P3 w src) (I:A7 κ w) {h:Nat} (hn:h < w.n) (hp:w.es.t.get h=some .pair):src≠w.φ h:=λq=>by
 rcases x with ⟨i,l,h1,h2,h3⟩ | ⟨h1,_⟩
 ·have:=I.inj i h h1 hn (h2.trans q)
  subst this
  rw [hp] at h3; cases h3
 ·exact h1 h hn q.symm
theorem A7q {h k:Nat} {s:St} {o:Option (V×It)} {s1:St} {G:Prop} (e:G8 (.lst h k) s=.ok o s1) (a:∀ l,s.t.get h=some (.list l)->l[k]?=none->o=none->s1=s->G) (b:∀ l v,s.t.get h=some (.list l)->l[k]?=some v->o=some (v,.lst h (k + 1))->s1=s->G):G:=gOn e λob h5 h4=>by
 induction ob using O.casesOn with
 | list l=>
  dsimp only at h4
  generalize hl:l[k]?=q at h4
  induction q using ae with
  | none=>exact a l h5 hl (A3 h4).1 (A3 h4).2
  | some v=>exact b l v h5 hl (A3 h4).1 (A3 h4).2
 | _=>exact (A0 (s:=s) h4).elim
theorem E0q {G:Prop} (h:Value.type "list"=.type "tuple"):G:=absurd (Value.type.inj h) (by decide)
theorem C8i {h:Heap} {a:Addr} {xs ys:Array Value} {G:Prop} (p:IsTup h a xs) (q:h.IsList a ys):G:=E2 p λo ho hc _=>P5 q λo' ho' hc' _ _=>by
 cases ho.symm.trans ho'
 exact E0q (hc'.symm.trans hc)
noncomputable def F4t (κ:Kx) (w:W) (a src:Addr) (items:Array Value) (k:Nat) (r:Option (V×It)):Prop:=match r with
 | none=>items[k]?=none
 | some (v,it')=>∃ x,items[k]?=some x/\w.vr κ v x/\M7 it'=true/\∀ s',Up w.φ w.n w.h w.φ w.n s'.heap->A7 κ ⟨w.φ,w.es,s'⟩->B9 s'.heap a src items (k + 1)->I8 κ ⟨w.φ,w.es,s'⟩ a it'
noncomputable def D0m (κ:Kx) (w:W) (a:Addr) (r:Option (V×It)) (es':St):Prop:=es'=w.es/\∃ src items k,B9 w.h a src items k/\P3 w src/\F4t κ w a src items k r
theorem C2d {w:W} (I:A7 κ w) {a:Addr} {hd k:Nat} {r:Option (V×It)} {es':St} (R:I8 κ w a (.lst hd k)) (h:G8 (.lst hd k) w.es=.ok r es'):D0m κ w a r es':=
 A7q h (λl g hl q e=>E2 (I.obj _ _ g).2 λitems pl hlen hv=>⟨e,w.φ hd,items,k,.list R.2 pl.isList,.inl ⟨hd,l,R.1,rfl,g⟩,q ▸ Array.getElem?_eq_none (by rw [<- am,<- hv.length]; exact List.getElem?_eq_none_iff.mp hl)⟩)
  λl v g hl q e=>E2 (I.obj _ _ g).2 λitems pl hlen hv=>C5 (hv.get hl) λx hx rx=>⟨e,w.φ hd,items,k,.list R.2 pl.isList,.inl ⟨hd,l,R.1,rfl,g⟩,q ▸ ⟨x,(Array.getElem?_toList ..).symm.trans hx,rx,rfl,λs' u I' p=>⟨R.1,by
   induction p using B9.casesOn with
   | list q1 _=>exact q1
   | tup q1 q2=>exact E2 (I'.obj hd _ g).2 λitems' pl' _ _=>C8i q2 pl'.isList⟩⟩⟩
theorem VRels.hdtl {φ:Nat->Addr} {n:Nat} {h:Heap} {v:V} {l:List V} {x:Value} {xs:List Value} (r:VRels κ φ n h (v::l) (x::xs)):A4 κ φ n h v x/\VRels κ φ n h l xs:=by
 cases r with
 | cons a b=>exact ⟨a,b⟩
theorem C1u {w:W} (I:A7 κ w) {a:Addr} {l:List V} {r:Option (V×It)} {es':St} (R:I8 κ w a (.tup l)) (h:G8 (.tup l) w.es=.ok r es'):D0m κ w a r es':=by
 refine K0 R λt items i hit ht hu hi hv=>P5 (w3 ht) λot g1 g2 e0 g3=>?_
 clear R
 induction l using av with
 | nil=>
  have e:=A3 (s:=w.es) (x:=none) h
  refine ⟨e.2,t,items,i,.tup hit ht,.inr ⟨hu,ot,g1,g2⟩,e.1 ▸ Array.getElem?_eq_none ?_⟩
  have:(items.toList.drop i).length=0:=hv.length.symm
  rw [bH,am] at this
  exact Nat.le_of_sub_eq_zero this
 | cons v l=>
  have e:=A3 (s:=w.es) (x:=some (v,It.tup l)) h
  have hlt:i < items.size:=by
   have:(items.toList.drop i).length=l.length + 1:=hv.length.symm
   rw [bH,am] at this
   exact Nat.lt_of_sub_eq_succ this
  rw [List.drop_eq_getElem_cons (by rwa [am])] at hv
  refine (VRels.hdtl hv).elim λra rb=>⟨e.2,t,items,i,.tup hit ht,.inr ⟨hu,ot,g1,g2⟩,e.1 ▸ ⟨items[i],Array.getElem?_eq_getElem hlt,ra,rfl,λs' u I' p=>?_⟩⟩
  have g4:=u.tup t ot g1 g2 hu
  induction p using B9.casesOn with
  | list q1 q2=>exact C8i ⟨ot,g4,g2.1,e0,g3⟩ q2
  | tup q1 q2=>exact ⟨t,items,i + 1,q1,q2,hu,hlt,rb.up u⟩
theorem I8.seq {w:W} (I:A7 κ w) {a:Addr} {it:It} {r:Option (V×It)} {es':St} (R:I8 κ w a it) (hn:M7 it=true) (h:G8 it w.es=.ok r es'):D0m κ w a r es':=by
 induction it using It.casesOn with
 | rng x st k=>exact ff hn
 | zip _ _ _=>exact ff hn
 | lst hd k=>exact C2d I R h
 | tup l=>exact C1u I R h
inductive ZR (κ:Kx) (w:W) (i j:It) (hd:Nat) (a:Addr):List Addr->Option Nat->Prop
 | mk (TI i1 i2:Addr) (h1:1<=hd) (hlt:hd < w.n) (hz:IsZip w.h a TI (w.φ hd) .none) (hTI:bM w.h TI (.ref i1) (.ref i2)) (hTu:∀ k,k < w.n->w.φ k≠TI) (d1:a≠i1) (d2:a≠i2) (d3:i1≠i2) (R1:I8 κ w i1 i) (R2:I8 κ w i2 j) (n1:M7 i=true) (n2:M7 j=true):ZR κ w i j hd a [a,i1,i2] (some hd)
noncomputable def ItR (κ:Kx) (w:W):It->Addr->List Addr->Option Nat->Prop
 | .zip i j h,a,own,to=>ZR κ w i j h a own to
 | it,a,own,to=>to=none/\own=[a]/\I8 κ w a it
noncomputable def j7 (it:It) (t:Expr):Prop:=match it with
 | .zip _ _ _=>∃ es k p,t=.Tuple es k p
 | _=>True
noncomputable def B9l (κ:Kx) (w:W) (A:aI) (it:It) (a:Addr) (own:List Addr) (to:Option Nat) (r:Option (V×It)) (T:(Option Value->ak->Prop)->Prop):Prop:=match r with
 | some (v,it')=>∀ Q:Option Value->ak->Prop,(∀ x s',o9 w own to s'->(∀ t (E:Value->ak->Prop) (Q':Unit->ak->Prop),j7 it t->(∀ s'',o9 w own to s''->G6 κ ⟨w.φ,w.es,s''⟩ own->ItR κ ⟨w.φ,w.es,s''⟩ it' a own to->A4 κ w.φ w.n s''.heap v x->Q' () s'')->wpAny κ.m A (letOwnedTupleGo t (.ref a) x) Q' E s')->Q (some x) s')->T Q
 | none=>∀ Q:Option Value->ak->Prop,(∀ s',o9 w own to s'->Q none s')->T Q
theorem A9n {M:Model} {A:aI} {E:Value->ak->Prop} {s:ak} {α:Type} {Q:α->ak->Prop} {c:Prop} [Decidable c] {a b:Sem α} (h:¬ c) (q:wpAny M A b Q E s):wpAny M A (if c then a else b) Q E s:=by rwa [if_neg h]
theorem M8 {M:Model} {A:aI} {E:Value->ak->Prop} {s:ak} {t:Expr} {a:Addr} {x:Value} {o:Obj} {T:String} {Q:Unit->ak->Prop} (ho:s.heap.get? a=some o) (hc:o.cls=.type T)
  (hT:["enumerate","zip","dict_itemiterator","dict_reverseitemiterator","odict_iterator","itertools.zip_longest","itertools.pairwise"].contains T=false) (q:Q () s):wpAny M A (letOwnedTupleGo t (.ref a) x) Q E s:=by
 have k:wpAny M A (letOwnedTupleGo (.List [] default) (.ref a) x) Q E s:=by
  induction x using Value.casesOn<;>first
  | exact ag q
  | refine ab (wpAny_load ho ?_); obtain ⟨c,c2,d,sl⟩:=o; dsimp only at hc; subst hc; induction d using Data.casesOn<;>first | exact ag q | exact A9n (λh=>nomatch hT.symm.trans (bX.mp h).1) (ag q)
 induction t using Expr.casesOn<;>first
 | exact ag q
 | exact k
theorem I8.letGo {w:W} {A:aI} {E:Value->ak->Prop} {t:Expr} {a:Addr} {it:It} {x:Value} {Q:Unit->ak->Prop} (R:I8 κ w a it) (q:Q () w.s):wpAny κ.m A (letOwnedTupleGo t (.ref a) x) Q E w.s:=by
 induction it using It.casesOn with
 | rng y st k=>exact M8 (T:="range_iterator") R rfl (by decide) q
 | lst h k=>exact M5 R λ_ o ho hc _=>M8 ho hc (by decide) q
 | tup l=>exact U1 R λ_ _ _ p _=>E2 p λo ho hc _=>M8 ho hc (by decide) q
 | zip _ _ _=>exact R.elim
theorem o9.one_but {w:W} {a:Addr} {s':ak} (hs:∀ c o,c≠a->w.h.get? c=some o->s'.heap.get? c=some o) (hb:c9 w.s s'):o9 w [a] none s':=
 ⟨λc o ho hn _=>hs c o (λq=>hn (by rw [q]; exact aB.mpr rfl)) ho,hb,(λ_ e=>nomatch e),(λ_ e=>nomatch e)⟩
theorem B5u {w:W} (I:A7 κ w) {A:aI} (hh:A.handled=none) {a:Addr} {it:It} {r:Option (V×It)} {es':St} (R:I8 κ w a it) (O:G6 κ w [a]) (h:G8 it w.es=.ok r es'):
  es'=w.es/\∀ E:Value->ak->Prop,B9l κ w A it a [a] none r λQ=>wpAny κ.m A (pyNext (.ref a)) Q E w.s:=by
 obtain ⟨e,g⟩:=C0a I hh R (O.each a (aB.mpr rfl)) h
 refine ⟨e,λE=>?_⟩
 have g:=g E
 induction r using ae with
 | none=>
  intro Q q
  exact g Q λh' he=>q _ (o9.one_but (s':={ w.s with heap:=h' }) (λc o hc ho=>he c o hc ho) ⟨rfl,rfl,rfl⟩)
 | some p=>
  obtain ⟨v,it'⟩:=p
  intro Q q
  refine g Q λx s' hb hs R' rv=>q x s' (o9.one_but (λc o hc ho=>(hs.2 c hc).trans ho) hb) λt E' Q' _ k=>?_
  refine R'.letGo (w:=⟨w.φ,w.es,s'⟩) (k s' (o9.one_but (λc o hc ho=>(hs.2 c hc).trans ho) hb) (O.same λc hc=>?_) ?_ rv)
  ·rw [aB.mp hc]; exact R'.there
  ·induction it' using It.casesOn with
   | zip _ _ _=>exact R'.elim
   | rng _ _ _=>exact ⟨rfl,rfl,R'⟩
   | lst _ _=>exact ⟨rfl,rfl,R'⟩
   | tup _=>exact ⟨rfl,rfl,R'⟩
end
section
variable {κ:Kx} {w:W}
theorem U3 {h:Nat} {s s':St} {u:Unit} (e:B4t h s=.ok u s'):s.t.get h=some .pair/\s'=s:=by
 refine gOn e λo h3 h2=>?_
 induction o using O.casesOn with
 | pair=>exact ⟨h3,(A3 h2).2⟩
 | _=>exact (A0 h2).elim
theorem B8s {i j:It} {h:Nat} {s s':St} {r:Option (V×It)} {G:Prop} (e:next (.zip i j h) s=.ok r s') (h1:∀ r s',G8 i s=.ok r s'->s'=s) (h2:∀ r s',G8 j s=.ok r s'->s'=s)
  (a:∀ y,s.t.get h=some .pair->G8 i s=.ok none s->G8 j s=.ok y s->r=none->s'=s->G) (b:∀ p,s.t.get h=some .pair->G8 i s=.ok (some p) s->G8 j s=.ok none s->r=none->s'=s->G)
  (c:∀ p q,s.t.get h=some .pair->G8 i s=.ok (some p) s->G8 j s=.ok (some q) s->r=some (.tup [p.1,q.1],.zip p.2 q.2 h)->s'=s->G):G:=by
 refine B8 e λ_ s1 g1 g2=>?_
 cases (U3 g1).2
 refine B8 g2 λx s2 g4 g5=>?_
 cases h1 _ _ g4
 induction x using ae with
 | none=>
  refine B8 (m:=G8 j) (f:=λ_=>D7 none) g5 λy s3 g6 g7=>?_
  cases h2 _ _ g6
  exact a y (U3 g1).1 g4 g6 (A3 g7).1 (A3 g7).2
 | some p=>
  obtain ⟨v,i'⟩:=p
  refine B8 (m:=G8 j) (f:=λy=>match y with | none=>D7 none | some (w,j')=>D7 (some (V.tup [v,w],It.zip i' j' h))) g5 λy s3 g6 g7=>?_
  cases h2 _ _ g6
  induction y using ae with
  | none=>exact b (v,i') (U3 g1).1 g4 g6 (A3 g7).1 (A3 g7).2
  | some q=>obtain ⟨u,j'⟩:=q; exact c (v,i') (u,j') (U3 g1).1 g4 g6 (A3 g7).1 (A3 g7).2
theorem pw5 {z T O i j:Addr} {G:Prop} (h:[z,T,O,i,j].Pairwise (·≠·)) (k:z≠T->z≠O->z≠i->z≠j->T≠O->T≠i->T≠j->O≠i->O≠j->i≠j->G):G:=
 (bC.mp h).elim λa h=>(bC.mp h).elim λb h=>(bC.mp h).elim λc h=>k (a _ (.head _)) (a _ (.tail _ (.head _))) (a _ (.tail _ (.tail _ (.head _)))) (a _ (.tail _ (.tail _ (.tail _ (.head _))))) (b _ (.head _)) (b _ (.tail _ (.head _))) (b _ (.tail _ (.tail _ (.head _)))) (c _ (.head _)) (c _ (.tail _ (.head _))) ((bC.mp h).1 _ (.head _))
theorem B8l {x a b c:Addr} (h:x ∉ [a,b,c]):x≠a/\x≠b/\x≠c:=⟨λe=>h (e ▸ .head _),λe=>h (e ▸ .tail _ (.head _)),λe=>h (e ▸ .tail _ (.tail _ (.head _)))⟩
theorem G7d {P:Addr->Prop} {a:Addr} (h:P a):∀ x ∈ [a],P x:=λx hx=>aB.mp hx ▸ h
theorem B4w {P:Addr->Prop} {a b c:Addr} (h1:P a) (h2:P b) (h3:P c):∀ x ∈ [a,b,c],P x:=λx hx=>(aE.mp hx).elim (λe=>e ▸ h1) λhx=>(aE.mp hx).elim (λe=>e ▸ h2) λhx=>aB.mp hx ▸ h3
theorem B8p (a b c:Addr):a ∈ [a,b,c]:=.head _
theorem C3x (a b c:Addr):b ∈ [a,b,c]:=.tail _ (.head _)
theorem C3b (a b c:Addr):c ∈ [a,b,c]:=.tail _ (.tail _ (.head _))
theorem D2o {h:Heap} {T:Addr} {x y:Value} (p:bM h T x y):Y6 { cls:=.type "tuple",data:=.seq #[x,y] }:=⟨rfl,_,_,rfl⟩
theorem A2h (I:A7 κ w) {a TI i1 i2:Addr} {hd:Nat} (O:G6 κ w [a,i1,i2]) (hlt:hd < w.n) (hp:w.es.t.get hd=some .pair) (hTI:bM w.h TI (.ref i1) (.ref i2)) (hTu:∀ k,k < w.n->w.φ k≠TI) (d1:a≠i1) (d2:a≠i2) (d3:i1≠i2) {l1 l2:Addr} (s1:P3 w l1) (s2:P3 w l2):ZipApart a TI (w.φ hd) i1 i2 l1 l2:=
 O8 (B8l (O.notT hTI (D2o hTI))) λa1 a2 a3=>O8 (B8l (O.mng hlt)) λb1 b2 b3=>O8 (B8l (s1.far O)) λc1 c2 c3=>O8 (B8l (s2.far O)) λe1 e2 e3=>
  ⟨a1,b1,Ne.symm d1,Ne.symm d2,Ne.symm (hTu hd hlt),a2,a3,b2,b3,d3,c1,s1.notPair I hlt hp,c2,c3,e1,s2.notPair I hlt hp,e2,e3⟩
theorem t8 {a i1 i2:Addr} {hd:Nat} (h1:1<=hd) (hlt:hd < w.n) (hp:w.es.t.get hd=some .pair) {h':Heap} (hk:∀ c o,c≠a->c≠w.φ hd->c≠i1->c≠i2->w.s.heap.get? c=some o->h'.get? c=some o) (hx:∃ x y,bM h' (w.φ hd) x y):o9 w [a,i1,i2] (some hd) { w.s with heap:=h' }:=
 ⟨λc o ho hn hq=>O8 (B8l hn) λn1 n2 n3=>hk c o n1 (hq hd rfl) n2 n3 ho,⟨rfl,rfl,rfl⟩,λk e=>ac e ▸ h1,λk e=>ac e ▸ ⟨hlt,hp,hx⟩⟩
theorem w5 (I:A7 κ w) {A:aI} (hh:A.handled=none) {a:Addr} {it:It} {own:List Addr} {to:Option Nat} {r:Option (V×It)} {es':St} (R:to=none/\own=[a]/\I8 κ w a it) (O:G6 κ w own) (h:G8 it w.es=.ok r es'):
  es'=w.es/\∀ E:Value->ak->Prop,B9l κ w A it a own to r λQ=>wpAny κ.m A (pyNext (.ref a)) Q E w.s:=by
 obtain ⟨rfl,rfl,R⟩:=R
 exact B5u I hh R O h
theorem B3o {h:Heap} {z TI TO:Addr} {v:Value} (hz:IsZip h z TI TO v):∃ o,h.get? z=some o/\¬ Y6 o:=⟨_,hz,λq=>absurd (Value.type.inj q.1) (by decide)⟩
theorem A9r (I:A7 κ w) {A:aI} (hh:A.handled=none) {a:Addr} {it:It} {own:List Addr} {to:Option Nat} {r:Option (V×It)} {es':St} (R:ItR κ w it a own to) (O:G6 κ w own) (h:next it w.es=.ok r es'):
  es'=w.es/\∀ E:Value->ak->Prop,B9l κ w A it a own to r λQ=>wpAny κ.m A (pyNext (.ref a)) Q E w.s:=by
 induction it using It.casesOn with
 | rng x st k=>exact w5 I hh R O h
 | lst x k=>exact w5 I hh R O h
 | tup l=>exact w5 I hh R O h
 | zip i j hd=>
  cases R with
  | mk TI i1 i2 h1 hlt hz hTI hTu d1 d2 d3 R1 R2 n1 n2=>
  refine B8s h (λ_ _ q=>(I8.seq I R1 n1 q).1) (λ_ _ q=>(I8.seq I R2 n2 q).1) (λ_ hp q1 q2 q q'=>?_) (λp hp q1 q2 q q'=>?_) λp p' hp q1 q2 q q'=>?_
  all_goals
   clear h
   subst q
   refine ⟨q',λE=>v6 (I8.seq I R1 n1 q1) λ_ l1 xs k1 s1 t1 g1=>v6 (I8.seq I R2 n2 q2) λ_ l2 ys k2 s2 t2 g2=>C4r (I.obj hd _ hp) λ_ a0 b0 hTO Q q=>?_⟩
   have D:=A2h I O hlt hp hTI hTu d1 d2 d3 t1 t2
   clear q'
  ·exact I6 hh D hz hTI hTO s1 s2 (.inl g1) λh' hk hx=>q _ (t8 h1 hlt hp hk hx)
  ·exact I6 hh D hz hTI hTO s1 s2 (.inr g2) λh' hk hx=>q _ (t8 h1 hlt hp hk hx)
  ·refine A3b g1 λx x1 rx m1 g1=>A3b g2 λy y1 ry m2 g2=>Q9 (Q:=Q) D hz hTI hTO s1 s2 x1 y1 λh' hz' hTO' s1' s2' hT hk=>?_
   refine q _ _ (t8 h1 hlt hp hk ⟨x,y,hTO'⟩) λt E' Q' ht k=>F5d ht λes kk pp q10=>?_
   subst q10
   refine wpAny_letOwnedTupleGo_zip (s:={ w.s with heap:=h' }) hz' λh'' hz'' hs=>?_
   have hk2:∀ c o,c≠a->c≠w.φ hd->c≠i1->c≠i2->w.s.heap.get? c=some o->h''.get? c=some o:=λc o c1 c2 c3 c4 e=>(hs.2 c c1).trans (hk c o c1 c2 c3 c4 e)
   have C:=t8 h1 hlt hp hk2 ⟨x,y,(hs.2 _ D.TOz).trans hTO'⟩
   have I':=C.inv O I
   have up:=C.up O
   have r1:=g1 _ up I' (s1'.ext hs.extBut (Ne.symm d1) D.l1z)
   have r2:=g2 _ up I' (s2'.ext hs.extBut (Ne.symm d2) D.l2z)
   refine k _ C (O.same (B4w (B3o hz'') r1.there r2.there)) ⟨TI,i1,i2,h1,hlt,hz'',hk2 TI _ D.TIz (Ne.symm (hTu hd hlt)) D.TIi1 D.TIi2 hTI,hTu,d1,d2,d3,r1,r2,m1,m2⟩ ?_
   exact .tup ((hs.2 _ λe=>C5 (O.live a (B8p _ _ _)) λoa hoa _=>absurd (Heap.lt_size hoa) (e ▸ Nat.lt_irrefl _)).trans hT) rfl rfl (λi hi=>I.ne_new B5 i hi) (aj rfl) (.cons (rx.up up) (.cons (ry.up up) .nil))
theorem ItR.isz {i j:It} {hd:Nat} {a:Addr} {own:List Addr} {to:Option Nat} (R:ItR κ w (.zip i j hd) a own to):∃ TI,IsZip w.h a TI (w.φ hd) .none:=by
 cases R with
 | mk TI _ _ _ _ hz=>exact ⟨TI,hz⟩
theorem P8 {w0:W} {X:List Addr} (l:Le X w0 w) {a:Addr} (h:w.h.get? a=none):w0.h.get? a=none:=by
 induction e:w0.h.get? a using ae with
 | none=>rfl
 | some o=>exact (l.live _ ⟨o,e⟩).elim λo' ho'=>nomatch h.symm.trans ho'
theorem U5 {o:Obj} {x:String} (h:o.cls=.type x) (n:"tuple"≠x):¬ Y6 o:=λq=>n (Value.type.inj (q.1.symm.trans h))
theorem G3.notT {h:Heap} {l:Addr} {xs:Array Value} {T:String} (x:G3 h l xs T):¬ Y6 (N4 T l):=
 U5 rfl λe=>x.elim (λq=>absurd (e.trans q.1) (by decide)) λq=>absurd (e.trans q.1) (by decide)
theorem G6.le {X:List Addr} {w':W} {own:List Addr} (O:G6 κ w own) (l:Le X w w') (hf:∀ x ∈ X,x ∉ own):G6 κ w' own/\∀ a ∈ own,∀ o,w.h.get? a=some o->w'.h.get? a=some o:=by
 have k:∀ a ∈ own,∀ o,w.h.get? a=some o->w'.h.get? a=some o:=λa ha o ho=>l.keep a o ho (.inr λhx=>hf a hx ha) (O.each a ha).unm
 exact ⟨⟨λa ha=>(O.each a ha).le l (let ⟨o,ho,_⟩:=O.live a ha; ⟨o,ho⟩),λa ha=>let ⟨o,ho,h⟩:=O.live a ha; ⟨o,k a ha o ho,h⟩⟩,k⟩
theorem A7p {X:List Addr} {w':W} {it:It} {a:Addr} {own:List Addr} {to:Option Nat} (R:to=none/\own=[a]/\I8 κ w a it) (O:G6 κ w own) (l:Le X w w') (hf:∀ x ∈ X,x ∉ own):to=none/\own=[a]/\I8 κ w' a it:=
 ⟨R.1,R.2.1,R.2.2.le l ((O.le l hf).2 a (R.2.1 ▸ aB.mpr rfl))⟩
theorem ItR.le {X:List Addr} {w':W} {it:It} {a:Addr} {own:List Addr} {to:Option Nat} (R:ItR κ w it a own to) (O:G6 κ w own) (l:Le X w w') (hf:∀ x ∈ X,x ∉ own):ItR κ w' it a own to:=by
 induction it using It.casesOn with
 | rng x st n=>exact A7p R O l hf
 | lst x n=>exact A7p R O l hf
 | tup lv=>exact A7p R O l hf
 | zip i j hd=>
  cases R with
  | mk TI i1 i2 h1 hlt hz hTI hTu d1 d2 d3 R1 R2 n1 n2=>
  have k:=(O.le l hf).2
  exact ⟨TI,i1,i2,h1,ba hlt l.le,(l.same hd hlt).symm ▸ k a (B8p _ _ _) _ hz,l.keep TI _ hTI (.inl ⟨rfl,_,_,rfl⟩) hTu,l.unm ⟨_,hTI⟩ hTu,d1,d2,d3,R1.le l (k i1 (C3x _ _ _)),R2.le l (k i2 (C3b _ _ _)),n1,n2⟩
end
noncomputable def I7:It->Bool
 | .zip _ _ _=>false
 | _=>true
noncomputable def A4a (κ:Kx) (w0 w:W):It->Value->Prop
 | .rng a s n,x=>∃ r b t u v,x=.ref r/\IsRange w.h r a b s t u v/\Builtin.Range.small a b s=true/\bP a b s=(n:Nat)
 | .lst h k,x=>k=0/\h < w.n/\x=.ref (w.φ h)/\∃ l,w.es.t.get h=some (.list l)
 | .tup l,x=>w.vr κ (.tup l) x
 | .zip i j h,x=>∃ z own,x=.ref z/\ItR κ w (.zip i j h) z own (some h)/\G6 κ w own/\(∀ a ∈ own,w0.h.get? a=none)/\w0.n<=h
section
variable {κ:Kx} {w:W}
theorem A4c {w0:W} (I:A7 κ w) {A:aI} {it:It} {x:Value} (S:A4a κ w0 w it x) (l:Le [] w0 w) {Q:Value->ak->Prop} {E:Value->ak->Prop}
  (q:∀ a own to s',A7 κ ⟨w.φ,w.es,s'⟩->Le [] w ⟨w.φ,w.es,s'⟩->ItR κ ⟨w.φ,w.es,s'⟩ it a own to->G6 κ ⟨w.φ,w.es,s'⟩ own->(∀ a ∈ own,w0.h.get? a=none)->(∀ h,to=some h->w0.n<=h)->Q (.ref a) s'):
  wpAny κ.m A (pyIter x) Q E w.s:=by
 have dead:w0.h.get? w.h.objs.size=none:=P8 l B5
 have single:∀ (ob:Obj) (it':It),(it'=it)->I7 it=true->(¬ Y6 ob)->ob.isFreed=false->I8 κ ⟨w.φ,w.es,{ w.s with heap:=w.h.push ob }⟩ w.h.objs.size it->Q (.ref w.h.objs.size) { w.s with heap:=w.h.push ob }:=λob it' _ nz nt hf R=>by
  have hk:=C9 (h:=w.h) ob
  refine q _ [w.h.objs.size] none _ (I.grow (s':={ w.s with heap:=w.h.push ob }) hk) (Le.grow (s':={ w.s with heap:=w.h.push ob }) hk ⟨rfl,rfl,rfl⟩) ?_ ⟨λa ha=>?_,λa ha=>?_⟩ (λa ha=>?_) λh e=>nomatch e
  ·induction it using It.casesOn with
   | zip _ _ _=>cases nz
   | rng _ _ _=>exact ⟨rfl,rfl,R⟩
   | lst _ _=>exact ⟨rfl,rfl,R⟩
   | tup _=>exact ⟨rfl,rfl,R⟩
  ·rw [aB.mp ha]; exact ⟨I.ne_new B5,I.fresh B5⟩
  ·rw [aB.mp ha]; exact ⟨ob,ax _ hf,nt⟩
  ·rw [aB.mp ha]; exact dead
 induction it using It.casesOn with
 | rng a s n=>
  refine A3h S λr b t u v q36' hr hs hn=>?_; clear S; subst q36'
  refine wpAny_pyIter_range hr hs ?_
  rw [hn]
  exact single _ _ rfl rfl (U5 rfl (by decide)) rfl (ax _ rfl)
 | lst h k=>
  refine C6x S λq37' hlt q38' lv hl=>?_; clear S; subst q37'; subst q38'
  refine M5 (I.obj h _ hl) λ_ items hli _ _=>?_
  have hli:=hli.isList
  exact wpAny_pyIter_list hli (single _ _ rfl rfl (U5 rfl (by decide)) rfl ⟨hlt,_,ax _ rfl,rfl,rfl⟩)
 | tup lv=>
  have S':w.vr κ (.tup lv) x:=S
  cases S' with
  | @tup _ a0 _ _ _ h1 h2 h3 h4 h5 h6=>
   have hT:=G7 h1 h2 h3
   have hk:=C9 (h:=w.h) { cls:=.type "tuple_iterator",data:=.fields #[.ref a0,.int 0 0] }
   refine iter_tuple hT (single _ _ rfl rfl (U5 rfl (by decide)) rfl ⟨_,_,0,⟨_,ax _ rfl,rfl,rfl⟩,hT.push _,h4,Nat.zero_le _,?_⟩)
   rw [List.drop_zero]
   exact VRels.up (Le.grow (X:=[]) (s':={ w.s with heap:=_ }) hk ⟨rfl,rfl,rfl⟩).up h6
 | zip i j h=>
  refine B1s S λz own q39' R O hd hh=>?_; clear S; subst q39'
  exact R.isz.elim λTI hz=>wpAny_pyIter_zip hz (q z own (some h) w.s I (Le.refl _ _) R O hd λk e=>by cases e; exact hh)
end
section
variable {M:Model} {A:aI} {E:Value->ak->Prop} {s:ak}
theorem F6 {pos:Pos} {f:Value} {first:List Value} {args:List (Bool×Sem Value)} {Q:Value->ak->Prop} (hf:keeperOf f=pure .machine) (hplain:args.any (·.1)=false)
  (h:wpAny M A (evalArgs f true args []) (λa s₁=>wpAny M A (call f (first++a.pos) a.kw) Q E s₁) E s):wpAny M A (callWith pos f first args []) Q E s:=by
 unfold callWith
 refine ab (aF (af h (λa s₁ h₁=>ab (aZ ?_)) λ_ _ x=>x))
 simp only [hplain,List.any_nil,Bool.or_false]
 rw [hf]
 refine ab (ag ?_)
 exact ab (af h₁ (λr s₂ hr=>ab (aF (wpAny_point (ag hr)))) λ_ _ x=>x)
end
section
variable (κ:Kx) (rn:F5) (f n:Nat) (nm:List (Str×aK))
noncomputable def SI (ci:CI) (e:Expr):Prop:=∀ A c ev env w it es',B7 A f n->D9 κ c->A7 κ w->C8 κ w ev env->env.scope.names=nm->ci rn c ev w.es=.ok it es'->wpAny κ.m A (eval e env) (A1 κ [] w es' λw' x=>A4a κ w w' it x) D1 w.s
end
section
variable {κ:Kx} {rn:F5} {f n:Nat} {nm:List (Str×aK)}
theorem j3 {w0 w:W} (I:A7 κ w) {v:V} {x:Value} {it:It} {es':St} (r:w.vr κ v x) (h:l5 v w.es=.ok it es'):
  es'=w.es/\A4a κ w0 w it x/\∃ l items T,x=.ref l/\G3 w.h l items T/\M7 it=true/\P3 w l/\
   ∀ (w2:W) (i:Addr),Le [] w w2->w2.h.get? i=some (N4 T l)->I8 κ w2 i it:=by
 induction r using A4.el with
 | @tup lv a o items e h1 h2 h3 h4 h5 h6=>
  obtain ⟨rfl,e2⟩:=A3 (s:=w.es) h
  refine ⟨e2,.tup h1 h2 h3 h4 h5 h6,a,items,"tuple_iterator",rfl,.inr ⟨rfl,G7 h1 h2 h3⟩,rfl,.inr ⟨h4,_,h1,h2,_,_,h3⟩,λw2 i le hi=>?_⟩
  have h1':=le.keep _ _ h1 (.inl ⟨h2,_,_,h3⟩) h4
  exact ⟨a,items,0,⟨_,hi,rfl,rfl⟩,G7 h1' h2 h3,le.unm ⟨_,h1⟩ h4,Nat.zero_le _,by rw [List.drop_zero]; exact le.vrs h6⟩
 | ref hk e=>
  refine gOn h λob h3 h2=>?_
  obtain ⟨hi,rob⟩:=I.obj _ _ h3
  subst e
  induction ob using O.casesOn with
  | list l=>
   obtain ⟨rfl,e2⟩:=A3 (s:=w.es) h2
   refine E2 rob λitems hl hlen hv=>?_; clear rob
   have hl:=hl.isList
   refine ⟨e2,⟨rfl,hi,rfl,l,h3⟩,_,items,"list_iterator",rfl,.inl ⟨rfl,hl⟩,rfl,.inl ⟨_,l,hi,rfl,h3⟩,λw2 i le hii=>⟨ba hi le.le,_,hii,rfl,by rw [le.same _ hi]; rfl⟩⟩
  | _=>exact (A0 (s:=w.es) h2).elim
 | opq x=>exact (A0 (s:=w.es) h).elim
 | _=>exact (A0 (s:=w.es) h).elim
theorem F2g {a:CX} {e:Expr} (ha:SX κ rn f n nm a e):SI κ rn f n nm (iOf a) e:=λA c ev env w it es' hA hc I r hn h=>by
 refine A2 h λv s1 h1 h2=>?_
 refine af (ha A c ev env w hA hc I r hn v s1 h1) (λx s₁ p=>?_) λ_ _ x=>x
 obtain ⟨φ1,le,inv,hr⟩:=p
 refine O8 (j3 (w0:=w) (w:=⟨φ1,s1,s₁⟩) inv hr h2) λe1 g _=>?_
 have e1':es'=s1:=e1
 subst e1'
 exact ⟨φ1,le,inv,g⟩
theorem D6x (b:Int):bP 0 b 1=((Int.toNat b:Nat):Int):=by
 rw [rangeSize_one]; split<;>omega
theorem B5t (a b:Int):bP a b (-1)=((Int.toNat (Int.sub a b):Nat):Int):=by
 have:Int.sub a b=a - b:=rfl
 rw [this]
 unfold bP
 rw [if_neg (by decide)]
 have e:(-(-1:Int))=1:=rfl
 rw [e,Int.ediv_one]
 split<;>omega
theorem w7 {a:Int} (h:fits a=true):-1000000<=a/\a<=1000000:=by
 unfold fits at h
 rw [az,E0,E0] at h; exact h
theorem B6o {a b c:Int} (hc:c=1∨c=-1) (ha:-1000000<=a/\a<=1000000) (hb:-1000000<=b/\b<=1000000):Builtin.Range.small a b c=true:=by
 unfold Builtin.Range.small
 have hs:0<=bP a b c/\bP a b c<=2000000:=by
  rcases hc with rfl | rfl
  ·rw [rangeSize_one]; split<;>omega
  ·rw [B5t]; have:Int.sub a b=a - b:=rfl; rw [this]; omega
 simp only [Builtin.Range.rangeFitsLong,az,Bool.or_eq_true,decide_eq_true_eq,beq_iff_eq]
 refine ⟨⟨⟨⟨⟨by omega,by omega⟩,by omega,by omega⟩,?_⟩,by omega,by omega⟩,.inr ?_⟩
 ·rcases hc with rfl | rfl<;>constructor<;>omega
 ·rcases hc with rfl | rfl
  ·rw [if_pos (by decide)]; simp only [az,decide_eq_true_eq]; constructor<;>omega
  ·rw [if_neg (by decide)]; simp only [az,decide_eq_true_eq]; constructor<;>omega
theorem A0i {v:V} {s s':St} {it:It} {P:It->St->Prop} (h:l5 v s=.ok it s') (k1:∀ l,P (.tup l) s) (k2:∀ h,P (.lst h 0) s):P it s':=by
 induction v using V.casesOn with
 | tup l=>exact N3 (s:=s) h (k1 l)
 | ref i=>
  refine gOn (s:=s) h λo _ h=>?_
  induction o using O.casesOn with
  | list _=>exact N3 (s:=s) h (k2 i)
  | _=>exact (A0 (s:=s) h).elim
 | _=>exact (A0 (s:=s) h).elim
theorem A3t {vs:List V} {s s':St} {it:It} {P:List V->It->St->Prop} (h:C5g vs s=.ok it s') (k1:∀ x b,R8 x=some b->fits b=true->P [x] (.rng 0 1 (Int.toNat b)) s)
  (k3:∀ x y z a b,R8 x=some a->R8 y=some b->B3d z=true->fits a=true->fits b=true->P [x,y,z] (.rng a (-1) (Int.toNat (Int.sub a b))) s):P vs it s':=by
 induction vs using av with
 | nil=>exact (A0 (s:=s) h).elim
 | cons x l=>induction l using av with
  | nil=>exact lfn (s:=s) h λb hb h=>cF h λhf h=>N3 h (k1 x b hb hf)
  | cons y l=>induction l using av with
   | nil=>exact (A0 (s:=s) h).elim
   | cons z l=>induction l using av with
    | cons _ _=>exact (A0 (s:=s) h).elim
    | nil=>exact lfn (s:=s) h λa ha h=>lfn h λb hb h=>cF h λhf h=>b3 hf λe1 e2 e3=>N3 h (k3 x y z a b ha hb e1 e2 e3)
theorem C5p {vs:List V} {s s':St} {it:It} (h:C5g vs s=.ok it s'):s'=s:=A3t (P:=λ_ _ s'=>s'=s) h (λ_ _ _ _=>rfl) λ_ _ _ _ _ _ _ _ _ _=>rfl
theorem B6a {w0 w:W} (I:A7 κ w) {A:aI} {vs:List V} {xs:List Value} {it:It} {es':St} (r:w.vrs κ vs xs) (h:C5g vs w.es=.ok it es') {Q:Value->ak->Prop} {E:Value->ak->Prop}
  (q:∀ x s',A7 κ ⟨w.φ,w.es,s'⟩->Le [] w ⟨w.φ,w.es,s'⟩->A4a κ w0 ⟨w.φ,w.es,s'⟩ it x->Q x s'):es'=w.es/\wpAny κ.m A (call (.type "range") xs) Q E w.s:=by
 refine A3t (P:=λvs it es'=>w.vrs κ vs xs->(∀ x s',A7 κ ⟨w.φ,w.es,s'⟩->Le [] w ⟨w.φ,w.es,s'⟩->A4a κ w0 ⟨w.φ,w.es,s'⟩ it x->Q x s')->es'=w.es/\wpAny κ.m A (call (.type "range") xs) Q E w.s) h (λx b hb hf r q=>⟨rfl,?_⟩) (λx y z a b ha hb hz fa fb r q=>⟨rfl,?_⟩) r q
 ·induction r using VRels.elC with
  | cons ra rb=>
   induction rb using VRels.elE with
   | nil=>
    refine O0 (P:=λy=>wpAny κ.m A (call (.type "range") [y]) Q E w.s) hb ra λt=>call_range_1 ?_
    have hk:=C9 (h:=w.h) { cls:=.type "range",data:=.fields #[.int 0 w.s.toks,.int b t,.int 1 (w.s.toks + 1)] }
    exact q _ _ (I.grow (s':={ w.s with heap:=_,toks:=_ }) hk) (Le.grow (s':={ w.s with heap:=_,toks:=_ }) hk ⟨rfl,rfl,rfl⟩) ⟨_,b,_,_,_,rfl,ax _ rfl,B6o (.inl rfl) (by decide) (w7 hf),D6x b⟩
 ·induction r using VRels.elC with
  | @cons y1 _ ra rb=>
   induction rb using VRels.elC with
   | @cons y2 _ rb rc=>
    induction rc using VRels.elC with
    | @cons y3 _ rc rd=>
     induction rd using VRels.elE with
     | nil=>
      refine O0 (P:=λy1=>wpAny κ.m A (call (.type "range") [y1,y2,y3]) Q E w.s) ha ra λt1=>O0 (P:=λy2=>wpAny κ.m A (call (.type "range") [.int a t1,y2,y3]) Q E w.s) hb rb λt2=>O0 (P:=λy3=>wpAny κ.m A (call (.type "range") [.int a t1,.int b t2,y3]) Q E w.s) (B8e hz) rc λt3=>?_
      have f1:=w7 fa
      have f2:=w7 fb
      refine call_range_3 (by decide) ?_ (.inl (PyProof.noPylong_small (by omega)))
      have hk:=C9 (h:=w.h) { cls:=.type "range",data:=.fields #[.int a t1,.int b t2,.int (-1) t3] }
      exact q _ _ (I.grow (s':={ w.s with heap:=_ }) hk) (Le.grow (s':={ w.s with heap:=_ }) hk ⟨rfl,rfl,rfl⟩) ⟨_,b,_,_,_,rfl,ax _ rfl,B6o (.inr rfl) f1 f2,B5t a b⟩
theorem j9 (n:String):keeperOf (.type n)=pure .machine:=rfl
theorem A1d (n:String):keeperOf (.builtin n)=pure .machine:=rfl
structure l8 (κ:Kx) (nm:List (Str×aK)) (x:Str) (v:Value):Prop where
 kind:nm.lookup x=some .globalImplicit
 dbg:(x == ("__debug__":Str))=false
 glb:κ.glb x=none
 val:κ.blt x=some v
theorem D5j (KO:U8 κ) {x:Str} (B:l8 κ nm x (.type "range")) {l:CL} {es:List Expr} {p pos} (hns:es.all A9=true) (hl:SLs κ rn f n nm l es):SI κ rn f n nm (D6b l) (.Call (.Name x p) es [] pos):=λA c ev env w it es' hA hc I r hn h=>by
 refine A2 h λvs s1 h1 h2=>?_
 rw [bQ]
 refine ab (M6 KO I r (by unfold aS; rw [hn]; exact B.kind) B.dbg B.glb B.val ?_)
 refine F6 (j9 _) (L3 hns _ _) (E3 hns (af (hl pos A c ev env w hA hc I r hn vs s1 h1) (λxs s₁ p=>?_) λ_ _ x=>x))
 obtain ⟨φ1,le,inv,hv⟩:=p
 have e1:=C5p h2
 subst e1
 exact (B6a (w0:=w) (w:=⟨φ1,es',s₁⟩) inv (A:=A) hv h2 (E:=D1) (Q:=A1 κ [] w es' λw' x=>A4a κ w w' it x) (λx s' i' l' g=>⟨φ1,le.comp l',i',g⟩)).2
end
section
variable {κ:Kx} {rn:F5} {f n:Nat} {nm:List (Str×aK)}
theorem C2a {i j it:It} {v:V} {s s':St} (h:C9a i j v s=.ok it s'):∃ k,v=.ref k/\it=.zip i j k/\s'=s:=by
 induction v using V.casesOn with
 | ref k=>exact ⟨k,rfl,A3 (s:=s) h⟩
 | _=>exact (A0 (s:=s) h).elim
theorem A5k {v:V} {s s':St} {it:It} (h:l5 v s=.ok it s'):s'=s:=A0i (P:=λ_ s'=>s'=s) h (λ_=>rfl) λ_=>rfl
theorem B7j {w0 w:W} (I:A7 κ w) (l0:Le [] w0 w) {A:aI} {va vb v:V} {x y:Value} {i j it:It} {es' es'':St} (ra:w.vr κ va x) (rb:w.vr κ vb y) (h1:l5 va w.es=.ok i w.es) (h2:l5 vb w.es=.ok j w.es) (h3:w9 .pair w.es=.ok v es') (h4:C9a i j v es'=.ok it es''):
  wpAny κ.m A (call (.type "zip") [x,y]) (A1 κ [] w es'' λw' z=>A4a κ w0 w' it z) D1 w.s:=by
 refine z8 (j3 (w0:=w0) I ra h1) λ_ _ l1 xs T1 q20' S1 n1 k1 g1=>?_; subst q20'
 refine z8 (j3 (w0:=w0) I rb h2) λ_ _ l2 ys T2 q21' S2 n2 k2 g2=>?_; subst q21'
 refine E2 (C2a h4) λk q22' q23' e4=>?_; subst q22'; subst q23'
 subst e4
 refine O8 (r8 h3) λe5 hle e6=>?_
 cases e5
 refine B4u S1 S2 λh' z TI TO i1 i2 hp hd hz hTI hTO hi1 hi2 hk=>pw5 hp λzTI zTO zi1 zi2 TITO TIi1 TIi2 TOi1 TOi2 i12=>?_
 clear hp
 have dz:=hd z (.head _)
 have dTI:=hd TI (.tail _ (.head _))
 have di1:=hd i1 (.tail _ (.tail _ (.tail _ (.head _))))
 have di2:=hd i2 (.tail _ (.tail _ (.tail _ (.tail _ (.head _)))))
 cases A2b (X:=[]) I h3 (s':={ w.s with heap:=h' }) hk (hd TO (.tail _ (.tail _ (.head _)))) ⟨_,hTO⟩ ⟨rfl,rfl,rfl⟩ (λ_ _=>O.noConfusion) (λu=>⟨.none,.none,(B1 w.φ w.n TO).symm ▸ hTO⟩) with
 | mk φ2 le2 inv2 hr2=>
 have hf:φ2 w.es.n=TO:=A4.elR (P:=λx _=>x=.ref TO->φ2 w.es.n=TO) (λ_ e q=>e.trans (Value.ref.inj q)) hr2 rfl
 have hn:es''.n=w.es.n + 1:=congrArg St.n e6
 have hlt:w.es.n < es''.n:=hn ▸ bu _
 have unm:∀ a,w.h.get? a=none->a≠TO->∀ q,q < es''.n->φ2 q≠a:=λa ha hne q hq e=>by
  rcases Nat.lt_or_eq_of_le (Nat.le_of_lt_succ (hn ▸ hq)) with hqn | hqn
  ·exact I.ne_new ha q hqn ((le2.same q hqn).symm.trans e)
  ·exact hne (e.symm.trans (hqn ▸ hf))
 exact ⟨φ2,le2,inv2,z,[z,i1,i2],rfl,⟨TI,i1,i2,aJ I.f1 I.fl,hlt,(show IsZip h' z TI (φ2 w.es.n) .none from hf.symm ▸ hz),hTI,unm TI dTI TITO,zi1,zi2,i12,g1 _ i1 le2 hi1,g2 _ i2 le2 hi2,n1,n2⟩,
  ⟨B4w ⟨unm _ dz zTO,I.fresh dz⟩ ⟨unm _ di1 (Ne.symm TOi1),I.fresh di1⟩ ⟨unm _ di2 (Ne.symm TOi2),I.fresh di2⟩,B4w ⟨_,hz,U5 rfl (by decide)⟩ ⟨_,hi1,S1.notT⟩ ⟨_,hi2,S2.notT⟩⟩,B4w (P8 l0 dz) (P8 l0 di1) (P8 l0 di2),l0.le⟩
theorem C8t (KO:U8 κ) {x:Str} (B:l8 κ nm x (.type "zip")) {a b:CX} {e1 e2:Expr} {p pos} (hns:[e1,e2].all A9=true) (ha:SX κ rn f n nm a e1) (hb:SX κ rn f n nm b e2):SI κ rn f n nm (D1f a b) (.Call (.Name x p) [e1,e2] [] pos):=λA c ev env w it es' hA hc I r hn h=>by
 refine A2 h λv1 s1 h1 h2=>?_
 refine A2 h2 λv2 s2 h3 h4=>?_
 refine B8 h4 λi s3 h5 h6=>?_
 have e3:=A5k h5
 subst e3
 refine B8 h6 λj s4 h7 h8=>?_
 have e4:=A5k h7
 subst e4
 refine B8 h8 λv s5 h9 h10=>?_
 rw [bQ]
 refine ab (M6 KO I r (by unfold aS; rw [hn]; exact B.kind) B.dbg B.glb B.val ?_)
 simp only [bL,List.all_nil,Bool.and_true,az] at hns
 refine F6 (j9 _) (L3 (by simp [hns]) _ _) (E3 (by simp [hns]) ?_)
 refine spliced_more (af (ha A c ev env w hA hc I r hn v1 s1 h1) (λx s₁ p=>?_) λ_ _ x=>x) (K8 hns.1 env)
 obtain ⟨φ1,le,inv,hr⟩:=p
 refine spliced_more (af (hb A c ev env ⟨φ1,s1,s₁⟩ hA hc inv (r.le le) hn v2 s4 h3) (λy s₂ p2=>?_) λ_ _ x=>x) (K8 hns.2 env)
 obtain ⟨φ2,le2,inv2,hr2⟩:=p2
 refine spliced_none ?_
 exact af (B7j (w0:=w) (w:=⟨φ2,s4,s₂⟩) inv2 (le.comp le2) (le2.vr hr) hr2 h5 h7 h9 h10) (λ_ _ p3=>p3.lift (le.comp le2)) λ_ _ x=>x
theorem noE {M:Model} {A:aI} {α:Type} {t:Sem α} {Q:α->ak->Prop} {E:Value->ak->Prop} {s:ak} (h:wpAny M A t Q D1 s):wpAny M A t Q E s:=af h (λ_ _ q=>q) λ_ _ x=>x.elim
inductive LpR (κ:Kx) (w:W) (env:PySem.Env) (es':St) (fl:Fl) (r:Result) (s':ak):Prop
 | mk (flow:Flow) (e:r=.ok flow) (p:A1 κ (X4 env) w es' (FR κ env fl) flow s')
inductive E5p (κ:Kx) (w:W) (env:PySem.Env) (run:Nat->Mine.Env->M Fl) (es':St) (fl:Fl) (k:Nat) (s:ak):Prop
 | mk (φ:Nat->Addr) (es1:St) (ev1:Mine.Env) (le:Le (X4 env) w ⟨φ,es1,s⟩) (inv:A7 κ ⟨φ,es1,s⟩) (r:C8 κ ⟨φ,es1,s⟩ ev1 env) (hl:run k ev1 es1=.ok fl es')
inductive F1g (κ:Kx) (w:W) (env:PySem.Env) (own:List Addr) (to:Option Nat) (a:Addr) (t:Expr) (run:Nat->Mine.Env->It->M Fl) (es':St) (fl:Fl) (k:Nat) (s:ak):Prop
 | mk (φ:Nat->Addr) (es1:St) (ev1:Mine.Env) (it1:It) (le:Le (X4 env) w ⟨φ,es1,s⟩) (inv:A7 κ ⟨φ,es1,s⟩) (r:C8 κ ⟨φ,es1,s⟩ ev1 env) (R:ItR κ ⟨φ,es1,s⟩ it1 a own to) (O:G6 κ ⟨φ,es1,s⟩ own) (tg:j7 it1 t) (hl:run k ev1 it1 es1=.ok fl es')
theorem B0u {w:W} {env:PySem.Env} {es':St} {fl fl1:Fl} {k:Nat} {P:Nat->ak->Prop} {stop:V->M Fl} {s₂:ak} {flow:Flow} {φ2:Nat->Addr} {s3:St} (le:Le (X4 env) w ⟨φ2,s3,s₂⟩) (inv:A7 κ ⟨φ2,s3,s₂⟩) (hr:FR κ env fl1 ⟨φ2,s3,s₂⟩ flow)
  (hs:∀ v,stop v=D7 (.ret v)) (h:∀ e',fl1=.nxt e'->C8 κ ⟨φ2,s3,s₂⟩ e' env->P k s₂) (h2:∀ v,fl1=.ret v->stop v s3=.ok fl es'):
  (match (generalizing:=false) flow with
   | .next | .cont=>∃ m,m < k + 1/\P m s₂
   | .brk=>LpR κ w env es' fl (.ok .next) s₂
   | .ret v=>LpR κ w env es' fl (.ok (.ret v)) s₂):=by
 induction fl1 using Fl.casesOn with
 | nxt e'=>
  obtain ⟨q,r3⟩:=hr
  subst q
  exact ⟨k,bu _,h e' rfl r3⟩
 | brk e'=>exact hr.elim
 | ret v=>
  refine C5 hr λval q27' r3=>?_; subst q27'
  have h3:=h2 v rfl
  rw [hs v] at h3
  exact ⟨_,rfl,N3 (P:=λfl es'=>A1 κ (X4 env) w es' (FR κ env fl) (.ret val) s₂) h3 ⟨φ2,le,inv,val,rfl,r3⟩⟩
theorem C9r {t:CX} {b:CS} {e:Expr} {sts:List Stmt} {pos} (ht:SE κ rn f n nm t e) (hb:SSs κ rn f n nm b sts):SS κ rn f n nm (E5j t b) (.While e sts [] pos):=λA c ev env w fl es' hA hc I r hn h=>by
 have key:codeAny κ.m A (.whileLoop e sts [] env) (LpR κ w env es' fl) w.s:=by
  refine codeAny_whileLoop (E5p κ w env (B0z t b rn c) es' fl) (λk s hI=>?_) 300 ⟨w.φ,w.es,ev,Le.refl _ _,I,r,h⟩
  obtain ⟨φ,es1,ev1,le,inv,r1,hl⟩:=hI
  induction k using aU with
  | zero=>exact (A0 hl).elim
  | succ k=>
   refine B8 hl λv s1 h1 h2=>B8 h2 λy s2 h3 h4=>?_
   clear hl h2
   refine noE (af (ht.2.after (w:=⟨φ,es1,s⟩) hA hc inv r1 hn h1 h3) (λy' s₁ p=>?_) λ_ _ x=>x)
   obtain ⟨φ1,le1,inv1,hr⟩:=p
   have hr:y'=y:=hr
   subst hr
   have r2:=r1.le le1
   have leA:=le.comp (le1.nil (Y:=X4 env))
   clear le le1 inv r1 h1 h3
   induction y' using ao with
   | false=>
    exact wpAny_execs_nil ⟨_,rfl,N3 (P:=λfl es'=>A1 κ (X4 env) w es' (FR κ env fl) .next s₁) h4 ⟨φ1,leA,inv1,rfl,r2⟩⟩
   | true=>
    refine B8 h4 λfl1 s3 h5 h6=>?_
    refine noE (af (hb A c ev1 env ⟨φ1,s2,s₁⟩ fl1 s3 hA hc inv1 r2 hn h5) (λflow s₂ p2=>?_) λ_ _ x=>x)
    obtain ⟨φ2,le2,inv2,hr2⟩:=p2
    exact B0u (P:=E5p κ w env (B0z t b rn c) es' fl) (stop:=λv=>D7 (.ret v)) (leA.comp le2) inv2 hr2 (λ_=>rfl) (λe' q r3=>⟨φ2,s3,e',leA.comp le2,inv2,r3,by subst q; exact h6⟩) λv q=>by subst q; exact h6
 exact wpAny_While (codeAny_mono key λr s' z=>by obtain ⟨flow,q,p⟩:=z; subst q; exact p)
noncomputable def A0n (e:Expr):Bool:=!(aA e.ctorIdx 7)
theorem g9 {e:Expr} (h:A0n e=true) (env:PySem.Env) (x:Value):foldedSetIterable e env x=pure x:=by
 induction e using Expr.casesOn<;>first | rfl | exact ff h
noncomputable def N8 (e:Expr):Bool:=aA e.ctorIdx 25
theorem B2k {t:Expr} (h:N8 t=true):∃ es k p,t=.Tuple es k p:=Expr.Tuple.elim (motive_1:=λt=>∃ es k p,t=.Tuple es k p) t (aw h) λes k p=>⟨es,k,p,rfl⟩
theorem A0a {it it':It} {v:V} {s s':St} (h:next it s=.ok (some (v,it')) s') (t:Expr) (ht:j7 it t):j7 it' t:=by
 induction it using It.casesOn with
 | zip i j hd=>
  induction it' using It.casesOn with
  | zip _ _ _=>exact ht
  | _=>trivial
 | rng a st k=>
  induction k using aU with
  | zero=>cases (A3 (s:=s) h).1
  | succ k=>cases (A3 (s:=s) h).1; trivial
 | lst hd k=>
  refine B8 (m:=G1 hd) h λo s1 h1 h2=>?_
  induction o using O.casesOn with
  | list l=>
   have h2':(match l[k]? with | some v=>D7 (some (v,It.lst hd (Nat.succ k))) | none=>D7 none) s1=.ok (some (v,it')) s':=h2
   induction hk:l[k]? using ae with
   | none=>rw [hk] at h2'; cases (A3 (s:=s1) h2').1
   | some u=>rw [hk] at h2'; cases (A3 (s:=s1) h2').1; trivial
  | _=>exact (A0 (s:=s1) h2).elim
 | tup l=>
  induction l using av with
  | nil=>cases (A3 (s:=s) h).1
  | cons a l=>cases (A3 (s:=s) h).1; trivial
theorem D2r {ct:CT} {ci:CI} {b:CS} {t e:Expr} {sts:List Stmt} {pos} (hset:A0n e=true) (hz:N8 t=true∨∀ (rn:F5) c ev s it s',ci rn c ev s=.ok it s'->I7 it=true) (ht:TT κ rn f n nm false ct t) (hi:SI κ rn f n nm ci e) (hb:SSs κ rn f n nm b sts):SS κ rn f n nm (E3r ct ci b) (.For t e sts [] pos):=λA c ev env w fl es' hA hc I r hn h=>by
 refine A2 h λit s1 h1 h2=>?_
 refine wpAny_For (af (hi A c ev env w it s1 hA hc I r hn h1) (λx s₁ p=>?_) λ_ _ x=>x) (g9 hset env)
 obtain ⟨φ1,le1,inv1,S⟩:=p
 refine A4c (w0:=w) (w:=⟨φ1,s1,s₁⟩) inv1 S le1 λa own to s₂ inv2 le2 R O hd hto=>?_
 have htg:j7 it t:=by
  rcases hz with hz | hz
  ·induction it using It.casesOn<;>first | trivial | exact B2k hz
  ·have:=hz _ _ _ _ _ _ h1
   induction it using It.casesOn<;>first | trivial | cases this
 have hf:∀ x ∈ X4 env,x ∉ own:=λx hx hm=>by
  have:=hd x hm
  rcases aE.mp hx with rfl | hx
  ·refine C5 r.ns λm q29' _=>?_; refine U1 q29' λo _ _ ho _=>?_; clear q29'
   rw [this] at ho; cases ho
  ·refine C5 (List.mem_map.mp hx) λp hp q30'=>?_; subst q30'
   obtain ⟨⟨v,o,ho,_⟩,_⟩:=r.cellU _ _ (r.cellA p hp)
   rw [this] at ho; cases ho
 have le12:=(le1.comp le2).nil (Y:=X4 env)
 have key:codeAny κ.m A (.forLoop t (.ref a) sts [] env) (LpR κ w env es' fl) s₂:=by
  refine codeAny_forLoop_any (F1g κ w env own to a t (A9p ct b rn c) es' fl) (λk s hI=>?_) 300
   ⟨φ1,s1,ev,it,le12,inv2,r.le (le1.comp le2),R,O,htg,h2⟩
  clear h2 htg R O inv1 inv2 le12 le1 le2 h1 S
  obtain ⟨φ,es1,ev1,it1,le,inv,r1,R1,O1,tg,hl⟩:=hI
  induction k using aU with
  | zero=>exact (A0 hl).elim
  | succ k=>
   refine B8 hl λrr s3 h3 h4=>?_
   clear hl
   obtain ⟨e3,g⟩:=A9r (w:=⟨φ,es1,s⟩) inv hA.handled R1 O1 h3
   rw [show s3=es1 from e3] at h4
   have g:=g (notedBy κ.m A env λe s'=>LpR κ w env es' fl (.error e) s')
   induction rr using ae with
   | none=>
    exact g _ λs' C=>wpAny_execs_nil ⟨_,rfl,N3 (P:=λfl es'=>A1 κ (X4 env) w es' (FR κ env fl) .next s') h4 ⟨φ,C.last O1 le hd hto,C.inv O1 inv,rfl,C.env O1 r1 hf⟩⟩
   | some pr=>
    obtain ⟨v,it'⟩:=pr
    refine B8 h4 λev2 s4 h5 h6=>B8 h6 λfl1 s5 h7 h8=>?_
    clear h4 h6
    refine g _ λx s' C q=>?_
    refine q t _ _ tg λs'' C' O2 R2 rv=>?_
    clear q g C
    have inv3:=C'.inv O1 inv
    have le3:=C'.last O1 le hd hto
    have r3:=C'.env O1 r1 hf
    have tg':=A0a h3 t tg
    clear C' R1 O1 inv le r1 h3 tg
    refine noE (af (ht A c ev1 env ⟨φ,es1,s''⟩ v x ev2 s4 hA hc inv3 r3 hn rv h5) (λ_ s₄ p4=>?_) λ_ _ x=>x)
    obtain ⟨φ4,le4,inv4,r4⟩:=p4
    refine noE (af (hb A c ev2 env ⟨φ4,s4,s₄⟩ fl1 s5 hA hc inv4 r4 hn h7) (λflow s₅ p5=>?_) λ_ _ x=>x)
    obtain ⟨φ5,le5,inv5,hr5⟩:=p5
    have le45:Le (X4 env) ⟨φ,es1,s''⟩ ⟨φ5,s5,s₅⟩:=le4.comp le5
    exact B0u (P:=F1g κ w env own to a t (A9p ct b rn c) es' fl) (stop:=λv=>D7 (.ret v)) (le3.comp le45) inv5 hr5 (λ_=>rfl) (λe' q r5=>⟨φ5,s5,e',it',le3.comp le45,inv5,r5,R2.le (w:=⟨φ,es1,s''⟩) O2 le45 hf,(O2.le (w:=⟨φ,es1,s''⟩) le45 hf).1,tg',by subst q; exact h8⟩) λv q=>by subst q; exact h8
 exact codeAny_mono key λr s' z=>by obtain ⟨flow,q,p⟩:=z; subst q; exact p
end
noncomputable def f7 (cells:List (Str×Addr)):List (Str×aK)->List (Str×Addr)->List (Str×Addr)
 | [],acc=>acc
 | (x,k)::r,acc=>if k == .free then f7 cells r ((x,(cells.lookup x).getD 0)::acc) else f7 cells r acc
theorem A1m {scope:Scope} {env:PySem.Env} (h:∀ p ∈ scope.names,p.2=.free->(env.cells.lookup p.1).isSome=true):closureFor scope env=pure (f7 env.cells scope.names []):=by
 unfold closureFor
 have key:∀ (names:List (Str×aK)) (acc:List (Str×Addr)),(∀ p ∈ names,p.2=.free->(env.cells.lookup p.1).isSome=true)->
   (forIn names acc (λx cs=>if x.2 == .free then (do let c <- cellOf env x.1; pure (ForInStep.yield ((x.1,c)::cs))) else pure (ForInStep.yield cs)):Sem (List (Str×Addr)))=pure (f7 env.cells names acc):=by
  intro names
  induction names with
  | nil=>intro acc _; rfl
  | cons p r ih=>
   obtain ⟨x,k⟩:=p
   intro acc hh
   rw [List.forIn_cons]
   have ih':=λa=>ih a λq hq=>hh q (aH _ hq)
   by_cases hk:(k == NameKind.free)=true
   ·have hs:=hh (x,k) aP (by simpa using hk)
    obtain ⟨c,hc⟩:=bj.mp hs
    have hc':env.cells.lookup x=some c:=hc
    have e1:cellOf env x=pure c:=by unfold cellOf; rw [hc']
    simp only [hk,if_true,e1,f7,hc',Option.getD_some]
    exact ih' _
   ·simp only [hk,if_false,f7,Bool.false_eq_true]
    exact ih' _
 exact Eq.trans (congrArg (λm:Sem (List (Str×Addr))=>m >>= λs=>pure s) (key scope.names [] h)) rfl
theorem A1j (cells:List (Str×Addr)):∀ (names:List (Str×aK)) (acc:List (Str×Addr)),(names.map (·.1)).Nodup->(∀ p ∈ names,acc.lookup p.1=none)->∀ x,(f7 cells names acc).lookup x=if names.lookup x=some .free then some ((cells.lookup x).getD 0) else acc.lookup x:=by
 intro names
 induction names with
 | nil=>intro acc _ _ x; rfl
 | cons p r ih=>
  obtain ⟨y,k⟩:=p
  intro acc hn ha x
  rw [bE,br] at hn
  have hy:∀ q ∈ r,q.1≠y:=λq hq e=>hn.1 (List.mem_map.mpr ⟨q,hq,e⟩)
  have hr:r.lookup y=none:=by
   rw [List.lookup_eq_none_iff]
   intro q hq
   simpa using λe=>hy q hq e.symm
  unfold f7
  by_cases hk:(k == NameKind.free)=true
  ·rw [if_pos hk,ih _ hn.2 (λq hq=>by
    rw [aC]
    have:(q.1 == y)=false:=by simpa using hy q hq
    rw [this]; exact ha q (aH _ hq)) x]
   have hk':k=.free:=by simpa using hk
   by_cases hx:x=y
   ·subst hx
    rw [hr,if_neg (by simp),aC,aC]
    simp [hk']
   ·have:(x == y)=false:=by simpa using hx
    rw [aC,aC,this]
  ·rw [if_neg hk,ih _ hn.2 (λq hq=>ha q (aH _ hq)) x]
   have hk':k≠.free:=by simpa using hk
   by_cases hx:x=y
   ·subst hx
    rw [hr,if_neg (by simp),aC]
    simp [hk']
   ·have:(x == y)=false:=by simpa using hx
    rw [aC,this]
theorem C3t (cells:List (Str×Addr)):∀ (names:List (Str×aK)) (acc:List (Str×Addr)) (p:Str×Addr),p ∈ f7 cells names acc->p ∈ acc∨∃ k,(p.1,k) ∈ names/\k=.free:=by
 intro names
 induction names with
 | nil=>intro acc p h; exact .inl h
 | cons q r ih=>
  obtain ⟨y,k⟩:=q
  intro acc p h
  unfold f7 at h
  split at h
  ·rename_i hk
   rcases ih _ p h with h | ⟨k',h1,h2⟩
   ·rcases aE.mp h with rfl | h
    ·exact .inr ⟨k,aP,by simpa using hk⟩
    ·exact .inl h
   ·exact .inr ⟨k',aH _ h1,h2⟩
  ·rcases ih _ p h with h | ⟨k',h1,h2⟩
   ·exact .inl h
   ·exact .inr ⟨k',aH _ h1,h2⟩
section
variable {prog:Program} {w:World} {A:aI} {E:Value->ak->Prop} {R:Result->ak->Prop} {s:ak}
theorem A3j {elt target iter:Expr} {ifs:List Expr} {scope:Scope} {pos:Pos} {it acc:Value} {env:PySem.Env} (I:Nat->ak->Prop)
  (turn:∀ n s,I n s->wpAny (model prog w) A (pyNext it) (λr s₁=>match r with
   | none=>R (.ok .next) s₁
   | some v=>wpAny (model prog w) A (letOwnedTupleGo target it v) (λ_ s₁'=>wpAny (model prog w) A (assign target env v) (λ_ s₂=>
     wpAny (model prog w) A (forIn ifs true λc r=>if r=true then do let ok <- isTrue c env (eval c env); pure (ForInStep.yield ok) else pure (ForInStep.yield r)) (λok s₃=>
      if ok=true then wpAny (model prog w) A (eval elt env) (λx s₄=>
       wpAny (model prog w) A (call (.builtin "list.append") [acc,x]) (λ_ s₅=>∃ m,m < n/\I m s₅) (notedBy (model prog w) A env λe s'=>R (.error e) s') s₄) (notedBy (model prog w) A env λe s'=>R (.error e) s') s₃
      else ∃ m,m < n/\I m s₃) (notedBy (model prog w) A env λe s'=>R (.error e) s') s₂) (notedBy (model prog w) A env λe s'=>R (.error e) s') s₁') (notedBy (model prog w) A env λe s'=>R (.error e) s') s₁) (notedBy (model prog w) A env λe s'=>R (.error e) s') s)
  (n:Nat) (h:I n s):codeAny (model prog w) A (.compLoop (.ListComp elt [⟨target,iter,ifs,0⟩] scope pos) 0 it acc env) R s:=by
 refine codeAny_loop rfl I (λn s hI=>?_) n h
 show wpAny _ A ((compTurn (.ListComp elt [⟨target,iter,ifs,0⟩] scope pos) 0 it acc env).onRaise (λx=>do noteFrame x env; theTreesLotGoes x)) _ _ s
 refine wpAny_noted ?_
 rw [compTurn_list]
 refine ab (aZ (ab (af (turn n s hI) (λr s₁ h₁=>?_) λ_ _ h'=>h')))
 induction r using ae with
 | none=>exact ag h₁
 | some v=>
  refine ab (af h₁ (λ_ s₁' h₁'=>?_) λ_ _ h'=>h')
  refine ab (af h₁' (λ_ s₂ h₂=>ab (af h₂ (λok s₃ h₃=>?_) λ_ _ h'=>h')) λ_ _ h'=>h')
  induction ok using ao with
  | false=>exact ag ⟨rfl,h₃⟩
  | true=>exact ab (ab (af h₃ (λx s₄ h₄=>ab (af h₄ (λ_ s₅ h₅=>ag (ag ⟨rfl,h₅⟩)) λ_ _ h'=>h')) λ_ _ h'=>h'))
theorem A6m {elt target iter:Expr} {ifs:List Expr} {scope:Scope} {pos:Pos} {it acc:Value} {env:PySem.Env} (I:Nat->ak->Prop)
  (turn:∀ n s,I n s->wpAny (model prog w) A (pyNext it) (λr s₁=>match r with
   | none=>R (.ok .next) s₁
   | some v=>wpAny (model prog w) A (letOwnedTupleGo target it v) (λ_ s₁'=>wpAny (model prog w) A (assign target env v) (λ_ s₂=>
     wpAny (model prog w) A (forIn ifs true λc r=>if r=true then do let ok <- isTrue c env (eval c env); pure (ForInStep.yield ok) else pure (ForInStep.yield r)) (λok s₃=>
      (ok=true->wpAny (model prog w) A (eval elt env) (λx s₄=>wpAny (model prog w) A (call (.builtin "list.append") [acc,x]) (λ_ s₅=>∃ m,m < n/\I m s₅) D1 s₄) D1 s₃)/\(ok=false->∃ m,m < n/\I m s₃)) D1 s₂) D1 s₁') D1 s₁) D1 s)
  (n:Nat) (h:I n s):codeAny (model prog w) A (.compLoop (.ListComp elt [⟨target,iter,ifs,0⟩] scope pos) 0 it acc env) R s:=
 A3j I (λn s hI=>af (turn n s hI) (λr s₁ h₁=>by
  induction r using ae with
  | none=>exact h₁
  | some v=>exact af h₁ (λ_ _ h₁=>af h₁ (λ_ _ h₂=>af h₂ (λok _ h₃=>by
    induction ok using ao with
    | false=>exact h₃.2 rfl
    | true=>exact af (h₃.1 rfl) (λ_ _ h₄=>af h₄ (λ_ _ q=>q) λ_ _ x=>x.elim) λ_ _ x=>x.elim) λ_ _ x=>x.elim) λ_ _ x=>x.elim) λ_ _ x=>x.elim) λ_ _ x=>x.elim) n h
end
section
variable {κ:Kx} {w:W}
theorem B4h {A:aI} {it:It} {a:Addr} {own:List Addr} {to:Option Nat} (R:ItR κ w it a own to) {Q:Value->ak->Prop} {E:Value->ak->Prop} (q:Q (.ref a) w.s):wpAny κ.m A (pyIter (.ref a)) Q E w.s:=by
 induction it using It.casesOn with
 | rng x st n=>exact wpAny_pyIter_rangeiter R.2.2 q
 | lst x n=>exact wpAny_pyIter_listiter R.2.2.2 q
 | tup lv=>exact C5n R λ_ _ _ _ _ R _=>wpAny_pyIter_tupleiter R q
 | zip i j hd=>exact (ItR.isz R).elim λ_ hz=>wpAny_pyIter_zip hz q
theorem C7p {X:List Addr} {w0:W} (I:A7 κ w) (l:Le X w0 w) {D:Addr} {lv:List V} {items:Array Value} {v:V} {es':St} (hn:K4 lv w.es=.ok v es') (hl:w.h.PlainList D items) (hv:w.vrs κ lv items.toList) (O:N0 κ w D) (hd:w0.h.get? D=none):
  ∃ φ',Le X w0 ⟨φ',es',w.s⟩/\A7 κ ⟨φ',es',w.s⟩/\A4 κ φ' es'.n w.h v (.ref D)/\(∀ a,a≠D->(∀ i,i < w.n->w.φ i≠a)->∀ i,i < es'.n->φ' i≠a)/\Up w.φ w.n w.h φ' es'.n w.h:=by
 obtain ⟨hlen,h⟩:=Q1 hn
 refine O8 (r8 h) λq45' hle q46'=>?_; subst q45'; subst q46'
 have en:w.n=w.es.n:=rfl
 have hD:∃ o,w.h.get? D=some o/\¬ Y6 o:=let ⟨o,ho,hc,_⟩:=hl.isList; ⟨o,ho,λ⟨q,_⟩=>by rw [hc] at q; simp at q⟩
 have u:Up w.φ w.n w.h (W3 w.φ w.n D) (w.n + 1) w.h:=⟨λa o ho _ _=>ho,λi hi=>C7 _ _ (aV hi),λi h1 h2 o ho=>by
  rw [show i=w.n from (by omega),B1] at ho
  refine C5 hD λo' h3 h4=>?_; clear hD
  rw [h3] at ho; cases ho; exact h4,Nat.le_succ _⟩
 have hg:∀ i,(Tr.set (.list lv) w.es.t w.n).get i=if i=w.n then some (.list lv) else w.es.t.get i:=λi=>Tr.set_get _ w.es.t w.n i (by show w.es.n < _; omega)
 have last:∀ i,i < w.n + 1->i < w.n∨i=w.n:=λi hi=>by omega
 refine ⟨W3 w.φ w.n D,⟨l.keep,l.live,λi hi=>?_,λi h1 h2=>?_,Nat.le_succ_of_le l.le,l.flo,λi hi=>?_,l.dr,l.gens,l.os,l.drawn⟩,⟨λi o' e=>?_,λi j hi hj e=>?_,λi hi=>?_,I.base,I.lim,Nat.le_succ_of_le I.fl,I.f1,(by show w.es.n + 1<=_; omega),I.sb,(by show W3 w.φ w.n D 0≠_; rw [C7 _ _ (by have:=I.fl; have:=I.f1; omega)]; exact I.z0),λi h1 hi=>?_,λi k lq e=>?_⟩,.ref (bu _) (B1 _ _ _),λa ha hu i hi=>?_,u⟩
 ·show W3 w.φ w.n D i=_
  rw [C7 _ _ (by have:=l.le; omega)]; exact l.same i hi
 ·show w0.h.get? (W3 w.φ w.n D i)=none
  rcases last i h2 with h3 | h3
  ·rw [C7 _ _ (aV h3)]; exact l.new i h1 h3
  ·rw [h3,B1]; exact hd
 ·show (Tr.set _ w.es.t w.n).get i=_
  have hfl:w.es.f=w0.es.f:=l.flo
  rw [hg,if_neg (by have:=I.fl; show i≠w.es.n; omega)]
  exact l.old i hi
 ·have e':(Tr.set (.list lv) w.es.t w.n).get i=some o':=e
  rw [hg] at e'
  by_cases hi:i=w.n
  ·subst hi
   rw [if_pos rfl] at e'
   cases e'
   exact ⟨bu _,items,by show w.h.PlainList (W3 w.φ w.n D w.n) items; rw [B1]; exact hl,hlen,hv.up u⟩
  ·rw [if_neg hi] at e'
   obtain ⟨h1,h2⟩:=I.obj i o' e'
   exact ⟨Nat.lt_succ_of_lt h1,h2.up u h1 (λ_=>rfl) (λob q=>q) λob q _=>q⟩
 ·have e':W3 w.φ w.n D i=W3 w.φ w.n D j:=e
  rcases last i hi with h1 | h1<;>rcases last j hj with h2 | h2
  ·rw [C7 _ _ (aV h1),C7 _ _ (aV h2)] at e'; exact I.inj i j h1 h2 e'
  ·rw [C7 _ _ (aV h1),h2,B1] at e'; exact absurd e' (O.unm i h1)
  ·rw [h1,B1,C7 _ _ (aV h2)] at e'; exact absurd e'.symm (O.unm j h2)
  ·omega
 ·show ∃ o,w.h.get? (W3 w.φ w.n D i)=some o
  rcases last i hi with h1 | h1
  ·rw [C7 _ _ (aV h1)]; exact I.lt i h1
  ·rw [h1,B1]; exact let ⟨o,ho,_⟩:=hD; ⟨o,ho⟩
 ·show κ.base.get? (W3 w.φ w.n D i)=none
  rcases last i hi with h2 | h2
  ·rw [C7 _ _ (aV h2)]; exact I.own i h1 h2
  ·rw [h2,B1]; exact O.fresh
 ·have e':(Tr.set (.list lv) w.es.t w.n).get i=some (.inst k lq):=e
  show (Tr.set (.list lv) w.es.t w.n).get (i + 1)=none
  rw [hg] at e' ⊢
  by_cases h1:i=w.n
  ·rw [if_pos h1] at e'; cases e'
  ·rw [if_neg h1] at e'
   refine M5 (I.obj i _ e') λ_ _ _ h2 _=>?_
   rw [if_neg (by show i + 1≠w.n; omega)]
   exact I.sec i k lq e'
 ·show W3 w.φ w.n D i≠a
  rcases last i hi with h2 | h2
  ·rw [C7 _ _ (aV h2)]; exact hu i h2
  ·rw [h2,B1]; exact ha.symm
end
noncomputable def G5 (nm names:List (Str×aK)):List (Str×aK):=names.map λp=>if (p.2 == .free && nm.lookup p.1 == some .cell)=true then (p.1,.cell) else (p.1,p.2)
structure A1f (nm:List (Str×aK)) (scope:Scope):Prop where
 kind:scope.kind=.function
 nocell:∀ p ∈ scope.names,p.2≠.cell
 nodup:(scope.names.map (·.1)).Nodup
 frees:∀ p ∈ scope.names,p.2=.free->nm.lookup p.1=some .cell∨nm.lookup p.1=some .free
theorem O7 {β:Type}:∀ {l:List (Str×β)},(l.map (·.1)).Nodup->∀ p ∈ l,l.lookup p.1=some p.2
 | q::l,hn,p,hp=>by
  rw [bE,br] at hn
  rw [aC]
  rcases aE.mp hp with rfl | hp
  ·simp
  ·have:(p.1 == q.1)=false:=by
    rw [beq_eq_false_iff_ne]
    intro e
    exact hn.1 (List.mem_map.mpr ⟨p,hp,e⟩)
   rw [this]
   exact O7 hn.2 p hp
theorem K1 {β:Type}:∀ {l:List (Str×β)} {x:Str} {k:β},l.lookup x=some k->(x,k) ∈ l
 | (y,k')::l,x,k,h=>by
  rw [aC] at h
  split at h
  ·rename_i e
   cases h
   have:x=y:=by simpa using e
   rw [this]; exact aP
  ·exact aH _ (K1 h)
theorem P7 (nm:List (Str×aK)):∀ (names:List (Str×aK)) (x:Str),(G5 nm names).lookup x=(names.lookup x).map λk=>if (k == .free && nm.lookup x == some .cell)=true then .cell else k
 | [],x=>rfl
 | (y,k)::r,x=>by
  show List.lookup x ((if (k == .free && nm.lookup y == some .cell)=true then (y,.cell) else (y,k))::G5 nm r)=Option.map _ (List.lookup x ((y,k)::r))
  by_cases hx:x=y
  ·subst hx
   by_cases hc:(k == .free && nm.lookup x == some .cell)=true
   ·rw [if_pos hc,aC,aC]; simp only [beq_self_eq_true,aR]; rw [if_pos hc]
   ·rw [if_neg hc,aC,aC]; simp only [beq_self_eq_true,aR]; rw [if_neg hc]
  ·have hx':(x == y)=false:=by simpa using hx
   have ih:=P7 nm r x
   by_cases hc:(k == .free && nm.lookup y == some .cell)=true
   ·rw [if_pos hc,aC,aC,hx']; exact ih
   ·rw [if_neg hc,aC,aC,hx']; exact ih
theorem A0r {scope:Scope} {env:PySem.Env} {nm:List (Str×aK)} (hk:env.scope.kind=.function) (hn:env.scope.names=nm):(relabel scope env).names=G5 nm scope.names:=by
 show scope.names.map _=scope.names.map _
 congr 1
 funext p
 obtain ⟨y,k⟩:=p
 have:env.kindOf y=nm.lookup y:=by unfold aS; rw [hn]
 simp only [hk,this,beq_self_eq_true,Bool.and_true]
section
variable {κ:Kx} {nm:List (Str×aK)}
theorem B6j {w0 w:W} {ev:Mine.Env} {env:PySem.Env} {scope:Scope} (Sc:A1f nm scope) (r:C8 κ w0 ev env) (hn:env.scope.names=nm) (l:Le [] w0 w) {C:Addr} (hC:w.h.Ns C λ_=>none) (hu:∀ i,i < w.n->w.φ i≠C) (hf:κ.base.get? C=none) (hd:w0.h.get? C=none):
  C8 κ w ⟨[],ev.cs⟩ (compEnvC scope (f7 env.cells scope.names []) C env):=by
 have r':C8 κ w ev env:=r.le l
 have cl:∀ x,(f7 env.cells scope.names []).lookup x=if scope.names.lookup x=some .free then some ((env.cells.lookup x).getD 0) else none:=λx=>by
  rw [A1j env.cells scope.names [] Sc.nodup (λ_ _=>rfl) x]; rfl
 have free_cell:∀ x,scope.names.lookup x=some .free->∃ c,env.cells.lookup x=some c:=λx hx=>by
  have hm:=K1 hx
  have:=Sc.frees _ hm rfl
  exact bj.mp (r'.cellD x (by rw [hn]; exact this))
 have back:∀ x c,(f7 env.cells scope.names []).lookup x=some c->scope.names.lookup x=some .free/\env.cells.lookup x=some c:=λx c h=>by
  rw [cl] at h
  split at h
  ·rename_i hx
   obtain ⟨c',hc'⟩:=free_cell x hx
   rw [hc'] at h; cases h
   exact ⟨hx,hc'⟩
  ·cases h
 have inner:∀ x,((G5 nm scope.names).lookup x=some .cell∨(G5 nm scope.names).lookup x=some .free)->scope.names.lookup x=some .free:=λx h=>by
  rw [P7] at h
  induction hx:scope.names.lookup x using ae with
  | none=>rw [hx] at h; rcases h with h | h<;>cases h
  | some k=>
   rw [hx] at h
   by_cases hk:k=.free
   ·rw [hk]
   ·have:(k == NameKind.free)=false:=by simpa using hk
    simp only [aR,this,Bool.false_and,Bool.false_eq_true,if_false,bg] at h
    rcases h with h | h
    ·exact absurd h (Sc.nocell _ (K1 hx))
    ·exact absurd h hk
 have hnames:(compEnvC scope (f7 env.cells scope.names []) C env).scope.names=G5 nm scope.names:=A0r r.kind hn
 refine ⟨Sc.kind,r.glob,r.blt,⟨_,hC,λi v x h=>by cases h⟩,hu,λi v x h1 h2 h0=>?_,λx c h=>?_,r'.gl,λx y c h1 h2=>?_,⟨hf,λx c h=>?_⟩,λx h=>?_,λp hp=>?_,λx h1 h2=>?_⟩
 ·rw [hnames] at h0
  have hx:=inner x h0
  obtain ⟨c,hc⟩:=free_cell x hx
  have hout:=Sc.frees _ (K1 hx) rfl
  refine P1 (r'.cell i v x h1 h2 (by rw [hn]; exact hout)) λc' val h3 h4 h5=>?_
  refine ⟨c',val,?_,h4,h5⟩
  show (f7 env.cells scope.names []).lookup x=some c'
  rw [cl,if_pos hx,h3]; rfl
 ·exact r'.cellU x c (back x c h).2
 ·exact r'.apart x y c (back x c h1).2 (back y c h2).2
 ·obtain ⟨h1,h2⟩:=back x c h
  refine ⟨(r'.fresh.2 x c h2).1,λq=>?_⟩
  obtain ⟨⟨v,o,ho,_⟩,_⟩:=r.cellU x c h2
  have q':c=C:=q
  rw [q',hd] at ho; cases ho
 ·rw [hnames] at h
  have hx:=inner x h
  show ((f7 env.cells scope.names []).lookup x).isSome=true
  rw [cl,if_pos hx]; rfl
 ·show (f7 env.cells scope.names []).lookup p.1=some p.2
  rcases C3t env.cells scope.names [] p hp with h | ⟨k,h1,rfl⟩
  ·cases h
  ·rw [cl,if_pos (O7 Sc.nodup _ h1)]
   have key:∀ (names:List (Str×aK)) (acc:List (Str×Addr)),(∀ q ∈ acc,q.2=(env.cells.lookup q.1).getD 0)->∀ q ∈ f7 env.cells names acc,q.2=(env.cells.lookup q.1).getD 0:=by
    intro names
    induction names with
    | nil=>intro acc h q hq; exact h q hq
    | cons a names ih=>
     obtain ⟨y,k⟩:=a
     intro acc h q hq
     unfold f7 at hq
     split at hq
     ·exact ih _ (λz hz=>by rcases aE.mp hz with rfl | hz; rfl; exact h z hz) q hq
     ·exact ih _ h q hq
   rw [key scope.names [] (λ_ h=>nomatch h) p hp]
 ·rw [hnames] at h2
  have hx:=inner x (.inl h2)
  rw [P7,hx,aR] at h2
  split at h2
  ·rename_i hb
   simp only [az,beq_iff_eq] at hb
   exact r.code x h1 (by rw [hn]; exact hb.2)
  ·cases h2
end
section
variable {κ:Kx}
theorem C8.leX {X:List Addr} {w w':W} {e:Mine.Env} {env:PySem.Env} (r:C8 κ w e env) (l:Le X w w') (hX:∀ a ∈ X4 env,a ∉ X):C8 κ w' e env:=by
 refine C5 r.ns λm hm hv=>?_
 have kc:∀ x c o,env.cells.lookup x=some c->w.h.get? c=some o->w'.h.get? c=some o:=λx c o h1 ho=>l.keep c o ho (.inr (hX c (A8q h1))) (r.cellU x c h1).2
 refine ⟨r.kind,r.glob,r.blt,⟨m,?_,λi v x h1 h2=>?_⟩,l.unm (let ⟨o,_,_,ho,_⟩:=hm; ⟨o,ho⟩) r.nsU,λi v x h1 h2 h0=>?_,λx c h1=>?_,r.gl.le l,r.apart,r.fresh,r.cellD,r.cellA,r.code⟩
 ·refine U1 hm λo es ep ho q=>?_; clear hm
  exact ⟨o,es,ep,l.keep _ _ ho (.inr (hX _ aP)) r.nsU,q⟩
 ·refine C5 (hv i v x h1 h2) λz h3 h4=>?_
  exact ⟨z,h3,l.vr h4⟩
 ·refine P1 (r.cell i v x h1 h2 h0) λc z h3 q33' h5=>?_; obtain ⟨o,ho,hd⟩:=q33'
  exact ⟨c,z,h3,⟨o,kc x c o h3 ho,hd⟩,l.vr h5⟩
 ·obtain ⟨⟨v,o,ho,hd⟩,h3⟩:=r.cellU x c h1
  exact ⟨⟨v,o,kc x c o h1 ho,hd⟩,l.unm ⟨o,ho⟩ h3⟩
theorem Le.drop {X Y:List Addr} {w0 w w':W} (l:Le X w0 w) (l':Le Y w w') (h:∀ y ∈ Y,w0.h.get? y=none):Le X w0 w':=l.trans l' (λ_ h=>.inl h) λy hy=>.inr (h y hy)
end
section
variable (κ:Kx) (rn:F5) (f n:Nat) (nm:List (Str×aK))
noncomputable def SB (cb:CB) (es:List Expr):Prop:=∀ A c ev env w b es',B7 A f n->D9 κ c->A7 κ w->C8 κ w ev env->env.scope.names=nm->cb rn c ev w.es=.ok b es'->
 wpAny κ.m A (forIn es true λc r=>if r=true then do let ok <- isTrue c env (eval c env); pure (ForInStep.yield ok) else pure (ForInStep.yield r)) (A1 κ [] w es' λ_ ok=>ok=b) D1 w.s
end
theorem l4 (env:PySem.Env):∀ es:List Expr,(forIn es false (λc r=>if r=true then do let ok <- isTrue c env (eval c env); pure (ForInStep.yield ok) else pure (ForInStep.yield r)):Sem Bool)=pure false
 | []=>rfl
 | e::es=>by
  rw [List.forIn_cons]
  exact l4 env es
section
variable {κ:Kx} {rn:F5} {f n:Nat} {nm:List (Str×aK)}
theorem D5d:SB κ rn f n nm E1j []:=λA c ev env w b es' hA hc I r hn h=>by
 cases h
 exact wpAny_tests_nil (A1.here I rfl)
theorem C3r {a:CX} {l:CB} {e:Expr} {es:List Expr} (ha:SE κ rn f n nm a e) (hl:SB κ rn f n nm l es):SB κ rn f n nm (C8c a l) (e::es):=λA c ev env w b es' hA hc I r hn h=>by
 refine A2 h λv1 s1 h1 h2=>?_
 refine A2 h2 λk s2 h3 h4=>?_
 rw [List.forIn_cons]
 simp only [if_true]
 refine ab (ab (af (ha.2.after hA hc I r hn h1 h3) (λk' s₁ p=>ag ?_) λ_ _ x=>x))
 have hr:k'=k:=by obtain ⟨_,_,_,q⟩:=p; exact q
 subst hr
 obtain ⟨φ1,le,inv,_⟩:=p
 induction k' using ao with
 | true=>exact af (hl A c ev env ⟨φ1,s2,s₁⟩ b es' hA hc inv (r.le le) hn h4) (λ_ _ p=>p.lift le) λ_ _ x=>x
 | false=>
  cases h4
  show wpAny κ.m A (forIn es false _) _ _ _
  rw [l4]
  exact ag ⟨φ1,le,inv,rfl⟩
theorem B5o {w:W} {ev:Mine.Env} {env:PySem.Env} {scope:Scope} (Sc:A1f nm scope) (r:C8 κ w ev env) (hn:env.scope.names=nm) {x:Str} {c:Addr} (h:(f7 env.cells scope.names []).lookup x=some c):env.cells.lookup x=some c:=by
 rw [A1j env.cells scope.names [] Sc.nodup (λ_ _=>rfl) x] at h
 split at h
 ·rename_i hx
  obtain ⟨c',hc'⟩:=bj.mp (r.cellD x (by rw [hn]; exact Sc.frees _ (K1 hx) rfl))
  rw [hc'] at h; cases h; exact hc'
 ·cases h
inductive C7s (κ:Kx) (w0:W) (es':St) (v:V) (x:Value) (C:Addr) (r:Result) (s':ak):Prop
 | mk (e:r=.ok .next) (φ:Nat->Addr) (le:Le [] w0 ⟨φ,es',s'⟩) (inv:A7 κ ⟨φ,es',s'⟩) (rel:A4 κ φ es'.n s'.heap v x) (ns:∃ m,s'.heap.Ns C m) (own:N0 κ ⟨φ,es',s'⟩ C) (dead:w0.h.get? C=none)
inductive D9g (κ:Kx) (w0:W) (env:PySem.Env) (own:List Addr) (to:Option Nat) (a D:Addr) (t:Expr) (lv:List V) (s1:St) (run:Nat->Mine.Env->It->M (List V)) (k:Nat) (s:ak):Prop
 | mk (φ:Nat->Addr) (es1:St) (it1:It) (e1:Mine.Env) (acc:List V) (ys:Array Value) (le:Le [] w0 ⟨φ,es1,s⟩) (inv:A7 κ ⟨φ,es1,s⟩) (rr:C8 κ ⟨φ,es1,s⟩ e1 env) (R1:ItR κ ⟨φ,es1,s⟩ it1 a own to) (O1:G6 κ ⟨φ,es1,s⟩ own) (tg:j7 it1 t) (hD:s.heap.PlainList D ys) (hv:VRels κ φ es1.n s.heap acc ys.toList) (oD:N0 κ ⟨φ,es1,s⟩ D)
  (rest:List V) (hl:run k e1 it1 es1=.ok rest s1) (happ:lv=acc++rest)
theorem B6n {A:aI} {w:W} (I:A7 κ w) {D:Addr} {ys:Array Value} {yv:Value} (oD:N0 κ w D) (hD:w.h.PlainList D ys) (hsz:ys.size<=10000) {Q:Value->ak->Prop} (q:∀ h',Le [D] w ⟨w.φ,w.es,{ w.s with heap:=h' }⟩->A7 κ ⟨w.φ,w.es,{ w.s with heap:=h' }⟩->h'.PlainList D (ys.push yv)->Q .none { w.s with heap:=h' }):
  wpAny κ.m A (call (.builtin "list.append") [.ref D,yv]) Q D1 w.s:=by
 refine wpAny_list_append_plain hD (λh' hD7 hs7=>?_) (aJ hsz (by decide))
 refine E2 hD.isList λo6 ho6 hc6 _=>?_
 obtain ⟨le7,inv7⟩:=j2 (X:=[D]) (w:=w) (s':={ w.s with heap:=h' }) I hs7 ⟨rfl,rfl,rfl⟩ oD.unm oD.fresh (λo ho ⟨q,_⟩=>by
  have:o=o6:=ac (ho.symm.trans ho6)
  rw [this,hc6] at q; simp at q) (hD7.elim λ_ ho=>⟨_,ho⟩) (aB.mpr rfl)
 exact q h' le7 inv7 hD7
theorem B3l {elt target iter:Expr} {ifs:List Expr} {scope:Scope} {pos:Pos} {x:CX} {ct:CT} {cb:CB} {nm':List (Str×aK)} (hx:SX κ rn f n nm' x elt) (ht:TT κ rn f n nm' true ct target) (hb:SB κ rn f n nm' cb ifs)
  {A:aI} {c:Cx} {env:PySem.Env} {w0:W} {a D:Addr} {own:List Addr} {to:Option Nat} {lv:List V} {v:V} {s1 es':St} (hA:B7 A f n) (hc:D9 κ c) (hn:env.scope.names=nm')
  (hd:∀ a ∈ own,w0.h.get? a=none) (hto:∀ h,to=some h->w0.n<=h) (dC:w0.h.get? env.locals=none) (dD:w0.h.get? D=none) (hDC:D≠env.locals) (CnO:env.locals ∉ own) (DnO:D ∉ own) (frC:∀ b ∈ X4 env,b ∉ own/\b≠D) (fl:frl true env=[env.locals]) (hnew:K4 lv s1=.ok v es')
  (k:Nat) (s:ak) (hI:D9g κ w0 env own to a D target lv s1 (A2k x ct cb rn c) k s):codeAny κ.m A (.compLoop (.ListComp elt [⟨target,iter,ifs,0⟩] scope pos) 0 (.ref a) (.ref D) env) (C7s κ w0 es' v (.ref D) env.locals) s:=by
 refine A6m (D9g κ w0 env own to a D target lv s1 (A2k x ct cb rn c)) (λk s hI=>?_) k hI
 obtain ⟨φ,es1,it1,e1,acc,ys,le,inv,rr,R1,O1,tg1,hD,hv,oD,rest,hl,happ⟩:=hI
 induction k using aU with
 | zero=>exact (A0 hl).elim
 | succ k=>
  refine B8 hl λpr s3 h3 h4=>?_
  clear hl
  obtain ⟨e3,g⟩:=A9r (w:=⟨φ,es1,s⟩) inv hA.handled R1 O1 h3
  rw [show s3=es1 from e3] at h4
  have g:=g D1
  have keepD:∀ {s':ak},o9 ⟨φ,es1,s⟩ own to s'->s'.heap.PlainList D ys:=λ{s'} C1=>hD.elim λo ho=>⟨o,C1.keep D _ ho DnO λh e q=>oD.unm h (C1.pair h e).1 q.symm⟩
  induction pr using ae with
  | none=>
   obtain ⟨e8,e9⟩:=A3 h4
   rw [e8,List.append_nil] at happ
   rw [happ,e9] at hnew
   refine g _ λs' C1=>?_
   refine D3s (C7p (w:=⟨φ,es1,s'⟩) (C1.inv O1 inv) (C1.last O1 le hd hto) hnew (keepD C1) (VRels.up (C1.up O1) hv) ⟨oD.unm,oD.fresh⟩ dD) λφ2 q1 q2 q3 q4 q5=>?_
   have rr':=C1.env O1 rr (λb hb=>(frC b hb).1)
   exact ⟨rfl,φ2,q1,q2,q3,rr'.ns.elim λm q=>⟨m,q.1⟩,⟨q4 _ hDC.symm rr'.nsU,rr'.fresh.1⟩,dC⟩
  | some pq=>
   obtain ⟨vv,it'⟩:=pq
   refine B8 h4 λe2 s4 h5 h6=>B8 h6 λb s5 h7 h8=>?_
   clear h4 h6
   refine g _ λxv s' C1 q=>?_
   refine q target _ _ tg1 λs'' C2 O2 R2 rv=>?_
   clear q g C1
   have inv3:=C2.inv O1 inv
   have le3:=C2.last O1 le hd hto
   have r4:=C2.env O1 rr (λb hb=>(frC b hb).1)
   have hD3:=keepD C2
   have hv3:=VRels.up (C2.up O1) hv
   have oD3:N0 κ ⟨φ,es1,s''⟩ D:=⟨oD.unm,oD.fresh⟩
   have tg':=A0a h3 target tg1
   clear keepD hD hv C2 oD R1 O1 rr inv le h3 tg1
   refine af (ht A c e1 _ ⟨φ,es1,s''⟩ vv xv e2 s4 hA hc inv3 r4 hn rv h5) (λ_ s₄ p4=>?_) λ_ _ x=>x
   obtain ⟨φ4,le4,inv4,r5⟩:=p4
   rw [fl] at le4
   clear h5 rv r4 inv3
   refine af (hb A c e2 _ ⟨φ4,s4,s₄⟩ b s5 hA hc inv4 r5 hn h7) (λok s₅ p5=>?_) λ_ _ x=>x
   obtain ⟨φ5,le5,inv5,hok⟩:=p5
   subst hok
   have le45:=le4.comp (le5.nil (Y:=[env.locals]))
   have oD5:N0 κ ⟨φ5,s5,s₅⟩ D:=N0.le (w:=⟨φ,es1,s''⟩) oD3 le45 (hD3.elim λ_ ho=>⟨_,ho⟩)
   have hD5:s₅.heap.PlainList D ys:=hD3.elim λo ho=>⟨o,le45.keep D _ ho (.inr λq=>hDC (aB.mp q)) oD3.unm⟩
   have nC:∀ y ∈ [env.locals],y ∉ own:=λy hy=>by rw [aB.mp hy]; exact CnO
   have R5:=R2.le (w:=⟨φ,es1,s''⟩) O2 le45 nC
   have O5:=(O2.le (w:=⟨φ,es1,s''⟩) le45 nC).1
   have hv5:VRels κ φ5 s5.n s₅.heap acc ys.toList:=le45.vrs hv3
   have le50:=(le3.drop le4 (λy hy=>by rw [aB.mp hy]; exact dC)).comp le5
   have r6:=r5.le le5
   clear hD3 hv3 oD3 R2 O2 le45 le3 le4 le5 r5 inv4 h7
   refine ⟨λe=>?_,λe=>?_⟩
   ·subst e
    refine B8 h8 λy s6 h9 h10=>B8 h10 λl s7 h11 h12=>?_
    obtain ⟨e12,e13⟩:=A3 h12
    subst e12 e13
    clear h8 h10 h12
    refine af (hx A c e2 _ ⟨φ5,s5,s₅⟩ hA hc inv5 r6 hn y s6 h9) (λyv s₆ p6=>?_) λ_ _ x=>x
    obtain ⟨φ6,le6,inv6,hr6⟩:=p6
    have oD6:N0 κ ⟨φ6,s6,s₆⟩ D:=oD5.le le6 (hD5.elim λ_ ho=>⟨_,ho⟩)
    have hD6:s₆.heap.PlainList D ys:=hD5.elim λo ho=>⟨o,le6.keep D _ ho (.inr λq=>nomatch q) oD5.unm⟩
    have hv6:VRels κ φ6 s6.n s₆.heap acc ys.toList:=le6.vrs hv5
    have hsz:ys.size<=10000:=by
     have e1:=hv6.length.trans am
     have e2:lv.length=acc.length + (y::l).length:=by rw [happ,List.length_append]
     have e3:=(Q1 hnew).1
     exact e1 ▸ aJ (e2 ▸ bJ _ _) e3
    refine B6n (w:=⟨φ6,s6,s₆⟩) inv6 oD6 hD6 hsz λh' le7 inv7 hD7=>?_
    have nD:∀ y ∈ [D],y ∉ own:=λy hy=>by rw [aB.mp hy]; exact DnO
    have R6:=R5.le O5 le6 (λ_ h=>nomatch h)
    have O6:=(O5.le le6 (λ_ h=>nomatch h)).1
    refine ⟨k,bu _,φ6,s6,it',e2,acc++[y],ys.push yv,(le50.comp le6).drop le7 (λy hy=>by rw [aB.mp hy]; exact dD),inv7,(r6.le le6).leX le7 (λb hb hm=>(frC b hb).2 (aB.mp hm)),R6.le O6 le7 nD,(O6.le le7 nD).1,tg',hD7,?_,⟨oD6.unm,oD6.fresh⟩,l,h11,?_⟩
    ·rw [Array.toList_push]
     exact (le7.vrs hv6).append (.cons (le7.vr hr6) .nil)
    ·rw [happ,List.append_assoc]; rfl
   ·subst e
    exact ⟨k,bu _,φ5,s5,it',e2,acc,ys,le50,inv5,r6,R5,O5,tg',hD5,hv5,oD5,rest,h8,happ⟩
theorem A4v {elt target iter:Expr} {ifs:List Expr} {scope:Scope} {pos:Pos} {x:CX} {ct:CT} {cb:CB} (Sc:A1f nm scope) (hx:SX κ rn f n (G5 nm scope.names) x elt) (ht:TT κ rn f n (G5 nm scope.names) true ct target) (hb:SB κ rn f n (G5 nm scope.names) cb ifs)
  {A:aI} {c:Cx} {ev:Mine.Env} {env:PySem.Env} {w0 w2:W} {it:It} {a:Addr} {own:List Addr} {to:Option Nat} {lv:List V} {v:V} {s1 es':St} (hA:B7 A f n) (hc:D9 κ c) (r:C8 κ w0 ev env) (hn:env.scope.names=nm) (I2:A7 κ w2) (l2:Le [] w0 w2) (R:ItR κ w2 it a own to) (O:G6 κ w2 own)
  (hd:∀ a ∈ own,w0.h.get? a=none) (hto:∀ h,to=some h->w0.n<=h) (tg:j7 it target) (hrun:A2k x ct cb rn c 100 ⟨[],ev.cs⟩ it w2.es=.ok lv s1) (hnew:K4 lv s1=.ok v es'):
  wpAny κ.m A (newList []) (λacc s₃=>wpAny κ.m A (newFunctionEnv scope env.globals (f7 env.cells scope.names []) [] env.qual none .none (some env)) (λcenv s₄=>
   codeAny κ.m A (.compStart (.ListComp elt [⟨target,iter,ifs,0⟩] scope pos) 0 (.ref a) acc { cenv with scope:=relabel scope env }) (C7s κ w0 es' v acc cenv.locals) s₄) D1 s₃) D1 w2.s:=by
 have dead:∀ b,w2.h.get? b=none->w0.h.get? b=none:=λb hb=>by
  induction e:w0.h.get? b using ae with
  | none=>rfl
  | some o=>
   obtain ⟨o',ho'⟩:=l2.live _ ⟨o,e⟩
   rw [hb] at ho'; cases ho'
 refine wpAny_newObj_type (wpAny_newFunctionEnv Sc.nocell (by intro y hy; simp at hy) (λh₁ hns₁ hsb₁=>?_) Sc.kind)
 dsimp only at hns₁ hsb₁ ⊢
 generalize hH2:w2.s.heap.push { cls:=.type "list",dict:=none,data:=.seq ([]:List Value).toArray }=H2 at hns₁ hsb₁ ⊢
 have hCs:H2.objs.size=w2.s.heap.objs.size + 1:=by rw [<- hH2,Heap.size_push]
 have hDC:w2.s.heap.objs.size≠H2.objs.size:=by rw [hCs]; exact aV (bu _)
 have dC:w2.h.get? H2.objs.size=none:=Heap.get?_none_of_le (by rw [hCs]; exact Nat.le_succ _)
 have dD:w2.h.get? w2.s.heap.objs.size=none:=B5
 have old:∀ b o,w2.h.get? b=some o->h₁.get? b=some o:=λb o e=>hsb₁.extBut b o (λq=>by rw [q,dC] at e; cases e) (ai _ (hH2 ▸ ai _ e))
 have accD:h₁.PlainList w2.s.heap.objs.size #[]:=⟨0,hsb₁.extBut _ _ hDC (ai _ (hH2 ▸ ax _ rfl))⟩
 generalize hCC:H2.objs.size=C at hns₁ dC hDC ⊢
 generalize hDD:w2.s.heap.objs.size=D at accD dD hDC ⊢
 clear hCC hDD hCs hsb₁ hH2
 have nsC:h₁.Ns C (λ_=>none):=hns₁
 have I3:A7 κ ⟨w2.φ,w2.es,{ w2.s with heap:=h₁,toks:=w2.s.toks + ([]:List (Str×Value)).length }⟩:=I2.grow old
 have g3:Le [] w2 ⟨w2.φ,w2.es,{ w2.s with heap:=h₁,toks:=w2.s.toks + ([]:List (Str×Value)).length }⟩:=Le.grow old ⟨rfl,rfl,rfl⟩
 have dD0:=dead D dD
 have CnO:C ∉ own:=λhm=>by refine C5 (O.live C hm) λo ho _=>?_; rw [dC] at ho; cases ho
 have DnO:D ∉ own:=λhm=>by refine C5 (O.live D hm) λo ho _=>?_; rw [dD] at ho; cases ho
 have r3:=B6j Sc r hn (l2.comp g3) nsC (I2.ne_new dC) (I2.fresh dC) (dead C dC)
 have hnm:(compEnvC scope (f7 env.cells scope.names []) C env).scope.names=G5 nm scope.names:=A0r r.kind hn
 have frC:∀ b ∈ X4 (compEnvC scope (f7 env.cells scope.names []) C env),b ∉ own/\b≠D:=λb hb=>by
  rcases aE.mp hb with h | h
  ·have h':b=C:=h
   rw [h']; exact ⟨CnO,hDC.symm⟩
  ·refine C5 (List.mem_map.mp h) λp hp q34'=>?_; subst q34'
   have h0:=B5o Sc r hn (r3.cellA p hp)
   obtain ⟨⟨vv,o,ho,_⟩,_⟩:=r.cellU _ _ h0
   refine ⟨λhm=>?_,λq=>?_⟩
   ·rw [hd _ hm] at ho; cases ho
   ·rw [q,dD0] at ho; cases ho
 have loop:=B3l (elt:=elt) (iter:=iter) (scope:=scope) (pos:=pos) hx ht hb (env:=compEnvC scope (f7 env.cells scope.names []) C env) hA hc hnm hd hto (dead C dC) dD0 hDC CnO DnO frC rfl hnew 100
  { w2.s with heap:=h₁,toks:=w2.s.toks + ([]:List (Str×Value)).length }
  ⟨w2.φ,w2.es,it,⟨[],ev.cs⟩,[],#[],l2.comp g3,I3,r3,R.le O g3 (λ_ h=>nomatch h),(O.le g3 (λ_ h=>nomatch h)).1,tg,accD,.nil,⟨I2.ne_new dD,I2.fresh dD⟩,lv,hrun,rfl⟩
 exact codeAny_compStart_list loop (B4h (w:=⟨w2.φ,w2.es,{ w2.s with heap:=h₁,toks:=w2.s.toks + ([]:List (Str×Value)).length }⟩) (R.le O g3 (λ_ h=>nomatch h)) loop)
end
section
variable {κ:Kx} {rn:F5} {f n:Nat} {nm:List (Str×aK)}
theorem A1f.names {scope:Scope} (Sc:A1f nm scope):∀ x ∈ scope.names,x.2=.local->scope.names.lookup x.1=some .local:=λx hx hl=>by rw [O7 Sc.nodup x hx,hl]
theorem A1f.clos {scope:Scope} (Sc:A1f nm scope) {w:W} {ev:Mine.Env} {env:PySem.Env} (r:C8 κ w ev env) (hn:env.scope.names=nm):closureFor scope env=pure (f7 env.cells scope.names []):=
 A1m λp hp hf=>r.cellD p.1 (by rw [hn]; exact Sc.frees p hp hf)
theorem A7g {X:List Addr} {w0 w:W} (I:A7 κ w) (l:Le X w0 w) {C:Addr} {m:Str->Option Value} (hm:w.h.Ns C m) (O:N0 κ w C) (hd:w0.h.get? C=none) {h':Heap} (hs:bY C w.h h'):
  Le X w0 ⟨w.φ,w.es,{ w.s with heap:=h' }⟩/\A7 κ ⟨w.φ,w.es,{ w.s with heap:=h' }⟩/\Up w.φ w.n w.h w.φ w.n h'/\(∀ e env,C8 κ w e env->(∀ a ∈ X4 env,a≠C)->C8 κ ⟨w.φ,w.es,{ w.s with heap:=h' }⟩ e env):=by
 have ch:o9 w [C] none { w.s with heap:=h' }:=o9.one_but (λc o hc ho=>(hs.2 c hc).trans ho) ⟨rfl,rfl,rfl⟩
 have ol:G6 κ w [C]:=⟨λa ha=>by rw [aB.mp ha]; exact O,λa ha=>by
  rw [aB.mp ha]
  refine U1 (id hm) λo es ep ho q=>?_
  exact ⟨o,ho,Ns.notT hm o ho⟩⟩
 exact ⟨ch.last ol l (λa ha=>by rw [aB.mp ha]; exact hd) (λ_ e=>nomatch e),ch.inv ol I,ch.up ol,λe env r hf=>ch.env ol r λa ha hm=>hf a ha (aB.mp hm)⟩
theorem B0n {it:It} {t:Expr} {ci:CI} {rn:F5} {c:Cx} {ev:Mine.Env} {s s':St} (hz:N8 t=true∨∀ (rn:F5) c ev s it s',ci rn c ev s=.ok it s'->I7 it=true) (h1:ci rn c ev s=.ok it s'):j7 it t:=by
 rcases hz with hz | hz
 ·induction t using Expr.casesOn<;>first | (cases hz; done) | skip
  induction it using It.casesOn<;>first | trivial | exact ⟨_,_,_,rfl⟩
 ·have:=hz _ _ _ _ _ _ h1
  induction it using It.casesOn<;>first | trivial | cases this
theorem D0h {elt target iter:Expr} {ifs:List Expr} {scope:Scope} {pos:Pos} {x:CX} {ct:CT} {ci:CI} {cb:CB} (hset:A0n iter=true) (hz:N8 target=true∨∀ (rn:F5) c ev s it s',ci rn c ev s=.ok it s'->I7 it=true) (Sc:A1f nm scope)
  (hi:SI κ rn f n nm ci iter) (hx:SX κ rn f n (G5 nm scope.names) x elt) (ht:TT κ rn f n (G5 nm scope.names) true ct target) (hb:SB κ rn f n (G5 nm scope.names) cb ifs):
  SE κ rn f n nm (D3p x ct ci cb) (.ListComp elt [⟨target,iter,ifs,0⟩] scope pos):=
 SE.value (λA c ev env w hA hc I r hn v es' h=>by
  refine A2 h λit s1 h1 h2=>?_
  refine A2 h2 λlv s2 h3 h4=>?_
  rw [eval_ListComp]
  refine wpAny_comprehension_free (use:=none) rfl (g9 hset env) (Sc.clos r hn) Sc.kind Sc.names ?_
  refine af (hi A c ev env w it s1 hA hc I r hn h1) (λxv s₁ p=>?_) λ_ _ x=>x
  obtain ⟨φ1,le1,inv1,S⟩:=p
  refine A4c (w0:=w) (w:=⟨φ1,s1,s₁⟩) inv1 S le1 λa own to s₂ inv2 le2 R O hd hto=>?_
  refine af (A4v (elt:=elt) (iter:=iter) (pos:=pos) Sc hx ht hb (w0:=w) (w2:=⟨φ1,s1,s₂⟩) hA hc r hn inv2 (le1.comp le2) R O hd hto (B0n hz h1) h3 h4) (λacc s₃ q3=>?_) λ_ _ x=>x.elim
  refine af q3 (λcenv s₄ q4=>?_) λ_ _ x=>x.elim
  refine codeAny_mono q4 λrr s' z=>?_
  obtain ⟨q40',φ,le,inv,hv,⟨m,hm⟩,oC,dC⟩:=z
  subst q40'
  refine ⟨m,hm,λh' hs=>?_⟩
  refine B7s (A7g (w:=⟨φ,es',s'⟩) inv le hm oC dC hs) λg1 g2 g3 _=>?_
  exact ⟨φ,g1,g2,hv.up g3⟩) λ_ _=>rfl
theorem C2t {elt target iter:Expr} {ifs:List Expr} {scope:Scope} {pos spos py:Pos} {x:CX} {ct:CT} {ci:CI} {cb:CB} {i:Nat} {y:Str} (hset:A0n iter=true) (hz:N8 target=true∨∀ (rn:F5) c ev s it s',ci rn c ev s=.ok it s'->I7 it=true) (Sc:A1f nm scope)
  (hsw:∀ env:PySem.Env,env.scope.names=nm->env.blockKind=.function->swapsWith (.ListComp elt [⟨target,iter,ifs,0⟩] scope pos) (some (.Name y py)) spos.line env=pure true)
  (hi:SI κ rn f n nm ci iter) (hx:SX κ rn f n (G5 nm scope.names) x elt) (ht:TT κ rn f n (G5 nm scope.names) true ct target) (hb:SB κ rn f n (G5 nm scope.names) cb ifs) (hy:SV i y) (hk:nm.lookup y=some .local):
  SS κ rn f n nm (R7 (A4z i) (D3p x ct ci cb)) (.Assign [.Name y py] (.ListComp elt [⟨target,iter,ifs,0⟩] scope pos) spos):=λA c ev env w fl es' hA hc I r hn h=>by
 refine A2 h λv s0 h0 h00=>?_
 refine A2 h00 λev' s9 h8 h9=>?_
 cases h8
 cases h9
 refine A2 h0 λit s1 h1 h2=>?_
 refine A2 h2 λlv s2 h3 h4=>?_
 rw [exec_Assign_Name_used _ _ _ _ (hsw env hn r.block)]
 refine ab (aZ (ab ?_))
 show wpAny _ A (do let _ <- comprehension (.ListComp elt [⟨target,iter,ifs,0⟩] scope pos) scope env _ (newList []) false (eval iter env) (some (assign (.Name y py) env))) _ _ _
 refine ab (af (wpAny_comprehension_free (use:=some (assign (.Name y py) env)) (Q:=λ_ s'=>A1 κ (X4 env) w es' (FR κ env (.nxt ⟨G0 i v ev.ls,ev.cs⟩)) .next s') rfl (g9 hset env) (Sc.clos r hn) Sc.kind Sc.names ?_) (λ_ s' hq=>ag (ag hq)) λ_ _ e=>e)
 refine af (hi A c ev env w it s1 hA hc I r hn h1) (λxv s₁ p=>?_) λ_ _ x=>x
 obtain ⟨φ1,le1,inv1,S⟩:=p
 refine A4c (w0:=w) (w:=⟨φ1,s1,s₁⟩) inv1 S le1 λa own to s₂ inv2 le2 R O hd hto=>?_
 refine af (A4v (elt:=elt) (iter:=iter) (pos:=pos) Sc hx ht hb (w0:=w) (w2:=⟨φ1,s1,s₂⟩) hA hc r hn inv2 (le1.comp le2) R O hd hto (B0n hz h1) h3 h4) (λacc s₃ q3=>?_) λ_ _ x=>x.elim
 refine af q3 (λcenv s₄ q4=>?_) λ_ _ x=>x.elim
 refine codeAny_mono q4 λrr s' z=>?_
 obtain ⟨q42',φ,le,inv,hv,⟨m,hm⟩,oC,dC⟩:=z
 subst q42'
 show wpAny _ A (assign (.Name y py) env acc) _ _ _
 rw [arm_assign_Name]
 have r1:=r.le le
 refine ab (aZ (W1 (noE (af (V9 (X:=X4 env) (w:=⟨φ,es',s'⟩) inv (A3o false env) r1 hy (by unfold aS; rw [hn]; exact hk) hv) (λ_ s₅ p5=>?_) λ_ _ x=>x))))
 obtain ⟨φ2,le5,inv5,r5⟩:=p5
 have frC:∀ b ∈ X4 env,b≠cenv.locals:=λb hb q=>by
  subst q
  rcases aE.mp hb with h | h
  ·refine C5 r.ns λm0 q44' _=>?_; refine U1 q44' λo _ _ ho _=>?_; clear q44'
   rw [<- h,dC] at ho; cases ho
  ·refine C5 (List.mem_map.mp h) λp hp e=>?_
   obtain ⟨⟨vv,o,ho,_⟩,_⟩:=r.cellU _ _ (r.cellA p hp)
   rw [e,dC] at ho; cases ho
 refine U1 (id hm) λoc es0 ep0 hoc qc=>?_
 have hm5:s₅.heap.Ns cenv.locals m:=⟨oc,es0,ep0,le5.keep _ _ hoc (.inr λhx=>frC _ hx rfl) oC.unm,qc⟩
 refine ⟨m,hm5,λh' hs=>?_⟩
 refine B7s (A7g (X:=X4 env) (w:=⟨φ2,es',s₅⟩) inv5 (le.nil.comp le5) hm5 (oC.le le5 ⟨oc,hoc⟩) dC hs) λg1 g2 g3 g4=>?_
 exact ⟨φ2,g1,g2,rfl,g4 _ _ r5 frC⟩
end
section
variable {κ:Kx} {X:List Addr} {w:W}
theorem B4k (I:A7 κ w) {s':ak} {ps:Array Value} (h1:w.es.t.get 1=some .tab) (hk:∀ b ob,b≠κ.tab->w.h.get? b=some ob->s'.heap.get? b=some ob) (hP:s'.heap.get? κ.tab=some { cls:=.none,data:=.fields ps }) (ht:PySem.TriplesOk ps.toList) (hb:c9 w.s s'):
  Le X w ⟨w.φ,w.es,s'⟩/\A7 κ ⟨w.φ,w.es,s'⟩:=by
 refine B5r (I.obj 1 .tab h1) λhn e1 ps0 ho0 _=>?_
 have hu:∀ a,(∀ i,i < w.n->w.φ i≠a)->a≠κ.tab:=λa h q=>h 1 hn (e1.trans q.symm)
 have live:∀ b,(∃ ob,w.h.get? b=some ob)->∃ ob,s'.heap.get? b=some ob:=λb ⟨ob,e⟩=>by
  by_cases hb:b=κ.tab
  ·subst hb; exact ⟨_,hP⟩
  ·exact ⟨ob,hk b ob hb e⟩
 have u:Up w.φ w.n w.h w.φ w.n s'.heap:=⟨λb ob e hT hn=>hk b ob (hu b hn) e,λ_ _=>rfl,λi h1 h2=>absurd h2 (bq.mpr h1),aG _⟩
 refine ⟨⟨λb ob e hx hn=>hk b ob (hu b hn) e,live,λ_ _=>rfl,(λi h1 h2=>absurd h2 (bq.mpr h1)),aG _,rfl,λ_ _=>rfl,aG _,hb.gens,hb.os,hb.drawn⟩,
  ⟨λi o e=>?_,I.inj,λi hi=>live _ (I.lt i hi),λb ob e=>hk b ob (λq=>?_) (I.base b ob e),I.lim,I.fl,I.f1,I.nb,I.sb,I.z0,I.own,I.sec⟩⟩
 ·obtain ⟨hi,r⟩:=I.obj i o e
  by_cases h:i=1
  ·subst h
   have:o=.tab:=by rw [h1] at e; cases e; rfl
   subst this
   exact ⟨hi,e1,ps,by rw [show W.φ ⟨w.φ,w.es,s'⟩ 1=κ.tab from e1]; exact hP,ht⟩
  ·refine ⟨hi,r.up u hi (λ_=>rfl) (λob q=>hk _ ob (λq'=>h (I.inj i 1 hi hn (q'.trans e1.symm))) q) λob q hin=>?_⟩
   refine kEE hin λk l q47'=>?_; clear hin; subst q47'
   refine E2 r λ_ _ hlt _=>?_; clear r
   refine hk _ ob (λq'=>?_) q
   have h2:i + 1=1:=I.inj (i + 1) 1 hlt hn (q'.trans e1.symm)
   have h3:=I.sec i k l e
   rw [h2,h1] at h3; cases h3
 ·have:=I.own 1 (aG _) hn
  rw [e1,<- q,e] at this; cases this
end
section
variable {κ:Kx} {rn:F5} {f n:Nat} {nm:List (Str×aK)}
noncomputable def B8u (nm:List (Str×aK)) (sc:Scope):Bool:=sc.names.all λp=>!(p.2 == .free) || nm.lookup p.1 == some .cell || nm.lookup p.1 == some .free
theorem C9c (KO:U8 κ) {name an:Str} {ap:Pos} {body:List Stmt} {scope:Scope} {pos:Pos} (hx:SV N9 name) (hk:nm.lookup name=some .cell) (hf:B8u nm scope=true):
  SS κ rn f n nm (c6 N9) (.FunctionDef name ⟨[],[⟨an,none,ap⟩],none,[],[],none,[]⟩ body [] none [] scope none name pos):=λA c ev env w fl es' hA hc I r hn h=>by
 refine gO h λo h3 h2=>?_
 refine A2 h2 λu s2 h4 h5=>?_
 have ot:o=.tab/\s2=w.es:=by
  unfold C7m at h4
  induction o using O.casesOn with
  | tab=>exact ⟨rfl,(A3 h4).2⟩
  | _=>exact (A0 h4).elim
 obtain ⟨rfl,rfl⟩:=ot
 cases h5
 refine B5r (I.obj 1 .tab h3) λh1n e1 ps hP ht=>?_
 rw [e1] at hP
 have hcode:=r.code name hx (by rw [hn]; exact hk)
 have hcl:closureFor scope env=pure (f7 env.cells scope.names []):=A1m λp hp he=>by
  have:=aL.mp hf p hp
  simp only [he,Bool.or_eq_true,Bool.not_eq_true',beq_iff_eq] at this
  refine r.cellD p.1 ?_
  rw [hn]
  rcases this with (h | h) | h
  ·cases h
  ·exact .inl h
  ·exact .inr h
 have hg:=KO.glbN.keeps I.base
 have hgP:aX≠κ.tab:=λq=>by
  refine U1 KO.glbN λog es ep ho _=>?_
  have:=I.own 1 (aG _) h1n
  rw [e1,<- q,ho] at this; cases this
 have hb:w.h.BuiltinsAt κ.glb κ.tab:=by
  obtain ⟨bm,ob,b1,b2,b3,b4,b5,b6⟩:=KO.bmain
  exact ⟨bm,ob,b1,b2,b3,b4,I.base _ _ b5,b6⟩
 have C:CodeHd w.h κ.tc κ.tab:=by
  obtain ⟨o,vs,file,tf,flags,tg,inF,text,tt,c1,c2⟩:=KO.tcd
  exact ⟨o,vs,file,tf,flags,tg,inF,text,tt,I.base _ _ c1,c2⟩
 have hki:env.kindOf name=some .cell:=by unfold aS; rw [hn]; exact hk
 have fin:∀ (s':ak) (v:Value),Le [] w ⟨w.φ,w.es,s'⟩->A7 κ ⟨w.φ,w.es,s'⟩->wpAny κ.m A (storeName env name v) (λ_ s''=>A1 κ (X4 env) w w.es (FR κ env (.nxt ⟨ev.ls,G0 N9 .opq ev.cs⟩)) .next s'') D1 s':=λs' v le inv=>by
  refine af (A2x (A:=A) (w:=⟨w.φ,w.es,s'⟩) (v:=.opq) inv (r.le le) hx hki (r.cellD name (.inl (by rw [hn]; exact hk))) (.opq v)) (λ_ s'' p=>?_) λ_ _ x=>x
  obtain ⟨φ2,le2,inv2,r2⟩:=p
  exact ⟨φ2,le.nil.comp le2,inv2,rfl,r2⟩
 refine nestDef_K rfl rfl rfl ?_
 induction hca:codeAmong pos ps.toList using ae with
 | none=>
  refine makeFunction_K hcl r.glob hg hcode C hP ht hca hgP hb λc' ctv doc h' tk hx' hge hlt hrec htb=>?_
  have hb':c9 w.s { w.s with heap:=h'.push (fnMade name (qualnameIn env name name) ⟨[],[⟨an,none,ap⟩],none,[],[],none,[]⟩ body scope (f7 env.cells scope.names []) doc ((κ.glb "__name__").getD .none) c' ctv),toks:=tk }:=⟨rfl,rfl,rfl⟩
  obtain ⟨le,inv⟩:=B4k (X:=[]) I h3 (λb ob hne e=>ai _ (hx' b ob hne e)) (ai _ htb) (by rw [Array.toList_append]; exact PySem.TriplesOk_snoc _ _ _ _ ht) hb'
  exact fin _ _ le inv
 | some cv=>
  refine makeFunction_hit hcl r.glob hg hcode C hP ht hca hb λctv doc h' tk hk' hsz=>?_
  have hk2:∀ b ob,w.h.get? b=some ob->(h'.push ({ cls:=.type "function",data:=.func (fnX name (qualnameIn env name name) ⟨[],[⟨an,none,ap⟩],none,[],[],none,[]⟩ body scope (f7 env.cells scope.names []) .none .none doc ((κ.glb "__name__").getD .none) none cv ctv) }:Obj)).get? b=some ob:=λb ob e=>ai _ (hk' b ob e)
  exact fin _ _ (Le.grow hk2 ⟨rfl,rfl,rfl⟩) (I.grow hk2)
end
section
variable {κ:Kx} {w:W}
theorem A8w {X:List Addr} {w0:W} (I:A7 κ w) (l:Le X w0 w) {D:Addr} {lv:List (V×V)} {v:V} {es':St} (hn:B3b lv w.es=.ok v es') (hD:∃ o,w.h.get? D=some o/\¬ Y6 o) (rd:H4 κ w.φ w.n w.h D lv) (O:N0 κ w D) (hd:w0.h.get? D=none):
  ∃ φ',Le X w0 ⟨φ',es',w.s⟩/\A7 κ ⟨φ',es',w.s⟩/\A4 κ φ' es'.n w.h v (.ref D)/\Up w.φ w.n w.h φ' es'.n w.h:=by
 obtain ⟨hlen,h⟩:=C5x hn
 refine O8 (r8 h) λq48' hle q49'=>?_; subst q48'; subst q49'
 have en:w.n=w.es.n:=rfl
 have u:Up w.φ w.n w.h (W3 w.φ w.n D) (w.n + 1) w.h:=⟨λa o ho _ _=>ho,λi hi=>C7 _ _ (aV hi),λi h1 h2 o ho=>by
  rw [show i=w.n from (by omega),B1] at ho
  refine C5 hD λo' h3 h4=>?_; clear hD
  rw [h3] at ho; cases ho; exact h4,Nat.le_succ _⟩
 have hg:∀ i,(Tr.set (.dict lv) w.es.t w.n).get i=if i=w.n then some (.dict lv) else w.es.t.get i:=λi=>Tr.set_get _ w.es.t w.n i (by show w.es.n < _; omega)
 have last:∀ i,i < w.n + 1->i < w.n∨i=w.n:=λi hi=>by omega
 refine ⟨W3 w.φ w.n D,⟨l.keep,l.live,λi hi=>?_,λi h1 h2=>?_,Nat.le_succ_of_le l.le,l.flo,λi hi=>?_,l.dr,l.gens,l.os,l.drawn⟩,⟨λi o' e=>?_,λi j hi hj e=>?_,λi hi=>?_,I.base,I.lim,Nat.le_succ_of_le I.fl,I.f1,(by show w.es.n + 1<=_; omega),I.sb,(by show W3 w.φ w.n D 0≠_; rw [C7 _ _ (by have:=I.fl; have:=I.f1; omega)]; exact I.z0),λi h1 hi=>?_,λi k lq e=>?_⟩,.ref (bu _) (B1 _ _ _),u⟩
 ·show W3 w.φ w.n D i=_
  rw [C7 _ _ (by have:=l.le; omega)]; exact l.same i hi
 ·show w0.h.get? (W3 w.φ w.n D i)=none
  rcases last i h2 with h3 | h3
  ·rw [C7 _ _ (aV h3)]; exact l.new i h1 h3
  ·rw [h3,B1]; exact hd
 ·show (Tr.set _ w.es.t w.n).get i=_
  have hfl:w.es.f=w0.es.f:=l.flo
  rw [hg,if_neg (by have:=I.fl; show i≠w.es.n; omega)]
  exact l.old i hi
 ·have e':(Tr.set (.dict lv) w.es.t w.n).get i=some o':=e
  rw [hg] at e'
  by_cases hi:i=w.n
  ·subst hi
   rw [if_pos rfl] at e'
   cases e'
   refine ⟨bu _,hlen,?_⟩
   show H4 κ (W3 w.φ w.n D) (w.n + 1) w.h (W3 w.φ w.n D w.n) lv
   rw [B1]
   rcases rd with ⟨ks,hk,hv⟩ | ⟨xs,hk,hv⟩
   ·exact .inl ⟨ks,hk,hv.up u⟩
   ·exact .inr ⟨xs,hk,hv.up u⟩
  ·rw [if_neg hi] at e'
   obtain ⟨h1,h2⟩:=I.obj i o' e'
   exact ⟨Nat.lt_succ_of_lt h1,h2.up u h1 (λ_=>rfl) (λob q=>q) λob q _=>q⟩
 ·have e':W3 w.φ w.n D i=W3 w.φ w.n D j:=e
  rcases last i hi with h1 | h1<;>rcases last j hj with h2 | h2
  ·rw [C7 _ _ (aV h1),C7 _ _ (aV h2)] at e'; exact I.inj i j h1 h2 e'
  ·rw [C7 _ _ (aV h1),h2,B1] at e'; exact absurd e' (O.unm i h1)
  ·rw [h1,B1,C7 _ _ (aV h2)] at e'; exact absurd e'.symm (O.unm j h2)
  ·omega
 ·show ∃ o,w.h.get? (W3 w.φ w.n D i)=some o
  rcases last i hi with h1 | h1
  ·rw [C7 _ _ (aV h1)]; exact I.lt i h1
  ·rw [h1,B1]; exact let ⟨o,ho,_⟩:=hD; ⟨o,ho⟩
 ·show κ.base.get? (W3 w.φ w.n D i)=none
  rcases last i hi with h2 | h2
  ·rw [C7 _ _ (aV h2)]; exact I.own i h1 h2
  ·rw [h2,B1]; exact O.fresh
 ·have e':(Tr.set (.dict lv) w.es.t w.n).get i=some (.inst k lq):=e
  show (Tr.set (.dict lv) w.es.t w.n).get (i + 1)=none
  rw [hg] at e' ⊢
  by_cases h1:i=w.n
  ·rw [if_pos h1] at e'; cases e'
  ·rw [if_neg h1] at e'
   refine M5 (I.obj i _ e') λ_ _ _ h2 _=>?_
   rw [if_neg (by show i + 1≠w.n; omega)]
   exact I.sec i k lq e'
theorem H4.there {φ:Nat->Addr} {n:Nat} {h:Heap} {a:Addr} {l:List (V×V)} (r:H4 κ φ n h a l):∃ o,h.get? a=some o/\¬ Y6 o:=by
 rcases r with ⟨ks,⟨o,es,ep,ho,hc,q⟩,_⟩ | ⟨xs,⟨o,es,ep,ho,hc,q⟩,_⟩
 ·exact ⟨o,ho,λ⟨z,_⟩=>by
   have:=hc.1
   rw [this] at z; simp at z⟩
 ·exact ⟨o,ho,λ⟨z,_⟩=>by
   have:=hc.1
   rw [this] at z; simp at z⟩
theorem A9m {A:aI} {c:Cx} (I:A7 κ w) {a:Addr} {l l':List (V×V)} {k v:V} {key x:Value} (rd:H4 κ w.φ w.n w.h a l) (hl:l.length<=10000) (O:N0 κ w a) (rk:w.vr κ k key) (rv:w.vr κ v x) (h:M4 c k v l=some l') (hu:A.units + 20 < cLine)
  {Q:Unit->ak->Prop} {E:Value->ak->Prop} (q:∀ s',o9 w [a] none s'->G6 κ w [a]->H4 κ w.φ w.n s'.heap a l'->Q () s'):wpAny κ.m A (dictSet a key x) Q E w.s:=by
 obtain ⟨h1,h2⟩:=N1 h
 have hz:(10000:Nat)<=sizeLine:=by decide
 have ol:G6 κ w [a]:=⟨λb hb=>by rw [aB.mp hb]; exact O,λb hb=>by rw [aB.mp hb]; exact rd.there⟩
 have go:∀ {h':Heap} {tk:Nat},bY a w.h h'->o9 w [a] none { w.s with heap:=h',toks:=tk }:=λhb=>o9.one_but (λc o hc ho=>(hb.2 c hc).trans ho) ⟨rfl,rfl,rfl⟩
 rcases H7 h1 rk with ⟨h3,at',h4,h5⟩ | ⟨h3,dd,at',h4,rfl,h5,h6⟩
 ·refine C5 (H3 rd (L0 h2) h3) λks hm hv=>?_
  refine L8 (id hm) λ_ _ _ _ _ _ _ _ hnd=>?_
  refine wpAny_dictSet_pairs (knd:=C0 κ.prog κ.wld) h5 hm (λh' hm' hb=>?_) (by rw [<- hv.length]; omega)
  have ch:=go (tk:=w.s.toks + 1) hb
  exact q _ ch ol (.inl ⟨_,hm',X0 (c:=c) h4 (rv.up (ch.up ol)) (hv.up (ch.up ol)) hnd h2⟩)
 ·refine C5 (L7 rd (L0 h2) h3) λxs hm hv=>?_
  refine K0 (id hm) λ_ _ _ _ _ _ _ hnd=>?_
  refine @wpAny_dictSet_heap κ.prog κ.wld PyData K2 (y5 κ.prog κ.wld) A E w.s a at' xs dd x _ (by show A.units + 8 < _; omega) ⟨h5,h6⟩ (O9 hm hv) (λh' hm' hb=>?_) (by rw [<- hv.length]; omega)
  have ch:Up w.φ w.n w.h w.φ w.n h':=(go (tk:=0) hb).up ol
  refine L8 hm' λo es ep q1 q2 q3 q4 q5 q6=>?_; clear hm'
  exact q _ (go hb) ol (.inr ⟨_,⟨o,es,ep,q1,q2,q3,q4,q6⟩,f6 (c:=c) h4 h1 h3 (rk.up ch) (rv.up ch) (hv.up ch) hnd h2⟩)
end
section
variable (κ:Kx) (rn:F5) (f n:Nat) (nm:List (Str×aK))
inductive SDs:CD->List (Option Expr)->List Expr->Prop
 | nil:SDs E9z [] []
 | cons {a b:CX} {d:CD} {k v:Expr} {ks:List (Option Expr)} {vs:List Expr}:SX κ rn f n nm a k->SX κ rn f n nm b v->SDs d ks vs->SDs (C7a a b d) (some k::ks) (v::vs)
end
theorem oR {α β:Type} {x:Option α} {f:α->Option β} {b:β} {G:Prop} (h:@Option.rec α (λ_=>Option β) none f x=some b) (k:∀ a,x=some a->f a=some b->G):G:=by
 induction x using ae with
 | none=>cases h
 | some a=>exact k a rfl h
theorem oI {β:Type} {e:Bool} {x y:Option β} {b:β} {G:Prop} (h:D5 e x y=some b) (k:x=some b->G) (q:y=some b->G):G:=by
 induction e using ao with
 | true=>exact k h
 | false=>exact q h
theorem l9 {c:Cx} {k v:V} {l:List (V×V)}:∀ {r:List (V×V)},G2 c k v l=some r->r.length<=l.length + 1:=by
 induction l with
 | nil=>exact λh=>oI h (λh=>ac h ▸ aG 1) λh=>nomatch h
 | cons p t ih=>exact λh=>oR h λe _ h=>oI h (λh=>ac h ▸ Nat.le_succ _) λh=>oR h λr' hs h=>ac h ▸ Nat.succ_le_succ (ih hs)
section
variable {κ:Kx} {X:List Addr}
theorem B2l {A:aI} {c:Cx} {w0:W} {φ:Nat->Addr} {es:St} {a:Addr} (hd:w0.h.get? a=none) (hu:A.units + 20 < cLine) (ps:List (V×V)):∀ (vs:List (Value×Value)) (l l':List (V×V)) (s:ak),
  A7 κ ⟨φ,es,s⟩->Le X w0 ⟨φ,es,s⟩->N0 κ ⟨φ,es,s⟩ a->VRels κ φ es.n s.heap (ps.map (·.1)) (vs.map (·.1))->VRels κ φ es.n s.heap (ps.map (·.2)) (vs.map (·.2))->H4 κ φ es.n s.heap a l->l.length + ps.length<=10000->B2i c l ps=some l'->
  wpAny κ.m A (storeAll a vs) (λ_ s'=>A7 κ ⟨φ,es,s'⟩/\Le X w0 ⟨φ,es,s'⟩/\H4 κ φ es.n s'.heap a l') D1 s:=by
 induction ps with
 | nil=>
  intro vs
  induction vs using av with
  | nil=>exact λl l' s I le O hk hv rd hl h=>ag (a:=PUnit.unit) ⟨I,le,ac h ▸ rd⟩
  | cons=>exact λ_ _ _ _ _ _ hk=>nomatch hk
 | cons p ps ih=>
  intro vs
  induction vs using av with
  | nil=>exact λ_ _ _ _ _ _ hk=>nomatch hk
  | cons x vs=>
   intro l l' s I le O hk hv rd hl h
   have hl:l.length + 1 + ps.length<=10000:=aJ (Nat.le_of_eq (Nat.succ_add l.length ps.length)) hl
   refine oR h λd hp h=>?_
   unfold storeAll
   rw [List.forIn_cons]
   refine ab (ab (A9m (w:=⟨φ,es,s⟩) I rd (aJ (aJ (Nat.le_succ _) (bJ _ _)) hl) O hk.hdtl.1 hv.hdtl.1 hp hu λs' ch ol rd'=>ag ?_))
   exact ih vs d l' s' (ch.inv ol I) (ch.last ol le (λb hb=>by rw [aB.mp hb]; exact hd) (λ_ e=>nomatch e)) ⟨O.unm,O.fresh⟩ (hk.hdtl.2.up (ch.up ol)) (hv.hdtl.2.up (ch.up ol)) rd' (aJ (Nat.add_le_add_right (l9 (N1 hp).2) _) hl) h
end
section
variable {κ:Kx} {rn:F5} {f n:Nat} {nm:List (Str×aK)}
noncomputable def PRs (κ:Kx) (ps:List (V×V)):W->List (Value×Value)->Prop:=λw vs=>w.vrs κ (ps.map (·.1)) (vs.map (·.1))/\w.vrs κ (ps.map (·.2)) (vs.map (·.2))
theorem B5h {pos:Pos} {A:aI} {c:Cx} {ev:Mine.Env} {env:PySem.Env} (hA:B7 A f n) (hc:D9 κ c) (hn:env.scope.names=nm) {d:CD} {ks:List (Option Expr)} {vs:List Expr} (hd:SDs κ rn f n nm d ks vs):∀ w ps es',A7 κ w->C8 κ w ev env->d rn c ev w.es=.ok ps es'->
  wpAny κ.m A (evalPairs (pairTrees ks vs env pos)) (A1 κ [] w es' (PRs κ ps)) D1 w.s:=by
 induction hd with
 | nil=>exact λw ps es' I r h=>N3 (P:=λps es'=>wpAny κ.m A (evalPairs (pairTrees [] [] env pos)) (A1 κ [] w es' (PRs κ ps)) D1 w.s) h (ag (A1.here I ⟨.nil,.nil⟩))
 | @cons a b d k v ks vs ha hb hd ih=>
  intro w ps es' I r h
  refine A2 h λx s1 h1 h2=>A2 h2 λy s2 h3 h4=>A2 h4 λl s3 h5 h6=>?_
  clear h h2 h4
  unfold pairTrees evalPairs
  refine ab (af (ha A c ev env w hA hc I r hn x s1 h1) (λxv s₁ p1=>?_) λ_ _ x=>x)
  induction p1 using A1.casesOn with
  | mk φ1 le1 inv1 r1=>
  refine ab (aF (ab (af (hb A c ev env ⟨φ1,s1,s₁⟩ hA hc inv1 (r.le le1) hn y s2 h3) (λyv s₂ p2=>?_) λ_ _ x=>x)))
  induction p2 using A1.casesOn with
  | mk φ2 le2 inv2 r2=>
  refine ab (aZ (ag (ab (aF (af (ih ⟨φ2,s2,s₂⟩ l s3 inv2 (r.le (le1.comp le2)) h5) (λrest s₃ p3=>ag ?_) λ_ _ x=>x)))))
  induction p3 using A1.casesOn with
  | mk φ3 le3 inv3 r3=>exact N3 (P:=λps es'=>A1 κ [] w es' (PRs κ ps) ((xv,yv)::rest) s₃) h6 ⟨φ3,(le1.comp le2).comp le3,inv3,.cons (le3.vr (le2.vr r1)) r3.1,.cons (le3.vr r2) r3.2⟩
theorem SDs.shape {d:CD} {ks:List (Option Expr)} {vs:List Expr} (h:SDs κ rn f n nm d ks vs):ks.all (·.isSome)=true/\ks.length=vs.length:=by
 induction h with
 | nil=>exact ⟨rfl,rfl⟩
 | cons _ _ _ ih=>exact ⟨by simp only [bL,Option.isSome_some,Bool.true_and]; exact ih.1,by simp [ih.2]⟩
theorem SDs.len {d:CD} {ks:List (Option Expr)} {vs:List Expr} (hd:SDs κ rn f n nm d ks vs):∀ {c:Cx} {ev:Mine.Env} {s s':St} {ps:List (V×V)},d rn c ev s=.ok ps s'->ps.length=ks.length:=by
 induction hd with
 | nil=>intro c ev s s' ps h; cases h; rfl
 | cons _ _ _ ih=>
  intro c ev s s' ps h
  refine A2 h λx s1 h1 h2=>?_
  refine A2 h2 λy s2 h3 h4=>?_
  refine A2 h4 λl s3 h5 h6=>?_
  cases h6
  simp [ih h5]
theorem C9h {d:CD} {ks:List (Option Expr)} {vs:List Expr} {pos} (hlen:ks.length<=15) (hd:SDs κ rn f n nm d ks vs):SE κ rn f n nm (E8h d) (.Dict ks vs pos):=
 SE.value (λA c ev env w hA hc I r hn v es' h=>by
  refine A2 h λps s1 h1 h2=>?_
  refine B8 (s:=s1) h2 λd' s2 h3 h4=>?_
  obtain ⟨h5,e2⟩:=D6 h3
  subst e2
  have hk:∀ b ob,w.h.get? b=some ob->(w.h.push { cls:=.type "dict",data:=.dict #[] }).get? b=some ob:=C9 _
  have I1:A7 κ ⟨w.φ,w.es,{ w.s with heap:=w.h.push { cls:=.type "dict",data:=.dict #[] } }⟩:=I.grow hk
  have L1:Le [] w ⟨w.φ,w.es,{ w.s with heap:=w.h.push { cls:=.type "dict",data:=.dict #[] } }⟩:=Le.grow hk ⟨rfl,rfl,rfl⟩
  have ha:w.h.get? w.h.objs.size=none:=B5
  have hob:(w.h.push { cls:=.type "dict",data:=.dict #[] }).get? w.h.objs.size=some { cls:=.type "dict",data:=.dict #[] }:=ax _ rfl
  have O:N0 κ ⟨w.φ,w.es,{ w.s with heap:=w.h.push { cls:=.type "dict",data:=.dict #[] } }⟩ w.h.objs.size:=⟨I.ne_new ha,I.fresh ha⟩
  have rd0:∀ (φ:Nat->Addr) (m:Nat) (h:Heap),h.get? w.h.objs.size=some { cls:=.type "dict",data:=.dict #[] }->H4 κ φ m h w.h.objs.size []:=λφ m h hh=>
   .inl ⟨[],Heap.DictOf.at (Heap.DictOf.new w.h) (λo ho=>by rw [hob] at ho; cases ho; exact hh),.nil⟩
  cases hd with
  | nil=>
   cases h1
   have e5:([]:List (V×V))=d':=by unfold B2i at h5; exact ac h5
   subst e5
   refine wpAny_Dict_empty ?_
   refine A3b (A8w I1 L1 h4 ⟨_,hob,λ⟨q,_⟩=>by simp at q⟩ (rd0 _ _ _ hob) O ha) λφ' le inv hr _=>?_
   exact ⟨φ',le,inv,hr⟩
  | cons h6 h7 h8=>
   have hd:=SDs.cons h6 h7 h8
   have hps:=hd.len h1
   refine wpAny_Dict_any hd.shape.1 hd.shape.2 (by simp) hlen ?_
   refine af (B5h hA hc hn hd ⟨w.φ,w.es,{ w.s with heap:=w.h.push { cls:=.type "dict",data:=.dict #[] } }⟩ ps s2 I1 (r.le L1) h1) (λxs s₁ p=>?_) λ_ _ x=>x
   obtain ⟨φ1,le1,inv1,hk1,hv1⟩:=p
   have hob1:=le1.keep _ _ hob (.inr (by simp)) O.unm
   refine af (B2l (w0:=w) (φ:=φ1) (es:=s2) ha (by have:=hA.line; omega) ps xs [] d' s₁ inv1 (L1.comp le1) (O.le le1 ⟨_,hob⟩) hk1 hv1 (rd0 _ _ _ hob1) (by rw [List.length_nil]; omega) h5) (λ_ s₂ z=>?_) λ_ _ x=>x
   refine O8 z λinv2 le2 rd2=>?_; clear z
   have O2:N0 κ ⟨φ1,s2,s₂⟩ w.h.objs.size:=⟨(O.le le1 ⟨_,hob⟩).unm,O.fresh⟩
   refine A3b (A8w inv2 le2 h4 rd2.there rd2 O2 ha) λφ' le inv hr _=>?_
   exact ⟨φ',le,inv,hr⟩) λ_ _=>rfl
end
noncomputable def q8:Nat->Option Value
 | 0=>some (.builtin "len") | 2=>some (.type "list") | 3=>some (.type "tuple") | 4=>some (.type "dict") | 6=>some (.type "int") | 7=>some (.type "str") | 8=>some (.builtin "sorted") | 9=>some (.builtin "sum") | 11=>some (.type "bool")
 | _=>none
theorem t5 {P:Nat->Value->Prop} {k:Nat} {bv:Value} (h:q8 k=some bv) (p0:P 0 (.builtin "len")) (p2:P 2 (.type "list")) (p3:P 3 (.type "tuple")) (p4:P 4 (.type "dict")) (p6:P 6 (.type "int")) (p7:P 7 (.type "str")) (p8:P 8 (.builtin "sorted")) (p9:P 9 (.builtin "sum")) (p11:P 11 (.type "bool")):P k bv:=by
 cases k with
 | zero=>exact ac h ▸ p0
 | succ k=>cases k with
  | zero=>exact U6 h
  | succ k=>cases k with
   | zero=>exact ac h ▸ p2
   | succ k=>cases k with
    | zero=>exact ac h ▸ p3
    | succ k=>cases k with
     | zero=>exact ac h ▸ p4
     | succ k=>cases k with
      | zero=>exact U6 h
      | succ k=>cases k with
       | zero=>exact ac h ▸ p6
       | succ k=>cases k with
        | zero=>exact ac h ▸ p7
        | succ k=>cases k with
         | zero=>exact ac h ▸ p8
         | succ k=>cases k with
          | zero=>exact ac h ▸ p9
          | succ k=>cases k with
           | zero=>exact U6 h
           | succ k=>cases k with
            | zero=>exact ac h ▸ p11
            | succ k=>exact U6 h
noncomputable def E5x (n:Nat):Bool:=let x:=aa (toString (aQ n)); t6 x.cps.toList && aA (E4 x.cps.toList) (if n < 10 then 48 + n else (48 + n / 10) * 256 + (48 + n % 10))
theorem C1c:(List.range 100).all E5x=true:=by decide +kernel
theorem D4t {n:Nat} (h:n < 100):SV (A9d n) (aa (toString (aQ n))):=by
 have:=aL.mp C1c n (List.mem_range.mpr h)
 unfold E5x at this
 simp only [az] at this
 refine ⟨this.1,?_⟩
 rw [aw this.2]
 unfold A9d
 rw [E1]
 by_cases h9:n < 10
 ·rw [if_pos h9,if_pos (show Nat.blt n 10=true from Nat.ble_eq.mpr h9)]; rfl
 ·rw [if_neg h9,if_neg (show ¬ Nat.blt n 10=true from λq=>h9 (aj q))]; rfl
theorem A6l {κ:Kx} {φ:Nat->Addr} {n:Nat} {h:Heap} {l:List V} {vs:List Value} (r:VRels κ φ n h l vs):∀ {ks:List Int},litsOf l=some ks->IntsAre vs ks:=
 VRels.ind (P:=λl vs=>∀ {ks:List Int},litsOf l=some ks->IntsAre vs ks) (λe=>ac e ▸ .nil) (λ{v x l xs} a _ ih ks e=>E6 e λm hm e=>E6 e λks' hk e=>ac e ▸ O0 (P:=λx=>IntsAre (x::xs) (m::ks')) hm a λt=>.cons _ _ (ih hk)) r
theorem i3 (k:Int):∀ l:List Int,(B1z k l).Perm (k::l)
 | []=>List.Perm.refl _
 | a::r=>by
  unfold B1z
  rw [E1]
  split
  ·exact List.Perm.refl _
  ·exact ((i3 k r).cons a).trans (List.Perm.swap k a r)
theorem m3 (k:Int):∀ l:List Int,l.Pairwise (·<=·)->(B1z k l).Pairwise (·<=·)
 | [],_=>List.pairwise_singleton _ _
 | a::r,h=>by
  rw [bC] at h
  unfold B1z
  rw [E1]
  split
  ·rename_i hk
   have hk:=(N2 _ _).mp hk
   refine bC.mpr ⟨λx hx=>?_,bC.mpr h⟩
   rcases aE.mp hx with rfl | hx
   ·omega
   ·have:=h.1 x hx; omega
  ·rename_i hk
   have hk:¬ k < a:=λq=>hk ((N2 _ _).mpr q)
   refine bC.mpr ⟨λx hx=>?_,m3 k r h.2⟩
   rcases aE.mp ((i3 k r).mem_iff.mp hx) with rfl | hx
   ·omega
   ·exact h.1 x hx
theorem A1g:∀ l:List Int,(Mine.A5n l).Perm l
 | []=>List.Perm.refl _
 | a::r=>(i3 a _).trans ((A1g r).cons a)
theorem Z9:∀ l:List Int,(Mine.A5n l).Pairwise (·<=·)
 | []=>List.Pairwise.nil
 | a::r=>m3 a _ (Z9 r)
theorem B7w {κ:Kx} {φ:Nat->Addr} {n:Nat} {h:Heap} {vs:List Value} {ks:List Int} (r:IntsAre vs ks):VRels κ φ n h (ks.map λk=>.int (.lit k)) vs:=by
 induction r with
 | nil=>exact .nil
 | cons k t _ ih=>exact .cons (.int rfl) ih
theorem B2m {κ:Kx} {φ:Nat->Addr} {n:Nat} {h:Heap} {l:List (V×V)} {ks:List (D2×Value)} (r:j8 κ φ n h l ks):∀ {vs:List Value} {is:List Int},vs.length=ks.length->(∀ (j:Nat) (v:Value),vs[j]?=some v->∃ k x,ks[j]?=some (k,x)/\D2.is k v=true)->litsOf (l.map (·.1))=some is->IntsAre vs is:=by
 induction r with
 | nil=>
  intro vs is hl _ e
  cases vs with
  | nil=>exact ac e ▸ .nil
  | cons _ _=>cases hl
 | cons ha hv hr ih=>
  intro vs is hl hj e
  induction vs using av with
  | nil=>cases hl
  | cons v vs=>
   refine E6 e λm hm e=>E6 e λks' hk e=>ac e ▸ ?_
   cases t9 hm
   cases ha
   refine C2k (hj 0 v rfl) λk0 x0 h1 h2=>?_
   cases h1
   rcases D2.is_shape h2 with ⟨m',t,e1,rfl⟩ | ⟨x,t,e1,_⟩
   ·cases e1
    exact .cons _ _ (ih (Nat.succ.inj hl) (λj u hu=>hj (j + 1) u hu) hk)
   ·cases e1
inductive A8u:List V->List Str->Prop
 | nil:A8u [] []
 | cons {m:Nat} {x:Str} {l:List V} {xs:List Str}:SV m x->A8u l xs->A8u (.str m::l) (x::xs)
theorem B1w {κ:Kx} {φ:Nat->Addr} {n:Nat} {h:Heap} {l:List (V×V)} {ks:List (D2×Value)} (r:j8 κ φ n h l ks):∀ {ms:List Nat} {vs:List Value},l.map (·.1)=ms.map V.str->vs.length=ks.length->(∀ (j:Nat) (v:Value),vs[j]?=some v->∃ k x,ks[j]?=some (k,x)/\D2.is k v=true)->∃ xs,StrsAre vs xs/\A8u (l.map (·.1)) xs:=by
 induction r with
 | nil=>
  intro ms vs _ hl _
  cases vs with
  | nil=>exact ⟨[],.nil,.nil⟩
  | cons _ _=>cases hl
 | cons ha hv hr ih=>
  intro ms vs e hl hj
  induction ms using av with
  | nil=>cases e
  | cons m ms=>induction vs using av with
   | nil=>cases hl
   | cons v vs=>
    obtain ⟨e1,e2⟩:=List.cons.inj e
    cases (show _=V.str m from e1)
    cases ha with
    | str hx=>
     refine C5 (ih e2 (Nat.succ.inj hl) λj u hu=>hj (j + 1) u hu) λxs h3 h4=>?_
     refine C2k (hj 0 v rfl) λk0 x0 h1 h2=>?_
     cases h1
     rcases D2.is_shape h2 with ⟨m',t,e1,_⟩ | ⟨x,t,e1,rfl⟩
     ·cases e1
     ·cases e1
      exact ⟨_,.cons _ t h3,.cons hx h4⟩
theorem q0 {h:Heap} {a:Addr} {vs:List Value} {out:Array Value} (b:Addr) (ob:Obj) (hb:b≠a) (e:h.get? b=some ob):(sortedHeap h a vs out).get? b=some ob:=by
 unfold sortedHeap
 rw [ce _ _ (Ne.symm hb)]
 refine ai _ (ai _ ?_)
 rw [ce _ _ (Ne.symm hb)]; exact e
theorem r7 {h:Heap} {a:Addr} {vs:List Value} {out xs:Array Value} {n:Nat} (ho:h.get? a=some (seqObj "list" xs n)):(sortedHeap h a vs out).PlainList a out:=by
 unfold sortedHeap
 have h1:=get?_update_seq ho (λ_=>#[])
 have h2:=ai (seqObj "list" #[] 0) (ai (seqObj "tuple" vs.toArray 0) h1)
 exact ⟨_,get?_update_seq h2 (λ_=>out)⟩
theorem C0c {x y:Str} {xs':List Str} (hx:SV 7106423 x) (hy:SV 1751738216 y) (hp:xs'.Perm [x,y]) (hs:sortedS xs'=true):A8u [.str 1751738216,.str 7106423] xs':=by
 have ex:=SV.inj hx (show SV 7106423 (aa "low") from ⟨by decide,by decide⟩)
 have ey:=SV.inj hy (show SV 1751738216 (aa "high") from ⟨by decide,by decide⟩)
 have hlen:=hp.length_eq
 obtain ⟨a,b,rfl⟩:∃ a b,xs'=[a,b]:=by
  cases xs' with
  | nil=>cases hlen
  | cons a l=>cases l with
   | nil=>cases hlen
   | cons b l=>induction l using av with
    | nil=>exact ⟨a,b,rfl⟩
    | cons _ _=>cases hlen
 have ha:a ∈ [x,y]:=hp.mem_iff.mp aP
 rcases aE.mp ha with rfl | ha
 ·have:=List.perm_singleton.mp (hp.cons_inv)
  cases this
  subst ex ey
  exact absurd hs (by decide +kernel)
 ·have ha:=aB.mp ha
  subst ha
  have:=List.perm_singleton.mp ((hp.trans (List.Perm.swap _ _ _)).cons_inv)
  cases this
  exact .cons hy (.cons hx .nil)
section
variable {κ:Kx} {A:aI} {w:W}
theorem B2b (hh:A.handled=none) (I:A7 κ w) {i:Nat} {l:List (V×V)} (hg:w.es.t.get i=some (.dict l)) {v:V} {es':St} (h:B5z (l.map (·.1)) w.es=.ok v es'):
  wpAny κ.m A (call (.builtin "sorted") [.ref (w.φ i)]) (A1 κ [] w es' (E5 κ v)) D1 w.s:=by
 obtain ⟨hi,hlen,rd⟩:=I.obj _ _ hg
 have hat:∃ ks,w.h.DictOf (C0 κ.prog κ.wld) (w.φ i) ks/\j8 κ w.φ w.n w.h l ks:=by
  rcases rd with q | ⟨xs,hd,hk⟩
  ·exact q
  ·cases hk with
   | nil=>exact ⟨[],A2g hd,.nil⟩
   | @cons k _ _ _ _ _ _ h1 h2 h3 h4 h5 h6=>
    exfalso
    induction k using V.casesOn with
    | tup q=>exact (A0 (s:=w.es) h).elim
    | _=>cases h3
 obtain ⟨ks,hm,hv⟩:=hat
 obtain ⟨ep,hD⟩:=hm.dictAt
 have hkl:l.length=ks.length:=by
  have:∀ {l:List (V×V)} {ks:List (D2×Value)},j8 κ w.φ w.n w.h l ks->l.length=ks.length:=by
   intro l ks q
   induction q with
   | nil=>rfl
   | cons _ _ _ ih=>simp [ih]
  exact this hv
 refine Calls.call_function_entry kind_sorted plain_sorted entry_sorted (args_sorted1 _) ?_
 unfold Builtin.«sorted»
 refine ab (m:=checkCount "sorted" 1 1 _) (ag ?_)
 refine ab (kdu_collect (A:=A.in1) (kdl_dict (knd:=C0 κ.prog κ.wld) (kvs:=ks) (ep:=ep) (I.sm hi)) hh hD (kdl_size (by omega)) λh' tk acc hk hacc=>?_)
 have hsz:acc.toList.length=ks.length:=by rw [am]; exact hacc.1
 have hj:∀ j u,acc.toList[j]?=some u->∃ k x,ks[j]?=some (k,x)/\D2.is k u=true:=λj u e=>hacc.2 j u (by rw [<- Array.getElem?_toList]; exact e)
 refine ab (wpAny_newList ?_ (by rw [hsz]; exact kdl_size (by omega)))
 have hoL:(h'.push { cls:=.type "list",data:=.seq acc.toList.toArray }).get? h'.objs.size=some (seqObj "list" acc.toList.toArray 0):=ax _ rfl
 have hold:∀ b ob,w.h.get? b=some ob->b≠h'.objs.size:=λb ob e=>aV (Heap.lt_size (hk b ob e))
 have hnew:w.h.get? h'.objs.size=none:=by
  induction e:w.h.get? h'.objs.size using ae with
  | none=>rfl
  | some o=>exact absurd rfl (hold _ o e)
 have fin:∀ (out:Array Value) (r:List V) (tk':Nat),w.vrs κ r out.toList->K4 r w.es=.ok v es'->A1 κ [] w es' (E5 κ v) (.ref h'.objs.size) { w.s with heap:=sortedHeap (h'.push { cls:=.type "list",data:=.seq acc.toList.toArray }) h'.objs.size acc.toList out,toks:=tk' }:=λout r tk' hr hn=>
  have k1:∀ b ob,w.h.get? b=some ob->(sortedHeap (h'.push { cls:=.type "list",data:=.seq acc.toList.toArray }) h'.objs.size acc.toList out).get? b=some ob:=λb ob e=>q0 b ob (hold b ob e) (ai _ (hk b ob e))
  have k2:(sortedHeap (h'.push { cls:=.type "list",data:=.seq acc.toList.toArray }) h'.objs.size acc.toList out).PlainList h'.objs.size out:=r7 hoL
  F2 (items:=out) I hr hn k1 hnew k2 ⟨rfl,rfl,rfl⟩
 have hints:∀ is,litsOf (l.map (·.1))=some is->IntsAre acc.toList is:=λis his=>B2m hv hsz hj his
 refine ab (aF ?_)
 have go:∀ (r:List V) (ms:List Nat),l.map (·.1)=ms.map V.str->acc.toList.length < 64->(∀ xs xs',A8u (l.map (·.1)) xs->xs'.Perm xs->sortedS xs'=true->A8u r xs')->K4 r w.es=.ok v es'->
   wpAny κ.m A.in1 (call (.builtin "list.sort") [.ref h'.objs.size]) (λ_ s'=>wpAny κ.m A.in1 (pure (Fin.done (.ret (.ref h'.objs.size)))) (λfin s'=>∃ v_1,fin=.done (.ret v_1)/\A1 κ [] w es' (E5 κ v) v_1 s') D1 s') D1 { w.s with heap:=h'.push { cls:=.type "list",data:=.seq acc.toList.toArray },toks:=tk }:=λr ms hst h64 hr hn=>by
  refine C5 (B1w hv hst hsz hj) λxs hS hK=>?_
  refine bx slot_list_sort ⟨_,hoL,rfl⟩ entry_list_sort (list_sort_treeK strKind_oneLt hoL hS.keysOf (λv₁ v₂ rest e=>keyKind_strs (by rw [<- e]; exact hS)) h64 λst' hp hs=>⟨_,rfl,?_⟩) (args_list_sort _)
  refine E2 (sorted_out_str hS hp hs) λss' h1 h2 h3=>?_
  refine ag ⟨_,rfl,fin _ r tk ?_ hn⟩
  have hq:=hr xs ss' hK h2 h3
  clear hr hn h2 h3
  revert h1
  generalize (Array.map (·.2) (arrOf st')).toList=out
  intro h1
  induction hq generalizing out with
  | nil=>cases h1; exact .nil
  | cons hx _ ih=>cases h1 with
   | cons y t q=>exact .cons (.str hx) (ih _ q)
 clear I hm hD hv hg
 have len:∀ ms:List Nat,l.map (·.1)=ms.map V.str->ms.length < 64->acc.toList.length < 64:=λms e q=>by
  have:=congrArg List.length e
  rw [List.length_map,List.length_map] at this
  rw [hsz,<- hkl,this]; exact q
 unfold B5z at h
 induction his:litsOf (l.map (·.1)) using ae with
 | some is=>
  rw [his] at h
  refine cF (s:=w.es) h λhb h=>?_
  have hil:=hints is his
  have h64:is.length < 64:=S7 is ▸ aj hb
  refine bx slot_list_sort ⟨_,hoL,rfl⟩ entry_list_sort (list_sort_tree hoL hil (by rw [IntsAre.length hil]; exact h64) λout ns' a1 a2 a3=>⟨_,rfl,?_⟩) (args_list_sort _)
  refine ag ⟨_,rfl,fin out _ tk ?_ h⟩
  have:ns'=Mine.A5n is:=lks_uniq (a2.trans (A1g is).symm) a3 (Z9 is)
  rw [<- this]
  exact B7w a1
 | none=>
  rw [his] at h
  refine cI (s:=w.es) h (λhb h=>go _ _ (I0 hb) (len _ (I0 hb) (by decide)) (λxs xs' hK hp _=>?_) h) λ_ h=>cF h λhb h=>go _ _ (I0 hb) (len _ (I0 hb) (by decide)) (λxs xs' hK hp hs=>?_) h
  ·rw [I0 hb] at hK
   cases hK with
   | cons hx hn=>
    cases hn
    rw [List.perm_singleton.mp hp]
    exact .cons hx .nil
  ·rw [I0 hb] at hK
   cases hK with
   | cons hx hn=>
    cases hn with
    | cons hy hn=>
     cases hn
     exact C0c hx hy hp hs
theorem C1g (I:A7 κ w) {u:V} {x:Value} (ra:w.vr κ u x) {v:V} {es':St} (h:E5n u w.es=.ok v es'):wpAny κ.m A (call (.builtin "len") [x]) (A1 κ [] w es' (E5 κ v)) D1 w.s:=by
 induction ra using A4.el with
 | @tup lv a o items e h1 h2 h3 h4 h5 h6=>
  have hs:lv.length=items.size:=h6.length.trans am
  exact P6 h (len_tuple (G7 h1 h2 h3) (by omega) (A1.toks I (.int (by rw [hs]; rfl))))
 | ref hk e=>
  refine gOn h λo h3 h2=>?_
  subst e
  induction o using O.casesOn with
  | list l=>
   refine E2 (I.obj _ _ h3).2 λitems hl hlen hv=>?_
   have hs:l.length=items.size:=hv.length.trans am
   exact P6 h2 (Calls.call_len_list hl.isList (by omega) (A1.toks I (.int (by rw [hs]; rfl))))
  | _=>exact (A0 (s:=w.es) h2).elim
 | _=>exact (A0 (s:=w.es) h).elim
theorem C5a (I:A7 κ w) {u:V} {x:Value} (ra:w.vr κ u x) {v:V} {es':St} (h:E7n u w.es=.ok v es'):wpAny κ.m A (call (.type "int") [x]) (A1 κ [] w es' (E5 κ v)) D1 w.s:=by
 induction ra using A4.el with
 | int e=>exact P6 h (call_int_int (A1.here I (.int e)))
 | bool b=>exact P6 h (call_int_bool (A1.toks I (.int (by cases b<;>rfl))))
 | _=>exact (A0 (s:=w.es) h).elim
theorem C0x (I:A7 κ w) {u:V} {x:Value} (ra:w.vr κ u x) {v:V} {es':St} (h:F0y u w.es=.ok v es'):wpAny κ.m A (call (.type "str") [x]) (A1 κ [] w es' (E5 κ v)) D1 w.s:=by
 refine lfn (s:=w.es) h λz hz h=>O0 (P:=λx=>wpAny κ.m A (call (.type "str") [x]) (A1 κ [] w es' (E5 κ v)) D1 w.s) hz ra λt=>?_
 cases z with
 | negSucc n=>exact (A0 (s:=w.es) h).elim
 | ofNat n=>
  refine cF (s:=w.es) h λhn h=>P6 h (P.str_of_int ?_ (A1.toks I (.str (D4t (aj hn)))))
  have hn:n < 100:=aj hn
  have:(aQ n).natAbs=n:=rfl
  rw [this]
  have h2:Nat.log2 n<=n:=Nat.log2_le_self n
  omega
theorem C4i (hh:A.handled=none) (I:A7 κ w) {u:V} {x:Value} (ra:w.vr κ u x) {v:V} {es':St} (h:D9e u w.es=.ok v es'):wpAny κ.m A (call (.builtin "sum") [x]) (A1 κ [] w es' (E5 κ v)) D1 w.s:=
 B1u (P:=λx=>wpAny κ.m A (call (.builtin "sum") [x]) (A1 κ [] w es' (E5 κ v)) D1 w.s) I ra h λi l items _ _ hl _ hv h=>lfn h λks hks h=>P6 h (by
  have hi:=A6l hv hks
  obtain ⟨q,hq⟩:=(hi.allInts).items
  have hq:items=intItems q:=by rw [<- hq]
  subst hq
  refine sum_intListG hh hl.isList λh' tk t' hk=>?_
  have e:preSum (numAt q) q.size=ks.foldl Int.add 0:=by
   have h5:=hi.numsOf
   rw [nums_intItems] at h5
   rw [preSum_eq,cc (by simp),h5]
   rw [List.sum_eq_foldl]; rfl
  exact ⟨w.φ,Le.grow hk ⟨rfl,rfl,rfl⟩,I.grow hk,.int (by rw [e]; rfl)⟩)
theorem A7r (hh:A.handled=none) (I:A7 κ w) {k:Nat} {bv:Value} (hb:q8 k=some bv) {vs:List V} {xs:List Value} (r:w.vrs κ vs xs) {v:V} {es':St} (h:builtin k vs w.es=.ok v es'):
  wpAny κ.m A (call bv xs) (A1 κ [] w es' (E5 κ v)) D1 w.s:=by
 induction vs using av with
 | nil=>exact (A0 (s:=w.es) h).elim
 | cons u vs=>induction vs using av with
  | cons _ _=>exact (A0 (s:=w.es) h).elim
  | nil=>
   induction r using VRels.elC with
   | cons ra rb=>
    induction rb using VRels.elE with
    | nil=>
     revert h
     exact t5 (P:=λk bv=>bfn k u w.es=.ok v es'->wpAny κ.m A (call bv [_]) (A1 κ [] w es' (E5 κ v)) D1 w.s) hb (C1g I ra) (λh=>(A0 (s:=w.es) h).elim) (λh=>(A0 (s:=w.es) h).elim) (λh=>(A0 (s:=w.es) h).elim) (C5a I ra) (C0x I ra) (λh=>C5c (P:=λx=>wpAny κ.m A (call (.builtin "sorted") [x]) (A1 κ [] w es' (E5 κ v)) D1 w.s) I ra h λi l ho _ h=>B2b hh I ho h) (C4i hh I ra) λh=>(A0 (s:=w.es) h).elim
end
section
variable {κ:Kx} {rn:F5} {f n:Nat} {nm:List (Str×aK)}
theorem S5 {k:Nat} {bv:Value} (h:q8 k=some bv):keeperOf bv=pure .machine:=by
 exact t5 (P:=λ_ bv=>keeperOf bv=pure .machine) h rfl rfl rfl rfl rfl rfl rfl rfl rfl
theorem D2y (KO:U8 κ) {k:Nat} {bv:Value} (hb:q8 k=some bv) {x:Str} (B:l8 κ nm x bv) {l:CL} {es:List Expr} {p pos} (hns:es.all A9=true) (hl:SLs κ rn f n nm l es):SE κ rn f n nm (C3c k l) (.Call (.Name x p) es [] pos):=
 SE.value (λA c ev env w hA hc I r hn v es' h=>by
  refine A2 h λvs s1 h1 h2=>?_
  rw [bQ]
  refine ab (M6 KO I r (by unfold aS; rw [hn]; exact B.kind) B.dbg B.glb B.val ?_)
  refine F6 (S5 hb) (L3 hns _ _) (E3 hns (af (hl pos A c ev env w hA hc I r hn vs s1 h1) (λxs s₁ p=>?_) λ_ _ x=>x))
  obtain ⟨φ1,le,inv,hv⟩:=p
  refine af (A7r (w:=⟨φ1,s1,s₁⟩) hA.handled inv hb hv h2) (λval s₂ p2=>p2.lift le) λ_ _ x=>x) λ_ _=>rfl
end
noncomputable def B2r (t:Nat):Option String:=match t with
 | 3=>some "tuple" | 6=>some "int" | 7=>some "str" | 11=>some "bool"
 | _=>none
theorem X5 {t:Nat} {T:String} (h:B2r t=some T):(t=3/\T="tuple")∨(t=6/\T="int")∨(t=7/\T="str")∨(t=11/\T="bool"):=by
 unfold B2r at h
 split at h<;>simp_all
theorem A5h:typeOf (.type "tuple")=pure (.type "type"):=by kernel_rfl
theorem C0f:typeOf (.type "int")=pure (.type "type"):=by kernel_rfl
theorem B5q:typeOf (.type "str")=pure (.type "type"):=by kernel_rfl
theorem A9q:typeOf (.type "bool")=pure (.type "type"):=by kernel_rfl
theorem E1k:isSubtype (.type "tuple") (.type "tuple")=pure true:=by rw [isSubtype_type]; kernel_rfl
theorem D8x:isSubtype (.type "int") (.type "int")=pure true:=by rw [isSubtype_type]; kernel_rfl
theorem E8y:isSubtype (.type "tuple") (.type "int")=pure false:=by rw [isSubtype_type]; kernel_rfl
theorem F1v:isSubtype (.type "tuple") (.type "str")=pure false:=by rw [isSubtype_type]; kernel_rfl
theorem E4s:isSubtype (.type "tuple") (.type "bool")=pure false:=by rw [isSubtype_type]; kernel_rfl
theorem E7w:isSubtype (.type "int") (.type "tuple")=pure false:=by rw [isSubtype_type]; kernel_rfl
theorem E8q:isSubtype (.type "int") (.type "str")=pure false:=by rw [isSubtype_type]; kernel_rfl
theorem E0a:isSubtype (.type "int") (.type "bool")=pure false:=by rw [isSubtype_type]; kernel_rfl
section
variable {κ:Kx} {A:aI} {w:W}
theorem B3t (I:A7 κ w) {t:Nat} {T:String} (ht:B2r t=some T) {v:V} {x:Value} (r:w.vr κ v x) {b:Bool} {es':St} (h:A8z t v w.es=.ok b es'):
  es'=w.es/\wpAny κ.m A (call (.builtin "isinstance") [x,.type T]) (A1 κ [] w w.es (E5 κ (.bool b))) D1 w.s:=by
 unfold A8z at h
 induction r using A4.el with
 | int e=>
  obtain ⟨rfl,e2⟩:=A3 (s:=w.es) h
  refine ⟨e2,?_⟩
  rcases X5 ht with ⟨rfl,rfl⟩ | ⟨rfl,rfl⟩ | ⟨rfl,rfl⟩ | ⟨rfl,rfl⟩
  ·exact call_isinstance (isinstance_false_int (by decide) A5h E7w) (A1.toks I (.bool false))
  ·exact call_isinstance_yes (typeIs_int _ _ _) C0f D8x (A1.here I (.bool true))
  ·exact call_isinstance (isinstance_false_int (by decide) B5q E8q) (A1.toks I (.bool false))
  ·exact call_isinstance (isinstance_false_int (by decide) A9q E0a) (A1.toks I (.bool false))
 | tup h1 h2 h3 h4 h5 h6=>
  obtain ⟨rfl,e2⟩:=A3 (s:=w.es) h
  refine ⟨e2,?_⟩
  rcases X5 ht with ⟨rfl,rfl⟩ | ⟨rfl,rfl⟩ | ⟨rfl,rfl⟩ | ⟨rfl,rfl⟩
  ·exact call_isinstance_yes (G7 h1 h2 h3).typeIs A5h E1k (A1.here I (.bool true))
  ·exact call_isinstance (isinstance_false_tuple (by decide) C0f E8y) ⟨⟨_,h1,h2⟩,A1.toks I (.bool false)⟩
  ·exact call_isinstance (isinstance_false_tuple (by decide) B5q F1v) ⟨⟨_,h1,h2⟩,A1.toks I (.bool false)⟩
  ·exact call_isinstance (isinstance_false_tuple (by decide) A9q E4s) ⟨⟨_,h1,h2⟩,A1.toks I (.bool false)⟩
 | _=>exact (A0 (s:=w.es) h).elim
end
section
variable {κ:Kx} {rn:F5} {f n:Nat} {nm:List (Str×aK)}
theorem D1y (KO:U8 κ) {t:Nat} {T:String} (ht:B2r t=some T) {x y:Str} (B:l8 κ nm x (.builtin "isinstance")) (B2:l8 κ nm y (.type T)) {a:CX} {e:Expr} {p p2 pos} (hns:A9 e=true) (ha:SX κ rn f n nm a e):
  SE κ rn f n nm (E0h a t) (.Call (.Name x p) [e,.Name y p2] [] pos):=
 SE.value (λA c ev env w hA hc I r hn v es' h=>by
  refine A2 h λu s1 h1 h2=>?_
  refine A2 h2 λb s2 h3 h4=>?_
  cases h4
  have hall:([e,.Name y p2]:List Expr).all A9=true:=by
   simp only [bL,hns,List.all_nil,Bool.and_true,Bool.true_and]; rfl
  rw [bQ]
  refine ab (M6 KO I r (by unfold aS; rw [hn]; exact B.kind) B.dbg B.glb B.val ?_)
  refine F6 (A1d _) (L3 hall _ _) (E3 hall ?_)
  refine spliced_more (af (ha A c ev env w hA hc I r hn u s1 h1) (λxv s₁ p=>?_) λ_ _ x=>x) (K8 hns env)
  obtain ⟨φ1,le,inv,hr⟩:=p
  refine spliced_more (M6 KO (w:=⟨φ1,s1,s₁⟩) inv (r.le le) (by unfold aS; rw [hn]; exact B2.kind) B2.dbg B2.glb B2.val ?_) (K8 rfl env)
  refine spliced_none ?_
  obtain ⟨e1,g⟩:=B3t (A:=A) (w:=⟨φ1,s1,s₁⟩) inv ht hr h3
  have e1':es'=s1:=e1
  subst e1'
  exact af g (λval s₂ p2=>p2.lift le) λ_ _ x=>x) λ_ _=>rfl
end
theorem A7i {n:Nat}:∀ {l r:List V} {s s':St},J4 n (.tup l) s=.ok r s'->r=l/\s'=s:=by
 induction n with
 | zero=>exact λ{l r s s'} h=>(A0 (s:=s) h).elim
 | succ n ih=>
  intro l r s s' h
  induction l using av with
  | nil=>exact A3 (x:=[]) (s:=s) h
  | cons v l=>exact B8 (m:=J4 n (.tup l)) (f:=λl=>D7 (v::l)) (s:=s) h λq s2 h3 h4=>⟨(A3 h4).1.trans (congrArg (v::·) (ih h3).1),(A3 h4).2.trans (ih h3).2⟩
theorem D2l {n:Nat} {it:It} {s:St} {r:List V} {s':St} {G:Prop} (h:J4 (n + 1) it s=.ok r s') (a:next it s=.ok none s'->r=[]->G) (b:∀ v i' l s1,next it s=.ok (some (v,i')) s1->J4 n i' s1=.ok l s'->r=v::l->G):G:=B8 h λo s1 h1 h2=>by
 induction o using ae with
 | none=>exact a ((A3 h2).2.symm ▸ h1) (A3 h2).1
 | some p=>exact B8 h2 λl s2 h3 h4=>b p.1 p.2 l s1 h1 ((A3 h4).2.symm ▸ h3) (A3 h4).1
theorem A5d {α:Type} {l:List α} {k:Nat} {v:α} (h:l[k]?=some v):l.drop k=v::l.drop (k + 1):=by
 obtain ⟨hlt,e⟩:=List.getElem?_eq_some_iff.mp h
 rw [List.drop_eq_getElem_cons hlt,e]
theorem D0u {l m:List V} (h:some (O.list l)=some (.list m)):l=m:=by cases h; rfl
theorem A5b {n h:Nat}:∀ {k:Nat} {r:List V} {s s':St},J4 n (.lst h k) s=.ok r s'->∃ l,s.t.get h=some (.list l)/\r=l.drop k/\s'=s:=by
 induction n with
 | zero=>exact λ{k r s s'} e=>(A0 (s:=s) e).elim
 | succ n ih=>
  exact λ{k r s s'} e=>D2l e (λh1 hr=>A7q h1 (λl g hl _ q=>⟨l,g,hr.trans (List.drop_eq_nil_of_le (List.getElem?_eq_none_iff.mp hl)).symm,q⟩) λ_ _ _ _ q _=>nomatch q)
   λv i' l' s1 h1 h3 hr=>A7q h1 (λ_ _ _ q _=>nomatch q) λl v' g hl q q'=>by
    cases q
    exact E2 (ih h3) λl2 g2 e2 q2=>⟨l,g,(hr.trans (congrArg (v::·) (e2.trans (congrArg (List.drop (k + 1)) (D0u (g2.symm.trans (q' ▸ g))))))).trans (A5d hl).symm,q2.trans q'⟩
theorem B3z (a d:Int) (j:Nat):Int.add a d + (j:Int) * d=a + ((j + 1:Nat):Int) * d:=(Int.add_assoc a d _).trans (congrArg (a + ·) (by rw [Int.natCast_succ,Int.add_mul,Int.one_mul,Int.add_comm]))
theorem A5m {n:Nat} {d:Int}:∀ {a:Int} {m:Nat} {r:List V} {s s':St},J4 n (.rng a d m) s=.ok r s'->r.length=m/\(∀ (j:Nat) u,r[j]?=some u->u=.int (.lit (a + j * d)))/\s'=s:=by
 induction n with
 | zero=>exact λ{a m r s s'} h=>(A0 (s:=s) h).elim
 | succ n ih=>
  intro a m r s s' h
  induction m using aU with
  | zero=>
   have e:=A3 (x:=[]) (s:=s) h
   exact ⟨congrArg List.length e.1,λj u q=>(by rw [e.1,List.getElem?_nil] at q; cases q),e.2⟩
  | succ m=>
   refine B8 (m:=J4 n (.rng (Int.add a d) d m)) (f:=λl=>D7 (V.int (I.lit a)::l)) (s:=s) h λq s2 h3 h4=>O8 (ih h3) λe1 e2 e3=>⟨(congrArg List.length (A3 h4).1).trans (congrArg (· + 1) e1),λj u e=>?_,(A3 h4).2.trans e3⟩
   have e:(V.int (.lit a)::q)[j]?=some u:=(A3 h4).1 ▸ e
   induction j using aU with
   | zero=>exact (ac e).symm.trans (congrArg (λx=>V.int (.lit x)) (by rw [Int.natCast_zero,Int.zero_mul,Int.add_zero]))
   | succ j=>exact (e2 j u e).trans (congrArg (λx=>V.int (.lit x)) (B3z a d j))
theorem B8h {κ:Kx} {φ:Nat->Addr} {n:Nat} {h:Heap} {l:List V}:∀ {xs:List Value},l.length=xs.length->(∀ (j:Nat) (u:V) (x:Value),l[j]?=some u->xs[j]?=some x->A4 κ φ n h u x)->VRels κ φ n h l xs:=by
 induction l with
 | nil=>exact λ{xs} hl _=>List.eq_nil_of_length_eq_zero hl.symm ▸ .nil
 | cons u l ih=>
  intro xs hl hj
  induction xs using av with
  | nil=>cases hl
  | cons x xs=>exact .cons (hj 0 u x rfl rfl) (ih (Nat.succ.inj hl) λj u x h1 h2=>hj (j + 1) u x h1 h2)
section
variable {κ:Kx} {A:aI} {w:W}
theorem D4d (hh:A.handled=none) (I:A7 κ w) {c:Cx} {w0:W} {k:Nat} {bv:Value} (hb:q8 k=some bv) {it:It} {x:Value} (S:A4a κ w0 w it x) (nz:I7 it=true) (nr:k=2∨M7 it=true) {l:List V} {s2 es':St} {v:V} (h1:J4 100 it w.es=.ok l s2) (h2:D3f c k l s2=.ok v es'):
  wpAny κ.m A (call bv [x]) (A1 κ [] w es' (E5 κ v)) D1 w.s:=by
 have hk:(k=2/\K4 l s2=.ok v es')∨(k=3/\mkT l s2=.ok v es'):=by
  unfold D3f at h2
  split at h2
  ·exact .inl ⟨rfl,h2⟩
  ·exact .inr ⟨rfl,h2⟩
  ·exact (A0 h2).elim
 have hz:(10000:Nat)<=sizeLine:=by decide
 have dead:w.h.get? w.h.objs.size=none:=B5
 induction it using It.casesOn with
 | zip _ _ _=>cases nz
 | tup lv=>
  obtain ⟨rfl,rfl⟩:=A7i h1
  have S':w.vr κ (.tup l) x:=S
  rcases hk with ⟨rfl,hn⟩ | ⟨rfl,hn⟩
  ·cases hb
   cases S' with
   | @tup _ a o items e h3 h4 h5 h6 h7 h8=>
    have hs:l.length=items.size:=by rw [<- am]; exact h8.length
    refine call_list_seq (T:="tuple") (hsz:=by omega) a (.inr rfl) h3 h4 h5 λh' c' hk hD=>?_
    exact F2 I h8 hn hk dead ⟨_,hD⟩ ⟨rfl,rfl,rfl⟩
  ·cases hb
   refine O8 (z6 hn) λ_ q53' q54'=>?_; subst q53'; subst q54'
   have S'':=S'
   induction S' using A4.elT with
   | tup h3 h4 h5 h6 h7 h8=>exact call_tuple_tup (G7 h3 h4 h5) (A1.here I S'')
 | lst hd j=>
  refine C6x S λq55' hlt q56' lv hg=>?_; clear S; subst q55'; subst q56'
  refine E2 (A5b h1) λl' h3 q57' q58'=>?_; subst q57'; subst q58'
  refine M5 (I.obj _ _ h3) λ_ items hl hlen hv=>?_
  have hl:=hl.isList
  have hs:l.length=items.size:=by rw [<- am]; exact hv.length
  rcases hk with ⟨rfl,hn⟩ | ⟨rfl,hn⟩
  ·cases hb
   refine P5 (id hl) λo ho hc m hd=>?_
   refine call_list_seq (T:="list") (hsz:=by omega) (w.φ _) (.inl rfl) ho hc hd λh' c' hk hD=>?_
   exact F2 I hv hn hk dead ⟨_,hD⟩ ⟨rfl,rfl,rfl⟩
  ·cases hb
   refine O8 (z6 hn) λh9 q59' q60'=>?_; subst q59'; subst q60'
   refine call_tuple_list hl (λh' hk=>?_) (by omega)
   refine O4 (s':={ w.s with heap:=h'.push { cls:=.type "tuple",data:=.seq items } }) I hv h9 (λb ob e=>ai _ (hk b ob e)) ?_ ⟨_,ax _ rfl,rfl,0,rfl⟩ ⟨rfl,rfl,rfl⟩
   induction e:w.h.get? h'.objs.size using ae with
   | none=>rfl
   | some o=>exact absurd (Heap.lt_size (hk _ _ e)) (Nat.lt_irrefl _)
 | rng a d m=>
  rcases hk with ⟨rfl,hn⟩ | ⟨rfl,hn⟩
  ·cases hb
   refine A3h S λr b t u q q61' hr hs hsz=>?_; clear S; subst q61'
   refine O8 (A5m h1) λe1 e2 q62'=>?_; subst q62'
   have hle:=(Q1 hn).1
   refine call_list_range hh hr hs hsz (by omega) λh' tk acc' c' hk hD hacc=>?_
   refine F2 (s':={ w.s with heap:=h',toks:=tk }) I (B8h ?_ λj u x g1 g2=>?_) hn hk dead ⟨_,hD⟩ ⟨rfl,rfl,rfl⟩
   ·rw [am (xs:=acc'),hacc.1]; exact e1
   ·obtain ⟨t,rfl⟩:=hacc.2 j x (by rw [<- Array.getElem?_toList]; exact g2)
    rw [e2 j u g1]
    exact .int rfl
  ·rcases nr with q | q
   ·cases q
   ·cases q
end
section
variable {κ:Kx} {rn:F5} {f n:Nat} {nm:List (Str×aK)}
theorem C9u (KO:U8 κ) {k:Nat} {bv:Value} (hb:q8 k=some bv) {x:Str} (B:l8 κ nm x bv) {ci:CI} {e:Expr} {p pos} (hns:A9 e=true) (hq:∀ rn c ev s it s',ci rn c ev s=.ok it s'->I7 it=true/\(k=2∨M7 it=true)) (hi:SI κ rn f n nm ci e):
  SE κ rn f n nm (E8v k ci) (.Call (.Name x p) [e] [] pos):=
 SE.value (λA c ev env w hA hc I r hn v es' h=>by
  refine A2 h λit s1 h1 h2=>?_
  refine A2 h2 λl s2 h3 h4=>?_
  have hall:([e]:List Expr).all A9=true:=by simp [hns]
  obtain ⟨q1,q2⟩:=hq _ _ _ _ _ _ h1
  rw [bQ]
  refine ab (M6 KO I r (by unfold aS; rw [hn]; exact B.kind) B.dbg B.glb B.val ?_)
  refine F6 (S5 hb) (L3 hall _ _) (E3 hall ?_)
  refine spliced_more (af (hi A c ev env w it s1 hA hc I r hn h1) (λxv s₁ p=>?_) λ_ _ x=>x) (K8 hns env)
  obtain ⟨φ1,le,inv,hr⟩:=p
  refine spliced_none ?_
  exact af (D4d (w:=⟨φ1,s1,s₁⟩) (c:=c) hA.handled inv hb hr q1 q2 h3 h4) (λval s₂ p2=>p2.lift le) λ_ _ x=>x) λ_ _=>rfl
end
noncomputable def C4t (k:Nat):V:=.int (.lit (aQ k))
noncomputable def E7 (p:Option Nat):Option Int:=p.map aQ
theorem B6z (p:Option Nat) (n:Nat):kms_lo (E7 p) n=match p with | none=>0 | some p=>min p n:=by
 cases p with
 | none=>rfl
 | some p=>
  simp only [E7,kms_lo,aR]
  rw [if_neg (show ¬ (aQ p < 0) from Int.not_lt.mpr (bW p))]; rfl
theorem B6r (p:Option Nat) (n:Nat):kms_hi (E7 p) n=match p with | none=>n | some p=>min p n:=by
 cases p with
 | none=>rfl
 | some p=>
  simp only [E7,kms_hi,aR]
  rw [if_neg (show ¬ (aQ p < 0) from Int.not_lt.mpr (bW p))]; rfl
noncomputable def I9 {α:Type} (l:List α) (p q:Option Nat):List α:=(l.drop (kms_lo (E7 p) l.length)).take (kms_hi (E7 q) l.length - kms_lo (E7 p) l.length)
theorem A6r {a:Option V} {p:Option Nat} (h:B5n a=some p):a=p.map C4t:=by
 induction a using ae with
 | none=>exact ac h ▸ rfl
 | some v=>
  refine E6 h λn hn h=>?_
  induction n using Int.casesOn with
  | ofNat k=>exact ac h ▸ congrArg some (t9 hn)
  | negSucc k=>exact U6 h
theorem B9y (l:List V) (p q:Option Nat):C7i l p q=I9 l p q:=by
 unfold I9
 rw [B6z,B6r]
 induction p using ae with
 | none=>induction q using ae with
  | none=>exact (List.take_length).symm
  | some q=>
   show l.take q=(l.drop 0).take (min q l.length - 0)
   rw [List.drop_zero,Nat.sub_zero,kmk_take_min]
 | some p=>induction q using ae with
  | none=>
   show l.drop p=(l.drop (min p l.length)).take (l.length - min p l.length)
   rw [cc (by rw [bH]; exact aG _),kmk_drop_min]
  | some q=>
   show (l.take q).drop p=(l.drop (min p l.length)).take (min q l.length - min p l.length)
   rw [kmk_drop_min,List.drop_take]
   by_cases hp:p < l.length
   ·rw [Nat.min_eq_left (Nat.le_of_lt hp)]
    by_cases hq:q<=l.length
    ·rw [Nat.min_eq_left hq]
    ·rw [Nat.min_eq_right (Nat.le_of_not_le hq),cc (by rw [bH]; exact Nat.sub_le_sub_right (Nat.le_of_not_le hq) p),cc (by rw [bH]; exact aG _)]
   ·rw [List.drop_eq_nil_of_le (Nat.le_of_not_lt hp),List.take_nil,List.take_nil]
theorem B5e {l r:List V} {a b s:Option V} {P:Option V->Option V->Option V->List V->Prop} (h:cut l a b s=some r) (k1:P none none (some (.int (.lit (-1)))) l.reverse) (k2:∀ p q:Option Nat,P (p.map C4t) (q.map C4t) none (I9 l p q)):P a b s r:=by
 induction s using ae with
 | none=>exact E6 h λp hp h=>E6 h λq hq h=>A6r hp ▸ A6r hq ▸ ac h ▸ B9y l p q ▸ k2 p q
 | some v=>
  refine l7 h (λe h=>b3 e λe1 e2 e3=>?_) λ_ h=>U6 h
  cases B1h e1
  cases Option.isNone_iff_eq_none.mp e2
  cases Option.isNone_iff_eq_none.mp e3
  exact ac h ▸ k1
section
variable {κ:Kx} {φ:Nat->Addr} {n:Nat} {h:Heap}
theorem Q3 {l:List V} {xs:List Value} (r:VRels κ φ n h l xs):∀ k,VRels κ φ n h (l.drop k) (xs.drop k):=
 VRels.ind (P:=λl xs=>∀ k,VRels κ φ n h (l.drop k) (xs.drop k)) (λk=>by rw [List.drop_nil,List.drop_nil]; exact .nil) (λa b ih k=>by
  induction k using aU with
  | zero=>exact .cons a b
  | succ k=>exact ih k) r
theorem A0j {l:List V} {xs:List Value} (r:VRels κ φ n h l xs):∀ k,VRels κ φ n h (l.take k) (xs.take k):=
 VRels.ind (P:=λl xs=>∀ k,VRels κ φ n h (l.take k) (xs.take k)) (λk=>by rw [List.take_nil,List.take_nil]; exact .nil) (λa b ih k=>by
  induction k using aU with
  | zero=>exact .nil
  | succ k=>exact .cons a (ih k)) r
theorem B2d {l:List V} {xs:List Value} (r:VRels κ φ n h l xs):VRels κ φ n h l.reverse xs.reverse:=
 VRels.ind (P:=λl xs=>VRels κ φ n h l.reverse xs.reverse) .nil (λa b ih=>by
  rw [List.reverse_cons,List.reverse_cons]
  exact ih.append (.cons a .nil)) r
theorem Y2 {l:List V} {xs:List Value} (r:VRels κ φ n h l xs) (p q:Option Nat):VRels κ φ n h (I9 l p q) (I9 xs p q):=by
 unfold I9
 rw [r.length]
 exact A0j (Q3 r _) _
end
noncomputable def J6 (κ:Kx) (w:W):Option V->Value->Prop
 | none,x=>x=.none
 | some v,x=>w.vr κ v x
theorem J6.le {κ:Kx} {X:List Addr} {w w':W} (l:Le X w w'):∀ {o:Option V} {x:Value},J6 κ w o x->J6 κ w' o x
 | none,_,r=>r
 | some _,_,r=>l.vr r
theorem J6.part {κ:Kx} {w:W} {p:Option Nat} {x:Value} (r:J6 κ w (p.map C4t) x):IsPart x (E7 p):=by
 induction p using ae with
 | none=>rw [show x=.none from r]; exact .none
 | some k=>
  have r':w.vr κ (.int (.lit (aQ k))) x:=r
  induction r' using A4.elI with
  | int e=>
   have e':aQ k=_:=e
   subst e'
   exact .int _ _
theorem C5k {κ:Kx} {w:W} {x:Value} (r:J6 κ w (some (.int (.lit (-1)))) x):IsPart x (some (-1)):=by
 have r':w.vr κ (.int (.lit (-1))) x:=r
 induction r' using A4.elI with
 | int e=>exact (show (-1:Int)=_ from e) ▸ .int _ _
section
variable {prog:Program} {wd:World} {A:aI} {E:Value->ak->Prop} {s:ak}
theorem W9 {v:Value} {k:Option Int} {Q:Option Int->ak->Prop} (hv:IsPart v k) (h:Q k s):wpAny (model prog wd) A (Builtin.Slice.slicePartIndex v) Q E s:=by
 cases hv with
 | none=>exact slicePart_none h
 | int i t=>exact slicePart_int h
theorem A8g (p q:Option Nat) (n:Nat):Builtin.Slice.sliceAdjust (E7 p) (E7 q) 1 (n:Int)=(((kms_lo (E7 p) n:Nat):Int),((kms_hi (E7 q) n:Nat):Int)):=by
 rw [B6z,B6r]
 unfold Builtin.Slice.sliceAdjust
 have h1:¬ ((1:Int) < 0):=by decide
 simp only [h1,if_false]
 refine Prod.ext ?_ ?_
 ·cases p with
  | none=>rfl
  | some p=>
   simp only [E7,aR]
   rw [if_neg (show ¬ (aQ p < 0) from Int.not_lt.mpr (bW p))]
   show min ((p:Nat):Int) (n:Int)=_
   omega
 ·cases q with
  | none=>rfl
  | some q=>
   simp only [E7,aR]
   rw [if_neg (show ¬ (aQ q < 0) from Int.not_lt.mpr (bW q))]
   show min ((q:Nat):Int) (n:Int)=_
   omega
theorem A7s (a b:Nat):Builtin.Slice.slicePlaces (a:Int) (b:Int) 1=b - a:=by
 unfold Builtin.Slice.slicePlaces
 have h1:(1:Int) > 0:=by decide
 simp only [h1,if_true,Int.ediv_one]
 split<;>omega
theorem W4 {t sl:Addr} {items:Array Value} {p q:Option Nat} {vl vu:Value} {Q:Value->ak->Prop} (ht:IsTup s.heap t items) (hs:s.heap.IsSliceOf sl vl vu .none) (pl:IsPart vl (E7 p)) (pu:IsPart vu (E7 q)) (hsz:items.size<=sizeLine)
  (h1:I9 items.toList p q=items.toList->Q (.ref t) s) (h2:Q (.ref s.heap.objs.size) { s with heap:=s.heap.push { cls:=.type "tuple",data:=.seq (I9 items.toList p q).toArray } }):
  wpAny (model prog wd) A (PySem.getItem (.ref t) (.ref sl)) Q E s:=by
 have hdrop:sizeOk (.seq (I9 items.toList p q).toArray):=by
  show (I9 items.toList p q).toArray.size<=sizeLine
  rw [List.size_toArray]
  unfold I9
  rw [List.length_take,bH,am]
  omega
 obtain ⟨os,hos,hcs,hds⟩:=id hs
 have hTs:s.TypeIs (.ref sl) "slice":=⟨os,hos,hcs⟩
 unfold PySem.getItem
 try with_reducible refine aF ?_
 first | refine ab (ag ?_) | skip
 refine ab (wpAny_sequenceKey ht.typeIs (by decide) ?_)
 refine ab (bK (name:=aa "__getitem__") ht.typeIs slot_tuple_getitem
  (bx slot_tuple_getitem ht.typeIs entry_tuple_getitem ?_ (args_tuple_getitem _ _)))
 show wpAny _ _ (Builtin.Tuple.tupleItemsOf (.ref t) >>= _) _ _ s
 refine ab (tupleItemsOf_ ht ?_)
 refine ab (wpAny_typeOf hTs ?_)
 rw [if_pos (by decide)]
 have app:∀ {Q:Int×Int×Nat->ak->Prop},Q (((kms_lo (E7 p) items.size:Nat):Int),1,kms_hi (E7 q) items.size - kms_lo (E7 p) items.size) s->wpAny (model prog wd) A.in1 (Builtin.Slice.sliceApplied (.ref sl) (pure (items.size:Int))) Q E s:=λ{Q} hq=>by
  unfold Builtin.Slice.sliceApplied Builtin.Slice.sliceFields
  refine ab (ab (bk hos hds (x:=vl) rfl (ab (bk hos hds (x:=vu) rfl (ab (bk hos hds (x:=.none) rfl (ag ?_)))))))
  refine ab (slicePart_none ?_)
  show wpAny _ _ (if ((1:Int) == 0)=true then _ else _) _ _ s
  rw [if_neg (by decide)]
  refine ab (W9 pl (ab (W9 pu (ab (ag ?_)))))
  show wpAny _ _ (match Builtin.Slice.sliceAdjust (E7 p) (E7 q) 1 (items.size:Int) with | (lo,hi)=>pure (lo,(1:Int),Builtin.Slice.slicePlaces lo hi 1)) _ _ s
  rw [A8g]
  show wpAny _ _ (pure (_,(1:Int),Builtin.Slice.slicePlaces _ _ 1)) _ _ s
  rw [A7s]
  exact ag hq
 refine ab (app ?_)
 have pk:((List.range (kms_hi (E7 q) items.size - kms_lo (E7 p) items.size)).filterMap λ(k:Nat)=>items[(((kms_lo (E7 p) items.size:Nat):Int) + (k:Int) * 1).toNat]?).toArray=(I9 items.toList p q).toArray:=by
  have e:(λ(k:Nat)=>items[(((kms_lo (E7 p) items.size:Nat):Int) + (k:Int) * 1).toNat]?)=λk=>items[kms_lo (E7 p) items.size + k]?:=by
   funext k
   have:(((kms_lo (E7 p) items.size:Nat):Int) + (k:Int) * 1).toNat=kms_lo (E7 p) items.size + k:=by omega
   rw [this]
  rw [e]
  have:=pick_run items (kms_lo (E7 p) items.size) (kms_hi (E7 q) items.size - kms_lo (E7 p) items.size)
  rw [List.filterMap_map] at this
  have e2:((λx=>items[x]?) ∘ λx=>kms_lo (E7 p) items.size + x)=λk=>items[kms_lo (E7 p) items.size + k]?:=rfl
  rw [e2] at this
  rw [this]
  unfold I9
  rw [am]
 show wpAny _ _ (if (((kms_lo (E7 p) items.size:Nat):Int) == 0 && (1:Int) == 1 && (kms_hi (E7 q) items.size - kms_lo (E7 p) items.size) == items.size)=true then _ else _) _ _ s
 split
 ·rename_i hw
  simp only [az,beq_iff_eq] at hw
  have hpk:I9 items.toList p q=items.toList:=by
   unfold I9
   rw [am,show kms_lo (E7 p) items.size=0 by omega,List.drop_zero,cc (by rw [am]; omega)]
  refine ab (m:=Builtin.Tuple.tupleIsExact (.ref t)) ?_
  unfold Builtin.Tuple.tupleIsExact
  refine ab (wpAny_typeOf ht.typeIs (ag ?_))
  simp only [beq_self_eq_true,if_true]
  refine ab (wpAny_rule ?_)
  exact ag ⟨_,rfl,ag (h1 hpk)⟩
 ·rw [pk]
  first
   | exact ab (m:=Builtin.Tuple.tupleExact _) (wpAny_newObj_type (ag ⟨_,rfl,ag h2⟩) hdrop)
   | exact ab (m:=Builtin.Tuple.tupleExact _) (wpAny_newObj_type (ab (ag (ag ⟨_,rfl,ag h2⟩))) hdrop)
   | exact ab (ab (m:=Builtin.Tuple.tupleExact _) (wpAny_newObj_type (ag (ag ⟨_,rfl,ag h2⟩)) hdrop))
   | exact ab (ab (m:=Builtin.Tuple.tupleExact _) (wpAny_newObj_type (ag ⟨_,rfl,ag h2⟩) hdrop))
end
section
variable (κ:Kx) (rn:F5) (f n:Nat) (nm:List (Str×aK))
inductive SO:CO->Option Expr->Prop
 | no:SO oNo none
 | so {a:CX} {e:Expr}:SX κ rn f n nm a e->SO (oSo a) (some e)
end
section
variable {κ:Kx} {rn:F5} {f n:Nat} {nm:List (Str×aK)}
theorem A3m {A:aI} {c:Cx} {ev:Mine.Env} {env:PySem.Env} (hA:B7 A f n) (hc:D9 κ c) (hn:env.scope.names=nm) {x:CO} {lo:Option Expr} (hx:SO κ rn f n nm x lo) {w:W} {o:Option V} {es':St} (I:A7 κ w) (r:C8 κ w ev env) (h:x rn c ev w.es=.ok o es'):
  wpAny κ.m A (evalPart lo env) (A1 κ [] w es' λw' v=>J6 κ w' o v) D1 w.s:=by
 cases hx with
 | no=>
  cases h
  rw [evalPart_none]
  exact ag (A1.here I rfl)
 | so ha=>
  refine A2 h λv s1 h1 h2=>?_
  cases h2
  rw [evalPart_some]
  exact ha A c ev env w hA hc I r hn v es' h1
theorem D4s {A:aI} {w:W} (I:A7 κ w) {e sl:Expr} {ov:V} {val vl vu vk:Value} {a b d:Option V} {v:V} {es':St} (rv:w.vr κ ov val) (ra:J6 κ w a vl) (rb:J6 κ w b vu) (rd:J6 κ w d vk) (h:E8l ov a b d w.es=.ok v es'):
  wpAny κ.m A (subscriptTail e sl val (.ref w.s.heap.objs.size)) (A1 κ [] w es' (E5 κ v)) D1 { w.s with heap:=w.s.heap.push { cls:=.type "slice",data:=.fields #[vl,vu,vk] } }:=by
 have hk:∀ b' ob,w.h.get? b'=some ob->(w.s.heap.push { cls:=.type "slice",data:=.fields #[vl,vu,vk] }).get? b'=some ob:=C9 _
 have I5:A7 κ ⟨w.φ,w.es,{ w.s with heap:=w.s.heap.push { cls:=.type "slice",data:=.fields #[vl,vu,vk] } }⟩:=A7.grow I hk
 have L5:Le [] w ⟨w.φ,w.es,{ w.s with heap:=w.s.heap.push { cls:=.type "slice",data:=.fields #[vl,vu,vk] } }⟩:=Le.grow hk ⟨rfl,rfl,rfl⟩
 have hsl:(w.s.heap.push { cls:=.type "slice",data:=.fields #[vl,vu,vk] }).IsSliceOf w.s.heap.objs.size vl vu vk:=Heap.IsSliceOf.new ..
 have rv5:=L5.vr rv
 clear rv
 induction rv5 using A4.el with
 | @tup l a0 ob items ep g1 g2 g3 g4 g5 g6=>
  have hT:=G7 g1 g2 g3
  induction d using ae with
  | some _=>exact (A0 (s:=w.es) h).elim
  | none=>
   refine lfn (s:=w.es) h λm q3 q2=>?_
   refine C9z (P:=λv es'=>wpAny κ.m A (subscriptTail e sl (.ref a0) (.ref w.s.heap.objs.size)) (A1 κ [] w es' (E5 κ v)) D1 { w.s with heap:=w.s.heap.push { cls:=.type "slice",data:=.fields #[vl,vu,vk] } }) q2 λq4=>?_
   refine B5e (P:=λa b s m=>s=none->J6 κ w a vl->J6 κ w b vu->m.length<=10000->wpAny κ.m A (subscriptTail e sl (.ref a0) (.ref w.s.heap.objs.size)) (A1 κ [] w w.es (E5 κ (.tup m))) D1 { w.s with heap:=w.s.heap.push { cls:=.type "slice",data:=.fields #[vl,vu,vk] } }) q3 (λq=>nomatch q) (λp' q' _ ra rb q4=>?_) rfl ra rb q4
   cases (show vk=.none from rd)
   have hs:items.size<=10000:=(g6.length.trans am) ▸ g5
   refine Y8 (A:=A) (s:={ w.s with heap:=w.s.heap.push { cls:=.type "slice",data:=.fields #[vl,vu,.none] } }) ⟨"tuple",_,slot_tuple_getitem.lookup,hT.typeIs⟩ (W4 hT hsl ra.part rb.part (aJ hs (by decide)) (λhw=>?_) ?_)
   ·have h9:=Y2 g6 p' q'
    rw [hw] at h9
    exact (A1.here (X:=[]) I5 (R:=E5 κ (.tup (I9 l p' q'))) (.tup g1 g2 g3 g4 q4 h9)).lift L5
   ·exact (O4 (s':={ w.s with heap:=(w.s.heap.push { cls:=.type "slice",data:=.fields #[vl,vu,.none] }).push { cls:=.type "tuple",data:=.seq (I9 items.toList p' q').toArray } }) I5 (items:=(I9 items.toList p' q').toArray) (by simpa using Y2 g6 p' q') q4 (C9 _) B5 ⟨_,ax _ rfl,rfl,0,rfl⟩ ⟨rfl,rfl,rfl⟩).lift L5
 | ref hk0 e0=>
  subst e0
  refine gOn (s:=w.es) h λob q3 q2=>?_
  induction ob using O.casesOn with
  | list l=>
   refine lfn (s:=w.es) q2 λm q6 q5=>?_
   refine M5 (I5.obj _ _ q3) λ_ items hl hlen hv=>?_
   have hl:=hl.isList
   have hs:items.size<=sizeLine:=aJ ((hv.length.trans am) ▸ hlen) (by decide)
   revert ra rb rd q5
   refine B5e (P:=λa b s m=>J6 κ w a vl->J6 κ w b vu->J6 κ w s vk->K4 m w.es=.ok v es'->wpAny κ.m A (subscriptTail e sl (.ref (w.φ _)) (.ref w.s.heap.objs.size)) (A1 κ [] w es' (E5 κ v)) D1 { w.s with heap:=w.s.heap.push { cls:=.type "slice",data:=.fields #[vl,vu,vk] } }) q6 (λra rb rd q5=>?_) λp' q' ra rb rd q5=>?_
   ·refine Y8 (A:=A) (s:={ w.s with heap:=w.s.heap.push { cls:=.type "slice",data:=.fields #[vl,vu,vk] } }) ⟨"list",_,list_getitem_lookup,hl.typeIs⟩ (wpAny_getItem_list_slice hl hsl (J6.part (p:=none) ra) (J6.part (p:=none) rb) (C5k rd) (by decide) ?_ hs)
    rw [show E7 none=none from rfl,krv_pick]
    exact (F2 (s':={ w.s with heap:=(w.s.heap.push { cls:=.type "slice",data:=.fields #[vl,vu,vk] }).push { cls:=.type "list",data:=.seq items.toList.reverse.toArray } }) I5 (items:=items.toList.reverse.toArray) (by simpa using B2d hv) q5 (C9 _) B5 ⟨0,ax _ rfl⟩ ⟨rfl,rfl,rfl⟩).lift L5
   ·cases (show vk=.none from rd)
    refine Y8 (A:=A) (s:={ w.s with heap:=w.s.heap.push { cls:=.type "slice",data:=.fields #[vl,vu,.none] } }) ⟨"list",_,list_getitem_lookup,hl.typeIs⟩ (wpAny_getItem_list_slice hl hsl ra.part rb.part .none (by decide) ?_ hs)
    rw [kms_pick_eq]
    exact (F2 (s':={ w.s with heap:=(w.s.heap.push { cls:=.type "slice",data:=.fields #[vl,vu,.none] }).push { cls:=.type "list",data:=.seq (kms_pick items.toList (E7 p') (E7 q')).toArray } }) I5 (items:=(kms_pick items.toList (E7 p') (E7 q')).toArray) (Y2 hv p' q') q5 (C9 _) B5 ⟨0,ax _ rfl⟩ ⟨rfl,rfl,rfl⟩).lift L5
  | _=>exact (A0 (s:=w.es) q2).elim
 | _=>exact (A0 (s:=w.es) h).elim
theorem C8y {o:CX} {x y z:CO} {e:Expr} {lo hi st:Option Expr} {p pos} (ho:SX κ rn f n nm o e) (hx:SO κ rn f n nm x lo) (hy:SO κ rn f n nm y hi) (hz:SO κ rn f n nm z st):SE κ rn f n nm (E4r o x y z) (.Subscript e (.Slice lo hi st p) pos):=
 SE.value (λA c ev env w hA hc I r hn v es' h=>by
  refine A2 h λov s1 h1 h2=>?_
  refine A2 h2 λa s2 h3 h4=>?_
  refine A2 h4 λb s3 h5 h6=>?_
  refine A2 h6 λd s4 h7 h8=>?_
  clear h h2 h4 h6
  refine Subscript_ (af (ho A c ev env w hA hc I r hn ov s1 h1) (λval s₁ p1=>?_) λ_ _ x=>x)
  obtain ⟨φ1,le1,inv1,r1⟩:=p1
  have rr1:=r.le le1
  refine wpAny_Slice (af (A3m hA hc hn hx (w:=⟨φ1,s1,s₁⟩) inv1 rr1 h3) (λvl s₂ p2=>?_) λ_ _ x=>x)
  obtain ⟨φ2,le2,inv2,r2⟩:=p2
  have rr2:=rr1.le le2
  refine af (A3m hA hc hn hy (w:=⟨φ2,s2,s₂⟩) inv2 rr2 h5) (λvu s₃ p3=>?_) λ_ _ x=>x
  obtain ⟨φ3,le3,inv3,r3⟩:=p3
  refine af (A3m hA hc hn hz (w:=⟨φ3,s3,s₃⟩) inv3 (rr2.le le3) h7) (λvk s₄ p4=>?_) λ_ _ x=>x
  obtain ⟨φ4,le4,inv4,r4⟩:=p4
  have le34:=le3.comp le4
  exact af (D4s (w:=⟨φ4,s4,s₄⟩) inv4 (le34.vr (le2.vr r1)) (r2.le le34) (r3.le le4) r4 h8) (λ_ _ p=>p.lift ((le1.comp le2).comp le34)) λ_ _ x=>x) λ_ _=>rfl
end
theorem A9e {x:Str} (h:SV 7368560 x):x=aa "pop":=SV.inj h ⟨by decide,by decide⟩
theorem B2f {x:Str} (h:SV 107135549927012 x):x=aa "append":=SV.inj h ⟨by decide,by decide⟩
theorem B3q {x:Str} (h:SV 111568023285348 x):x=aa "extend":=SV.inj h ⟨by decide,by decide⟩
theorem D1b {x:Str} (h:SV 6776180 x):x=aa "get":=SV.inj h ⟨by decide,by decide⟩
theorem C4m {x:Str} (h:SV 1785686382 x):x=aa "join":=SV.inj h ⟨by decide,by decide⟩
theorem A8i {P:Nat->Prop} {n m:Nat} (h:aA n m=true) (k:P m):P n:=aw h ▸ k
theorem B1c {P:Nat->List V->Prop} {i:Nat} {l:List V} {n:Nat} {vs:List V} {s s':St} {v:V} (e:B5f i l n vs s=.ok v s') (k0:C2j i l s=.ok v s'->P 7368560 []) (k1:∀ x,D5t i l x s=.ok v s'->P 107135549927012 [x]) (k2:∀ x,D2e i l x s=.ok v s'->P 111568023285348 [x]) (k3:∀ x,B5x i l x s=.ok v s'->P 7368560 [x]):P n vs:=by
 induction vs using av with
 | nil=>exact cF (s:=s) e λhb e=>A8i (P:=λn=>P n []) hb (k0 e)
 | cons x r=>induction r using av with
  | nil=>exact cI (s:=s) e (λhb e=>A8i (P:=λn=>P n [x]) hb (k1 x e)) λ_ e=>cI e (λhb e=>A8i (P:=λn=>P n [x]) hb (k2 x e)) λ_ e=>cF e λhb e=>A8i (P:=λn=>P n [x]) hb (k3 x e)
  | cons _ _=>exact (A0 (s:=s) e).elim
theorem B0c {c:Cx} {P:Nat->List V->Prop} {i:Nat} {l:List (V×V)} {n:Nat} {vs:List V} {s s':St} {v:V} (e:B9h c i l n vs s=.ok v s') (k1:∀ k,Y4 k=true->D2w c i l k s=.ok v s'->P 7368560 [k]) (k2:∀ k d,Y4 k=true->C8w c l k d s=.ok v s'->P 6776180 [k,d]):P n vs:=by
 induction vs using av with
 | nil=>exact (A0 (s:=s) e).elim
 | cons x r=>induction r using av with
  | nil=>exact cF (s:=s) e λhb e=>b2 hb λhb hn=>A8i (P:=λn=>P n [x]) hb (k1 x hn e)
  | cons y r=>induction r using av with
   | nil=>exact cF (s:=s) e λhb e=>b2 hb λhb hn=>A8i (P:=λn=>P n [x,y]) hb (k2 x y hn e)
   | cons _ _=>exact (A0 (s:=s) e).elim
noncomputable def lId (n:Nat):String:=if n=7368560 then "list.pop" else if n=107135549927012 then "list.append" else "list.extend"
noncomputable def dId (n:Nat):String:=if n=7368560 then "dict.pop" else "dict.get"
theorem B3m {i:Nat} {l:List V} {n:Nat} {vs:List V} {s s':St} {v:V} (e:B5f i l n vs s=.ok v s') {name:Str} (hx:SV n name):Slot "list" name (lId n)/\typeOf (.builtin (lId n))=pure (.type "method_descriptor"):=
 B1c (P:=λn _=>SV n name->Slot "list" name (lId n)/\typeOf (.builtin (lId n))=pure (.type "method_descriptor")) e (λ_ hx=>A9e hx ▸ ⟨PySem.F.slot_list_pop,PySem.F.type_list_pop⟩) (λ_ _ hx=>B2f hx ▸ ⟨PySem.F.slot_list_append,PySem.F.type_list_append⟩) (λ_ _ hx=>B3q hx ▸ ⟨PySem.F.slot_list_extend,PySem.F.type_list_extend⟩) (λ_ _ hx=>A9e hx ▸ ⟨PySem.F.slot_list_pop,PySem.F.type_list_pop⟩) hx
theorem B1y {c:Cx} {i:Nat} {l:List (V×V)} {n:Nat} {vs:List V} {s s':St} {v:V} (e:B9h c i l n vs s=.ok v s') {name:Str} (hx:SV n name):Slot "dict" name (dId n)/\typeOf (.builtin (dId n))=pure (.type "method_descriptor"):=
 B0c (P:=λn _=>SV n name->Slot "dict" name (dId n)/\typeOf (.builtin (dId n))=pure (.type "method_descriptor")) e (λ_ _ _ hx=>A9e hx ▸ ⟨PySem.F.slot_dict_pop,PySem.F.type_dict_pop⟩) (λ_ _ _ _ hx=>D1b hx ▸ ⟨PySem.F.slot_dict_get,PySem.F.type_dict_get⟩) hx
section
variable {κ:Kx} {A:aI} {w:W}
theorem B5i (I:A7 κ w) {v:V} {x:Value} (r:w.vr κ v x) {m:List V} {s':St} (h:B1d v w.es=.ok m s'):s'=w.es/\∃ a o items n T,x=.ref a/\w.h.get? a=some o/\o.cls=.type T/\(T="list"∨T="tuple")/\o.data=.seq items n/\w.vrs κ m items.toList:=by
 induction r using A4.el with
 | @tup l a o items e h1 h2 h3 h4 h5 h6=>
  obtain ⟨rfl,e2⟩:=A3 (s:=w.es) h
  exact ⟨e2,a,o,items,e,"tuple",rfl,h1,h2,.inr rfl,h3,h6⟩
 | ref hk e=>
  refine gOn h λob h3 h2=>?_
  obtain ⟨_,ro⟩:=I.obj _ _ h3
  subst e
  induction ob using O.casesOn with
  | list l=>
   obtain ⟨rfl,e2⟩:=A3 (s:=w.es) h2
   refine E2 ro λitems q41' _ hv=>?_; clear ro; obtain ⟨n,ho⟩:=q41'
   exact ⟨e2,_,_,items,n,"list",rfl,ho,rfl,.inl rfl,rfl,hv⟩
  | _=>exact (A0 (s:=w.es) h2).elim
 | _=>exact (A0 (s:=w.es) h).elim
theorem V3 (I:A7 κ w) {i:Nat} {l0 l:List V} {u:Unit} {es':St} (h:j4 i l w.es=.ok u es') (h0:w.es.t.get i=some (.list l0)) {h':Heap} {items:Array Value} (hp:h'.PlainList (w.φ i) items) (hb:bY (w.φ i) w.h h')
  {β:Type} {R:W->β->Prop} {b:β} (hv:Up w.φ w.n w.h w.φ w.n h'->VRels κ w.φ w.n h' l items.toList) (hR:Up w.φ w.n w.h w.φ w.n h'->R ⟨w.φ,es',{ w.s with heap:=h' }⟩ b):A1 κ [] w es' R b { w.s with heap:=h' }:=by
 obtain ⟨hl,h⟩:=v8 h
 have up:Up w.φ w.n w.h w.φ w.n h':=⟨λa o ho hT hu=>(hb.2 a λq=>hu i (s8 h).2.1 q.symm).trans ho,λ_ _=>rfl,λi h1 h2=>absurd h2 (bq.mpr h1),aG _⟩
 exact L9 (s':={ w.s with heap:=h' }) (R:=R) I h h0 hb ⟨rfl,rfl,rfl⟩ (.inl ⟨rfl,λ_ _=>by simp,λ_ _=>by simp⟩) (by simp) (let ⟨_,ho⟩:=hp; ⟨_,ho⟩) (λup=>⟨items,hp,hl,hv up⟩) (hR up)
theorem B0g {i:Nat} {l:List V} {s s':St} {u:Unit} (h:j4 i l s=.ok u s'):s'.n=s.n:=by
 obtain ⟨_,h⟩:=v8 h
 refine O8 (s8 h) λ_ _ q42'=>?_; subst q42'
 rfl
theorem C1l (I:A7 κ w) {i:Nat} {l:List V} {items:Array Value} (hg:w.es.t.get i=some (.list l)) (hp:w.h.PlainList (w.φ i) items) (hlen:l.length<=10000) (hv:w.vrs κ l items.toList) {v:V} {es':St} (h:C2j i l w.es=.ok v es'):
  wpAny κ.m A (call (.builtin "list.pop") [.ref (w.φ i)]) (A1 κ [] w es' (E5 κ v)) D1 w.s:=by
 have hs:l.length=items.size:=hv.length.trans am
 have hz:(10000:Nat)<=sizeLine:=by decide
 obtain ⟨ne,ho⟩:=hp
 unfold C2j at h
 generalize hr:l.reverse=lr at h
 induction lr using av with
 | nil=>exact (A0 (s:=w.es) h).elim
 | cons x r=>
  refine B8 h λu s1 h1 h2=>?_
  obtain ⟨rfl,rfl⟩:=A3 h2
  have hl:l=r.reverse++[v]:=by rw [<- List.reverse_reverse l,hr,List.reverse_cons]
  have hne:items.size≠0:=by rw [<- hs,hl]; simp
  have hv':=hv
  rw [hl] at hv'
  refine C5 (hv.get (i:=items.size - 1) (v:=v) (by rw [hl,List.getElem?_append_right (by rw [<- hs,hl]; simp)]; simp [<- hs,hl])) λy hy ry=>?_
  have hy':items[items.size - 1]?=some y:=by rw [<- hy]; simp
  refine Copied.pop_at ho hy' (λh' hsb hD=>?_) (by omega)
  refine V3 I h1 hg (items:=items.pop) ⟨_,hD⟩ hsb (λup=>?_) λup=>?_
  ·have:=A0j (VRels.up up hv) (items.size - 1)
   have e1:l.take (items.size - 1)=r.reverse:=by
    rw [<- hs,hl]; simp
   have e2:items.toList.take (items.size - 1)=items.pop.toList:=by
    rw [Array.toList_pop,List.dropLast_eq_take,am]
   rw [e1,e2] at this
   exact this
  ·have:=ry.up up
   show A4 κ w.φ es'.n h' v y
   rw [B0g h1]; exact this
theorem B8d (I:A7 κ w) {i:Nat} {l:List V} {items:Array Value} (hg:w.es.t.get i=some (.list l)) (hp:w.h.PlainList (w.φ i) items) (hlen:l.length<=10000) (hv:w.vrs κ l items.toList) {u:V} {x:Value} (ru:w.vr κ u x) {v:V} {es':St} (h:B5x i l u w.es=.ok v es'):
  wpAny κ.m A (call (.builtin "list.pop") [.ref (w.φ i),x]) (A1 κ [] w es' (E5 κ v)) D1 w.s:=by
 refine cF h λhz h=>O0 (P:=λx=>wpAny κ.m A (call (.builtin "list.pop") [.ref (w.φ i),x]) (A1 κ [] w es' (E5 κ v)) D1 w.s) (A3z hz) ru λt=>?_
 have hs:l.length=items.size:=hv.length.trans am
 have hz:(10000:Nat)<=sizeLine:=by decide
 obtain ⟨ne,ho⟩:=hp
 induction l using av with
 | nil=>exact (A0 (s:=w.es) h).elim
 | cons y0 r=>
  refine B8 h λu s1 h1 h2=>?_
  obtain ⟨rfl,rfl⟩:=A3 h2
  have hpos:0 < items.size:=by rw [<- hs]; exact Nat.succ_pos _
  refine C5 (hv.get (i:=0) (v:=v) rfl) λy hy ry=>?_
  have hy':items[0]?=some y:=by rw [<- hy]; simp
  have hk:seqIndex? 0 items.size=some 0:=by
   unfold seqIndex?
   simp only [show ¬ ((0:Int) < 0) by decide,if_false]
   rw [if_pos (by simp only [az,decide_eq_true_eq]; omega)]; rfl
  refine call_meets PySem.F.slot_list_pop ⟨_,ho,rfl⟩ PySem.F.entry_list_pop (PySem.F.args_list_pop_2 _ _) (PySem.MeetsSeq.list_pop_at (w.φ i) items ne 0 _ 0 y (by decide) hk hy' (by omega)) ⟨ho,?_⟩
  refine V3 I h1 hg (items:=items.eraseIdxIfInBounds 0) ⟨_,get?_update_seq ho _⟩ (bl ..) (λup=>?_) λup=>?_
  ·have e2:items.toList.drop 1=(items.eraseIdxIfInBounds 0).toList:=by
    obtain ⟨il⟩:=items
    induction il using av with
    | nil=>rfl
    | cons a t=>simp [Array.eraseIdxIfInBounds]
   rw [<- e2]
   exact Q3 (VRels.up up hv) 1
  ·show A4 κ w.φ es'.n _ v y
   rw [B0g h1]; exact ry.up up
theorem C3y (I:A7 κ w) {i:Nat} {l:List V} {items:Array Value} (hg:w.es.t.get i=some (.list l)) (hp:w.h.PlainList (w.φ i) items) (hlen:l.length<=10000) (hv:w.vrs κ l items.toList) {u:V} {x:Value} (ru:w.vr κ u x) {v:V} {es':St} (h:D5t i l u w.es=.ok v es'):
  wpAny κ.m A (call (.builtin "list.append") [.ref (w.φ i),x]) (A1 κ [] w es' (E5 κ v)) D1 w.s:=by
 refine B8 h λ_ s1 h1 h2=>?_
 obtain ⟨rfl,rfl⟩:=A3 h2
 refine wpAny_list_append_plain hp (λh' hD hsb=>?_) (aJ (hv.length.trans am ▸ hlen) (by decide))
 refine V3 I h1 hg hD hsb (λup=>?_) λup=>.none
 rw [Array.toList_push]
 exact (VRels.up up hv).append (.cons (ru.up up) .nil)
theorem C5m (I:A7 κ w) {i:Nat} {l:List V} {items:Array Value} (hg:w.es.t.get i=some (.list l)) (hp:w.h.PlainList (w.φ i) items) (hlen:l.length<=10000) (hv:w.vrs κ l items.toList) {u:V} {x:Value} (ru:w.vr κ u x) {v:V} {es':St} (h:D2e i l u w.es=.ok v es'):
  wpAny κ.m A (call (.builtin "list.extend") [.ref (w.φ i),x]) (A1 κ [] w es' (E5 κ v)) D1 w.s:=by
 have hs:l.length=items.size:=hv.length.trans am
 have hz:(10000:Nat)<=sizeLine:=by decide
 obtain ⟨ne,ho⟩:=hp
 refine B8 h λmm s0 h0 h3=>?_
 refine A4h (B5i I ru h0) λe0 a o its n' T q43' g1 g2 g3 g4 g5=>?_; subst q43'
 subst e0
 refine B8 h3 λu s1 h1 h2=>?_
 obtain ⟨rfl,rfl⟩:=A3 h2
 have hz2:=(v8 h1).1
 rw [List.length_append] at hz2
 have hm:mm.length=its.size:=g5.length.trans am
 refine bx PySem.F.slot_list_extend ⟨_,ho,rfl⟩ PySem.F.entry_list_extend ?_ (PySem.F.args_list_extend_2 _ _)
 show wpAny _ _ (Builtin.List.listExtendWith (.ref (w.φ i)) (.ref a) .none) _ _ _
 unfold Builtin.List.listExtendWith
 refine ab (wpAny_typeOf (T:=T) ⟨o,g1,g2⟩ ?_)
 have hc:(Builtin.List.listSameRef (.ref (w.φ i)) (.ref a) || Value.type T == Value.type "list" || Value.type T == Value.type "tuple")=true:=by
  rcases g3 with rfl | rfl
  ·simp
  ·simp
 rw [if_pos hc]
 refine ab (listItems_at g1 g4 (ab (listItems_at ho rfl ?_)))
 have hlong:¬ ((!items.isEmpty && Builtin.List.listTooLong (items.size + its.size))=true):=by
  simp [Builtin.List.listTooLong,sizeLine]; omega
 rw [if_neg hlong]
 refine ab (listUpdate_at ho rfl ?_ (by omega) (by rw [Array.size_append]; omega))
 refine ag ⟨_,rfl,?_⟩
 refine V3 I h1 hg (items:=items++its) ⟨_,get?_update_seq ho _⟩ (bl ..) (λup=>?_) λup=>.none
 rw [Array.toList_append]
 exact (VRels.up up hv).append (VRels.up up g5)
theorem vr1 {v:V} {xs:List Value} {P:List Value->Prop} (r:w.vrs κ [v] xs) (k:∀ x,w.vr κ v x->P [x]):P xs:=by
 induction r using VRels.elC with
 | cons a b=>
  induction b using VRels.elE with
  | nil=>exact k _ a
theorem D7v (I:A7 κ w) {i:Nat} {l:List V} (hg:w.es.t.get i=some (.list l)) {n:Nat} {vs:List V} {xs:List Value} (rv:w.vrs κ vs xs) {v:V} {es':St} (h:B5f i l n vs w.es=.ok v es'):
  wpAny κ.m A (call (.builtin (lId n)) (.ref (w.φ i)::xs)) (A1 κ [] w es' (E5 κ v)) D1 w.s:=
 M5 (I.obj _ _ hg) λhi items hp hlen hv=>B1c (P:=λn vs=>w.vrs κ vs xs->wpAny κ.m A (call (.builtin (lId n)) (.ref (w.φ i)::xs)) (A1 κ [] w es' (E5 κ v)) D1 w.s) h (λh rv=>by
  induction rv using VRels.elE with
  | nil=>exact C1l I hg hp hlen hv h) (λu h rv=>vr1 (P:=λxs=>wpAny κ.m A (call (.builtin "list.append") (.ref (w.φ i)::xs)) (A1 κ [] w es' (E5 κ v)) D1 w.s) rv λx ru=>C3y I hg hp hlen hv ru h)
  (λu h rv=>vr1 (P:=λxs=>wpAny κ.m A (call (.builtin "list.extend") (.ref (w.φ i)::xs)) (A1 κ [] w es' (E5 κ v)) D1 w.s) rv λx ru=>C5m I hg hp hlen hv ru h) (λu h rv=>vr1 (P:=λxs=>wpAny κ.m A (call (.builtin "list.pop") (.ref (w.φ i)::xs)) (A1 κ [] w es' (E5 κ v)) D1 w.s) rv λx ru=>B8d I hg hp hlen hv ru h) rv
theorem H4.plain {φ:Nat->Addr} {n:Nat} {h:Heap} {a:Addr} {l:List (V×V)} (r:H4 κ φ n h a l):∃ o,h.get? a=some o/\o.cls=.type "dict"/\o.dict=none:=by
 rcases r with ⟨ks,⟨o,es,ep,ho,hc,q⟩,_⟩ | ⟨xs,⟨o,es,ep,ho,hc,q⟩,_⟩
 ·exact ⟨o,ho,hc.1,hc.2.1⟩
 ·exact ⟨o,ho,hc.1,hc.2.1⟩
theorem A2a {k:V} (h:Y4 k=true):J1 k=false:=by cases k<;>first | rfl | cases h
theorem C2e {c:Cx} (I:A7 κ w) {i:Nat} {l:List (V×V)} (hi:i < w.n) (rd:H4 κ w.φ w.n w.h (w.φ i) l) {k d:V} {x y:Value} (hk:Y4 k=true) (ra:w.vr κ k x) (rb:w.vr κ d y) {v:V} {es':St} (h:C8w c l k d w.es=.ok v es'):
  wpAny κ.m A (call (.builtin "dict.get") [.ref (w.φ i),x,y]) (A1 κ [] w es' (E5 κ v)) D1 w.s:=
 lfn h λr h3 h2=>P6 h2 (by
  rcases B4d rd ra h3 rb with ⟨a,f,h5,h6,h7⟩ | ⟨a,dd,ys,rfl,_,_,_⟩
  ·exact call_meetsIn PySem.F.slot_dict_get h6.typeIs PySem.F.entry_dict_get (PySem.F.args_dict_get_3 _ _ _) (meets_dict_get_default (C0 κ.prog κ.wld) (w.φ i) h5 (I.sm hi) _) ⟨f,h6,A1.toks I h7⟩
  ·exfalso
   obtain ⟨g1,g2⟩:=U7 h3
   rcases H7 g1 ra with ⟨_,at',_,h9⟩ | ⟨g3,_⟩
   ·rcases D2.is_shape h9 with ⟨_,_,_,e⟩ | ⟨_,_,_,e⟩<;>cases e
   ·rw [A2a hk] at g3; cases g3)
theorem C1b {c:Cx} (I:A7 κ w) {i:Nat} {l:List (V×V)} (hg:w.es.t.get i=some (.dict l)) (hi:i < w.n) (hlen:l.length<=10000) (rd:H4 κ w.φ w.n w.h (w.φ i) l) {k:V} {x:Value} (hk:Y4 k=true) (ra:w.vr κ k x) {v:V} {es':St} (h:D2w c i l k w.es=.ok v es'):
  wpAny κ.m A (call (.builtin "dict.pop") [.ref (w.φ i),x]) (A1 κ [] w es' (E5 κ v)) D1 w.s:=by
 refine lfn h λr h3 h2=>B8 h2 λu s2 h4 h5=>?_
 obtain ⟨rfl,rfl⟩:=A3 h5
 obtain ⟨g1,g2⟩:=A7d h3
 rcases H7 g1 ra with ⟨g3,at',g4,g5⟩ | ⟨g3,_⟩
 ·refine C5 (H3 rd (A3v g2) g3) λks hm hv=>?_
  clear rd
  refine L8 (id hm) λ_ _ _ _ _ _ _ _ hnd=>?_
  obtain ⟨r1,r2⟩:=r
  obtain ⟨⟨x,hx,rx⟩,hv'⟩:=A1w (c:=c) g4 hv hnd g2
  obtain ⟨hl',hs⟩:=B0i h4
  have hpart:∀ {key:Value},at'.is key=true->(keyPart key).isSome=true:=λ{key} q=>by
   rcases D2.is_shape q with ⟨_,_,_,rfl⟩ | ⟨_,_,_,rfl⟩<;>rfl
  have hne:es'.n=w.es.n:=by refine O8 (s8 hs) λ_ _ q44'=>?_; subst q44'; rfl
  refine call_meetsIn PySem.F.slot_dict_pop hm.typeIs PySem.F.entry_dict_pop (PySem.F.args_dict_pop_2 _ _) (meets_dict_pop_there (C0 κ.prog κ.wld) (w.φ i) g5 [] (.inl rfl) (hpart g5)) ⟨ks,x,hm,by have:=I.sm hi; rw [<- hv.length]; exact aJ hlen (by decide),hx,λh' hm' hsb=>?_⟩
  have up:Up w.φ w.n w.h w.φ w.n h':=⟨λa o ho hT hu=>(hsb.2 a λq=>hu i hi q.symm).trans ho,λ_ _=>rfl,λi h1 h2=>absurd h2 (bq.mpr h1),aG _⟩
  refine L9 (s':={ w.s with heap:=h',toks:=w.s.toks + 1 }) (R:=E5 κ r1) I hs hg hsb ⟨rfl,rfl,rfl⟩ (.inl ⟨rfl,λ_ _=>by simp,λ_ _=>by simp⟩) (by simp) (let ⟨o,_,_,ho,_⟩:=hm'; ⟨o,ho⟩) (λup=>⟨hl',.inl ⟨_,hm',hv'.up up⟩⟩) ?_
  show A4 κ w.φ es'.n h' r1 x
  rw [hne]; exact rx.up up
 ·rw [A2a hk] at g3; cases g3
theorem D3d {c:Cx} (I:A7 κ w) {i:Nat} {l:List (V×V)} (hg:w.es.t.get i=some (.dict l)) {n:Nat} {vs:List V} {xs:List Value} (rv:w.vrs κ vs xs) {v:V} {es':St} (h:B9h c i l n vs w.es=.ok v es'):
  wpAny κ.m A (call (.builtin (dId n)) (.ref (w.φ i)::xs)) (A1 κ [] w es' (E5 κ v)) D1 w.s:=
 O8 (I.obj _ _ hg) λhi hlen rd=>B0c (P:=λn vs=>w.vrs κ vs xs->wpAny κ.m A (call (.builtin (dId n)) (.ref (w.φ i)::xs)) (A1 κ [] w es' (E5 κ v)) D1 w.s) h
  (λk hk h rv=>vr1 (P:=λxs=>wpAny κ.m A (call (.builtin "dict.pop") (.ref (w.φ i)::xs)) (A1 κ [] w es' (E5 κ v)) D1 w.s) rv λx ra=>C1b I hg hi hlen rd hk ra h)
  (λk d hk h rv=>by
   induction rv using VRels.elC with
   | cons ra rb=>exact vr1 (P:=λxs=>wpAny κ.m A (call (.builtin "dict.get") (.ref (w.φ i)::_::xs)) (A1 κ [] w es' (E5 κ v)) D1 w.s) rb λy rb=>C2e I hi rd hk ra rb h) rv
theorem B4z (x:Str) (ys:List Str):Txt.join x ys=Str.join x ys:=by
 exact StrLaws.glued_eq_join x ys
theorem D7f {φ:Nat->Addr} {n:Nat} {h:Heap} {v:V} {x:Value} {m:Nat} {P:Value->Prop} (e:D7h v=some m) (r:A4 κ φ n h v x) (k:∀ y t,SV m y->P (.str y t)):P x:=by
 have r':A4 κ φ n h (.str m) x:=B1e e ▸ r
 induction r' using A4.elS with
 | str q=>exact k _ _ q
theorem B5m {φ:Nat->Addr} {n:Nat} {h:Heap} {l:List V} {xs:List Value} (r:VRels κ φ n h l xs):∀ {m:List Nat},A0w l=some m->∃ ys,StrsAre xs ys/\ys.length=m.length/\∀ p ∈ m.zip ys,SV p.1 p.2:=
 VRels.ind (P:=λl xs=>∀ {m:List Nat},A0w l=some m->∃ ys,StrsAre xs ys/\ys.length=m.length/\∀ p ∈ m.zip ys,SV p.1 p.2) (λe=>ac e ▸ ⟨[],.nil,rfl,λp hp=>nomatch hp⟩)
  (λa _ ih m e=>E6 e λk hk e=>E6 e λm' hm e=>E2 (ih hm) λys h1 h2 h3=>D7f (P:=λx=>∃ ys,StrsAre (x::_) ys/\ys.length=m.length/\∀ p ∈ m.zip ys,SV p.1 p.2) hk a λy t hx=>ac e ▸ ⟨y::ys,.cons _ _ h1,congrArg (· + 1) h2,λp hp=>(aE.mp hp).elim (λq=>q ▸ hx) (h3 p)⟩) r
theorem B0a {s:Nat} {x:Str} (hx:SV s x):∀ {m:List Nat} {ys:List Str},ys.length=m.length->(∀ p ∈ m.zip ys,SV p.1 p.2)->SV (B0o s m) (Str.join x ys)
 | [],[],_,_=>⟨rfl,rfl⟩
 | [a],[y],_,h=>h (a,y) (by simp)
 | a::b::m,y::z::ys,hl,h=>by
  have ih:=B0a hx (m:=b::m) (ys:=z::ys) (by simpa using hl) λp hp=>h p (by rw [bn]; exact aH _ hp)
  have h1:=h (a,y) (by simp)
  exact (SV.cat (SV.cat h1 hx) ih)
 | [],_::_,hl,_=>by cases hl
 | _::_,[],hl,_=>by cases hl
 | [_],_::_::_,hl,_=>by simp at hl
 | _::_::_,[_],hl,_=>by simp at hl
theorem A7a (x:Str):∀ ys:List Str,(ys.map (·.length)).sum + (ys.length - 1) * x.length=(Str.join x ys).length
 | []=>by simp [Str.join,Str.empty,Str.length]
 | [y]=>by simp [Str.join]
 | y::z::ys=>by
  have ih:=A7a x (z::ys)
  have e:Str.join x (y::z::ys)=y++x++Str.join x (z::ys):=rfl
  have al:∀ a b:Str,(a++b).length=a.length + b.length:=λa b=>by
   show (a.cps++b.cps).size=_
   rw [Array.size_append]; rfl
  rw [e,al,al,<- ih]
  simp only [bE,List.sum_cons,bh,Nat.add_sub_cancel]
  rw [Nat.succ_mul]
  omega
theorem B0x {P:Nat->List V->Prop} {s n:Nat} {vs:List V} {es es':St} {v:V} (h:D6p s n vs es=.ok v es') (k:∀ u,s < 2 ^ 8000->C5d u (λ_ l=>D3 (lift (A0w l)) λm=>mkS (B0o s m)) es=.ok v es'->P 1785686382 [u]):P n vs:=by
 induction vs using av with
 | nil=>exact (A0 (s:=es) h).elim
 | cons u r=>induction r using av with
  | nil=>exact cF (s:=es) h λhb h=>b2 hb λb1 b2=>A8i (P:=λn=>P n [u]) b1 (k u (aj b2) h)
  | cons _ _=>exact (A0 (s:=es) h).elim
theorem D5b (I:A7 κ w) {s n:Nat} {x:Str} {t:Tok} (hx:SV s x) {vs:List V} {xs:List Value} (rv:w.vrs κ vs xs) {v:V} {es':St} (h:D6p s n vs w.es=.ok v es'):
  wpAny κ.m A (call (.builtin "str.join") (.str x t::xs)) (A1 κ [] w es' (E5 κ v)) D1 w.s:=
 B0x (P:=λ_ vs=>w.vrs κ vs xs->wpAny κ.m A (call (.builtin "str.join") (.str x t::xs)) (A1 κ [] w es' (E5 κ v)) D1 w.s) h (λu hs8 h rv=>vr1 (P:=λxs=>wpAny κ.m A (call (.builtin "str.join") (.str x t::xs)) (A1 κ [] w es' (E5 κ v)) D1 w.s) rv λy ru=>
  B1u (P:=λy=>wpAny κ.m A (call (.builtin "str.join") [.str x t,y]) (A1 κ [] w es' (E5 κ v)) D1 w.s) I ru h λi l items _ _ hp _ hv h=>lfn h λm hm h2=>by
   refine O8 (B9q h2) λh5 q45' q46'=>?_; subst q45'; subst q46'
   refine E2 (B5m hv hm) λys g1 g2 g3=>?_
   have sv:=B0a hx g2 g3
   have l1:=sv.short h5
   have l2:=hx.short hs8
   have l3:=A7a x ys
   refine join_list hp.isList g1 ?_ λt' k=>?_
   ·induction hy:ys using av with
    | nil=>simp
    | cons y ys'=>
     rw [<- hy]
     have:ys.length=(ys.length - 1) + 1:=by rw [hy]; simp
     rw [this,Nat.succ_mul]; omega
   ·rw [B4z x ys]
    exact A1.toks I (.str sv)) rv
end
section
variable {κ:Kx} {rn:F5} {f n:Nat} {nm:List (Str×aK)}
theorem C4a {es:List Expr} (hns:es.all A9=true) (hlen:es.length < 30) (pos:Pos) (env:PySem.Env):methodCallForm (es.length + ([]:List Keyword).length) (backTo pos (starEach es env)) (backToKw pos (keywordEach [] env))=true:=by
 unfold methodCallForm
 have h1:(backTo pos (starEach es env)).all (λx=>!x.1)=true:=by
  have:=L3 hns pos env
  rw [List.all_eq_not_any_not]
  simpa using this
 have h2:backToKw pos (keywordEach [] env)=[]:=rfl
 rw [h1,h2]
 simp [hlen]
theorem D6v (KO:U8 κ) (RO:X2 κ f rn) {m:Nat} {name:Str} (hm:SV m name) {o:CX} {l:CL} {e:Expr} {es:List Expr} {apos pos:Pos} (hs:U9 e=true) (hline:(apos.endLine == pos.line)=true) (hlen:es.length < 30) (hns:es.all A9=true)
  (ho:SX κ rn (f + 1) n nm o e) (hl:SLs κ rn (f + 1) n nm l es):SE κ rn (f + 1) n nm (F2d o m l) (.Call (.Attribute e name apos) es [] pos):=
 SE.value (λA c ev env w hA hc I r hn v es' h=>by
  refine A2 h λov s1 h1 h2=>?_
  refine A2 h2 λk s2 h3 h4=>?_
  refine A2 h4 λvs s3 h5 h6=>?_
  rw [arm_eval_Call,w4 hs]
  refine ab (af (ho A c ev env w hA hc I r hn ov s1 h1) (λval s₁ p=>?_) λ_ _ x=>x)
  obtain ⟨φ1,le,inv,hr⟩:=p
  refine ab (aZ ?_)
  have hform:=C4a hns hlen pos env
  have hpos:methodCallPos true e env apos pos=pure pos:=by unfold methodCallPos; simp [hline]
  unfold methodCall
  rw [hform]
  refine ab (aF ?_)
  show wpAny κ.m A (getMethod val name _) _ _ _
  have blt:∀ (id:String) (first:Value),s2=s1->(∀ (w2:W),Le [] ⟨φ1,s1,s₁⟩ w2->A7 κ w2->w2.es=s3->∀ xs,w2.vrs κ vs xs->wpAny κ.m A (call (.builtin id) (first::xs)) (A1 κ [] w2 es' (E5 κ v)) D1 w2.s)->
    wpAny κ.m A (methodCallPos true e env apos pos >>= λcallPos=>callWith callPos (.builtin id) [first] (backTo pos (starEach es env)) (backToKw pos (keywordEach [] env))) (A1 κ [] w es' (E5 κ v)) D1 s₁:=λid first e2 g=>by
   subst e2
   refine ab (wpAny_of_eq hpos ?_)
   refine Calls.callWith_builtin (L3 hns _ _) (E3 hns (af (hl pos A c ev env ⟨φ1,s2,s₁⟩ hA hc inv (r.le le) hn vs s3 h5) (λxs s₂ p=>?_) λ_ _ x=>x))
   obtain ⟨φ2,le2,inv2,hv⟩:=p
   exact af (g ⟨φ2,s3,s₂⟩ le2 inv2 rfl xs hv) (λ_ _ p=>p.lift (le.comp le2)) λ_ _ x=>x
  induction hr using A4.el with
  | @str sn x t hx=>
   obtain ⟨rfl,e2⟩:=A3 (s:=s1) h3
   have hn':m=1785686382:=B0x (P:=λm _=>m=1785686382) h6 λ_ _ _=>rfl
   subst hn'
   rw [C4m hm]
   refine getMethod_builtin (typeIs_str _ _ _) PySem.F.plainAttrs_str PySem.F.slot_str_join PySem.F.type_str_join (λa e=>by cases e) ?_
   exact blt "str.join" (.str x t) e2 λw2 le2 inv2 e3 xs hv=>by
    subst e3
    exact D5b (A:=A) inv2 hx hv h6
  | @ref hd a hk e0=>
   subst e0
   refine B8 (s:=s1) h3 λob s4 h7 h8=>?_
   obtain ⟨h9,e4⟩:=Q4 h7
   subst e4
   obtain ⟨hi,rob⟩:=inv.obj _ _ h9
   induction ob using O.casesOn with
   | list lv=>
    obtain ⟨rfl,e2⟩:=A3 (s:=s4) h8
    refine E2 rob λitems q47' _ _=>?_; clear rob; obtain ⟨ne,hob⟩:=q47'
    refine B8 (s:=s3) h6 λo2 s5 h10 h11=>?_
    obtain ⟨h12,e5⟩:=Q4 h10
    induction o2 using O.casesOn with
    | list lv2=>
     have h13:B5f hd lv2 m vs s5=.ok v es':=h11
     obtain ⟨sl,ty⟩:=B3m h13 hm
     have hob':s₁.heap.get? (φ1 hd)=some _:=hob
     refine getMethod_builtin (T:="list") ⟨_,hob',rfl⟩ PySem.F.plainAttrs_list sl ty (λa e=>by cases e; exact ⟨_,hob',rfl⟩) ?_
     refine blt (lId m) (.ref (φ1 hd)) e2 λw2 le2 inv2 e3 xs hv=>?_
     subst e3
     rw [<- show w2.φ hd=φ1 hd from le2.same hd hi]
     subst e5
     exact D7v inv2 h12 hv h13
    | _=>exact (A0 (s:=s5) h11).elim
   | dict lv=>
    obtain ⟨rfl,e2⟩:=A3 (s:=s4) h8
    refine E2 (H4.plain rob.2) λob hob hcl hdn=>?_
    refine B8 (s:=s3) h6 λo2 s5 h10 h11=>?_
    obtain ⟨h12,e5⟩:=Q4 h10
    induction o2 using O.casesOn with
    | dict lv2=>
     have h13:B9h c hd lv2 m vs s5=.ok v es':=h11
     obtain ⟨sl,ty⟩:=B1y h13 hm
     have hob':s₁.heap.get? (φ1 hd)=some ob:=hob
     refine getMethod_builtin (T:="dict") ⟨_,hob',hcl⟩ PySem.F.plainAttrs_dict sl ty (λa e=>by cases e; exact ⟨_,hob',hdn⟩) ?_
     refine blt (dId m) (.ref (φ1 hd)) e2 λw2 le2 inv2 e3 xs hv=>?_
     subst e3
     rw [<- show w2.φ hd=φ1 hd from le2.same hd hi]
     subst e5
     exact D3d inv2 h12 hv h13
    | _=>exact (A0 (s:=s5) h11).elim
   | inst kc lv=>
    have h8':@Option.rec V (λ_=>M MK) (D3 (lift (Tr.get H1 kc)) λcl=>D3 (lift (A8 m cl.ms)) λf=>D7 (.fn f)) (λ_=>A5) (A8 m lv) s4=.ok k s2:=h8
    cases hlk:A8 m lv with
    | some _=>rw [hlk] at h8'; exact (A0 (s:=s4) h8').elim
    | none=>
     rw [hlk] at h8'
     refine lfn (s:=s4) h8' λcl g3 g2=>?_
     refine lfn g2 λfk g6 g5=>?_
     obtain ⟨rfl,e7⟩:=A3 g5
     subst e7
     refine H6 rob λod q48' hlt es0 ep hd0 hsk hcl hdn hsz hat=>?_; clear rob; refine kAE q48' λIA cl' hcl0=>?_; clear q48'
     refine O8 (KO.mth kc cl m name fk g3 g6 hm) λq1 q2 q3=>?_
     obtain ⟨k1,_⟩:=c5 (KO.cok kc cl g3)
     have hop:=hat m name hm
     rw [hlk] at hop
     have hnone:nsFind es0 name=none:=by
      induction hy:nsFind es0 name using ae with
      | none=>rfl
      | some y=>rw [hy] at hop; exact hop.elim
     refine method_fn (s:=s₁) (KO.kin.keeps inv.base) IA (plainGet_of k1).1 (plainGet_of k1).2 q2 q3 (by show (lookIn name od).map _=_; rw [A2v hd0 hsk,hnone]; rfl) ?_
     refine ab (wpAny_of_eq hpos ?_)
     have h6':rn c fk ([V.ref hd]++vs) s3=.ok v es':=h6
     exact af (A5c (pos:=pos) (pos':=pos) KO RO q1 (w:=⟨φ1,s2,s₁⟩) hA hc inv (r.le le) hn hns hl (fv:=[.ref hd]) (first:=[.ref (φ1 hd)]) (.cons (.ref hi rfl) .nil) h5 h6') (λ_ _ p=>p.lift le) λ_ _ x=>x
   | _=>exact (A0 (s:=s4) h8).elim
  | _=>exact (A0 (s:=s1) h3).elim) λ_ _=>rfl
end
noncomputable def A8e:List Nat->CTL
 | []=>D6g
 | i::l=>B0d (A4z i) (A8e l)
noncomputable def Z5:List (Nat×V)->List (Nat×V)->List (Nat×V)
 | [],l=>l
 | p::r,l=>Z5 r (G0 p.1 p.2 l)
theorem W0 {j:Nat}:∀ (ps l:List (Nat×V)),j ∉ ps.map (·.1)->A8 j (Z5 ps l)=A8 j l
 | [],l,_=>rfl
 | p::r,l,h=>by
  rw [bE,aE,not_or] at h
  show A8 j (Z5 r (G0 p.1 p.2 l))=_
  rw [W0 r _ h.2,M2,if_neg h.1]
theorem A1h {j:Nat} {v:V}:∀ (ps l:List (Nat×V)),(ps.map (·.1)).Nodup->(j,v) ∈ ps->A8 j (Z5 ps l)=some v
 | [],l,_,h=>nomatch h
 | p::r,l,hn,h=>by
  rw [bE,br] at hn
  show A8 j (Z5 r (G0 p.1 p.2 l))=_
  rcases aE.mp h with rfl | h
  ·rw [W0 r _ hn.1,M2,if_pos rfl]
  ·exact A1h r _ hn.2 h
theorem B3i {ps:List (Nat×V)} (hn:(ps.map (·.1)).Nodup) (l:List (Nat×V)) (j:Nat):A8 j (Z5 ps.reverse l)=A8 j (Z5 ps l):=by
 have hr:(ps.reverse.map (·.1)).Nodup:=by rw [List.map_reverse]; exact List.pairwise_reverse.mpr (hn.imp Ne.symm)
 by_cases h:j ∈ ps.map (·.1)
 ·refine C5 (List.mem_map.mp h) λq63' hm e=>?_; obtain ⟨i,v⟩:=q63'
  have e:i=j:=e
  subst e
  rw [A1h _ _ hn hm,A1h _ _ hr (List.mem_reverse.mpr hm)]
 ·rw [W0 _ _ h,W0 _ _ (by rw [List.map_reverse,List.mem_reverse]; exact h)]
theorem B1i {rn:F5} {c:Cx}:∀ {is:List Nat} {vs:List V} {e e':Mine.Env} {s s':St},A8e is rn c e vs s=.ok e' s'->is.length=vs.length/\e'=⟨Z5 (is.zip vs) e.ls,e.cs⟩/\s'=s
 | [],[],e,e',s,s',h=>by cases h; exact ⟨rfl,rfl,rfl⟩
 | [],_::_,e,e',s,s',h=>by cases h
 | _::_,[],e,e',s,s',h=>by cases h
 | i::is,v::vs,e,e',s,s',h=>by
  have h':bd (A4z i rn c e v s) (λe'=>A8e is rn c e' vs)=.ok e' s':=h
  refine A2 h' λe1 s1 h1 h2=>?_
  cases h1
  refine O8 (B1i h2) λh3 h4 h5=>?_
  exact ⟨by simp [h3],h4,h5⟩
theorem C8.looks {κ:Kx} {w:W} {e e':Mine.Env} {env:PySem.Env} (r:C8 κ w e env) (h:∀ j,A8 j e'.ls=A8 j e.ls) (hc:e'.cs=e.cs):C8 κ w e' env:=by
 refine C5 r.ns λm hm hv=>?_
 exact ⟨r.kind,r.glob,r.blt,⟨m,hm,λi v x h1 h2=>hv i v x ((h i).symm.trans h1) h2⟩,r.nsU,λi v x h1 h2 h3=>r.cell i v x (hc ▸ h1) h2 h3,r.cellU,r.gl,r.apart,r.fresh,r.cellD,r.cellA,r.code⟩
theorem A7f:∀ {is:List Nat} {names:List Str},names.Nodup->is.length=names.length->(∀ q ∈ is.zip names,SV q.1 q.2)->is.Nodup
 | [],_,_,_,_=>List.nodup_nil
 | i::is,[],_,hl,_=>by cases hl
 | i::is,x::names,hn,hl,hs=>by
  rw [br] at hn
  have hl':is.length=names.length:=by simpa using hl
  refine br.mpr ⟨λhm=>?_,A7f hn.2 hl' λq hq=>hs q (by rw [bn]; exact aH _ hq)⟩
  obtain ⟨k,hk,e⟩:=List.mem_iff_getElem.mp hm
  have hk':k < names.length:=by omega
  have h1:(i,names[k]) ∈ is.zip names:=by
   rw [List.mem_iff_getElem]
   exact ⟨k,by rw [List.length_zip]; omega,by rw [List.getElem_zip,e]⟩
  have h2:=hs _ (by rw [bn]; exact aH _ h1)
  have h3:=hs (i,x) (by simp)
  have:x=names[k]:=SV.inj h3 h2
  exact hn.1 (this ▸ List.getElem_mem hk')
section
variable {κ:Kx} {rn:F5} {f n:Nat} {nm:List (Str×aK)}
inductive Sto (κ:Kx) (nm:List (Str×aK)) (w:W):List (Nat×V)->List Str->List Value->Prop
 | nil:Sto κ nm w [] [] []
 | cons {i:Nat} {v:V} {x:Str} {y:Value} {ps:List (Nat×V)} {xs:List Str} {ys:List Value}:SV i x->nm.lookup x=some .local->w.vr κ v y->Sto κ nm w ps xs ys->Sto κ nm w ((i,v)::ps) (x::xs) (y::ys)
theorem Sto.le {X:List Addr} {w w':W} (l:Le X w w') {ps:List (Nat×V)} {xs:List Str} {ys:List Value} (s:Sto κ nm w ps xs ys):Sto κ nm w' ps xs ys:=by
 induction s with
 | nil=>exact .nil
 | cons a b c _ ih=>exact .cons a b (l.vr c) ih
theorem Sto.snoc {w:W} {i:Nat} {v:V} {x:Str} {y:Value} {ps:List (Nat×V)} {xs:List Str} {ys:List Value} (s:Sto κ nm w ps xs ys) (a:SV i x) (b:nm.lookup x=some .local) (c:w.vr κ v y):Sto κ nm w (ps++[(i,v)]) (xs++[x]) (ys++[y]):=by
 induction s with
 | nil=>exact .cons a b c .nil
 | cons a' b' c' _ ih=>exact .cons a' b' c' ih
theorem Sto.rev {w:W} {ps:List (Nat×V)} {xs:List Str} {ys:List Value} (s:Sto κ nm w ps xs ys):Sto κ nm w ps.reverse xs.reverse ys.reverse:=by
 induction s with
 | nil=>exact .nil
 | cons a b c _ ih=>
  rw [List.reverse_cons,List.reverse_cons,List.reverse_cons]
  exact ih.snoc a b c
theorem B9d {w:W}:∀ {is:List Nat} {vs:List V} {xs:List Str} {ys:List Value},is.length=xs.length->is.length=vs.length->(∀ q ∈ is.zip xs,SV q.1 q.2)->(∀ x ∈ xs,nm.lookup x=some .local)->w.vrs κ vs ys->Sto κ nm w (is.zip vs) xs ys
 | [],[],[],_,_,_,_,_,r=>by cases r; exact .nil
 | i::is,v::vs,x::xs,_,h1,h2,h3,h4,r=>by
  cases r with
  | cons a b=>
   exact .cons (h3 (i,x) (by simp)) (h4 x aP) a (B9d (by simpa using h1) (by simpa using h2) (λq hq=>h3 q (by rw [bn]; exact aH _ hq)) (λx hx=>h4 x (aH _ hx)) b)
 | [],[],_::_,_,h1,_,_,_,_=>by cases h1
 | [],_::_,_,_,_,h2,_,_,_=>by cases h2
 | _::_,[],_,_,_,h2,_,_,_=>by cases h2
 | _::_,_::_,[],_,h1,_,_,_,_=>by cases h1
theorem A3f {A:aI} {env:PySem.Env} (hn:env.scope.names=nm):∀ {ps:List (Nat×V)} {xs:List Str} {ys:List Value} {w:W} {e:Mine.Env},A7 κ w->C8 κ w e env->Sto κ nm w ps xs ys->
  wpAny κ.m A (assignInOrder (xs.map λn=>bindName env n) ys) (A1 κ (X4 env) w w.es λw' _=>C8 κ w' ⟨Z5 ps e.ls,e.cs⟩ env) D1 w.s
 | _,_,_,w,e,I,r,.nil=>ag (A1.here I r)
 | _,_,_,w,e,I,r,.cons (i:=i) (v:=v) (x:=x) (y:=y) (ps:=ps) (xs:=xs) (ys:=ys) a b c s=>by
  show wpAny κ.m A (do holding ys (bindName env x y); assignInOrder (xs.map λn=>bindName env n) ys) _ _ _
  refine ab (aF (W1 (af (V9 (X:=X4 env) I aP r a (by unfold aS; rw [hn]; exact b) c) (λ_ s₁ p=>?_) λ_ _ x=>x)))
  obtain ⟨φ1,le,inv,r1⟩:=p
  exact af (A3f hn (w:=⟨φ1,w.es,s₁⟩) inv r1 (s.le le)) (λ_ _ p2=>p2.lift le) λ_ _ x=>x
theorem C9e {is:List Nat} {names:List Str} {l:CL} {ts es:List Expr} {k k2:Nat} {p1 p2 pos:Pos} (hsw:∀ env:PySem.Env,env.scope.names=nm->env.blockKind=.function->swappedStores [.Tuple ts k p1] (.Tuple es k2 p2) env=pure (some names))
  (hnd:names.Nodup) (hx:is.length=names.length/\∀ q ∈ is.zip names,SV q.1 q.2) (hk:∀ y ∈ names,nm.lookup y=some .local) (hl:SLs κ rn f n nm l es):SS κ rn f n nm (R7 (B5b (A8e is)) (D3l l)) (.Assign [.Tuple ts k p1] (.Tuple es k2 p2) pos):=λA c ev env w fl es' hA hc I r hn h=>by
 refine A2 h λv s1 h1 h2=>?_
 refine A2 h2 λev' s2 h3 h4=>?_
 cases h4
 refine Assign_Tuple_swapped (af ((B6v (pos:=p2) (k:=k2) hl).1 A c ev env w hA hc I r hn v s1 h1) (λval s₁ p=>?_) λ_ _ x=>x) rfl (hsw env hn r.block)
 obtain ⟨φ1,le,inv,hr⟩:=p
 refine A2 h3 λvs s3 h5 h6=>?_
 refine A1y (B9x (w:=⟨φ1,s1,s₁⟩) inv hA.handled hr h5) λe3 xs hxs g=>?_
 have e3':s3=s1:=e3
 subst e3'
 refine O8 (B1i h6) λg1 g2 g3=>?_
 subst g3
 have hlen:names.length=vs.length:=by rw [<- hx.1]; exact g1
 rw [hlen]
 refine g λh' hkp=>?_
 have I2:A7 κ ⟨φ1,es',{ s₁ with heap:=h' }⟩:=A7.grow (w:=⟨φ1,es',s₁⟩) inv hkp
 have L2:Le [] ⟨φ1,es',s₁⟩ ⟨φ1,es',{ s₁ with heap:=h' }⟩:=Le.grow (w:=⟨φ1,es',s₁⟩) hkp ⟨rfl,rfl,rfl⟩
 have st:=(B9d (w:=⟨φ1,es',{ s₁ with heap:=h' }⟩) hx.1 g1 hx.2 hk (L2.vrs hxs)).rev
 refine af (A3f hn (w:=⟨φ1,es',{ s₁ with heap:=h' }⟩) I2 (r.le (le.comp L2)) st) (λ_ s₂ p2=>?_) λ_ _ x=>x
 obtain ⟨φ2,le2,inv2,r2⟩:=p2
 have nd:((is.zip vs).map (·.1)).Nodup:=by
  have:(is.zip vs).map (·.1)=is:=by rw [List.map_fst_zip (Nat.le_of_eq g1)]
  rw [this]; exact A7f hnd hx.1 hx.2
 refine ⟨φ2,(le.comp L2).nil.comp le2,inv2,rfl,?_⟩
 rw [g2]
 exact r2.looks (λj=>(B3i nd _ j).symm) rfl
end
theorem A3p:entryFor table "zip.__getattribute__"=some Builtin.«object.__getattribute__»:=
 entryFor_alias (id':="object.__getattribute__") (by kernel_rfl) (by decide +kernel) (by decide +kernel) (by kernel_rfl)
theorem A1s:typeLookup (.type "zip") "keys"=pure none:=by rw [typeLookup_type,builtinLookup_eq_fast]; kernel_rfl
theorem f8:typeLookup (.type "zip") "__getattr__"=pure none:=by rw [typeLookup_type,builtinLookup_eq_fast]; kernel_rfl
theorem B3n:(["__module__","__name__","__qualname__","__doc__","__annotations__"]:List Str).contains "keys"=false:=by decide +kernel
theorem A1c (a:Addr) (vs:Array Value) (u:Tok):
  Meets (Builtin.«object.__getattribute__» ⟨[.ref a,.str "keys" u],[]⟩) (λA R s=>s.heap.get? a=some { cls:=.type "zip",dict:=none,data:=.fields vs,slots:=#[] }/\raisesAttr (.ref a) "keys" A R s):=
 Meets.of_wp λprog w A R s hs=>by
  obtain ⟨hp,g,d,tk,os⟩:=s
  obtain ⟨hx,hs⟩:=hs
  have hT:(⟨hp,g,d,tk,os⟩:ak).TypeIs (.ref a) "zip":=⟨_,hx,rfl⟩
  have hmiss:=A1s
  have hname:=B3n
  have hsz:("keys":Str).length + 100<=sizeLine:=by decide +kernel
  generalize ("keys":Str)=name at *
  unfold Builtin.«object.__getattribute__»
  repeat (any_goals (first | assumption | wp_step))
  simp only [hname,Bool.false_eq_true,if_false]
  repeat (any_goals (first | assumption | wp_step))
  exact wpAny_raiseAttrError hs.1 hs.2 (attrMsg_fits (by decide +kernel) hsz)
section
variable {prog:Program} {wd:World} {A:aI} {E:Value->ak->Prop} {s:ak}
theorem A9b {a:Addr} {vs:Array Value} {Q:Option Value->ak->Prop} (hx:s.heap.get? a=some { cls:=.type "zip",dict:=none,data:=.fields vs,slots:=#[] }) (hA:A.handled=none)
  (h:∀ h' tk,(∀ b o,s.heap.get? b=some o->h'.get? b=some o)->Q none { s with heap:=h',toks:=tk }):wpAny (model prog wd) A (getAttr? (.ref a) "keys") Q E s:=by
 obtain ⟨hp,g,d,tk,os⟩:=s
 have hT:∀ tk',(⟨hp,g,d,tk',os⟩:ak).TypeIs (.ref a) "zip":=λ_=>⟨_,hx,rfl⟩
 have f1:=sub_AttributeError
 have f3:=PySem.F.slot_zip_getattribute.lookup
 have f4:=PySem.F.slot_zip_getattribute.bind (.ref a)
 have f5:=f8
 have hm:=A1c a vs
 generalize ("keys":Str)=name at *
 unfold getAttr? getAttrBy? getAttrBy
 repeat (any_goals (first | assumption | exact hT _ | ((with_reducible show wpAny _ _ (call (Value.builtin "zip.__getattribute__") _ _) _ _ _); refine call_meets PySem.F.slot_zip_getattribute (hT _) A3p (PySem.F.args_zip_getattribute_2 _ _) (hm _) ⟨hx,hA,λh' tk' e hx'=>?_⟩) | wp_step))
 refine kEE hx'.there λt' u' he=>?_
 show wpAny _ _ (getattributeRaised _ _ _ _ _ _ _) _ _ _
 unfold getattributeRaised
 repeat (any_goals (first | assumption | wp_step))
 exact h _ _ hx'.keeps
theorem B9.grow {h h':Heap} {it src:Addr} {items:Array Value} {k:Nat} (r:B9 h it src items k) (e:∀ c o,h.get? c=some o->h'.get? c=some o):B9 h' it src items k:=by
 induction r using B9.casesOn with
 | list a b=>
  refine C5 a λo ho q=>?_; clear a
  refine C5 b λo' ho' q'=>?_; clear b
  exact .list ⟨o,e _ _ ho,q⟩ ⟨o',e _ _ ho',q'⟩
 | tup a b=>
  refine C5 a λo ho q=>?_; clear a
  refine C5 b λo' ho' q'=>?_; clear b
  exact .tup ⟨o,e _ _ ho,q⟩ ⟨o',e _ _ ho',q'⟩
theorem Z8 {M:Model} {a:Addr} {Q:Option Obj->ak->Prop} (h:Q (s.heap.get? a) s):wpAny M A (loadIfAlive a) Q E s:=λΓ p _=>h
noncomputable abbrev z7 (h:Heap) (z TI TO r:Addr) (b:Bool):Prop:=h.get? z=some { cls:=.type "zip",dict:=none,data:=.fields #[rawInt r,.bool b,.bool false,.ref TI,.ref TO],slots:=#[] }
theorem C3f {z TI TO r:Addr} {b:Bool} {o:Obj} {Q:Bool->ak->Prop} (hz:z7 s.heap z TI TO r b) (hr:s.heap.get? r=some o) (hQ:∀ h',z7 h' z TI TO r true->bY z s.heap h'->Q false { s with heap:=h' }):
  wpAny (model prog wd) A (aW (.ref z)) Q E s:=by
 unfold aW
 refine ab (bk hz rfl (x:=rawInt r) rfl ?_)
 show wpAny _ _ (loadIfAlive ((r:Int).toNat) >>= _) _ _ _
 refine ab (Z8 ?_)
 rw [Int.toNat_natCast,hr]
 simp only [Option.isNone_some,Bool.false_eq_true,if_false]
 refine ab (bk hz rfl (x:=.bool b) rfl ?_)
 induction b using ao with
 | true=>
  simp only [bne_self_eq_false,Bool.false_eq_true,if_false]
  exact ag (hQ _ hz ⟨rfl,λ_ _=>rfl⟩)
 | false=>
  rw [if_pos (by decide)]
  refine ab (wpAny_setField_rec hz (by simp) λh' hz' hs=>?_)
  exact ag (hQ h' hz' hs)
theorem B8f {z TI TO i1 i2 l1 l2 r:Addr} {b:Bool} {o:Obj} {xs ys:Array Value} {k1 k2:Nat} {a0 b0:Value} {Q:Value->ak->Prop} (hh:A.handled=none) (D:ZipApart z TI TO i1 i2 l1 l2)
  (hz:z7 s.heap z TI TO r b) (hr:s.heap.get? r=some o) (hTI:bM s.heap TI (.ref i1) (.ref i2)) (h1:B9 s.heap i1 l1 xs k1) (h2:B9 s.heap i2 l2 ys k2)
  (hQ:∀ x y,xs[k1]?=some x->ys[k2]?=some y->∀ h' p,z7 h' z TI TO r true->B9 h' i1 l1 xs (k1 + 1)->B9 h' i2 l2 ys (k2 + 1)->bM h' p x y->s.heap.get? p=none->
   (∀ c o,c≠z->c≠i1->c≠i2->s.heap.get? c=some o->h'.get? c=some o)->Q (.ref p) { s with heap:=h' })
  (hE:(xs[k1]?=none∨ys[k2]?=none)->∀ h' e,(∀ c o,c≠z->c≠i1->c≠i2->s.heap.get? c=some o->h'.get? c=some o)->(∃ o,h'.get? e=some o/\o.cls=.type "StopIteration")->E (.ref e) { s with heap:=h' }):
  wpAny (model prog wd) A (Builtin.«zip.__next__» ⟨[.ref z],[]⟩) (λfin s'=>∃ v,fin=.done (.ret v)/\Q v s') E s:=by
 show wpAny _ _ (field (.ref z) 2 >>= _) _ _ _
 refine ab (bk hz rfl (x:=.bool false) rfl ?_)
 show wpAny _ _ (field (.ref z) 3 >>= _) _ _ _
 refine ab (bk hz rfl (x:=.ref TI) rfl (ab (bI hTI rfl ?_)))
 show wpAny _ _ (aW (.ref z) >>= _) _ _ _
 refine ab (C3f hz hr λh₁ hz₁ hs₁=>?_)
 simp only [Bool.false_eq_true,if_false]
 rw [<- Array.forIn_toList]
 refine ab ?_
 simp only [List.forIn_cons,List.forIn_nil]
 have h1':=h1.ext hs₁.extBut D.i1z D.l1z
 have h2':=h2.ext hs₁.extBut D.i2z D.l2z
 refine ab (ab (aF ?_))
 show wpAny _ _ (aT (.ref i1) >>= _) _ _ _
 induction hx:xs[k1]? using ae with
 | none=>
  refine ab (Q7 hh h1' hx λh₂ e hs₂ he=>?_)
  exact hE (.inl hx) h₂ e (λc o c1 c2 c3 q=>hs₂ _ _ c2 (hs₁.extBut _ _ c1 q)) he
 | some x=>
  refine ab (J7 h1' hx D.l1i1 λh₂ h1₂ hs₂=>ag (ag ?_))
  refine ab (ab (aF ?_))
  show wpAny _ _ (aT (.ref i2) >>= _) _ _ _
  have h2₂:=h2'.ext hs₂.extBut D.i12.symm D.l2i1
  induction hy:ys[k2]? using ae with
  | none=>
   refine ab (Q7 hh h2₂ hy λh₃ e hs₃ he=>?_)
   exact hE (.inr hy) h₃ e (λc o c1 c2 c3 q=>hs₃ _ _ c3 (hs₂.extBut _ _ c2 (hs₁.extBut _ _ c1 q))) he
  | some y=>
   refine ab (J7 h2₂ hy D.l2i2 λh₃ h2₃ hs₃=>ag (ag (ag ?_)))
   refine ab (wpAny_newTuple (items:=[x,y]) ?_ (by show 2<=sizeLine; decide))
   refine ag ⟨_,rfl,?_⟩
   have hsz:h₃.objs.size=s.heap.objs.size:=by rw [hs₃.1,hs₂.1,hs₁.1]
   have hk:∀ c o,c≠z->c≠i1->c≠i2->s.heap.get? c=some o->h₃.get? c=some o:=λc o c1 c2 c3 q=>hs₃.extBut _ _ c3 (hs₂.extBut _ _ c2 (hs₁.extBut _ _ c1 q))
   refine hQ x y hx hy _ _ (ai _ (hs₃.extBut _ _ D.i2z.symm (hs₂.extBut _ _ D.i1z.symm hz₁))) ?_ ?_ (ax _ rfl) ?_ λc o c1 c2 c3 q=>ai _ (hk c o c1 c2 c3 q)
   ·exact (h1₂.ext hs₃.extBut D.i12 D.l1i2).grow λc o q=>ai _ q
   ·exact h2₃.grow λc o q=>ai _ q
   ·rw [hsz]; exact B5
structure ZOk (h:Heap) (z TI TO i1 i2 l1 l2 D:Addr) (xs ys:Array Value) (k m:Nat):Prop where
 zip:IsZip h z TI TO .none∨∃ r b o,z7 h z TI TO r b/\h.get? r=some o/\r ∉ [z,i1,i2,TO,D]
 ti:bM h TI (.ref i1) (.ref i2)
 to:∃ a b,bM h TO a b
 s1:B9 h i1 l1 xs k
 s2:B9 h i2 l2 ys m
theorem ZOk.ext {h h':Heap} {z TI TO i1 i2 l1 l2 D:Addr} {xs ys:Array Value} {k m:Nat} (Z:ZOk h z TI TO i1 i2 l1 l2 D xs ys k m) (e:Heap.ExtBut D h h') (hd:D ∉ [z,TI,TO,i1,i2,l1,l2]):ZOk h' z TI TO i1 i2 l1 l2 D xs ys k m:=by
 simp only [aE,bG,or_false,not_or] at hd
 refine C1t hd λd1 d2 d3 d4 d5 d6 d7=>?_; clear hd
 refine ⟨?_,e _ _ (Ne.symm d2) Z.ti,let ⟨a,b,q⟩:=Z.to; ⟨a,b,e _ _ (Ne.symm d3) q⟩,Z.s1.ext e (Ne.symm d4) (Ne.symm d6),Z.s2.ext e (Ne.symm d5) (Ne.symm d7)⟩
 rcases Z.zip with hz | ⟨r,b,o,hz,hr,hn⟩
 ·exact .inl (e _ _ (Ne.symm d1) hz)
 ·refine .inr ⟨r,b,o,e _ _ (Ne.symm d1) hz,e _ _ (λq=>hn (by rw [q]; simp)) hr,hn⟩
theorem A0b {z TI TO i1 i2 l1 l2 D:Addr} {xs ys:Array Value} {k m:Nat} {Q:Option Value->ak->Prop} (hh:A.handled=none) (DD:ZipApart z TI TO i1 i2 l1 l2) (Z:ZOk s.heap z TI TO i1 i2 l1 l2 D xs ys k m) (hD:∃ o,s.heap.get? D=some o)
  (hQ:∀ x y,xs[k]?=some x->ys[m]?=some y->∀ h' p,ZOk h' z TI TO i1 i2 l1 l2 D xs ys (k + 1) (m + 1)->bM h' p x y->s.heap.get? p=none->(∀ c o,c≠z->c≠TO->c≠i1->c≠i2->s.heap.get? c=some o->h'.get? c=some o)->Q (some (.ref p)) { s with heap:=h' })
  (hN:(xs[k]?=none∨ys[m]?=none)->∀ h',(∀ c o,c≠z->c≠TO->c≠i1->c≠i2->s.heap.get? c=some o->h'.get? c=some o)->(∃ a b,bM h' TO a b)->Q none { s with heap:=h' }):wpAny (model prog wd) A (pyNext (.ref z)) Q E s:=by
 have live:∀ {p:Addr},s.heap.get? p=none->∀ {c:Addr} {o:Obj},s.heap.get? c=some o->p≠c:=λ{p} hp {c o} hc q=>by rw [q,hc] at hp; cases hp
 refine kEE Z.to λa0 b0 hTO=>?_
 have it:∀ {i l:Addr} {items:Array Value} {k:Nat},B9 s.heap i l items k->∃ o,s.heap.get? i=some o:=λq=>by
  induction q using B9.casesOn with
  | list a _=>refine C5 a λo ho _=>?_; clear a; exact ⟨o,ho⟩
  | tup a _=>refine C5 a λo ho _=>?_; clear a; exact ⟨o,ho⟩
 have hz0:∃ o,s.heap.get? z=some o:=by
  rcases Z.zip with hz | ⟨r,b,o,hz,_⟩
  ·exact ⟨_,hz⟩
  ·exact ⟨_,hz⟩
 have fresh:∀ {p:Addr},s.heap.get? p=none->p ∉ [z,i1,i2,TO,D]:=λ{p} hp=>by
  obtain ⟨_,q1⟩:=hz0
  obtain ⟨_,q2⟩:=it Z.s1
  obtain ⟨_,q3⟩:=it Z.s2
  obtain ⟨_,q4⟩:=hD
  simp only [aE,bG,or_false,not_or]
  exact ⟨live hp q1,live hp q2,live hp q3,live hp hTO,live hp q4⟩
 rcases Z.zip with hz | ⟨r,b,o,hz,hr,hn⟩
 ·induction hx:xs[k]? using ae with
  | none=>exact I6 hh DD hz Z.ti hTO Z.s1 Z.s2 (.inl hx) λh' hk hp=>hN (.inl hx) h' hk hp
  | some x=>
   induction hy:ys[m]? using ae with
   | none=>exact I6 hh DD hz Z.ti hTO Z.s1 Z.s2 (.inr hy) λh' hk hp=>hN (.inr hy) h' hk hp
   | some y=>
    refine Q9 DD hz Z.ti hTO Z.s1 Z.s2 hx hy λh' hz' hTO' q1 q2 hp hk=>?_
    exact hQ x y hx hy h' _ ⟨.inr ⟨_,_,_,hz',hp,fresh B5⟩,hk _ _ DD.TIz DD.TITO DD.TIi1 DD.TIi2 Z.ti,⟨x,y,hTO'⟩,q1,q2⟩ hp B5 hk
 ·have hT:s.TypeIs (.ref z) "zip":=⟨_,hz,rfl⟩
  have hn':=hn
  simp only [aE,bG,or_false,not_or] at hn'
  unfold pyNext
  refine ab (wpAny_attempt (bK (name:=aa "__next__") hT PySem.F.slot_zip_next
   (bx PySem.F.slot_zip_next hT PySem.F.entry_zip_next (B8f (a0:=.none) (b0:=.none) hh DD hz hr Z.ti Z.s1 Z.s2 (λx y hx hy h' p g1 g2 g3 g4 g5 hk=>ag ?_) (λhend h' e hk he=>?_)) (PySem.F.args_zip_next_1 _))))
  ·exact hQ x y hx hy h' p ⟨.inr ⟨r,true,o,g1,hk _ _ hn'.1 hn'.2.1 hn'.2.2.1 hr,hn⟩,hk _ _ DD.TIz DD.TIi1 DD.TIi2 Z.ti,⟨a0,b0,hk _ _ DD.TOz DD.TOi1 DD.TOi2 hTO⟩,g2,g3⟩ g4 g5 λc o c1 c2 c3 c4 q=>hk c o c1 c3 c4 q
  ·refine C5 he λoe ho hc=>?_; clear he
   refine ab (wpAny_isInstance (T:="StopIteration") (b:=true) ⟨oe,ho,hc⟩ isSubtype_stop ?_)
   exact ag (hN hend h' (λc o c1 c2 c3 c4 q=>hk c o c1 c3 c4 q) ⟨a0,b0,hk _ _ DD.TOz DD.TOi1 DD.TOi2 hTO⟩)
end
theorem A2d:entryFor table "dict.update.loop"=some Builtin.«dict.update.loop»:=entryFor_of_tree (by kernel_rfl)
theorem V4:plainId "dict.update.loop"=true:=by decide +kernel
section
variable {κ:Kx} {w:W}
theorem A7e (I:A7 κ w) {a:Addr} {it:It} (R:I8 κ w a it) (hn:M7 it=true) {l:List V} {es':St} (h:restOf it w.es=.ok l es'):
  es'=w.es/\∃ src items k,B9 w.h a src items k/\P3 w src/\w.vrs κ l (items.toList.drop k):=by
 induction it using It.casesOn with
 | rng x st k=>cases hn
 | zip _ _ _=>exact (A0 (s:=w.es) h).elim
 | lst hd k=>
  obtain ⟨R1,R2⟩:=R
  refine gOn h λob h3 h2=>?_
  obtain ⟨hi,rob⟩:=I.obj _ _ h3
  induction ob using O.casesOn with
  | list lv=>
   refine E2 rob λitems hl hlen hv=>?_; clear rob
   obtain ⟨rfl,e⟩:=A3 (s:=w.es) h2
   exact ⟨e,_,items,k,.list R2 hl.isList,.inl ⟨hd,lv,R1,rfl,h3⟩,Q3 hv k⟩
  | _=>exact (A0 (s:=w.es) h2).elim
 | tup lv=>
  refine K0 R λt items i hit ht hu hi hv=>?_; clear R
  refine P5 (w3 ht) λot g1 g2 e0 g3=>?_
  obtain ⟨rfl,e⟩:=A3 (s:=w.es) h
  exact ⟨e,t,items,i,.tup hit ht,.inr ⟨hu,ot,g1,g2⟩,hv⟩
theorem P3.live (I:A7 κ w) {src:Addr} (x:P3 w src):∃ o,w.h.get? src=some o:=by
 rcases x with ⟨i,l,h1,h2,h3⟩ | ⟨_,o,ho,_⟩
 ·exact h2 ▸ I.lt i h1
 ·exact ⟨o,ho⟩
theorem B9.src {h:Heap} {i l:Addr} {items:Array Value} {k:Nat} (q:B9 h i l items k):∃ o,h.get? i=some o/\¬ Y6 o:=by
 cases q with
 | list a _=>exact E2 a λo ho hc _=>⟨o,ho,U5 hc (by decide)⟩
 | tup a _=>exact E2 a λo ho hc _=>⟨o,ho,U5 hc (by decide)⟩
theorem ZOk.zlive {h:Heap} {z TI TO i1 i2 l1 l2 D:Addr} {xs ys:Array Value} {k m:Nat} (Z:ZOk h z TI TO i1 i2 l1 l2 D xs ys k m):∃ o,h.get? z=some o/\¬ Y6 o:=by
 exact Z.zip.elim (λhz=>⟨_,hz,U5 rfl (by decide)⟩) λq=>q.elim λ_ q=>q.elim λ_ q=>q.elim λ_ q=>⟨_,q.1,U5 rfl (by decide)⟩
theorem B2e {xs:Array Value} {k:Nat} (h:xs.toList.drop k=[]):xs[k]?=none:=Array.getElem?_eq_none (List.drop_eq_nil_iff.mp h)
theorem i9 {xs:Array Value} {k:Nat} {x:Value} {r:List Value} (h:xs.toList.drop k=x::r):xs[k]?=some x/\xs.toList.drop (k + 1)=r:=by
 have h1:(xs.toList.drop k)[0]?=some x:=by rw [h]; rfl
 rw [List.getElem?_drop,Array.getElem?_toList] at h1
 refine ⟨by simpa using h1,?_⟩
 have h2:(xs.toList.drop k).drop 1=r:=by rw [h]; rfl
 rwa [List.drop_drop] at h2
structure S3 (w:W) (z TO i1 i2 D:Addr) (s:ak):Prop where
 keep:∀ c o,w.h.get? c=some o->c ∉ [z,i1,i2,D]->c≠TO->s.heap.get? c=some o
 same:c9 w.s s
theorem m4 (a b c d:Addr) (l:List Addr):d ∈ a::b::c::d::l:=.tail _ (.tail _ (.tail _ (.head _)))
theorem Up.tr {φ:Nat->Addr} {n:Nat} {h h' h'':Heap} (u:Up φ n h φ n h') (v:Up φ n h' φ n h''):Up φ n h φ n h'':=⟨λa o ho hT hu=>v.tup a o (u.tup a o ho hT hu) hT hu,λ_ _=>rfl,λi a b=>absurd b (bq.mpr a),aG _⟩
theorem F7a {A:aI} (h:A.units + 40 < cLine):A.in1.units + 20 < cLine:=bo (Nat.add_le_add_left (aj rfl:21<=40) A.units) h
theorem c7.at {wd:World} {h h':Heap} {a:Addr} {xs:List (PyData×Addr×Value)} (r:c7 wd h a xs) (hk:∀ o,h.get? a=some o->h'.get? a=some o):c7 wd h' a xs:=U1 r λo es ep ho q=>⟨o,es,ep,hk _ ho,q⟩
theorem H4.keep {φ φ':Nat->Addr} {n n':Nat} {h h':Heap} {a:Addr} {l:List (V×V)} (u:Up φ n h φ' n' h') (hk:∀ o,h.get? a=some o->h'.get? a=some o) (r:H4 κ φ n h a l):H4 κ φ' n' h' a l:=
 r.imp (λq=>q.elim λks q=>⟨ks,q.1.at hk,q.2.up u⟩) λq=>q.elim λxs q=>⟨xs,q.1.at hk,q.2.up u⟩
theorem D2u {x a b c d:Addr} {G:Prop} (h:x ∉ [a,b,c,d]) (k:x≠a->x≠b->x≠c->x≠d->G):G:=
 have h2:=bz h
 have h3:=bz h2
 k (bD h) (bD h2) (bD h3) (bD (bz h3))
theorem D5p {x a b c d e f g:Addr} {G:Prop} (h:x ∉ [a,b,c,d,e,f,g]) (k:x≠a->x≠b->x≠c->x≠d->x≠e->x≠f->x≠g->G):G:=
 have h2:=bz h
 have h3:=bz h2
 D2u (bz h3) λk4 k5 k6 k7=>k (bD h) (bD h2) (bD h3) k4 k5 k6 k7
theorem noT {h:Heap} {a c:Addr} {o:Obj} (H:∃ o,h.get? a=some o/\¬ Y6 o) (ho:h.get? c=some o) (hT:Y6 o):c≠a:=λq=>C5 H λoz hz hn=>hn (ac (hz.symm.trans (q ▸ ho)) ▸ hT)
theorem drop_nil {κ:Kx} {φ:Nat->Addr} {n:Nat} {h:Heap} {xs:Array Value} {k:Nat} (r:VRels κ φ n h [] (xs.toList.drop k)):xs[k]?=none:=VRels.elE (P:=λys _=>xs.toList.drop k=ys->xs[k]?=none) B2e r rfl
theorem A2e {κ:Kx} {φ:Nat->Addr} {n:Nat} {h:Heap} {xs:Array Value} {k:Nat} {v:V} {l:List V} (r:VRels κ φ n h (v::l) (xs.toList.drop k)):xs[k]?≠none/\(∀ x,xs[k]?=some x->A4 κ φ n h v x)/\VRels κ φ n h l (xs.toList.drop (k + 1)):=
 VRels.elC (P:=λys _=>xs.toList.drop k=ys->xs[k]?≠none/\(∀ x,xs[k]?=some x->A4 κ φ n h v x)/\VRels κ φ n h l (xs.toList.drop (k + 1))) (λa b e=>⟨λq=>nS (q.symm.trans (i9 e).1),λy q=>ac ((i9 e).1.symm.trans q) ▸ a,(i9 e).2.symm ▸ b⟩) r rfl
structure ZC (κ:Kx) (w:W) (z TI i1 i2 l1 l2 D:Addr) (hd:Nat):Prop where
 inv:A7 κ w
 dd:ZipApart z TI (w.φ hd) i1 i2 l1 l2
 own:G6 κ w [z,i1,i2,D]
 one:1<=hd
 lt:hd < w.n
 pair:w.es.t.get hd=some .pair
 hD:D ∉ [z,TI,w.φ hd,i1,i2,l1,l2]
section
variable {z TI i1 i2 l1 l2 D:Addr} {hd:Nat} {xs ys:Array Value} {k m:Nat} {s:ak} {h':Heap}
theorem ZC.chg (C:ZC κ w z TI i1 i2 l1 l2 D hd) (K:S3 w z (w.φ hd) i1 i2 D s) (hp:∃ a b,bM s.heap (w.φ hd) a b):o9 w [z,i1,i2,D] (some hd) s:=
 ⟨λc o ho hn hq=>K.keep c o ho hn (hq hd rfl),K.same,λ_ e=>ac e ▸ C.one,λ_ e=>ac e ▸ ⟨C.lt,C.pair,hp⟩⟩
theorem S3.step {TO:Addr} (K:S3 w z TO i1 i2 D s) (hk:∀ c o,c≠z->c≠TO->c≠i1->c≠i2->s.heap.get? c=some o->h'.get? c=some o):S3 w z TO i1 i2 D { s with heap:=h' }:=
 ⟨λc o ho hn hq=>D2u hn λa b d _=>hk c o a hq b d (K.keep c o ho hn hq),⟨K.same.gens,K.same.os,K.same.drawn⟩⟩
theorem ZC.up (C:ZC κ w z TI i1 i2 l1 l2 D hd) (Z:ZOk s.heap z TI (w.φ hd) i1 i2 l1 l2 D xs ys k m) (hk:∀ c o,c≠z->c≠w.φ hd->c≠i1->c≠i2->s.heap.get? c=some o->h'.get? c=some o):Up w.φ w.n s.heap w.φ w.n h':=
 ⟨λc o ho hT hun=>hk c o (noT Z.zlive ho hT) (λq=>hun hd C.lt q.symm) (noT Z.s1.src ho hT) (noT Z.s2.src ho hT) ho,λ_ _=>rfl,λi a b=>absurd b (bq.mpr a),aG _⟩
theorem ZC.fin (C:ZC κ w z TI i1 i2 l1 l2 D hd) {A:aI} (hh:A.handled=none) {l:List (V×V)} {j:Int} {t:Tok} {R:Result->ak->Prop} (K:S3 w z (w.φ hd) i1 i2 D s) (Z:ZOk s.heap z TI (w.φ hd) i1 i2 l1 l2 D xs ys k m) (hx:xs[k]?=none∨ys[m]?=none) (rd:H4 κ w.φ w.n s.heap D l)
  (hR:∀ s',S3 w z (w.φ hd) i1 i2 D s'->(∃ a b,bM s'.heap (w.φ hd) a b)->H4 κ w.φ w.n s'.heap D l->R (.ok (.ret .none)) s'):codeAny κ.m A (.builtin "dict.update.loop" ⟨[.ref D,.ref z,.int j t,.none],[]⟩) R s:=by
 refine codeAny_builtin A2d ?_
 rw [Around.under_plainId V4 _]
 show wpAny κ.m A.in1 (pyNext (.ref z) >>= _) _ _ _
 refine ab (A0b (A:=A.in1) hh C.dd Z (C5 rd.there λo ho _=>⟨o,ho⟩) (λx y q q'=>hx.elim (λhx=>nS (hx.symm.trans q)) λhx=>nS (hx.symm.trans q')) λ_ h' hk hp=>?_)
 exact ab (m:=Builtin.Dict.addKeywords D []) (ag (ag (hR _ (K.step hk) hp (H4.keep (C.up Z hk) (λo=>D5p C.hD λd1 _ d3 d4 d5 _ _=>hk D o d1 d3 d4 d5) rd))))
theorem ZC.turn (C:ZC κ w z TI i1 i2 l1 l2 D hd) {c:Cx} {A:aI} (hh:A.handled=none) (hu:A.units + 40 < cLine) {v u:V} {l d:List (V×V)} {j:Int} {t:Tok} {R:Result->ak->Prop} (K:S3 w z (w.φ hd) i1 i2 D s) (Z:ZOk s.heap z TI (w.φ hd) i1 i2 l1 l2 D xs ys k m) (hx:xs[k]?≠none) (hy:ys[m]?≠none)
  (ra:∀ x,xs[k]?=some x->A4 κ w.φ w.n s.heap v x) (rb:∀ y,ys[m]?=some y->A4 κ w.φ w.n s.heap u y) (rd:H4 κ w.φ w.n s.heap D l) (hl:l.length<=10000) (hs:M4 c v u l=some d)
  (q:∀ s',S3 w z (w.φ hd) i1 i2 D s'->ZOk s'.heap z TI (w.φ hd) i1 i2 l1 l2 D xs ys (k + 1) (m + 1)->Up w.φ w.n s.heap w.φ w.n s'.heap->H4 κ w.φ w.n s'.heap D d->codeAny κ.m A (.builtin "dict.update.loop" ⟨[.ref D,.ref z,.int (j + 1) 0,.none],[]⟩) R s'):codeAny κ.m A (.builtin "dict.update.loop" ⟨[.ref D,.ref z,.int j t,.none],[]⟩) R s:=by
 refine codeAny_builtin A2d ?_
 rw [Around.under_plainId V4 _]
 show wpAny κ.m A.in1 (pyNext (.ref z) >>= _) _ _ _
 refine ab (A0b (A:=A.in1) hh C.dd Z (C5 rd.there λo ho _=>⟨o,ho⟩) (λx y q1 q2 h' p Z' hp2 hnew hk=>?_) λq=>(q.elim hx hy).elim)
 have up:=C.up Z hk
 have K':=K.step hk
 refine ab (aF (ab (wpAny_tryCatch ?_)))
 unfold Builtin.Dict.pairItems
 refine ab (wpAny_typeOf (T:="tuple") ⟨_,hp2,rfl⟩ ?_)
 rw [if_pos (by decide)]
 refine ab (bI hp2 rfl (ag ?_))
 show wpAny κ.m A.in1 (holding [x,y] (dictSet D x y)) _ _ _
 refine aF (A9m (c:=c) (w:=⟨w.φ,w.es,{ s with heap:=h' }⟩) ((C.chg K' Z'.to).inv C.own C.inv) (H4.keep up (λo=>D5p C.hD λd1 _ d3 d4 d5 _ _=>hk D o d1 d3 d4 d5) rd) hl ⟨(C.own.each D (m4 _ _ _ _ _)).unm,(C.own.each D (m4 _ _ _ _ _)).fresh⟩ ((ra x q1).up up) ((rb y q2).up up) hs (F7a hu) λs'' ch ol rd''=>?_)
 have ext:Heap.ExtBut D h' s''.heap:=λc o hc ho=>ch.keep c o ho (λq=>hc (aB.mp q)) (λ_ e=>nS e)
 exact ag ⟨plainId_quiet V4 _,q s'' ⟨λc o ho hn hq=>ext c o (D2u hn λ_ _ _ q=>q) (K'.keep c o ho hn hq),⟨ch.same.gens.trans K'.same.gens,ch.same.os.trans K'.same.os,ch.same.drawn.trans K'.same.drawn⟩⟩ (Z'.ext ext C.hD) (up.tr (ch.up ol)) rd''⟩
end
theorem B9f {c:Cx} {A:aI} (hh:A.handled=none) (hu:A.units + 40 < cLine) {z TI i1 i2 l1 l2 D:Addr} {hd:Nat} (C:ZC κ w z TI i1 i2 l1 l2 D hd) {xs ys:Array Value} {l':List (V×V)} {R:Result->ak->Prop}
  (hR:∀ s',S3 w z (w.φ hd) i1 i2 D s'->(∃ a b,bM s'.heap (w.φ hd) a b)->H4 κ w.φ w.n s'.heap D l'->R (.ok (.ret .none)) s') (lx:List V):
  ∀ (ly:List V) (k m:Nat) (l:List (V×V)) (s:ak) (j:Int) (t:Tok),S3 w z (w.φ hd) i1 i2 D s->ZOk s.heap z TI (w.φ hd) i1 i2 l1 l2 D xs ys k m->VRels κ w.φ w.n s.heap lx (xs.toList.drop k)->VRels κ w.φ w.n s.heap ly (ys.toList.drop m)->H4 κ w.φ w.n s.heap D l->
   l.length + (A4b lx ly).length<=10000->B2i c l (A4b lx ly)=some l'->codeAny κ.m A (.builtin "dict.update.loop" ⟨[.ref D,.ref z,.int j t,.none],[]⟩) R s:=by
 induction lx with
 | nil=>exact λly k m l s j t K Z rx ry rd hl hp=>C.fin hh K Z (.inl (drop_nil rx)) rd (ac hp ▸ hR)
 | cons v lx ih=>
  intro ly
  induction ly using av with
  | nil=>exact λk m l s j t K Z rx ry rd hl hp=>C.fin hh K Z (.inr (drop_nil ry)) rd (ac hp ▸ hR)
  | cons u ly=>
   exact λk m l s j t K Z rx ry rd hl hp=>oR hp λd hs hp'=>O8 (A2e rx) λhx ra rx=>O8 (A2e ry) λhy rb ry=>C.turn hh hu K Z hx hy ra rb rd (aJ (bJ _ _) hl) hs λs' K' Z' u' rd'=>
    ih ly (k + 1) (m + 1) d s' (j + 1) 0 K' Z' (rx.up u') (ry.up u') rd' (aJ (aJ (Nat.add_le_add_right (l9 (N1 hs).2) _) (Nat.le_of_eq (Nat.succ_add _ _))) hl) hp'
end
theorem A8o:typeLookup (.type "zip") "__len__"=pure none:=by rw [typeLookup_type,builtinLookup_eq_fast]; kernel_rfl
theorem A4y:typeLookup (.type "zip") "__length_hint__"=pure none:=by rw [typeLookup_type,builtinLookup_eq_fast]; kernel_rfl
section
variable {prog:Program} {wd:World} {A:aI} {E:Value->ak->Prop} {s:ak}
theorem B7z {z:Addr} {Q:Bool->ak->Prop} (hT:s.TypeIs (.ref z) "zip") (h:Q true s):wpAny (model prog wd) A (Builtin.List.listLengthHint (.ref z)) Q E s:=by
 unfold Builtin.List.listLengthHint
 refine ab (wpAny_specialOf hT A8o ?_)
 refine wpAny_ite_split (λhab=>absurd hab (by decide)) (λ_=>?_)
 refine wpAny_ite_split (λhab=>absurd hab (by decide)) (λ_=>?_)
 refine ab (wpAny_specialOf hT A4y ?_)
 exact ag h
end
section
variable {κ:Kx} {w:W}
theorem D5n {P:Addr->Prop} {a b c d:Addr} (h1:P a) (h2:P b) (h3:P c) (h4:P d):∀ x ∈ [a,b,c,d],P x:=λx hx=>(aE.mp hx).elim (λe=>e ▸ h1) (B4w h2 h3 h4 x)
theorem N0.put {a:Addr} (x:N0 κ w a) (s':ak):N0 κ ⟨w.φ,w.es,s'⟩ a:=⟨x.unm,x.fresh⟩
theorem N5 {h:Heap} {a:Addr} (H:∃ o,h.get? a=some o):h.objs.size≠a:=λq=>H.elim λo ho=>nS ((B5 (h:=h)).symm.trans (q ▸ ho))
theorem G0s {A:aI} (h:A.units + 60 < cLine):A.in1.units + 40 < cLine:=bo (Nat.add_le_add_left (aj rfl:41<=60) A.units) h
theorem A0e {a b:Addr} {l:List Addr} (h:a≠b) (k:a ∉ l):a ∉ b::l:=List.not_mem_cons_of_ne_of_not_mem h k
structure ZP (κ:Kx) (w0 w:W) (z TI i1 i2 l1 l2:Addr) (hd:Nat) (xs ys:Array Value) (k1 k2:Nat):Prop where
 inv:A7 κ w
 le:Le [] w0 w
 own:G6 κ w [z,i1,i2]
 dead:∀ a ∈ [z,i1,i2],w0.h.get? a=none
 to:w0.n<=hd
 one:1<=hd
 lt:hd < w.n
 pair:w.es.t.get hd=some .pair
 dd:ZipApart z TI (w.φ hd) i1 i2 l1 l2
 hz:IsZip w.h z TI (w.φ hd) .none
 ti:bM w.h TI (.ref i1) (.ref i2)
 s1:B9 w.h i1 l1 xs k1
 s2:B9 w.h i2 l2 ys k2
 t1:P3 w l1
 t2:P3 w l2
section
variable {w0:W} {z TI i1 i2 l1 l2:Addr} {hd:Nat} {xs ys:Array Value} {k1 k2:Nat}
theorem ZP.far (P:ZP κ w0 w z TI i1 i2 l1 l2 hd xs ys k1 k2):w.h.objs.size ∉ [z,TI,w.φ hd,i1,i2,l1,l2]:=
 A0e (N5 ⟨_,P.hz⟩) (A0e (N5 ⟨_,P.ti⟩) (A0e (N5 (P.inv.lt hd P.lt)) (A0e (N5 (C5 P.s1.src λo h _=>⟨o,h⟩)) (A0e (N5 (C5 P.s2.src λo h _=>⟨o,h⟩)) (A0e (N5 (P.t1.live P.inv)) (A0e (N5 (P.t2.live P.inv)) bG))))))
theorem ZP.build (P:ZP κ w0 w z TI i1 i2 l1 l2 hd xs ys k1 k2) {ob:Obj} {s3:ak} (hn:¬ Y6 ob) (hk:∀ b o,w.h.get? b=some o->s3.heap.get? b=some o) (hs:c9 w.s s3) (ho:s3.heap.get? w.h.objs.size=some ob):
  ZC κ ⟨w.φ,w.es,s3⟩ z TI i1 i2 l1 l2 w.h.objs.size hd/\ZOk s3.heap z TI (w.φ hd) i1 i2 l1 l2 w.h.objs.size xs ys k1 k2/\∀ s',o9 ⟨w.φ,w.es,s3⟩ [z,i1,i2,w.h.objs.size] (some hd) s'->A7 κ ⟨w.φ,w.es,s'⟩/\Le [] w0 ⟨w.φ,w.es,s'⟩:=
 have dead:w.h.get? w.h.objs.size=none:=B5
 have I:=P.inv.grow (s':=s3) hk
 have O:G6 κ ⟨w.φ,w.es,s3⟩ [z,i1,i2,w.h.objs.size]:=⟨D5n ((P.own.each _ (B8p _ _ _)).put _) ((P.own.each _ (C3x _ _ _)).put _) ((P.own.each _ (C3b _ _ _)).put _) ⟨P.inv.ne_new dead,P.inv.fresh dead⟩,
  D5n (C5 (P.own.live z (B8p _ _ _)) λo h n=>⟨o,hk _ _ h,n⟩) (C5 (P.own.live i1 (C3x _ _ _)) λo h n=>⟨o,hk _ _ h,n⟩) (C5 (P.own.live i2 (C3b _ _ _)) λo h n=>⟨o,hk _ _ h,n⟩) ⟨ob,ho,hn⟩⟩
 ⟨⟨I,P.dd,O,P.one,P.lt,P.pair,P.far⟩,⟨.inl (hk _ _ P.hz),hk _ _ P.ti,C4r (P.inv.obj hd _ P.pair) λ_ a b h=>⟨a,b,hk _ _ h⟩,P.s1.grow hk,P.s2.grow hk⟩,
  λs' C=>⟨C.inv O I,C.last O (P.le.comp (Le.grow (s':=s3) hk hs)) (D5n (P.dead _ (B8p _ _ _)) (P.dead _ (C3x _ _ _)) (P.dead _ (C3b _ _ _)) (P8 P.le dead)) λ_ e=>ac e ▸ P.to⟩⟩
theorem ZP.list (P:ZP κ w0 w z TI i1 i2 l1 l2 hd xs ys k1 k2) {A:aI} (hh:A.handled=none) (hend:xs[k1]?=none∨ys[k2]?=none) {v:V} {es':St} (h2:K4 [] w.es=.ok v es'):wpAny κ.m A (call (.type "list") [.ref z]) (A1 κ [] w0 es' (E5 κ v)) D1 w.s:=by
 have live:∀ {a:Addr} {o:Obj},w.h.get? a=some o->w.h.objs.size≠a:=λho=>N5 ⟨_,ho⟩
 refine callType_codes (Q₁:=λobj s₁=>obj=.ref w.h.objs.size/\s₁={ w.s with heap:=w.h.push { cls:=.type "list",data:=.seq #[] } }) PySem.F.called_list (PySem.F.typeCall_list_1 _) PySem.F.entry_list_init (code_list_new _ ⟨rfl,rfl⟩) λobj s₁ h₁=>?_
 obtain ⟨rfl,rfl⟩:=h₁
 have hS:(w.h.push { cls:=.type "list",data:=.seq #[] }).get? w.h.objs.size=some { cls:=.type "list",data:=.seq #[] }:=ax _ rfl
 refine ⟨⟨_,hS,rfl⟩,PySem.F.args_list_init_2 _ _,?_⟩
 have hS₂:=get?_update_seq hS (λ_=>(#[]:Array Value))
 have hk2:∀ b o,w.h.get? b=some o->((w.h.push { cls:=.type "list",data:=.seq #[] }).update w.h.objs.size (Obj.mapSeq (λ_=>(#[]:Array Value)))).get? b=some o:=λb o e=>(ce _ _ (live e)).trans (ai _ e)
 have hS₃:=get?_update_seq hS₂ (λxs=>xs.push .none)
 have hS₄:=get?_update_seq hS₃ (λxs=>xs.pop)
 refine O8 (P.build (s3:={ w.s with heap:=_ }) (U5 rfl (by decide)) (λb o e=>(ce _ _ (live e)).trans ((ce _ _ (live e)).trans (hk2 b o e))) ⟨rfl,rfl,rfl⟩ hS₄) λC Z3 fin=>?_
 have hz2:=hk2 _ _ P.hz
 show wpAny _ _ (do let old <- Builtin.List.listItems (.ref w.h.objs.size); Builtin.List.listUpdate (.ref w.h.objs.size) (λ_=>#[]); letGo old.toList.reverse; Builtin.List.listExtendWith (.ref w.h.objs.size) (.ref z) .none) _ _ _
 refine ab (listItems_at hS rfl (ab (listUpdate_at hS rfl (ab (wpAny_letGo ?_)))))
 unfold Builtin.List.listExtendWith
 refine ab (wpAny_typeOf (T:="zip") ⟨_,hz2,rfl⟩ ?_)
 have hc:(Builtin.List.listSameRef (.ref w.h.objs.size) (.ref z) || Value.type "zip" == Value.type "list" || Value.type "zip" == Value.type "tuple")=false:=by
  have:Builtin.List.listSameRef (.ref w.h.objs.size) (.ref z)=false:=beq_eq_false_iff_ne.mpr (live P.hz)
  rw [this]; decide
 rw [hc]
 simp only [Bool.false_eq_true,if_false]
 refine ab (wpAny_pyIter_zip hz2 (ab (aF (B7z ⟨_,hz2,rfl⟩ ?_))))
 simp only [Bool.true_or,if_true]
 refine ab (wpAny_rule (ab ?_))
 unfold Builtin.List.listTouch
 refine ab (listUpdate_at hS₂ rfl (listUpdate_at hS₃ rfl (ag ⟨plainId_quiet PySem.F.plain_extend_loop _,codeAny_builtin PySem.F.entry_extend_loop ?_⟩)))
 rw [Around.under_plainId PySem.F.plain_extend_loop _]
 show wpAny _ _ (pyNext (.ref z) >>= _) _ _ _
 refine ab (A0b (A:=A.in1.in1) hh P.dd Z3 ⟨_,hS₄⟩ (λx y q q'=>hend.elim (λh=>nS (h.symm.trans q)) λh=>nS (h.symm.trans q')) λ_ h' hk hpr=>ag ⟨rfl,?_⟩)
 refine A3b ((fin _ (C.chg (S3.step ⟨λc o ho _ _=>ho,⟨rfl,rfl,rfl⟩⟩ hk) hpr)).elim λI' l'=>C7p (w:=⟨w.φ,w.es,{ w.s with heap:=h' }⟩) I' l' h2 (items:=#[]) ⟨_,D5p P.far λd1 _ d3 d4 d5 _ _=>hk _ _ d1 d3 d4 d5 hS₄⟩ .nil ⟨P.inv.ne_new B5,P.inv.fresh B5⟩ (P8 P.le B5)) λφ' le inv hr _=>⟨φ',le,inv,hr⟩
theorem ZP.dict (P:ZP κ w0 w z TI i1 i2 l1 l2 hd xs ys k1 k2) {c:Cx} {A:aI} (hh:A.handled=none) (hu:A.units + 60 < cLine) {lx ly:List V} (vx:w.vrs κ lx (xs.toList.drop k1)) (vy:w.vrs κ ly (ys.toList.drop k2)) (hl:(A4b lx ly).length<=10000) {d:List (V×V)} (hp:B2i c [] (A4b lx ly)=some d) {v:V} {es':St} (h2:B3b d w.es=.ok v es'):wpAny κ.m A (call (.type "dict") [.ref z]) (A1 κ [] w0 es' (E5 κ v)) D1 w.s:=by
 refine callType_codes (Q₁:=λobj s₁=>obj=.ref w.h.objs.size/\s₁={ w.s with heap:=w.h.push { cls:=.type "dict",data:=.dict #[] } }) PySem.F.kt_called_dict (PySem.F.kt_typeCall_dict_1 _) PySem.F.entry_dict_init (kt_code_dict_new _ ⟨rfl,rfl⟩) λobj s₁ h₁=>?_
 obtain ⟨rfl,rfl⟩:=h₁
 have hz2:(w.h.push { cls:=.type "dict",data:=.dict #[] }).get? z=some _:=ai _ P.hz
 refine ⟨(Heap.DictOf.new (knd:=C0 κ.prog κ.wld) w.h).typeIs,PySem.F.args_dict_init_2 _ _,?_⟩
 unfold Builtin.«dict.__init__»
 refine ab ?_
 unfold Builtin.Dict.selfAndRest
 refine ab (wpAny_notOrdered_dict (Heap.DictOf.new (knd:=C0 κ.prog κ.wld) w.h).typeIs ?_)
 show wpAny _ _ (pure (w.h.objs.size,[Value.ref z])) _ _ _
 refine ag ?_
 show wpAny _ _ (Builtin.Dict.updateFrom "dict.__init__" w.h.objs.size (.ref z) [] .none) _ _ _
 unfold Builtin.Dict.updateFrom
 refine ab (wpAny_typeOf (T:="zip") ⟨_,hz2,rfl⟩ ?_)
 rw [if_pos (by decide)]
 refine ab (A9b (s:={ w.s with heap:=w.h.push { cls:=.type "dict",data:=.dict #[] } }) hz2 hh λh' tk hk=>?_)
 have hk2:∀ b o,w.h.get? b=some o->h'.get? b=some o:=λb o e=>hk b o (ai _ e)
 refine O8 (P.build (ob:={ cls:=.type "dict",data:=.dict #[] }) (s3:={ w.s with heap:=h',toks:=tk }) (U5 rfl (by decide)) hk2 ⟨rfl,rfl,rfl⟩ (hk _ _ (ax _ rfl))) λC Z3 fin=>?_
 simp only [Option.isNone_none,if_true]
 refine ab (wpAny_rule (ab (wpAny_pyIter_zip (hk2 _ _ P.hz) (ag ⟨plainId_quiet V4 _,?_⟩))))
 have u3:=Le.grow (w:=w) (X:=[]) (s':={ w.s with heap:=h',toks:=tk }) hk2 ⟨rfl,rfl,rfl⟩
 refine B9f (c:=c) (w:=⟨w.φ,w.es,{ w.s with heap:=h',toks:=tk }⟩) (A:=A.in1) hh (G0s hu) C (l':=d) (λs' K' hpr rd'=>⟨rfl,?_⟩) lx ly k1 k2 [] { w.s with heap:=h',toks:=tk } 0 0 ⟨λc o ho _ _=>ho,⟨rfl,rfl,rfl⟩⟩ Z3 (u3.vrs vx) (u3.vrs vy) (.inl ⟨[],Heap.DictOf.at (Heap.DictOf.new w.h) (λo ho=>hk _ _ ho),.nil⟩) ((Nat.zero_add _).symm ▸ hl) hp
 exact E2 ((fin _ (C.chg K' hpr)).elim λI' l'=>A8w (w:=⟨w.φ,w.es,s'⟩) I' l' h2 rd'.there rd' ⟨P.inv.ne_new B5,P.inv.fresh B5⟩ (P8 P.le B5)) λφ' le inv q=>⟨φ',le,inv,q.1⟩
end
theorem C9l {α:Type} {b:Bool} {x y:M α} {s s':St} {v:α} {G:Prop} (h:D5 b x y s=.ok v s') (k:b=true->x s=.ok v s'->G) (k2:b=false->y s=.ok v s'->G):G:=by
 induction b using ao with
 | false=>exact k2 rfl h
 | true=>exact k rfl h
theorem F6b {lx ly:List V} {xs ys:Array Value} {k1 k2:Nat} (vx:w.vrs κ lx (xs.toList.drop k1)) (vy:w.vrs κ ly (ys.toList.drop k2)) (h:A4b lx ly=[]):xs[k1]?=none∨ys[k2]?=none:=by
 induction lx using av with
 | nil=>exact .inl (drop_nil vx)
 | cons=>induction ly using av with
  | nil=>exact .inr (drop_nil vy)
  | cons=>exact nomatch h
theorem C1e {c:Cx} {A:aI} (hh:A.handled=none) (hu:A.units + 60 < cLine) (I:A7 κ w) {w0:W} {k:Nat} {bv:Value} (hb:q8 k=some bv) {it:It} {x:Value} (S:A4a κ w0 w it x) (l0:Le [] w0 w) {ps:List (V×V)} {s2 es':St} {v:V}
  (h1:B1a it w.es=.ok ps s2) (h2:D6a c k ps s2=.ok v es'):wpAny κ.m A (call bv [x]) (A1 κ [] w0 es' (E5 κ v)) D1 w.s:=by
 induction it using It.casesOn with
 | zip i j hd=>
  refine B1s S λz own e R O dO hto=>?_
  subst e
  cases R with
  | mk TI i1 i2 g1 g2 hz hTI hTu e1 e2 e12 R1 R2 n1 n2=>
  refine B8 h1 λ_ s3 q1 q2=>(U3 q1).elim λhp e3=>B8 q2 λlx s4 q3 q4=>B8 q4 λly s5 q5 q6=>(A3 q6).elim λe6 e7=>?_
  subst e3
  refine v6 (A7e I R1 n1 q3) λe4 l1 xs k1 S1 t1 vx=>?_
  subst e4
  refine v6 (A7e I R2 n2 q5) λe5 l2 ys k2 S2 t2 vy=>?_
  subst e5
  subst e6 e7
  have P:ZP κ w0 w z TI i1 i2 l1 l2 hd xs ys k1 k2:=⟨I,l0,O,dO,hto,g1,g2,hp,A2h I O g2 hp hTI hTu e1 e2 e12 t1 t2,hz,hTI,S1,S2,t1,t2⟩
  revert h2
  clear hto g1 g2 hp hz hTI hTu e1 e2 e12 S1 S2 t1 t2 R1 R2 n1 n2 q1 q2 q3 q4 q5 q6 h1 S O dO I l0
  have no:∀ {f},(A5:M V) w.es=.ok v es'->wpAny κ.m A (call f [.ref z]) (A1 κ [] w0 es' (E5 κ v)) D1 w.s:=λh=>(A0 h).elim
  refine t5 (P:=λk bv=>D6a c k (A4b lx ly) w.es=.ok v es'->wpAny κ.m A (call bv [.ref z]) (A1 κ [] w0 es' (E5 κ v)) D1 w.s) hb no (λh=>?_) no (λh=>?_) no no no no no
  ·have hz:=F6b vx vy
   revert h hz
   generalize A4b lx ly=ps
   induction ps using av with
   | nil=>exact λh hz=>P.list hh (hz rfl) h
   | cons=>exact λh=>(A0 (s:=w.es) h).elim
  ·exact C9l h (λhb h=>lfn h λd h5 h4=>P.dict hh hu vx vy (aJ (S7 _ ▸ aj hb) (aj rfl)) h5 h4) λ_ h=>(A0 h).elim
 | _=>exact (A0 (s:=w.es) h1).elim
end
section
variable {κ:Kx} {rn:F5} {f n:Nat} {nm:List (Str×aK)}
theorem C2u (KO:U8 κ) {k:Nat} {bv:Value} (hb:q8 k=some bv) {x:Str} (B:l8 κ nm x bv) {ci:CI} {e:Expr} {p pos} (hns:A9 e=true) (hi:SI κ rn f n nm ci e):
  SE κ rn f n nm (C6w k ci) (.Call (.Name x p) [e] [] pos):=
 SE.value (λA c ev env w hA hc I r hn v es' h=>by
  refine A2 h λit s1 h1 h2=>?_
  refine A2 h2 λps s2 h3 h4=>?_
  have hall:([e]:List Expr).all A9=true:=by simp [hns]
  rw [bQ]
  refine ab (M6 KO I r (by unfold aS; rw [hn]; exact B.kind) B.dbg B.glb B.val ?_)
  refine F6 (S5 hb) (L3 hall _ _) (E3 hall ?_)
  refine spliced_more (af (hi A c ev env w it s1 hA hc I r hn h1) (λxv s₁ p=>?_) λ_ _ x=>x) (K8 hns env)
  obtain ⟨φ1,le,inv,hr⟩:=p
  refine spliced_none ?_
  exact C1e (w:=⟨φ1,s1,s₁⟩) (c:=c) hA.handled hA.u60 inv hb hr le h3 h4) λ_ _=>rfl
end
section
variable {κ:Kx} {rn:F5} {f n:Nat} {nm:List (Str×aK)}
theorem D6u (e:Expr):SE κ rn f n nm D8y e:=⟨(λA c ev env w hA hc I r hn v es' h=>by cases h),(λA c ev env w hA hc I r hn v es' h=>by cases h)⟩
theorem D1g {a:CX} {x:Expr} {pos} (ha:SX κ rn f n nm a x):SE κ rn f n nm (E9o a) (.UnaryOp .USub x pos):=
 SE.value (λA c ev env w hA hc I r hn v es' h=>by
  refine A2 h λv1 s1 h1 h2=>?_
  refine wpAny_UnaryOp (af (ha A c ev env w hA hc I r hn v1 s1 h1) (λval s₁ p=>?_) λ_ _ x=>x)
  obtain ⟨φ1,le,inv,hr⟩:=p
  have hr':A4 κ φ1 s1.n s₁.heap v1 val:=hr
  cases hr' with
  | @int i m t e=>
   cases i with
   | lit k=>
    obtain ⟨rfl,e2⟩:=A3 (s:=s1) h2
    subst e2
    have ek:k=m:=e
    subst ek
    refine PySem.P.neg_int ?_
    exact (A1.toks (X:=[]) (w:=⟨φ1,es',s₁⟩) (R:=E5 κ (.int (.lit (Int.neg k)))) (t:=s₁.toks + 1) inv (.int rfl)).lift le
   | _=>exact (A0 (s:=s1) h2).elim
  | opq x=>exact (A0 (s:=s1) h2).elim
  | _=>exact (A0 (s:=s1) h2).elim) λ_ _=>rfl
theorem A3r (st:Stmt):SS κ rn f n nm E9k st:=λA c ev env w fl es' hA hc I r hn h=>nomatch h
end
noncomputable abbrev NM:=List (Str×aK)
noncomputable def R0 (i:Nat) (x:Str):Bool:=t6 x.cps.toList && aA (E4 x.cps.toList) i
theorem C6 {i:Nat} {x:Str} (h:R0 i x=true):SV i x:=b2 h λa b=>⟨a,aw b⟩
noncomputable def oIs {α:Type} [BEq α] (o:Option α) (k:α):Bool:=@Option.rec α (λ_=>Bool) false (λa=>a == k) o
theorem U0 {α:Type} [BEq α] [LawfulBEq α] {o:Option α} {k:α} (h:oIs o k=true):o=some k:=by
 induction o using ae with
 | none=>exact ff h
 | some a=>exact congrArg some (beq_iff_eq.mp h)
noncomputable def isK (nm:NM) (x:Str) (k:aK):Bool:=oIs (nm.lookup x) k
theorem F1 {nm:NM} {x:Str} {k:aK} (h:isK nm x k=true):nm.lookup x=some k:=U0 h
noncomputable def A9f (nm:NM) (x:Str):Bool:=isK nm x .globalImplicit && !(x == ("__debug__":Str))
theorem J8 {nm:NM} {x:Str} (h:A9f nm x=true):nm.lookup x=some .globalImplicit/\(x == ("__debug__":Str))=false:=b2 h λa b=>⟨F1 a,nt b⟩
noncomputable def A8f:List (Nat×Value):=[(7103854,.builtin "len"),(491260897125,.type "range"),(1818850164,.type "list"),(500186508389,.type "tuple"),(1684628340,.type "dict"),(8022384,.type "zip"),(6909556,.type "int"),(7566450,.type "str"),(126922498794852,.builtin "sorted"),(7566701,.builtin "sum"),(497977453406354454504293,.builtin "isinstance"),(1651470188,.type "bool")]
noncomputable def oC {α:Type} (l:List α) (k:α->List α->Bool):Bool:=@List.rec α (λ_=>Bool) false (λx t _=>k x t) l
theorem R3 {α:Type} {P:List α->Prop} {l k} (h:oC l k=true) (m:∀ x t,k x t=true->P (x::t)):P l:=by
 induction l using av with
 | nil=>exact ff h
 | cons x t=>exact m x t h
theorem K5 {α:Type} {P:List α->Prop} {l:List α} (h:l.isEmpty=true) (m:P []):P l:=by
 induction l using av with
 | nil=>exact m
 | cons x t=>exact ff h
noncomputable def o1 {α:Type} (l:List α) (k:α->Bool):Bool:=oC l λx t=>t.isEmpty && k x
theorem m7 {α:Type} {P:List α->Prop} {l k} (h:o1 l k=true) (m:∀ x,k x=true->P [x]):P l:=R3 h λx t h=>b2 h λa b=>K5 (P:=λt=>P (x::t)) a (m x b)
noncomputable def o2 {α:Type} (l:List α) (k:α->α->Bool):Bool:=oC l λx t=>o1 t (k x)
theorem B0p {α:Type} {P:List α->Prop} {l k} (h:o2 l k=true) (m:∀ x y,k x y=true->P [x,y]):P l:=R3 h λx t h=>m7 (P:=λt=>P (x::t)) h (m x)
theorem m9 {α:Type} [BEq α] [LawfulBEq α] {P:α->Prop} {a b:α} (h:(a == b)=true) (m:P b):P a:=beq_iff_eq.mp h ▸ m
theorem z9 {α:Type} {P:Option α->Prop} {o:Option α} (h:o.isNone=true) (m:P none):P o:=by
 induction o using ae with
 | none=>exact m
 | some _=>exact ff h
noncomputable def oS {α:Type} (o:Option α) (k:α->Bool):Bool:=@Option.rec α (λ_=>Bool) false k o
theorem B9g {α:Type} {P:Option α->Prop} {o k} (h:oS o k=true) (m:∀ x,k x=true->P (some x)):P o:=by
 induction o using ae with
 | none=>exact ff h
 | some x=>exact m x h
noncomputable def B7b (v:V) (c:Const):Bool:=match v with
 | .none=>c == .none
 | .bool a=>c == .bool a
 | .int i=>iL i (λk=>c == .int k) λ_=>false
 | .str m=>dite (c.ctorIdx=5) (λq=>Const.str.elim c q λx=>R0 m x) λ_=>false
 | _=>false
noncomputable def A7x (i k:Nat) (l:List (Nat×Nat)):Bool:=oIs (A8 i l) k
structure Mt where
 X:NM->Expr->X->Bool
 T:Bool->NM->Expr->Tg->Bool
 S:NM->Stmt->S->Bool
section
variable (r:Mt)
noncomputable def mL (nm:NM) (es:List Expr):XL->Bool:=@List.rec Expr (λ_=>XL->Bool) (λl=>match l with
 | .nil=>true
 | .cons _ _=>false) (λe _ ih l=>match l with
 | .nil=>false
 | .cons x l=>A9 e && r.X nm e x && ih l) es
noncomputable def mB (nm:NM) (es:List Expr):XL->Bool:=@List.rec Expr (λ_=>XL->Bool) (λl=>match l with
 | .nil=>true
 | .cons _ _=>false) (λe _ ih l=>match l with
 | .nil=>false
 | .cons x l=>r.X nm e x && ih l) es
noncomputable def mD (nm:NM) (ks:List (Option Expr)):List Expr->XD->Bool:=@List.rec (Option Expr) (λ_=>List Expr->XD->Bool) (λvs l=>match l with
 | .nil=>vs.isEmpty
 | .cons _ _ _=>false) (λk _ ih vs l=>match l with
 | .nil=>false
 | .cons a b l=>oC vs λv vs=>oS k λk=>r.X nm k a && r.X nm v b && ih vs l) ks
noncomputable def mO (nm:NM) (e:Option Expr) (x:XO):Bool:=match x with
 | .no=>e.isNone
 | .so x=>oS e λe=>r.X nm e x
noncomputable def mTL (l:Bool) (nm:NM) (es:List Expr):TgL->Bool:=@List.rec Expr (λ_=>TgL->Bool) (λl=>match l with
 | .nil=>true
 | .cons _ _=>false) (λe _ ih ts=>match ts with
 | .nil=>false
 | .cons t ts=>A9 e && r.T l nm e t && ih ts) es
noncomputable def mSL (nm:NM) (ss:List Stmt):SL->Bool:=@List.rec Stmt (λ_=>SL->Bool) (λl=>match l with
 | .nil=>true
 | .cons _ _=>false) (λs _ ih l=>match l with
 | .nil=>false
 | .cons x l=>r.S nm s x && ih l) ss
noncomputable def W7 (nm:NM) (i:Nat) (x:Str):Bool:=R0 i x && A9f nm x
noncomputable def oCn (e:Expr) (k:Str->List Expr->Bool):Bool:=C2f e λg es ks _=>ks.isEmpty && y9 g λs=>k s es
theorem V2 {P:Expr->Prop} {e k} (h:oCn e k=true) (m:∀ s p es q,k s es=true->P (.Call (.Name s p) es [] q)):P e:=B1j h λg es ks q h=>b2 h λa b=>K5 (P:=λks=>P (.Call g es ks q)) a (K6 (P:=λg=>P (.Call g es [] q)) b λs p h=>m s p es q h)
noncomputable def mI (nm:NM) (e:Expr) (i:XI):Bool:=match i with
 | .of x=>r.X nm e x
 | .rng l=>oCn e λs es=>W7 nm 491260897125 s && mL r nm es l
 | .zip x y=>oCn e λs es=>W7 nm 8022384 s && o2 es λa b=>A9 a && A9 b && r.X nm a x && r.X nm b y
noncomputable def y6 (l:List Str):Bool:=@List.rec Str (λ_=>Bool) true (λx l ih=>!(l.any λy=>x == y) && ih) l
noncomputable def scB (nm:NM) (sc:Scope):Bool:=(sc.kind == .function) && (sc.names.all λp=>!(p.2 == .cell)) && y6 (sc.names.map (·.1)) && (sc.names.all λp=>!(p.2 == .free) || isK nm p.1 .cell || isK nm p.1 .free)
noncomputable def A0p (i:XI):Bool:=match i with
 | .of _=>false
 | .rng _=>false
 | .zip _ _=>true
noncomputable def B6b (i:XI):Bool:=match i with
 | .of _=>false
 | .rng _=>true
 | .zip _ _=>false
noncomputable def A1b:Nat->Nat
 | 0=>7103854 | 2=>1818850164 | 3=>500186508389 | 4=>1684628340 | 6=>6909556 | 7=>7566450 | 8=>126922498794852 | 9=>7566701 | 11=>1651470188
 | _=>0
noncomputable def mLc (nm:NM) (e:Expr) (x:X) (t:Tg) (it:XI) (ifs:XL):Bool:=B9k e λy gs sc _=>o1 gs λg=>(g.is_async == 0) && (A0n g.iter && (N8 g.target || !(A0p it)) && scB nm sc && mI r nm g.iter it && (r.X (G5 nm sc.names) y x && r.T true (G5 nm sc.names) g.target t && mB r (G5 nm sc.names) g.ifs ifs))
noncomputable def mXs (nm:NM) (e:Expr) (x:X):Bool:=match x with
 | .bad=>true
 | .cst v=>E2w e λc=>B7b v c
 | .loc i=>y9 e λs=>R0 i s && isK nm s .local && !(s == ("__debug__":Str))
 | .cel i=>y9 e λs=>R0 i s && (isK nm s .cell || isK nm s .free) && !(s == ("__debug__":Str)) && !(s == ("__classdict__":Str))
 | .glb i=>y9 e λs=>R0 i s && A9f nm s && (A8 i glT).isSome
 | .and a b=>D1p e λo l p=>(o == .And) && oC l λy l=>oC l λz l=>r.X nm y a && r.X nm (bop .And z l p) b
 | .or a b=>D1p e λo l p=>(o == .Or) && oC l λy l=>oC l λz l=>r.X nm y a && r.X nm (bop .Or z l p) b
 | .not a=>oUn e λo y=>(o == .Not) && r.X nm y a
 | .neg a=>oUn e λo y=>(o == .USub) && r.X nm y a
 | .bin k a b=>E9r e λy o z=>oIs (opB k) o && r.X nm y a && r.X nm z b
 | .cmp k a b=>D7i e λy os zs=>o1 os λo=>o1 zs λz=>oIs (opC k) o && !(behindInMarks o z) && r.X nm y a && r.X nm z b
 | .cmp2 k j a b d=>D7i e λy os zs=>o2 os λo p=>o2 zs λz u=>oIs (opC k) o && oIs (opC j) p && !(behindInMarks p u) && r.X nm y a && r.X nm z b && r.X nm u d
 | .ite t a b=>E3k e λy z u=>r.X nm y t && r.X nm z a && r.X nm u b
 | .tup l=>A8m e λes=>mL r nm es l
 | .lst l=>D9k e λes=>mL r nm es l
 | .dct l=>F1r e λks vs=>be ks.length 15 && mD r nm ks vs l
 | .cfn i k l=>oCn e λs es=>W7 nm i s && A7x i k fnT && mL r nm es l
 | .ccl i k l=>oCn e λs es=>W7 nm i s && A7x i k clT && mL r nm es l
 | .bcl _ k l=>oCn e λs es=>W7 nm (A1b k) s && (q8 k).isSome && mL r nm es l
 | .isi a t=>oCn e λs es=>o2 es λy z=>W7 nm 497977453406354454504293 s && (B2r t).isSome && A9 y && r.X nm y a && y9 z λu=>W7 nm (A1b t) u
 | .col k it=>oCn e λs es=>o1 es λy=>W7 nm (A1b k) s && (q8 k).isSome && A9 y && mI r nm y it && !(A0p it) && (aA k 2 || !(B6b it))
 | .colz k a b=>oCn e λs es=>o1 es λy=>W7 nm (A1b k) s && (q8 k).isSome && A9 y && mI r nm y (.zip a b)
 | .mth o m l=>C2f e λg es ks pos=>ks.isEmpty && B3v g λy a ap=>R0 m a && U9 y && (ap.endLine == pos.line) && Nat.blt es.length 30 && r.X nm y o && mL r nm es l
 | .att o m=>B3v e λy a _=>R0 m a && E8.contains m && U9 y && r.X nm y o
 | .sub o i=>B7m e λy z=>r.X nm y o && r.X nm z i
 | .slc o a b d=>B7m e λy z=>r.X nm y o && E6u z λlo hi st=>mO r nm lo a && mO r nm hi b && mO r nm st d
 | .lcp x t it ifs=>mLc r nm e x t it ifs
end
noncomputable def I4 (κ:Kx):Prop:=∀ i v x,A8 i A8f=some v->SV i x->κ.glb x=none/\κ.blt x=some v
structure MOk (κ:Kx) (rn:F5) (f n:Nat) (r:Mt):Prop where
 X:∀ nm e x,r.X nm e x=true->SE κ rn (f + 1) (n + 1) nm x.den e
 T:∀ l nm e t,r.T l nm e t=true->TT κ rn (f + 1) (n + 1) nm l t.den e
 S:∀ nm st s,r.S nm st s=true->SS κ rn (f + 1) (n + 1) nm s.den st
section
variable {κ:Kx} {rn:F5} {f n:Nat} {nm:NM} {r:Mt}
theorem X9 (B:I4 κ) {i:Nat} {v:Value} {x:Str} (hi:A8 i A8f=some v) (h:W7 nm i x=true):l8 κ nm x v:=b2 h λa b=>⟨(J8 b).1,(J8 b).2,(B i v x hi (C6 a)).1,(B i v x hi (C6 a)).2⟩
theorem i5 {k:Nat} {v:Value} (h:q8 k=some v):A8 (A1b k) A8f=some v:=by
 exact t5 (P:=λk v=>A8 (A1b k) A8f=some v) h rfl rfl rfl rfl rfl rfl rfl rfl rfl
theorem al {α:Type} {p:α->Bool} {e:α} {es:List α} (h:p e=true) (h2:es.all p=true):(e::es).all p=true:=bX.mpr ⟨h,h2⟩
theorem P0 (R:MOk κ rn f n r) {es:List Expr}:∀ {l:XL},mL r nm es l=true->SLs κ rn (f + 1) (n + 1) nm l.den es/\es.all A9=true:=by
 induction es with
 | nil=>
  intro l h
  induction l using XL.casesOn with
  | nil=>exact ⟨B6t,rfl⟩
  | cons _ _=>exact ff h
 | cons e es ih=>
  intro l h
  induction l using XL.casesOn with
  | nil=>exact ff h
  | cons x l=>exact b3 h λa b c=>⟨C3u (K8 a) (R.X _ _ _ b).1 (ih c).1,al a (ih c).2⟩
theorem F0a (R:MOk κ rn f n r) {es:List Expr}:∀ {l:XL},mB r nm es l=true->SB κ rn (f + 1) (n + 1) nm l.denB es:=by
 induction es with
 | nil=>
  intro l h
  induction l using XL.casesOn with
  | nil=>exact D5d
  | cons _ _=>exact ff h
 | cons e es ih=>
  intro l h
  induction l using XL.casesOn with
  | nil=>exact ff h
  | cons x l=>exact b2 h λa b=>C3r (R.X _ _ _ a) (ih b)
theorem D9m (R:MOk κ rn f n r) {ks:List (Option Expr)}:∀ {vs:List Expr} {l:XD},mD r nm ks vs l=true->SDs κ rn (f + 1) (n + 1) nm l.den ks vs:=by
 induction ks with
 | nil=>
  intro vs l h
  induction l using XD.casesOn with
  | nil=>exact K5 (P:=λvs=>SDs κ rn (f + 1) (n + 1) nm XD.nil.den [] vs) h .nil
  | cons _ _ _=>exact ff h
 | cons k ks ih=>
  intro vs l h
  induction l using XD.casesOn with
  | nil=>exact ff h
  | cons a b l=>exact R3 h λv vs h=>B9g (P:=λk=>SDs κ rn (f + 1) (n + 1) nm (XD.cons a b l).den (k::ks) (v::vs)) h λk h=>b3 h λp q s=>.cons (R.X _ _ _ p).1 (R.X _ _ _ q).1 (ih s)
theorem B7q (R:MOk κ rn f n r) {e:Option Expr} {x:XO} (h:mO r nm e x=true):SO κ rn (f + 1) (n + 1) nm x.den e:=by
 induction x using XO.casesOn with
 | no=>exact z9 h .no
 | so x=>exact B9g h λe h=>.so (R.X _ _ _ h).1
theorem B7y {l:Bool} (R:MOk κ rn f n r) {es:List Expr}:∀ {ts:TgL},mTL r l nm es ts=true->TTs κ rn (f + 1) (n + 1) nm l ts.den es/\es.all A9=true:=by
 induction es with
 | nil=>
  intro ts h
  induction ts using TgL.casesOn with
  | nil=>exact ⟨C2g,rfl⟩
  | cons _ _=>exact ff h
 | cons e es ih=>
  intro ts h
  induction ts using TgL.casesOn with
  | nil=>exact ff h
  | cons x ts=>exact b3 h λa b c=>⟨B9o a (R.T _ _ _ _ b) (ih c).1,al a (ih c).2⟩
theorem Y1 (R:MOk κ rn f n r) {ss:List Stmt}:∀ {l:SL},mSL r nm ss l=true->SSs κ rn (f + 1) (n + 1) nm l.den ss:=by
 induction ss with
 | nil=>
  intro l h
  induction l using SL.casesOn with
  | nil=>exact C2n
  | cons _ _=>exact ff h
 | cons e es ih=>
  intro l h
  induction l using SL.casesOn with
  | nil=>exact ff h
  | cons x l=>exact b2 h λa b=>A5a (R.S _ _ _ a) (ih b)
theorem A9s (KO:U8 κ) (B:I4 κ) (R:MOk κ rn f n r) {e:Expr} {i:XI} (h:mI r nm e i=true):SI κ rn (f + 1) (n + 1) nm i.den e:=by
 induction i using XI.casesOn with
 | of x=>exact F2g (R.X _ _ _ h).1
 | rng l=>exact V2 h λs p es q h=>b2 h λa b=>D5j KO (X9 B rfl a) (P0 R b).2 (P0 R b).1
 | zip x y=>exact V2 h λs p es q h=>b2 h λa b=>B0p (P:=λes=>SI κ rn (f + 1) (n + 1) nm (XI.zip x y).den (.Call (.Name s p) es [] q)) b λu v h=>b4 h λc d e g=>C8t KO (X9 B rfl a) (al c (al d rfl)) (R.X _ _ _ e).1 (R.X _ _ _ g).1
theorem D0p {a:CX}:∀ (rn:F5) c ev s it s',iOf a rn c ev s=.ok it s'->I7 it=true:=λrn c ev s it s' h=>A2 h λ_ _ _ h=>A0i (P:=λit _=>I7 it=true) h (λ_=>rfl) λ_=>rfl
theorem C2q {a:CL}:∀ (rn:F5) c ev s it s',D6b a rn c ev s=.ok it s'->I7 it=true:=λrn c ev s it s' h=>A2 h λ_ _ _ h=>A3t (P:=λ_ it _=>I7 it=true) h (λ_ _ _ _=>rfl) λ_ _ _ _ _ _ _ _ _ _=>rfl
theorem B9i {i:XI} (h:A0p i=false):∀ (rn:F5) c ev s it s',i.den rn c ev s=.ok it s'->I7 it=true:=by
 induction i using XI.casesOn with
 | of x=>exact D0p
 | rng l=>exact C2q
 | zip x y=>cases h
theorem D3q {a:CX}:∀ (rn:F5) c ev s it s',iOf a rn c ev s=.ok it s'->M7 it=true:=λrn c ev s it s' h=>A2 h λ_ _ _ h=>A0i (P:=λit _=>M7 it=true) h (λ_=>rfl) λ_=>rfl
theorem B4c {i:XI} {k:Nat} (h1:A0p i=false) (h2:k=2∨B6b i=false):∀ (rn:F5) c ev s it s',i.den rn c ev s=.ok it s'->I7 it=true/\(k=2∨M7 it=true):=λrn c ev s it s' h=>by
 refine ⟨B9i h1 rn c ev s it s' h,h2.imp id λq=>?_⟩
 induction i using XI.casesOn with
 | of x=>exact D3q rn c ev s it s' h
 | rng l=>cases q
 | zip x y=>cases h1
theorem W2 {l:List Str} (h:y6 l=true):l.Nodup:=by
 induction l with
 | nil=>exact List.nodup_nil
 | cons x l ih=>exact b2 h λa b=>br.mpr ⟨λhm=>Bool.noConfusion ((List.any_eq_true.mpr ⟨x,hm,beq_self_eq_true x⟩).symm.trans (nt a)),ih b⟩
theorem D2s {sc:Scope} (h:scB nm sc=true):A1f nm sc:=b4 h λh1 h2 h3 h4=>by
 refine ⟨beq_iff_eq.mp h1,λp hp q=>?_,W2 h3,λp hp q=>?_⟩
 ·have:=aL.mp h2 p hp
  rw [q] at this; exact ff this
 ·have:=aL.mp h4 p hp
  rw [q] at this
  exact (Z4 this).imp F1 F1
end
section
variable {κ:Kx} {rn:F5} {f n:Nat} {nm:NM} {r:Mt}
theorem B3r {v:V} {c:Const} {k pos} (h:B7b v c=true):SE κ rn f n nm (H5 v) (.Constant c k pos):=by
 induction v using V.casesOn with
 | none=>exact m9 (P:=λc=>SE _ _ _ _ _ _ (.Constant c k pos)) h C2c
 | bool a=>exact m9 (P:=λc=>SE _ _ _ _ _ _ (.Constant c k pos)) h C3m
 | int i=>induction i using I.casesOn with
  | lit m=>exact m9 (P:=λc=>SE _ _ _ _ _ _ (.Constant c k pos)) h A8v
  | _=>exact ff h
 | str m=>exact (dt h).elim λq=>@Const.str.elim (λc=>∀ q:c.ctorIdx=5,Const.str.elim c q (λx=>R0 m x)=true->SE κ rn f n nm (H5 (.str m)) (.Constant c k pos)) c q (λx _ h=>C9s (C6 h)) q
 | _=>exact ff h
theorem A2t {i k:Nat} {l:List (Nat×Nat)} (h:A7x i k l=true):A8 i l=some k:=U0 h
theorem B3h {t:Nat} {T:String} (h:B2r t=some T):A8 (A1b t) A8f=some (.type T):=by
 rcases X5 h with ⟨rfl,rfl⟩ | ⟨rfl,rfl⟩ | ⟨rfl,rfl⟩ | ⟨rfl,rfl⟩<;>rfl
theorem B8n (KO:U8 κ) (B:I4 κ) (R:MOk κ rn f n r) {e:Expr} {x:X} {t:Tg} {it:XI} {ifs:XL} {P:Expr->Prop} (h:mLc r nm e x t it ifs=true)
  (m:∀ elt target iter ifs' scope pos,A0n iter=true->(N8 target=true∨∀ (rn:F5) c ev s jt s',it.den rn c ev s=.ok jt s'->I7 jt=true)->A1f nm scope->SI κ rn (f + 1) (n + 1) nm it.den iter->SX κ rn (f + 1) (n + 1) (G5 nm scope.names) x.den elt->
   TT κ rn (f + 1) (n + 1) (G5 nm scope.names) true t.den target->SB κ rn (f + 1) (n + 1) (G5 nm scope.names) ifs.denB ifs'->P (.ListComp elt [⟨target,iter,ifs',0⟩] scope pos)):P e:=
 B0f h λy gs sc p h=>m7 (P:=λgs=>P (.ListComp y gs sc p)) h λg h=>b2 h λh0 h=>b5 h λh1 h2 h3 h4 h=>b3 h λh5 h6 h7=>by
  obtain ⟨tg,iter,cs,a⟩:=g
  exact m9 (P:=λa=>P (.ListComp y [⟨tg,iter,cs,a⟩] sc p)) h0 (m y tg iter cs sc p h1 ((Z4 h2).imp id λq=>B9i (nt q)) (D2s h3) (A9s KO B R h4) (R.X _ _ _ h5).1 (R.T _ _ _ _ h6) (F0a R h7))
theorem D3h (KO:U8 κ) {i:Nat} {s:Str} {p} (a:SV i s) (b:A9f nm s=true) (c:(A8 i glT).isSome=true):SE κ rn f n nm (X.glb i).den (.Name s p):=A0z c λv hv=>by
 have q:(X.glb i).den=H5 v:=by
  show H5 _=H5 v
  rw [hv]
 rw [q]
 exact D4x KO hv a (J8 b).1 (J8 b).2
theorem D1m (KO:U8 κ) (B:I4 κ) (RO:X2 κ f rn) (R:MOk κ rn f n r) {e:Expr} {x:X} (h:mXs r nm e x=true):SE κ rn (f + 1) (n + 1) nm x.den e:=by
 induction x using X.casesOn with
 | bad=>exact D6u e
 | cst v=>exact C1z h λa b p h=>B3r h
 | loc i=>exact K6 h λs p h=>b3 h λa b c=>A4m (C6 a) (F1 b) (nt c)
 | cel i=>exact K6 h λs p h=>b4 h λa b c d=>D1u (C6 a) ((Z4 b).imp F1 F1) (nt c) (nt d)
 | glb i=>exact K6 h λs p h=>b3 h λa b c=>D3h KO (C6 a) b c
 | and a b=>exact A9w h λo l p h=>b2 h λc h=>m9 (P:=λo=>SE _ _ _ _ _ _ (.BoolOp o l p)) c (R3 (P:=λl=>SE _ _ _ _ _ _ (.BoolOp .And l p)) h λy l h=>R3 (P:=λl=>SE _ _ _ _ _ _ (.BoolOp .And (y::l) p)) h λz l h=>b2 h λa b=>D0b (R.X _ _ _ a) (R.X _ _ _ b))
 | or a b=>exact A9w h λo l p h=>b2 h λc h=>m9 (P:=λo=>SE _ _ _ _ _ _ (.BoolOp o l p)) c (R3 (P:=λl=>SE _ _ _ _ _ _ (.BoolOp .Or l p)) h λy l h=>R3 (P:=λl=>SE _ _ _ _ _ _ (.BoolOp .Or (y::l) p)) h λz l h=>b2 h λa b=>D8z (R.X _ _ _ a) (R.X _ _ _ b))
 | not a=>exact B7e h λo y p h=>b2 h λc h=>m9 (P:=λo=>SE _ _ _ _ _ _ (.UnaryOp o y p)) c (D2g (R.X _ _ _ h))
 | neg a=>exact B7e h λo y p h=>b2 h λc h=>m9 (P:=λo=>SE _ _ _ _ _ _ (.UnaryOp o y p)) c (D1g (R.X _ _ _ h).1)
 | bin k a b=>exact C4w h λy o z p h=>b3 h λa b c=>D7x (U0 a) (R.X _ _ _ b).1 (R.X _ _ _ c).1
 | cmp k a b=>exact B1f h λy os zs p h=>m7 (P:=λos=>SE _ _ _ _ _ _ (.Compare y os zs p)) h λo h=>m7 (P:=λzs=>SE _ _ _ _ _ _ (.Compare y [o] zs p)) h λz h=>b4 h λa b c d=>D6i (U0 a) (nt b) (R.X _ _ _ c).1 (R.X _ _ _ d).1
 | cmp2 k j a b d=>exact B1f h λy os zs p h=>B0p (P:=λos=>SE _ _ _ _ _ _ (.Compare y os zs p)) h λo o2 h=>B0p (P:=λzs=>SE _ _ _ _ _ _ (.Compare y [o,o2] zs p)) h λz u h=>b6 h λa b c d e f=>C4f (U0 a) (U0 b) (nt c) (R.X _ _ _ d).1 (R.X _ _ _ e).1 (R.X _ _ _ f).1
 | ite t a b=>exact C1q h λy z u p h=>b3 h λa b c=>B6q (R.X _ _ _ a) (R.X _ _ _ b) (R.X _ _ _ c)
 | tup l=>exact V6 h λes k p h=>B6v (P0 R h).1
 | lst l=>exact C1x h λes p h=>D6o (P0 R h).1
 | dct l=>exact C1y h λks vs p h=>b2 h λa b=>C9h (aj a) (D9m R b)
 | cfn i k l=>exact V2 h λs p es q h=>b3 h λa b c=>b2 a λd e=>D1d KO RO (A2t b) (C6 d) (J8 e).1 (J8 e).2 (P0 R c).2 (P0 R c).1
 | ccl i k l=>exact V2 h λs p es q h=>b3 h λa b c=>b2 a λd e=>D5v KO RO (A2t b) (C6 d) (J8 e).1 (J8 e).2 (P0 R c).2 (P0 R c).1
 | bcl i k l=>exact V2 h λs p es q h=>b3 h λa b c=>A0z b λv hv=>D2y KO hv (X9 B (i5 hv) a) (P0 R c).2 (P0 R c).1
 | isi a t=>exact V2 h λs p es q h=>B0p (P:=λes=>SE _ _ _ _ _ _ (.Call (.Name s p) es [] q)) h λy z h=>b5 h λa b c d e=>K6 (P:=λz=>SE _ _ _ _ _ _ (.Call (.Name s p) [y,z] [] q)) e λu p2 e=>A0z b λv hv=>D1y KO hv (X9 B rfl a) (X9 B (B3h hv) e) c (R.X _ _ _ d).1
 | col k it=>exact V2 h λs p es q h=>m7 (P:=λes=>SE _ _ _ _ _ _ (.Call (.Name s p) es [] q)) h λy h=>b6 h λa b c d e g=>A0z b λv hv=>C9u KO hv (X9 B (i5 hv) a) c (B4c (nt e) ((Z4 g).imp aw nt)) (A9s KO B R d)
 | colz k a b=>exact V2 h λs p es q h=>m7 (P:=λes=>SE _ _ _ _ _ _ (.Call (.Name s p) es [] q)) h λy h=>b4 h λa b c d=>A0z b λv hv=>C2u KO hv (X9 B (i5 hv) a) c (A9s KO B R d)
 | mth o m l=>exact B1j h λg es ks q h=>b2 h λa h=>K5 (P:=λks=>SE _ _ _ _ _ _ (.Call g es ks q)) a (Y9 (P:=λg=>SE _ _ _ _ _ _ (.Call g es [] q)) h λy s p h=>b6 h λa b c d e g=>D6v KO RO (C6 a) b c (aj d) (P0 R g).2 (R.X _ _ _ e).1 (P0 R g).1)
 | att o m=>exact Y9 h λy s p h=>b4 h λa b c d=>D2n KO (by simpa using b) (C6 a) c (R.X _ _ _ d).1
 | sub o i=>exact v9 h λy z p h=>b2 h λa b=>C9w (R.X _ _ _ a).1 (R.X _ _ _ b).1
 | slc o a b d=>exact v9 h λy z p h=>b2 h λa b=>C5s (P:=λz=>SE _ _ _ _ _ _ (.Subscript y z p)) b λlo hi st _ h=>b3 h λb c d=>C8y (R.X _ _ _ a).1 (B7q R b) (B7q R c) (B7q R d)
 | lcp x t it ifs=>exact B8n KO B R h λ_ _ _ _ _ _ h1 h2 h3 h4 h5 h6 h7=>D0h h1 h2 h3 h4 h5 h6 h7
end
noncomputable def B6l (nm:NM) (ts vs:List Expr):Option (Option (List Str)):=
 if (!(ts.length == 2 || ts.length == 3) || vs.length != ts.length || ScopeKind.function != .function)=true then some none
 else if (vs.any λ| .Starred ..=>true | _=>false)=true then some none
 else
  let line:=(ts.head?.map (·.pos.line)).getD 0
  let names:=ts.filterMap λ
   | .Name id pos=>if (nm.lookup id == some .local && pos.line == line)=true then some id else none
   | _=>none
  if (names.length != ts.length || names.eraseDups.length != names.length)=true then some none
  else if vs.all (foldedForSure 8)=true then some none
  else if vs.all (constantsAlone 8)=true then none
  else some (some names)
noncomputable def swG (b:ScopeKind) (kd:Str->Option aK) (ts vs:List Expr):Sem (Option (List Str)):=do
 if (!(ts.length == 2 || ts.length == 3) || vs.length != ts.length || b != .function) then return none
 if vs.any λ| .Starred ..=>true | _=>false then return none
 let line:=(ts.head?.map (·.pos.line)).getD 0
 let names:=ts.filterMap λ
  | .Name id pos=>if kd id == some .local && pos.line == line then some id else none
  | _=>none
 if names.length != ts.length || names.eraseDups.length != names.length then return none
 if vs.all (foldedForSure 8) then return none
 if vs.all (constantsAlone 8) then unsupported "assign.tuple-of-constant-expressions:order-of-the-stores"
 return some names
theorem A3s {α β:Type} {c:Prop} [Decidable c] {a b:β} {y q:α} {r:Option α} {p:α->β} (h:(if c then some y else r)=some q) (hA:a=p y) (hB:r=some q->b=p q):(if c then a else b)=p q:=by
 by_cases z:c
 ·rw [if_pos z] at h ⊢; exact hA.trans (congrArg p (ac h))
 ·rw [if_neg z] at h ⊢; exact hB h
theorem D6m {α β:Type} {c:Prop} [Decidable c] {a b:β} {q:α} {r:Option α} {p:α->β} (h:(if c then none else r)=some q) (hB:r=some q->b=p q):(if c then a else b)=p q:=by
 by_cases z:c
 ·rw [if_pos z] at h; cases h
 ·rw [if_neg z] at h ⊢; exact hB h
theorem D1q {nm:NM} {ts vs:List Expr} {q:Option (List Str)} (h:B6l nm ts vs=some q):swG .function (λid=>nm.lookup id) ts vs=pure q:=
 A3s h rfl λh=>A3s h rfl λh=>A3s h rfl λh=>A3s h rfl λh=>D6m h λh=>congrArg pure (ac h)
theorem B6s {nm:NM} {ts vs:List Expr} {q:Option (List Str)} (h:B6l nm ts vs=some q) {env:PySem.Env} (hn:env.scope.names=nm) (hb:env.blockKind=.function) {k k' p p'}:swappedStores [.Tuple ts k p] (.Tuple vs k' p') env=pure q:=
 (congr (congrArg (λb kd=>swG b kd ts vs) hb) (show env.kindOf=λid=>nm.lookup id from funext λid=>by unfold aS; rw [hn])).trans (D1q h)
noncomputable def nTL (t:Expr):Bool:=!(aA t.ctorIdx 24 || aA t.ctorIdx 25)
theorem B6i {t e:Expr} (h:nTL t=true) {env:PySem.Env}:swappedStores [t] e env=pure none:=by
 induction t using Expr.casesOn<;>first | rfl | exact ff h
theorem D2i {e:Expr} (h:N8 e=false) {env:PySem.Env} {ts k p}:swappedStores [.Tuple ts k p] e env=pure none:=by
 induction e using Expr.casesOn<;>first | rfl | cases h
noncomputable def z5 (l:TgL):Option (List Nat):=match l with
 | .nil=>some []
 | .cons t l=>(match t with
  | .loc i=>(z5 l).map (i::·)
  | _=>none)
section
variable (r:Mt)
noncomputable def mTs (l:Bool) (nm:NM) (e:Expr) (t:Tg):Bool:=match t with
 | .bad=>true
 | .loc i=>y9 e λs=>R0 i s && isK nm s .local
 | .cel i=>y9 e λs=>!l && R0 i s && isK nm s .cell
 | .att o m=>B3v e λy a _=>R0 m a && E8.contains m && r.X nm y o
 | .sub o i=>B7m e λy z=>r.X nm y o && r.X nm z i
 | .tup ts=>A8m e λes=>mTL r l nm es ts
noncomputable def C8p (l:List Nat):List Str->Bool:=@List.rec Nat (λ_=>List Str->Bool) (λm=>m.isEmpty) (λi _ ih m=>oC m λx m=>R0 i x && ih m) l
noncomputable def C8n (names:List Str) (tl:TgL):Bool:=y6 names && (match z5 tl with
 | some is=>C8p is names
 | none=>false)
noncomputable def E1b (nm:NM) (e t:Expr):Bool:=u9 e || B9k e λ_ _ _ _=>B3v t (λ_ _ _=>true) || B7m t (λ_ _=>true) || y9 t λs=>!(isK nm s .local)
noncomputable def F7v (o:Option (Option (List Str))):Bool:=o == some none
noncomputable def E2i (nm:NM) (t e:Expr):Bool:=nTL t || A8m t λts=>!(N8 e) || A8m e λvs=>F7v (B6l nm ts vs)
noncomputable def mSw (nm:NM) (names:List Str) (e t:Expr) (tl:TgL) (l:XL):Bool:=A8m e λes=>A8m t λts=>(B6l nm ts es == some (some names)) && C8n names tl && (names.all λy=>isK nm y .local) && mL r nm es l
noncomputable def E2v (nm:NM) (e t:Expr):List Str:=match t,e with
 | .Tuple ts _ _,.Tuple es _ _=>((B6l nm ts es).getD none).getD []
 | _,_=>[]
noncomputable def E1i (nm:NM) (e t:Expr) (i:Nat) (x:X) (tg:Tg) (it:XI) (ifs:XL):Bool:=E3z t λs py=>R0 i s && isK nm s .local && mLc r nm e x tg it ifs && B9k e λ_ _ sc p=>(py.line == p.line) && !(sc.names.any λq=>q.1 == s && (q.2 == .local || q.2 == .cell))
noncomputable def E9s (nm:NM) (t' e:Expr) (t:Tg) (x:X):Bool:=
 E1b nm e t' && E2i nm t' e && A9 t' && r.T false nm t' t && r.X nm e x ||
 (match t,x with
 | .loc i,.lcp x tg it ifs=>E1i r nm e t' i x tg it ifs
 | .tup tl,.tup l=>mSw r nm (E2v nm e t') e t' tl l
 | _,_=>false)
noncomputable def fdB (nm:NM) (i:Nat) (st:Stmt):Bool:=oFd st λname as _ decs ret tps scope tsc bind=>(as.posonlyargs.isEmpty && (o1 as.args λa=>a.annotation.isNone) && as.vararg.isNone && as.kwonlyargs.isEmpty && as.kw_defaults.isEmpty) && (as.kwarg.isNone && as.defaults.isEmpty && decs.isEmpty && ret.isNone && tps.isEmpty) && (tsc.isNone && aA N9 i && R0 N9 name && (bind == name) && isK nm name .cell && B8u nm scope)
noncomputable def mSs (nm:NM) (st:Stmt) (s:S):Bool:=match s with
 | .bad=>true
 | .brk=>true
 | .pass=>true
 | .fdef _=>true
 | .expr x=>E1x st λe=>u9 e && r.X nm e x
 | .ret x=>E4d st λo=>mO r nm o x
 | .asg t x=>E0o st λts e=>o1 ts λt'=>E9s r nm t' e t x
 | .auL i op x=>D7y st λt o e=>y9 t λs=>oIs (opB op) o && R0 i s && isK nm s .local && r.X nm e x
 | .auA o m op x=>D7y st λt o' e=>B3v t λy a _=>oIs (opB op) o' && R0 m a && E8.contains m && r.X nm y o && r.X nm e x
 | .iff t a b=>oIf st λe y z=>r.X nm e t && mSL r nm y a && mSL r nm z b
 | .whl t b=>F1c st λe y z=>z.isEmpty && r.X nm e t && mSL r nm y b
 | .for t it b=>E2q st λt' e y z=>z.isEmpty && A0n e && (N8 t' || !(A0p it)) && r.T false nm t' t && mI r nm e it && mSL r nm y b
 | .fdec i=>fdB nm i st
noncomputable def E4z:Mt:=⟨mXs r,mTs r,mSs r⟩
end
noncomputable def E7t:Mt:=⟨λ_ _ _=>false,λ_ _ _ _=>false,λ_ _ _=>false⟩
noncomputable def mN (k:Nat):Mt:=@Nat.rec (λ_=>Mt) E7t (λ_ r=>E4z r) k
section
variable {κ:Kx} {rn:F5} {f n:Nat} {nm:NM} {r:Mt}
theorem D2m {l:Bool} (e:Expr):TT κ rn f n nm l E5l e:=λA c ev env w v x ev' es' hA hc I r hn rv h=>by cases h
theorem A9i {m:Nat} (h:E8.contains m=true):m ∈ E8:=by simpa using h
theorem D1a {l:Bool} {i:Nat} {s:Str} {p} (a:(!l)=true) (b:SV i s) (c:nm.lookup s=some .cell):TT κ rn f n nm l (D5m i) (.Name s p):=by
 induction l using ao
 ·exact D2d b c
 ·exact ff a
theorem D6l (KO:U8 κ) (R:MOk κ rn f n r) {l:Bool} {e:Expr} {t:Tg} (h:mTs r l nm e t=true):TT κ rn (f + 1) (n + 1) nm l t.den e:=by
 induction t using Tg.casesOn with
 | bad=>exact D2m e
 | loc i=>exact K6 h λs p h=>b2 h λa b=>B9u (C6 a) (F1 b)
 | cel i=>exact K6 h λs p h=>b3 h λa b c=>D1a a (C6 b) (F1 c)
 | att o m=>exact Y9 h λy s p h=>b3 h λa b c=>D4h KO (A9i b) (C6 a) (R.X _ _ _ c).1
 | sub o i=>exact v9 h λy z p h=>b2 h λa b=>D0r (R.X _ _ _ a).1 (R.X _ _ _ b).1
 | tup ts=>exact V6 h λes k p h=>D5x (B7y R h).2 (B7y R h).1
theorem A0l:∀ {tl:TgL} {is:List Nat},z5 tl=some is->tl.den=A8e is
 | .nil,is,h=>by cases h; rfl
 | .cons t l,is,h=>by
  induction t using Tg.casesOn with
  | loc i=>exact (Option.map_eq_some_iff.mp (show (z5 l).map (i::·)=some is from h)).elim λm hm=>hm.2 ▸ congrArg (B0d (A4z i)) (A0l hm.1)
  | _=>cases h
theorem B4x {l:List Nat}:∀ {m:List Str},C8p l m=true->l.length=m.length/\∀ q ∈ l.zip m,SV q.1 q.2:=by
 induction l with
 | nil=>exact λ{m} h=>K5 (P:=λm:List Str=>([]:List Nat).length=m.length/\∀ q ∈ ([]:List Nat).zip m,SV q.1 q.2) h ⟨rfl,λq hq=>nomatch hq⟩
 | cons i l ih=>exact λ{m} h=>R3 (P:=λm:List Str=>(i::l).length=m.length/\∀ q ∈ (i::l).zip m,SV q.1 q.2) h λx m h=>b2 h λa b=>⟨congrArg (· + 1) (ih b).1,λq hq=>(aE.mp hq).elim (λe=>e ▸ C6 a) ((ih b).2 q)⟩
theorem B6m {names:List Str} {tl:TgL} {G:Prop} (h:C8n names tl=true) (k:∀ is,names.Nodup->tl.den=A8e is->(is.length=names.length/\∀ q ∈ is.zip names,SV q.1 q.2)->G):G:=b2 h λa b=>by
 induction hl:z5 tl using ae with
 | none=>rw [hl] at b; exact ff b
 | some is=>rw [hl] at b; exact k is (W2 a) (A0l hl) (B4x b)
theorem D3n {x:Str} {k:aK}:(nm.lookup x == some k)=isK nm x k:=by
 show _=oIs (nm.lookup x) k
 cases nm.lookup x<;>rfl
theorem C5f {e t:Expr} (h:E1b nm e t=true) (ln:Nat) {env:PySem.Env} (hn:env.scope.names=nm):swapsWith e (some t) ln env=pure false:=
 (Z4 h).elim (λh=>y4 h _ _ _) λh=>B0f (P:=λe=>swapsWith e (some t) ln env=pure false) h λy g sc p h=>(Z4 h).elim (λh=>(Z4 h).elim (λh=>Y9 (P:=λt=>swapsWith (.ListComp y g sc p) (some t) ln env=pure false) h λ_ _ _ _=>rfl) λh=>v9 (P:=λt=>swapsWith (.ListComp y g sc p) (some t) ln env=pure false) h λ_ _ _ _=>rfl)
  λh=>K6 (P:=λt=>swapsWith (.ListComp y g sc p) (some t) ln env=pure false) h λs py h=>by
   show (pure (env.blockKind == .function && List.lookup s env.scope.names == some .local && py.line == p.line && !(sc.names.any λ(n,k)=>n == s && (k == .local || k == .cell))):Sem Bool)=_
   rw [hn,D3n,nt h,Bool.and_false,Bool.false_and,Bool.false_and]
theorem C1s {e t:Expr} (h:E2i nm t e=true) {env:PySem.Env} (hn:env.scope.names=nm) (hb:env.blockKind=.function):swappedStores [t] e env=pure none:=
 (Z4 h).elim (λh=>B6i h) λh=>V6 (P:=λt=>swappedStores [t] e env=pure none) h λts k p h=>(Z4 h).elim (λh=>D2i (nt h)) λh=>V6 (P:=λe=>swappedStores [.Tuple ts k p] e env=pure none) h λvs k' p' h=>B6s (beq_iff_eq.mp h) hn hb
theorem D6e (R:MOk κ rn f n r) {names:List Str} {e t:Expr} {tl:TgL} {l:XL} {pos} (h:mSw r nm names e t tl l=true):SS κ rn (f + 1) (n + 1) nm (R7 (Tg.tup tl).den (X.tup l).den) (.Assign [t] e pos):=
 V6 (P:=λe=>SS κ rn (f + 1) (n + 1) nm (R7 (Tg.tup tl).den (X.tup l).den) (.Assign [t] e pos)) h λes k p h=>V6 (P:=λt=>SS κ rn (f + 1) (n + 1) nm (R7 (Tg.tup tl).den (X.tup l).den) (.Assign [t] (.Tuple es k p) pos)) h λts k' p' h=>b4 h λa b c d=>B6m b λis h1 h2 h3=>
  (show R7 (B5b (A8e is)) (X.tup l).den=R7 (Tg.tup tl).den (X.tup l).den from congrArg (λz=>R7 (B5b z) (X.tup l).den) h2.symm) ▸ C9e (λenv hn hb=>B6s (beq_iff_eq.mp a) hn hb) h1 h3 (λy hy=>F1 (aL.mp c y hy)) (P0 R d).1
theorem C4u (KO:U8 κ) (B:I4 κ) (R:MOk κ rn f n r) {e t:Expr} {i:Nat} {x:X} {tg:Tg} {it:XI} {ifs:XL} {pos} (h:E1i r nm e t i x tg it ifs=true):SS κ rn (f + 1) (n + 1) nm (R7 (Tg.loc i).den (X.lcp x tg it ifs).den) (.Assign [t] e pos):=
 C1h (P:=λt=>SS κ rn (f + 1) (n + 1) nm (R7 (Tg.loc i).den (X.lcp x tg it ifs).den) (.Assign [t] e pos)) h λs py h=>b4 h λa b c d=>B8n (P:=λe=>(B9k e λ_ _ sc p=>(py.line == p.line) && !(sc.names.any λq=>q.1 == s && (q.2 == .local || q.2 == .cell)))=true->SS κ rn (f + 1) (n + 1) nm (R7 (Tg.loc i).den (X.lcp x tg it ifs).den) (.Assign [.Name s py] e pos)) KO B R c (λelt target iter ifs' scope p h1 h2 h3 h4 h5 h6 h7 d=>
  C2t h1 h2 h3 (λenv hn hb=>by
   show (pure (env.blockKind == .function && env.kindOf s == some .local && py.line == p.line && !(scope.names.any λ(n,k)=>n == s && (k == .local || k == .cell))):Sem Bool)=_
   rw [hb,show env.kindOf s=some .local from (congrArg (List.lookup s) hn).trans (F1 b)]
   exact congrArg pure d) h4 h5 h6 h7 (C6 a) (F1 b)) d
theorem C2m (KO:U8 κ) (B:I4 κ) (R:MOk κ rn f n r) {t' e:Expr} {t:Tg} {x:X} {pos} (h:E9s r nm t' e t x=true):SS κ rn (f + 1) (n + 1) nm (R7 t.den x.den) (.Assign [t'] e pos):=by
 refine (Z4 h).elim (λh=>b5 h λa b c d e=>B7v c (λenv hn hb=>C5f a _ hn) (λenv hn hb=>C1s b hn hb) (R.T _ _ _ _ d) (R.X _ _ _ e).1) λh=>?_
 induction t using Tg.casesOn with
 | loc i=>induction x using X.casesOn with
  | lcp x tg it ifs=>exact C4u KO B R h
  | _=>exact ff h
 | tup tl=>induction x using X.casesOn with
  | tup l=>exact D6e R h
  | _=>exact ff h
 | _=>exact ff h
theorem D4q (KO:U8 κ) {st:Stmt} {i:Nat} (h:fdB nm i st=true):SS κ rn (f + 1) (n + 1) nm (S.fdec i).den st:=
 D4a h λname as body decs ret tps scope tsc bnd' p h=>by
  obtain ⟨po,ar,va,ko,kd,kw,df⟩:=as
  refine b3 h λh1 h2 h3=>b5 h1 λa b c d e=>b5 h2 λa' b' c' d' e'=>b6 h3 λf' g' i' j' k' l'=>?_
  have z1:=aw g'
  have z2:=beq_iff_eq.mp j'
  subst z1 z2
  clear h1 h2 h3 g' j' h
  refine K5 (P:=λpo=>SS κ rn (f + 1) (n + 1) nm (c6 N9) (.FunctionDef bnd' ⟨po,ar,va,ko,kd,kw,df⟩ body decs ret tps scope tsc bnd' p)) a ?_
  refine z9 (P:=λva=>SS κ rn (f + 1) (n + 1) nm (c6 N9) (.FunctionDef bnd' ⟨[],ar,va,ko,kd,kw,df⟩ body decs ret tps scope tsc bnd' p)) c ?_
  refine K5 (P:=λko=>SS κ rn (f + 1) (n + 1) nm (c6 N9) (.FunctionDef bnd' ⟨[],ar,none,ko,kd,kw,df⟩ body decs ret tps scope tsc bnd' p)) d ?_
  refine K5 (P:=λkd=>SS κ rn (f + 1) (n + 1) nm (c6 N9) (.FunctionDef bnd' ⟨[],ar,none,[],kd,kw,df⟩ body decs ret tps scope tsc bnd' p)) e ?_
  refine z9 (P:=λkw=>SS κ rn (f + 1) (n + 1) nm (c6 N9) (.FunctionDef bnd' ⟨[],ar,none,[],[],kw,df⟩ body decs ret tps scope tsc bnd' p)) a' ?_
  refine K5 (P:=λdf=>SS κ rn (f + 1) (n + 1) nm (c6 N9) (.FunctionDef bnd' ⟨[],ar,none,[],[],none,df⟩ body decs ret tps scope tsc bnd' p)) b' ?_
  refine K5 (P:=λdecs=>SS κ rn (f + 1) (n + 1) nm (c6 N9) (.FunctionDef bnd' ⟨[],ar,none,[],[],none,[]⟩ body decs ret tps scope tsc bnd' p)) c' ?_
  refine z9 (P:=λret=>SS κ rn (f + 1) (n + 1) nm (c6 N9) (.FunctionDef bnd' ⟨[],ar,none,[],[],none,[]⟩ body [] ret tps scope tsc bnd' p)) d' ?_
  refine K5 (P:=λtps=>SS κ rn (f + 1) (n + 1) nm (c6 N9) (.FunctionDef bnd' ⟨[],ar,none,[],[],none,[]⟩ body [] none tps scope tsc bnd' p)) e' ?_
  refine z9 (P:=λtsc=>SS κ rn (f + 1) (n + 1) nm (c6 N9) (.FunctionDef bnd' ⟨[],ar,none,[],[],none,[]⟩ body [] none [] scope tsc bnd' p)) f' ?_
  refine m7 (P:=λar=>SS κ rn (f + 1) (n + 1) nm (c6 N9) (.FunctionDef bnd' ⟨[],ar,none,[],[],none,[]⟩ body [] none [] scope none bnd' p)) b λx h=>?_
  obtain ⟨an,ann,ap⟩:=x
  exact z9 (P:=λann=>SS κ rn (f + 1) (n + 1) nm (c6 N9) (.FunctionDef bnd' ⟨[],[⟨an,ann,ap⟩],none,[],[],none,[]⟩ body [] none [] scope none bnd' p)) h (C9c KO (C6 i') (F1 k') l')
theorem D7q (R:MOk κ rn f n r) {o:Option Expr} {x:XO} {pos} (h:mO r nm o x=true):SS κ rn (f + 1) (n + 1) nm (S.ret x).den (.Return o pos):=by
 induction x using XO.casesOn with
 | no=>exact z9 (P:=λo=>SS _ _ _ _ _ _ (.Return o pos)) h C2h
 | so x=>exact B9g (P:=λo=>SS _ _ _ _ _ _ (.Return o pos)) h λe h=>D4e (R.X _ _ _ h).1
theorem D3a (KO:U8 κ) (B:I4 κ) (R:MOk κ rn f n r) {st:Stmt} {s:S} (h:mSs r nm st s=true):SS κ rn (f + 1) (n + 1) nm s.den st:=by
 induction s using S.casesOn with
 | bad=>exact A3r st
 | brk=>exact A3r st
 | pass=>exact A3r st
 | fdef i=>exact A3r st
 | expr x=>exact C2o h λe p h=>b2 h λa b=>C4q a (R.X _ _ _ b).1
 | ret o=>exact C5j h λe p h=>D7q R h
 | asg t x=>exact C4n h λts e p h=>m7 (P:=λts=>SS _ _ _ _ _ _ (.Assign ts e p)) h λt' h=>C2m KO B R h
 | auL i op x=>exact A9z h λt o e p h=>K6 (P:=λt=>SS _ _ _ _ _ _ (.AugAssign t o e p)) h λs q h=>b4 h λa b c d=>D2t (U0 a) (C6 b) (F1 c) (R.X _ _ _ d).1
 | auA o m op x=>exact A9z h λt o e p h=>Y9 (P:=λt=>SS _ _ _ _ _ _ (.AugAssign t o e p)) h λy s q h=>b5 h λa b c d e=>D1o KO (U0 a) (A9i c) (C6 b) (R.X _ _ _ d).1 (R.X _ _ _ e).1
 | iff t a b=>exact D4u h λe y z p h=>b3 h λa b c=>D7g (R.X _ _ _ a) (Y1 R b) (Y1 R c)
 | whl t b=>exact C4d h λe y z p h=>b3 h λa b c=>K5 (P:=λz=>SS _ _ _ _ _ _ (.While e y z p)) a (C9r (R.X _ _ _ b) (Y1 R c))
 | «for» t it b=>exact C2w h λt' e y z p h=>b6 h λa b c d e' g=>K5 (P:=λz=>SS _ _ _ _ _ _ (.For t' e y z p)) a (D2r b ((Z4 c).imp id λq=>B9i (nt q)) (R.T _ _ _ _ d) (A9s KO B R e') (Y1 R g))
 | fdec i=>exact D4q KO h
theorem A2m (KO:U8 κ) (B:I4 κ) (RO:X2 κ f rn):∀ k,MOk κ rn f n (mN k)
 | 0=>⟨(λ_ _ _ h=>by cases h),(λ_ _ _ _ h=>by cases h),(λ_ _ _ h=>by cases h)⟩
 | k + 1=>⟨λ_ _ _ h=>D1m KO B RO (A2m KO B RO k) h,λ_ _ _ _ h=>D6l KO (A2m KO B RO k) h,λ_ _ _ h=>D3a KO B (A2m KO B RO k) h⟩
end
noncomputable def A9g (p:Arguments):Bool:=p.posonlyargs.isEmpty && p.vararg.isNone && p.kwonlyargs.isEmpty && p.kwarg.isNone
theorem A0t:∀ {ns:List Str} {xs:List Value},ns.Nodup->ns.length=xs.length->ns.filterMap (λn=>((ns.zip xs).lookup n).map (n,·))=ns.zip xs
 | [],[],_,_=>rfl
 | n::ns,x::xs,hn,hl=>by
  rw [br] at hn
  have ih:=A0t (ns:=ns) (xs:=xs) hn.2 (by simpa using hl)
  rw [bn,List.filterMap_cons]
  have h1:((n,x)::ns.zip xs).lookup n=some x:=by simp [aC]
  rw [h1]
  simp only [aR]
  congr 1
  refine Eq.trans ?_ ih
  have key:∀ l:List Str,(∀ y ∈ l,y ∈ ns)->l.filterMap (λm=>(((n,x)::ns.zip xs).lookup m).map (m,·))=l.filterMap (λm=>((ns.zip xs).lookup m).map (m,·)):=by
   intro l
   induction l with
   | nil=>intro _; rfl
   | cons y l ih2=>
    intro hy
    have:(y == n)=false:=by
     rw [beq_eq_false_iff_ne]
     rintro rfl
     exact hn.1 (hy y aP)
    rw [List.filterMap_cons,List.filterMap_cons,ih2 (λz hz=>hy z (aH _ hz)),aC,this]
  exact key ns λ_ h=>h
 | [],_::_,_,hl=>by simp at hl
 | _::_,[],_,hl=>by simp at hl
structure W8 where
 sc:Scope
 body:List Stmt
 ps:Arguments
noncomputable def psB (nm:NM) (as:List Arg):List (Nat×Bool)->Bool:=@List.rec Arg (λ_=>List (Nat×Bool)->Bool) (λps=>ps.isEmpty) (λa _ ih ps=>oC ps λp ps=>R0 p.1 a.arg && isK nm a.arg (cond p.2 .cell .local) && ih ps) as
noncomputable def fnB (t:W8) (f:Fn):Bool:=A9g t.ps && y6 (t.ps.args.map (·.arg)) && psB t.sc.names t.ps.args f.ps && (t.sc.kind == .function) && !t.sc.isCoroutine && !t.sc.isGenerator && y6 (t.sc.names.map (·.1)) && (t.sc.names.all λp=>!(p.2 == .free)) && mSL (mN 40) t.sc.names t.body f.body
theorem o7 {names:List (Str×aK)}:∀ (n:Nat) (acc:List (Str×Addr)),(names.map (·.1)).Nodup->(acc.map (·.1)).Nodup->(∀ p ∈ acc,∀ q ∈ names,p.1≠q.1)->((cellsFrom n names acc).map (·.1)).Nodup:=by
 induction names with
 | nil=>exact λn acc _ h _=>h
 | cons y r ih=>
  intro n acc hn ha hd
  have hn:=br.mp hn
  unfold cellsFrom
  split
  ·refine ih (n + 1) _ hn.2 (br.mpr ⟨λhm=>(List.mem_map.mp hm).elim λp hp=>hd p hp.1 y (.head _) hp.2,ha⟩) λp hp q hq=>?_
   cases hp with
   | head=>exact λe=>hn.1 (List.mem_map.mpr ⟨q,hq,e.symm⟩)
   | tail _ hp=>exact hd p hp q (.tail _ hq)
  ·exact ih n acc hn.2 ha λp hp q hq=>hd p hp q (.tail _ hq)
section
variable {κ:Kx}
structure PB (κ:Kx) (w:W) (e:Mine.Env) (m cm:Str->Option Value):Prop where
 l:∀ i v x,A8 i e.ls=some v->SV i x->∃ val,m x=some val/\w.vr κ v val
 c:∀ i v x,A8 i e.cs=some v->SV i x->∃ val,cm x=some val/\w.vr κ v val
theorem A3d {w:W} {m:Str->Option Value} {l:List (Nat×V)} {i:Nat} {v:V} {y:Value} {z:Str} (hx:SV i z) (rv:w.vr κ v y) (p:∀ j u x,A8 j l=some u->SV j x->∃ val,m x=some val/\w.vr κ u val) (j:Nat) (u:V) (x:Str) (h1:A8 j (G0 i v l)=some u) (h2:SV j x):∃ val,(if x=z then some y else m x)=some val/\w.vr κ u val:=by
 rw [M2] at h1
 by_cases hj:j=i
 ·rw [if_pos hj] at h1
  exact ⟨y,if_pos (h2.inj (hj ▸ hx)),ac h1 ▸ rv⟩
 ·rw [if_neg hj] at h1
  exact C5 (p j u x h1 h2) λz' h3 h4=>⟨z',(if_neg (λq=>hj ((q ▸ h2).inj_n hx))).trans h3,h4⟩
theorem A4x {w:W} {nm:NM} {env:PySem.Env} (hk:∀ x,env.kindOf x=nm.lookup x) {e:Mine.Env} {m cm:Str->Option Value} {a:Str} {i:Nat} {b:Bool} (hx:SV i a) (hb:isK nm a (cond b .cell .local)=true) (pb:PB κ w e m cm) {v:V} {y:Value} (rv:w.vr κ v y):
  PB κ w (D5 b ⟨e.ls,G0 i v e.cs⟩ ⟨G0 i v e.ls,e.cs⟩) (if env.kindOf a=some .local then λz=>if z=a then some y else m z else m) (if env.kindOf a=some .local then cm else λz=>if z=a then some y else cm z):=by
 have hb:=(hk a).trans (F1 hb)
 induction b using ao with
 | true=>
  have hne:¬ env.kindOf a=some .local:=λh=>NameKind.noConfusion (ac (hb.symm.trans h))
  rw [if_neg hne,if_neg hne]
  exact ⟨pb.l,A3d hx rv pb.c⟩
 | false=>
  have hb:env.kindOf a=some .local:=hb
  rw [if_pos hb,if_pos hb]
  exact ⟨A3d hx rv pb.l,pb.c⟩
theorem cL {α:Type} {b:Bool} {x:Option α} {v:α} {G:Prop} (h:D5 b x none=some v) (k:b=true->x=some v->G):G:=by
 induction b using ao with
 | true=>exact k rfl h
 | false=>cases h
theorem C1j {w:W} {nm:NM} {env:PySem.Env} (hk:∀ x,env.kindOf x=nm.lookup x) {as:List Arg}:∀ {ps:List (Nat×Bool)} {vs ds:List V} {e e':Mine.Env} {m cm:Str->Option Value} {ys:List Value} {s s':St},
  psB nm as ps=true->S4 ps vs ds e s=.ok e' s'->w.vrs κ (vs++ds.drop (ds.length + vs.length - ps.length)) ys->vs.length<=ps.length->ps.length<=vs.length + ds.length->PB κ w e m cm->
  s'=s/\PB κ w e' (bindL env.kindOf ((as.map (·.arg)).zip ys) m) (bindC env.kindOf ((as.map (·.arg)).zip ys) cm):=by
 induction as with
 | nil=>
  intro ps vs
  induction ps using av with
  | cons=>exact λhp=>ff hp
  | nil=>induction vs using av with
   | nil=>exact λ_ h _ _ _ pb=>⟨(A3 h).2,(A3 h).1 ▸ pb⟩
   | cons=>exact λ_ h=>(A0 h).elim
 | cons a as ih=>
  intro ps vs
  induction ps using av with
  | nil=>exact λhp=>ff hp
  | cons p ps=>induction vs using av with
   | cons v vs=>
    intro ds e e' m cm ys s s' hp h hv hl1 hl2 pb
    have hv:w.vrs κ (v::(vs++ds.drop (ds.length + vs.length - ps.length))) ys:=Nat.add_sub_add_right (ds.length + vs.length) 1 ps.length ▸ hv
    exact b3 hp λhx hb hp=>VRels.elC (P:=λys _=>s'=s/\PB κ w e' (bindL env.kindOf (((a::as).map (·.arg)).zip ys) m) (bindC env.kindOf (((a::as).map (·.arg)).zip ys) cm)) (λrv rvs=>ih hp h rvs (Nat.le_of_succ_le_succ hl1) (Nat.le_of_succ_le_succ (aJ hl2 (Nat.le_of_eq (Nat.succ_add vs.length ds.length)))) (A4x hk (C6 hx) hb pb rv)) hv
   | nil=>
    intro ds e e' m cm ys s s' hp h hv hl1 hl2 pb
    refine lfn (f:=λv=>S4 ps [] ds (D5 p.2 ⟨e.ls,G0 p.1 v e.cs⟩ ⟨G0 p.1 v e.ls,e.cs⟩)) h λv h3 h2=>cL h3 λhb h3=>?_
    have hb:=aj hb
    have q:ds.drop (ds.length - (ps.length + 1))=v::ds.drop (ds.length - ps.length):=(A5d h3).trans (congrArg (λk=>v::ds.drop k) (Nat.succ_pred_eq_of_pos (Nat.sub_pos_of_lt hb)))
    have hv:w.vrs κ (v::ds.drop (ds.length - ps.length)) ys:=q ▸ hv
    exact b3 hp λhx hb' hp=>VRels.elC (P:=λys _=>s'=s/\PB κ w e' (bindL env.kindOf (((a::as).map (·.arg)).zip ys) m) (bindC env.kindOf (((a::as).map (·.arg)).zip ys) cm)) (λrv rvs=>ih hp h2 rvs (Nat.zero_le _) (aJ (Nat.le_of_succ_le hb) (Nat.le_of_eq (Nat.zero_add _).symm)) (A4x hk (C6 hx) hb' pb rv)) hv
end
theorem J3 {α β:Type} [BEq α] (n:α):∀ (l m:List (α×β)),(l++m).lookup n=(l.lookup n).or (m.lookup n)
 | [],m=>by simp
 | (a,b)::l,m=>by
  rw [List.cons_append,aC,aC]
  induction h:n == a using ao with
  | true=>rfl
  | false=>exact J3 n l m
noncomputable def stp (S:List (Str×Value)) (p:Str×Value):List (Str×Value):=if (S.lookup p.1).isNone then S++[p] else S
theorem A6x (n:Str):∀ (ps S:List (Str×Value)),(ps.foldl stp S).lookup n=(S.lookup n).or (ps.lookup n)
 | [],S=>by simp
 | (a,b)::ps,S=>by
  rw [List.foldl_cons,A6x n ps,aC]
  unfold stp
  by_cases h:(S.lookup a).isNone=true
  ·rw [if_pos h,J3]
   cases e:n == a with
   | true=>
    have:n=a:=by simpa using e
    subst this
    rw [Option.isNone_iff_eq_none] at h
    rw [h]; simp [aC]
   | false=>
    have:List.lookup n [(a,b)]=none:=by rw [aC,e]; rfl
    simp only [this]
    cases S.lookup n<;>rfl
  ·rw [if_neg h]
   induction e:n == a using ao with
   | true=>
    have:n=a:=by simpa using e
    subst this
    induction hs:S.lookup n using ae with
    | none=>rw [hs] at h; exact absurd rfl h
    | some x=>rfl
   | false=>rfl
theorem A3c (f:Str×Value->List (Str×Value)->Sem (ForInStep (List (Str×Value)))) (hf:∀ p S,f p S=pure (.yield (stp S p))):∀ (ps S:List (Str×Value)),forIn ps S f=pure (ps.foldl stp S)
 | [],S=>by rw [List.forIn_nil]; rfl
 | p::ps,S=>by
  rw [List.forIn_cons,hf]
  exact A3c f hf ps (stp S p)
theorem A7c {ns:List Str} {xs:List Value} {n:Str} (h:n ∉ ns):(ns.zip xs).lookup n=none:=by
 induction ns generalizing xs with
 | nil=>simp
 | cons a ns ih=>
  induction xs using av with
  | nil=>simp
  | cons x xs=>
   rw [bn,aC]
   have:(n == a)=false:=by
    rw [beq_eq_false_iff_ne]; rintro rfl; exact h aP
   rw [this]
   exact ih λq=>h (aH _ q)
theorem A6p {α β:Type}:∀ (l:List α) (m:List β),l.zip m=(l.take m.length).zip m
 | [],m=>by simp
 | a::l,[]=>by simp
 | a::l,b::m=>by simp only [bh,List.take_succ_cons,bn]; rw [<- A6p l m]
theorem X1 {ns:List Str} {xs:List Value} (hl:ns.length<=xs.length):∀ n ∈ ns,((ns.zip xs).lookup n).isSome=true:=by
 induction ns generalizing xs with
 | nil=>intro n h; cases h
 | cons a ns ih=>
  intro n h
  induction xs using av with
  | nil=>simp at hl
  | cons x xs=>
   rw [bn,aC]
   split
   ·rfl
   ·rename_i e
    rcases aE.mp h with rfl | h
    ·simp at e
    ·exact ih (by simpa using hl) n h
theorem B7g {p q r:List Str} {xs d1 d2:List Value} (h1:(p++q).length=xs.length) (h2:q.length=d1.length) (n:Str):(((p++q++r).zip xs).lookup n).or (((q++r).zip (d1++d2)).lookup n)=((p++q++r).zip (xs++d2)).lookup n:=by
 have z:(p++q++r).zip xs=(p++q).zip xs:=by
  have:=List.zip_append (r₁:=r) (r₂:=([]:List Value)) h1
  rwa [List.append_nil,List.zip_nil_right,List.append_nil] at this
 rw [z,List.zip_append h1,List.zip_append h2,J3,J3]
 by_cases hm:n ∈ p++q
 ·exact A0z (X1 (Nat.le_of_eq h1) n hm) λv hv=>by rw [hv]; rfl
 ·rw [A7c (λh=>hm (List.mem_append_right _ h))]; rfl
theorem C5w {ns:List Str} {xs ds:List Value} {a m:Nat} (h:a + m=xs.length) (hx:xs.length<=ns.length) (hm:m<=ds.length) (n:Str):((ns.zip xs).lookup n).or (((ns.drop a).zip ds).lookup n)=(ns.zip (xs++ds.drop m)).lookup n:=by
 have e2:(ns.drop a).take m++ns.drop xs.length=ns.drop a:=by rw [<- h,<- List.drop_drop,List.take_append_drop]
 have e1:ns.take a++(ns.drop a).take m++ns.drop xs.length=ns:=by rw [List.append_assoc,e2,List.take_append_drop]
 have:=B7g (p:=ns.take a) (q:=(ns.drop a).take m) (r:=ns.drop xs.length) (d1:=ds.take m) (d2:=ds.drop m) (xs:=xs) (by rw [<- List.take_add,h,List.length_take,Nat.min_eq_left hx]) (by rw [List.length_take,List.length_take,bH,Nat.min_eq_left hm,Nat.min_eq_left (Nat.le_sub_of_add_le (by rw [Nat.add_comm,h]; exact hx))]) n
 rwa [e1,e2,List.take_append_drop] at this
noncomputable def A0f (s:ak) (v:Value) (ds:List Value):Prop:=(v=.none/\ds=[])∨∃ a o items e,v=.ref a/\s.heap.get? a=some o/\o.data=.seq items e/\ds=items.toList
theorem A1q {s:ak} {v:Value} {ds:List Value} (h:A0f s v ds):∃ x:Option (Array Value),(x.getD #[]).toList=ds/\∀ {M:Model} {A:aI} {E:Value->ak->Prop} {Q:Option (Array Value)->ak->Prop},Q x s->wpAny M A (seqItems? v) Q E s:=by
 rcases h with ⟨rfl,rfl⟩ | ⟨a,o,items,e,rfl,ho,hd,rfl⟩
 ·exact ⟨none,rfl,λq=>ag q⟩
 ·exact ⟨some items,rfl,λq=>bI ho hd q⟩
theorem E5b {M:Model} {A:aI} {E:Value->ak->Prop} {s:ak} {Q:List (Str×Value)->ak->Prop} {f:Str×Value->List (Str×Value)->Sem (ForInStep (List (Str×Value)))} {ps S:List (Str×Value)} (hf:∀ p S,f p S=pure (.yield (stp S p))) (q:Q (ps.foldl stp S) s):wpAny M A (forIn ps S f) Q E s:=A3c f hf ps S ▸ ag q
theorem C4x {ns:List Str} {xs:List Value} {k:Nat} (h1:xs.length<=ns.length) (h:k<=xs.length):(ns.take k).filter (λn=>((ns.zip xs).lookup n).isNone)=[]:=by
 rw [List.filter_eq_nil_iff]
 intro n hm
 have:=X1 (xs:=xs) (ns:=ns.take xs.length) (by rw [List.length_take]; exact Nat.min_le_left _ _) n (by
  rw [<- Nat.min_eq_left h,<- List.take_take] at hm
  exact List.mem_of_mem_take hm)
 rw [<- A6p] at this
 rw [Option.isNone_eq_false_iff.mpr this]; decide
theorem B2j {ns:List Str} {xs ds D:List Value} (hD:D=ds) (hn:ns.Nodup) (h1:xs.length<=ns.length) (h2:ns.length<=xs.length + ds.length) (h3:ds.length<=ns.length):(ns++[]).filterMap (λn=>((((ns.drop (ns.length - D.length)).zip D).foldl stp (ns.zip xs)).lookup n).map (n,·))=ns.zip (xs++ds.drop (ds.length + xs.length - ns.length)):=by
 subst hD
 have key:(λn=>((((ns.drop (ns.length - D.length)).zip D).foldl stp (ns.zip xs)).lookup n).map (n,·))=λn=>((ns.zip (xs++D.drop (D.length + xs.length - ns.length))).lookup n).map (n,·):=by
  funext n
  rw [A6x,C5w (m:=D.length + xs.length - ns.length) (by omega) h1 (by omega)]
 rw [List.append_nil,key,A0t hn (by rw [List.length_append,bH]; omega)]
theorem C1p {ns:List Str} {ds:List Value} (h3:ds.length<=ns.length):ds.drop (ds.length - ns.length)=ds:=by rw [Nat.sub_eq_zero_of_le h3]; rfl
theorem E5a {α:Type} {l:List α} (e:l=[]):¬ (!l.isEmpty)=true:=by subst e; exact Bool.false_ne_true
theorem D4f (p:Str×Value) (S:List (Str×Value)):(if (S.lookup p.1).isNone=true then pure (ForInStep.yield (S++[(p.1,p.2)])) else pure (ForInStep.yield S):Sem (ForInStep (List (Str×Value))))=pure (.yield (stp S p)):=by
 unfold stp; split<;>rfl
theorem q2 {α β:Type} {Q:α->β->Prop} {a b:α} {s:β} (e:a=b) (q:Q b s):Q a s:=e ▸ q
theorem A8r {s:ak} {fd:FuncData} {xs ds:List Value} (hp:A9g fd.params=true) (hd:A0f s fd.defaults ds) (hn:(fd.params.args.map (·.arg)).Nodup) (h1:xs.length<=fd.params.args.length) (h2:fd.params.args.length<=xs.length + ds.length) (h3:ds.length<=fd.params.args.length):
  BindsTo s fd ⟨xs,[]⟩ ((fd.params.args.map (·.arg)).zip (xs++ds.drop (ds.length + xs.length - fd.params.args.length))):=by
 rw [<- (List.length_map _:(fd.params.args.map (·.arg)).length=fd.params.args.length)] at h1 h2 h3 ⊢
 obtain ⟨nm,qn,⟨po,ar,va,ko,kd,kw,pd⟩,bd,sc,gl,cl,df,kf⟩:=fd
 induction po using av with
 | cons=>cases hp
 | nil=>
 induction va using ae with
 | some=>cases hp
 | none=>
 induction ko using av with
 | cons=>cases hp
 | nil=>
 induction kw using ae with
 | some=>cases hp
 | none=>
 refine Exists.elim (A1q hd) λx hx=>hx.elim λhx hw=>?_
 clear hp hd
 subst hx
 intro M A E Q q
 have hD:=C1p h3
 refine ab (ag (a:=((ar.map (·.arg)).zip xs,[])) (ab (hw (A9n (λh=>bq.mpr h1 (of_decide_eq_true (bX.mp h).1)) (A9n (E5a (C4x h1 ?_)) (ab (E5b (λp S=>D4f p S) (ab (ag (a:=(_,[])) ?_)))))))))
 ·exact Nat.sub_le_of_le_add (hD.symm ▸ h2)
 ·exact A9n Bool.false_ne_true (ag (q2 (B2j hD hn h1 h2 h3) q))
structure B9p (κ:Kx) (k:Nat) (fc:Fc) (t:W8) (f:Fn):Prop where
 ex:∃ (o:Obj) (fd:FuncData) (ds:List Value),κ.base.get? (κ.fA k)=some o/\o.data=.func fd/\fd.scope=t.sc/\fd.body=.stmts t.body/\fd.params=t.ps/\fd.closure=[]/\fd.globals=aX/\fd.builtins=builtinsNs/\κ.base.CodeRec fd.code fd.qualname/\
  fc.ps=f.ps/\fc.dflt=f.dflt/\fc.body=f.body.den/\(∀ x,SV N9 x->t.sc.names.lookup x=some .cell->fd.code=.ref κ.tc)/\fnB t f=true/\f.dflt.length<=f.ps.length/\(∀ w:W,A7 κ w->GlR κ w->A0f w.s fd.defaults ds/\w.vrs κ f.dflt ds)
noncomputable def D4o (κ:Kx) (k:Nat) (fc:Fc):Prop:=∃ t f,B9p κ k fc t f
theorem C1a {nm:NM} {as:List Arg}:∀ {ps:List (Nat×Bool)},psB nm as ps=true->as.length=ps.length:=by
 induction as with
 | nil=>exact λ{ps} h=>K5 (P:=λps:List (Nat×Bool)=>0=ps.length) h rfl
 | cons a as ih=>exact λ{ps} h=>R3 (P:=λps:List (Nat×Bool)=>as.length + 1=ps.length) h λp ps h=>b3 h λ_ _ h=>congrArg (· + 1) (ih h)
theorem B7r {nm:NM} {as:List Arg}:∀ {ps:List (Nat×Bool)},psB nm as ps=true->∀ a ∈ as,nm.lookup a.arg=some .local∨nm.lookup a.arg=some .cell:=by
 induction as with
 | nil=>exact λ_ a h=>nomatch h
 | cons a as ih=>
  intro ps h x hx
  refine R3 (P:=λ_=>nm.lookup x.arg=some .local∨nm.lookup x.arg=some .cell) h λp ps h=>b3 h λ_ hb h=>?_
  cases hx with
  | head=>exact (show ∀ b:Bool,isK nm a.arg (cond b .cell .local)=true->nm.lookup a.arg=some .local∨nm.lookup a.arg=some .cell from λb=>Bool.rec (λh=>.inl (F1 h)) (λh=>.inr (F1 h)) b) p.2 hb
  | tail _ hx=>exact ih h x hx
theorem B3y {ps:List (Nat×Bool)}:∀ {vs ds:List V} {e e':Mine.Env} {s s':St},S4 ps vs ds e s=.ok e' s'->vs.length<=ps.length/\ps.length<=vs.length + ds.length:=by
 induction ps with
 | nil=>
  intro vs ds
  induction vs using av with
  | nil=>exact λ_=>⟨aG _,Nat.zero_le _⟩
  | cons=>exact λh=>(A0 h).elim
 | cons p ps ih=>
  intro vs ds
  induction vs using av with
  | cons v vs=>exact λ{_ _ _ _} h=>⟨Nat.succ_le_succ (ih h).1,aJ (Nat.succ_le_succ (ih h).2) (Nat.le_of_eq (Nat.succ_add vs.length ds.length).symm)⟩
  | nil=>exact λ{e _ s _} h=>lfn (f:=λv=>S4 ps [] ds (D5 p.2 ⟨e.ls,G0 p.1 v e.cs⟩ ⟨G0 p.1 v e.ls,e.cs⟩)) (s:=s) h λv h3 _=>cL h3 λhb _=>⟨Nat.zero_le _,aJ (aj hb) (Nat.le_of_eq (Nat.zero_add _).symm)⟩
theorem F7r {a b c a' b' c':Nat} (l1:a<=b) (l2:b<=a + c) (l3:c<=b) (ea:a=a') (eb:b'=b) (ec:c=c'):a'<=b'/\b'<=a' + c'/\c'<=b'/\c + a - b=c' + a' - b':=by subst ea eb ec; exact ⟨l1,l2,l3,rfl⟩
section
variable {κ:Kx} {rn:F5} {f:Nat}
theorem C3e {w:W} {sc:Scope} {q:Str} {a:Addr} {cd:Value} {ev:Mine.Env} {m cm:Str->Option Value} {s':ak} (I:A7 κ w) (G:GlR κ w) (hk:sc.kind=.function) (hnd:(sc.names.map (·.1)).Nodup) (hfr:∀ x,sc.names.lookup x≠some .free) (hcd:∀ x,SV N9 x->sc.names.lookup x=some .cell->cd=.ref κ.tc)
  (x:InCallC w.s (newEnv sc w.h.objs.size aX (cellsFrom (w.h.objs.size + 1) sc.names []) q (some a) cd none builtinsNs).locals m (newEnv sc w.h.objs.size aX (cellsFrom (w.h.objs.size + 1) sc.names []) q (some a) cd none builtinsNs).cells cm s') (pb:PB κ w ev m cm):
  Le [] w ⟨w.φ,w.es,s'⟩/\A7 κ ⟨w.φ,w.es,s'⟩/\C8 κ ⟨w.φ,w.es,s'⟩ ev (newEnv sc w.h.objs.size aX (cellsFrom (w.h.objs.size + 1) sc.names []) q (some a) cd none builtinsNs)/\
   ∀ b ∈ X4 (newEnv sc w.h.objs.size aX (cellsFrom (w.h.objs.size + 1) sc.names []) q (some a) cd none builtinsNs),w.h.get? b=none:=by
 have hk':=x.toInCall.keep
 refine kEE x.toInCall.same λh1 tk he=>?_
 have hs:c9 w.s s':=by rw [he]; exact ⟨rfl,rfl,rfl⟩
 have le:Le [] w ⟨w.φ,w.es,s'⟩:=Le.grow hk' hs
 have inv:A7 κ ⟨w.φ,w.es,s'⟩:=I.grow hk'
 have dead:∀ b:Addr,w.h.objs.size<=b->w.h.get? b=none:=λb hb=>by
  induction e:w.h.get? b using ae with
  | none=>rfl
  | some o=>exact absurd (Heap.lt_size e) (bq.mpr hb)
 have names:=o7 (w.h.objs.size + 1) [] hnd List.nodup_nil (λp hp=>nomatch hp)
 have A8:∀ p ∈ cellsFrom (w.h.objs.size + 1) sc.names [],(cellsFrom (w.h.objs.size + 1) sc.names []).lookup p.1=some p.2:=λp hp=>lookup_of_mem_nodup names hp
 have cl:∀ y c,(cellsFrom (w.h.objs.size + 1) sc.names []).lookup y=some c->w.h.get? c=none:=λy c h=>dead c (Nat.le_of_lt (x.above y c (mem_of_lookup h)))
 refine ⟨le,inv,⟨hk,rfl,rfl,⟨m,x.toInCall.ns,λi v y h2 h3=>?_⟩,λi hi=>I.ne_new (dead _ (aG _)) i hi,λi v y h2 h3 h4=>?_,λy c h2=>⟨⟨_,x.cell y c h2⟩,λi hi=>I.ne_new (cl y c h2) i hi⟩,G.le le,λy z c h2 h3=>name_of_addr x.apart (mem_of_lookup h2) (mem_of_lookup h3),
  ⟨I.fresh (dead _ (aG _)),λy c h2=>⟨I.fresh (cl y c h2),Nat.ne_of_gt (x.above y c (mem_of_lookup h2))⟩⟩,λy h2=>?_,A8,hcd⟩,λb hb=>?_⟩
 ·refine C5 (pb.l i v y h2 h3) λval h4 h5=>?_
  exact ⟨val,h4,le.vr h5⟩
 ·refine C5 (pb.c i v y h2 h3) λval h5 h6=>?_
  have h4':sc.names.lookup y=some .cell:=h4.elim id λq=>absurd q (hfr y)
  obtain ⟨c,hc⟩:=bj.mp (cellsFrom_some sc.names (w.h.objs.size + 1) [] (.inl h4'))
  exact ⟨c,val,hc,h5 ▸ x.cell y c hc,le.vr h6⟩
 ·have h4':sc.names.lookup y=some .cell:=h2.elim id λq=>absurd q (hfr y)
  exact cellsFrom_some sc.names (w.h.objs.size + 1) [] (.inl h4')
 ·rcases aE.mp hb with rfl | hb
  ·exact dead _ (aG _)
  ·refine C5 (List.mem_map.mp hb) λp hp q64'=>?_; subst q64'
   exact cl _ _ (A8 p hp)
theorem B7.body {A:aI} {env:PySem.Env} (g:B7 A (f + 1) 60) (h:A.depth + 3 * (f + 1) + 2<=900):B7 (A.deeper env) (f + 1) 51:=⟨g.handled,(by show A.depth + 1 + 3 * (f + 1)<=900; omega),(by have:=g.units; show A.units + 3 + 60 * (f + 1) + 51<=9000; omega)⟩
theorem C3z {w w1:W} {env:PySem.Env} {fl:Fl} {v:V} {s2 es':St} {flow:Flow} {s':ak} (h:@Fl.rec (λ_=>M V) (λ_=>D7 .none) (λ_=>A5) (λv=>D7 v) fl s2=.ok v es') (le:Le [] w w1) (fr:∀ b ∈ X4 env,w.h.get? b=none) (p:A1 κ (X4 env) w1 s2 (FR κ env fl) flow s'):
  ∃ val,(.ok (.ret (match flow with | .ret v=>v | _=>.none)):Result)=.ok (.ret val)/\A1 κ [] w es' (E5 κ v) val s':=by
 induction p using A1.casesOn with
 | mk φ2 le2 inv2 hr=>
 induction fl using Fl.casesOn with
 | nxt e'=>
  cases hr.1
  exact N3 (P:=λv es'=>∃ val,(.ok (.ret .none):Result)=.ok (.ret val)/\A1 κ [] w es' (E5 κ v) val s') h ⟨.none,rfl,φ2,le.drop le2 fr,inv2,.none⟩
 | brk e'=>exact hr.elim
 | ret v'=>
  refine hr.elim λval hr=>?_
  cases hr.1
  exact N3 (P:=λv es'=>∃ x,(.ok (.ret val):Result)=.ok (.ret x)/\A1 κ [] w es' (E5 κ v) x s') h ⟨val,rfl,φ2,le.drop le2 fr,inv2,hr.2⟩
theorem F1d (fd:FuncData) {sc:Scope} {bd:FuncBody} {ps:Arguments} {cl:List (Str×Addr)} {gl bi:Addr} (h1:fd.scope=sc) (h2:fd.body=bd) (h3:fd.params=ps) (h4:fd.closure=cl) (h5:fd.globals=gl) (h6:fd.builtins=bi):fd=⟨fd.name,fd.qualname,ps,bd,sc,gl,cl,fd.defaults,fd.kwdefaults,fd.doc,fd.pyModule,fd.annotations,fd.code,fd.closureTuple,bi⟩:=by
 subst h1 h2 h3 h4 h5 h6; rfl
theorem y8 {k:Nat} {fc:Fc} {t:W8} {fn:Fn} (F:B9p κ k fc t fn) {cs:CS} (hcs:SSs κ rn (f + 1) 51 t.sc.names cs t.body) {A:aI} {c:Cx} {w:W} {vs:List V} {xs:List Value} {v:V} {es':St} (hA:B7 A (f + 1) 60) (hA2:A.depth + 3 * (f + 1) + 2<=900) (hc:D9 κ c) (I:A7 κ w) (G:GlR κ w) (hv:w.vrs κ vs xs)
  (h:D3 (S4 fc.ps vs fc.dflt ⟨[],[]⟩) (λe=>D3 (cs rn c e) λfl=>@Fl.rec (λ_=>M V) (λ_=>D7 .none) (λ_=>A5) (λv=>D7 v) fl) w.es=.ok v es'):
  codeAny κ.m A (.call (.ref (κ.fA k)) ⟨xs,[]⟩) (λr s'=>∃ val,r=.ok (.ret val)/\A1 κ [] w es' (E5 κ v) val s') w.s:=by
 refine Z2 F.ex λo fd ds ho hd hsc hbd hps hcl hgl hbl q65'=>A6q q65' λhcd e1 e2 e3 hpt hB hlen hds=>?_
 clear F q65' e3
 rw [e1,e2] at h
 clear e1 e2
 have hd:=hd.trans (congrArg Data.func (F1d fd hsc hbd hps hcl hgl hbl))
 clear hsc hbd hps hcl hgl hbl
 refine B8 h λev s1 h1 h2=>B8 h2 λfl s2 h3 h4=>(hds w I G).elim λhdf hdv=>?_
 refine (B3y h1).elim λl1 l2=>b4 hB λhB b7 b8 b9=>b6 hB λb1 b2 b3 b4 b5 b6=>?_
 refine B7s (F7r l1 l2 hlen hv.length (C1a b3) hdv.length) λz1 z2 z3 z4=>?_
 clear h h2 hds hB hlen
 have hk:t.sc.kind=.function:=eq_of_beq b4
 have hfr:∀ x,t.sc.names.lookup x≠some .free:=λx q=>ff (aL.mp b8 _ (mem_of_lookup q))
 have hnd:=W2 b7
 refine codeAny_call_function hA.room (I.base _ _ ho) hd (nt b5) (nt b6) rfl (hcd.keeps I.base) ((?_ :BindsTo _ _ _ ((t.ps.args.map (·.arg)).zip (xs++ds.drop (ds.length + xs.length - t.ps.args.length)))) _ _ _ _ ?_)
 ·exact A8r b1 hdf (W2 b2) z1 z2 z3
 have hys:w.vrs κ (vs++fn.dflt.drop (fn.dflt.length + vs.length - fn.ps.length)) (xs++ds.drop (ds.length + xs.length - t.ps.args.length)):=hv.append (z4 ▸ Q3 hdv _)
 refine wpAny_newFunctionEnv_cells hk (λx hx=>?_) λenv he s' x=>?_
 ·refine C5 (List.mem_map.mp (List.of_mem_zip (a:=x.1) (b:=x.2) hx).1) λa ha e=>?_
  exact (B7r b3 a ha).imp (λq=>e ▸ q) λq=>⟨e ▸ q,e ▸ cellsFrom_some t.sc.names _ [] (.inl q)⟩
 ·subst he
  refine And.elim (λe4 pb=>?_) (C1j (κ:=κ) (w:=w) (nm:=t.sc.names) (env:=newEnv t.sc w.h.objs.size aX (cellsFrom (w.h.objs.size + 1) t.sc.names []) (fd.qualname++".<locals>.") (some (κ.fA k)) fd.code none builtinsNs) (λ_=>rfl) b3 h1 hys l1 l2
   (m:=λ_=>none) (cm:=λ_=>none) ⟨λi v x h _=>(nomatch (U2 i).symm.trans h),λi v x h _=>(nomatch (U2 i).symm.trans h)⟩)
  refine B7s (C3e I G hk hnd hfr hpt x pb) λle inv er fr=>⟨I.lim.keeps inv.base,codeAny_func ?_⟩
  exact af (hcs (A.deeper _) c ev _ ⟨w.φ,w.es,s'⟩ fl s2 (hA.body hA2) hc inv er rfl (e4 ▸ h3)) (λflow s'' p=>C3z h4 le fr p) λ_ _ x=>x.elim
theorem B9p.body {k:Nat} {fc:Fc} {t:W8} {fn:Fn} (F:B9p κ k fc t fn):fc.body=fn.body.den/\mSL (mN 40) t.sc.names t.body fn.body=true:=
 Z2 F.ex λo fd ds ho hd hsc hbd hps hcl hgl hbl q67'=>A6q q67' λhcd e1 e2 e3 hpt hB hlen hds=>b2 hB λ_ h=>⟨e3,h⟩
theorem B3s (KO:U8 κ) (B:I4 κ) (RO:X2 κ f rn) {k:Nat} {fc:Fc} (F:D4o κ k fc) {A:aI} {c:Cx} {w:W} {vs:List V} {xs:List Value} {v:V} {es':St} (hA:B7 A (f + 1) 60) (hA2:A.depth + 3 * (f + 1) + 2<=900) (hc:D9 κ c) (I:A7 κ w) (G:GlR κ w) (hv:w.vrs κ vs xs)
  (h:D3 (S4 fc.ps vs fc.dflt ⟨[],[]⟩) (λe=>D3 (fc.body rn c e) λfl=>@Fl.rec (λ_=>M V) (λ_=>D7 .none) (λ_=>A5) (λv=>D7 v) fl) w.es=.ok v es'):
  codeAny κ.m A (.call (.ref (κ.fA k)) ⟨xs,[]⟩) (λr s'=>∃ val,r=.ok (.ret val)/\A1 κ [] w es' (E5 κ v) val s') w.s:=by
 refine kEE F λt fn F'=>?_; clear F; revert F'; intro F
 obtain ⟨e3,hm⟩:=F.body
 exact y8 F (cs:=fc.body) (e3 ▸ Y1 (A2m (n:=50) KO B RO 40) hm) hA hA2 hc I G hv h
end
theorem VRels.down {κ:Kx} {φ φ':Nat->Addr} {n n':Nat} {h h':Heap} (e:∀ i,i < n->φ' i=φ i) (le:n<=n') {v:List V} {x:List Value} (q:VRels κ φ n h v x):∀ {x':List Value},VRels κ φ' n' h' v x'->VRels κ φ n h' v x':=
 VRels.both (P:=λv _=>∀ {x'},A4 κ φ' n' h' v x'->A4 κ φ n h' v x') (Q:=λl _=>∀ {x'},VRels κ φ' n' h' l x'->VRels κ φ n h' l x') (λr=>by
  induction r using A4.elN with
  | none=>exact .none) (λb _ r=>by
  induction r using A4.elB with
  | bool=>exact .bool b) (λ_ _ r=>by
  induction r using A4.elI with
  | int q=>exact .int q) (λ_ _ r=>by
  induction r using A4.elS with
  | str q=>exact .str q) (λ_ _ r=>by cases r with | sgn q=>exact .sgn q) (λhk _ _ r=>by
  induction r using A4.elR with
  | ref hk' q=>exact .ref hk ((e _ hk).symm.trans q)) (λ_ _ _ _ _ _ ih _ r=>by
  induction r using A4.elT with
  | tup ho' hc' hd' hn' hl' hv'=>exact .tup ho' hc' hd' (λi hi q=>hn' i (ba hi le) ((e i hi).trans q)) hl' (ih hv')) (λ_ _ r=>by cases r with | big q=>exact .big q) (λ_ x' _=>.opq x') (λr=>by cases r; exact .scr) (λr=>by
  induction r using VRels.elE with
  | nil=>exact .nil) (λih1 ih2 _ r=>by
  induction r using VRels.elC with
  | cons a b=>exact .cons (ih1 a) (ih2 b)) q
theorem A4.down {κ:Kx} {φ φ':Nat->Addr} {n n':Nat} {h h':Heap} (e:∀ i,i < n->φ' i=φ i) (le:n<=n') {v:V} {x x':Value} (q:A4 κ φ n h v x) (r:A4 κ φ' n' h' v x'):A4 κ φ n h' v x':=(VRels.down e le (.cons q .nil) (.cons r .nil)).hd
section
variable {κ:Kx} {φ φ':Nat->Addr} {n n':Nat} {h h':Heap}
noncomputable def WfD (κ:Kx) (φ:Nat->Addr) (n:Nat) (h:Heap) (l:List (V×V)):Prop:=∀ p ∈ l,(∃ x,A4 κ φ n h p.2 x)/\(J1 p.1=true->∃ x,A4 κ φ n h p.1 x)
theorem j8.wf {l:List (V×V)} {ks:List (D2×Value)} (r:j8 κ φ n h l ks):WfD κ φ n h l:=by
 induction r with
 | nil=>exact λp hp=>nomatch hp
 | cons a b c ih=>exact λp hp=>(aE.mp hp).elim (λe=>e ▸ ⟨⟨_,b⟩,λq=>by cases a<;>cases q⟩) (ih p)
theorem KTs.wf {l:List (V×V)} {ks:List (PyData×Addr×Value)} (r:KTs κ φ n h l ks):WfD κ φ n h l:=by
 induction r with
 | nil=>exact λp hp=>nomatch hp
 | cons a b c d e f ih=>exact λp hp=>(aE.mp hp).elim (λq=>q ▸ ⟨⟨_,e⟩,λ_=>⟨_,d⟩⟩) (ih p)
theorem j8.down (e:∀ i,i < n->φ' i=φ i) (le:n<=n') {l:List (V×V)} {ks:List (D2×Value)} (wf:WfD κ φ n h l) (r:j8 κ φ' n' h' l ks):j8 κ φ n h' l ks:=by
 induction r with
 | nil=>exact .nil
 | cons a b c ih=>exact .cons a ((wf _ aP).1.elim λ_ hx=>hx.down e le b) (ih λp hp=>wf p (aH _ hp))
theorem KTs.down (e:∀ i,i < n->φ' i=φ i) (le:n<=n') {l:List (V×V)} {ks:List (PyData×Addr×Value)} (wf:WfD κ φ n h l) (r:KTs κ φ' n' h' l ks):KTs κ φ n h' l ks:=by
 induction r with
 | nil=>exact .nil
 | cons a b c d f g ih=>exact .cons a b c (((wf _ aP).2 c).elim λ_ hy=>hy.down e le d) ((wf _ aP).1.elim λ_ hx=>hx.down e le f) (ih λp hp=>wf p (aH _ hp))
theorem c8.down (e:∀ i,i < n->φ' i=φ i) (le:n<=n') {d i:Nat} {o:O} (hi:i < n) (r:c8 κ φ n d h i o) (r':c8 κ φ' n' d h' i o):c8 κ φ n d h' i o:=by
 induction o using O.casesOn with
 | list l=>
  refine E2 r λitems hl hlen hv=>?_; clear r
  refine E2 r' λitems' hl' hlen' hv'=>?_; clear r'
  rw [e i hi] at hl'
  exact ⟨items',hl',hlen',hv.down e le hv'⟩
 | dict l=>
  obtain ⟨hlen,hr⟩:=r
  have wf:WfD κ φ n h l:=by
   rcases hr with ⟨ks,_,hk⟩ | ⟨xs,_,hk⟩
   ·exact hk.wf
   ·exact hk.wf
  obtain ⟨_,hr'⟩:=r'
  rw [e i hi] at hr'
  rcases hr' with ⟨ks,hd,hk⟩ | ⟨xs,hd,hk⟩
  ·exact ⟨hlen,.inl ⟨ks,hd,hk.down e le wf⟩⟩
  ·exact ⟨hlen,.inr ⟨xs,hd,hk.down e le wf⟩⟩
 | inst k l=>
  refine H6 r λod q68' hlt es ep h1 h2 h3 h4 h5 h6=>?_; clear r; obtain ⟨I,hcl⟩:=q68'
  refine H6 r' λod' q69' hlt' es' ep' h1' h2' h3' h4' h5' h6'=>?_; clear r'; obtain ⟨I',_⟩:=q69'
  rw [e i hi,e (i + 1) hlt] at I'
  refine ⟨od',⟨I',hcl⟩,hlt,es',ep',h1',h2',h3',h4',h5',λa x hx=>?_⟩
  have g:=h6 a x hx
  have g':=h6' a x hx
  generalize A8 a l=p at g g'
  generalize nsFind es x=q at g
  generalize nsFind es' x=q' at g'
  induction p using ae<;>induction q using ae<;>induction q' using ae<;>first | trivial | exact g.elim | exact g'.elim | exact A4.down e le g g'
 | tab=>
  obtain ⟨e1,_⟩:=r
  refine A1y r' λ_ ps ho ht=>?_; clear r'
  rw [e i hi] at ho
  exact ⟨e1,ps,ho,ht⟩
 | pair=>
  refine kEE r' λa b ho=>?_; clear r'
  rw [e i hi] at ho
  exact ⟨a,b,ho⟩
 | chest=>
  refine C4r r' λi1 t u hl=>?_; clear r'
  rw [e i hi] at hl
  exact ⟨i1,t,u,hl⟩
end
section
variable {κ:Kx} {w:W}
theorem A5f (I:A7 κ w):A7 κ ⟨w.φ,Q5 w.es,w.s⟩:=⟨I.obj,I.inj,I.lt,I.base,I.lim,aG _,aJ I.f1 I.fl,I.nb,I.sb,I.z0,I.own,I.sec⟩
theorem D7p (I:A7 κ w) {φ':Nat->Addr} {es':St} {s':ak} (le:Le [] ⟨w.φ,Q5 w.es,w.s⟩ ⟨φ',es',s'⟩) (inv:A7 κ ⟨φ',es',s'⟩) (hd:es'.d=w.es.d):Le [] w ⟨w.φ,w.es,s'⟩/\A7 κ ⟨w.φ,w.es,s'⟩:=by
 have e:∀ i,i < w.n->φ' i=w.φ i:=le.same
 have hn:w.n<=es'.n:=le.le
 have ot:∀ i,i < w.n->es'.t.get i=w.es.t.get i:=le.old
 refine ⟨⟨le.keep,le.live,λ_ _=>rfl,λi h1 h2=>absurd h2 (bq.mpr h1),aG _,rfl,λ_ _=>rfl,aG _,le.gens,le.os,le.drawn⟩,
  ⟨λi o h=>?_,I.inj,λi hi=>?_,inv.base,I.lim,I.fl,I.f1,I.nb,I.sb,I.z0,I.own,I.sec⟩⟩
 ·obtain ⟨hi,r⟩:=I.obj i o h
  have h':es'.t.get i=some o:=(ot i hi).trans h
  obtain ⟨_,r'⟩:=inv.obj i o h'
  have r'':c8 κ φ' es'.n w.es.d s'.heap i o:=hd ▸ r'
  exact ⟨hi,r.down e hn hi r''⟩
 ·have:=inv.lt i (ba hi hn)
  rw [show W.φ ⟨φ',es',s'⟩ i=w.φ i from e i hi] at this
  exact this
end
theorem C2p {v:V} {i:Mine.I} (h:E1w v=some i):v=.int i:=by
 induction v using V.casesOn with
 | int j=>exact congrArg V.int (ac h)
 | _=>cases h
theorem B8g {d:Nat} {r:Rs V} {i:Mine.I} {G:Prop} (h:A5o d r=some i) (k:∀ s,r=.ok (.int i) s->s.d=d->G):G:=by
 induction r using Rs.casesOn with
 | no=>cases h
 | ok v s=>exact oR h λi' hv h=>cL (b:=aA s.d d) (x:=some i') h λhb e=>k s (congrArg (Rs.ok · s) ((C2p hv).trans (congrArg V.int (ac e)))) (aw hb)
theorem oN {α β:Type} {x:Option β} {o:Option α} {b:β} (h:@Option.rec α (λ_=>Option β) x (λ_=>none) o=some b):x=some b:=by
 induction o using ae with
 | none=>exact h
 | some=>cases h
theorem A0c {c:Cx} {i j:Nat} (h:A9j c i=some j):i=j/\∃ m,c.many[i]?=some m/\m<=3:=oR (oN h) λm hm h=>cL h λhb e=>⟨ac e,m,hm,aj hb⟩
theorem oRr {α:Type} {o:Option α} {f:α->Rs V} {v:V} {s:St} {G:Prop} (h:rsO o f=.ok v s) (k:∀ a,o=some a->f a=.ok v s->G):G:=by
 induction o using ae with
 | none=>cases h
 | some a=>exact k a rfl h
theorem E3d {x:Int} {m:Nat} (h0:0<=x) (h1:x < m) (h:m<=3):x=((0:Nat):Int)∨x=((1:Nat):Int)∨x=((2:Nat):Int):=
 (Int.eq_ofNat_of_zero_le h0).elim λn e=>by
  subst e
  have hn:=ba (Int.ofNat_lt.mp h1) h
  induction n using aU with
  | zero=>exact .inl rfl
  | succ n=>induction n using aU with
   | zero=>exact .inr (.inl rfl)
   | succ n=>induction n using aU with
    | zero=>exact .inr (.inr rfl)
    | succ n=>exact absurd hn (bq.mpr (Nat.le_add_left 3 n))
section
variable {κ:Kx} {rn:F5} {f:Nat} {tab:Tr Fc}
theorem D9.asg1 {c:Cx} (hc:D9 κ c) {j m:Nat} (h:κ.rho j=(m:Int)):D9 κ ⟨(j,m)::c.asg,c.many,c.wide⟩:=by
 refine ⟨λk i hk=>?_,hc.many,hc.wide,hc.chw,hc.dr⟩
 have hk':A8 k ((j,m)::c.asg)=some i:=hk
 rw [G4] at hk'
 split at hk'
 ·rename_i e
  cases hk'
  have e':j=k:=e
  subst e'
  exact h
 ·exact hc.asg k i hk'
noncomputable def A9y (κ:Kx) (f:Nat) (rn:F5) (k:Nat) (tab:Tr Fc):Prop:=∀ A c w vs xs v es',B7 A f 60->A.depth + 3 * f + 2<=900->D9 κ c->A7 κ w->GlR κ w->w.vrs κ vs xs->P4 tab rn c k vs w.es=.ok v es'->
 codeAny κ.m A (.call (.ref (κ.fA k)) ⟨xs,[]⟩) (λr s'=>∃ val,r=.ok (.ret val)/\A1 κ [] w es' (E5 κ v) val s') w.s
theorem A4s (r:Nat->Int) (k:Nat) (a b c:Mine.I):Mine.I.val r (.sel k a b c)=if r k=0 then a.val r else if r k=1 then b.val r else c.val r:=rfl
theorem B4l {k:Nat} (P:A9y κ f rn k tab) {A:aI} {c:Cx} {w:W} {vs:List V} {xs:List Value} {v:V} {es':St} {j:Nat} (hA:B7 A f 60) (hA2:A.depth + 3 * f + 2<=900) (hc:D9 κ c) (I:A7 κ w) (G:GlR κ w) (hv:w.vrs κ vs xs)
  (hj:A9j c j=some j) (h:B6k tab rn c k vs j w.es=.ok v es'):
  codeAny κ.m A (.call (.ref (κ.fA k)) ⟨xs,[]⟩) (λr s'=>∃ val,r=.ok (.ret val)/\A1 κ [] w es' (E5 κ v) val s') w.s:=by
 refine C5 (A0c hj).2 λm hm hb=>oRr h λx h0 h=>oRr h λy h1 h=>oRr h λz h2 h=>?_
 have hr:=E3d (hc.many j m hm).1 (hc.many j m hm).2 hb
 cases h
 have one:∀ (m:Nat) (i:Mine.I),κ.rho j=(m:Int)->A5o w.es.d (P4 tab rn ⟨(j,m)::c.asg,c.many,c.wide⟩ k vs (Q5 w.es))=some i->Mine.I.val κ.rho (.sel j x y z)=i.val κ.rho->
   codeAny κ.m A (.call (.ref (κ.fA k)) ⟨xs,[]⟩) (λr s'=>∃ val,r=.ok (.ret val)/\A1 κ [] w w.es (E5 κ (.int (.sel j x y z))) val s') w.s:=by
  intro m i hm hi he
  refine B8g hi λs1 h3 h4=>?_
  refine codeAny_mono (P A _ ⟨w.φ,Q5 w.es,w.s⟩ vs xs _ s1 hA hA2 (hc.asg1 hm) (A5f I) G hv h3) λr s' p=>?_
  refine C5 p λval q70' q71'=>?_; clear p; subst q70'; obtain ⟨φ',le,inv,hval⟩:=q71'
  obtain ⟨le',inv'⟩:=D7p I le inv h4
  refine ⟨val,rfl,w.φ,le',inv',?_⟩
  have hval':A4 κ φ' s1.n s'.heap (.int i) val:=hval
  induction hval' using A4.elI with
  | int e=>exact .int (he.trans e)
 exact hr.elim (λq=>one 0 x q h0 (by rw [A4s,if_pos (by rw [q]; rfl)])) λhr=>hr.elim (λq=>one 1 y q h1 (by rw [A4s,if_neg (by rw [q]; decide),if_pos (by rw [q]; rfl)])) λq=>one 2 z q h2 (by rw [A4s,if_neg (by rw [q]; decide),if_neg (by rw [q]; decide)])
end
theorem A9a {c:Cx} {k:Nat} {vs:List V} {j:Nat} (h:A3i c k vs=some j):A9j c j=some j:=oR h λi _ hi=>(A0c hi).1 ▸ hi
section
variable (κ:Kx)
noncomputable def B6y:Prop:=∀ A c w vs xs v es',B7 A 1 60->A.depth + 5<=900->D9 κ c->A7 κ w->GlR κ w->w.vrs κ vs xs->drawn c vs w.es=.ok v es'->
 codeAny κ.m A (.call (.ref (κ.fA 113)) ⟨xs,[]⟩) (λr s'=>∃ val,r=.ok (.ret val)/\A1 κ [] w es' (E5 κ v) val s') w.s
noncomputable def A9h:Prop:=∀ A c w vs xs v es',B7 A 1 60->A.depth + 5<=900->D9 κ c->A7 κ w->GlR κ w->w.vrs κ vs xs->A8l vs w.es=.ok v es'->
 codeAny κ.m A (.call (.ref (κ.fA 112)) ⟨xs,[]⟩) (λr s'=>∃ val,r=.ok (.ret val)/\A1 κ [] w es' (E5 κ v) val s') w.s
end
section
variable {κ:Kx}
theorem B7.one {A:aI} {f n:Nat} (g:B7 A (f + 1) n):B7 A 1 n:=⟨g.handled,by have:=g.depth; omega,by have:=g.units; omega⟩
theorem D1c (KO:U8 κ) (B:I4 κ) (D:B6y κ) (C:A9h κ) {tab:Tr Fc} (F:∀ k fc,k≠113->k≠112->tab.get k=some fc->D4o κ k fc) (f:Nat):X2 κ f (C4v tab f):=by
 induction f with
 | zero=>exact λk A c w vs xs v es' _ _ _ _ _ _ h=>(A0 (s:=w.es) h).elim
 | succ f ih=>
  intro k A c w vs xs v es' hA hA2 hc I G hv h
  refine cI (b:=aA k 113) h (λe h=>?_) λk1 h=>cI h (λe h=>?_) λk2 h=>?_
  ·cases aw e
   exact D A c w vs xs v es' hA.one (by omega) hc I G hv h
  ·cases aw e
   exact C A c w vs xs v es' hA.one (by omega) hc I G hv h
  have P:A9y κ (f + 1) (C4v tab f) k tab:=λA c w vs xs v es' hA hA2 hc I G hv h=>lfn h λfc h3 h2=>B3s KO B ih (F k fc (Nat.ne_of_beq_eq_false k1) (Nat.ne_of_beq_eq_false k2) h3) hA (by omega) hc I G hv h2
  generalize hs:A3i c k vs=q at h
  induction q using ae with
  | none=>exact P A c w vs xs v es' hA (by omega) hc I G hv h
  | some j=>exact B4l P hA (by omega) hc I G hv (A9a hs) h
end
end
end Mine
set_option maxRecDepth 100000
set_option maxHeartbeats 0
namespace Mine
open PySem PySem.W PyProof.Rows
noncomputable section
noncomputable def fAl:List Nat:=[104,118,125,132,139,144,149,156,163,175,189,194,211,218,239,246,251,258,284,289,294,301,306,311,333,411,418,423,430,437,444,458,463,477,482,489,509,516,523,530,537,544,558,565,593,600,605,612,617,624,629,650,657,676,683,705,712,724,745,759,766,773,787,794,801,815,820,827,848,853,860,867,874,881,888,893,899,906,913,918,939,997,1011,1018,1025,1053,1060,1067,1088,1095,1109,1116,1156,1163,1177,1191,1198,1203,1210,1217,1224,1231,1238,1245,1252,1259,1278,1301,1322,1343,1365,1387,1408,1415,1422,1427,1434,1439,1446,1453,1460,1467,1474,1479,1486,1493,1500,1505]
noncomputable def cAl:List Nat:=[273,379,492,693,727,837,963,1070,1138,1166,1281,1304,1325,1346,1368,1397]
noncomputable def nAl:List Nat:=[272,378,491,692,726,836,962,1069,1137,1165,1280,1303,1324,1345,1367,1396]
noncomputable def tx (s:Stmt):W8:=⟨scS s,bdS s,prS s⟩
noncomputable def fTx:List W8:=[tx (A6 8),tx (A6 10),tx (A6 11),tx (A6 15),tx (A6 16),tx (A6 17),tx (A6 18),tx (A6 19),tx (A6 20),tx (A6 22),tx (A6 24),tx (A6 25),tx (A6 30),tx (A6 31),tx (mth 33 0),tx (mth 33 1),tx (mth 33 2),tx (mth 33 3),tx (A6 34),tx (A6 37),tx (A6 38),tx (A6 39),tx (A6 40),tx (A6 41),tx (mth 44 0),tx (A6 52),tx (A6 53),tx (A6 54),tx (A6 55),tx (A6 56),tx (A6 57),tx (mth 58 0),tx (mth 58 1),tx (mth 58 3),tx (mth 58 4),tx (mth 58 5),tx (A6 62),tx (A6 63),tx (A6 64),tx (A6 65),tx (A6 66),tx (A6 67),tx (A6 69),tx (A6 70),tx (A6 77),tx (A6 78),tx (A6 79),tx (A6 80),tx (A6 81),tx (A6 82),tx (A6 83),tx (mth 86 0),tx (mth 86 1),tx (mth 86 4),tx (mth 86 5),tx (A6 91),tx (A6 92),tx (mth 93 0),tx (mth 94 0),tx (mth 94 2),tx (mth 94 3),tx (mth 94 4),tx (mth 94 6),tx (mth 94 7),tx (mth 94 8),tx (mth 94 10),tx (mth 94 11),tx (mth 94 12),tx (A6 96),tx (A6 97),tx (A6 98),tx (A6 99),tx (A6 100),tx (A6 101),tx (A6 102),tx (A6 103),tx (A6 104),tx (A6 105),tx (A6 106),tx (A6 107),tx (mth 110 0),tx (A6 117),tx (mth 118 0),tx (mth 118 1),tx (mth 118 2),tx (mth 118 6),tx (mth 118 7),tx (mth 118 8),tx (mth 119 0),tx (mth 119 1),tx (mth 119 3),tx (mth 119 4),tx (mth 121 0),tx (mth 121 1),tx (A6 122),tx (mth 123 0),tx (mth 123 1),tx (mth 123 2),tx (mth 123 3),tx (mth 123 4),tx (mth 123 5),tx (mth 123 6),tx (mth 123 7),tx (mth 123 8),tx (mth 123 9),tx (mth 123 10),tx (mth 123 13),tx (mth 125 0),tx (mth 126 0),tx (mth 127 0),tx (mth 128 0),tx (mth 129 0),tx (A6 131),tx (A6 132),tx (A6 133),tx (A6 134),tx (A6 135),tx (A6 136),tx (A6 137),tx (A6 138),tx (A6 139),tx (A6 140),tx (A6 141),tx (A6 142),tx (A6 143),tx (A6 144),tx (A6 145),tx (A6 146)]
noncomputable def dfl:List Value:=[.none,.none,.none,.none,.none,.none,.none,.none,.none,.none,.none,.none,.none,.none,.none,.none,.none,.none,.none,.none,.none,.none,.none,.none,.ref 326,.none,.none,.none,.none,.none,.none,.none,.none,.none,.none,.none,.none,.none,.none,.none,.none,.none,.none,.none,.none,.none,.none,.none,.none,.none,.none,.none,.none,.none,.none,.none,.none,.none,.none,.none,.none,.none,.none,.none,.none,.none,.none,.none,.none,.none,.none,.none,.none,.none,.none,.none,.ref 894,.none,.none,.none,.none,.none,.none,.none,.none,.none,.none,.none,.none,.none,.none,.none,.none,.none,.none,.none,.none,.none,.none,.none,.none,.none,.none,.none,.none,.none,.none,.ref 1294,.none,.none,.ref 1358,.ref 1380,.none,.none,.none,.none,.none,.none,.none,.none,.none,.none,.none,.none,.none,.none,.none,.none]
noncomputable def fNm:List Str:=[aa "head_pairs",aa "match_type",aa "match_all",aa "parts_of",aa "rebuilt",aa "substituted",aa "with_regions",aa "no_region",aa "erased",aa "type_text",aa "field_rows",aa "fields_of",aa "names_of",aa "matches_impl",aa "select",aa "key_of",aa "param_names",aa "substitution_of",aa "closed_ref",aa "resolved_ref",aa "plain_type",aa "plain_operand",aa "plain_operands",aa "plain_rvalue",aa "plain_statement",aa "want_small",aa "is_signed",aa "least",aa "greatest",aa "fits",aa "wrapped",aa "cast_int",aa "exact",aa "checked",aa "size_of",aa "measured",aa "measured_anew",aa "summed",aa "part_types",aa "first_place",aa "offset_of_field",aa "pointer",aa "moved",aa "is_enum",aa "parts_told",aa "is_of_parts",aa "parts_of_cells",aa "want_whole",aa "is_told",aa "inner_told",aa "paired",aa "cells_of",aa "joined",aa "filled",aa "told_value",aa "reckoned",aa "told_live",aa "_law_chest",aa "_law_drawer",aa "_law_one",aa "_law_plan",aa "_law_types",aa "_law_body",aa "_law_reckoned",aa "_law_asked",aa "_law_low",aa "_law_high",aa "_law_two",aa "_law_sig",aa "_law_made",aa "_law_worked",aa "_law_answer",aa "law"]
noncomputable def cNm:List Str:=[aa "Selection",aa "Body",aa "Instances",aa "Stack",aa "Allocation",aa "Memory",aa "DropGlue",aa "Places",aa "Rvalues",aa "Frame",aa "Machine",aa "Adt",aa "Sig",aa "TraitRow",aa "ImplRow",aa "World"]
noncomputable def B2h:Option Obj->Option FuncData
 | some ⟨_,_,.func fd,_⟩=>some fd
 | _=>none
noncomputable def fKs:List Nat:=fnT.map (·.2)
noncomputable def cKs:List Nat:=clT.map (·.2)
theorem G0a (P:Params):fAl.map (λa=>(B2h ((hT P).get? a)).map λfd=>((hT P).codeRecOk fd.code fd.qualname,fd.defaults,fd.scope,fd.body,fd.params,fd.closure,fd.globals,fd.builtins))=(fTx.zip dfl).map λt=>some (true,t.2,t.1.sc,.stmts t.1.body,t.1.ps,[],aX,builtinsNs):=by kernel_rfl
theorem F4l (P:Params):fNm.map ((hT P).nsMap aX)=fKs.map λk=>(fAl[k]?).map Value.ref:=by kernel_rfl
theorem F8o (P:Params):cNm.map ((hT P).nsMap aX)=cKs.map λk=>(cAl[k]?).map Value.ref:=by kernel_rfl
theorem G0g:((fnT.zip fNm).all λp=>R0 p.1.1 p.2)=true:=by decide +kernel
theorem G2m:((clT.zip cNm).all λp=>R0 p.1.1 p.2)=true:=by decide +kernel
noncomputable def kAl:List Nat:=[273,379,492,693,727,837,963,1070,1138,1166,1281,1304,1325,1346,1368,1397,272,378,491,692,726,836,962,1069,1137,1165,1280,1303,1324,1345,1367,1396,239,246,251,258,265,270,333,340,347,354,361,368,376,458,463,470,477,482,489,650,657,664,671,676,683,690,724,745,752,759,766,773,780,787,794,801,808,815,820,827,834,939,946,953,960,1011,1018,1025,1032,1039,1046,1053,1060,1067,1088,1095,1102,1109,1116,1123,1130,1135,1156,1163,1191,1198,1203,1210,1217,1224,1231,1238,1245,1252,1259,1266,1273,1278,1301,1322,1343,1365,1387,1394]
noncomputable def aNm:List Str:=[aa "own",aa "adts",aa "body",aa "fuel",aa "glue",aa "jobs",aa "keys",aa "late",aa "made",aa "many",aa "name",aa "path",aa "sigs",aa "spot",aa "tags",aa "after",aa "block",aa "cells",aa "homes",aa "impls",aa "index",aa "items",aa "known",aa "spots",aa "trait",aa "world",aa "blocks",aa "bodies",aa "bounds",aa "closed",aa "consts",aa "frames",aa "inputs",aa "locals",aa "memory",aa "module",aa "number",aa "output",aa "params",aa "places",aa "prints",aa "stacks",aa "target",aa "traits",aa "dropped",aa "is_enum",aa "is_live",aa "methods",aa "modules",aa "outcome",aa "program",aa "publics",aa "regions",aa "rvalues",aa "waiting",aa "defaults",aa "has_body",aa "variants",aa "arg_count",aa "self_kind",aa "self_type",aa "trait_args",aa "allocations"]
noncomputable def kf (P:Params):PySem.W.Frag:=kAl.map λa=>(a,((hT P).get? a).getD default)
noncomputable def mNm:List (List Str):=[[aa "bound_of",aa "needs_of",aa "candidates"],[],[aa "wanted",aa "make_all",aa "made_body",aa "plain_terminator"],[aa "place",aa "read",aa "write"],[],[aa "allocate",aa "base",aa "is_live",aa "free",aa "room",aa "read",aa "write",aa "read_all",aa "write_all"],[],[aa "home_of",aa "spot_of",aa "read",aa "leave",aa "taken"],[aa "cells",aa "of_two",aa "of_one"],[aa "go"],[aa "run",aa "input_rows",aa "body_of",aa "enter",aa "make_home",aa "give_back",aa "leave",aa "step",aa "do_statement",aa "do_terminator",aa "do_call"],[],[],[],[],[]]
noncomputable def cLs:List Cls:=[cl0,cl1,cl2,cl3,cl4,cl5,cl6,cl7,cl8,cl9,E3t,E6l,F0z,F2f,F0e,F0m]
theorem G1o:(List.range 40).map H1.get=(List.range 40).map λk=>cLs[k]?:=by kernel_rfl
theorem F9c:((E8.zip aNm).all λp=>R0 p.1 p.2)=true:=by decide +kernel
noncomputable def mCk (K:PySem.W.Frag) (C:Addr) (x:Str) (f:Nat):Bool:=match fAl[f]? with
 | some a=>findIn K (.ref C) x == some (some (.ref a)) && typeIn K (.ref a) == some (.type "function") && Nat.blt f 128
 | none=>false
theorem L_k (P:Params):((kAl.all λa=>((hT P).get? a).isSome) && (cAl.all λC=>A6i (kf P) C) && (cAl.all λC=>aNm.all λx=>A6j (kf P) C x && takerIn (kf P) C x == some none) && ((cAl.zip cLs).all λp=>match p.2.init with | some f=>mCk (kf P) p.1 "__init__" f | none=>true) && ((cAl.zip (cLs.zip mNm)).all λp=>aA p.2.1.ms.length p.2.2.length && (p.2.1.ms.zip p.2.2).all λq=>R0 q.1.1 q.2 && mCk (kf P) p.1 q.2 q.1.2))=true:=by kernel_rfl
theorem F8w (P:Params):(kAl.all λa=>((hT P).get? a).isSome)=true:=b5 (L_k P) λa b c d e=>a
theorem F7j (P:Params):(cAl.all λC=>A6i (kf P) C)=true:=b5 (L_k P) λa b c d e=>b
theorem F9l (P:Params):(cAl.all λC=>aNm.all λx=>A6j (kf P) C x && takerIn (kf P) C x == some none)=true:=b5 (L_k P) λa b c d e=>c
theorem G1s (P:Params):((cAl.zip cLs).all λp=>match p.2.init with | some f=>mCk (kf P) p.1 "__init__" f | none=>true)=true:=b5 (L_k P) λa b c d e=>d
theorem G2e (P:Params):((cAl.zip (cLs.zip mNm)).all λp=>aA p.2.1.ms.length p.2.2.length && (p.2.1.ms.zip p.2.2).all λq=>R0 q.1.1 q.2 && mCk (kf P) p.1 q.2 q.1.2)=true:=b5 (L_k P) λa b c d e=>e
noncomputable def fbK (l:List (W8×Fn)):Bool:=l.all λp=>fnB p.1 p.2 && be p.2.dflt.length p.2.ps.length
noncomputable def F7:List (W8×Fn):=fTx.zip A0q
theorem fb0:fbK ((F7.drop 0).take 8)=true:=by decide +kernel
theorem fb1:fbK ((F7.drop 8).take 8)=true:=by decide +kernel
theorem fb2:fbK ((F7.drop 16).take 8)=true:=by decide +kernel
theorem fb3:fbK ((F7.drop 24).take 8)=true:=by decide +kernel
theorem fb4:fbK ((F7.drop 32).take 8)=true:=by decide +kernel
theorem fb5:fbK ((F7.drop 40).take 8)=true:=by decide +kernel
theorem fb6:fbK ((F7.drop 48).take 8)=true:=by decide +kernel
theorem fb7:fbK ((F7.drop 56).take 8)=true:=by decide +kernel
theorem fb8:fbK ((F7.drop 64).take 8)=true:=by decide +kernel
theorem fb9:fbK ((F7.drop 72).take 8)=true:=by decide +kernel
theorem F8d:fbK ((F7.drop 80).take 8)=true:=by decide +kernel
theorem F6e:fbK ((F7.drop 88).take 8)=true:=by decide +kernel
theorem F7u:fbK ((F7.drop 96).take 8)=true:=by decide +kernel
theorem F6u:fbK ((F7.drop 104).take 8)=true:=by decide +kernel
theorem F7q:fbK ((F7.drop 112).take 8)=true:=by decide +kernel
theorem G1p:fbK ((F7.drop 120).take 8)=true:=by decide +kernel
theorem E4c:fbK F7=true:=by
 have h:∀ (n:Nat) (l:List (W8×Fn)),fbK (l.take n)=true->fbK (l.drop n)=true->fbK l=true:=λn l h1 h2=>by
  unfold fbK at *
  rw [<- List.take_append_drop n l,List.all_append,h1,h2]; rfl
 have s:∀ n,F7.drop (n + 8)=(F7.drop n).drop 8:=λn=>by rw [List.drop_drop]
 have e:fbK (F7.drop 128)=true:=by decide +kernel
 have e:=h 8 (F7.drop 120) G1p (by rw [<- s]; exact e)
 have e:=h 8 (F7.drop 112) F7q (by rw [<- s]; exact e)
 have e:=h 8 (F7.drop 104) F6u (by rw [<- s]; exact e)
 have e:=h 8 (F7.drop 96) F7u (by rw [<- s]; exact e)
 have e:=h 8 (F7.drop 88) F6e (by rw [<- s]; exact e)
 have e:=h 8 (F7.drop 80) F8d (by rw [<- s]; exact e)
 have e:=h 8 (F7.drop 72) fb9 (by rw [<- s]; exact e)
 have e:=h 8 (F7.drop 64) fb8 (by rw [<- s]; exact e)
 have e:=h 8 (F7.drop 56) fb7 (by rw [<- s]; exact e)
 have e:=h 8 (F7.drop 48) fb6 (by rw [<- s]; exact e)
 have e:=h 8 (F7.drop 40) fb5 (by rw [<- s]; exact e)
 have e:=h 8 (F7.drop 32) fb4 (by rw [<- s]; exact e)
 have e:=h 8 (F7.drop 24) fb3 (by rw [<- s]; exact e)
 have e:=h 8 (F7.drop 16) fb2 (by rw [<- s]; exact e)
 have e:=h 8 (F7.drop 8) fb1 (by rw [<- s]; exact e)
 have e:=h 8 (F7.drop 0) fb0 (by rw [<- s]; exact e)
 exact e
noncomputable def rfB (v:Value) (n:Nat):Bool:=match v with | .ref p=>aA p n | _=>false
noncomputable def cdB:Option Obj->Bool
 | some ⟨.type c,_,.fields vs,_⟩=>(c == "code") && rfB (vs.getD 11 .none) 191 && (match vs.getD 18 .none with | .str _ _=>true | _=>false) && (match vs.getD 7 .none with | .int _ _=>true | _=>false) &&
  (match vs.getD 9 .none with | .bool _=>true | _=>false) && (match vs.getD 10 .none with | .int _ _=>true | _=>false)
 | _=>false
theorem F0g (P:Params):cdB ((hT P).get? 193)=true:=by kernel_rfl
theorem B2c (P:Params):(hT P).get? 191=some { cls:=.none,data:=.fields #[] }:=by kernel_rfl
noncomputable def ptB (P:Params) (a:Nat) (t:W8):Bool:=match B2h ((hT P).get? a) with
 | some fd=>rfB fd.code 193 || !(t.sc.names.lookup (aa "put_in") == some .cell)
 | none=>false
theorem G0p (P:Params):((fAl.zip fTx).all λp=>ptB P p.1 p.2)=true:=by kernel_rfl
noncomputable def atB (v:V) (x:Value):Bool:=match v with
 | .none=>oVn x
 | .int i=>iL i (λn=>oVi x λm=>decide (n=m)) λ_=>false
 | .str n=>oVs x (R0 n)
 | _=>false
noncomputable def D2q (l:List V):List Value->Bool:=@List.rec V (λ_=>List Value->Bool) (λxs=>xs.isEmpty) (λv _ ih xs=>oC xs λx xs=>atB v x && ih xs) l
noncomputable def D6k (o:Option Obj) (k:Value->List Value->Bool):Bool:=@Option.rec Obj (λ_=>Bool) false (λo=>oSq o.data λxs=>k o.cls xs.toList) o
noncomputable def dfB (P:Params) (v:V) (x:Value):Bool:=match v with
 | .tup l=>oVr x λa=>D6k ((hT P).get? a) (λc xs=>decide (c=.type "tuple") && D2q l xs) && be l.length 10000 && !Nat.beq a 502 && !Nat.beq a 191
 | .opq=>true
 | .ref i=>aA i 0 && oVr x λa=>aA a 502
 | v=>atB v x
noncomputable def E8e (P:Params) (l:List V):List Value->Bool:=@List.rec V (λ_=>List Value->Bool) (λxs=>xs.isEmpty) (λv _ ih xs=>oC xs λx xs=>dfB P v x && ih xs) l
noncomputable def dfO (P:Params) (v:Value) (l:List V):Bool:=oVn v && l.isEmpty || oVr v λa=>D6k ((hT P).get? a) (λ_ xs=>E8e P l xs) && !Nat.beq a 191
theorem F8a (P:Params):((dfl.zip A0q).all λp=>dfO P p.1 p.2.dflt)=true:=by kernel_rfl
theorem F8q (P:Params):(hT P).nsMap aX (aa "BITS")=some (.ref 502):=by kernel_rfl
noncomputable def bNm:List Str:=[aa "len",aa "range",aa "list",aa "tuple",aa "dict",aa "zip",aa "int",aa "str",aa "sorted",aa "sum",aa "isinstance",aa "bool"]
theorem F8b:((A8f.zip bNm).all λp=>R0 p.1.1 p.2)=true:=by decide +kernel
theorem F8g:bNm.map bootBuiltins=(A8f.map (·.2)).map some:=by kernel_rfl
theorem F4s:(bNm.all λx=>!(x == ("__name__":Str)))=true:=by decide +kernel
theorem G1f (P:Params):bNm.map ((hT P).nsMap aX)=bNm.map λ_=>none:=by kernel_rfl
noncomputable def gNm:List Str:=[aa "no_region",aa "COPY",aa "MOST_PARTS_mono",aa "MOST_INSTANCES",aa "BITS",aa "MOST_DEEP_layout",aa "MOST_PARTS_layout",aa "UNINIT",aa "OWNER",aa "MOST_CELLS",aa "COMPARISONS"]
theorem G2n:((glT.zip gNm).all λp=>R0 p.1.1 p.2)=true:=by decide +kernel
theorem F9n (P:Params):((glT.zip gNm).all λp=>match (hT P).nsMap aX p.2 with | some x=>dfB P p.1.2 x | none=>false)=true:=by kernel_rfl
theorem G1t:(List.range 128).map O3.get=C8l.map some:=by kernel_rfl
end
end Mine
set_option maxRecDepth 100000
set_option maxHeartbeats 4000000
namespace Mine
open PySem PySem.W PyProof.Rows
noncomputable section
theorem j1 {α β γ:Type} {F:α->γ} {G:β->γ} {l:List α} {m:List β} (e:l.map F=m.map G) (i:Nat):(l[i]?).map F=(m[i]?).map G:=by rw [<- bZ,<- bZ,e]
theorem P9 {α β:Type} {p:α×β->Bool}:∀ {l:List α} {m:List β},(l.zip m).all p=true->∀ {i:Nat} {a:α} {b:β},l[i]?=some a->m[i]?=some b->p (a,b)=true
 | [],_,_,i,a,b,h,_=>by simp at h
 | _::_,[],_,i,a,b,_,h=>by simp at h
 | x::l,y::m,e,0,a,b,h,h'=>by
  simp only [List.getElem?_cons_zero,bg] at h h'
  subst h h'
  rw [bn,bL,az] at e
  exact e.1
 | x::l,y::m,e,i + 1,a,b,h,h'=>by
  rw [bn,bL,az] at e
  exact P9 e.2 (i:=i) (by simpa using h) (by simpa using h')
theorem B0m {α:Type} {i:Nat} {v:α}:∀ {l:List (Nat×α)},A8 i l=some v->∃ j:Nat,l[j]?=some (i,v)
 | [],h=>by rw [U2] at h; cases h
 | p::l,h=>by
  rw [G4] at h
  split at h
  ·rename_i e
   cases h
   exact ⟨0,by rw [List.getElem?_cons_zero,<- e]⟩
  ·obtain ⟨j,hj⟩:=B0m h
   exact ⟨j + 1,by simpa using hj⟩
theorem V1 {α:Type} {l:List (Nat×α)} {m:List Str} (hs:((l.zip m).all λp=>R0 p.1.1 p.2)=true) (hl:l.length=m.length) {i:Nat} {v:α} {x:Str} (h:A8 i l=some v) (hx:SV i x):∃ j:Nat,l[j]?=some (i,v)/\m[j]?=some x:=by
 obtain ⟨j,hj⟩:=B0m h
 obtain ⟨hlt,_⟩:=List.getElem?_eq_some_iff.mp hj
 have hm:m[j]?=some (m[j]'(hl ▸ hlt)):=bw _
 have:R0 i (m[j]'(hl ▸ hlt))=true:=P9 hs hj hm
 exact ⟨j,hj,by rw [hm,(C6 this).inj hx]⟩
noncomputable def omL {α:Type} (o:Option α) (b:Bool):Bool:=match o with | some _=>b | none=>true
noncomputable def Tr.allN {α:Type} (n:Nat) (t:Tr α):(Nat->Nat)->Bool:=
 @Tr.rec α (λ_=>(Nat->Nat)->Bool) (λ_=>true) (λv _ _ gl gr f=>omL v (Nat.blt (f 0) n) && gl (λj=>f (2 * j + 1)) && gr (λj=>f (2 * j + 2))) t
theorem Tr.allN_ok {α:Type} {n:Nat} {t:Tr α}:∀ {f:Nat->Nat},t.allN n f=true->∀ {i:Nat} {v:α},t.get i=some v->f i < n:=by
 induction t with
 | nil=>intro f _ i v h; rw [Tr.get_nil] at h; cases h
 | node o l r hl hr=>
   intro f e i v h
   refine b3 e λe1 e2 e3=>?_
   rw [Tr.get_node] at h
   split at h
   ·rename_i hi
    subst hi; subst h
    exact aj e1
   ·rename_i h0; split at h
    ·rename_i h2; exact A9o h2 ▸ hl e2 h
    ·rename_i h2; exact B1t h0 h2 ▸ hr e3 h
theorem E1a:H1.allN 16 (λj=>j)=true:=by decide +kernel
theorem D6q:O3.allN 128 (λj=>j)=true:=by decide +kernel
theorem B6w {α:Type} {g:Nat->Option α} {l:List (Option α)} {N:Nat} (e:(List.range N).map g=l) {k:Nat} (h:k < N):l[k]?=some (g k):=by
 rw [<- e,bZ,List.getElem?_range h]; rfl
theorem A4l {k:Nat} {c:Cls} (h:H1.get k=some c):k < 16/\cLs[k]?=some c:=by
 have hk:=Tr.allN_ok E1a h
 refine ⟨hk,?_⟩
 have:=j1 G1o k
 rw [List.getElem?_range (by omega)] at this
 simp only [aR,bg] at this
 rw [<- this,h]
theorem E4i {k:Nat} {c:Fc} (h:O3.get k=some c):k < 128/\∃ f,A0q[k]?=some f/\c=f.den:=by
 have hk:=Tr.allN_ok D6q h
 refine ⟨hk,?_⟩
 have e:=B6w G1t hk
 rw [bZ,C1n,bZ] at e
 induction hf:A0q[k]? using ae with
 | none=>rw [hf] at e; cases e
 | some f=>
  rw [hf] at e
  simp only [aR,bg] at e
  rw [h] at e
  cases e
  exact ⟨f,rfl,rfl⟩
structure Hd (w:World) (s:ak) (mg mb:Str->Option Value):Prop where
 keep:∀ b o,(hT w.params).get? b=some o->s.heap.get? b=some o
 g:mg=(hT w.params).nsMap aX
 gN:s.heap.Ns aX mg
 bN:s.heap.Ns builtinsNs mb
 bV:∀ x:Str,x≠"__name__"->mb x=bootBuiltins x
 lim:s.heap.NoLimit
 bm:∃ bm ob,mg "__builtins__"=some (.ref bm)/\bm≠builtinsNs/\s.heap.get? bm=some ob/\ob.cls=.type "module"/\ob.dict=some builtinsNs/\ob.data=.plain
noncomputable def kx (w:World) (s:ak) (mg mb:Str->Option Value) (scr:Addr) (rho:Nat->Int) (chs:Nat->Int×Int) (wide:Bool):Kx where
 rho:=rho
 chs:=chs
 wide:=wide
 base:=s.heap.update 191 λo=>{ o with data:=.freed }
 clsA:=λk=>cAl.getD k 0
 fA:=λk=>fAl.getD k 0
 glb:=mg
 blt:=mb
 prog:=pw
 wld:=w
 frag:=kf w.params
 scr:=scr
 tab:=191
 tc:=193
section
variable {w:World} {s:ak} {mg mb:Str->Option Value} {scr:Addr} {rho:Nat->Int} {chs:Nat->Int×Int} {wide:Bool}
theorem C7y:(kx w s mg mb scr rho chs wide).base.get? 191=none:=TI.get?_update_freed _ _
theorem A3g {b:Addr} (h:b≠191):(kx w s mg mb scr rho chs wide).base.get? b=s.heap.get? b:=ce _ _ (Ne.symm h)
theorem C0z {b:Addr} {o:Obj} (e:(kx w s mg mb scr rho chs wide).base.get? b=some o):b≠191/\s.heap.get? b=some o:=by
 by_cases h:b=191
 ·subst h; rw [C7y] at e; cases e
 ·exact ⟨h,(A3g h).symm.trans e⟩
theorem A3y (H:Hd w s mg mb) {b:Addr} {o:Obj} (h:b≠191) (e:(hT w.params).get? b=some o):(kx w s mg mb scr rho chs wide).base.get? b=some o:=(A3g h).trans (H.keep b o e)
theorem B9b {a:Addr} {m:Str->Option Value} (h:a≠191) (x:s.heap.Ns a m):(kx w s mg mb scr rho chs wide).base.Ns a m:=
 let ⟨o,es,ep,ho,r⟩:=x; ⟨o,es,ep,(A3g h).trans ho,r⟩
theorem B4v {P:Params} {a:Addr} {o:Obj}:∀ {l:List Nat},(l.all λa=>((hT P).get? a).isSome)=true->(l.map λa=>(a,((hT P).get? a).getD default)).lookup a=some o->a ∈ l/\(hT P).get? a=some o
 | [],_,h=>nomatch h
 | b::l,e,h=>by
  rw [bL,az] at e
  rw [bE,aC] at h
  induction q:a == b using ao with
  | true=>
   have q:=beq_iff_eq.mp q
   subst q
   rw [beq_self_eq_true] at h
   obtain ⟨o',ho⟩:=bj.mp e.1
   rw [ho] at h
   exact ⟨.head _,by rw [ho]; exact h⟩
  | false=>
   rw [q] at h
   obtain ⟨h1,h2⟩:=B4v e.2 h
   exact ⟨.tail _ h1,h2⟩
theorem D5i:kAl.contains 191=false:=by decide +kernel
theorem C0e:fAl.contains 191=false:=by decide +kernel
theorem X8 {l:List Nat} {a:Nat} (h:l.contains a=false):∀ b ∈ l,b≠a:=λb hb e=>by
 subst e
 rw [List.contains_iff_mem.mpr hb] at h
 cases h
theorem B4e {x:Option Obj} {fd:FuncData} (h:B2h x=some fd):∃ o,x=some o/\o.data=.func fd:=by
 unfold B2h at h
 split at h
 ·cases h; exact ⟨_,rfl,rfl⟩
 ·cases h
theorem B6x {P:Params} {k:Nat} (h:k < 128):∃ a t,fAl[k]?=some a/\fTx[k]?=some t/\fAl.getD k 0=a/\∃ o fd,(hT P).get? a=some o/\o.data=.func fd/\fd.scope=t.sc/\fd.body=.stmts t.body/\fd.params=t.ps/\fd.closure=[]/\fd.globals=aX/\fd.builtins=builtinsNs/\
  (hT P).codeRecOk fd.code fd.qualname=true/\dfl[k]?=some fd.defaults:=by
 have e:=j1 (G0a P) k
 have l1:fAl.length=128:=by decide +kernel
 have h1:fAl[k]?=some (fAl[k]'(l1.symm ▸ h)):=bw _
 generalize fAl[k]'(l1.symm ▸ h)=a at h1
 rw [h1] at e
 induction ht:(fTx.zip dfl)[k]? using ae with
 | none=>rw [ht] at e; cases e
 | some t=>
  rw [ht] at e
  have e:=ac e
  dsimp only at e
  obtain ⟨t1,t2⟩:=List.getElem?_zip_eq_some.mp ht
  induction hf:B2h ((hT P).get? a) using ae with
  | none=>rw [hf] at e; cases e
  | some fd=>
   rw [hf] at e
   have e:=ac e
   simp only [Prod.mk.injEq] at e
   obtain ⟨o,ho,hd⟩:=B4e hf
   exact ⟨a,t.1,h1,t1,by rw [List.getD_eq_getElem?_getD,h1]; rfl,o,fd,ho,hd,e.2.2.1,e.2.2.2.1,e.2.2.2.2.1,e.2.2.2.2.2.1,e.2.2.2.2.2.2.1,e.2.2.2.2.2.2.2,e.1,e.2.1 ▸ t2⟩
end
theorem B7d {v:Value} {n:Nat} (h:rfB v n=true):v=.ref n:=by
 unfold rfB at h
 split at h
 ·rw [aw h]
 ·cases h
theorem B9j {x:Option Obj} (h:cdB x=true):∃ o vs file tf flags tg inF text tt,x=some o/\o.cls=.type "code"/\o.data=.fields vs/\vs[11]?=some (.ref 191)/\vs.getD 11 .none=.ref 191/\vs.getD 18 .none=.str file tf/\
  vs.getD 7 .none=.int flags tg/\vs.getD 9 .none=.bool inF/\vs.getD 10 .none=.int text tt:=by
 unfold cdB at h
 split at h
 ·rename_i c _ vs _
  simp only [az] at h
  obtain ⟨⟨⟨⟨⟨h1,h2⟩,h3⟩,h4⟩,h5⟩,h6⟩:=h
  have h1:=beq_iff_eq.mp h1
  subst h1
  have h2:=B7d h2
  have h2':vs[11]?=some (.ref 191):=by
   rw [Array.getD_eq_getD_getElem?] at h2
   induction q:vs[11]? using ae with
   | none=>rw [q] at h2; cases h2
   | some v=>rw [q] at h2; exact congrArg some h2
  split at h3
  ·rename_i e3
   split at h4
   ·rename_i e4
    split at h5
    ·rename_i e5
     split at h6
     ·rename_i e6
      exact ⟨_,_,_,_,_,_,_,_,_,rfl,rfl,rfl,h2',h2,e3,e4,e5,e6⟩
     ·cases h6
    ·cases h5
   ·cases h4
  ·cases h3
 ·cases h
theorem E1c {h:Heap} {a:Addr} {m m':Str->Option Value} (x:h.Ns a m) (y:h.Ns a m'):m=m':=x.eq_nsMap.trans y.eq_nsMap.symm
section
variable {w:World} {s:ak} {mg mb:Str->Option Value} {scr:Addr} {rho:Nat->Int} {chs:Nat->Int×Int} {wide:Bool}
theorem C7u:E8.length=aNm.length:=by decide +kernel
theorem y7 {k:Nat} (h:k < 16):cAl[k]?=some (cAl.getD k 0):=by
 have l1:cAl.length=16:=by decide +kernel
 rw [List.getD_eq_getElem?_getD,bw (by omega)]; rfl
theorem B9z {K:PySem.W.Frag} {C:Addr} {x:Str} {f:Nat} (h:mCk K C x f=true):f < 128/\findIn K (.ref C) x=some (some (.ref (fAl.getD f 0)))/\typeIn K (.ref (fAl.getD f 0))=some (.type "function"):=by
 unfold mCk at h
 split at h
 ·rename_i a ha
  simp only [az] at h
  obtain ⟨⟨h1,h2⟩,h3⟩:=h
  have:fAl.getD f 0=a:=by rw [List.getD_eq_getElem?_getD,ha]; rfl
  rw [this]
  exact ⟨aj h3,beq_iff_eq.mp h1,beq_iff_eq.mp h2⟩
 ·cases h
theorem A2l (H:Hd w s mg mb) {x:Str}:mg x=(hT w.params).nsMap aX x:=congrFun H.g x
theorem kok (H:Hd w s mg mb):U8 (kx w s mg mb scr rho chs wide) where
 tcd:=by
  obtain ⟨o,vs,file,tf,flags,tg,inF,text,tt,h1,r⟩:=B9j (F0g w.params)
  exact ⟨o,vs,file,tf,flags,tg,inF,text,tt,A3y (b:=193) H (by decide) h1,r.1,r.2.1,r.2.2.1,r.2.2.2.1,r.2.2.2.2.1,r.2.2.2.2.2.1,r.2.2.2.2.2.2.1,r.2.2.2.2.2.2.2,λq=>absurd (show (193:Nat)=191 from q) (by decide)⟩
 bmain:=by
  refine B4s H.bm λbm ob h1 h2 h3 h4 h5 h6=>?_
  have n1:bm≠aX:=λe=>by
   refine B7k H.gN λo es ep ho hd _=>?_
   rw [<- e,h3] at ho; cases ho
   rw [h6] at hd; cases hd
  have n2:bm≠191:=λe=>by
   have:=H.keep _ _ (B2c w.params)
   rw [<- e,h3] at this; cases this
   cases h6
  exact ⟨bm,ob,h1,h2,n1,n2,(A3g n2).trans h3,h4,h5,h6⟩
 glbN:=B9b (by decide) H.gN
 bltN:=B9b (by decide) H.bN
 bltV:=H.bV
 fns:=λi k x h hx=>by
  refine C5 (V1 G0g (by decide +kernel) h hx) λj h1 h2=>?_
  have e:=j1 (F4l w.params) j
  have hk:fKs[j]?=some k:=by unfold fKs; rw [bZ,h1]; rfl
  rw [h2,hk] at e
  have hk2:k < 128:=by
   have:fKs.all (λk=>Nat.blt k 128)=true:=by decide +kernel
   exact aj (aL.mp this k (bc hk))
  refine A8y (B6x (P:=w.params) hk2) λa t h3 _ h4 _=>?_
  simp only [aR,bg,h3] at e
  show mg x=some (.ref (fAl.getD k 0))
  rw [h4,A2l H,e]
 cls:=λi k x h hx=>by
  refine C5 (V1 G2m (by decide +kernel) h hx) λj h1 h2=>?_
  have e:=j1 (F8o w.params) j
  have hk:cKs[j]?=some k:=by unfold cKs; rw [bZ,h1]; rfl
  rw [h2,hk] at e
  have hk2:k < 16:=by
   have:cKs.all (λk=>Nat.blt k 16)=true:=by decide +kernel
   exact aj (aL.mp this k (bc hk))
  simp only [aR,bg,y7 hk2] at e
  show mg x=some (.ref (cAl.getD k 0))
  rw [A2l H,e]
 kin:=λa o e=>by
  obtain ⟨h1,h2⟩:=B4v (F8w w.params) e
  exact A3y H (X8 D5i a h1) h2
 fobj:=λk hk=>by
  refine A7y (B6x (P:=w.params) hk) λa t h1 _ h2 o fd h3 h4 _=>?_
  refine ⟨o,fd,?_,h4⟩
  show (kx w s mg mb scr rho chs wide).base.get? (fAl.getD k 0)=_
  rw [h2]
  exact A3y H (X8 C0e a (bc h1)) h3
 cok:=λk cl h=>by
  obtain ⟨h1,_⟩:=A4l h
  exact aL.mp (F7j w.params) _ (bc (y7 h1))
 att:=λk cl n x h hn hx=>by
  obtain ⟨h1,_⟩:=A4l h
  have e:=aL.mp (F9l w.params) _ (bc (y7 h1))
  obtain ⟨j,hj⟩:=List.getElem?_of_mem hn
  obtain ⟨hlt,_⟩:=List.getElem?_eq_some_iff.mp hj
  have hm:aNm[j]?=some (aNm[j]'(C7u ▸ hlt)):=bw _
  have e2:R0 n (aNm[j]'(C7u ▸ hlt))=true:=P9 F9c hj hm
  have e3:=aL.mp e _ (bc hm)
  rw [(C6 e2).inj hx,az] at e3
  exact ⟨e3.1,beq_iff_eq.mp e3.2⟩
 mth:=λk cl n x f h hf hx=>by
  obtain ⟨h1,h2⟩:=A4l h
  have e:=G2e w.params
  have h4:(cLs.zip mNm).length=16:=by decide +kernel
  have h5:(cLs.zip mNm)[k]?=some (cl,mNm.getD k []):=by
   have:mNm.length=16:=by decide +kernel
   rw [List.getElem?_zip_eq_some]
   exact ⟨h2,by rw [List.getD_eq_getElem?_getD,bw (by omega)]; rfl⟩
  have e1:(aA cl.ms.length (mNm.getD k []).length && (cl.ms.zip (mNm.getD k [])).all λq=>R0 q.1.1 q.2 && mCk (kf w.params) (cAl.getD k 0) q.2 q.1.2)=true:=P9 e (y7 h1) h5
  rw [az] at e1
  obtain ⟨e1,e2⟩:=e1
  have e3:((cl.ms.zip (mNm.getD k [])).all λq=>R0 q.1.1 q.2)=true:=aL.mpr λq hq=>(bX.mp (aL.mp e2 q hq)).1
  refine C5 (V1 e3 (aw e1) hf hx) λj hj hm=>?_
  have e4:(R0 n x && mCk (kf w.params) (cAl.getD k 0) x f)=true:=P9 e2 hj hm
  rw [az] at e4
  exact B9z e4.2
 ini:=λk cl f h hf=>by
  obtain ⟨h1,h2⟩:=A4l h
  have e:=P9 (G1s w.params) (y7 h1) h2
  dsimp only at e
  rw [hf] at e
  exact (B9z e).2
theorem A8b (H:Hd w s mg mb):I4 (kx w s mg mb scr rho chs wide):=λi v x h hx=>by
 refine C5 (V1 F8b (by decide +kernel) h hx) λj h1 h2=>?_
 have e:=j1 (G1f w.params) j
 have e2:=j1 F8g j
 have e3:=aL.mp F4s _ (bc h2)
 rw [h2] at e e2
 rw [bZ,h1] at e2
 simp only [aR,bg] at e e2
 refine ⟨?_,?_⟩
 ·show mg x=none
  rw [A2l H,e]
 ·show mb x=some v
  rw [H.bV x (by simpa using e3),e2]
end
section
variable {w:World} {s:ak} {mg mb:Str->Option Value} {scr:Addr} {rho:Nat->Int} {chs:Nat->Int×Int} {wide:Bool}
theorem A4d {κ:Kx} {φ:Nat->Addr} {n:Nat} {h:Heap} {v:V} {x:Value} (e:atB v x=true):A4 κ φ n h v x:=by
 induction v using V.casesOn with
 | none=>exact B5v e ▸ .none
 | int i=>induction i using I.casesOn with
  | lit k=>exact D2p e λm t e=>.int (of_decide_eq_true e)
  | _=>exact ff e
 | str m=>exact C9g e λx t e=>.str (C6 e)
 | _=>exact ff e
theorem C5v {κ:Kx} {φ:Nat->Addr} {n:Nat} {h:Heap} {l:List V}:∀ {xs:List Value},D2q l xs=true->VRels κ φ n h l xs:=by
 induction l with
 | nil=>exact λe=>K5 e .nil
 | cons v l ih=>exact λe=>R3 e λx xs e=>b2 e λa b=>.cons (A4d a) (ih b)
theorem B0s {o:Option Obj} {k:Value->List Value->Bool} {G:Prop} (h:D6k o k=true) (m:∀ ob xs e,o=some ob->ob.data=.seq xs e->k ob.cls xs.toList=true->G):G:=by
 induction o using ae with
 | none=>exact ff h
 | some ob=>exact D1s (P:=λd=>ob.data=d->G) h (λxs e h q=>m ob xs e rfl q h) rfl
structure B4y (κ:Kx) (P:Params) (W:W):Prop where
 obj:∀ b o,b≠191->(hT P).get? b=some o->κ.base.get? b=some o
 sub:κ.base.StaysIn W.h
 own:∀ i,1<=i->i < W.n->κ.base.get? (W.φ i)=none
 z:W.φ 0=502
 one:1<=W.n
theorem E2f {κ:Kx} {P:Params} {W:W} (F:B4y κ P W) {l:List V} {a:Addr} {ob:Obj} {xs:Array Value} {ep:Nat} (ho:(hT P).get? a=some ob) (hd:ob.data=.seq xs ep) (hc:decide (ob.cls=.type "tuple")=true) (e1:D2q l xs.toList=true) (e2:l.length.ble 10000=true) (e3:(!Nat.beq a 502)=true) (e4:(!Nat.beq a 191)=true):W.vr κ (.tup l) (.ref a):=by
 have hb:=F.obj a _ (λq=>by subst q; cases e4) ho
 refine .tup (F.sub _ _ hb) (of_decide_eq_true hc) hd (λi hi q=>?_) (aj e2) (C5v e1)
 induction i using aU with
 | zero=>
  have:=q.symm.trans F.z
  subst this; cases e3
 | succ i=>
  have:=F.own (i + 1) (Nat.succ_pos _) hi
  rw [q,hb] at this; cases this
theorem B9w {κ:Kx} {P:Params} {W:W} (F:B4y κ P W) {v:V} {x:Value} (e:dfB P v x=true):W.vr κ v x:=by
 induction v using V.casesOn with
 | tup l=>exact A8t e λa e=>b4 e λe1 e2 e3 e4=>B0s e1 λob xs ep ho hd e1=>b2 e1 λhc e1=>E2f F ho hd hc e1 e2 e3 e4
 | opq=>exact .opq _
 | ref i=>exact b2 e λe0 e=>A8t (P:=λx=>W.vr κ (.ref i) x) e λa e=>aw e0 ▸ .ref F.one (F.z.trans (aw e).symm)
 | none=>exact A4d e
 | int i=>exact A4d e
 | str m=>exact A4d e
 | _=>exact ff e
theorem C5u {κ:Kx} {P:Params} {W:W} (F:B4y κ P W) {l:List V}:∀ {xs:List Value},E8e P l xs=true->W.vrs κ l xs:=by
 induction l with
 | nil=>exact λe=>K5 (P:=λxs=>W.vrs κ [] xs) e .nil
 | cons v l ih=>exact λe=>R3 (P:=λxs=>W.vrs κ (v::l) xs) e λx xs e=>b2 e λa b=>.cons (B9w F a) (ih b)
theorem F4w:A8 1112101971 glT=some (.ref 0):=by kernel_rfl
theorem G2q:R0 1112101971 (aa "BITS")=true:=by decide +kernel
theorem F9b:R0 N9 (aa "put_in")=true:=by decide +kernel
theorem C2r (H:Hd w s mg mb) {W:W} (I:A7 (kx w s mg mb scr rho chs wide) W) (G:GlR (kx w s mg mb scr rho chs wide) W):B4y (kx w s mg mb scr rho chs wide) w.params W:=by
 refine C5 (G _ _ _ F4w (C6 G2q)) λval h1 h2=>?_
 have h1:mg (aa "BITS")=some val:=h1
 rw [A2l H,F8q] at h1
 cases h1
 cases h2 with
 | ref h3 h4=>exact ⟨λb o hb e=>A3y H hb e,I.base,I.own,h4,h3⟩
theorem A4q (H:Hd w s mg mb) {cd:Value} {q:Str} (h:(hT w.params).codeRecOk cd q=true):(kx w s mg mb scr rho chs wide).base.CodeRec cd q:=by
 refine B8r (Heap.CodeRec.of_ok h) λc o vs t h1 h2 h3 h4=>?_
 refine ⟨c,o,vs,t,h1,A3y H (λe=>?_) h2,h3,h4⟩
 subst e
 rw [B2c] at h2
 cases h2
 cases h3
 cases h4
theorem C9i (H:Hd w s mg mb) {k:Nat} {fc:Fc} (h:O3.get k=some fc):∃ t f,fTx[k]?=some t/\A0q[k]?=some f/\fc=f.den/\B9p (kx w s mg mb scr rho chs wide) k fc t f:=by
 refine A1y (E4i h) λhk f hf q81'=>?_; subst q81'
 refine A4p (B6x (P:=w.params) hk) λa t h1 h2 h3 o fd h4 h5 h6 h7 q82'=>?_; refine D0k q82' λh8 h9 h10 h11 h12 h13=>?_; clear q82'
 have hm:(fnB t f && be f.dflt.length f.ps.length)=true:=by
  have:=aL.mp E4c (t,f) (bc (i:=k) (by
   unfold F7
   rw [List.getElem?_zip_eq_some]
   exact ⟨h2,hf⟩))
  exact this
 rw [az] at hm
 have hd:dfO w.params fd.defaults f.dflt=true:=P9 (F8a w.params) h13 hf
 have hp:ptB w.params a t=true:=P9 (G0p w.params) h1 h2
 have ha:a≠191:=X8 C0e a (bc h1)
 have hds:∃ ds,∀ W:W,A7 (kx w s mg mb scr rho chs wide) W->GlR (kx w s mg mb scr rho chs wide) W->A0f W.s fd.defaults ds/\W.vrs (kx w s mg mb scr rho chs wide) f.dflt ds:=by
  refine (Z4 hd).elim (λhd=>b2 hd λq e=>⟨[],λW I G=>⟨.inl ⟨B5v q,rfl⟩,List.isEmpty_iff.mp e ▸ .nil⟩⟩) λhd=>A8t (P:=λv=>fd.defaults=v->∃ ds,∀ W:W,A7 (kx w s mg mb scr rho chs wide) W->GlR (kx w s mg mb scr rho chs wide) W->A0f W.s fd.defaults ds/\W.vrs (kx w s mg mb scr rho chs wide) f.dflt ds) hd (λb hd q=>b2 hd λhd hb=>B0s hd λob xs ep ho hdt hd=>⟨xs.toList,λW I G=>⟨.inr ⟨b,ob,xs,ep,q,I.base _ _ (A3y H (λq=>?_) ho),hdt,rfl⟩,C5u (C2r H I G) hd⟩⟩) rfl
  subst q; cases hb
 obtain ⟨ds,hds⟩:=hds
 refine ⟨t,f,h2,hf,rfl,⟨o,fd,ds,?_,h5,h6,h7,h8,h9,h10,h11,A4q H h12,rfl,rfl,rfl,λx hx hc=>?_,hm.1,aj hm.2,hds⟩⟩
 ·show (kx w s mg mb scr rho chs wide).base.get? (fAl.getD k 0)=_
  rw [h3]
  exact A3y H ha h4
 ·have hx:=hx.inj (C6 F9b)
  subst hx
  unfold ptB at hp
  rw [h4] at hp
  obtain ⟨oc,od,oda,osl⟩:=o
  have h5:oda=.func fd:=h5
  subst h5
  dsimp only [B2h] at hp
  rcases Bool.or_eq_true_iff.mp hp with q | q
  ·exact B7d q
  ·rw [hc] at q; cases q
theorem F9u (H:Hd w s mg mb) (k:Nat) (fc:Fc) (h:O3.get k=some fc):D4o (kx w s mg mb scr rho chs wide) k fc:=let ⟨t,f,_,_,_,F⟩:=C9i H h; ⟨t,f,F⟩
end
noncomputable abbrev li (n:Int):V:=.int (.lit n)
section
variable {c:Cx} {rn:F5} {e:Mine.Env} {s s1 s2 s3:St}
theorem C1d (a b:Int):ltI c (.lit a) (.lit b)=some (decide (a < b)):=by
 show D5 (ltZ a b) (some true) (D5 (leI b a) (some false) none)=_
 rw [E1,E1]
 by_cases h:a < b
 ·rw [if_pos ((N2 _ _).mpr h),decide_eq_true h]
 ·rw [if_neg (λq=>h ((N2 _ _).mp q)),if_pos ((E0 _ _).mpr (by omega)),decide_eq_false h]
theorem A3k (a b:Int):ltV c (li a) (li b) s=.ok (decide (a < b)) s:=by
 show lift (ltI c (.lit a) (.lit b)) s=_
 rw [C1d]; rfl
theorem E6p (a b:Int):c0 c 0 (li a) (li b) s=.ok (li (a + b)) s:=rfl
theorem F9f (a b:Int):c0 c 1 (li a) (li b) s=.ok (li (a - b)) s:=rfl
theorem j5 {n:Int} (h1:-9223372036854775808<=n) (h2:n<=9223372036854775807):small c (.lit n)=true:=by
 show (D5 (leI (-9223372036854775808) n && leI n 9223372036854775807) (some true) none).isSome=true
 rw [(E0 _ _).mpr h1,(E0 _ _).mpr h2]; rfl
theorem D0i {a b:Int} (h:(small c (.lit a) || small c (.lit b))=true):c0 c 2 (li a) (li b) s=.ok (li (a * b)) s:=by
 show D5 (small c (.lit a) || small c (.lit b)) (D7 (V.int (I.lit (Int.mul a b)))) A5 s=_
 rw [h]; rfl
theorem C4g {a b:Int} (h:b≠0):c0 c 3 (li a) (li b) s=.ok (li (Int.fmod a b)) s:=by
 show D3 (lift (D5 (eqZ b 0) none (some (I.lit (Int.fmod a b))))) (λr=>D7 (V.int r)) s=_
 rw [E1,if_neg (λq=>h ((L6 _ _).mp q))]; rfl
theorem E7s {a b:Int} (h1:1<=b) (h2:b<=1000000):c0 c 4 (li a) (li b) s=.ok (li (Int.fdiv a b)) s:=by
 show D5 (leI 1 b && leI b 1000000) (D7 (V.int (I.lit (Int.fdiv a b)))) A5 s=_
 rw [(E0 _ _).mpr h1,(E0 _ _).mpr h2]; rfl
theorem G0q:c0 c 5 (li 10) (li 15) s=.ok (li 1000000000000000) s:=rfl
theorem F8 {op:Nat} {x y:CX} {a b r:V} (h1:x rn c e s=.ok a s1) (h2:y rn c e s1=.ok b s2) (h3:c0 c op a b s2=.ok r s3):A1u op x y rn c e s=.ok r s3:=by
 show bd (x rn c e s) _=_
 rw [h1]; show bd (y rn c e s1) _=_
 rw [h2]; exact h3
theorem t7 {op:Nat} {x y:CX} {a b:V} {r:Bool} (h1:x rn c e s=.ok a s1) (h2:y rn c e s1=.ok b s2) (h3:f0 c op a b s2=.ok r s3):A6f op x y rn c e s=.ok (.bool r) s3:=by
 show bd (x rn c e s) _=_
 rw [h1]; show bd (y rn c e s1) _=_
 rw [h2]; show bd (f0 c op a b s2) _=_
 rw [h3]; rfl
theorem A4i {t x y:CX} {b:Bool} {r:Rs V} (h1:t rn c e s=.ok (.bool b) s1) (h2:(if b then x rn c e s1 else y rn c e s1)=r):A8c t x y rn c e s=r:=by
 show bd (t rn c e s) _=_
 rw [h1]
 induction b using ao<;>exact h2
theorem A9u {t:CX} {x y:CS} {b:Bool} {r:Rs Fl} (h1:t rn c e s=.ok (.bool b) s1) (h2:(if b then x rn c e s1 else y rn c e s1)=r):D5o t x y rn c e s=r:=by
 show bd (t rn c e s) _=_
 rw [h1]
 induction b using ao<;>exact h2
theorem F9 {i:Nat} {v:V} (h:A8 i e.ls=some v):W5 i rn c e s=.ok v s:=by
 show lift (A8 i e.ls) s=_
 rw [h]; rfl
theorem V7 {x y:CS} {e1:Mine.Env} {r:Rs Fl} (h1:x rn c e s=.ok (.nxt e1) s1) (h2:y rn c e1 s1=r):B6e x y rn c e s=r:=by
 show bd (x rn c e s) _=_
 rw [h1]; exact h2
theorem Z6 {x y:CS} {v:V} (h1:x rn c e s=.ok (.ret v) s1):B6e x y rn c e s=.ok (.ret v) s1:=by
 show bd (x rn c e s) _=_
 rw [h1]; rfl
theorem A3w {x:CX} {v:V} (h1:x rn c e s=.ok v s1):C2b (oSo x) rn c e s=.ok (.ret v) s1:=by
 show bd (bd (x rn c e s) _) _=_
 rw [h1]; rfl
theorem A0y {i:Nat} {x:CX} {v:V} (h1:x rn c e s=.ok v s1):R7 (A4z i) x rn c e s=.ok (.nxt ⟨G0 i v e.ls,e.cs⟩) s1:=by
 show bd (x rn c e s) _=_
 rw [h1]; rfl
theorem v7 {h:Nat} {o:O} (q:Tr.get s.t h=some o):G1 h s=.ok o s:=by
 unfold G1; rw [q]
theorem A3u {i h:Nat} {a b:Int} (h1:A8 i e.ls=some (.ref h)) (h2:Tr.get s.t h=some (.list [li a,li b])):B9e (W5 i) (H5 (li 0)) rn c e s=.ok (li a) s:=by
 show bd (lift (A8 i e.ls) s) _=_
 rw [h1]
 show D3 (G1 h) (B8y c (li 0)) s=_
 unfold D3
 rw [v7 h2]; rfl
theorem B1k {i h:Nat} {a b:Int} (h1:A8 i e.ls=some (.ref h)) (h2:Tr.get s.t h=some (.list [li a,li b])):B9e (W5 i) (H5 (li 1)) rn c e s=.ok (li b) s:=by
 show bd (lift (A8 i e.ls) s) _=_
 rw [h1]
 show D3 (G1 h) (B8y c (li 1)) s=_
 unfold D3
 rw [v7 h2]; rfl
noncomputable def stL (s:St) (h:Nat) (l:List V):St:=⟨Tr.set (.list l) s.t h,s.n,s.d,s.f⟩
theorem A7j {h:Nat} {v u:V} (h3:s.f<=h) (h4:h < s.n):j4 h [v,u] s=.ok () (stL s h [v,u]):=by
 obtain ⟨t,n,d,f⟩:=s
 show @Bool.rec (λ_=>Rs Unit) .no (@Bool.rec (λ_=>Rs Unit) .no (.ok () ⟨Tr.set (.list [v,u]) t h,n,d,f⟩) (Nat.blt h n)) (be f h)=_
 rw [show be f h=true from Nat.ble_eq_true_of_le h3,show Nat.blt h n=true from Nat.ble_eq_true_of_le h4]; rfl
theorem C4z {i h:Nat} {a b:Int} {v:V} {x:CX} (hx:x rn c e s=.ok v s) (h1:A8 i e.ls=some (.ref h)) (h2:Tr.get s.t h=some (.list [li a,li b])) (h3:s.f<=h) (h4:h < s.n):
  R7 (C1f (W5 i) (H5 (li 0))) x rn c e s=.ok (.nxt e) (stL s h [v,li b]):=by
 show bd (x rn c e s) _=_
 rw [hx]
 show bd (bd (lift (A8 i e.ls) s) _) _=_
 rw [h1]
 show bd (bd (D3 (G1 h) _ s) _) _=_
 unfold D3
 rw [v7 h2]
 show bd (bd (j4 h [v,li b] s) _) _=_
 rw [A7j h3 h4]; rfl
theorem C1r {i h:Nat} {a b:Int} {v:V} {x:CX} (hx:x rn c e s=.ok v s) (h1:A8 i e.ls=some (.ref h)) (h2:Tr.get s.t h=some (.list [li a,li b])) (h3:s.f<=h) (h4:h < s.n):
  R7 (C1f (W5 i) (H5 (li 1))) x rn c e s=.ok (.nxt e) (stL s h [li a,v]):=by
 show bd (x rn c e s) _=_
 rw [hx]
 show bd (bd (lift (A8 i e.ls) s) _) _=_
 rw [h1]
 show bd (bd (D3 (G1 h) _ s) _) _=_
 unfold D3
 rw [v7 h2]
 show bd (bd (j4 h [li a,v] s) _) _=_
 rw [A7j h3 h4]; rfl
theorem C2i {h:Nat} {a b:Int} {m:Nat} (hm:1<=m) (hm2:m<=1000) (hb:0<=b) (hb2:b < 2000000) (h2:Tr.get s.t h=some (.list [li a,li b])) (h3:s.f<=h) (h4:h < s.n) (h5:h < 1000000):
  D3 (S4 l6.ps [.ref h,li (aQ m)] l6.dflt ⟨[],[]⟩) (λe=>D3 (l6.body rn c e) λfl=>@Fl.rec (λ_=>M V) (λ_=>D7 .none) (λ_=>A5) (λv=>D7 v) fl) s=
   .ok (li (H0 (a,b) m)) (stL s h [li (D8 (a,b) m).1,li (D8 (a,b) m).2]):=by
 have hm':(aQ m)≠0:=by have:aQ m=(m:Int):=rfl; omega
 have hg:∀ {s:St} {l:List V},Tr.get (stL s h l).t h=some (.list l):=λ{s l}=>by
  show (Tr.set (.list l) s.t h).get h=_
  rw [Tr.set_get _ _ _ _ h5,if_pos rfl]
 have hs:∀ {l l':List V},stL (stL s h l) h l'=stL s h l'->True:=λ_=>trivial
 show bd (l6.body rn c ⟨[(426953241460,.ref h),(1835101817,li (aQ m))],[]⟩ s) _=_
 have hcmp:A6f 4 (B9e (W5 426953241460) (H5 (li 0))) (H5 (li 0)) rn c ⟨[(426953241460,.ref h),(1835101817,li (aQ m))],[]⟩ s=.ok (.bool (decide (0 < a))) s:=
  t7 (A3u rfl h2) rfl (A3k 0 a)
 by_cases ha:0 < a
 ·have hr:l6.body rn c ⟨[(426953241460,.ref h),(1835101817,li (aQ m))],[]⟩ s=.ok (.ret (li (Int.fmod a (aQ m)))) (stL s h [li (Int.fdiv a (aQ m)),li b]):=by
   refine Z6 (A9u hcmp ?_)
   rw [decide_eq_true ha,if_pos rfl]
   refine V7 (A0y (F8 (A3u rfl h2) (F9 rfl) (C4g hm'))) ?_
   refine V7 (C4z (F8 (A3u rfl h2) (F9 rfl) (E7s (by show (1:Int)<=(m:Int); omega) (by show (m:Int)<=_; omega))) rfl h2 h3 h4) ?_
   exact Z6 (A3w (F9 rfl))
  rw [hr]
  unfold H0 D8
  simp only [if_pos ha]
  rfl
 ·have hr:l6.body rn c ⟨[(426953241460,.ref h),(1835101817,li (aQ m))],[]⟩ s=.ok (.ret (li (Int.fmod (Int.fdiv (Int.fmod (b * 6089 + 733) 1000033) 16) (aQ m)))) (stL s h [li a,li (Int.fmod (b * 6089 + 733) 1000033)]):=by
   refine V7 (e1:=⟨[(426953241460,.ref h),(1835101817,li (aQ m))],[]⟩) (s1:=s) (A9u hcmp ?_) ?_
   ·rw [decide_eq_false ha,if_neg (by decide)]; rfl
   refine V7 (C1r (F8 (F8 (F8 (B1k rfl h2) rfl (D0i (by rw [j5 (c:=c) (n:=b) (by omega) (by omega)]; rfl))) rfl (E6p _ _)) rfl (C4g (by decide))) rfl h2 h3 h4) ?_
   refine Z6 (A3w (F8 (F8 (B1k rfl hg) rfl (E7s (by decide) (by decide))) (F9 rfl) (C4g hm')))
  rw [hr]
  unfold H0 D8
  simp only [if_neg ha]
  rfl
end
section
variable {w:World} {s:ak} {mg mb:Str->Option Value} {scr:Addr} {rho:Nat->Int} {chs:Nat->Int×Int} {wide:Bool}
theorem E2j:O3.get 113=some l6:=by kernel_rfl
theorem E5w:O3.get 112=some C0b:=by kernel_rfl
theorem E0l (κ:Kx):X2 κ 0 (λ_ _ _=>A5):=λk A c w vs xs v es' _ _ _ _ _ _ h=>(A0 (s:=w.es) h).elim
theorem A5q {κ:Kx} {φ:Nat->Addr} {n:Nat} {h:Heap} {a b:Int} {items:Array Value} (r:VRels κ φ n h [li a,li b] items.toList):∃ t u,items=#[.int a t,.int b u]:=by
 obtain ⟨l⟩:=items
 have r:VRels κ φ n h [li a,li b] l:=r
 cases r with
 | cons r1 r2=>
  cases r2 with
  | cons r3 r4=>
   cases r4
   cases r1 with
   | int e1=>
    cases r3 with
    | int e2=>
     have e1:a=_:=e1
     have e2:b=_:=e2
     subst e1 e2
     exact ⟨_,_,rfl⟩
theorem c8.dd {κ:Kx} {φ:Nat->Addr} {n d d':Nat} {h:Heap} {i:Nat} {o:O} (r:c8 κ φ n d h i o) (hi:i≠2):c8 κ φ n d' h i o:=by
 induction o using O.casesOn with
 | chest=>exact absurd r.1 hi
 | _=>exact r
theorem D6t (H:Hd w s mg mb) (hb:∀ d,0<=(chs d).2/\(chs d).2 < 2000000):B6y (kx w s mg mb scr rho chs wide):=by
 intro A c W vs xs v es' hA hA2 hc I G hv h
 refine A8y (C9i (scr:=scr) (rho:=rho) (chs:=chs) (wide:=wide) H E2j) λtt ff hT1 hT2 hT3 F=>?_
 generalize hκ:kx w s mg mb scr rho chs wide=κ at *
 have hb:∀ d,0<=(κ.chs d).2/\(κ.chs d).2 < 2000000:=by subst hκ; exact hb
 have KO:U8 κ:=by subst hκ; exact kok H
 have B:I4 κ:=by subst hκ; exact A8b H
 obtain ⟨φ,⟨t,n,d,f⟩,S⟩:=W
 unfold drawn at h
 split at h
 ·rename_i hh m
  have h':B8q c hh m t n d f=.ok v es':=h
  unfold B8q at h'
  split at h'
  ·rename_i ht
   split at h'
   ·rename_i q hq
    rw [E1] at h'
    split at h'
    ·rename_i hbb
     rw [az] at hbb
     have e1:=aw hbb.1
     subst e1
     have hfl:f<=hh:=aj hbb.2
     refine C6y (I.obj hh .chest ht) λhlt i1 t1 u1 hp=>?_
     have i1:hh=2:=i1
     subst i1
     have hlt:2 < n:=hlt
     refine O8 (hc.dr d q hq) λq83' hr1 hr2=>?_; obtain ⟨hm1,hm2⟩:=q83'
     have hg:∀ (o:O) (i:Nat),(Tr.set o t 2).get i=if i=2 then some o else t.get i:=λo i=>Tr.set_get o t 2 i (by decide)
     have I₂:A7 κ ⟨φ,stL ⟨t,n,d,f⟩ 2 [li (κ.chs d).1,li (κ.chs d).2],S⟩:=by
      refine ⟨λi o e=>?_,I.inj,I.lt,I.base,I.lim,I.fl,I.f1,I.nb,I.sb,I.z0,I.own,λi k l e=>?_⟩
      ·have e:(Tr.set (.list [li (κ.chs d).1,li (κ.chs d).2]) t 2).get i=some o:=e
       rw [hg] at e
       split at e
       ·rename_i hi
        cases e
        subst hi
        exact ⟨hlt,_,hp,(by decide:(2:Nat)<=10000),.cons (.int rfl) (.cons (.int rfl) .nil)⟩
       ·exact I.obj i o e
      ·have e:(Tr.set (.list [li (κ.chs d).1,li (κ.chs d).2]) t 2).get i=some (.inst k l):=e
       show (Tr.set (.list [li (κ.chs d).1,li (κ.chs d).2]) t 2).get (i + 1)=none
       rw [hg] at e ⊢
       split at e
       ·cases e
       ·have:=I.sec i k l e
        split
        ·rename_i hi
         rw [hi] at this
         have ht:t.get 2=some .chest:=ht
         have this:t.get 2=none:=this
         rw [ht] at this; cases this
        ·exact this
     obtain ⟨e3,hmm⟩:=F.body
     have hrun:=y8 (rn:=λ_ _ _=>A5) (f:=0) F (cs:=l6.body) (e3 ▸ Y1 (A2m (n:=50) KO B (E0l κ) 40) hmm) hA (by omega) hc I₂ G hv
      (C2i (c:=c) (s:=stL ⟨t,n,d,f⟩ 2 [li (κ.chs d).1,li (κ.chs d).2]) (h:=2) (a:=(κ.chs d).1) (b:=(κ.chs d).2) (m:=q) hm1 hm2 (hb d).1 (hb d).2 (by
       show (Tr.set _ t 2).get 2=_
       rw [hg,if_pos rfl]) hfl hlt (by decide))
     refine codeAny_mono hrun λr s' ⟨val,hr0,φ',le,inv,hr⟩=>⟨val,hr0,?_⟩
     cases h'
     have hg2:∀ (o o':O) (i:Nat),(Tr.set o' (Tr.set o t 2) 2).get i=if i=2 then some o' else t.get i:=λo o' i=>by
      rw [Tr.set_get _ _ _ _ (by decide)]
      split
      ·rfl
      ·rename_i hi; rw [hg,if_neg hi]
     refine ⟨φ',⟨le.keep,le.live,le.same,le.new,le.le,rfl,λi hi=>rfl,Nat.le_succ _,le.gens,le.os,le.drawn⟩,⟨λi o e=>?_,inv.inj,inv.lt,inv.base,inv.lim,inv.fl,inv.f1,inv.nb,inv.sb,inv.z0,inv.own,I.sec⟩,?_⟩
     ·have e:t.get i=some o:=e
      by_cases hi:i=2
      ·subst hi
       have ht:t.get 2=some .chest:=ht
       rw [ht] at e
       cases e
       refine M5 (inv.obj 2 _ ((hg2 _ _ 2).trans (if_pos rfl))) λ_ items hp' _ hv'=>?_
       refine kEE (A5q hv') λt2 u2 e4=>?_
       subst e4
       refine ⟨hlt,rfl,t2,u2,?_⟩
       show s'.heap.PlainList (φ' 2) #[.int (κ.chs (d + 1)).1 t2,.int (κ.chs (d + 1)).2 u2]
       rw [hr2]
       exact hp'
      ·obtain ⟨h8,h9⟩:=inv.obj i o ((hg2 _ _ i).trans (by rw [if_neg hi]; exact e))
       exact ⟨h8,h9.dd hi⟩
     ·have hr:A4 κ φ' n s'.heap (li (H0 (κ.chs d) q)) val:=hr
      cases hr with
      | int e5=>
       have e5:H0 (κ.chs d) q=_:=e5
       show A4 κ φ' n s'.heap _ _
       induction hl:A8 d c.asg using ae with
       | some j=>exact .int ((hc.asg d j hl).symm.trans (hr1.trans e5))
       | none=>exact .int (hr1.trans e5)
    ·cases h'
   ·cases h'
  ·cases h'
 ·exact (A0 (s:=⟨t,n,d,f⟩) h).elim
end
end
end Mine
set_option maxRecDepth 100000
set_option maxHeartbeats 4000000
namespace Mine
open PySem PySem.W PyProof.Rows PySem.SeqAt
noncomputable section
structure A2w (κ:Kx) (o:Option Int):Prop where
 ex:∃ items,κ.base.IsList κ.scr items/\((items.size=0/\o=none)∨(∃ x t,items[0]?=some (.int x t)/\0 < items.size/\o=some x))
noncomputable def chz (x:Int):Int:=if x < 0 then 31 - 2 * x else x
noncomputable def E9 (x:Int):Int×Int:=(if chz x < 1000000000000000 then 0 else chz x,Int.fmod (chz x * 17 + (if x < 0 then 1 else 0)) 1000033 + 83)
noncomputable def cNe (o:Option Int):CX:=λ_ _ e s=>match A8 126870958469236 e.ls with
 | some .scr=>.ok (.bool o.isSome) s
 | _=>.no
noncomputable def C5e (o:Option Int):CX:=λ_ _ e s=>match A8 126870958469236 e.ls with
 | some .scr=>match o with
  | some x=>.ok (li x) s
  | none=>.no
 | _=>.no
noncomputable def C8g:SL:=match B0h.body with
 | .cons _ l=>l
 | _=>.nil
noncomputable def C6l:List Stmt:=(bdS (A6 131)).drop 1
theorem G2t:bdS (A6 131)=.Assign [.Name (aa "told") ⟨1279,4,1279,8⟩] (.IfExp (.Compare (.Name (aa "script") ⟨1279,24,1279,30⟩) [.NotEq] [.List [] ⟨1279,34,1279,36⟩] ⟨1279,24,1279,36⟩)
  (.Subscript (.Name (aa "script") ⟨1279,11,1279,17⟩) (.Constant (.int 0) 0 ⟨1279,18,1279,19⟩) ⟨1279,11,1279,20⟩) (.Constant (.int 0) 0 ⟨1279,42,1279,43⟩) ⟨1279,11,1279,43⟩) ⟨1279,4,1279,43⟩::C6l:=by kernel_rfl
theorem F5g:mSL (mN 40) (scS (A6 131)).names C6l C8g=true:=by decide +kernel
theorem F7w:R0 1953459300 (aa "told")=true/\R0 126870958469236 (aa "script")=true/\isK (scS (A6 131)).names (aa "told") .local=true/\isK (scS (A6 131)).names (aa "script") .local=true/\(aa "script" == ("__debug__":Str))=false:=by decide +kernel
theorem A7u {κ:Kx} {w:W} {x:Value} (r:w.vr κ .scr x):x=.ref κ.scr:=by cases r; rfl
section
variable {κ:Kx} {rn:F5} {f n:Nat} {nm:List (Str×aK)}
theorem B0b {κ:Kx} {w:W} (I:A7 κ w) {a:Addr} {items:Array Value} (h:κ.base.IsList a items):w.h.IsList a items:=let ⟨o,ho,r⟩:=h; ⟨o,I.base _ _ ho,r⟩
theorem B7a {o:Option Int} {c:Cx} {ev:Mine.Env} {s s':St} {v:V} (h:cNe o rn c ev s=.ok v s'):A8 126870958469236 ev.ls=some .scr/\v=.bool o.isSome/\s'=s:=by
 unfold cNe at h
 split at h
 ·rename_i q; cases h; exact ⟨q,rfl,rfl⟩
 ·cases h
theorem B0y {o:Option Int} (S:A2w κ o) {A:aI} {w:W} (I:A7 κ w) (hu:A.units + 60 < cLine) {a:Addr} (ha:w.h.IsList a #[]) {Q:Value->ak->Prop} {E:Value->ak->Prop} (q:Q (.bool o.isSome) w.s):
  wpAny κ.m A (compareOp .NotEq (.ref κ.scr) (.ref a)) Q E w.s:=by
 obtain ⟨items,hI,h⟩:=S.ex
 have hl:=B0b I hI
 rcases h with ⟨h1,h2⟩ | ⟨x,t,h1,h0,h2⟩
 ·subst h2
  have t2:=RcNeAt.lists (A:=A) (e:=λ_=>true) hl ha (h1.trans rfl) (by omega) (λj h1 _=>absurd h1 (by omega))
  rw [h1] at t2
  exact t2 _ _ _ _ q
 ·subst h2
  have hne:(items.size != (#[]:Array Value).size)=true:=by
   have:items.size≠0:=by omega
   simpa using this
  exact RcNeAt.lists_lengths (A:=A) hl ha hne (by omega) _ _ _ _ q
theorem A7k {p2:Pos} {A:aI} {c:Cx} {ev:Mine.Env} {env:PySem.Env} {w:W} (hA:B7 A f n) (hc:D9 κ c) (I:A7 κ w) (r:C8 κ w ev env) (hn:env.scope.names=nm):
  wpAny κ.m A (eval (.List [] p2) env) (λval s₂=>∃ φ2 a,val=.ref a/\s₂.heap.IsList a #[]/\Le [] w ⟨φ2,w.es,s₂⟩/\A7 κ ⟨φ2,w.es,s₂⟩) D1 w.s:=by
 refine wpAny_List (af (B6t (rn:=λ_ _ _=>A5) p2 A c ev env w hA hc I r hn [] w.es rfl) (λxs s₂ p3=>?_) λ_ _ x=>x)
 obtain ⟨φ2,le2,inv2,hv⟩:=p3
 cases hv
 refine ⟨by decide,φ2,s₂.heap.objs.size,rfl,?_,?_,?_⟩
 ·exact Heap.PlainList.isList ⟨0,ax _ rfl⟩
 ·exact le2.comp (Le.grow (w:=⟨φ2,w.es,s₂⟩) (C9 _) ⟨rfl,rfl,rfl⟩)
 ·exact A7.grow (w:=⟨φ2,w.es,s₂⟩) inv2 (C9 _)
theorem E3l {o:Option Int} (S:A2w κ o) {x:Str} {p p2 pos} (hx:SV 126870958469236 x) (hk:nm.lookup x=some .local) (hd:(x == ("__debug__":Str))=false):SE κ rn f n nm (cNe o) (.Compare (.Name x p) [.NotEq] [.List [] p2] pos):=by
 have hm:behindInMarks .NotEq (.List [] p2)=false:=rfl
 refine ⟨λA c ev env w hA hc I r hn v es' h=>?_,λA c ev env w hA hc I r hn v es' h=>?_⟩
 ·obtain ⟨hl,rfl,rfl⟩:=B7a h
  refine wpAny_Compare1 (af ((A4m (rn:=rn) (f:=f) (n:=n) hx hk hd).1 A c ev env w hA hc I r hn .scr w.es (F9 hl)) (λval s₁ p=>?_) λ_ _ x=>x) hm
  obtain ⟨φ1,le,inv,hr⟩:=p
  have:=A7u hr
  subst this
  refine af (A7k (w:=⟨φ1,w.es,s₁⟩) hA hc inv (r.le le) hn) (λval2 s₂ p2=>?_) λ_ _ x=>x
  obtain ⟨φ2,a,rfl,h2,le2,inv2⟩:=p2
  exact B0y (w:=⟨φ2,w.es,s₂⟩) S inv2 hA.u60 h2 ⟨φ2,le.comp le2,inv2,.bool _⟩
 ·refine A2 h λv' s' h0 h5=>?_
  obtain ⟨hl,rfl,rfl⟩:=B7a h0
  obtain ⟨rfl,e9⟩:=K7 h5
  rw [e9]
  refine wpAny_isTrue_Compare1 (af ((A4m (rn:=rn) (f:=f) (n:=n) hx hk hd).1 A c ev env w hA hc I r hn .scr w.es (F9 hl)) (λval s₁ p=>?_) λ_ _ x=>x) hm
  obtain ⟨φ1,le,inv,hr⟩:=p
  have:=A7u hr
  subst this
  refine af (A7k (w:=⟨φ1,w.es,s₁⟩) hA hc inv (r.le le) hn) (λval2 s₂ p2=>?_) λ_ _ x=>x
  obtain ⟨φ2,a,rfl,h2,le2,inv2⟩:=p2
  exact B0y (w:=⟨φ2,w.es,s₂⟩) S inv2 hA.u60 h2 (wpAny_truthy_bool ⟨φ2,le.comp le2,inv2,rfl⟩)
theorem D7u {o:Option Int} (S:A2w κ o) {x:Str} {p k p2 pos} (hx:SV 126870958469236 x) (hk:nm.lookup x=some .local) (hd:(x == ("__debug__":Str))=false):SE κ rn f n nm (C5e o) (.Subscript (.Name x p) (.Constant (.int 0) k p2) pos):=
 SE.value (λA c ev env w hA hc I r hn v es' h=>by
  unfold C5e at h
  split at h
  ·rename_i hl
   split at h
   ·rename_i x0
    cases h
    refine Subscript_ (af ((A4m (rn:=rn) (f:=f) (n:=n) hx hk hd).1 A c ev env w hA hc I r hn .scr w.es (F9 hl)) (λval s₁ p=>?_) λ_ _ x=>x)
    obtain ⟨φ1,le,inv,hr⟩:=p
    have:=A7u hr
    subst this
    refine af ((A8v (κ:=κ) (rn:=rn) (f:=f) (n:=n) (nm:=nm) (i:=0) (k:=k) (pos:=p2)).1 A c ev env ⟨φ1,w.es,s₁⟩ hA hc inv (r.le le) hn (li 0) w.es rfl) (λval2 s₂ p2=>?_) λ_ _ x=>x
    obtain ⟨φ2,le2,inv2,hr2⟩:=p2
    cases hr2 with
    | int e0=>
     have e0:(0:Int)=_:=e0
     subst e0
     obtain ⟨items,hI,hh⟩:=S.ex
     have hl:=B0b inv2 hI
     rcases hh with ⟨_,h2⟩ | ⟨x1,t,h1,h0,h2⟩
     ·cases h2
     ·cases h2
      refine Y8 ⟨"list",_,list_getitem_lookup,hl.typeIs⟩ ?_
      exact wpAny_getItem_list hl (by omega) (by omega) h1 ((A1.here (X:=[]) (w:=⟨φ2,w.es,s₂⟩) (R:=E5 κ (li x0)) inv2 (.int rfl)).lift (le.comp le2))
   ·cases h
  ·cases h) λ_ _=>rfl
end
end
end Mine
set_option maxRecDepth 100000
set_option maxHeartbeats 4000000
namespace Mine
open PySem PySem.W PyProof.Rows
noncomputable section
section
variable {c:Cx} {rn:F5} {e:Mine.Env} {s s1 s2 s3:St}
theorem E7h (a b:Int):f0 c 2 (li a) (li b) s=.ok (decide (a < b)) s:=A3k a b
theorem C6h (a b:Int):f0 c 5 (li a) (li b) s=.ok (!decide (a < b)) s:=by
 show A6a (ltV c (li a) (li b)) s=_
 unfold A6a D3
 rw [A3k]
 cases decide (a < b)<;>rfl
theorem D7t {x:CX} {b:Bool} (h:x rn c e s=.ok (.bool b) s):C3c 6 (A2c x B6f) rn c e s=.ok (li (if b then 1 else 0)) s:=by
 show bd (bd (x rn c e s) _) _=_
 rw [h]
 induction b using ao<;>rfl
theorem C4b {x y:CX} {a b:V} (h1:x rn c e s=.ok a s) (h2:y rn c e s=.ok b s):D1h (A2c x (A2c y B6f)) rn c e s=w9 (.list [a,b]) s:=by
 show bd (bd (x rn c e s) _) _=_
 rw [h1]
 show bd (bd (bd (y rn c e s) _) _) _=_
 rw [h2]; rfl
noncomputable def A4w (o:Option Int):CS:=B6e (R7 (A4z 1953459300) (A8c (cNe o) (C5e o) (H5 (li 0)))) C8g.den
theorem B7n {o:Option Int} {t:Tr O} {f:Nat}:D3 (S4 C0b.ps [.scr] C0b.dflt ⟨[],[]⟩) (λe=>D3 (A4w o rn c e) λfl=>@Fl.rec (λ_=>M V) (λ_=>D7 .none) (λ_=>A5) (λv=>D7 v) fl) ⟨t,2,0,f⟩=
  .ok (.ref 2) ⟨Tr.set (.list [li (E9 (o.getD 0)).1,li (E9 (o.getD 0)).2]) t 2,3,0,f⟩:=by
 generalize hs:(⟨t,2,0,f⟩:St)=s
 have h1:A8c (cNe o) (C5e o) (H5 (li 0)) rn c ⟨[(126870958469236,.scr)],[]⟩ s=.ok (li (o.getD 0)) s:=by
  refine A4i (b:=o.isSome) (s1:=s) rfl ?_
  induction o using ae<;>rfl
 generalize o.getD 0=x at *
 have h0:A6f 5 (W5 1953459300) (H5 (li 0)) rn c ⟨[(126870958469236,.scr),(1953459300,li x)],[]⟩ s=.ok (.bool (!decide (x < 0))) s:=t7 (F9 rfl) rfl (C6h x 0)
 have h2:A8c (A6f 5 (W5 1953459300) (H5 (li 0))) (W5 1953459300) (A1u 1 (H5 (li 31)) (A1u 2 (H5 (li 2)) (W5 1953459300))) rn c ⟨[(126870958469236,.scr),(1953459300,li x)],[]⟩ s=.ok (li (chz x)) s:=by
  refine A4i h0 ?_
  unfold chz
  by_cases hx:x < 0
  ·rw [decide_eq_true hx,if_pos hx,if_neg (by decide)]
   exact F8 rfl (F8 rfl (F9 rfl) (D0i (by rw [j5 (c:=c) (n:=2) (by decide) (by decide)]; rfl))) (F9f _ _)
  ·rw [decide_eq_false hx,if_neg hx,if_pos (by decide)]
   exact F9 rfl
 generalize hz:chz x=z at *
 have h3:A8c (A6f 5 (W5 1936292453) (A1u 5 (H5 (li 10)) (H5 (li 15)))) (W5 1936292453) (H5 (li 0)) rn c ⟨[(126870958469236,.scr),(1953459300,li x),(1936292453,li z)],[]⟩ s=.ok (li (if z < 1000000000000000 then 0 else z)) s:=by
  refine A4i (t7 (F9 rfl) (F8 rfl rfl G0q) (C6h z 1000000000000000)) ?_
  by_cases hx:z < 1000000000000000
  ·rw [decide_eq_true hx,if_pos hx,if_neg (by decide)]; rfl
  ·rw [decide_eq_false hx,if_neg hx,if_pos (by decide)]
   exact F9 rfl
 have h4:A1u 0 (A1u 3 (A1u 0 (A1u 2 (W5 1936292453) (H5 (li 17))) (C3c 6 (A2c (A6f 2 (W5 1953459300) (H5 (li 0))) B6f))) (H5 (li 1000033))) (H5 (li 83)) rn c ⟨[(126870958469236,.scr),(1953459300,li x),(1936292453,li z)],[]⟩ s=
   .ok (li (Int.fmod (z * 17 + (if x < 0 then 1 else 0)) 1000033 + 83)) s:=by
  refine F8 (F8 (F8 (F8 (F9 rfl) rfl (D0i (by rw [j5 (c:=c) (n:=17) (by decide) (by decide)]; exact Bool.or_true _))) (D7t (t7 (F9 rfl) rfl (E7h x 0))) (E6p _ _)) rfl (C4g (by decide))) rfl ?_
  by_cases hx:x < 0
  ·rw [decide_eq_true hx,if_pos hx]; rfl
  ·rw [decide_eq_false hx,if_neg hx]; rfl
 have hr:A4w o rn c ⟨[(126870958469236,.scr)],[]⟩ s=.ok (.ret (.ref 2)) ⟨Tr.set (.list [li (E9 x).1,li (E9 x).2]) t 2,3,0,f⟩:=by
  refine V7 (A0y h1) ?_
  refine V7 (A0y h2) ?_
  refine Z6 (A3w ((C4b h3 h4).trans ?_))
  unfold E9
  rw [hz]
  subst hs
  rfl
 show bd (A4w o rn c ⟨[(126870958469236,.scr)],[]⟩ s) _=_
 rw [hr]; rfl
end
section
variable {w:World} {s:ak} {mg mb:Str->Option Value} {scr:Addr} {rho:Nat->Int} {chs:Nat->Int×Int} {wide:Bool}
theorem C2s {κ:Kx} {rn:F5} {f n:Nat} {o:Option Int} (S:A2w κ o) (KO:U8 κ) (B:I4 κ) (RO:X2 κ f rn):SSs κ rn (f + 1) (n + 1) (scS (A6 131)).names (A4w o) (bdS (A6 131)):=by
 refine A2f F7w λb1 b3 b2 b4 b5=>?_
 rw [G2t]
 refine A5a ?_ (Y1 (A2m (n:=n) KO B RO 40) F5g)
 refine B7v rfl (λenv _ _=>y4 rfl _ _ env) (λenv _ _=>B6i rfl) (B9u (C6 b1) (F1 b2)) ?_
 exact (B6q (E3l S (C6 b3) (F1 b4) b5) (D7u S (C6 b3) (F1 b4) b5) A8v).1
theorem C3n (H:Hd w s mg mb) {o:Option Int} (S:A2w (kx w s mg mb scr rho chs wide) o) (h0:chs 0=E9 (o.getD 0)):A9h (kx w s mg mb scr rho chs wide):=by
 intro A c W vs xs v es' hA hA2 hc I G hv h
 refine A8y (C9i (scr:=scr) (rho:=rho) (chs:=chs) (wide:=wide) H E5w) λtt ff hT1 hT2 hT3 F=>?_
 have KO:U8 (kx w s mg mb scr rho chs wide):=kok H
 have B:I4 (kx w s mg mb scr rho chs wide):=A8b H
 have h0:(kx w s mg mb scr rho chs wide).chs 0=E9 (o.getD 0):=h0
 generalize kx w s mg mb scr rho chs wide=κ at *
 have et:tt=tx (A6 131):=(ac (hT1.symm.trans rfl))
 subst et
 obtain ⟨φ,⟨t,n,d,f⟩,Sh⟩:=W
 unfold A8l at h
 split at h
 ·have h':D5 (aA n 2 && aA d 0) (w9 .chest ⟨t,n,d,f⟩) .no=.ok v es':=h
  rw [E1] at h'
  split at h'
  ·rename_i hb
   rw [az] at hb
   have e1:=aw hb.1
   have e2:=aw hb.2
   subst e1 e2
   have hg:∀ (o:O) (i:Nat),(Tr.set o t 2).get i=if i=2 then some o else t.get i:=λo i=>Tr.set_get o t 2 i (by decide)
   have hfl:f<=2:=I.fl
   have hrun:=y8 (rn:=λ_ _ _=>A5) (f:=0) F (cs:=A4w o) (C2s (n:=50) S KO B (E0l κ)) hA (by omega) hc I G hv (B7n (c:=c) (o:=o) (t:=t) (f:=f))
   refine codeAny_mono hrun λr s' ⟨val,hr0,φ',le,inv,hr⟩=>⟨val,hr0,?_⟩
   have h':Rs.ok (.ref 2) (⟨Tr.set .chest t 2,3,0,f⟩:St)=.ok v es':=h'
   cases h'
   refine ⟨φ',⟨le.keep,le.live,le.same,le.new,le.le,rfl,λi hi=>?_,aG _,le.gens,le.os,le.drawn⟩,⟨λi o' e=>?_,inv.inj,inv.lt,inv.base,inv.lim,inv.fl,inv.f1,inv.nb,inv.sb,inv.z0,inv.own,λi k l e=>?_⟩,?_⟩
   ·have hi:i < f:=hi
    show (Tr.set .chest t 2).get i=t.get i
    rw [hg,if_neg (by omega)]
   ·have e9:(Tr.set .chest t 2).get i=some o':=e
    clear e
    rw [hg] at e9
    split at e9
    ·rename_i hi
     subst hi
     cases e9
     refine M5 (inv.obj 2 _ ((hg _ 2).trans (if_pos rfl))) λ_ items hp' _ hv'=>?_
     refine kEE (A5q hv') λt2 u2 e4=>?_
     subst e4
     refine ⟨(by decide:(2:Nat) < 3),rfl,t2,u2,?_⟩
     show s'.heap.PlainList (φ' 2) #[.int (κ.chs 0).1 t2,.int (κ.chs 0).2 u2]
     rw [h0]
     exact hp'
    ·rename_i hi
     exact inv.obj i o' ((hg _ i).trans (by rw [if_neg hi]; exact e9))
   ·have e:(Tr.set .chest t 2).get i=some (.inst k l):=e
    show (Tr.set .chest t 2).get (i + 1)=none
    rw [hg] at e ⊢
    split at e
    ·cases e
    ·rename_i hi
     have:=inv.sec i k l ((hg _ i).trans (by rw [if_neg hi]; exact e))
     have this:(Tr.set (.list [li (E9 (o.getD 0)).1,li (E9 (o.getD 0)).2]) t 2).get (i + 1)=none:=this
     rw [hg] at this
     split
     ·rename_i hi2
      rw [if_pos hi2] at this; cases this
     ·rename_i hi2
      rw [if_neg hi2] at this; exact this
   ·exact hr
  ·cases h'
 ·exact (A0 (s:=⟨t,n,d,f⟩) h).elim
end
noncomputable def M0:List Nat:=[3,9,3,9,3,9,3,9,90,2]
noncomputable def L4 (L:List Nat) (x:Int):Nat->Int×Int
 | 0=>E9 x
 | d + 1=>D8 (L4 L x d) ((L[d]?).getD 1)
noncomputable def o5 (L:List Nat) (x:Int) (d:Nat):Int:=H0 (L4 L x d) ((L[d]?).getD 1)
noncomputable def D7e (x:Int):Bool:=decide (o5 M0 x 9=0)
noncomputable def C3i (x:Int):Bool:=decide (0 < (E9 x).1)
noncomputable def Mf:Bool->Bool->List Nat
 | false,false=>[3,9,3,9,3,9,3,9,90,2,9,9,9,2,2,2]
 | false,true=>[3,9,3,9,3,9,3,9,90,2,90,9,9,9,2,2,2]
 | true,false=>[3,9,3,9,3,9,3,9,90,2,9,9,9,2,2,2,2]
 | true,true=>[3,9,3,9,3,9,3,9,90,2,90,9,9,9,2,2,2,2,2]
noncomputable def B4g:Bool->Bool->Bool->Bool->Bool->Bool->List (Nat×Nat)
 | false,false,a,t,_,_=>[(9,1),(13,cond a 1 0),(15,cond t 0 1)]
 | false,true,a,t,_,_=>[(9,0),(14,cond a 1 0),(16,cond t 0 1)]
 | true,false,a,t,_,s=>[(9,1),(13,cond a 1 0),(15,cond t 0 1),(16,cond s 1 0)]
 | true,true,a,t,f,s=>[(9,0),(14,cond a 1 0),(16,cond t 0 1),(17,cond f 1 0),(18,cond s 1 0)]
theorem m5 (c:Int×Int) {m:Nat} (h:0 < m):0<=H0 c m/\H0 c m < (m:Int):=by
 have hm:(0:Int) < (m:Int):=by omega
 unfold H0
 split
 ·exact ⟨Int.fmod_nonneg_of_pos _ hm,Int.fmod_lt_of_pos _ hm⟩
 ·exact ⟨Int.fmod_nonneg_of_pos _ hm,Int.fmod_lt_of_pos _ hm⟩
theorem E6q (L:List Nat) (x:Int):∀ d,0<=(L4 L x d).2/\(L4 L x d).2 < 2000000
 | 0=>by
  have h1:=Int.fmod_nonneg_of_pos (chz x * 17 + (if x < 0 then 1 else 0)) (b:=1000033) (by decide)
  have h2:=Int.fmod_lt_of_pos (chz x * 17 + (if x < 0 then 1 else 0)) (b:=1000033) (by decide)
  show 0<=Int.fmod (chz x * 17 + (if x < 0 then 1 else 0)) 1000033 + 83/\Int.fmod (chz x * 17 + (if x < 0 then 1 else 0)) 1000033 + 83 < 2000000
  omega
 | d + 1=>by
  have ih:=E6q L x d
  show 0<=(D8 (L4 L x d) _).2/\(D8 (L4 L x d) _).2 < 2000000
  unfold D8
  split
  ·exact ih
  ·have h1:=Int.fmod_nonneg_of_pos ((L4 L x d).2 * 6089 + 733) (b:=1000033) (by decide)
   have h2:=Int.fmod_lt_of_pos ((L4 L x d).2 * 6089 + 733) (b:=1000033) (by decide)
   exact ⟨h1,by show Int.fmod _ _ < _; omega⟩
theorem A0h {L:List Nat} {x:Int} (h:¬ 0 < (E9 x).1):∀ d,(L4 L x d).1=(E9 x).1
 | 0=>rfl
 | d + 1=>by
  have ih:=A0h (L:=L) h d
  show (D8 (L4 L x d) _).1=_
  unfold D8
  rw [if_neg (by rw [ih]; exact h)]
  exact ih
noncomputable def prM (L:List Nat):Nat->Int
 | 0=>1
 | d + 1=>prM L d * (((L[d]?).getD 1:Nat):Int)
theorem C4k {c:Int×Int} {m:Nat} (h0:0<=c.1) (hm:1<=m):0<=(D8 c m).1/\c.1 + 1<=((D8 c m).1 + 1) * (m:Int):=by
 have hm':(0:Int) < (m:Int):=by omega
 unfold D8
 split
 ·rename_i hc
  have e:Int.fdiv c.1 (m:Int)=c.1 / (m:Int):=Int.fdiv_eq_ediv_of_nonneg _ (by omega)
  have h1:c.1 < (c.1 / (m:Int) + 1) * (m:Int):=Int.lt_ediv_add_one_mul_self _ hm'
  have h2:0<=c.1 / (m:Int):=Int.ediv_nonneg h0 (by omega)
  show 0<=Int.fdiv c.1 (m:Int)/\c.1 + 1<=(Int.fdiv c.1 (m:Int) + 1) * (m:Int)
  rw [e]
  exact ⟨h2,by omega⟩
 ·refine ⟨h0,?_⟩
  show c.1 + 1<=(c.1 + 1) * (m:Int)
  have:=Int.mul_le_mul_of_nonneg_left (a:=1) (b:=(m:Int)) (c:=c.1 + 1) (by omega) (by omega)
  omega
theorem A5x {L:List Nat} {x:Int} (hL:∀ d:Nat,1<=(L[d]?).getD 1) (h:0<=(E9 x).1):∀ d,0<=(L4 L x d).1/\0 < prM L d/\(E9 x).1 + 1<=((L4 L x d).1 + 1) * prM L d
 | 0=>⟨h,Int.one_pos,by show (E9 x).1 + 1<=((E9 x).1 + 1) * 1; omega⟩
 | d + 1=>by
  obtain ⟨h1,h2,h3⟩:=A5x hL h d
  obtain ⟨h4,h5⟩:=C4k (m:=(L[d]?).getD 1) h1 (hL d)
  refine ⟨h4,Int.mul_pos h2 (by have:=hL d; omega),aN h3 ?_⟩
  show _<=((D8 (L4 L x d) ((L[d]?).getD 1)).1 + 1) * (prM L d * (((L[d]?).getD 1:Nat):Int))
  have:=Int.mul_le_mul_of_nonneg_right h5 (Int.le_of_lt h2)
  rw [Int.mul_assoc,Int.mul_comm (((L[d]?).getD 1:Nat):Int)] at this
  exact this
theorem A6u {L:List Nat}:∀ k,prM L (L.length + k)=prM L L.length
 | 0=>rfl
 | k + 1=>by
  show prM L (L.length + k) * (((L[L.length + k]?).getD 1:Nat):Int)=_
  rw [List.getElem?_eq_none (by omega),A6u k]
  show prM L L.length * 1=_
  omega
theorem F1e (w o:Bool) (d:Nat):prM (Mf w o) d<=1000000000000000:=by
 have key:∀ w o,((List.range 20).all λd=>decide (prM (Mf w o) d<=1000000000000000))=true:=by decide +kernel
 have hl:(Mf w o).length < 20:=by induction w using ao<;>induction o using ao<;>decide
 by_cases h:d < 20
 ·exact of_decide_eq_true (aL.mp (key w o) d (List.mem_range.mpr h))
 ·have:=A6u (L:=Mf w o) (d - (Mf w o).length)
  rw [show (Mf w o).length + (d - (Mf w o).length)=d by omega] at this
  rw [this]
  exact of_decide_eq_true (aL.mp (key w o) _ (List.mem_range.mpr hl))
theorem F1h (w o:Bool):((Mf w o).all λm=>decide (0 < m/\m<=1000))=true:=by induction w using ao<;>induction o using ao<;>decide
theorem A9c {w o:Bool} {d m:Nat} (h:(Mf w o)[d]?=some m):0 < m/\m<=1000:=of_decide_eq_true (aL.mp (F1h w o) m (bc h))
theorem F1l (w o:Bool) (d:Nat):1<=((Mf w o)[d]?).getD 1:=by
 induction h:(Mf w o)[d]? using ae with
 | none=>exact aG _
 | some m=>exact (A9c h).1
theorem C3o (w o:Bool) (x:Int) (d:Nat):decide (0 < (L4 (Mf w o) x d).1)=C3i x:=by
 unfold C3i
 by_cases h:0 < (E9 x).1
 ·rw [decide_eq_true h]
  have hz:1000000000000000<=(E9 x).1:=by
   unfold E9 at h ⊢
   dsimp only at h ⊢
   split
   ·rename_i q; rw [if_pos q] at h; omega
   ·omega
  obtain ⟨h1,h2,h3⟩:=A5x (L:=Mf w o) (x:=x) (F1l w o) (by omega) d
  have h4:=F1e w o d
  refine decide_eq_true ?_
  rcases Int.lt_or_le 0 (L4 (Mf w o) x d).1 with q | q
  ·exact q
  ·have:(L4 (Mf w o) x d).1=0:=by omega
   rw [this] at h3
   omega
 ·rw [decide_eq_false h,A0h h d]
  exact decide_eq_false h
theorem F4u (w o:Bool) (x:Int):o5 (Mf w o) x 9=o5 M0 x 9:=by induction w using ao<;>induction o using ao<;>rfl
theorem E7j {κ:Kx} {x:Int} {w o:Bool} (hw:w=C3i x) (ho:o=D7e x) (h1:κ.rho=o5 (Mf w o) x) (h2:κ.chs=L4 (Mf w o) x) (h3:κ.wide=w):∃ a t f s,D9 κ ⟨B4g w o a t f s,Mf w o,w⟩:=by
 have two:∀ d,(Mf w o)[d]?=some 2->κ.rho d=0∨κ.rho d=1:=λd hd=>by
  rw [h1]
  have:=m5 (L4 (Mf w o) x d) (m:=2) (by decide)
  have e:o5 (Mf w o) x d=H0 (L4 (Mf w o) x d) 2:=by unfold o5; rw [hd]; rfl
  rw [e]; omega
 have bA:∀ d,(Mf w o)[d]?=some 2->κ.rho d=((cond (decide (κ.rho d=1)) 1 0:Nat):Int):=λd hd=>by
  rcases two d hd with e | e<;>rw [e]<;>rfl
 have bB:∀ d,(Mf w o)[d]?=some 2->κ.rho d=((cond (decide (κ.rho d=0)) 0 1:Nat):Int):=λd hd=>by
  rcases two d hd with e | e<;>rw [e]<;>rfl
 have b9:κ.rho 9=((cond o 0 1:Nat):Int):=by
  have e:=two 9 (by induction w using ao<;>induction o using ao<;>rfl)
  have e2:κ.rho 9=o5 M0 x 9:=by rw [h1]; exact F4u w o x
  unfold D7e at ho
  rw [<- e2] at ho
  rcases e with e | e<;>rw [e] at ho ⊢<;>subst ho<;>rfl
 refine ⟨decide (κ.rho (cond o 14 13)=1),decide (κ.rho (cond o 16 15)=0),decide (κ.rho 17=1),decide (κ.rho (cond o 18 16)=1),λk j hl=>?_,λk m hm=>?_,h3.symm,λd=>?_,λd m hm=>?_⟩
 ·have hmem:=A0m hl
  induction w using ao<;>induction o using ao
  ·simp only [B4g,aE,Prod.mk.injEq,bG,or_false] at hmem
   rcases hmem with ⟨rfl,rfl⟩ | ⟨rfl,rfl⟩ | ⟨rfl,rfl⟩
   ·exact b9
   ·exact bA 13 rfl
   ·exact bB 15 rfl
  ·simp only [B4g,aE,Prod.mk.injEq,bG,or_false] at hmem
   rcases hmem with ⟨rfl,rfl⟩ | ⟨rfl,rfl⟩ | ⟨rfl,rfl⟩
   ·exact b9
   ·exact bA 14 rfl
   ·exact bB 16 rfl
  ·simp only [B4g,aE,Prod.mk.injEq,bG,or_false] at hmem
   rcases hmem with ⟨rfl,rfl⟩ | ⟨rfl,rfl⟩ | ⟨rfl,rfl⟩ | ⟨rfl,rfl⟩
   ·exact b9
   ·exact bA 13 rfl
   ·exact bB 15 rfl
   ·exact bA 16 rfl
  ·simp only [B4g,aE,Prod.mk.injEq,bG,or_false] at hmem
   rcases hmem with ⟨rfl,rfl⟩ | ⟨rfl,rfl⟩ | ⟨rfl,rfl⟩ | ⟨rfl,rfl⟩ | ⟨rfl,rfl⟩
   ·exact b9
   ·exact bA 14 rfl
   ·exact bB 16 rfl
   ·exact bA 17 rfl
   ·exact bA 18 rfl
 ·have hm:(Mf w o)[k]?=some m:=hm
  have e:κ.rho k=H0 (L4 (Mf w o) x k) m:=by rw [h1]; unfold o5; rw [hm]; rfl
  rw [e]
  exact m5 _ (A9c hm).1
 ·rw [h2,h3,hw]
  exact hw ▸ C3o w o x d
 ·have hm:(Mf w o)[d]?=some m:=hm
  refine ⟨A9c hm,?_,?_⟩
  ·rw [h1,h2]; unfold o5; rw [hm]; rfl
  ·rw [h2]; show D8 (L4 (Mf w o) x d) (((Mf w o)[d]?).getD 1)=_; rw [hm]; rfl
end
end Mine
set_option maxRecDepth 100000
set_option maxHeartbeats 0
namespace Mine
noncomputable section
noncomputable def st0:St:=⟨.node (some (.dict [(.str 26936,.int (.lit 8)),(.str 6893878,.int (.lit 16)),(.str 6894386,.int (.lit 32)),(.str 6895156,.int (.lit 64)),(.str 30008,.int (.lit 8)),(.str 7680310,.int (.lit 16)),(.str 7680818,.int (.lit 32)),(.str 7681588,.int (.lit 64)),(.str 504447466085,.int (.lit 64))])) (.node (some .tab) .nil .nil) .nil,2,0,2⟩
noncomputable def B5a (c:Cx) (fuel:Nat):Rs V:=(C4v O3 fuel) c C7l [.scr] st0
noncomputable def D4 (c:Cx):Bool:=match B5a c 60 with | .ok (.bool b) _=>b | _=>false
noncomputable def kx0:Cx:=⟨[(9,1),(13,0),(15,1)],[3,9,3,9,3,9,3,9,90,2,9,9,9,2,2,2],false⟩
theorem kk0:D4 kx0=true:=by decide +kernel
noncomputable def kx1:Cx:=⟨[(9,1),(13,0),(15,0)],[3,9,3,9,3,9,3,9,90,2,9,9,9,2,2,2],false⟩
theorem kk1:D4 kx1=true:=by decide +kernel
noncomputable def kx2:Cx:=⟨[(9,1),(13,1),(15,1)],[3,9,3,9,3,9,3,9,90,2,9,9,9,2,2,2],false⟩
theorem kk2:D4 kx2=true:=by decide +kernel
noncomputable def kx3:Cx:=⟨[(9,1),(13,1),(15,0)],[3,9,3,9,3,9,3,9,90,2,9,9,9,2,2,2],false⟩
theorem kk3:D4 kx3=true:=by decide +kernel
noncomputable def kx4:Cx:=⟨[(9,0),(14,0),(16,1)],[3,9,3,9,3,9,3,9,90,2,90,9,9,9,2,2,2],false⟩
theorem kk4:D4 kx4=true:=by decide +kernel
noncomputable def kx5:Cx:=⟨[(9,0),(14,0),(16,0)],[3,9,3,9,3,9,3,9,90,2,90,9,9,9,2,2,2],false⟩
theorem kk5:D4 kx5=true:=by decide +kernel
noncomputable def kx6:Cx:=⟨[(9,0),(14,1),(16,1)],[3,9,3,9,3,9,3,9,90,2,90,9,9,9,2,2,2],false⟩
theorem kk6:D4 kx6=true:=by decide +kernel
noncomputable def kx7:Cx:=⟨[(9,0),(14,1),(16,0)],[3,9,3,9,3,9,3,9,90,2,90,9,9,9,2,2,2],false⟩
theorem kk7:D4 kx7=true:=by decide +kernel
noncomputable def kx8:Cx:=⟨[(9,1),(13,0),(15,1),(16,0)],[3,9,3,9,3,9,3,9,90,2,9,9,9,2,2,2,2],true⟩
theorem kk8:D4 kx8=true:=by decide +kernel
noncomputable def kx9:Cx:=⟨[(9,1),(13,0),(15,1),(16,1)],[3,9,3,9,3,9,3,9,90,2,9,9,9,2,2,2,2],true⟩
theorem kk9:D4 kx9=true:=by decide +kernel
noncomputable def F6x:Cx:=⟨[(9,1),(13,0),(15,0),(16,0)],[3,9,3,9,3,9,3,9,90,2,9,9,9,2,2,2,2],true⟩
theorem F7z:D4 F6x=true:=by decide +kernel
noncomputable def G0u:Cx:=⟨[(9,1),(13,0),(15,0),(16,1)],[3,9,3,9,3,9,3,9,90,2,9,9,9,2,2,2,2],true⟩
theorem F6q:D4 G0u=true:=by decide +kernel
noncomputable def F9p:Cx:=⟨[(9,1),(13,1),(15,1),(16,0)],[3,9,3,9,3,9,3,9,90,2,9,9,9,2,2,2,2],true⟩
theorem G0r:D4 F9p=true:=by decide +kernel
noncomputable def G0d:Cx:=⟨[(9,1),(13,1),(15,1),(16,1)],[3,9,3,9,3,9,3,9,90,2,9,9,9,2,2,2,2],true⟩
theorem F6j:D4 G0d=true:=by decide +kernel
noncomputable def F9x:Cx:=⟨[(9,1),(13,1),(15,0),(16,0)],[3,9,3,9,3,9,3,9,90,2,9,9,9,2,2,2,2],true⟩
theorem F7n:D4 F9x=true:=by decide +kernel
noncomputable def F9e:Cx:=⟨[(9,1),(13,1),(15,0),(16,1)],[3,9,3,9,3,9,3,9,90,2,9,9,9,2,2,2,2],true⟩
theorem F9h:D4 F9e=true:=by decide +kernel
noncomputable def F4f:Cx:=⟨[(9,0),(14,0),(16,1),(17,0),(18,0)],[3,9,3,9,3,9,3,9,90,2,90,9,9,9,2,2,2,2,2],true⟩
theorem F9q:D4 F4f=true:=by decide +kernel
noncomputable def F5q:Cx:=⟨[(9,0),(14,0),(16,1),(17,0),(18,1)],[3,9,3,9,3,9,3,9,90,2,90,9,9,9,2,2,2,2,2],true⟩
theorem G2o:D4 F5q=true:=by decide +kernel
noncomputable def F5r:Cx:=⟨[(9,0),(14,0),(16,1),(17,1),(18,0)],[3,9,3,9,3,9,3,9,90,2,90,9,9,9,2,2,2,2,2],true⟩
theorem G2d:D4 F5r=true:=by decide +kernel
noncomputable def G0b:Cx:=⟨[(9,0),(14,0),(16,1),(17,1),(18,1)],[3,9,3,9,3,9,3,9,90,2,90,9,9,9,2,2,2,2,2],true⟩
theorem F6i:D4 G0b=true:=by decide +kernel
noncomputable def G2i:Cx:=⟨[(9,0),(14,0),(16,0),(17,0),(18,0)],[3,9,3,9,3,9,3,9,90,2,90,9,9,9,2,2,2,2,2],true⟩
theorem G0m:D4 G2i=true:=by decide +kernel
noncomputable def F5j:Cx:=⟨[(9,0),(14,0),(16,0),(17,0),(18,1)],[3,9,3,9,3,9,3,9,90,2,90,9,9,9,2,2,2,2,2],true⟩
theorem F9i:D4 F5j=true:=by decide +kernel
noncomputable def F7i:Cx:=⟨[(9,0),(14,0),(16,0),(17,1),(18,0)],[3,9,3,9,3,9,3,9,90,2,90,9,9,9,2,2,2,2,2],true⟩
theorem F6l:D4 F7i=true:=by decide +kernel
noncomputable def G1k:Cx:=⟨[(9,0),(14,0),(16,0),(17,1),(18,1)],[3,9,3,9,3,9,3,9,90,2,90,9,9,9,2,2,2,2,2],true⟩
theorem F6h:D4 G1k=true:=by decide +kernel
noncomputable def F8y:Cx:=⟨[(9,0),(14,1),(16,1),(17,0),(18,0)],[3,9,3,9,3,9,3,9,90,2,90,9,9,9,2,2,2,2,2],true⟩
theorem G0z:D4 F8y=true:=by decide +kernel
noncomputable def G0f:Cx:=⟨[(9,0),(14,1),(16,1),(17,0),(18,1)],[3,9,3,9,3,9,3,9,90,2,90,9,9,9,2,2,2,2,2],true⟩
theorem F5k:D4 G0f=true:=by decide +kernel
noncomputable def G2r:Cx:=⟨[(9,0),(14,1),(16,1),(17,1),(18,0)],[3,9,3,9,3,9,3,9,90,2,90,9,9,9,2,2,2,2,2],true⟩
theorem F5p:D4 G2r=true:=by decide +kernel
noncomputable def F5z:Cx:=⟨[(9,0),(14,1),(16,1),(17,1),(18,1)],[3,9,3,9,3,9,3,9,90,2,90,9,9,9,2,2,2,2,2],true⟩
theorem G1u:D4 F5z=true:=by decide +kernel
noncomputable def G2g:Cx:=⟨[(9,0),(14,1),(16,0),(17,0),(18,0)],[3,9,3,9,3,9,3,9,90,2,90,9,9,9,2,2,2,2,2],true⟩
theorem F7f:D4 G2g=true:=by decide +kernel
noncomputable def F8u:Cx:=⟨[(9,0),(14,1),(16,0),(17,0),(18,1)],[3,9,3,9,3,9,3,9,90,2,90,9,9,9,2,2,2,2,2],true⟩
theorem F4h:D4 F8u=true:=by decide +kernel
noncomputable def G1a:Cx:=⟨[(9,0),(14,1),(16,0),(17,1),(18,0)],[3,9,3,9,3,9,3,9,90,2,90,9,9,9,2,2,2,2,2],true⟩
theorem F5a:D4 G1a=true:=by decide +kernel
noncomputable def G2j:Cx:=⟨[(9,0),(14,1),(16,0),(17,1),(18,1)],[3,9,3,9,3,9,3,9,90,2,90,9,9,9,2,2,2,2,2],true⟩
theorem G1r:D4 G2j=true:=by decide +kernel
end
end Mine
set_option maxRecDepth 100000
set_option maxHeartbeats 4000000
namespace Mine
open PySem PySem.W PyProof.Rows
noncomputable section
theorem C4j {R:WRecords} {d:WData} (h:WShape.has R d .int=true):∃ k,d=.int k:=by
 induction d using PySem.W.WData.casesOn with
 | int k=>exact ⟨k,rfl⟩
 | _=>exact absurd h Bool.false_ne_true
theorem B6h {R:WRecords} {d:WData} (h:WShape.has R d (.list .int)=true):∃ xs,d=.list xs/\WShape.hasItems R xs .int=true:=by
 induction d using PySem.W.WData.casesOn with
 | list xs=>exact ⟨xs,rfl,(Bool.or_false _).symm.trans h⟩
 | _=>exact absurd h Bool.false_ne_true
theorem B5j {R:WRecords} {args:List WData} (h:WShape.hasAll R args [.list .int]=true):∃ xs,args=[.list xs]/\WShape.hasItems R xs .int=true:=by
 refine P1 (hasAllW_cons h) λd r q75' h1 h2=>?_; subst q75'
 refine C5 (B6h h1) λxs q76' h3=>?_; subst q76'
 exact ⟨xs,by rw [hasAllW_nil h2],h3⟩
noncomputable def btL:List (Nat×String×Int×Nat×Nat):=[(26936,"i8",8,903,904),(6893878,"i16",16,905,906),(6894386,"i32",32,907,908),(6895156,"i64",64,909,910),(30008,"u8",8,911,912),(7680310,"u16",16,913,914),(7680818,"u32",32,915,916),(7681588,"u64",64,917,918),(504447466085,"usize",64,919,920)]
theorem F1z (P:Params):(hT P).get? 502=some (di (btL.map λb=>en P b.2.1 b.2.2.2.1 (.int b.2.2.1 b.2.2.2.2)) 9):=by kernel_rfl
theorem E3o:(btL.all λb=>R0 b.1 (aa b.2.1))=true:=by decide +kernel
theorem A5l {prog:Program} {w:World}:∀ l:List (Nat×String×Int×Nat×Nat),Pairs (C0 prog w) (l.map λb=>en w.params b.2.1 b.2.2.2.1 (.int b.2.2.1 b.2.2.2.2)) (l.map λb=>(D2.s (aa b.2.1),Value.int b.2.2.1 b.2.2.2.2))
 | []=>.nil
 | b::l=>.cons (by show (Value.str (aa b.2.1) b.2.2.2.1).isStr _=true; simp [Value.isStr]) rfl (A5l l)
theorem B7u {κ:Kx} {φ:Nat->Addr} {n:Nat} {h:Heap}:∀ l:List (Nat×String×Int×Nat×Nat),(l.all λb=>R0 b.1 (aa b.2.1))=true->j8 κ φ n h (l.map λb=>(.str b.1,li b.2.2.1)) (l.map λb=>(D2.s (aa b.2.1),Value.int b.2.2.1 b.2.2.2.2))
 | [],_=>.nil
 | b::l,e=>by
  rw [bL,az] at e
  exact .cons (.str (C6 e.1)) (.int rfl) (B7u l e.2)
theorem C1w {w:World} {prog:Program} {h:Heap} (e:h.get? 502=some (di (btL.map λb=>en w.params b.2.1 b.2.2.2.1 (.int b.2.2.1 b.2.2.2.2)) 9)):h.DictOf (C0 prog w) 502 (btL.map λb=>(D2.s (aa b.2.1),Value.int b.2.2.1 b.2.2.2.2)):=by
 refine ⟨_,⟨btL.map λb=>en w.params b.2.1 b.2.2.2.1 (.int b.2.2.1 b.2.2.2.2)⟩,9,e,⟨rfl,rfl,rfl⟩,rfl,λx hx=>?_,A5l _,?_⟩
 ·have hx:x ∈ btL.map λb=>en w.params b.2.1 b.2.2.2.1 (.int b.2.2.1 b.2.2.2.2):=by simpa using hx
  refine C5 (List.mem_map.mp hx) λb _ q77'=>?_; subst q77'
  exact ⟨D2.s (aa b.2.1),by show (Value.str (aa b.2.1) b.2.2.2.1).isStr _=true; simp [Value.isStr],rfl⟩
 ·rw [List.map_map]
  decide +kernel
theorem D9w (P:Params):((hT P).get? sysModules).isSome=true:=by kernel_rfl
theorem B1l {i:Nat} {o:O} (h:st0.t.get i=some o):(i=0/\o=.dict (btL.map λb=>(.str b.1,li b.2.2.1)))∨(i=1/\o=.tab):=by
 unfold st0 at h
 rw [Tr.get_node] at h
 split at h
 ·cases h; exact .inl ⟨by assumption,rfl⟩
 ·split at h
  ·rw [Tr.get_node] at h
   split at h
   ·rename_i h1 h2 h3
    cases h; exact .inr ⟨by omega,rfl⟩
   ·split at h<;>(rw [Tr.get_nil] at h; cases h)
  ·rw [Tr.get_nil] at h; cases h
section
variable {w:World} {s:ak} {mg mb:Str->Option Value} {scr:Addr} {rho:Nat->Int} {chs:Nat->Int×Int} {wide:Bool}
noncomputable def A0v (i:Nat):Addr:=if i=0 then 502 else 191
theorem D1l (H:Hd w s mg mb):A7 (kx w s mg mb scr rho chs wide) ⟨A0v,st0,s⟩ where
 obj:=λi o e=>by
  rcases B1l e with ⟨rfl,rfl⟩ | ⟨rfl,rfl⟩
  ·exact ⟨(by decide:(0:Nat) < 2),by decide,.inl ⟨_,C1w (H.keep _ _ (F1z _)),B7u _ E3o⟩⟩
  ·exact ⟨(by decide:(1:Nat) < 2),rfl,#[],H.keep _ _ (B2c _),trivial⟩
 inj:=λi j hi hj e=>by
  have hi:i < 2:=hi
  have hj:j < 2:=hj
  have e:A0v i=A0v j:=e
  unfold A0v at e
  split at e<;>split at e
  ·omega
  ·cases e
  ·cases e
  ·omega
 lt:=λi hi=>by
  show ∃ o,s.heap.get? (A0v i)=some o
  unfold A0v
  split
  ·exact ⟨_,H.keep _ _ (F1z _)⟩
  ·exact ⟨_,H.keep _ _ (B2c _)⟩
 base:=λb o e=>(C0z e).2
 lim:=let ⟨mc,h1,h2⟩:=H.lim; ⟨mc,B9b (by decide) h1,h2⟩
 fl:=by show (2:Nat)<=2; decide
 f1:=by show (1:Nat)<=2; decide
 nb:=by show (2:Nat)<=60002; decide
 sb:=by
  obtain ⟨o,ho⟩:=bj.mp (D9w w.params)
  exact ⟨o,A3y H (by decide) ho⟩
 z0:=by show (502:Nat)≠1; decide
 own:=λi h1 h2=>by
  show (kx w s mg mb scr rho chs wide).base.get? (A0v i)=none
  unfold A0v
  rw [if_neg (by omega)]
  exact C7y
 sec:=λi k l e=>by
  rcases B1l e with ⟨_,q⟩ | ⟨_,q⟩<;>cases q
theorem gl0 (H:Hd w s mg mb):GlR (kx w s mg mb scr rho chs wide) ⟨A0v,st0,s⟩:=λi v x h hx=>by
 refine C5 (V1 G2n (by decide +kernel) h hx) λj h1 h2=>?_
 have F:B4y (kx w s mg mb scr rho chs wide) w.params ⟨A0v,st0,s⟩:=⟨λb o hb e=>A3y H hb e,(D1l H).base,(D1l H).own,rfl,by show (1:Nat)<=2; decide⟩
 have e:=P9 (F9n w.params) h1 h2
 dsimp only at e
 have eg:mg x=(hT w.params).nsMap aX x:=A2l H
 induction hq:(hT w.params).nsMap aX x using ae with
 | none=>rw [hq] at e; cases e
 | some y=>
  rw [hq] at e
  exact ⟨y,eg.trans hq,B9w F e⟩
end
theorem E9q:∀ w o a t f s,D4 ⟨B4g w o a t f s,Mf w o,w⟩=true:=by
 intro w o a t f s
 induction w using ao<;>induction o using ao<;>induction a using ao<;>induction t using ao
 ·exact kk0
 ·exact kk1
 ·exact kk2
 ·exact kk3
 ·exact kk4
 ·exact kk5
 ·exact kk6
 ·exact kk7
 ·cases s
  ·exact kk8
  ·exact kk9
 ·cases s
  ·exact F7z
  ·exact F6q
 ·cases s
  ·exact G0r
  ·exact F6j
 ·cases s
  ·exact F7n
  ·exact F9h
 ·cases f<;>cases s
  ·exact F9q
  ·exact G2o
  ·exact G2d
  ·exact F6i
 ·cases f<;>cases s
  ·exact G0m
  ·exact F9i
  ·exact F6l
  ·exact F6h
 ·cases f<;>cases s
  ·exact G0z
  ·exact F5k
  ·exact F5p
  ·exact G1u
 ·cases f<;>cases s
  ·exact F7f
  ·exact F4h
  ·exact F5a
  ·exact G1r
theorem B7i {c:Cx} (h:D4 c=true):∃ es',C4v O3 60 c C7l [.scr] st0=.ok (.bool true) es':=by
 unfold D4 B5a at h
 split at h
 ·rename_i b es' e
  subst h
  exact ⟨es',e⟩
 ·cases h
end
end Mine
set_option maxRecDepth 100000
set_option maxHeartbeats 4000000
namespace Mine
open PySem PySem.W PyProof.Rows
theorem D9y (P:Params):(hT P).nsMap aX A6h.name=some (.ref (fAl.getD 127 0)):=by kernel_rfl
theorem F0c {w:World} {s₀ s₁:ak} {mg mb:Str->Option Value} (G:Ground qv B6 rW.row.toRowW.records (λ_ _=>True) w s₀ mg mb s₁.heap) (Y:s₀.heap=hT w.params) (k:∀ b o,s₀.heap.get? b=some o->s₁.heap.get? b=some o):Hd w s₁ mg mb where
 keep:=λb o e=>k b o (by rw [Y]; exact e)
 g:=E1c G.T.g ((Heap.Ns.of_isNs (E7b w.params)).keeps λb o e=>k b o (by rw [Y]; exact e))
 gN:=G.T.g
 bN:=G.T.b
 bV:=G.T.builtins
 lim:=G.T.nolimit
 bm:=G.T.bmain
theorem A5t:B7 callerA 60 60:=⟨rfl,by decide +kernel,by decide +kernel⟩
theorem C9n {w:World} {s:ak} {mg mb:Str->Option Value} {scr:Addr} {items:Array Value} (H:Hd w s mg mb) (hl:s.heap.IsList scr items) (hi:items.size=0∨∃ x t,items[0]?=some (.int x t)):
  codeAny (model pw w) callerA (.call (.ref (fAl.getD 127 0)) ⟨[.ref scr],[]⟩) (λr s'=>r=.ok (.ret (.bool true))/\OldK s.heap s'.heap/\s'.os=s.os/\s'.gens=s.gens) s:=by
 have ho:∃ o:Option Int,(items.size=0/\o=none)∨(∃ x t,items[0]?=some (.int x t)/\0 < items.size/\o=some x):=by
  rcases hi with h | ⟨x,t,h⟩
  ·exact ⟨none,.inl ⟨h,rfl⟩⟩
  ·exact ⟨some x,.inr ⟨x,t,h,(Array.getElem?_eq_some_iff.mp h).1,rfl⟩⟩
 obtain ⟨o,ho⟩:=ho
 have hs:scr≠191:=λe=>by
  refine E2 hl λob h1 h2 _=>?_; clear hl
  have:=H.keep _ _ (B2c w.params)
  rw [e,this] at h1
  cases h1
  cases h2
 generalize hx:o.getD 0=x
 generalize hw:C3i x=wd
 generalize hoo:D7e x=ow
 have S:A2w (kx w s mg mb scr (o5 (Mf wd ow) x) (L4 (Mf wd ow) x) wd) o:=⟨items,(let ⟨ob,h1,r⟩:=hl; ⟨ob,(A3g hs).trans h1,r⟩),ho⟩
 have KO:=kok (scr:=scr) (rho:=o5 (Mf wd ow) x) (chs:=L4 (Mf wd ow) x) (wide:=wd) H
 have RO:=D1c KO (A8b H) (D6t H (E6q _ _)) (C3n H S (by rw [hx]; rfl)) (tab:=O3) (λk fc _ _ h=>F9u H k fc h) 60
 refine E3m (E7j (κ:=kx w s mg mb scr (o5 (Mf wd ow) x) (L4 (Mf wd ow) x) wd) hw.symm hoo.symm rfl rfl rfl) λa t f s2 hc=>?_
 obtain ⟨es',he⟩:=B7i (E9q wd ow a t f s2)
 have hrun:=RO 127 callerA _ ⟨A0v,st0,s⟩ [.scr] [.ref scr] (.bool true) es' A5t (by decide +kernel) hc (D1l H) (gl0 H) (.cons .scr .nil) he
 refine codeAny_mono hrun λr s' ⟨val,hr,φ',le,inv,hv⟩=>?_
 have hv:A4 _ φ' es'.n s'.heap (.bool true) val:=hv
 cases hv
 refine ⟨hr,⟨λb ob e=>?_,λb ob e=>?_⟩,le.os,le.gens⟩
 ·by_cases hb:b=191
  ·subst hb
   have e0:=H.keep _ _ (B2c w.params)
   rw [e0] at e
   cases e
   obtain ⟨oc,vs,file,tf,flags,tg,inF,text,tt,h1,h2,h3,h4,_⟩:=B9j (F0g w.params)
   have h5:es'.t.get 1=st0.t.get 1:=le.old 1 (by show (1:Nat) < 2; decide)
   refine B5r (inv.obj 1 .tab (h5.trans (by unfold st0; rw [Tr.get_node,if_neg (by decide),if_pos (by decide),Tr.get_node,if_pos (by decide)]))) λ_ e1 ps h6 _=>?_
   have h7:s'.heap.get? 191=some { cls:=.none,data:=.fields ps }:=by
    have e1:φ' 1=191:=e1
    rw [<- e1]; exact h6
   exact .inr (.inl ⟨⟨193,oc,vs,H.keep _ _ h1,h2,h3,h4⟩,rfl,#[],ps,rfl,by rw [Array.empty_append]; exact h7⟩)
  ·exact .inl (inv.base b ob ((A3g hb).trans e))
 ·exact le.live b ⟨ob,e⟩
theorem B1x {R:WRecords} {cl:Str->Option Addr} {h:Heap}:∀ {l:List Value} {xs:List WData} {as:List Addr},ReadsAllW R cl h l xs as->WShape.hasItems R xs .int=true->l=[]∨∃ x t,l[0]?=some (.int x t)
 | _,_,_,.nil,_=>.inl rfl
 | _,_,_,.cons (d:=d) q1 q2,hx=>by
  obtain ⟨k,rfl⟩:=C4j (R:=R) (d:=d) (bX.mp (by unfold WShape.hasItems at hx; exact hx)).1
  cases q1
  exact .inr ⟨_,_,rfl⟩
theorem B2g (xs:List WData):rW.row.claim.post [.list xs] (.bool true) [.list xs]=true:=by kernel_rfl
theorem A8x (xs:List WData) (cls:ExcName):rW.row.claim.raises [.list xs] cls=false:=by kernel_rfl
theorem F9z:WalkX qv B6 (λ_ _=>True) Shared.heap (λw=>hT w.params) rW.row.toRowW A6h [] λf vs=>PySem.call f vs:=by
 intro w s₀ s₁ mg mb G Y a o pm cd doc dV kV h1 h2 h3 h4 hm hg args vals as L hpre hlay R Wl hsys
 have H:=F0c G Y L.keeps
 refine C5 (B5j (pre_splitW hpre).1) λxs q79' hxs=>?_; subst q79'
 cases R with
 | cons r1 r2=>
  rename_i v vs as bs
  cases r2
  refine C1o (readsW_list_inv r1) λscr items as' q80' hl hall _=>?_; subst q80'
  have hi:items.size=0∨∃ x t,items[0]?=some (.int x t):=by
   rcases B1x hall hxs with q | ⟨x,t,q⟩
   ·exact .inl (by rw [<- am,q]; rfl)
   ·exact .inr ⟨x,t,by rw [<- Array.getElem?_toList]; exact q⟩
  have ha:a=fAl.getD 127 0:=by
   rw [A2l H,D9y] at hm
   cases hm; rfl
  subst ha
  refine wpAny_call (codeAny_mono (C9n H hl hi) λr s' ⟨h5,h6,h7,h8⟩=>?_)
  subst h5
  exact ⟨.inl ⟨_,.bool true,[],rfl,λcls=>A8x xs cls,.bool true,B2g xs,unshared_nil⟩,h6,h7,.of_eq (h8.trans hg)⟩
theorem F1b:rW.row.wellSaid=true:=by
 have h:=ws
 unfold OpenLaw.wellSaid at h
 iterate 18 (replace h:=(bX.mp h).1)
 exact h
theorem fin:rW.Holds:=
 ⟨ws,holds_openX left (λ_ _=>trivial) (λ_ _ _ _ _=>trivial) F4q F4j hkw (λ_ _=>recFacts_nil D9i) (by kernel_rfl) F1b hok ⟨rfl,rfl,rfl,rfl,rfl,F9j⟩ D9q F9z⟩
end Mine
theorem PySem.Challenge.cw_up0061_01_holds : PySem.Challenge.rw_up0061_01.Holds := by
 exact Mine.fin
