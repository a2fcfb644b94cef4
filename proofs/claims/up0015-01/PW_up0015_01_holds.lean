import PyProof.Rows.All
import Wide.All
import OpenK.AllK
import Wide.FinOn
import PySem.Syntax
import PyProof.EqLayable
import PySem.Builtin.Int.W1All
import PySem.Challenge.RW_up0015_01
set_option Elab.async false
set_option genSizeOf false
set_option genInjectivity false
set_option genCtorIdx false
set_option compiler.extract_closed false
set_option tactic.hygienic false
set_option linter.all false
set_option maxRecDepth 1000000
set_option maxHeartbeats 0
noncomputable section
section
namespace Mine
open PySem PySem.W PyProof.Rows PySem.Calls
abbrev YN:=@Bool.and_eq_true_iff
abbrev YO:=@List.all_eq_true
abbrev YQ:=@List.mem_append_left
abbrev YR:=@List.mem_singleton
abbrev YS:=@List.mem_cons
abbrev YT:=@wpAny_bind
abbrev YU:=@Nat.le_trans
abbrev YV:=@congrArg
abbrev YW:=@Bool.and_eq_true
abbrev YX:=@Nat.le_of_ble_eq_true
abbrev YY:=@Nat.eq_of_beq_eq_true
abbrev YZ:=@Option.some.inj
abbrev Y0:=@List.mem_append_right
abbrev Y1:=@PySem.W.Fast.te2368527892694137696
abbrev Y2:=@List.not_mem_nil
abbrev Y3:=@PySem.W.Fast.te14364793385576792824
abbrev Y4:=@Nat.le_add_right
abbrev Y5:=@List.map_cons
abbrev Y6:=@List.map_append
abbrev Y7:=@wpAny_pure
abbrev Y8:=@List.mem_append
abbrev Y9:=@Nat.lt_of_lt_of_le
abbrev Za:=@PySem.W.Fast.te10110043849684766642
abbrev Zb:=@List.append_nil
abbrev Zc:=@List.nodup_cons
abbrev Zd:=@Nat.le_refl
abbrev Ze:=@Nat.add_le_add_left
abbrev Zf:=@List.mem_cons_of_mem
abbrev Zg:=@List.length_append
abbrev Zh:=@Nat.zero_le
abbrev Zi:=@List.nodup_append
abbrev Zj:=@List.mem_map
abbrev Zk:=@List.isEmpty_iff
abbrev Zl:=@or_false
abbrev Zm:=@List.mem_map_of_mem
abbrev Zn:=@decide_eq_true
abbrev Zo:=@PySem.W.Fast.te3471404346716756564
abbrev Zp:=@Nat.lt_of_le_of_lt
abbrev Zq:=@Int.fmod_nonneg_of_pos
abbrev Zr:=@Int.le_trans
abbrev Zs:=@if_neg
abbrev Zt:=@of_decide_eq_true
abbrev Zu:=@List.length_map
abbrev Zv:=@Prod.mk.injEq
abbrev Zw:=@Int.toNat_of_nonneg
abbrev Zx:=@decide_eq_false
abbrev Zy:=@Nat.le_succ
abbrev Zz:=@Nat.add_comm
abbrev ZA:=@Int.zero_add
abbrev ZB:=@Bool.or_eq_true_iff
abbrev ZC:=@Nat.succ_le_succ
abbrev ZD:=@List.cons_append
abbrev ZE:=@wpAny_holding
abbrev ZF:=@Nat.add_assoc
abbrev ZG:=@List.nil_append
abbrev ZH:=@Nat.ble_eq_true_of_le
abbrev ZI:=@Int.ofNat_le
abbrev ZJ:=@Int.fmod_lt_of_pos
abbrev ZK:=@PySem.intKind_is
abbrev ZL:=@Heap.get?_push_of_some
abbrev ZM:=@Nat.le_succ_of_le
abbrev ZN:=@Int.le_refl
abbrev ZO:=@PySem.W.Fast.te16421684217811934046
abbrev ZP:=@Nat.ne_of_gt
abbrev ZQ:=@Nat.add_right_comm
abbrev ZR:=@Int.natCast_nonneg
abbrev ZS:=@Nat.add_sub_cancel_left
abbrev ZT:=@Bool.or_eq_true
abbrev ZU:=@if_pos
abbrev ZV:=@decide_eq_true_iff
abbrev ZW:=@wpAny_standAt
abbrev ZX:=@Nat.lt_irrefl
abbrev ZY:=@List.getElem?_eq_getElem
abbrev ZZ:=@Heap.lt_size
abbrev Z0:=@congrFun
abbrev Z1:=@Int.add_le_add_right
abbrev Z2:=@cond_true
abbrev Z3:=@Nat.ne_of_lt
abbrev Z4:=@Nat.ne_of_beq_eq_false
abbrev Z5:=@Heap.get?_update_other
abbrev Z6:=@PySem.W.Fast.te18344453789297297638
abbrev Z7:=@PySem.W.Fast.te17119622794617984870
abbrev Z8:=@PySem.W.Fast.te10792542408131684335
abbrev Z9:=@List.all_cons
abbrev zaa:=@PySem.strKind_is
abbrev zab:=@Nat.sub_add_cancel
abbrev zac:=@Nat.le_of_lt
abbrev zad:=@List.append_assoc
abbrev zae:=@Bool.or_eq_false_iff
abbrev zaf:=@Int.add_assoc
abbrev zag:=@beq_eq_false_iff_ne
abbrev zah:=@Nat.mul_le_mul_left
abbrev zai:=@segRun_of
abbrev zaj:=@piece_app
abbrev zak:=@Ne.symm
abbrev zal:=@Nat.le_of_eq
abbrev zam:=@Int.add_zero
abbrev zan:=@Nat.le_add_left
abbrev zao:=@wpAny_loadPart_at
abbrev zap:=@Nat.lt_succ_of_le
abbrev zaq:=@Nat.add_sub_of_le
abbrev zar:=@Int.le_of_lt_add_one
abbrev zas:=@Nat.lt_add_right
abbrev zat:=@Option.isNone_iff_eq_none
abbrev zau:=@Nat.lt_of_add_lt_add_left
abbrev zav:=@Nat.add_lt_add_left
abbrev zaw:=@Heap.get?_push_size
abbrev zax:=@List.range_succ
abbrev zay:=@Heap.dictOf_iff
abbrev zaz:=@PySem.W.Fast.te6984425678791042302
abbrev zaA:=@PySem.W.Fast.te5923862056798008813
abbrev zaB:=@PySem.W.Fast.te5318747976498570220
abbrev zaC:=@Nat.not_le
abbrev zaD:=@List.contains_cons
abbrev zaE:=@Int.lt_of_le_of_lt
abbrev zaF:=@Bool.false_ne_true
abbrev zaG:=@wpAny_newObj_type
abbrev zaH:=@wpAny_Call_ofName
abbrev zaI:=@List.take_of_length_le
abbrev zaJ:=@Int.add_comm
abbrev zaK:=@Heap.get?_update_self
abbrev zaL:=@Nat.lt_succ_self
abbrev zaM:=@Nat.le_of_not_le
abbrev zaN:=@Int.not_le
abbrev zaO:=@Bool.not_eq_true
abbrev zaP:=@List.cons.inj
abbrev zaQ:=@wpAny_field
abbrev zaR:=@Prod.mk.inj
abbrev zaS:=@Nat.add_le_add_right
abbrev zaT:=@Nat.not_lt_zero
abbrev zaU:=@List.find?_cons
abbrev zaV:=@wpAny_isSubtype_exc
abbrev zaW:=@Nat.succ.inj
abbrev zaX:=@slot_tuple_getitem
abbrev zaY:=@cond_false
abbrev zaZ:=@beq_iff_eq
abbrev zba:=@Nat.add_le_add
abbrev zbb:=@List.mem_range
abbrev zbc:=@Int.add_nonneg
abbrev zbd:=@Array.getElem?_eq_some_iff
abbrev zbe:=@wpAny_truthy_bool
abbrev zbf:=@decide_eq_true_eq
abbrev zbg:=@F.slot_tuple_hash
abbrev zbh:=@PySem.F.slot_str_getitem
abbrev zbi:=@List.any_cons
abbrev zbj:=@Bool.false_or
abbrev zbk:=@tail_any
abbrev zbl:=@beq_self_eq_true
abbrev zbm:=@List.lookup_cons
abbrev zbn:=@List.length_cons
abbrev zbo:=@List.any_eq_true
abbrev zbp:=@wpAny_call
abbrev zbq:=@Nat.zero_add
abbrev zbr:=@Nat.succ_pos
abbrev zbs:=@Nat.not_lt
abbrev zbt:=@Nat.lt_of_succ_lt_succ
abbrev zbu:=@Nat.le_of_succ_le_succ
abbrev zbv:=@Nat.blt_eq
abbrev zbw:=@Int.ofNat_lt
abbrev zbx:=@wpAny_specialOf
abbrev zby:=@wpAny_execs_nil
abbrev zbz:=@Nat.min_eq_left
abbrev zbA:=@List.length_nil
abbrev zbB:=@Nat.eq_sub_of_add_eq
abbrev zbC:=@List.filterMap_cons
abbrev zbD:=@PySem.W.Fast.te17095254045102204799
abbrev zbE:=@PySem.W.Fast.te12879404354523853263
abbrev zbF:=@Bool.or_false
abbrev zbG:=@wpAny_Constant_str
abbrev zbH:=@PySem.W.Fast.te9572597257264208301
abbrev zbI:=@PySem.W.Fast.te8326940854005059898
abbrev zbJ:=@List.mem_filterMap
abbrev zbK:=@Int.not_lt
abbrev zbL:=@Int.lt_or_eq_of_le
abbrev zbM:=@Heap.IsSliceOf.new
abbrev zbN:=@Array.forIn_toList
abbrev zbO:=@PySem.W.Fast.te797321630700447069
end Mine
end
section
namespace Mine
section Head
open PySem PySem.W PyProof.Rows PySem.Calls
namespace Hd
noncomputable abbrev pw:Program:=PySem.Challenge.pw_up0015_01
def sA:String:="framerune.sourcecore"
def sB:String:="__static_attributes__"
def sC:String:="__firstlineno__"
def sD:String:="__module__"
def sE:String:="__qualname__"
def sF:String:="framerune.kinds"
def sG:String:="law_up0015_01"
def sH:String:="__init__"
def sI:String:="__doc__"
def sJ:String:="__dict__"
def sK:String:="__weakref__"
def ee:String:="framerune.mbase"
def kR:String:="framerune.mmem"
def uo:String:="framerune.faults"
def dz:String:="self"
def Ak:String:="framerune.values"
def Ek:String:="framerune.store"
def Ej:String:="framerune.heap"
def lr:String:="value"
def rq:String:="number"
def yk:String:="__name__"
def Ei:String:="closed_ref"
def nq:String:="name"
def Eh:String:="throw_new"
def KU:String:="framerune.places"
def Iq:String:="/claim/cut.py"
def kQ:String:="run"
noncomputable def z (x:String):Str:=Str.ofString x
noncomputable def s (x:String) (t:Nat):Value:= .str (Str.ofString x) t
noncomputable def a {α:Type} (l:List α):Array α:=l.toArray
def e(P:Params)(x:String)(t:Nat)(v:Value):DictEntry:=⟨PyData.keyHash P (Str.ofString x), .str (Str.ofString x) t,v⟩
def eS(P:Params)(x:String)(t:Nat)(y:String)(u:Nat):DictEntry:=e P x t (s y u)
def eI(P:Params)(x:String)(t:Nat)(y:Int)(u:Nat):DictEntry:=e P x t (.int y u)
def eR(P:Params)(x:String)(t y:Nat):DictEntry:=e P x t (.ref y)
def di(n:Nat)(l:List DictEntry):Obj:=⟨.type "dict",none, .dict (a l) n,#[]⟩
noncomputable def tu (l:List Value):Obj:=⟨.type "tuple",none, .seq l.toArray 0,#[]⟩
def cl(i:Nat):Stmt:=(behindTheImports pw).getD i default
noncomputable def fV (s:Stmt):Arguments×List Stmt×Scope×Pos:=s.casesOn (λ_ x b _ _ _ s _ _ p=>(x,b,s,p)) (λ_ _ _ _ _ _ _ _ _ _=>default) (λ_ _ _ b _ _ _ _ _ _ _=>(default,b,default,default)) (λ_ _=>default) (λ_ _=>default) (λ_ _ _=>default) (λ_ _ _ _ _ _ _=>default) (λ_ _ _ _=>default) (λ_ _ _ _ _=>default) (λ_ _ _ _ _=>default) (λ_ _ _ _ _=>default) (λ_ _ _ _=>default) (λ_ _ _ _=>default) (λ_ _ _=>default) (λ_ _ _=>default) (λ_ _ _=>default) (λ_ _ _=>default) (λ_ _ _ _ _=>default) (λ_ _ _ _ _=>default) (λ_ _ _=>default) (λ_ _=>default) (λ_ _ _ _=>default) (λ_ _=>default) (λ_ _=>default) (λ_ _=>default) (λ_=>default) (λ_=>default) (λ_=>default)
def mc(i j:Nat):Stmt:=(fV (cl i)).2.1.getD j default
def fA(s:Stmt):Arguments:=(fV s).1
def fB(s:Stmt):List Stmt:=(fV s).2.1
def fS(s:Stmt):Scope:=(fV s).2.2.1
def fo(st:Stmt)(n q:String)(g:Addr)(dV kV doc pm:Value)(an:Option Addr)(cd ct:Value)(b:Addr):FuncData:={name:=Str.ofString n,qualname:=Str.ofString q,params:=fA st,body:= .stmts (fB st),scope:=fS st,globals:=g,closure:= [],defaults:=dV,kwdefaults:=kV,doc:=doc,pyModule:=pm,annotations:=an,code:=cd,closureTuple:=ct,builtins:=b}
abbrev N(o:Obj)(l r:BT):BT:= .node o l r
abbrev L(o:Obj):BT:= .node o .nil .nil
abbrev E:BT:= .nil
def an:Option Value:=some (.ref 6)
def en:Env:={scope:=pw.main.scope,locals:=mainNs,globals:=mainNs,cells:= [],code:= .ref 13,frame:=some 14}
def cE:Code:= .body (behindTheImports pw) en
noncomputable def bB:List Frame:= [topFrame ⟨0,0,0,0⟩]
def ha(x1:String)(x2:Nat)(x7:Int)(GS:Nat)(yh:Int):Obj:=⟨.type "code",none,(.fields (a [s x1 x2,s x1 (x2+1),s Iq (x2+2), .int x7 0, .int 0 0, .int 0 0, .int 0 0, .int 0 0, .ref GS, .bool false, .int 181 0, .ref (GS+1), .none, .none, .none, .none, .int yh 0, .int x7 0,s Iq (x2+4)])),#[]⟩
def hb(x1:Nat)(x3:Nat)(x4:String)(x5:Nat):Obj:=⟨.type "frame",none, .plain,a [some (.ref x1),some (.ref 3),some (.ref x3),none,some (s x4 x5),none,some (.ref 0)]⟩
def hc(x0:Nat)(x1:String):Obj:=⟨.none,none,(.func (fo (cl x0) x1 x1 0 .none .none .none .none none .none .none 0)),#[]⟩
def hd(x1:String)(x2:Nat)(x3:String)(x7:Int)(x9:Int)(GS:Nat)(OU:Int)(UK:Nat):Obj:=⟨.type "code",none,(.fields (a [s x1 x2,s x3 (x2+1),s Iq (x2+2), .int x7 0, .int x9 0, .int 0 0, .int 0 0, .int 3 0, .ref GS, .bool true, .int 181 0, .ref (GS+1), .none, .ref (GS+2), .ref (GS+3), .ref (GS+4), .int OU 0, .int x7 0,s Iq UK])),#[]⟩
def he(x1:Nat)(x2:String)(x5:String)(x6:Nat)(x7:Nat):Obj:=⟨.type "function",none,(.func (fo (cl x1) x2 x2 3 .none .none .none (s x5 x6) none (.ref x7) .none 0)),#[]⟩
def hf:Obj:=⟨.type "builtin_function_or_method",none,(.fields (a [.builtin "type.__prepare__", .type "type"])),#[]⟩
def hg(x0:Int)(x4:Nat):Obj:=⟨.none,none,(.fields (a [.int x0 0, .int 4 0, .ref x4])),#[]⟩
def hh(x0:Nat)(x1:Nat)(x2:String)(x3:String):Obj:=⟨.none,none,(.func (fo (mc x0 x1) x2 x3 0 .none .none .none .none none .none .none 0)),#[]⟩
def hi(x1:Nat)(x2:Nat)(x3:String)(x4:String)(x6:String)(x7:Nat)(x8:Nat):Obj:=⟨.type "function",none,(.func (fo (mc x1 x2) x3 x4 3 .none .none .none (s x6 x7) none (.ref x8) .none 0)),#[]⟩
def hj(x2:Nat)(x3:Nat):Obj:=⟨.type "getset_descriptor",none,(.fields (a [s sK x2, .ref x3, .builtin "ExceptionGroup.__weakref__", .none])),#[]⟩
def hk(x1:Nat):Obj:=⟨.type "super",none,(.fields (a [.ref x1, .ref x1, .ref x1])),#[]⟩
def hl(x2:Nat):Obj:=⟨.type "builtin_function_or_method",none,(.fields (a [.builtin "object.__init_subclass__", .ref x2])),#[]⟩
def hm(x1:String)(x3:Nat)(x8:Nat)(OV:Nat)(SJ:Nat):Obj:=⟨.type "type",none,(.cls ⟨z x1, [.ref 38], [.ref x3, .ref 38, .type "Exception", .type "BaseException", .type "object"],x8,z x1,true, [], [],false,none,false⟩),a [some (.ref OV),none,some (s x1 SJ),some (s x1 (SJ+8)),some (.builtin "Exception.__new__"),some (.bool true)]⟩
def hn(x1:String)(x3:Nat)(x5:Nat)(x8:Nat):Obj:=⟨.type "type",none,(.cls ⟨z x1, [.type "object"], [.ref x3, .type "object"],x5,z x1,true, [], [],false,none,false⟩),a [none,none,some (s x1 x8),some (s x1 (x8+8)),some (.builtin "object.__new__"),some (.bool true)]⟩
def ho(x2:Nat)(x3:Nat):Obj:=⟨.type "getset_descriptor",none,(.fields (a [s sJ x2, .ref x3, .builtin "function.__dict__", .builtin "function.__dict__#set"])),#[]⟩
def hp(x1:String)(x3:Nat)(x6:Nat)(x8:Nat)(OV:Nat):Obj:=⟨.type "type",none,(.cls ⟨z x1, [.ref 925], [.ref x3, .ref 925, .type "object"],x6,z x1,true, [], [],false,none,false⟩),a [some (.ref x8),none,some (s x1 OV),some (s x1 (OV+8)),some (.builtin "object.__new__"),some (.bool true)]⟩
noncomputable def sv:List String->Nat->List Value| [],_=> []|x::l,t=>s x t::sv l (t+1)
def ts(t:Nat)(l:List String):Obj:=tu (sv l t)
def n8(x:String)(t:Nat):Obj:=tu [s x t]
def aj:Obj:=tu []
noncomputable def KM:List Value:= []
def aK:Obj:=⟨.none,none,(.fields (a [])),#[]⟩
def P3:Obj:=ha "<module>" 182 1 11 185
def P2:Obj:=hb 13 3 "__main__" 164
def Ha(P:Params):Heap:=⟨⟨[boot_o_0 P,boot_o_1 P,boot_o_2 P,boot_o_3 P,boot_o_4 P,boot_o_5 P,boot_o_6 P,boot_o_7 P,boot_o_8 P,boot_o_9 P,boot_o_10 P,aj,aK,P3,P2]⟩,{}⟩
def Sa(w:World)(os:OsState):Shared:=⟨Ha w.params,⟨[]⟩,{},187,os⟩
def t0(P:Params):BT:=(N (boot_o_0 P) (N (boot_o_1 P) (N (boot_o_3 P) (L (boot_o_7 P)) (L aj)) (N (boot_o_5 P) (L (boot_o_9 P)) (L P3))) (N (boot_o_2 P) (N (boot_o_4 P) (L (boot_o_8 P)) (L aK)) (N (boot_o_6 P) (L (boot_o_10 P)) (L P2))))
def S0(w:World)(os:OsState):SharedT:=⟨t0 w.params,15,{},⟨[]⟩,{},187,os⟩
def Lu(P:Params):Obj:=⟨.none,none,(.dict (a [eI P "type.__subclasses__.Exception.0" 233 38 0,eI P "type.__subclasses__.Exception.n" 234 1 0]) 2),#[]⟩
def Ig(P:Params):List DictEntry:= [e P sI 166 .none,e P "__package__" 167 .none,e P "__loader__" 168 (.builtin "__main__.__loader__#opaque"),e P "__spec__" 169 .none,eR P "__annotations__" 170 6,eR P "__builtins__" 171 4,eS P "__file__" 173 Iq 172,e P "__cached__" 174 .none,eR P "_wall" 193 21,eI P "LF_NOTYPE" 197 1 196,eI P "LF_ENUM" 199 12 198,eI P "W_SLOT" 201 1 200,eI P "W_EMPTY" 203 2 202,eI P "W_KIND" 205 5 204,eR P "RuneError" 236 38,eR P "BadKind" 252 51,eR P "LoadFault" 268 63,eR P "RunBound" 284 75,eR P "LeftOut" 300 87,eI P "VOID" 304 0 303,eI P "BOOL" 306 1 305,eI P "CHAR" 308 2 307,eI P "I1" 310 3 309,eI P "U1" 312 4 311,eI P "I2" 314 5 313,eI P "U2" 316 6 315,eI P "I4" 318 7 317,eI P "U4" 320 8 319,eI P "I8" 322 9 321,eI P "U8" 324 10 323,eI P "NINT" 326 11 325,eI P "OBJECT" 328 12 327,eI P "STRING" 330 13 329,eI P "NULLK" 332 14 331,eI P "PRIM_END" 334 16 333,eI P "R_PRIM" 336 1 335,eI P "R_CLASS" 338 2 337,eI P "R_VALUE" 340 3 339,eI P "R_ARRAY" 342 4 341,eI P "R_BYREF" 344 5 343,eI P "R_VAR" 346 6 345,eI P "R_MVAR" 348 7 347,eI P "R_BOXED" 350 8 349,eI P "R_ROREF" 352 9 351,eI P "R_FTN" 354 10 353,eI P "R_RAW" 356 11 355,eI P "DEEPEST_KIND" 358 24 357,eI P "HEAVIEST_KIND" 360 4096 359]
def CE:List Value:=KM++([.int 0 0, .ref 20, .int 10 0, .int 0 0, .ref 27, .int 15 0, .int 0 0, .ref 47, .int 17 0, .int 0 0, .ref 59, .int 19 0, .int 0 0, .ref 71, .int 21 0, .int 0 0, .ref 83]:List Value)
def P1:Obj:=⟨.none,none,(.fields (a (.int 1 0::CE))),#[]⟩
def P0:Obj:=tu [.type "Exception"]
def jd:Obj:=hf
def Pb:Obj:=tu [.ref 38]
def Ie(P:Params):List DictEntry:=Ig P++([eR P "PRIM_TID" 389 90]:List DictEntry)
def Id(P:Params):List DictEntry:=Ie P++([eR P "TID_PRIM" 418 91]:List DictEntry)
def Ic(P:Params):List DictEntry:=Id P++([eI P "ARRAY_TID" 420 5 419,eR P "KindTable" 477 122,eR P "inner_kinds" 485 133,eR P "row_level" 492 140,eR P "row_length" 499 147,eR P "check_kind_row" 509 154,eR P "check_named" 517 161,eR P "check_args" 526 168,eR P "may_stand" 535 175,eR P "kind_sort" 543 182,eR P "elem_of" 552 189,eR P "tid_of" 561 196,eR P "args_of" 570 203,eR P "is_value" 578 210,eR P "is_var" 587 217,eR P "is_int" 594 224,eI P "S_STRUCT" 598 2 597,eI P "S_ENUM" 600 5 599,eI P "VA_NONE" 602 0 601,eI P "T_NULLABLE" 604 8 603,eI P "T_NULLREF" 606 21 605,eI P "T_CAST" 608 23 607]:List DictEntry)
def CD:List Value:=CE++([.int 56 0, .int 0 0, .ref 97, .int 105 0, .int 0 0, .ref 132, .int 114 0, .int 0 0, .ref 139, .int 118 0, .int 0 0, .ref 146, .int 124 0, .int 0 0, .ref 153, .int 146 0, .int 0 0, .ref 160, .int 150 0, .int 0 0, .ref 167, .int 154 0, .int 0 0, .ref 174, .int 159 0, .int 0 0, .ref 181, .int 161 0, .int 0 0, .ref 188, .int 166 0, .int 0 0, .ref 195, .int 175 0, .int 0 0, .ref 202, .int 180 0, .int 0 0, .ref 209, .int 184 0, .int 0 0, .ref 216, .int 187 0, .int 0 0, .ref 223]:List Value)
def Ib(P:Params):List DictEntry:=Ic P++([eR P "TypeDef" 662 241,eR P "Store" 696 262,eR P "type_of" 705 273,eI P "V_I4" 709 1 708,eI P "V_I8" 711 2 710,eI P "V_NINT" 713 3 712,eI P "V_REF" 715 4 714,eI P "V_STRUCT" 717 5 716,eI P "V_PLACE" 719 6 718,eI P "V_FTN" 721 7 720,eI P "V_TEXT" 723 8 722,eR P "NULLV" 726 274,e P "NO_TAG" 729 (.int (-1) 728),eI P "PL_HEAP" 731 3 730,eR P "wrap_bits" 739 281,eR P "wrap32" 746 288,eR P "wrap64" 753 295,eR P "plain_kind" 762 302,eR P "plain_default" 769 309,eR P "cut_to" 777 316,eR P "store_as" 787 323,eR P "tag_of" 795 330,eR P "tag_of_row" 802 337,eR P "fits" 812 344,eR P "put_path" 826 351,eI P "S_BLOCK" 828 3 827,eI P "MOST_NESTED" 832 870 831,eS P "SAY_NULL" 834 "Object reference not set to an instance of an object." 833]:List DictEntry)
def CC:List Value:=CD++([.int 196 0, .int 0 0, .ref 230, .int 222 0, .int 0 0, .ref 251, .int 232 0, .int 0 0, .ref 272, .int 249 0, .int 0 0, .ref 280, .int 254 0, .int 0 0, .ref 287, .int 256 0, .int 0 0, .ref 294, .int 258 0, .int 0 0, .ref 301, .int 269 0, .int 0 0, .ref 308, .int 277 0, .int 0 0, .ref 315, .int 289 0, .int 0 0, .ref 322, .int 295 0, .int 0 0, .ref 329, .int 305 0, .int 0 0, .ref 336, .int 315 0, .int 0 0, .ref 343, .int 326 0, .int 0 0, .ref 350]:List Value)
def GZ(P:Params):Obj:=⟨.none,none,(.dict (a [eI P "type.__subclasses__.Exception.0" 233 38 0,eI P "type.__subclasses__.Exception.n" 234 3 0,eI P "type.__subclasses__.Exception.1" 864 368 0,eI P "type.__subclasses__.Exception.2" 893 388 0]) 4),#[]⟩
def Ia(P:Params):List DictEntry:=Ib P++([eR P "Thrown" 867 368,eR P "Unheld" 896 388,eR P "Item" 933 408,eR P "Special" 972 436,eR P "Guard" 1005 457,eR P "Splits" 1034 478,eR P "Begins" 1064 499,eR P "Calls" 1103 527]:List DictEntry)
def CB:List Value:=CC++([.int 342 0, .int 0 0, .ref 357, .int 348 0, .int 0 0, .ref 377, .int 352 0, .int 0 0, .ref 397, .int 362 0, .int 0 0, .ref 418, .int 369 0, .int 0 0, .ref 446, .int 375 0, .int 0 0, .ref 467, .int 379 0, .int 0 0, .ref 488, .int 383 0, .int 0 0, .ref 509]:List Value)
def H9(P:Params):List DictEntry:=Ia P++([eR P "Plot" 1225 604,eR P "count_step" 1232 615,eR P "go_deeper" 1241 622,eR P "next_number" 1248 629,eR P "eval_expr" 1260 636,eR P "kind_in" 1269 643,eR P "layout_in" 1277 650,eR P "is_question" 1285 657,eR P "new_item" 1295 664,eR P "block_number" 1302 671,eR P "block_lids" 1313 678,eR P "begin_block" 1322 685,eR P "lay_cells" 1332 692,eR P Eh 1341 699,eR P "throw_nothing" 1348 706,eR P "throw_item" 1359 713,eR P "row_taking" 1373 720,eR P "when_says" 1387 727,eR P "push_guard" 1397 734,eR P "drop_guards" 1405 741]:List DictEntry)
def CA:List Value:=CB++([.int 390 0, .int 0 0, .ref 537, .int 441 0, .int 0 0, .ref 614, .int 445 0, .int 0 0, .ref 621, .int 451 0, .int 0 0, .ref 628, .int 454 0, .int 0 0, .ref 635, .int 463 0, .int 0 0, .ref 642, .int 465 0, .int 0 0, .ref 649, .int 467 0, .int 0 0, .ref 656, .int 469 0, .int 0 0, .ref 663, .int 473 0, .int 0 0, .ref 670, .int 477 0, .int 0 0, .ref 677, .int 486 0, .int 0 0, .ref 684, .int 493 0, .int 0 0, .ref 691, .int 496 0, .int 0 0, .ref 698, .int 498 0, .int 0 0, .ref 705, .int 500 0, .int 0 0, .ref 712, .int 513 0, .int 0 0, .ref 719, .int 524 0, .int 0 0, .ref 726, .int 536 0, .int 0 0, .ref 733, .int 540 0, .int 0 0, .ref 740]:List Value)
def H8(P:Params):List DictEntry:=H9 P++([eR P "item_is" 1416 748,eR P "is_struct" 1426 755,eR P "is_composed" 1434 762,eR P "default_of" 1446 769,eR P "default_parts" 1452 774,eS P "SAY_CAST" 1456 "Specified cast is not valid." 1455,eR P "put_value_at" 1472 781,eR P "box_value" 1481 788,eR P "unbox_value" 1492 795,eR P "from_reference" 1501 802,eI P "FIRST_ADDRESS" 1505 16 1504,eI P "HEAD_WORDS" 1507 2 1506,eI P "LEAST_SIZE" 1509 3 1508,eR P "words_for" 1516 809,eR P "Thing" 1552 826,eR P "Heap" 1593 847,eR P "heap_alloc" 1603 858]:List DictEntry)
def Cz:List Value:=CA++([.int 542 0, .int 0 0, .ref 747, .int 552 0, .int 0 0, .ref 754, .int 554 0, .int 0 0, .ref 761, .int 556 0, .int 0 0, .ref 768, .int 568 0, .int 0 0, .ref 773, .int 579 0, .int 0 0, .ref 780, .int 592 0, .int 0 0, .ref 787, .int 600 0, .int 0 0, .ref 794, .int 616 0, .int 0 0, .ref 801, .int 626 0, .int 0 0, .ref 808, .int 630 0, .int 0 0, .ref 815, .int 639 0, .int 0 0, .ref 836, .int 654 0, .int 0 0, .ref 857]:List Value)
def CI(P:Params):List DictEntry:=H8 P++([eR P "PlaceHost" 1638 875,eR P "heap_place" 1646 886,e P "JP_FALL" 1651 (.int (-1) 1650),e P "JP_STAY" 1654 (.int (-2) 1653),eI P "ST_RUN" 1656 0 1655,eI P "ST_WRONG" 1658 3 1657,eS P "TEXT_NULL" 1660 "Object reference not set to an instance of an object." 1659,eR P "LOST" 1663 887,eR P "Frame" 1710 904,eR P "Op" 1740 925,eR P "Starter" 1789 960,eR P "KindCloser" 1829 988]:List DictEntry)
def yd:List Value:=Cz++([.int 664 0, .int 0 0, .ref 864, .int 670 0, .int 0 0, .ref 885, .int 679 0, .int 0 0, .ref 893, .int 697 0, .int 0 0, .ref 914, .int 701 0, .int 0 0, .ref 935, .int 711 0, .int 0 0, .ref 970]:List Value)
def Tg:Obj:=hn "Op" 925 924 1711
def CH(P:Params):List DictEntry:=CI P++([eR P "Tray" 2007 1114,eR P "note_thrown" 2015 1125,eR P "told_row" 2024 1132,eR P "told_default" 2033 1139,eR P "tell_wrong" 2044 1146,eR P "pop_value" 2052 1153,eR P "stored" 2062 1160,eR P "first_slots" 2074 1167,eI P "OP_UNBOX" 2076 121 2075,eI P "OP_BOX" 2078 140 2077,eI P "OP_UNBOX_ANY" 2080 165 2079,eI P "OP_LDTOKEN" 2082 208 2081,eI P "CF_HASVALUE" 2084 6 2083]:List DictEntry)
def yc:List Value:=yd++([.int 718 0, .int 0 0, .ref 998, .int 787 0, .int 0 0, .ref 1124, .int 791 0, .int 0 0, .ref 1131, .int 796 0, .int 0 0, .ref 1138, .int 801 0, .int 0 0, .ref 1145, .int 812 0, .int 0 0, .ref 1152, .int 817 0, .int 0 0, .ref 1159, .int 823 0, .int 0 0, .ref 1166]:List Value)
def CG(P:Params):List DictEntry:=CH P++([eI P "CF_VALUE" 2086 7 2085,eR P "throw_null" 2095 1174,eR P "thing_of" 2104 1181,eS P "TEXT_CAST" 2108 "Specified cast is not valid." 2107,eR P "holds_maybe" 2116 1188,eR P "box_at" 2129 1195,eR P "OpBox" 2155 1212,eR P "boxed_thing" 2165 1221,eR P "nullable_of" 2177 1228,eR P "unbox_cell" 2189 1235,eR P "OpUnbox" 2217 1252]:List DictEntry)
def yb:List Value:=yc++([.int 845 0, .int 0 0, .ref 1173, .int 847 0, .int 0 0, .ref 1180, .int 860 0, .int 0 0, .ref 1187, .int 862 0, .int 0 0, .ref 1194, .int 884 0, .int 0 0, .ref 1201, .int 890 0, .int 0 0, .ref 1220, .int 898 0, .int 0 0, .ref 1227, .int 914 0, .int 0 0, .ref 1234, .int 924 0, .int 0 0, .ref 1241]:List Value)
def O9:Obj:=tu [.ref 925]
def CF(P:Params):List DictEntry:=CG P++([eR P "OpUnboxAny" 2247 1271,eR P "OpToken" 2273 1290,eR P "install_m_objects" 2280 1299,eR P "is_of" 2290 1306,eR P "cast_top" 2300 1313,eR P "_law_NAMES" 2328 1314,eR P "_law_UNDERS" 2337 1315,eR P "_law_EDGES" 2355 1316,eR P "_law_FIRST" 2366 1317,eR P "_law_any" 2374 1324,eR P "_law_refers" 2381 1331,eR P "_law_plain" 2389 1338,eR P "_law_span" 2398 1345,eR P "_law_value" 2410 1352,eR P "_law_source" 2419 1359,eR P "_law_tagged" 2433 1366,eR P "_law_goes" 2442 1373]:List DictEntry)
def ya:List Value:=yb++([.int 939 0, .int 0 0, .ref 1260, .int 957 0, .int 0 0, .ref 1279, .int 962 0, .int 0 0, .ref 1298, .int 967 0, .int 0 0, .ref 1305, .int 970 0, .int 0 0, .ref 1312, .int 983 0, .int 0 0, .ref 1323, .int 991 0, .int 0 0, .ref 1330, .int 993 0, .int 0 0, .ref 1337, .int 995 0, .int 0 0, .ref 1344, .int 998 0, .int 0 0, .ref 1351, .int 1009 0, .int 0 0, .ref 1358, .int 1017 0, .int 0 0, .ref 1365, .int 1032 0, .int 0 0, .ref 1372]:List Value)
def Em:Obj:=⟨.type "type",none,(.cls ⟨z "Op", [.type "object"], [.ref 925, .type "object"],924,z "Op",true, [], [.ref 1212, .ref 1252, .ref 1271, .ref 1290],false,none,false⟩),a [none,none,some (s "Op" 1711),some (s "Op" 1719),some (.builtin "object.__new__"),some (.bool true)]⟩
def KN(P:Params):List DictEntry:=CF P++([eR P "_law_meant" 2452 1380,eR P "_law_boxing" 2461 1387,eR P "_law_tried" 2473 1394,eR P "_law_op" 2487 1401,eR P "_law_box" 2499 1408,eR P "_law_open" 2514 1415,eR P "_law_place" 2532 1422,eR P "_law_write" 2544 1429,eR P "_law_reference" 2552 1436,eR P "_law_aim" 2564 1443,eR P "_law_deed" 2576 1450,eR P "_law_kinds" 2585 1457,eR P "_law_types" 2596 1464,eR P "_law_world" 2611 1471,eR P "_law_settled" 2626 1478,eR P "law" 2635 1485]:List DictEntry)
def GR:List Value:=ya++([.int 1034 0, .int 0 0, .ref 1379, .int 1047 0, .int 0 0, .ref 1386, .int 1057 0, .int 0 0, .ref 1393, .int 1066 0, .int 0 0, .ref 1400, .int 1080 0, .int 0 0, .ref 1407, .int 1087 0, .int 0 0, .ref 1414, .int 1097 0, .int 0 0, .ref 1421, .int 1122 0, .int 0 0, .ref 1428, .int 1133 0, .int 0 0, .ref 1435, .int 1139 0, .int 0 0, .ref 1442, .int 1152 0, .int 0 0, .ref 1449, .int 1168 0, .int 0 0, .ref 1456, .int 1180 0, .int 0 0, .ref 1463, .int 1187 0, .int 0 0, .ref 1470, .int 1219 0, .int 0 0, .ref 1477, .int 1241 0, .int 0 0, .ref 1484]:List Value)
def pr(t:BT):Nat->BT:=t.rec (λ_=> .nil) (λo _ _ f g n=>match n with|0=> .nil|m+1=> .node o (f ((m+1)/2)) (g (m/2)))
def u1(P:Params):BT:=N (hm "LoadFault" 63 62 54 253) (N aj (N (n8 dz 678) (N aj (L (ts 1871 [dz,"k"])) E) (N (hc 129 "default_of") (L (ha "OpToken" 2250 957 1277 2253)) E)) (N (hh 98 0 sH "Unheld.__init__") (N (ts 1264 ["ev","act","k"]) (L (hc 164 "pop_value")) E) (N aj (L (hd "_law_box" 2488 "_law_box" 1080 3 1402 2497 2498)) E))) (N aK (N (ts 781 ["kt","k",lr,"tag"]) (N aK (L aj) E) (N aj (L (hc 198 "_law_span")) E)) (N (hb 446 443 sA 829) (N aj (L aj) E) (N (di 4 [eS P sD 1748 ee 1647,eI P sC 1752 701 1751,eR P "need" 1762 943,eR P "done" 1771 950,eR P "failed" 1781 957,eR P sB 1782 958,eR P sJ 1784 961,eR P sK 1786 962,e P sI 1787 .none]) (L (he 216 "_law_world" sG 2301 1470)) E)))
def u2(P:Params):BT:=N aj (N (hc 50 "check_named") (N (hd "wrap32" 740 "wrap32" 254 1 282 744 745) (N (hh 105 0 sH "Plot.__init__") (L (hi 159 7 "default" "Tray.default" ee 1647 1054)) E) (N aj (L (hc 189 "cast_top")) E)) (N (di 6 [eS P sD 941 sA 829,eS P sE 943 "Special" 942,eI P sC 945 362 944,eR P sH 953 426,eR P "call" 963 433,eR P sB 965 434]) (N (he 114 "block_number" sA 829 670) (L aK) E) (N (hj 1736 925) (L (ts 2556 ["w","i","y","exact","z","beside"])) E))) (N (hd "is_int" 588 "is_int" 187 1 218 592 593) (N (he 92 "put_path" Ak 706 350) (N (hk 604) (L aj) E) (N (hg 666 871) (L aK) E)) (N (ho 1028 478) (N aj (L (hh 184 0 kQ "OpUnbox.run")) E) (L (hk 988))))
def u3(P:Params):BT:=N jd (N (n8 "sort" 496) (N (hc 69 "type_of") (N (hn "Calls" 527 526 1065) (L (hh 159 5 "slot_place" "Tray.slot_place")) E) (N aK (L (n8 "m" 2277)) E)) (N aj (N (hc 112 "is_question") (L (he 166 "first_slots" ee 1647 1166)) E) (N (di 5 [eS P sD 1718 ee 1647,eS P sE 1720 "Op" 1719,eI P sC 1722 697 1721,eR P kQ 1732 922,eR P sB 1733 923]) (L aj) E))) (N aj (N (hc 90 "tag_of_row") (N aj (L (hd Eh 1960 "Tray.throw_new" 782 3 1098 1966 1967)) E) (N (hn "Heap" 847 846 1553) (L (he 200 "_law_source" sG 2301 1358)) E)) (N jd (N (hd "row_taking" 1360 "row_taking" 513 3 714 1371 1372) (L (ts 2181 ["m","f","k","top","maybe","thing"])) E) (L aj)))
def u4(P:Params):BT:=N (hd "row" 442 "KindTable.row" 72 2 106 447 448) (N (he 52 "may_stand" sF 301 174) (N aj (N (hi 105 2 "closed" "Plot.closed" sA 829 558) (L aK) E) (N (ha "Thing" 1519 630 813 1522) (L (n8 nq 2378)) E)) (N (hh 100 1 "call" "Special.call") (N aK (L aj) E) (N (hi 157 0 "need" "Starter.need" ee 1647 942) (L (hc 214 "_law_kinds")) E))) (N (ts 636 ["asm","base","bounds","cctor","events","fields","finaliser","flags","home","ifaces","impls","methods",nq,"params","props","sort","tid","under","variances"]) (N (di 3 [eS P sD 842 sA 829,eI P sC 846 342 845,eR P sH 856 365,eR P sB 860 366,eR P sK 862 369,e P sI 863 .none]) (N aj (L (ts 2028 ["m","k","found"])) E) (N (hl 875) (L aj) E)) (N (hd "begin" 1047 "Begins.begin" 381 4 490 1054 1055) (N (ts 1422 ["ev","k"]) (L aK) E) (L aj)))
def u5(P:Params):BT:=N (ha "RunBound" 271 19 69 274) (N aK (N (ho 690 262) (N aK (L aj) E) (N aj (L (hi 186 0 kQ "OpToken.run" kR 2105 1286)) E)) (N (hl 388) (N aj (L (hd "stored" 2053 "stored" 817 3 1154 2060 2061)) E) (N (di 4 [eS P sD 1671 ee 1647,eI P sC 1675 679 1674,eR P sH 1687 901,eR P sB 1703 902,eR P sJ 1705 905,eR P sK 1707 906,e P sI 1708 .none]) (L (he 208 "_law_open" sG 2301 1414)) E))) (N (ts 565 ["kt","k","row"]) (N aj (N (ts 1171 [dz,"tid","text"]) (L (hh 159 13 "pop" "Tray.pop")) E) (N aK (L (hd "_law_value" 2399 "_law_value" 998 3 1346 2408 2409)) E)) (N (ts 995 ["act",rq,"rows"]) (N (hc 120 "throw_item") (L aK) E) (N (di 6 [eS P sD 1797 ee 1647,eS P sE 1799 "KindCloser" 1798,eI P sC 1801 711 1800,eR P "kind" 1811 978,eR P "ref" 1821 985,eR P sB 1822 986]) (L aj) E)))
def u6:BT:=N (hh 45 0 sH "KindTable.__init__") (N (hd "check_args" 518 "check_args" 150 2 162 524 525) (N (he 84 "wrap64" Ak 706 294) (N (hd "is_a" 1125 "Plot.is_a" 418 3 546 1131 1132) (L aj) E) (N (hc 141 "words_for") (L aK) E)) (N aj (N aj (L (ts 2120 ["m","f","at","k",lr,"slots","thing"])) E) (N (ha "Starter" 1743 701 933 1746) (L aj) E))) (N (hb 230 227 Ek 595) (N aj (N (he 106 "count_step" sA 829 614) (L aK) E) (N (hd sH 1618 "PlaceHost.__init__" 666 4 866 1625 1626) (L (ts 2456 ["w",nq,lr])) E)) (N (hg 381 495) (N aK (L O9) E) (L (hb 998 995 ee 1647))))
def u7(P:Params):BT:=N (hm "LeftOut" 87 86 78 285) (N aj (N (hc 82 "wrap_bits") (N aj (L (hd "target" 1892 "Tray.target" 758 3 1042 1898 1899)) E) (N (ts 1485 ["ev","k",rq,"inner","item"]) (L aj) E)) (N (di 4 [eS P sD 904 sA 829,eI P sC 908 352 907,eR P sH 918 405,eR P sB 926 406,eR P sJ 928 409,eR P sK 930 410,e P sI 931 .none]) (N (hd "new_item" 1286 "new_item" 469 3 658 1293 1294) (L aj) E) (N aj (L aK) E))) (N (hc 58 "is_var") (N (hd "fits" 803 "fits" 315 3 338 810 811) (N (hh 105 8 "seen_as" "Plot.seen_as") (L (hi 159 15 "push_call" "Tray.push_call" ee 1647 1110)) E) (N aj (L aj) E)) (N (ts 1021 [dz,"ev","body"]) (N (he 122 "when_says" sA 829 726) (L aj) E) (L (hh 158 1 "ref" "KindCloser.ref"))))
def u8:BT:=N (hi 45 2 "put" "KindTable.put" sF 301 118) (N aj (N aK (N aj (L (ts 1938 [dz,"kind","count"])) E) (N (hi 142 0 sH "Thing.__init__" Ej 1502 822) (L aj) E)) (N (hk 436) (N (ts 1336 ["ev","tid","text"]) (L (hh 180 0 kQ "OpBox.run")) E) (N aj (L (hd "_law_types" 2586 "_law_types" 1180 2 1458 2594 2595)) E))) (N jd (N aj (N aK (L aj) E) (N (tu [.int 0 1661, .int 0 1662]) (L (hc 206 "_law_op")) E)) (N (hl 499) (N aj (L (hp "OpUnboxAny" 1271 1270 1255 2218)) E) (L aK)))
def u9(P:Params):BT:=N (boot_o_7 P) (N aj (N (ts 221 [dz,"code","at"]) (u1 P) (u2 P)) (N (ha "BadKind" 239 15 45 242) (u3 P) (u4 P))) (N jd (N (hj 230 38) (u5 P) u6) (N jd (u7 P) u8))
def VL(P:Params):BT:=N jd (N (hc 46 "inner_kinds") (N (hi 68 0 sH "Store.__init__" Ek 595 258) (N (hh 104 0 sH "Calls.__init__") (L (hi 159 3 "kinds_of" "Tray.kinds_of" ee 1647 1026)) E) (N aK (L (ts 2263 [dz,"m","f","operand"])) E)) (N (di 3 [eS P sD 875 sA 829,eI P sC 879 348 878,eR P sH 887 385,eR P sB 889 386,eR P sK 891 389,e P sI 892 .none]) (N (he 110 "kind_in" sA 829 642) (L aK) E) (N (hh 155 0 sH "Frame.__init__") (L (ts 2503 ["w",nq,"i","due",lr,"told","got","thrown","put"])) E))) (N (hd "tid_of" 553 "tid_of" 166 2 190 559 560) (N (he 88 "store_as" Ak 706 322) (N (hd "asked" 1160 "Plot.asked" 430 2 574 1165 1166) (L aj) E) (N (hg 641 843) (L aK) E)) (N aj (N aj (L (hc 181 "boxed_thing")) E) (N (hk 960) (L aj) E)))
def VK(P:Params):BT:=N aj (N aK (N (n8 "n" 750) (N aK (L aj) E) (N aj (L (ts 2329 ["i4","u1","i8","u4","u2","i1","u8","i2"])) E)) (N (hb 418 415 sA 829) (N aj (L (hd "holds_maybe" 2109 "holds_maybe" 860 2 1182 2114 2115)) E) (N jd (L (he 212 "_law_aim" sG 2301 1442)) E))) (N (di 5 [eS P sD 616 Ek 595,eS P sE 618 "TypeDef" 617,eI P sC 620 196 619,eR P sH 635 238,eR P sB 655 239]) (N aj (N (n8 "ev" 1229) (L (hc 160 "note_thrown")) E) (N aK (L (hd "_law_meant" 2443 "_law_meant" 1034 3 1374 2450 2451)) E)) (N aj (N (hc 124 "drop_guards") (L (di 2 [eS P sD 2197 kR 2105,eI P sC 2201 924 2200,eR P kQ 2213 1249,eR P sB 2214 1250,e P sI 2215 .none])) E) (L (di 20 [eS P sD 1837 ee 1647,eS P sE 1839 "Tray" 1838,eI P sC 1841 718 1840,eR P sH 1850 1006,eR P "is_a" 1859 1013,eR P "slots_of" 1867 1020,eR P "kinds_of" 1875 1027,eR P "skinds_of" 1883 1034,eR P "slot_place" 1891 1041,eR P "target" 1900 1048,eR P "default" 1908 1055,eR P "plain" 1916 1062,eR P "closed" 1925 1069,eR P Ei 1934 1076,eR P "alloc" 1943 1083,eR P "wrong" 1951 1090,eR P "pop" 1959 1097,eR P Eh 1968 1104,eR P "push_call" 1978 1111,eR P sB 2000 1112]))))
def VJ:BT:=N (ha "LeftOut" 287 21 81 290) (N (he 48 "row_length" sF 301 146) (N aj (N (hl 527) (L aK) E) (N (hd "box_value" 1473 "box_value" 592 3 782 1479 1480) (L (he 187 "install_m_objects" kR 2105 1298)) E)) (N (hh 99 0 sH "Item.__init__") (N aK (L aj) E) (N (hb 914 911 ee 1647) (L (hc 210 "_law_write")) E))) (N aj (N aK (N aj (L (ts 1972 [dz,"mref","args","sort"])) E) (N (hl 847) (L aj) E)) (N (ha "Splits" 1008 375 465 1011) (N (ts 1377 ["ev","act","lid","when",rq,"wall","nested","answer"]) (L (he 183 "unbox_cell" kR 2105 1234)) E) (L aj)))
def VI(P:Params):BT:=N (ts 453 [dz,"row","found","depth","weight","opened","level","inner","k"]) (N aj (N (hc 86 "plain_default") (N aj (L (hd Ei 1926 "Tray.closed_ref" 770 3 1070 1932 1933)) E) (N (ts 1532 [dz,"addr","kind","slots"]) (L (he 196 "_law_refers" sG 2301 1330)) E)) (N (di 4 [eS P sD 941 sA 829,eI P sC 945 362 944,eR P sH 953 426,eR P "call" 963 433,eR P sB 965 434,eR P sJ 967 437,eR P sK 969 438,e P sI 970 .none]) (N (hd "lay_cells" 1323 "lay_cells" 493 3 686 1330 1331) (L aj) E) (N aj (L aK) E))) (N (hj 658 241) (N (hl 368) (N (hc 108 "next_number") (L (he 162 "told_default" ee 1647 1138)) E) (N aj (L aj) E)) (N (hn "Begins" 499 498 1035) (N (he 127 "is_struct" "framerune.sourcebed" 1417 754) (L (hd kQ 2230 "OpUnboxAny.run" 941 4 1262 2241 2242)) E) (L (hh 159 1 "is_a" "Tray.is_a"))))
def VH:BT:=N (hm "RunBound" 75 74 66 269) (N (hd "row_level" 486 "row_level" 114 1 134 490 491) (N aj (N (hd "goal" 1085 "Calls.goal" 388 4 518 1092 1093) (L aj) E) (N (hc 133 "put_value_at") (L (hk 1290)) E)) (N aj (N aj (L (ts 2066 ["m","kind","count","sort","out","k"])) E) (N (hk 904) (L aj) E))) (N (he 56 "args_of" sF 301 202) (N aj (N (hi 105 6 "error" "Plot.error" sA 829 586) (L aK) E) (N (hd sH 1565 "Heap.__init__" 641 3 838 1571 1572) (L (ts 2414 ["w",nq,lr])) E)) (N (hj 1001 457) (N aK (L (hd "nullable_of" 2166 "nullable_of" 898 3 1222 2175 2176)) E) (N (hb 970 967 ee 1647) (L (hc 218 "law")) E)))
def VG:BT:=N aK (N (ts 530 ["kt","k","sort"]) (N aj (N (ts 1137 [dz,"act","k"]) (L (hh 159 9 "closed" "Tray.closed")) E) (N jd (L (hd "_law_any" 2367 "_law_any" 983 1 1318 2372 2373)) E)) (N aj (N (hc 116 "begin_block") (L (he 179 "box_at" kR 2105 1194)) E) (N (ts 1756 [dz,"m","kind","why"]) (L aj) E))) (N aj (N (hh 97 0 sH "Thrown.__init__") (N aj (L (hd "told_row" 2016 "told_row" 791 2 1126 2022 2023)) E) (N (hn "PlaceHost" 875 874 1606) (L (he 204 "_law_boxing" sG 2301 1386)) E)) (N aK (N (hd "item_is" 1406 "item_is" 542 3 742 1414 1415) (L (hg 941 1267)) E) (L aj)))
def VF(P:Params):BT:=N (⟨.type "dict",none,(.dict (a [⟨20, .int 20 390, .int 0 303⟩,⟨9, .int 9 391, .int 1 305⟩,⟨10, .int 10 392, .int 2 307⟩,⟨11, .int 11 393, .int 3 309⟩,⟨12, .int 12 394, .int 4 311⟩,⟨13, .int 13 395, .int 5 313⟩,⟨14, .int 14 396, .int 6 315⟩,⟨15, .int 15 397, .int 7 317⟩,⟨16, .int 16 398, .int 8 319⟩,⟨17, .int 17 399, .int 9 321⟩,⟨18, .int 18 400, .int 10 323⟩,⟨19, .int 19 401, .int 11 325⟩,⟨1, .int 1 402, .int 12 327⟩,⟨4, .int 4 403, .int 13 329⟩]) 14),#[]⟩) (N aj (N aK (N aj (L (ts 1904 [dz,"k"])) E) (N (he 135 "unbox_value" "framerune.sourcebox" 1453 794) (L aj) E)) (N (hk 408) (N (n8 "s" 1299) (L (hc 175 "thing_of")) E) (N aj (L (hd "_law_reference" 2545 "_law_reference" 1133 2 1430 2550 2551)) E))) (N aK (N (ts 816 [lr,"path","new","way","at_slot","slot","place","outer"]) (N (di 4 [eS P sD 1111 sA 829,eI P sC 1115 390 1114,eR P sH 1124 545,eR P "is_a" 1133 552,eR P "closed" 1142 559,eR P Ei 1151 566,eR P "first" 1159 573,eR P "asked" 1167 580,eR P "error" 1176 587,eR P "type_item" 1184 594,eR P "seen_as" 1193 601,eR P sB 1218 602,eR P sJ 1220 605,eR P sK 1222 606,e P sI 1223 .none]) (L (ho 2001 1114)) E) (N aj (L (hc 202 "_law_goes")) E)) (N (hi 102 0 "ready" "Splits.ready" sA 829 474) (N aj (L aj) E) (L (di 4 [eS P sD 1797 ee 1647,eI P sC 1801 711 1800,eR P "kind" 1811 978,eR P "ref" 1821 985,eR P sB 1822 986,eR P sJ 1824 989,eR P sK 1826 990,e P sI 1827 .none]))))
def VE(P:Params):BT:=N (ho 471 122) (N (hc 54 "elem_of") (N (hd "cut_to" 770 "cut_to" 277 2 310 775 776) (N (hh 105 4 "first" "Plot.first") (L (hi 159 11 "alloc" "Tray.alloc" ee 1647 1082)) E) (N (ho 1546 826) (L aj) E)) (N (di 5 [eS P sD 980 sA 829,eS P sE 982 "Guard" 981,eI P sC 984 369 983,eR P sH 994 454,eR P sB 998 455]) (N (he 118 Eh sA 829 698) (L (di 2 [eS P sD 2137 kR 2105,eI P sC 2141 884 2140,eR P kQ 2151 1209,eR P sB 2152 1210,e P sI 2153 .none])) E) (N (hh 157 2 "failed" "Starter.failed") (L (ts 2600 ["script","store","m","w","head","under",nq,"inner","z"])) E))) (N (ha "Store" 665 222 249 668) (N aj (N (hd "eval_expr" 1249 "eval_expr" 454 3 630 1258 1259) (L aj) E) (N aj (L aK) E)) (N aj (N aj (L jd) E) (L (hd "slots_of" 1860 "Tray.slots_of" 746 2 1014 1865 1866))))
def VD(P:Params):BT:=N aj (N (hc 0 "_wall") (N (hi 7 0 sH "RuneError.__init__" uo 194 34) (VL P) (VK P)) (N (hm "BadKind" 51 50 42 237) VJ (VI P))) (N (ha "RuneError" 208 10 25 211) (N jd VH VG) (N (ha "LoadFault" 255 17 57 258) (VF P) (VE P)))
def VC(P:Params):BT:=N (hl 63) (N (ts 481 ["row","sort"]) (N (hh 68 0 sH "Store.__init__") (N (ts 1080 [dz,"rows"]) (L (hh 159 3 "kinds_of" "Tray.kinds_of")) E) (N (he 129 "default_of" "framerune.sourcebed" 1417 768) (L aj) E)) (N (hi 98 0 sH "Unheld.__init__" sA 829 384) (N (hc 110 "kind_in") (L (he 164 "pop_value" ee 1647 1152)) E) (N (ts 1679 [dz,rq,"mref","body","args","sort"]) (L aj) E))) (N aj (N (hc 88 "store_as") (N aj (L (hd "wrong" 1944 "Tray.wrong" 776 2 1084 1949 1950)) E) (N (di 5 [eS P sD 1560 Ej 1502,eS P sE 1562 "Heap" 1561,eI P sC 1564 639 1563,eR P sH 1573 844,eR P sB 1586 845]) (L (he 198 "_law_span" sG 2301 1344)) E)) (N aK (N (hd "throw_nothing" 1342 "throw_nothing" 498 1 700 1346 1347) (L (ts 2159 ["m",lr,"k","thing"])) E) (N (ho 1783 960) (L aK) E)))
def VB:BT:=N (ha "KindTable" 423 56 95 426) (N (he 50 "check_named" sF 301 160) (N aj (N (hi 105 0 sH "Plot.__init__" sA 829 544) (L aK) E) (N (hd "from_reference" 1493 "from_reference" 616 3 796 1499 1500) (L (he 189 "cast_top" kR 2105 1312)) E)) (N (⟨.none,none,(.fields (a [.int 364 0, .int 4 0, .ref 425, .int 367 0, .int 4 0, .ref 432])),#[]⟩) (N aK (L aj) E) (N (hl 925) (L (hc 212 "_law_aim")) E))) (N aj (N jd (N aj (L (ts 2011 ["m","tid"])) E) (N (hb 864 861 KU 1604) (L aj) E)) (N (hk 478) (N (ts 1401 ["ev","before"]) (L (hi 184 0 kQ "OpUnbox.run" kR 2105 1248)) E) (L aj)))
def VA:BT:=N aj (N (hc 48 "row_length") (N (he 69 "type_of" Ek 595 272) (N (hj 1099 527) (L (hi 159 5 "slot_place" "Tray.slot_place" ee 1647 1040)) E) (N aj (L (hc 187 "install_m_objects")) E)) (N (ts 912 [dz,rq,"kind","slots"]) (N (he 112 "is_question" sA 829 656) (L aK) E) (N (hg 699 921) (L (ts 2536 ["w","i","z",nq,lr,"slots"])) E))) (N (hd "is_value" 571 "is_value" 180 2 204 576 577) (N (he 90 "tag_of_row" Ak 706 336) (N (hd "type_item" 1177 "Plot.type_item" 436 2 588 1182 1183) (L aj) E) (N (hj 1589 847) (L aK) E)) (N aj (N aj (L (hc 183 "unbox_cell")) E) (L (hd "kind" 1802 "KindCloser.kind" 713 4 972 1809 1810))))
def Vz:BT:=N aj (N aK (N (n8 "k" 766) (N aK (L aj) E) (N aj (L (hc 196 "_law_refers")) E)) (N (hi 100 1 "call" "Special.call" sA 829 432) (N aj (L (ha "OpBox" 2132 884 1199 2135)) E) (N aK (L (he 214 "_law_kinds" sG 2301 1456)) E))) (N (hn "TypeDef" 241 240 609) (N (hj 861 368) (N (n8 "ev" 1245) (L (hc 162 "told_default")) E) (N aK (L (hd "_law_tried" 2462 "_law_tried" 1057 3 1388 2471 2472)) E)) (N aj (N (hc 127 "is_struct") (L aj) E) (L (ts 1854 [dz,"exact","k"]))))
def Vy(P:Params):BT:=N aj (N aj (N (hk 262) (N aj (L (hd "skinds_of" 1876 "Tray.skinds_of" 752 2 1028 1881 1882)) E) (N (ts 1460 ["place",lr,"holder","path","outer","inner","step","back","at","whole"]) (L (di 2 [eS P sD 2255 kR 2105,eI P sC 2259 957 2258,eR P kQ 2269 1287,eR P sB 2270 1288,e P sI 2271 .none])) E)) (N jd (N (hd "layout_in" 1270 "layout_in" 465 2 644 1275 1276) (L aj) E) (N (ho 1704 904) (L aK) E))) (N (hc 56 "args_of") (N (hd "tag_of" 788 "tag_of" 295 2 324 793 794) (N (hh 105 6 "error" "Plot.error") (L (hi 159 13 "pop" "Tray.pop" ee 1647 1096)) E) (N aj (L aj) E)) (N (hn "Guard" 457 456 973) (N (he 120 "throw_item" sA 829 712) (L aj) E) (N (⟨.none,none,(.fields (a [.int 713 0, .int 4 0, .ref 977, .int 716 0, .int 4 0, .ref 984])),#[]⟩) (L (ts 2630 ["script","w","turn"])) E)))
def Vx(P:Params):BT:=N (hi 45 0 sH "KindTable.__init__" sF 301 104) (N aj (N aK (N aj (L (ts 1920 [dz,"f","k"])) E) (N (he 141 "words_for" Ej 1502 808) (L aj) E)) (N (hd sH 946 "Special.__init__" 364 2 420 951 952) (N (ts 1317 ["ev","act",rq]) (L (hc 179 "box_at")) E) (N aj (L (hd "_law_deed" 2565 "_law_deed" 1152 1 1444 2574 2575)) E))) (N aK (N (ts 850 [dz,"item","goal","row"]) (N aK (L aj) E) (N (ts 1628 ["frames","heap","statics"]) (L (hc 204 "_law_boxing")) E)) (N (hb 488 485 sA 829) (N aj (L (di 5 [eS P sD 2225 kR 2105,eS P sE 2227 "OpUnboxAny" 2226,eI P sC 2229 939 2228,eR P kQ 2243 1268,eR P sB 2244 1269])) E) (L aK)))
def Vw(P:Params):BT:=N (hl 87) (N (hd "check_kind_row" 500 "check_kind_row" 124 2 148 507 508) (N (he 82 "wrap_bits" Ak 706 280) (N (ha "Plot" 1106 390 535 1109) (L aj) E) (N (hc 135 "unbox_value") (L (hd "is_of" 2281 "is_of" 967 3 1300 2288 2289)) E)) (N (ho 927 408) (N aj (L (ts 2099 ["m",lr,"thing"])) E) (N (hd kQ 1723 "Op.run" 699 4 916 1730 1731) (L aj) E))) (N (he 58 "is_var" sF 301 216) (N aj (N (hi 105 8 "seen_as" "Plot.seen_as" sA 829 600) (L (di 4 [eS P sD 1837 ee 1647,eI P sC 1841 718 1840,eR P sH 1850 1006,eR P "is_a" 1859 1013,eR P "slots_of" 1867 1020,eR P "kinds_of" 1875 1027,eR P "skinds_of" 1883 1034,eR P "slot_place" 1891 1041,eR P "target" 1900 1048,eR P "default" 1908 1055,eR P "plain" 1916 1062,eR P "closed" 1925 1069,eR P Ei 1934 1076,eR P "alloc" 1943 1083,eR P "wrong" 1951 1090,eR P "pop" 1959 1097,eR P Eh 1968 1104,eR P "push_call" 1978 1111,eR P sB 2000 1112,eR P sJ 2002 1115,eR P sK 2004 1116,e P sI 2005 .none])) E) (N (hd "heap_alloc" 1594 "heap_alloc" 654 3 852 1601 1602) (L (ts 2437 ["w","exact",nq])) E)) (N (hh 102 0 "ready" "Splits.ready") (N aK (L (ha "OpUnbox" 2192 924 1239 2195)) E) (L (hi 158 1 "ref" "KindCloser.ref" ee 1647 984))))
def Vv(P:Params):BT:=N (di 4 [eS P sD 428 sF 301,eI P sC 432 56 431,eR P sH 441 105,eR P "row" 449 112,eR P "put" 464 119,eR P sB 470 120,eR P sJ 472 123,eR P sK 474 124,e P sI 475 .none]) (N (ts 547 ["kt","k","row"]) (N aj (N (ts 1155 [dz,"k"]) (L (hh 159 11 "alloc" "Tray.alloc")) E) (N (di 4 [eS P sD 1524 Ej 1502,eI P sC 1528 630 1527,eR P sH 1538 823,eR P sB 1545 824,eR P sJ 1547 827,eR P sK 1549 828,e P sI 1550 .none]) (L (hd "_law_plain" 2382 "_law_plain" 993 2 1332 2387 2388)) E)) (N aj (N (hc 118 Eh) (L (hi 180 0 kQ "OpBox.run" kR 2105 1208)) E) (N (ts 1775 [dz,"m","kind","addr"]) (L aj) E))) (N aj (N (ha "Unheld" 870 348 375 873) (N aj (L (hd "tell_wrong" 2034 "tell_wrong" 801 2 1140 2042 2043)) E) (N jd (L (he 206 "_law_op" sG 2301 1400)) E)) (N jd (N (hd "is_composed" 1427 "is_composed" 554 2 756 1432 1433) (L (hl 1271)) E) (L aj)))
def Vu(P:Params):BT:=N (boot_o_9 P) (N (n8 "k" 190) (N (hh 7 0 sH "RuneError.__init__") (VC P) VB) (N aj VA Vz)) (N aj (N (hl 38) (Vy P) (Vx P)) (N aj (Vw P) (Vv P)))
def Vt(P:Params):BT:=N aj (N (he 46 "inner_kinds" sF 301 132) (N (di 4 [eS P sD 670 Ek 595,eI P sC 674 222 673,eR P sH 681 259,eR P sB 689 260,eR P sJ 691 263,eR P sK 693 264,e P sI 694 .none]) (N (hi 104 0 sH "Calls.__init__" sA 829 516) (L aK) E) (N (⟨.type "code",none,(.fields (a [s "default_parts" 1447,s "default_parts" 1448,s Iq 1449, .int 568 0, .int 2 0, .int 0 0, .int 0 0, .int 3 0, .ref 770, .bool true, .int 181 0, .ref 771, .none, .none, .none, .ref 772, .int 1450 0, .int 568 0,s Iq 1451])),#[]⟩) (L (hh 186 0 kQ "OpToken.run")) E)) (N (hj 890 388) (N aK (L aj) E) (N (hi 155 0 sH "Frame.__init__" ee 1647 900) (L (hc 208 "_law_open")) E))) (N aj (N aK (N aj (L (ts 1955 [dz,"f"])) E) (N (hb 836 833 Ej 1502) (L aj) E)) (N (hd sH 985 "Guard.__init__" 371 4 448 992 993) (N (ts 1352 ["ev",rq,"at","guard","row"]) (L (he 181 "boxed_thing" kR 2105 1220)) E) (N aj (L (hd "_law_settled" 2612 "_law_settled" 1219 1 1472 2624 2625)) E)))
def Vs(P:Params):BT:=N (ts 436 [dz,rq,"row"]) (N aj (N (hc 84 "wrap64") (N aj (L (hd "plain" 1909 "Tray.plain" 764 2 1056 1914 1915)) E) (N (n8 "count" 1513) (L (tu [.int 0 2356, .int 2 2357, .int 8 2358, .int 1 2359, .int 10 2360, .int 8 2361, .int 6 2362, .int 2 2363, .int 8 2364, .int 31 2365])) E)) (N aK (N (hd "block_lids" 1303 "block_lids" 477 3 672 1311 1312) (L aj) E) (N aj (L aK) E))) (N (hg 198 237) (N (ha "Thrown" 837 342 355 840) (N (hc 106 "count_step") (L (he 160 "note_thrown" ee 1647 1124)) E) (N aj (L aj) E)) (N (di 5 [eS P sD 1042 sA 829,eS P sE 1044 "Begins" 1043,eI P sC 1046 379 1045,eR P "begin" 1056 496,eR P sB 1057 497]) (N (he 124 "drop_guards" sA 829 740) (L (hk 1252)) E) (L (⟨.none,none,(.fields (a [.int 720 0, .int 4 0, .ref 1005, .int 743 0, .int 4 0, .ref 1012, .int 746 0, .int 4 0, .ref 1019, .int 749 0, .int 4 0, .ref 1026, .int 752 0, .int 4 0, .ref 1033, .int 755 0, .int 4 0, .ref 1040, .int 758 0, .int 4 0, .ref 1047, .int 761 0, .int 4 0, .ref 1054, .int 764 0, .int 4 0, .ref 1061, .int 767 0, .int 4 0, .ref 1068, .int 770 0, .int 4 0, .ref 1075, .int 773 0, .int 4 0, .ref 1082, .int 776 0, .int 4 0, .ref 1089, .int 779 0, .int 4 0, .ref 1096, .int 782 0, .int 4 0, .ref 1103, .int 785 0, .int 4 0, .ref 1110])),#[]⟩))))
def Vr:BT:=N aj (N aK (N (ts 735 ["n","bits"]) (N jd (L aj) E) (N aj (L aK) E)) (N (hi 99 0 sH "Item.__init__" sA 829 404) (N aj (L (hd "throw_null" 2089 "throw_null" 845 1 1168 2093 2094)) E) (N aK (L (he 210 "_law_write" sG 2301 1428)) E))) (N (ts 582 ["kt","k","sort"]) (N aj (N (ts 1188 [dz,"k",lr]) (L (hh 159 15 "push_call" "Tray.push_call")) E) (N aK (L (hd "_law_tagged" 2420 "_law_tagged" 1017 3 1360 2431 2432)) E)) (N aj (N (hc 122 "when_says") (L jd) E) (L (ts 1815 [dz,"m","f","fref"]))))
def Vq:BT:=N (hh 45 2 "put" "KindTable.put") (N (hd "kind_sort" 536 "kind_sort" 159 2 176 541 542) (N (he 86 "plain_default" Ak 706 308) (N (hd Ei 1143 "Plot.closed_ref" 424 3 560 1149 1150) (L aj) E) (N (hh 142 0 sH "Thing.__init__") (L aK) E)) (N (ho 966 436) (N aj (L (ts 2145 [dz,"m","f","operand"])) E) (N (hd "done" 1763 "Starter.done" 706 3 944 1769 1770) (L aj) E))) (N (hl 241) (N jd (N (he 108 "next_number" sA 829 628) (L aK) E) (N (hd "heap_place" 1639 "heap_place" 670 2 880 1644 1645) (L (ts 2477 ["w","code",nq,lr,"m","f","jump","thrown"])) E)) (N (hj 1060 499) (N aK (L aj) E) (L (hi 159 1 "is_a" "Tray.is_a" ee 1647 1012))))
def Vp:BT:=N (hl 75) (N aj (N (ts 700 ["store","k","tid"]) (N (n8 "rows" 1095) (L (ts 1887 [dz,"fref"])) E) (N (he 133 "put_value_at" "framerune.sourcebox" 1453 780) (L aj) E)) (N (ha "Item" 899 352 395 902) (N (ts 1281 ["ev","k"]) (L (hc 166 "first_slots")) E) (N aj (L (hd "_law_place" 2515 "_law_place" 1097 4 1416 2530 2531)) E))) (N aK (N (n8 "sort" 799) (N aK (L aj) E) (N (ts 1574 ["at","card_bits","cards","finals","fresh","limit","made","moved","ready","things","top","young_limit"]) (L (hc 200 "_law_source")) E)) (N (hl 457) (N aj (L aj) E) (N aK (L (he 218 "law" sG 2301 1484)) E)))
def Vo:BT:=N aj (N (hc 52 "may_stand") (N (hd "plain_kind" 754 "plain_kind" 258 2 296 760 761) (N (hh 105 2 "closed" "Plot.closed") (L (hi 159 9 "closed" "Tray.closed" ee 1647 1068)) E) (N aj (L aj) E)) (N (ts 957 [dz,"ev","mid","args"]) (N (he 116 "begin_block" sA 829 684) (L jd) E) (N (hh 157 0 "need" "Starter.need") (L (ts 2580 ["kt","kinds",nq])) E))) (N (hd sH 621 "TypeDef.__init__" 198 8 232 633 634) (N (hi 97 0 sH "Thrown.__init__" sA 829 364) (N (hd "go_deeper" 1233 "go_deeper" 445 2 616 1239 1240) (L aj) E) (N (hj 1634 875) (L aK) E)) (N aj (N aj (L (hb 1260 1257 kR 2105)) E) (L (hd sH 1842 "Tray.__init__" 720 3 1000 1848 1849))))
def Vn:BT:=N (hk 122) (N (he 54 "elem_of" sF 301 188) (N aj (N (hi 105 4 "first" "Plot.first" sA 829 572) (L aK) E) (N (hk 826) (L (ts 2393 ["w",nq,"rows"])) E)) (N (hg 371 453) (N aK (L (hk 1212)) E) (N (hi 157 2 "failed" "Starter.failed" ee 1647 956) (L (hc 216 "_law_world")) E))) (N aj (N (ts 883 [dz,"item"]) (N aj (L (ts 2048 ["m","f"])) E) (N (ha "Frame" 1666 679 891 1669) (L aj) E)) (N (ha "Calls" 1067 383 507 1070) (N (ts 1438 ["ev","k","work","one","waiting","part"]) (L aj) E) (L aj)))
def Vm:BT:=N (hk 63) (N aK (N aj (N aK (L aj) E) (N (hd "default_of" 1435 "default_of" 556 2 763 1444 1445) (L (hb 1279 1276 kR 2105)) E)) (N (hd sH 880 "Unheld.__init__" 350 2 379 885 886) (N aj (L (hd "pop_value" 2045 "pop_value" 812 2 1147 2050 2051)) E) (N aK (L (he 207 "_law_box" sG 2301 1407)) E))) (N (ts 556 ["kt","k","row"]) (N aj (N (ts 1163 [dz,"k"]) (L (hh 159 12 "wrong" "Tray.wrong")) E) (N jd (L (hd "_law_span" 2390 "_law_span" 995 2 1339 2396 2397)) E)) (N aj (N (hc 119 "throw_nothing") (L aK) E) (N (hn "Starter" 960 959 1741) (L aj) E)))
def Vl:BT:=N (⟨.none,none,(.fields (a [.int 58 0, .int 4 0, .ref 104, .int 72 0, .int 4 0, .ref 111, .int 77 0, .int 4 0, .ref 118])),#[]⟩) (N (hd "check_named" 510 "check_named" 146 2 155 515 516) (N (he 83 "wrap32" Ak 706 287) (N (hd sH 1116 "Plot.__init__" 392 3 539 1122 1123) (L aj) E) (N (hc 136 "from_reference") (L (hd "cast_top" 2291 "cast_top" 970 3 1307 2298 2299)) E)) (N aj (N aj (L (ts 2112 ["kt","k"])) E) (N (hk 925) (L aj) E))) (N (he 59 "is_int" sF 301 223) (N P0 (N (hl 604) (L aK) E) (N (ha "PlaceHost" 1608 664 862 1611) (L (ts 2446 ["w",nq,"i","exact"])) E)) (N (hj 1030 478) (N aK (L (hd kQ 2202 "OpUnbox.run" 926 4 1243 2211 2212)) E) (L (hl 988))))
def Vk(P:Params):BT:=N (di 4 [eS P sD 292 uo 194,eS P sE 294 "LeftOut" 293,eI P sC 296 21 295,eR P sB 297 85]) (N aj (N (hd "type_of" 697 "type_of" 232 2 267 703 704) (N (ho 1097 527) (L (hd "slot_place" 1884 "Tray.slot_place" 755 2 1035 1889 1890)) E) (N (ts 1476 ["ev","k",lr]) (L aj) E)) (N aK (N (hd "is_question" 1278 "is_question" 467 2 651 1283 1284) (L aj) E) (N aj (L aK) E))) (N (hc 57 "is_value") (N (hd "tag_of_row" 796 "tag_of_row" 305 1 331 800 801) (N (hh 105 7 "type_item" "Plot.type_item") (L (hi 159 14 Eh "Tray.throw_new" ee 1647 1103)) E) (N (ho 1587 847) (L aj) E)) (N (di 5 [eS P sD 1013 sA 829,eS P sE 1015 "Splits" 1014,eI P sC 1017 375 1016,eR P "ready" 1026 475,eR P sB 1027 476]) (N (he 121 "row_taking" sA 829 719) (L aj) E) (L (hh 158 0 "kind" "KindCloser.kind"))))
def Vj(P:Params):BT:=N (hi 45 1 "row" "KindTable.row" sF 301 111) (N aj (N aK (N aj (L (ts 1929 [dz,"f","fref"])) E) (N (hb 815 812 Ej 1502) (L aj) E)) (N (hd "call" 954 "Special.call" 367 4 427 961 962) (N (ts 1326 ["ev","act",rq,"lid"]) (L (hg 886 1208)) E) (N aj (L (hd "_law_kinds" 2577 "_law_kinds" 1168 1 1451 2583 2584)) E))) (N (di 4 [eS P sD 616 Ek 595,eI P sC 620 196 619,eR P sH 635 238,eR P sB 655 239,eR P sJ 657 242,eR P sK 659 243,e P sI 660 .none]) (N (⟨.type "type",none,(.cls ⟨z "Thrown", [.type "Exception"], [.ref 368, .type "Exception", .type "BaseException", .type "object"],367,z "Thrown",true, [], [],false,none,false⟩),a [some (.ref 352),none,some (s "Thrown" 835),some (s "Thrown" 843),some (.builtin "Exception.__new__"),some (.bool true)]⟩) (N aK (L aj) E) (N aj (L (hc 205 "_law_tried")) E)) (N (hi 103 0 "begin" "Begins.begin" sA 829 495) (N aj (L (ts 2233 [dz,"m","f","operand","k",lr,"maybe","thing"])) E) (L aK)))
def Vi(P:Params):BT:=N (hb 71 68 uo 194) (N (n8 "sort" 489) (N (hj 692 262) (N (ts 1088 [dz,"ev","k","mref"]) (L (hh 159 4 "skinds_of" "Tray.skinds_of")) E) (N aK (L aj) E)) (N aj (N (hc 111 "layout_in") (L (he 165 "stored" ee 1647 1159)) E) (N (hn "Frame" 904 903 1664) (L aj) E))) (N aj (N (hc 89 "tag_of") (N aj (L (hd "pop" 1952 "Tray.pop" 779 2 1091 1957 1958)) E) (N (ts 1568 [dz,"limit","card_bits"]) (L (he 199 "_law_value" sG 2301 1351)) E)) (N (di 4 [eS P sD 980 sA 829,eI P sC 984 369 983,eR P sH 994 454,eR P sB 998 455,eR P sJ 1000 458,eR P sK 1002 459,e P sI 1003 .none]) (N (hd "throw_item" 1349 "throw_item" 500 2 707 1357 1358) (L (ts 2169 ["m",lr,"k","maybe","thing","slots"])) E) (N aj (L aK) E)))
def Vh:BT:=N (hd sH 433 "KindTable.__init__" 58 1 99 439 440) (N (he 51 "check_args" sF 301 167) (N aj (N (hi 105 1 "is_a" "Plot.is_a" sA 829 551) (L aK) E) (N (hd "words_for" 1510 "words_for" 626 1 803 1514 1515) (L (ts 2370 ["w","at"])) E)) (N (hh 100 0 sH "Special.__init__") (N aK (L aj) E) (N (hb 935 932 ee 1647) (L (hc 213 "_law_deed")) E))) (N aj (N aK (N aj (L (ts 2019 ["m","k","row"])) E) (N (hi 146 0 sH "PlaceHost.__init__" KU 1604 871) (L aj) E)) (N (ha "Begins" 1037 379 486 1040) (N (ts 1409 ["ev",rq,"k","item","one"]) (L jd) E) (L aj)))
def Vg:BT:=N (hk 87) (N (hc 49 "check_kind_row") (N (hd "wrap_bits" 732 "wrap_bits" 249 2 275 737 738) (N (⟨.none,none,(.fields (a [.int 392 0, .int 4 0, .ref 544, .int 418 0, .int 4 0, .ref 551, .int 421 0, .int 4 0, .ref 558, .int 424 0, .int 4 0, .ref 565, .int 427 0, .int 4 0, .ref 572, .int 430 0, .int 4 0, .ref 579, .int 433 0, .int 4 0, .ref 586, .int 436 0, .int 4 0, .ref 593, .int 439 0, .int 4 0, .ref 600])),#[]⟩) (L (hi 159 6 "target" "Tray.target" ee 1647 1047)) E) (N aj (L (hc 188 "is_of")) E)) (N (hn "Item" 408 407 897) (N (he 113 "new_item" sA 829 663) (L aK) E) (N (hh 156 0 kQ "Op.run") (L (ts 2548 ["w","x"])) E))) (N (hd "is_var" 579 "is_var" 184 2 211 585 586) (N (he 91 "fits" Ak 706 343) (N (hd "seen_as" 1185 "Plot.seen_as" 439 3 595 1191 1192) (L (ts 1979 ["by_number","calls","closer","defaults","frames","heap","held","inits","kin","kt","ops","places","rows","starter","state","statics","store","targets","thrown","told","unders"])) E) (N (hc 144 "heap_alloc") (L aK) E)) (N aj (N aj (L (hg 926 1248)) E) (L (hd "ref" 1812 "KindCloser.ref" 716 4 979 1819 1820))))
def Vf(P:Params):BT:=N (ts 465 ["depths","index","opens","rows","weights"]) (N aK (N (ts 773 ["k","n"]) (N aK (L aj) E) (N (ts 1539 ["addr","gen","kind","serial","size","slots"]) (L (hc 197 "_law_plain")) E)) (N (hl 436) (N aj (L (hd kQ 2142 "OpBox.run" 886 4 1203 2149 2150)) E) (N aK (L (he 215 "_law_types" sG 2301 1463)) E))) (N (di 5 [eS P sD 670 Ek 595,eS P sE 672 "Store" 671,eI P sC 674 222 673,eR P sH 681 259,eR P sB 689 260]) (N (hg 350 384) (N (ts 1252 ["ev","act","e","nested","rule",lr]) (L (hc 163 "tell_wrong")) E) (N aj (L (hd "_law_op" 2474 "_law_op" 1066 4 1395 2485 2486)) E)) (N aj (N (hc 128 "is_composed") (L (hk 1271)) E) (L (ts 1863 [dz,"k"]))))
def Ve(P:Params):BT:=N (boot_o_8 P) (N aK (N aj Vm Vl) (N (hb 47 44 uo 194) (Vk P) (Vj P))) (N (di 5 [eS P sD 213 uo 194,eS P sE 215 "RuneError" 214,eI P sC 217 10 216,eR P sH 226 35,eR P sB 229 36]) (N (hk 38) (Vi P) Vh) (N (di 4 [eS P sD 260 uo 194,eS P sE 262 "LoadFault" 261,eI P sC 264 17 263,eR P sB 265 61]) Vg (Vf P)))
def Vd(P:Params):BT:=N (di 4 [eS P sD 276 uo 194,eS P sE 278 "RunBound" 277,eI P sC 280 19 279,eR P sB 281 73]) (N (hd "inner_kinds" 478 "inner_kinds" 105 1 127 483 484) (N (ts 682 ["asms","entry","fields_","kt","methods","names","types"]) (N (hd sH 1077 "Calls.__init__" 385 2 511 1082 1083) (L aj) E) (N (hc 130 "default_parts") (L aj) E)) (N (⟨.type "type",none,(.cls ⟨z "Unheld", [.type "Exception"], [.ref 388, .type "Exception", .type "BaseException", .type "object"],387,z "Unheld",true, [], [],false,none,false⟩),a [some (.ref 372),none,some (s "Unheld" 868),some (s "Unheld" 876),some (.builtin "Exception.__new__"),some (.bool true)]⟩) (N aj (L (ts 2056 ["m","k",lr,"slot_kind"])) E) (N (hd sH 1676 "Frame.__init__" 681 6 895 1685 1686) (L aj) E))) (N (he 55 "tid_of" sF 301 195) (N aj (N (hi 105 5 "asked" "Plot.asked" sA 829 579) (L aK) E) (N (ha "Heap" 1555 639 834 1558) (L (ts 2402 ["w",nq,"z","low","many","tag"])) E)) (N (hh 101 0 sH "Guard.__init__") (N aK (L (hd "boxed_thing" 2156 "boxed_thing" 890 3 1215 2163 2164)) E) (N (hl 960) (L (hc 217 "_law_settled")) E)))
def Vc(P:Params):BT:=N aK (N (ts 521 ["kt","args","arg"]) (N aj (N (ts 1128 [dz,"exact","k"]) (L (hh 159 8 "plain" "Tray.plain")) E) (N aK (L (tu [.int 0 2338, .int 1 2339, .int (-1) 2341, .int 7 2342, .int 127 2343, .int 128 2344, .int 255 2345, .int 256 2346, .int 32767 2347, .int 32768 2348, .int 65535 2349, .int 2147483647 2350, .int 2147483648 2351, .int 4294967295 2352, .int 9223372036854775807 2353, .int 9223372036854775808 2354])) E)) (N aj (N (hc 115 "block_lids") (L (he 178 "holds_maybe" kR 2105 1187)) E) (N (di 7 [eS P sD 1748 ee 1647,eS P sE 1750 "Starter" 1749,eI P sC 1752 701 1751,eR P "need" 1762 943,eR P "done" 1771 950,eR P "failed" 1781 957,eR P sB 1782 958]) (L aj) E))) (N aj (N (hg 344 364) (N aj (L (hd "note_thrown" 2008 "note_thrown" 787 2 1119 2013 2014)) E) (N (ts 1621 [dz,"heap","frames","statics"]) (L (he 203 "_law_meant" sG 2301 1379)) E)) (N jd (N (hd "drop_guards" 1398 "drop_guards" 540 2 735 1403 1404) (L (hp "OpUnbox" 1252 1251 1236 2190)) E) (L aj)))
def Vb:BT:=N (hb 83 80 uo 194) (N aj (N aK (N aj (L (ts 1895 [dz,"exact","mref"])) E) (N (he 134 "box_value" "framerune.sourcebox" 1453 787) (L aj) E)) (N (hd sH 909 "Item.__init__" 354 4 399 916 917) (N (ts 1289 ["ev","kind","slots",rq]) (L (hc 174 "throw_null")) E) (N aj (L (hd "_law_write" 2533 "_law_write" 1122 3 1423 2542 2543)) E))) (N aK (N (ts 806 ["kt",lr,"k","tag"]) (N aK (L aj) E) (N aj (L (hc 201 "_law_tagged")) E)) (N (hb 467 464 sA 829) (N aj (L O9) E) (L aK)))
def Va:BT:=N aj (N (hc 53 "kind_sort") (N (hd "plain_default" 763 "plain_default" 269 1 303 767 768) (N (hh 105 3 Ei "Plot.closed_ref") (L (hi 159 10 Ei "Tray.closed_ref" ee 1647 1075)) E) (N aj (L aj) E)) (N (hn "Special" 436 435 934) (N (he 117 "lay_cells" sA 829 691) (L aK) E) (N (hh 157 1 "done" "Starter.done") (L (ts 2589 ["store","w","tid",nq,"sort"])) E))) (N (hk 241) (N P0 (N (hd "next_number" 1242 "next_number" 451 1 623 1246 1247) (L aj) E) (N (hc 147 "heap_place") (L aK) E)) (N (ho 1058 499) (N aj (L (hi 185 0 kQ "OpUnboxAny.run" kR 2105 1267)) E) (L (hd "is_a" 1851 "Tray.is_a" 743 3 1007 1857 1858))))
def U9:BT:=N (hk 75) (N (he 47 "row_level" sF 301 139) (N aK (N (hi 104 1 "goal" "Calls.goal" sA 829 523) (L aK) E) (N (hd "put_value_at" 1457 "put_value_at" 579 2 775 1470 1471) (L (hl 1290)) E)) (N (hg 354 404) (N aK (L aj) E) (N (hl 904) (L (hc 209 "_law_place")) E))) (N aj (N aK (N aj (L (ts 1963 [dz,"tid","text"])) E) (N (hi 143 0 sH "Heap.__init__" Ej 1502 843) (L aj) E)) (N (hk 457) (N (ts 1363 ["ev","guard",rq,"place","kind","lid","when","body"]) (L (he 182 "nullable_of" kR 2105 1227)) E) (N aj (L (hd "law" 2627 "law" 1241 1 1479 2633 2634)) E)))
def U8(P:Params):BT:=N (ts 445 [dz,"k"]) (N aj (N (hc 85 "plain_kind") (N aj (L (hd "closed" 1917 "Tray.closed" 767 3 1063 1923 1924)) E) (N (di 5 [eS P sD 1524 Ej 1502,eS P sE 1526 "Thing" 1525,eI P sC 1528 630 1527,eR P sH 1538 823,eR P sB 1545 824]) (L (he 195 "_law_any" sG 2301 1323)) E)) (N aK (N (hd "begin_block" 1314 "begin_block" 486 3 679 1320 1321) (L O9) E) (N aj (L aK) E))) (N (hh 67 0 sH "TypeDef.__init__") (N (hd sH 847 "Thrown.__init__" 344 4 359 854 855) (N (hc 107 "go_deeper") (L (he 161 "told_row" ee 1647 1131)) E) (N (ho 1632 875) (L aj) E)) (N (ts 1050 [dz,"ev","owner","why"]) (N (he 125 "item_is" sA 829 747) (L (ha "OpUnboxAny" 2220 939 1258 2223)) E) (L (hh 159 0 sH "Tray.__init__"))))
def U7(P:Params):BT:=N aj (N aK (N (n8 "n" 743) (N aK (L aj) E) (N aj (L aK) E)) (N (hl 408) (N aj (L (hd "thing_of" 2096 "thing_of" 847 2 1175 2102 2103)) E) (N (di 4 [eS P sD 1718 ee 1647,eI P sC 1722 697 1721,eR P kQ 1732 922,eR P sB 1733 923,eR P sJ 1735 926,eR P sK 1737 927,e P sI 1738 .none]) (L (he 211 "_law_reference" sG 2301 1435)) E))) (N (n8 "k" 591) (N aj (N (hn "Plot" 604 603 1104) (L (hj 2003 1114)) E) (N jd (L (hd "_law_goes" 2434 "_law_goes" 1032 3 1367 2440 2441)) E)) (N aj (N (hc 123 "push_guard") (L aK) E) (L (hn "KindCloser" 988 987 1790))))
def U6(P:Params):BT:=N (hj 473 122) (N (hd "elem_of" 544 "elem_of" 161 2 183 550 551) (N (he 87 "cut_to" Ak 706 315) (N (hd "first" 1152 "Plot.first" 427 2 567 1157 1158) (L aj) E) (N (hj 1548 826) (L aK) E)) (N aj (N aj (L (hp "OpBox" 1212 1211 1196 2130)) E) (N (hd "failed" 1772 "Starter.failed" 709 4 951 1779 1780) (L aj) E))) (N (hb 251 248 Ek 595) (N aK (N (he 109 "eval_expr" sA 829 635) (L aK) E) (N (hg 681 900) (L (ts 2491 ["w",nq,lr,"source","tagged","i"])) E)) (N (⟨.none,none,(.fields (a [.int 385 0, .int 4 0, .ref 516, .int 388 0, .int 4 0, .ref 523])),#[]⟩) (N aK (L (di 5 [eS P sD 2255 kR 2105,eS P sE 2257 "OpToken" 2256,eI P sC 2259 957 2258,eR P kQ 2269 1287,eR P sB 2270 1288])) E) (L (hi 159 2 "slots_of" "Tray.slots_of" ee 1647 1019))))
def U5:BT:=N Pb (N aj (N (hd sH 675 "Store.__init__" 224 1 253 679 680) (N aj (L (hd "kinds_of" 1868 "Tray.kinds_of" 749 2 1021 1873 1874)) E) (N aj (L aK) E)) (N (n8 "item" 888) (N (hd "kind_in" 1261 "kind_in" 463 3 637 1267 1268) (L aj) E) (N aj (L aK) E))) (N (hc 55 "tid_of") (N (hd "store_as" 778 "store_as" 289 3 317 785 786) (N (hh 105 5 "asked" "Plot.asked") (L (hi 159 12 "wrong" "Tray.wrong" ee 1647 1089)) E) (N aj (L aj) E)) (N (ts 988 [dz,rq,"rows","act"]) (N (he 119 "throw_nothing" sA 829 705) (L aj) E) (N (hj 1785 960) (L (ts 2615 ["w","ev","m","i",nq,"item","thing","addr",lr])) E)))
def U4(P:Params):BT:=N (hb 97 94 sF 301) (N aj (N aK (N aj (L (ts 1912 [dz,"k"])) E) (N (he 136 "from_reference" "framerune.sourcebox" 1453 801) (L (ts 2303 ["i4","e","u4","f","s","g","h","?i4","?e","?s","?u1","?h","o","a","i","t","bool","u1","i1","char","u2","i2","i8","u8","nint"])) E)) (N (ha "Special" 936 362 416 939) (N (ts 1306 ["ev","fnid",rq,"var","key"]) (L (hc 178 "holds_maybe")) E) (N aj (L (hd "_law_aim" 2553 "_law_aim" 1139 3 1437 2562 2563)) E))) (N jd (N (di 5 [eS P sD 842 sA 829,eS P sE 844 "Thrown" 843,eI P sC 846 342 845,eR P sH 856 365,eR P sB 860 366]) (N aK (L aj) E) (N aj (L (hc 203 "_law_meant")) E)) (N (hl 478) (N aj (L aj) E) (L jd)))
def U3:BT:=N aK (N (hd "row_length" 493 "row_length" 118 1 141 497 498) (N (tu [.int 4 724, .int 0 725]) (N (hk 527) (L aj) E) (N (hc 134 "box_value") (L (hd "install_m_objects" 2274 "install_m_objects" 962 1 1293 2278 2279)) E)) (N aj (N aj (L (n8 "m" 2092)) E) (N (ha "Op" 1713 697 912 1716) (L aj) E))) (N (he 57 "is_value" sF 301 209) (N aj (N (hi 105 7 "type_item" "Plot.type_item" sA 829 593) (L aK) E) (N (hk 847) (L (ts 2423 ["w",nq,lr,"kind","flag","content","tag","whole"])) E)) (N (hg 377 474) (N aK (L (hd "unbox_cell" 2178 "unbox_cell" 914 3 1229 2187 2188)) E) (L (hi 158 0 "kind" "KindCloser.kind" ee 1647 977))))
def U2(P:Params):BT:=N aK (N (ts 539 ["kt","k"]) (N aj (N (ts 1146 [dz,"act","mref"]) (L (hh 159 10 Ei "Tray.closed_ref")) E) (N aK (L (hd "_law_refers" 2375 "_law_refers" 991 1 1325 2379 2380)) E)) (N (n8 "kinds" 964) (N (hc 117 "lay_cells") (L (hb 1201 1198 kR 2105)) E) (N (ts 1766 [dz,"m","kind"]) (L aj) E))) (N (ho 656 241) (N (hk 368) (N aj (L (hd "told_default" 2025 "told_default" 796 2 1133 2031 2032)) E) (N (ts 1642 ["thing","slot"]) (L (he 205 "_law_tried" sG 2301 1393)) E)) (N (di 4 [eS P sD 1042 sA 829,eI P sC 1046 379 1045,eR P "begin" 1056 496,eR P sB 1057 497,eR P sJ 1059 500,eR P sK 1061 501,e P sI 1062 .none]) (N (hd "is_struct" 1419 "is_struct" 552 2 749 1424 1425) (L (hh 185 0 kQ "OpUnboxAny.run")) E) (L aj)))
def U1(P:Params):BT:=N (di 2 [eS P sD 276 uo 194,eI P sC 280 19 279,eR P sB 281 73,e P sI 282 .none]) (N (hc 47 "row_level") (N (hl 262) (N (hh 104 1 "goal" "Calls.goal") (L (hi 159 4 "skinds_of" "Tray.skinds_of" ee 1647 1033)) E) (N aj (L (hp "OpToken" 1290 1289 1274 2248)) E)) (N (di 5 [eS P sD 904 sA 829,eS P sE 906 "Item" 905,eI P sC 908 352 907,eR P sH 918 405,eR P sB 926 406]) (N (he 111 "layout_in" sA 829 649) (L aK) E) (N (hj 1706 904) (L (ts 2518 ["w",nq,"i","z","m","due",lr,"addr","told","got","thrown","put"])) E))) (N (hd "args_of" 562 "args_of" 175 2 197 568 569) (N (he 89 "tag_of" Ak 706 329) (N (hd "error" 1168 "Plot.error" 433 3 581 1174 1175) (L aj) E) (N (hh 143 0 sH "Heap.__init__") (L aK) E)) (N (ho 999 457) (N aj (L (hc 182 "nullable_of")) E) (N (ha "KindCloser" 1792 711 968 1795) (L aj) E)))
def U0(P:Params):BT:=N aj (N aK (N (ts 757 ["store","k","t"]) (N aK (L aj) E) (N aj (L (hc 195 "_law_any")) E)) (N (hi 100 0 sH "Special.__init__" sA 829 425) (N aj (L (hd "box_at" 2117 "box_at" 862 4 1189 2127 2128)) E) (N aK (L (he 213 "_law_deed" sG 2301 1449)) E))) (N (ts 624 [dz,"tid",nq,"sort","flags","base","params","asm","word"]) (N aj (N (ts 1236 ["ev","frames","nested"]) (L (hc 161 "told_row")) E) (N (di 4 [eS P sD 1613 KU 1604,eI P sC 1617 664 1616,eR P sH 1627 872,eR P sB 1631 873,eR P sJ 1633 876,eR P sK 1635 877,e P sI 1636 .none]) (L (hd "_law_boxing" 2453 "_law_boxing" 1047 3 1381 2459 2460)) E)) (N aj (N (hc 125 "item_is") (L aj) E) (L (ts 1845 [dz,"store","heap"]))))
def UZ:BT:=N (⟨.type "dict",none,(.dict (a [⟨0, .int 0 303, .int 20 361⟩,⟨1, .int 1 305, .int 9 362⟩,⟨2, .int 2 307, .int 10 363⟩,⟨3, .int 3 309, .int 11 364⟩,⟨4, .int 4 311, .int 12 365⟩,⟨5, .int 5 313, .int 13 366⟩,⟨6, .int 6 315, .int 14 367⟩,⟨7, .int 7 317, .int 15 368⟩,⟨8, .int 8 319, .int 16 369⟩,⟨9, .int 9 321, .int 17 370⟩,⟨10, .int 10 323, .int 18 371⟩,⟨11, .int 11 325, .int 19 372⟩,⟨12, .int 12 327, .int 1 373⟩,⟨13, .int 13 329, .int 4 374⟩]) 14),#[]⟩) (N (he 49 "check_kind_row" sF 301 153) (N aj (N (hb 537 534 sA 829) (L aK) E) (N (hd "unbox_value" 1482 "unbox_value" 600 3 789 1490 1491) (L (he 188 "is_of" kR 2105 1305)) E)) (N (hj 929 408) (N aK (L aj) E) (N (hi 156 0 kQ "Op.run" ee 1647 921) (L (hc 211 "_law_reference")) E))) (N aj (N aK (N (ts 1194 ["begins","blocks","calls","core","cut_bodies","cuts","depth","exprs","guards","kin","kt","most","nested","places","serial","splits","starts","steps","stmts","store","targets","texts","things","unit"]) (L (hn "Tray" 1114 1113 1830)) E) (N (he 144 "heap_alloc" Ej 1502 857) (L aj) E)) (N (hd "ready" 1018 "Splits.ready" 377 3 469 1024 1025) (N (ts 1391 ["ev","rows","act","before"]) (L (hb 1241 1238 kR 2105)) E) (L aj)))
def UY(P:Params):BT:=N (hn "KindTable" 122 121 421) (N aj (N (hc 87 "cut_to") (N aj (L (hd "alloc" 1935 "Tray.alloc" 773 3 1077 1941 1942)) E) (N (hn "Thing" 826 825 1517) (L (he 197 "_law_plain" sG 2301 1337)) E)) (N jd (N (hd Eh 1333 Eh 496 3 693 1339 1340) (L aj) E) (N aj (L aK) E))) (N (hg 224 258) (N (hb 377 374 sA 829) (N (hc 109 "eval_expr") (L (he 163 "tell_wrong" ee 1647 1145)) E) (N (di 5 [eS P sD 1671 ee 1647,eS P sE 1673 "Frame" 1672,eI P sC 1675 679 1674,eR P sH 1687 901,eR P sB 1703 902]) (L aj) E)) (N (di 6 [eS P sD 1072 sA 829,eS P sE 1074 "Calls" 1073,eI P sC 1076 383 1075,eR P sH 1084 517,eR P "goal" 1094 524,eR P sB 1096 525]) (N (he 128 "is_composed" "framerune.sourcebed" 1417 761) (L O9) E) (L (hh 159 2 "slots_of" "Tray.slots_of"))))
def UX(P:Params):BT:=N (boot_o_10 P) (N aj (N (hd sH 218 "RuneError.__init__" 12 3 29 224 225) U5 (U4 P)) (N (di 2 [eS P sD 244 uo 194,eI P sC 248 15 247,eR P sB 249 49,e P sI 250 .none]) U3 (U2 P))) (N (hg 12 34) (N Pb (U1 P) (U0 P)) (N aK UZ (UY P)))
def UW:BT:=N aK (N aj (N (hn "Store" 262 261 663) (N aj (L (ts 1879 [dz,"k"])) E) (N (he 130 "default_parts" "framerune.sourcebed" 1417 773) (L (hd kQ 2260 "OpToken.run" 959 4 1281 2267 2268)) E)) (N (hk 388) (N (ts 1273 ["ev","k"]) (L (hc 165 "stored")) E) (N (ts 1688 ["args","body","caught","caughtv","conts","extra","home","ip","keep","locals_","mref",rq,"prefix","sort","stack"]) (L (hd "_law_open" 2500 "_law_open" 1087 3 1409 2512 2513)) E))) (N aK (N (ts 791 ["kt","k"]) (N aK (L aj) E) (N aj (L (hc 199 "_law_value")) E)) (N (hi 101 0 sH "Guard.__init__" sA 829 453) (N aj (L aj) E) (N jd (L (he 217 "_law_settled" sG 2301 1477)) E)))
def UV:BT:=N aj (N (hc 51 "check_args") (N (hd "wrap64" 747 "wrap64" 256 1 289 751 752) (N (hh 105 1 "is_a" "Plot.is_a") (L (hi 159 8 "plain" "Tray.plain" ee 1647 1061)) E) (N aj (L aj) E)) (N (ts 949 [dz,"kinds"]) (N (he 115 "block_lids" sA 829 677) (L aK) E) (N (⟨.none,none,(.fields (a [.int 703 0, .int 4 0, .ref 942, .int 706 0, .int 4 0, .ref 949, .int 709 0, .int 4 0, .ref 956])),#[]⟩) (L (ts 2568 ["w","o","x","y",nq,"i"])) E))) (N (ha "TypeDef" 611 196 228 614) (N (hb 357 354 sA 829) (N (hd "count_step" 1226 "count_step" 441 1 609 1230 1231) (L aj) E) (N (hh 146 0 sH "PlaceHost.__init__") (L aK) E)) (N aj (N aj (L (hl 1252)) E) (L (ha "Tray" 1832 718 996 1835))))
def UU(P:Params):BT:=N (di 2 [eS P sD 292 uo 194,eI P sC 296 21 295,eR P sB 297 85,e P sI 298 .none]) (N (ts 503 ["kt","row","sort","inner"]) (N aj (N (di 13 [eS P sD 1111 sA 829,eS P sE 1113 "Plot" 1112,eI P sC 1115 390 1114,eR P sH 1124 545,eR P "is_a" 1133 552,eR P "closed" 1142 559,eR P Ei 1151 566,eR P "first" 1159 573,eR P "asked" 1167 580,eR P "error" 1176 587,eR P "type_item" 1184 594,eR P "seen_as" 1193 601,eR P sB 1218 602]) (L (hh 159 6 "target" "Tray.target")) E) (N aK (L (ts 2284 ["m",lr,"k","thing"])) E)) (N (ts 919 ["kind",rq,"rows","slots","special","text","version"]) (N (hc 113 "new_item") (L (he 174 "throw_null" "framerune.mfield" 2087 1173)) E) (N (ts 1726 [dz,"m","f","operand"]) (L aj) E))) (N aj (N (hc 91 "fits") (N aj (L (hd "push_call" 1969 "Tray.push_call" 785 4 1105 1976 1977)) E) (N (ts 1597 ["heap","kind","slots","thing"]) (L (he 201 "_law_tagged" sG 2301 1365)) E)) (N aK (N (hd "when_says" 1374 "when_says" 524 5 721 1385 1386) (L (di 5 [eS P sD 2197 kR 2105,eS P sE 2199 "OpUnbox" 2198,eI P sC 2201 924 2200,eR P kQ 2213 1249,eR P sB 2214 1250])) E) (L aj)))
def u64(P:Params):BT:=N (hd "put" 450 "KindTable.put" 77 2 113 462 463) (N (he 53 "kind_sort" sF 301 181) (N aj (N (hi 105 3 Ei "Plot.closed_ref" sA 829 565) (L aK) E) (N (hd sH 1529 "Thing.__init__" 632 4 817 1536 1537) (L (ts 2385 ["w",nq])) E)) (N (hj 968 436) (N aK (L aj) E) (N (hi 157 1 "done" "Starter.done" ee 1647 949) (L (hc 215 "_law_types")) E))) (N aj (N (di 5 [eS P sD 875 sA 829,eS P sE 877 "Unheld" 876,eI P sC 879 348 878,eR P sH 887 385,eR P sB 889 386]) (N aj (L (ts 2037 ["m","code","mid","ip","f"])) E) (N (he 147 "heap_place" KU 1604 885) (L aj) E)) (N (hk 499) (N (ts 1430 ["ev","k"]) (L (di 2 [eS P sD 2225 kR 2105,eI P sC 2229 939 2228,eR P kQ 2243 1268,eR P sB 2244 1269,e P sI 2245 .none])) E) (L aj)))
def UT(P:Params):BT:=N Pb (N aK (N aj (N (di 4 [eS P sD 1072 sA 829,eI P sC 1076 383 1075,eR P sH 1084 517,eR P "goal" 1094 524,eR P sB 1096 525,eR P sJ 1098 528,eR P sK 1100 529,e P sI 1101 .none]) (L aj) E) (N aj (L aK) E)) (N (hb 397 394 sA 829) (N aj (L (hd "first_slots" 2063 "first_slots" 823 3 1161 2072 2073)) E) (N jd (L (he 209 "_law_place" sG 2301 1421)) E))) (N (ts 574 ["kt","k"]) (N aj (N (ts 1180 [dz,"k"]) (L (hh 159 14 Eh "Tray.throw_new")) E) (N (di 4 [eS P sD 1560 Ej 1502,eI P sC 1564 639 1563,eR P sH 1573 844,eR P sB 1586 845,eR P sJ 1588 848,eR P sK 1590 849,e P sI 1591 .none]) (L (hd "_law_source" 2411 "_law_source" 1009 3 1353 2417 2418)) E)) (N aj (N (hc 121 "row_taking") (L aK) E) (L (ts 1805 [dz,"m","f","k"]))))
def US(P:Params):BT:=N (hh 45 1 "row" "KindTable.row") (N (hd "may_stand" 527 "may_stand" 154 2 169 533 534) (N (he 85 "plain_kind" Ak 706 301) (N (hd "closed" 1134 "Plot.closed" 421 3 553 1140 1141) (L aj) E) (N (hg 632 822) (L aK) E)) (N aj (N aj (L (di 5 [eS P sD 2137 kR 2105,eS P sE 2139 "OpBox" 2138,eI P sC 2141 884 2140,eR P kQ 2151 1209,eR P sB 2152 1210])) E) (N (hd "need" 1753 "Starter.need" 703 4 937 1760 1761) (L aj) E))) (N (hi 67 0 sH "TypeDef.__init__" Ek 595 237) (N (ts 857 ["goal","item","row"]) (N (he 107 "go_deeper" sA 829 621) (L aK) E) (N (hk 875) (L (ts 2465 ["w",nq,"i","ev","k","left"])) E)) (N (hh 103 0 "begin" "Begins.begin") (N aK (L aj) E) (L (hi 159 0 sH "Tray.__init__" ee 1647 1005))))
def UR(P:Params):BT:=N (di 7 [eS P sD 428 sF 301,eS P sE 430 "KindTable" 429,eI P sC 432 56 431,eR P sH 441 105,eR P "row" 449 112,eR P "put" 464 119,eR P sB 470 120]) (N aj (N (hc 83 "wrap32") (N aj (L (hd "default" 1901 "Tray.default" 761 2 1049 1906 1907)) E) (N (ts 1496 ["ev","k",rq]) (L aj) E)) (N jd (N (hd "block_number" 1296 "block_number" 473 1 665 1300 1301) (L aj) E) (N (ho 1734 925) (L aK) E))) (N (hc 59 "is_int") (N (hd "put_path" 813 "put_path" 326 3 345 824 825) (N (hj 1221 604) (L (hl 1114)) E) (N aj (L aj) E)) (N (hn "Splits" 478 477 1006) (N (he 123 "push_guard" sA 829 733) (L aj) E) (L (hj 1825 988))))
def UQ:BT:=N (hl 122) (N aj (N aK (N aj (L (ts 1947 [dz,"code"])) E) (N (hl 826) (L aj) E)) (N (ha "Guard" 975 369 444 978) (N (n8 "ev" 1345) (L (hl 1212)) E) (N aj (L (hd "_law_world" 2597 "_law_world" 1187 1 1465 2609 2610)) E))) (N aK (N aj (N aK (L aj) E) (N (hb 893 890 ee 1647) (L (hc 207 "_law_box")) E)) (N (hb 509 506 sA 829) (N aj (L (hg 959 1286)) E) (L aK)))
def UP(P:Params):BT:=N P2 (N P0 (N (⟨.type "type",none,(.cls ⟨z "RuneError", [.type "Exception"], [.ref 38, .type "Exception", .type "BaseException", .type "object"],37,z "RuneError",true, [], [.ref 51, .ref 63, .ref 75, .ref 87],false,none,false⟩),a [some (.ref 22),none,some (s "RuneError" 206),some (s "RuneError" 214),some (.builtin "Exception.__new__"),some (.bool true)]⟩) UW UV) (N Pb (UU P) (u64 P))) (N aK (N aK (UT P) (US P)) (N (di 2 [eS P sD 260 uo 194,eI P sC 264 17 263,eR P sB 265 61,e P sI 266 .none]) (UR P) UQ))
def tq(P:Params)(n:Nat)(x y z v:Obj):BT:=pr (N (boot_o_0 P) (N (boot_o_1 P) (N y (u9 P) (VD P)) (N (boot_o_5 P) (Vu P) (N P3 (N (he 0 "_wall" "__main__" 164 20) (N (di 3 [eS P sD 213 uo 194,eI P sC 217 10 216,eR P sH 226 35,eR P sB 229 36,eR P sK 231 39,e P sI 232 .none]) (Vt P) (Vs P)) (N (hl 51) Vr Vq)) (N aj (N aj Vp Vo) (N aj (N jd (N (ts 513 ["kt","row"]) (N aj (N (ts 1119 [dz,"unit","most"]) (L (hh 159 7 "default" "Tray.default")) E) (N aK (L (ts 2294 ["m","f","k",lr])) E)) (N aj (N (hc 114 "block_number") (L (he 175 "thing_of" "framerune.mfield" 2087 1180)) E) (N v (L aj) E))) (N aj (N (hc 92 "put_path") (N (ho 1219 604) (L (hk 1114)) E) (N (di 5 [eS P sD 1613 KU 1604,eS P sE 1615 "PlaceHost" 1614,eI P sC 1617 664 1616,eR P sH 1627 872,eR P sB 1631 873]) (L (he 202 "_law_goes" sG 2301 1372)) E)) (N (di 4 [eS P sD 1013 sA 829,eI P sC 1017 375 1016,eR P "ready" 1026 475,eR P sB 1027 476,eR P sJ 1029 479,eR P sK 1031 480,e P sI 1032 .none]) (N (hd "push_guard" 1388 "push_guard" 536 3 728 1395 1396) (L (ts 2205 [dz,"m","f","operand","k","thing"])) E) (L (ho 1823 988))))) Vn))))) (N x (N (boot_o_4 P) (Ve P) (N z (N (hd "_wall" 187 "_wall" 1 1 15 191 192) (N (ts 227 ["at","code"]) (Vd P) (Vc P)) (N (hk 51) Vb Va)) (N (hb 27 24 uo 194) (N (di 4 [eS P sD 244 uo 194,eS P sE 246 "BadKind" 245,eI P sC 248 15 247,eR P sB 249 49]) U9 (U8 P)) (N (hb 59 56 uo 194) (U7 P) (U6 P))))) (N (boot_o_6 P) (UX P) (UP P)))) n
def cr(a n:Nat):List Stmt:=(List.range' a n).map cl
def t1(P:Params):BT:=tq P 90 (Lu P) (⟨.type "dict",none,(.dict (a (eS P yk 165 sF 301::Ig P)) 49),#[]⟩) P1 Em
def S1(w:World)(os:OsState):SharedT:=⟨t1 w.params,90,{},⟨[]⟩,{},361,os⟩
def g1:List Stmt:=cr 0 42
theorem q1:∀w:World,(λos=>segRunT treeTable pw w 11 an 1 1436 (S0 w os) (piecesOf g1 en cE ⟨0,0,0,0⟩ bB))=λos=>some (.next,S1 w os,cE,⟨52,0,52,13⟩):=by intro w;rewrite [Za,Y3];kernel_rfl
def t2(P:Params):BT:=tq P 91 (Lu P) (⟨.type "dict",none,(.dict (a (eS P yk 165 sF 301::Ie P)) 50),#[]⟩) P1 Em
def S2(w:World)(os:OsState):SharedT:=⟨t2 w.params,91,{},⟨[]⟩,{},390,os⟩
def g2:List Stmt:= [cl 42]
theorem q2:∀w:World,(λos=>segRunT treeTable pw w 11 an 1 207 (S1 w os) (piecesOf g2 en cE ⟨52,0,52,13⟩ bB))=λos=>some (.next,S2 w os,cE,⟨53,0,53,8⟩):=byRow2 "special-get-raises" (by intro w;rewrite [Za,Y3];kernel_rfl) (by intro w;rewrite [Za,Y3];kernel_rfl)
def t3(P:Params):BT:=tq P 92 (Lu P) (⟨.type "dict",none,(.dict (a (eS P yk 165 sF 301::Id P)) 51),#[]⟩) P1 Em
def S3(w:World)(os:OsState):SharedT:=⟨t3 w.params,92,{},⟨[]⟩,{},419,os⟩
def g3:List Stmt:= [cl 43]
theorem q3:∀w:World,(λos=>segRunT treeTable pw w 11 an 1 207 (S2 w os) (piecesOf g3 en cE ⟨53,0,53,8⟩ bB))=λos=>some (.next,S3 w os,cE,⟨54,0,54,8⟩):=byRow2 "special-get-raises" (by intro w;rewrite [Za,Y3];kernel_rfl) (by intro w;rewrite [Za,Y3];kernel_rfl)
def t4(P:Params):BT:=tq P 225 (Lu P) (⟨.type "dict",none,(.dict (a (eS P yk 165 Ek 595::Ic P)) 73),#[]⟩) (⟨.none,none,(.fields (a (.int 1 0::CD))),#[]⟩) Em
def S4(w:World)(os:OsState):SharedT:=⟨t4 w.params,225,{},⟨[]⟩,{},609,os⟩
def g4:List Stmt:=cr 44 23
theorem q4:∀w:World,(λos=>segRunT treeTable pw w 11 an 1 796 (S3 w os) (piecesOf g4 en cE ⟨54,0,54,8⟩ bB))=λos=>some (.next,S4 w os,cE,⟨195,0,195,6⟩):=by intro w;rewrite [Za,Y3];kernel_rfl
def t5(P:Params):BT:=tq P 352 (Lu P) (⟨.type "dict",none,(.dict (a (eS P yk 165 sA 829::Ib P)) 101),#[]⟩) (⟨.none,none,(.fields (a (.int 1 0::CC))),#[]⟩) Em
def S5(w:World)(os:OsState):SharedT:=⟨t5 w.params,352,{},⟨[]⟩,{},835,os⟩
def g5:List Stmt:=cr 67 30
theorem q5:∀w:World,(λos=>segRunT treeTable pw w 11 an 1 995 (S4 w os) (piecesOf g5 en cE ⟨195,0,195,6⟩ bB))=λos=>some (.next,S5 w os,cE,⟨341,0,341,8⟩):=by intro w;rewrite [Za,Y3];kernel_rfl
def t6(P:Params):BT:=tq P 532 (GZ P) (⟨.type "dict",none,(.dict (a (eS P yk 165 sA 829::Ia P)) 109),#[]⟩) (⟨.none,none,(.fields (a (.int 1 0::CB))),#[]⟩) Em
def S6(w:World)(os:OsState):SharedT:=⟨t6 w.params,532,{},⟨[]⟩,{},1104,os⟩
def g6:List Stmt:=cr 97 8
theorem q6:∀w:World,(λos=>segRunT treeTable pw w 11 an 1 1874 (S5 w os) (piecesOf g6 en cE ⟨341,0,341,8⟩ bB))=λos=>some (.next,S6 w os,cE,⟨383,0,389,48⟩):=by intro w;rewrite [Za,Y3];kernel_rfl
def t7(P:Params):BT:=tq P 742 (GZ P) (⟨.type "dict",none,(.dict (a (eS P yk 165 sA 829::H9 P)) 129),#[]⟩) (⟨.none,none,(.fields (a (.int 1 0::CA))),#[]⟩) Em
def S7(w:World)(os:OsState):SharedT:=⟨t7 w.params,742,{},⟨[]⟩,{},1406,os⟩
def g7:List Stmt:=cr 105 20
theorem q7:∀w:World,(λos=>segRunT treeTable pw w 11 an 1 1106 (S6 w os) (piecesOf g7 en cE ⟨383,0,389,48⟩ bB))=λos=>some (.next,S7 w os,cE,⟨540,0,541,26⟩):=by intro w;rewrite [Za,Y3];kernel_rfl
def t8(P:Params):BT:=tq P 859 (GZ P) (⟨.type "dict",none,(.dict (a (eS P yk 165 KU 1604::H8 P)) 146),#[]⟩) (⟨.none,none,(.fields (a (.int 1 0::Cz))),#[]⟩) Em
def S8(w:World)(os:OsState):SharedT:=⟨t8 w.params,859,{},⟨[]⟩,{},1606,os⟩
def g8:List Stmt:=cr 125 21
theorem q8:∀w:World,(λos=>segRunT treeTable pw w 11 an 1 883 (S7 w os) (piecesOf g8 en cE ⟨540,0,541,26⟩ bB))=λos=>some (.next,S8 w os,cE,⟨663,0,663,8⟩):=by intro w;rewrite [Za,Y3];kernel_rfl
def VQ(P:Params):BT:=tq P 993 (GZ P) (⟨.type "dict",none,(.dict (a (eS P yk 165 ee 1647::CI P)) 158),#[]⟩) (⟨.none,none,(.fields (a (.int 1 0::yd))),#[]⟩) Tg
def Uu(w:World)(os:OsState):SharedT:=⟨VQ w.params,993,{},⟨[]⟩,{},1830,os⟩
def QK:List Stmt:=cr 146 13
theorem V8:∀w:World,(λos=>segRunT treeTable pw w 11 an 1 1343 (S8 w os) (piecesOf QK en cE ⟨663,0,663,8⟩ bB))=λos=>some (.next,Uu w os,cE,⟨711,0,717,19⟩):=by intro w;rewrite [Za,Y3];kernel_rfl
def VU(P:Params):BT:=tq P 1168 (GZ P) (⟨.type "dict",none,(.dict (a (eS P yk 165 ee 1647::CH P)) 171),#[]⟩) (⟨.none,none,(.fields (a (.int 1 0::yc))),#[]⟩) Tg
def Ux(w:World)(os:OsState):SharedT:=⟨VU w.params,1168,{},⟨[]⟩,{},2085,os⟩
def QN:List Stmt:=cr 159 13
theorem Wb:∀w:World,(λos=>segRunT treeTable pw w 11 an 1 998 (Uu w os) (piecesOf QN en cE ⟨711,0,717,19⟩ bB))=λos=>some (.next,Ux w os,cE,⟨842,0,842,11⟩):=by intro w;rewrite [Za,Y3];kernel_rfl
def VT(P:Params):BT:=tq P 1255 (GZ P) (⟨.type "dict",none,(.dict (a (eS P yk 165 kR 2105::CG P)) 182),#[]⟩) (⟨.none,none,(.fields (a (.int 1 0::yb))),#[]⟩) (⟨.type "type",none,(.cls ⟨z "Op", [.type "object"], [.ref 925, .type "object"],924,z "Op",true, [], [.ref 1212, .ref 1252],false,none,false⟩),a [none,none,some (s "Op" 1711),some (s "Op" 1719),some (.builtin "object.__new__"),some (.bool true)]⟩)
def Uw(w:World)(os:OsState):SharedT:=⟨VT w.params,1255,{},⟨[]⟩,{},2218,os⟩
def QM:List Stmt:=cr 172 13
theorem Wa:∀w:World,(λos=>segRunT treeTable pw w 11 an 1 756 (Ux w os) (piecesOf QM en cE ⟨842,0,842,11⟩ bB))=λos=>some (.next,Uw w os,cE,⟨924,0,938,22⟩):=by intro w;rewrite [Za,Y3];kernel_rfl
def VS(P:Params):BT:=tq P 1374 (GZ P) (⟨.type "dict",none,(.dict (a (eS P yk 165 sG 2301::CF P)) 199),#[]⟩) (⟨.none,none,(.fields (a (.int 1 0::ya))),#[]⟩) Em
def Uv(w:World)(os:OsState):SharedT:=⟨VS w.params,1374,{},⟨[]⟩,{},2443,os⟩
def QL:List Stmt:=cr 185 18
theorem V9:∀w:World,(λos=>segRunT treeTable pw w 11 an 1 955 (Uw w os) (piecesOf QL en cE ⟨924,0,938,22⟩ bB))=λos=>some (.next,Uv w os,cE,⟨1032,0,1033,92⟩):=by intro w;rewrite [Za,Y3];kernel_rfl
def t9(P:Params):BT:=tq P 1486 (GZ P) (⟨.type "dict",none,(.dict (a (eS P yk 165 sG 2301::KN P)) 215),#[]⟩) (⟨.none,none,(.fields (a (.int 1 0::GR))),#[]⟩) Em
def S9(w:World)(os:OsState):SharedT:=⟨t9 w.params,1486,{},⟨[]⟩,{},2636,os⟩
def g9:List Stmt:=cr 203 16
theorem q9:∀w:World,(λos=>segRunT treeTable pw w 11 an 1 546 (Uv w os) (piecesOf g9 en cE ⟨1032,0,1033,92⟩ bB))=λos=>some (.next,S9 w os,cE,⟨1241,0,1249,26⟩):=by intro w;rewrite [Za,Y3];kernel_rfl
end Hd
end Head
end Mine
end
section
namespace Mine
section Head
open PySem PySem.W PyProof.Rows PySem.Calls
namespace Hd
def H1(P:Params):Heap:=absHeap (t9 P) 1486 {}
def Sf(w:World)(os:OsState):Shared:=⟨H1 w.params,⟨[]⟩,{},2636,os⟩
theorem pre:∀w:World,(λos=>topGo treeTable pw w 11 an 12 ⟨boot_heap w.params,⟨[]⟩,boot_drawn,boot_toks,os⟩ (topStub pw))=λos=>some (Sa w os,⟨denote treeTable cE,cE,⟨0,0,0,0⟩,bB⟩):=by intro w;rewrite [PySem.W.Fast.te15667345088766844465,Y3,PySem.W.Fast.te11892475500146522536];kernel_rfl
theorem X2:∀w:World,(λos=>segRun treeTable pw w 11 an 1 1 (Sa w os) (blockOf (behindTheImports pw) en cE ⟨0,0,0,0⟩ bB))=λos=>some (.next,(S0 w os).abs,cE,⟨0,0,0,0⟩):=by intro w;rewrite [PySem.W.Fast.te14374325043358763698,Y3];kernel_rfl
theorem Et:∀w:World,(λos=>topRun treeTable pw w 11 an 2 (S9 w os).abs ⟨doneF .next,cE,⟨1241,0,1249,26⟩,bB⟩)=λos=>some (Sf w os):=by intro w;rewrite [PySem.W.Fast.te14082659384304107361,Y3];kernel_rfl
theorem GI:behindTheImports pw=(g1++(g2++(g3++(g4++(g5++(g6++(g7++(g8++(QK++(QN++(QM++(QL++(g9++ []))))))))))))):=by kernel_rfl
theorem Rl(w:World)(os:OsState):topRun treeTable pw w 11 an (1436+(207+(207+(796+(995+(1874+(1106+(883+(1343+(998+(756+(955+(546+2))))))))))))) (S0 w os).abs (restOf (g1++(g2++(g3++(g4++(g5++(g6++(g7++(g8++(QK++(QN++(QM++(QL++(g9++ []))))))))))))) en cE ⟨0,0,0,0⟩ bB)=some (Sf w os):=
 zaj (zai (Z0 (q1 w) os)) (zaj (zai (Z0 (q2 w) os)) (zaj (zai (Z0 (q3 w) os)) (zaj (zai (Z0 (q4 w) os)) (zaj (zai (Z0 (q5 w) os)) (zaj (zai (Z0 (q6 w) os)) (zaj (zai (Z0 (q7 w) os)) (zaj (zai (Z0 (q8 w) os)) (zaj (zai (Z0 (V8 w) os)) (zaj (zai (Z0 (Wb w) os)) (zaj (zai (Z0 (Wa w) os)) (zaj (zai (Z0 (V9 w) os)) (zaj (zai (Z0 (q9 w) os)) (Z0 (Et w) os)))))))))))))
theorem Rk(w:World)(os:OsState):topRun treeTable pw w 11 an (1436+(207+(207+(796+(995+(1874+(1106+(883+(1343+(998+(756+(955+(546+2))))))))))))) (S0 w os).abs (restOf (behindTheImports pw) en cE ⟨0,0,0,0⟩ bB)=some (Sf w os):=
 (YV (λb=>topRun treeTable pw w 11 an (1436+(207+(207+(796+(995+(1874+(1106+(883+(1343+(998+(756+(955+(546+2))))))))))))) (S0 w os).abs (restOf b en cE ⟨0,0,0,0⟩ bB)) GI).trans (Rl w os)
theorem run(w:World)(os:OsState):topRun treeTable pw w 11 an (12+(1+(1436+(207+(207+(796+(995+(1874+(1106+(883+(1343+(998+(756+(955+(546+2))))))))))))))) ⟨boot_heap w.params,⟨[]⟩,boot_drawn,boot_toks,os⟩ (topStub pw)=some (Sf w os):=
 go_top (Z0 (pre w) os) (piece_block (Z0 (X2 w) os) (Rk w os))
noncomputable def Ka:List Nat:= [3,20,21,34,35,37,38,50,51,62,63,74,75,86,87,90,91,104,105,111,112,118,119,121,122,132,133,139,140,146,147,153,154,160,161,167,168,174,175,181,182,188,189,195,196,202,203,209,210,216,217,223,224,237,238,240,241,258,259,261,262,272,273,274,280,281,287,288,294,295,301,302,308,309,315,316,322,323,329,330,336,337,343,344,350,351,364,365,367,368,384,385,387,388,404,405,407,408,425,426,432,433,435,436,453,454,456,457,474,475,477,478,495,496,498,499,516,517,523,524,526,527,544,545,551,552,558,559,565,566,572,573,579,580,586,587,593,594,600,601,603,604,614,615,621,622,628,629,635,636,642,643,649,650,656,657,663,664,670,671,677,678,684,685,691,692,698,699,705,706,712,713,719,720,726,727,733,734,740,741,747,748,754,755,761,762,768,769,773,774,780,781,787,788,794,795,801,802,808,809,822,823,825,826,843,844,846,847,857,858,871,872,874,875,885,886,887,900,901,903,904,921,922,924,925,942,943,949,950,956,957,959,960,977,978,984,985,987,988,1005,1006,1012,1013,1019,1020,1026,1027,1033,1034,1040,1041,1047,1048,1054,1055,1061,1062,1068,1069,1075,1076,1082,1083,1089,1090,1096,1097,1103,1104,1110,1111,1113,1114,1124,1125,1131,1132,1138,1139,1145,1146,1152,1153,1159,1160,1166,1167,1173,1174,1180,1181,1187,1188,1194,1195,1208,1209,1211,1212,1220,1221,1227,1228,1234,1235,1248,1249,1251,1252,1267,1268,1270,1271,1286,1287,1289,1290,1298,1299,1305,1306,1312,1313,1314,1315,1316,1317,1323,1324,1330,1331,1337,1338,1344,1345,1351,1352,1358,1359,1365,1366,1372,1373,1379,1380,1386,1387,1393,1394,1400,1401,1407,1408,1414,1415,1421,1422,1428,1429,1435,1436,1442,1443,1449,1450,1456,1457,1463,1464,1470,1471,1477,1478,1484,1485]
def Kf(P:Params):Frag:=Ka.map λa=>(a,((t9 P).get a).getD default)
def ls:List Str:= [z "_wall",z "LF_NOTYPE",z "LF_ENUM",z "W_SLOT",z "W_EMPTY",z "W_KIND",z "RuneError",z "BadKind",z "LoadFault",z "RunBound",z "LeftOut",z "VOID",z "BOOL",z "CHAR",z "I1",z "U1",z "I2",z "U2",z "I4",z "U4",z "I8",z "U8",z "NINT",z "OBJECT",z "STRING",z "NULLK",z "PRIM_END",z "R_PRIM",z "R_CLASS",z "R_VALUE",z "R_ARRAY",z "R_BYREF",z "R_VAR",z "R_MVAR",z "R_BOXED",z "R_ROREF",z "R_FTN",z "R_RAW",z "DEEPEST_KIND",z "HEAVIEST_KIND",z "PRIM_TID",z "TID_PRIM",z "ARRAY_TID",z "KindTable",z "inner_kinds",z "row_level",z "row_length",z "check_kind_row",z "check_named",z "check_args",z "may_stand",z "kind_sort",z "elem_of",z "tid_of",z "args_of",z "is_value",z "is_var",z "is_int",z "S_STRUCT",z "S_ENUM",z "VA_NONE",z "T_NULLABLE",z "T_NULLREF",z "T_CAST",z "TypeDef",z "Store",z "type_of",z "V_I4",z "V_I8",z "V_NINT",z "V_REF",z "V_STRUCT",z "V_PLACE",z "V_FTN",z "V_TEXT",z "NULLV",z "NO_TAG",z "PL_HEAP",z "wrap_bits",z "wrap32",z "wrap64",z "plain_kind",z "plain_default",z "cut_to",z "store_as",z "tag_of",z "tag_of_row",z "fits",z "put_path",z "S_BLOCK",z "MOST_NESTED",z "SAY_NULL",z "Thrown",z "Unheld",z "Item",z "Special",z "Guard",z "Splits",z "Begins",z "Calls",z "Plot",z "count_step",z "go_deeper",z "next_number",z "eval_expr",z "kind_in",z "layout_in",z "is_question",z "new_item",z "block_number",z "block_lids",z "begin_block",z "lay_cells",z "throw_new",z "throw_nothing",z "throw_item",z "row_taking",z "when_says",z "push_guard",z "drop_guards",z "item_is",z "is_struct",z "is_composed",z "default_of",z "default_parts",z "SAY_CAST",z "put_value_at",z "box_value",z "unbox_value",z "from_reference",z "FIRST_ADDRESS",z "HEAD_WORDS",z "LEAST_SIZE",z "words_for",z "Thing",z "Heap",z "heap_alloc",z "PlaceHost",z "heap_place",z "JP_FALL",z "JP_STAY",z "ST_RUN",z "ST_WRONG",z "TEXT_NULL",z "LOST",z "Frame",z "Op",z "Starter",z "KindCloser",z "Tray",z "note_thrown",z "told_row",z "told_default",z "tell_wrong",z "pop_value",z "stored",z "first_slots",z "OP_UNBOX",z "OP_BOX",z "OP_UNBOX_ANY",z "OP_LDTOKEN",z "CF_HASVALUE",z "CF_VALUE",z "throw_null",z "thing_of",z "TEXT_CAST",z "holds_maybe",z "box_at",z "OpBox",z "boxed_thing",z "nullable_of",z "unbox_cell",z "OpUnbox",z "OpUnboxAny",z "OpToken",z "install_m_objects",z "is_of",z "cast_top",z "_law_NAMES",z "_law_UNDERS",z "_law_EDGES",z "_law_FIRST",z "_law_any",z "_law_refers",z "_law_plain",z "_law_span",z "_law_value",z "_law_source",z "_law_tagged",z "_law_goes",z "_law_meant",z "_law_boxing",z "_law_tried",z "_law_op",z "_law_box",z "_law_open",z "_law_place",z "_law_write",z "_law_reference",z "_law_aim",z "_law_deed",z "_law_kinds",z "_law_types",z "_law_world",z "_law_settled"]
def qv:Program:={pw with main:={pw.main with body:= [cl 218]}}
end Hd
end Head
end Mine
end
section
section
namespace Mine.Hd
open PySem PySem.W PyProof.Rows PySem.Calls
abbrev rR:OpenRow:=PySem.Challenge.rw_up0015_01.row
abbrev rW:RowW:=rR.toRowW
def HK:Hook:=kHook Kf Ka (λ_=>by kernel_rfl)
def Xt:Shared->Bool:=λs=>xlAt qv [] s&&recOk (RowW.records rW) s
theorem Nq:∀w:World,(fencedOpening treeTable pw w 24304).map (λs=>(s.heap,s.gens,s.drawn,s.toks))=some (boot_heap w.params,Array.mk [],boot_drawn,boot_toks):=
 boot_open (by kernel_rfl) (by decide+kernel) (λs=>by kernel_rfl)
theorem size:∀w:World,((boot_heap w.params).isNs mainGlobals&&(Array.mk []:Array GenState).size==0,(boot_heap w.params).objs.size,(boot_heap w.params).nsMap mainGlobals "__annotations__")=(true,11,an):=by
 intro w;kernel_rfl
def cw:Option Obj->Bool
 |some o=>(alive o).isSome
 |none=>false
theorem J8(t:BT)(n:Nat)(as:List Nat)(h:(as.all λa=>Nat.blt a n&&cw (t.get a))=true):as.map (absHeap t n {}).get? =(as.map λa=>(a,(t.get a).getD default)).map λp=>some p.2:=by
 rw[List.map_map];refine List.map_congr_left λa ha=>?_;have h:=YN.mp (YO.mp h a ha);cases e:t.get a with
 |none=>rw[e]at h;exact nomatch h.2
 |some o=>
  rw[e]at h;rw[abs_get (YX h.1) e];show alive o=some ((t.get a).getD default);rw[e];obtain⟨c,d,dt,sl⟩:=o;cases dt<;>first|rfl|exact nomatch h.2
theorem Wz:∀P:Params,(Ka.all λa=>Nat.blt a 1486&&cw ((t9 P).get a))=true:=by
 intro P;kernel_rfl
theorem Wx:∀w:World,(λos:OsState=>Hook.obs HK (Sf w os))=λ_=>Hook.val HK w:=by
 intro w;funext os;exact J8 (t9 w.params) 1486 Ka (Wz w.params)
theorem Ww:∀w:World,(λos:OsState=>openSeen qv ls (importedModules pw.main.body) Xt true (Sf w os))=λ_=>openGood qv ls:=by
 intro w
 rewrite [PySem.W.Fast.te4187177175401517315,zaA]
 kernel_rfl
theorem Wy:∀w:World,(λos:OsState=>(staticsOk (importedModules pw.main.body) (boot_heap w.params) (H1 w.params)&&namesBound pw (H1 w.params)&&gensDone (Sf w os)&&laidKept (boot_heap w.params) (H1 w.params)))=λ_=>true:=by
 intro w
 rewrite [zaA]
 kernel_rfl
end Mine.Hd
end
section
section
namespace Mine.Hd
open PySem PySem.W PyProof.Rows PySem.Calls
abbrev Rw:=PySem.Challenge.rw_up0015_01
theorem V4:namesResolve Rw.row.prog=true:=by(try rewrite [PySem.W.Fast.te8377067652309620493]);(try rewrite [Y1]);kernel_rfl
abbrev mB:=Rw.row.prog.main.body
theorem V7:readsOut Rw.row.prog mB (Str.ofString "vars")=false:=by kernel_rfl
theorem V6:readsOut Rw.row.prog mB (Str.ofString "dir")=false:=by kernel_rfl
theorem V5:readsOut Rw.row.prog mB (Str.ofString "locals")=false:=by kernel_rfl
theorem VW:(importedModules mB).all cThrough.contains=true:=by(try rewrite [zaA]);kernel_rfl
theorem Wo:noRoadLSs {strict:= !true,foot:=none,bare:= []} mB=true:=by(try rewrite [zbI]);kernel_rfl
theorem fi(a b c:α)(f:α->Bool)(h1:f a=false)(h2:f b=false)(h3:f c=false): [a,b,c].filter f= []:=by simp only[List.filter,h1,h2,h3]
theorem V3:noRoadLSs {strict:= !(importedModules mB).all cThrough.contains,foot:=none,bare:=List.filter (readsOut Rw.row.prog mB) [Str.ofString "vars",Str.ofString "dir",Str.ofString "locals"]} mB=true:=by
 rw[fi _ _ _ _ V7 V6 V5,VW];exact Wo
theorem V2:(namesMeet Rw.row.prog Rw.row.prog.main.body λ_ n=>attrL n)=true:=by(try rewrite [Z7]);(try rewrite [Y1]);(try rewrite [PySem.W.Fast.te17868728402115742887]);kernel_rfl
theorem Rd:(Rw.bound'.all λn=> !builtinNamed n||Rw.about== [n]|| !Rw.reads n)=true:=by(try rewrite [zbO]);(try rewrite [zaz]);kernel_rfl
theorem Rc:(namesMeet Rw.prog Rw.above λ_ n=> !Rw.own.contains n)=true:=by(try rewrite [Z7]);(try rewrite [Zo]);(try rewrite [Z8]);kernel_rfl
theorem Re:PySem.Challenge.rw_up0015_01.wellSaid=true:=by
 unfold OpenLaw.wellSaid
 repeat' (first|with_reducible refine look_both ?_ ?_|unfold OpenRow.wellSaid|unfold OpenRow.partSaid|unfold looksOpen)
 ·((try rewrite [PySem.W.Fast.te11788848310118352699]);(try rewrite [Y1]);kernel_rfl)
 ·((try rewrite [PySem.W.Fast.te9807087744658564304]);(try rewrite [Y1]);(try rewrite [PySem.W.Fast.te12862048085361865435]);kernel_rfl)
 ·exact V4
 ·((try rewrite [Z6]);(try rewrite [Y1]);(try rewrite [Zo]);(try rewrite [PySem.W.Fast.te14412699480532031325]);kernel_rfl)
 ·exact V3
 ·exact V2
 ·((try rewrite [Y1]);kernel_rfl)
 ·((try rewrite [Y1]);kernel_rfl)
 ·((try rewrite [Y1]);(try rewrite [PySem.W.Fast.te9706382859710513879]);kernel_rfl)
 ·((try rewrite [Y1]);(try rewrite [Zo]);(try rewrite [Z6]);(try rewrite [PySem.W.Fast.te2357444279172408678]);kernel_rfl)
 ·((try rewrite [Y1]);kernel_rfl)
 ·((try rewrite [Y1]);(try rewrite [PySem.W.Fast.te4857012375875476094]);(try rewrite [Zo]);(try rewrite [Z6]);kernel_rfl)
 ·((try rewrite [PySem.W.Fast.te13582783067957832011]);(try rewrite [Y1]);kernel_rfl)
 ·((try rewrite [zaB]);(try rewrite [Y1]);kernel_rfl)
 ·((try rewrite [zaB]);(try rewrite [Y1]);kernel_rfl)
 ·((try rewrite [Y1]);(try rewrite [zaB]);kernel_rfl)
 ·((try rewrite [Y1]);(try rewrite [PySem.W.Fast.te4579403493507170074]);(try rewrite [PySem.W.Fast.te4274047373036748609]);kernel_rfl)
 ·((try rewrite [Y1]);kernel_rfl)
 ·((try rewrite [Y1]);kernel_rfl)
 ·((try rewrite [Zo]);(try rewrite [Z6]);(try rewrite [Y1]);kernel_rfl)
 ·((try rewrite [Zo]);(try rewrite [PySem.W.Fast.te12749700546528644094]);(try rewrite [Y1]);kernel_rfl)
 ·(kernel_rfl)
 ·((try rewrite [PySem.W.Fast.te10501279942588096481]);kernel_rfl)
 ·((try rewrite [PySem.W.Fast.te8179353310426384613]);kernel_rfl)
 ·(kernel_rfl)
 ·(kernel_rfl)
 ·((try rewrite [zbI]);(try rewrite [zbO]);(try rewrite [zbH]);kernel_rfl)
 ·((try rewrite [PySem.W.Fast.te9558739934217749035]);kernel_rfl)
 ·((try rewrite [PySem.W.Fast.te16286561074155671207]);kernel_rfl)
 ·(kernel_rfl)
 ·exact Rd
 ·((try rewrite [zbD]);(try rewrite [zbE]);(try rewrite [zaz]);kernel_rfl)
 ·((try rewrite [zbD]);(try rewrite [zbE]);(try rewrite [zaz]);(try rewrite [PySem.W.Fast.te482687673346738481]);kernel_rfl)
 ·((try rewrite [Z7]);(try rewrite [Zo]);(try rewrite [zbH]);kernel_rfl)
 ·((try rewrite [Zo]);(try rewrite [Z8]);kernel_rfl)
 ·((try rewrite [PySem.W.Fast.te7723801398212525404]);(try rewrite [Z8]);kernel_rfl)
 ·((try rewrite [Z8]);kernel_rfl)
 ·exact Rc
 ·((try rewrite [Z7]);kernel_rfl)
end Mine.Hd
end
section
section
namespace Mine.Hd
open PySem PySem.W PyProof.Rows PySem.Calls
theorem left:LeftO pw qv ls Xt (Hook.obs HK) (Hook.val HK) 24304:=
 LeftO.of_pieces (H₀:=boot_heap) (H₁:=H1) (gs₀:=Array.mk []) (gs₁:=Array.mk []) (d₀:=boot_drawn) (d₁:={}) (k₀:=boot_toks) (k₁:=2636) (m₀:=11) (ann:=an) Nq size run (by decide+kernel) (λw=>by
  funext os;exact Prod.ext (Z0 (Wy w) os) (Prod.ext (Z0 (Ww w) os) (Z0 (Wx w) os)))
def Rs(s:Stmt):Pos:=(fV s).2.2.2
def dL:DefRec:=⟨Str.ofString "law",fA (cl 218),fB (cl 218),fS (cl 218),Rs (cl 218)⟩
theorem NZ:defOf qv rR.name=some (dL, []):=by kernel_rfl
theorem XB:rR.prog.theDef rR.name=some (dL.params,dL.body,dL.scope):=by kernel_rfl
theorem XD:kwWritten? dL.params.kwonlyargs dL.params.kw_defaults=some []:=by kernel_rfl
theorem RX:(chainsOk qv&&opensWell rR.prog&&(frees rW&&rR.within.isEmpty))=true:=by kernel_rfl
def cd(s:Str):Nat:=List.rec 0 (λc _ r=>Nat.add (Nat.mul r 1114112) c) s.cps.toList
def Lx(x:Nat)(l:List Nat):Bool:=List.rec true (λy _ q=>Bool.rec q false (Nat.beq x y)) l
def nd(l:List Nat):Bool:=List.rec true (λx r q=>Bool.rec false q (Lx x r)) l
theorem Nz(l:List (Str×α))(h:Lx x (l.map λp=>cd p.1)=true):∀p∈l,cd p.1≠x:=by
 induction l with
 |nil=>intro p hp;cases hp
 |cons q r i=>
  intro p hp e;have h:(@Bool.rec (λ_=>Bool) (Lx x (r.map λp=>cd p.1)) false (Nat.beq x (cd q.1)))=true:=h;cases e2:Nat.beq x (cd q.1)with
  |true=>rw[e2]at h;cases h
  |false=>
   rw[e2]at h;cases hp with
   |head=>rw[e,Nat.beq_refl]at e2;cases e2
   |tail _ hp=>exact i h p hp e
theorem nt(l:List (Str×α))(h:nd (l.map λp=>cd p.1)=true):∀p∈l,l.filter (λq=>q.1==p.1)= [p]:=by
 induction l with
 |nil=>intro p hp;cases hp
 |cons q r i=>
  have h:(@Bool.rec (λ_=>Bool) false (nd (r.map λp=>cd p.1)) (Lx (cd q.1) (r.map λp=>cd p.1)))=true:=h;cases e:Lx (cd q.1) (r.map λp=>cd p.1)with
  |false=>rw[e]at h;cases h
  |true=>
   rw[e]at h;have k:=Nz r e;intro p hp;cases hp with
   |head=>
    rw[List.filter_cons_of_pos (by exact zbl _),List.filter_eq_nil_iff.mpr λa ha e=>k a ha (YV cd (eq_of_beq e))]
   |tail _ hp=>rw[List.filter_cons_of_neg (by intro e;exact k p hp (YV cd (eq_of_beq e).symm))];exact i h p hp
def wC(m:Module)(l:List Stmt):Bool:=TablesWhole.wSs TablesWhole.holds m.scope ⟨m.scope, [], [], [],none⟩ m.scope l
def tC(m:Module):List Str:=TablesWhole.wSs TablesWhole.gather m.scope ⟨m.scope, [], [], [],none⟩ m.scope m.body
theorem pj(m:Module):∀(n:Nat) (l:List Stmt),wC m (l.take n)=true->wC m (l.drop n)=true->wC m l=true
 |0,l,_,h=>h
 |n+1, [],h,_=>h
 |n+1,s::l,h1,h2=>YN.mpr ⟨(YN.mp h1).1,pj m n l (YN.mp h1).2 h2⟩
theorem M0(p:Program)(h1:p.modules= [])(h2:p.parses= [])(h3:p.harvested= [])(a:nd (p.main.scope.names.map λp=>cd p.1)=true)(t:tC p.main= [])(b:wC p.main p.main.body=true):p.tablesWhole=true:=by
 have c:TablesWhole.noTwice p.main.scope=true:=YO.mpr λq hq=>by
  show(match p.main.scope.names.filter (·.1==q.1)with
   | [_]=>true
   | [(_,a),(_,b)]=>p.main.scope.kind== .class&&a != .free&&b== .free
   |_=>false)=true
  rw[nt _ a q hq]
 unfold Program.tablesWhole TablesWhole.wProgram;rw[h1,h2,h3];show((true&&(TablesWhole.noTwice p.main.scope&&(TablesWhole.wSs TablesWhole.holds p.main.scope ⟨p.main.scope, [],tC p.main, [],none⟩ p.main.scope p.main.body&&true)))&&true)=true;rw[c,t,show TablesWhole.wSs TablesWhole.holds p.main.scope ⟨p.main.scope, [], [], [],none⟩ p.main.scope p.main.body=true from b];rfl
theorem tW:tC rR.prog.main= []:=by unfold tC;rewrite [ZO];kernel_rfl
theorem wA:wC rR.prog.main (rR.prog.main.body.take 110)=true:=by unfold wC;rewrite [ZO];kernel_rfl
theorem wB:wC rR.prog.main ((rR.prog.main.body.drop 110).take 50)=true:=by unfold wC;rewrite [ZO];kernel_rfl
theorem wD:wC rR.prog.main (((rR.prog.main.body.drop 110).drop 50).take 30)=true:=by unfold wC;rewrite [ZO];kernel_rfl
theorem wE:wC rR.prog.main (((rR.prog.main.body.drop 110).drop 50).drop 30)=true:=by unfold wC;rewrite [ZO];kernel_rfl
theorem Ko:rR.prog.bare:=⟨rfl,rfl,rfl,rfl,rfl,M0 _ rfl rfl rfl (by kernel_rfl) tW (pj _ 110 _ wA (pj _ 50 _ wB (pj _ 30 _ wD wE)))⟩
theorem XA:rW.promised:=by w_witness2
theorem head(call:WalkO qv ls (XL qv []) (Hook.says HK) rW dL [] λf vs=>PySem.call f vs):PySem.Challenge.rw_up0015_01.Holds:=
 holds_law Re λk1=>holds_open (r:=rR) (q:=qv) (loose:=ls) (Xt:=Xt) (XP:=XL qv []) (Yf:=Hook.obs HK) (Ya:=Hook.val HK) (YP:=Hook.says HK) (N:=24304) left (Hook.of HK) (Hook.keeps HK)
  (λs e=>xl_of s (YN.mp e).1) XL.keeps NZ XB XD (λs e=>recFacts_of (YN.mp e).2) (by rfl) k1 RX Ko XA call
end Mine.Hd
end
section
namespace Mine
open PySem
theorem KZ{z:Int}{n b:Nat}(e:z=n)(h:z<b):n<b:=zbw.mp (e ▸ h)
theorem En{a b:Nat}(h:a<=b):(a:Int)<=b:=ZI.mpr h
theorem Ut{a b:Nat}(h:(16:Int)+3*a=16+3*b):a=b:=Nat.eq_of_mul_eq_mul_left (by decide:0<3) (Nat.add_left_cancel (n:=16) (Int.ofNat.inj h))
theorem n3{a b n:Nat}(h:n=3+a+b):3<=n:=Nat.le.intro ((ZF ..).symm.trans h.symm)
theorem Wq{b c n:Nat}(h:b+c<=60)(e:n=3+b+c):n<=63:=by rw[e,ZF];exact Ze h 3
theorem rg{a:Nat}(h:a<=100):0<=(a:Int)/\(a:Int)<=100:=⟨ZR a,En h⟩
theorem Ta{a:Nat}(h:a<=100): -1000000<=(a:Int)/\(a:Int)<=1000000:=⟨Zr (by decide) (rg h).1,Zr (rg h).2 (by decide)⟩
theorem Ym{b c n:Nat}(h:n=3+b+c):((4+b:Nat):Int)+ -1+c=n:=by
 rw[h,show 4+b=3+b+1 from ZQ 3 1 b];exact YV (·+(c:Int)) (Int.add_sub_cancel ((3+b:Nat):Int) 1)
theorem Yl(b:Nat):1+(4+b - 2+1)=4+b:=by rw[Zz 4 b];exact Zz 1 _
theorem Yk(b:Nat):4+b - 1=4+b - 2+1:=by rw[Zz 4 b];rfl
theorem TD{z:Int}(a:z<4)(b:¬z=3):z<=2:=zar (b:=2) ((zbL (zar (b:=3) a)).resolve_right b)
theorem WG{z:Int}(a:0<=z)(h:z<=2):z=0\/z=1\/z=2:=by
 obtain⟨n,rfl⟩:=Int.eq_ofNat_of_zero_le a;exact(show∀n:Nat,n<3->(n:Int)=0\/(n:Int)=1\/(n:Int)=2 from by decide) n (zap (ZI.mp h))
theorem Qe:∀{i:Nat},i<4->i=0\/i=1\/i=2\/i=3:=by decide
theorem Lj{b i:Nat}(h:i<4):i<4+b:=zas b h
theorem EU{b:Nat}:0<((4+b:Nat):Int):=zbw.mpr (Lj (by decide))
theorem P6{b:Nat}(h:1<=b):0<((4+b:Nat):Int) - 4:=Int.sub_pos_of_lt (zbw.mpr (Nat.lt_add_of_pos_right h))
theorem WF{z:Int}(h:z<8):z=7\/z=6\/z<=5:=(zbL (zar (b:=7) h)).elim (λh=> .inr ((zbL (zar (b:=6) h)).elim (λh=> .inr (zar (b:=5) h)) .inl)) .inl
theorem tn{z:Int}{b:Nat}(a:0<=z)(h:z<3):(z+1).toNat<4+b:=Y9 ((Int.toNat_lt (zbc a (by decide))).mpr (Int.add_lt_add_right h 1)) (Y4 4 b)
theorem VP{z:Int}{n:Nat}(a:0<=z)(h:z<n - 4):(z+4).toNat<n:=(Int.toNat_lt (zbc a (by decide))).mpr (Int.add_lt_of_lt_sub_right h)
theorem m8(z:Int):(z.fmod 8).toNat<8:=(Int.toNat_lt (Zq z (by decide))).mpr (ZJ z (by decide))
theorem Wu(z:Int):(z.fmod 16).toNat<16:=(Int.toNat_lt (Zq z (by decide))).mpr (ZJ z (by decide))
theorem Yj{a n:Nat}(h:a+(n+1)<=60):a<=59:=zbu (YU (ZC (Y4 a n)) h)
theorem Yi{z:Int}{n:Nat}(h:z+3*((n+1:Nat):Int)<=390):z<=390:=Zr (Int.le_add_of_nonneg_right (ZR (3*(n+1)))) h
theorem Yh{a b n:Nat}(h:a+(n+1)<=60)(k:b<=a+1):b+n<=60:=YU (zaS k n) (by rw[ZQ];exact h)
theorem Yg{y z:Int}{n:Nat}(h:z+3*((n+1:Nat):Int)<=390)(k:y=z+3):y+3*n<=390:=by
 rw[k,zaf,zaJ 3];exact h
theorem Qa{l n:Nat}(k:l<=40)(e:n=3+l/3):n<=16:=e ▸ Ze (Nat.div_le_div_right (c:=3) k) 3
theorem Ye{a l n:Nat}(h:a<=4)(k:l<=40)(e:n=3+l/3):a+n<=60:=YU (zba h (Qa k e)) (by decide)
theorem Yd{l n:Nat}(k:l<=40)(e:n=3+l/3):1+3*(n:Int)<=390:=Zr (En (Ze (zah 3 (Qa k e)) 1)) (by decide)
theorem Yc{l n:Nat}(k:l<=40)(e:n=3+l/3):n<=100:=YU (Qa k e) (by decide)
theorem Yb{b:Nat}(h:b<=90):(4:Int)<=((4+b:Nat):Int)/\((4+b:Nat):Int)<=100:=⟨En (Y4 4 b),Zr (En (Ze h 4)) (by decide)⟩
theorem Jl{n:Nat}(h:3<=n/\n<=100):((25:Int)<=16+3*n/\(16:Int)+3*n<=400):=⟨En (Ze (zah 3 h.1) 16),Zr (En (Ze (zah 3 h.2) 16)) (by decide)⟩
theorem Q2{n:Nat}(h:3<=n/\n<=100):((16:Int)<=16+3*n/\(16:Int)+3*n<=400)/\((3:Int)<=n/\(n:Int)<=100)/\(9:Int)<=3*n/\3*(n:Int)<=300:=
 ⟨⟨Zr (by decide) (Jl h).1,(Jl h).2⟩,⟨En h.1,En h.2⟩,En (zah 3 h.1),En (zah 3 h.2)⟩
theorem Us{z:Int}(h:0<=z/\z<=400):0<=z/\z<=500:=⟨h.1,Zr h.2 (by decide)⟩
theorem Q1{b c n:Nat}(h:b+c<=60)(e:n=3+b+c):3<=n/\n<=100:=⟨n3 e,YU (Wq h e) (by decide)⟩
theorem Ur{b c:Nat}(h:b+c<=60):b<=90:=YU (YU (Y4 ..) h) (by decide)
theorem Uq(n d:Nat):3*(n:Int)+3*(d:Int)=3*((n+d:Nat):Int)+0:=(Int.mul_add 3 n d).symm.trans (zam _).symm
theorem X9(n d:Nat):(16:Int)+3*n+3*(d:Int)=16+3*((n+d:Nat):Int)+0:=(zaf ..).trans (YV (16+·) (Uq n d))
theorem Up{i n:Nat}(h:i<n)(k:n<=100):i<=500:=YU (YU (zac h) k) (by decide)
theorem Q0{i n:Nat}(h:i<n)(k:n<=100):0<=(i:Int)/\(i:Int)<=100:=rg (YU (zac h) k)
theorem X8(l i:Nat):9<=20+l+i:=YU (by decide) (YU (Y4 20 l) (Y4 _ i))
theorem X7(l i:Nat):20+l+i - 20=l+i:=by rw[ZF];exact ZS ..
theorem Uo{b i:Nat}(h:i<3):i<3+b:=zas b h
theorem UJ{n:Nat}(h:n<8):9<=22+n+0/\¬22+n+0<22/\22+n+0<30/\22+n+0 - 22=n:=⟨YU (by decide) (Y4 22 n),zbs.mpr (Y4 22 n),zav h 22,ZS (n:=22) (m:=n)⟩
theorem UI{n:Nat}(h:n<8):9<=22+n+10/\¬22+n+10<22/\¬22+n+10<30/\¬22+n+10<32/\22+n+10<40/\22+n+10 - 32=n:=by
 rw[ZQ 22 n 10];have p:=Y4 32 n;exact⟨YU (by decide) p,zbs.mpr (YU (by decide) p),zbs.mpr (YU (by decide) p),zbs.mpr p,zav h 32,ZS ..⟩
theorem X6{b i:Nat}(h:4+i<4+b):i+3<3+b:=by rw[Zz 3];exact Nat.add_lt_add_right (zau h) 3
theorem X5{z:Int}{n:Nat}(e:z=n)(h:z<=399):n<=500:=YU (ZI (n:=399).mp (e ▸ h)) (by decide)
theorem X4{b q:Nat}(h:q+4<4+b):q<b:=zau (n:=4) (by rw[Zz 4 q];exact h)
theorem X3{b c n t:Nat}(h:b+c<=60)(e:n=3+b+c)(r:3<=t/\t<n):(25:Int)<=16+3*t/\(16:Int)+3*t<=400:=Jl ⟨r.1,YU (zac r.2) (Q1 h e).2⟩
theorem RD{i:Nat}(h:i=1\/i=2\/i=3):i<4:=by rcases h with rfl|rfl|rfl<;>decide
theorem PB{a c q n m L:Nat}(h:a+q*(n+1)+m<L)(k:c<=q):a+c+q*n+m<L:=Zp (zaS (by rw[ZF,Nat.mul_succ,Zz c];exact Ze (Ze k _) a) m) h
theorem PC{a q m n k L:Nat}(p:m<=n)(h:a+q*n+k<L):a+q*m+k<L:=Zp (zaS (Ze (zah q p) a) k) h
theorem Wv:∀{i:Nat},i<3->i=0\/i=1\/i=2:=by decide
end Mine
end
section
namespace Mine
universe u1 u2 u3 u4
theorem dc{p1 p2:Prop}{c:Prop}(h:p1/\p2)(k:p1->p2->c):c:=k h.1 h.2
theorem dU{p1 p2 p3:Prop}{c:Prop}(h:p1/\p2/\p3)(k:p1->p2->p3->c):c:=k h.1 h.2.1 h.2.2
theorem gA{p1 p2 p3:Prop}(y1:p1)(y2:p2)(y3:p3):p1/\p2/\p3:=⟨y1,y2,y3⟩
theorem AY{p1 p2 p3 p4:Prop}{c:Prop}(h:p1/\p2/\p3/\p4)(k:p1->p2->p3->p4->c):c:=k h.1 h.2.1 h.2.2.1 h.2.2.2
theorem lU{p1 p2 p3 p4:Prop}(y1:p1)(y2:p2)(y3:p3)(y4:p4):p1/\p2/\p3/\p4:=⟨y1,y2,y3,y4⟩
theorem AX{p1 p2 p3 p4 p5:Prop}{c:Prop}(h:p1/\p2/\p3/\p4/\p5)(k:p1->p2->p3->p4->p5->c):c:=k h.1 h.2.1 h.2.2.1 h.2.2.2.1 h.2.2.2.2
theorem Sq{p1 p2 p3 p4 p5:Prop}(y1:p1)(y2:p2)(y3:p3)(y4:p4)(y5:p5):p1/\p2/\p3/\p4/\p5:=⟨y1,y2,y3,y4,y5⟩
theorem Jp{p1 p2 p3 p4 p5 p6:Prop}{c:Prop}(h:p1/\p2/\p3/\p4/\p5/\p6)(k:p1->p2->p3->p4->p5->p6->c):c:=k h.1 h.2.1 h.2.2.1 h.2.2.2.1 h.2.2.2.2.1 h.2.2.2.2.2
theorem Sp{p1 p2 p3 p4 p5 p6:Prop}(y1:p1)(y2:p2)(y3:p3)(y4:p4)(y5:p5)(y6:p6):p1/\p2/\p3/\p4/\p5/\p6:=⟨y1,y2,y3,y4,y5,y6⟩
theorem Ss{p1 p2 p3 p4 p5 p6 p7:Prop}{c:Prop}(h:p1/\p2/\p3/\p4/\p5/\p6/\p7)(k:p1->p2->p3->p4->p5->p6->p7->c):c:=k h.1 h.2.1 h.2.2.1 h.2.2.2.1 h.2.2.2.2.1 h.2.2.2.2.2.1 h.2.2.2.2.2.2
theorem So{p1 p2 p3 p4 p5 p6 p7:Prop}(y1:p1)(y2:p2)(y3:p3)(y4:p4)(y5:p5)(y6:p6)(y7:p7):p1/\p2/\p3/\p4/\p5/\p6/\p7:=⟨y1,y2,y3,y4,y5,y6,y7⟩
theorem eX{a1:Sort u1}{p1:(x1:a1)->Prop}{c:Prop}(h:∃x1:a1,p1 x1)(k:(x1:a1)->p1 x1->c):c:=h.elim λx1 h=>k x1 h
theorem iP{a1:Sort u1}{p1:(x1:a1)->Prop}(x1:a1)(y1:p1 x1):∃x1:a1,p1 x1:=⟨x1,y1⟩
theorem U{a1:Sort u1}{p1 p2:(x1:a1)->Prop}{c:Prop}(h:∃x1:a1,p1 x1/\p2 x1)(k:(x1:a1)->p1 x1->p2 x1->c):c:=h.elim λx1 h=>k x1 h.1 h.2
theorem al{a1:Sort u1}{p1 p2:(x1:a1)->Prop}(x1:a1)(y1:p1 x1)(y2:p2 x1):∃x1:a1,p1 x1/\p2 x1:=⟨x1,y1,y2⟩
theorem aZ{a1:Sort u1}{p1 p2 p3:(x1:a1)->Prop}{c:Prop}(h:∃x1:a1,p1 x1/\p2 x1/\p3 x1)(k:(x1:a1)->p1 x1->p2 x1->p3 x1->c):c:=h.elim λx1 h=>k x1 h.1 h.2.1 h.2.2
theorem aM{a1:Sort u1}{p1 p2 p3:(x1:a1)->Prop}(x1:a1)(y1:p1 x1)(y2:p2 x1)(y3:p3 x1):∃x1:a1,p1 x1/\p2 x1/\p3 x1:=⟨x1,y1,y2,y3⟩
theorem uX{a1:Sort u1}{p1 p2 p3 p4:(x1:a1)->Prop}{c:Prop}(h:∃x1:a1,p1 x1/\p2 x1/\p3 x1/\p4 x1)(k:(x1:a1)->p1 x1->p2 x1->p3 x1->p4 x1->c):c:=h.elim λx1 h=>k x1 h.1 h.2.1 h.2.2.1 h.2.2.2
theorem AW{a1:Sort u1}{p1 p2 p3 p4:(x1:a1)->Prop}(x1:a1)(y1:p1 x1)(y2:p2 x1)(y3:p3 x1)(y4:p4 x1):∃x1:a1,p1 x1/\p2 x1/\p3 x1/\p4 x1:=⟨x1,y1,y2,y3,y4⟩
theorem uW{a1:Sort u1}{p1 p2 p3 p4 p5:(x1:a1)->Prop}{c:Prop}(h:∃x1:a1,p1 x1/\p2 x1/\p3 x1/\p4 x1/\p5 x1)(k:(x1:a1)->p1 x1->p2 x1->p3 x1->p4 x1->p5 x1->c):c:=h.elim λx1 h=>k x1 h.1 h.2.1 h.2.2.1 h.2.2.2.1 h.2.2.2.2
theorem Fc{a1:Sort u1}{p1 p2 p3 p4 p5:(x1:a1)->Prop}(x1:a1)(y1:p1 x1)(y2:p2 x1)(y3:p3 x1)(y4:p4 x1)(y5:p5 x1):∃x1:a1,p1 x1/\p2 x1/\p3 x1/\p4 x1/\p5 x1:=⟨x1,y1,y2,y3,y4,y5⟩
theorem iQ{a1:Sort u1}{a2:(x1:a1)->Sort u2}{p1:(x1:a1)->(x2:a2 x1)->Prop}{c:Prop}(h:∃x1:a1,∃x2:a2 x1,p1 x1 x2)(k:(x1:a1)->(x2:a2 x1)->p1 x1 x2->c):c:=h.elim λx1 h=>h.elim λx2 h=>k x1 x2 h
theorem uU{a1:Sort u1}{a2:(x1:a1)->Sort u2}{p1:(x1:a1)->(x2:a2 x1)->Prop}(x1:a1)(x2:a2 x1)(y1:p1 x1 x2):∃x1:a1,∃x2:a2 x1,p1 x1 x2:=⟨x1,x2,y1⟩
theorem bR{a1:Sort u1}{a2:(x1:a1)->Sort u2}{p1 p2:(x1:a1)->(x2:a2 x1)->Prop}{c:Prop}(h:∃x1:a1,∃x2:a2 x1,p1 x1 x2/\p2 x1 x2)(k:(x1:a1)->(x2:a2 x1)->p1 x1 x2->p2 x1 x2->c):c:=h.elim λx1 h=>h.elim λx2 h=>k x1 x2 h.1 h.2
theorem gz{a1:Sort u1}{a2:(x1:a1)->Sort u2}{p1 p2:(x1:a1)->(x2:a2 x1)->Prop}(x1:a1)(x2:a2 x1)(y1:p1 x1 x2)(y2:p2 x1 x2):∃x1:a1,∃x2:a2 x1,p1 x1 x2/\p2 x1 x2:=⟨x1,x2,y1,y2⟩
theorem a8{a1:Sort u1}{a2:(x1:a1)->Sort u2}{p1 p2 p3:(x1:a1)->(x2:a2 x1)->Prop}{c:Prop}(h:∃x1:a1,∃x2:a2 x1,p1 x1 x2/\p2 x1 x2/\p3 x1 x2)(k:(x1:a1)->(x2:a2 x1)->p1 x1 x2->p2 x1 x2->p3 x1 x2->c):c:=h.elim λx1 h=>h.elim λx2 h=>k x1 x2 h.1 h.2.1 h.2.2
theorem aY{a1:Sort u1}{a2:(x1:a1)->Sort u2}{p1 p2 p3:(x1:a1)->(x2:a2 x1)->Prop}(x1:a1)(x2:a2 x1)(y1:p1 x1 x2)(y2:p2 x1 x2)(y3:p3 x1 x2):∃x1:a1,∃x2:a2 x1,p1 x1 x2/\p2 x1 x2/\p3 x1 x2:=⟨x1,x2,y1,y2,y3⟩
theorem cQ{a1:Sort u1}{a2:(x1:a1)->Sort u2}{p1 p2 p3 p4:(x1:a1)->(x2:a2 x1)->Prop}{c:Prop}(h:∃x1:a1,∃x2:a2 x1,p1 x1 x2/\p2 x1 x2/\p3 x1 x2/\p4 x1 x2)(k:(x1:a1)->(x2:a2 x1)->p1 x1 x2->p2 x1 x2->p3 x1 x2->p4 x1 x2->c):c:=h.elim λx1 h=>h.elim λx2 h=>k x1 x2 h.1 h.2.1 h.2.2.1 h.2.2.2
theorem ci{a1:Sort u1}{a2:(x1:a1)->Sort u2}{p1 p2 p3 p4:(x1:a1)->(x2:a2 x1)->Prop}(x1:a1)(x2:a2 x1)(y1:p1 x1 x2)(y2:p2 x1 x2)(y3:p3 x1 x2)(y4:p4 x1 x2):∃x1:a1,∃x2:a2 x1,p1 x1 x2/\p2 x1 x2/\p3 x1 x2/\p4 x1 x2:=⟨x1,x2,y1,y2,y3,y4⟩
theorem nK{a1:Sort u1}{a2:(x1:a1)->Sort u2}{p1 p2 p3 p4 p5:(x1:a1)->(x2:a2 x1)->Prop}{c:Prop}(h:∃x1:a1,∃x2:a2 x1,p1 x1 x2/\p2 x1 x2/\p3 x1 x2/\p4 x1 x2/\p5 x1 x2)(k:(x1:a1)->(x2:a2 x1)->p1 x1 x2->p2 x1 x2->p3 x1 x2->p4 x1 x2->p5 x1 x2->c):c:=h.elim λx1 h=>h.elim λx2 h=>k x1 x2 h.1 h.2.1 h.2.2.1 h.2.2.2.1 h.2.2.2.2
theorem yO{a1:Sort u1}{a2:(x1:a1)->Sort u2}{p1 p2 p3 p4 p5:(x1:a1)->(x2:a2 x1)->Prop}(x1:a1)(x2:a2 x1)(y1:p1 x1 x2)(y2:p2 x1 x2)(y3:p3 x1 x2)(y4:p4 x1 x2)(y5:p5 x1 x2):∃x1:a1,∃x2:a2 x1,p1 x1 x2/\p2 x1 x2/\p3 x1 x2/\p4 x1 x2/\p5 x1 x2:=⟨x1,x2,y1,y2,y3,y4,y5⟩
theorem Sr{a1:Sort u1}{a2:(x1:a1)->Sort u2}{p1 p2 p3 p4 p5 p6:(x1:a1)->(x2:a2 x1)->Prop}{c:Prop}(h:∃x1:a1,∃x2:a2 x1,p1 x1 x2/\p2 x1 x2/\p3 x1 x2/\p4 x1 x2/\p5 x1 x2/\p6 x1 x2)(k:(x1:a1)->(x2:a2 x1)->p1 x1 x2->p2 x1 x2->p3 x1 x2->p4 x1 x2->p5 x1 x2->p6 x1 x2->c):c:=h.elim λx1 h=>h.elim λx2 h=>k x1 x2 h.1 h.2.1 h.2.2.1 h.2.2.2.1 h.2.2.2.2.1 h.2.2.2.2.2
theorem bi{a1:Sort u1}{a2:(x1:a1)->Sort u2}{a3:(x1:a1)->(x2:a2 x1)->Sort u3}{p1:(x1:a1)->(x2:a2 x1)->(x3:a3 x1 x2)->Prop}{c:Prop}(h:∃x1:a1,∃x2:a2 x1,∃x3:a3 x1 x2,p1 x1 x2 x3)(k:(x1:a1)->(x2:a2 x1)->(x3:a3 x1 x2)->p1 x1 x2 x3->c):c:=h.elim λx1 h=>h.elim λx2 h=>h.elim λx3 h=>k x1 x2 x3 h
theorem b6{a1:Sort u1}{a2:(x1:a1)->Sort u2}{a3:(x1:a1)->(x2:a2 x1)->Sort u3}{p1:(x1:a1)->(x2:a2 x1)->(x3:a3 x1 x2)->Prop}(x1:a1)(x2:a2 x1)(x3:a3 x1 x2)(y1:p1 x1 x2 x3):∃x1:a1,∃x2:a2 x1,∃x3:a3 x1 x2,p1 x1 x2 x3:=⟨x1,x2,x3,y1⟩
theorem uV{a1:Sort u1}{a2:(x1:a1)->Sort u2}{a3:(x1:a1)->(x2:a2 x1)->Sort u3}{p1 p2:(x1:a1)->(x2:a2 x1)->(x3:a3 x1 x2)->Prop}{c:Prop}(h:∃x1:a1,∃x2:a2 x1,∃x3:a3 x1 x2,p1 x1 x2 x3/\p2 x1 x2 x3)(k:(x1:a1)->(x2:a2 x1)->(x3:a3 x1 x2)->p1 x1 x2 x3->p2 x1 x2 x3->c):c:=h.elim λx1 h=>h.elim λx2 h=>h.elim λx3 h=>k x1 x2 x3 h.1 h.2
theorem Jn{a1:Sort u1}{a2:(x1:a1)->Sort u2}{a3:(x1:a1)->(x2:a2 x1)->Sort u3}{p1 p2:(x1:a1)->(x2:a2 x1)->(x3:a3 x1 x2)->Prop}(x1:a1)(x2:a2 x1)(x3:a3 x1 x2)(y1:p1 x1 x2 x3)(y2:p2 x1 x2 x3):∃x1:a1,∃x2:a2 x1,∃x3:a3 x1 x2,p1 x1 x2 x3/\p2 x1 x2 x3:=⟨x1,x2,x3,y1,y2⟩
theorem cY{a1:Sort u1}{a2:(x1:a1)->Sort u2}{a3:(x1:a1)->(x2:a2 x1)->Sort u3}{p1 p2 p3:(x1:a1)->(x2:a2 x1)->(x3:a3 x1 x2)->Prop}{c:Prop}(h:∃x1:a1,∃x2:a2 x1,∃x3:a3 x1 x2,p1 x1 x2 x3/\p2 x1 x2 x3/\p3 x1 x2 x3)(k:(x1:a1)->(x2:a2 x1)->(x3:a3 x1 x2)->p1 x1 x2 x3->p2 x1 x2 x3->p3 x1 x2 x3->c):c:=h.elim λx1 h=>h.elim λx2 h=>h.elim λx3 h=>k x1 x2 x3 h.1 h.2.1 h.2.2
theorem iO{a1:Sort u1}{a2:(x1:a1)->Sort u2}{a3:(x1:a1)->(x2:a2 x1)->Sort u3}{p1 p2 p3:(x1:a1)->(x2:a2 x1)->(x3:a3 x1 x2)->Prop}(x1:a1)(x2:a2 x1)(x3:a3 x1 x2)(y1:p1 x1 x2 x3)(y2:p2 x1 x2 x3)(y3:p3 x1 x2 x3):∃x1:a1,∃x2:a2 x1,∃x3:a3 x1 x2,p1 x1 x2 x3/\p2 x1 x2 x3/\p3 x1 x2 x3:=⟨x1,x2,x3,y1,y2,y3⟩
theorem nJ{a1:Sort u1}{a2:(x1:a1)->Sort u2}{a3:(x1:a1)->(x2:a2 x1)->Sort u3}{p1 p2 p3 p4:(x1:a1)->(x2:a2 x1)->(x3:a3 x1 x2)->Prop}{c:Prop}(h:∃x1:a1,∃x2:a2 x1,∃x3:a3 x1 x2,p1 x1 x2 x3/\p2 x1 x2 x3/\p3 x1 x2 x3/\p4 x1 x2 x3)(k:(x1:a1)->(x2:a2 x1)->(x3:a3 x1 x2)->p1 x1 x2 x3->p2 x1 x2 x3->p3 x1 x2 x3->p4 x1 x2 x3->c):c:=h.elim λx1 h=>h.elim λx2 h=>h.elim λx3 h=>k x1 x2 x3 h.1 h.2.1 h.2.2.1 h.2.2.2
theorem ph{a1:Sort u1}{a2:(x1:a1)->Sort u2}{a3:(x1:a1)->(x2:a2 x1)->Sort u3}{p1 p2 p3 p4:(x1:a1)->(x2:a2 x1)->(x3:a3 x1 x2)->Prop}(x1:a1)(x2:a2 x1)(x3:a3 x1 x2)(y1:p1 x1 x2 x3)(y2:p2 x1 x2 x3)(y3:p3 x1 x2 x3)(y4:p4 x1 x2 x3):∃x1:a1,∃x2:a2 x1,∃x3:a3 x1 x2,p1 x1 x2 x3/\p2 x1 x2 x3/\p3 x1 x2 x3/\p4 x1 x2 x3:=⟨x1,x2,x3,y1,y2,y3,y4⟩
theorem cy{a1:Sort u1}{a2:(x1:a1)->Sort u2}{a3:(x1:a1)->(x2:a2 x1)->Sort u3}{a4:(x1:a1)->(x2:a2 x1)->(x3:a3 x1 x2)->Sort u4}{p1:(x1:a1)->(x2:a2 x1)->(x3:a3 x1 x2)->(x4:a4 x1 x2 x3)->Prop}{c:Prop}(h:∃x1:a1,∃x2:a2 x1,∃x3:a3 x1 x2,∃x4:a4 x1 x2 x3,p1 x1 x2 x3 x4)(k:(x1:a1)->(x2:a2 x1)->(x3:a3 x1 x2)->(x4:a4 x1 x2 x3)->p1 x1 x2 x3 x4->c):c:=h.elim λx1 h=>h.elim λx2 h=>h.elim λx3 h=>h.elim λx4 h=>k x1 x2 x3 x4 h
theorem MQ{a1:Sort u1}{a2:(x1:a1)->Sort u2}{a3:(x1:a1)->(x2:a2 x1)->Sort u3}{a4:(x1:a1)->(x2:a2 x1)->(x3:a3 x1 x2)->Sort u4}{p1:(x1:a1)->(x2:a2 x1)->(x3:a3 x1 x2)->(x4:a4 x1 x2 x3)->Prop}(x1:a1)(x2:a2 x1)(x3:a3 x1 x2)(x4:a4 x1 x2 x3)(y1:p1 x1 x2 x3 x4):∃x1:a1,∃x2:a2 x1,∃x3:a3 x1 x2,∃x4:a4 x1 x2 x3,p1 x1 x2 x3 x4:=⟨x1,x2,x3,x4,y1⟩
theorem Jo{a1:Sort u1}{a2:(x1:a1)->Sort u2}{a3:(x1:a1)->(x2:a2 x1)->Sort u3}{a4:(x1:a1)->(x2:a2 x1)->(x3:a3 x1 x2)->Sort u4}{p1 p2:(x1:a1)->(x2:a2 x1)->(x3:a3 x1 x2)->(x4:a4 x1 x2 x3)->Prop}{c:Prop}(h:∃x1:a1,∃x2:a2 x1,∃x3:a3 x1 x2,∃x4:a4 x1 x2 x3,p1 x1 x2 x3 x4/\p2 x1 x2 x3 x4)(k:(x1:a1)->(x2:a2 x1)->(x3:a3 x1 x2)->(x4:a4 x1 x2 x3)->p1 x1 x2 x3 x4->p2 x1 x2 x3 x4->c):c:=h.elim λx1 h=>h.elim λx2 h=>h.elim λx3 h=>h.elim λx4 h=>k x1 x2 x3 x4 h.1 h.2
theorem Sn{a1:Sort u1}{a2:(x1:a1)->Sort u2}{a3:(x1:a1)->(x2:a2 x1)->Sort u3}{a4:(x1:a1)->(x2:a2 x1)->(x3:a3 x1 x2)->Sort u4}{p1 p2:(x1:a1)->(x2:a2 x1)->(x3:a3 x1 x2)->(x4:a4 x1 x2 x3)->Prop}(x1:a1)(x2:a2 x1)(x3:a3 x1 x2)(x4:a4 x1 x2 x3)(y1:p1 x1 x2 x3 x4)(y2:p2 x1 x2 x3 x4):∃x1:a1,∃x2:a2 x1,∃x3:a3 x1 x2,∃x4:a4 x1 x2 x3,p1 x1 x2 x3 x4/\p2 x1 x2 x3 x4:=⟨x1,x2,x3,x4,y1,y2⟩
theorem MT{a1:Sort u1}{a2:(x1:a1)->Sort u2}{a3:(x1:a1)->(x2:a2 x1)->Sort u3}{a4:(x1:a1)->(x2:a2 x1)->(x3:a3 x1 x2)->Sort u4}{p1 p2 p3:(x1:a1)->(x2:a2 x1)->(x3:a3 x1 x2)->(x4:a4 x1 x2 x3)->Prop}{c:Prop}(h:∃x1:a1,∃x2:a2 x1,∃x3:a3 x1 x2,∃x4:a4 x1 x2 x3,p1 x1 x2 x3 x4/\p2 x1 x2 x3 x4/\p3 x1 x2 x3 x4)(k:(x1:a1)->(x2:a2 x1)->(x3:a3 x1 x2)->(x4:a4 x1 x2 x3)->p1 x1 x2 x3 x4->p2 x1 x2 x3 x4->p3 x1 x2 x3 x4->c):c:=h.elim λx1 h=>h.elim λx2 h=>h.elim λx3 h=>h.elim λx4 h=>k x1 x2 x3 x4 h.1 h.2.1 h.2.2
theorem AV{a1:Sort u1}{a2:(x1:a1)->Sort u2}{a3:(x1:a1)->(x2:a2 x1)->Sort u3}{a4:(x1:a1)->(x2:a2 x1)->(x3:a3 x1 x2)->Sort u4}{p1 p2 p3:(x1:a1)->(x2:a2 x1)->(x3:a3 x1 x2)->(x4:a4 x1 x2 x3)->Prop}(x1:a1)(x2:a2 x1)(x3:a3 x1 x2)(x4:a4 x1 x2 x3)(y1:p1 x1 x2 x3 x4)(y2:p2 x1 x2 x3 x4)(y3:p3 x1 x2 x3 x4):∃x1:a1,∃x2:a2 x1,∃x3:a3 x1 x2,∃x4:a4 x1 x2 x3,p1 x1 x2 x3 x4/\p2 x1 x2 x3 x4/\p3 x1 x2 x3 x4:=⟨x1,x2,x3,x4,y1,y2,y3⟩
theorem bc(p:Prop){c:Prop}(f:p->c)(g:¬p->c):c:=(Classical.em p).elim f g
theorem hg{G:Prop}(h:∀c:Prop,(G->c)->c):G:=h G id
theorem cX{c:Prop}(b:Bool)(f:b=true->c)(g:b=false->c):c:=b.casesOn (motive:=λx=>b=x->c) g f rfl
theorem uy{c:Prop}(b:Bool)(f:b=false->c)(g:b=true->c):c:=cX b g f
theorem dI{α:Type u1}{c:Prop}(b:Option α)(f:b=none->c)(g:∀a,b=some a->c):c:=b.casesOn (motive:=λx=>b=x->c) f g rfl
theorem ak{p:Prop}(h:p:=by decide):p:=h
end Mine
end
section
namespace Mine
open PySem
theorem nt{p:Prop}(h:none=some t):p:=nomatch h
theorem nf{p:Prop}(h:false=true):p:=nomatch h
theorem ng{p:Prop}(h:true=false):p:=nomatch h
theorem an(h:(a&&b)=true):a=true/\b=true:=YN.mp h
theorem iq(h:(!a)=true):a=false:=by cases a;rfl;exact nf h
theorem oa(h:o.any f=true):∃x,o=some x/\f x=true:=by
 cases o with
 |none=>exact nf h
 |some x=>exact(al x rfl h)
theorem si(h:some a=some b):a=b:=YZ h
set_option genInjectivity true in
inductive V where
 |none|bool(b:Bool)|int(i:Int)|str(s:List Nat)|tup(vs:List V)|obj(s i:Nat)|glob(a:Nat)
section
variable{v:V}
def pB(v:V)(f:Bool->Bool):Bool:=match v with| .bool i=>f i|_=>false
def pI(v:V)(f:Int->Bool):Bool:=match v with| .int i=>f i|_=>false
def pS(v:V)(f:List Nat->Bool):Bool:=match v with| .str i=>f i|_=>false
def pT(v:V)(f:List V->Bool):Bool:=match v with| .tup i=>f i|_=>false
def pO(v:V)(f:Nat->Nat->Bool):Bool:=match v with| .obj s i=>f s i|_=>false
def pG(v:V)(f:Nat->Bool):Bool:=match v with| .glob i=>f i|_=>false
def isNone(v:V):Bool:=match v with| .none=>true|_=>false
theorem RA(h:pB v f=true):∃i,v= .bool i/\f i=true:=by cases v with|bool i=>exact(al i rfl h)|_=>exact nf h
theorem Ry(h:pI v f=true):∃i,v= .int i/\f i=true:=by cases v with|int i=>exact(al i rfl h)|_=>exact nf h
theorem Ru(h:pS v f=true):∃i,v= .str i/\f i=true:=by cases v with|str i=>exact(al i rfl h)|_=>exact nf h
theorem Rt(h:pT v f=true):∃i,v= .tup i/\f i=true:=by cases v with|tup i=>exact(al i rfl h)|_=>exact nf h
theorem Rv(h:pO v f=true):∃s i,v= .obj s i/\f s i=true:=by cases v with|obj s i=>exact(gz s i rfl h)|_=>exact nf h
theorem Rz(h:pG v f=true):∃i,v= .glob i/\f i=true:=by cases v with|glob i=>exact(al i rfl h)|_=>exact nf h
theorem Rx(h:isNone v=true):v= .none:=by cases v with|none=>rfl|_=>exact nf h
end
mutual
noncomputable def V.beq:V->V->Bool
 | .none,b=>isNone b
 | .bool a,b=>pB b λb=>a==b
 | .int a,b=>pI b λb=>decide (a=b)
 | .str a,b=>pS b λb=>decide (a=b)
 | .tup a,b=>pT b λb=>V.beqs a b
 | .obj a b,d=>pO d λc d=>Nat.beq a c&&Nat.beq b d
 | .glob a,b=>pG b λb=>Nat.beq a b
noncomputable def V.beqs:List V->List V->Bool
 | [],b=>b.isEmpty
 |a::as,b=>match b with| []=>false|b::bs=>a.beq b&&V.beqs as bs
end
theorem V.eq_of(h:V.beq a b=true):a=b:=by
 refine V.rec (motive_1:=λa=>∀b,V.beq a b=true->a=b) (motive_2:=λa=>∀b,V.beqs a b=true->a=b) ?_ ?_ ?_ ?_ ?_ ?_ ?_ ?_ ?_ a b h
 ·intro b h;exact(Rx h).symm
 ·intro x b h;refine U (RA h) λy q2 h=>?_;subst q2;rw[eq_of_beq h]
 ·intro x b h;refine U (Ry h) λy q2 h=>?_;subst q2;rw[Zt h]
 ·intro x b h;refine U (Ru h) λy q2 h=>?_;subst q2;rw[Zt h]
 ·intro x i b h;refine U (Rt h) λy q2 h=>?_;subst q2;rw[i _ h]
 ·intro s i b h;refine bR (Rv h) λt j q3 h=>?_;subst q3;rw[YY (an h).1,YY (an h).2]
 ·intro x b h;refine U (Rz h) λy q2 h=>?_;subst q2;rw[YY h]
 ·intro b h;exact(Zk.mp h).symm
 ·intro x a i1 i2 b h;cases b with
  |nil=>exact nf h
  |cons y b=>rw[i1 _ (an h).1,i2 _ (an h).2]
theorem V.eqs_of:∀{a b:List V},V.beqs a b=true->a=b:=by
 intro a
 induction a with
 |nil=>intro b h;exact(Zk.mp h).symm
 |cons x a i=>
  intro b h;cases b with
  |nil=>exact nf h
  |cons y b=>rw[V.eq_of (an h).1,i (an h).2]
theorem qd(n:Nat):Nat.beq n n=true:=Nat.beq_refl n
theorem V.beq_self(a:V):a.beq a=true:=
 V.rec (motive_1:=λa=>V.beq a a=true) (motive_2:=λa=>V.beqs a a=true) rfl (λx=>zbl x) (λx=>Zn rfl) (λx=>Zn rfl) (λx h=>h) (λs i=>YN.mpr ⟨qd s,qd i⟩) (λx=>qd x) rfl (λx a h k=>YN.mpr ⟨h,k⟩) a
theorem V.beqs_self(a:List V):V.beqs a a=true:=by
 induction a with
 |nil=>rfl
 |cons x a i=>exact YN.mpr ⟨V.beq_self x,i⟩
theorem V.beq_iff{a b:V}:a.beq b=true↔a=b:=⟨V.eq_of,λe=>e ▸ V.beq_self a⟩
theorem V.beqs_iff:V.beqs a b=true↔a=b:=⟨V.eqs_of,λe=>e ▸ V.beqs_self a⟩
set_option genInjectivity true in
inductive bt where
 |inst(c:Nat)(fs:List (Nat×V))
 |list(vs:List V)
 |dict(kd:Nat)(es:List (V×V))
 |gone(c:Nat)(fs:List (Nat×V))
 |caught(c:Nat)(fs:List (Nat×V))
set_option genCtorIdx true in
inductive Op where
 |add|sub|mul|fdiv|mod|shl|shr|band
set_option genCtorIdx true in
inductive pa where
 |eq|ne|lt|le|gt|ge|is|isNot|isIn|notIn
inductive Ex where
 |loc(x:Nat)
 |glb(x:Nat)
 |k(v:V)
 |tup(es:List Ex)
 |list(s:Nat)(es:List Ex)
 |dict(s:Nat)(ks vs:List Ex)
 |bin(o:Op)(a b:Ex)
 |rep(s:Nat)(a b:Ex)
 |neg(a:Ex)
 |not(a:Ex)
 |and(es:List Ex)
 |or(es:List Ex)
 |cmp(a:Ex)(os:List pa)(bs:List Ex)
 |ite(c a b:Ex)
 |attr(a:Ex)(x:Nat)
 |sub(a b:Ex)
 |slice(s:Nat)(a:Ex)(lo hi:Option Ex)
 |call(f:Nat)(args:List Ex)
 |new(c s:Nat)(args:List Ex)
 |meth(o:Ex)(x:Nat)(args:List Ex)
 |len(a:Ex)
 |hole
inductive Ag where
 |loc(x:Nat)
 |attr(o:Ex)(x:Nat)
 |sub(o i:Ex)
 |tup(xs:List Nat)
inductive It where
 |range(args:List Ex)
 |over(e:Ex)
inductive Sm where
 |expr(e:Ex)
 |asg(t:Ag)(e:Ex)
 |augN(x:Nat)(o:Op)(e:Ex)
 |augA(a:Ex)(x:Nat)(o:Op)(e:Ex)
 |ite(c:Ex)(t e:List Sm)
 |wh(c:Ex)(b:List Sm)
 |for(xs:Ag)(it:It)(b:List Sm)
 |ret(e:Option Ex)
 |try(b:List Sm)(c x:Nat)(h:List Sm)
 |raise(c s:Nat)(args:List Ex)
 |hole
structure Fn where
 params:List Nat
 body:List Sm
inductive Tr(α:Type) where
 |e|f(k:Nat)(v:α)|n(l r:Tr α)
def Tr.get{α:Type}(t:Tr α)(k:Nat):Option α:=Tr.rec (λ_=>none) (λq v _=>Bool.rec none (some v) (Nat.beq q k)) (λ_ _ il ir j=>Bool.rec (ir (Nat.div j 2)) (il (Nat.div j 2)) (Nat.beq (Nat.mod j 2) 0)) t k
structure PT where
 fn:Nat->Option Fn
 meth:Nat->Nat->Option Nat
 init:Nat->Option (Option Nat)
 const:Nat->Option V
 table:Nat->Option (List Int)
 isExc:Nat->Bool
structure St where
 heap:Nat->List bt
 env:List (Nat×V)
inductive R(α:Type) where
 |ok(a:α)
 |exc(je:Bool)(s i c:Nat)
inductive Fl where
 |next|ret(v:V)
abbrev M(α:Type):=St->Option (R α×St)
def M.pure{α:Type}(a:α):M α:=λσ=>some (.ok a,σ)
noncomputable def M.fail {α:Type}:M α:=λ_=>none
noncomputable def M.bind {α β:Type} (m:M α) (f:α->M β):M β:=λσ=>match m σ with
 |none=>none
 |some (r,σ')=>match r with
  | .ok a=>f a σ'
  | .exc b s i c=>some (.exc b s i c,σ')
def M.opt{α:Type}(o:Option α):M α:=λσ=>match o with
 |some a=>some (.ok a,σ)
 |none=>none
noncomputable def aN {α:Type} (x:Nat):List (Nat×α)->Option α
 | []=>none
 |(y,v)::r=>match Nat.beq y x with|true=>some v|false=>aN x r
theorem Tw(x:Nat):aN x ([]:List (Nat×α))=none:=rfl
theorem EC(x:Nat)(p:Nat×α)(r:List (Nat×α)):aN x (p::r)=match Nat.beq p.1 x with|true=>some p.2|false=>aN x r:=rfl
noncomputable def putN {α:Type} (x:Nat) (v:α):List (Nat×α)->List (Nat×α)
 | []=> [(x,v)]
 |(y,u)::r=>match Nat.beq y x with|true=>(y,v)::r|false=>(y,u)::putN x v r
theorem Wd(x:Nat)(v:α):putN x v []= [(x,v)]:=rfl
theorem O6(x:Nat)(v:α)(p:Nat×α)(r:List (Nat×α)):putN x v (p::r)=match Nat.beq p.1 x with|true=>(p.1,v)::r|false=>p::putN x v r:=rfl
noncomputable def lb {α:Type} (x:Nat):List (Nat×α)->List (Nat×α)
 | []=> []
 |(y,u)::r=>match Nat.beq y x with|true=>lb x r|false=>(y,u)::lb x r
theorem XU(x:Nat):lb x ([]:List (Nat×α))= []:=rfl
theorem Ug(x:Nat)(p:Nat×α)(r:List (Nat×α)):lb x (p::r)=match Nat.beq p.1 x with|true=>lb x r|false=>p::lb x r:=rfl
def aO(x:V):List (V×V)->Option V
 | []=>none
 |(y,v)::r=>match y.beq x with|true=>some v|false=>aO x r
theorem YA(x:V):aO x []=none:=rfl
theorem Qd(x:V)(p:V×V)(r:List (V×V)):aO x (p::r)=match p.1.beq x with|true=>some p.2|false=>aO x r:=rfl
noncomputable def eW (x v:V):List (V×V)->List (V×V)
 | []=> [(x,v)]
 |(y,u)::r=>match y.beq x with|true=>(y,v)::r|false=>(y,u)::eW x v r
theorem Yv(x v:V):eW x v []= [(x,v)]:=rfl
theorem Lq(x v:V)(p:V×V)(r:List (V×V)):eW x v (p::r)=match p.1.beq x with|true=>(p.1,v)::r|false=>p::eW x v r:=rfl
noncomputable def nth {α:Type}:List α->Nat->Option α
 | [],_=>none
 |a::r,n=>match n with|0=>some a|n+1=>nth r n
theorem P7(n:Nat):nth ([]:List α) n=none:=rfl
theorem Wp(a:α)(r:List α):nth (a::r) 0=some a:=rfl
theorem To(a:α)(r:List α)(n:Nat):nth (a::r) (n+1)=nth r n:=rfl
noncomputable def setNth {α:Type} (b:α):List α->Nat->List α
 | [],_=> []
 |a::r,n=>match n with|0=>b::r|n+1=>a::setNth b r n
theorem VZ(b:α)(n:Nat):setNth b [] n= []:=rfl
theorem Yu(b a:α)(r:List α):setNth b (a::r) 0=b::r:=rfl
theorem SQ(b a:α)(r:List α)(n:Nat):setNth b (a::r) (n+1)=a::setNth b r n:=rfl
def St.get(σ:St)(s i:Nat):Option bt:=nth (σ.heap s) i
def St.put(σ:St)(s i:Nat)(o:bt):St:={σ with heap:=λt=>match Nat.beq t s with|true=>setNth o (σ.heap s) i|false=>σ.heap t}
noncomputable def St.add (σ:St) (s:Nat) (o:bt):St:={σ with heap:=λt=>match Nat.beq t s with|true=>σ.heap s++ [o]|false=>σ.heap t}
noncomputable def St.setE (σ:St) (e:List (Nat×V)):St:={σ with env:=e}
def M.get(s i:Nat):M bt:=λσ=>match σ.get s i with|some o=>some (.ok o,σ)|none=>none
def M.put(s i:Nat)(o:bt):M Unit:=λσ=>some (.ok (),σ.put s i o)
def M.new(s:Nat)(o:bt):M V:=λσ=>some (.ok (.obj s (σ.heap s).length),σ.add s o)
def M.env:M (List (Nat×V)):=λσ=>some (.ok σ.env,σ)
def M.setE(e:List (Nat×V)):M Unit:=λσ=>some (.ok (),σ.setE e)
def M.loc(x:Nat):M V:=λσ=>match aN x σ.env with|some v=>some (.ok v,σ)|none=>none
def M.bindN(x:Nat)(v:V):M Unit:=λσ=>some (.ok (),σ.setE (putN x v σ.env))
noncomputable def ay:Nat:=1000
def de(i:Int):Option Nat:=match i with
 | .ofNat n=>match Nat.ble n ay with|true=>some n|false=>none
 | .negSucc _=>none
def Bp(b:Int):Bool:=decide (0<=b)&&decide (b<=64)
def cz(b:Int):Bool:=decide (-1000000<=b)&&decide (b<=1000000)
noncomputable def gD {α:Type} (c:Bool) (a:Option α):Option α:=match c with|true=>a|false=>none
def oI{α:Type}(v:V)(f:Int->Option α):Option α:=match v with| .int i=>f i|_=>none
noncomputable def oS {α:Type} (v:V) (f:List Nat->Option α):Option α:=match v with| .str l=>f l|_=>none
def oT{α:Type}(v:V)(f:List V->Option α):Option α:=match v with| .tup l=>f l|_=>none
def oN{α:Type}(v:V)(a:Option α):Option α:=match v with| .none=>a|_=>none
def kL{α:Type}(o:bt)(f:List V->Option α):Option α:=match o with| .list vs=>f vs|_=>none
def kD{α:Type}(o:bt)(f:Nat->List (V×V)->Option α):Option α:=match o with| .dict k es=>f k es|_=>none
theorem bX(h:gD c a=some r):c=true/\a=some r:=by cases c with|true=>exact⟨rfl,h⟩|false=>exact nt h
theorem ob{α β:Type}{o:Option α}{f:α->Option β}{r:β}(h:o.bind f=some r):∃x,o=some x/\f x=some r:=by cases o with|none=>exact nt h|some x=>exact(al x rfl h)
theorem om{α β:Type}{o:Option α}{f:α->β}{r:β}(h:o.map f=some r):∃x,o=some x/\f x=r:=by cases o with|none=>exact nt h|some x=>exact(al x rfl (si h))
section
variable{α:Type}{v:V}{r:α}
theorem pg(h:oI v f=some r):∃i,v= .int i/\f i=some r:=by cases v with|int i=>exact(al i rfl h)|_=>exact nt h
theorem ET(h:oS v f=some r):∃i,v= .str i/\f i=some r:=by cases v with|str i=>exact(al i rfl h)|_=>exact nt h
theorem RB(h:oT v f=some r):∃i,v= .tup i/\f i=some r:=by cases v with|tup i=>exact(al i rfl h)|_=>exact nt h
theorem Mm(h:oN v a=some r):v= .none/\a=some r:=by cases v with|none=>exact⟨rfl,h⟩|_=>exact nt h
theorem RG(h:kL o f=some r):∃vs,o= .list vs/\f vs=some r:=by cases o with|list i=>exact(al i rfl h)|_=>exact nt h
theorem RH(h:kD o f=some r):∃k es,o= .dict k es/\f k es=some r:=by cases o with|dict k i=>exact(gz k i rfl h)|_=>exact nt h
end
def rY(o:Op)(a b:Int):Option Int:=match o with
 | .add=>some (a+b)
 | .sub=>some (a - b)
 | .mul=>gD (cz a) (some (a*b))
 | .fdiv=>gD (decide (0<b)&&cz b) (some (a.fdiv b))
 | .mod=>gD (decide (0<b)) (some (a.fmod b))
 | .shl=>gD (cz a&&Bp b) (some (a*2^b.toNat))
 | .shr=>gD (Bp b) (some (a.fdiv (2^b.toNat)))
 | .band=>some (Builtin.bitAnd a b)
def oo:Op->Bool
 | .add=>true
 |_=>false
def bY(o:Op)(x y:V):Option V:=match x with
 | .int a=>oI y λb=>(rY o a b).map .int
 | .str a=>oS y λb=>gD (oo o&&Nat.ble (a.length+b.length) ay) (some (.str (a++b)))
 | .tup a=>oT y λb=>gD (oo o&&Nat.ble (a.length+b.length) ay) (some (.tup (a++b)))
 |_=>none
theorem xT(h:decide (0<y)=true):bY .mod (.int x) (.int y)=some (.int (x.fmod y)):=by
 show(gD (decide (0<y)) (some (x.fmod y))).map V.int=_
 (refine(h).symm ▸?_);rfl
theorem GJ(h:(decide (0<y)&&cz y)=true):bY .fdiv (.int x) (.int y)=some (.int (x.fdiv y)):=by
 show(gD (decide (0<y)&&cz y) (some (x.fdiv y))).map V.int=_
 (refine(h).symm ▸?_);rfl
noncomputable def Si (o:Op) (a b:Int):Option Int:=match o with
 | .add=>some (a+b)
 | .sub=>some (a - b)
 |_=>none
def ow(o:Op)(x y:V):Option V:=oI x λa=>oI y λb=>(Si o a b).map .int
mutual
noncomputable def um (H:Nat->List bt):Nat->V->Option PyData
 |0,_=>none
 |n+1,v=>match v with
  | .none=>some .none
  | .bool b=>some (.bool b)
  | .int i=>some (.int i)
  | .str l=>some (.str ⟨l.toArray⟩)
  | .tup vs=>(j0 H n vs).map .tuple
  | .obj s i=>(nth (H s) i).bind λo=>kL o λvs=>(j0 H n vs).map .list
  | .glob _=>none
noncomputable def j0 (H:Nat->List bt):Nat->List V->Option (List PyData)
 |0,_=>none
 |n+1,vs=>match vs with
  | []=>some []
  |v::r=>(um H n v).bind λd=>(j0 H n r).map (d::·)
end
def G9(H:Nat->List bt)(a b:V):Option Bool:=(um H 60 a).bind λx=>(um H 60 b).bind λy=>gD (SeqAt.shaped x&&SeqAt.shaped y) (some (PyData.eqv x y))
noncomputable def mm:List V->Option (List (List Nat))
 | []=>some []
 |v::r=>oS v λl=>(mm r).map (l::·)
noncomputable def isInt:V->Bool
 | .int _=>true
 |_=>false
def cA:V->Bool
 | .int _=>true
 | .tup vs=>vs.all isInt
 |_=>false
def cO:V->Nat
 | .str _=>1
 | .int _=>2
 | .tup vs=>match vs.all cA with|true=>3|false=>4
 |_=>4
def gp(kd:Nat)(k:V):Bool:=Nat.blt (cO k) 4&&(Nat.beq kd (cO k)||Nat.beq kd 0)
def AQ(H:Nat->List bt)(a b:V):Option Bool:=match b with
 | .obj s i=>(nth (H s) i).bind λo=>kD o λkd es=>gD (gp kd a) (some (aO a es).isSome)
 |_=>none
def I8(P:PT)(H:Nat->List bt)(a b:V):Option Bool:=match b with
 | .tup vs=>oS a λl=>(mm vs).map λls=>ls.any λx=>decide (x=l)
 | .glob g=>oI a λi=>(P.table g).map λl=>l.contains i
 |_=>AQ H a b
def me(P:PT)(H:Nat->List bt)(o:pa)(a b:V):Option Bool:=match o with
 | .eq=>G9 H a b
 | .ne=>(G9 H a b).map not
 | .lt=>oI a λa=>oI b λb=>some (decide (a<b))
 | .le=>oI a λa=>oI b λb=>some (decide (a<=b))
 | .gt=>oI a λa=>oI b λb=>some (decide (b<a))
 | .ge=>oI a λa=>oI b λb=>some (decide (b<=a))
 | .is=>oN b (some (isNone a))
 | .isNot=>oN b (some (!isNone a))
 | .isIn=>I8 P H a b
 | .notIn=>(AQ H a b).map not
def iG:V->Option Bool
 | .bool b=>some b
 | .int i=>some (!decide (i=0))
 |_=>none
def Li{α:Type}(l:List α)(k:V):Option α:=oI k λi=>(de i).bind λn=>nth l n
def itemOf(H:Nat->List bt)(a k:V):Option V:=match a with
 | .tup vs=>Li vs k
 | .str l=>(Li l k).map λc=> .str [c]
 | .obj s i=>(nth (H s) i).bind λo=>match o with
  | .list vs=>Li vs k
  | .dict kd es=>gD (gp kd k) (aO k es)
  |_=>none
 |_=>none
def Pz:V->Option (Option Nat)
 | .none=>some none
 | .int i=>(de i).map some
 |_=>none
noncomputable def cutL {α:Type} (lo hi:Option Nat) (l:List α):List α:=
 let l':=match hi with|some h=>l.take h|none=>l
 match lo with|some d=>l'.drop d|none=>l'
structure Ih where
 e:Ex->M V
 b:Ex->M Bool
 s:Sm->M Fl
 c:Nat->List V->M V
def M.gd{α:Type}(c:Bool)(m:M α):M α:=match c with|true=>m|false=>M.fail
def M.of{α β:Type}(o:Option α)(f:α->M β):M β:=match o with|some a=>f a|none=>M.fail
def M.no{α β:Type}(o:Option α)(m:M β):M β:=match o with|some _=>M.fail|none=>m
def M.oR{α:Type}(v:V)(f:Nat->Nat->M α):M α:=match v with| .obj s i=>f s i|_=>M.fail
def M.oO{α:Type}(v:V)(f:Nat->Nat->bt->M α):M α:=M.oR v λs i=>M.bind (M.get s i) (f s i)
def M.oT{α:Type}(v:V)(f:List V->M α):M α:=match v with| .tup l=>f l|_=>M.fail
def M.oI{α:Type}(v:V)(f:Int->M α):M α:=match v with| .int l=>f l|_=>M.fail
def M.oN{α:Type}(v:V)(m:M α):M α:=match v with| .none=>m|_=>M.fail
def M.kL{α:Type}(o:bt)(f:List V->M α):M α:=match o with| .list vs=>f vs|_=>M.fail
def M.kD{α:Type}(o:bt)(f:Nat->List (V×V)->M α):M α:=match o with| .dict k es=>f k es|_=>M.fail
def M.kI{α:Type}(o:bt)(f:Nat->List (Nat×V)->M α):M α:=match o with| .inst c fs=>f c fs|_=>M.fail
def M.kG{α:Type}(o:bt)(f:Nat->List (Nat×V)->M α):M α:=match o with| .gone c fs=>f c fs|_=>M.fail
section
variable{α β:Type}{σ:St}{r:R α×St}
theorem NM(h:M.kG o f σ=some r):∃k l,o= .gone k l/\f k l σ=some r:=by cases o with|gone k l=>exact(gz k l rfl h)|_=>exact nt h
theorem cP(h:M.gd c m σ=some r):c=true/\m σ=some r:=by cases c with|true=>exact⟨rfl,h⟩|false=>exact nt h
theorem gH(h:M.of o f σ=some r):∃a,o=some a/\f a σ=some r:=by cases o with|none=>exact nt h|some a=>exact(al a rfl h)
theorem Mn(h:M.no o m σ=some r):o=none/\m σ=some r:=by cases o with|none=>exact⟨rfl,h⟩|some a=>exact nt h
theorem Ml(h:M.oR v f σ=some r):∃s i,v= .obj s i/\f s i σ=some r:=by cases v with|obj s i=>exact(gz s i rfl h)|_=>exact nt h
theorem iV(h:M.bind (M.get s i) f σ=some r):∃o,nth (σ.heap s) i=some o/\f o σ=some r:=by
 unfold M.bind M.get St.get at h;refine dI (nth (σ.heap s) i) (λe=>?_) λo e=>?_
 ·rw[e]at h;exact nt h
 ·(refine(e).symm ▸?_);rw[e]at h;exact(al o rfl h)
theorem nE(h:M.oO v f σ=some r):∃s i o,v= .obj s i/\nth (σ.heap s) i=some o/\f s i o σ=some r:=
 bR (Ml h) λs i e h=>U (iV h) λo e2 h=>iO s i o e e2 h
theorem Nr(h:M.oT v f σ=some r):∃l,v= .tup l/\f l σ=some r:=by cases v with|tup l=>exact(al l rfl h)|_=>exact nt h
theorem Ba(h:M.oI v f σ=some r):∃l,v= .int l/\f l σ=some r:=by cases v with|int l=>exact(al l rfl h)|_=>exact nt h
theorem Nt(h:M.oN v m σ=some r):v= .none/\m σ=some r:=by cases v with|none=>exact⟨rfl,h⟩|_=>exact nt h
theorem l5(h:M.kL o f σ=some r):∃l,o= .list l/\f l σ=some r:=by cases o with|list l=>exact(al l rfl h)|_=>exact nt h
theorem HN(h:M.kD o f σ=some r):∃k l,o= .dict k l/\f k l σ=some r:=by cases o with|dict k l=>exact(gz k l rfl h)|_=>exact nt h
theorem HM(h:M.kI o f σ=some r):∃k l,o= .inst k l/\f k l σ=some r:=by cases o with|inst k l=>exact(gz k l rfl h)|_=>exact nt h
end
theorem sp{α β:Type}{a a':α}{b b':β}(h:some (a,b)=some (a',b')):a'=a/\b'=b:=have h:=zaR (si h);⟨h.1.symm,h.2.symm⟩
theorem er{α:Type}{p:Prop}{f:Bool}{s i c:Nat}{v:α}{a b:St}(h:some (R.exc f s i c,a)=some (R.ok v,b)):p:=((YV (λr:R α=> @R.rec α (λ_=>Prop) (λ_=>False) (λ_ _ _ _=>True) r) (sp h).1).mpr trivial).elim
theorem Iv{f:α->M β}(h:M.bind m f σ=some (.ok b,σ')):∃a ai,m σ=some (.ok a,ai)/\f a ai=some (.ok b,σ'):=by
 unfold M.bind at h;refine dI (m σ) (λe=>?_) λp e=>?_
 ·rw[e]at h;exact nt h
 ·
  (refine(e).symm ▸?_)
  rw[e]at h;obtain⟨r,ai⟩:=p;cases r with
  |ok a=>exact(gz a ai rfl h)
  |exc _ _ _ _=>exact er h
def M.item(a k:V):M V:=λσ=>M.opt (itemOf σ.heap a k) σ
section
variable(P:PT)(ih:Ih)
noncomputable def kK:List Ex->M (List V)
 | []=>M.pure []
 |e::r=>M.bind (ih.e e) λv=>M.bind (kK r) λvs=>M.pure (v::vs)
noncomputable def dM:List Ex->List Ex->M (List (V×V))
 | [],_=>M.pure []
 |k::ks,vs=>match vs with
  | []=>M.pure []
  |v::vs=>M.bind (ih.e k) λa=>M.bind (ih.e v) λb=>M.bind (dM ks vs) λr=>M.pure ((a,b)::r)
noncomputable def be:Nat->List (V×V)->Bool
 |_, []=>true
 |kd,(k,_)::r=>Nat.beq (cO k) kd&&Nat.blt kd 3&&(aO k r).isNone&&be kd r
def cc:List (V×V)->Nat
 | []=>0
 |(k,_)::_=>cO k
noncomputable def lL:List Ex->M V
 | []=>M.fail
 |e::r=>match r with
  | []=>ih.e e
  |_::_=>M.bind (ih.e e) λv=>M.bind (M.opt (iG v)) λt=>match t with
   |false=>M.pure v
   |true=>lL r
noncomputable def pP:List Ex->M V
 | []=>M.fail
 |e::r=>match r with
  | []=>ih.e e
  |_::_=>M.bind (ih.e e) λv=>M.bind (M.opt (iG v)) λt=>match t with
   |true=>M.pure v
   |false=>pP r
noncomputable def Fa:List Ex->M Bool
 | []=>M.pure true
 |e::r=>M.bind (ih.b e) λt=>match t with
  |false=>M.pure false
  |true=>Fa r
noncomputable def E9:List Ex->M Bool
 | []=>M.pure false
 |e::r=>M.bind (ih.b e) λt=>match t with
  |true=>M.pure true
  |false=>E9 r
def M.cmp(o:pa)(a b:V):M Bool:=λσ=>M.opt (me P σ.heap o a b) σ
noncomputable def gq (a:V):List pa->List Ex->M Bool
 | [],_=>M.fail
 |o::os,es=>match es with
  | []=>M.fail
  |e::es=>M.bind (ih.e e) λb=>M.bind (M.cmp P o a b) λt=>match os with
   | []=>M.pure t
   |_::_=>match t with
    |false=>M.pure false
    |true=>gq b os es
def G8:Option Ex->M V
 |none=>M.pure .none
 |some e=>ih.e e
def M.attr(a:V)(x:Nat):M V:=M.oO a λ_ _ o=>match o with
 | .inst c fs=>M.no (P.meth c x) (M.opt (aN x fs))
 | .caught c fs=>M.no (P.meth c x) (M.opt (aN x fs))
 |_=>M.fail
def mZ:Nat:=500
def jF(c x:Nat):Bool:= !(Nat.beq c 206)||Nat.beq x 208||Nat.beq x 110
def M.setAttr(a:V)(x:Nat)(v:V):M Unit:=M.oO a λs i o=>M.kI o λc fs=>M.gd (Nat.ble fs.length mZ&&jF c x) (M.put s i (.inst c (putN x v fs)))
def M.setItem(a k v:V):M Unit:=M.oO a λs i o=>match o with
 | .list vs=>M.oI k λj=>M.of (de j) λn=>M.gd (Nat.blt n vs.length) (M.put s i (.list (setNth v vs n)))
 | .dict kd es=>M.gd (Nat.ble es.length ay&&gp kd k) (M.put s i (.dict (cO k) (eW k v es)))
 |_=>M.fail
def jq(lo hi:Option Nat)(n:Nat):Bool:=Nat.ble n ay&&match lo with
 |some a=>hi.isNone&&(Nat.ble 1 a&&Nat.ble a n)
 |none=>match hi with
  |some b=>Nat.blt b n
  |none=>false
def M.slice(s:Nat)(a l h:V):M V:=M.of (Pz l) λlo=>M.of (Pz h) λhi=>match a with
 | .tup vs=>M.gd (jq lo hi vs.length) (M.pure (.tup (cutL lo hi vs)))
 | .str cs=>M.gd (jq lo hi cs.length) (M.pure (.str (cutL lo hi cs)))
 | .obj t i=>M.bind (M.get t i) λo=>M.kL o λvs=>M.gd (Nat.ble vs.length ay) (M.new s (.list (cutL lo hi vs)))
 |_=>M.fail
noncomputable def gc:Nat:=1
def AH:Nat:=2
def AI:Nat:=3
noncomputable def hO:List V->Option (List V×V)
 | []=>none
 |a::r=>some (match hO r with|some p=>(a::p.1,p.2)|none=>([],a))
inductive Hg where
 |own(f:Nat)|app|pop|get
def M.recv(a:V)(x:Nat):M Hg:=M.oO a λs i o=>match o with
 | .inst c fs=>M.no (aN x fs) (M.gd (!P.isExc c) (M.of (P.meth c x) λf=>M.pure (.own f)))
 | .list _=>match Nat.beq x gc with
  |true=>M.pure .app
  |false=>M.gd (Nat.beq x AH) (M.pure .pop)
 | .dict kd _=>M.gd (Nat.beq x AI&&Nat.blt kd 4) (M.pure .get)
 |_=>M.fail
def M.append(a v:V):M V:=M.oO a λs i o=>M.kL o λvs=>M.gd (Nat.ble vs.length ay) (M.bind (M.put s i (.list (vs++ [v]))) λ_=>M.pure .none)
def M.popL(a:V):M V:=M.oO a λs i o=>M.kL o λvs=>M.gd (Nat.ble vs.length ay) (M.of (hO vs) λp=>M.bind (M.put s i (.list p.1)) λ_=>M.pure p.2)
def M.getD(a k d:V):M V:=M.oO a λs i o=>M.kD o λkd es=>M.gd (gp kd k) (M.pure ((aO k es).getD d))
def M.meth(mt:Hg)(a:V)(args:List V):M V:=match mt with
 | .own f=>ih.c f (a::args)
 | .app=>match args with
  | []=>M.fail
  |v::r=>M.gd r.isEmpty (M.append a v)
 | .pop=>M.gd args.isEmpty (M.popL a)
 | .get=>match args with
  | []=>M.fail
  |k::r=>match r with
   | []=>M.getD a k .none
   |d::r=>M.gd r.isEmpty (M.getD a k d)
def M.len(a:V):M V:=match a with
 | .tup vs=>M.gd (Nat.ble vs.length ay) (M.pure (.int (vs.length:Nat)))
 | .obj s i=>M.bind (M.get s i) λo=>M.kL o λvs=>M.gd (Nat.ble vs.length ay) (M.pure (.int (vs.length:Nat)))
 |_=>M.fail
def M.lst(s:Nat)(vs:List V):M V:=M.gd (Nat.ble vs.length ay) (M.new s (.list vs))
def M.made(c s f:Nat)(args:List V):M V:=M.bind (M.new s (.inst c [])) λo=>M.bind (ih.c f (o::args)) λr=>M.oN r (M.pure o)
def M.make(c s:Nat)(args:List V):M V:=M.of (P.init c) λo=>match o with
 |none=>M.gd args.isEmpty (M.new s (.inst c []))
 |some f=>M.gd (!P.isExc c) (M.made ih c s f args)
def M.fill(o:V)(kd:Nat)(ps:List (V×V)):M Unit:=M.oO o λs i ob=>M.kD ob λQg es=>M.gd (Nat.beq Qg 0&&es.isEmpty) (M.put s i (.dict kd ps))
def rU{α:Type}:List α->Option α
 | []=>none
 |v::r=>gD r.isEmpty (some v)
def M.rep(s:Nat)(x y:V):M V:=M.oI y λn=>M.of (de n) λn=>M.oO x λ_ _ o=>M.kL o λvs=>M.of (rU vs) λv=>M.gd (Nat.ble n ay) (M.new s (.list (List.replicate n v)))
def lX(e:Ex):M V:=match e with
 | .loc x=>M.loc x
 | .glb x=>M.opt (P.const x)
 | .k v=>M.pure v
 | .tup es=>M.bind (kK ih es) λvs=>M.pure (.tup vs)
 | .list s es=>M.bind (kK ih es) λvs=>M.lst s vs
 | .dict s ks vs=>M.bind (M.new s (.dict 0 [])) λo=>M.bind (dM ih ks vs) λps=>M.gd (be (cc ps) ps&&Nat.ble ps.length 16) (M.bind (M.fill o (cc ps) ps) λ_=>M.pure o)
 | .bin o a b=>M.bind (ih.e a) λx=>M.bind (ih.e b) λy=>M.opt (bY o x y)
 | .rep s a b=>M.bind (ih.e a) λx=>M.bind (ih.e b) λy=>M.rep s x y
 | .neg a=>M.bind (ih.e a) λv=>M.oI v λi=>M.pure (.int (-i))
 | .not a=>M.bind (ih.e a) λv=>M.bind (M.opt (iG v)) λt=>M.pure (.bool (!t))
 | .and es=>lL ih es
 | .or es=>pP ih es
 | .cmp a os bs=>M.bind (ih.e a) λx=>M.bind (gq P ih x os bs) λt=>M.pure (.bool t)
 | .ite c a b=>M.bind (ih.b c) λt=>match t with|true=>ih.e a|false=>ih.e b
 | .attr a x=>M.bind (ih.e a) λv=>M.attr P v x
 | .sub a b=>M.bind (ih.e a) λx=>M.bind (ih.e b) λy=>M.item x y
 | .slice s a lo hi=>M.bind (ih.e a) λx=>M.bind (G8 ih lo) λl=>M.bind (G8 ih hi) λh=>M.slice s x l h
 | .call f args=>M.bind (kK ih args) λvs=>ih.c f vs
 | .new c s args=>M.bind (kK ih args) λvs=>M.make P ih c s vs
 | .meth o x args=>M.bind (ih.e o) λa=>M.bind (M.recv P a x) λmt=>M.bind (kK ih args) λvs=>M.meth ih mt a vs
 | .len a=>M.bind (ih.e a) λv=>M.len v
 | .hole=>M.fail
def stepT(e:Ex):M Bool:=match e with
 | .not a=>M.bind (ih.b a) λt=>M.pure (!t)
 | .and es=>Fa ih es
 | .or es=>E9 ih es
 | .ite c a b=>M.bind (ih.b c) λt=>match t with|true=>ih.b a|false=>ih.b b
 | .cmp a os bs=>M.bind (ih.e a) λx=>gq P ih x os bs
 |e=>M.bind (ih.e e) λv=>M.opt (iG v)
def execs:List Sm->M Fl
 | []=>M.pure .next
 |s::r=>M.bind (ih.s s) λf=>match f with
  | .next=>execs r
  | .ret v=>M.pure (.ret v)
noncomputable def bindAll:List Nat->List V->M Unit
 | [],vs=>M.gd vs.isEmpty (M.pure ())
 |x::xs,vs=>match vs with
  | []=>M.fail
  |v::vs=>M.bind (M.bindN x v) λ_=>bindAll xs vs
def assign(t:Ag)(v:V):M Unit:=match t with
 | .loc x=>M.bindN x v
 | .attr o x=>M.bind (ih.e o) λa=>M.setAttr a x v
 | .sub o i=>M.bind (ih.e o) λa=>M.bind (ih.e i) λk=>M.setItem a k v
 | .tup xs=>M.oT v λvs=>bindAll xs vs
def M.calm{α:Type}(m:M α):M α:=λσ=>match m σ with
 |some (.ok a,σ')=>some (.ok a,σ')
 |_=>none
def jn(s i:Nat)(vs:List V):M Unit:=M.bind (M.get s i) λo=>M.kL o λus=>M.gd (V.beqs us vs) (M.pure ())
noncomputable def bW (cw:M Unit) (t:Ag) (b:List Sm):List V->M Fl
 | []=>M.pure .next
 |v::r=>M.bind (assign ih t v) λ_=>M.bind (execs ih b) λf=>match f with
  | .next=>M.bind cw λ_=>bW cw t b r
  | .ret u=>M.pure (.ret u)
def bh(a:Int):Nat->List V
 |0=> []
 |n+1=> .int a::bh (a+1) n
def f0:List V->Option (List V)
 | []=>none
 |a::r=>oI a λa=>match r with
  | []=>gD (cz a) (some (bh 0 a.toNat))
  |b::r=>oI b λb=>gD (r.isEmpty&&(cz a&&cz b)) (some (bh a (b - a).toNat))
def M.restore{α:Type}(e:List (Nat×V))(m:M α):M α:=λσ=>match m σ with
 |some (.ok a,σ')=>some (.ok a,σ'.setE e)
 |some (.exc _ s i c,σ')=>some (.exc true s i c,σ'.setE e)
 |none=>none
def M.unE(x:Nat)(m:M Fl):M Fl:=M.bind (M.calm m) λf σ=>some (.ok f,σ.setE (lb x σ.env))
def M.handle(c x s i c':Nat)(h:M Fl):M Fl:=M.bind (M.get s i) λo=>M.kG o λLU fs=>M.gd (Nat.beq c c'&&Nat.beq c' LU) (M.bind (M.put s i (.caught c fs)) λ_=>M.bind (M.bindN x (.obj s i)) λ_=>M.unE x h)
def M.catch(c x:Nat)(m:M Fl)(h:M Fl):M Fl:=λσ=>match m σ with
 |none=>none
 |some p=>match p.1 with
  | .ok f=>some (.ok f,p.2)
  | .exc je s i c'=>M.gd je (M.handle c x s i c' h) p.2
def M.raise(c s i:Nat):M Fl:=M.bind (M.get s i) λo=>M.kI o λc' fs=>M.gd (P.isExc c'&&(Nat.beq c c'&& !fs.isEmpty)) λσ=>some (.exc false s i c',σ.put s i (.gone c' fs))
def M.makeExc(c s:Nat)(args:List V):M V:=M.of (P.init c) λo=>M.of o λf=>M.gd (P.isExc c&&Nat.ble args.length ay) (M.made ih c s f args)
def oj(s:Sm):M Fl:=match s with
 | .expr e=>M.bind (ih.e e) λ_=>M.pure .next
 | .asg t e=>M.bind (ih.e e) λv=>M.bind (assign ih t v) λ_=>M.pure .next
 | .augN x o e=>M.bind (M.loc x) λa=>M.bind (ih.e e) λb=>M.bind (M.opt (ow o a b)) λv=>M.bind (M.bindN x v) λ_=>M.pure .next
 | .augA a x o e=>M.bind (ih.e a) λq=>M.bind (M.attr P q x) λu=>M.bind (ih.e e) λb=>M.bind (M.opt (ow o u b)) λv=>M.bind (M.setAttr q x v) λ_=>M.pure .next
 | .ite c t e=>M.bind (ih.b c) λb=>match b with|true=>execs ih t|false=>execs ih e
 | .wh c b=>M.calm (M.bind (ih.b c) λt=>match t with
  |false=>M.pure .next
  |true=>M.bind (execs ih b) λf=>match f with
   | .next=>ih.s (.wh c b)
   | .ret v=>M.pure (.ret v))
 | .for t it b=>match it with
  | .range args=>M.bind (kK ih args) λvs=>M.of (f0 vs) λl=>M.calm (bW ih (M.pure ()) t b l)
  | .over e=>M.bind (ih.e e) λv=>match v with
   | .tup vs=>M.calm (bW ih (M.pure ()) t b vs)
   | .obj s i=>M.bind (M.get s i) λo=>M.kL o λvs=>M.gd (Nat.ble vs.length ay) (M.calm (bW ih (jn s i vs) t b vs))
   |_=>M.fail
 | .ret none=>M.pure (.ret .none)
 | .ret (some e)=>M.bind (ih.e e) λv=>M.pure (.ret v)
 | .try b c x h=>M.catch c x (execs ih b) (execs ih h)
 | .raise c s args=>M.bind (kK ih args) λvs=>M.bind (M.makeExc P ih c s vs) λo=>M.oR o (M.raise P c)
 | .hole=>M.fail
noncomputable def pb:List Nat->List V->Option (List (Nat×V))
 | [],vs=>gD vs.isEmpty (some [])
 |x::xs,vs=>match vs with
  | []=>none
  |v::vs=>(pb xs vs).map ((x,v)::·)
def rO(f:Nat)(args:List V):M V:=M.of (P.fn f) λfn=>M.of (pb fn.params args) λenv=>M.bind M.env λkU=>M.restore kU (M.bind (M.setE env) λ_=>M.bind (execs ih fn.body) λr=>match r with
   | .next=>M.pure .none
   | .ret v=>M.pure v)
end
noncomputable def run (P:PT):Nat->Ih
 |0=>⟨λ_=>M.fail,λ_=>M.fail,λ_=>M.fail,λ_ _=>M.fail⟩
 |n+1=>⟨lX P (run P n),stepT P (run P n),oj P (run P n),rO P (run P n)⟩
end Mine
end
section
namespace Mine
open PySem PySem.W PyProof.Rows PySem.Calls
structure Kn where
 at_:Nat->Nat->Bool->Option Addr
 tup:Addr->Option (List Value)
structure Kn.Le(a b:Kn):Prop where
 at_:∀{s i c x},a.at_ s i c=some x->b.at_ s i c=some x
 tup:∀{x vs},a.tup x=some vs->b.tup x=some vs
theorem Kn.Le.refl(a:Kn):a.Le a:=⟨id,id⟩
theorem Kn.Le.trans{a b c:Kn}(x:a.Le b)(y:b.Le c):a.Le c:=⟨λh=>y.at_ (x.at_ h),λh=>y.tup (x.tup h)⟩
structure SW where
 prog:Program
 w:World
 K:Frag
 base:Heap
 P:PT
 nm:Nat->Str
 cls:Nat->Option Addr
 gl:Nat->Option Addr
 mg:Str->Option Value
 mb:Str->Option Value
 p:Program
 loose:List Str
 gens:Array GenState
 os:OsState
 X:K.In base
 T:TopRead p loose mg mb base
 lim:base.NoLimit
 inj:∀x y,nm x=nm y->x=y
section
variable(W:SW)(κ:Kn)
mutual
def VR:V->Value->Prop
 | .none,v=>v= .none
 | .bool b,v=>v= .bool b
 | .int i,v=>∃t,v= .int i t
 | .str l,v=>∃t,v= .str ⟨l.toArray⟩ t
 | .tup vs,v=>∃a xs,v= .ref a/\κ.tup a=some xs/\cH vs xs
 | .obj s i,v=>∃a,v= .ref a/\κ.at_ s i false=some a
 | .glob g,v=>∃a,v= .ref a/\W.gl g=some a
def cH:List V->List Value->Prop
 | [],l=>l= []
 |v::vs,l=>∃x xs,l=x::xs/\VR v x/\cH vs xs
end
end
section
variable{W:SW}{κ cK:Kn}
mutual
theorem VR.mono(le:κ.Le cK):∀{v:V} {x:Value},VR W κ v x->VR W cK v x
 | .none,_,h=>h
 | .bool _,_,h=>h
 | .int _,_,h=>h
 | .str _,_,h=>h
 | .tup _,_,h=>by
  (refine a8 h λa xs e h1 h2=>?_;clear h)
  exact(aY a xs e (le.tup h1) (cH.mono le h2))
 | .obj _ _,_,h=>by
  (refine U h λa e h1=>?_;clear h)
  exact(al a e (le.at_ h1))
 | .glob _,_,h=>h
theorem cH.mono(le:κ.Le cK):∀{vs:List V} {xs:List Value},cH W κ vs xs->cH W cK vs xs
 | [],_,h=>h
 |_::_,_,h=>by
  (refine a8 h λx xs e h1 h2=>?_;clear h)
  exact(aY x xs e (VR.mono le h1) (cH.mono le h2))
end
theorem cH.length:∀{vs:List V} {xs:List Value},cH W κ vs xs->vs.length=xs.length:=by
 intro vs
 induction vs with
 |nil=>intro _ h;subst h;rfl
 |cons _ vs ih=>
  intro _ h
  (refine a8 h λx xs q3 _ h2=>?_;clear h;subst q3)
  simp[ih h2]
theorem cH.nth:∀{vs:List V} {xs:List Value} {n:Nat} {v:V},cH W κ vs xs->Mine.nth vs n=some v->∃x,xs[n]? =some x/\VR W κ v x:=by
 intro vs
 induction vs with
 |nil=>intro _ _ _ _ h;cases h
 |cons u vs ih=>
  intro _ n v h e
  (refine a8 h λx xs q3 h1 h2=>?_;clear h;subst q3)
  cases n with
  |zero=>obtain rfl:=YZ e;exact(al x rfl h1)
  |succ n=>exact ih (n:=n) h2 e
theorem cH.append:∀{vs us:List V} {xs ys:List Value},cH W κ vs xs->cH W κ us ys->cH W κ (vs++us) (xs++ys):=by
 intro vs
 induction vs with
 |nil=>intro _ _ _ h h';subst h;exact h'
 |cons _ _ ih=>
  intro _ _ _ h h'
  (refine a8 h λx xs q3 h1 h2=>?_;clear h;subst q3)
  exact(aY x _ rfl h1 (ih h2 h'))
theorem cH.single(h:VR W κ v x):cH W κ [v] [x]:=by exact(aY x ([]) rfl h rfl)
theorem cH.take:∀{vs:List V} {xs:List Value} (n:Nat),cH W κ vs xs->cH W κ (vs.take n) (xs.take n):=by
 intro vs
 induction vs with
 |nil=>intro _ n h;subst h;simp[cH]
 |cons _ _ ih=>
  intro _ n h
  (refine a8 h λx xs q3 h1 h2=>?_;clear h;subst q3)
  cases n with
  |zero=>dsimp[cH]
  |succ n=>exact(aY x _ rfl h1 (ih n h2))
theorem cH.drop:∀{vs:List V} {xs:List Value} (n:Nat),cH W κ vs xs->cH W κ (vs.drop n) (xs.drop n):=by
 intro vs
 induction vs with
 |nil=>intro _ n h;subst h;simp[cH]
 |cons _ _ ih=>
  intro _ n h;have h0:=h
  (refine a8 h λx xs q3 h1 h2=>?_;clear h;subst q3)
  cases n with
  |zero=>exact h0
  |succ n=>exact ih n h2
theorem cH.setNth:∀{vs:List V} {xs:List Value} {v:V} {x:Value} (n:Nat),cH W κ vs xs->VR W κ v x->cH W κ (Mine.setNth v vs n) (xs.set n x):=by
 intro vs
 induction vs with
 |nil=>intro _ _ _ n h _;subst h;rfl
 |cons _ _ ih=>
  intro _ v x n h hv
  (refine a8 h λy xs q3 h1 h2=>?_;clear h;subst q3)
  cases n with
  |zero=>exact(aY x _ rfl hv h2)
  |succ n=>exact(aY y _ rfl h1 (ih n h2 hv))
theorem cH.replicate(h:VR W κ v x):∀n,cH W κ (List.replicate n v) (List.replicate n x)
 |0=>by rfl
 |n+1=>by exact(aY x _ rfl h (cH.replicate h n))
end
noncomputable def bT (d:Addr) (o:Obj):List (Addr×Obj)->List (Addr×Obj)
 | []=> []
 |p::r=>if p.1=d then(d,o)::r else p::bT d o r
theorem Yt(d:Addr)(o:Obj):bT d o []= []:=rfl
theorem Ip(d:Addr)(o:Obj)(p:Addr×Obj)(r:List (Addr×Obj)):bT d o (p::r)=if p.1=d then(d,o)::r else p::bT d o r:=rfl
set_option tactic.hygienic true in
theorem cG(d:Addr)(o:Obj):∀l,(bT d o l).map (·.1)=l.map (·.1)
 | []=>rfl
 |p::r=>by
  rw[Ip];split
  ·rename_i h;simp[h]
  ·simp[cG d o r]
set_option tactic.hygienic true in
theorem jU:∀{l l':List (Addr×Obj)},d∈l.map (·.1)->bT d o (l++l')=bT d o l++l':=by
 intro l
 induction l with
 |nil=>intro _ h;exact nomatch h
 |cons p r ih=>
  intro l' h;dsimp only[List.cons_append,Ip];split
  ·rfl
  ·rename_i hn;rcases YS.mp h with e|h
   ·exact absurd e.symm hn
   ·rw[ih h];rfl
set_option tactic.hygienic true in
theorem bP:∀{l:List (Addr×Obj)},p∈l->p.1≠d->p∈bT d o l
 |q::r,h,hn=>by
  rw[Ip];split
  ·rename_i e;rcases YS.mp h with rfl|h
   ·exact absurd e hn
   ·exact .tail _ h
  ·rcases YS.mp h with rfl|h
   ·exact .head _
   ·exact .tail _ (bP h hn)
set_option tactic.hygienic true in
theorem aH:∀{l:List (Addr×Obj)},d∈l.map (·.1)->(d,o)∈bT d o l:=by
 intro l
 induction l with
 |nil=>intro h;exact nomatch h
 |cons q r ih=>
  intro h;rw[Ip];split
  ·exact .head _
  ·rename_i hn;rcases YS.mp h with e|h
   ·exact absurd e.symm hn
   ·exact .tail _ (ih h)
theorem aU{l:List (Addr×Obj)}(h:(d,o)∈l):d∈l.map (·.1):=Zj.mpr (al _ h rfl)
theorem cJ:∀{l:List (Addr×Obj)},(l.map (·.1)).Nodup->(d,o)∈l->(d,o')∈l->o=o'
 |p::r,hn,h,h'=>by
  rw[Y5,Zc]at hn;rcases YS.mp h with e|h<;>rcases YS.mp h' with e'|h'
  ·rw[e.symm]at e';exact(zaR e').2.symm
  ·exact absurd (aU h') (by rw[<-e]at hn;exact hn.1)
  ·exact absurd (aU h) (by rw[<-e']at hn;exact hn.1)
  ·exact cJ hn.2 h h'
set_option tactic.hygienic true in
theorem po(o':Obj):∀{l:List (Addr×Obj)},(l.map (·.1)).Nodup->(d,o)∈l->Upd d o o' l (bT d o' l):=by
 intro l
 induction l with
 |nil=>intros;contradiction
 |cons p r ih=>
  intro hn h;rw[Y5,Zc]at hn;rw[Ip];split
  ·rename_i e;have:p=(d,o):=by
    rcases YS.mp h with e'|h
    ·exact e'.symm
    ·exact absurd (e ▸ aU h) hn.1
   subst this;exact .head λq hq e'=>hn.1 (Zj.mpr (al q hq e'))
  ·rename_i ut;rcases YS.mp h with e'|h
   ·exact absurd (by(refine(e') ▸ rfl)) ut
   ·exact .tail ut (ih hn.2 h)
theorem ju:∀{l:List (Addr×Obj)},(l.map (·.1)).Nodup->(d,o)∈l->UpdF d o l (λo'=>bT d o' l):=by
 intro l
 induction l with
 |nil=>intros;contradiction
 |cons p r ih=>
  intro hn h;rw[Y5,Zc]at hn;by_cases e:p.1=d
  ·have:p=(d,o):=by
    rcases YS.mp h with e'|h
    ·exact e'.symm
    ·exact absurd (e ▸ aU h) hn.1
   subst this;rw[(show(λo'=>bT d o' ((d,o)::r))=λo'=>(d,o')::r from by funext o';simp[Ip])];exact .head λq hq e'=>hn.1 (Zj.mpr (al q hq e'))
  ·skip;rw[(show(λo'=>bT d o' (p::r))=λo'=>p::bT d o' r from by funext o';simp[Ip,e])];rcases YS.mp h with e'|h
   ·exact absurd (by(refine(e') ▸ rfl)) e
   ·exact .tail e (ih hn.2 h)
def Uy(o:Obj)(m:Str->Option Value):Prop:=∃es ep,o.data= .dict es ep/\StrKeys es/\∀name,nsFind es name=m name
theorem pF{h:Heap}:h.Ns L m↔∃o,h.get? L=some o/\Uy o m:=
 ⟨λh=>uV h λo es ep a b=>⟨o,a,es,ep,b⟩,λh=>U h λo a q=>iQ q λes ep b=>Jn o es ep a b⟩
def Cy(o:Obj)(vs:List Value):Prop:=o.cls= .type "tuple"/\o.dict=none/\∃n,o.data= .seq vs.toArray n
section
variable(W:SW)(κ:Kn)(aw:List (Addr×Obj))
def bA(t:Addr):Data:= .fields #[.ref t, .none, .none, .none, .bool false, .none]
def c6:List (Nat×V)->List DictEntry->Prop
 | [],es=>es= []
 |(x,v)::fs,es=>∃e r,es=e::r/\(∃t,e.key= .str (W.nm x) t)/\VR W κ v e.val/\c6 fs r
end
end Mine
end
section
namespace Mine
open PySem PySem.W PyProof.Rows PySem.Calls PySem.Spec
abbrev dQ:=List (Int⊕List Int)
section
variable{prog:Program}{w:World}
inductive cF(prog:Program)(w:World)(h:Heap):dQ->List Value->Prop
 |nil:cF prog w h [] []
 |int {i t ks vs}:cF prog w h ks vs->cF prog w h (.inl i::ks) (.int i t::vs)
 |tup {l b ks vs}:IsTupleKey (PySem.intKind prog w) h l b->cF prog w h ks vs->cF prog w h (.inr l::ks) (.ref b::vs)
def iy(prog:Program)(w:World)(h:Heap)(k:dQ)(a:Addr):Prop:=∃o dw n,h.get? a=some o/\o.cls= .type "tuple"/\o.data= .seq dw n/\cF prog w h k dw.toList
theorem iy.typeIs{s:Shared}(x:iy prog w s.heap k a):s.TypeIs (.ref a) "tuple":=Exists.elim x λo h=>h.elim λ_ h=>h.elim λ_ h=>al o h.1 h.2.1
theorem cF.inj(hx:cF prog w h x vs)(hy:cF prog w h y vs):x=y:=by
 induction hx generalizing y with
 |nil=>cases hy;rfl
 |int _ ih=>cases hy with|int t=>rw[ih t]
 |tup h1 _ ih=>cases hy with|tup h2 t=>rw[ih t,h1.inj h2]
theorem iy.inj(hx:iy prog w h x a)(hy:iy prog w h y a):x=y:=by
 (refine nJ hx λo dw n ho _ hd hi=>?_;clear hx)
 (refine nJ hy λo' Sy n' n6 _ nu Ad=>?_;clear hy)
 obtain rfl:o=o':=YZ (ho.symm.trans n6);rw[hd]at nu;injection nu with h1 _;subst h1;exact hi.inj Ad
theorem cF.keeps(ho:h.get? d=some o)(hd:o.data= .dict es ep)(hs:Heap.SameBut d h h'):∀{k:dQ} {vs:List Value},cF prog w h k vs->cF prog w h' k vs:=by
 intro k vs x
 induction x with
 |nil=>exact .nil
 |int _ i=>exact .int i
 |tup y _ i=>exact .tup (y.keeps ho hd hs) i
theorem iy.keeps(x:iy prog w h k a)(ho:h.get? d=some o)(hd:o.data= .dict es ep)(hs:Heap.SameBut d h h'):iy prog w h' k a:=by
 (refine nJ x λo' dw n n6 hc nu hi=>?_;clear x)
 exact(ph o' dw n ((hs.2 a (by
  rintro rfl;obtain rfl:o'=o:=YZ (n6.symm.trans ho);rw[hd]at nu;exact nomatch nu)).trans n6) hc nu (hi.keeps ho hd hs))
noncomputable def eM (prog:Program) (w:World):Int⊕List Int->Int
 | .inl i=>(PySem.intKind prog w).hash i
 | .inr l=>tupleKeyHash (PySem.intKind prog w) l
def uZ(prog:Program)(w:World)(k:dQ):Int:=reduceHash (Builtin.Tuple.tupleHashOf (k.map (eM prog w)))
def lx:Int⊕List Int->Nat
 | .inl _=>1
 | .inr l=>l.length+1
def pW(k:dQ):Nat:=(k.map lx).sum+1
noncomputable def lQ:Int⊕List Int->PyData
 | .inl i=> .int i
 | .inr l=> .tuple (l.map .int)
def Ln(k:dQ):PyData:= .tuple (k.map lQ)
variable{A:Around}{E:Value->Shared->Prop}{s:Shared}
theorem nc:∀{l:List Int} {vs:List Value},PySem.ItemsAre (PySem.intKind prog w) l vs->ReadsAll h vs (l.map .int) []:=by
 intro l vs x
 induction x with
 |nil=>exact .nil
 |cons h1 _ i=>
  obtain⟨tk,rfl⟩:=PySem.Value.isInt_shape h1;exact ReadsAll.cons (Reads.int _ _) i
theorem m6(x:IsTupleKey (PySem.intKind prog w) h l b):∃as,Reads h (.ref b) (.tuple (l.map .int)) as:=by
 (refine nJ x λo dw n ho hc hd hi=>?_;clear x)
 exact(iP _ (Reads.tuple ho hc hd (nc hi)))
theorem qy:∀{k:dQ} {vs:List Value},cF prog w h k vs->∃as,ReadsAll h vs (k.map lQ) as:=by
 intro k vs x
 induction x with
 |nil=>exact iP _ .nil
 |int _ i=>exact i.elim λ_ r=>iP _ (.cons (.int _ _) r)
 |tup y _ i=>exact i.elim λ_ r=>(m6 y).elim λ_ r'=>iP _ (.cons r' r)
theorem sd(x:iy prog w h k a):∃as,Reads h (.ref a) (Ln k) as:=by
 (refine nJ x λo dw n ho hc hd hi=>?_;clear x)
 obtain⟨as,r⟩:=qy hi;exact(iP _ (Reads.tuple ho hc hd r))
theorem sV:∀l:List Int,PyData.canLayAll0 (l.map PyData.int)=true
 | []=>by rfl
 |n::r=>by simp[PyData.canLayAll0,PyData.canLay0,sV r]
theorem oV:∀l:List Int,PyData.depthAll (l.map PyData.int)<=1
 | []=>by simp[PyData.depthAll]
 |n::r=>by
  have:=oV r;exact‹_›
theorem pX:∀k:dQ,PyData.canLayAll0 (k.map lQ)=true
 | []=>by rfl
 | .inl n::r=>by simp[PyData.canLayAll0,PyData.canLay0,lQ,pX r]
 | .inr l::r=>by simp[PyData.canLayAll0,PyData.canLay0,lQ,pX r,sV l]
theorem mD:∀k:dQ,PyData.depthAll (k.map lQ)<=2
 | []=>by simp[PyData.depthAll]
 | .inl n::r=>by
  have:=mD r;exact‹_›
 | .inr l::r=>by
  simp only[Y5,PyData.depthAll,lQ,PyData.depth];exact Nat.max_le.mpr ⟨ZC (oV l),mD r⟩
theorem BJ(k:dQ):PyData.canLay0 (Ln k)=true:=by exact pX k
theorem Fm(k:dQ):(Ln k).depth<=3:=by have:=mD k;exact zap ‹_›
theorem sU:∀x y:List Int,PyData.eqvAll (x.map PyData.int) (y.map PyData.int)=decide (x=y)
 | [], []=>by rfl
 | [],_::_=>by rfl
 |_::_, []=>by rfl
 |n::r,k::q=>by
  simp only[Y5,PyData.eqvAll,PyData.eqv,sU r q];by_cases h:n=k<;>simp[h]
theorem Fo:∀x y:dQ,PyData.eqvAll (x.map lQ) (y.map lQ)=decide (x=y):=by
 intro x
 induction x with
 |nil=>intro y;cases y<;>rfl
 |cons a r i=>
  intro y;cases y with
  |nil=>cases a<;>rfl
  |cons b q=>
   cases a with
   |inl n=>cases b with
    |inl k=>
     simp only[Y5,PyData.eqvAll,lQ,PyData.eqv,i];by_cases h:n=k<;>simp[h]
    |inr k=>rfl
   |inr n=>cases b with
    |inl k=>rfl
    |inr k=>
     simp only[Y5,PyData.eqvAll,lQ,PyData.eqv,i,sU];by_cases h:n=k<;>simp[h]
theorem Jw(x y:dQ):PyData.eqv (Ln x) (Ln y)=decide (x=y):=by exact Fo x y
theorem yV(hu:A.units+8<cLine)(hx:iy prog w s.heap x a)(hy:iy prog w s.heap y b)(h:Q (decide (x=y)) s):
  wpAny (model prog w) A (eqBool (.ref a) (.ref b)) Q E s:=by
 refine eX (sd hx) λas ra=>?_;refine eX (sd hy) λbs rb=>?_;exact PySem.SeqAt.eqBoolOverData prog w A E s _ _ _ _ as bs Q ra rb (BJ x) (BJ y) (Zp (Ze (YU (Nat.min_le_left ..) (YU (Fm x) ak)) _) hu) (by rw[Jw];exact h)
theorem CQ(hk:iy prog w s.heap k a)(h:Q true s):wpAny (model prog w) A (eqIsQuiet 8 (.ref a)) Q E s:=by
 have hT:=hk.typeIs
 (refine nJ hk λo dw n ho _ hd hi=>?_;clear hk)
 unfold eqIsQuiet;refine YT (zbx hT F.slot_tuple_eq.lookup ?_);refine YT (wpAny_isInstance hT isSubtype_tuple_tuple ?_);refine YT (wpAny_seqItems ho hd ?_);refine YT ?_;rw[<-zbN];refine wpAny_forIn_list _ (λrest r s'=>r.1=none/\s'=s/\∃ks,cF prog w s.heap ks rest) _ ?_ ?_ _ _ ⟨rfl,rfl,k,hi⟩
 ·rintro v rest r s' ⟨hr,rfl,ks,nG⟩;cases nG with
  |int t=>
   rw[eqIsQuiet_byValue _ rfl];refine YT (Y7 ?_);exact Y7 ⟨rfl,rfl,_,t⟩
  |tup h1 t=>
   have hT:=h1.typeIs
   (refine nJ h1 λo dw n ho _ hd hi=>?_;clear h1)
   refine YT ?_;unfold eqIsQuiet;refine YT (zbx hT F.slot_tuple_eq.lookup ?_);refine YT (wpAny_isInstance hT isSubtype_tuple_tuple ?_);refine YT (wpAny_seqItems ho hd ?_);refine YT ?_;rw[<-zbN];refine wpAny_forIn_list _ (λrest r Lp=>r.1=none/\Lp=s'/\∀v∈rest,carriedByValue v=true) _ ?_ ?_ _ _ (gA rfl rfl (hi.byValue))
   ·rintro v rest r Lp ⟨hr,rfl,nG⟩
    (refine(eqIsQuiet_byValue _ (nG v List.mem_cons_self)).symm ▸?_)
    refine YT (Y7 ?_);exact Y7 (gA rfl rfl (λu LD=>nG u (Zf _ LD)))
   ·rintro ⟨r1,r2⟩ Lp ⟨hr,rfl,_⟩;subst hr;refine Y7 ?_;exact Y7 ⟨rfl,rfl,_,t⟩
 ·rintro ⟨r1,r2⟩ s' ⟨hr,rfl,_⟩;subst hr;exact Y7 h
theorem yU(hu:A.units+8<cLine)(hk:iy prog w s.heap k a)(h:Q (uZ prog w k) {s with toks:=s.toks+pW k}):
  wpAny (model prog w) A (pyHash (.ref a)) Q E s:=by
 have hT:=hk.typeIs
 (refine nJ hk λo dw n ho _ hd hi=>?_;clear hk)
 first|skip|skip
 first|refine YT (wpAny_cRoomFor_or (.inr (Zp (Y4 ..) hu)) ?_)|skip
 refine YT (zbx hT zbg.lookup ?_);rw[Zs (by rw[beq_builtin_none];exact zaF)];refine YT (zbx hT zbg.lookup ?_);refine YT (wpAny_callSpecialIfBoundUnlessNone?_slot hT zbg (wpAny_call_entry zbg hT F.entry_tuple_hash ?_ (F.args_tuple_hash_1 _)));show wpAny _ _ (Builtin.Tuple.tupleItemsOf (.ref a)>>=_) _ _ s;refine YT (wpAny_tupleItemsOf ho hd ?_);refine YT ?_;rw[<-zbN];refine wpAny_forIn_list _
  (λrest (b:Array Int) s'=>∃done left,k=done++left/\cF prog w s.heap left rest/\b.toList=done.map (eM prog w)/\s'={s with toks:=s.toks+(done.map lx).sum})
  _ ?_ ?_ _ _ (ci ([]) k rfl hi rfl rfl)
 ·rintro x rest b s' ⟨done,left,rfl,hl,hb,rfl⟩;cases hl with
  | @int i t Ly _ At=>
   refine YT ((PySem.intKind prog w).pyHash (k:=i) (ZK _ _ _ _) ?_)
   first
    |exact Y7 ((ci (done++ [.inl i]) Ly (by simp) At (by simp[hb,eM]) (by simp[lx,ZF])))
    |exact YT (Y7 (Y7 ((ci (done++ [.inl i]) Ly (by simp) At (by rfl) (by rfl)))))
  | @tup l c Ly _ h1 At=>
   refine YT (wpAny_pyHash_tuple (knd:=PySem.intKind prog w) (ks:=l) ?_ h1 ?_)
   ·exact Zp (Ze (by decide:1<=8) _) hu
   first
    |exact Y7 ((ci (done++ [.inr l]) Ly (by simp) At (by simp[hb,eM]) (by simp[lx,ZF])))
    |exact YT (Y7 (Y7 (⟨done++ [.inr l],Ly,by simp,At,by rfl,by rfl⟩)))
 ·rintro b s' ⟨done,left,rfl,hl,hb,rfl⟩;cases hl;rw[Zb]at h;show wpAny _ _ (retInt (Builtin.Tuple.tupleHashOf b.toList)) _ _ _;rw[hb];refine wpAny_ret_mkInt ?_;show wpAny _ _ (if (decide (-(2:Int)^63<=Builtin.Tuple.tupleHashOf (done.map (eM prog w)))&&decide (Builtin.Tuple.tupleHashOf (done.map (eM prog w))<2^63))=true then _ else _) Q E _;unfold uZ reduceHash pW at h;by_cases hr:(decide (-(2:Int)^63<=Builtin.Tuple.tupleHashOf (done.map (eM prog w)))&&decide (Builtin.Tuple.tupleHashOf (done.map (eM prog w))<2^63))=true
  ·rw[ZU hr];rw[ZU hr]at h;exact Y7 (by simpa [ZF]using h)
  ·rw[Zs hr];rw[Zs hr]at h;exact YT (wpAny_rule (Y7 (by simpa [ZF]using h)))
def fb(prog:Program)(w:World):HeapKind prog w dQ where
 is:=iy prog w
 hash:=uZ prog w
 draws:=pW
 room:=λA=>A.units+8<cLine
 inj:=λhx hy=>hx.inj hy
 keeps:=λx ho hd hs=>x.keeps ho hd hs
 pyHash:=λhu hk h=>yU hu hk h
 eqBool:=λhu hx hy h=>yV hu hx hy h
 quiet:=λhk h=>CQ hk h
end
end Mine
end
section
namespace Mine
open PySem PySem.W PyProof.Rows PySem.Calls
section
variable{K:Type} [DecidableEq K](R:V->K->Prop)(S:V->Value->Prop)
def KV:List (V×V)->List (K×Value)->Prop
 | [],l=>l= []
 |p::es,l=>∃q r,l=q::r/\R p.1 q.1/\S p.2 q.2/\KV es r
variable{R S}
theorem KV.length:∀{es:List (V×V)} {br:List (K×Value)},KV R S es br->es.length=br.length:=by
 intro es
 induction es with
 |nil=>intro _ h;subst h;rfl
 |cons _ es ih=>
  intro _ h
  (refine iQ h λq r q=>?_;obtain⟨rfl,_,_,h⟩:=q)
  simp[ih h]
variable(hR:∀{p p':V} {k k':K},R p k->R p' k'->(p=p'↔k=k'))
include hR
theorem KV.look(hp:R p k):∀{es:List (V×V)} {br:List (K×Value)},KV R S es br->match aO p es with|some u=>∃x,valueAt br k=some x/\S u x|none=>valueAt br k=none:=by
 intro es
 induction es with
 |nil=>intro _ h;subst h;rfl
 |cons e es ih=>
  intro _ h
  (refine cQ h λq r q3 h1 h2 h3=>?_;clear h;subst q3)
  dsimp only[Qd];cases hb:e.1.beq p with
  |true=>
   have:=(hR h1 hp).mp (V.beq_iff.mp hb);exact(al (q.2) (by simp[valueAt,this]) h2)
  |false=>
   simpa [valueAt,zaU,(show¬q.1=k fromλe=>by have:=V.beq_iff.mpr ((hR h1 hp).mpr e);rw[hb]at this;exact nf this)]using(ih h3)
omit hR in
theorem tj{k:K}(hn:((q::r).map (·.1)).Nodup):stored (q::r) k v=if q.1=k then(q.1,v)::r else q::stored r k v:=by
 rw[Y5,Zc]at hn;by_cases h:q.1=k
 ·rw[ZU h]
  simp only[stored,zbi,h,decide_true,Bool.true_or,if_true,Y5,(by
   exact(List.map_congr_left (show∀x∈r,(if x.1=k then(x.1,v)else x)=x fromλx hx=>by
    rw[Zs];intro e;exact hn.1 (Zj.mpr (al x hx (e.trans h.symm))))).trans (List.map_id r))]
 ·rw[Zs h];simp only[stored,zbi,h,decide_false,zbj,Y5];split<;>rfl
theorem KV.put(hp:R p k)(hu:S u x):∀{es:List (V×V)} {br:List (K×Value)},(br.map (·.1)).Nodup->KV R S es br->KV R S (eW p u es) (stored br k x):=by
 intro es
 induction es with
 |nil=>
  intro _ _ h;subst h;exact(ci ((k,x)) ([]) rfl hp hu rfl)
 |cons e es ih=>
  intro _ hn h
  (refine cQ h λq r q3 h1 h2 h3=>?_;clear h;subst q3)
  rw[tj hn];dsimp only[Lq];cases hb:e.1.beq p with
  |true=>
   rw[ZU ((hR h1 hp).mp (V.beq_iff.mp hb))];exact(ci _ _ rfl h1 hu h3)
  |false=>
   rw[Zs (λe=>by have:=V.beq_iff.mpr ((hR h1 hp).mpr e);rw[hb]at this;exact nf this)];rw[Y5,Zc]at hn;exact(ci _ _ rfl h1 h2 (ih hn.2 h3))
omit hR in
theorem KV.mono(hS:∀u x,S u x->S' u x):∀{es:List (V×V)} {br:List (K×Value)},KV R S es br->KV R S' es br:=by
 intro es
 induction es with
 |nil=>intro _ h;exact h
 |cons _ es ih=>
  intro _ h
  (refine cQ h λq r q3 h1 h2 h3=>?_;clear h;subst q3)
  exact(ci q r rfl h1 (hS _ _ h2) (ih h3))
end
def RS(p:V)(k:Str):Prop:=∃l,p= .str l/\k=⟨l.toArray⟩
def RI(p:V)(k:Int):Prop:=p= .int k
theorem RS.iff(h:RS p k)(h':RS p' k'):p=p'↔k=k':=by
 (refine U h λl q2 q3=>?_;clear h;subst q2;subst q3)
 (refine U h' λl' q2 q3=>?_;clear h';subst q2;subst q3)
 simp
theorem RI.iff(h:RI p k)(h':RI p' k'):p=p'↔k=k':=by
 subst h;subst h';simp
noncomputable def rZ:V->Int
 | .int i=>i
 |_=>0
def lZ:V->Int⊕List Int
 | .int i=> .inl i
 | .tup us=> .inr (us.map rZ)
 |_=> .inl 0
def Mx:V->dQ
 | .tup vs=>vs.map lZ
 |_=> []
def RT(p:V)(k:dQ):Prop:=cO p=3/\k=Mx p
theorem zB:∀{l l':List V},l.all isInt=true->l'.all isInt=true->l.map rZ=l'.map rZ->l=l':=by
 intro l
 induction l with
 |nil=>
  intro l' _ _ h;cases l' with
  |nil=>rfl
  |cons _ _=>exact nomatch h
 |cons a l i=>
  intro l' h h' e;cases l' with
  |nil=>exact nomatch e
  |cons b l'=>
   have h:=YN.mp h;have h':=YN.mp h'
   (refine(i h.2 h'.2 (zaP e).2).symm ▸?_)
   have ha:=h.1;have hb:=h'.1;skip;clear h h' i;cases a with
   |int x=>cases b with
    |int y=>(refine((show x=y from((zaP e).1))).symm ▸ rfl)
    |_=>exact nf hb
   |_=>exact nf ha
theorem zy(ha:cA a=true)(hb:cA b=true)(h:lZ a=lZ b):a=b:=by
 cases a<;>simp only[cA]at ha<;>first|cases ha|skip
 all_goals (cases b<;>simp only[cA]at hb<;>first|cases hb|skip)
 all_goals skip
 ·cases h;rfl
 ·cases h
 ·cases h
 ·injection h with h;rw[zB ha hb h]
theorem sQ:∀{l l':List V},l.all cA=true->l'.all cA=true->l.map lZ=l'.map lZ->l=l'
 | [], [],_,_,_=>rfl
 | [],_::_,_,_,h=>by simp at h
 |_::_, [],_,_,h=>by simp at h
 |a::l,b::l',h,h',e=>by
  simp only[Z9,YW]at h h';simp only[Y5,List.cons.injEq]at e;rw[sQ h.2 h'.2 e.2,zy h.1 h'.1 e.1]
set_option tactic.hygienic true in
theorem i9(h:cO p=3):∃vs,p= .tup vs/\vs.all cA=true:=by
 cases p<;>dsimp only[cO]at h<;>first|cases h|skip
 rename_i vs;refine cX (vs.all cA) (λhv=>?_) λhv=>?_
 ·exact(al vs rfl hv)
 ·rw[hv]at h;cases h
theorem RT.iff(h:RT p k)(h':RT p' k'):p=p'↔k=k':=by
 obtain⟨h1,rfl⟩:=h;obtain⟨h2,rfl⟩:=h'
 (refine U (i9 h1) λvs q2 hv=>?_;subst q2)
 (refine U (i9 h2) λus q2 hu=>?_;subst q2)
 refine⟨λe=>by rw[e],λe=>?_⟩;rw[sQ hv hu e]
section
variable(S:V->Value->Prop)
def KT:List (V×V)->List (dQ×Addr×Value)->Prop
 | [],l=>l= []
 |p::es,l=>∃q r,l=q::r/\RT p.1 q.1/\S p.1 (.ref q.2.1)/\S p.2 q.2.2/\KT es r
variable{S}
theorem KT.length:∀{es:List (V×V)} {xs:List (dQ×Addr×Value)},KT S es xs->es.length=xs.length:=by
 intro es
 induction es with
 |nil=>intro _ h;subst h;rfl
 |cons _ es ih=>
  intro _ h
  (refine iQ h λq r q=>?_;obtain⟨rfl,_,_,_,h⟩:=q)
  simp[ih h]
theorem KT.look(hp:RT p k):∀{es:List (V×V)} {xs:List (dQ×Addr×Value)},KT S es xs->match aO p es with|some u=>∃x,atKey xs k=some x/\S u x.2|none=>atKey xs k=none:=by
 intro es
 induction es with
 |nil=>intro _ h;subst h;rfl
 |cons e es ih=>
  intro _ h
  (refine nK h λq r q3 h1 h0 h2 h3=>?_;clear h;subst q3)
  dsimp only[Qd];cases hb:e.1.beq p with
  |true=>
   have:=(RT.iff h1 hp).mp (V.beq_iff.mp hb);exact(al (q.2) (by simp[atKey,this]) h2)
  |false=>
   have hn:¬q.1=k:=λe=>by have:=V.beq_iff.mpr ((RT.iff h1 hp).mpr e);rw[hb]at this;exact nf this
   simpa [atKey,zaU,hn]using(ih h3)
theorem qC{k:dQ}(hn:((q::r).map (·.1)).Nodup):storedH (q::r) k a v=if q.1=k then(q.1,q.2.1,v)::r else q::storedH r k a v:=by
 rw[Y5,Zc]at hn;by_cases h:q.1=k
 ·rw[ZU h];simp only[storedH,atKey,h,Y5,map_putAt_of_not_mem r k v (h ▸ hn.1)];simp[putAt,h]
 ·rw[Zs h];unfold storedH
  (refine((show atKey (q::r) k=atKey r k from by simp[atKey,h])).symm ▸?_)
  cases hc:(atKey r k).isSome<;>simp[putAt,h]
theorem KT.put(hp:RT p k)(WZ:S p (.ref a))(hu:S u x):∀{es:List (V×V)} {xs:List (dQ×Addr×Value)},(xs.map (·.1)).Nodup->KT S es xs->KT S (eW p u es) (storedH xs k a x):=by
 intro es
 induction es with
 |nil=>
  intro _ _ h;subst h;exact(yO ((k,a,x)) ([]) rfl hp WZ hu rfl)
 |cons e es ih=>
  intro _ hn h
  (refine nK h λq r q3 h1 h0 h2 h3=>?_;clear h;subst q3)
  rw[qC hn];dsimp only[Lq];cases hb:e.1.beq p with
  |true=>
   rw[ZU ((RT.iff h1 hp).mp (V.beq_iff.mp hb))];dsimp only[KT];exact(yO _ _ rfl h1 h0 hu h3)
  |false=>
   rw[Zs (λe=>by have:=V.beq_iff.mpr ((RT.iff h1 hp).mpr e);rw[hb]at this;exact nf this)];rw[Y5,Zc]at hn;exact(yO _ _ rfl h1 h0 h2 (ih hn.2 h3))
theorem KT.mono(hS:∀u x,S u x->S' u x):∀{es:List (V×V)} {xs:List (dQ×Addr×Value)},KT S es xs->KT S' es xs:=by
 intro es
 induction es with
 |nil=>intro _ h;exact h
 |cons _ es ih=>
  intro _ h
  (refine nK h λq r q3 h1 h0 h2 h3=>?_;clear h;subst q3)
  exact(yO q r rfl h1 (hS _ _ h0) (hS _ _ h2) (ih h3))
theorem KT.keys:∀{es:List (V×V)} {xs:List (dQ×Addr×Value)},KT S es xs->∀x∈xs,∃p,RT p x.1/\S p (.ref x.2.1):=by
 intro es
 induction es with
 |nil=>intro _ h x hx;subst h;cases hx
 |cons e es ih=>
  intro _ h x hx
  (refine nK h λq r q3 h1 h0 h2 h3=>?_;clear h;subst q3)
  rcases YS.mp hx with rfl|hx
  ·exact(al _ h1 h0)
  ·exact ih h3 x hx
end
section
variable(W:SW)(κ:Kn)
def lN(o:Obj)(xs:List (dQ×Addr×Value)):Prop:=
 ∃es ep,o.ExactDict/\o.data= .dict es ep/\es.toList=xs.map (entryOfKey (fb W.prog W.w))/\(xs.map (·.1)).Nodup
structure eK(kd:Nat)(es:List (V×V))(a:Addr)(o:Obj):Prop where
 low:(a==sysModules)=false
 zero:kd=0->es= []
 one:kd=0\/kd=1->∃br,o.IsDictOf (PySem.strKind W.prog W.w) br/\KV RS (VR W κ) es br
 two:kd=0\/kd=2->∃br,o.IsDictOf (PySem.intKind W.prog W.w) br/\KV RI (VR W κ) es br
 three:kd=0\/kd=3->∃xs,lN W o xs/\KT (VR W κ) es xs
variable(aw:List (Addr×Obj))
def MV(c:Nat)(C d:Addr)(o:Obj):Prop:=o.cls= .ref C/\o.dict=some d/\o.slots= #[]/\∃vs,o.data= .fields vs
def gB(s i:Nat):bt->Prop
 | .inst c fs=>∃C a,W.cls c=some C/\κ.at_ s i false=some a/\
   ((W.P.isExc c=false/\∃d es n,κ.at_ s i true=some d/\(a,instObj C d)∈aw/\(d,dictOf es n)∈aw/\c6 W κ fs es)\/
       (W.P.isExc c=true/\∃t,((fs= []/\κ.at_ s i true=none/\(a,(⟨.ref C,none,bA t,#[]⟩:Obj))∈aw)\/
     ∃d es n,κ.at_ s i true=some d/\(a,(⟨.ref C,some d,bA t,#[]⟩:Obj))∈aw/\(d,dictOf es n)∈aw/\c6 W κ fs es)))
 | .gone c fs=>∃C a d es n o,W.cls c=some C/\κ.at_ s i false=some a/\κ.at_ s i true=some d/\(a,o)∈aw/\MV c C d o/\(d,dictOf es n)∈aw/\c6 W κ fs es
 | .caught c fs=>∃C a d es n o,W.cls c=some C/\κ.at_ s i false=some a/\κ.at_ s i true=some d/\(a,o)∈aw/\MV c C d o/\(d,dictOf es n)∈aw/\c6 W κ fs es
 | .list vs=>∃a iK n,κ.at_ s i false=some a/\(a,listOf iK.toArray n)∈aw/\cH W κ vs iK
 | .dict kd es=>∃a o,κ.at_ s i false=some a/\(a,o)∈aw/\eK W κ kd es a o
noncomputable def L2 (o:Obj):Option (List Value):=match o.data with
 | .seq iK _=>bif o.cls== .type "tuple"&&o.dict.isNone then some iK.toList else none
 |_=>none
def lW(K:Frag)(a:Addr):Option (List Value):=(K.lookup a).bind L2
theorem Jt(h:L2 o=some vs):o.cls= .type "tuple"/\o.dict=none/\∃n,o.data= .seq vs.toArray n:=by
 obtain⟨c,d,x,l⟩:=o;cases x with
 |seq iK n=>
  have h:(bif c== .type "tuple"&&d.isNone then some iK.toList else none)=some vs:=h;refine uy ((c== .type "tuple"&&d.isNone)) (λe=>?_) λe=>?_
  ·rw[e]at h;exact nt h
  ·
   rw[e]at h;obtain rfl:=YZ h;rw[YW,zaZ,zat]at e;exact⟨e.1,e.2,n,rfl⟩
 |_=>exact nt h
structure NR(H:Nat->List bt):Prop where
 known:∀{a vs},lW W.K a=some vs->κ.tup a=some vs
 inj:∀{s i b s' i' b' x},κ.at_ s i b=some x->κ.at_ s' i' b'=some x->s=s'/\i=i'/\b=b'
 dom:∀{s i b x},κ.at_ s i b=some x->i<(H s).length/\x∈aw.map (·.1)
 obj:∀{s i o},nth (H s) i=some o->gB W κ aw s i o
 tup:∀{a vs},κ.tup a=some vs->∃o,Cy o vs/\((a,o)∈aw\/W.base.get? a=some o)
def rK(env:List (Nat×V))(m:Str->Option Value):Prop:=∀x v,aN x env=some v->∃u,m (W.nm x)=some u/\VR W κ v u
inductive iz where
 |fr(m:Str->Option Value)|it(o:Obj)
def H7:iz->Obj->Prop
 | .fr m,o=>Uy o m
 | .it o',o=>o=o'
def iA:List (Addr×iz)->List (Addr×Obj)->Prop
 | [],l=>l= []
 |p::r,l=>∃q l',l=q::l'/\q.1=p.1/\H7 p.2 q.2/\iA r l'
end
structure Cx where
 A:Around
 outer:List Env
 outs:List (Addr×iz)
 name:Str
 scope:Scope
 L:Addr
 a:Addr
 cd:Value
noncomputable def Cx.env (C:Cx):Env:=envOf C.name C.scope C.L C.a C.cd
def xc(l:List Env)(outs:List (Addr×iz)):Prop:=∀env∈l,env.scope.kind≠ .module/\∃a m,env.frame=some a/\(a,iz.fr m)∈outs
structure Cx.Ok(C:Cx)(n:Nat):Prop where
 frames:C.A.frames=some (C.env::C.outer)
 kind:C.scope.kind= .function
 depth:C.A.depth+4*n+16<recursionLimit
 units:C.A.units+8*n+128<cLine
 calm:C.A.handled=none
 outs:xc C.outer C.outs
section
variable(W:SW)
structure a9(C:Cx)(κ:Kn)(σ:St)(s:Shared)(m:Str->Option Value)(aw frs:List (Addr×Obj)):Prop where
 F:Fr W.base C.L s.heap m
 N:News W.base C.L s.heap (aw++frs)
 nd:((aw++frs).map (·.1)).Nodup
 frs:iA C.outs frs
 nr:NR W κ aw σ.heap
 env:rK W κ σ.env m
 gens:s.gens=W.gens
 os:s.os=W.os
def bz(C:Cx)(κ:Kn)(σ:St)(s:Shared):Prop:=∃m aw frs,a9 W C κ σ s m aw frs
def dN(h base:Heap)(e:Addr)(cls:Value)(dx:Addr)(fl:Value):Prop:=
 ∃oe vs T oT ts,h.get? e=some oe/\(oe.cls=cls/\oe.dict=some dx/\oe.slots= #[])/\oe.data= .fields vs/\vs[1]? =some (.ref T)/\base.get? T=none/\T≠e/\h.get? T=some oT/\oT.data= .fields ts/\ts[3]? =some fl
def Sw(base:Heap)(l:List Env)(e:Addr)(cls:Value)(dx:Addr)(fl:Value)(h:Heap):Prop:=
 base.StaysIn h/\base.get? e=none/\h.FunFrames base l/\dN h base e cls dx fl
structure BG(C:Cx)(κ:Kn)(σ:St)(sx ix cx:Nat)(e:Value)(s:Shared)(m:Str->Option Value)(aw frs:List (Addr×Obj))(a d Cc:Addr)(o:Obj)(B:Heap):Prop where
 eq:e= .ref a
 cls:W.cls cx=some Cc
 main:κ.at_ sx ix false=some a
 sub:κ.at_ sx ix true=some d
 here:s.heap.get? a=some o
 fly:Sw B (C.env::C.outer) a (.ref Cc) d .none s.heap
 base:W.base.StaysIn B
 above:W.base.objs.size<=C.L
 ns:s.heap.Ns C.L m
 keep:∀p∈aw,B.get? p.1=some p.2/\W.base.get? p.1=none/\p.1≠C.L
 mem:∀p∈frs,s.heap.get? p.1=some p.2/\W.base.get? p.1=none/\p.1≠C.L
 hold:∀b ob,(b,iz.it ob)∈C.outs->B.get? b=some ob
 nd:(((a,o)::aw++frs).map (·.1)).Nodup
 aL:a≠C.L
 frs:iA C.outs frs
 nr:NR W κ ((a,o)::aw) σ.heap
 gone:∃fs,nth (σ.heap sx) ix=some (.gone cx fs)
 env:rK W κ σ.env m
 gens:s.gens=W.gens
 os:s.os=W.os
structure KL(C:Cx)(κ:Kn)(σ:St)(sx ix cx:Nat)(e:Value)(s:Shared)(a d Cc t:Addr):Prop where
 rel:bz W C κ σ s
 eq:e= .ref a
 cls:W.cls cx=some Cc
 main:κ.at_ sx ix false=some a
 sub:κ.at_ sx ix true=some d
 here:s.heap.get? a=some ⟨.ref Cc,some d,bA t,#[]⟩
 gone:∃fs,nth (σ.heap sx) ix=some (.gone cx fs)
def pi(C:Cx)(κ:Kn)(σ:St)(je:Bool)(sx ix cx:Nat)(e:Value)(s:Shared):Prop:=
 match je with
 |true=>∃m aw frs a d Cc o B,BG W C κ σ sx ix cx e s m aw frs a d Cc o B
 |false=>∃a d Cc t,KL W C κ σ sx ix cx e s a d Cc t
def bE{α β:Type}(C:Cx)(V':Kn->β->α->Prop)(Q:α->Shared->Prop)(E:Value->Shared->Prop)(res:R β)(κ:Kn)(σ':St):Prop:=
 ∀cK s',κ.Le cK->match res with
  | .ok b=>∀a,V' cK b a->bz W C cK σ' s'->Q a s'
  | .exc je sx ix cx=>∀e,pi W C cK σ' je sx ix cx e s'->E e s'
def bU{α β:Type}(C:Cx)(κ:Kn)(σ:St)(t:Sem α)(r:Option (R β×St))(V':Kn->β->α->Prop):Prop:=
 ∀res σ',r=some (res,σ')->∀s Q E,bz W C κ σ s->bE W C V' Q E res κ σ'->wpAny (model W.prog W.w) C.A t Q E s
def SndE(C:Cx)(e:Expr)(mx:M V):Prop:=∀κ σ,bU W C κ σ (eval e C.env) (mx σ) (λκ=>VR W κ)
def SndT(C:Cx)(e:Expr)(mx:M Bool):Prop:=∀κ σ,bU W C κ σ (PySem.isTrue e C.env (eval e C.env)) (mx σ) (λ_ b b'=>b=b')
def EH(κ:Kn):Fl->Flow->Prop
 | .next,f=>f= .next
 | .ret v,f=>∃u,f= .ret u/\VR W κ v u
def SndS(C:Cx)(st:Stmt)(mx:M Fl):Prop:=∀κ σ,bU W C κ σ (exec st C.env) (mx σ) (EH W)
end
section
variable{W:SW}{C:Cx}{κ:Kn}{σ:St}
theorem bE.mono(k:bE W C V' Q E res κ σ')(le:κ.Le am):bE W C V' Q E res am σ':=
 λcK s' yp=>k cK s' (le.trans yp)
theorem bU.bindE{f:β->M γ}{V₁:Kn->β->α->Prop}{yP:Kn->γ->δ->Prop}(h:bU W C κ σ t (m σ) V₁)(hr:M.bind m f σ=some (res,σ'))(R:bz W C κ σ s)(k:bE W C yP Q E res κ σ')(hk:∀am ai b a aE,m σ=some (.ok b,ai)->κ.Le am->V₁ am b a->bz W C am ai aE->f b ai=some (res,σ')->bE W C yP Q E res am σ'->Q₁ a aE):wpAny (model W.prog W.w) C.A t Q₁ E s:=by
 unfold M.bind at hr;refine dI (m σ) (λhm=>?_) λp hm=>?_
 ·rw[hm]at hr;exact nt hr
 ·
  obtain⟨r,ai⟩:=p;rw[hm]at hr;cases r with
  |ok b=>exact h _ _ hm s Q₁ E R λcK s' le a hv hR=>hk cK ai b a s' hm le hv hR hr (k.mono le)
  |exc je sx ix cx=>
   obtain⟨rfl,rfl⟩:=sp hr;exact h _ _ hm s Q₁ E R λcK s' le e he=>k cK s' le e he
theorem bU.bind{V₁:Kn->β->α->Prop}{res:R γ}(h:bU W C κ σ t (m σ) V₁)(hr:M.bind m f σ=some (res,σ'))(R:bz W C κ σ s)(k:bE W C yP Q E res κ σ')(hk:∀am ai b a aE,κ.Le am->V₁ am b a->bz W C am ai aE->f b ai=some (res,σ')->bE W C yP Q E res am σ'->Q₁ a aE):wpAny (model W.prog W.w) C.A t Q₁ E s:=bU.bindE h hr R k λ_ _ _ _ _ _=>hk _ _ _ _ _
theorem ao(h:M.pure a σ=some (res,σ')):res= .ok a/\σ'=σ:=sp h
theorem ij(h:M.opt o σ=some (res,σ')):∃a,o=some a/\res= .ok a/\σ'=σ:=by
 cases o with
 |none=>exact nt h
 |some a=>exact(al a rfl (sp h))
theorem bE.done(k:bE W C V' Q E (.ok b) κ σ)(hv:V' κ b a)(hR:bz W C κ σ s):Q a s:=k κ s (Kn.Le.refl κ) a hv hR
theorem bz.toks(R:bz W C κ σ s):bz W C κ σ {s with toks:=n}:=by
 (refine bi R λm aw frs r=>?_;clear R)
 exact(b6 m aw frs ⟨r.F,r.N,r.nd,r.frs,r.nr,r.env,r.gens,r.os⟩)
theorem c6.mono(le:κ.Le cK):∀{fs:List (Nat×V)} {es:List DictEntry},c6 W κ fs es->c6 W cK fs es:=by
 intro fs
 induction fs with
 |nil=>intro _ h;exact h
 |cons q_ fs ih=>
  intro _ h
  (refine cQ h λe r q3 h1 h2 h3=>?_;clear h;subst q3)
  exact(ci e r rfl h1 (h2.mono le) (ih h3))
theorem eK.mono(le:κ.Le cK)(h:eK W κ kd es a o):eK W cK kd es a o:=
 ⟨h.low,h.zero,λx=>let ⟨k,a,b⟩:=h.one x;(al k a (b.mono λ_ _ y=>y.mono le)),λx=>let ⟨k,a,b⟩:=h.two x;(al k a (b.mono λ_ _ y=>y.mono le)),
  λx=>let ⟨k,a,b⟩:=h.three x;(al k a (b.mono λ_ _ y=>y.mono le))⟩
theorem rK.mono(le:κ.Le cK)(h:rK W κ env m):rK W cK env m:=
 λx v e=>let ⟨u,a,b⟩:=h x v e;(al u a (b.mono le))
theorem gB.keep(le:κ.Le cK)(hn:κ.at_ s i true=none->cK.at_ s i true=none)(hm:∀b x ob,κ.at_ s i b=some x->(x,ob)∈aw->(x,ob)∈uI)(h:gB W κ aw s i o):gB W cK uI s i o:=by
 cases o with
 |inst c fs=>
  (refine a8 h λC a h1 h2 h3=>?_;clear h)
  refine(aY C a h1 (le.at_ h2) ?_);rcases h3 with⟨e,d,es,n,x1,x2,x3,x4⟩|⟨e,t,⟨x0,x1,x2⟩|⟨d,es,n,x1,x2,x3,x4⟩⟩
  ·exact .inl ⟨e,d,es,n,le.at_ x1,hm _ _ _ h2 x2,hm _ _ _ x1 x3,x4.mono le⟩
  ·exact .inr ⟨e,t, .inl ⟨x0,hn x1,hm _ _ _ h2 x2⟩⟩
  ·exact .inr ⟨e,t, .inr (ph d es n (le.at_ x1) (hm _ _ _ h2 x2) (hm _ _ _ x1 x3) (x4.mono le))⟩
 |gone c fs=>
  obtain⟨C,a,d,es,n,o,h1,h2,h3,h4,h5,h6,h7⟩:=h;exact⟨C,a,d,es,n,o,h1,le.at_ h2,le.at_ h3,hm _ _ _ h2 h4,h5,hm _ _ _ h3 h6,h7.mono le⟩
 |caught c fs=>
  obtain⟨C,a,d,es,n,o,h1,h2,h3,h4,h5,h6,h7⟩:=h;exact⟨C,a,d,es,n,o,h1,le.at_ h2,le.at_ h3,hm _ _ _ h2 h4,h5,hm _ _ _ h3 h6,h7.mono le⟩
 |list vs=>
  (refine cY h λa iK n h1 h2 h3=>?_;clear h)
  exact(iO a iK n (le.at_ h1) (hm _ _ _ h1 h2) (h3.mono le))
 |dict kd es=>
  (refine a8 h λa o h1 h2 h3=>?_;clear h)
  exact(aY a o (le.at_ h1) (hm _ _ _ h1 h2) (h3.mono le))
end
theorem Bf(h:a≠b):Nat.beq a b=false:=by
 cases q:Nat.beq a b with
 |false=>rfl
 |true=>exact absurd (YY q) h
theorem iZ:∀{env:List (Nat×α)},aN y (putN x v env)=if y=x then some v else aN y env:=by
 intro env
 induction env with
 |nil=>
  skip;dsimp only[Wd,Tw,EC];by_cases h:y=x
  ·subst h;simp
  ·skip;simp[(Bf (zak h)),h]
 |cons q_ r ih=>
  skip;dsimp only[O6];cases hz:Nat.beq q_.1 x with
  |true=>
   have Ql:=YY hz;subst Ql;simp only[EC];by_cases h:y=q_.1
   ·subst h;simp
   ·skip;simp[(Bf (zak h)),h]
  |false=>
   simp only[EC];cases hy:Nat.beq q_.1 y with
   |true=>
    have K2:=YY hy;subst K2;simp[(Z4 hz)]
   |false=>exact ih
theorem m2:∀{env:List (Nat×α)},aN y (lb x env)=if y=x then none else aN y env:=by
 intro env
 induction env with
 |nil=>simp[XU,Tw]
 |cons q_ r ih=>
  skip;simp only[Ug];cases hz:Nat.beq q_.1 x with
  |true=>
   have Ql:=YY hz;subst Ql;simp only[EC,ih];by_cases h:y=q_.1
   ·subst h;simp
   ·have:=Bf (zak h);simp[this,h]
  |false=>
   simp only[EC];cases hy:Nat.beq q_.1 y with
   |true=>
    have K2:=YY hy;subst K2;simp[(Z4 hz)]
   |false=>exact ih
theorem mX:∀{l:List α} {a b:α} {i:Nat},nth (l++ [a]) i=some b->nth l i=some b\/(i=l.length/\b=a):=by
 intro l
 induction l with
 |nil=>
  intro a b i h;cases i with
  |zero=>obtain rfl:=YZ h;exact .inr ⟨rfl,rfl⟩
  |succ i=>simp[P7,To]at h
 |cons c l ih=>
  intro a b i h;cases i with
  |zero=>exact .inl h
  |succ i=>
   refine(ih h).elim (λh=>?_) λq=>?_
   ·exact .inl h
   ·exact .inr ⟨by simp[q.1],q.2⟩
theorem pE:∀{l:List α} {a:α} {i:Nat},nth l i=some a->i<l.length:=by
 intro l
 induction l with
 |nil=>intros;contradiction
 |cons c l ih=>
  intro a i h;cases i with
  |zero=>simp
  |succ i=>have:=ih h;simp;exact‹_›
theorem iY:∀{l:List α} {a:α} {i j:Nat},nth (setNth b l i) j=some a->(j=i/\a=b)\/(j≠i/\nth l j=some a):=by
 intro l
 induction l with
 |nil=>intro a i j h;simp[VZ,P7]at h
 |cons c l ih=>
  intro a i j h;cases i with
  |zero=>
   cases j with
   |zero=>obtain rfl:=YZ h;exact .inl ⟨rfl,rfl⟩
   |succ j=>exact .inr ⟨Nat.succ_ne_zero j,h⟩
  |succ i=>
   simp only[SQ]at h;cases j with
   |zero=>exact .inr ⟨(Nat.succ_ne_zero i).symm,h⟩
   |succ j=>
    rcases ih h with⟨e,x⟩|⟨e,x⟩
    ·exact .inl ⟨YV (·+1) e,x⟩
    ·exact .inr ⟨λq=>e (zaW q),x⟩
theorem ff:∀{l:List α} {i:Nat},(setNth b l i).length=l.length:=by
 intro l
 induction l with
 |nil=>intro _;exact rfl
 |cons c l ih=>intro i;cases i with|zero=>rfl|succ i=>simp[SQ,ih]
noncomputable def Kn.add (κ:Kn) (s i:Nat) (b:Bool) (x:Addr):Kn:={κ with at_:=λs' i' b'=>if s'=s/\i'=i/\b'=b then some x else κ.at_ s' i' b'}
noncomputable def Kn.addT (κ:Kn) (x:Addr) (vs:List Value):Kn:={κ with tup:=λy=>if y=x then some vs else κ.tup y}
theorem Kn.le_add{κ:Kn}(h:κ.at_ s i b=none):κ.Le (κ.add s i b x):=
 ⟨λ{s' i' b' y} e=>by
  show(if s'=s/\i'=i/\b'=b then some x else κ.at_ s' i' b')=some y;by_cases q:s'=s/\i'=i/\b'=b
  ·(refine dU q λq1 q2 q3=>?_;clear q;subst q1;subst q2;subst q3);rw[h]at e;exact nt e
  ·rw[Zs q];exact e,id⟩
theorem Kn.le_addT{κ:Kn}(h:κ.tup x=none):κ.Le (κ.addT x vs):=
 ⟨id,λ{y us} e=>by
  show(if y=x then some vs else κ.tup y)=some us;by_cases q:y=x
  ·subst q;rw[h]at e;exact nt e
  ·rw[Zs q];exact e⟩
theorem Kn.add_self{κ:Kn}:(κ.add s i b x).at_ s i b=some x:=ZU (gA rfl rfl rfl)
theorem Kn.add_ne{κ:Kn}(h:¬(s'=s/\i'=i/\b'=b)):(κ.add s i b x).at_ s' i' b'=κ.at_ s' i' b':=Zs h
section
variable{W:SW}{C:Cx}{κ:Kn}{σ:St}{s:Shared}{m:Str->Option Value}{aw frs:List (Addr×Obj)}
theorem a9.fresh(R:a9 W C κ σ s m aw frs)(lo:∀p∈aw++frs,p.1<l):l∉(aw++frs).map (·.1):=λh=>by
 refine U (Zj.mp h) λp hp e=>?_;exact absurd (lo p hp) (by rw[e];exact ZX _)
theorem a9.nodup_cons(R:a9 W C κ σ s m aw frs)(lo:∀p∈aw++frs,p.1<l):((((l,o)::aw)++frs).map (·.1)).Nodup:=by
 rw[ZD,Y5,Zc];exact⟨R.fresh lo,R.nd⟩
theorem a9.notTup(R:a9 W C κ σ s m aw frs)(lo:∀p∈aw++frs,p.1<l)(hb:W.base.get? l=none):κ.tup l=none:=by
 cases q:κ.tup l with
 |none=>rfl
 |some vs=>
  (refine U (R.nr.tup q) λo _ q3=>?_;obtain h|h:=q3)
  ·exact absurd (lo _ (YQ _ h)) (ZX _)
  ·rw[hb]at h;exact nt h
theorem a9.offEnd(R:a9 W C κ σ s m aw frs)(t:Nat)(b:Bool):κ.at_ t (σ.heap t).length b=none:=by
 cases q:κ.at_ t (σ.heap t).length b with
 |none=>rfl
 |some x=>exact absurd (R.nr.dom q).1 (ZX _)
theorem a9.store(R:a9 W C κ σ s m aw frs)(hv:VR W κ v u)(F:Fr W.base C.L s'.heap λy=>if y=W.nm x then some u else m y)(N:News W.base C.L s'.heap (aw++frs))(hg:s'.gens=s.gens)(ho:s'.os=s.os):a9 W C κ (σ.setE (putN x v σ.env)) s' (λy=>if y=W.nm x then some u else m y) aw frs:=by
 refine⟨F,N,R.nd,R.frs,R.nr,λy w e=>?_,hg.trans R.gens,ho.trans R.os⟩;dsimp only[St.setE]at e;rw[iZ]at e;by_cases h:y=x
 ·subst h;rw[ZU rfl]at e;obtain rfl:=YZ e;exact(al u (by simp) hv)
 ·rw[Zs h]at e;refine U (R.env y w e) λu' a b=>?_;exact(al u' (by rw[Zs λq=>h (W.inj _ _ q)];exact a) b)
theorem NR.add(R:NR W κ aw H)(hl:l∉aw.map (·.1))(Iw:∀b,κ.at_ t (H t).length b=none)(ho:gB W (κ.add t (H t).length false l) ((l,o)::aw) t (H t).length mo):NR W (κ.add t (H t).length false l) ((l,o)::aw) (λt'=>match Nat.beq t' t with|true=>H t++ [mo]|false=>H t'):=by
 refine⟨λh=>R.known h,λ{s1 i1 b1 s2 i2 b2 x} e1 e2=>?_,λ{s1 i1 b1 x} e=>?_,λ{s1 i1 o1} e=>?_,λ{a vs} e=>?_⟩
 ·refine bc (s1=t/\i1=(H t).length/\b1=false) (λq1=>?_) λq1=>?_
  ·by_cases q2:s2=t/\i2=(H t).length/\b2=false
   ·exact⟨q1.1.trans q2.1.symm,q1.2.1.trans q2.2.1.symm,q1.2.2.trans q2.2.2.symm⟩
   ·rw[Kn.add_ne q2]at e2;obtain⟨rfl,rfl,rfl⟩:=q1;rw[Kn.add_self]at e1;obtain rfl:=YZ e1;exact absurd (R.dom e2).2 hl
  ·rw[Kn.add_ne q1]at e1;by_cases q2:s2=t/\i2=(H t).length/\b2=false
   ·obtain⟨rfl,rfl,rfl⟩:=q2;rw[Kn.add_self]at e2;obtain rfl:=YZ e2;exact absurd (R.dom e1).2 hl
   ·rw[Kn.add_ne q2]at e2;exact R.inj e1 e2
 ·refine bc (s1=t/\i1=(H t).length/\b1=false) (λq=>?_) λq=>?_
  ·obtain⟨rfl,rfl,rfl⟩:=q;rw[Kn.add_self]at e;obtain rfl:=YZ e;refine⟨?_,by simp⟩;have:Nat.beq s1 s1=true:=by simp
   rw[this];simp
  ·rw[Kn.add_ne q]at e;have:=R.dom e
   exact⟨Y9 this.1 ((show∀s',(H s').length<=(match Nat.beq s' t with|true=>H t++ [mo]|false=>H s').length fromλs'=>by
  cases q:Nat.beq s' t with
  |true=>have:=YY q;subst this;simp
  |false=>simp) s1),by exact Zf _ this.2⟩
 ·have kU:nth (H s1) i1=some o1->gB W (κ.add t (H t).length false l) ((l,o)::aw) s1 i1 o1:=λe=>
   (R.obj e).keep (Kn.le_add (Iw false)) (λh=>by rw[Kn.add_ne (λq=>by cases q.2.2)];exact h) λ_ _ _ _ h=>Zf _ h
  cases q:Nat.beq s1 t with
  |true=>
   have:=YY q;subst this;rw[q]at e;rcases mX e with e|⟨rfl,rfl⟩
   ·exact kU e
   ·exact ho
  |false=>
   rw[q]at e;exact kU e
 ·refine U (R.tup e) λo' a1 a2=>?_;exact(al o' a1 (a2.imp (Zf _) id))
theorem a9.new(R:a9 W C κ σ s m aw frs)(F:Fr W.base C.L s'.heap m)(N:News W.base C.L s'.heap ((l,o)::(aw++frs)))(lo:∀p∈aw++frs,p.1<l)(ho:gB W (κ.add t (σ.heap t).length false l) ((l,o)::aw) t (σ.heap t).length mo)(hg:s'.gens=s.gens)(yt:s'.os=s.os):
  κ.Le (κ.add t (σ.heap t).length false l)/\a9 W C (κ.add t (σ.heap t).length false l) (σ.add t mo) s' m ((l,o)::aw) frs:=by
 refine⟨(Kn.le_add (R.offEnd t false)),F,N,R.nodup_cons lo,R.frs,?_,R.env.mono (Kn.le_add (R.offEnd t false)),hg.trans R.gens,yt.trans R.os⟩;exact R.nr.add (λh=>R.fresh lo (by rw[Y6];exact YQ _ h)) (R.offEnd t) ho
theorem a9.newTup(R:a9 W C κ σ s m aw frs)(F:Fr W.base C.L s'.heap m)(N:News W.base C.L s'.heap ((l,o)::(aw++frs)))(lo:∀p∈aw++frs,p.1<l)(ho:Cy o vs)(hg:s'.gens=s.gens)(yt:s'.os=s.os):
  κ.Le (κ.addT l vs)/\a9 W C (κ.addT l vs) σ s' m ((l,o)::aw) frs:=by
 have le:κ.Le (κ.addT l vs):=Kn.le_addT (R.notTup lo (N _ (.head _)).2.2);refine⟨le,F,N,R.nodup_cons lo,R.frs,⟨λh=>le.tup (R.nr.known h),R.nr.inj,λe=>⟨(R.nr.dom e).1,Zf _ (R.nr.dom e).2⟩,λe=>(R.nr.obj e).keep le id λ_ _ _ _ h=>Zf _ h,λ{a us} e=>?_⟩,R.env.mono le,hg.trans R.gens,yt.trans R.os⟩;dsimp only[Kn.addT]at e;by_cases q:a=l
 ·rw[ZU q]at e;obtain rfl:=YZ e;subst q;exact(al o ho (.inl (.head _)))
 ·rw[Zs q]at e;refine U (R.nr.tup e) λo' a1 a2=>?_;exact(al o' a1 (a2.imp (Zf _) id))
theorem NR.put(R:NR W κ aw H)(nd:(aw.map (·.1)).Nodup)(hd:κ.at_ t i b=some d)(hm:(d,o)∈aw)(nt:o.cls≠ .type "tuple")(ho:gB W κ (bT d o' aw) t i mo):NR W κ (bT d o' aw) (λt'=>match Nat.beq t' t with|true=>setNth mo (H t) i|false=>H t'):=by
 have len:∀s',(match Nat.beq s' t with|true=>setNth mo (H t) i|false=>H s').length=(H s').length:=λs'=>by
  cases q:Nat.beq s' t with
  |true=>have:=YY q;subst this;exact ff
  |false=>rfl
 have kU:∀{s1 i1 o1},¬(s1=t/\i1=i)->nth (H s1) i1=some o1->gB W κ (bT d o' aw) s1 i1 o1:=λ{s1 i1 o1} hn e=>
  (R.obj e).keep (Kn.Le.refl κ) id λb' x ob hx h=>bP h λq=>by
   have:=R.inj hx (q ▸ hd);exact hn ⟨this.1,this.2.1⟩
 refine⟨R.known,R.inj,λ{s1 i1 b1 x} e=>?_,λ{s1 i1 o1} e=>?_,λ{a vs} e=>?_⟩
 ·rw[len,cG];exact R.dom e
 ·cases q:Nat.beq s1 t with
  |true=>
   have:=YY q;subst this;rw[q]at e;rcases iY e with⟨rfl,rfl⟩|⟨h,e⟩
   ·exact ho
   ·exact kU (λz=>h z.2) e
  |false=>
   rw[q]at e;exact kU (λz=>Z4 q z.1) e
 ·refine U (R.tup e) λob a1 a2=>?_;refine(al ob a1 (a2.imp (λh=>bP h λq=>?_) id));exact nt ((show ob=o from cJ nd (q ▸ h) hm) ▸ a1.1)
theorem a9.ndT(R:a9 W C κ σ s m aw frs):(aw.map (·.1)).Nodup:=by have:=R.nd;rw[Y6]at this;exact(Zi.mp this).1
theorem a9.put(R:a9 W C κ σ s m aw frs)(hd:κ.at_ t i b=some d)(hm:(d,o)∈aw)(nt:o.cls≠ .type "tuple")(F:Fr W.base C.L s'.heap m)(N:News W.base C.L s'.heap (bT d o' (aw++frs)))(ho:gB W κ (bT d o' aw) t i mo)(hg:s'.gens=s.gens)(yt:s'.os=s.os):a9 W C κ (σ.put t i mo) s' m (bT d o' aw) frs:=by
 refine⟨F,(jU (o:=o') (l':=frs) (aU hm)) ▸ N,?_,R.frs,R.nr.put R.ndT hd hm nt ho,R.env,hg.trans R.gens,yt.trans R.os⟩;rw[<-(jU (o:=o') (l':=frs) (aU hm)),cG];exact R.nd
end
section
variable{W:SW}{C:Cx}
theorem bz.known(R:bz W C κ σ s)(h:lW W.K a=some vs):κ.tup a=some vs:=by
 (refine bi R λm aw frs r=>?_;clear R)
 exact r.nr.known h
noncomputable def tokOf:Value->Tok
 | .int _ t=>t
 | .str _ t=>t
 |_=>default
noncomputable def AU:Value->Addr
 | .ref a=>a
 |_=>0
noncomputable def allB (f:V->Value->Bool):List V->List Value->Bool
 | [],xs=>xs.isEmpty
 |v::vs,xs=>match xs with
  | []=>false
  |x::xs=>f v x&&allB f vs xs
noncomputable def Lm (W:SW):Nat->V->Value->Bool
 |0,_,_=>false
 |n+1,v,u=>match v with
  | .none=>u== .none
  | .bool b=>u== .bool b
  | .int i=>u== .int i (tokOf u)
  | .str l=>u== .str ⟨l.toArray⟩ (tokOf u)
  | .tup vs=>u== .ref (AU u)&&(lW W.K (AU u)).any λxs=>allB (Lm W n) vs xs
  | .obj _ _=>false
  | .glob g=>u== .ref (AU u)&&W.gl g==some (AU u)
theorem MZ(hk:∀a vs,lW W.K a=some vs->κ.tup a=some vs):∀{v:V} {u:Value},Lm W n v u=true->VR W κ v u:=by
 induction n with
 |zero=>intro v u h;exact nf h
 |succ n ih=>
  intro v u h;cases v with
  |none=>exact eq_of_beq h
  |bool b=>exact eq_of_beq h
  |int i=>exact⟨_,eq_of_beq h⟩
  |str l=>exact⟨_,eq_of_beq h⟩
  |tup vs=>
   refine U (oa (an h).2) λxs e h2=>?_;refine(aY _ xs (eq_of_beq (an h).1) (hk _ _ e) ?_);clear h e
   induction vs generalizing xs with
   |nil=>exact Zk.mp h2
   |cons v vs i=>
    cases xs with
    |nil=>exact nf h2
    |cons x xs=>exact(aY x xs rfl (ih (an h2).1) (i xs (an h2).2))
  |obj s i=>exact nf h
  |glob g=>exact(al _ (eq_of_beq (an h).1) (eq_of_beq (an h).2))
theorem Of(hk:C.scope.kind= .function)(hl:C.scope.names.lookup (W.nm x)=some .local)(hd:(W.nm x==("__debug__":Str))=false):SndE W C (.Name (W.nm x) pos) (M.loc x):=by
 intro κ σ res σ' hr s Q E R k;unfold M.loc at hr;refine dI (aN x σ.env) (λhx=>?_) λv hx=>?_
 ·rw[hx]at hr;exact nt hr
 ·
  rw[hx]at hr;simp only[Option.some.injEq,Zv]at hr;refine hg λcg kg=>?_;obtain⟨rfl,rfl⟩:=hr
  (refine bi R λm aw frs r=>?_;clear R)
  refine U (r.env x v hx) λu hu hv=>?_;refine kg ?_;exact ld r.F hu (k.done hv (b6 m aw frs r)) hk hl hd
theorem Oi(hk:C.scope.kind= .function)(hl:C.scope.names.lookup (W.nm x)=some .globalImplicit)(hd:(W.nm x==("__debug__":Str))=false)(hn:nsIn W.K mainGlobals (W.nm x)=some (some u))(hv:Lm W n v u=true)(hc:W.P.const x=some v):SndE W C (.Name (W.nm x) pos) (M.opt (W.P.const x)):=by
 intro κ σ res σ' hr s Q E R k;refine hg λcg kg=>?_;(refine aZ (ij hr) λa h q3 q4=>?_;subst q3;subst q4)
 rw[hc]at h;obtain rfl:=YZ h;have R':=R
 (refine bi R' λm aw frs r=>?_;clear R')
 refine kg ?_;exact name_K r.F W.X W.T hn (k.done (MZ (λa vs h=>R.known (a:=a) (vs:=vs) h) hv) R) hk hl hd
noncomputable def cR (v:V) (c:Const):Bool:=match v with
 | .none=>c== .none
 | .bool b=>c== .bool b
 | .int i=>c== .int i
 | .str l=>c== .str ⟨l.toArray⟩
 |_=>false
theorem XW(h:cR v c=true):SndE W C (.Constant c kk pos) (M.pure v):=by
 intro κ σ res σ' hr s Q E R k;obtain⟨rfl,rfl⟩:=ao hr;cases v with
 |none=>(refine(eq_of_beq h).symm ▸?_);exact wpAny_Constant_none (k.done (by rfl) R)
 |bool b=>rw[eq_of_beq h];exact wpAny_Constant_bool (k.done (by rfl) R)
 |int i=>rw[eq_of_beq h];exact wpAny_Constant_int (k.done ⟨_,rfl⟩ R.toks)
 |str l=>rw[eq_of_beq h];exact zbG (k.done ⟨s.toks,rfl⟩ R.toks)
 |_=>exact nf h
def cm{α β:Type}(R:α->β->Prop):List α->List β->Prop
 | [], []=>True
 |a::as,b::bs=>R a b/\cm R as bs
 |_,_=>False
theorem mw:∀{es:List Expr} {xs:List Ex} {pos:Pos},cm (λe x=>SndE W C e (ih.e x)) es xs->(∀e∈es,∀rest,starEach (e::rest) C.env=(false,eval e C.env)::starEach rest C.env)->
  ∀κ σ,bU W C κ σ (spliced (backTo pos (starEach es C.env))) (kK ih xs σ) (λκ=>cH W κ):=by
 intro es
 induction es with
 |nil=>
  intro xs pos hs _ κ σ res σ' hr s Q E R k;cases xs with
  |cons _ _=>exact hs.elim
  |nil=>
   obtain⟨rfl,rfl⟩:=ao hr;exact spliced_none (k.done (by rfl) R)
 |cons e es i=>
  intro xs pos hs gF κ σ res σ' hr s Q E R k;cases xs with
  |nil=>exact hs.elim
  |cons x xs=>
   refine spliced_more ?_ (gF e (.head _) es);refine bU.bind (hs.1 κ σ) hr R k λam ai v a aE le hv ar Br k₁=>?_;refine bU.bind (i hs.2 (λe he=>gF e (.tail _ he)) am ai) Br ar k₁ λbK bG vs as c8 aX ED bD Bq dP=>?_;obtain⟨rfl,rfl⟩:=ao Bq;exact dP.done (by exact(aY a as rfl (hv.mono aX) ED)) bD
end
theorem gf(h:Nat.ble n ay=true):n<=sizeLine:=by
 have:=YX h;rw[sizeLine_eq];exact YU ‹_› ak
section
variable{W:SW}{C:Cx}{κ:Kn}{σ:St}{s:Shared}
theorem bz.isTup(R:bz W C κ σ s)(h:κ.tup a=some xs):IsTup s.heap a xs.toArray:=by
 (refine bi R λm aw frs r=>?_;clear R)
 (refine U (r.nr.tup h) λo q2 q3=>?_;obtain⟨h1,h2,n,h3⟩:=q2;obtain hm|hb:=q3)
 ·exact⟨o,(r.N _ (YQ _ hm)).1,h1,n,h3⟩
 ·exact⟨o,r.F.keep _ _ hb,h1,n,h3⟩
def EA:Op->Operator
 | .add=> .Add
 | .sub=> .Sub
 | .mul=> .Mult
 | .fdiv=> .FloorDiv
 | .mod=> .Mod
 | .shl=> .LShift
 | .shr=> .RShift
 | .band=> .BitAnd
theorem VR.int(h:VR W κ (.int i) x):∃t,x= .int i t:=h
theorem VR.str(h:VR W κ (.str l) x):∃t,x= .str ⟨l.toArray⟩ t:=h
theorem VR.tup(h:VR W κ (.tup vs) x):∃a xs,x= .ref a/\κ.tup a=some xs/\cH W κ vs xs:=h
theorem VR.obj(h:VR W κ (.obj t i) x):∃a,x= .ref a/\κ.at_ t i false=some a:=h
theorem VR.bool(h:VR W κ (.bool b) x):x= .bool b:=h
theorem VR.none(h:VR W κ .none x):x= .none:=h
theorem eH(i:Int)(t:Nat):VR W κ (.int i) (.int i t):=⟨t,rfl⟩
theorem wH(l:List Nat)(t:Nat):VR W κ (.str l) (.str ⟨l.toArray⟩ t):=⟨t,rfl⟩
theorem uY(b:Bool):VR W κ (.bool b) (.bool b):=by rfl
theorem j3:VR W κ .none .none:=by rfl
theorem kl(h:cz b=true):b.natAbs<2^64:=by
 unfold cz at h;simp only[YW,zbf]at h;cases b with
 |ofNat n=>exact Zp (ZI.mp (Zr h.2 (ZN ((1000000:Nat):Int)))) (YX rfl)
 |negSucc n=>exact Zp (ZI.mp (Zr (Int.neg_le_neg h.1) (ZN ((1000000:Nat):Int)))) (YX rfl)
theorem y0(h:cz b=true):b.natAbs.log2<9000:=by
 by_cases h0:b.natAbs=0
 ·rw[h0];decide
 ·have:=(Nat.log2_lt h0 (k:=64)).mpr (kl h);exact YU ‹_› ak
theorem vd(h:Bp b=true):0<=b/\b<=64:=⟨Zt (an h).1,Zt (an h).2⟩
theorem NA(h:cz a=true):IntMulOk a b:=IntMulOk.of_left (intBits_le (kl h))
theorem Kk(h:rY o a b=some c)(k:∀v n,VR W κ (.int c) v->Q v {s with toks:=n}):wpAny (model W.prog W.w) C.A (binaryOp (EA o) (.int a t) (.int b u)) Q E s:=by
 cases o with
 |add=>obtain rfl:=si h;exact PyProof.Rows.add_int (k _ _ (eH _ _))
 |sub=>obtain rfl:=si h;exact PyProof.Rows.sub_int (k _ _ (eH _ _))
 |mul=>obtain⟨g,e⟩:=bX h;obtain rfl:=si e;exact PyProof.Rows.mul_int (k _ _ (eH _ _)) (NA g)
 |fdiv=>obtain⟨g,e⟩:=bX h;obtain rfl:=si e;exact PyProof.Rows.floordiv_int (Int.ne_of_gt (Zt (an g).1)) (k _ _ (eH _ _)) (.inl (PyProof.noPylong_of_log2 (y0 (an g).2)))
 |mod=>obtain⟨g,e⟩:=bX h;obtain rfl:=si e;exact PyProof.Rows.mod_int' (Int.ne_of_gt (Zt g)) (k _ _ (eH _ _))
 |shl=>obtain⟨g,e⟩:=bX h;obtain rfl:=si e;exact PyProof.Rows.lshift_int_small (vd (an g).2).1 (Zr (vd (an g).2).2 ak) (kl (an g).1) (k _ _ (eH _ _))
 |shr=>obtain⟨g,e⟩:=bX h;obtain rfl:=si e;exact PyProof.Rows.rshift_int (vd g).1 (k _ _ (eH _ _))
 |band=>obtain rfl:=si h;exact PyProof.Rows.and_int (k _ _ (eH _ _))
theorem Jv{a b:Value}(hs:Nat.ble (l.length+l'.length) ay=true)(ha:VR W κ (.tup l) a)(hb:VR W κ (.tup l') b)(R:bz W C κ σ s)(k:bE W C (λκ=>VR W κ) Q E (.ok (.tup (l++l'))) κ σ):wpAny (model W.prog W.w) C.A (binaryOp .Add a b) Q E s:=by
 (refine a8 (ha.tup) λp xs q3 h1 h2=>?_;subst q3)
 (refine a8 (hb.tup) λq ys q3 h3 h4=>?_;subst q3)
 refine bi (id R) λm aw frs r=>?_;refine add_tuples r.F r.N (R.isTup h1) (R.isTup h3) (λh0=>?_) (λh0 T3=>?_) (λh0 T3 h' F' N'=>?_) (by(refine((h2.length)) ▸?_;refine((h4.length)) ▸?_);exact gf hs)
 ·subst h0;obtain rfl:=List.length_eq_zero_iff.mp (h2.length);exact k.done (by exact(aY q ys rfl h3 h4)) R
 ·subst T3;obtain rfl:=List.length_eq_zero_iff.mp (h4.length);exact k.done (by rw[Zb];exact(aY p xs rfl h1 h2)) R
 ·obtain⟨le,r'⟩:=r.newTup (vs:=xs++ys) (s':={s with heap:=h'}) F' N' (λp hp=>ZZ (r.N p hp).1) ⟨rfl,rfl,_,rfl⟩ rfl rfl;refine k _ _ le _ ?_ (b6 m _ frs r');exact(aY _ (xs++ys) rfl (ZU rfl) ((h2.append h4).mono le))
theorem sR(h:oo o=true):o= .add:=by cases o<;>first|rfl|exact nf h
theorem KH{σ':St}(hv:bY o x y=some v)(ha:VR W κ x a)(hb:VR W κ y b)(R:bz W C κ σ s)(k:bE W C (λκ=>VR W κ) Q E (.ok v) κ σ):wpAny (model W.prog W.w) C.A (binaryOp (EA o) a b) Q E s:=by
 cases x with
 |int i=>
  obtain⟨j,rfl,h⟩:=pg hv
  (refine U (om h) λc g q3=>?_;subst q3)
  obtain⟨t,rfl⟩:=ha.int;obtain⟨u,rfl⟩:=hb.int;exact Kk g λv n hv=>k.done hv R.toks
 |str l=>
  obtain⟨l',rfl,h⟩:=ET hv;obtain⟨g,e⟩:=bX h;obtain rfl:=sR (an g).1;obtain rfl:=si e;obtain⟨t,rfl⟩:=ha.str;obtain⟨u,rfl⟩:=hb.str;refine PyProof.Rows.add_str (λt' tk=>k.done ?_ R.toks) (gf (an g).2);exact⟨t',by show Value.str ⟨l.toArray++l'.toArray⟩ t'=_;rw[List.append_toArray]⟩
 |tup l=>
  obtain⟨l',rfl,h⟩:=RB hv;obtain⟨g,e⟩:=bX h;obtain rfl:=sR (an g).1;obtain rfl:=si e;exact Jv (an g).2 ha hb R k
 |_=>exact nt hv
theorem Ol(hl:SndE W C l ml)(hr:SndE W C r mr):
  SndE W C (.BinOp l (EA o) r pos) (M.bind ml λx=>M.bind mr λy=>M.opt (bY o x y)):=by
 intro κ σ res σ' h s Q E R k;refine wpAny_BinOp ?_;refine bU.bind (hl κ σ) h R k λam ai x a aE le hx ar ap k₁=>?_;refine bU.bind (hr am ai) ap ar k₁ λbK bG y b c8 aX hy bD aS dP=>?_
 (refine aZ (ij aS) λv hv q3 q4=>?_;subst q3;subst q4)
 exact KH (σ':=σ') hv (hx.mono aX) hy bD dP
theorem Oe(hx:SndE W C x mx):SndE W C (.UnaryOp .USub x pos) (M.bind mx λv=>M.oI v λi=>M.pure (.int (-i))):=by
 intro κ σ res σ' h s Q E R k;refine UnaryOp_ ?_;refine bU.bind (hx κ σ) h R k λam ai v a aE le hv ar ap k₁=>?_
 (refine U (Ba ap) λi q2 ap=>?_;subst q2)
 obtain⟨rfl,rfl⟩:=ao ap;obtain⟨t,rfl⟩:=hv.int;exact PyProof.Rows.neg_int (k₁.done (eH _ _) ar.toks)
theorem ic(ht:iG v=some t)(hv:VR W κ v a)(h:Q t s):wpAny (model W.prog W.w) C.A (truthy a) Q E s:=by
 cases v with
 |bool b=>obtain rfl:=si ht;rw[hv.bool];exact zbe h
 |int i=>
  obtain rfl:=si ht;obtain⟨u,rfl⟩:=hv.int;exact truthy_int h
 |_=>exact nt ht
theorem jH(h:M.bind (M.opt o) f σ=some r):∃a,o=some a/\f a σ=some r:=by
 cases o with
 |none=>exact nt h
 |some a=>exact(al a rfl h)
theorem Oc(hx:SndE W C x mx):SndE W C (.UnaryOp .Not x pos) (M.bind mx λv=>M.bind (M.opt (iG v)) λt=>M.pure (.bool (!t))):=by
 intro κ σ res σ' h s Q E R k;refine UnaryOp_ ?_;refine bU.bind (hx κ σ) h R k λam ai v a aE le hv ar ap k₁=>?_;refine U (jH ap) λt ht aS=>?_;obtain⟨rfl,rfl⟩:=ao aS;exact not_of (ic ht hv (k₁.done (uY _) ar))
theorem Oh(hc:SndT W C c mc)(ha:SndE W C a ma)(hb:SndE W C b mb):
  SndE W C (.IfExp c a b pos) (M.bind mc λt=>match t with|true=>ma|false=>mb):=by
 intro κ σ res σ' h s Q E R k;refine IfExp_ ?_;refine bU.bind (hc κ σ) h R k λam ai t t' aE le ht ar ap k₁=>?_;subst ht;cases t with
 |true=>exact ha am ai _ _ ap _ _ _ ar k₁
 |false=>exact hb am ai _ _ ap _ _ _ ar k₁
theorem Om(h:cm (λe x=>SndE W C e (ih.e x)) es xs):SndE W C (.BoolOp .And es pos) (lL ih xs):=by
 induction xs generalizing es with
 |nil=>intro κ σ res σ' h;exact nt h
 |cons x xs i=>
  cases es with
  |nil=>exact h.elim
  |cons e es=>
   cases xs with
   |nil=>
    cases es with
    |nil=>exact h.1
    |cons _ _=>exact h.2.elim
   |cons x' xs=>
    cases es with
    |nil=>exact h.2.elim
    |cons e' es=>
     intro κ σ res σ' h' s Q E R k;refine BoolOp_and ?_;refine bU.bind (h.1 κ σ) h' R k λam ai v a aE le hv ar ap k₁=>?_;refine U (jH ap) λt ht aS=>?_;refine ic ht hv ?_;cases t with
     |false=>
      obtain⟨rfl,rfl⟩:=ao aS;exact k₁.done hv ar
     |true=>exact i h.2 am ai _ _ aS _ _ _ ar k₁
theorem R8(h:cm (λe x=>SndE W C e (ih.e x)) es xs):SndE W C (.BoolOp .Or es pos) (pP ih xs):=by
 induction xs generalizing es with
 |nil=>intro κ σ res σ' h;exact nt h
 |cons x xs i=>
  cases es with
  |nil=>exact h.elim
  |cons e es=>
   cases xs with
   |nil=>
    cases es with
    |nil=>exact h.1
    |cons _ _=>exact h.2.elim
   |cons x' xs=>
    cases es with
    |nil=>exact h.2.elim
    |cons e' es=>
     intro κ σ res σ' h' s Q E R k;refine BoolOp_or ?_;refine bU.bind (h.1 κ σ) h' R k λam ai v a aE le hv ar ap k₁=>?_;refine U (jH ap) λt ht aS=>?_;refine ic ht hv ?_;cases t with
     |true=>
      obtain⟨rfl,rfl⟩:=ao aS;exact k₁.done hv ar
     |false=>exact i h.2 am ai _ _ aS _ _ _ ar k₁
theorem Fq(hx:SndE W C e mx)(hp:∀env whole,PySem.isTrue e env whole=(do let v<-whole;standAt (Expr.pos e);holding [v] (truthy v))):SndT W C e (M.bind mx λv=>M.opt (iG v)):=by
 intro κ σ res σ' h s Q E R k;refine isTrue_plain ?_ (hp _ _);refine bU.bind (hx κ σ) h R k λam ai v a aE le hv ar ap k₁=>?_
 (refine aZ (ij ap) λt ht q3 q4=>?_;subst q3;subst q4)
 exact ic ht hv (k₁.done rfl ar)
theorem M4(hx:SndT W C e mx):SndT W C (.UnaryOp .Not e pos) (M.bind mx λt=>M.pure (!t)):=by
 intro κ σ res σ' h s Q E R k;refine isTrue_not ?_;refine bU.bind (hx κ σ) h R k λam ai t t' aE le ht ar ap k₁=>?_;obtain⟨rfl,rfl⟩:=ao ap;subst ht;exact k₁.done rfl ar
theorem M7(h:cm (λe x=>SndT W C e (ih.b x)) es xs):∀whole κ σ,bU W C κ σ (PySem.isTrue (.BoolOp .And es pos) C.env whole) (Fa ih xs σ) (λ_ b b'=>b=b'):=by
 induction xs generalizing es with
 |nil=>
  cases es with
  |cons _ _=>exact h.elim
  |nil=>
   intro whole κ σ res σ' h s Q E R k;obtain⟨rfl,rfl⟩:=ao h;exact isTrue_and_nil (k.done rfl R)
 |cons x xs i=>
  cases es with
  |nil=>exact h.elim
  |cons e es=>
   intro whole κ σ res σ' h' s Q E R k;refine isTrue_and ?_;refine bU.bind (h.1 κ σ) h' R k λam ai t t' aE le ht ar ap k₁=>?_;subst ht;cases t with
   |false=>
    obtain⟨rfl,rfl⟩:=ao ap;exact k₁.done rfl ar
   |true=>exact i h.2 _ am ai _ _ ap _ _ _ ar k₁
theorem Ra(h:cm (λe x=>SndT W C e (ih.b x)) es xs):∀whole κ σ,bU W C κ σ (PySem.isTrue (.BoolOp .Or es pos) C.env whole) (E9 ih xs σ) (λ_ b b'=>b=b'):=by
 induction xs generalizing es with
 |nil=>
  cases es with
  |cons _ _=>exact h.elim
  |nil=>
   intro whole κ σ res σ' h s Q E R k;obtain⟨rfl,rfl⟩:=ao h;exact isTrue_or_nil (k.done rfl R)
 |cons x xs i=>
  cases es with
  |nil=>exact h.elim
  |cons e es=>
   intro whole κ σ res σ' h' s Q E R k;refine isTrue_or ?_;refine bU.bind (h.1 κ σ) h' R k λam ai t t' aE le ht ar ap k₁=>?_;subst ht;cases t with
   |true=>
    obtain⟨rfl,rfl⟩:=ao ap;exact k₁.done rfl ar
   |false=>exact i h.2 _ am ai _ _ ap _ _ _ ar k₁
theorem M5{mc ma mb:M Bool}(hc:SndT W C c mc)(ha:SndT W C a ma)(hb:SndT W C b mb):
  SndT W C (.IfExp c a b pos) (M.bind mc λt=>match t with|true=>ma|false=>mb):=by
 intro κ σ res σ' h s Q E R k;refine isTrue_IfExp ?_;refine bU.bind (hc κ σ) h R k λam ai t t' aE le ht ar ap k₁=>?_;subst ht;cases t with
 |true=>exact ha am ai _ _ ap _ _ _ ar k₁
 |false=>exact hb am ai _ _ ap _ _ _ ar k₁
end
def AJ:Value->Int
 | .int i _=>i
 |_=>0
def HO:Data->Bool
 | .dict _ _=>true
 |_=>false
def wX:Data->Array DictEntry
 | .dict es _=>es
 |_=> #[]
def Jd(e:DictEntry):Bool:=e.key== .int (AJ e.key) (tokOf e.key)&&e.hash==hashInt (AJ e.key)
def yy(K:Frag)(a:Addr)(l:List Int):Bool:= !(a==sysModules)&&(K.lookup a).any λo=>(o.cls== .type "dict"&&(o.dict.isNone&&o.slots.isEmpty))&&(HO o.data&&((wX o.data).toList.all Jd&&((wX o.data).toList.map (λe=>AJ e.key)==l&&decide l.Nodup)))
section
variable{W:SW}{C:Cx}{κ:Kn}{σ:St}{s:Shared}
theorem Gl(h:HO d=true):∃n,d= .dict (wX d) n:=by cases d with|dict es n=>exact⟨n,rfl⟩|_=>exact nf h
theorem HP(h:Jd e=true):(PySem.intKind W.prog W.w).is (AJ e.key) e.key=true:=by
 rw[eq_of_beq (an h).1];exact ZK _ _ _ _
theorem yX(h:∀e∈es,Jd e=true):PySem.Pairs (PySem.intKind W.prog W.w) es (es.map (λe=>(AJ e.key,e.val))):=by
 induction es with
 |nil=>exact .nil
 |cons e es ih=>exact .cons (HP (h e (.head _))) rfl (ih λx hx=>h x (.tail _ hx))
theorem tf:∀{br:List (Int×Value)},(valueAt br i).isSome=(br.map (·.1)).contains i:=by
 intro br
 induction br with
 |nil=>exact rfl
 |cons q_ r ih=>
  skip;by_cases h:q_.1=i
  ·subst h;simp[valueAt]
  ·have h':¬i=q_.1:=λe=>h e.symm;simp only[valueAt,zaU,h,decide_false]at ih⊢;rw[ih];simp[h']
theorem Jy(h:yy W.K a l=true):(a==sysModules)=false/\∃o br,W.base.get? a=some o/\o.IsDictOf (PySem.intKind W.prog W.w) br/\br.map (·.1)=l:=by
 refine U (oa (an h).2) λo ho h2=>?_;have d:=an (an h2).2;obtain⟨n,hd⟩:=Gl d.1;have g:=YO.mp (an d.2).1;exact⟨iq (an h).1,o,_,W.X _ _ ho,(yO (wX o.data) n ⟨eq_of_beq (an (an h2).1).1,zat.mp (an (an (an h2).1).2).1,Array.isEmpty_iff.mp (an (an (an h2).1).2).2⟩ hd (λx hx=>(al _ (HP (g x (Array.mem_toList_iff.mpr hx))) (eq_of_beq (an (g x (Array.mem_toList_iff.mpr hx))).2))) (yX g) (by rw[List.map_map];exact(eq_of_beq (an (an d.2).2).1) ▸ Zt (an (an d.2).2).2)),by rw[List.map_map];exact(eq_of_beq (an (an d.2).2).1)⟩
theorem cH.nil(h:cH W κ [] us):us= []:=by simpa only[cH]using h
theorem cH.cons(h:cH W κ (v::vs) us):∃x xs,us=x::xs/\VR W κ v x/\cH W κ vs xs:=by simpa only[cH]using h
theorem BI(R:bz W C κ σ s):(∀{v:V} {d:PyData} {u:Value},um σ.heap n v=some d->VR W κ v u->∃as,Reads s.heap u d as)/\∀{vs:List V} {ds:List PyData} {us:List Value},j0 σ.heap n vs=some ds->cH W κ vs us->∃as,ReadsAll s.heap us ds as:=by
 induction n with
 |zero=>exact⟨λh=>nt h,λh=>nt h⟩
 |succ n ih=>
  refine⟨?_,?_⟩
  ·intro v d u h hv;cases v with
   |none=>obtain rfl:=si h;rw[hv.none];exact⟨_, .none⟩
   |bool b=>obtain rfl:=si h;rw[hv.bool];exact⟨_, .bool _⟩
   |int i=>obtain rfl:=si h;obtain⟨t,rfl⟩:=hv.int;exact(iP _ (.int _ _))
   |str l=>obtain rfl:=si h;obtain⟨t,rfl⟩:=hv.str;exact(iP _ (.str _ _))
   |tup vs=>
    (refine U (om h) λds hd q3=>?_;subst q3)
    (refine a8 (hv.tup) λa xs q3 h1 h2=>?_;subst q3)
    obtain⟨o,ho,hc,k,Xp⟩:=R.isTup h1;obtain⟨as,r⟩:=ih.2 hd h2;exact(iP _ (.tuple ho hc Xp r))
   |obj t i=>
    refine U (ob h) λo hl h=>?_
    (refine U (RG h) λvs q2 h=>?_;subst q2)
    (refine U (om h) λds hd q3=>?_;subst q3)
    (refine U (hv.obj) λa q2 h1=>?_;subst q2)
    refine bi (id R) λm aw frs r=>?_;refine cY (r.nr.obj hl) λa' iK k h2 h3 h4=>?_;obtain rfl:=si (h1.symm.trans h2);obtain⟨as,rr⟩:=ih.2 hd h4;exact(iP _ (.list (r.N _ (YQ _ h3)).1 rfl rfl rr))
   |glob _=>exact nt h
  ·intro vs ds us h hv;cases vs with
   |nil=>obtain rfl:=si h;obtain rfl:=hv.nil;exact(iP _ (.nil))
   |cons v vs=>
    refine U (ob h) λd hd h=>?_;obtain⟨ds,K5,rfl⟩:=om h
    (refine a8 (hv.cons) λx xs q3 h1 h2=>?_;subst q3)
    obtain⟨as,r⟩:=ih.1 hd h1;obtain⟨bs,rs⟩:=ih.2 K5 h2;exact(iP _ (.cons r rs))
theorem Ft:∀{ls:List (List Nat)} {us:List Value},mm vs=some ls->cH W κ vs us->StrsAre us (ls.map λl=>⟨l.toArray⟩):=by
 induction vs with
 |nil=>intro ls us h hv;obtain rfl:=si h;obtain rfl:=hv.nil;exact .nil
 |cons v vs ih=>
  intro ls us h hv
  (refine U (ET h) λl q2 h=>?_;subst q2)
  (refine U (om h) λls hl q3=>?_;subst q3)
  (refine a8 (hv.cons) λx xs q3 h1 h2=>?_;subst q3)
  obtain⟨t,rfl⟩:=h1.str;exact .cons _ _ (ih hl h2)
theorem oy(h:VR W κ v u):(u== .none)=isNone v:=by
 cases v with
 |none=>rw[h.none];rfl
 |bool b=>rw[h.bool];rfl
 |int i=>obtain⟨t,rfl⟩:=h.int;rfl
 |str l=>obtain⟨t,rfl⟩:=h.str;rfl
 |tup vs=>(refine bR (h.tup) λa xs q3 _=>?_;subst q3);rfl
 |obj t i=>(refine U (h.obj) λa q2 _=>?_;subst q2);rfl
 |glob g=>(refine U h λa q2 _=>?_;clear h;subst q2);rfl
theorem Gk(h:isInt v=true):v= .int (rZ v):=by cases v with|int i=>rfl|_=>exact nf h
theorem Gm:∀{us:List Value},vs.all isInt=true->cH W κ vs us->PySem.ItemsAre (PySem.intKind W.prog W.w) (vs.map rZ) us:=by
 induction vs with
 |nil=>intro us _ hv;obtain rfl:=hv.nil;exact .nil
 |cons v vs ih=>
  intro us h hv
  (refine a8 (hv.cons) λx xs q3 h1 h2=>?_;subst q3)
  rw[Gk (an h).1]at h1;obtain⟨t,rfl⟩:=h1.int;exact .cons (ZK _ _ _ _) (ih (an h).2 h2)
theorem yW(R:bz W C κ σ s){vs:List V}:∀{us:List Value},vs.all cA=true->cH W κ vs us->cF W.prog W.w s.heap (vs.map lZ) us:=by
 induction vs with
 |nil=>intro us _ hv;obtain rfl:=hv.nil;exact .nil
 |cons v vs ih=>
  intro us h hv
  (refine a8 (hv.cons) λx xs q3 h1 h2=>?_;subst q3)
  cases v with
  |int i=>
   obtain⟨t,rfl⟩:=h1.int;exact .int (ih (an h).2 h2)
  |tup l=>
   (refine a8 (h1.tup) λa ys q3 h3 h4=>?_;subst q3)
   obtain⟨o,ho,hc,n,hd⟩:=R.isTup h3;exact .tup (ph o _ n ho hc hd (Gm ((an h).1) h4)) (ih (an h).2 h2)
  |_=>exact nf ((an h).1)
theorem Ho(R:bz W C κ σ s)(hp:RT p kk)(hv:VR W κ p (.ref b)):iy W.prog W.w s.heap kk b:=by
 obtain⟨h1,rfl⟩:=hp;refine hg λcg kg=>?_;(refine U (i9 h1) λvs q2 hs=>?_;subst q2)
 refine a8 (hv.tup) λa xs e h3 h4=>?_;cases e;obtain⟨o,ho,hc,n,hd⟩:=R.isTup h3;refine kg ?_;exact(ph o _ n ho hc hd (by show cF W.prog W.w s.heap (vs.map lZ) _;simpa using yW R hs h4))
theorem D3(R:bz W C κ σ s)(ho:s.heap.get? a=some o)(h:lN W o xs)(hk:KT (VR W κ) es xs):s.heap.DictOfH (fb W.prog W.w) a xs:=by
 (refine cQ h λLd ep h1 h2 h3 h4=>?_;clear h)
 refine⟨o,Ld,ep,ho,h1,h2,h3,λx hx=>?_,h4⟩;refine U (hk.keys x hx) λp hp hv=>?_;exact Ho R hp hv
inductive r7(W:SW)(C:Cx)(κ:Kn)(σ:St)(s:Shared)(es:List (V×V))(k:V)(u:Value)(a:Addr)(o:Obj)(aw frs:List (Addr×Obj)):Prop
 |str (l:List Nat) (t:Nat) (br:List (Str×Value)):k= .str l->u= .str ⟨l.toArray⟩ t->o.IsDictOf (PySem.strKind W.prog W.w) br->KV RS (VR W κ) es br->r7 W C κ σ s es k u a o aw frs
 |int (i:Int) (t:Nat) (br:List (Int×Value)):k= .int i->u= .int i t->o.IsDictOf (PySem.intKind W.prog W.w) br->KV RI (VR W κ) es br->r7 W C κ σ s es k u a o aw frs
 |tup (b:Addr) (kk:dQ) (xs:List (dQ×Addr×Value)):RT k kk->u= .ref b->iy W.prog W.w s.heap kk b->s.heap.DictOfH (fb W.prog W.w) a xs->KT (VR W κ) es xs->r7 W C κ σ s es k u a o aw frs
theorem pJ(r:a9 W C κ σ s m aw frs)(hd:nth (σ.heap t) i=some (.dict kd es))(ha:κ.at_ t i false=some a)(hk:gp kd k=true)(hv:VR W κ k u):
  ∃o,(a,o)∈aw/\eK W κ kd es a o/\r7 W C κ σ s es k u a o aw frs:=by
 refine a8 (r.nr.obj hd) λa' o h1 h2 D=>?_;rw[ha]at h1;obtain rfl:=YZ h1;refine(aM o h2 D ?_);unfold gp at hk;simp only[YW,ZT]at hk;have kW:=by have:=hk.1;simp only[zbv]at this;exact this
 have IG:=hk.2.imp YY YY;cases k with
 |str l=>
  obtain⟨t,rfl⟩:=hv.str;refine U (D.one (IG.elim (λe=> .inr e) .inl)) λbr x1 x2=>?_;exact .str l t br rfl rfl x1 x2
 |int j=>
  obtain⟨t,rfl⟩:=hv.int;refine U (D.two (IG.elim (λe=> .inr e) .inl)) λbr x1 x2=>?_;exact .int j t br rfl rfl x1 x2
 |tup vs=>
  (refine a8 (hv.tup) λb xs q3 h3 h4=>?_;subst q3)
  have hR:RT (.tup vs) (Mx (.tup vs)):=⟨by simp only[cO,(show vs.all cA=true from by
   dsimp only[cO]at kW;cases q:vs.all cA with
   |true=>rfl
   |false=>rw[q]at kW;exact absurd kW ak)],rfl⟩
  refine U (D.three (IG.elim (λe=> .inr (e.trans hR.1)) .inl)) λUH x1 x2=>?_;exact .tup b _ UH hR rfl (Ho (⟨m,aw,frs,r⟩) hR hv) (D3 (⟨m,aw,frs,r⟩) (r.N _ (YQ _ h2)).1 x1 x2) x2
 |none=>simp[cO]at kW
 |bool b=>simp[cO]at kW
 |obj t i=>simp[cO]at kW
 |glob g=>simp[cO]at kW
theorem KV.some'{K:Type} [DecidableEq K]{R:V->K->Prop}(hR:∀{p q:V} {a b:K},R p a->R q b->(p=q↔a=b)){k:K}(hp:R p k){br:List (K×Value)}(h:KV R S es br):(valueAt br k).isSome=(aO p es).isSome:=by
 have h:=KV.look hR hp h;refine dI (aO p es) (λq=>?_) λv q=>?_
 ·rw[q];rw[q]at h;rw[h];rfl
 ·rw[q];rw[q]at h;(refine U h λx e _=>?_;clear h);rw[e];rfl
theorem KT.some'(hp:RT p k)(h:KT (VR W κ) es xs):(atKey xs k).isSome=(aO p es).isSome:=by
 have h:=KT.look hp h;refine dI (aO p es) (λq=>?_) λv q=>?_
 ·rw[q];rw[q]at h;rw[h];rfl
 ·rw[q];rw[q]at h;(refine U h λx e _=>?_;clear h);rw[e];rfl
theorem HZ(hc:G9 σ.heap x y=some t)(ha:VR W κ x a)(hb:VR W κ y b)(R:bz W C κ σ s):∃d d' as bs,Reads s.heap a d as/\Reads s.heap b d' bs/\SeqAt.shaped d=true/\SeqAt.shaped d'=true/\t=PyData.eqv d d':=by
 refine hg λcg kg=>?_;refine U (ob hc) λd e1 h=>?_;refine U (ob h) λd' e2 h=>?_;obtain⟨g,e⟩:=bX h;obtain⟨as,ra⟩:=(BI R).1 e1 ha;obtain⟨bs,rb⟩:=(BI R).1 e2 hb;refine kg ?_;exact⟨d,d',as,bs,ra,rb,(an g).1,(an g).2,(si e).symm⟩
theorem HQ(hu:C.A.units+64<cLine):C.A.in1.units+8<cLine:=by rw[Around.in1_units];exact Zp (by rw[ZF];exact Ze ak _) hu
theorem KC(h:AQ σ.heap x y=some t)(ha:VR W κ x a)(hb:VR W κ y b)(r:a9 W C κ σ s m aw frs):∃p o kd es,b= .ref p/\(p,o)∈aw++frs/\eK W κ kd es p o/\r7 W C κ σ s es x a p o aw frs/\t=(aO x es).isSome:=by
 cases y with
 |obj s i=>
  refine hg λcg kg=>?_;refine U (ob h) λWi hd h=>?_
  (refine bR (RH h) λkd es q3 h=>?_;subst q3)
  obtain⟨hk,e⟩:=bX h
  (refine U (hb.obj) λp q2 h1=>?_;subst q2)
  refine aZ (pJ r hd h1 hk ha) λo hm D ka=>?_;refine kg ?_;exact⟨p,o,kd,es,rfl,YQ frs hm,D,ka,(si e).symm⟩
 |_=>exact nt h
theorem xQ(h:AQ σ.heap x y=some t)(ha:VR W κ x a)(hb:VR W κ y b)(R:bz W C κ σ s)(hu:C.A.units+64<cLine):
  ((∀n,Q (.bool t) {s with toks:=n})->wpAny (model W.prog W.w) C.A (compareOp .In a b) Q E s)/\((∀n,Q (.bool (!t)) {s with toks:=n})->wpAny (model W.prog W.w) C.A (compareOp .NotIn a b) Q E s):=by
 refine bi (id R) λm aw frs r=>?_
 (refine cy (KC h ha hb r) λp o kd es q=>?_;(refine AX q λq1 hm D ka q5=>?_;try clear q;subst q1;subst q5))
 cases ka with
 |str l tt br e1 e2 x1 x2=>
  subst e1 e2;have e:=KV.some' (K:=Str) (λa b=>RS.iff a b) (al l rfl rfl) x2;exact⟨λh=>kda_in r.N hm x1 D.low (zaa _ _ _ _) _ e (h _),λh=>kdg_notin r.N hm x1 D.low (zaa _ _ _ _) _ e (h _)⟩
 |int l tt br e1 e2 x1 x2=>
  subst e1 e2;have e:=KV.some' (K:=Int) (λa b=>RI.iff a b) (show RI (.int l) l from rfl) x2;exact⟨λh=>kda_in r.N hm x1 D.low (ZK _ _ _ _) _ e (h _),λh=>kdg_notin r.N hm x1 D.low (ZK _ _ _ _) _ e (h _)⟩
 |tup bb kk xs hR e2 x0 x1 x2=>
  subst e2;have e:=KT.some' hR x2;exact⟨λh=>wpAny_in_heap (knd:=fb W.prog W.w) (HQ hu) x0 D.low x1 (by rw[e];exact h _),λh=>wpAny_notIn_heap (knd:=fb W.prog W.w) (HQ hu) x0 D.low x1 (by rw[e];exact h _)⟩
def z8:pa->CmpOp
 | .eq=> .Eq
 | .ne=> .NotEq
 | .lt=> .Lt
 | .le=> .LtE
 | .gt=> .Gt
 | .ge=> .GtE
 | .is=> .Is
 | .isNot=> .IsNot
 | .isIn=> .In
 | .notIn=> .NotIn
theorem Fu{ls:List (List Nat)}:(ls.map λl=>(⟨l.toArray⟩:Str)).any (·==⟨l.toArray⟩)=ls.any λx=>decide (x=l):=by
 rw[List.any_map];congr 1;funext x;exact decide_eq_decide.mpr ⟨λe=>YV (λs:Str=>s.cps.toList) e,λe=>e ▸ rfl⟩
theorem NN(hu:C.A.units+64<cLine)(uE:∀g l,W.P.table g=some l->∃a,W.gl g=some a/\yy W.K a l=true)(hc:I8 W.P σ.heap x y=some t)(ha:VR W κ x a)(hb:VR W κ y b)(R:bz W C κ σ s)(h:∀n,Q (.bool t) {s with toks:=n}):wpAny (model W.prog W.w) C.A (compareOp .In a b) Q E s:=by
 cases y with
 |tup vs=>
  (refine U (ET hc) λl q2 hc=>?_;subst q2)
  (refine U (om hc) λls hl q3=>?_;subst q3)
  obtain⟨t,rfl⟩:=ha.str
  (refine a8 (hb.tup) λp xs q3 h1 h2=>?_;subst q3)
  exact in_tuple_strs (R.isTup h1) (Ft hl h2) (by rw[Fu];exact h s.toks)
 |glob g=>
  (refine U (pg hc) λi q2 hc=>?_;subst q2)
  refine hg λcg kg=>?_;(refine U (om hc) λl hl q3=>?_;subst q3)
  refine U (uE g l hl) λp hp RM=>?_
  (refine U hb λq q2 e=>?_;clear hb;subst q2)
  obtain rfl:=si (hp.symm.trans e);obtain⟨t,rfl⟩:=ha.int;obtain⟨low,ob,br,n6,hd,hk⟩:=Jy RM;refine bi (id R) λm aw frs r=>?_;refine kg ?_;exact wpAny_in_of (ZK _ _ _ _) low (zay.mpr (al ob (r.F.keep _ _ n6) hd)).mapOf (by rw[tf,hk];exact h _)
 |obj s i=>exact(xQ (x:=x) (y:= .obj s i) hc ha hb R hu).1 h
 |_=>exact nt hc
theorem pN(hu:C.A.units+64<cLine)(uE:∀g l,W.P.table g=some l->∃a,W.gl g=some a/\yy W.K a l=true)(hc:me W.P σ.heap o x y=some t)(ha:VR W κ x a)(hb:VR W κ y b)(R:bz W C κ σ s)(h:∀n,Q (.bool t) {s with toks:=n}):wpAny (model W.prog W.w) C.A (compareOp (z8 o) a b) Q E s:=by
 have h0:Q (.bool t) s:=h s.toks;have ii:∀{f:Int->Int->Bool},(oI x λa=>oI y λb=>some (f a b))=some t->∃i j p q,a= .int i p/\b= .int j q/\f i j=t:=by
  intro f g;refine U (pg g) λi e1 g1=>?_;refine U (pg g1) λj e2 g2=>?_;rw[e1]at ha;rw[e2]at hb;obtain⟨p,rfl⟩:=ha.int;obtain⟨q,rfl⟩:=hb.int;exact(AV i j p q rfl rfl (si g2))
 cases o with
 |eq=>(refine cy (HZ hc ha hb R) λd d' as bs q=>?_;(refine AX q λra rb s1 s2 q5=>?_;try clear q;subst q5));exact SeqAt.compareEq_shaped ra rb s1 s2 hu h0
 |ne=>
  obtain⟨c,g,rfl⟩:=om hc
  (refine cy (HZ g ha hb R) λd d' as bs q=>?_;(refine AX q λra rb s1 s2 q5=>?_;try clear q;subst q5))
  exact SeqAt.compareNe_shaped ra rb s1 s2 hu h0
 |lt=>obtain⟨i,j,p,q,rfl,rfl,rfl⟩:=ii hc;exact PyProof.Rows.lt_int h0
 |le=>obtain⟨i,j,p,q,rfl,rfl,rfl⟩:=ii hc;exact PyProof.Rows.le_int h0
 |gt=>obtain⟨i,j,p,q,rfl,rfl,rfl⟩:=ii hc;exact PyProof.Rows.gt_int h0
 |ge=>obtain⟨i,j,p,q,rfl,rfl,rfl⟩:=ii hc;exact PyProof.Rows.ge_int h0
 |«is»=>
  obtain⟨rfl,e⟩:=Mm hc;obtain rfl:=si e;rw[hb.none];exact is_none_gen (by rw[oy ha];exact h0)
 |isNot=>
  obtain⟨rfl,e⟩:=Mm hc;obtain rfl:=si e;rw[hb.none];exact isnot_none_gen (by rw[oy ha];exact h0)
 |isIn=>exact NN hu uE hc ha hb R h
 |notIn=>
  obtain⟨c,g,rfl⟩:=om hc;exact(xQ g ha hb R hu).2 h
end
def mA(W:SW):Prop:=∀g l,W.P.table g=some l->∃a,W.gl g=some a/\yy W.K a l=true
section
variable{W:SW}{C:Cx}{κ:Kn}{σ:St}{s:Shared}
theorem jS(h:M.bind (M.cmp W.P o x y) f σ=some r):∃t,me W.P σ.heap o x y=some t/\f t σ=some r:=by
 unfold M.bind M.cmp at h;refine dI (me W.P σ.heap o x y) (λe=>?_) λt e=>?_
 ·rw[e]at h;exact nt h
 ·(refine(e).symm ▸?_);rw[e]at h;exact(al t rfl h)
theorem dG{f:α->M β}{g:β->M γ}:M.bind (M.bind m f) g=M.bind m λa=>M.bind (f a) g:=by
 funext σ;unfold M.bind;cases m σ with
 |none=>rfl
 |some p=>
  obtain⟨r,σ'⟩:=p;cases r<;>rfl
inductive Hi(W:SW)(C:Cx)(ih:Ih):List pa->List Expr->List Ex->Prop
 |one {o e x}:SndE W C e (ih.e x)->Hi W C ih [o] [e] [x]
 |more {o e x o' e' x' os es xs}:SndE W C e (ih.e x)->Hi W C ih (o'::os) (e'::es) (x'::xs)->Hi W C ih (o::o'::os) (e::e'::es) (x::x'::xs)
theorem qz(hu:C.A.units+64<cLine)(uE:mA W){os:List pa}(hc:Hi W C ih os rs xs):
  ∀{κ σ x a},VR W κ x a->bU W C κ σ (testChain pos a (os.map z8) (evalEach rs C.env)) (gq W.P ih x os xs σ) (λ_ b b'=>b=b'):=by
 induction hc with
 | @one o r y ho2=>
  intro κ σ x a hx res σ' h s Q E R k;refine YT (ZE ?_);refine bU.bind (ho2 κ σ) h R k λam ai y b aE le hy ar ap k₁=>?_;refine YT (ZW (YT (wpAny_operateT ?_)));refine hg λcg kg=>?_;refine U (jS ap) λt e aS=>?_;obtain⟨rfl,rfl⟩:=ao aS;refine kg ?_;exact pN hu uE e (hx.mono le) hy ar λn=>ZE (zbe (k₁.done rfl ar.toks))
 | @more o r y o' r' y' os rs ys ho2 ho3 i=>
  intro κ σ x a hx res σ' h s Q E R k;refine YT (ZE ?_);refine bU.bind (ho2 κ σ) h R k λam ai y b aE le hy ar ap k₁=>?_;refine YT (ZW (YT (ZE ?_)));refine U (jS ap) λt e aS=>?_;refine pN hu uE e (hx.mono le) hy ar λn=>YT (wpAny_release' (YT (ZE (zbe ?_))));cases t with
  |false=>
   obtain⟨rfl,rfl⟩:=ao aS;exact Y7 (k₁.done rfl ar.toks)
  |true=>exact i hy _ _ aS _ _ _ ar.toks k₁
theorem lq(hu:C.A.units+64<cLine)(uE:mA W){os:List pa}(hc:Hi W C ih os rs xs):
  ∀{κ σ x a},VR W κ x a->bU W C κ σ (compareChain pos a (os.map z8) (evalEach rs C.env)) (M.bind (gq W.P ih x os xs) (λt=>M.pure (.bool t)) σ) (λκ=>VR W κ):=by
 induction hc with
 | @one o r y ho2=>
  intro κ σ x a hx res σ' h s Q E R k;refine YT (ZE ?_);unfold gq at h;rw[dG]at h;refine bU.bind (ho2 κ σ) h R k λam ai y b aE le hy ar ap k₁=>?_;refine YT (ZW (wpAny_operateT ?_));rw[dG]at ap;refine hg λcg kg=>?_;refine U (jS ap) λt e aS=>?_;obtain⟨rfl,rfl⟩:=ao aS;refine kg ?_;exact pN hu uE e (hx.mono le) hy ar λn=>k₁.done (uY _) ar.toks
 | @more o r y o' r' y' os rs ys ho2 ho3 i=>
  intro κ σ x a hx res σ' h s Q E R k;refine YT (ZE ?_);unfold gq at h;rw[dG]at h;refine bU.bind (ho2 κ σ) h R k λam ai y b aE le hy ar ap k₁=>?_;refine YT (ZW (YT (ZE ?_)));rw[dG]at ap;refine U (jS ap) λt e aS=>?_;refine pN hu uE e (hx.mono le) hy ar λn=>YT (wpAny_release' (YT (ZE (zbe ?_))));cases t with
  |false=>
   obtain⟨rfl,rfl⟩:=ao (show M.pure (.bool false) ai=some (res,σ')from aS);exact Y7 (k₁.done (uY _) ar.toks)
  |true=>exact i hy _ _ aS _ _ _ ar.toks k₁
theorem M6(hu:C.A.units+64<cLine)(uE:mA W){os:List pa}(hl:SndE W C l ml)(ho:Hi W C ih os rs xs)(hm:markedEach (os.map z8) rs (evalEach rs C.env)=evalEach rs C.env):SndT W C (.Compare l (os.map z8) rs pos) (M.bind ml λx=>gq W.P ih x os xs):=by
 intro κ σ res σ' h s Q E R k;show wpAny _ _ (do testChain pos (<-eval l C.env) (os.map z8) (markedEach (os.map z8) rs (evalEach rs C.env))) _ _ _
 (refine(hm).symm ▸?_)
 refine YT ?_;refine bU.bind (hl κ σ) h R k λam ai x a aE le hx ar ap k₁=>?_;exact qz hu uE ho hx _ _ ap _ _ _ ar k₁
theorem Oj(hu:C.A.units+64<cLine)(uE:mA W){os:List pa}(hl:SndE W C l ml)(ho:Hi W C ih os rs xs)(hm:markedEach (os.map z8) rs (evalEach rs C.env)=evalEach rs C.env):SndE W C (.Compare l (os.map z8) rs pos) (M.bind ml λx=>M.bind (gq W.P ih x os xs) λt=>M.pure (.bool t)):=by
 intro κ σ res σ' h s Q E R k;show wpAny _ _ (do compareChain pos (<-eval l C.env) (os.map z8) (markedEach (os.map z8) rs (evalEach rs C.env))) _ _ _
 (refine(hm).symm ▸?_)
 refine YT ?_;refine bU.bind (hl κ σ) h R k λam ai x a aE le hx ar ap k₁=>?_;exact lq hu uE ho hx _ _ ap _ _ _ ar k₁
end
end Mine
end
section
namespace Mine
open PySem PySem.W PyProof.Rows PySem.Calls Builtin Builtin.ObjectAttr
section
variable{prog:Program}{w:World}{A:Around}{E:Value->Shared->Prop}{s:Shared}{K:Frag}{x C:Addr}{ox:Obj}{od:Option Obj}{name:Str}{expr:Bool}{Q:Value->Shared->Prop}
noncomputable def qq (K:Frag) (C:Addr):Bool:=findIn K (.ref C) "__getattribute__"==some (some (.builtin "BaseException.__getattribute__"))&&findIn K (.ref C) "__getattr__"==some none&&mroIn K C (.type "BaseException")==some true
theorem Gy(X:K.In s.heap)(I:PySem.W.InstAt s.heap x ox C od)(hg:qq K C=true)(hf:findObj K C od name=some (.value v))(hh:handedIn v=true)(h:Q v {s with toks:=s.toks+1}):wpAny (model prog w) A (getAttr (.ref x) name expr) Q E s:=by
 unfold qq at hg;simp only[YW,zaZ]at hg;obtain⟨⟨h1,h2⟩,h3⟩:=hg;obtain⟨hp,g,d,t,os⟩:=s;refine YT (wpAny_mkText (ZE (YT ((I.type (M:=model prog w)).at (YT ((looks_findIn (M:=model prog w) X h1).at ?_))))));unfold getAttrByItsOwn hookBefore callGetattribute;refine YT ((looks_findIn (M:=model prog w) X h2).at (YT (wpAny_attempt (ZE ?_))));rw[(show(expr&&onTheHeap (Value.builtin "BaseException.__getattribute__"))=false from by cases expr<;>rfl),Zs ak];unfold boundAndCalled;rw[(PySem.F.attr_Exception.ga).bind (.ref x)];refine YT (Y7 (zbp ?_));refine codeAny_call_builtin (PySem.F.attr_Exception.ga).plain PySem.F.entry_bexc_ga (@check_slot (model prog w) _ _ _ "BaseException.__getattribute__" "BaseException" "__getattribute__" (.ref x) [.str name t] [] _ (by decide+kernel) (by decide+kernel) ((I.type (M:=model prog w)).andThen (looks_mroIn X h3)) (PySem.F.args_bexc_ga _ _) ?_);refine YT (Y7 (YT (Y7 (YT ((I.type (M:=model prog w)).at (YT ((looks_find (M:=model prog w) X I hf).at ?_)))))));refine Y7 ?_;show wpAny _ _ (handedOut v) _ _ _;rw[handedOut_of hh];exact Y7 h
end
end Mine
end
section
namespace Mine
open PySem PySem.W PyProof.Rows PySem.Calls
section
variable{W:SW}{C:Cx}{κ:Kn}{σ:St}{s:Shared}
theorem ik(h:M.new t o σ=some (res,σ')):res= .ok (.obj t (σ.heap t).length)/\σ'=σ.add t o:=sp h
theorem gM(r:a9 W C κ σ s m aw frs):∀p∈aw++frs,p.1<s.heap.objs.size:=λp hp=>ZZ (r.N p hp).1
theorem vT(hv:cH W κ vs us)(hl:Nat.ble vs.length ay=true)(R:bz W C κ σ s)(k:bE W C (λκ=>VR W κ) Q E (.ok (.obj t (σ.heap t).length)) κ (σ.add t (.list vs))):wpAny (model W.prog W.w) C.A (newList us) Q E s:=by
 (refine bi R λm aw frs r=>?_;clear R)
 refine newList_K r.F r.N (λl h' F' N' lo=>?_) (hv.length ▸ gf hl);refine dc (r.new (t:=t) (mo:= .list vs) (s':={s with heap:=h'}) F' N' lo (iO l us (0) (Kn.add_self) (.head _) (hv.mono (Kn.le_add (r.offEnd t false)))) rfl rfl) λle r'=>?_;exact k _ _ le _ (by exact(al l rfl (Kn.add_self))) (b6 m _ frs r')
theorem zt(hv:cH W κ vs us)(hl:vs.length<=sizeLine)(R:bz W C κ σ s)(k:bE W C (λκ=>VR W κ) Q E (.ok (.tup vs)) κ σ):wpAny (model W.prog W.w) C.A (newTuple us) Q E s:=by
 (refine bi R λm aw frs r=>?_;clear R)
 refine newTuple_N r.F r.N (λh' F' N'=>?_) (by(refine(hv.length) ▸?_);exact hl);obtain⟨le,r'⟩:=r.newTup (vs:=us) (s':={s with heap:=h'}) F' N' (gM r) ⟨rfl,rfl,_,rfl⟩ rfl rfl;exact k _ _ le _ (by exact(aY _ us rfl (ZU rfl) (hv.mono le))) (b6 m _ frs r')
theorem Gz:∀{vs:List V} {σ σ':St},kK ih xs σ=some (.ok vs,σ')->vs.length=xs.length:=by
 induction xs with
 |nil=>intro vs σ σ' h;refine dc (sp h) λe _=>?_;cases e;rfl
 |cons x xs i=>
  intro vs σ σ' h;refine bR (Iv h) λv ai _ h=>?_;refine bR (Iv h) λus bG h2 h=>?_;refine dc (sp h) λe _=>?_;cases e;exact YV Nat.succ (i h2)
theorem N9(hs:cm (λe x=>SndE W C e (ih.e x)) es xs)(gF:∀e∈es,∀rest,starEach (e::rest) C.env=(false,eval e C.env)::starEach rest C.env)(hn:xs.length<=1000):
  SndE W C (.Tuple es kk pos) (M.bind (kK ih xs) λvs=>M.pure (.tup vs)):=by
 intro κ σ res σ' h s Q E R k;refine Tuple_ ?_;refine bU.bindE (mw hs gF κ σ) h R k λam ai vs us aE h1 le hv ar ap k₁=>?_;obtain⟨rfl,rfl⟩:=ao ap;exact zt hv (by rw[Gz h1,sizeLine_eq];exact YU hn ak) ar k₁
theorem Kw(hs:cm (λe x=>SndE W C e (ih.e x)) es xs)(gF:∀e∈es,∀rest,starEach (e::rest) C.env=(false,eval e C.env)::starEach rest C.env):
  SndE W C (.List es pos) (M.bind (kK ih xs) λvs=>M.lst t vs):=by
 intro κ σ res σ' h s Q E R k;refine List_ ?_;refine bU.bind (mw hs gF κ σ) h R k λam ai vs us aE le hv ar ap k₁=>?_;obtain⟨hl,aS⟩:=cP ap;obtain⟨rfl,rfl⟩:=ik aS;exact vT hv hl ar k₁
def iW(e:Expr):Bool:=e.casesOn (λ_ _ _=>true) (λ_ _ _=>true) (λ_ _ _ _=>true) (λ_ _ _=>true) (λ_ _ _ _=>true) (λ_ _ _ _=>true) (λ_ _ _=>true) (λ_ _ _=>true) (λ_ _ _ _=>true) (λ_ _ _ _=>true) (λ_ _ _ _ _=>true) (λ_ _ _ _=>true) (λ_ _=>true) (λ_ _=>true) (λ_ _=>true) (λ_ _ _ _=>true) (λ_ es ks _=> !(es.isEmpty&&ks.isEmpty)) (λ_ _ _ _=>true) (λ_ _=>true) (λ_ _ _=>true) (λ_ _ _=>true) (λ_ _ _=>true) (λ_ _=>true) (λ_ _=>true) (λ_ _=>true) (λ_ _ _=>true) (λ_ _ _ _=>true)
theorem xU(h:iW o=true):attributeBase o x env w=w:=by
 cases o with
 |Call f es ks p=>
  cases f with
  |Name n q=>
   cases es with
   |cons _ _=>rfl
   |nil=>
    cases ks with
    |cons _ _=>rfl
    |nil=>exact nf h
  |_=>rfl
 |_=>rfl
theorem GM(h:iW o=true):eval (.Attribute o x pos) env=(do
  let v<-eval o env
  standAt pos.atName
  let r<-holding [v] (getAttr v x true)
  letTemporaryGo o v r
  pure r):=by
 rw[arm_eval_Attribute,xU h]
def Jc(K:Frag)(C:Addr)(x:Str):Bool:=(plainGet K C x||qq K C)&&(hasDictIn K C&&(findIn K (.ref C) x).any λa=>noGet K a)
theorem c6.nil(h:c6 W κ [] es):es= []:=h
theorem c6.cons(h:c6 W κ ((y,w)::fs) es):∃e r,es=e::r/\(∃t,e.key= .str (W.nm y) t)/\VR W κ w e.val/\c6 W κ fs r:=h
theorem pK{v:Value}(h:v= .str (W.nm y) t):v.isStr (W.nm x)=Nat.beq y x:=by
 subst h;refine cX (Nat.beq y x) (λe=>?_) λe=>?_
 ·rw[e];rw[YY e];exact zbl _
 ·rw[e];exact zag.mpr λq=>Z4 e (W.inj _ _ q)
theorem DM:∀{es:List DictEntry},c6 W κ fs es->aN x fs=some v->∃e,es.find? (·.key.isStr (W.nm x))=some e/\VR W κ v e.val:=by
 induction fs with
 |nil=>intro _ _ h;exact nt h
 |cons p fs i=>
  intro es hf h
  (refine cQ (c6.cons (y:=p.1) (w:=p.2) hf) λe r q3 q4 h2 h3=>?_;subst q3;obtain⟨t,hk⟩:=q4)
  rw[EC]at h
  (refine(zaU).symm ▸?_;refine(pK hk).symm ▸?_)
  cases hy:Nat.beq p.1 x with
  |true=>rw[hy]at h;exact(al e rfl (si h ▸ h2))
  |false=>rw[hy]at h;exact i h3 h
theorem Gr(hf:c6 W κ fs es)(h:aN x fs=some v):∃u,getL (W.nm x) es=some (some u)/\VR W κ v u:=by
 refine U (DM hf h) λe h1 h2=>?_;exact(al (e.val) (by unfold getL;(refine(h1).symm ▸ rfl)) h2)
theorem oz(h:VR W κ v u):handedIn u=true:=by
 cases v with
 |none=>rw[h.none];rfl
 |bool b=>rw[h.bool];rfl
 |int i=>obtain⟨t,rfl⟩:=h.int;rfl
 |str l=>obtain⟨t,rfl⟩:=h.str;rfl
 |tup vs=>(refine bR (h.tup) λa xs q3 _=>?_;subst q3);rfl
 |obj t i=>(refine U (h.obj) λa q2 _=>?_;subst q2);rfl
 |glob g=>(refine U h λa q2 _=>?_;clear h;subst q2);rfl
def xa(W:SW)(x:Nat):Prop:=∀c C,W.cls c=some C->W.P.meth c x=none->Jc W.K C (W.nm x)=true
theorem vj(R:bz W C κ σ s)(I:PySem.W.InstAt s.heap a ox Cc (some (dictOf es n)))(hf:c6 W κ fs es)(hx:Jc W.K Cc (W.nm x)=true)(hv:aN x fs=some v)(k:bE W C (λκ=>VR W κ) Q E (.ok v) κ σ):wpAny (model W.prog W.w) C.A (getAttr (.ref a) (W.nm x) true) Q E s:=by
 refine bi (id R) λm aw frs r=>?_;refine U (Gr hf hv) λu g1 g2=>?_;have x1:=an hx;have x2:=an x1.2;refine U (oa x2.2) λYM ha x3=>?_;rcases ZB.mp x1.1 with x1|x1
 ·exact get_own r.F W.X I x1 x2.1 ha x3 g1 (oz g2) (k.done g2 R.toks)
 ·exact Gy (W.X.keeps r.F.keep) I x1 (findObj_own x2.1 ha x3 g1) (oz g2) (k.done g2 R.toks)
theorem ES{o:Option β}(h:M.no o (M.opt m) σ=some r):o=none/\∃v,m=some v/\r=(.ok v,σ):=by
 refine dc (Mn h) λe h=>?_;cases m with
 |none=>exact nt h
 |some v=>exact⟨e,v,rfl,(si h).symm⟩
theorem xW(hx:xa W x)(h:M.attr W.P q x σ=some (res,σ'))(hq:VR W κ q a)(R:bz W C κ σ s)(k:bE W C (λκ=>VR W κ) Q E res κ σ'):wpAny (model W.prog W.w) C.A (getAttr a (W.nm x) true) Q E s:=by
 (refine cY (nE h) λt i o q4 ho g=>?_;subst q4)
 (refine U (hq.obj) λp q2 h1=>?_;subst q2)
 refine bi (id R) λm aw frs r=>?_;have N:=λx hx=>(r.N x (YQ _ hx)).1;cases o with
 |inst c fs=>
  obtain⟨hm,v,hv,e⟩:=ES g;obtain⟨rfl,rfl⟩:=zaR e;refine a8 (r.nr.obj ho) λCc a h0 h2 h3=>?_;obtain rfl:=si (h1.symm.trans h2);rcases h3 with⟨_,d,es,n,x1,x2,x3,x4⟩|⟨_,t,⟨rfl,_,_⟩|⟨d,es,n,x1,x2,x3,x4⟩⟩
  ·exact vj R ⟨N _ x2,rfl,rfl,N _ x3⟩ x4 (hx _ _ h0 hm) hv k
  ·exact nt hv
  ·exact vj R ⟨N _ x2,rfl,rfl,N _ x3⟩ x4 (hx _ _ h0 hm) hv k
 |caught c fs=>
  obtain⟨hm,v,hv,e⟩:=ES g;obtain⟨rfl,rfl⟩:=zaR e
  (refine cy ((r.nr.obj ho)) λCc a d es q=>?_;obtain⟨n,ob,h0,h2,h3,h4,⟨e1,e2,e3,vs,e4⟩,h6,h7⟩:=q)
  obtain rfl:=si (h1.symm.trans h2);exact vj R ⟨N _ h4,e1,by simp only[notCls,e4],by rw[e2];exact N _ h6⟩ h7 (hx _ _ h0 hm) hv k
 |_=>exact nt g
theorem Kz(hb:iW e=true)(hx:xa W x)(he:SndE W C e mx):SndE W C (.Attribute e (W.nm x) pos) (M.bind mx λv=>M.attr W.P v x):=by
 intro κ σ res σ' h s Q E R k;refine Attribute_any_ ?_ (GM hb);refine bU.bind (he κ σ) h R k λam ai v a aE le hv ar ap k₁=>?_;exact xW hx ap hv ar k₁
end
def r0(e:Expr):Bool:= !Nat.beq e.ctorIdx 26
theorem j4(h:r0 e=true)(o i:Value):subscripted e false o i=operate [o,i] (getItem o i):=by
 cases e<;>first|(cases h;done)|rfl
theorem F3:∀{n:Nat},nth l n=some a->l[n]? =some a:=by
 induction l with
 |nil=>intro n h;exact nt h
 |cons b l i=>
  intro n h;cases n with
  |zero=>exact h
  |succ n=>rw[List.getElem?_cons_succ];exact i h
theorem io(h:de i=some n):i=(n:Int)/\n<=1000:=by
 cases i with
 |negSucc _=>exact nt h
 |ofNat m=>
  have h:(match Nat.ble m ay with|true=>some m|false=>none)=some n:=h;refine uy (Nat.ble m ay) (λhb=>?_) λhb=>?_
  ·rw[hb]at h;exact nt h
  ·rw[hb]at h;exact⟨YV _ (si h),si h ▸ YX hb⟩
theorem BC(h:Li l k=some v):∃n:Nat,k= .int n/\n<=1000/\nth l n=some v:=by
 refine U (pg h) λi e g=>?_;refine U (ob g) λn hn g2=>?_;obtain⟨rfl,rv⟩:=io hn;exact(aM n e rv g2)
theorem BU{n len:Nat}(h:n<len):seqIndex? (n:Int) len=some n:=by
 unfold seqIndex?;simp only[(show¬((n:Int)<0)from by lia),if_false];simp only[(show(decide (0<=(n:Int))&&decide ((n:Int)<(len:Int)))=true from by simp;exact Nat.succ_le_of_lt ‹_›),if_true,Int.toNat_natCast]
section
variable{W:SW}{C:Cx}{κ:Kn}{σ:St}{s:Shared}
theorem Dz(hi:r0 slice=true)(hu:C.A.units+16<cLine)(ho:nth (σ.heap t) i=some (.dict kd es))(hk:gp kd y=true)(h:aO y es=some v)(h1:κ.at_ t i false=some p)(hb:VR W κ y b)(R:bz W C κ σ s)(k:bE W C (λκ=>VR W κ) Q E (.ok v) κ σ):wpAny (model W.prog W.w) C.A (subscriptTail value slice (.ref p) b) Q E s:=by
 refine bi (id R) λm aw frs r=>?_;refine aZ (pJ r ho h1 hk hb) λob hm D ka=>?_;have rm:=YQ frs hm;cases ka with
 |str l tt br e1 e2 x1 x2=>
  subst e1 e2;have g:=KV.look (K:=Str) (λa b=>RS.iff a b) (al l rfl rfl) x2;rw[h]at g;obtain⟨u,e,hv⟩:=g;exact kdt_tail r.N rm x1 (kdt_getItem r.N rm x1 (zaa _ _ _ _) e (k.done hv R.toks)) (j4 hi _ _)
 |int l tt br e1 e2 x1 x2=>
  subst e1 e2;have g:=KV.look (K:=Int) (λa b=>RI.iff a b) (show RI (.int l) l from rfl) x2;rw[h]at g;obtain⟨u,e,hv⟩:=g;exact kdt_tail r.N rm x1 (kdt_getItem r.N rm x1 (ZK _ _ _ _) e (k.done hv R.toks)) (j4 hi _ _)
 |tup bb kk xs hR e2 x0 x1 x2=>
  subst e2;have g:=KT.look hR x2;rw[h]at g
  (refine U g λu e hv=>?_;clear g)
  exact zbk x1.typeIs slot_dict_getitem.lookup (wpAny_getItem_heap (knd:=fb W.prog W.w) (Zp (by rw[Around.in1_units,ZF];exact Ze ak _) hu) x0 x1 e (k.done hv R.toks)) (j4 hi _ _)
theorem dh{n:Nat}(h:n<=1000):0<=(n:Int)/\(n:Int)<2^63:=⟨ZR n,zaE (ZI.mpr h) ak⟩
theorem qn{n:Nat}: -(2^63)<=(n:Int):=Zr ak (ZR n)
theorem Gj(hi:r0 slice=true)(hu:C.A.units+16<cLine)(h:itemOf σ.heap x y=some v)(ha:VR W κ x a)(hb:VR W κ y b)(R:bz W C κ σ s)(k:bE W C (λκ=>VR W κ) Q E (.ok v) κ σ):wpAny (model W.prog W.w) C.A (subscriptTail value slice a b) Q E s:=by
 cases x with
 |tup vs=>
  obtain⟨n,rfl,rv,h⟩:=BC h
  (refine eX (hb.int) λt q2=>?_;subst q2)
  (refine a8 (ha.tup) λp xs q3 h1 h2=>?_;subst q3)
  refine U (h2.nth h) λu LD hv=>?_;exact item_tupleT (R.isTup h1) qn (dh rv).2 (BU (h2.length ▸ pE h)) LD (k.done hv R) (j4 hi _ _)
 |str l=>
  (refine U (om h) λc hc q3=>?_;subst q3)
  obtain⟨n,rfl,rv,hc⟩:=BC hc
  (refine eX (hb.int) λt q2=>?_;subst q2)
  obtain⟨u,rfl⟩:=ha.str;refine zbk (typeIs_str s _ u) zbh.lookup (getItem_str (c:=c) ?_ ?_ (k.done (wH [c] _) R.toks)) (j4 hi _ _)
  ·exact zae.mpr ⟨Zx (zbK.mpr qn),Zx (zaN.mpr (dh rv).2)⟩
  ·(refine(show(⟨l.toArray⟩:Str).length=l.length from rfl).symm ▸?_;refine(BU (pE hc)).symm ▸?_)
   exact(List.getElem?_toArray ..).trans (F3 hc)
 |obj t i=>
  refine U (ob h) λo ho h=>?_
  (refine U (ha.obj) λp q2 h1=>?_;subst q2)
  cases o with
  |list vs=>
   refine hg λcg kg=>?_;obtain⟨n,rfl,rv,h⟩:=BC h
   (refine eX (hb.int) λt q2=>?_;subst q2)
   refine bi (id R) λm aw frs r=>?_;refine cY (r.nr.obj ho) λa' iK kk g1 g2 g3=>?_;obtain rfl:=si (h1.symm.trans g1);refine U (g3.nth h) λu LD hv=>?_;refine kg ?_;have hl:s.heap.IsList p iK.toArray:=⟨_,(r.N _ (YQ _ g2)).1,rfl,_,rfl⟩;exact zbk hl.typeIs PySem.F.slot_list_getitem.lookup (wpAny_getItem_list hl (dh rv).1 (dh rv).2 ((List.getElem?_toArray ..).trans LD) (k.done hv R)) (j4 hi _ _)
  |dict kd es=>
   obtain⟨hk,h⟩:=bX h;exact Dz hi hu ho hk h h1 hb R k
  |_=>exact nt h
 |_=>exact nt h
theorem Oa(hi:r0 i=true)(hu:C.A.units+16<cLine)(he:SndE W C e mx)(hy:SndE W C i my):SndE W C (.Subscript e i pos) (M.bind mx λx=>M.bind my λy=>M.item x y):=by
 intro κ σ res σ' h s Q E R k;refine Subscript_ ?_;refine bU.bind (he κ σ) h R k λam ai x a aE le hx ar ap k₁=>?_;refine bU.bind (hy am ai) ap ar k₁ λbK bG y b c8 aX hy bD aS dP=>?_
 (refine aZ (ij aS) λv hv q3 q4=>?_;subst q3;subst q4)
 exact Gj hi hu hv (hx.mono aX) hy bD dP
end
noncomputable def L6 (K:Frag) (C:Addr) (x:Str):Bool:=findIn K (.ref C) "__setattr__"==some (some (.builtin "object.__setattr__"))&&(plainOver K C&&(takerIn K C x==some none&&hasDictIn K C))
section
variable{W:SW}{C:Cx}{κ:Kn}{σ:St}{s:Shared}
theorem oX:∀{es:List DictEntry},c6 W κ fs es->es.any (·.refKey)=false:=by
 induction fs with
 |nil=>intro es h;rw[h.nil];rfl
 |cons p fs i=>
  intro es h
  (refine cQ (c6.cons (y:=p.1) (w:=p.2) h) λe r q3 q4 _ h3=>?_;subst q3;obtain⟨t,hk⟩:=q4)
  rw[zbi,i h3,zbF];unfold DictEntry.refKey;rw[hk]
theorem sW(h:c6 W κ fs es):(getL x es).isSome=true:=by
 unfold getL;split
 ·rfl
 ·(refine(oX h).symm ▸?_);rfl
theorem kw(h1:∃t,e.key= .str (W.nm y) t)(h2:VR W κ w e.val)(h3:c6 W κ fs r):c6 W κ ((y,w)::fs) (e::r):=by
 exact(ci e r rfl h1 h2 h3)
theorem lJ(hv:VR W κ v u):∀{es:List DictEntry},c6 W κ fs es->c6 W κ (putN x v fs) (putL (W.nm x) hsh (.str (W.nm x) t) u es):=by
 induction fs with
 |nil=>intro es h;rw[h.nil];exact kw ⟨t,rfl⟩ hv (by rfl)
 |cons p fs i=>
  intro es h
  (refine cQ (c6.cons (y:=p.1) (w:=p.2) h) λe r q3 q4 h2 h3=>?_;subst q3;obtain⟨t',hk⟩:=q4)
  rw[O6];unfold putL;refine cX (Nat.beq p.1 x) (λhy=>?_) λhy=>?_
  ·rw[hy];rw[ZU ((pK (x:=x) hk).trans hy)];exact kw ⟨t',hk⟩ hv h3
  ·rw[hy];rw[Zs (Bool.eq_false_iff.mp ((pK (x:=x) hk).trans hy))];exact kw ⟨t',hk⟩ h2 (i h3)
theorem xL:∀{es:List DictEntry},c6 W κ fs es->es.length=fs.length:=by
 induction fs with
 |nil=>intro es h;(refine(h.nil).symm ▸?_);rfl
 |cons p fs i=>
  intro es h
  (refine cQ (c6.cons (y:=p.1) (w:=p.2) h) λe r q3 _ _ h3=>?_;subst q3)
  exact YV Nat.succ (i h3)
theorem sy:(Mine.putN x v fs).length<=fs.length+1:=by
 induction fs with
 |nil=>exact Zd _
 |cons p fs i=>
  rw[O6];cases Nat.beq p.1 x with
  |true=>exact Zy _
  |false=>exact ZC i
def iI:Kn->Unit->Unit->Prop:=λ_ _ _=>True
theorem ig(h:M.put t i o σ=some (res,σ')):res= .ok ()/\σ'=σ.put t i o:=sp h
def w8(W:SW)(x:Nat):Prop:=∀c C,W.cls c=some C->W.P.isExc c=false->L6 W.K C (W.nm x)=true
def mC(W:SW)(x:Nat):Prop:=∀(C:Cx) (κ:Kn) (σ:St) (s:Shared) (t i c:Nat) (fs:List (Nat×V)) (v:V) (p:Addr) (u:Value) (Q:Unit->Shared->Prop) (E:Value->Shared->Prop),W.P.isExc c=true->jF c x=true->
 nth (σ.heap t) i=some (.inst c fs)->κ.at_ t i false=some p->VR W κ v u->fs.length<=500->bz W C κ σ s->bE W C iI Q E (.ok ()) κ (σ.put t i (.inst c (Mine.putN x v fs)))->wpAny (model W.prog W.w) C.A (setAttr (.ref p) (W.nm x) u) Q E s
theorem mW(hx:w8 W x)(he:mC W x)(h:M.setAttr q x v σ=some (res,σ'))(hq:VR W κ q a)(hv:VR W κ v u)(R:bz W C κ σ s)(k:bE W C iI Q E res κ σ'):wpAny (model W.prog W.w) C.A (setAttr a (W.nm x) u) Q E s:=by
 refine hg λcg kg=>?_;(refine cY (nE h) λt i o q4 ho g=>?_;subst q4)
 (refine U (hq.obj) λp q2 h1=>?_;subst q2)
 (refine bR (HM g) λc fs q3 g=>?_;subst q3)
 obtain⟨hl,g⟩:=cP g;obtain⟨rfl,rfl⟩:=ig g;refine kg ?_;cases hc:W.P.isExc c with
 |true=>exact he C κ σ s t i c fs v p u Q E hc (an hl).2 ho h1 hv (YX (an hl).1) R k
 |false=>
  refine bi (id R) λm aw frs r=>?_;refine a8 (r.nr.obj ho) λCc a h0 h2 h3=>?_;obtain rfl:=si (h1.symm.trans h2);rcases h3 with⟨_,d,es,n,x1,x2,x3,x4⟩|⟨e,_⟩
  ·skip;have N:=λx hx=>(r.N x (YQ _ hx)).1;refine set_dict (dx:=d) r.F W.X r.N ⟨N _ x2,rfl,rfl,N _ x3⟩ rfl (eq_of_beq (an (hx _ _ h0 hc)).1) (an (an (hx _ _ h0 hc)).2).1 (eq_of_beq (an (an (an (hx _ _ h0 hc)).2).2).1) (an (an (an (hx _ _ h0 hc)).2).2).2 (sW x4) rfl (po _ r.nd (YQ _ x3)) (xL (lJ hv x4) ▸ YU sy (YU (ZC (YX (an hl).1)) ak)) λh' F' N'=>?_
   exact k.done (a:=()) trivial (b6 m _ frs ((r.put (t:=t) (i:=i) (b:=true) (d:=d) (mo:= .inst c (Mine.putN x v fs)) (s':={s with heap:=h',toks:=s.toks+2}) x1 x3 (by show Value.type "dict"≠Value.type "tuple";decide) F' N'
    (aY Cc p h0 h1 (.inl ⟨hc,d,_,_,x1,bP x2 (show p≠d fromλe=>ng (r.nr.inj x1 (e ▸ h1)).2.2),aH (aU x3),lJ hv x4⟩)) rfl rfl)))
  ·rw[hc]at e;exact nf e
end
section
variable{W:SW}{C:Cx}{κ:Kn}{σ:St}{s:Shared}
theorem C8:∀{n:Nat},n<l.length->ki_setL l n v=some (l.set n v):=by
 induction l with
 |nil=>intro n h;exact absurd h (zaT _)
 |cons a l i=>
  intro n h;cases n with
  |zero=>rfl
  |succ n=>unfold ki_setL;rw[i (zbt h)];rfl
theorem QT(low:(a==sysModules)=false)(h:∃br,o.IsDictOf (PySem.strKind W.prog W.w) br/\KV RS (VR W κ) es br):eK W κ 1 es a o:=⟨low,λe=>(nomatch e),λ_=>h,λe=>absurd e ak,λe=>absurd e ak⟩
theorem Uj(low:(a==sysModules)=false)(h:∃br,o.IsDictOf (PySem.intKind W.prog W.w) br/\KV RI (VR W κ) es br):eK W κ 2 es a o:=⟨low,λe=>(nomatch e),λe=>absurd e ak,λ_=>h,λe=>absurd e ak⟩
theorem XZ(low:(a==sysModules)=false)(h:∃xs,lN W o xs/\KT (VR W κ) es xs):eK W κ 3 es a o:=⟨low,λe=>(nomatch e),λe=>absurd e ak,λe=>absurd e ak,λ_=>h⟩
theorem Bl:Value.type "list"≠Value.type "tuple":=by decide
theorem wY:Value.type "dict"≠Value.type "tuple":=by decide
theorem lK{K:Type} [DecidableEq K]{knd:PySem.KeyKind W.prog W.w K}{br:List (K×Value)}{o:Obj}(x1:o.IsDictOf knd br):o.cls≠ .type "tuple":=by
 (refine bR x1 λ_ _ hx _=>?_;clear x1)
 rw[hx.1];exact wY
theorem xP{K:Type} [DecidableEq K]{knd:PySem.KeyKind W.prog W.w K}{br:List (K×Value)}{o:Obj}(x1:o.IsDictOf knd br):(br.map (·.1)).Nodup:=by
 (refine nK x1 λ_ _ _ _ _ _ z=>?_;clear x1)
 exact z
theorem vK(g:(M.oI kk λj=>M.of (de j) λn=>M.gd (Nat.blt n vs.length) (M.put t i (.list (setNth v vs n)))) σ=some (res,σ'))(ho:nth (σ.heap t) i=some (.list vs))(h1:κ.at_ t i false=some p)(hk:VR W κ kk ku)(hv:VR W κ v u)(R:bz W C κ σ s)(k:bE W C iI Q E res κ σ'):wpAny (model W.prog W.w) C.A (setItem (.ref p) ku u) Q E s:=by
 refine hg λcg kg=>?_;refine bi (id R) λm aw frs r=>?_
 (refine U (Ba g) λj q2 g=>?_;subst q2)
 refine U (gH g) λn hn g=>?_;obtain⟨hl,g⟩:=cP g;obtain⟨rfl,rfl⟩:=ig g;obtain⟨rfl,rv⟩:=io hn;obtain⟨tt,rfl⟩:=hk.int;refine cY (r.nr.obj ho) λa' iK kk g1 g2 g3=>?_;obtain rfl:=si (h1.symm.trans g1);refine kg ?_;refine ki_set (q:=iK.set n u) r.F r.N (dh rv).1 (dh rv).2 (C8 (g3.length ▸ YX hl)) (po _ r.nd (YQ _ g2)) λh' F' N'=>?_;exact k.done (a:=()) trivial (b6 m _ frs ((r.put (t:=t) (i:=i) (b:=false) (d:=p) (mo:= .list (setNth v vs n)) (s':={s with heap:=h'}) h1 g2 Bl F' N' (iO p (iK.set n u) kk h1 (aH (aU g2)) (g3.setNth n hv)) rfl rfl)))
theorem vM(hu:C.A.units+16<cLine)(ef:es.length<=sizeLine)(Xg:gp kd kk=true)(ho:nth (σ.heap t) i=some (.dict kd es))(h1:κ.at_ t i false=some p)(hk:VR W κ kk ku)(hv:VR W κ v u)(R:bz W C κ σ s)(k:bE W C iI Q E (.ok ()) κ (σ.put t i (.dict (cO kk) (eW kk v es)))):wpAny (model W.prog W.w) C.A (setItem (.ref p) ku u) Q E s:=by
 refine bi (id R) λm aw frs r=>?_;refine aZ (pJ r ho h1 Xg hk) λob hm D ka=>?_;have rm:=YQ frs hm;cases ka with
 |str l tt br e1 e2 x1 x2=>
  subst e1 e2;refine kda_set r.F r.N (ju r.nd rm) x1 (zaa _ _ _ _) (by rw[<-x2.length];exact ef) λh' o' F' N' nu=>?_
  exact k.done (a:=()) trivial (b6 m _ frs (r.put (t:=t) (i:=i) (b:=false) (d:=p) (o':=o') (mo:= .dict 1 (eW (.str l) v es)) (s':={s with heap:=h',toks:=s.toks+1}) h1 hm (lK x1) F' N'
   (aY p o' h1 (aH (aU hm)) (QT D.low (al _ nu (KV.put (K:=Str) (λa b=>RS.iff a b) (al l rfl rfl) hv (xP x1) x2)))) rfl rfl))
 |int l tt br e1 e2 x1 x2=>
  subst e1 e2;refine kda_set r.F r.N (ju r.nd rm) x1 (ZK _ _ _ _) (by rw[<-x2.length];exact ef) λh' o' F' N' nu=>?_
  exact k.done (a:=()) trivial (b6 m _ frs (r.put (t:=t) (i:=i) (b:=false) (d:=p) (o':=o') (mo:= .dict 2 (eW (.int l) v es)) (s':={s with heap:=h',toks:=s.toks+1}) h1 hm (lK x1) F' N'
   (aY p o' h1 (aH (aU hm)) (Uj D.low (al _ nu (KV.put (K:=Int) (λa b=>RI.iff a b) (show RI (.int l) l from rfl) hv (xP x1) x2)))) rfl rfl))
 |tup bb kT xs hR e2 x0 x1 x2=>
  subst e2;have nt:ob.cls≠ .type "tuple":=by
   (refine cY x1 λWi _ _ ru hx _=>?_;clear x1)
   obtain rfl:=si (ru.symm.trans (r.N _ rm).1);rw[hx.1];exact wY
  have nd:(xs.map (·.1)).Nodup:=by(refine bi x1 λ_ _ _ q=>?_;skip);exact q.2.2.2.2.2
  refine wpAny_setItem_heap (knd:=fb W.prog W.w) (Zp (by rw[Around.in1_units,ZF];exact Ze ak _) hu) x0 x1 (λh' nu iD=>?_) (by rw[<-x2.length];exact ef)
  (refine bi nu λo' Ld ep q=>?_;skip)
  refine cQ ((ju r.nd rm).split) λpre post e1 e2 ea eb=>?_
  exact k.done (a:=()) trivial (b6 m _ frs ((r.put (t:=t) (i:=i) (b:=false) (d:=p) (o':=o') (mo:= .dict (cO kk) (eW kk v es)) (s':={s with heap:=h',toks:=s.toks+(fb W.prog W.w).draws kT}) h1 hm nt (r.F.change iD (r.N _ rm).2.1 (r.N _ rm).2.2) (by
   rw[e2 o'];have N0:=r.N;rw[e1]at N0;exact N0.setIn ea eb iD q.1)
   (aY p o' h1 (aH (aU hm)) (hR.1.symm ▸ XZ D.low (al _ (ci Ld ep q.2.1 q.2.2.1 q.2.2.2.1 q.2.2.2.2.2) (KT.put hR hk hv nd x2)))) rfl rfl)))
theorem vL(hu:C.A.units+16<cLine)(h:M.setItem q kk v σ=some (res,σ'))(hq:VR W κ q a)(hk:VR W κ kk ku)(hv:VR W κ v u)(R:bz W C κ σ s)(k:bE W C iI Q E res κ σ'):wpAny (model W.prog W.w) C.A (setItem a ku u) Q E s:=by
 (refine cY (nE h) λt i o q4 ho g=>?_;subst q4)
 (refine U (hq.obj) λp q2 h1=>?_;subst q2)
 cases o with
 |list vs=>exact vK g ho h1 hk hv R k
 |dict kd es=>
  refine hg λcg kg=>?_;obtain⟨hb,g⟩:=cP g;obtain⟨rfl,rfl⟩:=ig g;refine kg ?_;exact vM hu (gf (an hb).1) (an hb).2 ho h1 hk hv R k
 |_=>exact nt g
end
def iF(e:Expr):Bool:= !(Nat.ble 8 e.ctorIdx&&Nat.ble e.ctorIdx 10)
theorem jM(h:iF e=true):swapsWith e t n env=pure false:=by
 cases e<;>first|(cases h;done)|rfl
section
variable{W:SW}{C:Cx}{κ:Kn}{σ:St}{s:Shared}
theorem wp(h:M.bindN x v σ=some (res,σ')):res= .ok ()/\σ'=σ.setE (Mine.putN x v σ.env):=sp h
theorem fy(hk:C.scope.kind= .function)(hl:C.scope.names.lookup (W.nm x)=some .local)(h:M.bindN x v σ=some (res,σ'))(hv:VR W κ v u)(R:bz W C κ σ s)(k:bE W C iI Q E res κ σ'):wpAny (model W.prog W.w) C.A (storeName C.env (W.nm x) u) Q E s:=by
 refine hg λcg kg=>?_;(refine dc (wp h) λq1 q2=>?_;subst q1;subst q2)
 (refine bi R λm aw frs r=>?_;clear R)
 refine kg ?_;refine stN r.F r.N (λh' F' N'=>?_) hk hl;exact k.done (a:=()) trivial (b6 _ aw frs (r.store (s':={s with heap:=h',toks:=s.toks+1}) hv F' N' rfl rfl))
def yQ(W:SW)(C:Cx)(t:Expr)(f:V->M Unit):Prop:=∀κ σ v u,VR W κ v u->bU W C κ σ (PySem.assign t C.env u) (f v σ) iI
theorem EH.mono(le:κ.Le cK)(h:EH W κ f g):EH W cK f g:=by
 cases f with
 |next=>exact h
 |ret v=>(refine U h λu e hv=>?_;clear h);exact(al u e (hv.mono le))
theorem bU.next(h:bU W C κ σ t (m σ) iI)(hr:M.bind m (λ_=>M.pure Fl.next) σ=some (res,σ'))(R:bz W C κ σ s)(k:bE W C (EH W) Q E res κ σ'):wpAny (model W.prog W.w) C.A t (λ_=>Q .next) E s:=by
 refine bU.bind h hr R k λam ai _ _ aE le _ ar ap k₁=>?_;obtain⟨rfl,rfl⟩:=ao ap;exact k₁.done rfl ar
theorem JQ(hk:C.scope.kind= .function)(hl:C.scope.names.lookup (W.nm x)=some .local)(hv:iF e=true)(he:SndE W C e mx):
  SndS W C (.Assign [.Name (W.nm x) p1] e p2) (M.bind mx λv=>M.bind (M.bindN x v) λ_=>M.pure .next):=by
 intro κ σ res σ' h s Q E R k;refine wpAny_Assign_Name ?_ (jM hv);refine bU.bind (he κ σ) h R k λam ai v u aE le hv ar ap k₁=>?_;exact bU.next (λ_ _ h _ _ _ R k=>fy hk hl h hv R k) ap ar k₁
theorem JR(hx:w8 W x)(yq:mC W x)(hv:iF e=true)(he:SndE W C e mx)(ho:SndE W C o mo):
  SndS W C (.Assign [.Attribute o (W.nm x) p1] e p2) (M.bind mx λv=>M.bind (M.bind mo λa=>M.setAttr a x v) λ_=>M.pure .next):=by
 intro κ σ res σ' h s Q E R k;refine plainObj_wpAny_Assign_Attribute ?_ (jM hv);refine bU.bind (he κ σ) h R k λam ai v u aE le hv ar ap k₁=>?_;rw[dG]at ap;refine bU.bind (ho am ai) ap ar k₁ λbK bG q a c8 aX hq bD aS dP=>?_;exact bU.next (λ_ _ h _ _ _ R k=>mW hx yq h hq (hv.mono aX) R k) aS bD dP
theorem JP(hu:C.A.units+16<cLine)(hv:iF e=true)(he:SndE W C e mx)(ho:SndE W C o mo)(hi:SndE W C i mi):
  SndS W C (.Assign [.Subscript o i p1] e p2) (M.bind mx λv=>M.bind (M.bind mo λa=>M.bind mi λk=>M.setItem a k v) λ_=>M.pure .next):=by
 intro κ σ res σ' h s Q E R k;refine wpAny_Assign_Subscript ?_ (jM hv);refine bU.bind (he κ σ) h R k λam ai v u aE le hv ar ap k₁=>?_;rw[dG]at ap;refine bU.bind (ho am ai) ap ar k₁ λbK bG q a c8 aX hq bD aS dP=>?_;rw[dG]at aS;refine bU.bind (hi bK bG) aS bD dP λjj og kv ku pc dv Xf lc fq uP=>?_;exact bU.next (λ_ _ h _ _ _ R k=>vL hu h (hq.mono dv) Xf ((hv.mono aX).mono dv) R k) fq lc uP
theorem JL(Xk:interactive C.env=false)(hv:iF e=true)(he:SndE W C e mx):SndS W C (.Expr e pos) (M.bind mx λ_=>M.pure .next):=by
 intro κ σ res σ' h s Q E R k;refine wpAny_Expr_any ?_ Xk (jM hv);refine bU.bind (he κ σ) h R k λam ai v u aE le hv ar ap k₁=>?_;obtain⟨rfl,rfl⟩:=ao ap;exact k₁.done rfl ar
theorem Nh(he:SndE W C e mx):SndS W C (.Return (some e) pos) (M.bind mx λv=>M.pure (.ret v)):=by
 intro κ σ res σ' h s Q E R k;refine wpAny_Return_some ?_;refine bU.bind (he κ σ) h R k λam ai v u aE le hv ar ap k₁=>?_;obtain⟨rfl,rfl⟩:=ao ap;exact k₁.done (al u rfl hv) ar
theorem JH:SndS W C (.Return none pos) (M.pure (.ret .none)):=by
 intro κ σ res σ' h s Q E R k;obtain⟨rfl,rfl⟩:=ao h;exact wpAny_Return_none (k.done (al _ rfl j3) R)
theorem Cu(hv:ow o x y=some v)(ha:VR W κ x a)(hb:VR W κ y b)(R:bz W C κ σ s)(k:bE W C (λκ=>VR W κ) Q E (.ok v) κ σ):wpAny (model W.prog W.w) C.A (inplaceOp (EA o) a b) Q E s:=by
 (refine U (pg hv) λi q2 h=>?_;subst q2)
 (refine U (pg h) λj q2 h2=>?_;subst q2)
 (refine U (om h2) λc g q3=>?_;subst q3)
 obtain⟨t,rfl⟩:=ha.int;obtain⟨u,rfl⟩:=hb.int;cases o with
 |add=>obtain rfl:=si g;exact PyProof.Rows.iadd_int (k.done (eH _ _) R.toks)
 |sub=>obtain rfl:=si g;exact PyProof.Rows.isub_int (k.done (eH _ _) R.toks)
 |_=>exact nt g
theorem Dt(h:M.bind (M.loc x) f σ=some r):∃v,aN x σ.env=some v/\f v σ=some r:=by
 unfold M.bind M.loc at h;refine dI (aN x σ.env) (λhx=>?_) λv hx=>?_
 ·rw[hx]at h;exact nt h
 ·(refine(hx).symm ▸?_);rw[hx]at h;exact(al v rfl h)
theorem JM(hk:C.scope.kind= .function)(hl:C.scope.names.lookup (W.nm x)=some .local)(he:SndE W C e mx):
  SndS W C (.AugAssign (.Name (W.nm x) p1) (EA o) e p2) (M.bind (M.loc x) λa=>M.bind mx λb=>M.bind (M.opt (ow o a b)) λv=>M.bind (M.bindN x v) λ_=>M.pure .next):=by
 intro κ σ res σ' h s Q E R k;refine wpAny_AugAssign_Name ?_;refine U (Dt h) λa ha h=>?_;refine bi (id R) λm aw frs r=>?_;refine U (r.env x a ha) λu hu WP=>?_;refine ldn r.F hu ?_ hk hl;refine bU.bind (he κ σ) h R k λam ai b w aE le hb ar ap k₁=>?_;refine U (jH ap) λv hv aS=>?_;exact Cu hv (WP.mono le) hb ar λbK c8 aX y hy bD=>bU.next (λ_ _ h _ _ _ R k=>fy hk hl h hy R k) aS bD (k₁.mono aX)
theorem zY{res:R Fl}(h:M.bind (M.attr W.P q x) f σ=some (res,σ')):∃v,M.attr W.P q x σ=some (.ok v,σ)/\f v σ=some (res,σ'):=by
 unfold M.bind at h;refine dI (M.attr W.P q x σ) (λha=>?_) λp ha=>?_
 ·rw[ha]at h;exact nt h
 ·
  (refine(ha).symm ▸?_)
  obtain⟨v,rfl⟩:=(show∃v,p=(.ok v,σ)from by
   (refine cY (nE ha) λt i o q4 ho g=>?_;subst q4)
   cases o with
   |inst c fs=>obtain⟨_,v,_,e⟩:=ES g;exact⟨v,e⟩
   |caught c fs=>obtain⟨_,v,_,e⟩:=ES g;exact⟨v,e⟩
   |_=>exact nt g)
  rw[ha]at h;exact(al v rfl h)
theorem JN{ob e:Expr}(hf:xa W x)(hx:w8 W x)(yq:mC W x)(ru:SndE W C ob mo)(he:SndE W C e mx):
  SndS W C (.AugAssign (.Attribute ob (W.nm x) p1) (EA o) e p2) (M.bind mo λq=>M.bind (M.attr W.P q x) λu=>M.bind mx λb=>M.bind (M.opt (ow o u b)) λv=>M.bind (M.setAttr q x v) λ_=>M.pure .next):=by
 intro κ σ res σ' h s Q E R k;refine wpAny_AugAssign_AttributeAny ?_;refine bU.bind (ru κ σ) h R k λam ai q a aE le hq ar ap k₁=>?_;refine U (zY ap) λu hu ap=>?_;refine xW hf hu hq ar λbK c8 aX y hy bD=>?_;refine bU.bind (he bK ai) ap bD (k₁.mono aX) λjj og b w pc dv hb lc fq uP=>?_;refine U (jH fq) λv hv yG=>?_;exact Cu hv (hy.mono dv) hb lc λHk Rb wQ z hz yR=>bU.next (λ_ _ h _ _ _ R k=>mW hx yq h (((hq.mono aX).mono dv).mono wQ) hz R k) yG yR (uP.mono wQ)
theorem dk:∀{ss:List Stmt},cm (λe x=>SndS W C e (ih.s x)) ss xs->∀κ σ,bU W C κ σ (PySem.execs ss C.env) (Mine.execs ih xs σ) (EH W):=by
 induction xs with
 |nil=>
  intro ss h;cases ss with
  |cons _ _=>exact h.elim
  |nil=>
   intro κ σ res σ' h s Q E R k;obtain⟨rfl,rfl⟩:=ao h;exact zby (k.done rfl R)
 |cons x xs i=>
  intro ss h;cases ss with
  |nil=>exact h.elim
  |cons st ss=>
   intro κ σ res σ' h' s Q E R k;refine wpAny_execs_cons ?_;refine bU.bind (h.1 κ σ) h' R k λam ai f g aE le hf ar ap k₁=>?_;cases f with
   |next=>
    subst hf;exact i h.2 am ai _ _ ap _ _ _ ar k₁
   |ret v=>
    refine hg λcg kg=>?_;obtain⟨rfl,rfl⟩:=ao ap
    (refine U hf λu q2 hv=>?_;clear hf;subst q2)
    refine kg ?_;exact k₁.done (al u rfl hv) ar
theorem Rf(hc:SndT W C c mc)(hb:cm (λe x=>SndS W C e (ih.s x)) b xb)(ho:cm (λe x=>SndS W C e (ih.s x)) o xo):
  SndS W C (.If c b o pos) (M.bind mc λt=>match t with|true=>Mine.execs ih xb|false=>Mine.execs ih xo):=by
 intro κ σ res σ' h s Q E R k;refine wpAny_If ?_;refine bU.bind (hc κ σ) h R k λam ai t t' aE le ht ar ap k₁=>?_;subst ht;cases t with
 |true=>exact dk hb am ai _ _ ap _ _ _ ar k₁
 |false=>exact dk ho am ai _ _ ap _ _ _ ar k₁
end
theorem m0:∀{ns:List Str} {us:List Value} {n:Str},ns.length=us.length->n∈ns->((ns.zip us).lookup n).isNone=false
 | [],_,_,_,h=>nomatch h
 |a::ns, [],_,hl,_=>by simp at hl
 |a::ns,u::us,n,hl,h=>by
  dsimp only[List.zip_cons_cons,List.lookup_cons];by_cases e:n=a
  ·subst e;simp
  ·skip
   (refine((show(n==a)=false from by simpa using e)).symm ▸?_)
   exact m0 (by simpa using hl) (by rcases YS.mp h with q|q;exact absurd q e;exact q)
theorem nh{α β:Type}{f g:α->Option β}:∀{l:List α},(∀x∈l,f x=g x)->l.filterMap f=l.filterMap g:=by
 intro l
 induction l with
 |nil=>intro _;exact rfl
 |cons a l ih=>
  intro h;rw[zbC,zbC,h a (.head _),ih λx hx=>h x (.tail _ hx)]
theorem CJ:∀{ns:List Str} {us:List Value},ns.Nodup->ns.length=us.length->ns.filterMap (λn=>((ns.zip us).lookup n).map (n,·))=ns.zip us:=by
 intro ns
 induction ns with
 |nil=>intros;rfl
 |cons a ns i=>
  intro us hn hl;cases us with
  |nil=>cases hl
  |cons u us=>
  rw[Zc]at hn;have ih:=i hn.2 (zaW hl);rw[zbC,(show(((a::ns).zip (u::us)).lookup a).map (a,·)=some (a,u)from by simp)];simp only[List.zip_cons_cons];congr 1
  (refine(ih) ▸?_)
  refine nh λn hm=>?_
  simp only[ih,zbm,(show(n==a)=false from by
   rw[zag];rintro rfl;exact hn.1 hm)]
theorem zX(h1:fd.params.posonlyargs= [])(h2:fd.params.vararg=none)(h3:fd.params.kwonlyargs= [])(h4:fd.params.kwarg=none)(h5:fd.defaults= .none)(h6:fd.params.args.map (·.arg)=ns)(hg:¬(decide (us.length>ns.length)&&true)=true)(hm:(!((ns.take (ns.length - 0)).filter λn=>((ns.zip us).lookup n).isNone).isEmpty)≠true)(hz:(ns++ []).filterMap (λn=>((ns.zip us).lookup n).map (n,·))=ns.zip us):
  bindArgs fd ⟨us, []⟩=pure (ns.zip us):=by
 obtain⟨f1,f2,⟨p1,p2,p3,p4,p5,p6,p7⟩,f4,f5,f6,f7,f8,f9⟩:=fd;subst h1 h2 h3 h4 h5;unfold bindArgs;dsimp only
 (refine(h6).symm ▸?_)
 refine(Zs hg).trans ?_
 (refine(show List.drop ((none.getD (#[]:Array Value)).toList.length - (List.map (λ(x:Arg)=>x.arg) []++ns).length) (none.getD (#[]:Array Value)).toList= []from List.drop_nil).symm ▸?_)
 refine(Zs hm).trans ?_
 (refine(List.zip_nil_right).symm ▸?_)
 exact YV (Pure.pure (f:=Sem)) hz
theorem wo(h1:fd.params.posonlyargs= [])(h2:fd.params.vararg=none)(h3:fd.params.kwonlyargs= [])(h4:fd.params.kwarg=none)(h5:fd.defaults= .none)(hn:(fd.params.args.map (·.arg)).Nodup)(hl:fd.params.args.length=us.length):
  bindArgs fd ⟨us, []⟩=pure ((fd.params.args.map (·.arg)).zip us):=by
 have hl:(fd.params.args.map (·.arg)).length=us.length:=by rw[Zu];exact hl
 refine zX h1 h2 h3 h4 h5 rfl ?_ ?_ ?_
 ·rw[hl,Zx (ZX _)];decide
 ·rw[Nat.sub_zero,List.take_length,List.filter_eq_nil_iff.mpr λn hn=>by rw[m0 hl hn];decide];decide
 ·rw[Zb];exact CJ hn hl
structure MU(W:SW)(fn:Fn)(a:Addr)(body:List Stmt)(scope:Scope)(qual:Str)(cd:Value):Prop where
 at_:∃oc od PW name params kV doc pm an ct,W.K.lookup a=some ⟨oc,od, .func (fnOf name qual params body scope .none kV doc pm an cd ct),PW⟩/\params.posonlyargs= []/\params.vararg=none/\params.kwonlyargs= []/\params.kwarg=none/\params.args.map (·.arg)=fn.params.map W.nm
 code:codeIn W.K cd qual=true
 co:scope.isCoroutine=false
 gen:scope.isGenerator=false
 kind:scope.kind= .function
 cells:∀x∈scope.names,x.2≠ .cell
 loc:∀x∈fn.params,scope.names.lookup (W.nm x)=some .local
 nodup:fn.params.Nodup
def dg(C:Cx)(m:Str->Option Value)(L a:Addr)(scope:Scope)(qual:Str)(cd:Value):Cx:=
 {A:=C.A.deeper (envOf qual scope L a cd),outer:=C.env::C.outer,outs:=(C.L,iz.fr m)::C.outs,name:=qual,scope:=scope,L:=L,a:=a,cd:=cd}
theorem fI(h:C.Ok (n+1))(hk:scope.kind= .function):(dg C m L a scope qual cd).Ok n where
 frames:=Around.frames_deeper h.frames
 kind:=hk
 depth:=PB h.depth ak
 units:=PB h.units ak
 calm:=h.calm
 outs:=by
  intro env he;rcases YS.mp he with rfl|he
  ·exact⟨by show C.scope.kind≠ .module;rw[h.kind];decide,C.L,m,rfl, .head _⟩
  ·obtain⟨h1,a,m',h2,h3⟩:=h.outs env he;exact⟨h1,a,m',h2, .tail _ h3⟩
def xZ(W:SW):Prop:=∀(C:Cx) (n:Nat) (κ:Kn) (σ:St) (m:Str->Option Value) (L a:Addr) (scope:Scope) (qual:Str) (cd:Value) (je:Bool) (sx ix cx:Nat) (e:Value) (s:Shared) (kU:List (Nat×V)) (Q:Unit->Shared->Prop) (E:Value->Shared->Prop),
 C.Ok (n+1)->W.base.objs.size<=C.L->scope.kind= .function->rK W κ kU m->pi W (dg C m L a scope qual cd) κ σ je sx ix cx e s->
 (∀s',pi W C κ (σ.setE kU) true sx ix cx e s'->Q () s')->
 wpAny (model W.prog W.w) (dg C m L a scope qual cd).A (leaving (dg C m L a scope qual cd).env e) Q E s
section
variable{W:SW}{C:Cx}{κ:Kn}{σ:St}{s:Shared}
theorem J3:(W.nm x==W.nm p)=Nat.beq p x:=by
 refine cX (Nat.beq p x) (λe=>?_) λe=>?_
 ·rw[e];rw[YY e];exact zbl _
 ·rw[e];exact zag.mpr λq=>Z4 e (W.inj _ _ q).symm
theorem CK:∀{vs:List V} {us:List Value} {env:List (Nat×V)},pb ps vs=some env->cH W κ vs us->ps.length=us.length/\∀x v,aN x env=some v->∃u,((ps.map W.nm).zip us).lookup (W.nm x)=some u/\VR W κ v u:=by
 induction ps with
 |nil=>
  intro vs us env h hv;refine dc (bX h) λe h=>?_;obtain rfl:=Zk.mp e;obtain rfl:=hv.nil;obtain rfl:=si h;exact⟨rfl,λx v e=>nt e⟩
 |cons p ps i=>
  intro vs us env h hv;cases vs with
  |nil=>exact nt h
  |cons w vs=>
   (refine a8 (hv.cons) λu us q3 h1 h2=>?_;subst q3)
   (refine U (om h) λr hz q3=>?_;subst q3)
   obtain⟨hl,ih⟩:=i hz h2;refine⟨YV Nat.succ hl,λx v e=>?_⟩;rw[Y5,List.zip_cons_cons,zbm,J3];rw[EC]at e;refine cX (Nat.beq p x) (λhp=>?_) λhp=>?_
   ·rw[hp];rw[hp]at e;exact(al u rfl (si e ▸ h1))
   ·rw[hp];rw[hp]at e;exact ih x v e
theorem vW{l:List (Str×Value)}(h:(l.map (·.1)).Nodup):l.reverse.lookup x=l.lookup x:=by
 induction l with
 |nil=>rfl
 |cons p r i=>
  rw[Y5,Zc]at h;rw[List.reverse_cons,List.lookup_append,i h.2];refine uy ((x==p.1)) (λhb=>?_) λhb=>?_
  ·
   have e:∀q,(p::q).lookup x=q.lookup x:=λq=>by rw[zbm,hb]
   rw[e,e];cases r.lookup x<;>rfl
  ·
   have e2:∀q,(p::q).lookup x=some p.2:=λq=>by rw[zbm,hb]
   rw[(List.lookup_eq_none_iff.mpr λq hq=>bne_iff_ne.mpr λe=>h.1 (Zj.mpr (al q hq (e.symm.trans (eq_of_beq hb))))),e2,e2];rfl
theorem nM{α β:Type}{f:α->β}(hf:∀x y,f x=f y->x=y){l:List α}(h:l.Nodup):(l.map f).Nodup:=by
 induction l with
 |nil=>exact .nil
 |cons a l i=>
  rw[Zc]at h;rw[Y5,Zc];refine⟨λhm=>?_,i h.2⟩;refine U (Zj.mp hm) λb hb e=>?_;exact h.1 (hf _ _ e ▸ hb)
def sg(ih:Ih)(fn:Fn)(args:List V):M V:=M.of (pb fn.params args) λenv=>M.bind M.env λkU=>M.restore kU (M.bind (M.setE env) λ_=>M.bind (Mine.execs ih fn.body) λr=>match r with
   | .next=>M.pure .none
   | .ret v=>M.pure v)
noncomputable def Rm:Fl->V
 | .next=> .none
 | .ret v=>v
def Rn:R Fl->R V
 | .ok f=> .ok (Rm f)
 | .exc _ sx ix cx=> .exc true sx ix cx
theorem m7(h:sg ih fn args σ=some (res,σ')):∃env pz ai,pb fn.params args=some env/\Mine.execs ih fn.body (σ.setE env)=some (pz,ai)/\σ'=ai.setE σ.env/\res=Rn pz:=by
 refine U (gH h) λenv hz h=>?_
 let z0:=σ.setE env
 have h:M.restore σ.env (M.bind (Mine.execs ih fn.body) λr=>match r with
   | .next=>M.pure .none
   | .ret v=>M.pure v) z0=some (res,σ'):=h
 unfold M.restore M.bind at h;refine dI (Mine.execs ih fn.body z0) (λhx=>?_) λp hx=>?_
 ·rw[hx]at h;exact nt h
 ·
  obtain⟨r,ai⟩:=p;rw[hx]at h;cases r with
  |exc je sx ix cx=>exact(ph env _ ai hz hx ((sp h).2) ((sp h).1))
  |ok f=>cases f<;>exact(ph env _ ai hz hx ((sp h).2) ((sp h).1))
theorem uh(hl:xZ W)(hC:C.Ok (n+1))(hf:MU W fn a body scope qual cd)(hb:∀C':Cx,C'.Ok n->C'.scope=scope->∀κ σ,bU W C' κ σ (PySem.execs body C'.env) (Mine.execs ih fn.body σ) (EH W))(h:sg ih fn args σ=some (res,σ'))(hv:cH W κ args us)(R:bz W C κ σ s)(k:bE W C (λκ=>VR W κ) (λv=>RR (.ok (.ret v))) (λe=>RR (.error e)) res κ σ'):codeAny (model W.prog W.w) C.A (.call (.ref a) ⟨us, []⟩) RR s:=by
 refine hg λcg kg=>?_;(refine nJ (m7 h) λenv pz ai hz hx q6 MB=>?_;subst q6)
 (refine cy (hf.at_) λoc od PW name q=>?_;(refine cy q λparams kV doc pm q=>?_;(refine Sr q λan ct hK p1 p2 p3 p4 p5=>?_;try clear q)))
 obtain⟨ef,lT⟩:=CK hz hv
 (refine bi R λm aw frs r=>?_;clear R)
 refine kg ?_;have TK:=nM W.inj hf.nodup;refine codeAny_call_def (fd:=fnOf name qual params body scope .none kV doc pm an cd ct) (body:=body) (binds:=(fn.params.map W.nm).zip us) (Zp (YU (Y4 ..) (Y4 ..)) hC.depth) ((W.X.keeps r.F.keep) _ _ hK) rfl (W.lim.keeps r.F.keep) (codeRec_of (W.X.keeps r.F.keep) hf.code) rfl (BindsTo.of_eq (by rw[(wo (fd:=fnOf name qual params body scope .none kV doc pm an cd ct) (us:=us) p1 p2 p3 p4 rfl (by rw[p5];exact TK) (by rw[<-ef,<-Zu (f:=(·.arg)),p5,Zu]))];rw[p5])) hf.cells ?_ (λap Qq wR=>?_) hf.co hf.gen hf.kind
 ·intro y hy;have:=(List.of_mem_zip hy).1;refine U (Zj.mp this) λx IE e=>?_
  (refine(e) ▸?_);exact hf.loc x IE
 ·refine U (pF.mp r.F.ns) λoL TJ XF=>?_;have nL:C.L∉(aw++frs).map (·.1):=λq=>by
   refine U (Zj.mp q) λp hp e=>?_;exact(r.N p hp).2.1 e
  refine hb (dg C m s.heap.objs.size a scope qual cd) (fI hC hf.kind) rfl κ (σ.setE env) _ _ hx _ _ _ (b6 _ _ _ ((by
   refine⟨⟨Qq,λb o e=>wR b o (r.F.keep b o e),YU r.F.above (zac r.F.ns.lt)⟩,λp hp=>?_,(by
   rw[(show(aw++(C.L,oL)::frs).map (·.1)=aw.map (·.1)++C.L::frs.map (·.1)from by simp)];have:=r.nd;rw[Y6]at this nL;rw[Zi]at this⊢;rw[Y8,not_or]at nL;refine⟨this.1,Zc.mpr ⟨nL.2,this.2.1⟩,λx hx y hy=>?_⟩;rcases YS.mp hy with rfl|hy
   ·rintro rfl;exact nL.1 hx
   ·exact this.2.2 x hx y hy),?_,r.nr,λx v e=>?_,r.gens,r.os⟩
   ·rcases Y8.mp hp with q|q
    ·have z:=r.N p (YQ _ q);exact⟨wR _ _ z.1,Z3 (ZZ z.1),z.2.2⟩
    ·rcases YS.mp q with rfl|q
     ·exact⟨wR _ _ TJ,Z3 (ZZ TJ),(by
   cases q:W.base.get? C.L with
   |none=>rfl
   |some o=>exact absurd (Y9 (ZZ q) r.F.above) (ZX _))⟩
     ·have z:=r.N p (Y0 _ q);exact⟨wR _ _ z.1,Z3 (ZZ z.1),z.2.2⟩
   ·skip;exact(ci _ _ rfl rfl XF (r.frs))
   ·refine U (lT x v e) λu hu IF=>?_;refine(al u ?_ IF);rw[vW (by rw[List.map_fst_zip (by simpa using zal ef)];exact TK)];exact hu))) λcK s' le=>?_
  cases pz with
  |ok f=>
   subst MB;intro g hg TX
   (refine bi TX λm' uI uS r'=>?_;clear TX)
   have nD:=r'.frs;dsimp only[dg,iA]at nD
   (refine cQ nD λq N7 q3 K3 WX WW=>?_;clear nD;subst q3)
   have MP:bz W C cK (ai.setE σ.env) s':=by
    refine⟨m,uI,N7,⟨pF.mpr (al (q.2) (by(refine(K3) ▸?_);exact(r'.N q (Y0 _ (.head _))).1) WX),r'.F.keep,r.F.above⟩,λp hp=>?_,?_,WW,r'.nr,r.env.mono le,r'.gens,r'.os⟩
    ·skip
     refine⟨(r'.N p (by
      rcases Y8.mp hp with x|x
      ·exact YQ _ x
      ·exact Y0 _ (.tail _ x))).1,λe=>?_,(r'.N p (by
      rcases Y8.mp hp with x|x
      ·exact YQ _ x
      ·exact Y0 _ (.tail _ x))).2.2⟩
     have nd:=r'.nd;rw[Y6,Y5,Zi]at nd;rcases Y8.mp hp with x|x
     ·exact nd.2.2 p.1 (Zm x) q.1 (.head _) (e.trans K3.symm)
     ·exact(Zc.mp nd.2.1).1 (by rw[K3,<-e];exact Zm x)
    ·have nd:=r'.nd;rw[Y6,Y5,Zi]at nd;rw[Y6,Zi];exact⟨nd.1,(Zc.mp nd.2.1).2,λx hx y hy=>nd.2.2 x hx y (.tail _ hy)⟩
   cases f with
   |next=>subst hg;exact k cK s' le _ j3 MP
   |ret v=>(refine U hg λu q2 WN=>?_;clear hg;subst q2);exact k cK s' le _ WN MP
  |exc je sx ix cx=>
   subst MB;intro e he;exact hl C n cK ai m s.heap.objs.size a scope qual cd je sx ix cx e s' σ.env _ _ hC r.F.above hf.kind (r.env.mono le) he λLp RN=>k cK Lp le e RN
end
def ei(W:SW)(fa:Nat->Option Addr)(ih:Ih)(n:Nat):Prop:=∀C:Cx,C.Ok (n+1)->∀f a,fa f=some a->∀κ σ args us,cH W κ args us->∀res σ',ih.c f args σ=some (res,σ')->∀(RR:Result->Shared->Prop) s,bz W C κ σ s->
 bE W C (λκ=>VR W κ) (λv=>RR (.ok (.ret v))) (λe=>RR (.error e)) res κ σ'->codeAny (model W.prog W.w) C.A (.call (.ref a) ⟨us, []⟩) RR s
def noStar(e:Expr):Bool:= !Nat.beq e.ctorIdx 22
theorem hG(h:noStar e=true):starEach (e::rest) env=(false,eval e env)::starEach rest env:=by
 cases e<;>first|(cases h;done)|rfl
theorem gi:∀{es:List Expr},es.all noStar=true->(backTo pos (starEach es env)).any (·.1)=false:=by
 intro es
 induction es with
 |nil=>intro _;exact rfl
 |cons e es ih=>
  intro h;simp only[Z9,YW]at h;rw[hG h.1];show(false||(backTo pos (starEach es env)).any (·.1))=false;rw[ih h.2];rfl
theorem gP{es:List Expr}(h:es.all noStar=true):∀e∈es,∀rest,starEach (e::rest) env=(false,eval e env)::starEach rest env:=λe he rest=>hG (YO.mp h e he)
section
variable{W:SW}{C:Cx}{κ:Kn}{σ:St}{s:Shared}
theorem bz.K(R:bz W C κ σ s):W.K.In s.heap:=let ⟨m,aw,frs,r⟩:=R;W.X.keeps r.F.keep
theorem eQ(hk:keepIn W.K f=true)(gF:es.all noStar=true)(hs:cm (λe x=>SndE W C e (ih.e x)) es xs)(h:M.bind (kK ih xs) g σ=some (res,σ'))(R:bz W C κ σ s)(k:bE W C yP Qk E res κ σ')(hc:∀am ai vs us aE,κ.Le am->cH W am vs us->bz W C am ai aE->g vs ai=some (res,σ')->bE W C yP Qk E res am σ'->wpAny (model W.prog W.w) C.A (call f (first++us)) Q E aE):
  wpAny (model W.prog W.w) C.A (callWith pos f first (backTo pos (starEach es C.env)) []) Q E s:=by
 cases es with
 |nil=>
  refine callWith_K0 R.K hk ?_;cases xs with
  |cons _ _=>exact hs.elim
  |nil=>exact hc κ σ [] [] s (Kn.Le.refl κ) (by rfl) R h k
 |cons e rest=>
  have I9:=gF;simp only[Z9,YW]at I9;refine callWith_K W.X hk ?_ (hG I9.1) (gi I9.2);refine bU.bind (mw hs (gP gF) κ σ) h R k λam ai vs us aE le hv ar ap k₁=>?_;exact⟨ar.K,hc am ai vs us aE le hv ar ap k₁⟩
theorem Ky(yu:ei W fa ih n)(hC:C.Ok (n+1))(hl:C.scope.names.lookup (W.nm fx)=some .globalImplicit)(hd:(W.nm fx==("__debug__":Str))=false)(hn:nsIn W.K mainGlobals (W.nm fx)=some (some (.ref a)))(ha:fa f=some a)(hk:keepIn W.K (.ref a)=true)(gF:es.all noStar=true)(hs:cm (λe x=>SndE W C e (ih.e x)) es xs):
  SndE W C (.Call (.Name (W.nm fx) np) es [] pos) (M.bind (kK ih xs) λvs=>ih.c f vs):=by
 intro κ σ res σ' h s Q E R k;refine zaH ?_;refine bi (id R) λm aw frs r=>?_;refine name_K r.F W.X W.T hn ?_ hC.kind hl hd;refine eQ (first:= []) hk gF hs h R k λam ai vs us aE le hv ar ap k₁=>?_;rw[ZG];exact zbp (yu C hC f a ha am ai vs us hv res σ' ap _ aE ar k₁)
end
noncomputable def Cx.under (C:Cx) (c:Code):Cx:={C with A:=C.A.under c}
theorem CR:Code.cUnits (.builtin "type.__call__" ⟨.ref a::us, []⟩)<=8:=YX rfl
theorem CN{C:Cx}(h:C.Ok (n+1)):(C.under (.builtin "type.__call__" ⟨.ref a::us, []⟩)).Ok n:=by
 refine⟨?_,h.kind,?_,?_,h.calm,h.outs⟩
 ·show pushEnvs [] C.A.frames=_;rw[h.frames];rfl
 ·exact PB (c:=1) h.depth ak
 ·exact PB h.units (CR (a:=a) (us:=us))
section
variable{W:SW}{C:Cx}{κ:Kn}{σ:St}{s:Shared}
theorem km:bz W (C.under c) κ σ s↔bz W C κ σ s:=by
 constructor
 ·rintro ⟨m,aw,frs,r⟩;exact(b6 m aw frs ⟨r.F,r.N,r.nd,r.frs,r.nr,r.env,r.gens,r.os⟩)
 ·rintro ⟨m,aw,frs,r⟩;exact(b6 m aw frs ⟨r.F,r.N,r.nd,r.frs,r.nr,r.env,r.gens,r.os⟩)
theorem zO:pi W (C.under c) κ σ je sx ix cx e s->pi W C κ σ je sx ix cx e s:=by
 cases je with
 |true=>
  rintro ⟨m,aw,frs,a,d,Cc,o,B,r⟩;exact⟨m,aw,frs,a,d,Cc,o,B,⟨r.eq,r.cls,r.main,r.sub,r.here,r.fly,r.base,r.above,r.ns,r.keep,r.mem,r.hold,r.nd,r.aL,r.frs,r.nr,r.gone,r.env,r.gens,r.os⟩⟩
 |false=>
  rintro ⟨a,d,Cc,t,r⟩;exact(MQ a d Cc t ⟨km.mp r.rel,r.eq,r.cls,r.main,r.sub,r.here,r.gone⟩)
theorem NR.add2(R:NR W κ aw H)(hx:x∉aw.map (·.1))(hd:dx∉aw.map (·.1))(ne:x≠dx)(Iw:∀b,κ.at_ t (H t).length b=none)(ho:gB W ((κ.add t (H t).length true dx).add t (H t).length false x) ((x,o)::(dx,od)::aw) t (H t).length mo):
  NR W ((κ.add t (H t).length true dx).add t (H t).length false x) ((x,o)::(dx,od)::aw) (λt'=>match Nat.beq t' t with|true=>H t++ [mo]|false=>H t'):=by
 let z0:=(κ.add t (H t).length true dx).add t (H t).length false x
 have ID:∀{s1 i1 b1 y},z0.at_ s1 i1 b1=some y->(s1=t/\i1=(H t).length/\b1=false/\y=x)\/(s1=t/\i1=(H t).length/\b1=true/\y=dx)\/(κ.at_ s1 i1 b1=some y/\y∈aw.map (·.1)):=λ{s1 i1 b1 y} e=>by
  refine bc (s1=t/\i1=(H t).length/\b1=false) (λq1=>?_) λq1=>?_
  ·(refine dU q1 λq1 q2 q3=>?_;subst q1;subst q2;subst q3)
   rw[Kn.add_self]at e;obtain rfl:=YZ e;exact .inl (lU rfl rfl rfl rfl)
  ·rw[Kn.add_ne q1]at e;refine bc (s1=t/\i1=(H t).length/\b1=true) (λq2=>?_) λq2=>?_
   ·obtain⟨rfl,rfl,rfl⟩:=q2;rw[Kn.add_self]at e;obtain rfl:=YZ e;exact .inr (.inl (lU rfl rfl rfl rfl))
   ·rw[Kn.add_ne q2]at e;exact .inr (.inr ⟨e,(R.dom e).2⟩)
 refine⟨λh=>R.known h,λ{s1 i1 b1 s2 i2 b2 y} e1 e2=>?_,λ{s1 i1 b1 y} e=>?_,λ{s1 i1 o1} e=>?_,λ{a vs} e=>?_⟩
 ·rcases ID e1 with⟨r1,r2,r3,r4⟩|⟨r1,r2,r3,r4⟩|⟨r1,r2⟩<;>rcases ID e2 with⟨p1,p2,p3,p4⟩|⟨p1,p2,p3,p4⟩|⟨p1,p2⟩
  ·exact⟨r1.trans p1.symm,r2.trans p2.symm,r3.trans p3.symm⟩
  ·exact absurd (r4.symm.trans p4) ne
  ·exact absurd (r4 ▸ p2) hx
  ·exact absurd (p4.symm.trans r4) ne
  ·exact⟨r1.trans p1.symm,r2.trans p2.symm,r3.trans p3.symm⟩
  ·exact absurd (r4 ▸ p2) hd
  ·exact absurd (p4 ▸ r2) hx
  ·exact absurd (p4 ▸ r2) hd
  ·exact R.inj r1 p1
 ·have eV:Nat.beq t t=true:=by simp
  rcases ID e with⟨rfl,rfl,rfl,rfl⟩|⟨rfl,rfl,rfl,rfl⟩|⟨r1,r2⟩
  ·exact⟨by rw[eV];simp,by simp⟩
  ·exact⟨by rw[eV];simp,by simp⟩
  ·exact⟨Y9 (R.dom r1).1 ((show∀s',(H s').length<=(match Nat.beq s' t with|true=>H t++ [mo]|false=>H s').length fromλs'=>by
  cases q:Nat.beq s' t with
  |true=>have:=YY q;subst this;simp
  |false=>simp) s1),by exact Zf _ (Zf _ r2)⟩
 ·have kU:nth (H s1) i1=some o1->gB W z0 ((x,o)::(dx,od)::aw) s1 i1 o1:=λe=>by
   refine(R.obj e).keep ((Kn.le_add (Iw true)).trans (Kn.le_add (by rw[Kn.add_ne (λq=>by cases q.2.2)];exact Iw false))) (λh=>?_) λ_ _ _ _ h=>Zf _ (Zf _ h);have kW:=pE e;rw[Kn.add_ne (λq=>by cases q.2.2),Kn.add_ne (λq=>by obtain⟨rfl,rfl,_⟩:=q;exact absurd kW (ZX _))];exact h
  refine cX (Nat.beq s1 t) (λq=>?_) λq=>?_
  ·
   have:=YY q;subst this;rw[q]at e;rcases mX e with e|⟨rfl,rfl⟩
   ·exact kU e
   ·exact ho
  ·
   rw[q]at e;exact kU e
 ·refine U (R.tup e) λo' a1 a2=>?_;exact(al o' a1 (a2.imp (λh=>Zf _ (Zf _ h)) id))
theorem a9.born{aw frs:List (Addr×Obj)}(r:a9 W C κ σ s m aw frs)(hc:W.cls c=some Ca)(hx:W.P.isExc c=false)(F':Fr W.base C.L h' m)(N':News W.base C.L h' ((x,instObj Ca dx)::(dx,emptyDict)::(aw++frs)))(lo:∀p∈aw++frs,p.1<dx)(kW:dx<x):
  ∃cK,κ.Le cK/\cK.at_ t (σ.heap t).length false=some x/\a9 W C cK (σ.add t (.inst c [])) {s with heap:=h'} m ((x,instObj Ca dx)::(dx,emptyDict)::aw) frs:=by
 have Tv:=λp hp=>Nat.lt_trans (lo p hp) kW;have nx:=r.fresh Tv;have nd:=r.fresh lo;rw[Y6]at nx nd;have Tx:(κ.add t (σ.heap t).length true dx).Le ((κ.add t (σ.heap t).length true dx).add t (σ.heap t).length false x):=Kn.le_add (by rw[Kn.add_ne (λq=>by cases q.2.2)];exact r.offEnd t false);refine⟨_,(Kn.le_add (r.offEnd t true)).trans Tx,Kn.add_self,F',N',?_,r.frs,?_,r.env.mono ((Kn.le_add (r.offEnd t true)).trans Tx),r.gens,r.os⟩
 ·show(x::dx::(aw++frs).map (·.1)).Nodup;rw[Zc,Zc];refine⟨λh=>?_,r.fresh lo,r.nd⟩;rcases YS.mp h with e|h
  ·exact absurd e (ZP kW)
  ·exact r.fresh Tv h
 ·refine r.nr.add2 (λh=>nx (YQ _ h)) (λh=>nd (YQ _ h)) (ZP kW) (r.offEnd t) ?_;exact(aY Ca x hc (Kn.add_self) (.inl ⟨hx,dx, [],0,by rw[Kn.add_ne (λq=>by cases q.2.2)];exact Kn.add_self, .head _, .tail _ (.head _),rfl⟩))
theorem o4{us:List Value}{h':Heap}{Q:Value->Shared->Prop}{E:Value->Shared->Prop}(yu:ei W fa ih n)(hC:C.Ok (n+2))(LK:fa f=some a)(h:M.made ih c t f args σ=some (res,σ'))(le:κ.Le cK)(ha:cK.at_ t (σ.heap t).length false=some x)(hv:cH W κ args us)(R:bz W C cK (σ.add t (.inst c [])) {s with heap:=h'})(k:bE W C (λκ=>VR W κ) Q E res κ σ'):
  codeAny (model W.prog W.w) (C.under (.builtin "type.__call__" ⟨.ref Ca::us, []⟩)).A (.call (.ref a) ⟨.ref x::us, []⟩) (InitBack x λr s'=>match r with| .ok (.ret v)=>Q v s'| .ok _=>False| .error e=>E e s') {s with heap:=h'}:=by
 let z0:=σ.add t (.inst c [])
 let z1:=σ.heap t
 have h:M.bind (ih.c f (V.obj t z1.length::args)) (λr=>M.oN r (M.pure (V.obj t z1.length))) z0=some (res,σ'):=h;unfold M.bind at h;refine dI (ih.c f (V.obj t z1.length::args) z0) (λiH=>?_) λp iH=>?_
 ·rw[iH]at h;exact nt h
 ·
  obtain⟨lR,ai⟩:=p;rw[iH]at h;refine yu (C.under (.builtin "type.__call__" ⟨.ref Ca::us, []⟩)) (CN hC) f a LK cK _ _ _ (by exact(aY _ _ rfl (by exact(al x rfl ha)) (hv.mono le))) _ _ iH _ _ (km.mpr R) λbK c8 aX=>?_;cases lR with
  |ok v=>
   intro u hu bD;refine hg λcg kg=>?_;obtain⟨rfl,g⟩:=Nt h;obtain⟨rfl,rfl⟩:=ao g;refine kg ?_;exact⟨hu.none,k bK c8 (le.trans aX) _ (by exact(al x rfl (aX.at_ ha))) (km.mp bD)⟩
  |exc je sx ix cx=>
   obtain⟨rfl,rfl⟩:=sp h;exactλe he=>k bK c8 (le.trans aX) e (zO he)
theorem F7(yu:ei W fa ih n)(hC:C.Ok (n+2))(hc:W.cls c=some Ca)(hm:makesIn W.K Ca=true)(hi:match W.P.init c with
   |some none=>findIn W.K (.ref Ca) "__init__"=some (some (.builtin "object.__init__"))/\W.P.isExc c=false
   |some (some f)=>∃a,fa f=some a/\findIn W.K (.ref Ca) "__init__"=some (some (.ref a))/\typeIn W.K (.ref a)=some (.type "function")
   |none=>True)(h:M.make W.P ih c t args σ=some (res,σ'))(hv:cH W κ args us)(R:bz W C κ σ s)(k:bE W C (λκ=>VR W κ) Q E res κ σ'):wpAny (model W.prog W.w) C.A (call (.ref Ca) us) Q E s:=by
 refine bi (id R) λm aw frs r=>?_;refine zbp ?_;refine U (gH h) λo NW g=>?_;rw[NW]at hi;cases o with
 |none=>
  obtain⟨ea,g⟩:=cP g;obtain rfl:=Zk.mp ea;obtain⟨rfl,rfl⟩:=ik g;obtain rfl:=hv.nil;refine make_K0 r.F r.N (R.K) hm hi.1 λx dx h' F' N' lo kW=>?_;refine aZ (r.born (t:=t) hc hi.2 F' N' lo kW) λcK le ha r'=>?_;exact k cK _ le _ (by exact(al x rfl ha)) (b6 m _ frs r')
 |some f=>
  (refine aZ hi λa LK Bu Qn=>?_;clear hi)
  obtain⟨hx,g⟩:=cP g;refine make_K r.F r.N (R.K) hm Bu Qn λx dx h' F' N' lo kW=>?_;refine aZ (r.born (t:=t) hc (iq hx) F' N' lo kW) λcK le ha r'=>?_;exact o4 yu hC LK g le ha hv (b6 m _ frs r') k
end
section
variable{W:SW}{C:Cx}{κ:Kn}{σ:St}{s:Shared}
theorem Od(yu:ei W fa ih n)(hC:C.Ok (n+2))(hl:C.scope.names.lookup (W.nm c)=some .globalImplicit)(hd:(W.nm c==("__debug__":Str))=false)(hn:nsIn W.K mainGlobals (W.nm c)=some (some (.ref Ca)))(hc:W.cls c=some Ca)(hm:makesIn W.K Ca=true)(hi:match W.P.init c with
   |some none=>findIn W.K (.ref Ca) "__init__"=some (some (.builtin "object.__init__"))/\W.P.isExc c=false
   |some (some f)=>∃a,fa f=some a/\findIn W.K (.ref Ca) "__init__"=some (some (.ref a))/\typeIn W.K (.ref a)=some (.type "function")
   |none=>True)(hk:keepIn W.K (.ref Ca)=true)(gF:es.all noStar=true)(hs:cm (λe x=>SndE W C e (ih.e x)) es xs):
  SndE W C (.Call (.Name (W.nm c) np) es [] pos) (M.bind (kK ih xs) λvs=>M.make W.P ih c t vs):=by
 intro κ σ res σ' h s Q E R k;refine zaH ?_;refine bi (id R) λm aw frs r=>?_;refine name_K r.F W.X W.T hn ?_ hC.kind hl hd;refine eQ (first:= []) hk gF hs h R k λam ai vs us aE le hv ar ap k₁=>?_;rw[ZG];exact F7 yu hC hc hm hi ap hv ar k₁
theorem call_meth{M:Model}(hb:iW o=true)(hf:methodCallForm args.length (backTo pos (starEach args env)) []=true)(hp:(apos.endLine==pos.line)=true)(h:wpAny M A (eval o env) (λov aE=>wpAny M A (getMethod ov name (do return (<-importBound o env).getD true)) (λp c8=>wpAny M A (callWith pos p.1 p.2 (backTo pos (starEach args env)) []) Q E c8) E aE) E s):
  wpAny M A (eval (.Call (.Attribute o name apos) args [] pos) env) Q E s:=by
 rw[arm_eval_Call,xU hb];refine YT (wpAny_mono h (λov aE ap=>YT (ZW ?_)) λ_ _ e=>e);show wpAny M A (methodCall o name apos pos env ov (args.length+0) (backTo pos (starEach args env)) []) Q E aE;unfold methodCall;rw[Nat.add_zero,hf];refine YT (ZE ?_);refine wpAny_mono ap (λp c8 aS=>?_) λ_ _ e=>e;refine YT ?_;rw[(show methodCallPos true o env apos pos=pure pos from by unfold methodCallPos;simp[hp])];exact Y7 aS
end
section
variable{W:SW}{C:Cx}{κ:Kn}{σ:St}{s:Shared}
theorem zE:∀{es:List DictEntry},c6 W κ fs es->aN x fs=none->es.find? (·.key.isStr (W.nm x))=none:=by
 induction fs with
 |nil=>intro es hf _;rw[hf.nil];rfl
 |cons p fs i=>
  intro es hf h
  (refine cQ (c6.cons (y:=p.1) (w:=p.2) hf) λe r q3 q4 h2 h3=>?_;subst q3;obtain⟨t,hk⟩:=q4)
  rw[EC]at h;rw[zaU,pK hk];refine cX (Nat.beq p.1 x) (λhy=>?_) λhy=>?_
  ·rw[hy]at h;exact nomatch h
  ·rw[hy];rw[hy]at h;exact i h3 h
theorem DL(hf:c6 W κ fs es)(h:aN x fs=none):getL (W.nm x) es=some none:=by
 unfold getL
 (refine(zE hf h).symm ▸?_;refine(oX hf).symm ▸?_);rfl
theorem mT{id:String}(gF:es.all noStar=true)(hs:cm (λe x=>SndE W C e (ih.e x)) es xs)(h:M.bind (kK ih xs) g σ=some (res,σ'))(R:bz W C κ σ s)(k:bE W C (λκ=>VR W κ) Q E res κ σ')(hc:∀am ai vs us aE,κ.Le am->cH W am vs us->bz W C am ai aE->g vs ai=some (res,σ')->bE W C (λκ=>VR W κ) Q E res am σ'->wpAny (model W.prog W.w) C.A (call (.builtin id) (first++us)) Q E aE):
  wpAny (model W.prog W.w) C.A (callWith pos (.builtin id) first (backTo pos (starEach es C.env)) []) Q E s:=by
 refine Calls.callWith_builtin (gi gF) ?_;cases es with
 |nil=>
  cases xs with
  |cons _ _=>exact hs.elim
  |nil=>exact evalArgs_nil3 (by simpa using hc κ σ [] [] s (Kn.Le.refl κ) (by rfl) R h k)
 |cons e rest=>
  have h0:wpAny (model W.prog W.w) C.A (spliced (backTo pos (starEach (e::rest) C.env))) (λvs s'=>wpAny (model W.prog W.w) C.A (call (.builtin id) (first++vs)) Q E s') E s:=by
   refine bU.bind (mw hs (gP gF) κ σ) h R k λam ai vs us aE le hv ar ap k₁=>?_;exact hc am ai vs us aE le hv ar ap k₁
  rw[(hG (rest:=rest) (env:=C.env) (e:=e) (by simp only[Z9,YW]at gF;exact gF.1))]at h0⊢;exact Calls.evalArgs_plain h0
theorem sw(h:M.bind (M.put t i o) (λ_=>M.pure a) σ=some (res,σ')):res= .ok a/\σ'=σ.put t i o:=sp h
theorem zZ(h:M.append q v σ=some (res,σ'))(hq:VR W κ q a)(hv:VR W κ v u)(R:bz W C κ σ s)(k:bE W C (λκ=>VR W κ) Q E res κ σ'):wpAny (model W.prog W.w) C.A (call (.builtin "list.append") [a,u]) Q E s:=by
 refine hg λcg kg=>?_;(refine cY (nE h) λt i o q4 ho g=>?_;subst q4)
 (refine U (l5 g) λvs q2 g=>?_;subst q2)
 obtain⟨hl,g⟩:=cP g;obtain⟨rfl,rfl⟩:=sw g
 (refine U (hq.obj) λp q2 h1=>?_;subst q2)
 refine bi (id R) λm aw frs r=>?_;refine cY (r.nr.obj ho) λa' iK kk g1 g2 g3=>?_;obtain rfl:=si (h1.symm.trans g1);refine kg ?_;refine append_K r.F r.N (po _ r.nd (YQ _ g2)) (λh' F' N'=>?_) (by show iK.length<=sizeLine;(refine(g3.length) ▸?_);exact gf hl);rw[List.push_toArray]at N'
 exact k.done (a:=Value.none) j3 (b6 m _ frs ((r.put (t:=t) (i:=i) (b:=false) (d:=p) (mo:= .list (vs++ [v])) (s':={s with heap:=h'}) h1 g2 Bl F' N'
  (iO p (iK++ [u]) (kk+1) h1 (aH (aU g2)) (g3.append (cH.single hv))) rfl rfl)))
theorem Dc:∀{l:List V×V} {us:List Value},hO vs=some l->cH W κ vs us->∃p,kl_last us=some p/\cH W κ l.1 p.1/\VR W κ l.2 p.2:=by
 induction vs with
 |nil=>intro l us h _;exact nt h
 |cons w r i=>
  intro l us h hv
  (refine a8 (hv.cons) λx xs q3 h1 h2=>?_;subst q3)
  obtain rfl:=si h;unfold kl_last;refine dI (hO r) (λhp=>?_) λq hp=>?_
  ·
   cases r with
   |nil=>obtain rfl:=h2.nil;exact(aM (([],x)) rfl (by rfl) h1)
   |cons _ _=>exact nomatch hp
  ·
   rw[hp];refine aZ (i hp h2) λp e1 e2 e3=>?_
   (refine(e1).symm ▸?_)
   exact(aM ((x::p.1,p.2)) rfl (by exact(aY x (p.1) rfl h1 e2)) e3)
theorem FY(h:M.popL q σ=some (res,σ'))(hq:VR W κ q a)(R:bz W C κ σ s)(k:bE W C (λκ=>VR W κ) Q E res κ σ'):wpAny (model W.prog W.w) C.A (call (.builtin "list.pop") [a]) Q E s:=by
 refine hg λcg kg=>?_;(refine cY (nE h) λt i o q4 ho g=>?_;subst q4)
 (refine U (l5 g) λvs q2 g=>?_;subst q2)
 obtain⟨hl,g⟩:=cP g;refine U (gH g) λl hp g=>?_;obtain⟨rfl,rfl⟩:=sw g
 (refine U (hq.obj) λp q2 h1=>?_;subst q2)
 refine bi (id R) λm aw frs r=>?_;refine cY (r.nr.obj ho) λa' iK kk g1 g2 g3=>?_;obtain rfl:=si (h1.symm.trans g1);refine aZ (Dc hp g3) λpp e1 e2 e3=>?_;refine kg ?_;refine kl_pop r.F r.N e1 (po _ r.nd (YQ _ g2)) (by(refine(g3.length) ▸?_);exact gf hl) (λh' F' N'=>?_)
 exact k.done e3 (b6 m _ frs ((r.put (t:=t) (i:=i) (b:=false) (d:=p) (mo:= .list l.1) (s':={s with heap:=h'}) h1 g2 Bl F' N'
  (iO p (pp.1) (kk+1) h1 (aH (aU g2)) e2) rfl rfl)))
theorem eK.keyed(D:eK W κ kd es a o)(h:kd<4):
  (∃br,o.IsDictOf (PySem.strKind W.prog W.w) br/\es.length=br.length)\/(∃br,o.IsDictOf (PySem.intKind W.prog W.w) br/\es.length=br.length)\/∃xs,lN W o xs/\es.length=xs.length:=by
 rcases Qe h with e|e|e|e
 ·refine U (D.one (.inl e)) λbr x1 x2=>?_;exact .inl ⟨br,x1,x2.length⟩
 ·refine U (D.one (.inr e)) λbr x1 x2=>?_;exact .inl ⟨br,x1,x2.length⟩
 ·refine U (D.two (.inr e)) λbr x1 x2=>?_;exact .inr (.inl (al br x1 (x2.length)))
 ·refine U (D.three (.inr e)) λbr x1 x2=>?_;exact .inr (.inr (al br x1 (x2.length)))
theorem oP{x:Option Value}(h:match o with|some v=>∃u,x=some u/\VR W κ v u|none=>x=none)(hd:VR W κ d du):VR W κ (o.getD d) (x.getD du):=by
 cases o with
 |some v=>(refine U h λu q2 hv=>?_;clear h;subst q2);exact hv
 |none=>subst h;exact hd
theorem KT.got(hR:RT kk kT)(x2:KT (VR W κ) es xs)(hd:VR W κ d du):VR W κ ((aO kk es).getD d) (((atKey xs kT).map (·.2)).getD du):=by
 have e:=KT.look hR x2;refine dI (aO kk es) (λhq=>?_) λv hq=>?_
 ·rw[hq];rw[hq]at e;rw[e];exact hd
 ·rw[hq];rw[hq]at e;refine U e λu e hv=>?_;rw[e];exact hv
theorem Cd(hu:n+16<cLine):n+1+8<cLine:=Zp (by rw[ZF];exact Ze ak _) hu
theorem xK(hu:C.A.units+16<cLine)(h:M.getD q kk d σ=some (res,σ'))(hq:VR W κ q a)(hk:VR W κ kk ku)(hd:VR W κ d du)(R:bz W C κ σ s)(k:bE W C (λκ=>VR W κ) Q E res κ σ'):(wpAny (model W.prog W.w) C.A (call (.builtin "dict.get") [a,ku,du]) Q E s)/\(du= .none->wpAny (model W.prog W.w) C.A (call (.builtin "dict.get") [a,ku]) Q E s):=by
 refine hg λcg kg=>?_;(refine cY (nE h) λt i o q4 ho g=>?_;subst q4)
 (refine bR (HN g) λkd es q3 g=>?_;subst q3)
 obtain⟨hb,g⟩:=cP g;obtain⟨rfl,rfl⟩:=ao g
 (refine U (hq.obj) λp q2 h1=>?_;subst q2)
 refine bi (id R) λm aw frs r=>?_;refine aZ (pJ r ho h1 hb hk) λob hm D ka=>?_;refine kg ?_;have rm:=YQ frs hm;cases ka with
 |str l tt br e1 e2 x1 x2=>
  subst e1 e2;have e:=oP (KV.look (K:=Str) (λa b=>RS.iff a b) (al l rfl rfl) x2) hd;exact⟨kdg_get2 r.N rm x1 D.low (zaa _ _ _ _) _ rfl (k.done e R.toks),λq=>kdg_get1 r.N rm x1 D.low (zaa _ _ _ _) _ rfl (k.done (q ▸ e) R.toks)⟩
 |int l tt br e1 e2 x1 x2=>
  subst e1 e2;have e:=oP (KV.look (K:=Int) (λa b=>RI.iff a b) (show RI (.int l) l from rfl) x2) hd;exact⟨kdg_get2 r.N rm x1 D.low (ZK _ _ _ _) _ rfl (k.done e R.toks),λq=>kdg_get1 r.N rm x1 D.low (ZK _ _ _ _) _ rfl (k.done (q ▸ e) R.toks)⟩
 |tup bb kT xs hR e2 x0 x1 x2=>
  subst e2
  exact⟨call_meetsIn F.slot_dict_get x1.typeIs F.entry_dict_get (F.args_dict_get_3 _ _ _) (meetsH_dict_get_default (fb W.prog W.w) p bb D.low du) ⟨Cd hu,kT,xs,x0,x1,k.done (KT.got hR x2 hd) R.toks⟩,
   λq=>call_meetsIn F.slot_dict_get x1.typeIs F.entry_dict_get (F.args_dict_get_2 _ _) (meetsH_dict_get (fb W.prog W.w) p bb D.low) ⟨Cd hu,kT,xs,x0,x1,k.done (q ▸ (KT.got hR x2 hd)) R.toks⟩⟩
def Cw(W:SW)(fa:Nat->Option Addr)(x:Nat):Prop:=∀c f Ca,W.cls c=some Ca->W.P.meth c x=some f->
 ∃a,fa f=some a/\plainGet W.K Ca (W.nm x)=true/\findIn W.K (.ref Ca) (W.nm x)=some (some (.ref a))/\isFn W.K (.ref a)=true/\keepIn W.K (.ref a)=true
structure xY(W:SW):Prop where
 app:W.nm gc="append"
 pop:W.nm AH="pop"
 get:W.nm AI="get"
inductive ki(W:SW)(σ:St)(x t i:Nat):Hg->Prop
 |own (c:Nat) (fs:List (Nat×V)) (f:Nat):nth (σ.heap t) i=some (.inst c fs)->aN x fs=none->W.P.isExc c=false->W.P.meth c x=some f->ki W σ x t i (.own f)
 |app (vs:List V):nth (σ.heap t) i=some (.list vs)->x=gc->ki W σ x t i .app
 |pop (vs:List V):nth (σ.heap t) i=some (.list vs)->x=AH->ki W σ x t i .pop
 |get (kd:Nat) (es:List (V×V)):nth (σ.heap t) i=some (.dict kd es)->x=AI->kd<4->ki W σ x t i .get
theorem JU(h:M.recv W.P q x σ=some r):∃t i mt,q= .obj t i/\ki W σ x t i mt/\r=(.ok mt,σ):=by
 (refine cY (nE h) λt i o q4 ho g=>?_;subst q4)
 cases o with
 |inst c fs=>
  obtain⟨hl,g⟩:=Mn g;obtain⟨hx,g⟩:=cP g;refine U (gH g) λf hm g=>?_;exact(iO t i _ rfl (.own c fs f ho hl (iq hx) hm) ((si g).symm))
 |list vs=>
  have g:=g;cases hx:Nat.beq x gc with
  |true=>rw[hx]at g;exact⟨t,i,_,rfl, .app vs ho (YY hx),(si g).symm⟩
  |false=>
   rw[hx]at g;obtain⟨hy,g⟩:=cP g;exact(iO t i _ rfl (.pop vs ho (YY hy)) ((si g).symm))
 |dict kd es=>
  obtain⟨hx,g⟩:=cP g;exact⟨t,i,_,rfl, .get kd es ho (YY (an hx).1) (YX (an hx).2),(si g).symm⟩
 |_=>exact nt g
theorem zi{r:Mine.R V×St}(h:M.bind (M.recv W.P q x) f σ=some r):∃t i mt,q= .obj t i/\ki W σ x t i mt/\f mt σ=some r:=by
 unfold M.bind at h;refine dI (M.recv W.P q x σ) (λe=>?_) λp e=>?_
 ·rw[e]at h;exact nt h
 ·
  rw[e]at h
  (refine cY (JU e) λt i mt e1 e2 q6=>?_;subst q6)
  exact(iO t i mt e1 e2 h)
theorem Gq(gF:es.all noStar=true)(ef:es.length<30):methodCallForm es.length (backTo pos (starEach es env)) []=true:=by
 unfold methodCallForm;simp only[List.all_nil,Bool.and_true,YW,zbf];refine⟨YO.mpr λy hy=>?_,ef⟩;rw[Bool.eq_false_iff.mpr (List.any_eq_false.mp (gi (pos:=pos) (env:=env) gF) y hy)];rfl
theorem KA(r:a9 W C κ σ s m aw frs)(D:eK W κ kd es p o)(IG:kd<4)(g2:(p,o)∈aw):s.TypeIs (.ref p) "dict"/\o.dict=none:=by
 have hh:=(r.N _ (YQ _ g2)).1;rcases D.keyed IG with⟨br,x1,_⟩|⟨br,x1,_⟩|⟨xs,x1,_⟩<;>((refine bR x1 λes ep x _=>?_;clear x1);exact⟨(al _ hh (x.1)),x.2.1⟩)
theorem Kv(yu:ei W fa ih n)(hC:C.Ok (n+1))(hN:xY W)(hM:Cw W fa x)(hb:iW o=true)(hp:(apos.endLine==pos.line)=true)(ef:es.length<30)(gF:es.all noStar=true)(ho:SndE W C o mo)(hs:cm (λe x=>SndE W C e (ih.e x)) es xs):
  SndE W C (.Call (.Attribute o (W.nm x) apos) es [] pos) (M.bind mo λa=>M.bind (M.recv W.P a x) λmt=>M.bind (kK ih xs) λvs=>M.meth ih mt a vs):=by
 intro κ σ res σ' h s Q E R k;refine call_meth hb (Gq gF ef) hp ?_;refine bU.bind (ho κ σ) h R k λam ai q a aE le hq ar ap k₁=>?_
 (refine cY (zi ap) λt i mt q4 A EY=>?_;subst q4)
 (refine U (hq.obj) λp q2 wz=>?_;subst q2)
 refine bi (id ar) λm aw frs r=>?_;have N:=λx hx=>(r.N x (YQ frs hx)).1;cases A with
 |own c fs f hg hl WK Xb=>
  refine a8 (r.nr.obj hg) λCc a h0 h2 h3=>?_;obtain rfl:=si (wz.symm.trans h2);refine uW (hM c f Cc h0 Xb) λXT f1 f2 f3 f4 f5=>?_;refine h3.elim (λq=>?_) λq=>?_
  ·obtain⟨_,d,Ld,nn,x1,x2,x3,x4⟩:=q;refine method_inst r.F W.X ⟨N _ x2,rfl,rfl,N _ x3⟩ f2 f3 f4 (DL x4 hl) ?_;refine eQ (first:= [.ref p]) f5 gF hs EY ar k₁ λbK bG vs us c8 aX ED bD aS dP=>?_;exact zbp (yu C hC f XT f1 bK bG _ _ (show cH W bK (V.obj t i::vs) (.ref p::us) by exact(aY _ _ rfl (hq.mono aX) ED)) res σ' aS _ c8 bD dP)
  ·exact ng (q.1.symm.trans WK)
 |app vs hg hx=>
  subst hx;obtain⟨a',iK,kk,g1,g2,g3⟩:=r.nr.obj hg;obtain rfl:=si (wz.symm.trans g1);rw[hN.app];refine kl_method r.N (YQ _ g2) PySem.F.slot_list_append PySem.F.type_list_append ?_;refine mT (first:= [.ref p]) gF hs EY ar k₁ λbK bG vs us c8 aX ED bD aS dP=>?_;cases vs with
  |nil=>exact nt aS
  |cons v vs=>
   obtain⟨e,fq⟩:=cP aS;obtain rfl:=Zk.mp e
   (refine a8 (ED.cons) λu _ q3 hv hn=>?_;subst q3)
   obtain rfl:=hn.nil;exact zZ fq (hq.mono aX) hv bD dP
 |pop vs hg hx=>
  subst hx;obtain⟨a',iK,kk,g1,g2,g3⟩:=r.nr.obj hg;obtain rfl:=si (wz.symm.trans g1);rw[hN.pop];refine kl_method r.N (YQ _ g2) PySem.F.slot_list_pop PySem.F.type_list_pop ?_;refine mT (first:= [.ref p]) gF hs EY ar k₁ λbK bG vs us c8 aX ED bD aS dP=>?_;refine dc (cP aS) λe fq=>?_;obtain rfl:=Zk.mp e;obtain rfl:=ED.nil;exact FY fq (hq.mono aX) bD dP
 |get kd es' hg hx IG=>
  subst hx;refine a8 (r.nr.obj hg) λa' o' g1 g2 D=>?_;obtain rfl:=si (wz.symm.trans g1)
  (refine(hN.get).symm ▸?_)
  have hD:=KA r D IG g2;refine getMethod_builtin hD.1 PySem.F.plainAttrs_dict PySem.F.slot_dict_get PySem.F.type_dict_get (λa e=>by cases e;exact(al _ (N _ g2) (hD.2))) ?_;refine mT (first:= [.ref p]) gF hs EY ar k₁ λbK bG vs us c8 aX ED bD aS dP=>?_;have hu:=Zp (zba (Y4 C.A.units _) (by decide:16<=128)) hC.units;cases vs with
  |nil=>exact nt aS
  |cons v vs=>
   (refine a8 (ED.cons) λu _ q3 hv hn=>?_;subst q3)
   cases vs with
   |nil=>
    obtain rfl:=hn.nil;exact(xK hu aS (hq.mono aX) hv j3 bD dP).2 rfl
   |cons d vs=>
    obtain⟨e,fq⟩:=cP aS;obtain rfl:=Zk.mp e;obtain⟨w,_,rfl,hd,hn⟩:=hn.cons;obtain rfl:=hn.nil;exact(xK hu fq (hq.mono aX) hv hd bD dP).1
end
end Mine
end
section
namespace Mine
open PySem PySem.W PyProof.Rows PySem.Calls PySem.Builtin.Str
section
variable{W:SW}{C:Cx}{κ:Kn}{σ:St}{s:Shared}
theorem qe(h:Nat.ble n ay=true):n<=1000:=YX h
theorem J9(h:M.len q σ=some (res,σ'))(hq:VR W κ q a)(R:bz W C κ σ s)(k:bE W C (λκ=>VR W κ) Q E res κ σ'):wpAny (model W.prog W.w) C.A (call (.builtin "len") [a]) Q E s:=by
 cases q with
 |tup vs=>
  obtain⟨hl,g⟩:=cP h
  (refine dc (ao g) λq1 q2=>?_;subst q1;subst q2)
  (refine a8 (hq.tup) λp xs q3 h1 h2=>?_;subst q3)
  have e:xs.toArray.size=vs.length:=h2.length.symm;exact PyProof.Rows.len_tuple (R.isTup h1) (by rw[e];exact(dh (qe hl)).2) (by rw[e];exact k.done (eH _ _) R.toks.toks)
 |obj t i=>
  refine hg λcg kg=>?_;refine U (iV h) λo ho g=>?_
  (refine U (l5 g) λvs q2 g=>?_;subst q2)
  obtain⟨hl,g⟩:=cP g
  (refine dc (ao g) λq1 q2=>?_;subst q1;subst q2)
  (refine U (hq.obj) λp q2 h1=>?_;subst q2)
  refine bi (id R) λm aw frs r=>?_;refine cY (r.nr.obj ho) λa' iK kk g1 g2 g3=>?_;obtain rfl:=si (h1.symm.trans g1);refine kg ?_;have e:iK.toArray.size=vs.length:=g3.length.symm;exact call_len_list (⟨_,(r.N _ (YQ _ g2)).1,rfl,_,rfl⟩) (by rw[e];exact(dh (qe hl)).2) (by rw[e];exact k.done (eH _ _) R.toks.toks)
 |_=>exact nt h
theorem Og(hk:C.scope.kind= .function)(hl:C.scope.names.lookup ("len":Str)=some .globalImplicit)(hn:nsIn W.K mainGlobals ("len":Str)=some none)(gF:noStar e=true)(he:SndE W C e mx):
  SndE W C (.Call (.Name "len" np) [e] [] pos) (M.bind mx λv=>M.len v):=by
 intro κ σ res σ' h s Q E R k;refine zaH ?_;refine bi (id R) λm aw frs r=>?_;refine name_B r.F W.X W.T hn (by rfl) ak ?_ hk hl ak
 (refine((hG (rest:= []) gF)).symm ▸?_)
 refine callWith_builtin1 ?_;refine bU.bind (he κ σ) h R k λam ai v a aE le hv ar ap k₁=>?_;exact J9 ap hv ar k₁
theorem FZ(h:rU l=some v):l= [v]:=by
 cases l with
 |nil=>exact nt h
 |cons a r=>
  obtain⟨e,g⟩:=bX h;rw[si g,Zk.mp e]
theorem JT(h:M.rep t x y σ=some (res,σ'))(hx:VR W κ x a)(hy:VR W κ y b)(R:bz W C κ σ s)(k:bE W C (λκ=>VR W κ) Q E res κ σ'):wpAny (model W.prog W.w) C.A (binaryOp .Mult a b) Q E s:=by
 (refine U (Ba h) λn q2 g=>?_;subst q2)
 refine U (gH g) λn' hn g=>?_
 (refine bi (nE g) λt' i o q=>?_;obtain⟨rfl,ho,g⟩:=q)
 (refine U (l5 g) λvs q2 g=>?_;subst q2)
 refine U (gH g) λv hv g=>?_;obtain rfl:=FZ hv;obtain⟨hb,g⟩:=cP g;obtain⟨rfl,rfl⟩:=ik g
 (refine U (hx.obj) λp q2 g0=>?_;subst q2)
 refine bi (id R) λm aw frs r=>?_;refine cY (r.nr.obj ho) λa' iK kk g1 g2 g3=>?_;obtain rfl:=si (g0.symm.trans g1)
 (refine a8 (g3.cons) λu _ q3 hv h0=>?_;subst q3)
 obtain rfl:=h0.nil;obtain⟨rfl,rv⟩:=io hn;obtain⟨tt,rfl⟩:=hy.int;refine mul_list r.F r.N (r.N _ (YQ _ g2)).1 qn (dh rv).2 (by rw[Int.toNat_natCast];show 1*n'<=_;rw[Nat.one_mul];exact YU rv ak) λh' F' N'=>?_;rw[listMul_foldl_if]at N'
 rw[(show(List.replicate ((n':Int)).toNat ([u].toArray).toList).flatten=List.replicate n' u from by
  rw[Int.toNat_natCast];exact List.flatten_replicate_singleton)]at N'
 obtain⟨yp,r'⟩:=r.new (t:=t) (mo:= .list (List.replicate n' v)) (s':={s with heap:=h'}) F' N' (gM r) (iO _ (List.replicate n' u) (0) (Kn.add_self) (.head _) ((cH.replicate hv n').mono (Kn.le_add (r.offEnd t false)))) rfl rfl;exact k _ _ yp _ (by exact(al _ rfl (Kn.add_self))) (b6 m _ frs r')
theorem Ob(hl:SndE W C l ml)(hr:SndE W C r mr):
  SndE W C (.BinOp l .Mult r pos) (M.bind ml λx=>M.bind mr λy=>M.rep t x y):=by
 intro κ σ res σ' h s Q E R k;refine wpAny_BinOp ?_;refine bU.bind (hl κ σ) h R k λam ai x a aE le hx ar ap k₁=>?_;refine bU.bind (hr am ai) ap ar k₁ λbK bG y b c8 aX hy bD aS dP=>?_;exact JT aS (hx.mono aX) hy bD dP
theorem bz.push(R:bz W C κ σ s):bz W C κ σ {s with heap:=s.heap.push o}:=by
 (refine bi R λm aw frs r=>?_;clear R)
 exact(b6 m aw frs ⟨r.F.push o,r.N.grown λ_ _ e=>ZL _ e,r.nd,r.frs,r.nr,r.env,r.gens,r.os⟩)
def w9(W:SW)(C:Cx)(ih:Ih):Option Expr->Option Ex->Prop
 |none,none=>True
 |some e,some x=>SndE W C e (ih.e x)
 |_,_=>False
theorem Ci(h:w9 W C ih e x):∀κ σ,bU W C κ σ (evalPart e C.env) (G8 ih x σ) (λκ=>VR W κ):=by
 intro κ σ;cases e with
 |none=>
  cases x with
  |some _=>exact h.elim
  |none=>
   intro res σ' hr s Q E R k;obtain⟨rfl,rfl⟩:=ao hr;exact wpAny_evalPart_none (k.done j3 R)
 |some e=>
  cases x with
  |none=>exact h.elim
  |some x=>exact h κ σ
def yj:Option Nat->Option Int
 |none=>none
 |some n=>some (Int.ofNat n)
theorem kf(h:Pz v=some o)(hv:VR W κ v a):(∃t,a=match o with|none=> .none|some n=> .int (n:Int) t)/\IsPart a (yj o):=by
 cases v with
 |none=>obtain rfl:=si h;(refine(hv.none).symm ▸?_);exact⟨⟨0,rfl⟩, .none⟩
 |int i=>
  (refine U (om h) λn hn q3=>?_;subst q3)
  obtain⟨rfl,rv⟩:=io hn;obtain⟨t,rfl⟩:=hv.int;exact⟨⟨t,rfl⟩, .int _ _⟩
 |_=>exact nt h
theorem cH.cutL{lo hi:Option Nat}(h:cH W κ vs xs):cH W κ (Mine.cutL lo hi vs) (Mine.cutL lo hi xs):=by
 cases hi with
 |none=>cases lo with
  |none=>exact h
  |some d=>exact h.drop d
 |some b=>cases lo with
  |none=>exact h.take b
  |some d=>exact(h.take b).drop d
theorem Dd(lo hi:Option Nat)(l:List Value):kms_pick l (yj lo) (yj hi)=Mine.cutL lo hi l:=by
 have h1:∀n:Nat,¬(Int.ofNat n<0):=λn=>by simp
 have h0:∀n:Nat,(Int.ofNat n).toNat=n:=λn=>rfl;cases lo with
 |none=>
  cases hi with
  |none=>simp[kms_pick,kms_lo,kms_hi,Mine.cutL,yj]
  |some b=>simp only[kms_pick,kms_lo,kms_hi,Mine.cutL,yj,Zs (h1 b),h0,List.drop_zero,Nat.sub_zero,kmk_take_min]
 |some a=>
  cases hi with
  |none=>
   simp only[kms_pick,kms_lo,kms_hi,Mine.cutL,yj,Zs (h1 a),h0,kmk_drop_min];rw[zaI];rw[List.length_drop];exact Nat.sub_le_sub_left (Nat.min_le_left ..) _
  |some b=>
   simp only[kms_pick,kms_lo,kms_hi,Mine.cutL,yj,Zs (h1 a),Zs (h1 b),h0,kmk_drop_min];rw[List.drop_take];by_cases hb:b<=l.length
   ·by_cases ha:a<=l.length
    ·rw[zbz hb,zbz ha]
    ·rw[zbz hb,Nat.min_eq_right (zaM ha)];rw[(Nat.sub_eq_zero_of_le hb),(Nat.sub_eq_zero_of_le (YU hb (zaM ha)))]
   ·rw[Nat.min_eq_right (zaM hb)];by_cases ha:a<=l.length
    ·rw[zbz ha];rw[zaI (by rw[List.length_drop];exact Zd _),zaI (by rw[List.length_drop];exact Nat.sub_le_sub_right (zaM hb) a)]
    ·rw[List.drop_of_length_le (zaM ha)];simp
theorem uk(b n:Nat)(hb:b<=n):Builtin.Slice.sliceAdjust none (some (b:Int)) 1 (n:Int)=(0,(b:Int)):=by
 show(0,if (b:Int)<0 then max ((b:Int)+n) 0 else min (b:Int) n)=_;rw[Zs (zbK.mpr (ZR b)),Int.min_eq_left (ZI.mpr hb)]
theorem tx(b:Nat):Builtin.Slice.slicePlaces 0 (b:Int) 1=b:=by
 unfold Builtin.Slice.slicePlaces;simp only[(show(1:Int)>0 from ak),if_true,Int.ediv_one];split
 ·rw[Int.sub_zero,Int.sub_add_cancel];rfl
 ·rename_i q;exact(Nat.eq_zero_of_not_pos λh=>q (zbw.mpr h)).symm
theorem jV{b n:Nat}(hs:s.heap.IsSliceOf sl .none (.int b u) .none)(hb:b<=n)(h:Q (0,1,b) s):
  wpAny (model prog w) A (Builtin.Slice.sliceApplied (.ref sl) (pure (n:Int))) Q E s:=by
 refine aZ (id hs) λos yt TS K5=>?_;refine YT (YT (zaQ yt K5 (x:= .none) rfl (YT (zaQ yt K5 (x:= .int b u) rfl (YT (zaQ yt K5 (x:= .none) rfl (Y7 ?_)))))));refine YT (slicePart_none ?_);rw[Zs ak];refine YT (slicePart_none (YT (slicePart_int (YT (Y7 ?_)))));show wpAny _ _ (match Builtin.Slice.sliceAdjust none (some (b:Int)) 1 (n:Int)with|(lo,hi)=>pure (lo,(1:Int),Builtin.Slice.slicePlaces lo hi 1)) _ _ s;rw[uk b n hb];show wpAny _ _ (pure ((0:Int),(1:Int),Builtin.Slice.slicePlaces (0:Int) (b:Int) 1)) _ _ s
 (refine(tx b).symm ▸?_)
 exact Y7 h
theorem zk(xs:Array Value)(b:Nat):((List.range b).filterMap λ(k:Nat)=>xs[((0:Int)+(k:Int)*1).toNat]?).toArray=(xs.toList.take b).toArray:=by
 rw[(show(λ(k:Nat)=>xs[((0:Int)+(k:Int)*1).toNat]?)=λk=>xs[0+k]? from by
  funext k;have:((0:Int)+(k:Int)*1).toNat=0+k:=Zz _ _;rw[this])]
 have:=pick_run xs 0 b;rw[List.filterMap_map]at this;rw[(show((λx=>xs[x]?)∘λx=>0+x)=λk=>xs[0+k]? from rfl)]at this;rw[this,List.drop_zero]
theorem jc{t sl:Addr}{b:Nat}(ht:IsTup s.heap t dw)(hs:s.heap.IsSliceOf sl .none (.int b u) .none)(hb:b<dw.size)(h:Q (.ref s.heap.objs.size) {s with heap:=s.heap.push {cls:= .type "tuple",data:= .seq (dw.toList.take b).toArray}})(hsz:dw.size<=sizeLine):wpAny (model prog w) A (getItem (.ref t) (.ref sl)) Q E s:=by
 have wU:=by
  show(dw.toList.take b).toArray.size<=sizeLine;rw[List.size_toArray,List.length_take,Array.length_toList];exact YU (Nat.min_le_right ..) hsz
 refine aZ (id hs) λos yt TS K5=>?_;unfold getItem
 try with_reducible refine ZE ?_
 first|refine YT (Y7 ?_)|skip
 refine YT (wpAny_sequenceKey ht.typeIs ak ?_)
 refine YT (wpAny_callSpecial?_slot (name:=Str.ofString "__getitem__") ht.typeIs zaX
  (wpAny_call_entry zaX ht.typeIs entry_tuple_getitem ?_ (args_tuple_getitem _ _)))
 show wpAny _ _ (Builtin.Tuple.tupleItemsOf (.ref t)>>=_) _ _ s;refine YT (tupleItemsOf_ ht ?_);refine YT (wpAny_typeOf ((al os yt TS)) ?_);rw[ZU ak];refine YT (jV hs (zac hb) ?_);show wpAny _ _ (if ((0:Int)==0&&(1:Int)==1&&b==dw.size)=true then _ else _) _ _ s
 rw[Zs (by
  rw[(show(b==dw.size)=false from by rw[zag];exact Z3 ‹_›)];simp),zk dw b]
 first
  |exact YT (m:=Builtin.Tuple.tupleExact _) (zaG (Y7 ⟨_,rfl,Y7 h⟩) wU)
  |exact YT (m:=Builtin.Tuple.tupleExact _) (zaG (YT (Y7 (Y7 ⟨_,rfl,Y7 h⟩))) wU)
  |exact YT (YT (m:=Builtin.Tuple.tupleExact _) (zaG (Y7 (Y7 ⟨_,rfl,Y7 h⟩)) wU))
  |exact YT (YT (m:=Builtin.Tuple.tupleExact _) (zaG (Y7 ⟨_,rfl,Y7 h⟩) wU))
theorem kP{lo hi:Option Nat}(h:jq lo hi n=true):n<=1000/\((∃a,lo=some a/\hi=none/\1<=a/\a<=n)\/(∃b,lo=none/\hi=some b/\b<n)):=by
 refine⟨qe (an h).1,?_⟩;cases lo with
 |some a=>
  exact .inl (AW a rfl (zat.mp (an ((an h).2)).1) (YX (an (an ((an h).2)).2).1) (YX (an (an ((an h).2)).2).2))
 |none=>
  cases hi with
  |none=>exact nf ((an h).2)
  |some b=>exact .inr (aM b rfl rfl (YX ((an h).2)))
theorem CP(l:List Nat)(a:Nat)(h1:1<=a)(ha:a<=l.length):Txt.slice ⟨l.toArray⟩ (some (a:Int)) none=⟨(l.drop a).toArray⟩:=by
 unfold Txt.slice
 (refine((show(⟨l.toArray⟩:Str).length=l.length from by rfl)).symm ▸?_;refine((show strSliceIndices (some (a:Int)) none 1 l.length=(List.range (l.length - a)).map (a+·)from by
  (refine(sliceRange_one a l.length) ▸?_)
  unfold strSliceIndices;have h2:¬((a:Int)<0):=zbK.mpr (ZR a);simp only[h2,if_false];congr 1;show max 0 (min (a:Int) l.length)=a;rw[Int.min_eq_left (ZI.mpr ha)];exact Int.max_eq_right (ZR a))).symm ▸?_)
 rw[Zs (by
  rw[(show(((List.range (l.length - a)).map (a+·)).length==l.length)=false from by
   rw[zag,Zu,List.length_range];exact Z3 (Nat.sub_lt (Y9 h1 ha) h1))];simp),pick_run l.toArray a]
 congr 2;exact zaI (by simp)
theorem CO(l:List Nat)(b:Nat)(hb:b<l.length):Txt.slice ⟨l.toArray⟩ none (some (b:Int))=⟨(l.take b).toArray⟩:=by
 unfold Txt.slice
 (refine((show(⟨l.toArray⟩:Str).length=l.length from by rfl)).symm ▸?_;refine((show strSliceIndices none (some (b:Int)) 1 l.length=(List.range (b - 0)).map (0+·)from by
  (refine(sliceRange_one 0 b) ▸?_)
  unfold strSliceIndices;have h2:¬((b:Int)<0):=zbK.mpr (ZR b);simp only[h2,if_false];congr 1;show max 0 (min (b:Int) l.length)=b;rw[Int.min_eq_left (ZI.mpr (zac hb))];exact Int.max_eq_right (ZR b))).symm ▸?_)
 rw[Zs (by
  rw[(show(((List.range (b - 0)).map (0+·)).length==l.length)=false from by
   rw[zag,Zu,List.length_range];exact Z3 ‹_›)];simp),pick_run l.toArray 0]
 rfl
def uK(vl vu:Value):Obj:={cls:= .type "slice",data:= .fields #[vl,vu, .none]}
theorem y8{lo hi:Option Nat}{sp:Pos}(hc:jq lo hi vs.length=true)(hx:VR W κ (.tup vs) a)(e1:∃t,vl=match lo with|none=> .none|some n=> .int (n:Int) t)(e2:∃t,vu=match hi with|none=> .none|some n=> .int (n:Int) t)(R:bz W C κ σ s)(k:bE W C (λκ=>VR W κ) Q E (.ok (.tup (Mine.cutL lo hi vs))) κ σ):wpAny (model W.prog W.w) C.A (subscriptTail ve (.Slice lower upper none sp) a (.ref s.heap.objs.size)) Q E {s with heap:=s.heap.push (uK vl vu)}:=by
 refine dc (kP hc) λhn Bv=>?_
 (refine a8 (hx.tup) λp xs q3 h1 h2=>?_;subst q3)
 have el:xs.toArray.size=vs.length:=h2.length.symm
 let z0:=uK vl vu
 refine bi (id (show bz W C κ σ {s with heap:=s.heap.push z0}from R.push)) λm aw frs r=>?_
 have MC:=(show∀(ys:List Value),cH W κ (Mine.cutL lo hi vs) ys->Q (.ref (s.heap.push z0).objs.size) {s with heap:=(s.heap.push z0).push {cls:= .type "tuple",data:= .seq ys.toArray}}from by
  intro ys WJ;refine dc (r.newTup (vs:=ys) (s':={s with heap:=(s.heap.push z0).push {cls:= .type "tuple",data:= .seq ys.toArray}}) (r.F.push _) (r.N.push r.F _) (gM r) ⟨rfl,rfl,_,rfl⟩ rfl rfl) λle r'=>?_;exact k _ _ le _ (by exact(aY _ ys rfl (ZU rfl) (WJ.mono le))) (b6 m _ frs r')) _ (h2.cutL (lo:=lo) (hi:=hi))
 have T1:=(show bz W C κ σ {s with heap:=s.heap.push z0}from R.push).isTup h1;obtain⟨t1,rfl⟩:=e1;obtain⟨t2,rfl⟩:=e2;rcases Bv with⟨n,rfl,rfl,g1,g2⟩|⟨n,rfl,rfl,g1⟩
 ·exact zbk T1.typeIs zaX.lookup (getItem_tuple_from T1 (zbM ..) g1 (by rw[el];exact g2) MC (by rw[el];exact YU hn ak)) rfl
 ·exact zbk T1.typeIs zaX.lookup (jc T1 (zbM ..) (by rw[el];exact g1) MC (by rw[el];exact YU hn ak)) rfl
theorem y9{lo hi:Option Nat}{sp:Pos}(hc:jq lo hi cs.length=true)(hx:VR W κ (.str cs) a)(e1:∃t,vl=match lo with|none=> .none|some n=> .int (n:Int) t)(e2:∃t,vu=match hi with|none=> .none|some n=> .int (n:Int) t)(R:bz W C κ σ s)(k:bE W C (λκ=>VR W κ) Q E (.ok (.str (Mine.cutL lo hi cs))) κ σ):wpAny (model W.prog W.w) C.A (subscriptTail ve (.Slice lower upper none sp) a (.ref s.heap.objs.size)) Q E {s with heap:=s.heap.push (uK vl vu)}:=by
 refine dc (kP hc) λhn Bv=>?_;obtain⟨tt,rfl⟩:=hx.str;obtain⟨t1,rfl⟩:=e1;obtain⟨t2,rfl⟩:=e2;rcases Bv with⟨n,rfl,rfl,g1,g2⟩|⟨n,rfl,rfl,g1⟩
 ·refine zbk (typeIs_str _ _ _) zbh.lookup (wpAny_getItem_str_slice (l:=some (_,_)) (u:=none) (st:=none) (aM _ (zaw _ rfl) rfl rfl) rfl
   (post_val_or_str (Q:=Q) ⟨YU (Txt.slice_le _ (some (n:Int)) none) (YU hn ak),λt' kk=>?_⟩)) rfl
  show Q (.str (Txt.slice ⟨cs.toArray⟩ (some (n:Int)) none) t') _;rw[CP cs n g1 g2];exact k.done (wH _ _) ((λn=>R.push.toks) kk)
 ·refine zbk (typeIs_str _ _ _) zbh.lookup (wpAny_getItem_str_slice (l:=none) (u:=some (_,_)) (st:=none) (aM _ (zaw _ rfl) rfl rfl) rfl
   (post_val_or_str (Q:=Q) ⟨YU (Txt.slice_le _ none (some (n:Int))) (YU hn ak),λt' kk=>?_⟩)) rfl
  show Q (.str (Txt.slice ⟨cs.toArray⟩ none (some (n:Int))) t') _;rw[CO cs n g1];exact k.done (wH _ _) ((λn=>R.push.toks) kk)
theorem za{lo hi:Option Nat}{sp:Pos}(ho:nth (σ.heap t') i=some (.list vs))(hb:Nat.ble vs.length ay=true)(hx:VR W κ (.obj t' i) a)(p1:IsPart vl (yj lo))(p2:IsPart vu (yj hi))(R:bz W C κ σ s)(k:bE W C (λκ=>VR W κ) Q E (.ok (.obj t (σ.heap t).length)) κ (σ.add t (.list (Mine.cutL lo hi vs)))):wpAny (model W.prog W.w) C.A (subscriptTail ve (.Slice lower upper none sp) a (.ref s.heap.objs.size)) Q E {s with heap:=s.heap.push (uK vl vu)}:=by
 (refine U (hx.obj) λp q2 h1=>?_;subst q2)
 refine bi (id (R.push (o:=uK vl vu))) λm aw frs r=>?_;refine cY (r.nr.obj ho) λa' iK kk g1 g2 g3=>?_;obtain rfl:=si (h1.symm.trans g1);refine zbk (Heap.IsList.typeIs (s:={s with heap:=s.heap.push (uK vl vu)}) (⟨_,(r.N _ (YQ _ g2)).1,rfl,_,rfl⟩)) list_getitem_lookup (wpAny_getItem_list_slice (⟨_,(r.N _ (YQ _ g2)).1,rfl,_,rfl⟩) (zbM ..) p1 p2 .none nofun ?_ (by show iK.length<=sizeLine;(refine(g3.length) ▸?_);exact gf hb)) rfl;have F':=r.F.push {cls:= .type "list",data:= .seq (slicePick iK.toArray (yj lo) (yj hi) none)};have N':=r.N.push r.F {cls:= .type "list",data:= .seq (slicePick iK.toArray (yj lo) (yj hi) none)};rw[kms_pick_eq,Dd]at F' N'⊢;refine dc (r.new (t:=t) (mo:= .list (Mine.cutL lo hi vs)) (s':={s with heap:=_}) F' N' (gM r) (iO _ _ (0) (Kn.add_self) (.head _) ((g3.cutL (lo:=lo) (hi:=hi)).mono (Kn.le_add (r.offEnd t false)))) rfl rfl) λyp r'=>?_;exact k _ _ yp _ (by exact(al _ rfl (Kn.add_self))) (b6 m _ frs r')
theorem CV{sp:Pos}(hs:M.slice t x l h σ=some (res,σ'))(hx:VR W κ x a)(hl:VR W κ l vl)(hh:VR W κ h vu)(R:bz W C κ σ s)(k:bE W C (λκ=>VR W κ) Q E res κ σ'):wpAny (model W.prog W.w) C.A (subscriptTail ve (.Slice lower upper none sp) a (.ref s.heap.objs.size)) Q E {s with heap:=s.heap.push (uK vl vu)}:=by
 refine U (gH hs) λlo LH g=>?_;refine U (gH g) λhi Qx g=>?_;cases x with
 |tup vs=>
  obtain⟨hc,g⟩:=cP g;obtain⟨rfl,rfl⟩:=ao g;exact y8 hc hx (kf LH hl).1 (kf Qx hh).1 R k
 |str cs=>
  obtain⟨hc,g⟩:=cP g;obtain⟨rfl,rfl⟩:=ao g;exact y9 hc hx (kf LH hl).1 (kf Qx hh).1 R k
 |obj t' i=>
  refine hg λcg kg=>?_;refine U (iV g) λo ho g=>?_
  (refine U (l5 g) λvs q2 g=>?_;subst q2)
  obtain⟨hb,g⟩:=cP g;obtain⟨rfl,rfl⟩:=ik g;refine kg ?_;exact za ho hb hx (kf LH hl).2 (kf Qx hh).2 R k
 |_=>exact nt g
theorem GB{lo hi:Option Expr}{sp pos:Pos}(he:SndE W C e mx)(hl:w9 W C ih lo xlo)(hh:w9 W C ih hi xhi):
  SndE W C (.Subscript e (.Slice lo hi none sp) pos) (M.bind mx λx=>M.bind (G8 ih xlo) λl=>M.bind (G8 ih xhi) λh=>M.slice t x l h):=by
 intro κ σ res σ' h s Q E R k;refine Subscript_ ?_;refine bU.bind (he κ σ) h R k λam ai x a aE le hx ar ap k₁=>?_;refine wpAny_Slice ?_;refine bU.bind (Ci hl am ai) ap ar k₁ λbK bG l vl c8 aX WO bD aS dP=>?_;refine bU.bind (Ci hh bK bG) aS bD dP λjj og u vu pc dv IF lc fq uP=>?_;refine wpAny_evalPart_none ?_;exact CV fq ((hx.mono aX).mono dv) (WO.mono dv) IF lc uP
end
end Mine
end
section
namespace Mine
open PySem PySem.W PyProof.Rows PySem.Calls
def dict0:Obj:={cls:= .type "dict",data:= .dict #[]}
section
variable{W:SW}{C:Cx}{κ:Kn}{σ:St}{s:Shared}
theorem qm(h:Heap){K:Type} [DecidableEq K](knd:KeyKind W.prog W.w K):Mine.dict0.IsDictOf knd []:=by
 refine U (zay.mp (Heap.DictOf.new (knd:=knd) h)) λo ho hd=>?_;rw[zaw _ rfl]at ho
 (refine((show Mine.dict0=o from YZ ho)).symm ▸?_);exact hd
theorem KB(h:(a==sysModules)=false):eK W κ 0 [] a Mine.dict0 where
 low:=h
 zero:=λ_=>rfl
 one:=λ_=>(al ([]) (qm W.base (PySem.strKind W.prog W.w)) rfl)
 two:=λ_=>(al ([]) (qm W.base (PySem.intKind W.prog W.w)) rfl)
 three:=λ_=>(al ([]) ((ci (#[]) _ (gA rfl rfl rfl) rfl rfl (.nil))) rfl)
theorem a9.dict0{aw frs:List (Addr×Obj)}(r:a9 W C κ σ s m aw frs)(t:Nat):
  κ.Le (κ.add t (σ.heap t).length false s.heap.objs.size)/\a9 W C (κ.add t (σ.heap t).length false s.heap.objs.size) (σ.add t (.dict 0 [])) {s with heap:=s.heap.push Mine.dict0} m ((s.heap.objs.size,Mine.dict0)::aw) frs:=by
 exact r.new (t:=t) (mo:= .dict 0 []) (s':={s with heap:=s.heap.push Mine.dict0}) (r.F.push Mine.dict0) (r.N.push r.F Mine.dict0) (gM r)
  (aY _ _ (Kn.add_self) (.head _) (KB (r.F.notModules (modules_low W.lim)))) rfl rfl
def Ll(W:SW)(κ:Kn):List (V×V)->List (Value×Value)->Prop
 | [],l=>l= []
 |p::ps,l=>∃q r,l=q::r/\VR W κ p.1 q.1/\VR W κ p.2 q.2/\Ll W κ ps r
theorem wm:∀{ks:List (Option Expr)} {vs:List Expr} {xv:List Ex},cm (λ(e:Option Expr) x=>∃e',e=some e'/\SndE W C e' (ih.e x)) ks xk->cm (λe x=>SndE W C e (ih.e x)) vs xv->ks.length=vs.length->
  ∀κ σ,bU W C κ σ (evalPairs (pairTrees ks vs C.env pos)) (dM ih xk xv σ) (λκ=>Ll W κ):=by
 induction xk with
 |nil=>
  intro ks vs xv h1 _ hl κ σ res σ' hr s Q E R k;cases ks with
  |cons _ _=>exact h1.elim
  |nil=>
   cases vs with
   |cons _ _=>exact nomatch hl
   |nil=>
    obtain⟨rfl,rfl⟩:=ao hr;exact evalPairs_nil (k.done rfl R)
 |cons x xk i=>
  intro ks vs xv h1 h2 hl κ σ res σ' hr s Q E R k;cases ks with
  |nil=>exact h1.elim
  |cons ko ks=>
   cases vs with
   |nil=>exact nomatch hl
   |cons v vs=>
    cases xv with
    |nil=>exact h2.elim
    |cons y xv=>
     obtain⟨⟨e',rfl,h0⟩,h1⟩:=h1;refine evalPairs_cons ?_;refine bU.bind (h0 κ σ) hr R k λam ai a av aE le ha ar Br k₁=>?_;refine YT ?_;refine bU.bind (h2.1 am ai) Br ar k₁ λbK bG b bv c8 aX hb bD Bq dP=>?_;refine YT (ZW (Y7 ?_));refine bU.bind (i h1 h2.2 (zaW hl) bK bG) Bq bD dP λjj og ps qs pc dv Qp lc NP uP=>?_;obtain⟨rfl,rfl⟩:=ao NP;exact uP.done (ci _ _ rfl ((ha.mono aX).mono dv) (hb.mono dv) Qp) lc
theorem m1(h:(aO k ps).isNone=true):∀p∈ps,p.1≠k:=by
 induction ps with
 |nil=>intro p hp;exact nomatch hp
 |cons q r i=>
  intro p hp;rw[Qd]at h;refine cX (q.1.beq k) (λhb=>?_) λhb=>?_
  ·rw[hb]at h;exact nf h
  ·
   rw[hb]at h;rcases YS.mp hp with rfl|hp
   ·exactλe=>nf (hb.symm.trans (V.beq_iff.mpr e))
   ·exact i h p hp
theorem KV.mem{K:Type}{R:V->K->Prop}:∀{br:List (K×Value)},KV R S ps br->∀x∈br,∃p∈ps,R p.1 x.1:=by
 induction ps with
 |nil=>intro br h x hx;subst h;exact nomatch hx
 |cons p ps ih=>
  intro br h x hx
  (refine cQ h λq r q3 a _ b=>?_;clear h;subst q3)
  rcases YS.mp hx with rfl|hx
  ·exact(al p (.head _) a)
  ·refine U (ih b x hx) λp' h1 h2=>?_;exact(al p' (.tail _ h1) h2)
theorem mN:cO (.tup vs)=3\/cO (.tup vs)=4:=by
 show(match vs.all cA with|true=>3|false=>4)=3\/(match vs.all cA with|true=>3|false=>4)=4;cases vs.all cA
 ·exact .inr rfl
 ·exact .inl rfl
theorem DB(h:cO k=1):∃l,k= .str l:=by
 cases k with
 |str l=>exact⟨l,rfl⟩
 |tup vs=>rcases mN (vs:=vs)with e|e<;>exact absurd (e.symm.trans h) ak
 |_=>exact nomatch h
theorem DA(h:cO k=2):∃i,k= .int i:=by
 cases k with
 |int l=>exact⟨l,rfl⟩
 |tup vs=>rcases mN (vs:=vs)with e|e<;>exact absurd (e.symm.trans h) ak
 |_=>exact nomatch h
theorem Dx(h:cO k=1)(hv:VR W κ k u):∃a,(PySem.strKind W.prog W.w).is a u=true/\RS k a:=by
 (refine eX (DB h) λl q2=>?_;subst q2)
 obtain⟨t,rfl⟩:=hv.str;exact⟨_,zaa _ _ _ _,l,rfl,rfl⟩
theorem Dy(h:cO k=2)(hv:VR W κ k u):∃a,(PySem.intKind W.prog W.w).is a u=true/\RI k a:=by
 (refine eX (DA h) λl q2=>?_;subst q2)
 obtain⟨t,rfl⟩:=hv.int;exact(al _ (ZK _ _ _ _) rfl)
theorem zl{K:Type} [DecidableEq K]{knd:PySem.KeyKind W.prog W.w K}{R:V->K->Prop}(hR:∀{p q:V} {a b:K},R p a->R q b->(p=q↔a=b))(hk:∀{k:V} {u:Value},cO k=kd->VR W κ k u->∃a,knd.is a u=true/\R k a):∀{qs:List (Value×Value)},be kd ps=true->Ll W κ ps qs->∃br:List (K×Value),Carries knd qs br/\KV R (VR W κ) ps br/\(br.map (·.1)).Nodup:=by
 induction ps with
 |nil=>intro qs _ h;subst h;exact(aM ([]) trivial rfl (.nil))
 |cons p ps i=>
  intro qs hd h
  (refine cQ h λq r q3 h1 h2 h3=>?_;clear h;subst q3)
  refine aZ (i (an hd).2 h3) λbr c1 c2 c3=>?_;refine U (hk (YY (an (an (an hd).1).1).1) h1) λa h4 h5=>?_;refine(aM ((a,q.2)::br) (gA h4 rfl c1) (ci _ _ rfl h5 h2 c2) ?_);rw[Y5,Zc];refine⟨λhm=>?_,c3⟩;refine U (Zj.mp hm) λx hx e=>?_;refine U (c2.mem x hx) λp' hp hr=>?_;exact m1 (an (an hd).1).2 p' hp ((hR hr h5).mpr e)
theorem a9.refill{aw frs:List (Addr×Obj)}(r:a9 W C κ σ s m aw frs){ob o':Obj}(h1:κ.at_ t i false=some d)(hm:(d,ob)∈aw)(nt:ob.cls≠ .type "tuple")(n6:s'.heap.get? d=some o')(hs:Heap.SameBut d s.heap s'.heap)(hg:s'.gens=s.gens)(yt:s'.os=s.os)(ho:gB W κ (bT d o' aw) t i mo):a9 W C κ (σ.put t i mo) s' m (bT d o' aw) frs:=by
 refine cQ ((ju r.nd (YQ frs hm)).split) λpre post e1 e2 ea eb=>?_
 exact r.put (t:=t) (i:=i) (b:=false) (d:=d) (o':=o') (mo:=mo) h1 hm nt (r.F.change hs (r.N _ (YQ frs hm)).2.1 (r.N _ (YQ frs hm)).2.2) (by
  rw[e2 o'];have N0:=r.N;rw[e1]at N0;exact N0.setIn ea eb hs n6) ho hg yt
theorem wa(h:M.fill o kd ps σ=some (res,σ')):∃t i,o= .obj t i/\nth (σ.heap t) i=some (.dict 0 [])/\res= .ok ()/\σ'=σ.put t i (.dict kd ps):=by
 (refine cY (nE h) λt i ob q4 ho g=>?_;subst q4)
 refine hg λcg kg=>?_;(refine bR (HN g) λk es q3 g=>?_;subst q3)
 obtain⟨e,g⟩:=cP g;obtain rfl:=YY (an e).1;obtain rfl:=Zk.mp (an e).2;refine kg ?_;exact(aY t i rfl ho (ig g))
theorem sX{K:Type} [DecidableEq K]{knd:PySem.KeyKind W.prog W.w K}{R:V->K->Prop}(hR:∀{p q:V} {a b:K},R p a->R q b->(p=q↔a=b))(hk:∀{k:V} {u:Value},cO k=kd->VR W κ k u->∃a,knd.is a u=true/\R k a)(r:a9 W C κ σ s m aw frs)(g2:(d,o)∈aw)(hD:∃br,o.IsDictOf knd br/\KV R (VR W κ) [] br)(dr:∀o',(∃br,o'.IsDictOf knd br/\KV R (VR W κ) ps br)->eK W κ kd ps d o')(ha:κ.at_ t i false=some d)(hd:be kd ps=true)(hn:ps.length<=16)(hv:Ll W κ ps qs)(k:bE W C (λ_ (_:Unit) (_:PUnit)=>True) Q E (.ok ()) κ (σ.put t i (.dict kd ps))):wpAny (model W.prog W.w) C.A (storeAll d qs) Q E s:=by
 (refine U hD λYq x1 x2=>?_;clear hD)
 subst x2;refine aZ (zl hR hk hd hv) λbr c1 c2 c3=>?_;refine wpAny_storeAll (knd:=knd) _ br [] s _ c1 (zay.mpr (al o (((r.N _ (YQ frs g2)).1)) x1)) (by rw[<-c2.length,zbA,zbq];exact YU hn ak) λh' nu iD=>?_;rw[merged_nil_of_nodup _ c3]at nu;refine U (zay.mp nu) λo' n6 Qz=>?_;exact k.done (a:=PUnit.unit) trivial (b6 m _ frs ((r.refill (t:=t) (i:=i) (d:=d) (o':=o') (mo:= .dict kd ps) (s':={s with heap:=h',toks:=s.toks+qs.length}) ha g2 (lK x1) n6 iD rfl rfl (aY d o' ha (aH (aU g2)) (dr o' (al _ Qz c2))))))
theorem Ge:cO k≠0:=by
 cases k with
 |tup vs=>exactλq=>by rcases mN (vs:=vs)with e|e<;>exact absurd (e.symm.trans q) ak
 |_=>exact nofun
theorem Gv(h0:nth (σ.heap t) i=some (.dict 0 []))(ha:κ.at_ t i false=some d)(hd:be (cc ps) ps=true)(hn:ps.length<=16)(hv:Ll W κ ps qs)(R:bz W C κ σ s)(k:bE W C (λ_ (_:Unit) (_:PUnit)=>True) Q E (.ok ()) κ (σ.put t i (.dict (cc ps) ps))):wpAny (model W.prog W.w) C.A (storeAll d qs) Q E s:=by
 refine bi (id R) λm aw frs r=>?_;refine a8 (r.nr.obj h0) λa' o g1 g2 D=>?_;obtain rfl:=si (ha.symm.trans g1);cases ps with
 |nil=>
  subst hv;refine U (D.one (.inl rfl)) λbr x1 _=>?_;exact Y7 (k.done (a:=PUnit.unit) trivial (b6 m _ frs ((r.refill (t:=t) (i:=i) (d:=d) (o':=o) (mo:= .dict 0 []) (s':=s) ha g2 (lK x1) (r.N _ (YQ frs g2)).1 (Heap.SameBut.refl _ _) rfl rfl (aY d o ha (aH (aU g2)) D)))))
 |cons p Tc=>
  have hd:be (cO p.1) (p::Tc)=true:=hd;have k:bE W C (λ_ (_:Unit) (_:PUnit)=>True) Q E (.ok ()) κ (σ.put t i (.dict (cO p.1) (p::Tc))):=k;have h3:cO p.1<3:=YX (an (an (an hd).1).1).2;generalize cO p.1=kd at hd k h3;have hp:kd≠0:=λe=>Ge ((YY (an (an (an hd).1).1).1).trans e);rcases Wv h3 with rfl|rfl|rfl
  ·exact absurd rfl hp
  ·exact sX (λa b=>RS.iff a b) Dx r g2 (D.one (.inl rfl)) (λo'=>QT D.low) ha hd hn hv k
  ·exact sX (λa b=>RI.iff a b) Dy r g2 (D.two (.inl rfl)) (λo'=>Uj D.low) ha hd hn hv k
end
section
variable{W:SW}{C:Cx}{κ:Kn}{σ:St}{s:Shared}
def Bz(ih:Ih)(t:Nat)(ks vs:List Ex):M V:=M.bind (M.new t (.dict 0 [])) λo=>M.bind (dM ih ks vs) λps=>M.gd (be (cc ps) ps&&Nat.ble ps.length 16) (M.bind (M.fill o (cc ps) ps) λ_=>M.pure o)
theorem kp(h:M.bind (M.new t o) f σ=some (res,σ')):f (.obj t (σ.heap t).length) (σ.add t o)=some (res,σ'):=h
theorem kx(h:M.bind (M.fill (.obj t n) kd ps) (λ_=>M.pure a) σ=some (res,σ')):nth (σ.heap t) n=some (.dict 0 [])/\res= .ok a/\σ'=σ.put t n (.dict kd ps):=by
 unfold M.bind at h;refine dI (M.fill (.obj t n) kd ps σ) (λhf=>?_) λz hf=>?_
 ·rw[hf]at h;exact nt h
 ·
  refine hg λcg kg=>?_;obtain⟨lR,ai⟩:=z
  (refine cQ (wa hf) λt' i' e h0 q5 q6=>?_;subst q5;subst q6)
  obtain⟨rfl,rfl⟩:=V.obj.inj e;refine kg ?_;rw[hf]at h;exact⟨h0,sp h⟩
theorem D2(h:M.gd (be (cc ps) ps&&Nat.ble ps.length 16) (M.bind (M.fill (V.obj t n) (cc ps) ps) λ_=>M.pure (V.obj t n)) σ=some (res,σ'))(ha:κ.at_ t n false=some d)(hv:Ll W κ ps qs)(R:bz W C κ σ s)(k:bE W C (λκ=>VR W κ) Q' E res κ σ')(hQ:∀s',Q' (.ref d) s'->Q PUnit.unit s'):wpAny (model W.prog W.w) C.A (storeAll d qs) Q E s:=by
 refine dc (cP h) λhb g=>?_
 (refine dU (kx g) λh0 q2 q3=>?_;subst q2;subst q3)
 refine Gv (t:=t) (i:=n) h0 ha (an hb).1 (YX (an hb).2) hv R λcK s' le=>?_;intro u _ R';cases u;exact hQ s' (k cK s' le _ (by exact(al d rfl (le.at_ ha))) R')
theorem zx{ih:Ih}:∀{ks:List (Option Expr)},cm (λ(e:Option Expr) x=>∃e',e=some e'/\SndE W C e' (ih.e x)) ks xk->ks.all (·.isSome)=true:=by
 induction xk with
 |nil=>
  intro ks h;cases ks with
  |nil=>rfl
  |cons _ _=>exact h.elim
 |cons x xk i=>
  intro ks h;cases ks with
  |nil=>rfl
  |cons o ks=>
   obtain⟨⟨e',rfl,_⟩,h⟩:=h;exact i (ks:=ks) h
theorem Kx(hk:cm (λ(e:Option Expr) x=>∃e',e=some e'/\SndE W C e' (ih.e x)) ks xk)(hv:cm (λe x=>SndE W C e (ih.e x)) vs xv)(hl:ks.length=vs.length)(h0:ks≠ [])(XQ:ks.length<=15):SndE W C (.Dict ks vs pos) (Bz ih t xk xv):=by
 intro κ σ res σ' h s Q E R k
 (refine bi R λm aw frs r=>?_;clear R)
 obtain⟨le,r'⟩:=r.dict0 t;refine wpAny_Dict_any (zx hk) hl h0 XQ ?_;refine bU.bind (wm hk hv hl _ _) (kp h) (b6 m _ frs r') (k.mono le) λam ai ps qs aE NI Qp ar ap k₁=>?_;exact D2 ap (NI.at_ Kn.add_self) Qp ar k₁ λs' q=>q
theorem GC:SndE W C (.Dict [] [] pos) (Bz ih t [] []):=by
 intro κ σ res σ' h s Q E R k
 (refine bi R λm aw frs r=>?_;clear R)
 obtain⟨le,r'⟩:=r.dict0 t;refine wpAny_Dict_empty ?_
 (refine dU (kx (a:=V.obj t (σ.heap t).length) (kd:=0) (ps:= []) (kp h)) λh0 q2 q3=>?_;subst q2;subst q3)
 refine a8 (r'.nr.obj h0) λa' o g1 XR D=>?_;obtain rfl:=si (Kn.add_self.symm.trans g1);obtain rfl:o=Mine.dict0:=cJ r'.ndT XR (.head _);exact k _ _ le _ (by exact(al _ rfl (Kn.add_self))) (b6 m _ frs ((r'.refill (t:=t) (i:=(σ.heap t).length) (d:=s.heap.objs.size) (o':=Mine.dict0) (mo:= .dict 0 []) (s':={s with heap:=s.heap.push Mine.dict0}) Kn.add_self (.head _) wY (r'.N _ (YQ frs (.head _))).1 (Heap.SameBut.refl _ _) rfl rfl (aY _ _ (Kn.add_self) (aH (aU (.head _))) D))))
def I7(e:Ex):Option (List Nat):=match e with
 | .k v=>oS v some
 |_=>none
theorem B8(h:I7 e=some a):e= .k (.str a):=by
 cases e with
 |k v=>(refine U (ET h) λl q2 g=>?_;subst q2);rw[si g]
 |_=>exact nt h
noncomputable def wI:List Ex->List Ex->Option (List (List Nat×List Nat))
 | [],vs=>gD vs.isEmpty (some [])
 |k::ks,vs=>match vs with
  | []=>none
  |v::vs=>(I7 k).bind λa=>(I7 v).bind λb=>(wI ks vs).map ((a,b)::·)
def Im(l:List (List Nat×List Nat)):List (V×V):=l.map λp=>(.str p.1, .str p.2)
theorem oC:∀{vs:List Ex} {l:List (List Nat×List Nat)},wI ks vs=some l->ks=l.map (λp=> .k (.str p.1))/\vs=l.map λp=> .k (.str p.2):=by
 induction ks with
 |nil=>intro vs l h;obtain⟨e,g⟩:=bX h;obtain rfl:=si g;exact⟨rfl,Zk.mp e⟩
 |cons k ks i=>
  intro vs l h;cases vs with
  |nil=>exact nt h
  |cons v vs=>
   refine U (ob h) λa e1 h=>?_;refine U (ob h) λb e2 h=>?_
   (refine U (om h) λr e3 q3=>?_;subst q3)
   obtain⟨rfl,rfl⟩:=i e3;rw[B8 e1,B8 e2];exact⟨rfl,rfl⟩
theorem vR(hk:∀v,ih.e (.k v)=M.fail\/ih.e (.k v)=M.pure v){l:List (List Nat×List Nat)}:∀{res:R (List (V×V))} {σ':St},dM ih (l.map λp=> .k (.str p.1)) (l.map λp=> .k (.str p.2)) σ=some (res,σ')->res= .ok (Im l)/\σ'=σ:=by
 induction l with
 |nil=>intro res σ' he;exact ao he
 |cons p l i=>
  intro res σ' he;have he:M.bind (ih.e (.k (.str p.1))) (λa=>M.bind (ih.e (.k (.str p.2))) λb=>M.bind (dM ih (l.map λp=> .k (.str p.1)) (l.map λp=> .k (.str p.2))) λr=>M.pure ((a,b)::r)) σ=some (res,σ'):=he;rcases hk (.str p.1)with e|e
  ·rw[e]at he;exact nt he
  ·rcases hk (.str p.2)with e'|e'
   ·rw[e,e']at he;exact nt he
   ·rw[e,e']at he;have he:M.bind (dM ih (l.map λp=> .k (.str p.1)) (l.map λp=> .k (.str p.2))) (λr=>M.pure ((V.str p.1,V.str p.2)::r)) σ=some (res,σ'):=he;unfold M.bind at he;refine dI (dM ih (l.map λp=> .k (.str p.1)) (l.map λp=> .k (.str p.2)) σ) (λhr=>?_) λz hr=>?_
    ·rw[hr]at he;exact nt he
    ·
     obtain⟨lR,ai⟩:=z;obtain⟨rfl,rfl⟩:=i hr;rw[hr]at he;exact sp he
inductive jt:List (Option Expr)->List Expr->List (List Nat×List Nat)->Prop
 |nil:jt [] [] []
 |cons {a b:List Nat} {k k':Nat} {p p':Pos} {ks:List (Option Expr)} {vs:List Expr} {ps:List (List Nat×List Nat)}:jt ks vs ps->jt (some (.Constant (.str ⟨a.toArray⟩) k p)::ks) (.Constant (.str ⟨b.toArray⟩) k' p'::vs) ((a,b)::ps)
theorem jt.len(h:jt ks vs ps):ks.length=vs.length/\ps.length=ks.length/\ks.all (·.isSome)=true:=by
 induction h with
 |nil=>exact(gA rfl rfl rfl)
 |cons _ i=>exact(gA (YV Nat.succ i.1) (YV Nat.succ i.2.1) (i.2.2))
def yY(d:Addr)(pairs:List (Sem Value×Sem Value)):Sem PUnit:=
 forIn pairs PUnit.unit λ(x:Sem Value×Sem Value) (_:PUnit)=>(do
  let kv<-x.1
  let vv<-holding [kv] x.2
  holding [kv,vv] (dictSet d kv vv)
  pure (ForInStep.yield PUnit.unit):Sem (ForInStep PUnit))
def Q4:List (List Nat×List Nat)->List (Str×Value)->Prop
 | [],l=>l= []
 |p::ps,l=>∃t r,l=(⟨p.1.toArray⟩, .str ⟨p.2.toArray⟩ t)::r/\Q4 ps r
theorem lf{ps:List (List Nat×List Nat)}(h:jt ks vs ps):∀{acc:List (Str×Value)} {s:Shared} {Q:PUnit->Shared->Prop},s.heap.DictOf (PySem.strKind W.prog W.w) d acc->acc.length+ps.length<=sizeLine->
  (∀h' n br,Q4 ps br->h'.DictOf (PySem.strKind W.prog W.w) d (merged acc br)->Heap.SameBut d s.heap h'->Q PUnit.unit {s with heap:=h',toks:=n})->
  wpAny (model W.prog W.w) C.A (yY d (pairTrees ks vs C.env pos)) Q E s:=by
 induction h with
 |nil=>intro acc s Q hm _ hQ;exact Y7 (hQ s.heap s.toks [] rfl hm (Heap.SameBut.refl _ _))
 | @cons a b k k' p p' ks vs ps _ i=>
  intro acc s Q hm hsz hQ;rw[zbn]at hsz;show wpAny _ _ (forIn ((eval _ C.env,_)::pairTrees ks vs C.env pos) PUnit.unit _) _ _ _;rw[List.forIn_cons];refine YT (YT (zbG (env:=C.env) (k:=k) (pos:=p) ?_));refine YT (ZE (YT (zbG (env:=C.env) (k:=k') (pos:=p') (YT (ZW (Y7 ?_))))));refine YT (ZE (wpAny_dictSet_pairs (hsz:=YU (Y4 _ _) hsz) (zaa _ _ _ _) hm λap NU oq=>Y7 ?_));refine i NU (YU (zaS (stored_length_le acc (⟨a.toArray⟩:Str) (.str ⟨b.toArray⟩ ({s with toks:=s.toks+1}:Shared).toks)) _) (by rw[ZF,Zz 1];exact hsz)) λh' n br hk rm iD=>?_;exact hQ h' n ((⟨a.toArray⟩, .str ⟨b.toArray⟩ _)::br) (gz _ _ rfl hk) rm (oq.trans iD)
theorem Dw:∀{br:List (Str×Value)},be 1 (Im ps)=true->Q4 ps br->KV RS (VR W κ) (Im ps) br/\(br.map (·.1)).Nodup:=by
 induction ps with
 |nil=>intro br _ h;subst h;exact⟨rfl, .nil⟩
 |cons p ps i=>
  intro br hd h;obtain⟨t,r,rfl,h⟩:=h;refine dc (i (an hd).2 h) λc2 c3=>?_;refine⟨(ci _ _ rfl (al (p.1) rfl rfl) (wH _ _) c2),?_⟩;rw[Y5,Zc];refine⟨λhm=>?_,c3⟩;refine U (Zj.mp hm) λx hx e=>?_;refine U (c2.mem x hx) λq hq hr=>?_;exact m1 (an (an hd).1).2 q hq ((RS.iff hr (al (p.1) rfl rfl)).mpr e)
theorem wn(hp:∀v,ih.e (.k v)=M.fail\/ih.e (.k v)=M.pure v)(hx:wI xk xv=some ps)(hr:jt ks vs ps)(QI:ps.length=16)(hd:be 1 (Im ps)=true):SndE W C (.Dict ks vs pos) (Bz ih t xk xv):=by
 intro κ σ res σ' h s Q E R k;refine hg λcg kg=>?_;obtain⟨rfl,rfl⟩:=oC hx;have h:=kp h;refine dU (hr.len) λhl As nG=>?_
 (refine bi R λm aw frs r=>?_;clear R)
 obtain⟨le,r'⟩:=r.dict0 t;refine kg ?_;have hn:=(pairTrees_length ks vs C.env pos nG hl).trans (As.symm.trans QI);unfold M.bind at h;refine dI (dM ih (ps.map λp=> .k (.str p.1)) (ps.map λp=> .k (.str p.2)) (σ.add t (.dict 0 []))) (λhe=>?_) λz he=>?_
 ·rw[he]at h;exact nt h
 ·
  obtain⟨lR,ai⟩:=z;rw[he]at h;obtain⟨rfl,rfl⟩:=vR hp he;have Xi:cc (Im ps)=1:=by
   cases ps with
   |nil=>exact nomatch QI
   |cons p ps=>rfl
  refine dc (cP h) λ_ g=>?_;rw[Xi]at g
  (refine dU (kx g) λYJ q2 q3=>?_;subst q2;subst q3)
  rw[arm_eval_Dict,zip_pairTrees ks vs C.env pos nG hl,dictDisplay_pairs _ (λhe=>by rw[he]at hn;exact nomatch hn) (by rw[hn];decide)];refine YT (ZW (YT ?_));refine YT (wpAny_alloc ?_);refine YT (ZE ?_);rw[Zs (by rw[hn];decide)];refine YT (wpAny_rule ?_);refine YT (wpAny_mono (lf hr (acc:= []) (Q:=λ_ s'=>Q (.ref s.heap.objs.size) s') (zay.mpr (al _ ((r'.N _ (YQ frs (.head _))).1) (qm W.base _))) (by rw[zbA,zbq,QI];decide) λh' n br Qt nu iD=>?_) (λ_ s' q=>Y7 (Y7 (Y7 q))) λ_ _ e=>e);obtain⟨c2,c3⟩:=Dw (W:=W) (κ:=κ.add t (σ.heap t).length false s.heap.objs.size) hd Qt;rw[merged_nil_of_nodup _ c3]at nu;refine U (zay.mp nu) λo' n6 Qz=>?_
  exact k _ _ le _ (by exact(al _ rfl (Kn.add_self))) (b6 m _ frs ((r'.refill (t:=t) (i:=(σ.heap t).length) (d:=s.heap.objs.size) (o':=o') (mo:= .dict 1 (Im ps)) (s':={s with heap:=h',toks:=n}) Kn.add_self (.head _) wY n6 iD rfl rfl
   (aY _ o' (Kn.add_self) (aH (aU (.head _))) (QT (r.F.notModules (modules_low W.lim)) (al _ Qz c2))))))
end
noncomputable def Cx.hold (C:Cx) (I:Addr) (o:Obj):Cx:={C with outs:=(I,iz.it o)::C.outs}
section
variable{W:SW}{C:Cx}{κ:Kn}{σ:St}{s:Shared}
def AZ(W:SW)(e:Expr)(x:Nat):Prop:=∃p,e= .Name (W.nm x) p
theorem DY:∀{es:List Expr},cm (AZ W) es xs->(assignEach es env).length=xs.length/\(assignEach es env).findIdx? (·.1)=none:=by
 induction xs with
 |nil=>
  intro es h;cases es with
  |nil=>exact⟨rfl,rfl⟩
  |cons _ _=>exact h.elim
 |cons x xs ih=>
  intro es h;cases es with
  |nil=>exact h.elim
  |cons e r=>
   obtain⟨⟨p,rfl⟩,h⟩:=h;obtain⟨h1,h2⟩:=ih h;refine⟨YV Nat.succ h1,?_⟩;show List.findIdx? _ ((false,PySem.assign (.Name (W.nm x) p) env)::assignEach r env)=none;rw[List.findIdx?_cons,h2];rfl
theorem wq(hk:C.scope.kind= .function){xs:List Nat}:∀{es:List Expr},cm (AZ W) es xs->(∀x∈xs,C.scope.names.lookup (W.nm x)=some .local)->
  ∀{κ:Kn} {σ:St} {vs:List V} {us:List Value},cH W κ vs us->bU W C κ σ (assignInOrder ((assignEach es C.env).map (·.2)) us) (bindAll xs vs σ) iI:=by
 induction xs with
 |nil=>
  intro es hn _ κ σ vs us hv res σ' h s Q E R k;cases es with
  |cons _ _=>exact hn.elim
  |nil=>
   obtain⟨e,g⟩:=cP h;obtain rfl:=Zk.mp e;obtain⟨rfl,rfl⟩:=ao g;exact assignInOrder_nil (k.done (a:=()) trivial R)
 |cons y ys ih=>
  intro es hn hl κ σ vs us hv res σ' h s Q E R k;cases es with
  |nil=>exact hn.elim
  |cons e r=>
   obtain⟨⟨p,rfl⟩,hn⟩:=hn;cases vs with
   |nil=>exact nt h
   |cons v vs=>
    (refine a8 (hv.cons) λu us q3 h1 h2=>?_;subst q3)
    refine assignInOrder_cons (wpAny_assign_Name ?_);refine bU.bind (V₁:=iI) (m:=M.bindN y v) (f:=λ_=>bindAll ys vs) (λ_ _ h _ _ _ R k=>fy hk (hl y (.head _)) h h1 R k) h R k λam ai _ _ aE le _ ar ap k₁=>?_;exact ih hn (λx hx=>hl x (.tail _ hx)) (h2.mono le) _ _ ap _ _ _ ar k₁
theorem uj:∀{vs:List V} {σ:St} {r:Mine.R Unit×St},bindAll xs vs σ=some r->xs.length=vs.length:=by
 induction xs with
 |nil=>intro vs σ r h;obtain rfl:=Zk.mp (cP h).1;rfl
 |cons x xs i=>
  intro vs σ r h;cases vs with
  |nil=>exact nt h
  |cons v vs=>exact YV Nat.succ (i (show bindAll xs vs (σ.setE (Mine.putN x v σ.env))=some r from h))
theorem bz.heapBut(R:bz W C κ σ s)(he:Heap.ExtBut s.heap.objs.size s.heap h'):bz W C κ σ {s with heap:=h'}:=by
 (refine bi R λm aw frs r=>?_;clear R)
 exact(b6 m aw frs ⟨r.F.extBut he (Zd _),r.N.extBut he (Zd _),r.nd,r.frs,r.nr,r.env,r.gens,r.os⟩)
theorem m5(hk:C.scope.kind= .function)(hh:C.A.handled=none)(hn:cm (AZ W) es xs)(hl:∀x∈xs,C.scope.names.lookup (W.nm x)=some .local):yQ W C (.Tuple es kk pos) (Mine.assign ih (.tup xs)):=by
 intro κ σ v u hv res σ' h s Q E R k
 (refine U (Nr h) λvs q2 h=>?_;subst q2)
 (refine a8 (hv.tup) λa us q3 h1 h2=>?_;subst q3)
 obtain⟨e1,e2⟩:=DY (env:=C.env) hn;refine assign_Tuple_tuple hh (R.isTup h1) (by rw[e1,uj h,h2.length];rfl) e2 λh' he=>?_;exact wq hk hn hl h2 _ _ h _ _ _ (R.heapBut he) k
theorem wt(hk:C.scope.kind= .function)(hl:C.scope.names.lookup (W.nm x)=some .local):yQ W C (.Name (W.nm x) pos) (Mine.assign ih (.loc x)):=by
 intro κ σ v u hv res σ' h s Q E R k;exact wpAny_assign_Name (fy hk hl h hv R k)
def notTup(e:Expr):Bool:= !Nat.beq e.ctorIdx 25
theorem vD(h:notTup e=true):swappedStores [.Tuple es kk p] e env=pure none:=by
 cases e<;>first|(cases h;done)|rfl
theorem Fz(h:iF e=true):swapsWithSole [t] e n env=pure false:=by
 cases e<;>first|(cases h;done)|rfl
theorem JO(hk:C.scope.kind= .function)(hh:C.A.handled=none)(hn:cm (AZ W) es xs)(hl:∀x∈xs,C.scope.names.lookup (W.nm x)=some .local)(hv:iF e=true)(W9:notTup e=true)(he:SndE W C e mx):
  SndS W C (.Assign [.Tuple es kk tp] e pos) (M.bind mx λv=>M.bind (Mine.assign ih (.tup xs) v) λ_=>M.pure .next):=by
 intro κ σ res σ' h s Q E R k;refine Assign_Tuple ?_ (Fz hv) (vD W9);refine bU.bind (he κ σ) h R k λam ai v u aE le hv ar ap k₁=>?_;exact bU.next (m5 (ih:=ih) hk hh hn hl am ai v u hv) ap ar k₁
end
section
variable{W:SW}{C:Cx}{κ:Kn}{σ:St}{s:Shared}
def Kept(I:Addr)(h h':Heap):Prop:=∀b o,b≠I->h.get? b=some o->h'.get? b=some o
theorem bz.held(R:bz W (C.hold I o) κ σ s):∃m aw frs,a9 W (C.hold I o) κ σ s m aw ((I,o)::frs)/\iA C.outs frs:=by
 (refine bi R λm aw frs r=>?_;clear R)
 have hf:=r.frs;dsimp only[Cx.hold,iA]at hf
 (refine cQ hf λq l' q3 h1 h2 h3=>?_;clear hf;subst q3)
 obtain⟨a,ob⟩:=q;simp only at h1 h2;subst h1;subst h2;exact(Jn m aw l' r h3)
theorem bz.there(R:bz W (C.hold I o) κ σ s):s.heap.get? I=some o/\I≠C.L/\W.base.get? I=none:=by
 refine uV (R.held) λm aw frs r _=>?_;exact r.N (I,o) (Y0 _ (.head _))
theorem xz{I:Addr}{o:Obj}(h:((aw++(I,o)::frs).map (·.1)).Nodup):((aw++frs).map (·.1)).Nodup/\I∉(aw++frs).map (·.1):=by
 rw[Y6,Y5,Zi]at h
 (refine dU h λh1 h2 h3=>?_;clear h)
 rw[Zc]at h2;refine⟨by rw[Y6,Zi];exact⟨h1,h2.2,λx hx y hy=>h3 x hx y (.tail _ hy)⟩,?_⟩;rw[Y6,Y8];rintro (h|h)
 ·exact h3 _ h _ (.head _) rfl
 ·exact h2.1 h
theorem bz.drop(R:bz W (C.hold I o) κ σ s)(hk:Kept I s.heap h'):bz W C κ σ {s with heap:=h',toks:=tk}:=by
 refine uV (R.held) λm aw frs r hf=>?_;obtain⟨nd,hI⟩:=xz r.nd;have hi:=r.N (I,o) (Y0 _ (.head _));refine(b6 m aw frs (⟨⟨r.F.ns.at' λo e=>hk _ _ (λq=>hi.2.1 q.symm) e,λb x e=>hk b x (λq=>by rw[q,hi.2.2]at e;cases e) (r.F.keep b x e),r.F.above⟩,λp hp=>?_,nd,hf,r.nr,r.env,r.gens,r.os⟩))
 have z:=r.N p (by
  rcases Y8.mp hp with x|x
  ·exact YQ _ x
  ·exact Y0 _ (.tail _ x))
 exact⟨hk _ _ (λq=>hI (q ▸ Zm hp)) z.1,z.2⟩
theorem bz.turn(R:bz W (C.hold I o) κ σ s)(hk:Kept I s.heap h')(ho:h'.get? I=some o'):bz W (C.hold I o') κ σ {s with heap:=h',toks:=tk}:=by
 refine uV (R.held) λm aw frs r hf=>?_;refine dc (xz r.nd) λnd hI=>?_;have hi:=r.N (I,o) (Y0 _ (.head _));refine(b6 m aw ((I,o')::frs) (⟨⟨r.F.ns.at' λo e=>hk _ _ (λq=>hi.2.1 q.symm) e,λb x e=>hk b x (λq=>by rw[q,hi.2.2]at e;cases e) (r.F.keep b x e),r.F.above⟩,λp hp=>?_,?_,?_,r.nr,r.env,r.gens,r.os⟩))
 ·rcases Y8.mp hp with x|x
  ·have z:=r.N p (YQ _ x);exact⟨hk _ _ (λq=>hI (q ▸ Zm (YQ _ x))) z.1,z.2⟩
  ·rcases YS.mp x with rfl|x
   ·exact⟨ho,hi.2⟩
   ·skip;exact⟨hk _ _ (λq=>hI (q ▸ Zm (Y0 _ x))) (r.N p (Y0 _ (.tail _ x))).1,(r.N p (Y0 _ (.tail _ x))).2⟩
 ·have Tq:=r.nd;rw[Y6,Y5]at Tq⊢;exact Tq
 ·skip;exact(ci _ _ rfl rfl rfl hf)
theorem bz.hold(R:bz W C κ σ s):bz W (C.hold s.heap.objs.size o) κ σ {s with heap:=s.heap.push o,toks:=tk}\/o.isFreed=true:=by
 refine cX (o.isFreed) (λnD=>?_) λnD=>?_
 ·rw[nD];exact .inr rfl
 ·
  left
  (refine bi R λm aw frs r=>?_;clear R)
  have N':=r.N.push (hfree:=nD) r.F o;refine(b6 m aw ((s.heap.objs.size,o)::frs) ⟨r.F.push o,λp hp=>?_,?_,?_,r.nr,r.env,r.gens,r.os⟩)
  ·rcases Y8.mp hp with x|x
   ·exact N' p (.tail _ (YQ _ x))
   ·refine(YS.mp x).elim (λq=>?_) λx=>?_
    ·subst q;exact N' _ (.head _)
    ·exact N' p (.tail _ (Y0 _ x))
  ·have hn:=r.fresh (l:=s.heap.objs.size) (gM r);have nd:=r.nd;rw[Y6,Zi]at nd;rw[Y6,Y8]at hn;rw[Y6,Y5,Zi,Zc];refine⟨nd.1,⟨λh=>hn (.inr h),nd.2.1⟩,λx hx y hy=>?_⟩;refine(YS.mp hy).elim (λq=>?_) λhy=>?_
   ·subst q;rintro rfl;exact hn (.inl hx)
   ·exact nd.2.2 x hx y hy
  ·skip;exact(ci _ _ rfl rfl rfl (r.frs))
structure Ff(W:SW)(C:Cx)(I:Addr)(vs:List V)(cw:M Unit)(uO:Kn->St->Prop)(ob:Nat->Obj->Prop):Prop where
 keep:∀{κ cK σ σ' dm res},uO κ σ->κ.Le cK->cw σ'=some (res,dm)->(∃u,res= .ok u)/\dm=σ'/\uO cK σ'
 item:∀κ σ s i v o (Q:Option Value->Shared->Prop) (E:Value->Shared->Prop),uO κ σ->ob i o->bz W (C.hold I o) κ σ s->Mine.nth vs i=some v->
  (∀u o' h' tk,VR W κ v u->ob (i+1) o'->h'.get? I=some o'->Kept I s.heap h'->Q (some u) {s with heap:=h',toks:=tk})->wpAny (model W.prog W.w) C.A (pyNext (.ref I)) Q E s
 done:∀κ σ s o (Q:Option Value->Shared->Prop) (E:Value->Shared->Prop),uO κ σ->ob vs.length o->bz W (C.hold I o) κ σ s->
  (∀h' tk,Kept I s.heap h'->Q none {s with heap:=h',toks:=tk})->wpAny (model W.prog W.w) C.A (pyNext (.ref I)) Q E s
 go:∀s i o cZ v (Q:Unit->Shared->Prop) (E:Value->Shared->Prop),ob i o->s.heap.get? I=some o->Q () s->wpAny (model W.prog W.w) C.A (letOwnedTupleGo cZ (.ref I) v) Q E s
theorem D0{l:List α}:∀{i:Nat},i<l.length->∃v,Mine.nth l i=some v/\l.drop i=v::l.drop (i+1):=by
 induction l with
 |nil=>intro i h;exact absurd h (zaT _)
 |cons a l ih=>
  intro i h;cases i with
  |zero=>exact(al a rfl rfl)
  |succ i=>exact ih (zbt h)
theorem eA(h:M.calm m σ=some (res,σ')):∃a,res= .ok a/\m σ=some (.ok a,σ'):=by
 unfold M.calm at h;refine dI (m σ) (λe=>?_) λp e=>?_
 ·rw[e]at h;exact nt h
 ·
  (refine(e).symm ▸?_)
  rw[e]at h;obtain⟨r,ai⟩:=p;cases r with
  |ok a=>obtain⟨rfl,rfl⟩:=sp h;exact(al a rfl rfl)
  |exc _ _ _ _=>exact nt h
theorem lD{ob:Nat->Obj->Prop}(Nx:Ff W C I vs cw uO ob)(hA:∀o,yQ W (C.hold I o) cZ (Mine.assign ih t))(hB:∀o,cm (λe x=>SndS W (C.hold I o) e (ih.s x)) body xb)(hl:uO κ σ)(ho:ob 0 o)(R:bz W (C.hold I o) κ σ s)(h:bW ih cw t xb vs σ=some (.ok f,σ'))(k:∀cK s',κ.Le cK->bz W C cK σ' s'->∀g,EH W cK f g->RR (.ok g) s'):codeAny (model W.prog W.w) C.A (.forLoop cZ (.ref I) body [] C.env) RR s:=by
 refine codeAny_forLoop_any (λn s=>∃i am ai o,i<=vs.length/\n=vs.length - i/\κ.Le am/\uO am ai/\ob i o/\bz W (C.hold I o) am ai s/\bW ih cw t xb (vs.drop i) ai=some (.ok f,σ')) ?_ vs.length
  ⟨0,κ,σ,o,Zh _,rfl,Kn.Le.refl _,hl,ho,R,by simpa using h⟩
 rintro n aE ⟨i,am,ai,Mi,hi,rfl,le,Bt,HT,ar,ap⟩;rcases Nat.lt_or_ge i vs.length with kW|hge
 ·refine U (D0 kW) λv hv hd=>?_;rw[hd]at ap;refine Nx.item am ai aE i v Mi _ _ Bt HT ar hv λu gx aS tk hu HS hg hk=>?_;refine Nx.go _ (i+1) gx cZ u _ _ HS hg ?_;refine bR (Iv ap) λx bG ha aS=>?_;refine hA gx am ai v u hu _ _ ha _ _ _ (ar.turn (tk:=tk) hk hg) λbK c8 aX _ _ lc=>?_;refine bR (Iv aS) λg og hb fq=>?_;refine dk (C:=C.hold I gx) (hB gx) bK bG _ _ hb _ _ _ lc λjj pc dv gg hg yR=>?_;cases g with
  |ret w=>
   obtain⟨e0,rfl⟩:=sp fq;cases e0
   (refine U hg λuw q2 hw=>?_;clear hg;subst q2)
   exact k jj pc ((le.trans aX).trans dv) (yR.drop (h':=pc.heap) (tk:=pc.toks) λ_ _ _ e=>e) _ (al uw rfl hw)
  |next=>
   subst hg;refine bR (Iv fq) λy MX hc yG=>?_
   (refine dU (Nx.keep (σ:=ai) Bt (aX.trans dv) hc) λ_ q2 NV=>?_;subst q2)
   exact⟨vs.length - (i+1),Nat.sub_succ_lt_self _ _ kW,i+1,jj,MX,gx,kW,rfl,(le.trans aX).trans dv,NV,HS,yR,yG⟩
 ·obtain rfl:=Nat.le_antisymm hi hge;refine hg λcg kg=>?_;rw[List.drop_length]at ap;obtain⟨e1,rfl⟩:=sp ap;cases e1;refine kg ?_;refine Nx.done am σ' aE Mi _ _ Bt HT ar λh' tk hk=>zby ?_;exact k am _ le (ar.drop hk) _ rfl
def Gb(l:Addr)(i:Nat)(o:Obj):Prop:=o.cls= .type "list_iterator"/\o.data= .fields #[.ref l, .int i 0]
def Ju(l:Addr)(i:Nat)(o:Obj):Prop:=o.cls= .type "tuple_iterator"/\o.data= .fields #[.ref l, .int i 0]
def JV(a:Int)(n:Nat)(i:Nat)(o:Obj):Prop:=o=itR (a+(i:Int)) ((n:Int) - (i:Nat))
theorem kt(x:Heap.SameBut I h h'):Kept I h h':=λb o hb e=>x.extBut b o hb e
theorem vi(hc:o.cls= .type T)(hd:o.data= .fields vs)(hn: ["enumerate","zip","dict_itemiterator","dict_reverseitemiterator","odict_iterator","itertools.zip_longest","itertools.pairwise"].contains T=false)(ho:s.heap.get? I=some o)(h:Q () s):wpAny (model W.prog W.w) A (letOwnedTupleGo cZ (.ref I) v) Q E s:=by
 cases cZ with
 |Tuple _ _ _=>exact(by
  cases v with
  |ref a=>
   refine YT (wpAny_load ho ?_);rw[hc,hd];dsimp only;rw[hn,Bool.false_and];exact Y7 h
  |_=>exact Y7 h)
 |List _ _=>exact(by
  cases v with
  |ref a=>
   refine YT (wpAny_load ho ?_);rw[hc,hd];dsimp only;rw[hn,Bool.false_and];exact Y7 h
  |_=>exact Y7 h)
 |_=>exact Y7 h
theorem jT(h:M.pure () σ'=some (res,dm)):(∃u,res= .ok u)/\dm=σ':=by
 refine dc (ao h) λh1 h2=>?_;exact⟨⟨_,h1⟩,h2⟩
theorem Dq(hh:C.A.handled=none):Ff W C I vs (M.pure ()) (λκ _=>∃xs,κ.tup l=some xs/\cH W κ vs xs) (Ju l) where
 keep:=λ{κ cK σ σ' dm res} ⟨xs,h1,h2⟩ le hc=>⟨(jT hc).1,(jT hc).2,xs,le.tup h1,h2.mono le⟩
 item:=by
  rintro κ σ s i v o Q E ⟨xs,h1,h2⟩ ⟨hc,hd⟩ R hv hQ;refine U (h2.nth hv) λu hu IF=>?_;refine next_tuple_item (aM o (R.there.1) hc hd) (R.isTup h1) (by simpa using hu) λh' EF hs=>?_
  (refine aZ EF λo' n6 QA nu=>?_;clear EF)
  exact hQ u o' h' s.toks IF ⟨QA,nu⟩ n6 (kt hs)
 done:=by
  rintro κ σ s o Q E ⟨xs,h1,h2⟩ ⟨hc,hd⟩ R hQ;exact next_tuple_end hh (aM o (R.there.1) hc hd) (R.isTup h1) (by rw[h2.length];simp) λh' he=>hQ h' s.toks λb o hb e=>he b o hb e
 go:=λs i o cZ v Q E ⟨hc,hd⟩ ho h=>vi hc hd ak ho h
theorem sM(hh:C.A.handled=none):Ff W C I (bh a n) (M.pure ()) (λ_ _=>True) (JV a n):=by
 refine⟨λ_ _ hc=>(gA ((jT hc).1) ((jT hc).2) trivial),?_,?_,?_⟩
 ·rintro κ σ s i v o Q E _ rfl R hv hQ
  obtain⟨rfl,hi⟩:=(show∀(n:Nat) (a:Int) (i:Nat) (v:V),Mine.nth (bh a n) i=some v->v= .int (a+(i:Int))/\i<n from by
  intro n;induction n with
  |zero=>intro a i v h;simp[bh,P7]at h
  |succ n ih=>
   intro a i v h;cases i with
   |zero=>simp only[bh,Wp,Option.some.injEq]at h;exact⟨by(refine(h) ▸?_);simp,zbr _⟩
   |succ i=>
    refine dc (ih _ _ _ h) λh1 h2=>?_;exact⟨by rw[h1];exact YV V.int ((zaf ..).trans (YV (a+·) (zaJ 1 _))),zap ‹_›⟩) _ _ _ _ hv
  refine wpAny_pyNext_range_item (x:=a+(i:Int)) (left:=(n:Int) - (i:Nat)) (step:=1) R.there.1 (Int.sub_pos_of_lt (zbw.mpr hi)) λh' EF hs=>?_;refine hQ (.int (a+(i:Int)) s.toks) (itR (a+((i+1:Nat):Int)) ((n:Int) - ((i+1:Nat):Int))) h' _ (eH _ _) rfl ?_ (kt hs);rw[(show a+((i+1:Nat):Int)=a+(i:Int)+1 from(zaf a i 1).symm),(show(n:Int) - ((i+1:Nat):Int)=(n:Int) - (i:Nat) - 1 from(Int.sub_sub n i 1).symm)];exact EF
 ·rintro κ σ s o Q E _ rfl R hQ
  rw[(show∀(n:Nat) (a:Int),(bh a n).length=n from by
  intro n;induction n with
  |zero=>intro a;rfl
  |succ n ih=>intro a;simp[bh,ih])]at R
  exact wpAny_pyNext_range_end hh R.there.1 (by rw[Int.sub_self];decide) λh' he=>hQ h' s.toks λb o hb e=>he b o hb e
 ·rintro s i o cZ v Q E rfl ho h;exact vi (T:="range_iterator") rfl rfl ak ho h
theorem tv(h:jn t i vs σ=some (res,σ')):nth (σ.heap t) i=some (.list vs)/\res= .ok ()/\σ'=σ:=by
 refine U (iV h) λo e g=>?_
 (refine U (l5 g) λus q2 g=>?_;subst q2)
 obtain⟨hb,g2⟩:=cP g;obtain rfl:=V.beqs_iff.mp hb;exact⟨e,ao g2⟩
theorem zr(hh:C.A.handled=none):Ff W C I vs (jn t i0 vs) (λκ σ=>κ.at_ t i0 false=some l/\nth (σ.heap t) i0=some (.list vs)) (Gb l) where
 keep:=by
  rintro κ cK σ σ' dm res ⟨h1,_⟩ le hc;refine dU (tv hc) λe1 e2 e3=>?_;exact(lU ⟨_,e2⟩ e3 (le.at_ h1) e1)
 item:=by
  rintro κ σ s i v o Q E ⟨h1,h2⟩ ⟨hc,hd⟩ R hv hQ;refine uV (R.held) λm aw frs r _=>?_;refine cY (r.nr.obj h2) λa' iK kk g1 g2 g3=>?_;rw[h1]at g1;obtain rfl:=YZ g1;refine U (g3.nth hv) λu hu IF=>?_;refine wpAny_pyNext_list_item (aM o (R.there.1) hc hd) (⟨_,(r.N _ (YQ _ g2)).1,rfl,_,rfl⟩) (by simpa using hu) λh' EF hs=>?_
  (refine aZ EF λo' n6 QA nu=>?_;clear EF)
  exact hQ u o' h' s.toks IF ⟨QA,nu⟩ n6 (kt hs)
 done:=by
  rintro κ σ s o Q E ⟨h1,h2⟩ ⟨hc,hd⟩ R hQ;refine hg λcg kg=>?_;refine uV (R.held) λm aw frs r _=>?_;refine cY (r.nr.obj h2) λa' iK kk g1 g2 g3=>?_;rw[h1]at g1;obtain rfl:=YZ g1;refine kg ?_;exact wpAny_pyNext_list_end hh (aM o (R.there.1) hc hd) (⟨_,(r.N _ (YQ _ g2)).1,rfl,_,rfl⟩) (by rw[g3.length];simp) λh' he=>hQ h' s.toks λb o hb e=>he b o hb e
 go:=λs i o cZ v Q E ⟨hc,hd⟩ ho h=>vi hc hd ak ho h
def kb(e:Expr):Bool:= !Nat.beq e.ctorIdx 7
theorem oW(h:kb e=true):∀x,foldedSetIterable e env x=pure x:=by
 cases e<;>first|(cases h;done)|(intro x;rfl)
theorem zh(hh:C.A.handled=none)(Qq:kb e=true)(he:SndE W C e mx)(hA:∀I o,yQ W (C.hold I o) cZ (Mine.assign ih t))(hB:∀I o,cm (λe x=>SndS W (C.hold I o) e (ih.s x)) body xb):
  SndS W C (.For cZ e body [] pos) (M.bind mx λv=>match v with
   | .tup vs=>M.calm (bW ih (M.pure ()) t xb vs)
   | .obj s i=>M.bind (M.get s i) λo=>M.kL o λvs=>M.gd (Nat.ble vs.length ay) (M.calm (bW ih (jn s i vs) t xb vs))
   |_=>M.fail):=by
 intro κ σ res σ' h s Q E R k;refine wpAny_For ?_ (oW Qq);refine bU.bind (he κ σ) h R k λam ai v u aE le hv ar ap k₁=>?_;cases v with
 |tup vs=>
  (refine U (eA ap) λf q2 aS=>?_;subst q2)
  (refine a8 (hv.tup) λl xs q3 g1 g2=>?_;subst q3)
  refine iter_tuple (ar.isTup g1) ?_;rcases ar.hold (tk:=aE.toks) (o:={cls:= .type "tuple_iterator",data:= .fields #[.ref l, .int 0 0]})with bD|hf
  ·exact lD (Dq (l:=l) hh) (hA _) (hB _) (al xs g1 g2) ⟨rfl,rfl⟩ bD aS λcK s' yp R' g hg=>k₁ cK s' yp g hg R'
  ·exact nf hf
 |obj t' i'=>
  refine U (iV ap) λo ho g=>?_
  (refine U (l5 g) λvs q2 g=>?_;subst q2)
  obtain⟨_,g⟩:=cP g
  (refine U (eA g) λf q2 aS=>?_;subst q2)
  (refine U (hv.obj) λp q2 wz=>?_;subst q2)
  refine bi (id ar) λm aw frs r=>?_;refine cY (r.nr.obj ho) λa' iK kk g1 g2 g3=>?_;obtain rfl:=si (wz.symm.trans g1);have hL:aE.heap.IsList p iK.toArray:=⟨_,(r.N _ (YQ _ g2)).1,rfl,_,rfl⟩;refine wpAny_pyIter_list hL ?_;rcases ar.hold (tk:=aE.toks) (o:={cls:= .type "list_iterator",data:= .fields #[.ref p, .int 0 0]})with bD|hf
  ·exact lD (zr (l:=p) hh) (hA _) (hB _) ⟨wz,ho⟩ ⟨rfl,rfl⟩ bD aS λcK s' yp R' g hg=>k₁ cK s' yp g hg R'
  ·exact nf hf
 |_=>exact nt ap
end
section
variable{W:SW}{C:Cx}{κ:Kn}{σ:St}{s:Shared}
theorem oD(h:cz b=true): -1000000<=b/\b<=1000000:=⟨Zt (an h).1,Zt (an h).2⟩
theorem kN{a b:Int}(hn:n=(b - a).toNat)(ha:cz a=true)(hb:cz b=true)(R:bz W C κ σ s)(hr:IsRange s.heap r a b 1 t u w)(hQ:∀I,bz W (C.hold I (itR (a+((0:Nat):Int)) ((n:Int) - (0:Nat)))) κ σ {s with heap:=s.heap.push (itR (a+((0:Nat):Int)) ((n:Int) - (0:Nat)))}->Q (.ref I) {s with heap:=s.heap.push (itR (a+((0:Nat):Int)) ((n:Int) - (0:Nat)))}):
  wpAny (model W.prog W.w) C.A (pyIter (.ref r)) Q E s:=by
 have h1:=oD ha;have h2:=oD hb;refine wpAny_pyIter_range hr (small_one (Zr ak h1.1) (zaE h1.2 ak) (Zr ak h2.1) (zaE h2.2 ak)) ?_
 rw[(show({cls:= .type "range_iterator",data:= .fields #[rawInt a,rawInt (Builtin.Range.rangeSize a b 1),rawInt 1]}:Obj)=itR (a+((0:Nat):Int)) ((n:Int) - (0:Nat))from by
  rw[(show Builtin.Range.rangeSize a b 1=(n:Int)from by
  rw[rangeSize_one,hn];split
  ·exact(Zw (Int.sub_nonneg_of_le (Int.le_of_lt ‹_›))).symm
  ·rw[Int.toNat_eq_zero.mpr (Int.sub_nonpos_of_le (zbK.mp ‹_›))];rfl)];unfold itR;simp)]
 rcases R.hold (tk:=s.toks) (o:=itR (a+((0:Nat):Int)) ((n:Int) - (0:Nat)))with bD|hf
 ·exact hQ _ bD
 ·exact nf hf
theorem vN(hh:C.A.handled=none)(hk:C.scope.kind= .function)(hl:C.scope.names.lookup ("range":Str)=some .globalImplicit)(hn:nsIn W.K mainGlobals ("range":Str)=some none)(gF:es.all noStar=true)(hs:cm (λe x=>SndE W C e (ih.e x)) es xs)(hA:∀I o,yQ W (C.hold I o) cZ (Mine.assign ih t))(hB:∀I o,cm (λe x=>SndS W (C.hold I o) e (ih.s x)) body xb):
  SndS W C (.For cZ (.Call (.Name "range" np) es [] cp) body [] pos) (M.bind (kK ih xs) λvs=>M.of (f0 vs) λl=>M.calm (bW ih (M.pure ()) t xb l)):=by
 intro κ σ res σ' h s Q E R k;refine wpAny_For ?_ (oW rfl);refine zaH ?_;refine bi (id R) λm aw frs r=>?_;refine name_B r.F W.X W.T hn (by rfl) ak ?_ hk hl ak;refine PyProof.Rows.callWith_type (gi gF) ?_
 let z0:=model W.prog W.w
 have Et:∀am ai vs us aE,κ.Le am->cH W am vs us->bz W C am ai aE->M.of (f0 vs) (λl=>M.calm (bW ih (M.pure ()) t xb l)) ai=some (res,σ')->bE W C (EH W) Q E res am σ'->
   wpAny z0 C.A (call (.type "range") us) (λx aE=>wpAny z0 C.A (pyIter x) (λit c8=>codeAny z0 C.A (.forLoop cZ it body [] C.env) (λr s'=>match r with| .ok f=>Q f s'| .error e=>cameBackBy z0 C.A C.env E e s') c8) E aE) E aE:=by
  intro am ai vs us aE le hv ar ap k₁;refine U (gH ap) λl hr g=>?_
  (refine U (eA g) λf q2 aS=>?_;subst q2)
  cases vs with
  |nil=>exact nt hr
  |cons v vs=>
   (refine U (pg hr) λa q2 LF=>?_;subst q2)
   (refine a8 (hv.cons) λu us q3 hu TG=>?_;subst q3)
   obtain⟨tt,rfl⟩:=hu.int;cases vs with
   |nil=>
    refine hg λcg kg=>?_;obtain⟨hb,e⟩:=bX LF;obtain rfl:=si e;obtain rfl:=TG.nil;refine kg ?_;refine call_range_1 ?_;refine kN (a:=0) (b:=a) (n:=a.toNat) (by rw[Int.sub_zero]) ak hb ((ar.push (o:={cls:= .type "range",data:= .fields #[.int 0 aE.toks, .int a tt, .int 1 (aE.toks+1)]})).toks (n:=aE.toks+1+1)) (IsRange.new _ _ _ _ _ _ _) λI bD=>?_;exact lD (sM (a:=0) (n:=a.toNat) hh) (hA _) (hB _) trivial rfl bD aS λcK s' yp R' g hg=>k₁ cK s' yp g hg R'
   |cons v2 vs=>
    (refine U (pg LF) λb q2 WU=>?_;subst q2)
    obtain⟨hb,e⟩:=bX WU;obtain rfl:=si e;obtain rfl:=Zk.mp (an hb).1
    (refine a8 (TG.cons) λu2 us q3 Qm WQ=>?_;subst q3)
    obtain⟨VM,rfl⟩:=Qm.int;obtain rfl:=WQ.nil;refine call_range_2 ?_;refine kN (a:=a) (b:=b) (n:=(b - a).toNat) rfl (an (an hb).2).1 (an (an hb).2).2 ((ar.push (o:={cls:= .type "range",data:= .fields #[.int a tt, .int b VM, .int 1 aE.toks]})).toks (n:=aE.toks+1)) (IsRange.new _ _ _ _ _ _ _) λI bD=>?_;exact lD (sM (a:=a) (n:=(b - a).toNat) hh) (hA _) (hB _) trivial rfl bD aS λcK s' yp R' g hg=>k₁ cK s' yp g hg R'
 cases es with
 |nil=>
  cases xs with
  |cons _ _=>exact hs.elim
  |nil=>
   refine evalArgs_nil3 ?_;exact Et κ σ [] [] s (Kn.Le.refl κ) (by rfl) R h k
 |cons e rest=>
  have h0:wpAny z0 C.A (spliced (backTo cp (starEach (e::rest) C.env))) (λus aE=>wpAny z0 C.A (call (.type "range") us) (λx aE=>wpAny z0 C.A (pyIter x) (λit c8=>codeAny z0 C.A (.forLoop cZ it body [] C.env) (λr s'=>match r with| .ok f=>Q f s'| .error e=>cameBackBy z0 C.A C.env E e s') c8) E aE) E aE) E s:=by
   refine bU.bind (mw hs (gP gF) κ σ) h R k λam ai vs us aE le hv ar ap k₁=>?_;exact Et am ai vs us aE le hv ar ap k₁
  rw[(hG (rest:=rest) (env:=C.env) (e:=e) (by simp only[Z9,YW]at gF;exact gF.1))]at h0⊢;exact Calls.evalArgs_plain h0
theorem FP(hc:∀m,m<n->SndT W C test ((run P m).b c))(hb:∀m,m<n->cm (λe x=>SndS W C e ((run P m).s x)) body xb):
  SndS W C (.While test body [] pos) ((run P n).s (.wh c xb)):=by
 intro κ σ res σ' h s Q E R k;refine wpAny_While ?_
 obtain⟨f,rfl⟩:=(show∃f,res= .ok f from by
  cases n with
  |zero=>exact nt h
  |succ n=>
   refine U (eA (show M.calm _ σ=some (res,σ')from h)) λf e _=>?_;exact⟨f,e⟩)
 refine codeAny_whileLoop (λj s=>∃am ai,j<=n/\κ.Le am/\bz W C am ai s/\(run P j).s (.wh c xb) ai=some (.ok f,σ')) ?_ n (ci κ σ (Zd _) (Kn.Le.refl _) R h);rintro j aE ⟨am,ai,hj,le,ar,ap⟩;cases j with
 |zero=>exact nt ap
 |succ j=>
  refine U (eA (show M.calm (M.bind ((run P j).b c) λt=>match t with
   |false=>M.pure .next
   |true=>M.bind (Mine.execs (run P j) xb) λf=>match f with
    | .next=>(run P j).s (.wh c xb)
    | .ret v=>M.pure (.ret v)) ai=some (.ok f,σ')from ap)) λf' e aS=>?_
  cases e;refine bR (Iv aS) λt bG ht fq=>?_;refine hc j hj am ai _ _ ht _ _ _ ar λbK c8 aX t' e bD=>?_;subst e;cases t with
  |false=>
   refine hg λcg kg=>?_;obtain⟨e1,rfl⟩:=sp fq;cases e1;refine kg ?_;rw[Zs ak];exact zby (k bK c8 (le.trans aX) _ rfl bD)
  |true=>
   rw[ZU rfl];refine bR (Iv fq) λg og hx yG=>?_;refine dk (hb j hj) bK bG _ _ hx _ _ _ bD λjj pc dv gg hg lc=>?_;cases g with
   |ret v=>
    obtain⟨e1,rfl⟩:=sp yG;cases e1
    (refine U hg λu q2 hv=>?_;clear hg;subst q2)
    exact k jj pc ((le.trans aX).trans dv) _ (al u rfl hv) lc
   |next=>
    subst hg;exact⟨j,zaL j,jj,og,Nat.le_of_succ_le hj,(le.trans aX).trans dv,lc,yG⟩
end
section
variable{M:Model}{A:Around}{E:Value->Shared->Prop}{h:Heap}{g:Array GenState}{d:Drawn}{t:Nat}{os:OsState}
variable{nm q:Str}{C N:Addr}{bs bm:List Value}{hdct:Bool}{sn:List Str}{sub:List Value}{ab:Bool}{col:Option Bool}{dd:Option Addr}{k0 k1 k2 k3 k5:Option Value}{Bn newId nC:String}{yw:List Value}
theorem zQ(Fn:ExcBaseFacts Bn newId nC yw)(K8:bm.contains (.type Bn)=true){rest:List Value}{Q:Unit->Shared->Prop}(hC:h.get? C=some (excClassObj nm q C N bs bm hdct sn sub ab col dd k0 k1 k2 k3 k5 newId))(hq:Q () ⟨h,g,d,t,os⟩):wpAny M A (checkBuiltinCall newId ⟨.ref C::rest, []⟩) Q E ⟨h,g,d,t,os⟩:=by
 have NX:(Value.ref C::bm).contains (.type Bn)=true:=by rw[zaD,K8,Bool.or_true]
 have UC:=Fn.noStar;simp only[checkBuiltinCall,Fn.newKind,Fn.newSplit,Fn.newRow]
 repeat (first|refine zao hC ?_|(refine zaV hC ?_;rw[NX])|refine wpAny_staticBase_exc hC ?_|refine wpAny_madeBy_exc hC ?_|simp only[bne_self_eq_false,Bool.false_eq_true,if_false]|wp_step)
 exact hq
def dj(C t:Addr):Obj:={cls:= .ref C,data:= .fields #[.ref t, .none, .none, .none, .bool false, .none]}
def eY(vs:List Value):Obj:={cls:= .type "tuple",data:= .seq vs.toArray}
end
section
variable{prog:Program}{w:World}{A:Around}{R:Result->Shared->Prop}{h:Heap}{g:Array GenState}{d:Drawn}{t:Nat}{os:OsState}
variable{nm q:Str}{C N:Addr}{bs bm:List Value}{hdct:Bool}{sn:List Str}{sub:List Value}{ab:Bool}{col:Option Bool}{dd:Option Addr}{k0 k1 k2 k3 k5:Option Value}{Bn newId nC:String}{yw:List Value}
theorem Gx(Fn:ExcBaseFacts Bn newId nC yw)(K8:bm.contains (.type Bn)=true)(hA:bm.contains (.type "AttributeError")=false)(QE:bm.contains (.type "NameError")=false){rest:List Value}(hC:h.get? C=some (excClassObj nm q C N bs bm hdct sn sub ab col dd k0 k1 k2 k3 k5 newId))(hq:R (.ok (.ret (.ref (h.objs.size+1)))) ⟨(h.push (eY rest)).push (dj C h.objs.size),g,d,t,os⟩)(HR:rest.length<=sizeLine):
  codeAny (model prog w) A (.builtin newId ⟨.ref C::rest, []⟩) R ⟨h,g,d,t,os⟩:=by
 have UD:=Fn.ends;have Xu:(Value.ref C::bm).contains (.type Bn)=true:=by rw[zaD,K8,Bool.or_true]
 have Xv:(Value.ref C::bm).contains (.type "AttributeError")=false:=by rw[zaD,hA];rfl
 have Xr:(Value.ref C::bm).contains (.type "NameError")=false:=by rw[zaD,QE];rfl
 refine codeAny_builtinAt Fn.entry ?_;unfold Builtin.«BaseException.__new__»;refine PySem.wpAt_bind ?_;show PySem.wpAt _ _ _ (stack>>=_) _ _ _;refine PySem.wpAt_bind (PySem.wpAt_stack λp UE=>PySem.wpAt_of_wpAny ?_)
 wp_walk
 refine PySem.wpAt_of_wpAny ?_;rw[Fn.owner]
 repeat (first|with_reducible refine wpAny_madeHere_exc Fn.canon hC ?_|with_reducible refine zao hC ?_|(with_reducible refine zaV hC ?_;first|rw[Xu]|rw[Xv]|rw[Xr])|wp_step)
 show R _ _;rw[Heap.size_push];exact hq
theorem Ds{rest:List Value}{init:Value}(Fn:ExcBaseFacts Bn newId nC yw)(K8:bm.contains (.type Bn)=true)(hA:bm.contains (.type "AttributeError")=false)(QE:bm.contains (.type "NameError")=false)(hC:h.get? C=some (excClassObj nm q C N bs bm hdct sn sub ab col dd k0 k1 k2 k3 k5 newId))(hi:Looks (model prog w) h (typeLookup (.ref C) "__init__") (some init))(hb:∀eV,Looks (model prog w) h (bindSpecial init eV) (init, [eV]))(HR:rest.length<=sizeLine)(hq:codeAny (model prog w) (A.under (.builtin "type.__call__" ⟨.ref C::rest, []⟩)) (.call init ⟨.ref (h.objs.size+1)::rest, []⟩) (InitBack (h.objs.size+1) R) ⟨(h.push (eY rest)).push (dj C h.objs.size),g,d,t,os⟩):
  codeAny (model prog w) A (.call (.ref C) ⟨rest, []⟩) R ⟨h,g,d,t,os⟩:=by
 have f1:=tc_lookup;have f2:=tc_bind (.ref C);have hT:(⟨h,g,d,t,os⟩:Shared).TypeIs (.ref C) "type":=⟨_,hC,rfl⟩;refine codeAny_of_tree ?_;show wpAny _ _ (callAny (.ref C) _) _ _ _
 repeat (any_goals (first|assumption|with_reducible refine zao hC ?_|wp_step))
 refine⟨rfl,?_⟩;refine codeAny_call_builtin_at (Code.quiet_builtin _ (by decide+kernel)) entry_typeCall (wpAny_check_type_call_sub hC ?_)
 repeat (first|with_reducible refine zao hC ?_|with_reducible refine wpAny_madeBy_exc hC ?_|wp_step)
 refine codeAny_call_builtin_code (Code.quiet_builtin _ Fn.quiet) (zQ Fn K8 hC ?_);refine Gx Fn K8 hA QE hC ?_ HR;have k:∀b o,h.get? b=some o->((h.push (eY rest)).push (dj C h.objs.size)).get? b=some o:=λb o e=>ZL _ (ZL _ e);have N2:=k _ _ hC;have RW:((h.push (eY rest)).push (dj C h.objs.size)).get? (h.objs.size+1)=some (dj C h.objs.size):=by heap_get
 have Xs:(Value.ref C::bm).contains (.ref C)=true:=by simp
 have i1:=hi.keeps k;have b1:=(hb (.ref (h.objs.size+1))).keeps k;have t1:Looks (model prog w) ((h.push (eY rest)).push (dj C h.objs.size)) (typeOf (.ref (h.objs.size+1))) (.ref C):=(Looks.ld RW).andThen .now;have s1:Looks (model prog w) ((h.push (eY rest)).push (dj C h.objs.size)) (isSubtype (.ref C) (.ref C)) true:=by
  intro A Q E s kk q;obtain⟨hh,g,d,t,os⟩:=s;refine zaV (kk _ _ N2) ?_;rw[Xs];exact q
 show wpAny (model prog w) (A.under (.builtin "type.__call__" ⟨.ref C::rest, []⟩)) _ _ _ ⟨(h.push (eY rest)).push (dj C h.objs.size),g,d,t,os⟩;unfold isInstance callSpecial? specialOf
 repeat (first|with_reducible refine zbp ?_|lk)
 refine codeAny_mono hq λr s' z=>?_;rcases r with e|(v|_|_|_)<;>first|exact z|exact z.elim|skip
 obtain⟨rfl,z⟩:=z;exact Y7 (Y7 z)
end
end Mine
end
section
namespace Mine
open PySem PySem.W PyProof.Rows PySem.Calls Builtin Builtin.ObjectAttr
section
variable{prog:Program}{w:World}{A:Around}{K:Frag}{C x:Addr}{s:Shared}{R:Result->Shared->Prop}
theorem sY(X:K.In s.heap)(I:PySem.W.InstAt s.heap x ox C od)(hc:clsIn K C=some cd)(ru:cd.mro.contains (.type "object")=true)(ne:cd.mro.isEmpty=false)(hp:∀eV,refuseLoop eV "__setattr__" cd.mro=pure ())(ht:takerIn K C name=some none)(h:∀b,wpAny (model prog w) A.in1 (storeInOwnDict (.ref x) (.ref C) (.str name tk) name v b)
   (λEt s'=>match Et with| .done f=>R (.ok f) s'| .again c'=>c'.quiet=true/\codeAny (model prog w) A c' R s') (λe s'=>R (.error e) s') s):
  codeAny (model prog w) A (.call (.builtin "object.__setattr__") ⟨[.ref x, .str name tk,v], []⟩) R s:=by
 have SF:=PySem.F.store_object
 let z0:=model prog w
 refine codeAny_call_builtin SF.slot.plain SF.entry (@check_slot z0 _ _ s "object.__setattr__" "object" "__setattr__" (.ref x) [.str name tk,v] [] _ SF.kind SF.split (I.type.andThen (looks_mroIn X (by unfold mroIn;rw[hc,Option.bind_some,Zs (by rw[ne];decide),ru]))) (SF.args (.ref x) (.str name tk) v) ?_);refine U (Option.bind_eq_some_iff.mp ht) λattr ha hr=>?_;rw[osa_eq,refuse_eq];refine YT (YT (I.type.here (YT ((show Looks z0 s.heap (mroOf (.ref C)) cd.mro from(looks_clsIn X hc).andThen .now).here ?_))));rw[hp]
 refine Y7 (YT (I.type.here (YT ((looks_findIn X ha).here (YT ((show Looks z0 s.heap (storeTaker? attr) none from by
  cases attr with
  |none=>exact .now
  |some a=>
   refine U (Option.map_eq_some_iff.mp hr) λb hb e=>?_;refine(looks_takesIn X hb).andThen ?_;cases b
   ·exact .now
   ·cases e).here ?_))))))
 exact h _
set_option tactic.hygienic true in
theorem sf(D:s.heap.get? dx=some (dictOf es n))(hl:(getL name es).isSome=true)(hz:(putL name (PyData.keyHash w.params name) (.str name s.toks) v es).length<=1000)(h:∀h',h'.get? dx=some (dictOf (putL name (PyData.keyHash w.params name) (.str name s.toks) v es) (PySem.W.putN name es n))->Heap.SameBut dx s.heap h'->Q (.done (.ret .none)) {s with heap:=h',toks:=s.toks+1}):
  wpAny (model prog w) A (storeInDict dx (.str name tk) name v) Q E s:=by
 refine YT (Y7 (YT ?_));refine YT (YT (wpAny_askSetting (Y7 (YT (wpAny_mkText (YT (wpAny_loadPart D ?_)))))));have c:(!es.toArray.any (·.key.isStr name)&&es.toArray.any (·.refKey))=false:=by
  rw[<-Array.any_toList,<-Array.any_toList];unfold getL at hl;split at hl
  ·rename_i en he;rw[zbo.mpr (al en (List.mem_of_find?_eq_some he) (List.find?_some he))];rfl
  ·split at hl
   ·exact nf hl
   ·rename_i z;rw[zaO]at z;rw[z,Bool.and_false]
 dsimp only;rw[aRefKeyMayBeTheName_at,c];refine wpAny_updatePart D ?_;have D':=zaK (Obj.putName name (PyData.keyHash w.params name) (.str name s.toks) v) D (by rw[putName_dict];rfl);rw[putName_dict]at D';refine YT (wpAny_lookBehind D' (pastItsLine_dict (by rw[List.size_toArray,sizeLine_eq];exact YU ‹_› ak)) ?_);exact Y7 (h _ D' (Heap.SameBut.update ..))
theorem DW(X:K.In s.heap)(I:PySem.W.InstAt s.heap x ox C (some (dictOf es n)))(hd:ox.dict=some dx)(hc:clsIn K C=some cd)(ru:cd.mro.contains (.type "object")=true)(ne:cd.mro.isEmpty=false)(hp:∀eV,refuseLoop eV "__setattr__" cd.mro=pure ())(ht:takerIn K C name=some none)(hh:cd.hasDict=true)(hl:(getL name es).isSome=true)(hz:(putL name (PyData.keyHash w.params name) (.str name s.toks) v es).length<=1000)(h:∀h',h'.get? dx=some (dictOf (putL name (PyData.keyHash w.params name) (.str name s.toks) v es) (PySem.W.putN name es n))->Heap.SameBut dx s.heap h'->R (.ok (.ret .none)) {s with heap:=h',toks:=s.toks+1}):
  codeAny (model prog w) A (.call (.builtin "object.__setattr__") ⟨[.ref x, .str name tk,v], []⟩) R s:=by
 refine sY X I hc ru ne hp ht λb=>?_;refine hg λcg kg=>?_;obtain⟨hx,TU,hn,hD⟩:=I;obtain⟨oc,Yy,Yz,PW⟩:=ox;dsimp only at TU hd hD;subst TU hd;refine kg ?_;refine YT (Y7 (YT (YT (wpAny_loadPart hx (YT ((looks_clsIn X hc).here ?_))))))
 (refine(hh).symm ▸?_)
 refine Y7 (a:=some dx) ?_;exact sf hD hl hz λh' a b=>h h' a b
theorem zP(X:K.In s.heap)(hx:s.heap.get? x=some ⟨.ref C,none, .fields vs,#[]⟩)(hc:clsIn K C=some cd)(ru:cd.mro.contains (.type "object")=true)(ne:cd.mro.isEmpty=false)(hp:∀eV,refuseLoop eV "__setattr__" cd.mro=pure ())(ht:takerIn K C name=some none)(hh:cd.hasDict=true)(h:∀h',h'.get? s.heap.objs.size=some (dictOf [⟨PyData.keyHash w.params name, .str name s.toks,v⟩] 1)->h'.get? x=some ⟨.ref C,some s.heap.objs.size, .fields vs,#[]⟩->(∀b o,b≠x->s.heap.get? b=some o->h'.get? b=some o)->R (.ok (.ret .none)) {s with heap:=h',toks:=s.toks+1}):
  codeAny (model prog w) A (.call (.builtin "object.__setattr__") ⟨[.ref x, .str name tk,v], []⟩) R s:=by
 refine sY (ox:=⟨.ref C,none, .fields vs,#[]⟩) (od:=none) X ⟨hx,rfl,rfl,trivial⟩ hc ru ne hp ht λb=>?_;refine YT (Y7 (YT (YT (wpAny_loadPart hx (YT ((looks_clsIn X hc).here ?_))))))
 (refine(hh).symm ▸?_)
 refine YT (wpAny_alloc ?_);have IE:=ZL {cls:= .type "dict",data:= .dict #[]} hx;have ut:=Z3 (ZZ hx);refine YT (wpAny_update IE (Y7 ?_));refine sf (es:= []) (n:=0) (dx:=s.heap.objs.size) ((Z5 (s.heap.push {cls:= .type "dict",data:= .dict #[]}) (λo=>{o with dict:=some s.heap.objs.size}) ut).trans (zaw s.heap rfl)) rfl (by simp[putL]) λh' g1 g2=>?_;refine h h' g1 ((g2.2 x ut).trans (zaK (λo=>{o with dict:=some s.heap.objs.size}) IE rfl)) λb o hb e=>?_;rw[g2.2 b (Z3 (ZZ e)),Z5 _ _ (zak hb)];exact ZL _ e
end
def jp:List Value:= [.type "Exception", .type "BaseException", .type "object"]
def pQ(l:List Value):Prop:=(∃a,l= .ref a::jp)\/∃a b,l= .ref a:: .ref b::jp
def HX(l:List Value):Addr:=AU (l.tail.head?.getD .none)
theorem kO(eV:Value)(h:pQ l):refuseLoop eV "__setattr__" l=pure ():=by
 obtain⟨a,rfl⟩|⟨a,b,rfl⟩:=h
 ·rw[refuseLoop_ref];exact PySem.F.store_Exception.passes eV
 ·rw[refuseLoop_ref,refuseLoop_ref];exact PySem.F.store_Exception.passes eV
theorem gk(h:pQ l):l.contains (.type "object")=true/\l.isEmpty=false/\l.contains (.type "Exception")=true/\l.contains (.type "BaseException")=true/\l.contains (.type "AttributeError")=false/\l.contains (.type "NameError")=false:=by
 obtain⟨a,rfl⟩|⟨a,b,rfl⟩:=h<;>exact(show jp.contains (.type "object")=true/\false=false/\jp.contains (.type "Exception")=true/\jp.contains (.type "BaseException")=true/\jp.contains (.type "AttributeError")=false/\jp.contains (.type "NameError")=false from by decide)
def qp(K:Frag)(C:Addr)(x:Str):Bool:=findIn K (.ref C) "__setattr__"==some (some (.builtin "object.__setattr__"))&&takerIn K C x==some none&&(clsIn K C).any λcd=>cd.hasDict&&cd.mro== .ref C:: .ref (HX cd.mro)::jp
def Ee(W:SW)(x:Nat):Prop:=∀c C,W.cls c=some C->W.P.isExc c=true->jF c x=true->qp W.K C (W.nm x)=true
section
variable{W:SW}{C:Cx}{κ:Kn}{σ:St}{s:Shared}
theorem NR.grow(R:NR W κ aw H)(nd:(aw.map (·.1)).Nodup){t i:Nat}{d dx:Addr}(hd:κ.at_ t i false=some d)(hm:(d,o)∈aw)(nt:o.cls≠ .type "tuple")(hi:i<(H t).length)(Iw:κ.at_ t i true=none)(hx:dx∉aw.map (·.1))(ho:gB W (κ.add t i true dx) ((dx,od)::bT d o' aw) t i mo):NR W (κ.add t i true dx) ((dx,od)::bT d o' aw) (λt'=>match Nat.beq t' t with|true=>setNth mo (H t) i|false=>H t'):=by
 have len:∀s',(match Nat.beq s' t with|true=>setNth mo (H t) i|false=>H s').length=(H s').length:=λs'=>by
  cases q:Nat.beq s' t with
  |true=>have:=YY q;subst this;exact ff
  |false=>rfl
 let z0:=κ.add t i true dx
 have ID:∀{s1 i1 b1 y},z0.at_ s1 i1 b1=some y->(s1=t/\i1=i/\b1=true/\y=dx)\/(κ.at_ s1 i1 b1=some y/\y∈aw.map (·.1)):=λ{s1 i1 b1 y} e=>by
  refine bc (s1=t/\i1=i/\b1=true) (λq1=>?_) λq1=>?_
  ·(refine dU q1 λq1 q2 q3=>?_;subst q1;subst q2;subst q3)
   rw[Kn.add_self]at e;obtain rfl:=YZ e;exact .inl (lU rfl rfl rfl rfl)
  ·rw[Kn.add_ne q1]at e;exact .inr ⟨e,(R.dom e).2⟩
 have kU:∀{s1 i1 o1},¬(s1=t/\i1=i)->nth (H s1) i1=some o1->gB W z0 ((dx,od)::bT d o' aw) s1 i1 o1:=λ{s1 i1 o1} hn e=>
  (R.obj e).keep (Kn.le_add Iw) (λh=>by rw[Kn.add_ne (λq=>hn ⟨q.1,q.2.1⟩)];exact h) λb' x ob hx h=>Zf _ (bP h λq=>by
   have:=R.inj hx (q ▸ hd);exact hn ⟨this.1,this.2.1⟩)
 refine⟨λh=>(Kn.le_add Iw).tup (R.known h),λ{s1 i1 b1 s2 i2 b2 y} e1 e2=>?_,λ{s1 i1 b1 x} e=>?_,λ{s1 i1 o1} e=>?_,λ{a vs} e=>?_⟩
 ·rcases ID e1 with⟨r1,r2,r3,r4⟩|⟨r1,r2⟩<;>rcases ID e2 with⟨p1,p2,p3,p4⟩|⟨p1,p2⟩
  ·exact⟨r1.trans p1.symm,r2.trans p2.symm,r3.trans p3.symm⟩
  ·exact absurd (r4 ▸ p2) hx
  ·exact absurd (p4 ▸ r2) hx
  ·exact R.inj r1 p1
 ·rw[len];simp only[Y5,cG];rcases ID e with⟨rfl,rfl,_,rfl⟩|⟨r1,r2⟩
  ·exact⟨hi, .head _⟩
  ·exact⟨(R.dom r1).1, .tail _ r2⟩
 ·cases q:Nat.beq s1 t with
  |true=>
   have:=YY q;subst this;rw[q]at e;rcases iY e with⟨rfl,rfl⟩|⟨h,e⟩
   ·exact ho
   ·exact kU (λz=>h z.2) e
  |false=>
   rw[q]at e;exact kU (λz=>Z4 q z.1) e
 ·refine U (R.tup e) λob a1 a2=>?_;refine(al ob a1 (a2.imp (λh=>Zf _ (bP h λq=>?_)) id));exact nt ((show ob=o from cJ nd (q ▸ h) hm) ▸ a1.1)
theorem zg(hx:Ee W x):mC W x:=by
 intro C κ σ s t i c fs v p u Q E hc WL ho h1 hv hl R k;refine hg λcg kg=>?_;refine bi (id R) λm aw frs r=>?_;refine a8 (r.nr.obj ho) λCc a h0 h2 h3=>?_;rw[h1]at h2;obtain rfl:=YZ h2;have hb:=hx _ _ h0 hc WL;unfold qp at hb;simp only[YW,zaZ]at hb
 (refine dc hb λq1 b3=>?_;clear hb;obtain⟨b1,b2⟩:=q1)
 refine U (any_some b3) λcd Pk b4=>?_;simp only[YW]at b4;obtain⟨b4,b5⟩:=b4;have b5:pQ cd.mro:= .inr (uU Cc _ (eq_of_beq b5));refine dU (gk b5) λq1 q2 _=>?_;have hX:=W.X.keeps r.F.keep;refine kg ?_;rcases h3 with⟨e,_⟩|⟨_,tt,⟨x0,x1,x2⟩|⟨d,es,n,x1,x2,x3,x4⟩⟩
 ·rw[hc]at e;exact ng e
 let z1:=aU x2
 ·subst x0;refine set_plain (K:=W.K) hX (ox:=⟨.ref Cc,none,bA tt,#[]⟩) (od:=none) ⟨((r.N _ (YQ frs x2)).1),rfl,rfl,trivial⟩ b1 ?_;refine zP (s:={s with toks:=s.toks+1}) (K:=W.K) (C:=Cc) hX ((r.N _ (YQ frs x2)).1) Pk q1 q2 (λeV=>kO eV b5) b2 b4 λh' g1 g2 g3=>?_;have lo:=gM r;have Pj:=r.fresh lo;rw[Y6,Y8]at Pj;have le:κ.Le (κ.add t i true s.heap.objs.size):=Kn.le_add x1;have bp:=(r.N _ (YQ frs x2)).2;have Tp:=r.nodup_cons (l:=s.heap.objs.size) (o:=dict0) lo;refine k _ _ le () trivial (b6 m ((s.heap.objs.size,dictOf [⟨PyData.keyHash W.w.params (W.nm x), .str (W.nm x) (s.toks+1),u⟩] 1)::bT p ⟨.ref Cc,some s.heap.objs.size,bA tt,#[]⟩ aw) frs ⟨(⟨r.F.ns.at' λo e=>g3 _ _ (λq=>bp.1 q.symm) e,λb o e=>g3 b o (λq=>by rw[q,bp.2]at e;cases e) (r.F.keep b o e),r.F.above⟩),λq hq=>?_,?_,r.frs,?_,r.env.mono le,r.gens,r.os⟩)
  ·rcases YS.mp hq with rfl|hq
   ·exact(gA g1 (ZP r.F.ns.lt) ((r.F.fresh)))
   ·refine(Y8.mp hq).elim (λhq=>?_) λhq=>?_
    ·skip;by_cases e:q.1=p
     ·have:q.2=⟨.ref Cc,some s.heap.objs.size,bA tt,#[]⟩:=by
       refine cJ (d:=p) (l:=bT p ⟨.ref Cc,some s.heap.objs.size,bA tt,#[]⟩ aw) (by rw[cG];exact r.ndT) (by obtain⟨q1,q2⟩:=q;subst e;exact hq) (aH (o:=⟨.ref Cc,some s.heap.objs.size,bA tt,#[]⟩) z1)
      (refine(e).symm ▸?_;refine(this).symm ▸?_)
      exact⟨g2,bp⟩
     ·have hold:q∈aw:=by
       refine U (Zj.mp (by rw[<-cG p ⟨.ref Cc,some s.heap.objs.size,bA tt,#[]⟩ aw];exact Zm hq)) λq' LG e'=>?_;have:=cJ (l:=bT p ⟨.ref Cc,some s.heap.objs.size,bA tt,#[]⟩ aw) (d:=q.1) (by rw[cG];exact r.ndT) (by rw[<-e'];exact(bP (o:=⟨.ref Cc,some s.heap.objs.size,bA tt,#[]⟩) LG (by(refine(e').symm ▸?_);exact e))) hq;have:=Prod.ext e' this
       (refine(this) ▸?_);exact LG
      exact⟨(λq hq hn=>g3 _ _ hn (r.N q hq).1) q (YQ _ hold) e,(r.N q (YQ _ hold)).2⟩
    ·skip
     exact⟨(λq hq hn=>g3 _ _ hn (r.N q hq).1) q (Y0 _ hq) (λe=>by
      have nd:=r.nd;rw[Y6,Zi]at nd;exact nd.2.2 _ z1 _ (Zm hq) e.symm),(r.N q (Y0 _ hq)).2⟩
  ·rw[ZD,Y5,Y6,cG,<-Y6];rw[ZD,Y5]at Tp;exact Tp
  ·refine r.nr.grow r.ndT h1 x2 (by exactλe=>by cases e) (pE ho) x1 (λh=>Pj (.inl h)) ?_;refine(aY Cc p h0 (le.at_ h1) (.inr ⟨hc,tt, .inr (ph (s.heap.objs.size) _ (1) (Kn.add_self) (.tail _ (aH z1)) (.head _) ?_)⟩));exact(ci _ ([]) rfl ⟨_,rfl⟩ (hv.mono le) rfl)
 let z0:=YQ frs x3
 ·skip;refine set_plain (K:=W.K) hX (ox:=⟨.ref Cc,some d,bA tt,#[]⟩) (od:=some (dictOf es n)) ⟨((r.N _ (YQ frs x2)).1),rfl,rfl,((r.N _ z0).1)⟩ b1 ?_
  refine DW (s:={s with toks:=s.toks+1}) (K:=W.K) (C:=Cc) hX ⟨((r.N _ (YQ frs x2)).1),rfl,rfl,((r.N _ z0).1)⟩ rfl Pk q1 q2 (λeV=>kO eV b5) b2 b4 (sW x4) (by
   rw[xL (lJ hv x4)];exact YU sy (YU (ZC ‹fs.length<=500›) ak)) λh' g1 g2=>?_
  refine cQ ((ju r.nd z0).split) λpre post e1 e2 ea eb=>?_
  exact k.done (a:=()) trivial (b6 m _ frs ((r.put (t:=t) (i:=i) (b:=true) (d:=d) (mo:= .inst c (Mine.putN x v fs)) (s':={s with heap:=h',toks:=s.toks+2}) x1 x3 (by show Value.type "dict"≠Value.type "tuple";decide) (r.F.change g2 (r.N _ z0).2.1 (r.N _ z0).2.2) (by
   rw[e2];have N0:=r.N;rw[e1]at N0;exact N0.setIn ea eb g2 g1)
   (aY Cc p h0 h1 (.inr ⟨hc,tt, .inr (ph d _ _ x1 (bP x2 (λe=>by
   have:=r.nr.inj h1 (e ▸ x1);cases this.2.2)) (aH (aU x3)) (lJ hv x4))⟩)) rfl rfl)))
end
end Mine
end
section
namespace Mine
open PySem PySem.W PyProof.Rows PySem.Calls
def Ay(h h':Heap):Prop:=∀b o,h.get? b=some o->(∀vs,o.data≠ .fields vs)->∃sl,h'.get? b=some {o with slots:=sl}
theorem Ay.trans(x:Ay ap aS)(y:Ay aS fq):Ay ap fq:=λb o e n=>by
 refine eX (x b o e n) λsl e1=>?_;refine eX (y b _ e1 n) λV0 e2=>?_;exact⟨V0,e2⟩
section
variable{M:Model}{A:Around}{E:Value->Shared->Prop}{s:Shared}
theorem Cl(nD:A.frames=some (env::outer))(hl:s.heap.FunFrames base (env::outer))(hf:env.frame=some L)(he:s.heap.get? e=some ⟨cls,some dx, .fields vs,#[]⟩)(IH:base.StaysIn s.heap)(LL:base.get? e=none)(hsz:1<vs.size)(h:∀h',base.StaysIn h'->h'.FunFrames base (env::outer)->dN h' base e cls dx (rawInt L)->Ay s.heap h'->Q () {s with heap:=h'}):
  wpAny M A (do setField (.ref e) 1 (<-EntryCells.newEntry head (<-frameOf env) .none (rawInt L) .none (<-entryPlaceOf L hadNext))) Q E s:=by
 refine YT (wpAny_frameOf_fun nD hl hf λap oq=>?_);refine YT (wpAny_entryPlaceOf λpl WY=>?_);refine YT (zaG ?_ (WY.sizeOk5 _ _ _ _ _))
 have wS:=(oq.2.1 e (λhm=>by
  obtain⟨_,o,ho,n7⟩:=hl.mem hm;rw[he]at ho;injection ho with ho;subst ho;exact n7 vs rfl)).trans he
 have HL:base.StaysIn ap:=λb o uF=>(oq.2.1 b λhm=>by rw[(hl.mem hm).1]at uF;cases uF).trans (IH b o uF);generalize hT:({cls:= .type "traceback",dict:=none,data:= .fields ([head, .ref L, .none,rawInt L, .none]++(if pl.isEmpty then List.replicate 6 Value.none else pl)).toArray}:Obj)=oT;refine wpAny_setField (ZL (h:=ap) oT wS) rfl hsz ?_;have keep:∀b o,b≠e->ap.get? b=some o->((ap.push oT).update e (Obj.mapFields (·.setIfInBounds 1 (Value.ref ap.objs.size)))).get? b=some o:=λb o Xy hb=>by
  rw[Z5 _ _ (zak Xy)];exact ZL _ hb
 have dT:∀b o,s.heap.get? b=some o->(∀vs,o.data≠ .fields vs)->b≠e:=λb o hb n7 q=>by
  rw[q,he]at hb;injection hb with hb;subst hb;exact n7 vs rfl
 refine h _ (λb o uF=>keep b o (λq=>by rw[q,LL]at uF;cases uF) (HL b o uF)) (hl.of_keeps λb o hb n7=>?_) ?_ (λb o hb n7=>?_)
 ·obtain⟨sl,hs⟩:=oq.2.2 b o hb;exact(al _ (keep b _ (dT b o hb n7) hs) rfl)
 ·refine⟨_,vs.setIfInBounds 1 (Value.ref ap.objs.size),ap.objs.size,oT,_,(zaK (Obj.mapFields (·.setIfInBounds 1 (Value.ref ap.objs.size))) (ZL (h:=ap) oT wS) rfl),⟨rfl,rfl,rfl⟩,rfl,by simp[hsz],HL.fresh,(ZP (ZZ wS)),?_,(by rw[<-hT]),by rfl⟩;rw[Z5 _ _ (zak (ZP (ZZ wS)))];exact zaw _ (Obj.isFreed_of_fields (by rw[<-hT]))
 ·obtain⟨sl,hs⟩:=oq.2.2 b o hb;exact⟨sl,keep b _ (dT b o hb n7) hs⟩
theorem Dp(nD:A.frames=some (env::outer))(hl:s.heap.FunFrames base (env::outer))(hf:env.frame=some L)(he:s.heap.get? e=some ⟨.ref Cc,some dx,bA t,#[]⟩)(IH:base.StaysIn s.heap)(LL:base.get? e=none)(h:∀h',base.StaysIn h'->h'.FunFrames base (env::outer)->dN h' base e (.ref Cc) dx (rawInt L)->Ay s.heap h'->Q () {s with heap:=h'}):wpAny M A (noteFrame (.ref e) env) Q E s:=by
 unfold noteFrame
 (refine(hf).symm ▸?_)
 refine YT (zaQ he rfl (x:= .none) rfl ?_);rw[Zs ak];exact Cl nD hl hf he IH LL (by simp) h
theorem xy(nD:A.frames=some (env::outer))(hl:s.heap.FunFrames base (env::outer))(hf:env.frame=some L)(ht:dN s.heap base e cls dx .none)(IH:base.StaysIn s.heap)(LL:base.get? e=none)(h:∀h',base.StaysIn h'->h'.FunFrames base (env::outer)->dN h' base e cls dx (rawInt L)->Ay s.heap h'->Q () {s with heap:=h'}):wpAny M A (noteFrame (.ref e) env) Q E s:=by
 (refine cy ht λoe vs T oT q=>?_;obtain⟨ts,he,⟨rfl,Pj,LE⟩,hd,h1,Pi,Pn,hT,G1,h3⟩:=q)
 unfold noteFrame
 (refine(hf).symm ▸?_)
 refine YT (zaQ he hd h1 ?_)
 (refine(ZU (show(Value.ref T !=Value.none)=true from by rfl)).symm ▸?_)
 refine YT (zaQ hT G1 h3 ?_)
 (refine(Zs (show¬((Value.none==rawInt L)=true)from by simp[rawInt])).symm ▸?_)
 refine YT (wpAny_setField hT G1 (zbd.mp h3).1 ?_);have jo:∀b,b≠T->(s.heap.update T (Obj.mapFields (·.setIfInBounds 3 Value.none))).get? b=s.heap.get? b:=λb hb=>Z5 _ _ (zak hb);have dT:∀b o,s.heap.get? b=some o->(∀vs,o.data≠ .fields vs)->b≠T:=λb o hb n7 q=>by
  rw[q,hT]at hb;injection hb with hb;subst hb;exact n7 ts G1
 refine Cl (base:=base) nD (hl.of_keeps λb o hb n7=>(al o ((jo b (dT b o hb n7)).trans hb) rfl)) hf (((jo e (zak Pn)).trans he).trans (YV some (by
  (refine(Pj).symm ▸?_;refine(LE).symm ▸?_;refine(hd).symm ▸ rfl))))
  (λb o uF=>(jo b λq=>by rw[q,Pi]at uF;cases uF).trans (IH b o uF)) LL (zbd.mp h1).1
  λh' x1 x2 x3 x4=>h h' x1 x2 x3 λb o hb n7=>x4 b o ((jo b (dT b o hb n7)).trans hb) n7
theorem lI(IH:base.StaysIn s.heap)(hl:s.heap.FunFrames base l)(ht:dN s.heap base e cls dx fl)(h:∀h',base.StaysIn h'->h'.FunFrames base l->dN h' base e cls dx .none->Ay s.heap h'->Q () {s with heap:=h'}):
  wpAny M A (setFlight (.ref e) none) Q E s:=by
 (refine cy ht λoe vs T oT q=>?_;obtain⟨ts,he,ji,hd,h1,Pi,Pn,hT,G1,h3⟩:=q)
 have MA:=(zbd.mp h3).1;have jo:∀b,b≠T->(s.heap.update T (Obj.mapFields (·.setIfInBounds 3 ((none:Option Addr).elim Value.none λf=>rawInt f)))).get? b=s.heap.get? b:=
  λb hb=>Z5 _ _ (zak hb)
 have dT:∀b o,s.heap.get? b=some o->(∀vs,o.data≠ .fields vs)->b≠T:=λb o hb n7 q=>by
  rw[q,hT]at hb;injection hb with hb;subst hb;exact n7 ts G1
 refine YT (zaQ he hd h1 ?_)
 (refine(ZU (show(Value.ref T !=Value.none)=true from by rfl)).symm ▸?_)
 refine wpAny_setField hT G1 MA (h _ (λb o uF=>(jo b λq=>by rw[q,Pi]at uF;cases uF).trans (IH b o uF))
  (hl.of_keeps λb o hb n7=>(al o ((jo b (dT b o hb n7)).trans hb) rfl)) ?_ λb o hb n7=>⟨o.slots,(jo b (dT b o hb n7)).trans hb⟩)
 exact⟨oe,vs,T,_,_,(jo e (zak Pn)).trans he,ji,hd,h1,Pi,Pn,zaK _ hT (Obj.isFreed_of_fields (Obj.data_mapFields G1 _)),Obj.data_mapFields G1 _,by simp[MA]⟩
end
section
variable{W:SW}{C:Cx}{κ:Kn}{σ:St}{s:Shared}
theorem vk(up:Ay h h'):∀{outs:List (Addr×iz)} {frs:List (Addr×Obj)},iA outs frs->(∀p∈frs,h.get? p.1=some p.2)->(∀b ob,(b,iz.it ob)∈outs->h'.get? b=some ob)->
  ∃uS,iA outs uS/\uS.map (·.1)=frs.map (·.1)/\∀p∈uS,h'.get? p.1=some p.2:=by
 intro outs
 induction outs with
 |nil=>intro frs hf _ _;subst hf;exact(aM ([]) rfl rfl (λ_ h=>nomatch h))
 |cons q_ outs ih=>
  obtain⟨b,H⟩:=q_;intro frs hf hm hi;dsimp only[iA]at hf
  (refine cQ hf λq l' q3 h1 h2 h3=>?_;clear hf;subst q3)
  refine aZ (ih h3 (λp hp=>hm p (.tail _ hp)) (λb ob h=>hi b ob (.tail _ h))) λuS g1 g2 g3=>?_;cases H with
  |fr m=>
   (refine bR h2 λes ep hd hr=>?_;clear h2)
   obtain⟨sl,LE⟩:=up q.1 q.2 (hm q (.head _)) (λvs e=>by rw[hd]at e;cases e);refine(aM ((q.1,{q.2 with slots:=sl})::uS) ((ci _ _ rfl h1 (gz es ep hd hr) g1)) (by simp[g2]) (λp hp=>?_));rcases YS.mp hp with rfl|hp
   ·exact LE
   ·exact g3 p hp
  |it ob=>
   refine(aM (q::uS) (ci _ _ rfl h1 h2 g1) (by simp[g2]) (λp hp=>?_));rcases YS.mp hp with rfl|hp
   ·rw[h1,h2];exact hi _ _ (.head _)
   ·exact g3 p hp
theorem vm:∀{frs:List (Addr×Obj)},iA outs frs->∀b H,(b,H)∈outs->∃o,(b,o)∈frs/\H7 H o:=by
 induction outs with
 |nil=>intro frs _ b H h;cases h
 |cons x outs ih=>
  intro frs hf b H h
  (refine cQ hf λq l' q3 h1 h2 h3=>?_;clear hf;subst q3)
  rcases YS.mp h with e|h
  ·subst e;exact⟨q.2,by(refine(show q.1=b from h1) ▸?_);exact .head _,h2⟩
  ·refine U (ih h3 b H h) λo g1 g2=>?_;exact⟨o, .tail _ g1,g2⟩
theorem Bb(up:Ay h h')(hn:h.Ns L m):h'.Ns L m:=by
 (refine cY hn λo es ep ho hd hr=>?_;clear hn)
 refine eX (up L o ho (λvs e=>by rw[hd]at e;cases e)) λsl LE=>?_;exact(iO _ es ep LE hd hr)
theorem v9{B h:Heap}(hf:iA outs frs)(hm:∀p∈frs,h.get? p.1=some p.2):∀{l:List Env},xc l outs->(∀env∈l,∀a,env.frame=some a->B.get? a=none)->h.FunFrames B l:=by
 intro l
 induction l with
 |nil=>intro _ _;exact trivial
 |cons env r ih=>
  intro he hb;refine hg λcg kg=>?_;obtain⟨h1,a,m,h2,h3⟩:=he env (.head _);obtain⟨o,ho,es,ep,hd,_⟩:=vm hf a _ h3;refine kg ?_;exact(gA h1 (ci a o h2 (hb env (.head _) a h2) (hm _ ho) (λvs e=>by rw[hd]at e;cases e)) (ih (λe h=>he e (.tail _ h)) λe h=>hb e (.tail _ h)))
theorem NR.swap(R:NR W κ aw H)(hd:κ.at_ sx ix false=some a)(keys:∀x,x∈aw.map (·.1)->x∈uI.map (·.1))(keep:∀p∈aw,p.1≠a->p∈uI)(nt:∀o,(a,o)∈aw->o.cls≠ .type "tuple")(ho:∀mo,nth (H sx) ix=some mo->gB W κ uI sx ix mo):NR W κ uI H:=by
 refine⟨R.known,R.inj,λe=>⟨(R.dom e).1,keys _ (R.dom e).2⟩,λ{s1 i1 o1} e=>?_,λ{b vs} e=>?_⟩
 ·refine bc (s1=sx/\i1=ix) (λq=>?_) λq=>?_
  ·obtain⟨rfl,rfl⟩:=q;exact ho _ e
  ·exact(R.obj e).keep (Kn.Le.refl κ) id λb' x ob hx h=>keep _ h λe'=>by
    exact q ⟨(R.inj hx (e' ▸ hd)).1,(R.inj hx (e' ▸ hd)).2.1⟩
 ·refine U (R.tup e) λob a1 a2=>?_;refine(al ob a1 (a2.imp (λh=>keep _ h λe'=>?_) id));exact nt ob (e' ▸ h) a1.1
theorem dN.obj(x:dN h base e cls dx fl):∃o vs,h.get? e=some o/\o.cls=cls/\o.dict=some dx/\o.slots= #[]/\o.data= .fields vs:=by
 (refine cy x λoe vs T oT q=>?_;(refine uX q λts he q3 hd _=>?_;try clear q;skip))
 exact(yO oe vs he q3.1 q3.2.1 q3.2.2 hd)
end
section
variable{W:SW}{C:Cx}{κ:Kn}{σ:St}{s:Shared}
theorem DJ:∀{outs:List (Addr×iz)} {frs:List (Addr×Obj)},iA outs frs->frs.map (·.1)=outs.map (·.1):=by
 intro outs
 induction outs with
 |nil=>intro frs h;subst h;rfl
 |cons p outs ih=>
  intro frs h
  (refine cQ h λq l' q3 h1 _ h3=>?_;clear h;subst q3)
  simp[h1,ih h3]
theorem zq{β:Type}{o o':β}:∀{l:List (Addr×β)},(l.map (·.1)).Nodup->(d,o)∈l->(d,o')∈l->o=o':=by
 intro l
 induction l with
 |nil=>intros;contradiction
 |cons p r ih=>
  intro hn h h';rw[Y5,Zc]at hn;rcases YS.mp h with e|h<;>rcases YS.mp h' with e'|h'
  ·rw[e.symm]at e';exact(zaR e').2.symm
  ·exact absurd (Zj.mpr (al _ h' rfl)) (by rw[<-e]at hn;exact hn.1)
  ·exact absurd (Zj.mpr (al _ h rfl)) (by rw[<-e']at hn;exact hn.1)
  ·exact ih hn.2 h h'
theorem vZ(hC:C.Ok (n+1))(vh:W.base.objs.size<=C.L)(hk:scope.kind= .function)(lT:rK W κ kU m)(he:pi W (dg C m L a scope qual cd) κ σ false sx ix cx e s)(hQ:∀s',pi W C κ (σ.setE kU) true sx ix cx e s'->Q () s'):wpAny (model W.prog W.w) (dg C m L a scope qual cd).A (leaving (dg C m L a scope qual cd).env e) Q E s:=by
 (refine cy he λx d Cc t q5=>?_;clear he;obtain⟨⟨m',aw,frs,r⟩,rfl,ji,hmain,hsub,here,⟨fs,l7⟩⟩:=q5)
 (refine cy (r.nr.obj l7) λUz x' d' es q=>?_;obtain⟨nn,ob,g1,g2,g3,g4,g5,g6,g7⟩:=q)
 rw[ji]at g1;obtain rfl:=YZ g1;rw[hmain]at g2;obtain rfl:=YZ g2;rw[hsub]at g3;obtain rfl:=YZ g3;have ru:=YZ ((r.N _ (YQ frs g4)).1.symm.trans here);subst ru
 let z0:=dg C m L a scope qual cd
 let fa:=(z0.env::z0.outer).filterMap (·.frame)
 have nD:=r.frs;have mP:∀b∈fa,b=L\/∃o,(b,o)∈frs/\∃Pd,(b,iz.fr Pd)∈z0.outs:=by
  intro b hb;refine U (zbJ.mp hb) λenv h1 h2=>?_;rcases YS.mp h1 with rfl|h1
  ·exact .inl (YZ h2).symm
  ·refine hg λcg kg=>?_;obtain⟨_,b',Pd,h3,h4⟩:=((fI (m:=m) (L:=L) (a:=a) (qual:=qual) (cd:=cd) hC hk).outs) env h1;rw[h2]at h3;obtain rfl:=YZ h3;refine U (vm nD _ _ h4) λo h5 h6=>?_;refine kg ?_;exact .inr ⟨o,h5,Pd,h4⟩
 let B:=hideAll s.heap (x::fa)
 have XH:W.base.StaysIn B:=λb o e=>hideAll_get _ (r.F.keep b o e) (by
  rw[YS];rintro (rfl|h)
  ·rw[(r.N _ (YQ frs g4)).2.2]at e;cases e
  ·exact(λb o hb hf=>by
  rcases mP _ hf with rfl|⟨o',h1,_⟩
  ·exact absurd (Y9 (ZZ hb) r.F.above) (ZX _)
  ·rw[(r.N _ (Y0 _ h1)).2.2]at hb;cases hb) b o e h)
 have XG:∀p∈aw,p.1≠x->B.get? p.1=some p.2:=λp hp hn=>hideAll_get _ (r.N p (YQ _ hp)).1 (by
  rw[YS];rintro (h|h)
  ·exact hn h
  ·exact(show∀p∈aw,p.1∉fa fromλp hp hb=>by
  rcases mP _ hb with e|⟨o,h1,_⟩
  ·exact(r.N p (YQ _ hp)).2.1 e
  ·have nd:=r.nd;rw[Y6,Zi]at nd;exact nd.2.2 _ (Zm hp) _ (aU h1) rfl) p hp h)
 have TZ:∀b obj,(b,iz.it obj)∈z0.outs->B.get? b=some obj:=λb obj hb=>by
  obtain⟨o,h1,h2⟩:=vm nD _ _ hb;have e:=h2;subst e;refine hideAll_get _ (r.N _ (Y0 _ h1)).1 ?_;rw[YS];rintro (h|h)
  ·have nd:=r.nd;rw[Y6,Zi]at nd;exact nd.2.2 _ (aU g4) _ (aU h1) h.symm
  ·rcases mP _ h with e|⟨o',h3,Pd,h4⟩
   ·exact(r.N _ (Y0 _ h1)).2.1 e
   ·have nd:=r.nd;rw[Y6,Zi]at nd;have nk:=nd.2.1;rw[DJ nD]at nk;have e:=YV (λr=> @iz.rec (λ_=>Prop) (λ_=>False) (λ_=>True) r) (zq nk hb h4);exact(e.mp trivial).elim
 refine YT (Dp (base:=B) (fI (m:=m) (L:=L) (a:=a) (qual:=qual) (cd:=cd) hC hk).frames (by
  refine Heap.FunFrames.cons (by show scope.kind≠ .module;rw[hk];decide) (rfl) r.F.ns (hideAll_none _ (.tail _ (zbJ.mpr (al _ (.head _) ((rfl)))))) ?_;exact v9 nD (λp hp=>(r.N p (Y0 _ hp)).1) ((fI (m:=m) (L:=L) (a:=a) (qual:=qual) (cd:=cd) hC hk).outs) λenv he b hb=>hideAll_none _ (.tail _ (zbJ.mpr (al env (.tail _ he) hb)))) (rfl) here (λb o e=>of_hideAll _ e) (hideAll_none _ (.head _)) λap k1 k2 k3 k4=>?_)
 refine lI k1 k2 k3 λaS q1 q2 q3 q4=>hQ _ ?_;refine nK (q3.obj) λgx lV w1 w2 w3 w4 w5=>?_;have uQ:iA ((C.L,iz.fr m)::C.outs) frs:=nD;dsimp only[iA]at uQ
 (refine cQ uQ λq AM q3 e1 e2 e3=>?_;clear uQ;subst q3)
 have nd:=r.nd;rw[Y6,Y5,Zi,Zc]at nd
 (refine dU nd λEB q2 Iy=>?_;clear nd;obtain⟨P9,P8⟩:=q2)
 refine aZ (vk (k4.trans q4) e3 (λp hp=>(r.N p (Y0 _ (.tail _ hp))).1) (λb ob hb=>q1 b ob (TZ b ob (.tail _ hb)))) λrI f1 f2 f3=>?_
 let EK:=aw.filter λp=>decide (p.1≠x)
 have LB:∀p,p∈EK↔p∈aw/\p.1≠x:=λp=>by simp[EK]
 refine⟨m,EK,rI,x,d,Cc,gx,B,?_⟩;refine {eq:=rfl,cls:=ji,main:=hmain,sub:=hsub,here:=w1,fly:=(lU q1 ((hideAll_none _ (.head _))) ((q2.2.2)) q3),base:=XH,above:=vh,ns:= ?_,keep:= ?_,mem:= ?_,hold:= ?_,nd:= ?_,aL:=(λe=>Iy x (aU g4) q.1 (.head _) (e.trans e1.symm)),frs:=f1,nr:= ?_,gone:=⟨fs,l7⟩,env:=lT,gens:=r.gens,os:=r.os}
 ·refine Bb (k4.trans q4) (pF.mpr ⟨q.2,by rw[<-e1];exact(r.N q (Y0 _ (.head _))).1,e2⟩)
 ·intro p hp;obtain⟨h1,h2⟩:=(LB p).mp hp;refine⟨XG p h1 h2,(r.N p (YQ _ h1)).2.2,λe=>?_⟩;exact Iy p.1 (Zm h1) q.1 (.head _) (e.trans e1.symm)
 ·intro p hp
  obtain⟨o,h1⟩:=(show∀p∈rI,∃o,(p.1,o)∈AM fromλp hp=>by
  have:p.1∈AM.map (·.1):=by(refine(f2) ▸?_);exact Zm hp
  refine U (Zj.mp this) λp' h1 h2=>?_;exact⟨p'.2,by(refine(h2) ▸?_);exact h1⟩) p hp
  have z:=r.N _ (Y0 aw (Zf q h1));exact⟨f3 p hp,z.2.2,λe=>P9 (by rw[e1,<-e];exact aU h1)⟩
 ·exactλb ob hb=>TZ b ob (.tail _ hb)
 ·rw[ZD,Y5,Zc,Y6,Zi,f2];have sub:∀y∈EK.map (·.1),y∈aw.map (·.1)/\y≠x:=λy hy=>by
   (refine U (Zj.mp hy) λp h1 q3=>?_;subst q3)
   obtain⟨h2,h3⟩:=(LB p).mp h1;exact⟨Zm h2,h3⟩
  refine(lU ?_ ?_ P8 (λy hy z hz=>Iy y (sub y hy).1 z (.tail _ hz)))
  ·rw[Y8];rintro (h|h)
   ·exact(sub x h).2 rfl
   ·exact Iy x (aU g4) x (.tail _ h) rfl
  ·exact(List.filter_sublist.map _).nodup EB
 ·refine r.nr.swap hmain (λy hy=>?_) (λp hp hn=>Zf _ ((LB p).mpr ⟨hp,hn⟩)) (λo ho=>?_) (λmo Es=>?_)
  ·(refine U (Zj.mp hy) λp h1 q3=>?_;subst q3)
   by_cases TI:p.1=x
   ·rw[Y5];rw[TI];exact .head _
   ·rw[Y5];exact .tail _ (Zm ((LB p).mpr ⟨h1,TI⟩))
  ·have:=cJ EB ho g4
   (refine(this).symm ▸?_);exactλe=>by cases e
  ·rw[l7]at Es;obtain rfl:=YZ Es
   exact⟨Cc,x,d,es,nn,gx,ji,hmain,hsub, .head _,⟨w2,w3,w4,lV,w5⟩, .tail _ ((LB _).mpr ⟨g6,(λe=>by
    have:=r.nr.inj hsub (e ▸ hmain);cases this.2.2)⟩),g7⟩
theorem zv(hC:C.Ok (n+1))(vh:W.base.objs.size<=C.L)(hk:scope.kind= .function)(lT:rK W κ kU m)(he:pi W (dg C m L a scope qual cd) κ σ true sx ix cx e s)(hQ:∀s',pi W C κ (σ.setE kU) true sx ix cx e s'->Q () s'):wpAny (model W.prog W.w) (dg C m L a scope qual cd).A (leaving (dg C m L a scope qual cd).env e) Q E s:=by
 (refine cy he λm' aw frs x q=>?_;(refine cy q λd Cc o B r=>?_;try clear q))
 refine AY (r.fly) λQF Pp Qy Pg=>?_;have e0:=r.eq;subst e0;refine YT (xy (base:=B) (fI (m:=m) (L:=L) (a:=a) (qual:=qual) (cd:=cd) hC hk).frames Qy (show(dg C m L a scope qual cd).env.frame=some L from rfl) Pg QF Pp λap k1 k2 k3 k4=>?_);refine lI k1 k2 k3 λaS q1 q2 q3 q4=>hQ _ ?_;refine nK (q3.obj) λgx lV w1 w2 w3 w4 w5=>?_;have uQ:iA ((C.L,iz.fr m)::C.outs) frs:=r.frs;dsimp only[iA]at uQ
 (refine cQ uQ λq AM q3 e1 e2 e3=>?_;clear uQ;subst q3)
 have nd:=r.nd;rw[ZD,Y5,Zc,Y6,Y5,Zi,Zc,Y8]at nd
 (refine AY nd λIz EB q3 Iy=>?_;clear nd;obtain⟨P9,P8⟩:=q3)
 refine aZ (vk (k4.trans q4) e3 (λp hp=>(r.mem p (.tail _ hp)).1) (λb ob hb=>q1 b ob (r.hold b ob (.tail _ hb)))) λrI f1 f2 f3=>?_;refine eX (r.gone) λfs l7=>?_;refine⟨m,aw,rI,x,d,Cc,gx,B,?_⟩;refine {eq:=rfl,cls:=r.cls,main:=r.main,sub:=r.sub,here:=w1,fly:=(lU q1 Pp ((q2.2.2)) q3),base:=r.base,above:=vh,ns:= ?_,keep:= ?_,mem:= ?_,hold:= ?_,nd:= ?_,aL:=(λe=>Iz (.inr (by rw[e,<-e1];exact .head _))),frs:=f1,nr:= ?_,gone:=⟨fs,l7⟩,env:=lT,gens:=r.gens,os:=r.os}
 ·refine Bb (k4.trans q4) (pF.mpr ⟨q.2,by(refine(e1) ▸?_);exact(r.mem q (.head _)).1,e2⟩)
 ·intro p hp;exact⟨(r.keep p hp).1,(r.keep p hp).2.1,λe=>Iy p.1 (Zm hp) q.1 (.head _) (e.trans e1.symm)⟩
 ·intro p hp
  refine eX ((show∀p∈rI,∃o,(p.1,o)∈AM fromλp hp=>by
  have:p.1∈AM.map (·.1):=by(refine(f2) ▸?_);exact Zm hp
  refine U (Zj.mp this) λp' h1 h2=>?_;exact⟨p'.2,by(refine(h2) ▸?_);exact h1⟩) p hp) λo h1=>?_
  have z:=r.mem _ (Zf q h1);exact⟨f3 p hp,z.2.1,λe=>P9 (by rw[e1,<-e];exact aU h1)⟩
 ·exactλb ob hb=>r.hold b ob (.tail _ hb)
 ·rw[ZD,Y5,Zc,Y6,Zi,f2,Y8];refine(lU ?_ EB P8 (λy hy z hz=>Iy y hy z (.tail _ hz)));rintro (h|h)
  ·exact Iz (.inl h)
  ·exact Iz (.inr (.tail _ h))
 ·skip;refine r.nr.swap r.main (λy hy=>hy) (λp hp hn=>?_) (λo' ho=>?_) (λmo Es=>?_)
  ·rcases YS.mp hp with rfl|hp
   ·exact absurd rfl hn
   ·exact .tail _ hp
  ·have:=cJ (by
   rw[Y5,Zc];exact⟨λh=>Iz (.inl h),EB⟩) ho (.head _)
   rw[this,(show o.cls= .ref Cc from by
   refine a8 (Pg.obj) λo' UM z1 z2 _=>?_;have:=YZ (z1.symm.trans r.here)
   (refine(this) ▸?_);exact z2)];exactλe=>by cases e
  ·rw[l7]at Es;obtain rfl:=YZ Es;refine hg λcg kg=>?_;(refine cy ((λmo h=>r.nr.obj h) _ l7) λUz x' d' es q=>?_;obtain⟨nn,ob,g1,g2,g3,g4,g5,g6,g7⟩:=q)
   rw[r.cls]at g1;obtain rfl:=YZ g1;rw[r.main]at g2;obtain rfl:=YZ g2;rw[r.sub]at g3;obtain rfl:=YZ g3
   refine kg ?_;exact⟨Cc,x,d,es,nn,gx,r.cls,r.main,r.sub, .head _,⟨w2,w3,w4,lV,w5⟩, .tail _ (by
    rcases YS.mp g6 with e|h
    ·exact absurd (YV Prod.fst e) (show d≠x fromλe=>by
    have:=r.nr.inj r.sub (e ▸ r.main);cases this.2.2)
    ·exact h),g7⟩
theorem Du:xZ W:=by
 intro C n κ σ m L a scope qual cd je sx ix cx e s kU Q E hC TV hk lT he hQ;cases je with
 |true=>exact zv hC TV hk lT he hQ
 |false=>exact vZ hC TV hk lT he hQ
end
structure pR(W:SW)(fa:Nat->Option Addr)(c:Nat)(Ca:Addr):Prop where
 obj:∃nm q N bs bm hdct sn sub ab col dd k0 k1 k2 k3 k5 newId nC yw,W.K.lookup Ca=some (excClassObj nm q Ca N bs bm hdct sn sub ab col dd k0 k1 k2 k3 k5 newId)/\ExcBaseFacts "Exception" newId nC yw/\pQ bm
 init:∃f a,W.P.init c=some (some f)/\fa f=some a/\findIn W.K (.ref Ca) "__init__"=some (some (.ref a))/\typeIn W.K (.ref a)=some (.type "function")
section
variable{W:SW}{C:Cx}{κ:Kn}{σ:St}{s:Shared}
theorem vU(yu:ei W fa ih n)(hC:C.Ok (n+2))(hc:W.cls c=some Ca)(hx:pR W fa c Ca)(h:M.makeExc W.P ih c t args σ=some (res,σ'))(hv:cH W κ args us)(R:bz W C κ σ s)(k:bE W C (λκ=>VR W κ) Q E res κ σ'):wpAny (model W.prog W.w) C.A (call (.ref Ca) us) Q E s:=by
 refine zbp ?_;refine cQ (hx.init) λf a hi LK Bu Qn=>?_;refine U (gH h) λo Xl g=>?_;obtain rfl:=si (hi.symm.trans Xl);refine U (gH g) λf' e g=>?_;obtain rfl:=si e;obtain⟨hb,g⟩:=cP g
 (refine cy (hx.obj) λnm q N bs q=>?_;(refine cy q λbm hdct sn sub q=>?_;(refine cy q λab col dd k0 q=>?_;(refine cy q λk1 k2 k3 k5 q=>?_;(refine cY q λnewId nC yw ru Fn hm=>?_;try clear q)))))
 refine Jp (gk hm) λq1 q2 q3 q4 q5 q6=>?_;refine Ds (h:=s.heap) (g:=s.gens) (d:=s.drawn) (t:=s.toks) (os:=s.os) Fn q3 q5 q6 ((R.K) _ _ ru) (looks_findIn (R.K) Bu) (λeV=>bind_fn (R.K) eV Qn) (hv.length ▸ YU (YX (an hb).2) ak) ?_;refine bi (id (R.push (o:=eY us))) λm aw frs lR=>?_
 let z0:=dj Ca s.heap.objs.size
 refine dc (lR.new (t:=t) (l:=(s.heap.push (eY us)).objs.size) (mo:= .inst c []) (s':={s with heap:=(s.heap.push (eY us)).push z0}) (lR.F.push z0) (lR.N.push lR.F z0) (gM lR)
  (aY Ca _ hc (Kn.add_self) (.inr ⟨(an hb).1,s.heap.objs.size, .inl ⟨rfl,by rw[Kn.add_ne (λq=>by cases q.2.2)];exact lR.offEnd t true, .head _⟩⟩)) rfl rfl) λle iL=>?_
 exact o4 yu hC LK g le ((Heap.size_push ..) ▸ Kn.add_self) hv (b6 m _ frs iL) k
theorem vQ{sub:List Value}{M:Model}(NY:bm.contains (.type "BaseException")=true)(hh:A.handled=none)(h:wpAny M A x (λv aE=>∃e t d,v= .ref e/\aE.heap.get? Cc=some (excClassObj nm q Cc N bs bm hdct sn sub ab col dd k0 k1 k2 k3 k5 newId)/\aE.heap.get? e=some ⟨.ref Cc,some d,bA t,#[]⟩/\E (.ref e) aE) E s):
  wpAny M A (raiseStmt env (some x) none) Q E s:=by
 refine YT (wpAny_mono h (λv aE ap=>?_) λ_ _ x=>x)
 (refine nJ ap λe t d q4 hC he hE=>?_;clear ap;subst q4)
 repeat (first|with_reducible refine zao he ?_|with_reducible refine zao hC ?_|(with_reducible refine zaV hC ?_;(refine((show(Value.ref Cc::bm).contains (.type "BaseException")=true from by rw[zaD,NY,Bool.or_true])).symm ▸?_))|wp_step)
 exact wpAny_raiseNew_none hh hE
theorem tw(h:M.raise W.P c t i σ=some (res,σ')):∃fs,nth (σ.heap t) i=some (.inst c fs)/\W.P.isExc c=true/\fs≠ []/\res= .exc false t i c/\σ'=σ.put t i (.gone c fs):=by
 refine hg λcg kg=>?_;refine U (iV h) λo e g=>?_
 (refine bR (HM g) λc' fs q3 g=>?_;subst q3)
 obtain⟨hb,g⟩:=cP g;obtain rfl:=YY (an (an hb).2).1;refine kg ?_;exact(AW fs e ((an hb).1) (λe=>by rw[e]at hb;exact nf (an (an hb).2).2) (sp g))
theorem NR.turn(R:NR W κ aw H)(ho:gB W κ aw t i mo):NR W κ aw (λt'=>match Nat.beq t' t with|true=>setNth mo (H t) i|false=>H t'):=by
 have len:∀s',(match Nat.beq s' t with|true=>setNth mo (H t) i|false=>H s').length=(H s').length:=λs'=>by
  cases q:Nat.beq s' t with
  |true=>have:=YY q;subst this;exact ff
  |false=>rfl
 refine⟨R.known,R.inj,λ{s1 i1 b1 x} e=>by rw[len];exact R.dom e,λ{s1 i1 o1} e=>?_,R.tup⟩;refine cX (Nat.beq s1 t) (λq=>?_) λq=>?_
 ·
  have:=YY q;subst this;rw[q]at e;rcases iY e with⟨rfl,rfl⟩|⟨h,e⟩
  ·exact ho
  ·exact R.obj e
 ·
  rw[q]at e;exact R.obj e
theorem F2(h:nth (σ.heap t) i=some o):nth ((σ.put t i mo).heap t) i=some mo:=by
 simp only[St.put,(show Nat.beq t t=true from by simp)];generalize σ.heap t=l at h
 induction l generalizing i with
 |nil=>exact nt h
 |cons a l ih=>
  cases i with
  |zero=>rfl
  |succ i=>exact ih h
theorem FQ(yu:ei W fa ih n)(hC:C.Ok (n+2))(hl:C.scope.names.lookup (W.nm c)=some .globalImplicit)(hd:(W.nm c==("__debug__":Str))=false)(hn:nsIn W.K mainGlobals (W.nm c)=some (some (.ref Ca)))(hc:W.cls c=some Ca)(hx:pR W fa c Ca)(hk:keepIn W.K (.ref Ca)=true)(gF:es.all noStar=true)(hs:cm (λe x=>SndE W C e (ih.e x)) es xs):
  SndS W C (.Raise (some (.Call (.Name (W.nm c) np) es [] cp)) none pos) (M.bind (kK ih xs) λvs=>M.bind (M.makeExc W.P ih c t vs) λo=>M.oR o (M.raise W.P c)):=by
 intro κ σ res σ' h s Q E R k
 (refine cy (hx.obj) λnm q N bs q=>?_;obtain⟨bm,hdct,sn,sub,ab,col,dd,k0,k1,k2,k3,k5,newId,nC,yw,ru,Fn,hm⟩:=q)
 refine Jp (gk hm) λq1 q2 q3 q4 q5 q6=>?_;rw[arm_exec_Raise];refine YT (ZW ?_);refine vQ (Cc:=Ca) (nm:=nm) (q:=q) (N:=N) (bs:=bs) (bm:=bm) (hdct:=hdct) (sn:=sn) (sub:=sub) (ab:=ab) (col:=col) (dd:=dd) (k0:=k0) (k1:=k1) (k2:=k2) (k3:=k3) (k5:=k5) (newId:=newId) q4 hC.calm (YT (zaH ?_));refine bi (id R) λm aw frs r=>?_;refine name_K r.F W.X W.T hn ?_ hC.kind hl hd;refine eQ (first:= []) hk gF hs h R k λam ai vs us aE le hv ar ap k₁=>?_;rw[ZG];refine bU.bind (V₁:=λκ=>VR W κ) (λ_ _ h _ _ _ R k=>vU yu hC hc hx h hv R k) ap ar k₁ λbK bG v u c8 aX hu bD aS dP=>?_;refine YT (ZW (Y7 ?_))
 (refine bR (Ml aS) λt' i' q3 g=>?_;subst q3)
 (refine uW (tw g) λfs g1 g2 g3 q5 q6=>?_;subst q5;subst q6)
 (refine U (hu.obj) λp q2 wz=>?_;subst q2)
 refine bi (id bD) λMs BH Ch iL=>?_;refine a8 (iL.nr.obj g1) λCc a' z0 z1 z2=>?_;obtain rfl:=si (wz.symm.trans z1);obtain rfl:=si (hc.symm.trans z0);rcases z2 with⟨e,_⟩|⟨_,tt,⟨x0,_⟩|⟨d,Ld,nn,x1,x2,x3,x4⟩⟩
 ·exact ng (g2.symm.trans e)
 ·exact absurd x0 g3
 ·skip;exact(ph p tt d rfl (bD.K _ _ ru) (((iL.N _ (YQ _ x2)).1)) (dP bK c8 (Kn.Le.refl _) _ ⟨p,d,Ca,tt,⟨Ms,BH,Ch,iL.F,iL.N,iL.nd,iL.frs,iL.nr.turn ⟨Ca,p,d,Ld,nn,_,hc,wz,x1,x2,⟨rfl,rfl,rfl,_,rfl⟩,x3,x4⟩,iL.env,iL.gens,iL.os⟩,rfl,hc,wz,x1,((iL.N _ (YQ _ x2)).1),⟨fs,F2 g1⟩⟩))
end
noncomputable def Cx.held (C:Cx) (p:Addr):Cx:={C with A:=C.A.mark (some (.ref p))}
section
variable{W:SW}{C:Cx}{κ:Kn}{σ:St}{s:Shared}
theorem sr:bz W (C.held p) κ σ s↔bz W C κ σ s:=by
 constructor
 ·rintro ⟨m,aw,frs,r⟩;exact(b6 m aw frs ⟨r.F,r.N,r.nd,r.frs,r.nr,r.env,r.gens,r.os⟩)
 ·rintro ⟨m,aw,frs,r⟩;exact(b6 m aw frs ⟨r.F,r.N,r.nd,r.frs,r.nr,r.env,r.gens,r.os⟩)
theorem ui(h:M.catch c x mb mh σ=some (res,σ')):
  (∃f,mb σ=some (.ok f,σ')/\res= .ok f)\/∃sx ix ai fs f bG,mb σ=some (.exc true sx ix c,ai)/\nth (ai.heap sx) ix=some (.gone c fs)/\mh ((ai.put sx ix (.caught c fs)).setE (Mine.putN x (.obj sx ix) ai.env))=some (.ok f,bG)/\res= .ok f/\σ'=bG.setE (lb x bG.env):=by
 unfold M.catch at h;refine dI (mb σ) (λe=>?_) λp e=>?_
 ·rw[e]at h;exact nt h
 ·
  (refine(e).symm ▸?_)
  rw[e]at h;obtain⟨r,ai⟩:=p;cases r with
  |ok f=>obtain⟨rfl,rfl⟩:=sp h;exact .inl ⟨f,rfl,rfl⟩
  |exc je sx ix c'=>
   obtain⟨rfl,h⟩:=cP h;refine hg λcg kg=>?_;refine U (iV h) λo e1 h=>?_
   (refine bR (NM h) λLU fs q3 h=>?_;subst q3)
   obtain⟨hb,h0⟩:=cP h;obtain rfl:=YY (an hb).1;obtain rfl:=YY (an hb).2;refine kg ?_;clear h
   let z0:=(ai.put sx ix (.caught c fs)).setE (Mine.putN x (.obj sx ix) ai.env)
   have h:M.unE x mh z0=some (res,σ'):=h0;unfold M.unE M.bind M.calm at h;refine dI (mh z0) (λe2=>?_) λq e2=>?_
   ·rw[e2]at h;exact nt h
   ·
    rw[e2]at h;obtain⟨r,bG⟩:=q;cases r with
    |ok f=>exact .inr ⟨sx,ix,ai,fs,f,bG,rfl,e1,e2,sp h⟩
    |exc _ _ _ _=>exact nt h
theorem BG.caught{aw frs:List (Addr×Obj)}(r:BG W C κ σ sx ix cx e s m aw frs a d Cc o B)(hg:nth (σ.heap sx) ix=some (.gone cx fs))(q1:B.StaysIn h')(q3:dN h' B a (.ref Cc) d .none)(up:Ay s.heap h'):bz W C κ (σ.put sx ix (.caught cx fs)) {s with heap:=h'}:=by
 refine nK (q3.obj) λgx lV w1 w2 w3 w4 w5=>?_;have nd:=r.nd;rw[ZD,Y5,Zc,Y6,Y8]at nd;obtain⟨Iz,EB⟩:=nd;refine aZ (vk up r.frs (λp hp=>(r.mem p hp).1) (λb ob hb=>q1 b ob (r.hold b ob hb))) λrI f1 f2 f3=>?_
 (refine cy (r.nr.obj hg) λUz x' d' es q=>?_;obtain⟨nn,ob,g1,g2,g3,g4,g5,g6,g7⟩:=q)
 rw[r.cls]at g1;obtain rfl:=YZ g1;rw[r.main]at g2;obtain rfl:=YZ g2;rw[r.sub]at g3;obtain rfl:=YZ g3;have T4:(d,dictOf es nn)∈aw:=by
  rcases YS.mp g6 with e|h
  ·exact absurd (YV Prod.fst e) (show d≠a fromλe=>by
  have:=r.nr.inj r.sub (e ▸ r.main);cases this.2.2)
  ·exact h
 have N5:gB W κ ((a,gx)::aw) sx ix (.gone cx fs):=⟨Cc,a,d,es,nn,gx,r.cls,r.main,r.sub, .head _,⟨w2,w3,w4,lV,w5⟩, .tail _ T4,g7⟩
 refine⟨m,(a,gx)::aw,rI,⟨Bb up r.ns,λb o e=>q1 b o (r.base b o e),r.above⟩,λp hp=>?_,?_,f1,(show NR W κ ((a,gx)::aw) σ.heap from by
  refine r.nr.swap r.main (λy hy=>hy) (λp hp hn=>?_) (λo' ho=>?_) (λmo Es=>?_)
  ·rcases YS.mp hp with rfl|hp
   ·exact absurd rfl hn
   ·exact .tail _ hp
  ·have:=cJ (by
  rw[Y5,Zc];exact⟨λh=>Iz (.inl h),(by rw[Zi]at EB;exact EB.1)⟩) ho (.head _)
   rw[this,(show o.cls= .ref Cc from by
  refine a8 (r.fly.2.2.2.obj) λo' UM z1 z2 _=>?_;have:=YZ (z1.symm.trans r.here)
  (refine(this) ▸?_);exact z2)];exactλe=>by cases e
  ·rw[hg]at Es;obtain rfl:=YZ Es;exact N5).turn ?_,r.env,r.gens,r.os⟩
 ·rw[ZD]at hp;rcases YS.mp hp with rfl|hp
  ·exact(gA w1 (r.aL) ((by
  cases q:W.base.get? a with
  |none=>rfl
  |some o=>have:=r.base a o q;rw[(r.fly.2.1)]at this;exact nt this)))
  ·rcases Y8.mp hp with hp|hp
   ·exact⟨q1 _ _ (r.keep p hp).1,(r.keep p hp).2.2,(r.keep p hp).2.1⟩
   ·refine eX ((show∀p∈rI,∃o,(p.1,o)∈frs fromλp hp=>by
  refine U (Zj.mp (by rw[<-f2];exact Zm hp)) λp' h1 h2=>?_;exact⟨p'.2,by(refine(h2) ▸?_);exact h1⟩) p hp) λo h1=>?_
    exact(gA (f3 p hp) ((r.mem _ h1).2.2) ((r.mem _ h1).2.1))
 ·rw[ZD,Y5,Zc,Y6,f2,Y8];exact⟨Iz,EB⟩
 ·exact⟨Cc,a,d,es,nn,gx,r.cls,r.main,r.sub, .head _,⟨w2,w3,w4,lV,w5⟩, .tail _ T4,g7⟩
theorem bz.unbind(r:a9 W C κ σ s m aw frs)(hn:h'.Ns C.L (λy=>if y=W.nm x then u else m y))(hs:Heap.SameBut C.L s.heap h'):bz W C κ (σ.setE (lb x σ.env)) {s with heap:=h'}:=by
 have bL:W.base.get? C.L=none:=by
  cases q:W.base.get? C.L with
  |none=>rfl
  |some o=>exact absurd (Y9 (ZZ q) r.F.above) (ZX _)
 refine⟨_,aw,frs,⟨hn,λb o e=>(hs.2 b (λq=>by rw[q,bL]at e;cases e)).trans (r.F.keep b o e),r.F.above⟩,λp hp=>?_,r.nd,r.frs,r.nr,λy v e=>?_,r.gens,r.os⟩
 ·have z:=r.N p hp;exact⟨(hs.2 _ z.2.1).trans z.1,z.2⟩
 ·dsimp only[St.setE]at e;rw[m2]at e;by_cases q:y=x
  ·rw[ZU q]at e;exact nt e
  ·rw[Zs q]at e;refine U (r.env y v e) λu' a1 a2=>?_;exact(al u' (by rw[Zs λz=>q (W.inj _ _ z)];exact a1) a2)
theorem bz.envs(R:bz W C κ (σ.setE e₁) s)(h:∀y v,aN y e₂=some v->aN y e₁=some v):bz W C κ (σ.setE e₂) s:=by
 (refine bi R λm aw frs r=>?_;clear R)
 exact(b6 m aw frs ⟨r.F,r.N,r.nd,r.frs,r.nr,λy v e=>r.env y v (h y v e),r.gens,r.os⟩)
theorem Ng(nD:C.A.frames=some (C.env::C.outer))(hk:C.scope.kind= .function)(ji:W.cls c=some Ca)(hx:pR W fa c Ca)(hl:C.scope.names.lookup (W.nm c)=some .globalImplicit)(hd:(W.nm c==("__debug__":Str))=false)(hn:nsIn W.K mainGlobals (W.nm c)=some (some (.ref Ca)))(Qs:C.scope.names.lookup (W.nm x)=some .local)(hb:cm (λe x=>SndS W C e (ih.s x)) body xb)(hh:∀p,cm (λe x=>SndS W (C.held p) e (ih.s x)) (b₀::suite) xh):
  SndS W C (.Try body [.ExceptHandler (some (.Name (W.nm c) np)) (some (W.nm x)) (b₀::suite) hp] [] [] pos) (M.catch c x (Mine.execs ih xb) (Mine.execs ih xh)):=by
 intro κ σ res σ' h s Q E R k;rw[arm_exec_Try];refine YT (ZW (wpAny_tryStmt_except ?_));refine(ui h).elim (λq=>?_) λq=>?_
 ·obtain⟨f,hm,rfl⟩:=q;refine dk hb κ σ _ _ hm _ _ _ R λcK s' le g hg R'=>?_;cases f with
  |next=>
   subst hg;exact zby (k cK s' le _ rfl R')
  |ret v=>
   (refine U hg λu q2 hv=>?_;clear hg;subst q2)
   exact k cK s' le _ (al u rfl hv) R'
 ·(refine cy q λsx ix ai fs q=>?_;(refine nK q λf bG hm hg Xc q6 q7=>?_;try clear q;subst q6;subst q7));refine dk hb κ σ _ _ hm _ _ _ R λcK s' le e he=>?_
  (refine cy he λm aw frs a q=>?_;(refine cy q λd Cc o B r=>?_;try clear q))
  have e0:=r.eq;subst e0;have e1:=r.cls;rw[ji]at e1;obtain rfl:=YZ e1;refine AY (r.fly) λQF Pp Qy Pg=>?_
  (refine cy (hx.obj) λnm q N bs q=>?_;(refine cy q λbm hdct sn sub q=>?_;(refine cy q λab col dd k0 q=>?_;(refine cy q λk1 k2 k3 k5 q=>?_;(refine cY q λnewId nC yw ru Fn RQ=>?_;try clear q)))))
  refine Jp (gk RQ) λ_ _ _ q4 _ _=>?_;refine xy (base:=B) nD Qy (show C.env.frame=some C.L from rfl) Pg QF Pp λap WE WD WC Ty=>?_;refine lI WE WD WC λaS p1 p2 p3 p4=>?_;have bD:=r.caught hg p1 p3 (Ty.trans p4);refine wpAny_handleBy_cons (codeAny_handlers_test ?_) (by intro q;cases q);refine bi (id bD) λMs BH Ch iL=>?_;refine name_K iL.F W.X W.T hn ?_ hk hl hd;refine nK (p3.obj) λgx lV w1 w2 w3 w4 w5=>?_;refine wpAny_excMatches_sub_self (h:=aS) (bD.K _ _ ru) w1 w2 q4 ?_;refine codeAny_handlers_suite_as ?_;refine lI p1 p2 p3 λfq g1 g2 g3 g4=>?_;have hv:VR W cK (V.obj sx ix) (.ref a):=by exact(al a rfl (r.main))
  refine fy (C:=C.held a) (x:=x) (v:= .obj sx ix) (res:= .ok ()) hk Qs rfl hv (sr.mpr (r.caught hg g1 g3 ((Ty.trans p4).trans g4))) λHk Rb wQ _ _ yR=>?_;refine dk (C:=C.held a) (hh a) Hk _ _ _ Xc _ _ _ yR λUB Yp NH g Xm Sv=>?_;refine YT (wpAny_bindName ?_);refine fy (C:=C) (x:=x) (v:= .none) (res:= .ok ()) hk Qs rfl j3 (sr.mp Sv) λMY Yo HI _ _ Su=>?_;refine bi (id Su) λMr Sx Sz IX=>?_
  obtain⟨u,hu⟩:=(show∃u,Mr (W.nm x)=some u from by
   refine U (IX.env x .none (by simp only[St.setE,iZ,if_true])) λu hu _=>?_;exact⟨u,hu⟩)
  refine wpAny_onRaise (wpAny_unbindName_local (m:=Mr) (v:=u) Qs IX.F.ns hu (by(refine(hk).symm ▸?_);rfl) λYr u' NS NO=>?_)
  exact k MY _ (((le.trans wQ).trans NH).trans HI) _ (Xm.mono HI) (by
   refine bz.envs (σ:=bG) (e₁:=lb x (Mine.putN x .none bG.env)) (bz.unbind (x:=x) IX NS NO) λy v e=>?_;rw[m2]at e⊢;by_cases q:y=x
   ·rw[ZU q]at e;exact nt e
   ·rw[Zs q]at e⊢;rw[iZ,Zs q];exact e)
end
structure Tb where
 flds:List Nat
 sets:List Nat
 meths:List Nat
 glbs:List Nat
 fns:List Nat
 news:List Nat
 excs:List Nat
def iN(x:Nat):List Nat->Bool
 | []=>false
 |y::r=>Nat.beq y x||iN x r
theorem b9(h:iN x l=true):x∈l:=by
 induction l with
 |nil=>exact nf h
 |cons y r ih=>
  rcases ZB.mp h with h|h
  ·exact YY h ▸ .head _
  ·exact .tail _ (ih h)
noncomputable def df (sc:Scope) (y:Str) (k:NameKind):Bool:=(sc.names.lookup y).any λk'=>decide (k'=k)
theorem ch(h:df sc y k=true):sc.names.lookup y=some k:=by
 unfold df at h;generalize sc.names.lookup y=o at h;cases o with
 |none=>exact nf h
 |some k'=>rw[Zt h]
noncomputable def cL:Expr:= .Tuple [] 0 ⟨0,0,0,0⟩
def n9:Stmt:= .Pass ⟨0,0,0,0⟩
def EG{α:Type}(d:α):List α->α
 | []=>d
 |a::_=>a
structure Gu where
 es:List Expr
 ks:List (Option Expr)
 k:Nat
 c:Const
def lw(es:List Expr):Gu:=⟨es, [],0, .none⟩
def gu(e:Expr):Gu:=e.casesOn (λ_ es _=>lw es) (λ_ _ _=>lw []) (λa _ b _=>lw [a,b]) (λ_ a _=>lw [a]) (λ_ _ _ _=>lw []) (λc a b _=>lw [c,a,b]) (λks vs _=>⟨vs,ks,0, .none⟩) (λ_ _ _=>lw []) (λ_ _ _ _=>lw []) (λ_ _ _ _=>lw []) (λ_ _ _ _ _=>lw []) (λ_ _ _ _=>lw []) (λ_ _=>lw []) (λ_ _=>lw []) (λ_ _=>lw []) (λa _ es _=>lw (a::es)) (λf es _ _=>lw (f::es)) (λ_ _ _ _=>lw []) (λ_ _=>lw []) (λc k _=>⟨[], [],k,c⟩) (λa _ _=>lw [a]) (λa i _=>lw [a,i]) (λ_ _=>lw []) (λ_ _=>lw []) (λes _=>lw es) (λes k _=>⟨es, [],k, .none⟩) (λa b _ _=>lw [a.getD cL,b.getD cL])
def k1(g:Expr):Expr:=EG cL (gu g).es
def k2(g:Expr):Expr:=EG cL (gu g).es.tail
def k3(g:Expr):Expr:=EG cL (gu g).es.tail.tail
noncomputable def gC {α β:Type} (d:β) (f:α->β->β):List α->List β->List β
 | [],_=> []
 |x::xs,gs=>f x (EG d gs)::gC d f xs gs.tail
noncomputable def jX {α β:Type} (d:β) (f:α->β->Bool):List α->List β->Bool
 | [],_=>true
 |x::xs,gs=>f x (EG d gs)&&jX d f xs gs.tail
def Bm{α:Type}(l:List α)(n:Nat):Bool:=Nat.ble l.length n
def O0(f:Ex->Expr->Expr)(x:Option Ex)(g:Expr):Option Expr:=x.map λx=>f x g
section
variable(nm:Nat->Str)
noncomputable def tp:Nat->Ex->Expr->Expr
 |0,_,g=>g
 |n+1,x,g=>match x with
  | .hole=>g
  | .loc x=> .Name (nm x) (Expr.pos g)
  | .glb x=> .Name (nm x) (Expr.pos g)
  | .k _=> .Constant (gu g).c (gu g).k (Expr.pos g)
  | .tup xs=> .Tuple (gC cL (tp n) xs (gu g).es) (gu g).k (Expr.pos g)
  | .list _ xs=> .List (gC cL (tp n) xs (gu g).es) (Expr.pos g)
  | .dict _ ks vs=> .Dict ((gC cL (tp n) ks ((gu g).ks.map λo=>o.getD cL)).map some) (gC cL (tp n) vs (gu g).es) (Expr.pos g)
  | .bin o a b=> .BinOp (tp n a (k1 g)) (EA o) (tp n b (k2 g)) (Expr.pos g)
  | .rep _ a b=> .BinOp (tp n a (k1 g)) .Mult (tp n b (k2 g)) (Expr.pos g)
  | .neg a=> .UnaryOp .USub (tp n a (k1 g)) (Expr.pos g)
  | .not a=> .UnaryOp .Not (tp n a (k1 g)) (Expr.pos g)
  | .and xs=> .BoolOp .And (gC cL (tp n) xs (gu g).es) (Expr.pos g)
  | .or xs=> .BoolOp .Or (gC cL (tp n) xs (gu g).es) (Expr.pos g)
  | .cmp a os bs=> .Compare (tp n a (k1 g)) (os.map z8) (gC cL (tp n) bs (gu g).es.tail) (Expr.pos g)
  | .ite c a b=> .IfExp (tp n c (k1 g)) (tp n a (k2 g)) (tp n b (k3 g)) (Expr.pos g)
  | .attr a x=> .Attribute (tp n a (k1 g)) (nm x) (Expr.pos g)
  | .sub a b=> .Subscript (tp n a (k1 g)) (tp n b (k2 g)) (Expr.pos g)
  | .slice _ a lo hi=> .Subscript (tp n a (k1 g)) (.Slice (O0 (tp n) lo (k1 (k2 g))) (O0 (tp n) hi (k2 (k2 g))) none (Expr.pos (k2 g))) (Expr.pos g)
  | .call f xs=> .Call (.Name (nm f) (Expr.pos (k1 g))) (gC cL (tp n) xs (gu g).es.tail) [] (Expr.pos g)
  | .new c _ xs=> .Call (.Name (nm c) (Expr.pos (k1 g))) (gC cL (tp n) xs (gu g).es.tail) [] (Expr.pos g)
  | .meth o x xs=> .Call (.Attribute (tp n o (k1 (k1 g))) (nm x) (Expr.pos (k1 g))) (gC cL (tp n) xs (gu g).es.tail) [] (Expr.pos g)
  | .len a=> .Call (.Name "len" (Expr.pos (k1 g))) [tp n a (k2 g)] [] (Expr.pos g)
variable(T:Tb)(sc:Scope)(free:Bool)
def Mu(y:Str):Bool:=df sc y .local&& !(y==("__debug__":Str))
def yI(y:Str):Bool:=df sc y .globalImplicit&& !(y==("__debug__":Str))
noncomputable def dH:Nat->Ex->Expr->Bool
 |0,_,_=>false
 |n+1,x,g=>match x with
  | .hole=>true
  | .loc x=>Mu sc (nm x)
  | .glb x=>yI sc (nm x)&&iN x T.glbs
  | .k v=>cR v (gu g).c
  | .tup xs=>jX cL (dH n) xs (gu g).es&&((gC cL (tp nm n) xs (gu g).es).all noStar&&Bm xs 1000)
  | .list _ xs=>jX cL (dH n) xs (gu g).es&&(gC cL (tp nm n) xs (gu g).es).all noStar
  | .dict _ ks vs=>(ks.isEmpty&&vs.isEmpty)||
    (!ks.isEmpty&&(jX cL (dH n) ks ((gu g).ks.map λo=>o.getD cL)&&(jX cL (dH n) vs (gu g).es&&(Nat.beq ks.length vs.length&&Bm ks 15))))||
    ((jX cL (dH n) ks ((gu g).ks.map λo=>o.getD cL)&&jX cL (dH n) vs (gu g).es)&&(wI ks vs).any λps=>Nat.beq ps.length 16&&be 1 (Im ps))
  | .bin _ a b=>dH n a (k1 g)&&dH n b (k2 g)
  | .rep _ a b=>dH n a (k1 g)&&dH n b (k2 g)
  | .neg a=>dH n a (k1 g)
  | .not a=>dH n a (k1 g)
  | .and xs=>jX cL (dH n) xs (gu g).es
  | .or xs=>jX cL (dH n) xs (gu g).es
  | .cmp a os bs=>dH n a (k1 g)&&(jX cL (dH n) bs (gu g).es.tail&&((gC cL (tp nm n) bs (gu g).es.tail).all kb&&(Nat.beq os.length bs.length&& !os.isEmpty)))
  | .ite c a b=>dH n c (k1 g)&&(dH n a (k2 g)&&dH n b (k3 g))
  | .attr a x=>iW (tp nm n a (k1 g))&&(iN x T.flds&&dH n a (k1 g))
  | .sub a b=>r0 (tp nm n b (k2 g))&&(dH n a (k1 g)&&dH n b (k2 g))
  | .slice _ a lo hi=>dH n a (k1 g)&&(lo.all (λx=>dH n x (k1 (k2 g)))&&hi.all (λx=>dH n x (k2 (k2 g))))
  | .call f xs=> !free&&(yI sc (nm f)&&(iN f T.fns&&((gC cL (tp nm n) xs (gu g).es.tail).all noStar&&jX cL (dH n) xs (gu g).es.tail)))
  | .new c _ xs=> !free&&(yI sc (nm c)&&(iN c T.news&&((gC cL (tp nm n) xs (gu g).es.tail).all noStar&&jX cL (dH n) xs (gu g).es.tail)))
  | .meth o x xs=> !free&&(iW (tp nm n o (k1 (k1 g)))&&(iN x T.meths&&(((Expr.pos (k1 g)).endLine==(Expr.pos g).line)&&(Bm (gC cL (tp nm n) xs (gu g).es.tail) 29&&((gC cL (tp nm n) xs (gu g).es.tail).all noStar&&(dH n o (k1 (k1 g))&&jX cL (dH n) xs (gu g).es.tail))))))
  | .len a=>df sc "len" .globalImplicit&&(noStar (tp nm n a (k2 g))&&dH n a (k2 g))
noncomputable def PK:List Nat->List Expr->List Expr
 | [],_=> []
 |x::xs,gs=> .Name (nm x) (Expr.pos (EG cL gs))::PK xs gs.tail
def OZ(n:Nat)(t:Ag)(g:Expr):Expr:=match t with
 | .loc x=> .Name (nm x) (Expr.pos g)
 | .attr o x=> .Attribute (tp nm n o (k1 g)) (nm x) (Expr.pos g)
 | .sub o i=> .Subscript (tp nm n o (k1 g)) (tp nm n i (k2 g)) (Expr.pos g)
 | .tup xs=> .Tuple (PK nm xs (gu g).es) (gu g).k (Expr.pos g)
def Mj(n:Nat)(t:Ag)(g:Expr)(e:Expr):Bool:=match t with
 | .loc x=>df sc (nm x) .local
 | .attr o x=>iN x T.sets&&dH nm T sc free n o (k1 g)
 | .sub o i=>dH nm T sc free n o (k1 g)&&dH nm T sc free n i (k2 g)
 | .tup xs=> !free&&(notTup e&&xs.all λx=>df sc (nm x) .local)
def Mk(t:Ag):Bool:=match t with
 | .loc x=>df sc (nm x) .local
 | .tup xs=> !free&&xs.all λx=>df sc (nm x) .local
 |_=>false
structure Gs where
 a:Expr
 b:Expr
 ts:List Stmt
 os:List Stmt
 hp:Pos
def gZ:Gs:=⟨cL,cL, [], [],⟨0,0,0,0⟩⟩
def gs(e:Stmt):Gs:=e.casesOn (λ_ _ _ _ _ _ _ _ _ _=>gZ) (λ_ _ _ _ _ _ _ _ _ _=>gZ) (λ_ _ _ _ _ _ _ _ _ _ _=>gZ) (λe _=>⟨e.getD cL,cL, [], [],⟨0,0,0,0⟩⟩) (λ_ _=>gZ) (λts e _=>⟨e,EG cL ts, [], [],⟨0,0,0,0⟩⟩) (λ_ _ _ _ _ _ _=>gZ) (λt _ e _=>⟨e,t, [], [],⟨0,0,0,0⟩⟩) (λ_ _ _ _ _=>gZ) (λt i b _ _=>⟨t,i,b, [],⟨0,0,0,0⟩⟩) (λ_ _ _ _ _=>gZ) (λc a _ _=>⟨c,cL,a, [],⟨0,0,0,0⟩⟩) (λc a b _=>⟨c,cL,a,b,⟨0,0,0,0⟩⟩) (λ_ _ _=>gZ) (λ_ _ _=>gZ) (λ_ _ _=>gZ) (λe _ _=>⟨e.getD cL,cL, [], [],⟨0,0,0,0⟩⟩) (λb hs _ _ _=>hs.casesOn gZ λh _=>h.casesOn λt _ h p=>⟨t.getD cL,cL,b,h,p⟩) (λ_ _ _ _ _=>gZ) (λ_ _ _=>gZ) (λ_ _=>gZ) (λ_ _ _ _=>gZ) (λ_ _=>gZ) (λ_ _=>gZ) (λe _=>⟨e,cL, [], [],⟨0,0,0,0⟩⟩) (λ_=>gZ) (λ_=>gZ) (λ_=>gZ)
def VN(n:Nat)(it:It)(g:Expr):Expr:=match it with
 | .range xs=> .Call (.Name "range" (Expr.pos (k1 g))) (gC cL (tp nm n) xs (gu g).es.tail) [] (Expr.pos g)
 | .over x=>tp nm n x g
noncomputable def z6:Nat->Sm->Stmt->Stmt
 |0,_,g=>g
 |n+1,x,g=>match x with
  | .hole=>g
  | .expr x=> .Expr (tp nm n x (gs g).a) (Stmt.pos g)
  | .asg t x=> .Assign [OZ nm n t (gs g).b] (tp nm n x (gs g).a) (Stmt.pos g)
  | .augN y o x=> .AugAssign (.Name (nm y) (Expr.pos (gs g).b)) (EA o) (tp nm n x (gs g).a) (Stmt.pos g)
  | .augA a y o x=> .AugAssign (.Attribute (tp nm n a (k1 (gs g).b)) (nm y) (Expr.pos (gs g).b)) (EA o) (tp nm n x (gs g).a) (Stmt.pos g)
  | .ite c t e=> .If (tp nm n c (gs g).a) (gC n9 (z6 n) t (gs g).ts) (gC n9 (z6 n) e (gs g).os) (Stmt.pos g)
  | .wh c b=> .While (tp nm n c (gs g).a) (gC n9 (z6 n) b (gs g).ts) [] (Stmt.pos g)
  | .for t it b=> .For (OZ nm n t (gs g).a) (VN nm n it (gs g).b) (gC n9 (z6 n) b (gs g).ts) [] (Stmt.pos g)
  | .ret x=> .Return (O0 (tp nm n) x (gs g).a) (Stmt.pos g)
  | .try b c x h=> .Try (gC n9 (z6 n) b (gs g).ts) [.ExceptHandler (some (.Name (nm c) (Expr.pos (gs g).a))) (some (nm x)) (gC n9 (z6 n) h (gs g).os) (gs g).hp] [] [] (Stmt.pos g)
  | .raise c _ xs=> .Raise (some (.Call (.Name (nm c) (Expr.pos (k1 (gs g).a))) (gC cL (tp nm n) xs (gu (gs g).a).es.tail) [] (Expr.pos (gs g).a))) none (Stmt.pos g)
def PZ(n:Nat)(it:It)(g:Expr):Bool:=match it with
 | .range xs=>df sc "range" .globalImplicit&&((gC cL (tp nm n) xs (gu g).es.tail).all noStar&&jX cL (dH nm T sc free n) xs (gu g).es.tail)
 | .over x=>kb (tp nm n x g)&&dH nm T sc free n x g
noncomputable def z9:Nat->Bool->Sm->Stmt->Bool
 |0,_,_,_=>false
 |n+1,free,x,g=>match x with
  | .hole=>true
  | .expr x=>iF (tp nm n x (gs g).a)&&dH nm T sc free n x (gs g).a
  | .asg t x=>iF (tp nm n x (gs g).a)&&(dH nm T sc free n x (gs g).a&&Mj nm T sc free n t (gs g).b (tp nm n x (gs g).a))
  | .augN y _ x=>df sc (nm y) .local&&dH nm T sc free n x (gs g).a
  | .augA a y _ x=>iN y T.flds&&(iN y T.sets&&(dH nm T sc free n a (k1 (gs g).b)&&dH nm T sc free n x (gs g).a))
  | .ite c t e=>dH nm T sc free n c (gs g).a&&(jX n9 (z9 n free) t (gs g).ts&&jX n9 (z9 n free) e (gs g).os)
  | .wh c b=>dH nm T sc free n c (gs g).a&&jX n9 (z9 n free) b (gs g).ts
  | .for t it b=> !free&&(Mk nm sc free t&&(jX n9 (z9 n free) b (gs g).ts&&PZ nm T sc free n it (gs g).b))
  | .ret x=>x.all λx=>dH nm T sc free n x (gs g).a
  | .try b c x h=> !free&&(yI sc (nm c)&&(iN c T.excs&&(df sc (nm x) .local&&(jX n9 (z9 n free) b (gs g).ts&&(!h.isEmpty&&jX n9 (z9 n true) h (gs g).os)))))
  | .raise c _ xs=> !free&&(yI sc (nm c)&&(iN c T.excs&&((gC cL (tp nm n) xs (gu (gs g).a).es.tail).all noStar&&jX cL (dH nm T sc free n) xs (gu (gs g).a).es.tail)))
end
structure Cx.OkW(C:Cx)(n:Nat):Prop where
 frames:C.A.frames=some (C.env::C.outer)
 kind:C.scope.kind= .function
 depth:C.A.depth+4*n+16<recursionLimit
 units:C.A.units+8*n+128<cLine
 outs:xc C.outer C.outs
theorem Cx.OkW.ok{C:Cx}(h:C.OkW n)(hc:C.A.handled=none):C.Ok n:=⟨h.frames,h.kind,h.depth,h.units,hc,h.outs⟩
theorem Cx.Ok.w{C:Cx}(h:C.Ok n):C.OkW n:=⟨h.frames,h.kind,h.depth,h.units,h.outs⟩
theorem Cx.OkW.le{C:Cx}(h:C.OkW n)(hm:m<=n):C.OkW m:=⟨h.frames,h.kind,PC hm h.depth,PC hm h.units,h.outs⟩
theorem Cx.Ok.le{C:Cx}{n m:Nat}(h:C.Ok n)(hm:m<=n):C.Ok m:=⟨h.frames,h.kind,PC hm h.depth,PC hm h.units,h.calm,h.outs⟩
theorem Dk{C:Cx}(h:C.OkW n):(C.held p).OkW n:=⟨h.frames,h.kind,h.depth,h.units,h.outs⟩
theorem Dj{C:Cx}(h:C.OkW n):(C.hold I o).OkW n:=
 ⟨h.frames,h.kind,h.depth,h.units,λenv he=>⟨(h.outs env he).1,bR (h.outs env he).2 λa m h2 h3=>⟨a,m,h2, .tail _ h3⟩⟩⟩
structure Fd(W:SW)(fa:Nat->Option Addr)(T:Tb):Prop where
 flds:∀x∈T.flds,xa W x
 sets:∀x∈T.sets,w8 W x/\mC W x
 meths:∀x∈T.meths,Cw W fa x
 glbs:∀x∈T.glbs,∃v u n,nsIn W.K mainGlobals (W.nm x)=some (some u)/\Lm W n v u=true/\W.P.const x=some v
 fns:∀f∈T.fns,∃a,fa f=some a/\nsIn W.K mainGlobals (W.nm f)=some (some (.ref a))/\keepIn W.K (.ref a)=true
 news:∀c∈T.news,∃Ca,nsIn W.K mainGlobals (W.nm c)=some (some (.ref Ca))/\W.cls c=some Ca/\makesIn W.K Ca=true/\keepIn W.K (.ref Ca)=true/\
  (match W.P.init c with
   |some none=>findIn W.K (.ref Ca) "__init__"=some (some (.builtin "object.__init__"))/\W.P.isExc c=false
   |some (some f)=>∃a,fa f=some a/\findIn W.K (.ref Ca) "__init__"=some (some (.ref a))/\typeIn W.K (.ref a)=some (.type "function")
   |none=>True)
 excs:∀c∈T.excs,∃Ca,nsIn W.K mainGlobals (W.nm c)=some (some (.ref Ca))/\W.cls c=some Ca/\pR W fa c Ca/\keepIn W.K (.ref Ca)=true
 tabs:mA W
 names:xY W
 len:nsIn W.K mainGlobals ("len":Str)=some none
 range:nsIn W.K mainGlobals ("range":Str)=some none
theorem xC(h:Mu sc y=true):sc.names.lookup y=some .local/\(y==("__debug__":Str))=false:=let ⟨h1,h2⟩:=an h;⟨ch h1,iq h2⟩
theorem d0(h:yI sc y=true):sc.names.lookup y=some .globalImplicit/\(y==("__debug__":Str))=false:=let ⟨h1,h2⟩:=an h;⟨ch h1,iq h2⟩
theorem eZ{P:β->α->Prop}(h:∀x g,ok x g=true->P (f x g) x):∀{gs:List β},jX d ok xs gs=true->cm P (gC d f xs gs) xs:=by
 induction xs with
 |nil=>intro _ _;trivial
 |cons x xs ih=>intro gs e;exact⟨h _ _ (an e).1,ih (an e).2⟩
theorem Ed{xs:List Ex}:∀{es:List Expr},cm P es xs->cm (λ(e:Option Expr) x=>∃e',e=some e'/\P e' x) (es.map some) xs:=by
 induction xs with
 |nil=>intro es h;cases es;trivial;exact h.elim
 |cons x xs ih=>
  intro es h;cases es with
  |nil=>exact h.elim
  |cons e es=>exact⟨(al e rfl (h.1)),ih h.2⟩
theorem pU{xs:List α}:∀{gs:List β},(gC d f xs gs).length=xs.length:=by
 induction xs with
 |nil=>intro _;rfl
 |cons x xs ih=>intro gs;exact YV Nat.succ ih
theorem s9(h:∀x g,ok x g=true->SndE W C (f x g) (ih.e x)){os:List pa}:∀{o:pa} {bs:List Ex} {gs:List Expr},jX cL ok bs gs=true->os.length+1=bs.length->Hi W C ih (o::os) (gC cL f bs gs) bs:=by
 induction os with
 |nil=>
  intro o bs gs e hl;cases bs with
  |nil=>exact nomatch hl
  |cons b bs=>
   cases bs with
   |nil=>exact .one (h _ _ (an e).1)
   |cons _ _=>exact nomatch hl
 |cons o' os i=>
  intro o bs gs e hl;cases bs with
  |nil=>exact nomatch hl
  |cons b bs=>
   cases bs with
   |nil=>exact nomatch (zaW hl)
   |cons _ _=>exact .more (h _ _ (an e).1) (i (an e).2 (zaW hl))
theorem F8:∀{gs hs:List Expr},jX cL (dH nm T sc free n) (ps.map λp=> .k (.str p.1)) gs=true->jX cL (dH nm T sc free n) (ps.map λp=> .k (.str p.2)) hs=true->jt ((gC cL (tp nm n) (ps.map λp=> .k (.str p.1)) gs).map some) (gC cL (tp nm n) (ps.map λp=> .k (.str p.2)) hs) ps:=by
 induction ps with
 |nil=>intro _ _ _ _;exact .nil
 |cons p ps i=>
  intro gs hs h1 h2;cases n with
  |zero=>exact nf (an h1).1
  |succ n=>
   show jt (some (.Constant (gu (EG cL gs)).c _ _)::_) (.Constant (gu (EG cL hs)).c _ _::_) (p::ps);rw[(eq_of_beq (an h1).1),(eq_of_beq (an h2).1)];exact .cons (i (an h1).2 (an h2).2)
theorem oM:∀{ops:List CmpOp},rs.all kb=true->markedEach ops rs (evalEach rs env)=evalEach rs env:=by
 induction rs with
 |nil=>
  intro ops _;cases ops with
  |nil=>rfl
  |cons _ ops=>cases ops<;>rfl
 |cons e rs ih=>
  intro ops h;have h:=an h;cases ops with
  |nil=>rfl
  |cons op ops=>
   cases ops with
   |nil=>
    cases rs with
    |nil=>
     show[markedBehindIn op e (eval e env)]= [eval e env];unfold markedBehindIn
     (refine((show∀op e,kb e=true->behindInMarks op e=false from by
  intro op e h;cases e<;>first|exact nf h|(cases op<;>rfl)) _ _ h.1).symm ▸ rfl)
    |cons e' rs=>exact YV (eval e env::·) (ih (ops:= []) h.2)
   |cons Yx ops=>exact YV (eval e env::·) (ih h.2)
def SE(W:SW)(T:Tb)(m:Nat):Prop:=∀(C:Cx) free n x g,C.OkW (m+1)->(free=false->C.A.handled=none)->dH W.nm T C.scope free n x g=true->SndE W C (tp W.nm n x g) ((run W.P m).e x)
def ST(W:SW)(T:Tb)(m:Nat):Prop:=∀(C:Cx) free n x g,C.OkW (m+1)->(free=false->C.A.handled=none)->dH W.nm T C.scope free n x g=true->SndT W C (tp W.nm n x g) ((run W.P m).b x)
def SS(W:SW)(T:Tb)(m:Nat):Prop:=∀(C:Cx) free n x g,C.OkW (m+1)->(free=false->C.A.handled=none)->z9 W.nm T C.scope n free x g=true->SndS W C (z6 W.nm n x g) ((run W.P m).s x)
theorem gQ:bU W C κ σ t (M.fail σ) V':=by
 intro res σ' h;exact nt h
theorem TR(h:n+64<cLine):n+16<cLine:=Zp (Ze ak n) h
theorem Cx.OkW.u64{C:Cx}(h:C.OkW n):C.A.units+64<cLine:=Zp (zba (Y4 _ _) ak) h.units
section
variable{W:SW}{fa:Nat->Option Addr}{T:Tb}(TT:Fd W fa T)
theorem NJ:(run W.P m).e (.k v)=M.fail\/(run W.P m).e (.k v)=M.pure v:=by
 cases m with
 |zero=>exact .inl rfl
 |succ m=>exact .inr rfl
include TT
theorem FO(hE:SE W T m)(hT:ST W T m)(iH:ei W fa (run W.P m) m):SE W T (m+1):=by
 intro C free n x g hC hc cU;have G3:=hC.le (Zy _);cases n with
 |zero=>exact nf cU
 |succ n=>
  have sub:=λx g h=>hE C free n x g G3 hc h
  let z1:=run W.P m
  have kX:=λ{xs gs}=>eZ (d:=cL) (f:=tp W.nm n) (ok:=dH W.nm T C.scope free n) (P:=λe x=>SndE W C e (z1.e x)) sub (xs:=xs) (gs:=gs);change SndE W C _ (lX W.P z1 x);cases x with
  |hole=>intro κ σ;exact gQ
  |loc x=>exact Of hC.kind (xC cU).1 (xC cU).2
  |glb x=>
   have h:=an cU;refine cY (TT.glbs x (b9 h.2)) λv u k h3 h4 h5=>?_;exact Oi hC.kind (d0 h.1).1 (d0 h.1).2 h3 h4 h5
  |k v=>exact XW cU
  |tup xs=>
   have h:=an cU;exact N9 (kX h.1) (gP (an h.2).1) (YX (an h.2).2)
  |list t xs=>
   have h:=an cU;exact Kw (kX h.1) (gP h.2)
  |dict t ks vs=>
   rcases ZB.mp cU with h|h
   ·rcases ZB.mp h with h|h
    ·have h:=an h;cases ks with
     |cons _ _=>exact nf h.1
     |nil=>
      cases vs with
      |cons _ _=>exact nf h.2
      |nil=>exact GC
    ·have h0:=an h;have h1:=an h0.2;have h2:=an h1.2;have h3:=an h2.2;have e:=YY h3.1;refine Kx (Ed (kX h1.1)) (kX h2.1) (by rw[Zu,pU,pU];exact e) ?_ (by rw[Zu,pU];exact YX h3.2);cases ks with
     |nil=>exact nf h0.1
     |cons _ _=>exact List.cons_ne_nil _ _
   ·skip;refine U (oa (an h).2) λps e h1=>?_;have h2:=oC e;have h3:=an (an h).1;rw[h2.1,h2.2]at h3;refine wn (λv=>NJ) e ?_ (YY (an h1).1) (an h1).2;rw[h2.1,h2.2];exact F8 h3.1 h3.2
  |bin o a b=>
   have h:=an cU;exact Ol (sub _ _ h.1) (sub _ _ h.2)
  |rep t a b=>exact Ob (sub _ _ (an cU).1) (sub _ _ (an cU).2)
  |neg a=>exact Oe (sub _ _ cU)
  |not a=>exact Oc (sub _ _ cU)
  |and xs=>exact Om (kX cU)
  |or xs=>exact R8 (kX cU)
  |cmp a os bs=>
   have h:=an cU;have h1:=an h.2;cases os with
   |nil=>exact nf (an (an h1.2).2).2
   |cons o os=>exact Oj (hC.u64) TT.tabs (sub _ _ h.1) (s9 sub h1.1 (YY (an (an h1.2).2).1)) (oM (an h1.2).1)
  |ite c a b=>
   have h:=an cU;exact Oh ((λx g h=>hT C free n x g G3 hc h) _ _ h.1) (sub _ _ (an h.2).1) (sub _ _ (an h.2).2)
  |attr a x=>
   have h:=an cU;exact Kz h.1 (TT.flds x (b9 (an h.2).1)) (sub _ _ (an h.2).2)
  |sub a b=>
   have h:=an cU;exact Oa h.1 (TR (hC.u64)) (sub _ _ (an h.2).1) (sub _ _ (an h.2).2)
  |slice t a lo hi=>
   have h:=an cU;have opt:∀(x:Option Ex) g,x.all (λx=>dH W.nm T C.scope free n x g)=true->w9 W C z1 (O0 (tp W.nm n) x g) x:=by
    intro x g h;cases x with
    |none=>trivial
    |some x=>exact sub _ _ h
   exact GB (sub _ _ h.1) (opt _ _ (an h.2).1) (opt _ _ (an h.2).2)
  |call f xs=>
   have h1:=an (an cU).2;refine aZ (TT.fns f (b9 (an h1.2).1)) λa g3 g4 g5=>?_
   let z0:=d0 h1.1
   exact Ky iH ((hC.ok (hc (iq (an cU).1))).le (Zy _)) z0.1 z0.2 g4 g3 g5 (an (an h1.2).2).1 (kX (an (an h1.2).2).2)
  |new c t xs=>
   have h1:=an (an cU).2;refine uW (TT.news c (b9 (an h1.2).1)) λCa g3 g4 g5 g6 g7=>?_;exact Od iH (hC.ok (hc (iq (an cU).1))) (d0 h1.1).1 (d0 h1.1).2 g3 g4 g5 g7 g6 (an (an h1.2).2).1 (kX (an (an h1.2).2).2)
  |meth o x xs=>
   have h5:=an (an (an (an (an (an cU).2).2).2).2).2;exact Kv iH ((hC.ok (hc (iq (an cU).1))).le (Zy _)) TT.names (TT.meths x (b9 (an (an (an cU).2).2).1)) (an (an cU).2).1 (an (an (an (an cU).2).2).2).1 (zap (YX (an (an (an (an (an cU).2).2).2).2).1)) h5.1 (sub _ _ (an h5.2).1) (kX (an h5.2).2)
  |len a=>
   exact Og hC.kind (ch (an cU).1) TT.len (an (an cU).2).1 (sub _ _ (an (an cU).2).2)
end
section
variable{W:SW}{fa:Nat->Option Addr}{T:Tb}(TT:Fd W fa T)
include TT
theorem Fw(hE:SE W T m)(hT:ST W T m):ST W T (m+1):=by
 intro C free n x g hC hc cU;cases n with
 |zero=>exact nf cU
 |succ n=>
  have yz:=λx g h=>hT C free n x g (hC.le (Zy _)) hc h;have gen:=Fq (hE C free (n+1) x g (hC.le (Zy _)) hc cU);cases x with
  |not a=>exact M4 (yz _ _ cU)
  |and xs=>exactλκ σ=>M7 ((λ{xs gs}=>eZ (d:=cL) (f:=tp W.nm n) (ok:=dH W.nm T C.scope free n) (P:=λe x=>SndT W C e ((run W.P m).b x)) yz (xs:=xs) (gs:=gs)) cU) _ κ σ
  |or xs=>exactλκ σ=>Ra ((λ{xs gs}=>eZ (d:=cL) (f:=tp W.nm n) (ok:=dH W.nm T C.scope free n) (P:=λe x=>SndT W C e ((run W.P m).b x)) yz (xs:=xs) (gs:=gs)) cU) _ κ σ
  |ite c a b=>
   have h:=an cU;exact M5 (yz _ _ h.1) (yz _ _ (an h.2).1) (yz _ _ (an h.2).2)
  |cmp a os bs=>
   have h:=an cU;cases os with
   |nil=>exact nf (an (an (an h.2).2).2).2
   |cons o os=>exact M6 hC.u64 TT.tabs ((λx g h=>hE C free n x g (hC.le (Zy _)) hc h) _ _ h.1) (s9 (λx g h=>hE C free n x g (hC.le (Zy _)) hc h) (an h.2).1 (YY (an (an (an h.2).2).2).1)) (oM (an (an h.2).2).1)
  |hole=>
   intro κ σ res σ' h;cases m<;>exact nt h
  |_=>exact gen λ_ _=>rfl
omit TT in
theorem B3:∀{gs:List Expr},cm (AZ W) (PK W.nm xs gs) xs:=by
 induction xs with
 |nil=>intro gs;trivial
 |cons x xs ih=>intro gs;exact⟨⟨_,rfl⟩,ih⟩
omit TT in
theorem xD{xs:List Nat}(h:xs.all (λx=>df sc (W.nm x) .local)=true):∀x∈xs,sc.names.lookup (W.nm x)=some .local:=λx hx=>ch (YO.mp h x hx)
omit TT in
theorem NE(hk:C.scope.kind= .function)(hc:free=false->C.A.handled=none)(h:Mk W.nm C.scope free t=true):yQ W C (OZ W.nm n t g) (Mine.assign ih t):=by
 cases t with
 |loc x=>exact wt hk (ch h)
 |tup xs=>exact m5 hk (hc (iq (an h).1)) B3 (xD (an h).2)
 |attr o x=>exact nf h
 |sub o i=>exact nf h
theorem KJ(hk:C.scope.kind= .function)(hu:C.A.units+16<cLine)(hc:free=false->C.A.handled=none)(sub:∀x g,dH W.nm T C.scope free n x g=true->SndE W C (tp W.nm n x g) ((run W.P m).e x))(h1:iF e=true)(h2:SndE W C e ((run W.P m).e x))(h3:Mj W.nm T C.scope free n t g e=true):SndS W C (.Assign [OZ W.nm n t g] e pos) (oj W.P (run W.P m) (.asg t x)):=by
 cases t with
 |loc y=>exact JQ hk (ch h3) h1 h2
 |attr o y=>
  exact JR (TT.sets y (b9 (an h3).1)).1 (TT.sets y (b9 (an h3).1)).2 h1 h2 (sub _ _ (an h3).2)
 |sub o i=>exact JP hu h1 h2 (sub _ _ (an h3).1) (sub _ _ (an h3).2)
 |tup xs=>
  exact JO hk (hc (iq (an h3).1)) B3 (xD (an (an h3).2).2) h1 (an (an h3).2).1 h2
theorem Fy(hE:SE W T m)(hT:ST W T m)(hS:SS W T m)(nG:∀j,j<m+1->ST W T j/\SS W T j)(iH:ei W fa (run W.P m) m):SS W T (m+1):=by
 intro C free n x g hC hc cU;have G3:=hC.le (Zy _);cases n with
 |zero=>exact nf cU
 |succ n=>
  have sub:=λx g h=>hE C free n x g G3 hc h;have kX:=λ{xs gs}=>eZ (d:=cL) (f:=tp W.nm n) (ok:=dH W.nm T C.scope free n) (P:=λe x=>SndE W C e ((run W.P m).e x)) sub (xs:=xs) (gs:=gs);have IT:=λ{xs gs}=>eZ (d:=n9) (f:=z6 W.nm n) (ok:=z9 W.nm T C.scope n free) (P:=λe x=>SndS W C e ((run W.P m).s x)) (λx g h=>hS C free n x g G3 hc h) (xs:=xs) (gs:=gs);cases x with
  |hole=>intro κ σ;exact gQ
  |expr x=>exact JL (by unfold interactive;(refine(show C.env.scope.kind= .function from hC.kind).symm ▸?_);rfl) (an cU).1 (sub _ _ (an cU).2)
  |asg t x=>
   have h:=an cU;exact KJ TT hC.kind (TR hC.u64) hc sub h.1 (sub _ _ (an h.2).1) (an h.2).2
  |augN y o x=>
   have h:=an cU;exact JM hC.kind (ch h.1) (sub _ _ h.2)
  |augA a y o x=>
   have h:=an cU;have h1:=an h.2;have h2:=an h1.2;exact JN (TT.flds y (b9 h.1)) (TT.sets y (b9 h1.1)).1 (TT.sets y (b9 h1.1)).2 (sub _ _ h2.1) (sub _ _ h2.2)
  |ite c t e=>
   have h:=an cU;exact Rf ((λx g h=>hT C free n x g G3 hc h) _ _ h.1) (IT (an h.2).1) (IT (an h.2).2)
  |wh c b=>
   have h:=an cU;exact FP (n:=m+1) (λj hj=>(nG j hj).1 C free n _ _ (hC.le (ZM hj)) hc h.1)
    λj hj=>eZ (λx g h=>(nG j hj).2 C free n x g (hC.le (ZM hj)) hc h) h.2
  |«for» t it b=>
   have h2:=an (an (an cU).2).2;have hA:=λI o=>NE (C:=C.hold I o) (ih:=run W.P m) (n:=n) (g:=(gs g).a) hC.kind hc (an (an cU).2).1;have hB:=λI o=>eZ (d:=n9) (f:=z6 W.nm n) (ok:=z9 W.nm T C.scope n free) (P:=λe x=>SndS W (C.hold I o) e ((run W.P m).s x)) (λx g h=>hS (C.hold I o) free n x g (Dj G3) hc h) h2.1;cases it with
   |range xs=>
    exact vN (hc (iq (an cU).1)) hC.kind (ch (an h2.2).1) TT.range (an (an h2.2).2).1 (kX (an (an h2.2).2).2) hA hB
   |over x=>exact zh (hc (iq (an cU).1)) (an h2.2).1 (sub _ _ (an h2.2).2) hA hB
  |ret x=>
   cases x with
   |none=>exact JH
   |some x=>exact Nh (sub _ _ cU)
  |«try» b c x h=>
   have h2:=an (an (an cU).2).2;refine uX (TT.excs c (b9 h2.1)) λCa g3 g4 g5 g6=>?_;cases h with
   |nil=>exact nf (an (an (an h2.2).2).2).1
   |cons _ _=>exact Ng hC.frames hC.kind g4 g5 (d0 (an (an cU).2).1).1 (d0 (an (an cU).2).1).2 g3 (ch (an h2.2).1) (IT (an (an h2.2).2).1) λp=>eZ (λx g h=>hS (C.held p) true n x g (Dk G3) ng h) (an (an (an h2.2).2).2).2
  |raise c t xs=>
   refine uX (TT.excs c (b9 (an (an (an cU).2).2).1)) λCa g3 g4 g5 g6=>?_;exact FQ iH (hC.ok (hc (iq (an cU).1))) (d0 (an (an cU).2).1).1 (d0 (an (an cU).2).1).2 g3 g4 g5 g6 (an (an (an (an cU).2).2).2).1 (kX (an (an (an (an cU).2).2).2).2)
end
def BF(W:SW)(fa:Nat->Option Addr)(T:Tb):Prop:=∀f a,fa f=some a->W.P.fn f=none\/∃fn gs scope qual cd n,W.P.fn f=some fn/\MU W fn a (gC n9 (z6 W.nm n) fn.body gs) scope qual cd/\jX n9 (z9 W.nm T scope n false) fn.body gs=true
section
variable{W:SW}{fa:Nat->Option Addr}{T:Tb}(TT:Fd W fa T)(FT:BF W fa T)
include FT in
theorem zW(hS:SS W T m):ei W fa (run W.P (m+1)) (m+1):=by
 intro C hC f a hf κ σ args us hv res σ' h RR s R k;refine U (gH h) λYL e h'=>?_;refine(FT f a hf).elim (λh0=>?_) λq=>?_
 ·exact nt (h0.symm.trans e)
 ·refine hg λcg kg=>?_;(refine cy q λfn gs scope qual q=>?_;(refine a8 q λcd n h1 h2 h3=>?_;try clear q));obtain rfl:=si (h1.symm.trans e)
  refine kg ?_;refine uh Du hC h2 (λC' TY Er κ σ=>?_) h' hv R k;exact dk (eZ (λx g h=>hS C' false n x g TY.w (λ_=>TY.calm) (by(refine(Er).symm ▸?_);exact h)) h3) κ σ
include TT FT in
theorem Na:∀m,SE W T m/\ST W T m/\SS W T m/\ei W fa (run W.P m) m:=by
 intro m
 induction m using Nat.strongRecOn with
 |ind m ih=>
  cases m with
  |zero=>
   refine(lU (λC free n x g _ _ _ κ σ=>gQ) (λC free n x g _ _ _ κ σ=>gQ) (λC free n x g _ _ _ κ σ=>gQ) ?_);intro C hC f a hf κ σ args us hv res σ' h;cases h
  |succ m=>
   refine AY (ih m (zaL m)) λhE hT hS hc=>?_;refine(lU (FO TT hE hT hc) (Fw TT hE hT) (Fy TT hE hT hS (λj hj=>⟨(ih j hj).2.1,(ih j hj).2.2.1⟩) hc) (zW FT hS))
end
end Mine
end
section
namespace Mine
open PySem
noncomputable abbrev aV (i:Int):Ex:= .k (.int i)
noncomputable abbrev aF (l:List Nat):Ex:= .k (.str l)
noncomputable abbrev ba:Ex:= .k (.int 0)
abbrev ny:Ex:= .sub (.loc 185) (aF [107,105,110,100,115])
noncomputable abbrev bH:Ex:= .k (.int 1)
abbrev Aj:Ex:= .sub (.loc 185) (aF [97,100,100,114,115])
abbrev Ai:Ex:= .sub (.loc 185) (aF [101,120,97,99,116])
abbrev Eg:Ex:= .sub (.loc 185) (aF [105,116,101,109,115])
abbrev lO:Ex:= .attr (.loc 146) 147
abbrev fh:Ex:= .k (.int 2)
abbrev KQ:Ex:= .sub (.sub (.loc 185) (aF [104,101,108,100])) (.loc 203)
abbrev GT:Ex:= .cmp (.sub (.loc 188) ba) [.eq] [(aF [63])]
abbrev o7:Ex:= .sub (.loc 63) ba
abbrev Ey:Ex:= .sub (.loc 185) (aF [101,118])
noncomputable abbrev wv:Ex:= .attr (.loc 134) 13
abbrev OW:Ex:= .sub (.loc 185) (aF [117,110,100,101,114,115])
noncomputable def sa (x:Nat) (e:Ex):Sm:= .asg (.attr (.loc 250) x) e
def sb(x:Nat):Sm:=sa x (.loc x)
def nT:Fn:=⟨[5],
 [(.asg (.loc 6) (.sub (.loc 5) ba)),
 (.ite (.or [(.cmp (.loc 6) [.eq] [(.glb 7)]),(.cmp (.loc 6) [.eq] [(.glb 8)])]) [(.ret (some (.sub (.loc 5) fh)))] []),
 .hole,
 .hole,
 .hole]⟩
def tN:Fn:=⟨[6],
 [(.ite (.or [(.cmp (.loc 6) [.eq] [(.glb 7)]),(.cmp (.loc 6) [.eq] [(.glb 8)]),(.cmp (.loc 6) [.eq] [(.glb 10)])]) [(.ret (some bH))] []),
 .hole]⟩
def qV:Fn:=⟨[6],
 [(.ite (.or [(.cmp (.loc 6) [.eq] [(.glb 7)]),(.cmp (.loc 6) [.eq] [(.glb 8)])]) [(.ret (some (aV 3)))] []),
 .hole,
 .hole]⟩
def kH:Fn:=⟨[13,5],
 [(.ite (.or [(.cmp (.len (.loc 5)) [.eq] [ba]),(.cmp (.sub (.loc 5) ba) [.le] [(.glb 14)]),(.cmp (.sub (.loc 5) ba) [.gt] [(.glb 15)])]) [.hole] []),
 (.asg (.loc 6) (.sub (.loc 5) ba)),
 (.ite (.cmp (.len (.loc 5)) [.ne] [(.call 11 [(.loc 6)])]) [.hole] []),
 (.for (.loc 16) (.over (.call 4 [(.loc 5)])) [(.expr (.meth (.loc 13) 5 [(.loc 16)]))]),
 (.ite (.or [(.cmp (.loc 6) [.eq] [(.glb 7)]),(.cmp (.loc 6) [.eq] [(.glb 8)])]) [(.expr (.call 17 [(.loc 13),(.loc 5)]))] [.hole])]⟩
def nW:Fn:=⟨[13,5],
 [(.ite (.or [(.cmp (.sub (.loc 5) bH) [.le] [ba]),(.cmp (.sub (.loc 5) bH) [.isIn] [(.glb 18)])]) [.hole] []),
 (.expr (.call 19 [(.loc 13),(.sub (.loc 5) fh)]))]⟩
noncomputable def rf:Fn:=⟨[13,20],
 [(.for (.loc 21) (.over (.loc 20)) [(.ite (.not (.call 22 [(.loc 13),(.loc 21)])) [.hole] [])])]⟩
def tQ:Fn:=⟨[13,23],
 [(.ite (.or [(.cmp (.loc 23) [.eq] [(.glb 24)]),(.cmp (.loc 23) [.eq] [(.glb 25)])]) [.hole] []),
 (.asg (.loc 6) (.sub (.meth (.loc 13) 5 [(.loc 23)]) ba)),
 (.ret (some (.or [(.cmp (.loc 6) [.le] [(.glb 10)]),(.cmp (.loc 6) [.eq] [(.glb 26)]),(.cmp (.loc 6) [.eq] [(.glb 27)])])))]⟩
def uc:Fn:=⟨[13,23],
 [(.ret (some (.sub (.meth (.loc 13) 5 [(.loc 23)]) ba)))]⟩
def DP:Fn:=⟨[13,23],
 [(.asg (.loc 5) (.meth (.loc 13) 5 [(.loc 23)])),
 (.ite (.or [(.cmp (.sub (.loc 5) ba) [.eq] [(.glb 7)]),(.cmp (.sub (.loc 5) ba) [.eq] [(.glb 8)])]) [(.ret (some (.sub (.loc 5) bH)))] []),
 .hole,
 .hole,
 .hole]⟩
def zN:Fn:=⟨[13,23],
 [(.asg (.loc 5) (.meth (.loc 13) 5 [(.loc 23)])),
 (.ite (.or [(.cmp (.sub (.loc 5) ba) [.eq] [(.glb 7)]),(.cmp (.sub (.loc 5) ba) [.eq] [(.glb 8)])]) [(.ret (some (.sub (.loc 5) fh)))] []),
 .hole]⟩
def wk:Fn:=⟨[13,23],
 [(.ite (.and [(.cmp (.glb 32) [.le] [(.loc 23)]),(.cmp (.loc 23) [.le] [(.glb 33)])]) [(.ret (some (.k (.bool true))))] []),
 (.ret (some (.cmp (.sub (.meth (.loc 13) 5 [(.loc 23)]) ba) [.eq] [(.glb 8)])))]⟩
def DT:Fn:=⟨[23],
 [(.ret (some (.and [(.cmp (.glb 32) [.le] [(.loc 23)]),(.cmp (.loc 23) [.le] [(.glb 33)])])))]⟩
def zH:Fn:=⟨[36,23],
 [(.asg (.loc 37) (.call 29 [(.attr (.loc 36) 13),(.loc 23)])),
 (.ite (.or [(.cmp (.loc 37) [.le] [ba]),(.cmp (.loc 37) [.ge] [(.len (.attr (.loc 36) 38))])]) [.hole] []),
 (.ret (some (.sub (.attr (.loc 36) 38) (.loc 37))))]⟩
def tJ:Fn:=⟨[40,41],
 [(.asg (.loc 40) (.bin .band (.loc 40) (.bin .sub (.bin .shl bH (.loc 41)) bH))),
 (.ite (.bin .shr (.loc 40) (.bin .sub (.loc 41) bH)) [(.ret (some (.bin .sub (.loc 40) (.bin .shl bH (.loc 41)))))] []),
 (.ret (some (.loc 40)))]⟩
def DO:Fn:=⟨[40],
 [(.ret (some (.call 39 [(.loc 40),(aV 32)])))]⟩
def DN:Fn:=⟨[40],
 [(.ret (some (.call 39 [(.loc 40),(aV 64)])))]⟩
noncomputable def qW:Fn:=⟨[36,23],
 [(.ite (.cmp (.call 28 [(.attr (.loc 36) 13),(.loc 23)]) [.ne] [(.glb 8)]) [(.ret (some (.loc 23)))] []),
 (.asg (.loc 45) (.call 35 [(.loc 36),(.loc 23)])),
 (.ite (.cmp (.loc 45) [.is] [(.k .none)]) [.hole] []),
 (.ite (.cmp (.attr (.loc 45) 6) [.ne] [(.glb 46)]) [(.ret (some (.loc 23)))] []),
 (.ite (.not (.call 34 [(.attr (.loc 45) 47)])) [.hole] []),
 (.ret (some (.attr (.loc 45) 47)))]⟩
def ln:Fn:=⟨[23],
 [(.ite (.cmp (.glb 32) [.le, .le] [(.loc 23),(.glb 49)]) [(.ret (some (.tup [(.glb 50),ba])))] []),
 (.ite (.or [(.cmp (.loc 23) [.eq] [(.glb 51)]),(.cmp (.loc 23) [.eq] [(.glb 52)])]) [(.ret (some (.tup [(.glb 53),ba])))] []),
 (.ite (.cmp (.loc 23) [.eq] [(.glb 33)]) [(.ret (some (.tup [(.glb 54),ba])))] []),
 (.ret (some (.glb 55)))]⟩
def DU:Fn:=⟨[23,40],
 [(.ite (.or [(.cmp (.loc 23) [.eq] [(.glb 32)]),(.cmp (.loc 23) [.eq] [(.glb 57)])]) [(.ret (some (.bin .band (.loc 40) (aV 255))))] []),
 (.ite (.or [(.cmp (.loc 23) [.eq] [(.glb 58)]),(.cmp (.loc 23) [.eq] [(.glb 59)])]) [(.ret (some (.bin .band (.loc 40) (aV 65535))))] []),
 (.ite (.cmp (.loc 23) [.eq] [(.glb 60)]) [(.ret (some (.call 39 [(.loc 40),(aV 8)])))] []),
 (.ite (.cmp (.loc 23) [.eq] [(.glb 61)]) [(.ret (some (.call 39 [(.loc 40),(aV 16)])))] []),
 (.ite (.or [(.cmp (.loc 23) [.eq] [(.glb 51)]),(.cmp (.loc 23) [.eq] [(.glb 52)])]) [(.ret (some (.call 43 [(.loc 40)])))] []),
 (.ret (some (.call 42 [(.loc 40)])))]⟩
def wd:Fn:=⟨[13,23,63],
 [(.ite (.or [(.cmp o7 [.eq] [(.glb 50)]),(.cmp o7 [.eq] [(.glb 53)]),(.cmp o7 [.eq] [(.glb 54)])]) [(.asg (.loc 64) (.call 65 [(.loc 13),(.loc 23)])),(.ite (.or [(.cmp (.loc 64) [.eq] [(.glb 50)]),(.cmp (.loc 64) [.eq] [(.glb 53)]),(.cmp (.loc 64) [.eq] [(.glb 54)])]) [(.ret (some (.tup [(.loc 64),(.call 56 [(.loc 23),(.sub (.loc 63) bH)])])))] [])] []),
 (.ret (some (.loc 63)))]⟩
def DQ:Fn:=⟨[13,23],
 [(.ite (.cmp (.glb 32) [.le, .le] [(.loc 23),(.glb 49)]) [(.ret (some (.glb 50)))] []),
 (.ite (.or [(.cmp (.loc 23) [.eq] [(.glb 51)]),(.cmp (.loc 23) [.eq] [(.glb 52)])]) [(.ret (some (.glb 53)))] []),
 (.ite (.cmp (.loc 23) [.eq] [(.glb 33)]) [(.ret (some (.glb 54)))] []),
 (.ite (.or [(.cmp (.loc 23) [.eq] [(.glb 66)]),(.cmp (.loc 23) [.eq] [(.glb 67)]),(.cmp (.loc 23) [.eq] [(.glb 25)])]) [(.ret (some (.glb 68)))] []),
 (.ret (some (.call 69 [(.sub (.meth (.loc 13) 5 [(.loc 23)]) ba)])))]⟩
noncomputable def qU:Fn:=⟨[6],
 [(.ite (.or [(.cmp (.loc 6) [.eq] [(.glb 7)]),(.cmp (.loc 6) [.eq] [(.glb 10)]),(.cmp (.loc 6) [.eq] [(.glb 70)])]) [(.ret (some (.glb 68)))] []),
 (.ite (.cmp (.loc 6) [.eq] [(.glb 8)]) [(.ret (some (.glb 71)))] []),
 .hole,
 .hole,
 .hole]⟩
def Kr:Fn:=⟨[13,63,23],
 [(.asg (.loc 64) (.call 65 [(.loc 13),(.loc 23)])),
 (.ite (.cmp (.loc 64) [.eq] [(.glb 71)]) [(.ret (some (.and [(.cmp o7 [.eq] [(.glb 71)]),(.cmp (.sub (.loc 63) bH) [.eq] [(.loc 23)])])))] []),
 (.ite (.cmp (.loc 64) [.eq] [(.glb 54)]) [(.ret (some (.or [(.cmp o7 [.eq] [(.glb 54)]),(.cmp o7 [.eq] [(.glb 50)])])))] []),
 (.ite (.and [(.cmp (.loc 64) [.eq] [(.glb 50)]),(.cmp o7 [.eq] [(.glb 54)])]) [.hole] []),
 (.ite (.and [(.cmp (.loc 64) [.eq] [(.glb 73)]),(.cmp (.loc 63) [.eq] [(.glb 55)])]) [.hole] []),
 (.ret (some (.and [(.cmp (.loc 64) [.ne] [(.glb 74)]),(.cmp o7 [.eq] [(.loc 64)])])))]⟩
def we:Fn:=⟨[63,76,77],
 [(.asg (.loc 78) (.list 1 [])),
 (.asg (.loc 79) (.loc 63)),
 (.for (.loc 80) (.over (.loc 76)) [(.expr (.meth (.loc 78) 1 [(.tup [(.loc 79),(.loc 80)])])),(.asg (.loc 79) (.sub (.sub (.loc 79) fh) (.loc 80)))]),
 (.asg (.loc 81) (.bin .sub (.len (.loc 78)) bH)),
 (.wh (.cmp (.loc 81) [.ge] [ba]) [(.asg (.tup [82,80]) (.sub (.loc 78) (.loc 81))),(.asg (.loc 77) (.tup [(.glb 71),(.sub (.loc 82) bH),(.bin .add (.bin .add (.slice 2 (.sub (.loc 82) fh) none (some (.loc 80))) (.tup [(.loc 77)])) (.slice 3 (.sub (.loc 82) fh) (some (.bin .add (.loc 80) bH)) none))])),(.augN 81 .sub bH)]),
 (.ret (some (.loc 77)))]⟩
noncomputable def nS:Fn:=⟨[84,23],
 [(.ret (some (.and [(.cmp (.call 28 [(.attr (.loc 84) 13),(.loc 23)]) [.eq] [(.glb 8)]),(.cmp (.call 29 [(.attr (.loc 84) 13),(.loc 23)]) [.eq] [(.glb 85)])])))]⟩
noncomputable def wf:Fn:=⟨[84,87,88],
 [(.asg (.loc 89) (.len (.attr (.loc 84) 90))),
 (.expr (.meth (.attr (.loc 84) 90) 1 [(.new 91 4 [(.loc 89),(.loc 87),(.loc 88)])])),
 (.ret (some (.loc 89)))]⟩
noncomputable def tM:Fn:=⟨[84,37,93],
 [(.expr (.call 94 [(.loc 84),(.meth (.loc 84) 95 [(.loc 37),(.loc 93)])]))]⟩
noncomputable def lm:Fn:=⟨[84],
 [(.expr (.call 92 [(.loc 84),(.glb 97),(.glb 98)]))]⟩
noncomputable def zM:Fn:=⟨[84,89,23],
 [(.asg (.loc 23) (.meth (.loc 84) 100 [(.loc 23)])),
 (.asg (.loc 101) (.sub (.attr (.loc 84) 90) (.loc 89))),
 (.ite (.cmp (.attr (.loc 101) 102) [.isNot] [(.k .none)]) [(.for (.loc 104) (.over (.attr (.attr (.loc 101) 102) 103)) [(.ite (.meth (.loc 84) 105 [(.loc 104),(.loc 23)]) [(.ret (some (.k (.bool true))))] [])]),(.ret (some (.k (.bool false))))] []),
 (.ret (some (.meth (.loc 84) 105 [(.attr (.loc 101) 87),(.loc 23)])))]⟩
def nj:Fn:=⟨[81,63],
 [(.asg (.loc 107) (.sub (.loc 81) ba)),
 (.asg (.loc 76) (.sub (.loc 81) fh)),
 (.asg (.loc 82) (.list 5 [])),
 (.asg (.loc 16) (.sub (.loc 107) (.sub (.loc 81) bH))),
 (.for (.loc 108) (.over (.loc 76)) [(.expr (.meth (.loc 82) 1 [(.loc 16)])),(.asg (.loc 16) (.sub (.loc 16) (.loc 108)))]),
 (.for (.loc 109) (.range [(.len (.loc 76))]) [(.asg (.loc 110) (.bin .sub (.bin .sub (.len (.loc 76)) bH) (.loc 109))),(.asg (.loc 111) (.sub (.loc 82) (.loc 110))),(.asg (.loc 63) (.bin .add (.bin .add (.slice 6 (.loc 111) none (some (.sub (.loc 76) (.loc 110)))) (.tup [(.loc 63)])) (.slice 7 (.loc 111) (some (.bin .add (.sub (.loc 76) (.loc 110)) bH)) none)))]),
 (.asg (.sub (.loc 107) (.sub (.loc 81) bH)) (.loc 63))]⟩
def ud:Fn:=⟨[84,23,63],
 [(.ite (.not (.call 31 [(.attr (.loc 84) 13),(.loc 23)])) [(.ret (some (.loc 63)))] []),
 (.ite (.call 83 [(.loc 84),(.loc 23)]) [(.ite (.cmp o7 [.eq] [ba]) [(.ret (some ba))] []),(.ret (some (.call 112 [(.loc 84),(.sub (.call 30 [(.attr (.loc 84) 13),(.loc 23)]) ba),(.sub (.loc 63) bH)])))] []),
 (.ret (some (.call 86 [(.loc 84),(.loc 23),(.list 8 [(.loc 63)])])))]⟩
def nP:Fn:=⟨[84,23,89],
 [(.ite (.call 83 [(.loc 84),(.loc 23)]) [(.ite (.cmp (.loc 89) [.eq] [ba]) [.hole] []),(.asg (.loc 16) (.sub (.call 30 [(.attr (.loc 84) 13),(.loc 23)]) ba)),(.ite (.cmp (.attr (.sub (.attr (.loc 84) 90) (.loc 89)) 87) [.ne] [(.loc 16)]) [(.expr (.call 92 [(.loc 84),(.glb 114),(.glb 115)]))] []),(.ret (some (.tup [bH,(.call 113 [(.loc 84),(.loc 16),(.loc 89)])])))] []),
 (.ite (.cmp (.loc 89) [.eq] [ba]) [(.expr (.call 96 [(.loc 84)]))] []),
 (.asg (.loc 101) (.sub (.attr (.loc 84) 90) (.loc 89))),
 (.ite (.or [(.cmp (.attr (.loc 101) 102) [.isNot] [(.k .none)]),(.not (.call 31 [(.attr (.loc 84) 13),(.attr (.loc 101) 87)]))]) [(.expr (.call 92 [(.loc 84),(.glb 114),(.glb 115)]))] []),
 (.ite (.cmp (.call 44 [(.attr (.loc 84) 36),(.attr (.loc 101) 87)]) [.ne] [(.call 44 [(.attr (.loc 84) 36),(.loc 23)])]) [(.expr (.call 92 [(.loc 84),(.glb 114),(.glb 115)]))] []),
 (.ret (some (.sub (.attr (.loc 101) 88) ba)))]⟩
def kF:Fn:=⟨[84,23,89],
 [(.ite (.call 31 [(.attr (.loc 84) 13),(.loc 23)]) [.hole] []),
 (.ite (.and [(.cmp (.loc 89) [.ne] [ba]),(.not (.call 99 [(.loc 84),(.loc 89),(.loc 23)]))]) [(.expr (.call 92 [(.loc 84),(.glb 114),(.glb 115)]))] []),
 (.ret (some (.loc 89)))]⟩
noncomputable def tL:Fn:=⟨[118],
 [(.ite (.cmp (.bin .add (.glb 119) (.loc 118)) [.lt] [(.glb 120)]) [.hole] []),
 (.ret (some (.bin .add (.glb 119) (.loc 118))))]⟩
def re:Fn:=⟨[122,87,88],
 [(.asg (.loc 123) (.new 124 9 [(.attr (.loc 122) 125),(.loc 87),(.loc 88)])),
 (.augA (.loc 122) 126 .add bH),
 (.asg (.attr (.loc 123) 127) (.attr (.loc 122) 126)),
 (.expr (.meth (.attr (.loc 122) 90) 1 [(.loc 123)])),
 (.asg (.sub (.attr (.loc 122) 110) (.attr (.loc 123) 128)) (.loc 123)),
 (.augA (.loc 122) 125 .add (.attr (.loc 123) 129)),
 (.augA (.loc 122) 130 .add (.attr (.loc 123) 129)),
 (.ret (some (.loc 123)))]⟩
noncomputable def rd:Fn:=⟨[123,80],
 [(.ret (some (.tup [(.glb 132),(.bin .add (.bin .add (.attr (.loc 123) 128) (.glb 119)) (.loc 80)),(.tup [])])))]⟩
noncomputable def nR:Fn:=⟨[134,37],
 [(.ite (.cmp (.attr (.loc 134) 135) [.eq] [(.glb 136)]) [(.expr (.meth (.attr (.loc 134) 137) 1 [(.loc 37)]))] []),
 (.ret (some (.glb 138)))]⟩
noncomputable def wb:Fn:=⟨[134,23],
 [(.asg (.loc 5) (.meth (.attr (.loc 134) 140) 3 [(.loc 23)])),
 (.ite (.cmp (.loc 5) [.is] [(.k .none)]) [(.ret (some (.tup [(.dict 10 [] []),(.tup []),(.tup [])])))] []),
 (.ret (some (.loc 5)))]⟩
noncomputable def ni:Fn:=⟨[134,23],
 [(.asg (.loc 142) (.meth (.attr (.loc 134) 143) 3 [(.loc 23)])),
 (.ite (.cmp (.loc 142) [.isNot] [(.k .none)]) [(.ret (some (.loc 142)))] []),
 (.ret (some (.call 48 [(.meth (.loc 134) 144 [(.loc 23)])])))]⟩
def tO:Fn:=⟨[134,146],
 [(.ite (.cmp (.len lO) [.eq] [ba]) [.hole, .hole] []),
 (.ret (some (.meth lO 2 [])))]⟩
def DR:Fn:=⟨[134,23,63],
 [(.asg (.loc 149) (.meth (.loc 134) 144 [(.loc 23)])),
 (.ite (.not (.call 72 [wv,(.loc 63),(.loc 149)])) [.hole, .hole] []),
 (.ret (some (.call 62 [wv,(.loc 149),(.loc 63)])))]⟩
def nV:Fn:=⟨[134,87,118],
 [(.ite (.cmp (.loc 87) [.eq] [(.glb 67)]) [(.ret (some (.list 11 [(.tup [(.glb 151),(aF [])])])))] []),
 (.ite (.call 31 [wv,(.loc 87)]) [(.ret (some (.list 12 [(.meth (.loc 134) 152 [(.loc 87)])])))] []),
 (.asg (.loc 6) (.call 28 [wv,(.loc 87)])),
 (.ite (.cmp (.loc 6) [.eq] [(.glb 10)]) [.hole] []),
 (.asg (.loc 153) (.list 13 [])),
 (.ite (.cmp (.loc 6) [.eq] [(.glb 7)]) [(.for (.loc 23) (.over (.meth (.loc 134) 154 [(.loc 87)])) [.hole])] []),
 (.wh (.cmp (.len (.loc 153)) [.lt] [(.loc 118)]) [(.expr (.meth (.loc 153) 1 [(.glb 55)]))]),
 (.ret (some (.loc 153)))]⟩
noncomputable def qR:Fn:=⟨[134],
 [(.ret (some (.meth (.loc 134) 92 [(.glb 97),(.glb 156)])))]⟩
def wc:Fn:=⟨[134,63],
 [(.ite (.cmp o7 [.ne] [(.glb 68)]) [.hole, .hole] []),
 (.ite (.cmp (.sub (.loc 63) bH) [.eq] [ba]) [(.expr (.call 155 [(.loc 134)])),(.ret (some (.k .none)))] []),
 (.asg (.loc 123) (.meth (.attr (.attr (.loc 134) 122) 110) 3 [(.sub (.loc 63) bH)])),
 (.ite (.cmp (.loc 123) [.is] [(.k .none)]) [.hole] []),
 (.ret (some (.loc 123)))]⟩
noncomputable def nU:Fn:=⟨[13,23],
 [(.ret (some (.and [(.cmp (.loc 23) [.ge] [(.glb 159)]),(.cmp (.call 28 [(.loc 13),(.loc 23)]) [.eq] [(.glb 8)]),(.cmp (.call 29 [(.loc 13),(.loc 23)]) [.eq] [(.glb 85)])])))]⟩
def DV:Fn:=⟨[134,146,110,23],
 [(.ite (.not (.call 31 [wv,(.loc 23)])) [(.ite (.not (.call 72 [wv,(.sub lO (.loc 110)),(.loc 23)])) [.hole] []),(.ret (some (.glb 161)))] []),
 (.asg (.loc 63) (.call 148 [(.loc 134),(.loc 23),(.sub lO (.loc 110))])),
 (.ite (.cmp (.loc 63) [.eq] [(.glb 162)]) [.hole] []),
 (.ite (.call 158 [wv,(.loc 23)]) [(.asg (.loc 88) (.meth (.loc 134) 163 [(.loc 23)])),(.ite (.cmp (.glb 164) [.notIn] [(.loc 88)]) [.hole] []),(.ite (.cmp (.sub (.sub (.sub (.loc 63) fh) (.sub (.loc 88) (.glb 164))) bH) [.eq] [ba]) [(.asg (.sub lO (.loc 110)) (.glb 55)),(.ret (some (.glb 161)))] []),(.asg (.loc 63) (.sub (.sub (.loc 63) fh) (.sub (.loc 88) (.glb 165)))),(.asg (.loc 23) (.sub (.call 30 [wv,(.loc 23)]) ba))] []),
 (.asg (.sub lO (.loc 110)) (.loc 63)),
 (.asg (.loc 123) (.meth (.loc 134) 166 [(.loc 23),bH])),
 (.asg (.sub (.attr (.loc 123) 88) ba) (.sub lO (.loc 110))),
 (.asg (.sub lO (.loc 110)) (.tup [(.glb 68),(.attr (.loc 123) 128)])),
 (.ret (some (.glb 161)))]⟩
def nX:Fn:=⟨[134,63,23],
 [(.asg (.loc 123) (.call 157 [(.loc 134),(.loc 63)])),
 (.ite (.cmp (.loc 123) [.is] [(.k .none)]) [(.ret (some (.k .none)))] []),
 (.ite (.or [(.not (.call 31 [wv,(.attr (.loc 123) 87)])),(.cmp (.meth (.loc 134) 144 [(.attr (.loc 123) 87)]) [.ne] [(.meth (.loc 134) 144 [(.loc 23)])])]) [(.expr (.meth (.loc 134) 92 [(.glb 114),(.glb 168)])),(.ret (some (.k .none)))] []),
 (.ret (some (.loc 123)))]⟩
def nQ:Fn:=⟨[134,63,23],
 [(.asg (.loc 170) (.meth (.loc 134) 152 [(.loc 23)])),
 (.ite (.cmp (.loc 63) [.eq] [(.glb 55)]) [.hole] []),
 (.asg (.loc 123) (.call 157 [(.loc 134),(.loc 63)])),
 (.ite (.cmp (.loc 123) [.is] [(.k .none)]) [.hole] []),
 (.ite (.cmp (.attr (.loc 123) 87) [.ne] [(.sub (.call 30 [wv,(.loc 23)]) ba)]) [(.expr (.meth (.loc 134) 92 [(.glb 114),(.glb 168)])),(.ret (some (.k .none)))] []),
 (.asg (.loc 88) (.meth (.loc 134) 163 [(.loc 23)])),
 (.ite (.cmp (.glb 164) [.notIn] [(.loc 88)]) [.hole, .hole] []),
 (.asg (.loc 170) (.call 75 [(.loc 170),(.tup [(.sub (.loc 88) (.glb 164))]),(.tup [(.glb 50),bH])])),
 (.ret (some (.call 75 [(.loc 170),(.tup [(.sub (.loc 88) (.glb 165))]),(.sub (.attr (.loc 123) 88) ba)])))]⟩
def qQ:Fn:=⟨[134,146,23],
 [(.asg (.loc 125) (.bin .sub (.len lO) bH)),
 (.asg (.loc 170) (.call 169 [(.loc 134),(.sub lO (.loc 125)),(.loc 23)])),
 (.ite (.cmp (.loc 170) [.is] [(.k .none)]) [(.ret (some (.glb 138)))] []),
 (.asg (.sub lO (.loc 125)) (.loc 170)),
 (.asg (.loc 123) (.meth (.loc 134) 166 [(.loc 23),bH])),
 (.asg (.sub (.attr (.loc 123) 88) ba) (.sub lO (.loc 125))),
 (.asg (.sub lO (.loc 125)) (.tup [(.glb 73),(.call 131 [(.loc 123),ba])])),
 (.ret (some (.glb 161)))]⟩
noncomputable def iB:Fn:=⟨[134],
 [(.asg (.sub (.attr (.loc 134) 173) (.glb 174)) (.new 175 14 [])),
 (.asg (.sub (.attr (.loc 134) 173) (.glb 176)) (.new 177 15 [])),
 (.asg (.sub (.attr (.loc 134) 173) (.glb 178)) (.new 179 16 [])),
 (.asg (.sub (.attr (.loc 134) 173) (.glb 180)) (.new 181 17 []))]⟩
def Gw:Fn:=⟨[134,63,23],
 [(.asg (.loc 123) (.meth (.attr (.attr (.loc 134) 122) 110) 3 [(.sub (.loc 63) bH)])),
 (.ret (some (.and [(.cmp (.loc 123) [.isNot] [(.k .none)]),(.meth (.loc 134) 105 [(.attr (.loc 123) 87),(.loc 23)])])))]⟩
def wl:Fn:=⟨[134,146,23],
 [(.asg (.loc 63) (.meth (.loc 134) 2 [(.loc 146)])),
 (.ite (.cmp o7 [.ne] [(.glb 68)]) [.hole] []),
 (.ite (.and [(.cmp (.sub (.loc 63) bH) [.ne] [ba]),(.not (.call 182 [(.loc 134),(.loc 63),(.loc 23)]))]) [(.ret (some (.meth (.loc 134) 92 [(.glb 114),(.glb 168)])))] []),
 (.expr (.meth lO 1 [(.loc 63)])),
 (.ret (some (.glb 161)))]⟩
def zJ:Fn:=⟨[185],
 [(.asg (.loc 110) (.sub (.loc 185) (aF [97,116]))),
 (.asg (.sub (.loc 185) (aF [97,116])) (.bin .add (.loc 110) bH)),
 (.ite (.cmp (.loc 110) [.lt] [(.len (.sub (.loc 185) (aF [115,99,114,105,112,116])))]) [(.ret (some (.sub (.sub (.loc 185) (aF [115,99,114,105,112,116])) (.loc 110))))] []),
 (.ite (.cmp (.loc 110) [.lt] [(.len (.glb 186))]) [(.ret (some (.sub (.glb 186) (.loc 110))))] []),
 (.ret (some (.bin .add (.bin .mul (aV 5) (.loc 110)) (aV 3))))]⟩
def q0:Fn:=⟨[188],
 [(.ret (some (.cmp (.loc 188) [.isIn] [(.tup [(aF [111]),(aF [97]),(aF [105]),(aF [116])])])))]⟩
def tY:Fn:=⟨[185,188],
 [(.ret (some (.meth OW 3 [(.loc 188),(.loc 188)])))]⟩
def wg:Fn:=⟨[185,188],
 [(.asg (.loc 140) (.dict 18 [(aF [98,111,111,108]),(aF [99,104,97,114]),(aF [105,49]),(aF [117,49]),(aF [105,50]),(aF [117,50]),(aF [105,52]),(aF [117,52]),(aF [105,56]),(aF [117,56]),(aF [110,105,110,116])] [(.tup [ba,fh,bH]),(.tup [ba,(aV 65536),bH]),(.tup [(.neg (aV 128)),(aV 256),bH]),(.tup [ba,(aV 256),bH]),(.tup [(.neg (aV 32768)),(aV 65536),bH]),(.tup [ba,(aV 65536),bH]),(.tup [(.neg (aV 2147483648)),(aV 4294967296),bH]),(.tup [ba,(aV 4294967296),bH]),(.tup [(.neg (aV 9223372036854775808)),(aV 18446744073709551616),fh]),(.tup [ba,(aV 18446744073709551616),fh]),(.tup [(.neg (aV 2147483648)),(aV 4294967296),(aV 3)])])),
 (.ret (some (.sub (.loc 140) (.call 189 [(.loc 185),(.loc 188)]))))]⟩
def tU:Fn:=⟨[185,188,192],
 [(.ite (.call 187 [(.loc 188)]) [(.ret (some (.bin .mod (.loc 192) (.len Ai))))] []),
 (.ite GT [(.ret (some (.tup [(.bin .mod (.loc 192) fh),(.call 191 [(.loc 185),(.slice 19 (.loc 188) (some bH) none),(.bin .fdiv (.loc 192) fh)])])))] []),
 (.ite (.cmp (.loc 188) [.eq] [(aF [115])]) [(.ret (some (.tup [(.call 191 [(.loc 185),(aF [105,52]),(.loc 192)]),(.bin .mod (.bin .fdiv (.loc 192) (aV 3)) (.len Ai)),(.call 191 [(.loc 185),(aF [63,117,49]),(.bin .fdiv (.loc 192) (aV 5))])])))] []),
 (.ite (.or [(.cmp (.loc 188) [.eq] [(aF [103])]),(.cmp (.loc 188) [.eq] [(aF [104])])]) [(.ret (some (.tup [(.call 191 [(.loc 185),(.ite (.cmp (.loc 188) [.eq] [(aF [103])]) (aF [105,52]) (aF [117,52])),(.loc 192)])])))] []),
 (.asg (.tup [193,194,64]) (.call 190 [(.loc 185),(.loc 188)])),
 (.ret (some (.bin .add (.loc 193) (.bin .mod (.bin .sub (.sub (.glb 195) (.bin .mod (.loc 192) (aV 16))) (.loc 193)) (.loc 194)))))]⟩
def qZ:Fn:=⟨[185,188,63],
 [(.ite (.call 187 [(.loc 188)]) [(.ret (some (.sub Eg (.loc 63))))] []),
 (.ite GT [(.ret (some (.tup [o7,(.call 196 [(.loc 185),(.slice 20 (.loc 188) (some bH) none),(.sub (.loc 63) bH)])])))] []),
 (.ite (.cmp (.loc 188) [.eq] [(aF [115])]) [(.ret (some (.tup [o7,(.sub Eg (.sub (.loc 63) bH)),(.sub (.loc 63) fh)])))] []),
 (.ret (some (.loc 63)))]⟩
def qX:Fn:=⟨[185,188,63],
 [(.ite (.call 187 [(.loc 188)]) [(.ret (some (.tup [(aV 4),(.sub Aj (.loc 63))])))] []),
 (.asg (.loc 87) (.sub ny (.loc 188))),
 (.ite GT [(.asg (.loc 198) (.tup [bH,o7])),(.asg (.loc 199) (.call 197 [(.loc 185),(.slice 21 (.loc 188) (some bH) none),(.sub (.loc 63) bH)])),(.ret (some (.tup [(aV 5),(.loc 87),(.ite (.sub (.loc 185) (aF [116,117,114,110,101,100])) (.tup [(.loc 199),(.loc 198)]) (.tup [(.loc 198),(.loc 199)]))])))] []),
 (.ite (.cmp (.loc 188) [.eq] [(aF [115])]) [(.ret (some (.tup [(aV 5),(.loc 87),(.tup [(.tup [bH,o7]),(.tup [(aV 4),(.sub Aj (.sub (.loc 63) bH))]),(.call 197 [(.loc 185),(aF [63,117,49]),(.sub (.loc 63) fh)])])])))] []),
 (.ite (.or [(.cmp (.loc 188) [.eq] [(aF [103])]),(.cmp (.loc 188) [.eq] [(aF [104])])]) [(.ret (some (.tup [(aV 5),(.loc 87),(.tup [(.call 197 [(.loc 185),(.ite (.cmp (.loc 188) [.eq] [(aF [103])]) (aF [105,52]) (aF [117,52])),o7])])])))] []),
 (.asg (.loc 64) (.sub (.call 190 [(.loc 185),(.loc 188)]) fh)),
 (.asg (.loc 111) (.ite (.cmp (.loc 64) [.eq] [fh]) (aV 18446744073709551616) (aV 4294967296))),
 (.ret (some (.tup [(.loc 64),(.ite (.cmp (.loc 63) [.ge] [(.bin .fdiv (.loc 111) fh)]) (.bin .sub (.loc 63) (.loc 111)) (.loc 63))])))]⟩
def wj:Fn:=⟨[185,201,188],
 [(.ret (some (.or [(.cmp (.loc 201) [.eq] [(.loc 188)]),(.cmp (.loc 188) [.eq] [(aF [111])]),(.cmp (.tup [(.sub ny (.loc 201)),(.sub ny (.loc 188))]) [.isIn] [(.sub (.loc 185) (aF [107,105,110]))])])))]⟩
def ua:Fn:=⟨[185,188,203],
 [(.asg (.loc 201) (.sub Ai (.loc 203))),
 (.ite (.call 187 [(.loc 188)]) [(.ite (.or [(.cmp (.loc 203) [.eq] [ba]),(.call 200 [(.loc 185),(.loc 201),(.loc 188)])]) [(.ret (some (.tup [ba,(.loc 203)])))] []),(.ret (some (.tup [(aV 23),ba])))] []),
 (.ite (.cmp (.loc 203) [.eq] [ba]) [(.ret (some (.tup [(aV 21),ba])))] []),
 (.ite GT [(.ret (some (.ite (.cmp (.loc 201) [.eq] [(.slice 22 (.loc 188) (some bH) none)]) (.tup [ba,(.tup [bH,KQ])]) (.tup [(aV 23),ba]))))] []),
 (.ite (.and [(.not (.call 187 [(.loc 201)])),(.cmp (.call 189 [(.loc 185),(.loc 201)]) [.eq] [(.call 189 [(.loc 185),(.loc 188)])])]) [(.ret (some (.tup [ba,KQ])))] []),
 (.ret (some (.tup [(aV 23),ba])))]⟩
def rc:Fn:=⟨[185,188,63],
 [(.ite (.call 187 [(.loc 188)]) [(.ret (some (.loc 63)))] []),
 (.ite GT [(.ret (some (.ite o7 (.call 204 [(.loc 185),(.slice 23 (.loc 188) (some bH) none),(.sub (.loc 63) bH)]) ba)))] []),
 (.expr (.meth Ai 1 [(.loc 188)])),
 (.expr (.meth (.sub (.loc 185) (aF [104,101,108,100])) 1 [(.loc 63)])),
 (.expr (.meth Eg 1 [(.len (.attr Ey 90))])),
 (.expr (.meth Aj 1 [(.attr (.attr (.sub (.loc 185) (aF [109])) 122) 125)])),
 (.ret (some (.bin .sub (.len Ai) bH)))]⟩
def tX:Fn:=⟨[185,188,203],
 [(.asg (.loc 84) Ey),
 (.asg (.loc 23) (.sub ny (.loc 188))),
 (.try [(.ite (.call 187 [(.loc 188)]) [(.ret (some (.tup [ba,(.call 116 [(.loc 84),(.loc 23),(.sub Eg (.loc 203))])])))] []),(.ret (some (.tup [ba,(.call 113 [(.loc 84),(.loc 23),(.sub Eg (.loc 203))])])))] 206 207 [(.ret (some (.tup [(.ite (.cmp (.attr (.loc 207) 208) [.eq] [(aF [101,114,114,111,114])]) (.attr (.loc 207) 110) (.neg bH)),(.k .none)])))])]⟩
def DS:Fn:=⟨[185,208,188,63],
 [(.asg (.loc 134) (.sub (.loc 185) (aF [109]))),
 (.asg (.loc 146) (.sub (.loc 185) (aF [102]))),
 (.asg (.attr (.loc 146) 147) (.list 24 [(.tup [bH,(aV 77)]),(.loc 63)])),
 (.asg (.loc 210) (.meth (.sub (.attr (.loc 134) 173) (.loc 208)) 211 [(.loc 134),(.loc 146),(.sub ny (.loc 188))])),
 (.asg (.loc 137) (.attr (.loc 134) 137)),
 (.asg (.attr (.loc 134) 137) (.list 25 [])),
 (.ite (.or [(.cmp (.attr (.loc 134) 212) [.ne] [(.list 26 [])]),(.cmp (.attr (.loc 134) 135) [.ne] [ba]),(.cmp (.slice 27 lO none (some bH)) [.ne] [(.list 28 [(.tup [bH,(aV 77)])])])]) [.hole] []),
 (.ite (.and [(.cmp (.loc 210) [.eq] [(.neg fh)]),(.cmp (.len (.loc 137)) [.eq] [bH])]) [(.ret (some (.tup [(.sub (.loc 137) ba),(.k .none)])))] []),
 (.ite (.and [(.cmp (.loc 210) [.eq] [(.neg bH)]),(.cmp (.loc 137) [.eq] [(.list 29 [])]),(.cmp (.len lO) [.eq] [fh])]) [(.ret (some (.tup [ba,(.sub lO bH)])))] []),
 .hole]⟩
def zI:Fn:=⟨[185,188,63],
 [(.asg (.loc 214) (.call 196 [(.loc 185),(.loc 188),(.loc 63)])),
 (.asg (.loc 215) (.call 197 [(.loc 185),(.loc 188),(.loc 63)])),
 (.asg (.loc 203) (.call 204 [(.loc 185),(.loc 188),(.loc 63)])),
 (.ite (.cmp (.call 112 [Ey,(.sub ny (.loc 188)),(.loc 214)]) [.ne] [(.sub Eg (.loc 203))]) [.hole] []),
 (.ret (some (.cmp (.call 209 [(.loc 185),(aV 140),(.loc 188),(.loc 215)]) [.eq] [(.tup [ba,(.tup [(aV 4),(.sub Aj (.loc 203))])])])))]⟩
def wi:Fn:=⟨[185,188,203],
 [(.asg (.tup [217,63]) (.call 202 [(.loc 185),(.loc 188),(.loc 203)])),
 (.asg (.tup [212,218]) (.call 205 [(.loc 185),(.loc 188),(.loc 203)])),
 (.asg (.tup [137,219]) (.call 209 [(.loc 185),(aV 165),(.loc 188),(.tup [(aV 4),(.sub Aj (.loc 203))])])),
 (.ite (.or [(.cmp (.loc 212) [.ne] [(.loc 217)]),(.cmp (.loc 137) [.ne] [(.loc 217)])]) [.hole] []),
 (.ite (.loc 217) [(.ret (some (.k (.bool true))))] []),
 (.asg (.sub (.loc 185) (aF [108,97,115,116])) (.tup [(.loc 188),(.loc 63)])),
 (.ret (some (.and [(.cmp (.loc 218) [.eq] [(.call 196 [(.loc 185),(.loc 188),(.loc 63)])]),(.cmp (.loc 219) [.eq] [(.call 197 [(.loc 185),(.loc 188),(.loc 63)])])])))]⟩
def tZ:Fn:=⟨[185,188,203,192],
 [(.asg (.loc 134) (.sub (.loc 185) (aF [109]))),
 (.asg (.tup [217,63]) (.call 202 [(.loc 185),(.loc 188),(.loc 203)])),
 (.asg (.loc 128) (.sub Aj (.loc 203))),
 (.ite GT [(.asg (.loc 128) (.attr (.attr (.loc 134) 122) 125))] []),
 (.asg (.tup [212,218]) (.call 205 [(.loc 185),(.loc 188),(.loc 203)])),
 (.asg (.tup [137,219]) (.call 209 [(.loc 185),(aV 121),(.loc 188),(.tup [(aV 4),(.sub Aj (.loc 203))])])),
 (.ite (.or [(.cmp (.loc 212) [.ne] [(.loc 217)]),(.cmp (.loc 137) [.ne] [(.loc 217)])]) [.hole] []),
 (.ite (.loc 217) [(.ret (some (.k (.bool true))))] []),
 (.ite (.or [(.cmp (.loc 218) [.ne] [(.call 196 [(.loc 185),(.loc 188),(.loc 63)])]),(.cmp (.loc 219) [.ne] [(.tup [(aV 6),(.tup [(aV 3),(.bin .add (.loc 128) fh),(.tup [])])])])]) [.hole] []),
 (.ite (.cmp (.attr (.sub (.attr (.attr (.loc 134) 122) 110) (.loc 128)) 88) [.ne] [(.list 30 [(.call 197 [(.loc 185),(.loc 188),(.loc 63)])])]) [.hole] []),
 (.asg (.sub (.loc 185) (aF [108,97,115,116])) (.tup [(.loc 188),(.loc 63)])),
 (.ite GT [(.ite (.bin .mod (.loc 192) fh) [(.asg (.loc 63) (.call 191 [(.loc 185),(.loc 188),(.bin .fdiv (.loc 192) fh)])),(.asg (.sub (.attr (.sub (.attr (.attr (.loc 134) 122) 110) (.loc 128)) 88) ba) (.call 197 [(.loc 185),(.loc 188),(.loc 63)]))] []),(.expr (.meth (.sub (.loc 185) (aF [99,101,108,108,115])) 1 [(.tup [(.loc 128),(.loc 188),(.loc 63)])]))] [(.ite (.bin .mod (.loc 192) fh) [(.expr (.call 221 [(.loc 185),(.loc 203),(.bin .fdiv (.loc 192) fh)]))] [])]),
 (.ret (some (.k (.bool true))))]⟩
def tR:Fn:=⟨[185,203,192],
 [(.asg (.loc 188) (.sub Ai (.loc 203))),
 (.asg (.loc 63) (.call 191 [(.loc 185),(.loc 188),(.loc 192)])),
 (.asg (.loc 88) (.attr (.sub (.attr Ey 90) (.sub Eg (.loc 203))) 88)),
 (.ite (.and [(.cmp (.loc 188) [.eq] [(aF [115])]),(.bin .mod (.loc 192) fh)]) [(.asg (.loc 63) (.tup [o7,(.sub KQ bH),(.sub KQ fh)])),(.expr (.call 106 [(.tup [(.loc 88),ba,(.tup [ba])]),o7]))] [(.expr (.call 106 [(.tup [(.loc 88),ba,(.tup [])]),(.call 196 [(.loc 185),(.loc 188),(.loc 63)])]))]),
 (.asg (.sub (.sub (.loc 185) (aF [104,101,108,100])) (.loc 203)) (.loc 63)),
 (.asg (.sub (.attr (.sub (.attr (.attr (.sub (.loc 185) (aF [109])) 122) 110) (.sub Aj (.loc 203))) 88) ba) (.call 197 [(.loc 185),(.loc 188),(.loc 63)]))]⟩
def lp:Fn:=⟨[185,223],
 [(.ite (.cmp (.bin .mod (.loc 223) (aV 8)) [.eq] [(aV 7)]) [(.ret (some ba))] []),
 (.ite (.cmp (.bin .mod (.loc 223) (aV 8)) [.eq] [(aV 6)]) [(.ret (some (.bin .add bH (.bin .mod (.bin .fdiv (.loc 223) (aV 8)) (aV 3)))))] []),
 (.ret (some (.bin .add (aV 4) (.bin .mod (.bin .fdiv (.loc 223) (aV 8)) (.bin .sub (.len Ai) (aV 4))))))]⟩
def zK:Fn:=⟨[185,203,225],
 [(.asg (.loc 201) (.sub Ai (.loc 203))),
 (.asg (.loc 192) (.bin .fdiv (.loc 225) (aV 4))),
 (.ite (.or [(.cmp (.bin .mod (.loc 225) (aV 4)) [.eq] [(aV 3)]),(.cmp (.loc 201) [.eq] [(aF [])])]) [(.ret (some (.sub (.glb 226) (.bin .mod (.loc 192) (aV 25)))))] []),
 (.ite (.and [(.cmp (.bin .mod (.loc 225) (aV 4)) [.eq] [bH]),(.cmp (.bin .add (aF [63]) (.loc 201)) [.isIn] [ny])]) [(.ret (some (.bin .add (aF [63]) (.loc 201))))] []),
 (.ite (.cmp (.bin .mod (.loc 225) (aV 4)) [.eq] [fh]) [(.asg (.loc 227) (.dict 31 [(aF [105,52]),(aF [101]),(aF [102]),(aF [117,52]),(aF [117,49]),(aF [98,111,111,108]),(aF [105,49]),(aF [99,104,97,114]),(aF [117,50]),(aF [105,50]),(aF [105,56]),(aF [117,56]),(aF [110,105,110,116]),(aF [115]),(aF [103]),(aF [104])] [(aF [101]),(aF [102]),(aF [101]),(aF [105,52]),(aF [98,111,111,108]),(aF [117,49]),(aF [117,49]),(aF [117,50]),(aF [99,104,97,114]),(aF [117,50]),(aF [117,56]),(aF [105,56]),(aF [105,52]),(aF [103]),(aF [104]),(aF [103])])),(.ite (.and [(.bin .mod (.loc 192) fh),(.cmp (.loc 201) [.isIn] [OW])]) [(.ret (some (.sub OW (.loc 201))))] []),(.ret (some (.meth (.loc 227) 3 [(.loc 201),(.loc 201)])))] []),
 (.ret (some (.loc 201)))]⟩
def ja:Fn:=⟨[185],
 [(.asg (.loc 229) (.call 184 [(.loc 185)])),
 (.asg (.loc 223) (.call 184 [(.loc 185)])),
 (.asg (.loc 225) (.call 184 [(.loc 185)])),
 (.ite (.cmp (.bin .mod (.loc 229) (aV 6)) [.lt] [fh]) [(.ite (.cmp (.bin .mod (.bin .fdiv (.loc 229) (aV 6)) (aV 3)) [.eq] [fh]) [(.ret (some (.call 213 [(.loc 185),(.sub (.sub (.loc 185) (aF [108,97,115,116])) ba),(.sub (.sub (.loc 185) (aF [108,97,115,116])) bH)])))] []),(.asg (.loc 188) (.sub (.glb 226) (.bin .mod (.loc 223) (aV 25)))),(.ret (some (.call 213 [(.loc 185),(.loc 188),(.call 191 [(.loc 185),(.loc 188),(.loc 225)])])))] []),
 (.asg (.loc 203) (.call 222 [(.loc 185),(.loc 223)])),
 (.asg (.loc 188) (.call 224 [(.loc 185),(.loc 203),(.loc 225)])),
 (.ite (.and [(.cmp (.loc 203) [.eq] [ba]),GT]) [(.asg (.loc 188) (.slice 32 (.loc 188) (some bH) none))] []),
 (.ite (.or [(.cmp (.bin .mod (.loc 229) (aV 6)) [.lt] [(aV 4)]),(.call 187 [(.loc 188)])]) [(.ret (some (.call 216 [(.loc 185),(.loc 188),(.loc 203)])))] []),
 (.ret (some (.call 220 [(.loc 185),(.loc 188),(.loc 203),(.bin .fdiv (.loc 229) (aV 6))])))]⟩
def ub:Fn:=⟨[13],
 [(.asg (.loc 103) (.dict 33 [(aF [98,111,111,108]),(aF [99,104,97,114]),(aF [105,49]),(aF [117,49]),(aF [105,50]),(aF [117,50]),(aF [105,52]),(aF [117,52]),(aF [105,56]),(aF [117,56]),(aF [110,105,110,116]),(aF [111]),(aF [116])] [bH,fh,(aV 3),(aV 4),(aV 5),(aV 6),(aV 7),(aV 8),(aV 9),(aV 10),(aV 11),(aV 12),(aV 13)])),
 (.asg (.sub (.loc 103) (aF [97])) (.meth (.loc 13) 219 [(.tup [fh,(aV 64),(.tup [])])])),
 (.asg (.sub (.loc 103) (aF [105])) (.meth (.loc 13) 219 [(.tup [fh,(aV 65),(.tup [])])])),
 (.asg (.sub (.loc 103) (aF [101])) (.meth (.loc 13) 219 [(.tup [(aV 3),(aV 66),(.tup [])])])),
 (.asg (.sub (.loc 103) (aF [102])) (.meth (.loc 13) 219 [(.tup [(aV 3),(aV 67),(.tup [])])])),
 (.asg (.sub (.loc 103) (aF [115])) (.meth (.loc 13) 219 [(.tup [(aV 3),(aV 68),(.tup [])])])),
 (.asg (.sub (.loc 103) (aF [103])) (.meth (.loc 13) 219 [(.tup [(aV 3),(aV 69),(.tup [(aV 7)])])])),
 (.asg (.sub (.loc 103) (aF [104])) (.meth (.loc 13) 219 [(.tup [(aV 3),(aV 69),(.tup [(aV 8)])])])),
 (.for (.loc 188) (.over (.tup [(aF [105,52]),(aF [117,49]),(aF [101]),(aF [115]),(aF [104])])) [(.asg (.sub (.loc 103) (.bin .add (aF [63]) (.loc 188))) (.meth (.loc 13) 219 [(.tup [(aV 3),(aV 8),(.tup [(.sub (.loc 103) (.loc 188))])])]))]),
 (.ret (some (.loc 103)))]⟩
def tV:Fn:=⟨[36,185],
 [(.asg (.attr (.loc 36) 38) (.rep 34 (.list 35 [(.k .none)]) (aV 70))),
 (.for (.tup [37,188,6]) (.over (.tup [(.tup [(aV 66),(aF [101]),(.glb 46)]),(.tup [(aV 67),(aF [102]),(.glb 46)]),(.tup [(aV 68),(aF [115]),(.glb 232)]),(.tup [(aV 69),(aF [103]),(.glb 232)])])) [(.asg (.sub (.attr (.loc 36) 38) (.loc 37)) (.new 233 36 [(.loc 37),(.loc 188),(.loc 6),ba,(.neg bH),(.tup []),bH]))]),
 (.for (.tup [37,188]) (.over (.tup [(.tup [(aV 66),(aF [101])]),(.tup [(aV 67),(aF [102])])])) [(.asg (.attr (.sub (.attr (.loc 36) 38) (.loc 37)) 47) (.sub ny (.sub OW (.loc 188)))),(.asg (.sub (.attr (.sub (.loc 185) (aF [109])) 234) (.sub ny (.loc 188))) (.attr (.sub (.attr (.loc 36) 38) (.loc 37)) 47))])]⟩
def bO:Fn:=⟨[236],
 [(.asg (.loc 36) (.new 237 37 [])),
 (.asg (.loc 134) (.new 238 38 [(.loc 36),(.new 239 39 [(aV 4000),(aV 3)])])),
 (.asg (.loc 185) (.dict 40 [(aF [115,99,114,105,112,116]),(aF [97,116]),(aF [109]),(aF [101,118]),(aF [102]),(aF [107,105,110]),(aF [107,105,110,100,115]),(aF [101,120,97,99,116]),(aF [104,101,108,100]),(aF [105,116,101,109,115]),(aF [97,100,100,114,115]),(aF [99,101,108,108,115]),(aF [108,97,115,116])] [(.loc 236),ba,(.loc 134),(.new 240 41 [(.loc 134),(aV 100)]),(.new 241 42 [bH,(.tup [(aV 12),bH,(.tup [])]),(.k .none),(.list 43 []),ba]),(.dict 44 [] []),(.call 230 [(.attr (.loc 36) 13)]),(.list 45 [(aF [])]),(.list 46 [(.k .none)]),(.list 47 [ba]),(.list 48 [ba]),(.list 49 []),(.tup [(aF [105,52]),ba])])),
 (.asg (.loc 242) (.call 184 [(.loc 185)])),
 (.asg (.loc 47) (.sub (.glb 243) (.bin .mod (.loc 242) (aV 8)))),
 (.asg (.sub (.loc 185) (aF [117,110,100,101,114,115])) (.dict 50 [(aF [101]),(aF [102])] [(.loc 47),(.ite (.cmp (.bin .mod (.bin .fdiv (.loc 242) (aV 8)) fh) [.eq] [ba]) (.loc 47) (.sub (.glb 243) (.bin .mod (.bin .fdiv (.loc 242) (aV 16)) (aV 8))))])),
 (.asg (.sub (.loc 185) (aF [116,117,114,110,101,100])) (.cmp (.bin .mod (.bin .fdiv (.loc 242) (aV 128)) fh) [.eq] [bH])),
 (.ite (.bin .mod (.bin .fdiv (.loc 242) (aV 256)) fh) [(.asg (.sub (.sub (.loc 185) (aF [107,105,110])) (.tup [(.sub ny (aF [97])),(.sub ny (aF [105]))])) bH)] []),
 (.ite (.cmp (.bin .mod (.bin .fdiv (.loc 242) (aV 512)) fh) [.eq] [ba]) [(.asg (.sub (.sub (.loc 185) (aF [107,105,110])) (.tup [(.sub ny (aF [115])),(.sub ny (aF [105]))])) bH)] []),
 (.expr (.call 231 [(.loc 36),(.loc 185)])),
 (.asg (.attr Ey 244) (.sub (.loc 185) (aF [107,105,110]))),
 (.asg (.attr (.loc 134) 244) (.sub (.loc 185) (aF [107,105,110]))),
 (.expr (.call 172 [(.loc 134)])),
 (.for (.loc 188) (.over (.tup [(aF [63,105,52]),(aF [63,117,49]),(aF [63,101]),(aF [63,115]),(aF [63,104])])) [(.asg (.loc 16) (.ite (.cmp (.loc 188) [.eq] [(aF [63,115])]) (.tup [ba,ba,(.tup [ba,ba])]) (.ite (.cmp (.loc 188) [.eq] [(aF [63,104])]) (.tup [ba]) ba))),(.asg (.sub (.attr (.loc 134) 143) (.sub ny (.loc 188))) (.call 197 [(.loc 185),(.loc 188),(.tup [ba,(.loc 16)])])),(.asg (.sub (.attr (.loc 134) 140) (.sub ny (.loc 188))) (.tup [(.ite (.sub (.loc 185) (aF [116,117,114,110,101,100])) (.dict 51 [(aV 6),(aV 7)] [bH,ba]) (.dict 52 [(aV 6),(aV 7)] [ba,bH])),(.tup []),(.tup [])]))]),
 (.for (.loc 188) (.over (.tup [(aF [97]),(aF [116]),(aF [97])])) [(.expr (.meth Ai 1 [(.loc 188)])),(.expr (.meth (.sub (.loc 185) (aF [104,101,108,100])) 1 [(.k .none)])),(.expr (.meth Eg 1 [(.call 86 [Ey,(.sub ny (.loc 188)),(.list 53 [])])])),(.expr (.meth Aj 1 [(.attr (.meth (.loc 134) 166 [(.sub ny (.loc 188)),bH]) 128)]))]),
 (.asg (.attr (.sub (.attr Ey 90) (aV 3)) 87) (.neg bH)),
 (.asg (.attr (.sub (.attr Ey 90) (aV 3)) 102) (.new 245 54 [(.tup [(.sub ny (aF [97]))])])),
 (.for (.tup [188,192]) (.over (.tup [(.tup [(aF [105,52]),(.bin .add (.loc 242) (aV 3))]),(.tup [(aF [101]),(.bin .add (.loc 242) fh)]),(.tup [(aF [63,101]),(.bin .add (.bin .mul fh (.loc 242)) (aV 7))]),(.tup [(aF [115]),(.bin .add (.loc 242) (aV 5))])])) [(.ite (.not (.call 213 [(.loc 185),(.loc 188),(.call 191 [(.loc 185),(.loc 188),(.loc 192)])])) [.hole, .hole] [])]),
 (.ret (some (.loc 185)))]⟩
def bq:Fn:=⟨[185],
 [(.asg (.loc 84) Ey),
 (.asg (.loc 134) (.sub (.loc 185) (aF [109]))),
 (.for (.loc 203) (.range [bH,(.len Ai)]) [(.asg (.loc 188) (.sub Ai (.loc 203))),(.asg (.loc 101) (.sub (.attr (.loc 84) 90) (.sub Eg (.loc 203)))),(.asg (.loc 123) (.sub (.attr (.attr (.loc 134) 122) 110) (.sub Aj (.loc 203)))),(.ite (.or [(.cmp (.attr (.loc 123) 87) [.ne] [(.sub ny (.loc 188))]),(.cmp (.attr (.loc 101) 87) [.ne] [(.ite (.cmp (.loc 203) [.eq] [(aV 3)]) (.neg bH) (.sub ny (.loc 188)))])]) [.hole] []),(.ite (.cmp (.loc 203) [.lt] [(aV 4)]) [(.ite (.or [(.cmp (.attr (.loc 101) 88) [.ne] [(.list 55 [])]),(.cmp (.attr (.loc 123) 88) [.ne] [(.list 56 [(.ite (.cmp (.loc 188) [.eq] [(aF [116])]) (.tup [(aV 8),(aF [])]) (.tup [(aV 4),ba]))])])]) [.hole] [])] [(.ite (.cmp (.attr (.loc 101) 88) [.ne] [(.list 57 [(.call 196 [(.loc 185),(.loc 188),KQ])])]) [.hole] [(.ite (.cmp (.attr (.loc 123) 88) [.ne] [(.list 58 [(.call 197 [(.loc 185),(.loc 188),KQ])])]) [.hole] [])])])]),
 (.for (.tup [128,188,63]) (.over (.sub (.loc 185) (aF [99,101,108,108,115]))) [(.ite (.or [(.cmp (.attr (.sub (.attr (.attr (.loc 134) 122) 110) (.loc 128)) 87) [.ne] [(.sub ny (.loc 188))]),(.cmp (.attr (.sub (.attr (.attr (.loc 134) 122) 110) (.loc 128)) 88) [.ne] [(.list 59 [(.call 197 [(.loc 185),(.loc 188),(.loc 63)])])])]) [.hole] [])]),
 (.ite (.cmp (.len (.attr (.attr (.loc 134) 122) 90)) [.ne] [(.bin .add (.bin .sub (.len Aj) bH) (.len (.sub (.loc 185) (aF [99,101,108,108,115]))))]) [.hole] []),
 (.ret (some (.cmp (.len (.attr (.loc 84) 90)) [.eq] [(.len Eg)])))]⟩
def wW:Fn:=⟨[236],
 [(.asg (.loc 236) (.slice 60 (.loc 236) none (some (aV 40)))),
 (.asg (.loc 185) (.call 235 [(.loc 236)])),
 (.ite (.cmp (.sub (.loc 185) (aF [97,116])) [.lt] [ba]) [.hole] []),
 (.for (.loc 248) (.range [(.bin .add (aV 3) (.bin .fdiv (.len (.loc 236)) (aV 3)))]) [(.ite (.not (.call 228 [(.loc 185)])) [.hole] [])]),
 (.ret (some (.call 246 [(.loc 185)])))]⟩
noncomputable def kA:Fn:=⟨[250,208,110],
 [(sb 208),
 (sb 110)]⟩
def kE:Fn:=⟨[250],
 [(sa 140 (.list 61 [])),
 (sa 256 (.dict 62 [] [])),
 (sa 257 (.list 63 [])),
 (sa 258 (.list 64 [])),
 (sa 259 (.list 65 [])),
 (.for (.loc 89) (.range [(.glb 159)]) [(.asg (.loc 5) (.tup [(.glb 14),(.loc 89)])),(.expr (.meth (.attr (.loc 250) 140) 1 [(.loc 5)])),(.asg (.sub (.attr (.loc 250) 256) (.loc 5)) (.loc 89)),(.expr (.meth (.attr (.loc 250) 257) 1 [bH])),(.expr (.meth (.attr (.loc 250) 258) 1 [bH])),(.expr (.meth (.attr (.loc 250) 259) 1 [ba]))])]⟩
def lj:Fn:=⟨[250,23],
 [(.ite (.or [(.cmp (.loc 23) [.lt] [ba]),(.cmp (.loc 23) [.ge] [(.len (.attr (.loc 250) 140))])]) [.hole] []),
 (.ret (some (.sub (.attr (.loc 250) 140) (.loc 23))))]⟩
def ll:Fn:=⟨[250,5],
 [(.asg (.loc 142) (.meth (.attr (.loc 250) 256) 3 [(.loc 5),(.neg bH)])),
 (.ite (.cmp (.loc 142) [.ge] [ba]) [.hole] []),
 (.expr (.call 12 [(.loc 250),(.loc 5)])),
 (.asg (.loc 263) bH),
 (.asg (.loc 264) bH),
 (.asg (.loc 265) ba),
 (.ite (.or [(.cmp (.sub (.loc 5) ba) [.eq] [(.glb 26)]),(.cmp (.sub (.loc 5) ba) [.eq] [(.glb 27)])]) [.hole] []),
 (.asg (.loc 266) (.call 9 [(.sub (.loc 5) ba)])),
 (.for (.loc 16) (.over (.call 4 [(.loc 5)])) [(.ite (.cmp (.bin .add (.sub (.attr (.loc 250) 257) (.loc 16)) (.loc 266)) [.gt] [(.loc 263)]) [(.asg (.loc 263) (.bin .add (.sub (.attr (.loc 250) 257) (.loc 16)) (.loc 266)))] []),(.augN 264 .add (.sub (.attr (.loc 250) 258) (.loc 16))),(.ite (.cmp (.sub (.attr (.loc 250) 259) (.loc 16)) [.eq] [bH]) [.hole] [])]),
 (.ite (.cmp (.loc 263) [.gt] [(.glb 267)]) [.hole] []),
 (.ite (.cmp (.loc 264) [.gt] [(.glb 268)]) [.hole] []),
 (.asg (.loc 23) (.len (.attr (.loc 250) 140))),
 (.expr (.meth (.attr (.loc 250) 140) 1 [(.loc 5)])),
 (.asg (.sub (.attr (.loc 250) 256) (.loc 5)) (.loc 23)),
 (.expr (.meth (.attr (.loc 250) 257) 1 [(.loc 263)])),
 (.expr (.meth (.attr (.loc 250) 258) 1 [(.loc 264)])),
 (.expr (.meth (.attr (.loc 250) 259) 1 [(.loc 265)])),
 (.ret (some (.loc 23)))]⟩
def m9:Fn:=⟨[250,37,188,6,270,271,272,273],
 [(sb 37),
 (sb 188),
 (sb 6),
 (sb 270),
 (sb 271),
 (sa 274 (.list 66 [])),
 (sa 272 (.list 67 [])),
 (sa 275 (.list 68 [])),
 (sa 276 (.list 69 [])),
 (.for (.loc 277) (.over (.loc 272)) [.hole, .hole, .hole]),
 (sa 278 (.list 70 [])),
 (sa 279 (.list 71 [])),
 (sb 273),
 (sa 280 ba),
 (sa 47 (.neg bH)),
 (sa 281 (.list 72 [])),
 (sa 282 (.list 73 [])),
 (sa 283 (.list 74 [])),
 (sa 284 ba),
 (sa 285 ba)]⟩
def qJ:Fn:=⟨[250],
 [(sa 13 (.new 261 75 [])),
 (sa 38 (.list 76 [(.k .none)])),
 (sa 287 (.list 77 [(.k .none)])),
 (sa 279 (.list 78 [(.k .none)])),
 (sa 288 (.dict 79 [] [])),
 (sa 289 (.list 80 [])),
 (sa 290 ba)]⟩
def tH:Fn:=⟨[250,89,87,88],
 [(sb 89),
 (sb 87),
 (sb 88),
 (sa 93 (.k .none)),
 (sa 140 (.list 81 [])),
 (sa 292 ba),
 (sa 102 (.k .none))]⟩
noncomputable def nb:Fn:=⟨[250,103],
 [(sb 103)]⟩
noncomputable def qP:Fn:=⟨[250,140],
 [(sb 140)]⟩
def tD:Fn:=⟨[250,299,300],
 [(sb 299),
 (sa 36 (.attr (.loc 299) 36)),
 (sa 13 (.attr (.attr (.loc 299) 36) 13)),
 (sa 90 (.list 82 [(.k .none)])),
 (sa 301 ba),
 (sb 300),
 (sa 263 ba),
 (sa 302 ba),
 (sa 303 (.list 83 [])),
 (sa 127 ba),
 (sa 304 (.dict 84 [] [])),
 (sa 244 (.dict 85 [] [])),
 (sa 305 (.new 297 86 [(.dict 87 [] [])])),
 (sa 306 (.dict 88 [] [])),
 (sa 307 (.dict 89 [] [])),
 (sa 308 (.dict 90 [] [])),
 (sa 309 (.dict 91 [] [])),
 (sa 310 (.dict 92 [] [])),
 (sa 311 (.dict 93 [] [])),
 (sa 312 (.dict 94 [] [])),
 (sa 313 (.dict 95 [] [])),
 (sa 314 (.new 294 96 [])),
 (sa 315 (.new 295 97 [])),
 (sa 316 (.k .none))]⟩
noncomputable def tA:Fn:=⟨[250,201,23],
 [(.ret (some (.or [(.cmp (.loc 201) [.eq] [(.loc 23)]),(.cmp (.loc 23) [.eq] [(.glb 66)]),(.cmp (.tup [(.loc 201),(.loc 23)]) [.isIn] [(.attr (.loc 250) 244)])])))]⟩
def qL:Fn:=⟨[250,23],
 [(.ret (some (.loc 23)))]⟩
def qK:Fn:=⟨[250,37,93],
 [(.raise 206 98 [(aF [101,114,114,111,114]),(.loc 37)])]⟩
def qH:Fn:=⟨[250,128,87,88],
 [(sb 128),
 (sb 87),
 (sb 88),
 (sa 321 ba),
 (sa 129 (.call 117 [(.len (.loc 88))])),
 (sa 127 ba)]⟩
def tI:Fn:=⟨[250,323,324],
 [(sa 90 (.list 99 [])),
 (sa 110 (.dict 100 [] [])),
 (sa 125 (.glb 325)),
 (sb 323),
 (sa 326 (.dict 101 [] [])),
 (sb 324),
 (sa 130 ba),
 (sa 327 (.bin .add (.bin .fdiv (.loc 323) (aV 4)) bH)),
 (sa 328 (.list 102 [])),
 (sa 329 (.list 103 [])),
 (sa 330 ba),
 (sa 126 ba)]⟩
noncomputable def kB:Fn:=⟨[250,122,332,333],
 [(sb 122),
 (sb 332),
 (sb 333)]⟩
def qM:Fn:=⟨[250,89,336,337,20,6],
 [(sb 89),
 (sb 336),
 (sb 337),
 (sa 338 ba),
 (sb 20),
 (sa 339 (.list 104 [])),
 (sa 147 (.list 105 [])),
 (sa 340 (.list 106 [])),
 (sa 341 (.list 107 [])),
 (sa 342 (.list 108 [])),
 (sa 343 (.list 109 [])),
 (sb 6),
 (sa 285 (.loc 89)),
 (sa 344 ba),
 (sa 345 (.neg bH))]⟩
def jW:Fn:=⟨[250,134,146,23],
 [(.ret (some (.loc 23)))]⟩
noncomputable def tz:Fn:=⟨[250,36,122],
 [(sb 36),
 (sa 13 (.attr (.loc 36) 13)),
 (sb 122),
 (sa 244 (.dict 110 [] [])),
 (sa 140 (.dict 111 [] [])),
 (sa 308 (.dict 112 [] [])),
 (sa 143 (.dict 113 [] [])),
 (sa 234 (.dict 114 [] [])),
 (sa 332 (.list 115 [])),
 (sa 351 (.dict 116 [] [])),
 (sa 333 (.dict 117 [] [])),
 (sa 352 (.dict 118 [] [])),
 (sa 173 (.dict 119 [] [])),
 (sa 135 (.glb 136)),
 (sa 212 (.list 120 [])),
 (sa 137 (.list 121 [])),
 (sa 305 (.list 122 [])),
 (sa 353 (.list 123 [])),
 (sa 307 (.new 334 124 [(.loc 122),(.attr (.loc 250) 351),(.attr (.loc 250) 333)])),
 (sa 354 (.new 347 125 [])),
 (sa 355 (.new 349 126 []))]⟩
def ty:Fn:=⟨[250,201,23],
 [(.ret (some (.or [(.cmp (.loc 201) [.eq] [(.loc 23)]),(.cmp (.loc 23) [.eq] [(.glb 66)]),(.cmp (.tup [(.loc 201),(.loc 23)]) [.isIn] [(.attr (.loc 250) 244)])])))]⟩
def lh:Fn:=⟨[250,23],
 [(.ret (some (.sub (.call 139 [(.loc 250),(.loc 23)]) ba)))]⟩
def li:Fn:=⟨[250,23],
 [(.ret (some (.sub (.call 139 [(.loc 250),(.loc 23)]) bH)))]⟩
def na:Fn:=⟨[250,23],
 [(.ret (some (.call 141 [(.loc 250),(.loc 23)])))]⟩
noncomputable def qD:Fn:=⟨[250,23],
 [(.ret (some (.meth (.attr (.loc 250) 234) 3 [(.loc 23),(.loc 23)])))]⟩
noncomputable def nN:Fn:=⟨[250,146,23],
 [(.ret (some (.meth (.attr (.loc 250) 355) 87 [(.loc 250),(.loc 146),(.loc 23)])))]⟩
noncomputable def qF:Fn:=⟨[250,87,118],
 [(.ret (some (.call 121 [(.attr (.loc 250) 122),(.loc 87),(.call 150 [(.loc 250),(.loc 87),(.loc 118)])])))]⟩
noncomputable def vV:Fn:=⟨[250,146],
 [(.ret (some (.call 145 [(.loc 250),(.loc 146)])))]⟩
noncomputable def kz:Fn:=⟨[250,37,93],
 [(.ret (some (.call 133 [(.loc 250),(.loc 37)])))]⟩
def tE:Fn:=⟨[250,134,146,367],
 [(.ite (.cmp (.len lO) [.eq] [ba]) [.hole] []),
 (.ret (some (.call 160 [(.loc 134),(.loc 146),(.bin .sub (.len lO) bH),(.meth (.loc 134) 362 [(.loc 146),(.loc 367)])])))]⟩
def nO:Fn:=⟨[250,134,146,367],
 [(.asg (.loc 23) (.meth (.loc 134) 362 [(.loc 146),(.loc 367)])),
 (.ite (.cmp (.len lO) [.eq] [ba]) [.hole] []),
 (.ite (.not (.call 31 [wv,(.loc 23)])) [.hole] []),
 (.ite (.call 158 [wv,(.loc 23)]) [(.ret (some (.call 171 [(.loc 134),(.loc 146),(.loc 23)])))] []),
 (.asg (.loc 123) (.call 167 [(.loc 134),(.meth (.loc 134) 2 [(.loc 146)]),(.loc 23)])),
 (.ite (.cmp (.loc 123) [.is] [(.k .none)]) [(.ret (some (.glb 138)))] []),
 (.expr (.meth lO 1 [(.tup [(.glb 73),(.call 131 [(.loc 123),ba])])])),
 (.ret (some (.glb 161)))]⟩
def kC:Fn:=⟨[250,134,146,367],
 [(.asg (.loc 23) (.meth (.loc 134) 362 [(.loc 146),(.loc 367)])),
 (.ite (.not (.call 31 [wv,(.loc 23)])) [(.ret (some (.call 183 [(.loc 134),(.loc 146),(.loc 23)])))] []),
 (.asg (.loc 63) (.meth (.loc 134) 2 [(.loc 146)])),
 (.ite (.call 158 [wv,(.loc 23)]) [(.asg (.loc 170) (.call 169 [(.loc 134),(.loc 63),(.loc 23)])),(.ite (.cmp (.loc 170) [.is] [(.k .none)]) [(.ret (some (.glb 138)))] []),(.expr (.meth lO 1 [(.loc 170)])),(.ret (some (.glb 161)))] []),
 (.asg (.loc 123) (.call 167 [(.loc 134),(.loc 63),(.loc 23)])),
 (.ite (.cmp (.loc 123) [.is] [(.k .none)]) [(.ret (some (.glb 138)))] []),
 (.expr (.meth lO 1 [(.sub (.attr (.loc 123) 88) ba)])),
 (.ret (some (.glb 161)))]⟩
def R0:Tr Fn:=(.n (.n (.n (.n (.n (.n (.f 320 qH) (.n (.f 160 DV) (.n (.f 96 lm) (.f 224 zK)))) (.n .e (.n (.f 48 ln) (.n (.n (.f 112 ud) (.f 368 nO)) .e)))) (.n (.n (.n .e (.n (.f 72 Kr) (.f 200 wj))) (.n (.f 296 qP) (.f 360 qD))) (.n (.f 216 wi) (.n (.n (.f 56 DU) (.f 184 zJ)) .e)))) (.n (.n (.n (.n (.n (.n (.f 4 nT) (.f 260 lj)) .e) (.f 196 qZ)) (.n .e (.n (.f 356 ty) (.f 228 ja)))) (.n (.f 148 DR) (.f 116 kF))) (.n (.n (.n (.f 12 kH) (.f 204 rc)) (.n (.n (.f 44 qW) (.f 172 iB)) (.f 364 vV))) (.n (.n (.f 28 uc) (.n (.n (.f 92 tM) (.f 348 jW)) (.f 220 tZ))) .e)))) (.n (.n (.n (.n (.f 322 tI) (.f 34 DT)) .e) (.n (.n (.f 202 ua) (.n (.n (.n (.f 42 DO) (.f 298 tD)) .e) (.f 106 nj))) .e)) (.n (.n (.n (.f 262 ll) (.n .e (.n (.f 358 li) (.f 230 ub)))) (.n (.n (.n (.f 22 tQ) (.f 150 nV)) (.f 86 wf)) (.n (.f 182 Gw) (.f 246 bq)))) (.n (.f 366 tE) (.n (.n (.n (.n (.f 30 zN) (.f 286 qJ)) (.f 158 nU)) (.n (.f 350 tz) (.f 222 lp))) (.n (.n (.n (.f 62 wd) (.f 318 qL)) (.f 190 wg)) .e)))))) (.n (.n (.n (.n (.f 65 DQ) (.n (.n (.n (.f 17 nW) (.f 145 tO)) (.f 209 DS)) (.n .e (.n (.n (.f 113 nP) (.f 369 kC)) .e)))) (.n (.n (.f 9 tN) (.n (.f 169 nQ) (.f 361 nN))) (.n .e (.n .e (.n (.f 121 re) (.f 249 kA)))))) (.n (.n (.n (.n (.f 133 nR) (.n (.f 69 qU) (.f 197 qX))) (.n (.f 293 nb) (.f 357 lh))) (.n (.f 213 zI) (.f 117 tL))) (.n (.n (.n (.n (.f 269 m9) (.f 141 ni)) (.f 205 tX)) (.f 365 kz)) (.n (.n (.n (.f 29 DP) (.f 157 wc)) (.f 221 tR)) (.n (.n (.f 317 tA) (.f 189 tY)) .e))))) (.n (.n (.n (.n (.f 131 rd) (.n (.n (.n (.f 35 zH) (.f 291 tH)) .e) (.f 99 zM))) (.n (.n (.f 19 rf) (.f 83 nS)) .e)) (.n (.n (.n (.n (.f 11 qV) (.f 139 wb)) (.n (.n (.f 75 we) (.f 331 kB)) .e)) (.n (.n (.f 43 DN) (.f 171 qQ)) (.n (.f 363 qF) (.f 235 bO)))) (.n (.f 155 qR) (.f 187 q0)))) (.n (.n (.n .e (.n (.n (.f 39 tJ) (.f 167 nX)) (.n (.f 359 na) (.f 231 tV)))) (.n .e (.n (.f 183 wl) (.f 247 wW)))) (.n (.f 335 qM) (.n (.f 31 wk) (.n (.n (.f 319 qK) (.f 191 tU)) (.f 255 kE))))))))
noncomputable def J7:Tr Nat:=(.n (.n (.n (.n (.f 122000 360) (.f 122008 359)) (.n (.f 122980 318) (.f 121948 365))) (.n (.n (.f 121858 364) (.n (.f 122218 361) (.f 122010 358))) (.f 122022 363))) (.n (.n (.n .e (.n (.n .e (.n .e (.n (.n (.n (.n (.f 122985 317) (.f 121961 356)) .e) .e) .e))) .e)) (.f 133637 260)) (.n (.n (.n (.f 122019 357) (.n (.n .e (.n .e (.n (.n .e (.n (.f 90835 368) (.n (.f 91859 369) (.f 89811 366)))) .e))) .e)) (.f 133851 262)) (.n (.f 178775 348) (.f 122975 319)))))
noncomputable def Kl:Tr (Option Nat):=(.n (.n (.n (.f 240 (some 298)) (.n .e (.n .e (.n .e (.n .e (.n (.f 124 (some 320)) (.f 252 (some 249)))))))) (.n (.f 346 (none)) (.n (.f 294 (none)) (.n (.n (.n .e (.n (.f 334 (some 331)) (.f 206 (some 249)))) (.f 238 (some 350))) (.f 254 (some 249)))))) (.n (.n (.n (.n .e (.n .e (.n (.f 177 (none)) (.f 241 (some 335))))) (.n (.n .e (.n (.f 297 (some 296)) (.f 233 (some 269)))) .e)) (.n (.n (.f 261 (some 255)) (.n .e (.n (.f 181 (none)) (.f 245 (some 293))))) (.n (.f 237 (some 286)) (.n (.f 349 (none)) (.f 253 (some 249)))))) (.n (.n (.f 179 (none)) (.n .e (.n (.n .e (.n (.n (.f 91 (some 291)) (.f 347 (none))) .e)) (.f 251 (some 249))))) (.n (.f 295 (none)) (.n (.n .e (.n (.f 175 (none)) (.f 239 (some 322)))) .e)))))
noncomputable def GF:Tr V:=(.n (.n (.n (.n (.n (.n (.f 384 (.int 3)) (.f 32 (.int 1))) (.f 176 (.int 121))) (.n (.n (.n (.n (.f 8 (.int 3)) (.f 136 (.int 0))) .e) (.n (.f 168 (.str [83,112,101,99,105,102,105,101,100,32,99,97,115,116,32,105,115,32,110,111,116,32,118,97,108,105,100,46])) (.f 232 (.int 2)))) (.n (.f 24 (.int 0)) (.n .e (.n (.n (.f 120 (.int 3)) (.f 376 (.int 5))) .e))))) (.n (.n (.n (.n (.f 132 (.int 3)) (.f 68 (.int 4))) (.f 164 (.int 6))) (.n .e (.n (.n (.f 52 (.int 10)) (.f 180 (.int 208))) (.f 372 (.int 1))))) (.n (.f 268 (.int 4096)) (.n (.f 156 (.str [79,98,106,101,99,116,32,114,101,102,101,114,101,110,99,101,32,110,111,116,32,115,101,116,32,116,111,32,97,110,32,105,110,115,116,97,110,99,101,32,111,102,32,97,110,32,111,98,106,101,99,116,46])) (.n (.f 60 (.int 3)) (.f 380 (.int 0))))))) (.n (.n (.n (.n (.f 66 (.int 12)) (.n (.f 162 (.tup [(.int 0),(.int 0)])) (.n (.f 98 (.str [79,98,106,101,99,116,32,114,101,102,101,114,101,110,99,101,32,110,111,116,32,115,101,116,32,116,111,32,97,110,32,105,110,115,116,97,110,99,101,32,111,102,32,97,110,32,111,98,106,101,99,116,46])) (.f 226 (.tup [(.str [105,52]),(.str [101]),(.str [117,52]),(.str [102]),(.str [115]),(.str [103]),(.str [104]),(.str [63,105,52]),(.str [63,101]),(.str [63,115]),(.str [63,117,49]),(.str [63,104]),(.str [111]),(.str [97]),(.str [105]),(.str [116]),(.str [98,111,111,108]),(.str [117,49]),(.str [105,49]),(.str [99,104,97,114]),(.str [117,50]),(.str [105,50]),(.str [105,56]),(.str [117,56]),(.str [110,105,110,116])]))))) (.n (.f 18 (.glob 18)) (.n (.n (.f 50 (.int 1)) (.f 178 (.int 165))) (.n (.n (.f 114 (.int 23)) (.f 370 (.int 1))) .e)))) (.n (.n (.n (.n (.f 10 (.int 4)) (.f 138 (.int (-2)))) (.f 74 (.int (-1)))) .e) (.n (.f 26 (.int 6)) (.n (.n (.f 58 (.int 2)) (.f 186 (.tup [(.int 0),(.int 2),(.int 8),(.int 1),(.int 10),(.int 8),(.int 6),(.int 2),(.int 8),(.int 31)]))) (.f 378 (.int 10)))))) (.n (.n (.f 70 (.int 8)) (.n .e (.n (.f 54 (.int 3)) (.f 374 (.int 5))))) (.n (.n (.f 14 (.int 1)) (.n (.n (.f 46 (.int 5)) (.f 174 (.int 140))) .e)) (.f 382 (.int 3)))))) (.n (.n (.n (.n (.n (.f 385 (.glob 385)) (.n (.n (.f 33 (.int 11)) (.f 161 (.int (-1)))) (.f 97 (.int 21)))) (.f 49 (.int 8))) (.n (.f 73 (.int 6)) (.n (.f 25 (.int 14)) (.n (.f 57 (.int 4)) (.f 377 (.int 9)))))) (.n (.n (.n (.f 325 (.int 16)) (.f 165 (.int 7))) (.n (.f 85 (.int 8)) (.n (.f 53 (.int 2)) (.f 373 (.int 2))))) (.n .e (.n .e (.n (.f 61 (.int 5)) (.f 381 (.int 7))))))) (.n (.n (.n (.n (.n .e (.n (.f 67 (.int 13)) (.f 195 (.tup [(.int 0),(.int 1),(.int (-1)),(.int 7),(.int 127),(.int 128),(.int 255),(.int 256),(.int 32767),(.int 32768),(.int 65535),(.int 2147483647),(.int 2147483648),(.int 4294967295),(.int 9223372036854775807),(.int 9223372036854775808)])))) .e) (.n .e (.n (.f 51 (.int 9)) (.n (.n (.f 115 (.str [83,112,101,99,105,102,105,101,100,32,99,97,115,116,32,105,115,32,110,111,116,32,118,97,108,105,100,46])) (.f 371 (.int 12))) (.f 243 (.tup [(.str [105,52]),(.str [117,49]),(.str [105,56]),(.str [117,52]),(.str [117,50]),(.str [105,49]),(.str [117,56]),(.str [105,50])])))))) (.n (.f 267 (.int 24)) (.n (.f 27 (.int 7)) (.n (.f 59 (.int 6)) (.f 379 (.int 5)))))) (.n (.n (.n (.n (.f 7 (.int 2)) (.f 71 (.int 5))) .e) (.n (.f 151 (.int 8)) (.n (.f 55 (.tup [(.int 4),(.int 0)])) (.n (.n (.f 119 (.int 2)) (.f 375 (.int 7))) .e)))) (.n (.f 15 (.int 11)) (.n (.f 159 (.int 16)) (.f 383 (.int 870))))))))
noncomputable def jK:List (Nat×List Int):= [(385, [0,1,2,3,4,5,6,7,8,9,10,11,12,13]),(18, [20,9,10,11,12,13,14,15,16,17,18,19,1,4])]
noncomputable def N8:Tr Unit:=(.n (.n (.f 252 ()) (.n (.f 386 ()) (.n .e (.n (.f 206 ()) (.f 254 ()))))) (.n (.f 253 ()) (.n (.n (.f 387 ()) (.f 251 ())) .e)))
def pt:PT where
 fn f:=R0.get f
 meth c x:=J7.get (c*512+x)
 init c:=Kl.get c
 const x:=GF.get x
 table g:=aN g jK
 isExc c:=(N8.get c).isSome
end Mine
end
section
namespace Mine
open PySem PySem.W PyProof.Rows PySem.Calls
inductive NT where
 |leaf(s:String)|node(l r:NT)
def NT.get:NT->Nat->String
 | .leaf s,_=>s
 | .node l r,i=>match Nat.beq (i%2) 0 with|true=>l.get (i/2)|false=>r.get (i/2)
noncomputable def tP (a b:String):NT:= .node (.leaf a) (.leaf b)
def Lv:NT:=(.node (.node (.node (.node (.node (.node (.node (.node (tP "?none" "index") (tP "addr" "ST_WRONG")) (.node (tP "tag" "Thing.__init__") (tP "z" "?448"))) (.node (.node (tP "BOOL" "names") (tP "box_at" "?416")) (.node (tP "throw_nothing" "inits") (tP "_law_aim" "?480")))) (.node (.node (.node (tP "inner" "params") (tP "plain" "?400")) (.node (tP "slot" "mref") (tP "code" "?464"))) (.node (.node (tP "plain_default" "texts") (tP "OP_UNBOX" "?432")) (.node (tP "box_value" "OpUnbox.run") (tP "Plot" "?496"))))) (.node (.node (.node (.node (tP "R_VALUE" "weight") (tP "ST_RUN" "?392")) (.node (tP "fits" "finals") (tP "_law_goes" "?456"))) (.node (.node (tP "n" "Calls.__init__") (tP "TEXT_CAST" "?424")) (.node (tP "one" "Tray.plain") (tP "S_STRUCT" "?488")))) (.node (.node (.node (tP "VOID" "cctor") (tP "default" "?408")) (.node (tP "slots" "extra") (tP "_law_open" "?472"))) (.node (.node (tP "cut_to" "cuts") (tP "_law_any" "?440")) (.node (tP "LEAST_SIZE" "R_BYREF") (tP "turn" "?504")))))) (.node (.node (.node (.node (.node (tP "inner_kinds" "KindTable.row") (tP "PL_HEAP" "?388")) (.node (tP "V_REF" "card_bits") (tP "_law_source" "?452"))) (.node (.node (tP "store" "version") (tP "CF_HASVALUE" "?420")) (.node (tP "asked" "Tray.is_a") (tP "_law_deed" "?484")))) (.node (.node (.node (tP "args" "bounds") (tP "stored" "?404")) (.node (tP "ev" "conts") (tP "told" "?468"))) (.node (.node (tP "U8" "targets") (tP "OP_LDTOKEN" "?436")) (.node (tP "from_reference" "W_SLOT") (tP "kin" "?500"))))) (.node (.node (.node (.node (tP "check_kind_row" "HEAVIEST_KIND") (tP "rows" "?396")) (.node (tP "path" "frames") (tP "_law_boxing" "?460"))) (.node (.node (tP "plain_kind" "most") (tP "install_m_objects" "?428")) (.node (tP "step" "Tray.pop") (tP "script" "?492")))) (.node (.node (.node (tP "kind_sort" "finaliser") (tP "TEXT_NULL" "?412")) (.node (tP "throw_new" "KindCloser.kind") (tP "_law_place" "?476"))) (.node (.node (tP "I1" "blocks") (tP "name" "?444")) (.node (tP "Thing" "VA_NONE") (tP "BadKind" "?508"))))))) (.node (.node (.node (.node (.node (.node (tP "pop" "weights") (tP "fresh" "Thrown")) (.node (tP "OBJECT" "Heap.__init__") (tP "many" "?450"))) (.node (.node (tP "is_int" "entry") (tP "LOST" "?418")) (.node (tP "SAY_NULL" "starter") (tP "_law_NAMES" "?482")))) (.node (.node (.node (tP "TID_PRIM" "ifaces") (tP "f" "?402")) (.node (tP "outer" "ip") (tP "jump" "?466"))) (.node (.node (tP "V_I4" "exprs") (tP "OP_UNBOX_ANY" "?434")) (.node (tP "T_CAST" "LF_NOTYPE") (tP "head" "?498"))))) (.node (.node (.node (.node (tP "R_ARRAY" "level") (tP "JP_STAY" "?394")) (.node (tP "NO_TAG" "moved") (tP "_law_meant" "?458"))) (.node (.node (tP "wrap32" "Plot.__init__") (tP "maybe" "?426")) (.node (tP "put_value_at" "closed") (tP "unders" "?490")))) (.node (.node (.node (tP "R_VAR" "props") (tP "kinds_of" "?410")) (.node (tP "things" "Op") (tP "got" "?474"))) (.node (.node (tP "CHAR" "splits") (tP "_law_FIRST" "?442")) (.node (tP "heap" "R_FTN") (tP "self" "?506")))))) (.node (.node (.node (.node (.node (tP "sort" "KindTable.put") (tP "m" "?390")) (.node (tP "R_BOXED" "cards") (tP "flag" "?454"))) (.node (.node (tP "types" "Splits") (tP "alloc" "?422")) (.node (tP "special" "Tray.kinds_of") (tP "_law_kinds" "?486")))) (.node (.node (.node (tP "may_stand" "fields") (tP "first_slots" "?406")) (.node (tP "new_item" "caughtv") (tP "source" "?470"))) (.node (.node (tP "V_NINT" "core") (tP "is_of" "?438")) (.node (tP "count" "W_KIND") (tP "_law_settled" "?502"))))) (.node (.node (.node (.node (tP "R_PRIM" "flags") (tP "found" "?398")) (.node (tP "way" "PlaceHost") (tP "LeftOut" "?462"))) (.node (.node (tP "S_ENUM" "nested") (tP "OP_BOX" "?430")) (.node (tP "at" "OpBox.run") (tP "Tray" "?494")))) (.node (.node (.node (tP "args_of" "Store.__init__") (tP "holds_maybe" "?414")) (.node (tP "throw_item" "Tray.__init__") (tP "_law_reference" "?478"))) (.node (.node (tP "store_as" "Plot.asked") (tP "_law_span" "?446")) (.node (tP "made" "S_BLOCK") (tP "RunBound" "?510")))))))) (.node (.node (.node (.node (.node (.node (.node (tP "append" "depths") (tP "size" "PRIM_TID")) (.node (tP "tag_of" "gen") (tP "low" "?449"))) (.node (.node (tP "NINT" "asms") (tP "JP_FALL" "?417")) (.node (tP "T_NULLREF" "held") (tP "y" "?481")))) (.node (.node (.node (tP "check_named" "asm") (tP "pop_value" "?401")) (.node (tP "place" "body") (tP "_law_op" "?465"))) (.node (.node (tP "U4" "calls") (tP "OpUnbox" "?433")) (.node (tP "unbox_value" "OpUnboxAny.run") (tP "Frame" "?497"))))) (.node (.node (.node (.node (tP "row_level" "opened") (tP "thrown" "?393")) (.node (tP "V_PLACE" "ready") (tP "exact" "?457"))) (.node (.node (tP "bits" "Calls") (tP "nullable_of" "?425")) (.node (tP "is_a" "Tray.closed") (tP "TypeDef" "?489")))) (.node (.node (.node (tP "NULLK" "impls") (tP "out" "?409")) (.node (tP "number" "prefix") (tP "due" "?473"))) (.node (.node (tP "U1" "cut_bodies") (tP "w" "?441")) (.node (tP "heap_alloc" "R_ROREF") (tP "RuneError.__init__" "?505")))))) (.node (.node (.node (.node (.node (tP "row" "KindTable") (tP "note_thrown" "?389")) (.node (tP "tag_of_row" "FIRST_ADDRESS") (tP "_law_tagged" "?453"))) (.node (.node (tP "tid" "Special.__init__") (tP "CF_VALUE" "?421")) (.node (tP "item" "Tray.slots_of") (tP "o" "?485")))) (.node (.node (.node (tP "arg" "word") (tP "slot_kind" "?405")) (.node (tP "T_NULLABLE" "caught") (tP "_law_box" "?469"))) (.node (.node (tP "V_I8" "stmts") (tP "OpToken" "?437")) (.node (tP "words_for" "W_EMPTY") (tP "Special" "?501"))))) (.node (.node (.node (.node (tP "kt" "TypeDef.__init__") (tP "told_default" "?397")) (.node (tP "new" "statics") (tP "_law_tried" "?461"))) (.node (.node (tP "t" "steps") (tP "ops" "?429")) (.node (tP "back" "Tray.throw_new") (tP "Store" "?493")))) (.node (.node (.node (tP "tid_of" "home") (tP "thing_of" "?413")) (.node (tP "text" "KindCloser") (tP "_law_write" "?477"))) (.node (.node (tP "I2" "Plot.is_a") (tP "_law_plain" "?445")) (.node (tP "top" "V_FTN") (tP "LoadFault" "?509"))))))) (.node (.node (.node (.node (.node (.node (tP "get" "opens") (tP "heap_place" "Unheld")) (.node (tP "STRING" "limit") (tP "_law_EDGES" "?451"))) (.node (.node (tP "type_of" "Item.__init__") (tP "slots_of" "?419")) (.node (tP "item_is" "closer") (tP "beside" "?483")))) (.node (.node (.node (tP "check_args" "variances") (tP "stack" "?403")) (.node (tP "is_question" "locals_") (tP "run" "?467"))) (.node (.node (tP "I8" "places") (tP "OpUnboxAny" "?435")) (.node (tP "SAY_CAST" "LF_ENUM") (tP "_law_UNDERS" "?499"))))) (.node (.node (.node (.node (tP "row_length" "DEEPEST_KIND") (tP "told_row" "?395")) (.node (tP "put_path" "PlaceHost.__init__") (tP "i" "?459"))) (.node (.node (tP "wrap64" "unit") (tP "unbox_cell" "?427")) (.node (tP "holder" "Tray.alloc") (tP "_law_world" "?491")))) (.node (.node (.node (tP "R_MVAR" "events") (tP "throw_null" "?411")) (.node (tP "Item" "Starter") (tP "put" "?475"))) (.node (.node (tP "U2" "begins") (tP "_law_refers" "?443")) (.node (tP "thing" "ARRAY_TID") (tP "RuneError" "?507")))))) (.node (.node (.node (.node (.node (tP "R_CLASS" "depth") (tP "state" "?391")) (.node (tP "V_STRUCT" "young_limit") (tP "content" "?455"))) (.node (.node (tP "wrap_bits" "Begins") (tP "boxed_thing" "?423")) (.node (tP "kinds" "Tray.default") (tP "_law_types" "?487")))) (.node (.node (.node (tP "k" "methods") (tP "V_TEXT" "?407")) (.node (tP "kind" "keep") (tP "tagged" "?471"))) (.node (.node (tP "NULLV" "starts") (tP "cast_top" "?439")) (.node (tP "HEAD_WORDS" "I4") (tP "law" "?503"))))) (.node (.node (.node (.node (tP "R_RAW" "base") (tP "defaults" "?399")) (.node (tP "at_slot" "Frame.__init__") (tP "left" "?463"))) (.node (.node (tP "under" "guards") (tP "OpBox" "?431")) (.node (tP "whole" "operand") (tP "Heap" "?495")))) (.node (.node (.node (tP "is_value" "fields_") (tP "PRIM_END" "?415")) (.node (tP "error" "by_number") (tP "x" "?479"))) (.node (.node (tP "value" "Plot.error") (tP "_law_value" "?447")) (.node (tP "serial" "MOST_NESTED") (tP "KindTable.__init__" "?511")))))))))
noncomputable def w7:List (Nat×Addr):= [(91,408),(124,826),(175,1212),(177,1252),(179,1271),(181,1290),(233,241),(237,262),(238,1114),(239,847),(240,604),(241,904),(245,436),(261,122),(294,478),(295,499),(297,527),(334,875),(347,960),(349,988),(206,87)]
def N6:List (Nat×Addr):= [(385,90),(18,91)]
noncomputable def r6:List (Nat×Addr):= [(4,133),(9,140),(11,147),(12,154),(17,161),(19,168),(22,175),(28,182),(29,196),(30,203),(31,210),(34,224),(35,273),(39,281),(42,288),(43,295),(44,302),(48,309),(56,316),(62,323),(65,330),(69,337),(72,344),(75,351),(83,657),(86,664),(92,699),(96,706),(99,748),(106,781),(112,788),(113,795),(116,802),(117,809),(121,858),(131,886),(133,1125),(139,1132),(141,1139),(145,1153),(148,1160),(150,1167),(155,1174),(157,1181),(158,1188),(160,1195),(167,1221),(169,1228),(171,1235),(172,1299),(182,1306),(183,1313),(184,1324),(187,1331),(189,1338),(190,1345),(191,1352),(196,1359),(197,1366),(200,1373),(202,1380),(204,1387),(205,1394),(209,1401),(213,1408),(216,1415),(220,1422),(221,1429),(222,1436),(224,1443),(228,1450),(230,1457),(231,1464),(235,1471),(246,1478),(247,1485),(249,35),(255,105),(260,112),(262,119),(269,238),(286,259),(291,405),(293,426),(296,517),(298,545),(317,552),(318,580),(319,587),(320,823),(322,844),(331,872),(335,901),(348,978),(350,1006),(356,1013),(357,1020),(358,1027),(359,1055),(360,1062),(361,1069),(363,1083),(364,1097),(365,1104),(366,1209),(368,1249),(369,1268),(94,713)]
noncomputable def MI:List Nat:= [6,13,36,38,47,87,88,90,102,103,110,122,125,126,128,129,130,135,137,140,143,147,173,208,212,234,244,256,257,258,259,333,351,355]
noncomputable def L5:List Nat:= [6,13,20,36,37,38,47,87,88,89,90,93,102,103,110,122,125,126,127,128,129,130,135,137,140,143,147,173,188,208,212,234,244,256,257,258,259,263,270,271,272,273,274,275,276,278,279,280,281,282,283,284,285,287,288,289,290,292,299,300,301,302,303,304,305,306,307,308,309,310,311,312,313,314,315,316,321,323,324,326,327,328,329,330,332,333,336,337,338,339,340,341,342,343,344,345,351,352,353,354,355]
noncomputable def HG:List Nat:= [1,2,3,5,87,92,95,100,105,144,152,154,163,166,211,219,362]
noncomputable def MD:List Nat:= [7,8,10,14,15,18,24,25,26,27,32,33,46,49,50,51,52,53,54,55,57,58,59,60,61,66,67,68,70,71,73,74,85,97,98,114,115,119,120,132,136,138,151,156,159,161,162,164,165,168,174,176,178,180,186,195,226,232,243,267,268,325]
noncomputable def T8:List Nat:= [4,9,11,12,17,19,22,28,29,30,31,34,35,39,42,43,44,48,56,62,65,69,72,75,83,86,92,94,96,99,106,112,113,116,117,121,131,133,139,141,145,148,150,155,157,158,160,167,169,171,172,182,183,184,187,189,190,191,196,197,200,202,204,205,209,213,216,220,221,222,224,228,230,231,235,246]
noncomputable def Mq:List Nat:= [91,124,175,177,179,181,233,237,238,239,240,241,245,261,294,295,297,334,347,349]
def R2:List Nat:= [206]
def rk(i:Nat):Str:=match Nat.blt i 512 with
 |true=>Str.ofString (Lv.get i)
 |false=>⟨#[i+2000000]⟩
def H3:List Nat->Nat
 | []=>0
 |c::r=>(H3 r)*2000000+c+1
def H2(s:Str):Nat:=H3 s.cps.toList
def mq:List Nat->Bool
 | []=>true
 |x::r=> !iN x r&&mq r
theorem xJ:∀{l:List Nat},x∈l->iN x l=true
 |y::r,h=>by
  simp only[iN,ZT];rcases YS.mp h with rfl|h
  ·exact .inl (by simp)
  ·exact .inr (xJ h)
theorem oJ:∀{l:List Nat},mq l=true->l.Nodup:=by
 intro l
 induction l with
 |nil=>intro _;exact .nil
 |cons x r ih=>
  intro h;simp only[mq,YW]at h;rw[Zc];exact⟨λhm=>(by rw[xJ hm]at h;exact nomatch h.1),ih h.2⟩
theorem v8{f:Nat->Nat}:∀{l:List Nat},(l.map f).Nodup->∀x∈l,∀y∈l,f x=f y->x=y:=by
 intro l
 induction l with
 |nil=>intros;contradiction
 |cons a l ih=>
  intro h x hx y hy e;rw[Y5,Zc]at h;rcases YS.mp hx with e1|IE<;>rcases YS.mp hy with e2|K2
  ·rw[e1,e2]
  ·exact absurd (Zj.mpr ⟨y,K2,by rw[<-e,e1]⟩) h.1
  ·exact absurd (Zj.mpr ⟨x,IE,by rw[e,e2]⟩) h.1
  ·exact ih h.2 x IE y K2 e
theorem ug:mq ((List.range 512).map λi=>H2 (Str.ofString (Lv.get i)))=true:=by decide+kernel
theorem zU:((List.range 512).map λi=>Nat.blt (H2 (Str.ofString (Lv.get i))) (2000000^60)&&(match(Str.ofString (Lv.get i)).cps.toList with| [c]=>Nat.blt c 2000000|_=>true)).all id=true:=by decide+kernel
theorem F4:∀x y,rk x=rk y->x=y:=by
 have low:∀i,i<512->∀j,¬j<512->Str.ofString (Lv.get i)≠⟨#[j+2000000]⟩:=by
  intro i hi j hj e;have h:=zU;rw[YO]at h;have:=h _ (Zj.mpr (al i (zbb.mpr hi) rfl));rw[id,YW]at this;rw[e]at this;have h2:=this.2;rw[zbv]at h2;exact zbs.mpr (zan ..) h2
 intro x y h;unfold rk at h;by_cases hx:x<512
 ·by_cases hy:y<512
  ·simp only[zbv.mpr hx,zbv.mpr hy]at h;exact v8 (oJ ug) x (zbb.mpr hx) y (zbb.mpr hy) (by rw[h])
  ·have e1:=zbv.mpr hx;have e2:Nat.blt y 512=false:=by rw[<-zaO];simpa using hy
   rw[e1,e2]at h;exact absurd h (low x hx y hy)
 ·by_cases hy:y<512
  ·have e1:=zbv.mpr hy;have e2:Nat.blt x 512=false:=by rw[<-zaO];simpa using hx
   rw[e1,e2]at h;exact absurd h.symm (low y hy x hx)
  ·have e1:Nat.blt x 512=false:=by rw[<-zaO];simpa using hx
   have e2:Nat.blt y 512=false:=by rw[<-zaO];simpa using hy
   rw[e1,e2]at h;simp only[Str.mk.injEq]at h;have:=YV Array.toList h;rw[List.cons.injEq]at this;exact Nat.add_right_cancel this.1
theorem ec(h:aN x l=some v):(x,v)∈l:=by
 induction l with
 |nil=>exact nt h
 |cons p r ih=>
  rw[EC]at h;refine cX (Nat.beq p.1 x) (λhy=>?_) λhy=>?_
  ·rw[hy]at h;(refine(si h) ▸?_;refine(YY hy) ▸?_);exact .head _
  ·rw[hy]at h;exact .tail _ (ih h)
def tb:Tb:=⟨MI,L5,HG,MD,T8,Mq,R2⟩
section
def Jf(c:Nat):Option Addr:=aN c w7
def La(f:Nat):Option Addr:=aN f r6
def Ps(g:Nat):Option Addr:=aN g N6
variable(P:PT)(nm:Nat->Str)(K:Frag)
def HV:Bool:=MI.all λx=>w7.all λp=>(P.meth p.1 x).isSome||Jc K p.2 (nm x)
def Hr:Bool:=L5.all λx=>w7.all λp=>(P.isExc p.1||L6 K p.2 (nm x))&&(!P.isExc p.1||(!jF p.1 x||qp K p.2 (nm x)))
def B5:Bool:=HG.all λx=>w7.all λp=>(P.meth p.1 x).all λf=>(La f).any λa=>plainGet K p.2 (nm x)&&(findIn K (.ref p.2) (nm x)==some (some (.ref a))&&(isFn K (.ref a)&&keepIn K (.ref a)))
def RZ(W:SW)(x:Nat):Bool:=(nsIn W.K mainGlobals (W.nm x)).any λo=>o.any λu=>(W.P.const x).any λv=>Lm W 40 v u
def MG:Bool:=T8.all λf=>(La f).any λa=>nsIn K mainGlobals (nm f)==some (some (.ref a))&&keepIn K (.ref a)
def Mz(Ca:Addr)(f:Nat):Bool:=(La f).any λa=>findIn K (.ref Ca) "__init__"==some (some (.ref a))&&typeIn K (.ref a)==some (.type "function")
def HE:Bool:=Mq.all λc=>(Jf c).any λCa=>nsIn K mainGlobals (nm c)==some (some (.ref Ca))&&(makesIn K Ca&&(keepIn K (.ref Ca)&&(P.init c).all λo=>match o with
 |none=>findIn K (.ref Ca) "__init__"==some (some (.builtin "object.__init__"))&& !P.isExc c
 |some f=>Mz K Ca f))
def HY(o:Obj)(c:ClassData):Obj:=excClassObj c.name c.qualname 87 c.ns c.bases (.ref (HX c.mro)::jp) c.hasDict c.slotNames c.subclasses c.abstract c.collection o.dict (o.slots.toList.head?.getD none) (o.slots.toList.tail.head?.getD none) (o.slots.toList.tail.tail.head?.getD none) (o.slots.toList.tail.tail.tail.head?.getD none) (o.slots.toList.tail.tail.tail.tail.tail.head?.getD none) "Exception.__new__"
def Ul:Data->ClassData
 | .cls c=>c
 |_=>default
def Pw:Data->FuncData
 | .func c=>c
 |_=>default
def Eo(a:Addr):Obj:=(K.lookup a).getD default
def HW:Bool:=nsIn K mainGlobals (nm 206)==some (some (.ref 87))&&(keepIn K (.ref 87)&&(P.init 206).any λo=>o.any λf=>Mz K 87 f)
def M3:Bool:=jK.all λp=>(Ps p.1).any λa=>yy K a p.2
def B4:Bool:=(nm gc=="append"&&(nm AH=="pop"&&nm AI=="get"))&&(nsIn K mainGlobals ("len":Str)==some none&&nsIn K mainGlobals ("range":Str)==some none)
def J0(sc:Scope):Bool:=sc.names.all λx=>match x.2 with
 | .cell=>false
 |_=>true
def SN:FuncBody->List Stmt
 | .stmts b=>b
 |_=> []
def MH(fn:Fn)(o:Obj)(d:FuncData):Obj:=⟨o.cls,o.dict, .func (fnOf d.name d.qualname ⟨[],d.params.args,none,d.params.kwonlyargs.take 0,d.params.kw_defaults,none,d.params.defaults⟩ (gC n9 (z6 nm 60) fn.body (SN d.body)) d.scope .none d.kwdefaults d.doc d.pyModule d.annotations d.code d.closureTuple),o.slots⟩
def T9(fn:Fn)(d:FuncData):Bool:=(d.params.args.map (·.arg))==fn.params.map nm&&(codeIn K d.code d.qualname&&(!d.scope.isCoroutine&&(!d.scope.isGenerator&&(d.scope.kind== .function&&(J0 d.scope&&(fn.params.all (λx=>df d.scope (nm x) .local)&&(mq fn.params&&jX n9 (z9 nm tb d.scope 60 false) fn.body (SN d.body))))))))
noncomputable def E3:List (Nat×Addr)->List (Option Obj×Bool)
 | []=> []
 |p::r=>(K.lookup p.2,true)::E3 r
noncomputable def E2:List (Nat×Addr)->List (Option Obj×Bool)
 | []=> []
 |p::r=>(match P.fn p.1 with
  |some fn=>(some (MH nm fn (Eo K p.2) (Pw (Eo K p.2).data)),T9 nm K fn (Pw (Eo K p.2).data))
  |none=>(K.lookup p.2,true))::E2 r
end
theorem oY:∃nC yw,ExcBaseFacts "Exception" "Exception.__new__" nC yw:=(uU _ _ (PySem.F.excBase_Exception))
section
variable{prog:Program}{w:World}{K:Frag}{base:Heap}{mg mb:Str->Option Value}{p:Program}{loose:List Str}{gens:Array GenState}{os:OsState}
def Wr(prog:Program)(w:World)(K:Frag)(base:Heap)(mg mb:Str->Option Value)(p:Program)(loose:List Str)(gens:Array GenState)(os:OsState)(X:K.In base)(T:TopRead p loose mg mb base):SW where
 prog:=prog
 w:=w
 K:=K
 base:=base
 P:=pt
 nm:=rk
 cls:=Jf
 gl:=Ps
 mg:=mg
 mb:=mb
 p:=p
 loose:=loose
 gens:=gens
 os:=os
 X:=X
 T:=T
 lim:=T.nolimit
 inj:=F4
variable(X:K.In base)(T:TopRead p loose mg mb base)
theorem aa{α β:Type}{l:List α}{m:List β}{f:α->β->Bool}(h:(l.all λx=>m.all (f x))=true){x:α}{p:β}(hx:x∈l)(hp:p∈m):f x p=true:=YO.mp (YO.mp h x hx) p hp
theorem M2(ji:W.cls=Jf)(uE:W.gl=Ps)(h1:HV W.P W.nm W.K=true)(h2:Hr W.P W.nm W.K=true)(h3:B5 W.P W.nm W.K=true)(h4:MD.all (RZ W)=true)(h5:MG W.nm W.K=true)(h6:HE W.P W.nm W.K=true)(h7:HW W.P W.nm W.K=true)(XJ:W.K.lookup 87=some (HY (Eo W.K 87) (Ul (Eo W.K 87).data)))(h8:jK.all (λp=>(Ps p.1).any λa=>yy W.K a p.2)=true)(XI:∀g l,W.P.table g=some l->(g,l)∈jK)(h9:B4 W.nm W.K=true):Fd W La tb where
 flds:=λx hx c C hc hm=>by
  rw[ji]at hc;rcases ZB.mp (aa h1 hx (ec hc))with h|h
  ·rw[hm]at h;exact nf h
  ·exact h
 sets:=λx hx=>⟨λc C hc he=>by
   rw[ji]at hc;rcases ZB.mp (an (aa h2 hx (ec hc))).1 with h|h
   ·rw[he]at h;exact nf h
   ·exact h,zg λc C hc he ho=>by
   rw[ji]at hc;rcases ZB.mp (an (aa h2 hx (ec hc))).2 with h|h
   ·rw[he]at h;exact nf h
   ·rcases ZB.mp h with h|h
    ·rw[ho]at h;exact nf h
    ·exact h⟩
 meths:=λx hx c f Ca hc hm=>by
  rw[ji]at hc;have h:=aa h3 hx (ec hc);rw[hm]at h;refine U (oa h) λa e h=>?_;have h':=an (an h).2;exact(Fc a e ((an h).1) (eq_of_beq h'.1) ((an h'.2).1) ((an h'.2).2))
 glbs:=λx hx=>by
  refine hg λcg kg=>?_;refine U (oa (YO.mp h4 x hx)) λo e1 h=>?_;refine U (oa h) λu e2 h=>?_;refine U (oa h) λv e3 h=>?_;refine kg ?_;exact(iO v u (40) (e2 ▸ e1) h e3)
 fns:=λf hf=>by
  refine U (oa (YO.mp h5 f hf)) λa e h=>?_;exact(aM a e (eq_of_beq (an h).1) ((an h).2))
 news:=λc hc=>by
  refine U (oa (YO.mp h6 c hc)) λCa e h=>?_;have h':=an (an h).2;refine(Fc Ca (eq_of_beq (an h).1) (ji ▸ e) (h'.1) ((an h'.2).1) ?_);have h3:=(an h'.2).2;cases q:W.P.init c with
  |none=>trivial
  |some o=>
   rw[q]at h3;cases o with
   |none=>exact⟨eq_of_beq (an h3).1,iq (an h3).2⟩
   |some f=>
    refine U (oa h3) λa e2 h=>?_;exact(aM a e2 (eq_of_beq (an h).1) (eq_of_beq (an h).2))
 excs:=λc hc=>by
  cases YR.mp hc;refine hg λcg kg=>?_;have h:=an h7;refine U (oa (an h.2).2) λo q ha=>?_;refine U (oa ha) λf q' hb=>?_;refine U (oa hb) λa e2 h'=>?_
  (refine iQ oY λnC yw Fn=>?_;try clear oY)
  refine kg ?_;exact(AW (87) (eq_of_beq h.1) (ji ▸ rfl) (⟨⟨_,_,_,_,_,_,_,_,_,_,_,_,_,_,_,_,_,nC,yw,XJ,Fn, .inl ⟨_,rfl⟩⟩,f,a,q' ▸ q,e2,eq_of_beq (an h').1,eq_of_beq (an h').2⟩) ((an h.2).1))
 tabs:=λg l h=>by
  refine U (oa (YO.mp h8 (g,l) (XI g l h))) λa e h=>?_;exact(al a (uE ▸ e) h)
 names:=⟨eq_of_beq (an (an h9).1).1,eq_of_beq (an (an (an h9).1).2).1,eq_of_beq (an (an (an h9).1).2).2⟩
 len:=eq_of_beq (an (an h9).2).1
 range:=eq_of_beq (an (an h9).2).2
theorem Kq(h:E3 K l=E2 P nm K l){p:Nat×Addr}(hp:p∈l)(e:P.fn p.1=some fn):K.lookup p.2=some (MH nm fn (Eo K p.2) (Pw (Eo K p.2).data))/\T9 nm K fn (Pw (Eo K p.2).data)=true:=by
 induction l with
 |nil=>exact nomatch hp
 |cons q r ih=>
  rcases YS.mp hp with rfl|hp
  ·have h1:=(zaP h).1;rw[e]at h1;exact⟨(zaR h1).1,(zaR h1).2.symm⟩
  ·exact ih (zaP h).2 hp
theorem DK(h:E3 W.K r6=E2 W.P W.nm W.K r6):BF W La tb:=by
 intro f a hf;cases Xn:W.P.fn f with
 |none=>exact .inl rfl
 |some fn=>
  obtain⟨h1,h2⟩:=Kq h (ec hf) Xn;have g6:=an (an (an (an (an (an h2).2).2).2).2).2;refine .inr ⟨fn,_,_,_,_,60,rfl,⟨⟨_,_,_,_,_,_,_,_,_,_,h1,rfl,rfl,rfl,rfl,eq_of_beq (an h2).1⟩,(an (an h2).2).1,iq (an (an (an h2).2).2).1,iq (an (an (an (an h2).2).2).2).1,eq_of_beq (an (an (an (an (an h2).2).2).2).2).1,?_,?_,oJ (an (an g6.2).2).1⟩,(an (an g6.2).2).2⟩
  ·intro x hx e;have:=YO.mp g6.1 x hx;rw[e]at this;exact nf this
  ·intro x hx;exact ch (YO.mp (an g6.2).1 x hx)
end
theorem Kh(P:Params):HV pt rk (Hd.Kf P)=true:=by kernel_rfl
theorem Kd(P:Params):Hr pt rk (Hd.Kf P)=true:=by kernel_rfl
theorem Gi(P:Params):B5 pt rk (Hd.Kf P)=true:=by kernel_rfl
theorem NK(P:Params):MG rk (Hd.Kf P)=true:=by kernel_rfl
theorem Ke(P:Params):HE pt rk (Hd.Kf P)=true:=by kernel_rfl
theorem Ki(P:Params):HW pt rk (Hd.Kf P)=true:=by kernel_rfl
theorem Kc(P:Params):M3 (Hd.Kf P)=true:=by kernel_rfl
theorem Gg(P:Params):B4 rk (Hd.Kf P)=true:=by kernel_rfl
theorem NL(P:Params):(Hd.Kf P).lookup 87=some (HY (Eo (Hd.Kf P) 87) (Ul (Eo (Hd.Kf P) 87).data)):=by kernel_rfl
theorem Kg(P:Params):E3 (Hd.Kf P) r6=E2 pt rk (Hd.Kf P) r6:=by kernel_rfl
end Mine
end
section
namespace Mine
open PySem
inductive SV where
 |none|bool(b:Bool)|int(x:Nat)(c:Int)|str(l:List Nat)|atom(n:Nat)|tup(vs:List SV)|obj(s j:Nat)|glob(a:Nat)|vo(s i:Nat)|any(n:Nat)
inductive Bs where
 |nil|var(b:Nat)|set(b:Nat)(i v:SV)
inductive SO where
 |inst(c:Nat)(fs:List (Nat×SV))|list(b:Bs)(vs:List SV)|dict(b:Option Nat)(kd:Nat)(es:List (SV×SV))|gone(c:Nat)(fs:List (Nat×SV))|caught(c:Nat)(fs:List (Nat×SV))
section
def Tr.put{α:Type}(t:Tr α)(k:Nat)(v:α):Tr α:=Tr.rec (λ_=> .e) (λq u _=>Bool.rec (.f q u) (.f q v) (Nat.beq q k)) (λl r il ir j=>Bool.rec (.n l (ir (Nat.div j 2))) (.n (il (Nat.div j 2)) r) (Nat.beq (Nat.mod j 2) 0)) t k
def bJ{α:Type}(x:Nat)(l:List (Nat×α)):Option α:=List.rec none (λp _ ih=>Bool.rec ih (some p.2) (Nat.beq p.1 x)) l
def z7{α:Type}(x:Nat)(v:α)(l:List (Nat×α)):List (Nat×α):=List.rec [(x,v)] (λp r ih=>Bool.rec (p::ih) ((p.1,v)::r) (Nat.beq p.1 x)) l
def IR{α:Type}(x:Nat)(l:List (Nat×α)):List (Nat×α):=List.rec [] (λp r ih=>Bool.rec (p::ih) ih (Nat.beq p.1 x)) l
def rE{α:Type}(l:List α)(n:Nat):Option α:=List.rec (λ_=>none) (λa _ ih n=>Nat.rec (some a) (λm _=>ih m) n) l n
def L4{α:Type}(b:α)(l:List α)(n:Nat):List α:=List.rec (λ_=> []) (λa r ih n=>Nat.rec (b::r) (λm _=>a::ih m) n) l n
def fp{α:Type}(l:List α):Nat:=List.rec 0 (λ_ _ ih=>Nat.succ ih) l
def uu(a b:List Nat):Bool:=List.rec (λb=>List.rec true (λ_ _ _=>false) b) (λx _ ih b=>List.rec false (λy r _=>Bool.rec false (ih r) (Nat.beq x y)) b) a b
def Ac(a b:Int):Bool:=Int.rec (λn=>Int.rec (λm=>Nat.beq n m) (λ_=>false) b) (λn=>Int.rec (λ_=>false) (λm=>Nat.beq n m) b) a
def wy(a b:Int):Bool:=Int.rec (λn=>Int.rec (λm=>Nat.ble n m) (λ_=>false) b) (λn=>Int.rec (λ_=>true) (λm=>Nat.ble m n) b) a
section
variable{β:Type}(d:β)
def qB(v:SV)(f:Bool->β):β:= @SV.rec (λ_=>β) (λ_=>Unit) d f (λ_ _=>d) (λ_=>d) (λ_=>d) (λ_ _=>d) (λ_ _=>d) (λ_=>d) (λ_ _=>d) (λ_=>d) () (λ_ _ _ _=>()) v
def qI(v:SV)(f:Nat->Int->β):β:= @SV.rec (λ_=>β) (λ_=>Unit) d (λ_=>d) f (λ_=>d) (λ_=>d) (λ_ _=>d) (λ_ _=>d) (λ_=>d) (λ_ _=>d) (λ_=>d) () (λ_ _ _ _=>()) v
def qS(v:SV)(f:List Nat->β):β:= @SV.rec (λ_=>β) (λ_=>Unit) d (λ_=>d) (λ_ _=>d) f (λ_=>d) (λ_ _=>d) (λ_ _=>d) (λ_=>d) (λ_ _=>d) (λ_=>d) () (λ_ _ _ _=>()) v
def qA(v:SV)(f:Nat->β):β:= @SV.rec (λ_=>β) (λ_=>Unit) d (λ_=>d) (λ_ _=>d) (λ_=>d) f (λ_ _=>d) (λ_ _=>d) (λ_=>d) (λ_ _=>d) (λ_=>d) () (λ_ _ _ _=>()) v
def qT(v:SV)(f:List SV->β):β:= @SV.rec (λ_=>β) (λ_=>Unit) d (λ_=>d) (λ_ _=>d) (λ_=>d) (λ_=>d) (λl _=>f l) (λ_ _=>d) (λ_=>d) (λ_ _=>d) (λ_=>d) () (λ_ _ _ _=>()) v
def qO(v:SV)(f:Nat->Nat->β):β:= @SV.rec (λ_=>β) (λ_=>Unit) d (λ_=>d) (λ_ _=>d) (λ_=>d) (λ_=>d) (λ_ _=>d) f (λ_=>d) (λ_ _=>d) (λ_=>d) () (λ_ _ _ _=>()) v
def qG(v:SV)(f:Nat->β):β:= @SV.rec (λ_=>β) (λ_=>Unit) d (λ_=>d) (λ_ _=>d) (λ_=>d) (λ_=>d) (λ_ _=>d) (λ_ _=>d) f (λ_ _=>d) (λ_=>d) () (λ_ _ _ _=>()) v
def qY(v:SV)(f:Nat->β):β:= @SV.rec (λ_=>β) (λ_=>Unit) d (λ_=>d) (λ_ _=>d) (λ_=>d) (λ_=>d) (λ_ _=>d) (λ_ _=>d) (λ_=>d) (λ_ _=>d) f () (λ_ _ _ _=>()) v
def qN(v:SV)(f:β):β:= @SV.rec (λ_=>β) (λ_=>Unit) f (λ_=>d) (λ_ _=>d) (λ_=>d) (λ_=>d) (λ_ _=>d) (λ_ _=>d) (λ_=>d) (λ_ _=>d) (λ_=>d) () (λ_ _ _ _=>()) v
noncomputable def jL (o:SO) (f:Bs->List SV->β):β:= @SO.rec (λ_=>β) (λ_ _=>d) f (λ_ _ _=>d) (λ_ _=>d) (λ_ _=>d) o
def jD(o:SO)(f:Option Nat->Nat->List (SV×SV)->β):β:= @SO.rec (λ_=>β) (λ_ _=>d) (λ_ _=>d) f (λ_ _=>d) (λ_ _=>d) o
def jI(o:SO)(f:Nat->List (Nat×SV)->β):β:= @SO.rec (λ_=>β) f (λ_ _=>d) (λ_ _ _=>d) (λ_ _=>d) (λ_ _=>d) o
def jG(o:SO)(f:Nat->List (Nat×SV)->β):β:= @SO.rec (λ_=>β) (λ_ _=>d) (λ_ _=>d) (λ_ _ _=>d) f (λ_ _=>d) o
def bN(b:Bs)(f:β):β:= @Bs.rec (λ_=>β) f (λ_=>d) (λ_ _ _=>d) b
variable{d}{v:SV}{o:SO}{r:β}
theorem Mh(h:qB d v f=r)(hd:d≠r):∃b,v= .bool b/\f b=r:=by cases v with|bool b=>exact(al b rfl h)|_=>exact absurd h hd
theorem jg(h:qI d v f=r)(hd:d≠r):∃x c,v= .int x c/\f x c=r:=by cases v with|int b c=>exact(gz b c rfl h)|_=>exact absurd h hd
theorem AF(h:qS d v f=r)(hd:d≠r):∃l,v= .str l/\f l=r:=by cases v with|str b=>exact(al b rfl h)|_=>exact absurd h hd
theorem Rr(h:qA d v f=r)(hd:d≠r):∃n,v= .atom n/\f n=r:=by cases v with|atom b=>exact(al b rfl h)|_=>exact absurd h hd
theorem EO(h:qT d v f=r)(hd:d≠r):∃l,v= .tup l/\f l=r:=by cases v with|tup b=>exact(al b rfl h)|_=>exact absurd h hd
theorem IY(h:qO d v f=r)(hd:d≠r):∃s j,v= .obj s j/\f s j=r:=by cases v with|obj b c=>exact(gz b c rfl h)|_=>exact absurd h hd
theorem Rq(h:qG d v f=r)(hd:d≠r):∃n,v= .glob n/\f n=r:=by cases v with|glob b=>exact(al b rfl h)|_=>exact absurd h hd
theorem Rp(h:qY d v f=r)(hd:d≠r):∃n,v= .any n/\f n=r:=by cases v with|any b=>exact(al b rfl h)|_=>exact absurd h hd
theorem EP(h:qN d v f=r)(hd:d≠r):v= .none/\f=r:=by cases v with|none=>exact⟨rfl,h⟩|_=>exact absurd h hd
theorem RJ(h:jL d o f=r)(hd:d≠r):∃b vs,o= .list b vs/\f b vs=r:=by cases o with|list b c=>exact(gz b c rfl h)|_=>exact absurd h hd
theorem RK(h:jD d o f=r)(hd:d≠r):∃b k es,o= .dict b k es/\f b k es=r:=by cases o with|dict b c e=>exact(Jn b c e rfl h)|_=>exact absurd h hd
theorem Sh(h:bN d b f=r)(hd:d≠r):b= .nil/\f=r:=by cases b with|nil=>exact⟨rfl,h⟩|_=>exact absurd h hd
end
theorem nn:none≠some a:=λh=>nomatch h
mutual
def SV.beq:SV->SV->Bool
 | .none,b=>qN false b true
 | .bool a,b=>qB false b λb=>a==b
 | .int x c,b=>qI false b λy d=>Nat.beq x y&&Ac c d
 | .str a,b=>qS false b (uu a)
 | .atom a,b=>qA false b (Nat.beq a)
 | .tup a,b=>qT false b λb=>SV.beqs a b
 | .obj a b,d=>qO false d λc d=>Nat.beq a c&&Nat.beq b d
 | .glob a,b=>qG false b (Nat.beq a)
 | .any a,b=>qY false b (Nat.beq a)
 | .vo _ _,_=>false
def SV.beqs:List SV->List SV->Bool
 | [],b=>b.isEmpty
 |a::as,b=>match b with| []=>false|b::bs=>a.beq b&&SV.beqs as bs
end
mutual
noncomputable def lS:V->SV
 | .none=> .none
 | .bool b=> .bool b
 | .int i=> .int 0 i
 | .str l=> .str l
 | .tup vs=> .tup (lY vs)
 | .obj s i=> .vo s i
 | .glob a=> .glob a
noncomputable def lY:List V->List SV
 | []=> []
 |v::r=>lS v::lY r
end
theorem YG:lS .none= .none:=rfl
theorem YF(b:Bool):lS (.bool b)= .bool b:=rfl
theorem WB(i:Int):lS (.int i)= .int 0 i:=rfl
theorem YE(l:List Nat):lS (.str l)= .str l:=rfl
theorem WA(vs:List V):lS (.tup vs)= .tup (lY vs):=rfl
theorem YD(s i:Nat):lS (.obj s i)= .vo s i:=rfl
theorem YB(a:Nat):lS (.glob a)= .glob a:=rfl
structure SL where
 cnt:Nat
 es:List (Nat×SO)
structure fk where
 hp:Tr SL
 env:List (Nat×SV)
inductive O(α:Type) where
 |no|ok(a:α)(S:fk)|ex(je:Bool)(s j c:Nat)(S:fk)
structure Fx where
 bd:List (Nat×(Int×Int))
 bl:List (Nat×SV)
 it:List (Nat×List (SV×SV))
 dt:List (Nat×List (SV×SV))
 op:List (Nat×List ((SV×SV)×SV))
 eq:List ((SV×SV)×Bool)
 le:List ((SV×SV)×Bool)
 ca:List (Nat×List (List SV×SV))
 cf:Nat
 pre:fk->Bool
 mo:Tr Nat
abbrev MS(α:Type):=fk->O α
def dq{α:Type}(a:α):MS α:=λS=> .ok a S
def c5{α:Type}:MS α:=λ_=> .no
def bin{α β:Type}(m:MS α)(f:α->MS β):MS β:=λS=>O.rec .no f .ex (m S)
def opt{α:Type}(o:Option α):MS α:=λS=>Option.rec .no (λa=> .ok a S) o
def ask(b:Bool):MS Unit:=λS=>Bool.rec .no (.ok () S) b
def fk.get(S:fk)(s j:Nat):Option SO:=Option.rec none (λL=>bJ j L.es) (S.hp.get s)
def gt(s j:Nat):MS SO:=λS=>Option.rec .no (λo=> .ok o S) (S.get s j)
def md(F:Fx)(s:Nat):Nat:=Option.rec 0 (λm=>m) (F.mo.get s)
def LZ(m:Nat):Bool:=Nat.beq m 1||Nat.beq m 3
def yi(m:Nat):Bool:=Nat.beq m 2||Nat.beq m 3
def pu(F:Fx)(s j:Nat)(o:SO):MS Unit:=λS=>Option.rec .no (λL=>Option.rec .no (λ_=>Bool.rec .no (.ok () ⟨S.hp.put s ⟨L.cnt,z7 j o L.es⟩,S.env⟩) (Nat.ble 1000 j||yi (md F s))) (bJ j L.es)) (S.hp.get s)
def nw(F:Fx)(s:Nat)(o:SO):MS SV:=λS=>Option.rec .no (λL=>Bool.rec .no (.ok (.obj s (1000+L.cnt)) ⟨S.hp.put s ⟨L.cnt+1,(1000+L.cnt,o)::L.es⟩,S.env⟩) (LZ (md F s))) (S.hp.get s)
def ev:MS (List (Nat×SV)):=λS=> .ok S.env S
def se(e:List (Nat×SV)):MS Unit:=λS=> @fk.rec (λ_=>O Unit) (λh _=> .ok () ⟨h,e⟩) S
def lo(x:Nat):MS SV:=λS=>Option.rec .no (λv=> .ok v S) (bJ x S.env)
def bn(x:Nat)(v:SV):MS Unit:=λS=> @fk.rec (λ_=>O Unit) (λh e=> .ok () ⟨h,z7 x v e⟩) S
section
variable(F:Fx)
def Hc(x:Nat):Option (Int×Int):=Bool.rec (bJ x F.bd) (some (0,0)) (Nat.beq x 0)
def K0(x:Nat)(c:Int)(y:Nat)(d:Int):Option Bool:=Bool.rec
 ((Hc F x).bind λp=>(Hc F y).bind λq=>Bool.rec (Bool.rec none (some false) (wy (Int.add (Int.add q.2 d) 1) (Int.add p.1 c))) (some true) (wy (Int.add p.2 c) (Int.add q.1 d)))
 (some (wy c d)) (Nat.beq x y)
def R3(x:Nat)(c:Int)(y:Nat)(d:Int):Option Bool:=(Hc F x).bind λp=>(Hc F y).bind λq=>Bool.rec (Bool.rec (Bool.rec none (some true) (Ac p.1 p.2&&(Ac q.1 q.2&&Ac (Int.add p.1 c) (Int.add q.1 d)))) (some false) (wy (Int.add (Int.add q.2 d) 1) (Int.add p.1 c))) (some false) (wy (Int.add (Int.add p.2 c) 1) (Int.add q.1 d))
def IN(x:Nat)(c:Int)(y:Nat)(d:Int):Option Bool:=Bool.rec (R3 F x c y d) (some (Ac c d)) (Nat.beq x y)
def wx(a b:SV)(l:List ((SV×SV)×α)):Option α:=List.rec none (λp _ ih=>Bool.rec ih (some p.2) (p.1.1.beq a&&p.1.2.beq b)) l
def Pa(o:Option Bool)(p:Option Bool):Option Bool:=Option.rec p some o
def Jm(o:Option Bool)(p:Option Bool):Option Bool:=Option.rec none (λb=>Bool.rec (some false) p b) o
def tg:SV->Nat
 | .none=>1
 | .int _ _=>2
 | .str _=>3
 | .atom _=>3
 | .tup _=>4
 |_=>0
def jr(a b:SV):Bool:=Bool.rec (Bool.rec (Bool.rec true false (Nat.beq (tg a) (tg b))) false (Nat.beq (tg b) 0)) false (Nat.beq (tg a) 0)
def LX(a b:SV)(o:Option Bool):Option Bool:=Bool.rec o (some false) (jr a b)
def Ab(a b:SV):Option Bool:= @SV.rec (λ_=>Fx->SV->Option Bool) (λ_=>Fx->List SV->Option Bool)
 (λ_ _=>none)
 (λ_ _ _=>none)
 (λx c F b=>LX (.int x c) b (qI none b (IN F x c)))
 (λa _ b=>LX (.str a) b (qS none b λb=>some (uu a b)))
 (λ_ _ _=>none)
 (λa r F b=>LX (.tup a) b (qT none b (r F)))
 (λ_ _ _ _=>none)
 (λ_ _ _=>none)
 (λ_ _ _ _=>none)
 (λ_ _ _=>none)
 (λ_ b=>some b.isEmpty)
 (λ_ _ r q F b=>List.rec (some false) (λb bs _=>Jm (r F b) (q F bs)) b) a F b
def RF(F:Fx)(a b:List SV):Option Bool:=Ab F (.tup a) (.tup b)
def Bk(x:SV)(l:List (SV×SV)):Option (Option SV):=List.rec (some none) (λp _ ih=>Option.rec none (λb=>Bool.rec ih (some (some p.2)) b) (Ab F p.1 x)) l
def uN(x:SV)(l:List (SV×SV)):Option (Option SV):=qS (Bk F x l) x λb=>List.rec (some none) (λp _ ih=>qS (Option.rec none (λb=>Bool.rec ih (some (some p.2)) b) (Ab F p.1 x)) p.1 λa=>Bool.rec ih (some (some p.2)) (uu a b)) l
theorem lF(x:SV)(l:List (SV×SV)):uN F x l=Bk F x l:=by
 cases x with
 |str y=>
  induction l with
  |nil=>rfl
  |cons p l i=>
   obtain⟨a,v⟩:=p;cases a with
   |str a=>exact YV (λq=> @Bool.rec (λ_=>Option (Option SV)) q (some (some v)) (uu a y)) i
   |_=>first|rfl|exact i
 |_=>rfl
def EQ(x v:SV)(l:List (SV×SV)):Option (List (SV×SV)):=List.rec (some [(x,v)]) (λp r ih=>Option.rec none (λb=>Bool.rec (Option.rec none (λq=>some (p::q)) ih) (some ((p.1,v)::r)) b) (Ab F p.1 x)) l
def IB(x:SV)(l:List (SV×SV)):Option SV:=List.rec none (λp _ ih=>Bool.rec ih (some p.2) (p.1.beq x)) l
def A9(t u:Bool)(p q:SV):Option SV:=Bool.rec (Bool.rec none (some q) u) (some p) t
def binI(o:Op)(x:Nat)(c:Int)(y:Nat)(d:Int):Option SV:=match o with
 | .add=>A9 (Nat.beq y 0) (Nat.beq x 0) (.int x (Int.add c d)) (.int y (Int.add c d))
 | .sub=>A9 (Nat.beq y 0) (Nat.beq x y) (.int x (Int.sub c d)) (.int 0 (Int.sub c d))
 |_=>none
def E8(o:Op)(a b:SV):Option SV:=match a with
 | .int x c=>qI none b λy d=>Bool.rec (binI o x c y d) ((rY o c d).map (.int 0)) (Nat.beq x 0&&Nat.beq y 0)
 | .str a=>qS none b λb=>gD (oo o&&Nat.ble (a.length+b.length) ay) (some (.str (a++b)))
 | .tup a=>qT none b λb=>gD (oo o&&Nat.ble (a.length+b.length) ay) (some (.tup (a++b)))
 |_=>none
def nA:Op->Nat
 | .add=>0| .sub=>1| .mul=>2| .fdiv=>3| .mod=>4| .shl=>5| .shr=>6| .band=>7
def Jj(o:Op)(a b:SV):Option SV:=Option.rec (Option.rec none (λl=>wx a b l) (bJ (nA o) F.op)) some (E8 o a b)
def RL:Op->Bool
 | .add=>true
 | .sub=>true
 |_=>false
def Jk(o:Op)(a b:SV):Option SV:=qI none a λ_ _=>qI none b λ_ _=>gD (RL o) (E8 o a b)
def K1(x:Nat)(c:Int)(y:Nat)(d:Int):Option Bool:=Pa (K0 F x c y d) (wx (.int x c) (.int y d) F.le)
def rn(l:List Nat):Bool:=List.rec true (λc _ ih=>Bool.rec false ih (Nat.blt c 1114112)) l
section
variable(S:fk)
def lsN(o:Option SO):Option (List SV):=o.bind λo=>jL none o λb vs=>bN none b (some vs)
mutual
def Lf:Nat->SV->Bool
 |0,_=>false
 |n+1,v=>match v with
  | .none=>true
  | .bool _=>true
  | .int _ _=>true
  | .str l=>rn l
  | .atom _=>true
  | .tup vs=>E7 n vs
  | .obj s j=>(lsN (S.get s j)).any λvs=>E7 n vs
  |_=>false
def E7:Nat->List SV->Bool
 |0,_=>false
 |n+1,vs=>match vs with
  | []=>true
  |v::r=>Lf n v&&E7 n r
end
def QS(r:List SV->List SV->Option Bool)(a b:SV):Option Bool:=match a with
 | .none=>qN none b (some true)
 | .bool x=>qB none b λy=>some (x==y)
 | .int x c=>qI none b λy d=>Pa (IN F x c y d) (wx (.int x c) (.int y d) F.eq)
 | .str l=>qS (qA none b λj=>wx (.str l) (.atom j) F.eq) b λm=>some (uu l m)
 | .atom i=>qS (qA none b λj=>Bool.rec (wx (.atom i) (.atom j) F.eq) (some true) (Nat.beq i j)) b λm=>wx (.atom i) (.str m) F.eq
 | .tup as=>qT none b (r as)
 | .obj s j=>qO none b λt k=>(lsN (S.get s j)).bind λas=>(lsN (S.get t k)).bind λbs=>r as bs
 |_=>none
mutual
def QR:Nat->SV->SV->Option Bool
 |0,_,_=>none
 |n+1,a,b=>Bool.rec (QS F S (E5 n) a b) (some false) (jr a b)
def E5:Nat->List SV->List SV->Option Bool
 |0,_,_=>none
 |n+1,a,b=>match a with
  | []=>some b.isEmpty
  |a::as=>match b with| []=>some false|b::bs=>Jm (QR n a b) (E5 n as bs)
end
def E4(a b:SV):Option Bool:=Bool.rec none (QR F S 60 a b) (Lf S 60 a&&Lf S 60 b)
def eqv(a b:SV):Option Bool:=qI (E4 F S a b) a λx c=>qI (E4 F S a b) b λy d=>Pa (IN F x c y d) (wx (.int x c) (.int y d) F.eq)
theorem Ks(a b:SV):eqv F S a b=E4 F S a b:=by cases a<;>first|rfl|(cases b<;>rfl)
noncomputable def IU:List SV->Option (List (List Nat))
 | []=>some []
 |v::r=>qS none v λl=>(IU r).map (l::·)
noncomputable def Cb:SV->Bool
 | .int _ _=>true
 |_=>false
def mv:SV->Bool
 | .int _ _=>true
 | .tup vs=>vs.all Cb
 |_=>false
def gJ:SV->Nat
 | .str _=>1
 | .int _ _=>2
 | .tup vs=>match vs.all mv with|true=>3|false=>4
 |_=>4
def mu(kd:Nat)(k:SV):Bool:=Nat.blt (gJ k) 4&&(Nat.beq kd (gJ k)||Nat.beq kd 0)
def X0(b:Option Nat)(k:SV):Option (Option SV):=match b with
 |none=>some none
 |some b=>(bJ b F.dt).bind λl=>(IB k l).map some
def w6(b:Option Nat)(es:List (SV×SV))(k:SV):Option (Option SV):=Option.rec none (λr=>Option.rec (X0 F b k) (λv=>some (some v)) r) (uN F k es)
def ql:SV->Option Bool
 | .none=>some true
 | .any _=>none
 |_=>some false
def BA(a b:SV):Option Bool:=qO none b λs j=>(S.get s j).bind λo=>jD none o λb kd es=>gD (mu kd a) ((w6 F b es a).map (·.isSome))
def TC(a b:SV):Option Bool:=match b with
 | .tup vs=>qS none a λl=>(IU vs).map λls=>ls.any λx=>uu x l
 | .glob g=>qI none a λx c=>gD (Nat.beq x 0) ((pt.table g).map λl=>l.contains c)
 |_=>BA F S a b
def Je(o:pa)(a b:SV):Option Bool:= @pa.rec (λ_=>Fx->fk->SV->SV->Option Bool)
 (λF S a b=>eqv F S a b)
 (λF S a b=>(eqv F S a b).map not)
 (λF _ a b=>qI none a λx c=>qI none b λy d=>(K1 F y d x c).map not)
 (λF _ a b=>qI none a λx c=>qI none b λy d=>K1 F x c y d)
 (λF _ a b=>qI none a λx c=>qI none b λy d=>(K1 F x c y d).map not)
 (λF _ a b=>qI none a λx c=>qI none b λy d=>K1 F y d x c)
 (λ_ _ a b=>qN none b (ql a))
 (λ_ _ a b=>qN none b ((ql a).map not))
 (λF S a b=>TC F S a b)
 (λF S a b=>(BA F S a b).map not) o F S a b
end
def uH:SV->Option Bool
 | .bool b=>some b
 | .int x c=>(IN F x c 0 0).map not
 |_=>none
def yE(v:SV):Option Nat:=qI none v λx c=>(Hc F x).bind λp=>gD (Ac p.1 p.2) (de (Int.add p.1 c))
def AG(b:Nat)(i:SV):Option Nat:=qI none i λx c=>(bJ b F.bl).bind λl=>qI none l λy d=>gD (Nat.beq x y&&wy d c) (gD ((K0 F 0 0 x c).any id&&(K0 F x c 0 1000).any id) (some (Int.toNat (Int.sub c d))))
def HJ(b:Bs)(vs:List SV)(k:SV):Option SV:= @Bs.rec (λ_=>Option SV) ((yE F k).bind λn=>rE vs n)
 (λb=>Option.rec ((bJ b F.it).bind λl=>IB k l) (λn=>rE vs n) (AG F b k))
 (λb _ _=>(AG F b k).bind λn=>rE vs n) b
def Bo(S:fk)(a k:SV):Option SV:= @SV.rec (λ_=>Option SV) (λ_=>Unit) none (λ_=>none) (λ_ _=>none)
 (λl=>(yE F k).bind λn=>(rE l n).map λc=> .str [c]) (λ_=>none)
 (λvs _=>(yE F k).bind λn=>rE vs n)
 (λs j=>Option.rec none (λo=> @SO.rec (λ_=>Option SV) (λ_ _=>none) (λb vs=>HJ F b vs k) (λb kd es=>gD (mu kd k) (Option.rec none (λr=>r) (w6 F b es k))) (λ_ _=>none) (λ_ _=>none) o) (S.get s j))
 (λ_=>none) (λ_ _=>none) (λ_=>none) () (λ_ _ _ _=>()) a
def Ji:SV->Option (Option Nat)
 | .none=>some none
 | .int x c=>gD (Nat.beq x 0) ((de c).map some)
 |_=>none
end
inductive jZ where
 |next|ret(v:SV)
structure Hh where
 e:Ex->MS SV
 b:Ex->MS Bool
 s:Sm->MS jZ
 c:Nat->List SV->MS SV
section
variable(F:Fx)
def A3(a k:SV):MS SV:=λS=>Option.rec .no (λv=> .ok v S) (Bo F S a k)
def IW(o:pa)(a b:SV):MS Bool:=λS=>Option.rec .no (λv=> .ok v S) (Je F S o a b)
def El{α:Type}(a:SV)(f:Nat->Nat->SO->MS α):MS α:=qO c5 a λs j=>bin (gt s j) (f s j)
def o8{α β:Type}(o:Option α)(f:α->MS β):MS β:=Option.rec c5 f o
def O5{α β:Type}(o:Option α)(f:MS β):MS β:=Option.rec f (λ_=>c5) o
def iJ{β:Type}(b:Bool)(f:MS β):MS β:=Bool.rec c5 f b
def A6(a:SV)(x:Nat):MS SV:=El a λ_ _ o=> @SO.rec (λ_=>MS SV) (λc fs=>O5 (pt.meth c x) (opt (bJ x fs))) (λ_ _=>c5) (λ_ _ _=>c5) (λ_ _=>c5) (λc fs=>O5 (pt.meth c x) (opt (bJ x fs))) o
def mH(a:SV)(x:Nat)(v:SV):MS Unit:=El a λs j o=>jI c5 o λc fs=>iJ (Nat.ble (fp fs) mZ&&jF c x) (pu F s j (.inst c (z7 x v fs)))
def Hs(s j:Nat)(b:Bs)(vs:List SV)(k v:SV):MS Unit:=match b with
 | .nil=>o8 (yE F k) λn=>iJ (Nat.blt n (fp vs)) (pu F s j (.list .nil (L4 v vs n)))
 | .var b=>o8 (bJ b F.it) λl=>o8 (IB k l) λ_=>pu F s j (.list (.set b k v) vs)
 | .set _ _ _=>c5
def so(a k v:SV):MS Unit:=El a λs j o=>match o with
 | .list b vs=>Hs F s j b vs k v
 | .dict b kd es=>iJ (Nat.ble (fp es) 400&&mu kd k) (Option.rec (o8 (EQ F k v es) λes'=>pu F s j (.dict none (gJ k) es')) (λb=>pu F s j (.dict (some b) (gJ k) ((k,v)::es))) b)
 |_=>c5
def BW(s:Nat)(a l h:SV):MS SV:=o8 (Ji l) λlo=>o8 (Ji h) λhi=>match a with
 | .tup vs=>iJ (jq lo hi (fp vs)) (dq (.tup (cutL lo hi vs)))
 | .str cs=>iJ (jq lo hi (fp cs)) (dq (.str (cutL lo hi cs)))
 | .obj t j=>bin (gt t j) λo=>jL c5 o λb vs=>bN c5 b (iJ (Nat.ble (fp vs) ay) (nw F s (.list .nil (cutL lo hi vs))))
 |_=>c5
def Hu(a:SV)(x:Nat):MS Hg:=El a λs j o=> @SO.rec (λ_=>MS Hg) (λc fs=>O5 (bJ x fs) (iJ (!pt.isExc c) (o8 (pt.meth c x) λf=>dq (.own f))))
 (λ_ _=>Bool.rec (iJ (Nat.beq x AH) (dq .pop)) (dq .app) (Nat.beq x gc))
 (λ_ kd _=>iJ (Nat.beq x AI&&Nat.blt kd 4) (dq .get)) (λ_ _=>c5) (λ_ _=>c5) o
def xq(a v:SV):MS SV:=El a λs j o=>jL c5 o λb vs=>iJ (Nat.ble (fp vs) 400) (bin (pu F s j (.list b (vs++ [v]))) λ_=>dq .none)
def A1(l:List SV):Option (List SV×SV):=List.rec none (λa r ih=>some (Option.rec ([],a) (λp=>(a::p.1,p.2)) ih)) l
def Hv(a:SV):MS SV:=El a λs j o=>jL c5 o λb vs=>bN c5 b (iJ (Nat.ble (fp vs) 400) (o8 (A1 vs) λp=>bin (pu F s j (.list .nil p.1)) λ_=>dq p.2))
def A4(a k d:SV):MS SV:=El a λs j o=>jD c5 o λb kd es=>iJ (mu kd k) (o8 (w6 F b es k) λr=>dq (Option.rec d (λv=>v) r))
def Mv(b:Bs)(n:Nat):Option SV:=match b with
 | .nil=>some (.int 0 (.ofNat n))
 | .var b=>(bJ b F.bl).bind λl=>qI none l λx c=>some (.int x (Int.add c (.ofNat n)))
 | .set b _ _=>(bJ b F.bl).bind λl=>qI none l λx c=>some (.int x (Int.add c (.ofNat n)))
def Mc(a:SV):MS SV:=match a with
 | .tup vs=>iJ (Nat.ble (fp vs) ay) (dq (.int 0 (.ofNat (fp vs))))
 | .obj s j=>bin (gt s j) λo=>jL c5 o λb vs=>iJ (Nat.ble (fp vs) 400) (o8 (Mv F b (fp vs)) dq)
 |_=>c5
def Mb(s:Nat)(vs:List SV):MS SV:=iJ (Nat.ble (fp vs) 400) (nw F s (.list .nil vs))
variable(ih:Hh)
def rC(l:List Ex):MS (List SV):=List.rec (dq []) (λe _ r=>bin (ih.e e) λv=>bin r λvs=>dq (v::vs)) l
def BY(ks:List Ex)(vs:List Ex):MS (List (SV×SV)):=List.rec (λ_=>dq []) (λk _ r vs=>List.rec (dq []) (λv vs _=>bin (ih.e k) λa=>bin (ih.e v) λb=>bin (r vs) λq=>dq ((a,b)::q)) vs) ks vs
def p0(kd:Nat)(l:List (SV×SV)):Bool:=List.rec true (λp r t=>Nat.beq (gJ p.1) kd&&Nat.blt kd 3&&(uN F p.1 r).any (·.isNone)&&t) l
def wK:List (SV×SV)->Nat
 | []=>0
 |(k,_)::_=>gJ k
def Hz(o:SV)(kd:Nat)(ps:List (SV×SV)):MS Unit:=El o λs j ob=>jD c5 ob λb Qg es=>iJ (b.isNone&&(Nat.beq Qg 0&&es.isEmpty)) (pu F s j (.dict none kd ps))
def Mf(l:List Ex):MS SV:=List.rec c5 (λe r q=>List.rec (ih.e e) (λ_ _ _=>bin (ih.e e) λv=>bin (opt (uH F v)) λt=>Bool.rec (dq v) q t) r) l
def SZ(l:List Ex):MS SV:=List.rec c5 (λe r q=>List.rec (ih.e e) (λ_ _ _=>bin (ih.e e) λv=>bin (opt (uH F v)) λt=>Bool.rec q (dq v) t) r) l
def Mg(l:List Ex):MS Bool:=List.rec (dq true) (λe _ q=>bin (ih.b e) λt=>Bool.rec (dq false) q t) l
def Me(l:List Ex):MS Bool:=List.rec (dq false) (λe _ q=>bin (ih.b e) λt=>Bool.rec q (dq true) t) l
def vb(a:SV)(os:List pa)(es:List Ex):MS Bool:=List.rec (λ_ _=>c5) (λo os r a es=>List.rec c5 (λe es _=>bin (ih.e e) λb=>bin (IW F o a b) λt=>List.rec (dq t) (λ_ _ _=>Bool.rec (dq false) (r b es) t) os) es) os a es
def Hx(mt:Hg)(a:SV)(args:List SV):MS SV:= @Hg.rec (λ_=>MS SV) (λf=>ih.c f (a::args))
 (List.rec c5 (λv r _=>iJ r.isEmpty (xq F a v)) args)
 (iJ args.isEmpty (Hv F a))
 (List.rec c5 (λk r _=>List.rec (A4 F a k .none) (λd r _=>iJ r.isEmpty (A4 F a k d)) r) args) mt
def A2(c s f:Nat)(args:List SV):MS SV:=bin (nw F s (.inst c [])) λo=>bin (ih.c f (o::args)) λr=>qN c5 r (dq o)
def Hy(c s:Nat)(args:List SV):MS SV:=o8 (pt.init c) λo=>match o with
 |none=>iJ args.isEmpty (nw F s (.inst c []))
 |some f=>iJ (!pt.isExc c) (A2 F ih c s f args)
def A5(s:Nat)(ks vs:List Ex):MS SV:=bin (nw F s (.dict none 0 [])) λo=>bin (BY ih ks vs) λps=>iJ (p0 F (wK ps) ps&&Nat.ble (fp ps) 16) (bin (Hz F o (wK ps) ps) λ_=>dq o)
def L9(s:Nat)(a b:Ex):MS SV:=bin (ih.e a) λx=>bin (ih.e b) λy=>o8 (yE F y) λn=>El x λ_ _ o=>jL c5 o λb vs=>bN c5 b (o8 (rU vs) λv=>iJ (Nat.ble n ay) (nw F s (.list .nil (List.replicate n v))))
def Ma(a:Ex):MS SV:=bin (ih.e a) λv=>qI c5 v λx c=>iJ (Nat.beq x 0) (dq (.int 0 (Int.neg c)))
def Rj(o:Op)(a b:Ex):MS SV:=bin (ih.e a) λx=>bin (ih.e b) λy=>opt (Jj F o x y)
def Rh(a:Ex):MS SV:=bin (ih.e a) λv=>bin (opt (uH F v)) λt=>dq (.bool (!t))
def Ni(a:Ex)(os:List pa)(bs:List Ex):MS SV:=bin (ih.e a) λx=>bin (vb F ih x os bs) λt=>dq (.bool t)
def Ri(c a b:Ex):MS SV:=bin (ih.b c) λt=>Bool.rec (ih.e b) (ih.e a) t
def sO(e:Option Ex):MS SV:=Option.rec (dq .none) ih.e e
def Rg(a b:Ex):MS SV:=bin (ih.e a) λx=>bin (ih.e b) λy=>A3 F x y
def FR(s:Nat)(a:Ex)(lo hi:Option Ex):MS SV:=bin (ih.e a) λx=>bin (sO ih lo) λl=>bin (sO ih hi) λh=>BW F s x l h
def JS(o:Ex)(x:Nat)(args:List Ex):MS SV:=bin (ih.e o) λa=>bin (Hu a x) λmt=>bin (rC ih args) λvs=>Hx F ih mt a vs
def sE(e:Ex):MS SV:= @Ex.rec (λ_=>Fx->Hh->MS SV) (λ_=>Unit) (λ_=>Unit)
 (λx _ _=>lo x)
 (λx _ _=>opt (Option.rec none (λv=>some (lS v)) (pt.const x)))
 (λv _ _=>dq (lS v))
 (λes _ F ih=>bin (rC ih es) λvs=>dq (.tup vs))
 (λs es _ F ih=>bin (rC ih es) λvs=>Mb F s vs)
 (λs ks vs _ _ F ih=>A5 F ih s ks vs)
 (λo a b _ _ F ih=>Rj F ih o a b)
 (λs a b _ _ F ih=>L9 F ih s a b)
 (λa _ F ih=>Ma ih a)
 (λa _ F ih=>Rh F ih a)
 (λes _ F ih=>Mf F ih es)
 (λes _ F ih=>SZ F ih es)
 (λa os bs _ _ F ih=>Ni F ih a os bs)
 (λc a b _ _ _ F ih=>Ri ih c a b)
 (λa x _ F ih=>bin (ih.e a) λv=>A6 v x)
 (λa b _ _ F ih=>Rg F ih a b)
 (λs a lo hi _ _ _ F ih=>FR F ih s a lo hi)
 (λf args _ F ih=>bin (rC ih args) λvs=>ih.c f vs)
 (λc s args _ F ih=>bin (rC ih args) λvs=>Hy F ih c s vs)
 (λo x args _ _ F ih=>JS F ih o x args)
 (λa _ F ih=>bin (ih.e a) λv=>Mc F v)
 (λ_ _=>c5)
 () (λ_ _ _ _=>()) () (λ_ _=>()) e F ih
def sT(e:Ex):MS Bool:= @Ex.rec (λ_=>Hh->MS Bool->MS Bool) (λ_=>Unit) (λ_=>Unit)
 (λ_ _ d=>d)
 (λ_ _ d=>d)
 (λ_ _ d=>d)
 (λ_ _ _ d=>d)
 (λ_ _ _ _ d=>d)
 (λ_ _ _ _ _ _ d=>d)
 (λ_ _ _ _ _ _ d=>d)
 (λ_ _ _ _ _ _ d=>d)
 (λ_ _ _ d=>d)
 (λa _ ih _=>bin (ih.b a) λt=>dq (!t))
 (λes _ ih _=>Mg ih es)
 (λes _ ih _=>Me ih es)
 (λa os bs _ _ ih _=>bin (ih.e a) λx=>vb F ih x os bs)
 (λc a b _ _ _ ih _=>bin (ih.b c) λt=>Bool.rec (ih.b b) (ih.b a) t)
 (λ_ _ _ _ d=>d)
 (λ_ _ _ _ _ d=>d)
 (λ_ _ _ _ _ _ _ _ d=>d)
 (λ_ _ _ _ d=>d)
 (λ_ _ _ _ _ d=>d)
 (λ_ _ _ _ _ _ d=>d)
 (λ_ _ _ d=>d)
 (λ_ d=>d)
 () (λ_ _ _ _=>()) () (λ_ _=>()) e ih (bin (ih.e e) λv=>opt (uH F v))
def dB(l:List Sm):MS jZ:=List.rec (dq .next) (λs _ r=>bin (ih.s s) λf=>jZ.rec r (λv=>dq (.ret v)) f) l
def mI(xs:List Nat)(vs:List SV):MS Unit:=List.rec (λvs=>List.rec (dq ()) (λ_ _ _=>c5) vs) (λx _ r vs=>List.rec c5 (λv vs _=>bin (bn x v) λ_=>r vs) vs) xs vs
def p8(t:Ag)(v:SV):MS Unit:= @Ag.rec (λ_=>MS Unit) (λx=>bn x v)
 (λo x=>bin (ih.e o) λa=>mH F a x v)
 (λo i=>bin (ih.e o) λa=>bin (ih.e i) λk=>so F a k v)
 (λxs=>qT c5 v (mI xs)) t
def mj{α:Type}(m:MS α):MS α:=λS=>O.rec .no (λa S'=> .ok a S') (λ_ _ _ _ _=> .no) (m S)
def Ht(s j:Nat)(vs:List SV):MS Unit:=bin (gt s j) λo=>jL c5 o λb us=>bN c5 b (ask (SV.beqs us vs))
def wJ(cw:MS Unit)(t:Ag)(b:List Sm)(l:List SV):MS jZ:=List.rec (dq .next) (λv _ r=>bin (p8 F ih t v) λ_=>bin (dB ih b) λf=>jZ.rec (bin cw λ_=>r) (λu=>dq (.ret u)) f) l
noncomputable def Ja:List SV->Option (List V)
 | []=>some []
 |v::r=>qI none v λx c=>gD (Nat.beq x 0) ((Ja r).map (.int c::·))
def A7{α:Type}(e:List (Nat×SV))(m:MS α):MS α:=λS=>O.rec .no (λa S'=> .ok a ⟨S'.hp,e⟩) (λ_ s j c S'=> .ex true s j c ⟨S'.hp,e⟩) (m S)
def BX(c s j:Nat):MS jZ:=bin (gt s j) λo=>jI c5 o λc' fs=>iJ (pt.isExc c'&&(Nat.beq c c'&& !fs.isEmpty)) (bin (pu F s j (.gone c' fs)) λ_=>λS=> .ex false s j c' S)
def sq(c s:Nat)(args:List SV):MS SV:=o8 (pt.init c) λo=>o8 o λf=>iJ (pt.isExc c&&Nat.ble (fp args) ay) (A2 F ih c s f args)
def L8(x:Nat)(h:MS jZ):MS jZ:=bin (mj h) λf S=> .ok f ⟨S.hp,IR x S.env⟩
def FS(c x s j c':Nat)(h:MS jZ):MS jZ:=bin (gt s j) λo=>jG c5 o λLU fs=>iJ (Nat.beq c c'&&Nat.beq c' LU) (bin (pu F s j (.caught c fs)) λ_=>bin (bn x (.obj s j)) λ_=>L8 x h)
def IV(c x:Nat)(m:MS jZ)(h:MS jZ):MS jZ:=λS=>O.rec .no (λf S'=> .ok f S') (λje s j c' S'=>Bool.rec .no (FS F c x s j c' h S') je) (m S)
def Hw(t:Ag)(b:List Sm)(v:SV):MS jZ:=match v with
 | .tup vs=>mj (wJ F ih (dq ()) t b vs)
 | .obj s j=>bin (gt s j) λo=>jL c5 o λbb vs=>bN c5 bb (iJ (Nat.ble (fp vs) ay) (mj (wJ F ih (Ht s j vs) t b vs)))
 |_=>c5
def Md(t:Ag)(it:It)(b:List Sm):MS jZ:=match it with
  | .range args=>bin (rC ih args) λvs=>o8 (Ja vs) λus=>o8 (f0 us) λl=>mj (wJ F ih (dq ()) t b (lY l))
  | .over e=>bin (ih.e e) λv=>Hw F ih t b v
def Nj(x:Nat)(o:Op)(e:Ex):MS jZ:=bin (lo x) λa=>bin (ih.e e) λb=>bin (opt (Jk o a b)) λv=>bin (bn x v) λ_=>dq .next
def Nk(a:Ex)(x:Nat)(o:Op)(e:Ex):MS jZ:=bin (ih.e a) λq=>bin (A6 q x) λu=>bin (ih.e e) λb=>bin (opt (Jk o u b)) λv=>bin (mH F q x v) λ_=>dq .next
def SY(c:Ex)(b:List Sm):MS jZ:=mj (bin (ih.b c) λt=>Bool.rec (dq .next) (bin (dB ih b) λf=>jZ.rec (ih.s (.wh c b)) (λv=>dq (.ret v)) f) t)
def xp(c s:Nat)(args:List Ex):MS jZ:=bin (rC ih args) λvs=>bin (sq F ih c s vs) λo=>qO c5 o (BX F c)
def sS(s:Sm):MS jZ:= @Sm.rec (λ_=>Fx->Hh->MS jZ) (λ_=>Unit)
 (λe F ih=>bin (ih.e e) λ_=>dq .next)
 (λt e F ih=>bin (ih.e e) λv=>bin (p8 F ih t v) λ_=>dq .next)
 (λx o e F ih=>Nj ih x o e)
 (λa x o e F ih=>Nk F ih a x o e)
 (λc t e _ _ F ih=>bin (ih.b c) λb=>Bool.rec (dB ih e) (dB ih t) b)
 (λc b _ F ih=>SY ih c b)
 (λt it b _ F ih=>Md F ih t it b)
 (λo F ih=>Option.rec (dq (.ret .none)) (λe=>bin (ih.e e) λv=>dq (.ret v)) o)
 (λb c x h _ _ F ih=>IV F c x (dB ih b) (dB ih h))
 (λc s args F ih=>xp F ih c s args)
 (λ_ _=>c5)
 () (λ_ _ _ _=>()) s F ih
def EI(xs:List Nat)(vs:List SV):Option (List (Nat×SV)):=List.rec (λvs=>List.rec (some []) (λ_ _ _=>none) vs) (λx _ r vs=>List.rec none (λv vs _=>Option.rec none (λq=>some ((x,v)::q)) (r vs)) vs) xs vs
def PP(f:Nat)(args:List SV):MS SV:=Option.rec c5 (λfn=>Option.rec c5 (λenv=>bin ev λkU=>A7 kU (bin (se env) λ_=>bin (dB ih fn.body) λr=>jZ.rec (dq .none) (λv=>dq v) r)) (EI fn.params args)) (pt.fn f)
def Pe(args:List SV)(l:List (List SV×SV)):Option SV:=List.rec none (λp _ ih=>Bool.rec ih (some p.2) (SV.beqs p.1 args)) l
def sC(n:Nat)(f:Nat)(args:List SV):MS SV:=Option.rec (PP ih f args) (λl=>Option.rec (PP ih f args) (λr=>bin (λS=>Bool.rec .no (.ok () S) (F.pre S&&Nat.ble F.cf n)) λ_=>dq r) (Pe args l)) (bJ f F.ca)
end
def pe(F:Fx)(n:Nat):Hh:=Nat.rec ⟨λ_=>c5,λ_=>c5,λ_=>c5,λ_ _=>c5⟩ (λn ih=>⟨sE F ih,sT F ih,sS F ih,sC F ih (n+1)⟩) n
end
structure Ro where
 int:Nat->Int
 val:Nat->V
 str:Nat->List Nat
 base:Nat->List V
 dbase:Nat->List (V×V)
 ix:Nat->Nat->Nat
 len0:Nat->Nat
section
variable(ρ:Ro)
mutual
noncomputable def ah:SV->V
 | .none=> .none
 | .bool b=> .bool b
 | .int x c=> .int (ρ.int x+c)
 | .str l=> .str l
 | .atom n=> .str (ρ.str n)
 | .tup vs=> .tup (ax vs)
 | .obj s j=> .obj s (ρ.ix s j)
 | .glob a=> .glob a
 | .vo s i=> .obj s i
 | .any n=>ρ.val n
noncomputable def ax:List SV->List V
 | []=> []
 |v::r=>ah v::ax r
end
theorem dO:ax ρ []= []:=rfl
theorem c7(v:SV)(r:List SV):ax ρ (v::r)=ah ρ v::ax ρ r:=rfl
theorem IP:ah ρ .none= .none:=rfl
theorem LR(b:Bool):ah ρ (.bool b)= .bool b:=rfl
theorem lP(x:Nat)(c:Int):ah ρ (.int x c)= .int (ρ.int x+c):=rfl
theorem Ev(l:List Nat):ah ρ (.str l)= .str l:=rfl
theorem IO(n:Nat):ah ρ (.atom n)= .str (ρ.str n):=rfl
theorem iE(l:List SV):ah ρ (.tup l)= .tup (ax ρ l):=rfl
theorem uv(s j:Nat):ah ρ (.obj s j)= .obj s (ρ.ix s j):=rfl
theorem LQ(a:Nat):ah ρ (.glob a)= .glob a:=rfl
theorem Lb(s i:Nat):ah ρ (.vo s i)= .obj s i:=rfl
theorem Lc(n:Nat):ah ρ (.any n)=ρ.val n:=rfl
noncomputable def bF:List (Nat×SV)->List (Nat×V)
 | []=> []
 |p::r=>(p.1,ah ρ p.2)::bF r
noncomputable def c9:List (SV×SV)->List (V×V)
 | []=> []
 |p::r=>(ah ρ p.1,ah ρ p.2)::c9 r
def Be:V->Nat
 | .int i=>i.toNat
 |_=>0
def eC:Bs->List V
 | .nil=> []
 | .var b=>ρ.base b
 | .set b i v=>setNth (ah ρ v) (ρ.base b) (Be (ah ρ i))
def over:List (SV×SV)->List (V×V)->List (V×V)
 | [],l=>l
 |p::r,l=>eW (ah ρ p.1) (ah ρ p.2) (over r l)
theorem We(l:List (V×V)):over ρ [] l=l:=rfl
theorem PV(p:SV×SV)(r:List (SV×SV))(l:List (V×V)):over ρ (p::r) l=eW (ah ρ p.1) (ah ρ p.2) (over ρ r l):=rfl
def gI:Option Nat->List (SV×SV)->List (V×V)
 |none,es=>c9 ρ es
 |some b,es=>over ρ es (ρ.dbase b)
def aC:SO->bt
 | .inst c fs=> .inst c (bF ρ fs)
 | .list b vs=> .list (eC ρ b++ax ρ vs)
 | .dict b kd es=> .dict kd (gI ρ b es)
 | .gone c fs=> .gone c (bF ρ fs)
 | .caught c fs=> .caught c (bF ρ fs)
structure jY(F:Fx)(aI:St)(S:fk)(σ:St):Prop where
 env:σ.env=bF ρ S.env
 at_:∀s j o,S.get s j=some o->nth (σ.heap s) (ρ.ix s j)=some (aC ρ o)
 cnt:∀s L,S.hp.get s=some L->md F s≠4->(σ.heap s).length=ρ.len0 s+L.cnt
 fx:∀s,md F s≠4->LZ (md F s)=false->(σ.heap s).length=(aI.heap s).length
 ro:∀s,yi (md F s)=false->∀i o,nth (aI.heap s) i=some o->nth (σ.heap s) i=some o
 inj:∀s j k a b,S.get s j=some a->S.get s k=some b->ρ.ix s j=ρ.ix s k->j=k
 fr:∀s i o,nth (aI.heap s) i=some o->(∀j,S.get s j≠none->ρ.ix s j≠i)->nth (σ.heap s) i=some o
 len:∀s,(aI.heap s).length<=(σ.heap s).length
structure dY(F:Fx)(aI:St):Prop where
 z:ρ.int 0=0
 bd:∀x p,bJ x F.bd=some p->p.1<=ρ.int x/\ρ.int x<=p.2
 st:∀n,rn (ρ.str n)=true
 bn:∀b,(ρ.base b).length<=500
 dn:∀b,(ρ.dbase b).length<=500
 bl:∀b v,bJ b F.bl=some v->ah ρ v= .int ((ρ.base b).length:Nat)
 it:∀b l k v,bJ b F.it=some l->IB k l=some v->∃n:Nat,ah ρ k= .int n/\n<=500/\nth (ρ.base b) n=some (ah ρ v)
 dt:∀b l k v,bJ b F.dt=some l->IB k l=some v->aO (ah ρ k) (ρ.dbase b)=some (ah ρ v)
 op:∀o a b l v,bJ (nA o) F.op=some l->wx a b l=some v->bY o (ah ρ a) (ah ρ b)=some (ah ρ v)
 eq:∀a b t,wx a b F.eq=some t->(t=true↔ah ρ a=ah ρ b)
 le:∀a b t,wx a b F.le=some t->∀i j,ah ρ a= .int i->ah ρ b= .int j->t=decide (i<=j)
 nw:∀s k,ρ.ix s (1000+k)=ρ.len0 s+k
 l0:∀s,ρ.len0 s=(aI.heap s).length
 ca:∀f l args r,bJ f F.ca=some l->Pe args l=some r->∀S σ,jY ρ F aI S σ->F.pre S=true->∀m,F.cf<=m->∃σ',(run pt m).c f (ax ρ args) σ=some (.ok (ah ρ r),σ')/\jY ρ F aI S σ'
end
theorem bM(x:Nat)(p:Nat×α)(l:List (Nat×α)):bJ x (p::l)=bif Nat.beq p.1 x then some p.2 else bJ x l:=by
 dsimp only[bJ];cases Nat.beq p.1 x<;>rfl
theorem sz(x:Nat)(v:α)(p:Nat×α)(l:List (Nat×α)):z7 x v (p::l)=bif Nat.beq p.1 x then(p.1,v)::l else p::z7 x v l:=by
 dsimp only[z7];cases Nat.beq p.1 x<;>rfl
theorem D1(x:Nat)(p:Nat×α)(l:List (Nat×α)):IR x (p::l)=bif Nat.beq p.1 x then IR x l else p::IR x l:=by
 dsimp only[IR];cases Nat.beq p.1 x<;>rfl
theorem aB:Nat.beq a b=true↔a=b:=Nat.beq_eq ▸ Iff.rfl
theorem jh(h:Nat.beq a b=false):a≠b:=λe=>by rw[aB.mpr e]at h;exact ng h
theorem F9(x y:Nat)(v:α):∀l:List (Nat×α),bJ y (z7 x v l)=bif Nat.beq x y then some v else bJ y l:=by
 intro l
 induction l with
 |nil=>simp only[z7,bM]
 |cons p l ih=>
  skip;rw[sz];refine cX (Nat.beq p.1 x) (λh=>?_) λh=>?_
  ·
   rw[h];simp only[Z2,bM,(aB.mp h)];cases Nat.beq x y<;>rfl
  ·
   rw[h];simp only[zaY,bM,ih];refine cX (Nat.beq p.1 y) (λhy=>?_) λhy=>?_
   ·
    refine cX (Nat.beq x y) (λhx=>?_) λhx=>?_
    ·exact absurd ((aB.mp hy).trans (aB.mp hx).symm) (jh h)
    ·rw[hx];rfl
   ·rw[hy];rfl
noncomputable def dX {α:Type} (k:Nat):Tr α->Nat->Option α
 | .e,_=>none
 | .f q v,_=>bif Nat.beq q k then some v else none
 | .n l r,j=>bif Nat.beq (Nat.mod j 2) 0 then dX k l (Nat.div j 2)else dX k r (Nat.div j 2)
theorem YK(k j:Nat):dX k (.e:Tr α) j=none:=rfl
theorem G6(k q:Nat)(v:α)(j:Nat):dX k (.f q v) j=bif Nat.beq q k then some v else none:=rfl
theorem G5(k:Nat)(l r:Tr α)(j:Nat):dX k (.n l r) j=bif Nat.beq (Nat.mod j 2) 0 then dX k l (Nat.div j 2)else dX k r (Nat.div j 2):=rfl
noncomputable def kZ {α:Type} (k:Nat) (v:α):Tr α->Nat->Tr α
 | .e,_=> .e
 | .f q u,_=>bif Nat.beq q k then .f q v else .f q u
 | .n l r,j=>bif Nat.beq (Nat.mod j 2) 0 then .n (kZ k v l (Nat.div j 2)) r else .n l (kZ k v r (Nat.div j 2))
theorem Yw(k:Nat)(v:α)(j:Nat):kZ k v .e j= .e:=rfl
theorem O8(k:Nat)(v:α)(q:Nat)(u:α)(j:Nat):kZ k v (.f q u) j=bif Nat.beq q k then .f q v else .f q u:=rfl
theorem O7(k:Nat)(v:α)(l r:Tr α)(j:Nat):kZ k v (.n l r) j=bif Nat.beq (Nat.mod j 2) 0 then .n (kZ k v l (Nat.div j 2)) r else .n l (kZ k v r (Nat.div j 2)):=rfl
theorem Tr.get_eq(t:Tr α)(k:Nat):t.get k=dX k t k:=by
 suffices h:∀(t:Tr α) (j:Nat),(Tr.rec (motive:=λ_=>Nat->Option α) (λ_=>none) (λq v _=>Bool.rec none (some v) (Nat.beq q k)) (λ_ _ il ir j=>Bool.rec (ir (Nat.div j 2)) (il (Nat.div j 2)) (Nat.beq (Nat.mod j 2) 0)) t:Nat->Option α) j=dX k t j from h t k
 intro t
 induction t with
 |e=>intro j;rfl
 |f q v=>intro j;simp only[G6];cases Nat.beq q k<;>rfl
 |n l r il ir=>intro j;simp only[G5,<-il,<-ir];cases Nat.beq (Nat.mod j 2) 0<;>rfl
theorem Tr.put_eq(t:Tr α)(k:Nat)(v:α):t.put k v=kZ k v t k:=by
 suffices h:∀(t:Tr α) (j:Nat),(Tr.rec (motive:=λ_=>Nat->Tr α) (λ_=> .e) (λq u _=>Bool.rec (.f q u) (.f q v) (Nat.beq q k)) (λl r il ir j=>Bool.rec (.n l (ir (Nat.div j 2))) (.n (il (Nat.div j 2)) r) (Nat.beq (Nat.mod j 2) 0)) t:Nat->Tr α) j=kZ k v t j from h t k
 intro t
 induction t with
 |e=>intro j;rfl
 |f q u=>intro j;simp only[O8];cases Nat.beq q k<;>rfl
 |n l r il ir=>intro j;simp only[O7,<-il,<-ir];cases Nat.beq (Nat.mod j 2) 0<;>rfl
theorem az(h:a≠b):Nat.beq a b=false:=by cases e:Nat.beq a b with|true=>exact absurd (aB.mp e) h|false=>rfl
theorem Go(k:Nat)(v:α):∀(t:Tr α) (j:Nat) (u:α),dX k t j=some u->dX k (kZ k v t j) j=some v:=by
 intro t
 induction t with
 |e=>intro _ _ h;exact nt h
 |f q w=>
  intro j u h;simp only[G6,O8]at h⊢;refine cX (Nat.beq q k) (λhq=>?_) λhq=>?_
  ·simp only[Z2,G6,hq]
  ·rw[hq]at h;exact nt h
 |n l r il ir=>
  intro j u h;simp only[G5,O7]at h⊢;cases hj:Nat.beq (Nat.mod j 2) 0 with
  |true=>rw[hj]at h;simp only[Z2,G5,hj];exact il _ u h
  |false=>rw[hj]at h;simp only[zaY,G5,hj];exact ir _ u h
theorem DD(k k':Nat)(v:α)(hk:k≠k'):∀(t:Tr α) (j j':Nat),dX k' (kZ k v t j) j'=dX k' t j':=by
 intro t
 induction t with
 |e=>intros;rfl
 |f q w=>
  intro j j';simp only[O8];refine cX (Nat.beq q k) (λhq=>?_) λhq=>?_
  ·rw[hq];have e:=aB.mp hq;subst e;simp only[Z2,G6,az hk,zaY]
  ·rw[hq];rfl
 |n l r il ir=>
  intro j j';simp only[O7];cases hj:Nat.beq (Nat.mod j 2) 0 with
  |true=>
   dsimp only[cond_true,G5];cases LJ:Nat.beq (Nat.mod j' 2) 0 with
   |true=>exact il _ _
   |false=>rfl
  |false=>
   dsimp only[cond_false,G5];cases LJ:Nat.beq (Nat.mod j' 2) 0 with
   |true=>rfl
   |false=>exact ir _ _
theorem Tr.get_put{t:Tr α}(h:t.get k=some u):(t.put k v).get k=some v:=by
 rw[Tr.get_eq]at h⊢;rw[Tr.put_eq];exact Go k v t k u h
theorem Tr.get_put_ne{t:Tr α}(hk:k≠k'):(t.put k v).get k'=t.get k':=by
 rw[Tr.get_eq,Tr.get_eq,Tr.put_eq];exact DD k k' v hk t k k'
theorem fk.get_def(S:fk)(s j:Nat):S.get s j=match S.hp.get s with|some L=>bJ j L.es|none=>none:=by
 unfold fk.get;cases S.hp.get s<;>rfl
section
variable{α β:Type}{ρ:Ro}{F:Fx}{aI:St}
def bf(ρ:Ro)(F:Fx)(aI:St)(d:α->β)(ms:MS α)(m:M β):Prop:=∀S σ,jY ρ F aI S σ->match ms S with
 | .no=>True
 | .ok a S'=>∃σ',m σ=some (.ok (d a),σ')/\jY ρ F aI S' σ'
 | .ex b s j c S'=>∃σ',m σ=some (.exc b s (ρ.ix s j) c,σ')/\jY ρ F aI S' σ'
theorem aD:bf ρ F aI d c5 m:=λ_ _ _=>trivial
theorem aq(h:d a=b):bf ρ F aI d (dq a) (M.pure b):=λS σ hs=>(al σ (by(refine(h) ▸?_);rfl) hs)
theorem Cr(m:MS α)(f:α->MS γ)(S:fk):bin m f S=match m S with| .no=> .no| .ok a S'=>f a S'| .ex b s j c S'=> .ex b s j c S':=by
 unfold bin;cases m S<;>rfl
theorem af{ms:MS α}(h:bf ρ F aI d ms m)(k:∀a,bf ρ F aI d' (f a) (g (d a))):bf ρ F aI d' (bin ms f) (M.bind m g):=by
 intro S σ hs;have h1:=h S σ hs;rw[Cr];cases e:ms S with
 |no=>trivial
 |ok a S'=>
  rw[e]at h1
  (refine U h1 λσ' e1 h2=>?_;clear h1)
  rw[M.bind,e1];exact(k a S' σ' h2)
 |ex b s j c S'=>
  rw[e]at h1
  (refine U h1 λσ' e1 h2=>?_;clear h1)
  exact(al σ' (by simp only[M.bind,e1]) h2)
theorem fU{o:Option α}{o':Option β}(h:∀a,o=some a->o'=some (d a)):bf ρ F aI d (opt o) (M.opt o'):=by
 intro S σ hs;cases o with
 |none=>trivial
 |some a=>exact(al σ (by simp only[M.opt,h a rfl]) hs)
theorem N3(s j:Nat)(S:fk):gt s j S=match S.get s j with|some o=> .ok o S|none=> .no:=by
 unfold gt;cases S.get s j<;>rfl
theorem iR:bf ρ F aI (aC ρ) (gt s j) (M.get s (ρ.ix s j)):=by
 intro S σ hs;rw[N3];refine dI (S.get s j) (λe=>?_) λo e=>?_
 ·(refine(e).symm ▸?_);trivial
 ·(refine(e).symm ▸?_);exact(al σ (by simp only[M.get,St.get,hs.at_ s j o e]) hs)
end
theorem bk:∀{l:List α} {n:Nat} {a:α},nth l n=some a->n<l.length
 | [],_,_,h=>nomatch h
 |a::l,0,_,_=>zbr _
 |a::l,n+1,b,h=>Nat.succ_lt_succ (bk (l:=l) h)
theorem gm(b:α):∀{l:List α} {n:Nat} {a:α},nth l n=some a->nth (setNth b l n) n=some b
 | [],_,_,h=>nomatch h
 |a::l,0,_,_=>rfl
 |a::l,n+1,c,h=>gm b (l:=l) h
theorem eu(b:α):∀{l:List α} {n m:Nat},n≠m->nth (setNth b l n) m=nth l m
 | [],_,_,_=>rfl
 |a::l,0,0,h=>absurd rfl h
 |a::l,0,m+1,_=>rfl
 |a::l,n+1,0,_=>rfl
 |a::l,n+1,m+1,h=>eu b (l:=l) (λe=>h (YV _ e))
theorem ia(b:α):∀(l:List α) (n:Nat),(setNth b l n).length=l.length
 | [],_=>rfl
 |a::l,0=>rfl
 |a::l,n+1=>YV Nat.succ (ia b l n)
theorem eN:∀{l:List α} {n:Nat} {a:α} (r:List α),nth l n=some a->nth (l++r) n=some a
 | [],_,_,_,h=>nomatch h
 |a::l,0,_,_,h=>h
 |a::l,n+1,_,r,h=>eN (l:=l) r h
theorem b7:∀(l:List α) (n:Nat) (r:List α),nth (l++r) (l.length+n)=nth r n:=by
 intro l
 induction l with
 |nil=>intro n r;rw[zbA,zbq];rfl
 |cons a l ih=>intro n r;rw[zbn,show l.length+1+n=(l.length+n)+1 by exact ZQ _ _ _];exact ih n r
section
variable{ρ:Ro}{F:Fx}{aI:St}
theorem jN(σ:St)(s i:Nat)(o:bt)(t:Nat):(σ.put s i o).heap t=bif Nat.beq t s then setNth o (σ.heap s) i else σ.heap t:=by
 unfold St.put;dsimp only;cases Nat.beq t s<;>rfl
theorem fF(σ:St)(s:Nat)(o:bt)(t:Nat):(σ.add s o).heap t=bif Nat.beq t s then σ.heap s++ [o]else σ.heap t:=by
 unfold St.add;dsimp only;cases Nat.beq t s<;>rfl
theorem Nn(s j:Nat)(o:SO)(S:fk):pu F s j o S=match S.hp.get s with|some L=>(match bJ j L.es with|some _=>(match(Nat.ble 1000 j||yi (md F s))with|true=> .ok () ⟨S.hp.put s ⟨L.cnt,z7 j o L.es⟩,S.env⟩|false=> .no)|none=> .no)|none=> .no:=by
 unfold pu;cases S.hp.get s with
 |none=>rfl
 |some L=>
  dsimp only;cases bJ j L.es with
  |none=>rfl
  |some _=>dsimp only;cases(Nat.ble 1000 j||yi (md F s))<;>rfl
theorem Nv(s:Nat)(o:SO)(S:fk):nw F s o S=match S.hp.get s with|some L=>(match LZ (md F s)with|true=> .ok (.obj s (1000+L.cnt)) ⟨S.hp.put s ⟨L.cnt+1,(1000+L.cnt,o)::L.es⟩,S.env⟩|false=> .no)|none=> .no:=by
 unfold nw;cases S.hp.get s with
 |none=>rfl
 |some L=>cases LZ (md F s)<;>rfl
theorem JA(hf:dY ρ F aI)(hm:aC ρ o=mo):bf ρ F aI id (pu F s j o) (M.put s (ρ.ix s j) mo):=by
 intro S σ hs;subst hm;rw[Nn];refine dI (S.hp.get s) (λe=>?_) λL e=>?_
 ·(refine(e).symm ▸?_);trivial
 ·
  rw[e];dsimp only;refine dI (bJ j L.es) (λe2=>?_) λo0 e2=>?_
  ·(refine(e2).symm ▸?_);trivial
  ·
   rw[e2];dsimp only;cases ew:(Nat.ble 1000 j||yi (md F s))with
   |false=>trivial
   |true=>
   have known:S.get s j=some o0:=by rw[(show∀k,S.get s k=bJ k L.es fromλk=>by rw[fk.get_def,e]),e2]
   let z0:=fk.mk (S.hp.put s ⟨L.cnt,z7 j o L.es⟩) S.env
   have g1:∀k,z0.get s k=bif Nat.beq j k then some o else S.get s k:=λk=>by
    rw[fk.get_def];rw[Tr.get_put e];dsimp only;rw[F9,(show∀k,S.get s k=bJ k L.es fromλk=>by rw[fk.get_def,e])]
   have g2:∀t k,t≠s->z0.get t k=S.get t k:=λt k ht=>by
    rw[fk.get_def,fk.get_def];rw[Tr.get_put_ne (zak ht)]
   have g3:∀t k,z0.get t k≠none->S.get t k≠none:=λt k hn=>by
    by_cases ht:t=s
    ·subst ht;rw[g1]at hn;refine cX (Nat.beq j k) (λhj=>?_) λhj=>?_
     ·rw[<-aB.mp hj,known];exact nofun
     ·rw[hj]at hn;exact hn
    ·rw[g2 t k ht]at hn;exact hn
   have hl:∀t,((σ.put s (ρ.ix s j) (aC ρ o)).heap t).length=(σ.heap t).length:=λt=>by
    rw[jN];cases ht:Nat.beq t s with
    |true=>rw[Z2,ia,aB.mp ht]
    |false=>rfl
   refine⟨σ.put s (ρ.ix s j) (aC ρ o),rfl,hs.env,?_,?_,?_,?_,(λt a b x y ha hb he=>by
    obtain⟨x',hx⟩:=Option.ne_none_iff_exists'.mp (g3 t a (by rw[ha];exact nofun));obtain⟨y',hy⟩:=Option.ne_none_iff_exists'.mp (g3 t b (by rw[hb];exact nofun));exact hs.inj t a b _ _ hx hy he),?_,?_⟩
   ·intro t k o' ho;rw[jN];by_cases ht:t=s
    ·subst ht;rw[aB.mpr rfl,Z2];rw[g1]at ho;refine cX (Nat.beq j k) (λhj=>?_) λhj=>?_
     ·
      rw[hj]at ho;obtain rfl:=YZ ho
      (refine(aB.mp hj) ▸?_)
      exact gm _ (hs.at_ t j o0 known)
     ·
      rw[hj]at ho;rw[eu]
      ·exact hs.at_ t k o' ho
      ·intro he;exact jh hj (hs.inj t j k _ _ known ho he)
    ·(refine(az ht).symm ▸?_)
     rw[g2 t k ht]at ho;exact hs.at_ t k o' ho
   ·intro t L' hL hd;rw[hl];by_cases ht:t=s
    ·subst ht;rw[Tr.get_put e]at hL;obtain rfl:=YZ hL;exact hs.cnt t L e hd
    ·skip;rw[Tr.get_put_ne (zak ht)]at hL;exact hs.cnt t L' hL hd
   ·intro t h4 ha;rw[hl];exact hs.fx t h4 ha
   ·intro t hw i o' ho;have h1:=hs.ro t hw i o' ho;rw[jN];by_cases ht:t=s
    ·subst ht;rw[hw,zbF]at ew;have hj:=YX ew;have K4:ρ.ix t j=ρ.len0 t+(j - 1000):=by rw[<-hf.nw,show 1000+(j - 1000)=j by exact zaq ‹_›]
     have RU:=bk ho;have Xe:=hf.l0 t;rw[aB.mpr rfl,Z2,eu _ (by rw[K4,Xe];exact ZP (zas _ RU))];exact h1
    ·rw[az ht];exact h1
   ·intro t i o' ho hk
    have Qu:=λj' hn=>hk j' ((show∀t k,S.get t k≠none->z0.get t k≠none fromλt k hn=>by
    by_cases ht:t=s
    ·subst ht;rw[g1];cases hj:Nat.beq j k with
     |true=>exact nofun
     |false=>exact hn
    ·rw[g2 t k ht];exact hn) t j' hn)
    rw[jN];by_cases ht:t=s
    ·subst ht;rw[aB.mpr rfl,Z2,eu _ (Qu j (by rw[known];exact nofun))];exact hs.fr t i o' ho Qu
    ·rw[az ht];exact hs.fr t i o' ho Qu
   ·intro t;rw[hl];exact hs.len t
theorem j5(hf:dY ρ F aI){s:Nat}(hm:aC ρ o=mo):bf ρ F aI (ah ρ) (nw F s o) (M.new s mo):=by
 intro S σ hs;subst hm;rw[Nv];refine dI (S.hp.get s) (λe=>?_) λL e=>?_
 ·(refine(e).symm ▸?_);trivial
 ·
  (refine(e).symm ▸?_)
  cases ed:LZ (md F s)with
  |false=>trivial
  |true=>
   have h4:md F s≠4:=λh=>by rw[h]at ed;exact nf ed
   have ef:=hs.cnt s L e h4;have K4:ρ.ix s (1000+L.cnt)=(σ.heap s).length:=by rw[hf.nw,ef]
   let z0:=fk.mk (S.hp.put s ⟨L.cnt+1,(1000+L.cnt,o)::L.es⟩) S.env
   have g1:∀k,z0.get s k=bif Nat.beq (1000+L.cnt) k then some o else S.get s k:=λk=>by
    rw[fk.get_def];rw[Tr.get_put e];dsimp only;rw[bM,(show∀k,S.get s k=bJ k L.es fromλk=>by rw[fk.get_def,e])]
   have g2:∀t k,t≠s->z0.get t k=S.get t k:=λt k ht=>by
    rw[fk.get_def,fk.get_def];rw[Tr.get_put_ne (zak ht)]
   refine⟨σ.add s (aC ρ o),by simp only[M.new,uv,K4],hs.env,?_,?_,?_,?_,?_,?_,?_⟩
   ·intro t k o' ho;rw[fF];by_cases ht:t=s
    ·subst ht;rw[aB.mpr rfl,Z2];rw[g1]at ho;refine cX (Nat.beq (1000+L.cnt) k) (λhj=>?_) λhj=>?_
     ·
      rw[hj]at ho;obtain rfl:=YZ ho
      (refine(aB.mp hj) ▸?_;refine(K4).symm ▸?_)
      exact b7 _ 0 _
     ·
      rw[hj]at ho;exact eN _ (hs.at_ t k o' ho)
    ·rw[az ht];rw[g2 t k ht]at ho;exact hs.at_ t k o' ho
   ·intro t L' hL hd;rw[fF];by_cases ht:t=s
    ·subst ht;rw[Tr.get_put e]at hL;obtain rfl:=YZ hL;rw[aB.mpr rfl,Z2,Zg,ef];rfl
    ·skip;rw[Tr.get_put_ne (zak ht)]at hL;rw[az ht];exact hs.cnt t L' hL hd
   ·intro t h4 ha;rw[fF];by_cases ht:t=s
    ·subst ht;rw[ed]at ha;exact ng ha
    ·rw[az ht];exact hs.fx t h4 ha
   ·intro t hw i o' ho;have h1:=hs.ro t hw i o' ho;rw[fF];by_cases ht:t=s
    ·subst ht;rw[aB.mpr rfl,Z2];exact eN _ h1
    ·(refine(az ht).symm ▸?_);exact h1
   ·intro t a b x y ha hb he;by_cases ht:t=s
    ·subst ht;rw[g1]at ha hb;refine cX (Nat.beq (1000+L.cnt) a) (λh1=>?_) λh1=>?_
     ·
      cases h2:Nat.beq (1000+L.cnt) b with
      |true=>exact(aB.mp h1).symm.trans (aB.mp h2)
      |false=>
       rw[h2]at hb;have:=bk (hs.at_ t b y hb);rw[<-he,<-aB.mp h1,K4]at this;exact absurd this (ZX _)
     ·
      rw[h1]at ha;cases h2:Nat.beq (1000+L.cnt) b with
      |true=>
       have:=bk (hs.at_ t a x ha);rw[he,<-aB.mp h2,K4]at this;exact absurd this (ZX _)
      |false=>rw[h2]at hb;exact hs.inj t a b x y ha hb he
    ·rw[g2 t a ht]at ha;rw[g2 t b ht]at hb;exact hs.inj t a b x y ha hb he
   ·intro t i o' ho hk
    have:=hs.fr t i o' ho (λj' hn=>hk j' ((show∀t k,S.get t k≠none->z0.get t k≠none fromλt k hn=>by
    by_cases ht:t=s
    ·subst ht;rw[g1];cases hj:Nat.beq (1000+L.cnt) k with
     |true=>exact nofun
     |false=>exact hn
    ·rw[g2 t k ht];exact hn) t j' hn))
    rw[fF];by_cases ht:t=s
    ·subst ht;rw[aB.mpr rfl,Z2];exact eN _ this
    ·(refine(az ht).symm ▸?_);exact this
   ·intro t;rw[fF];have:=hs.len t;by_cases ht:t=s
    ·subst ht;rw[aB.mpr rfl,Z2,Zg];exact ZM ‹_›
    ·(refine(az ht).symm ▸?_);exact this
end
theorem eO:Ac a b=true↔a=b:=by
 cases a with
 |ofNat n=>
  cases b with
  |ofNat m=>exact⟨λh=>YV Int.ofNat (aB.mp h),λh=>aB.mpr (Int.ofNat.inj h)⟩
  |negSucc m=>exact⟨λh=>nf h,λh=>nomatch h⟩
 |negSucc n=>
  cases b with
  |ofNat m=>exact⟨λh=>nf h,λh=>nomatch h⟩
  |negSucc m=>exact⟨λh=>YV Int.negSucc (aB.mp h),λh=>aB.mpr (Int.negSucc.inj h)⟩
theorem gh:wy a b=true↔a<=b:=by
 cases a<;>cases b<;>dsimp only[wy]
 all_goals simp only[Nat.ble_eq,Bool.false_eq_true,false_iff,true_iff,Int.ofNat_eq_natCast]
 all_goals lia
theorem zC(h:wy a b=false):b<a:=zaN.mp λe=>zaF (h.symm.trans (gh.mpr e))
theorem ib:∀{b:List Nat},uu a b=true↔a=b:=by
 induction a with
 |nil=>
  intro b;cases b with
  |nil=>exact⟨λ_=>rfl,λ_=>rfl⟩
  |cons _ _=>exact⟨λh=>nf h,λh=>nomatch h⟩
 |cons x a i=>
  intro b;cases b with
  |nil=>exact⟨λh=>nf h,λh=>nomatch h⟩
  |cons y b=>
   have e:uu (x::a) (y::b)=bif Nat.beq x y then uu a b else false:=by
    show(Bool.rec false (uu a b) (Nat.beq x y):Bool)=_;cases Nat.beq x y<;>rfl
   (refine(e).symm ▸?_)
   cases h:Nat.beq x y with
   |true=>rw[aB.mp h];exact⟨λh=>YV _ (i.mp h),λh=>i.mpr (zaP h).2⟩
   |false=>exact⟨λh=>nf h,λe=>absurd (zaP e).1 (jh h)⟩
theorem jA(l:List α):∀n:Nat,rE l n=nth l n:=by
 induction l with
 |nil=>intro n;rfl
 |cons a l i=>intro n;cases n;rfl;exact i _
theorem FN(b:α)(l:List α):∀n:Nat,L4 b l n=setNth b l n:=by
 induction l with
 |nil=>intro n;rfl
 |cons a l i=>intro n;cases n;rfl;exact YV (a::·) (i _)
theorem cW(l:List α):fp l=l.length:=by
 induction l with
 |nil=>rfl
 |cons a l i=>exact YV Nat.succ i
theorem vY(x y:Nat)(v:α)(r:List (Nat×α)):aN x ((y,v)::r)=bif Nat.beq y x then some v else aN x r:=by
 show(match Nat.beq y x with|true=>some v|false=>aN x r)=_;cases Nat.beq y x<;>rfl
theorem bC(x y v:V)(r:List (V×V)):aO x ((y,v)::r)=bif y.beq x then some v else aO x r:=by
 show(match y.beq x with|true=>some v|false=>aO x r)=_;cases y.beq x<;>rfl
section
variable{ρ:Ro}
theorem cT(l:List SV):(ax ρ l).length=l.length:=by
 induction l with
 |nil=>rfl
 |cons a l i=>exact YV Nat.succ i
theorem jQ:∀{n:Nat},nth l n=some v->nth (ax ρ l) n=some (ah ρ v):=by
 induction l with
 |nil=>intro n h;exact nt h
 |cons a l i=>
  intro n h;cases n with
  |zero=>exact YV (some<|ah ρ ·) (si h)
  |succ n=>exact i h
theorem mQ(a b:List SV):ax ρ (a++b)=ax ρ a++ax ρ b:=by
 induction a with
 |nil=>rfl
 |cons x a i=>exact YV (ah ρ x::·) i
theorem oZ(a:List SV):∀n:Nat,ax ρ (a.take n)=(ax ρ a).take n:=by
 induction a with
 |nil=>intro n;cases n<;>rfl
 |cons x a i=>intro n;cases n;rfl;exact YV (ah ρ x::·) (i _)
theorem o2(a:List SV):∀n:Nat,ax ρ (a.drop n)=(ax ρ a).drop n:=by
 induction a with
 |nil=>intro n;cases n<;>rfl
 |cons x a i=>intro n;cases n;rfl;exact i _
theorem sZ(lo hi:Option Nat)(a:List SV):ax ρ (cutL lo hi a)=cutL lo hi (ax ρ a):=by
 cases lo with
 |none=>
  cases hi with
  |none=>rfl
  |some h=>exact oZ a h
 |some d=>
  cases hi with
  |none=>exact o2 a d
  |some h=>exact(o2 _ d).trans (YV (List.drop d) (oZ a h))
theorem D4(v:SV)(a:List SV):∀n:Nat,ax ρ (setNth v a n)=setNth (ah ρ v) (ax ρ a) n:=by
 induction a with
 |nil=>intro n;rfl
 |cons x a i=>intro n;cases n;rfl;exact YV (ah ρ x::·) (i _)
theorem D5(v:SV)(n:Nat):ax ρ (List.replicate n v)=List.replicate n (ah ρ v):=by
 induction n with
 |zero=>rfl
 |succ n i=>exact YV (ah ρ v::·) i
theorem ky(x:Nat)(l:List (Nat×SV)):aN x (bF ρ l)=(bJ x l).map (ah ρ):=by
 induction l with
 |nil=>rfl
 |cons p l i=>
  rw[bM,bF,vY];cases Nat.beq p.1 x with
  |true=>rfl
  |false=>exact i
theorem s3(x:Nat)(v:SV)(l:List (Nat×SV)):putN x (ah ρ v) (bF ρ l)=bF ρ (z7 x v l):=by
 induction l with
 |nil=>rfl
 |cons p l i=>
  rw[sz,bF,O6];cases Nat.beq p.1 x with
  |true=>rfl
  |false=>exact YV (_::·) i
theorem D7(x:Nat)(l:List (Nat×SV)):lb x (bF ρ l)=bF ρ (IR x l):=by
 induction l with
 |nil=>rfl
 |cons p l i=>
  rw[D1,bF,Ug];cases Nat.beq p.1 x with
  |true=>exact i
  |false=>exact YV (_::·) i
theorem D6(l:List (Nat×SV)):(bF ρ l).length=l.length:=by
 induction l with
 |nil=>rfl
 |cons p l i=>exact YV Nat.succ i
theorem jR(l:List (SV×SV)):(c9 ρ l).length=l.length:=by
 induction l with
 |nil=>rfl
 |cons p l i=>exact YV Nat.succ i
theorem ft(h:b=true):false≠b:=λe=>zaF (e.trans h)
theorem beq_eq(h:SV.beq a b=true):a=b:=by
 refine SV.rec (motive_1:=λa=>∀b,SV.beq a b=true->a=b) (motive_2:=λa=>∀b,SV.beqs a b=true->a=b) ?_ ?_ ?_ ?_ ?_ ?_ ?_ ?_ ?_ ?_ ?_ ?_ a b h
 ·intro b h;exact(EP h (ft rfl)).1.symm
 ·intro x b h;refine U (Mh h (ft rfl)) λy q2 h=>?_;subst q2;rw[eq_of_beq h]
 ·intro x c b h;refine bR (jg h (ft rfl)) λy d q3 h=>?_;subst q3;rw[aB.mp (an h).1,eO.mp (an h).2]
 ·intro l b h;refine U (AF h (ft rfl)) λm q2 h=>?_;subst q2;rw[ib.mp h]
 ·intro n b h;obtain⟨m,rfl,h⟩:=Rr h (ft rfl);rw[aB.mp h]
 ·intro vs i b h;refine U (EO h (ft rfl)) λws q2 h=>?_;subst q2;rw[i _ h]
 ·intro s j b h;refine bR (IY h (ft rfl)) λt k q3 h=>?_;subst q3;rw[aB.mp (an h).1,aB.mp (an h).2]
 ·intro a b h;obtain⟨m,rfl,h⟩:=Rq h (ft rfl);rw[aB.mp h]
 ·intro s i b h;exact nf h
 ·intro n b h;obtain⟨m,rfl,h⟩:=Rp h (ft rfl);rw[aB.mp h]
 ·intro b h;exact(Zk.mp h).symm
 ·intro a as i1 i2 b h;cases b with
  |nil=>exact nf h
  |cons b bs=>rw[i1 _ (an h).1,i2 _ (an h).2]
theorem qw:∀{a b:List SV},SV.beqs a b=true->a=b:=by
 intro a
 induction a with
 |nil=>intro b h;exact(Zk.mp h).symm
 |cons x a i=>
  intro b h;cases b with
  |nil=>exact nf h
  |cons y b=>rw[beq_eq (an h).1,i (an h).2]
theorem fw:V.beq a b=true↔a=b:=V.beq_iff
theorem iX(h:a≠b):V.beq a b=false:=by
 cases e:V.beq a b with
 |true=>exact absurd (fw.mp e) h
 |false=>rfl
mutual
theorem mR:∀v:V,ρ.int 0=0->ah ρ (lS v)=v
 | .none,_=>rfl
 | .bool _,_=>rfl
 | .int i,h=>by simp only[WB,lP,h,ZA]
 | .str _,_=>rfl
 | .tup vs,h=>by simp only[WA,iE,jb vs h]
 | .obj _ _,_=>rfl
 | .glob _,_=>rfl
theorem jb:∀vs:List V,ρ.int 0=0->ax ρ (lY vs)=vs
 | [],_=>rfl
 |v::r,h=>by simp only[lY,c7,mR v h,jb r h]
end
variable{F:Fx}{aI:St}(hf:dY ρ F aI)
include hf
theorem gO(h:Hc F x=some p):p.1<=ρ.int x/\ρ.int x<=p.2:=by
 unfold Hc at h;refine cX (Nat.beq x 0) (λe=>?_) λe=>?_
 ·
  rw[e]at h;obtain rfl:=YZ h;rw[aB.mp e,hf.z];exact⟨ZN _,ZN _⟩
 ·rw[e]at h;exact hf.bd x p h
omit hf in
theorem vf{a b c d e f:Int}(h1:a<=b)(h2:b+c+1<=d+e)(h3:d<=f):a+c<f+e:=Int.lt_of_lt_of_le (zaE (Z1 h1 c) h2) (Z1 h3 e)
theorem B7(h:K0 F x c y d=some t):t=decide (ρ.int x+c<=ρ.int y+d):=by
 unfold K0 at h;refine cX (Nat.beq x y) (λe=>?_) λe=>?_
 ·
  rw[e]at h;obtain rfl:=si h
  (refine(aB.mp e).symm ▸?_)
  cases hi:wy c d with
  |true=>exact(Zn (Int.add_le_add_left (gh.mp hi) _)).symm
  |false=>exact(Zx (zaN.mpr (Int.add_lt_add_left (zC hi) _))).symm
 ·
  rw[e]at h;refine U (ob h) λp h1 h=>?_;refine U (ob h) λq h2 h=>?_;refine cX (wy (Int.add p.2 c) (Int.add q.1 d)) (λi1=>?_) λi1=>?_
  ·
   rw[i1]at h;obtain rfl:=si h;exact(Zn (Zr (Z1 (gO hf h1).2 c) (Zr (gh.mp i1) (Z1 (gO hf h2).1 d)))).symm
  ·
   rw[i1]at h;refine cX (wy (Int.add (Int.add q.2 d) 1) (Int.add p.1 c)) (λi2=>?_) λi2=>?_
   ·
    rw[i2]at h;obtain rfl:=si h;exact(Zx (zaN.mpr (vf (gO hf h2).2 (gh.mp i2) (gO hf h1).1))).symm
   ·rw[i2]at h;exact nt h
theorem vn(h:IN F x c y d=some t):t=decide (ρ.int x+c=ρ.int y+d):=by
 unfold IN at h;refine cX (Nat.beq x y) (λe=>?_) λe=>?_
 ·
  rw[e]at h;obtain rfl:=si h
  (refine(aB.mp e).symm ▸?_)
  cases hi:Ac c d with
  |true=>rw[eO.mp hi];exact(Zn rfl).symm
  |false=>exact(Zx λq=>zaF (hi.symm.trans (eO.mpr (Int.add_left_cancel q)))).symm
 ·
  rw[e]at h;refine U (ob (show(Hc F x).bind _=some t from h)) λp h1 h=>?_;refine U (ob h) λq h2 h=>?_;have b1:=gO hf h1;have b2:=gO hf h2;refine cX (wy (Int.add (Int.add p.2 c) 1) (Int.add q.1 d)) (λi1=>?_) λi1=>?_
  ·
   rw[i1]at h;obtain rfl:=si h;exact(Zx (Int.ne_of_lt (vf b1.2 (gh.mp i1) b2.1))).symm
  ·
   rw[i1]at h;refine cX (wy (Int.add (Int.add q.2 d) 1) (Int.add p.1 c)) (λi2=>?_) λi2=>?_
   ·
    rw[i2]at h;obtain rfl:=si h;exact(Zx (Int.ne_of_gt (vf b2.2 (gh.mp i2) b1.1))).symm
   ·
    rw[i2]at h;refine cX ((Ac p.1 p.2&&(Ac q.1 q.2&&Ac (Int.add p.1 c) (Int.add q.1 d)))) (λi3=>?_) λi3=>?_
    ·
     rw[i3]at h;obtain rfl:=si h
     (refine(Int.le_antisymm ((eO.mp (an i3).1) ▸ b1.2) b1.1).symm ▸?_;refine(Int.le_antisymm ((eO.mp (an (an i3).2).1) ▸ b2.2) b2.1).symm ▸?_)
     exact(Zn (eO.mp (an (an i3).2).2)).symm
    ·rw[i3]at h;exact nt h
theorem pH(h:K1 F x c y d=some t):t=decide (ρ.int x+c<=ρ.int y+d):=by
 unfold K1 Pa at h;cases e:K0 F x c y d with
 |some u=>rw[e]at h;exact si h ▸ B7 hf e
 |none=>rw[e]at h;exact hf.le _ _ t h _ _ rfl rfl
omit hf in
theorem o6(h:Jm o p=some t):(o=some false/\t=false)\/(o=some true/\p=some t):=by
 cases o with
 |none=>exact nt h
 |some b=>cases b with
  |false=>obtain rfl:=YZ h;exact .inl ⟨rfl,rfl⟩
  |true=>exact .inr ⟨rfl,h⟩
omit hf in
theorem o5(h:jr a b=true):tg a≠0/\tg b≠0/\tg a≠tg b:=by
 unfold jr at h;refine cX (Nat.beq (tg a) 0) (λe1=>?_) λe1=>?_
 ·rw[e1]at h;exact nf h
 ·
  refine cX (Nat.beq (tg b) 0) (λe2=>?_) λe2=>?_
  ·rw[e1,e2]at h;exact nf h
  ·
   refine cX (Nat.beq (tg a) (tg b)) (λe3=>?_) λe3=>?_
   ·rw[e1,e2,e3]at h;exact nf h
   ·exact⟨jh e1,jh e2,jh e3⟩
def vt:V->Nat
 | .none=>1
 | .int _=>2
 | .str _=>3
 | .tup _=>4
 |_=>0
omit hf in
theorem pn(h:tg a≠0):vt (ah ρ a)=tg a:=by
 cases a<;>first|rfl|exact absurd rfl h
omit hf in
theorem GN(h:jr a b=true):V.beq (ah ρ a) (ah ρ b)=false:=
 have i:=o5 h
 iX λe=>i.2.2 ((pn i.1).symm.trans ((YV vt e).trans (pn i.2.1)))
omit hf in
theorem BD(h:LX a b o=some t)(k:o=some t->V.beq (ah ρ a) (ah ρ b)=t):V.beq (ah ρ a) (ah ρ b)=t:=by
 unfold LX at h;refine cX (jr a b) (λe=>?_) λe=>?_
 ·rw[e]at h;exact(GN e).trans (si h)
 ·rw[e]at h;exact k h
omit hf in
theorem xN:decide (a=b)=uu a b:=by
 cases e:uu a b with
 |true=>exact Zn (ib.mp e)
 |false=>exact Zx λx=>zaF (e.symm.trans (ib.mpr x))
theorem jB(h:Ab F a b=some t):V.beq (ah ρ a) (ah ρ b)=t:=by
 refine SV.rec (motive_1:=λa=>∀b t,Ab F a b=some t->V.beq (ah ρ a) (ah ρ b)=t) (motive_2:=λa=>∀b t,RF F a b=some t->V.beqs (ax ρ a) (ax ρ b)=t) ?_ ?_ ?_ ?_ ?_ ?_ ?_ ?_ ?_ ?_ ?_ ?_ a b t h
 ·intro b t h;exact nt h
 ·intro _ b t h;exact nt h
 ·intro x c b t h;exact BD h λg=>by(refine bR (jg g nn) λy d q3 g=>?_;subst q3);exact(vn hf g).symm
 ·intro a b t h;exact BD h λg=>by(refine U (AF g nn) λc q2 g=>?_;subst q2);exact xN.trans (si g)
 ·intro _ b t h;exact nt h
 ·intro a i b t h;exact BD h λg=>by(refine U (EO g nn) λc q2 g=>?_;subst q2);exact i _ _ g
 ·intro _ _ b t h;exact nt h
 ·intro _ b t h;exact nt h
 ·intro _ _ b t h;exact nt h
 ·intro _ b t h;exact nt h
 ·intro b t h;cases b<;>exact si h
 ·intro a as i1 i2 b t h;cases b with
  |nil=>exact si h
  |cons b bs=>
   show((ah ρ a).beq (ah ρ b)&&V.beqs (ax ρ as) (ax ρ bs))=t;refine(o6 h).elim (λq=>?_) λq=>?_
   ·obtain⟨h1,rfl⟩:=q;rw[i1 _ _ h1];rfl
   ·rw[i1 _ _ q.1,i2 _ _ q.2];rfl
omit hf in
theorem B6(h:uN F x (p::l)=some r):(Ab F p.1 x=some true/\r=some p.2)\/(Ab F p.1 x=some false/\uN F x l=some r):=by
 rw[lF]at h;have h: @Option.rec Bool (λ_=>Option (Option SV)) none (λb=>Bool.rec (Bk F x l) (some (some p.2)) b) (Ab F p.1 x)=some r:=h;refine dI (Ab F p.1 x) (λe=>?_) λb e=>?_
 ·rw[e]at h;exact nt h
 ·
  (refine(e).symm ▸?_)
  rw[e]at h;cases b with
  |true=>exact .inl ⟨rfl,(si h).symm⟩
  |false=>exact .inr ⟨rfl,by rw[lF];exact h⟩
theorem qh(h:uN F x l=some r):aO (ah ρ x) (c9 ρ l)=r.map (ah ρ):=by
 induction l with
 |nil=>rw[lF]at h;obtain rfl:=si h;rfl
 |cons p l i=>
  rw[c9,bC];refine(B6 h).elim (λq=>?_) λq=>?_
  ·obtain⟨e,rfl⟩:=q;rw[jB hf e];rfl
  ·(refine(jB hf q.1).symm ▸?_);exact i q.2
theorem FW:∀{q:List (SV×SV)},EQ F x v l=some q->eW (ah ρ x) (ah ρ v) (c9 ρ l)=c9 ρ q:=by
 induction l with
 |nil=>intro q h;obtain rfl:=si h;rfl
 |cons p l i=>
  intro q h;have h: @Option.rec Bool (λ_=>Option (List (SV×SV))) none (λb=>Bool.rec (Option.rec none (λq=>some (p::q)) (EQ F x v l)) (some ((p.1,v)::l)) b) (Ab F p.1 x)=some q:=h;rw[c9,Lq];refine dI (Ab F p.1 x) (λe=>?_) λb e=>?_
  ·rw[e]at h;exact nt h
  ·
   rw[e]at h
   (refine(jB hf e).symm ▸?_)
   cases b with
   |true=>obtain rfl:=si h;rfl
   |false=>
    refine dI (EQ F x v l) (λe2=>?_) λq' e2=>?_
    ·rw[e2]at h;exact nt h
    ·rw[e2]at h;obtain rfl:=si h;exact YV (_::·) (i e2)
omit hf in
theorem vX(x y v:V)(l:List (V×V)):aO y (eW x v l)=bif x.beq y then some v else aO y l:=by
 induction l with
 |nil=>exact bC ..
 |cons p l i=>
  rw[Lq];refine cX (p.1.beq x) (λe=>?_) λe=>?_
  ·
   rw[e];rw[bC,bC,fw.mp e];cases x.beq y<;>rfl
  ·
   rw[e];rw[bC,bC,i];refine cX (p.1.beq y) (λe2=>?_) λe2=>?_
   ·
    refine cX (x.beq y) (λe3=>?_) λe3=>?_
    ·exact nf (e.symm.trans (fw.mpr ((fw.mp e2).trans (fw.mp e3).symm)))
    ·rw[e3];rfl
   ·rw[e2];rfl
theorem oQ(h:uN F x l=some r):aO (ah ρ x) (over ρ l b)=r.elim (aO (ah ρ x) b) λv=>some (ah ρ v):=by
 revert r
 induction l with
 |nil=>intro r h;rw[lF]at h;obtain rfl:=si h;rfl
 |cons p l i=>
  intro r h;rw[PV,vX];refine(B6 h).elim (λq=>?_) λq=>?_
  ·obtain⟨e,rfl⟩:=q;rw[jB hf e];rfl
  ·(refine(jB hf q.1).symm ▸?_);exact i q.2
end
section
variable{ρ:Ro}{F:Fx}{aI:St}(hf:dY ρ F aI)
include hf
omit hf in
theorem xr(h:A9 t u p q=some v):(t=true/\v=p)\/(u=true/\v=q):=by
 cases t with
 |true=>exact .inl ⟨rfl,(si h).symm⟩
 |false=>
  cases u with
  |true=>exact .inr ⟨rfl,(si h).symm⟩
  |false=>exact nt h
theorem iu:ρ.int 0+c=c:=by rw[hf.z,ZA]
theorem GK{c d:Int}(h:binI o x c y d=some v):∃i,rY o (ρ.int x+c) (ρ.int y+d)=some i/\ah ρ v= .int i:=by
 cases o with
 |add=>
  rcases xr h with⟨e,rfl⟩|⟨e,rfl⟩
  ·rw[aB.mp e,iu hf];exact(al _ rfl (YV V.int (zaf ..).symm))
  ·rw[aB.mp e,iu hf];exact(al _ rfl (YV V.int (Int.add_left_comm ..).symm))
 |sub=>
  rcases xr h with⟨e,rfl⟩|⟨e,rfl⟩
  ·rw[aB.mp e,iu hf];exact(al _ rfl (YV V.int (Int.add_sub_assoc ..).symm))
  ·rw[aB.mp e];exact(al _ rfl (YV V.int ((iu hf).trans (Int.add_sub_add_left ..).symm)))
 |_=>exact nt h
theorem qu(h:E8 o a b=some v):bY o (ah ρ a) (ah ρ b)=some (ah ρ v):=by
 cases a with
 |int x c=>
  (refine bR (jg h nn) λy d q3 g=>?_;subst q3)
  show(rY o (ρ.int x+c) (ρ.int y+d)).map V.int=_;refine cX (Nat.beq x 0&&Nat.beq y 0) (λe=>?_) λe=>?_
  ·
   rw[e]at g
   (refine U (om g) λi h1 q3=>?_;subst q3)
   rw[aB.mp (an e).1,aB.mp (an e).2,iu hf,iu hf,h1];exact YV (some<|V.int ·) (iu hf).symm
  ·
   rw[e]at g;refine U (GK hf g) λi h1 h2=>?_;rw[h1,h2];rfl
 |str a=>
  (refine U (AF h nn) λb q2 h=>?_;subst q2)
  obtain⟨e,h⟩:=bX h;obtain rfl:=si h;show gD _ _=_;rw[e];rfl
 |tup a=>
  (refine U (EO h nn) λb q2 h=>?_;subst q2)
  obtain⟨e,h⟩:=bX h;obtain rfl:=si h;show gD (oo o&&Nat.ble ((ax ρ a).length+(ax ρ b).length) ay) (some (V.tup (ax ρ a++ax ρ b)))=some (V.tup (ax ρ (a++b)));rw[cT,cT,e,mQ];rfl
 |_=>exact nt h
theorem GL(h:Jj F o a b=some v):bY o (ah ρ a) (ah ρ b)=some (ah ρ v):=by
 unfold Jj at h;cases e:E8 o a b with
 |some w=>rw[e]at h;obtain rfl:=YZ h;exact qu hf e
 |none=>
  rw[e]at h;dsimp only at h;refine dI (bJ (nA o) F.op) (λe2=>?_) λl e2=>?_
  ·rw[e2]at h;exact nt h
  ·rw[e2]at h;exact hf.op o a b l v e2 h
theorem xV(h:Jk o a b=some v):ow o (ah ρ a) (ah ρ b)=some (ah ρ v):=by
 (refine bR (jg h nn) λx c q3 h=>?_;subst q3)
 (refine bR (jg h nn) λy d q3 h=>?_;subst q3)
 obtain⟨e,h⟩:=bX h;cases o with
 |add=>exact(qu hf h)
 |sub=>exact(qu hf h)
 |_=>exact nf e
variable{S:fk}{σ:St}(hs:jY ρ F aI S σ)
include hs
omit hf hs in
theorem s8(c:Nat)(l:List Nat):rn (c::l)=(Nat.blt c 1114112&&rn l):=by
 show @Bool.rec (λ_=>Bool) false (rn l) (Nat.blt c 1114112)=_;cases Nat.blt c 1114112<;>rfl
omit hf hs in
theorem GE(h:rn l=true):l.all (λc=>decide (c<0x110000))=true:=by
 induction l with
 |nil=>rfl
 |cons c l i=>
  have h: @Bool.rec (λ_=>Bool) false (rn l) (Nat.blt c 1114112)=true:=h;rw[Z9];refine uy (Nat.blt c 1114112) (λe=>?_) λe=>?_
  ·rw[e]at h;exact nf h
  ·rw[e]at h;rw[i h,Bool.and_true];exact Zn (YX e)
omit hf hs in
theorem mE(h:rn l=true):PyData.canLay0 (.str ⟨l.toArray⟩)=true:=by
 simp only[PyData.canLay0,PyData.strOk];rw[List.all_toArray];exact GE h
omit hf in
theorem Bj(h:lsN (S.get s j)=some vs):nth (σ.heap s) (ρ.ix s j)=some (.list (ax ρ vs)):=by
 refine U (ob h) λo e h=>?_
 (refine bR (RJ h nn) λb us q3 h=>?_;subst q3)
 obtain⟨rfl,h⟩:=Sh h nn;obtain rfl:=si h;exact hs.at_ _ _ _ e
theorem Co:(∀{v:SV},Lf S n v=true->∃d,um σ.heap n (ah ρ v)=some d/\d.canLay0=true/\d.depth<=n)/\∀{vs:List SV},E7 S n vs=true->∃ds,j0 σ.heap n (ax ρ vs)=some ds/\PyData.canLayAll0 ds=true/\PyData.depthAll ds<=n:=by
 induction n with
 |zero=>exact⟨λh=>nf h,λh=>nf h⟩
 |succ n ih=>
  refine⟨?_,?_⟩
  ·intro v h;cases v with
   |none=>exact(aM _ rfl rfl (Zh _))
   |bool b=>exact(aM _ rfl rfl (Zh _))
   |int x c=>exact(aM _ rfl rfl (Zh _))
   |str l=>exact(aM _ rfl (mE h) (Zh _))
   |atom k=>exact(aM _ rfl (mE (hf.st k)) (Zh _))
   |tup vs=>
    refine aZ (ih.2 h) λds e h1 h2=>?_;exact(aM (.tuple ds) (YV (Option.map PyData.tuple) e) h1 (by exact ZC h2))
   |obj s j=>
    refine U (oa h) λvs e0 h=>?_;refine aZ (ih.2 h) λds e h1 h2=>?_;refine(aM (.list ds) ?_ h1 (by exact ZC h2));show(nth (σ.heap s) (ρ.ix s j)).bind _=_;rw[Bj hs e0];exact YV (Option.map PyData.list) e
   |_=>exact nf h
  ·intro vs h;cases vs with
   |nil=>exact(aM ([]) rfl rfl (Zh _))
   |cons v r=>
    refine aZ (ih.1 (an h).1) λd e1 h1 h2=>?_;refine aZ (ih.2 (an h).2) λds e2 h3 h4=>?_;refine(aM (d::ds) ?_ ?_ ?_)
    ·show(um σ.heap n (ah ρ v)).bind _=_;rw[e1];exact YV (Option.map (d::·)) e2
    ·unfold PyData.canLayAll0;rw[h1,h3];rfl
    ·exact Nat.max_le.mpr ⟨ZM h2,ZM h4⟩
theorem Ck(h:wx a b F.eq=some t):(t=true↔ah ρ a=ah ρ b):=hf.eq a b t h
theorem pZ{l m:List Nat}{t:Bool}(h:t=true↔l=m):((⟨l.toArray⟩:Str)==⟨m.toArray⟩)=t:=by
 cases t with
 |true=>rw[h.mp rfl];simp
 |false=>
  have:l≠m:=λe=>by cases h.mpr e
  cases e:((⟨l.toArray⟩:Str)==⟨m.toArray⟩)with
  |false=>rfl
  |true=>
   have:=eq_of_beq e;injection this with this;exact absurd (by simpa using this) ‹l≠m›
theorem Gn{i j:Int}(h:t=true↔i=j):(i==j)=t:=by
 cases t with
 |true=>rw[h.mp rfl];simp
 |false=>
  simpa using(λe=>by cases h.mpr e)
omit hf hs in
def pk:PyData->Nat
 | .none=>1
 | .int _=>2
 | .str _=>3
 | .tuple _=>4
 |_=>0
omit hf hs in
theorem JZ(h1:pk d≠0)(h2:pk d'≠0)(h:pk d≠pk d'):PyData.eqv d d'=false:=by
 cases d<;>first|exact absurd rfl h1|(cases d'<;>first|rfl|exact absurd rfl h2|exact absurd rfl h)
omit hf hs in
theorem pV(h:um H (n+1) (.tup vs)=some d):∃ds,j0 H n vs=some ds/\PyData.tuple ds=d:=om h
omit hf hs in
theorem xg(g:nth (H s) i=some (.list vs))(h:um H (n+1) (.obj s i)=some d):∃ds,j0 H n vs=some ds/\PyData.list ds=d:=by
 refine U (ob h) λo e h=>?_;obtain rfl:=si (g.symm.trans e);exact om h
omit hf hs in
theorem pD(h:um H (n+1) v=some d)(hv:vt v≠0):pk d=vt v:=by
 cases v with
 |tup vs=>(refine U (pV h) λds _ q3=>?_;subst q3);rfl
 |none=>(refine(si h) ▸?_);rfl
 |int _=>(refine(si h) ▸?_);rfl
 |str _=>(refine(si h) ▸?_);rfl
 |_=>exact absurd rfl hv
omit hf hs in
theorem GO(h:jr a b=true)(ha:um H (n+1) (ah ρ a)=some d)(hb:um H (n+1) (ah ρ b)=some d'):PyData.eqv d d'=false:=by
 refine dU (o5 h) λi1 i2 i3=>?_;have v1:=pn (ρ:=ρ) i1;have v2:=pn (ρ:=ρ) i2;exact JZ (by rw[(pD ha (by rw[v1];exact i1)),v1];exact i1) (by rw[(pD hb (by rw[v2];exact i2)),v2];exact i2) (by rw[(pD ha (by rw[v1];exact i1)),(pD hb (by rw[v2];exact i2)),v1,v2];exact i3)
theorem pY(h:wx a b F.eq=some t)(ha:ah ρ a= .str l)(hb:ah ρ b= .str m):PyData.eqv (.str ⟨l.toArray⟩) (.str ⟨m.toArray⟩)=t:=by
 have:=Ck hf hs h;rw[ha,hb]at this;exact pZ hf hs (this.trans ⟨λe=>by injection e,λe=>e ▸ rfl⟩)
theorem Ku(hr:∀{a b:List SV} {t:Bool} {d d':List PyData},r a b=some t->j0 σ.heap n (ax ρ a)=some d->j0 σ.heap n (ax ρ b)=some d'->PyData.eqvAll d d'=t)(h:QS F S r a b=some t)(ha:um σ.heap (n+1) (ah ρ a)=some d)(hb:um σ.heap (n+1) (ah ρ b)=some d'):PyData.eqv d d'=t:=by
 cases a with
 |none=>
  obtain⟨rfl,h⟩:=EP h nn
  (refine(si h) ▸?_;refine(si ha) ▸?_;refine(si hb) ▸?_);rfl
 |bool x=>
  (refine U (Mh h nn) λy q2 h=>?_;subst q2)
  (refine(si h) ▸?_;refine(si ha) ▸?_;refine(si hb) ▸?_);rfl
 |int x c=>
  (refine bR (jg h nn) λy d q3 g=>?_;subst q3)
  (refine(si ha) ▸?_;refine(si hb) ▸?_)
  refine Gn hf hs ?_;cases e:IN F x c y d with
  |some u=>rw[e]at g;rw[<-si g,vn hf e];exact ZV
  |none=>rw[e]at g;exact(Ck hf hs g).trans ⟨V.int.inj,YV V.int⟩
 |str l=>
  rw[<-si ha];cases b with
  |str m=>rw[<-si hb,<-si (show some (uu l m)=some t from h)];exact pZ hf hs ib
  |atom j=>rw[<-si hb];exact pY hf hs h rfl rfl
  |_=>exact nt h
 |atom i=>
  rw[<-si ha];cases b with
  |str m=>rw[<-si hb];exact pY hf hs h rfl rfl
  |atom j=>
   rw[<-si hb];have h: @Bool.rec (λ_=>Option Bool) (wx (.atom i) (.atom j) F.eq) (some true) (Nat.beq i j)=some t:=h;refine cX (Nat.beq i j) (λe=>?_) λe=>?_
   ·rw[e]at h;(refine(si h) ▸?_;refine(aB.mp e).symm ▸?_);exact pZ hf hs ⟨λ_=>rfl,λ_=>rfl⟩
   ·rw[e]at h;exact pY hf hs h rfl rfl
  |_=>exact nt h
 |tup as=>
  (refine U (EO h nn) λbs q2 h=>?_;subst q2)
  (refine U (pV ha) λds e1 q3=>?_;subst q3)
  (refine U (pV hb) λes e2 q3=>?_;subst q3)
  exact hr h e1 e2
 |obj s j=>
  (refine bR (IY h nn) λu k q3 h=>?_;subst q3)
  refine U (ob h) λas g1 h=>?_;refine U (ob h) λbs g2 h=>?_
  (refine U (xg (Bj hs g1) ha) λds e1 q3=>?_;subst q3)
  (refine U (xg (Bj hs g2) hb) λes e2 q3=>?_;subst q3)
  exact hr h e1 e2
 |_=>exact nt h
omit hf hs in
theorem kj(h:j0 H (n+1) (v::r)=some ds):∃x xs,um H n v=some x/\j0 H n r=some xs/\x::xs=ds:=by
 refine U (ob h) λx e1 h=>?_;refine U (om h) λxs e2 h=>?_;exact(aY x xs e1 e2 h)
theorem Kt:(∀{a b:SV} {t:Bool} {d d':PyData},QR F S n a b=some t->um σ.heap n (ah ρ a)=some d->um σ.heap n (ah ρ b)=some d'->PyData.eqv d d'=t)/\∀{a b:List SV} {t:Bool} {d d':List PyData},E5 F S n a b=some t->j0 σ.heap n (ax ρ a)=some d->j0 σ.heap n (ax ρ b)=some d'->PyData.eqvAll d d'=t:=by
 induction n with
 |zero=>exact⟨λh=>nt h,λh=>nt h⟩
 |succ n ih=>
  refine⟨?_,?_⟩
  ·intro a b t d d' h ha hb;have h: @Bool.rec (λ_=>Option Bool) (QS F S (E5 F S n) a b) (some false) (jr a b)=some t:=h;refine cX (jr a b) (λe=>?_) λe=>?_
   ·rw[e]at h;(refine(si h) ▸?_);exact GO e ha hb
   ·rw[e]at h;exact Ku hf hs ih.2 h ha hb
  ·intro a b t d d' h ha hb;cases a with
   |nil=>
    (refine(si ha) ▸?_;refine(si h) ▸?_)
    cases b with
    |nil=>(refine(si hb) ▸?_);rfl
    |cons b bs=>(refine a8 (kj hb) λy ys e3 e4 q5=>?_;subst q5);rfl
   |cons a as=>
    (refine a8 (kj ha) λx xs e1 e2 q5=>?_;subst q5)
    cases b with
    |nil=>(refine(si hb) ▸?_;refine(si h) ▸?_);rfl
    |cons b bs=>
     (refine a8 (kj hb) λy ys e3 e4 q5=>?_;subst q5)
     show(PyData.eqv x y&&PyData.eqvAll xs ys)=t;rcases o6 h with⟨h1,rfl⟩|⟨h1,h2⟩
     ·rw[ih.1 h1 e1 e3];rfl
     ·rw[ih.1 h1 e1 e3,ih.2 h2 e2 e4];rfl
omit hf hs in
theorem oF(h1:d.canLay0=true)(h2:d.depth<=60):SeqAt.shaped d=true:=by
 unfold SeqAt.shaped;rw[h1,Bool.true_and];exact Zn (YU ‹_› ak)
theorem Cj(h:eqv F S a b=some t):G9 σ.heap (ah ρ a) (ah ρ b)=some t:=by
 rw[Ks]at h;unfold E4 at h;refine uy ((Lf S 60 a&&Lf S 60 b)) (λe=>?_) λe=>?_
 ·rw[e]at h;exact nt h
 ·
  rw[e]at h;refine aZ ((Co hf hs).1 (an e).1) λd e1 h1 h2=>?_;refine aZ ((Co hf hs).1 (an e).2) λd' e2 h3 h4=>?_;unfold G9
  (refine(e1).symm ▸?_;refine(e2).symm ▸?_)
  show gD (SeqAt.shaped d&&SeqAt.shaped d') _=_
  (refine(oF h1 h2).symm ▸?_;refine(oF h3 h4).symm ▸?_)
  exact YV some ((Kt hf hs).1 h e1 e2)
end
section
variable{ρ:Ro}{F:Fx}{aI:St}
theorem Fv:∀{q:List (List Nat)},IU l=some q->mm (ax ρ l)=some q:=by
 induction l with
 |nil=>intro q h;exact h
 |cons v l i=>
  intro q h
  (refine U (AF h nn) λa q2 h=>?_;subst q2)
  (refine U (om h) λq' e q3=>?_;subst q3)
  exact YV (Option.map (a::·)) (i e)
theorem zT(h:Cb v=true):isInt (ah ρ v)=true:=by cases v with|int _ _=>rfl|_=>exact nf h
theorem xX(hp:∀{v},p v=true->q (ah ρ v)=true)(h:l.all p=true):(ax ρ l).all q=true:=by
 induction l with
 |nil=>rfl
 |cons v l i=>exact YN.mpr ⟨hp (an h).1,i (an h).2⟩
theorem zS(h:mv v=true):cA (ah ρ v)=true:=by
 cases v with
 |int _ _=>rfl
 |tup vs=>exact xX zT h
 |_=>exact nf h
theorem qk(h:Nat.blt (gJ v) 4=true):cO (ah ρ v)=gJ v:=by
 cases v with
 |str l=>rfl
 |int x c=>rfl
 |tup vs=>
  have h:Nat.blt (match vs.all mv with|true=>3|false=>4) 4=true:=h;show(match(ax ρ vs).all cA with|true=>3|false=>4)=(match vs.all mv with|true=>3|false=>4);refine cX (vs.all mv) (λe=>?_) λe=>?_
  ·rw[e];rw[xX zS e]
  ·rw[e]at h;exact nf h
 |_=>exact nf h
theorem fH(h:mu kd v=true):gp kd (ah ρ v)=true/\cO (ah ρ v)=gJ v:=by
 refine⟨?_,(qk (ρ:=ρ) ((YN.mp h).1))⟩;unfold gp
 (refine((qk (ρ:=ρ) ((YN.mp h).1))).symm ▸?_);exact h
theorem jC(hf:dY ρ F aI)(h:yE F v=some n):∃i,ah ρ v= .int i/\de i=some n:=by
 (refine bR (jg h nn) λx c q3 h=>?_;subst q3)
 refine U (ob h) λp e h=>?_;refine dc (bX h) λe2 h=>?_;exact(al _ rfl (by(refine((Int.le_antisymm (eO.mp e2 ▸ (gO hf e).2) (gO hf e).1)).symm ▸?_);exact h))
theorem xS(hf:dY ρ F aI)(h:Ji v=some n):Pz (ah ρ v)=some n:=by
 cases v with
 |none=>exact h
 |int x c=>
  refine dc (bX h) λe h=>?_;show(de (ρ.int x+c)).map some=_
  (refine(aB.mp e).symm ▸?_;refine(iu hf).symm ▸?_);exact h
 |_=>exact nt h
theorem jJ{n:Nat}(h:n<=1000):de (n:Int)=some n:=by
 show(match Nat.ble n ay with|true=>some n|false=>none)=some n
 (refine((show Nat.ble n ay=true from ZH h)).symm ▸ rfl)
variable(hf:dY ρ F aI)
include hf
omit hf in
theorem PX{α β:Type}{o:Option α}{f:α->Option β}{r:β}(h: @Option.rec α (λ_=>Option β) none f o=some r):∃x,o=some x/\f x=some r:=by cases o with|none=>exact nt h|some x=>exact(al x rfl h)
theorem xw(h:AG F b v=some n):ah ρ v= .int (((ρ.base b).length+n:Nat):Int)/\de (((ρ.base b).length+n:Nat):Int)=some ((ρ.base b).length+n):=by
 (refine bR (jg h nn) λx c q3 h=>?_;subst q3)
 refine hg λcg kg=>?_;refine U (ob h) λl e1 h=>?_
 (refine bR (jg h nn) λy d q3 h=>?_;subst q3)
 obtain⟨g,h⟩:=bX h;obtain⟨g2,h⟩:=bX h;obtain rfl:=si h;obtain rfl:=aB.mp (an g).1;refine U (oa (an g2).2) λt3 q3 e3=>?_;refine kg ?_;have a3:=Zt ((B7 hf q3).symm.trans e3);rw[iu hf]at a3;have e:=by
  show(((ρ.base b).length+(c - d).toNat:Nat):Int)=ρ.int x+c;rw[Int.natCast_add,Zw (Int.sub_nonneg.mpr (gh.mp (an g).2)),<-(V.int.inj (hf.bl b _ e1)),zaf,zaJ d,Int.sub_add_cancel]
 exact⟨YV V.int e.symm,jJ (ZI.mp (e ▸ a3))⟩
theorem Do(h:nth r n=some x):nth (ρ.base b++r) ((ρ.base b).length+n)=some x:=by rw[b7];exact h
theorem Dv(h:HJ F b vs k=some v):∃(i:Int) (n:Nat),ah ρ k= .int i/\de i=some n/\nth (eC ρ b++ax ρ vs) n=some (ah ρ v):=by
 cases b with
 |nil=>
  refine U (ob h) λn e h=>?_;refine U (jC hf e) λi e1 e2=>?_;rw[jA]at h;exact(aY i n e1 e2 (jQ h))
 |var b=>
  have h: @Option.rec Nat (λ_=>Option SV) ((bJ b F.it).bind λl=>IB k l) (λn=>rE vs n) (AG F b k)=some v:=h;cases e:AG F b k with
  |some n=>
   rw[e]at h;obtain⟨e1,e2⟩:=xw hf e;exact(aY _ _ e1 e2 (Do hf (jQ (jA .. ▸ h))))
  |none=>
   rw[e]at h;refine U (ob h) λl e h=>?_;refine aZ (hf.it b l k v e h) λn e1 e2 e3=>?_;exact(aY n n e1 (jJ (YU e2 ak)) (eN _ e3))
 |set b i w=>
  refine U (ob h) λn e h=>?_;obtain⟨e1,e2⟩:=xw hf e;rw[jA]at h;refine(aY _ _ e1 e2 ?_);rw[<-show(eC ρ (.set b i w)).length=(ρ.base b).length from ia _ _ _,b7];exact jQ h
theorem mS(h:w6 F b es k=some r):aO (ah ρ k) (gI ρ b es)=r.map (ah ρ):=by
 refine U (PX h) λq e h=>?_;cases q with
 |some v=>
  (refine(si h) ▸?_)
  cases b with
  |none=>exact qh hf e
  |some b=>exact oQ hf e
 |none=>
  cases b with
  |none=>(refine(si h) ▸?_);exact qh hf e
  |some b=>
   refine U (ob h) λl e2 h=>?_
   (refine U (om h) λv e3 q3=>?_;subst q3)
   exact(oQ hf e).trans (hf.dt b l k v e2 e3)
theorem xf(h:uH F v=some t):iG (ah ρ v)=some t:=by
 cases v with
 |bool b=>exact h
 |int x c=>
  (refine U (om h) λu e q3=>?_;subst q3)
  rw[vn hf e,iu hf];rfl
 |_=>exact nt h
variable{S:fk}{σ:St}(hs:jY ρ F aI S σ)
include hs
theorem vB(h:de i=some n):Li l (.int i)=nth l n:=by
 show(de i).bind _=_;rw[h];rfl
theorem DC(h:Bo F S a k=some v):itemOf σ.heap (ah ρ a) (ah ρ k)=some (ah ρ v):=by
 cases a with
 |str l=>
  refine U (ob h) λn e h=>?_;refine U (jC hf e) λi e1 e2=>?_
  (refine U (om h) λc e3 q3=>?_;subst q3)
  rw[jA]at e3;rw[e1];show(Li l (.int i)).map _=_;rw[vB hf hs e2,e3];rfl
 |tup vs=>
  refine U (ob h) λn e h=>?_;refine U (jC hf e) λi e1 e2=>?_;rw[jA]at h
  (refine(e1).symm ▸?_)
  exact(vB hf hs e2).trans (jQ h)
 |obj s j=>
  refine U (PX h) λo e h=>?_;show(nth (σ.heap s) (ρ.ix s j)).bind _=_
  (refine((hs.at_ _ _ _ e)).symm ▸?_)
  cases o with
  |list b vs=>
   refine a8 (Dv hf h) λi n e1 e2 e3=>?_
   (refine(e1).symm ▸?_)
   exact(vB hf hs e2).trans e3
  |dict b kd es=>
   refine hg λcg kg=>?_;refine dc (bX h) λe2 h=>?_;refine U (PX h) λq e3 h=>?_;obtain rfl:q=some v:=h;refine kg ?_;show gD (gp kd (ah ρ k)) _=_
   (refine((fH (ρ:=ρ) e2).1).symm ▸?_)
   exact mS hf e3
  |_=>exact nt h
 |_=>exact nt h
theorem m3(h:ql v=some t):isNone (ah ρ v)=t:=by
 cases v with
 |any _=>exact nt h
 |_=>exact si h
theorem GP(ls:List (List Nat)):(ls.any λx=>uu x l)=(ls.any λx=>decide (x=l)):=by
 induction ls with
 |nil=>rfl
 |cons x ls i=>rw[zbi,zbi,i,xN]
theorem s7(h:BA F S a b=some t):AQ σ.heap (ah ρ a) (ah ρ b)=some t:=by
 (refine bR (IY h nn) λs j q3 h=>?_;subst q3)
 refine U (ob h) λo e h=>?_
 (refine uV (RK h nn) λb kd es q4 h=>?_;subst q4)
 obtain⟨e2,h⟩:=bX h
 (refine U (om h) λq e3 q3=>?_;subst q3)
 show(nth (σ.heap s) (ρ.ix s j)).bind _=_;rw[hs.at_ _ _ _ e];show gD (gp kd (ah ρ a)) (some (aO (ah ρ a) (gI ρ b es)).isSome)=_;rw[(fH (ρ:=ρ) e2).1,mS hf e3];cases q<;>rfl
theorem Km(h:TC F S a b=some t):I8 pt σ.heap (ah ρ a) (ah ρ b)=some t:=by
 cases b with
 |tup vs=>
  (refine U (AF h nn) λl q2 h=>?_;subst q2)
  (refine U (om h) λls e q3=>?_;subst q3)
  show(mm (ax ρ vs)).map _=_;rw[Fv e,GP hf hs];rfl
 |glob g=>
  (refine bR (jg h nn) λx c q3 h=>?_;subst q3)
  obtain⟨e,h⟩:=bX h;show(pt.table g).map (λl=>l.contains (ρ.int x+c))=_
  (refine(aB.mp e).symm ▸?_;refine(iu hf).symm ▸?_);exact h
 |obj s j=>exact s7 hf hs (b:= .obj s j) h
 |_=>exact nt h
theorem not_le{a b:Int}:(!decide (a<=b))=decide (b<a):=by
 rw[<-decide_not];exact decide_eq_decide.mpr zaN
theorem GG(h:Je F S o a b=some t):me pt σ.heap o (ah ρ a) (ah ρ b)=some t:=by
 have ii:∀{f:Nat->Int->Nat->Int->Option Bool} {g:Int->Int->Bool},(∀{x c y d t},f x c y d=some t->g (ρ.int x+c) (ρ.int y+d)=t)->(qI none a λx c=>qI none b λy d=>f x c y d)=some t->(oI (ah ρ a) λi=>oI (ah ρ b) λj=>some (g i j))=some t:=by
  intro f g k h;refine bR (jg h nn) λx c e1 h=>?_;refine bR (jg h nn) λy d e2 h=>?_
  (refine(e1).symm ▸?_;refine(e2).symm ▸?_)
  exact YV some (k h)
 cases o with
 |eq=>exact Cj hf hs h
 |ne=>
  obtain⟨c,e,rfl⟩:=om h;exact YV (Option.map not) (Cj hf hs e)
 |lt=>exact ii (λe=>by obtain⟨u,e2,rfl⟩:=om e;rw[pH hf e2];exact(not_le hf hs).symm) h
 |le=>exact ii (λe=>(pH hf e).symm) h
 |gt=>exact ii (λe=>by obtain⟨u,e2,rfl⟩:=om e;rw[pH hf e2];exact(not_le hf hs).symm) h
 |ge=>exact ii (λe=>(pH hf e).symm) h
 |«is»=>
  obtain⟨rfl,h⟩:=EP h nn;exact YV some (m3 hf hs h)
 |isNot=>
  obtain⟨rfl,h⟩:=EP h nn
  (refine U (om h) λu e q3=>?_;subst q3)
  exact YV (some<| !·) (m3 hf hs e)
 |isIn=>exact Km hf hs h
 |notIn=>
  obtain⟨u,e,rfl⟩:=om h;exact YV (Option.map not) (s7 hf hs e)
end
section
variable{ρ:Ro}{F:Fx}{aI:St}
def dR(ρ:Ro):jZ->Fl
 | .next=> .next
 | .ret v=> .ret (ah ρ v)
theorem dJ(hf:dY ρ F aI)(hm:aC ρ o=mo):bf ρ F aI (λ_:Unit=>()) (pu F s j o) (M.put s (ρ.ix s j) mo):=JA hf hm
section
variable{α γ β:Type}{d:γ->β}
theorem fM{f:α->MS γ}(h:∀a,o=some a->∃a',o'=some a'/\bf ρ F aI d (f a) (g a')):bf ρ F aI d (o8 o f) (M.of o' g):=by
 cases o with
 |none=>exact aD
 |some a=>(refine U (h a rfl) λa' q2 g=>?_;subst q2);exact g
theorem dK(h:∀a,o=some a->bf ρ F aI d (f a) m):bf ρ F aI d (o8 o f) m:=by
 cases o with
 |none=>exact aD
 |some a=>exact h a rfl
theorem bg(e:b=true->b'=true)(h:b=true->bf ρ F aI d f m):bf ρ F aI d (iJ b f) (M.gd b' m):=by
 cases b with
 |false=>exact aD
 |true=>rw[e rfl];exact h rfl
theorem u0(e:o=none->o'=none)(h:bf ρ F aI d f m):bf ρ F aI d (O5 o f) (M.no o' m):=by
 cases o with
 |none=>(refine(e rfl).symm ▸?_);exact h
 |some a=>exact aD
theorem BN(h:∀s j,bf ρ F aI d (f s j) (g s (ρ.ix s j))):bf ρ F aI d (qO c5 a f) (M.oR (ah ρ a) g):=by
 cases a with
 |obj s j=>exact h s j
 |_=>exact aD
theorem fP(h:∀s j o,bf ρ F aI d (f s j o) (g s (ρ.ix s j) (aC ρ o))):bf ρ F aI d (El a f) (M.oO (ah ρ a) g):=BN λs j=>af iR (h s j)
theorem BO(h:∀b vs,bf ρ F aI d (f b vs) (g (eC ρ b++ax ρ vs))):bf ρ F aI d (jL c5 o f) (M.kL (aC ρ o) g):=by
 cases o with
 |list b vs=>exact h b vs
 |_=>exact aD
theorem mn{f:List SV->MS γ}(h:∀vs,bf ρ F aI d (f vs) (g (ax ρ vs))):bf ρ F aI d (jL c5 o λb vs=>bN c5 b (f vs)) (M.kL (aC ρ o) g):=by
 cases o with
 |list b vs=>
  cases b with
  |nil=>exact h vs
  |_=>exact aD
 |_=>exact aD
theorem BR(h:∀b k es,bf ρ F aI d (f b k es) (g k (gI ρ b es))):bf ρ F aI d (jD c5 o f) (M.kD (aC ρ o) g):=by
 cases o with
 |dict b k es=>exact h b k es
 |_=>exact aD
theorem BQ(h:∀c fs,bf ρ F aI d (f c fs) (g c (bF ρ fs))):bf ρ F aI d (jI c5 o f) (M.kI (aC ρ o) g):=by
 cases o with
 |inst c fs=>exact h c fs
 |_=>exact aD
end
theorem m4(h:Nat.ble a 400=true):a<=400:=YX h
theorem Cp(h:a<=1000):Nat.ble a ay=true:=ZH h
variable(hf:dY ρ F aI)
include hf
theorem C5:bf ρ F aI (ah ρ) (A3 F a k) (M.item (ah ρ a) (ah ρ k)):=by
 intro S σ hs;unfold A3;cases e:Bo F S a k with
 |none=>trivial
 |some v=>exact(al σ (by unfold M.item;rw[DC hf hs e];rfl) hs)
theorem FJ:bf ρ F aI id (IW F o a b) (M.cmp pt o (ah ρ a) (ah ρ b)):=by
 intro S σ hs;unfold IW;cases e:Je F S o a b with
 |none=>trivial
 |some v=>exact(al σ (by unfold M.cmp;rw[GG hf hs e];rfl) hs)
theorem xn:bf ρ F aI (ah ρ) (opt (bJ x fs)) (M.opt (aN x (bF ρ fs))):=fU λa h=>by rw[ky,h];rfl
theorem sm:bf ρ F aI (ah ρ) (A6 a x) (M.attr pt (ah ρ a) x):=fP λ_ _ o=>by
 cases o with
 |inst c fs=>exact u0 id (xn hf)
 |caught c fs=>exact u0 id (xn hf)
 |_=>exact aD
theorem kM:bf ρ F aI (λ_=>()) (mH F a x v) (M.setAttr (ah ρ a) x (ah ρ v)):=fP λs j o=>BQ λc fs=>by
 rw[cW,<-D6 (ρ:=ρ)];exact bg id λ_=>dJ hf (YV (bt.inst c) (s3 ..).symm)
theorem Ec(b:Bs):(eC ρ b).length<=500:=by
 cases b with
 |nil=>exact Zh _
 |var b=>exact hf.bn b
 |set b i v=>exact YU (zal (ia _ _ _)) (hf.bn b)
omit hf in
theorem Db(x v:V)(l:List (V×V)):(eW x v l).length<=l.length+1:=by
 induction l with
 |nil=>exact Zd _
 |cons q l ih=>
  rw[Lq];cases q.1.beq x with
  |true=>exact Zy _
  |false=>exact ZC ih
omit hf in
theorem De(es:List (SV×SV))(l:List (V×V)):(over ρ es l).length<=es.length+l.length:=by
 induction es with
 |nil=>exact zan _ _
 |cons p r i=>exact YU (Db _ _ _) (YU (ZC i) (zal (Nat.succ_add _ _).symm))
theorem D8(b:Option Nat)(h:es.length<=400):Nat.ble (gI ρ b es).length ay=true:=by
 apply Cp;cases b with
 |none=>exact YU (zal (jR es)) (YU h ak)
 |some b=>exact YU (De es (ρ.dbase b)) (YU (zba h (hf.dn b)) ak)
omit hf in
theorem ze(v:V)(l r:List V):∀{n:Nat},n<l.length->setNth v l n++r=setNth v (l++r) n:=by
 induction l with
 |nil=>intro n h;exact absurd h (zaT _)
 |cons x l ih=>
  intro n h;cases n with
  |zero=>rfl
  |succ n=>exact YV (x::·) (ih (zbt h))
theorem CX:bf ρ F aI (λ_=>()) (Hs F s j b vs k v) (M.oI (ah ρ k) λi=>M.of (de i) λn=>M.gd (Nat.blt n (eC ρ b++ax ρ vs).length) (M.put s (ρ.ix s j) (.list (setNth (ah ρ v) (eC ρ b++ax ρ vs) n)))):=by
 cases b with
 |nil=>
  refine dK λn e=>?_;refine U (jC hf e) λi e1 e2=>?_;rw[e1,cW,<-cT (ρ:=ρ)];show bf ρ F aI _ _ (M.of (de i) _);rw[e2];exact bg id λ_=>dJ hf (YV bt.list (by rw[FN,D4];rfl))
 |var b=>
  refine dK λl e=>dK λw e2=>?_;refine aZ (hf.it b l k w e e2) λn e3 e4 e5=>?_;rw[e3];show bf ρ F aI _ _ (M.of (de n) _);rw[jJ (YU e4 ak)];show bf ρ F aI _ _ (M.gd (Nat.blt n (ρ.base b++ax ρ vs).length) _);rw[show Nat.blt n (ρ.base b++ax ρ vs).length=true from ZH (by rw[Zg];exact YU (bk e5) (Y4 _ _))];refine dJ hf (YV bt.list ?_);show setNth (ah ρ v) (ρ.base b) (Be (ah ρ k))++ax ρ vs=_;rw[e3];exact ze _ _ _ (bk e5)
 |set b i w=>exact aD
theorem tl:bf ρ F aI (λ_=>()) (so F a k v) (M.setItem (ah ρ a) (ah ρ k) (ah ρ v)):=fP λs j o=>by
 cases o with
 |list b vs=>exact CX hf
 |dict b kd es=>
  refine bg (λhb=>?_) λhb=>?_
  ·rw[cW]at hb
   (refine(D8 hf b (m4 (an hb).1)).symm ▸?_;refine((fH (ρ:=ρ) (an hb).2).1).symm ▸?_);rfl
  ·(refine((fH (ρ:=ρ) (an hb).2).2).symm ▸?_)
   cases b with
   |none=>exact dK λq e=>dJ hf (YV (bt.dict _) (FW hf e).symm)
   |some b=>exact dJ hf rfl
 |_=>exact aD
theorem zb:bf ρ F aI (ah ρ) (BW F s a l h) (M.slice s (ah ρ a) (ah ρ l) (ah ρ h)):=fM λlo e1=>(al lo (xS hf e1) (fM λhi e2=>(al hi (xS hf e2) (by
 cases a with
 |str cs=>
  exact bg (λh=>cW cs ▸ h) λ_=>aq rfl
 |tup vs=>
  exact bg (λh=>by rw[cW]at h;rw[cT];exact h) λ_=>aq (YV V.tup (sZ ..))
 |obj t j=>
  refine af iR λo=>mn λvs=>?_;exact bg (λh=>by rw[cW]at h;rw[cT];exact h) λ_=>j5 hf (YV bt.list (sZ ..))
 |_=>exact aD))))
theorem C0:bf ρ F aI id (Hu a x) (M.recv pt (ah ρ a) x):=fP λs j o=>by
 cases o with
 |inst c fs=>exact u0 (λe=>by rw[ky,e];rfl) (bg id λ_=>fM λf e=>(al f e (aq rfl)))
 |list b vs=>
  cases Nat.beq x gc with
  |true=>exact aq rfl
  |false=>exact bg id λ_=>aq rfl
 |dict b kd es=>exact bg id λ_=>aq rfl
 |_=>exact aD
theorem jO(b:Bs)(h:Nat.ble (fp vs) 400=true):Nat.ble (eC ρ b++ax ρ vs).length ay=true:=by
 rw[cW]at h;exact Cp (by rw[Zg,cT];exact YU (zba (Ec hf b) (m4 h)) ak)
theorem vI:bf ρ F aI (ah ρ) (xq F a v) (M.append (ah ρ a) (ah ρ v)):=fP λs j o=>BO λb vs=>bg (jO hf b) λ_=>af (dJ hf (YV bt.list (by rw[mQ,zad];rfl))) λ_=>aq rfl
omit hf in
theorem FX:∀{p:List SV×SV},A1 vs=some p->hO (ax ρ vs)=some (ax ρ p.1,ah ρ p.2):=by
 induction vs with
 |nil=>intro p h;exact nt h
 |cons a r i=>
  intro p h;obtain rfl:=si h;show some (match hO (ax ρ r)with|some p=>(ah ρ a::p.1,p.2)|none=>([],ah ρ a))=_;cases r with
  |nil=>rfl
  |cons b r=>rw[i (p:=Option.rec ([],b) (λp=>(b::p.1,p.2)) (A1 r)) rfl];rfl
theorem C1:bf ρ F aI (ah ρ) (Hv F a) (M.popL (ah ρ a)):=fP λs j o=>mn λvs=>bg (λh=>jO hf .nil h) λ_=>fM λp e=>(al _ (FX e) (af (dJ hf rfl) λ_=>aq rfl))
theorem sk:bf ρ F aI (ah ρ) (A4 F a k d) (M.getD (ah ρ a) (ah ρ k) (ah ρ d)):=fP λs j o=>BR λb kd es=>bg (λh=>(fH h).1) λ_=>dK λr e=>by
 (refine(mS hf e).symm ▸?_)
 refine aq ?_;cases r<;>rfl
theorem Gc(h:Mv F b n=some l):ah ρ l= .int (((eC ρ b).length+n:Nat):Int):=by
 have go:∀{b l},((bJ b F.bl).bind λl=>qI none l λx c=>some (.int x (Int.add c (.ofNat n))))=some l->ah ρ l= .int (((ρ.base b).length+n:Nat):Int):=by
  intro b l h;refine U (ob h) λw e h=>?_
  (refine bR (jg h nn) λx c q3 h=>?_;subst q3)
  (refine(si h) ▸?_)
  exact YV V.int ((zaf ..).symm.trans (YV (·+(n:Int)) (V.int.inj (hf.bl b _ e))))
 cases b with
 |nil=>(refine(si h) ▸?_);exact YV V.int ((iu hf).trans (YV Int.ofNat (zbq n).symm))
 |var b=>exact go h
 |set b i v=>(refine(show(eC ρ (.set b i v)).length=(ρ.base b).length from ia _ _ _).symm ▸?_);exact go h
theorem FH:bf ρ F aI (ah ρ) (Mc F a) (M.len (ah ρ a)):=by
 cases a with
 |tup vs=>
  show bf ρ F aI _ (iJ (Nat.ble (fp vs) ay) (dq (SV.int 0 (.ofNat (fp vs))))) (M.gd (Nat.ble (ax ρ vs).length ay) (M.pure (V.int ((ax ρ vs).length:Nat))));rw[cW,cT];exact bg id λ_=>aq (YV V.int (iu hf))
 |obj s j=>
  refine af iR λo=>BO λb vs=>bg (jO hf b) λ_=>dK λl e=>aq ?_;rw[Gc hf e,Zg,cT,cW]
 |_=>exact aD
theorem FG:bf ρ F aI (ah ρ) (Mb F s vs) (M.lst s (ax ρ vs)):=bg (λh=>jO hf .nil h) λ_=>j5 hf rfl
theorem xm:bf ρ F aI (ah ρ) (lo x) (M.loc x):=by
 intro S σ hs;unfold lo;cases e:bJ x S.env with
 |none=>trivial
 |some v=>
  refine(al σ ?_ hs);unfold M.loc;rw[hs.env,ky,e];rfl
theorem jw(hs:jY ρ F aI S σ)(e:List (Nat×SV)):jY ρ F aI ⟨S.hp,e⟩ (σ.setE (bF ρ e)):=⟨rfl,hs.at_,hs.cnt,hs.fx,hs.ro,hs.inj,hs.fr,hs.len⟩
theorem pq:bf ρ F aI (λ_=>()) (bn x v) (M.bindN x (ah ρ v)):=by
 intro S σ hs;refine(al (σ.setE (bF ρ (z7 x v S.env))) ?_ (jw hf hs _));unfold M.bindN;rw[hs.env,s3]
end
structure Fe(ρ:Ro)(F:Fx)(aI:St)(hi:Hh)(h:Ih):Prop where
 e:∀x,bf ρ F aI (ah ρ) (hi.e x) (h.e x)
 b:∀x,bf ρ F aI id (hi.b x) (h.b x)
 s:∀x,bf ρ F aI (dR ρ) (hi.s x) (h.s x)
 c:∀f vs,bf ρ F aI (ah ρ) (hi.c f vs) (h.c f (ax ρ vs))
section
variable{ρ:Ro}{F:Fx}{aI:St}(hf:dY ρ F aI){hi:Hh}{h:Ih}(H:Fe ρ F aI hi h)
include hf H
theorem fW(l:List Ex):bf ρ F aI (ax ρ) (rC hi l) (kK h l):=by
 induction l with
 |nil=>exact aq rfl
 |cons e r i=>exact af (H.e e) λv=>af i λvs=>aq rfl
theorem zd(ks:List Ex):∀vs,bf ρ F aI (c9 ρ) (BY hi ks vs) (dM h ks vs):=by
 induction ks with
 |nil=>intro vs;exact aq rfl
 |cons k ks i=>
  intro vs;cases vs with
  |nil=>exact aq rfl
  |cons v vs=>exact af (H.e k) λa=>af (H.e v) λb=>af (i vs) λq=>aq rfl
omit hf H in
theorem xI(h1:Nat.beq (gJ v) kd=true)(h2:Nat.blt kd 3=true):cO (ah ρ v)=gJ v:=qk (by(refine(aB.mp h1).symm ▸?_);exact ZH (ZM (YX h2)))
omit H in
theorem zR(h:p0 F kd l=true):be kd (c9 ρ l)=true:=by
 induction l with
 |nil=>rfl
 |cons p l i=>
  refine YN.mpr ⟨YN.mpr ⟨YN.mpr ⟨by rw[xI (an (an (an h).1).1).1 (an (an (an h).1).1).2];exact(an (an (an h).1).1).1,(an (an (an h).1).1).2⟩,?_⟩,i (an h).2⟩;refine U (oa (an (an h).1).2) λr e e2=>?_;rw[qh hf e,zat.mp e2];rfl
omit hf H in
theorem xH(h:p0 F (wK l) l=true):cc (c9 ρ l)=wK l:=by
 cases l with
 |nil=>rfl
 |cons p l=>exact xI (an (an (an h).1).1).1 (an (an (an h).1).1).2
omit H in
theorem C6:bf ρ F aI (λ_=>()) (Hz F o kd ps) (M.fill (ah ρ o) kd (c9 ρ ps)):=fP λs j ob=>BR λb k es=>by
 cases b with
 |some _=>exact aD
 |none=>
  refine bg (λe=>?_) λ_=>dJ hf rfl;rw[Zk.mp (an (an e).2).2];exact YN.mpr ⟨(an (an e).2).1,rfl⟩
theorem C7:bf ρ F aI (ah ρ) (A5 F hi s ks vs) (lX pt h (.dict s ks vs)):=by
 unfold A5 lX;refine af (j5 hf (mo:= .dict 0 []) rfl) λo=>?_;refine af (zd hf H ks vs) λps=>?_;refine bg (λhb=>?_) λhb=>?_
 ·rw[xH (an hb).1,zR hf (an hb).1,jR,<-cW];exact(an hb).2
 ·rw[xH (an hb).1];exact af (C6 hf) λ_=>aq rfl
theorem mF(k:∀t,bf ρ F aI d (f t) (g t)):bf ρ F aI d (bin (opt (uH F v)) f) (M.bind (M.opt (iG (ah ρ v))) g):=by
 refine af (d:=id) (fU λt e=>?_) λt=>k t
 (refine(xf hf e).symm ▸?_);rfl
theorem FL(l:List Ex):bf ρ F aI (ah ρ) (Mf F hi l) (lL h l):=by
 induction l with
 |nil=>exact aD
 |cons e r i=>
  cases r with
  |nil=>exact H.e e
  |cons e' r=>
   refine af (H.e e) λv=>mF hf H λt=>?_;cases t with
   |false=>exact aq rfl
   |true=>exact i
theorem JB(l:List Ex):bf ρ F aI (ah ρ) (SZ F hi l) (pP h l):=by
 induction l with
 |nil=>exact aD
 |cons e r i=>
  cases r with
  |nil=>exact H.e e
  |cons e' r=>
   refine af (H.e e) λv=>mF hf H λt=>?_;cases t with
   |true=>exact aq rfl
   |false=>exact i
theorem FM(l:List Ex):bf ρ F aI id (Mg hi l) (Fa h l):=by
 induction l with
 |nil=>exact aq rfl
 |cons e r i=>
  refine af (H.b e) λt=>?_;cases t with
  |false=>exact aq rfl
  |true=>exact i
theorem FK(l:List Ex):bf ρ F aI id (Me hi l) (E9 h l):=by
 induction l with
 |nil=>exact aq rfl
 |cons e r i=>
  refine af (H.b e) λt=>?_;cases t with
  |true=>exact aq rfl
  |false=>exact i
theorem oE(os:List pa):∀(a:SV) (es:List Ex),bf ρ F aI id (vb F hi a os es) (gq pt h (ah ρ a) os es):=by
 induction os with
 |nil=>intro a es;exact aD
 |cons o os i=>
  intro a es;cases es with
  |nil=>exact aD
  |cons e es=>
   refine af (H.e e) λb=>af (FJ hf) λt=>?_;cases os with
   |nil=>exact aq rfl
   |cons o' os=>
    cases t with
    |false=>exact aq rfl
    |true=>exact i b es
omit H in
theorem ly(h:l.isEmpty=true):(ax ρ l).isEmpty=true:=by rw[Zk.mp h];rfl
theorem C3{mt:Hg}{args:List SV}:bf ρ F aI (ah ρ) (Hx F hi mt a args) (M.meth h mt (ah ρ a) (ax ρ args)):=by
 cases mt with
 |own f=>exact H.c f (a::args)
 |app=>
  cases args with
  |nil=>exact aD
  |cons v r=>exact bg (ly hf) λ_=>vI hf
 |pop=>exact bg (ly hf) λ_=>C1 hf
 |get=>
  cases args with
  |nil=>exact aD
  |cons v r=>
   cases r with
   |nil=>exact sk hf (d:= .none)
   |cons w q=>exact bg (ly hf) λ_=>sk hf
omit hf H in
theorem JD(h:bf ρ F aI d f g):bf ρ F aI d (qN c5 a f) (M.oN (ah ρ a) g):=by
 cases a with
 |none=>exact h
 |_=>exact aD
theorem sj:bf ρ F aI (ah ρ) (A2 F hi c s f args) (M.made h c s f (ax ρ args)):=af (j5 hf rfl) λo=>af (H.c f (o::args)) λr=>JD (aq rfl)
theorem C4:bf ρ F aI (ah ρ) (Hy F hi c s args) (M.make pt h c s (ax ρ args)):=fM λo e=>(al o e (by
 cases o with
 |none=>exact bg (ly hf) λ_=>j5 hf rfl
 |some f=>exact bg id λ_=>sj hf H))
omit hf H in
theorem zm(h:rU vs=some v):rU (ax ρ vs)=some (ah ρ v):=by
 cases vs with
 |nil=>exact nt h
 |cons a r=>
  obtain⟨e,g⟩:=bX h
  (refine(si g).symm ▸?_;refine(Zk.mp e).symm ▸?_);rfl
omit hf H in
theorem JE(e:ah ρ v= .int i)(h:bf ρ F aI d ms (f i)):bf ρ F aI d ms (M.oI (ah ρ v) f):=by rw[e];exact h
omit hf H in
theorem FD(e:o=some a)(h:bf ρ F aI d ms (f a)):bf ρ F aI d ms (M.of o f):=by rw[e];exact h
theorem FC:bf ρ F aI (ah ρ) (L9 F hi s a b) (lX pt h (.rep s a b)):=by
 refine af (H.e a) λx=>af (H.e b) λy=>dK λn hy=>?_;refine U (jC hf hy) λi e1 e2=>?_;exact JE e1 (FD e2 (fP λ_ _ o=>mn λvs=>fM λv hv=>(al _ (zm hv) (bg id λ_=>j5 hf (YV bt.list (D5 ..))))))
theorem FE:bf ρ F aI (ah ρ) (Ma hi a) (lX pt h (.neg a)):=by
 refine af (H.e a) λv=>?_;cases v with
 |int x c=>
  refine(show bf ρ F aI (ah ρ) (iJ (Nat.beq x 0) (dq (.int 0 (Int.neg c)))) (M.pure (V.int (-(ρ.int x+c))))from ?_);refine uy (Nat.beq x 0) (λe=>?_) λe=>?_
  ·rw[e];exact aD
  ·rw[aB.mp e,iu hf];exact aq (YV V.int (iu hf))
 |_=>exact aD
theorem Hq(e:Option Ex):bf ρ F aI (ah ρ) (sO hi e) (G8 h e):=by
 cases e with
 |none=>exact aq rfl
 |some e=>exact H.e e
theorem Nd:∀e,bf ρ F aI (ah ρ) (sE F hi e) (lX pt h e)
 | .loc x=>xm hf
 | .glb x=>by
  refine fU λa e=>?_;refine dI (pt.const x) (λe2=>?_) λv e2=>?_
  ·rw[e2]at e;exact nt e
  ·rw[e2];rw[e2]at e;obtain rfl:=YZ e;rw[mR v hf.z]
 | .k v=>aq (mR v hf.z)
 | .tup es=>af (fW hf H es) λvs=>aq rfl
 | .list s es=>af (fW hf H es) λvs=>FG hf
 | .dict s ks vs=>C7 hf H
 | .bin o a b=>af (H.e a) λx=>af (H.e b) λy=>fU λv e=>GL hf e
 | .rep s a b=>FC hf H
 | .neg a=>FE hf H
 | .not a=>af (H.e a) λv=>mF hf H λt=>aq rfl
 | .and es=>FL hf H es
 | .or es=>JB hf H es
 | .cmp a os bs=>af (H.e a) λx=>af (oE hf H os x bs) λt=>aq rfl
 | .ite c a b=>af (H.b c) λt=>by cases t;exact H.e b;exact H.e a
 | .attr a x=>af (H.e a) λv=>sm hf
 | .sub a b=>af (H.e a) λx=>af (H.e b) λy=>C5 hf
 | .slice s a lo Ad=>af (H.e a) λx=>af (Hq hf H lo) λl=>af (Hq hf H Ad) λu=>zb hf
 | .call f args=>af (fW hf H args) λvs=>H.c f vs
 | .new c s args=>af (fW hf H args) λvs=>C4 hf H
 | .meth o x args=>af (H.e o) λa=>af (C0 hf) λmt=>af (fW hf H args) λvs=>C3 hf H
 | .len a=>af (H.e a) λv=>FH hf
 | .hole=>aD
theorem CW(e:Ex):bf ρ F aI id (bin (hi.e e) λv=>opt (uH F v)) (M.bind (h.e e) λv=>M.opt (iG v)):=af (H.e e) λv=>fU λt e=>by(refine(xf hf e).symm ▸?_);rfl
theorem Nb:∀e,bf ρ F aI id (sT F hi e) (stepT pt h e)
 | .not a=>af (H.b a) λt=>aq rfl
 | .and es=>FM hf H es
 | .or es=>FK hf H es
 | .ite c a b=>af (H.b c) λt=>by cases t;exact H.b b;exact H.b a
 | .cmp a os bs=>af (H.e a) λx=>oE hf H os x bs
 | .loc _| .glb _| .k _| .tup _| .list _ _| .dict _ _ _| .bin _ _ _| .rep _ _ _| .neg _| .attr _ _| .sub _ _| .slice _ _ _ _| .call _ _| .new _ _ _| .meth _ _ _| .len _| .hole=>CW hf H _
end
section
variable{ρ:Ro}{F:Fx}{aI:St}
theorem gR(k:bf ρ F aI d ms m):bf ρ F aI d (mj ms) (M.calm m):=by
 intro S σ hs;have:=k S σ hs;unfold mj;cases e:ms S with
 |no=>trivial
 |ok a S'=>
  rw[e]at this
  (refine U this λσ' e1 h2=>?_;clear this)
  exact(al σ' (by unfold M.calm;rw[e1]) h2)
 |ex b s j c S'=>trivial
theorem CY:bf ρ F aI (λ_=>()) (Ht s j vs) (jn s (ρ.ix s j) (ax ρ vs)):=af iR λo=>mn λus S σ hs=>by
 cases e:SV.beqs us vs with
 |false=>trivial
 |true=>exact(al σ (by rw[qw e,V.beqs_self];rfl) hs)
theorem Gp(hf:dY ρ F aI):∀{q:List V},Ja l=some q->ax ρ l=q:=by
 induction l with
 |nil=>intro q h;exact si h
 |cons v l i=>
  intro q h
  (refine bR (jg h nn) λx c q3 h=>?_;subst q3)
  obtain⟨e,h⟩:=bX h
  (refine U (om h) λq' e2 q3=>?_;subst q3)
  show V.int (ρ.int x+c)::ax ρ l=_;rw[aB.mp e,iu hf,i e2]
theorem CZ{ms:MS α}{m:M β}(hf:dY ρ F aI)(k:bf ρ F aI d ms m):bf ρ F aI d (A7 e ms) (M.restore (bF ρ e) m):=by
 intro S σ hs;have:=k S σ hs;unfold A7;cases e1:ms S with
 |no=>trivial
 |ok a S'=>
  rw[e1]at this
  (refine U this λσ' e2 h2=>?_;clear this)
  exact(al _ (by unfold M.restore;rw[e2]) (jw hf h2 _))
 |ex b s j c S'=>
  rw[e1]at this
  (refine U this λσ' e2 h2=>?_;clear this)
  exact(al _ (by unfold M.restore;rw[e2]) (jw hf h2 _))
variable(hf:dY ρ F aI){hi:Hh}{h:Ih}(H:Fe ρ F aI hi h)
include hf H
theorem cI(l:List Sm):bf ρ F aI (dR ρ) (dB hi l) (execs h l):=by
 induction l with
 |nil=>exact aq rfl
 |cons s r i=>
  refine af (H.s s) λf=>?_;cases f with
  |next=>exact i
  |ret v=>exact aq rfl
omit H in
theorem to(xs:List Nat):∀vs,bf ρ F aI (λ_=>()) (mI xs vs) (bindAll xs (ax ρ vs)):=by
 induction xs with
 |nil=>
  intro vs;cases vs with
  |nil=>exact aq rfl
  |cons _ _=>exact aD
 |cons x xs i=>
  intro vs;cases vs with
  |nil=>exact aD
  |cons v vs=>
   show bf ρ F aI (λ_=>()) (bin (bn x v) λ_=>mI xs vs) (M.bind (M.bindN x (ah ρ v)) λ_=>bindAll xs (ax ρ vs));exact af (pq hf) λ_=>i vs
omit hf H in
theorem JC(h:∀vs,bf ρ F aI d (f vs) (g (ax ρ vs))):bf ρ F aI d (qT c5 a f) (M.oT (ah ρ a) g):=by
 cases a with
 |tup vs=>exact h vs
 |_=>exact aD
theorem mV:bf ρ F aI (λ_=>()) (p8 F hi t v) (assign h t (ah ρ v)):=by
 cases t with
 |loc x=>exact pq hf
 |attr o x=>exact af (H.e o) λa=>kM hf
 |sub o i=>exact af (H.e o) λa=>af (H.e i) λk=>tl hf
 |tup xs=>
  exact JC λvs=>to hf xs vs
theorem mG(hc:bf ρ F aI (λ_=>()) cs c)(l:List SV):bf ρ F aI (dR ρ) (wJ F hi cs t b l) (bW h c t b (ax ρ l)):=by
 induction l with
 |nil=>exact aq rfl
 |cons v r i=>
  refine af (mV hf H) λ_=>af (cI hf H b) λf=>?_;cases f with
  |next=>exact af hc λ_=>i
  |ret u=>exact aq rfl
omit hf H in
theorem JG:bf ρ F aI d (λS=> .ex je s j c S) (λσ=>some (.exc je s (ρ.ix s j) c,σ)):=λS σ hs=>(al σ rfl hs)
omit H in
theorem zc:bf ρ F aI (dR ρ) (BX F c s j) (M.raise pt c s (ρ.ix s j)):=af iR λo=>BQ λc' fs=>bg (λh=>by cases fs<;>exact h) λ_=>by
 show bf ρ F aI (dR ρ) _ (M.bind (M.put s (ρ.ix s j) (.gone c' (bF ρ fs))) λ_ σ=>some (.exc false s (ρ.ix s j) c',σ));exact af (dJ hf rfl) λ_=>JG
theorem tm:bf ρ F aI (ah ρ) (sq F hi c s args) (M.makeExc pt h c s (ax ρ args)):=fM λo e=>(al o e (fM λf e2=>(al f e2 (bg (λg=>by rw[cW]at g;rw[cT];exact g) λ_=>sj hf H))))
theorem vH:bf ρ F aI (dR ρ) (xp F hi c s args) (oj pt h (.raise c s args)):=af (fW hf H args) λvs=>af (tm hf H) λo=>BN λs j=>zc hf
omit hf H in
theorem JF(h:∀c fs,bf ρ F aI d (f c fs) (g c (bF ρ fs))):bf ρ F aI d (jG c5 o f) (M.kG (aC ρ o) g):=by
 cases o with
 |gone c fs=>exact h c fs
 |_=>exact aD
omit H in
theorem FA(k:bf ρ F aI (dR ρ) ms m):bf ρ F aI (dR ρ) (L8 x ms) (M.unE x m):=af (gR k) λf S σ hs=>(al (σ.setE (bF ρ (IR x S.env))) (by rw[hs.env,D7]) (jw hf hs _))
omit H in
theorem FB(k:bf ρ F aI (dR ρ) ms m)(kh:bf ρ F aI (dR ρ) iD hm):bf ρ F aI (dR ρ) (IV F c x ms iD) (M.catch c x m hm):=by
 intro S σ hs;have h1:=k S σ hs;unfold IV;cases e:ms S with
 |no=>trivial
 |ok f S'=>
  rw[e]at h1
  (refine U h1 λσ' e2 h3=>?_;clear h1)
  exact(al σ' (by unfold M.catch;rw[e2]) h3)
 |ex je s j c' S'=>
  rw[e]at h1
  (refine U h1 λσ' e2 h3=>?_;clear h1)
  cases je with
  |false=>trivial
  |true=>
   (refine((show M.catch c x m hm σ=M.handle c x s (ρ.ix s j) c' hm σ' from by unfold M.catch;rw[e2];rfl)).symm ▸?_)
   exact(af iR λo=>JF λLU fs=>bg id λ_=>af (dJ hf rfl) λ_=>af (pq hf) λ_=>FA hf kh) S' σ' h3
theorem Jz:bf ρ F aI (dR ρ) (SY hi c b) (oj pt h (.wh c b)):=by
 refine gR (af (H.b c) λt=>?_);cases t with
 |false=>exact aq rfl
 |true=>
  refine af (cI hf H b) λf=>?_;cases f with
  |next=>exact H.s _
  |ret v=>exact aq rfl
theorem C2:bf ρ F aI (dR ρ) (Hw F hi t b v) (match ah ρ v with
   | .tup vs=>M.calm (bW h (M.pure ()) t b vs)
   | .obj s i=>M.bind (M.get s i) λo=>M.kL o λvs=>M.gd (Nat.ble vs.length ay) (M.calm (bW h (jn s i vs) t b vs))
   |_=>M.fail):=by
 cases v with
 |tup vs=>exact gR (mG hf H (aq (a:=()) (b:=()) rfl) _)
 |obj s j=>exact af iR λo=>mn λvs=>bg (λg=>by rw[cW]at g;rw[cT];exact g) λ_=>gR (mG hf H CY _)
 |_=>exact aD
theorem FI:bf ρ F aI (dR ρ) (Md F hi t it b) (oj pt h (.for t it b)):=by
 cases it with
 |range args=>
  refine af (fW hf H args) λvs=>dK λus e=>dK λl e2=>?_;rw[Gp hf e,e2];have:=gR (mG hf H (aq (a:=()) (b:=()) rfl) (t:=t) (b:=b) (lY l));rw[jb l hf.z]at this;exact this
 |over e=>exact af (H.e e) λv=>C2 hf H
theorem Nc:∀s,bf ρ F aI (dR ρ) (sS F hi s) (oj pt h s)
 | .expr e=>af (H.e e) λ_=>aq rfl
 | .asg t e=>af (H.e e) λv=>af (mV hf H) λ_=>aq rfl
 | .augN x o e=>af (xm hf) λa=>af (H.e e) λb=>af (fU λv e=>xV hf e) λv=>af (pq hf) λ_=>aq rfl
 | .augA a x o e=>af (H.e a) λq=>af (sm hf) λu=>af (H.e e) λb=>af (fU λv e=>xV hf e) λv=>af (kM hf) λ_=>aq rfl
 | .ite c t e=>af (H.b c) λb=>by cases b;exact cI hf H e;exact cI hf H t
 | .wh c b=>Jz hf H
 | .for t it b=>FI hf H
 | .ret none=>aq rfl
 | .ret (some e)=>af (H.e e) λv=>aq rfl
 | .try b c x hd=>FB hf (cI hf H b) (cI hf H hd)
 | .raise c s args=>vH hf H
 | .hole=>aD
omit hf H in
theorem Fh:∀{vs:List SV} {e:List (Nat×SV)},EI xs vs=some e->pb xs (ax ρ vs)=some (bF ρ e):=by
 induction xs with
 |nil=>
  intro vs e h;cases vs with
  |nil=>(refine(si h) ▸?_);rfl
  |cons _ _=>exact nt h
 |cons x xs i=>
  intro vs e h;cases vs with
  |nil=>exact nt h
  |cons v vs=>
   have h1:(Option.rec none (λq=>some ((x,v)::q)) (EI xs vs):Option (List (Nat×SV)))=some e:=h;refine dI (EI xs vs) (λe1=>?_) λq e1=>?_
   ·rw[e1]at h1;exact nt h1
   ·
    rw[e1]at h1
    (refine(si h1) ▸?_)
    exact YV (Option.map ((x,ah ρ v)::·)) (i e1)
theorem BS:bf ρ F aI (ah ρ) (PP hi f args) (rO pt h f (ax ρ args)):=by
 refine fM (o:=pt.fn f) λfn e=>(al fn e (dK λenv e2=>?_))
 (refine(Fh e2).symm ▸?_)
 intro S σ hs
 have:=CZ (e:=S.env) hf (show bf ρ F aI (ah ρ) (bin (se env) λ_=>bin (dB hi fn.body) λr=>jZ.rec (motive:=λ_=>MS SV) (dq .none) (λv=>dq v) r) (M.bind (M.setE (bF ρ env)) λ_=>M.bind (execs h fn.body) λr=>match r with| .next=>M.pure .none| .ret v=>M.pure v)from by
  refine af (d:=λ_:Unit=>()) (λS σ hs=>(al _ rfl (jw hf hs _))) λ_=>?_;refine af (cI hf H fn.body) λr=>?_;cases r with
  |next=>exact aq rfl
  |ret v=>exact aq rfl) S σ hs
 rw[<-hs.env]at this;exact this
end
section
variable{ρ:Ro}{F:Fx}{aI:St}(hf:dY ρ F aI)
include hf
theorem Nf(hn:n<=m)(H:Fe ρ F aI hi (run pt m))(f:Nat)(args:List SV):bf ρ F aI (ah ρ) (sC F hi (n+1) f args) (rO pt (run pt m) f (ax ρ args)):=by
 unfold sC;cases e:bJ f F.ca with
 |none=>exact BS hf H
 |some l=>
  dsimp only;refine dI (Pe args l) (λe2=>?_) λr e2=>?_
  ·rw[e2];exact BS hf H
  ·
   rw[e2];dsimp only;intro S σ hs;rw[Cr];refine uy ((F.pre S&&Nat.ble F.cf (n+1))) (λe3=>?_) λe3=>?_
   ·rw[e3];trivial
   ·
    rw[e3];simp only[YW]at e3;exact(hf.ca f l args r e e2 S σ hs e3.1 (m+1) (YU (YX e3.2) (zap ‹_›)))
theorem jv:∀n m,n<=m->Fe ρ F aI (pe F n) (run pt m)
 |0,m,_=>⟨λ_=>aD,λ_=>aD,λ_=>aD,λ_ _=>aD⟩
 |n+1,0,hm=>absurd hm (absurd ‹_› (zaT _))
 |n+1,m+1,hm=>by
  have H:=jv n m (zbu ‹_›);exact⟨Nd hf H,Nb hf H,Nc hf H,λf vs=>Nf hf (zbu ‹_›) H f vs⟩
end
noncomputable def Pc (p:Nat->SL) (d:Nat):Nat->Nat->Tr SL:=Nat.rec (λ_ a=> .f a (p a)) (λ_ ih q a=> .n (ih (Nat.mul 2 q) a) (ih (Nat.mul 2 q) (Nat.add a q))) d
abbrev bu:=List (Nat×List (Nat×SO))
def BM(es:bu)(s:Nat):SL:=⟨0,Option.rec [] (λl=>l) (bJ s es)⟩
def Ws(es:bu):Tr SL:=List.rec (Pc (BM []) 7 1 0) (λp _ t=>t.put p.1 ⟨0,p.2⟩) es
def ur(es:bu)(env:List (Nat×SV)):fk:=⟨Ws es,env⟩
def aP(es:bu)(s j:Nat):Option SO:=match bJ s es with
 |some l=>bJ j l
 |none=>none
structure L1(yv:Nat->Bool)(σ σ':St):Prop where
 env:σ'.env=σ.env
 keep:∀s i o,nth (σ.heap s) i=some o->nth (σ'.heap s) i=some o
 len:∀s,yv s=false->(σ'.heap s).length=(σ.heap s).length
 mono:∀s,(σ.heap s).length<=(σ'.heap s).length
theorem jY.ext(hs:jY ρ F aI S σ)(x:L1 yv σ σ')(hd:∀s,md F s≠4->yv s=false):jY ρ F aI S σ':=
 ⟨x.env.trans hs.env,λs j o h=>x.keep _ _ _ (hs.at_ s j o h),λs L h h2=>by rw[x.len s (hd s h2)];exact hs.cnt s L h h2,λs h4 ha=>by rw[x.len s (hd s h4)];exact hs.fx s h4 ha,λs hw i o h=>x.keep _ _ _ (hs.ro s hw i o h),hs.inj,λs i o h hk=>x.keep _ _ _ (hs.fr s i o h hk),λs=>YU (hs.len s) (x.mono s)⟩
theorem C9(hm:m σ1=m σ)(h:M.restore e m σ1=some (.ok v,σ')):M.restore e' m σ=some (.ok v,σ'.setE e'):=by
 unfold M.restore at h⊢;rw[hm]at h;refine dI (m σ) (λe3=>?_) λr e3=>?_
 ·rw[e3]at h;exact nt h
 ·
  (refine(e3).symm ▸?_)
  rw[e3]at h;obtain⟨r,dy⟩:=r;cases r with
  |exc _ _ _ _=>exact er h
  |ok a=>obtain⟨h1,rfl⟩:=sp h;injection h1 with h1;(refine(h1).symm ▸?_);rfl
theorem tc(h:(run pt m).c f vs (σ.setE e)=some (.ok v,σ')):(run pt m).c f vs σ=some (.ok v,σ'.setE σ.env):=by
 cases m with
 |zero=>exact nt h
 |succ m=>
  refine U (gH h) λfn e1 h=>?_;refine U (gH h) λenv e2 h=>?_;show rO pt (run pt m) f vs σ=_;unfold rO
  (refine(e1).symm ▸?_)
  show M.of (pb fn.params vs) _ σ=_
  (refine(e2).symm ▸?_)
  exact C9 (e:=e) (by rfl) h
theorem F6(p:Nat->SL)(k d:Nat):∀{q a j:Nat} {L:SL},dX k (Pc p d q a) j=some L->L=p k:=by
 induction d with
 |zero=>
  intro q a j L h;have h1:(bif Nat.beq a k then some (p a)else none)=some L:=h;refine cX (Nat.beq a k) (λe=>?_) λe=>?_
  ·rw[e]at h1;(refine(si h1) ▸?_;refine(aB.mp e).symm ▸ rfl)
  ·rw[e]at h1;exact nt h1
 |succ d i=>
  intro q a j L h;have h1:(bif Nat.beq (Nat.mod j 2) 0 then dX k (Pc p d (Nat.mul 2 q) a) (Nat.div j 2)else dX k (Pc p d (Nat.mul 2 q) (Nat.add a q)) (Nat.div j 2))=some L:=h;refine cX (Nat.beq (Nat.mod j 2) 0) (λe=>?_) λe=>?_
  ·rw[e]at h1;exact i h1
  ·rw[e]at h1;exact i h1
theorem N4(k:Nat)(v:α)(t:Tr α):∀{j:Nat} {u:α},dX k (kZ k v t j) j=some u->u=v:=by
 induction t with
 |e=>intro j u h;exact nt h
 |f q w=>
  intro j u h;rw[O8]at h;refine cX (Nat.beq q k) (λe=>?_) λe=>?_
  ·rw[e]at h;rw[Z2,G6,e]at h;exact(si h).symm
  ·rw[e]at h;rw[zaY,G6,e]at h;exact nt h
 |n l r il ir=>
  intro j u h;rw[O7]at h;refine cX (Nat.beq (Nat.mod j 2) 0) (λe=>?_) λe=>?_
  ·rw[e]at h;rw[Z2,G5,e]at h;exact il h
  ·rw[e]at h;rw[zaY,G5,e]at h;exact ir h
theorem xB(es:bu)(env:List (Nat×SV))(h:(ur es env).hp.get s=some L):L=BM es s:=by
 revert L
 induction es with
 |nil=>intro L h;exact F6 _ s 7 ((Tr.get_eq ..).symm.trans h)
 |cons p es i=>
  intro L h;have h:(Tr.put (ur es env).hp p.1 ⟨0,p.2⟩).get s=some L:=h;show L=⟨0,Option.rec [] (λl=>l) (bJ s (p::es))⟩;rw[bM];refine cX (Nat.beq p.1 s) (λe=>?_) λe=>?_
  ·rw[e];obtain rfl:=aB.mp e;rw[Tr.get_eq,Tr.put_eq]at h;exact N4 _ _ _ h
  ·rw[e];rw[Tr.get_put_ne (jh e)]at h;exact i h
theorem qf(es:bu)(env:List (Nat×SV))(h:(ur es env).get s j=some o):aP es s j=some o:=by
 rw[fk.get_def]at h;refine dI ((ur es env).hp.get s) (λe=>?_) λL e=>?_
 ·rw[e]at h;exact nt h
 ·
  rw[e]at h;obtain rfl:=xB es env e;unfold aP;have h:bJ j (Option.rec [] (λl=>l) (bJ s es):List (Nat×SO))=some o:=h;refine dI (bJ s es) (λe2=>?_) λl e2=>?_
  ·rw[e2]at h;exact nt h
  ·(refine(e2).symm ▸?_);rw[e2]at h;exact h
section
variable{ρ:Ro}{F:Fx}{es:bu}{env:List (Nat×SV)}{σ:St}
theorem wO(h0:∀s,ρ.len0 s=(σ.heap s).length)(he:σ.env=bF ρ env)(h1:∀s j o,aP es s j=some o->nth (σ.heap s) (ρ.ix s j)=some (aC ρ o))(h2:∀s j k a b,aP es s j=some a->aP es s k=some b->ρ.ix s j=ρ.ix s k->j=k):jY ρ F σ (ur es env) σ where
 env:=he
 at_ s j o h:=h1 s j o (qf es env h)
 cnt s L h _:=by rw[xB es env h,h0];rfl
 fx s _ _:=rfl
 ro s _ i o h:=h
 inj s j k a b ha hb h:=h2 s j k a b (qf es env ha) (qf es env hb) h
 fr s i o h _:=h
 len s:=Zd _
noncomputable def jk {α:Type} (p:Nat->α->Bool):Tr α->Bool
 | .e=>true
 | .f k v=>p k v
 | .n l r=>jk p l&&jk p r
theorem DI(k:Nat)(t:Tr α):∀{j:Nat} {v:α},jk p t=true->dX k t j=some v->p k v=true:=by
 induction t with
 |e=>intro j v _ h;exact nt h
 |f q u=>
  intro j v h1 h;have h:(bif Nat.beq q k then some u else none)=some v:=h;refine cX (Nat.beq q k) (λe=>?_) λe=>?_
  ·rw[e]at h;(refine(si h) ▸?_;refine(aB.mp e) ▸?_);exact h1
  ·rw[e]at h;exact nt h
 |n l r il ir=>
  intro j v h1 h;have h:(bif Nat.beq (Nat.mod j 2) 0 then dX k l (Nat.div j 2)else dX k r (Nat.div j 2))=some v:=h;refine cX (Nat.beq (Nat.mod j 2) 0) (λe=>?_) λe=>?_
  ·rw[e]at h;exact il (an h1).1 h
  ·rw[e]at h;exact ir (an h1).2 h
theorem md_all(h:jk p F.mo=true)(s:Nat):md F s=0\/p s (md F s)=true:=by
 unfold md;rw[Tr.get_eq];refine dI (dX s F.mo s) (λe=>?_) λv e=>?_
 ·rw[e];exact .inl rfl
 ·rw[e];exact .inr (DI s F.mo h e)
def eJ(F:Fx)(n f:Nat)(args:List SV)(es:bu)(r:SV):Bool:=O.rec false (λv _=>v.beq r) (λ_ _ _ _ _=>false) ((pe F n).c f args (ur es []))
def yv(F:Fx)(s:Nat):Bool:= !Nat.beq (md F s) 0
theorem d7(hf:dY ρ F (σ.setE []))(h1:∀s j o,aP es s j=some o->nth (σ.heap s) (ρ.ix s j)=some (aC ρ o))(h2:∀s j k a b,aP es s j=some a->aP es s k=some b->ρ.ix s j=ρ.ix s k->j=k)(Es:jk (λ_ v=>Nat.beq v 1||Nat.beq v 4) F.mo=true)(hm:n<=m)(cw:eJ F n f args es r=true):∃σ',(run pt m).c f (ax ρ args) σ=some (.ok (ah ρ r),σ')/\L1 (yv F) σ σ':=by
 have:=(jv hf n m hm).c f args _ _ (show jY ρ F (σ.setE []) (ur es []) (σ.setE [])from wO hf.l0 rfl h1 h2);unfold eJ at cw;have TM:=λs=>(md_all Es s).imp id λh=>(ZB.mp h).imp aB.mp aB.mp;cases e:(pe F n).c f args (ur es [])with
 |no=>rw[e]at cw;exact nf cw
 |ex b s j c S=>rw[e]at cw;exact nf cw
 |ok v S=>
  rw[e]at cw this
  (refine U this λσ' e1 iD=>?_;clear this)
  have ev:=beq_eq cw;subst ev;refine⟨σ'.setE σ.env,tc e1,rfl,?_,?_,?_⟩
  ·intro s i o h;exact iD.ro s (by rcases TM s with h|h|h<;>rw[h]<;>rfl) i o h
  ·intro s h;have h0:md F s=0:=by
    rcases TM s with h1|h1|h1
    ·exact h1
    ·unfold yv at h;rw[h1]at h;exact ng h
    ·unfold yv at h;rw[h1]at h;exact ng h
   exact iD.fx s (by rw[h0];decide) (by rw[h0];rfl)
  ·exact iD.len
end
theorem J{P:α->Prop}:∀x∈([]:List α),P x:=λ_ h=>absurd h Y2
theorem ac{P:α->Prop}(h:P a)(t:∀x∈l,P x):∀x∈a::l,P x:=λx hx=>by
 rcases YS.mp hx with rfl|hx
 ·exact h
 ·exact t x hx
theorem aW(h:bJ x l=some v):(x,v)∈l:=by
 induction l with
 |nil=>exact nt h
 |cons p l i=>
  rw[bM]at h;refine cX (Nat.beq p.1 x) (λe=>?_) λe=>?_
  ·rw[e]at h;(refine(si h) ▸?_;refine(aB.mp e) ▸?_);exact .head _
  ·rw[e]at h;exact .tail _ (i h)
theorem I5{β:Type}{u v:β}{o:Option β}(h: @Bool.rec (λ_=>Option β) o (some u) b=some v):(b=true/\u=v)\/o=some v:=by
 cases b with
 |true=>exact .inl ⟨rfl,si h⟩
 |false=>exact .inr h
theorem xF(h:IB x l=some v):(x,v)∈l:=by
 induction l with
 |nil=>exact nt h
 |cons p l i=>
  rcases I5 h with⟨e,rfl⟩|h
  ·(refine(beq_eq e) ▸?_);exact .head _
  ·exact .tail _ (i h)
theorem qi{α:Type}{v:α}{l:List ((SV×SV)×α)}(h:wx a b l=some v):((a,b),v)∈l:=by
 induction l with
 |nil=>exact nt h
 |cons p l i=>
  rcases I5 h with⟨e,rfl⟩|h
  ·(refine(beq_eq (an e).1) ▸?_;refine(beq_eq (an e).2) ▸?_);exact .head _
  ·exact .tail _ (i h)
theorem Ga(h:Pe a l=some v):(a,v)∈l:=by
 induction l with
 |nil=>exact nt h
 |cons p l i=>
  rcases I5 h with⟨e,rfl⟩|h
  ·(refine(qw e) ▸?_);exact .head _
  ·exact .tail _ (i h)
structure uz(ρ:Ro)(F:Fx)(aI:St):Prop where
 z:ρ.int 0=0
 bd:∀p∈F.bd,p.2.1<=ρ.int p.1/\ρ.int p.1<=p.2.2
 st:∀n,rn (ρ.str n)=true
 bn:∀b,(ρ.base b).length<=500
 dn:∀b,(ρ.dbase b).length<=500
 bl:∀p∈F.bl,ah ρ p.2= .int ((ρ.base p.1).length:Nat)
 it:∀p∈F.it,∀q∈p.2,∃n:Nat,ah ρ q.1= .int n/\n<=500/\nth (ρ.base p.1) n=some (ah ρ q.2)
 dt:∀p∈F.dt,∀q∈p.2,aO (ah ρ q.1) (ρ.dbase p.1)=some (ah ρ q.2)
 op:∀p∈F.op,∀q∈p.2,∀o,nA o=p.1->bY o (ah ρ q.1.1) (ah ρ q.1.2)=some (ah ρ q.2)
 eq:∀p∈F.eq,(p.2=true↔ah ρ p.1.1=ah ρ p.1.2)
 le:∀p∈F.le,∀i j,ah ρ p.1.1= .int i->ah ρ p.1.2= .int j->p.2=decide (i<=j)
 nw:∀s k,ρ.ix s (1000+k)=ρ.len0 s+k
 l0:∀s,ρ.len0 s=(aI.heap s).length
 ca:∀p∈F.ca,∀q∈p.2,∀S σ,jY ρ F aI S σ->F.pre S=true->∀m,F.cf<=m->∃σ',(run pt m).c p.1 (ax ρ q.1) σ=some (.ok (ah ρ q.2),σ')/\jY ρ F aI S σ'
theorem uz.ok(h:uz ρ F aI):dY ρ F aI where
 z:=h.z
 bd x p e:=h.bd _ (aW e)
 st:=h.st
 bn:=h.bn
 dn:=h.dn
 bl b v e:=h.bl _ (aW e)
 it b l k v e e2:=h.it _ (aW e) _ (xF e2)
 dt b l k v e e2:=h.dt _ (aW e) _ (xF e2)
 op o a b l v e e2:=h.op _ (aW e) _ (qi e2) o rfl
 eq a b t e:=h.eq _ (qi e)
 le a b t e:=h.le _ (qi e)
 nw:=h.nw
 l0:=h.l0
 ca f l args r e e2:=h.ca _ (aW e) _ (Ga e2)
def aJ(W:St->Prop)(yv:Nat->Bool)(c f:Nat)(args:List V)(r:V):Prop:=∀σ,W σ->∀m,c<=m->∃σ',(run pt m).c f args σ=some (.ok r,σ')/\L1 yv σ σ'
noncomputable def gens (tu:SV) (ts:Nat):bu:= [
 (ts, [(0, .list .nil [])]),
 (14, [(0, .inst 175 [])]),
 (15, [(0, .inst 177 [])]),
 (16, [(0, .inst 179 [])]),
 (17, [(0, .inst 181 [])]),
 (33, [(0, .dict none 1 [((.str [98,111,111,108]),(.int 0 1)),((.str [99,104,97,114]),(.int 0 2)),((.str [105,49]),(.int 0 3)),((.str [117,49]),(.int 0 4)),((.str [105,50]),(.int 0 5)),((.str [117,50]),(.int 0 6)),((.str [105,52]),(.int 0 7)),((.str [117,52]),(.int 0 8)),((.str [105,56]),(.int 0 9)),((.str [117,56]),(.int 0 10)),((.str [110,105,110,116]),(.int 0 11)),((.str [111]),(.int 0 12)),((.str [116]),(.int 0 13)),((.str [97]),(.int 0 16)),((.str [105]),(.int 0 17)),((.str [101]),(.int 0 18)),((.str [102]),(.int 0 19)),((.str [115]),(.int 0 20)),((.str [103]),(.int 0 21)),((.str [104]),(.int 0 22)),((.str [63,105,52]),(.int 0 23)),((.str [63,117,49]),(.int 0 24)),((.str [63,101]),(.int 0 25)),((.str [63,115]),(.int 0 26)),((.str [63,104]),(.int 0 27))])]),
 (34, [(0, .list .nil [.none, .none, .none, .none, .none, .none, .none, .none, .none, .none, .none, .none, .none, .none, .none, .none, .none, .none, .none, .none, .none, .none, .none, .none, .none, .none, .none, .none, .none, .none, .none, .none, .none, .none, .none, .none, .none, .none, .none, .none, .none, .none, .none, .none, .none, .none, .none, .none, .none, .none, .none, .none, .none, .none, .none, .none, .none, .none, .none, .none, .none, .none, .none, .none, .none, .none,(.obj 36 0),(.obj 36 1),(.obj 36 2),(.obj 36 3)])]),
 (36, [(0, .inst 233 [(37,(.int 0 66)),(188,(.str [101])),(6,(.int 0 5)),(270,(.int 0 0)),(271,(.int 0 (-1))),(274,(.obj 66 0)),(272,(.obj 67 0)),(275,(.obj 68 0)),(276,(.obj 69 0)),(278,(.obj 70 0)),(279,(.obj 71 0)),(273,(.int 0 1)),(280,(.int 0 0)),(47,(.int 6 0)),(281,(.obj 72 0)),(282,(.obj 73 0)),(283,(.obj 74 0)),(284,(.int 0 0)),(285,(.int 0 0))]),(1, .inst 233 [(37,(.int 0 67)),(188,(.str [102])),(6,(.int 0 5)),(270,(.int 0 0)),(271,(.int 0 (-1))),(274,(.obj 66 1)),(272,(.obj 67 1)),(275,(.obj 68 1)),(276,(.obj 69 1)),(278,(.obj 70 1)),(279,(.obj 71 1)),(273,(.int 0 1)),(280,(.int 0 0)),(47,(.int 7 0)),(281,(.obj 72 1)),(282,(.obj 73 1)),(283,(.obj 74 1)),(284,(.int 0 0)),(285,(.int 0 0))]),(2, .inst 233 [(37,(.int 0 68)),(188,(.str [115])),(6,(.int 0 2)),(270,(.int 0 0)),(271,(.int 0 (-1))),(274,(.obj 66 2)),(272,(.obj 67 2)),(275,(.obj 68 2)),(276,(.obj 69 2)),(278,(.obj 70 2)),(279,(.obj 71 2)),(273,(.int 0 1)),(280,(.int 0 0)),(47,(.int 0 (-1))),(281,(.obj 72 2)),(282,(.obj 73 2)),(283,(.obj 74 2)),(284,(.int 0 0)),(285,(.int 0 0))]),(3, .inst 233 [(37,(.int 0 69)),(188,(.str [103])),(6,(.int 0 2)),(270,(.int 0 0)),(271,(.int 0 (-1))),(274,(.obj 66 3)),(272,(.obj 67 3)),(275,(.obj 68 3)),(276,(.obj 69 3)),(278,(.obj 70 3)),(279,(.obj 71 3)),(273,(.int 0 1)),(280,(.int 0 0)),(47,(.int 0 (-1))),(281,(.obj 72 3)),(282,(.obj 73 3)),(283,(.obj 74 3)),(284,(.int 0 0)),(285,(.int 0 0))])]),
 (37, [(0, .inst 237 [(13,(.obj 75 0)),(38,(.obj 34 0)),(287,(.obj 77 0)),(279,(.obj 78 0)),(288,(.obj 79 0)),(289,(.obj 80 0)),(290,(.int 0 0))])]),
 (38, [(0, .inst 238 [(36,(.obj 37 0)),(13,(.obj 75 0)),(122,(.obj 39 0)),(244,(.obj 44 0)),(140,(.obj 111 0)),(308,(.obj 112 0)),(143,(.obj 113 0)),(234,(.obj 114 0)),(332,(.obj 115 0)),(351,(.obj 116 0)),(333,(.obj 117 0)),(352,(.obj 118 0)),(173,(.obj 119 0)),(135,(.int 0 0)),(212,(.obj 120 0)),(137,(.obj ts 0)),(305,(.obj 122 0)),(353,(.obj 123 0)),(307,(.obj 124 0)),(354,(.obj 125 0)),(355,(.obj 126 0))])]),
 (39, [(0, .inst 239 [(90,(.obj 99 0)),(110,(.obj 100 0)),(125,(.int 3 0)),(323,(.int 0 4000)),(326,(.obj 101 0)),(324,(.int 0 3)),(130,(.int 5 0)),(327,(.int 0 1001)),(328,(.obj 102 0)),(329,(.obj 103 0)),(330,(.int 0 0)),(126,(.int 4 0))])]),
 (40, [(0, .dict none 1 [((.str [115,99,114,105,112,116]),(.obj 60 0)),((.str [97,116]),(.int 1 0)),((.str [109]),(.obj 38 0)),((.str [101,118]),(.obj 41 0)),((.str [102]),(.obj 42 0)),((.str [107,105,110]),(.obj 44 0)),((.str [107,105,110,100,115]),(.obj 33 0)),((.str [101,120,97,99,116]),(.obj 45 0)),((.str [104,101,108,100]),(.obj 46 0)),((.str [105,116,101,109,115]),(.obj 47 0)),((.str [97,100,100,114,115]),(.obj 48 0)),((.str [99,101,108,108,115]),(.obj 49 0)),((.str [108,97,115,116]),(.any 2)),((.str [117,110,100,101,114,115]),(.obj 50 0)),((.str [116,117,114,110,101,100]),tu)])]),
 (41, [(0, .inst 240 [(299,(.obj 38 0)),(36,(.obj 37 0)),(13,(.obj 75 0)),(90,(.obj 82 0)),(301,(.int 0 0)),(300,(.int 0 100)),(263,(.int 0 0)),(302,(.int 0 0)),(303,(.obj 83 0)),(127,(.int 0 0)),(304,(.obj 84 0)),(244,(.obj 44 0)),(305,(.obj 86 0)),(306,(.obj 88 0)),(307,(.obj 89 0)),(308,(.obj 90 0)),(309,(.obj 91 0)),(310,(.obj 92 0)),(311,(.obj 93 0)),(312,(.obj 94 0)),(313,(.obj 95 0)),(314,(.obj 96 0)),(315,(.obj 97 0)),(316, .none)])]),
 (42, [(0, .inst 241 [(89,(.int 0 1)),(336,(.tup [(.int 0 12),(.int 0 1),(.tup [])])),(337, .none),(338,(.int 0 0)),(20,(.obj 43 0)),(339,(.obj 104 0)),(147,(.any 9)),(340,(.obj 106 0)),(341,(.obj 107 0)),(342,(.obj 108 0)),(343,(.obj 109 0)),(6,(.int 0 0)),(285,(.int 0 1)),(344,(.int 0 0)),(345,(.int 0 (-1)))])]),
 (45, [(0, .list (.var 1) [])]),
 (46, [(0, .list (.var 2) [])]),
 (47, [(0, .list (.var 3) [])]),
 (48, [(0, .list (.var 4) [])]),
 (49, [(0, .list (.var 5) [])]),
 (50, [(0, .dict none 1 [((.str [101]),(.atom 1)),((.str [102]),(.atom 2))])]),
 (61, [(0, .list .nil [(.tup [(.int 0 1),(.int 0 0)]),(.tup [(.int 0 1),(.int 0 1)]),(.tup [(.int 0 1),(.int 0 2)]),(.tup [(.int 0 1),(.int 0 3)]),(.tup [(.int 0 1),(.int 0 4)]),(.tup [(.int 0 1),(.int 0 5)]),(.tup [(.int 0 1),(.int 0 6)]),(.tup [(.int 0 1),(.int 0 7)]),(.tup [(.int 0 1),(.int 0 8)]),(.tup [(.int 0 1),(.int 0 9)]),(.tup [(.int 0 1),(.int 0 10)]),(.tup [(.int 0 1),(.int 0 11)]),(.tup [(.int 0 1),(.int 0 12)]),(.tup [(.int 0 1),(.int 0 13)]),(.tup [(.int 0 1),(.int 0 14)]),(.tup [(.int 0 1),(.int 0 15)]),(.tup [(.int 0 2),(.int 0 64),(.tup [])]),(.tup [(.int 0 2),(.int 0 65),(.tup [])]),(.tup [(.int 0 3),(.int 0 66),(.tup [])]),(.tup [(.int 0 3),(.int 0 67),(.tup [])]),(.tup [(.int 0 3),(.int 0 68),(.tup [])]),(.tup [(.int 0 3),(.int 0 69),(.tup [(.int 0 7)])]),(.tup [(.int 0 3),(.int 0 69),(.tup [(.int 0 8)])]),(.tup [(.int 0 3),(.int 0 8),(.tup [(.int 0 7)])]),(.tup [(.int 0 3),(.int 0 8),(.tup [(.int 0 4)])]),(.tup [(.int 0 3),(.int 0 8),(.tup [(.int 0 18)])]),(.tup [(.int 0 3),(.int 0 8),(.tup [(.int 0 20)])]),(.tup [(.int 0 3),(.int 0 8),(.tup [(.int 0 22)])])])]),
 (75, [(0, .inst 261 [(140,(.obj 61 0)),(256,(.obj 62 0)),(257,(.obj 63 0)),(258,(.obj 64 0)),(259,(.obj 65 0))])]),
 (82, [(0, .list (.var 6) [])]),
 (99, [(0, .list (.var 7) [])]),
 (100, [(0, .dict (some 1) 2 [])]),
 (113, [(0, .dict none 2 [((.int 0 23),(.any 23)),((.int 0 24),(.any 24)),((.int 0 25),(.any 25)),((.int 0 26),(.any 26)),((.int 0 27),(.any 27))])]),
 (114, [(0, .dict none 2 [((.int 0 18),(.int 6 0)),((.int 0 19),(.int 7 0))])]),
 (119, [(0, .dict none 2 [((.int 0 140),(.obj 14 0)),((.int 0 121),(.obj 15 0)),((.int 0 165),(.obj 16 0)),((.int 0 208),(.obj 17 0))])]),
 (120, [(0, .list .nil [])]),
 (126, [(0, .inst 349 [])])]
noncomputable def G0:List (List Nat):= [[105,52], [101], [117,52], [102], [115], [103], [104], [63,105,52], [63,101], [63,115], [63,117,49], [63,104], [111], [97], [105], [116], [98,111,111,108], [117,49], [105,49], [99,104,97,114], [117,50], [105,50], [105,56], [117,56], [110,105,110,116]]
def aT(k:Nat):List Nat:=(nth G0 k).getD []
noncomputable def rh:List Nat:= [0,2,16,17,18,19,20,21,22,23,24]
noncomputable def kJ:List Nat:= [0,17,22,2,20,18,23,21]
noncomputable def low (p:Nat):Int:=match p with
 |0=> -2147483648|18=> -128|21=> -32768|22=> -9223372036854775808|24=> -2147483648|_=>0
noncomputable def uM (p:Nat):Int:=match p with
 |0=>4294967296|2=>4294967296|16=>2|17=>256|18=>256|19=>65536|20=>65536|21=>65536|22=>18446744073709551616|23=>18446744073709551616|_=>4294967296
noncomputable def eU (p:Nat):Int:=match p with
 |22=>2|23=>2|24=>3|_=>1
noncomputable def XV:List Int:= [0,1, -1,7,127,128,255,256,32767,32768,65535,2147483647,2147483648,4294967295,9223372036854775807,9223372036854775808]
def pv(p r:Nat):Int:=low p+((nth XV r).getD 0 - low p).fmod (uM p)
def whole(p:Nat):Int:=match eU p with|2=>18446744073709551616|_=>4294967296
def cv(p:Nat)(v:Int):Int:=if whole p/2<=v then v - whole p else v
structure Cf where
 ue:Nat
 uf:Nat
 tu:Bool
 ka:Bool
 ks:Bool
def aG(c:Cf)(k:Nat):Nat:=match k with
 |1=>(nth kJ c.ue).getD 0
 |3=>(nth kJ c.uf).getD 0
 |k=>k
def tW:List Nat:= [117,110,100,101,114,115]
def tK:List Nat:= [107,105,110,100,115]
def tT:List Nat:= [116,117,114,110,101,100]
noncomputable def Lz:List (Nat×Int):= [(16,1),(19,2),(18,3),(17,4),(21,5),(20,6),(0,7),(2,8),(22,9),(23,10),(24,11),(12,12),(15,13),(13,16),(14,17),(1,18),(3,19),(4,20),(5,21),(6,22),(7,23),(10,24),(8,25),(9,26),(11,27)]
structure WS(c:Cf)(σ:St):Prop where
 w:∃es,es.length<=500/\nth (σ.heap 40) 0=some (.dict 1 es)/\aO (.str tW) es=some (.obj 50 0)/\aO (.str tK) es=some (.obj 33 0)/\aO (.str tT) es=some (.bool c.tu)
 un:nth (σ.heap 50) 0=some (.dict 1 [(.str [101], .str (aT (aG c 1))),(.str [102], .str (aT (aG c 3)))])
 kd:nth (σ.heap 33) 0=some (.dict 1 (Lz.map λp=>(.str (aT p.1), .int p.2)))
def ip(s:Nat):Bool:=Nat.beq s 18
noncomputable def rt (σ:St) (int:Nat->Int) (str:Nat->List Nat) (db:List (V×V)):Ro where
 int:=int
 val _:= .none
 str:=str
 base _:= []
 dbase b:=match b with|1=>db|_=> []
 ix s j:=if 1000<=j then(σ.heap s).length+(j - 1000)else j
 len0 s:=(σ.heap s).length
noncomputable def RC:Tr Nat:= .f 18 1
def Bw:Fx:={bd:= [],bl:= [],it:= [],dt:= [(1, [(.str tW, .obj 50 0),(.str tK, .obj 33 0)])],op:= [],eq:= [],le:= [],ca:= [],cf:=0,pre:=λ_=>true,mo:=RC}
noncomputable def By (u v:SV):bu:= [(40, [(0, .dict (some 1) 1 [])]),(50, [(0, .dict none 1 [(.str [101],u),(.str [102],v)])])]
def unE(k:Nat)(x:Nat):SV:=match Nat.beq k 1 with|true=> .str (aT x)|false=> .atom 1
def OX(k:Nat)(x:Nat):SV:=match Nat.beq k 3 with|true=> .str (aT x)|false=> .atom 2
def jl(k p:Nat):Bool:=eJ Bw 10 190 [.obj 40 0, .str (aT k)] (By (unE k p) (OX k p)) (.tup [.int 0 (low p), .int 0 (uM p), .int 0 (eU p)])
theorem CU:(rh.all λp=>jl p p)=true:=by decide+kernel
theorem yZ:(kJ.all λp=>jl 1 p&&jl 3 p)=true:=by decide+kernel
theorem J2:(G0.all λl=>rn l)=true:=by decide+kernel
theorem hZ(k:Nat):rn (aT k)=true:=by
 unfold aT;cases h:nth G0 k with
 |none=>rfl
 |some l=>
  exact(show∀(L:List (List Nat)) (k:Nat),nth L k=some l->(L.all λl=>rn l)=true->rn l=true from by
   intro L
   induction L with
   |nil=>intro k h;exact nt h
   |cons a L ih=>
    intro k h h2;simp only[Z9,YW]at h2;cases k with
    |zero=>obtain rfl:=YZ h;exact h2.1
    |succ k=>exact ih k h h2.2) G0 k h J2
section
variable{σ:St}{db:List (V×V)}{int:Nat->Int}{str:Nat->List Nat}
theorem px(s k:Nat):(rt σ int str db).ix s (1000+k)=(rt σ int str db).len0 s+k:=by
 show(if 1000<=1000+k then(σ.heap s).length+(1000+k - 1000)else 1000+k)=_;rw[ZU (Y4 _ _),ZS];rfl
theorem py(h:db.length<=500)(b:Nat):((rt σ int str db).dbase b).length<=500:=by
 show(match b with|1=>db|_=> []).length<=500;split
 ·exact h
 ·exact Zh _
theorem p9(h:es.all (λp=>p.2.all λq=>Nat.blt q.1 1000)=true)(s j k:Nat)(a b:SO)(ha:aP es s j=some a)(hb:aP es s k=some b)(e:(rt σ int str db).ix s j=(rt σ int str db).ix s k):j=k:=by
 have lt:∀j a,aP es s j=some a->j<1000:=by
  intro j a ha;unfold aP at ha;refine dI (bJ s es) (λe=>?_) λl e=>?_
  ·rw[e]at ha;exact nt ha
  ·
   rw[e]at ha;rw[YO]at h;have h1:=h _ (aW e);rw[YO]at h1;exact YX (h1 _ (aW ha))
 have h1:=lt j a ha;have h2:=lt k b hb;have e1:(if 1000<=j then(σ.heap s).length+(j - 1000)else j)=(if 1000<=k then(σ.heap s).length+(k - 1000)else k):=e;rw[Zs (zaC.mpr ‹_›),Zs (zaC.mpr ‹_›)]at e1;exact e1
theorem gV(h:aP es s j=some o):∃l,(s,l)∈es/\(j,o)∈l:=by
 unfold aP at h;refine dI (bJ s es) (λe=>?_) λl e=>?_
 ·rw[e]at h;exact nt h
 ·rw[e]at h;exact(al l (aW e) (aW h))
end
theorem wV(hm:F.mo= .f 18 v)(h:ip s=false):yv F s=false:=by
 unfold yv md;rw[Tr.get_eq,hm];rw[(show dX s (.f 18 v) s=none from by simp only[G6,az (zak (show s≠18 fromλe=>by subst e;exact ng h)),zaY])];rfl
theorem M9{σ:St}(hl:es.length<=500)(h2:aO (.str tW) es=some (.obj 50 0))(h3:aO (.str tK) es=some (.obj 33 0))(hs:∀n,rn (str n)=true):uz (rt (σ.setE []) (λ_=>0) str es) Bw (σ.setE []) where
 z:=rfl
 bd:=J
 st:=hs
 bn _:=Zh _
 dn:=py hl
 bl:=J
 it:=J
 dt p hp q hq:=by
  rw[Bw,YR]at hp;subst hp;simp only[YS,Y2,Zl]at hq;rcases hq with rfl|rfl
  ·exact h2
  ·exact h3
 op:=J
 eq:=J
 le:=J
 nw:=px
 l0 _:=rfl
 ca:=J
theorem xl(c:Cf)(hp:(k=1->p=aG c 1)/\(k=3->p=aG c 3))(hb:jl k p=true):aJ (WS c) ip 10 190 [.obj 40 0, .str (aT k)] (.tup [.int (low p), .int (uM p), .int (eU p)]):=by
 intro σ hw m hm;refine uW (hw.w) λes hl h1 h2 h3 h4=>?_
 let z0:=aG c 3
 let z1:=aG c 1
 have WR:ah (rt (σ.setE []) (λ_=>0) (λn=>match n with|1=>aT z1|_=>aT z0) es) (unE k p)= .str (aT z1):=by
  unfold unE;cases e:Nat.beq k 1 with
  |true=>rw[hp.1 (aB.mp e)];rfl
  |false=>rfl
 have Qm:ah (rt (σ.setE []) (λ_=>0) (λn=>match n with|1=>aT z1|_=>aT z0) es) (OX k p)= .str (aT z0):=by
  unfold OX;refine cX (Nat.beq k 3) (λe=>?_) λe=>?_
  ·rw[e];rw[hp.2 (aB.mp e)];rfl
  ·rw[e];rfl
 refine U (d7 (es:=By (unE k p) (OX k p)) ((M9 (σ:=σ) (str:=λn=>match n with|1=>aT z1|_=>aT z0) hl h2 h3 (λn=>by split<;>exact hZ _)).ok) (by
  intro s j o h;refine U (gV h) λl LI As=>?_;simp only[By,YS,Y2,Zl,Zv]at LI;rcases LI with⟨rfl,rfl⟩|⟨rfl,rfl⟩
  ·simp only[YS,Y2,Zl,Zv]at As;obtain⟨rfl,rfl⟩:=As;exact h1
  ·simp only[YS,Y2,Zl,Zv]at As;obtain⟨rfl,rfl⟩:=As;simp only[aC,gI,c9,WR,Qm];exact hw.un) (p9 rfl) rfl hm hb) λσ' e1 e2=>?_
 refine⟨σ',?_,e2.env,e2.keep,λs h=>e2.len s ?_,e2.mono⟩
 ·simp only[dO,c7,lP,Ev,iE,rt,ZA]at e1;exact e1
 ·exact wV rfl h
theorem WS.keep{c:Cf}{σ σ':St}(h:WS c σ)(k:∀s i o,(s=40\/s=50\/s=33)->nth (σ.heap s) i=some o->nth (σ'.heap s) i=some o):WS c σ':=by
 obtain⟨⟨es,h0,h1,h2⟩,h3,h4⟩:=h;exact⟨(aM es h0 (k _ _ _ (.inl rfl) h1) h2),k _ _ _ (.inr (.inl rfl)) h3,k _ _ _ (.inr (.inr rfl)) h4⟩
theorem gv{ρ:Ro}{F:Fx}{aI:St}{W:St->Prop}{c0 f:Nat}{args:List V}{r:V}(sp:aJ W ip c0 f args r)(hd:∀s,md F s≠4->ip s=false)(hc:c0<=F.cf){S:fk}{σ:St}(hs:jY ρ F aI S σ)(hw:W σ)(m:Nat)(hm:F.cf<=m):∃σ',(run pt m).c f args σ=some (.ok r,σ')/\jY ρ F aI S σ':=by
 refine U (sp σ hw m (YU hc hm)) λσ' e1 e2=>?_;exact(al σ' e1 (hs.ext e2 hd))
def yJ(k p:Nat)(lo hi:Int):Fx:={bd:= [(1,(lo,hi))],bl:= [],it:= [],dt:= [(1, [(.str tW, .obj 50 0),(.str tK, .obj 33 0)])],op:= [],eq:= [],le:= [],ca:= [(190, [([.obj 40 0, .str (aT k)], .tup [.int 0 (low p), .int 0 (uM p), .int 0 (eU p)])])],cf:=10,pre:=λ_=>true,mo:= .f 18 4}
def yL:bu:= [(40, [(0, .dict (some 1) 1 [])]),(33, [(0, .dict none 1 (Lz.map λp=>(.str (aT p.1), .int 0 p.2)))])]
def yx(k p:Nat):Bool:=eJ (yJ k p (whole p/2) (whole p - 1)) 22 197 [.obj 40 0, .str (aT k), .int 1 0] yL (.tup [.int 0 (eU p), .int 1 (-whole p)])&&eJ (yJ k p (low p) (whole p/2 - 1)) 22 197 [.obj 40 0, .str (aT k), .int 1 0] yL (.tup [.int 0 (eU p), .int 1 0])
theorem Fp:(rh.all λp=>yx p p)=true:=by decide+kernel
theorem CS:(kJ.all λp=>yx 1 p&&yx 3 p)=true:=by decide+kernel
theorem Mt{F:Fx}(hm:F.mo= .f 18 4)(s:Nat)(h:md F s≠4):ip s=false:=by
 cases e:ip s with
 |false=>rfl
 |true=>
  have:=aB.mp e;subst this;exact absurd (by unfold md;rw[Tr.get_eq,hm];rfl) h
theorem L3{c:Cf}{k p:Nat}{lo hi v:Int}(hp:(k=1->p=aG c 1)/\(k=3->p=aG c 3))(hb:jl k p=true){σ:St}(hw:WS c σ){es:List (V×V)}(hl:es.length<=500)(h2:aO (.str tW) es=some (.obj 50 0))(h3:aO (.str tK) es=some (.obj 33 0))(hv:lo<=v/\v<=hi):uz (rt (σ.setE []) (λn=>match n with|1=>v|_=>0) (λ_=> []) es) (yJ k p lo hi) (σ.setE []) where
 z:=rfl
 bd q hq:=by
  simp only[yJ,YR]at hq;subst hq;exact hv
 st _:=rfl
 bn _:=Zh _
 dn:=py hl
 bl:=J
 it:=J
 dt p hp q hq:=by
  simp only[yJ,YR]at hp;subst hp;simp only[YS,Y2,Zl]at hq;rcases hq with rfl|rfl
  ·exact h2
  ·exact h3
 op:=J
 eq:=J
 le:=J
 nw:=px
 l0 _:=rfl
 ca q hq r hr S σ' hs _ m hm:=by
  simp only[yJ,YR]at hq;subst hq;simp only[YR]at hr;subst hr;have:=gv (xl c hp hb) (Mt rfl) (Zd 10) hs (hw.keep λs i o hh h=>hs.ro s (by rcases hh with rfl|rfl|rfl<;>rfl) i o h) m hm;simp only[dO,c7,lP,iE,rt,ZA]at this⊢;exact this
theorem lz{σ:St}{int:Nat->Int}{str:Nat->List Nat}{db:List (V×V)}{s:Nat}:(rt σ int str db).ix s 0=0:=rfl
theorem hH{σ:St}{int:Nat->Int}{str:Nat->List Nat}{db:List (V×V)}{n:Nat}:(rt σ int str db).int n=int n:=rfl
theorem BL(c:Cf){k p:Nat}(hp:(k=1->p=aG c 1)/\(k=3->p=aG c 3))(hb:jl k p=true)(ht:yx k p=true){v:Int}(h1:low p<=v)(h2:v<whole p):aJ (WS c) ip 22 197 [.obj 40 0, .str (aT k), .int v] (.tup [.int (eU p), .int (cv p v)]):=by
 intro σ hw m hm;refine uW (hw.w) λes hl e1 e2 e3 e4=>?_;unfold yx at ht;rw[YW]at ht
 let z0:=σ.setE []
 have ent:∀s j o,aP yL s j=some o->nth (z0.heap s) ((rt z0 (λn=>match n with|1=>v|_=>0) (λ_=> []) es).ix s j)=some (aC (rt z0 (λn=>match n with|1=>v|_=>0) (λ_=> []) es) o):=by
  intro s j o h;refine U (gV h) λl LI As=>?_;simp only[yL,YS,Y2,Zl,Zv]at LI;rcases LI with⟨rfl,rfl⟩|⟨rfl,rfl⟩
  ·simp only[YS,Y2,Zl,Zv]at As;obtain⟨rfl,rfl⟩:=As;exact e1
  ·simp only[YS,Y2,Zl,Zv]at As;obtain⟨rfl,rfl⟩:=As;exact hw.kd
 by_cases hh:whole p/2<=v
 ·have hF:=(L3 (c:=c) hp hb hw hl e2 e3 (lo:=whole p/2) (hi:=whole p - 1) ⟨hh,Int.le_sub_one_of_lt ‹_›⟩).ok;obtain⟨σ',f1,f2⟩:=d7 (es:=yL) hF ent (p9 rfl) rfl hm ht.1;refine⟨σ',?_,f2.env,f2.keep,λs h=>f2.len s (wV rfl h),f2.mono⟩;simp only[dO,c7,lP,Ev,iE,uv,lz,hH,ZA,zam]at f1;rw[f1];unfold cv;rw[ZU hh,Int.sub_eq_add_neg]
 ·have hF:=(L3 (c:=c) hp hb hw hl e2 e3 (lo:=low p) (hi:=whole p/2 - 1) ⟨h1,Int.le_sub_one_of_lt (zaN.mp hh)⟩).ok;obtain⟨σ',f1,f2⟩:=d7 (es:=yL) hF ent (p9 rfl) rfl hm ht.2;refine⟨σ',?_,f2.env,f2.keep,λs h=>f2.len s (wV rfl h),f2.mono⟩;simp only[dO,c7,lP,Ev,iE,uv,lz,hH,ZA,zam]at f1;rw[f1];unfold cv;rw[Zs hh]
def MJ:Fx:={bd:= [],bl:= [],it:= [],dt:= [],op:= [],eq:= [],le:= [],ca:= [],cf:=0,pre:=λ_=>true,mo:= .e}
noncomputable def rL:List Nat:= [0,1,2,3,4,5,6,7,8,9,10,11,12,13,14,15]
def iC(k:Nat):Int:=(aN k Lz).getD 0
def R9(p r:Nat):Bool:=eJ MJ 22 56 [.int 0 (iC p), .int 0 (cv p (pv p r))] [] (.int 0 (cv p (pv p r)))
theorem GD:(rh.all λp=>rL.all λr=>R9 p r)=true:=by decide+kernel
theorem JX:(rh.all λp=>rL.all λr=>decide (low p<=pv p r)&&decide (pv p r<whole p)&&decide (pv p r<low p+uM p))=true:=by decide+kernel
theorem R4{σ:St}:uz (rt (σ.setE []) (λ_=>0) (λ_=> []) []) MJ (σ.setE []) where
 z:=rfl
 bd:=J
 st _:=rfl
 bn _:=Zh _
 dn:=py (Zh _)
 bl:=J
 it:=J
 dt:=J
 op:=J
 eq:=J
 le:=J
 nw:=px
 l0 _:=rfl
 ca:=J
theorem KE(hp:p∈rh)(hr:r∈rL):aJ (λ_=>True) ip 22 56 [.int (iC p), .int (cv p (pv p r))] (.int (cv p (pv p r))):=by
 intro σ _ m hm;have h:=GD;rw[YO]at h;have h1:=h p hp;rw[YO]at h1;refine U (d7 (es:= []) (R4 (σ:=σ)).ok (λ_ _ _ h=>nomatch h) (λ_ _ _ _ _ h=>nomatch h) rfl hm (h1 r hr)) λσ' f1 f2=>?_;refine⟨σ',?_,f2.env,f2.keep,λs h=>f2.len s rfl,f2.mono⟩;simp only[dO,c7,lP,hH,ZA]at f1;exact f1
theorem Nm(hp:p∈rh)(hr:r∈rL):low p<=pv p r/\pv p r<whole p/\pv p r<low p+uM p:=by
 have h:=JX;rw[YO]at h;have h1:=h p hp;rw[YO]at h1;have h2:=h1 r hr;simp only[YW,zbf]at h2;exact(gA (h2.1.1) (h2.1.2) (h2.2))
def AO(k p r:Nat)(z:Int):Fx:={bd:= [],bl:= [],it:= [],dt:= [(1, [(.str tW, .obj 50 0),(.str tK, .obj 33 0)])],op:= [(4, [((.int 1 0, .int 0 16), .int 0 r)])],eq:= [],le:= [],ca:= [(190, [([.obj 40 0, .str (aT k)], .tup [.int 0 (low p), .int 0 (uM p), .int 0 (eU p)])])],cf:=10,pre:=λ_=>true,mo:= .f 18 4}
def AC(k p r:Nat):Bool:=eJ (AO k p r 0) 20 191 [.obj 40 0, .str (aT k), .int 1 0] [] (.int 0 (pv p r))
theorem Fj:(rh.all λp=>rL.all λr=>AC p p r)=true:=by decide+kernel
theorem CM:(kJ.all λp=>rL.all λr=>AC 1 p r&&AC 3 p r)=true:=by decide+kernel
theorem Q8{k p r:Nat}{z:Int}(hp:(k=1->p=aG c 1)/\(k=3->p=aG c 3))(hb:jl k p=true)(hw:WS c σ)(hz:z.fmod 16=r)(hl:es.length<=500)(h2:aO (.str tW) es=some (.obj 50 0))(h3:aO (.str tK) es=some (.obj 33 0)):uz (rt (σ.setE []) (λn=>match n with|1=>z|_=>0) (λ_=> []) es) (AO k p r 0) (σ.setE []) where
 z:=rfl
 bd:=J
 st _:=rfl
 bn _:=Zh _
 dn:=py hl
 bl:=J
 it:=J
 dt p hp q hq:=by
  simp only[AO,YR]at hp;subst hp;simp only[YS,Y2,Zl]at hq;rcases hq with rfl|rfl
  ·exact h2
  ·exact h3
 op p hp q hq o ho:=by
  simp only[AO,YR]at hp;subst hp;simp only[YR]at hq;subst hq;cases o<;>first|(cases ho;done)|skip
  simp only[lP,hH,zam,ZA];rw[xT rfl,hz]
 eq:=J
 le:=J
 nw:=px
 l0 _:=rfl
 ca q hq r hr S σ' hs _ m hm:=by
  simp only[AO,YR]at hq;subst hq;simp only[YR]at hr;subst hr;have:=gv (xl c hp hb) (Mt rfl) (Zd 10) hs (hw.keep λs i o hh h=>hs.ro s (by rcases hh with rfl|rfl|rfl<;>rfl) i o h) m hm;simp only[dO,c7,lP,iE,uv,hH,lz,ZA]at this⊢;exact this
theorem Nl(z:Int):∃r∈rL,z.fmod 16=(r:Nat):=by
 refine(al ((z.fmod 16).toNat) ?_ ((Zw (Zq _ ak)).symm));exact(show∀n:Nat,n<16->n∈rL from by decide) _ (Wu z)
theorem Js(c:Cf)(hp:(k=1->p=aG c 1)/\(k=3->p=aG c 3))(hb:jl k p=true)(hv:∀r∈rL,AC k p r=true)(z:Int):∃r∈rL,aJ (WS c) ip 20 191 [.obj 40 0, .str (aT k), .int z] (.int (pv p r)):=by
 refine U (Nl z) λr hr hz=>?_;refine(al r hr (λσ hw m hm=>?_));refine uW (hw.w) λes hl e1 e2 e3 e4=>?_;refine U (d7 (es:= []) (Q8 (c:=c) hp hb hw hz hl e2 e3).ok (λ_ _ _ h=>nomatch h) (λ_ _ _ _ _ h=>nomatch h) rfl hm (hv r hr)) λσ' f1 f2=>?_;refine⟨σ',?_,f2.env,f2.keep,λs h=>f2.len s (wV rfl h),f2.mono⟩;simp only[dO,c7,lP,Ev,uv,hH,lz,ZA,zam]at f1;exact f1
def eT:List Nat:=1::3::rh
def Cf.ok(c:Cf):Prop:=c.ue<8/\c.uf<8
theorem gK(n:Nat)(h:n<8):(nth kJ n).getD 0∈kJ:=by
 exact(show∀n:Nat,n<8->(nth kJ n).getD 0∈kJ from by decide) n h
theorem Hn:∀x∈kJ,x∈rh:=by decide
structure Pl(c:Cf)(k:Nat):Prop where
 a:(k=1->aG c k=aG c 1)/\(k=3->aG c k=aG c 3)
 s:jl k (aG c k)=true
 t:yx k (aG c k)=true
 v:∀r∈rL,AC k (aG c k) r=true
 m:aG c k∈rh
theorem wM(hc:c.ok)(hk:k∈eT):Pl c k:=by
 have a1:=CU;have a2:=yZ;have b1:=Fp;have b2:=CS;have c1:=Fj;have c2:=CM;rw[YO]at a1 a2 b1 b2 c1 c2;rcases(by simpa [eT]using hk)with rfl|rfl|h
 ·have hm:=gK c.ue hc.1;have h2:=a2 _ hm;have h3:=b2 _ hm;have h4:=c2 _ hm;rw[YW]at h2 h3;rw[YO]at h4;exact⟨⟨λ_=>rfl,λh=>nomatch h⟩,h2.1,h3.1,λr hr=>(YN.mp (h4 r hr)).1,Hn _ hm⟩
 ·have hm:=gK c.uf hc.2;have h2:=a2 _ hm;have h3:=b2 _ hm;have h4:=c2 _ hm;rw[YW]at h2 h3;rw[YO]at h4;exact⟨⟨λh=>(nomatch h),λ_=>rfl⟩,h2.2,h3.2,λr hr=>(YN.mp (h4 r hr)).2,Hn _ hm⟩
 ·have ut:=by
   exact(show∀k∈rh,k≠1/\k≠3 from by decide) k h
  have e:aG c k=k:=by
   unfold aG;split
   ·exact absurd rfl ut.1
   ·exact absurd rfl ut.2
   ·rfl
  have h4:=c1 k h;rw[YO]at h4;exact⟨⟨λh=>absurd h ut.1,λh=>absurd h ut.2⟩,by rw[e];exact a1 k h,by rw[e];exact b1 k h,λr hr=>by(refine(e).symm ▸?_);exact h4 r hr,by rw[e];exact h⟩
theorem j8(hc:c.ok)(hk:k∈eT)(z:Int):∃r∈rL,aJ (WS c) ip 20 191 [.obj 40 0, .str (aT k), .int z] (.int (pv (aG c k) r)):=by
 have P:=wM hc hk;exact Js c ⟨λh=>P.a.1 h,λh=>P.a.2 h⟩ P.s P.v z
theorem JY(hc:c.ok)(hk:k∈eT)(hr:r∈rL):aJ (WS c) ip 22 197 [.obj 40 0, .str (aT k), .int (pv (aG c k) r)] (.tup [.int (eU (aG c k)), .int (cv (aG c k) (pv (aG c k) r))]):=by
 have P:=wM hc hk;have h:=Nm P.m hr;exact BL c ⟨λh=>P.a.1 h,λh=>P.a.2 h⟩ P.s P.t h.1 h.2.1
section
structure Bx where
 k:Nat
 v:V
 th:Nat
structure Gh where
 c:Cf
 sc:List Int
 at_:Int
 bx:List Bx
 ce:List Bx
 n:Nat
 lk:Nat
 lv:V
 ts:Nat
 ti:Nat
 ss:Nat
 si:Nat
namespace Gh
variable(g:Gh)
def N:Nat:=4+g.bx.length
def adr(th:Nat):Int:=16+3*(th:Int)
def exactL:List V:= [.str [], .str [97], .str [116], .str [97]]++g.bx.map λb=> .str (aT b.k)
def heldL:List V:= [.none, .none, .none, .none]++g.bx.map λb=>b.v
def itemsL:List V:=(List.range g.N).map λ(i:Nat)=> .int (i:Int)
def addrsL:List V:= [.int 0, .int 16, .int 19, .int 22]++g.bx.map λb=> .int (adr b.th)
def cellsL:List V:=g.ce.map λb=> .tup [.int (adr b.th), .str (aT b.k),b.v]
def thingsL:List V:= .none::(List.range (3+g.bx.length)).map λ(i:Nat)=> .obj 4 i
def hthL:List V:=(List.range g.n).map λ(i:Nat)=> .obj 9 i
def hatL:List (V×V):=(List.range g.n).map λ(i:Nat)=>(.int (adr i), .obj 9 i)
end Gh
noncomputable def two (c:Cf) (kd:Int) (AN AR:V):V:= .tup [.int 5, .int kd,match c.tu with|true=> .tup [AR,AN]|false=> .tup [AN,AR]]
def Ap:V:= .tup [.int 1, .int 0]
def LS(c:Cf)(k:Nat):V:=match k with
 |23=>two c 23 Ap Ap
 |24=>two c 24 Ap Ap
 |25=>two c 25 Ap (.tup [.int (eU (aG c 1)), .int 0])
 |26=>two c 26 Ap (.tup [.int 5, .int 20, .tup [Ap, .tup [.int 4, .int 0],two c 24 Ap Ap]])
 |27=>two c 27 Ap (.tup [.int 5, .int 22, .tup [Ap]])
 |_=> .none
noncomputable def wF (s:Nat):Bool:=Nat.beq s 4||Nat.beq s 8||Nat.beq s 9||Nat.beq s 12
def Z(g:Gh)(σ:St)(X:Nat->Int)(Y:Nat->V)(I:Nat->Nat->Nat):Ro where
 int x:=match x with
  |0=>0|1=>g.at_|2=>(g.N:Int)|3=>Gh.adr g.n|4=>(g.n:Int)|5=>3*(g.n:Int)|6=>iC (aG g.c 1)|7=>iC (aG g.c 3)|8=>eU (aG g.c 1)|x=>X x
 val x:=match x with
  |1=> .bool g.c.tu|2=> .tup [.str (aT g.lk),g.lv]|9=> .obj g.ss g.si|23=>LS g.c 23|24=>LS g.c 24|25=>LS g.c 25|26=>LS g.c 26|27=>LS g.c 27|x=>Y x
 str x:=match x with
  |1=>aT (aG g.c 1)|_=>aT (aG g.c 3)
 base b:=match b with
  |1=>g.exactL|2=>g.heldL|3=>g.itemsL|4=>g.addrsL|5=>g.cellsL|6=>g.thingsL|7=>g.hthL|8=>g.sc.map .int|_=> []
 dbase b:=match b with
  |1=>g.hatL|_=> []
 ix s j:=if 1000<=j then(σ.heap s).length+(j - 1000)else cond (wF s) (I s j) (cond (Nat.beq s 25||Nat.beq s 121) g.ti j)
 len0 s:=(σ.heap s).length
end
def Bs.beq(a b:Bs):Bool:=Bs.rec (Bs.rec true (λ_=>false) (λ_ _ _=>false) b) (λx=>Bs.rec false (λy=>Nat.beq x y) (λ_ _ _=>false) b) (λx i v=>Bs.rec false (λ_=>false) (λy j w=>Nat.beq x y&&i.beq j&&v.beq w) b) a
section
def LN(a b:List (Nat×SV)):Bool:=List.rec (λb=>List.rec true (λ_ _ _=>false) b) (λp _ r b=>List.rec false (λq bs _=>Bool.rec false (r bs) (Nat.beq p.1 q.1&&p.2.beq q.2)) b) a b
def Py(a b:List (SV×SV)):Bool:=List.rec (λb=>List.rec true (λ_ _ _=>false) b) (λp _ r b=>List.rec false (λq bs _=>Bool.rec false (r bs) (p.1.beq q.1&&p.2.beq q.2)) b) a b
def oB(a b:Option Nat):Bool:=Option.rec (Option.rec true (λ_=>false) b) (λx=>Option.rec false (λy=>Nat.beq x y) b) a
def SO.beq(a b:SO):Bool:=SO.rec (λc fs=>SO.rec (λd gs=>Nat.beq c d&&LN fs gs) (λ_ _=>false) (λ_ _ _=>false) (λ_ _=>false) (λ_ _=>false) b) (λx vs=>SO.rec (λ_ _=>false) (λy ws=>x.beq y&&SV.beqs vs ws) (λ_ _ _=>false) (λ_ _=>false) (λ_ _=>false) b) (λx k es=>SO.rec (λ_ _=>false) (λ_ _=>false) (λy l fs=>oB x y&&Nat.beq k l&&Py es fs) (λ_ _=>false) (λ_ _=>false) b) (λ_ _=>false) (λ_ _=>false) a
def E6(post:bu)(cn:List (Nat×Nat))(S:fk):Bool:=(post.all λp=>p.2.all λq=>Option.rec false (λo=>o.beq q.2) (S.get p.1 q.1))&&cn.all λp=>Option.rec false (λL=>Nat.beq L.cnt p.2) (S.hp.get p.1)
end
theorem Bs.beq_eq{a b:Bs}(h:a.beq b=true):a=b:=by
 cases a with
 |nil=>cases b with
  |nil=>rfl
  |_=>exact nf h
 |var a=>cases b with
  |var b=>rw[aB.mp h]
  |_=>exact nf h
 |set a i v=>cases b with
  |set b j w=>
   have h:=YN.mp h;rw[aB.mp (YN.mp h.1).1,Mine.beq_eq (YN.mp h.1).2,Mine.beq_eq h.2]
  |_=>exact nf h
theorem pL:∀{a b:List (Nat×SV)},LN a b=true->a=b
 | [], [],_=>rfl
 | [],_::_,h=>by cases h
 |_::_, [],h=>by cases h
 |p::a,q::b,h=>by
  have h1:(Bool.rec false (LN a b) (Nat.beq p.1 q.1&&p.2.beq q.2):Bool)=true:=h;refine uy ((Nat.beq p.1 q.1&&p.2.beq q.2)) (λe=>?_) λe=>?_
  ·rw[e]at h1;exact nf h1
  ·
   rw[e]at h1;rw[YW,aB]at e;rw[pL h1,show p=q from Prod.ext e.1 (beq_eq e.2)]
theorem vq:∀{a b:List (SV×SV)},Py a b=true->a=b
 | [], [],_=>rfl
 | [],_::_,h=>by cases h
 |_::_, [],h=>by cases h
 |p::a,q::b,h=>by
  have h1:(Bool.rec false (Py a b) (p.1.beq q.1&&p.2.beq q.2):Bool)=true:=h;refine uy ((p.1.beq q.1&&p.2.beq q.2)) (λe=>?_) λe=>?_
  ·rw[e]at h1;exact nf h1
  ·
   rw[e]at h1;simp only[YW]at e;rw[vq h1,show p=q from Prod.ext (beq_eq e.1) (beq_eq e.2)]
theorem Nu:∀{a b:Option Nat},oB a b=true->a=b
 |none,none,_=>rfl
 |none,some _,h=>by cases h
 |some _,none,h=>by cases h
 |some x,some y,h=>by(refine(aB.mp (show Nat.beq x y=true from h)).symm ▸ rfl)
theorem SO.beq_eq{a b:SO}(h:a.beq b=true):a=b:=by
 cases a with
 |inst c fs=>cases b with
  |inst d gs=>rw[aB.mp (YN.mp h).1,pL (YN.mp h).2]
  |_=>exact nf h
 |list x vs=>cases b with
  |list y ws=>rw[Bs.beq_eq (YN.mp h).1,qw (YN.mp h).2]
  |_=>exact nf h
 |dict x k es=>cases b with
  |dict y l fs=>
   have h:=YN.mp h;rw[Nu (YN.mp h.1).1,aB.mp (YN.mp h.1).2,vq h.2]
  |_=>exact nf h
 |_=>exact nf h
theorem xO(h:E6 post cn S=true):(∀p∈post,∀q∈p.2,S.get p.1 q.1=some q.2)/\∀p∈cn,∃L,S.hp.get p.1=some L/\L.cnt=p.2:=by
 unfold E6 at h;simp only[YW,YO]at h;refine⟨λp hp q hq=>?_,λp hp=>?_⟩
 ·have h1:=h.1 p hp q hq;refine dI (S.get p.1 q.1) (λe=>?_) λo e=>?_
  ·rw[e]at h1;exact nf h1
  ·rw[e];rw[e]at h1;rw[SO.beq_eq h1]
 ·have h1:=h.2 p hp;refine dI (S.hp.get p.1) (λe=>?_) λL e=>?_
  ·rw[e]at h1;exact nf h1
  ·(refine(e).symm ▸?_);rw[e]at h1;exact(al L rfl (aB.mp h1))
def EX(S:fk):Bool:=List.all [8,12] λs=>Option.rec true (λL=>L.es.all λp=>Nat.beq p.1 0||Nat.ble 1000 p.1) (S.hp.get s)
def jm(F:Fx)(n f:Nat)(args:List SV)(es:bu)(r:SV)(post:bu)(cn:List (Nat×Nat)):Bool:=O.rec false (λv S=>v.beq r&&E6 post cn S&&EX S) (λ_ _ _ _ _=>false) ((pe F n).c f args (ur es []))
structure AA(ρ:Ro)(F:Fx)(σ σ':St)(post:bu)(cn:List (Nat×Nat)):Prop where
 at_:∀p∈post,∀q∈p.2,nth (σ'.heap p.1) (ρ.ix p.1 q.1)=some (aC ρ q.2)
 cn:∀p∈cn,md F p.1≠4->(σ'.heap p.1).length=(σ.heap p.1).length+p.2
 ro:∀s,yi (md F s)=false->∀i o,nth (σ.heap s) i=some o->nth (σ'.heap s) i=some o
 fr:∀s,s=8\/s=12->∀i o,nth (σ.heap s) i=some o->ρ.ix s 0≠i->nth (σ'.heap s) i=some o
theorem L7(hf:dY ρ F (σ.setE []))(h1:∀s j o,aP es s j=some o->nth (σ.heap s) (ρ.ix s j)=some (aC ρ o))(h2:∀s j k a b,aP es s j=some a->aP es s k=some b->ρ.ix s j=ρ.ix s k->j=k)(hm:n<=m)(cw:jm F n f args es r post cn=true):∃σ',(run pt m).c f (ax ρ args) σ=some (.ok (ah ρ r),σ'.setE σ.env)/\AA ρ F σ σ' post cn:=by
 have:=(jv hf n m hm).c f args _ _ (show jY ρ F (σ.setE []) (ur es []) (σ.setE [])from wO hf.l0 rfl h1 h2);unfold jm at cw;cases e:(pe F n).c f args (ur es [])with
 |no=>rw[e]at cw;exact nf cw
 |ex b s j c S=>rw[e]at cw;exact nf cw
 |ok v S=>
  rw[e]at cw this
  (refine U this λσ' e1 iD=>?_;clear this)
  rw[YW,YW]at cw;have ev:=beq_eq cw.1.1;subst ev;obtain⟨g1,g2⟩:=xO cw.1.2;refine⟨σ',tc e1,λp hp q hq=>iD.at_ _ _ _ (g1 p hp q hq),λp hp h4=>?_,λs hw i o h=>iD.ro s hw i o h,λs h8 i o h hn=>iD.fr s i o h λj hj=>?_⟩
  ·refine U (g2 p hp) λL l1 l2=>?_;rw[iD.cnt _ L l1 h4,l2,hf.l0];rfl
  ·have hi:=cw.2;unfold EX at hi;rw[YO]at hi;have hi:=hi s (by rcases h8 with rfl|rfl<;>simp);rw[fk.get_def]at hj;refine dI (S.hp.get s) (λeL=>?_) λL eL=>?_
   ·rw[eL]at hj;exact absurd rfl hj
   ·
    rw[eL]at hi hj;refine dI (bJ j L.es) (λej=>?_) λo' ej=>?_
    ·exact absurd ej hj
    ·
     rw[YO]at hi;have:=hi _ (aW ej);rw[ZT]at this;rcases this with h0|h0
     ·have h0:j=0:=aB.mp h0;rw[h0];exact hn
     ·have rv:1000<=j:=YX h0;obtain⟨k,rfl⟩:∃k,j=1000+k:=⟨j - 1000,(zaq ‹_›).symm⟩;rw[hf.nw,hf.l0];show(σ.heap s).length+k≠i;exact ZP (zas k (bk h))
inductive eB(c:Cf)(N:Nat):Nat->V->Prop where
 |pl {k r:Nat} (hk:k∈eT) (hr:r∈rL):eB c N k (.int (pv (aG c k) r))
 |ref {k i:Nat} (hk:k∈ [12,13,14,15]) (hi:i<N):eB c N k (.int i)
 |s {r i r':Nat} {b:Int} (hr:r∈rL) (hi:i<N) (hb:b=0\/b=1) (rl:r'∈rL):eB c N 4 (.tup [.int (pv 0 r), .int i, .tup [.int b, .int (pv 17 r')]])
 |g {r:Nat} (hr:r∈rL):eB c N 5 (.tup [.int (pv 0 r)])
 |h {r:Nat} (hr:r∈rL):eB c N 6 (.tup [.int (pv 2 r)])
 |q {k k':Nat} {b:Int} {v:V} (hk:(k,k')∈ [(7,0),(8,1),(9,4),(10,17),(11,6)]) (hb:b=0\/b=1) (hv:eB c N k' v):eB c N k (.tup [.int b,v])
inductive cj(g:Gh):Nat->V->V->Prop where
 |pl {k r:Nat} (hk:k∈eT) (hr:r∈rL):cj g k (.int (pv (aG g.c k) r)) (.tup [.int (eU (aG g.c k)), .int (cv (aG g.c k) (pv (aG g.c k) r))])
 |ref {k i:Nat} {a:V} (hk:k∈ [12,13,14,15]) (ha:nth g.addrsL i=some a):cj g k (.int i) (.tup [.int 4,a])
 |s {r i:Nat} {a u t:V} (hr:r∈rL) (ha:nth g.addrsL i=some a) (hu:cj g 10 u t):cj g 4 (.tup [.int (pv 0 r), .int i,u]) (.tup [.int 5, .int 20, .tup [.tup [.int 1, .int (pv 0 r)], .tup [.int 4,a],t]])
 |g {r:Nat} {t:V} (ht:cj g 0 (.int (pv 0 r)) t):cj g 5 (.tup [.int (pv 0 r)]) (.tup [.int 5, .int 21, .tup [t]])
 |h {r:Nat} {t:V} (ht:cj g 2 (.int (pv 2 r)) t):cj g 6 (.tup [.int (pv 2 r)]) (.tup [.int 5, .int 22, .tup [t]])
 |q {k k':Nat} {b:Int} {v t:V} (hk:(k,k')∈ [(7,0),(8,1),(9,4),(10,17),(11,6)]) (ht:cj g k' v t):cj g k (.tup [.int b,v]) (two g.c (iC k) (.tup [.int 1, .int b]) t)
theorem A8:∀p∈ [(7,0),(8,1),(9,4),(10,17),(11,6)],p.1∉eT/\p.1∈ [7,8,9,10,11]:=by decide
structure ThAt(g:Gh)(σ:St)(b:Bx):Prop where
 val:eB g.c g.N b.k b.v
 thing:∃se,nth (σ.heap 9) b.th=some (.inst 124 [(128, .int (Gh.adr b.th)),(87, .int (iC b.k)),(88, .obj 12 (b.th - 3)),(321, .int 0),(129, .int 3),(127,se)])
 ts:∃t,cj g b.k b.v t/\nth (σ.heap 12) (b.th - 3)=some (.list [t])
 rng:3<=b.th/\b.th<g.n
def gG:List Nat:=4::5::6::eT
structure r9(g:Gh)(σ:St)(i:Nat)(b:Bx):Prop extends ThAt g σ b where
 nm:b.k∈gG
 item:∃rw,nth (σ.heap 4) (i+3)=some (.inst 91 [(89, .int ((i:Int)+4)),(87, .int (iC b.k)),(88, .obj 8 i),(93, .none),(140,rw),(292, .int 0),(102, .none)])
 sl:nth (σ.heap 8) i=some (.list [b.v])
noncomputable def yC (c:Cf):List (V×V):=(match c.ka with|true=> [(.tup [.int 16, .int 17], .int 1)]|false=> [])++(match c.ks with|true=> [(.tup [.int 20, .int 17], .int 1)]|false=> [])
def yD(c:Cf):Nat:=match c.ka||c.ks with|true=>3|false=>0
def pf(c:Cf):Nat:=match c.tu with|true=>51|false=>52
noncomputable def AE (c:Cf):bt:= .dict 2 (match c.tu with|true=> [(.int 6, .int 1),(.int 7, .int 0)]|false=> [(.int 6, .int 0),(.int 7, .int 1)])
def EN(c:Cf):List (V×V):=(List.range 5).map λ(i:Nat)=>(.int (23+(i:Int)), .tup [.obj (pf c) i, .tup [], .tup []])
def gw:Nat->Int:=λ_=>0
def bZ:Nat->V:=λ_=> .none
def bw:Nat->Nat->Nat:=λ_ _=>0
structure Inv(g:Gh)(σ:St):Prop where
 ok:g.c.ok
 tsv:g.ts=25\/g.ts=121
 gen:∀s j o,aP (gens (.any 1) g.ts) s j=some o->nth (σ.heap s) ((Z g σ gw bZ bw).ix s j)=some (aC (Z g σ gw bZ bw) o)
 kin:nth (σ.heap 44) 0=some (.dict (yD g.c) (yC g.c))
 rows:nth (σ.heap 111) 0=some (.dict 2 (EN g.c))
 rowd:∀i,i<5->nth (σ.heap (pf g.c)) i=some (AE g.c)
 scr:nth (σ.heap 60) 0=some (.list (g.sc.map .int))
 l4:(σ.heap 4).length=3+g.bx.length
 l8:(σ.heap 8).length=g.bx.length
 l9:(σ.heap 9).length=g.n
 l12:(σ.heap 12).length+3=g.n
 box:∀i b,nth g.bx i=some b->r9 g σ i b
 cell:∀b∈g.ce,ThAt g σ b
 cq:∀b∈g.ce,b.k∈ [7,8,9,10,11]
 dist:((g.bx++g.ce).map λb=>b.th).Nodup
 cnt:g.n=3+g.bx.length+g.ce.length
 scl:g.sc.length<=40
 siz:g.bx.length+g.ce.length<=60
 atb:0<=g.at_/\g.at_<=400
 las:g.lk<25/\eB g.c g.N g.lk g.lv
 it0:∃r,nth (σ.heap 4) 0=some (.inst 91 [(89, .int 1),(87, .int 16),(88, .obj 53 0),(93, .none),(140,r),(292, .int 0),(102, .none)])
 it1:∃r,nth (σ.heap 4) 1=some (.inst 91 [(89, .int 2),(87, .int 13),(88, .obj 53 1),(93, .none),(140,r),(292, .int 0),(102, .none)])
 it2:∃r,nth (σ.heap 4) 2=some (.inst 91 [(89, .int 3),(87, .int (-1)),(88, .obj 53 2),(93, .none),(140,r),(292, .int 0),(102, .obj 54 0)])
 sp:nth (σ.heap 54) 0=some (.inst 245 [(103, .tup [.int 16])])
 sl:∀i,i<3->nth (σ.heap 53) i=some (.list [])
 th0:∃s,nth (σ.heap 9) 0=some (.inst 124 [(128, .int 16),(87, .int 16),(88, .obj 13 0),(321, .int 0),(129, .int 3),(127,s)])
 th1:∃s,nth (σ.heap 9) 1=some (.inst 124 [(128, .int 19),(87, .int 13),(88, .obj 11 0),(321, .int 0),(129, .int 3),(127,s)])
 th2:∃s,nth (σ.heap 9) 2=some (.inst 124 [(128, .int 22),(87, .int 16),(88, .obj 13 1),(321, .int 0),(129, .int 3),(127,s)])
 ts:nth (σ.heap 13) 0=some (.list [.tup [.int 4, .int 0]])/\nth (σ.heap 13) 1=some (.list [.tup [.int 4, .int 0]])/\nth (σ.heap 11) 0=some (.list [.tup [.int 8, .str []]])
structure Al where
 i:Nat->Bool
 a:Nat->Bool
 o:Nat->Nat->Bool
 b:Nat->Bool
section
variable(A:Al)
mutual
noncomputable def nZ:SV->Bool
 | .int x _=>A.i x
 | .any n=>A.a n
 | .obj s j=>A.o s j
 | .tup vs=>yB vs
 |_=>true
noncomputable def yB:List SV->Bool
 | []=>true
 |v::r=>nZ v&&yB r
end
def Wh:Bs->Bool
 | .nil=>true
 | .var b=>A.b b
 | .set b i v=>A.b b&&nZ A i&&nZ A v
def uC:SO->Bool
 | .inst _ fs=>fs.all λp=>nZ A p.2
 | .list b vs=>Wh A b&&yB A vs
 | .dict b _ es=>(match b with|some b=>A.b b|none=>true)&&es.all λp=>nZ A p.1&&nZ A p.2
 | .gone _ fs=>fs.all λp=>nZ A p.2
 | .caught _ fs=>fs.all λp=>nZ A p.2
end
structure Hj(A:Al)(ρ ul:Ro):Prop where
 i:∀x,A.i x=true->ρ.int x=ul.int x
 a:∀x,A.a x=true->ρ.val x=ul.val x
 o:∀s j,A.o s j=true->ρ.ix s j=ul.ix s j
 b:∀b,A.b b=true->ρ.base b=ul.base b/\ρ.dbase b=ul.dbase b
 s:ρ.str=ul.str
section
variable{A:Al}{ρ ul:Ro}(h:Hj A ρ ul)
include h
theorem dZ(e:nZ A v=true):ah ρ v=ah ul v:=by
 refine SV.rec (motive_1:=λv=>nZ A v=true->ah ρ v=ah ul v) (motive_2:=λv=>yB A v=true->ax ρ v=ax ul v) ?_ ?_ ?_ ?_ ?_ ?_ ?_ ?_ ?_ ?_ ?_ ?_ v e
 ·intro _;rfl
 ·intro _ _;rfl
 ·intro x c e;simp only[lP,h.i x e]
 ·intro _ _;rfl
 ·intro n _;simp only[IO,h.s]
 ·intro vs i e;simp only[iE];rw[i e]
 ·intro s j e;simp only[uv,h.o s j e]
 ·intro _ _;rfl
 ·intro _ _ _;rfl
 ·intro n e;exact h.a n e
 ·intro _;rfl
 ·intro v r i1 i2 e;simp only[c7];rw[i1 (YN.mp e).1,i2 (YN.mp e).2]
theorem sL:∀{vs:List SV},yB A vs=true->ax ρ vs=ax ul vs:=by
 intro vs
 induction vs with
 |nil=>intro _;rfl
 |cons v r i=>intro e;simp only[c7];rw[dZ h (YN.mp e).1,i (YN.mp e).2]
theorem jz:∀{fs:List (Nat×SV)},(fs.all λp=>nZ A p.2)=true->bF ρ fs=bF ul fs:=by
 intro fs
 induction fs with
 |nil=>intro _;exact rfl
 |cons p r ih=>
  intro e;rw[Z9]at e;simp only[bF];rw[dZ h (YN.mp e).1,ih (YN.mp e).2]
theorem xu:∀{es:List (SV×SV)},(es.all λp=>nZ A p.1&&nZ A p.2)=true->c9 ρ es=c9 ul es:=by
 intro es
 induction es with
 |nil=>intro _;exact rfl
 |cons p r ih=>
  intro e;rw[Z9]at e;simp only[c9];rw[dZ h (YN.mp (YN.mp e).1).1,dZ h (YN.mp (YN.mp e).1).2,ih (YN.mp e).2]
theorem Dl:∀{es:List (SV×SV)},(es.all λp=>nZ A p.1&&nZ A p.2)=true->over ρ es b=over ul es b:=by
 intro es
 induction es with
 |nil=>intro _;exact rfl
 |cons p r ih=>
  intro e;rw[Z9]at e;simp only[PV];rw[dZ h (YN.mp (YN.mp e).1).1,dZ h (YN.mp (YN.mp e).1).2,ih (YN.mp e).2]
theorem hU(e:uC A o=true):aC ρ o=aC ul o:=by
 cases o with
 |inst c fs=>simp only[aC];rw[jz h e]
 |gone c fs=>simp only[aC];rw[jz h e]
 |caught c fs=>simp only[aC];rw[jz h e]
 |list b vs=>
  have e:=YN.mp e;simp only[aC];(refine(sL h e.2).symm ▸?_)
  cases b with
  |nil=>rfl
  |var b=>simp only[eC];rw[(h.b b e.1).1]
  |set b i v=>
   simp only[eC];rw[(h.b b (YN.mp (YN.mp e.1).1).1).1,dZ h (YN.mp (YN.mp e.1).1).2,dZ h (YN.mp e.1).2]
 |dict b k es=>
  have e:=YN.mp e;cases b with
  |none=>simp only[aC,gI];rw[xu h e.2]
  |some b=>simp only[aC,gI];rw[(h.b b e.1).2,Dl h e.2]
end
noncomputable def nC (l:List Nat) (x:Nat):Bool:=l.any λy=>Nat.beq x y
def ME(x:Nat):Bool:=nC [0,1,2,3,4,5,6,7,8] x
def Jb(x:Nat):Bool:=nC [1,2,9,23,24,25,26,27] x
def Aw:Al:=⟨ME,Jb,λs j=>Nat.blt j 1000&& !wF s,λ_=>true⟩
def L0(ts:Nat):Al:=⟨nC [0,6,7,8],nC [1,23,24,25,26,27],λs j=>Nat.blt j 1000&& !(wF s||Nat.beq s 25||Nat.beq s 121),λ_=>false⟩
def AllP(P:Nat->Prop):List Nat->Prop
 | []=>True
 |a::l=>P a/\AllP P l
theorem yM(hx:nC l x=true)(h:AllP P l):P x:=by
 induction l with
 |nil=>exact nf hx
 |cons a l i=>
  rcases ZB.mp hx with e|e
  ·exact YY e ▸ h.1
  ·exact i e h.2
theorem rX(g g':Gh)(σ σ':St)(X X':Nat->Int)(Y Y':Nat->V)(I I':Nat->Nat->Nat)(s j:Nat)(hj:Nat.blt j 1000=true)(hs:wF s=false)(ht:g.ti=g'.ti\/(s≠25/\s≠121)):(Z g σ X Y I).ix s j=(Z g' σ' X' Y' I').ix s j:=by
 show(if 1000<=j then _ else _)=(if 1000<=j then _ else _);rw[Zs (zaC.mpr (YX hj)),Zs (zaC.mpr (YX hj)),hs];rcases ht with h|h
 ·rw[h];rfl
 ·rw[az h.1,az h.2];rfl
theorem Hl(h:AllP P [0,1,2,3,4,5,6,7,8])(r:∀k,P (k+9))(x:Nat):P x:=by
 by_cases hx:x<9
 ·exact yM ((by decide:∀x,x<9->nC [0,1,2,3,4,5,6,7,8] x=true) x hx) h
 ·obtain⟨k,rfl⟩:∃k,x=k+9:=⟨x - 9,(zab (zbs.mp hx)).symm⟩;exact r k
theorem AT(g:Gh)(σ σ':St)(X X':Nat->Int)(Y Y':Nat->V)(I I':Nat->Nat->Nat):Hj Aw (Z g σ X Y I) (Z g σ' X' Y' I') where
 i x h:=yM (P:=λx=>(Z g σ X Y I).int x=(Z g σ' X' Y' I').int x) h ⟨rfl,rfl,rfl,rfl,rfl,rfl,rfl,rfl,rfl,trivial⟩
 a x h:=yM (P:=λx=>(Z g σ X Y I).val x=(Z g σ' X' Y' I').val x) h ⟨rfl,rfl,rfl,rfl,rfl,rfl,rfl,rfl,trivial⟩
 o s j h:=by
  exact rX _ _ _ _ _ _ _ _ _ _ s j (YN.mp h).1 (by simpa using(YN.mp h).2) (.inl rfl)
 b _ _:=⟨rfl,rfl⟩
 s:=rfl
noncomputable def Gh.co (g:Gh) (c:Cf):Gh:={g with c:=c}
theorem OS(g g':Gh)(σ σ':St)(X X':Nat->Int)(Y Y':Nat->V)(I I':Nat->Nat->Nat)(ts:Nat):Hj (L0 ts) (Z g σ X Y I) (Z (g'.co g.c) σ' X' Y' I') where
 i x h:=yM (P:=λx=>(Z g σ X Y I).int x=(Z (g'.co g.c) σ' X' Y' I').int x) h (Sq rfl rfl rfl rfl trivial)
 a x h:=yM (P:=λx=>(Z g σ X Y I).val x=(Z (g'.co g.c) σ' X' Y' I').val x) h (So rfl rfl rfl rfl rfl rfl trivial)
 o s j h:=by
  have h:=YN.mp h;have h2:(wF s||Nat.beq s 25||Nat.beq s 121)=false:=by simpa using h.2
  simp only[zae]at h2;exact rX _ _ _ _ _ _ _ _ _ _ s j h.1 h2.1.1 (.inr ⟨jh h2.1.2,jh h2.2⟩)
 b _ h:=nf h
 s:=rfl
theorem Sk(hc:g'.c=g.c)(σ σ':St)(X X':Nat->Int)(Y Y':Nat->V)(I I':Nat->Nat->Nat)(ts:Nat):Hj (L0 ts) (Z g σ X Y I) (Z g' σ' X' Y' I'):=
 Eq.rec (motive:=λc _=>Hj (L0 ts) (Z g σ X Y I) (Z (g'.co c) σ' X' Y' I')) (OS g g' σ σ' X X' Y Y' I I' ts) hc.symm
theorem b8{p:Nat->Nat×SO->Bool}(h:(es.all λq=>q.2.all λr=>p q.1 r)=true)(he:aP es s j=some o):p s (j,o)=true:=by
 refine U (gV he) λl h1 h2=>?_;rw[YO]at h;have:=h _ h1;rw[YO]at this;exact this _ h2
theorem lH(ht:ts=25\/ts=121):((gens (.any 1) ts).all λq=>q.2.all λr=>uC Aw r.2&&Aw.o q.1 r.1)=true:=by
 rcases ht with rfl|rfl<;>decide+kernel
theorem jP(g:Gh)(σ σ':St)(X X':Nat->Int)(Y Y':Nat->V)(I I':Nat->Nat->Nat)(ht:ts=25\/ts=121)(h:aP (gens (.any 1) ts) s j=some o):aC (Z g σ X Y I) o=aC (Z g σ' X' Y' I') o/\(Z g σ X Y I).ix s j=(Z g σ' X' Y' I').ix s j:=by
 exact⟨hU (AT _ _ _ _ _ _ _ _ _) (YN.mp (b8 (p:=λs r=>uC Aw r.2&&Aw.o s r.1) (lH ht) h)).1,(AT _ _ _ _ _ _ _ _ _).o _ _ (YN.mp (b8 (p:=λs r=>uC Aw r.2&&Aw.o s r.1) (lH ht) h)).2⟩
noncomputable def Qb:List Nat:= [25,38,39,40,42,45,46,47,48,49,82,99,100]
def j1(s:Nat):Bool:=Qb.any λx=>Nat.beq x s
theorem DG:((gens (.any 1) 25).all λq=>q.2.all λr=>j1 q.1||uC (L0 25) r.2)=true:=by decide+kernel
section
variable(g:Gh){σ:St}{X:Nat->Int}{Y:Nat->V}{I:Nat->Nat->Nat}
theorem fG:g.exactL.length=g.N:=by simp[Gh.exactL,Gh.N];exact Zz _ 4
theorem mM:g.heldL.length=g.N:=by simp[Gh.heldL,Gh.N];exact Zz _ 4
theorem kr:g.itemsL.length=g.N:=by simp[Gh.itemsL]
theorem dF:g.addrsL.length=g.N:=by simp[Gh.addrsL,Gh.N];exact Zz _ 4
theorem i7:g.thingsL.length=g.N:=by simp[Gh.thingsL];exact ZQ _ _ _
theorem qj:g.hthL.length=g.n:=by simp[Gh.hthL]
theorem xG:g.hatL.length=g.n:=by simp[Gh.hatL]
theorem im:g.cellsL.length=g.ce.length:=by simp[Gh.cellsL]
noncomputable def Lh:List (Nat×SV):= [(1, .int 2 0),(2, .int 2 0),(3, .int 2 0),(4, .int 2 0),(6, .int 2 0),(7, .int 4 0)]
theorem Cq:∀p∈Lh,ah (Z g σ X Y I) p.2= .int (((Z g σ X Y I).base p.1).length:Nat):=by
 intro p hp;simp only[Lh,YS,Y2,Zl]at hp
 let z0:=Z g σ X Y I
 have d2:ah z0 (.int 2 0)= .int (g.N:Int):=by
  show V.int ((g.N:Int)+0)=_;rw[zam]
 rcases hp with rfl|rfl|rfl|rfl|rfl|rfl
 ·(refine((show(z0.base 1).length=g.N from fG g)).symm ▸?_);exact d2
 ·(refine((show(z0.base 2).length=g.N from mM g)).symm ▸?_);exact d2
 ·(refine((show(z0.base 3).length=g.N from kr g)).symm ▸?_);exact d2
 ·(refine((show(z0.base 4).length=g.N from dF g)).symm ▸?_);exact d2
 ·rw[(show(z0.base 6).length=g.N from i7 g)];exact d2
 ·rw[(show(z0.base 7).length=g.n from qj g)];exact(by
  show V.int ((g.n:Int)+0)=_;rw[zam])
noncomputable def PA:List (Nat×(Int×Int)):= [(1,(0,500)),(2,(4,100)),(3,(16,400)),(4,(3,100)),(5,(9,300)),(6,(1,11)),(7,(1,11))]
theorem B9:∀x∈kJ,1<=iC x/\iC x<=11:=by decide+kernel
variable{g}
theorem Cs(hc:g.c.ok)(h1:0<=g.at_/\g.at_<=500)(h2:g.bx.length<=90)(h3:3<=g.n/\g.n<=100):∀p∈PA,p.2.1<=(Z g σ X Y I).int p.1/\(Z g σ X Y I).int p.1<=p.2.2:=by
 intro p hp;simp only[PA,YS,Y2,Zl]at hp;rcases hp with rfl|rfl|rfl|rfl|rfl|rfl|rfl
 ·exact h1
 ·show(4:Int)<=(g.N:Int)/\(g.N:Int)<=100;exact Yb h2
 ·show(16:Int)<=Gh.adr g.n/\Gh.adr g.n<=400;exact(Q2 h3).1
 ·exact(Q2 h3).2.1
 ·exact(Q2 h3).2.2
 ·exact B9 _ (gK _ hc.1)
 ·exact B9 _ (gK _ hc.2)
theorem Un(h:Inv g σ)(b:Nat):((Z g σ X Y I).base b).length<=500:=by
 have hN:=Ze (YU (Y4 _ _) (h.siz)) 4;have f:∀{n m:Nat},n=m->m<=64->n<=500:=λe h=>e ▸ YU h ak
 exact Hl (P:=λb=>((Z g σ X Y I).base b).length<=500) ⟨Zh _,f (fG g) hN,f (mM g) hN,f (kr g) hN,f (dF g) hN,f (im g) (YU (YU (zan _ _) (h.siz)) ak),
  f (i7 g) hN,f (qj g) (ZM (by rw[(h.cnt),ZF];exact Ze (h.siz) 3)),YU (zal (Zu ..)) (YU h.scl ak),trivial⟩ (λk=>Zh _) b
theorem Uk(h:Inv g σ)(b:Nat):((Z g σ X Y I).dbase b).length<=500:=by
 exact Hl (P:=λb=>((Z g σ X Y I).dbase b).length<=500) ⟨Zh _,YU (zal (xG g)) (YU (by rw[h.cnt,ZF];exact Ze h.siz 3) ak),Zh _,Zh _,Zh _,Zh _,Zh _,Zh _,Zh _,trivial⟩ (λk=>Zh _) b
theorem SM(n:Nat):rn ((Z g σ X Y I).str n)=true:=by
 cases n with
 |zero=>exact hZ _
 |succ n=>cases n<;>exact hZ _
theorem P5(s k:Nat):(Z g σ X Y I).ix s (1000+k)=(Z g σ X Y I).len0 s+k:=by
 show(if 1000<=1000+k then(σ.heap s).length+(1000+k - 1000)else _)=_;rw[ZU (Y4 _ _),ZS];rfl
end
theorem cN:∀(l:List α) (i:Nat),nth l i=l[i]?
 | [],i=>by rfl
 |a::l,0=>by rfl
 |a::l,i+1=>by simp[To,cN l i]
theorem cV(f:α->β)(l:List α)(i:Nat):nth (l.map f) i=(nth l i).map f:=by
 rw[cN,cN,List.getElem?_map]
theorem oG(h:i<n):nth (List.range n) i=some i:=by
 rw[cN,List.getElem?_range h]
section
variable{g:Gh}{i:Nat}{b:Bx}
theorem oH(h:nth g.bx i=some b):nth g.exactL (4+i)=some (.str (aT b.k)):=by
 unfold Gh.exactL;rw[show 4=([.str [], .str [97], .str [116], .str [97]]:List V).length from rfl,b7,cV,h];rfl
theorem Dn(h:nth g.bx i=some b):nth g.heldL (4+i)=some b.v:=by
 unfold Gh.heldL;rw[show 4=([.none, .none, .none, .none]:List V).length from rfl,b7,cV,h];rfl
theorem zo(h:nth g.bx i=some b):nth g.addrsL (4+i)=some (.int (Gh.adr b.th)):=by
 unfold Gh.addrsL;rw[show 4=([.int 0, .int 16, .int 19, .int 22]:List V).length from rfl,b7,cV,h];rfl
theorem d8(h:i<g.N):nth g.itemsL i=some (.int (i:Int)):=by
 unfold Gh.itemsL;rw[cV,oG h];rfl
theorem gj(h:i<3+g.bx.length):nth g.thingsL (i+1)=some (.obj 4 i):=by
 show nth ((List.range (3+g.bx.length)).map λ(i:Nat)=>V.obj 4 i) i=_;rw[cV,oG h];rfl
theorem gU:∀{n:Nat},th<n->aO (.int (Gh.adr th)) ((List.range n).map λ(i:Nat)=>((.int (Gh.adr i), .obj 9 i):V×V))=some (.obj 9 th):=by
 intro n
 induction n with
 |zero=>intro h;exact absurd h (zaT _)
 |succ n ih=>
  intro h
  rw[zax,Y6,(show∀(l r:List (V×V)) (x:V),aO x (l++r)=match aO x l with|some v=>some v|none=>aO x r from by
   intro l r x
   induction l with
   |nil=>rfl
   |cons p l ih=>
    rw[ZD,bC,bC,ih];cases p.1.beq x<;>rfl)]
  by_cases e:th<n
  ·rw[ih e]
  ·have:th=n:=Nat.le_antisymm (Nat.le_of_lt_succ h) (Nat.le_of_not_lt e);subst this;have no:=by
    exact(show∀l:List Nat,(∀i∈l,i<th)->aO (.int (Gh.adr th)) (l.map λ(i:Nat)=>((.int (Gh.adr i), .obj 9 i):V×V))=none from by
     intro l
     induction l with
     |nil=>intro _;rfl
     |cons a l ih=>
      intro hl;rw[Y5,bC,ih λi hi=>hl i (.tail _ hi)];have ha:=hl a (.head _);rw[iX (λe=>by exact Z3 ha (Ut (V.int.inj e)))];rfl) _ λi hi=>zbb.mp hi
   rw[no];simp only[Y5,bC,fw.mpr rfl,Z2]
end
noncomputable def uJ:Nat->Nat->List (Nat×Nat)->Tr Nat
 |0,_,_=> .e
 |_+1,_, []=> .e
 |_+1,_, [(k,v)]=> .f k v
 |n+1,d,l=> .n (uJ n (2*d) (l.filter λp=>Nat.beq (p.1/d%2) 0)) (uJ n (2*d) (l.filter λp=>Nat.beq (p.1/d%2) 1))
def Tt:Tr Nat:=uJ 9 1 [(24,1),(25,3),(26,1),(27,1),(28,1),(29,1),(1,1),(98,1),(38,2),(39,2),(40,2),(42,2),(45,2),(46,2),(47,2),(48,2),(49,2),(82,2),(99,2),(100,2),(4,1),(8,3),(9,1),(12,3),(81,1),(5,1),(18,4),(30,1)]
noncomputable def w0:SV:= .obj 40 0
noncomputable def nY (a l tu:SV):List (SV×SV):= [((.str [115,99,114,105,112,116]),(.obj 60 0)),((.str [97,116]),a),((.str [109]),(.obj 38 0)),((.str [101,118]),(.obj 41 0)),((.str [102]),(.obj 42 0)),((.str [107,105,110]),(.obj 44 0)),((.str [107,105,110,100,115]),(.obj 33 0)),((.str [101,120,97,99,116]),(.obj 45 0)),((.str [104,101,108,100]),(.obj 46 0)),((.str [105,116,101,109,115]),(.obj 47 0)),((.str [97,100,100,114,115]),(.obj 48 0)),((.str [99,101,108,108,115]),(.obj 49 0)),((.str [108,97,115,116]),l),((.str [117,110,100,101,114,115]),(.obj 50 0)),((.str [116,117,114,110,101,100]),tu)]
def valAt(n:Nat)(es:List (SV×SV)):SV:=Option.rec .none (λp=>p.2) (rE es n)
def ER(tu:SV)(S:fk):Bool:=Option.rec false (λo=>SO.rec (λ_ _=>false) (λ_ _=>false) (λb k es=>Option.rec (Nat.beq k 1&&Py es (nY (valAt 1 es) (valAt 12 es) tu)) (λ_=>false) b) (λ_ _=>false) (λ_ _=>false) o) (S.get 40 0)
structure Fs where
 bd:List (Nat×(Int×Int))
 i1:List (SV×SV)
 i2:List (SV×SV)
 i3:List (SV×SV)
 i4:List (SV×SV)
 i6:List (SV×SV)
 d1:List (SV×SV)
 op:List (Nat×List ((SV×SV)×SV))
 eq:List ((SV×SV)×Bool)
 tg:List (List SV×SV)
 vl:List (List SV×SV)
 cu:List (List SV×SV)
def lu(tu:SV)(f:Fs):Fx:={bd:=f.bd++PA,bl:=Lh,it:= [(1,f.i1),(2,f.i2),(3,f.i3),(4,f.i4),(6,f.i6)],dt:= [(1,f.d1)],op:=f.op,eq:=f.eq,le:= [],ca:= [(197,f.tg),(191,f.vl),(56,f.cu)],cf:=22,pre:=ER tu,mo:=Tt}
def kS(k:Nat):SV:=match k with|1=> .int 6 0|3=> .int 7 0|k=> .int 0 (iC k)
def sN(k:Nat):SV:= .str (aT k)
def dl(a b:SV):SV:= .tup [a,b]
noncomputable def iS (x:Nat):SV:= .int x 0
noncomputable def cS (n:Int):SV:= .int 0 n
def jf(tu:Bool)(kd:Int)(AN AR:SV):SV:= .tup [cS 5,cS kd,match tu with|true=> .tup [AR,AN]|false=> .tup [AN,AR]]
noncomputable def fg (k:Nat):Option Nat:=match k with|7=>some 0|8=>some 1|9=>some 4|10=>some 17|11=>some 6|_=>none
def vS(o k:Nat):SV:=match k with
 |4=> .tup [iS (22+o),iS (25+o),dl (iS (26+o)) (iS (27+o))]
 |5=> .tup [iS (22+o)]
 |6=> .tup [iS (22+o)]
 |_=>iS (22+o)
def tS(o k:Nat)(tu:Bool):SV:=match k with
 |4=> .tup [cS 5,cS 20, .tup [dl (cS 1) (iS (22+o)),dl (cS 4) (iS (28+o)),jf tu 24 (dl (cS 1) (iS (26+o))) (dl (cS 1) (iS (29+o)))]]
 |5=> .tup [cS 5,cS 21, .tup [dl (cS 1) (iS (23+o))]]
 |6=> .tup [cS 5,cS 22, .tup [dl (cS 1) (iS (23+o))]]
 |_=>dl (iS (24+o)) (iS (23+o))
def uB(o k:Nat):List (List SV×SV):=match k with
 |4=> [([w0,sN 17,iS (27+o)],dl (cS 1) (iS (29+o)))]
 |5=> [([w0,sN 0,iS (22+o)],dl (cS 1) (iS (23+o)))]
 |6=> [([w0,sN 2,iS (22+o)],dl (cS 1) (iS (23+o)))]
 |k=> [([w0,sN k,iS (22+o)],dl (iS (24+o)) (iS (23+o)))]
def Ar(o k:Nat):List (SV×SV):=match k with|4=> [(iS (25+o),iS (25+o))]|_=> []
def Aq(o k:Nat):List (SV×SV):=match k with|4=> [(iS (25+o),iS (28+o))]|_=> []
noncomputable def ux:Int×Int:=(-9223372036854775808,18446744073709551616)
def He(o:Nat):List (Nat×(Int×Int)):= [(22+o,ux),(23+o,ux),(25+o,(0,100))]
structure Po where
 ex:List SV
 hb:Bs
 he:List SV
 it:List SV
 ad:List SV
 ce:List SV
 ev:List SV
 th:List SV
 da:List (SV×SV)
 d:Nat
 la:SV
noncomputable def Wt (ts j:Nat):SO:= .inst 238 [(36,(.obj 37 0)),(13,(.obj 75 0)),(122,(.obj 39 0)),(244,(.obj 44 0)),(140,(.obj 111 0)),(308,(.obj 112 0)),(143,(.obj 113 0)),(234,(.obj 114 0)),(332,(.obj 115 0)),(351,(.obj 116 0)),(333,(.obj 117 0)),(352,(.obj 118 0)),(173,(.obj 119 0)),(135,(.int 0 0)),(212,(.obj 120 0)),(137,(.obj ts j)),(305,(.obj 122 0)),(353,(.obj 123 0)),(307,(.obj 124 0)),(354,(.obj 125 0)),(355,(.obj 126 0))]
noncomputable def QD (d:Nat):SO:= .inst 239 [(90,(.obj 99 0)),(110,(.obj 100 0)),(125,(.int 3 (3*d))),(323,(.int 0 4000)),(326,(.obj 101 0)),(324,(.int 0 3)),(130,(.int 5 (3*d))),(327,(.int 0 1001)),(328,(.obj 102 0)),(329,(.obj 103 0)),(330,(.int 0 0)),(126,(.int 4 d))]
noncomputable def Ua (st:SV):SO:= .inst 241 [(89,(.int 0 1)),(336,(.tup [(.int 0 12),(.int 0 1),(.tup [])])),(337, .none),(338,(.int 0 0)),(20,(.obj 43 0)),(339,(.obj 104 0)),(147,st),(340,(.obj 106 0)),(341,(.obj 107 0)),(342,(.obj 108 0)),(343,(.obj 109 0)),(6,(.int 0 0)),(285,(.int 0 1)),(344,(.int 0 0)),(345,(.int 0 (-1)))]
def post(p:Po)(tu:SV):bu:= [(45, [(0, .list (.var 1) p.ex)]),(46, [(0, .list p.hb p.he)]),(47, [(0, .list (.var 3) p.it)]),(48, [(0, .list (.var 4) p.ad)]),(49, [(0, .list (.var 5) p.ce)]),(82, [(0, .list (.var 6) p.ev)]),(99, [(0, .list (.var 7) p.th)]),(100, [(0, .dict (some 1) 2 p.da)]),(38, [(0,Wt 25 1000)]),(42, [(0,Ua (.obj 24 1000))]),(39, [(0,QD p.d)]),(25, [(1000, .list .nil [])]),(40, [(0, .dict none 1 (nY (iS 1) p.la tu))])]
def GX(la:SV):Po:=⟨[], .var 2, [], [], [], [], [], [], [],0,la⟩
def PS(k:Nat)(v:SV):Po:=⟨[sN k], .var 2, [v], [iS 2], [iS 3], [], [.obj 4 1000], [.obj 9 1000], [(iS 3, .obj 9 1000)],1, .any 2⟩
def Pf(n:SV)(k:Nat)(sl rw:SV):SO:= .inst 91 [(89,n),(87, .int 0 (iC k)),(88,sl),(93, .none),(140,rw),(292, .int 0 0),(102, .none)]
def GU(a:SV)(k:Nat)(sl se:SV):SO:= .inst 124 [(128,a),(87, .int 0 (iC k)),(88,sl),(321, .int 0 0),(129, .int 0 3),(127,se)]
def I4(k:Nat)(v t:SV):bu:= [(4, [(1000,Pf (iS 2) k (.obj 8 1000) (.obj 81 1000))]),(8, [(1000, .list .nil [v])]),(9, [(1000,GU (iS 3) k (.obj 12 1000) (.int 4 1))]),(12, [(1000, .list .nil [t])])]
noncomputable def uG:List (Nat×Nat):= [(4,0),(8,0),(9,0),(12,0)]
noncomputable def QW:List (Nat×Nat):= [(4,1),(8,1),(9,1),(12,1)]
def IS(tu:Bool):Nat->SV
 |23=>jf tu 23 (dl (cS 1) (cS 0)) (dl (cS 1) (cS 0))
 |24=>jf tu 24 (dl (cS 1) (cS 0)) (dl (cS 1) (cS 0))
 |25=>jf tu 25 (dl (cS 1) (cS 0)) (dl (iS 8) (cS 0))
 |26=>jf tu 26 (dl (cS 1) (cS 0)) (.tup [cS 5,cS 20, .tup [dl (cS 1) (cS 0),dl (cS 4) (cS 0),jf tu 24 (dl (cS 1) (cS 0)) (dl (cS 1) (cS 0))]])
 |_=>jf tu 27 (dl (cS 1) (cS 0)) (.tup [cS 5,cS 22, .tup [dl (cS 1) (cS 0)]])
def rS(tu:Bool):Nat:=match tu with|true=>51|false=>52
def qE(tu:Bool):bu:= [(111, [(0, .dict none 2 ([0,1,2,3,4].map λ(i:Nat)=>(cS (23+i), .tup [.obj (rS tu) i, .tup [], .tup []])))]),(rS tu, [0,1,2,3,4].map λ(i:Nat)=>(i, .dict none 2 (match tu with|true=> [(cS 6,cS 1),(cS 7,cS 0)]|false=> [(cS 6,cS 0),(cS 7,cS 1)]))),(113, [(0, .dict none 2 ([23,24,25,26,27].map λ(i:Nat)=>(cS i,IS tu i)))])]
def uA(tu:SV):bu:= [(40, [(0, .dict none 1 (nY (iS 1) (.any 2) tu))])]
structure BP where
 k:Nat
 p:Nat
 b:Bool
 tu:Bool
def BP.e(x:BP):Nat:=(fg x.k).getD x.k
noncomputable def aR (k:Nat):Bool:=Nat.ble 12 k&&Nat.ble k 15
def BP.v(x:BP):SV:=match fg x.k with
 |some e=> .tup [cS (match x.b with|true=>1|false=>0),vS 0 e]
 |none=>vS 0 x.k
def fB(x:BP):Fs where
 bd:=(match x.e with|1=> [(6,(iC x.p,iC x.p))]|3=> [(7,(iC x.p,iC x.p))]|_=> [])++He 0
 i1:= []
 i2:= []
 i3:=match aR x.k with|true=> [(iS 22,iS 22)]|false=>(cS 0,cS 0)::Ar 0 x.e
 i4:=match aR x.k with|true=> [(iS 22,iS 28)]|false=>(cS 0,cS 0)::Aq 0 x.e
 i6:= []
 d1:= []
 op:= []
 eq:= []
 tg:=match aR x.k with|true=> []|false=>uB 0 x.e
 vl:= []
 cu:=match aR x.k with|true=> []|false=>(match x.e with|4=> []|5=> []|6=> []|_=> [([kS x.e,iS 23],iS 23)])
def nl(q b:Bool):SV:=match q with|true=> .bool b|false=> .any 1
def GW(q b:Bool):bu:=match q with|true=>qE b|false=> []
def BP.q(x:BP):Bool:=(fg x.k).isSome||Nat.beq x.k 4
def BP.eff(x:BP):Bool:=match fg x.k with|some _=>x.b|none=> !aR x.k
def BP.t(x:BP):SV:=match x.e with|1=>dl (cS (eU x.p)) (iS 23)|3=>dl (cS (eU x.p)) (iS 23)|4=>tS 0 4 x.tu|5=>tS 0 5 x.tu|6=>tS 0 6 x.tu|k=>dl (cS (eU k)) (iS 23)
def LO(x:BP):Fs:={fB x with tg:=match aR x.k with|true=> []|false=>(match x.e with|4=>uB 0 4|5=>uB 0 5|6=>uB 0 6|k=> [([w0,sN k,iS 22],x.t)])}
def Lg(ts:Nat)(x:BP):Bool:=jm (lu (nl x.q x.tu) (LO x)) 60 213 [w0,sN x.k,x.v] (uA (nl x.q x.tu)++GW x.q x.tu++gens (.any 1) ts) (.bool true)
 (match x.eff with|true=>post (PS x.e (vS 0 x.e)) (nl x.q x.tu)++I4 x.e (vS 0 x.e) x.t|false=>post (GX (.any 2)) (nl x.q x.tu)) (match x.eff with|true=>QW|false=>uG)
structure OP where
 k:Nat
 j:Nat
 tu:Bool
 ka:Bool
 ks:Bool
 ag:Bool
def rx(k:Nat):Bool:=Nat.beq k 1||Nat.beq k 3
def KW(k:Nat):SV:=match k with|1=> .atom 1|3=> .atom 2|k=>sN k
def isQ(k:Nat):Bool:=(fg k).isSome
def OP.su(x:OP):Bool:=match aR x.j with
 |true=>Nat.beq x.j 12||(Nat.beq x.j 14&&Nat.beq x.k 4&&x.ks)
 |false=>match fg x.j with
  |some e=>Nat.beq e x.k
  |none=>x.ag
def OP.q(x:OP):Bool:=isQ x.j||Nat.beq x.k 4
def nI(k:Nat)(tu:Bool):bu:= [(4, [(0,Pf (iS 20) k (.obj 8 0) (.any 10))]),(8, [(0, .list .nil [vS 0 k])]),(9, [(0,GU (iS 21) k (.obj 12 0) (.any 3))]),(12, [(0, .list .nil [tS 0 k tu])])]
def Mw(ka ks:Bool):bu:= [(44, [(0, .dict none (match ka||ks with|true=>3|false=>0) ((match ka with|true=> [(dl (cS 16) (cS 17),cS 1)]|false=> [])++(match ks with|true=> [(dl (cS 20) (cS 17),cS 1)]|false=> [])))])]
def EW(q ka ks:Bool):bu:=match q with|true=>Mw ka ks|false=> []
def OP.kq(x:OP):Bool:=aR x.j&& !Nat.beq x.j 12
def OP.eq(x:OP):List ((SV×SV)×Bool):=match(rx x.k||rx x.j)&& !Nat.beq x.k x.j with
 |true=> [((KW x.k,KW x.j),x.ag),((kS x.k,kS x.j),x.ag)]
 |false=> []
def OP.tg(x:OP):List (List SV×SV):=match rx x.j||rx x.k with
 |true=>match x.ag&& !Nat.beq x.k x.j with|true=> [([w0,sN x.j,iS 22],dl (iS 24) (iS 23))]|false=> []
 |false=> []
def fO(x:OP):Fs where
 bd:=(20,(4,100))::(21,(25,400))::He 0
 i1:= [(iS 20,sN x.k)]
 i2:= [(iS 20,vS 0 x.k)]
 i3:=(iS 20,iS 20)::Ar 0 x.k
 i4:=(iS 20,iS 21)::Aq 0 x.k
 i6:= [(iS 20, .obj 4 0)]
 d1:= [(iS 21, .obj 9 0)]
 op:= []
 eq:=x.eq
 tg:=uB 0 x.k++x.tg
 vl:= []
 cu:= []
def OP.va(x:OP):SV:=match aR x.j with
 |true=>iS 20
 |false=>match fg x.j with
  |some e=> .tup [cS 1,vS 0 x.k]
  |none=>vS 0 x.k
def OP.la(x:OP):SV:=match x.su with|true=> .tup [sN x.j,x.va]|false=> .any 2
def rF(v t:SV):bu:= [(8, [(0, .list .nil [v])]),(12, [(0, .list .nil [t])])]
def Tj(x:OP):Bool:=jm (lu (nl x.q x.tu) (fO x)) 60 216 [w0,sN x.j,iS 20] (uA (nl x.q x.tu)++(nI x.k x.tu++EW x.kq x.ka x.ks++GW x.q x.tu)++gens (.any 1) 25) (.bool true) (post (GX x.la) (nl x.q x.tu)++rF (vS 0 x.k) (tS 0 x.k x.tu)) uG
def bL:List Bool:= [false,true]
def Lk(k j:Nat):List Bool:=match(rx k&&Nat.ble j 24&& !isQ j&& !aR j&& !Nat.beq k j)||(rx j&& !Nat.beq k j)with|true=>(match Nat.blt k 7&&Nat.blt 3 k||Nat.blt j 7&&Nat.blt 3 j with|true=> [false]|false=>bL)|false=> [Nat.beq k j]
def z5(k j:Nat):List Bool:=match isQ j||Nat.beq k 4 with|true=>bL|false=> [false]
def LA(k j:Nat):List (Bool×Bool):=match aR j&& !Nat.beq j 12 with|true=> [(false,false),(false,true),(true,false),(true,true)]|false=> [(false,false)]
noncomputable def n0:List Nat:= [0,1,2,3,4,5,6,7,8,9,10,11,12,13,14,15,16,17,18,19,20,21,22,23,24]
def Tk(ks js:List Nat):Bool:=ks.all λk=>js.all λj=>(z5 k j).all λtu=>(LA k j).all λq=>(Lk k j).all λag=>Tj ⟨k,j,tu,q.1,q.2,ag⟩
structure LP extends OP where
 zp:Bool
 z2:Bool
def b2(b:Bool):SV:=match b with|true=>cS 1|false=>cS 0
def Io(z k:Nat):List (List SV×SV):=match k with
 |4=> [([w0,sN 0,iS z],iS 32),([w0,sN 17,iS 42],iS 37)]
 |5=> [([w0,sN 0,iS z],iS 32)]
 |6=> [([w0,sN 2,iS z],iS 32)]
 |k=> [([w0,sN k,iS z],iS 32)]
def Am(z k:Nat):(List ((SV×SV)×SV))×List ((SV×SV)×SV):=match k with
 |4=>([((iS z,cS 3),iS 40),((iS z,cS 5),iS 41),((iS 41,cS 2),iS 42)], [((iS 40,iS 2),iS 35),((iS 41,cS 2),iS 36)])
 |_=>([], [])
def LP.z(x:LP):Nat:=match isQ x.j with|true=>43|false=>31
def LP.op3(x:LP):List ((SV×SV)×SV):=((iS 30,cS 2),iS 31)::((match isQ x.j with|true=> [((iS 31,cS 2),iS 43)]|false=> [])++(Am x.z x.k).1)
def LP.op4(x:LP):List ((SV×SV)×SV):=((iS 30,cS 2),b2 x.zp)::((match isQ x.j with|true=> [((iS 31,cS 2),iS 50)]|false=>(match Nat.beq x.k 4&&x.zp with|true=> [((iS 31,cS 2),b2 x.z2)]|false=> []))++(Am x.z x.k).2)
def LP.op(x:LP):List (Nat×List ((SV×SV)×SV)):= [(3,x.op3),(4,x.op4)]
def LP.wr(x:LP):Bool:=x.su&&x.zp
def fL(x:LP):Fs:={fO x.toOP with
 bd:=He 10++(fO x.toOP).bd
 i3:=(iS 20,iS 20)::Ar 0 x.k++(match x.wr with|true=>Ar 10 x.k|false=> [])
 i4:=(iS 20,iS 21)::Aq 0 x.k++(match x.wr with|true=>Aq 10 x.k|false=> [])
 op:=match x.su with|true=>x.op|false=> []
 tg:=uB 0 x.k++x.tg++(match x.wr with|true=>uB 10 x.k|false=> [])
 vl:=match x.wr with|true=>Io x.z x.k|false=> []}
def LP.nv(x:LP):SV:=match Nat.beq x.k 4&&x.z2 with|true=> .tup [iS 32,iS 25,dl (iS 26) (iS 27)]|false=>vS 10 x.k
def LP.nt(x:LP):SV:=match Nat.beq x.k 4&&x.z2 with|true=> .tup [cS 5,cS 20, .tup [dl (cS 1) (iS 32),dl (cS 4) (iS 28),jf x.tu 24 (dl (cS 1) (iS 26)) (dl (cS 1) (iS 29))]]|false=>tS 10 x.k x.tu
def LP.cv(x:LP):SV:=match x.zp with|true=> .tup [iS 50,vS 10 x.k]|false=> .tup [cS 1,vS 0 x.k]
def LP.ct(x:LP):SV:=match x.zp with|true=>jf x.tu (iC x.j) (dl (cS 1) (iS 50)) (tS 10 x.k x.tu)|false=>jf x.tu (iC x.j) (dl (cS 1) (cS 1)) (tS 0 x.k x.tu)
def PR(j:Nat)(v la:SV):Po:=⟨[], .var 2, [], [], [], [.tup [iS 3,sN j,v]], [], [.obj 9 1000], [(iS 3, .obj 9 1000)],1,la⟩
def I3(j:Nat)(t:SV):bu:= [(9, [(1000,GU (iS 3) j (.obj 12 1000) (.int 4 1))]),(12, [(1000, .list .nil [t])])]
def Iu(v la:SV):Po:=⟨[], .set 2 (iS 20) v, [], [], [], [], [], [], [],0,la⟩
def LP.post(x:LP):bu:=match x.su with
 |false=>Mine.post (GX (.any 2)) (nl x.q x.tu)++rF (vS 0 x.k) (tS 0 x.k x.tu)
 |true=>match isQ x.j with
  |true=>Mine.post (PR x.j x.cv x.la) (nl x.q x.tu)++(rF (vS 0 x.k) (tS 0 x.k x.tu)++I3 x.j x.ct)
  |false=>match x.zp with
   |true=>Mine.post (Iu x.nv x.la) (nl x.q x.tu)++rF x.nv x.nt
   |false=>Mine.post (GX x.la) (nl x.q x.tu)++rF (vS 0 x.k) (tS 0 x.k x.tu)
def QV:List (Nat×Nat):= [(4,0),(8,0),(9,1),(12,1)]
def LP.cn(x:LP):List (Nat×Nat):=match x.su&&isQ x.j with|true=>QV|false=>uG
def PU(x:LP):Bool:=jm (lu (nl x.q x.tu) (fL x)) 60 220 [w0,sN x.j,iS 20,iS 30] (uA (nl x.q x.tu)++(nI x.k x.tu++GW x.q x.tu)++gens (.any 1) 25) (.bool true) x.post x.cn
def PF(su:Bool):List Bool:=match su with|true=>bL|false=> [false]
def OT(k j:Nat)(zp:Bool):List Bool:=match Nat.beq k 4&&zp&& !isQ j with|true=>bL|false=> [false]
def Tf(ks js:List Nat):Bool:=ks.all λk=>js.all λj=>aR j||(z5 k j).all λtu=>(Lk k j).all λag=>(PF (OP.su ⟨k,j,tu,false,false,ag⟩)).all λzp=>(OT k j zp).all λz2=>PU ⟨⟨k,j,tu,false,false,ag⟩,zp,z2⟩
structure QP where
 i:Nat
 j:Nat
 tu:Bool
 ka:Bool
 ks:Bool
def QP.q(x:QP):Bool:=isQ x.j
def QP.kq(x:QP):Bool:=aR x.j&& !Nat.beq x.j 12&& !Nat.beq x.i 0
def oK(i:Nat):Int:=match i with|2=>13|3=> -1|_=>16
def Tn(i:Nat):Int:=match i with|2=>13|_=>16
def P4(i:Nat):List Nat:=match i with|0=> []|2=> [116]|_=> [97]
def oA(i:Nat):Int:=match i with|0=>0|1=>16|2=>19|_=>22
def Tl(i:Nat):SV:=match i with|3=> .obj 54 0|_=> .none
noncomputable def Tm (i:Nat):SV:=match i with|2=> .obj 11 0|1=> .obj 13 0|_=> .obj 13 1
def rD(i:Nat):bu:=match i with
 |0=> []
 |i=> [(4, [(0, .inst 91 [(89,cS i),(87,cS (oK i)),(88, .obj 53 (i - 1)),(93, .none),(140, .any 10),(292,cS 0),(102,Tl i)])]),(9, [(0, .inst 124 [(128,cS (oA i)),(87,cS (Tn i)),(88,Tm i),(321,cS 0),(129,cS 3),(127, .any 3)])]),(54, [(0, .inst 245 [(103, .tup [cS 16])])])]
def QP.su(x:QP):Bool:=match aR x.j with
 |true=>Nat.beq x.i 0||Nat.beq x.j 12||(Nat.beq x.j 13&& !Nat.beq x.i 2)||(Nat.beq x.j 15&&Nat.beq x.i 2)||(Nat.beq x.j 14&& !Nat.beq x.i 2&&x.ka)
 |false=>false
def fQ(x:QP):Fs where
 bd:= []
 i1:= [(cS x.i, .str (P4 x.i))]
 i2:= [(cS x.i, .none)]
 i3:= [(cS x.i,cS x.i)]
 i4:= [(cS x.i,cS (oA x.i))]
 i6:=match x.i with|0=> []|i=> [(cS i, .obj 4 0)]
 d1:=match x.i with|0=> []|i=> [(cS (oA i), .obj 9 0)]
 op:= []
 eq:= []
 tg:= []
 vl:= []
 cu:= []
def QP.la(x:QP):SV:=match x.su with|true=> .tup [sN x.j,cS x.i]|false=> .any 2
def Th(x:QP):Bool:=jm (lu (nl x.q x.tu) (fQ x)) 60 216 [w0,sN x.j,cS x.i] (uA (nl x.q x.tu)++(rD x.i++EW x.kq x.ka x.ks++GW x.q x.tu)++gens (.any 1) 25) (.bool true) (post (GX x.la) (nl x.q x.tu)) uG
def Td(x:QP):Bool:=jm (lu (nl x.q x.tu) (fQ x)) 60 220 [w0,sN x.j,cS x.i,iS 30] (uA (nl x.q x.tu)++(rD x.i++GW x.q x.tu)++gens (.any 1) 25) (.bool true) (post (GX (.any 2)) (nl x.q x.tu)) uG
def Qh(i j:Nat):List (Bool×Bool):=match aR j&& !Nat.beq j 12&& !Nat.beq i 0 with|true=> [(false,false),(false,true),(true,false),(true,true)]|false=> [(false,false)]
def Ti(i:Nat)(js:List Nat):Bool:=js.all λj=>(Nat.beq i 0&&isQ j)||(z5 0 j).all λtu=>(Qh i j).all λq=>Th ⟨i,j,tu,q.1,q.2⟩
def Te(i:Nat)(js:List Nat):Bool:=js.all λj=>(Nat.beq i 0&&isQ j)||aR j||(z5 0 j).all λtu=>Td ⟨i,j,tu,false,false⟩
theorem aJ.mono(h:aJ W g c f args r)(hc:c<=c'):aJ W g c' f args r:=λσ hw m hm=>h σ hw m (YU hc hm)
theorem aJ.weak(h:aJ W g c f args r)(hw:∀σ,W' σ->W σ):aJ W' g c f args r:=λσ h' m hm=>h σ (hw σ h') m hm
def iw(ρ:Ro)(b:Nat)(q:SV×SV):Prop:=∃n:Nat,ah ρ q.1= .int n/\n<=500/\nth (ρ.base b) n=some (ah ρ q.2)
structure fu(g:Gh)(ρ:Ro)(f:Fs):Prop where
 bd:∀p∈f.bd,p.2.1<=ρ.int p.1/\ρ.int p.1<=p.2.2
 i1:∀q∈f.i1,iw ρ 1 q
 i2:∀q∈f.i2,iw ρ 2 q
 i3:∀q∈f.i3,iw ρ 3 q
 i4:∀q∈f.i4,iw ρ 4 q
 i6:∀q∈f.i6,iw ρ 6 q
 d1:∀q∈f.d1,aO (ah ρ q.1) (ρ.dbase 1)=some (ah ρ q.2)
 op:∀p∈f.op,∀q∈p.2,∀o,nA o=p.1->bY o (ah ρ q.1.1) (ah ρ q.1.2)=some (ah ρ q.2)
 eq:∀p∈f.eq,(p.2=true↔ah ρ p.1.1=ah ρ p.1.2)
 tg:∀q∈f.tg,aJ (WS g.c) ip 22 197 (ax ρ q.1) (ah ρ q.2)
 vl:∀q∈f.vl,aJ (WS g.c) ip 22 191 (ax ρ q.1) (ah ρ q.2)
 cu:∀q∈f.cu,aJ (WS g.c) ip 22 56 (ax ρ q.1) (ah ρ q.2)
section
variable{g:Gh}{σ:St}{X:Nat->Int}{Y:Nat->V}{I:Nat->Nat->Nat}
theorem Inv.ent(h:Inv g σ)(e:aP (gens (.any 1) g.ts) s j=some o):nth (σ.heap s) ((Z g σ X Y I).ix s j)=some (aC (Z g σ X Y I) o):=by
 rw[(jP g σ σ X gw Y bZ I bw h.tsv e).1,(jP g σ σ X gw Y bZ I bw h.tsv e).2];exact h.gen s j o e
theorem J5:jk (λs v=>(!yi v||j1 s||Nat.beq s 8||Nat.beq s 12)&&(!Nat.beq s 18||Nat.beq v 4)&&(Nat.beq s 18|| !Nat.beq v 4)) Tt=true:=by decide+kernel
theorem HF(s:Nat):md (lu tu f) s=0\/(λs v=>(!yi v||j1 s||Nat.beq s 8||Nat.beq s 12)&&(!Nat.beq s 18||Nat.beq v 4)&&(Nat.beq s 18|| !Nat.beq v 4)) s (md (lu tu f) s)=true:=
 md_all (F:=lu tu f) (p:=λs v=>(!yi v||j1 s||Nat.beq s 8||Nat.beq s 12)&&(!Nat.beq s 18||Nat.beq v 4)&&(Nat.beq s 18|| !Nat.beq v 4)) J5 s
theorem fv(h1:j1 s=false)(h8:s≠8)(QJ:s≠12):yi (md (lu tu f) s)=false:=by
 rcases HF (tu:=tu) (f:=f) s with h|h
 ·rw[h];rfl
 ·simp only[h1,az h8,az QJ,YW,zbF,Bool.not_eq_true']at h;exact h.1.1
theorem Bh(s:Nat)(h:md (lu tu f) s≠4):ip s=false:=by
 cases e:ip s with
 |false=>rfl
 |true=>
  have:=aB.mp e;subst this;exact absurd rfl h
theorem wN(h:s≠18):md (lu tu f) s≠4:=by
 rcases HF (tu:=tu) (f:=f) s with h1|h1
 ·rw[h1];decide
 ·intro e;rw[e]at h1;simp only[az h,YW]at h1;exact absurd h1.2 ak
set_option tactic.hygienic true in
theorem jx(h:ER tu S=true):∃a l,S.get 40 0=some (.dict none 1 (nY a l tu)):=by
 unfold ER at h;refine dI (S.get 40 0) (λe=>?_) λo e=>?_
 ·rw[e]at h;exact nf h
 ·rw[e]at h;cases o with
  |dict b k es=>
   cases b with
   |some _=>exact nf h
   |none=>
    have h:=YN.mp h;have:=aB.mp h.1;subst this;exact(uU _ _ (by rw[e,<-vq h.2]))
  |_=>exact nf h
theorem wG(h:Inv g σ)(eD:ah (Z g σ X Y I) tu= .bool g.c.tu)(Av:nth (σ'.heap 40) 0=some (aC (Z g σ X Y I) (.dict none 1 (nY a l tu))))(keep:∀s i o,s=50\/s=33->nth (σ.heap s) i=some o->nth (σ'.heap s) i=some o):WS g.c σ' where
 w:=by
  refine(Fc (c9 (Z g σ X Y I) (nY a l tu)) ?_ Av rfl rfl ?_)
  ·rw[jR];exact(by decide:15<=500)
  ·(refine(eD) ▸?_);rfl
 un:=by
  have e:aP (gens (.any 1) g.ts) 50 0=some (.dict none 1 [((.str [101]),(.atom 1)),((.str [102]),(.atom 2))]):=by
   rcases h.tsv with e|e<;>rw[e]<;>rfl
  exact keep _ _ _ (.inl rfl) (h.ent (X:=X) (Y:=Y) (I:=I) e)
 kd:=by
  refine U ((show∃o,aP (gens (.any 1) g.ts) 33 0=some o/\aC (Z g σ X Y I) o= .dict 1 (Lz.map λp=>(.str (aT p.1), .int p.2))from by
   rcases h.tsv with e|e<;>rw[e]<;>exact(al _ rfl rfl))) λo e1 e2=>?_
  have:=h.ent (X:=X) (Y:=Y) (I:=I) e1;rw[e2]at this;exact keep _ _ _ (.inr rfl) this
theorem Jq(h:Inv g σ):WS g.c σ:=by
 exact wG (X:=gw) (Y:=bZ) (I:=bw) h rfl (h.ent (show aP (gens (.any 1) g.ts) 40 0=some (.dict none 1 (nY (iS 1) (.any 2) (.any 1)))from by
  rcases h.tsv with e|e<;>rw[e]<;>rfl)) λs i o _ h=>h
theorem QO(h:Inv g σ)(eD:ah (Z g σ X Y I) tu= .bool g.c.tu)(k:fu g (Z g σ X Y I) f):uz (Z g σ X Y I) (lu tu f) (σ.setE []) where
 z:=rfl
 bd p hp:=by
  rcases Y8.mp hp with hp|hp
  ·exact k.bd p hp
  ·exact Cs h.ok (Us h.atb) (Ur h.siz) (Q1 h.siz h.cnt) p hp
 st:=SM
 bn:=Un h
 dn:=Uk h
 bl:=Cq g
 it p hp q hq:=by
  simp only[lu,YS,Y2,Zl]at hp;rcases hp with rfl|rfl|rfl|rfl|rfl
  ·exact k.i1 q hq
  ·exact k.i2 q hq
  ·exact k.i3 q hq
  ·exact k.i4 q hq
  ·exact k.i6 q hq
 dt p hp q hq:=by
  simp only[lu,YR]at hp;subst hp;exact k.d1 q hq
 op:=k.op
 eq:=k.eq
 le:=J
 nw:=P5
 l0 _:=rfl
 ca p hp q hq S σ' hs j2 m hm:=by
  refine iQ (jx j2) λa l e1=>?_;have yr:=wG h eD (hs.at_ _ _ _ e1) λs i o hh ho=>hs.ro s (fv (by rcases hh with rfl|rfl<;>rfl) (by rcases hh with rfl|rfl<;>decide) (by rcases hh with rfl|rfl<;>decide)) i o ho;simp only[lu,YS,Y2,Zl]at hp;rcases hp with rfl|rfl|rfl
  ·exact gv (k.tg q hq) Bh (Zd 22) hs yr m hm
  ·exact gv (k.vl q hq) Bh (Zd 22) hs yr m hm
  ·exact gv (k.cu q hq) Bh (Zd 22) hs yr m hm
theorem xE(x:Nat)(a b:List (Nat×α)):bJ x (a++b)=match bJ x a with|some v=>some v|none=>bJ x b:=by
 induction a with
 |nil=>rfl
 |cons p a ih=>
  rw[ZD,bM,bM,ih];cases Nat.beq p.1 x<;>rfl
theorem gW(h:aP (a++b) s j=some o):(∃l,(s,l)∈a/\(j,o)∈l)\/aP b s j=some o:=by
 unfold aP at h;rw[xE]at h;refine dI (bJ s a) (λe=>?_) λl e=>?_
 ·rw[e]at h;exact .inr h
 ·rw[e]at h;exact .inl (al l (aW e) (aW h))
def iM(es:bu):Bool:=es.all λp=>p.2.all λq=>Nat.blt q.1 1000&&(!(wF p.1||Nat.beq p.1 25||Nat.beq p.1 121)||Nat.beq q.1 0)
theorem eo:iM (a++b)=(iM a&&iM b):=List.all_append
theorem jE(h:ts=25\/ts=121):iM (gens (.any 1) ts)=true:=by
 rcases h with rfl|rfl<;>decide+kernel
theorem gS(h:iM es=true)(s j k:Nat)(a b:SO)(ha:aP es s j=some a)(hb:aP es s k=some b)(e:(Z g σ X Y I).ix s j=(Z g σ X Y I).ix s k):j=k:=by
 have f:∀{j a},aP es s j=some a->(Nat.blt j 1000&&(!(wF s||Nat.beq s 25||Nat.beq s 121)||Nat.beq j 0))=true:=λha=>b8 (p:=λs q=>Nat.blt q.1 1000&&(!(wF s||Nat.beq s 25||Nat.beq s 121)||Nat.beq q.1 0)) h ha;have h1:=YN.mp (f ha);have h2:=YN.mp (f hb);refine cX ((wF s||Nat.beq s 25||Nat.beq s 121)) (λq=>?_) λq=>?_
 ·
  rw[q]at h1 h2;rw[aB.mp h1.2,aB.mp h2.2]
 let z0:=zae.mp q
 ·
  have x:∀{j},Nat.blt j 1000=true->(Z g σ X Y I).ix s j=j:=by
   intro j hj;show(if 1000<=j then _ else cond (wF s) _ (cond (_||_) _ _))=_;rw[Zs (zaC.mpr (YX hj)),(zae.mp z0.1).1,(zae.mp z0.1).2,z0.2];rfl
  rw[x h1.1,x h2.1]at e;exact e
theorem j6(h:Inv g σ)(eD:ah (Z g σ X Y I) tu= .bool g.c.tu)(k:fu g (Z g σ X Y I) f)(Qv:iM ex=true)(hex:∀p∈ex,∀q∈p.2,nth (σ.heap p.1) ((Z g σ X Y I).ix p.1 q.1)=some (aC (Z g σ X Y I) q.2))(cw:jm (lu tu f) 60 fn args (uA tu++ex++gens (.any 1) g.ts) r yn cn=true)(hm:60<=m):∃σ',(run pt m).c fn (ax (Z g σ X Y I) args) σ=some (.ok (ah (Z g σ X Y I) r),σ'.setE σ.env)/\AA (Z g σ X Y I) (lu tu f) σ σ' yn cn:=by
 have XY:aP (gens (.any 1) g.ts) 40 0=some (.dict none 1 (nY (iS 1) (.any 2) (.any 1))):=by
  rcases h.tsv with e|e<;>rw[e]<;>rfl
 refine L7 (QO h eD k).ok (λs j o ho=>?_) (gS (by rw[eo,eo,Qv,jE h.tsv];rfl)) hm cw;refine(gW ho).elim (λq=>?_) λh1=>?_
 ·(refine U q λl h1 h2=>?_;try clear q);rcases Y8.mp h1 with h1|h1
  ·simp only[uA,YR,Zv]at h1
   (refine dc h1 λq1 q2=>?_;clear h1;subst q1;subst q2)
   simp only[YR,Zv]at h2;obtain⟨rfl,rfl⟩:=h2;refine(h.ent (X:=X) (Y:=Y) (I:=I) XY).trans (YV some ?_);simp only[aC,gI,nY,c9,(show ah (Z g σ X Y I) (.any 1)=ah (Z g σ X Y I) tu from by rw[eD];rfl)]
  ·exact hex _ h1 _ h2
 ·exact h.ent h1
end
noncomputable def Gh.up (g:Gh) (σ:St) (bx ce:List Bx) (n lk:Nat) (lv:V):Gh:={g with bx:=bx,ce:=ce,n:=n,lk:=lk,lv:=lv,ts:=25,ti:=(σ.heap 25).length,ss:=24,si:=(σ.heap 24).length}
theorem zD:((gens (.any 1) 25).all λq=>q.2.all λr=>j1 q.1||(match aP (gens (.any 1) 121) q.1 r.1 with|some o=>o.beq r.2|none=>false))=true:=by decide+kernel
theorem DE(ht:ts=25\/ts=121)(hm:j1 s=false)(h:aP (gens (.any 1) 25) s j=some o):aP (gens (.any 1) ts) s j=some o:=by
 rcases ht with rfl|rfl
 ·exact h
 ·have:=b8 (p:=λs r=>j1 s||(match aP (gens (.any 1) 121) s r.1 with|some o=>o.beq r.2|none=>false)) zD h;rw[hm]at this;have this:=this;refine dI (aP (gens (.any 1) 121) s j) (λe=>?_) λo' e=>?_
  ·rw[e]at this;exact nf this
  ·rw[e];rw[e]at this;rw[SO.beq_eq this]
theorem MK(h:bJ s es=some [(0,o0)])(e:aP es s j=some o):j=0/\o=o0:=by
 unfold aP at e;rw[h]at e;have e:bJ j [(0,o0)]=some o:=e;rw[bM]at e;refine cX (Nat.beq 0 j) (λq=>?_) λq=>?_
 ·rw[q]at e;obtain rfl:=YZ e;exact⟨(aB.mp q).symm,rfl⟩
 ·rw[q]at e;exact nt e
noncomputable def hF (a b c:Int):bt:= .inst 239 [(90,(.obj 99 0)),(110,(.obj 100 0)),(125,(.int a)),(323,(.int 4000)),(326,(.obj 101 0)),(324,(.int 3)),(130,(.int b)),(327,(.int 1001)),(328,(.obj 102 0)),(329,(.obj 103 0)),(330,(.int 0)),(126,(.int c))]
section
variable{g:Gh}{σ σ':St}{X:Nat->Int}{Y:Nat->V}{I:Nat->Nat->Nat}
structure UA(ρ:Ro)(g':Gh)(p:Po)(d:Nat):Prop where
 ex:g'.exactL=ρ.base 1++ax ρ p.ex
 he:g'.heldL=eC ρ p.hb++ax ρ p.he
 it:g'.itemsL=ρ.base 3++ax ρ p.it
 ad:g'.addrsL=ρ.base 4++ax ρ p.ad
 ce:g'.cellsL=ρ.base 5++ax ρ p.ce
 ev:g'.thingsL=ρ.base 6++ax ρ p.ev
 th:g'.hthL=ρ.base 7++ax ρ p.th
 da:g'.hatL=over ρ p.da (ρ.dbase 1)
 d:p.d=d
 la:ah ρ p.la= .tup [.str (aT g'.lk),g'.lv]
theorem Kp(h:Inv g σ)(eD:ah (Z g σ X Y I) tu= .bool g.c.tu)(A:UA (Z g σ X Y I) (g.up σ bx ce (g.n+d) lk lv) p d)(ha:∀q∈post p tu,∀r∈q.2,nth (σ'.heap q.1) ((Z g σ X Y I).ix q.1 r.1)=some (aC (Z g σ X Y I) r.2))(ro:∀s,j1 s=false->s≠8->s≠12->∀i o,nth (σ.heap s) i=some o->nth (σ'.heap s) i=some o):
  ∀s j o,aP (gens (.any 1) 25) s j=some o->nth (σ'.heap s) ((Z (g.up σ bx ce (g.n+d) lk lv) σ' gw bZ bw).ix s j)=some (aC (Z (g.up σ bx ce (g.n+d) lk lv) σ' gw bZ bw) o):=by
 intro s j o ho;refine uy (j1 s) (λhm=>?_) λhm=>?_
 ·
  have h8:s≠8:=by rintro rfl;refine U (gV ho) λl h1 h2=>?_;exact absurd (b8 (p:=λs r=> !Nat.beq s 8) (by decide+kernel) ho) ak
  have QJ:s≠12:=by rintro rfl;exact absurd (b8 (p:=λs r=> !Nat.beq s 12) (by decide+kernel) ho) ak
  have ok:=b8 (p:=λs r=>j1 s||uC (L0 25) r.2) DG ho;rw[hm]at ok;have e:=h.ent (X:=X) (Y:=Y) (I:=I) (DE h.tsv hm ho)
  (refine(hU (Sk (g:=g) (g':=g.up σ bx ce (g.n+d) lk lv) rfl σ σ' X gw Y bZ I bw 25) ok) ▸?_)
  have hx:(Z g σ X Y I).ix s j=(Z (g.up σ bx ce (g.n+d) lk lv) σ' gw bZ bw).ix s j:=by
   have q:=YN.mp (YN.mp (b8 (p:=λs r=>uC Aw r.2&&Aw.o s r.1) (lH (.inl rfl)) ho)).2;refine rX _ _ _ _ _ _ _ _ _ _ s j q.1 (by simpa using q.2) (.inr ⟨?_,?_⟩)
   ·rintro rfl;exact ng hm
   ·rintro rfl;exact absurd (b8 (p:=λs r=> !Nat.beq s 121) (by decide+kernel) ho) ak
  (refine(hx) ▸?_)
  exact ro s hm h8 QJ _ _ e
 ·
  have hs:s∈Qb:=by
   unfold j1 at hm;rw[zbo]at hm
   (refine U hm λx hx e=>?_;clear hm)
   (refine(aB.mp e) ▸?_);exact hx
  simp only[Qb,YS,Y2,Zl]at hs;have P:∀{s j:Nat} {o:SO} {l},(s,l)∈post p tu->(j,o)∈l->nth (σ'.heap s) ((Z g σ X Y I).ix s j)=some (aC (Z g σ X Y I) o):=λh1 h2=>ha _ h1 _ h2;rcases hs with rfl|rfl|rfl|rfl|rfl|rfl|rfl|rfl|rfl|rfl|rfl|rfl|rfl<;>(refine dc (MK rfl ho) λq1 q2=>?_;subst q1;subst q2)
  ·exact P (s:=25) (j:=1000) (.tail _ (.tail _ (.tail _ (.tail _ (.tail _ (.tail _ (.tail _ (.tail _ (.tail _ (.tail _ (.tail _ (.head _)))))))))))) (.head _)
  ·exact P (s:=38) (j:=0) (.tail _ (.tail _ (.tail _ (.tail _ (.tail _ (.tail _ (.tail _ (.tail _ (.head _))))))))) (.head _)
  ·have e:=P (s:=39) (j:=0) (.tail _ (.tail _ (.tail _ (.tail _ (.tail _ (.tail _ (.tail _ (.tail _ (.tail _ (.tail _ (.head _))))))))))) (.head _);refine e.trans (YV some ?_);rw[(show aC (Z g σ X Y I) (QD p.d)=hF (Gh.adr g.n+3*(p.d:Int)) (3*(g.n:Int)+3*(p.d:Int)) ((g.n:Int)+(p.d:Int))from rfl)];refine Eq.trans ?_ (show aC (Z (g.up σ bx ce (g.n+d) lk lv) σ' gw bZ bw) (QD 0)=hF (Gh.adr (g.n+d)+0) (3*((g.n+d:Nat):Int)+0) (((g.n+d:Nat):Int)+0)from rfl).symm;rw[(show Gh.adr g.n+3*(p.d:Int)=Gh.adr (g.n+d)+0 from by rw[A.d];exact X9 ..),(show 3*(g.n:Int)+3*(p.d:Int)=3*((g.n+d:Nat):Int)+0 from by rw[A.d];exact Uq ..),(show(g.n:Int)+(p.d:Int)=((g.n+d:Nat):Int)+0 from by rw[A.d];exact rfl)]
  ·have e:=P (s:=40) (j:=0) (.tail _ (.tail _ (.tail _ (.tail _ (.tail _ (.tail _ (.tail _ (.tail _ (.tail _ (.tail _ (.tail _ (.tail _ (.head _))))))))))))) (.head _);refine e.trans (YV some ?_);simp only[aC,gI,nY,c9,eD,A.la];rfl
  ·exact P (s:=42) (j:=0) (.tail _ (.tail _ (.tail _ (.tail _ (.tail _ (.tail _ (.tail _ (.tail _ (.tail _ (.head _)))))))))) (.head _)
  ·have e:=P (s:=45) (j:=0) (.head _) (.head _);refine e.trans (YV some ?_);exact YV bt.list (A.ex.symm.trans (Zb _).symm)
  ·have e:=P (s:=46) (j:=0) (.tail _ (.head _)) (.head _);refine e.trans (YV some ?_);exact YV bt.list (A.he.symm.trans (Zb _).symm)
  ·have e:=P (s:=47) (j:=0) (.tail _ (.tail _ (.head _))) (.head _);refine e.trans (YV some ?_);exact YV bt.list (A.it.symm.trans (Zb _).symm)
  ·have e:=P (s:=48) (j:=0) (.tail _ (.tail _ (.tail _ (.head _)))) (.head _);refine e.trans (YV some ?_);exact YV bt.list (A.ad.symm.trans (Zb _).symm)
  ·skip;refine(P (s:=49) (j:=0) (.tail _ (.tail _ (.tail _ (.tail _ (.head _))))) (.head _)).trans (YV some ?_);exact YV bt.list (A.ce.symm.trans (Zb _).symm)
  ·skip;refine(P (s:=82) (j:=0) (.tail _ (.tail _ (.tail _ (.tail _ (.tail _ (.head _)))))) (.head _)).trans (YV some ?_);exact YV bt.list (A.ev.symm.trans (Zb _).symm)
  ·skip;refine(P (s:=99) (j:=0) (.tail _ (.tail _ (.tail _ (.tail _ (.tail _ (.tail _ (.head _))))))) (.head _)).trans (YV some ?_);exact YV bt.list (A.th.symm.trans (Zb _).symm)
  ·skip;refine(P (s:=100) (j:=0) (.tail _ (.tail _ (.tail _ (.tail _ (.tail _ (.tail _ (.tail _ (.head _)))))))) (.head _)).trans (YV some ?_);exact YV (bt.dict 2) A.da.symm
end
theorem eB.mono(h:N<=N')(x:eB c N k v):eB c N' k v:=by
 induction x with
 |pl hk hr=>exact .pl hk hr
 |ref hk hi=>exact .ref hk (Y9 hi h)
 |s hr hi hb rl=>exact .s hr (Y9 hi h) hb rl
 |g hr=>exact .g hr
 |h hr=>exact .h hr
 |q hk hb _ ih=>exact .q hk hb ih
theorem cj.mono{g g':Gh}(hc:g'.c=g.c)(ha:∀i a,nth g.addrsL i=some a->nth g'.addrsL i=some a)(x:cj g k v t):cj g' k v t:=by
 induction x with
 |pl hk hr=>(refine(hc) ▸?_);exact .pl hk hr
 |ref hk h=>exact .ref hk (ha _ _ h)
 |s hr h _ ih=>exact .s hr (ha _ _ h) ih
 |g _ ih=>exact .g ih
 |h _ ih=>exact .h ih
 |q hk _ ih=>(refine(hc) ▸?_);exact .q hk ih
section
variable{g g':Gh}{σ σ':St}
theorem ThAt.mono(x:ThAt g σ b)(hc:g'.c=g.c)(hN:g.N<=g'.N)(ha:∀i a,nth g.addrsL i=some a->nth g'.addrsL i=some a)(hn:g.n<=g'.n)(k9:∀i o,nth (σ.heap 9) i=some o->nth (σ'.heap 9) i=some o)(uD:∀o,nth (σ.heap 12) (b.th - 3)=some o->nth (σ'.heap 12) (b.th - 3)=some o):ThAt g' σ' b where
 val:=by(refine(hc).symm ▸?_);exact x.val.mono hN
 thing:=let ⟨se,h⟩:=x.thing;⟨se,k9 _ _ h⟩
 ts:=let ⟨t,h1,h2⟩:=x.ts;(al t (h1.mono hc ha) (uD _ h2))
 rng:=⟨x.rng.1,Y9 x.rng.2 hn⟩
theorem r9.mono(x:r9 g σ i b)(hc:g'.c=g.c)(hN:g.N<=g'.N)(ha:∀i a,nth g.addrsL i=some a->nth g'.addrsL i=some a)(hn:g.n<=g'.n)(k4:∀i o,nth (σ.heap 4) i=some o->nth (σ'.heap 4) i=some o)(k8:∀o,nth (σ.heap 8) i=some o->nth (σ'.heap 8) i=some o)(k9:∀i o,nth (σ.heap 9) i=some o->nth (σ'.heap 9) i=some o)(uD:∀o,nth (σ.heap 12) (b.th - 3)=some o->nth (σ'.heap 12) (b.th - 3)=some o):r9 g' σ' i b where
 toThAt:=x.toThAt.mono hc hN ha hn k9 uD
 nm:=x.nm
 item:=let ⟨r,h⟩:=x.item;⟨r,k4 _ _ h⟩
 sl:=k8 _ x.sl
theorem Inv.setE(h:Inv g σ):Inv g (σ.setE e):={h with
 box:=λi b hb=>let x:=h.box i b hb;⟨⟨x.val,x.thing,x.ts,x.rng⟩,x.nm,x.item,x.sl⟩
 cell:=λb hb=>let x:=h.cell b hb;⟨x.val,x.thing,x.ts,x.rng⟩}
end
section
variable{g:Gh}{σ σ':St}{X:Nat->Int}{Y:Nat->V}{I:Nat->Nat->Nat}
theorem Inv.next(h:Inv g σ)(eD:ah (Z g σ X Y I) tu= .bool g.c.tu)(A:UA (Z g σ X Y I) (g.up σ bx ce (g.n+d) lk lv) p d)(R:AA (Z g σ X Y I) (lu tu f) σ σ' yn cn)(hp:∀q∈post p tu,q∈yn)(l4:(σ'.heap 4).length=3+bx.length)(l8:(σ'.heap 8).length=bx.length)(l9:(σ'.heap 9).length=g.n+d)(l12:(σ'.heap 12).length+3=g.n+d)(box:∀i b,nth bx i=some b->r9 (g.up σ bx ce (g.n+d) lk lv) σ' i b)(cell:∀b∈ce,ThAt (g.up σ bx ce (g.n+d) lk lv) σ' b)(cq:∀b∈ce,b.k∈ [7,8,9,10,11])(dist:((bx++ce).map λb=>b.th).Nodup)(cnt:g.n+d=3+bx.length+ce.length)(siz:bx.length+ce.length<=60)(las:lk<25/\eB g.c (4+bx.length) lk lv):Inv (g.up σ bx ce (g.n+d) lk lv) σ':=by
 have ro:=λs h1 h2 h3=>R.ro s (fv h1 h2 h3);have k:∀{s i o},j1 s=false->s≠8->s≠12->nth (σ.heap s) i=some o->nth (σ'.heap s) i=some o:=λh1 h2 h3 h=>ro _ h1 h2 h3 _ _ h
 exact {
  ok:=h.ok
  tsv:= .inl rfl
  gen:=Kp h eD A (λq hq=>R.at_ q (hp q hq)) ro
  kin:=k rfl ak ak h.kin
  rows:=k rfl ak ak h.rows
  rowd:=λi hi=>by
   have:=h.rowd i hi;show nth (σ'.heap (pf g.c)) i=some (AE g.c)
   revert this
   unfold pf;cases g.c.tu<;>exactλthis=>k rfl ak ak this
  scr:=k rfl ak ak h.scr
  l4:=l4
  l8:=l8
  l9:=l9
  l12:=l12
  box:=box
  cell:=cell
  cq:=cq
  dist:=dist
  cnt:=cnt
  scl:=h.scl
  siz:=siz
  atb:=h.atb
  las:=las
  it0:=let ⟨r,e⟩:=h.it0;⟨r,k rfl ak ak e⟩
  it1:=let ⟨r,e⟩:=h.it1;⟨r,k rfl ak ak e⟩
  it2:=let ⟨r,e⟩:=h.it2;⟨r,k rfl ak ak e⟩
  sp:=k rfl ak ak h.sp
  sl:=λi hi=>k rfl ak ak (h.sl i hi)
  th0:=let ⟨r,e⟩:=h.th0;⟨r,k rfl ak ak e⟩
  th1:=let ⟨r,e⟩:=h.th1;⟨r,k rfl ak ak e⟩
  th2:=let ⟨r,e⟩:=h.th2;⟨r,k rfl ak ak e⟩
  ts:=(gA (k rfl ak ak h.ts.1) (k rfl ak ak h.ts.2.1) (k rfl ak ak h.ts.2.2))}
end
theorem iU(h:k∈eT):k≠4/\k≠5/\k≠6:=by
 exact(show∀k∈eT,k≠4/\k≠5/\k≠6 from by decide) k h
theorem A0{o k:Nat}(h:k∈eT):vS o k=iS (22+o):=by
 refine dU (iU h) λh4 h5 h6=>?_;unfold vS;split
 ·exact absurd rfl h4
 ·exact absurd rfl h5
 ·exact absurd rfl h6
 ·rfl
theorem oi(h:k∈eT):tS o k tu=dl (iS (24+o)) (iS (23+o)):=by
 refine dU (iU h) λh4 h5 h6=>?_;unfold tS;split
 ·exact absurd rfl h4
 ·exact absurd rfl h5
 ·exact absurd rfl h6
 ·rfl
theorem BK{o k:Nat}(h:k∈eT):uB o k= [([w0,sN k,iS (22+o)],dl (iS (24+o)) (iS (23+o)))]:=by
 refine dU (iU h) λh4 h5 h6=>?_;unfold uB;split
 ·exact absurd rfl h4
 ·exact absurd rfl h5
 ·exact absurd rfl h6
 ·rfl
theorem Ce{o k:Nat}(h:k≠4):Ar o k= []/\Aq o k= []:=by
 unfold Ar Aq;split
 ·exact absurd rfl h
 ·exact⟨rfl,rfl⟩
structure VO(g:Gh)(ρ:Ro)(o k:Nat)(v t:V):Prop where
 v:ah ρ (vS o k)=v
 t:ah ρ (tS o k g.c.tu)=t
 tg:∀q∈uB o k,aJ (WS g.c) ip 22 197 (ax ρ q.1) (ah ρ q.2)
 i3:∀q∈Ar o k,iw ρ 3 q
 i4:∀q∈Aq o k,iw ρ 4 q
 bd:∀p∈He o,p.2.1<=ρ.int p.1/\ρ.int p.1<=p.2.2
theorem te{g:Gh}(h:nth g.addrsL i=some a):∃z,a= .int z:=by
 have:∀x∈g.addrsL,∃z,x=V.int z:=by
  intro x hx;rcases Y8.mp hx with hx|hx
  ·simp only[YS,Y2,Zl]at hx;rcases hx with rfl|rfl|rfl|rfl<;>exact⟨_,rfl⟩
  ·(refine U (Zj.mp hx) λb _ q3=>?_;subst q3)
   exact⟨_,rfl⟩
 rw[cN]at h;exact this a (List.mem_of_getElem? h)
theorem pC(hp:p∈rh)(hr:r∈rL):ux.1<=pv p r/\pv p r<=ux.2/\ux.1<=cv p (pv p r)/\cv p (pv p r)<=ux.2:=by
 have h:(rh.all λp=>rL.all λr=>decide (ux.1<=pv p r)&&decide (pv p r<=ux.2)&&decide (ux.1<=cv p (pv p r))&&decide (cv p (pv p r)<=ux.2))=true:=by decide+kernel
 rw[YO]at h;have h1:=h p hp;rw[YO]at h1;have h2:=h1 r hr;simp only[YW,zbf]at h2;exact(lU (h2.1.1.1) (h2.1.1.2) (h2.1.2) (h2.2))
structure ry(g:Gh)(ρ:Ro):Prop where
 z:ρ.int 0=0
 w:ρ.ix 40 0=0
 b3:ρ.base 3=g.itemsL
 b4:ρ.base 4=g.addrsL
theorem bj(g:Gh)(σ:St)(X:Nat->Int)(Y:Nat->V)(I:Nat->Nat->Nat):ry g (Z g σ X Y I):=⟨rfl,rfl,rfl,rfl⟩
def lg(l:List Int)(i:Nat):Int:=(nth l i).getD 0
theorem iT(hc:c.ok)(hk:k∈eT):aG c k∈rh:=(wM hc hk).m
section
variable{g:Gh}{ρ:Ro}
theorem ae(x:Nat):ah ρ (iS x)= .int (ρ.int x):=by simp only[iS,lP,zam]
theorem au(G:ry g ρ)(n:Int):ah ρ (cS n)= .int n:=by simp only[cS,lP,G.z,ZA]
theorem vr(G:ry g ρ):ah ρ w0= .obj 40 0:=by simp only[w0,uv,G.w]
theorem bS(a b:SV):ah ρ (dl a b)= .tup [ah ρ a,ah ρ b]:=rfl
theorem Cn(k:Nat):ah ρ (sN k)= .str (aT k):=rfl
theorem eP(G:ry g ρ)(kd:Int)(a b:SV):ah ρ (jf g.c.tu kd a b)=two g.c kd (ah ρ a) (ah ρ b):=by
 unfold jf two;cases g.c.tu<;>simp only[iE,dO,c7,au G]
theorem mz(XO:ux.1<=ρ.int (22+o)/\ρ.int (22+o)<=ux.2)(QG:ux.1<=ρ.int (23+o)/\ρ.int (23+o)<=ux.2)(XN:0<=ρ.int (25+o)/\ρ.int (25+o)<=100):∀p∈He o,p.2.1<=ρ.int p.1/\ρ.int p.1<=p.2.2:=by
 intro p hp;simp only[He,YS,Y2,Zl]at hp;rcases hp with rfl|rfl|rfl
 ·exact XO
 ·exact QG
 ·exact XN
theorem rM(hc:g.c.ok)(G:ry g ρ)(hk:k∈eT)(hr:r∈rL)(hx:ρ.int x=pv (aG g.c k) r)(ht:ah ρ t= .tup [.int (eU (aG g.c k)), .int (cv (aG g.c k) (pv (aG g.c k) r))]):aJ (WS g.c) ip 22 197 (ax ρ [w0,sN k,iS x]) (ah ρ t):=by
 simp only[dO,c7,vr G,ae,hx,ht];exact JY hc hk hr
theorem cj.pl_inv(h:cj g k v t)(hk:k∈eT):∃r∈rL,v= .int (pv (aG g.c k) r)/\t= .tup [.int (eU (aG g.c k)), .int (cv (aG g.c k) (pv (aG g.c k) r))]:=by
 have n:=(show∀k∈eT,k∉ [12,13,14,15]/\k≠4/\k≠5/\k≠6/\k≠7/\k≠8/\k≠9/\k≠10/\k≠11 from by decide) k hk;cases h with
 |pl _ hr=>exact(aM _ hr rfl rfl)
 |ref hr _=>exact absurd hr n.1
 |s=>exact absurd rfl n.2.1
 |g=>exact absurd rfl n.2.2.1
 |h=>exact absurd rfl n.2.2.2.1
 |q hq _=>exact absurd hk (A8 _ hq).1
theorem cj.q_inv(h:cj g k v t)(hk:fg k=some k'):∃b w u,v= .tup [.int b,w]/\t=two g.c (iC k) (.tup [.int 1, .int b]) u/\cj g k' w u:=by
 have no:∀k,(k∈eT\/k∈ [12,13,14,15]\/k=4\/k=5\/k=6)->fg k=none:=by
  intro k h;refine(show∀k∈eT++ [12,13,14,15,4,5,6],fg k=none from by decide) k ?_;rcases h with h|h|rfl|rfl|rfl
  ·exact YQ _ h
  ·refine Y0 _ ?_;exact YQ [4,5,6] h
  all_goals decide
 cases h with
 |pl hp _=>rw[no k (.inl hp)]at hk;exact nt hk
 |ref hp _=>rw[no k (.inr (.inl hp))]at hk;exact nt hk
 |s=>exact nt hk
 |g=>exact nt hk
 |h=>exact nt hk
 |q hq ht=>
  simp only[YS,Zv,Y2,Zl]at hq;rcases hq with⟨rfl,rfl⟩|⟨rfl,rfl⟩|⟨rfl,rfl⟩|⟨rfl,rfl⟩|⟨rfl,rfl⟩<;>obtain rfl:=YZ hk<;>exact(iO _ _ _ rfl rfl ht)
theorem vg(G:ry g ρ)(hN:g.N<=100){x i:Nat}(hx:ρ.int x=(i:Int))(hi:i<g.N):iw ρ 3 (iS x,iS x):=by
 refine(aM i ?_ (Up hi hN) ?_)
 ·rw[ae,hx]
 ·rw[ae,hx,G.b3];exact d8 hi
theorem vC(G:ry g ρ)(hN:g.N<=100){x y i:Nat}(hx:ρ.int x=(i:Int))(hy:ρ.int y=a)(ha:nth g.addrsL i=some (.int a)):iw ρ 4 (iS x,iS y):=by
 have:=bk ha;rw[dF]at this;refine(aM i ?_ (Up this hN) ?_)
 ·rw[ae,hx]
 ·rw[ae,hy,G.b4];exact ha
set_option tactic.hygienic true in
theorem oh(hc:g.c.ok)(hN:g.N<=100)(hk:k∈gG){v t:V}(ht:cj g k v t):∃l:List Int,∀(ρ:Ro) (o:Nat),ry g ρ->(∀i,i<8->ρ.int (22+i+o)=lg l i)->VO g ρ o k v t:=by
 cases ht with
 |pl hp hr=>
  rename_i r
  let z0:=aG g.c k
  refine⟨[pv z0 r,cv z0 (pv z0 r),eU z0],λρ o G hl=>?_⟩;have e0:=hl 0 ak;have e1:=hl 1 ak;have e3:=hl 3 ak;have bb:=pC (iT hc hp) hr;have et:ah ρ (tS o k g.c.tu)= .tup [.int (eU z0), .int (cv z0 (pv z0 r))]:=by
   rw[oi hp,bS,ae,ae];rw[show ρ.int (24+o)=_ from(hl 2 ak),show ρ.int (23+o)=_ from e1];rfl
  refine⟨by rw[A0 hp,ae];exact YV V.int e0,et,λq hq=>?_,?_,?_,mz ?_ ?_ ?_⟩
  ·rw[BK hp]at hq;rw[YR.mp hq];rw[oi hp]at et;exact rM hc G hp hr e0 et
  ·(refine((Ce (iU hp).1).1).symm ▸?_);nofun
  ·(refine((Ce (iU hp).1).2).symm ▸?_);nofun
  ·rw[show ρ.int (22+o)=_ from e0];exact⟨bb.1,bb.2.1⟩
  ·rw[show ρ.int (23+o)=_ from e1];exact⟨bb.2.2.1,bb.2.2.2⟩
  ·rw[show ρ.int (25+o)=_ from e3];exact⟨ZN 0,by show(0:Int)<=100;decide⟩
 |ref hr _=>
  exact absurd hk ((show∀k∈ [12,13,14,15],k∉gG from by decide) k hr)
 |q hq _=>
  have:=(show∀k∈gG,k≠7/\k≠8/\k≠9/\k≠10/\k≠11 from by decide) k hk;simp only[YS,Zv,Y2,Zl]at hq;rcases hq with q|q|q|q|q
  ·exact absurd q.1 this.1
  ·exact absurd q.1 this.2.1
  ·exact absurd q.1 this.2.2.1
  ·exact absurd q.1 this.2.2.2.1
  ·exact absurd q.1 this.2.2.2.2
 |g ht=>
  (refine aZ (ht.pl_inv ak) λr hr e q4=>?_;subst q4)
  (refine(e).symm ▸?_)
  refine⟨[pv 0 r,cv 0 (pv 0 r)],λρ o G hl=>?_⟩;have e0:=hl 0 ak;have e1:=hl 1 ak;have e3:=hl 3 ak;have bb:=pC (iT hc (show 0∈eT by decide)) hr;refine⟨?_,?_,λq hq=>?_,J,J,mz ?_ ?_ ?_⟩
  ·simp only[vS,iE,dO,c7,ae];rw[show ρ.int (22+o)=_ from e0];rfl
  ·simp only[tS,iE,dO,c7,ae,au G,bS];rw[show ρ.int (23+o)=_ from e1];rfl
  ·rw[YR.mp hq];refine rM hc G (show 0∈eT by decide) hr e0 ?_;rw[bS,au G,ae,show ρ.int (23+o)=_ from e1];rfl
  ·rw[show ρ.int (22+o)=_ from e0];exact⟨bb.1,bb.2.1⟩
  ·rw[show ρ.int (23+o)=_ from e1];exact⟨bb.2.2.1,bb.2.2.2⟩
  ·rw[show ρ.int (25+o)=_ from e3];exact⟨ZN 0,by show(0:Int)<=100;decide⟩
 |h ht=>
  (refine aZ (ht.pl_inv ak) λr hr e q4=>?_;subst q4)
  (refine(e).symm ▸?_)
  refine⟨[pv 2 r,cv 2 (pv 2 r)],λρ o G hl=>?_⟩;have e0:=hl 0 ak;have e1:=hl 1 ak;have e3:=hl 3 ak;have bb:=pC (iT hc (show 2∈eT by decide)) hr;refine⟨?_,?_,λq hq=>?_,J,J,mz ?_ ?_ ?_⟩
  ·simp only[vS,iE,Lb,Lc,dO,c7,ae];rw[show ρ.int (22+o)=_ from e0];rfl
  ·simp only[tS,IP,LR,lP,Ev,IO,iE,uv,LQ,Lb,Lc,dO,c7,ae,au G,bS];rw[show ρ.int (23+o)=_ from e1];rfl
  ·rw[YR.mp hq];refine rM hc G (show 2∈eT by decide) hr e0 ?_;rw[bS,au G,ae,show ρ.int (23+o)=_ from e1];rfl
  ·rw[show ρ.int (22+o)=_ from e0];exact⟨bb.1,bb.2.1⟩
  ·rw[show ρ.int (23+o)=_ from e1];exact⟨bb.2.2.1,bb.2.2.2⟩
  ·rw[show ρ.int (25+o)=_ from e3];exact⟨ZN 0,by show(0:Int)<=100;decide⟩
 |s hr ha hu=>
  rename_i r i a u tu
  (refine cY (hu.q_inv (k':=17) rfl) λb w t1 q4 q5 hw=>?_;subst q4;subst q5)
  (refine aZ (hw.pl_inv ak) λr' rl q3 q4=>?_;subst q3;subst q4)
  obtain⟨z,rfl⟩:=te ha;have hi:=bk ha;rw[dF]at hi;refine⟨[pv 0 r,0,0,i,b,pv 17 r',z,cv 17 (pv 17 r')],λρ o G hl=>?_⟩;have e5:ρ.int (27+o)=pv 17 r':=hl 5 ak;have e6:ρ.int (28+o)=z:=hl 6 ak;have e7:ρ.int (29+o)=cv 17 (pv 17 r'):=hl 7 ak;have bb:=pC (iT hc (show 0∈eT by decide)) hr;refine⟨?_,?_,λq hq=>?_,λq hq=>?_,λq hq=>?_,mz ?_ ?_ ?_⟩
  ·simp only[vS,IP,LR,lP,Ev,IO,iE,uv,LQ,Lb,Lc,dO,c7,ae,bS,(hl 0 ak),(show ρ.int (25+o)=(i:Int)from hl 3 ak),(hl 4 ak),e5];rfl
  ·simp only[tS,IP,LR,lP,Ev,IO,iE,uv,LQ,Lb,Lc,dO,c7,ae,au G,bS,eP G,(hl 0 ak),(hl 4 ak),e6,e7];rfl
  ·rw[YR.mp hq];refine rM hc G (show 17∈eT by decide) rl e5 ?_;rw[bS,au G,ae,e7];rfl
  ·rw[YR.mp hq];exact vg G hN (show ρ.int (25+o)=(i:Int)from hl 3 ak) hi
  ·rw[YR.mp hq];exact vC G hN (show ρ.int (25+o)=(i:Int)from hl 3 ak) e6 ha
  ·rw[(hl 0 ak)];exact⟨bb.1,bb.2.1⟩
  ·rw[(show ρ.int (23+o)=0 from hl 1 ak)];decide
  ·rw[(show ρ.int (25+o)=(i:Int)from hl 3 ak)];exact Q0 hi hN
end
theorem lM{g:Gh}(h:i<g.N):∃a,nth g.addrsL i=some a:=by
 rw[cN];rw[<-dF g]at h;exact⟨_,ZY h⟩
theorem Jx(h:eB g.c g.N k v):∃t,cj g k v t:=by
 induction h with
 |pl hk hr=>exact(iP _ (.pl hk hr))
 |ref hk hi=>obtain⟨a,ha⟩:=lM hi;exact(iP _ (.ref hk ha))
 |s hr hi hb rl=>obtain⟨a,ha⟩:=lM hi;exact(iP _ (.s hr ha (.q (k':=17) ak (.pl ak rl))))
 |g hr=>exact⟨_, .g (.pl ak hr)⟩
 |h hr=>exact⟨_, .h (.pl ak hr)⟩
 |q hk hb _ ih=>obtain⟨t,ht⟩:=ih;exact(iP _ (.q hk ht))
structure rp(g g':Gh):Prop where
 c:g'.c=g.c
 sc:g'.sc=g.sc
 at_:g'.at_=g.at_
 ts:g'.ts=25
 siz:g'.bx.length+g'.ce.length<=g.bx.length+g.ce.length+1
 mon:g.bx.length<=g'.bx.length
def o9(l:List Int)(x:Nat):Int:=lg l (x - 20)
theorem rN(h:k≠4)(a b:Bool):tS o k a=tS o k b:=by
 unfold tS;split
 ·exact absurd rfl h
 all_goals rfl
section
variable{g:Gh}{σ σ':St}{X:Nat->Int}{Y:Nat->V}{I:Nat->Nat->Nat}
theorem fK(h:q=true->tu=g.c.tu):ah (Z g σ X Y I) (nl q tu)= .bool g.c.tu:=by
 cases q with
 |true=>(refine(h rfl) ▸?_);rfl
 |false=>rfl
theorem KD(h:tu=g.c.tu):aC (Z g σ X Y I) (.dict none 2 ([23,24,25,26,27].map λ(i:Nat)=>(cS i,IS tu i)))=aC (Z g σ X Y I) (.dict none 2 [((.int 0 23),(.any 23)),((.int 0 24),(.any 24)),((.int 0 25),(.any 25)),((.int 0 26),(.any 26)),((.int 0 27),(.any 27))]):=by
 have G:=bj g σ X Y I;have d:∀i,i∈ [23,24,25,26,27]->ah (Z g σ X Y I) (IS tu i)=ah (Z g σ X Y I) (.any i):=by
  intro i hi;simp only[YS,Y2,Zl]at hi;rw[h];rcases hi with rfl|rfl|rfl|rfl|rfl<;>simp only[IS,eP G,bS,ae,iE,dO,c7]<;>rfl
 simp only[aC,gI,c9,Y5,d 23 ak,d 24 ak,d 25 ak,d 26 ak,d 27 ak];rfl
theorem gn(h:Inv g σ)(ht:q=true->tu=g.c.tu):iM (GW q tu)=true/\∀p∈GW q tu,∀r∈p.2,nth (σ.heap p.1) ((Z g σ X Y I).ix p.1 r.1)=some (aC (Z g σ X Y I) r.2):=by
 cases q with
 |false=>exact⟨rfl,J⟩
 |true=>
  refine⟨by cases tu<;>decide+kernel,λp hp r hr=>?_⟩;simp only[GW,qE,YS,Y2,Zl]at hp;rcases hp with rfl|rfl|rfl
  ·(refine(YR.mp hr).symm ▸?_)
   refine h.rows.trans (YV some ?_);unfold EN pf
   (refine((ht rfl)) ▸?_)
   cases tu<;>rfl
  ·(refine U (Zj.mp hr) λi hi q3=>?_;subst q3)
   have TO:=by
    exact(show∀i∈ [0,1,2,3,4],i<5 from by decide) i hi
   have e:=h.rowd i TO;unfold pf AE at e;rw[<-(ht rfl)]at e;have hx:∀s,s=51\/s=52->(Z g σ X Y I).ix s i=i:=by
    intro s hs;show(if 1000<=i then _ else _)=_;rw[Zs (zaC.mpr (Y9 TO ak))];rcases hs with rfl|rfl<;>rfl
   cases tu with
   |true=>show nth (σ.heap 51) ((Z g σ X Y I).ix 51 i)=_;rw[hx 51 (.inl rfl)];exact e
   |false=>show nth (σ.heap 52) ((Z g σ X Y I).ix 52 i)=_;rw[hx 52 (.inr rfl)];exact e
  ·rw[YR.mp hr]
   refine(h.ent (by
    rcases h.tsv with e|e<;>rw[e]<;>rfl)).trans (YV some ?_)
   exact(KD (ht rfl)).symm
theorem dD(ha:iM a=true/\∀p∈a,∀r∈p.2,nth (σ.heap p.1) ((Z g σ X Y I).ix p.1 r.1)=some (aC (Z g σ X Y I) r.2))(hb:iM b=true/\∀p∈b,∀r∈p.2,nth (σ.heap p.1) ((Z g σ X Y I).ix p.1 r.1)=some (aC (Z g σ X Y I) r.2)):iM (a++b)=true/\∀p∈a++b,∀r∈p.2,nth (σ.heap p.1) ((Z g σ X Y I).ix p.1 r.1)=some (aC (Z g σ X Y I) r.2):=by
 refine⟨by rw[eo,ha.1,hb.1];rfl,λp hp=>?_⟩;refine(Y8.mp hp).elim (λhp=>?_) λhp=>?_
 ·exact ha.2 p hp
 ·exact hb.2 p hp
theorem uT(h:Inv g σ)(eD:ah (Z g σ X Y I) tu= .bool g.c.tu)(R:AA (Z g σ X Y I) (lu tu f) σ σ' yn uG)(hp:∀q∈post (GX la) tu,q∈yn)(EE:ah (Z g σ X Y I) la= .tup [.str (aT lk),lv])(las:lk<25/\eB g.c g.N lk lv)(k8:∀i o,nth (σ.heap 8) i=some o->nth (σ'.heap 8) i=some o)(uD:∀i o,nth (σ.heap 12) i=some o->nth (σ'.heap 12) i=some o):∃g',Inv g' σ'/\rp g g':=by
 have cn:=λs hs IL=>(R.cn (s,0) hs (wN IL)).trans (Nat.add_zero _);refine⟨g.up σ g.bx g.ce (g.n+0) lk lv,h.next eD (p:=GX la) ⟨?_,?_,?_,?_,?_,?_,?_,rfl,rfl,EE⟩ R hp ?_ ?_ ?_ ?_ (λi b hb=>?_) (λb hb=>?_) h.cq h.dist h.cnt h.siz las,rfl,rfl,rfl,rfl,Zy _,Zd _⟩
 ·exact(Zb _).symm
 ·exact(Zb _).symm
 ·exact(Zb _).symm
 ·exact(Zb _).symm
 ·exact(Zb _).symm
 ·exact(Zb _).symm
 ·exact(Zb _).symm
 ·rw[cn 4 ak ak];exact h.l4
 ·rw[cn 8 ak ak];exact h.l8
 ·rw[cn 9 ak ak];exact h.l9
 ·rw[cn 12 ak ak];exact h.l12
 ·exact(h.box i b hb).mono (g':=g.up σ g.bx g.ce (g.n+0) lk lv) rfl (Zd _) (λ_ _ h=>h) (Zd _) (R.ro 4 (fv rfl ak ak)) (k8 i) (R.ro 9 (fv rfl ak ak)) (uD _)
 ·exact(h.cell b hb).mono (g':=g.up σ g.bx g.ce (g.n+0) lk lv) rfl (Zd _) (λ_ _ h=>h) (Zd _) (R.ro 9 (fv rfl ak ak)) (uD _)
end
theorem Da:∀{l:List (V×V)},aO x l=none->eW x v l=l++ [(x,v)]:=by
 intro l
 induction l with
 |nil=>intro _;exact rfl
 |cons q_ l ih=>
  intro h;rw[bC]at h;refine cX (q_.1.beq x) (λe=>?_) λe=>?_
  ·rw[e]at h;cases h
  ·
   rw[e]at h;show(match q_.1.beq x with|true=>(q_.1,v)::l|false=>(q_.1,q_.2)::eW x v l)=_
   (refine(e).symm ▸?_;refine(ih h).symm ▸?_);rfl
theorem zu:∀l:List Nat,(∀i∈l,i<th)->aO (.int (Gh.adr th)) (l.map λ(i:Nat)=>((.int (Gh.adr i), .obj 9 i):V×V))=none:=by
 intro l
 induction l with
 |nil=>intro _;rfl
 |cons a l ih=>
  intro hl;rw[Y5,bC,ih λi hi=>hl i (.tail _ hi)];have ha:=hl a (.head _);rw[iX (λe=>by exact Z3 ha (Ut (V.int.inj e)))];rfl
theorem Cg(g:Gh):(List.range (g.n+1)).map (λ(i:Nat)=>((.int (Gh.adr i), .obj 9 i):V×V))=eW (.int (Gh.adr g.n)) (.obj 9 g.n) g.hatL:=by
 rw[show g.hatL=(List.range g.n).map (λ(i:Nat)=>((.int (Gh.adr i), .obj 9 i):V×V))from rfl,(Da (v:= .obj 9 g.n) (zu (th:=g.n) (List.range g.n) λi hi=>zbb.mp hi)),zax,Y6];rfl
set_option tactic.hygienic true in
theorem Dm(h:nth (l++ [b]) i=some c):nth l i=some c\/(i=l.length/\c=b):=by
 rw[cN]at h⊢;rw[List.getElem?_append]at h;split at h
 ·exact .inl h
 ·rename_i hi;cases e:i - l.length with
  |zero=>rw[e]at h;simp at h;exact .inr ⟨Nat.le_antisymm (Nat.le_of_sub_eq_zero e) (Nat.le_of_not_lt hi),h.symm⟩
  |succ n=>rw[e]at h;simp at h
section
variable{g:Gh}{σ σ':St}{X:Nat->Int}{Y:Nat->V}{I:Nat->Nat->Nat}
theorem dC(s j:Nat):(Z g σ X Y I).ix s (1000+j)=(σ.heap s).length+j:=P5 s j
theorem mY{b:Bx}(hb:b.th=n)(h:(l.map λb=>b.th).Nodup)(hl:∀x∈l,x.th<n):((l++ [b]).map λb=>b.th).Nodup:=by
 rw[Y6,Zi];refine(gA h (by simp) ?_);intro a ha c hc
 (refine U (Zj.mp ha) λx hx q3=>?_;subst q3)
 have:=hl x hx;rw[Y5,List.map_nil,YR]at hc;rw[hc,hb];exact Z3 this
theorem qg(h:a∈l):∃i,nth l i=some a:=by
 refine eX (List.mem_iff_getElem?.mp h) λi hi=>?_;exact⟨i,by rw[cN];exact hi⟩
theorem Hp(h:Inv g σ)(hx:x∈g.bx++g.ce):x.th<g.n:=by
 rcases Y8.mp hx with hx|hx
 ·refine eX (qg hx) λi hi=>?_;exact(h.box i x hi).rng.2
 ·exact(h.cell x hx).rng.2
theorem R7(h:Inv g σ)(hsz:g.bx.length+g.ce.length<=59){tu vs ts:SV}(eD:ah (Z g σ X Y I) tu= .bool g.c.tu)(R:AA (Z g σ X Y I) (lu tu f) σ σ' (post (PS k vs) tu++I4 k vs ts) QW)(hk:k∈gG)(hv:eB g.c g.N k v)(ht:cj g k v t)(ev:ah (Z g σ X Y I) vs=v)(et:ah (Z g σ X Y I) ts=t)(k8:∀i o,nth (σ.heap 8) i=some o->nth (σ'.heap 8) i=some o)(uD:∀i o,nth (σ.heap 12) i=some o->nth (σ'.heap 12) i=some o):∃g',Inv g' σ'/\rp g g'/\g'.n=g.n+1/\g'.bx.length=g.bx.length+1:=by
 have cn:∀s,(s,1)∈QW->s≠18->(σ'.heap s).length=(σ.heap s).length+1:=λs hs IL=>R.cn (s,1) hs (wN IL)
 let z1:=g.bx++ [⟨k,v,g.n⟩]
 let z0:=g.up σ z1 g.ce (g.n+1) g.lk g.lv
 have IJ:z0.N=g.N+1:=by
  show 4+(g.bx++ [_]).length=_;rw[Zg,(show g.N=4+g.bx.length from rfl)];exact(ZF _ _ _).symm
 have P:∀{s j:Nat} {o:SO} {l},(s,l)∈I4 k vs ts->(j,o)∈l->nth (σ'.heap s) ((Z g σ X Y I).ix s j)=some (aC (Z g σ X Y I) o):=λh1 h2=>R.at_ _ (Y0 _ h1) _ h2;have ad:z0.addrsL=g.addrsL++ [.int (Gh.adr g.n)]:=by
  show _++(g.bx++ [_]).map _=_;rw[Y6,<-zad];rfl
 have ha:∀i a,nth g.addrsL i=some a->nth z0.addrsL i=some a:=λi a e=>by rw[ad];exact eN _ e
 have G:=bj g σ X Y I;refine(AW z0 (h.next eD (p:=PS k vs) ⟨?_,?_,?_,?_,?_,?_,?_,?_,rfl,rfl⟩ R (λq hq=>YQ _ hq) ?_ ?_ ?_ ?_ (λi b hb=>?_) (λb hb=>?_) h.cq ?_ ?_ ?_ ⟨h.las.1,h.las.2.mono (by rw[Zg,(show g.N=4+g.bx.length from rfl)];exact Zy _)⟩) ⟨rfl,rfl,rfl,rfl,?_,by show g.bx.length<=(g.bx++ [_]).length;rw[Zg];exact Zy _⟩ rfl ?_)
 ·show _++(g.bx++ [_]).map _=g.exactL++_;rw[Y6,<-zad];rfl
 ·show _++(g.bx++ [_]).map _=g.heldL++ [ah _ vs];rw[Y6,<-zad,ev];rfl
 ·unfold Gh.itemsL;rw[IJ,zax,Y6];show _=g.itemsL++ [ah _ (iS 2)];rw[ae];rfl
 ·rw[ad];show _=g.addrsL++ [ah _ (iS 3)];rw[ae];rfl
 ·exact(Zb _).symm
 ·show V.none::(List.range (3+(g.bx++ [_]).length)).map _=g.thingsL++ [V.obj 4 ((Z g σ X Y I).ix 4 1000)];rw[Zg,(show(Z g σ X Y I).ix 4 1000=g.bx.length+3 from(dC 4 0).trans (h.l4.trans (Zz ..)))];show V.none::(List.range (3+g.bx.length+1)).map _=_;rw[zax,Y6,show 3+g.bx.length=g.bx.length+3 by exact Zz _ _];unfold Gh.thingsL;rw[ZD,show 3+g.bx.length=g.bx.length+3 by exact Zz _ _];rfl
 ·show(List.range (g.n+1)).map _=g.hthL++ [V.obj 9 ((Z g σ X Y I).ix 9 1000)];rw[zax,Y6,((dC 9 0).trans h.l9)];rfl
 ·show(List.range (g.n+1)).map _=eW (ah _ (iS 3)) (V.obj 9 ((Z g σ X Y I).ix 9 1000)) g.hatL;rw[ae,((dC 9 0).trans h.l9)];exact Cg g
 ·rw[cn 4 ak ak,h.l4,Zg];rfl
 ·rw[cn 8 ak ak,h.l8,Zg];rfl
 ·rw[cn 9 ak ak,h.l9]
 ·exact(YV (·+3) (cn 12 ak ak)).trans (YV (·+1) h.l12)
 ·rcases Dm hb with hb|⟨rfl,rfl⟩
  ·exact(h.box i b hb).mono (g':=g.up σ z1 g.ce (g.n+1) g.lk g.lv) rfl (by rw[IJ];exact Zy _) ha (Zy _) (R.ro 4 (fv rfl ak ak)) (k8 i) (R.ro 9 (fv rfl ak ak)) (uD _)
  ·have e4:=P (s:=4) (j:=1000) (.head _) (.head _);have e8:=P (s:=8) (j:=1000) (.tail _ (.head _)) (.head _);have e9:=P (s:=9) (j:=1000) (.tail _ (.tail _ (.head _))) (.head _);have Af:=P (s:=12) (j:=1000) (.tail _ (.tail _ (.tail _ (.head _)))) (.head _);rw[(show(Z g σ X Y I).ix 4 1000=g.bx.length+3 from(dC 4 0).trans (h.l4.trans (Zz ..)))]at e4;rw[((dC 8 0).trans h.l8)]at e8;rw[((dC 9 0).trans h.l9)]at e9;rw[(show(Z g σ X Y I).ix 12 1000=g.n - 3 from(dC 12 0).trans (zbB h.l12))]at Af;refine {val:=hv.mono (by rw[IJ];exact Zy _),thing:=⟨.int ((Z g σ X Y I).int 4+1),e9.trans (YV some ?_)⟩,ts:=(al t (cj.mono (g:=g) (g':=g.up σ z1 g.ce (g.n+1) g.lk g.lv) rfl ha ht) (Af.trans ?_)),rng:=⟨n3 h.cnt,zaL _⟩,nm:=hk,item:=⟨.obj 81 ((Z g σ X Y I).ix 81 1000),e4.trans (YV some ?_)⟩,sl:=e8.trans ?_}
   ·simp only[GU,aC,bF,lP,uv,(show(Z g σ X Y I).ix 12 1000=g.n - 3 from(dC 12 0).trans (zbB h.l12)),G.z,ZA];rfl
   ·simp only[aC,eC,dO,c7,ZG,et]
   ·simp only[Pf,aC,bF,IP,lP,uv,((dC 8 0).trans h.l8),G.z,ZA,ae];rw[show(Z g σ X Y I).int 2=(g.bx.length:Int)+4 from by show(g.N:Int)=_;exact zaJ 4 g.bx.length]
   ·simp only[aC,eC,dO,c7,ZG,ev]
 ·exact(h.cell b hb).mono (g':=g.up σ z1 g.ce (g.n+1) g.lk g.lv) rfl (by rw[IJ];exact Zy _) ha (Zy _) (R.ro 9 (fv rfl ak ak)) (uD _)
 ·have nd:=mY (b:=⟨k,v,g.n⟩) rfl h.dist λx hx=>Hp h hx;have:List.Perm ((g.bx++ [(⟨k,v,g.n⟩:Bx)]++g.ce).map λ(b:Bx)=>b.th) ((g.bx++g.ce++ [(⟨k,v,g.n⟩:Bx)]).map λ(b:Bx)=>b.th):=by
   refine List.Perm.map _ ?_;rw[zad,zad];exact List.Perm.append_left _ List.perm_append_comm
  exact this.nodup_iff.mpr nd
 ·rw[Zg];exact(YV (·+1) h.cnt).trans (ZQ (3+g.bx.length) _ 1)
 ·rw[Zg];exact YU (zal (ZQ _ 1 _)) (ZC hsz)
 ·show(g.bx++ [_]).length+g.ce.length<=_;rw[Zg];exact zal (ZQ _ 1 _)
 ·show(g.bx++ [_]).length=_;rw[Zg];rfl
end
theorem ey(f:α->β)(b:α):∀(l:List α) (i:Nat),(setNth b l i).map f=setNth (f b) (l.map f) i
 | [],_=>rfl
 |a::l,0=>rfl
 |a::l,i+1=>YV (f a::·) (ey f b l i)
theorem ie:∀{l:List α} {i:Nat},nth l i=some a->setNth a l i=l
 | [],_,h=>by cases h
 |b::l,0,h=>by obtain rfl:=YZ h;rfl
 |b::l,i+1,h=>YV (b::·) (ie (l:=l) (i:=i) h)
theorem vJ(b:α):∀(p l:List α) (i:Nat),setNth b (p++l) (p.length+i)=p++setNth b l i:=by
 intro p
 induction p with
 |nil=>intro l i;rw[ZG,zbA,zbq];rfl
 |cons a p ih=>
  intro l i;rw[ZD,zbn,Nat.succ_add];exact YV (a::·) (ih l i)
section
variable{g:Gh}{σ σ':St}{X:Nat->Int}{Y:Nat->V}{I:Nat->Nat->Nat}
theorem R6(h:Inv g σ)(hsz:g.bx.length+g.ce.length<=59){tu vs ts la:SV}{f:Fs}{yn:bu}{k lk:Nat}{v t lv:V}(eD:ah (Z g σ X Y I) tu= .bool g.c.tu)(R:AA (Z g σ X Y I) (lu tu f) σ σ' yn QV)(W8:∀q∈post (PR k vs la) tu,q∈yn)(W0:∀q∈I3 k ts,q∈yn)(hk:k∈ [7,8,9,10,11])(hv:eB g.c g.N k v)(ht:cj g k v t)(ev:ah (Z g σ X Y I) vs=v)(et:ah (Z g σ X Y I) ts=t)(EE:ah (Z g σ X Y I) la= .tup [.str (aT lk),lv])(las:lk<25/\eB g.c g.N lk lv)(k8:∀i o,nth (σ.heap 8) i=some o->nth (σ'.heap 8) i=some o)(uD:∀i o,nth (σ.heap 12) i=some o->nth (σ'.heap 12) i=some o):∃g',Inv g' σ'/\rp g g':=by
 have cn:∀s d,(s,d)∈QV->s≠18->(σ'.heap s).length=(σ.heap s).length+d:=λs d hs IL=>R.cn (s,d) hs (wN IL);have P:∀{s j:Nat} {o:SO} {l},(s,l)∈I3 k ts->(j,o)∈l->nth (σ'.heap s) ((Z g σ X Y I).ix s j)=some (aC (Z g σ X Y I) o):=λh1 h2=>R.at_ _ (W0 _ h1) _ h2;have LC:(Z g σ X Y I).ix 12 1000=g.n - 3:=(dC 12 0).trans (zbB h.l12);have hc:=h.cnt
 let z0:=g.ce++ [⟨k,v,g.n⟩]
 refine⟨g.up σ g.bx z0 (g.n+1) lk lv,h.next eD (p:=PR k vs la) ⟨?_,?_,?_,?_,?_,?_,?_,?_,rfl,EE⟩ R W8 ?_ ?_ ?_ ?_ (λi b hb=>?_) (λb hb=>?_) (λb hb=>by
  rcases Y8.mp hb with hb|hb
  ·exact h.cq b hb
  ·(refine(YR.mp hb).symm ▸?_);exact hk) ?_ ?_ ?_ las,rfl,rfl,rfl,rfl,?_,Zd _⟩
 ·exact(Zb _).symm
 ·exact(Zb _).symm
 ·exact(Zb _).symm
 ·exact(Zb _).symm
 ·show(g.ce++ [_]).map _=g.cellsL++ [V.tup [ah _ (iS 3),V.str (aT k),ah _ vs]];rw[Y6,ae,ev];rfl
 ·exact(Zb _).symm
 ·show(List.range (g.n+1)).map _=g.hthL++ [V.obj 9 ((Z g σ X Y I).ix 9 1000)];rw[zax,Y6,((dC 9 0).trans h.l9)];rfl
 ·show(List.range (g.n+1)).map _=eW (ah _ (iS 3)) (V.obj 9 ((Z g σ X Y I).ix 9 1000)) g.hatL;rw[ae,((dC 9 0).trans h.l9)];exact Cg g
 ·rw[cn 4 0 ak ak];exact h.l4
 ·rw[cn 8 0 ak ak];exact h.l8
 ·rw[cn 9 1 ak ak,h.l9]
 ·exact(YV (·+3) (cn 12 1 ak ak)).trans (YV (·+1) h.l12)
 ·exact(h.box i b hb).mono (g':=g.up σ g.bx z0 (g.n+1) lk lv) rfl (Zd _) (λ_ _ h=>h) (Zy _) (R.ro 4 (fv rfl ak ak)) (k8 i) (R.ro 9 (fv rfl ak ak)) (uD _)
 ·rcases Y8.mp hb with hb|hb
  ·exact(h.cell b hb).mono (g':=g.up σ g.bx z0 (g.n+1) lk lv) rfl (Zd _) (λ_ _ h=>h) (Zy _) (R.ro 9 (fv rfl ak ak)) (uD _)
  ·(refine(YR.mp hb).symm ▸?_)
   have e9:=P (s:=9) (j:=1000) (.head _) (.head _);have Af:=P (s:=12) (j:=1000) (.tail _ (.head _)) (.head _);rw[((dC 9 0).trans h.l9)]at e9;rw[LC]at Af;refine {val:=hv,thing:=⟨.int ((Z g σ X Y I).int 4+1),e9.trans (YV some ?_)⟩,ts:=(al t (cj.mono (g:=g) (g':=g.up σ g.bx z0 (g.n+1) lk lv) rfl (λ_ _ h=>h) ht) (Af.trans ?_)),rng:=⟨n3 hc,zaL _⟩}
   ·simp only[GU,aC,bF,lP,uv,LC,(bj g σ X Y I).z,ZA];rfl
   ·simp only[aC,eC,dO,c7,ZG,et]
 ·rw[<-zad];exact mY (b:=⟨k,v,g.n⟩) rfl h.dist λx hx=>Hp h hx
 ·rw[Zg];exact YV (·+1) hc
 ·rw[Zg];exact zap ‹_›
 ·show g.bx.length+(g.ce++ [_]).length<=_;rw[Zg];exact Zd _
theorem R5(h:Inv g σ){tu vs ts la:SV}{b:Bx}(eD:ah (Z g σ X Y I) tu= .bool g.c.tu)(R:AA (Z g σ X Y I) (lu tu f) σ σ' (post (Iu vs la) tu++rF vs ts) uG)(hb:nth g.bx i=some b)(QH:(Z g σ X Y I).int 20=(i:Int)+4)(i8:(Z g σ X Y I).ix 8 0=i)(LC:(Z g σ X Y I).ix 12 0=b.th - 3)(hv:eB g.c g.N b.k v)(ht:cj g b.k v t)(ev:ah (Z g σ X Y I) vs=v)(et:ah (Z g σ X Y I) ts=t)(EE:ah (Z g σ X Y I) la= .tup [.str (aT lk),lv])(las:lk<25/\eB g.c g.N lk lv):∃g',Inv g' σ'/\rp g g':=by
 have k4:=R.ro 4 (fv rfl ak ak);have k9:=R.ro 9 (fv rfl ak ak);have uD:∀j,j≠b.th - 3->∀o,nth (σ.heap 12) j=some o->nth (σ'.heap 12) j=some o:=λj hj o ho=>R.fr 12 (.inr rfl) j o ho (by rw[LC];exactλe=>hj e.symm);have cn:=λs hs IL=>(R.cn (s,0) hs (wN IL)).trans (Nat.add_zero _);have P:∀{s j:Nat} {o:SO} {l},(s,l)∈rF vs ts->(j,o)∈l->nth (σ'.heap s) ((Z g σ X Y I).ix s j)=some (aC (Z g σ X Y I) o):=λh1 h2=>R.at_ _ (Y0 _ h1) _ h2;have e8:=P (s:=8) (j:=0) (.head _) (.head _);have Af:=P (s:=12) (j:=0) (.tail _ (.head _)) (.head _);rw[i8]at e8;rw[LC]at Af;have ef:(setNth (⟨b.k,v,b.th⟩:Bx) g.bx i).length=g.bx.length:=ia _ _ _
 let z0:=setNth ⟨b.k,v,b.th⟩ g.bx i
 let z2:=g.n+0
 let z1:=g.up σ z0 g.ce z2 lk lv
 have hN:z1.N=g.N:=by
  exact YV (4+·) ef
 have ad:z1.addrsL=g.addrsL:=by
  show _++(setNth (⟨b.k,v,b.th⟩:Bx) g.bx i).map (λb=>V.int (Gh.adr b.th))=_++g.bx.map (λb=>V.int (Gh.adr b.th));rw[ey,ie (by rw[cV,hb];rfl)]
 have ha:∀j a,nth g.addrsL j=some a->nth z1.addrsL j=some a:=λj a e=>by rw[ad];exact e
 have hB:=h.box i b hb;have je:∀{j c},nth (g.bx++g.ce) j=some c->j≠i->c.th - 3≠b.th - 3:=by
  intro j c hj ut e;have Xw:3<=c.th:=by
   rcases Y8.mp (show c∈g.bx++g.ce from by rw[cN]at hj;exact List.mem_of_getElem? hj)with hx|hx
   ·obtain⟨q,hq⟩:=qg hx;exact(h.box q c hq).rng.1
   ·exact(h.cell c hx).rng.1
  have QB:=hB.rng.1;have e:c.th=b.th:=(zab Xw).symm.trans ((YV (·+3) e).trans (zab QB));have hi:nth (g.bx++g.ce) i=some b:=eN _ hb;refine ut ((List.getElem?_inj (by rw[Zu];exact bk hj) h.dist).mp ?_);rw[<-cN,<-cN,cV,cV,hj,hi,Option.map_some,Option.map_some,e]
 refine⟨g.up σ z0 g.ce z2 lk lv,h.next eD (p:=Iu vs la) ⟨?_,?_,?_,?_,?_,?_,?_,rfl,rfl,EE⟩ R (λq hq=>YQ _ hq) ?_ ?_ ?_ ?_ (λj c hc=>?_) (λc hc=>?_) h.cq ?_ ?_ ?_ ⟨las.1,by rw[ef];exact las.2⟩,rfl,rfl,rfl,rfl,?_,zal ef.symm⟩
 ·rw[show ax (Z g σ X Y I) (Iu vs la).ex= []from rfl,Zb];show _++(setNth (⟨b.k,v,b.th⟩:Bx) g.bx i).map (λb=>V.str (aT b.k))=_++g.bx.map (λb=>V.str (aT b.k));rw[ey,ie (by rw[cV,hb];rfl)]
 ·show _=setNth (ah _ vs) g.heldL (Be (ah _ (iS 20)))++ [];rw[Zb,ae,QH,ev];show _++(setNth (⟨b.k,v,b.th⟩:Bx) g.bx i).map (λb=>b.v)=setNth v g.heldL ((i:Int)+4).toNat;rw[ey,show((i:Int)+4).toNat=([V.none, .none, .none, .none]:List V).length+i by exact Zz _ _];exact(vJ _ _ _ _).symm
 ·rw[show ax (Z g σ X Y I) (Iu vs la).it= []from rfl,Zb];unfold Gh.itemsL;rw[hN];rfl
 ·rw[show ax (Z g σ X Y I) (Iu vs la).ad= []from rfl,Zb,ad];rfl
 ·exact(Zb _).symm
 ·rw[show ax (Z g σ X Y I) (Iu vs la).ev= []from rfl,Zb];show V.none::(List.range (3+(setNth (⟨b.k,v,b.th⟩:Bx) g.bx i).length)).map _=_;rw[ef];rfl
 ·exact(Zb _).symm
 ·rw[cn 4 ak ak,ef];exact h.l4
 ·rw[cn 8 ak ak,ef];exact h.l8
 ·rw[cn 9 ak ak];exact h.l9
 ·rw[cn 12 ak ak];exact h.l12
 ·by_cases e:j=i
  ·subst e;rw[gm _ hb]at hc;obtain rfl:=YZ hc;refine {val:=by rw[hN];exact hv,thing:=let ⟨se,q⟩:=hB.thing;⟨se,k9 _ _ q⟩,ts:=(al t (cj.mono (g:=g) (g':=g.up σ (setNth ⟨b.k,v,b.th⟩ g.bx j) g.ce z2 lk lv) rfl ha ht) (Af.trans ?_)),rng:=hB.rng,nm:=hB.nm,item:=let ⟨r,q⟩:=hB.item;⟨r,k4 _ _ q⟩,sl:=e8.trans ?_}
   ·simp only[aC,eC,dO,c7,ZG,et]
   ·simp only[aC,eC,dO,c7,ZG,ev]
  ·rw[eu _ (zak e)]at hc;exact(h.box j c hc).mono (g':=g.up σ z0 g.ce z2 lk lv) rfl (by rw[hN];exact Zd _) ha (Zd _) k4 ((show∀j,j≠i->∀o,nth (σ.heap 8) j=some o->nth (σ'.heap 8) j=some o fromλj hj o ho=>R.fr 8 (.inl rfl) j o ho (by rw[i8];exactλe=>hj e.symm)) j e) k9 (uD _ (je (eN _ hc) e))
 ·obtain⟨j,hj⟩:=qg hc;have hi:=bk hb;exact(h.cell c hc).mono (g':=g.up σ z0 g.ce z2 lk lv) rfl (by rw[hN];exact Zd _) ha (Zd _) k9 (uD _ (je (by rw[b7];exact hj) (ZP (zas j hi))))
 ·rw[Y6,(show(setNth (⟨b.k,v,b.th⟩:Bx) g.bx i).map (λb=>b.th)=g.bx.map λb=>b.th from by
  rw[ey];exact ie (by rw[cV,hb];rfl)),<-Y6];exact h.dist
 ·rw[ef];exact h.cnt
 ·rw[ef];exact h.siz
 ·show(setNth (⟨b.k,v,b.th⟩:Bx) g.bx i).length+g.ce.length<=_;rw[ef];exact Zy _
end
def QZ(k:Nat):List BP:=(match(fg k).getD k with|1=>kJ|3=>kJ|_=> [0]).flatMap λp=>(match isQ k with|true=>bL|false=> [true]).flatMap λb=>(match isQ k||Nat.beq k 4 with|true=>bL|false=> [false]).map λtu=>⟨k,p,b,tu⟩
def QX(ks:List Nat):Bool:=ks.all λk=>(QZ k).all λx=>Lg 25 x
def Lw:List (List Nat):= [[0,1,2,3,4,5,6], [7,8,9,10,11,12], [13,14,15,16,17,18], [19,20,21,22,23,24]]
theorem lC:∀j,j<25->∃g∈Lw,j∈g:=by decide
theorem OJ:Lg 121 ⟨0,0,true,false⟩=true:=by decide+kernel
theorem OI:∀g∈ [[0,1,2,3,4,5,6], [7,9,10,11,12,13,14,15,16,17,18,19,20,21,22,23,24], [8]],QX g=true:=by
 repeat' first|exact J|refine ac ?_ ?_|decide+kernel
theorem MM:∀i∈ [0,1,2,3],∀g∈Lw,Ti i g=true/\Te i g=true:=by
 unfold Lw
 repeat' first|exact J|refine ac ?_ ?_|refine And.intro ?_ ?_|decide+kernel
theorem MN:∀k∈gG,∀g∈Lw,Tk [k] g=true/\Tf [k] g=true:=by
 unfold gG eT rh Lw
 repeat' first|exact J|refine ac ?_ ?_|refine And.intro ?_ ?_|decide+kernel
theorem Jg(hk:k<25){x:BP}(hx:x∈QZ k):Lg 25 x=true:=by
 have h:∀{ks:List Nat},QX ks=true->k∈ks->Lg 25 x=true:=by
  intro ks h hk;unfold QX at h;rw[YO]at h;have h:=h k hk;rw[YO]at h;exact h x hx
 refine U ((show∀k,k<25->∃g∈ [[0,1,2,3,4,5,6], [7,9,10,11,12,13,14,15,16,17,18,19,20,21,22,23,24], [8]],k∈g from by decide) k hk) λg hg m=>?_;exact h (OI g hg) m
section
variable{g:Gh}{σ:St}{X:Nat->Int}{Y:Nat->V}{I:Nat->Nat->Nat}
theorem hJ(h:9<=x):(Z g σ X Y I).int x=X x:=by
 obtain⟨k,rfl⟩:∃k,x=k+9:=⟨x - 9,(zab h).symm⟩;rfl
theorem J6:(Z g σ (o9 (l++l')) Y I).int (20+l.length+i)=lg l' i:=by
 rw[hJ (X8 ..)];unfold o9 lg;rw[show 20+l.length+i - 20=l.length+i from X7 ..,b7]
theorem JW(hp:p∈rh)(hr:r∈rL)(c:Cf):aJ (WS c) ip 22 56 [.int (iC p), .int (cv p (pv p r))] (.int (cv p (pv p r))):=(KE hp hr).weak λ_ _=>trivial
set_option tactic.hygienic true in
theorem vw(k:Nat):ah (Z g σ X Y I) (kS k)= .int (iC (aG g.c k)):=by
 unfold kS;split
 ·exact ae 6
 ·exact ae 7
 ·rename_i h1 h3
  rw[(show aG g.c k=k from by
   unfold aG;split
   ·exact absurd rfl h1
   ·exact absurd rfl h3
   ·rfl)];exact au (bj g σ X Y I) _
def GY(c:Cf)(e:Nat):Nat:=match rx e with|true=>aG c e|false=>0
theorem jy(h1:k≠1)(h3:k≠3):aG c k=k:=by
 unfold aG;split
 ·exact absurd rfl h1
 ·exact absurd rfl h3
 ·rfl
set_option tactic.hygienic true in
theorem MO{x:BP}(hc:g.c.ok)(hk:x.e∈gG)(hp:x.p=GY g.c x.e)(ht:x.e=4->x.tu=g.c.tu)(hT:cj g x.e v t)(O:VO g (Z g σ X Y I) 0 x.e v t):ah (Z g σ X Y I) x.t=t:=by
 have pl:x.e∈eT->ah (Z g σ X Y I) (dl (cS (eU (aG g.c x.e))) (iS 23))=t:=by
  intro h
  (refine aZ (hT.pl_inv h) λr hr q3 q4=>?_;subst q3;subst q4)
  have e:=O.t;rw[oi h,bS,ae,ae]at e;injection e with e;injection e with e1 e;injection e with e2 e;rw[bS,au (bj g σ X Y I),ae,e2]
 generalize he:x.e=e at*;unfold BP.t
 (refine(he).symm ▸?_)
 split
 ·have:=pl ak;rw[hp];exact this
 ·have:=pl ak;rw[hp];exact this
 ·rw[ht rfl];exact O.t
 ·exact(YV _ (rN ak _ _)).trans O.t
 ·exact(YV _ (rN ak _ _)).trans O.t
 ·rename_i h1 h3 h4 h5 h6
  have:=pl (by
   unfold gG at hk;simp only[YS]at hk;rcases hk with h|h|h|h
   ·exact absurd h h4
   ·exact absurd h h5
   ·exact absurd h h6
   ·exact h)
  rw[jy h1 h3]at this;exact this
set_option tactic.hygienic true in
theorem OO(hc:g.c.ok)(hr:aR x.k=false)(hk:x.e∈gG)(hp:x.p=GY g.c x.e)(ht:x.e=4->x.tu=g.c.tu)(hT:cj g x.e v t)(O:VO g (Z g σ X Y I) 0 x.e v t):fu g (Z g σ X Y I) (LO x) where
 bd p hq:=by
  rcases Y8.mp hq with hq|hq
  ·split at hq
   ·rename_i e;rw[YR.mp hq,hp,e];exact⟨ZN _,ZN _⟩
   ·rename_i e;rw[YR.mp hq,hp,e];exact⟨ZN _,ZN _⟩
   ·cases hq
  ·exact O.bd p hq
 i1:=J
 i2:=J
 i3 q hq:=by
  have hq:q∈(match aR x.k with|true=> [(iS 22,iS 22)]|false=>(cS 0,cS 0)::Ar 0 x.e):=hq;rw[hr]at hq;rcases YS.mp hq with rfl|hq
  ·exact(aM (0) rfl (Zh _) ((d8 (g:=g) (i:=0) (Lj ak)).trans rfl))
  ·exact O.i3 q hq
 i4 q hq:=by
  have hq:q∈(match aR x.k with|true=> [(iS 22,iS 28)]|false=>(cS 0,cS 0)::Aq 0 x.e):=hq;rw[hr]at hq;rcases YS.mp hq with rfl|hq
  ·exact(aM (0) rfl (Zh _) rfl)
  ·exact O.i4 q hq
 i6:=J
 d1:=J
 op:=J
 eq:=J
 tg q hq:=by
  have hq:q∈(match aR x.k with|true=> []|false=>(match x.e with|4=>uB 0 4|5=>uB 0 5|6=>uB 0 6|k=> [([w0,sN k,iS 22],x.t)])):=hq;have et:=MO hc hk hp ht hT O;rw[hr]at hq;generalize he:x.e=e at*;dsimp only at hq;split at hq
  ·exact O.tg q hq
  ·exact O.tg q hq
  ·exact O.tg q hq
  ·rename_i h4 h5 h6;have hm:e∈eT:=by
    unfold gG at hk;simp only[YS]at hk;rcases hk with h|h|h|h
    ·exact absurd h h4
    ·exact absurd h h5
    ·exact absurd h h6
    ·exact h
   have e1:=O.tg _ (by rw[BK hm];exact .head _);have e2:=O.t;rw[oi hm]at e2;rw[YR.mp hq];rw[et,<-e2];exact e1
 vl:=J
 cu q hq:=by
  have hq:q∈(match aR x.k with|true=> []|false=>(match x.e with|4=> []|5=> []|6=> []|_=> [([kS x.e,iS 23],iS 23)])):=hq;rw[hr]at hq;generalize he:x.e=e at*;dsimp only at hq;split at hq
  ·cases hq
  ·cases hq
  ·cases hq
  ·rename_i h4 h5 h6;have hm:e∈eT:=by
    unfold gG at hk;simp only[YS]at hk;rcases hk with h|h|h|h
    ·exact absurd h h4
    ·exact absurd h h5
    ·exact absurd h h6
    ·exact h
   (refine aZ (hT.pl_inv hm) λr rl q3 q4=>?_;subst q3;subst q4)
   have e:=O.t;rw[oi hm,bS,ae,ae]at e;injection e with e;injection e with e1 e;injection e with e2 e;rw[YR.mp hq];simp only[dO,c7,vw,ae];rw[e2];exact JW (iT hc hm) rl _
def Ep(σ:St)(s _j:Nat):Nat:=(σ.heap s).length
theorem ot(R:AA (Z g σ X Y (Ep σ)) f σ σ' yn cn):(∀i o,nth (σ.heap 8) i=some o->nth (σ'.heap 8) i=some o)/\∀i o,nth (σ.heap 12) i=some o->nth (σ'.heap 12) i=some o:=
 ⟨λi o h=>R.fr 8 (.inl rfl) i o h (by have:=bk h;exact ZP ‹_›),λi o h=>R.fr 12 (.inr rfl) i o h (by have:=bk h;exact ZP ‹_›)⟩
theorem vz(hp:p∈(match(fg k).getD k with|1=>kJ|3=>kJ|_=> [0]))(hb:b∈(match isQ k with|true=>bL|false=> [true]))(ht:tu∈(match isQ k||Nat.beq k 4 with|true=>bL|false=> [false])):(⟨k,p,b,tu⟩:BP)∈QZ k:=
 List.mem_flatMap.mpr (al p hp (List.mem_flatMap.mpr (al b hb (Zj.mpr (al tu ht rfl)))))
theorem dW(b:Bool):b∈bL:=by cases b<;>decide
set_option tactic.hygienic true in
theorem xt(hc:c.ok)(e:Nat):GY c e∈(match e with|1=>kJ|3=>kJ|_=> [0]):=by
 split
 ·exact gK _ hc.1
 ·exact gK _ hc.2
 ·rename_i h1 h3;unfold GY rx
  (refine(az h1).symm ▸?_;refine(az h3).symm ▸?_);exact .head _
theorem eB.lt(h:eB c N k v):k<25:=by
 have p:∀k∈eT++ [12,13,14,15],k<25:=by decide
 cases h with
 |pl hk _=>exact p _ (YQ _ hk)
 |ref hk _=>exact p _ (Y0 _ hk)
 |s=>decide
 |g=>decide
 |h=>decide
 |q hk _ _=>
  exact(show∀p∈ [(7,0),(8,1),(9,4),(10,17),(11,6)],p.1<25 from by decide) _ hk
theorem Inv.N100(h:Inv g σ):g.N<=100:=YU (Ze (YU (Y4 ..) h.siz) 4) ak
theorem zA(h:eB c N k v):(k∈gG/\fg k=none/\aR k=false)\/(aR k=true/\k∈ [12,13,14,15]/\∃i:Nat,i<N/\v= .int i)\/(∃e b w,fg k=some e/\aR k=false/\e∈gG/\(b=(0:Int)\/b=1)/\v= .tup [.int b,w]/\eB c N e w):=by
 have p:∀k∈gG,k∈gG/\fg k=none/\aR k=false:=by decide
 cases h with
 |pl hk _=>exact .inl (p k (.tail _ (.tail _ (.tail _ hk))))
 |ref hk hi=>
  exact .inr (.inl ⟨(show∀k∈ [12,13,14,15],aR k=true from by decide) k hk,hk,_,hi,rfl⟩)
 |s=>exact .inl (p _ ak)
 |g=>exact .inl (p _ ak)
 |h=>exact .inl (p _ ak)
 |q hk hb hv=>
  simp only[YS,Zv,Y2,Zl]at hk;refine .inr (.inr ?_);rcases hk with⟨rfl,rfl⟩|⟨rfl,rfl⟩|⟨rfl,rfl⟩|⟨rfl,rfl⟩|⟨rfl,rfl⟩<;>exact⟨_,_,_,rfl,rfl,by decide,hb,rfl,hv⟩
theorem H4{x:BP}(h:x.e=4):x.q=true:=by
 unfold BP.q;cases e:fg x.k with
 |some _=>rfl
 |none=>
  rw[(show x.k=4 from by unfold BP.e at h;rw[e]at h;exact h)];rfl
theorem o3(h:Inv g σ)(hsz:g.bx.length+g.ce.length<=59)(hr:aR x.k=false)(he:x.e∈gG)(hp:x.p=GY g.c x.e)(h4:x.q=true->x.tu=g.c.tu)(cw:Lg g.ts x=true)(hw:eB g.c g.N x.e w)(hv:∀ρ,ry g ρ->ah ρ (vS 0 x.e)=w->ah ρ x.v=v)(hm:60<=m):∃σ' g',(run pt m).c 213 [.obj 40 0, .str (aT x.k),v] σ=some (.ok (.bool true),σ')/\Inv g' σ'/\rp g g'/\(x.eff=true->g'.bx.length=g.bx.length+1):=by
 refine hg λcg kg=>?_;refine eX (Jx hw) λt ht=>?_;refine eX (oh h.ok h.N100 he ht) λl hl=>?_
 let z0:= [0,0]++l
 have G:=bj g σ (o9 z0) bZ (Ep σ);have O:=hl (Z g σ (o9 z0) bZ (Ep σ)) 0 G λi _=>J6 (l:= [0,0]);refine U (j6 h (fK h4) (OO h.ok hr he hp (λe=>h4 (H4 e)) ht O) (gn (X:=o9 z0) (Y:=bZ) (I:=Ep σ) h (q:=x.q) (tu:=x.tu) h4).1 (gn (X:=o9 z0) (Y:=bZ) (I:=Ep σ) h (q:=x.q) (tu:=x.tu) h4).2 cw hm) λσ' e1 R=>?_;refine kg ?_;have e1:=by
  simp only[dO,c7,hv _ G O.v]at e1;exact e1
 cases q:x.eff with
 |true=>
  rw[q]at R;refine uX (R7 h hsz (fK h4) R he hw ht O.v (MO h.ok he hp (λe=>h4 (H4 e)) ht O) (ot R).1 (ot R).2) λg' i1 i2 _ i3=>?_;exact(ci _ g' e1 (i1.setE) i2 (λ_=>i3))
 |false=>
  rw[q]at R;refine U (uT h (fK h4) R (λ_ h=>h) rfl h.las (ot R).1 (ot R).2) λg' i1 i2=>?_;exact(ci _ g' e1 (i1.setE) i2 (λe=>nomatch e))
theorem td(h:Inv g σ)(hsz:g.bx.length+g.ce.length<=59)(hr:aR x.k=false)(he:x.e∈gG)(hp:x.p=GY g.c x.e)(h4:x.q=true->x.tu=g.c.tu)(cw:Lg g.ts x=true)(hw:eB g.c g.N x.e w)(hv:∀ρ,ry g ρ->ah ρ (vS 0 x.e)=w->ah ρ x.v=v){m:Nat}(hm:60<=m):∃σ' g',(run pt m).c 213 [.obj 40 0, .str (aT x.k),v] σ=some (.ok (.bool true),σ')/\Inv g' σ'/\rp g g':=
 cQ (o3 h hsz hr he hp h4 cw hw hv hm) λσ' g' e1 i1 i2 _=>aY σ' g' e1 i1 i2
theorem qt(h:Inv g σ)(bQ:g.ts=25)(hsz:g.bx.length+g.ce.length<=59){v:V}(hv:eB g.c g.N k v)(hm:60<=m):∃σ' g',(run pt m).c 213 [.obj 40 0, .str (aT k),v] σ=some (.ok (.bool true),σ')/\Inv g' σ'/\rp g g':=by
 have hk:=hv.lt;rcases zA hv with⟨hb,hi,hr⟩|⟨hr,TN,i,hi,rfl⟩|⟨e,b,w,hi,hr,he,hb,rfl,hw⟩
 ·have yq:∀p b tu,BP.e ⟨k,p,b,tu⟩=k:=λp b tu=>by show(fg k).getD k=k;(refine(hi).symm ▸?_);rfl
  have Qo:isQ k=false:=by unfold isQ;rw[hi];rfl
  refine td h hsz (x:=⟨k,GY g.c k,true,match Nat.beq k 4 with|true=>g.c.tu|false=>false⟩) (w:=v) hr (by rw[yq];exact hb) (by rw[yq]) (λhq=>?_) (by rw[bQ];exact Jg hk (vz (by(refine(hi).symm ▸?_);exact xt h.ok k) (by(refine(Qo).symm ▸?_);exact .head _) (by
   (refine(Qo).symm ▸?_)
   cases q:Nat.beq k 4 with
   |true=>exact dW _
   |false=>exact .head _))) (by rw[yq];exact hv) (λρ _ e=>?_) hm
  ·have hq:((fg k).isSome||Nat.beq k 4)=true:=hq;rw[hi]at hq;have:=aB.mp hq
   (clear hv Qo;subst this);rfl
  ·rw[yq]at e
   (refine(e) ▸?_)
   show ah ρ (match fg k with|some e=>_|none=>vS 0 k)=_;rw[hi]
 ·obtain⟨a,ha⟩:=lM hi
  (refine eX (te ha) λz q2=>?_;subst q2)
  have HU:=h.N100;have G:=bj g σ (o9 [0,0,i,0,0,0,0,0,z]) bZ (Ep σ);have ri:∀{α:Type} (a b:α),(match aR k with|true=>a|false=>b)=a:=λa b=>by rw[hr]
  have l6:=by
   exact(show∀k∈ [12,13,14,15],fg k=none from by decide) k TN
  let z0:=Z g σ (o9 [0,0,i,0,0,0,0,0,z]) bZ (Ep σ)
  have fs:fu g z0 (LO ⟨k,0,true,false⟩):={
   bd:=λp hp=>by
    rcases Y8.mp hp with hp|hp
    ·have he:BP.e ⟨k,0,true,false⟩=k:=by show(fg k).getD k=k;(refine(l6).symm ▸?_);rfl
     rw[he]at hp;split at hp
     ·exact nf hr
     ·exact nf hr
     ·cases hp
    ·refine mz ?_ ?_ ?_ p hp
     ·(refine((show z0.int 22=(i:Int)from rfl)).symm ▸?_);exact⟨Zr ak (Q0 hi h.N100).1,Zr (Q0 hi h.N100).2 ak⟩
     ·exact⟨(by decide:ux.1<=0),(by decide:0<=ux.2)⟩
     ·exact⟨ZN 0,(by decide:(0:Int)<=100)⟩
   i1:=J
   i2:=J
   i3:=λq hq=>by
    have hq:q∈(match aR k with|true=> [(iS 22,iS 22)]|false=>(cS 0,cS 0)::Ar 0 _):=hq;rw[ri]at hq;rw[YR.mp hq];exact vg G HU (show z0.int 22=(i:Int)from rfl) hi
   i4:=λq hq=>by
    have hq:q∈(match aR k with|true=> [(iS 22,iS 28)]|false=>(cS 0,cS 0)::Aq 0 _):=hq;rw[ri]at hq;rw[YR.mp hq];exact vC G HU (show z0.int 22=(i:Int)from rfl) (rfl) ha
   i6:=J
   d1:=J
   op:=J
   eq:=J
   tg:=λq hq=>by
    have hq:q∈(match aR k with|true=> []|false=>_):=hq;rw[ri]at hq;cases hq
   vl:=J
   cu:=λq hq=>by
    have hq:q∈(match aR k with|true=> []|false=>_):=hq;rw[ri]at hq;cases hq}
  have h4:Nat.beq k 4=false:=az (by rintro rfl;cases hr);have hq:BP.q ⟨k,0,true,false⟩=false:=by show((fg k).isSome||Nat.beq k 4)=false;(refine(l6).symm ▸?_;refine(h4).symm ▸?_);rfl
  have eD:=fK (g:=g) (σ:=σ) (X:=o9 [0,0,i,0,0,0,0,0,z]) (Y:=bZ) (I:=Ep σ) (q:=BP.q ⟨k,0,true,false⟩) (tu:=false) (λe=>by rw[hq]at e;cases e);refine U (j6 h eD fs (gn (X:=o9 [0,0,i,0,0,0,0,0,z]) (Y:=bZ) (I:=Ep σ) h (q:=BP.q ⟨k,0,true,false⟩) (tu:=false) (λe=>by rw[hq]at e;cases e)).1 (gn (X:=o9 [0,0,i,0,0,0,0,0,z]) (Y:=bZ) (I:=Ep σ) h (q:=BP.q ⟨k,0,true,false⟩) (tu:=false) (λe=>by rw[hq]at e;cases e)).2 (by rw[bQ];exact(Jg hk (vz (k:=k) (p:=0) (b:=true) (tu:=false) (by(refine(l6).symm ▸?_);split<;>decide) (by(refine((show isQ k=false from by unfold isQ;rw[l6];rfl)).symm ▸?_);exact .head _) (by(refine((show isQ k=false from by unfold isQ;rw[l6];rfl)).symm ▸?_;refine(h4).symm ▸?_);exact .head _)))) hm) λσ' e1 R=>?_;rw[(show BP.eff ⟨k,0,true,false⟩=false from by show(match fg k with|some _=>true|none=> !aR k)=false;(refine(l6).symm ▸?_;refine(hr).symm ▸?_);rfl)]at R;refine U (uT h eD R (λ_ h=>h) rfl h.las (ot R).1 (ot R).2) λg' i1 i2=>?_;refine(aY (σ'.setE σ.env) g' ?_ (i1.setE) i2)
  rw[(show BP.v ⟨k,0,true,false⟩=iS 22 from by
   show(match fg k with|some e=>_|none=>vS 0 k)=_
   (refine(l6).symm ▸?_)
   exact(show∀k∈ [12,13,14,15],vS 0 k=iS 22 from by
    intro k hk;simp only[YS,Y2,Zl]at hk;rcases hk with rfl|rfl|rfl|rfl<;>rfl) k TN)]at e1
  simp only[dO,c7,ae]at e1;rw[(show z0.int 22=(i:Int)from rfl)]at e1;exact e1
 ·have yq:∀p b tu,BP.e ⟨k,p,b,tu⟩=e:=λp b tu=>by show(fg k).getD k=e;rw[hi];rfl
  have K3:isQ k=true:=by unfold isQ;rw[hi];rfl
  refine td h hsz (x:=⟨k,GY g.c e,decide (b=1),g.c.tu⟩) (w:=w) hr (by rw[yq];exact he) (by rw[yq]) (λ_=>rfl) (by rw[bQ];exact Jg hk (vz (by(refine(hi).symm ▸?_);exact xt h.ok e) (by(refine(K3).symm ▸?_);exact dW _) (by(refine(K3).symm ▸?_);exact dW _))) (by rw[yq];exact hw) (λρ G e1=>?_) hm;rw[yq]at e1;show ah ρ (match fg k with|some e=>_|none=>vS 0 k)=_
  (refine(hi).symm ▸?_)
  rcases hb with rfl|rfl<;>simp only[iE,dO,c7,e1]<;>exact YV (λx=>V.tup [x,w]) (au G _)
end
def XC(i:Nat)(b:Bx)(l q l' r:List Int)(x:Nat):Int:=if x<22 then lg [(i:Int)+4,Gh.adr b.th] (x - 20)else if x<30 then lg l (x - 22)else if x<32 then lg q (x - 30)else if x<40 then lg l' (x - 32)else lg r (x - 40)
def YC(se rw:V)(yl:List V)(x:Nat):V:=match x with|3=>se|10=>rw|x=>(nth yl (x - 11)).getD .none
noncomputable def IC (i:Nat) (b:Bx) (s _j:Nat):Nat:=match s with|4=>i+3|8=>i|9=>b.th|12=>b.th - 3|_=>0
section
variable{g:Gh}{σ σ':St}
theorem MR(n:Nat)(hn:n<8):(Z g σ (XC i b l q l' r) Y I).int (22+n+0)=lg l n:=by
 have q:=UJ hn;rw[hJ q.1];unfold XC;rw[Zs q.2.1,ZU q.2.2.1,q.2.2.2]
theorem BE(n:Nat)(hn:n<8):(Z g σ (XC i b l q l' r) Y I).int (22+n+10)=lg l' n:=by
 have q:=UI hn;rw[hJ q.1];unfold XC;rw[Zs q.2.1,Zs q.2.2.1,Zs q.2.2.2.1,ZU q.2.2.2.2.1,q.2.2.2.2.2]
structure Q5(g:Gh)(σ:St)(i:Nat)(b:Bx)(t:V)(ρ:Ro):Prop where
 G:ry g ρ
 O:VO g ρ 0 b.k b.v t
 ent:∀p∈nI b.k g.c.tu,∀r∈p.2,nth (σ.heap p.1) (ρ.ix p.1 r.1)=some (aC ρ r.2)
 x20:ρ.int 20=(i:Int)+4
 i1:iw ρ 1 (iS 20,sN b.k)
 i2:iw ρ 2 (iS 20,vS 0 b.k)
 i3:iw ρ 3 (iS 20,iS 20)
 i4:iw ρ 4 (iS 20,iS 21)
 i6:iw ρ 6 (iS 20, .obj 4 0)
 d1:aO (ah ρ (iS 21)) (ρ.dbase 1)=some (ah ρ (.obj 9 0))
 b20:4<=ρ.int 20/\ρ.int 20<=100
 b21:25<=ρ.int 21/\ρ.int 21<=400
theorem vx(h:Inv g σ)(hb:nth g.bx i=some b):∃t l se rw,cj g b.k b.v t/\∀q l' r yl,Q5 g σ i b t (Z g σ (XC i b l q l' r) (YC se rw yl) (IC i b)):=by
 have B:=h.box i b hb;refine hg λcg kg=>?_;refine U (B.ts) λt ht Af=>?_;refine eX (B.thing) λse e9=>?_;obtain⟨rw,e4⟩:=B.item;obtain⟨l,hl⟩:=oh h.ok h.N100 B.nm ht;refine kg ?_;refine(Sn t l se rw ht (λq l' r yl=>?_));have G:=bj g σ (XC i b l q l' r) (YC se rw yl) (IC i b);have O:=hl (Z g σ (XC i b l q l' r) (YC se rw yl) (IC i b)) 0 G MR;have hs:=h.siz;have hc:=h.cnt;have hr:=B.rng;have yh:(Z g σ (XC i b l q l' r) (YC se rw yl) (IC i b)).int 21=Gh.adr b.th:=rfl;have h4:=zav (bk hb) 4;have h5:=YU (zac h4) (h.N100);have Px:(Z g σ (XC i b l q l' r) (YC se rw yl) (IC i b)).int 20=((4+i:Nat):Int):=(rfl).trans (by rw[Int.natCast_add,zaJ];rfl);have QU:ah (Z g σ (XC i b l q l' r) (YC se rw yl) (IC i b)) (iS 20)= .int ((4+i:Nat):Int):=by rw[ae];exact YV V.int Px
 refine⟨G,O,λp hp r' rl=>?_,(rfl),(aM (4+i) QU (YU h5 ak) (oH hb)),(aM (4+i) QU (YU h5 ak) (by rw[O.v];exact Dn hb)),vg G (h.N100) (i:=4+i) Px h4,vC G (h.N100) (i:=4+i) Px yh (zo hb),(aM (4+i) QU (YU h5 ak) ?_),?_,by rw[Px];exact⟨ZI.mpr (Y4 4 i),ZI.mpr h5⟩,by rw[yh];exact X3 h.siz h.cnt hr⟩
 ·simp only[nI,YS,Y2,Zl]at hp;rcases hp with rfl|rfl|rfl|rfl
  ·rw[YR.mp rl];refine e4.trans (YV some ?_);simp only[Pf,aC,bF,IP,lP,G.z,ZA];rfl
  ·rw[YR.mp rl];refine B.sl.trans (YV some ?_);simp only[aC,eC,dO,c7,ZG,O.v]
  ·rw[YR.mp rl];refine e9.trans (YV some ?_);simp only[GU,aC,bF,lP,G.z,ZA];rfl
  ·rw[YR.mp rl];refine Af.trans (YV some ?_);simp only[aC,eC,dO,c7,ZG,O.t]
 ·skip;rw[show 4+i=i+3+1 from Zz 4 i];exact(gj (g:=g) (i:=i+3) (X6 h4))
 ·rw[ae,yh];exact gU hr.2
theorem lG(h:Inv g σ)(hq:q=true->ka=g.c.ka/\ks=g.c.ks):iM (EW q ka ks)=true/\∀p∈EW q ka ks,∀r∈p.2,nth (σ.heap p.1) ((Z g σ X Y I).ix p.1 r.1)=some (aC (Z g σ X Y I) r.2):=by
 cases q with
 |false=>exact⟨rfl,J⟩
 |true=>
  obtain⟨h1,h2⟩:=hq rfl;refine⟨rfl,λp hp r hr=>?_⟩;rw[YR.mp hp]at hr⊢;rw[YR.mp hr];refine h.kin.trans (YV some ?_);unfold yD yC
  (refine(h1).symm ▸?_;refine(h2).symm ▸?_)
  cases g.c.ka<;>cases g.c.ks<;>rfl
theorem J1(ha:a<25)(hb:b<25):aT a=aT b↔a=b:=by
 have:(n0.all λa=>n0.all λb=>uu (aT a) (aT b)==Nat.beq a b)=true:=by decide+kernel
 have mem:∀a,a<25->a∈n0:=by decide
 rw[YO]at this;have h1:=this a (mem a ha);rw[YO]at h1;exact⟨λe=>aB.mp ((zaZ.mp (h1 b (mem b hb))) ▸ ib.mpr e),λe=>e ▸ rfl⟩
theorem Kb(ha:a<25)(hb:b<25):iC a=iC b↔a=b:=by
 have:(n0.all λa=>n0.all λb=>Ac (iC a) (iC b)==Nat.beq a b)=true:=by decide+kernel
 have mem:∀a,a<25->a∈n0:=by decide
 rw[YO]at this;have h1:=this a (mem a ha);rw[YO]at h1;exact⟨λe=>aB.mp ((zaZ.mp (h1 b (mem b hb))) ▸ eO.mpr e),λe=>e ▸ rfl⟩
def Lr(k:Nat):List Nat:=match rx k with|true=>kJ|false=> [k]
set_option tactic.hygienic true in
theorem mJ(hc:c.ok)(k:Nat):aG c k∈Lr k:=by
 unfold aG;split
 ·exact gK _ hc.1
 ·exact gK _ hc.2
 ·rename_i h1 h3;unfold Lr rx
  (refine(az h1).symm ▸?_;refine(az h3).symm ▸?_);exact .head _
theorem hP(hc:c.ok)(hk:k<25):aG c k<25:=by
 exact(show∀k,k<25->∀p∈Lr k,p<25 from by decide) k hk _ (mJ hc k)
theorem vy(h:k∈gG):k<25:=by
 exact(show∀k∈gG,k<25 from by decide) k h
theorem Cv(hc:c.ok)(hk:k∈gG)(hj:j<25):decide (aG c k=aG c j)∈Lk k j:=by
 have:(gG.all λk=>n0.all λj=>(Lr k).all λa=>(Lr j).all λb=>(Nat.beq k j&& !Nat.beq a b)||(Lk k j).any λx=>x==Nat.beq a b)=true:=by decide+kernel
 rw[YO]at this;have h1:=this k hk;rw[YO]at h1;have h2:=h1 j ((show∀a,a<25->a∈n0 from by decide) j hj);rw[YO]at h2;have h3:=h2 _ (mJ hc k);rw[YO]at h3;have h4:=h3 _ (mJ hc j);rw[ZT]at h4;rcases h4 with h4|h4
 ·rw[YW]at h4;have:=aB.mp h4.1;subst this;rw[show Nat.beq (aG c k) (aG c k)=true from aB.mpr rfl]at h4;exact absurd h4.2 ak
 ·rw[zbo]at h4
  (refine U h4 λx hx e=>?_;clear h4)
  rw[(show∀a b:Nat,decide (a=b)=Nat.beq a b fromλa b=>by
  by_cases e:a=b
  ·rw[Zn e,aB.mpr e]
  ·rw[Zx e,az e]),<-zaZ.mp e];exact hx
end
theorem GH(hk:x.k∈gG)(hj:x.j<25)(ht:x.tu∈z5 x.k x.j)(hq:(x.ka,x.ks)∈LA x.k x.j)(ha:x.ag∈Lk x.k x.j):Tj x=true:=by
 refine U (lC _ hj) λg hg hj=>?_;have h:=(MN x.k hk g hg).1;unfold Tk at h;rw[YO]at h;have h:=h x.k (.head _);rw[YO]at h;have h:=h x.j hj;rw[YO]at h;have h:=h _ ht;rw[YO]at h;have h:=h _ hq;rw[YO]at h;exact h _ ha
def fm(c:Cf)(k j:Nat):OP:=⟨k,j,match isQ j||Nat.beq k 4 with|true=>c.tu|false=>false,match aR j&& !Nat.beq j 12 with|true=>c.ka|false=>false,match aR j&& !Nat.beq j 12 with|true=>c.ks|false=>false,decide (aG c k=aG c j)⟩
theorem xe(c:Cf)(k j:Nat):(fm c k j).tu∈z5 k j:=by
 show(match isQ j||Nat.beq k 4 with|true=>c.tu|false=>false)∈z5 k j;unfold z5;cases isQ j||Nat.beq k 4 with
 |true=>exact dW _
 |false=>exact .head _
theorem Gf(c:Cf)(k j:Nat):((fm c k j).ka,(fm c k j).ks)∈LA k j:=by
 show((match aR j&& !Nat.beq j 12 with|true=>c.ka|false=>false),(match aR j&& !Nat.beq j 12 with|true=>c.ks|false=>false))∈LA k j;unfold LA;cases aR j&& !Nat.beq j 12 with
 |true=>cases c.ka<;>cases c.ks<;>decide
 |false=>exact .head _
section
variable{g:Gh}{σ σ':St}{X:Nat->Int}{Y:Nat->V}{I:Nat->Nat->Nat}
theorem rQ(c:Cf)(k j:Nat):(fm c k j).q=true->(fm c k j).tu=c.tu:=by
 intro h;show(match isQ j||Nat.beq k 4 with|true=>c.tu|false=>false)=_
 (refine((show(isQ j||Nat.beq k 4)=true from h)).symm ▸ rfl)
theorem HC(c:Cf)(k j:Nat):(fm c k j).kq=true->(fm c k j).ka=c.ka/\(fm c k j).ks=c.ks:=by
 intro h;show(match aR j&& !Nat.beq j 12 with|true=>c.ka|false=>false)=_/\(match aR j&& !Nat.beq j 12 with|true=>c.ks|false=>false)=_
 (refine((show(aR j&& !Nat.beq j 12)=true from h)).symm ▸?_);exact⟨rfl,rfl⟩
set_option tactic.hygienic true in
theorem xR(k:Nat):ah (Z g σ X Y I) (KW k)= .str (aT (aG g.c k)):=by
 unfold KW;split
 ·rfl
 ·rfl
 ·rename_i h1 h3;rw[jy h1 h3];rfl
theorem HD(hc:g.c.ok)(hk:k<25)(hj:j<25):∀p∈(fm g.c k j).eq,(p.2=true↔ah (Z g σ X Y I) p.1.1=ah (Z g σ X Y I) p.1.2):=by
 intro p hp;unfold OP.eq at hp;split at hp
 ·simp only[YS,Y2,Zl]at hp;rcases hp with rfl|rfl
  ·show(decide (aG g.c k=aG g.c j)=true↔ah _ (KW k)=ah _ (KW j));rw[xR,xR,ZV];exact⟨λe=>by rw[e],λe=>by injection e with e;exact(J1 (hP hc hk) (hP hc hj)).mp e⟩
  ·show(decide (aG g.c k=aG g.c j)=true↔ah _ (kS k)=ah _ (kS j));rw[vw,vw,ZV];exact⟨λe=>by rw[e],λe=>by injection e with e;exact(Kb (hP hc hk) (hP hc hj)).mp e⟩
 ·cases hp
theorem pM(h:rx k=true):k∈eT:=by
 unfold rx at h;rw[ZT]at h;rcases h with h|h<;>rw[aB.mp h]<;>decide
theorem Hm(hc:c.ok)(h:aG c k∈rh):k∈eT:=by
 by_cases h1:k=1
 ·subst h1;decide
 by_cases h3:k=3
 ·subst h3;decide
 rw[jy h1 h3]at h;exact .tail _ (.tail _ h)
theorem H6(hc:c.ok)(ha:aG c k=aG c j)(ut:k≠j):k∈eT/\j∈eT:=by
 refine cX (rx k) (λek=>?_) λek=>?_
 ·
  exact⟨pM ek,Hm hc (ha ▸ (iT hc (pM ek)))⟩
 ·
  refine cX (rx j) (λej=>?_) λej=>?_
  ·
   exact⟨Hm hc (ha.symm ▸ (iT hc (pM ej))),pM ej⟩
  ·
   unfold rx at ek ej;rw[zae]at ek ej;rw[jy (jh ek.1) (jh ek.2),jy (jh ej.1) (jh ej.2)]at ha;exact absurd ha ut
theorem Kj(h:eB c N k v)(hk:k∈eT)(hj:j∈eT)(ha:aG c k=aG c j):eB c N j v:=by
 have n:=(show∀k∈eT,k∉ [12,13,14,15]/\k≠4/\k≠5/\k≠6/\k≠7/\k≠8/\k≠9/\k≠10/\k≠11 from by decide) k hk;cases h with
 |pl _ hr=>(refine(ha).symm ▸?_);exact .pl hj hr
 |ref hr _=>exact absurd hr n.1
 |s=>exact absurd rfl n.2.1
 |g=>exact absurd rfl n.2.2.1
 |h=>exact absurd rfl n.2.2.2.1
 |q hq _ _=>exact absurd hk (A8 _ hq).1
set_option tactic.hygienic true in
theorem HB(hc:g.c.ok)(hT:cj g k v t)(O:VO g (Z g σ X Y I) 0 k v t):∀q∈(fm g.c k j).tg,aJ (WS g.c) ip 22 197 (ax (Z g σ X Y I) q.1) (ah (Z g σ X Y I) q.2):=by
 intro q hq;have hq:q∈(match rx j||rx k with|true=>(match decide (aG g.c k=aG g.c j)&& !Nat.beq k j with|true=> [([w0,sN j,iS 22],dl (iS 24) (iS 23))]|false=> [])|false=> []):=hq;split at hq
 ·split at hq
  ·rename_i _ e;rw[YW,ZV,Bool.not_eq_true']at e;refine hg λcg kg=>?_;obtain⟨hk,hj⟩:=H6 hc e.1 (jh e.2)
   (refine aZ (hT.pl_inv hk) λr hr q3 q4=>?_;subst q3;subst q4)
   refine kg ?_;have e1:=O.v;have e2:=O.t;rw[A0 hk,ae]at e1;rw[oi hk]at e2;injection e1 with e1
   (refine(YR.mp hq).symm ▸?_)
   rw[e.1]at e1 e2;exact rM hc (bj g σ X Y I) hj hr e1 e2
  ·cases hq
 ·cases hq
theorem B1(hc:g.c.ok)(hk:k∈gG)(hj:j<25)(hv:eB g.c g.N k v)(O:VO g (Z g σ X Y I) 0 k v t)(hi:i<g.N)(QH:(Z g σ X Y I).int 20=(i:Int))(hs:(fm g.c k j).su=true):eB g.c g.N j (ah (Z g σ X Y I) (fm g.c k j).va):=by
 have hs:(match aR j with|true=>_|false=>(match fg j with|some e=>Nat.beq e k|none=>decide (aG g.c k=aG g.c j)))=true:=hs;show eB g.c g.N j (ah _ (match aR j with|true=>iS 20|false=>(match fg j with|some e=> .tup [cS 1,vS 0 k]|none=>vS 0 k)));cases hr:aR j with
 |true=>
  rw[ae,QH];have:∀j,j<25->aR j=true->j∈ [12,13,14,15]:=by decide
  exact .ref (this j hj hr) hi
 |false=>
  rw[hr]at hs;dsimp only at hs⊢;cases he:fg j with
  |some e=>
   rw[he]at hs;have:=aB.mp hs;subst this;simp only[iE,c7,O.v];exact .q ((show∀j,j<25->∀e∈gG,fg j=some e->(j,e)∈ [(7,0),(8,1),(9,4),(10,17),(11,6)]from by decide) j hj e hk he) (.inr rfl) hv
  |none=>
   rw[he]at hs;rw[O.v];by_cases e:k=j
   ·subst e;exact hv
   ·refine dc (H6 hc (Zt hs) e) λh1 h2=>?_;exact Kj hv h1 h2 (Zt hs)
theorem mf(C:Q5 g σ i b t (Z g σ X Y I))(R:AA (Z g σ X Y I) f σ σ' yn cn)(hp:∀q∈rF (vS 0 b.k) (tS 0 b.k tu),q∈yn)(ht:b.k=4->tu=g.c.tu):(∀i o,nth (σ.heap 8) i=some o->nth (σ'.heap 8) i=some o)/\∀i o,nth (σ.heap 12) i=some o->nth (σ'.heap 12) i=some o:=by
 have Ts:=R.at_ (12,_) (hp _ (.tail _ (.head _))) (0,_) (.head _)
 rw[(show tS 0 b.k tu=tS 0 b.k g.c.tu from by
  by_cases e:b.k=4
  ·rw[ht e]
  ·exact rN e _ _)]at Ts
 refine⟨λj o h=>?_,λj o h=>?_⟩
 ·by_cases e:(Z g σ X Y I).ix 8 0=j
  ·subst e;rw[show nth (σ.heap 8) ((Z g σ X Y I).ix 8 0)=_ from(C.ent (8,_) (.tail _ (.head _)) (0,_) (.head _))]at h;rw[<-h];exact(R.at_ (8,_) (hp _ (.head _)) (0,_) (.head _))
  ·exact R.fr 8 (.inl rfl) j o h e
 ·by_cases e:(Z g σ X Y I).ix 12 0=j
  ·subst e;rw[show nth (σ.heap 12) ((Z g σ X Y I).ix 12 0)=_ from(C.ent (12,_) (.tail _ (.tail _ (.tail _ (.head _)))) (0,_) (.head _))]at h;rw[<-h];exact Ts
  ·exact R.fr 12 (.inr rfl) j o h e
theorem rT(c:Cf)(h:k=4):(fm c k j).tu=c.tu:=rQ c k j (by subst h;show(isQ j||Nat.beq 4 4)=true;cases isQ j<;>rfl)
theorem kc(C:Q5 g σ i b t (Z g σ X Y I))(ht:b.k=4->tu=g.c.tu):iM (nI b.k tu)=true/\∀p∈nI b.k tu,∀r∈p.2,nth (σ.heap p.1) ((Z g σ X Y I).ix p.1 r.1)=some (aC (Z g σ X Y I) r.2):=by
 refine⟨rfl,?_⟩
 rw[(show nI b.k tu=nI b.k g.c.tu from by
  unfold nI;by_cases e:b.k=4
  ·rw[ht e]
  ·rw[rN e tu g.c.tu])];exact C.ent
theorem Dg(h:Inv g σ)(bQ:g.ts=25)(hb:nth g.bx i=some b)(hj:j<25)(hm:60<=m):∃σ' g',(run pt m).c 216 [.obj 40 0, .str (aT j), .int ((i:Int)+4)] σ=some (.ok (.bool true),σ')/\Inv g' σ'/\rp g g':=by
 refine hg λcg kg=>?_;refine Jo (vx h hb) λt l se fj hT hC=>?_;have C:=hC [] [] [] [];have B:=h.box i b hb;have hi:=bk hb;have eD:=fK (g:=g) (σ:=σ) (X:=XC i b l [] [] []) (Y:=YC se fj []) (I:=IC i b) (rQ g.c b.k j)
 let z0:=fm g.c b.k j
 refine U (j6 h eD (show fu g (Z g σ (XC i b l [] [] []) (YC se fj []) (IC i b)) (fO z0)from {
  bd:=λp hp=>by
   rcases YS.mp hp with rfl|hp
   ·exact C.b20
   rcases YS.mp hp with rfl|hp
   ·exact C.b21
   exact C.O.bd p hp
  i1:=λq hq=>by rw[YR.mp hq];exact C.i1
  i2:=λq hq=>by rw[YR.mp hq];exact C.i2
  i3:=λq hq=>by
   rcases YS.mp hq with rfl|hq
   ·exact C.i3
   ·exact C.O.i3 q hq
  i4:=λq hq=>by
   rcases YS.mp hq with rfl|hq
   ·exact C.i4
   ·exact C.O.i4 q hq
  i6:=λq hq=>by rw[YR.mp hq];exact C.i6
  d1:=λq hq=>by(refine(YR.mp hq).symm ▸?_);exact C.d1
  op:=J
  eq:=HD h.ok (vy B.nm) hj
  tg:=λq hq=>by
   rcases Y8.mp hq with hq|hq
   ·exact C.O.tg q hq
   ·exact HB h.ok hT C.O q hq
  vl:=J
  cu:=J}) (dD (dD (kc C (tu:=z0.tu) (rT g.c)) (lG h (HC g.c b.k j))) (gn h (rQ g.c b.k j))).1 (dD (dD (kc C (tu:=z0.tu) (rT g.c)) (lG h (HC g.c b.k j))) (gn h (rQ g.c b.k j))).2 (by rw[bQ];exact(GH (x:=fm g.c b.k j) B.nm hj (xe ..) (Gf ..) (Cv h.ok B.nm hj))) hm) λσ' e1 R=>?_
 refine bR ((show∃lk lv,ah (Z g σ (XC i b l [] [] []) (YC se fj []) (IC i b)) z0.la= .tup [.str (aT lk),lv]/\lk<25/\eB g.c g.N lk lv from by
  refine cX (z0.su) (λhs=>?_) λhs=>?_
  ·
   refine(aY j (ah _ z0.va) ?_ hj (B1 h.ok B.nm hj B.val C.O (i:=4+i) (by exact zav ‹_› _) (by rw[C.x20];exact zaJ _ _) hs));unfold OP.la;rw[hs];rfl
  ·
   refine(gz (g.lk) (g.lv) ?_ (h.las));unfold OP.la;rw[hs];rfl)) λlk lv l1 l2=>?_
 refine U (uT h eD R (λq hq=>YQ _ hq) l1 l2 (mf C R (λq hq=>Y0 _ hq) (rT g.c)).1 (mf C R (λq hq=>Y0 _ hq) (rT g.c)).2) λg' i1 i2=>?_;refine kg ?_;refine(aY (σ'.setE σ.env) g' ?_ (i1.setE) i2);exact e1
end
theorem Ea(hk:x.k∈gG)(hj:x.j<25)(hr:aR x.j=false)(ht:x.tu∈z5 x.k x.j)(Xh:x.ka=false)(Qt:x.ks=false)(ha:x.ag∈Lk x.k x.j)(hz:x.zp∈PF x.su)(Qj:x.z2∈OT x.k x.j x.zp):PU x=true:=by
 refine U (lC _ hj) λg hg hj=>?_;have h:=(MN x.k hk g hg).2;unfold Tf at h;rw[YO]at h;have h:=h x.k (.head _);rw[YO]at h;have h:=h x.j hj;rw[hr,zbj,YO]at h;have h:=h _ ht;rw[YO]at h;have h:=h _ ha;rw[YO]at h;obtain⟨⟨k,j,tu,ka,ks,ag⟩,zp,z2⟩:=x;subst Xh;subst Qt;have h:=h _ hz;rw[YO]at h;exact h _ Qj
section
variable{g:Gh}{σ σ':St}{X:Nat->Int}{Y:Nat->V}{I:Nat->Nat->Nat}{ρ:Ro}
theorem cM(ha:ah ρ a= .int x)(hb:ah ρ b= .int y)(hy:(decide (0<y)&&cz y)=true)(hc:ah ρ c= .int (x.fdiv y)):∀o,nA o=3->bY o (ah ρ a) (ah ρ b)=some (ah ρ c):=by
 intro o ho;cases o<;>first|(cases ho;done)|skip
 rw[ha,hb,hc];exact GJ hy
theorem bI(ha:ah ρ a= .int x)(hb:ah ρ b= .int y)(hy:decide (0<y)=true)(hc:ah ρ c= .int (x.fmod y)):∀o,nA o=4->bY o (ah ρ a) (ah ρ b)=some (ah ρ c):=by
 intro o ho;cases o<;>first|(cases ho;done)|skip
 rw[ha,hb,hc];exact xT hy
theorem ou(z:Int):z.fmod 2=0\/z.fmod 2=1:=by
 exact Int.fmod_eq_emod_of_nonneg z (by decide:(0:Int)<=2) ▸ Int.emod_two_eq z
theorem rP(hc:g.c.ok)(G:ry g ρ)(hk:k∈eT)(sp:aJ (WS g.c) ip 20 191 [.obj 40 0, .str (aT k), .int zz] (.int (pv (aG g.c k) r)))(hz:ρ.int z=zz)(hy:ρ.int y=pv (aG g.c k) r):aJ (WS g.c) ip 22 191 (ax ρ [w0,sN k,iS z]) (ah ρ (iS y)):=by
 simp only[dO,c7,vr G,Cn,ae,hz,hy];exact sp.mono ak
theorem qc(hc:g.c.ok)(hk:k∈gG)(zz:Int):∃v t,eB g.c g.N k v/\cj g k v t/\∀(ρ:Ro) (z:Nat),ry g ρ->VO g ρ 10 k v t->ρ.int z=zz->ρ.int 42=(zz.fdiv 5).fdiv 2->(∀q∈Io z k,aJ (WS g.c) ip 22 191 (ax ρ q.1) (ah ρ q.2))/\(k=4->ρ.int 35=(zz.fdiv 3).fmod g.N/\ρ.int 36=(zz.fdiv 5).fmod 2):=by
 unfold gG at hk;simp only[YS]at hk;rcases hk with rfl|rfl|rfl|hp
 let z0:=zz.fdiv 5
 ·refine U (j8 hc (show 0∈eT by decide) zz) λr hr sp=>?_;refine U (j8 hc (show 17∈eT by decide) (z0.fdiv 2)) λr' rl VY=>?_;have K7:0<(g.N:Int):=EU;have h2:(zz.fdiv 3).fmod g.N<g.N:=ZJ _ K7;obtain⟨i,hi⟩:∃i:Nat,(zz.fdiv 3).fmod g.N=(i:Int):=⟨_,(Zw (Zq _ K7)).symm⟩;have Ad:i<g.N:=KZ hi h2;refine eX (lM Ad) λa ha=>?_;refine(aY _ _ (.s hr Ad (ou z0) rl) (.s hr ha (.q (k':=17) ak (.pl ak rl))) (λρ z G O hz G4=>?_));have e:=O.v;simp only[vS,dl,iE,dO,c7,ae]at e;injection e with e;injection e with e1 e;injection e with e2 e;injection e with e3 _;injection e3 with e3;injection e3 with e3 e4;injection e4 with e4 _;injection e1 with e1;injection e2 with e2;injection e3 with e3;injection e4 with e4;refine⟨λq hq=>?_,λ_=>⟨e2.trans hi.symm,e3⟩⟩;simp only[Io,YS,Y2,Zl]at hq;rcases hq with rfl|rfl
  ·exact rP hc G ak sp hz e1
  ·exact rP hc G ak VY G4 e4
 ·refine U (j8 hc (show 0∈eT by decide) zz) λr hr sp=>?_;refine(aY _ _ (.g hr) (.g (.pl ak hr)) (λρ z G O hz G4=>⟨λq hq=>?_,λh=>by cases h⟩));have e:=O.v;simp only[vS,iE,dO,c7,ae]at e;injection e with e;injection e with e1 e;injection e1 with e1;rw[YR.mp hq];exact rP hc G ak sp hz e1
 ·refine U (j8 hc (show 2∈eT by decide) zz) λr hr sp=>?_;refine(aY _ _ (.h hr) (.h (.pl ak hr)) (λρ z G O hz G4=>⟨λq hq=>?_,λh=>by cases h⟩));have e:=O.v;simp only[vS,iE,dO,c7,ae]at e;injection e with e;injection e with e1 e;injection e1 with e1;rw[YR.mp hq];exact rP hc G ak sp hz e1
 ·refine U (j8 hc hp zz) λr hr sp=>?_;refine(aY _ _ (.pl hp hr) (.pl hp hr) (λρ z G O hz G4=>⟨λq hq=>?_,λh=>absurd h (iU hp).1⟩));have e:=O.v;rw[A0 hp,ae]at e;injection e with e1
  (refine(YR.mp (show q∈ [([w0,sN k,iS z],iS 32)]from by
   refine dU (iU hp) λh4 h5 h6=>?_;unfold Io at hq;split at hq
   ·exact absurd rfl h4
   ·exact absurd rfl h5
   ·exact absurd rfl h6
   ·exact hq)).symm ▸?_)
  exact rP hc G hp sp hz e1
theorem ke(G:ry g ρ){z:Int}:ah ρ (b2 (decide (z.fmod 2=1)))= .int (z.fmod 2):=by
 refine(ou z).elim (λe=>?_) λe=>?_<;>(refine(e).symm ▸?_)<;>exact au G _
set_option tactic.hygienic true in
theorem No(G:ry g ρ){x:LP}(h2:ρ.int 2=(g.N:Int))(T0:ρ.int 30=z)(Pr:ρ.int 31=z.fdiv 2)(XM:ρ.int 43=(z.fdiv 2).fdiv 2)(XK:ρ.int 50=(z.fdiv 2).fmod 2)(Av:ρ.int 40=(ρ.int x.z).fdiv 3)(IK:ρ.int 41=(ρ.int x.z).fdiv 5)(G4:ρ.int 42=((ρ.int x.z).fdiv 5).fdiv 2)(h4:x.k=4->ρ.int 35=((ρ.int x.z).fdiv 3).fmod g.N/\ρ.int 36=((ρ.int x.z).fdiv 5).fmod 2)(WI:x.zp=decide (z.fmod 2=1))(Qj:isQ x.j=false->(Nat.beq x.k 4&&x.zp)=true->x.z2=decide ((z.fdiv 2).fmod 2=1)):∀p∈x.op,∀q∈p.2,∀o,nA o=p.1->bY o (ah ρ q.1.1) (ah ρ q.1.2)=some (ah ρ q.2):=by
 intro p hp q hq;have i:∀x,ah ρ (iS x)= .int (ρ.int x):=ae;have c2:=au G 2;simp only[LP.op,YS,Y2,Zl]at hp;rcases hp with rfl|rfl
 ·rcases YS.mp hq with rfl|hq
  ·exact cM (i 30) c2 rfl (by rw[i,Pr,T0])
  rcases Y8.mp hq with hq|hq
  ·split at hq
   ·rw[YR.mp hq];exact cM (i 31) c2 rfl (by rw[i,XM,Pr])
   ·cases hq
  ·unfold Am at hq;split at hq
   ·rename_i e;simp only[YS,Y2,Zl]at hq;rcases hq with rfl|rfl|rfl
    ·exact cM (i _) (au G 3) rfl (by rw[i,Av])
    ·exact cM (i _) (au G 5) rfl (by rw[i,IK])
    ·exact cM (i _) c2 rfl (by rw[i,G4,IK])
   ·cases hq
 ·rcases YS.mp hq with rfl|hq
  ·exact bI (i 30) c2 rfl (by rw[WI,T0];exact ke G)
  rcases Y8.mp hq with hq|hq
  ·split at hq
   ·rw[YR.mp hq];exact bI (i 31) c2 rfl (by rw[i,XK,Pr])
   ·rename_i hQ;split at hq
    ·rename_i h4
     (refine(YR.mp hq).symm ▸?_);exact bI (i 31) c2 rfl (by rw[Qj hQ h4,Pr];exact ke G)
    ·cases hq
  ·unfold Am at hq;split at hq
   ·rename_i e;simp only[YS,Y2,Zl]at hq;rcases hq with rfl|rfl
    ·exact bI (i 40) (i 2) (by rw[h2];exact Zn EU) (by rw[i,(h4 e).1,Av,h2])
    ·exact bI (i 41) c2 rfl (by rw[i,(h4 e).2,IK])
   ·cases hq
end
def RE(c:Cf)(k j:Nat)(z:Int):LP:=
 let su:=(fm c k j).su
 let zp:=su&&decide (z.fmod 2=1)
 ⟨{fm c k j with ka:=false,ks:=false},zp,match Nat.beq k 4&&zp&& !isQ j with|true=>decide ((z.fdiv 2).fmod 2=1)|false=>false⟩
theorem Fg(su b:Bool):(su&&b)∈PF su:=by cases su<;>cases b<;>decide
theorem Fi(k j:Nat)(zp b:Bool):(match Nat.beq k 4&&zp&& !isQ j with|true=>b|false=>false)∈OT k j zp:=by
 unfold OT;cases Nat.beq k 4&&zp&& !isQ j with
 |true=>exact dW _
 |false=>exact .head _
section
variable{g:Gh}{σ σ':St}
theorem M8(hr:aR j=false):OP.su {fm c k j with ka:=a,ks:=b}=(fm c k j).su:=by
 show(match aR j with|true=>_|false=>_)=(match aR j with|true=>_|false=>_)
 (refine(hr).symm ▸ rfl)
theorem My(h:eB c N 4 v):∃r i b r',r∈rL/\i<N/\(b=(0:Int)\/b=1)/\r'∈rL/\v= .tup [.int (pv 0 r), .int ((i:Nat):Int), .tup [.int b, .int (pv 17 r')]]:=by
 cases h with
 |pl hk _=>exact absurd hk ak
 |ref hk _=>exact absurd hk ak
 |q hk _ _=>exact absurd hk (by simp)
 |s hr hi hb WV=>exact⟨_,_,_,_,hr,hi,hb,WV,rfl⟩
theorem Q9(h:cj g 4 v t):∃r i b r' a,r∈rL/\r'∈rL/\nth g.addrsL i=some a/\v= .tup [.int (pv 0 r), .int ((i:Nat):Int), .tup [.int b, .int (pv 17 r')]]/\t= .tup [.int 5, .int 20, .tup [.tup [.int 1, .int (pv 0 r)], .tup [.int 4,a],two g.c 24 (.tup [.int 1, .int b]) (.tup [.int 1, .int (cv 17 (pv 17 r'))])]]:=by
 cases h with
 |pl hk _=>exact absurd hk ak
 |ref hk _=>exact absurd hk ak
 |q hk _=>exact absurd hk (by simp)
 |s hr ha hu=>
  (refine cY (hu.q_inv (k':=17) rfl) λb w u q4 q5 hw=>?_;subst q4;subst q5)
  (refine aZ (hw.pl_inv ak) λr' rl q3 q4=>?_;subst q3;subst q4)
  exact⟨_,_,_,_,_,hr,rl,ha,rfl,rfl⟩
theorem Fk(h:two c kd a b=two c kd a' b'):a=a'/\b=b':=by
 unfold two at h;refine cX (c.tu) (λe=>?_) λe=>?_
 ·rw[e]at h;injection h with h;injection h with _ h;injection h with _ h;injection h with h _;injection h with h;injection h with h1 h;injection h with h2 _;exact⟨h2,h1⟩
 ·rw[e]at h;injection h with h;injection h with _ h;injection h with _ h;injection h with h _;injection h with h;injection h with h1 h;injection h with h2 _;exact⟨h1,h2⟩
theorem EJ(h:V.tup [a,b]= .tup [c,d]):a=c/\b=d:=by
 injection h with h;injection h with h1 h;injection h with h2 _;exact⟨h1,h2⟩
theorem AD(h:V.tup [a,b,c]= .tup [d,e,f]):a=d/\b=e/\c=f:=by
 injection h with h;injection h with h1 h;injection h with h2 h;injection h with h3 _;exact(gA h1 h2 h3)
theorem rz(h:V.int a= .int b):a=b:=by injection h
theorem JI(hc:g.c.ok)(hT:cj g 4 v t)(O:VO g (Z g σ X Y I) 0 4 v t)(K6:eB g.c g.N 4 v')(O':VO g (Z g σ X Y I) 10 4 v' t')(hV:eB g.c g.N 4 v):
  ∃w u,eB g.c g.N 4 w/\cj g 4 w u/\ah (Z g σ X Y I) (.tup [iS 32,iS 25,dl (iS 26) (iS 27)])=w/\ah (Z g σ X Y I) (.tup [cS 5,cS 20, .tup [dl (cS 1) (iS 32),dl (cS 4) (iS 28),jf g.c.tu 24 (dl (cS 1) (iS 26)) (dl (cS 1) (iS 29))]])=u:=by
 refine hg λcg kg=>?_;(refine cy (Q9 hT) λr i b q q=>?_;(refine uW q λa hr hq ha q5 q6=>?_;try clear q;subst q5;subst q6))
 (refine cy (My hV) λr1 i1 b1 q1 q=>?_;(refine AX q λ_ _ hb _ e1=>?_;try clear q))
 (refine cy (My K6) λr2 i2 b2 q2 q=>?_;(refine AX q λLF _ _ _ q5=>?_;try clear q;subst q5))
 refine dU (AD e1) λ_ _ e1=>?_;have e1:=rz (EJ e1).1;subst e1;have hi:=bk ha;rw[dF]at hi;have e:=O.v;have e':=O'.v;have et:=O.t;simp only[vS,bS,iE,dO,c7,ae]at e e'
 let z0:=bj g σ X Y I
 simp only[tS,bS,iE,dO,c7,ae,eP z0]at et;refine dU (AD e) λ_ f2 f3=>?_;obtain⟨f3,f4⟩:=EJ f3;refine dU (AD e') λf1 _ _=>?_;refine dU (AD et) λ_ _ et=>?_;refine dU (AD et) λ_ f5 f6=>?_;refine kg ?_;skip;refine(ci _ _ (.s LF hi hb hq) (.s LF ha (.q (k':=17) ak (.pl ak hq))) ?_ ?_)
 ·simp only[bS,iE,dO,c7,ae,(rz f1),(rz f2),(rz f3),(rz f4)]
 ·simp only[bS,iE,dO,c7,ae,eP z0,(rz f1),(rz f3),((EJ f5).2),(rz ((EJ (Fk f6).2).2))];rfl
end
section
variable{g:Gh}{σ σ':St}
set_option tactic.hygienic true in
theorem zj(h:Inv g σ)(bQ:g.ts=25)(hsz:g.bx.length+g.ce.length<=59)(hb:nth g.bx i=some b)(hj:j<25)(hr:aR j=false)(z:Int)(hm:60<=m):∃σ' g',(run pt m).c 220 [.obj 40 0, .str (aT j), .int ((i:Int)+4), .int z] σ=some (.ok (.bool true),σ')/\Inv g' σ'/\rp g g':=by
 refine hg λcg kg=>?_;refine Jo (vx h hb) λt l se fj hT hC=>?_;have B:=h.box i b hb;have hi:=bk hb
 let z1:=z.fdiv 2
 obtain⟨zz,WH⟩:∃zz,zz=(match isQ j with|true=>z1.fdiv 2|false=>z.fdiv 2):=⟨_,rfl⟩;refine a8 (qc (g:=g) h.ok B.nm zz) λv' t' K6 QC IJ=>?_;obtain⟨l',At⟩:=oh h.ok h.N100 B.nm QC;obtain⟨r,er⟩:∃r,r= [zz.fdiv 3,zz.fdiv 5,(zz.fdiv 5).fdiv 2,z1.fdiv 2,0,0,0,0,0,0,z1.fmod 2]:=⟨_,rfl⟩;have C:=hC [z,z.fdiv 2] l' r [];have G:=C.G;have O':=At (Z g σ (XC i b l [z,z.fdiv 2] l' r) (YC se fj []) (IC i b)) 10 G BE;obtain⟨X,hX⟩:∃X,X=XC i b l [z,z.fdiv 2] l' r:=⟨_,rfl⟩;have Ah:(Z g σ X (YC se fj []) (IC i b)).int 42=(zz.fdiv 5).fdiv 2:=by rw[hX,er];rfl
 have Ef:(Z g σ X (YC se fj []) (IC i b)).int 50=z1.fmod 2:=by rw[hX,er];rfl
 rw[<-hX]at C G O';obtain⟨x,hx⟩:∃x,x=RE g.c b.k j z:=⟨_,rfl⟩;have xk:x.k=b.k:=by rw[hx];rfl
 have xj:x.j=j:=by rw[hx];rfl
 let z0:=fm g.c b.k j
 have PH:x.su=z0.su:=by rw[hx];exact M8 hr
 have SC:x.zp=(z0.su&&decide (z.fmod 2=1)):=by rw[hx];rfl
 have SD:x.z2=(match Nat.beq b.k 4&&x.zp&& !isQ j with|true=>decide (z1.fmod 2=1)|false=>false):=by(refine(hx).symm ▸?_);rfl
 have PG:x.tu=z0.tu:=by rw[hx];rfl
 have cw:=Ea (x:=x) (by rw[xk];exact B.nm) (by rw[xj];exact hj) (by rw[xj];exact hr) (by rw[xk,xj,PG];exact xe ..) (by rw[hx];rfl) (by rw[hx];rfl) (by rw[xk,xj,(show x.ag=decide (aG g.c b.k=aG g.c j)from by rw[hx];rfl)];exact Cv h.ok B.nm hj) (by rw[PH,SC];exact Fg _ _) (by rw[xk,xj,SD];exact Fi _ _ _ _);have KP:(Z g σ X (YC se fj []) (IC i b)).int x.z=zz:=by
  unfold LP.z;rw[xj,WH];cases isQ j with
  |true=>exact(by rw[hX,er];rfl)
  |false=>exact(by rw[hX];rfl)
 have Ez:b.k=4->x.tu=g.c.tu:=by rw[PG];exact rT g.c
 have OY:x.q=true->x.tu=g.c.tu:=by rw[PG,(show x.q=z0.q from by rw[hx];rfl)];exact rQ g.c b.k j
 have eD:=fK (g:=g) (σ:=σ) (X:=X) (Y:=YC se fj []) (I:=IC i b) OY;unfold PU at cw;rw[xk]at cw
 refine U (j6 h eD (show fu g (Z g σ X (YC se fj []) (IC i b)) (fL x)from {
  bd:=λp hp=>by
   rcases Y8.mp hp with hp|hp
   ·exact O'.bd p hp
   rcases YS.mp hp with rfl|hp
   ·exact C.b20
   rcases YS.mp hp with rfl|hp
   ·exact C.b21
   exact C.O.bd p hp
  i1:=λq hq=>by rw[YR.mp hq,xk];exact C.i1
  i2:=λq hq=>by rw[YR.mp hq,xk];exact C.i2
  i3:=λq hq=>by
   rcases Y8.mp hq with hq|hq
   ·refine(YS.mp hq).elim (λq=>?_) λhq=>?_
    ·subst q;exact C.i3
    ·rw[xk]at hq;exact C.O.i3 q hq
   ·split at hq
    ·rw[xk]at hq;exact O'.i3 q hq
    ·cases hq
  i4:=λq hq=>by
   rcases Y8.mp hq with hq|hq
   ·refine(YS.mp hq).elim (λq=>?_) λhq=>?_
    ·subst q;exact C.i4
    ·rw[xk]at hq;exact C.O.i4 q hq
   ·split at hq
    ·rw[xk]at hq;exact O'.i4 q hq
    ·cases hq
  i6:=λq hq=>by rw[YR.mp hq];exact C.i6
  d1:=λq hq=>by(refine(YR.mp hq).symm ▸?_);exact C.d1
  op:=λp hp=>by
   have hp:p∈(match x.su with|true=>x.op|false=> []):=hp;split at hp
   ·rename_i hs;refine No G rfl (show(Z g σ X (YC se fj []) (IC i b)).int 30=z from by rw[hX];rfl) (by rw[hX];rfl) (by rw[hX,er];rfl) Ef (by rw[(show(Z g σ X (YC se fj []) (IC i b)).int 40=zz.fdiv 3 from by rw[hX,er];rfl),KP]) (by rw[(show(Z g σ X (YC se fj []) (IC i b)).int 41=zz.fdiv 5 from by rw[hX,er];rfl),KP]) (by rw[Ah,KP]) (λe=>by rw[KP];exact(IJ _ x.z G O' KP Ah).2 (xk ▸ e)) (by rw[SC,<-PH,hs];rfl) (λe1 e2=>?_) p hp;rw[SD];rw[xk]at e2;rw[xj]at e1;rw[e2,e1];rfl
   ·cases hp
  eq:=by(refine(show(fL x).eq=x.eq from rfl).symm ▸?_;refine((show x.eq=z0.eq from by rw[hx];rfl)).symm ▸?_);exact HD h.ok (vy B.nm) hj
  tg:=λq hq=>by
   rcases Y8.mp hq with hq|hq
   ·refine(Y8.mp hq).elim (λhq=>?_) λhq=>?_
    ·rw[xk]at hq;exact C.O.tg q hq
    ·rw[(show x.tg=z0.tg from by rw[hx];rfl)]at hq;exact HB h.ok hT C.O q hq
   ·split at hq
    ·rw[xk]at hq;exact O'.tg q hq
    ·cases hq
  vl:=λq hq=>by
   have hq:q∈(match x.wr with|true=>Io x.z x.k|false=> []):=hq;split at hq
   ·rw[xk]at hq;exact(IJ _ x.z G O' KP Ah).1 q hq
   ·cases hq
  cu:=J}) (dD (kc C (tu:=x.tu) Ez) (gn h OY)).1 (dD (kc C (tu:=x.tu) Ez) (gn h OY)).2 (by rw[bQ];exact cw) hm) λσ' e1 R=>?_
 refine kg ?_;have e1:=by
  simp only[dO,c7,ae,C.x20,(show(Z g σ X (YC se fj []) (IC i b)).int 30=z from by rw[hX];rfl),xj]at e1;exact e1
 have las:x.su=true->eB g.c g.N j (ah (Z g σ X (YC se fj []) (IC i b)) x.va):=λhs=>by
  rw[(show x.va=z0.va from by rw[hx];rfl)];exact B1 h.ok B.nm hj B.val C.O (i:=4+i) (by exact zav ‹_› _) (by rw[C.x20];exact zaJ _ _) (PH ▸ hs)
 have EE:x.su=true->ah (Z g σ X (YC se fj []) (IC i b)) x.la= .tup [.str (aT j),ah (Z g σ X (YC se fj []) (IC i b)) x.va]:=λhs=>by
  unfold OP.la;(refine(hs).symm ▸?_;refine(xj).symm ▸?_);rfl
 have tt:∀o,tS o b.k x.tu=tS o b.k g.c.tu:=λo=>by
  by_cases e:b.k=4
  ·rw[Ez e]
  ·exact rN e _ _
 unfold LP.post LP.cn at R;refine uy (x.su) (λhs=>?_) λhs=>?_
 ·
  rw[hs]at R;rw[xk]at R;have fr:=mf C R (λq hq=>Y0 _ hq) Ez;refine U (uT h eD R (λq hq=>YQ _ hq) rfl h.las fr.1 fr.2) λg' i1 i2=>?_;exact(aY (σ'.setE σ.env) g' e1 (i1.setE) i2)
 ·
  rw[hs,xj]at R;refine cX (isQ j) (λhQ=>?_) λhQ=>?_
  ·
   rw[hQ,xk]at R
   refine hg λcg kg=>?_;have Uc:=OY (by
    show(isQ x.j||Nat.beq x.k 4)=true;rw[xj,hQ];rfl)
   obtain⟨e,he⟩:∃e,fg j=some e:=by
    unfold isQ at hQ;cases q:fg j with
    |none=>rw[q]at hQ;exact nf hQ
    |some e=>exact⟨e,rfl⟩
   have Xo:=by
    have hs:(match aR x.j with|true=>_|false=>(match fg x.j with|some e=>Nat.beq e x.k|none=>x.ag))=true:=hs;rw[xj,hr,he,xk]at hs;exact aB.mp hs
   subst Xo;have AK:=by
    exact(show∀j,j<25->∀e∈gG,fg j=some e->(j,e)∈ [(7,0),(8,1),(9,4),(10,17),(11,6)]from by decide) j hj _ B.nm he
   have val:∃w u,eB g.c g.N j w/\cj g j w u/\ah (Z g σ X (YC se fj []) (IC i b)) x.cv=w/\ah (Z g σ X (YC se fj []) (IC i b)) x.ct=u:=by
    unfold LP.cv LP.ct;cases hz:x.zp with
    |true=>
     refine(ci _ _ (.q AK (ou z1) K6) (.q AK QC) ?_ ?_)
     ·simp only[IP,LR,lP,Ev,IO,iE,uv,LQ,Lb,Lc,dO,c7,xk,O'.v,ae,Ef]
     ·dsimp only;rw[Uc,eP G,xk,O'.t,xj,bS,au G,ae,Ef]
    |false=>
     refine(ci _ _ (.q AK (.inr rfl) B.val) (.q AK hT) ?_ ?_)
     ·simp only[IP,LR,lP,Ev,IO,iE,uv,LQ,Lb,Lc,dO,c7,xk,C.O.v,au G]
     ·dsimp only;rw[Uc,eP G,xk,C.O.t,xj,bS,au G]
   (refine cQ val λw u v1 v2 v3 v4=>?_;clear val)
   refine U (R6 h hsz (k:=j) eD R (λq hq=>YQ _ (by rw[xj]at*;exact hq)) (λq hq=>Y0 _ (Y0 _ hq)) (A8 _ AK).2 v1 v2 v3 v4 (EE hs) ⟨hj,las hs⟩ (mf C R (λq hq=>Y0 _ (YQ _ hq)) Ez).1 (mf C R (λq hq=>Y0 _ (YQ _ hq)) Ez).2) λg' i1 i2=>?_;refine kg ?_;exact(aY (σ'.setE σ.env) g' e1 (i1.setE) i2)
  ·
   rw[hQ]at R;cases hz:x.zp with
   |true=>
    rw[hz]at R
    refine cQ ((show∃w u,eB g.c g.N b.k w/\cj g b.k w u/\ah (Z g σ X (YC se fj []) (IC i b)) x.nv=w/\ah (Z g σ X (YC se fj []) (IC i b)) x.nt=u from by
     unfold LP.nv LP.nt
     (refine(xk).symm ▸?_)
     cases h4:Nat.beq b.k 4&&x.z2 with
     |true=>
      have O:=C.O;have hv:=B.val;dsimp only;rw[Ez (aB.mp (YN.mp h4).1)];rw[(aB.mp (YN.mp h4).1)]at hT O K6 O' hv⊢;exact JI h.ok hT O K6 O' hv
     |false=>
      dsimp only;exact(ci _ _ K6 QC (O'.v) (by rw[tt];exact O'.t)))) λw u v1 v2 v3 v4=>?_
    refine U (R5 h (i:=i) (b:=b) eD R hb (by exact C.x20) rfl rfl v1 v2 v3 v4 (EE hs) ⟨hj,las hs⟩) λg' i1 i2=>?_;exact(aY (σ'.setE σ.env) g' e1 (i1.setE) i2)
   |false=>
    rw[hz,xk]at R;refine U (uT h eD R (λq hq=>YQ _ hq) (EE hs) ⟨hj,las hs⟩ (mf C R (λq hq=>Y0 _ hq) Ez).1 (mf C R (λq hq=>Y0 _ hq) Ez).2) λg' i1 i2=>?_;exact(aY (σ'.setE σ.env) g' e1 (i1.setE) i2)
end
noncomputable def IQ (σ:St) (i s _j:Nat):Nat:=match s with|4=>i - 1|9=>i - 1|s=>(σ.heap s).length
theorem i4:∀i,i<4->i∈ [0,1,2,3]:=by decide
def kY(c:Cf)(i j:Nat):QP:=⟨i,j,match isQ j with|true=>c.tu|false=>false,match aR j&& !Nat.beq j 12&& !Nat.beq i 0 with|true=>c.ka|false=>false,match aR j&& !Nat.beq j 12&& !Nat.beq i 0 with|true=>c.ks|false=>false⟩
theorem BZ(c:Cf)(i j:Nat):(kY c i j).tu∈z5 0 j:=by
 show(match isQ j with|true=>c.tu|false=>false)∈z5 0 j;unfold z5
 (refine(show(isQ j||Nat.beq 0 4)=isQ j from zbF _).symm ▸?_)
 cases isQ j with
 |true=>exact dW _
 |false=>exact .head _
theorem OH(hi:i<4)(hj:j<25)(hq:i=0->isQ j=false):Th (kY c i j)=true:=by
 refine U (lC _ hj) λg hg hj=>?_;have h:=(MM i (i4 i hi) g hg).1;unfold Ti at h;rw[YO]at h;have h:=h j hj
 rw[(show(Nat.beq i 0&&isQ j)=false from by
  cases e:Nat.beq i 0 with
  |false=>rfl
  |true=>rw[hq (aB.mp e)];rfl),zbj,YO]at h
 have h:=h _ (BZ c i j);rw[YO]at h;refine h ((kY c i j).ka,(kY c i j).ks) ?_;show((match aR j&& !Nat.beq j 12&& !Nat.beq i 0 with|true=>c.ka|false=>false),(match aR j&& !Nat.beq j 12&& !Nat.beq i 0 with|true=>c.ks|false=>false))∈Qh i j;unfold Qh;cases aR j&& !Nat.beq j 12&& !Nat.beq i 0 with
 |true=>cases c.ka<;>cases c.ks<;>decide
 |false=>exact .head _
theorem OG(hi:i<4)(hj:j<25)(hq:i=0->isQ j=false)(hr:aR j=false):Td {kY c i j with ka:=false,ks:=false}=true:=by
 refine U (lC _ hj) λg hg hj=>?_;have h:=(MM i (i4 i hi) g hg).2;unfold Te at h;rw[YO]at h;have h:=h j hj
 rw[(show(Nat.beq i 0&&isQ j)=false from by
  refine uy (Nat.beq i 0) (λe=>?_) λe=>?_
  ·rw[e];rfl
  ·rw[e];rw[hq (aB.mp e)];rfl),hr,zbj,zbj,YO]at h
 exact h _ (BZ c i j)
section
variable{g:Gh}{σ σ':St}
theorem kn(h:Inv g σ){i:Nat}(hi:i<4):∃se rw,∀(X:Nat->Int) (yl:List V),(iM (rD i)=true/\∀p∈rD i,∀r∈p.2,nth (σ.heap p.1) ((Z g σ X (YC se rw yl) (IQ σ i)).ix p.1 r.1)=some (aC (Z g σ X (YC se rw yl) (IQ σ i)) r.2))/\∀j tu ka ks,fu g (Z g σ X (YC se rw yl) (IQ σ i)) (fQ ⟨i,j,tu,ka,ks⟩):=by
 have hN:0<g.N/\1<g.N/\2<g.N/\3<g.N:=⟨Lj ak,Lj ak,Lj ak,Lj ak⟩;have hc:=h.cnt;rcases Qe hi with rfl|rfl|rfl|rfl
 ·refine(uU (.none) (.none) (λX yl=>⟨⟨rfl,J⟩,λj tu ka ks=>{bd:=J,i1:= ?_,i2:= ?_,i3:= ?_,i4:= ?_,i6:=J,d1:=J,op:=J,eq:=J,tg:=J,vl:=J,cu:=J}⟩))<;>intro q hq<;>(refine(YR.mp hq).symm ▸?_)
  ·exact(aM (0) rfl ak rfl)
  ·exact(aM (0) rfl ak rfl)
  ·exact(aM (0) rfl ak ((d8 hN.1).trans rfl))
  ·exact(aM (0) rfl ak rfl)
 ·obtain⟨fj,e4⟩:=h.it0;obtain⟨se,e9⟩:=h.th0;refine(uU se fj (λX yl=>⟨⟨rfl,?_⟩,λj tu ka ks=>{bd:=J,i1:= ?_,i2:= ?_,i3:= ?_,i4:= ?_,i6:= ?_,d1:= ?_,op:=J,eq:=J,tg:=J,vl:=J,cu:=J}⟩))
  ·intro p hp r hr;simp only[rD,YS,Y2,Zl]at hp;rcases hp with rfl|rfl|rfl<;>(refine(YR.mp hr).symm ▸?_)
   ·exact e4
   ·exact e9
   ·exact h.sp
  all_goals
   intro q hq;(refine(YR.mp hq).symm ▸?_)
  ·exact(aM (1) rfl ak rfl)
  ·exact(aM (1) rfl ak rfl)
  ·exact(aM (1) rfl ak ((d8 hN.2.1).trans rfl))
  ·exact(aM (1) rfl ak rfl)
  ·exact(aM (1) rfl ak (gj (g:=g) (i:=0) (Uo ak)))
  ·exact gU (th:=0) (n:=g.n) (Y9 ak (n3 hc))
 ·obtain⟨fj,e4⟩:=h.it1;obtain⟨se,e9⟩:=h.th1;refine(uU se fj (λX yl=>⟨⟨rfl,?_⟩,λj tu ka ks=>{bd:=J,i1:= ?_,i2:= ?_,i3:= ?_,i4:= ?_,i6:= ?_,d1:= ?_,op:=J,eq:=J,tg:=J,vl:=J,cu:=J}⟩))
  ·intro p hp r hr;simp only[rD,YS,Y2,Zl]at hp;rcases hp with rfl|rfl|rfl<;>(refine(YR.mp hr).symm ▸?_)
   ·exact e4
   ·exact e9
   ·exact h.sp
  all_goals
   intro q hq;(refine(YR.mp hq).symm ▸?_)
  ·exact(aM (2) rfl ak rfl)
  ·exact(aM (2) rfl ak rfl)
  ·exact(aM (2) rfl ak ((d8 hN.2.2.1).trans rfl))
  ·exact(aM (2) rfl ak rfl)
  ·exact(aM (2) rfl ak (gj (g:=g) (i:=1) (Uo ak)))
  ·exact gU (th:=1) (n:=g.n) (Y9 ak (n3 hc))
 ·obtain⟨fj,e4⟩:=h.it2;obtain⟨se,e9⟩:=h.th2;refine(uU se fj (λX yl=>⟨⟨rfl,?_⟩,λj tu ka ks=>{bd:=J,i1:= ?_,i2:= ?_,i3:= ?_,i4:= ?_,i6:= ?_,d1:= ?_,op:=J,eq:=J,tg:=J,vl:=J,cu:=J}⟩))
  ·intro p hp r hr;simp only[rD,YS,Y2,Zl]at hp;rcases hp with rfl|rfl|rfl<;>(refine(YR.mp hr).symm ▸?_)
   ·exact e4
   ·exact e9
   ·exact h.sp
  all_goals
   intro q hq;(refine(YR.mp hq).symm ▸?_)
  ·exact(aM (3) rfl ak rfl)
  ·exact(aM (3) rfl ak rfl)
  ·exact(aM (3) rfl ak ((d8 hN.2.2.2).trans rfl))
  ·exact(aM (3) rfl ak rfl)
  ·exact(aM (3) rfl ak (gj (g:=g) (i:=2) (Y4 _ _)))
  ·exact gU (th:=2) (n:=g.n) (n3 hc)
theorem E1(R:AA (Z g σ X Y (IQ σ i)) f σ σ' yn cn):(∀i o,nth (σ.heap 8) i=some o->nth (σ'.heap 8) i=some o)/\∀i o,nth (σ.heap 12) i=some o->nth (σ'.heap 12) i=some o:=
 ⟨λi o h=>R.fr 8 (.inl rfl) i o h (by have:=bk h;exact ZP ‹_›),λi o h=>R.fr 12 (.inr rfl) i o h (by have:=bk h;exact ZP ‹_›)⟩
theorem ol(c:Cf)(i j:Nat):(kY c i j).q=true->(kY c i j).tu=c.tu:=by
 intro h;show(match isQ j with|true=>c.tu|false=>false)=_
 (refine((show isQ j=true from h)).symm ▸ rfl)
theorem HA(c:Cf)(i j:Nat):(kY c i j).kq=true->(kY c i j).ka=c.ka/\(kY c i j).ks=c.ks:=by
 intro h;show(match aR j&& !Nat.beq j 12&& !Nat.beq i 0 with|true=>c.ka|false=>false)=_/\(match aR j&& !Nat.beq j 12&& !Nat.beq i 0 with|true=>c.ks|false=>false)=_
 (refine((show(aR j&& !Nat.beq j 12&& !Nat.beq i 0)=true from h)).symm ▸?_);exact⟨rfl,rfl⟩
theorem Dh(h:Inv g σ)(bQ:g.ts=25){i j:Nat}(hi:i<4)(hj:j<25)(hq:i=0->isQ j=false)(hm:60<=m):∃σ' g',(run pt m).c 216 [.obj 40 0, .str (aT j), .int (i:Int)] σ=some (.ok (.bool true),σ')/\Inv g' σ'/\rp g g':=by
 refine hg λcg kg=>?_;refine iQ (kn h hi) λse fj hf=>?_;obtain⟨ho,fs⟩:=hf gw [];have eD:=fK (g:=g) (σ:=σ) (X:=gw) (Y:=YC se fj []) (I:=IQ σ i) (ol g.c i j)
 let z0:=kY g.c i j
 refine U (j6 h eD (fs j z0.tu z0.ka z0.ks) (dD (dD ho (lG h (HA g.c i j))) (gn h (ol g.c i j))).1 (dD (dD ho (lG h (HA g.c i j))) (gn h (ol g.c i j))).2 (by rw[bQ];exact(OH (c:=g.c) hi hj hq)) hm) λσ' e1 R=>?_
 refine bR ((show∃lk lv,ah (Z g σ gw (YC se fj []) (IQ σ i)) z0.la= .tup [.str (aT lk),lv]/\lk<25/\eB g.c g.N lk lv from by
  refine cX (z0.su) (λhs=>?_) λhs=>?_
  ·
   refine(aY j (.int (i:Int)) ?_ hj (.ref ((show∀j,j<25->aR j=true->j∈ [12,13,14,15]from by decide) j hj (by
    have hs:(match aR j with|true=>_|false=>false)=true:=hs;cases e:aR j with
    |true=>rfl
    |false=>rw[e]at hs;exact nf hs)) (by exact Y9 ‹_› (Y4 _ _))))
   unfold QP.la;rw[hs];simp only[iE,dO,c7,au (bj g σ gw (YC se fj []) (IQ σ i))];rfl
  ·
   refine(gz (g.lk) (g.lv) ?_ (h.las));unfold QP.la;rw[hs];rfl)) λlk lv l1 l2=>?_
 refine U (uT h eD R (λ_ h=>h) l1 l2 (E1 R).1 (E1 R).2) λg' i1 i2=>?_;refine kg ?_;refine(aY (σ'.setE σ.env) g' ?_ (i1.setE) i2);simp only[dO,c7,au (bj g σ gw (YC se fj []) (IQ σ i))]at e1;exact e1
theorem zn(h:Inv g σ)(bQ:g.ts=25){i j:Nat}(hi:i<4)(hj:j<25)(hq:i=0->isQ j=false)(hr:aR j=false)(z:Int)(hm:60<=m):∃σ' g',(run pt m).c 220 [.obj 40 0, .str (aT j), .int (i:Int), .int z] σ=some (.ok (.bool true),σ')/\Inv g' σ'/\rp g g':=by
 refine hg λcg kg=>?_;refine iQ (kn h hi) λse fj hf=>?_;obtain⟨ho,fs⟩:=hf (λ_=>z) [];have eD:=fK (g:=g) (σ:=σ) (X:=λ_=>z) (Y:=YC se fj []) (I:=IQ σ i) (ol g.c i j);refine U (j6 h eD (fs j (kY g.c i j).tu false false) (dD ho (gn h (ol g.c i j))).1 (dD ho (gn h (ol g.c i j))).2 (by rw[bQ];exact(OG (c:=g.c) hi hj hq hr)) hm) λσ' e1 R=>?_;refine U (uT h eD R (λ_ h=>h) rfl h.las (E1 R).1 (E1 R).2) λg' i1 i2=>?_;refine kg ?_;refine(aY (σ'.setE σ.env) g' ?_ (i1.setE) i2);simp only[dO,c7,au (bj g σ (λ_=>z) (YC se fj []) (IQ σ i)),ae]at e1;exact e1
end
def Qc:Tr Nat:=uJ 9 1 [(18,4),(31,1)]
def yo(f:Fs):Fx:={lu (.any 1) f with mo:=Qc}
theorem xA:jk (λ_ v=>Nat.beq v 1||Nat.beq v 4) Qc=true:=by decide+kernel
theorem NC:jk (λs v=>(Nat.beq s 18||Nat.beq s 31)&&(!Nat.beq s 18||Nat.beq v 4)) Qc=true:=by decide+kernel
section
variable{g:Gh}{σ σ':St}{X:Nat->Int}{Y:Nat->V}{I:Nat->Nat->Nat}
theorem J4(s:Nat)(h:s=4\/s=8\/s=9\/s=12):yv (yo f) s=false:=by
 unfold yv;rcases md_all (F:=yo f) (p:=λs v=>(Nat.beq s 18||Nat.beq s 31)&&(!Nat.beq s 18||Nat.beq v 4)) NC s with e|e
 ·rw[e];rfl
 ·rw[YW]at e;rcases h with rfl|rfl|rfl|rfl<;>exact nf (e.1)
theorem NB(s:Nat):yi (md (yo f) s)=false:=by
 rcases md_all (F:=yo f) (p:=λ_ v=>Nat.beq v 1||Nat.beq v 4) xA s with e|e
 ·rw[e];rfl
 ·rw[ZT]at e;rcases e with e|e<;>rw[aB.mp e]<;>rfl
theorem Bg(s:Nat)(h:md (yo f) s≠4):ip s=false:=by
 cases e:ip s with
 |false=>rfl
 |true=>
  have:=aB.mp e;subst this;exact absurd rfl h
theorem XS(h:Inv g σ)(k:fu g (Z g σ X Y I) f):uz (Z g σ X Y I) (yo f) (σ.setE []):=
 let F:=QO h (tu:= .any 1) rfl k
 {F with
  ca:=λp hp q hq S σ' hs j2 m hm=>by
   refine iQ (jx j2) λa l e1=>?_;have yr:=wG h rfl (hs.at_ _ _ _ e1) λs i o hh ho=>hs.ro s (NB s) i o ho;have hp:p∈ [(197,f.tg),(191,f.vl),(56,f.cu)]:=hp;simp only[YS,Y2,Zl]at hp;rcases hp with rfl|rfl|rfl
   ·exact gv (k.tg q hq) Bg (Zd 22) hs yr m hm
   ·exact gv (k.vl q hq) Bg (Zd 22) hs yr m hm
   ·exact gv (k.cu q hq) Bg (Zd 22) hs yr m hm}
theorem Inv.ext(h:Inv g σ)(x:L1 gr σ σ')(hg:∀s,(s=4\/s=8\/s=9\/s=12)->gr s=false):Inv g σ':={
  h with
  gen:=λs j o e=>by
   rw[(jP g σ' σ gw gw bZ bZ bw bw h.tsv e).1,(jP g σ' σ gw gw bZ bZ bw bw h.tsv e).2];exact x.keep _ _ _ (h.gen s j o e)
  kin:=x.keep _ _ _ h.kin
  rows:=x.keep _ _ _ h.rows
  rowd:=λi hi=>x.keep _ _ _ (h.rowd i hi)
  scr:=x.keep _ _ _ h.scr
  l4:=by rw[x.len 4 (hg 4 (ak))];exact h.l4
  l8:=by rw[x.len 8 (hg 8 (ak))];exact h.l8
  l9:=by rw[x.len 9 (hg 9 (ak))];exact h.l9
  l12:=by rw[x.len 12 (hg 12 (ak))];exact h.l12
  box:=λi b hb=>(h.box i b hb).mono rfl (Zd _) (λ_ _ h=>h) (Zd _) (x.keep 4) (x.keep 8 i) (x.keep 9) (x.keep 12 _)
  cell:=λb hb=>(h.cell b hb).mono rfl (Zd _) (λ_ _ h=>h) (Zd _) (x.keep 9) (x.keep 12 _)
  it0:=let ⟨r,e⟩:=h.it0;⟨r,x.keep _ _ _ e⟩
  it1:=let ⟨r,e⟩:=h.it1;⟨r,x.keep _ _ _ e⟩
  it2:=let ⟨r,e⟩:=h.it2;⟨r,x.keep _ _ _ e⟩
  sp:=x.keep _ _ _ h.sp
  sl:=λi hi=>x.keep _ _ _ (h.sl i hi)
  th0:=let ⟨r,e⟩:=h.th0;⟨r,x.keep _ _ _ e⟩
  th1:=let ⟨r,e⟩:=h.th1;⟨r,x.keep _ _ _ e⟩
  th2:=let ⟨r,e⟩:=h.th2;⟨r,x.keep _ _ _ e⟩
  ts:=(gA (x.keep _ _ _ h.ts.1) (x.keep _ _ _ h.ts.2.1) (x.keep _ _ _ h.ts.2.2))}
theorem dS(h:Inv g σ)(bQ:g.ts=25)(k:fu g (Z g σ X Y I) f)(cw:eJ (yo f) n fn args (gens (.any 1) 25) r=true)(hm:n<=m):∃σ',(run pt m).c fn (ax (Z g σ X Y I) args) σ=some (.ok (ah (Z g σ X Y I) r),σ')/\Inv g σ'/\σ'.env=σ.env:=by
 refine U (d7 (XS h k).ok (λs j o ho=>h.ent (by(refine(bQ).symm ▸?_);exact ho)) (gS (jE (.inl rfl))) xA hm cw) λσ' e1 e2=>?_;exact(aM σ' e1 (h.ext e2 J4) (e2.env))
theorem CT(h:Inv g σ)(sp:aJ (WS g.c) ip c0 f args r)(hm:c0<=m):∃σ',(run pt m).c f args σ=some (.ok r,σ')/\Inv g σ'/\σ'.env=σ.env:=by
 refine U (sp σ (Jq h) m hm) λσ' e1 e2=>?_;exact(aM σ' e1 (h.ext e2 (λs hs=>by rcases hs with rfl|rfl|rfl|rfl<;>rfl)) (e2.env))
end
def G7:Fs:=⟨[], [], [], [], [], [], [], [], [], [], [], []⟩
def fV(k:Nat):Fs:={G7 with op:= [(3,(Am 22 k).1),(4,(Am 22 k).2)],vl:=Io 22 k}
def UN(k:Nat):Bool:=eJ (yo (fV k)) 60 191 [w0,sN k,iS 22] (gens (.any 1) 25) (vS 10 k)
def fR:Fs:={G7 with op:= [(4, [((iS 22,iS 2),iS 23)])]}
def Q7(k:Nat):Bool:=eJ (yo fR) 60 191 [w0,sN k,iS 22] (gens (.any 1) 25) (iS 23)
def fT(e:Nat):Fs:={G7 with op:= [(3,((iS 22,cS 2),iS 43)::(Am 43 e).1),(4,((iS 22,cS 2),iS 50)::(Am 43 e).2)],vl:=Io 43 e}
def UL(k e:Nat):Bool:=eJ (yo (fT e)) 60 191 [w0,sN k,iS 22] (gens (.any 1) 25) (.tup [iS 50,vS 10 e])
theorem Oz:(gG.all UN)=true:=by decide+kernel
theorem Oy:([12,13,14,15].all Q7)=true:=by decide+kernel
theorem Ox:([(7,0),(8,1),(9,4),(10,17),(11,6)].all λp=>UL p.1 p.2)=true:=by decide+kernel
def fE(r:SV):Fs:={G7 with bd:= [(24,(0,5))],op:= [(3, [((iS 22,cS 8),iS 23)]),(4, [((iS 22,cS 8),r),((iS 23,cS 3),iS 25),((iS 23, .int 2 (-4)),iS 26)])]}
def PQ(r q:SV):Bool:=eJ (yo (fE r)) 60 222 [w0,iS 22] (gens (.any 1) 25) q
theorem OF:(PQ (cS 7) (cS 0)&&PQ (cS 6) (.int 25 1)&&PQ (iS 24) (.int 26 4))=true:=by decide+kernel
def fA(i x:SV)(l:List ((SV×SV)×SV)):Fs:={G7 with bd:= [(20,(4,100)),(24,(0,2))],i1:= [(i,x)],op:= [(3, [((iS 22,cS 4),iS 23)]),(4,l)]}
def Hf(i x:SV)(l:List ((SV×SV)×SV))(r:SV):Bool:=eJ (yo (fA i x l)) 60 224 [w0,i,iS 22] (gens (.any 1) 25) r
def yF(ym:SV):(SV×SV)×SV:=((iS 22,cS 4),ym)
def nF(n:Nat):(SV×SV)×SV:=((iS 23,cS 25),cS n)
def zF(b:Bool):(SV×SV)×SV:=((iS 23,cS 2),b2 b)
noncomputable def Sg:List (Nat×Nat):= [(0,1),(1,3),(3,1),(2,0),(17,16),(16,17),(18,17),(19,20),(20,19),(21,20),(22,23),(23,22),(24,0),(4,5),(5,6),(6,5)]
noncomputable def HH (k:Nat):Nat:=match k with|0=>7|1=>8|4=>9|17=>10|6=>11|k=>k
def vA(k:Nat):Nat:=(aN k Sg).getD k
theorem OM:(n0.all λn=>Hf (iS 20) (.any 11) [yF (cS 3),nF n] (sN n)&& [0,1,2,3].all λ(i:Nat)=>Hf (cS i) (.any 11) [yF (cS 3),nF n] (sN n))=true:=by decide+kernel
theorem ON:(n0.all λn=>Hf (cS 0) (.str []) [yF (iS 24),nF n] (sN n))=true:=by decide+kernel
def AS(k:Nat):List (List ((SV×SV)×SV)×SV):= [([yF (cS 0)],sN k),([yF (cS 1)],sN (HH k)),([yF (cS 2),zF false],sN (vA k)),([yF (cS 2),zF true],match k with|1=> .atom 1|3=> .atom 2|k=>sN (vA k))]
def PE(i:SV)(k:Nat):Bool:=(AS k).all λp=>Hf i (sN k) p.1 p.2
theorem OL:(gG.all λk=>PE (iS 20) k)=true:=by decide+kernel
theorem OK:([(1,13),(2,15),(3,13)].all λp:Nat×Nat=>PE (cS p.1) p.2)=true:=by decide+kernel
section
variable{g:Gh}{σ σ':St}{ρ:Ro}
theorem B2(G:ry g ρ)(h2:ρ.int 2=(g.N:Int))(Av:ρ.int 40=(ρ.int z).fdiv 3)(IK:ρ.int 41=(ρ.int z).fdiv 5)(G4:ρ.int 42=((ρ.int z).fdiv 5).fdiv 2)(h4:k=4->ρ.int 35=((ρ.int z).fdiv 3).fmod g.N/\ρ.int 36=((ρ.int z).fdiv 5).fmod 2):(∀q∈(Am z k).1,∀o,nA o=3->bY o (ah ρ q.1.1) (ah ρ q.1.2)=some (ah ρ q.2))/\∀q∈(Am z k).2,∀o,nA o=4->bY o (ah ρ q.1.1) (ah ρ q.1.2)=some (ah ρ q.2):=by
 have i:∀x,ah ρ (iS x)= .int (ρ.int x):=ae;unfold Am;split
 ·skip;refine⟨λq hq=>?_,λq hq=>?_⟩
  ·simp only[YS,Y2,Zl]at hq;rcases hq with rfl|rfl|rfl
   ·exact cM (i _) (au G 3) rfl (by rw[i,Av])
   ·exact cM (i _) (au G 5) rfl (by rw[i,IK])
   ·exact cM (i _) (au G 2) rfl (by rw[i,G4,IK])
  ·simp only[YS,Y2,Zl]at hq;rcases hq with rfl|rfl
   ·exact bI (i 40) (i 2) (by rw[h2];exact Zn EU) (by rw[i,(h4 rfl).1,Av,h2])
   ·exact bI (i 41) (au G 2) rfl (by rw[i,(h4 rfl).2,IK])
 ·exact⟨J,J⟩
theorem uR(h1:∀p∈bd,p.2.1<=ρ.int p.1/\ρ.int p.1<=p.2.2)(h2:∀q∈i1,iw ρ 1 q)(h3:∀p∈op,∀q∈p.2,∀o,nA o=p.1->bY o (ah ρ q.1.1) (ah ρ q.1.2)=some (ah ρ q.2))(h4:∀q∈vl,aJ (WS g.c) ip 22 191 (ax ρ q.1) (ah ρ q.2)):fu g ρ {G7 with bd:=bd,i1:=i1,op:=op,vl:=vl}:=
 ⟨h1,h2,J,J,J,J,J,h3,J,J,h4,J⟩
theorem yA{l3 l4:List ((SV×SV)×SV)}(h3:∀q∈l3,∀o,nA o=3->bY o (ah ρ q.1.1) (ah ρ q.1.2)=some (ah ρ q.2))(h4:∀q∈l4,∀o,nA o=4->bY o (ah ρ q.1.1) (ah ρ q.1.2)=some (ah ρ q.2)):∀p∈ [(3,l3),(4,l4)],∀q∈p.2,∀o,nA o=p.1->bY o (ah ρ q.1.1) (ah ρ q.1.2)=some (ah ρ q.2):=by
 intro p hp;simp only[YS,Y2,Zl]at hp;rcases hp with rfl|rfl
 ·exact h3
 ·exact h4
theorem xd(h:Inv g σ)(bQ:g.ts=25)(hk:k<25)(z:Int)(hm:60<=m):∃v σ',eB g.c g.N k v/\(run pt m).c 191 [.obj 40 0, .str (aT k), .int z] σ=some (.ok v,σ')/\Inv g σ'/\σ'.env=σ.env:=by
 rcases(show∀k,k<25->k∈gG\/k∈ [12,13,14,15]\/∃e∈gG,(k,e)∈ [(7,0),(8,1),(9,4),(10,17),(11,6)]from by decide) k hk with hb|hr|⟨e,he,hq⟩
 ·refine hg λcg kg=>?_;refine a8 (qc (g:=g) h.ok hb z) λv t hV hT hN=>?_;obtain⟨l',At⟩:=oh h.ok h.N100 hb hT;obtain⟨X,hX⟩:∃X,X=XC 0 ⟨0, .none,0⟩ [z] [] l' [z.fdiv 3,z.fdiv 5,(z.fdiv 5).fdiv 2]:=⟨_,rfl⟩;have G:=bj g σ X bZ bw;have O':=At (Z g σ X bZ bw) 10 G (by rw[hX];exact BE);have gY:(Z g σ X bZ bw).int 22=z:=by rw[hX];rfl
  have Ah:(Z g σ X bZ bw).int 42=(z.fdiv 5).fdiv 2:=by rw[hX];rfl
  have ops:=B2 G rfl (z:=22) (k:=k) (by rw[(show(Z g σ X bZ bw).int 40=z.fdiv 3 from by rw[hX];rfl),gY]) (by rw[(show(Z g σ X bZ bw).int 41=z.fdiv 5 from by rw[hX];rfl),gY]) (by rw[Ah,gY]) (λe=>by rw[gY];exact(hN _ 22 G O' gY Ah).2 e);have fs:fu g (Z g σ X bZ bw) (fV k):=uR J J (yA ops.1 ops.2) (hN _ 22 G O' gY Ah).1;have ck:=Oz;rw[YO]at ck;refine aZ (dS h bQ fs (ck k hb) hm) λσ' e1 i1 e2=>?_;refine kg ?_;refine(ci v σ' hV ?_ i1 e2);simp only[dO,c7,ae,gY,O'.v]at e1;exact e1
 ·have K7:0<(g.N:Int):=EU;refine hg λcg kg=>?_;skip;have h2:z.fmod g.N<g.N:=ZJ _ K7;obtain⟨i,hi⟩:∃i:Nat,z.fmod g.N=(i:Int):=⟨_,(Zw (Zq _ K7)).symm⟩;obtain⟨X,hX⟩:∃X,X=o9 [0,0,z,i]:=⟨_,rfl⟩;have G:=bj g σ X bZ bw;have gY:(Z g σ X bZ bw).int 22=z:=by rw[hX];rfl
  have fs:fu g (Z g σ X bZ bw) fR:=uR J J (ac (ac (bI (ae 22) (ae 2) (Zn K7) (by rw[ae,(show(Z g σ X bZ bw).int 23=i from by rw[hX];rfl),gY];exact YV V.int hi.symm)) J) J) J;have ck:=Oy;rw[YO]at ck;refine aZ (dS h bQ fs (ck k hr) hm) λσ' e1 i1 e2=>?_;refine kg ?_;refine(ci (.int (i:Int)) σ' (.ref hr (KZ hi h2)) ?_ i1 e2);simp only[dO,c7,ae,gY,(show(Z g σ X bZ bw).int 23=i from by rw[hX];rfl)]at e1;exact e1
 let z0:=z.fdiv 2
 ·refine hg λcg kg=>?_;refine a8 (qc (g:=g) h.ok he z0) λv t hV hT hN=>?_;obtain⟨l',At⟩:=oh h.ok h.N100 he hT;obtain⟨X,hX⟩:∃X,X=XC 0 ⟨0, .none,0⟩ [z] [] l' [z0.fdiv 3,z0.fdiv 5,(z0.fdiv 5).fdiv 2,z.fdiv 2,0,0,0,0,0,0,z.fmod 2]:=⟨_,rfl⟩;have G:=bj g σ X bZ bw;have O':=At (Z g σ X bZ bw) 10 G (by rw[hX];exact BE);have gY:(Z g σ X bZ bw).int 22=z:=by rw[hX];rfl
  have Ah:(Z g σ X bZ bw).int 42=(z0.fdiv 5).fdiv 2:=by rw[hX];rfl
  have Ij:(Z g σ X bZ bw).int 43=z.fdiv 2:=by rw[hX];rfl
  have Ef:(Z g σ X bZ bw).int 50=z.fmod 2:=by rw[hX];rfl
  have ops:=B2 G rfl (z:=43) (k:=e) (by rw[(show(Z g σ X bZ bw).int 40=z0.fdiv 3 from by rw[hX];rfl),Ij]) (by rw[(show(Z g σ X bZ bw).int 41=z0.fdiv 5 from by rw[hX];rfl),Ij]) (by rw[Ah,Ij]) (λe=>by rw[Ij];exact(hN _ 43 G O' Ij Ah).2 e);have fs:fu g (Z g σ X bZ bw) (fT e):=uR J J (yA (ac (cM (ae 22) (au G 2) rfl (by rw[ae,Ij,gY])) ops.1) (ac (bI (ae 22) (au G 2) rfl (by rw[ae,Ef,gY])) ops.2)) (hN _ 43 G O' Ij Ah).1;have ck:=Ox;rw[YO]at ck;refine aZ (dS h bQ fs (ck (k,e) hq) hm) λσ' e1 i1 e2=>?_;refine kg ?_;refine(ci _ σ' (.q hq (ou z) hV) ?_ i1 e2);simp only[dO,c7,iE,ae,gY,Ef,O'.v]at e1;exact e1
theorem FV(h:Inv g σ)(bQ:g.ts=25)(hb:1<=g.bx.length)(x:Int)(hm:60<=m):∃(i:Nat) (σ':St),i<g.N/\(run pt m).c 222 [.obj 40 0, .int x] σ=some (.ok (.int (i:Int)),σ')/\Inv g σ'/\σ'.env=σ.env:=by
 let z0:=x.fdiv 8
 have b1:0<=z0.fmod 3:=Zq _ ak;have LW:z0.fmod 3<3:=ZJ _ ak;have c1:0<=z0.fmod ((g.N:Int) - 4):=Zq _ (P6 hb);have c2:z0.fmod ((g.N:Int) - 4)<(g.N:Int) - 4:=ZJ _ (P6 hb);obtain⟨X,hX⟩:∃X,X=o9 [0,0,x,x.fdiv 8,if x.fmod 8<=5 then x.fmod 8 else 0,z0.fmod 3,z0.fmod ((g.N:Int) - 4)]:=⟨_,rfl⟩;have G:=bj g σ X bZ bw;have gY:(Z g σ X bZ bw).int 22=x:=by rw[hX];rfl
 have fs:∀r,ah (Z g σ X bZ bw) r= .int (x.fmod 8)->fu g (Z g σ X bZ bw) (fE r):=λr hr=>
  uR (ac (by(refine((show(Z g σ X bZ bw).int 24=if x.fmod 8<=5 then x.fmod 8 else 0 from by rw[hX];rfl)).symm ▸?_);split;exact⟨Zq _ ak, ‹_›⟩;decide) J) J
   (yA (ac (cM (ae 22) (au G 8) rfl (by rw[ae,(show(Z g σ X bZ bw).int 23=x.fdiv 8 from by rw[hX];rfl),gY])) J)
    (ac (bI (ae 22) (au G 8) rfl (by rw[hr,gY])) (ac (bI (ae 23) (au G 3) rfl (by rw[ae,(show(Z g σ X bZ bw).int 25=z0.fmod 3 from by rw[hX];rfl),(show(Z g σ X bZ bw).int 23=x.fdiv 8 from by rw[hX];rfl)])) (ac (bI (y:=(g.N:Int) - 4) (ae 23) (by show V.int ((g.N:Int)+ -4)=_;rw[Int.sub_eq_add_neg]) (Zn (P6 hb)) (by rw[ae,(show(Z g σ X bZ bw).int 26=z0.fmod ((g.N:Int) - 4)from by rw[hX];rfl),(show(Z g σ X bZ bw).int 23=x.fdiv 8 from by rw[hX];rfl)])) J)))) J
 have ck:=OF;rw[YW,YW]at ck;rcases WF (ZJ x (by decide:(0:Int)<8))with e|e|e
 ·refine aZ (dS h bQ (fs (cS 7) (by rw[e];exact au G 7)) ck.1.1 hm) λσ' e1 i1 e2=>?_;refine(ci (0) σ' (Y9 ‹_› (zan _ _)) ?_ i1 e2);simp only[dO,c7,ae,gY]at e1;exact e1
 ·obtain⟨σ',e1,i1,e2⟩:=dS h bQ (fs (cS 6) (by rw[e];exact au G 6)) ck.1.2 hm;refine(ci ((z0.fmod 3+1).toNat) σ' (tn b1 LW) ?_ i1 e2);simp only[dO,c7,ae,gY]at e1;rw[show ah (Z g σ X bZ bw) (.int 25 1)= .int ((Z g σ X bZ bw).int 25+1)from rfl,(show(Z g σ X bZ bw).int 25=z0.fmod 3 from by rw[hX];rfl)]at e1;rw[Zw (zbc b1 ak)];exact e1
 ·obtain⟨σ',e1,i1,e2⟩:=dS h bQ (fs (iS 24) (by rw[ae,(show(Z g σ X bZ bw).int 24=if x.fmod 8<=5 then x.fmod 8 else 0 from by rw[hX];rfl),ZU e])) ck.2 hm;refine(ci ((z0.fmod ((g.N:Int) - 4)+4).toNat) σ' (VP c1 c2) ?_ i1 e2);simp only[dO,c7,ae,gY]at e1;rw[show ah (Z g σ X bZ bw) (.int 26 4)= .int ((Z g σ X bZ bw).int 26+4)from rfl,(show(Z g σ X bZ bw).int 26=z0.fmod ((g.N:Int) - 4)from by rw[hX];rfl)]at e1;rw[Zw (zbc c1 ak)];exact e1
end
section
variable{g:Gh}{σ σ':St}
theorem mL:∀k,k<25->HH k<25/\vA k<25:=by decide
theorem KK(hc:g.c.ok)(hk:k<25):∀p∈AS k,∃j,j<25/\ah (Z g σ X Y I) p.2= .str (aT j):=by
 intro p hp;simp only[AS,YS,Y2,Zl]at hp;rcases hp with rfl|rfl|rfl|rfl
 ·exact(al k hk rfl)
 ·exact(al _ ((mL k hk).1) rfl)
 ·exact(al _ ((mL k hk).2) rfl)
 ·dsimp only;split
  ·exact(al _ (hP hc (show 1<25 by decide)) rfl)
  ·exact(al _ (hP hc (show 3<25 by decide)) rfl)
  ·exact(al _ ((mL k hk).2) rfl)
theorem gX(h:Inv g σ)(bQ:g.ts=25)(hi:i<g.N)(Qr:nth g.exactL i=some (.str nm))(y:Int)(Xj:iv=iS 20/\4<=i\/iv=cS i)(h3:∀n∈n0,Hf iv (.any 11) [yF (cS 3),nF n] (sN n)=true)(hk:(nm= []/\∀n∈n0,Hf iv (.str []) [yF (iS 24),nF n] (sN n)=true)\/∃k,k<25/\nm=aT k/\∀p∈AS k,Hf iv (sN k) p.1 p.2=true)(hm:60<=m):∃(j:Nat) (σ':St),j<25/\(run pt m).c 224 [.obj 40 0, .int (i:Int), .int y] σ=some (.ok (.str (aT j)),σ')/\Inv g σ'/\σ'.env=σ.env:=by
 have hN:=h.N100;have a1:0<=y.fmod 4:=Zq _ ak;have a2:y.fmod 4<4:=ZJ _ ak
 let z0:=y.fdiv 4
 have LW:z0.fmod 25<25:=ZJ _ ak;obtain⟨n,hn⟩:∃n:Nat,z0.fmod 25=(n:Int):=⟨_,(Zw (Zq _ ak)).symm⟩;have yH:n<25:=KZ hn LW;have Mo:=by
  exact(show∀n,n<25->n∈n0 from by decide) n yH
 obtain⟨X,hX⟩:∃X,X=o9 [max 4 i,0,y,y.fdiv 4,if y.fmod 4<=2 then y.fmod 4 else 0]:=⟨_,rfl⟩;obtain⟨Y,hY⟩:∃Y:Nat->V,Y=λx=>match x with|11=> .str nm|_=> .none:=⟨_,rfl⟩
 have G:=bj g σ X Y bw;have gY:(Z g σ X Y bw).int 22=y:=by rw[hX];rfl
 have Ik:(Z g σ X Y bw).int 23=y.fdiv 4:=by rw[hX];rfl
 have div:ah (Z g σ X Y bw) iv= .int (i:Int):=by
  rcases Xj with⟨rfl,h4⟩|rfl
  ·rw[ae,(show(Z g σ X Y bw).int 20=max 4 (i:Int)from by rw[hX];rfl)];exact YV V.int (Int.max_eq_right (ZI.mpr h4))
  ·exact au G _
 have fs:∀(x:SV) l,ah (Z g σ X Y bw) x= .str nm->(∀q∈l,∀o,nA o=4->bY o (ah (Z g σ X Y bw) q.1.1) (ah (Z g σ X Y bw) q.1.2)=some (ah (Z g σ X Y bw) q.2))->fu g (Z g σ X Y bw) (fA iv x l):=λx l hx hl=>
  uR (ac (by show 4<=(Z g σ X Y bw).int 20/\(Z g σ X Y bw).int 20<=100;rw[(show(Z g σ X Y bw).int 20=max 4 (i:Int)from by rw[hX];rfl)];exact⟨Int.le_max_left ..,Int.max_le.mpr ⟨by decide,ZI.mpr (YU (zac hi) hN)⟩⟩) (ac (by show 0<=(Z g σ X Y bw).int 24/\(Z g σ X Y bw).int 24<=2;(refine((show(Z g σ X Y bw).int 24=if y.fmod 4<=2 then y.fmod 4 else 0 from by rw[hX];rfl)).symm ▸?_);split;exact⟨a1, ‹_›⟩;decide) J))
   (ac (aM i div (YU (zac hi) (YU hN ak)) (by rw[hx];exact Qr)) J)
   (yA (ac (cM (ae 22) (au G 4) rfl (by rw[ae,Ik,gY])) J) hl) J
 have yf:∀r,ah (Z g σ X Y bw) r= .int (y.fmod 4)->∀o,nA o=4->bY o (ah (Z g σ X Y bw) (yF r).1.1) (ah (Z g σ X Y bw) (yF r).1.2)=some (ah (Z g σ X Y bw) (yF r).2):=λr hr=>bI (ae 22) (au G 4) rfl (by(refine(gY).symm ▸?_);exact hr);have nf:=bI (ae 23) (au G 25) rfl (by rw[Ik,hn];exact au G _);have zf:=bI (ae 23) (au G 2) rfl (by rw[Ik];exact ke G);have Et:∀{x l r},Hf iv x l r=true->fu g (Z g σ X Y bw) (fA iv x l)->∃σ',(run pt m).c 224 [.obj 40 0, .int (i:Int), .int y] σ=some (.ok (ah (Z g σ X Y bw) r),σ')/\Inv g σ'/\σ'.env=σ.env:=by
  intro x l r ck f;refine aZ (dS h bQ f ck hm) λσ' e1 i1 e2=>?_;refine(aM σ' ?_ i1 e2);simp only[dO,c7,ae,gY,div]at e1;exact e1
 by_cases e3:y.fmod 4=3
 ·refine U (Et (h3 n Mo) (fs (.any 11) _ (by rw[hY];rfl) (ac (yf _ (by rw[e3];exact au G 3)) (ac nf J)))) λσ' e1 e2=>?_;exact(aY n σ' yH e1 e2)
 ·rcases hk with⟨rfl,hk⟩|⟨k,hk,rfl,hc⟩
  ·have y3:=TD a2 e3;refine U (Et (hk n Mo) (fs (.str []) _ rfl (ac (yf (iS 24) (by rw[ae,(show(Z g σ X Y bw).int 24=if y.fmod 4<=2 then y.fmod 4 else 0 from by rw[hX];rfl),ZU y3])) (ac nf J)))) λσ' e1 e2=>?_;exact(aY n σ' yH e1 e2)
  ·have go:∀p∈AS k,(∀q∈p.1,∀o,nA o=4->bY o (ah (Z g σ X Y bw) q.1.1) (ah (Z g σ X Y bw) q.1.2)=some (ah (Z g σ X Y bw) q.2))->∃(j:Nat) (σ':St),j<25/\(run pt m).c 224 [.obj 40 0, .int (i:Int), .int y] σ=some (.ok (.str (aT j)),σ')/\Inv g σ'/\σ'.env=σ.env:=by
    intro p hp hq;refine U (KK (g:=g) (σ:=σ) (X:=X) (Y:=Y) (I:=bw) h.ok hk p hp) λj hj ej=>?_;refine U (Et (hc p hp) (fs (sN k) _ rfl hq)) λσ' e1 e2=>?_;rw[ej]at e1;exact(aY j σ' hj e1 e2)
   rcases WG a1 (TD a2 e3)with e|e|e
   ·exact go _ (.head _) (ac (yf _ (by rw[e];exact au G 0)) J)
   ·exact go _ (.tail _ (.head _)) (ac (yf _ (by rw[e];exact au G 1)) J)
   ·skip;refine uy (decide (z0.fmod 2=1)) (λq=>?_) λq=>?_
    ·rw[q]at zf;exact go _ (.tail _ (.tail _ (.head _))) (ac (yf (cS 2) (by rw[e];exact au G 2)) (ac zf J))
    ·rw[q]at zf;exact go _ (.tail _ (.tail _ (.tail _ (.head _)))) (ac (yf (cS 2) (by rw[e];exact au G 2)) (ac zf J))
theorem GQ(h:Inv g σ)(bQ:g.ts=25)(hi:i<g.N)(y:Int)(hm:60<=m):∃(j:Nat) (σ':St),j<25/\(run pt m).c 224 [.obj 40 0, .int (i:Int), .int y] σ=some (.ok (.str (aT j)),σ')/\Inv g σ'/\σ'.env=σ.env:=by
 have c3:=OM;rw[YO]at c3;have c3:=λn hn=>YN.mp (c3 n hn);by_cases h4:4<=i
 ·obtain⟨q,rfl⟩:∃q,i=4+q:=⟨i - 4,(zaq ‹_›).symm⟩;obtain⟨b,hb⟩:∃b,nth g.bx q=some b:=⟨_,by rw[cN];exact ZY (zau hi)⟩;have cb:=OL;rw[YO]at cb;have cb:=cb b.k (h.box q b hb).nm;unfold PE at cb;rw[YO]at cb;exact gX h bQ (iv:=iS 20) hi (oH hb) y (.inl ⟨rfl,h4⟩) (λn hn=>(c3 n hn).1) (.inr (aM (b.k) (vy (h.box q b hb).nm) rfl cb)) hm
 ·have hI:=λn hn=>by
   have:=(c3 n hn).2;rw[YO]at this;exact this i ((by decide:∀i,i<4->i∈ [0,1,2,3]) i (Nat.lt_of_not_le h4))
  have co:=OK;rw[YO]at co;have co:=λp hp=>by
   have:=co p hp;unfold PE at this;rw[YO]at this;exact this
  rcases Qe (Nat.lt_of_not_le h4)with rfl|rfl|rfl|rfl
  ·have c0:=ON;rw[YO]at c0;exact gX h bQ (iv:=cS 0) hi rfl y (.inr rfl) hI (.inl ⟨rfl,c0⟩) hm
  ·exact gX h bQ (iv:=cS 1) hi rfl y (.inr rfl) hI (.inr (aM (13) ak rfl (co (1,13) (.head _)))) hm
  ·exact gX h bQ (iv:=cS 2) hi rfl y (.inr rfl) hI (.inr (aM (15) ak rfl (co (2,15) (.tail _ (.head _))))) hm
  ·exact gX h bQ (iv:=cS 3) hi rfl y (.inr rfl) hI (.inr (aM (13) ak rfl (co (3,13) (.tail _ (.tail _ (.head _)))))) hm
end
def fY(lo hi:Int)(it:List (SV×SV))(b:Bool):Fx:={bd:=(1,(lo,hi))::PA,bl:= [(8,iS 21)],it:= [(8,it)],dt:= [],op:= [(2, [((cS 5,iS 1),iS 23)])],eq:= [],le:= [((iS 21,iS 1),b)],ca:= [],cf:=0,pre:=λ_=>true,mo:= .f 40 2}
noncomputable def O4:bu:= [(60, [(0, .list (.var 8) [])])]
def Wc:bu:= [(40, [(0, .dict none 1 (nY (.int 1 1) (.any 2) (.any 1)))])]
def PD(ts:Nat)(lo hi:Int)(it:List (SV×SV))(b:Bool)(r:SV):Bool:=jm (fY lo hi it b) 60 184 [w0] (O4++gens (.any 1) ts) r Wc uG
noncomputable def R1:List Int:= [0,2,8,1,10,8,6,2,8,31]
theorem KG:(PD 25 0 500 [(iS 1,iS 22)] false (iS 22)&&PD 25 10 500 [] true (.int 23 3)&& [0,1,2,3,4,5,6,7,8,9].all λ(n:Nat)=>PD 25 n n [] true (cS (lg R1 n)))=true:=by decide+kernel
def Q3:Al:=⟨nC [0,2,3,4,5,6,7,8],Jb,λs j=>Nat.blt j 1000&& !wF s,λ_=>true⟩
theorem DH:((gens (.any 1) 25).all λq=>q.2.all λr=>Nat.beq q.1 40||uC Q3 r.2)=true:=by decide+kernel
section
variable{g:Gh}{σ σ':St}
theorem Sl(g:Gh)(a:Int)(σ σ':St)(X X':Nat->Int)(Y Y':Nat->V)(I I':Nat->Nat->Nat):Hj Q3 (Z g σ X Y I) (Z {g with at_:=a} σ' X' Y' I') where
 i x h:=yM (P:=λx=>(Z g σ X Y I).int x=(Z {g with at_:=a} σ' X' Y' I').int x) h ⟨rfl,rfl,rfl,rfl,rfl,rfl,rfl,rfl,trivial⟩
 a x h:=(AT g σ σ' X X' Y Y' I I').a x h
 o s j h:=by
  exact rX _ _ _ _ _ _ _ _ _ _ s j (YN.mp h).1 (by simpa using(YN.mp h).2) (.inl rfl)
 b _ _:=⟨rfl,rfl⟩
 s:=rfl
theorem SB(lo hi:Int)(it:List (SV×SV))(b:Bool)(h:s≠40):md (fY lo hi it b) s=0:=by
 unfold md;rw[Tr.get_eq]
 rw[(show dX s (fY lo hi it b).mo s=none from by
  show dX s (.f 40 2) s=none;simp only[G6,az (zak h),zaY])]
theorem mU(h:Inv g σ)(bQ:g.ts=25)(ha:g.at_<=399){X:Nat->Int}{lo hi:Int}(h1:lo<=g.at_/\g.at_<=hi)(T2:X 21=(g.sc.length:Nat))(QG:X 23=5*g.at_)(EF:∀q∈it,iw (Z g σ X bZ bw) 8 q)(hb:b=decide ((g.sc.length:Int)<=g.at_))(ck:PD 25 lo hi it b r=true)(hm:60<=m):∃σ',(run pt m).c 184 [.obj 40 0] σ=some (.ok (ah (Z g σ X bZ bw) r),σ')/\Inv {g with at_:=g.at_+1} σ'/\σ'.env=σ.env:=by
 let z0:=Z g σ X bZ bw
 refine U (L7 (show uz z0 (fY lo hi it b) (σ.setE [])from {
  z:=rfl
  bd:=λp hp=>by
   refine(YS.mp hp).elim (λq=>?_) λhp=>?_
   ·subst q;exact h1
   ·exact Cs h.ok (Us h.atb) (Ur h.siz) (Q1 h.siz h.cnt) p hp
  st:=SM
  bn:=Un h
  dn:=Uk h
  bl:=λp hp=>by
   (refine(YR.mp hp).symm ▸?_)
   show ah _ (iS 21)= .int (((g.sc.map V.int).length:Nat):Int);rw[ae,hJ ak,T2,Zu]
  it:=λp hp q hq=>by
   rw[YR.mp hp]at hq⊢;exact EF q hq
  dt:=J
  op:=λp hp q hq o ho=>by
   rw[YR.mp hp]at hq ho
   (refine(YR.mp hq).symm ▸?_)
   cases o<;>first|(cases ho;done)|skip
   rw[show ah z0 (cS 5)= .int 5 from au (bj g σ X bZ bw) 5,show ah z0 (iS 1)= .int g.at_ from ae 1];show some (V.int (5*g.at_))=some (ah _ (iS 23));rw[ae,hJ ak,QG]
  eq:=J
  le:=λp hp i j Ad hj=>by
   rw[YR.mp hp]at Ad hj⊢;rw[show ah z0 (iS 21)= .int (X 21)from ae 21]at Ad;rw[show ah z0 (iS 1)= .int g.at_ from ae 1]at hj;injection Ad with Ad;injection hj with hj
   (refine(Ad) ▸?_;refine(hj) ▸?_;refine(T2).symm ▸?_);exact hb
  nw:=P5
  l0:=λ_=>rfl
  ca:=J}).ok (es:=O4++gens (.any 1) 25) (λs j o ho=>by
  refine(gW ho).elim (λq=>?_) λq1=>?_
  ·(refine U q λl q1 q2=>?_;try clear q);simp only[O4,YR,Zv]at q1
   obtain⟨rfl,rfl⟩:=q1;simp only[YR,Zv]at q2;obtain⟨rfl,rfl⟩:=q2;exact h.scr.trans (YV some (YV bt.list (Zb _).symm))
  ·exact h.ent (by(refine(bQ).symm ▸?_);exact q1)) (gS (by rw[eo,jE (.inl rfl)];rfl)) hm ck) λσ' e1 R=>?_
 refine(aM _ e1 ?_ rfl);have keep:∀{s i o},s≠40->nth (σ.heap s) i=some o->nth (σ'.heap s) i=some o:=λhs ho=>R.ro _ (by rw[SB _ _ _ _ hs];rfl) _ _ ho;have len:∀s,(s,0)∈uG->s≠40->(σ'.heap s).length=(σ.heap s).length:=λs hs Av=>R.cn (s,0) hs (by rw[SB _ _ _ _ Av];decide)
 exact(show Inv {g with at_:=g.at_+1} σ' from {
  h with
  gen:=λs j o ho=>by
   have n6:aP (gens (.any 1) 25) s j=some o:=by(refine(bQ) ▸?_);exact ho
   by_cases e:s=40
   ·subst e;obtain⟨rfl,rfl⟩:=MK rfl n6;refine(R.at_ (40,_) (.head _) (0,_) (.head _)).trans (YV some ?_)
    simp only[aC,gI,nY,c9,(show ah z0 (.int 1 1)=ah (Z {g with at_:=g.at_+1} σ' gw bZ bw) (.int 1 0)from by
     show V.int (g.at_+1)=V.int (g.at_+1+0);rw[zam])]
    rfl
   ·have ok:=ZB.mp (b8 (p:=λs r=>Nat.beq s 40||uC Q3 r.2) DH n6);have PZ:=YN.mp (b8 (p:=λs r=>uC Aw r.2&&Aw.o s r.1) (lH (.inl rfl)) n6);have q:=YN.mp PZ.2
    (refine(hU (Sl g (g.at_+1) σ σ' gw gw bZ bZ bw bw) (ok.resolve_left (by rw[az e];decide))) ▸?_;refine((rX g {g with at_:=g.at_+1} σ σ' gw gw bZ bZ bw bw s j q.1 (by simpa using q.2) (.inl rfl))) ▸?_)
    exact keep e (h.gen s j o ho)
  kin:=keep ak h.kin
  rows:=keep ak h.rows
  rowd:=λi hi=>keep (by show(match g.c.tu with|true=>51|false=>52)≠40;cases g.c.tu<;>decide) (h.rowd i hi)
  scr:=keep ak h.scr
  l4:=by rw[len 4 ak ak];exact h.l4
  l8:=by rw[len 8 ak ak];exact h.l8
  l9:=by rw[len 9 ak ak];exact h.l9
  l12:=by rw[len 12 ak ak];exact h.l12
  box:=λi b hb=>(h.box i b hb).mono (g':={g with at_:=g.at_+1}) rfl (Zd _) (λ_ _ h=>h) (Zd _) (λ_ _=>keep ak) (λ_=>keep ak) (λ_ _=>keep ak) (λ_=>keep ak)
  cell:=λb hb=>(h.cell b hb).mono (g':={g with at_:=g.at_+1}) rfl (Zd _) (λ_ _ h=>h) (Zd _) (λ_ _=>keep ak) (λ_=>keep ak)
  atb:=⟨zbc (h.atb).1 ak,Z1 ha 1⟩
  it0:=let ⟨r,e⟩:=h.it0;⟨r,keep ak e⟩
  it1:=let ⟨r,e⟩:=h.it1;⟨r,keep ak e⟩
  it2:=let ⟨r,e⟩:=h.it2;⟨r,keep ak e⟩
  sp:=keep ak h.sp
  sl:=λi hi=>keep ak (h.sl i hi)
  th0:=let ⟨r,e⟩:=h.th0;⟨r,keep ak e⟩
  th1:=let ⟨r,e⟩:=h.th1;⟨r,keep ak e⟩
  th2:=let ⟨r,e⟩:=h.th2;⟨r,keep ak e⟩
  ts:=(gA (keep ak h.ts.1) (keep ak h.ts.2.1) (keep ak h.ts.2.2))}).setE
theorem qx(h:Inv g σ)(bQ:g.ts=25)(ha:g.at_<=399)(hm:60<=m):∃(z:Int) (σ':St),(run pt m).c 184 [.obj 40 0] σ=some (.ok (.int z),σ')/\Inv {g with at_:=g.at_+1} σ'/\σ'.env=σ.env:=by
 have ck:=KG;rw[YW,YW]at ck;by_cases e1:(g.sc.length:Int)<=g.at_
 ·by_cases e2:10<=g.at_
  ·refine hg λcg kg=>?_;obtain⟨X,hX⟩:∃X,X=o9 [0,(g.sc.length:Nat),0,5*g.at_]:=⟨_,rfl⟩;refine U (mU h bQ ha (X:=X) (lo:=10) (hi:=500) (it:= []) (b:=true) (r:= .int 23 3) ⟨e2,Zr ‹_› ak⟩ (by rw[hX];rfl) (by rw[hX];rfl) J (Zn e1).symm ck.1.2 hm) λσ' f1 f2=>?_;refine kg ?_;exact(gz _ σ' f1 f2)
  ·obtain⟨n,hn⟩:∃n:Nat,g.at_=(n:Int):=⟨_,(Zw (h.atb).1).symm⟩;obtain⟨X,hX⟩:∃X,X=o9 [0,(g.sc.length:Nat),0,5*g.at_]:=⟨_,rfl⟩;have c:=ck.2;rw[YO]at c
   refine U (mU h bQ ha (X:=X) (it:= []) (b:=true) ⟨by rw[hn];exact ZN _,by rw[hn];exact ZN _⟩ (by rw[hX];rfl) (by rw[hX];rfl) J (Zn e1).symm (c n (by
    exact(show∀n,n<10->n∈ [0,1,2,3,4,5,6,7,8,9]from by decide) n (KZ hn (zaN.mp e2)))) hm) λσ' f1 f2=>?_
   rw[au (bj ..)]at f1;exact(gz _ σ' f1 f2)
 ·obtain⟨n,hn⟩:∃n:Nat,g.at_=(n:Int):=⟨_,(Zw (h.atb).1).symm⟩;have kW:n<g.sc.length:=KZ hn (zaN.mp e1);obtain⟨X,hX⟩:∃X,X=o9 [0,(g.sc.length:Nat),g.sc[n],5*g.at_]:=⟨_,rfl⟩
  refine U (mU h bQ ha (X:=X) (lo:=0) (hi:=500) (it:= [(iS 1,iS 22)]) (b:=false) (r:=iS 22) ⟨(h.atb).1,Zr ‹_› ak⟩ (by rw[hX];rfl) (by rw[hX];rfl) (ac (aM n (by rw[ae];exact YV V.int hn) (X5 hn ha) (by
   show nth (g.sc.map V.int) n=_;rw[cV,cN,ZY kW,ae,hJ ak,hX];rfl)) J) (Zx e1).symm ck.1.1 hm) λσ' f1 f2=>?_
  rw[ae]at f1;exact(gz _ σ' f1 f2)
end
section
variable{m:Nat}{σ σ':St}
theorem aA(h:p σ=some (.ok a,σ')):M.bind p f σ=f a σ':=by
 unfold M.bind;rw[h]
theorem bo(h:ih.s s σ=some (.ok .next,σ')):execs ih (s::r) σ=execs ih r σ':=aA h
theorem fe(h:ih.s s σ=some (.ok (.ret v),σ')):execs ih (s::r) σ=some (.ok (.ret v),σ'):=aA h
theorem fc(h:(run pt m).e e σ=some (.ok v,σ')):(run pt (m+1)).s (.asg (.loc x) e) σ=some (.ok .next,σ'.setE (putN x v σ'.env)):=aA h
theorem j7(h:(run pt m).e e σ=some (.ok v,σ')):(run pt (m+1)).s (.ret (some e)) σ=some (.ok (.ret v),σ'):=aA h
theorem dA{b:Bool}(h:(run pt m).b c σ=some (.ok b,σ'))(k:execs (run pt m) (match b with|true=>t|false=>e) σ'=r):(run pt (m+1)).s (.ite c t e) σ=r:=by
 refine(aA h).trans ?_;cases b<;>exact k
theorem bV(h:kK (run pt m) args σ=some (.ok vs,σ'))(k:(run pt m).c f vs σ'=r):(run pt (m+1)).e (.call f args) σ=r:=(aA h).trans k
theorem vO{v:V}(h:p σ=some (.ok v,σ')):M.restore e p σ=some (.ok v,σ'.setE e):=by
 unfold M.restore;rw[h]
theorem Jh(hf:pt.fn f=some fn)(hz:pb fn.params args=some env)(h:execs (run pt m) fn.body (σ.setE env)=some (.ok (.ret v),σ')):(run pt (m+1)).c f args σ=some (.ok v,σ'.setE σ.env):=by
 show M.of (pt.fn f) _ σ=_
 (refine(hf).symm ▸?_)
 show M.of (pb fn.params args) _ σ=_
 (refine(hz).symm ▸?_)
 exact vO ((aA (σ':=σ.setE env) (a:=()) rfl).trans (aA h))
end
section
variable{g:Gh}{σ:St}{m:Nat}
noncomputable def dE (o x y:Int):List (Nat×V):= [(185, .obj 40 0),(229, .int o),(223, .int x),(225, .int y)]
theorem fD(h:σ.env=a):σ=σ.setE a:=by cases σ;subst h;rfl
def ye(g:Gh)(r:Option (R V×St)):Prop:=∃σ' g',r=some (.ok (.bool true),σ')/\Inv g' σ'/\rp g g'
theorem Ny{n:Nat}(h:n<25)(σ:St):itemOf σ.heap (.tup (G0.map .str)) (.int (n:Int))=some (.str (aT n)):=by
 show(de (n:Int)).bind _=_;rw[jJ (YU (zac h) ak)];show nth (G0.map V.str) n=_;rw[cV];rw[(show∀n,n<25->nth G0 n=some (aT n)from by decide) n h];rfl
theorem b_cmp{os:List pa}(h:(run pt m).e a σ=some (.ok x,σ'))(k:gq pt (run pt m) x os bs σ'=r):(run pt (m+1)).b (.cmp a os bs) σ=r:=(aA h).trans k
theorem LT(h:(run pt m).e e σ=some (.ok y,σ'))(k:me pt σ'.heap o x y=some t):gq pt (run pt m) x [o] [e] σ=some (.ok t,σ'):=by
 show M.bind ((run pt m).e e) (λb=>M.bind (M.cmp pt o x b) λt=>M.pure t) σ=_;rw[aA h];refine(aA (a:=t) (σ':=σ') ?_).trans rfl;show M.opt (me pt σ'.heap o x y) σ'=_;rw[k];rfl
theorem H0(σ:St)(E:List (Nat×V))(o:Int)(n:Int)(h:aN 229 E=some (.int o)):(run pt (m+3)).b (.cmp (.bin .mod (.loc 229) (.k (.int 6))) [.lt] [(.k (.int n))]) (σ.setE E)=some (.ok (decide (o.fmod 6<n)),σ.setE E):=by
 refine b_cmp (x:=V.int (o.fmod 6)) (σ':=σ.setE E) ?_ (LT (y:=V.int n) rfl rfl);refine(aA (σ':=σ.setE E) (a:=V.int o) ?_).trans rfl;show(match aN 229 E with|some v=>some (R.ok v,σ.setE E)|none=>none)=_;rw[h]
theorem xM(H:Nat->List bt)(a b:Int):G9 H (.int a) (.int b)=some (decide (a=b)):=by
 rfl
theorem KF(σ:St)(o x y:Int):(run pt (m+5)).b (.cmp (.bin .mod (.bin .fdiv (.loc 229) (.k (.int 6))) (.k (.int 3))) [.eq] [(.k (.int 2))]) (σ.setE (dE o x y))=some (.ok (decide ((o.fdiv 6).fmod 3=2)),σ.setE (dE o x y)):=
 b_cmp (x:= .int ((o.fdiv 6).fmod 3)) rfl (LT (y:= .int 2) rfl (xM σ.heap _ _))
theorem Gd(h:Inv g σ):itemOf σ.heap (.obj 40 0) (.str [108,97,115,116])=some (.tup [.str (aT g.lk),g.lv]):=by
 show(nth (σ.heap 40) 0).bind _=_
 rw[show nth (σ.heap 40) 0=_ from(h.ent (X:=gw) (Y:=bZ) (I:=bw) (show aP (gens (.any 1) g.ts) 40 0=some (.dict none 1 (nY (iS 1) (.any 2) (.any 1)))from by
  rcases h.tsv with e|e<;>rw[e]<;>rfl))]
 rfl
theorem Mp:∀j,j<25->∃c r,aT j=c::r/\decide (c=63)=isQ j/\(∀e,fg j=some e->r=aT e):=by
 intro j hj;have:(n0.all λj=>match aT j with| []=>false|c::r=>(decide (c=63)==isQ j)&&(match fg j with|some e=>uu r (aT e)|none=>true))=true:=by decide+kernel
 rw[YO]at this;have h:=this j ((show∀a,a<25->a∈n0 from by decide) j hj);cases e:aT j with
 |nil=>rw[e]at h;exact nf h
 |cons c r=>
  rw[e]at h;have h:=YN.mp h;refine(aY c r rfl (zaZ.mp h.1) (λe he=>?_));have h2:=h.2;rw[he]at h2;exact ib.mp h2
theorem OE:(n0.all λj=>eJ (yo G7) 30 187 [sN j] (gens (.any 1) 25) (.bool (aR j)))=true:=by decide+kernel
theorem vP(h:Inv g σ)(bQ:g.ts=25)(hj:j<25)(hm:30<=m):∃σ',(run pt m).c 187 [.str (aT j)] σ=some (.ok (.bool (aR j)),σ')/\Inv g σ'/\σ'.env=σ.env:=by
 have ck:=OE;rw[YO]at ck;exact dS (X:=gw) (Y:=bZ) (I:=bw) h bQ (uR (bd:= []) (i1:= []) (op:= []) (vl:= []) J J J J) (ck j ((show∀a,a<25->a∈n0 from by decide) j hj)) hm
theorem H5(h:Inv g σ)(bQ:g.ts=25)(hsz:g.bx.length+g.ce.length<=59){i j:Nat}(hi:i<g.N)(hj:j<25)(hq:i=0->isQ j=false)(hm:60<=m):ye g ((run pt m).c 216 [.obj 40 0, .str (aT j), .int (i:Int)] σ)/\∀z,aR j=false->ye g ((run pt m).c 220 [.obj 40 0, .str (aT j), .int (i:Int), .int z] σ):=by
 by_cases h4:i<4
 ·exact⟨Dh h bQ h4 hj hq hm,λz hr=>zn h bQ h4 hj hq hr z hm⟩
 ·obtain⟨q,rfl⟩:∃q,i=q+4:=⟨i - 4,(zab (Nat.le_of_not_lt ‹_›)).symm⟩;obtain⟨b,hb⟩:∃b,nth g.bx q=some b:=⟨_,by rw[cN];exact ZY (X4 hi)⟩
  (refine(show(((q+4:Nat):Int))=(q:Int)+4 from rfl).symm ▸?_)
  exact⟨Dg h bQ hb hj hm,λz hr=>zj h bQ hsz hb hj hr z hm⟩
end
section
variable{g:Gh}{σ σ':St}{m:Nat}
def wZ(n:Nat):List Sm:=ja.body.drop n
theorem rp.of(h:rp g1 g')(hc:g1.c=g.c)(hs:g1.sc=g.sc)(hb:g1.bx=g.bx)(he:g1.ce=g.ce):g'.c=g.c/\g'.sc=g.sc/\g'.at_=g1.at_/\g'.ts=25/\g'.bx.length+g'.ce.length<=g.bx.length+g.ce.length+1/\g.bx.length<=g'.bx.length:=
 (Sp (h.c.trans hc) (h.sc.trans hs) (h.at_) (h.ts) (by have:=h.siz;rw[hb,he]at this;exact this) (by have:=h.mon;rw[hb]at this;exact this))
theorem aQ(h:aN x E=some v):(run pt (m+1)).e (.loc x) (σ.setE E)=some (.ok v,σ.setE E):=by
 show(match aN x E with|some v=>some (R.ok v,σ.setE E)|none=>none)=_;rw[h]
theorem gy(h:ih.e e σ=some (.ok v,σ')):kK ih [e] σ=some (.ok [v],σ'):=aA h
theorem fJ(h:ih.e e σ=some (.ok v,σ'))(k:kK ih r σ'=some (.ok vs,dm)):kK ih (e::r) σ=some (.ok (v::vs),dm):=(aA h).trans (aA k)
theorem eh(ha:(run pt m).e a σ=some (.ok x,σ'))(hb:(run pt m).e b σ'=some (.ok y,dm))(h:itemOf dm.heap x y=some v):(run pt (m+1)).e (.sub a b) σ=some (.ok v,dm):=by
 refine(aA ha).trans ((aA hb).trans ?_);show M.opt (itemOf dm.heap x y) dm=_;rw[h];rfl
theorem DZ(ha:(run pt (m+1)).e a σ=some (.ok x,σ'))(k:M.slice s x (.int 1) .none σ'=r):(run pt (m+2)).e (.slice s a (some (.k (.int 1))) none) σ=r:=by
 show M.bind ((run pt (m+1)).e a) (λx=>M.bind (G8 (run pt (m+1)) (some (.k (.int 1)))) λl=>M.bind (G8 (run pt (m+1)) none) λh=>M.slice s x l h) σ=r;rw[aA ha];exact k
theorem Ct(ha:(run pt m).b a σ=some (.ok true,σ'))(hb:(run pt m).b b σ'=some (.ok t,dm)):(run pt (m+1)).b (.and [a,b]) σ=some (.ok t,dm):=by
 refine(aA ha).trans ((aA hb).trans ?_);cases t<;>rfl
theorem KI(ha:(run pt m).b a σ=some (.ok false,σ')):(run pt (m+1)).b (.and (a::r)) σ=some (.ok false,σ'):=(aA ha).trans rfl
theorem OR(ha:(run pt m).b a σ=some (.ok true,σ')):(run pt (m+1)).b (.or (a::r)) σ=some (.ok true,σ'):=(aA ha).trans rfl
theorem OQ(ha:(run pt m).b a σ=some (.ok false,σ'))(hb:(run pt m).b b σ'=some (.ok t,dm)):(run pt (m+1)).b (.or [a,b]) σ=some (.ok t,dm):=by
 refine(aA ha).trans ((aA hb).trans ?_);cases t<;>rfl
theorem GA(H:Nat->List bt)(ha:rn a=true)(hb:rn b=true):G9 H (.str a) (.str b)=some (decide (a=b)):=by
 have sh:∀l,rn l=true->SeqAt.shaped (.str ⟨l.toArray⟩)=true:=by
  intro l h;unfold SeqAt.shaped;rw[mE h];rfl
 show gD (SeqAt.shaped (.str ⟨a.toArray⟩)&&SeqAt.shaped (.str ⟨b.toArray⟩)) (some (PyData.eqv (.str ⟨a.toArray⟩) (.str ⟨b.toArray⟩)))=_;rw[sh a ha,sh b hb];refine YV some ?_;show((⟨a.toArray⟩:Str)==⟨b.toArray⟩)=_;by_cases e:a=b
 ·subst e;rw[Zn rfl];simp
 ·rw[Zx e];cases q:((⟨a.toArray⟩:Str)==⟨b.toArray⟩)with
  |false=>rfl
  |true=>
   have:=eq_of_beq q;injection this with this;exact absurd (by simpa using this) e
theorem Nw(j:Nat)(hj:j<25)(H:Nat->List bt):∃c r,aT j=c::r/\G9 H (.str [c]) (.str [63])=some (isQ j):=by
 refine a8 (Mp j hj) λc r hn hq _=>?_;have hc:=hZ j;rw[hn,s8,YW]at hc;refine(gz c r hn ?_);rw[GA H (by rw[s8,hc.1];rfl) rfl,<-hq];refine YV some ?_;by_cases e:c=63
 ·rw[Zn e,Zn (by rw[e])]
 ·rw[Zx e,Zx (by intro h;injection h with h _;exact e h)]
theorem Oo(h:Inv g σ)(bQ:g.ts=25)(hb:1<=g.bx.length)(hsz:g.bx.length+g.ce.length<=59)(o x y:Int)(hm:60<=m):∃σ' g',execs (run pt (m+8)) (wZ 3) (σ.setE (dE o x y))=some (.ok (.ret (.bool true)),σ')/\Inv g' σ'/\rp g g':=by
 let z0:=dE o x y
 have c1:=H0 (m:=m+4) σ z0 o 2 rfl;refine cX (decide (o.fmod 6<2)) (λq1=>?_) λq1=>?_
 ·
  rw[q1]at c1;have c2:=KF (m:=m+1) σ o x y;refine cX (decide ((o.fdiv 6).fmod 3=2)) (λq2=>?_) λq2=>?_
  ·
   rw[q2]at c2;have hl:=Gd h;refine a8 (qt (σ:=σ.setE z0) h.setE bQ hsz h.las.2 (m:=m+4) (Y9 ‹_› (Y4 _ _))) λσ' g' e1 i1 n1=>?_;exact(aY σ' g' (fe (dA c1 (fe (dA c2 (fe (j7 (bV (fJ (aQ rfl) (fJ (eh (eh (aQ rfl) rfl hl) rfl rfl) (gy (eh (eh (aQ rfl) rfl hl) rfl rfl)))) e1))))))) i1 n1)
  ·
   rw[q2]at c2;have LW:x.fmod 25<25:=ZJ _ ak;refine hg λcg kg=>?_;obtain⟨n,hn⟩:∃n:Nat,x.fmod 25=(n:Int):=⟨_,(Zw (Zq _ ak)).symm⟩;have yH:n<25:=KZ hn LW;refine cQ (xd (σ:=σ.setE (putN 188 (.str (aT n)) z0)) h.setE bQ yH y (m:=m+4) (Y9 ‹_› (Y4 _ _))) λv σ1 hv e0 i0 v0=>?_;refine a8 (qt i0 bQ hsz hv (m:=m+5) (Y9 ‹_› (Y4 _ _))) λσ' g' e1 i1 n1=>?_;refine kg ?_;refine(aY σ' g' (fe (dA c1 ((bo (dA c2 rfl)).trans ((bo (fc (v:= .str (aT n)) (σ':=σ.setE z0) ?_)).trans (fe (j7 (bV (fJ (σ':=σ.setE (putN 188 (.str (aT n)) z0)) (aQ rfl) (fJ (aQ rfl) (gy (bV (fJ (aQ rfl) (fJ (aQ rfl) (gy (aQ rfl)))) e0)))) e1))))))) i1 n1);exact eh (x:= .tup (G0.map .str)) (y:= .int (n:Int)) (σ':=σ.setE z0) rfl (by(refine(hn) ▸?_);rfl) (Ny yH _)
 ·
  rw[q1]at c1;refine hg λcg kg=>?_;refine cQ (FV (σ:=σ.setE z0) h.setE bQ hb x (m:=m+6) (Y9 ‹_› (Y4 _ _))) λi σ1 hi e1 i1 v1=>?_;refine cQ (GQ (σ:=σ1.setE (putN 203 (.int (i:Int)) z0)) i1.setE bQ hi y (m:=m+6) (Y9 ‹_› (Y4 _ _))) λj dy hj e2 i2 v2=>?_
  refine aZ ((show∃j',j'<25/\(i=0->isQ j'=false)/\(run pt (m+8)).s (.ite (.and [(.cmp (.loc 203) [.eq] [(.k (.int 0))]),(.cmp (.sub (.loc 188) (.k (.int 0))) [.eq] [(.k (.str [63]))])]) [(.asg (.loc 188) (.slice 32 (.loc 188) (some (.k (.int 1))) none))] []) (dy.setE (putN 188 (.str (aT j)) dy.env))=some (.ok .next,dy.setE (putN 188 (.str (aT j')) (putN 203 (.int (i:Int)) z0)))from by
   (refine(v2).symm ▸?_)
   have LM:(run pt (m+6)).b (.cmp (.loc 203) [.eq] [(.k (.int 0))]) (dy.setE (putN 188 (.str (aT j)) (putN 203 (.int (i:Int)) z0)))=some (.ok (decide ((i:Int)=0)),dy.setE (putN 188 (.str (aT j)) (putN 203 (.int (i:Int)) z0))):=
    b_cmp (x:= .int (i:Int)) (aQ rfl) (LT (y:= .int 0) rfl (xM dy.heap _ _))
   by_cases Qw:(i:Int)=0
   ·rw[Zn Qw]at LM;refine a8 (Mp j hj) λc r hn YI hr=>?_;have Pm:(run pt (m+6)).b (.cmp (.sub (.loc 188) (.k (.int 0))) [.eq] [(.k (.str [63]))]) (dy.setE (putN 188 (.str (aT j)) (putN 203 (.int (i:Int)) z0)))=some (.ok (isQ j),dy.setE (putN 188 (.str (aT j)) (putN 203 (.int (i:Int)) z0))):=by
     refine bR (Nw j hj dy.heap) λc' r' Xa II=>?_;exact b_cmp (x:= .str [c']) (eh (x:= .str (aT j)) (aQ rfl) rfl (by(refine(Xa).symm ▸?_);rfl)) (LT (y:= .str [63]) rfl II)
    refine uy (isQ j) (λhq=>?_) λhq=>?_
    ·
     rw[hq]at Pm;refine(aM j hj (λ_=>hq) (dA (b:=false) (Ct LM Pm) rfl))
    ·
     rw[hq]at Pm;obtain⟨e,he⟩:∃e,fg j=some e:=by
      unfold isQ at hq;refine dI (fg j) (λq=>?_) λe q=>?_
      ·rw[q]at hq;exact nf hq
      ·rw[q];exact⟨e,rfl⟩
     have TP:=by
      have:∀j,j<25->∀e,e∈n0->fg j=some e->e<25/\isQ e=false:=by decide
      exact this j hj e ((show∀j,j<25->∀e,fg j=some e->e∈n0 from by
       intro j hj e he;have:∀j,j<25->(match fg j with|some e=>n0.any λx=>Nat.beq x e|none=>true)=true:=by decide
       have:=this j hj;rw[he]at this;rw[zbo]at this
       (refine U this λz hz ez=>?_;clear this)
       (refine(aB.mp ez) ▸?_);exact hz) j hj e he) he
     refine(aM e (TP.1) (λ_=>TP.2) (dA (b:=true) (Ct LM Pm) ?_));refine(bo (σ':=dy.setE (putN 188 (.str (aT e)) (putN 203 (.int (i:Int)) z0))) (fc (v:= .str (aT e)) (σ':=dy.setE (putN 188 (.str (aT j)) (putN 203 (.int (i:Int)) z0))) ?_)).trans rfl
     (refine(hr e he) ▸?_;refine(hn).symm ▸?_)
     refine DZ (x:= .str (c::r)) (σ':=dy.setE (putN 188 (.str (c::r)) (putN 203 (.int (i:Int)) z0))) (aQ rfl) ?_;show(match jq (some 1) none (c::r).length with|true=>M.pure (V.str (cutL (some 1) none (c::r)))|false=>M.fail) _=_
     (refine((show jq (some 1) none (c::r).length=true from by
      have:(c::r).length<=4:=by
       (refine(hn) ▸?_);exact(show∀j,j<25->(aT j).length<=4 from by decide) j hj
      show(Nat.ble (c::r).length ay&&(Nat.ble 1 1&&Nat.ble 1 (c::r).length))=true;rw[ZH (by exact YU ‹_› ak),ZH (by simp:1<=(c::r).length)];rfl)).symm ▸?_);rfl
   ·rw[Zx Qw]at LM;exact(aM j hj (λe=>absurd (by rw[e];rfl) Qw) (dA (b:=false) (KI LM) rfl)))) λj' LJ LG e3=>?_
  obtain⟨E,hE⟩:∃E,E=putN 188 (.str (aT j')) (putN 203 (.int (i:Int)) z0):=⟨_,rfl⟩;rw[<-hE]at e3;have rH:aN 188 E=some (.str (aT j')):=by rw[hE];rfl
  have c4:=H0 (m:=m+3) dy E o 4 (by rw[hE];rfl);refine aZ (vP (σ:=dy.setE E) i2.setE bQ LJ (m:=m+4) (YU ak (Nat.le_add_right_of_le hm))) λyg e4 i4 v4=>?_;have go:∀{b:Bool} {τ:St},τ.env=E->Inv g τ->(run pt (m+7)).b (.or [(.cmp (.bin .mod (.loc 229) (.k (.int 6))) [.lt] [(.k (.int 4))]),(.call 187 [(.loc 188)])]) (dy.setE E)=some (.ok b,τ)->(b=false->aR j'=false)->∃σ' g',execs (run pt (m+8)) (wZ 7) (dy.setE E)=some (.ok (.ret (.bool true)),σ')/\Inv g' σ'/\rp g g':=by
   intro b τ TF Tz hb Xx;cases b with
   |true=>
    obtain⟨σ',g',e5,i5,n5⟩:=(H5 Tz bQ hsz hi LJ LG (m:=m+5) (Y9 ‹_› (Y4 _ _))).1;refine⟨σ',g',fe (dA hb (fe (j7 (bV (σ':=τ) (fJ (σ':=τ) ?_ (fJ (σ':=τ) ?_ (gy ?_))) e5)))),i5,n5⟩<;>(refine((fD TF)).symm ▸?_)
    ·exact aQ (by rw[hE];rfl)
    ·exact aQ rH
    ·exact aQ (by rw[hE];rfl)
   |false=>
    obtain⟨σ',g',e5,i5,n5⟩:=(H5 Tz bQ hsz hi LJ LG (m:=m+6) (Y9 ‹_› (Y4 _ _))).2 (o.fdiv 6) (Xx rfl);refine⟨σ',g',(bo (dA hb rfl)).trans (fe (j7 (bV (σ':=τ) (fJ (σ':=τ) ?_ (fJ (σ':=τ) ?_ (fJ (σ':=τ) ?_ (gy ?_)))) e5))),i5,n5⟩<;>(refine((fD TF)).symm ▸?_)
    ·exact aQ (by rw[hE];rfl)
    ·exact aQ rH
    ·exact aQ (by rw[hE];rfl)
    ·refine(aA (a:= .int o) (σ':=τ.setE E) ?_).trans rfl;exact aQ (by rw[hE];rfl)
  refine a8 ((by
   refine cX (decide (o.fmod 6<4)) (λq4=>?_) λq4=>?_
   ·rw[q4]at c4;exact go (τ:=dy.setE E) rfl i2.setE (OR c4) (λh=>nomatch h)
   ·rw[q4]at c4;exact go v4 i4 (OQ c4 (by
   refine(aA (a:= .bool (aR j')) (σ':=yg) ?_).trans ?_
   ·exact bV (gy (aQ rH)) e4
   ·rfl)) id)) λσ' g' e5 i5 n5=>?_
  refine kg ?_;exact(aY σ' g' ((show∀r,execs (run pt (m+8)) (wZ 7) (dy.setE E)=r->execs (run pt (m+8)) (wZ 3) (σ.setE z0)=r from by
   intro r hr;refine(bo (dA c1 rfl)).trans ((bo (fc (bV (fJ (aQ rfl) (gy (aQ rfl))) e1))).trans ?_);rw[v1];refine(bo (fc (bV (fJ (aQ rfl) (fJ (aQ rfl) (gy (aQ rfl)))) e2))).trans ?_;exact(bo e3).trans hr) _ e5) i5 n5)
end
section
variable{g:Gh}{σ:St}{m:Nat}
theorem D9(h:Inv g σ)(bQ:g.ts=25)(hb:1<=g.bx.length)(hsz:g.bx.length+g.ce.length<=59)(ha:g.at_<=390)(hm:60<=m):∃σ' g',(run pt (m+9)).c 228 [.obj 40 0] σ=some (.ok (.bool true),σ')/\Inv g' σ'/\σ'.env=σ.env/\g'.c=g.c/\g'.sc=g.sc/\g'.at_=g.at_+3/\g'.ts=25/\g'.bx.length+g'.ce.length<=g.bx.length+g.ce.length+1/\g.bx.length<=g'.bx.length:=by
 refine hg λcg kg=>?_;refine a8 (qx (σ:=σ.setE [(185, .obj 40 0)]) h.setE bQ (Zr ‹_› ak) (m:=m+6) (Y9 ‹_› (Y4 _ _))) λo σ1 e1 i1 v1=>?_;refine a8 (qx (σ:=σ1.setE [(185, .obj 40 0),(229, .int o)]) i1.setE bQ (by exact zaE ‹_› ak) (m:=m+6) (Y9 ‹_› (Y4 _ _))) λx dy e2 i2 v2=>?_;refine a8 (qx (σ:=dy.setE [(185, .obj 40 0),(229, .int o),(223, .int x)]) i2.setE bQ (Zr (Z1 (Z1 ha 1) 1) ak) (m:=m+6) (Y9 ‹_› (Y4 _ _))) λy yg e3 i3 v3=>?_;refine a8 (Oo i3 bQ hb hsz o x y hm) λσ' g' e4 i4 n4=>?_;refine kg ?_;have n:=n4.of (g:=g) rfl rfl rfl rfl;refine⟨σ'.setE σ.env,g',Jh (fn:=ja) (env:= [(185, .obj 40 0)]) rfl rfl ?_,i4.setE,rfl,n.1,n.2.1,n.2.2.1.trans ((zaf ..).trans (zaf ..)),n.2.2.2⟩;refine(bo (fc (bV (gy (aQ rfl)) e1))).trans ?_;rw[v1];refine(bo (fc (bV (gy (aQ rfl)) e2))).trans ?_;rw[v2];refine(bo (fc (bV (gy (aQ rfl)) e3))).trans ?_;rw[v3];exact e4
end
def rB(r:Option SV)(f:jZ):Bool:=jZ.rec (Option.rec true (λ_=>false) r) (λv=>Option.rec false (λu=>v.beq u) r) f
def rA(F:Fx)(n:Nat)(l:List Sm)(es:bu)(env:List (Nat×SV))(r:Option SV)(yK:List (Nat×SV))(post:bu)(cn:List (Nat×Nat)):Bool:=O.rec false (λf S=>rB r f&&LN S.env yK&&E6 post cn S&&EX S) (λ_ _ _ _ _=>false) (dB (pe F n) l (ur es env))
theorem jY.e0(h:jY ρ F (aI.setE e) S σ):jY ρ F aI S σ:=⟨h.env,h.at_,h.cnt,h.fx,h.ro,h.inj,h.fr,h.len⟩
theorem jY.e1(h:jY ρ F aI S σ):jY ρ F (aI.setE e) S σ:=⟨h.env,h.at_,h.cnt,h.fx,h.ro,h.inj,h.fr,h.len⟩
theorem uz.e0(h:uz ρ F (aI.setE e)):uz ρ F aI:={h with
 l0:=h.l0
 ca:=λp hp q hq S σ hs j2 m hm=>by
  refine U (h.ca p hp q hq S σ hs.e1 j2 m hm) λσ' e1 e2=>?_;exact(al σ' e1 (e2.e0))}
def IZ(ρ:Ro)(r:Option SV):Fl:=match r with|none=> .next|some v=> .ret (ah ρ v)
theorem xi{es post:bu}(hf:dY ρ F σ)(he:σ.env=bF ρ env)(h1:∀s j o,aP es s j=some o->nth (σ.heap s) (ρ.ix s j)=some (aC ρ o))(h2:∀s j k a b,aP es s j=some a->aP es s k=some b->ρ.ix s j=ρ.ix s k->j=k)(hm:n<=m)(cw:rA F n l es env r yK post cn=true):∃σ',execs (run pt m) l σ=some (.ok (IZ ρ r),σ')/\σ'.env=bF ρ yK/\AA ρ F σ σ' post cn:=by
 have:=cI hf (jv hf n m hm) l _ _ (wO hf.l0 he h1 h2);unfold rA at cw;cases e:dB (pe F n) l (ur es env)with
 |no=>rw[e]at cw;exact nf cw
 |ex b s j c S=>rw[e]at cw;exact nf cw
 |ok f S=>
  rw[e]at cw this
  (refine U this λσ' e1 iD=>?_;clear this)
  rw[YW,YW,YW]at cw;obtain⟨⟨⟨k1,k2⟩,k3⟩,k4⟩:=cw;have ev:dR ρ f=IZ ρ r:=by
   cases f with
   |next=>cases r with
    |none=>rfl
    |some u=>exact nf k1
   |ret v=>cases r with
    |none=>exact nf k1
    |some u=>
     rw[beq_eq k1];rfl
  obtain⟨g1,g2⟩:=xO k3;refine⟨σ',by(refine(ev) ▸?_);exact e1,by rw[iD.env,pL k2],λp hp q hq=>iD.at_ _ _ _ (g1 p hp q hq),λp hp h4=>?_,λs hw i o h=>iD.ro s hw i o h,λs h8 i o h hn=>iD.fr s i o h λj hj=>?_⟩
  ·refine U (g2 p hp) λL l1 l2=>?_;rw[iD.cnt _ L l1 h4,l2,hf.l0]
  ·have hi:=k4;unfold EX at hi;rw[YO]at hi;have hi:=hi s (by rcases h8 with rfl|rfl<;>simp);rw[fk.get_def]at hj;refine dI (S.hp.get s) (λeL=>?_) λL eL=>?_
   ·rw[eL]at hj;exact absurd rfl hj
   ·
    rw[eL]at hi hj;refine dI (bJ j L.es) (λej=>?_) λo' ej=>?_
    ·exact absurd ej hj
    ·
     rw[YO]at hi;have:=hi _ (aW ej);rw[ZT]at this;rcases this with h0|h0
     ·have h0:j=0:=aB.mp h0
      (refine(h0).symm ▸?_);exact hn
     ·have rv:1000<=j:=YX h0;obtain⟨k,rfl⟩:∃k,j=1000+k:=⟨j - 1000,(zaq ‹_›).symm⟩;rw[hf.nw,hf.l0];exact ZP (zas k (bk h))
def Tu:Tr Nat:=uJ 9 1 [(18,4),(55,1),(56,1),(57,1),(58,1),(59,1)]
def Aa(tu:SV)(f:Fs):Fx:={lu tu f with mo:=Tu}
theorem Dr:jk (λs v=>(Nat.beq v 1||Nat.beq v 4)&&(Nat.beq s 18||(Nat.ble 55 s&&Nat.ble s 59))) Tu=true:=by decide+kernel
section
variable{g:Gh}{σ σ':St}{X:Nat->Int}{Y:Nat->V}{I:Nat->Nat->Nat}
theorem wP(s:Nat):yi (md (Aa tu f) s)=false/\((s=4\/s=8\/s=9\/s=12)->md (Aa tu f) s=0):=by
 rcases md_all (F:=Aa tu f) (p:=λs v=>(Nat.beq v 1||Nat.beq v 4)&&(Nat.beq s 18||(Nat.ble 55 s&&Nat.ble s 59))) Dr s with e|e
 ·(refine(e).symm ▸?_);exact⟨rfl,λ_=>rfl⟩
 ·rw[YW,ZT]at e;refine⟨by rcases e.1 with e|e<;>(refine(aB.mp e).symm ▸?_)<;>rfl,λh=>?_⟩;rcases h with rfl|rfl|rfl|rfl<;>exact nf (e.2)
theorem Bi(s:Nat)(h:md (Aa tu f) s≠4):ip s=false:=by
 cases e:ip s with
 |false=>rfl
 |true=>
  have:=aB.mp e;subst this;exact absurd rfl h
theorem T7(h:Inv g σ)(eD:ah (Z g σ X Y I) tu= .bool g.c.tu)(k:fu g (Z g σ X Y I) f):uz (Z g σ X Y I) (Aa tu f) σ:=
 uz.e0 (e:= []) (let F:=QO h eD k
 {F with
  ca:=λp hp q hq S σ' hs j2 m hm=>by
   refine iQ (jx j2) λa l e1=>?_;have yr:=wG h eD (hs.at_ _ _ _ e1) λs i o hh ho=>hs.ro s (wP s).1 i o ho;have hp:p∈ [(197,f.tg),(191,f.vl),(56,f.cu)]:=hp;simp only[YS,Y2,Zl]at hp;rcases hp with rfl|rfl|rfl
   ·exact gv (k.tg q hq) Bi (Zd 22) hs yr m hm
   ·exact gv (k.vl q hq) Bi (Zd 22) hs yr m hm
   ·exact gv (k.cu q hq) Bi (Zd 22) hs yr m hm})
theorem gT(h:Inv g σ)(bQ:g.ts=25)(eD:ah (Z g σ X Y I) tu= .bool g.c.tu)(k:fu g (Z g σ X Y I) f)(Qv:iM ex=true)(hex:∀p∈ex,∀q∈p.2,nth (σ.heap p.1) ((Z g σ X Y I).ix p.1 q.1)=some (aC (Z g σ X Y I) q.2)){env yK:List (Nat×SV)}{r:Option SV}(he:σ.env=bF (Z g σ X Y I) env)(cw:rA (Aa tu f) 60 l (uA tu++ex++gens (.any 1) 25) env r yK [] uG=true)(hm:60<=m):∃σ',execs (run pt m) l σ=some (.ok (IZ (Z g σ X Y I) r),σ')/\σ'.env=bF (Z g σ X Y I) yK/\Inv g σ':=by
 refine aZ (xi (T7 h eD k).ok he (λs j o ho=>by
  refine(gW ho).elim (λq=>?_) λh1=>?_
  ·(refine U q λl h1 h2=>?_;try clear q);rcases Y8.mp h1 with h1|h1
   ·simp only[uA,YR,Zv]at h1
    (refine dc h1 λq1 q2=>?_;clear h1;subst q1;subst q2)
    simp only[YR,Zv]at h2;obtain⟨rfl,rfl⟩:=h2
    refine(h.ent (X:=X) (Y:=Y) (I:=I) (show aP (gens (.any 1) g.ts) 40 0=some (.dict none 1 (nY (iS 1) (.any 2) (.any 1)))from by
  rcases h.tsv with e|e<;>rw[e]<;>rfl)).trans (YV some ?_)
    simp only[aC,gI,nY,c9,(show ah (Z g σ X Y I) (.any 1)=ah (Z g σ X Y I) tu from by rw[eD];rfl)]
   ·exact hex _ h1 _ h2
  ·exact h.ent (by(refine(bQ).symm ▸?_);exact h1)) (gS (by rw[eo,eo,Qv,jE (.inl rfl)];rfl)) hm cw) λσ' e1 e2 R=>?_
 refine(aM σ' e1 e2 ?_)
 exact((h.ext (show L1 (λs=> !(Nat.beq s 4||Nat.beq s 8||Nat.beq s 9||Nat.beq s 12)) σ (σ'.setE σ.env)from by
  refine⟨rfl,λs i o ho=>R.ro s (wP s).1 i o ho,λs hs=>?_,λs=>?_⟩
  ·have hs:(Nat.beq s 4||Nat.beq s 8||Nat.beq s 9||Nat.beq s 12)=true:=by
    have hs:=hs;cases q:(Nat.beq s 4||Nat.beq s 8||Nat.beq s 9||Nat.beq s 12)with
    |true=>rfl
    |false=>rw[q]at hs;exact ng hs
   simp only[ZT,aB]at hs
   exact R.cn (s,0) (by
    rcases hs with((rfl|rfl)|rfl)|rfl<;>decide) (by rw[(wP s).2 (or_assoc.mp (or_assoc.mp hs))];decide)
  ·rcases Nat.lt_or_ge (σ'.heap s).length (σ.heap s).length with kW|hge
   ·skip;refine eX ((show∃o,nth (σ.heap s) (σ'.heap s).length=some o from⟨_,by rw[cN];exact ZY kW⟩)) λo ho=>?_;have:=bk (R.ro s (wP s).1 _ o ho);exact absurd ‹_› (ZX _)
   ·exact hge) (λs hs=>by rcases hs with rfl|rfl|rfl|rfl<;>rfl)).setE (e:=σ'.env):Inv g ((σ'.setE σ.env).setE σ'.env))
end
def MF:Sm->List Sm
 | .for _ _ b=>b
 |_=> []
def uL:List Sm:=MF (bq.body.getD 2 .hole)
def EM:List Sm:=MF (bq.body.getD 3 .hole)
def eE(i:SV):List (Nat×SV):= [(185,w0),(84, .obj 41 0),(134, .obj 38 0),(203,i)]
def eF(i n a b:SV):List (Nat×SV):= [(185,w0),(84, .obj 41 0),(134, .obj 38 0),(203,i),(188,n),(101,a),(123,b)]
def eG(i n a b c v:SV):List (Nat×SV):= [(185,w0),(84, .obj 41 0),(134, .obj 38 0),(203,i),(188,n),(101,a),(123,b),(128,c),(63,v)]
def fX(k:Nat):Fs:=⟨(20,(4,100))::(21,(25,400))::He 0, [(iS 20,sN k)], [(iS 20,vS 0 k)],(iS 20,iS 20)::Ar 0 k,(iS 20,iS 21)::Aq 0 k, [(iS 20, .obj 4 0)], [(iS 21, .obj 9 0)], [], [],uB 0 k, [], []⟩
def PM(k:Nat)(tu:Bool):Bool:=rA (Aa (nl (Nat.beq k 4) tu) (fX k)) 60 uL (uA (nl (Nat.beq k 4) tu)++nI k tu++gens (.any 1) 25) (eF (iS 20) (.any 12) (.any 13) (.any 14)) none (eF (iS 20) (sN k) (.obj 4 0) (.obj 9 0)) [] uG
def fZ(i:Nat):Fs:=⟨[], [(cS i, .str (P4 i))], [(cS i, .none)], [(cS i,cS i)], [(cS i,cS (oA i))], [(cS i, .obj 4 0)], [(cS (oA i), .obj 9 0)], [], [], [], [], []⟩
def I1(i:Nat):bu:=(53, [(i - 1, .list .nil [])])::(match i with|1=> [(13, [(0, .list .nil [dl (cS 4) (cS 0)])])]|2=> [(11, [(0, .list .nil [.tup [cS 8, .str []]])])]|_=> [(13, [(1, .list .nil [dl (cS 4) (cS 0)])])])
def PL(i:Nat)(e:List (Nat×SV)):Bool:=rA (Aa (.any 1) (fZ i)) 60 uL (uA (.any 1)++(rD i++I1 i)++gens (.any 1) 25) e none (eF (cS i) (.str (P4 i)) (.obj 4 0) (.obj 9 0)) [] uG
def Se(k e:Nat)(tu:Bool):bu:= [(9, [(0,GU (iS 21) k (.obj 12 0) (.any 3))]),(12, [(0, .list .nil [jf tu (iC k) (dl (cS 1) (iS 50)) (tS 0 e tu)])])]
def fC(e:Nat):Fs:=⟨He 0, [], [],Ar 0 e,Aq 0 e, [], [(iS 21, .obj 9 0)], [], [],uB 0 e, [], []⟩
def VV(k e:Nat)(tu:Bool):Bool:=rA (Aa (.bool tu) (fC e)) 60 EM (uA (.bool tu)++Se k e tu++gens (.any 1) 25) (eG (.any 12) (sN k) (.any 13) (.any 14) (iS 21) (.tup [iS 50,vS 0 e])) none (eG (.any 12) (sN k) (.any 13) (.any 14) (iS 21) (.tup [iS 50,vS 0 e])) [] uG
def fN:Fs:={G7 with bd:= [(30,(0,100))],op:= [(0, [((.int 2 (-1),iS 30),iS 4)])]}
def SP(e:List (Nat×SV)):Bool:=rA ({Aa (.any 1) fN with bl:=(5,iS 30)::Lh}) 60 (bq.body.drop 4) (uA (.any 1)++gens (.any 1) 25) e (some (.bool true)) e [] uG
theorem OC:(gG.all λk=>PM k false&&(!Nat.beq k 4||PM k true))=true:=by decide+kernel
theorem OB:(PL 1 (eE (cS 1))&&PL 2 (eF (cS 2) (.any 12) (.any 13) (.any 14))&&PL 3 (eF (cS 3) (.any 12) (.any 13) (.any 14)))=true:=by decide+kernel
theorem OA:([(7,0),(8,1),(9,4),(10,17),(11,6)].all λp=>bL.all λtu=>VV p.1 p.2 tu)=true:=by decide+kernel
theorem OD:(SP (eF (.any 11) (.any 12) (.any 13) (.any 14))&&SP (eG (.any 11) (.any 12) (.any 13) (.any 14) (.any 15) (.any 16)))=true:=by decide+kernel
section
variable{g:Gh}{σ σ':St}{m:Nat}
noncomputable def vE (i:V):List (Nat×V):= [(185, .obj 40 0),(84, .obj 41 0),(134, .obj 38 0),(203,i)]
noncomputable def vF (i n a b:V):List (Nat×V):= [(185, .obj 40 0),(84, .obj 41 0),(134, .obj 38 0),(203,i),(188,n),(101,a),(123,b)]
noncomputable def vG (i n a b c v:V):List (Nat×V):= [(185, .obj 40 0),(84, .obj 41 0),(134, .obj 38 0),(203,i),(188,n),(101,a),(123,b),(128,c),(63,v)]
theorem Eb(h:Inv g σ)(bQ:g.ts=25)(hb:nth g.bx i=some b)(he:σ.env=vF (.int ((i:Int)+4)) a1 a2 a3)(hm:60<=m):∃σ' b1 b2 b3,execs (run pt m) uL σ=some (.ok .next,σ')/\Inv g σ'/\σ'.env=vF (.int ((i:Int)+4)) b1 b2 b3:=by
 refine Jo (vx h hb) λt l se fj hT hC=>?_;have C:=hC [] [] [] [.none,a1,a2,a3];have ck:=OC;rw[YO]at ck;have ck:=YN.mp (ck b.k (h.box i b hb).nm)
 refine aZ ((show∃tu,PM b.k tu=true/\(Nat.beq b.k 4=true->tu=g.c.tu)/\(b.k=4->tu=g.c.tu)from by
  refine uy (Nat.beq b.k 4) (λq=>?_) λq=>?_
  ·(refine(q).symm ▸?_);exact(aM false (ck.1) ((λe=>nomatch e)) (λe=>absurd (aB.mpr e) (by rw[q];decide)))
  ·
   rw[q]at ck;cases e:g.c.tu with
   |false=>exact(aM false (ck.1) (λ_=>rfl) (λ_=>rfl))
   |true=>exact(aM true (ck.2) (λ_=>rfl) (λ_=>rfl)))) λtu cw t1 t2=>?_
 refine aZ (gT h bQ (fK t1) (show fu g (Z g σ (XC i b l [] [] []) (YC se fj [.none,a1,a2,a3]) (IC i b)) (fX b.k)from {
  bd:=λp hp=>by
   rcases YS.mp hp with rfl|hp
   ·exact C.b20
   rcases YS.mp hp with rfl|hp
   ·exact C.b21
   exact C.O.bd p hp
  i1:=ac C.i1 J
  i2:=ac C.i2 J
  i3:=ac C.i3 C.O.i3
  i4:=ac C.i4 C.O.i4
  i6:=ac C.i6 J
  d1:=ac C.d1 J
  op:=J
  eq:=J
  tg:=C.O.tg
  vl:=J
  cu:=J}) (kc C (tu:=tu) t2).1 (kc C (tu:=tu) t2).2 (env:=eF (iS 20) (.any 12) (.any 13) (.any 14)) (by rw[he];rfl) cw hm) λσ' e1 e2 i1=>?_
 refine(AV σ' (.str (aT b.k)) (.obj 4 (i+3)) (.obj 9 b.th) e1 i1 (e2.trans ?_));rfl
theorem Di(h:Inv g σ)(bQ:g.ts=25){i:Nat}(hi:i=1\/i=2\/i=3)(he:(i=1/\σ.env=vE (.int (i:Int)))\/(i≠1/\∃a1 a2 a3,σ.env=vF (.int (i:Int)) a1 a2 a3))(hm:60<=m):∃σ' b1 b2 b3,execs (run pt m) uL σ=some (.ok .next,σ')/\Inv g σ'/\σ'.env=vF (.int (i:Int)) b1 b2 b3:=by
 obtain⟨a1,a2,a3,II⟩:∃a1 a2 a3,(i=1/\σ.env=vE (.int (i:Int)))\/(i≠1/\σ.env=vF (.int (i:Int)) a1 a2 a3):=by
  rcases he with h|⟨h,a1,a2,a3,e⟩
  ·exact(b6 (.none) (.none) (.none) (.inl h))
  ·exact(b6 a1 a2 a3 (.inr ⟨h,e⟩))
 refine iQ (kn h (i:=i) (RD hi)) λse fj hf=>?_;obtain⟨ho,fs⟩:=hf gw [.none,a1,a2,a3];have F:=fs 0 false false false;have fz:fu g (Z g σ gw (YC se fj [.none,a1,a2,a3]) (IQ σ i)) (fZ i):=by
  (clear hf fs;rcases hi with rfl|rfl|rfl)<;>exact⟨F.bd,F.i1,F.i2,F.i3,F.i4,F.i6,F.d1,F.op,F.eq,F.tg,F.vl,F.cu⟩
 have ex:=dD ho (show iM (I1 i)=true/\∀p∈I1 i,∀r∈p.2,nth (σ.heap p.1) ((Z g σ gw (YC se fj [.none,a1,a2,a3]) (IQ σ i)).ix p.1 r.1)=some (aC (Z g σ gw (YC se fj [.none,a1,a2,a3]) (IQ σ i)) r.2)from by
  have ts:=h.ts;rcases hi with rfl|rfl|rfl<;>refine⟨rfl,ac (ac ?_ J) (ac (ac ?_ J) J)⟩
  ·exact h.sl 0 ak
  ·exact ts.1
  ·exact h.sl 1 ak
  ·exact ts.2.2
  ·exact h.sl 2 ak
  ·exact ts.2.1)
 have ck:=OB;rw[YW,YW]at ck;rcases hi with rfl|rfl|rfl
 ·have he:=II.resolve_right (λe=>e.1 rfl);refine aZ (gT h bQ rfl fz ex.1 ex.2 (env:=eE (cS (1:Nat))) he.2 ck.1.1 hm) λσ' e1 e2 i1=>?_;exact(AV σ' _ _ _ e1 i1 e2)
 ·skip;refine aZ (gT h bQ rfl fz ex.1 ex.2 (env:=eF (cS (2:Nat)) (.any 12) (.any 13) (.any 14)) (II.resolve_left (λe=>nomatch e.1)).2 ck.1.2 hm) λσ' e1 e2 i1=>?_;exact(AV σ' _ _ _ e1 i1 e2)
 ·skip;refine aZ (gT h bQ rfl fz ex.1 ex.2 (env:=eF (cS (3:Nat)) (.any 12) (.any 13) (.any 14)) (II.resolve_left (λe=>nomatch e.1)).2 ck.2 hm) λσ' e1 e2 i1=>?_;exact(AV σ' _ _ _ e1 i1 e2)
theorem d9(h1:assign ih t v σ=some (.ok (),σ1))(h2:execs ih b σ1=some (.ok .next,dy))(h3:cw dy=some (.ok (),yg)):bW ih cw t b (v::r) σ=bW ih cw t b r yg:=
 (aA h1).trans ((aA h2).trans (aA h3))
def MW(i:Nat)(e:List (Nat×V)):Prop:=(i=1/\e= [(185, .obj 40 0),(84, .obj 41 0),(134, .obj 38 0)])\/i≠1/\∃a0 a1 a2 a3,e=vF a0 a1 a2 a3
theorem sP(h:Inv g σ)(bQ:g.ts=25)(hm:60<=m){i:Nat}(h1:1<=i)(hi:i<g.N)(he:MW i σ.env):∃σ' b1 b2 b3,execs (run pt m) uL (σ.setE (putN 203 (.int (i:Int)) σ.env))=some (.ok .next,σ')/\Inv g σ'/\σ'.env=vF (.int (i:Int)) b1 b2 b3:=by
 by_cases h4:4<=i
 ·obtain⟨q,rfl⟩:∃q,i=q+4:=⟨i - 4,(zab h4).symm⟩;rcases he with⟨e,_⟩|⟨_,a0,a1,a2,a3,e⟩
  ·exact absurd (zaW e) (Nat.succ_ne_zero _)
  ·(refine(e).symm ▸?_);exact Eb (σ:=σ.setE _) h.setE bQ ((cN ..).trans (ZY (zau (n:=4) (Zz q 4 ▸ hi)))) (a1:=a1) (a2:=a2) (a3:=a3) rfl hm
 ·refine Di (σ:=σ.setE _) h.setE bQ ((by decide:∀i,i<4->1<=i->i=1\/i=2\/i=3) i (Nat.lt_of_not_le h4) h1) ?_ hm;rcases he with⟨rfl,e⟩|⟨ut,a0,a1,a2,a3,e⟩
  ·left;refine⟨rfl,?_⟩;(refine(e).symm ▸?_);rfl
  ·right;refine⟨ut,a1,a2,a3,?_⟩;(refine(e).symm ▸?_);rfl
theorem NG(bQ:g.ts=25)(hm:60<=m)(n:Nat):∀(i:Nat) (σ:St),i+(n+1)=g.N->1<=i->Inv g σ->MW i σ.env->∃σ' b0 b1 b2 b3,bW (run pt m) (M.pure ()) (.loc 203) uL (bh (i:Int) (n+1)) σ=some (.ok .next,σ')/\Inv g σ'/\σ'.env=vF b0 b1 b2 b3:=by
 induction n with
 |zero=>
  intro i σ hN h1 h he;refine MT (sP h bQ hm h1 (hN ▸ zaL i) he) λσ1 b1 b2 b3 e1 i1 v1=>?_;exact⟨σ1,_,_,_,_,d9 (σ1:=σ.setE (putN 203 (.int (i:Int)) σ.env)) rfl e1 rfl,i1,v1⟩
 |succ n ih=>
  intro i σ hN h1 h he;refine hg λcg kg=>?_;refine MT (sP h bQ hm h1 (hN ▸ Nat.lt_add_of_pos_right (zbr _)) he) λσ1 b1 b2 b3 e1 i1 v1=>?_
  (refine cy (ih (i+1) σ1 ((ZQ i 1 _).trans hN) (zbr _) i1 (.inr ⟨ZP (Nat.succ_lt_succ h1),_,_,_,_,v1⟩)) λdy c0 c1 c2 q=>?_;(refine aZ q λc3 e2 i2 v2=>?_;try clear q))
  refine kg ?_;exact⟨dy,c0,c1,c2,c3,(d9 (σ1:=σ.setE (putN 203 (.int (i:Int)) σ.env)) rfl e1 rfl).trans e2,i2,v2⟩
theorem zV(h:Inv g σ)(bQ:g.ts=25)(hb:b∈g.ce)(he:σ.env=vG a0 (.str (aT b.k)) a1 a2 (.int (Gh.adr b.th)) b.v)(hm:60<=m):∃σ',execs (run pt m) EM σ=some (.ok .next,σ')/\Inv g σ'/\σ'.env=vG a0 (.str (aT b.k)) a1 a2 (.int (Gh.adr b.th)) b.v:=by
 have T:=h.cell b hb;have hq:=h.cq b hb;refine hg λcg kg=>?_;refine U (T.ts) λt ht Af=>?_;obtain⟨se,e9⟩:=T.thing;obtain⟨e,II,TQ⟩:∃e,fg b.k=some e/\(b.k,e)∈ [(7,0),(8,1),(9,4),(10,17),(11,6)]:=by
  simp only[YS,Y2,Zl]at hq;rcases hq with q|q|q|q|q<;>(refine(q).symm ▸?_)<;>exact(al _ rfl ak)
 (refine cY (ht.q_inv II) λbb w u hv q5 hw=>?_;subst q5)
 obtain⟨l,hl⟩:=oh h.ok h.N100 (by
  exact(show∀p∈ [(7,0),(8,1),(9,4),(10,17),(11,6)],p.2∈gG from by decide) _ TQ) hw
 obtain⟨X,hX⟩:∃X,X=XC 0 ⟨0, .none,b.th⟩ l [] [] [0,0,0,0,0,0,0,0,0,0,bb]:=⟨_,rfl⟩
 let z0:=YC se .none [.none,a0,a1,a2]
 have G:=bj g σ X z0 (λs _=>match s with|9=>b.th|12=>b.th - 3|_=>0);have O:=hl (Z g σ X z0 (λs _=>match s with|9=>b.th|12=>b.th - 3|_=>0)) 0 G (by(refine(hX).symm ▸?_);exact MR);have yh:(Z g σ X z0 (λs _=>match s with|9=>b.th|12=>b.th - 3|_=>0)).int 21=Gh.adr b.th:=by rw[hX];rfl
 have Ef:(Z g σ X z0 (λs _=>match s with|9=>b.th|12=>b.th - 3|_=>0)).int 50=bb:=by rw[hX];rfl
 have ck:=OA;rw[YO]at ck;have ck:=ck _ TQ;rw[YO]at ck
 refine aZ (gT h bQ (tu:= .bool g.c.tu) rfl (⟨O.bd,J,J,O.i3,O.i4,J,ac (by rw[ae,yh];exact gU T.rng.2) J,J,J,O.tg,J,J⟩) (rfl) (ac (ac (by
   refine e9.trans (YV some ?_)
   simp only[GU,aC,bF,lP,G.z,ZA,ae,yh];rfl) J) (ac (ac (by
   refine Af.trans (YV some ?_);simp only[aC,eC,dO,c7,ZG,eP G,bS,au G,ae,Ef,O.t]) J) J)) (by rw[he,hv];simp only[eG,bF,iE,dO,c7,ae,yh,Ef,O.v];rfl) (ck g.c.tu (dW _)) hm) λσ' e1 e2 i1=>?_
 refine kg ?_;refine(aM σ' e1 i1 (e2.trans ?_));rw[hv];simp only[eG,bF,iE,dO,c7,ae,yh,Ef,O.v];rfl
end
section
variable{g:Gh}{σ σ':St}{m:Nat}
theorem AB(h:Inv g σ)(hk:aO (.str l) (c9 (Z g σ gw bZ bw) (nY (iS 1) (.any 2) (.any 1)))=some v):itemOf σ.heap (.obj 40 0) (.str l)=some v:=by
 show(nth (σ.heap 40) 0).bind _=_
 (refine(show nth (σ.heap 40) 0=_ from(h.ent (X:=gw) (Y:=bZ) (I:=bw) (show aP (gens (.any 1) g.ts) 40 0=some (.dict none 1 (nY (iS 1) (.any 2) (.any 1)))from by
  rcases h.tsv with e|e<;>rw[e]<;>rfl))).symm ▸?_)
 exact hk
theorem ta(h:Inv g σ):σ.get 49 0=some (.list g.cellsL):=by
 exact(h.ent (X:=gw) (Y:=bZ) (I:=bw) (show aP (gens (.any 1) g.ts) 49 0=some (.list (.var 5) [])from by
  rcases h.tsv with e|e<;>rw[e]<;>rfl)).trans (YV some (YV bt.list (Zb _)))
theorem DX(h:Inv g σ):σ.get 45 0=some (.list g.exactL):=by
 exact(h.ent (X:=gw) (Y:=bZ) (I:=bw) (show aP (gens (.any 1) g.ts) 45 0=some (.list (.var 1) [])from by
  rcases h.tsv with e|e<;>rw[e]<;>rfl)).trans (YV some (YV bt.list (Zb _)))
def Sd(b:Bx):V:= .tup [.int (Gh.adr b.th), .str (aT b.k),b.v]
def vp(e:List (Nat×V)):Prop:=(∃a b c d,e=vF a b c d)\/∃a b c d f k,e=vG a b c d f k
theorem qo(h:σ.get s i=some o):M.bind (M.get s i) f σ=f o σ:=by
 unfold M.bind M.get
 (refine(h).symm ▸ rfl)
theorem NF(bQ:g.ts=25)(hm:60<=m):∀(r:List Bx) (σ:St),(∀b∈r,b∈g.ce)->Inv g σ->vp σ.env->∃σ',bW (run pt m) (jn 49 0 g.cellsL) (.tup [128,188,63]) EM (r.map Sd) σ=some (.ok .next,σ')/\Inv g σ'/\vp σ'.env:=by
 intro r
 induction r with
 |nil=>intro σ _ h he;exact(aM σ rfl h he)
 |cons b r ih=>
  intro σ hr h he
  let z0:=Gh.adr b.th
  refine hg λcg kg=>?_;obtain⟨a0,a1,a2,RP⟩:∃a0 a1 a2,putN 63 b.v (putN 188 (.str (aT b.k)) (putN 128 (.int z0) σ.env))=vG a0 (.str (aT b.k)) a1 a2 (.int z0) b.v:=by
   rcases he with⟨a,b',c,d,e⟩|⟨a,b',c,d,f,k,e⟩<;>(refine(e).symm ▸?_)<;>exact(b6 a c d rfl)
  refine aZ (zV (σ:=σ.setE (vG a0 (.str (aT b.k)) a1 a2 (.int z0) b.v)) h.setE bQ (hr b (.head _)) rfl hm) λσ1 e1 i1 v1=>?_;refine aZ (ih σ1 (λx hx=>hr x (.tail _ hx)) i1 (.inr ⟨_,_,_,_,_,_,v1⟩)) λdy e2 i2 v2=>?_
  refine kg ?_;refine(aM dy ((d9 (σ1:=σ.setE (vG a0 (.str (aT b.k)) a1 a2 (.int z0) b.v)) ?_ e1 (by
   refine(qo (ta i1)).trans ?_;show M.gd (V.beqs g.cellsL g.cellsL) _ σ1=_;rw[V.beqs_self];rfl)).trans e2) i2 v2)
  (refine(RP) ▸?_);rfl
theorem qr(h:p σ=some (.ok a,σ')):M.calm p σ=some (.ok a,σ'):=by
 unfold M.calm;rw[h]
theorem len_list(h:σ.get s i=some (.list vs))(hl:vs.length<=1000):M.len (.obj s i) σ=some (.ok (.int (vs.length:Nat)),σ):=by
 refine(qo h).trans ?_;show M.gd (Nat.ble vs.length ay) _ σ=_
 (refine(ZH (show vs.length<=ay from hl)).symm ▸?_);rfl
theorem BV(h1:kK (run pt m) args σ=some (.ok vs,σ'))(h2:f0 vs=some l)(h3:bW (run pt m) (M.pure ()) t b l σ'=some (.ok .next,dm)):(run pt (m+1)).s (.for t (.range args) b) σ=some (.ok .next,dm):=by
 show M.bind (kK (run pt m) args) (λvs=>M.of (f0 vs) λl=>M.calm (bW (run pt m) (M.pure ()) t b l)) σ=_;rw[aA h1,h2];exact qr h3
theorem JK(h1:(run pt m).e e σ=some (.ok (.obj s i),σ'))(h2:σ'.get s i=some (.list vs))(hl:vs.length<=1000)(h3:bW (run pt m) (jn s i vs) t b vs σ'=some (.ok .next,dm)):(run pt (m+1)).s (.for t (.over e) b) σ=some (.ok .next,dm):=by
 refine(aA h1).trans ?_;refine(qo h2).trans ?_;show M.gd (Nat.ble vs.length ay) (M.calm (bW (run pt m) (jn s i vs) t b vs)) σ'=_
 (refine(ZH (show vs.length<=ay from hl)).symm ▸?_)
 exact qr h3
theorem zw(h:Inv g σ)(bQ:g.ts=25)(he:vp σ.env)(hm:60<=m):∃σ',execs (run pt m) (bq.body.drop 4) σ=some (.ok (.ret (.bool true)),σ'):=by
 have hsz:=h.siz;have Xq:=h.cnt;have ck:=OD;rw[YW]at ck;have go:∀yl env,σ.env=bF (Z g σ (o9 [0,0,0,0,0,0,0,0,0,0,(g.ce.length:Nat)]) (YC .none .none yl) bw) env->rA ({Aa (.any 1) fN with bl:=(5,iS 30)::Lh}) 60 (bq.body.drop 4) (uA (.any 1)++gens (.any 1) 25) env (some (.bool true)) env [] uG=true->∃σ',execs (run pt m) (bq.body.drop 4) σ=some (.ok (.ret (.bool true)),σ'):=by
  intro yl env lT cw;obtain⟨X,hX⟩:∃X,X=o9 [0,0,0,0,0,0,0,0,0,0,(g.ce.length:Nat)]:=⟨_,rfl⟩;rw[<-hX]at lT
  refine U (xi (show uz (Z g σ X (YC .none .none yl) bw) ({Aa (.any 1) fN with bl:=(5,iS 30)::Lh}) σ from let F:=T7 h (tu:= .any 1) rfl (uR (i1:= []) (vl:= []) (ac (by(refine((show(Z g σ X (YC .none .none yl) bw).int 30=(g.ce.length:Nat)from by rw[hX];rfl)).symm ▸?_);exact rg (YU (zan ..) (YU hsz ak))) J) J (ac (ac (by
   intro o ho;cases o<;>first|(cases ho;done)|skip
   rw[ae,ae,(show(Z g σ X (YC .none .none yl) bw).int 30=(g.ce.length:Nat)from by rw[hX];rfl)];show some (V.int ((g.N:Int)+ -1+(g.ce.length:Nat)))=some (V.int (g.n:Int));exact YV (λx=>some (V.int x)) (Ym Xq)) J) J) J)
   {F with
    bl:=ac (by rw[ae,(show(Z g σ X (YC .none .none yl) bw).int 30=(g.ce.length:Nat)from by rw[hX];rfl)];exact YV (λn:Nat=>V.int (n:Int)) (im g).symm) (Cq g)
    ca:=λp hp q hq S σ' hs j2 m hm=>by
     refine iQ (jx j2) λa l e1=>?_;have hp:p∈ [(197,fN.tg),(191,fN.vl),(56,fN.cu)]:=hp;simp only[YS,Y2,Zl]at hp;rcases hp with rfl|rfl|rfl<;>cases hq}).ok lT (λs j o ho=>by
   refine(gW ho).elim (λq=>?_) λh1=>?_
   ·(refine U q λl h1 h2=>?_;try clear q);simp only[uA,YR,Zv]at h1
    obtain⟨rfl,rfl⟩:=h1;simp only[YR,Zv]at h2;obtain⟨rfl,rfl⟩:=h2
    exact h.ent (by
   rcases h.tsv with e|e<;>rw[e]<;>rfl)
   ·exact h.ent (by(refine(bQ).symm ▸?_);exact h1)) (gS (by rw[eo,jE (.inl rfl)];rfl)) hm cw) λσ' e1 _=>?_
  exact⟨σ',e1⟩
 refine he.elim (λq=>?_) λq=>?_
 ·(refine cy q λa b c d e=>?_;try clear q);exact go [a,b,c,d] (eF (.any 11) (.any 12) (.any 13) (.any 14)) e ck.1
 ·(refine cy q λa b c d q=>?_;(refine iQ q λf k e=>?_;try clear q));exact go [a,b,c,d,f,k] (eG (.any 11) (.any 12) (.any 13) (.any 14) (.any 15) (.any 16)) e ck.2
theorem tr(h:Inv g σ)(bQ:g.ts=25)(hm:60<=m):∃σ',(run pt (m+9)).c 246 [.obj 40 0] σ=some (.ok (.bool true),σ'):=by
 have hsz:=h.siz;refine hg λcg kg=>?_;obtain⟨E,hE⟩:∃E,E=([(185, .obj 40 0),(84, .obj 41 0),(134, .obj 38 0)]:List (Nat×V)):=⟨_,rfl⟩
 (refine cy (NG (g:=g) bQ (m:=m+7) (Y9 ‹_› (Y4 _ _)) (g.N - 2) 1 (σ.setE E) (Yl _) (Zd 1) h.setE (.inl ⟨rfl,hE⟩)) λσ1 b0 b1 b2 q=>?_;(refine aZ q λb3 e1 i1 v1=>?_;try clear q))
 refine aZ (NF (g:=g) bQ (m:=m+7) (Y9 ‹_› (Y4 _ _)) g.ce σ1 (λ_ h=>h) i1 (.inl (MQ _ _ _ _ v1))) λdy e2 i2 v2=>?_;obtain⟨yg,e3⟩:=zw i2 bQ v2 (m:=m+8) (Y9 ‹_› (Y4 _ _));refine kg ?_;refine⟨yg.setE σ.env,Jh (m:=m+8) (fn:=bq) (env:= [(185, .obj 40 0)]) rfl rfl ?_⟩;refine(bo (fc (eh (x:= .obj 40 0) (y:= .str [101,118]) (v:= .obj 41 0) (σ':=σ.setE [(185, .obj 40 0)]) rfl rfl (AB (σ:=σ.setE [(185, .obj 40 0)]) h.setE rfl)))).trans ?_;refine(bo (fc (eh (x:= .obj 40 0) (y:= .str [109]) (v:= .obj 38 0) (σ':=σ.setE [(185, .obj 40 0),(84, .obj 41 0)]) rfl rfl (AB (σ:=σ.setE [(185, .obj 40 0),(84, .obj 41 0)]) h.setE rfl)))).trans ?_;change execs (run pt (m+8)) (.for (.loc 203) (.range [(.k (.int 1)),(.len (.sub (.loc 185) (.k (.str [101,120,97,99,116]))))]) uL:: .for (.tup [128,188,63]) (.over (.sub (.loc 185) (.k (.str [99,101,108,108,115])))) EM::bq.body.drop 4) (σ.setE [(185, .obj 40 0),(84, .obj 41 0),(134, .obj 38 0)])=_
 (refine(hE) ▸?_)
 have hN:g.N - 1=g.N - 2+1:=Yk _
 refine(bo (BV (σ:=σ.setE E) (σ':=σ.setE E) (fJ (rfl) (gy (show(run pt (m+7)).e (.len (.sub (.loc 185) (.k (.str [101,120,97,99,116])))) (σ.setE E)=some (.ok (.int ((g.exactL.length:Nat):Int)),σ.setE E)from(aA (eh (x:= .obj 40 0) (y:= .str [101,120,97,99,116]) (σ':=σ.setE E) (by(refine(hE).symm ▸?_);rfl) rfl (AB (σ:=σ.setE E) h.setE rfl))).trans (len_list (σ:=σ.setE E) (DX (σ:=σ.setE E) h.setE) (by rw[fG];exact YU h.N100 ak))))) ((show f0 [.int 1, .int ((g.exactL.length:Nat):Int)]=some (bh 1 (g.N - 1))from by
  rw[fG];show(match cz 1&&cz (g.N:Int)with|true=>some (bh 1 ((g.N:Int) - 1).toNat)|false=>none)=_
  rw[(show cz (g.N:Int)=true from by
   unfold cz;rw[YW,ZV,ZV];exact Ta h.N100),show((g.N:Int) - 1).toNat=g.N - 1 from Int.toNat_sub _ 1];rfl).trans (YV (λn=>some (bh 1 n)) hN)) e1)).trans ?_
 refine(bo (JK (eh (x:= .obj 40 0) (y:= .str [99,101,108,108,115]) (σ':=σ1) (by
  rw[fD v1];rfl) rfl (AB i1 rfl)) (ta i1) (by rw[im];exact YU (YU (zan ..) hsz) ak) e2)).trans e3
end
structure Az where
 int:List (Nat×Int)
 any:List (Nat×SV)
 atom:List (Nat×List Nat)
 base:List (Nat×List SV)
 db:List (Nat×List (SV×SV))
 len:List (Nat×Nat)
section
variable(T:Az)
mutual
def nz:SV->SV
 | .int x c=>match bJ x T.int with|some v=> .int 0 (v+c)|none=> .int x c
 | .any n=>match bJ n T.any with|some v=>v|none=> .any n
 | .atom n=>match bJ n T.atom with|some l=> .str l|none=> .atom n
 | .obj s j=>match Nat.ble 1000 j with
  |true=>match bJ s T.len with|some n=>(match Nat.blt (n+(j - 1000)) 1000 with|true=> .obj s (n+(j - 1000))|false=> .obj s j)|none=> .obj s j
  |false=> .obj s j
 | .tup vs=> .tup (An vs)
 |v=>v
def An:List SV->List SV
 | []=> []
 |v::r=>nz v::An r
end
theorem Wn(x:Nat)(c:Int):nz T (.int x c)=match bJ x T.int with|some v=> .int 0 (v+c)|none=> .int x c:=rfl
theorem Wm(n:Nat):nz T (.any n)=match bJ n T.any with|some v=>v|none=> .any n:=rfl
theorem Wl(n:Nat):nz T (.atom n)=match bJ n T.atom with|some l=> .str l|none=> .atom n:=rfl
theorem Wk(s j:Nat):nz T (.obj s j)=match Nat.ble 1000 j with
  |true=>match bJ s T.len with|some n=>(match Nat.blt (n+(j - 1000)) 1000 with|true=> .obj s (n+(j - 1000))|false=> .obj s j)|none=> .obj s j
  |false=> .obj s j:=rfl
theorem Wj(vs:List SV):nz T (.tup vs)= .tup (An T vs):=rfl
def Ao:List (Nat×SV)->List (Nat×SV)
 | []=> []
 |p::r=>(p.1,nz T p.2)::Ao r
def Ix:List (SV×SV)->List (SV×SV)
 | []=> []
 |p::r=>(nz T p.1,nz T p.2)::Ix r
def rj:SO->SO
 | .inst c fs=> .inst c (Ao T fs)
 | .list b vs=>match b with
  | .nil=> .list .nil (An T vs)
  | .var b=>match bJ b T.base with|some l=> .list .nil (l++An T vs)|none=> .list (.var b) (An T vs)
  |b=> .list b (An T vs)
 | .dict b k es=>match b with
  |none=> .dict none k (Ix T es)
  |some b=>match bJ b T.db,es with|some l, []=> .dict none k l|_,_=> .dict (some b) k (Ix T es)
 | .gone c fs=> .gone c (Ao T fs)
 | .caught c fs=> .caught c (Ao T fs)
def KY:bu->bu
 | []=> []
 |p::r=>(p.1,p.2.map λq=>(q.1,rj T q.2))::KY r
end
def dp(g:Gh)(X:Nat->Int)(len:Nat->Nat):Ro:={Z g ⟨λ_=> [], []⟩ X bZ bw with ix:=λs j=>if 1000<=j then len s+(j - 1000)else j,len0:=len}
noncomputable abbrev uq (g:Gh) (X:Nat->Int):Ro:=dp g X λ_=>0
structure rJ(ρ:Ro)(T:Az):Prop where
 z:ρ.int 0=0
 int:∀x v,bJ x T.int=some v->ρ.int x=v
 any:∀x v,bJ x T.any=some v->ρ.val x=ah ρ v
 atom:∀x v,bJ x T.atom=some v->ρ.str x=v
 base:∀x l,bJ x T.base=some l->ρ.base x=ax ρ l
 db:∀x l,bJ x T.db=some l->ρ.dbase x=c9 ρ l
 len:∀s n k,bJ s T.len=some n->n+k<1000->ρ.ix s (1000+k)=ρ.ix s (n+k)
section
variable{ρ:Ro}{T:Az}(h:rJ ρ T)
include h
theorem j9(v:SV):ah ρ (nz T v)=ah ρ v:=by
 refine SV.rec (motive_1:=λv=>ah ρ (nz T v)=ah ρ v) (motive_2:=λv=>ax ρ (An T v)=ax ρ v) rfl (λ_=>rfl) ?_ (λ_=>rfl) ?_ ?_ ?_ (λ_=>rfl) (λ_ _=>rfl) ?_ rfl ?_ v
 ·intro x c;dsimp only[Wn];cases e:bJ x T.int with
  |none=>rfl
  |some v=>
   show V.int (ρ.int 0+(v+c))=V.int (ρ.int x+c);rw[h.z,h.int x v e,ZA]
 ·intro n;dsimp only[Wl];cases e:bJ n T.atom with
  |none=>rfl
  |some l=>simp only[Ev,IO,h.atom n l e]
 ·intro vs i;dsimp only[Wj,iE];rw[i]
 ·intro s j;dsimp only[Wk];cases e:Nat.ble 1000 j with
  |false=>rfl
  |true=>
   dsimp only;cases e2:bJ s T.len with
   |none=>rfl
   |some n=>
    obtain⟨k,rfl⟩:∃k,j=1000+k:=⟨j - 1000,(zaq (YX e)).symm⟩;dsimp only;rw[ZS];cases e3:Nat.blt (n+k) 1000 with
    |false=>rfl
    |true=>
     simp only[uv];rw[h.len s n k e2 (YX e3)]
 ·intro n;dsimp only[Wm];cases e:bJ n T.any with
  |none=>rfl
  |some v=>exact(h.any n v e).symm
 ·intro v r i1 i2;dsimp only[An,c7];rw[i1,i2]
theorem lB(vs:List SV):ax ρ (An T vs)=ax ρ vs:=by
 induction vs with
 |nil=>rfl
 |cons v r i=>dsimp only[An,c7];rw[j9 h v,i]
theorem gb:∀fs:List (Nat×SV),bF ρ (Ao T fs)=bF ρ fs
 | []=>rfl
 |p::r=>by dsimp only[Ao,bF];rw[j9 h,gb r]
theorem xx:∀es:List (SV×SV),c9 ρ (Ix T es)=c9 ρ es
 | []=>rfl
 |p::r=>by dsimp only[Ix,c9];rw[j9 h,j9 h,xx r]
theorem mK:∀es:List (SV×SV),over ρ (Ix T es) b=over ρ es b
 | []=>rfl
 |p::r=>by dsimp only[Ix,PV];rw[j9 h,j9 h,mK r]
theorem qa(o:SO):aC ρ (rj T o)=aC ρ o:=by
 cases o with
 |inst c fs=>simp only[rj,aC];rw[gb h]
 |gone c fs=>simp only[rj,aC];rw[gb h]
 |caught c fs=>simp only[rj,aC];rw[gb h]
 |list b vs=>
  cases b with
  |nil=>simp only[rj,aC];rw[lB h]
  |set b i v=>simp only[rj,aC];rw[lB h]
  |var b=>
   dsimp only[rj];cases e:bJ b T.base with
   |none=>simp only[aC];rw[lB h]
   |some l=>simp only[aC,eC,ZG,mQ];rw[lB h,h.base b l e]
 |dict b k es=>
  cases b with
  |none=>simp only[rj,aC,gI];rw[xx h]
  |some b=>
   simp only[rj];cases e:bJ b T.db with
   |none=>simp only[aC,gI];rw[mK h]
   |some l=>
    cases es with
    |nil=>simp only[aC,gI,We];rw[h.db b l e]
    |cons _ _=>simp only[aC,gI];rw[mK h]
end
theorem qb:∀{es:bu},aP (KY T es) s j=some o->∃o',aP es s j=some o'/\o=rj T o':=by
 intro es
 induction es with
 |nil=>intro h;cases h
 |cons p r ih=>
  intro h;have hl:∀l:List (Nat×SO),bJ j (l.map λq=>(q.1,rj T q.2))=(bJ j l).map (rj T):=by
   intro l
   induction l with
   |nil=>rfl
   |cons q l ih=>
    rw[Y5,bM,bM,ih];cases Nat.beq q.1 j<;>rfl
  unfold aP at h⊢;dsimp only[KY]at h;rw[bM]at h⊢;cases e:Nat.beq p.1 s with
  |true=>
   rw[e]at h;have h:bJ j (p.2.map λq=>(q.1,rj T q.2))=some o:=h;rw[hl]at h;refine dI (bJ j p.2) (λe2=>?_) λo' e2=>?_
   ·rw[e2]at h;exact nt h
   ·rw[e2]at h;obtain rfl:=YZ h;exact(al o' e2 rfl)
  |false=>
   rw[e]at h;exact ih h
def Ew:Al:=⟨λ_=>true,λ_=>true,λ_ j=>Nat.blt j 1000,λ_=>true⟩
theorem Fb(g:Gh)(X:Nat->Int)(l l':Nat->Nat):Hj Ew (dp g X l) (dp g X l') where
 i _ _:=rfl
 a _ _:=rfl
 o s j h:=by
  have hj:=by have:=YX h;exact zaC.mpr ‹_›
  show(if 1000<=j then _ else _)=(if 1000<=j then _ else _);rw[Zs hj,Zs hj]
 b _ _:=⟨rfl,rfl⟩
 s:=rfl
def PY(es:bu):Bool:=es.all λp=>p.2.all λq=>Nat.blt q.1 1000&&uC Ew q.2
structure Ax(g:Gh)(X:Nat->Int)(es:bu)(L:List (Nat×Nat))(σ:St):Prop where
 e:∀s j o,aP es s j=some o->nth (σ.heap s) j=some (aC (uq g X) o)
 l:∀p∈L,(σ.heap p.1).length=p.2
def EZ(S:fk)(L:List (Nat×Nat))(s j:Nat):Option SO:=match bJ s L with|some n=>(match Nat.blt j n with|true=>S.get s j|false=>S.get s (1000+(j - n)))|none=>S.get s j
def Ls(T:Az):Bool:=(T.any.all λp=>nZ Ew p.2)&&(T.base.all λp=>yB Ew p.2)&&T.db.all λp=>p.2.all λq=>nZ Ew q.1&&nZ Ew q.2
def pd(F:Fx)(n:Nat)(l:List Sm)(T:Az)(es:bu)(env:List (Nat×SV))(es':bu)(L':List (Nat×Nat))(AP:List (Nat×SV)):Bool:=Ls T&&PY es&&PY es'&&(env.all λp=>nZ Ew p.2)&&(AP.all λp=>nZ Ew p.2)&&O.rec false (λf S=>rB none f&&LN (Ao T S.env) (Ao T AP)&&(es'.all λp=>p.2.all λq=>Option.rec false (λo=>(rj T o).beq (rj T q.2)) (EZ S T.len p.1 q.1))&&L'.all λp=>Option.rec false (λl=>Option.rec false (λn=>Nat.beq (n+l.cnt) p.2&& !Nat.beq (md F p.1) 4) (bJ p.1 T.len)) (S.hp.get p.1)) (λ_ _ _ _ _=>false) (dB (pe F n) l (ur (KY T es) (Ao T env)))
theorem lA(h:PY es=true)(he:aP es s j=some o):j<1000/\uC Ew o=true:=by
 have:=YN.mp (b8 (p:=λ_ q=>Nat.blt q.1 1000&&uC Ew q.2) h he);exact⟨YX this.1,this.2⟩
theorem gL(g:Gh)(X:Nat->Int)(l:Nat->Nat)(h:j<1000):(dp g X l).ix s j=j:=by
 exact Zs (zaC.mpr ‹_›)
theorem vc(g:Gh)(X:Nat->Int)(l:Nat->Nat):(dp g X l).ix s (1000+k)=l s+k:=by
 show(if 1000<=1000+k then l s+(1000+k - 1000)else _)=_;rw[ZU (Y4 _ _),ZS]
theorem M1{σ:St}(hI:rJ (uq g X) {T with len:= []})(ok:Ls T=true)(hl:∀p∈T.len,(σ.heap p.1).length=p.2):rJ (dp g X λs=>(σ.heap s).length) T where
 z:=hI.z
 int:=hI.int
 any x v e:=by
  unfold Ls at ok;rw[YW,YW,YO]at ok;exact(hI.any x v e).trans (dZ (Fb g X _ _) (ok.1.1 _ (aW e)))
 atom:=hI.atom
 base x l e:=by
  unfold Ls at ok;rw[YW,YW,YO,YO]at ok;exact(hI.base x l e).trans (sL (Fb g X _ _) (ok.1.2 _ (aW e)))
 db x l e:=by
  unfold Ls at ok;rw[YW,YO (l:=T.db)]at ok;exact(hI.db x l e).trans (xu (Fb g X _ _) (ok.2 _ (aW e)))
 len s n k e hk:=by
  rw[vc,gL g X _ hk,hl _ (aW e)]
theorem Ir{F:Fx}{n m:Nat}{l:List Sm}{T:Az}{env AP:List (Nat×SV)}(W:Ax g X es T.len σ)(hI:rJ (uq g X) {T with len:= []})(hf:dY (dp g X λs=>(σ.heap s).length) F σ)(he:σ.env=bF (uq g X) env)(cw:pd F n l T es env es' L' AP=true)(hm:n<=m):∃σ',execs (run pt m) l σ=some (.ok .next,σ')/\Ax g X es' L' σ'/\σ'.env=bF (uq g X) AP/\∀s,yi (md F s)=false->∀i o,nth (σ.heap s) i=some o->nth (σ'.heap s) i=some o:=by
 unfold pd at cw;simp only[YW]at cw
 (refine dc cw λq1 cw=>?_;obtain⟨⟨⟨⟨k0,k1⟩,k2⟩,k3⟩,k4⟩:=q1)
 have hT:=M1 hI k0 W.l;have ag:=Fb g X (λs=>(σ.heap s).length) λ_=>0
 have:=cI hf (jv hf n m hm) l _ _ (show jY (dp g X λs=>(σ.heap s).length) F σ (ur (KY T es) (Ao T env)) σ from by
  refine wO hf.l0 ?_ (λs j o ho=>?_) (λs j k a b ha hb e=>?_)
  ·rw[he,gb hT,jz ag k3]
  ·(refine U (qb ho) λo' e1 q3=>?_;subst q3)
   have q:=lA k1 e1;rw[gL g X _ q.1,qa hT,hU ag q.2];exact W.e s j o' e1
  ·refine U (qb ha) λa' ea _=>?_;refine U (qb hb) λb' eb _=>?_;rw[gL g X _ (lA k1 ea).1,gL g X _ (lA k1 eb).1]at e;exact e)
 cases e:dB (pe F n) l (ur (KY T es) (Ao T env))with
 |no=>rw[e]at cw;exact nf cw
 |ex b s j c S=>rw[e]at cw;exact nf cw
 |ok f S=>
  rw[e]at cw this
  (refine U this λσ' e1 iD=>?_;clear this)
  rw[YW,YW,YW]at cw;obtain⟨⟨⟨c1,c2⟩,c3⟩,c4⟩:=cw
  refine(AW σ' (by(refine((show dR (dp g X λs=>(σ.heap s).length) f= .next from by
   cases f with
   |next=>rfl
   |ret v=>exact nf c1)) ▸?_);exact e1) ⟨λs j o ho=>?_,λp hp=>?_⟩ ?_ (λs hw i o h=>iD.ro s hw i o h))
  ·have q:=lA k2 ho;have c:=b8 (p:=λs r=>Option.rec false (λo=>(rj T o).beq (rj T r.2)) (EZ S T.len s r.1)) c3 ho;rw[<-hU ag q.2,<-qa hT];refine dI (EZ S T.len s j) (λeg=>?_) λo1 eg=>?_
   ·
    have c:=c;rw[eg]at c;exact nf c
   ·
    have c:=c;rw[eg]at c;rw[<-SO.beq_eq c,qa hT];unfold EZ at eg;refine dI (bJ s T.len) (λen=>?_) λn en=>?_
    ·
     rw[en]at eg;have:=iD.at_ s j o1 eg;rw[gL g X _ q.1]at this;exact this
    ·
     rw[en]at eg;dsimp only at eg;refine cX (Nat.blt j n) (λeb=>?_) λeb=>?_
     ·
      rw[eb]at eg;have:=iD.at_ s j o1 eg;rw[gL g X _ q.1]at this;exact this
     ·
      rw[eb]at eg;have:=iD.at_ s _ o1 eg;have YH:n<=j:=by
       rcases Nat.lt_or_ge j n with h|h
       ·exact absurd (show Nat.blt j n=true from ZH h) (by rw[eb];decide)
       ·exact h
      rw[vc,(W.l _ (aW en)),show n+(j - n)=j by exact zaq ‹_›]at this;exact this
  ·rw[YO]at c4;have c:=c4 p hp;refine dI (S.hp.get p.1) (λeL=>?_) λl eL=>?_
   ·rw[eL]at c;exact nf c
   ·
    rw[eL]at c;refine dI (bJ p.1 T.len) (λen=>?_) λn en=>?_
    ·rw[en]at c;exact nf c
    ·
     rw[en]at c;have c:=c;rw[YW]at c;rw[iD.cnt _ l eL (λe=>by rw[e]at c;exact absurd c.2 ak),<-aB.mp c.1];show(σ.heap p.1).length+l.cnt=n+l.cnt;rw[(W.l _ (aW en))]
  ·rw[iD.env,<-gb hT,pL c2,gb hT,jz ag k4]
def gE(s:Nat):Nat×List (Nat×SO):=(s,Option.rec [] (λl=>l) (bJ s (gens (.any 1) 121)))
noncomputable def VX (t:SV):SO:= .inst 237 [(13,(.obj 75 0)),(38,t),(287,(.obj 77 0)),(279,(.obj 78 0)),(288,(.obj 79 0)),(289,(.obj 80 0)),(290,(.int 0 0))]
noncomputable def mO (k:SV):SO:= .inst 238 [(36,(.obj 37 0)),(13,(.obj 75 0)),(122,(.obj 39 0)),(244,k),(140,(.obj 111 0)),(308,(.obj 112 0)),(143,(.obj 113 0)),(234,(.obj 114 0)),(332,(.obj 115 0)),(351,(.obj 116 0)),(333,(.obj 117 0)),(352,(.obj 118 0)),(173,(.obj 119 0)),(135,(.int 0 0)),(212,(.obj 120 0)),(137,(.obj 121 0)),(305,(.obj 122 0)),(353,(.obj 123 0)),(307,(.obj 124 0)),(354,(.obj 125 0)),(355,(.obj 126 0))]
noncomputable def Ub (k:SV):SO:= .inst 240 [(299,(.obj 38 0)),(36,(.obj 37 0)),(13,(.obj 75 0)),(90,(.obj 82 0)),(301,(.int 0 0)),(300,(.int 0 100)),(263,(.int 0 0)),(302,(.int 0 0)),(303,(.obj 83 0)),(127,(.int 0 0)),(304,(.obj 84 0)),(244,k),(305,(.obj 86 0)),(306,(.obj 88 0)),(307,(.obj 89 0)),(308,(.obj 90 0)),(309,(.obj 91 0)),(310,(.obj 92 0)),(311,(.obj 93 0)),(312,(.obj 94 0)),(313,(.obj 95 0)),(314,(.obj 96 0)),(315,(.obj 97 0)),(316, .none)]
def XE:SO:= .inst 239 [(90,(.obj 99 0)),(110,(.obj 100 0)),(125,cS 16),(323,(.int 0 4000)),(326,(.obj 101 0)),(324,(.int 0 3)),(130,cS 0),(327,(.int 0 1001)),(328,(.obj 102 0)),(329,(.obj 103 0)),(330,(.int 0 0)),(126,cS 0)]
def wT(n:Nat)(a:SV):SO:= .dict none 1 ((nY a (.any 2) (.any 1)).take n)
noncomputable def Hb:List (Nat×SO):= [(0, .dict none 0 [])]
def lE(l:List SV):List (Nat×SO):= [(0, .list .nil l)]
def QY:bu:= [gE 33,gE 61,gE 75,gE 120,gE 121,gE 126,(42, [(0,Ua (.obj 105 0))])]
def Qf:bu:= [(39, [(0,XE)]),(45,lE [.str []]),(46,lE [.none]),(47,lE [cS 0]),(48,lE [cS 0]),(49,lE []),(82,lE [.none]),(99,lE []),(100,Hb)]
def Ui:bu:= [(111,Hb),(113,Hb),(119,Hb)]
def IM(n:Nat)(a:SV):bu:=(40, [(0,wT n a)])::(37, [(0,VX (.obj 76 0))])::(38, [(0,mO (.obj 110 0))])::(41, [(0,Ub (.obj 85 0))])::(114,Hb)::(Ui++Qf++QY)
def Uf:bu:=gE 50::IM 14 (iS 1)
def QQ:bu:=gE 50::IM 15 (iS 1)
def Ue:bu:=gE 50::(40, [(0,wT 15 (iS 1))])::gE 37::gE 34::gE 36::gE 114::(38, [(0,mO (.obj 110 0))])::(41, [(0,Ub (.obj 85 0))])::(Ui++Qf++QY)
def Ud(tu:Bool):bu:=gE 50::(40, [(0,wT 15 (iS 1))])::gE 37::gE 34::gE 36::gE 114::gE 38::gE 41::gE 14::gE 15::gE 16::gE 17::gE 119::(111,((qE tu).map (λp=>p.2)).headD [])::(rS tu,((qE tu).map (λp=>p.2)).getD 1 [])::gE 113::(Qf++QY)
def I2:bu:= [(4, [0,1,2].map λ(i:Nat)=>(i, .inst 91 [(89,cS (i+1)),(87,cS (oK (i+1))),(88, .obj 53 i),(93, .none),(140, .obj 81 i),(292,cS 0),(102,Tl (i+1))])),(9, [0,1,2].map λ(i:Nat)=>(i, .inst 124 [(128,cS (oA (i+1))),(87,cS (Tn (i+1))),(88,Tm (i+1)),(321,cS 0),(129,cS 3),(127,cS (i+1))])),(53, [0,1,2].map λ(i:Nat)=>(i, .list .nil [])),(54, [(0, .inst 245 [(103, .tup [cS 16])])]),(13, [0,1].map λ(i:Nat)=>(i, .list .nil [dl (cS 4) (cS 0)])),(11, [(0, .list .nil [.tup [cS 8, .str []]])])]
def Eu(tu:Bool):bu:=gens (.any 1) 121++((111,((qE tu).map (λp=>p.2)).headD [])::(rS tu,((qE tu).map (λp=>p.2)).getD 1 [])::I2)
def wu(x:List (Nat×SV)):List (Nat×SV):=(236, .obj 60 0)::(36, .obj 37 0)::(134, .obj 38 0)::(185, .obj 40 0)::x
def zL(l:List Nat):List (Nat×Nat):=l.map λs=>(s,0)
def yN:List Nat:=(List.range 127).filter λs=> !Nat.beq s 60
noncomputable def rG:List Nat:= [4,8,9,10,11,12,13,14,15,16,17,34,35,36,50,51,52,53,54,66,67,68,69,70,71,72,73,74,81]
def ww:Az:=⟨[(1,1)], [(2, .tup [sN 0,cS 0])], [], [], [], []⟩
def IA(w n:List Nat):Tr Nat:=uJ 9 1 ((w.map λs=>(s,2))++(n.map λs=>(s,1)))
def Ae(mo:Tr Nat):Fx:={bd:= [],bl:= [],it:= [],dt:= [],op:= [],eq:= [],le:= [],ca:= [],cf:=0,pre:=λ_=>true,mo:=mo}
def wB(i n:Nat):List Sm:=(bO.body.drop i).take n
def V1:Bool:=pd (Ae (IA [] yN)) 85 (wB 0 3) {ww with len:=zL yN} [] [(236, .obj 60 0)] ((44,Hb)::IM 13 (cS 0)) (zL rG) (wu [])
def Pv(n:Bool):Fx:={Ae (IA [40] [])with bd:= [(21,match n with|true=>(1,1000)|false=>(0,0))],bl:= [(8,iS 21)],it:= [(8,match n with|true=> [(cS 0,iS 22)]|false=> [])]}
def Lo(n:Bool):Az:={ww with int:=match n with|true=> [(1,1)]|false=> [(1,1),(22,0)]}
def PO(n:Bool):Bool:=pd (Pv n) 60 (wB 3 1) {Lo n with len:=zL rG} (O4++IM 13 (cS 0)) (wu []) (IM 13 (iS 1)) (zL rG) (wu [(242,iS 22)])
def T6(ue:Nat)(u3:Option Nat):Fx:={Ae (IA [40] [50])with op:= [(3, [((iS 22,cS 8),iS 23),((iS 22,cS 16),iS 24)]),(4,((iS 22,cS 8),cS ue)::(match u3 with|none=> [((iS 23,cS 2),cS 0)]|some u=> [((iS 23,cS 2),cS 1),((iS 24,cS 8),cS u)]))]}
def KR(ue:Nat)(u3:Option Nat):List (Nat×List Nat):= [(1,aT ((nth kJ ue).getD 0)),(2,aT ((nth kJ (u3.getD ue)).getD 0))]
def O3(ue:Nat)(u3:Option Nat):Bool:=pd (T6 ue u3) 60 (wB 4 2) {ww with atom:=KR ue u3,len:=zL rG} (IM 13 (iS 1)) (wu [(242,iS 22)]) Uf (zL (rG.filter λs=> !Nat.beq s 50)) (wu [(242,iS 22),(47, .atom 1)])
def T5(tu ka ks:Bool):Fx:={Ae (IA [40,44] [])with op:= [(3, [((iS 22,cS 128),iS 25),((iS 22,cS 256),iS 26),((iS 22,cS 512),iS 27)]),(4, [((iS 25,cS 2),b2 tu),((iS 26,cS 2),b2 ka),((iS 27,cS 2),b2 (!ks))])]}
def rV:List Nat:=rG.filter λs=> !Nat.beq s 50
def SX(tu ka ks:Bool):Bool:=pd (T5 tu ka ks) 60 (wB 6 3) {ww with any:= [(2, .tup [sN 0,cS 0]),(1, .bool tu)],len:=zL rV} ((44,Hb)::Uf) (wu [(242,iS 22),(47, .atom 1)]) (Mw ka ks++QQ) (zL rV) (wu [(242,iS 22),(47, .atom 1)])
noncomputable def Bd:List Nat:= [4,8,9,10,11,12,13,14,15,16,17,51,52,53,54,81]
def PN(ue uf:Nat):Bool:=pd (Ae (IA [37,114] [34,35,36,66,67,68,69,70,71,72,73,74])) 60 (wB 9 1) {ww with int:= [(1,1),(6,iC ((nth kJ ue).getD 0)),(7,iC ((nth kJ uf).getD 0))],atom:=KR ue (some uf),len:=zL rV} QQ (wu [(242,iS 22),(47, .atom 1)]) Ue (zL Bd) (wu [(242,iS 22),(47, .atom 1)])
def SK:List (List SV×SV):= [([w0,sN 0,cS 0],dl (cS 1) (cS 0)),([w0,sN 17,cS 0],dl (cS 1) (cS 0)),([w0,sN 2,cS 0],dl (cS 1) (cS 0)),([w0,sN 1,cS 0],dl (iS 8) (cS 0))]
def Pu(tu:Bool):Fx:={Ae (uJ 9 1 [(38,2),(41,2),(119,2),(113,2),(111,2),(14,1),(15,1),(16,1),(17,1),(51,1),(52,1),(18,4)])with ca:= [(197,SK)],cf:=22,pre:=ER (.bool tu)}
def KS(tu:Bool):Az:={ww with any:=(2, .tup [sN 0,cS 0])::(1, .bool tu):: [23,24,25,26,27].map λi=>(i,IS tu i)}
noncomputable def Bc:List Nat:= [4,8,9,10,11,12,13,53,54,81]
def SU(tu:Bool):Bool:=pd (Pu tu) 60 (wB 10 4) {KS tu with len:=zL Bd} Ue (wu [(242,iS 22),(47, .atom 1)]) (Ud tu) (zL Bc) (wu [(242,iS 22),(47, .atom 1),(188,sN 11),(16, .tup [cS 0])])
def O1(tu:Bool):Az:={KS tu with int:= [(1,1),(2,4),(3,25),(4,3),(5,9)],any:=(9, .obj 105 0)::(KS tu).any,base:= [(1, [.str [],sN 13,sN 15,sN 13]),(2, [.none, .none, .none, .none]),(3, [cS 0,cS 1,cS 2,cS 3]),(4, [cS 0,cS 16,cS 19,cS 22]),(5, []),(6, [.none, .obj 4 0, .obj 4 1, .obj 4 2]),(7, [.obj 9 0, .obj 9 1, .obj 9 2])],db:= [(1, [(cS 16, .obj 9 0),(cS 19, .obj 9 1),(cS 22, .obj 9 2)])]}
def SR(tu:Bool):Bool:=pd (Ae (IA [39,45,46,47,48,82,99,100] [4,9,10,11,12,13,53,54,81])) 60 (wB 14 3) {O1 tu with len:=zL Bc} (Ud tu) (wu [(242,iS 22),(47, .atom 1),(188,sN 11),(16, .tup [cS 0])]) (Eu tu) [(4,3),(8,0),(9,3),(12,0)] (wu [(242,iS 22),(47, .atom 1),(188,sN 13),(16, .tup [cS 0])])
noncomputable def r8:List Nat:= [0,1,2,3,4,5,6,7]
theorem Ow:V1=true:=by decide+kernel
theorem Ov:(PO true&&PO false)=true:=by decide+kernel
theorem Ou:∀ue∈r8,(O3 ue none&&r8.all λu=>O3 ue (some u))=true:=by
 unfold r8;repeat' first|exact J|refine ac ?_ ?_|decide+kernel
theorem Ot:(bL.all λtu=>bL.all λka=>bL.all λks=>SX tu ka ks)=true:=by decide+kernel
theorem Os:∀ue∈r8,(r8.all λuf=>PN ue uf)=true:=by
 unfold r8;repeat' first|exact J|refine ac ?_ ?_|decide+kernel
theorem Oq:(bL.all λtu=>SU tu&&SR tu)=true:=by decide+kernel
def g0(c:Cf)(sc:List Int):Gh:=⟨c,sc,1, [], [],3,0, .int 0,121,0,105,0⟩
section
variable{c:Cf}{sc:List Int}{X:Nat->Int}{σ:St}
theorem wL(g:Gh)(X:Nat->Int)(l:Nat->Nat):ry g (dp g X l):=⟨rfl,rfl,rfl,rfl⟩
theorem GV{T:Az}{ρ:Ro}(z:ρ.int 0=0)(h1:∀p∈T.int,ρ.int p.1=p.2)(h2:∀p∈T.any,ρ.val p.1=ah ρ p.2)(h3:∀p∈T.atom,ρ.str p.1=p.2)(h4:∀p∈T.base,ρ.base p.1=ax ρ p.2)(h5:∀p∈T.db,ρ.dbase p.1=c9 ρ p.2):rJ ρ {T with len:= []}:=
 ⟨z,λx v e=>h1 _ (aW e),λx v e=>h2 _ (aW e),λx v e=>h3 _ (aW e),λx v e=>h4 _ (aW e),λx v e=>h5 _ (aW e),λs n k e=>nomatch e⟩
theorem X1(hl:sc.length<=40)(l:Nat->Nat)(b:Nat):((dp (g0 c sc) X l).base b).length<=500:=by
 let z0:=g0 c sc
 show(match b with|1=>z0.exactL|2=>z0.heldL|3=>z0.itemsL|4=>z0.addrsL|5=>z0.cellsL|6=>z0.thingsL|7=>z0.hthL|8=>z0.sc.map V.int|_=> []).length<=500;have e:z0.N=4:=rfl;split
 ·rw[fG,e];decide
 ·rw[mM,e];decide
 ·rw[kr,e];decide
 ·rw[dF,e];decide
 ·rw[im];exact Zh _
 ·rw[i7,e];decide
 ·rw[qj,(show z0.n=3 from rfl)];decide
 ·rw[Zu];exact YU ‹_› ak
 ·exact Zh _
theorem Pt(hl:sc.length<=40){F:Fx}(bd:∀p∈F.bd,p.2.1<=(dp (g0 c sc) X λs=>(σ.heap s).length).int p.1/\(dp (g0 c sc) X λs=>(σ.heap s).length).int p.1<=p.2.2)(bl:∀p∈F.bl,ah (dp (g0 c sc) X λs=>(σ.heap s).length) p.2= .int (((dp (g0 c sc) X λs=>(σ.heap s).length).base p.1).length:Nat))(it:∀p∈F.it,∀q∈p.2,∃n:Nat,ah (dp (g0 c sc) X λs=>(σ.heap s).length) q.1= .int n/\n<=500/\nth ((dp (g0 c sc) X λs=>(σ.heap s).length).base p.1) n=some (ah (dp (g0 c sc) X λs=>(σ.heap s).length) q.2))(dt:F.dt= [])(eq:F.eq= [])(le:F.le= [])(op:∀p∈F.op,∀q∈p.2,∀o,nA o=p.1->bY o (ah (dp (g0 c sc) X λs=>(σ.heap s).length) q.1.1) (ah (dp (g0 c sc) X λs=>(σ.heap s).length) q.1.2)=some (ah (dp (g0 c sc) X λs=>(σ.heap s).length) q.2))(ca:∀p∈F.ca,∀q∈p.2,∀S σ',jY (dp (g0 c sc) X λs=>(σ.heap s).length) F σ S σ'->F.pre S=true->∀m,F.cf<=m->∃dm,(run pt m).c p.1 (ax (dp (g0 c sc) X λs=>(σ.heap s).length) q.1) σ'=some (.ok (ah (dp (g0 c sc) X λs=>(σ.heap s).length) q.2),dm)/\jY (dp (g0 c sc) X λs=>(σ.heap s).length) F σ S dm):
  uz (dp (g0 c sc) X λs=>(σ.heap s).length) F σ where
 z:=rfl
 bd:=bd
 st n:=by
  cases n with
  |zero=>exact hZ _
  |succ n=>cases n<;>exact hZ _
 bn:=X1 hl _
 dn b:=by
  cases b with
  |zero=>exact Zh _
  |succ b=>cases b with
   |zero=>show(g0 c sc).hatL.length<=500;rw[xG];show 3<=500;decide
   |succ b=>exact Zh _
 bl:=bl
 it:=it
 dt:=by(refine(dt).symm ▸?_);nofun
 op:=op
 eq:=by(refine(eq).symm ▸?_);nofun
 le:=by(refine(le).symm ▸?_);nofun
 nw s k:=vc _ _ _
 l0 _:=rfl
 ca:=ca
end
noncomputable def hX (sc:List Int) (h:Int):Nat->Int:=λx=>match x with|21=>(sc.length:Nat)|22=>h|23=>h.fdiv 8|24=>h.fdiv 16|25=>h.fdiv 128|26=>h.fdiv 256|27=>h.fdiv 512|_=>0
def gN:List Int->Int
 | []=>0
 |h::_=>h
noncomputable def Au (h:Int):Option Nat:=match decide ((h.fdiv 8).fmod 2=0)with|true=>none|false=>some ((h.fdiv 16).fmod 8).toNat
def hC(h:Int):Cf:=⟨(h.fmod 8).toNat,(Au h).getD (h.fmod 8).toNat,decide ((h.fdiv 128).fmod 2=1),decide ((h.fdiv 256).fmod 2=1),decide ((h.fdiv 512).fmod 2=0)⟩
theorem pA{z:Int}:∃n:Nat,z.fmod 8=(n:Int)/\n<8/\n∈r8:=by
 exact(aM ((z.fmod 8).toNat) ((Zw (Zq _ ak)).symm) (m8 z) ((show∀n,n<8->n∈r8 from by decide) _ (m8 z)))
theorem r5(h:Int):(hC h).ok:=by
 refine⟨m8 h,?_⟩
 ·show((match decide ((h.fdiv 8).fmod 2=0)with|true=>none|false=>some ((h.fdiv 16).fmod 8).toNat:Option Nat).getD (h.fmod 8).toNat)<8;split
  ·exact m8 h
  ·exact m8 _
section
variable{sc:List Int}{σ:St}
theorem Ax.more(W:Ax g X es L σ)(h:∀q∈p.2,nth (σ.heap p.1) q.1=some (aC (uq g X) q.2))(hL:∀q∈L',q∈L):Ax g X (p::es) L' σ where
 e s j o ho:=by
  refine(gW (a:= [p]) (b:=es) ho).elim (λq=>?_) λh1=>?_
  ·(refine U q λl h1 h2=>?_;try clear q);skip
   have e1:=YV Prod.fst (YR.mp h1);have e2:l=p.2:=YV Prod.snd (YR.mp h1);subst e1;subst e2;exact h _ h2
  ·exact W.e s j o h1
 l q hq:=W.l q (hL q hq)
theorem Ax.less(W:Ax g X es L σ)(h:∀s j o,aP es' s j=some o->aP es s j=some o)(hL:∀q∈L',q∈L):Ax g X es' L' σ:=⟨λs j o ho=>W.e s j o (h s j o ho),λq hq=>W.l q (hL q hq)⟩
theorem oU(hq:(es.all λp=> !Nat.beq p.1 q)=true)(h:aP es s j=some o):aP ((q,l)::es) s j=some o:=by
 unfold aP at h⊢
 rw[bM,(show Nat.beq q s=false from by
  cases e:Nat.beq q s with
  |false=>rfl
  |true=>
   have e:=aB.mp e;subst e;refine U (gV h) λl' h1 _=>?_;rw[YO]at hq;have:=hq _ h1;rw[show Nat.beq (q,l').1 q=true from aB.mpr rfl]at this;cases this)];exact h
theorem Q6(W:Ax g X es L σ)(XX:aP es 50 0=some (.dict none 1 [((.str [101]),(.atom 1)),((.str [102]),(.atom 2))]))(Uh:∃o,aP es 33 0=some o/\aC (uq g X) o= .dict 1 (Lz.map λp=>(.str (aT p.1), .int p.2)))(eD:ah (dp g X λs=>(σ.heap s).length) tu= .bool g.c.tu)(Av:nth (σ'.heap 40) 0=some (aC (dp g X λs=>(σ.heap s).length) (.dict none 1 (nY a l tu))))(keep:∀s i o,s=50\/s=33->nth (σ.heap s) i=some o->nth (σ'.heap s) i=some o):WS g.c σ' where
 w:=by
  refine(Fc (c9 (dp g X λs=>(σ.heap s).length) (nY a l tu)) ?_ Av rfl rfl ?_)
  ·rw[jR];exact(by decide:15<=500)
  ·(refine(eD) ▸?_);rfl
 un:=keep _ _ _ (.inl rfl) (W.e 50 0 _ XX)
 kd:=by
  (refine U Uh λo e1 e2=>?_;clear Uh)
  have:=W.e 33 0 _ e1;rw[e2]at this;exact keep _ _ _ (.inr rfl) this
theorem EL(hc:c.ok)(hk:k∈eT):aJ (WS c) ip 22 197 [.obj 40 0, .str (aT k), .int 0] (.tup [.int (eU (aG c k)), .int 0]):=by
 have P:=wM hc hk;have h:=(show∀p∈rh,low p<=0/\0<whole p/\cv p 0=0 from by decide+kernel) _ P.m;have:=BL c ⟨λh=>P.a.1 h,λh=>P.a.2 h⟩ P.s P.t h.1 h.2.1;rw[h.2.2]at this;exact this
theorem ND(tu:Bool)(s:Nat)(h:md (Pu tu) s≠4):ip s=false:=by
 cases e:ip s with
 |false=>rfl
 |true=>
  have:=aB.mp e;subst this;exact absurd rfl h
theorem Sc(h:Int):O3 (hC h).ue (Au h)=true:=by
 have ck:=Ou;refine aZ (pA (z:=h)) λn e hn hm=>?_;refine aZ (pA (z:=h.fdiv 16)) λk e2 hk Xd=>?_;have c:=YN.mp (ck n hm);rw[YO]at c;rw[(show(hC h).ue=n from YV Int.toNat e)];unfold Au;split
 ·exact c.1
 ·(refine(e2).symm ▸?_);exact c.2 k Xd
theorem Sb(h:Int):PN (hC h).ue (hC h).uf=true:=by
 have ck:=Os;have m8:∀n,n<8->n∈r8:=by decide
 have c:=ck _ (m8 _ (r5 h).1);rw[YO]at c;exact c _ (m8 _ (r5 h).2)
theorem nH(g:Gh)(X:Nat->Int)(l:Nat->Nat):∀i,i∈ [23,24,25,26,27]->(dp g X l).val i=ah (dp g X l) (IS g.c.tu i):=by
 intro i hi;simp only[YS,Y2,Zl]at hi;rcases hi with rfl|rfl|rfl|rfl|rfl<;>simp only[IS,eP (wL g X l),bS,ae,iE,dO,c7]<;>rfl
theorem Jr(hl:sc.length<=40)(K9:nth (σ.heap 60) 0=some (.list (sc.map .int)))(h0:∀s∈yN,(σ.heap s).length=0)(he:σ.env= [(236, .obj 60 0)])(hm:85<=m):∃σ',(∀r,execs (run pt m) (bO.body.drop 17) σ'=r->execs (run pt m) bO.body σ=r)/\Ax (g0 (hC (gN sc)) sc) (hX sc (gN sc)) (Eu (hC (gN sc)).tu) [(4,3),(8,0),(9,3),(12,0)] σ'/\nth (σ'.heap 44) 0=some (.dict (yD (hC (gN sc))) (yC (hC (gN sc))))/\nth (σ'.heap 60) 0=some (.list (sc.map .int))/\∃a b d,σ'.env= [(236, .obj 60 0),(36, .obj 37 0),(134, .obj 38 0),(185, .obj 40 0),(242, .int (gN sc)),(47,a),(188,b),(16,d)]:=by
 obtain⟨h,hh⟩:∃h,h=gN sc:=⟨_,rfl⟩
 (refine(hh) ▸?_)
 obtain⟨c,hc⟩:∃c,c=hC h:=⟨_,rfl⟩
 (refine(hc) ▸?_)
 obtain⟨X,G2⟩:∃X,X=hX sc h:=⟨_,rfl⟩
 (refine(G2) ▸?_)
 let z0:=run pt m
 have app:∀(i n:Nat) (σ1 dy:St),execs z0 (wB i n) σ1=some (.ok .next,dy)->bO.body.drop i=wB i n++bO.body.drop (i+n)->∀r,execs z0 (bO.body.drop (i+n)) dy=r->execs z0 (bO.body.drop i) σ1=r:=by
  intro i n σ1 dy h1 h2 r hr;rw[h2];have:∀(a b:List Sm) (τ KO:St),execs z0 a τ=some (.ok .next,KO)->execs z0 (a++b) τ=execs z0 b KO:=by
   intro a
   induction a with
   |nil=>intro b τ KO h;cases h;rfl
   |cons s a ih=>
    intro b τ KO h;have h:M.bind (z0.s s) (λf=>match f with| .next=>execs z0 a| .ret v=>M.pure (.ret v)) τ=some (.ok .next,KO):=h;show M.bind (z0.s s) (λf=>match f with| .next=>execs z0 (a++b)| .ret v=>M.pure (.ret v)) τ=_;unfold M.bind at h⊢;refine dI (z0.s s τ) (λe=>?_) λq e=>?_
    ·rw[e]at h;exact nt h
    ·
     (refine(e).symm ▸?_)
     obtain⟨q,UF⟩:=q;cases q with
     |exc _ _ _ _=>rw[e]at h;exact er h
     |ok f=>cases f with
      |next=>rw[e]at h;exact ih b UF KO h
      |ret v=>rw[e]at h;exact((YV (λr:R Fl=> @R.rec Fl (λ_=>Prop) (λf=>f.casesOn True λ_=>False) (λ_ _ _ _=>False) r) (sp h).1).mp trivial).elim
  rw[this _ _ _ _ h1];exact hr
 have z:∀l,(dp (g0 c sc) X l).int 0=0:=λ_=>rfl;have v2:(uq (g0 c sc) X).val 2=ah (uq (g0 c sc) X) (.tup [sN 0,cS 0]):=rfl;have F0:∀(mo:Tr Nat) (τ:St),dY (dp (g0 c sc) X λs=>(τ.heap s).length) (Ae mo) τ:=λmo τ=>(Pt (F:=Ae mo) hl J J J rfl rfl rfl J J).ok;have F1:∀(mo:Tr Nat) (τ:St) (op:List (Nat×List ((SV×SV)×SV))),(∀p∈op,∀q∈p.2,∀o,nA o=p.1->bY o (ah (dp (g0 c sc) X λs=>(τ.heap s).length) q.1.1) (ah (dp (g0 c sc) X λs=>(τ.heap s).length) q.1.2)=some (ah (dp (g0 c sc) X λs=>(τ.heap s).length) q.2))->dY (dp (g0 c sc) X λs=>(τ.heap s).length) ({Ae mo with op:=op}) τ:=λmo τ op h=>(Pt (F:={Ae mo with op:=op}) hl J J J rfl rfl rfl h J).ok
 refine uX (Ir (g:=g0 c sc) (X:=X) (es:= []) (σ:=σ) (T:={ww with len:=zL yN}) (F:=Ae (IA [] yN)) ⟨(λ_ _ _ h=>nomatch h),λp hp=>by
  (refine U (Zj.mp hp) λs hs q3=>?_;subst q3)
  exact h0 s hs⟩ (GV (T:=ww) rfl (ac rfl J) (ac v2 J) J J J) (F0 _ _) (env:= [(236, .obj 60 0)]) he Ow hm) λσ1 a1 W1 v1 k1=>?_
 have yh:∀l,(dp (g0 c sc) X l).int 21=(sc.length:Nat):=λl=>by rw[G2];rfl
 have gY:∀l,(dp (g0 c sc) X l).int 22=h:=λl=>by rw[G2];rfl
 have Ik:∀l,(dp (g0 c sc) X l).int 23=h.fdiv 8:=λl=>by rw[G2];rfl
 have OU:∀l,(dp (g0 c sc) X l).int 24=h.fdiv 16:=λl=>by rw[G2];rfl
 have SI:∀l,(dp (g0 c sc) X l).int 25=h.fdiv 128:=λl=>by rw[G2];rfl
 have SH:∀l,(dp (g0 c sc) X l).int 26=h.fdiv 256:=λl=>by rw[G2];rfl
 have SG:∀l,(dp (g0 c sc) X l).int 27=h.fdiv 512:=λl=>by rw[G2];rfl
 refine aZ ((show∃n,PO n=true/\dY (dp (g0 c sc) X λs=>(σ1.heap s).length) (Pv n) σ1/\rJ (uq (g0 c sc) X) {Lo n with len:= []}from by
  have ck:=YN.mp Ov;have go:∀n,((uq (g0 c sc) X).base 8).length=sc.length->(match n with|true=>1<=sc.length/\nth (sc.map V.int) 0=some (.int h)|false=>sc.length=0)->dY (dp (g0 c sc) X λs=>(σ1.heap s).length) (Pv n) σ1:=by
   intro n h8 hn;refine(Pt (F:=Pv n) hl (ac ?_ J) (ac ?_ J) (ac ?_ J) rfl rfl rfl J J).ok
   ·skip;rw[yh];cases n with
    |true=>exact⟨by have:=hn.1;exact ZI.mpr ‹_›,(ZI (n:=1000)).mpr (YU hl ak)⟩
    |false=>rw[hn];exact⟨ZN 0,ZN 0⟩
   ·show ah _ (iS 21)=V.int (((sc.map V.int).length:Nat):Int);rw[ae,yh,Zu]
   ·cases n with
    |false=>nofun
    |true=>exact ac (aM (0) rfl ak (by rw[ae,gY];exact hn.2)) nofun
  cases Er:sc with
  |nil=>
   refine(aM false (ck.2) ?_ ?_)
   ·(refine(Er) ▸?_);exact go false (Zu ..) (by(refine(Er).symm ▸?_);rfl)
   ·(refine(Er) ▸?_)
    exact GV (T:=Lo false) rfl (ac rfl (ac (by rw[gY,hh,Er];rfl) J)) (ac v2 J) J J J
  |cons h' r=>
   refine(aM true (ck.1) ?_ ?_)
   ·(refine(Er) ▸?_);exact go true (Zu ..) (by(refine(Er).symm ▸?_);exact⟨by rw[zbn];exact zbr _,by rw[hh,Er];rfl⟩)
   ·(refine(Er) ▸?_)
    exact GV (T:=Lo true) rfl (ac rfl J) (ac v2 J) J J J)) λnB cB LO tB=>?_
 refine uX (Ir (n:=60) (T:={Lo nB with len:=zL rG}) ((W1.less (es':=IM 13 (cS 0)) (λs j o ho=>oU rfl ho) (λ_ h=>h)).more (p:=(60, [(0, .list (.var 8) [])])) (ac ((k1 60 rfl 0 _ K9).trans (YV some (YV bt.list (Zb _).symm))) nofun) (λ_ h=>h)) tB LO v1 cB (YU ak hm)) λdy a2 W2 UO k2=>?_;have AL:60<=m:=YU ak hm;have Wg:∀(τ:St),∀p∈(T6 c.ue (Au h)).op,∀q∈p.2,∀o,nA o=p.1->bY o (ah (dp (g0 c sc) X λs=>(τ.heap s).length) q.1.1) (ah (dp (g0 c sc) X λs=>(τ.heap s).length) q.1.2)=some (ah (dp (g0 c sc) X λs=>(τ.heap s).length) q.2):=by
  intro τ;have G:=wL (g0 c sc) X λs=>(τ.heap s).length;refine aZ (pA (z:=h)) λn en hn _=>?_;refine aZ (pA (z:=h.fdiv 16)) λk ek hk _=>?_;have hu:c.ue=n:=by rw[hc];exact YV Int.toNat en
  refine yA (ac (cM (ae 22) (au G 8) rfl (by rw[ae,Ik,gY])) (ac (cM (ae 22) (au G 16) rfl (by rw[ae,OU,gY])) J)) (ac (bI (ρ:=dp (g0 c sc) X λs=>(τ.heap s).length) (ae 22) (au G 8) rfl (c:=cS c.ue) (by rw[gY,en,hu];exact au G _)) ?_);refine cX (decide ((h.fdiv 8).fmod 2=0)) (λe=>?_) λe=>?_
  ·
   rw[(show Au h=none from by unfold Au;rw[e])]
   let z1:=au G 2
   exact ac (bI (ae 23) z1 rfl (by rw[Ik,Zt e];exact au G 0)) J
  ·
   rw[(show Au h=some ((h.fdiv 16).fmod 8).toNat from by unfold Au;rw[e])];have e:=of_decide_eq_false e;refine ac (bI (ae 23) (au G 2) rfl (by rw[Ik,(ou (h.fdiv 8)).resolve_left e];exact au G 1)) (ac (bI (ae 24) (au G 8) rfl (by rw[OU,ek];exact au G _)) J)
 have cC:O3 c.ue (Au h)=true:=by rw[hc];exact Sc h
 refine uX (Ir (n:=60) (T:={ww with atom:=KR c.ue (Au h),len:=zL rG}) W2 (GV (T:={ww with atom:=KR c.ue (Au h)}) rfl (ac rfl J) (ac v2 J) (by
  refine ac ?_ (ac ?_ J)<;>(refine(hc).symm ▸?_)<;>rfl) J J) (F1 _ _ _ (Wg dy)) UO cC AL) λyg a3 W3 v3 k3=>?_
 have d3:=k3 44 rfl 0 _ (k2 44 rfl 0 _ (W1.e 44 0 _ rfl));have Wf:∀(τ:St),∀p∈(T5 c.tu c.ka c.ks).op,∀q∈p.2,∀o,nA o=p.1->bY o (ah (dp (g0 c sc) X λs=>(τ.heap s).length) q.1.1) (ah (dp (g0 c sc) X λs=>(τ.heap s).length) q.1.2)=some (ah (dp (g0 c sc) X λs=>(τ.heap s).length) q.2):=by
  intro τ;have G:=wL (g0 c sc) X λs=>(τ.heap s).length;have e1:c.tu=decide ((h.fdiv 128).fmod 2=1):=by rw[hc];rfl
  refine yA (ac (cM (ae 22) (au G 128) rfl (by rw[ae,SI,gY])) (ac (cM (ae 22) (au G 256) rfl (by rw[ae,SH,gY])) (ac (cM (ae 22) (au G 512) rfl (by rw[ae,SG,gY])) J))) (ac (bI (ae 25) (au G 2) rfl ?_) (ac (bI (ae 26) (au G 2) rfl ?_) (ac (bI (ae 27) (au G 2) rfl ?_) J)))
  ·rw[SI,e1];exact ke G
  ·rw[SH,(show c.ka=decide ((h.fdiv 256).fmod 2=1)from by rw[hc];rfl)];exact ke G
  ·rw[SG,(show(!c.ks)=decide ((h.fdiv 512).fmod 2=1)from by
   rw[hc];show(!decide ((h.fdiv 512).fmod 2=0))=_;rcases ou (h.fdiv 512)with e|e<;>rw[e]<;>rfl)];exact ke G
 have cD:SX c.tu c.ka c.ks=true:=by
  have ck:=Ot;rw[YO]at ck;have ck:=ck c.tu (dW _);rw[YO]at ck;have ck:=ck c.ka (dW _);rw[YO]at ck;exact ck c.ks (dW _)
 obtain⟨SA,a4,W4,v4,k4⟩:=Ir (n:=60) (T:={ww with any:= [(2, .tup [sN 0,cS 0]),(1, .bool c.tu)],len:=zL rV}) (W3.more (p:=(44,Hb)) (ac d3 J) (λ_ h=>h)) (GV (T:={ww with any:= [(2, .tup [sN 0,cS 0]),(1, .bool c.tu)]}) rfl (ac rfl J) (ac v2 (ac rfl J)) J J J) (F1 _ _ _ (Wf yg)) v3 cD AL;have s4:=k4 60 rfl 0 _ (k3 60 rfl 0 _ (k2 60 rfl 0 _ (k1 60 rfl 0 _ K9)));have d4:nth (SA.heap 44) 0=some (.dict (yD c) (yC c)):=by
  have:=W4.e 44 0 _ rfl;refine this.trans (YV some ?_);unfold yD yC;cases c.ka<;>cases c.ks<;>rfl
 have cE:PN c.ue c.uf=true:=by rw[hc];exact Sb h
 obtain⟨Ii,a5,W5,v5,k5⟩:=Ir (n:=60) (T:={ww with int:= [(1,1),(6,iC ((nth kJ c.ue).getD 0)),(7,iC ((nth kJ c.uf).getD 0))],atom:=KR c.ue (some c.uf),len:=zL rV}) (es:=QQ) (W4.less (λs j o ho=>oU rfl ho) (λ_ h=>h)) (GV (T:={ww with int:= [(1,1),(6,iC ((nth kJ c.ue).getD 0)),(7,iC ((nth kJ c.uf).getD 0))],atom:=KR c.ue (some c.uf)}) rfl (ac rfl (ac rfl (ac rfl J))) (ac v2 J) (ac rfl (ac rfl J)) J J) (F0 _ _) v4 cE AL;have s5:=k5 60 rfl 0 _ s4;have d5:=k5 44 rfl 0 _ d4;have Um:SU c.tu=true/\SR c.tu=true:=by
  have ck:=Oq;rw[YO]at ck;exact YN.mp (ck c.tu (dW _))
 have tF:rJ (uq (g0 c sc) X) {KS c.tu with len:= []}:=GV (T:=KS c.tu) rfl (ac rfl J) (ac v2 (ac rfl (ac (nH (g0 c sc) X _ 23 ak) (ac (nH (g0 c sc) X _ 24 ak) (ac (nH (g0 c sc) X _ 25 ak) (ac (nH (g0 c sc) X _ 26 ak) (ac (nH (g0 c sc) X _ 27 ak) J))))))) J J J;have FF:dY (dp (g0 c sc) X λs=>(Ii.heap s).length) (Pu c.tu) Ii:=by
  have G:=wL (g0 c sc) X λs=>(Ii.heap s).length;refine(Pt (F:=Pu c.tu) hl J J J rfl rfl rfl J (ac (λq hq S σ' hs j2 m hm=>?_) J)).ok;obtain⟨a,l,e1⟩:=jx j2;have yr:WS c σ':=Q6 (g:=g0 c sc) W5 rfl ⟨_,rfl,rfl⟩ (tu:= .bool c.tu) rfl (hs.at_ _ _ _ e1) λs i o hh ho=>hs.ro s (by rcases hh with rfl|rfl<;>rfl) i o ho;have Ph:c.ok:=by rw[hc];exact r5 h
  have sp:aJ (WS c) ip 22 197 (ax (dp (g0 c sc) X λs=>(Ii.heap s).length) q.1) (ah (dp (g0 c sc) X λs=>(Ii.heap s).length) q.2):=by
   simp only[SK,YS,Y2,Zl]at hq;rcases hq with rfl|rfl|rfl|rfl<;>simp only[dO,c7,vr G,Cn,bS,au G,ae]
   ·exact EL Ph (k:=0) ak
   ·exact EL Ph (k:=17) ak
   ·exact EL Ph (k:=2) ak
   ·exact EL Ph (k:=1) ak
  exact gv sp (ND _) (Zd 22) hs yr m hm
 obtain⟨Ys,a6,W6,v6,k6⟩:=Ir (n:=60) (T:={KS c.tu with len:=zL Bd}) W5 tF FF v5 Um.1 AL;have s6:=k6 60 rfl 0 _ s5;have d6:=k6 44 rfl 0 _ d5;have tG:rJ (uq (g0 c sc) X) {O1 c.tu with len:= []}:=by
  refine GV (T:=O1 c.tu) rfl ?_ ?_ J ?_ ?_
  ·exact ac rfl (ac rfl (ac rfl (ac rfl (ac rfl J))))
  ·exact ac rfl (ac v2 (ac rfl (ac (nH (g0 c sc) X _ 23 ak) (ac (nH (g0 c sc) X _ 24 ak) (ac (nH (g0 c sc) X _ 25 ak) (ac (nH (g0 c sc) X _ 26 ak) (ac (nH (g0 c sc) X _ 27 ak) J)))))))
  ·exact ac rfl (ac rfl (ac rfl (ac rfl (ac rfl (ac rfl (ac rfl J))))))
  ·exact ac rfl J
 obtain⟨UG,a7,W7,v7,k7⟩:=Ir (n:=60) (T:={O1 c.tu with len:=zL Bc}) W6 tG (F0 _ _) v6 Um.2 AL;refine⟨UG,λr hr=>app 0 3 _ _ a1 rfl _ (app 3 1 _ _ a2 rfl _ (app 4 2 _ _ a3 rfl _ (app 6 3 _ _ a4 rfl _ (app 9 1 _ _ a5 rfl _ (app 10 4 _ _ a6 rfl _ (app 14 3 _ _ a7 rfl _ hr)))))),W7,k7 44 rfl 0 _ d6,k7 60 rfl 0 _ s6, .str (aT (aG c 1)), .str (aT 13), .tup [.int 0],v7.trans ?_⟩;simp only[wu,bF,ae,gY];rfl
end
def LY:Al:=⟨ME,Jb,λs j=>Nat.blt j 1000&& !wF s&&(!Nat.beq s 25&&(!Nat.beq s 121||Nat.beq j 0)),λ_=>true⟩
theorem DF:((gens (.any 1) 121).all λq=>q.2.all λr=>uC LY r.2&&LY.o q.1 r.1)=true:=by decide+kernel
theorem F5:(bL.all λtu=>I2.all λp=>p.2.all λq=>Option.rec false (λo=>o.beq q.2) (aP (Eu tu) p.1 q.1))=true:=by decide+kernel
section
variable{c:Cf}{sc:List Int}{X:Nat->Int}{σ σ':St}{m:Nat}
theorem Sj:Hj LY (uq (g0 c sc) X) (Z (g0 c sc) σ gw bZ bw) where
 i x h:=(AT (g0 c sc) ⟨λ_=> [], []⟩ σ X gw bZ bZ bw bw).i x h
 a x h:=(AT (g0 c sc) ⟨λ_=> [], []⟩ σ X gw bZ bZ bw bw).a x h
 o s j h:=by
  have h:(Nat.blt j 1000&& !wF s&&(!Nat.beq s 25&&(!Nat.beq s 121||Nat.beq j 0)))=true:=h;simp only[YW,ZT,Bool.not_eq_true']at h;obtain⟨⟨h1,h2⟩,h3,h4⟩:=h;have hj:j<1000:=YX h1;rw[gL _ _ _ hj];show j=(if 1000<=j then _ else cond (wF s) _ (cond (_||_) _ _));rw[Zs (zaC.mpr hj),h2,h3];rcases h4 with h4|h4
  ·rw[h4];rfl
  ·have:=aB.mp h4;subst this;cases Nat.beq s 121<;>rfl
 b _ _:=⟨rfl,rfl⟩
 s:=rfl
theorem yT(hl:sc.length<=40)(hc:c.ok)(W:Ax (g0 c sc) X (Eu c.tu) [(4,3),(8,0),(9,3),(12,0)] σ)(Pq:nth (σ.heap 44) 0=some (.dict (yD c) (yC c)))(K9:nth (σ.heap 60) 0=some (.list (sc.map .int))):Inv (g0 c sc) σ:=by
 have E:∀{s j o},aP (Eu c.tu) s j=some o->nth (σ.heap s) j=some (aC (uq (g0 c sc) X) o):=λh=>W.e _ _ _ h;have N:∀{s j o},aP I2 s j=some o->nth (σ.heap s) j=some (aC (uq (g0 c sc) X) o):=by
  intro s j o h;have ck:=F5;rw[YO]at ck;have q:=b8 (p:=λs r=>Option.rec false (λo=>o.beq r.2) (aP (Eu c.tu) s r.1)) (ck c.tu (dW _)) h;have q:(Option.rec false (λo'=>o'.beq o) (aP (Eu c.tu) s j):Bool)=true:=q;cases e:aP (Eu c.tu) s j with
  |none=>rw[e]at q;exact nf q
  |some o'=>rw[e]at q;rw[<-SO.beq_eq q];exact E e
 have gl:∀{s j o},aP (gens (.any 1) 121) s j=some o->aP (Eu c.tu) s j=some o:=by
  intro s j o h;unfold aP at h;unfold Eu aP;rw[xE];cases e:bJ s (gens (.any 1) 121)with
  |none=>rw[e]at h;exact nt h
  |some l=>rw[e]at h;exact h
 exact {
  ok:=hc
  tsv:= .inr rfl
  gen:=λs j o ho=>by
   have ok:=YN.mp (b8 (p:=λs r=>uC LY r.2&&LY.o s r.1) DF ho);have q:=YN.mp ok.2;have hj:j<1000:=YX (YN.mp q.1).1;have ag:=Sj (c:=c) (sc:=sc) (X:=X) (σ:=σ);rw[<-hU ag ok.1,<-ag.o s j ok.2,gL _ _ _ hj];exact E (gl ho)
  kin:=Pq
  rows:=by
   show nth (σ.heap 111) 0=some (bt.dict 2 (EN c));unfold EN pf;have E':= @E
   revert E'
   cases c.tu<;>intro E'<;>exact(E' (s:=111) (j:=0) rfl).trans rfl
  rowd:=λi hi=>by
   show nth (σ.heap (pf c)) i=some (AE c);unfold pf AE;have E':= @E
   revert E'
   cases c.tu<;>intro E'<;>rcases(by decide:∀i,i<5->i=0\/i=1\/i=2\/i=3\/i=4) i hi with rfl|rfl|rfl|rfl|rfl<;>exact(E' rfl).trans rfl
  scr:=K9
  l4:=W.l (4,3) (.head _)
  l8:=W.l (8,0) (.tail _ (.head _))
  l9:=W.l (9,3) (.tail _ (.tail _ (.head _)))
  l12:=by have:(σ.heap 12).length=0:=W.l (12,0) (.tail _ (.tail _ (.tail _ (.head _))));rw[this];rfl
  box:=nofun
  cell:=J
  cq:=J
  dist:= .nil
  cnt:=rfl
  scl:=hl
  siz:=by show 0+0<=60;decide
  atb:=by show(0:Int)<=1/\(1:Int)<=400;decide
  las:=⟨by show 0<25;decide,by
   have e:pv 0 0=0:=by decide
   have:=eB.pl (c:=c) (N:=4) (k:=0) (r:=0) ak ak;rw[show aG c 0=0 from rfl,e]at this;exact this⟩
  it0:=⟨.obj 81 0,(N (s:=4) (j:=0) rfl).trans rfl⟩
  it1:=⟨.obj 81 1,(N (s:=4) (j:=1) rfl).trans rfl⟩
  it2:=⟨.obj 81 2,(N (s:=4) (j:=2) rfl).trans rfl⟩
  sp:=(N (s:=54) (j:=0) rfl).trans rfl
  sl:=λi hi=>by
   rcases(by decide:∀i,i<3->i=0\/i=1\/i=2) i hi with rfl|rfl|rfl<;>exact(N (s:=53) rfl).trans rfl
  th0:=⟨.int 1,(N (s:=9) (j:=0) rfl).trans rfl⟩
  th1:=⟨.int 2,(N (s:=9) (j:=1) rfl).trans rfl⟩
  th2:=⟨.int 3,(N (s:=9) (j:=2) rfl).trans rfl⟩
  ts:=⟨(N (s:=13) (j:=0) rfl).trans rfl,(N (s:=13) (j:=1) rfl).trans rfl,(N (s:=11) (j:=0) rfl).trans rfl⟩}
theorem FU(h:M.restore e p σ=some (.ok v,σ')):σ'.env=e:=by
 unfold M.restore at h;cases q:p σ with
 |none=>rw[q]at h;exact nt h
 |some r=>
  rw[q]at h;obtain⟨r,dy⟩:=r;cases r with
  |exc _ _ _ _=>exact er h
  |ok a=>rw[(sp h).2];rfl
theorem BB(h:(run pt m).c f vs σ=some (.ok v,σ')):σ'.env=σ.env:=by
 cases m with
 |zero=>exact nt h
 |succ m=>
  obtain⟨fn,_,h⟩:=gH h;obtain⟨env,_,h⟩:=gH h;exact FU (e:=σ.env) h
noncomputable def LV:List Sm:= [(.ite (.not (.call 213 [(.loc 185),(.loc 188),(.call 191 [(.loc 185),(.loc 188),(.loc 192)])])) [.hole, .hole] [])]
theorem TB(EV:aN 185 E=some (.obj 40 0))(rH:aN 188 E=some (.str (aT k)))(I6:aN 192 E=some (.int z))(hv:(run pt (m+1)).c 191 [.obj 40 0, .str (aT k), .int z] (σ.setE E)=some (.ok v,σ1))(hb:(run pt (m+2)).c 213 [.obj 40 0, .str (aT k),v] σ1=some (.ok (.bool true),dy)):execs (run pt (m+6)) LV (σ.setE E)=some (.ok .next,dy):=by
 have e:(run pt (m+3)).e (.call 213 [(.loc 185),(.loc 188),(.call 191 [(.loc 185),(.loc 188),(.loc 192)])]) (σ.setE E)=some (.ok (.bool true),dy):=
  bV (fJ (aQ EV) (fJ (aQ rH) (gy (bV (fJ (aQ EV) (fJ (aQ rH) (gy (aQ I6)))) hv)))) hb
 have b1:(run pt (m+4)).b (.call 213 [(.loc 185),(.loc 188),(.call 191 [(.loc 185),(.loc 188),(.loc 192)])]) (σ.setE E)=some (.ok true,dy):=(aA e).trans rfl;have b2:(run pt (m+5)).b (.not (.call 213 [(.loc 185),(.loc 188),(.call 191 [(.loc 185),(.loc 188),(.loc 192)])])) (σ.setE E)=some (.ok false,dy):=(aA b1).trans rfl;exact(bo (dA b2 rfl)).trans rfl
noncomputable def Il (h:Int) (a b d:V):List (Nat×V):= [(236, .obj 60 0),(36, .obj 37 0),(134, .obj 38 0),(185, .obj 40 0),(242, .int h),(47,a),(188,b),(16,d)]
theorem JJ(h1:(run pt m).e e σ=some (.ok (.tup vs),σ'))(h3:bW (run pt m) (M.pure ()) t b vs σ'=some (.ok .next,dm)):(run pt (m+1)).s (.for t (.over e) b) σ=some (.ok .next,dm):=by
 refine(aA h1).trans ?_;exact qr h3
theorem Qi(h:Inv g σ)(bQ:g.ts=25)(hsz:g.bx.length+g.ce.length<=59)(hk:k<25)(he:putN 192 (.int z) (putN 188 (.str (aT k)) σ.env)=E)(EV:aN 185 E=some (.obj 40 0))(rH:aN 188 E=some (.str (aT k)))(I6:aN 192 E=some (.int z))(hm:60<=m)(r:List V):∃σ' g',bW (run pt (m+6)) (M.pure ()) (.tup [188,192]) LV (.tup [.str (aT k), .int z]::r) σ=bW (run pt (m+6)) (M.pure ()) (.tup [188,192]) LV r σ'/\Inv g' σ'/\rp g g'/\σ'.env=E:=by
 obtain⟨v,σ1,hv,e1,i1,v1⟩:=xd (σ:=σ.setE E) h.setE bQ hk z (m:=m+1) (ZM ‹_›);obtain⟨dy,g',e2,i2,n2⟩:=qt i1 bQ hsz hv (m:=m+2) (Y9 ‹_› (Y4 _ _));have v2:dy.env=E:=(BB e2).trans v1;refine⟨dy,g',d9 (σ1:=σ.setE E) ?_ (TB EV rH I6 e1 e2) rfl,i2,n2,v2⟩;rw[<-he];rfl
theorem yS(hl:sc.length<=40)(K9:nth (σ.heap 60) 0=some (.list (sc.map .int)))(h0:∀s∈yN,(σ.heap s).length=0)(hm:85<=m):∃σ' g',(run pt (m+1)).c 235 [.obj 60 0] σ=some (.ok (.obj 40 0),σ')/\Inv g' σ'/\g'.ts=25/\g'.sc=sc/\g'.at_=1/\1<=g'.bx.length/\g'.bx.length+g'.ce.length<=4:=by
 obtain⟨σ1,a1,W,Pq,RY,a,b,d,v1⟩:=Jr (σ:=σ.setE [(236, .obj 60 0)]) hl K9 h0 rfl (m:=m) hm;obtain⟨h,hh⟩:∃h,h=gN sc:=⟨_,rfl⟩;rw[<-hh]at W Pq v1;have v1:σ1.env=Il h a b d:=v1;have I0:=yT hl (r5 h) W Pq RY;obtain⟨q,rfl⟩:∃q,m=q+7:=⟨m - 7,(zab (YU ak hm)).symm⟩;have hq:60<=q:=YU (by decide:60<=78) (Nat.le_of_add_le_add_right (b:=7) hm);have first:∃dy g2,bW (run pt (q+6)) (M.pure ()) (.tup [188,192]) LV [.tup [.str (aT 0), .int (h+3)], .tup [.str (aT 1), .int (h+2)], .tup [.str (aT 8), .int (2*h+7)], .tup [.str (aT 4), .int (h+5)]] σ1=bW (run pt (q+6)) (M.pure ()) (.tup [188,192]) LV [.tup [.str (aT 1), .int (h+2)], .tup [.str (aT 8), .int (2*h+7)], .tup [.str (aT 4), .int (h+5)]] dy/\Inv g2 dy/\rp (g0 (hC h) sc) g2/\1<=g2.bx.length/\dy.env=Il h a (.str (aT 0)) d++ [(192, .int (h+3))]:=by
  obtain⟨r,hr,sp⟩:=j8 (c:=hC h) (r5 h) (k:=0) ak (h+3);obtain⟨dy,e2,i2,v2⟩:=CT (σ:=σ1.setE (Il h a (.str (aT 0)) d++ [(192, .int (h+3))])) I0.setE sp (m:=q+1) (YU ak (ZM hq));have hv:eB (hC h) (g0 (hC h) sc).N 0 (.int (pv (aG (hC h) 0) r)):= .pl ak hr;obtain⟨yg,g3,e3,i3,n3,hx⟩:=o3 (x:=⟨0,0,true,false⟩) i2 (by show 0+0<=59;decide) rfl ak rfl (λe=>nomatch e) OJ (w:= .int (pv (aG (hC h) 0) r)) hv (λρ _ e=>e) (m:=q+2) (Nat.le_add_right_of_le hq);have QB:1<=g3.bx.length:=by rw[hx rfl];exact zan 1 _
  refine⟨yg,g3,d9 (σ1:=σ1.setE (Il h a (.str (aT 0)) d++ [(192, .int (h+3))])) ?_ (TB (k:=0) rfl rfl rfl e2 e3) rfl,i3,n3,QB,(BB e3).trans v2⟩;show some (R.ok (),σ1.setE (putN 192 (.int (h+3)) (putN 188 (.str (aT 0)) σ1.env)))=_;rw[v1];rfl
 obtain⟨dy,g2,e2,i2,n2,Xz,v2⟩:=first
 have z2:=n2.siz;have z2:g2.bx.length+g2.ce.length<=1:=z2;obtain⟨yg,g3,e3,i3,n3,v3⟩:=Qi (k:=1) (z:=h+2) (m:=q) i2 n2.ts (YU ‹_› ak) ak (by rw[v2];rfl) (E:=Il h a (.str (aT 1)) d++ [(192, .int (h+2))]) rfl rfl rfl hq [.tup [.str (aT 8), .int (2*h+7)], .tup [.str (aT 4), .int (h+5)]];have z3:=YU n3.siz (ZC z2);obtain⟨SA,g4,e4,i4,n4,v4⟩:=Qi (k:=8) (z:=2*h+7) (m:=q) i3 n3.ts (YU z3 ak) ak (by rw[v3];rfl) (E:=Il h a (.str (aT 8)) d++ [(192, .int (2*h+7))]) rfl rfl rfl hq [.tup [.str (aT 4), .int (h+5)]];have z4:=YU n4.siz (ZC z3);obtain⟨Ii,g5,e5,i5,n5,v5⟩:=Qi (k:=4) (z:=h+5) (m:=q) i4 n4.ts (YU z4 ak) ak (by rw[v4];rfl) (E:=Il h a (.str (aT 4)) d++ [(192, .int (h+5))]) rfl rfl rfl hq [];refine⟨Ii.setE σ.env,g5,Jh (m:=q+7) (fn:=bO) (env:= [(236, .obj 60 0)]) rfl rfl (a1 _ ?_),i5.setE,n5.ts,?_,?_,YU Xz (YU n3.mon (YU n4.mon n5.mon)),YU n5.siz (ZC z4)⟩
 ·have ht:(run pt (q+6)).e (.tup [(.tup [(.k (.str [105,52])),(.bin .add (.loc 242) (.k (.int 3)))]),(.tup [(.k (.str [101])),(.bin .add (.loc 242) (.k (.int 2)))]),(.tup [(.k (.str [63,101])),(.bin .add (.bin .mul (.k (.int 2)) (.loc 242)) (.k (.int 7)))]),(.tup [(.k (.str [115])),(.bin .add (.loc 242) (.k (.int 5)))])]) σ1=some (.ok (.tup [.tup [.str (aT 0), .int (h+3)], .tup [.str (aT 1), .int (h+2)], .tup [.str (aT 8), .int (2*h+7)], .tup [.str (aT 4), .int (h+5)]]),σ1):=by
   rw[fD v1];rfl
  refine(bo (JJ ht ((e2.trans (e3.trans (e4.trans e5))).trans rfl))).trans ?_;refine fe (j7 ?_);rw[fD v5];rfl
 ·rw[n5.sc,n4.sc,n3.sc,n2.sc];rfl
 ·rw[n5.at_,n4.at_,n3.at_,n2.at_];rfl
end
section
variable{sc:List Int}{σ σ':St}{m:Nat}
theorem Cm(ha:(run pt m).e a σ=some (.ok x,σ'))(hb:(run pt m).e b σ'=some (.ok y,dm))(h:bY o x y=some v):(run pt (m+1)).e (.bin o a b) σ=some (.ok v,dm):=by
 refine(aA ha).trans ((aA hb).trans ?_);rw[h];rfl
noncomputable def ML:List Sm:= [(.ite (.not (.call 228 [(.loc 185)])) [.hole] [])]
theorem On:∀(n a:Nat) (g:Gh) (σ:St) (E0:List (Nat×V)),Inv g σ->g.ts=25->1<=g.bx.length->g.bx.length+g.ce.length+n<=60->g.at_+3*n<=390->(σ.env=E0\/∃i,σ.env=E0++ [(248,i)])->aN 185 E0=some (.obj 40 0)->aN 248 E0=none->(∀v,putN 248 v E0=E0++ [(248,v)])->(∀u v,putN 248 v (E0++ [(248,u)])=E0++ [(248,v)])->(∀v,aN 185 (E0++ [(248,v)])=some (.obj 40 0))->60<=m->∃σ' g',bW (run pt (m+14)) (M.pure ()) (.loc 248) ML (bh (a:Int) n) σ=some (.ok .next,σ')/\Inv g' σ'/\g'.ts=25/\(σ'.env=E0\/∃i,σ'.env=E0++ [(248,i)]):=by
 intro n
 induction n with
 |zero=>intro a g σ E0 h bQ _ _ _ he _ _ _ _ _ _;exact(ci σ g rfl h bQ he)
 |succ n ih=>
  intro a g σ E0 h bQ hb hsz wz he l1 l2 p1 p2 l3 hm;refine hg λcg kg=>?_;(refine iQ (D9 (σ:=σ.setE (E0++ [(248, .int (a:Int))])) h.setE bQ hb (Yj hsz) (Yi wz) (m:=m+1) (ZM ‹_›)) λσ1 g1 q=>?_;obtain⟨e1,i1,v1,c1,s1,t1,PJ,z1,b1⟩:=q)
  refine cQ (ih (a+1) g1 σ1 E0 i1 PJ (Y9 ‹_› ‹_›) (Yh hsz z1) (Yg wz t1) (.inr ⟨_,v1⟩) l1 l2 p1 p2 l3 hm) λdy g2 e2 i2 PI v2=>?_
  refine kg ?_;refine(ci dy g2 ((d9 (σ1:=σ.setE (E0++ [(248, .int (a:Int))])) ?_ (by
   have e:=by
    exact bV (gy (aQ (l3 _))) e1
   exact(bo (dA (show(run pt (m+13)).b (.not (.call 228 [(.loc 185)])) (σ.setE (E0++ [(248, .int (a:Int))]))=some (.ok false,σ1)from(aA ((aA e).trans rfl)).trans rfl) rfl)).trans rfl) rfl).trans e2) i2 PI v2)
  (refine((show putN 248 (.int (a:Int)) σ.env=E0++ [(248, .int (a:Int))]from by
   rcases he with e|⟨i,e⟩<;>rw[e]
   ·exact p1 _
   ·exact p2 _ _)) ▸?_);rfl
noncomputable def O2 (sc:List Int):St:={heap:=λt=>match Nat.beq t 60 with|true=> [.list (sc.map .int)]|false=> [],env:= [(236, .obj 60 0)]}
theorem Np(sc:List Int)(hl:sc.length<=40):∃σ',execs (run pt 100) (wW.body.drop 1) (O2 sc)=some (.ok (.ret (.bool true)),σ'):=by
 (refine iQ (yS (σ:=O2 sc) hl rfl (by
  intro s hs;have:=by
   have:=(List.mem_filter.mp hs).2
   simpa using this
  show(match Nat.beq s 60 with|true=> [bt.list (sc.map V.int)]|false=> []).length=0;rw[this];rfl) (m:=97) ak) λσ1 g q=>?_;(refine Ss q λe1 i1 PJ s1 a1 b1 z1=>?_;try clear q))
 obtain⟨E0,hE⟩:∃E0,E0=([(236, .obj 60 0),(185, .obj 40 0)]:List (Nat×V)):=⟨_,rfl⟩;obtain⟨n,hn⟩:∃n,n=3+sc.length/3:=⟨_,rfl⟩;refine cQ (On (m:=85) n 0 g (σ1.setE E0) E0 i1.setE PJ b1 (Ye z1 hl hn) (by rw[a1];exact Yd hl hn) (.inl rfl) (by rw[hE];rfl) (by(refine(hE).symm ▸?_);rfl) (by(refine(hE).symm ▸?_);exactλ_=>rfl) (by(refine(hE).symm ▸?_);exactλ_ _=>rfl) (by(refine(hE).symm ▸?_);exactλ_=>rfl) ak) λdy g2 e2 i2 PI v2=>?_;obtain⟨yg,e3⟩:=tr i2 PI (m:=89) ak;refine⟨yg,?_⟩;refine(bo (fc (m:=99) (bV (m:=98) (gy (σ':=O2 sc) rfl) e1))).trans ?_;rw[(BB e1)];change execs (run pt 100) (.ite (.cmp (.sub (.loc 185) (.k (.str [97,116]))) [.lt] [(.k (.int 0))]) [.hole] []:: .for (.loc 248) (.range [(.bin .add (.k (.int 3)) (.bin .fdiv (.len (.loc 236)) (.k (.int 3))))]) ML:: [.ret (some (.call 246 [(.loc 185)]))]) (σ1.setE [(236, .obj 60 0),(185, .obj 40 0)])=_
 (refine(hE) ▸?_)
 refine(bo (dA (m:=99) (show(run pt 99).b (.cmp (.sub (.loc 185) (.k (.str [97,116]))) [.lt] [(.k (.int 0))]) (σ1.setE E0)=some (.ok false,σ1.setE E0)from by
  refine b_cmp (m:=98) (show(run pt 98).e (.sub (.loc 185) (.k (.str [97,116]))) (σ1.setE E0)=some (.ok (.int (g.at_+0)),σ1.setE E0)from eh (m:=97) (x:= .obj 40 0) (y:= .str [97,116]) (σ':=σ1.setE E0) (by(refine(hE).symm ▸?_);rfl) rfl (AB (σ:=σ1.setE E0) i1.setE rfl)) (LT (y:= .int 0) rfl ?_);rw[a1];rfl) rfl)).trans ?_
 refine(bo (BV (m:=99) (gy (Cm (m:=98) (x:= .int 3) (σ':=σ1.setE E0) rfl (Cm (m:=97) (y:= .int 3) (by
  have:=len_list (σ:=σ1.setE E0) (show(σ1.setE E0).get 60 0=some (.list (sc.map .int))from by(refine(s1) ▸?_);exact i1.scr) (by rw[Zu];exact YU hl ak);rw[Zu]at this;exact(aA (p:=(run pt 96).e (.loc 236)) (a:= .obj 60 0) (σ':=σ1.setE E0) (aQ (m:=95) (by(refine(hE).symm ▸?_);rfl))).trans this) rfl rfl) rfl)) (by
  have e:3+(sc.length:Int).fdiv 3=(n:Int):=by rw[hn,Int.fdiv_eq_ediv_of_nonneg _ ak];rfl
  rw[e];show(match cz (n:Int)with|true=>some (bh 0 ((n:Int)).toNat)|false=>none)=_
  rw[(show cz (n:Int)=true from by
   unfold cz;rw[YW,ZV,ZV];exact Ta (Yc hl hn))];rfl) e2)).trans ?_
 refine fe (j7 (m:=99) (bV (m:=98) (gy ?_) e3));have:∀E,aN 185 E=some (.obj 40 0)->dy.env=E->(run pt 98).e (.loc 185) dy=some (.ok (.obj 40 0),dy):=by
  intro E hE he;rw[fD he];exact aQ (m:=97) hE
 rcases v2 with e|⟨i,e⟩
 ·exact this _ (by rw[hE];rfl) e
 ·exact this _ (by(refine(hE).symm ▸?_);rfl) e
end
end Mine
end
section
namespace Mine
open PySem PySem.W PyProof.Rows PySem.Calls
theorem CL(h:IntsAre ws zs):cH W κ (zs.map .int) ws:=by
 induction h with
 |nil=>rfl
 |cons n t h ih=>exact(aY _ _ rfl ⟨t,rfl⟩ ih)
set_option tactic.hygienic true in
theorem zG(Qr:W.nm=rk){D:Addr}(F:Fr W.base C.L s.heap m)(N:News W.base C.L s.heap [(D,PySem.W.listOf ws.toArray 0)])(hI:IntsAre ws zs)(hm:m (rk 236)=some (.ref D))(NQ:C.outs= [])(hg:s.gens=W.gens)(ho:s.os=W.os):bz W C ⟨λs i b=>if s=60/\i=0/\b=false then some D else none,lW W.K⟩ (O2 zs) s:=by
 refine⟨m, [(D,PySem.W.listOf ws.toArray 0)], [],F,N,by simp,?_,?_,?_,hg,ho⟩
 ·rw[NQ];rfl
 ·refine⟨id,?_,?_,?_,?_⟩
  ·intro s i b s' i' b' x h1 h2;dsimp only at h1 h2;split at h1
   ·rename_i q;split at h2
    ·rename_i q'
     (refine dU q λq1 q2 q3=>?_;clear q;subst q1;subst q2;subst q3)
     (refine dU q' λq1 q2 q3=>?_;clear q';subst q1;subst q2;subst q3)
     exact⟨rfl,rfl,rfl⟩
    ·exact nt h2
   ·exact nt h1
  ·intro s i b x h;dsimp only at h;split at h
   ·rename_i q
    (refine dU q λq1 q2 q3=>?_;clear q;subst q1;subst q2;subst q3)
    obtain rfl:=YZ h;exact⟨Nat.zero_lt_one,by simp⟩
   ·exact nt h
  ·intro s i o h;have hs:s=60:=by
    by_cases e:s=60
    ·exact e
    ·have h:nth (match Nat.beq s 60 with|true=> [bt.list (zs.map V.int)]|false=> []) i=some o:=h;rw[az e]at h;cases i<;>exact nt h
   subst hs;cases i with
   |zero=>
    have h:=h;injection h with h;subst h;refine(iO D ws (0) ?_ (.head _) (CL hI));show(if 60=60/\0=0/\false=false then some D else none)=some D;exact ZU ⟨rfl,rfl,rfl⟩
   |succ i=>cases i<;>exact nt h
  ·intro a vs h;have h:lW W.K a=some vs:=h;unfold lW at h;refine dI (W.K.lookup a) (λe=>?_) λo e=>?_
   ·rw[e]at h;exact nt h
   ·rw[e]at h;exact(al o (Jt h) (.inr (W.X a o e)))
 ·intro x v h;have h:(match Nat.beq 236 x with|true=>some (V.obj 60 0)|false=>none)=some v:=h;refine uy (Nat.beq 236 x) (λe=>?_) λe=>?_
  ·rw[e]at h;exact nt h
  ·
   rw[e]at h;obtain rfl:=YZ h;have:=aB.mp e;subst this;refine(al (.ref D) (by rw[Qr];exact hm) ?_);exact al D rfl (show(if 60=60/\0=0/\false=false then some D else none)=some D from ZU ⟨rfl,rfl,rfl⟩)
theorem Df:xc [] []:=λ_ h=>absurd h Y2
set_option tactic.hygienic true in
theorem joined:PySem.Challenge.rw_up0015_01.Holds:=by
 refine Hd.head ?_
 w_strict (
  intro w s0 s1 mg mb G Y fa o pm cd doc dV kV ho hd Pk hD TL hg args Yn as j2 RV WT WM LH;have KX:=kIn_of Y
  try w_nolog (skip)
  refine Ground.open G ?_;intro T B D TE TW
  try (refine guard_noD D (by decide+kernel) ?_;clear D)
  refine iQ (bmod_of_top T) λ_ _ M=>?_;have TA:=at_of_top T
  try (refine AY (based_of_top T rfl TL ho hd) λ_ _ he B0=>?_;subst he;clear he)
  clear TL
  wrow_args j2 RV WT WM LH
  all_goals (
   first|refine callC_kw (enter_call ?_)|refine enter_call ?_|refine callC_kw (enter_callW ?_)|refine enter_callW ?_|w_how
   w_top on
   try refine codeAny_mono ?_ (λ_ _ g=>GoodW.toG g)
   w_call any ho hd Pk hD T F
   clear hd TA
   k_drop
   skip))
 have hb:∃n p1 n2 p2 c k p3 p4 p5 p6 r,Hd.dL.body= .Assign [.Name n p1] (.Subscript (.Name n2 p2) (.Slice none (some (.Constant c k p3)) none p4) p5) p6::r/\n=Str.ofString "script"/\n2=Str.ofString "script"/\c= .int 40:=⟨_,_,_,_,_,_,_,_,_,_,_,rfl,rfl,rfl,rfl⟩;obtain⟨n,p1,n2,p2,c,k,p3,p4,p5,p6,r,hb,rfl,rfl,rfl⟩:=hb;rw[hb]
 walk1
 iterate 20 (first|walk1|skip)
 rename_i D ws h0 hI hC hL l1 h1 F1 N1;have T:= ‹Top Hd.qv (looseW Hd.qv Hd.ls) (ExcName.means s0.heap) mg mb s1.heap›;have hr:r=Hd.dL.body.drop 1:=by rw[hb];rfl
 obtain⟨W,hW⟩:∃W:SW,W=Wr Hd.rW.prog w (Hd.Kf w.params) s1.heap mg mb Hd.qv (looseW Hd.qv Hd.ls) s1.gens s1.os KX (topRead_of T):=⟨_,rfl⟩;obtain⟨σ',RO⟩:=Np _ (show(List.take 40 _).length<=40 from List.length_take_le 40 _)
 have TH:=λ(a:Addr) (cd:Value) κ σ=>dk (eZ (λx g h=>((Na (by
  rw[hW];refine M2 rfl rfl (Kh _) (Kd _) (Gi _) ?_ (NK _) (Ke _) (Ki _) (NL _) (Kc _) (λ_ _ h=>ec h) (Gg _)
  kernel_rfl) (show BF W La tb from by
  rw[hW];exact DK (Kg _)) 100).2.2.1) (Cx.mk (callerA.deeper (envOf Hd.dL.name Hd.dL.scope s1.heap.objs.size a cd)) [] [] Hd.dL.name Hd.dL.scope s1.heap.objs.size a cd) false 60 x g ((λa cd=>⟨rfl,by kernel_rfl,YX (by kernel_rfl),YX (by kernel_rfl),Df⟩) a cd) (λ_=>rfl) (by rw[(show W.nm=rk from by rw[hW];rfl)];exact h)) (show jX n9 (z9 rk tb Hd.dL.scope 60 false) (wW.body.drop 1) (Hd.dL.body.drop 1)=true from by kernel_rfl)) κ σ
 rw[(show W.nm=rk from by rw[hW];rfl),<-(show Hd.dL.body.drop 1=gC n9 (z6 rk 60) (wW.body.drop 1) (Hd.dL.body.drop 1)from by kernel_rfl),<-hr]at TH;subst hW;change wpAny (model Hd.rW.prog w) (callerA.deeper (envOf Hd.dL.name Hd.dL.scope s1.heap.objs.size fa _)) (PySem.execs r (envOf Hd.dL.name Hd.dL.scope s1.heap.objs.size fa _)) _ _ _;refine TH fa _ _ _ _ σ' RO _ _ _ (zG (D:=D) (ws:=ws) rfl F1 N1 hI ?_ rfl ?_ ?_) ?_
 ·kernel_rfl
 ·rfl
 ·rfl
 ·intro cK s' le a hv R';obtain⟨u,rfl,hu⟩:=hv;have hu:u= .bool true:=hu;subst hu;obtain⟨m',aw,frs,r'⟩:=R';refine⟨.inl ⟨.bool true, .bool true, [],rfl,raisesW_false ?_,ReadsW.bool _,?_,?_⟩,λb o h=>r'.F.keep b o h,r'.os,r'.gens.trans hg⟩
  ·wrow_none_raised
  ·first|kernel_rfl|wrow_post
  ·exactλ_=>⟨.nil,nofun⟩
end Mine
end
end
theorem PySem.Challenge.cw_up0015_01_holds : PySem.Challenge.rw_up0015_01.Holds := by
  exact Mine.joined
