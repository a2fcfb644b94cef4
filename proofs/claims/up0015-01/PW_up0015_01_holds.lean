import PyProof.Rows.All
import Wide.All
import OpenK.AllK
import Wide.FinOn
import PySem.Syntax
import PyProof.EqLayable
import PySem.Builtin.Int.W1All
import PySem.Challenge.RW_up0015_01
set_option Elab.async false
set_option genSizeOf false
set_option genInjectivity false
set_option genCtorIdx false
set_option compiler.extract_closed false
set_option tactic.hygienic false
set_option linter.all false
set_option maxRecDepth 1000000
set_option maxHeartbeats 0
noncomputable section
section
namespace Mine
open PySem PySem.W PyProof.Rows PySem.Calls
abbrev X5:=@Bool.and_eq_true_iff
abbrev X6:=@List.mem_append_left
abbrev X7:=@List.all_eq_true
abbrev X8:=@List.mem_singleton
abbrev X9:=@List.mem_cons
abbrev Yb:=@wpAny_bind
abbrev Yc:=@Nat.le_trans
abbrev Yd:=@congrArg
abbrev Ye:=@Bool.and_eq_true
abbrev Yg:=@Nat.le_of_ble_eq_true
abbrev Yh:=@Nat.eq_of_beq_eq_true
abbrev Yi:=@Option.some.inj
abbrev Yj:=@PySem.W.Fast.te2368527892694137696
abbrev Yk:=@List.mem_append_right
abbrev Yl:=@List.not_mem_nil
abbrev Ym:=@Nat.le_add_right
abbrev Yn:=@List.map_cons
abbrev Yo:=@List.map_append
abbrev Yp:=@wpAny_pure
abbrev Yq:=@List.mem_append
abbrev Yr:=@Nat.lt_of_lt_of_le
abbrev Ys:=@PySem.W.Fast.te14364793385576792824
abbrev Yt:=@List.append_nil
abbrev Yu:=@List.nodup_cons
abbrev Yv:=@Nat.le_refl
abbrev Yw:=@PySem.W.Fast.te10110043849684766642
abbrev Yx:=@Nat.add_le_add_left
abbrev Yy:=@List.mem_cons_of_mem
abbrev Yz:=@List.length_append
abbrev YA:=@Nat.zero_le
abbrev YB:=@List.nodup_append
abbrev YD:=@List.mem_map
abbrev YE:=@PySem.W.Fast.te3471404346716756564
abbrev YF:=@List.isEmpty_iff
abbrev YG:=@or_false
abbrev YH:=@List.mem_map_of_mem
abbrev YI:=@decide_eq_true
abbrev YJ:=@Nat.lt_of_le_of_lt
abbrev YK:=@Int.fmod_nonneg_of_pos
abbrev YL:=@Int.le_trans
abbrev YM:=@if_neg
abbrev YN:=@of_decide_eq_true
abbrev YO:=@List.length_map
abbrev YQ:=@Prod.mk.injEq
abbrev YR:=@Int.toNat_of_nonneg
abbrev YS:=@decide_eq_false
abbrev YT:=@Nat.le_succ
abbrev YU:=@Nat.add_comm
abbrev YV:=@Int.zero_add
abbrev YW:=@Bool.or_eq_true_iff
abbrev YX:=@Nat.succ_le_succ
abbrev YY:=@List.cons_append
abbrev YZ:=@wpAny_holding
abbrev Y0:=@Nat.add_assoc
abbrev Y1:=@List.nil_append
abbrev Y2:=@Nat.ble_eq_true_of_le
abbrev Y3:=@Int.ofNat_le
abbrev Y4:=@Int.fmod_lt_of_pos
abbrev Y5:=@PySem.intKind_is
abbrev Y6:=@Heap.get?_push_of_some
abbrev Y7:=@Nat.le_succ_of_le
abbrev Y8:=@Int.le_refl
abbrev Y9:=@Nat.ne_of_gt
abbrev Za:=@Nat.add_right_comm
abbrev Zb:=@Int.natCast_nonneg
abbrev Zc:=@Nat.add_sub_cancel_left
abbrev Zd:=@Bool.or_eq_true
abbrev Ze:=@if_pos
abbrev Zf:=@decide_eq_true_iff
abbrev Zg:=@wpAny_standAt
abbrev Zh:=@Nat.lt_irrefl
abbrev Zi:=@List.getElem?_eq_getElem
abbrev Zj:=@Heap.lt_size
abbrev Zk:=@Int.add_le_add_right
abbrev Zl:=@cond_true
abbrev Zm:=@Nat.ne_of_lt
abbrev Zn:=@Nat.ne_of_beq_eq_false
abbrev Zo:=@Heap.get?_update_other
abbrev Zp:=@PySem.W.Fast.te18344453789297297638
abbrev Zq:=@PySem.W.Fast.te17119622794617984870
abbrev Zr:=@PySem.W.Fast.te10792542408131684335
abbrev Zs:=@List.all_cons
abbrev Zt:=@PySem.strKind_is
abbrev Zu:=@Nat.sub_add_cancel
abbrev Zv:=@Nat.le_of_lt
abbrev Zw:=@List.append_assoc
abbrev Zx:=@Bool.or_eq_false_iff
abbrev Zy:=@Int.add_assoc
abbrev Zz:=@beq_eq_false_iff_ne
abbrev ZA:=@Nat.mul_le_mul_left
abbrev ZB:=@congrFun
abbrev ZC:=@Ne.symm
abbrev ZD:=@Nat.le_of_eq
abbrev ZE:=@Int.add_zero
abbrev ZF:=@Nat.le_add_left
abbrev ZG:=@wpAny_loadPart_at
abbrev ZH:=@Nat.lt_succ_of_le
abbrev ZI:=@Nat.add_sub_of_le
abbrev ZJ:=@Int.le_of_lt_add_one
abbrev ZK:=@Nat.lt_add_right
abbrev ZL:=@Option.isNone_iff_eq_none
abbrev ZM:=@Nat.lt_of_add_lt_add_left
abbrev ZN:=@Nat.add_lt_add_left
abbrev ZO:=@Heap.get?_push_size
abbrev ZP:=@List.range_succ
abbrev ZQ:=@Heap.dictOf_iff
abbrev ZR:=@PySem.W.Fast.te6984425678791042302
abbrev ZS:=@PySem.W.Fast.te5923862056798008813
abbrev ZT:=@PySem.W.Fast.te5318747976498570220
abbrev ZU:=@Nat.not_le
abbrev ZV:=@List.contains_cons
abbrev ZW:=@Int.lt_of_le_of_lt
abbrev ZX:=@Bool.false_ne_true
abbrev ZY:=@wpAny_newObj_type
abbrev ZZ:=@wpAny_Call_ofName
abbrev Z0:=@List.take_of_length_le
abbrev Z1:=@Int.add_comm
abbrev Z2:=@Heap.get?_update_self
abbrev Z3:=@segRun_of
abbrev Z4:=@piece_app
abbrev Z5:=@Nat.lt_succ_self
abbrev Z6:=@Nat.le_of_not_le
abbrev Z7:=@Int.not_le
abbrev Z8:=@Bool.not_eq_true
abbrev Z9:=@List.cons.inj
abbrev zaa:=@wpAny_field
abbrev zab:=@Prod.mk.inj
abbrev zac:=@Nat.add_le_add_right
abbrev zad:=@Nat.not_lt_zero
abbrev zae:=@List.find?_cons
abbrev zaf:=@wpAny_isSubtype_exc
abbrev zag:=@Nat.succ.inj
abbrev zah:=@slot_tuple_getitem
abbrev zai:=@cond_false
abbrev zaj:=@beq_iff_eq
abbrev zak:=@Nat.add_le_add
abbrev zal:=@List.mem_range
abbrev zam:=@Int.add_nonneg
abbrev zan:=@Array.getElem?_eq_some_iff
abbrev zao:=@wpAny_truthy_bool
abbrev zap:=@decide_eq_true_eq
abbrev zaq:=@F.slot_tuple_hash
abbrev zar:=@PySem.F.slot_str_getitem
abbrev zas:=@List.any_cons
abbrev zat:=@Bool.false_or
abbrev zau:=@tail_any
abbrev zav:=@List.lookup_cons
abbrev zaw:=@List.length_cons
abbrev zax:=@List.any_eq_true
abbrev zay:=@wpAny_call
abbrev zaz:=@Nat.zero_add
abbrev zaA:=@Nat.succ_pos
abbrev zaB:=@Nat.not_lt
abbrev zaC:=@Nat.lt_of_succ_lt_succ
abbrev zaD:=@Nat.le_of_succ_le_succ
abbrev zaE:=@Nat.blt_eq
abbrev zaF:=@Int.ofNat_lt
abbrev zaG:=@wpAny_specialOf
abbrev zaH:=@wpAny_execs_nil
abbrev zaI:=@Nat.min_eq_left
abbrev zaJ:=@List.length_nil
abbrev zaK:=@Nat.eq_sub_of_add_eq
abbrev zaL:=@List.filterMap_cons
abbrev zaM:=@PySem.W.Fast.te17095254045102204799
abbrev zaN:=@PySem.W.Fast.te12879404354523853263
abbrev zaO:=@Bool.or_false
abbrev zaP:=@wpAny_Constant_str
abbrev zaQ:=@PySem.W.Fast.te9572597257264208301
abbrev zaR:=@PySem.W.Fast.te8326940854005059898
abbrev zaS:=@List.mem_filterMap
abbrev zaT:=@Int.not_lt
abbrev zaU:=@Int.lt_or_eq_of_le
abbrev zaV:=@Heap.IsSliceOf.new
abbrev zaW:=@Array.forIn_toList
abbrev zaX:=@PySem.W.Fast.te797321630700447069
end Mine
end
section
namespace Mine
section Head
open PySem PySem.W PyProof.Rows PySem.Calls
namespace Hd
noncomputable abbrev pw:Program:=PySem.Challenge.pw_up0015_01
def sA:String:="framerune.sourcecore"
def sB:String:="__static_attributes__"
def sC:String:="__firstlineno__"
def sD:String:="__module__"
def sE:String:="__qualname__"
def sF:String:="framerune.kinds"
def sG:String:="law_up0015_01"
def sH:String:="__init__"
def sI:String:="__doc__"
def sJ:String:="__dict__"
def sK:String:="__weakref__"
def eB:String:="framerune.mbase"
def kR:String:="framerune.mmem"
def uk:String:="framerune.faults"
def dA:String:="self"
def z8:String:="framerune.values"
def D3:String:="framerune.heap"
def Eg:String:="framerune.store"
def lr:String:="value"
def rn:String:="number"
def D2:String:="closed_ref"
def nl:String:="name"
def D1:String:="throw_new"
def KC:String:="framerune.places"
def H5:String:="/claim/cut.py"
def kQ:String:="run"
noncomputable def z (x:String):Str:=Str.ofString x
noncomputable def s (x:String) (t:Nat):Value:= .str (Str.ofString x) t
noncomputable def a {α:Type} (l:List α):Array α:=l.toArray
def e(P:Params)(x:String)(t:Nat)(v:Value):DictEntry:=⟨PyData.keyHash P (Str.ofString x), .str (Str.ofString x) t,v⟩
def eS(P:Params)(x:String)(t:Nat)(y:String)(u:Nat):DictEntry:=e P x t (s y u)
def eI(P:Params)(x:String)(t:Nat)(y:Int)(u:Nat):DictEntry:=e P x t (.int y u)
def eR(P:Params)(x:String)(t y:Nat):DictEntry:=e P x t (.ref y)
def di(n:Nat)(l:List DictEntry):Obj:=⟨.type "dict",none, .dict (a l) n,#[]⟩
noncomputable def tu (l:List Value):Obj:=⟨.type "tuple",none, .seq l.toArray 0,#[]⟩
def cl(i:Nat):Stmt:=(behindTheImports pw).getD i default
noncomputable def fV (s:Stmt):Arguments×List Stmt×Scope×Pos:=s.casesOn (λ_ x b _ _ _ s _ _ p=>(x,b,s,p)) (λ_ _ _ _ _ _ _ _ _ _=>default) (λ_ _ _ b _ _ _ _ _ _ _=>(default,b,default,default)) (λ_ _=>default) (λ_ _=>default) (λ_ _ _=>default) (λ_ _ _ _ _ _ _=>default) (λ_ _ _ _=>default) (λ_ _ _ _ _=>default) (λ_ _ _ _ _=>default) (λ_ _ _ _ _=>default) (λ_ _ _ _=>default) (λ_ _ _ _=>default) (λ_ _ _=>default) (λ_ _ _=>default) (λ_ _ _=>default) (λ_ _ _=>default) (λ_ _ _ _ _=>default) (λ_ _ _ _ _=>default) (λ_ _ _=>default) (λ_ _=>default) (λ_ _ _ _=>default) (λ_ _=>default) (λ_ _=>default) (λ_ _=>default) (λ_=>default) (λ_=>default) (λ_=>default)
def mc(i j:Nat):Stmt:=(fV (cl i)).2.1.getD j default
def fA(s:Stmt):Arguments:=(fV s).1
def fB(s:Stmt):List Stmt:=(fV s).2.1
def fS(s:Stmt):Scope:=(fV s).2.2.1
def fo(st:Stmt)(n q:String)(g:Addr)(dV kV doc pm:Value)(an:Option Addr)(cd ct:Value)(b:Addr):FuncData:={name:=Str.ofString n,qualname:=Str.ofString q,params:=fA st,body:= .stmts (fB st),scope:=fS st,globals:=g,closure:= [],defaults:=dV,kwdefaults:=kV,doc:=doc,pyModule:=pm,annotations:=an,code:=cd,closureTuple:=ct,builtins:=b}
abbrev N(o:Obj)(l r:BT):BT:= .node o l r
abbrev L(o:Obj):BT:= .node o .nil .nil
abbrev E:BT:= .nil
def an:Option Value:=some (.ref 6)
def en:Env:={scope:=pw.main.scope,locals:=mainNs,globals:=mainNs,cells:= [],code:= .ref 13,frame:=some 14}
def cE:Code:= .body (behindTheImports pw) en
noncomputable def bB:List Frame:= [topFrame ⟨0,0,0,0⟩]
def ha(x1:String)(x2:Nat)(x7:Int)(GB:Nat)(xV:Int):Obj:=⟨.type "code",none,(.fields (a [s x1 x2,s x1 (x2+1),s H5 (x2+2), .int x7 0, .int 0 0, .int 0 0, .int 0 0, .int 0 0, .ref GB, .bool false, .int 181 0, .ref (GB+1), .none, .none, .none, .none, .int xV 0, .int x7 0,s H5 (x2+4)])),#[]⟩
def hb(x1:Nat)(x3:Nat)(x4:String)(x5:Nat):Obj:=⟨.type "frame",none, .plain,a [some (.ref x1),some (.ref 3),some (.ref x3),none,some (s x4 x5),none,some (.ref 0)]⟩
def hc(x0:Nat)(x1:String):Obj:=⟨.none,none,(.func (fo (cl x0) x1 x1 0 .none .none .none .none none .none .none 0)),#[]⟩
def hd(x1:String)(x2:Nat)(x3:String)(x7:Int)(x9:Int)(GB:Nat)(Oz:Int)(Ui:Nat):Obj:=⟨.type "code",none,(.fields (a [s x1 x2,s x3 (x2+1),s H5 (x2+2), .int x7 0, .int x9 0, .int 0 0, .int 0 0, .int 3 0, .ref GB, .bool true, .int 181 0, .ref (GB+1), .none, .ref (GB+2), .ref (GB+3), .ref (GB+4), .int Oz 0, .int x7 0,s H5 Ui])),#[]⟩
def he(x1:Nat)(x2:String)(x5:String)(x6:Nat)(x7:Nat):Obj:=⟨.type "function",none,(.func (fo (cl x1) x2 x2 3 .none .none .none (s x5 x6) none (.ref x7) .none 0)),#[]⟩
def hf:Obj:=⟨.type "builtin_function_or_method",none,(.fields (a [.builtin "type.__prepare__", .type "type"])),#[]⟩
def hg(x0:Int)(x4:Nat):Obj:=⟨.none,none,(.fields (a [.int x0 0, .int 4 0, .ref x4])),#[]⟩
def hh(x0:Nat)(x1:Nat)(x2:String)(x3:String):Obj:=⟨.none,none,(.func (fo (mc x0 x1) x2 x3 0 .none .none .none .none none .none .none 0)),#[]⟩
def hi(x1:Nat)(x2:Nat)(x3:String)(x4:String)(x6:String)(x7:Nat)(x8:Nat):Obj:=⟨.type "function",none,(.func (fo (mc x1 x2) x3 x4 3 .none .none .none (s x6 x7) none (.ref x8) .none 0)),#[]⟩
def hj(x2:Nat)(x3:Nat):Obj:=⟨.type "getset_descriptor",none,(.fields (a [s sK x2, .ref x3, .builtin "ExceptionGroup.__weakref__", .none])),#[]⟩
def hk(x1:Nat):Obj:=⟨.type "super",none,(.fields (a [.ref x1, .ref x1, .ref x1])),#[]⟩
def hl(x2:Nat):Obj:=⟨.type "builtin_function_or_method",none,(.fields (a [.builtin "object.__init_subclass__", .ref x2])),#[]⟩
def hm(x1:String)(x3:Nat)(x8:Nat)(OA:Nat)(Si:Nat):Obj:=⟨.type "type",none,(.cls ⟨z x1, [.ref 38], [.ref x3, .ref 38, .type "Exception", .type "BaseException", .type "object"],x8,z x1,true, [], [],false,none,false⟩),a [some (.ref OA),none,some (s x1 Si),some (s x1 (Si+8)),some (.builtin "Exception.__new__"),some (.bool true)]⟩
def hn(x1:String)(x3:Nat)(x5:Nat)(x8:Nat):Obj:=⟨.type "type",none,(.cls ⟨z x1, [.type "object"], [.ref x3, .type "object"],x5,z x1,true, [], [],false,none,false⟩),a [none,none,some (s x1 x8),some (s x1 (x8+8)),some (.builtin "object.__new__"),some (.bool true)]⟩
def ho(x2:Nat)(x3:Nat):Obj:=⟨.type "getset_descriptor",none,(.fields (a [s sJ x2, .ref x3, .builtin "function.__dict__", .builtin "function.__dict__#set"])),#[]⟩
def hp(x1:String)(x3:Nat)(x6:Nat)(x8:Nat)(OA:Nat):Obj:=⟨.type "type",none,(.cls ⟨z x1, [.ref 925], [.ref x3, .ref 925, .type "object"],x6,z x1,true, [], [],false,none,false⟩),a [some (.ref x8),none,some (s x1 OA),some (s x1 (OA+8)),some (.builtin "object.__new__"),some (.bool true)]⟩
noncomputable def sv:List String->Nat->List Value| [],_=> []|x::l,t=>s x t::sv l (t+1)
def ts(t:Nat)(l:List String):Obj:=tu (sv l t)
def n7(x:String)(t:Nat):Obj:=tu [s x t]
def aj:Obj:=tu []
noncomputable def Kv:List Value:= []
def aK:Obj:=⟨.none,none,(.fields (a [])),#[]⟩
def PJ:Obj:=ha "<module>" 182 1 11 185
def PI:Obj:=hb 13 3 "__main__" 164
def Ha(P:Params):Heap:=⟨⟨[boot_o_0 P,boot_o_1 P,boot_o_2 P,boot_o_3 P,boot_o_4 P,boot_o_5 P,boot_o_6 P,boot_o_7 P,boot_o_8 P,boot_o_9 P,boot_o_10 P,aj,aK,PJ,PI]⟩,{}⟩
def Sa(w:World)(os:OsState):Shared:=⟨Ha w.params,⟨[]⟩,{},187,os⟩
def t0(P:Params):BT:=(N (boot_o_0 P) (N (boot_o_1 P) (N (boot_o_3 P) (L (boot_o_7 P)) (L aj)) (N (boot_o_5 P) (L (boot_o_9 P)) (L PJ))) (N (boot_o_2 P) (N (boot_o_4 P) (L (boot_o_8 P)) (L aK)) (N (boot_o_6 P) (L (boot_o_10 P)) (L PI))))
def S0(w:World)(os:OsState):SharedT:=⟨t0 w.params,15,{},⟨[]⟩,{},187,os⟩
def OR(P:Params):Obj:=⟨.none,none,(.dict (a [eI P "type.__subclasses__.Exception.0" 233 38 0,eI P "type.__subclasses__.Exception.n" 234 1 0]) 2),#[]⟩
def HW(P:Params):List DictEntry:= [e P sI 166 .none,e P "__package__" 167 .none,e P "__loader__" 168 (.builtin "__main__.__loader__#opaque"),e P "__spec__" 169 .none,eR P "__annotations__" 170 6,eR P "__builtins__" 171 4,eS P "__file__" 173 H5 172,e P "__cached__" 174 .none,eR P "_wall" 193 21,eI P "LF_NOTYPE" 197 1 196,eI P "LF_ENUM" 199 12 198,eI P "W_SLOT" 201 1 200,eI P "W_EMPTY" 203 2 202,eI P "W_KIND" 205 5 204,eR P "RuneError" 236 38,eR P "BadKind" 252 51,eR P "LoadFault" 268 63,eR P "RunBound" 284 75,eR P "LeftOut" 300 87,eI P "VOID" 304 0 303,eI P "BOOL" 306 1 305,eI P "CHAR" 308 2 307,eI P "I1" 310 3 309,eI P "U1" 312 4 311,eI P "I2" 314 5 313,eI P "U2" 316 6 315,eI P "I4" 318 7 317,eI P "U4" 320 8 319,eI P "I8" 322 9 321,eI P "U8" 324 10 323,eI P "NINT" 326 11 325,eI P "OBJECT" 328 12 327,eI P "STRING" 330 13 329,eI P "NULLK" 332 14 331,eI P "PRIM_END" 334 16 333,eI P "R_PRIM" 336 1 335,eI P "R_CLASS" 338 2 337,eI P "R_VALUE" 340 3 339,eI P "R_ARRAY" 342 4 341,eI P "R_BYREF" 344 5 343,eI P "R_VAR" 346 6 345,eI P "R_MVAR" 348 7 347,eI P "R_BOXED" 350 8 349,eI P "R_ROREF" 352 9 351,eI P "R_FTN" 354 10 353,eI P "R_RAW" 356 11 355,eI P "DEEPEST_KIND" 358 24 357,eI P "HEAVIEST_KIND" 360 4096 359]
def Cr:List Value:=Kv++([.int 0 0, .ref 20, .int 10 0, .int 0 0, .ref 27, .int 15 0, .int 0 0, .ref 47, .int 17 0, .int 0 0, .ref 59, .int 19 0, .int 0 0, .ref 71, .int 21 0, .int 0 0, .ref 83]:List Value)
def PH:Obj:=⟨.none,none,(.fields (a (.int 1 0::Cr))),#[]⟩
def PG:Obj:=tu [.type "Exception"]
def jd:Obj:=hf
def OS:Obj:=tu [.ref 38]
def HV(P:Params):List DictEntry:=HW P++([eR P "PRIM_TID" 389 90]:List DictEntry)
def HU(P:Params):List DictEntry:=HV P++([eR P "TID_PRIM" 418 91]:List DictEntry)
def HT(P:Params):List DictEntry:=HU P++([eI P "ARRAY_TID" 420 5 419,eR P "KindTable" 477 122,eR P "inner_kinds" 485 133,eR P "row_level" 492 140,eR P "row_length" 499 147,eR P "check_kind_row" 509 154,eR P "check_named" 517 161,eR P "check_args" 526 168,eR P "may_stand" 535 175,eR P "kind_sort" 543 182,eR P "elem_of" 552 189,eR P "tid_of" 561 196,eR P "args_of" 570 203,eR P "is_value" 578 210,eR P "is_var" 587 217,eR P "is_int" 594 224,eI P "S_STRUCT" 598 2 597,eI P "S_ENUM" 600 5 599,eI P "VA_NONE" 602 0 601,eI P "T_NULLABLE" 604 8 603,eI P "T_NULLREF" 606 21 605,eI P "T_CAST" 608 23 607,eR P "TypeDef" 662 241,eR P "Store" 696 262,eR P "type_of" 705 273,eI P "V_I4" 709 1 708,eI P "V_I8" 711 2 710,eI P "V_NINT" 713 3 712,eI P "V_REF" 715 4 714,eI P "V_STRUCT" 717 5 716,eI P "V_PLACE" 719 6 718,eI P "V_FTN" 721 7 720,eI P "V_TEXT" 723 8 722,eR P "NULLV" 726 274,e P "NO_TAG" 729 (.int (-1) 728),eI P "PL_HEAP" 731 3 730,eR P "wrap_bits" 739 281,eR P "wrap32" 746 288,eR P "wrap64" 753 295,eR P "plain_kind" 762 302,eR P "plain_default" 769 309,eR P "cut_to" 777 316,eR P "store_as" 787 323,eR P "tag_of" 795 330,eR P "tag_of_row" 802 337,eR P "fits" 812 344,eR P "put_path" 826 351,eI P "S_BLOCK" 828 3 827,eI P "MOST_NESTED" 832 870 831,eS P "SAY_NULL" 834 "Object reference not set to an instance of an object." 833]:List DictEntry)
def Cq:List Value:=Cr++([.int 56 0, .int 0 0, .ref 97, .int 105 0, .int 0 0, .ref 132, .int 114 0, .int 0 0, .ref 139, .int 118 0, .int 0 0, .ref 146, .int 124 0, .int 0 0, .ref 153, .int 146 0, .int 0 0, .ref 160, .int 150 0, .int 0 0, .ref 167, .int 154 0, .int 0 0, .ref 174, .int 159 0, .int 0 0, .ref 181, .int 161 0, .int 0 0, .ref 188, .int 166 0, .int 0 0, .ref 195, .int 175 0, .int 0 0, .ref 202, .int 180 0, .int 0 0, .ref 209, .int 184 0, .int 0 0, .ref 216, .int 187 0, .int 0 0, .ref 223, .int 196 0, .int 0 0, .ref 230, .int 222 0, .int 0 0, .ref 251, .int 232 0, .int 0 0, .ref 272, .int 249 0, .int 0 0, .ref 280, .int 254 0, .int 0 0, .ref 287, .int 256 0, .int 0 0, .ref 294, .int 258 0, .int 0 0, .ref 301, .int 269 0, .int 0 0, .ref 308, .int 277 0, .int 0 0, .ref 315, .int 289 0, .int 0 0, .ref 322, .int 295 0, .int 0 0, .ref 329, .int 305 0, .int 0 0, .ref 336, .int 315 0, .int 0 0, .ref 343, .int 326 0, .int 0 0, .ref 350]:List Value)
def Lb(P:Params):Obj:=⟨.none,none,(.dict (a [eI P "type.__subclasses__.Exception.0" 233 38 0,eI P "type.__subclasses__.Exception.n" 234 3 0,eI P "type.__subclasses__.Exception.1" 864 368 0,eI P "type.__subclasses__.Exception.2" 893 388 0]) 4),#[]⟩
def HS(P:Params):List DictEntry:=HT P++([eR P "Thrown" 867 368,eR P "Unheld" 896 388,eR P "Item" 933 408,eR P "Special" 972 436,eR P "Guard" 1005 457,eR P "Splits" 1034 478,eR P "Begins" 1064 499,eR P "Calls" 1103 527]:List DictEntry)
def Cp:List Value:=Cq++([.int 342 0, .int 0 0, .ref 357, .int 348 0, .int 0 0, .ref 377, .int 352 0, .int 0 0, .ref 397, .int 362 0, .int 0 0, .ref 418, .int 369 0, .int 0 0, .ref 446, .int 375 0, .int 0 0, .ref 467, .int 379 0, .int 0 0, .ref 488, .int 383 0, .int 0 0, .ref 509]:List Value)
def HR(P:Params):List DictEntry:=HS P++([eR P "Plot" 1225 604,eR P "count_step" 1232 615,eR P "go_deeper" 1241 622,eR P "next_number" 1248 629,eR P "eval_expr" 1260 636,eR P "kind_in" 1269 643,eR P "layout_in" 1277 650,eR P "is_question" 1285 657,eR P "new_item" 1295 664,eR P "block_number" 1302 671,eR P "block_lids" 1313 678,eR P "begin_block" 1322 685,eR P "lay_cells" 1332 692,eR P D1 1341 699,eR P "throw_nothing" 1348 706,eR P "throw_item" 1359 713,eR P "row_taking" 1373 720,eR P "when_says" 1387 727,eR P "push_guard" 1397 734,eR P "drop_guards" 1405 741,eR P "item_is" 1416 748,eR P "is_struct" 1426 755,eR P "is_composed" 1434 762,eR P "default_of" 1446 769,eR P "default_parts" 1452 774,eS P "SAY_CAST" 1456 "Specified cast is not valid." 1455,eR P "put_value_at" 1472 781,eR P "box_value" 1481 788,eR P "unbox_value" 1492 795,eR P "from_reference" 1501 802,eI P "FIRST_ADDRESS" 1505 16 1504,eI P "HEAD_WORDS" 1507 2 1506,eI P "LEAST_SIZE" 1509 3 1508,eR P "words_for" 1516 809,eR P "Thing" 1552 826,eR P "Heap" 1593 847,eR P "heap_alloc" 1603 858]:List DictEntry)
def Co:List Value:=Cp++([.int 390 0, .int 0 0, .ref 537, .int 441 0, .int 0 0, .ref 614, .int 445 0, .int 0 0, .ref 621, .int 451 0, .int 0 0, .ref 628, .int 454 0, .int 0 0, .ref 635, .int 463 0, .int 0 0, .ref 642, .int 465 0, .int 0 0, .ref 649, .int 467 0, .int 0 0, .ref 656, .int 469 0, .int 0 0, .ref 663, .int 473 0, .int 0 0, .ref 670, .int 477 0, .int 0 0, .ref 677, .int 486 0, .int 0 0, .ref 684, .int 493 0, .int 0 0, .ref 691, .int 496 0, .int 0 0, .ref 698, .int 498 0, .int 0 0, .ref 705, .int 500 0, .int 0 0, .ref 712, .int 513 0, .int 0 0, .ref 719, .int 524 0, .int 0 0, .ref 726, .int 536 0, .int 0 0, .ref 733, .int 540 0, .int 0 0, .ref 740, .int 542 0, .int 0 0, .ref 747, .int 552 0, .int 0 0, .ref 754, .int 554 0, .int 0 0, .ref 761, .int 556 0, .int 0 0, .ref 768, .int 568 0, .int 0 0, .ref 773, .int 579 0, .int 0 0, .ref 780, .int 592 0, .int 0 0, .ref 787, .int 600 0, .int 0 0, .ref 794, .int 616 0, .int 0 0, .ref 801, .int 626 0, .int 0 0, .ref 808, .int 630 0, .int 0 0, .ref 815, .int 639 0, .int 0 0, .ref 836, .int 654 0, .int 0 0, .ref 857]:List Value)
def HQ(P:Params):List DictEntry:=HR P++([eR P "PlaceHost" 1638 875,eR P "heap_place" 1646 886,e P "JP_FALL" 1651 (.int (-1) 1650),e P "JP_STAY" 1654 (.int (-2) 1653),eI P "ST_RUN" 1656 0 1655,eI P "ST_WRONG" 1658 3 1657,eS P "TEXT_NULL" 1660 "Object reference not set to an instance of an object." 1659,eR P "LOST" 1663 887,eR P "Frame" 1710 904,eR P "Op" 1740 925,eR P "Starter" 1789 960,eR P "KindCloser" 1829 988]:List DictEntry)
def Cn:List Value:=Co++([.int 664 0, .int 0 0, .ref 864, .int 670 0, .int 0 0, .ref 885, .int 679 0, .int 0 0, .ref 893, .int 697 0, .int 0 0, .ref 914, .int 701 0, .int 0 0, .ref 935, .int 711 0, .int 0 0, .ref 970]:List Value)
def HP(P:Params):List DictEntry:=HQ P++([eR P "Tray" 2007 1114,eR P "note_thrown" 2015 1125,eR P "told_row" 2024 1132,eR P "told_default" 2033 1139,eR P "tell_wrong" 2044 1146,eR P "pop_value" 2052 1153,eR P "stored" 2062 1160,eR P "first_slots" 2074 1167,eI P "OP_UNBOX" 2076 121 2075,eI P "OP_BOX" 2078 140 2077,eI P "OP_UNBOX_ANY" 2080 165 2079,eI P "OP_LDTOKEN" 2082 208 2081,eI P "CF_HASVALUE" 2084 6 2083,eI P "CF_VALUE" 2086 7 2085,eR P "throw_null" 2095 1174,eR P "thing_of" 2104 1181,eS P "TEXT_CAST" 2108 "Specified cast is not valid." 2107,eR P "holds_maybe" 2116 1188,eR P "box_at" 2129 1195,eR P "OpBox" 2155 1212,eR P "boxed_thing" 2165 1221,eR P "nullable_of" 2177 1228,eR P "unbox_cell" 2189 1235,eR P "OpUnbox" 2217 1252]:List DictEntry)
def Cm:List Value:=Cn++([.int 718 0, .int 0 0, .ref 998, .int 787 0, .int 0 0, .ref 1124, .int 791 0, .int 0 0, .ref 1131, .int 796 0, .int 0 0, .ref 1138, .int 801 0, .int 0 0, .ref 1145, .int 812 0, .int 0 0, .ref 1152, .int 817 0, .int 0 0, .ref 1159, .int 823 0, .int 0 0, .ref 1166, .int 845 0, .int 0 0, .ref 1173, .int 847 0, .int 0 0, .ref 1180, .int 860 0, .int 0 0, .ref 1187, .int 862 0, .int 0 0, .ref 1194, .int 884 0, .int 0 0, .ref 1201, .int 890 0, .int 0 0, .ref 1220, .int 898 0, .int 0 0, .ref 1227, .int 914 0, .int 0 0, .ref 1234, .int 924 0, .int 0 0, .ref 1241]:List Value)
def OO:Obj:=tu [.ref 925]
def Kw(P:Params):List DictEntry:=HP P++([eR P "OpUnboxAny" 2247 1271,eR P "OpToken" 2273 1290,eR P "install_m_objects" 2280 1299,eR P "is_of" 2290 1306,eR P "cast_top" 2300 1313,eR P "_law_NAMES" 2328 1314,eR P "_law_UNDERS" 2337 1315,eR P "_law_EDGES" 2355 1316,eR P "_law_FIRST" 2366 1317,eR P "_law_any" 2374 1324,eR P "_law_refers" 2381 1331,eR P "_law_plain" 2389 1338,eR P "_law_span" 2398 1345,eR P "_law_value" 2410 1352,eR P "_law_source" 2419 1359,eR P "_law_tagged" 2433 1366,eR P "_law_goes" 2442 1373,eR P "_law_meant" 2452 1380,eR P "_law_boxing" 2461 1387,eR P "_law_tried" 2473 1394,eR P "_law_op" 2487 1401,eR P "_law_box" 2499 1408,eR P "_law_open" 2514 1415,eR P "_law_place" 2532 1422,eR P "_law_write" 2544 1429,eR P "_law_reference" 2552 1436,eR P "_law_aim" 2564 1443,eR P "_law_deed" 2576 1450,eR P "_law_kinds" 2585 1457,eR P "_law_types" 2596 1464,eR P "_law_world" 2611 1471,eR P "_law_settled" 2626 1478,eR P "law" 2635 1485]:List DictEntry)
def GA:List Value:=Cm++([.int 939 0, .int 0 0, .ref 1260, .int 957 0, .int 0 0, .ref 1279, .int 962 0, .int 0 0, .ref 1298, .int 967 0, .int 0 0, .ref 1305, .int 970 0, .int 0 0, .ref 1312, .int 983 0, .int 0 0, .ref 1323, .int 991 0, .int 0 0, .ref 1330, .int 993 0, .int 0 0, .ref 1337, .int 995 0, .int 0 0, .ref 1344, .int 998 0, .int 0 0, .ref 1351, .int 1009 0, .int 0 0, .ref 1358, .int 1017 0, .int 0 0, .ref 1365, .int 1032 0, .int 0 0, .ref 1372, .int 1034 0, .int 0 0, .ref 1379, .int 1047 0, .int 0 0, .ref 1386, .int 1057 0, .int 0 0, .ref 1393, .int 1066 0, .int 0 0, .ref 1400, .int 1080 0, .int 0 0, .ref 1407, .int 1087 0, .int 0 0, .ref 1414, .int 1097 0, .int 0 0, .ref 1421, .int 1122 0, .int 0 0, .ref 1428, .int 1133 0, .int 0 0, .ref 1435, .int 1139 0, .int 0 0, .ref 1442, .int 1152 0, .int 0 0, .ref 1449, .int 1168 0, .int 0 0, .ref 1456, .int 1180 0, .int 0 0, .ref 1463, .int 1187 0, .int 0 0, .ref 1470, .int 1219 0, .int 0 0, .ref 1477, .int 1241 0, .int 0 0, .ref 1484]:List Value)
def H8:Obj:=⟨.type "type",none,(.cls ⟨z "Op", [.type "object"], [.ref 925, .type "object"],924,z "Op",true, [], [.ref 1212, .ref 1252, .ref 1271, .ref 1290],false,none,false⟩),a [none,none,some (s "Op" 1711),some (s "Op" 1719),some (.builtin "object.__new__"),some (.bool true)]⟩
def pr(t:BT):Nat->BT:=t.rec (λ_=> .nil) (λo _ _ f g n=>match n with|0=> .nil|m+1=> .node o (f ((m+1)/2)) (g (m/2)))
def u1(P:Params):BT:=N (hm "LoadFault" 63 62 54 253) (N aj (N (n7 dA 678) (N aj (L (ts 1871 [dA,"k"])) E) (N (hc 129 "default_of") (L (ha "OpToken" 2250 957 1277 2253)) E)) (N (hh 98 0 sH "Unheld.__init__") (N (ts 1264 ["ev","act","k"]) (L (hc 164 "pop_value")) E) (N aj (L (hd "_law_box" 2488 "_law_box" 1080 3 1402 2497 2498)) E))) (N aK (N (ts 781 ["kt","k",lr,"tag"]) (N aK (L aj) E) (N aj (L (hc 198 "_law_span")) E)) (N (hb 446 443 sA 829) (N aj (L aj) E) (N (di 4 [eS P sD 1748 eB 1647,eI P sC 1752 701 1751,eR P "need" 1762 943,eR P "done" 1771 950,eR P "failed" 1781 957,eR P sB 1782 958,eR P sJ 1784 961,eR P sK 1786 962,e P sI 1787 .none]) (L (he 216 "_law_world" sG 2301 1470)) E)))
def u2(P:Params):BT:=N aj (N (hc 50 "check_named") (N (hd "wrap32" 740 "wrap32" 254 1 282 744 745) (N (hh 105 0 sH "Plot.__init__") (L (hi 159 7 "default" "Tray.default" eB 1647 1054)) E) (N aj (L (hc 189 "cast_top")) E)) (N (di 6 [eS P sD 941 sA 829,eS P sE 943 "Special" 942,eI P sC 945 362 944,eR P sH 953 426,eR P "call" 963 433,eR P sB 965 434]) (N (he 114 "block_number" sA 829 670) (L aK) E) (N (hj 1736 925) (L (ts 2556 ["w","i","y","exact","z","beside"])) E))) (N (hd "is_int" 588 "is_int" 187 1 218 592 593) (N (he 92 "put_path" z8 706 350) (N (hk 604) (L aj) E) (N (hg 666 871) (L aK) E)) (N (ho 1028 478) (N aj (L (hh 184 0 kQ "OpUnbox.run")) E) (L (hk 988))))
def u3(P:Params):BT:=N jd (N (n7 "sort" 496) (N (hc 69 "type_of") (N (hn "Calls" 527 526 1065) (L (hh 159 5 "slot_place" "Tray.slot_place")) E) (N aK (L (n7 "m" 2277)) E)) (N aj (N (hc 112 "is_question") (L (he 166 "first_slots" eB 1647 1166)) E) (N (di 5 [eS P sD 1718 eB 1647,eS P sE 1720 "Op" 1719,eI P sC 1722 697 1721,eR P kQ 1732 922,eR P sB 1733 923]) (L aj) E))) (N aj (N (hc 90 "tag_of_row") (N aj (L (hd D1 1960 "Tray.throw_new" 782 3 1098 1966 1967)) E) (N (hn "Heap" 847 846 1553) (L (he 200 "_law_source" sG 2301 1358)) E)) (N jd (N (hd "row_taking" 1360 "row_taking" 513 3 714 1371 1372) (L (ts 2181 ["m","f","k","top","maybe","thing"])) E) (L aj)))
def u4(P:Params):BT:=N (hd "row" 442 "KindTable.row" 72 2 106 447 448) (N (he 52 "may_stand" sF 301 174) (N aj (N (hi 105 2 "closed" "Plot.closed" sA 829 558) (L aK) E) (N (ha "Thing" 1519 630 813 1522) (L (n7 nl 2378)) E)) (N (hh 100 1 "call" "Special.call") (N aK (L aj) E) (N (hi 157 0 "need" "Starter.need" eB 1647 942) (L (hc 214 "_law_kinds")) E))) (N (ts 636 ["asm","base","bounds","cctor","events","fields","finaliser","flags","home","ifaces","impls","methods",nl,"params","props","sort","tid","under","variances"]) (N (di 3 [eS P sD 842 sA 829,eI P sC 846 342 845,eR P sH 856 365,eR P sB 860 366,eR P sK 862 369,e P sI 863 .none]) (N aj (L (ts 2028 ["m","k","found"])) E) (N (hl 875) (L aj) E)) (N (hd "begin" 1047 "Begins.begin" 381 4 490 1054 1055) (N (ts 1422 ["ev","k"]) (L aK) E) (L aj)))
def u5(P:Params):BT:=N (ha "RunBound" 271 19 69 274) (N aK (N (ho 690 262) (N aK (L aj) E) (N aj (L (hi 186 0 kQ "OpToken.run" kR 2105 1286)) E)) (N (hl 388) (N aj (L (hd "stored" 2053 "stored" 817 3 1154 2060 2061)) E) (N (di 4 [eS P sD 1671 eB 1647,eI P sC 1675 679 1674,eR P sH 1687 901,eR P sB 1703 902,eR P sJ 1705 905,eR P sK 1707 906,e P sI 1708 .none]) (L (he 208 "_law_open" sG 2301 1414)) E))) (N (ts 565 ["kt","k","row"]) (N aj (N (ts 1171 [dA,"tid","text"]) (L (hh 159 13 "pop" "Tray.pop")) E) (N aK (L (hd "_law_value" 2399 "_law_value" 998 3 1346 2408 2409)) E)) (N (ts 995 ["act",rn,"rows"]) (N (hc 120 "throw_item") (L aK) E) (N (di 6 [eS P sD 1797 eB 1647,eS P sE 1799 "KindCloser" 1798,eI P sC 1801 711 1800,eR P "kind" 1811 978,eR P "ref" 1821 985,eR P sB 1822 986]) (L aj) E)))
def u6:BT:=N (hh 45 0 sH "KindTable.__init__") (N (hd "check_args" 518 "check_args" 150 2 162 524 525) (N (he 84 "wrap64" z8 706 294) (N (hd "is_a" 1125 "Plot.is_a" 418 3 546 1131 1132) (L aj) E) (N (hc 141 "words_for") (L aK) E)) (N aj (N aj (L (ts 2120 ["m","f","at","k",lr,"slots","thing"])) E) (N (ha "Starter" 1743 701 933 1746) (L aj) E))) (N (hb 230 227 Eg 595) (N aj (N (he 106 "count_step" sA 829 614) (L aK) E) (N (hd sH 1618 "PlaceHost.__init__" 666 4 866 1625 1626) (L (ts 2456 ["w",nl,lr])) E)) (N (hg 381 495) (N aK (L OO) E) (L (hb 998 995 eB 1647))))
def u7(P:Params):BT:=N (hm "LeftOut" 87 86 78 285) (N aj (N (hc 82 "wrap_bits") (N aj (L (hd "target" 1892 "Tray.target" 758 3 1042 1898 1899)) E) (N (ts 1485 ["ev","k",rn,"inner","item"]) (L aj) E)) (N (di 4 [eS P sD 904 sA 829,eI P sC 908 352 907,eR P sH 918 405,eR P sB 926 406,eR P sJ 928 409,eR P sK 930 410,e P sI 931 .none]) (N (hd "new_item" 1286 "new_item" 469 3 658 1293 1294) (L aj) E) (N aj (L aK) E))) (N (hc 58 "is_var") (N (hd "fits" 803 "fits" 315 3 338 810 811) (N (hh 105 8 "seen_as" "Plot.seen_as") (L (hi 159 15 "push_call" "Tray.push_call" eB 1647 1110)) E) (N aj (L aj) E)) (N (ts 1021 [dA,"ev","body"]) (N (he 122 "when_says" sA 829 726) (L aj) E) (L (hh 158 1 "ref" "KindCloser.ref"))))
def u8:BT:=N (hi 45 2 "put" "KindTable.put" sF 301 118) (N aj (N aK (N aj (L (ts 1938 [dA,"kind","count"])) E) (N (hi 142 0 sH "Thing.__init__" D3 1502 822) (L aj) E)) (N (hk 436) (N (ts 1336 ["ev","tid","text"]) (L (hh 180 0 kQ "OpBox.run")) E) (N aj (L (hd "_law_types" 2586 "_law_types" 1180 2 1458 2594 2595)) E))) (N jd (N aj (N aK (L aj) E) (N (tu [.int 0 1661, .int 0 1662]) (L (hc 206 "_law_op")) E)) (N (hl 499) (N aj (L (hp "OpUnboxAny" 1271 1270 1255 2218)) E) (L aK)))
def u9(P:Params):BT:=N (boot_o_7 P) (N aj (N (ts 221 [dA,"code","at"]) (u1 P) (u2 P)) (N (ha "BadKind" 239 15 45 242) (u3 P) (u4 P))) (N jd (N (hj 230 38) (u5 P) u6) (N jd (u7 P) u8))
def Vj(P:Params):BT:=N jd (N (hc 46 "inner_kinds") (N (hi 68 0 sH "Store.__init__" Eg 595 258) (N (hh 104 0 sH "Calls.__init__") (L (hi 159 3 "kinds_of" "Tray.kinds_of" eB 1647 1026)) E) (N aK (L (ts 2263 [dA,"m","f","operand"])) E)) (N (di 3 [eS P sD 875 sA 829,eI P sC 879 348 878,eR P sH 887 385,eR P sB 889 386,eR P sK 891 389,e P sI 892 .none]) (N (he 110 "kind_in" sA 829 642) (L aK) E) (N (hh 155 0 sH "Frame.__init__") (L (ts 2503 ["w",nl,"i","due",lr,"told","got","thrown","put"])) E))) (N (hd "tid_of" 553 "tid_of" 166 2 190 559 560) (N (he 88 "store_as" z8 706 322) (N (hd "asked" 1160 "Plot.asked" 430 2 574 1165 1166) (L aj) E) (N (hg 641 843) (L aK) E)) (N aj (N aj (L (hc 181 "boxed_thing")) E) (N (hk 960) (L aj) E)))
def Vi(P:Params):BT:=N aj (N aK (N (n7 "n" 750) (N aK (L aj) E) (N aj (L (ts 2329 ["i4","u1","i8","u4","u2","i1","u8","i2"])) E)) (N (hb 418 415 sA 829) (N aj (L (hd "holds_maybe" 2109 "holds_maybe" 860 2 1182 2114 2115)) E) (N jd (L (he 212 "_law_aim" sG 2301 1442)) E))) (N (di 5 [eS P sD 616 Eg 595,eS P sE 618 "TypeDef" 617,eI P sC 620 196 619,eR P sH 635 238,eR P sB 655 239]) (N aj (N (n7 "ev" 1229) (L (hc 160 "note_thrown")) E) (N aK (L (hd "_law_meant" 2443 "_law_meant" 1034 3 1374 2450 2451)) E)) (N aj (N (hc 124 "drop_guards") (L (di 2 [eS P sD 2197 kR 2105,eI P sC 2201 924 2200,eR P kQ 2213 1249,eR P sB 2214 1250,e P sI 2215 .none])) E) (L (di 20 [eS P sD 1837 eB 1647,eS P sE 1839 "Tray" 1838,eI P sC 1841 718 1840,eR P sH 1850 1006,eR P "is_a" 1859 1013,eR P "slots_of" 1867 1020,eR P "kinds_of" 1875 1027,eR P "skinds_of" 1883 1034,eR P "slot_place" 1891 1041,eR P "target" 1900 1048,eR P "default" 1908 1055,eR P "plain" 1916 1062,eR P "closed" 1925 1069,eR P D2 1934 1076,eR P "alloc" 1943 1083,eR P "wrong" 1951 1090,eR P "pop" 1959 1097,eR P D1 1968 1104,eR P "push_call" 1978 1111,eR P sB 2000 1112]))))
def Vh:BT:=N (ha "LeftOut" 287 21 81 290) (N (he 48 "row_length" sF 301 146) (N aj (N (hl 527) (L aK) E) (N (hd "box_value" 1473 "box_value" 592 3 782 1479 1480) (L (he 187 "install_m_objects" kR 2105 1298)) E)) (N (hh 99 0 sH "Item.__init__") (N aK (L aj) E) (N (hb 914 911 eB 1647) (L (hc 210 "_law_write")) E))) (N aj (N aK (N aj (L (ts 1972 [dA,"mref","args","sort"])) E) (N (hl 847) (L aj) E)) (N (ha "Splits" 1008 375 465 1011) (N (ts 1377 ["ev","act","lid","when",rn,"wall","nested","answer"]) (L (he 183 "unbox_cell" kR 2105 1234)) E) (L aj)))
def Vg(P:Params):BT:=N (ts 453 [dA,"row","found","depth","weight","opened","level","inner","k"]) (N aj (N (hc 86 "plain_default") (N aj (L (hd D2 1926 "Tray.closed_ref" 770 3 1070 1932 1933)) E) (N (ts 1532 [dA,"addr","kind","slots"]) (L (he 196 "_law_refers" sG 2301 1330)) E)) (N (di 4 [eS P sD 941 sA 829,eI P sC 945 362 944,eR P sH 953 426,eR P "call" 963 433,eR P sB 965 434,eR P sJ 967 437,eR P sK 969 438,e P sI 970 .none]) (N (hd "lay_cells" 1323 "lay_cells" 493 3 686 1330 1331) (L aj) E) (N aj (L aK) E))) (N (hj 658 241) (N (hl 368) (N (hc 108 "next_number") (L (he 162 "told_default" eB 1647 1138)) E) (N aj (L aj) E)) (N (hn "Begins" 499 498 1035) (N (he 127 "is_struct" "framerune.sourcebed" 1417 754) (L (hd kQ 2230 "OpUnboxAny.run" 941 4 1262 2241 2242)) E) (L (hh 159 1 "is_a" "Tray.is_a"))))
def Vf:BT:=N (hm "RunBound" 75 74 66 269) (N (hd "row_level" 486 "row_level" 114 1 134 490 491) (N aj (N (hd "goal" 1085 "Calls.goal" 388 4 518 1092 1093) (L aj) E) (N (hc 133 "put_value_at") (L (hk 1290)) E)) (N aj (N aj (L (ts 2066 ["m","kind","count","sort","out","k"])) E) (N (hk 904) (L aj) E))) (N (he 56 "args_of" sF 301 202) (N aj (N (hi 105 6 "error" "Plot.error" sA 829 586) (L aK) E) (N (hd sH 1565 "Heap.__init__" 641 3 838 1571 1572) (L (ts 2414 ["w",nl,lr])) E)) (N (hj 1001 457) (N aK (L (hd "nullable_of" 2166 "nullable_of" 898 3 1222 2175 2176)) E) (N (hb 970 967 eB 1647) (L (hc 218 "law")) E)))
def Ve:BT:=N aK (N (ts 530 ["kt","k","sort"]) (N aj (N (ts 1137 [dA,"act","k"]) (L (hh 159 9 "closed" "Tray.closed")) E) (N jd (L (hd "_law_any" 2367 "_law_any" 983 1 1318 2372 2373)) E)) (N aj (N (hc 116 "begin_block") (L (he 179 "box_at" kR 2105 1194)) E) (N (ts 1756 [dA,"m","kind","why"]) (L aj) E))) (N aj (N (hh 97 0 sH "Thrown.__init__") (N aj (L (hd "told_row" 2016 "told_row" 791 2 1126 2022 2023)) E) (N (hn "PlaceHost" 875 874 1606) (L (he 204 "_law_boxing" sG 2301 1386)) E)) (N aK (N (hd "item_is" 1406 "item_is" 542 3 742 1414 1415) (L (hg 941 1267)) E) (L aj)))
def Vd(P:Params):BT:=N (⟨.type "dict",none,(.dict (a [⟨20, .int 20 390, .int 0 303⟩,⟨9, .int 9 391, .int 1 305⟩,⟨10, .int 10 392, .int 2 307⟩,⟨11, .int 11 393, .int 3 309⟩,⟨12, .int 12 394, .int 4 311⟩,⟨13, .int 13 395, .int 5 313⟩,⟨14, .int 14 396, .int 6 315⟩,⟨15, .int 15 397, .int 7 317⟩,⟨16, .int 16 398, .int 8 319⟩,⟨17, .int 17 399, .int 9 321⟩,⟨18, .int 18 400, .int 10 323⟩,⟨19, .int 19 401, .int 11 325⟩,⟨1, .int 1 402, .int 12 327⟩,⟨4, .int 4 403, .int 13 329⟩]) 14),#[]⟩) (N aj (N aK (N aj (L (ts 1904 [dA,"k"])) E) (N (he 135 "unbox_value" "framerune.sourcebox" 1453 794) (L aj) E)) (N (hk 408) (N (n7 "s" 1299) (L (hc 175 "thing_of")) E) (N aj (L (hd "_law_reference" 2545 "_law_reference" 1133 2 1430 2550 2551)) E))) (N aK (N (ts 816 [lr,"path","new","way","at_slot","slot","place","outer"]) (N (di 4 [eS P sD 1111 sA 829,eI P sC 1115 390 1114,eR P sH 1124 545,eR P "is_a" 1133 552,eR P "closed" 1142 559,eR P D2 1151 566,eR P "first" 1159 573,eR P "asked" 1167 580,eR P "error" 1176 587,eR P "type_item" 1184 594,eR P "seen_as" 1193 601,eR P sB 1218 602,eR P sJ 1220 605,eR P sK 1222 606,e P sI 1223 .none]) (L (ho 2001 1114)) E) (N aj (L (hc 202 "_law_goes")) E)) (N (hi 102 0 "ready" "Splits.ready" sA 829 474) (N aj (L aj) E) (L (di 4 [eS P sD 1797 eB 1647,eI P sC 1801 711 1800,eR P "kind" 1811 978,eR P "ref" 1821 985,eR P sB 1822 986,eR P sJ 1824 989,eR P sK 1826 990,e P sI 1827 .none]))))
def Vc(P:Params):BT:=N (ho 471 122) (N (hc 54 "elem_of") (N (hd "cut_to" 770 "cut_to" 277 2 310 775 776) (N (hh 105 4 "first" "Plot.first") (L (hi 159 11 "alloc" "Tray.alloc" eB 1647 1082)) E) (N (ho 1546 826) (L aj) E)) (N (di 5 [eS P sD 980 sA 829,eS P sE 982 "Guard" 981,eI P sC 984 369 983,eR P sH 994 454,eR P sB 998 455]) (N (he 118 D1 sA 829 698) (L (di 2 [eS P sD 2137 kR 2105,eI P sC 2141 884 2140,eR P kQ 2151 1209,eR P sB 2152 1210,e P sI 2153 .none])) E) (N (hh 157 2 "failed" "Starter.failed") (L (ts 2600 ["script","store","m","w","head","under",nl,"inner","z"])) E))) (N (ha "Store" 665 222 249 668) (N aj (N (hd "eval_expr" 1249 "eval_expr" 454 3 630 1258 1259) (L aj) E) (N aj (L aK) E)) (N aj (N aj (L jd) E) (L (hd "slots_of" 1860 "Tray.slots_of" 746 2 1014 1865 1866))))
def Vb(P:Params):BT:=N aj (N (hc 0 "_wall") (N (hi 7 0 sH "RuneError.__init__" uk 194 34) (Vj P) (Vi P)) (N (hm "BadKind" 51 50 42 237) Vh (Vg P))) (N (ha "RuneError" 208 10 25 211) (N jd Vf Ve) (N (ha "LoadFault" 255 17 57 258) (Vd P) (Vc P)))
def Va(P:Params):BT:=N (hl 63) (N (ts 481 ["row","sort"]) (N (hh 68 0 sH "Store.__init__") (N (ts 1080 [dA,"rows"]) (L (hh 159 3 "kinds_of" "Tray.kinds_of")) E) (N (he 129 "default_of" "framerune.sourcebed" 1417 768) (L aj) E)) (N (hi 98 0 sH "Unheld.__init__" sA 829 384) (N (hc 110 "kind_in") (L (he 164 "pop_value" eB 1647 1152)) E) (N (ts 1679 [dA,rn,"mref","body","args","sort"]) (L aj) E))) (N aj (N (hc 88 "store_as") (N aj (L (hd "wrong" 1944 "Tray.wrong" 776 2 1084 1949 1950)) E) (N (di 5 [eS P sD 1560 D3 1502,eS P sE 1562 "Heap" 1561,eI P sC 1564 639 1563,eR P sH 1573 844,eR P sB 1586 845]) (L (he 198 "_law_span" sG 2301 1344)) E)) (N aK (N (hd "throw_nothing" 1342 "throw_nothing" 498 1 700 1346 1347) (L (ts 2159 ["m",lr,"k","thing"])) E) (N (ho 1783 960) (L aK) E)))
def U9:BT:=N (ha "KindTable" 423 56 95 426) (N (he 50 "check_named" sF 301 160) (N aj (N (hi 105 0 sH "Plot.__init__" sA 829 544) (L aK) E) (N (hd "from_reference" 1493 "from_reference" 616 3 796 1499 1500) (L (he 189 "cast_top" kR 2105 1312)) E)) (N (⟨.none,none,(.fields (a [.int 364 0, .int 4 0, .ref 425, .int 367 0, .int 4 0, .ref 432])),#[]⟩) (N aK (L aj) E) (N (hl 925) (L (hc 212 "_law_aim")) E))) (N aj (N jd (N aj (L (ts 2011 ["m","tid"])) E) (N (hb 864 861 KC 1604) (L aj) E)) (N (hk 478) (N (ts 1401 ["ev","before"]) (L (hi 184 0 kQ "OpUnbox.run" kR 2105 1248)) E) (L aj)))
def U8:BT:=N aj (N (hc 48 "row_length") (N (he 69 "type_of" Eg 595 272) (N (hj 1099 527) (L (hi 159 5 "slot_place" "Tray.slot_place" eB 1647 1040)) E) (N aj (L (hc 187 "install_m_objects")) E)) (N (ts 912 [dA,rn,"kind","slots"]) (N (he 112 "is_question" sA 829 656) (L aK) E) (N (hg 699 921) (L (ts 2536 ["w","i","z",nl,lr,"slots"])) E))) (N (hd "is_value" 571 "is_value" 180 2 204 576 577) (N (he 90 "tag_of_row" z8 706 336) (N (hd "type_item" 1177 "Plot.type_item" 436 2 588 1182 1183) (L aj) E) (N (hj 1589 847) (L aK) E)) (N aj (N aj (L (hc 183 "unbox_cell")) E) (L (hd "kind" 1802 "KindCloser.kind" 713 4 972 1809 1810))))
def U7:BT:=N aj (N aK (N (n7 "k" 766) (N aK (L aj) E) (N aj (L (hc 196 "_law_refers")) E)) (N (hi 100 1 "call" "Special.call" sA 829 432) (N aj (L (ha "OpBox" 2132 884 1199 2135)) E) (N aK (L (he 214 "_law_kinds" sG 2301 1456)) E))) (N (hn "TypeDef" 241 240 609) (N (hj 861 368) (N (n7 "ev" 1245) (L (hc 162 "told_default")) E) (N aK (L (hd "_law_tried" 2462 "_law_tried" 1057 3 1388 2471 2472)) E)) (N aj (N (hc 127 "is_struct") (L aj) E) (L (ts 1854 [dA,"exact","k"]))))
def U6(P:Params):BT:=N aj (N aj (N (hk 262) (N aj (L (hd "skinds_of" 1876 "Tray.skinds_of" 752 2 1028 1881 1882)) E) (N (ts 1460 ["place",lr,"holder","path","outer","inner","step","back","at","whole"]) (L (di 2 [eS P sD 2255 kR 2105,eI P sC 2259 957 2258,eR P kQ 2269 1287,eR P sB 2270 1288,e P sI 2271 .none])) E)) (N jd (N (hd "layout_in" 1270 "layout_in" 465 2 644 1275 1276) (L aj) E) (N (ho 1704 904) (L aK) E))) (N (hc 56 "args_of") (N (hd "tag_of" 788 "tag_of" 295 2 324 793 794) (N (hh 105 6 "error" "Plot.error") (L (hi 159 13 "pop" "Tray.pop" eB 1647 1096)) E) (N aj (L aj) E)) (N (hn "Guard" 457 456 973) (N (he 120 "throw_item" sA 829 712) (L aj) E) (N (⟨.none,none,(.fields (a [.int 713 0, .int 4 0, .ref 977, .int 716 0, .int 4 0, .ref 984])),#[]⟩) (L (ts 2630 ["script","w","turn"])) E)))
def U5(P:Params):BT:=N (hi 45 0 sH "KindTable.__init__" sF 301 104) (N aj (N aK (N aj (L (ts 1920 [dA,"f","k"])) E) (N (he 141 "words_for" D3 1502 808) (L aj) E)) (N (hd sH 946 "Special.__init__" 364 2 420 951 952) (N (ts 1317 ["ev","act",rn]) (L (hc 179 "box_at")) E) (N aj (L (hd "_law_deed" 2565 "_law_deed" 1152 1 1444 2574 2575)) E))) (N aK (N (ts 850 [dA,"item","goal","row"]) (N aK (L aj) E) (N (ts 1628 ["frames","heap","statics"]) (L (hc 204 "_law_boxing")) E)) (N (hb 488 485 sA 829) (N aj (L (di 5 [eS P sD 2225 kR 2105,eS P sE 2227 "OpUnboxAny" 2226,eI P sC 2229 939 2228,eR P kQ 2243 1268,eR P sB 2244 1269])) E) (L aK)))
def U4(P:Params):BT:=N (hl 87) (N (hd "check_kind_row" 500 "check_kind_row" 124 2 148 507 508) (N (he 82 "wrap_bits" z8 706 280) (N (ha "Plot" 1106 390 535 1109) (L aj) E) (N (hc 135 "unbox_value") (L (hd "is_of" 2281 "is_of" 967 3 1300 2288 2289)) E)) (N (ho 927 408) (N aj (L (ts 2099 ["m",lr,"thing"])) E) (N (hd kQ 1723 "Op.run" 699 4 916 1730 1731) (L aj) E))) (N (he 58 "is_var" sF 301 216) (N aj (N (hi 105 8 "seen_as" "Plot.seen_as" sA 829 600) (L (di 4 [eS P sD 1837 eB 1647,eI P sC 1841 718 1840,eR P sH 1850 1006,eR P "is_a" 1859 1013,eR P "slots_of" 1867 1020,eR P "kinds_of" 1875 1027,eR P "skinds_of" 1883 1034,eR P "slot_place" 1891 1041,eR P "target" 1900 1048,eR P "default" 1908 1055,eR P "plain" 1916 1062,eR P "closed" 1925 1069,eR P D2 1934 1076,eR P "alloc" 1943 1083,eR P "wrong" 1951 1090,eR P "pop" 1959 1097,eR P D1 1968 1104,eR P "push_call" 1978 1111,eR P sB 2000 1112,eR P sJ 2002 1115,eR P sK 2004 1116,e P sI 2005 .none])) E) (N (hd "heap_alloc" 1594 "heap_alloc" 654 3 852 1601 1602) (L (ts 2437 ["w","exact",nl])) E)) (N (hh 102 0 "ready" "Splits.ready") (N aK (L (ha "OpUnbox" 2192 924 1239 2195)) E) (L (hi 158 1 "ref" "KindCloser.ref" eB 1647 984))))
def U3(P:Params):BT:=N (di 4 [eS P sD 428 sF 301,eI P sC 432 56 431,eR P sH 441 105,eR P "row" 449 112,eR P "put" 464 119,eR P sB 470 120,eR P sJ 472 123,eR P sK 474 124,e P sI 475 .none]) (N (ts 547 ["kt","k","row"]) (N aj (N (ts 1155 [dA,"k"]) (L (hh 159 11 "alloc" "Tray.alloc")) E) (N (di 4 [eS P sD 1524 D3 1502,eI P sC 1528 630 1527,eR P sH 1538 823,eR P sB 1545 824,eR P sJ 1547 827,eR P sK 1549 828,e P sI 1550 .none]) (L (hd "_law_plain" 2382 "_law_plain" 993 2 1332 2387 2388)) E)) (N aj (N (hc 118 D1) (L (hi 180 0 kQ "OpBox.run" kR 2105 1208)) E) (N (ts 1775 [dA,"m","kind","addr"]) (L aj) E))) (N aj (N (ha "Unheld" 870 348 375 873) (N aj (L (hd "tell_wrong" 2034 "tell_wrong" 801 2 1140 2042 2043)) E) (N jd (L (he 206 "_law_op" sG 2301 1400)) E)) (N jd (N (hd "is_composed" 1427 "is_composed" 554 2 756 1432 1433) (L (hl 1271)) E) (L aj)))
def U2(P:Params):BT:=N (boot_o_9 P) (N (n7 "k" 190) (N (hh 7 0 sH "RuneError.__init__") (Va P) U9) (N aj U8 U7)) (N aj (N (hl 38) (U6 P) (U5 P)) (N aj (U4 P) (U3 P)))
def U1(P:Params):BT:=N aj (N (he 46 "inner_kinds" sF 301 132) (N (di 4 [eS P sD 670 Eg 595,eI P sC 674 222 673,eR P sH 681 259,eR P sB 689 260,eR P sJ 691 263,eR P sK 693 264,e P sI 694 .none]) (N (hi 104 0 sH "Calls.__init__" sA 829 516) (L aK) E) (N (⟨.type "code",none,(.fields (a [s "default_parts" 1447,s "default_parts" 1448,s H5 1449, .int 568 0, .int 2 0, .int 0 0, .int 0 0, .int 3 0, .ref 770, .bool true, .int 181 0, .ref 771, .none, .none, .none, .ref 772, .int 1450 0, .int 568 0,s H5 1451])),#[]⟩) (L (hh 186 0 kQ "OpToken.run")) E)) (N (hj 890 388) (N aK (L aj) E) (N (hi 155 0 sH "Frame.__init__" eB 1647 900) (L (hc 208 "_law_open")) E))) (N aj (N aK (N aj (L (ts 1955 [dA,"f"])) E) (N (hb 836 833 D3 1502) (L aj) E)) (N (hd sH 985 "Guard.__init__" 371 4 448 992 993) (N (ts 1352 ["ev",rn,"at","guard","row"]) (L (he 181 "boxed_thing" kR 2105 1220)) E) (N aj (L (hd "_law_settled" 2612 "_law_settled" 1219 1 1472 2624 2625)) E)))
def U0(P:Params):BT:=N (ts 436 [dA,rn,"row"]) (N aj (N (hc 84 "wrap64") (N aj (L (hd "plain" 1909 "Tray.plain" 764 2 1056 1914 1915)) E) (N (n7 "count" 1513) (L (tu [.int 0 2356, .int 2 2357, .int 8 2358, .int 1 2359, .int 10 2360, .int 8 2361, .int 6 2362, .int 2 2363, .int 8 2364, .int 31 2365])) E)) (N aK (N (hd "block_lids" 1303 "block_lids" 477 3 672 1311 1312) (L aj) E) (N aj (L aK) E))) (N (hg 198 237) (N (ha "Thrown" 837 342 355 840) (N (hc 106 "count_step") (L (he 160 "note_thrown" eB 1647 1124)) E) (N aj (L aj) E)) (N (di 5 [eS P sD 1042 sA 829,eS P sE 1044 "Begins" 1043,eI P sC 1046 379 1045,eR P "begin" 1056 496,eR P sB 1057 497]) (N (he 124 "drop_guards" sA 829 740) (L (hk 1252)) E) (L (⟨.none,none,(.fields (a [.int 720 0, .int 4 0, .ref 1005, .int 743 0, .int 4 0, .ref 1012, .int 746 0, .int 4 0, .ref 1019, .int 749 0, .int 4 0, .ref 1026, .int 752 0, .int 4 0, .ref 1033, .int 755 0, .int 4 0, .ref 1040, .int 758 0, .int 4 0, .ref 1047, .int 761 0, .int 4 0, .ref 1054, .int 764 0, .int 4 0, .ref 1061, .int 767 0, .int 4 0, .ref 1068, .int 770 0, .int 4 0, .ref 1075, .int 773 0, .int 4 0, .ref 1082, .int 776 0, .int 4 0, .ref 1089, .int 779 0, .int 4 0, .ref 1096, .int 782 0, .int 4 0, .ref 1103, .int 785 0, .int 4 0, .ref 1110])),#[]⟩))))
def UZ:BT:=N aj (N aK (N (ts 735 ["n","bits"]) (N jd (L aj) E) (N aj (L aK) E)) (N (hi 99 0 sH "Item.__init__" sA 829 404) (N aj (L (hd "throw_null" 2089 "throw_null" 845 1 1168 2093 2094)) E) (N aK (L (he 210 "_law_write" sG 2301 1428)) E))) (N (ts 582 ["kt","k","sort"]) (N aj (N (ts 1188 [dA,"k",lr]) (L (hh 159 15 "push_call" "Tray.push_call")) E) (N aK (L (hd "_law_tagged" 2420 "_law_tagged" 1017 3 1360 2431 2432)) E)) (N aj (N (hc 122 "when_says") (L jd) E) (L (ts 1815 [dA,"m","f","fref"]))))
def UY:BT:=N (hh 45 2 "put" "KindTable.put") (N (hd "kind_sort" 536 "kind_sort" 159 2 176 541 542) (N (he 86 "plain_default" z8 706 308) (N (hd D2 1143 "Plot.closed_ref" 424 3 560 1149 1150) (L aj) E) (N (hh 142 0 sH "Thing.__init__") (L aK) E)) (N (ho 966 436) (N aj (L (ts 2145 [dA,"m","f","operand"])) E) (N (hd "done" 1763 "Starter.done" 706 3 944 1769 1770) (L aj) E))) (N (hl 241) (N jd (N (he 108 "next_number" sA 829 628) (L aK) E) (N (hd "heap_place" 1639 "heap_place" 670 2 880 1644 1645) (L (ts 2477 ["w","code",nl,lr,"m","f","jump","thrown"])) E)) (N (hj 1060 499) (N aK (L aj) E) (L (hi 159 1 "is_a" "Tray.is_a" eB 1647 1012))))
def UX:BT:=N (hl 75) (N aj (N (ts 700 ["store","k","tid"]) (N (n7 "rows" 1095) (L (ts 1887 [dA,"fref"])) E) (N (he 133 "put_value_at" "framerune.sourcebox" 1453 780) (L aj) E)) (N (ha "Item" 899 352 395 902) (N (ts 1281 ["ev","k"]) (L (hc 166 "first_slots")) E) (N aj (L (hd "_law_place" 2515 "_law_place" 1097 4 1416 2530 2531)) E))) (N aK (N (n7 "sort" 799) (N aK (L aj) E) (N (ts 1574 ["at","card_bits","cards","finals","fresh","limit","made","moved","ready","things","top","young_limit"]) (L (hc 200 "_law_source")) E)) (N (hl 457) (N aj (L aj) E) (N aK (L (he 218 "law" sG 2301 1484)) E)))
def UW:BT:=N aj (N (hc 52 "may_stand") (N (hd "plain_kind" 754 "plain_kind" 258 2 296 760 761) (N (hh 105 2 "closed" "Plot.closed") (L (hi 159 9 "closed" "Tray.closed" eB 1647 1068)) E) (N aj (L aj) E)) (N (ts 957 [dA,"ev","mid","args"]) (N (he 116 "begin_block" sA 829 684) (L jd) E) (N (hh 157 0 "need" "Starter.need") (L (ts 2580 ["kt","kinds",nl])) E))) (N (hd sH 621 "TypeDef.__init__" 198 8 232 633 634) (N (hi 97 0 sH "Thrown.__init__" sA 829 364) (N (hd "go_deeper" 1233 "go_deeper" 445 2 616 1239 1240) (L aj) E) (N (hj 1634 875) (L aK) E)) (N aj (N aj (L (hb 1260 1257 kR 2105)) E) (L (hd sH 1842 "Tray.__init__" 720 3 1000 1848 1849))))
def UV:BT:=N (hk 122) (N (he 54 "elem_of" sF 301 188) (N aj (N (hi 105 4 "first" "Plot.first" sA 829 572) (L aK) E) (N (hk 826) (L (ts 2393 ["w",nl,"rows"])) E)) (N (hg 371 453) (N aK (L (hk 1212)) E) (N (hi 157 2 "failed" "Starter.failed" eB 1647 956) (L (hc 216 "_law_world")) E))) (N aj (N (ts 883 [dA,"item"]) (N aj (L (ts 2048 ["m","f"])) E) (N (ha "Frame" 1666 679 891 1669) (L aj) E)) (N (ha "Calls" 1067 383 507 1070) (N (ts 1438 ["ev","k","work","one","waiting","part"]) (L aj) E) (L aj)))
def UU:BT:=N (hk 63) (N aK (N aj (N aK (L aj) E) (N (hd "default_of" 1435 "default_of" 556 2 763 1444 1445) (L (hb 1279 1276 kR 2105)) E)) (N (hd sH 880 "Unheld.__init__" 350 2 379 885 886) (N aj (L (hd "pop_value" 2045 "pop_value" 812 2 1147 2050 2051)) E) (N aK (L (he 207 "_law_box" sG 2301 1407)) E))) (N (ts 556 ["kt","k","row"]) (N aj (N (ts 1163 [dA,"k"]) (L (hh 159 12 "wrong" "Tray.wrong")) E) (N jd (L (hd "_law_span" 2390 "_law_span" 995 2 1339 2396 2397)) E)) (N aj (N (hc 119 "throw_nothing") (L aK) E) (N (hn "Starter" 960 959 1741) (L aj) E)))
def UT:BT:=N (⟨.none,none,(.fields (a [.int 58 0, .int 4 0, .ref 104, .int 72 0, .int 4 0, .ref 111, .int 77 0, .int 4 0, .ref 118])),#[]⟩) (N (hd "check_named" 510 "check_named" 146 2 155 515 516) (N (he 83 "wrap32" z8 706 287) (N (hd sH 1116 "Plot.__init__" 392 3 539 1122 1123) (L aj) E) (N (hc 136 "from_reference") (L (hd "cast_top" 2291 "cast_top" 970 3 1307 2298 2299)) E)) (N aj (N aj (L (ts 2112 ["kt","k"])) E) (N (hk 925) (L aj) E))) (N (he 59 "is_int" sF 301 223) (N PG (N (hl 604) (L aK) E) (N (ha "PlaceHost" 1608 664 862 1611) (L (ts 2446 ["w",nl,"i","exact"])) E)) (N (hj 1030 478) (N aK (L (hd kQ 2202 "OpUnbox.run" 926 4 1243 2211 2212)) E) (L (hl 988))))
def US(P:Params):BT:=N (di 4 [eS P sD 292 uk 194,eS P sE 294 "LeftOut" 293,eI P sC 296 21 295,eR P sB 297 85]) (N aj (N (hd "type_of" 697 "type_of" 232 2 267 703 704) (N (ho 1097 527) (L (hd "slot_place" 1884 "Tray.slot_place" 755 2 1035 1889 1890)) E) (N (ts 1476 ["ev","k",lr]) (L aj) E)) (N aK (N (hd "is_question" 1278 "is_question" 467 2 651 1283 1284) (L aj) E) (N aj (L aK) E))) (N (hc 57 "is_value") (N (hd "tag_of_row" 796 "tag_of_row" 305 1 331 800 801) (N (hh 105 7 "type_item" "Plot.type_item") (L (hi 159 14 D1 "Tray.throw_new" eB 1647 1103)) E) (N (ho 1587 847) (L aj) E)) (N (di 5 [eS P sD 1013 sA 829,eS P sE 1015 "Splits" 1014,eI P sC 1017 375 1016,eR P "ready" 1026 475,eR P sB 1027 476]) (N (he 121 "row_taking" sA 829 719) (L aj) E) (L (hh 158 0 "kind" "KindCloser.kind"))))
def UR(P:Params):BT:=N (hi 45 1 "row" "KindTable.row" sF 301 111) (N aj (N aK (N aj (L (ts 1929 [dA,"f","fref"])) E) (N (hb 815 812 D3 1502) (L aj) E)) (N (hd "call" 954 "Special.call" 367 4 427 961 962) (N (ts 1326 ["ev","act",rn,"lid"]) (L (hg 886 1208)) E) (N aj (L (hd "_law_kinds" 2577 "_law_kinds" 1168 1 1451 2583 2584)) E))) (N (di 4 [eS P sD 616 Eg 595,eI P sC 620 196 619,eR P sH 635 238,eR P sB 655 239,eR P sJ 657 242,eR P sK 659 243,e P sI 660 .none]) (N (⟨.type "type",none,(.cls ⟨z "Thrown", [.type "Exception"], [.ref 368, .type "Exception", .type "BaseException", .type "object"],367,z "Thrown",true, [], [],false,none,false⟩),a [some (.ref 352),none,some (s "Thrown" 835),some (s "Thrown" 843),some (.builtin "Exception.__new__"),some (.bool true)]⟩) (N aK (L aj) E) (N aj (L (hc 205 "_law_tried")) E)) (N (hi 103 0 "begin" "Begins.begin" sA 829 495) (N aj (L (ts 2233 [dA,"m","f","operand","k",lr,"maybe","thing"])) E) (L aK)))
def UQ(P:Params):BT:=N (hb 71 68 uk 194) (N (n7 "sort" 489) (N (hj 692 262) (N (ts 1088 [dA,"ev","k","mref"]) (L (hh 159 4 "skinds_of" "Tray.skinds_of")) E) (N aK (L aj) E)) (N aj (N (hc 111 "layout_in") (L (he 165 "stored" eB 1647 1159)) E) (N (hn "Frame" 904 903 1664) (L aj) E))) (N aj (N (hc 89 "tag_of") (N aj (L (hd "pop" 1952 "Tray.pop" 779 2 1091 1957 1958)) E) (N (ts 1568 [dA,"limit","card_bits"]) (L (he 199 "_law_value" sG 2301 1351)) E)) (N (di 4 [eS P sD 980 sA 829,eI P sC 984 369 983,eR P sH 994 454,eR P sB 998 455,eR P sJ 1000 458,eR P sK 1002 459,e P sI 1003 .none]) (N (hd "throw_item" 1349 "throw_item" 500 2 707 1357 1358) (L (ts 2169 ["m",lr,"k","maybe","thing","slots"])) E) (N aj (L aK) E)))
def UP:BT:=N (hd sH 433 "KindTable.__init__" 58 1 99 439 440) (N (he 51 "check_args" sF 301 167) (N aj (N (hi 105 1 "is_a" "Plot.is_a" sA 829 551) (L aK) E) (N (hd "words_for" 1510 "words_for" 626 1 803 1514 1515) (L (ts 2370 ["w","at"])) E)) (N (hh 100 0 sH "Special.__init__") (N aK (L aj) E) (N (hb 935 932 eB 1647) (L (hc 213 "_law_deed")) E))) (N aj (N aK (N aj (L (ts 2019 ["m","k","row"])) E) (N (hi 146 0 sH "PlaceHost.__init__" KC 1604 871) (L aj) E)) (N (ha "Begins" 1037 379 486 1040) (N (ts 1409 ["ev",rn,"k","item","one"]) (L jd) E) (L aj)))
def UO:BT:=N (hk 87) (N (hc 49 "check_kind_row") (N (hd "wrap_bits" 732 "wrap_bits" 249 2 275 737 738) (N (⟨.none,none,(.fields (a [.int 392 0, .int 4 0, .ref 544, .int 418 0, .int 4 0, .ref 551, .int 421 0, .int 4 0, .ref 558, .int 424 0, .int 4 0, .ref 565, .int 427 0, .int 4 0, .ref 572, .int 430 0, .int 4 0, .ref 579, .int 433 0, .int 4 0, .ref 586, .int 436 0, .int 4 0, .ref 593, .int 439 0, .int 4 0, .ref 600])),#[]⟩) (L (hi 159 6 "target" "Tray.target" eB 1647 1047)) E) (N aj (L (hc 188 "is_of")) E)) (N (hn "Item" 408 407 897) (N (he 113 "new_item" sA 829 663) (L aK) E) (N (hh 156 0 kQ "Op.run") (L (ts 2548 ["w","x"])) E))) (N (hd "is_var" 579 "is_var" 184 2 211 585 586) (N (he 91 "fits" z8 706 343) (N (hd "seen_as" 1185 "Plot.seen_as" 439 3 595 1191 1192) (L (ts 1979 ["by_number","calls","closer","defaults","frames","heap","held","inits","kin","kt","ops","places","rows","starter","state","statics","store","targets","thrown","told","unders"])) E) (N (hc 144 "heap_alloc") (L aK) E)) (N aj (N aj (L (hg 926 1248)) E) (L (hd "ref" 1812 "KindCloser.ref" 716 4 979 1819 1820))))
def UN(P:Params):BT:=N (ts 465 ["depths","index","opens","rows","weights"]) (N aK (N (ts 773 ["k","n"]) (N aK (L aj) E) (N (ts 1539 ["addr","gen","kind","serial","size","slots"]) (L (hc 197 "_law_plain")) E)) (N (hl 436) (N aj (L (hd kQ 2142 "OpBox.run" 886 4 1203 2149 2150)) E) (N aK (L (he 215 "_law_types" sG 2301 1463)) E))) (N (di 5 [eS P sD 670 Eg 595,eS P sE 672 "Store" 671,eI P sC 674 222 673,eR P sH 681 259,eR P sB 689 260]) (N (hg 350 384) (N (ts 1252 ["ev","act","e","nested","rule",lr]) (L (hc 163 "tell_wrong")) E) (N aj (L (hd "_law_op" 2474 "_law_op" 1066 4 1395 2485 2486)) E)) (N aj (N (hc 128 "is_composed") (L (hk 1271)) E) (L (ts 1863 [dA,"k"]))))
def UM(P:Params):BT:=N (boot_o_8 P) (N aK (N aj UU UT) (N (hb 47 44 uk 194) (US P) (UR P))) (N (di 5 [eS P sD 213 uk 194,eS P sE 215 "RuneError" 214,eI P sC 217 10 216,eR P sH 226 35,eR P sB 229 36]) (N (hk 38) (UQ P) UP) (N (di 4 [eS P sD 260 uk 194,eS P sE 262 "LoadFault" 261,eI P sC 264 17 263,eR P sB 265 61]) UO (UN P)))
def UL(P:Params):BT:=N (di 4 [eS P sD 276 uk 194,eS P sE 278 "RunBound" 277,eI P sC 280 19 279,eR P sB 281 73]) (N (hd "inner_kinds" 478 "inner_kinds" 105 1 127 483 484) (N (ts 682 ["asms","entry","fields_","kt","methods","names","types"]) (N (hd sH 1077 "Calls.__init__" 385 2 511 1082 1083) (L aj) E) (N (hc 130 "default_parts") (L aj) E)) (N (⟨.type "type",none,(.cls ⟨z "Unheld", [.type "Exception"], [.ref 388, .type "Exception", .type "BaseException", .type "object"],387,z "Unheld",true, [], [],false,none,false⟩),a [some (.ref 372),none,some (s "Unheld" 868),some (s "Unheld" 876),some (.builtin "Exception.__new__"),some (.bool true)]⟩) (N aj (L (ts 2056 ["m","k",lr,"slot_kind"])) E) (N (hd sH 1676 "Frame.__init__" 681 6 895 1685 1686) (L aj) E))) (N (he 55 "tid_of" sF 301 195) (N aj (N (hi 105 5 "asked" "Plot.asked" sA 829 579) (L aK) E) (N (ha "Heap" 1555 639 834 1558) (L (ts 2402 ["w",nl,"z","low","many","tag"])) E)) (N (hh 101 0 sH "Guard.__init__") (N aK (L (hd "boxed_thing" 2156 "boxed_thing" 890 3 1215 2163 2164)) E) (N (hl 960) (L (hc 217 "_law_settled")) E)))
def UK(P:Params):BT:=N aK (N (ts 521 ["kt","args","arg"]) (N aj (N (ts 1128 [dA,"exact","k"]) (L (hh 159 8 "plain" "Tray.plain")) E) (N aK (L (tu [.int 0 2338, .int 1 2339, .int (-1) 2341, .int 7 2342, .int 127 2343, .int 128 2344, .int 255 2345, .int 256 2346, .int 32767 2347, .int 32768 2348, .int 65535 2349, .int 2147483647 2350, .int 2147483648 2351, .int 4294967295 2352, .int 9223372036854775807 2353, .int 9223372036854775808 2354])) E)) (N aj (N (hc 115 "block_lids") (L (he 178 "holds_maybe" kR 2105 1187)) E) (N (di 7 [eS P sD 1748 eB 1647,eS P sE 1750 "Starter" 1749,eI P sC 1752 701 1751,eR P "need" 1762 943,eR P "done" 1771 950,eR P "failed" 1781 957,eR P sB 1782 958]) (L aj) E))) (N aj (N (hg 344 364) (N aj (L (hd "note_thrown" 2008 "note_thrown" 787 2 1119 2013 2014)) E) (N (ts 1621 [dA,"heap","frames","statics"]) (L (he 203 "_law_meant" sG 2301 1379)) E)) (N jd (N (hd "drop_guards" 1398 "drop_guards" 540 2 735 1403 1404) (L (hp "OpUnbox" 1252 1251 1236 2190)) E) (L aj)))
def UJ:BT:=N (hb 83 80 uk 194) (N aj (N aK (N aj (L (ts 1895 [dA,"exact","mref"])) E) (N (he 134 "box_value" "framerune.sourcebox" 1453 787) (L aj) E)) (N (hd sH 909 "Item.__init__" 354 4 399 916 917) (N (ts 1289 ["ev","kind","slots",rn]) (L (hc 174 "throw_null")) E) (N aj (L (hd "_law_write" 2533 "_law_write" 1122 3 1423 2542 2543)) E))) (N aK (N (ts 806 ["kt",lr,"k","tag"]) (N aK (L aj) E) (N aj (L (hc 201 "_law_tagged")) E)) (N (hb 467 464 sA 829) (N aj (L OO) E) (L aK)))
def UI:BT:=N aj (N (hc 53 "kind_sort") (N (hd "plain_default" 763 "plain_default" 269 1 303 767 768) (N (hh 105 3 D2 "Plot.closed_ref") (L (hi 159 10 D2 "Tray.closed_ref" eB 1647 1075)) E) (N aj (L aj) E)) (N (hn "Special" 436 435 934) (N (he 117 "lay_cells" sA 829 691) (L aK) E) (N (hh 157 1 "done" "Starter.done") (L (ts 2589 ["store","w","tid",nl,"sort"])) E))) (N (hk 241) (N PG (N (hd "next_number" 1242 "next_number" 451 1 623 1246 1247) (L aj) E) (N (hc 147 "heap_place") (L aK) E)) (N (ho 1058 499) (N aj (L (hi 185 0 kQ "OpUnboxAny.run" kR 2105 1267)) E) (L (hd "is_a" 1851 "Tray.is_a" 743 3 1007 1857 1858))))
def UH:BT:=N (hk 75) (N (he 47 "row_level" sF 301 139) (N aK (N (hi 104 1 "goal" "Calls.goal" sA 829 523) (L aK) E) (N (hd "put_value_at" 1457 "put_value_at" 579 2 775 1470 1471) (L (hl 1290)) E)) (N (hg 354 404) (N aK (L aj) E) (N (hl 904) (L (hc 209 "_law_place")) E))) (N aj (N aK (N aj (L (ts 1963 [dA,"tid","text"])) E) (N (hi 143 0 sH "Heap.__init__" D3 1502 843) (L aj) E)) (N (hk 457) (N (ts 1363 ["ev","guard",rn,"place","kind","lid","when","body"]) (L (he 182 "nullable_of" kR 2105 1227)) E) (N aj (L (hd "law" 2627 "law" 1241 1 1479 2633 2634)) E)))
def UG(P:Params):BT:=N (ts 445 [dA,"k"]) (N aj (N (hc 85 "plain_kind") (N aj (L (hd "closed" 1917 "Tray.closed" 767 3 1063 1923 1924)) E) (N (di 5 [eS P sD 1524 D3 1502,eS P sE 1526 "Thing" 1525,eI P sC 1528 630 1527,eR P sH 1538 823,eR P sB 1545 824]) (L (he 195 "_law_any" sG 2301 1323)) E)) (N aK (N (hd "begin_block" 1314 "begin_block" 486 3 679 1320 1321) (L OO) E) (N aj (L aK) E))) (N (hh 67 0 sH "TypeDef.__init__") (N (hd sH 847 "Thrown.__init__" 344 4 359 854 855) (N (hc 107 "go_deeper") (L (he 161 "told_row" eB 1647 1131)) E) (N (ho 1632 875) (L aj) E)) (N (ts 1050 [dA,"ev","owner","why"]) (N (he 125 "item_is" sA 829 747) (L (ha "OpUnboxAny" 2220 939 1258 2223)) E) (L (hh 159 0 sH "Tray.__init__"))))
def UF(P:Params):BT:=N aj (N aK (N (n7 "n" 743) (N aK (L aj) E) (N aj (L aK) E)) (N (hl 408) (N aj (L (hd "thing_of" 2096 "thing_of" 847 2 1175 2102 2103)) E) (N (di 4 [eS P sD 1718 eB 1647,eI P sC 1722 697 1721,eR P kQ 1732 922,eR P sB 1733 923,eR P sJ 1735 926,eR P sK 1737 927,e P sI 1738 .none]) (L (he 211 "_law_reference" sG 2301 1435)) E))) (N (n7 "k" 591) (N aj (N (hn "Plot" 604 603 1104) (L (hj 2003 1114)) E) (N jd (L (hd "_law_goes" 2434 "_law_goes" 1032 3 1367 2440 2441)) E)) (N aj (N (hc 123 "push_guard") (L aK) E) (L (hn "KindCloser" 988 987 1790))))
def UE(P:Params):BT:=N (hj 473 122) (N (hd "elem_of" 544 "elem_of" 161 2 183 550 551) (N (he 87 "cut_to" z8 706 315) (N (hd "first" 1152 "Plot.first" 427 2 567 1157 1158) (L aj) E) (N (hj 1548 826) (L aK) E)) (N aj (N aj (L (hp "OpBox" 1212 1211 1196 2130)) E) (N (hd "failed" 1772 "Starter.failed" 709 4 951 1779 1780) (L aj) E))) (N (hb 251 248 Eg 595) (N aK (N (he 109 "eval_expr" sA 829 635) (L aK) E) (N (hg 681 900) (L (ts 2491 ["w",nl,lr,"source","tagged","i"])) E)) (N (⟨.none,none,(.fields (a [.int 385 0, .int 4 0, .ref 516, .int 388 0, .int 4 0, .ref 523])),#[]⟩) (N aK (L (di 5 [eS P sD 2255 kR 2105,eS P sE 2257 "OpToken" 2256,eI P sC 2259 957 2258,eR P kQ 2269 1287,eR P sB 2270 1288])) E) (L (hi 159 2 "slots_of" "Tray.slots_of" eB 1647 1019))))
def UD:BT:=N OS (N aj (N (hd sH 675 "Store.__init__" 224 1 253 679 680) (N aj (L (hd "kinds_of" 1868 "Tray.kinds_of" 749 2 1021 1873 1874)) E) (N aj (L aK) E)) (N (n7 "item" 888) (N (hd "kind_in" 1261 "kind_in" 463 3 637 1267 1268) (L aj) E) (N aj (L aK) E))) (N (hc 55 "tid_of") (N (hd "store_as" 778 "store_as" 289 3 317 785 786) (N (hh 105 5 "asked" "Plot.asked") (L (hi 159 12 "wrong" "Tray.wrong" eB 1647 1089)) E) (N aj (L aj) E)) (N (ts 988 [dA,rn,"rows","act"]) (N (he 119 "throw_nothing" sA 829 705) (L aj) E) (N (hj 1785 960) (L (ts 2615 ["w","ev","m","i",nl,"item","thing","addr",lr])) E)))
def UC(P:Params):BT:=N (hb 97 94 sF 301) (N aj (N aK (N aj (L (ts 1912 [dA,"k"])) E) (N (he 136 "from_reference" "framerune.sourcebox" 1453 801) (L (ts 2303 ["i4","e","u4","f","s","g","h","?i4","?e","?s","?u1","?h","o","a","i","t","bool","u1","i1","char","u2","i2","i8","u8","nint"])) E)) (N (ha "Special" 936 362 416 939) (N (ts 1306 ["ev","fnid",rn,"var","key"]) (L (hc 178 "holds_maybe")) E) (N aj (L (hd "_law_aim" 2553 "_law_aim" 1139 3 1437 2562 2563)) E))) (N jd (N (di 5 [eS P sD 842 sA 829,eS P sE 844 "Thrown" 843,eI P sC 846 342 845,eR P sH 856 365,eR P sB 860 366]) (N aK (L aj) E) (N aj (L (hc 203 "_law_meant")) E)) (N (hl 478) (N aj (L aj) E) (L jd)))
def UB:BT:=N aK (N (hd "row_length" 493 "row_length" 118 1 141 497 498) (N (tu [.int 4 724, .int 0 725]) (N (hk 527) (L aj) E) (N (hc 134 "box_value") (L (hd "install_m_objects" 2274 "install_m_objects" 962 1 1293 2278 2279)) E)) (N aj (N aj (L (n7 "m" 2092)) E) (N (ha "Op" 1713 697 912 1716) (L aj) E))) (N (he 57 "is_value" sF 301 209) (N aj (N (hi 105 7 "type_item" "Plot.type_item" sA 829 593) (L aK) E) (N (hk 847) (L (ts 2423 ["w",nl,lr,"kind","flag","content","tag","whole"])) E)) (N (hg 377 474) (N aK (L (hd "unbox_cell" 2178 "unbox_cell" 914 3 1229 2187 2188)) E) (L (hi 158 0 "kind" "KindCloser.kind" eB 1647 977))))
def UA(P:Params):BT:=N aK (N (ts 539 ["kt","k"]) (N aj (N (ts 1146 [dA,"act","mref"]) (L (hh 159 10 D2 "Tray.closed_ref")) E) (N aK (L (hd "_law_refers" 2375 "_law_refers" 991 1 1325 2379 2380)) E)) (N (n7 "kinds" 964) (N (hc 117 "lay_cells") (L (hb 1201 1198 kR 2105)) E) (N (ts 1766 [dA,"m","kind"]) (L aj) E))) (N (ho 656 241) (N (hk 368) (N aj (L (hd "told_default" 2025 "told_default" 796 2 1133 2031 2032)) E) (N (ts 1642 ["thing","slot"]) (L (he 205 "_law_tried" sG 2301 1393)) E)) (N (di 4 [eS P sD 1042 sA 829,eI P sC 1046 379 1045,eR P "begin" 1056 496,eR P sB 1057 497,eR P sJ 1059 500,eR P sK 1061 501,e P sI 1062 .none]) (N (hd "is_struct" 1419 "is_struct" 552 2 749 1424 1425) (L (hh 185 0 kQ "OpUnboxAny.run")) E) (L aj)))
def Uz(P:Params):BT:=N (di 2 [eS P sD 276 uk 194,eI P sC 280 19 279,eR P sB 281 73,e P sI 282 .none]) (N (hc 47 "row_level") (N (hl 262) (N (hh 104 1 "goal" "Calls.goal") (L (hi 159 4 "skinds_of" "Tray.skinds_of" eB 1647 1033)) E) (N aj (L (hp "OpToken" 1290 1289 1274 2248)) E)) (N (di 5 [eS P sD 904 sA 829,eS P sE 906 "Item" 905,eI P sC 908 352 907,eR P sH 918 405,eR P sB 926 406]) (N (he 111 "layout_in" sA 829 649) (L aK) E) (N (hj 1706 904) (L (ts 2518 ["w",nl,"i","z","m","due",lr,"addr","told","got","thrown","put"])) E))) (N (hd "args_of" 562 "args_of" 175 2 197 568 569) (N (he 89 "tag_of" z8 706 329) (N (hd "error" 1168 "Plot.error" 433 3 581 1174 1175) (L aj) E) (N (hh 143 0 sH "Heap.__init__") (L aK) E)) (N (ho 999 457) (N aj (L (hc 182 "nullable_of")) E) (N (ha "KindCloser" 1792 711 968 1795) (L aj) E)))
def Uy(P:Params):BT:=N aj (N aK (N (ts 757 ["store","k","t"]) (N aK (L aj) E) (N aj (L (hc 195 "_law_any")) E)) (N (hi 100 0 sH "Special.__init__" sA 829 425) (N aj (L (hd "box_at" 2117 "box_at" 862 4 1189 2127 2128)) E) (N aK (L (he 213 "_law_deed" sG 2301 1449)) E))) (N (ts 624 [dA,"tid",nl,"sort","flags","base","params","asm","word"]) (N aj (N (ts 1236 ["ev","frames","nested"]) (L (hc 161 "told_row")) E) (N (di 4 [eS P sD 1613 KC 1604,eI P sC 1617 664 1616,eR P sH 1627 872,eR P sB 1631 873,eR P sJ 1633 876,eR P sK 1635 877,e P sI 1636 .none]) (L (hd "_law_boxing" 2453 "_law_boxing" 1047 3 1381 2459 2460)) E)) (N aj (N (hc 125 "item_is") (L aj) E) (L (ts 1845 [dA,"store","heap"]))))
def Ux:BT:=N (⟨.type "dict",none,(.dict (a [⟨0, .int 0 303, .int 20 361⟩,⟨1, .int 1 305, .int 9 362⟩,⟨2, .int 2 307, .int 10 363⟩,⟨3, .int 3 309, .int 11 364⟩,⟨4, .int 4 311, .int 12 365⟩,⟨5, .int 5 313, .int 13 366⟩,⟨6, .int 6 315, .int 14 367⟩,⟨7, .int 7 317, .int 15 368⟩,⟨8, .int 8 319, .int 16 369⟩,⟨9, .int 9 321, .int 17 370⟩,⟨10, .int 10 323, .int 18 371⟩,⟨11, .int 11 325, .int 19 372⟩,⟨12, .int 12 327, .int 1 373⟩,⟨13, .int 13 329, .int 4 374⟩]) 14),#[]⟩) (N (he 49 "check_kind_row" sF 301 153) (N aj (N (hb 537 534 sA 829) (L aK) E) (N (hd "unbox_value" 1482 "unbox_value" 600 3 789 1490 1491) (L (he 188 "is_of" kR 2105 1305)) E)) (N (hj 929 408) (N aK (L aj) E) (N (hi 156 0 kQ "Op.run" eB 1647 921) (L (hc 211 "_law_reference")) E))) (N aj (N aK (N (ts 1194 ["begins","blocks","calls","core","cut_bodies","cuts","depth","exprs","guards","kin","kt","most","nested","places","serial","splits","starts","steps","stmts","store","targets","texts","things","unit"]) (L (hn "Tray" 1114 1113 1830)) E) (N (he 144 "heap_alloc" D3 1502 857) (L aj) E)) (N (hd "ready" 1018 "Splits.ready" 377 3 469 1024 1025) (N (ts 1391 ["ev","rows","act","before"]) (L (hb 1241 1238 kR 2105)) E) (L aj)))
def Uw(P:Params):BT:=N (hn "KindTable" 122 121 421) (N aj (N (hc 87 "cut_to") (N aj (L (hd "alloc" 1935 "Tray.alloc" 773 3 1077 1941 1942)) E) (N (hn "Thing" 826 825 1517) (L (he 197 "_law_plain" sG 2301 1337)) E)) (N jd (N (hd D1 1333 D1 496 3 693 1339 1340) (L aj) E) (N aj (L aK) E))) (N (hg 224 258) (N (hb 377 374 sA 829) (N (hc 109 "eval_expr") (L (he 163 "tell_wrong" eB 1647 1145)) E) (N (di 5 [eS P sD 1671 eB 1647,eS P sE 1673 "Frame" 1672,eI P sC 1675 679 1674,eR P sH 1687 901,eR P sB 1703 902]) (L aj) E)) (N (di 6 [eS P sD 1072 sA 829,eS P sE 1074 "Calls" 1073,eI P sC 1076 383 1075,eR P sH 1084 517,eR P "goal" 1094 524,eR P sB 1096 525]) (N (he 128 "is_composed" "framerune.sourcebed" 1417 761) (L OO) E) (L (hh 159 2 "slots_of" "Tray.slots_of"))))
def Uv(P:Params):BT:=N (boot_o_10 P) (N aj (N (hd sH 218 "RuneError.__init__" 12 3 29 224 225) UD (UC P)) (N (di 2 [eS P sD 244 uk 194,eI P sC 248 15 247,eR P sB 249 49,e P sI 250 .none]) UB (UA P))) (N (hg 12 34) (N OS (Uz P) (Uy P)) (N aK Ux (Uw P)))
def Uu:BT:=N aK (N aj (N (hn "Store" 262 261 663) (N aj (L (ts 1879 [dA,"k"])) E) (N (he 130 "default_parts" "framerune.sourcebed" 1417 773) (L (hd kQ 2260 "OpToken.run" 959 4 1281 2267 2268)) E)) (N (hk 388) (N (ts 1273 ["ev","k"]) (L (hc 165 "stored")) E) (N (ts 1688 ["args","body","caught","caughtv","conts","extra","home","ip","keep","locals_","mref",rn,"prefix","sort","stack"]) (L (hd "_law_open" 2500 "_law_open" 1087 3 1409 2512 2513)) E))) (N aK (N (ts 791 ["kt","k"]) (N aK (L aj) E) (N aj (L (hc 199 "_law_value")) E)) (N (hi 101 0 sH "Guard.__init__" sA 829 453) (N aj (L aj) E) (N jd (L (he 217 "_law_settled" sG 2301 1477)) E)))
def Ut:BT:=N aj (N (hc 51 "check_args") (N (hd "wrap64" 747 "wrap64" 256 1 289 751 752) (N (hh 105 1 "is_a" "Plot.is_a") (L (hi 159 8 "plain" "Tray.plain" eB 1647 1061)) E) (N aj (L aj) E)) (N (ts 949 [dA,"kinds"]) (N (he 115 "block_lids" sA 829 677) (L aK) E) (N (⟨.none,none,(.fields (a [.int 703 0, .int 4 0, .ref 942, .int 706 0, .int 4 0, .ref 949, .int 709 0, .int 4 0, .ref 956])),#[]⟩) (L (ts 2568 ["w","o","x","y",nl,"i"])) E))) (N (ha "TypeDef" 611 196 228 614) (N (hb 357 354 sA 829) (N (hd "count_step" 1226 "count_step" 441 1 609 1230 1231) (L aj) E) (N (hh 146 0 sH "PlaceHost.__init__") (L aK) E)) (N aj (N aj (L (hl 1252)) E) (L (ha "Tray" 1832 718 996 1835))))
def Us(P:Params):BT:=N (di 2 [eS P sD 292 uk 194,eI P sC 296 21 295,eR P sB 297 85,e P sI 298 .none]) (N (ts 503 ["kt","row","sort","inner"]) (N aj (N (di 13 [eS P sD 1111 sA 829,eS P sE 1113 "Plot" 1112,eI P sC 1115 390 1114,eR P sH 1124 545,eR P "is_a" 1133 552,eR P "closed" 1142 559,eR P D2 1151 566,eR P "first" 1159 573,eR P "asked" 1167 580,eR P "error" 1176 587,eR P "type_item" 1184 594,eR P "seen_as" 1193 601,eR P sB 1218 602]) (L (hh 159 6 "target" "Tray.target")) E) (N aK (L (ts 2284 ["m",lr,"k","thing"])) E)) (N (ts 919 ["kind",rn,"rows","slots","special","text","version"]) (N (hc 113 "new_item") (L (he 174 "throw_null" "framerune.mfield" 2087 1173)) E) (N (ts 1726 [dA,"m","f","operand"]) (L aj) E))) (N aj (N (hc 91 "fits") (N aj (L (hd "push_call" 1969 "Tray.push_call" 785 4 1105 1976 1977)) E) (N (ts 1597 ["heap","kind","slots","thing"]) (L (he 201 "_law_tagged" sG 2301 1365)) E)) (N aK (N (hd "when_says" 1374 "when_says" 524 5 721 1385 1386) (L (di 5 [eS P sD 2197 kR 2105,eS P sE 2199 "OpUnbox" 2198,eI P sC 2201 924 2200,eR P kQ 2213 1249,eR P sB 2214 1250])) E) (L aj)))
def u64(P:Params):BT:=N (hd "put" 450 "KindTable.put" 77 2 113 462 463) (N (he 53 "kind_sort" sF 301 181) (N aj (N (hi 105 3 D2 "Plot.closed_ref" sA 829 565) (L aK) E) (N (hd sH 1529 "Thing.__init__" 632 4 817 1536 1537) (L (ts 2385 ["w",nl])) E)) (N (hj 968 436) (N aK (L aj) E) (N (hi 157 1 "done" "Starter.done" eB 1647 949) (L (hc 215 "_law_types")) E))) (N aj (N (di 5 [eS P sD 875 sA 829,eS P sE 877 "Unheld" 876,eI P sC 879 348 878,eR P sH 887 385,eR P sB 889 386]) (N aj (L (ts 2037 ["m","code","mid","ip","f"])) E) (N (he 147 "heap_place" KC 1604 885) (L aj) E)) (N (hk 499) (N (ts 1430 ["ev","k"]) (L (di 2 [eS P sD 2225 kR 2105,eI P sC 2229 939 2228,eR P kQ 2243 1268,eR P sB 2244 1269,e P sI 2245 .none])) E) (L aj)))
def Ur(P:Params):BT:=N OS (N aK (N aj (N (di 4 [eS P sD 1072 sA 829,eI P sC 1076 383 1075,eR P sH 1084 517,eR P "goal" 1094 524,eR P sB 1096 525,eR P sJ 1098 528,eR P sK 1100 529,e P sI 1101 .none]) (L aj) E) (N aj (L aK) E)) (N (hb 397 394 sA 829) (N aj (L (hd "first_slots" 2063 "first_slots" 823 3 1161 2072 2073)) E) (N jd (L (he 209 "_law_place" sG 2301 1421)) E))) (N (ts 574 ["kt","k"]) (N aj (N (ts 1180 [dA,"k"]) (L (hh 159 14 D1 "Tray.throw_new")) E) (N (di 4 [eS P sD 1560 D3 1502,eI P sC 1564 639 1563,eR P sH 1573 844,eR P sB 1586 845,eR P sJ 1588 848,eR P sK 1590 849,e P sI 1591 .none]) (L (hd "_law_source" 2411 "_law_source" 1009 3 1353 2417 2418)) E)) (N aj (N (hc 121 "row_taking") (L aK) E) (L (ts 1805 [dA,"m","f","k"]))))
def Uq(P:Params):BT:=N (hh 45 1 "row" "KindTable.row") (N (hd "may_stand" 527 "may_stand" 154 2 169 533 534) (N (he 85 "plain_kind" z8 706 301) (N (hd "closed" 1134 "Plot.closed" 421 3 553 1140 1141) (L aj) E) (N (hg 632 822) (L aK) E)) (N aj (N aj (L (di 5 [eS P sD 2137 kR 2105,eS P sE 2139 "OpBox" 2138,eI P sC 2141 884 2140,eR P kQ 2151 1209,eR P sB 2152 1210])) E) (N (hd "need" 1753 "Starter.need" 703 4 937 1760 1761) (L aj) E))) (N (hi 67 0 sH "TypeDef.__init__" Eg 595 237) (N (ts 857 ["goal","item","row"]) (N (he 107 "go_deeper" sA 829 621) (L aK) E) (N (hk 875) (L (ts 2465 ["w",nl,"i","ev","k","left"])) E)) (N (hh 103 0 "begin" "Begins.begin") (N aK (L aj) E) (L (hi 159 0 sH "Tray.__init__" eB 1647 1005))))
def Up(P:Params):BT:=N (di 7 [eS P sD 428 sF 301,eS P sE 430 "KindTable" 429,eI P sC 432 56 431,eR P sH 441 105,eR P "row" 449 112,eR P "put" 464 119,eR P sB 470 120]) (N aj (N (hc 83 "wrap32") (N aj (L (hd "default" 1901 "Tray.default" 761 2 1049 1906 1907)) E) (N (ts 1496 ["ev","k",rn]) (L aj) E)) (N jd (N (hd "block_number" 1296 "block_number" 473 1 665 1300 1301) (L aj) E) (N (ho 1734 925) (L aK) E))) (N (hc 59 "is_int") (N (hd "put_path" 813 "put_path" 326 3 345 824 825) (N (hj 1221 604) (L (hl 1114)) E) (N aj (L aj) E)) (N (hn "Splits" 478 477 1006) (N (he 123 "push_guard" sA 829 733) (L aj) E) (L (hj 1825 988))))
def Uo:BT:=N (hl 122) (N aj (N aK (N aj (L (ts 1947 [dA,"code"])) E) (N (hl 826) (L aj) E)) (N (ha "Guard" 975 369 444 978) (N (n7 "ev" 1345) (L (hl 1212)) E) (N aj (L (hd "_law_world" 2597 "_law_world" 1187 1 1465 2609 2610)) E))) (N aK (N aj (N aK (L aj) E) (N (hb 893 890 eB 1647) (L (hc 207 "_law_box")) E)) (N (hb 509 506 sA 829) (N aj (L (hg 959 1286)) E) (L aK)))
def Un(P:Params):BT:=N PI (N PG (N (⟨.type "type",none,(.cls ⟨z "RuneError", [.type "Exception"], [.ref 38, .type "Exception", .type "BaseException", .type "object"],37,z "RuneError",true, [], [.ref 51, .ref 63, .ref 75, .ref 87],false,none,false⟩),a [some (.ref 22),none,some (s "RuneError" 206),some (s "RuneError" 214),some (.builtin "Exception.__new__"),some (.bool true)]⟩) Uu Ut) (N OS (Us P) (u64 P))) (N aK (N aK (Ur P) (Uq P)) (N (di 2 [eS P sD 260 uk 194,eI P sC 264 17 263,eR P sB 265 61,e P sI 266 .none]) (Up P) Uo))
def tq(P:Params)(n:Nat)(x y z v:Obj):BT:=pr (N (boot_o_0 P) (N (boot_o_1 P) (N y (u9 P) (Vb P)) (N (boot_o_5 P) (U2 P) (N PJ (N (he 0 "_wall" "__main__" 164 20) (N (di 3 [eS P sD 213 uk 194,eI P sC 217 10 216,eR P sH 226 35,eR P sB 229 36,eR P sK 231 39,e P sI 232 .none]) (U1 P) (U0 P)) (N (hl 51) UZ UY)) (N aj (N aj UX UW) (N aj (N jd (N (ts 513 ["kt","row"]) (N aj (N (ts 1119 [dA,"unit","most"]) (L (hh 159 7 "default" "Tray.default")) E) (N aK (L (ts 2294 ["m","f","k",lr])) E)) (N aj (N (hc 114 "block_number") (L (he 175 "thing_of" "framerune.mfield" 2087 1180)) E) (N v (L aj) E))) (N aj (N (hc 92 "put_path") (N (ho 1219 604) (L (hk 1114)) E) (N (di 5 [eS P sD 1613 KC 1604,eS P sE 1615 "PlaceHost" 1614,eI P sC 1617 664 1616,eR P sH 1627 872,eR P sB 1631 873]) (L (he 202 "_law_goes" sG 2301 1372)) E)) (N (di 4 [eS P sD 1013 sA 829,eI P sC 1017 375 1016,eR P "ready" 1026 475,eR P sB 1027 476,eR P sJ 1029 479,eR P sK 1031 480,e P sI 1032 .none]) (N (hd "push_guard" 1388 "push_guard" 536 3 728 1395 1396) (L (ts 2205 [dA,"m","f","operand","k","thing"])) E) (L (ho 1823 988))))) UV))))) (N x (N (boot_o_4 P) (UM P) (N z (N (hd "_wall" 187 "_wall" 1 1 15 191 192) (N (ts 227 ["at","code"]) (UL P) (UK P)) (N (hk 51) UJ UI)) (N (hb 27 24 uk 194) (N (di 4 [eS P sD 244 uk 194,eS P sE 246 "BadKind" 245,eI P sC 248 15 247,eR P sB 249 49]) UH (UG P)) (N (hb 59 56 uk 194) (UF P) (UE P))))) (N (boot_o_6 P) (Uv P) (Un P)))) n
def cr(a n:Nat):List Stmt:=(List.range' a n).map cl
def t1(P:Params):BT:=tq P 90 (OR P) (⟨.type "dict",none,(.dict (a (eS P "__name__" 165 sF 301::HW P)) 49),#[]⟩) PH H8
def S1(w:World)(os:OsState):SharedT:=⟨t1 w.params,90,{},⟨[]⟩,{},361,os⟩
def g1:List Stmt:=cr 0 42
theorem q1:∀w:World,(λos=>segRunT treeTable pw w 11 an 1 1436 (S0 w os) (piecesOf g1 en cE ⟨0,0,0,0⟩ bB))=λos=>some (.next,S1 w os,cE,⟨52,0,52,13⟩):=by intro w;rewrite [Yw,Ys];kernel_rfl
def t2(P:Params):BT:=tq P 91 (OR P) (⟨.type "dict",none,(.dict (a (eS P "__name__" 165 sF 301::HV P)) 50),#[]⟩) PH H8
def S2(w:World)(os:OsState):SharedT:=⟨t2 w.params,91,{},⟨[]⟩,{},390,os⟩
def g2:List Stmt:= [cl 42]
theorem q2:∀w:World,(λos=>segRunT treeTable pw w 11 an 1 207 (S1 w os) (piecesOf g2 en cE ⟨52,0,52,13⟩ bB))=λos=>some (.next,S2 w os,cE,⟨53,0,53,8⟩):=byRow2 "special-get-raises" (by intro w;rewrite [Yw,Ys];kernel_rfl) (by intro w;rewrite [Yw,Ys];kernel_rfl)
def t3(P:Params):BT:=tq P 92 (OR P) (⟨.type "dict",none,(.dict (a (eS P "__name__" 165 sF 301::HU P)) 51),#[]⟩) PH H8
def S3(w:World)(os:OsState):SharedT:=⟨t3 w.params,92,{},⟨[]⟩,{},419,os⟩
def g3:List Stmt:= [cl 43]
theorem q3:∀w:World,(λos=>segRunT treeTable pw w 11 an 1 207 (S2 w os) (piecesOf g3 en cE ⟨53,0,53,8⟩ bB))=λos=>some (.next,S3 w os,cE,⟨54,0,54,8⟩):=byRow2 "special-get-raises" (by intro w;rewrite [Yw,Ys];kernel_rfl) (by intro w;rewrite [Yw,Ys];kernel_rfl)
def t4(P:Params):BT:=tq P 352 (OR P) (⟨.type "dict",none,(.dict (a (eS P "__name__" 165 sA 829::HT P)) 101),#[]⟩) (⟨.none,none,(.fields (a (.int 1 0::Cq))),#[]⟩) H8
def S4(w:World)(os:OsState):SharedT:=⟨t4 w.params,352,{},⟨[]⟩,{},835,os⟩
def g4:List Stmt:=cr 44 53
theorem q4:∀w:World,(λos=>segRunT treeTable pw w 11 an 1 1790 (S3 w os) (piecesOf g4 en cE ⟨54,0,54,8⟩ bB))=λos=>some (.next,S4 w os,cE,⟨341,0,341,8⟩):=by intro w;rewrite [Yw,Ys];kernel_rfl
def t5(P:Params):BT:=tq P 532 (Lb P) (⟨.type "dict",none,(.dict (a (eS P "__name__" 165 sA 829::HS P)) 109),#[]⟩) (⟨.none,none,(.fields (a (.int 1 0::Cp))),#[]⟩) H8
def S5(w:World)(os:OsState):SharedT:=⟨t5 w.params,532,{},⟨[]⟩,{},1104,os⟩
def g5:List Stmt:=cr 97 8
theorem q5:∀w:World,(λos=>segRunT treeTable pw w 11 an 1 1874 (S4 w os) (piecesOf g5 en cE ⟨341,0,341,8⟩ bB))=λos=>some (.next,S5 w os,cE,⟨383,0,389,48⟩):=by intro w;rewrite [Yw,Ys];kernel_rfl
def t6(P:Params):BT:=tq P 859 (Lb P) (⟨.type "dict",none,(.dict (a (eS P "__name__" 165 KC 1604::HR P)) 146),#[]⟩) (⟨.none,none,(.fields (a (.int 1 0::Co))),#[]⟩) H8
def S6(w:World)(os:OsState):SharedT:=⟨t6 w.params,859,{},⟨[]⟩,{},1606,os⟩
def g6:List Stmt:=cr 105 41
theorem q6:∀w:World,(λos=>segRunT treeTable pw w 11 an 1 1988 (S5 w os) (piecesOf g6 en cE ⟨383,0,389,48⟩ bB))=λos=>some (.next,S6 w os,cE,⟨663,0,663,8⟩):=by intro w;rewrite [Yw,Ys];kernel_rfl
def t7(P:Params):BT:=tq P 993 (Lb P) (⟨.type "dict",none,(.dict (a (eS P "__name__" 165 eB 1647::HQ P)) 158),#[]⟩) (⟨.none,none,(.fields (a (.int 1 0::Cn))),#[]⟩) (hn "Op" 925 924 1711)
def S7(w:World)(os:OsState):SharedT:=⟨t7 w.params,993,{},⟨[]⟩,{},1830,os⟩
def g7:List Stmt:=cr 146 13
theorem q7:∀w:World,(λos=>segRunT treeTable pw w 11 an 1 1343 (S6 w os) (piecesOf g7 en cE ⟨663,0,663,8⟩ bB))=λos=>some (.next,S7 w os,cE,⟨711,0,717,19⟩):=by intro w;rewrite [Yw,Ys];kernel_rfl
def t8(P:Params):BT:=tq P 1255 (Lb P) (⟨.type "dict",none,(.dict (a (eS P "__name__" 165 kR 2105::HP P)) 182),#[]⟩) (⟨.none,none,(.fields (a (.int 1 0::Cm))),#[]⟩) (⟨.type "type",none,(.cls ⟨z "Op", [.type "object"], [.ref 925, .type "object"],924,z "Op",true, [], [.ref 1212, .ref 1252],false,none,false⟩),a [none,none,some (s "Op" 1711),some (s "Op" 1719),some (.builtin "object.__new__"),some (.bool true)]⟩)
def S8(w:World)(os:OsState):SharedT:=⟨t8 w.params,1255,{},⟨[]⟩,{},2218,os⟩
def g8:List Stmt:=cr 159 26
theorem q8:∀w:World,(λos=>segRunT treeTable pw w 11 an 1 1753 (S7 w os) (piecesOf g8 en cE ⟨711,0,717,19⟩ bB))=λos=>some (.next,S8 w os,cE,⟨924,0,938,22⟩):=by intro w;rewrite [Yw,Ys];kernel_rfl
def t9(P:Params):BT:=tq P 1486 (Lb P) (⟨.type "dict",none,(.dict (a (eS P "__name__" 165 sG 2301::Kw P)) 215),#[]⟩) (⟨.none,none,(.fields (a (.int 1 0::GA))),#[]⟩) H8
def S9(w:World)(os:OsState):SharedT:=⟨t9 w.params,1486,{},⟨[]⟩,{},2636,os⟩
def g9:List Stmt:=cr 185 34
theorem q9:∀w:World,(λos=>segRunT treeTable pw w 11 an 1 1500 (S8 w os) (piecesOf g9 en cE ⟨924,0,938,22⟩ bB))=λos=>some (.next,S9 w os,cE,⟨1241,0,1249,26⟩):=by intro w;rewrite [Yw,Ys];kernel_rfl
end Hd
end Head
end Mine
end
section
namespace Mine
section Head
open PySem PySem.W PyProof.Rows PySem.Calls
namespace Hd
def H1(P:Params):Heap:=absHeap (t9 P) 1486 {}
def Sf(w:World)(os:OsState):Shared:=⟨H1 w.params,⟨[]⟩,{},2636,os⟩
theorem pre:∀w:World,(λos=>topGo treeTable pw w 11 an 12 ⟨boot_heap w.params,⟨[]⟩,boot_drawn,boot_toks,os⟩ (topStub pw))=λos=>some (Sa w os,⟨denote treeTable cE,cE,⟨0,0,0,0⟩,bB⟩):=by intro w;rewrite [PySem.W.Fast.te15667345088766844465,Ys,PySem.W.Fast.te11892475500146522536];kernel_rfl
theorem Xj:∀w:World,(λos=>segRun treeTable pw w 11 an 1 1 (Sa w os) (blockOf (behindTheImports pw) en cE ⟨0,0,0,0⟩ bB))=λos=>some (.next,(S0 w os).abs,cE,⟨0,0,0,0⟩):=by intro w;rewrite [PySem.W.Fast.te14374325043358763698,Ys];kernel_rfl
theorem Ea:∀w:World,(λos=>topRun treeTable pw w 11 an 2 (S9 w os).abs ⟨doneF .next,cE,⟨1241,0,1249,26⟩,bB⟩)=λos=>some (Sf w os):=by intro w;rewrite [PySem.W.Fast.te14082659384304107361,Ys];kernel_rfl
theorem Go:behindTheImports pw=(g1++(g2++(g3++(g4++(g5++(g6++(g7++(g8++(g9++ []))))))))):=by kernel_rfl
theorem QY(w:World)(os:OsState):topRun treeTable pw w 11 an (1436+(207+(207+(1790+(1874+(1988+(1343+(1753+(1500+2))))))))) (S0 w os).abs (restOf (g1++(g2++(g3++(g4++(g5++(g6++(g7++(g8++(g9++ []))))))))) en cE ⟨0,0,0,0⟩ bB)=some (Sf w os):=
 Z4 (Z3 (ZB (q1 w) os)) (Z4 (Z3 (ZB (q2 w) os)) (Z4 (Z3 (ZB (q3 w) os)) (Z4 (Z3 (ZB (q4 w) os)) (Z4 (Z3 (ZB (q5 w) os)) (Z4 (Z3 (ZB (q6 w) os)) (Z4 (Z3 (ZB (q7 w) os)) (Z4 (Z3 (ZB (q8 w) os)) (Z4 (Z3 (ZB (q9 w) os)) (ZB (Ea w) os)))))))))
theorem QX(w:World)(os:OsState):topRun treeTable pw w 11 an (1436+(207+(207+(1790+(1874+(1988+(1343+(1753+(1500+2))))))))) (S0 w os).abs (restOf (behindTheImports pw) en cE ⟨0,0,0,0⟩ bB)=some (Sf w os):=
 (Yd (λb=>topRun treeTable pw w 11 an (1436+(207+(207+(1790+(1874+(1988+(1343+(1753+(1500+2))))))))) (S0 w os).abs (restOf b en cE ⟨0,0,0,0⟩ bB)) Go).trans (QY w os)
theorem run(w:World)(os:OsState):topRun treeTable pw w 11 an (12+(1+(1436+(207+(207+(1790+(1874+(1988+(1343+(1753+(1500+2))))))))))) ⟨boot_heap w.params,⟨[]⟩,boot_drawn,boot_toks,os⟩ (topStub pw)=some (Sf w os):=
 go_top (ZB (pre w) os) (piece_block (ZB (Xj w) os) (QX w os))
noncomputable def Ka:List Nat:= [3,20,21,34,35,37,38,50,51,62,63,74,75,86,87,90,91,104,105,111,112,118,119,121,122,132,133,139,140,146,147,153,154,160,161,167,168,174,175,181,182,188,189,195,196,202,203,209,210,216,217,223,224,237,238,240,241,258,259,261,262,272,273,274,280,281,287,288,294,295,301,302,308,309,315,316,322,323,329,330,336,337,343,344,350,351,364,365,367,368,384,385,387,388,404,405,407,408,425,426,432,433,435,436,453,454,456,457,474,475,477,478,495,496,498,499,516,517,523,524,526,527,544,545,551,552,558,559,565,566,572,573,579,580,586,587,593,594,600,601,603,604,614,615,621,622,628,629,635,636,642,643,649,650,656,657,663,664,670,671,677,678,684,685,691,692,698,699,705,706,712,713,719,720,726,727,733,734,740,741,747,748,754,755,761,762,768,769,773,774,780,781,787,788,794,795,801,802,808,809,822,823,825,826,843,844,846,847,857,858,871,872,874,875,885,886,887,900,901,903,904,921,922,924,925,942,943,949,950,956,957,959,960,977,978,984,985,987,988,1005,1006,1012,1013,1019,1020,1026,1027,1033,1034,1040,1041,1047,1048,1054,1055,1061,1062,1068,1069,1075,1076,1082,1083,1089,1090,1096,1097,1103,1104,1110,1111,1113,1114,1124,1125,1131,1132,1138,1139,1145,1146,1152,1153,1159,1160,1166,1167,1173,1174,1180,1181,1187,1188,1194,1195,1208,1209,1211,1212,1220,1221,1227,1228,1234,1235,1248,1249,1251,1252,1267,1268,1270,1271,1286,1287,1289,1290,1298,1299,1305,1306,1312,1313,1314,1315,1316,1317,1323,1324,1330,1331,1337,1338,1344,1345,1351,1352,1358,1359,1365,1366,1372,1373,1379,1380,1386,1387,1393,1394,1400,1401,1407,1408,1414,1415,1421,1422,1428,1429,1435,1436,1442,1443,1449,1450,1456,1457,1463,1464,1470,1471,1477,1478,1484,1485]
def Kf(P:Params):Frag:=Ka.map λa=>(a,((t9 P).get a).getD default)
def ls:List Str:= [z "_wall",z "LF_NOTYPE",z "LF_ENUM",z "W_SLOT",z "W_EMPTY",z "W_KIND",z "RuneError",z "BadKind",z "LoadFault",z "RunBound",z "LeftOut",z "VOID",z "BOOL",z "CHAR",z "I1",z "U1",z "I2",z "U2",z "I4",z "U4",z "I8",z "U8",z "NINT",z "OBJECT",z "STRING",z "NULLK",z "PRIM_END",z "R_PRIM",z "R_CLASS",z "R_VALUE",z "R_ARRAY",z "R_BYREF",z "R_VAR",z "R_MVAR",z "R_BOXED",z "R_ROREF",z "R_FTN",z "R_RAW",z "DEEPEST_KIND",z "HEAVIEST_KIND",z "PRIM_TID",z "TID_PRIM",z "ARRAY_TID",z "KindTable",z "inner_kinds",z "row_level",z "row_length",z "check_kind_row",z "check_named",z "check_args",z "may_stand",z "kind_sort",z "elem_of",z "tid_of",z "args_of",z "is_value",z "is_var",z "is_int",z "S_STRUCT",z "S_ENUM",z "VA_NONE",z "T_NULLABLE",z "T_NULLREF",z "T_CAST",z "TypeDef",z "Store",z "type_of",z "V_I4",z "V_I8",z "V_NINT",z "V_REF",z "V_STRUCT",z "V_PLACE",z "V_FTN",z "V_TEXT",z "NULLV",z "NO_TAG",z "PL_HEAP",z "wrap_bits",z "wrap32",z "wrap64",z "plain_kind",z "plain_default",z "cut_to",z "store_as",z "tag_of",z "tag_of_row",z "fits",z "put_path",z "S_BLOCK",z "MOST_NESTED",z "SAY_NULL",z "Thrown",z "Unheld",z "Item",z "Special",z "Guard",z "Splits",z "Begins",z "Calls",z "Plot",z "count_step",z "go_deeper",z "next_number",z "eval_expr",z "kind_in",z "layout_in",z "is_question",z "new_item",z "block_number",z "block_lids",z "begin_block",z "lay_cells",z "throw_new",z "throw_nothing",z "throw_item",z "row_taking",z "when_says",z "push_guard",z "drop_guards",z "item_is",z "is_struct",z "is_composed",z "default_of",z "default_parts",z "SAY_CAST",z "put_value_at",z "box_value",z "unbox_value",z "from_reference",z "FIRST_ADDRESS",z "HEAD_WORDS",z "LEAST_SIZE",z "words_for",z "Thing",z "Heap",z "heap_alloc",z "PlaceHost",z "heap_place",z "JP_FALL",z "JP_STAY",z "ST_RUN",z "ST_WRONG",z "TEXT_NULL",z "LOST",z "Frame",z "Op",z "Starter",z "KindCloser",z "Tray",z "note_thrown",z "told_row",z "told_default",z "tell_wrong",z "pop_value",z "stored",z "first_slots",z "OP_UNBOX",z "OP_BOX",z "OP_UNBOX_ANY",z "OP_LDTOKEN",z "CF_HASVALUE",z "CF_VALUE",z "throw_null",z "thing_of",z "TEXT_CAST",z "holds_maybe",z "box_at",z "OpBox",z "boxed_thing",z "nullable_of",z "unbox_cell",z "OpUnbox",z "OpUnboxAny",z "OpToken",z "install_m_objects",z "is_of",z "cast_top",z "_law_NAMES",z "_law_UNDERS",z "_law_EDGES",z "_law_FIRST",z "_law_any",z "_law_refers",z "_law_plain",z "_law_span",z "_law_value",z "_law_source",z "_law_tagged",z "_law_goes",z "_law_meant",z "_law_boxing",z "_law_tried",z "_law_op",z "_law_box",z "_law_open",z "_law_place",z "_law_write",z "_law_reference",z "_law_aim",z "_law_deed",z "_law_kinds",z "_law_types",z "_law_world",z "_law_settled"]
def qv:Program:={pw with main:={pw.main with body:= [cl 218]}}
end Hd
end Head
end Mine
end
section
section
namespace Mine.Hd
open PySem PySem.W PyProof.Rows PySem.Calls
abbrev rR:OpenRow:=PySem.Challenge.rw_up0015_01.row
abbrev rW:RowW:=rR.toRowW
def HK:Hook:=kHook Kf Ka (λ_=>by kernel_rfl)
def Xt:Shared->Bool:=λs=>xlAt qv [] s&&recOk (RowW.records rW) s
theorem M6:∀w:World,(fencedOpening treeTable pw w 24304).map (λs=>(s.heap,s.gens,s.drawn,s.toks))=some (boot_heap w.params,Array.mk [],boot_drawn,boot_toks):=
 boot_open (by kernel_rfl) (by decide+kernel) (λs=>by kernel_rfl)
theorem size:∀w:World,((boot_heap w.params).isNs mainGlobals&&(Array.mk []:Array GenState).size==0,(boot_heap w.params).objs.size,(boot_heap w.params).nsMap mainGlobals "__annotations__")=(true,11,an):=by
 intro w;kernel_rfl
def cy:Option Obj->Bool
 |some o=>(alive o).isSome
 |none=>false
theorem JR(t:BT)(n:Nat)(as:List Nat)(h:(as.all λa=>Nat.blt a n&&cy (t.get a))=true):as.map (absHeap t n {}).get? =(as.map λa=>(a,(t.get a).getD default)).map λp=>some p.2:=by
 rw[List.map_map];refine List.map_congr_left λa ha=>?_;have h:=X5.mp (X7.mp h a ha);cases e:t.get a with
 |none=>rw[e]at h;exact nomatch h.2
 |some o=>
  rw[e]at h;rw[abs_get (Yg h.1) e];show alive o=some ((t.get a).getD default);rw[e];obtain⟨c,d,dt,sl⟩:=o;cases dt<;>first|rfl|exact nomatch h.2
theorem VU:∀P:Params,(Ka.all λa=>Nat.blt a 1486&&cy ((t9 P).get a))=true:=by
 intro P;kernel_rfl
theorem VS:∀w:World,(λos:OsState=>Hook.obs HK (Sf w os))=λ_=>Hook.val HK w:=by
 intro w;funext os;exact JR (t9 w.params) 1486 Ka (VU w.params)
theorem VQ:∀w:World,(λos:OsState=>openSeen qv ls (importedModules pw.main.body) Xt true (Sf w os))=λ_=>openGood qv ls:=by
 intro w
 rewrite [PySem.W.Fast.te4187177175401517315,ZS]
 kernel_rfl
theorem VT:∀w:World,(λos:OsState=>(staticsOk (importedModules pw.main.body) (boot_heap w.params) (H1 w.params)&&namesBound pw (H1 w.params)&&gensDone (Sf w os)&&laidKept (boot_heap w.params) (H1 w.params)))=λ_=>true:=by
 intro w
 rewrite [ZS]
 kernel_rfl
end Mine.Hd
end
section
section
namespace Mine.Hd
open PySem PySem.W PyProof.Rows PySem.Calls
abbrev Rw:=PySem.Challenge.rw_up0015_01
theorem Vv:namesResolve Rw.row.prog=true:=by(try rewrite [PySem.W.Fast.te8377067652309620493]);(try rewrite [Yj]);kernel_rfl
theorem Vu:noRoadLSs {strict:= !(importedModules Rw.row.prog.main.body).all cThrough.contains,foot:=none,bare:=List.filter (readsOut Rw.row.prog Rw.row.prog.main.body) [Str.ofString "vars",Str.ofString "dir",Str.ofString "locals"]} Rw.row.prog.main.body=true:=by(try rewrite [zaR]);(try rewrite [ZS]);(try rewrite [Yj]);(try rewrite [YE]);(try rewrite [PySem.W.Fast.te17691160309236699985]);(try rewrite [PySem.W.Fast.te13343964577679436407]);kernel_rfl
theorem Vt:(namesMeet Rw.row.prog Rw.row.prog.main.body λ_ n=>attrL n)=true:=by(try rewrite [Zq]);(try rewrite [Yj]);(try rewrite [PySem.W.Fast.te17868728402115742887]);kernel_rfl
theorem QQ:(Rw.bound'.all λn=> !builtinNamed n||Rw.about== [n]|| !Rw.reads n)=true:=by(try rewrite [zaX]);(try rewrite [ZR]);kernel_rfl
theorem QO:(namesMeet Rw.prog Rw.above λ_ n=> !Rw.own.contains n)=true:=by(try rewrite [Zq]);(try rewrite [YE]);(try rewrite [Zr]);kernel_rfl
theorem QR:PySem.Challenge.rw_up0015_01.wellSaid=true:=by
 unfold OpenLaw.wellSaid
 repeat' (first|with_reducible refine look_both ?_ ?_|unfold OpenRow.wellSaid|unfold OpenRow.partSaid|unfold looksOpen)
 ·as_aux_lemma=>((try rewrite [PySem.W.Fast.te11788848310118352699]);(try rewrite [Yj]);kernel_rfl)
 ·as_aux_lemma=>((try rewrite [PySem.W.Fast.te9807087744658564304]);(try rewrite [Yj]);(try rewrite [PySem.W.Fast.te12862048085361865435]);kernel_rfl)
 ·exact Vv
 ·as_aux_lemma=>((try rewrite [Zp]);(try rewrite [Yj]);(try rewrite [YE]);(try rewrite [PySem.W.Fast.te14412699480532031325]);kernel_rfl)
 ·exact Vu
 ·exact Vt
 ·as_aux_lemma=>((try rewrite [Yj]);kernel_rfl)
 ·as_aux_lemma=>((try rewrite [Yj]);kernel_rfl)
 ·as_aux_lemma=>((try rewrite [Yj]);(try rewrite [PySem.W.Fast.te9706382859710513879]);kernel_rfl)
 ·as_aux_lemma=>((try rewrite [Yj]);(try rewrite [YE]);(try rewrite [Zp]);(try rewrite [PySem.W.Fast.te2357444279172408678]);kernel_rfl)
 ·as_aux_lemma=>((try rewrite [Yj]);kernel_rfl)
 ·as_aux_lemma=>((try rewrite [Yj]);(try rewrite [PySem.W.Fast.te4857012375875476094]);(try rewrite [YE]);(try rewrite [Zp]);kernel_rfl)
 ·as_aux_lemma=>((try rewrite [PySem.W.Fast.te13582783067957832011]);(try rewrite [Yj]);kernel_rfl)
 ·as_aux_lemma=>((try rewrite [ZT]);(try rewrite [Yj]);kernel_rfl)
 ·as_aux_lemma=>((try rewrite [ZT]);(try rewrite [Yj]);kernel_rfl)
 ·as_aux_lemma=>((try rewrite [Yj]);(try rewrite [ZT]);kernel_rfl)
 ·as_aux_lemma=>((try rewrite [Yj]);(try rewrite [PySem.W.Fast.te4579403493507170074]);(try rewrite [PySem.W.Fast.te4274047373036748609]);kernel_rfl)
 ·as_aux_lemma=>((try rewrite [Yj]);kernel_rfl)
 ·as_aux_lemma=>((try rewrite [Yj]);kernel_rfl)
 ·as_aux_lemma=>((try rewrite [YE]);(try rewrite [Zp]);(try rewrite [Yj]);kernel_rfl)
 ·as_aux_lemma=>((try rewrite [YE]);(try rewrite [PySem.W.Fast.te12749700546528644094]);(try rewrite [Yj]);kernel_rfl)
 ·as_aux_lemma=>(kernel_rfl)
 ·as_aux_lemma=>((try rewrite [PySem.W.Fast.te10501279942588096481]);kernel_rfl)
 ·as_aux_lemma=>((try rewrite [PySem.W.Fast.te8179353310426384613]);kernel_rfl)
 ·as_aux_lemma=>(kernel_rfl)
 ·as_aux_lemma=>(kernel_rfl)
 ·as_aux_lemma=>((try rewrite [zaR]);(try rewrite [zaX]);(try rewrite [zaQ]);kernel_rfl)
 ·as_aux_lemma=>((try rewrite [PySem.W.Fast.te9558739934217749035]);kernel_rfl)
 ·as_aux_lemma=>((try rewrite [PySem.W.Fast.te16286561074155671207]);kernel_rfl)
 ·as_aux_lemma=>(kernel_rfl)
 ·exact QQ
 ·as_aux_lemma=>((try rewrite [zaM]);(try rewrite [zaN]);(try rewrite [ZR]);kernel_rfl)
 ·as_aux_lemma=>((try rewrite [zaM]);(try rewrite [zaN]);(try rewrite [ZR]);(try rewrite [PySem.W.Fast.te482687673346738481]);kernel_rfl)
 ·as_aux_lemma=>((try rewrite [Zq]);(try rewrite [YE]);(try rewrite [zaQ]);kernel_rfl)
 ·as_aux_lemma=>((try rewrite [YE]);(try rewrite [Zr]);kernel_rfl)
 ·as_aux_lemma=>((try rewrite [PySem.W.Fast.te7723801398212525404]);(try rewrite [Zr]);kernel_rfl)
 ·as_aux_lemma=>((try rewrite [Zr]);kernel_rfl)
 ·exact QO
 ·as_aux_lemma=>((try rewrite [Zq]);kernel_rfl)
end Mine.Hd
end
section
section
namespace Mine.Hd
open PySem PySem.W PyProof.Rows PySem.Calls
theorem left:LeftO pw qv ls Xt (Hook.obs HK) (Hook.val HK) 24304:=
 LeftO.of_pieces (H₀:=boot_heap) (H₁:=H1) (gs₀:=Array.mk []) (gs₁:=Array.mk []) (d₀:=boot_drawn) (d₁:={}) (k₀:=boot_toks) (k₁:=2636) (m₀:=11) (ann:=an) M6 size run (by decide+kernel) (λw=>by
  funext os;exact Prod.ext (ZB (VT w) os) (Prod.ext (ZB (VQ w) os) (ZB (VS w) os)))
def Q4(s:Stmt):Pos:=(fV s).2.2.2
def dL:DefRec:=⟨Str.ofString "law",fA (cl 218),fB (cl 218),fS (cl 218),Q4 (cl 218)⟩
theorem ND:defOf qv rR.name=some (dL, []):=by kernel_rfl
theorem WN:rR.prog.theDef rR.name=some (dL.params,dL.body,dL.scope):=by kernel_rfl
theorem WO:kwWritten? dL.params.kwonlyargs dL.params.kw_defaults=some []:=by kernel_rfl
theorem Rv:(chainsOk qv&&opensWell rR.prog&&(frees rW&&rR.within.isEmpty))=true:=by kernel_rfl
theorem J4:rR.prog.bare:=⟨rfl,rfl,rfl,rfl,rfl,by decide+kernel⟩
theorem WM:rW.promised:=by w_witness2
theorem head(call:WalkO qv ls (XL qv []) (Hook.says HK) rW dL [] λf vs=>PySem.call f vs):PySem.Challenge.rw_up0015_01.Holds:=
 holds_law QR λk1=>holds_open (r:=rR) (q:=qv) (loose:=ls) (Xt:=Xt) (XP:=XL qv []) (Yf:=Hook.obs HK) (Ya:=Hook.val HK) (YP:=Hook.says HK) (N:=24304) left (Hook.of HK) (Hook.keeps HK)
  (λs e=>xl_of s (X5.mp e).1) XL.keeps ND WN WO (λs e=>recFacts_of (X5.mp e).2) (by rfl) k1 Rv J4 WM call
end Mine.Hd
end
section
namespace Mine
open PySem
theorem KF{z:Int}{n b:Nat}(e:z=n)(h:z<b):n<b:=zaF.mp (e ▸ h)
theorem D5{a b:Nat}(h:a<=b):(a:Int)<=b:=Y3.mpr h
theorem T5{a b:Nat}(h:(16:Int)+3*a=16+3*b):a=b:=Nat.eq_of_mul_eq_mul_left (by decide:0<3) (Nat.add_left_cancel (n:=16) (Int.ofNat.inj h))
theorem n3{a b n:Nat}(h:n=3+a+b):3<=n:=Nat.le.intro ((Y0 ..).symm.trans h.symm)
theorem VJ{b c n:Nat}(h:b+c<=60)(e:n=3+b+c):n<=63:=by rw[e,Y0];exact Yx h 3
theorem rg{a:Nat}(h:a<=100):0<=(a:Int)/\(a:Int)<=100:=⟨Zb a,D5 h⟩
theorem Sv{a:Nat}(h:a<=100): -1000000<=(a:Int)/\(a:Int)<=1000000:=⟨YL (by decide) (rg h).1,YL (rg h).2 (by decide)⟩
theorem XD{b c n:Nat}(h:n=3+b+c):((4+b:Nat):Int)+ -1+c=n:=by
 rw[h,show 4+b=3+b+1 from Za 3 1 b];exact Yd (·+(c:Int)) (Int.add_sub_cancel ((3+b:Nat):Int) 1)
theorem XB(b:Nat):1+(4+b - 2+1)=4+b:=by rw[YU 4 b];exact YU 1 _
theorem XA(b:Nat):4+b - 1=4+b - 2+1:=by rw[YU 4 b];rfl
theorem Td{z:Int}(a:z<4)(b:¬z=3):z<=2:=ZJ (b:=2) ((zaU (ZJ (b:=3) a)).resolve_right b)
theorem V1{z:Int}(a:0<=z)(h:z<=2):z=0\/z=1\/z=2:=by
 obtain⟨n,rfl⟩:=Int.eq_ofNat_of_zero_le a;exact(show∀n:Nat,n<3->(n:Int)=0\/(n:Int)=1\/(n:Int)=2 from by decide) n (ZH (Y3.mp h))
theorem PV:∀{i:Nat},i<4->i=0\/i=1\/i=2\/i=3:=by decide
theorem K1{b i:Nat}(h:i<4):i<4+b:=ZK b h
theorem ED{b:Nat}:0<((4+b:Nat):Int):=zaF.mpr (K1 (by decide))
theorem PM{b:Nat}(h:1<=b):0<((4+b:Nat):Int) - 4:=Int.sub_pos_of_lt (zaF.mpr (Nat.lt_add_of_pos_right h))
theorem V0{z:Int}(h:z<8):z=7\/z=6\/z<=5:=(zaU (ZJ (b:=7) h)).elim (λh=> .inr ((zaU (ZJ (b:=6) h)).elim (λh=> .inr (ZJ (b:=5) h)) .inl)) .inl
theorem tn{z:Int}{b:Nat}(a:0<=z)(h:z<3):(z+1).toNat<4+b:=Yr ((Int.toNat_lt (zam a (by decide))).mpr (Int.add_lt_add_right h 1)) (Ym 4 b)
theorem Vm{z:Int}{n:Nat}(a:0<=z)(h:z<n - 4):(z+4).toNat<n:=(Int.toNat_lt (zam a (by decide))).mpr (Int.add_lt_of_lt_sub_right h)
theorem m8(z:Int):(z.fmod 8).toNat<8:=(Int.toNat_lt (YK z (by decide))).mpr (Y4 z (by decide))
theorem VN(z:Int):(z.fmod 16).toNat<16:=(Int.toNat_lt (YK z (by decide))).mpr (Y4 z (by decide))
theorem Xz{a n:Nat}(h:a+(n+1)<=60):a<=59:=zaD (Yc (YX (Ym a n)) h)
theorem Xy{z:Int}{n:Nat}(h:z+3*((n+1:Nat):Int)<=390):z<=390:=YL (Int.le_add_of_nonneg_right (Zb (3*(n+1)))) h
theorem Xx{a b n:Nat}(h:a+(n+1)<=60)(k:b<=a+1):b+n<=60:=Yc (zac k n) (by rw[Za];exact h)
theorem Xw{y z:Int}{n:Nat}(h:z+3*((n+1:Nat):Int)<=390)(k:y=z+3):y+3*n<=390:=by
 rw[k,Zy,Z1 3];exact h
theorem PQ{l n:Nat}(k:l<=40)(e:n=3+l/3):n<=16:=e ▸ Yx (Nat.div_le_div_right (c:=3) k) 3
theorem Xv{a l n:Nat}(h:a<=4)(k:l<=40)(e:n=3+l/3):a+n<=60:=Yc (zak h (PQ k e)) (by decide)
theorem Xu{l n:Nat}(k:l<=40)(e:n=3+l/3):1+3*(n:Int)<=390:=YL (D5 (Yx (ZA 3 (PQ k e)) 1)) (by decide)
theorem Xs{l n:Nat}(k:l<=40)(e:n=3+l/3):n<=100:=Yc (PQ k e) (by decide)
theorem Xr{b:Nat}(h:b<=90):(4:Int)<=((4+b:Nat):Int)/\((4+b:Nat):Int)<=100:=⟨D5 (Ym 4 b),YL (D5 (Yx h 4)) (by decide)⟩
theorem I4{n:Nat}(h:3<=n/\n<=100):((25:Int)<=16+3*n/\(16:Int)+3*n<=400):=⟨D5 (Yx (ZA 3 h.1) 16),YL (D5 (Yx (ZA 3 h.2) 16)) (by decide)⟩
theorem QE{n:Nat}(h:3<=n/\n<=100):((16:Int)<=16+3*n/\(16:Int)+3*n<=400)/\((3:Int)<=n/\(n:Int)<=100)/\(9:Int)<=3*n/\3*(n:Int)<=300:=
 ⟨⟨YL (by decide) (I4 h).1,(I4 h).2⟩,⟨D5 h.1,D5 h.2⟩,D5 (ZA 3 h.1),D5 (ZA 3 h.2)⟩
theorem T4{z:Int}(h:0<=z/\z<=400):0<=z/\z<=500:=⟨h.1,YL h.2 (by decide)⟩
theorem QD{b c n:Nat}(h:b+c<=60)(e:n=3+b+c):3<=n/\n<=100:=⟨n3 e,Yc (VJ h e) (by decide)⟩
theorem T3{b c:Nat}(h:b+c<=60):b<=90:=Yc (Yc (Ym ..) h) (by decide)
theorem T2(n d:Nat):3*(n:Int)+3*(d:Int)=3*((n+d:Nat):Int)+0:=(Int.mul_add 3 n d).symm.trans (ZE _).symm
theorem Xq(n d:Nat):(16:Int)+3*n+3*(d:Int)=16+3*((n+d:Nat):Int)+0:=(Zy ..).trans (Yd (16+·) (T2 n d))
theorem T0{i n:Nat}(h:i<n)(k:n<=100):i<=500:=Yc (Yc (Zv h) k) (by decide)
theorem QC{i n:Nat}(h:i<n)(k:n<=100):0<=(i:Int)/\(i:Int)<=100:=rg (Yc (Zv h) k)
theorem Xp(l i:Nat):9<=20+l+i:=Yc (by decide) (Yc (Ym 20 l) (Ym _ i))
theorem Xo(l i:Nat):20+l+i - 20=l+i:=by rw[Y0];exact Zc ..
theorem TZ{b i:Nat}(h:i<3):i<3+b:=ZK b h
theorem Uh{n:Nat}(h:n<8):9<=22+n+0/\¬22+n+0<22/\22+n+0<30/\22+n+0 - 22=n:=⟨Yc (by decide) (Ym 22 n),zaB.mpr (Ym 22 n),ZN h 22,Zc (n:=22) (m:=n)⟩
theorem Ug{n:Nat}(h:n<8):9<=22+n+10/\¬22+n+10<22/\¬22+n+10<30/\¬22+n+10<32/\22+n+10<40/\22+n+10 - 32=n:=by
 rw[Za 22 n 10];have p:=Ym 32 n;exact⟨Yc (by decide) p,zaB.mpr (Yc (by decide) p),zaB.mpr (Yc (by decide) p),zaB.mpr p,ZN h 32,Zc ..⟩
theorem Xn{b i:Nat}(h:4+i<4+b):i+3<3+b:=by rw[YU 3];exact Nat.add_lt_add_right (ZM h) 3
theorem Xm{z:Int}{n:Nat}(e:z=n)(h:z<=399):n<=500:=Yc (Y3 (n:=399).mp (e ▸ h)) (by decide)
theorem Xl{b q:Nat}(h:q+4<4+b):q<b:=ZM (n:=4) (by rw[YU 4 q];exact h)
theorem Xk{b c n t:Nat}(h:b+c<=60)(e:n=3+b+c)(r:3<=t/\t<n):(25:Int)<=16+3*t/\(16:Int)+3*t<=400:=I4 ⟨r.1,Yc (Zv r.2) (QD h e).2⟩
theorem Re{i:Nat}(h:i=1\/i=2\/i=3):i<4:=by rcases h with rfl|rfl|rfl<;>decide
theorem Pg{a c q n m L:Nat}(h:a+q*(n+1)+m<L)(k:c<=q):a+c+q*n+m<L:=YJ (zac (by rw[Y0,Nat.mul_succ,YU c];exact Yx (Yx k _) a) m) h
theorem Ph{a q m n k L:Nat}(p:m<=n)(h:a+q*n+k<L):a+q*m+k<L:=YJ (zac (Yx (ZA q p) a) k) h
theorem VP:∀{i:Nat},i<3->i=0\/i=1\/i=2:=by decide
end Mine
end
section
namespace Mine
universe u1 u2 u3 u4
theorem de{p1 p2:Prop}{c:Prop}(h:p1/\p2)(k:p1->p2->c):c:=k h.1 h.2
theorem dW{p1 p2 p3:Prop}{c:Prop}(h:p1/\p2/\p3)(k:p1->p2->p3->c):c:=k h.1 h.2.1 h.2.2
theorem gA{p1 p2 p3:Prop}(y1:p1)(y2:p2)(y3:p3):p1/\p2/\p3:=⟨y1,y2,y3⟩
theorem AM{p1 p2 p3 p4:Prop}{c:Prop}(h:p1/\p2/\p3/\p4)(k:p1->p2->p3->p4->c):c:=k h.1 h.2.1 h.2.2.1 h.2.2.2
theorem lU{p1 p2 p3 p4:Prop}(y1:p1)(y2:p2)(y3:p3)(y4:p4):p1/\p2/\p3/\p4:=⟨y1,y2,y3,y4⟩
theorem AL{p1 p2 p3 p4 p5:Prop}{c:Prop}(h:p1/\p2/\p3/\p4/\p5)(k:p1->p2->p3->p4->p5->c):c:=k h.1 h.2.1 h.2.2.1 h.2.2.2.1 h.2.2.2.2
theorem R0{p1 p2 p3 p4 p5:Prop}(y1:p1)(y2:p2)(y3:p3)(y4:p4)(y5:p5):p1/\p2/\p3/\p4/\p5:=⟨y1,y2,y3,y4,y5⟩
theorem I8{p1 p2 p3 p4 p5 p6:Prop}{c:Prop}(h:p1/\p2/\p3/\p4/\p5/\p6)(k:p1->p2->p3->p4->p5->p6->c):c:=k h.1 h.2.1 h.2.2.1 h.2.2.2.1 h.2.2.2.2.1 h.2.2.2.2.2
theorem RZ{p1 p2 p3 p4 p5 p6:Prop}(y1:p1)(y2:p2)(y3:p3)(y4:p4)(y5:p5)(y6:p6):p1/\p2/\p3/\p4/\p5/\p6:=⟨y1,y2,y3,y4,y5,y6⟩
theorem R2{p1 p2 p3 p4 p5 p6 p7:Prop}{c:Prop}(h:p1/\p2/\p3/\p4/\p5/\p6/\p7)(k:p1->p2->p3->p4->p5->p6->p7->c):c:=k h.1 h.2.1 h.2.2.1 h.2.2.2.1 h.2.2.2.2.1 h.2.2.2.2.2.1 h.2.2.2.2.2.2
theorem RY{p1 p2 p3 p4 p5 p6 p7:Prop}(y1:p1)(y2:p2)(y3:p3)(y4:p4)(y5:p5)(y6:p6)(y7:p7):p1/\p2/\p3/\p4/\p5/\p6/\p7:=⟨y1,y2,y3,y4,y5,y6,y7⟩
theorem eY{a1:Sort u1}{p1:(x1:a1)->Prop}{c:Prop}(h:∃x1:a1,p1 x1)(k:(x1:a1)->p1 x1->c):c:=h.elim λx1 h=>k x1 h
theorem iP{a1:Sort u1}{p1:(x1:a1)->Prop}(x1:a1)(y1:p1 x1):∃x1:a1,p1 x1:=⟨x1,y1⟩
theorem U{a1:Sort u1}{p1 p2:(x1:a1)->Prop}{c:Prop}(h:∃x1:a1,p1 x1/\p2 x1)(k:(x1:a1)->p1 x1->p2 x1->c):c:=h.elim λx1 h=>k x1 h.1 h.2
theorem al{a1:Sort u1}{p1 p2:(x1:a1)->Prop}(x1:a1)(y1:p1 x1)(y2:p2 x1):∃x1:a1,p1 x1/\p2 x1:=⟨x1,y1,y2⟩
theorem a8{a1:Sort u1}{p1 p2 p3:(x1:a1)->Prop}{c:Prop}(h:∃x1:a1,p1 x1/\p2 x1/\p3 x1)(k:(x1:a1)->p1 x1->p2 x1->p3 x1->c):c:=h.elim λx1 h=>k x1 h.1 h.2.1 h.2.2
theorem aM{a1:Sort u1}{p1 p2 p3:(x1:a1)->Prop}(x1:a1)(y1:p1 x1)(y2:p2 x1)(y3:p3 x1):∃x1:a1,p1 x1/\p2 x1/\p3 x1:=⟨x1,y1,y2,y3⟩
theorem uU{a1:Sort u1}{p1 p2 p3 p4:(x1:a1)->Prop}{c:Prop}(h:∃x1:a1,p1 x1/\p2 x1/\p3 x1/\p4 x1)(k:(x1:a1)->p1 x1->p2 x1->p3 x1->p4 x1->c):c:=h.elim λx1 h=>k x1 h.1 h.2.1 h.2.2.1 h.2.2.2
theorem AK{a1:Sort u1}{p1 p2 p3 p4:(x1:a1)->Prop}(x1:a1)(y1:p1 x1)(y2:p2 x1)(y3:p3 x1)(y4:p4 x1):∃x1:a1,p1 x1/\p2 x1/\p3 x1/\p4 x1:=⟨x1,y1,y2,y3,y4⟩
theorem uT{a1:Sort u1}{p1 p2 p3 p4 p5:(x1:a1)->Prop}{c:Prop}(h:∃x1:a1,p1 x1/\p2 x1/\p3 x1/\p4 x1/\p5 x1)(k:(x1:a1)->p1 x1->p2 x1->p3 x1->p4 x1->p5 x1->c):c:=h.elim λx1 h=>k x1 h.1 h.2.1 h.2.2.1 h.2.2.2.1 h.2.2.2.2
theorem EU{a1:Sort u1}{p1 p2 p3 p4 p5:(x1:a1)->Prop}(x1:a1)(y1:p1 x1)(y2:p2 x1)(y3:p3 x1)(y4:p4 x1)(y5:p5 x1):∃x1:a1,p1 x1/\p2 x1/\p3 x1/\p4 x1/\p5 x1:=⟨x1,y1,y2,y3,y4,y5⟩
theorem iQ{a1:Sort u1}{a2:(x1:a1)->Sort u2}{p1:(x1:a1)->(x2:a2 x1)->Prop}{c:Prop}(h:∃x1:a1,∃x2:a2 x1,p1 x1 x2)(k:(x1:a1)->(x2:a2 x1)->p1 x1 x2->c):c:=h.elim λx1 h=>h.elim λx2 h=>k x1 x2 h
theorem uR{a1:Sort u1}{a2:(x1:a1)->Sort u2}{p1:(x1:a1)->(x2:a2 x1)->Prop}(x1:a1)(x2:a2 x1)(y1:p1 x1 x2):∃x1:a1,∃x2:a2 x1,p1 x1 x2:=⟨x1,x2,y1⟩
theorem bS{a1:Sort u1}{a2:(x1:a1)->Sort u2}{p1 p2:(x1:a1)->(x2:a2 x1)->Prop}{c:Prop}(h:∃x1:a1,∃x2:a2 x1,p1 x1 x2/\p2 x1 x2)(k:(x1:a1)->(x2:a2 x1)->p1 x1 x2->p2 x1 x2->c):c:=h.elim λx1 h=>h.elim λx2 h=>k x1 x2 h.1 h.2
theorem gz{a1:Sort u1}{a2:(x1:a1)->Sort u2}{p1 p2:(x1:a1)->(x2:a2 x1)->Prop}(x1:a1)(x2:a2 x1)(y1:p1 x1 x2)(y2:p2 x1 x2):∃x1:a1,∃x2:a2 x1,p1 x1 x2/\p2 x1 x2:=⟨x1,x2,y1,y2⟩
theorem a9{a1:Sort u1}{a2:(x1:a1)->Sort u2}{p1 p2 p3:(x1:a1)->(x2:a2 x1)->Prop}{c:Prop}(h:∃x1:a1,∃x2:a2 x1,p1 x1 x2/\p2 x1 x2/\p3 x1 x2)(k:(x1:a1)->(x2:a2 x1)->p1 x1 x2->p2 x1 x2->p3 x1 x2->c):c:=h.elim λx1 h=>h.elim λx2 h=>k x1 x2 h.1 h.2.1 h.2.2
theorem aZ{a1:Sort u1}{a2:(x1:a1)->Sort u2}{p1 p2 p3:(x1:a1)->(x2:a2 x1)->Prop}(x1:a1)(x2:a2 x1)(y1:p1 x1 x2)(y2:p2 x1 x2)(y3:p3 x1 x2):∃x1:a1,∃x2:a2 x1,p1 x1 x2/\p2 x1 x2/\p3 x1 x2:=⟨x1,x2,y1,y2,y3⟩
theorem cT{a1:Sort u1}{a2:(x1:a1)->Sort u2}{p1 p2 p3 p4:(x1:a1)->(x2:a2 x1)->Prop}{c:Prop}(h:∃x1:a1,∃x2:a2 x1,p1 x1 x2/\p2 x1 x2/\p3 x1 x2/\p4 x1 x2)(k:(x1:a1)->(x2:a2 x1)->p1 x1 x2->p2 x1 x2->p3 x1 x2->p4 x1 x2->c):c:=h.elim λx1 h=>h.elim λx2 h=>k x1 x2 h.1 h.2.1 h.2.2.1 h.2.2.2
theorem cj{a1:Sort u1}{a2:(x1:a1)->Sort u2}{p1 p2 p3 p4:(x1:a1)->(x2:a2 x1)->Prop}(x1:a1)(x2:a2 x1)(y1:p1 x1 x2)(y2:p2 x1 x2)(y3:p3 x1 x2)(y4:p4 x1 x2):∃x1:a1,∃x2:a2 x1,p1 x1 x2/\p2 x1 x2/\p3 x1 x2/\p4 x1 x2:=⟨x1,x2,y1,y2,y3,y4⟩
theorem nJ{a1:Sort u1}{a2:(x1:a1)->Sort u2}{p1 p2 p3 p4 p5:(x1:a1)->(x2:a2 x1)->Prop}{c:Prop}(h:∃x1:a1,∃x2:a2 x1,p1 x1 x2/\p2 x1 x2/\p3 x1 x2/\p4 x1 x2/\p5 x1 x2)(k:(x1:a1)->(x2:a2 x1)->p1 x1 x2->p2 x1 x2->p3 x1 x2->p4 x1 x2->p5 x1 x2->c):c:=h.elim λx1 h=>h.elim λx2 h=>k x1 x2 h.1 h.2.1 h.2.2.1 h.2.2.2.1 h.2.2.2.2
theorem yB{a1:Sort u1}{a2:(x1:a1)->Sort u2}{p1 p2 p3 p4 p5:(x1:a1)->(x2:a2 x1)->Prop}(x1:a1)(x2:a2 x1)(y1:p1 x1 x2)(y2:p2 x1 x2)(y3:p3 x1 x2)(y4:p4 x1 x2)(y5:p5 x1 x2):∃x1:a1,∃x2:a2 x1,p1 x1 x2/\p2 x1 x2/\p3 x1 x2/\p4 x1 x2/\p5 x1 x2:=⟨x1,x2,y1,y2,y3,y4,y5⟩
theorem R1{a1:Sort u1}{a2:(x1:a1)->Sort u2}{p1 p2 p3 p4 p5 p6:(x1:a1)->(x2:a2 x1)->Prop}{c:Prop}(h:∃x1:a1,∃x2:a2 x1,p1 x1 x2/\p2 x1 x2/\p3 x1 x2/\p4 x1 x2/\p5 x1 x2/\p6 x1 x2)(k:(x1:a1)->(x2:a2 x1)->p1 x1 x2->p2 x1 x2->p3 x1 x2->p4 x1 x2->p5 x1 x2->p6 x1 x2->c):c:=h.elim λx1 h=>h.elim λx2 h=>k x1 x2 h.1 h.2.1 h.2.2.1 h.2.2.2.1 h.2.2.2.2.1 h.2.2.2.2.2
theorem bj{a1:Sort u1}{a2:(x1:a1)->Sort u2}{a3:(x1:a1)->(x2:a2 x1)->Sort u3}{p1:(x1:a1)->(x2:a2 x1)->(x3:a3 x1 x2)->Prop}{c:Prop}(h:∃x1:a1,∃x2:a2 x1,∃x3:a3 x1 x2,p1 x1 x2 x3)(k:(x1:a1)->(x2:a2 x1)->(x3:a3 x1 x2)->p1 x1 x2 x3->c):c:=h.elim λx1 h=>h.elim λx2 h=>h.elim λx3 h=>k x1 x2 x3 h
theorem b7{a1:Sort u1}{a2:(x1:a1)->Sort u2}{a3:(x1:a1)->(x2:a2 x1)->Sort u3}{p1:(x1:a1)->(x2:a2 x1)->(x3:a3 x1 x2)->Prop}(x1:a1)(x2:a2 x1)(x3:a3 x1 x2)(y1:p1 x1 x2 x3):∃x1:a1,∃x2:a2 x1,∃x3:a3 x1 x2,p1 x1 x2 x3:=⟨x1,x2,x3,y1⟩
theorem uS{a1:Sort u1}{a2:(x1:a1)->Sort u2}{a3:(x1:a1)->(x2:a2 x1)->Sort u3}{p1 p2:(x1:a1)->(x2:a2 x1)->(x3:a3 x1 x2)->Prop}{c:Prop}(h:∃x1:a1,∃x2:a2 x1,∃x3:a3 x1 x2,p1 x1 x2 x3/\p2 x1 x2 x3)(k:(x1:a1)->(x2:a2 x1)->(x3:a3 x1 x2)->p1 x1 x2 x3->p2 x1 x2 x3->c):c:=h.elim λx1 h=>h.elim λx2 h=>h.elim λx3 h=>k x1 x2 x3 h.1 h.2
theorem I6{a1:Sort u1}{a2:(x1:a1)->Sort u2}{a3:(x1:a1)->(x2:a2 x1)->Sort u3}{p1 p2:(x1:a1)->(x2:a2 x1)->(x3:a3 x1 x2)->Prop}(x1:a1)(x2:a2 x1)(x3:a3 x1 x2)(y1:p1 x1 x2 x3)(y2:p2 x1 x2 x3):∃x1:a1,∃x2:a2 x1,∃x3:a3 x1 x2,p1 x1 x2 x3/\p2 x1 x2 x3:=⟨x1,x2,x3,y1,y2⟩
theorem cZ{a1:Sort u1}{a2:(x1:a1)->Sort u2}{a3:(x1:a1)->(x2:a2 x1)->Sort u3}{p1 p2 p3:(x1:a1)->(x2:a2 x1)->(x3:a3 x1 x2)->Prop}{c:Prop}(h:∃x1:a1,∃x2:a2 x1,∃x3:a3 x1 x2,p1 x1 x2 x3/\p2 x1 x2 x3/\p3 x1 x2 x3)(k:(x1:a1)->(x2:a2 x1)->(x3:a3 x1 x2)->p1 x1 x2 x3->p2 x1 x2 x3->p3 x1 x2 x3->c):c:=h.elim λx1 h=>h.elim λx2 h=>h.elim λx3 h=>k x1 x2 x3 h.1 h.2.1 h.2.2
theorem iO{a1:Sort u1}{a2:(x1:a1)->Sort u2}{a3:(x1:a1)->(x2:a2 x1)->Sort u3}{p1 p2 p3:(x1:a1)->(x2:a2 x1)->(x3:a3 x1 x2)->Prop}(x1:a1)(x2:a2 x1)(x3:a3 x1 x2)(y1:p1 x1 x2 x3)(y2:p2 x1 x2 x3)(y3:p3 x1 x2 x3):∃x1:a1,∃x2:a2 x1,∃x3:a3 x1 x2,p1 x1 x2 x3/\p2 x1 x2 x3/\p3 x1 x2 x3:=⟨x1,x2,x3,y1,y2,y3⟩
theorem nI{a1:Sort u1}{a2:(x1:a1)->Sort u2}{a3:(x1:a1)->(x2:a2 x1)->Sort u3}{p1 p2 p3 p4:(x1:a1)->(x2:a2 x1)->(x3:a3 x1 x2)->Prop}{c:Prop}(h:∃x1:a1,∃x2:a2 x1,∃x3:a3 x1 x2,p1 x1 x2 x3/\p2 x1 x2 x3/\p3 x1 x2 x3/\p4 x1 x2 x3)(k:(x1:a1)->(x2:a2 x1)->(x3:a3 x1 x2)->p1 x1 x2 x3->p2 x1 x2 x3->p3 x1 x2 x3->p4 x1 x2 x3->c):c:=h.elim λx1 h=>h.elim λx2 h=>h.elim λx3 h=>k x1 x2 x3 h.1 h.2.1 h.2.2.1 h.2.2.2
theorem pg{a1:Sort u1}{a2:(x1:a1)->Sort u2}{a3:(x1:a1)->(x2:a2 x1)->Sort u3}{p1 p2 p3 p4:(x1:a1)->(x2:a2 x1)->(x3:a3 x1 x2)->Prop}(x1:a1)(x2:a2 x1)(x3:a3 x1 x2)(y1:p1 x1 x2 x3)(y2:p2 x1 x2 x3)(y3:p3 x1 x2 x3)(y4:p4 x1 x2 x3):∃x1:a1,∃x2:a2 x1,∃x3:a3 x1 x2,p1 x1 x2 x3/\p2 x1 x2 x3/\p3 x1 x2 x3/\p4 x1 x2 x3:=⟨x1,x2,x3,y1,y2,y3,y4⟩
theorem cz{a1:Sort u1}{a2:(x1:a1)->Sort u2}{a3:(x1:a1)->(x2:a2 x1)->Sort u3}{a4:(x1:a1)->(x2:a2 x1)->(x3:a3 x1 x2)->Sort u4}{p1:(x1:a1)->(x2:a2 x1)->(x3:a3 x1 x2)->(x4:a4 x1 x2 x3)->Prop}{c:Prop}(h:∃x1:a1,∃x2:a2 x1,∃x3:a3 x1 x2,∃x4:a4 x1 x2 x3,p1 x1 x2 x3 x4)(k:(x1:a1)->(x2:a2 x1)->(x3:a3 x1 x2)->(x4:a4 x1 x2 x3)->p1 x1 x2 x3 x4->c):c:=h.elim λx1 h=>h.elim λx2 h=>h.elim λx3 h=>h.elim λx4 h=>k x1 x2 x3 x4 h
theorem My{a1:Sort u1}{a2:(x1:a1)->Sort u2}{a3:(x1:a1)->(x2:a2 x1)->Sort u3}{a4:(x1:a1)->(x2:a2 x1)->(x3:a3 x1 x2)->Sort u4}{p1:(x1:a1)->(x2:a2 x1)->(x3:a3 x1 x2)->(x4:a4 x1 x2 x3)->Prop}(x1:a1)(x2:a2 x1)(x3:a3 x1 x2)(x4:a4 x1 x2 x3)(y1:p1 x1 x2 x3 x4):∃x1:a1,∃x2:a2 x1,∃x3:a3 x1 x2,∃x4:a4 x1 x2 x3,p1 x1 x2 x3 x4:=⟨x1,x2,x3,x4,y1⟩
theorem I7{a1:Sort u1}{a2:(x1:a1)->Sort u2}{a3:(x1:a1)->(x2:a2 x1)->Sort u3}{a4:(x1:a1)->(x2:a2 x1)->(x3:a3 x1 x2)->Sort u4}{p1 p2:(x1:a1)->(x2:a2 x1)->(x3:a3 x1 x2)->(x4:a4 x1 x2 x3)->Prop}{c:Prop}(h:∃x1:a1,∃x2:a2 x1,∃x3:a3 x1 x2,∃x4:a4 x1 x2 x3,p1 x1 x2 x3 x4/\p2 x1 x2 x3 x4)(k:(x1:a1)->(x2:a2 x1)->(x3:a3 x1 x2)->(x4:a4 x1 x2 x3)->p1 x1 x2 x3 x4->p2 x1 x2 x3 x4->c):c:=h.elim λx1 h=>h.elim λx2 h=>h.elim λx3 h=>h.elim λx4 h=>k x1 x2 x3 x4 h.1 h.2
theorem RX{a1:Sort u1}{a2:(x1:a1)->Sort u2}{a3:(x1:a1)->(x2:a2 x1)->Sort u3}{a4:(x1:a1)->(x2:a2 x1)->(x3:a3 x1 x2)->Sort u4}{p1 p2:(x1:a1)->(x2:a2 x1)->(x3:a3 x1 x2)->(x4:a4 x1 x2 x3)->Prop}(x1:a1)(x2:a2 x1)(x3:a3 x1 x2)(x4:a4 x1 x2 x3)(y1:p1 x1 x2 x3 x4)(y2:p2 x1 x2 x3 x4):∃x1:a1,∃x2:a2 x1,∃x3:a3 x1 x2,∃x4:a4 x1 x2 x3,p1 x1 x2 x3 x4/\p2 x1 x2 x3 x4:=⟨x1,x2,x3,x4,y1,y2⟩
theorem MA{a1:Sort u1}{a2:(x1:a1)->Sort u2}{a3:(x1:a1)->(x2:a2 x1)->Sort u3}{a4:(x1:a1)->(x2:a2 x1)->(x3:a3 x1 x2)->Sort u4}{p1 p2 p3:(x1:a1)->(x2:a2 x1)->(x3:a3 x1 x2)->(x4:a4 x1 x2 x3)->Prop}{c:Prop}(h:∃x1:a1,∃x2:a2 x1,∃x3:a3 x1 x2,∃x4:a4 x1 x2 x3,p1 x1 x2 x3 x4/\p2 x1 x2 x3 x4/\p3 x1 x2 x3 x4)(k:(x1:a1)->(x2:a2 x1)->(x3:a3 x1 x2)->(x4:a4 x1 x2 x3)->p1 x1 x2 x3 x4->p2 x1 x2 x3 x4->p3 x1 x2 x3 x4->c):c:=h.elim λx1 h=>h.elim λx2 h=>h.elim λx3 h=>h.elim λx4 h=>k x1 x2 x3 x4 h.1 h.2.1 h.2.2
theorem AJ{a1:Sort u1}{a2:(x1:a1)->Sort u2}{a3:(x1:a1)->(x2:a2 x1)->Sort u3}{a4:(x1:a1)->(x2:a2 x1)->(x3:a3 x1 x2)->Sort u4}{p1 p2 p3:(x1:a1)->(x2:a2 x1)->(x3:a3 x1 x2)->(x4:a4 x1 x2 x3)->Prop}(x1:a1)(x2:a2 x1)(x3:a3 x1 x2)(x4:a4 x1 x2 x3)(y1:p1 x1 x2 x3 x4)(y2:p2 x1 x2 x3 x4)(y3:p3 x1 x2 x3 x4):∃x1:a1,∃x2:a2 x1,∃x3:a3 x1 x2,∃x4:a4 x1 x2 x3,p1 x1 x2 x3 x4/\p2 x1 x2 x3 x4/\p3 x1 x2 x3 x4:=⟨x1,x2,x3,x4,y1,y2,y3⟩
theorem bc(p:Prop){c:Prop}(f:p->c)(g:¬p->c):c:=(Classical.em p).elim f g
theorem hg{G:Prop}(h:∀c:Prop,(G->c)->c):G:=h G id
theorem cY{c:Prop}(b:Bool)(f:b=true->c)(g:b=false->c):c:=b.casesOn (motive:=λx=>b=x->c) g f rfl
theorem uu{c:Prop}(b:Bool)(f:b=false->c)(g:b=true->c):c:=cY b g f
theorem dJ{α:Type u1}{c:Prop}(b:Option α)(f:b=none->c)(g:∀a,b=some a->c):c:=b.casesOn (motive:=λx=>b=x->c) f g rfl
theorem ak{p:Prop}(h:p:=by decide):p:=h
end Mine
end
section
namespace Mine
open PySem
theorem nt{p:Prop}(h:none=some t):p:=nomatch h
theorem nf{p:Prop}(h:false=true):p:=nomatch h
theorem ng{p:Prop}(h:true=false):p:=nomatch h
theorem an(h:(a&&b)=true):a=true/\b=true:=X5.mp h
theorem iq(h:(!a)=true):a=false:=by cases a;rfl;exact nf h
theorem oa(h:o.any f=true):∃x,o=some x/\f x=true:=by
 cases o with
 |none=>exact nf h
 |some x=>exact(al x rfl h)
theorem si(h:some a=some b):a=b:=Yi h
set_option genInjectivity true in
inductive V where
 |none|bool(b:Bool)|int(i:Int)|str(s:List Nat)|tup(vs:List V)|obj(s i:Nat)|glob(a:Nat)
section
variable{v:V}
def pB(v:V)(f:Bool->Bool):Bool:=match v with| .bool i=>f i|_=>false
def pI(v:V)(f:Int->Bool):Bool:=match v with| .int i=>f i|_=>false
def pS(v:V)(f:List Nat->Bool):Bool:=match v with| .str i=>f i|_=>false
def pT(v:V)(f:List V->Bool):Bool:=match v with| .tup i=>f i|_=>false
def pO(v:V)(f:Nat->Nat->Bool):Bool:=match v with| .obj s i=>f s i|_=>false
def pG(v:V)(f:Nat->Bool):Bool:=match v with| .glob i=>f i|_=>false
def isNone(v:V):Bool:=match v with| .none=>true|_=>false
theorem Rb(h:pB v f=true):∃i,v= .bool i/\f i=true:=by cases v with|bool i=>exact(al i rfl h)|_=>exact nf h
theorem Q9(h:pI v f=true):∃i,v= .int i/\f i=true:=by cases v with|int i=>exact(al i rfl h)|_=>exact nf h
theorem Q6(h:pS v f=true):∃i,v= .str i/\f i=true:=by cases v with|str i=>exact(al i rfl h)|_=>exact nf h
theorem Q5(h:pT v f=true):∃i,v= .tup i/\f i=true:=by cases v with|tup i=>exact(al i rfl h)|_=>exact nf h
theorem Q7(h:pO v f=true):∃s i,v= .obj s i/\f s i=true:=by cases v with|obj s i=>exact(gz s i rfl h)|_=>exact nf h
theorem Ra(h:pG v f=true):∃i,v= .glob i/\f i=true:=by cases v with|glob i=>exact(al i rfl h)|_=>exact nf h
theorem Q8(h:isNone v=true):v= .none:=by cases v with|none=>rfl|_=>exact nf h
end
mutual
noncomputable def V.beq:V->V->Bool
 | .none,b=>isNone b
 | .bool a,b=>pB b λb=>a==b
 | .int a,b=>pI b λb=>decide (a=b)
 | .str a,b=>pS b λb=>decide (a=b)
 | .tup a,b=>pT b λb=>V.beqs a b
 | .obj a b,d=>pO d λc d=>Nat.beq a c&&Nat.beq b d
 | .glob a,b=>pG b λb=>Nat.beq a b
noncomputable def V.beqs:List V->List V->Bool
 | [],b=>b.isEmpty
 |a::as,b=>match b with| []=>false|b::bs=>a.beq b&&V.beqs as bs
end
theorem V.eq_of(h:V.beq a b=true):a=b:=by
 refine V.rec (motive_1:=λa=>∀b,V.beq a b=true->a=b) (motive_2:=λa=>∀b,V.beqs a b=true->a=b) ?_ ?_ ?_ ?_ ?_ ?_ ?_ ?_ ?_ a b h
 ·intro b h;exact(Q8 h).symm
 ·intro x b h;refine U (Rb h) λy q2 h=>?_;subst q2;rw[eq_of_beq h]
 ·intro x b h;refine U (Q9 h) λy q2 h=>?_;subst q2;rw[YN h]
 ·intro x b h;refine U (Q6 h) λy q2 h=>?_;subst q2;rw[YN h]
 ·intro x i b h;refine U (Q5 h) λy q2 h=>?_;subst q2;rw[i _ h]
 ·intro s i b h;refine bS (Q7 h) λt j q3 h=>?_;subst q3;rw[Yh (an h).1,Yh (an h).2]
 ·intro x b h;refine U (Ra h) λy q2 h=>?_;subst q2;rw[Yh h]
 ·intro b h;exact(YF.mp h).symm
 ·intro x a i1 i2 b h;cases b with
  |nil=>exact nf h
  |cons y b=>rw[i1 _ (an h).1,i2 _ (an h).2]
theorem V.eqs_of:∀{a b:List V},V.beqs a b=true->a=b:=by
 intro a
 induction a with
 |nil=>intro b h;exact(YF.mp h).symm
 |cons x a i=>
  intro b h;cases b with
  |nil=>exact nf h
  |cons y b=>rw[V.eq_of (an h).1,i (an h).2]
theorem qb(n:Nat):Nat.beq n n=true:=Nat.beq_refl n
theorem V.beq_self(a:V):a.beq a=true:=
 V.rec (motive_1:=λa=>V.beq a a=true) (motive_2:=λa=>V.beqs a a=true) rfl (λx=>beq_self_eq_true x) (λx=>YI rfl) (λx=>YI rfl) (λx h=>h) (λs i=>X5.mpr ⟨qb s,qb i⟩) (λx=>qb x) rfl (λx a h k=>X5.mpr ⟨h,k⟩) a
theorem V.beqs_self(a:List V):V.beqs a a=true:=by
 induction a with
 |nil=>rfl
 |cons x a i=>exact X5.mpr ⟨V.beq_self x,i⟩
theorem V.beq_iff{a b:V}:a.beq b=true↔a=b:=⟨V.eq_of,λe=>e ▸ V.beq_self a⟩
theorem V.beqs_iff:V.beqs a b=true↔a=b:=⟨V.eqs_of,λe=>e ▸ V.beqs_self a⟩
set_option genInjectivity true in
inductive bu where
 |inst(c:Nat)(fs:List (Nat×V))
 |list(vs:List V)
 |dict(kd:Nat)(es:List (V×V))
 |gone(c:Nat)(fs:List (Nat×V))
 |caught(c:Nat)(fs:List (Nat×V))
set_option genCtorIdx true in
inductive Op where
 |add|sub|mul|fdiv|mod|shl|shr|band
set_option genCtorIdx true in
inductive o9 where
 |eq|ne|lt|le|gt|ge|is|isNot|isIn|notIn
inductive Ex where
 |loc(x:Nat)
 |glb(x:Nat)
 |k(v:V)
 |tup(es:List Ex)
 |list(s:Nat)(es:List Ex)
 |dict(s:Nat)(ks vs:List Ex)
 |bin(o:Op)(a b:Ex)
 |rep(s:Nat)(a b:Ex)
 |neg(a:Ex)
 |not(a:Ex)
 |and(es:List Ex)
 |or(es:List Ex)
 |cmp(a:Ex)(os:List o9)(bs:List Ex)
 |ite(c a b:Ex)
 |attr(a:Ex)(x:Nat)
 |sub(a b:Ex)
 |slice(s:Nat)(a:Ex)(lo hi:Option Ex)
 |call(f:Nat)(args:List Ex)
 |new(c s:Nat)(args:List Ex)
 |meth(o:Ex)(x:Nat)(args:List Ex)
 |len(a:Ex)
 |hole
inductive zZ where
 |loc(x:Nat)
 |attr(o:Ex)(x:Nat)
 |sub(o i:Ex)
 |tup(xs:List Nat)
inductive It where
 |range(args:List Ex)
 |over(e:Ex)
inductive Sm where
 |expr(e:Ex)
 |asg(t:zZ)(e:Ex)
 |augN(x:Nat)(o:Op)(e:Ex)
 |augA(a:Ex)(x:Nat)(o:Op)(e:Ex)
 |ite(c:Ex)(t e:List Sm)
 |wh(c:Ex)(b:List Sm)
 |for(xs:zZ)(it:It)(b:List Sm)
 |ret(e:Option Ex)
 |try(b:List Sm)(c x:Nat)(h:List Sm)
 |raise(c s:Nat)(args:List Ex)
 |hole
structure Fn where
 params:List Nat
 body:List Sm
inductive Tr(α:Type) where
 |e|f(k:Nat)(v:α)|n(l r:Tr α)
def Tr.get{α:Type}(t:Tr α)(k:Nat):Option α:=Tr.rec (λ_=>none) (λq v _=>Bool.rec none (some v) (Nat.beq q k)) (λ_ _ il ir j=>Bool.rec (ir (Nat.div j 2)) (il (Nat.div j 2)) (Nat.beq (Nat.mod j 2) 0)) t k
structure PT where
 fn:Nat->Option Fn
 meth:Nat->Nat->Option Nat
 init:Nat->Option (Option Nat)
 const:Nat->Option V
 table:Nat->Option (List Int)
 isExc:Nat->Bool
structure St where
 heap:Nat->List bu
 env:List (Nat×V)
inductive R(α:Type) where
 |ok(a:α)
 |exc(je:Bool)(s i c:Nat)
inductive Fl where
 |next|ret(v:V)
abbrev M(α:Type):=St->Option (R α×St)
def M.pure{α:Type}(a:α):M α:=λσ=>some (.ok a,σ)
noncomputable def M.fail {α:Type}:M α:=λ_=>none
noncomputable def M.bind {α β:Type} (m:M α) (f:α->M β):M β:=λσ=>match m σ with
 |none=>none
 |some (r,σ')=>match r with
  | .ok a=>f a σ'
  | .exc b s i c=>some (.exc b s i c,σ')
def M.opt{α:Type}(o:Option α):M α:=λσ=>match o with
 |some a=>some (.ok a,σ)
 |none=>none
noncomputable def aN {α:Type} (x:Nat):List (Nat×α)->Option α
 | []=>none
 |(y,v)::r=>match Nat.beq y x with|true=>some v|false=>aN x r
theorem SU(x:Nat):aN x ([]:List (Nat×α))=none:=rfl
theorem Ej(x:Nat)(p:Nat×α)(r:List (Nat×α)):aN x (p::r)=match Nat.beq p.1 x with|true=>some p.2|false=>aN x r:=rfl
noncomputable def putN {α:Type} (x:Nat) (v:α):List (Nat×α)->List (Nat×α)
 | []=> [(x,v)]
 |(y,u)::r=>match Nat.beq y x with|true=>(y,v)::r|false=>(y,u)::putN x v r
theorem Vx(x:Nat)(v:α):putN x v []= [(x,v)]:=rfl
theorem OL(x:Nat)(v:α)(p:Nat×α)(r:List (Nat×α)):putN x v (p::r)=match Nat.beq p.1 x with|true=>(p.1,v)::r|false=>p::putN x v r:=rfl
noncomputable def lb {α:Type} (x:Nat):List (Nat×α)->List (Nat×α)
 | []=> []
 |(y,u)::r=>match Nat.beq y x with|true=>lb x r|false=>(y,u)::lb x r
theorem Xb(x:Nat):lb x ([]:List (Nat×α))= []:=rfl
theorem TP(x:Nat)(p:Nat×α)(r:List (Nat×α)):lb x (p::r)=match Nat.beq p.1 x with|true=>lb x r|false=>p::lb x r:=rfl
def aO(x:V):List (V×V)->Option V
 | []=>none
 |(y,v)::r=>match y.beq x with|true=>some v|false=>aO x r
theorem XT(x:V):aO x []=none:=rfl
theorem PU(x:V)(p:V×V)(r:List (V×V)):aO x (p::r)=match p.1.beq x with|true=>some p.2|false=>aO x r:=rfl
noncomputable def eX (x v:V):List (V×V)->List (V×V)
 | []=> [(x,v)]
 |(y,u)::r=>match y.beq x with|true=>(y,v)::r|false=>(y,u)::eX x v r
theorem XN(x v:V):eX x v []= [(x,v)]:=rfl
theorem K8(x v:V)(p:V×V)(r:List (V×V)):eX x v (p::r)=match p.1.beq x with|true=>(p.1,v)::r|false=>p::eX x v r:=rfl
noncomputable def nth {α:Type}:List α->Nat->Option α
 | [],_=>none
 |a::r,n=>match n with|0=>some a|n+1=>nth r n
theorem PN(n:Nat):nth ([]:List α) n=none:=rfl
theorem VI(a:α)(r:List α):nth (a::r) 0=some a:=rfl
theorem SJ(a:α)(r:List α)(n:Nat):nth (a::r) (n+1)=nth r n:=rfl
noncomputable def setNth {α:Type} (b:α):List α->Nat->List α
 | [],_=> []
 |a::r,n=>match n with|0=>b::r|n+1=>a::setNth b r n
theorem Vq(b:α)(n:Nat):setNth b [] n= []:=rfl
theorem XM(b a:α)(r:List α):setNth b (a::r) 0=b::r:=rfl
theorem So(b a:α)(r:List α)(n:Nat):setNth b (a::r) (n+1)=a::setNth b r n:=rfl
def St.get(σ:St)(s i:Nat):Option bu:=nth (σ.heap s) i
def St.put(σ:St)(s i:Nat)(o:bu):St:={σ with heap:=λt=>match Nat.beq t s with|true=>setNth o (σ.heap s) i|false=>σ.heap t}
noncomputable def St.add (σ:St) (s:Nat) (o:bu):St:={σ with heap:=λt=>match Nat.beq t s with|true=>σ.heap s++ [o]|false=>σ.heap t}
noncomputable def St.setE (σ:St) (e:List (Nat×V)):St:={σ with env:=e}
def M.get(s i:Nat):M bu:=λσ=>match σ.get s i with|some o=>some (.ok o,σ)|none=>none
def M.put(s i:Nat)(o:bu):M Unit:=λσ=>some (.ok (),σ.put s i o)
def M.new(s:Nat)(o:bu):M V:=λσ=>some (.ok (.obj s (σ.heap s).length),σ.add s o)
def M.env:M (List (Nat×V)):=λσ=>some (.ok σ.env,σ)
def M.setE(e:List (Nat×V)):M Unit:=λσ=>some (.ok (),σ.setE e)
def M.loc(x:Nat):M V:=λσ=>match aN x σ.env with|some v=>some (.ok v,σ)|none=>none
def M.bindN(x:Nat)(v:V):M Unit:=λσ=>some (.ok (),σ.setE (putN x v σ.env))
noncomputable def ay:Nat:=1000
def df(i:Int):Option Nat:=match i with
 | .ofNat n=>match Nat.ble n ay with|true=>some n|false=>none
 | .negSucc _=>none
def Bc(b:Int):Bool:=decide (0<=b)&&decide (b<=64)
def cA(b:Int):Bool:=decide (-1000000<=b)&&decide (b<=1000000)
noncomputable def gD {α:Type} (c:Bool) (a:Option α):Option α:=match c with|true=>a|false=>none
def oI{α:Type}(v:V)(f:Int->Option α):Option α:=match v with| .int i=>f i|_=>none
noncomputable def oS {α:Type} (v:V) (f:List Nat->Option α):Option α:=match v with| .str l=>f l|_=>none
def oT{α:Type}(v:V)(f:List V->Option α):Option α:=match v with| .tup l=>f l|_=>none
def oN{α:Type}(v:V)(a:Option α):Option α:=match v with| .none=>a|_=>none
def kL{α:Type}(o:bu)(f:List V->Option α):Option α:=match o with| .list vs=>f vs|_=>none
def kD{α:Type}(o:bu)(f:Nat->List (V×V)->Option α):Option α:=match o with| .dict k es=>f k es|_=>none
theorem bY(h:gD c a=some r):c=true/\a=some r:=by cases c with|true=>exact⟨rfl,h⟩|false=>exact nt h
theorem ob{α β:Type}{o:Option α}{f:α->Option β}{r:β}(h:o.bind f=some r):∃x,o=some x/\f x=some r:=by cases o with|none=>exact nt h|some x=>exact(al x rfl h)
theorem om{α β:Type}{o:Option α}{f:α->β}{r:β}(h:o.map f=some r):∃x,o=some x/\f x=r:=by cases o with|none=>exact nt h|some x=>exact(al x rfl (si h))
section
variable{α:Type}{v:V}{r:α}
theorem pf(h:oI v f=some r):∃i,v= .int i/\f i=some r:=by cases v with|int i=>exact(al i rfl h)|_=>exact nt h
theorem EC(h:oS v f=some r):∃i,v= .str i/\f i=some r:=by cases v with|str i=>exact(al i rfl h)|_=>exact nt h
theorem Rc(h:oT v f=some r):∃i,v= .tup i/\f i=some r:=by cases v with|tup i=>exact(al i rfl h)|_=>exact nt h
theorem L4(h:oN v a=some r):v= .none/\a=some r:=by cases v with|none=>exact⟨rfl,h⟩|_=>exact nt h
theorem Rh(h:kL o f=some r):∃vs,o= .list vs/\f vs=some r:=by cases o with|list i=>exact(al i rfl h)|_=>exact nt h
theorem Ri(h:kD o f=some r):∃k es,o= .dict k es/\f k es=some r:=by cases o with|dict k i=>exact(gz k i rfl h)|_=>exact nt h
end
def rV(o:Op)(a b:Int):Option Int:=match o with
 | .add=>some (a+b)
 | .sub=>some (a - b)
 | .mul=>gD (cA a) (some (a*b))
 | .fdiv=>gD (decide (0<b)&&cA b) (some (a.fdiv b))
 | .mod=>gD (decide (0<b)) (some (a.fmod b))
 | .shl=>gD (cA a&&Bc b) (some (a*2^b.toNat))
 | .shr=>gD (Bc b) (some (a.fdiv (2^b.toNat)))
 | .band=>some (Builtin.bitAnd a b)
def ol:Op->Bool
 | .add=>true
 |_=>false
def bZ(o:Op)(x y:V):Option V:=match x with
 | .int a=>oI y λb=>(rV o a b).map .int
 | .str a=>oS y λb=>gD (ol o&&Nat.ble (a.length+b.length) ay) (some (.str (a++b)))
 | .tup a=>oT y λb=>gD (ol o&&Nat.ble (a.length+b.length) ay) (some (.tup (a++b)))
 |_=>none
theorem xM(h:decide (0<y)=true):bZ .mod (.int x) (.int y)=some (.int (x.fmod y)):=by
 show(gD (decide (0<y)) (some (x.fmod y))).map V.int=_
 (refine(h).symm ▸?_);rfl
theorem Gp(h:(decide (0<y)&&cA y)=true):bZ .fdiv (.int x) (.int y)=some (.int (x.fdiv y)):=by
 show(gD (decide (0<y)&&cA y) (some (x.fdiv y))).map V.int=_
 (refine(h).symm ▸?_);rfl
noncomputable def RQ (o:Op) (a b:Int):Option Int:=match o with
 | .add=>some (a+b)
 | .sub=>some (a - b)
 |_=>none
def ou(o:Op)(x y:V):Option V:=oI x λa=>oI y λb=>(RQ o a b).map .int
mutual
noncomputable def uj (H:Nat->List bu):Nat->V->Option PyData
 |0,_=>none
 |n+1,v=>match v with
  | .none=>some .none
  | .bool b=>some (.bool b)
  | .int i=>some (.int i)
  | .str l=>some (.str ⟨l.toArray⟩)
  | .tup vs=>(j0 H n vs).map .tuple
  | .obj s i=>(nth (H s) i).bind λo=>kL o λvs=>(j0 H n vs).map .list
  | .glob _=>none
noncomputable def j0 (H:Nat->List bu):Nat->List V->Option (List PyData)
 |0,_=>none
 |n+1,vs=>match vs with
  | []=>some []
  |v::r=>(uj H n v).bind λd=>(j0 H n r).map (d::·)
end
def GR(H:Nat->List bu)(a b:V):Option Bool:=(uj H 60 a).bind λx=>(uj H 60 b).bind λy=>gD (SeqAt.shaped x&&SeqAt.shaped y) (some (PyData.eqv x y))
noncomputable def mm:List V->Option (List (List Nat))
 | []=>some []
 |v::r=>oS v λl=>(mm r).map (l::·)
noncomputable def isInt:V->Bool
 | .int _=>true
 |_=>false
def cF:V->Bool
 | .int _=>true
 | .tup vs=>vs.all isInt
 |_=>false
def cP:V->Nat
 | .str _=>1
 | .int _=>2
 | .tup vs=>match vs.all cF with|true=>3|false=>4
 |_=>4
def gp(kd:Nat)(k:V):Bool:=Nat.blt (cP k) 4&&(Nat.beq kd (cP k)||Nat.beq kd 0)
def AE(H:Nat->List bu)(a b:V):Option Bool:=match b with
 | .obj s i=>(nth (H s) i).bind λo=>kD o λkd es=>gD (gp kd a) (some (aO a es).isSome)
 |_=>none
def IP(P:PT)(H:Nat->List bu)(a b:V):Option Bool:=match b with
 | .tup vs=>oS a λl=>(mm vs).map λls=>ls.any λx=>decide (x=l)
 | .glob g=>oI a λi=>(P.table g).map λl=>l.contains i
 |_=>AE H a b
def me(P:PT)(H:Nat->List bu)(o:o9)(a b:V):Option Bool:=match o with
 | .eq=>GR H a b
 | .ne=>(GR H a b).map not
 | .lt=>oI a λa=>oI b λb=>some (decide (a<b))
 | .le=>oI a λa=>oI b λb=>some (decide (a<=b))
 | .gt=>oI a λa=>oI b λb=>some (decide (b<a))
 | .ge=>oI a λa=>oI b λb=>some (decide (b<=a))
 | .is=>oN b (some (isNone a))
 | .isNot=>oN b (some (!isNone a))
 | .isIn=>IP P H a b
 | .notIn=>(AE H a b).map not
def iG:V->Option Bool
 | .bool b=>some b
 | .int i=>some (!decide (i=0))
 |_=>none
def K0{α:Type}(l:List α)(k:V):Option α:=oI k λi=>(df i).bind λn=>nth l n
def itemOf(H:Nat->List bu)(a k:V):Option V:=match a with
 | .tup vs=>K0 vs k
 | .str l=>(K0 l k).map λc=> .str [c]
 | .obj s i=>(nth (H s) i).bind λo=>match o with
  | .list vs=>K0 vs k
  | .dict kd es=>gD (gp kd k) (aO k es)
  |_=>none
 |_=>none
def Pe:V->Option (Option Nat)
 | .none=>some none
 | .int i=>(df i).map some
 |_=>none
noncomputable def cutL {α:Type} (lo hi:Option Nat) (l:List α):List α:=
 let l':=match hi with|some h=>l.take h|none=>l
 match lo with|some d=>l'.drop d|none=>l'
structure Ih where
 e:Ex->M V
 b:Ex->M Bool
 s:Sm->M Fl
 c:Nat->List V->M V
def M.gd{α:Type}(c:Bool)(m:M α):M α:=match c with|true=>m|false=>M.fail
def M.of{α β:Type}(o:Option α)(f:α->M β):M β:=match o with|some a=>f a|none=>M.fail
def M.no{α β:Type}(o:Option α)(m:M β):M β:=match o with|some _=>M.fail|none=>m
def M.oR{α:Type}(v:V)(f:Nat->Nat->M α):M α:=match v with| .obj s i=>f s i|_=>M.fail
def M.oO{α:Type}(v:V)(f:Nat->Nat->bu->M α):M α:=M.oR v λs i=>M.bind (M.get s i) (f s i)
def M.oT{α:Type}(v:V)(f:List V->M α):M α:=match v with| .tup l=>f l|_=>M.fail
def M.oI{α:Type}(v:V)(f:Int->M α):M α:=match v with| .int l=>f l|_=>M.fail
def M.oN{α:Type}(v:V)(m:M α):M α:=match v with| .none=>m|_=>M.fail
def M.kL{α:Type}(o:bu)(f:List V->M α):M α:=match o with| .list vs=>f vs|_=>M.fail
def M.kD{α:Type}(o:bu)(f:Nat->List (V×V)->M α):M α:=match o with| .dict k es=>f k es|_=>M.fail
def M.kI{α:Type}(o:bu)(f:Nat->List (Nat×V)->M α):M α:=match o with| .inst c fs=>f c fs|_=>M.fail
def M.kG{α:Type}(o:bu)(f:Nat->List (Nat×V)->M α):M α:=match o with| .gone c fs=>f c fs|_=>M.fail
section
variable{α β:Type}{σ:St}{r:R α×St}
theorem Nq(h:M.kG o f σ=some r):∃k l,o= .gone k l/\f k l σ=some r:=by cases o with|gone k l=>exact(gz k l rfl h)|_=>exact nt h
theorem cQ(h:M.gd c m σ=some r):c=true/\m σ=some r:=by cases c with|true=>exact⟨rfl,h⟩|false=>exact nt h
theorem gH(h:M.of o f σ=some r):∃a,o=some a/\f a σ=some r:=by cases o with|none=>exact nt h|some a=>exact(al a rfl h)
theorem L5(h:M.no o m σ=some r):o=none/\m σ=some r:=by cases o with|none=>exact⟨rfl,h⟩|some a=>exact nt h
theorem L3(h:M.oR v f σ=some r):∃s i,v= .obj s i/\f s i σ=some r:=by cases v with|obj s i=>exact(gz s i rfl h)|_=>exact nt h
theorem iV(h:M.bind (M.get s i) f σ=some r):∃o,nth (σ.heap s) i=some o/\f o σ=some r:=by
 unfold M.bind M.get St.get at h;refine dJ (nth (σ.heap s) i) (λe=>?_) λo e=>?_
 ·rw[e]at h;exact nt h
 ·(refine(e).symm ▸?_);rw[e]at h;exact(al o rfl h)
theorem nD(h:M.oO v f σ=some r):∃s i o,v= .obj s i/\nth (σ.heap s) i=some o/\f s i o σ=some r:=
 bS (L3 h) λs i e h=>U (iV h) λo e2 h=>iO s i o e e2 h
theorem M7(h:M.oT v f σ=some r):∃l,v= .tup l/\f l σ=some r:=by cases v with|tup l=>exact(al l rfl h)|_=>exact nt h
theorem AY(h:M.oI v f σ=some r):∃l,v= .int l/\f l σ=some r:=by cases v with|int l=>exact(al l rfl h)|_=>exact nt h
theorem M8(h:M.oN v m σ=some r):v= .none/\m σ=some r:=by cases v with|none=>exact⟨rfl,h⟩|_=>exact nt h
theorem l5(h:M.kL o f σ=some r):∃l,o= .list l/\f l σ=some r:=by cases o with|list l=>exact(al l rfl h)|_=>exact nt h
theorem Hu(h:M.kD o f σ=some r):∃k l,o= .dict k l/\f k l σ=some r:=by cases o with|dict k l=>exact(gz k l rfl h)|_=>exact nt h
theorem Ht(h:M.kI o f σ=some r):∃k l,o= .inst k l/\f k l σ=some r:=by cases o with|inst k l=>exact(gz k l rfl h)|_=>exact nt h
end
theorem sp{α β:Type}{a a':α}{b b':β}(h:some (a,b)=some (a',b')):a'=a/\b'=b:=have h:=zab (si h);⟨h.1.symm,h.2.symm⟩
theorem er{α:Type}{p:Prop}{f:Bool}{s i c:Nat}{v:α}{a b:St}(h:some (R.exc f s i c,a)=some (R.ok v,b)):p:=((Yd (λr:R α=> @R.rec α (λ_=>Prop) (λ_=>False) (λ_ _ _ _=>True) r) (sp h).1).mpr trivial).elim
theorem H9{f:α->M β}(h:M.bind m f σ=some (.ok b,σ')):∃a ai,m σ=some (.ok a,ai)/\f a ai=some (.ok b,σ'):=by
 unfold M.bind at h;refine dJ (m σ) (λe=>?_) λp e=>?_
 ·rw[e]at h;exact nt h
 ·
  (refine(e).symm ▸?_)
  rw[e]at h;obtain⟨r,ai⟩:=p;cases r with
  |ok a=>exact(gz a ai rfl h)
  |exc _ _ _ _=>exact er h
def M.item(a k:V):M V:=λσ=>M.opt (itemOf σ.heap a k) σ
section
variable(P:PT)(ih:Ih)
noncomputable def kK:List Ex->M (List V)
 | []=>M.pure []
 |e::r=>M.bind (ih.e e) λv=>M.bind (kK r) λvs=>M.pure (v::vs)
noncomputable def dN:List Ex->List Ex->M (List (V×V))
 | [],_=>M.pure []
 |k::ks,vs=>match vs with
  | []=>M.pure []
  |v::vs=>M.bind (ih.e k) λa=>M.bind (ih.e v) λb=>M.bind (dN ks vs) λr=>M.pure ((a,b)::r)
noncomputable def bf:Nat->List (V×V)->Bool
 |_, []=>true
 |kd,(k,_)::r=>Nat.beq (cP k) kd&&Nat.blt kd 3&&(aO k r).isNone&&bf kd r
def ch:List (V×V)->Nat
 | []=>0
 |(k,_)::_=>cP k
noncomputable def lL:List Ex->M V
 | []=>M.fail
 |e::r=>match r with
  | []=>ih.e e
  |_::_=>M.bind (ih.e e) λv=>M.bind (M.opt (iG v)) λt=>match t with
   |false=>M.pure v
   |true=>lL r
noncomputable def pM:List Ex->M V
 | []=>M.fail
 |e::r=>match r with
  | []=>ih.e e
  |_::_=>M.bind (ih.e e) λv=>M.bind (M.opt (iG v)) λt=>match t with
   |true=>M.pure v
   |false=>pM r
noncomputable def ES:List Ex->M Bool
 | []=>M.pure true
 |e::r=>M.bind (ih.b e) λt=>match t with
  |false=>M.pure false
  |true=>ES r
noncomputable def ER:List Ex->M Bool
 | []=>M.pure false
 |e::r=>M.bind (ih.b e) λt=>match t with
  |true=>M.pure true
  |false=>ER r
def M.cmp(o:o9)(a b:V):M Bool:=λσ=>M.opt (me P σ.heap o a b) σ
noncomputable def gq (a:V):List o9->List Ex->M Bool
 | [],_=>M.fail
 |o::os,es=>match es with
  | []=>M.fail
  |e::es=>M.bind (ih.e e) λb=>M.bind (M.cmp P o a b) λt=>match os with
   | []=>M.pure t
   |_::_=>match t with
    |false=>M.pure false
    |true=>gq b os es
def GQ:Option Ex->M V
 |none=>M.pure .none
 |some e=>ih.e e
def M.attr(a:V)(x:Nat):M V:=M.oO a λ_ _ o=>match o with
 | .inst c fs=>M.no (P.meth c x) (M.opt (aN x fs))
 | .caught c fs=>M.no (P.meth c x) (M.opt (aN x fs))
 |_=>M.fail
def mY:Nat:=500
def jF(c x:Nat):Bool:= !(Nat.beq c 206)||Nat.beq x 208||Nat.beq x 110
def M.setAttr(a:V)(x:Nat)(v:V):M Unit:=M.oO a λs i o=>M.kI o λc fs=>M.gd (Nat.ble fs.length mY&&jF c x) (M.put s i (.inst c (putN x v fs)))
def M.setItem(a k v:V):M Unit:=M.oO a λs i o=>match o with
 | .list vs=>M.oI k λj=>M.of (df j) λn=>M.gd (Nat.blt n vs.length) (M.put s i (.list (setNth v vs n)))
 | .dict kd es=>M.gd (Nat.ble es.length ay&&gp kd k) (M.put s i (.dict (cP k) (eX k v es)))
 |_=>M.fail
def jq(lo hi:Option Nat)(n:Nat):Bool:=Nat.ble n ay&&match lo with
 |some a=>hi.isNone&&(Nat.ble 1 a&&Nat.ble a n)
 |none=>match hi with
  |some b=>Nat.blt b n
  |none=>false
def M.slice(s:Nat)(a l h:V):M V:=M.of (Pe l) λlo=>M.of (Pe h) λhi=>match a with
 | .tup vs=>M.gd (jq lo hi vs.length) (M.pure (.tup (cutL lo hi vs)))
 | .str cs=>M.gd (jq lo hi cs.length) (M.pure (.str (cutL lo hi cs)))
 | .obj t i=>M.bind (M.get t i) λo=>M.kL o λvs=>M.gd (Nat.ble vs.length ay) (M.new s (.list (cutL lo hi vs)))
 |_=>M.fail
noncomputable def gc:Nat:=1
def Av:Nat:=2
def Aw:Nat:=3
noncomputable def hO:List V->Option (List V×V)
 | []=>none
 |a::r=>some (match hO r with|some p=>(a::p.1,p.2)|none=>([],a))
inductive GW where
 |own(f:Nat)|app|pop|get
def M.recv(a:V)(x:Nat):M GW:=M.oO a λs i o=>match o with
 | .inst c fs=>M.no (aN x fs) (M.gd (!P.isExc c) (M.of (P.meth c x) λf=>M.pure (.own f)))
 | .list _=>match Nat.beq x gc with
  |true=>M.pure .app
  |false=>M.gd (Nat.beq x Av) (M.pure .pop)
 | .dict kd _=>M.gd (Nat.beq x Aw&&Nat.blt kd 4) (M.pure .get)
 |_=>M.fail
def M.append(a v:V):M V:=M.oO a λs i o=>M.kL o λvs=>M.gd (Nat.ble vs.length ay) (M.bind (M.put s i (.list (vs++ [v]))) λ_=>M.pure .none)
def M.popL(a:V):M V:=M.oO a λs i o=>M.kL o λvs=>M.gd (Nat.ble vs.length ay) (M.of (hO vs) λp=>M.bind (M.put s i (.list p.1)) λ_=>M.pure p.2)
def M.getD(a k d:V):M V:=M.oO a λs i o=>M.kD o λkd es=>M.gd (gp kd k) (M.pure ((aO k es).getD d))
def M.meth(mt:GW)(a:V)(args:List V):M V:=match mt with
 | .own f=>ih.c f (a::args)
 | .app=>match args with
  | []=>M.fail
  |v::r=>M.gd r.isEmpty (M.append a v)
 | .pop=>M.gd args.isEmpty (M.popL a)
 | .get=>match args with
  | []=>M.fail
  |k::r=>match r with
   | []=>M.getD a k .none
   |d::r=>M.gd r.isEmpty (M.getD a k d)
def M.len(a:V):M V:=match a with
 | .tup vs=>M.gd (Nat.ble vs.length ay) (M.pure (.int (vs.length:Nat)))
 | .obj s i=>M.bind (M.get s i) λo=>M.kL o λvs=>M.gd (Nat.ble vs.length ay) (M.pure (.int (vs.length:Nat)))
 |_=>M.fail
def M.lst(s:Nat)(vs:List V):M V:=M.gd (Nat.ble vs.length ay) (M.new s (.list vs))
def M.made(c s f:Nat)(args:List V):M V:=M.bind (M.new s (.inst c [])) λo=>M.bind (ih.c f (o::args)) λr=>M.oN r (M.pure o)
def M.make(c s:Nat)(args:List V):M V:=M.of (P.init c) λo=>match o with
 |none=>M.gd args.isEmpty (M.new s (.inst c []))
 |some f=>M.gd (!P.isExc c) (M.made ih c s f args)
def M.fill(o:V)(kd:Nat)(ps:List (V×V)):M Unit:=M.oO o λs i ob=>M.kD ob λPX es=>M.gd (Nat.beq PX 0&&es.isEmpty) (M.put s i (.dict kd ps))
def rQ{α:Type}:List α->Option α
 | []=>none
 |v::r=>gD r.isEmpty (some v)
def M.rep(s:Nat)(x y:V):M V:=M.oI y λn=>M.of (df n) λn=>M.oO x λ_ _ o=>M.kL o λvs=>M.of (rQ vs) λv=>M.gd (Nat.ble n ay) (M.new s (.list (List.replicate n v)))
def lX(e:Ex):M V:=match e with
 | .loc x=>M.loc x
 | .glb x=>M.opt (P.const x)
 | .k v=>M.pure v
 | .tup es=>M.bind (kK ih es) λvs=>M.pure (.tup vs)
 | .list s es=>M.bind (kK ih es) λvs=>M.lst s vs
 | .dict s ks vs=>M.bind (M.new s (.dict 0 [])) λo=>M.bind (dN ih ks vs) λps=>M.gd (bf (ch ps) ps&&Nat.ble ps.length 16) (M.bind (M.fill o (ch ps) ps) λ_=>M.pure o)
 | .bin o a b=>M.bind (ih.e a) λx=>M.bind (ih.e b) λy=>M.opt (bZ o x y)
 | .rep s a b=>M.bind (ih.e a) λx=>M.bind (ih.e b) λy=>M.rep s x y
 | .neg a=>M.bind (ih.e a) λv=>M.oI v λi=>M.pure (.int (-i))
 | .not a=>M.bind (ih.e a) λv=>M.bind (M.opt (iG v)) λt=>M.pure (.bool (!t))
 | .and es=>lL ih es
 | .or es=>pM ih es
 | .cmp a os bs=>M.bind (ih.e a) λx=>M.bind (gq P ih x os bs) λt=>M.pure (.bool t)
 | .ite c a b=>M.bind (ih.b c) λt=>match t with|true=>ih.e a|false=>ih.e b
 | .attr a x=>M.bind (ih.e a) λv=>M.attr P v x
 | .sub a b=>M.bind (ih.e a) λx=>M.bind (ih.e b) λy=>M.item x y
 | .slice s a lo hi=>M.bind (ih.e a) λx=>M.bind (GQ ih lo) λl=>M.bind (GQ ih hi) λh=>M.slice s x l h
 | .call f args=>M.bind (kK ih args) λvs=>ih.c f vs
 | .new c s args=>M.bind (kK ih args) λvs=>M.make P ih c s vs
 | .meth o x args=>M.bind (ih.e o) λa=>M.bind (M.recv P a x) λmt=>M.bind (kK ih args) λvs=>M.meth ih mt a vs
 | .len a=>M.bind (ih.e a) λv=>M.len v
 | .hole=>M.fail
def stepT(e:Ex):M Bool:=match e with
 | .not a=>M.bind (ih.b a) λt=>M.pure (!t)
 | .and es=>ES ih es
 | .or es=>ER ih es
 | .ite c a b=>M.bind (ih.b c) λt=>match t with|true=>ih.b a|false=>ih.b b
 | .cmp a os bs=>M.bind (ih.e a) λx=>gq P ih x os bs
 |e=>M.bind (ih.e e) λv=>M.opt (iG v)
def execs:List Sm->M Fl
 | []=>M.pure .next
 |s::r=>M.bind (ih.s s) λf=>match f with
  | .next=>execs r
  | .ret v=>M.pure (.ret v)
noncomputable def bindAll:List Nat->List V->M Unit
 | [],vs=>M.gd vs.isEmpty (M.pure ())
 |x::xs,vs=>match vs with
  | []=>M.fail
  |v::vs=>M.bind (M.bindN x v) λ_=>bindAll xs vs
def assign(t:zZ)(v:V):M Unit:=match t with
 | .loc x=>M.bindN x v
 | .attr o x=>M.bind (ih.e o) λa=>M.setAttr a x v
 | .sub o i=>M.bind (ih.e o) λa=>M.bind (ih.e i) λk=>M.setItem a k v
 | .tup xs=>M.oT v λvs=>bindAll xs vs
def M.calm{α:Type}(m:M α):M α:=λσ=>match m σ with
 |some (.ok a,σ')=>some (.ok a,σ')
 |_=>none
def jn(s i:Nat)(vs:List V):M Unit:=M.bind (M.get s i) λo=>M.kL o λus=>M.gd (V.beqs us vs) (M.pure ())
noncomputable def bX (cy:M Unit) (t:zZ) (b:List Sm):List V->M Fl
 | []=>M.pure .next
 |v::r=>M.bind (assign ih t v) λ_=>M.bind (execs ih b) λf=>match f with
  | .next=>M.bind cy λ_=>bX cy t b r
  | .ret u=>M.pure (.ret u)
def bi(a:Int):Nat->List V
 |0=> []
 |n+1=> .int a::bi (a+1) n
def f0:List V->Option (List V)
 | []=>none
 |a::r=>oI a λa=>match r with
  | []=>gD (cA a) (some (bi 0 a.toNat))
  |b::r=>oI b λb=>gD (r.isEmpty&&(cA a&&cA b)) (some (bi a (b - a).toNat))
def M.restore{α:Type}(e:List (Nat×V))(m:M α):M α:=λσ=>match m σ with
 |some (.ok a,σ')=>some (.ok a,σ'.setE e)
 |some (.exc _ s i c,σ')=>some (.exc true s i c,σ'.setE e)
 |none=>none
def M.unE(x:Nat)(m:M Fl):M Fl:=M.bind (M.calm m) λf σ=>some (.ok f,σ.setE (lb x σ.env))
def M.handle(c x s i c':Nat)(h:M Fl):M Fl:=M.bind (M.get s i) λo=>M.kG o λLB fs=>M.gd (Nat.beq c c'&&Nat.beq c' LB) (M.bind (M.put s i (.caught c fs)) λ_=>M.bind (M.bindN x (.obj s i)) λ_=>M.unE x h)
def M.catch(c x:Nat)(m:M Fl)(h:M Fl):M Fl:=λσ=>match m σ with
 |none=>none
 |some p=>match p.1 with
  | .ok f=>some (.ok f,p.2)
  | .exc je s i c'=>M.gd je (M.handle c x s i c' h) p.2
def M.raise(c s i:Nat):M Fl:=M.bind (M.get s i) λo=>M.kI o λc' fs=>M.gd (P.isExc c'&&(Nat.beq c c'&& !fs.isEmpty)) λσ=>some (.exc false s i c',σ.put s i (.gone c' fs))
def M.makeExc(c s:Nat)(args:List V):M V:=M.of (P.init c) λo=>M.of o λf=>M.gd (P.isExc c&&Nat.ble args.length ay) (M.made ih c s f args)
def oi(s:Sm):M Fl:=match s with
 | .expr e=>M.bind (ih.e e) λ_=>M.pure .next
 | .asg t e=>M.bind (ih.e e) λv=>M.bind (assign ih t v) λ_=>M.pure .next
 | .augN x o e=>M.bind (M.loc x) λa=>M.bind (ih.e e) λb=>M.bind (M.opt (ou o a b)) λv=>M.bind (M.bindN x v) λ_=>M.pure .next
 | .augA a x o e=>M.bind (ih.e a) λq=>M.bind (M.attr P q x) λu=>M.bind (ih.e e) λb=>M.bind (M.opt (ou o u b)) λv=>M.bind (M.setAttr q x v) λ_=>M.pure .next
 | .ite c t e=>M.bind (ih.b c) λb=>match b with|true=>execs ih t|false=>execs ih e
 | .wh c b=>M.calm (M.bind (ih.b c) λt=>match t with
  |false=>M.pure .next
  |true=>M.bind (execs ih b) λf=>match f with
   | .next=>ih.s (.wh c b)
   | .ret v=>M.pure (.ret v))
 | .for t it b=>match it with
  | .range args=>M.bind (kK ih args) λvs=>M.of (f0 vs) λl=>M.calm (bX ih (M.pure ()) t b l)
  | .over e=>M.bind (ih.e e) λv=>match v with
   | .tup vs=>M.calm (bX ih (M.pure ()) t b vs)
   | .obj s i=>M.bind (M.get s i) λo=>M.kL o λvs=>M.gd (Nat.ble vs.length ay) (M.calm (bX ih (jn s i vs) t b vs))
   |_=>M.fail
 | .ret none=>M.pure (.ret .none)
 | .ret (some e)=>M.bind (ih.e e) λv=>M.pure (.ret v)
 | .try b c x h=>M.catch c x (execs ih b) (execs ih h)
 | .raise c s args=>M.bind (kK ih args) λvs=>M.bind (M.makeExc P ih c s vs) λo=>M.oR o (M.raise P c)
 | .hole=>M.fail
noncomputable def pa:List Nat->List V->Option (List (Nat×V))
 | [],vs=>gD vs.isEmpty (some [])
 |x::xs,vs=>match vs with
  | []=>none
  |v::vs=>(pa xs vs).map ((x,v)::·)
def rM(f:Nat)(args:List V):M V:=M.of (P.fn f) λfn=>M.of (pa fn.params args) λenv=>M.bind M.env λkU=>M.restore kU (M.bind (M.setE env) λ_=>M.bind (execs ih fn.body) λr=>match r with
   | .next=>M.pure .none
   | .ret v=>M.pure v)
end
noncomputable def run (P:PT):Nat->Ih
 |0=>⟨λ_=>M.fail,λ_=>M.fail,λ_=>M.fail,λ_ _=>M.fail⟩
 |n+1=>⟨lX P (run P n),stepT P (run P n),oi P (run P n),rM P (run P n)⟩
end Mine
end
section
namespace Mine
open PySem PySem.W PyProof.Rows PySem.Calls
structure Kn where
 at_:Nat->Nat->Bool->Option Addr
 tup:Addr->Option (List Value)
structure Kn.Le(a b:Kn):Prop where
 at_:∀{s i c x},a.at_ s i c=some x->b.at_ s i c=some x
 tup:∀{x vs},a.tup x=some vs->b.tup x=some vs
theorem Kn.Le.refl(a:Kn):a.Le a:=⟨id,id⟩
theorem Kn.Le.trans{a b c:Kn}(x:a.Le b)(y:b.Le c):a.Le c:=⟨λh=>y.at_ (x.at_ h),λh=>y.tup (x.tup h)⟩
structure SW where
 prog:Program
 w:World
 K:Frag
 base:Heap
 P:PT
 nm:Nat->Str
 cls:Nat->Option Addr
 gl:Nat->Option Addr
 mg:Str->Option Value
 mb:Str->Option Value
 p:Program
 loose:List Str
 gens:Array GenState
 os:OsState
 X:K.In base
 T:TopRead p loose mg mb base
 lim:base.NoLimit
 inj:∀x y,nm x=nm y->x=y
section
variable(W:SW)(κ:Kn)
mutual
def VR:V->Value->Prop
 | .none,v=>v= .none
 | .bool b,v=>v= .bool b
 | .int i,v=>∃t,v= .int i t
 | .str l,v=>∃t,v= .str ⟨l.toArray⟩ t
 | .tup vs,v=>∃a xs,v= .ref a/\κ.tup a=some xs/\cI vs xs
 | .obj s i,v=>∃a,v= .ref a/\κ.at_ s i false=some a
 | .glob g,v=>∃a,v= .ref a/\W.gl g=some a
def cI:List V->List Value->Prop
 | [],l=>l= []
 |v::vs,l=>∃x xs,l=x::xs/\VR v x/\cI vs xs
end
end
section
variable{W:SW}{κ cL:Kn}
mutual
theorem VR.mono(le:κ.Le cL):∀{v:V} {x:Value},VR W κ v x->VR W cL v x
 | .none,_,h=>h
 | .bool _,_,h=>h
 | .int _,_,h=>h
 | .str _,_,h=>h
 | .tup _,_,h=>by
  (refine a9 h λa xs e h1 h2=>?_;clear h)
  exact(aZ a xs e (le.tup h1) (cI.mono le h2))
 | .obj _ _,_,h=>by
  (refine U h λa e h1=>?_;clear h)
  exact(al a e (le.at_ h1))
 | .glob _,_,h=>h
theorem cI.mono(le:κ.Le cL):∀{vs:List V} {xs:List Value},cI W κ vs xs->cI W cL vs xs
 | [],_,h=>h
 |_::_,_,h=>by
  (refine a9 h λx xs e h1 h2=>?_;clear h)
  exact(aZ x xs e (VR.mono le h1) (cI.mono le h2))
end
theorem cI.length:∀{vs:List V} {xs:List Value},cI W κ vs xs->vs.length=xs.length:=by
 intro vs
 induction vs with
 |nil=>intro _ h;subst h;rfl
 |cons _ vs ih=>
  intro _ h
  (refine a9 h λx xs q3 _ h2=>?_;clear h;subst q3)
  simp[ih h2]
theorem cI.nth:∀{vs:List V} {xs:List Value} {n:Nat} {v:V},cI W κ vs xs->Mine.nth vs n=some v->∃x,xs[n]? =some x/\VR W κ v x:=by
 intro vs
 induction vs with
 |nil=>intro _ _ _ _ h;cases h
 |cons u vs ih=>
  intro _ n v h e
  (refine a9 h λx xs q3 h1 h2=>?_;clear h;subst q3)
  cases n with
  |zero=>obtain rfl:=Yi e;exact(al x rfl h1)
  |succ n=>exact ih (n:=n) h2 e
theorem cI.append:∀{vs us:List V} {xs ys:List Value},cI W κ vs xs->cI W κ us ys->cI W κ (vs++us) (xs++ys):=by
 intro vs
 induction vs with
 |nil=>intro _ _ _ h h';subst h;exact h'
 |cons _ _ ih=>
  intro _ _ _ h h'
  (refine a9 h λx xs q3 h1 h2=>?_;clear h;subst q3)
  exact(aZ x _ rfl h1 (ih h2 h'))
theorem cI.single(h:VR W κ v x):cI W κ [v] [x]:=by exact(aZ x ([]) rfl h rfl)
theorem cI.take:∀{vs:List V} {xs:List Value} (n:Nat),cI W κ vs xs->cI W κ (vs.take n) (xs.take n):=by
 intro vs
 induction vs with
 |nil=>intro _ n h;subst h;simp[cI]
 |cons _ _ ih=>
  intro _ n h
  (refine a9 h λx xs q3 h1 h2=>?_;clear h;subst q3)
  cases n with
  |zero=>dsimp[cI]
  |succ n=>exact(aZ x _ rfl h1 (ih n h2))
theorem cI.drop:∀{vs:List V} {xs:List Value} (n:Nat),cI W κ vs xs->cI W κ (vs.drop n) (xs.drop n):=by
 intro vs
 induction vs with
 |nil=>intro _ n h;subst h;simp[cI]
 |cons _ _ ih=>
  intro _ n h;have h0:=h
  (refine a9 h λx xs q3 h1 h2=>?_;clear h;subst q3)
  cases n with
  |zero=>exact h0
  |succ n=>exact ih n h2
theorem cI.setNth:∀{vs:List V} {xs:List Value} {v:V} {x:Value} (n:Nat),cI W κ vs xs->VR W κ v x->cI W κ (Mine.setNth v vs n) (xs.set n x):=by
 intro vs
 induction vs with
 |nil=>intro _ _ _ n h _;subst h;rfl
 |cons _ _ ih=>
  intro _ v x n h hv
  (refine a9 h λy xs q3 h1 h2=>?_;clear h;subst q3)
  cases n with
  |zero=>exact(aZ x _ rfl hv h2)
  |succ n=>exact(aZ y _ rfl h1 (ih n h2 hv))
theorem cI.replicate(h:VR W κ v x):∀n,cI W κ (List.replicate n v) (List.replicate n x)
 |0=>by rfl
 |n+1=>by exact(aZ x _ rfl h (cI.replicate h n))
end
noncomputable def bU (d:Addr) (o:Obj):List (Addr×Obj)->List (Addr×Obj)
 | []=> []
 |p::r=>if p.1=d then(d,o)::r else p::bU d o r
theorem XK(d:Addr)(o:Obj):bU d o []= []:=rfl
theorem H4(d:Addr)(o:Obj)(p:Addr×Obj)(r:List (Addr×Obj)):bU d o (p::r)=if p.1=d then(d,o)::r else p::bU d o r:=rfl
set_option tactic.hygienic true in
theorem cH(d:Addr)(o:Obj):∀l,(bU d o l).map (·.1)=l.map (·.1)
 | []=>rfl
 |p::r=>by
  rw[H4];split
  ·rename_i h;simp[h]
  ·simp[cH d o r]
set_option tactic.hygienic true in
theorem jU:∀{l l':List (Addr×Obj)},d∈l.map (·.1)->bU d o (l++l')=bU d o l++l':=by
 intro l
 induction l with
 |nil=>intro _ h;exact nomatch h
 |cons p r ih=>
  intro l' h;dsimp only[List.cons_append,H4];split
  ·rfl
  ·rename_i hn;rcases X9.mp h with e|h
   ·exact absurd e.symm hn
   ·rw[ih h];rfl
set_option tactic.hygienic true in
theorem bQ:∀{l:List (Addr×Obj)},p∈l->p.1≠d->p∈bU d o l
 |q::r,h,hn=>by
  rw[H4];split
  ·rename_i e;rcases X9.mp h with rfl|h
   ·exact absurd e hn
   ·exact .tail _ h
  ·rcases X9.mp h with rfl|h
   ·exact .head _
   ·exact .tail _ (bQ h hn)
set_option tactic.hygienic true in
theorem aH:∀{l:List (Addr×Obj)},d∈l.map (·.1)->(d,o)∈bU d o l:=by
 intro l
 induction l with
 |nil=>intro h;exact nomatch h
 |cons q r ih=>
  intro h;rw[H4];split
  ·exact .head _
  ·rename_i hn;rcases X9.mp h with e|h
   ·exact absurd e.symm hn
   ·exact .tail _ (ih h)
theorem aV{l:List (Addr×Obj)}(h:(d,o)∈l):d∈l.map (·.1):=YD.mpr (al _ h rfl)
theorem cK:∀{l:List (Addr×Obj)},(l.map (·.1)).Nodup->(d,o)∈l->(d,o')∈l->o=o'
 |p::r,hn,h,h'=>by
  rw[Yn,Yu]at hn;rcases X9.mp h with e|h<;>rcases X9.mp h' with e'|h'
  ·rw[e.symm]at e';exact(zab e').2.symm
  ·exact absurd (aV h') (by rw[<-e]at hn;exact hn.1)
  ·exact absurd (aV h) (by rw[<-e']at hn;exact hn.1)
  ·exact cK hn.2 h h'
set_option tactic.hygienic true in
theorem pj(o':Obj):∀{l:List (Addr×Obj)},(l.map (·.1)).Nodup->(d,o)∈l->Upd d o o' l (bU d o' l):=by
 intro l
 induction l with
 |nil=>intros;contradiction
 |cons p r ih=>
  intro hn h;rw[Yn,Yu]at hn;rw[H4];split
  ·rename_i e;have:p=(d,o):=by
    rcases X9.mp h with e'|h
    ·exact e'.symm
    ·exact absurd (e ▸ aV h) hn.1
   subst this;exact .head λq hq e'=>hn.1 (YD.mpr (al q hq e'))
  ·rename_i uo;rcases X9.mp h with e'|h
   ·exact absurd (by(refine(e') ▸ rfl)) uo
   ·exact .tail uo (ih hn.2 h)
theorem ju:∀{l:List (Addr×Obj)},(l.map (·.1)).Nodup->(d,o)∈l->UpdF d o l (λo'=>bU d o' l):=by
 intro l
 induction l with
 |nil=>intros;contradiction
 |cons p r ih=>
  intro hn h;rw[Yn,Yu]at hn;by_cases e:p.1=d
  ·have:p=(d,o):=by
    rcases X9.mp h with e'|h
    ·exact e'.symm
    ·exact absurd (e ▸ aV h) hn.1
   subst this;rw[(show(λo'=>bU d o' ((d,o)::r))=λo'=>(d,o')::r from by funext o';simp[H4])];exact .head λq hq e'=>hn.1 (YD.mpr (al q hq e'))
  ·skip;rw[(show(λo'=>bU d o' (p::r))=λo'=>p::bU d o' r from by funext o';simp[H4,e])];rcases X9.mp h with e'|h
   ·exact absurd (by(refine(e') ▸ rfl)) e
   ·exact .tail e (ih hn.2 h)
def T6(o:Obj)(m:Str->Option Value):Prop:=∃es ep,o.data= .dict es ep/\StrKeys es/\∀name,nsFind es name=m name
theorem pD{h:Heap}:h.Ns L m↔∃o,h.get? L=some o/\T6 o m:=
 ⟨λh=>uS h λo es ep a b=>⟨o,a,es,ep,b⟩,λh=>U h λo a q=>iQ q λes ep b=>I6 o es ep a b⟩
def Cl(o:Obj)(vs:List Value):Prop:=o.cls= .type "tuple"/\o.dict=none/\∃n,o.data= .seq vs.toArray n
section
variable(W:SW)(κ:Kn)(aw:List (Addr×Obj))
def bC(t:Addr):Data:= .fields #[.ref t, .none, .none, .none, .bool false, .none]
def c7:List (Nat×V)->List DictEntry->Prop
 | [],es=>es= []
 |(x,v)::fs,es=>∃e r,es=e::r/\(∃t,e.key= .str (W.nm x) t)/\VR W κ v e.val/\c7 fs r
end
end Mine
end
section
namespace Mine
open PySem PySem.W PyProof.Rows PySem.Calls PySem.Spec
abbrev dR:=List (Int⊕List Int)
section
variable{prog:Program}{w:World}
inductive cG(prog:Program)(w:World)(h:Heap):dR->List Value->Prop
 |nil:cG prog w h [] []
 |int {i t ks vs}:cG prog w h ks vs->cG prog w h (.inl i::ks) (.int i t::vs)
 |tup {l b ks vs}:IsTupleKey (PySem.intKind prog w) h l b->cG prog w h ks vs->cG prog w h (.inr l::ks) (.ref b::vs)
def iy(prog:Program)(w:World)(h:Heap)(k:dR)(a:Addr):Prop:=∃o dy n,h.get? a=some o/\o.cls= .type "tuple"/\o.data= .seq dy n/\cG prog w h k dy.toList
theorem iy.typeIs{s:Shared}(x:iy prog w s.heap k a):s.TypeIs (.ref a) "tuple":=Exists.elim x λo h=>h.elim λ_ h=>h.elim λ_ h=>al o h.1 h.2.1
theorem cG.inj(hx:cG prog w h x vs)(hy:cG prog w h y vs):x=y:=by
 induction hx generalizing y with
 |nil=>cases hy;rfl
 |int _ ih=>cases hy with|int t=>rw[ih t]
 |tup h1 _ ih=>cases hy with|tup h2 t=>rw[ih t,h1.inj h2]
theorem iy.inj(hx:iy prog w h x a)(hy:iy prog w h y a):x=y:=by
 (refine nI hx λo dy n ho _ hd hi=>?_;clear hx)
 (refine nI hy λo' R7 n' n0 _ nq zW=>?_;clear hy)
 obtain rfl:o=o':=Yi (ho.symm.trans n0);rw[hd]at nq;injection nq with h1 _;subst h1;exact hi.inj zW
theorem cG.keeps(ho:h.get? d=some o)(hd:o.data= .dict es ep)(hs:Heap.SameBut d h h'):∀{k:dR} {vs:List Value},cG prog w h k vs->cG prog w h' k vs:=by
 intro k vs x
 induction x with
 |nil=>exact .nil
 |int _ i=>exact .int i
 |tup y _ i=>exact .tup (y.keeps ho hd hs) i
theorem iy.keeps(x:iy prog w h k a)(ho:h.get? d=some o)(hd:o.data= .dict es ep)(hs:Heap.SameBut d h h'):iy prog w h' k a:=by
 (refine nI x λo' dy n n0 hc nq hi=>?_;clear x)
 exact(pg o' dy n ((hs.2 a (by
  rintro rfl;obtain rfl:o'=o:=Yi (n0.symm.trans ho);rw[hd]at nq;exact nomatch nq)).trans n0) hc nq (hi.keeps ho hd hs))
noncomputable def eN (prog:Program) (w:World):Int⊕List Int->Int
 | .inl i=>(PySem.intKind prog w).hash i
 | .inr l=>tupleKeyHash (PySem.intKind prog w) l
def uW(prog:Program)(w:World)(k:dR):Int:=reduceHash (Builtin.Tuple.tupleHashOf (k.map (eN prog w)))
def lx:Int⊕List Int->Nat
 | .inl _=>1
 | .inr l=>l.length+1
def pU(k:dR):Nat:=(k.map lx).sum+1
noncomputable def lQ:Int⊕List Int->PyData
 | .inl i=> .int i
 | .inr l=> .tuple (l.map .int)
def K5(k:dR):PyData:= .tuple (k.map lQ)
variable{A:Around}{E:Value->Shared->Prop}{s:Shared}
theorem nb:∀{l:List Int} {vs:List Value},PySem.ItemsAre (PySem.intKind prog w) l vs->ReadsAll h vs (l.map .int) []:=by
 intro l vs x
 induction x with
 |nil=>exact .nil
 |cons h1 _ i=>
  obtain⟨tk,rfl⟩:=PySem.Value.isInt_shape h1;exact ReadsAll.cons (Reads.int _ _) i
theorem m5(x:IsTupleKey (PySem.intKind prog w) h l b):∃as,Reads h (.ref b) (.tuple (l.map .int)) as:=by
 (refine nI x λo dy n ho hc hd hi=>?_;clear x)
 exact(iP _ (Reads.tuple ho hc hd (nb hi)))
theorem qw:∀{k:dR} {vs:List Value},cG prog w h k vs->∃as,ReadsAll h vs (k.map lQ) as:=by
 intro k vs x
 induction x with
 |nil=>exact iP _ .nil
 |int _ i=>exact i.elim λ_ r=>iP _ (.cons (.int _ _) r)
 |tup y _ i=>exact i.elim λ_ r=>(m5 y).elim λ_ r'=>iP _ (.cons r' r)
theorem r7(x:iy prog w h k a):∃as,Reads h (.ref a) (K5 k) as:=by
 (refine nI x λo dy n ho hc hd hi=>?_;clear x)
 obtain⟨as,r⟩:=qw hi;exact(iP _ (Reads.tuple ho hc hd r))
theorem sR:∀l:List Int,PyData.canLayAll0 (l.map PyData.int)=true
 | []=>by rfl
 |n::r=>by simp[PyData.canLayAll0,PyData.canLay0,sR r]
theorem oU:∀l:List Int,PyData.depthAll (l.map PyData.int)<=1
 | []=>by simp[PyData.depthAll]
 |n::r=>by
  have:=oU r;exact‹_›
theorem pV:∀k:dR,PyData.canLayAll0 (k.map lQ)=true
 | []=>by rfl
 | .inl n::r=>by simp[PyData.canLayAll0,PyData.canLay0,lQ,pV r]
 | .inr l::r=>by simp[PyData.canLayAll0,PyData.canLay0,lQ,pV r,sR l]
theorem mC:∀k:dR,PyData.depthAll (k.map lQ)<=2
 | []=>by simp[PyData.depthAll]
 | .inl n::r=>by
  have:=mC r;exact‹_›
 | .inr l::r=>by
  simp only[Yn,PyData.depthAll,lQ,PyData.depth];exact Nat.max_le.mpr ⟨YX (oU l),mC r⟩
theorem Bw(k:dR):PyData.canLay0 (K5 k)=true:=by exact pV k
theorem E4(k:dR):(K5 k).depth<=3:=by have:=mC k;exact ZH ‹_›
theorem sQ:∀x y:List Int,PyData.eqvAll (x.map PyData.int) (y.map PyData.int)=decide (x=y)
 | [], []=>by rfl
 | [],_::_=>by rfl
 |_::_, []=>by rfl
 |n::r,k::q=>by
  simp only[Yn,PyData.eqvAll,PyData.eqv,sQ r q];by_cases h:n=k<;>simp[h]
theorem E5:∀x y:dR,PyData.eqvAll (x.map lQ) (y.map lQ)=decide (x=y):=by
 intro x
 induction x with
 |nil=>intro y;cases y<;>rfl
 |cons a r i=>
  intro y;cases y with
  |nil=>cases a<;>rfl
  |cons b q=>
   cases a with
   |inl n=>cases b with
    |inl k=>
     simp only[Yn,PyData.eqvAll,lQ,PyData.eqv,i];by_cases h:n=k<;>simp[h]
    |inr k=>rfl
   |inr n=>cases b with
    |inl k=>rfl
    |inr k=>
     simp only[Yn,PyData.eqvAll,lQ,PyData.eqv,i,sQ];by_cases h:n=k<;>simp[h]
theorem Jf(x y:dR):PyData.eqv (K5 x) (K5 y)=decide (x=y):=by exact E5 x y
theorem yJ(hu:A.units+8<cLine)(hx:iy prog w s.heap x a)(hy:iy prog w s.heap y b)(h:Q (decide (x=y)) s):
  wpAny (model prog w) A (eqBool (.ref a) (.ref b)) Q E s:=by
 refine eY (r7 hx) λas ra=>?_;refine eY (r7 hy) λbs rb=>?_;exact PySem.SeqAt.eqBoolOverData prog w A E s _ _ _ _ as bs Q ra rb (Bw x) (Bw y) (YJ (Yx (Yc (Nat.min_le_left ..) (Yc (E4 x) ak)) _) hu) (by rw[Jf];exact h)
theorem CA(hk:iy prog w s.heap k a)(h:Q true s):wpAny (model prog w) A (eqIsQuiet 8 (.ref a)) Q E s:=by
 have hT:=hk.typeIs
 (refine nI hk λo dy n ho _ hd hi=>?_;clear hk)
 unfold eqIsQuiet;refine Yb (zaG hT F.slot_tuple_eq.lookup ?_);refine Yb (wpAny_isInstance hT isSubtype_tuple_tuple ?_);refine Yb (wpAny_seqItems ho hd ?_);refine Yb ?_;rw[<-zaW];refine wpAny_forIn_list _ (λrest r s'=>r.1=none/\s'=s/\∃ks,cG prog w s.heap ks rest) _ ?_ ?_ _ _ ⟨rfl,rfl,k,hi⟩
 ·rintro v rest r s' ⟨hr,rfl,ks,nE⟩;cases nE with
  |int t=>
   rw[eqIsQuiet_byValue _ rfl];refine Yb (Yp ?_);exact Yp ⟨rfl,rfl,_,t⟩
  |tup h1 t=>
   have hT:=h1.typeIs
   (refine nI h1 λo dy n ho _ hd hi=>?_;clear h1)
   refine Yb ?_;unfold eqIsQuiet;refine Yb (zaG hT F.slot_tuple_eq.lookup ?_);refine Yb (wpAny_isInstance hT isSubtype_tuple_tuple ?_);refine Yb (wpAny_seqItems ho hd ?_);refine Yb ?_;rw[<-zaW];refine wpAny_forIn_list _ (λrest r K7=>r.1=none/\K7=s'/\∀v∈rest,carriedByValue v=true) _ ?_ ?_ _ _ (gA rfl rfl (hi.byValue))
   ·rintro v rest r K7 ⟨hr,rfl,nE⟩
    (refine(eqIsQuiet_byValue _ (nE v List.mem_cons_self)).symm ▸?_)
    refine Yb (Yp ?_);exact Yp (gA rfl rfl (λu Lk=>nE u (Yy _ Lk)))
   ·rintro ⟨r1,r2⟩ K7 ⟨hr,rfl,_⟩;subst hr;refine Yp ?_;exact Yp ⟨rfl,rfl,_,t⟩
 ·rintro ⟨r1,r2⟩ s' ⟨hr,rfl,_⟩;subst hr;exact Yp h
theorem yI(hu:A.units+8<cLine)(hk:iy prog w s.heap k a)(h:Q (uW prog w k) {s with toks:=s.toks+pU k}):
  wpAny (model prog w) A (pyHash (.ref a)) Q E s:=by
 have hT:=hk.typeIs
 (refine nI hk λo dy n ho _ hd hi=>?_;clear hk)
 first|skip|skip
 first|refine Yb (wpAny_cRoomFor_or (.inr (YJ (Ym ..) hu)) ?_)|skip
 refine Yb (zaG hT zaq.lookup ?_);rw[YM (by rw[beq_builtin_none];exact ZX)];refine Yb (zaG hT zaq.lookup ?_);refine Yb (wpAny_callSpecialIfBoundUnlessNone?_slot hT zaq (wpAny_call_entry zaq hT F.entry_tuple_hash ?_ (F.args_tuple_hash_1 _)));show wpAny _ _ (Builtin.Tuple.tupleItemsOf (.ref a)>>=_) _ _ s;refine Yb (wpAny_tupleItemsOf ho hd ?_);refine Yb ?_;rw[<-zaW];refine wpAny_forIn_list _
  (λrest (b:Array Int) s'=>∃done left,k=done++left/\cG prog w s.heap left rest/\b.toList=done.map (eN prog w)/\s'={s with toks:=s.toks+(done.map lx).sum})
  _ ?_ ?_ _ _ (cj ([]) k rfl hi rfl rfl)
 ·rintro x rest b s' ⟨done,left,rfl,hl,hb,rfl⟩;cases hl with
  | @int i t Lf _ Ag=>
   refine Yb ((PySem.intKind prog w).pyHash (k:=i) (Y5 _ _ _ _) ?_)
   first
    |exact Yp ((cj (done++ [.inl i]) Lf (by simp) Ag (by simp[hb,eN]) (by simp[lx,Y0])))
    |exact Yb (Yp (Yp ((cj (done++ [.inl i]) Lf (by simp) Ag (by rfl) (by rfl)))))
  | @tup l c Lf _ h1 Ag=>
   refine Yb (wpAny_pyHash_tuple (knd:=PySem.intKind prog w) (ks:=l) ?_ h1 ?_)
   ·exact YJ (Yx (by decide:1<=8) _) hu
   first
    |exact Yp ((cj (done++ [.inr l]) Lf (by simp) Ag (by simp[hb,eN]) (by simp[lx,Y0])))
    |exact Yb (Yp (Yp (⟨done++ [.inr l],Lf,by simp,Ag,by rfl,by rfl⟩)))
 ·rintro b s' ⟨done,left,rfl,hl,hb,rfl⟩;cases hl;rw[Yt]at h;show wpAny _ _ (retInt (Builtin.Tuple.tupleHashOf b.toList)) _ _ _;rw[hb];refine wpAny_ret_mkInt ?_;show wpAny _ _ (if (decide (-(2:Int)^63<=Builtin.Tuple.tupleHashOf (done.map (eN prog w)))&&decide (Builtin.Tuple.tupleHashOf (done.map (eN prog w))<2^63))=true then _ else _) Q E _;unfold uW reduceHash pU at h;by_cases hr:(decide (-(2:Int)^63<=Builtin.Tuple.tupleHashOf (done.map (eN prog w)))&&decide (Builtin.Tuple.tupleHashOf (done.map (eN prog w))<2^63))=true
  ·rw[Ze hr];rw[Ze hr]at h;exact Yp (by simpa [Y0]using h)
  ·rw[YM hr];rw[YM hr]at h;exact Yb (wpAny_rule (Yp (by simpa [Y0]using h)))
def fc(prog:Program)(w:World):HeapKind prog w dR where
 is:=iy prog w
 hash:=uW prog w
 draws:=pU
 room:=λA=>A.units+8<cLine
 inj:=λhx hy=>hx.inj hy
 keeps:=λx ho hd hs=>x.keeps ho hd hs
 pyHash:=λhu hk h=>yI hu hk h
 eqBool:=λhu hx hy h=>yJ hu hx hy h
 quiet:=λhk h=>CA hk h
end
end Mine
end
section
namespace Mine
open PySem PySem.W PyProof.Rows PySem.Calls
section
variable{K:Type} [DecidableEq K](R:V->K->Prop)(S:V->Value->Prop)
def KV:List (V×V)->List (K×Value)->Prop
 | [],l=>l= []
 |p::es,l=>∃q r,l=q::r/\R p.1 q.1/\S p.2 q.2/\KV es r
variable{R S}
theorem KV.length:∀{es:List (V×V)} {bt:List (K×Value)},KV R S es bt->es.length=bt.length:=by
 intro es
 induction es with
 |nil=>intro _ h;subst h;rfl
 |cons _ es ih=>
  intro _ h
  (refine iQ h λq r q=>?_;obtain⟨rfl,_,_,h⟩:=q)
  simp[ih h]
variable(hR:∀{p p':V} {k k':K},R p k->R p' k'->(p=p'↔k=k'))
include hR
theorem KV.look(hp:R p k):∀{es:List (V×V)} {bt:List (K×Value)},KV R S es bt->match aO p es with|some u=>∃x,valueAt bt k=some x/\S u x|none=>valueAt bt k=none:=by
 intro es
 induction es with
 |nil=>intro _ h;subst h;rfl
 |cons e es ih=>
  intro _ h
  (refine cT h λq r q3 h1 h2 h3=>?_;clear h;subst q3)
  dsimp only[PU];cases hb:e.1.beq p with
  |true=>
   have:=(hR h1 hp).mp (V.beq_iff.mp hb);exact(al (q.2) (by simp[valueAt,this]) h2)
  |false=>
   simpa [valueAt,zae,(show¬q.1=k fromλe=>by have:=V.beq_iff.mpr ((hR h1 hp).mpr e);rw[hb]at this;exact nf this)]using(ih h3)
omit hR in
theorem te{k:K}(hn:((q::r).map (·.1)).Nodup):stored (q::r) k v=if q.1=k then(q.1,v)::r else q::stored r k v:=by
 rw[Yn,Yu]at hn;by_cases h:q.1=k
 ·rw[Ze h]
  simp only[stored,zas,h,decide_true,Bool.true_or,if_true,Yn,(by
   exact(List.map_congr_left (show∀x∈r,(if x.1=k then(x.1,v)else x)=x fromλx hx=>by
    rw[YM];intro e;exact hn.1 (YD.mpr (al x hx (e.trans h.symm))))).trans (List.map_id r))]
 ·rw[YM h];simp only[stored,zas,h,decide_false,zat,Yn];split<;>rfl
theorem KV.put(hp:R p k)(hu:S u x):∀{es:List (V×V)} {bt:List (K×Value)},(bt.map (·.1)).Nodup->KV R S es bt->KV R S (eX p u es) (stored bt k x):=by
 intro es
 induction es with
 |nil=>
  intro _ _ h;subst h;exact(cj ((k,x)) ([]) rfl hp hu rfl)
 |cons e es ih=>
  intro _ hn h
  (refine cT h λq r q3 h1 h2 h3=>?_;clear h;subst q3)
  rw[te hn];dsimp only[K8];cases hb:e.1.beq p with
  |true=>
   rw[Ze ((hR h1 hp).mp (V.beq_iff.mp hb))];exact(cj _ _ rfl h1 hu h3)
  |false=>
   rw[YM (λe=>by have:=V.beq_iff.mpr ((hR h1 hp).mpr e);rw[hb]at this;exact nf this)];rw[Yn,Yu]at hn;exact(cj _ _ rfl h1 h2 (ih hn.2 h3))
omit hR in
theorem KV.mono(hS:∀u x,S u x->S' u x):∀{es:List (V×V)} {bt:List (K×Value)},KV R S es bt->KV R S' es bt:=by
 intro es
 induction es with
 |nil=>intro _ h;exact h
 |cons _ es ih=>
  intro _ h
  (refine cT h λq r q3 h1 h2 h3=>?_;clear h;subst q3)
  exact(cj q r rfl h1 (hS _ _ h2) (ih h3))
end
def RS(p:V)(k:Str):Prop:=∃l,p= .str l/\k=⟨l.toArray⟩
def RI(p:V)(k:Int):Prop:=p= .int k
theorem RS.iff(h:RS p k)(h':RS p' k'):p=p'↔k=k':=by
 (refine U h λl q2 q3=>?_;clear h;subst q2;subst q3)
 (refine U h' λl' q2 q3=>?_;clear h';subst q2;subst q3)
 simp
theorem RI.iff(h:RI p k)(h':RI p' k'):p=p'↔k=k':=by
 subst h;subst h';simp
noncomputable def rX:V->Int
 | .int i=>i
 |_=>0
def lZ:V->Int⊕List Int
 | .int i=> .inl i
 | .tup us=> .inr (us.map rX)
 |_=> .inl 0
def Mf:V->dR
 | .tup vs=>vs.map lZ
 |_=> []
def RT(p:V)(k:dR):Prop:=cP p=3/\k=Mf p
theorem zm:∀{l l':List V},l.all isInt=true->l'.all isInt=true->l.map rX=l'.map rX->l=l':=by
 intro l
 induction l with
 |nil=>
  intro l' _ _ h;cases l' with
  |nil=>rfl
  |cons _ _=>exact nomatch h
 |cons a l i=>
  intro l' h h' e;cases l' with
  |nil=>exact nomatch e
  |cons b l'=>
   have h:=X5.mp h;have h':=X5.mp h'
   (refine(i h.2 h'.2 (Z9 e).2).symm ▸?_)
   have ha:=h.1;have hb:=h'.1;skip;clear h h' i;cases a with
   |int x=>cases b with
    |int y=>(refine((show x=y from((Z9 e).1))).symm ▸ rfl)
    |_=>exact nf hb
   |_=>exact nf ha
theorem zk(ha:cF a=true)(hb:cF b=true)(h:lZ a=lZ b):a=b:=by
 cases a<;>simp only[cF]at ha<;>first|cases ha|skip
 all_goals (cases b<;>simp only[cF]at hb<;>first|cases hb|skip)
 all_goals skip
 ·cases h;rfl
 ·cases h
 ·cases h
 ·injection h with h;rw[zm ha hb h]
theorem sM:∀{l l':List V},l.all cF=true->l'.all cF=true->l.map lZ=l'.map lZ->l=l'
 | [], [],_,_,_=>rfl
 | [],_::_,_,_,h=>by simp at h
 |_::_, [],_,_,h=>by simp at h
 |a::l,b::l',h,h',e=>by
  simp only[Zs,Ye]at h h';simp only[Yn,List.cons.injEq]at e;rw[sM h.2 h'.2 e.2,zk h.1 h'.1 e.1]
set_option tactic.hygienic true in
theorem i9(h:cP p=3):∃vs,p= .tup vs/\vs.all cF=true:=by
 cases p<;>dsimp only[cP]at h<;>first|cases h|skip
 rename_i vs;refine cY (vs.all cF) (λhv=>?_) λhv=>?_
 ·exact(al vs rfl hv)
 ·rw[hv]at h;cases h
theorem RT.iff(h:RT p k)(h':RT p' k'):p=p'↔k=k':=by
 obtain⟨h1,rfl⟩:=h;obtain⟨h2,rfl⟩:=h'
 (refine U (i9 h1) λvs q2 hv=>?_;subst q2)
 (refine U (i9 h2) λus q2 hu=>?_;subst q2)
 refine⟨λe=>by rw[e],λe=>?_⟩;rw[sM hv hu e]
section
variable(S:V->Value->Prop)
def KT:List (V×V)->List (dR×Addr×Value)->Prop
 | [],l=>l= []
 |p::es,l=>∃q r,l=q::r/\RT p.1 q.1/\S p.1 (.ref q.2.1)/\S p.2 q.2.2/\KT es r
variable{S}
theorem KT.length:∀{es:List (V×V)} {xs:List (dR×Addr×Value)},KT S es xs->es.length=xs.length:=by
 intro es
 induction es with
 |nil=>intro _ h;subst h;rfl
 |cons _ es ih=>
  intro _ h
  (refine iQ h λq r q=>?_;obtain⟨rfl,_,_,_,h⟩:=q)
  simp[ih h]
theorem KT.look(hp:RT p k):∀{es:List (V×V)} {xs:List (dR×Addr×Value)},KT S es xs->match aO p es with|some u=>∃x,atKey xs k=some x/\S u x.2|none=>atKey xs k=none:=by
 intro es
 induction es with
 |nil=>intro _ h;subst h;rfl
 |cons e es ih=>
  intro _ h
  (refine nJ h λq r q3 h1 h0 h2 h3=>?_;clear h;subst q3)
  dsimp only[PU];cases hb:e.1.beq p with
  |true=>
   have:=(RT.iff h1 hp).mp (V.beq_iff.mp hb);exact(al (q.2) (by simp[atKey,this]) h2)
  |false=>
   have hn:¬q.1=k:=λe=>by have:=V.beq_iff.mpr ((RT.iff h1 hp).mpr e);rw[hb]at this;exact nf this
   simpa [atKey,zae,hn]using(ih h3)
theorem qy{k:dR}(hn:((q::r).map (·.1)).Nodup):storedH (q::r) k a v=if q.1=k then(q.1,q.2.1,v)::r else q::storedH r k a v:=by
 rw[Yn,Yu]at hn;by_cases h:q.1=k
 ·rw[Ze h];simp only[storedH,atKey,h,Yn,map_putAt_of_not_mem r k v (h ▸ hn.1)];simp[putAt,h]
 ·rw[YM h];unfold storedH
  (refine((show atKey (q::r) k=atKey r k from by simp[atKey,h])).symm ▸?_)
  cases hc:(atKey r k).isSome<;>simp[putAt,h]
theorem KT.put(hp:RT p k)(Wj:S p (.ref a))(hu:S u x):∀{es:List (V×V)} {xs:List (dR×Addr×Value)},(xs.map (·.1)).Nodup->KT S es xs->KT S (eX p u es) (storedH xs k a x):=by
 intro es
 induction es with
 |nil=>
  intro _ _ h;subst h;exact(yB ((k,a,x)) ([]) rfl hp Wj hu rfl)
 |cons e es ih=>
  intro _ hn h
  (refine nJ h λq r q3 h1 h0 h2 h3=>?_;clear h;subst q3)
  rw[qy hn];dsimp only[K8];cases hb:e.1.beq p with
  |true=>
   rw[Ze ((RT.iff h1 hp).mp (V.beq_iff.mp hb))];dsimp only[KT];exact(yB _ _ rfl h1 h0 hu h3)
  |false=>
   rw[YM (λe=>by have:=V.beq_iff.mpr ((RT.iff h1 hp).mpr e);rw[hb]at this;exact nf this)];rw[Yn,Yu]at hn;exact(yB _ _ rfl h1 h0 h2 (ih hn.2 h3))
theorem KT.mono(hS:∀u x,S u x->S' u x):∀{es:List (V×V)} {xs:List (dR×Addr×Value)},KT S es xs->KT S' es xs:=by
 intro es
 induction es with
 |nil=>intro _ h;exact h
 |cons _ es ih=>
  intro _ h
  (refine nJ h λq r q3 h1 h0 h2 h3=>?_;clear h;subst q3)
  exact(yB q r rfl h1 (hS _ _ h0) (hS _ _ h2) (ih h3))
theorem KT.keys:∀{es:List (V×V)} {xs:List (dR×Addr×Value)},KT S es xs->∀x∈xs,∃p,RT p x.1/\S p (.ref x.2.1):=by
 intro es
 induction es with
 |nil=>intro _ h x hx;subst h;cases hx
 |cons e es ih=>
  intro _ h x hx
  (refine nJ h λq r q3 h1 h0 h2 h3=>?_;clear h;subst q3)
  rcases X9.mp hx with rfl|hx
  ·exact(al _ h1 h0)
  ·exact ih h3 x hx
end
section
variable(W:SW)(κ:Kn)
def lN(o:Obj)(xs:List (dR×Addr×Value)):Prop:=
 ∃es ep,o.ExactDict/\o.data= .dict es ep/\es.toList=xs.map (entryOfKey (fc W.prog W.w))/\(xs.map (·.1)).Nodup
structure eM(kd:Nat)(es:List (V×V))(a:Addr)(o:Obj):Prop where
 low:(a==sysModules)=false
 zero:kd=0->es= []
 one:kd=0\/kd=1->∃bt,o.IsDictOf (PySem.strKind W.prog W.w) bt/\KV RS (VR W κ) es bt
 two:kd=0\/kd=2->∃bt,o.IsDictOf (PySem.intKind W.prog W.w) bt/\KV RI (VR W κ) es bt
 three:kd=0\/kd=3->∃xs,lN W o xs/\KT (VR W κ) es xs
variable(aw:List (Addr×Obj))
def MC(c:Nat)(C d:Addr)(o:Obj):Prop:=o.cls= .ref C/\o.dict=some d/\o.slots= #[]/\∃vs,o.data= .fields vs
def gB(s i:Nat):bu->Prop
 | .inst c fs=>∃C a,W.cls c=some C/\κ.at_ s i false=some a/\
   ((W.P.isExc c=false/\∃d es n,κ.at_ s i true=some d/\(a,instObj C d)∈aw/\(d,dictOf es n)∈aw/\c7 W κ fs es)\/
       (W.P.isExc c=true/\∃t,((fs= []/\κ.at_ s i true=none/\(a,(⟨.ref C,none,bC t,#[]⟩:Obj))∈aw)\/
     ∃d es n,κ.at_ s i true=some d/\(a,(⟨.ref C,some d,bC t,#[]⟩:Obj))∈aw/\(d,dictOf es n)∈aw/\c7 W κ fs es)))
 | .gone c fs=>∃C a d es n o,W.cls c=some C/\κ.at_ s i false=some a/\κ.at_ s i true=some d/\(a,o)∈aw/\MC c C d o/\(d,dictOf es n)∈aw/\c7 W κ fs es
 | .caught c fs=>∃C a d es n o,W.cls c=some C/\κ.at_ s i false=some a/\κ.at_ s i true=some d/\(a,o)∈aw/\MC c C d o/\(d,dictOf es n)∈aw/\c7 W κ fs es
 | .list vs=>∃a iK n,κ.at_ s i false=some a/\(a,listOf iK.toArray n)∈aw/\cI W κ vs iK
 | .dict kd es=>∃a o,κ.at_ s i false=some a/\(a,o)∈aw/\eM W κ kd es a o
noncomputable def LJ (o:Obj):Option (List Value):=match o.data with
 | .seq iK _=>bif o.cls== .type "tuple"&&o.dict.isNone then some iK.toList else none
 |_=>none
def lW(K:Frag)(a:Addr):Option (List Value):=(K.lookup a).bind LJ
theorem Jc(h:LJ o=some vs):o.cls= .type "tuple"/\o.dict=none/\∃n,o.data= .seq vs.toArray n:=by
 obtain⟨c,d,x,l⟩:=o;cases x with
 |seq iK n=>
  have h:(bif c== .type "tuple"&&d.isNone then some iK.toList else none)=some vs:=h;refine uu ((c== .type "tuple"&&d.isNone)) (λe=>?_) λe=>?_
  ·rw[e]at h;exact nt h
  ·
   rw[e]at h;obtain rfl:=Yi h;rw[Ye,zaj,ZL]at e;exact⟨e.1,e.2,n,rfl⟩
 |_=>exact nt h
structure NR(H:Nat->List bu):Prop where
 known:∀{a vs},lW W.K a=some vs->κ.tup a=some vs
 inj:∀{s i b s' i' b' x},κ.at_ s i b=some x->κ.at_ s' i' b'=some x->s=s'/\i=i'/\b=b'
 dom:∀{s i b x},κ.at_ s i b=some x->i<(H s).length/\x∈aw.map (·.1)
 obj:∀{s i o},nth (H s) i=some o->gB W κ aw s i o
 tup:∀{a vs},κ.tup a=some vs->∃o,Cl o vs/\((a,o)∈aw\/W.base.get? a=some o)
def rI(env:List (Nat×V))(m:Str->Option Value):Prop:=∀x v,aN x env=some v->∃u,m (W.nm x)=some u/\VR W κ v u
inductive iz where
 |fr(m:Str->Option Value)|it(o:Obj)
def HO:iz->Obj->Prop
 | .fr m,o=>T6 o m
 | .it o',o=>o=o'
def iA:List (Addr×iz)->List (Addr×Obj)->Prop
 | [],l=>l= []
 |p::r,l=>∃q l',l=q::l'/\q.1=p.1/\HO p.2 q.2/\iA r l'
end
structure Cx where
 A:Around
 outer:List Env
 outs:List (Addr×iz)
 name:Str
 scope:Scope
 L:Addr
 a:Addr
 cd:Value
noncomputable def Cx.env (C:Cx):Env:=envOf C.name C.scope C.L C.a C.cd
def wY(l:List Env)(outs:List (Addr×iz)):Prop:=∀env∈l,env.scope.kind≠ .module/\∃a m,env.frame=some a/\(a,iz.fr m)∈outs
structure Cx.Ok(C:Cx)(n:Nat):Prop where
 frames:C.A.frames=some (C.env::C.outer)
 kind:C.scope.kind= .function
 depth:C.A.depth+4*n+16<recursionLimit
 units:C.A.units+8*n+128<cLine
 calm:C.A.handled=none
 outs:wY C.outer C.outs
section
variable(W:SW)
structure ba(C:Cx)(κ:Kn)(σ:St)(s:Shared)(m:Str->Option Value)(aw frs:List (Addr×Obj)):Prop where
 F:Fr W.base C.L s.heap m
 N:News W.base C.L s.heap (aw++frs)
 nd:((aw++frs).map (·.1)).Nodup
 frs:iA C.outs frs
 nr:NR W κ aw σ.heap
 env:rI W κ σ.env m
 gens:s.gens=W.gens
 os:s.os=W.os
def bA(C:Cx)(κ:Kn)(σ:St)(s:Shared):Prop:=∃m aw frs,ba W C κ σ s m aw frs
def dO(h base:Heap)(e:Addr)(cls:Value)(dx:Addr)(fl:Value):Prop:=
 ∃oe vs T oT ts,h.get? e=some oe/\(oe.cls=cls/\oe.dict=some dx/\oe.slots= #[])/\oe.data= .fields vs/\vs[1]? =some (.ref T)/\base.get? T=none/\T≠e/\h.get? T=some oT/\oT.data= .fields ts/\ts[3]? =some fl
def R5(base:Heap)(l:List Env)(e:Addr)(cls:Value)(dx:Addr)(fl:Value)(h:Heap):Prop:=
 base.StaysIn h/\base.get? e=none/\h.FunFrames base l/\dO h base e cls dx fl
structure Bt(C:Cx)(κ:Kn)(σ:St)(sx ix cx:Nat)(e:Value)(s:Shared)(m:Str->Option Value)(aw frs:List (Addr×Obj))(a d Cc:Addr)(o:Obj)(B:Heap):Prop where
 eq:e= .ref a
 cls:W.cls cx=some Cc
 main:κ.at_ sx ix false=some a
 sub:κ.at_ sx ix true=some d
 here:s.heap.get? a=some o
 fly:R5 B (C.env::C.outer) a (.ref Cc) d .none s.heap
 base:W.base.StaysIn B
 above:W.base.objs.size<=C.L
 ns:s.heap.Ns C.L m
 keep:∀p∈aw,B.get? p.1=some p.2/\W.base.get? p.1=none/\p.1≠C.L
 mem:∀p∈frs,s.heap.get? p.1=some p.2/\W.base.get? p.1=none/\p.1≠C.L
 hold:∀b ob,(b,iz.it ob)∈C.outs->B.get? b=some ob
 nd:(((a,o)::aw++frs).map (·.1)).Nodup
 aL:a≠C.L
 frs:iA C.outs frs
 nr:NR W κ ((a,o)::aw) σ.heap
 gone:∃fs,nth (σ.heap sx) ix=some (.gone cx fs)
 env:rI W κ σ.env m
 gens:s.gens=W.gens
 os:s.os=W.os
structure Ku(C:Cx)(κ:Kn)(σ:St)(sx ix cx:Nat)(e:Value)(s:Shared)(a d Cc t:Addr):Prop where
 rel:bA W C κ σ s
 eq:e= .ref a
 cls:W.cls cx=some Cc
 main:κ.at_ sx ix false=some a
 sub:κ.at_ sx ix true=some d
 here:s.heap.get? a=some ⟨.ref Cc,some d,bC t,#[]⟩
 gone:∃fs,nth (σ.heap sx) ix=some (.gone cx fs)
def ph(C:Cx)(κ:Kn)(σ:St)(je:Bool)(sx ix cx:Nat)(e:Value)(s:Shared):Prop:=
 match je with
 |true=>∃m aw frs a d Cc o B,Bt W C κ σ sx ix cx e s m aw frs a d Cc o B
 |false=>∃a d Cc t,Ku W C κ σ sx ix cx e s a d Cc t
def bF{α β:Type}(C:Cx)(V':Kn->β->α->Prop)(Q:α->Shared->Prop)(E:Value->Shared->Prop)(res:R β)(κ:Kn)(σ':St):Prop:=
 ∀cL s',κ.Le cL->match res with
  | .ok b=>∀a,V' cL b a->bA W C cL σ' s'->Q a s'
  | .exc je sx ix cx=>∀e,ph W C cL σ' je sx ix cx e s'->E e s'
def bV{α β:Type}(C:Cx)(κ:Kn)(σ:St)(t:Sem α)(r:Option (R β×St))(V':Kn->β->α->Prop):Prop:=
 ∀res σ',r=some (res,σ')->∀s Q E,bA W C κ σ s->bF W C V' Q E res κ σ'->wpAny (model W.prog W.w) C.A t Q E s
def SndE(C:Cx)(e:Expr)(mx:M V):Prop:=∀κ σ,bV W C κ σ (eval e C.env) (mx σ) (λκ=>VR W κ)
def SndT(C:Cx)(e:Expr)(mx:M Bool):Prop:=∀κ σ,bV W C κ σ (PySem.isTrue e C.env (eval e C.env)) (mx σ) (λ_ b b'=>b=b')
def Eo(κ:Kn):Fl->Flow->Prop
 | .next,f=>f= .next
 | .ret v,f=>∃u,f= .ret u/\VR W κ v u
def SndS(C:Cx)(st:Stmt)(mx:M Fl):Prop:=∀κ σ,bV W C κ σ (exec st C.env) (mx σ) (Eo W)
end
section
variable{W:SW}{C:Cx}{κ:Kn}{σ:St}
theorem bF.mono(k:bF W C V' Q E res κ σ')(le:κ.Le am):bF W C V' Q E res am σ':=
 λcL s' ya=>k cL s' (le.trans ya)
theorem bV.bindE{f:β->M γ}{V₁:Kn->β->α->Prop}{yC:Kn->γ->δ->Prop}(h:bV W C κ σ t (m σ) V₁)(hr:M.bind m f σ=some (res,σ'))(R:bA W C κ σ s)(k:bF W C yC Q E res κ σ')(hk:∀am ai b a aE,m σ=some (.ok b,ai)->κ.Le am->V₁ am b a->bA W C am ai aE->f b ai=some (res,σ')->bF W C yC Q E res am σ'->Q₁ a aE):wpAny (model W.prog W.w) C.A t Q₁ E s:=by
 unfold M.bind at hr;refine dJ (m σ) (λhm=>?_) λp hm=>?_
 ·rw[hm]at hr;exact nt hr
 ·
  obtain⟨r,ai⟩:=p;rw[hm]at hr;cases r with
  |ok b=>exact h _ _ hm s Q₁ E R λcL s' le a hv hR=>hk cL ai b a s' hm le hv hR hr (k.mono le)
  |exc je sx ix cx=>
   obtain⟨rfl,rfl⟩:=sp hr;exact h _ _ hm s Q₁ E R λcL s' le e he=>k cL s' le e he
theorem bV.bind{V₁:Kn->β->α->Prop}{res:R γ}(h:bV W C κ σ t (m σ) V₁)(hr:M.bind m f σ=some (res,σ'))(R:bA W C κ σ s)(k:bF W C yC Q E res κ σ')(hk:∀am ai b a aE,κ.Le am->V₁ am b a->bA W C am ai aE->f b ai=some (res,σ')->bF W C yC Q E res am σ'->Q₁ a aE):wpAny (model W.prog W.w) C.A t Q₁ E s:=bV.bindE h hr R k λ_ _ _ _ _ _=>hk _ _ _ _ _
theorem ao(h:M.pure a σ=some (res,σ')):res= .ok a/\σ'=σ:=sp h
theorem ij(h:M.opt o σ=some (res,σ')):∃a,o=some a/\res= .ok a/\σ'=σ:=by
 cases o with
 |none=>exact nt h
 |some a=>exact(al a rfl (sp h))
theorem bF.done(k:bF W C V' Q E (.ok b) κ σ)(hv:V' κ b a)(hR:bA W C κ σ s):Q a s:=k κ s (Kn.Le.refl κ) a hv hR
theorem bA.toks(R:bA W C κ σ s):bA W C κ σ {s with toks:=n}:=by
 (refine bj R λm aw frs r=>?_;clear R)
 exact(b7 m aw frs ⟨r.F,r.N,r.nd,r.frs,r.nr,r.env,r.gens,r.os⟩)
theorem c7.mono(le:κ.Le cL):∀{fs:List (Nat×V)} {es:List DictEntry},c7 W κ fs es->c7 W cL fs es:=by
 intro fs
 induction fs with
 |nil=>intro _ h;exact h
 |cons q_ fs ih=>
  intro _ h
  (refine cT h λe r q3 h1 h2 h3=>?_;clear h;subst q3)
  exact(cj e r rfl h1 (h2.mono le) (ih h3))
theorem eM.mono(le:κ.Le cL)(h:eM W κ kd es a o):eM W cL kd es a o:=
 ⟨h.low,h.zero,λx=>let ⟨k,a,b⟩:=h.one x;(al k a (b.mono λ_ _ y=>y.mono le)),λx=>let ⟨k,a,b⟩:=h.two x;(al k a (b.mono λ_ _ y=>y.mono le)),
  λx=>let ⟨k,a,b⟩:=h.three x;(al k a (b.mono λ_ _ y=>y.mono le))⟩
theorem rI.mono(le:κ.Le cL)(h:rI W κ env m):rI W cL env m:=
 λx v e=>let ⟨u,a,b⟩:=h x v e;(al u a (b.mono le))
theorem gB.keep(le:κ.Le cL)(hn:κ.at_ s i true=none->cL.at_ s i true=none)(hm:∀b x ob,κ.at_ s i b=some x->(x,ob)∈aw->(x,ob)∈uF)(h:gB W κ aw s i o):gB W cL uF s i o:=by
 cases o with
 |inst c fs=>
  (refine a9 h λC a h1 h2 h3=>?_;clear h)
  refine(aZ C a h1 (le.at_ h2) ?_);rcases h3 with⟨e,d,es,n,x1,x2,x3,x4⟩|⟨e,t,⟨x0,x1,x2⟩|⟨d,es,n,x1,x2,x3,x4⟩⟩
  ·exact .inl ⟨e,d,es,n,le.at_ x1,hm _ _ _ h2 x2,hm _ _ _ x1 x3,x4.mono le⟩
  ·exact .inr ⟨e,t, .inl ⟨x0,hn x1,hm _ _ _ h2 x2⟩⟩
  ·exact .inr ⟨e,t, .inr (pg d es n (le.at_ x1) (hm _ _ _ h2 x2) (hm _ _ _ x1 x3) (x4.mono le))⟩
 |gone c fs=>
  obtain⟨C,a,d,es,n,o,h1,h2,h3,h4,h5,h6,h7⟩:=h;exact⟨C,a,d,es,n,o,h1,le.at_ h2,le.at_ h3,hm _ _ _ h2 h4,h5,hm _ _ _ h3 h6,h7.mono le⟩
 |caught c fs=>
  obtain⟨C,a,d,es,n,o,h1,h2,h3,h4,h5,h6,h7⟩:=h;exact⟨C,a,d,es,n,o,h1,le.at_ h2,le.at_ h3,hm _ _ _ h2 h4,h5,hm _ _ _ h3 h6,h7.mono le⟩
 |list vs=>
  (refine cZ h λa iK n h1 h2 h3=>?_;clear h)
  exact(iO a iK n (le.at_ h1) (hm _ _ _ h1 h2) (h3.mono le))
 |dict kd es=>
  (refine a9 h λa o h1 h2 h3=>?_;clear h)
  exact(aZ a o (le.at_ h1) (hm _ _ _ h1 h2) (h3.mono le))
end
theorem A3(h:a≠b):Nat.beq a b=false:=by
 cases q:Nat.beq a b with
 |false=>rfl
 |true=>exact absurd (Yh q) h
theorem iZ:∀{env:List (Nat×α)},aN y (putN x v env)=if y=x then some v else aN y env:=by
 intro env
 induction env with
 |nil=>
  skip;dsimp only[Vx,SU,Ej];by_cases h:y=x
  ·subst h;simp
  ·skip;simp[(A3 (ZC h)),h]
 |cons q_ r ih=>
  skip;dsimp only[OL];cases hz:Nat.beq q_.1 x with
  |true=>
   have P1:=Yh hz;subst P1;simp only[Ej];by_cases h:y=q_.1
   ·subst h;simp
   ·skip;simp[(A3 (ZC h)),h]
  |false=>
   simp only[Ej];cases hy:Nat.beq q_.1 y with
   |true=>
    have KI:=Yh hy;subst KI;simp[(Zn hz)]
   |false=>exact ih
theorem m1:∀{env:List (Nat×α)},aN y (lb x env)=if y=x then none else aN y env:=by
 intro env
 induction env with
 |nil=>simp[Xb,SU]
 |cons q_ r ih=>
  skip;simp only[TP];cases hz:Nat.beq q_.1 x with
  |true=>
   have P1:=Yh hz;subst P1;simp only[Ej,ih];by_cases h:y=q_.1
   ·subst h;simp
   ·have:=A3 (ZC h);simp[this,h]
  |false=>
   simp only[Ej];cases hy:Nat.beq q_.1 y with
   |true=>
    have KI:=Yh hy;subst KI;simp[(Zn hz)]
   |false=>exact ih
theorem mW:∀{l:List α} {a b:α} {i:Nat},nth (l++ [a]) i=some b->nth l i=some b\/(i=l.length/\b=a):=by
 intro l
 induction l with
 |nil=>
  intro a b i h;cases i with
  |zero=>obtain rfl:=Yi h;exact .inr ⟨rfl,rfl⟩
  |succ i=>simp[PN,SJ]at h
 |cons c l ih=>
  intro a b i h;cases i with
  |zero=>exact .inl h
  |succ i=>
   refine(ih h).elim (λh=>?_) λq=>?_
   ·exact .inl h
   ·exact .inr ⟨by simp[q.1],q.2⟩
theorem pC:∀{l:List α} {a:α} {i:Nat},nth l i=some a->i<l.length:=by
 intro l
 induction l with
 |nil=>intros;contradiction
 |cons c l ih=>
  intro a i h;cases i with
  |zero=>simp
  |succ i=>have:=ih h;simp;exact‹_›
theorem iY:∀{l:List α} {a:α} {i j:Nat},nth (setNth b l i) j=some a->(j=i/\a=b)\/(j≠i/\nth l j=some a):=by
 intro l
 induction l with
 |nil=>intro a i j h;simp[Vq,PN]at h
 |cons c l ih=>
  intro a i j h;cases i with
  |zero=>
   cases j with
   |zero=>obtain rfl:=Yi h;exact .inl ⟨rfl,rfl⟩
   |succ j=>exact .inr ⟨Nat.succ_ne_zero j,h⟩
  |succ i=>
   simp only[So]at h;cases j with
   |zero=>exact .inr ⟨(Nat.succ_ne_zero i).symm,h⟩
   |succ j=>
    rcases ih h with⟨e,x⟩|⟨e,x⟩
    ·exact .inl ⟨Yd (·+1) e,x⟩
    ·exact .inr ⟨λq=>e (zag q),x⟩
theorem fg:∀{l:List α} {i:Nat},(setNth b l i).length=l.length:=by
 intro l
 induction l with
 |nil=>intro _;exact rfl
 |cons c l ih=>intro i;cases i with|zero=>rfl|succ i=>simp[So,ih]
noncomputable def Kn.add (κ:Kn) (s i:Nat) (b:Bool) (x:Addr):Kn:={κ with at_:=λs' i' b'=>if s'=s/\i'=i/\b'=b then some x else κ.at_ s' i' b'}
noncomputable def Kn.addT (κ:Kn) (x:Addr) (vs:List Value):Kn:={κ with tup:=λy=>if y=x then some vs else κ.tup y}
theorem Kn.le_add{κ:Kn}(h:κ.at_ s i b=none):κ.Le (κ.add s i b x):=
 ⟨λ{s' i' b' y} e=>by
  show(if s'=s/\i'=i/\b'=b then some x else κ.at_ s' i' b')=some y;by_cases q:s'=s/\i'=i/\b'=b
  ·(refine dW q λq1 q2 q3=>?_;clear q;subst q1;subst q2;subst q3);rw[h]at e;exact nt e
  ·rw[YM q];exact e,id⟩
theorem Kn.le_addT{κ:Kn}(h:κ.tup x=none):κ.Le (κ.addT x vs):=
 ⟨id,λ{y us} e=>by
  show(if y=x then some vs else κ.tup y)=some us;by_cases q:y=x
  ·subst q;rw[h]at e;exact nt e
  ·rw[YM q];exact e⟩
theorem Kn.add_self{κ:Kn}:(κ.add s i b x).at_ s i b=some x:=Ze (gA rfl rfl rfl)
theorem Kn.add_ne{κ:Kn}(h:¬(s'=s/\i'=i/\b'=b)):(κ.add s i b x).at_ s' i' b'=κ.at_ s' i' b':=YM h
section
variable{W:SW}{C:Cx}{κ:Kn}{σ:St}{s:Shared}{m:Str->Option Value}{aw frs:List (Addr×Obj)}
theorem ba.fresh(R:ba W C κ σ s m aw frs)(lo:∀p∈aw++frs,p.1<l):l∉(aw++frs).map (·.1):=λh=>by
 refine U (YD.mp h) λp hp e=>?_;exact absurd (lo p hp) (by rw[e];exact Zh _)
theorem ba.nodup_cons(R:ba W C κ σ s m aw frs)(lo:∀p∈aw++frs,p.1<l):((((l,o)::aw)++frs).map (·.1)).Nodup:=by
 rw[YY,Yn,Yu];exact⟨R.fresh lo,R.nd⟩
theorem ba.notTup(R:ba W C κ σ s m aw frs)(lo:∀p∈aw++frs,p.1<l)(hb:W.base.get? l=none):κ.tup l=none:=by
 cases q:κ.tup l with
 |none=>rfl
 |some vs=>
  (refine U (R.nr.tup q) λo _ q3=>?_;obtain h|h:=q3)
  ·exact absurd (lo _ (X6 _ h)) (Zh _)
  ·rw[hb]at h;exact nt h
theorem ba.offEnd(R:ba W C κ σ s m aw frs)(t:Nat)(b:Bool):κ.at_ t (σ.heap t).length b=none:=by
 cases q:κ.at_ t (σ.heap t).length b with
 |none=>rfl
 |some x=>exact absurd (R.nr.dom q).1 (Zh _)
theorem ba.store(R:ba W C κ σ s m aw frs)(hv:VR W κ v u)(F:Fr W.base C.L s'.heap λy=>if y=W.nm x then some u else m y)(N:News W.base C.L s'.heap (aw++frs))(hg:s'.gens=s.gens)(ho:s'.os=s.os):ba W C κ (σ.setE (putN x v σ.env)) s' (λy=>if y=W.nm x then some u else m y) aw frs:=by
 refine⟨F,N,R.nd,R.frs,R.nr,λy w e=>?_,hg.trans R.gens,ho.trans R.os⟩;dsimp only[St.setE]at e;rw[iZ]at e;by_cases h:y=x
 ·subst h;rw[Ze rfl]at e;obtain rfl:=Yi e;exact(al u (by simp) hv)
 ·rw[YM h]at e;refine U (R.env y w e) λu' a b=>?_;exact(al u' (by rw[YM λq=>h (W.inj _ _ q)];exact a) b)
theorem NR.add(R:NR W κ aw H)(hl:l∉aw.map (·.1))(Ia:∀b,κ.at_ t (H t).length b=none)(ho:gB W (κ.add t (H t).length false l) ((l,o)::aw) t (H t).length mo):NR W (κ.add t (H t).length false l) ((l,o)::aw) (λt'=>match Nat.beq t' t with|true=>H t++ [mo]|false=>H t'):=by
 refine⟨λh=>R.known h,λ{s1 i1 b1 s2 i2 b2 x} e1 e2=>?_,λ{s1 i1 b1 x} e=>?_,λ{s1 i1 o1} e=>?_,λ{a vs} e=>?_⟩
 ·refine bc (s1=t/\i1=(H t).length/\b1=false) (λq1=>?_) λq1=>?_
  ·by_cases q2:s2=t/\i2=(H t).length/\b2=false
   ·exact⟨q1.1.trans q2.1.symm,q1.2.1.trans q2.2.1.symm,q1.2.2.trans q2.2.2.symm⟩
   ·rw[Kn.add_ne q2]at e2;obtain⟨rfl,rfl,rfl⟩:=q1;rw[Kn.add_self]at e1;obtain rfl:=Yi e1;exact absurd (R.dom e2).2 hl
  ·rw[Kn.add_ne q1]at e1;by_cases q2:s2=t/\i2=(H t).length/\b2=false
   ·obtain⟨rfl,rfl,rfl⟩:=q2;rw[Kn.add_self]at e2;obtain rfl:=Yi e2;exact absurd (R.dom e1).2 hl
   ·rw[Kn.add_ne q2]at e2;exact R.inj e1 e2
 ·refine bc (s1=t/\i1=(H t).length/\b1=false) (λq=>?_) λq=>?_
  ·obtain⟨rfl,rfl,rfl⟩:=q;rw[Kn.add_self]at e;obtain rfl:=Yi e;refine⟨?_,by simp⟩;have:Nat.beq s1 s1=true:=by simp
   rw[this];simp
  ·rw[Kn.add_ne q]at e;have:=R.dom e
   exact⟨Yr this.1 ((show∀s',(H s').length<=(match Nat.beq s' t with|true=>H t++ [mo]|false=>H s').length fromλs'=>by
  cases q:Nat.beq s' t with
  |true=>have:=Yh q;subst this;simp
  |false=>simp) s1),by exact Yy _ this.2⟩
 ·have kU:nth (H s1) i1=some o1->gB W (κ.add t (H t).length false l) ((l,o)::aw) s1 i1 o1:=λe=>
   (R.obj e).keep (Kn.le_add (Ia false)) (λh=>by rw[Kn.add_ne (λq=>by cases q.2.2)];exact h) λ_ _ _ _ h=>Yy _ h
  cases q:Nat.beq s1 t with
  |true=>
   have:=Yh q;subst this;rw[q]at e;rcases mW e with e|⟨rfl,rfl⟩
   ·exact kU e
   ·exact ho
  |false=>
   rw[q]at e;exact kU e
 ·refine U (R.tup e) λo' a1 a2=>?_;exact(al o' a1 (a2.imp (Yy _) id))
theorem ba.new(R:ba W C κ σ s m aw frs)(F:Fr W.base C.L s'.heap m)(N:News W.base C.L s'.heap ((l,o)::(aw++frs)))(lo:∀p∈aw++frs,p.1<l)(ho:gB W (κ.add t (σ.heap t).length false l) ((l,o)::aw) t (σ.heap t).length mo)(hg:s'.gens=s.gens)(yd:s'.os=s.os):
  κ.Le (κ.add t (σ.heap t).length false l)/\ba W C (κ.add t (σ.heap t).length false l) (σ.add t mo) s' m ((l,o)::aw) frs:=by
 refine⟨(Kn.le_add (R.offEnd t false)),F,N,R.nodup_cons lo,R.frs,?_,R.env.mono (Kn.le_add (R.offEnd t false)),hg.trans R.gens,yd.trans R.os⟩;exact R.nr.add (λh=>R.fresh lo (by rw[Yo];exact X6 _ h)) (R.offEnd t) ho
theorem ba.newTup(R:ba W C κ σ s m aw frs)(F:Fr W.base C.L s'.heap m)(N:News W.base C.L s'.heap ((l,o)::(aw++frs)))(lo:∀p∈aw++frs,p.1<l)(ho:Cl o vs)(hg:s'.gens=s.gens)(yd:s'.os=s.os):
  κ.Le (κ.addT l vs)/\ba W C (κ.addT l vs) σ s' m ((l,o)::aw) frs:=by
 have le:κ.Le (κ.addT l vs):=Kn.le_addT (R.notTup lo (N _ (.head _)).2.2);refine⟨le,F,N,R.nodup_cons lo,R.frs,⟨λh=>le.tup (R.nr.known h),R.nr.inj,λe=>⟨(R.nr.dom e).1,Yy _ (R.nr.dom e).2⟩,λe=>(R.nr.obj e).keep le id λ_ _ _ _ h=>Yy _ h,λ{a us} e=>?_⟩,R.env.mono le,hg.trans R.gens,yd.trans R.os⟩;dsimp only[Kn.addT]at e;by_cases q:a=l
 ·rw[Ze q]at e;obtain rfl:=Yi e;subst q;exact(al o ho (.inl (.head _)))
 ·rw[YM q]at e;refine U (R.nr.tup e) λo' a1 a2=>?_;exact(al o' a1 (a2.imp (Yy _) id))
theorem NR.put(R:NR W κ aw H)(nd:(aw.map (·.1)).Nodup)(hd:κ.at_ t i b=some d)(hm:(d,o)∈aw)(nt:o.cls≠ .type "tuple")(ho:gB W κ (bU d o' aw) t i mo):NR W κ (bU d o' aw) (λt'=>match Nat.beq t' t with|true=>setNth mo (H t) i|false=>H t'):=by
 have len:∀s',(match Nat.beq s' t with|true=>setNth mo (H t) i|false=>H s').length=(H s').length:=λs'=>by
  cases q:Nat.beq s' t with
  |true=>have:=Yh q;subst this;exact fg
  |false=>rfl
 have kU:∀{s1 i1 o1},¬(s1=t/\i1=i)->nth (H s1) i1=some o1->gB W κ (bU d o' aw) s1 i1 o1:=λ{s1 i1 o1} hn e=>
  (R.obj e).keep (Kn.Le.refl κ) id λb' x ob hx h=>bQ h λq=>by
   have:=R.inj hx (q ▸ hd);exact hn ⟨this.1,this.2.1⟩
 refine⟨R.known,R.inj,λ{s1 i1 b1 x} e=>?_,λ{s1 i1 o1} e=>?_,λ{a vs} e=>?_⟩
 ·rw[len,cH];exact R.dom e
 ·cases q:Nat.beq s1 t with
  |true=>
   have:=Yh q;subst this;rw[q]at e;rcases iY e with⟨rfl,rfl⟩|⟨h,e⟩
   ·exact ho
   ·exact kU (λz=>h z.2) e
  |false=>
   rw[q]at e;exact kU (λz=>Zn q z.1) e
 ·refine U (R.tup e) λob a1 a2=>?_;refine(al ob a1 (a2.imp (λh=>bQ h λq=>?_) id));exact nt ((show ob=o from cK nd (q ▸ h) hm) ▸ a1.1)
theorem ba.ndT(R:ba W C κ σ s m aw frs):(aw.map (·.1)).Nodup:=by have:=R.nd;rw[Yo]at this;exact(YB.mp this).1
theorem ba.put(R:ba W C κ σ s m aw frs)(hd:κ.at_ t i b=some d)(hm:(d,o)∈aw)(nt:o.cls≠ .type "tuple")(F:Fr W.base C.L s'.heap m)(N:News W.base C.L s'.heap (bU d o' (aw++frs)))(ho:gB W κ (bU d o' aw) t i mo)(hg:s'.gens=s.gens)(yd:s'.os=s.os):ba W C κ (σ.put t i mo) s' m (bU d o' aw) frs:=by
 refine⟨F,(jU (o:=o') (l':=frs) (aV hm)) ▸ N,?_,R.frs,R.nr.put R.ndT hd hm nt ho,R.env,hg.trans R.gens,yd.trans R.os⟩;rw[<-(jU (o:=o') (l':=frs) (aV hm)),cH];exact R.nd
end
section
variable{W:SW}{C:Cx}
theorem bA.known(R:bA W C κ σ s)(h:lW W.K a=some vs):κ.tup a=some vs:=by
 (refine bj R λm aw frs r=>?_;clear R)
 exact r.nr.known h
noncomputable def tokOf:Value->Tok
 | .int _ t=>t
 | .str _ t=>t
 |_=>default
noncomputable def AI:Value->Addr
 | .ref a=>a
 |_=>0
noncomputable def allB (f:V->Value->Bool):List V->List Value->Bool
 | [],xs=>xs.isEmpty
 |v::vs,xs=>match xs with
  | []=>false
  |x::xs=>f v x&&allB f vs xs
noncomputable def K4 (W:SW):Nat->V->Value->Bool
 |0,_,_=>false
 |n+1,v,u=>match v with
  | .none=>u== .none
  | .bool b=>u== .bool b
  | .int i=>u== .int i (tokOf u)
  | .str l=>u== .str ⟨l.toArray⟩ (tokOf u)
  | .tup vs=>u== .ref (AI u)&&(lW W.K (AI u)).any λxs=>allB (K4 W n) vs xs
  | .obj _ _=>false
  | .glob g=>u== .ref (AI u)&&W.gl g==some (AI u)
theorem MG(hk:∀a vs,lW W.K a=some vs->κ.tup a=some vs):∀{v:V} {u:Value},K4 W n v u=true->VR W κ v u:=by
 induction n with
 |zero=>intro v u h;exact nf h
 |succ n ih=>
  intro v u h;cases v with
  |none=>exact eq_of_beq h
  |bool b=>exact eq_of_beq h
  |int i=>exact⟨_,eq_of_beq h⟩
  |str l=>exact⟨_,eq_of_beq h⟩
  |tup vs=>
   refine U (oa (an h).2) λxs e h2=>?_;refine(aZ _ xs (eq_of_beq (an h).1) (hk _ _ e) ?_);clear h e
   induction vs generalizing xs with
   |nil=>exact YF.mp h2
   |cons v vs i=>
    cases xs with
    |nil=>exact nf h2
    |cons x xs=>exact(aZ x xs rfl (ih (an h2).1) (i xs (an h2).2))
  |obj s i=>exact nf h
  |glob g=>exact(al _ (eq_of_beq (an h).1) (eq_of_beq (an h).2))
theorem NS(hk:C.scope.kind= .function)(hl:C.scope.names.lookup (W.nm x)=some .local)(hd:(W.nm x==("__debug__":Str))=false):SndE W C (.Name (W.nm x) pos) (M.loc x):=by
 intro κ σ res σ' hr s Q E R k;unfold M.loc at hr;refine dJ (aN x σ.env) (λhx=>?_) λv hx=>?_
 ·rw[hx]at hr;exact nt hr
 ·
  rw[hx]at hr;simp only[Option.some.injEq,YQ]at hr;refine hg λcg kg=>?_;obtain⟨rfl,rfl⟩:=hr
  (refine bj R λm aw frs r=>?_;clear R)
  refine U (r.env x v hx) λu hu hv=>?_;refine kg ?_;exact ld r.F hu (k.done hv (b7 m aw frs r)) hk hl hd
theorem NW(hk:C.scope.kind= .function)(hl:C.scope.names.lookup (W.nm x)=some .globalImplicit)(hd:(W.nm x==("__debug__":Str))=false)(hn:nsIn W.K mainGlobals (W.nm x)=some (some u))(hv:K4 W n v u=true)(hc:W.P.const x=some v):SndE W C (.Name (W.nm x) pos) (M.opt (W.P.const x)):=by
 intro κ σ res σ' hr s Q E R k;refine hg λcg kg=>?_;(refine a8 (ij hr) λa h q3 q4=>?_;subst q3;subst q4)
 rw[hc]at h;obtain rfl:=Yi h;have R':=R
 (refine bj R' λm aw frs r=>?_;clear R')
 refine kg ?_;exact name_K r.F W.X W.T hn (k.done (MG (λa vs h=>R.known (a:=a) (vs:=vs) h) hv) R) hk hl hd
noncomputable def cR (v:V) (c:Const):Bool:=match v with
 | .none=>c== .none
 | .bool b=>c== .bool b
 | .int i=>c== .int i
 | .str l=>c== .str ⟨l.toArray⟩
 |_=>false
theorem Xd(h:cR v c=true):SndE W C (.Constant c kk pos) (M.pure v):=by
 intro κ σ res σ' hr s Q E R k;obtain⟨rfl,rfl⟩:=ao hr;cases v with
 |none=>(refine(eq_of_beq h).symm ▸?_);exact wpAny_Constant_none (k.done (by rfl) R)
 |bool b=>rw[eq_of_beq h];exact wpAny_Constant_bool (k.done (by rfl) R)
 |int i=>rw[eq_of_beq h];exact wpAny_Constant_int (k.done ⟨_,rfl⟩ R.toks)
 |str l=>rw[eq_of_beq h];exact zaP (k.done ⟨s.toks,rfl⟩ R.toks)
 |_=>exact nf h
def cw{α β:Type}(R:α->β->Prop):List α->List β->Prop
 | [], []=>True
 |a::as,b::bs=>R a b/\cw R as bs
 |_,_=>False
theorem mw:∀{es:List Expr} {xs:List Ex} {pos:Pos},cw (λe x=>SndE W C e (ih.e x)) es xs->(∀e∈es,∀rest,starEach (e::rest) C.env=(false,eval e C.env)::starEach rest C.env)->
  ∀κ σ,bV W C κ σ (spliced (backTo pos (starEach es C.env))) (kK ih xs σ) (λκ=>cI W κ):=by
 intro es
 induction es with
 |nil=>
  intro xs pos hs _ κ σ res σ' hr s Q E R k;cases xs with
  |cons _ _=>exact hs.elim
  |nil=>
   obtain⟨rfl,rfl⟩:=ao hr;exact spliced_none (k.done (by rfl) R)
 |cons e es i=>
  intro xs pos hs gF κ σ res σ' hr s Q E R k;cases xs with
  |nil=>exact hs.elim
  |cons x xs=>
   refine spliced_more ?_ (gF e (.head _) es);refine bV.bind (hs.1 κ σ) hr R k λam ai v a aE le hv ar Be k₁=>?_;refine bV.bind (i hs.2 (λe he=>gF e (.tail _ he)) am ai) Be ar k₁ λbM bH vs as c9 aY Ek bE Bd dQ=>?_;obtain⟨rfl,rfl⟩:=ao Bd;exact dQ.done (by exact(aZ a as rfl (hv.mono aY) Ek)) bE
end
theorem gf(h:Nat.ble n ay=true):n<=sizeLine:=by
 have:=Yg h;rw[sizeLine_eq];exact Yc ‹_› ak
section
variable{W:SW}{C:Cx}{κ:Kn}{σ:St}{s:Shared}
theorem bA.isTup(R:bA W C κ σ s)(h:κ.tup a=some xs):IsTup s.heap a xs.toArray:=by
 (refine bj R λm aw frs r=>?_;clear R)
 (refine U (r.nr.tup h) λo q2 q3=>?_;obtain⟨h1,h2,n,h3⟩:=q2;obtain hm|hb:=q3)
 ·exact⟨o,(r.N _ (X6 _ hm)).1,h1,n,h3⟩
 ·exact⟨o,r.F.keep _ _ hb,h1,n,h3⟩
def Eh:Op->Operator
 | .add=> .Add
 | .sub=> .Sub
 | .mul=> .Mult
 | .fdiv=> .FloorDiv
 | .mod=> .Mod
 | .shl=> .LShift
 | .shr=> .RShift
 | .band=> .BitAnd
theorem VR.int(h:VR W κ (.int i) x):∃t,x= .int i t:=h
theorem VR.str(h:VR W κ (.str l) x):∃t,x= .str ⟨l.toArray⟩ t:=h
theorem VR.tup(h:VR W κ (.tup vs) x):∃a xs,x= .ref a/\κ.tup a=some xs/\cI W κ vs xs:=h
theorem VR.obj(h:VR W κ (.obj t i) x):∃a,x= .ref a/\κ.at_ t i false=some a:=h
theorem VR.bool(h:VR W κ (.bool b) x):x= .bool b:=h
theorem VR.none(h:VR W κ .none x):x= .none:=h
theorem eJ(i:Int)(t:Nat):VR W κ (.int i) (.int i t):=⟨t,rfl⟩
theorem wz(l:List Nat)(t:Nat):VR W κ (.str l) (.str ⟨l.toArray⟩ t):=⟨t,rfl⟩
theorem uV(b:Bool):VR W κ (.bool b) (.bool b):=by rfl
theorem j3:VR W κ .none .none:=by rfl
theorem kl(h:cA b=true):b.natAbs<2^64:=by
 unfold cA at h;simp only[Ye,zap]at h;cases b with
 |ofNat n=>exact YJ (Y3.mp (YL h.2 (Y8 ((1000000:Nat):Int)))) (Yg rfl)
 |negSucc n=>exact YJ (Y3.mp (YL (Int.neg_le_neg h.1) (Y8 ((1000000:Nat):Int)))) (Yg rfl)
theorem yO(h:cA b=true):b.natAbs.log2<9000:=by
 by_cases h0:b.natAbs=0
 ·rw[h0];decide
 ·have:=(Nat.log2_lt h0 (k:=64)).mpr (kl h);exact Yc ‹_› ak
theorem u0(h:Bc b=true):0<=b/\b<=64:=⟨YN (an h).1,YN (an h).2⟩
theorem Nd(h:cA a=true):IntMulOk a b:=IntMulOk.of_left (intBits_le (kl h))
theorem J1(h:rV o a b=some c)(k:∀v n,VR W κ (.int c) v->Q v {s with toks:=n}):wpAny (model W.prog W.w) C.A (binaryOp (Eh o) (.int a t) (.int b u)) Q E s:=by
 cases o with
 |add=>obtain rfl:=si h;exact PyProof.Rows.add_int (k _ _ (eJ _ _))
 |sub=>obtain rfl:=si h;exact PyProof.Rows.sub_int (k _ _ (eJ _ _))
 |mul=>obtain⟨g,e⟩:=bY h;obtain rfl:=si e;exact PyProof.Rows.mul_int (k _ _ (eJ _ _)) (Nd g)
 |fdiv=>obtain⟨g,e⟩:=bY h;obtain rfl:=si e;exact PyProof.Rows.floordiv_int (Int.ne_of_gt (YN (an g).1)) (k _ _ (eJ _ _)) (.inl (PyProof.noPylong_of_log2 (yO (an g).2)))
 |mod=>obtain⟨g,e⟩:=bY h;obtain rfl:=si e;exact PyProof.Rows.mod_int' (Int.ne_of_gt (YN g)) (k _ _ (eJ _ _))
 |shl=>obtain⟨g,e⟩:=bY h;obtain rfl:=si e;exact PyProof.Rows.lshift_int_small (u0 (an g).2).1 (YL (u0 (an g).2).2 ak) (kl (an g).1) (k _ _ (eJ _ _))
 |shr=>obtain⟨g,e⟩:=bY h;obtain rfl:=si e;exact PyProof.Rows.rshift_int (u0 g).1 (k _ _ (eJ _ _))
 |band=>obtain rfl:=si h;exact PyProof.Rows.and_int (k _ _ (eJ _ _))
theorem Je{a b:Value}(hs:Nat.ble (l.length+l'.length) ay=true)(ha:VR W κ (.tup l) a)(hb:VR W κ (.tup l') b)(R:bA W C κ σ s)(k:bF W C (λκ=>VR W κ) Q E (.ok (.tup (l++l'))) κ σ):wpAny (model W.prog W.w) C.A (binaryOp .Add a b) Q E s:=by
 (refine a9 (ha.tup) λp xs q3 h1 h2=>?_;subst q3)
 (refine a9 (hb.tup) λq ys q3 h3 h4=>?_;subst q3)
 refine bj (id R) λm aw frs r=>?_;refine add_tuples r.F r.N (R.isTup h1) (R.isTup h3) (λh0=>?_) (λh0 TB=>?_) (λh0 TB h' F' N'=>?_) (by(refine((h2.length)) ▸?_;refine((h4.length)) ▸?_);exact gf hs)
 ·subst h0;obtain rfl:=List.length_eq_zero_iff.mp (h2.length);exact k.done (by exact(aZ q ys rfl h3 h4)) R
 ·subst TB;obtain rfl:=List.length_eq_zero_iff.mp (h4.length);exact k.done (by rw[Yt];exact(aZ p xs rfl h1 h2)) R
 ·obtain⟨le,r'⟩:=r.newTup (vs:=xs++ys) (s':={s with heap:=h'}) F' N' (λp hp=>Zj (r.N p hp).1) ⟨rfl,rfl,_,rfl⟩ rfl rfl;refine k _ _ le _ ?_ (b7 m _ frs r');exact(aZ _ (xs++ys) rfl (Ze rfl) ((h2.append h4).mono le))
theorem sP(h:ol o=true):o= .add:=by cases o<;>first|rfl|exact nf h
theorem Kq{σ':St}(hv:bZ o x y=some v)(ha:VR W κ x a)(hb:VR W κ y b)(R:bA W C κ σ s)(k:bF W C (λκ=>VR W κ) Q E (.ok v) κ σ):wpAny (model W.prog W.w) C.A (binaryOp (Eh o) a b) Q E s:=by
 cases x with
 |int i=>
  obtain⟨j,rfl,h⟩:=pf hv
  (refine U (om h) λc g q3=>?_;subst q3)
  obtain⟨t,rfl⟩:=ha.int;obtain⟨u,rfl⟩:=hb.int;exact J1 g λv n hv=>k.done hv R.toks
 |str l=>
  obtain⟨l',rfl,h⟩:=EC hv;obtain⟨g,e⟩:=bY h;obtain rfl:=sP (an g).1;obtain rfl:=si e;obtain⟨t,rfl⟩:=ha.str;obtain⟨u,rfl⟩:=hb.str;refine PyProof.Rows.add_str (λt' tk=>k.done ?_ R.toks) (gf (an g).2);exact⟨t',by show Value.str ⟨l.toArray++l'.toArray⟩ t'=_;rw[List.append_toArray]⟩
 |tup l=>
  obtain⟨l',rfl,h⟩:=Rc hv;obtain⟨g,e⟩:=bY h;obtain rfl:=sP (an g).1;obtain rfl:=si e;exact Je (an g).2 ha hb R k
 |_=>exact nt hv
theorem NY(hl:SndE W C l ml)(hr:SndE W C r mr):
  SndE W C (.BinOp l (Eh o) r pos) (M.bind ml λx=>M.bind mr λy=>M.opt (bZ o x y)):=by
 intro κ σ res σ' h s Q E R k;refine wpAny_BinOp ?_;refine bV.bind (hl κ σ) h R k λam ai x a aE le hx ar ap k₁=>?_;refine bV.bind (hr am ai) ap ar k₁ λbM bH y b c9 aY hy bE aT dQ=>?_
 (refine a8 (ij aT) λv hv q3 q4=>?_;subst q3;subst q4)
 exact Kq (σ':=σ') hv (hx.mono aY) hy bE dQ
theorem NQ(hx:SndE W C x mx):SndE W C (.UnaryOp .USub x pos) (M.bind mx λv=>M.oI v λi=>M.pure (.int (-i))):=by
 intro κ σ res σ' h s Q E R k;refine UnaryOp_ ?_;refine bV.bind (hx κ σ) h R k λam ai v a aE le hv ar ap k₁=>?_
 (refine U (AY ap) λi q2 ap=>?_;subst q2)
 obtain⟨rfl,rfl⟩:=ao ap;obtain⟨t,rfl⟩:=hv.int;exact PyProof.Rows.neg_int (k₁.done (eJ _ _) ar.toks)
theorem ic(ht:iG v=some t)(hv:VR W κ v a)(h:Q t s):wpAny (model W.prog W.w) C.A (truthy a) Q E s:=by
 cases v with
 |bool b=>obtain rfl:=si ht;rw[hv.bool];exact zao h
 |int i=>
  obtain rfl:=si ht;obtain⟨u,rfl⟩:=hv.int;exact truthy_int h
 |_=>exact nt ht
theorem jH(h:M.bind (M.opt o) f σ=some r):∃a,o=some a/\f a σ=some r:=by
 cases o with
 |none=>exact nt h
 |some a=>exact(al a rfl h)
theorem NO(hx:SndE W C x mx):SndE W C (.UnaryOp .Not x pos) (M.bind mx λv=>M.bind (M.opt (iG v)) λt=>M.pure (.bool (!t))):=by
 intro κ σ res σ' h s Q E R k;refine UnaryOp_ ?_;refine bV.bind (hx κ σ) h R k λam ai v a aE le hv ar ap k₁=>?_;refine U (jH ap) λt ht aT=>?_;obtain⟨rfl,rfl⟩:=ao aT;exact not_of (ic ht hv (k₁.done (uV _) ar))
theorem NV(hc:SndT W C c mc)(ha:SndE W C a ma)(hb:SndE W C b mb):
  SndE W C (.IfExp c a b pos) (M.bind mc λt=>match t with|true=>ma|false=>mb):=by
 intro κ σ res σ' h s Q E R k;refine IfExp_ ?_;refine bV.bind (hc κ σ) h R k λam ai t t' aE le ht ar ap k₁=>?_;subst ht;cases t with
 |true=>exact ha am ai _ _ ap _ _ _ ar k₁
 |false=>exact hb am ai _ _ ap _ _ _ ar k₁
theorem NZ(h:cw (λe x=>SndE W C e (ih.e x)) es xs):SndE W C (.BoolOp .And es pos) (lL ih xs):=by
 induction xs generalizing es with
 |nil=>intro κ σ res σ' h;exact nt h
 |cons x xs i=>
  cases es with
  |nil=>exact h.elim
  |cons e es=>
   cases xs with
   |nil=>
    cases es with
    |nil=>exact h.1
    |cons _ _=>exact h.2.elim
   |cons x' xs=>
    cases es with
    |nil=>exact h.2.elim
    |cons e' es=>
     intro κ σ res σ' h' s Q E R k;refine BoolOp_and ?_;refine bV.bind (h.1 κ σ) h' R k λam ai v a aE le hv ar ap k₁=>?_;refine U (jH ap) λt ht aT=>?_;refine ic ht hv ?_;cases t with
     |false=>
      obtain⟨rfl,rfl⟩:=ao aT;exact k₁.done hv ar
     |true=>exact i h.2 am ai _ _ aT _ _ _ ar k₁
theorem RH(h:cw (λe x=>SndE W C e (ih.e x)) es xs):SndE W C (.BoolOp .Or es pos) (pM ih xs):=by
 induction xs generalizing es with
 |nil=>intro κ σ res σ' h;exact nt h
 |cons x xs i=>
  cases es with
  |nil=>exact h.elim
  |cons e es=>
   cases xs with
   |nil=>
    cases es with
    |nil=>exact h.1
    |cons _ _=>exact h.2.elim
   |cons x' xs=>
    cases es with
    |nil=>exact h.2.elim
    |cons e' es=>
     intro κ σ res σ' h' s Q E R k;refine BoolOp_or ?_;refine bV.bind (h.1 κ σ) h' R k λam ai v a aE le hv ar ap k₁=>?_;refine U (jH ap) λt ht aT=>?_;refine ic ht hv ?_;cases t with
     |true=>
      obtain⟨rfl,rfl⟩:=ao aT;exact k₁.done hv ar
     |false=>exact i h.2 am ai _ _ aT _ _ _ ar k₁
theorem E7(hx:SndE W C e mx)(hp:∀env whole,PySem.isTrue e env whole=(do let v<-whole;standAt (Expr.pos e);holding [v] (truthy v))):SndT W C e (M.bind mx λv=>M.opt (iG v)):=by
 intro κ σ res σ' h s Q E R k;refine isTrue_plain ?_ (hp _ _);refine bV.bind (hx κ σ) h R k λam ai v a aE le hv ar ap k₁=>?_
 (refine a8 (ij ap) λt ht q3 q4=>?_;subst q3;subst q4)
 exact ic ht hv (k₁.done rfl ar)
theorem MK(hx:SndT W C e mx):SndT W C (.UnaryOp .Not e pos) (M.bind mx λt=>M.pure (!t)):=by
 intro κ σ res σ' h s Q E R k;refine isTrue_not ?_;refine bV.bind (hx κ σ) h R k λam ai t t' aE le ht ar ap k₁=>?_;obtain⟨rfl,rfl⟩:=ao ap;subst ht;exact k₁.done rfl ar
theorem MN(h:cw (λe x=>SndT W C e (ih.b x)) es xs):∀whole κ σ,bV W C κ σ (PySem.isTrue (.BoolOp .And es pos) C.env whole) (ES ih xs σ) (λ_ b b'=>b=b'):=by
 induction xs generalizing es with
 |nil=>
  cases es with
  |cons _ _=>exact h.elim
  |nil=>
   intro whole κ σ res σ' h s Q E R k;obtain⟨rfl,rfl⟩:=ao h;exact isTrue_and_nil (k.done rfl R)
 |cons x xs i=>
  cases es with
  |nil=>exact h.elim
  |cons e es=>
   intro whole κ σ res σ' h' s Q E R k;refine isTrue_and ?_;refine bV.bind (h.1 κ σ) h' R k λam ai t t' aE le ht ar ap k₁=>?_;subst ht;cases t with
   |false=>
    obtain⟨rfl,rfl⟩:=ao ap;exact k₁.done rfl ar
   |true=>exact i h.2 _ am ai _ _ ap _ _ _ ar k₁
theorem QM(h:cw (λe x=>SndT W C e (ih.b x)) es xs):∀whole κ σ,bV W C κ σ (PySem.isTrue (.BoolOp .Or es pos) C.env whole) (ER ih xs σ) (λ_ b b'=>b=b'):=by
 induction xs generalizing es with
 |nil=>
  cases es with
  |cons _ _=>exact h.elim
  |nil=>
   intro whole κ σ res σ' h s Q E R k;obtain⟨rfl,rfl⟩:=ao h;exact isTrue_or_nil (k.done rfl R)
 |cons x xs i=>
  cases es with
  |nil=>exact h.elim
  |cons e es=>
   intro whole κ σ res σ' h' s Q E R k;refine isTrue_or ?_;refine bV.bind (h.1 κ σ) h' R k λam ai t t' aE le ht ar ap k₁=>?_;subst ht;cases t with
   |true=>
    obtain⟨rfl,rfl⟩:=ao ap;exact k₁.done rfl ar
   |false=>exact i h.2 _ am ai _ _ ap _ _ _ ar k₁
theorem ML{mc ma mb:M Bool}(hc:SndT W C c mc)(ha:SndT W C a ma)(hb:SndT W C b mb):
  SndT W C (.IfExp c a b pos) (M.bind mc λt=>match t with|true=>ma|false=>mb):=by
 intro κ σ res σ' h s Q E R k;refine isTrue_IfExp ?_;refine bV.bind (hc κ σ) h R k λam ai t t' aE le ht ar ap k₁=>?_;subst ht;cases t with
 |true=>exact ha am ai _ _ ap _ _ _ ar k₁
 |false=>exact hb am ai _ _ ap _ _ _ ar k₁
end
def Ax:Value->Int
 | .int i _=>i
 |_=>0
def Hv:Data->Bool
 | .dict _ _=>true
 |_=>false
def wP:Data->Array DictEntry
 | .dict es _=>es
 |_=> #[]
def IV(e:DictEntry):Bool:=e.key== .int (Ax e.key) (tokOf e.key)&&e.hash==hashInt (Ax e.key)
def yj(K:Frag)(a:Addr)(l:List Int):Bool:= !(a==sysModules)&&(K.lookup a).any λo=>(o.cls== .type "dict"&&(o.dict.isNone&&o.slots.isEmpty))&&(Hv o.data&&((wP o.data).toList.all IV&&((wP o.data).toList.map (λe=>Ax e.key)==l&&decide l.Nodup)))
section
variable{W:SW}{C:Cx}{κ:Kn}{σ:St}{s:Shared}
theorem F3(h:Hv d=true):∃n,d= .dict (wP d) n:=by cases d with|dict es n=>exact⟨n,rfl⟩|_=>exact nf h
theorem Hw(h:IV e=true):(PySem.intKind W.prog W.w).is (Ax e.key) e.key=true:=by
 rw[eq_of_beq (an h).1];exact Y5 _ _ _ _
theorem yL(h:∀e∈es,IV e=true):PySem.Pairs (PySem.intKind W.prog W.w) es (es.map (λe=>(Ax e.key,e.val))):=by
 induction es with
 |nil=>exact .nil
 |cons e es ih=>exact .cons (Hw (h e (.head _))) rfl (ih λx hx=>h x (.tail _ hx))
theorem td:∀{bt:List (Int×Value)},(valueAt bt i).isSome=(bt.map (·.1)).contains i:=by
 intro bt
 induction bt with
 |nil=>exact rfl
 |cons q_ r ih=>
  skip;by_cases h:q_.1=i
  ·subst h;simp[valueAt]
  ·have h':¬i=q_.1:=λe=>h e.symm;simp only[valueAt,zae,h,decide_false]at ih⊢;rw[ih];simp[h']
theorem Jh(h:yj W.K a l=true):(a==sysModules)=false/\∃o bt,W.base.get? a=some o/\o.IsDictOf (PySem.intKind W.prog W.w) bt/\bt.map (·.1)=l:=by
 refine U (oa (an h).2) λo ho h2=>?_;have d:=an (an h2).2;obtain⟨n,hd⟩:=F3 d.1;have g:=X7.mp (an d.2).1;exact⟨iq (an h).1,o,_,W.X _ _ ho,(yB (wP o.data) n ⟨eq_of_beq (an (an h2).1).1,ZL.mp (an (an (an h2).1).2).1,Array.isEmpty_iff.mp (an (an (an h2).1).2).2⟩ hd (λx hx=>(al _ (Hw (g x (Array.mem_toList_iff.mpr hx))) (eq_of_beq (an (g x (Array.mem_toList_iff.mpr hx))).2))) (yL g) (by rw[List.map_map];exact(eq_of_beq (an (an d.2).2).1) ▸ YN (an (an d.2).2).2)),by rw[List.map_map];exact(eq_of_beq (an (an d.2).2).1)⟩
theorem cI.nil(h:cI W κ [] us):us= []:=by simpa only[cI]using h
theorem cI.cons(h:cI W κ (v::vs) us):∃x xs,us=x::xs/\VR W κ v x/\cI W κ vs xs:=by simpa only[cI]using h
theorem Bv(R:bA W C κ σ s):(∀{v:V} {d:PyData} {u:Value},uj σ.heap n v=some d->VR W κ v u->∃as,Reads s.heap u d as)/\∀{vs:List V} {ds:List PyData} {us:List Value},j0 σ.heap n vs=some ds->cI W κ vs us->∃as,ReadsAll s.heap us ds as:=by
 induction n with
 |zero=>exact⟨λh=>nt h,λh=>nt h⟩
 |succ n ih=>
  refine⟨?_,?_⟩
  ·intro v d u h hv;cases v with
   |none=>obtain rfl:=si h;rw[hv.none];exact⟨_, .none⟩
   |bool b=>obtain rfl:=si h;rw[hv.bool];exact⟨_, .bool _⟩
   |int i=>obtain rfl:=si h;obtain⟨t,rfl⟩:=hv.int;exact(iP _ (.int _ _))
   |str l=>obtain rfl:=si h;obtain⟨t,rfl⟩:=hv.str;exact(iP _ (.str _ _))
   |tup vs=>
    (refine U (om h) λds hd q3=>?_;subst q3)
    (refine a9 (hv.tup) λa xs q3 h1 h2=>?_;subst q3)
    obtain⟨o,ho,hc,k,WC⟩:=R.isTup h1;obtain⟨as,r⟩:=ih.2 hd h2;exact(iP _ (.tuple ho hc WC r))
   |obj t i=>
    refine U (ob h) λo hl h=>?_
    (refine U (Rh h) λvs q2 h=>?_;subst q2)
    (refine U (om h) λds hd q3=>?_;subst q3)
    (refine U (hv.obj) λa q2 h1=>?_;subst q2)
    refine bj (id R) λm aw frs r=>?_;refine cZ (r.nr.obj hl) λa' iK k h2 h3 h4=>?_;obtain rfl:=si (h1.symm.trans h2);obtain⟨as,rr⟩:=ih.2 hd h4;exact(iP _ (.list (r.N _ (X6 _ h3)).1 rfl rfl rr))
   |glob _=>exact nt h
  ·intro vs ds us h hv;cases vs with
   |nil=>obtain rfl:=si h;obtain rfl:=hv.nil;exact(iP _ (.nil))
   |cons v vs=>
    refine U (ob h) λd hd h=>?_;obtain⟨ds,KL,rfl⟩:=om h
    (refine a9 (hv.cons) λx xs q3 h1 h2=>?_;subst q3)
    obtain⟨as,r⟩:=ih.1 hd h1;obtain⟨bs,rs⟩:=ih.2 KL h2;exact(iP _ (.cons r rs))
theorem E8:∀{ls:List (List Nat)} {us:List Value},mm vs=some ls->cI W κ vs us->StrsAre us (ls.map λl=>⟨l.toArray⟩):=by
 induction vs with
 |nil=>intro ls us h hv;obtain rfl:=si h;obtain rfl:=hv.nil;exact .nil
 |cons v vs ih=>
  intro ls us h hv
  (refine U (EC h) λl q2 h=>?_;subst q2)
  (refine U (om h) λls hl q3=>?_;subst q3)
  (refine a9 (hv.cons) λx xs q3 h1 h2=>?_;subst q3)
  obtain⟨t,rfl⟩:=h1.str;exact .cons _ _ (ih hl h2)
theorem ow(h:VR W κ v u):(u== .none)=isNone v:=by
 cases v with
 |none=>rw[h.none];rfl
 |bool b=>rw[h.bool];rfl
 |int i=>obtain⟨t,rfl⟩:=h.int;rfl
 |str l=>obtain⟨t,rfl⟩:=h.str;rfl
 |tup vs=>(refine bS (h.tup) λa xs q3 _=>?_;subst q3);rfl
 |obj t i=>(refine U (h.obj) λa q2 _=>?_;subst q2);rfl
 |glob g=>(refine U h λa q2 _=>?_;clear h;subst q2);rfl
theorem F2(h:isInt v=true):v= .int (rX v):=by cases v with|int i=>rfl|_=>exact nf h
theorem F4:∀{us:List Value},vs.all isInt=true->cI W κ vs us->PySem.ItemsAre (PySem.intKind W.prog W.w) (vs.map rX) us:=by
 induction vs with
 |nil=>intro us _ hv;obtain rfl:=hv.nil;exact .nil
 |cons v vs ih=>
  intro us h hv
  (refine a9 (hv.cons) λx xs q3 h1 h2=>?_;subst q3)
  rw[F2 (an h).1]at h1;obtain⟨t,rfl⟩:=h1.int;exact .cons (Y5 _ _ _ _) (ih (an h).2 h2)
theorem yK(R:bA W C κ σ s){vs:List V}:∀{us:List Value},vs.all cF=true->cI W κ vs us->cG W.prog W.w s.heap (vs.map lZ) us:=by
 induction vs with
 |nil=>intro us _ hv;obtain rfl:=hv.nil;exact .nil
 |cons v vs ih=>
  intro us h hv
  (refine a9 (hv.cons) λx xs q3 h1 h2=>?_;subst q3)
  cases v with
  |int i=>
   obtain⟨t,rfl⟩:=h1.int;exact .int (ih (an h).2 h2)
  |tup l=>
   (refine a9 (h1.tup) λa ys q3 h3 h4=>?_;subst q3)
   obtain⟨o,ho,hc,n,hd⟩:=R.isTup h3;exact .tup (pg o _ n ho hc hd (F4 ((an h).1) h4)) (ih (an h).2 h2)
  |_=>exact nf ((an h).1)
theorem G4(R:bA W C κ σ s)(hp:RT p kk)(hv:VR W κ p (.ref b)):iy W.prog W.w s.heap kk b:=by
 obtain⟨h1,rfl⟩:=hp;refine hg λcg kg=>?_;(refine U (i9 h1) λvs q2 hs=>?_;subst q2)
 refine a9 (hv.tup) λa xs e h3 h4=>?_;cases e;obtain⟨o,ho,hc,n,hd⟩:=R.isTup h3;refine kg ?_;exact(pg o _ n ho hc hd (by show cG W.prog W.w s.heap (vs.map lZ) _;simpa using yK R hs h4))
theorem DN(R:bA W C κ σ s)(ho:s.heap.get? a=some o)(h:lN W o xs)(hk:KT (VR W κ) es xs):s.heap.DictOfH (fc W.prog W.w) a xs:=by
 (refine cT h λKU ep h1 h2 h3 h4=>?_;clear h)
 refine⟨o,KU,ep,ho,h1,h2,h3,λx hx=>?_,h4⟩;refine U (hk.keys x hx) λp hp hv=>?_;exact G4 R hp hv
inductive r5(W:SW)(C:Cx)(κ:Kn)(σ:St)(s:Shared)(es:List (V×V))(k:V)(u:Value)(a:Addr)(o:Obj)(aw frs:List (Addr×Obj)):Prop
 |str (l:List Nat) (t:Nat) (bt:List (Str×Value)):k= .str l->u= .str ⟨l.toArray⟩ t->o.IsDictOf (PySem.strKind W.prog W.w) bt->KV RS (VR W κ) es bt->r5 W C κ σ s es k u a o aw frs
 |int (i:Int) (t:Nat) (bt:List (Int×Value)):k= .int i->u= .int i t->o.IsDictOf (PySem.intKind W.prog W.w) bt->KV RI (VR W κ) es bt->r5 W C κ σ s es k u a o aw frs
 |tup (b:Addr) (kk:dR) (xs:List (dR×Addr×Value)):RT k kk->u= .ref b->iy W.prog W.w s.heap kk b->s.heap.DictOfH (fc W.prog W.w) a xs->KT (VR W κ) es xs->r5 W C κ σ s es k u a o aw frs
theorem pF(r:ba W C κ σ s m aw frs)(hd:nth (σ.heap t) i=some (.dict kd es))(ha:κ.at_ t i false=some a)(hk:gp kd k=true)(hv:VR W κ k u):
  ∃o,(a,o)∈aw/\eM W κ kd es a o/\r5 W C κ σ s es k u a o aw frs:=by
 refine a9 (r.nr.obj hd) λa' o h1 h2 D=>?_;rw[ha]at h1;obtain rfl:=Yi h1;refine(aM o h2 D ?_);unfold gp at hk;simp only[Ye,Zd]at hk;have kW:=by have:=hk.1;simp only[zaE]at this;exact this
 have Il:=hk.2.imp Yh Yh;cases k with
 |str l=>
  obtain⟨t,rfl⟩:=hv.str;refine U (D.one (Il.elim (λe=> .inr e) .inl)) λbt x1 x2=>?_;exact .str l t bt rfl rfl x1 x2
 |int j=>
  obtain⟨t,rfl⟩:=hv.int;refine U (D.two (Il.elim (λe=> .inr e) .inl)) λbt x1 x2=>?_;exact .int j t bt rfl rfl x1 x2
 |tup vs=>
  (refine a9 (hv.tup) λb xs q3 h3 h4=>?_;subst q3)
  have hR:RT (.tup vs) (Mf (.tup vs)):=⟨by simp only[cP,(show vs.all cF=true from by
   dsimp only[cP]at kW;cases q:vs.all cF with
   |true=>rfl
   |false=>rw[q]at kW;exact absurd kW ak)],rfl⟩
  refine U (D.three (Il.elim (λe=> .inr (e.trans hR.1)) .inl)) λUf x1 x2=>?_;exact .tup b _ Uf hR rfl (G4 (⟨m,aw,frs,r⟩) hR hv) (DN (⟨m,aw,frs,r⟩) (r.N _ (X6 _ h2)).1 x1 x2) x2
 |none=>simp[cP]at kW
 |bool b=>simp[cP]at kW
 |obj t i=>simp[cP]at kW
 |glob g=>simp[cP]at kW
theorem KV.some'{K:Type} [DecidableEq K]{R:V->K->Prop}(hR:∀{p q:V} {a b:K},R p a->R q b->(p=q↔a=b)){k:K}(hp:R p k){bt:List (K×Value)}(h:KV R S es bt):(valueAt bt k).isSome=(aO p es).isSome:=by
 have h:=KV.look hR hp h;refine dJ (aO p es) (λq=>?_) λv q=>?_
 ·rw[q];rw[q]at h;rw[h];rfl
 ·rw[q];rw[q]at h;(refine U h λx e _=>?_;clear h);rw[e];rfl
theorem KT.some'(hp:RT p k)(h:KT (VR W κ) es xs):(atKey xs k).isSome=(aO p es).isSome:=by
 have h:=KT.look hp h;refine dJ (aO p es) (λq=>?_) λv q=>?_
 ·rw[q];rw[q]at h;rw[h];rfl
 ·rw[q];rw[q]at h;(refine U h λx e _=>?_;clear h);rw[e];rfl
theorem HG(hc:GR σ.heap x y=some t)(ha:VR W κ x a)(hb:VR W κ y b)(R:bA W C κ σ s):∃d d' as bs,Reads s.heap a d as/\Reads s.heap b d' bs/\SeqAt.shaped d=true/\SeqAt.shaped d'=true/\t=PyData.eqv d d':=by
 refine hg λcg kg=>?_;refine U (ob hc) λd e1 h=>?_;refine U (ob h) λd' e2 h=>?_;obtain⟨g,e⟩:=bY h;obtain⟨as,ra⟩:=(Bv R).1 e1 ha;obtain⟨bs,rb⟩:=(Bv R).1 e2 hb;refine kg ?_;exact⟨d,d',as,bs,ra,rb,(an g).1,(an g).2,(si e).symm⟩
theorem Hx(hu:C.A.units+64<cLine):C.A.in1.units+8<cLine:=by rw[Around.in1_units];exact YJ (by rw[Y0];exact Yx ak _) hu
theorem Kk(h:AE σ.heap x y=some t)(ha:VR W κ x a)(hb:VR W κ y b)(r:ba W C κ σ s m aw frs):∃p o kd es,b= .ref p/\(p,o)∈aw++frs/\eM W κ kd es p o/\r5 W C κ σ s es x a p o aw frs/\t=(aO x es).isSome:=by
 cases y with
 |obj s i=>
  refine hg λcg kg=>?_;refine U (ob h) λVC hd h=>?_
  (refine bS (Ri h) λkd es q3 h=>?_;subst q3)
  obtain⟨hk,e⟩:=bY h
  (refine U (hb.obj) λp q2 h1=>?_;subst q2)
  refine a8 (pF r hd h1 hk ha) λo hm D ka=>?_;refine kg ?_;exact⟨p,o,kd,es,rfl,X6 frs hm,D,ka,(si e).symm⟩
 |_=>exact nt h
theorem xJ(h:AE σ.heap x y=some t)(ha:VR W κ x a)(hb:VR W κ y b)(R:bA W C κ σ s)(hu:C.A.units+64<cLine):
  ((∀n,Q (.bool t) {s with toks:=n})->wpAny (model W.prog W.w) C.A (compareOp .In a b) Q E s)/\((∀n,Q (.bool (!t)) {s with toks:=n})->wpAny (model W.prog W.w) C.A (compareOp .NotIn a b) Q E s):=by
 refine bj (id R) λm aw frs r=>?_
 (refine cz (Kk h ha hb r) λp o kd es q=>?_;(refine AL q λq1 hm D ka q5=>?_;try clear q;subst q1;subst q5))
 cases ka with
 |str l tt bt e1 e2 x1 x2=>
  subst e1 e2;have e:=KV.some' (K:=Str) (λa b=>RS.iff a b) (al l rfl rfl) x2;exact⟨λh=>kda_in r.N hm x1 D.low (Zt _ _ _ _) _ e (h _),λh=>kdg_notin r.N hm x1 D.low (Zt _ _ _ _) _ e (h _)⟩
 |int l tt bt e1 e2 x1 x2=>
  subst e1 e2;have e:=KV.some' (K:=Int) (λa b=>RI.iff a b) (show RI (.int l) l from rfl) x2;exact⟨λh=>kda_in r.N hm x1 D.low (Y5 _ _ _ _) _ e (h _),λh=>kdg_notin r.N hm x1 D.low (Y5 _ _ _ _) _ e (h _)⟩
 |tup bb kk xs hR e2 x0 x1 x2=>
  subst e2;have e:=KT.some' hR x2;exact⟨λh=>wpAny_in_heap (knd:=fc W.prog W.w) (Hx hu) x0 D.low x1 (by rw[e];exact h _),λh=>wpAny_notIn_heap (knd:=fc W.prog W.w) (Hx hu) x0 D.low x1 (by rw[e];exact h _)⟩
def zR:o9->CmpOp
 | .eq=> .Eq
 | .ne=> .NotEq
 | .lt=> .Lt
 | .le=> .LtE
 | .gt=> .Gt
 | .ge=> .GtE
 | .is=> .Is
 | .isNot=> .IsNot
 | .isIn=> .In
 | .notIn=> .NotIn
theorem E9{ls:List (List Nat)}:(ls.map λl=>(⟨l.toArray⟩:Str)).any (·==⟨l.toArray⟩)=ls.any λx=>decide (x=l):=by
 rw[List.any_map];congr 1;funext x;exact decide_eq_decide.mpr ⟨λe=>Yd (λs:Str=>s.cps.toList) e,λe=>e ▸ rfl⟩
theorem Nr(hu:C.A.units+64<cLine)(uB:∀g l,W.P.table g=some l->∃a,W.gl g=some a/\yj W.K a l=true)(hc:IP W.P σ.heap x y=some t)(ha:VR W κ x a)(hb:VR W κ y b)(R:bA W C κ σ s)(h:∀n,Q (.bool t) {s with toks:=n}):wpAny (model W.prog W.w) C.A (compareOp .In a b) Q E s:=by
 cases y with
 |tup vs=>
  (refine U (EC hc) λl q2 hc=>?_;subst q2)
  (refine U (om hc) λls hl q3=>?_;subst q3)
  obtain⟨t,rfl⟩:=ha.str
  (refine a9 (hb.tup) λp xs q3 h1 h2=>?_;subst q3)
  exact in_tuple_strs (R.isTup h1) (E8 hl h2) (by rw[E9];exact h s.toks)
 |glob g=>
  (refine U (pf hc) λi q2 hc=>?_;subst q2)
  refine hg λcg kg=>?_;(refine U (om hc) λl hl q3=>?_;subst q3)
  refine U (uB g l hl) λp hp Rm=>?_
  (refine U hb λq q2 e=>?_;clear hb;subst q2)
  obtain rfl:=si (hp.symm.trans e);obtain⟨t,rfl⟩:=ha.int;obtain⟨low,ob,bt,n0,hd,hk⟩:=Jh Rm;refine bj (id R) λm aw frs r=>?_;refine kg ?_;exact wpAny_in_of (Y5 _ _ _ _) low (ZQ.mpr (al ob (r.F.keep _ _ n0) hd)).mapOf (by rw[td,hk];exact h _)
 |obj s i=>exact(xJ (x:=x) (y:= .obj s i) hc ha hb R hu).1 h
 |_=>exact nt hc
theorem pL(hu:C.A.units+64<cLine)(uB:∀g l,W.P.table g=some l->∃a,W.gl g=some a/\yj W.K a l=true)(hc:me W.P σ.heap o x y=some t)(ha:VR W κ x a)(hb:VR W κ y b)(R:bA W C κ σ s)(h:∀n,Q (.bool t) {s with toks:=n}):wpAny (model W.prog W.w) C.A (compareOp (zR o) a b) Q E s:=by
 have h0:Q (.bool t) s:=h s.toks;have ii:∀{f:Int->Int->Bool},(oI x λa=>oI y λb=>some (f a b))=some t->∃i j p q,a= .int i p/\b= .int j q/\f i j=t:=by
  intro f g;refine U (pf g) λi e1 g1=>?_;refine U (pf g1) λj e2 g2=>?_;rw[e1]at ha;rw[e2]at hb;obtain⟨p,rfl⟩:=ha.int;obtain⟨q,rfl⟩:=hb.int;exact(AJ i j p q rfl rfl (si g2))
 cases o with
 |eq=>(refine cz (HG hc ha hb R) λd d' as bs q=>?_;(refine AL q λra rb s1 s2 q5=>?_;try clear q;subst q5));exact SeqAt.compareEq_shaped ra rb s1 s2 hu h0
 |ne=>
  obtain⟨c,g,rfl⟩:=om hc
  (refine cz (HG g ha hb R) λd d' as bs q=>?_;(refine AL q λra rb s1 s2 q5=>?_;try clear q;subst q5))
  exact SeqAt.compareNe_shaped ra rb s1 s2 hu h0
 |lt=>obtain⟨i,j,p,q,rfl,rfl,rfl⟩:=ii hc;exact PyProof.Rows.lt_int h0
 |le=>obtain⟨i,j,p,q,rfl,rfl,rfl⟩:=ii hc;exact PyProof.Rows.le_int h0
 |gt=>obtain⟨i,j,p,q,rfl,rfl,rfl⟩:=ii hc;exact PyProof.Rows.gt_int h0
 |ge=>obtain⟨i,j,p,q,rfl,rfl,rfl⟩:=ii hc;exact PyProof.Rows.ge_int h0
 |«is»=>
  obtain⟨rfl,e⟩:=L4 hc;obtain rfl:=si e;rw[hb.none];exact is_none_gen (by rw[ow ha];exact h0)
 |isNot=>
  obtain⟨rfl,e⟩:=L4 hc;obtain rfl:=si e;rw[hb.none];exact isnot_none_gen (by rw[ow ha];exact h0)
 |isIn=>exact Nr hu uB hc ha hb R h
 |notIn=>
  obtain⟨c,g,rfl⟩:=om hc;exact(xJ g ha hb R hu).2 h
end
def mA(W:SW):Prop:=∀g l,W.P.table g=some l->∃a,W.gl g=some a/\yj W.K a l=true
section
variable{W:SW}{C:Cx}{κ:Kn}{σ:St}{s:Shared}
theorem jS(h:M.bind (M.cmp W.P o x y) f σ=some r):∃t,me W.P σ.heap o x y=some t/\f t σ=some r:=by
 unfold M.bind M.cmp at h;refine dJ (me W.P σ.heap o x y) (λe=>?_) λt e=>?_
 ·rw[e]at h;exact nt h
 ·(refine(e).symm ▸?_);rw[e]at h;exact(al t rfl h)
theorem dH{f:α->M β}{g:β->M γ}:M.bind (M.bind m f) g=M.bind m λa=>M.bind (f a) g:=by
 funext σ;unfold M.bind;cases m σ with
 |none=>rfl
 |some p=>
  obtain⟨r,σ'⟩:=p;cases r<;>rfl
inductive GY(W:SW)(C:Cx)(ih:Ih):List o9->List Expr->List Ex->Prop
 |one {o e x}:SndE W C e (ih.e x)->GY W C ih [o] [e] [x]
 |more {o e x o' e' x' os es xs}:SndE W C e (ih.e x)->GY W C ih (o'::os) (e'::es) (x'::xs)->GY W C ih (o::o'::os) (e::e'::es) (x::x'::xs)
theorem qx(hu:C.A.units+64<cLine)(uB:mA W){os:List o9}(hc:GY W C ih os rs xs):
  ∀{κ σ x a},VR W κ x a->bV W C κ σ (testChain pos a (os.map zR) (evalEach rs C.env)) (gq W.P ih x os xs σ) (λ_ b b'=>b=b'):=by
 induction hc with
 | @one o r y ho2=>
  intro κ σ x a hx res σ' h s Q E R k;refine Yb (YZ ?_);refine bV.bind (ho2 κ σ) h R k λam ai y b aE le hy ar ap k₁=>?_;refine Yb (Zg (Yb (wpAny_operateT ?_)));refine hg λcg kg=>?_;refine U (jS ap) λt e aT=>?_;obtain⟨rfl,rfl⟩:=ao aT;refine kg ?_;exact pL hu uB e (hx.mono le) hy ar λn=>YZ (zao (k₁.done rfl ar.toks))
 | @more o r y o' r' y' os rs ys ho2 ho3 i=>
  intro κ σ x a hx res σ' h s Q E R k;refine Yb (YZ ?_);refine bV.bind (ho2 κ σ) h R k λam ai y b aE le hy ar ap k₁=>?_;refine Yb (Zg (Yb (YZ ?_)));refine U (jS ap) λt e aT=>?_;refine pL hu uB e (hx.mono le) hy ar λn=>Yb (wpAny_release' (Yb (YZ (zao ?_))));cases t with
  |false=>
   obtain⟨rfl,rfl⟩:=ao aT;exact Yp (k₁.done rfl ar.toks)
  |true=>exact i hy _ _ aT _ _ _ ar.toks k₁
theorem lq(hu:C.A.units+64<cLine)(uB:mA W){os:List o9}(hc:GY W C ih os rs xs):
  ∀{κ σ x a},VR W κ x a->bV W C κ σ (compareChain pos a (os.map zR) (evalEach rs C.env)) (M.bind (gq W.P ih x os xs) (λt=>M.pure (.bool t)) σ) (λκ=>VR W κ):=by
 induction hc with
 | @one o r y ho2=>
  intro κ σ x a hx res σ' h s Q E R k;refine Yb (YZ ?_);unfold gq at h;rw[dH]at h;refine bV.bind (ho2 κ σ) h R k λam ai y b aE le hy ar ap k₁=>?_;refine Yb (Zg (wpAny_operateT ?_));rw[dH]at ap;refine hg λcg kg=>?_;refine U (jS ap) λt e aT=>?_;obtain⟨rfl,rfl⟩:=ao aT;refine kg ?_;exact pL hu uB e (hx.mono le) hy ar λn=>k₁.done (uV _) ar.toks
 | @more o r y o' r' y' os rs ys ho2 ho3 i=>
  intro κ σ x a hx res σ' h s Q E R k;refine Yb (YZ ?_);unfold gq at h;rw[dH]at h;refine bV.bind (ho2 κ σ) h R k λam ai y b aE le hy ar ap k₁=>?_;refine Yb (Zg (Yb (YZ ?_)));rw[dH]at ap;refine U (jS ap) λt e aT=>?_;refine pL hu uB e (hx.mono le) hy ar λn=>Yb (wpAny_release' (Yb (YZ (zao ?_))));cases t with
  |false=>
   obtain⟨rfl,rfl⟩:=ao (show M.pure (.bool false) ai=some (res,σ')from aT);exact Yp (k₁.done (uV _) ar.toks)
  |true=>exact i hy _ _ aT _ _ _ ar.toks k₁
theorem MM(hu:C.A.units+64<cLine)(uB:mA W){os:List o9}(hl:SndE W C l ml)(ho:GY W C ih os rs xs)(hm:markedEach (os.map zR) rs (evalEach rs C.env)=evalEach rs C.env):SndT W C (.Compare l (os.map zR) rs pos) (M.bind ml λx=>gq W.P ih x os xs):=by
 intro κ σ res σ' h s Q E R k;show wpAny _ _ (do testChain pos (<-eval l C.env) (os.map zR) (markedEach (os.map zR) rs (evalEach rs C.env))) _ _ _
 (refine(hm).symm ▸?_)
 refine Yb ?_;refine bV.bind (hl κ σ) h R k λam ai x a aE le hx ar ap k₁=>?_;exact qx hu uB ho hx _ _ ap _ _ _ ar k₁
theorem NX(hu:C.A.units+64<cLine)(uB:mA W){os:List o9}(hl:SndE W C l ml)(ho:GY W C ih os rs xs)(hm:markedEach (os.map zR) rs (evalEach rs C.env)=evalEach rs C.env):SndE W C (.Compare l (os.map zR) rs pos) (M.bind ml λx=>M.bind (gq W.P ih x os xs) λt=>M.pure (.bool t)):=by
 intro κ σ res σ' h s Q E R k;show wpAny _ _ (do compareChain pos (<-eval l C.env) (os.map zR) (markedEach (os.map zR) rs (evalEach rs C.env))) _ _ _
 (refine(hm).symm ▸?_)
 refine Yb ?_;refine bV.bind (hl κ σ) h R k λam ai x a aE le hx ar ap k₁=>?_;exact lq hu uB ho hx _ _ ap _ _ _ ar k₁
end
end Mine
end
section
namespace Mine
open PySem PySem.W PyProof.Rows PySem.Calls Builtin Builtin.ObjectAttr
section
variable{prog:Program}{w:World}{A:Around}{E:Value->Shared->Prop}{s:Shared}{K:Frag}{x C:Addr}{ox:Obj}{od:Option Obj}{name:Str}{expr:Bool}{Q:Value->Shared->Prop}
noncomputable def qo (K:Frag) (C:Addr):Bool:=findIn K (.ref C) "__getattribute__"==some (some (.builtin "BaseException.__getattribute__"))&&findIn K (.ref C) "__getattr__"==some none&&mroIn K C (.type "BaseException")==some true
theorem Gd(X:K.In s.heap)(I:PySem.W.InstAt s.heap x ox C od)(hg:qo K C=true)(hf:findObj K C od name=some (.value v))(hh:handedIn v=true)(h:Q v {s with toks:=s.toks+1}):wpAny (model prog w) A (getAttr (.ref x) name expr) Q E s:=by
 unfold qo at hg;simp only[Ye,zaj]at hg;obtain⟨⟨h1,h2⟩,h3⟩:=hg;obtain⟨hp,g,d,t,os⟩:=s;refine Yb (wpAny_mkText (YZ (Yb ((I.type (M:=model prog w)).at (Yb ((looks_findIn (M:=model prog w) X h1).at ?_))))));unfold getAttrByItsOwn hookBefore callGetattribute;refine Yb ((looks_findIn (M:=model prog w) X h2).at (Yb (wpAny_attempt (YZ ?_))));rw[(show(expr&&onTheHeap (Value.builtin "BaseException.__getattribute__"))=false from by cases expr<;>rfl),YM ak];unfold boundAndCalled;rw[(PySem.F.attr_Exception.ga).bind (.ref x)];refine Yb (Yp (zay ?_));refine codeAny_call_builtin (PySem.F.attr_Exception.ga).plain PySem.F.entry_bexc_ga (@check_slot (model prog w) _ _ _ "BaseException.__getattribute__" "BaseException" "__getattribute__" (.ref x) [.str name t] [] _ (by decide+kernel) (by decide+kernel) ((I.type (M:=model prog w)).andThen (looks_mroIn X h3)) (PySem.F.args_bexc_ga _ _) ?_);refine Yb (Yp (Yb (Yp (Yb ((I.type (M:=model prog w)).at (Yb ((looks_find (M:=model prog w) X I hf).at ?_)))))));refine Yp ?_;show wpAny _ _ (handedOut v) _ _ _;rw[handedOut_of hh];exact Yp h
end
end Mine
end
section
namespace Mine
open PySem PySem.W PyProof.Rows PySem.Calls
section
variable{W:SW}{C:Cx}{κ:Kn}{σ:St}{s:Shared}
theorem ik(h:M.new t o σ=some (res,σ')):res= .ok (.obj t (σ.heap t).length)/\σ'=σ.add t o:=sp h
theorem gM(r:ba W C κ σ s m aw frs):∀p∈aw++frs,p.1<s.heap.objs.size:=λp hp=>Zj (r.N p hp).1
theorem vP(hv:cI W κ vs us)(hl:Nat.ble vs.length ay=true)(R:bA W C κ σ s)(k:bF W C (λκ=>VR W κ) Q E (.ok (.obj t (σ.heap t).length)) κ (σ.add t (.list vs))):wpAny (model W.prog W.w) C.A (newList us) Q E s:=by
 (refine bj R λm aw frs r=>?_;clear R)
 refine newList_K r.F r.N (λl h' F' N' lo=>?_) (hv.length ▸ gf hl);refine de (r.new (t:=t) (mo:= .list vs) (s':={s with heap:=h'}) F' N' lo (iO l us (0) (Kn.add_self) (.head _) (hv.mono (Kn.le_add (r.offEnd t false)))) rfl rfl) λle r'=>?_;exact k _ _ le _ (by exact(al l rfl (Kn.add_self))) (b7 m _ frs r')
theorem ze(hv:cI W κ vs us)(hl:vs.length<=sizeLine)(R:bA W C κ σ s)(k:bF W C (λκ=>VR W κ) Q E (.ok (.tup vs)) κ σ):wpAny (model W.prog W.w) C.A (newTuple us) Q E s:=by
 (refine bj R λm aw frs r=>?_;clear R)
 refine newTuple_N r.F r.N (λh' F' N'=>?_) (by(refine(hv.length) ▸?_);exact hl);obtain⟨le,r'⟩:=r.newTup (vs:=us) (s':={s with heap:=h'}) F' N' (gM r) ⟨rfl,rfl,_,rfl⟩ rfl rfl;exact k _ _ le _ (by exact(aZ _ us rfl (Ze rfl) (hv.mono le))) (b7 m _ frs r')
theorem Ge:∀{vs:List V} {σ σ':St},kK ih xs σ=some (.ok vs,σ')->vs.length=xs.length:=by
 induction xs with
 |nil=>intro vs σ σ' h;refine de (sp h) λe _=>?_;cases e;rfl
 |cons x xs i=>
  intro vs σ σ' h;refine bS (H9 h) λv ai _ h=>?_;refine bS (H9 h) λus bH h2 h=>?_;refine de (sp h) λe _=>?_;cases e;exact Yd Nat.succ (i h2)
theorem NL(hs:cw (λe x=>SndE W C e (ih.e x)) es xs)(gF:∀e∈es,∀rest,starEach (e::rest) C.env=(false,eval e C.env)::starEach rest C.env)(hn:xs.length<=1000):
  SndE W C (.Tuple es kk pos) (M.bind (kK ih xs) λvs=>M.pure (.tup vs)):=by
 intro κ σ res σ' h s Q E R k;refine Tuple_ ?_;refine bV.bindE (mw hs gF κ σ) h R k λam ai vs us aE h1 le hv ar ap k₁=>?_;obtain⟨rfl,rfl⟩:=ao ap;exact ze hv (by rw[Ge h1,sizeLine_eq];exact Yc hn ak) ar k₁
theorem Kd(hs:cw (λe x=>SndE W C e (ih.e x)) es xs)(gF:∀e∈es,∀rest,starEach (e::rest) C.env=(false,eval e C.env)::starEach rest C.env):
  SndE W C (.List es pos) (M.bind (kK ih xs) λvs=>M.lst t vs):=by
 intro κ σ res σ' h s Q E R k;refine List_ ?_;refine bV.bind (mw hs gF κ σ) h R k λam ai vs us aE le hv ar ap k₁=>?_;obtain⟨hl,aT⟩:=cQ ap;obtain⟨rfl,rfl⟩:=ik aT;exact vP hv hl ar k₁
def iW(e:Expr):Bool:=e.casesOn (λ_ _ _=>true) (λ_ _ _=>true) (λ_ _ _ _=>true) (λ_ _ _=>true) (λ_ _ _ _=>true) (λ_ _ _ _=>true) (λ_ _ _=>true) (λ_ _ _=>true) (λ_ _ _ _=>true) (λ_ _ _ _=>true) (λ_ _ _ _ _=>true) (λ_ _ _ _=>true) (λ_ _=>true) (λ_ _=>true) (λ_ _=>true) (λ_ _ _ _=>true) (λ_ es ks _=> !(es.isEmpty&&ks.isEmpty)) (λ_ _ _ _=>true) (λ_ _=>true) (λ_ _ _=>true) (λ_ _ _=>true) (λ_ _ _=>true) (λ_ _=>true) (λ_ _=>true) (λ_ _=>true) (λ_ _ _=>true) (λ_ _ _ _=>true)
theorem xN(h:iW o=true):attributeBase o x env w=w:=by
 cases o with
 |Call f es ks p=>
  cases f with
  |Name n q=>
   cases es with
   |cons _ _=>rfl
   |nil=>
    cases ks with
    |cons _ _=>rfl
    |nil=>exact nf h
  |_=>rfl
 |_=>rfl
theorem Gv(h:iW o=true):eval (.Attribute o x pos) env=(do
  let v<-eval o env
  standAt pos.atName
  let r<-holding [v] (getAttr v x true)
  letTemporaryGo o v r
  pure r):=by
 rw[arm_eval_Attribute,xN h]
def IU(K:Frag)(C:Addr)(x:Str):Bool:=(plainGet K C x||qo K C)&&(hasDictIn K C&&(findIn K (.ref C) x).any λa=>noGet K a)
theorem c7.nil(h:c7 W κ [] es):es= []:=h
theorem c7.cons(h:c7 W κ ((y,w)::fs) es):∃e r,es=e::r/\(∃t,e.key= .str (W.nm y) t)/\VR W κ w e.val/\c7 W κ fs r:=h
theorem pH{v:Value}(h:v= .str (W.nm y) t):v.isStr (W.nm x)=Nat.beq y x:=by
 subst h;refine cY (Nat.beq y x) (λe=>?_) λe=>?_
 ·rw[e];rw[Yh e];exact beq_self_eq_true _
 ·rw[e];exact Zz.mpr λq=>Zn e (W.inj _ _ q)
theorem Dw:∀{es:List DictEntry},c7 W κ fs es->aN x fs=some v->∃e,es.find? (·.key.isStr (W.nm x))=some e/\VR W κ v e.val:=by
 induction fs with
 |nil=>intro _ _ h;exact nt h
 |cons p fs i=>
  intro es hf h
  (refine cT (c7.cons (y:=p.1) (w:=p.2) hf) λe r q3 q4 h2 h3=>?_;subst q3;obtain⟨t,hk⟩:=q4)
  rw[Ej]at h
  (refine(zae).symm ▸?_;refine(pH hk).symm ▸?_)
  cases hy:Nat.beq p.1 x with
  |true=>rw[hy]at h;exact(al e rfl (si h ▸ h2))
  |false=>rw[hy]at h;exact i h3 h
theorem F9(hf:c7 W κ fs es)(h:aN x fs=some v):∃u,getL (W.nm x) es=some (some u)/\VR W κ v u:=by
 refine U (Dw hf h) λe h1 h2=>?_;exact(al (e.val) (by unfold getL;(refine(h1).symm ▸ rfl)) h2)
theorem oy(h:VR W κ v u):handedIn u=true:=by
 cases v with
 |none=>rw[h.none];rfl
 |bool b=>rw[h.bool];rfl
 |int i=>obtain⟨t,rfl⟩:=h.int;rfl
 |str l=>obtain⟨t,rfl⟩:=h.str;rfl
 |tup vs=>(refine bS (h.tup) λa xs q3 _=>?_;subst q3);rfl
 |obj t i=>(refine U (h.obj) λa q2 _=>?_;subst q2);rfl
 |glob g=>(refine U h λa q2 _=>?_;clear h;subst q2);rfl
def wX(W:SW)(x:Nat):Prop:=∀c C,W.cls c=some C->W.P.meth c x=none->IU W.K C (W.nm x)=true
theorem vg(R:bA W C κ σ s)(I:PySem.W.InstAt s.heap a ox Cc (some (dictOf es n)))(hf:c7 W κ fs es)(hx:IU W.K Cc (W.nm x)=true)(hv:aN x fs=some v)(k:bF W C (λκ=>VR W κ) Q E (.ok v) κ σ):wpAny (model W.prog W.w) C.A (getAttr (.ref a) (W.nm x) true) Q E s:=by
 refine bj (id R) λm aw frs r=>?_;refine U (F9 hf hv) λu g1 g2=>?_;have x1:=an hx;have x2:=an x1.2;refine U (oa x2.2) λX4 ha x3=>?_;rcases YW.mp x1.1 with x1|x1
 ·exact get_own r.F W.X I x1 x2.1 ha x3 g1 (oy g2) (k.done g2 R.toks)
 ·exact Gd (W.X.keeps r.F.keep) I x1 (findObj_own x2.1 ha x3 g1) (oy g2) (k.done g2 R.toks)
theorem EB{o:Option β}(h:M.no o (M.opt m) σ=some r):o=none/\∃v,m=some v/\r=(.ok v,σ):=by
 refine de (L5 h) λe h=>?_;cases m with
 |none=>exact nt h
 |some v=>exact⟨e,v,rfl,(si h).symm⟩
theorem xP(hx:wX W x)(h:M.attr W.P q x σ=some (res,σ'))(hq:VR W κ q a)(R:bA W C κ σ s)(k:bF W C (λκ=>VR W κ) Q E res κ σ'):wpAny (model W.prog W.w) C.A (getAttr a (W.nm x) true) Q E s:=by
 (refine cZ (nD h) λt i o q4 ho g=>?_;subst q4)
 (refine U (hq.obj) λp q2 h1=>?_;subst q2)
 refine bj (id R) λm aw frs r=>?_;have N:=λx hx=>(r.N x (X6 _ hx)).1;cases o with
 |inst c fs=>
  obtain⟨hm,v,hv,e⟩:=EB g;obtain⟨rfl,rfl⟩:=zab e;refine a9 (r.nr.obj ho) λCc a h0 h2 h3=>?_;obtain rfl:=si (h1.symm.trans h2);rcases h3 with⟨_,d,es,n,x1,x2,x3,x4⟩|⟨_,t,⟨rfl,_,_⟩|⟨d,es,n,x1,x2,x3,x4⟩⟩
  ·exact vg R ⟨N _ x2,rfl,rfl,N _ x3⟩ x4 (hx _ _ h0 hm) hv k
  ·exact nt hv
  ·exact vg R ⟨N _ x2,rfl,rfl,N _ x3⟩ x4 (hx _ _ h0 hm) hv k
 |caught c fs=>
  obtain⟨hm,v,hv,e⟩:=EB g;obtain⟨rfl,rfl⟩:=zab e
  (refine cz ((r.nr.obj ho)) λCc a d es q=>?_;obtain⟨n,ob,h0,h2,h3,h4,⟨e1,e2,e3,vs,e4⟩,h6,h7⟩:=q)
  obtain rfl:=si (h1.symm.trans h2);exact vg R ⟨N _ h4,e1,by simp only[notCls,e4],by rw[e2];exact N _ h6⟩ h7 (hx _ _ h0 hm) hv k
 |_=>exact nt g
theorem Kh(hb:iW e=true)(hx:wX W x)(he:SndE W C e mx):SndE W C (.Attribute e (W.nm x) pos) (M.bind mx λv=>M.attr W.P v x):=by
 intro κ σ res σ' h s Q E R k;refine Attribute_any_ ?_ (Gv hb);refine bV.bind (he κ σ) h R k λam ai v a aE le hv ar ap k₁=>?_;exact xP hx ap hv ar k₁
end
def rY(e:Expr):Bool:= !Nat.beq e.ctorIdx 26
theorem j4(h:rY e=true)(o i:Value):subscripted e false o i=operate [o,i] (getItem o i):=by
 cases e<;>first|(cases h;done)|rfl
theorem FJ:∀{n:Nat},nth l n=some a->l[n]? =some a:=by
 induction l with
 |nil=>intro n h;exact nt h
 |cons b l i=>
  intro n h;cases n with
  |zero=>exact h
  |succ n=>rw[List.getElem?_cons_succ];exact i h
theorem io(h:df i=some n):i=(n:Int)/\n<=1000:=by
 cases i with
 |negSucc _=>exact nt h
 |ofNat m=>
  have h:(match Nat.ble m ay with|true=>some m|false=>none)=some n:=h;refine uu (Nat.ble m ay) (λhb=>?_) λhb=>?_
  ·rw[hb]at h;exact nt h
  ·rw[hb]at h;exact⟨Yd _ (si h),si h ▸ Yg hb⟩
theorem Bo(h:K0 l k=some v):∃n:Nat,k= .int n/\n<=1000/\nth l n=some v:=by
 refine U (pf h) λi e g=>?_;refine U (ob g) λn hn g2=>?_;obtain⟨rfl,rt⟩:=io hn;exact(aM n e rt g2)
theorem BG{n len:Nat}(h:n<len):seqIndex? (n:Int) len=some n:=by
 unfold seqIndex?;simp only[(show¬((n:Int)<0)from by lia),if_false];simp only[(show(decide (0<=(n:Int))&&decide ((n:Int)<(len:Int)))=true from by simp;exact Nat.succ_le_of_lt ‹_›),if_true,Int.toNat_natCast]
section
variable{W:SW}{C:Cx}{κ:Kn}{σ:St}{s:Shared}
theorem Dj(hi:rY slice=true)(hu:C.A.units+16<cLine)(ho:nth (σ.heap t) i=some (.dict kd es))(hk:gp kd y=true)(h:aO y es=some v)(h1:κ.at_ t i false=some p)(hb:VR W κ y b)(R:bA W C κ σ s)(k:bF W C (λκ=>VR W κ) Q E (.ok v) κ σ):wpAny (model W.prog W.w) C.A (subscriptTail value slice (.ref p) b) Q E s:=by
 refine bj (id R) λm aw frs r=>?_;refine a8 (pF r ho h1 hk hb) λob hm D ka=>?_;have rk:=X6 frs hm;cases ka with
 |str l tt bt e1 e2 x1 x2=>
  subst e1 e2;have g:=KV.look (K:=Str) (λa b=>RS.iff a b) (al l rfl rfl) x2;rw[h]at g;obtain⟨u,e,hv⟩:=g;exact kdt_tail r.N rk x1 (kdt_getItem r.N rk x1 (Zt _ _ _ _) e (k.done hv R.toks)) (j4 hi _ _)
 |int l tt bt e1 e2 x1 x2=>
  subst e1 e2;have g:=KV.look (K:=Int) (λa b=>RI.iff a b) (show RI (.int l) l from rfl) x2;rw[h]at g;obtain⟨u,e,hv⟩:=g;exact kdt_tail r.N rk x1 (kdt_getItem r.N rk x1 (Y5 _ _ _ _) e (k.done hv R.toks)) (j4 hi _ _)
 |tup bb kk xs hR e2 x0 x1 x2=>
  subst e2;have g:=KT.look hR x2;rw[h]at g
  (refine U g λu e hv=>?_;clear g)
  exact zau x1.typeIs slot_dict_getitem.lookup (wpAny_getItem_heap (knd:=fc W.prog W.w) (YJ (by rw[Around.in1_units,Y0];exact Yx ak _) hu) x0 x1 e (k.done hv R.toks)) (j4 hi _ _)
theorem dj{n:Nat}(h:n<=1000):0<=(n:Int)/\(n:Int)<2^63:=⟨Zb n,ZW (Y3.mpr h) ak⟩
theorem ql{n:Nat}: -(2^63)<=(n:Int):=YL ak (Zb n)
theorem FZ(hi:rY slice=true)(hu:C.A.units+16<cLine)(h:itemOf σ.heap x y=some v)(ha:VR W κ x a)(hb:VR W κ y b)(R:bA W C κ σ s)(k:bF W C (λκ=>VR W κ) Q E (.ok v) κ σ):wpAny (model W.prog W.w) C.A (subscriptTail value slice a b) Q E s:=by
 cases x with
 |tup vs=>
  obtain⟨n,rfl,rt,h⟩:=Bo h
  (refine eY (hb.int) λt q2=>?_;subst q2)
  (refine a9 (ha.tup) λp xs q3 h1 h2=>?_;subst q3)
  refine U (h2.nth h) λu Lk hv=>?_;exact item_tupleT (R.isTup h1) ql (dj rt).2 (BG (h2.length ▸ pC h)) Lk (k.done hv R) (j4 hi _ _)
 |str l=>
  (refine U (om h) λc hc q3=>?_;subst q3)
  obtain⟨n,rfl,rt,hc⟩:=Bo hc
  (refine eY (hb.int) λt q2=>?_;subst q2)
  obtain⟨u,rfl⟩:=ha.str;refine zau (typeIs_str s _ u) zar.lookup (getItem_str (c:=c) ?_ ?_ (k.done (wz [c] _) R.toks)) (j4 hi _ _)
  ·exact Zx.mpr ⟨YS (zaT.mpr ql),YS (Z7.mpr (dj rt).2)⟩
  ·(refine(show(⟨l.toArray⟩:Str).length=l.length from rfl).symm ▸?_;refine(BG (pC hc)).symm ▸?_)
   exact(List.getElem?_toArray ..).trans (FJ hc)
 |obj t i=>
  refine U (ob h) λo ho h=>?_
  (refine U (ha.obj) λp q2 h1=>?_;subst q2)
  cases o with
  |list vs=>
   refine hg λcg kg=>?_;obtain⟨n,rfl,rt,h⟩:=Bo h
   (refine eY (hb.int) λt q2=>?_;subst q2)
   refine bj (id R) λm aw frs r=>?_;refine cZ (r.nr.obj ho) λa' iK kk g1 g2 g3=>?_;obtain rfl:=si (h1.symm.trans g1);refine U (g3.nth h) λu Lk hv=>?_;refine kg ?_;have hl:s.heap.IsList p iK.toArray:=⟨_,(r.N _ (X6 _ g2)).1,rfl,_,rfl⟩;exact zau hl.typeIs PySem.F.slot_list_getitem.lookup (wpAny_getItem_list hl (dj rt).1 (dj rt).2 ((List.getElem?_toArray ..).trans Lk) (k.done hv R)) (j4 hi _ _)
  |dict kd es=>
   obtain⟨hk,h⟩:=bY h;exact Dj hi hu ho hk h h1 hb R k
  |_=>exact nt h
 |_=>exact nt h
theorem NM(hi:rY i=true)(hu:C.A.units+16<cLine)(he:SndE W C e mx)(hy:SndE W C i my):SndE W C (.Subscript e i pos) (M.bind mx λx=>M.bind my λy=>M.item x y):=by
 intro κ σ res σ' h s Q E R k;refine Subscript_ ?_;refine bV.bind (he κ σ) h R k λam ai x a aE le hx ar ap k₁=>?_;refine bV.bind (hy am ai) ap ar k₁ λbM bH y b c9 aY hy bE aT dQ=>?_
 (refine a8 (ij aT) λv hv q3 q4=>?_;subst q3;subst q4)
 exact FZ hi hu hv (hx.mono aY) hy bE dQ
end
noncomputable def LN (K:Frag) (C:Addr) (x:Str):Bool:=findIn K (.ref C) "__setattr__"==some (some (.builtin "object.__setattr__"))&&(plainOver K C&&(takerIn K C x==some none&&hasDictIn K C))
section
variable{W:SW}{C:Cx}{κ:Kn}{σ:St}{s:Shared}
theorem oW:∀{es:List DictEntry},c7 W κ fs es->es.any (·.refKey)=false:=by
 induction fs with
 |nil=>intro es h;rw[h.nil];rfl
 |cons p fs i=>
  intro es h
  (refine cT (c7.cons (y:=p.1) (w:=p.2) h) λe r q3 q4 _ h3=>?_;subst q3;obtain⟨t,hk⟩:=q4)
  rw[zas,i h3,zaO];unfold DictEntry.refKey;rw[hk]
theorem sU(h:c7 W κ fs es):(getL x es).isSome=true:=by
 unfold getL;split
 ·rfl
 ·(refine(oW h).symm ▸?_);rfl
theorem kw(h1:∃t,e.key= .str (W.nm y) t)(h2:VR W κ w e.val)(h3:c7 W κ fs r):c7 W κ ((y,w)::fs) (e::r):=by
 exact(cj e r rfl h1 h2 h3)
theorem lJ(hv:VR W κ v u):∀{es:List DictEntry},c7 W κ fs es->c7 W κ (putN x v fs) (putL (W.nm x) hsh (.str (W.nm x) t) u es):=by
 induction fs with
 |nil=>intro es h;rw[h.nil];exact kw ⟨t,rfl⟩ hv (by rfl)
 |cons p fs i=>
  intro es h
  (refine cT (c7.cons (y:=p.1) (w:=p.2) h) λe r q3 q4 h2 h3=>?_;subst q3;obtain⟨t',hk⟩:=q4)
  rw[OL];unfold putL;refine cY (Nat.beq p.1 x) (λhy=>?_) λhy=>?_
  ·rw[hy];rw[Ze ((pH (x:=x) hk).trans hy)];exact kw ⟨t',hk⟩ hv h3
  ·rw[hy];rw[YM (Bool.eq_false_iff.mp ((pH (x:=x) hk).trans hy))];exact kw ⟨t',hk⟩ h2 (i h3)
theorem xE:∀{es:List DictEntry},c7 W κ fs es->es.length=fs.length:=by
 induction fs with
 |nil=>intro es h;(refine(h.nil).symm ▸?_);rfl
 |cons p fs i=>
  intro es h
  (refine cT (c7.cons (y:=p.1) (w:=p.2) h) λe r q3 _ _ h3=>?_;subst q3)
  exact Yd Nat.succ (i h3)
theorem sr:(Mine.putN x v fs).length<=fs.length+1:=by
 induction fs with
 |nil=>exact Yv _
 |cons p fs i=>
  rw[OL];cases Nat.beq p.1 x with
  |true=>exact YT _
  |false=>exact YX i
def iI:Kn->Unit->Unit->Prop:=λ_ _ _=>True
theorem ig(h:M.put t i o σ=some (res,σ')):res= .ok ()/\σ'=σ.put t i o:=sp h
def wV(W:SW)(x:Nat):Prop:=∀c C,W.cls c=some C->W.P.isExc c=false->LN W.K C (W.nm x)=true
def mB(W:SW)(x:Nat):Prop:=∀(C:Cx) (κ:Kn) (σ:St) (s:Shared) (t i c:Nat) (fs:List (Nat×V)) (v:V) (p:Addr) (u:Value) (Q:Unit->Shared->Prop) (E:Value->Shared->Prop),W.P.isExc c=true->jF c x=true->
 nth (σ.heap t) i=some (.inst c fs)->κ.at_ t i false=some p->VR W κ v u->fs.length<=500->bA W C κ σ s->bF W C iI Q E (.ok ()) κ (σ.put t i (.inst c (Mine.putN x v fs)))->wpAny (model W.prog W.w) C.A (setAttr (.ref p) (W.nm x) u) Q E s
theorem mV(hx:wV W x)(he:mB W x)(h:M.setAttr q x v σ=some (res,σ'))(hq:VR W κ q a)(hv:VR W κ v u)(R:bA W C κ σ s)(k:bF W C iI Q E res κ σ'):wpAny (model W.prog W.w) C.A (setAttr a (W.nm x) u) Q E s:=by
 refine hg λcg kg=>?_;(refine cZ (nD h) λt i o q4 ho g=>?_;subst q4)
 (refine U (hq.obj) λp q2 h1=>?_;subst q2)
 (refine bS (Ht g) λc fs q3 g=>?_;subst q3)
 obtain⟨hl,g⟩:=cQ g;obtain⟨rfl,rfl⟩:=ig g;refine kg ?_;cases hc:W.P.isExc c with
 |true=>exact he C κ σ s t i c fs v p u Q E hc (an hl).2 ho h1 hv (Yg (an hl).1) R k
 |false=>
  refine bj (id R) λm aw frs r=>?_;refine a9 (r.nr.obj ho) λCc a h0 h2 h3=>?_;obtain rfl:=si (h1.symm.trans h2);rcases h3 with⟨_,d,es,n,x1,x2,x3,x4⟩|⟨e,_⟩
  ·skip;have N:=λx hx=>(r.N x (X6 _ hx)).1;refine set_dict (dx:=d) r.F W.X r.N ⟨N _ x2,rfl,rfl,N _ x3⟩ rfl (eq_of_beq (an (hx _ _ h0 hc)).1) (an (an (hx _ _ h0 hc)).2).1 (eq_of_beq (an (an (an (hx _ _ h0 hc)).2).2).1) (an (an (an (hx _ _ h0 hc)).2).2).2 (sU x4) rfl (pj _ r.nd (X6 _ x3)) (xE (lJ hv x4) ▸ Yc sr (Yc (YX (Yg (an hl).1)) ak)) λh' F' N'=>?_
   exact k.done (a:=()) trivial (b7 m _ frs ((r.put (t:=t) (i:=i) (b:=true) (d:=d) (mo:= .inst c (Mine.putN x v fs)) (s':={s with heap:=h',toks:=s.toks+2}) x1 x3 (by show Value.type "dict"≠Value.type "tuple";decide) F' N'
    (aZ Cc p h0 h1 (.inl ⟨hc,d,_,_,x1,bQ x2 (show p≠d fromλe=>ng (r.nr.inj x1 (e ▸ h1)).2.2),aH (aV x3),lJ hv x4⟩)) rfl rfl)))
  ·rw[hc]at e;exact nf e
end
section
variable{W:SW}{C:Cx}{κ:Kn}{σ:St}{s:Shared}
theorem CS:∀{n:Nat},n<l.length->ki_setL l n v=some (l.set n v):=by
 induction l with
 |nil=>intro n h;exact absurd h (zad _)
 |cons a l i=>
  intro n h;cases n with
  |zero=>rfl
  |succ n=>unfold ki_setL;rw[i (zaC h)];rfl
theorem Qv(low:(a==sysModules)=false)(h:∃bt,o.IsDictOf (PySem.strKind W.prog W.w) bt/\KV RS (VR W κ) es bt):eM W κ 1 es a o:=⟨low,λe=>(nomatch e),λ_=>h,λe=>absurd e ak,λe=>absurd e ak⟩
theorem TS(low:(a==sysModules)=false)(h:∃bt,o.IsDictOf (PySem.intKind W.prog W.w) bt/\KV RI (VR W κ) es bt):eM W κ 2 es a o:=⟨low,λe=>(nomatch e),λe=>absurd e ak,λ_=>h,λe=>absurd e ak⟩
theorem Xg(low:(a==sysModules)=false)(h:∃xs,lN W o xs/\KT (VR W κ) es xs):eM W κ 3 es a o:=⟨low,λe=>(nomatch e),λe=>absurd e ak,λe=>absurd e ak,λ_=>h⟩
theorem A9:Value.type "list"≠Value.type "tuple":=by decide
theorem wQ:Value.type "dict"≠Value.type "tuple":=by decide
theorem lK{K:Type} [DecidableEq K]{knd:PySem.KeyKind W.prog W.w K}{bt:List (K×Value)}{o:Obj}(x1:o.IsDictOf knd bt):o.cls≠ .type "tuple":=by
 (refine bS x1 λ_ _ hx _=>?_;clear x1)
 rw[hx.1];exact wQ
theorem xI{K:Type} [DecidableEq K]{knd:PySem.KeyKind W.prog W.w K}{bt:List (K×Value)}{o:Obj}(x1:o.IsDictOf knd bt):(bt.map (·.1)).Nodup:=by
 (refine nJ x1 λ_ _ _ _ _ _ z=>?_;clear x1)
 exact z
theorem vH(g:(M.oI kk λj=>M.of (df j) λn=>M.gd (Nat.blt n vs.length) (M.put t i (.list (setNth v vs n)))) σ=some (res,σ'))(ho:nth (σ.heap t) i=some (.list vs))(h1:κ.at_ t i false=some p)(hk:VR W κ kk ku)(hv:VR W κ v u)(R:bA W C κ σ s)(k:bF W C iI Q E res κ σ'):wpAny (model W.prog W.w) C.A (setItem (.ref p) ku u) Q E s:=by
 refine hg λcg kg=>?_;refine bj (id R) λm aw frs r=>?_
 (refine U (AY g) λj q2 g=>?_;subst q2)
 refine U (gH g) λn hn g=>?_;obtain⟨hl,g⟩:=cQ g;obtain⟨rfl,rfl⟩:=ig g;obtain⟨rfl,rt⟩:=io hn;obtain⟨tt,rfl⟩:=hk.int;refine cZ (r.nr.obj ho) λa' iK kk g1 g2 g3=>?_;obtain rfl:=si (h1.symm.trans g1);refine kg ?_;refine ki_set (q:=iK.set n u) r.F r.N (dj rt).1 (dj rt).2 (CS (g3.length ▸ Yg hl)) (pj _ r.nd (X6 _ g2)) λh' F' N'=>?_;exact k.done (a:=()) trivial (b7 m _ frs ((r.put (t:=t) (i:=i) (b:=false) (d:=p) (mo:= .list (setNth v vs n)) (s':={s with heap:=h'}) h1 g2 A9 F' N' (iO p (iK.set n u) kk h1 (aH (aV g2)) (g3.setNth n hv)) rfl rfl)))
theorem vJ(hu:C.A.units+16<cLine)(ef:es.length<=sizeLine)(Wt:gp kd kk=true)(ho:nth (σ.heap t) i=some (.dict kd es))(h1:κ.at_ t i false=some p)(hk:VR W κ kk ku)(hv:VR W κ v u)(R:bA W C κ σ s)(k:bF W C iI Q E (.ok ()) κ (σ.put t i (.dict (cP kk) (eX kk v es)))):wpAny (model W.prog W.w) C.A (setItem (.ref p) ku u) Q E s:=by
 refine bj (id R) λm aw frs r=>?_;refine a8 (pF r ho h1 Wt hk) λob hm D ka=>?_;have rk:=X6 frs hm;cases ka with
 |str l tt bt e1 e2 x1 x2=>
  subst e1 e2;refine kda_set r.F r.N (ju r.nd rk) x1 (Zt _ _ _ _) (by rw[<-x2.length];exact ef) λh' o' F' N' nq=>?_
  exact k.done (a:=()) trivial (b7 m _ frs (r.put (t:=t) (i:=i) (b:=false) (d:=p) (o':=o') (mo:= .dict 1 (eX (.str l) v es)) (s':={s with heap:=h',toks:=s.toks+1}) h1 hm (lK x1) F' N'
   (aZ p o' h1 (aH (aV hm)) (Qv D.low (al _ nq (KV.put (K:=Str) (λa b=>RS.iff a b) (al l rfl rfl) hv (xI x1) x2)))) rfl rfl))
 |int l tt bt e1 e2 x1 x2=>
  subst e1 e2;refine kda_set r.F r.N (ju r.nd rk) x1 (Y5 _ _ _ _) (by rw[<-x2.length];exact ef) λh' o' F' N' nq=>?_
  exact k.done (a:=()) trivial (b7 m _ frs (r.put (t:=t) (i:=i) (b:=false) (d:=p) (o':=o') (mo:= .dict 2 (eX (.int l) v es)) (s':={s with heap:=h',toks:=s.toks+1}) h1 hm (lK x1) F' N'
   (aZ p o' h1 (aH (aV hm)) (TS D.low (al _ nq (KV.put (K:=Int) (λa b=>RI.iff a b) (show RI (.int l) l from rfl) hv (xI x1) x2)))) rfl rfl))
 |tup bb kT xs hR e2 x0 x1 x2=>
  subst e2;have nt:ob.cls≠ .type "tuple":=by
   (refine cZ x1 λVC _ _ rq hx _=>?_;clear x1)
   obtain rfl:=si (rq.symm.trans (r.N _ rk).1);rw[hx.1];exact wQ
  have nd:(xs.map (·.1)).Nodup:=by(refine bj x1 λ_ _ _ q=>?_;skip);exact q.2.2.2.2.2
  refine wpAny_setItem_heap (knd:=fc W.prog W.w) (YJ (by rw[Around.in1_units,Y0];exact Yx ak _) hu) x0 x1 (λh' nq iD=>?_) (by rw[<-x2.length];exact ef)
  (refine bj nq λo' KU ep q=>?_;skip)
  refine cT ((ju r.nd rk).split) λpre post e1 e2 ea eb=>?_
  exact k.done (a:=()) trivial (b7 m _ frs ((r.put (t:=t) (i:=i) (b:=false) (d:=p) (o':=o') (mo:= .dict (cP kk) (eX kk v es)) (s':={s with heap:=h',toks:=s.toks+(fc W.prog W.w).draws kT}) h1 hm nt (r.F.change iD (r.N _ rk).2.1 (r.N _ rk).2.2) (by
   rw[e2 o'];have N0:=r.N;rw[e1]at N0;exact N0.setIn ea eb iD q.1)
   (aZ p o' h1 (aH (aV hm)) (hR.1.symm ▸ Xg D.low (al _ (cj KU ep q.2.1 q.2.2.1 q.2.2.2.1 q.2.2.2.2.2) (KT.put hR hk hv nd x2)))) rfl rfl)))
theorem vI(hu:C.A.units+16<cLine)(h:M.setItem q kk v σ=some (res,σ'))(hq:VR W κ q a)(hk:VR W κ kk ku)(hv:VR W κ v u)(R:bA W C κ σ s)(k:bF W C iI Q E res κ σ'):wpAny (model W.prog W.w) C.A (setItem a ku u) Q E s:=by
 (refine cZ (nD h) λt i o q4 ho g=>?_;subst q4)
 (refine U (hq.obj) λp q2 h1=>?_;subst q2)
 cases o with
 |list vs=>exact vH g ho h1 hk hv R k
 |dict kd es=>
  refine hg λcg kg=>?_;obtain⟨hb,g⟩:=cQ g;obtain⟨rfl,rfl⟩:=ig g;refine kg ?_;exact vJ hu (gf (an hb).1) (an hb).2 ho h1 hk hv R k
 |_=>exact nt g
end
def iF(e:Expr):Bool:= !(Nat.ble 8 e.ctorIdx&&Nat.ble e.ctorIdx 10)
theorem jM(h:iF e=true):swapsWith e t n env=pure false:=by
 cases e<;>first|(cases h;done)|rfl
section
variable{W:SW}{C:Cx}{κ:Kn}{σ:St}{s:Shared}
theorem wm(h:M.bindN x v σ=some (res,σ')):res= .ok ()/\σ'=σ.setE (Mine.putN x v σ.env):=sp h
theorem fy(hk:C.scope.kind= .function)(hl:C.scope.names.lookup (W.nm x)=some .local)(h:M.bindN x v σ=some (res,σ'))(hv:VR W κ v u)(R:bA W C κ σ s)(k:bF W C iI Q E res κ σ'):wpAny (model W.prog W.w) C.A (storeName C.env (W.nm x) u) Q E s:=by
 refine hg λcg kg=>?_;(refine de (wm h) λq1 q2=>?_;subst q1;subst q2)
 (refine bj R λm aw frs r=>?_;clear R)
 refine kg ?_;refine stN r.F r.N (λh' F' N'=>?_) hk hl;exact k.done (a:=()) trivial (b7 _ aw frs (r.store (s':={s with heap:=h',toks:=s.toks+1}) hv F' N' rfl rfl))
def yD(W:SW)(C:Cx)(t:Expr)(f:V->M Unit):Prop:=∀κ σ v u,VR W κ v u->bV W C κ σ (PySem.assign t C.env u) (f v σ) iI
theorem Eo.mono(le:κ.Le cL)(h:Eo W κ f g):Eo W cL f g:=by
 cases f with
 |next=>exact h
 |ret v=>(refine U h λu e hv=>?_;clear h);exact(al u e (hv.mono le))
theorem bV.next(h:bV W C κ σ t (m σ) iI)(hr:M.bind m (λ_=>M.pure Fl.next) σ=some (res,σ'))(R:bA W C κ σ s)(k:bF W C (Eo W) Q E res κ σ'):wpAny (model W.prog W.w) C.A t (λ_=>Q .next) E s:=by
 refine bV.bind h hr R k λam ai _ _ aE le _ ar ap k₁=>?_;obtain⟨rfl,rfl⟩:=ao ap;exact k₁.done rfl ar
theorem Jz(hk:C.scope.kind= .function)(hl:C.scope.names.lookup (W.nm x)=some .local)(hv:iF e=true)(he:SndE W C e mx):
  SndS W C (.Assign [.Name (W.nm x) p1] e p2) (M.bind mx λv=>M.bind (M.bindN x v) λ_=>M.pure .next):=by
 intro κ σ res σ' h s Q E R k;refine wpAny_Assign_Name ?_ (jM hv);refine bV.bind (he κ σ) h R k λam ai v u aE le hv ar ap k₁=>?_;exact bV.next (λ_ _ h _ _ _ R k=>fy hk hl h hv R k) ap ar k₁
theorem JA(hx:wV W x)(yb:mB W x)(hv:iF e=true)(he:SndE W C e mx)(ho:SndE W C o mo):
  SndS W C (.Assign [.Attribute o (W.nm x) p1] e p2) (M.bind mx λv=>M.bind (M.bind mo λa=>M.setAttr a x v) λ_=>M.pure .next):=by
 intro κ σ res σ' h s Q E R k;refine plainObj_wpAny_Assign_Attribute ?_ (jM hv);refine bV.bind (he κ σ) h R k λam ai v u aE le hv ar ap k₁=>?_;rw[dH]at ap;refine bV.bind (ho am ai) ap ar k₁ λbM bH q a c9 aY hq bE aT dQ=>?_;exact bV.next (λ_ _ h _ _ _ R k=>mV hx yb h hq (hv.mono aY) R k) aT bE dQ
theorem Jy(hu:C.A.units+16<cLine)(hv:iF e=true)(he:SndE W C e mx)(ho:SndE W C o mo)(hi:SndE W C i mi):
  SndS W C (.Assign [.Subscript o i p1] e p2) (M.bind mx λv=>M.bind (M.bind mo λa=>M.bind mi λk=>M.setItem a k v) λ_=>M.pure .next):=by
 intro κ σ res σ' h s Q E R k;refine wpAny_Assign_Subscript ?_ (jM hv);refine bV.bind (he κ σ) h R k λam ai v u aE le hv ar ap k₁=>?_;rw[dH]at ap;refine bV.bind (ho am ai) ap ar k₁ λbM bH q a c9 aY hq bE aT dQ=>?_;rw[dH]at aT;refine bV.bind (hi bM bH) aT bE dQ λjj n9 kv ku pb dw Ws lc fq uM=>?_;exact bV.next (λ_ _ h _ _ _ R k=>vI hu h (hq.mono dw) Ws ((hv.mono aY).mono dw) R k) fq lc uM
theorem Ju(Wx:interactive C.env=false)(hv:iF e=true)(he:SndE W C e mx):SndS W C (.Expr e pos) (M.bind mx λ_=>M.pure .next):=by
 intro κ σ res σ' h s Q E R k;refine wpAny_Expr_any ?_ Wx (jM hv);refine bV.bind (he κ σ) h R k λam ai v u aE le hv ar ap k₁=>?_;obtain⟨rfl,rfl⟩:=ao ap;exact k₁.done rfl ar
theorem MX(he:SndE W C e mx):SndS W C (.Return (some e) pos) (M.bind mx λv=>M.pure (.ret v)):=by
 intro κ σ res σ' h s Q E R k;refine wpAny_Return_some ?_;refine bV.bind (he κ σ) h R k λam ai v u aE le hv ar ap k₁=>?_;obtain⟨rfl,rfl⟩:=ao ap;exact k₁.done (al u rfl hv) ar
theorem Jq:SndS W C (.Return none pos) (M.pure (.ret .none)):=by
 intro κ σ res σ' h s Q E R k;obtain⟨rfl,rfl⟩:=ao h;exact wpAny_Return_none (k.done (al _ rfl j3) R)
theorem Ci(hv:ou o x y=some v)(ha:VR W κ x a)(hb:VR W κ y b)(R:bA W C κ σ s)(k:bF W C (λκ=>VR W κ) Q E (.ok v) κ σ):wpAny (model W.prog W.w) C.A (inplaceOp (Eh o) a b) Q E s:=by
 (refine U (pf hv) λi q2 h=>?_;subst q2)
 (refine U (pf h) λj q2 h2=>?_;subst q2)
 (refine U (om h2) λc g q3=>?_;subst q3)
 obtain⟨t,rfl⟩:=ha.int;obtain⟨u,rfl⟩:=hb.int;cases o with
 |add=>obtain rfl:=si g;exact PyProof.Rows.iadd_int (k.done (eJ _ _) R.toks)
 |sub=>obtain rfl:=si g;exact PyProof.Rows.isub_int (k.done (eJ _ _) R.toks)
 |_=>exact nt g
theorem Dd(h:M.bind (M.loc x) f σ=some r):∃v,aN x σ.env=some v/\f v σ=some r:=by
 unfold M.bind M.loc at h;refine dJ (aN x σ.env) (λhx=>?_) λv hx=>?_
 ·rw[hx]at h;exact nt h
 ·(refine(hx).symm ▸?_);rw[hx]at h;exact(al v rfl h)
theorem Jv(hk:C.scope.kind= .function)(hl:C.scope.names.lookup (W.nm x)=some .local)(he:SndE W C e mx):
  SndS W C (.AugAssign (.Name (W.nm x) p1) (Eh o) e p2) (M.bind (M.loc x) λa=>M.bind mx λb=>M.bind (M.opt (ou o a b)) λv=>M.bind (M.bindN x v) λ_=>M.pure .next):=by
 intro κ σ res σ' h s Q E R k;refine wpAny_AugAssign_Name ?_;refine U (Dd h) λa ha h=>?_;refine bj (id R) λm aw frs r=>?_;refine U (r.env x a ha) λu hu Wa=>?_;refine ldn r.F hu ?_ hk hl;refine bV.bind (he κ σ) h R k λam ai b w aE le hb ar ap k₁=>?_;refine U (jH ap) λv hv aT=>?_;exact Ci hv (Wa.mono le) hb ar λbM c9 aY y hy bE=>bV.next (λ_ _ h _ _ _ R k=>fy hk hl h hy R k) aT bE (k₁.mono aY)
theorem zM{res:R Fl}(h:M.bind (M.attr W.P q x) f σ=some (res,σ')):∃v,M.attr W.P q x σ=some (.ok v,σ)/\f v σ=some (res,σ'):=by
 unfold M.bind at h;refine dJ (M.attr W.P q x σ) (λha=>?_) λp ha=>?_
 ·rw[ha]at h;exact nt h
 ·
  (refine(ha).symm ▸?_)
  obtain⟨v,rfl⟩:=(show∃v,p=(.ok v,σ)from by
   (refine cZ (nD ha) λt i o q4 ho g=>?_;subst q4)
   cases o with
   |inst c fs=>obtain⟨_,v,_,e⟩:=EB g;exact⟨v,e⟩
   |caught c fs=>obtain⟨_,v,_,e⟩:=EB g;exact⟨v,e⟩
   |_=>exact nt g)
  rw[ha]at h;exact(al v rfl h)
theorem Jw{ob e:Expr}(hf:wX W x)(hx:wV W x)(yb:mB W x)(rq:SndE W C ob mo)(he:SndE W C e mx):
  SndS W C (.AugAssign (.Attribute ob (W.nm x) p1) (Eh o) e p2) (M.bind mo λq=>M.bind (M.attr W.P q x) λu=>M.bind mx λb=>M.bind (M.opt (ou o u b)) λv=>M.bind (M.setAttr q x v) λ_=>M.pure .next):=by
 intro κ σ res σ' h s Q E R k;refine wpAny_AugAssign_AttributeAny ?_;refine bV.bind (rq κ σ) h R k λam ai q a aE le hq ar ap k₁=>?_;refine U (zM ap) λu hu ap=>?_;refine xP hf hu hq ar λbM c9 aY y hy bE=>?_;refine bV.bind (he bM ai) ap bE (k₁.mono aY) λjj n9 b w pb dw hb lc fq uM=>?_;refine U (jH fq) λv hv yt=>?_;exact Ci hv (hy.mono dw) hb lc λG0 QN wJ z hz yE=>bV.next (λ_ _ h _ _ _ R k=>mV hx yb h (((hq.mono aY).mono dw).mono wJ) hz R k) yt yE (uM.mono wJ)
theorem dl:∀{ss:List Stmt},cw (λe x=>SndS W C e (ih.s x)) ss xs->∀κ σ,bV W C κ σ (PySem.execs ss C.env) (Mine.execs ih xs σ) (Eo W):=by
 induction xs with
 |nil=>
  intro ss h;cases ss with
  |cons _ _=>exact h.elim
  |nil=>
   intro κ σ res σ' h s Q E R k;obtain⟨rfl,rfl⟩:=ao h;exact zaH (k.done rfl R)
 |cons x xs i=>
  intro ss h;cases ss with
  |nil=>exact h.elim
  |cons st ss=>
   intro κ σ res σ' h' s Q E R k;refine wpAny_execs_cons ?_;refine bV.bind (h.1 κ σ) h' R k λam ai f g aE le hf ar ap k₁=>?_;cases f with
   |next=>
    subst hf;exact i h.2 am ai _ _ ap _ _ _ ar k₁
   |ret v=>
    refine hg λcg kg=>?_;obtain⟨rfl,rfl⟩:=ao ap
    (refine U hf λu q2 hv=>?_;clear hf;subst q2)
    refine kg ?_;exact k₁.done (al u rfl hv) ar
theorem QS(hc:SndT W C c mc)(hb:cw (λe x=>SndS W C e (ih.s x)) b xb)(ho:cw (λe x=>SndS W C e (ih.s x)) o xo):
  SndS W C (.If c b o pos) (M.bind mc λt=>match t with|true=>Mine.execs ih xb|false=>Mine.execs ih xo):=by
 intro κ σ res σ' h s Q E R k;refine wpAny_If ?_;refine bV.bind (hc κ σ) h R k λam ai t t' aE le ht ar ap k₁=>?_;subst ht;cases t with
 |true=>exact dl hb am ai _ _ ap _ _ _ ar k₁
 |false=>exact dl ho am ai _ _ ap _ _ _ ar k₁
end
theorem mZ:∀{ns:List Str} {us:List Value} {n:Str},ns.length=us.length->n∈ns->((ns.zip us).lookup n).isNone=false
 | [],_,_,_,h=>nomatch h
 |a::ns, [],_,hl,_=>by simp at hl
 |a::ns,u::us,n,hl,h=>by
  dsimp only[List.zip_cons_cons,List.lookup_cons];by_cases e:n=a
  ·subst e;simp
  ·skip
   (refine((show(n==a)=false from by simpa using e)).symm ▸?_)
   exact mZ (by simpa using hl) (by rcases X9.mp h with q|q;exact absurd q e;exact q)
theorem nc{α β:Type}{f g:α->Option β}:∀{l:List α},(∀x∈l,f x=g x)->l.filterMap f=l.filterMap g:=by
 intro l
 induction l with
 |nil=>intro _;exact rfl
 |cons a l ih=>
  intro h;rw[zaL,zaL,h a (.head _),ih λx hx=>h x (.tail _ hx)]
theorem Cs:∀{ns:List Str} {us:List Value},ns.Nodup->ns.length=us.length->ns.filterMap (λn=>((ns.zip us).lookup n).map (n,·))=ns.zip us:=by
 intro ns
 induction ns with
 |nil=>intros;rfl
 |cons a ns i=>
  intro us hn hl;cases us with
  |nil=>cases hl
  |cons u us=>
  rw[Yu]at hn;have ih:=i hn.2 (zag hl);rw[zaL,(show(((a::ns).zip (u::us)).lookup a).map (a,·)=some (a,u)from by simp)];simp only[List.zip_cons_cons];congr 1
  (refine(ih) ▸?_)
  refine nc λn hm=>?_
  simp only[ih,zav,(show(n==a)=false from by
   rw[Zz];rintro rfl;exact hn.1 hm)]
theorem zK(h1:fd.params.posonlyargs= [])(h2:fd.params.vararg=none)(h3:fd.params.kwonlyargs= [])(h4:fd.params.kwarg=none)(h5:fd.defaults= .none)(h6:fd.params.args.map (·.arg)=ns)(hg:¬(decide (us.length>ns.length)&&true)=true)(hm:(!((ns.take (ns.length - 0)).filter λn=>((ns.zip us).lookup n).isNone).isEmpty)≠true)(hz:(ns++ []).filterMap (λn=>((ns.zip us).lookup n).map (n,·))=ns.zip us):
  bindArgs fd ⟨us, []⟩=pure (ns.zip us):=by
 obtain⟨f1,f2,⟨p1,p2,p3,p4,p5,p6,p7⟩,f4,f5,f6,f7,f8,f9⟩:=fd;subst h1 h2 h3 h4 h5;unfold bindArgs;dsimp only
 (refine(h6).symm ▸?_)
 refine(YM hg).trans ?_
 (refine(show List.drop ((none.getD (#[]:Array Value)).toList.length - (List.map (λ(x:Arg)=>x.arg) []++ns).length) (none.getD (#[]:Array Value)).toList= []from List.drop_nil).symm ▸?_)
 refine(YM hm).trans ?_
 (refine(List.zip_nil_right).symm ▸?_)
 exact Yd (Pure.pure (f:=Sem)) hz
theorem wl(h1:fd.params.posonlyargs= [])(h2:fd.params.vararg=none)(h3:fd.params.kwonlyargs= [])(h4:fd.params.kwarg=none)(h5:fd.defaults= .none)(hn:(fd.params.args.map (·.arg)).Nodup)(hl:fd.params.args.length=us.length):
  bindArgs fd ⟨us, []⟩=pure ((fd.params.args.map (·.arg)).zip us):=by
 have hl:(fd.params.args.map (·.arg)).length=us.length:=by rw[YO];exact hl
 refine zK h1 h2 h3 h4 h5 rfl ?_ ?_ ?_
 ·rw[hl,YS (Zh _)];decide
 ·rw[Nat.sub_zero,List.take_length,List.filter_eq_nil_iff.mpr λn hn=>by rw[mZ hl hn];decide];decide
 ·rw[Yt];exact Cs hn hl
structure MB(W:SW)(fn:Fn)(a:Addr)(body:List Stmt)(scope:Scope)(qual:Str)(cd:Value):Prop where
 at_:∃oc od PC name params kV doc pm an ct,W.K.lookup a=some ⟨oc,od, .func (fnOf name qual params body scope .none kV doc pm an cd ct),PC⟩/\params.posonlyargs= []/\params.vararg=none/\params.kwonlyargs= []/\params.kwarg=none/\params.args.map (·.arg)=fn.params.map W.nm
 code:codeIn W.K cd qual=true
 co:scope.isCoroutine=false
 gen:scope.isGenerator=false
 kind:scope.kind= .function
 cells:∀x∈scope.names,x.2≠ .cell
 loc:∀x∈fn.params,scope.names.lookup (W.nm x)=some .local
 nodup:fn.params.Nodup
def dh(C:Cx)(m:Str->Option Value)(L a:Addr)(scope:Scope)(qual:Str)(cd:Value):Cx:=
 {A:=C.A.deeper (envOf qual scope L a cd),outer:=C.env::C.outer,outs:=(C.L,iz.fr m)::C.outs,name:=qual,scope:=scope,L:=L,a:=a,cd:=cd}
theorem fI(h:C.Ok (n+1))(hk:scope.kind= .function):(dh C m L a scope qual cd).Ok n where
 frames:=Around.frames_deeper h.frames
 kind:=hk
 depth:=Pg h.depth ak
 units:=Pg h.units ak
 calm:=h.calm
 outs:=by
  intro env he;rcases X9.mp he with rfl|he
  ·exact⟨by show C.scope.kind≠ .module;rw[h.kind];decide,C.L,m,rfl, .head _⟩
  ·obtain⟨h1,a,m',h2,h3⟩:=h.outs env he;exact⟨h1,a,m',h2, .tail _ h3⟩
def xS(W:SW):Prop:=∀(C:Cx) (n:Nat) (κ:Kn) (σ:St) (m:Str->Option Value) (L a:Addr) (scope:Scope) (qual:Str) (cd:Value) (je:Bool) (sx ix cx:Nat) (e:Value) (s:Shared) (kU:List (Nat×V)) (Q:Unit->Shared->Prop) (E:Value->Shared->Prop),
 C.Ok (n+1)->W.base.objs.size<=C.L->scope.kind= .function->rI W κ kU m->ph W (dh C m L a scope qual cd) κ σ je sx ix cx e s->
 (∀s',ph W C κ (σ.setE kU) true sx ix cx e s'->Q () s')->
 wpAny (model W.prog W.w) (dh C m L a scope qual cd).A (leaving (dh C m L a scope qual cd).env e) Q E s
section
variable{W:SW}{C:Cx}{κ:Kn}{σ:St}{s:Shared}
theorem JM:(W.nm x==W.nm p)=Nat.beq p x:=by
 refine cY (Nat.beq p x) (λe=>?_) λe=>?_
 ·rw[e];rw[Yh e];exact beq_self_eq_true _
 ·rw[e];exact Zz.mpr λq=>Zn e (W.inj _ _ q).symm
theorem Ct:∀{vs:List V} {us:List Value} {env:List (Nat×V)},pa ps vs=some env->cI W κ vs us->ps.length=us.length/\∀x v,aN x env=some v->∃u,((ps.map W.nm).zip us).lookup (W.nm x)=some u/\VR W κ v u:=by
 induction ps with
 |nil=>
  intro vs us env h hv;refine de (bY h) λe h=>?_;obtain rfl:=YF.mp e;obtain rfl:=hv.nil;obtain rfl:=si h;exact⟨rfl,λx v e=>nt e⟩
 |cons p ps i=>
  intro vs us env h hv;cases vs with
  |nil=>exact nt h
  |cons w vs=>
   (refine a9 (hv.cons) λu us q3 h1 h2=>?_;subst q3)
   (refine U (om h) λr hz q3=>?_;subst q3)
   obtain⟨hl,ih⟩:=i hz h2;refine⟨Yd Nat.succ hl,λx v e=>?_⟩;rw[Yn,List.zip_cons_cons,zav,JM];rw[Ej]at e;refine cY (Nat.beq p x) (λhp=>?_) λhp=>?_
   ·rw[hp];rw[hp]at e;exact(al u rfl (si e ▸ h1))
   ·rw[hp];rw[hp]at e;exact ih x v e
theorem vT{l:List (Str×Value)}(h:(l.map (·.1)).Nodup):l.reverse.lookup x=l.lookup x:=by
 induction l with
 |nil=>rfl
 |cons p r i=>
  rw[Yn,Yu]at h;rw[List.reverse_cons,List.lookup_append,i h.2];refine uu ((x==p.1)) (λhb=>?_) λhb=>?_
  ·
   have e:∀q,(p::q).lookup x=q.lookup x:=λq=>by rw[zav,hb]
   rw[e,e];cases r.lookup x<;>rfl
  ·
   have e2:∀q,(p::q).lookup x=some p.2:=λq=>by rw[zav,hb]
   rw[(List.lookup_eq_none_iff.mpr λq hq=>bne_iff_ne.mpr λe=>h.1 (YD.mpr (al q hq (e.symm.trans (eq_of_beq hb))))),e2,e2];rfl
theorem nK{α β:Type}{f:α->β}(hf:∀x y,f x=f y->x=y){l:List α}(h:l.Nodup):(l.map f).Nodup:=by
 induction l with
 |nil=>exact .nil
 |cons a l i=>
  rw[Yu]at h;rw[Yn,Yu];refine⟨λhm=>?_,i h.2⟩;refine U (YD.mp hm) λb hb e=>?_;exact h.1 (hf _ _ e ▸ hb)
def sd(ih:Ih)(fn:Fn)(args:List V):M V:=M.of (pa fn.params args) λenv=>M.bind M.env λkU=>M.restore kU (M.bind (M.setE env) λ_=>M.bind (Mine.execs ih fn.body) λr=>match r with
   | .next=>M.pure .none
   | .ret v=>M.pure v)
noncomputable def QZ:Fl->V
 | .next=> .none
 | .ret v=>v
def Q0:R Fl->R V
 | .ok f=> .ok (QZ f)
 | .exc _ sx ix cx=> .exc true sx ix cx
theorem m6(h:sd ih fn args σ=some (res,σ')):∃env px ai,pa fn.params args=some env/\Mine.execs ih fn.body (σ.setE env)=some (px,ai)/\σ'=ai.setE σ.env/\res=Q0 px:=by
 refine U (gH h) λenv hz h=>?_
 let z0:=σ.setE env
 have h:M.restore σ.env (M.bind (Mine.execs ih fn.body) λr=>match r with
   | .next=>M.pure .none
   | .ret v=>M.pure v) z0=some (res,σ'):=h
 unfold M.restore M.bind at h;refine dJ (Mine.execs ih fn.body z0) (λhx=>?_) λp hx=>?_
 ·rw[hx]at h;exact nt h
 ·
  obtain⟨r,ai⟩:=p;rw[hx]at h;cases r with
  |exc je sx ix cx=>exact(pg env _ ai hz hx ((sp h).2) ((sp h).1))
  |ok f=>cases f<;>exact(pg env _ ai hz hx ((sp h).2) ((sp h).1))
theorem uc(hl:xS W)(hC:C.Ok (n+1))(hf:MB W fn a body scope qual cd)(hb:∀C':Cx,C'.Ok n->C'.scope=scope->∀κ σ,bV W C' κ σ (PySem.execs body C'.env) (Mine.execs ih fn.body σ) (Eo W))(h:sd ih fn args σ=some (res,σ'))(hv:cI W κ args us)(R:bA W C κ σ s)(k:bF W C (λκ=>VR W κ) (λv=>RR (.ok (.ret v))) (λe=>RR (.error e)) res κ σ'):codeAny (model W.prog W.w) C.A (.call (.ref a) ⟨us, []⟩) RR s:=by
 refine hg λcg kg=>?_;(refine nI (m6 h) λenv px ai hz hx q6 Mj=>?_;subst q6)
 (refine cz (hf.at_) λoc od PC name q=>?_;(refine cz q λparams kV doc pm q=>?_;(refine R1 q λan ct hK p1 p2 p3 p4 p5=>?_;try clear q)))
 obtain⟨ef,lT⟩:=Ct hz hv
 (refine bj R λm aw frs r=>?_;clear R)
 refine kg ?_;have Tj:=nK W.inj hf.nodup;refine codeAny_call_def (fd:=fnOf name qual params body scope .none kV doc pm an cd ct) (body:=body) (binds:=(fn.params.map W.nm).zip us) (YJ (Yc (Ym ..) (Ym ..)) hC.depth) ((W.X.keeps r.F.keep) _ _ hK) rfl (W.lim.keeps r.F.keep) (codeRec_of (W.X.keeps r.F.keep) hf.code) rfl (BindsTo.of_eq (by rw[(wl (fd:=fnOf name qual params body scope .none kV doc pm an cd ct) (us:=us) p1 p2 p3 p4 rfl (by rw[p5];exact Tj) (by rw[<-ef,<-YO (f:=(·.arg)),p5,YO]))];rw[p5])) hf.cells ?_ (λap P6 wK=>?_) hf.co hf.gen hf.kind
 ·intro y hy;have:=(List.of_mem_zip hy).1;refine U (YD.mp this) λx Ij e=>?_
  (refine(e) ▸?_);exact hf.loc x Ij
 ·refine U (pD.mp r.F.ns) λoL Ti WQ=>?_;have nL:C.L∉(aw++frs).map (·.1):=λq=>by
   refine U (YD.mp q) λp hp e=>?_;exact(r.N p hp).2.1 e
  refine hb (dh C m s.heap.objs.size a scope qual cd) (fI hC hf.kind) rfl κ (σ.setE env) _ _ hx _ _ _ (b7 _ _ _ ((by
   refine⟨⟨P6,λb o e=>wK b o (r.F.keep b o e),Yc r.F.above (Zv r.F.ns.lt)⟩,λp hp=>?_,(by
   rw[(show(aw++(C.L,oL)::frs).map (·.1)=aw.map (·.1)++C.L::frs.map (·.1)from by simp)];have:=r.nd;rw[Yo]at this nL;rw[YB]at this⊢;rw[Yq,not_or]at nL;refine⟨this.1,Yu.mpr ⟨nL.2,this.2.1⟩,λx hx y hy=>?_⟩;rcases X9.mp hy with rfl|hy
   ·rintro rfl;exact nL.1 hx
   ·exact this.2.2 x hx y hy),?_,r.nr,λx v e=>?_,r.gens,r.os⟩
   ·rcases Yq.mp hp with q|q
    ·have z:=r.N p (X6 _ q);exact⟨wK _ _ z.1,Zm (Zj z.1),z.2.2⟩
    ·rcases X9.mp q with rfl|q
     ·exact⟨wK _ _ Ti,Zm (Zj Ti),(by
   cases q:W.base.get? C.L with
   |none=>rfl
   |some o=>exact absurd (Yr (Zj q) r.F.above) (Zh _))⟩
     ·have z:=r.N p (Yk _ q);exact⟨wK _ _ z.1,Zm (Zj z.1),z.2.2⟩
   ·skip;exact(cj _ _ rfl rfl WQ (r.frs))
   ·refine U (lT x v e) λu hu Ik=>?_;refine(al u ?_ Ik);rw[vT (by rw[List.map_fst_zip (by simpa using ZD ef)];exact Tj)];exact hu))) λcL s' le=>?_
  cases px with
  |ok f=>
   subst Mj;intro g hg Tv
   (refine bj Tv λm' uF uP r'=>?_;clear Tv)
   have nC:=r'.frs;dsimp only[dh,iA]at nC
   (refine cT nC λq NJ q3 KJ Wh Wg=>?_;clear nC;subst q3)
   have Mx:bA W C cL (ai.setE σ.env) s':=by
    refine⟨m,uF,NJ,⟨pD.mpr (al (q.2) (by(refine(KJ) ▸?_);exact(r'.N q (Yk _ (.head _))).1) Wh),r'.F.keep,r.F.above⟩,λp hp=>?_,?_,Wg,r'.nr,r.env.mono le,r'.gens,r'.os⟩
    ·skip
     refine⟨(r'.N p (by
      rcases Yq.mp hp with x|x
      ·exact X6 _ x
      ·exact Yk _ (.tail _ x))).1,λe=>?_,(r'.N p (by
      rcases Yq.mp hp with x|x
      ·exact X6 _ x
      ·exact Yk _ (.tail _ x))).2.2⟩
     have nd:=r'.nd;rw[Yo,Yn,YB]at nd;rcases Yq.mp hp with x|x
     ·exact nd.2.2 p.1 (YH x) q.1 (.head _) (e.trans KJ.symm)
     ·exact(Yu.mp nd.2.1).1 (by rw[KJ,<-e];exact YH x)
    ·have nd:=r'.nd;rw[Yo,Yn,YB]at nd;rw[Yo,YB];exact⟨nd.1,(Yu.mp nd.2.1).2,λx hx y hy=>nd.2.2 x hx y (.tail _ hy)⟩
   cases f with
   |next=>subst hg;exact k cL s' le _ j3 Mx
   |ret v=>(refine U hg λu q2 V8=>?_;clear hg;subst q2);exact k cL s' le _ V8 Mx
  |exc je sx ix cx=>
   subst Mj;intro e he;exact hl C n cL ai m s.heap.objs.size a scope qual cd je sx ix cx e s' σ.env _ _ hC r.F.above hf.kind (r.env.mono le) he λK7 Rn=>k cL K7 le e Rn
end
def ei(W:SW)(fa:Nat->Option Addr)(ih:Ih)(n:Nat):Prop:=∀C:Cx,C.Ok (n+1)->∀f a,fa f=some a->∀κ σ args us,cI W κ args us->∀res σ',ih.c f args σ=some (res,σ')->∀(RR:Result->Shared->Prop) s,bA W C κ σ s->
 bF W C (λκ=>VR W κ) (λv=>RR (.ok (.ret v))) (λe=>RR (.error e)) res κ σ'->codeAny (model W.prog W.w) C.A (.call (.ref a) ⟨us, []⟩) RR s
def noStar(e:Expr):Bool:= !Nat.beq e.ctorIdx 22
theorem hG(h:noStar e=true):starEach (e::rest) env=(false,eval e env)::starEach rest env:=by
 cases e<;>first|(cases h;done)|rfl
theorem gi:∀{es:List Expr},es.all noStar=true->(backTo pos (starEach es env)).any (·.1)=false:=by
 intro es
 induction es with
 |nil=>intro _;exact rfl
 |cons e es ih=>
  intro h;simp only[Zs,Ye]at h;rw[hG h.1];show(false||(backTo pos (starEach es env)).any (·.1))=false;rw[ih h.2];rfl
theorem gP{es:List Expr}(h:es.all noStar=true):∀e∈es,∀rest,starEach (e::rest) env=(false,eval e env)::starEach rest env:=λe he rest=>hG (X7.mp h e he)
section
variable{W:SW}{C:Cx}{κ:Kn}{σ:St}{s:Shared}
theorem bA.K(R:bA W C κ σ s):W.K.In s.heap:=let ⟨m,aw,frs,r⟩:=R;W.X.keeps r.F.keep
theorem eT(hk:keepIn W.K f=true)(gF:es.all noStar=true)(hs:cw (λe x=>SndE W C e (ih.e x)) es xs)(h:M.bind (kK ih xs) g σ=some (res,σ'))(R:bA W C κ σ s)(k:bF W C yC Qk E res κ σ')(hc:∀am ai vs us aE,κ.Le am->cI W am vs us->bA W C am ai aE->g vs ai=some (res,σ')->bF W C yC Qk E res am σ'->wpAny (model W.prog W.w) C.A (call f (first++us)) Q E aE):
  wpAny (model W.prog W.w) C.A (callWith pos f first (backTo pos (starEach es C.env)) []) Q E s:=by
 cases es with
 |nil=>
  refine callWith_K0 R.K hk ?_;cases xs with
  |cons _ _=>exact hs.elim
  |nil=>exact hc κ σ [] [] s (Kn.Le.refl κ) (by rfl) R h k
 |cons e rest=>
  have IR:=gF;simp only[Zs,Ye]at IR;refine callWith_K W.X hk ?_ (hG IR.1) (gi IR.2);refine bV.bind (mw hs (gP gF) κ σ) h R k λam ai vs us aE le hv ar ap k₁=>?_;exact⟨ar.K,hc am ai vs us aE le hv ar ap k₁⟩
theorem Kg(ye:ei W fa ih n)(hC:C.Ok (n+1))(hl:C.scope.names.lookup (W.nm fx)=some .globalImplicit)(hd:(W.nm fx==("__debug__":Str))=false)(hn:nsIn W.K mainGlobals (W.nm fx)=some (some (.ref a)))(ha:fa f=some a)(hk:keepIn W.K (.ref a)=true)(gF:es.all noStar=true)(hs:cw (λe x=>SndE W C e (ih.e x)) es xs):
  SndE W C (.Call (.Name (W.nm fx) np) es [] pos) (M.bind (kK ih xs) λvs=>ih.c f vs):=by
 intro κ σ res σ' h s Q E R k;refine ZZ ?_;refine bj (id R) λm aw frs r=>?_;refine name_K r.F W.X W.T hn ?_ hC.kind hl hd;refine eT (first:= []) hk gF hs h R k λam ai vs us aE le hv ar ap k₁=>?_;rw[Y1];exact zay (ye C hC f a ha am ai vs us hv res σ' ap _ aE ar k₁)
end
noncomputable def Cx.under (C:Cx) (c:Code):Cx:={C with A:=C.A.under c}
theorem CB:Code.cUnits (.builtin "type.__call__" ⟨.ref a::us, []⟩)<=8:=Yg rfl
theorem Cw{C:Cx}(h:C.Ok (n+1)):(C.under (.builtin "type.__call__" ⟨.ref a::us, []⟩)).Ok n:=by
 refine⟨?_,h.kind,?_,?_,h.calm,h.outs⟩
 ·show pushEnvs [] C.A.frames=_;rw[h.frames];rfl
 ·exact Pg (c:=1) h.depth ak
 ·exact Pg h.units (CB (a:=a) (us:=us))
section
variable{W:SW}{C:Cx}{κ:Kn}{σ:St}{s:Shared}
theorem km:bA W (C.under c) κ σ s↔bA W C κ σ s:=by
 constructor
 ·rintro ⟨m,aw,frs,r⟩;exact(b7 m aw frs ⟨r.F,r.N,r.nd,r.frs,r.nr,r.env,r.gens,r.os⟩)
 ·rintro ⟨m,aw,frs,r⟩;exact(b7 m aw frs ⟨r.F,r.N,r.nd,r.frs,r.nr,r.env,r.gens,r.os⟩)
theorem zA:ph W (C.under c) κ σ je sx ix cx e s->ph W C κ σ je sx ix cx e s:=by
 cases je with
 |true=>
  rintro ⟨m,aw,frs,a,d,Cc,o,B,r⟩;exact⟨m,aw,frs,a,d,Cc,o,B,⟨r.eq,r.cls,r.main,r.sub,r.here,r.fly,r.base,r.above,r.ns,r.keep,r.mem,r.hold,r.nd,r.aL,r.frs,r.nr,r.gone,r.env,r.gens,r.os⟩⟩
 |false=>
  rintro ⟨a,d,Cc,t,r⟩;exact(My a d Cc t ⟨km.mp r.rel,r.eq,r.cls,r.main,r.sub,r.here,r.gone⟩)
theorem NR.add2(R:NR W κ aw H)(hx:x∉aw.map (·.1))(hd:dx∉aw.map (·.1))(ne:x≠dx)(Ia:∀b,κ.at_ t (H t).length b=none)(ho:gB W ((κ.add t (H t).length true dx).add t (H t).length false x) ((x,o)::(dx,od)::aw) t (H t).length mo):
  NR W ((κ.add t (H t).length true dx).add t (H t).length false x) ((x,o)::(dx,od)::aw) (λt'=>match Nat.beq t' t with|true=>H t++ [mo]|false=>H t'):=by
 let z0:=(κ.add t (H t).length true dx).add t (H t).length false x
 have Ii:∀{s1 i1 b1 y},z0.at_ s1 i1 b1=some y->(s1=t/\i1=(H t).length/\b1=false/\y=x)\/(s1=t/\i1=(H t).length/\b1=true/\y=dx)\/(κ.at_ s1 i1 b1=some y/\y∈aw.map (·.1)):=λ{s1 i1 b1 y} e=>by
  refine bc (s1=t/\i1=(H t).length/\b1=false) (λq1=>?_) λq1=>?_
  ·(refine dW q1 λq1 q2 q3=>?_;subst q1;subst q2;subst q3)
   rw[Kn.add_self]at e;obtain rfl:=Yi e;exact .inl (lU rfl rfl rfl rfl)
  ·rw[Kn.add_ne q1]at e;refine bc (s1=t/\i1=(H t).length/\b1=true) (λq2=>?_) λq2=>?_
   ·obtain⟨rfl,rfl,rfl⟩:=q2;rw[Kn.add_self]at e;obtain rfl:=Yi e;exact .inr (.inl (lU rfl rfl rfl rfl))
   ·rw[Kn.add_ne q2]at e;exact .inr (.inr ⟨e,(R.dom e).2⟩)
 refine⟨λh=>R.known h,λ{s1 i1 b1 s2 i2 b2 y} e1 e2=>?_,λ{s1 i1 b1 y} e=>?_,λ{s1 i1 o1} e=>?_,λ{a vs} e=>?_⟩
 ·rcases Ii e1 with⟨r1,r2,r3,r4⟩|⟨r1,r2,r3,r4⟩|⟨r1,r2⟩<;>rcases Ii e2 with⟨p1,p2,p3,p4⟩|⟨p1,p2,p3,p4⟩|⟨p1,p2⟩
  ·exact⟨r1.trans p1.symm,r2.trans p2.symm,r3.trans p3.symm⟩
  ·exact absurd (r4.symm.trans p4) ne
  ·exact absurd (r4 ▸ p2) hx
  ·exact absurd (p4.symm.trans r4) ne
  ·exact⟨r1.trans p1.symm,r2.trans p2.symm,r3.trans p3.symm⟩
  ·exact absurd (r4 ▸ p2) hd
  ·exact absurd (p4 ▸ r2) hx
  ·exact absurd (p4 ▸ r2) hd
  ·exact R.inj r1 p1
 ·have eW:Nat.beq t t=true:=by simp
  rcases Ii e with⟨rfl,rfl,rfl,rfl⟩|⟨rfl,rfl,rfl,rfl⟩|⟨r1,r2⟩
  ·exact⟨by rw[eW];simp,by simp⟩
  ·exact⟨by rw[eW];simp,by simp⟩
  ·exact⟨Yr (R.dom r1).1 ((show∀s',(H s').length<=(match Nat.beq s' t with|true=>H t++ [mo]|false=>H s').length fromλs'=>by
  cases q:Nat.beq s' t with
  |true=>have:=Yh q;subst this;simp
  |false=>simp) s1),by exact Yy _ (Yy _ r2)⟩
 ·have kU:nth (H s1) i1=some o1->gB W z0 ((x,o)::(dx,od)::aw) s1 i1 o1:=λe=>by
   refine(R.obj e).keep ((Kn.le_add (Ia true)).trans (Kn.le_add (by rw[Kn.add_ne (λq=>by cases q.2.2)];exact Ia false))) (λh=>?_) λ_ _ _ _ h=>Yy _ (Yy _ h);have kW:=pC e;rw[Kn.add_ne (λq=>by cases q.2.2),Kn.add_ne (λq=>by obtain⟨rfl,rfl,_⟩:=q;exact absurd kW (Zh _))];exact h
  refine cY (Nat.beq s1 t) (λq=>?_) λq=>?_
  ·
   have:=Yh q;subst this;rw[q]at e;rcases mW e with e|⟨rfl,rfl⟩
   ·exact kU e
   ·exact ho
  ·
   rw[q]at e;exact kU e
 ·refine U (R.tup e) λo' a1 a2=>?_;exact(al o' a1 (a2.imp (λh=>Yy _ (Yy _ h)) id))
theorem ba.born{aw frs:List (Addr×Obj)}(r:ba W C κ σ s m aw frs)(hc:W.cls c=some Ca)(hx:W.P.isExc c=false)(F':Fr W.base C.L h' m)(N':News W.base C.L h' ((x,instObj Ca dx)::(dx,emptyDict)::(aw++frs)))(lo:∀p∈aw++frs,p.1<dx)(kW:dx<x):
  ∃cL,κ.Le cL/\cL.at_ t (σ.heap t).length false=some x/\ba W C cL (σ.add t (.inst c [])) {s with heap:=h'} m ((x,instObj Ca dx)::(dx,emptyDict)::aw) frs:=by
 have SR:=λp hp=>Nat.lt_trans (lo p hp) kW;have nx:=r.fresh SR;have nd:=r.fresh lo;rw[Yo]at nx nd;have SX:(κ.add t (σ.heap t).length true dx).Le ((κ.add t (σ.heap t).length true dx).add t (σ.heap t).length false x):=Kn.le_add (by rw[Kn.add_ne (λq=>by cases q.2.2)];exact r.offEnd t false);refine⟨_,(Kn.le_add (r.offEnd t true)).trans SX,Kn.add_self,F',N',?_,r.frs,?_,r.env.mono ((Kn.le_add (r.offEnd t true)).trans SX),r.gens,r.os⟩
 ·show(x::dx::(aw++frs).map (·.1)).Nodup;rw[Yu,Yu];refine⟨λh=>?_,r.fresh lo,r.nd⟩;rcases X9.mp h with e|h
  ·exact absurd e (Y9 kW)
  ·exact r.fresh SR h
 ·refine r.nr.add2 (λh=>nx (X6 _ h)) (λh=>nd (X6 _ h)) (Y9 kW) (r.offEnd t) ?_;exact(aZ Ca x hc (Kn.add_self) (.inl ⟨hx,dx, [],0,by rw[Kn.add_ne (λq=>by cases q.2.2)];exact Kn.add_self, .head _, .tail _ (.head _),rfl⟩))
theorem o3{us:List Value}{h':Heap}{Q:Value->Shared->Prop}{E:Value->Shared->Prop}(ye:ei W fa ih n)(hC:C.Ok (n+2))(Lr:fa f=some a)(h:M.made ih c t f args σ=some (res,σ'))(le:κ.Le cL)(ha:cL.at_ t (σ.heap t).length false=some x)(hv:cI W κ args us)(R:bA W C cL (σ.add t (.inst c [])) {s with heap:=h'})(k:bF W C (λκ=>VR W κ) Q E res κ σ'):
  codeAny (model W.prog W.w) (C.under (.builtin "type.__call__" ⟨.ref Ca::us, []⟩)).A (.call (.ref a) ⟨.ref x::us, []⟩) (InitBack x λr s'=>match r with| .ok (.ret v)=>Q v s'| .ok _=>False| .error e=>E e s') {s with heap:=h'}:=by
 let z0:=σ.add t (.inst c [])
 let z1:=σ.heap t
 have h:M.bind (ih.c f (V.obj t z1.length::args)) (λr=>M.oN r (M.pure (V.obj t z1.length))) z0=some (res,σ'):=h;unfold M.bind at h;refine dJ (ih.c f (V.obj t z1.length::args) z0) (λiH=>?_) λp iH=>?_
 ·rw[iH]at h;exact nt h
 ·
  obtain⟨lR,ai⟩:=p;rw[iH]at h;refine ye (C.under (.builtin "type.__call__" ⟨.ref Ca::us, []⟩)) (Cw hC) f a Lr cL _ _ _ (by exact(aZ _ _ rfl (by exact(al x rfl ha)) (hv.mono le))) _ _ iH _ _ (km.mpr R) λbM c9 aY=>?_;cases lR with
  |ok v=>
   intro u hu bE;refine hg λcg kg=>?_;obtain⟨rfl,g⟩:=M8 h;obtain⟨rfl,rfl⟩:=ao g;refine kg ?_;exact⟨hu.none,k bM c9 (le.trans aY) _ (by exact(al x rfl (aY.at_ ha))) (km.mp bE)⟩
  |exc je sx ix cx=>
   obtain⟨rfl,rfl⟩:=sp h;exactλe he=>k bM c9 (le.trans aY) e (zA he)
theorem FN(ye:ei W fa ih n)(hC:C.Ok (n+2))(hc:W.cls c=some Ca)(hm:makesIn W.K Ca=true)(hi:match W.P.init c with
   |some none=>findIn W.K (.ref Ca) "__init__"=some (some (.builtin "object.__init__"))/\W.P.isExc c=false
   |some (some f)=>∃a,fa f=some a/\findIn W.K (.ref Ca) "__init__"=some (some (.ref a))/\typeIn W.K (.ref a)=some (.type "function")
   |none=>True)(h:M.make W.P ih c t args σ=some (res,σ'))(hv:cI W κ args us)(R:bA W C κ σ s)(k:bF W C (λκ=>VR W κ) Q E res κ σ'):wpAny (model W.prog W.w) C.A (call (.ref Ca) us) Q E s:=by
 refine bj (id R) λm aw frs r=>?_;refine zay ?_;refine U (gH h) λo NA g=>?_;rw[NA]at hi;cases o with
 |none=>
  obtain⟨ea,g⟩:=cQ g;obtain rfl:=YF.mp ea;obtain⟨rfl,rfl⟩:=ik g;obtain rfl:=hv.nil;refine make_K0 r.F r.N (R.K) hm hi.1 λx dx h' F' N' lo kW=>?_;refine a8 (r.born (t:=t) hc hi.2 F' N' lo kW) λcL le ha r'=>?_;exact k cL _ le _ (by exact(al x rfl ha)) (b7 m _ frs r')
 |some f=>
  (refine a8 hi λa Lr Bg P3=>?_;clear hi)
  obtain⟨hx,g⟩:=cQ g;refine make_K r.F r.N (R.K) hm Bg P3 λx dx h' F' N' lo kW=>?_;refine a8 (r.born (t:=t) hc (iq hx) F' N' lo kW) λcL le ha r'=>?_;exact o3 ye hC Lr g le ha hv (b7 m _ frs r') k
end
section
variable{W:SW}{C:Cx}{κ:Kn}{σ:St}{s:Shared}
theorem NP(ye:ei W fa ih n)(hC:C.Ok (n+2))(hl:C.scope.names.lookup (W.nm c)=some .globalImplicit)(hd:(W.nm c==("__debug__":Str))=false)(hn:nsIn W.K mainGlobals (W.nm c)=some (some (.ref Ca)))(hc:W.cls c=some Ca)(hm:makesIn W.K Ca=true)(hi:match W.P.init c with
   |some none=>findIn W.K (.ref Ca) "__init__"=some (some (.builtin "object.__init__"))/\W.P.isExc c=false
   |some (some f)=>∃a,fa f=some a/\findIn W.K (.ref Ca) "__init__"=some (some (.ref a))/\typeIn W.K (.ref a)=some (.type "function")
   |none=>True)(hk:keepIn W.K (.ref Ca)=true)(gF:es.all noStar=true)(hs:cw (λe x=>SndE W C e (ih.e x)) es xs):
  SndE W C (.Call (.Name (W.nm c) np) es [] pos) (M.bind (kK ih xs) λvs=>M.make W.P ih c t vs):=by
 intro κ σ res σ' h s Q E R k;refine ZZ ?_;refine bj (id R) λm aw frs r=>?_;refine name_K r.F W.X W.T hn ?_ hC.kind hl hd;refine eT (first:= []) hk gF hs h R k λam ai vs us aE le hv ar ap k₁=>?_;rw[Y1];exact FN ye hC hc hm hi ap hv ar k₁
theorem call_meth{M:Model}(hb:iW o=true)(hf:methodCallForm args.length (backTo pos (starEach args env)) []=true)(hp:(apos.endLine==pos.line)=true)(h:wpAny M A (eval o env) (λov aE=>wpAny M A (getMethod ov name (do return (<-importBound o env).getD true)) (λp c9=>wpAny M A (callWith pos p.1 p.2 (backTo pos (starEach args env)) []) Q E c9) E aE) E s):
  wpAny M A (eval (.Call (.Attribute o name apos) args [] pos) env) Q E s:=by
 rw[arm_eval_Call,xN hb];refine Yb (wpAny_mono h (λov aE ap=>Yb (Zg ?_)) λ_ _ e=>e);show wpAny M A (methodCall o name apos pos env ov (args.length+0) (backTo pos (starEach args env)) []) Q E aE;unfold methodCall;rw[Nat.add_zero,hf];refine Yb (YZ ?_);refine wpAny_mono ap (λp c9 aT=>?_) λ_ _ e=>e;refine Yb ?_;rw[(show methodCallPos true o env apos pos=pure pos from by unfold methodCallPos;simp[hp])];exact Yp aT
end
section
variable{W:SW}{C:Cx}{κ:Kn}{σ:St}{s:Shared}
theorem zq:∀{es:List DictEntry},c7 W κ fs es->aN x fs=none->es.find? (·.key.isStr (W.nm x))=none:=by
 induction fs with
 |nil=>intro es hf _;rw[hf.nil];rfl
 |cons p fs i=>
  intro es hf h
  (refine cT (c7.cons (y:=p.1) (w:=p.2) hf) λe r q3 q4 h2 h3=>?_;subst q3;obtain⟨t,hk⟩:=q4)
  rw[Ej]at h;rw[zae,pH hk];refine cY (Nat.beq p.1 x) (λhy=>?_) λhy=>?_
  ·rw[hy]at h;exact nomatch h
  ·rw[hy];rw[hy]at h;exact i h3 h
theorem Dv(hf:c7 W κ fs es)(h:aN x fs=none):getL (W.nm x) es=some none:=by
 unfold getL
 (refine(zq hf h).symm ▸?_;refine(oW hf).symm ▸?_);rfl
theorem mS{id:String}(gF:es.all noStar=true)(hs:cw (λe x=>SndE W C e (ih.e x)) es xs)(h:M.bind (kK ih xs) g σ=some (res,σ'))(R:bA W C κ σ s)(k:bF W C (λκ=>VR W κ) Q E res κ σ')(hc:∀am ai vs us aE,κ.Le am->cI W am vs us->bA W C am ai aE->g vs ai=some (res,σ')->bF W C (λκ=>VR W κ) Q E res am σ'->wpAny (model W.prog W.w) C.A (call (.builtin id) (first++us)) Q E aE):
  wpAny (model W.prog W.w) C.A (callWith pos (.builtin id) first (backTo pos (starEach es C.env)) []) Q E s:=by
 refine Calls.callWith_builtin (gi gF) ?_;cases es with
 |nil=>
  cases xs with
  |cons _ _=>exact hs.elim
  |nil=>exact evalArgs_nil3 (by simpa using hc κ σ [] [] s (Kn.Le.refl κ) (by rfl) R h k)
 |cons e rest=>
  have h0:wpAny (model W.prog W.w) C.A (spliced (backTo pos (starEach (e::rest) C.env))) (λvs s'=>wpAny (model W.prog W.w) C.A (call (.builtin id) (first++vs)) Q E s') E s:=by
   refine bV.bind (mw hs (gP gF) κ σ) h R k λam ai vs us aE le hv ar ap k₁=>?_;exact hc am ai vs us aE le hv ar ap k₁
  rw[(hG (rest:=rest) (env:=C.env) (e:=e) (by simp only[Zs,Ye]at gF;exact gF.1))]at h0⊢;exact Calls.evalArgs_plain h0
theorem sq(h:M.bind (M.put t i o) (λ_=>M.pure a) σ=some (res,σ')):res= .ok a/\σ'=σ.put t i o:=sp h
theorem zN(h:M.append q v σ=some (res,σ'))(hq:VR W κ q a)(hv:VR W κ v u)(R:bA W C κ σ s)(k:bF W C (λκ=>VR W κ) Q E res κ σ'):wpAny (model W.prog W.w) C.A (call (.builtin "list.append") [a,u]) Q E s:=by
 refine hg λcg kg=>?_;(refine cZ (nD h) λt i o q4 ho g=>?_;subst q4)
 (refine U (l5 g) λvs q2 g=>?_;subst q2)
 obtain⟨hl,g⟩:=cQ g;obtain⟨rfl,rfl⟩:=sq g
 (refine U (hq.obj) λp q2 h1=>?_;subst q2)
 refine bj (id R) λm aw frs r=>?_;refine cZ (r.nr.obj ho) λa' iK kk g1 g2 g3=>?_;obtain rfl:=si (h1.symm.trans g1);refine kg ?_;refine append_K r.F r.N (pj _ r.nd (X6 _ g2)) (λh' F' N'=>?_) (by show iK.length<=sizeLine;(refine(g3.length) ▸?_);exact gf hl);rw[List.push_toArray]at N'
 exact k.done (a:=Value.none) j3 (b7 m _ frs ((r.put (t:=t) (i:=i) (b:=false) (d:=p) (mo:= .list (vs++ [v])) (s':={s with heap:=h'}) h1 g2 A9 F' N'
  (iO p (iK++ [u]) (kk+1) h1 (aH (aV g2)) (g3.append (cI.single hv))) rfl rfl)))
theorem CW:∀{l:List V×V} {us:List Value},hO vs=some l->cI W κ vs us->∃p,kl_last us=some p/\cI W κ l.1 p.1/\VR W κ l.2 p.2:=by
 induction vs with
 |nil=>intro l us h _;exact nt h
 |cons w r i=>
  intro l us h hv
  (refine a9 (hv.cons) λx xs q3 h1 h2=>?_;subst q3)
  obtain rfl:=si h;unfold kl_last;refine dJ (hO r) (λhp=>?_) λq hp=>?_
  ·
   cases r with
   |nil=>obtain rfl:=h2.nil;exact(aM (([],x)) rfl (by rfl) h1)
   |cons _ _=>exact nomatch hp
  ·
   rw[hp];refine a8 (i hp h2) λp e1 e2 e3=>?_
   (refine(e1).symm ▸?_)
   exact(aM ((x::p.1,p.2)) rfl (by exact(aZ x (p.1) rfl h1 e2)) e3)
theorem FG(h:M.popL q σ=some (res,σ'))(hq:VR W κ q a)(R:bA W C κ σ s)(k:bF W C (λκ=>VR W κ) Q E res κ σ'):wpAny (model W.prog W.w) C.A (call (.builtin "list.pop") [a]) Q E s:=by
 refine hg λcg kg=>?_;(refine cZ (nD h) λt i o q4 ho g=>?_;subst q4)
 (refine U (l5 g) λvs q2 g=>?_;subst q2)
 obtain⟨hl,g⟩:=cQ g;refine U (gH g) λl hp g=>?_;obtain⟨rfl,rfl⟩:=sq g
 (refine U (hq.obj) λp q2 h1=>?_;subst q2)
 refine bj (id R) λm aw frs r=>?_;refine cZ (r.nr.obj ho) λa' iK kk g1 g2 g3=>?_;obtain rfl:=si (h1.symm.trans g1);refine a8 (CW hp g3) λpp e1 e2 e3=>?_;refine kg ?_;refine kl_pop r.F r.N e1 (pj _ r.nd (X6 _ g2)) (by(refine(g3.length) ▸?_);exact gf hl) (λh' F' N'=>?_)
 exact k.done e3 (b7 m _ frs ((r.put (t:=t) (i:=i) (b:=false) (d:=p) (mo:= .list l.1) (s':={s with heap:=h'}) h1 g2 A9 F' N'
  (iO p (pp.1) (kk+1) h1 (aH (aV g2)) e2) rfl rfl)))
theorem eM.keyed(D:eM W κ kd es a o)(h:kd<4):
  (∃bt,o.IsDictOf (PySem.strKind W.prog W.w) bt/\es.length=bt.length)\/(∃bt,o.IsDictOf (PySem.intKind W.prog W.w) bt/\es.length=bt.length)\/∃xs,lN W o xs/\es.length=xs.length:=by
 rcases PV h with e|e|e|e
 ·refine U (D.one (.inl e)) λbt x1 x2=>?_;exact .inl ⟨bt,x1,x2.length⟩
 ·refine U (D.one (.inr e)) λbt x1 x2=>?_;exact .inl ⟨bt,x1,x2.length⟩
 ·refine U (D.two (.inr e)) λbt x1 x2=>?_;exact .inr (.inl (al bt x1 (x2.length)))
 ·refine U (D.three (.inr e)) λbt x1 x2=>?_;exact .inr (.inr (al bt x1 (x2.length)))
theorem oM{x:Option Value}(h:match o with|some v=>∃u,x=some u/\VR W κ v u|none=>x=none)(hd:VR W κ d du):VR W κ (o.getD d) (x.getD du):=by
 cases o with
 |some v=>(refine U h λu q2 hv=>?_;clear h;subst q2);exact hv
 |none=>subst h;exact hd
theorem KT.got(hR:RT kk kT)(x2:KT (VR W κ) es xs)(hd:VR W κ d du):VR W κ ((aO kk es).getD d) (((atKey xs kT).map (·.2)).getD du):=by
 have e:=KT.look hR x2;refine dJ (aO kk es) (λhq=>?_) λv hq=>?_
 ·rw[hq];rw[hq]at e;rw[e];exact hd
 ·rw[hq];rw[hq]at e;refine U e λu e hv=>?_;rw[e];exact hv
theorem BY(hu:n+16<cLine):n+1+8<cLine:=YJ (by rw[Y0];exact Yx ak _) hu
theorem xD(hu:C.A.units+16<cLine)(h:M.getD q kk d σ=some (res,σ'))(hq:VR W κ q a)(hk:VR W κ kk ku)(hd:VR W κ d du)(R:bA W C κ σ s)(k:bF W C (λκ=>VR W κ) Q E res κ σ'):(wpAny (model W.prog W.w) C.A (call (.builtin "dict.get") [a,ku,du]) Q E s)/\(du= .none->wpAny (model W.prog W.w) C.A (call (.builtin "dict.get") [a,ku]) Q E s):=by
 refine hg λcg kg=>?_;(refine cZ (nD h) λt i o q4 ho g=>?_;subst q4)
 (refine bS (Hu g) λkd es q3 g=>?_;subst q3)
 obtain⟨hb,g⟩:=cQ g;obtain⟨rfl,rfl⟩:=ao g
 (refine U (hq.obj) λp q2 h1=>?_;subst q2)
 refine bj (id R) λm aw frs r=>?_;refine a8 (pF r ho h1 hb hk) λob hm D ka=>?_;refine kg ?_;have rk:=X6 frs hm;cases ka with
 |str l tt bt e1 e2 x1 x2=>
  subst e1 e2;have e:=oM (KV.look (K:=Str) (λa b=>RS.iff a b) (al l rfl rfl) x2) hd;exact⟨kdg_get2 r.N rk x1 D.low (Zt _ _ _ _) _ rfl (k.done e R.toks),λq=>kdg_get1 r.N rk x1 D.low (Zt _ _ _ _) _ rfl (k.done (q ▸ e) R.toks)⟩
 |int l tt bt e1 e2 x1 x2=>
  subst e1 e2;have e:=oM (KV.look (K:=Int) (λa b=>RI.iff a b) (show RI (.int l) l from rfl) x2) hd;exact⟨kdg_get2 r.N rk x1 D.low (Y5 _ _ _ _) _ rfl (k.done e R.toks),λq=>kdg_get1 r.N rk x1 D.low (Y5 _ _ _ _) _ rfl (k.done (q ▸ e) R.toks)⟩
 |tup bb kT xs hR e2 x0 x1 x2=>
  subst e2
  exact⟨call_meetsIn F.slot_dict_get x1.typeIs F.entry_dict_get (F.args_dict_get_3 _ _ _) (meetsH_dict_get_default (fc W.prog W.w) p bb D.low du) ⟨BY hu,kT,xs,x0,x1,k.done (KT.got hR x2 hd) R.toks⟩,
   λq=>call_meetsIn F.slot_dict_get x1.typeIs F.entry_dict_get (F.args_dict_get_2 _ _) (meetsH_dict_get (fc W.prog W.w) p bb D.low) ⟨BY hu,kT,xs,x0,x1,k.done (q ▸ (KT.got hR x2 hd)) R.toks⟩⟩
def Ck(W:SW)(fa:Nat->Option Addr)(x:Nat):Prop:=∀c f Ca,W.cls c=some Ca->W.P.meth c x=some f->
 ∃a,fa f=some a/\plainGet W.K Ca (W.nm x)=true/\findIn W.K (.ref Ca) (W.nm x)=some (some (.ref a))/\isFn W.K (.ref a)=true/\keepIn W.K (.ref a)=true
structure xR(W:SW):Prop where
 app:W.nm gc="append"
 pop:W.nm Av="pop"
 get:W.nm Aw="get"
inductive ki(W:SW)(σ:St)(x t i:Nat):GW->Prop
 |own (c:Nat) (fs:List (Nat×V)) (f:Nat):nth (σ.heap t) i=some (.inst c fs)->aN x fs=none->W.P.isExc c=false->W.P.meth c x=some f->ki W σ x t i (.own f)
 |app (vs:List V):nth (σ.heap t) i=some (.list vs)->x=gc->ki W σ x t i .app
 |pop (vs:List V):nth (σ.heap t) i=some (.list vs)->x=Av->ki W σ x t i .pop
 |get (kd:Nat) (es:List (V×V)):nth (σ.heap t) i=some (.dict kd es)->x=Aw->kd<4->ki W σ x t i .get
theorem JD(h:M.recv W.P q x σ=some r):∃t i mt,q= .obj t i/\ki W σ x t i mt/\r=(.ok mt,σ):=by
 (refine cZ (nD h) λt i o q4 ho g=>?_;subst q4)
 cases o with
 |inst c fs=>
  obtain⟨hl,g⟩:=L5 g;obtain⟨hx,g⟩:=cQ g;refine U (gH g) λf hm g=>?_;exact(iO t i _ rfl (.own c fs f ho hl (iq hx) hm) ((si g).symm))
 |list vs=>
  have g:=g;cases hx:Nat.beq x gc with
  |true=>rw[hx]at g;exact⟨t,i,_,rfl, .app vs ho (Yh hx),(si g).symm⟩
  |false=>
   rw[hx]at g;obtain⟨hy,g⟩:=cQ g;exact(iO t i _ rfl (.pop vs ho (Yh hy)) ((si g).symm))
 |dict kd es=>
  obtain⟨hx,g⟩:=cQ g;exact⟨t,i,_,rfl, .get kd es ho (Yh (an hx).1) (Yg (an hx).2),(si g).symm⟩
 |_=>exact nt g
theorem yY{r:Mine.R V×St}(h:M.bind (M.recv W.P q x) f σ=some r):∃t i mt,q= .obj t i/\ki W σ x t i mt/\f mt σ=some r:=by
 unfold M.bind at h;refine dJ (M.recv W.P q x σ) (λe=>?_) λp e=>?_
 ·rw[e]at h;exact nt h
 ·
  rw[e]at h
  (refine cZ (JD e) λt i mt e1 e2 q6=>?_;subst q6)
  exact(iO t i mt e1 e2 h)
theorem F8(gF:es.all noStar=true)(ef:es.length<30):methodCallForm es.length (backTo pos (starEach es env)) []=true:=by
 unfold methodCallForm;simp only[List.all_nil,Bool.and_true,Ye,zap];refine⟨X7.mpr λy hy=>?_,ef⟩;rw[Bool.eq_false_iff.mpr (List.any_eq_false.mp (gi (pos:=pos) (env:=env) gF) y hy)];rfl
theorem Ki(r:ba W C κ σ s m aw frs)(D:eM W κ kd es p o)(Il:kd<4)(g2:(p,o)∈aw):s.TypeIs (.ref p) "dict"/\o.dict=none:=by
 have hh:=(r.N _ (X6 _ g2)).1;rcases D.keyed Il with⟨bt,x1,_⟩|⟨bt,x1,_⟩|⟨xs,x1,_⟩<;>((refine bS x1 λes ep x _=>?_;clear x1);exact⟨(al _ hh (x.1)),x.2.1⟩)
theorem Kc(ye:ei W fa ih n)(hC:C.Ok (n+1))(hN:xR W)(hM:Ck W fa x)(hb:iW o=true)(hp:(apos.endLine==pos.line)=true)(ef:es.length<30)(gF:es.all noStar=true)(ho:SndE W C o mo)(hs:cw (λe x=>SndE W C e (ih.e x)) es xs):
  SndE W C (.Call (.Attribute o (W.nm x) apos) es [] pos) (M.bind mo λa=>M.bind (M.recv W.P a x) λmt=>M.bind (kK ih xs) λvs=>M.meth ih mt a vs):=by
 intro κ σ res σ' h s Q E R k;refine call_meth hb (F8 gF ef) hp ?_;refine bV.bind (ho κ σ) h R k λam ai q a aE le hq ar ap k₁=>?_
 (refine cZ (yY ap) λt i mt q4 A EH=>?_;subst q4)
 (refine U (hq.obj) λp q2 ww=>?_;subst q2)
 refine bj (id ar) λm aw frs r=>?_;have N:=λx hx=>(r.N x (X6 frs hx)).1;cases A with
 |own c fs f hg hl V5 Wo=>
  refine a9 (r.nr.obj hg) λCc a h0 h2 h3=>?_;obtain rfl:=si (ww.symm.trans h2);refine uT (hM c f Cc h0 Wo) λXa f1 f2 f3 f4 f5=>?_;refine h3.elim (λq=>?_) λq=>?_
  ·obtain⟨_,d,KU,nn,x1,x2,x3,x4⟩:=q;refine method_inst r.F W.X ⟨N _ x2,rfl,rfl,N _ x3⟩ f2 f3 f4 (Dv x4 hl) ?_;refine eT (first:= [.ref p]) f5 gF hs EH ar k₁ λbM bH vs us c9 aY Ek bE aT dQ=>?_;exact zay (ye C hC f Xa f1 bM bH _ _ (show cI W bM (V.obj t i::vs) (.ref p::us) by exact(aZ _ _ rfl (hq.mono aY) Ek)) res σ' aT _ c9 bE dQ)
  ·exact ng (q.1.symm.trans V5)
 |app vs hg hx=>
  subst hx;obtain⟨a',iK,kk,g1,g2,g3⟩:=r.nr.obj hg;obtain rfl:=si (ww.symm.trans g1);rw[hN.app];refine kl_method r.N (X6 _ g2) PySem.F.slot_list_append PySem.F.type_list_append ?_;refine mS (first:= [.ref p]) gF hs EH ar k₁ λbM bH vs us c9 aY Ek bE aT dQ=>?_;cases vs with
  |nil=>exact nt aT
  |cons v vs=>
   obtain⟨e,fq⟩:=cQ aT;obtain rfl:=YF.mp e
   (refine a9 (Ek.cons) λu _ q3 hv hn=>?_;subst q3)
   obtain rfl:=hn.nil;exact zN fq (hq.mono aY) hv bE dQ
 |pop vs hg hx=>
  subst hx;obtain⟨a',iK,kk,g1,g2,g3⟩:=r.nr.obj hg;obtain rfl:=si (ww.symm.trans g1);rw[hN.pop];refine kl_method r.N (X6 _ g2) PySem.F.slot_list_pop PySem.F.type_list_pop ?_;refine mS (first:= [.ref p]) gF hs EH ar k₁ λbM bH vs us c9 aY Ek bE aT dQ=>?_;refine de (cQ aT) λe fq=>?_;obtain rfl:=YF.mp e;obtain rfl:=Ek.nil;exact FG fq (hq.mono aY) bE dQ
 |get kd es' hg hx Il=>
  subst hx;refine a9 (r.nr.obj hg) λa' o' g1 g2 D=>?_;obtain rfl:=si (ww.symm.trans g1)
  (refine(hN.get).symm ▸?_)
  have hD:=Ki r D Il g2;refine getMethod_builtin hD.1 PySem.F.plainAttrs_dict PySem.F.slot_dict_get PySem.F.type_dict_get (λa e=>by cases e;exact(al _ (N _ g2) (hD.2))) ?_;refine mS (first:= [.ref p]) gF hs EH ar k₁ λbM bH vs us c9 aY Ek bE aT dQ=>?_;have hu:=YJ (zak (Ym C.A.units _) (by decide:16<=128)) hC.units;cases vs with
  |nil=>exact nt aT
  |cons v vs=>
   (refine a9 (Ek.cons) λu _ q3 hv hn=>?_;subst q3)
   cases vs with
   |nil=>
    obtain rfl:=hn.nil;exact(xD hu aT (hq.mono aY) hv j3 bE dQ).2 rfl
   |cons d vs=>
    obtain⟨e,fq⟩:=cQ aT;obtain rfl:=YF.mp e;obtain⟨w,_,rfl,hd,hn⟩:=hn.cons;obtain rfl:=hn.nil;exact(xD hu fq (hq.mono aY) hv hd bE dQ).1
end
end Mine
end
section
namespace Mine
open PySem PySem.W PyProof.Rows PySem.Calls PySem.Builtin.Str
section
variable{W:SW}{C:Cx}{κ:Kn}{σ:St}{s:Shared}
theorem qc(h:Nat.ble n ay=true):n<=1000:=Yg h
theorem JS(h:M.len q σ=some (res,σ'))(hq:VR W κ q a)(R:bA W C κ σ s)(k:bF W C (λκ=>VR W κ) Q E res κ σ'):wpAny (model W.prog W.w) C.A (call (.builtin "len") [a]) Q E s:=by
 cases q with
 |tup vs=>
  obtain⟨hl,g⟩:=cQ h
  (refine de (ao g) λq1 q2=>?_;subst q1;subst q2)
  (refine a9 (hq.tup) λp xs q3 h1 h2=>?_;subst q3)
  have e:xs.toArray.size=vs.length:=h2.length.symm;exact PyProof.Rows.len_tuple (R.isTup h1) (by rw[e];exact(dj (qc hl)).2) (by rw[e];exact k.done (eJ _ _) R.toks.toks)
 |obj t i=>
  refine hg λcg kg=>?_;refine U (iV h) λo ho g=>?_
  (refine U (l5 g) λvs q2 g=>?_;subst q2)
  obtain⟨hl,g⟩:=cQ g
  (refine de (ao g) λq1 q2=>?_;subst q1;subst q2)
  (refine U (hq.obj) λp q2 h1=>?_;subst q2)
  refine bj (id R) λm aw frs r=>?_;refine cZ (r.nr.obj ho) λa' iK kk g1 g2 g3=>?_;obtain rfl:=si (h1.symm.trans g1);refine kg ?_;have e:iK.toArray.size=vs.length:=g3.length.symm;exact call_len_list (⟨_,(r.N _ (X6 _ g2)).1,rfl,_,rfl⟩) (by rw[e];exact(dj (qc hl)).2) (by rw[e];exact k.done (eJ _ _) R.toks.toks)
 |_=>exact nt h
theorem NU(hk:C.scope.kind= .function)(hl:C.scope.names.lookup ("len":Str)=some .globalImplicit)(hn:nsIn W.K mainGlobals ("len":Str)=some none)(gF:noStar e=true)(he:SndE W C e mx):
  SndE W C (.Call (.Name "len" np) [e] [] pos) (M.bind mx λv=>M.len v):=by
 intro κ σ res σ' h s Q E R k;refine ZZ ?_;refine bj (id R) λm aw frs r=>?_;refine name_B r.F W.X W.T hn (by rfl) ak ?_ hk hl ak
 (refine((hG (rest:= []) gF)).symm ▸?_)
 refine callWith_builtin1 ?_;refine bV.bind (he κ σ) h R k λam ai v a aE le hv ar ap k₁=>?_;exact JS ap hv ar k₁
theorem FH(h:rQ l=some v):l= [v]:=by
 cases l with
 |nil=>exact nt h
 |cons a r=>
  obtain⟨e,g⟩:=bY h;rw[si g,YF.mp e]
theorem JC(h:M.rep t x y σ=some (res,σ'))(hx:VR W κ x a)(hy:VR W κ y b)(R:bA W C κ σ s)(k:bF W C (λκ=>VR W κ) Q E res κ σ'):wpAny (model W.prog W.w) C.A (binaryOp .Mult a b) Q E s:=by
 (refine U (AY h) λn q2 g=>?_;subst q2)
 refine U (gH g) λn' hn g=>?_
 (refine bj (nD g) λt' i o q=>?_;obtain⟨rfl,ho,g⟩:=q)
 (refine U (l5 g) λvs q2 g=>?_;subst q2)
 refine U (gH g) λv hv g=>?_;obtain rfl:=FH hv;obtain⟨hb,g⟩:=cQ g;obtain⟨rfl,rfl⟩:=ik g
 (refine U (hx.obj) λp q2 g0=>?_;subst q2)
 refine bj (id R) λm aw frs r=>?_;refine cZ (r.nr.obj ho) λa' iK kk g1 g2 g3=>?_;obtain rfl:=si (g0.symm.trans g1)
 (refine a9 (g3.cons) λu _ q3 hv h0=>?_;subst q3)
 obtain rfl:=h0.nil;obtain⟨rfl,rt⟩:=io hn;obtain⟨tt,rfl⟩:=hy.int;refine mul_list r.F r.N (r.N _ (X6 _ g2)).1 ql (dj rt).2 (by rw[Int.toNat_natCast];show 1*n'<=_;rw[Nat.one_mul];exact Yc rt ak) λh' F' N'=>?_;rw[listMul_foldl_if]at N'
 rw[(show(List.replicate ((n':Int)).toNat ([u].toArray).toList).flatten=List.replicate n' u from by
  rw[Int.toNat_natCast];exact List.flatten_replicate_singleton)]at N'
 obtain⟨ya,r'⟩:=r.new (t:=t) (mo:= .list (List.replicate n' v)) (s':={s with heap:=h'}) F' N' (gM r) (iO _ (List.replicate n' u) (0) (Kn.add_self) (.head _) ((cI.replicate hv n').mono (Kn.le_add (r.offEnd t false)))) rfl rfl;exact k _ _ ya _ (by exact(al _ rfl (Kn.add_self))) (b7 m _ frs r')
theorem NN(hl:SndE W C l ml)(hr:SndE W C r mr):
  SndE W C (.BinOp l .Mult r pos) (M.bind ml λx=>M.bind mr λy=>M.rep t x y):=by
 intro κ σ res σ' h s Q E R k;refine wpAny_BinOp ?_;refine bV.bind (hl κ σ) h R k λam ai x a aE le hx ar ap k₁=>?_;refine bV.bind (hr am ai) ap ar k₁ λbM bH y b c9 aY hy bE aT dQ=>?_;exact JC aT (hx.mono aY) hy bE dQ
theorem bA.push(R:bA W C κ σ s):bA W C κ σ {s with heap:=s.heap.push o}:=by
 (refine bj R λm aw frs r=>?_;clear R)
 exact(b7 m aw frs ⟨r.F.push o,r.N.grown λ_ _ e=>Y6 _ e,r.nd,r.frs,r.nr,r.env,r.gens,r.os⟩)
def wW(W:SW)(C:Cx)(ih:Ih):Option Expr->Option Ex->Prop
 |none,none=>True
 |some e,some x=>SndE W C e (ih.e x)
 |_,_=>False
theorem B3(h:wW W C ih e x):∀κ σ,bV W C κ σ (evalPart e C.env) (GQ ih x σ) (λκ=>VR W κ):=by
 intro κ σ;cases e with
 |none=>
  cases x with
  |some _=>exact h.elim
  |none=>
   intro res σ' hr s Q E R k;obtain⟨rfl,rfl⟩:=ao hr;exact wpAny_evalPart_none (k.done j3 R)
 |some e=>
  cases x with
  |none=>exact h.elim
  |some x=>exact h κ σ
def xX:Option Nat->Option Int
 |none=>none
 |some n=>some (Int.ofNat n)
theorem kf(h:Pe v=some o)(hv:VR W κ v a):(∃t,a=match o with|none=> .none|some n=> .int (n:Int) t)/\IsPart a (xX o):=by
 cases v with
 |none=>obtain rfl:=si h;(refine(hv.none).symm ▸?_);exact⟨⟨0,rfl⟩, .none⟩
 |int i=>
  (refine U (om h) λn hn q3=>?_;subst q3)
  obtain⟨rfl,rt⟩:=io hn;obtain⟨t,rfl⟩:=hv.int;exact⟨⟨t,rfl⟩, .int _ _⟩
 |_=>exact nt h
theorem cI.cutL{lo hi:Option Nat}(h:cI W κ vs xs):cI W κ (Mine.cutL lo hi vs) (Mine.cutL lo hi xs):=by
 cases hi with
 |none=>cases lo with
  |none=>exact h
  |some d=>exact h.drop d
 |some b=>cases lo with
  |none=>exact h.take b
  |some d=>exact(h.take b).drop d
theorem CX(lo hi:Option Nat)(l:List Value):kms_pick l (xX lo) (xX hi)=Mine.cutL lo hi l:=by
 have h1:∀n:Nat,¬(Int.ofNat n<0):=λn=>by simp
 have h0:∀n:Nat,(Int.ofNat n).toNat=n:=λn=>rfl;cases lo with
 |none=>
  cases hi with
  |none=>simp[kms_pick,kms_lo,kms_hi,Mine.cutL,xX]
  |some b=>simp only[kms_pick,kms_lo,kms_hi,Mine.cutL,xX,YM (h1 b),h0,List.drop_zero,Nat.sub_zero,kmk_take_min]
 |some a=>
  cases hi with
  |none=>
   simp only[kms_pick,kms_lo,kms_hi,Mine.cutL,xX,YM (h1 a),h0,kmk_drop_min];rw[Z0];rw[List.length_drop];exact Nat.sub_le_sub_left (Nat.min_le_left ..) _
  |some b=>
   simp only[kms_pick,kms_lo,kms_hi,Mine.cutL,xX,YM (h1 a),YM (h1 b),h0,kmk_drop_min];rw[List.drop_take];by_cases hb:b<=l.length
   ·by_cases ha:a<=l.length
    ·rw[zaI hb,zaI ha]
    ·rw[zaI hb,Nat.min_eq_right (Z6 ha)];rw[(Nat.sub_eq_zero_of_le hb),(Nat.sub_eq_zero_of_le (Yc hb (Z6 ha)))]
   ·rw[Nat.min_eq_right (Z6 hb)];by_cases ha:a<=l.length
    ·rw[zaI ha];rw[Z0 (by rw[List.length_drop];exact Yv _),Z0 (by rw[List.length_drop];exact Nat.sub_le_sub_right (Z6 hb) a)]
    ·rw[List.drop_of_length_le (Z6 ha)];simp
theorem uh(b n:Nat)(hb:b<=n):Builtin.Slice.sliceAdjust none (some (b:Int)) 1 (n:Int)=(0,(b:Int)):=by
 show(0,if (b:Int)<0 then max ((b:Int)+n) 0 else min (b:Int) n)=_;rw[YM (zaT.mpr (Zb b)),Int.min_eq_left (Y3.mpr hb)]
theorem tv(b:Nat):Builtin.Slice.slicePlaces 0 (b:Int) 1=b:=by
 unfold Builtin.Slice.slicePlaces;simp only[(show(1:Int)>0 from ak),if_true,Int.ediv_one];split
 ·rw[Int.sub_zero,Int.sub_add_cancel];rfl
 ·rename_i q;exact(Nat.eq_zero_of_not_pos λh=>q (zaF.mpr h)).symm
theorem jV{b n:Nat}(hs:s.heap.IsSliceOf sl .none (.int b u) .none)(hb:b<=n)(h:Q (0,1,b) s):
  wpAny (model prog w) A (Builtin.Slice.sliceApplied (.ref sl) (pure (n:Int))) Q E s:=by
 refine a8 (id hs) λos yd Ts KL=>?_;refine Yb (Yb (zaa yd KL (x:= .none) rfl (Yb (zaa yd KL (x:= .int b u) rfl (Yb (zaa yd KL (x:= .none) rfl (Yp ?_)))))));refine Yb (slicePart_none ?_);rw[YM ak];refine Yb (slicePart_none (Yb (slicePart_int (Yb (Yp ?_)))));show wpAny _ _ (match Builtin.Slice.sliceAdjust none (some (b:Int)) 1 (n:Int)with|(lo,hi)=>pure (lo,(1:Int),Builtin.Slice.slicePlaces lo hi 1)) _ _ s;rw[uh b n hb];show wpAny _ _ (pure ((0:Int),(1:Int),Builtin.Slice.slicePlaces (0:Int) (b:Int) 1)) _ _ s
 (refine(tv b).symm ▸?_)
 exact Yp h
theorem y0(xs:Array Value)(b:Nat):((List.range b).filterMap λ(k:Nat)=>xs[((0:Int)+(k:Int)*1).toNat]?).toArray=(xs.toList.take b).toArray:=by
 rw[(show(λ(k:Nat)=>xs[((0:Int)+(k:Int)*1).toNat]?)=λk=>xs[0+k]? from by
  funext k;have:((0:Int)+(k:Int)*1).toNat=0+k:=YU _ _;rw[this])]
 have:=pick_run xs 0 b;rw[List.filterMap_map]at this;rw[(show((λx=>xs[x]?)∘λx=>0+x)=λk=>xs[0+k]? from rfl)]at this;rw[this,List.drop_zero]
theorem jc{t sl:Addr}{b:Nat}(ht:IsTup s.heap t dy)(hs:s.heap.IsSliceOf sl .none (.int b u) .none)(hb:b<dy.size)(h:Q (.ref s.heap.objs.size) {s with heap:=s.heap.push {cls:= .type "tuple",data:= .seq (dy.toList.take b).toArray}})(hsz:dy.size<=sizeLine):wpAny (model prog w) A (getItem (.ref t) (.ref sl)) Q E s:=by
 have wM:=by
  show(dy.toList.take b).toArray.size<=sizeLine;rw[List.size_toArray,List.length_take,Array.length_toList];exact Yc (Nat.min_le_right ..) hsz
 refine a8 (id hs) λos yd Ts KL=>?_;unfold getItem
 try with_reducible refine YZ ?_
 first|refine Yb (Yp ?_)|skip
 refine Yb (wpAny_sequenceKey ht.typeIs ak ?_)
 refine Yb (wpAny_callSpecial?_slot (name:=Str.ofString "__getitem__") ht.typeIs zah
  (wpAny_call_entry zah ht.typeIs entry_tuple_getitem ?_ (args_tuple_getitem _ _)))
 show wpAny _ _ (Builtin.Tuple.tupleItemsOf (.ref t)>>=_) _ _ s;refine Yb (tupleItemsOf_ ht ?_);refine Yb (wpAny_typeOf ((al os yd Ts)) ?_);rw[Ze ak];refine Yb (jV hs (Zv hb) ?_);show wpAny _ _ (if ((0:Int)==0&&(1:Int)==1&&b==dy.size)=true then _ else _) _ _ s
 rw[YM (by
  rw[(show(b==dy.size)=false from by rw[Zz];exact Zm ‹_›)];simp),y0 dy b]
 first
  |exact Yb (m:=Builtin.Tuple.tupleExact _) (ZY (Yp ⟨_,rfl,Yp h⟩) wM)
  |exact Yb (m:=Builtin.Tuple.tupleExact _) (ZY (Yb (Yp (Yp ⟨_,rfl,Yp h⟩))) wM)
  |exact Yb (Yb (m:=Builtin.Tuple.tupleExact _) (ZY (Yp (Yp ⟨_,rfl,Yp h⟩)) wM))
  |exact Yb (Yb (m:=Builtin.Tuple.tupleExact _) (ZY (Yp ⟨_,rfl,Yp h⟩) wM))
theorem kP{lo hi:Option Nat}(h:jq lo hi n=true):n<=1000/\((∃a,lo=some a/\hi=none/\1<=a/\a<=n)\/(∃b,lo=none/\hi=some b/\b<n)):=by
 refine⟨qc (an h).1,?_⟩;cases lo with
 |some a=>
  exact .inl (AK a rfl (ZL.mp (an ((an h).2)).1) (Yg (an (an ((an h).2)).2).1) (Yg (an (an ((an h).2)).2).2))
 |none=>
  cases hi with
  |none=>exact nf ((an h).2)
  |some b=>exact .inr (aM b rfl rfl (Yg ((an h).2)))
theorem Cz(l:List Nat)(a:Nat)(h1:1<=a)(ha:a<=l.length):Txt.slice ⟨l.toArray⟩ (some (a:Int)) none=⟨(l.drop a).toArray⟩:=by
 unfold Txt.slice
 (refine((show(⟨l.toArray⟩:Str).length=l.length from by rfl)).symm ▸?_;refine((show strSliceIndices (some (a:Int)) none 1 l.length=(List.range (l.length - a)).map (a+·)from by
  (refine(sliceRange_one a l.length) ▸?_)
  unfold strSliceIndices;have h2:¬((a:Int)<0):=zaT.mpr (Zb a);simp only[h2,if_false];congr 1;show max 0 (min (a:Int) l.length)=a;rw[Int.min_eq_left (Y3.mpr ha)];exact Int.max_eq_right (Zb a))).symm ▸?_)
 rw[YM (by
  rw[(show(((List.range (l.length - a)).map (a+·)).length==l.length)=false from by
   rw[Zz,YO,List.length_range];exact Zm (Nat.sub_lt (Yr h1 ha) h1))];simp),pick_run l.toArray a]
 congr 2;exact Z0 (by simp)
theorem Cy(l:List Nat)(b:Nat)(hb:b<l.length):Txt.slice ⟨l.toArray⟩ none (some (b:Int))=⟨(l.take b).toArray⟩:=by
 unfold Txt.slice
 (refine((show(⟨l.toArray⟩:Str).length=l.length from by rfl)).symm ▸?_;refine((show strSliceIndices none (some (b:Int)) 1 l.length=(List.range (b - 0)).map (0+·)from by
  (refine(sliceRange_one 0 b) ▸?_)
  unfold strSliceIndices;have h2:¬((b:Int)<0):=zaT.mpr (Zb b);simp only[h2,if_false];congr 1;show max 0 (min (b:Int) l.length)=b;rw[Int.min_eq_left (Y3.mpr (Zv hb))];exact Int.max_eq_right (Zb b))).symm ▸?_)
 rw[YM (by
  rw[(show(((List.range (b - 0)).map (0+·)).length==l.length)=false from by
   rw[Zz,YO,List.length_range];exact Zm ‹_›)];simp),pick_run l.toArray 0]
 rfl
def uH(vl vu:Value):Obj:={cls:= .type "slice",data:= .fields #[vl,vu, .none]}
theorem yP{lo hi:Option Nat}{sp:Pos}(hc:jq lo hi vs.length=true)(hx:VR W κ (.tup vs) a)(e1:∃t,vl=match lo with|none=> .none|some n=> .int (n:Int) t)(e2:∃t,vu=match hi with|none=> .none|some n=> .int (n:Int) t)(R:bA W C κ σ s)(k:bF W C (λκ=>VR W κ) Q E (.ok (.tup (Mine.cutL lo hi vs))) κ σ):wpAny (model W.prog W.w) C.A (subscriptTail ve (.Slice lower upper none sp) a (.ref s.heap.objs.size)) Q E {s with heap:=s.heap.push (uH vl vu)}:=by
 refine de (kP hc) λhn Bh=>?_
 (refine a9 (hx.tup) λp xs q3 h1 h2=>?_;subst q3)
 have el:xs.toArray.size=vs.length:=h2.length.symm
 let z0:=uH vl vu
 refine bj (id (show bA W C κ σ {s with heap:=s.heap.push z0}from R.push)) λm aw frs r=>?_
 have Mk:=(show∀(ys:List Value),cI W κ (Mine.cutL lo hi vs) ys->Q (.ref (s.heap.push z0).objs.size) {s with heap:=(s.heap.push z0).push {cls:= .type "tuple",data:= .seq ys.toArray}}from by
  intro ys V4;refine de (r.newTup (vs:=ys) (s':={s with heap:=(s.heap.push z0).push {cls:= .type "tuple",data:= .seq ys.toArray}}) (r.F.push _) (r.N.push r.F _) (gM r) ⟨rfl,rfl,_,rfl⟩ rfl rfl) λle r'=>?_;exact k _ _ le _ (by exact(aZ _ ys rfl (Ze rfl) (V4.mono le))) (b7 m _ frs r')) _ (h2.cutL (lo:=lo) (hi:=hi))
 have T1:=(show bA W C κ σ {s with heap:=s.heap.push z0}from R.push).isTup h1;obtain⟨t1,rfl⟩:=e1;obtain⟨t2,rfl⟩:=e2;rcases Bh with⟨n,rfl,rfl,g1,g2⟩|⟨n,rfl,rfl,g1⟩
 ·exact zau T1.typeIs zah.lookup (getItem_tuple_from T1 (zaV ..) g1 (by rw[el];exact g2) Mk (by rw[el];exact Yc hn ak)) rfl
 ·exact zau T1.typeIs zah.lookup (jc T1 (zaV ..) (by rw[el];exact g1) Mk (by rw[el];exact Yc hn ak)) rfl
theorem yQ{lo hi:Option Nat}{sp:Pos}(hc:jq lo hi cs.length=true)(hx:VR W κ (.str cs) a)(e1:∃t,vl=match lo with|none=> .none|some n=> .int (n:Int) t)(e2:∃t,vu=match hi with|none=> .none|some n=> .int (n:Int) t)(R:bA W C κ σ s)(k:bF W C (λκ=>VR W κ) Q E (.ok (.str (Mine.cutL lo hi cs))) κ σ):wpAny (model W.prog W.w) C.A (subscriptTail ve (.Slice lower upper none sp) a (.ref s.heap.objs.size)) Q E {s with heap:=s.heap.push (uH vl vu)}:=by
 refine de (kP hc) λhn Bh=>?_;obtain⟨tt,rfl⟩:=hx.str;obtain⟨t1,rfl⟩:=e1;obtain⟨t2,rfl⟩:=e2;rcases Bh with⟨n,rfl,rfl,g1,g2⟩|⟨n,rfl,rfl,g1⟩
 ·refine zau (typeIs_str _ _ _) zar.lookup (wpAny_getItem_str_slice (l:=some (_,_)) (u:=none) (st:=none) (aM _ (ZO _ rfl) rfl rfl) rfl
   (post_val_or_str (Q:=Q) ⟨Yc (Txt.slice_le _ (some (n:Int)) none) (Yc hn ak),λt' kk=>?_⟩)) rfl
  show Q (.str (Txt.slice ⟨cs.toArray⟩ (some (n:Int)) none) t') _;rw[Cz cs n g1 g2];exact k.done (wz _ _) ((λn=>R.push.toks) kk)
 ·refine zau (typeIs_str _ _ _) zar.lookup (wpAny_getItem_str_slice (l:=none) (u:=some (_,_)) (st:=none) (aM _ (ZO _ rfl) rfl rfl) rfl
   (post_val_or_str (Q:=Q) ⟨Yc (Txt.slice_le _ none (some (n:Int))) (Yc hn ak),λt' kk=>?_⟩)) rfl
  show Q (.str (Txt.slice ⟨cs.toArray⟩ none (some (n:Int))) t') _;rw[Cy cs n g1];exact k.done (wz _ _) ((λn=>R.push.toks) kk)
theorem yR{lo hi:Option Nat}{sp:Pos}(ho:nth (σ.heap t') i=some (.list vs))(hb:Nat.ble vs.length ay=true)(hx:VR W κ (.obj t' i) a)(p1:IsPart vl (xX lo))(p2:IsPart vu (xX hi))(R:bA W C κ σ s)(k:bF W C (λκ=>VR W κ) Q E (.ok (.obj t (σ.heap t).length)) κ (σ.add t (.list (Mine.cutL lo hi vs)))):wpAny (model W.prog W.w) C.A (subscriptTail ve (.Slice lower upper none sp) a (.ref s.heap.objs.size)) Q E {s with heap:=s.heap.push (uH vl vu)}:=by
 (refine U (hx.obj) λp q2 h1=>?_;subst q2)
 refine bj (id (R.push (o:=uH vl vu))) λm aw frs r=>?_;refine cZ (r.nr.obj ho) λa' iK kk g1 g2 g3=>?_;obtain rfl:=si (h1.symm.trans g1);refine zau (Heap.IsList.typeIs (s:={s with heap:=s.heap.push (uH vl vu)}) (⟨_,(r.N _ (X6 _ g2)).1,rfl,_,rfl⟩)) list_getitem_lookup (wpAny_getItem_list_slice (⟨_,(r.N _ (X6 _ g2)).1,rfl,_,rfl⟩) (zaV ..) p1 p2 .none nofun ?_ (by show iK.length<=sizeLine;(refine(g3.length) ▸?_);exact gf hb)) rfl;have F':=r.F.push {cls:= .type "list",data:= .seq (slicePick iK.toArray (xX lo) (xX hi) none)};have N':=r.N.push r.F {cls:= .type "list",data:= .seq (slicePick iK.toArray (xX lo) (xX hi) none)};rw[kms_pick_eq,CX]at F' N'⊢;refine de (r.new (t:=t) (mo:= .list (Mine.cutL lo hi vs)) (s':={s with heap:=_}) F' N' (gM r) (iO _ _ (0) (Kn.add_self) (.head _) ((g3.cutL (lo:=lo) (hi:=hi)).mono (Kn.le_add (r.offEnd t false)))) rfl rfl) λya r'=>?_;exact k _ _ ya _ (by exact(al _ rfl (Kn.add_self))) (b7 m _ frs r')
theorem CF{sp:Pos}(hs:M.slice t x l h σ=some (res,σ'))(hx:VR W κ x a)(hl:VR W κ l vl)(hh:VR W κ h vu)(R:bA W C κ σ s)(k:bF W C (λκ=>VR W κ) Q E res κ σ'):wpAny (model W.prog W.w) C.A (subscriptTail ve (.Slice lower upper none sp) a (.ref s.heap.objs.size)) Q E {s with heap:=s.heap.push (uH vl vu)}:=by
 refine U (gH hs) λlo Lo g=>?_;refine U (gH g) λhi Qd g=>?_;cases x with
 |tup vs=>
  obtain⟨hc,g⟩:=cQ g;obtain⟨rfl,rfl⟩:=ao g;exact yP hc hx (kf Lo hl).1 (kf Qd hh).1 R k
 |str cs=>
  obtain⟨hc,g⟩:=cQ g;obtain⟨rfl,rfl⟩:=ao g;exact yQ hc hx (kf Lo hl).1 (kf Qd hh).1 R k
 |obj t' i=>
  refine hg λcg kg=>?_;refine U (iV g) λo ho g=>?_
  (refine U (l5 g) λvs q2 g=>?_;subst q2)
  obtain⟨hb,g⟩:=cQ g;obtain⟨rfl,rfl⟩:=ik g;refine kg ?_;exact yR ho hb hx (kf Lo hl).2 (kf Qd hh).2 R k
 |_=>exact nt g
theorem Gg{lo hi:Option Expr}{sp pos:Pos}(he:SndE W C e mx)(hl:wW W C ih lo xlo)(hh:wW W C ih hi xhi):
  SndE W C (.Subscript e (.Slice lo hi none sp) pos) (M.bind mx λx=>M.bind (GQ ih xlo) λl=>M.bind (GQ ih xhi) λh=>M.slice t x l h):=by
 intro κ σ res σ' h s Q E R k;refine Subscript_ ?_;refine bV.bind (he κ σ) h R k λam ai x a aE le hx ar ap k₁=>?_;refine wpAny_Slice ?_;refine bV.bind (B3 hl am ai) ap ar k₁ λbM bH l vl c9 aY V9 bE aT dQ=>?_;refine bV.bind (B3 hh bM bH) aT bE dQ λjj n9 u vu pb dw Ik lc fq uM=>?_;refine wpAny_evalPart_none ?_;exact CF fq ((hx.mono aY).mono dw) (V9.mono dw) Ik lc uM
end
end Mine
end
section
namespace Mine
open PySem PySem.W PyProof.Rows PySem.Calls
def dict0:Obj:={cls:= .type "dict",data:= .dict #[]}
section
variable{W:SW}{C:Cx}{κ:Kn}{σ:St}{s:Shared}
theorem qk(h:Heap){K:Type} [DecidableEq K](knd:KeyKind W.prog W.w K):Mine.dict0.IsDictOf knd []:=by
 refine U (ZQ.mp (Heap.DictOf.new (knd:=knd) h)) λo ho hd=>?_;rw[ZO _ rfl]at ho
 (refine((show Mine.dict0=o from Yi ho)).symm ▸?_);exact hd
theorem Kj(h:(a==sysModules)=false):eM W κ 0 [] a Mine.dict0 where
 low:=h
 zero:=λ_=>rfl
 one:=λ_=>(al ([]) (qk W.base (PySem.strKind W.prog W.w)) rfl)
 two:=λ_=>(al ([]) (qk W.base (PySem.intKind W.prog W.w)) rfl)
 three:=λ_=>(al ([]) ((cj (#[]) _ (gA rfl rfl rfl) rfl rfl (.nil))) rfl)
theorem ba.dict0{aw frs:List (Addr×Obj)}(r:ba W C κ σ s m aw frs)(t:Nat):
  κ.Le (κ.add t (σ.heap t).length false s.heap.objs.size)/\ba W C (κ.add t (σ.heap t).length false s.heap.objs.size) (σ.add t (.dict 0 [])) {s with heap:=s.heap.push Mine.dict0} m ((s.heap.objs.size,Mine.dict0)::aw) frs:=by
 exact r.new (t:=t) (mo:= .dict 0 []) (s':={s with heap:=s.heap.push Mine.dict0}) (r.F.push Mine.dict0) (r.N.push r.F Mine.dict0) (gM r)
  (aZ _ _ (Kn.add_self) (.head _) (Kj (r.F.notModules (modules_low W.lim)))) rfl rfl
def K3(W:SW)(κ:Kn):List (V×V)->List (Value×Value)->Prop
 | [],l=>l= []
 |p::ps,l=>∃q r,l=q::r/\VR W κ p.1 q.1/\VR W κ p.2 q.2/\K3 W κ ps r
theorem wj:∀{ks:List (Option Expr)} {vs:List Expr} {xv:List Ex},cw (λ(e:Option Expr) x=>∃e',e=some e'/\SndE W C e' (ih.e x)) ks xk->cw (λe x=>SndE W C e (ih.e x)) vs xv->ks.length=vs.length->
  ∀κ σ,bV W C κ σ (evalPairs (pairTrees ks vs C.env pos)) (dN ih xk xv σ) (λκ=>K3 W κ):=by
 induction xk with
 |nil=>
  intro ks vs xv h1 _ hl κ σ res σ' hr s Q E R k;cases ks with
  |cons _ _=>exact h1.elim
  |nil=>
   cases vs with
   |cons _ _=>exact nomatch hl
   |nil=>
    obtain⟨rfl,rfl⟩:=ao hr;exact evalPairs_nil (k.done rfl R)
 |cons x xk i=>
  intro ks vs xv h1 h2 hl κ σ res σ' hr s Q E R k;cases ks with
  |nil=>exact h1.elim
  |cons ko ks=>
   cases vs with
   |nil=>exact nomatch hl
   |cons v vs=>
    cases xv with
    |nil=>exact h2.elim
    |cons y xv=>
     obtain⟨⟨e',rfl,h0⟩,h1⟩:=h1;refine evalPairs_cons ?_;refine bV.bind (h0 κ σ) hr R k λam ai a av aE le ha ar Be k₁=>?_;refine Yb ?_;refine bV.bind (h2.1 am ai) Be ar k₁ λbM bH b bv c9 aY hb bE Bd dQ=>?_;refine Yb (Zg (Yp ?_));refine bV.bind (i h1 h2.2 (zag hl) bM bH) Bd bE dQ λjj n9 ps qs pb dw P5 lc Nu uM=>?_;obtain⟨rfl,rfl⟩:=ao Nu;exact uM.done (cj _ _ rfl ((ha.mono aY).mono dw) (hb.mono dw) P5) lc
theorem m0(h:(aO k ps).isNone=true):∀p∈ps,p.1≠k:=by
 induction ps with
 |nil=>intro p hp;exact nomatch hp
 |cons q r i=>
  intro p hp;rw[PU]at h;refine cY (q.1.beq k) (λhb=>?_) λhb=>?_
  ·rw[hb]at h;exact nf h
  ·
   rw[hb]at h;rcases X9.mp hp with rfl|hp
   ·exactλe=>nf (hb.symm.trans (V.beq_iff.mpr e))
   ·exact i h p hp
theorem KV.mem{K:Type}{R:V->K->Prop}:∀{bt:List (K×Value)},KV R S ps bt->∀x∈bt,∃p∈ps,R p.1 x.1:=by
 induction ps with
 |nil=>intro bt h x hx;subst h;exact nomatch hx
 |cons p ps ih=>
  intro bt h x hx
  (refine cT h λq r q3 a _ b=>?_;clear h;subst q3)
  rcases X9.mp hx with rfl|hx
  ·exact(al p (.head _) a)
  ·refine U (ih b x hx) λp' h1 h2=>?_;exact(al p' (.tail _ h1) h2)
theorem mM:cP (.tup vs)=3\/cP (.tup vs)=4:=by
 show(match vs.all cF with|true=>3|false=>4)=3\/(match vs.all cF with|true=>3|false=>4)=4;cases vs.all cF
 ·exact .inr rfl
 ·exact .inl rfl
theorem Dl(h:cP k=1):∃l,k= .str l:=by
 cases k with
 |str l=>exact⟨l,rfl⟩
 |tup vs=>rcases mM (vs:=vs)with e|e<;>exact absurd (e.symm.trans h) ak
 |_=>exact nomatch h
theorem Dk(h:cP k=2):∃i,k= .int i:=by
 cases k with
 |int l=>exact⟨l,rfl⟩
 |tup vs=>rcases mM (vs:=vs)with e|e<;>exact absurd (e.symm.trans h) ak
 |_=>exact nomatch h
theorem Dh(h:cP k=1)(hv:VR W κ k u):∃a,(PySem.strKind W.prog W.w).is a u=true/\RS k a:=by
 (refine eY (Dl h) λl q2=>?_;subst q2)
 obtain⟨t,rfl⟩:=hv.str;exact⟨_,Zt _ _ _ _,l,rfl,rfl⟩
theorem Di(h:cP k=2)(hv:VR W κ k u):∃a,(PySem.intKind W.prog W.w).is a u=true/\RI k a:=by
 (refine eY (Dk h) λl q2=>?_;subst q2)
 obtain⟨t,rfl⟩:=hv.int;exact(al _ (Y5 _ _ _ _) rfl)
theorem y8{K:Type} [DecidableEq K]{knd:PySem.KeyKind W.prog W.w K}{R:V->K->Prop}(hR:∀{p q:V} {a b:K},R p a->R q b->(p=q↔a=b))(hk:∀{k:V} {u:Value},cP k=kd->VR W κ k u->∃a,knd.is a u=true/\R k a):∀{qs:List (Value×Value)},bf kd ps=true->K3 W κ ps qs->∃bt:List (K×Value),Carries knd qs bt/\KV R (VR W κ) ps bt/\(bt.map (·.1)).Nodup:=by
 induction ps with
 |nil=>intro qs _ h;subst h;exact(aM ([]) trivial rfl (.nil))
 |cons p ps i=>
  intro qs hd h
  (refine cT h λq r q3 h1 h2 h3=>?_;clear h;subst q3)
  refine a8 (i (an hd).2 h3) λbt c1 c2 c3=>?_;refine U (hk (Yh (an (an (an hd).1).1).1) h1) λa h4 h5=>?_;refine(aM ((a,q.2)::bt) (gA h4 rfl c1) (cj _ _ rfl h5 h2 c2) ?_);rw[Yn,Yu];refine⟨λhm=>?_,c3⟩;refine U (YD.mp hm) λx hx e=>?_;refine U (c2.mem x hx) λp' hp hr=>?_;exact m0 (an (an hd).1).2 p' hp ((hR hr h5).mpr e)
theorem ba.refill{aw frs:List (Addr×Obj)}(r:ba W C κ σ s m aw frs){ob o':Obj}(h1:κ.at_ t i false=some d)(hm:(d,ob)∈aw)(nt:ob.cls≠ .type "tuple")(n0:s'.heap.get? d=some o')(hs:Heap.SameBut d s.heap s'.heap)(hg:s'.gens=s.gens)(yd:s'.os=s.os)(ho:gB W κ (bU d o' aw) t i mo):ba W C κ (σ.put t i mo) s' m (bU d o' aw) frs:=by
 refine cT ((ju r.nd (X6 frs hm)).split) λpre post e1 e2 ea eb=>?_
 exact r.put (t:=t) (i:=i) (b:=false) (d:=d) (o':=o') (mo:=mo) h1 hm nt (r.F.change hs (r.N _ (X6 frs hm)).2.1 (r.N _ (X6 frs hm)).2.2) (by
  rw[e2 o'];have N0:=r.N;rw[e1]at N0;exact N0.setIn ea eb hs n0) ho hg yd
theorem vZ(h:M.fill o kd ps σ=some (res,σ')):∃t i,o= .obj t i/\nth (σ.heap t) i=some (.dict 0 [])/\res= .ok ()/\σ'=σ.put t i (.dict kd ps):=by
 (refine cZ (nD h) λt i ob q4 ho g=>?_;subst q4)
 refine hg λcg kg=>?_;(refine bS (Hu g) λk es q3 g=>?_;subst q3)
 obtain⟨e,g⟩:=cQ g;obtain rfl:=Yh (an e).1;obtain rfl:=YF.mp (an e).2;refine kg ?_;exact(aZ t i rfl ho (ig g))
theorem sV{K:Type} [DecidableEq K]{knd:PySem.KeyKind W.prog W.w K}{R:V->K->Prop}(hR:∀{p q:V} {a b:K},R p a->R q b->(p=q↔a=b))(hk:∀{k:V} {u:Value},cP k=kd->VR W κ k u->∃a,knd.is a u=true/\R k a)(r:ba W C κ σ s m aw frs)(g2:(d,o)∈aw)(hD:∃bt,o.IsDictOf knd bt/\KV R (VR W κ) [] bt)(dr:∀o',(∃bt,o'.IsDictOf knd bt/\KV R (VR W κ) ps bt)->eM W κ kd ps d o')(ha:κ.at_ t i false=some d)(hd:bf kd ps=true)(hn:ps.length<=16)(hv:K3 W κ ps qs)(k:bF W C (λ_ (_:Unit) (_:PUnit)=>True) Q E (.ok ()) κ (σ.put t i (.dict kd ps))):wpAny (model W.prog W.w) C.A (storeAll d qs) Q E s:=by
 (refine U hD λXH x1 x2=>?_;clear hD)
 subst x2;refine a8 (y8 hR hk hd hv) λbt c1 c2 c3=>?_;refine wpAny_storeAll (knd:=knd) _ bt [] s _ c1 (ZQ.mpr (al o (((r.N _ (X6 frs g2)).1)) x1)) (by rw[<-c2.length,zaJ,zaz];exact Yc hn ak) λh' nq iD=>?_;rw[merged_nil_of_nodup _ c3]at nq;refine U (ZQ.mp nq) λo' n0 Qf=>?_;exact k.done (a:=PUnit.unit) trivial (b7 m _ frs ((r.refill (t:=t) (i:=i) (d:=d) (o':=o') (mo:= .dict kd ps) (s':={s with heap:=h',toks:=s.toks+qs.length}) ha g2 (lK x1) n0 iD rfl rfl (aZ d o' ha (aH (aV g2)) (dr o' (al _ Qf c2))))))
theorem FV:cP k≠0:=by
 cases k with
 |tup vs=>exactλq=>by rcases mM (vs:=vs)with e|e<;>exact absurd (e.symm.trans q) ak
 |_=>exact nofun
theorem Ga(h0:nth (σ.heap t) i=some (.dict 0 []))(ha:κ.at_ t i false=some d)(hd:bf (ch ps) ps=true)(hn:ps.length<=16)(hv:K3 W κ ps qs)(R:bA W C κ σ s)(k:bF W C (λ_ (_:Unit) (_:PUnit)=>True) Q E (.ok ()) κ (σ.put t i (.dict (ch ps) ps))):wpAny (model W.prog W.w) C.A (storeAll d qs) Q E s:=by
 refine bj (id R) λm aw frs r=>?_;refine a9 (r.nr.obj h0) λa' o g1 g2 D=>?_;obtain rfl:=si (ha.symm.trans g1);cases ps with
 |nil=>
  subst hv;refine U (D.one (.inl rfl)) λbt x1 _=>?_;exact Yp (k.done (a:=PUnit.unit) trivial (b7 m _ frs ((r.refill (t:=t) (i:=i) (d:=d) (o':=o) (mo:= .dict 0 []) (s':=s) ha g2 (lK x1) (r.N _ (X6 frs g2)).1 (Heap.SameBut.refl _ _) rfl rfl (aZ d o ha (aH (aV g2)) D)))))
 |cons p Sw=>
  have hd:bf (cP p.1) (p::Sw)=true:=hd;have k:bF W C (λ_ (_:Unit) (_:PUnit)=>True) Q E (.ok ()) κ (σ.put t i (.dict (cP p.1) (p::Sw))):=k;have h3:cP p.1<3:=Yg (an (an (an hd).1).1).2;generalize cP p.1=kd at hd k h3;have hp:kd≠0:=λe=>FV ((Yh (an (an (an hd).1).1).1).trans e);rcases VP h3 with rfl|rfl|rfl
  ·exact absurd rfl hp
  ·exact sV (λa b=>RS.iff a b) Dh r g2 (D.one (.inl rfl)) (λo'=>Qv D.low) ha hd hn hv k
  ·exact sV (λa b=>RI.iff a b) Di r g2 (D.two (.inl rfl)) (λo'=>TS D.low) ha hd hn hv k
end
section
variable{W:SW}{C:Cx}{κ:Kn}{σ:St}{s:Shared}
def Bk(ih:Ih)(t:Nat)(ks vs:List Ex):M V:=M.bind (M.new t (.dict 0 [])) λo=>M.bind (dN ih ks vs) λps=>M.gd (bf (ch ps) ps&&Nat.ble ps.length 16) (M.bind (M.fill o (ch ps) ps) λ_=>M.pure o)
theorem kp(h:M.bind (M.new t o) f σ=some (res,σ')):f (.obj t (σ.heap t).length) (σ.add t o)=some (res,σ'):=h
theorem kx(h:M.bind (M.fill (.obj t n) kd ps) (λ_=>M.pure a) σ=some (res,σ')):nth (σ.heap t) n=some (.dict 0 [])/\res= .ok a/\σ'=σ.put t n (.dict kd ps):=by
 unfold M.bind at h;refine dJ (M.fill (.obj t n) kd ps σ) (λhf=>?_) λz hf=>?_
 ·rw[hf]at h;exact nt h
 ·
  refine hg λcg kg=>?_;obtain⟨lR,ai⟩:=z
  (refine cT (vZ hf) λt' i' e h0 q5 q6=>?_;subst q5;subst q6)
  obtain⟨rfl,rfl⟩:=V.obj.inj e;refine kg ?_;rw[hf]at h;exact⟨h0,sp h⟩
theorem DM(h:M.gd (bf (ch ps) ps&&Nat.ble ps.length 16) (M.bind (M.fill (V.obj t n) (ch ps) ps) λ_=>M.pure (V.obj t n)) σ=some (res,σ'))(ha:κ.at_ t n false=some d)(hv:K3 W κ ps qs)(R:bA W C κ σ s)(k:bF W C (λκ=>VR W κ) Q' E res κ σ')(hQ:∀s',Q' (.ref d) s'->Q PUnit.unit s'):wpAny (model W.prog W.w) C.A (storeAll d qs) Q E s:=by
 refine de (cQ h) λhb g=>?_
 (refine dW (kx g) λh0 q2 q3=>?_;subst q2;subst q3)
 refine Ga (t:=t) (i:=n) h0 ha (an hb).1 (Yg (an hb).2) hv R λcL s' le=>?_;intro u _ R';cases u;exact hQ s' (k cL s' le _ (by exact(al d rfl (le.at_ ha))) R')
theorem zj{ih:Ih}:∀{ks:List (Option Expr)},cw (λ(e:Option Expr) x=>∃e',e=some e'/\SndE W C e' (ih.e x)) ks xk->ks.all (·.isSome)=true:=by
 induction xk with
 |nil=>
  intro ks h;cases ks with
  |nil=>rfl
  |cons _ _=>exact h.elim
 |cons x xk i=>
  intro ks h;cases ks with
  |nil=>rfl
  |cons o ks=>
   obtain⟨⟨e',rfl,_⟩,h⟩:=h;exact i (ks:=ks) h
theorem Ke(hk:cw (λ(e:Option Expr) x=>∃e',e=some e'/\SndE W C e' (ih.e x)) ks xk)(hv:cw (λe x=>SndE W C e (ih.e x)) vs xv)(hl:ks.length=vs.length)(h0:ks≠ [])(W0:ks.length<=15):SndE W C (.Dict ks vs pos) (Bk ih t xk xv):=by
 intro κ σ res σ' h s Q E R k
 (refine bj R λm aw frs r=>?_;clear R)
 obtain⟨le,r'⟩:=r.dict0 t;refine wpAny_Dict_any (zj hk) hl h0 W0 ?_;refine bV.bind (wj hk hv hl _ _) (kp h) (b7 m _ frs r') (k.mono le) λam ai ps qs aE Nm P5 ar ap k₁=>?_;exact DM ap (Nm.at_ Kn.add_self) P5 ar k₁ λs' q=>q
theorem Gi:SndE W C (.Dict [] [] pos) (Bk ih t [] []):=by
 intro κ σ res σ' h s Q E R k
 (refine bj R λm aw frs r=>?_;clear R)
 obtain⟨le,r'⟩:=r.dict0 t;refine wpAny_Dict_empty ?_
 (refine dW (kx (a:=V.obj t (σ.heap t).length) (kd:=0) (ps:= []) (kp h)) λh0 q2 q3=>?_;subst q2;subst q3)
 refine a9 (r'.nr.obj h0) λa' o g1 W8 D=>?_;obtain rfl:=si (Kn.add_self.symm.trans g1);obtain rfl:o=Mine.dict0:=cK r'.ndT W8 (.head _);exact k _ _ le _ (by exact(al _ rfl (Kn.add_self))) (b7 m _ frs ((r'.refill (t:=t) (i:=(σ.heap t).length) (d:=s.heap.objs.size) (o':=Mine.dict0) (mo:= .dict 0 []) (s':={s with heap:=s.heap.push Mine.dict0}) Kn.add_self (.head _) wQ (r'.N _ (X6 frs (.head _))).1 (Heap.SameBut.refl _ _) rfl rfl (aZ _ _ (Kn.add_self) (aH (aV (.head _))) D))))
def IO(e:Ex):Option (List Nat):=match e with
 | .k v=>oS v some
 |_=>none
theorem BV(h:IO e=some a):e= .k (.str a):=by
 cases e with
 |k v=>(refine U (EC h) λl q2 g=>?_;subst q2);rw[si g]
 |_=>exact nt h
noncomputable def wA:List Ex->List Ex->Option (List (List Nat×List Nat))
 | [],vs=>gD vs.isEmpty (some [])
 |k::ks,vs=>match vs with
  | []=>none
  |v::vs=>(IO k).bind λa=>(IO v).bind λb=>(wA ks vs).map ((a,b)::·)
def H2(l:List (List Nat×List Nat)):List (V×V):=l.map λp=>(.str p.1, .str p.2)
theorem oz:∀{vs:List Ex} {l:List (List Nat×List Nat)},wA ks vs=some l->ks=l.map (λp=> .k (.str p.1))/\vs=l.map λp=> .k (.str p.2):=by
 induction ks with
 |nil=>intro vs l h;obtain⟨e,g⟩:=bY h;obtain rfl:=si g;exact⟨rfl,YF.mp e⟩
 |cons k ks i=>
  intro vs l h;cases vs with
  |nil=>exact nt h
  |cons v vs=>
   refine U (ob h) λa e1 h=>?_;refine U (ob h) λb e2 h=>?_
   (refine U (om h) λr e3 q3=>?_;subst q3)
   obtain⟨rfl,rfl⟩:=i e3;rw[BV e1,BV e2];exact⟨rfl,rfl⟩
theorem vO(hk:∀v,ih.e (.k v)=M.fail\/ih.e (.k v)=M.pure v){l:List (List Nat×List Nat)}:∀{res:R (List (V×V))} {σ':St},dN ih (l.map λp=> .k (.str p.1)) (l.map λp=> .k (.str p.2)) σ=some (res,σ')->res= .ok (H2 l)/\σ'=σ:=by
 induction l with
 |nil=>intro res σ' he;exact ao he
 |cons p l i=>
  intro res σ' he;have he:M.bind (ih.e (.k (.str p.1))) (λa=>M.bind (ih.e (.k (.str p.2))) λb=>M.bind (dN ih (l.map λp=> .k (.str p.1)) (l.map λp=> .k (.str p.2))) λr=>M.pure ((a,b)::r)) σ=some (res,σ'):=he;rcases hk (.str p.1)with e|e
  ·rw[e]at he;exact nt he
  ·rcases hk (.str p.2)with e'|e'
   ·rw[e,e']at he;exact nt he
   ·rw[e,e']at he;have he:M.bind (dN ih (l.map λp=> .k (.str p.1)) (l.map λp=> .k (.str p.2))) (λr=>M.pure ((V.str p.1,V.str p.2)::r)) σ=some (res,σ'):=he;unfold M.bind at he;refine dJ (dN ih (l.map λp=> .k (.str p.1)) (l.map λp=> .k (.str p.2)) σ) (λhr=>?_) λz hr=>?_
    ·rw[hr]at he;exact nt he
    ·
     obtain⟨lR,ai⟩:=z;obtain⟨rfl,rfl⟩:=i hr;rw[hr]at he;exact sp he
inductive jt:List (Option Expr)->List Expr->List (List Nat×List Nat)->Prop
 |nil:jt [] [] []
 |cons {a b:List Nat} {k k':Nat} {p p':Pos} {ks:List (Option Expr)} {vs:List Expr} {ps:List (List Nat×List Nat)}:jt ks vs ps->jt (some (.Constant (.str ⟨a.toArray⟩) k p)::ks) (.Constant (.str ⟨b.toArray⟩) k' p'::vs) ((a,b)::ps)
theorem jt.len(h:jt ks vs ps):ks.length=vs.length/\ps.length=ks.length/\ks.all (·.isSome)=true:=by
 induction h with
 |nil=>exact(gA rfl rfl rfl)
 |cons _ i=>exact(gA (Yd Nat.succ i.1) (Yd Nat.succ i.2.1) (i.2.2))
def yM(d:Addr)(pairs:List (Sem Value×Sem Value)):Sem PUnit:=
 forIn pairs PUnit.unit λ(x:Sem Value×Sem Value) (_:PUnit)=>(do
  let kv<-x.1
  let vv<-holding [kv] x.2
  holding [kv,vv] (dictSet d kv vv)
  pure (ForInStep.yield PUnit.unit):Sem (ForInStep PUnit))
def QG:List (List Nat×List Nat)->List (Str×Value)->Prop
 | [],l=>l= []
 |p::ps,l=>∃t r,l=(⟨p.1.toArray⟩, .str ⟨p.2.toArray⟩ t)::r/\QG ps r
theorem lf{ps:List (List Nat×List Nat)}(h:jt ks vs ps):∀{acc:List (Str×Value)} {s:Shared} {Q:PUnit->Shared->Prop},s.heap.DictOf (PySem.strKind W.prog W.w) d acc->acc.length+ps.length<=sizeLine->
  (∀h' n bt,QG ps bt->h'.DictOf (PySem.strKind W.prog W.w) d (merged acc bt)->Heap.SameBut d s.heap h'->Q PUnit.unit {s with heap:=h',toks:=n})->
  wpAny (model W.prog W.w) C.A (yM d (pairTrees ks vs C.env pos)) Q E s:=by
 induction h with
 |nil=>intro acc s Q hm _ hQ;exact Yp (hQ s.heap s.toks [] rfl hm (Heap.SameBut.refl _ _))
 | @cons a b k k' p p' ks vs ps _ i=>
  intro acc s Q hm hsz hQ;rw[zaw]at hsz;show wpAny _ _ (forIn ((eval _ C.env,_)::pairTrees ks vs C.env pos) PUnit.unit _) _ _ _;rw[List.forIn_cons];refine Yb (Yb (zaP (env:=C.env) (k:=k) (pos:=p) ?_));refine Yb (YZ (Yb (zaP (env:=C.env) (k:=k') (pos:=p') (Yb (Zg (Yp ?_))))));refine Yb (YZ (wpAny_dictSet_pairs (hsz:=Yc (Ym _ _) hsz) (Zt _ _ _ _) hm λap Ny oo=>Yp ?_));refine i Ny (Yc (zac (stored_length_le acc (⟨a.toArray⟩:Str) (.str ⟨b.toArray⟩ ({s with toks:=s.toks+1}:Shared).toks)) _) (by rw[Y0,YU 1];exact hsz)) λh' n bt hk rk iD=>?_;exact hQ h' n ((⟨a.toArray⟩, .str ⟨b.toArray⟩ _)::bt) (gz _ _ rfl hk) rk (oo.trans iD)
theorem Dg:∀{bt:List (Str×Value)},bf 1 (H2 ps)=true->QG ps bt->KV RS (VR W κ) (H2 ps) bt/\(bt.map (·.1)).Nodup:=by
 induction ps with
 |nil=>intro bt _ h;subst h;exact⟨rfl, .nil⟩
 |cons p ps i=>
  intro bt hd h;obtain⟨t,r,rfl,h⟩:=h;refine de (i (an hd).2 h) λc2 c3=>?_;refine⟨(cj _ _ rfl (al (p.1) rfl rfl) (wz _ _) c2),?_⟩;rw[Yn,Yu];refine⟨λhm=>?_,c3⟩;refine U (YD.mp hm) λx hx e=>?_;refine U (c2.mem x hx) λq hq hr=>?_;exact m0 (an (an hd).1).2 q hq ((RS.iff hr (al (p.1) rfl rfl)).mpr e)
theorem wk(hp:∀v,ih.e (.k v)=M.fail\/ih.e (.k v)=M.pure v)(hx:wA xk xv=some ps)(hr:jt ks vs ps)(Qp:ps.length=16)(hd:bf 1 (H2 ps)=true):SndE W C (.Dict ks vs pos) (Bk ih t xk xv):=by
 intro κ σ res σ' h s Q E R k;refine hg λcg kg=>?_;obtain⟨rfl,rfl⟩:=oz hx;have h:=kp h;refine dW (hr.len) λhl Af nE=>?_
 (refine bj R λm aw frs r=>?_;clear R)
 obtain⟨le,r'⟩:=r.dict0 t;refine kg ?_;have hn:=(pairTrees_length ks vs C.env pos nE hl).trans (Af.symm.trans Qp);unfold M.bind at h;refine dJ (dN ih (ps.map λp=> .k (.str p.1)) (ps.map λp=> .k (.str p.2)) (σ.add t (.dict 0 []))) (λhe=>?_) λz he=>?_
 ·rw[he]at h;exact nt h
 ·
  obtain⟨lR,ai⟩:=z;rw[he]at h;obtain⟨rfl,rfl⟩:=vO hp he;have Wv:ch (H2 ps)=1:=by
   cases ps with
   |nil=>exact nomatch Qp
   |cons p ps=>rfl
  refine de (cQ h) λ_ g=>?_;rw[Wv]at g
  (refine dW (kx g) λX1 q2 q3=>?_;subst q2;subst q3)
  rw[arm_eval_Dict,zip_pairTrees ks vs C.env pos nE hl,dictDisplay_pairs _ (λhe=>by rw[he]at hn;exact nomatch hn) (by rw[hn];decide)];refine Yb (Zg (Yb ?_));refine Yb (wpAny_alloc ?_);refine Yb (YZ ?_);rw[YM (by rw[hn];decide)];refine Yb (wpAny_rule ?_);refine Yb (wpAny_mono (lf hr (acc:= []) (Q:=λ_ s'=>Q (.ref s.heap.objs.size) s') (ZQ.mpr (al _ ((r'.N _ (X6 frs (.head _))).1) (qk W.base _))) (by rw[zaJ,zaz,Qp];decide) λh' n bt P9 nq iD=>?_) (λ_ s' q=>Yp (Yp (Yp q))) λ_ _ e=>e);obtain⟨c2,c3⟩:=Dg (W:=W) (κ:=κ.add t (σ.heap t).length false s.heap.objs.size) hd P9;rw[merged_nil_of_nodup _ c3]at nq;refine U (ZQ.mp nq) λo' n0 Qf=>?_
  exact k _ _ le _ (by exact(al _ rfl (Kn.add_self))) (b7 m _ frs ((r'.refill (t:=t) (i:=(σ.heap t).length) (d:=s.heap.objs.size) (o':=o') (mo:= .dict 1 (H2 ps)) (s':={s with heap:=h',toks:=n}) Kn.add_self (.head _) wQ n0 iD rfl rfl
   (aZ _ o' (Kn.add_self) (aH (aV (.head _))) (Qv (r.F.notModules (modules_low W.lim)) (al _ Qf c2))))))
end
noncomputable def Cx.hold (C:Cx) (I:Addr) (o:Obj):Cx:={C with outs:=(I,iz.it o)::C.outs}
section
variable{W:SW}{C:Cx}{κ:Kn}{σ:St}{s:Shared}
def AN(W:SW)(e:Expr)(x:Nat):Prop:=∃p,e= .Name (W.nm x) p
theorem DI:∀{es:List Expr},cw (AN W) es xs->(assignEach es env).length=xs.length/\(assignEach es env).findIdx? (·.1)=none:=by
 induction xs with
 |nil=>
  intro es h;cases es with
  |nil=>exact⟨rfl,rfl⟩
  |cons _ _=>exact h.elim
 |cons x xs ih=>
  intro es h;cases es with
  |nil=>exact h.elim
  |cons e r=>
   obtain⟨⟨p,rfl⟩,h⟩:=h;obtain⟨h1,h2⟩:=ih h;refine⟨Yd Nat.succ h1,?_⟩;show List.findIdx? _ ((false,PySem.assign (.Name (W.nm x) p) env)::assignEach r env)=none;rw[List.findIdx?_cons,h2];rfl
theorem wn(hk:C.scope.kind= .function){xs:List Nat}:∀{es:List Expr},cw (AN W) es xs->(∀x∈xs,C.scope.names.lookup (W.nm x)=some .local)->
  ∀{κ:Kn} {σ:St} {vs:List V} {us:List Value},cI W κ vs us->bV W C κ σ (assignInOrder ((assignEach es C.env).map (·.2)) us) (bindAll xs vs σ) iI:=by
 induction xs with
 |nil=>
  intro es hn _ κ σ vs us hv res σ' h s Q E R k;cases es with
  |cons _ _=>exact hn.elim
  |nil=>
   obtain⟨e,g⟩:=cQ h;obtain rfl:=YF.mp e;obtain⟨rfl,rfl⟩:=ao g;exact assignInOrder_nil (k.done (a:=()) trivial R)
 |cons y ys ih=>
  intro es hn hl κ σ vs us hv res σ' h s Q E R k;cases es with
  |nil=>exact hn.elim
  |cons e r=>
   obtain⟨⟨p,rfl⟩,hn⟩:=hn;cases vs with
   |nil=>exact nt h
   |cons v vs=>
    (refine a9 (hv.cons) λu us q3 h1 h2=>?_;subst q3)
    refine assignInOrder_cons (wpAny_assign_Name ?_);refine bV.bind (V₁:=iI) (m:=M.bindN y v) (f:=λ_=>bindAll ys vs) (λ_ _ h _ _ _ R k=>fy hk (hl y (.head _)) h h1 R k) h R k λam ai _ _ aE le _ ar ap k₁=>?_;exact ih hn (λx hx=>hl x (.tail _ hx)) (h2.mono le) _ _ ap _ _ _ ar k₁
theorem ug:∀{vs:List V} {σ:St} {r:Mine.R Unit×St},bindAll xs vs σ=some r->xs.length=vs.length:=by
 induction xs with
 |nil=>intro vs σ r h;obtain rfl:=YF.mp (cQ h).1;rfl
 |cons x xs i=>
  intro vs σ r h;cases vs with
  |nil=>exact nt h
  |cons v vs=>exact Yd Nat.succ (i (show bindAll xs vs (σ.setE (Mine.putN x v σ.env))=some r from h))
theorem bA.heapBut(R:bA W C κ σ s)(he:Heap.ExtBut s.heap.objs.size s.heap h'):bA W C κ σ {s with heap:=h'}:=by
 (refine bj R λm aw frs r=>?_;clear R)
 exact(b7 m aw frs ⟨r.F.extBut he (Yv _),r.N.extBut he (Yv _),r.nd,r.frs,r.nr,r.env,r.gens,r.os⟩)
theorem m4(hk:C.scope.kind= .function)(hh:C.A.handled=none)(hn:cw (AN W) es xs)(hl:∀x∈xs,C.scope.names.lookup (W.nm x)=some .local):yD W C (.Tuple es kk pos) (Mine.assign ih (.tup xs)):=by
 intro κ σ v u hv res σ' h s Q E R k
 (refine U (M7 h) λvs q2 h=>?_;subst q2)
 (refine a9 (hv.tup) λa us q3 h1 h2=>?_;subst q3)
 obtain⟨e1,e2⟩:=DI (env:=C.env) hn;refine assign_Tuple_tuple hh (R.isTup h1) (by rw[e1,ug h,h2.length];rfl) e2 λh' he=>?_;exact wn hk hn hl h2 _ _ h _ _ _ (R.heapBut he) k
theorem wo(hk:C.scope.kind= .function)(hl:C.scope.names.lookup (W.nm x)=some .local):yD W C (.Name (W.nm x) pos) (Mine.assign ih (.loc x)):=by
 intro κ σ v u hv res σ' h s Q E R k;exact wpAny_assign_Name (fy hk hl h hv R k)
def notTup(e:Expr):Bool:= !Nat.beq e.ctorIdx 25
theorem vA(h:notTup e=true):swappedStores [.Tuple es kk p] e env=pure none:=by
 cases e<;>first|(cases h;done)|rfl
theorem Fd(h:iF e=true):swapsWithSole [t] e n env=pure false:=by
 cases e<;>first|(cases h;done)|rfl
theorem Jx(hk:C.scope.kind= .function)(hh:C.A.handled=none)(hn:cw (AN W) es xs)(hl:∀x∈xs,C.scope.names.lookup (W.nm x)=some .local)(hv:iF e=true)(Wm:notTup e=true)(he:SndE W C e mx):
  SndS W C (.Assign [.Tuple es kk tp] e pos) (M.bind mx λv=>M.bind (Mine.assign ih (.tup xs) v) λ_=>M.pure .next):=by
 intro κ σ res σ' h s Q E R k;refine Assign_Tuple ?_ (Fd hv) (vA Wm);refine bV.bind (he κ σ) h R k λam ai v u aE le hv ar ap k₁=>?_;exact bV.next (m4 (ih:=ih) hk hh hn hl am ai v u hv) ap ar k₁
end
section
variable{W:SW}{C:Cx}{κ:Kn}{σ:St}{s:Shared}
def Kept(I:Addr)(h h':Heap):Prop:=∀b o,b≠I->h.get? b=some o->h'.get? b=some o
theorem bA.held(R:bA W (C.hold I o) κ σ s):∃m aw frs,ba W (C.hold I o) κ σ s m aw ((I,o)::frs)/\iA C.outs frs:=by
 (refine bj R λm aw frs r=>?_;clear R)
 have hf:=r.frs;dsimp only[Cx.hold,iA]at hf
 (refine cT hf λq l' q3 h1 h2 h3=>?_;clear hf;subst q3)
 obtain⟨a,ob⟩:=q;simp only at h1 h2;subst h1;subst h2;exact(I6 m aw l' r h3)
theorem bA.there(R:bA W (C.hold I o) κ σ s):s.heap.get? I=some o/\I≠C.L/\W.base.get? I=none:=by
 refine uS (R.held) λm aw frs r _=>?_;exact r.N (I,o) (Yk _ (.head _))
theorem xq{I:Addr}{o:Obj}(h:((aw++(I,o)::frs).map (·.1)).Nodup):((aw++frs).map (·.1)).Nodup/\I∉(aw++frs).map (·.1):=by
 rw[Yo,Yn,YB]at h
 (refine dW h λh1 h2 h3=>?_;clear h)
 rw[Yu]at h2;refine⟨by rw[Yo,YB];exact⟨h1,h2.2,λx hx y hy=>h3 x hx y (.tail _ hy)⟩,?_⟩;rw[Yo,Yq];rintro (h|h)
 ·exact h3 _ h _ (.head _) rfl
 ·exact h2.1 h
theorem bA.drop(R:bA W (C.hold I o) κ σ s)(hk:Kept I s.heap h'):bA W C κ σ {s with heap:=h',toks:=tk}:=by
 refine uS (R.held) λm aw frs r hf=>?_;obtain⟨nd,hI⟩:=xq r.nd;have hi:=r.N (I,o) (Yk _ (.head _));refine(b7 m aw frs (⟨⟨r.F.ns.at' λo e=>hk _ _ (λq=>hi.2.1 q.symm) e,λb x e=>hk b x (λq=>by rw[q,hi.2.2]at e;cases e) (r.F.keep b x e),r.F.above⟩,λp hp=>?_,nd,hf,r.nr,r.env,r.gens,r.os⟩))
 have z:=r.N p (by
  rcases Yq.mp hp with x|x
  ·exact X6 _ x
  ·exact Yk _ (.tail _ x))
 exact⟨hk _ _ (λq=>hI (q ▸ YH hp)) z.1,z.2⟩
theorem bA.turn(R:bA W (C.hold I o) κ σ s)(hk:Kept I s.heap h')(ho:h'.get? I=some o'):bA W (C.hold I o') κ σ {s with heap:=h',toks:=tk}:=by
 refine uS (R.held) λm aw frs r hf=>?_;refine de (xq r.nd) λnd hI=>?_;have hi:=r.N (I,o) (Yk _ (.head _));refine(b7 m aw ((I,o')::frs) (⟨⟨r.F.ns.at' λo e=>hk _ _ (λq=>hi.2.1 q.symm) e,λb x e=>hk b x (λq=>by rw[q,hi.2.2]at e;cases e) (r.F.keep b x e),r.F.above⟩,λp hp=>?_,?_,?_,r.nr,r.env,r.gens,r.os⟩))
 ·rcases Yq.mp hp with x|x
  ·have z:=r.N p (X6 _ x);exact⟨hk _ _ (λq=>hI (q ▸ YH (X6 _ x))) z.1,z.2⟩
  ·rcases X9.mp x with rfl|x
   ·exact⟨ho,hi.2⟩
   ·skip;exact⟨hk _ _ (λq=>hI (q ▸ YH (Yk _ x))) (r.N p (Yk _ (.tail _ x))).1,(r.N p (Yk _ (.tail _ x))).2⟩
 ·have SM:=r.nd;rw[Yo,Yn]at SM⊢;exact SM
 ·skip;exact(cj _ _ rfl rfl rfl hf)
theorem bA.hold(R:bA W C κ σ s):bA W (C.hold s.heap.objs.size o) κ σ {s with heap:=s.heap.push o,toks:=tk}\/o.isFreed=true:=by
 refine cY (o.isFreed) (λnC=>?_) λnC=>?_
 ·rw[nC];exact .inr rfl
 ·
  left
  (refine bj R λm aw frs r=>?_;clear R)
  have N':=r.N.push (hfree:=nC) r.F o;refine(b7 m aw ((s.heap.objs.size,o)::frs) ⟨r.F.push o,λp hp=>?_,?_,?_,r.nr,r.env,r.gens,r.os⟩)
  ·rcases Yq.mp hp with x|x
   ·exact N' p (.tail _ (X6 _ x))
   ·refine(X9.mp x).elim (λq=>?_) λx=>?_
    ·subst q;exact N' _ (.head _)
    ·exact N' p (.tail _ (Yk _ x))
  ·have hn:=r.fresh (l:=s.heap.objs.size) (gM r);have nd:=r.nd;rw[Yo,YB]at nd;rw[Yo,Yq]at hn;rw[Yo,Yn,YB,Yu];refine⟨nd.1,⟨λh=>hn (.inr h),nd.2.1⟩,λx hx y hy=>?_⟩;refine(X9.mp hy).elim (λq=>?_) λhy=>?_
   ·subst q;rintro rfl;exact hn (.inl hx)
   ·exact nd.2.2 x hx y hy
  ·skip;exact(cj _ _ rfl rfl rfl (r.frs))
structure EX(W:SW)(C:Cx)(I:Addr)(vs:List V)(cy:M Unit)(uL:Kn->St->Prop)(ob:Nat->Obj->Prop):Prop where
 keep:∀{κ cL σ σ' dp res},uL κ σ->κ.Le cL->cy σ'=some (res,dp)->(∃u,res= .ok u)/\dp=σ'/\uL cL σ'
 item:∀κ σ s i v o (Q:Option Value->Shared->Prop) (E:Value->Shared->Prop),uL κ σ->ob i o->bA W (C.hold I o) κ σ s->Mine.nth vs i=some v->
  (∀u o' h' tk,VR W κ v u->ob (i+1) o'->h'.get? I=some o'->Kept I s.heap h'->Q (some u) {s with heap:=h',toks:=tk})->wpAny (model W.prog W.w) C.A (pyNext (.ref I)) Q E s
 done:∀κ σ s o (Q:Option Value->Shared->Prop) (E:Value->Shared->Prop),uL κ σ->ob vs.length o->bA W (C.hold I o) κ σ s->
  (∀h' tk,Kept I s.heap h'->Q none {s with heap:=h',toks:=tk})->wpAny (model W.prog W.w) C.A (pyNext (.ref I)) Q E s
 go:∀s i o c5 v (Q:Unit->Shared->Prop) (E:Value->Shared->Prop),ob i o->s.heap.get? I=some o->Q () s->wpAny (model W.prog W.w) C.A (letOwnedTupleGo c5 (.ref I) v) Q E s
theorem DK{l:List α}:∀{i:Nat},i<l.length->∃v,Mine.nth l i=some v/\l.drop i=v::l.drop (i+1):=by
 induction l with
 |nil=>intro i h;exact absurd h (zad _)
 |cons a l ih=>
  intro i h;cases i with
  |zero=>exact(al a rfl rfl)
  |succ i=>exact ih (zaC h)
theorem eA(h:M.calm m σ=some (res,σ')):∃a,res= .ok a/\m σ=some (.ok a,σ'):=by
 unfold M.calm at h;refine dJ (m σ) (λe=>?_) λp e=>?_
 ·rw[e]at h;exact nt h
 ·
  (refine(e).symm ▸?_)
  rw[e]at h;obtain⟨r,ai⟩:=p;cases r with
  |ok a=>obtain⟨rfl,rfl⟩:=sp h;exact(al a rfl rfl)
  |exc _ _ _ _=>exact nt h
theorem lD{ob:Nat->Obj->Prop}(Nx:EX W C I vs cy uL ob)(hA:∀o,yD W (C.hold I o) c5 (Mine.assign ih t))(hB:∀o,cw (λe x=>SndS W (C.hold I o) e (ih.s x)) body xb)(hl:uL κ σ)(ho:ob 0 o)(R:bA W (C.hold I o) κ σ s)(h:bX ih cy t xb vs σ=some (.ok f,σ'))(k:∀cL s',κ.Le cL->bA W C cL σ' s'->∀g,Eo W cL f g->RR (.ok g) s'):codeAny (model W.prog W.w) C.A (.forLoop c5 (.ref I) body [] C.env) RR s:=by
 refine codeAny_forLoop_any (λn s=>∃i am ai o,i<=vs.length/\n=vs.length - i/\κ.Le am/\uL am ai/\ob i o/\bA W (C.hold I o) am ai s/\bX ih cy t xb (vs.drop i) ai=some (.ok f,σ')) ?_ vs.length
  ⟨0,κ,σ,o,YA _,rfl,Kn.Le.refl _,hl,ho,R,by simpa using h⟩
 rintro n aE ⟨i,am,ai,L0,hi,rfl,le,Bf,HA,ar,ap⟩;rcases Nat.lt_or_ge i vs.length with kW|hge
 ·refine U (DK kW) λv hv hd=>?_;rw[hd]at ap;refine Nx.item am ai aE i v L0 _ _ Bf HA ar hv λu gx aT tk hu Hz hg hk=>?_;refine Nx.go _ (i+1) gx c5 u _ _ Hz hg ?_;refine bS (H9 ap) λx bH ha aT=>?_;refine hA gx am ai v u hu _ _ ha _ _ _ (ar.turn (tk:=tk) hk hg) λbM c9 aY _ _ lc=>?_;refine bS (H9 aT) λg n9 hb fq=>?_;refine dl (C:=C.hold I gx) (hB gx) bM bH _ _ hb _ _ _ lc λjj pb dw gg hg yE=>?_;cases g with
  |ret w=>
   obtain⟨e0,rfl⟩:=sp fq;cases e0
   (refine U hg λuw q2 hw=>?_;clear hg;subst q2)
   exact k jj pb ((le.trans aY).trans dw) (yE.drop (h':=pb.heap) (tk:=pb.toks) λ_ _ _ e=>e) _ (al uw rfl hw)
  |next=>
   subst hg;refine bS (H9 fq) λy ME hc yt=>?_
   (refine dW (Nx.keep (σ:=ai) Bf (aY.trans dw) hc) λ_ q2 Nz=>?_;subst q2)
   exact⟨vs.length - (i+1),Nat.sub_succ_lt_self _ _ kW,i+1,jj,ME,gx,kW,rfl,(le.trans aY).trans dw,Nz,Hz,yE,yt⟩
 ·obtain rfl:=Nat.le_antisymm hi hge;refine hg λcg kg=>?_;rw[List.drop_length]at ap;obtain⟨e1,rfl⟩:=sp ap;cases e1;refine kg ?_;refine Nx.done am σ' aE L0 _ _ Bf HA ar λh' tk hk=>zaH ?_;exact k am _ le (ar.drop hk) _ rfl
def FR(l:Addr)(i:Nat)(o:Obj):Prop:=o.cls= .type "list_iterator"/\o.data= .fields #[.ref l, .int i 0]
def Jd(l:Addr)(i:Nat)(o:Obj):Prop:=o.cls= .type "tuple_iterator"/\o.data= .fields #[.ref l, .int i 0]
def JE(a:Int)(n:Nat)(i:Nat)(o:Obj):Prop:=o=itR (a+(i:Int)) ((n:Int) - (i:Nat))
theorem kt(x:Heap.SameBut I h h'):Kept I h h':=λb o hb e=>x.extBut b o hb e
theorem vf(hc:o.cls= .type T)(hd:o.data= .fields vs)(hn: ["enumerate","zip","dict_itemiterator","dict_reverseitemiterator","odict_iterator","itertools.zip_longest","itertools.pairwise"].contains T=false)(ho:s.heap.get? I=some o)(h:Q () s):wpAny (model W.prog W.w) A (letOwnedTupleGo c5 (.ref I) v) Q E s:=by
 cases c5 with
 |Tuple _ _ _=>exact(by
  cases v with
  |ref a=>
   refine Yb (wpAny_load ho ?_);rw[hc,hd];dsimp only;rw[hn,Bool.false_and];exact Yp h
  |_=>exact Yp h)
 |List _ _=>exact(by
  cases v with
  |ref a=>
   refine Yb (wpAny_load ho ?_);rw[hc,hd];dsimp only;rw[hn,Bool.false_and];exact Yp h
  |_=>exact Yp h)
 |_=>exact Yp h
theorem jT(h:M.pure () σ'=some (res,dp)):(∃u,res= .ok u)/\dp=σ':=by
 refine de (ao h) λh1 h2=>?_;exact⟨⟨_,h1⟩,h2⟩
theorem Da(hh:C.A.handled=none):EX W C I vs (M.pure ()) (λκ _=>∃xs,κ.tup l=some xs/\cI W κ vs xs) (Jd l) where
 keep:=λ{κ cL σ σ' dp res} ⟨xs,h1,h2⟩ le hc=>⟨(jT hc).1,(jT hc).2,xs,le.tup h1,h2.mono le⟩
 item:=by
  rintro κ σ s i v o Q E ⟨xs,h1,h2⟩ ⟨hc,hd⟩ R hv hQ;refine U (h2.nth hv) λu hu Ik=>?_;refine next_tuple_item (aM o (R.there.1) hc hd) (R.isTup h1) (by simpa using hu) λh' Em hs=>?_
  (refine a8 Em λo' n0 Qg nq=>?_;clear Em)
  exact hQ u o' h' s.toks Ik ⟨Qg,nq⟩ n0 (kt hs)
 done:=by
  rintro κ σ s o Q E ⟨xs,h1,h2⟩ ⟨hc,hd⟩ R hQ;exact next_tuple_end hh (aM o (R.there.1) hc hd) (R.isTup h1) (by rw[h2.length];simp) λh' he=>hQ h' s.toks λb o hb e=>he b o hb e
 go:=λs i o c5 v Q E ⟨hc,hd⟩ ho h=>vf hc hd ak ho h
theorem sz(hh:C.A.handled=none):EX W C I (bi a n) (M.pure ()) (λ_ _=>True) (JE a n):=by
 refine⟨λ_ _ hc=>(gA ((jT hc).1) ((jT hc).2) trivial),?_,?_,?_⟩
 ·rintro κ σ s i v o Q E _ rfl R hv hQ
  obtain⟨rfl,hi⟩:=(show∀(n:Nat) (a:Int) (i:Nat) (v:V),Mine.nth (bi a n) i=some v->v= .int (a+(i:Int))/\i<n from by
  intro n;induction n with
  |zero=>intro a i v h;simp[bi,PN]at h
  |succ n ih=>
   intro a i v h;cases i with
   |zero=>simp only[bi,VI,Option.some.injEq]at h;exact⟨by(refine(h) ▸?_);simp,zaA _⟩
   |succ i=>
    refine de (ih _ _ _ h) λh1 h2=>?_;exact⟨by rw[h1];exact Yd V.int ((Zy ..).trans (Yd (a+·) (Z1 1 _))),ZH ‹_›⟩) _ _ _ _ hv
  refine wpAny_pyNext_range_item (x:=a+(i:Int)) (left:=(n:Int) - (i:Nat)) (step:=1) R.there.1 (Int.sub_pos_of_lt (zaF.mpr hi)) λh' Em hs=>?_;refine hQ (.int (a+(i:Int)) s.toks) (itR (a+((i+1:Nat):Int)) ((n:Int) - ((i+1:Nat):Int))) h' _ (eJ _ _) rfl ?_ (kt hs);rw[(show a+((i+1:Nat):Int)=a+(i:Int)+1 from(Zy a i 1).symm),(show(n:Int) - ((i+1:Nat):Int)=(n:Int) - (i:Nat) - 1 from(Int.sub_sub n i 1).symm)];exact Em
 ·rintro κ σ s o Q E _ rfl R hQ
  rw[(show∀(n:Nat) (a:Int),(bi a n).length=n from by
  intro n;induction n with
  |zero=>intro a;rfl
  |succ n ih=>intro a;simp[bi,ih])]at R
  exact wpAny_pyNext_range_end hh R.there.1 (by rw[Int.sub_self];decide) λh' he=>hQ h' s.toks λb o hb e=>he b o hb e
 ·rintro s i o c5 v Q E rfl ho h;exact vf (T:="range_iterator") rfl rfl ak ho h
theorem to(h:jn t i vs σ=some (res,σ')):nth (σ.heap t) i=some (.list vs)/\res= .ok ()/\σ'=σ:=by
 refine U (iV h) λo e g=>?_
 (refine U (l5 g) λus q2 g=>?_;subst q2)
 obtain⟨hb,g2⟩:=cQ g;obtain rfl:=V.beqs_iff.mp hb;exact⟨e,ao g2⟩
theorem zd(hh:C.A.handled=none):EX W C I vs (jn t i0 vs) (λκ σ=>κ.at_ t i0 false=some l/\nth (σ.heap t) i0=some (.list vs)) (FR l) where
 keep:=by
  rintro κ cL σ σ' dp res ⟨h1,_⟩ le hc;refine dW (to hc) λe1 e2 e3=>?_;exact(lU ⟨_,e2⟩ e3 (le.at_ h1) e1)
 item:=by
  rintro κ σ s i v o Q E ⟨h1,h2⟩ ⟨hc,hd⟩ R hv hQ;refine uS (R.held) λm aw frs r _=>?_;refine cZ (r.nr.obj h2) λa' iK kk g1 g2 g3=>?_;rw[h1]at g1;obtain rfl:=Yi g1;refine U (g3.nth hv) λu hu Ik=>?_;refine wpAny_pyNext_list_item (aM o (R.there.1) hc hd) (⟨_,(r.N _ (X6 _ g2)).1,rfl,_,rfl⟩) (by simpa using hu) λh' Em hs=>?_
  (refine a8 Em λo' n0 Qg nq=>?_;clear Em)
  exact hQ u o' h' s.toks Ik ⟨Qg,nq⟩ n0 (kt hs)
 done:=by
  rintro κ σ s o Q E ⟨h1,h2⟩ ⟨hc,hd⟩ R hQ;refine hg λcg kg=>?_;refine uS (R.held) λm aw frs r _=>?_;refine cZ (r.nr.obj h2) λa' iK kk g1 g2 g3=>?_;rw[h1]at g1;obtain rfl:=Yi g1;refine kg ?_;exact wpAny_pyNext_list_end hh (aM o (R.there.1) hc hd) (⟨_,(r.N _ (X6 _ g2)).1,rfl,_,rfl⟩) (by rw[g3.length];simp) λh' he=>hQ h' s.toks λb o hb e=>he b o hb e
 go:=λs i o c5 v Q E ⟨hc,hd⟩ ho h=>vf hc hd ak ho h
def kb(e:Expr):Bool:= !Nat.beq e.ctorIdx 7
theorem oV(h:kb e=true):∀x,foldedSetIterable e env x=pure x:=by
 cases e<;>first|(cases h;done)|(intro x;rfl)
theorem yX(hh:C.A.handled=none)(P6:kb e=true)(he:SndE W C e mx)(hA:∀I o,yD W (C.hold I o) c5 (Mine.assign ih t))(hB:∀I o,cw (λe x=>SndS W (C.hold I o) e (ih.s x)) body xb):
  SndS W C (.For c5 e body [] pos) (M.bind mx λv=>match v with
   | .tup vs=>M.calm (bX ih (M.pure ()) t xb vs)
   | .obj s i=>M.bind (M.get s i) λo=>M.kL o λvs=>M.gd (Nat.ble vs.length ay) (M.calm (bX ih (jn s i vs) t xb vs))
   |_=>M.fail):=by
 intro κ σ res σ' h s Q E R k;refine wpAny_For ?_ (oV P6);refine bV.bind (he κ σ) h R k λam ai v u aE le hv ar ap k₁=>?_;cases v with
 |tup vs=>
  (refine U (eA ap) λf q2 aT=>?_;subst q2)
  (refine a9 (hv.tup) λl xs q3 g1 g2=>?_;subst q3)
  refine iter_tuple (ar.isTup g1) ?_;rcases ar.hold (tk:=aE.toks) (o:={cls:= .type "tuple_iterator",data:= .fields #[.ref l, .int 0 0]})with bE|hf
  ·exact lD (Da (l:=l) hh) (hA _) (hB _) (al xs g1 g2) ⟨rfl,rfl⟩ bE aT λcL s' ya R' g hg=>k₁ cL s' ya g hg R'
  ·exact nf hf
 |obj t' i'=>
  refine U (iV ap) λo ho g=>?_
  (refine U (l5 g) λvs q2 g=>?_;subst q2)
  obtain⟨_,g⟩:=cQ g
  (refine U (eA g) λf q2 aT=>?_;subst q2)
  (refine U (hv.obj) λp q2 ww=>?_;subst q2)
  refine bj (id ar) λm aw frs r=>?_;refine cZ (r.nr.obj ho) λa' iK kk g1 g2 g3=>?_;obtain rfl:=si (ww.symm.trans g1);have hL:aE.heap.IsList p iK.toArray:=⟨_,(r.N _ (X6 _ g2)).1,rfl,_,rfl⟩;refine wpAny_pyIter_list hL ?_;rcases ar.hold (tk:=aE.toks) (o:={cls:= .type "list_iterator",data:= .fields #[.ref p, .int 0 0]})with bE|hf
  ·exact lD (zd (l:=p) hh) (hA _) (hB _) ⟨ww,ho⟩ ⟨rfl,rfl⟩ bE aT λcL s' ya R' g hg=>k₁ cL s' ya g hg R'
  ·exact nf hf
 |_=>exact nt ap
end
section
variable{W:SW}{C:Cx}{κ:Kn}{σ:St}{s:Shared}
theorem oC(h:cA b=true): -1000000<=b/\b<=1000000:=⟨YN (an h).1,YN (an h).2⟩
theorem kN{a b:Int}(hn:n=(b - a).toNat)(ha:cA a=true)(hb:cA b=true)(R:bA W C κ σ s)(hr:IsRange s.heap r a b 1 t u w)(hQ:∀I,bA W (C.hold I (itR (a+((0:Nat):Int)) ((n:Int) - (0:Nat)))) κ σ {s with heap:=s.heap.push (itR (a+((0:Nat):Int)) ((n:Int) - (0:Nat)))}->Q (.ref I) {s with heap:=s.heap.push (itR (a+((0:Nat):Int)) ((n:Int) - (0:Nat)))}):
  wpAny (model W.prog W.w) C.A (pyIter (.ref r)) Q E s:=by
 have h1:=oC ha;have h2:=oC hb;refine wpAny_pyIter_range hr (small_one (YL ak h1.1) (ZW h1.2 ak) (YL ak h2.1) (ZW h2.2 ak)) ?_
 rw[(show({cls:= .type "range_iterator",data:= .fields #[rawInt a,rawInt (Builtin.Range.rangeSize a b 1),rawInt 1]}:Obj)=itR (a+((0:Nat):Int)) ((n:Int) - (0:Nat))from by
  rw[(show Builtin.Range.rangeSize a b 1=(n:Int)from by
  rw[rangeSize_one,hn];split
  ·exact(YR (Int.sub_nonneg_of_le (Int.le_of_lt ‹_›))).symm
  ·rw[Int.toNat_eq_zero.mpr (Int.sub_nonpos_of_le (zaT.mp ‹_›))];rfl)];unfold itR;simp)]
 rcases R.hold (tk:=s.toks) (o:=itR (a+((0:Nat):Int)) ((n:Int) - (0:Nat)))with bE|hf
 ·exact hQ _ bE
 ·exact nf hf
theorem vK(hh:C.A.handled=none)(hk:C.scope.kind= .function)(hl:C.scope.names.lookup ("range":Str)=some .globalImplicit)(hn:nsIn W.K mainGlobals ("range":Str)=some none)(gF:es.all noStar=true)(hs:cw (λe x=>SndE W C e (ih.e x)) es xs)(hA:∀I o,yD W (C.hold I o) c5 (Mine.assign ih t))(hB:∀I o,cw (λe x=>SndS W (C.hold I o) e (ih.s x)) body xb):
  SndS W C (.For c5 (.Call (.Name "range" np) es [] cp) body [] pos) (M.bind (kK ih xs) λvs=>M.of (f0 vs) λl=>M.calm (bX ih (M.pure ()) t xb l)):=by
 intro κ σ res σ' h s Q E R k;refine wpAny_For ?_ (oV rfl);refine ZZ ?_;refine bj (id R) λm aw frs r=>?_;refine name_B r.F W.X W.T hn (by rfl) ak ?_ hk hl ak;refine PyProof.Rows.callWith_type (gi gF) ?_
 let z0:=model W.prog W.w
 have Ea:∀am ai vs us aE,κ.Le am->cI W am vs us->bA W C am ai aE->M.of (f0 vs) (λl=>M.calm (bX ih (M.pure ()) t xb l)) ai=some (res,σ')->bF W C (Eo W) Q E res am σ'->
   wpAny z0 C.A (call (.type "range") us) (λx aE=>wpAny z0 C.A (pyIter x) (λit c9=>codeAny z0 C.A (.forLoop c5 it body [] C.env) (λr s'=>match r with| .ok f=>Q f s'| .error e=>cameBackBy z0 C.A C.env E e s') c9) E aE) E aE:=by
  intro am ai vs us aE le hv ar ap k₁;refine U (gH ap) λl hr g=>?_
  (refine U (eA g) λf q2 aT=>?_;subst q2)
  cases vs with
  |nil=>exact nt hr
  |cons v vs=>
   (refine U (pf hr) λa q2 Lm=>?_;subst q2)
   (refine a9 (hv.cons) λu us q3 hu Tf=>?_;subst q3)
   obtain⟨tt,rfl⟩:=hu.int;cases vs with
   |nil=>
    refine hg λcg kg=>?_;obtain⟨hb,e⟩:=bY Lm;obtain rfl:=si e;obtain rfl:=Tf.nil;refine kg ?_;refine call_range_1 ?_;refine kN (a:=0) (b:=a) (n:=a.toNat) (by rw[Int.sub_zero]) ak hb ((ar.push (o:={cls:= .type "range",data:= .fields #[.int 0 aE.toks, .int a tt, .int 1 (aE.toks+1)]})).toks (n:=aE.toks+1+1)) (IsRange.new _ _ _ _ _ _ _) λI bE=>?_;exact lD (sz (a:=0) (n:=a.toNat) hh) (hA _) (hB _) trivial rfl bE aT λcL s' ya R' g hg=>k₁ cL s' ya g hg R'
   |cons v2 vs=>
    (refine U (pf Lm) λb q2 We=>?_;subst q2)
    obtain⟨hb,e⟩:=bY We;obtain rfl:=si e;obtain rfl:=YF.mp (an hb).1
    (refine a9 (Tf.cons) λu2 us q3 P2 Wb=>?_;subst q3)
    obtain⟨Vk,rfl⟩:=P2.int;obtain rfl:=Wb.nil;refine call_range_2 ?_;refine kN (a:=a) (b:=b) (n:=(b - a).toNat) rfl (an (an hb).2).1 (an (an hb).2).2 ((ar.push (o:={cls:= .type "range",data:= .fields #[.int a tt, .int b Vk, .int 1 aE.toks]})).toks (n:=aE.toks+1)) (IsRange.new _ _ _ _ _ _ _) λI bE=>?_;exact lD (sz (a:=a) (n:=(b - a).toNat) hh) (hA _) (hB _) trivial rfl bE aT λcL s' ya R' g hg=>k₁ cL s' ya g hg R'
 cases es with
 |nil=>
  cases xs with
  |cons _ _=>exact hs.elim
  |nil=>
   refine evalArgs_nil3 ?_;exact Ea κ σ [] [] s (Kn.Le.refl κ) (by rfl) R h k
 |cons e rest=>
  have h0:wpAny z0 C.A (spliced (backTo cp (starEach (e::rest) C.env))) (λus aE=>wpAny z0 C.A (call (.type "range") us) (λx aE=>wpAny z0 C.A (pyIter x) (λit c9=>codeAny z0 C.A (.forLoop c5 it body [] C.env) (λr s'=>match r with| .ok f=>Q f s'| .error e=>cameBackBy z0 C.A C.env E e s') c9) E aE) E aE) E s:=by
   refine bV.bind (mw hs (gP gF) κ σ) h R k λam ai vs us aE le hv ar ap k₁=>?_;exact Ea am ai vs us aE le hv ar ap k₁
  rw[(hG (rest:=rest) (env:=C.env) (e:=e) (by simp only[Zs,Ye]at gF;exact gF.1))]at h0⊢;exact Calls.evalArgs_plain h0
theorem Fw(hc:∀m,m<n->SndT W C test ((run P m).b c))(hb:∀m,m<n->cw (λe x=>SndS W C e ((run P m).s x)) body xb):
  SndS W C (.While test body [] pos) ((run P n).s (.wh c xb)):=by
 intro κ σ res σ' h s Q E R k;refine wpAny_While ?_
 obtain⟨f,rfl⟩:=(show∃f,res= .ok f from by
  cases n with
  |zero=>exact nt h
  |succ n=>
   refine U (eA (show M.calm _ σ=some (res,σ')from h)) λf e _=>?_;exact⟨f,e⟩)
 refine codeAny_whileLoop (λj s=>∃am ai,j<=n/\κ.Le am/\bA W C am ai s/\(run P j).s (.wh c xb) ai=some (.ok f,σ')) ?_ n (cj κ σ (Yv _) (Kn.Le.refl _) R h);rintro j aE ⟨am,ai,hj,le,ar,ap⟩;cases j with
 |zero=>exact nt ap
 |succ j=>
  refine U (eA (show M.calm (M.bind ((run P j).b c) λt=>match t with
   |false=>M.pure .next
   |true=>M.bind (Mine.execs (run P j) xb) λf=>match f with
    | .next=>(run P j).s (.wh c xb)
    | .ret v=>M.pure (.ret v)) ai=some (.ok f,σ')from ap)) λf' e aT=>?_
  cases e;refine bS (H9 aT) λt bH ht fq=>?_;refine hc j hj am ai _ _ ht _ _ _ ar λbM c9 aY t' e bE=>?_;subst e;cases t with
  |false=>
   refine hg λcg kg=>?_;obtain⟨e1,rfl⟩:=sp fq;cases e1;refine kg ?_;rw[YM ak];exact zaH (k bM c9 (le.trans aY) _ rfl bE)
  |true=>
   rw[Ze rfl];refine bS (H9 fq) λg n9 hx yt=>?_;refine dl (hb j hj) bM bH _ _ hx _ _ _ bE λjj pb dw gg hg lc=>?_;cases g with
   |ret v=>
    obtain⟨e1,rfl⟩:=sp yt;cases e1
    (refine U hg λu q2 hv=>?_;clear hg;subst q2)
    exact k jj pb ((le.trans aY).trans dw) _ (al u rfl hv) lc
   |next=>
    subst hg;exact⟨j,Z5 j,jj,n9,Nat.le_of_succ_le hj,(le.trans aY).trans dw,lc,yt⟩
end
section
variable{M:Model}{A:Around}{E:Value->Shared->Prop}{h:Heap}{g:Array GenState}{d:Drawn}{t:Nat}{os:OsState}
variable{nm q:Str}{C N:Addr}{bs bm:List Value}{hdct:Bool}{sn:List Str}{sub:List Value}{ab:Bool}{col:Option Bool}{dd:Option Addr}{k0 k1 k2 k3 k5:Option Value}{Bn newId nA:String}{yh:List Value}
theorem zC(Fn:ExcBaseFacts Bn newId nA yh)(KO:bm.contains (.type Bn)=true){rest:List Value}{Q:Unit->Shared->Prop}(hC:h.get? C=some (excClassObj nm q C N bs bm hdct sn sub ab col dd k0 k1 k2 k3 k5 newId))(hq:Q () ⟨h,g,d,t,os⟩):wpAny M A (checkBuiltinCall newId ⟨.ref C::rest, []⟩) Q E ⟨h,g,d,t,os⟩:=by
 have NB:(Value.ref C::bm).contains (.type Bn)=true:=by rw[ZV,KO,Bool.or_true]
 have Ua:=Fn.noStar;simp only[checkBuiltinCall,Fn.newKind,Fn.newSplit,Fn.newRow]
 repeat (first|refine ZG hC ?_|(refine zaf hC ?_;rw[NB])|refine wpAny_staticBase_exc hC ?_|refine wpAny_madeBy_exc hC ?_|simp only[bne_self_eq_false,Bool.false_eq_true,if_false]|wp_step)
 exact hq
def dk(C t:Addr):Obj:={cls:= .ref C,data:= .fields #[.ref t, .none, .none, .none, .bool false, .none]}
def eZ(vs:List Value):Obj:={cls:= .type "tuple",data:= .seq vs.toArray}
end
section
variable{prog:Program}{w:World}{A:Around}{R:Result->Shared->Prop}{h:Heap}{g:Array GenState}{d:Drawn}{t:Nat}{os:OsState}
variable{nm q:Str}{C N:Addr}{bs bm:List Value}{hdct:Bool}{sn:List Str}{sub:List Value}{ab:Bool}{col:Option Bool}{dd:Option Addr}{k0 k1 k2 k3 k5:Option Value}{Bn newId nA:String}{yh:List Value}
theorem Gc(Fn:ExcBaseFacts Bn newId nA yh)(KO:bm.contains (.type Bn)=true)(hA:bm.contains (.type "AttributeError")=false)(Ql:bm.contains (.type "NameError")=false){rest:List Value}(hC:h.get? C=some (excClassObj nm q C N bs bm hdct sn sub ab col dd k0 k1 k2 k3 k5 newId))(hq:R (.ok (.ret (.ref (h.objs.size+1)))) ⟨(h.push (eZ rest)).push (dk C h.objs.size),g,d,t,os⟩)(Hy:rest.length<=sizeLine):
  codeAny (model prog w) A (.builtin newId ⟨.ref C::rest, []⟩) R ⟨h,g,d,t,os⟩:=by
 have Ub:=Fn.ends;have WG:(Value.ref C::bm).contains (.type Bn)=true:=by rw[ZV,KO,Bool.or_true]
 have WH:(Value.ref C::bm).contains (.type "AttributeError")=false:=by rw[ZV,hA];rfl
 have WE:(Value.ref C::bm).contains (.type "NameError")=false:=by rw[ZV,Ql];rfl
 refine codeAny_builtinAt Fn.entry ?_;unfold Builtin.«BaseException.__new__»;refine PySem.wpAt_bind ?_;show PySem.wpAt _ _ _ (stack>>=_) _ _ _;refine PySem.wpAt_bind (PySem.wpAt_stack λp Uc=>PySem.wpAt_of_wpAny ?_)
 wp_walk
 refine PySem.wpAt_of_wpAny ?_;rw[Fn.owner]
 repeat (first|with_reducible refine wpAny_madeHere_exc Fn.canon hC ?_|with_reducible refine ZG hC ?_|(with_reducible refine zaf hC ?_;first|rw[WG]|rw[WH]|rw[WE])|wp_step)
 show R _ _;rw[Heap.size_push];exact hq
theorem Dc{rest:List Value}{init:Value}(Fn:ExcBaseFacts Bn newId nA yh)(KO:bm.contains (.type Bn)=true)(hA:bm.contains (.type "AttributeError")=false)(Ql:bm.contains (.type "NameError")=false)(hC:h.get? C=some (excClassObj nm q C N bs bm hdct sn sub ab col dd k0 k1 k2 k3 k5 newId))(hi:Looks (model prog w) h (typeLookup (.ref C) "__init__") (some init))(hb:∀eW,Looks (model prog w) h (bindSpecial init eW) (init, [eW]))(Hy:rest.length<=sizeLine)(hq:codeAny (model prog w) (A.under (.builtin "type.__call__" ⟨.ref C::rest, []⟩)) (.call init ⟨.ref (h.objs.size+1)::rest, []⟩) (InitBack (h.objs.size+1) R) ⟨(h.push (eZ rest)).push (dk C h.objs.size),g,d,t,os⟩):
  codeAny (model prog w) A (.call (.ref C) ⟨rest, []⟩) R ⟨h,g,d,t,os⟩:=by
 have f1:=tc_lookup;have f2:=tc_bind (.ref C);have hT:(⟨h,g,d,t,os⟩:Shared).TypeIs (.ref C) "type":=⟨_,hC,rfl⟩;refine codeAny_of_tree ?_;show wpAny _ _ (callAny (.ref C) _) _ _ _
 repeat (any_goals (first|assumption|with_reducible refine ZG hC ?_|wp_step))
 refine⟨rfl,?_⟩;refine codeAny_call_builtin_at (Code.quiet_builtin _ (by decide+kernel)) entry_typeCall (wpAny_check_type_call_sub hC ?_)
 repeat (first|with_reducible refine ZG hC ?_|with_reducible refine wpAny_madeBy_exc hC ?_|wp_step)
 refine codeAny_call_builtin_code (Code.quiet_builtin _ Fn.quiet) (zC Fn KO hC ?_);refine Gc Fn KO hA Ql hC ?_ Hy;have k:∀b o,h.get? b=some o->((h.push (eZ rest)).push (dk C h.objs.size)).get? b=some o:=λb o e=>Y6 _ (Y6 _ e);have NE:=k _ _ hC;have Ru:((h.push (eZ rest)).push (dk C h.objs.size)).get? (h.objs.size+1)=some (dk C h.objs.size):=by heap_get
 have WF:(Value.ref C::bm).contains (.ref C)=true:=by simp
 have i1:=hi.keeps k;have b1:=(hb (.ref (h.objs.size+1))).keeps k;have t1:Looks (model prog w) ((h.push (eZ rest)).push (dk C h.objs.size)) (typeOf (.ref (h.objs.size+1))) (.ref C):=(Looks.ld Ru).andThen .now;have s1:Looks (model prog w) ((h.push (eZ rest)).push (dk C h.objs.size)) (isSubtype (.ref C) (.ref C)) true:=by
  intro A Q E s kk q;obtain⟨hh,g,d,t,os⟩:=s;refine zaf (kk _ _ NE) ?_;rw[WF];exact q
 show wpAny (model prog w) (A.under (.builtin "type.__call__" ⟨.ref C::rest, []⟩)) _ _ _ ⟨(h.push (eZ rest)).push (dk C h.objs.size),g,d,t,os⟩;unfold isInstance callSpecial? specialOf
 repeat (first|with_reducible refine zay ?_|lk)
 refine codeAny_mono hq λr s' z=>?_;rcases r with e|(v|_|_|_)<;>first|exact z|exact z.elim|skip
 obtain⟨rfl,z⟩:=z;exact Yp (Yp z)
end
end Mine
end
section
namespace Mine
open PySem PySem.W PyProof.Rows PySem.Calls Builtin Builtin.ObjectAttr
section
variable{prog:Program}{w:World}{A:Around}{K:Frag}{C x:Addr}{s:Shared}{R:Result->Shared->Prop}
theorem sW(X:K.In s.heap)(I:PySem.W.InstAt s.heap x ox C od)(hc:clsIn K C=some cd)(rq:cd.mro.contains (.type "object")=true)(ne:cd.mro.isEmpty=false)(hp:∀eW,refuseLoop eW "__setattr__" cd.mro=pure ())(ht:takerIn K C name=some none)(h:∀b,wpAny (model prog w) A.in1 (storeInOwnDict (.ref x) (.ref C) (.str name tk) name v b)
   (λEa s'=>match Ea with| .done f=>R (.ok f) s'| .again c'=>c'.quiet=true/\codeAny (model prog w) A c' R s') (λe s'=>R (.error e) s') s):
  codeAny (model prog w) A (.call (.builtin "object.__setattr__") ⟨[.ref x, .str name tk,v], []⟩) R s:=by
 have SF:=PySem.F.store_object
 let z0:=model prog w
 refine codeAny_call_builtin SF.slot.plain SF.entry (@check_slot z0 _ _ s "object.__setattr__" "object" "__setattr__" (.ref x) [.str name tk,v] [] _ SF.kind SF.split (I.type.andThen (looks_mroIn X (by unfold mroIn;rw[hc,Option.bind_some,YM (by rw[ne];decide),rq]))) (SF.args (.ref x) (.str name tk) v) ?_);refine U (Option.bind_eq_some_iff.mp ht) λattr ha hr=>?_;rw[osa_eq,refuse_eq];refine Yb (Yb (I.type.here (Yb ((show Looks z0 s.heap (mroOf (.ref C)) cd.mro from(looks_clsIn X hc).andThen .now).here ?_))));rw[hp]
 refine Yp (Yb (I.type.here (Yb ((looks_findIn X ha).here (Yb ((show Looks z0 s.heap (storeTaker? attr) none from by
  cases attr with
  |none=>exact .now
  |some a=>
   refine U (Option.map_eq_some_iff.mp hr) λb hb e=>?_;refine(looks_takesIn X hb).andThen ?_;cases b
   ·exact .now
   ·cases e).here ?_))))))
 exact h _
set_option tactic.hygienic true in
theorem r9(D:s.heap.get? dx=some (dictOf es n))(hl:(getL name es).isSome=true)(hz:(putL name (PyData.keyHash w.params name) (.str name s.toks) v es).length<=1000)(h:∀h',h'.get? dx=some (dictOf (putL name (PyData.keyHash w.params name) (.str name s.toks) v es) (PySem.W.putN name es n))->Heap.SameBut dx s.heap h'->Q (.done (.ret .none)) {s with heap:=h',toks:=s.toks+1}):
  wpAny (model prog w) A (storeInDict dx (.str name tk) name v) Q E s:=by
 refine Yb (Yp (Yb ?_));refine Yb (Yb (wpAny_askSetting (Yp (Yb (wpAny_mkText (Yb (wpAny_loadPart D ?_)))))));have c:(!es.toArray.any (·.key.isStr name)&&es.toArray.any (·.refKey))=false:=by
  rw[<-Array.any_toList,<-Array.any_toList];unfold getL at hl;split at hl
  ·rename_i en he;rw[zax.mpr (al en (List.mem_of_find?_eq_some he) (List.find?_some he))];rfl
  ·split at hl
   ·exact nf hl
   ·rename_i z;rw[Z8]at z;rw[z,Bool.and_false]
 dsimp only;rw[aRefKeyMayBeTheName_at,c];refine wpAny_updatePart D ?_;have D':=Z2 (Obj.putName name (PyData.keyHash w.params name) (.str name s.toks) v) D (by rw[putName_dict];rfl);rw[putName_dict]at D';refine Yb (wpAny_lookBehind D' (pastItsLine_dict (by rw[List.size_toArray,sizeLine_eq];exact Yc ‹_› ak)) ?_);exact Yp (h _ D' (Heap.SameBut.update ..))
theorem DG(X:K.In s.heap)(I:PySem.W.InstAt s.heap x ox C (some (dictOf es n)))(hd:ox.dict=some dx)(hc:clsIn K C=some cd)(rq:cd.mro.contains (.type "object")=true)(ne:cd.mro.isEmpty=false)(hp:∀eW,refuseLoop eW "__setattr__" cd.mro=pure ())(ht:takerIn K C name=some none)(hh:cd.hasDict=true)(hl:(getL name es).isSome=true)(hz:(putL name (PyData.keyHash w.params name) (.str name s.toks) v es).length<=1000)(h:∀h',h'.get? dx=some (dictOf (putL name (PyData.keyHash w.params name) (.str name s.toks) v es) (PySem.W.putN name es n))->Heap.SameBut dx s.heap h'->R (.ok (.ret .none)) {s with heap:=h',toks:=s.toks+1}):
  codeAny (model prog w) A (.call (.builtin "object.__setattr__") ⟨[.ref x, .str name tk,v], []⟩) R s:=by
 refine sW X I hc rq ne hp ht λb=>?_;refine hg λcg kg=>?_;obtain⟨hx,Tt,hn,hD⟩:=I;obtain⟨oc,XR,XS,PC⟩:=ox;dsimp only at Tt hd hD;subst Tt hd;refine kg ?_;refine Yb (Yp (Yb (Yb (wpAny_loadPart hx (Yb ((looks_clsIn X hc).here ?_))))))
 (refine(hh).symm ▸?_)
 refine Yp (a:=some dx) ?_;exact r9 hD hl hz λh' a b=>h h' a b
theorem zB(X:K.In s.heap)(hx:s.heap.get? x=some ⟨.ref C,none, .fields vs,#[]⟩)(hc:clsIn K C=some cd)(rq:cd.mro.contains (.type "object")=true)(ne:cd.mro.isEmpty=false)(hp:∀eW,refuseLoop eW "__setattr__" cd.mro=pure ())(ht:takerIn K C name=some none)(hh:cd.hasDict=true)(h:∀h',h'.get? s.heap.objs.size=some (dictOf [⟨PyData.keyHash w.params name, .str name s.toks,v⟩] 1)->h'.get? x=some ⟨.ref C,some s.heap.objs.size, .fields vs,#[]⟩->(∀b o,b≠x->s.heap.get? b=some o->h'.get? b=some o)->R (.ok (.ret .none)) {s with heap:=h',toks:=s.toks+1}):
  codeAny (model prog w) A (.call (.builtin "object.__setattr__") ⟨[.ref x, .str name tk,v], []⟩) R s:=by
 refine sW (ox:=⟨.ref C,none, .fields vs,#[]⟩) (od:=none) X ⟨hx,rfl,rfl,trivial⟩ hc rq ne hp ht λb=>?_;refine Yb (Yp (Yb (Yb (wpAny_loadPart hx (Yb ((looks_clsIn X hc).here ?_))))))
 (refine(hh).symm ▸?_)
 refine Yb (wpAny_alloc ?_);have Ij:=Y6 {cls:= .type "dict",data:= .dict #[]} hx;have uo:=Zm (Zj hx);refine Yb (wpAny_update Ij (Yp ?_));refine r9 (es:= []) (n:=0) (dx:=s.heap.objs.size) ((Zo (s.heap.push {cls:= .type "dict",data:= .dict #[]}) (λo=>{o with dict:=some s.heap.objs.size}) uo).trans (ZO s.heap rfl)) rfl (by simp[putL]) λh' g1 g2=>?_;refine h h' g1 ((g2.2 x uo).trans (Z2 (λo=>{o with dict:=some s.heap.objs.size}) Ij rfl)) λb o hb e=>?_;rw[g2.2 b (Zm (Zj e)),Zo _ _ (ZC hb)];exact Y6 _ e
end
def jp:List Value:= [.type "Exception", .type "BaseException", .type "object"]
def pN(l:List Value):Prop:=(∃a,l= .ref a::jp)\/∃a b,l= .ref a:: .ref b::jp
def HE(l:List Value):Addr:=AI (l.tail.head?.getD .none)
theorem kO(eW:Value)(h:pN l):refuseLoop eW "__setattr__" l=pure ():=by
 obtain⟨a,rfl⟩|⟨a,b,rfl⟩:=h
 ·rw[refuseLoop_ref];exact PySem.F.store_Exception.passes eW
 ·rw[refuseLoop_ref,refuseLoop_ref];exact PySem.F.store_Exception.passes eW
theorem gk(h:pN l):l.contains (.type "object")=true/\l.isEmpty=false/\l.contains (.type "Exception")=true/\l.contains (.type "BaseException")=true/\l.contains (.type "AttributeError")=false/\l.contains (.type "NameError")=false:=by
 obtain⟨a,rfl⟩|⟨a,b,rfl⟩:=h<;>exact(show jp.contains (.type "object")=true/\false=false/\jp.contains (.type "Exception")=true/\jp.contains (.type "BaseException")=true/\jp.contains (.type "AttributeError")=false/\jp.contains (.type "NameError")=false from by decide)
def qn(K:Frag)(C:Addr)(x:Str):Bool:=findIn K (.ref C) "__setattr__"==some (some (.builtin "object.__setattr__"))&&takerIn K C x==some none&&(clsIn K C).any λcd=>cd.hasDict&&cd.mro== .ref C:: .ref (HE cd.mro)::jp
def DY(W:SW)(x:Nat):Prop:=∀c C,W.cls c=some C->W.P.isExc c=true->jF c x=true->qn W.K C (W.nm x)=true
section
variable{W:SW}{C:Cx}{κ:Kn}{σ:St}{s:Shared}
theorem NR.grow(R:NR W κ aw H)(nd:(aw.map (·.1)).Nodup){t i:Nat}{d dx:Addr}(hd:κ.at_ t i false=some d)(hm:(d,o)∈aw)(nt:o.cls≠ .type "tuple")(hi:i<(H t).length)(Ia:κ.at_ t i true=none)(hx:dx∉aw.map (·.1))(ho:gB W (κ.add t i true dx) ((dx,od)::bU d o' aw) t i mo):NR W (κ.add t i true dx) ((dx,od)::bU d o' aw) (λt'=>match Nat.beq t' t with|true=>setNth mo (H t) i|false=>H t'):=by
 have len:∀s',(match Nat.beq s' t with|true=>setNth mo (H t) i|false=>H s').length=(H s').length:=λs'=>by
  cases q:Nat.beq s' t with
  |true=>have:=Yh q;subst this;exact fg
  |false=>rfl
 let z0:=κ.add t i true dx
 have Ii:∀{s1 i1 b1 y},z0.at_ s1 i1 b1=some y->(s1=t/\i1=i/\b1=true/\y=dx)\/(κ.at_ s1 i1 b1=some y/\y∈aw.map (·.1)):=λ{s1 i1 b1 y} e=>by
  refine bc (s1=t/\i1=i/\b1=true) (λq1=>?_) λq1=>?_
  ·(refine dW q1 λq1 q2 q3=>?_;subst q1;subst q2;subst q3)
   rw[Kn.add_self]at e;obtain rfl:=Yi e;exact .inl (lU rfl rfl rfl rfl)
  ·rw[Kn.add_ne q1]at e;exact .inr ⟨e,(R.dom e).2⟩
 have kU:∀{s1 i1 o1},¬(s1=t/\i1=i)->nth (H s1) i1=some o1->gB W z0 ((dx,od)::bU d o' aw) s1 i1 o1:=λ{s1 i1 o1} hn e=>
  (R.obj e).keep (Kn.le_add Ia) (λh=>by rw[Kn.add_ne (λq=>hn ⟨q.1,q.2.1⟩)];exact h) λb' x ob hx h=>Yy _ (bQ h λq=>by
   have:=R.inj hx (q ▸ hd);exact hn ⟨this.1,this.2.1⟩)
 refine⟨λh=>(Kn.le_add Ia).tup (R.known h),λ{s1 i1 b1 s2 i2 b2 y} e1 e2=>?_,λ{s1 i1 b1 x} e=>?_,λ{s1 i1 o1} e=>?_,λ{a vs} e=>?_⟩
 ·rcases Ii e1 with⟨r1,r2,r3,r4⟩|⟨r1,r2⟩<;>rcases Ii e2 with⟨p1,p2,p3,p4⟩|⟨p1,p2⟩
  ·exact⟨r1.trans p1.symm,r2.trans p2.symm,r3.trans p3.symm⟩
  ·exact absurd (r4 ▸ p2) hx
  ·exact absurd (p4 ▸ r2) hx
  ·exact R.inj r1 p1
 ·rw[len];simp only[Yn,cH];rcases Ii e with⟨rfl,rfl,_,rfl⟩|⟨r1,r2⟩
  ·exact⟨hi, .head _⟩
  ·exact⟨(R.dom r1).1, .tail _ r2⟩
 ·cases q:Nat.beq s1 t with
  |true=>
   have:=Yh q;subst this;rw[q]at e;rcases iY e with⟨rfl,rfl⟩|⟨h,e⟩
   ·exact ho
   ·exact kU (λz=>h z.2) e
  |false=>
   rw[q]at e;exact kU (λz=>Zn q z.1) e
 ·refine U (R.tup e) λob a1 a2=>?_;refine(al ob a1 (a2.imp (λh=>Yy _ (bQ h λq=>?_)) id));exact nt ((show ob=o from cK nd (q ▸ h) hm) ▸ a1.1)
theorem yW(hx:DY W x):mB W x:=by
 intro C κ σ s t i c fs v p u Q E hc V6 ho h1 hv hl R k;refine hg λcg kg=>?_;refine bj (id R) λm aw frs r=>?_;refine a9 (r.nr.obj ho) λCc a h0 h2 h3=>?_;rw[h1]at h2;obtain rfl:=Yi h2;have hb:=hx _ _ h0 hc V6;unfold qn at hb;simp only[Ye,zaj]at hb
 (refine de hb λq1 b3=>?_;clear hb;obtain⟨b1,b2⟩:=q1)
 refine U (any_some b3) λcd O1 b4=>?_;simp only[Ye]at b4;obtain⟨b4,b5⟩:=b4;have b5:pN cd.mro:= .inr (uR Cc _ (eq_of_beq b5));refine dW (gk b5) λq1 q2 _=>?_;have hX:=W.X.keeps r.F.keep;refine kg ?_;rcases h3 with⟨e,_⟩|⟨_,tt,⟨x0,x1,x2⟩|⟨d,es,n,x1,x2,x3,x4⟩⟩
 ·rw[hc]at e;exact ng e
 let z1:=aV x2
 ·subst x0;refine set_plain (K:=W.K) hX (ox:=⟨.ref Cc,none,bC tt,#[]⟩) (od:=none) ⟨((r.N _ (X6 frs x2)).1),rfl,rfl,trivial⟩ b1 ?_;refine zB (s:={s with toks:=s.toks+1}) (K:=W.K) (C:=Cc) hX ((r.N _ (X6 frs x2)).1) O1 q1 q2 (λeW=>kO eW b5) b2 b4 λh' g1 g2 g3=>?_;have lo:=gM r;have O0:=r.fresh lo;rw[Yo,Yq]at O0;have le:κ.Le (κ.add t i true s.heap.objs.size):=Kn.le_add x1;have bp:=(r.N _ (X6 frs x2)).2;have SK:=r.nodup_cons (l:=s.heap.objs.size) (o:=dict0) lo;refine k _ _ le () trivial (b7 m ((s.heap.objs.size,dictOf [⟨PyData.keyHash W.w.params (W.nm x), .str (W.nm x) (s.toks+1),u⟩] 1)::bU p ⟨.ref Cc,some s.heap.objs.size,bC tt,#[]⟩ aw) frs ⟨(⟨r.F.ns.at' λo e=>g3 _ _ (λq=>bp.1 q.symm) e,λb o e=>g3 b o (λq=>by rw[q,bp.2]at e;cases e) (r.F.keep b o e),r.F.above⟩),λq hq=>?_,?_,r.frs,?_,r.env.mono le,r.gens,r.os⟩)
  ·rcases X9.mp hq with rfl|hq
   ·exact(gA g1 (Y9 r.F.ns.lt) ((r.F.fresh)))
   ·refine(Yq.mp hq).elim (λhq=>?_) λhq=>?_
    ·skip;by_cases e:q.1=p
     ·have:q.2=⟨.ref Cc,some s.heap.objs.size,bC tt,#[]⟩:=by
       refine cK (d:=p) (l:=bU p ⟨.ref Cc,some s.heap.objs.size,bC tt,#[]⟩ aw) (by rw[cH];exact r.ndT) (by obtain⟨q1,q2⟩:=q;subst e;exact hq) (aH (o:=⟨.ref Cc,some s.heap.objs.size,bC tt,#[]⟩) z1)
      (refine(e).symm ▸?_;refine(this).symm ▸?_)
      exact⟨g2,bp⟩
     ·have hold:q∈aw:=by
       refine U (YD.mp (by rw[<-cH p ⟨.ref Cc,some s.heap.objs.size,bC tt,#[]⟩ aw];exact YH hq)) λq' Ln e'=>?_;have:=cK (l:=bU p ⟨.ref Cc,some s.heap.objs.size,bC tt,#[]⟩ aw) (d:=q.1) (by rw[cH];exact r.ndT) (by rw[<-e'];exact(bQ (o:=⟨.ref Cc,some s.heap.objs.size,bC tt,#[]⟩) Ln (by(refine(e').symm ▸?_);exact e))) hq;have:=Prod.ext e' this
       (refine(this) ▸?_);exact Ln
      exact⟨(λq hq hn=>g3 _ _ hn (r.N q hq).1) q (X6 _ hold) e,(r.N q (X6 _ hold)).2⟩
    ·skip
     exact⟨(λq hq hn=>g3 _ _ hn (r.N q hq).1) q (Yk _ hq) (λe=>by
      have nd:=r.nd;rw[Yo,YB]at nd;exact nd.2.2 _ z1 _ (YH hq) e.symm),(r.N q (Yk _ hq)).2⟩
  ·rw[YY,Yn,Yo,cH,<-Yo];rw[YY,Yn]at SK;exact SK
  ·refine r.nr.grow r.ndT h1 x2 (by exactλe=>by cases e) (pC ho) x1 (λh=>O0 (.inl h)) ?_;refine(aZ Cc p h0 (le.at_ h1) (.inr ⟨hc,tt, .inr (pg (s.heap.objs.size) _ (1) (Kn.add_self) (.tail _ (aH z1)) (.head _) ?_)⟩));exact(cj _ ([]) rfl ⟨_,rfl⟩ (hv.mono le) rfl)
 let z0:=X6 frs x3
 ·skip;refine set_plain (K:=W.K) hX (ox:=⟨.ref Cc,some d,bC tt,#[]⟩) (od:=some (dictOf es n)) ⟨((r.N _ (X6 frs x2)).1),rfl,rfl,((r.N _ z0).1)⟩ b1 ?_
  refine DG (s:={s with toks:=s.toks+1}) (K:=W.K) (C:=Cc) hX ⟨((r.N _ (X6 frs x2)).1),rfl,rfl,((r.N _ z0).1)⟩ rfl O1 q1 q2 (λeW=>kO eW b5) b2 b4 (sU x4) (by
   rw[xE (lJ hv x4)];exact Yc sr (Yc (YX ‹fs.length<=500›) ak)) λh' g1 g2=>?_
  refine cT ((ju r.nd z0).split) λpre post e1 e2 ea eb=>?_
  exact k.done (a:=()) trivial (b7 m _ frs ((r.put (t:=t) (i:=i) (b:=true) (d:=d) (mo:= .inst c (Mine.putN x v fs)) (s':={s with heap:=h',toks:=s.toks+2}) x1 x3 (by show Value.type "dict"≠Value.type "tuple";decide) (r.F.change g2 (r.N _ z0).2.1 (r.N _ z0).2.2) (by
   rw[e2];have N0:=r.N;rw[e1]at N0;exact N0.setIn ea eb g2 g1)
   (aZ Cc p h0 h1 (.inr ⟨hc,tt, .inr (pg d _ _ x1 (bQ x2 (λe=>by
   have:=r.nr.inj h1 (e ▸ x1);cases this.2.2)) (aH (aV x3)) (lJ hv x4))⟩)) rfl rfl)))
end
end Mine
end
section
namespace Mine
open PySem PySem.W PyProof.Rows PySem.Calls
def Am(h h':Heap):Prop:=∀b o,h.get? b=some o->(∀vs,o.data≠ .fields vs)->∃sl,h'.get? b=some {o with slots:=sl}
theorem Am.trans(x:Am ap aT)(y:Am aT fq):Am ap fq:=λb o e n=>by
 refine eY (x b o e n) λsl e1=>?_;refine eY (y b _ e1 n) λVr e2=>?_;exact⟨Vr,e2⟩
section
variable{M:Model}{A:Around}{E:Value->Shared->Prop}{s:Shared}
theorem B6(nC:A.frames=some (env::outer))(hl:s.heap.FunFrames base (env::outer))(hf:env.frame=some L)(he:s.heap.get? e=some ⟨cls,some dx, .fields vs,#[]⟩)(Im:base.StaysIn s.heap)(Ls:base.get? e=none)(hsz:1<vs.size)(h:∀h',base.StaysIn h'->h'.FunFrames base (env::outer)->dO h' base e cls dx (rawInt L)->Am s.heap h'->Q () {s with heap:=h'}):
  wpAny M A (do setField (.ref e) 1 (<-EntryCells.newEntry head (<-frameOf env) .none (rawInt L) .none (<-entryPlaceOf L hadNext))) Q E s:=by
 refine Yb (wpAny_frameOf_fun nC hl hf λap oo=>?_);refine Yb (wpAny_entryPlaceOf λpl Wi=>?_);refine Yb (ZY ?_ (Wi.sizeOk5 _ _ _ _ _))
 have wL:=(oo.2.1 e (λhm=>by
  obtain⟨_,o,ho,n6⟩:=hl.mem hm;rw[he]at ho;injection ho with ho;subst ho;exact n6 vs rfl)).trans he
 have Hs:base.StaysIn ap:=λb o uC=>(oo.2.1 b λhm=>by rw[(hl.mem hm).1]at uC;cases uC).trans (Im b o uC);generalize hT:({cls:= .type "traceback",dict:=none,data:= .fields ([head, .ref L, .none,rawInt L, .none]++(if pl.isEmpty then List.replicate 6 Value.none else pl)).toArray}:Obj)=oT;refine wpAny_setField (Y6 (h:=ap) oT wL) rfl hsz ?_;have keep:∀b o,b≠e->ap.get? b=some o->((ap.push oT).update e (Obj.mapFields (·.setIfInBounds 1 (Value.ref ap.objs.size)))).get? b=some o:=λb o WK hb=>by
  rw[Zo _ _ (ZC WK)];exact Y6 _ hb
 have dU:∀b o,s.heap.get? b=some o->(∀vs,o.data≠ .fields vs)->b≠e:=λb o hb n6 q=>by
  rw[q,he]at hb;injection hb with hb;subst hb;exact n6 vs rfl
 refine h _ (λb o uC=>keep b o (λq=>by rw[q,Ls]at uC;cases uC) (Hs b o uC)) (hl.of_keeps λb o hb n6=>?_) ?_ (λb o hb n6=>?_)
 ·obtain⟨sl,hs⟩:=oo.2.2 b o hb;exact(al _ (keep b _ (dU b o hb n6) hs) rfl)
 ·refine⟨_,vs.setIfInBounds 1 (Value.ref ap.objs.size),ap.objs.size,oT,_,(Z2 (Obj.mapFields (·.setIfInBounds 1 (Value.ref ap.objs.size))) (Y6 (h:=ap) oT wL) rfl),⟨rfl,rfl,rfl⟩,rfl,by simp[hsz],Hs.fresh,(Y9 (Zj wL)),?_,(by rw[<-hT]),by rfl⟩;rw[Zo _ _ (ZC (Y9 (Zj wL)))];exact ZO _ (Obj.isFreed_of_fields (by rw[<-hT]))
 ·obtain⟨sl,hs⟩:=oo.2.2 b o hb;exact⟨sl,keep b _ (dU b o hb n6) hs⟩
theorem C9(nC:A.frames=some (env::outer))(hl:s.heap.FunFrames base (env::outer))(hf:env.frame=some L)(he:s.heap.get? e=some ⟨.ref Cc,some dx,bC t,#[]⟩)(Im:base.StaysIn s.heap)(Ls:base.get? e=none)(h:∀h',base.StaysIn h'->h'.FunFrames base (env::outer)->dO h' base e (.ref Cc) dx (rawInt L)->Am s.heap h'->Q () {s with heap:=h'}):wpAny M A (noteFrame (.ref e) env) Q E s:=by
 unfold noteFrame
 (refine(hf).symm ▸?_)
 refine Yb (zaa he rfl (x:= .none) rfl ?_);rw[YM ak];exact B6 nC hl hf he Im Ls (by simp) h
theorem xp(nC:A.frames=some (env::outer))(hl:s.heap.FunFrames base (env::outer))(hf:env.frame=some L)(ht:dO s.heap base e cls dx .none)(Im:base.StaysIn s.heap)(Ls:base.get? e=none)(h:∀h',base.StaysIn h'->h'.FunFrames base (env::outer)->dO h' base e cls dx (rawInt L)->Am s.heap h'->Q () {s with heap:=h'}):wpAny M A (noteFrame (.ref e) env) Q E s:=by
 (refine cz ht λoe vs T oT q=>?_;obtain⟨ts,he,⟨rfl,O0,Ll⟩,hd,h1,OZ,O3,hT,GJ,h3⟩:=q)
 unfold noteFrame
 (refine(hf).symm ▸?_)
 refine Yb (zaa he hd h1 ?_)
 (refine(Ze (show(Value.ref T !=Value.none)=true from by rfl)).symm ▸?_)
 refine Yb (zaa hT GJ h3 ?_)
 (refine(YM (show¬((Value.none==rawInt L)=true)from by simp[rawInt])).symm ▸?_)
 refine Yb (wpAny_setField hT GJ (zan.mp h3).1 ?_);have jo:∀b,b≠T->(s.heap.update T (Obj.mapFields (·.setIfInBounds 3 Value.none))).get? b=s.heap.get? b:=λb hb=>Zo _ _ (ZC hb);have dU:∀b o,s.heap.get? b=some o->(∀vs,o.data≠ .fields vs)->b≠T:=λb o hb n6 q=>by
  rw[q,hT]at hb;injection hb with hb;subst hb;exact n6 ts GJ
 refine B6 (base:=base) nC (hl.of_keeps λb o hb n6=>(al o ((jo b (dU b o hb n6)).trans hb) rfl)) hf (((jo e (ZC O3)).trans he).trans (Yd some (by
  (refine(O0).symm ▸?_;refine(Ll).symm ▸?_;refine(hd).symm ▸ rfl))))
  (λb o uC=>(jo b λq=>by rw[q,OZ]at uC;cases uC).trans (Im b o uC)) Ls (zan.mp h1).1
  λh' x1 x2 x3 x4=>h h' x1 x2 x3 λb o hb n6=>x4 b o ((jo b (dU b o hb n6)).trans hb) n6
theorem lI(Im:base.StaysIn s.heap)(hl:s.heap.FunFrames base l)(ht:dO s.heap base e cls dx fl)(h:∀h',base.StaysIn h'->h'.FunFrames base l->dO h' base e cls dx .none->Am s.heap h'->Q () {s with heap:=h'}):
  wpAny M A (setFlight (.ref e) none) Q E s:=by
 (refine cz ht λoe vs T oT q=>?_;obtain⟨ts,he,ji,hd,h1,OZ,O3,hT,GJ,h3⟩:=q)
 have Mi:=(zan.mp h3).1;have jo:∀b,b≠T->(s.heap.update T (Obj.mapFields (·.setIfInBounds 3 ((none:Option Addr).elim Value.none λf=>rawInt f)))).get? b=s.heap.get? b:=
  λb hb=>Zo _ _ (ZC hb)
 have dU:∀b o,s.heap.get? b=some o->(∀vs,o.data≠ .fields vs)->b≠T:=λb o hb n6 q=>by
  rw[q,hT]at hb;injection hb with hb;subst hb;exact n6 ts GJ
 refine Yb (zaa he hd h1 ?_)
 (refine(Ze (show(Value.ref T !=Value.none)=true from by rfl)).symm ▸?_)
 refine wpAny_setField hT GJ Mi (h _ (λb o uC=>(jo b λq=>by rw[q,OZ]at uC;cases uC).trans (Im b o uC))
  (hl.of_keeps λb o hb n6=>(al o ((jo b (dU b o hb n6)).trans hb) rfl)) ?_ λb o hb n6=>⟨o.slots,(jo b (dU b o hb n6)).trans hb⟩)
 exact⟨oe,vs,T,_,_,(jo e (ZC O3)).trans he,ji,hd,h1,OZ,O3,Z2 _ hT (Obj.isFreed_of_fields (Obj.data_mapFields GJ _)),Obj.data_mapFields GJ _,by simp[Mi]⟩
end
section
variable{W:SW}{C:Cx}{κ:Kn}{σ:St}{s:Shared}
theorem vh(up:Am h h'):∀{outs:List (Addr×iz)} {frs:List (Addr×Obj)},iA outs frs->(∀p∈frs,h.get? p.1=some p.2)->(∀b ob,(b,iz.it ob)∈outs->h'.get? b=some ob)->
  ∃uP,iA outs uP/\uP.map (·.1)=frs.map (·.1)/\∀p∈uP,h'.get? p.1=some p.2:=by
 intro outs
 induction outs with
 |nil=>intro frs hf _ _;subst hf;exact(aM ([]) rfl rfl (λ_ h=>nomatch h))
 |cons q_ outs ih=>
  obtain⟨b,H⟩:=q_;intro frs hf hm hi;dsimp only[iA]at hf
  (refine cT hf λq l' q3 h1 h2 h3=>?_;clear hf;subst q3)
  refine a8 (ih h3 (λp hp=>hm p (.tail _ hp)) (λb ob h=>hi b ob (.tail _ h))) λuP g1 g2 g3=>?_;cases H with
  |fr m=>
   (refine bS h2 λes ep hd hr=>?_;clear h2)
   obtain⟨sl,Ll⟩:=up q.1 q.2 (hm q (.head _)) (λvs e=>by rw[hd]at e;cases e);refine(aM ((q.1,{q.2 with slots:=sl})::uP) ((cj _ _ rfl h1 (gz es ep hd hr) g1)) (by simp[g2]) (λp hp=>?_));rcases X9.mp hp with rfl|hp
   ·exact Ll
   ·exact g3 p hp
  |it ob=>
   refine(aM (q::uP) (cj _ _ rfl h1 h2 g1) (by simp[g2]) (λp hp=>?_));rcases X9.mp hp with rfl|hp
   ·rw[h1,h2];exact hi _ _ (.head _)
   ·exact g3 p hp
theorem vi:∀{frs:List (Addr×Obj)},iA outs frs->∀b H,(b,H)∈outs->∃o,(b,o)∈frs/\HO H o:=by
 induction outs with
 |nil=>intro frs _ b H h;cases h
 |cons x outs ih=>
  intro frs hf b H h
  (refine cT hf λq l' q3 h1 h2 h3=>?_;clear hf;subst q3)
  rcases X9.mp h with e|h
  ·subst e;exact⟨q.2,by(refine(show q.1=b from h1) ▸?_);exact .head _,h2⟩
  ·refine U (ih h3 b H h) λo g1 g2=>?_;exact⟨o, .tail _ g1,g2⟩
theorem AZ(up:Am h h')(hn:h.Ns L m):h'.Ns L m:=by
 (refine cZ hn λo es ep ho hd hr=>?_;clear hn)
 refine eY (up L o ho (λvs e=>by rw[hd]at e;cases e)) λsl Ll=>?_;exact(iO _ es ep Ll hd hr)
theorem vY{B h:Heap}(hf:iA outs frs)(hm:∀p∈frs,h.get? p.1=some p.2):∀{l:List Env},wY l outs->(∀env∈l,∀a,env.frame=some a->B.get? a=none)->h.FunFrames B l:=by
 intro l
 induction l with
 |nil=>intro _ _;exact trivial
 |cons env r ih=>
  intro he hb;refine hg λcg kg=>?_;obtain⟨h1,a,m,h2,h3⟩:=he env (.head _);obtain⟨o,ho,es,ep,hd,_⟩:=vi hf a _ h3;refine kg ?_;exact(gA h1 (cj a o h2 (hb env (.head _) a h2) (hm _ ho) (λvs e=>by rw[hd]at e;cases e)) (ih (λe h=>he e (.tail _ h)) λe h=>hb e (.tail _ h)))
theorem NR.swap(R:NR W κ aw H)(hd:κ.at_ sx ix false=some a)(keys:∀x,x∈aw.map (·.1)->x∈uF.map (·.1))(keep:∀p∈aw,p.1≠a->p∈uF)(nt:∀o,(a,o)∈aw->o.cls≠ .type "tuple")(ho:∀mo,nth (H sx) ix=some mo->gB W κ uF sx ix mo):NR W κ uF H:=by
 refine⟨R.known,R.inj,λe=>⟨(R.dom e).1,keys _ (R.dom e).2⟩,λ{s1 i1 o1} e=>?_,λ{b vs} e=>?_⟩
 ·refine bc (s1=sx/\i1=ix) (λq=>?_) λq=>?_
  ·obtain⟨rfl,rfl⟩:=q;exact ho _ e
  ·exact(R.obj e).keep (Kn.Le.refl κ) id λb' x ob hx h=>keep _ h λe'=>by
    exact q ⟨(R.inj hx (e' ▸ hd)).1,(R.inj hx (e' ▸ hd)).2.1⟩
 ·refine U (R.tup e) λob a1 a2=>?_;refine(al ob a1 (a2.imp (λh=>keep _ h λe'=>?_) id));exact nt ob (e' ▸ h) a1.1
theorem dO.obj(x:dO h base e cls dx fl):∃o vs,h.get? e=some o/\o.cls=cls/\o.dict=some dx/\o.slots= #[]/\o.data= .fields vs:=by
 (refine cz x λoe vs T oT q=>?_;(refine uU q λts he q3 hd _=>?_;try clear q;skip))
 exact(yB oe vs he q3.1 q3.2.1 q3.2.2 hd)
end
section
variable{W:SW}{C:Cx}{κ:Kn}{σ:St}{s:Shared}
theorem Dt:∀{outs:List (Addr×iz)} {frs:List (Addr×Obj)},iA outs frs->frs.map (·.1)=outs.map (·.1):=by
 intro outs
 induction outs with
 |nil=>intro frs h;subst h;rfl
 |cons p outs ih=>
  intro frs h
  (refine cT h λq l' q3 h1 _ h3=>?_;clear h;subst q3)
  simp[h1,ih h3]
theorem zc{β:Type}{o o':β}:∀{l:List (Addr×β)},(l.map (·.1)).Nodup->(d,o)∈l->(d,o')∈l->o=o':=by
 intro l
 induction l with
 |nil=>intros;contradiction
 |cons p r ih=>
  intro hn h h';rw[Yn,Yu]at hn;rcases X9.mp h with e|h<;>rcases X9.mp h' with e'|h'
  ·rw[e.symm]at e';exact(zab e').2.symm
  ·exact absurd (YD.mpr (al _ h' rfl)) (by rw[<-e]at hn;exact hn.1)
  ·exact absurd (YD.mpr (al _ h rfl)) (by rw[<-e']at hn;exact hn.1)
  ·exact ih hn.2 h h'
theorem vW(hC:C.Ok (n+1))(vd:W.base.objs.size<=C.L)(hk:scope.kind= .function)(lT:rI W κ kU m)(he:ph W (dh C m L a scope qual cd) κ σ false sx ix cx e s)(hQ:∀s',ph W C κ (σ.setE kU) true sx ix cx e s'->Q () s'):wpAny (model W.prog W.w) (dh C m L a scope qual cd).A (leaving (dh C m L a scope qual cd).env e) Q E s:=by
 (refine cz he λx d Cc t q5=>?_;clear he;obtain⟨⟨m',aw,frs,r⟩,rfl,ji,hmain,hsub,here,⟨fs,l7⟩⟩:=q5)
 (refine cz (r.nr.obj l7) λT7 x' d' es q=>?_;obtain⟨nn,ob,g1,g2,g3,g4,g5,g6,g7⟩:=q)
 rw[ji]at g1;obtain rfl:=Yi g1;rw[hmain]at g2;obtain rfl:=Yi g2;rw[hsub]at g3;obtain rfl:=Yi g3;have rq:=Yi ((r.N _ (X6 frs g4)).1.symm.trans here);subst rq
 let z0:=dh C m L a scope qual cd
 let fa:=(z0.env::z0.outer).filterMap (·.frame)
 have nC:=r.frs;have mN:∀b∈fa,b=L\/∃o,(b,o)∈frs/\∃OU,(b,iz.fr OU)∈z0.outs:=by
  intro b hb;refine U (zaS.mp hb) λenv h1 h2=>?_;rcases X9.mp h1 with rfl|h1
  ·exact .inl (Yi h2).symm
  ·refine hg λcg kg=>?_;obtain⟨_,b',OU,h3,h4⟩:=((fI (m:=m) (L:=L) (a:=a) (qual:=qual) (cd:=cd) hC hk).outs) env h1;rw[h2]at h3;obtain rfl:=Yi h3;refine U (vi nC _ _ h4) λo h5 h6=>?_;refine kg ?_;exact .inr ⟨o,h5,OU,h4⟩
 let B:=hideAll s.heap (x::fa)
 have WT:W.base.StaysIn B:=λb o e=>hideAll_get _ (r.F.keep b o e) (by
  rw[X9];rintro (rfl|h)
  ·rw[(r.N _ (X6 frs g4)).2.2]at e;cases e
  ·exact(λb o hb hf=>by
  rcases mN _ hf with rfl|⟨o',h1,_⟩
  ·exact absurd (Yr (Zj hb) r.F.above) (Zh _)
  ·rw[(r.N _ (Yk _ h1)).2.2]at hb;cases hb) b o e h)
 have WR:∀p∈aw,p.1≠x->B.get? p.1=some p.2:=λp hp hn=>hideAll_get _ (r.N p (X6 _ hp)).1 (by
  rw[X9];rintro (h|h)
  ·exact hn h
  ·exact(show∀p∈aw,p.1∉fa fromλp hp hb=>by
  rcases mN _ hb with e|⟨o,h1,_⟩
  ·exact(r.N p (X6 _ hp)).2.1 e
  ·have nd:=r.nd;rw[Yo,YB]at nd;exact nd.2.2 _ (YH hp) _ (aV h1) rfl) p hp h)
 have Tx:∀b obj,(b,iz.it obj)∈z0.outs->B.get? b=some obj:=λb obj hb=>by
  obtain⟨o,h1,h2⟩:=vi nC _ _ hb;have e:=h2;subst e;refine hideAll_get _ (r.N _ (Yk _ h1)).1 ?_;rw[X9];rintro (h|h)
  ·have nd:=r.nd;rw[Yo,YB]at nd;exact nd.2.2 _ (aV g4) _ (aV h1) h.symm
  ·rcases mN _ h with e|⟨o',h3,OU,h4⟩
   ·exact(r.N _ (Yk _ h1)).2.1 e
   ·have nd:=r.nd;rw[Yo,YB]at nd;have nk:=nd.2.1;rw[Dt nC]at nk;have e:=Yd (λr=> @iz.rec (λ_=>Prop) (λ_=>False) (λ_=>True) r) (zc nk hb h4);exact(e.mp trivial).elim
 refine Yb (C9 (base:=B) (fI (m:=m) (L:=L) (a:=a) (qual:=qual) (cd:=cd) hC hk).frames (by
  refine Heap.FunFrames.cons (by show scope.kind≠ .module;rw[hk];decide) (rfl) r.F.ns (hideAll_none _ (.tail _ (zaS.mpr (al _ (.head _) ((rfl)))))) ?_;exact vY nC (λp hp=>(r.N p (Yk _ hp)).1) ((fI (m:=m) (L:=L) (a:=a) (qual:=qual) (cd:=cd) hC hk).outs) λenv he b hb=>hideAll_none _ (.tail _ (zaS.mpr (al env (.tail _ he) hb)))) (rfl) here (λb o e=>of_hideAll _ e) (hideAll_none _ (.head _)) λap k1 k2 k3 k4=>?_)
 refine lI k1 k2 k3 λaT q1 q2 q3 q4=>hQ _ ?_;refine nJ (q3.obj) λgx lV w1 w2 w3 w4 w5=>?_;have uN:iA ((C.L,iz.fr m)::C.outs) frs:=nC;dsimp only[iA]at uN
 (refine cT uN λq AA q3 e1 e2 e3=>?_;clear uN;subst q3)
 have nd:=r.nd;rw[Yo,Yn,YB,Yu]at nd
 (refine dW nd λEi q2 Ic=>?_;clear nd;obtain⟨PP,PO⟩:=q2)
 refine a8 (vh (k4.trans q4) e3 (λp hp=>(r.N p (Yk _ (.tail _ hp))).1) (λb ob hb=>q1 b ob (Tx b ob (.tail _ hb)))) λrG f1 f2 f3=>?_
 let Es:=aw.filter λp=>decide (p.1≠x)
 have Li:∀p,p∈Es↔p∈aw/\p.1≠x:=λp=>by simp[Es]
 refine⟨m,Es,rG,x,d,Cc,gx,B,?_⟩;refine {eq:=rfl,cls:=ji,main:=hmain,sub:=hsub,here:=w1,fly:=(lU q1 ((hideAll_none _ (.head _))) ((q2.2.2)) q3),base:=WT,above:=vd,ns:= ?_,keep:= ?_,mem:= ?_,hold:= ?_,nd:= ?_,aL:=(λe=>Ic x (aV g4) q.1 (.head _) (e.trans e1.symm)),frs:=f1,nr:= ?_,gone:=⟨fs,l7⟩,env:=lT,gens:=r.gens,os:=r.os}
 ·refine AZ (k4.trans q4) (pD.mpr ⟨q.2,by rw[<-e1];exact(r.N q (Yk _ (.head _))).1,e2⟩)
 ·intro p hp;obtain⟨h1,h2⟩:=(Li p).mp hp;refine⟨WR p h1 h2,(r.N p (X6 _ h1)).2.2,λe=>?_⟩;exact Ic p.1 (YH h1) q.1 (.head _) (e.trans e1.symm)
 ·intro p hp
  obtain⟨o,h1⟩:=(show∀p∈rG,∃o,(p.1,o)∈AA fromλp hp=>by
  have:p.1∈AA.map (·.1):=by(refine(f2) ▸?_);exact YH hp
  refine U (YD.mp this) λp' h1 h2=>?_;exact⟨p'.2,by(refine(h2) ▸?_);exact h1⟩) p hp
  have z:=r.N _ (Yk aw (Yy q h1));exact⟨f3 p hp,z.2.2,λe=>PP (by rw[e1,<-e];exact aV h1)⟩
 ·exactλb ob hb=>Tx b ob (.tail _ hb)
 ·rw[YY,Yn,Yu,Yo,YB,f2];have sub:∀y∈Es.map (·.1),y∈aw.map (·.1)/\y≠x:=λy hy=>by
   (refine U (YD.mp hy) λp h1 q3=>?_;subst q3)
   obtain⟨h2,h3⟩:=(Li p).mp h1;exact⟨YH h2,h3⟩
  refine(lU ?_ ?_ PO (λy hy z hz=>Ic y (sub y hy).1 z (.tail _ hz)))
  ·rw[Yq];rintro (h|h)
   ·exact(sub x h).2 rfl
   ·exact Ic x (aV g4) x (.tail _ h) rfl
  ·exact(List.filter_sublist.map _).nodup Ei
 ·refine r.nr.swap hmain (λy hy=>?_) (λp hp hn=>Yy _ ((Li p).mpr ⟨hp,hn⟩)) (λo ho=>?_) (λmo D9=>?_)
  ·(refine U (YD.mp hy) λp h1 q3=>?_;subst q3)
   by_cases Th:p.1=x
   ·rw[Yn];rw[Th];exact .head _
   ·rw[Yn];exact .tail _ (YH ((Li p).mpr ⟨h1,Th⟩))
  ·have:=cK Ei ho g4
   (refine(this).symm ▸?_);exactλe=>by cases e
  ·rw[l7]at D9;obtain rfl:=Yi D9
   exact⟨Cc,x,d,es,nn,gx,ji,hmain,hsub, .head _,⟨w2,w3,w4,lV,w5⟩, .tail _ ((Li _).mpr ⟨g6,(λe=>by
    have:=r.nr.inj hsub (e ▸ hmain);cases this.2.2)⟩),g7⟩
theorem zh(hC:C.Ok (n+1))(vd:W.base.objs.size<=C.L)(hk:scope.kind= .function)(lT:rI W κ kU m)(he:ph W (dh C m L a scope qual cd) κ σ true sx ix cx e s)(hQ:∀s',ph W C κ (σ.setE kU) true sx ix cx e s'->Q () s'):wpAny (model W.prog W.w) (dh C m L a scope qual cd).A (leaving (dh C m L a scope qual cd).env e) Q E s:=by
 (refine cz he λm' aw frs x q=>?_;(refine cz q λd Cc o B r=>?_;try clear q))
 refine AM (r.fly) λQm O4 Qe OX=>?_;have e0:=r.eq;subst e0;refine Yb (xp (base:=B) (fI (m:=m) (L:=L) (a:=a) (qual:=qual) (cd:=cd) hC hk).frames Qe (show(dh C m L a scope qual cd).env.frame=some L from rfl) OX Qm O4 λap k1 k2 k3 k4=>?_);refine lI k1 k2 k3 λaT q1 q2 q3 q4=>hQ _ ?_;refine nJ (q3.obj) λgx lV w1 w2 w3 w4 w5=>?_;have uN:iA ((C.L,iz.fr m)::C.outs) frs:=r.frs;dsimp only[iA]at uN
 (refine cT uN λq AA q3 e1 e2 e3=>?_;clear uN;subst q3)
 have nd:=r.nd;rw[YY,Yn,Yu,Yo,Yn,YB,Yu,Yq]at nd
 (refine AM nd λId Ei q3 Ic=>?_;clear nd;obtain⟨PP,PO⟩:=q3)
 refine a8 (vh (k4.trans q4) e3 (λp hp=>(r.mem p (.tail _ hp)).1) (λb ob hb=>q1 b ob (r.hold b ob (.tail _ hb)))) λrG f1 f2 f3=>?_;refine eY (r.gone) λfs l7=>?_;refine⟨m,aw,rG,x,d,Cc,gx,B,?_⟩;refine {eq:=rfl,cls:=r.cls,main:=r.main,sub:=r.sub,here:=w1,fly:=(lU q1 O4 ((q2.2.2)) q3),base:=r.base,above:=vd,ns:= ?_,keep:= ?_,mem:= ?_,hold:= ?_,nd:= ?_,aL:=(λe=>Id (.inr (by rw[e,<-e1];exact .head _))),frs:=f1,nr:= ?_,gone:=⟨fs,l7⟩,env:=lT,gens:=r.gens,os:=r.os}
 ·refine AZ (k4.trans q4) (pD.mpr ⟨q.2,by(refine(e1) ▸?_);exact(r.mem q (.head _)).1,e2⟩)
 ·intro p hp;exact⟨(r.keep p hp).1,(r.keep p hp).2.1,λe=>Ic p.1 (YH hp) q.1 (.head _) (e.trans e1.symm)⟩
 ·intro p hp
  refine eY ((show∀p∈rG,∃o,(p.1,o)∈AA fromλp hp=>by
  have:p.1∈AA.map (·.1):=by(refine(f2) ▸?_);exact YH hp
  refine U (YD.mp this) λp' h1 h2=>?_;exact⟨p'.2,by(refine(h2) ▸?_);exact h1⟩) p hp) λo h1=>?_
  have z:=r.mem _ (Yy q h1);exact⟨f3 p hp,z.2.1,λe=>PP (by rw[e1,<-e];exact aV h1)⟩
 ·exactλb ob hb=>r.hold b ob (.tail _ hb)
 ·rw[YY,Yn,Yu,Yo,YB,f2,Yq];refine(lU ?_ Ei PO (λy hy z hz=>Ic y hy z (.tail _ hz)));rintro (h|h)
  ·exact Id (.inl h)
  ·exact Id (.inr (.tail _ h))
 ·skip;refine r.nr.swap r.main (λy hy=>hy) (λp hp hn=>?_) (λo' ho=>?_) (λmo D9=>?_)
  ·rcases X9.mp hp with rfl|hp
   ·exact absurd rfl hn
   ·exact .tail _ hp
  ·have:=cK (by
   rw[Yn,Yu];exact⟨λh=>Id (.inl h),Ei⟩) ho (.head _)
   rw[this,(show o.cls= .ref Cc from by
   refine a9 (OX.obj) λo' Uk z1 z2 _=>?_;have:=Yi (z1.symm.trans r.here)
   (refine(this) ▸?_);exact z2)];exactλe=>by cases e
  ·rw[l7]at D9;obtain rfl:=Yi D9;refine hg λcg kg=>?_;(refine cz ((λmo h=>r.nr.obj h) _ l7) λT7 x' d' es q=>?_;obtain⟨nn,ob,g1,g2,g3,g4,g5,g6,g7⟩:=q)
   rw[r.cls]at g1;obtain rfl:=Yi g1;rw[r.main]at g2;obtain rfl:=Yi g2;rw[r.sub]at g3;obtain rfl:=Yi g3
   refine kg ?_;exact⟨Cc,x,d,es,nn,gx,r.cls,r.main,r.sub, .head _,⟨w2,w3,w4,lV,w5⟩, .tail _ (by
    rcases X9.mp g6 with e|h
    ·exact absurd (Yd Prod.fst e) (show d≠x fromλe=>by
    have:=r.nr.inj r.sub (e ▸ r.main);cases this.2.2)
    ·exact h),g7⟩
theorem De:xS W:=by
 intro C n κ σ m L a scope qual cd je sx ix cx e s kU Q E hC Tu hk lT he hQ;cases je with
 |true=>exact zh hC Tu hk lT he hQ
 |false=>exact vW hC Tu hk lT he hQ
end
structure pP(W:SW)(fa:Nat->Option Addr)(c:Nat)(Ca:Addr):Prop where
 obj:∃nm q N bs bm hdct sn sub ab col dd k0 k1 k2 k3 k5 newId nA yh,W.K.lookup Ca=some (excClassObj nm q Ca N bs bm hdct sn sub ab col dd k0 k1 k2 k3 k5 newId)/\ExcBaseFacts "Exception" newId nA yh/\pN bm
 init:∃f a,W.P.init c=some (some f)/\fa f=some a/\findIn W.K (.ref Ca) "__init__"=some (some (.ref a))/\typeIn W.K (.ref a)=some (.type "function")
section
variable{W:SW}{C:Cx}{κ:Kn}{σ:St}{s:Shared}
theorem vQ(ye:ei W fa ih n)(hC:C.Ok (n+2))(hc:W.cls c=some Ca)(hx:pP W fa c Ca)(h:M.makeExc W.P ih c t args σ=some (res,σ'))(hv:cI W κ args us)(R:bA W C κ σ s)(k:bF W C (λκ=>VR W κ) Q E res κ σ'):wpAny (model W.prog W.w) C.A (call (.ref Ca) us) Q E s:=by
 refine zay ?_;refine cT (hx.init) λf a hi Lr Bg P3=>?_;refine U (gH h) λo Wy g=>?_;obtain rfl:=si (hi.symm.trans Wy);refine U (gH g) λf' e g=>?_;obtain rfl:=si e;obtain⟨hb,g⟩:=cQ g
 (refine cz (hx.obj) λnm q N bs q=>?_;(refine cz q λbm hdct sn sub q=>?_;(refine cz q λab col dd k0 q=>?_;(refine cz q λk1 k2 k3 k5 q=>?_;(refine cZ q λnewId nA yh rq Fn hm=>?_;try clear q)))))
 refine I8 (gk hm) λq1 q2 q3 q4 q5 q6=>?_;refine Dc (h:=s.heap) (g:=s.gens) (d:=s.drawn) (t:=s.toks) (os:=s.os) Fn q3 q5 q6 ((R.K) _ _ rq) (looks_findIn (R.K) Bg) (λeW=>bind_fn (R.K) eW P3) (hv.length ▸ Yc (Yg (an hb).2) ak) ?_;refine bj (id (R.push (o:=eZ us))) λm aw frs lR=>?_
 let z0:=dk Ca s.heap.objs.size
 refine de (lR.new (t:=t) (l:=(s.heap.push (eZ us)).objs.size) (mo:= .inst c []) (s':={s with heap:=(s.heap.push (eZ us)).push z0}) (lR.F.push z0) (lR.N.push lR.F z0) (gM lR)
  (aZ Ca _ hc (Kn.add_self) (.inr ⟨(an hb).1,s.heap.objs.size, .inl ⟨rfl,by rw[Kn.add_ne (λq=>by cases q.2.2)];exact lR.offEnd t true, .head _⟩⟩)) rfl rfl) λle iL=>?_
 exact o3 ye hC Lr g le ((Heap.size_push ..) ▸ Kn.add_self) hv (b7 m _ frs iL) k
theorem vN{sub:List Value}{M:Model}(NC:bm.contains (.type "BaseException")=true)(hh:A.handled=none)(h:wpAny M A x (λv aE=>∃e t d,v= .ref e/\aE.heap.get? Cc=some (excClassObj nm q Cc N bs bm hdct sn sub ab col dd k0 k1 k2 k3 k5 newId)/\aE.heap.get? e=some ⟨.ref Cc,some d,bC t,#[]⟩/\E (.ref e) aE) E s):
  wpAny M A (raiseStmt env (some x) none) Q E s:=by
 refine Yb (wpAny_mono h (λv aE ap=>?_) λ_ _ x=>x)
 (refine nI ap λe t d q4 hC he hE=>?_;clear ap;subst q4)
 repeat (first|with_reducible refine ZG he ?_|with_reducible refine ZG hC ?_|(with_reducible refine zaf hC ?_;(refine((show(Value.ref Cc::bm).contains (.type "BaseException")=true from by rw[ZV,NC,Bool.or_true])).symm ▸?_))|wp_step)
 exact wpAny_raiseNew_none hh hE
theorem tr(h:M.raise W.P c t i σ=some (res,σ')):∃fs,nth (σ.heap t) i=some (.inst c fs)/\W.P.isExc c=true/\fs≠ []/\res= .exc false t i c/\σ'=σ.put t i (.gone c fs):=by
 refine hg λcg kg=>?_;refine U (iV h) λo e g=>?_
 (refine bS (Ht g) λc' fs q3 g=>?_;subst q3)
 obtain⟨hb,g⟩:=cQ g;obtain rfl:=Yh (an (an hb).2).1;refine kg ?_;exact(AK fs e ((an hb).1) (λe=>by rw[e]at hb;exact nf (an (an hb).2).2) (sp g))
theorem NR.turn(R:NR W κ aw H)(ho:gB W κ aw t i mo):NR W κ aw (λt'=>match Nat.beq t' t with|true=>setNth mo (H t) i|false=>H t'):=by
 have len:∀s',(match Nat.beq s' t with|true=>setNth mo (H t) i|false=>H s').length=(H s').length:=λs'=>by
  cases q:Nat.beq s' t with
  |true=>have:=Yh q;subst this;exact fg
  |false=>rfl
 refine⟨R.known,R.inj,λ{s1 i1 b1 x} e=>by rw[len];exact R.dom e,λ{s1 i1 o1} e=>?_,R.tup⟩;refine cY (Nat.beq s1 t) (λq=>?_) λq=>?_
 ·
  have:=Yh q;subst this;rw[q]at e;rcases iY e with⟨rfl,rfl⟩|⟨h,e⟩
  ·exact ho
  ·exact R.obj e
 ·
  rw[q]at e;exact R.obj e
theorem FI(h:nth (σ.heap t) i=some o):nth ((σ.put t i mo).heap t) i=some mo:=by
 simp only[St.put,(show Nat.beq t t=true from by simp)];generalize σ.heap t=l at h
 induction l generalizing i with
 |nil=>exact nt h
 |cons a l ih=>
  cases i with
  |zero=>rfl
  |succ i=>exact ih h
theorem Fy(ye:ei W fa ih n)(hC:C.Ok (n+2))(hl:C.scope.names.lookup (W.nm c)=some .globalImplicit)(hd:(W.nm c==("__debug__":Str))=false)(hn:nsIn W.K mainGlobals (W.nm c)=some (some (.ref Ca)))(hc:W.cls c=some Ca)(hx:pP W fa c Ca)(hk:keepIn W.K (.ref Ca)=true)(gF:es.all noStar=true)(hs:cw (λe x=>SndE W C e (ih.e x)) es xs):
  SndS W C (.Raise (some (.Call (.Name (W.nm c) np) es [] cp)) none pos) (M.bind (kK ih xs) λvs=>M.bind (M.makeExc W.P ih c t vs) λo=>M.oR o (M.raise W.P c)):=by
 intro κ σ res σ' h s Q E R k
 (refine cz (hx.obj) λnm q N bs q=>?_;obtain⟨bm,hdct,sn,sub,ab,col,dd,k0,k1,k2,k3,k5,newId,nA,yh,rq,Fn,hm⟩:=q)
 refine I8 (gk hm) λq1 q2 q3 q4 q5 q6=>?_;rw[arm_exec_Raise];refine Yb (Zg ?_);refine vN (Cc:=Ca) (nm:=nm) (q:=q) (N:=N) (bs:=bs) (bm:=bm) (hdct:=hdct) (sn:=sn) (sub:=sub) (ab:=ab) (col:=col) (dd:=dd) (k0:=k0) (k1:=k1) (k2:=k2) (k3:=k3) (k5:=k5) (newId:=newId) q4 hC.calm (Yb (ZZ ?_));refine bj (id R) λm aw frs r=>?_;refine name_K r.F W.X W.T hn ?_ hC.kind hl hd;refine eT (first:= []) hk gF hs h R k λam ai vs us aE le hv ar ap k₁=>?_;rw[Y1];refine bV.bind (V₁:=λκ=>VR W κ) (λ_ _ h _ _ _ R k=>vQ ye hC hc hx h hv R k) ap ar k₁ λbM bH v u c9 aY hu bE aT dQ=>?_;refine Yb (Zg (Yp ?_))
 (refine bS (L3 aT) λt' i' q3 g=>?_;subst q3)
 (refine uT (tr g) λfs g1 g2 g3 q5 q6=>?_;subst q5;subst q6)
 (refine U (hu.obj) λp q2 ww=>?_;subst q2)
 refine bj (id bE) λMa Bu B2 iL=>?_;refine a9 (iL.nr.obj g1) λCc a' z0 z1 z2=>?_;obtain rfl:=si (ww.symm.trans z1);obtain rfl:=si (hc.symm.trans z0);rcases z2 with⟨e,_⟩|⟨_,tt,⟨x0,_⟩|⟨d,KU,nn,x1,x2,x3,x4⟩⟩
 ·exact ng (g2.symm.trans e)
 ·exact absurd x0 g3
 ·skip;exact(pg p tt d rfl (bE.K _ _ rq) (((iL.N _ (X6 _ x2)).1)) (dQ bM c9 (Kn.Le.refl _) _ ⟨p,d,Ca,tt,⟨Ma,Bu,B2,iL.F,iL.N,iL.nd,iL.frs,iL.nr.turn ⟨Ca,p,d,KU,nn,_,hc,ww,x1,x2,⟨rfl,rfl,rfl,_,rfl⟩,x3,x4⟩,iL.env,iL.gens,iL.os⟩,rfl,hc,ww,x1,((iL.N _ (X6 _ x2)).1),⟨fs,FI g1⟩⟩))
end
noncomputable def Cx.held (C:Cx) (p:Addr):Cx:={C with A:=C.A.mark (some (.ref p))}
section
variable{W:SW}{C:Cx}{κ:Kn}{σ:St}{s:Shared}
theorem so:bA W (C.held p) κ σ s↔bA W C κ σ s:=by
 constructor
 ·rintro ⟨m,aw,frs,r⟩;exact(b7 m aw frs ⟨r.F,r.N,r.nd,r.frs,r.nr,r.env,r.gens,r.os⟩)
 ·rintro ⟨m,aw,frs,r⟩;exact(b7 m aw frs ⟨r.F,r.N,r.nd,r.frs,r.nr,r.env,r.gens,r.os⟩)
theorem ud(h:M.catch c x mb mh σ=some (res,σ')):
  (∃f,mb σ=some (.ok f,σ')/\res= .ok f)\/∃sx ix ai fs f bH,mb σ=some (.exc true sx ix c,ai)/\nth (ai.heap sx) ix=some (.gone c fs)/\mh ((ai.put sx ix (.caught c fs)).setE (Mine.putN x (.obj sx ix) ai.env))=some (.ok f,bH)/\res= .ok f/\σ'=bH.setE (lb x bH.env):=by
 unfold M.catch at h;refine dJ (mb σ) (λe=>?_) λp e=>?_
 ·rw[e]at h;exact nt h
 ·
  (refine(e).symm ▸?_)
  rw[e]at h;obtain⟨r,ai⟩:=p;cases r with
  |ok f=>obtain⟨rfl,rfl⟩:=sp h;exact .inl ⟨f,rfl,rfl⟩
  |exc je sx ix c'=>
   obtain⟨rfl,h⟩:=cQ h;refine hg λcg kg=>?_;refine U (iV h) λo e1 h=>?_
   (refine bS (Nq h) λLB fs q3 h=>?_;subst q3)
   obtain⟨hb,h0⟩:=cQ h;obtain rfl:=Yh (an hb).1;obtain rfl:=Yh (an hb).2;refine kg ?_;clear h
   let z0:=(ai.put sx ix (.caught c fs)).setE (Mine.putN x (.obj sx ix) ai.env)
   have h:M.unE x mh z0=some (res,σ'):=h0;unfold M.unE M.bind M.calm at h;refine dJ (mh z0) (λe2=>?_) λq e2=>?_
   ·rw[e2]at h;exact nt h
   ·
    rw[e2]at h;obtain⟨r,bH⟩:=q;cases r with
    |ok f=>exact .inr ⟨sx,ix,ai,fs,f,bH,rfl,e1,e2,sp h⟩
    |exc _ _ _ _=>exact nt h
theorem Bt.caught{aw frs:List (Addr×Obj)}(r:Bt W C κ σ sx ix cx e s m aw frs a d Cc o B)(hg:nth (σ.heap sx) ix=some (.gone cx fs))(q1:B.StaysIn h')(q3:dO h' B a (.ref Cc) d .none)(up:Am s.heap h'):bA W C κ (σ.put sx ix (.caught cx fs)) {s with heap:=h'}:=by
 refine nJ (q3.obj) λgx lV w1 w2 w3 w4 w5=>?_;have nd:=r.nd;rw[YY,Yn,Yu,Yo,Yq]at nd;obtain⟨Id,Ei⟩:=nd;refine a8 (vh up r.frs (λp hp=>(r.mem p hp).1) (λb ob hb=>q1 b ob (r.hold b ob hb))) λrG f1 f2 f3=>?_
 (refine cz (r.nr.obj hg) λT7 x' d' es q=>?_;obtain⟨nn,ob,g1,g2,g3,g4,g5,g6,g7⟩:=q)
 rw[r.cls]at g1;obtain rfl:=Yi g1;rw[r.main]at g2;obtain rfl:=Yi g2;rw[r.sub]at g3;obtain rfl:=Yi g3;have TC:(d,dictOf es nn)∈aw:=by
  rcases X9.mp g6 with e|h
  ·exact absurd (Yd Prod.fst e) (show d≠a fromλe=>by
  have:=r.nr.inj r.sub (e ▸ r.main);cases this.2.2)
  ·exact h
 have NH:gB W κ ((a,gx)::aw) sx ix (.gone cx fs):=⟨Cc,a,d,es,nn,gx,r.cls,r.main,r.sub, .head _,⟨w2,w3,w4,lV,w5⟩, .tail _ TC,g7⟩
 refine⟨m,(a,gx)::aw,rG,⟨AZ up r.ns,λb o e=>q1 b o (r.base b o e),r.above⟩,λp hp=>?_,?_,f1,(show NR W κ ((a,gx)::aw) σ.heap from by
  refine r.nr.swap r.main (λy hy=>hy) (λp hp hn=>?_) (λo' ho=>?_) (λmo D9=>?_)
  ·rcases X9.mp hp with rfl|hp
   ·exact absurd rfl hn
   ·exact .tail _ hp
  ·have:=cK (by
  rw[Yn,Yu];exact⟨λh=>Id (.inl h),(by rw[YB]at Ei;exact Ei.1)⟩) ho (.head _)
   rw[this,(show o.cls= .ref Cc from by
  refine a9 (r.fly.2.2.2.obj) λo' Uk z1 z2 _=>?_;have:=Yi (z1.symm.trans r.here)
  (refine(this) ▸?_);exact z2)];exactλe=>by cases e
  ·rw[hg]at D9;obtain rfl:=Yi D9;exact NH).turn ?_,r.env,r.gens,r.os⟩
 ·rw[YY]at hp;rcases X9.mp hp with rfl|hp
  ·exact(gA w1 (r.aL) ((by
  cases q:W.base.get? a with
  |none=>rfl
  |some o=>have:=r.base a o q;rw[(r.fly.2.1)]at this;exact nt this)))
  ·rcases Yq.mp hp with hp|hp
   ·exact⟨q1 _ _ (r.keep p hp).1,(r.keep p hp).2.2,(r.keep p hp).2.1⟩
   ·refine eY ((show∀p∈rG,∃o,(p.1,o)∈frs fromλp hp=>by
  refine U (YD.mp (by rw[<-f2];exact YH hp)) λp' h1 h2=>?_;exact⟨p'.2,by(refine(h2) ▸?_);exact h1⟩) p hp) λo h1=>?_
    exact(gA (f3 p hp) ((r.mem _ h1).2.2) ((r.mem _ h1).2.1))
 ·rw[YY,Yn,Yu,Yo,f2,Yq];exact⟨Id,Ei⟩
 ·exact⟨Cc,a,d,es,nn,gx,r.cls,r.main,r.sub, .head _,⟨w2,w3,w4,lV,w5⟩, .tail _ TC,g7⟩
theorem bA.unbind(r:ba W C κ σ s m aw frs)(hn:h'.Ns C.L (λy=>if y=W.nm x then u else m y))(hs:Heap.SameBut C.L s.heap h'):bA W C κ (σ.setE (lb x σ.env)) {s with heap:=h'}:=by
 have bL:W.base.get? C.L=none:=by
  cases q:W.base.get? C.L with
  |none=>rfl
  |some o=>exact absurd (Yr (Zj q) r.F.above) (Zh _)
 refine⟨_,aw,frs,⟨hn,λb o e=>(hs.2 b (λq=>by rw[q,bL]at e;cases e)).trans (r.F.keep b o e),r.F.above⟩,λp hp=>?_,r.nd,r.frs,r.nr,λy v e=>?_,r.gens,r.os⟩
 ·have z:=r.N p hp;exact⟨(hs.2 _ z.2.1).trans z.1,z.2⟩
 ·dsimp only[St.setE]at e;rw[m1]at e;by_cases q:y=x
  ·rw[Ze q]at e;exact nt e
  ·rw[YM q]at e;refine U (r.env y v e) λu' a1 a2=>?_;exact(al u' (by rw[YM λz=>q (W.inj _ _ z)];exact a1) a2)
theorem bA.envs(R:bA W C κ (σ.setE e₁) s)(h:∀y v,aN y e₂=some v->aN y e₁=some v):bA W C κ (σ.setE e₂) s:=by
 (refine bj R λm aw frs r=>?_;clear R)
 exact(b7 m aw frs ⟨r.F,r.N,r.nd,r.frs,r.nr,λy v e=>r.env y v (h y v e),r.gens,r.os⟩)
theorem MW(nC:C.A.frames=some (C.env::C.outer))(hk:C.scope.kind= .function)(ji:W.cls c=some Ca)(hx:pP W fa c Ca)(hl:C.scope.names.lookup (W.nm c)=some .globalImplicit)(hd:(W.nm c==("__debug__":Str))=false)(hn:nsIn W.K mainGlobals (W.nm c)=some (some (.ref Ca)))(P8:C.scope.names.lookup (W.nm x)=some .local)(hb:cw (λe x=>SndS W C e (ih.s x)) body xb)(hh:∀p,cw (λe x=>SndS W (C.held p) e (ih.s x)) (b₀::suite) xh):
  SndS W C (.Try body [.ExceptHandler (some (.Name (W.nm c) np)) (some (W.nm x)) (b₀::suite) hp] [] [] pos) (M.catch c x (Mine.execs ih xb) (Mine.execs ih xh)):=by
 intro κ σ res σ' h s Q E R k;rw[arm_exec_Try];refine Yb (Zg (wpAny_tryStmt_except ?_));refine(ud h).elim (λq=>?_) λq=>?_
 ·obtain⟨f,hm,rfl⟩:=q;refine dl hb κ σ _ _ hm _ _ _ R λcL s' le g hg R'=>?_;cases f with
  |next=>
   subst hg;exact zaH (k cL s' le _ rfl R')
  |ret v=>
   (refine U hg λu q2 hv=>?_;clear hg;subst q2)
   exact k cL s' le _ (al u rfl hv) R'
 ·(refine cz q λsx ix ai fs q=>?_;(refine nJ q λf bH hm hg Wp q6 q7=>?_;try clear q;subst q6;subst q7));refine dl hb κ σ _ _ hm _ _ _ R λcL s' le e he=>?_
  (refine cz he λm aw frs a q=>?_;(refine cz q λd Cc o B r=>?_;try clear q))
  have e0:=r.eq;subst e0;have e1:=r.cls;rw[ji]at e1;obtain rfl:=Yi e1;refine AM (r.fly) λQm O4 Qe OX=>?_
  (refine cz (hx.obj) λnm q N bs q=>?_;(refine cz q λbm hdct sn sub q=>?_;(refine cz q λab col dd k0 q=>?_;(refine cz q λk1 k2 k3 k5 q=>?_;(refine cZ q λnewId nA yh rq Fn Rr=>?_;try clear q)))))
  refine I8 (gk Rr) λ_ _ _ q4 _ _=>?_;refine xp (base:=B) nC Qe (show C.env.frame=some C.L from rfl) OX Qm O4 λap VZ VY VX SY=>?_;refine lI VZ VY VX λaT p1 p2 p3 p4=>?_;have bE:=r.caught hg p1 p3 (SY.trans p4);refine wpAny_handleBy_cons (codeAny_handlers_test ?_) (by intro q;cases q);refine bj (id bE) λMa Bu B2 iL=>?_;refine name_K iL.F W.X W.T hn ?_ hk hl hd;refine nJ (p3.obj) λgx lV w1 w2 w3 w4 w5=>?_;refine wpAny_excMatches_sub_self (h:=aT) (bE.K _ _ rq) w1 w2 q4 ?_;refine codeAny_handlers_suite_as ?_;refine lI p1 p2 p3 λfq g1 g2 g3 g4=>?_;have hv:VR W cL (V.obj sx ix) (.ref a):=by exact(al a rfl (r.main))
  refine fy (C:=C.held a) (x:=x) (v:= .obj sx ix) (res:= .ok ()) hk P8 rfl hv (so.mpr (r.caught hg g1 g3 ((SY.trans p4).trans g4))) λG0 QN wJ _ _ yE=>?_;refine dl (C:=C.held a) (hh a) G0 _ _ _ Wp _ _ _ yE λT9 XG Nl g Wz R4=>?_;refine Yb (wpAny_bindName ?_);refine fy (C:=C) (x:=x) (v:= .none) (res:= .ok ()) hk P8 rfl j3 (so.mp R4) λMF XF Hq _ _ R3=>?_;refine bj (id R3) λL9 R6 R8 IF=>?_
  obtain⟨u,hu⟩:=(show∃u,L9 (W.nm x)=some u from by
   refine U (IF.env x .none (by simp only[St.setE,iZ,if_true])) λu hu _=>?_;exact⟨u,hu⟩)
  refine wpAny_onRaise (wpAny_unbindName_local (m:=L9) (v:=u) P8 IF.F.ns hu (by(refine(hk).symm ▸?_);rfl) λXI u' Nw Nt=>?_)
  exact k MF _ (((le.trans wJ).trans Nl).trans Hq) _ (Wz.mono Hq) (by
   refine bA.envs (σ:=bH) (e₁:=lb x (Mine.putN x .none bH.env)) (bA.unbind (x:=x) IF Nw Nt) λy v e=>?_;rw[m1]at e⊢;by_cases q:y=x
   ·rw[Ze q]at e;exact nt e
   ·rw[YM q]at e⊢;rw[iZ,YM q];exact e)
end
structure Tb where
 flds:List Nat
 sets:List Nat
 meths:List Nat
 glbs:List Nat
 fns:List Nat
 news:List Nat
 excs:List Nat
def iN(x:Nat):List Nat->Bool
 | []=>false
 |y::r=>Nat.beq y x||iN x r
theorem cc(h:iN x l=true):x∈l:=by
 induction l with
 |nil=>exact nf h
 |cons y r ih=>
  rcases YW.mp h with h|h
  ·exact Yh h ▸ .head _
  ·exact .tail _ (ih h)
noncomputable def dg (sc:Scope) (y:Str) (k:NameKind):Bool:=(sc.names.lookup y).any λk'=>decide (k'=k)
theorem ci(h:dg sc y k=true):sc.names.lookup y=some k:=by
 unfold dg at h;generalize sc.names.lookup y=o at h;cases o with
 |none=>exact nf h
 |some k'=>rw[YN h]
noncomputable def cM:Expr:= .Tuple [] 0 ⟨0,0,0,0⟩
def n8:Stmt:= .Pass ⟨0,0,0,0⟩
def En{α:Type}(d:α):List α->α
 | []=>d
 |a::_=>a
structure Gu where
 es:List Expr
 ks:List (Option Expr)
 k:Nat
 c:Const
def lw(es:List Expr):Gu:=⟨es, [],0, .none⟩
def gu(e:Expr):Gu:=e.casesOn (λ_ es _=>lw es) (λ_ _ _=>lw []) (λa _ b _=>lw [a,b]) (λ_ a _=>lw [a]) (λ_ _ _ _=>lw []) (λc a b _=>lw [c,a,b]) (λks vs _=>⟨vs,ks,0, .none⟩) (λ_ _ _=>lw []) (λ_ _ _ _=>lw []) (λ_ _ _ _=>lw []) (λ_ _ _ _ _=>lw []) (λ_ _ _ _=>lw []) (λ_ _=>lw []) (λ_ _=>lw []) (λ_ _=>lw []) (λa _ es _=>lw (a::es)) (λf es _ _=>lw (f::es)) (λ_ _ _ _=>lw []) (λ_ _=>lw []) (λc k _=>⟨[], [],k,c⟩) (λa _ _=>lw [a]) (λa i _=>lw [a,i]) (λ_ _=>lw []) (λ_ _=>lw []) (λes _=>lw es) (λes k _=>⟨es, [],k, .none⟩) (λa b _ _=>lw [a.getD cM,b.getD cM])
def k1(g:Expr):Expr:=En cM (gu g).es
def k2(g:Expr):Expr:=En cM (gu g).es.tail
def k3(g:Expr):Expr:=En cM (gu g).es.tail.tail
noncomputable def gC {α β:Type} (d:β) (f:α->β->β):List α->List β->List β
 | [],_=> []
 |x::xs,gs=>f x (En d gs)::gC d f xs gs.tail
noncomputable def jX {α β:Type} (d:β) (f:α->β->Bool):List α->List β->Bool
 | [],_=>true
 |x::xs,gs=>f x (En d gs)&&jX d f xs gs.tail
def Ba{α:Type}(l:List α)(n:Nat):Bool:=Nat.ble l.length n
def OF(f:Ex->Expr->Expr)(x:Option Ex)(g:Expr):Option Expr:=x.map λx=>f x g
section
variable(nm:Nat->Str)
noncomputable def tp:Nat->Ex->Expr->Expr
 |0,_,g=>g
 |n+1,x,g=>match x with
  | .hole=>g
  | .loc x=> .Name (nm x) (Expr.pos g)
  | .glb x=> .Name (nm x) (Expr.pos g)
  | .k _=> .Constant (gu g).c (gu g).k (Expr.pos g)
  | .tup xs=> .Tuple (gC cM (tp n) xs (gu g).es) (gu g).k (Expr.pos g)
  | .list _ xs=> .List (gC cM (tp n) xs (gu g).es) (Expr.pos g)
  | .dict _ ks vs=> .Dict ((gC cM (tp n) ks ((gu g).ks.map λo=>o.getD cM)).map some) (gC cM (tp n) vs (gu g).es) (Expr.pos g)
  | .bin o a b=> .BinOp (tp n a (k1 g)) (Eh o) (tp n b (k2 g)) (Expr.pos g)
  | .rep _ a b=> .BinOp (tp n a (k1 g)) .Mult (tp n b (k2 g)) (Expr.pos g)
  | .neg a=> .UnaryOp .USub (tp n a (k1 g)) (Expr.pos g)
  | .not a=> .UnaryOp .Not (tp n a (k1 g)) (Expr.pos g)
  | .and xs=> .BoolOp .And (gC cM (tp n) xs (gu g).es) (Expr.pos g)
  | .or xs=> .BoolOp .Or (gC cM (tp n) xs (gu g).es) (Expr.pos g)
  | .cmp a os bs=> .Compare (tp n a (k1 g)) (os.map zR) (gC cM (tp n) bs (gu g).es.tail) (Expr.pos g)
  | .ite c a b=> .IfExp (tp n c (k1 g)) (tp n a (k2 g)) (tp n b (k3 g)) (Expr.pos g)
  | .attr a x=> .Attribute (tp n a (k1 g)) (nm x) (Expr.pos g)
  | .sub a b=> .Subscript (tp n a (k1 g)) (tp n b (k2 g)) (Expr.pos g)
  | .slice _ a lo hi=> .Subscript (tp n a (k1 g)) (.Slice (OF (tp n) lo (k1 (k2 g))) (OF (tp n) hi (k2 (k2 g))) none (Expr.pos (k2 g))) (Expr.pos g)
  | .call f xs=> .Call (.Name (nm f) (Expr.pos (k1 g))) (gC cM (tp n) xs (gu g).es.tail) [] (Expr.pos g)
  | .new c _ xs=> .Call (.Name (nm c) (Expr.pos (k1 g))) (gC cM (tp n) xs (gu g).es.tail) [] (Expr.pos g)
  | .meth o x xs=> .Call (.Attribute (tp n o (k1 (k1 g))) (nm x) (Expr.pos (k1 g))) (gC cM (tp n) xs (gu g).es.tail) [] (Expr.pos g)
  | .len a=> .Call (.Name "len" (Expr.pos (k1 g))) [tp n a (k2 g)] [] (Expr.pos g)
variable(T:Tb)(sc:Scope)(aP:Bool)
def Mc(y:Str):Bool:=dg sc y .local&& !(y==("__debug__":Str))
def yv(y:Str):Bool:=dg sc y .globalImplicit&& !(y==("__debug__":Str))
noncomputable def dI:Nat->Ex->Expr->Bool
 |0,_,_=>false
 |n+1,x,g=>match x with
  | .hole=>true
  | .loc x=>Mc sc (nm x)
  | .glb x=>yv sc (nm x)&&iN x T.glbs
  | .k v=>cR v (gu g).c
  | .tup xs=>jX cM (dI n) xs (gu g).es&&((gC cM (tp nm n) xs (gu g).es).all noStar&&Ba xs 1000)
  | .list _ xs=>jX cM (dI n) xs (gu g).es&&(gC cM (tp nm n) xs (gu g).es).all noStar
  | .dict _ ks vs=>(ks.isEmpty&&vs.isEmpty)||
    (!ks.isEmpty&&(jX cM (dI n) ks ((gu g).ks.map λo=>o.getD cM)&&(jX cM (dI n) vs (gu g).es&&(Nat.beq ks.length vs.length&&Ba ks 15))))||
    ((jX cM (dI n) ks ((gu g).ks.map λo=>o.getD cM)&&jX cM (dI n) vs (gu g).es)&&(wA ks vs).any λps=>Nat.beq ps.length 16&&bf 1 (H2 ps))
  | .bin _ a b=>dI n a (k1 g)&&dI n b (k2 g)
  | .rep _ a b=>dI n a (k1 g)&&dI n b (k2 g)
  | .neg a=>dI n a (k1 g)
  | .not a=>dI n a (k1 g)
  | .and xs=>jX cM (dI n) xs (gu g).es
  | .or xs=>jX cM (dI n) xs (gu g).es
  | .cmp a os bs=>dI n a (k1 g)&&(jX cM (dI n) bs (gu g).es.tail&&((gC cM (tp nm n) bs (gu g).es.tail).all kb&&(Nat.beq os.length bs.length&& !os.isEmpty)))
  | .ite c a b=>dI n c (k1 g)&&(dI n a (k2 g)&&dI n b (k3 g))
  | .attr a x=>iW (tp nm n a (k1 g))&&(iN x T.flds&&dI n a (k1 g))
  | .sub a b=>rY (tp nm n b (k2 g))&&(dI n a (k1 g)&&dI n b (k2 g))
  | .slice _ a lo hi=>dI n a (k1 g)&&(lo.all (λx=>dI n x (k1 (k2 g)))&&hi.all (λx=>dI n x (k2 (k2 g))))
  | .call f xs=> !aP&&(yv sc (nm f)&&(iN f T.fns&&((gC cM (tp nm n) xs (gu g).es.tail).all noStar&&jX cM (dI n) xs (gu g).es.tail)))
  | .new c _ xs=> !aP&&(yv sc (nm c)&&(iN c T.news&&((gC cM (tp nm n) xs (gu g).es.tail).all noStar&&jX cM (dI n) xs (gu g).es.tail)))
  | .meth o x xs=> !aP&&(iW (tp nm n o (k1 (k1 g)))&&(iN x T.meths&&(((Expr.pos (k1 g)).endLine==(Expr.pos g).line)&&(Ba (gC cM (tp nm n) xs (gu g).es.tail) 29&&((gC cM (tp nm n) xs (gu g).es.tail).all noStar&&(dI n o (k1 (k1 g))&&jX cM (dI n) xs (gu g).es.tail))))))
  | .len a=>dg sc "len" .globalImplicit&&(noStar (tp nm n a (k2 g))&&dI n a (k2 g))
noncomputable def Pr:List Nat->List Expr->List Expr
 | [],_=> []
 |x::xs,gs=> .Name (nm x) (Expr.pos (En cM gs))::Pr xs gs.tail
def OE(n:Nat)(t:zZ)(g:Expr):Expr:=match t with
 | .loc x=> .Name (nm x) (Expr.pos g)
 | .attr o x=> .Attribute (tp nm n o (k1 g)) (nm x) (Expr.pos g)
 | .sub o i=> .Subscript (tp nm n o (k1 g)) (tp nm n i (k2 g)) (Expr.pos g)
 | .tup xs=> .Tuple (Pr nm xs (gu g).es) (gu g).k (Expr.pos g)
def L1(n:Nat)(t:zZ)(g:Expr)(e:Expr):Bool:=match t with
 | .loc x=>dg sc (nm x) .local
 | .attr o x=>iN x T.sets&&dI nm T sc aP n o (k1 g)
 | .sub o i=>dI nm T sc aP n o (k1 g)&&dI nm T sc aP n i (k2 g)
 | .tup xs=> !aP&&(notTup e&&xs.all λx=>dg sc (nm x) .local)
def L2(t:zZ):Bool:=match t with
 | .loc x=>dg sc (nm x) .local
 | .tup xs=> !aP&&xs.all λx=>dg sc (nm x) .local
 |_=>false
structure Gs where
 a:Expr
 b:Expr
 ts:List Stmt
 os:List Stmt
 hp:Pos
def gZ:Gs:=⟨cM,cM, [], [],⟨0,0,0,0⟩⟩
def gs(e:Stmt):Gs:=e.casesOn (λ_ _ _ _ _ _ _ _ _ _=>gZ) (λ_ _ _ _ _ _ _ _ _ _=>gZ) (λ_ _ _ _ _ _ _ _ _ _ _=>gZ) (λe _=>⟨e.getD cM,cM, [], [],⟨0,0,0,0⟩⟩) (λ_ _=>gZ) (λts e _=>⟨e,En cM ts, [], [],⟨0,0,0,0⟩⟩) (λ_ _ _ _ _ _ _=>gZ) (λt _ e _=>⟨e,t, [], [],⟨0,0,0,0⟩⟩) (λ_ _ _ _ _=>gZ) (λt i b _ _=>⟨t,i,b, [],⟨0,0,0,0⟩⟩) (λ_ _ _ _ _=>gZ) (λc a _ _=>⟨c,cM,a, [],⟨0,0,0,0⟩⟩) (λc a b _=>⟨c,cM,a,b,⟨0,0,0,0⟩⟩) (λ_ _ _=>gZ) (λ_ _ _=>gZ) (λ_ _ _=>gZ) (λe _ _=>⟨e.getD cM,cM, [], [],⟨0,0,0,0⟩⟩) (λb hs _ _ _=>hs.casesOn gZ λh _=>h.casesOn λt _ h p=>⟨t.getD cM,cM,b,h,p⟩) (λ_ _ _ _ _=>gZ) (λ_ _ _=>gZ) (λ_ _=>gZ) (λ_ _ _ _=>gZ) (λ_ _=>gZ) (λ_ _=>gZ) (λe _=>⟨e,cM, [], [],⟨0,0,0,0⟩⟩) (λ_=>gZ) (λ_=>gZ) (λ_=>gZ)
def Vl(n:Nat)(it:It)(g:Expr):Expr:=match it with
 | .range xs=> .Call (.Name "range" (Expr.pos (k1 g))) (gC cM (tp nm n) xs (gu g).es.tail) [] (Expr.pos g)
 | .over x=>tp nm n x g
noncomputable def zP:Nat->Sm->Stmt->Stmt
 |0,_,g=>g
 |n+1,x,g=>match x with
  | .hole=>g
  | .expr x=> .Expr (tp nm n x (gs g).a) (Stmt.pos g)
  | .asg t x=> .Assign [OE nm n t (gs g).b] (tp nm n x (gs g).a) (Stmt.pos g)
  | .augN y o x=> .AugAssign (.Name (nm y) (Expr.pos (gs g).b)) (Eh o) (tp nm n x (gs g).a) (Stmt.pos g)
  | .augA a y o x=> .AugAssign (.Attribute (tp nm n a (k1 (gs g).b)) (nm y) (Expr.pos (gs g).b)) (Eh o) (tp nm n x (gs g).a) (Stmt.pos g)
  | .ite c t e=> .If (tp nm n c (gs g).a) (gC n8 (zP n) t (gs g).ts) (gC n8 (zP n) e (gs g).os) (Stmt.pos g)
  | .wh c b=> .While (tp nm n c (gs g).a) (gC n8 (zP n) b (gs g).ts) [] (Stmt.pos g)
  | .for t it b=> .For (OE nm n t (gs g).a) (Vl nm n it (gs g).b) (gC n8 (zP n) b (gs g).ts) [] (Stmt.pos g)
  | .ret x=> .Return (OF (tp nm n) x (gs g).a) (Stmt.pos g)
  | .try b c x h=> .Try (gC n8 (zP n) b (gs g).ts) [.ExceptHandler (some (.Name (nm c) (Expr.pos (gs g).a))) (some (nm x)) (gC n8 (zP n) h (gs g).os) (gs g).hp] [] [] (Stmt.pos g)
  | .raise c _ xs=> .Raise (some (.Call (.Name (nm c) (Expr.pos (k1 (gs g).a))) (gC cM (tp nm n) xs (gu (gs g).a).es.tail) [] (Expr.pos (gs g).a))) none (Stmt.pos g)
def PF(n:Nat)(it:It)(g:Expr):Bool:=match it with
 | .range xs=>dg sc "range" .globalImplicit&&((gC cM (tp nm n) xs (gu g).es.tail).all noStar&&jX cM (dI nm T sc aP n) xs (gu g).es.tail)
 | .over x=>kb (tp nm n x g)&&dI nm T sc aP n x g
noncomputable def zS:Nat->Bool->Sm->Stmt->Bool
 |0,_,_,_=>false
 |n+1,aP,x,g=>match x with
  | .hole=>true
  | .expr x=>iF (tp nm n x (gs g).a)&&dI nm T sc aP n x (gs g).a
  | .asg t x=>iF (tp nm n x (gs g).a)&&(dI nm T sc aP n x (gs g).a&&L1 nm T sc aP n t (gs g).b (tp nm n x (gs g).a))
  | .augN y _ x=>dg sc (nm y) .local&&dI nm T sc aP n x (gs g).a
  | .augA a y _ x=>iN y T.flds&&(iN y T.sets&&(dI nm T sc aP n a (k1 (gs g).b)&&dI nm T sc aP n x (gs g).a))
  | .ite c t e=>dI nm T sc aP n c (gs g).a&&(jX n8 (zS n aP) t (gs g).ts&&jX n8 (zS n aP) e (gs g).os)
  | .wh c b=>dI nm T sc aP n c (gs g).a&&jX n8 (zS n aP) b (gs g).ts
  | .for t it b=> !aP&&(L2 nm sc aP t&&(jX n8 (zS n aP) b (gs g).ts&&PF nm T sc aP n it (gs g).b))
  | .ret x=>x.all λx=>dI nm T sc aP n x (gs g).a
  | .try b c x h=> !aP&&(yv sc (nm c)&&(iN c T.excs&&(dg sc (nm x) .local&&(jX n8 (zS n aP) b (gs g).ts&&(!h.isEmpty&&jX n8 (zS n true) h (gs g).os)))))
  | .raise c _ xs=> !aP&&(yv sc (nm c)&&(iN c T.excs&&((gC cM (tp nm n) xs (gu (gs g).a).es.tail).all noStar&&jX cM (dI nm T sc aP n) xs (gu (gs g).a).es.tail)))
end
structure Cx.OkW(C:Cx)(n:Nat):Prop where
 frames:C.A.frames=some (C.env::C.outer)
 kind:C.scope.kind= .function
 depth:C.A.depth+4*n+16<recursionLimit
 units:C.A.units+8*n+128<cLine
 outs:wY C.outer C.outs
theorem Cx.OkW.ok{C:Cx}(h:C.OkW n)(hc:C.A.handled=none):C.Ok n:=⟨h.frames,h.kind,h.depth,h.units,hc,h.outs⟩
theorem Cx.Ok.w{C:Cx}(h:C.Ok n):C.OkW n:=⟨h.frames,h.kind,h.depth,h.units,h.outs⟩
theorem Cx.OkW.le{C:Cx}(h:C.OkW n)(hm:m<=n):C.OkW m:=⟨h.frames,h.kind,Ph hm h.depth,Ph hm h.units,h.outs⟩
theorem Cx.Ok.le{C:Cx}{n m:Nat}(h:C.Ok n)(hm:m<=n):C.Ok m:=⟨h.frames,h.kind,Ph hm h.depth,Ph hm h.units,h.calm,h.outs⟩
theorem C4{C:Cx}(h:C.OkW n):(C.held p).OkW n:=⟨h.frames,h.kind,h.depth,h.units,h.outs⟩
theorem C3{C:Cx}(h:C.OkW n):(C.hold I o).OkW n:=
 ⟨h.frames,h.kind,h.depth,h.units,λenv he=>⟨(h.outs env he).1,bS (h.outs env he).2 λa m h2 h3=>⟨a,m,h2, .tail _ h3⟩⟩⟩
structure EV(W:SW)(fa:Nat->Option Addr)(T:Tb):Prop where
 flds:∀x∈T.flds,wX W x
 sets:∀x∈T.sets,wV W x/\mB W x
 meths:∀x∈T.meths,Ck W fa x
 glbs:∀x∈T.glbs,∃v u n,nsIn W.K mainGlobals (W.nm x)=some (some u)/\K4 W n v u=true/\W.P.const x=some v
 fns:∀f∈T.fns,∃a,fa f=some a/\nsIn W.K mainGlobals (W.nm f)=some (some (.ref a))/\keepIn W.K (.ref a)=true
 news:∀c∈T.news,∃Ca,nsIn W.K mainGlobals (W.nm c)=some (some (.ref Ca))/\W.cls c=some Ca/\makesIn W.K Ca=true/\keepIn W.K (.ref Ca)=true/\
  (match W.P.init c with
   |some none=>findIn W.K (.ref Ca) "__init__"=some (some (.builtin "object.__init__"))/\W.P.isExc c=false
   |some (some f)=>∃a,fa f=some a/\findIn W.K (.ref Ca) "__init__"=some (some (.ref a))/\typeIn W.K (.ref a)=some (.type "function")
   |none=>True)
 excs:∀c∈T.excs,∃Ca,nsIn W.K mainGlobals (W.nm c)=some (some (.ref Ca))/\W.cls c=some Ca/\pP W fa c Ca/\keepIn W.K (.ref Ca)=true
 tabs:mA W
 names:xR W
 len:nsIn W.K mainGlobals ("len":Str)=some none
 range:nsIn W.K mainGlobals ("range":Str)=some none
theorem xu(h:Mc sc y=true):sc.names.lookup y=some .local/\(y==("__debug__":Str))=false:=let ⟨h1,h2⟩:=an h;⟨ci h1,iq h2⟩
theorem d7(h:yv sc y=true):sc.names.lookup y=some .globalImplicit/\(y==("__debug__":Str))=false:=let ⟨h1,h2⟩:=an h;⟨ci h1,iq h2⟩
theorem fb{P:β->α->Prop}(h:∀x g,ok x g=true->P (f x g) x):∀{gs:List β},jX d ok xs gs=true->cw P (gC d f xs gs) xs:=by
 induction xs with
 |nil=>intro _ _;trivial
 |cons x xs ih=>intro gs e;exact⟨h _ _ (an e).1,ih (an e).2⟩
theorem DX{xs:List Ex}:∀{es:List Expr},cw P es xs->cw (λ(e:Option Expr) x=>∃e',e=some e'/\P e' x) (es.map some) xs:=by
 induction xs with
 |nil=>intro es h;cases es;trivial;exact h.elim
 |cons x xs ih=>
  intro es h;cases es with
  |nil=>exact h.elim
  |cons e es=>exact⟨(al e rfl (h.1)),ih h.2⟩
theorem pQ{xs:List α}:∀{gs:List β},(gC d f xs gs).length=xs.length:=by
 induction xs with
 |nil=>intro _;rfl
 |cons x xs ih=>intro gs;exact Yd Nat.succ ih
theorem s7(h:∀x g,ok x g=true->SndE W C (f x g) (ih.e x)){os:List o9}:∀{o:o9} {bs:List Ex} {gs:List Expr},jX cM ok bs gs=true->os.length+1=bs.length->GY W C ih (o::os) (gC cM f bs gs) bs:=by
 induction os with
 |nil=>
  intro o bs gs e hl;cases bs with
  |nil=>exact nomatch hl
  |cons b bs=>
   cases bs with
   |nil=>exact .one (h _ _ (an e).1)
   |cons _ _=>exact nomatch hl
 |cons o' os i=>
  intro o bs gs e hl;cases bs with
  |nil=>exact nomatch hl
  |cons b bs=>
   cases bs with
   |nil=>exact nomatch (zag hl)
   |cons _ _=>exact .more (h _ _ (an e).1) (i (an e).2 (zag hl))
theorem FO:∀{gs hs:List Expr},jX cM (dI nm T sc aP n) (ps.map λp=> .k (.str p.1)) gs=true->jX cM (dI nm T sc aP n) (ps.map λp=> .k (.str p.2)) hs=true->jt ((gC cM (tp nm n) (ps.map λp=> .k (.str p.1)) gs).map some) (gC cM (tp nm n) (ps.map λp=> .k (.str p.2)) hs) ps:=by
 induction ps with
 |nil=>intro _ _ _ _;exact .nil
 |cons p ps i=>
  intro gs hs h1 h2;cases n with
  |zero=>exact nf (an h1).1
  |succ n=>
   show jt (some (.Constant (gu (En cM gs)).c _ _)::_) (.Constant (gu (En cM hs)).c _ _::_) (p::ps);rw[(eq_of_beq (an h1).1),(eq_of_beq (an h2).1)];exact .cons (i (an h1).2 (an h2).2)
theorem oJ:∀{ops:List CmpOp},rs.all kb=true->markedEach ops rs (evalEach rs env)=evalEach rs env:=by
 induction rs with
 |nil=>
  intro ops _;cases ops with
  |nil=>rfl
  |cons _ ops=>cases ops<;>rfl
 |cons e rs ih=>
  intro ops h;have h:=an h;cases ops with
  |nil=>rfl
  |cons op ops=>
   cases ops with
   |nil=>
    cases rs with
    |nil=>
     show[markedBehindIn op e (eval e env)]= [eval e env];unfold markedBehindIn
     (refine((show∀op e,kb e=true->behindInMarks op e=false from by
  intro op e h;cases e<;>first|exact nf h|(cases op<;>rfl)) _ _ h.1).symm ▸ rfl)
    |cons e' rs=>exact Yd (eval e env::·) (ih (ops:= []) h.2)
   |cons XQ ops=>exact Yd (eval e env::·) (ih h.2)
def SE(W:SW)(T:Tb)(m:Nat):Prop:=∀(C:Cx) aP n x g,C.OkW (m+1)->(aP=false->C.A.handled=none)->dI W.nm T C.scope aP n x g=true->SndE W C (tp W.nm n x g) ((run W.P m).e x)
def ST(W:SW)(T:Tb)(m:Nat):Prop:=∀(C:Cx) aP n x g,C.OkW (m+1)->(aP=false->C.A.handled=none)->dI W.nm T C.scope aP n x g=true->SndT W C (tp W.nm n x g) ((run W.P m).b x)
def SS(W:SW)(T:Tb)(m:Nat):Prop:=∀(C:Cx) aP n x g,C.OkW (m+1)->(aP=false->C.A.handled=none)->zS W.nm T C.scope n aP x g=true->SndS W C (zP W.nm n x g) ((run W.P m).s x)
theorem gQ:bV W C κ σ t (M.fail σ) V':=by
 intro res σ' h;exact nt h
theorem Tq(h:n+64<cLine):n+16<cLine:=YJ (Yx ak n) h
theorem Cx.OkW.u64{C:Cx}(h:C.OkW n):C.A.units+64<cLine:=YJ (zak (Ym _ _) ak) h.units
section
variable{W:SW}{fa:Nat->Option Addr}{T:Tb}(TT:EV W fa T)
theorem Nn:(run W.P m).e (.k v)=M.fail\/(run W.P m).e (.k v)=M.pure v:=by
 cases m with
 |zero=>exact .inl rfl
 |succ m=>exact .inr rfl
include TT
theorem Fv(hE:SE W T m)(hT:ST W T m)(iH:ei W fa (run W.P m) m):SE W T (m+1):=by
 intro C aP n x g hC hc cV;have GL:=hC.le (YT _);cases n with
 |zero=>exact nf cV
 |succ n=>
  have sub:=λx g h=>hE C aP n x g GL hc h
  let z1:=run W.P m
  have kX:=λ{xs gs}=>fb (d:=cM) (f:=tp W.nm n) (ok:=dI W.nm T C.scope aP n) (P:=λe x=>SndE W C e (z1.e x)) sub (xs:=xs) (gs:=gs);change SndE W C _ (lX W.P z1 x);cases x with
  |hole=>intro κ σ;exact gQ
  |loc x=>exact NS hC.kind (xu cV).1 (xu cV).2
  |glb x=>
   have h:=an cV;refine cZ (TT.glbs x (cc h.2)) λv u k h3 h4 h5=>?_;exact NW hC.kind (d7 h.1).1 (d7 h.1).2 h3 h4 h5
  |k v=>exact Xd cV
  |tup xs=>
   have h:=an cV;exact NL (kX h.1) (gP (an h.2).1) (Yg (an h.2).2)
  |list t xs=>
   have h:=an cV;exact Kd (kX h.1) (gP h.2)
  |dict t ks vs=>
   rcases YW.mp cV with h|h
   ·rcases YW.mp h with h|h
    ·have h:=an h;cases ks with
     |cons _ _=>exact nf h.1
     |nil=>
      cases vs with
      |cons _ _=>exact nf h.2
      |nil=>exact Gi
    ·have h0:=an h;have h1:=an h0.2;have h2:=an h1.2;have h3:=an h2.2;have e:=Yh h3.1;refine Ke (DX (kX h1.1)) (kX h2.1) (by rw[YO,pQ,pQ];exact e) ?_ (by rw[YO,pQ];exact Yg h3.2);cases ks with
     |nil=>exact nf h0.1
     |cons _ _=>exact List.cons_ne_nil _ _
   ·skip;refine U (oa (an h).2) λps e h1=>?_;have h2:=oz e;have h3:=an (an h).1;rw[h2.1,h2.2]at h3;refine wk (λv=>Nn) e ?_ (Yh (an h1).1) (an h1).2;rw[h2.1,h2.2];exact FO h3.1 h3.2
  |bin o a b=>
   have h:=an cV;exact NY (sub _ _ h.1) (sub _ _ h.2)
  |rep t a b=>exact NN (sub _ _ (an cV).1) (sub _ _ (an cV).2)
  |neg a=>exact NQ (sub _ _ cV)
  |not a=>exact NO (sub _ _ cV)
  |and xs=>exact NZ (kX cV)
  |or xs=>exact RH (kX cV)
  |cmp a os bs=>
   have h:=an cV;have h1:=an h.2;cases os with
   |nil=>exact nf (an (an h1.2).2).2
   |cons o os=>exact NX (hC.u64) TT.tabs (sub _ _ h.1) (s7 sub h1.1 (Yh (an (an h1.2).2).1)) (oJ (an h1.2).1)
  |ite c a b=>
   have h:=an cV;exact NV ((λx g h=>hT C aP n x g GL hc h) _ _ h.1) (sub _ _ (an h.2).1) (sub _ _ (an h.2).2)
  |attr a x=>
   have h:=an cV;exact Kh h.1 (TT.flds x (cc (an h.2).1)) (sub _ _ (an h.2).2)
  |sub a b=>
   have h:=an cV;exact NM h.1 (Tq (hC.u64)) (sub _ _ (an h.2).1) (sub _ _ (an h.2).2)
  |slice t a lo hi=>
   have h:=an cV;have opt:∀(x:Option Ex) g,x.all (λx=>dI W.nm T C.scope aP n x g)=true->wW W C z1 (OF (tp W.nm n) x g) x:=by
    intro x g h;cases x with
    |none=>trivial
    |some x=>exact sub _ _ h
   exact Gg (sub _ _ h.1) (opt _ _ (an h.2).1) (opt _ _ (an h.2).2)
  |call f xs=>
   have h1:=an (an cV).2;refine a8 (TT.fns f (cc (an h1.2).1)) λa g3 g4 g5=>?_
   let z0:=d7 h1.1
   exact Kg iH ((hC.ok (hc (iq (an cV).1))).le (YT _)) z0.1 z0.2 g4 g3 g5 (an (an h1.2).2).1 (kX (an (an h1.2).2).2)
  |new c t xs=>
   have h1:=an (an cV).2;refine uT (TT.news c (cc (an h1.2).1)) λCa g3 g4 g5 g6 g7=>?_;exact NP iH (hC.ok (hc (iq (an cV).1))) (d7 h1.1).1 (d7 h1.1).2 g3 g4 g5 g7 g6 (an (an h1.2).2).1 (kX (an (an h1.2).2).2)
  |meth o x xs=>
   have h5:=an (an (an (an (an (an cV).2).2).2).2).2;exact Kc iH ((hC.ok (hc (iq (an cV).1))).le (YT _)) TT.names (TT.meths x (cc (an (an (an cV).2).2).1)) (an (an cV).2).1 (an (an (an (an cV).2).2).2).1 (ZH (Yg (an (an (an (an (an cV).2).2).2).2).1)) h5.1 (sub _ _ (an h5.2).1) (kX (an h5.2).2)
  |len a=>
   exact NU hC.kind (ci (an cV).1) TT.len (an (an cV).2).1 (sub _ _ (an (an cV).2).2)
end
section
variable{W:SW}{fa:Nat->Option Addr}{T:Tb}(TT:EV W fa T)
include TT
theorem Fb(hE:SE W T m)(hT:ST W T m):ST W T (m+1):=by
 intro C aP n x g hC hc cV;cases n with
 |zero=>exact nf cV
 |succ n=>
  have yk:=λx g h=>hT C aP n x g (hC.le (YT _)) hc h;have gen:=E7 (hE C aP (n+1) x g (hC.le (YT _)) hc cV);cases x with
  |not a=>exact MK (yk _ _ cV)
  |and xs=>exactλκ σ=>MN ((λ{xs gs}=>fb (d:=cM) (f:=tp W.nm n) (ok:=dI W.nm T C.scope aP n) (P:=λe x=>SndT W C e ((run W.P m).b x)) yk (xs:=xs) (gs:=gs)) cV) _ κ σ
  |or xs=>exactλκ σ=>QM ((λ{xs gs}=>fb (d:=cM) (f:=tp W.nm n) (ok:=dI W.nm T C.scope aP n) (P:=λe x=>SndT W C e ((run W.P m).b x)) yk (xs:=xs) (gs:=gs)) cV) _ κ σ
  |ite c a b=>
   have h:=an cV;exact ML (yk _ _ h.1) (yk _ _ (an h.2).1) (yk _ _ (an h.2).2)
  |cmp a os bs=>
   have h:=an cV;cases os with
   |nil=>exact nf (an (an (an h.2).2).2).2
   |cons o os=>exact MM hC.u64 TT.tabs ((λx g h=>hE C aP n x g (hC.le (YT _)) hc h) _ _ h.1) (s7 (λx g h=>hE C aP n x g (hC.le (YT _)) hc h) (an h.2).1 (Yh (an (an (an h.2).2).2).1)) (oJ (an (an h.2).2).1)
  |hole=>
   intro κ σ res σ' h;cases m<;>exact nt h
  |_=>exact gen λ_ _=>rfl
omit TT in
theorem BO:∀{gs:List Expr},cw (AN W) (Pr W.nm xs gs) xs:=by
 induction xs with
 |nil=>intro gs;trivial
 |cons x xs ih=>intro gs;exact⟨⟨_,rfl⟩,ih⟩
omit TT in
theorem xw{xs:List Nat}(h:xs.all (λx=>dg sc (W.nm x) .local)=true):∀x∈xs,sc.names.lookup (W.nm x)=some .local:=λx hx=>ci (X7.mp h x hx)
omit TT in
theorem Ni(hk:C.scope.kind= .function)(hc:aP=false->C.A.handled=none)(h:L2 W.nm C.scope aP t=true):yD W C (OE W.nm n t g) (Mine.assign ih t):=by
 cases t with
 |loc x=>exact wo hk (ci h)
 |tup xs=>exact m4 hk (hc (iq (an h).1)) BO (xw (an h).2)
 |attr o x=>exact nf h
 |sub o i=>exact nf h
theorem Ks(hk:C.scope.kind= .function)(hu:C.A.units+16<cLine)(hc:aP=false->C.A.handled=none)(sub:∀x g,dI W.nm T C.scope aP n x g=true->SndE W C (tp W.nm n x g) ((run W.P m).e x))(h1:iF e=true)(h2:SndE W C e ((run W.P m).e x))(h3:L1 W.nm T C.scope aP n t g e=true):SndS W C (.Assign [OE W.nm n t g] e pos) (oi W.P (run W.P m) (.asg t x)):=by
 cases t with
 |loc y=>exact Jz hk (ci h3) h1 h2
 |attr o y=>
  exact JA (TT.sets y (cc (an h3).1)).1 (TT.sets y (cc (an h3).1)).2 h1 h2 (sub _ _ (an h3).2)
 |sub o i=>exact Jy hu h1 h2 (sub _ _ (an h3).1) (sub _ _ (an h3).2)
 |tup xs=>
  exact Jx hk (hc (iq (an h3).1)) BO (xw (an (an h3).2).2) h1 (an (an h3).2).1 h2
theorem Fc(hE:SE W T m)(hT:ST W T m)(hS:SS W T m)(nE:∀j,j<m+1->ST W T j/\SS W T j)(iH:ei W fa (run W.P m) m):SS W T (m+1):=by
 intro C aP n x g hC hc cV;have GL:=hC.le (YT _);cases n with
 |zero=>exact nf cV
 |succ n=>
  have sub:=λx g h=>hE C aP n x g GL hc h;have kX:=λ{xs gs}=>fb (d:=cM) (f:=tp W.nm n) (ok:=dI W.nm T C.scope aP n) (P:=λe x=>SndE W C e ((run W.P m).e x)) sub (xs:=xs) (gs:=gs);have IA:=λ{xs gs}=>fb (d:=n8) (f:=zP W.nm n) (ok:=zS W.nm T C.scope n aP) (P:=λe x=>SndS W C e ((run W.P m).s x)) (λx g h=>hS C aP n x g GL hc h) (xs:=xs) (gs:=gs);cases x with
  |hole=>intro κ σ;exact gQ
  |expr x=>exact Ju (by unfold interactive;(refine(show C.env.scope.kind= .function from hC.kind).symm ▸?_);rfl) (an cV).1 (sub _ _ (an cV).2)
  |asg t x=>
   have h:=an cV;exact Ks TT hC.kind (Tq hC.u64) hc sub h.1 (sub _ _ (an h.2).1) (an h.2).2
  |augN y o x=>
   have h:=an cV;exact Jv hC.kind (ci h.1) (sub _ _ h.2)
  |augA a y o x=>
   have h:=an cV;have h1:=an h.2;have h2:=an h1.2;exact Jw (TT.flds y (cc h.1)) (TT.sets y (cc h1.1)).1 (TT.sets y (cc h1.1)).2 (sub _ _ h2.1) (sub _ _ h2.2)
  |ite c t e=>
   have h:=an cV;exact QS ((λx g h=>hT C aP n x g GL hc h) _ _ h.1) (IA (an h.2).1) (IA (an h.2).2)
  |wh c b=>
   have h:=an cV;exact Fw (n:=m+1) (λj hj=>(nE j hj).1 C aP n _ _ (hC.le (Y7 hj)) hc h.1)
    λj hj=>fb (λx g h=>(nE j hj).2 C aP n x g (hC.le (Y7 hj)) hc h) h.2
  |«for» t it b=>
   have h2:=an (an (an cV).2).2;have hA:=λI o=>Ni (C:=C.hold I o) (ih:=run W.P m) (n:=n) (g:=(gs g).a) hC.kind hc (an (an cV).2).1;have hB:=λI o=>fb (d:=n8) (f:=zP W.nm n) (ok:=zS W.nm T C.scope n aP) (P:=λe x=>SndS W (C.hold I o) e ((run W.P m).s x)) (λx g h=>hS (C.hold I o) aP n x g (C3 GL) hc h) h2.1;cases it with
   |range xs=>
    exact vK (hc (iq (an cV).1)) hC.kind (ci (an h2.2).1) TT.range (an (an h2.2).2).1 (kX (an (an h2.2).2).2) hA hB
   |over x=>exact yX (hc (iq (an cV).1)) (an h2.2).1 (sub _ _ (an h2.2).2) hA hB
  |ret x=>
   cases x with
   |none=>exact Jq
   |some x=>exact MX (sub _ _ cV)
  |«try» b c x h=>
   have h2:=an (an (an cV).2).2;refine uU (TT.excs c (cc h2.1)) λCa g3 g4 g5 g6=>?_;cases h with
   |nil=>exact nf (an (an (an h2.2).2).2).1
   |cons _ _=>exact MW hC.frames hC.kind g4 g5 (d7 (an (an cV).2).1).1 (d7 (an (an cV).2).1).2 g3 (ci (an h2.2).1) (IA (an (an h2.2).2).1) λp=>fb (λx g h=>hS (C.held p) true n x g (C4 GL) ng h) (an (an (an h2.2).2).2).2
  |raise c t xs=>
   refine uU (TT.excs c (cc (an (an (an cV).2).2).1)) λCa g3 g4 g5 g6=>?_;exact Fy iH (hC.ok (hc (iq (an cV).1))) (d7 (an (an cV).2).1).1 (d7 (an (an cV).2).1).2 g3 g4 g5 g6 (an (an (an (an cV).2).2).2).1 (kX (an (an (an (an cV).2).2).2).2)
end
def Br(W:SW)(fa:Nat->Option Addr)(T:Tb):Prop:=∀f a,fa f=some a->W.P.fn f=none\/∃fn gs scope qual cd n,W.P.fn f=some fn/\MB W fn a (gC n8 (zP W.nm n) fn.body gs) scope qual cd/\jX n8 (zS W.nm T scope n false) fn.body gs=true
section
variable{W:SW}{fa:Nat->Option Addr}{T:Tb}(TT:EV W fa T)(FT:Br W fa T)
include FT in
theorem zJ(hS:SS W T m):ei W fa (run W.P (m+1)) (m+1):=by
 intro C hC f a hf κ σ args us hv res σ' h RR s R k;refine U (gH h) λX3 e h'=>?_;refine(FT f a hf).elim (λh0=>?_) λq=>?_
 ·exact nt (h0.symm.trans e)
 ·refine hg λcg kg=>?_;(refine cz q λfn gs scope qual q=>?_;(refine a9 q λcd n h1 h2 h3=>?_;try clear q));obtain rfl:=si (h1.symm.trans e)
  refine kg ?_;refine uc De hC h2 (λC' Tw D8 κ σ=>?_) h' hv R k;exact dl (fb (λx g h=>hS C' false n x g Tw.w (λ_=>Tw.calm) (by(refine(D8).symm ▸?_);exact h)) h3) κ σ
include TT FT in
theorem MQ:∀m,SE W T m/\ST W T m/\SS W T m/\ei W fa (run W.P m) m:=by
 intro m
 induction m using Nat.strongRecOn with
 |ind m ih=>
  cases m with
  |zero=>
   refine(lU (λC aP n x g _ _ _ κ σ=>gQ) (λC aP n x g _ _ _ κ σ=>gQ) (λC aP n x g _ _ _ κ σ=>gQ) ?_);intro C hC f a hf κ σ args us hv res σ' h;cases h
  |succ m=>
   refine AM (ih m (Z5 m)) λhE hT hS hc=>?_;refine(lU (Fv TT hE hT hc) (Fb TT hE hT) (Fc TT hE hT hS (λj hj=>⟨(ih j hj).2.1,(ih j hj).2.2.1⟩) hc) (zJ FT hS))
end
end Mine
end
section
namespace Mine
open PySem
noncomputable abbrev aW (i:Int):Ex:= .k (.int i)
noncomputable abbrev aF (l:List Nat):Ex:= .k (.str l)
noncomputable abbrev be:Ex:= .k (.int 0)
abbrev nu:Ex:= .sub (.loc 185) (aF [107,105,110,100,115])
noncomputable abbrev bI:Ex:= .k (.int 1)
abbrev z7:Ex:= .sub (.loc 185) (aF [97,100,100,114,115])
abbrev z6:Ex:= .sub (.loc 185) (aF [101,120,97,99,116])
abbrev D0:Ex:= .sub (.loc 185) (aF [105,116,101,109,115])
abbrev lO:Ex:= .attr (.loc 146) 147
abbrev fi:Ex:= .k (.int 2)
abbrev Kz:Ex:= .sub (.sub (.loc 185) (aF [104,101,108,100])) (.loc 203)
abbrev GC:Ex:= .cmp (.sub (.loc 188) be) [.eq] [(aF [63])]
abbrev o6:Ex:= .sub (.loc 63) be
abbrev Ee:Ex:= .sub (.loc 185) (aF [101,118])
noncomputable abbrev wq:Ex:= .attr (.loc 134) 13
abbrev OB:Ex:= .sub (.loc 185) (aF [117,110,100,101,114,115])
noncomputable def sa (x:Nat) (e:Ex):Sm:= .asg (.attr (.loc 250) x) e
def sb(x:Nat):Sm:=sa x (.loc x)
def nS:Fn:=⟨[5],
 [(.asg (.loc 6) (.sub (.loc 5) be)),
 (.ite (.or [(.cmp (.loc 6) [.eq] [(.glb 7)]),(.cmp (.loc 6) [.eq] [(.glb 8)])]) [(.ret (some (.sub (.loc 5) fi)))] []),
 .hole,
 .hole,
 .hole]⟩
def tJ:Fn:=⟨[6],
 [(.ite (.or [(.cmp (.loc 6) [.eq] [(.glb 7)]),(.cmp (.loc 6) [.eq] [(.glb 8)]),(.cmp (.loc 6) [.eq] [(.glb 10)])]) [(.ret (some bI))] []),
 .hole]⟩
def qR:Fn:=⟨[6],
 [(.ite (.or [(.cmp (.loc 6) [.eq] [(.glb 7)]),(.cmp (.loc 6) [.eq] [(.glb 8)])]) [(.ret (some (aW 3)))] []),
 .hole,
 .hole]⟩
def kH:Fn:=⟨[13,5],
 [(.ite (.or [(.cmp (.len (.loc 5)) [.eq] [be]),(.cmp (.sub (.loc 5) be) [.le] [(.glb 14)]),(.cmp (.sub (.loc 5) be) [.gt] [(.glb 15)])]) [.hole] []),
 (.asg (.loc 6) (.sub (.loc 5) be)),
 (.ite (.cmp (.len (.loc 5)) [.ne] [(.call 11 [(.loc 6)])]) [.hole] []),
 (.for (.loc 16) (.over (.call 4 [(.loc 5)])) [(.expr (.meth (.loc 13) 5 [(.loc 16)]))]),
 (.ite (.or [(.cmp (.loc 6) [.eq] [(.glb 7)]),(.cmp (.loc 6) [.eq] [(.glb 8)])]) [(.expr (.call 17 [(.loc 13),(.loc 5)]))] [.hole])]⟩
def nV:Fn:=⟨[13,5],
 [(.ite (.or [(.cmp (.sub (.loc 5) bI) [.le] [be]),(.cmp (.sub (.loc 5) bI) [.isIn] [(.glb 18)])]) [.hole] []),
 (.expr (.call 19 [(.loc 13),(.sub (.loc 5) fi)]))]⟩
noncomputable def rd:Fn:=⟨[13,20],
 [(.for (.loc 21) (.over (.loc 20)) [(.ite (.not (.call 22 [(.loc 13),(.loc 21)])) [.hole] [])])]⟩
def tM:Fn:=⟨[13,23],
 [(.ite (.or [(.cmp (.loc 23) [.eq] [(.glb 24)]),(.cmp (.loc 23) [.eq] [(.glb 25)])]) [.hole] []),
 (.asg (.loc 6) (.sub (.meth (.loc 13) 5 [(.loc 23)]) be)),
 (.ret (some (.or [(.cmp (.loc 6) [.le] [(.glb 10)]),(.cmp (.loc 6) [.eq] [(.glb 26)]),(.cmp (.loc 6) [.eq] [(.glb 27)])])))]⟩
def tZ:Fn:=⟨[13,23],
 [(.ret (some (.sub (.meth (.loc 13) 5 [(.loc 23)]) be)))]⟩
def Dz:Fn:=⟨[13,23],
 [(.asg (.loc 5) (.meth (.loc 13) 5 [(.loc 23)])),
 (.ite (.or [(.cmp (.sub (.loc 5) be) [.eq] [(.glb 7)]),(.cmp (.sub (.loc 5) be) [.eq] [(.glb 8)])]) [(.ret (some (.sub (.loc 5) bI)))] []),
 .hole,
 .hole,
 .hole]⟩
def zy:Fn:=⟨[13,23],
 [(.asg (.loc 5) (.meth (.loc 13) 5 [(.loc 23)])),
 (.ite (.or [(.cmp (.sub (.loc 5) be) [.eq] [(.glb 7)]),(.cmp (.sub (.loc 5) be) [.eq] [(.glb 8)])]) [(.ret (some (.sub (.loc 5) fi)))] []),
 .hole]⟩
def wg:Fn:=⟨[13,23],
 [(.ite (.and [(.cmp (.glb 32) [.le] [(.loc 23)]),(.cmp (.loc 23) [.le] [(.glb 33)])]) [(.ret (some (.k (.bool true))))] []),
 (.ret (some (.cmp (.sub (.meth (.loc 13) 5 [(.loc 23)]) be) [.eq] [(.glb 8)])))]⟩
def DD:Fn:=⟨[23],
 [(.ret (some (.and [(.cmp (.glb 32) [.le] [(.loc 23)]),(.cmp (.loc 23) [.le] [(.glb 33)])])))]⟩
def zt:Fn:=⟨[36,23],
 [(.asg (.loc 37) (.call 29 [(.attr (.loc 36) 13),(.loc 23)])),
 (.ite (.or [(.cmp (.loc 37) [.le] [be]),(.cmp (.loc 37) [.ge] [(.len (.attr (.loc 36) 38))])]) [.hole] []),
 (.ret (some (.sub (.attr (.loc 36) 38) (.loc 37))))]⟩
def tE:Fn:=⟨[40,41],
 [(.asg (.loc 40) (.bin .band (.loc 40) (.bin .sub (.bin .shl bI (.loc 41)) bI))),
 (.ite (.bin .shr (.loc 40) (.bin .sub (.loc 41) bI)) [(.ret (some (.bin .sub (.loc 40) (.bin .shl bI (.loc 41)))))] []),
 (.ret (some (.loc 40)))]⟩
def Dy:Fn:=⟨[40],
 [(.ret (some (.call 39 [(.loc 40),(aW 32)])))]⟩
def Dx:Fn:=⟨[40],
 [(.ret (some (.call 39 [(.loc 40),(aW 64)])))]⟩
noncomputable def qU:Fn:=⟨[36,23],
 [(.ite (.cmp (.call 28 [(.attr (.loc 36) 13),(.loc 23)]) [.ne] [(.glb 8)]) [(.ret (some (.loc 23)))] []),
 (.asg (.loc 45) (.call 35 [(.loc 36),(.loc 23)])),
 (.ite (.cmp (.loc 45) [.is] [(.k .none)]) [.hole] []),
 (.ite (.cmp (.attr (.loc 45) 6) [.ne] [(.glb 46)]) [(.ret (some (.loc 23)))] []),
 (.ite (.not (.call 34 [(.attr (.loc 45) 47)])) [.hole] []),
 (.ret (some (.attr (.loc 45) 47)))]⟩
def ln:Fn:=⟨[23],
 [(.ite (.cmp (.glb 32) [.le, .le] [(.loc 23),(.glb 49)]) [(.ret (some (.tup [(.glb 50),be])))] []),
 (.ite (.or [(.cmp (.loc 23) [.eq] [(.glb 51)]),(.cmp (.loc 23) [.eq] [(.glb 52)])]) [(.ret (some (.tup [(.glb 53),be])))] []),
 (.ite (.cmp (.loc 23) [.eq] [(.glb 33)]) [(.ret (some (.tup [(.glb 54),be])))] []),
 (.ret (some (.glb 55)))]⟩
def DE:Fn:=⟨[23,40],
 [(.ite (.or [(.cmp (.loc 23) [.eq] [(.glb 32)]),(.cmp (.loc 23) [.eq] [(.glb 57)])]) [(.ret (some (.bin .band (.loc 40) (aW 255))))] []),
 (.ite (.or [(.cmp (.loc 23) [.eq] [(.glb 58)]),(.cmp (.loc 23) [.eq] [(.glb 59)])]) [(.ret (some (.bin .band (.loc 40) (aW 65535))))] []),
 (.ite (.cmp (.loc 23) [.eq] [(.glb 60)]) [(.ret (some (.call 39 [(.loc 40),(aW 8)])))] []),
 (.ite (.cmp (.loc 23) [.eq] [(.glb 61)]) [(.ret (some (.call 39 [(.loc 40),(aW 16)])))] []),
 (.ite (.or [(.cmp (.loc 23) [.eq] [(.glb 51)]),(.cmp (.loc 23) [.eq] [(.glb 52)])]) [(.ret (some (.call 43 [(.loc 40)])))] []),
 (.ret (some (.call 42 [(.loc 40)])))]⟩
def wa:Fn:=⟨[13,23,63],
 [(.ite (.or [(.cmp o6 [.eq] [(.glb 50)]),(.cmp o6 [.eq] [(.glb 53)]),(.cmp o6 [.eq] [(.glb 54)])]) [(.asg (.loc 64) (.call 65 [(.loc 13),(.loc 23)])),(.ite (.or [(.cmp (.loc 64) [.eq] [(.glb 50)]),(.cmp (.loc 64) [.eq] [(.glb 53)]),(.cmp (.loc 64) [.eq] [(.glb 54)])]) [(.ret (some (.tup [(.loc 64),(.call 56 [(.loc 23),(.sub (.loc 63) bI)])])))] [])] []),
 (.ret (some (.loc 63)))]⟩
def DA:Fn:=⟨[13,23],
 [(.ite (.cmp (.glb 32) [.le, .le] [(.loc 23),(.glb 49)]) [(.ret (some (.glb 50)))] []),
 (.ite (.or [(.cmp (.loc 23) [.eq] [(.glb 51)]),(.cmp (.loc 23) [.eq] [(.glb 52)])]) [(.ret (some (.glb 53)))] []),
 (.ite (.cmp (.loc 23) [.eq] [(.glb 33)]) [(.ret (some (.glb 54)))] []),
 (.ite (.or [(.cmp (.loc 23) [.eq] [(.glb 66)]),(.cmp (.loc 23) [.eq] [(.glb 67)]),(.cmp (.loc 23) [.eq] [(.glb 25)])]) [(.ret (some (.glb 68)))] []),
 (.ret (some (.call 69 [(.sub (.meth (.loc 13) 5 [(.loc 23)]) be)])))]⟩
noncomputable def qQ:Fn:=⟨[6],
 [(.ite (.or [(.cmp (.loc 6) [.eq] [(.glb 7)]),(.cmp (.loc 6) [.eq] [(.glb 10)]),(.cmp (.loc 6) [.eq] [(.glb 70)])]) [(.ret (some (.glb 68)))] []),
 (.ite (.cmp (.loc 6) [.eq] [(.glb 8)]) [(.ret (some (.glb 71)))] []),
 .hole,
 .hole,
 .hole]⟩
def J7:Fn:=⟨[13,63,23],
 [(.asg (.loc 64) (.call 65 [(.loc 13),(.loc 23)])),
 (.ite (.cmp (.loc 64) [.eq] [(.glb 71)]) [(.ret (some (.and [(.cmp o6 [.eq] [(.glb 71)]),(.cmp (.sub (.loc 63) bI) [.eq] [(.loc 23)])])))] []),
 (.ite (.cmp (.loc 64) [.eq] [(.glb 54)]) [(.ret (some (.or [(.cmp o6 [.eq] [(.glb 54)]),(.cmp o6 [.eq] [(.glb 50)])])))] []),
 (.ite (.and [(.cmp (.loc 64) [.eq] [(.glb 50)]),(.cmp o6 [.eq] [(.glb 54)])]) [.hole] []),
 (.ite (.and [(.cmp (.loc 64) [.eq] [(.glb 73)]),(.cmp (.loc 63) [.eq] [(.glb 55)])]) [.hole] []),
 (.ret (some (.and [(.cmp (.loc 64) [.ne] [(.glb 74)]),(.cmp o6 [.eq] [(.loc 64)])])))]⟩
def wb:Fn:=⟨[63,76,77],
 [(.asg (.loc 78) (.list 1 [])),
 (.asg (.loc 79) (.loc 63)),
 (.for (.loc 80) (.over (.loc 76)) [(.expr (.meth (.loc 78) 1 [(.tup [(.loc 79),(.loc 80)])])),(.asg (.loc 79) (.sub (.sub (.loc 79) fi) (.loc 80)))]),
 (.asg (.loc 81) (.bin .sub (.len (.loc 78)) bI)),
 (.wh (.cmp (.loc 81) [.ge] [be]) [(.asg (.tup [82,80]) (.sub (.loc 78) (.loc 81))),(.asg (.loc 77) (.tup [(.glb 71),(.sub (.loc 82) bI),(.bin .add (.bin .add (.slice 2 (.sub (.loc 82) fi) none (some (.loc 80))) (.tup [(.loc 77)])) (.slice 3 (.sub (.loc 82) fi) (some (.bin .add (.loc 80) bI)) none))])),(.augN 81 .sub bI)]),
 (.ret (some (.loc 77)))]⟩
noncomputable def nR:Fn:=⟨[84,23],
 [(.ret (some (.and [(.cmp (.call 28 [(.attr (.loc 84) 13),(.loc 23)]) [.eq] [(.glb 8)]),(.cmp (.call 29 [(.attr (.loc 84) 13),(.loc 23)]) [.eq] [(.glb 85)])])))]⟩
noncomputable def wc:Fn:=⟨[84,87,88],
 [(.asg (.loc 89) (.len (.attr (.loc 84) 90))),
 (.expr (.meth (.attr (.loc 84) 90) 1 [(.new 91 4 [(.loc 89),(.loc 87),(.loc 88)])])),
 (.ret (some (.loc 89)))]⟩
noncomputable def tI:Fn:=⟨[84,37,93],
 [(.expr (.call 94 [(.loc 84),(.meth (.loc 84) 95 [(.loc 37),(.loc 93)])]))]⟩
noncomputable def lm:Fn:=⟨[84],
 [(.expr (.call 92 [(.loc 84),(.glb 97),(.glb 98)]))]⟩
noncomputable def zx:Fn:=⟨[84,89,23],
 [(.asg (.loc 23) (.meth (.loc 84) 100 [(.loc 23)])),
 (.asg (.loc 101) (.sub (.attr (.loc 84) 90) (.loc 89))),
 (.ite (.cmp (.attr (.loc 101) 102) [.isNot] [(.k .none)]) [(.for (.loc 104) (.over (.attr (.attr (.loc 101) 102) 103)) [(.ite (.meth (.loc 84) 105 [(.loc 104),(.loc 23)]) [(.ret (some (.k (.bool true))))] [])]),(.ret (some (.k (.bool false))))] []),
 (.ret (some (.meth (.loc 84) 105 [(.attr (.loc 101) 87),(.loc 23)])))]⟩
def ni:Fn:=⟨[81,63],
 [(.asg (.loc 107) (.sub (.loc 81) be)),
 (.asg (.loc 76) (.sub (.loc 81) fi)),
 (.asg (.loc 82) (.list 5 [])),
 (.asg (.loc 16) (.sub (.loc 107) (.sub (.loc 81) bI))),
 (.for (.loc 108) (.over (.loc 76)) [(.expr (.meth (.loc 82) 1 [(.loc 16)])),(.asg (.loc 16) (.sub (.loc 16) (.loc 108)))]),
 (.for (.loc 109) (.range [(.len (.loc 76))]) [(.asg (.loc 110) (.bin .sub (.bin .sub (.len (.loc 76)) bI) (.loc 109))),(.asg (.loc 111) (.sub (.loc 82) (.loc 110))),(.asg (.loc 63) (.bin .add (.bin .add (.slice 6 (.loc 111) none (some (.sub (.loc 76) (.loc 110)))) (.tup [(.loc 63)])) (.slice 7 (.loc 111) (some (.bin .add (.sub (.loc 76) (.loc 110)) bI)) none)))]),
 (.asg (.sub (.loc 107) (.sub (.loc 81) bI)) (.loc 63))]⟩
def ua:Fn:=⟨[84,23,63],
 [(.ite (.not (.call 31 [(.attr (.loc 84) 13),(.loc 23)])) [(.ret (some (.loc 63)))] []),
 (.ite (.call 83 [(.loc 84),(.loc 23)]) [(.ite (.cmp o6 [.eq] [be]) [(.ret (some be))] []),(.ret (some (.call 112 [(.loc 84),(.sub (.call 30 [(.attr (.loc 84) 13),(.loc 23)]) be),(.sub (.loc 63) bI)])))] []),
 (.ret (some (.call 86 [(.loc 84),(.loc 23),(.list 8 [(.loc 63)])])))]⟩
def nO:Fn:=⟨[84,23,89],
 [(.ite (.call 83 [(.loc 84),(.loc 23)]) [(.ite (.cmp (.loc 89) [.eq] [be]) [.hole] []),(.asg (.loc 16) (.sub (.call 30 [(.attr (.loc 84) 13),(.loc 23)]) be)),(.ite (.cmp (.attr (.sub (.attr (.loc 84) 90) (.loc 89)) 87) [.ne] [(.loc 16)]) [(.expr (.call 92 [(.loc 84),(.glb 114),(.glb 115)]))] []),(.ret (some (.tup [bI,(.call 113 [(.loc 84),(.loc 16),(.loc 89)])])))] []),
 (.ite (.cmp (.loc 89) [.eq] [be]) [(.expr (.call 96 [(.loc 84)]))] []),
 (.asg (.loc 101) (.sub (.attr (.loc 84) 90) (.loc 89))),
 (.ite (.or [(.cmp (.attr (.loc 101) 102) [.isNot] [(.k .none)]),(.not (.call 31 [(.attr (.loc 84) 13),(.attr (.loc 101) 87)]))]) [(.expr (.call 92 [(.loc 84),(.glb 114),(.glb 115)]))] []),
 (.ite (.cmp (.call 44 [(.attr (.loc 84) 36),(.attr (.loc 101) 87)]) [.ne] [(.call 44 [(.attr (.loc 84) 36),(.loc 23)])]) [(.expr (.call 92 [(.loc 84),(.glb 114),(.glb 115)]))] []),
 (.ret (some (.sub (.attr (.loc 101) 88) be)))]⟩
def kF:Fn:=⟨[84,23,89],
 [(.ite (.call 31 [(.attr (.loc 84) 13),(.loc 23)]) [.hole] []),
 (.ite (.and [(.cmp (.loc 89) [.ne] [be]),(.not (.call 99 [(.loc 84),(.loc 89),(.loc 23)]))]) [(.expr (.call 92 [(.loc 84),(.glb 114),(.glb 115)]))] []),
 (.ret (some (.loc 89)))]⟩
noncomputable def tH:Fn:=⟨[118],
 [(.ite (.cmp (.bin .add (.glb 119) (.loc 118)) [.lt] [(.glb 120)]) [.hole] []),
 (.ret (some (.bin .add (.glb 119) (.loc 118))))]⟩
def rc:Fn:=⟨[122,87,88],
 [(.asg (.loc 123) (.new 124 9 [(.attr (.loc 122) 125),(.loc 87),(.loc 88)])),
 (.augA (.loc 122) 126 .add bI),
 (.asg (.attr (.loc 123) 127) (.attr (.loc 122) 126)),
 (.expr (.meth (.attr (.loc 122) 90) 1 [(.loc 123)])),
 (.asg (.sub (.attr (.loc 122) 110) (.attr (.loc 123) 128)) (.loc 123)),
 (.augA (.loc 122) 125 .add (.attr (.loc 123) 129)),
 (.augA (.loc 122) 130 .add (.attr (.loc 123) 129)),
 (.ret (some (.loc 123)))]⟩
noncomputable def q0:Fn:=⟨[123,80],
 [(.ret (some (.tup [(.glb 132),(.bin .add (.bin .add (.attr (.loc 123) 128) (.glb 119)) (.loc 80)),(.tup [])])))]⟩
noncomputable def nQ:Fn:=⟨[134,37],
 [(.ite (.cmp (.attr (.loc 134) 135) [.eq] [(.glb 136)]) [(.expr (.meth (.attr (.loc 134) 137) 1 [(.loc 37)]))] []),
 (.ret (some (.glb 138)))]⟩
noncomputable def v8:Fn:=⟨[134,23],
 [(.asg (.loc 5) (.meth (.attr (.loc 134) 140) 3 [(.loc 23)])),
 (.ite (.cmp (.loc 5) [.is] [(.k .none)]) [(.ret (some (.tup [(.dict 10 [] []),(.tup []),(.tup [])])))] []),
 (.ret (some (.loc 5)))]⟩
noncomputable def nh:Fn:=⟨[134,23],
 [(.asg (.loc 142) (.meth (.attr (.loc 134) 143) 3 [(.loc 23)])),
 (.ite (.cmp (.loc 142) [.isNot] [(.k .none)]) [(.ret (some (.loc 142)))] []),
 (.ret (some (.call 48 [(.meth (.loc 134) 144 [(.loc 23)])])))]⟩
def tL:Fn:=⟨[134,146],
 [(.ite (.cmp (.len lO) [.eq] [be]) [.hole, .hole] []),
 (.ret (some (.meth lO 2 [])))]⟩
def DB:Fn:=⟨[134,23,63],
 [(.asg (.loc 149) (.meth (.loc 134) 144 [(.loc 23)])),
 (.ite (.not (.call 72 [wq,(.loc 63),(.loc 149)])) [.hole, .hole] []),
 (.ret (some (.call 62 [wq,(.loc 149),(.loc 63)])))]⟩
def nU:Fn:=⟨[134,87,118],
 [(.ite (.cmp (.loc 87) [.eq] [(.glb 67)]) [(.ret (some (.list 11 [(.tup [(.glb 151),(aF [])])])))] []),
 (.ite (.call 31 [wq,(.loc 87)]) [(.ret (some (.list 12 [(.meth (.loc 134) 152 [(.loc 87)])])))] []),
 (.asg (.loc 6) (.call 28 [wq,(.loc 87)])),
 (.ite (.cmp (.loc 6) [.eq] [(.glb 10)]) [.hole] []),
 (.asg (.loc 153) (.list 13 [])),
 (.ite (.cmp (.loc 6) [.eq] [(.glb 7)]) [(.for (.loc 23) (.over (.meth (.loc 134) 154 [(.loc 87)])) [.hole])] []),
 (.wh (.cmp (.len (.loc 153)) [.lt] [(.loc 118)]) [(.expr (.meth (.loc 153) 1 [(.glb 55)]))]),
 (.ret (some (.loc 153)))]⟩
noncomputable def qP:Fn:=⟨[134],
 [(.ret (some (.meth (.loc 134) 92 [(.glb 97),(.glb 156)])))]⟩
def v9:Fn:=⟨[134,63],
 [(.ite (.cmp o6 [.ne] [(.glb 68)]) [.hole, .hole] []),
 (.ite (.cmp (.sub (.loc 63) bI) [.eq] [be]) [(.expr (.call 155 [(.loc 134)])),(.ret (some (.k .none)))] []),
 (.asg (.loc 123) (.meth (.attr (.attr (.loc 134) 122) 110) 3 [(.sub (.loc 63) bI)])),
 (.ite (.cmp (.loc 123) [.is] [(.k .none)]) [.hole] []),
 (.ret (some (.loc 123)))]⟩
noncomputable def nT:Fn:=⟨[13,23],
 [(.ret (some (.and [(.cmp (.loc 23) [.ge] [(.glb 159)]),(.cmp (.call 28 [(.loc 13),(.loc 23)]) [.eq] [(.glb 8)]),(.cmp (.call 29 [(.loc 13),(.loc 23)]) [.eq] [(.glb 85)])])))]⟩
def DF:Fn:=⟨[134,146,110,23],
 [(.ite (.not (.call 31 [wq,(.loc 23)])) [(.ite (.not (.call 72 [wq,(.sub lO (.loc 110)),(.loc 23)])) [.hole] []),(.ret (some (.glb 161)))] []),
 (.asg (.loc 63) (.call 148 [(.loc 134),(.loc 23),(.sub lO (.loc 110))])),
 (.ite (.cmp (.loc 63) [.eq] [(.glb 162)]) [.hole] []),
 (.ite (.call 158 [wq,(.loc 23)]) [(.asg (.loc 88) (.meth (.loc 134) 163 [(.loc 23)])),(.ite (.cmp (.glb 164) [.notIn] [(.loc 88)]) [.hole] []),(.ite (.cmp (.sub (.sub (.sub (.loc 63) fi) (.sub (.loc 88) (.glb 164))) bI) [.eq] [be]) [(.asg (.sub lO (.loc 110)) (.glb 55)),(.ret (some (.glb 161)))] []),(.asg (.loc 63) (.sub (.sub (.loc 63) fi) (.sub (.loc 88) (.glb 165)))),(.asg (.loc 23) (.sub (.call 30 [wq,(.loc 23)]) be))] []),
 (.asg (.sub lO (.loc 110)) (.loc 63)),
 (.asg (.loc 123) (.meth (.loc 134) 166 [(.loc 23),bI])),
 (.asg (.sub (.attr (.loc 123) 88) be) (.sub lO (.loc 110))),
 (.asg (.sub lO (.loc 110)) (.tup [(.glb 68),(.attr (.loc 123) 128)])),
 (.ret (some (.glb 161)))]⟩
def nW:Fn:=⟨[134,63,23],
 [(.asg (.loc 123) (.call 157 [(.loc 134),(.loc 63)])),
 (.ite (.cmp (.loc 123) [.is] [(.k .none)]) [(.ret (some (.k .none)))] []),
 (.ite (.or [(.not (.call 31 [wq,(.attr (.loc 123) 87)])),(.cmp (.meth (.loc 134) 144 [(.attr (.loc 123) 87)]) [.ne] [(.meth (.loc 134) 144 [(.loc 23)])])]) [(.expr (.meth (.loc 134) 92 [(.glb 114),(.glb 168)])),(.ret (some (.k .none)))] []),
 (.ret (some (.loc 123)))]⟩
def nP:Fn:=⟨[134,63,23],
 [(.asg (.loc 170) (.meth (.loc 134) 152 [(.loc 23)])),
 (.ite (.cmp (.loc 63) [.eq] [(.glb 55)]) [.hole] []),
 (.asg (.loc 123) (.call 157 [(.loc 134),(.loc 63)])),
 (.ite (.cmp (.loc 123) [.is] [(.k .none)]) [.hole] []),
 (.ite (.cmp (.attr (.loc 123) 87) [.ne] [(.sub (.call 30 [wq,(.loc 23)]) be)]) [(.expr (.meth (.loc 134) 92 [(.glb 114),(.glb 168)])),(.ret (some (.k .none)))] []),
 (.asg (.loc 88) (.meth (.loc 134) 163 [(.loc 23)])),
 (.ite (.cmp (.glb 164) [.notIn] [(.loc 88)]) [.hole, .hole] []),
 (.asg (.loc 170) (.call 75 [(.loc 170),(.tup [(.sub (.loc 88) (.glb 164))]),(.tup [(.glb 50),bI])])),
 (.ret (some (.call 75 [(.loc 170),(.tup [(.sub (.loc 88) (.glb 165))]),(.sub (.attr (.loc 123) 88) be)])))]⟩
def qM:Fn:=⟨[134,146,23],
 [(.asg (.loc 125) (.bin .sub (.len lO) bI)),
 (.asg (.loc 170) (.call 169 [(.loc 134),(.sub lO (.loc 125)),(.loc 23)])),
 (.ite (.cmp (.loc 170) [.is] [(.k .none)]) [(.ret (some (.glb 138)))] []),
 (.asg (.sub lO (.loc 125)) (.loc 170)),
 (.asg (.loc 123) (.meth (.loc 134) 166 [(.loc 23),bI])),
 (.asg (.sub (.attr (.loc 123) 88) be) (.sub lO (.loc 125))),
 (.asg (.sub lO (.loc 125)) (.tup [(.glb 73),(.call 131 [(.loc 123),be])])),
 (.ret (some (.glb 161)))]⟩
noncomputable def iB:Fn:=⟨[134],
 [(.asg (.sub (.attr (.loc 134) 173) (.glb 174)) (.new 175 14 [])),
 (.asg (.sub (.attr (.loc 134) 173) (.glb 176)) (.new 177 15 [])),
 (.asg (.sub (.attr (.loc 134) 173) (.glb 178)) (.new 179 16 [])),
 (.asg (.sub (.attr (.loc 134) 173) (.glb 180)) (.new 181 17 []))]⟩
def Gb:Fn:=⟨[134,63,23],
 [(.asg (.loc 123) (.meth (.attr (.attr (.loc 134) 122) 110) 3 [(.sub (.loc 63) bI)])),
 (.ret (some (.and [(.cmp (.loc 123) [.isNot] [(.k .none)]),(.meth (.loc 134) 105 [(.attr (.loc 123) 87),(.loc 23)])])))]⟩
def wi:Fn:=⟨[134,146,23],
 [(.asg (.loc 63) (.meth (.loc 134) 2 [(.loc 146)])),
 (.ite (.cmp o6 [.ne] [(.glb 68)]) [.hole] []),
 (.ite (.and [(.cmp (.sub (.loc 63) bI) [.ne] [be]),(.not (.call 182 [(.loc 134),(.loc 63),(.loc 23)]))]) [(.ret (some (.meth (.loc 134) 92 [(.glb 114),(.glb 168)])))] []),
 (.expr (.meth lO 1 [(.loc 63)])),
 (.ret (some (.glb 161)))]⟩
def zv:Fn:=⟨[185],
 [(.asg (.loc 110) (.sub (.loc 185) (aF [97,116]))),
 (.asg (.sub (.loc 185) (aF [97,116])) (.bin .add (.loc 110) bI)),
 (.ite (.cmp (.loc 110) [.lt] [(.len (.sub (.loc 185) (aF [115,99,114,105,112,116])))]) [(.ret (some (.sub (.sub (.loc 185) (aF [115,99,114,105,112,116])) (.loc 110))))] []),
 (.ite (.cmp (.loc 110) [.lt] [(.len (.glb 186))]) [(.ret (some (.sub (.glb 186) (.loc 110))))] []),
 (.ret (some (.bin .add (.bin .mul (aW 5) (.loc 110)) (aW 3))))]⟩
def qX:Fn:=⟨[188],
 [(.ret (some (.cmp (.loc 188) [.isIn] [(.tup [(aF [111]),(aF [97]),(aF [105]),(aF [116])])])))]⟩
def tU:Fn:=⟨[185,188],
 [(.ret (some (.meth OB 3 [(.loc 188),(.loc 188)])))]⟩
def wd:Fn:=⟨[185,188],
 [(.asg (.loc 140) (.dict 18 [(aF [98,111,111,108]),(aF [99,104,97,114]),(aF [105,49]),(aF [117,49]),(aF [105,50]),(aF [117,50]),(aF [105,52]),(aF [117,52]),(aF [105,56]),(aF [117,56]),(aF [110,105,110,116])] [(.tup [be,fi,bI]),(.tup [be,(aW 65536),bI]),(.tup [(.neg (aW 128)),(aW 256),bI]),(.tup [be,(aW 256),bI]),(.tup [(.neg (aW 32768)),(aW 65536),bI]),(.tup [be,(aW 65536),bI]),(.tup [(.neg (aW 2147483648)),(aW 4294967296),bI]),(.tup [be,(aW 4294967296),bI]),(.tup [(.neg (aW 9223372036854775808)),(aW 18446744073709551616),fi]),(.tup [be,(aW 18446744073709551616),fi]),(.tup [(.neg (aW 2147483648)),(aW 4294967296),(aW 3)])])),
 (.ret (some (.sub (.loc 140) (.call 189 [(.loc 185),(.loc 188)]))))]⟩
def tO:Fn:=⟨[185,188,192],
 [(.ite (.call 187 [(.loc 188)]) [(.ret (some (.bin .mod (.loc 192) (.len z6))))] []),
 (.ite GC [(.ret (some (.tup [(.bin .mod (.loc 192) fi),(.call 191 [(.loc 185),(.slice 19 (.loc 188) (some bI) none),(.bin .fdiv (.loc 192) fi)])])))] []),
 (.ite (.cmp (.loc 188) [.eq] [(aF [115])]) [(.ret (some (.tup [(.call 191 [(.loc 185),(aF [105,52]),(.loc 192)]),(.bin .mod (.bin .fdiv (.loc 192) (aW 3)) (.len z6)),(.call 191 [(.loc 185),(aF [63,117,49]),(.bin .fdiv (.loc 192) (aW 5))])])))] []),
 (.ite (.or [(.cmp (.loc 188) [.eq] [(aF [103])]),(.cmp (.loc 188) [.eq] [(aF [104])])]) [(.ret (some (.tup [(.call 191 [(.loc 185),(.ite (.cmp (.loc 188) [.eq] [(aF [103])]) (aF [105,52]) (aF [117,52])),(.loc 192)])])))] []),
 (.asg (.tup [193,194,64]) (.call 190 [(.loc 185),(.loc 188)])),
 (.ret (some (.bin .add (.loc 193) (.bin .mod (.bin .sub (.sub (.glb 195) (.bin .mod (.loc 192) (aW 16))) (.loc 193)) (.loc 194)))))]⟩
def qW:Fn:=⟨[185,188,63],
 [(.ite (.call 187 [(.loc 188)]) [(.ret (some (.sub D0 (.loc 63))))] []),
 (.ite GC [(.ret (some (.tup [o6,(.call 196 [(.loc 185),(.slice 20 (.loc 188) (some bI) none),(.sub (.loc 63) bI)])])))] []),
 (.ite (.cmp (.loc 188) [.eq] [(aF [115])]) [(.ret (some (.tup [o6,(.sub D0 (.sub (.loc 63) bI)),(.sub (.loc 63) fi)])))] []),
 (.ret (some (.loc 63)))]⟩
def qV:Fn:=⟨[185,188,63],
 [(.ite (.call 187 [(.loc 188)]) [(.ret (some (.tup [(aW 4),(.sub z7 (.loc 63))])))] []),
 (.asg (.loc 87) (.sub nu (.loc 188))),
 (.ite GC [(.asg (.loc 198) (.tup [bI,o6])),(.asg (.loc 199) (.call 197 [(.loc 185),(.slice 21 (.loc 188) (some bI) none),(.sub (.loc 63) bI)])),(.ret (some (.tup [(aW 5),(.loc 87),(.ite (.sub (.loc 185) (aF [116,117,114,110,101,100])) (.tup [(.loc 199),(.loc 198)]) (.tup [(.loc 198),(.loc 199)]))])))] []),
 (.ite (.cmp (.loc 188) [.eq] [(aF [115])]) [(.ret (some (.tup [(aW 5),(.loc 87),(.tup [(.tup [bI,o6]),(.tup [(aW 4),(.sub z7 (.sub (.loc 63) bI))]),(.call 197 [(.loc 185),(aF [63,117,49]),(.sub (.loc 63) fi)])])])))] []),
 (.ite (.or [(.cmp (.loc 188) [.eq] [(aF [103])]),(.cmp (.loc 188) [.eq] [(aF [104])])]) [(.ret (some (.tup [(aW 5),(.loc 87),(.tup [(.call 197 [(.loc 185),(.ite (.cmp (.loc 188) [.eq] [(aF [103])]) (aF [105,52]) (aF [117,52])),o6])])])))] []),
 (.asg (.loc 64) (.sub (.call 190 [(.loc 185),(.loc 188)]) fi)),
 (.asg (.loc 111) (.ite (.cmp (.loc 64) [.eq] [fi]) (aW 18446744073709551616) (aW 4294967296))),
 (.ret (some (.tup [(.loc 64),(.ite (.cmp (.loc 63) [.ge] [(.bin .fdiv (.loc 111) fi)]) (.bin .sub (.loc 63) (.loc 111)) (.loc 63))])))]⟩
def wf:Fn:=⟨[185,201,188],
 [(.ret (some (.or [(.cmp (.loc 201) [.eq] [(.loc 188)]),(.cmp (.loc 188) [.eq] [(aF [111])]),(.cmp (.tup [(.sub nu (.loc 201)),(.sub nu (.loc 188))]) [.isIn] [(.sub (.loc 185) (aF [107,105,110]))])])))]⟩
def tX:Fn:=⟨[185,188,203],
 [(.asg (.loc 201) (.sub z6 (.loc 203))),
 (.ite (.call 187 [(.loc 188)]) [(.ite (.or [(.cmp (.loc 203) [.eq] [be]),(.call 200 [(.loc 185),(.loc 201),(.loc 188)])]) [(.ret (some (.tup [be,(.loc 203)])))] []),(.ret (some (.tup [(aW 23),be])))] []),
 (.ite (.cmp (.loc 203) [.eq] [be]) [(.ret (some (.tup [(aW 21),be])))] []),
 (.ite GC [(.ret (some (.ite (.cmp (.loc 201) [.eq] [(.slice 22 (.loc 188) (some bI) none)]) (.tup [be,(.tup [bI,Kz])]) (.tup [(aW 23),be]))))] []),
 (.ite (.and [(.not (.call 187 [(.loc 201)])),(.cmp (.call 189 [(.loc 185),(.loc 201)]) [.eq] [(.call 189 [(.loc 185),(.loc 188)])])]) [(.ret (some (.tup [be,Kz])))] []),
 (.ret (some (.tup [(aW 23),be])))]⟩
def qZ:Fn:=⟨[185,188,63],
 [(.ite (.call 187 [(.loc 188)]) [(.ret (some (.loc 63)))] []),
 (.ite GC [(.ret (some (.ite o6 (.call 204 [(.loc 185),(.slice 23 (.loc 188) (some bI) none),(.sub (.loc 63) bI)]) be)))] []),
 (.expr (.meth z6 1 [(.loc 188)])),
 (.expr (.meth (.sub (.loc 185) (aF [104,101,108,100])) 1 [(.loc 63)])),
 (.expr (.meth D0 1 [(.len (.attr Ee 90))])),
 (.expr (.meth z7 1 [(.attr (.attr (.sub (.loc 185) (aF [109])) 122) 125)])),
 (.ret (some (.bin .sub (.len z6) bI)))]⟩
def tR:Fn:=⟨[185,188,203],
 [(.asg (.loc 84) Ee),
 (.asg (.loc 23) (.sub nu (.loc 188))),
 (.try [(.ite (.call 187 [(.loc 188)]) [(.ret (some (.tup [be,(.call 116 [(.loc 84),(.loc 23),(.sub D0 (.loc 203))])])))] []),(.ret (some (.tup [be,(.call 113 [(.loc 84),(.loc 23),(.sub D0 (.loc 203))])])))] 206 207 [(.ret (some (.tup [(.ite (.cmp (.attr (.loc 207) 208) [.eq] [(aF [101,114,114,111,114])]) (.attr (.loc 207) 110) (.neg bI)),(.k .none)])))])]⟩
def DC:Fn:=⟨[185,208,188,63],
 [(.asg (.loc 134) (.sub (.loc 185) (aF [109]))),
 (.asg (.loc 146) (.sub (.loc 185) (aF [102]))),
 (.asg (.attr (.loc 146) 147) (.list 24 [(.tup [bI,(aW 77)]),(.loc 63)])),
 (.asg (.loc 210) (.meth (.sub (.attr (.loc 134) 173) (.loc 208)) 211 [(.loc 134),(.loc 146),(.sub nu (.loc 188))])),
 (.asg (.loc 137) (.attr (.loc 134) 137)),
 (.asg (.attr (.loc 134) 137) (.list 25 [])),
 (.ite (.or [(.cmp (.attr (.loc 134) 212) [.ne] [(.list 26 [])]),(.cmp (.attr (.loc 134) 135) [.ne] [be]),(.cmp (.slice 27 lO none (some bI)) [.ne] [(.list 28 [(.tup [bI,(aW 77)])])])]) [.hole] []),
 (.ite (.and [(.cmp (.loc 210) [.eq] [(.neg fi)]),(.cmp (.len (.loc 137)) [.eq] [bI])]) [(.ret (some (.tup [(.sub (.loc 137) be),(.k .none)])))] []),
 (.ite (.and [(.cmp (.loc 210) [.eq] [(.neg bI)]),(.cmp (.loc 137) [.eq] [(.list 29 [])]),(.cmp (.len lO) [.eq] [fi])]) [(.ret (some (.tup [be,(.sub lO bI)])))] []),
 .hole]⟩
def zu:Fn:=⟨[185,188,63],
 [(.asg (.loc 214) (.call 196 [(.loc 185),(.loc 188),(.loc 63)])),
 (.asg (.loc 215) (.call 197 [(.loc 185),(.loc 188),(.loc 63)])),
 (.asg (.loc 203) (.call 204 [(.loc 185),(.loc 188),(.loc 63)])),
 (.ite (.cmp (.call 112 [Ee,(.sub nu (.loc 188)),(.loc 214)]) [.ne] [(.sub D0 (.loc 203))]) [.hole] []),
 (.ret (some (.cmp (.call 209 [(.loc 185),(aW 140),(.loc 188),(.loc 215)]) [.eq] [(.tup [be,(.tup [(aW 4),(.sub z7 (.loc 203))])])])))]⟩
def we:Fn:=⟨[185,188,203],
 [(.asg (.tup [217,63]) (.call 202 [(.loc 185),(.loc 188),(.loc 203)])),
 (.asg (.tup [212,218]) (.call 205 [(.loc 185),(.loc 188),(.loc 203)])),
 (.asg (.tup [137,219]) (.call 209 [(.loc 185),(aW 165),(.loc 188),(.tup [(aW 4),(.sub z7 (.loc 203))])])),
 (.ite (.or [(.cmp (.loc 212) [.ne] [(.loc 217)]),(.cmp (.loc 137) [.ne] [(.loc 217)])]) [.hole] []),
 (.ite (.loc 217) [(.ret (some (.k (.bool true))))] []),
 (.asg (.sub (.loc 185) (aF [108,97,115,116])) (.tup [(.loc 188),(.loc 63)])),
 (.ret (some (.and [(.cmp (.loc 218) [.eq] [(.call 196 [(.loc 185),(.loc 188),(.loc 63)])]),(.cmp (.loc 219) [.eq] [(.call 197 [(.loc 185),(.loc 188),(.loc 63)])])])))]⟩
def tV:Fn:=⟨[185,188,203,192],
 [(.asg (.loc 134) (.sub (.loc 185) (aF [109]))),
 (.asg (.tup [217,63]) (.call 202 [(.loc 185),(.loc 188),(.loc 203)])),
 (.asg (.loc 128) (.sub z7 (.loc 203))),
 (.ite GC [(.asg (.loc 128) (.attr (.attr (.loc 134) 122) 125))] []),
 (.asg (.tup [212,218]) (.call 205 [(.loc 185),(.loc 188),(.loc 203)])),
 (.asg (.tup [137,219]) (.call 209 [(.loc 185),(aW 121),(.loc 188),(.tup [(aW 4),(.sub z7 (.loc 203))])])),
 (.ite (.or [(.cmp (.loc 212) [.ne] [(.loc 217)]),(.cmp (.loc 137) [.ne] [(.loc 217)])]) [.hole] []),
 (.ite (.loc 217) [(.ret (some (.k (.bool true))))] []),
 (.ite (.or [(.cmp (.loc 218) [.ne] [(.call 196 [(.loc 185),(.loc 188),(.loc 63)])]),(.cmp (.loc 219) [.ne] [(.tup [(aW 6),(.tup [(aW 3),(.bin .add (.loc 128) fi),(.tup [])])])])]) [.hole] []),
 (.ite (.cmp (.attr (.sub (.attr (.attr (.loc 134) 122) 110) (.loc 128)) 88) [.ne] [(.list 30 [(.call 197 [(.loc 185),(.loc 188),(.loc 63)])])]) [.hole] []),
 (.asg (.sub (.loc 185) (aF [108,97,115,116])) (.tup [(.loc 188),(.loc 63)])),
 (.ite GC [(.ite (.bin .mod (.loc 192) fi) [(.asg (.loc 63) (.call 191 [(.loc 185),(.loc 188),(.bin .fdiv (.loc 192) fi)])),(.asg (.sub (.attr (.sub (.attr (.attr (.loc 134) 122) 110) (.loc 128)) 88) be) (.call 197 [(.loc 185),(.loc 188),(.loc 63)]))] []),(.expr (.meth (.sub (.loc 185) (aF [99,101,108,108,115])) 1 [(.tup [(.loc 128),(.loc 188),(.loc 63)])]))] [(.ite (.bin .mod (.loc 192) fi) [(.expr (.call 221 [(.loc 185),(.loc 203),(.bin .fdiv (.loc 192) fi)]))] [])]),
 (.ret (some (.k (.bool true))))]⟩
def tN:Fn:=⟨[185,203,192],
 [(.asg (.loc 188) (.sub z6 (.loc 203))),
 (.asg (.loc 63) (.call 191 [(.loc 185),(.loc 188),(.loc 192)])),
 (.asg (.loc 88) (.attr (.sub (.attr Ee 90) (.sub D0 (.loc 203))) 88)),
 (.ite (.and [(.cmp (.loc 188) [.eq] [(aF [115])]),(.bin .mod (.loc 192) fi)]) [(.asg (.loc 63) (.tup [o6,(.sub Kz bI),(.sub Kz fi)])),(.expr (.call 106 [(.tup [(.loc 88),be,(.tup [be])]),o6]))] [(.expr (.call 106 [(.tup [(.loc 88),be,(.tup [])]),(.call 196 [(.loc 185),(.loc 188),(.loc 63)])]))]),
 (.asg (.sub (.sub (.loc 185) (aF [104,101,108,100])) (.loc 203)) (.loc 63)),
 (.asg (.sub (.attr (.sub (.attr (.attr (.sub (.loc 185) (aF [109])) 122) 110) (.sub z7 (.loc 203))) 88) be) (.call 197 [(.loc 185),(.loc 188),(.loc 63)]))]⟩
def lp:Fn:=⟨[185,223],
 [(.ite (.cmp (.bin .mod (.loc 223) (aW 8)) [.eq] [(aW 7)]) [(.ret (some be))] []),
 (.ite (.cmp (.bin .mod (.loc 223) (aW 8)) [.eq] [(aW 6)]) [(.ret (some (.bin .add bI (.bin .mod (.bin .fdiv (.loc 223) (aW 8)) (aW 3)))))] []),
 (.ret (some (.bin .add (aW 4) (.bin .mod (.bin .fdiv (.loc 223) (aW 8)) (.bin .sub (.len z6) (aW 4))))))]⟩
def zw:Fn:=⟨[185,203,225],
 [(.asg (.loc 201) (.sub z6 (.loc 203))),
 (.asg (.loc 192) (.bin .fdiv (.loc 225) (aW 4))),
 (.ite (.or [(.cmp (.bin .mod (.loc 225) (aW 4)) [.eq] [(aW 3)]),(.cmp (.loc 201) [.eq] [(aF [])])]) [(.ret (some (.sub (.glb 226) (.bin .mod (.loc 192) (aW 25)))))] []),
 (.ite (.and [(.cmp (.bin .mod (.loc 225) (aW 4)) [.eq] [bI]),(.cmp (.bin .add (aF [63]) (.loc 201)) [.isIn] [nu])]) [(.ret (some (.bin .add (aF [63]) (.loc 201))))] []),
 (.ite (.cmp (.bin .mod (.loc 225) (aW 4)) [.eq] [fi]) [(.asg (.loc 227) (.dict 31 [(aF [105,52]),(aF [101]),(aF [102]),(aF [117,52]),(aF [117,49]),(aF [98,111,111,108]),(aF [105,49]),(aF [99,104,97,114]),(aF [117,50]),(aF [105,50]),(aF [105,56]),(aF [117,56]),(aF [110,105,110,116]),(aF [115]),(aF [103]),(aF [104])] [(aF [101]),(aF [102]),(aF [101]),(aF [105,52]),(aF [98,111,111,108]),(aF [117,49]),(aF [117,49]),(aF [117,50]),(aF [99,104,97,114]),(aF [117,50]),(aF [117,56]),(aF [105,56]),(aF [105,52]),(aF [103]),(aF [104]),(aF [103])])),(.ite (.and [(.bin .mod (.loc 192) fi),(.cmp (.loc 201) [.isIn] [OB])]) [(.ret (some (.sub OB (.loc 201))))] []),(.ret (some (.meth (.loc 227) 3 [(.loc 201),(.loc 201)])))] []),
 (.ret (some (.loc 201)))]⟩
def ja:Fn:=⟨[185],
 [(.asg (.loc 229) (.call 184 [(.loc 185)])),
 (.asg (.loc 223) (.call 184 [(.loc 185)])),
 (.asg (.loc 225) (.call 184 [(.loc 185)])),
 (.ite (.cmp (.bin .mod (.loc 229) (aW 6)) [.lt] [fi]) [(.ite (.cmp (.bin .mod (.bin .fdiv (.loc 229) (aW 6)) (aW 3)) [.eq] [fi]) [(.ret (some (.call 213 [(.loc 185),(.sub (.sub (.loc 185) (aF [108,97,115,116])) be),(.sub (.sub (.loc 185) (aF [108,97,115,116])) bI)])))] []),(.asg (.loc 188) (.sub (.glb 226) (.bin .mod (.loc 223) (aW 25)))),(.ret (some (.call 213 [(.loc 185),(.loc 188),(.call 191 [(.loc 185),(.loc 188),(.loc 225)])])))] []),
 (.asg (.loc 203) (.call 222 [(.loc 185),(.loc 223)])),
 (.asg (.loc 188) (.call 224 [(.loc 185),(.loc 203),(.loc 225)])),
 (.ite (.and [(.cmp (.loc 203) [.eq] [be]),GC]) [(.asg (.loc 188) (.slice 32 (.loc 188) (some bI) none))] []),
 (.ite (.or [(.cmp (.bin .mod (.loc 229) (aW 6)) [.lt] [(aW 4)]),(.call 187 [(.loc 188)])]) [(.ret (some (.call 216 [(.loc 185),(.loc 188),(.loc 203)])))] []),
 (.ret (some (.call 220 [(.loc 185),(.loc 188),(.loc 203),(.bin .fdiv (.loc 229) (aW 6))])))]⟩
def tY:Fn:=⟨[13],
 [(.asg (.loc 103) (.dict 33 [(aF [98,111,111,108]),(aF [99,104,97,114]),(aF [105,49]),(aF [117,49]),(aF [105,50]),(aF [117,50]),(aF [105,52]),(aF [117,52]),(aF [105,56]),(aF [117,56]),(aF [110,105,110,116]),(aF [111]),(aF [116])] [bI,fi,(aW 3),(aW 4),(aW 5),(aW 6),(aW 7),(aW 8),(aW 9),(aW 10),(aW 11),(aW 12),(aW 13)])),
 (.asg (.sub (.loc 103) (aF [97])) (.meth (.loc 13) 219 [(.tup [fi,(aW 64),(.tup [])])])),
 (.asg (.sub (.loc 103) (aF [105])) (.meth (.loc 13) 219 [(.tup [fi,(aW 65),(.tup [])])])),
 (.asg (.sub (.loc 103) (aF [101])) (.meth (.loc 13) 219 [(.tup [(aW 3),(aW 66),(.tup [])])])),
 (.asg (.sub (.loc 103) (aF [102])) (.meth (.loc 13) 219 [(.tup [(aW 3),(aW 67),(.tup [])])])),
 (.asg (.sub (.loc 103) (aF [115])) (.meth (.loc 13) 219 [(.tup [(aW 3),(aW 68),(.tup [])])])),
 (.asg (.sub (.loc 103) (aF [103])) (.meth (.loc 13) 219 [(.tup [(aW 3),(aW 69),(.tup [(aW 7)])])])),
 (.asg (.sub (.loc 103) (aF [104])) (.meth (.loc 13) 219 [(.tup [(aW 3),(aW 69),(.tup [(aW 8)])])])),
 (.for (.loc 188) (.over (.tup [(aF [105,52]),(aF [117,49]),(aF [101]),(aF [115]),(aF [104])])) [(.asg (.sub (.loc 103) (.bin .add (aF [63]) (.loc 188))) (.meth (.loc 13) 219 [(.tup [(aW 3),(aW 8),(.tup [(.sub (.loc 103) (.loc 188))])])]))]),
 (.ret (some (.loc 103)))]⟩
def tQ:Fn:=⟨[36,185],
 [(.asg (.attr (.loc 36) 38) (.rep 34 (.list 35 [(.k .none)]) (aW 70))),
 (.for (.tup [37,188,6]) (.over (.tup [(.tup [(aW 66),(aF [101]),(.glb 46)]),(.tup [(aW 67),(aF [102]),(.glb 46)]),(.tup [(aW 68),(aF [115]),(.glb 232)]),(.tup [(aW 69),(aF [103]),(.glb 232)])])) [(.asg (.sub (.attr (.loc 36) 38) (.loc 37)) (.new 233 36 [(.loc 37),(.loc 188),(.loc 6),be,(.neg bI),(.tup []),bI]))]),
 (.for (.tup [37,188]) (.over (.tup [(.tup [(aW 66),(aF [101])]),(.tup [(aW 67),(aF [102])])])) [(.asg (.attr (.sub (.attr (.loc 36) 38) (.loc 37)) 47) (.sub nu (.sub OB (.loc 188)))),(.asg (.sub (.attr (.sub (.loc 185) (aF [109])) 234) (.sub nu (.loc 188))) (.attr (.sub (.attr (.loc 36) 38) (.loc 37)) 47))])]⟩
def bP:Fn:=⟨[236],
 [(.asg (.loc 36) (.new 237 37 [])),
 (.asg (.loc 134) (.new 238 38 [(.loc 36),(.new 239 39 [(aW 4000),(aW 3)])])),
 (.asg (.loc 185) (.dict 40 [(aF [115,99,114,105,112,116]),(aF [97,116]),(aF [109]),(aF [101,118]),(aF [102]),(aF [107,105,110]),(aF [107,105,110,100,115]),(aF [101,120,97,99,116]),(aF [104,101,108,100]),(aF [105,116,101,109,115]),(aF [97,100,100,114,115]),(aF [99,101,108,108,115]),(aF [108,97,115,116])] [(.loc 236),be,(.loc 134),(.new 240 41 [(.loc 134),(aW 100)]),(.new 241 42 [bI,(.tup [(aW 12),bI,(.tup [])]),(.k .none),(.list 43 []),be]),(.dict 44 [] []),(.call 230 [(.attr (.loc 36) 13)]),(.list 45 [(aF [])]),(.list 46 [(.k .none)]),(.list 47 [be]),(.list 48 [be]),(.list 49 []),(.tup [(aF [105,52]),be])])),
 (.asg (.loc 242) (.call 184 [(.loc 185)])),
 (.asg (.loc 47) (.sub (.glb 243) (.bin .mod (.loc 242) (aW 8)))),
 (.asg (.sub (.loc 185) (aF [117,110,100,101,114,115])) (.dict 50 [(aF [101]),(aF [102])] [(.loc 47),(.ite (.cmp (.bin .mod (.bin .fdiv (.loc 242) (aW 8)) fi) [.eq] [be]) (.loc 47) (.sub (.glb 243) (.bin .mod (.bin .fdiv (.loc 242) (aW 16)) (aW 8))))])),
 (.asg (.sub (.loc 185) (aF [116,117,114,110,101,100])) (.cmp (.bin .mod (.bin .fdiv (.loc 242) (aW 128)) fi) [.eq] [bI])),
 (.ite (.bin .mod (.bin .fdiv (.loc 242) (aW 256)) fi) [(.asg (.sub (.sub (.loc 185) (aF [107,105,110])) (.tup [(.sub nu (aF [97])),(.sub nu (aF [105]))])) bI)] []),
 (.ite (.cmp (.bin .mod (.bin .fdiv (.loc 242) (aW 512)) fi) [.eq] [be]) [(.asg (.sub (.sub (.loc 185) (aF [107,105,110])) (.tup [(.sub nu (aF [115])),(.sub nu (aF [105]))])) bI)] []),
 (.expr (.call 231 [(.loc 36),(.loc 185)])),
 (.asg (.attr Ee 244) (.sub (.loc 185) (aF [107,105,110]))),
 (.asg (.attr (.loc 134) 244) (.sub (.loc 185) (aF [107,105,110]))),
 (.expr (.call 172 [(.loc 134)])),
 (.for (.loc 188) (.over (.tup [(aF [63,105,52]),(aF [63,117,49]),(aF [63,101]),(aF [63,115]),(aF [63,104])])) [(.asg (.loc 16) (.ite (.cmp (.loc 188) [.eq] [(aF [63,115])]) (.tup [be,be,(.tup [be,be])]) (.ite (.cmp (.loc 188) [.eq] [(aF [63,104])]) (.tup [be]) be))),(.asg (.sub (.attr (.loc 134) 143) (.sub nu (.loc 188))) (.call 197 [(.loc 185),(.loc 188),(.tup [be,(.loc 16)])])),(.asg (.sub (.attr (.loc 134) 140) (.sub nu (.loc 188))) (.tup [(.ite (.sub (.loc 185) (aF [116,117,114,110,101,100])) (.dict 51 [(aW 6),(aW 7)] [bI,be]) (.dict 52 [(aW 6),(aW 7)] [be,bI])),(.tup []),(.tup [])]))]),
 (.for (.loc 188) (.over (.tup [(aF [97]),(aF [116]),(aF [97])])) [(.expr (.meth z6 1 [(.loc 188)])),(.expr (.meth (.sub (.loc 185) (aF [104,101,108,100])) 1 [(.k .none)])),(.expr (.meth D0 1 [(.call 86 [Ee,(.sub nu (.loc 188)),(.list 53 [])])])),(.expr (.meth z7 1 [(.attr (.meth (.loc 134) 166 [(.sub nu (.loc 188)),bI]) 128)]))]),
 (.asg (.attr (.sub (.attr Ee 90) (aW 3)) 87) (.neg bI)),
 (.asg (.attr (.sub (.attr Ee 90) (aW 3)) 102) (.new 245 54 [(.tup [(.sub nu (aF [97]))])])),
 (.for (.tup [188,192]) (.over (.tup [(.tup [(aF [105,52]),(.bin .add (.loc 242) (aW 3))]),(.tup [(aF [101]),(.bin .add (.loc 242) fi)]),(.tup [(aF [63,101]),(.bin .add (.bin .mul fi (.loc 242)) (aW 7))]),(.tup [(aF [115]),(.bin .add (.loc 242) (aW 5))])])) [(.ite (.not (.call 213 [(.loc 185),(.loc 188),(.call 191 [(.loc 185),(.loc 188),(.loc 192)])])) [.hole, .hole] [])]),
 (.ret (some (.loc 185)))]⟩
def br:Fn:=⟨[185],
 [(.asg (.loc 84) Ee),
 (.asg (.loc 134) (.sub (.loc 185) (aF [109]))),
 (.for (.loc 203) (.range [bI,(.len z6)]) [(.asg (.loc 188) (.sub z6 (.loc 203))),(.asg (.loc 101) (.sub (.attr (.loc 84) 90) (.sub D0 (.loc 203)))),(.asg (.loc 123) (.sub (.attr (.attr (.loc 134) 122) 110) (.sub z7 (.loc 203)))),(.ite (.or [(.cmp (.attr (.loc 123) 87) [.ne] [(.sub nu (.loc 188))]),(.cmp (.attr (.loc 101) 87) [.ne] [(.ite (.cmp (.loc 203) [.eq] [(aW 3)]) (.neg bI) (.sub nu (.loc 188)))])]) [.hole] []),(.ite (.cmp (.loc 203) [.lt] [(aW 4)]) [(.ite (.or [(.cmp (.attr (.loc 101) 88) [.ne] [(.list 55 [])]),(.cmp (.attr (.loc 123) 88) [.ne] [(.list 56 [(.ite (.cmp (.loc 188) [.eq] [(aF [116])]) (.tup [(aW 8),(aF [])]) (.tup [(aW 4),be]))])])]) [.hole] [])] [(.ite (.cmp (.attr (.loc 101) 88) [.ne] [(.list 57 [(.call 196 [(.loc 185),(.loc 188),Kz])])]) [.hole] [(.ite (.cmp (.attr (.loc 123) 88) [.ne] [(.list 58 [(.call 197 [(.loc 185),(.loc 188),Kz])])]) [.hole] [])])])]),
 (.for (.tup [128,188,63]) (.over (.sub (.loc 185) (aF [99,101,108,108,115]))) [(.ite (.or [(.cmp (.attr (.sub (.attr (.attr (.loc 134) 122) 110) (.loc 128)) 87) [.ne] [(.sub nu (.loc 188))]),(.cmp (.attr (.sub (.attr (.attr (.loc 134) 122) 110) (.loc 128)) 88) [.ne] [(.list 59 [(.call 197 [(.loc 185),(.loc 188),(.loc 63)])])])]) [.hole] [])]),
 (.ite (.cmp (.len (.attr (.attr (.loc 134) 122) 90)) [.ne] [(.bin .add (.bin .sub (.len z7) bI) (.len (.sub (.loc 185) (aF [99,101,108,108,115]))))]) [.hole] []),
 (.ret (some (.cmp (.len (.attr (.loc 84) 90)) [.eq] [(.len D0)])))]⟩
def wO:Fn:=⟨[236],
 [(.asg (.loc 236) (.slice 60 (.loc 236) none (some (aW 40)))),
 (.asg (.loc 185) (.call 235 [(.loc 236)])),
 (.ite (.cmp (.sub (.loc 185) (aF [97,116])) [.lt] [be]) [.hole] []),
 (.for (.loc 248) (.range [(.bin .add (aW 3) (.bin .fdiv (.len (.loc 236)) (aW 3)))]) [(.ite (.not (.call 228 [(.loc 185)])) [.hole] [])]),
 (.ret (some (.call 246 [(.loc 185)])))]⟩
noncomputable def kA:Fn:=⟨[250,208,110],
 [(sb 208),
 (sb 110)]⟩
def kE:Fn:=⟨[250],
 [(sa 140 (.list 61 [])),
 (sa 256 (.dict 62 [] [])),
 (sa 257 (.list 63 [])),
 (sa 258 (.list 64 [])),
 (sa 259 (.list 65 [])),
 (.for (.loc 89) (.range [(.glb 159)]) [(.asg (.loc 5) (.tup [(.glb 14),(.loc 89)])),(.expr (.meth (.attr (.loc 250) 140) 1 [(.loc 5)])),(.asg (.sub (.attr (.loc 250) 256) (.loc 5)) (.loc 89)),(.expr (.meth (.attr (.loc 250) 257) 1 [bI])),(.expr (.meth (.attr (.loc 250) 258) 1 [bI])),(.expr (.meth (.attr (.loc 250) 259) 1 [be]))])]⟩
def lj:Fn:=⟨[250,23],
 [(.ite (.or [(.cmp (.loc 23) [.lt] [be]),(.cmp (.loc 23) [.ge] [(.len (.attr (.loc 250) 140))])]) [.hole] []),
 (.ret (some (.sub (.attr (.loc 250) 140) (.loc 23))))]⟩
def ll:Fn:=⟨[250,5],
 [(.asg (.loc 142) (.meth (.attr (.loc 250) 256) 3 [(.loc 5),(.neg bI)])),
 (.ite (.cmp (.loc 142) [.ge] [be]) [.hole] []),
 (.expr (.call 12 [(.loc 250),(.loc 5)])),
 (.asg (.loc 263) bI),
 (.asg (.loc 264) bI),
 (.asg (.loc 265) be),
 (.ite (.or [(.cmp (.sub (.loc 5) be) [.eq] [(.glb 26)]),(.cmp (.sub (.loc 5) be) [.eq] [(.glb 27)])]) [.hole] []),
 (.asg (.loc 266) (.call 9 [(.sub (.loc 5) be)])),
 (.for (.loc 16) (.over (.call 4 [(.loc 5)])) [(.ite (.cmp (.bin .add (.sub (.attr (.loc 250) 257) (.loc 16)) (.loc 266)) [.gt] [(.loc 263)]) [(.asg (.loc 263) (.bin .add (.sub (.attr (.loc 250) 257) (.loc 16)) (.loc 266)))] []),(.augN 264 .add (.sub (.attr (.loc 250) 258) (.loc 16))),(.ite (.cmp (.sub (.attr (.loc 250) 259) (.loc 16)) [.eq] [bI]) [.hole] [])]),
 (.ite (.cmp (.loc 263) [.gt] [(.glb 267)]) [.hole] []),
 (.ite (.cmp (.loc 264) [.gt] [(.glb 268)]) [.hole] []),
 (.asg (.loc 23) (.len (.attr (.loc 250) 140))),
 (.expr (.meth (.attr (.loc 250) 140) 1 [(.loc 5)])),
 (.asg (.sub (.attr (.loc 250) 256) (.loc 5)) (.loc 23)),
 (.expr (.meth (.attr (.loc 250) 257) 1 [(.loc 263)])),
 (.expr (.meth (.attr (.loc 250) 258) 1 [(.loc 264)])),
 (.expr (.meth (.attr (.loc 250) 259) 1 [(.loc 265)])),
 (.ret (some (.loc 23)))]⟩
def m7:Fn:=⟨[250,37,188,6,270,271,272,273],
 [(sb 37),
 (sb 188),
 (sb 6),
 (sb 270),
 (sb 271),
 (sa 274 (.list 66 [])),
 (sa 272 (.list 67 [])),
 (sa 275 (.list 68 [])),
 (sa 276 (.list 69 [])),
 (.for (.loc 277) (.over (.loc 272)) [.hole, .hole, .hole]),
 (sa 278 (.list 70 [])),
 (sa 279 (.list 71 [])),
 (sb 273),
 (sa 280 be),
 (sa 47 (.neg bI)),
 (sa 281 (.list 72 [])),
 (sa 282 (.list 73 [])),
 (sa 283 (.list 74 [])),
 (sa 284 be),
 (sa 285 be)]⟩
def qF:Fn:=⟨[250],
 [(sa 13 (.new 261 75 [])),
 (sa 38 (.list 76 [(.k .none)])),
 (sa 287 (.list 77 [(.k .none)])),
 (sa 279 (.list 78 [(.k .none)])),
 (sa 288 (.dict 79 [] [])),
 (sa 289 (.list 80 [])),
 (sa 290 be)]⟩
def tC:Fn:=⟨[250,89,87,88],
 [(sb 89),
 (sb 87),
 (sb 88),
 (sa 93 (.k .none)),
 (sa 140 (.list 81 [])),
 (sa 292 be),
 (sa 102 (.k .none))]⟩
noncomputable def na:Fn:=⟨[250,103],
 [(sb 103)]⟩
noncomputable def qL:Fn:=⟨[250,140],
 [(sb 140)]⟩
def tz:Fn:=⟨[250,299,300],
 [(sb 299),
 (sa 36 (.attr (.loc 299) 36)),
 (sa 13 (.attr (.attr (.loc 299) 36) 13)),
 (sa 90 (.list 82 [(.k .none)])),
 (sa 301 be),
 (sb 300),
 (sa 263 be),
 (sa 302 be),
 (sa 303 (.list 83 [])),
 (sa 127 be),
 (sa 304 (.dict 84 [] [])),
 (sa 244 (.dict 85 [] [])),
 (sa 305 (.new 297 86 [(.dict 87 [] [])])),
 (sa 306 (.dict 88 [] [])),
 (sa 307 (.dict 89 [] [])),
 (sa 308 (.dict 90 [] [])),
 (sa 309 (.dict 91 [] [])),
 (sa 310 (.dict 92 [] [])),
 (sa 311 (.dict 93 [] [])),
 (sa 312 (.dict 94 [] [])),
 (sa 313 (.dict 95 [] [])),
 (sa 314 (.new 294 96 [])),
 (sa 315 (.new 295 97 [])),
 (sa 316 (.k .none))]⟩
noncomputable def ty:Fn:=⟨[250,201,23],
 [(.ret (some (.or [(.cmp (.loc 201) [.eq] [(.loc 23)]),(.cmp (.loc 23) [.eq] [(.glb 66)]),(.cmp (.tup [(.loc 201),(.loc 23)]) [.isIn] [(.attr (.loc 250) 244)])])))]⟩
def qJ:Fn:=⟨[250,23],
 [(.ret (some (.loc 23)))]⟩
def qH:Fn:=⟨[250,37,93],
 [(.raise 206 98 [(aF [101,114,114,111,114]),(.loc 37)])]⟩
def qD:Fn:=⟨[250,128,87,88],
 [(sb 128),
 (sb 87),
 (sb 88),
 (sa 321 be),
 (sa 129 (.call 117 [(.len (.loc 88))])),
 (sa 127 be)]⟩
def tD:Fn:=⟨[250,323,324],
 [(sa 90 (.list 99 [])),
 (sa 110 (.dict 100 [] [])),
 (sa 125 (.glb 325)),
 (sb 323),
 (sa 326 (.dict 101 [] [])),
 (sb 324),
 (sa 130 be),
 (sa 327 (.bin .add (.bin .fdiv (.loc 323) (aW 4)) bI)),
 (sa 328 (.list 102 [])),
 (sa 329 (.list 103 [])),
 (sa 330 be),
 (sa 126 be)]⟩
noncomputable def kB:Fn:=⟨[250,122,332,333],
 [(sb 122),
 (sb 332),
 (sb 333)]⟩
def qK:Fn:=⟨[250,89,336,337,20,6],
 [(sb 89),
 (sb 336),
 (sb 337),
 (sa 338 be),
 (sb 20),
 (sa 339 (.list 104 [])),
 (sa 147 (.list 105 [])),
 (sa 340 (.list 106 [])),
 (sa 341 (.list 107 [])),
 (sa 342 (.list 108 [])),
 (sa 343 (.list 109 [])),
 (sb 6),
 (sa 285 (.loc 89)),
 (sa 344 be),
 (sa 345 (.neg bI))]⟩
def jW:Fn:=⟨[250,134,146,23],
 [(.ret (some (.loc 23)))]⟩
noncomputable def tx:Fn:=⟨[250,36,122],
 [(sb 36),
 (sa 13 (.attr (.loc 36) 13)),
 (sb 122),
 (sa 244 (.dict 110 [] [])),
 (sa 140 (.dict 111 [] [])),
 (sa 308 (.dict 112 [] [])),
 (sa 143 (.dict 113 [] [])),
 (sa 234 (.dict 114 [] [])),
 (sa 332 (.list 115 [])),
 (sa 351 (.dict 116 [] [])),
 (sa 333 (.dict 117 [] [])),
 (sa 352 (.dict 118 [] [])),
 (sa 173 (.dict 119 [] [])),
 (sa 135 (.glb 136)),
 (sa 212 (.list 120 [])),
 (sa 137 (.list 121 [])),
 (sa 305 (.list 122 [])),
 (sa 353 (.list 123 [])),
 (sa 307 (.new 334 124 [(.loc 122),(.attr (.loc 250) 351),(.attr (.loc 250) 333)])),
 (sa 354 (.new 347 125 [])),
 (sa 355 (.new 349 126 []))]⟩
def tw:Fn:=⟨[250,201,23],
 [(.ret (some (.or [(.cmp (.loc 201) [.eq] [(.loc 23)]),(.cmp (.loc 23) [.eq] [(.glb 66)]),(.cmp (.tup [(.loc 201),(.loc 23)]) [.isIn] [(.attr (.loc 250) 244)])])))]⟩
def lh:Fn:=⟨[250,23],
 [(.ret (some (.sub (.call 139 [(.loc 250),(.loc 23)]) be)))]⟩
def li:Fn:=⟨[250,23],
 [(.ret (some (.sub (.call 139 [(.loc 250),(.loc 23)]) bI)))]⟩
def m9:Fn:=⟨[250,23],
 [(.ret (some (.call 141 [(.loc 250),(.loc 23)])))]⟩
noncomputable def qz:Fn:=⟨[250,23],
 [(.ret (some (.meth (.attr (.loc 250) 234) 3 [(.loc 23),(.loc 23)])))]⟩
noncomputable def nM:Fn:=⟨[250,146,23],
 [(.ret (some (.meth (.attr (.loc 250) 355) 87 [(.loc 250),(.loc 146),(.loc 23)])))]⟩
noncomputable def qC:Fn:=⟨[250,87,118],
 [(.ret (some (.call 121 [(.attr (.loc 250) 122),(.loc 87),(.call 150 [(.loc 250),(.loc 87),(.loc 118)])])))]⟩
noncomputable def vR:Fn:=⟨[250,146],
 [(.ret (some (.call 145 [(.loc 250),(.loc 146)])))]⟩
noncomputable def kz:Fn:=⟨[250,37,93],
 [(.ret (some (.call 133 [(.loc 250),(.loc 37)])))]⟩
def tA:Fn:=⟨[250,134,146,367],
 [(.ite (.cmp (.len lO) [.eq] [be]) [.hole] []),
 (.ret (some (.call 160 [(.loc 134),(.loc 146),(.bin .sub (.len lO) bI),(.meth (.loc 134) 362 [(.loc 146),(.loc 367)])])))]⟩
def nN:Fn:=⟨[250,134,146,367],
 [(.asg (.loc 23) (.meth (.loc 134) 362 [(.loc 146),(.loc 367)])),
 (.ite (.cmp (.len lO) [.eq] [be]) [.hole] []),
 (.ite (.not (.call 31 [wq,(.loc 23)])) [.hole] []),
 (.ite (.call 158 [wq,(.loc 23)]) [(.ret (some (.call 171 [(.loc 134),(.loc 146),(.loc 23)])))] []),
 (.asg (.loc 123) (.call 167 [(.loc 134),(.meth (.loc 134) 2 [(.loc 146)]),(.loc 23)])),
 (.ite (.cmp (.loc 123) [.is] [(.k .none)]) [(.ret (some (.glb 138)))] []),
 (.expr (.meth lO 1 [(.tup [(.glb 73),(.call 131 [(.loc 123),be])])])),
 (.ret (some (.glb 161)))]⟩
def kC:Fn:=⟨[250,134,146,367],
 [(.asg (.loc 23) (.meth (.loc 134) 362 [(.loc 146),(.loc 367)])),
 (.ite (.not (.call 31 [wq,(.loc 23)])) [(.ret (some (.call 183 [(.loc 134),(.loc 146),(.loc 23)])))] []),
 (.asg (.loc 63) (.meth (.loc 134) 2 [(.loc 146)])),
 (.ite (.call 158 [wq,(.loc 23)]) [(.asg (.loc 170) (.call 169 [(.loc 134),(.loc 63),(.loc 23)])),(.ite (.cmp (.loc 170) [.is] [(.k .none)]) [(.ret (some (.glb 138)))] []),(.expr (.meth lO 1 [(.loc 170)])),(.ret (some (.glb 161)))] []),
 (.asg (.loc 123) (.call 167 [(.loc 134),(.loc 63),(.loc 23)])),
 (.ite (.cmp (.loc 123) [.is] [(.k .none)]) [(.ret (some (.glb 138)))] []),
 (.expr (.meth lO 1 [(.sub (.attr (.loc 123) 88) be)])),
 (.ret (some (.glb 161)))]⟩
def Rz:Tr Fn:=(.n (.n (.n (.n (.n (.n (.f 320 qD) (.n (.f 160 DF) (.n (.f 96 lm) (.f 224 zw)))) (.n .e (.n (.f 48 ln) (.n (.n (.f 112 ua) (.f 368 nN)) .e)))) (.n (.n (.n .e (.n (.f 72 J7) (.f 200 wf))) (.n (.f 296 qL) (.f 360 qz))) (.n (.f 216 we) (.n (.n (.f 56 DE) (.f 184 zv)) .e)))) (.n (.n (.n (.n (.n (.n (.f 4 nS) (.f 260 lj)) .e) (.f 196 qW)) (.n .e (.n (.f 356 tw) (.f 228 ja)))) (.n (.f 148 DB) (.f 116 kF))) (.n (.n (.n (.f 12 kH) (.f 204 qZ)) (.n (.n (.f 44 qU) (.f 172 iB)) (.f 364 vR))) (.n (.n (.f 28 tZ) (.n (.n (.f 92 tI) (.f 348 jW)) (.f 220 tV))) .e)))) (.n (.n (.n (.n (.f 322 tD) (.f 34 DD)) .e) (.n (.n (.f 202 tX) (.n (.n (.n (.f 42 Dy) (.f 298 tz)) .e) (.f 106 ni))) .e)) (.n (.n (.n (.f 262 ll) (.n .e (.n (.f 358 li) (.f 230 tY)))) (.n (.n (.n (.f 22 tM) (.f 150 nU)) (.f 86 wc)) (.n (.f 182 Gb) (.f 246 br)))) (.n (.f 366 tA) (.n (.n (.n (.n (.f 30 zy) (.f 286 qF)) (.f 158 nT)) (.n (.f 350 tx) (.f 222 lp))) (.n (.n (.n (.f 62 wa) (.f 318 qJ)) (.f 190 wd)) .e)))))) (.n (.n (.n (.n (.f 65 DA) (.n (.n (.n (.f 17 nV) (.f 145 tL)) (.f 209 DC)) (.n .e (.n (.n (.f 113 nO) (.f 369 kC)) .e)))) (.n (.n (.f 9 tJ) (.n (.f 169 nP) (.f 361 nM))) (.n .e (.n .e (.n (.f 121 rc) (.f 249 kA)))))) (.n (.n (.n (.n (.f 133 nQ) (.n (.f 69 qQ) (.f 197 qV))) (.n (.f 293 na) (.f 357 lh))) (.n (.f 213 zu) (.f 117 tH))) (.n (.n (.n (.n (.f 269 m7) (.f 141 nh)) (.f 205 tR)) (.f 365 kz)) (.n (.n (.n (.f 29 Dz) (.f 157 v9)) (.f 221 tN)) (.n (.n (.f 317 ty) (.f 189 tU)) .e))))) (.n (.n (.n (.n (.f 131 q0) (.n (.n (.n (.f 35 zt) (.f 291 tC)) .e) (.f 99 zx))) (.n (.n (.f 19 rd) (.f 83 nR)) .e)) (.n (.n (.n (.n (.f 11 qR) (.f 139 v8)) (.n (.n (.f 75 wb) (.f 331 kB)) .e)) (.n (.n (.f 43 Dx) (.f 171 qM)) (.n (.f 363 qC) (.f 235 bP)))) (.n (.f 155 qP) (.f 187 qX)))) (.n (.n (.n .e (.n (.n (.f 39 tE) (.f 167 nW)) (.n (.f 359 m9) (.f 231 tQ)))) (.n .e (.n (.f 183 wi) (.f 247 wO)))) (.n (.f 335 qK) (.n (.f 31 wg) (.n (.n (.f 319 qH) (.f 191 tO)) (.f 255 kE))))))))
noncomputable def JQ:Tr Nat:=(.n (.n (.n (.n (.f 122000 360) (.f 122008 359)) (.n (.f 122980 318) (.f 121948 365))) (.n (.n (.f 121858 364) (.n (.f 122218 361) (.f 122010 358))) (.f 122022 363))) (.n (.n (.n .e (.n (.n .e (.n .e (.n (.n (.n (.n (.f 122985 317) (.f 121961 356)) .e) .e) .e))) .e)) (.f 133637 260)) (.n (.n (.n (.f 122019 357) (.n (.n .e (.n .e (.n (.n .e (.n (.f 90835 368) (.n (.f 91859 369) (.f 89811 366)))) .e))) .e)) (.f 133851 262)) (.n (.f 178775 348) (.f 122975 319)))))
noncomputable def J2:Tr (Option Nat):=(.n (.n (.n (.f 240 (some 298)) (.n .e (.n .e (.n .e (.n .e (.n (.f 124 (some 320)) (.f 252 (some 249)))))))) (.n (.f 346 (none)) (.n (.f 294 (none)) (.n (.n (.n .e (.n (.f 334 (some 331)) (.f 206 (some 249)))) (.f 238 (some 350))) (.f 254 (some 249)))))) (.n (.n (.n (.n .e (.n .e (.n (.f 177 (none)) (.f 241 (some 335))))) (.n (.n .e (.n (.f 297 (some 296)) (.f 233 (some 269)))) .e)) (.n (.n (.f 261 (some 255)) (.n .e (.n (.f 181 (none)) (.f 245 (some 293))))) (.n (.f 237 (some 286)) (.n (.f 349 (none)) (.f 253 (some 249)))))) (.n (.n (.f 179 (none)) (.n .e (.n (.n .e (.n (.n (.f 91 (some 291)) (.f 347 (none))) .e)) (.f 251 (some 249))))) (.n (.f 295 (none)) (.n (.n .e (.n (.f 175 (none)) (.f 239 (some 322)))) .e)))))
noncomputable def Gl:Tr V:=(.n (.n (.n (.n (.n (.n (.f 384 (.int 3)) (.f 32 (.int 1))) (.f 176 (.int 121))) (.n (.n (.n (.n (.f 8 (.int 3)) (.f 136 (.int 0))) .e) (.n (.f 168 (.str [83,112,101,99,105,102,105,101,100,32,99,97,115,116,32,105,115,32,110,111,116,32,118,97,108,105,100,46])) (.f 232 (.int 2)))) (.n (.f 24 (.int 0)) (.n .e (.n (.n (.f 120 (.int 3)) (.f 376 (.int 5))) .e))))) (.n (.n (.n (.n (.f 132 (.int 3)) (.f 68 (.int 4))) (.f 164 (.int 6))) (.n .e (.n (.n (.f 52 (.int 10)) (.f 180 (.int 208))) (.f 372 (.int 1))))) (.n (.f 268 (.int 4096)) (.n (.f 156 (.str [79,98,106,101,99,116,32,114,101,102,101,114,101,110,99,101,32,110,111,116,32,115,101,116,32,116,111,32,97,110,32,105,110,115,116,97,110,99,101,32,111,102,32,97,110,32,111,98,106,101,99,116,46])) (.n (.f 60 (.int 3)) (.f 380 (.int 0))))))) (.n (.n (.n (.n (.f 66 (.int 12)) (.n (.f 162 (.tup [(.int 0),(.int 0)])) (.n (.f 98 (.str [79,98,106,101,99,116,32,114,101,102,101,114,101,110,99,101,32,110,111,116,32,115,101,116,32,116,111,32,97,110,32,105,110,115,116,97,110,99,101,32,111,102,32,97,110,32,111,98,106,101,99,116,46])) (.f 226 (.tup [(.str [105,52]),(.str [101]),(.str [117,52]),(.str [102]),(.str [115]),(.str [103]),(.str [104]),(.str [63,105,52]),(.str [63,101]),(.str [63,115]),(.str [63,117,49]),(.str [63,104]),(.str [111]),(.str [97]),(.str [105]),(.str [116]),(.str [98,111,111,108]),(.str [117,49]),(.str [105,49]),(.str [99,104,97,114]),(.str [117,50]),(.str [105,50]),(.str [105,56]),(.str [117,56]),(.str [110,105,110,116])]))))) (.n (.f 18 (.glob 18)) (.n (.n (.f 50 (.int 1)) (.f 178 (.int 165))) (.n (.n (.f 114 (.int 23)) (.f 370 (.int 1))) .e)))) (.n (.n (.n (.n (.f 10 (.int 4)) (.f 138 (.int (-2)))) (.f 74 (.int (-1)))) .e) (.n (.f 26 (.int 6)) (.n (.n (.f 58 (.int 2)) (.f 186 (.tup [(.int 0),(.int 2),(.int 8),(.int 1),(.int 10),(.int 8),(.int 6),(.int 2),(.int 8),(.int 31)]))) (.f 378 (.int 10)))))) (.n (.n (.f 70 (.int 8)) (.n .e (.n (.f 54 (.int 3)) (.f 374 (.int 5))))) (.n (.n (.f 14 (.int 1)) (.n (.n (.f 46 (.int 5)) (.f 174 (.int 140))) .e)) (.f 382 (.int 3)))))) (.n (.n (.n (.n (.n (.f 385 (.glob 385)) (.n (.n (.f 33 (.int 11)) (.f 161 (.int (-1)))) (.f 97 (.int 21)))) (.f 49 (.int 8))) (.n (.f 73 (.int 6)) (.n (.f 25 (.int 14)) (.n (.f 57 (.int 4)) (.f 377 (.int 9)))))) (.n (.n (.n (.f 325 (.int 16)) (.f 165 (.int 7))) (.n (.f 85 (.int 8)) (.n (.f 53 (.int 2)) (.f 373 (.int 2))))) (.n .e (.n .e (.n (.f 61 (.int 5)) (.f 381 (.int 7))))))) (.n (.n (.n (.n (.n .e (.n (.f 67 (.int 13)) (.f 195 (.tup [(.int 0),(.int 1),(.int (-1)),(.int 7),(.int 127),(.int 128),(.int 255),(.int 256),(.int 32767),(.int 32768),(.int 65535),(.int 2147483647),(.int 2147483648),(.int 4294967295),(.int 9223372036854775807),(.int 9223372036854775808)])))) .e) (.n .e (.n (.f 51 (.int 9)) (.n (.n (.f 115 (.str [83,112,101,99,105,102,105,101,100,32,99,97,115,116,32,105,115,32,110,111,116,32,118,97,108,105,100,46])) (.f 371 (.int 12))) (.f 243 (.tup [(.str [105,52]),(.str [117,49]),(.str [105,56]),(.str [117,52]),(.str [117,50]),(.str [105,49]),(.str [117,56]),(.str [105,50])])))))) (.n (.f 267 (.int 24)) (.n (.f 27 (.int 7)) (.n (.f 59 (.int 6)) (.f 379 (.int 5)))))) (.n (.n (.n (.n (.f 7 (.int 2)) (.f 71 (.int 5))) .e) (.n (.f 151 (.int 8)) (.n (.f 55 (.tup [(.int 4),(.int 0)])) (.n (.n (.f 119 (.int 2)) (.f 375 (.int 7))) .e)))) (.n (.f 15 (.int 11)) (.n (.f 159 (.int 16)) (.f 383 (.int 870))))))))
noncomputable def jK:List (Nat×List Int):= [(385, [0,1,2,3,4,5,6,7,8,9,10,11,12,13]),(18, [20,9,10,11,12,13,14,15,16,17,18,19,1,4])]
noncomputable def NK:Tr Unit:=(.n (.n (.f 252 ()) (.n (.f 386 ()) (.n .e (.n (.f 206 ()) (.f 254 ()))))) (.n (.f 253 ()) (.n (.n (.f 387 ()) (.f 251 ())) .e)))
def pt:PT where
 fn f:=Rz.get f
 meth c x:=JQ.get (c*512+x)
 init c:=J2.get c
 const x:=Gl.get x
 table g:=aN g jK
 isExc c:=(NK.get c).isSome
end Mine
end
section
namespace Mine
open PySem PySem.W PyProof.Rows PySem.Calls
inductive NT where
 |leaf(s:String)|node(l r:NT)
def NT.get:NT->Nat->String
 | .leaf s,_=>s
 | .node l r,i=>match Nat.beq (i%2) 0 with|true=>l.get (i/2)|false=>r.get (i/2)
noncomputable def tP (a b:String):NT:= .node (.leaf a) (.leaf b)
def Lc:NT:=(.node (.node (.node (.node (.node (.node (.node (.node (tP "?none" "index") (tP "addr" "ST_WRONG")) (.node (tP "tag" "Thing.__init__") (tP "z" "?448"))) (.node (.node (tP "BOOL" "names") (tP "box_at" "?416")) (.node (tP "throw_nothing" "inits") (tP "_law_aim" "?480")))) (.node (.node (.node (tP "inner" "params") (tP "plain" "?400")) (.node (tP "slot" "mref") (tP "code" "?464"))) (.node (.node (tP "plain_default" "texts") (tP "OP_UNBOX" "?432")) (.node (tP "box_value" "OpUnbox.run") (tP "Plot" "?496"))))) (.node (.node (.node (.node (tP "R_VALUE" "weight") (tP "ST_RUN" "?392")) (.node (tP "fits" "finals") (tP "_law_goes" "?456"))) (.node (.node (tP "n" "Calls.__init__") (tP "TEXT_CAST" "?424")) (.node (tP "one" "Tray.plain") (tP "S_STRUCT" "?488")))) (.node (.node (.node (tP "VOID" "cctor") (tP "default" "?408")) (.node (tP "slots" "extra") (tP "_law_open" "?472"))) (.node (.node (tP "cut_to" "cuts") (tP "_law_any" "?440")) (.node (tP "LEAST_SIZE" "R_BYREF") (tP "turn" "?504")))))) (.node (.node (.node (.node (.node (tP "inner_kinds" "KindTable.row") (tP "PL_HEAP" "?388")) (.node (tP "V_REF" "card_bits") (tP "_law_source" "?452"))) (.node (.node (tP "store" "version") (tP "CF_HASVALUE" "?420")) (.node (tP "asked" "Tray.is_a") (tP "_law_deed" "?484")))) (.node (.node (.node (tP "args" "bounds") (tP "stored" "?404")) (.node (tP "ev" "conts") (tP "told" "?468"))) (.node (.node (tP "U8" "targets") (tP "OP_LDTOKEN" "?436")) (.node (tP "from_reference" "W_SLOT") (tP "kin" "?500"))))) (.node (.node (.node (.node (tP "check_kind_row" "HEAVIEST_KIND") (tP "rows" "?396")) (.node (tP "path" "frames") (tP "_law_boxing" "?460"))) (.node (.node (tP "plain_kind" "most") (tP "install_m_objects" "?428")) (.node (tP "step" "Tray.pop") (tP "script" "?492")))) (.node (.node (.node (tP "kind_sort" "finaliser") (tP "TEXT_NULL" "?412")) (.node (tP "throw_new" "KindCloser.kind") (tP "_law_place" "?476"))) (.node (.node (tP "I1" "blocks") (tP "name" "?444")) (.node (tP "Thing" "VA_NONE") (tP "BadKind" "?508"))))))) (.node (.node (.node (.node (.node (.node (tP "pop" "weights") (tP "fresh" "Thrown")) (.node (tP "OBJECT" "Heap.__init__") (tP "many" "?450"))) (.node (.node (tP "is_int" "entry") (tP "LOST" "?418")) (.node (tP "SAY_NULL" "starter") (tP "_law_NAMES" "?482")))) (.node (.node (.node (tP "TID_PRIM" "ifaces") (tP "f" "?402")) (.node (tP "outer" "ip") (tP "jump" "?466"))) (.node (.node (tP "V_I4" "exprs") (tP "OP_UNBOX_ANY" "?434")) (.node (tP "T_CAST" "LF_NOTYPE") (tP "head" "?498"))))) (.node (.node (.node (.node (tP "R_ARRAY" "level") (tP "JP_STAY" "?394")) (.node (tP "NO_TAG" "moved") (tP "_law_meant" "?458"))) (.node (.node (tP "wrap32" "Plot.__init__") (tP "maybe" "?426")) (.node (tP "put_value_at" "closed") (tP "unders" "?490")))) (.node (.node (.node (tP "R_VAR" "props") (tP "kinds_of" "?410")) (.node (tP "things" "Op") (tP "got" "?474"))) (.node (.node (tP "CHAR" "splits") (tP "_law_FIRST" "?442")) (.node (tP "heap" "R_FTN") (tP "self" "?506")))))) (.node (.node (.node (.node (.node (tP "sort" "KindTable.put") (tP "m" "?390")) (.node (tP "R_BOXED" "cards") (tP "flag" "?454"))) (.node (.node (tP "types" "Splits") (tP "alloc" "?422")) (.node (tP "special" "Tray.kinds_of") (tP "_law_kinds" "?486")))) (.node (.node (.node (tP "may_stand" "fields") (tP "first_slots" "?406")) (.node (tP "new_item" "caughtv") (tP "source" "?470"))) (.node (.node (tP "V_NINT" "core") (tP "is_of" "?438")) (.node (tP "count" "W_KIND") (tP "_law_settled" "?502"))))) (.node (.node (.node (.node (tP "R_PRIM" "flags") (tP "found" "?398")) (.node (tP "way" "PlaceHost") (tP "LeftOut" "?462"))) (.node (.node (tP "S_ENUM" "nested") (tP "OP_BOX" "?430")) (.node (tP "at" "OpBox.run") (tP "Tray" "?494")))) (.node (.node (.node (tP "args_of" "Store.__init__") (tP "holds_maybe" "?414")) (.node (tP "throw_item" "Tray.__init__") (tP "_law_reference" "?478"))) (.node (.node (tP "store_as" "Plot.asked") (tP "_law_span" "?446")) (.node (tP "made" "S_BLOCK") (tP "RunBound" "?510")))))))) (.node (.node (.node (.node (.node (.node (.node (tP "append" "depths") (tP "size" "PRIM_TID")) (.node (tP "tag_of" "gen") (tP "low" "?449"))) (.node (.node (tP "NINT" "asms") (tP "JP_FALL" "?417")) (.node (tP "T_NULLREF" "held") (tP "y" "?481")))) (.node (.node (.node (tP "check_named" "asm") (tP "pop_value" "?401")) (.node (tP "place" "body") (tP "_law_op" "?465"))) (.node (.node (tP "U4" "calls") (tP "OpUnbox" "?433")) (.node (tP "unbox_value" "OpUnboxAny.run") (tP "Frame" "?497"))))) (.node (.node (.node (.node (tP "row_level" "opened") (tP "thrown" "?393")) (.node (tP "V_PLACE" "ready") (tP "exact" "?457"))) (.node (.node (tP "bits" "Calls") (tP "nullable_of" "?425")) (.node (tP "is_a" "Tray.closed") (tP "TypeDef" "?489")))) (.node (.node (.node (tP "NULLK" "impls") (tP "out" "?409")) (.node (tP "number" "prefix") (tP "due" "?473"))) (.node (.node (tP "U1" "cut_bodies") (tP "w" "?441")) (.node (tP "heap_alloc" "R_ROREF") (tP "RuneError.__init__" "?505")))))) (.node (.node (.node (.node (.node (tP "row" "KindTable") (tP "note_thrown" "?389")) (.node (tP "tag_of_row" "FIRST_ADDRESS") (tP "_law_tagged" "?453"))) (.node (.node (tP "tid" "Special.__init__") (tP "CF_VALUE" "?421")) (.node (tP "item" "Tray.slots_of") (tP "o" "?485")))) (.node (.node (.node (tP "arg" "word") (tP "slot_kind" "?405")) (.node (tP "T_NULLABLE" "caught") (tP "_law_box" "?469"))) (.node (.node (tP "V_I8" "stmts") (tP "OpToken" "?437")) (.node (tP "words_for" "W_EMPTY") (tP "Special" "?501"))))) (.node (.node (.node (.node (tP "kt" "TypeDef.__init__") (tP "told_default" "?397")) (.node (tP "new" "statics") (tP "_law_tried" "?461"))) (.node (.node (tP "t" "steps") (tP "ops" "?429")) (.node (tP "back" "Tray.throw_new") (tP "Store" "?493")))) (.node (.node (.node (tP "tid_of" "home") (tP "thing_of" "?413")) (.node (tP "text" "KindCloser") (tP "_law_write" "?477"))) (.node (.node (tP "I2" "Plot.is_a") (tP "_law_plain" "?445")) (.node (tP "top" "V_FTN") (tP "LoadFault" "?509"))))))) (.node (.node (.node (.node (.node (.node (tP "get" "opens") (tP "heap_place" "Unheld")) (.node (tP "STRING" "limit") (tP "_law_EDGES" "?451"))) (.node (.node (tP "type_of" "Item.__init__") (tP "slots_of" "?419")) (.node (tP "item_is" "closer") (tP "beside" "?483")))) (.node (.node (.node (tP "check_args" "variances") (tP "stack" "?403")) (.node (tP "is_question" "locals_") (tP "run" "?467"))) (.node (.node (tP "I8" "places") (tP "OpUnboxAny" "?435")) (.node (tP "SAY_CAST" "LF_ENUM") (tP "_law_UNDERS" "?499"))))) (.node (.node (.node (.node (tP "row_length" "DEEPEST_KIND") (tP "told_row" "?395")) (.node (tP "put_path" "PlaceHost.__init__") (tP "i" "?459"))) (.node (.node (tP "wrap64" "unit") (tP "unbox_cell" "?427")) (.node (tP "holder" "Tray.alloc") (tP "_law_world" "?491")))) (.node (.node (.node (tP "R_MVAR" "events") (tP "throw_null" "?411")) (.node (tP "Item" "Starter") (tP "put" "?475"))) (.node (.node (tP "U2" "begins") (tP "_law_refers" "?443")) (.node (tP "thing" "ARRAY_TID") (tP "RuneError" "?507")))))) (.node (.node (.node (.node (.node (tP "R_CLASS" "depth") (tP "state" "?391")) (.node (tP "V_STRUCT" "young_limit") (tP "content" "?455"))) (.node (.node (tP "wrap_bits" "Begins") (tP "boxed_thing" "?423")) (.node (tP "kinds" "Tray.default") (tP "_law_types" "?487")))) (.node (.node (.node (tP "k" "methods") (tP "V_TEXT" "?407")) (.node (tP "kind" "keep") (tP "tagged" "?471"))) (.node (.node (tP "NULLV" "starts") (tP "cast_top" "?439")) (.node (tP "HEAD_WORDS" "I4") (tP "law" "?503"))))) (.node (.node (.node (.node (tP "R_RAW" "base") (tP "defaults" "?399")) (.node (tP "at_slot" "Frame.__init__") (tP "left" "?463"))) (.node (.node (tP "under" "guards") (tP "OpBox" "?431")) (.node (tP "whole" "operand") (tP "Heap" "?495")))) (.node (.node (.node (tP "is_value" "fields_") (tP "PRIM_END" "?415")) (.node (tP "error" "by_number") (tP "x" "?479"))) (.node (.node (tP "value" "Plot.error") (tP "_law_value" "?447")) (.node (tP "serial" "MOST_NESTED") (tP "KindTable.__init__" "?511")))))))))
noncomputable def wU:List (Nat×Addr):= [(91,408),(124,826),(175,1212),(177,1252),(179,1271),(181,1290),(233,241),(237,262),(238,1114),(239,847),(240,604),(241,904),(245,436),(261,122),(294,478),(295,499),(297,527),(334,875),(347,960),(349,988),(206,87)]
def NI:List (Nat×Addr):= [(385,90),(18,91)]
noncomputable def r0:List (Nat×Addr):= [(4,133),(9,140),(11,147),(12,154),(17,161),(19,168),(22,175),(28,182),(29,196),(30,203),(31,210),(34,224),(35,273),(39,281),(42,288),(43,295),(44,302),(48,309),(56,316),(62,323),(65,330),(69,337),(72,344),(75,351),(83,657),(86,664),(92,699),(96,706),(99,748),(106,781),(112,788),(113,795),(116,802),(117,809),(121,858),(131,886),(133,1125),(139,1132),(141,1139),(145,1153),(148,1160),(150,1167),(155,1174),(157,1181),(158,1188),(160,1195),(167,1221),(169,1228),(171,1235),(172,1299),(182,1306),(183,1313),(184,1324),(187,1331),(189,1338),(190,1345),(191,1352),(196,1359),(197,1366),(200,1373),(202,1380),(204,1387),(205,1394),(209,1401),(213,1408),(216,1415),(220,1422),(221,1429),(222,1436),(224,1443),(228,1450),(230,1457),(231,1464),(235,1471),(246,1478),(247,1485),(249,35),(255,105),(260,112),(262,119),(269,238),(286,259),(291,405),(293,426),(296,517),(298,545),(317,552),(318,580),(319,587),(320,823),(322,844),(331,872),(335,901),(348,978),(350,1006),(356,1013),(357,1020),(358,1027),(359,1055),(360,1062),(361,1069),(363,1083),(364,1097),(365,1104),(366,1209),(368,1249),(369,1268),(94,713)]
noncomputable def Mq:List Nat:= [6,13,36,38,47,87,88,90,102,103,110,122,125,126,128,129,130,135,137,140,143,147,173,208,212,234,244,256,257,258,259,333,351,355]
noncomputable def LM:List Nat:= [6,13,20,36,37,38,47,87,88,89,90,93,102,103,110,122,125,126,127,128,129,130,135,137,140,143,147,173,188,208,212,234,244,256,257,258,259,263,270,271,272,273,274,275,276,278,279,280,281,282,283,284,285,287,288,289,290,292,299,300,301,302,303,304,305,306,307,308,309,310,311,312,313,314,315,316,321,323,324,326,327,328,329,330,332,333,336,337,338,339,340,341,342,343,344,345,351,352,353,354,355]
noncomputable def Ho:List Nat:= [1,2,3,5,87,92,95,100,105,144,152,154,163,166,211,219,362]
noncomputable def Ml:List Nat:= [7,8,10,14,15,18,24,25,26,27,32,33,46,49,50,51,52,53,54,55,57,58,59,60,61,66,67,68,70,71,73,74,85,97,98,114,115,119,120,132,136,138,151,156,159,161,162,164,165,168,174,176,178,180,186,195,226,232,243,267,268,325]
noncomputable def TH:List Nat:= [4,9,11,12,17,19,22,28,29,30,31,34,35,39,42,43,44,48,56,62,65,69,72,75,83,86,92,94,96,99,106,112,113,116,117,121,131,133,139,141,145,148,150,155,157,158,160,167,169,171,172,182,183,184,187,189,190,191,196,197,200,202,204,205,209,213,216,220,221,222,224,228,230,231,235,246]
noncomputable def L8:List Nat:= [91,124,175,177,179,181,233,237,238,239,240,241,245,261,294,295,297,334,347,349]
def RB:List Nat:= [206]
def rh(i:Nat):Str:=match Nat.blt i 512 with
 |true=>Str.ofString (Lc.get i)
 |false=>⟨#[i+2000000]⟩
def HJ:List Nat->Nat
 | []=>0
 |c::r=>(HJ r)*2000000+c+1
def HI(s:Str):Nat:=HJ s.cps.toList
def mq:List Nat->Bool
 | []=>true
 |x::r=> !iN x r&&mq r
theorem xC:∀{l:List Nat},x∈l->iN x l=true
 |y::r,h=>by
  simp only[iN,Zd];rcases X9.mp h with rfl|h
  ·exact .inl (by simp)
  ·exact .inr (xC h)
theorem oH:∀{l:List Nat},mq l=true->l.Nodup:=by
 intro l
 induction l with
 |nil=>intro _;exact .nil
 |cons x r ih=>
  intro h;simp only[mq,Ye]at h;rw[Yu];exact⟨λhm=>(by rw[xC hm]at h;exact nomatch h.1),ih h.2⟩
theorem vX{f:Nat->Nat}:∀{l:List Nat},(l.map f).Nodup->∀x∈l,∀y∈l,f x=f y->x=y:=by
 intro l
 induction l with
 |nil=>intros;contradiction
 |cons a l ih=>
  intro h x hx y hy e;rw[Yn,Yu]at h;rcases X9.mp hx with e1|Ij<;>rcases X9.mp hy with e2|KI
  ·rw[e1,e2]
  ·exact absurd (YD.mpr ⟨y,KI,by rw[<-e,e1]⟩) h.1
  ·exact absurd (YD.mpr ⟨x,Ij,by rw[e,e2]⟩) h.1
  ·exact ih h.2 x Ij y KI e
theorem ub:mq ((List.range 512).map λi=>HI (Str.ofString (Lc.get i)))=true:=by decide+kernel
theorem zH:((List.range 512).map λi=>Nat.blt (HI (Str.ofString (Lc.get i))) (2000000^60)&&(match(Str.ofString (Lc.get i)).cps.toList with| [c]=>Nat.blt c 2000000|_=>true)).all id=true:=by decide+kernel
theorem FK:∀x y,rh x=rh y->x=y:=by
 have low:∀i,i<512->∀j,¬j<512->Str.ofString (Lc.get i)≠⟨#[j+2000000]⟩:=by
  intro i hi j hj e;have h:=zH;rw[X7]at h;have:=h _ (YD.mpr (al i (zal.mpr hi) rfl));rw[id,Ye]at this;rw[e]at this;have h2:=this.2;rw[zaE]at h2;exact zaB.mpr (ZF ..) h2
 intro x y h;unfold rh at h;by_cases hx:x<512
 ·by_cases hy:y<512
  ·simp only[zaE.mpr hx,zaE.mpr hy]at h;exact vX (oH ub) x (zal.mpr hx) y (zal.mpr hy) (by rw[h])
  ·have e1:=zaE.mpr hx;have e2:Nat.blt y 512=false:=by rw[<-Z8];simpa using hy
   rw[e1,e2]at h;exact absurd h (low x hx y hy)
 ·by_cases hy:y<512
  ·have e1:=zaE.mpr hy;have e2:Nat.blt x 512=false:=by rw[<-Z8];simpa using hx
   rw[e1,e2]at h;exact absurd h.symm (low y hy x hx)
  ·have e1:Nat.blt x 512=false:=by rw[<-Z8];simpa using hx
   have e2:Nat.blt y 512=false:=by rw[<-Z8];simpa using hy
   rw[e1,e2]at h;simp only[Str.mk.injEq]at h;have:=Yd Array.toList h;rw[List.cons.injEq]at this;exact Nat.add_right_cancel this.1
theorem ee(h:aN x l=some v):(x,v)∈l:=by
 induction l with
 |nil=>exact nt h
 |cons p r ih=>
  rw[Ej]at h;refine cY (Nat.beq p.1 x) (λhy=>?_) λhy=>?_
  ·rw[hy]at h;(refine(si h) ▸?_;refine(Yh hy) ▸?_);exact .head _
  ·rw[hy]at h;exact .tail _ (ih h)
def tb:Tb:=⟨Mq,LM,Ho,Ml,TH,L8,RB⟩
section
def IX(c:Nat):Option Addr:=aN c wU
def KQ(f:Nat):Option Addr:=aN f r0
def O7(g:Nat):Option Addr:=aN g NI
variable(P:PT)(nm:Nat->Str)(K:Frag)
def HC:Bool:=Mq.all λx=>wU.all λp=>(P.meth p.1 x).isSome||IU K p.2 (nm x)
def G7:Bool:=LM.all λx=>wU.all λp=>(P.isExc p.1||LN K p.2 (nm x))&&(!P.isExc p.1||(!jF p.1 x||qn K p.2 (nm x)))
def BR:Bool:=Ho.all λx=>wU.all λp=>(P.meth p.1 x).all λf=>(KQ f).any λa=>plainGet K p.2 (nm x)&&(findIn K (.ref p.2) (nm x)==some (some (.ref a))&&(isFn K (.ref a)&&keepIn K (.ref a)))
def Ry(W:SW)(x:Nat):Bool:=(nsIn W.K mainGlobals (W.nm x)).any λo=>o.any λu=>(W.P.const x).any λv=>K4 W 40 v u
def Mo:Bool:=TH.all λf=>(KQ f).any λa=>nsIn K mainGlobals (nm f)==some (some (.ref a))&&keepIn K (.ref a)
def Mh(Ca:Addr)(f:Nat):Bool:=(KQ f).any λa=>findIn K (.ref Ca) "__init__"==some (some (.ref a))&&typeIn K (.ref a)==some (.type "function")
def Hm:Bool:=L8.all λc=>(IX c).any λCa=>nsIn K mainGlobals (nm c)==some (some (.ref Ca))&&(makesIn K Ca&&(keepIn K (.ref Ca)&&(P.init c).all λo=>match o with
 |none=>findIn K (.ref Ca) "__init__"==some (some (.builtin "object.__init__"))&& !P.isExc c
 |some f=>Mh K Ca f))
def HF(o:Obj)(c:ClassData):Obj:=excClassObj c.name c.qualname 87 c.ns c.bases (.ref (HE c.mro)::jp) c.hasDict c.slotNames c.subclasses c.abstract c.collection o.dict (o.slots.toList.head?.getD none) (o.slots.toList.tail.head?.getD none) (o.slots.toList.tail.tail.head?.getD none) (o.slots.toList.tail.tail.tail.head?.getD none) (o.slots.toList.tail.tail.tail.tail.tail.head?.getD none) "Exception.__new__"
def TV:Data->ClassData
 | .cls c=>c
 |_=>default
def Pb:Data->FuncData
 | .func c=>c
 |_=>default
def D6(a:Addr):Obj:=(K.lookup a).getD default
def HD:Bool:=nsIn K mainGlobals (nm 206)==some (some (.ref 87))&&(keepIn K (.ref 87)&&(P.init 206).any λo=>o.any λf=>Mh K 87 f)
def MJ:Bool:=jK.all λp=>(O7 p.1).any λa=>yj K a p.2
def BQ:Bool:=(nm gc=="append"&&(nm Av=="pop"&&nm Aw=="get"))&&(nsIn K mainGlobals ("len":Str)==some none&&nsIn K mainGlobals ("range":Str)==some none)
def JJ(sc:Scope):Bool:=sc.names.all λx=>match x.2 with
 | .cell=>false
 |_=>true
def Sl:FuncBody->List Stmt
 | .stmts b=>b
 |_=> []
def Mp(fn:Fn)(o:Obj)(d:FuncData):Obj:=⟨o.cls,o.dict, .func (fnOf d.name d.qualname ⟨[],d.params.args,none,d.params.kwonlyargs.take 0,d.params.kw_defaults,none,d.params.defaults⟩ (gC n8 (zP nm 60) fn.body (Sl d.body)) d.scope .none d.kwdefaults d.doc d.pyModule d.annotations d.code d.closureTuple),o.slots⟩
def TI(fn:Fn)(d:FuncData):Bool:=(d.params.args.map (·.arg))==fn.params.map nm&&(codeIn K d.code d.qualname&&(!d.scope.isCoroutine&&(!d.scope.isGenerator&&(d.scope.kind== .function&&(JJ d.scope&&(fn.params.all (λx=>dg d.scope (nm x) .local)&&(mq fn.params&&jX n8 (zS nm tb d.scope 60 false) fn.body (Sl d.body))))))))
noncomputable def EL:List (Nat×Addr)->List (Option Obj×Bool)
 | []=> []
 |p::r=>(K.lookup p.2,true)::EL r
noncomputable def EK:List (Nat×Addr)->List (Option Obj×Bool)
 | []=> []
 |p::r=>(match P.fn p.1 with
  |some fn=>(some (Mp nm fn (D6 K p.2) (Pb (D6 K p.2).data)),TI nm K fn (Pb (D6 K p.2).data))
  |none=>(K.lookup p.2,true))::EK r
end
theorem oX:∃nA yh,ExcBaseFacts "Exception" "Exception.__new__" nA yh:=(uR _ _ (PySem.F.excBase_Exception))
section
variable{prog:Program}{w:World}{K:Frag}{base:Heap}{mg mb:Str->Option Value}{p:Program}{loose:List Str}{gens:Array GenState}{os:OsState}
def VK(prog:Program)(w:World)(K:Frag)(base:Heap)(mg mb:Str->Option Value)(p:Program)(loose:List Str)(gens:Array GenState)(os:OsState)(X:K.In base)(T:TopRead p loose mg mb base):SW where
 prog:=prog
 w:=w
 K:=K
 base:=base
 P:=pt
 nm:=rh
 cls:=IX
 gl:=O7
 mg:=mg
 mb:=mb
 p:=p
 loose:=loose
 gens:=gens
 os:=os
 X:=X
 T:=T
 lim:=T.nolimit
 inj:=FK
variable(X:K.In base)(T:TopRead p loose mg mb base)
theorem aa{α β:Type}{l:List α}{m:List β}{f:α->β->Bool}(h:(l.all λx=>m.all (f x))=true){x:α}{p:β}(hx:x∈l)(hp:p∈m):f x p=true:=X7.mp (X7.mp h x hx) p hp
theorem MI(ji:W.cls=IX)(uB:W.gl=O7)(h1:HC W.P W.nm W.K=true)(h2:G7 W.P W.nm W.K=true)(h3:BR W.P W.nm W.K=true)(h4:Ml.all (Ry W)=true)(h5:Mo W.nm W.K=true)(h6:Hm W.P W.nm W.K=true)(h7:HD W.P W.nm W.K=true)(WV:W.K.lookup 87=some (HF (D6 W.K 87) (TV (D6 W.K 87).data)))(h8:jK.all (λp=>(O7 p.1).any λa=>yj W.K a p.2)=true)(WU:∀g l,W.P.table g=some l->(g,l)∈jK)(h9:BQ W.nm W.K=true):EV W KQ tb where
 flds:=λx hx c C hc hm=>by
  rw[ji]at hc;rcases YW.mp (aa h1 hx (ee hc))with h|h
  ·rw[hm]at h;exact nf h
  ·exact h
 sets:=λx hx=>⟨λc C hc he=>by
   rw[ji]at hc;rcases YW.mp (an (aa h2 hx (ee hc))).1 with h|h
   ·rw[he]at h;exact nf h
   ·exact h,yW λc C hc he ho=>by
   rw[ji]at hc;rcases YW.mp (an (aa h2 hx (ee hc))).2 with h|h
   ·rw[he]at h;exact nf h
   ·rcases YW.mp h with h|h
    ·rw[ho]at h;exact nf h
    ·exact h⟩
 meths:=λx hx c f Ca hc hm=>by
  rw[ji]at hc;have h:=aa h3 hx (ee hc);rw[hm]at h;refine U (oa h) λa e h=>?_;have h':=an (an h).2;exact(EU a e ((an h).1) (eq_of_beq h'.1) ((an h'.2).1) ((an h'.2).2))
 glbs:=λx hx=>by
  refine hg λcg kg=>?_;refine U (oa (X7.mp h4 x hx)) λo e1 h=>?_;refine U (oa h) λu e2 h=>?_;refine U (oa h) λv e3 h=>?_;refine kg ?_;exact(iO v u (40) (e2 ▸ e1) h e3)
 fns:=λf hf=>by
  refine U (oa (X7.mp h5 f hf)) λa e h=>?_;exact(aM a e (eq_of_beq (an h).1) ((an h).2))
 news:=λc hc=>by
  refine U (oa (X7.mp h6 c hc)) λCa e h=>?_;have h':=an (an h).2;refine(EU Ca (eq_of_beq (an h).1) (ji ▸ e) (h'.1) ((an h'.2).1) ?_);have h3:=(an h'.2).2;cases q:W.P.init c with
  |none=>trivial
  |some o=>
   rw[q]at h3;cases o with
   |none=>exact⟨eq_of_beq (an h3).1,iq (an h3).2⟩
   |some f=>
    refine U (oa h3) λa e2 h=>?_;exact(aM a e2 (eq_of_beq (an h).1) (eq_of_beq (an h).2))
 excs:=λc hc=>by
  cases X8.mp hc;refine hg λcg kg=>?_;have h:=an h7;refine U (oa (an h.2).2) λo q ha=>?_;refine U (oa ha) λf q' hb=>?_;refine U (oa hb) λa e2 h'=>?_
  (refine iQ oX λnA yh Fn=>?_;try clear oX)
  refine kg ?_;exact(AK (87) (eq_of_beq h.1) (ji ▸ rfl) (⟨⟨_,_,_,_,_,_,_,_,_,_,_,_,_,_,_,_,_,nA,yh,WV,Fn, .inl ⟨_,rfl⟩⟩,f,a,q' ▸ q,e2,eq_of_beq (an h').1,eq_of_beq (an h').2⟩) ((an h.2).1))
 tabs:=λg l h=>by
  refine U (oa (X7.mp h8 (g,l) (WU g l h))) λa e h=>?_;exact(al a (uB ▸ e) h)
 names:=⟨eq_of_beq (an (an h9).1).1,eq_of_beq (an (an (an h9).1).2).1,eq_of_beq (an (an (an h9).1).2).2⟩
 len:=eq_of_beq (an (an h9).2).1
 range:=eq_of_beq (an (an h9).2).2
theorem J6(h:EL K l=EK P nm K l){p:Nat×Addr}(hp:p∈l)(e:P.fn p.1=some fn):K.lookup p.2=some (Mp nm fn (D6 K p.2) (Pb (D6 K p.2).data))/\TI nm K fn (Pb (D6 K p.2).data)=true:=by
 induction l with
 |nil=>exact nomatch hp
 |cons q r ih=>
  rcases X9.mp hp with rfl|hp
  ·have h1:=(Z9 h).1;rw[e]at h1;exact⟨(zab h1).1,(zab h1).2.symm⟩
  ·exact ih (Z9 h).2 hp
theorem Du(h:EL W.K r0=EK W.P W.nm W.K r0):Br W KQ tb:=by
 intro f a hf;cases WA:W.P.fn f with
 |none=>exact .inl rfl
 |some fn=>
  obtain⟨h1,h2⟩:=J6 h (ee hf) WA;have g6:=an (an (an (an (an (an h2).2).2).2).2).2;refine .inr ⟨fn,_,_,_,_,60,rfl,⟨⟨_,_,_,_,_,_,_,_,_,_,h1,rfl,rfl,rfl,rfl,eq_of_beq (an h2).1⟩,(an (an h2).2).1,iq (an (an (an h2).2).2).1,iq (an (an (an (an h2).2).2).2).1,eq_of_beq (an (an (an (an (an h2).2).2).2).2).1,?_,?_,oH (an (an g6.2).2).1⟩,(an (an g6.2).2).2⟩
  ·intro x hx e;have:=X7.mp g6.1 x hx;rw[e]at this;exact nf this
  ·intro x hx;exact ci (X7.mp (an g6.2).1 x hx)
end
theorem JY(P:Params):HC pt rh (Hd.Kf P)=true:=by kernel_rfl
theorem JV(P:Params):G7 pt rh (Hd.Kf P)=true:=by kernel_rfl
theorem FY(P:Params):BR pt rh (Hd.Kf P)=true:=by kernel_rfl
theorem No(P:Params):Mo rh (Hd.Kf P)=true:=by kernel_rfl
theorem JW(P:Params):Hm pt rh (Hd.Kf P)=true:=by kernel_rfl
theorem JZ(P:Params):HD pt rh (Hd.Kf P)=true:=by kernel_rfl
theorem JU(P:Params):MJ (Hd.Kf P)=true:=by kernel_rfl
theorem FX(P:Params):BQ rh (Hd.Kf P)=true:=by kernel_rfl
theorem Np(P:Params):(Hd.Kf P).lookup 87=some (HF (D6 (Hd.Kf P) 87) (TV (D6 (Hd.Kf P) 87).data)):=by kernel_rfl
theorem JX(P:Params):EL (Hd.Kf P) r0=EK pt rh (Hd.Kf P) r0:=by kernel_rfl
end Mine
end
section
namespace Mine
open PySem
inductive SV where
 |none|bool(b:Bool)|int(x:Nat)(c:Int)|str(l:List Nat)|atom(n:Nat)|tup(vs:List SV)|obj(s j:Nat)|glob(a:Nat)|vo(s i:Nat)|any(n:Nat)
inductive Bs where
 |nil|var(b:Nat)|set(b:Nat)(i v:SV)
inductive SO where
 |inst(c:Nat)(fs:List (Nat×SV))|list(b:Bs)(vs:List SV)|dict(b:Option Nat)(kd:Nat)(es:List (SV×SV))|gone(c:Nat)(fs:List (Nat×SV))|caught(c:Nat)(fs:List (Nat×SV))
section
def Tr.put{α:Type}(t:Tr α)(k:Nat)(v:α):Tr α:=Tr.rec (λ_=> .e) (λq u _=>Bool.rec (.f q u) (.f q v) (Nat.beq q k)) (λl r il ir j=>Bool.rec (.n l (ir (Nat.div j 2))) (.n (il (Nat.div j 2)) r) (Nat.beq (Nat.mod j 2) 0)) t k
def bK{α:Type}(x:Nat)(l:List (Nat×α)):Option α:=List.rec none (λp _ ih=>Bool.rec ih (some p.2) (Nat.beq p.1 x)) l
def zQ{α:Type}(x:Nat)(v:α)(l:List (Nat×α)):List (Nat×α):=List.rec [(x,v)] (λp r ih=>Bool.rec (p::ih) ((p.1,v)::r) (Nat.beq p.1 x)) l
def Iy{α:Type}(x:Nat)(l:List (Nat×α)):List (Nat×α):=List.rec [] (λp r ih=>Bool.rec (p::ih) ih (Nat.beq p.1 x)) l
def rC{α:Type}(l:List α)(n:Nat):Option α:=List.rec (λ_=>none) (λa _ ih n=>Nat.rec (some a) (λm _=>ih m) n) l n
def LL{α:Type}(b:α)(l:List α)(n:Nat):List α:=List.rec (λ_=> []) (λa r ih n=>Nat.rec (b::r) (λm _=>a::ih m) n) l n
def fp{α:Type}(l:List α):Nat:=List.rec 0 (λ_ _ ih=>Nat.succ ih) l
def uq(a b:List Nat):Bool:=List.rec (λb=>List.rec true (λ_ _ _=>false) b) (λx _ ih b=>List.rec false (λy r _=>Bool.rec false (ih r) (Nat.beq x y)) b) a b
def zV(a b:Int):Bool:=Int.rec (λn=>Int.rec (λm=>Nat.beq n m) (λ_=>false) b) (λn=>Int.rec (λ_=>false) (λm=>Nat.beq n m) b) a
def wv(a b:Int):Bool:=Int.rec (λn=>Int.rec (λm=>Nat.ble n m) (λ_=>false) b) (λn=>Int.rec (λ_=>true) (λm=>Nat.ble m n) b) a
section
variable{β:Type}(d:β)
def qB(v:SV)(f:Bool->β):β:= @SV.rec (λ_=>β) (λ_=>Unit) d f (λ_ _=>d) (λ_=>d) (λ_=>d) (λ_ _=>d) (λ_ _=>d) (λ_=>d) (λ_ _=>d) (λ_=>d) () (λ_ _ _ _=>()) v
def qI(v:SV)(f:Nat->Int->β):β:= @SV.rec (λ_=>β) (λ_=>Unit) d (λ_=>d) f (λ_=>d) (λ_=>d) (λ_ _=>d) (λ_ _=>d) (λ_=>d) (λ_ _=>d) (λ_=>d) () (λ_ _ _ _=>()) v
def qS(v:SV)(f:List Nat->β):β:= @SV.rec (λ_=>β) (λ_=>Unit) d (λ_=>d) (λ_ _=>d) f (λ_=>d) (λ_ _=>d) (λ_ _=>d) (λ_=>d) (λ_ _=>d) (λ_=>d) () (λ_ _ _ _=>()) v
def qA(v:SV)(f:Nat->β):β:= @SV.rec (λ_=>β) (λ_=>Unit) d (λ_=>d) (λ_ _=>d) (λ_=>d) f (λ_ _=>d) (λ_ _=>d) (λ_=>d) (λ_ _=>d) (λ_=>d) () (λ_ _ _ _=>()) v
def qT(v:SV)(f:List SV->β):β:= @SV.rec (λ_=>β) (λ_=>Unit) d (λ_=>d) (λ_ _=>d) (λ_=>d) (λ_=>d) (λl _=>f l) (λ_ _=>d) (λ_=>d) (λ_ _=>d) (λ_=>d) () (λ_ _ _ _=>()) v
def qO(v:SV)(f:Nat->Nat->β):β:= @SV.rec (λ_=>β) (λ_=>Unit) d (λ_=>d) (λ_ _=>d) (λ_=>d) (λ_=>d) (λ_ _=>d) f (λ_=>d) (λ_ _=>d) (λ_=>d) () (λ_ _ _ _=>()) v
def qG(v:SV)(f:Nat->β):β:= @SV.rec (λ_=>β) (λ_=>Unit) d (λ_=>d) (λ_ _=>d) (λ_=>d) (λ_=>d) (λ_ _=>d) (λ_ _=>d) f (λ_ _=>d) (λ_=>d) () (λ_ _ _ _=>()) v
def qY(v:SV)(f:Nat->β):β:= @SV.rec (λ_=>β) (λ_=>Unit) d (λ_=>d) (λ_ _=>d) (λ_=>d) (λ_=>d) (λ_ _=>d) (λ_ _=>d) (λ_=>d) (λ_ _=>d) f () (λ_ _ _ _=>()) v
def qN(v:SV)(f:β):β:= @SV.rec (λ_=>β) (λ_=>Unit) f (λ_=>d) (λ_ _=>d) (λ_=>d) (λ_=>d) (λ_ _=>d) (λ_ _=>d) (λ_=>d) (λ_ _=>d) (λ_=>d) () (λ_ _ _ _=>()) v
noncomputable def jL (o:SO) (f:Bs->List SV->β):β:= @SO.rec (λ_=>β) (λ_ _=>d) f (λ_ _ _=>d) (λ_ _=>d) (λ_ _=>d) o
def jD(o:SO)(f:Option Nat->Nat->List (SV×SV)->β):β:= @SO.rec (λ_=>β) (λ_ _=>d) (λ_ _=>d) f (λ_ _=>d) (λ_ _=>d) o
def jI(o:SO)(f:Nat->List (Nat×SV)->β):β:= @SO.rec (λ_=>β) f (λ_ _=>d) (λ_ _ _=>d) (λ_ _=>d) (λ_ _=>d) o
def jG(o:SO)(f:Nat->List (Nat×SV)->β):β:= @SO.rec (λ_=>β) (λ_ _=>d) (λ_ _=>d) (λ_ _ _=>d) f (λ_ _=>d) o
def bN(b:Bs)(f:β):β:= @Bs.rec (λ_=>β) f (λ_=>d) (λ_ _ _=>d) b
variable{d}{v:SV}{o:SO}{r:β}
theorem LZ(h:qB d v f=r)(hd:d≠r):∃b,v= .bool b/\f b=r:=by cases v with|bool b=>exact(al b rfl h)|_=>exact absurd h hd
theorem jg(h:qI d v f=r)(hd:d≠r):∃x c,v= .int x c/\f x c=r:=by cases v with|int b c=>exact(gz b c rfl h)|_=>exact absurd h hd
theorem At(h:qS d v f=r)(hd:d≠r):∃l,v= .str l/\f l=r:=by cases v with|str b=>exact(al b rfl h)|_=>exact absurd h hd
theorem Q3(h:qA d v f=r)(hd:d≠r):∃n,v= .atom n/\f n=r:=by cases v with|atom b=>exact(al b rfl h)|_=>exact absurd h hd
theorem Ew(h:qT d v f=r)(hd:d≠r):∃l,v= .tup l/\f l=r:=by cases v with|tup b=>exact(al b rfl h)|_=>exact absurd h hd
theorem IG(h:qO d v f=r)(hd:d≠r):∃s j,v= .obj s j/\f s j=r:=by cases v with|obj b c=>exact(gz b c rfl h)|_=>exact absurd h hd
theorem Q2(h:qG d v f=r)(hd:d≠r):∃n,v= .glob n/\f n=r:=by cases v with|glob b=>exact(al b rfl h)|_=>exact absurd h hd
theorem Q1(h:qY d v f=r)(hd:d≠r):∃n,v= .any n/\f n=r:=by cases v with|any b=>exact(al b rfl h)|_=>exact absurd h hd
theorem Ey(h:qN d v f=r)(hd:d≠r):v= .none/\f=r:=by cases v with|none=>exact⟨rfl,h⟩|_=>exact absurd h hd
theorem Rj(h:jL d o f=r)(hd:d≠r):∃b vs,o= .list b vs/\f b vs=r:=by cases o with|list b c=>exact(gz b c rfl h)|_=>exact absurd h hd
theorem Rk(h:jD d o f=r)(hd:d≠r):∃b k es,o= .dict b k es/\f b k es=r:=by cases o with|dict b c e=>exact(I6 b c e rfl h)|_=>exact absurd h hd
theorem RP(h:bN d b f=r)(hd:d≠r):b= .nil/\f=r:=by cases b with|nil=>exact⟨rfl,h⟩|_=>exact absurd h hd
end
theorem nn:none≠some a:=λh=>nomatch h
mutual
def SV.beq:SV->SV->Bool
 | .none,b=>qN false b true
 | .bool a,b=>qB false b λb=>a==b
 | .int x c,b=>qI false b λy d=>Nat.beq x y&&zV c d
 | .str a,b=>qS false b (uq a)
 | .atom a,b=>qA false b (Nat.beq a)
 | .tup a,b=>qT false b λb=>SV.beqs a b
 | .obj a b,d=>qO false d λc d=>Nat.beq a c&&Nat.beq b d
 | .glob a,b=>qG false b (Nat.beq a)
 | .any a,b=>qY false b (Nat.beq a)
 | .vo _ _,_=>false
def SV.beqs:List SV->List SV->Bool
 | [],b=>b.isEmpty
 |a::as,b=>match b with| []=>false|b::bs=>a.beq b&&SV.beqs as bs
end
mutual
noncomputable def lS:V->SV
 | .none=> .none
 | .bool b=> .bool b
 | .int i=> .int 0 i
 | .str l=> .str l
 | .tup vs=> .tup (lY vs)
 | .obj s i=> .vo s i
 | .glob a=> .glob a
noncomputable def lY:List V->List SV
 | []=> []
 |v::r=>lS v::lY r
end
theorem XY:lS .none= .none:=rfl
theorem XX(b:Bool):lS (.bool b)= .bool b:=rfl
theorem VW(i:Int):lS (.int i)= .int 0 i:=rfl
theorem XW(l:List Nat):lS (.str l)= .str l:=rfl
theorem VV(vs:List V):lS (.tup vs)= .tup (lY vs):=rfl
theorem XV(s i:Nat):lS (.obj s i)= .vo s i:=rfl
theorem XU(a:Nat):lS (.glob a)= .glob a:=rfl
structure SL where
 cnt:Nat
 es:List (Nat×SO)
structure fk where
 hp:Tr SL
 env:List (Nat×SV)
inductive O(α:Type) where
 |no|ok(a:α)(S:fk)|ex(je:Bool)(s j c:Nat)(S:fk)
structure Fx where
 bd:List (Nat×(Int×Int))
 bl:List (Nat×SV)
 it:List (Nat×List (SV×SV))
 dt:List (Nat×List (SV×SV))
 op:List (Nat×List ((SV×SV)×SV))
 eq:List ((SV×SV)×Bool)
 le:List ((SV×SV)×Bool)
 ca:List (Nat×List (List SV×SV))
 cf:Nat
 pre:fk->Bool
 mo:Tr Nat
abbrev MS(α:Type):=fk->O α
def dv{α:Type}(a:α):MS α:=λS=> .ok a S
def c6{α:Type}:MS α:=λ_=> .no
def bin{α β:Type}(m:MS α)(f:α->MS β):MS β:=λS=>O.rec .no f .ex (m S)
def opt{α:Type}(o:Option α):MS α:=λS=>Option.rec .no (λa=> .ok a S) o
def ask(b:Bool):MS Unit:=λS=>Bool.rec .no (.ok () S) b
def fk.get(S:fk)(s j:Nat):Option SO:=Option.rec none (λL=>bK j L.es) (S.hp.get s)
def gt(s j:Nat):MS SO:=λS=>Option.rec .no (λo=> .ok o S) (S.get s j)
def md(F:Fx)(s:Nat):Nat:=Option.rec 0 (λm=>m) (F.mo.get s)
def LG(m:Nat):Bool:=Nat.beq m 1||Nat.beq m 3
def xW(m:Nat):Bool:=Nat.beq m 2||Nat.beq m 3
def pu(F:Fx)(s j:Nat)(o:SO):MS Unit:=λS=>Option.rec .no (λL=>Option.rec .no (λ_=>Bool.rec .no (.ok () ⟨S.hp.put s ⟨L.cnt,zQ j o L.es⟩,S.env⟩) (Nat.ble 1000 j||xW (md F s))) (bK j L.es)) (S.hp.get s)
def nw(F:Fx)(s:Nat)(o:SO):MS SV:=λS=>Option.rec .no (λL=>Bool.rec .no (.ok (.obj s (1000+L.cnt)) ⟨S.hp.put s ⟨L.cnt+1,(1000+L.cnt,o)::L.es⟩,S.env⟩) (LG (md F s))) (S.hp.get s)
def ev:MS (List (Nat×SV)):=λS=> .ok S.env S
def se(e:List (Nat×SV)):MS Unit:=λS=> @fk.rec (λ_=>O Unit) (λh _=> .ok () ⟨h,e⟩) S
def lo(x:Nat):MS SV:=λS=>Option.rec .no (λv=> .ok v S) (bK x S.env)
def bn(x:Nat)(v:SV):MS Unit:=λS=> @fk.rec (λ_=>O Unit) (λh e=> .ok () ⟨h,zQ x v e⟩) S
section
variable(F:Fx)
def GT(x:Nat):Option (Int×Int):=Bool.rec (bK x F.bd) (some (0,0)) (Nat.beq x 0)
def KG(x:Nat)(c:Int)(y:Nat)(d:Int):Option Bool:=Bool.rec
 ((GT F x).bind λp=>(GT F y).bind λq=>Bool.rec (Bool.rec none (some false) (wv (Int.add (Int.add q.2 d) 1) (Int.add p.1 c))) (some true) (wv (Int.add p.2 c) (Int.add q.1 d)))
 (some (wv c d)) (Nat.beq x y)
def RC(x:Nat)(c:Int)(y:Nat)(d:Int):Option Bool:=(GT F x).bind λp=>(GT F y).bind λq=>Bool.rec (Bool.rec (Bool.rec none (some true) (zV p.1 p.2&&(zV q.1 q.2&&zV (Int.add p.1 c) (Int.add q.1 d)))) (some false) (wv (Int.add (Int.add q.2 d) 1) (Int.add p.1 c))) (some false) (wv (Int.add (Int.add p.2 c) 1) (Int.add q.1 d))
def Iv(x:Nat)(c:Int)(y:Nat)(d:Int):Option Bool:=Bool.rec (RC F x c y d) (some (zV c d)) (Nat.beq x y)
def wu(a b:SV)(l:List ((SV×SV)×α)):Option α:=List.rec none (λp _ ih=>Bool.rec ih (some p.2) (p.1.1.beq a&&p.1.2.beq b)) l
def OQ(o:Option Bool)(p:Option Bool):Option Bool:=Option.rec p some o
def I5(o:Option Bool)(p:Option Bool):Option Bool:=Option.rec none (λb=>Bool.rec (some false) p b) o
def tg:SV->Nat
 | .none=>1
 | .int _ _=>2
 | .str _=>3
 | .atom _=>3
 | .tup _=>4
 |_=>0
def jr(a b:SV):Bool:=Bool.rec (Bool.rec (Bool.rec true false (Nat.beq (tg a) (tg b))) false (Nat.beq (tg b) 0)) false (Nat.beq (tg a) 0)
def LE(a b:SV)(o:Option Bool):Option Bool:=Bool.rec o (some false) (jr a b)
def zU(a b:SV):Option Bool:= @SV.rec (λ_=>Fx->SV->Option Bool) (λ_=>Fx->List SV->Option Bool)
 (λ_ _=>none)
 (λ_ _ _=>none)
 (λx c F b=>LE (.int x c) b (qI none b (Iv F x c)))
 (λa _ b=>LE (.str a) b (qS none b λb=>some (uq a b)))
 (λ_ _ _=>none)
 (λa r F b=>LE (.tup a) b (qT none b (r F)))
 (λ_ _ _ _=>none)
 (λ_ _ _=>none)
 (λ_ _ _ _=>none)
 (λ_ _ _=>none)
 (λ_ b=>some b.isEmpty)
 (λ_ _ r q F b=>List.rec (some false) (λb bs _=>I5 (r F b) (q F bs)) b) a F b
def Rg(F:Fx)(a b:List SV):Option Bool:=zU F (.tup a) (.tup b)
def A8(x:SV)(l:List (SV×SV)):Option (Option SV):=List.rec (some none) (λp _ ih=>Option.rec none (λb=>Bool.rec ih (some (some p.2)) b) (zU F p.1 x)) l
def uK(x:SV)(l:List (SV×SV)):Option (Option SV):=qS (A8 F x l) x λb=>List.rec (some none) (λp _ ih=>qS (Option.rec none (λb=>Bool.rec ih (some (some p.2)) b) (zU F p.1 x)) p.1 λa=>Bool.rec ih (some (some p.2)) (uq a b)) l
theorem lF(x:SV)(l:List (SV×SV)):uK F x l=A8 F x l:=by
 cases x with
 |str y=>
  induction l with
  |nil=>rfl
  |cons p l i=>
   obtain⟨a,v⟩:=p;cases a with
   |str a=>exact Yd (λq=> @Bool.rec (λ_=>Option (Option SV)) q (some (some v)) (uq a y)) i
   |_=>first|rfl|exact i
 |_=>rfl
def Ez(x v:SV)(l:List (SV×SV)):Option (List (SV×SV)):=List.rec (some [(x,v)]) (λp r ih=>Option.rec none (λb=>Bool.rec (Option.rec none (λq=>some (p::q)) ih) (some ((p.1,v)::r)) b) (zU F p.1 x)) l
def Ig(x:SV)(l:List (SV×SV)):Option SV:=List.rec none (λp _ ih=>Bool.rec ih (some p.2) (p.1.beq x)) l
def AX(t u:Bool)(p q:SV):Option SV:=Bool.rec (Bool.rec none (some q) u) (some p) t
def binI(o:Op)(x:Nat)(c:Int)(y:Nat)(d:Int):Option SV:=match o with
 | .add=>AX (Nat.beq y 0) (Nat.beq x 0) (.int x (Int.add c d)) (.int y (Int.add c d))
 | .sub=>AX (Nat.beq y 0) (Nat.beq x y) (.int x (Int.sub c d)) (.int 0 (Int.sub c d))
 |_=>none
def EQ(o:Op)(a b:SV):Option SV:=match a with
 | .int x c=>qI none b λy d=>Bool.rec (binI o x c y d) ((rV o c d).map (.int 0)) (Nat.beq x 0&&Nat.beq y 0)
 | .str a=>qS none b λb=>gD (ol o&&Nat.ble (a.length+b.length) ay) (some (.str (a++b)))
 | .tup a=>qT none b λb=>gD (ol o&&Nat.ble (a.length+b.length) ay) (some (.tup (a++b)))
 |_=>none
def ny:Op->Nat
 | .add=>0| .sub=>1| .mul=>2| .fdiv=>3| .mod=>4| .shl=>5| .shr=>6| .band=>7
def I2(o:Op)(a b:SV):Option SV:=Option.rec (Option.rec none (λl=>wu a b l) (bK (ny o) F.op)) some (EQ o a b)
def Rl:Op->Bool
 | .add=>true
 | .sub=>true
 |_=>false
def I3(o:Op)(a b:SV):Option SV:=qI none a λ_ _=>qI none b λ_ _=>gD (Rl o) (EQ o a b)
def KH(x:Nat)(c:Int)(y:Nat)(d:Int):Option Bool:=OQ (KG F x c y d) (wu (.int x c) (.int y d) F.le)
def rl(l:List Nat):Bool:=List.rec true (λc _ ih=>Bool.rec false ih (Nat.blt c 1114112)) l
section
variable(S:fk)
def lsN(o:Option SO):Option (List SV):=o.bind λo=>jL none o λb vs=>bN none b (some vs)
mutual
def KW:Nat->SV->Bool
 |0,_=>false
 |n+1,v=>match v with
  | .none=>true
  | .bool _=>true
  | .int _ _=>true
  | .str l=>rl l
  | .atom _=>true
  | .tup vs=>EP n vs
  | .obj s j=>(lsN (S.get s j)).any λvs=>EP n vs
  |_=>false
def EP:Nat->List SV->Bool
 |0,_=>false
 |n+1,vs=>match vs with
  | []=>true
  |v::r=>KW n v&&EP n r
end
def Qu(r:List SV->List SV->Option Bool)(a b:SV):Option Bool:=match a with
 | .none=>qN none b (some true)
 | .bool x=>qB none b λy=>some (x==y)
 | .int x c=>qI none b λy d=>OQ (Iv F x c y d) (wu (.int x c) (.int y d) F.eq)
 | .str l=>qS (qA none b λj=>wu (.str l) (.atom j) F.eq) b λm=>some (uq l m)
 | .atom i=>qS (qA none b λj=>Bool.rec (wu (.atom i) (.atom j) F.eq) (some true) (Nat.beq i j)) b λm=>wu (.atom i) (.str m) F.eq
 | .tup as=>qT none b (r as)
 | .obj s j=>qO none b λt k=>(lsN (S.get s j)).bind λas=>(lsN (S.get t k)).bind λbs=>r as bs
 |_=>none
mutual
def Qt:Nat->SV->SV->Option Bool
 |0,_,_=>none
 |n+1,a,b=>Bool.rec (Qu F S (EN n) a b) (some false) (jr a b)
def EN:Nat->List SV->List SV->Option Bool
 |0,_,_=>none
 |n+1,a,b=>match a with
  | []=>some b.isEmpty
  |a::as=>match b with| []=>some false|b::bs=>I5 (Qt n a b) (EN n as bs)
end
def EM(a b:SV):Option Bool:=Bool.rec none (Qt F S 60 a b) (KW S 60 a&&KW S 60 b)
def eqv(a b:SV):Option Bool:=qI (EM F S a b) a λx c=>qI (EM F S a b) b λy d=>OQ (Iv F x c y d) (wu (.int x c) (.int y d) F.eq)
theorem J8(a b:SV):eqv F S a b=EM F S a b:=by cases a<;>first|rfl|(cases b<;>rfl)
noncomputable def IB:List SV->Option (List (List Nat))
 | []=>some []
 |v::r=>qS none v λl=>(IB r).map (l::·)
noncomputable def BX:SV->Bool
 | .int _ _=>true
 |_=>false
def mv:SV->Bool
 | .int _ _=>true
 | .tup vs=>vs.all BX
 |_=>false
def gJ:SV->Nat
 | .str _=>1
 | .int _ _=>2
 | .tup vs=>match vs.all mv with|true=>3|false=>4
 |_=>4
def mu(kd:Nat)(k:SV):Bool:=Nat.blt (gJ k) 4&&(Nat.beq kd (gJ k)||Nat.beq kd 0)
def Xh(b:Option Nat)(k:SV):Option (Option SV):=match b with
 |none=>some none
 |some b=>(bK b F.dt).bind λl=>(Ig k l).map some
def wS(b:Option Nat)(es:List (SV×SV))(k:SV):Option (Option SV):=Option.rec none (λr=>Option.rec (Xh F b k) (λv=>some (some v)) r) (uK F k es)
def qj:SV->Option Bool
 | .none=>some true
 | .any _=>none
 |_=>some false
def Bl(a b:SV):Option Bool:=qO none b λs j=>(S.get s j).bind λo=>jD none o λb kd es=>gD (mu kd a) ((wS F b es a).map (·.isSome))
def Tc(a b:SV):Option Bool:=match b with
 | .tup vs=>qS none a λl=>(IB vs).map λls=>ls.any λx=>uq x l
 | .glob g=>qI none a λx c=>gD (Nat.beq x 0) ((pt.table g).map λl=>l.contains c)
 |_=>Bl F S a b
def IW(o:o9)(a b:SV):Option Bool:= @o9.rec (λ_=>Fx->fk->SV->SV->Option Bool)
 (λF S a b=>eqv F S a b)
 (λF S a b=>(eqv F S a b).map not)
 (λF _ a b=>qI none a λx c=>qI none b λy d=>(KH F y d x c).map not)
 (λF _ a b=>qI none a λx c=>qI none b λy d=>KH F x c y d)
 (λF _ a b=>qI none a λx c=>qI none b λy d=>(KH F x c y d).map not)
 (λF _ a b=>qI none a λx c=>qI none b λy d=>KH F y d x c)
 (λ_ _ a b=>qN none b (qj a))
 (λ_ _ a b=>qN none b ((qj a).map not))
 (λF S a b=>Tc F S a b)
 (λF S a b=>(Bl F S a b).map not) o F S a b
end
def uE:SV->Option Bool
 | .bool b=>some b
 | .int x c=>(Iv F x c 0 0).map not
 |_=>none
def yr(v:SV):Option Nat:=qI none v λx c=>(GT F x).bind λp=>gD (zV p.1 p.2) (df (Int.add p.1 c))
def Au(b:Nat)(i:SV):Option Nat:=qI none i λx c=>(bK b F.bl).bind λl=>qI none l λy d=>gD (Nat.beq x y&&wv d c) (gD ((KG F 0 0 x c).any id&&(KG F x c 0 1000).any id) (some (Int.toNat (Int.sub c d))))
def Hr(b:Bs)(vs:List SV)(k:SV):Option SV:= @Bs.rec (λ_=>Option SV) ((yr F k).bind λn=>rC vs n)
 (λb=>Option.rec ((bK b F.it).bind λl=>Ig k l) (λn=>rC vs n) (Au F b k))
 (λb _ _=>(Au F b k).bind λn=>rC vs n) b
def Bb(S:fk)(a k:SV):Option SV:= @SV.rec (λ_=>Option SV) (λ_=>Unit) none (λ_=>none) (λ_ _=>none)
 (λl=>(yr F k).bind λn=>(rC l n).map λc=> .str [c]) (λ_=>none)
 (λvs _=>(yr F k).bind λn=>rC vs n)
 (λs j=>Option.rec none (λo=> @SO.rec (λ_=>Option SV) (λ_ _=>none) (λb vs=>Hr F b vs k) (λb kd es=>gD (mu kd k) (Option.rec none (λr=>r) (wS F b es k))) (λ_ _=>none) (λ_ _=>none) o) (S.get s j))
 (λ_=>none) (λ_ _=>none) (λ_=>none) () (λ_ _ _ _=>()) a
def I1:SV->Option (Option Nat)
 | .none=>some none
 | .int x c=>gD (Nat.beq x 0) ((df c).map some)
 |_=>none
end
inductive jZ where
 |next|ret(v:SV)
structure GX where
 e:Ex->MS SV
 b:Ex->MS Bool
 s:Sm->MS jZ
 c:Nat->List SV->MS SV
section
variable(F:Fx)
def AR(a k:SV):MS SV:=λS=>Option.rec .no (λv=> .ok v S) (Bb F S a k)
def IE(o:o9)(a b:SV):MS Bool:=λS=>Option.rec .no (λv=> .ok v S) (IW F S o a b)
def D4{α:Type}(a:SV)(f:Nat->Nat->SO->MS α):MS α:=qO c6 a λs j=>bin (gt s j) (f s j)
def o7{α β:Type}(o:Option α)(f:α->MS β):MS β:=Option.rec c6 f o
def OK{α β:Type}(o:Option α)(f:MS β):MS β:=Option.rec f (λ_=>c6) o
def iJ{β:Type}(b:Bool)(f:MS β):MS β:=Bool.rec c6 f b
def AU(a:SV)(x:Nat):MS SV:=D4 a λ_ _ o=> @SO.rec (λ_=>MS SV) (λc fs=>OK (pt.meth c x) (opt (bK x fs))) (λ_ _=>c6) (λ_ _ _=>c6) (λ_ _=>c6) (λc fs=>OK (pt.meth c x) (opt (bK x fs))) o
def mG(a:SV)(x:Nat)(v:SV):MS Unit:=D4 a λs j o=>jI c6 o λc fs=>iJ (Nat.ble (fp fs) mY&&jF c x) (pu F s j (.inst c (zQ x v fs)))
def G8(s j:Nat)(b:Bs)(vs:List SV)(k v:SV):MS Unit:=match b with
 | .nil=>o7 (yr F k) λn=>iJ (Nat.blt n (fp vs)) (pu F s j (.list .nil (LL v vs n)))
 | .var b=>o7 (bK b F.it) λl=>o7 (Ig k l) λ_=>pu F s j (.list (.set b k v) vs)
 | .set _ _ _=>c6
def sk(a k v:SV):MS Unit:=D4 a λs j o=>match o with
 | .list b vs=>G8 F s j b vs k v
 | .dict b kd es=>iJ (Nat.ble (fp es) 400&&mu kd k) (Option.rec (o7 (Ez F k v es) λes'=>pu F s j (.dict none (gJ k) es')) (λb=>pu F s j (.dict (some b) (gJ k) ((k,v)::es))) b)
 |_=>c6
def BI(s:Nat)(a l h:SV):MS SV:=o7 (I1 l) λlo=>o7 (I1 h) λhi=>match a with
 | .tup vs=>iJ (jq lo hi (fp vs)) (dv (.tup (cutL lo hi vs)))
 | .str cs=>iJ (jq lo hi (fp cs)) (dv (.str (cutL lo hi cs)))
 | .obj t j=>bin (gt t j) λo=>jL c6 o λb vs=>bN c6 b (iJ (Nat.ble (fp vs) ay) (nw F s (.list .nil (cutL lo hi vs))))
 |_=>c6
def Hb(a:SV)(x:Nat):MS GW:=D4 a λs j o=> @SO.rec (λ_=>MS GW) (λc fs=>OK (bK x fs) (iJ (!pt.isExc c) (o7 (pt.meth c x) λf=>dv (.own f))))
 (λ_ _=>Bool.rec (iJ (Nat.beq x Av) (dv .pop)) (dv .app) (Nat.beq x gc))
 (λ_ kd _=>iJ (Nat.beq x Aw&&Nat.blt kd 4) (dv .get)) (λ_ _=>c6) (λ_ _=>c6) o
def xf(a v:SV):MS SV:=D4 a λs j o=>jL c6 o λb vs=>iJ (Nat.ble (fp vs) 400) (bin (pu F s j (.list b (vs++ [v]))) λ_=>dv .none)
def AP(l:List SV):Option (List SV×SV):=List.rec none (λa r ih=>some (Option.rec ([],a) (λp=>(a::p.1,p.2)) ih)) l
def Hc(a:SV):MS SV:=D4 a λs j o=>jL c6 o λb vs=>bN c6 b (iJ (Nat.ble (fp vs) 400) (o7 (AP vs) λp=>bin (pu F s j (.list .nil p.1)) λ_=>dv p.2))
def AS(a k d:SV):MS SV:=D4 a λs j o=>jD c6 o λb kd es=>iJ (mu kd k) (o7 (wS F b es k) λr=>dv (Option.rec d (λv=>v) r))
def Md(b:Bs)(n:Nat):Option SV:=match b with
 | .nil=>some (.int 0 (.ofNat n))
 | .var b=>(bK b F.bl).bind λl=>qI none l λx c=>some (.int x (Int.add c (.ofNat n)))
 | .set b _ _=>(bK b F.bl).bind λl=>qI none l λx c=>some (.int x (Int.add c (.ofNat n)))
def LU(a:SV):MS SV:=match a with
 | .tup vs=>iJ (Nat.ble (fp vs) ay) (dv (.int 0 (.ofNat (fp vs))))
 | .obj s j=>bin (gt s j) λo=>jL c6 o λb vs=>iJ (Nat.ble (fp vs) 400) (o7 (Md F b (fp vs)) dv)
 |_=>c6
def LT(s:Nat)(vs:List SV):MS SV:=iJ (Nat.ble (fp vs) 400) (nw F s (.list .nil vs))
variable(ih:GX)
def rz(l:List Ex):MS (List SV):=List.rec (dv []) (λe _ r=>bin (ih.e e) λv=>bin r λvs=>dv (v::vs)) l
def BK(ks:List Ex)(vs:List Ex):MS (List (SV×SV)):=List.rec (λ_=>dv []) (λk _ r vs=>List.rec (dv []) (λv vs _=>bin (ih.e k) λa=>bin (ih.e v) λb=>bin (r vs) λq=>dv ((a,b)::q)) vs) ks vs
def pY(kd:Nat)(l:List (SV×SV)):Bool:=List.rec true (λp r t=>Nat.beq (gJ p.1) kd&&Nat.blt kd 3&&(uK F p.1 r).any (·.isNone)&&t) l
def wD:List (SV×SV)->Nat
 | []=>0
 |(k,_)::_=>gJ k
def Hh(o:SV)(kd:Nat)(ps:List (SV×SV)):MS Unit:=D4 o λs j ob=>jD c6 ob λb PX es=>iJ (b.isNone&&(Nat.beq PX 0&&es.isEmpty)) (pu F s j (.dict none kd ps))
def LX(l:List Ex):MS SV:=List.rec c6 (λe r q=>List.rec (ih.e e) (λ_ _ _=>bin (ih.e e) λv=>bin (opt (uE F v)) λt=>Bool.rec (dv v) q t) r) l
def Su(l:List Ex):MS SV:=List.rec c6 (λe r q=>List.rec (ih.e e) (λ_ _ _=>bin (ih.e e) λv=>bin (opt (uE F v)) λt=>Bool.rec q (dv v) t) r) l
def LY(l:List Ex):MS Bool:=List.rec (dv true) (λe _ q=>bin (ih.b e) λt=>Bool.rec (dv false) q t) l
def LW(l:List Ex):MS Bool:=List.rec (dv false) (λe _ q=>bin (ih.b e) λt=>Bool.rec q (dv true) t) l
def uY(a:SV)(os:List o9)(es:List Ex):MS Bool:=List.rec (λ_ _=>c6) (λo os r a es=>List.rec c6 (λe es _=>bin (ih.e e) λb=>bin (IE F o a b) λt=>List.rec (dv t) (λ_ _ _=>Bool.rec (dv false) (r b es) t) os) es) os a es
def Hf(mt:GW)(a:SV)(args:List SV):MS SV:= @GW.rec (λ_=>MS SV) (λf=>ih.c f (a::args))
 (List.rec c6 (λv r _=>iJ r.isEmpty (xf F a v)) args)
 (iJ args.isEmpty (Hc F a))
 (List.rec c6 (λk r _=>List.rec (AS F a k .none) (λd r _=>iJ r.isEmpty (AS F a k d)) r) args) mt
def AQ(c s f:Nat)(args:List SV):MS SV:=bin (nw F s (.inst c [])) λo=>bin (ih.c f (o::args)) λr=>qN c6 r (dv o)
def Hg(c s:Nat)(args:List SV):MS SV:=o7 (pt.init c) λo=>match o with
 |none=>iJ args.isEmpty (nw F s (.inst c []))
 |some f=>iJ (!pt.isExc c) (AQ F ih c s f args)
def AT(s:Nat)(ks vs:List Ex):MS SV:=bin (nw F s (.dict none 0 [])) λo=>bin (BK ih ks vs) λps=>iJ (pY F (wD ps) ps&&Nat.ble (fp ps) 16) (bin (Hh F o (wD ps) ps) λ_=>dv o)
def LR(s:Nat)(a b:Ex):MS SV:=bin (ih.e a) λx=>bin (ih.e b) λy=>o7 (yr F y) λn=>D4 x λ_ _ o=>jL c6 o λb vs=>bN c6 b (o7 (rQ vs) λv=>iJ (Nat.ble n ay) (nw F s (.list .nil (List.replicate n v))))
def LS(a:Ex):MS SV:=bin (ih.e a) λv=>qI c6 v λx c=>iJ (Nat.beq x 0) (dv (.int 0 (Int.neg c)))
def QW(o:Op)(a b:Ex):MS SV:=bin (ih.e a) λx=>bin (ih.e b) λy=>opt (I2 F o x y)
def QU(a:Ex):MS SV:=bin (ih.e a) λv=>bin (opt (uE F v)) λt=>dv (.bool (!t))
def MY(a:Ex)(os:List o9)(bs:List Ex):MS SV:=bin (ih.e a) λx=>bin (uY F ih x os bs) λt=>dv (.bool t)
def QV(c a b:Ex):MS SV:=bin (ih.b c) λt=>Bool.rec (ih.e b) (ih.e a) t
def sO(e:Option Ex):MS SV:=Option.rec (dv .none) ih.e e
def QT(a b:Ex):MS SV:=bin (ih.e a) λx=>bin (ih.e b) λy=>AR F x y
def Fz(s:Nat)(a:Ex)(lo hi:Option Ex):MS SV:=bin (ih.e a) λx=>bin (sO ih lo) λl=>bin (sO ih hi) λh=>BI F s x l h
def JB(o:Ex)(x:Nat)(args:List Ex):MS SV:=bin (ih.e o) λa=>bin (Hb a x) λmt=>bin (rz ih args) λvs=>Hf F ih mt a vs
def sE(e:Ex):MS SV:= @Ex.rec (λ_=>Fx->GX->MS SV) (λ_=>Unit) (λ_=>Unit)
 (λx _ _=>lo x)
 (λx _ _=>opt (Option.rec none (λv=>some (lS v)) (pt.const x)))
 (λv _ _=>dv (lS v))
 (λes _ F ih=>bin (rz ih es) λvs=>dv (.tup vs))
 (λs es _ F ih=>bin (rz ih es) λvs=>LT F s vs)
 (λs ks vs _ _ F ih=>AT F ih s ks vs)
 (λo a b _ _ F ih=>QW F ih o a b)
 (λs a b _ _ F ih=>LR F ih s a b)
 (λa _ F ih=>LS ih a)
 (λa _ F ih=>QU F ih a)
 (λes _ F ih=>LX F ih es)
 (λes _ F ih=>Su F ih es)
 (λa os bs _ _ F ih=>MY F ih a os bs)
 (λc a b _ _ _ F ih=>QV ih c a b)
 (λa x _ F ih=>bin (ih.e a) λv=>AU v x)
 (λa b _ _ F ih=>QT F ih a b)
 (λs a lo hi _ _ _ F ih=>Fz F ih s a lo hi)
 (λf args _ F ih=>bin (rz ih args) λvs=>ih.c f vs)
 (λc s args _ F ih=>bin (rz ih args) λvs=>Hg F ih c s vs)
 (λo x args _ _ F ih=>JB F ih o x args)
 (λa _ F ih=>bin (ih.e a) λv=>LU F v)
 (λ_ _=>c6)
 () (λ_ _ _ _=>()) () (λ_ _=>()) e F ih
def sT(e:Ex):MS Bool:= @Ex.rec (λ_=>GX->MS Bool->MS Bool) (λ_=>Unit) (λ_=>Unit)
 (λ_ _ d=>d)
 (λ_ _ d=>d)
 (λ_ _ d=>d)
 (λ_ _ _ d=>d)
 (λ_ _ _ _ d=>d)
 (λ_ _ _ _ _ _ d=>d)
 (λ_ _ _ _ _ _ d=>d)
 (λ_ _ _ _ _ _ d=>d)
 (λ_ _ _ d=>d)
 (λa _ ih _=>bin (ih.b a) λt=>dv (!t))
 (λes _ ih _=>LY ih es)
 (λes _ ih _=>LW ih es)
 (λa os bs _ _ ih _=>bin (ih.e a) λx=>uY F ih x os bs)
 (λc a b _ _ _ ih _=>bin (ih.b c) λt=>Bool.rec (ih.b b) (ih.b a) t)
 (λ_ _ _ _ d=>d)
 (λ_ _ _ _ _ d=>d)
 (λ_ _ _ _ _ _ _ _ d=>d)
 (λ_ _ _ _ d=>d)
 (λ_ _ _ _ _ d=>d)
 (λ_ _ _ _ _ _ d=>d)
 (λ_ _ _ d=>d)
 (λ_ d=>d)
 () (λ_ _ _ _=>()) () (λ_ _=>()) e ih (bin (ih.e e) λv=>opt (uE F v))
def dC(l:List Sm):MS jZ:=List.rec (dv .next) (λs _ r=>bin (ih.s s) λf=>jZ.rec r (λv=>dv (.ret v)) f) l
def mH(xs:List Nat)(vs:List SV):MS Unit:=List.rec (λvs=>List.rec (dv ()) (λ_ _ _=>c6) vs) (λx _ r vs=>List.rec c6 (λv vs _=>bin (bn x v) λ_=>r vs) vs) xs vs
def pZ(t:zZ)(v:SV):MS Unit:= @zZ.rec (λ_=>MS Unit) (λx=>bn x v)
 (λo x=>bin (ih.e o) λa=>mG F a x v)
 (λo i=>bin (ih.e o) λa=>bin (ih.e i) λk=>sk F a k v)
 (λxs=>qT c6 v (mH xs)) t
def mj{α:Type}(m:MS α):MS α:=λS=>O.rec .no (λa S'=> .ok a S') (λ_ _ _ _ _=> .no) (m S)
def G9(s j:Nat)(vs:List SV):MS Unit:=bin (gt s j) λo=>jL c6 o λb us=>bN c6 b (ask (SV.beqs us vs))
def wC(cy:MS Unit)(t:zZ)(b:List Sm)(l:List SV):MS jZ:=List.rec (dv .next) (λv _ r=>bin (pZ F ih t v) λ_=>bin (dC ih b) λf=>jZ.rec (bin cy λ_=>r) (λu=>dv (.ret u)) f) l
noncomputable def IS:List SV->Option (List V)
 | []=>some []
 |v::r=>qI none v λx c=>gD (Nat.beq x 0) ((IS r).map (.int c::·))
def AV{α:Type}(e:List (Nat×SV))(m:MS α):MS α:=λS=>O.rec .no (λa S'=> .ok a ⟨S'.hp,e⟩) (λ_ s j c S'=> .ex true s j c ⟨S'.hp,e⟩) (m S)
def BJ(c s j:Nat):MS jZ:=bin (gt s j) λo=>jI c6 o λc' fs=>iJ (pt.isExc c'&&(Nat.beq c c'&& !fs.isEmpty)) (bin (pu F s j (.gone c' fs)) λ_=>λS=> .ex false s j c' S)
def sm(c s:Nat)(args:List SV):MS SV:=o7 (pt.init c) λo=>o7 o λf=>iJ (pt.isExc c&&Nat.ble (fp args) ay) (AQ F ih c s f args)
def LQ(x:Nat)(h:MS jZ):MS jZ:=bin (mj h) λf S=> .ok f ⟨S.hp,Iy x S.env⟩
def FA(c x s j c':Nat)(h:MS jZ):MS jZ:=bin (gt s j) λo=>jG c6 o λLB fs=>iJ (Nat.beq c c'&&Nat.beq c' LB) (bin (pu F s j (.caught c fs)) λ_=>bin (bn x (.obj s j)) λ_=>LQ x h)
def ID(c x:Nat)(m:MS jZ)(h:MS jZ):MS jZ:=λS=>O.rec .no (λf S'=> .ok f S') (λje s j c' S'=>Bool.rec .no (FA F c x s j c' h S') je) (m S)
def He(t:zZ)(b:List Sm)(v:SV):MS jZ:=match v with
 | .tup vs=>mj (wC F ih (dv ()) t b vs)
 | .obj s j=>bin (gt s j) λo=>jL c6 o λbb vs=>bN c6 bb (iJ (Nat.ble (fp vs) ay) (mj (wC F ih (G9 s j vs) t b vs)))
 |_=>c6
def LV(t:zZ)(it:It)(b:List Sm):MS jZ:=match it with
  | .range args=>bin (rz ih args) λvs=>o7 (IS vs) λus=>o7 (f0 us) λl=>mj (wC F ih (dv ()) t b (lY l))
  | .over e=>bin (ih.e e) λv=>He F ih t b v
def MZ(x:Nat)(o:Op)(e:Ex):MS jZ:=bin (lo x) λa=>bin (ih.e e) λb=>bin (opt (I3 o a b)) λv=>bin (bn x v) λ_=>dv .next
def M0(a:Ex)(x:Nat)(o:Op)(e:Ex):MS jZ:=bin (ih.e a) λq=>bin (AU q x) λu=>bin (ih.e e) λb=>bin (opt (I3 o u b)) λv=>bin (mG F q x v) λ_=>dv .next
def Ss(c:Ex)(b:List Sm):MS jZ:=mj (bin (ih.b c) λt=>Bool.rec (dv .next) (bin (dC ih b) λf=>jZ.rec (ih.s (.wh c b)) (λv=>dv (.ret v)) f) t)
def xe(c s:Nat)(args:List Ex):MS jZ:=bin (rz ih args) λvs=>bin (sm F ih c s vs) λo=>qO c6 o (BJ F c)
def sS(s:Sm):MS jZ:= @Sm.rec (λ_=>Fx->GX->MS jZ) (λ_=>Unit)
 (λe F ih=>bin (ih.e e) λ_=>dv .next)
 (λt e F ih=>bin (ih.e e) λv=>bin (pZ F ih t v) λ_=>dv .next)
 (λx o e F ih=>MZ ih x o e)
 (λa x o e F ih=>M0 F ih a x o e)
 (λc t e _ _ F ih=>bin (ih.b c) λb=>Bool.rec (dC ih e) (dC ih t) b)
 (λc b _ F ih=>Ss ih c b)
 (λt it b _ F ih=>LV F ih t it b)
 (λo F ih=>Option.rec (dv (.ret .none)) (λe=>bin (ih.e e) λv=>dv (.ret v)) o)
 (λb c x h _ _ F ih=>ID F c x (dC ih b) (dC ih h))
 (λc s args F ih=>xe F ih c s args)
 (λ_ _=>c6)
 () (λ_ _ _ _=>()) s F ih
def Ep(xs:List Nat)(vs:List SV):Option (List (Nat×SV)):=List.rec (λvs=>List.rec (some []) (λ_ _ _=>none) vs) (λx _ r vs=>List.rec none (λv vs _=>Option.rec none (λq=>some ((x,v)::q)) (r vs)) vs) xs vs
def Pw(f:Nat)(args:List SV):MS SV:=Option.rec c6 (λfn=>Option.rec c6 (λenv=>bin ev λkU=>AV kU (bin (se env) λ_=>bin (dC ih fn.body) λr=>jZ.rec (dv .none) (λv=>dv v) r)) (Ep fn.params args)) (pt.fn f)
def OV(args:List SV)(l:List (List SV×SV)):Option SV:=List.rec none (λp _ ih=>Bool.rec ih (some p.2) (SV.beqs p.1 args)) l
def sC(n:Nat)(f:Nat)(args:List SV):MS SV:=Option.rec (Pw ih f args) (λl=>Option.rec (Pw ih f args) (λr=>bin (λS=>Bool.rec .no (.ok () S) (F.pre S&&Nat.ble F.cf n)) λ_=>dv r) (OV args l)) (bK f F.ca)
end
def pd(F:Fx)(n:Nat):GX:=Nat.rec ⟨λ_=>c6,λ_=>c6,λ_=>c6,λ_ _=>c6⟩ (λn ih=>⟨sE F ih,sT F ih,sS F ih,sC F ih (n+1)⟩) n
end
structure Ro where
 int:Nat->Int
 val:Nat->V
 str:Nat->List Nat
 base:Nat->List V
 dbase:Nat->List (V×V)
 ix:Nat->Nat->Nat
 len0:Nat->Nat
section
variable(ρ:Ro)
mutual
noncomputable def ah:SV->V
 | .none=> .none
 | .bool b=> .bool b
 | .int x c=> .int (ρ.int x+c)
 | .str l=> .str l
 | .atom n=> .str (ρ.str n)
 | .tup vs=> .tup (ax vs)
 | .obj s j=> .obj s (ρ.ix s j)
 | .glob a=> .glob a
 | .vo s i=> .obj s i
 | .any n=>ρ.val n
noncomputable def ax:List SV->List V
 | []=> []
 |v::r=>ah v::ax r
end
theorem dP:ax ρ []= []:=rfl
theorem c8(v:SV)(r:List SV):ax ρ (v::r)=ah ρ v::ax ρ r:=rfl
theorem Ix:ah ρ .none= .none:=rfl
theorem Ly(b:Bool):ah ρ (.bool b)= .bool b:=rfl
theorem lP(x:Nat)(c:Int):ah ρ (.int x c)= .int (ρ.int x+c):=rfl
theorem Ec(l:List Nat):ah ρ (.str l)= .str l:=rfl
theorem Iw(n:Nat):ah ρ (.atom n)= .str (ρ.str n):=rfl
theorem iE(l:List SV):ah ρ (.tup l)= .tup (ax ρ l):=rfl
theorem ur(s j:Nat):ah ρ (.obj s j)= .obj s (ρ.ix s j):=rfl
theorem Lx(a:Nat):ah ρ (.glob a)= .glob a:=rfl
theorem KR(s i:Nat):ah ρ (.vo s i)= .obj s i:=rfl
theorem KS(n:Nat):ah ρ (.any n)=ρ.val n:=rfl
noncomputable def bG:List (Nat×SV)->List (Nat×V)
 | []=> []
 |p::r=>(p.1,ah ρ p.2)::bG r
noncomputable def dc:List (SV×SV)->List (V×V)
 | []=> []
 |p::r=>(ah ρ p.1,ah ρ p.2)::dc r
def A2:V->Nat
 | .int i=>i.toNat
 |_=>0
def eD:Bs->List V
 | .nil=> []
 | .var b=>ρ.base b
 | .set b i v=>setNth (ah ρ v) (ρ.base b) (A2 (ah ρ i))
def over:List (SV×SV)->List (V×V)->List (V×V)
 | [],l=>l
 |p::r,l=>eX (ah ρ p.1) (ah ρ p.2) (over r l)
theorem Vy(l:List (V×V)):over ρ [] l=l:=rfl
theorem PB(p:SV×SV)(r:List (SV×SV))(l:List (V×V)):over ρ (p::r) l=eX (ah ρ p.1) (ah ρ p.2) (over ρ r l):=rfl
def gI:Option Nat->List (SV×SV)->List (V×V)
 |none,es=>dc ρ es
 |some b,es=>over ρ es (ρ.dbase b)
def aC:SO->bu
 | .inst c fs=> .inst c (bG ρ fs)
 | .list b vs=> .list (eD ρ b++ax ρ vs)
 | .dict b kd es=> .dict kd (gI ρ b es)
 | .gone c fs=> .gone c (bG ρ fs)
 | .caught c fs=> .caught c (bG ρ fs)
structure jY(F:Fx)(aI:St)(S:fk)(σ:St):Prop where
 env:σ.env=bG ρ S.env
 at_:∀s j o,S.get s j=some o->nth (σ.heap s) (ρ.ix s j)=some (aC ρ o)
 cnt:∀s L,S.hp.get s=some L->md F s≠4->(σ.heap s).length=ρ.len0 s+L.cnt
 fx:∀s,md F s≠4->LG (md F s)=false->(σ.heap s).length=(aI.heap s).length
 ro:∀s,xW (md F s)=false->∀i o,nth (aI.heap s) i=some o->nth (σ.heap s) i=some o
 inj:∀s j k a b,S.get s j=some a->S.get s k=some b->ρ.ix s j=ρ.ix s k->j=k
 fr:∀s i o,nth (aI.heap s) i=some o->(∀j,S.get s j≠none->ρ.ix s j≠i)->nth (σ.heap s) i=some o
 len:∀s,(aI.heap s).length<=(σ.heap s).length
structure dZ(F:Fx)(aI:St):Prop where
 z:ρ.int 0=0
 bd:∀x p,bK x F.bd=some p->p.1<=ρ.int x/\ρ.int x<=p.2
 st:∀n,rl (ρ.str n)=true
 bn:∀b,(ρ.base b).length<=500
 dn:∀b,(ρ.dbase b).length<=500
 bl:∀b v,bK b F.bl=some v->ah ρ v= .int ((ρ.base b).length:Nat)
 it:∀b l k v,bK b F.it=some l->Ig k l=some v->∃n:Nat,ah ρ k= .int n/\n<=500/\nth (ρ.base b) n=some (ah ρ v)
 dt:∀b l k v,bK b F.dt=some l->Ig k l=some v->aO (ah ρ k) (ρ.dbase b)=some (ah ρ v)
 op:∀o a b l v,bK (ny o) F.op=some l->wu a b l=some v->bZ o (ah ρ a) (ah ρ b)=some (ah ρ v)
 eq:∀a b t,wu a b F.eq=some t->(t=true↔ah ρ a=ah ρ b)
 le:∀a b t,wu a b F.le=some t->∀i j,ah ρ a= .int i->ah ρ b= .int j->t=decide (i<=j)
 nw:∀s k,ρ.ix s (1000+k)=ρ.len0 s+k
 l0:∀s,ρ.len0 s=(aI.heap s).length
 ca:∀f l args r,bK f F.ca=some l->OV args l=some r->∀S σ,jY ρ F aI S σ->F.pre S=true->∀m,F.cf<=m->∃σ',(run pt m).c f (ax ρ args) σ=some (.ok (ah ρ r),σ')/\jY ρ F aI S σ'
end
theorem bO(x:Nat)(p:Nat×α)(l:List (Nat×α)):bK x (p::l)=bif Nat.beq p.1 x then some p.2 else bK x l:=by
 dsimp only[bK];cases Nat.beq p.1 x<;>rfl
theorem sw(x:Nat)(v:α)(p:Nat×α)(l:List (Nat×α)):zQ x v (p::l)=bif Nat.beq p.1 x then(p.1,v)::l else p::zQ x v l:=by
 dsimp only[zQ];cases Nat.beq p.1 x<;>rfl
theorem DL(x:Nat)(p:Nat×α)(l:List (Nat×α)):Iy x (p::l)=bif Nat.beq p.1 x then Iy x l else p::Iy x l:=by
 dsimp only[Iy];cases Nat.beq p.1 x<;>rfl
theorem aB:Nat.beq a b=true↔a=b:=Nat.beq_eq ▸ Iff.rfl
theorem jh(h:Nat.beq a b=false):a≠b:=λe=>by rw[aB.mpr e]at h;exact ng h
theorem FP(x y:Nat)(v:α):∀l:List (Nat×α),bK y (zQ x v l)=bif Nat.beq x y then some v else bK y l:=by
 intro l
 induction l with
 |nil=>simp only[zQ,bO]
 |cons p l ih=>
  skip;rw[sw];refine cY (Nat.beq p.1 x) (λh=>?_) λh=>?_
  ·
   rw[h];simp only[Zl,bO,(aB.mp h)];cases Nat.beq x y<;>rfl
  ·
   rw[h];simp only[zai,bO,ih];refine cY (Nat.beq p.1 y) (λhy=>?_) λhy=>?_
   ·
    refine cY (Nat.beq x y) (λhx=>?_) λhx=>?_
    ·exact absurd ((aB.mp hy).trans (aB.mp hx).symm) (jh h)
    ·rw[hx];rfl
   ·rw[hy];rfl
noncomputable def dY {α:Type} (k:Nat):Tr α->Nat->Option α
 | .e,_=>none
 | .f q v,_=>bif Nat.beq q k then some v else none
 | .n l r,j=>bif Nat.beq (Nat.mod j 2) 0 then dY k l (Nat.div j 2)else dY k r (Nat.div j 2)
theorem X2(k j:Nat):dY k (.e:Tr α) j=none:=rfl
theorem GO(k q:Nat)(v:α)(j:Nat):dY k (.f q v) j=bif Nat.beq q k then some v else none:=rfl
theorem GN(k:Nat)(l r:Tr α)(j:Nat):dY k (.n l r) j=bif Nat.beq (Nat.mod j 2) 0 then dY k l (Nat.div j 2)else dY k r (Nat.div j 2):=rfl
noncomputable def kZ {α:Type} (k:Nat) (v:α):Tr α->Nat->Tr α
 | .e,_=> .e
 | .f q u,_=>bif Nat.beq q k then .f q v else .f q u
 | .n l r,j=>bif Nat.beq (Nat.mod j 2) 0 then .n (kZ k v l (Nat.div j 2)) r else .n l (kZ k v r (Nat.div j 2))
theorem XO(k:Nat)(v:α)(j:Nat):kZ k v .e j= .e:=rfl
theorem ON(k:Nat)(v:α)(q:Nat)(u:α)(j:Nat):kZ k v (.f q u) j=bif Nat.beq q k then .f q v else .f q u:=rfl
theorem OM(k:Nat)(v:α)(l r:Tr α)(j:Nat):kZ k v (.n l r) j=bif Nat.beq (Nat.mod j 2) 0 then .n (kZ k v l (Nat.div j 2)) r else .n l (kZ k v r (Nat.div j 2)):=rfl
theorem Tr.get_eq(t:Tr α)(k:Nat):t.get k=dY k t k:=by
 suffices h:∀(t:Tr α) (j:Nat),(Tr.rec (motive:=λ_=>Nat->Option α) (λ_=>none) (λq v _=>Bool.rec none (some v) (Nat.beq q k)) (λ_ _ il ir j=>Bool.rec (ir (Nat.div j 2)) (il (Nat.div j 2)) (Nat.beq (Nat.mod j 2) 0)) t:Nat->Option α) j=dY k t j from h t k
 intro t
 induction t with
 |e=>intro j;rfl
 |f q v=>intro j;simp only[GO];cases Nat.beq q k<;>rfl
 |n l r il ir=>intro j;simp only[GN,<-il,<-ir];cases Nat.beq (Nat.mod j 2) 0<;>rfl
theorem Tr.put_eq(t:Tr α)(k:Nat)(v:α):t.put k v=kZ k v t k:=by
 suffices h:∀(t:Tr α) (j:Nat),(Tr.rec (motive:=λ_=>Nat->Tr α) (λ_=> .e) (λq u _=>Bool.rec (.f q u) (.f q v) (Nat.beq q k)) (λl r il ir j=>Bool.rec (.n l (ir (Nat.div j 2))) (.n (il (Nat.div j 2)) r) (Nat.beq (Nat.mod j 2) 0)) t:Nat->Tr α) j=kZ k v t j from h t k
 intro t
 induction t with
 |e=>intro j;rfl
 |f q u=>intro j;simp only[ON];cases Nat.beq q k<;>rfl
 |n l r il ir=>intro j;simp only[OM,<-il,<-ir];cases Nat.beq (Nat.mod j 2) 0<;>rfl
theorem az(h:a≠b):Nat.beq a b=false:=by cases e:Nat.beq a b with|true=>exact absurd (aB.mp e) h|false=>rfl
theorem F6(k:Nat)(v:α):∀(t:Tr α) (j:Nat) (u:α),dY k t j=some u->dY k (kZ k v t j) j=some v:=by
 intro t
 induction t with
 |e=>intro _ _ h;exact nt h
 |f q w=>
  intro j u h;simp only[GO,ON]at h⊢;refine cY (Nat.beq q k) (λhq=>?_) λhq=>?_
  ·simp only[Zl,GO,hq]
  ·rw[hq]at h;exact nt h
 |n l r il ir=>
  intro j u h;simp only[GN,OM]at h⊢;cases hj:Nat.beq (Nat.mod j 2) 0 with
  |true=>rw[hj]at h;simp only[Zl,GN,hj];exact il _ u h
  |false=>rw[hj]at h;simp only[zai,GN,hj];exact ir _ u h
theorem Dn(k k':Nat)(v:α)(hk:k≠k'):∀(t:Tr α) (j j':Nat),dY k' (kZ k v t j) j'=dY k' t j':=by
 intro t
 induction t with
 |e=>intros;rfl
 |f q w=>
  intro j j';simp only[ON];refine cY (Nat.beq q k) (λhq=>?_) λhq=>?_
  ·rw[hq];have e:=aB.mp hq;subst e;simp only[Zl,GO,az hk,zai]
  ·rw[hq];rfl
 |n l r il ir=>
  intro j j';simp only[OM];cases hj:Nat.beq (Nat.mod j 2) 0 with
  |true=>
   dsimp only[cond_true,GN];cases Lq:Nat.beq (Nat.mod j' 2) 0 with
   |true=>exact il _ _
   |false=>rfl
  |false=>
   dsimp only[cond_false,GN];cases Lq:Nat.beq (Nat.mod j' 2) 0 with
   |true=>rfl
   |false=>exact ir _ _
theorem Tr.get_put{t:Tr α}(h:t.get k=some u):(t.put k v).get k=some v:=by
 rw[Tr.get_eq]at h⊢;rw[Tr.put_eq];exact F6 k v t k u h
theorem Tr.get_put_ne{t:Tr α}(hk:k≠k'):(t.put k v).get k'=t.get k':=by
 rw[Tr.get_eq,Tr.get_eq,Tr.put_eq];exact Dn k k' v hk t k k'
theorem fk.get_def(S:fk)(s j:Nat):S.get s j=match S.hp.get s with|some L=>bK j L.es|none=>none:=by
 unfold fk.get;cases S.hp.get s<;>rfl
section
variable{α β:Type}{ρ:Ro}{F:Fx}{aI:St}
def bg(ρ:Ro)(F:Fx)(aI:St)(d:α->β)(ms:MS α)(m:M β):Prop:=∀S σ,jY ρ F aI S σ->match ms S with
 | .no=>True
 | .ok a S'=>∃σ',m σ=some (.ok (d a),σ')/\jY ρ F aI S' σ'
 | .ex b s j c S'=>∃σ',m σ=some (.exc b s (ρ.ix s j) c,σ')/\jY ρ F aI S' σ'
theorem aD:bg ρ F aI d c6 m:=λ_ _ _=>trivial
theorem aq(h:d a=b):bg ρ F aI d (dv a) (M.pure b):=λS σ hs=>(al σ (by(refine(h) ▸?_);rfl) hs)
theorem Ce(m:MS α)(f:α->MS γ)(S:fk):bin m f S=match m S with| .no=> .no| .ok a S'=>f a S'| .ex b s j c S'=> .ex b s j c S':=by
 unfold bin;cases m S<;>rfl
theorem af{ms:MS α}(h:bg ρ F aI d ms m)(k:∀a,bg ρ F aI d' (f a) (g (d a))):bg ρ F aI d' (bin ms f) (M.bind m g):=by
 intro S σ hs;have h1:=h S σ hs;rw[Ce];cases e:ms S with
 |no=>trivial
 |ok a S'=>
  rw[e]at h1
  (refine U h1 λσ' e1 h2=>?_;clear h1)
  rw[M.bind,e1];exact(k a S' σ' h2)
 |ex b s j c S'=>
  rw[e]at h1
  (refine U h1 λσ' e1 h2=>?_;clear h1)
  exact(al σ' (by simp only[M.bind,e1]) h2)
theorem fU{o:Option α}{o':Option β}(h:∀a,o=some a->o'=some (d a)):bg ρ F aI d (opt o) (M.opt o'):=by
 intro S σ hs;cases o with
 |none=>trivial
 |some a=>exact(al σ (by simp only[M.opt,h a rfl]) hs)
theorem NF(s j:Nat)(S:fk):gt s j S=match S.get s j with|some o=> .ok o S|none=> .no:=by
 unfold gt;cases S.get s j<;>rfl
theorem iR:bg ρ F aI (aC ρ) (gt s j) (M.get s (ρ.ix s j)):=by
 intro S σ hs;rw[NF];refine dJ (S.get s j) (λe=>?_) λo e=>?_
 ·(refine(e).symm ▸?_);trivial
 ·(refine(e).symm ▸?_);exact(al σ (by simp only[M.get,St.get,hs.at_ s j o e]) hs)
end
theorem bo:∀{l:List α} {n:Nat} {a:α},nth l n=some a->n<l.length
 | [],_,_,h=>nomatch h
 |a::l,0,_,_=>zaA _
 |a::l,n+1,b,h=>Nat.succ_lt_succ (bo (l:=l) h)
theorem gm(b:α):∀{l:List α} {n:Nat} {a:α},nth l n=some a->nth (setNth b l n) n=some b
 | [],_,_,h=>nomatch h
 |a::l,0,_,_=>rfl
 |a::l,n+1,c,h=>gm b (l:=l) h
theorem eu(b:α):∀{l:List α} {n m:Nat},n≠m->nth (setNth b l n) m=nth l m
 | [],_,_,_=>rfl
 |a::l,0,0,h=>absurd rfl h
 |a::l,0,m+1,_=>rfl
 |a::l,n+1,0,_=>rfl
 |a::l,n+1,m+1,h=>eu b (l:=l) (λe=>h (Yd _ e))
theorem ia(b:α):∀(l:List α) (n:Nat),(setNth b l n).length=l.length
 | [],_=>rfl
 |a::l,0=>rfl
 |a::l,n+1=>Yd Nat.succ (ia b l n)
theorem eO:∀{l:List α} {n:Nat} {a:α} (r:List α),nth l n=some a->nth (l++r) n=some a
 | [],_,_,_,h=>nomatch h
 |a::l,0,_,_,h=>h
 |a::l,n+1,_,r,h=>eO (l:=l) r h
theorem b8:∀(l:List α) (n:Nat) (r:List α),nth (l++r) (l.length+n)=nth r n:=by
 intro l
 induction l with
 |nil=>intro n r;rw[zaJ,zaz];rfl
 |cons a l ih=>intro n r;rw[zaw,show l.length+1+n=(l.length+n)+1 by exact Za _ _ _];exact ih n r
section
variable{ρ:Ro}{F:Fx}{aI:St}
theorem jN(σ:St)(s i:Nat)(o:bu)(t:Nat):(σ.put s i o).heap t=bif Nat.beq t s then setNth o (σ.heap s) i else σ.heap t:=by
 unfold St.put;dsimp only;cases Nat.beq t s<;>rfl
theorem fF(σ:St)(s:Nat)(o:bu)(t:Nat):(σ.add s o).heap t=bif Nat.beq t s then σ.heap s++ [o]else σ.heap t:=by
 unfold St.add;dsimp only;cases Nat.beq t s<;>rfl
theorem M3(s j:Nat)(o:SO)(S:fk):pu F s j o S=match S.hp.get s with|some L=>(match bK j L.es with|some _=>(match(Nat.ble 1000 j||xW (md F s))with|true=> .ok () ⟨S.hp.put s ⟨L.cnt,zQ j o L.es⟩,S.env⟩|false=> .no)|none=> .no)|none=> .no:=by
 unfold pu;cases S.hp.get s with
 |none=>rfl
 |some L=>
  dsimp only;cases bK j L.es with
  |none=>rfl
  |some _=>dsimp only;cases(Nat.ble 1000 j||xW (md F s))<;>rfl
theorem Na(s:Nat)(o:SO)(S:fk):nw F s o S=match S.hp.get s with|some L=>(match LG (md F s)with|true=> .ok (.obj s (1000+L.cnt)) ⟨S.hp.put s ⟨L.cnt+1,(1000+L.cnt,o)::L.es⟩,S.env⟩|false=> .no)|none=> .no:=by
 unfold nw;cases S.hp.get s with
 |none=>rfl
 |some L=>cases LG (md F s)<;>rfl
theorem Jj(hf:dZ ρ F aI)(hm:aC ρ o=mo):bg ρ F aI id (pu F s j o) (M.put s (ρ.ix s j) mo):=by
 intro S σ hs;subst hm;rw[M3];refine dJ (S.hp.get s) (λe=>?_) λL e=>?_
 ·(refine(e).symm ▸?_);trivial
 ·
  rw[e];dsimp only;refine dJ (bK j L.es) (λe2=>?_) λo0 e2=>?_
  ·(refine(e2).symm ▸?_);trivial
  ·
   rw[e2];dsimp only;cases ew:(Nat.ble 1000 j||xW (md F s))with
   |false=>trivial
   |true=>
   have known:S.get s j=some o0:=by rw[(show∀k,S.get s k=bK k L.es fromλk=>by rw[fk.get_def,e]),e2]
   let z0:=fk.mk (S.hp.put s ⟨L.cnt,zQ j o L.es⟩) S.env
   have g1:∀k,z0.get s k=bif Nat.beq j k then some o else S.get s k:=λk=>by
    rw[fk.get_def];rw[Tr.get_put e];dsimp only;rw[FP,(show∀k,S.get s k=bK k L.es fromλk=>by rw[fk.get_def,e])]
   have g2:∀t k,t≠s->z0.get t k=S.get t k:=λt k ht=>by
    rw[fk.get_def,fk.get_def];rw[Tr.get_put_ne (ZC ht)]
   have g3:∀t k,z0.get t k≠none->S.get t k≠none:=λt k hn=>by
    by_cases ht:t=s
    ·subst ht;rw[g1]at hn;refine cY (Nat.beq j k) (λhj=>?_) λhj=>?_
     ·rw[<-aB.mp hj,known];exact nofun
     ·rw[hj]at hn;exact hn
    ·rw[g2 t k ht]at hn;exact hn
   have hl:∀t,((σ.put s (ρ.ix s j) (aC ρ o)).heap t).length=(σ.heap t).length:=λt=>by
    rw[jN];cases ht:Nat.beq t s with
    |true=>rw[Zl,ia,aB.mp ht]
    |false=>rfl
   refine⟨σ.put s (ρ.ix s j) (aC ρ o),rfl,hs.env,?_,?_,?_,?_,(λt a b x y ha hb he=>by
    obtain⟨x',hx⟩:=Option.ne_none_iff_exists'.mp (g3 t a (by rw[ha];exact nofun));obtain⟨y',hy⟩:=Option.ne_none_iff_exists'.mp (g3 t b (by rw[hb];exact nofun));exact hs.inj t a b _ _ hx hy he),?_,?_⟩
   ·intro t k o' ho;rw[jN];by_cases ht:t=s
    ·subst ht;rw[aB.mpr rfl,Zl];rw[g1]at ho;refine cY (Nat.beq j k) (λhj=>?_) λhj=>?_
     ·
      rw[hj]at ho;obtain rfl:=Yi ho
      (refine(aB.mp hj) ▸?_)
      exact gm _ (hs.at_ t j o0 known)
     ·
      rw[hj]at ho;rw[eu]
      ·exact hs.at_ t k o' ho
      ·intro he;exact jh hj (hs.inj t j k _ _ known ho he)
    ·(refine(az ht).symm ▸?_)
     rw[g2 t k ht]at ho;exact hs.at_ t k o' ho
   ·intro t L' hL hd;rw[hl];by_cases ht:t=s
    ·subst ht;rw[Tr.get_put e]at hL;obtain rfl:=Yi hL;exact hs.cnt t L e hd
    ·skip;rw[Tr.get_put_ne (ZC ht)]at hL;exact hs.cnt t L' hL hd
   ·intro t h4 ha;rw[hl];exact hs.fx t h4 ha
   ·intro t hw i o' ho;have h1:=hs.ro t hw i o' ho;rw[jN];by_cases ht:t=s
    ·subst ht;rw[hw,zaO]at ew;have hj:=Yg ew;have KK:ρ.ix t j=ρ.len0 t+(j - 1000):=by rw[<-hf.nw,show 1000+(j - 1000)=j by exact ZI ‹_›]
     have Rs:=bo ho;have Wr:=hf.l0 t;rw[aB.mpr rfl,Zl,eu _ (by rw[KK,Wr];exact Y9 (ZK _ Rs))];exact h1
    ·rw[az ht];exact h1
   ·intro t i o' ho hk
    have Qa:=λj' hn=>hk j' ((show∀t k,S.get t k≠none->z0.get t k≠none fromλt k hn=>by
    by_cases ht:t=s
    ·subst ht;rw[g1];cases hj:Nat.beq j k with
     |true=>exact nofun
     |false=>exact hn
    ·rw[g2 t k ht];exact hn) t j' hn)
    rw[jN];by_cases ht:t=s
    ·subst ht;rw[aB.mpr rfl,Zl,eu _ (Qa j (by rw[known];exact nofun))];exact hs.fr t i o' ho Qa
    ·rw[az ht];exact hs.fr t i o' ho Qa
   ·intro t;rw[hl];exact hs.len t
theorem j5(hf:dZ ρ F aI){s:Nat}(hm:aC ρ o=mo):bg ρ F aI (ah ρ) (nw F s o) (M.new s mo):=by
 intro S σ hs;subst hm;rw[Na];refine dJ (S.hp.get s) (λe=>?_) λL e=>?_
 ·(refine(e).symm ▸?_);trivial
 ·
  (refine(e).symm ▸?_)
  cases ed:LG (md F s)with
  |false=>trivial
  |true=>
   have h4:md F s≠4:=λh=>by rw[h]at ed;exact nf ed
   have ef:=hs.cnt s L e h4;have KK:ρ.ix s (1000+L.cnt)=(σ.heap s).length:=by rw[hf.nw,ef]
   let z0:=fk.mk (S.hp.put s ⟨L.cnt+1,(1000+L.cnt,o)::L.es⟩) S.env
   have g1:∀k,z0.get s k=bif Nat.beq (1000+L.cnt) k then some o else S.get s k:=λk=>by
    rw[fk.get_def];rw[Tr.get_put e];dsimp only;rw[bO,(show∀k,S.get s k=bK k L.es fromλk=>by rw[fk.get_def,e])]
   have g2:∀t k,t≠s->z0.get t k=S.get t k:=λt k ht=>by
    rw[fk.get_def,fk.get_def];rw[Tr.get_put_ne (ZC ht)]
   refine⟨σ.add s (aC ρ o),by simp only[M.new,ur,KK],hs.env,?_,?_,?_,?_,?_,?_,?_⟩
   ·intro t k o' ho;rw[fF];by_cases ht:t=s
    ·subst ht;rw[aB.mpr rfl,Zl];rw[g1]at ho;refine cY (Nat.beq (1000+L.cnt) k) (λhj=>?_) λhj=>?_
     ·
      rw[hj]at ho;obtain rfl:=Yi ho
      (refine(aB.mp hj) ▸?_;refine(KK).symm ▸?_)
      exact b8 _ 0 _
     ·
      rw[hj]at ho;exact eO _ (hs.at_ t k o' ho)
    ·rw[az ht];rw[g2 t k ht]at ho;exact hs.at_ t k o' ho
   ·intro t L' hL hd;rw[fF];by_cases ht:t=s
    ·subst ht;rw[Tr.get_put e]at hL;obtain rfl:=Yi hL;rw[aB.mpr rfl,Zl,Yz,ef];rfl
    ·skip;rw[Tr.get_put_ne (ZC ht)]at hL;rw[az ht];exact hs.cnt t L' hL hd
   ·intro t h4 ha;rw[fF];by_cases ht:t=s
    ·subst ht;rw[ed]at ha;exact ng ha
    ·rw[az ht];exact hs.fx t h4 ha
   ·intro t hw i o' ho;have h1:=hs.ro t hw i o' ho;rw[fF];by_cases ht:t=s
    ·subst ht;rw[aB.mpr rfl,Zl];exact eO _ h1
    ·(refine(az ht).symm ▸?_);exact h1
   ·intro t a b x y ha hb he;by_cases ht:t=s
    ·subst ht;rw[g1]at ha hb;refine cY (Nat.beq (1000+L.cnt) a) (λh1=>?_) λh1=>?_
     ·
      cases h2:Nat.beq (1000+L.cnt) b with
      |true=>exact(aB.mp h1).symm.trans (aB.mp h2)
      |false=>
       rw[h2]at hb;have:=bo (hs.at_ t b y hb);rw[<-he,<-aB.mp h1,KK]at this;exact absurd this (Zh _)
     ·
      rw[h1]at ha;cases h2:Nat.beq (1000+L.cnt) b with
      |true=>
       have:=bo (hs.at_ t a x ha);rw[he,<-aB.mp h2,KK]at this;exact absurd this (Zh _)
      |false=>rw[h2]at hb;exact hs.inj t a b x y ha hb he
    ·rw[g2 t a ht]at ha;rw[g2 t b ht]at hb;exact hs.inj t a b x y ha hb he
   ·intro t i o' ho hk
    have:=hs.fr t i o' ho (λj' hn=>hk j' ((show∀t k,S.get t k≠none->z0.get t k≠none fromλt k hn=>by
    by_cases ht:t=s
    ·subst ht;rw[g1];cases hj:Nat.beq (1000+L.cnt) k with
     |true=>exact nofun
     |false=>exact hn
    ·rw[g2 t k ht];exact hn) t j' hn))
    rw[fF];by_cases ht:t=s
    ·subst ht;rw[aB.mpr rfl,Zl];exact eO _ this
    ·(refine(az ht).symm ▸?_);exact this
   ·intro t;rw[fF];have:=hs.len t;by_cases ht:t=s
    ·subst ht;rw[aB.mpr rfl,Zl,Yz];exact Y7 ‹_›
    ·(refine(az ht).symm ▸?_);exact this
end
theorem eP:zV a b=true↔a=b:=by
 cases a with
 |ofNat n=>
  cases b with
  |ofNat m=>exact⟨λh=>Yd Int.ofNat (aB.mp h),λh=>aB.mpr (Int.ofNat.inj h)⟩
  |negSucc m=>exact⟨λh=>nf h,λh=>nomatch h⟩
 |negSucc n=>
  cases b with
  |ofNat m=>exact⟨λh=>nf h,λh=>nomatch h⟩
  |negSucc m=>exact⟨λh=>Yd Int.negSucc (aB.mp h),λh=>aB.mpr (Int.negSucc.inj h)⟩
theorem gh:wv a b=true↔a<=b:=by
 cases a<;>cases b<;>dsimp only[wv]
 all_goals simp only[Nat.ble_eq,Bool.false_eq_true,false_iff,true_iff,Int.ofNat_eq_natCast]
 all_goals lia
theorem zn(h:wv a b=false):b<a:=Z7.mp λe=>ZX (h.symm.trans (gh.mpr e))
theorem ib:∀{b:List Nat},uq a b=true↔a=b:=by
 induction a with
 |nil=>
  intro b;cases b with
  |nil=>exact⟨λ_=>rfl,λ_=>rfl⟩
  |cons _ _=>exact⟨λh=>nf h,λh=>nomatch h⟩
 |cons x a i=>
  intro b;cases b with
  |nil=>exact⟨λh=>nf h,λh=>nomatch h⟩
  |cons y b=>
   have e:uq (x::a) (y::b)=bif Nat.beq x y then uq a b else false:=by
    show(Bool.rec false (uq a b) (Nat.beq x y):Bool)=_;cases Nat.beq x y<;>rfl
   (refine(e).symm ▸?_)
   cases h:Nat.beq x y with
   |true=>rw[aB.mp h];exact⟨λh=>Yd _ (i.mp h),λh=>i.mpr (Z9 h).2⟩
   |false=>exact⟨λh=>nf h,λe=>absurd (Z9 e).1 (jh h)⟩
theorem jA(l:List α):∀n:Nat,rC l n=nth l n:=by
 induction l with
 |nil=>intro n;rfl
 |cons a l i=>intro n;cases n;rfl;exact i _
theorem Fu(b:α)(l:List α):∀n:Nat,LL b l n=setNth b l n:=by
 induction l with
 |nil=>intro n;rfl
 |cons a l i=>intro n;cases n;rfl;exact Yd (a::·) (i _)
theorem cX(l:List α):fp l=l.length:=by
 induction l with
 |nil=>rfl
 |cons a l i=>exact Yd Nat.succ i
theorem vV(x y:Nat)(v:α)(r:List (Nat×α)):aN x ((y,v)::r)=bif Nat.beq y x then some v else aN x r:=by
 show(match Nat.beq y x with|true=>some v|false=>aN x r)=_;cases Nat.beq y x<;>rfl
theorem bD(x y v:V)(r:List (V×V)):aO x ((y,v)::r)=bif y.beq x then some v else aO x r:=by
 show(match y.beq x with|true=>some v|false=>aO x r)=_;cases y.beq x<;>rfl
section
variable{ρ:Ro}
theorem cU(l:List SV):(ax ρ l).length=l.length:=by
 induction l with
 |nil=>rfl
 |cons a l i=>exact Yd Nat.succ i
theorem jQ:∀{n:Nat},nth l n=some v->nth (ax ρ l) n=some (ah ρ v):=by
 induction l with
 |nil=>intro n h;exact nt h
 |cons a l i=>
  intro n h;cases n with
  |zero=>exact Yd (some<|ah ρ ·) (si h)
  |succ n=>exact i h
theorem mP(a b:List SV):ax ρ (a++b)=ax ρ a++ax ρ b:=by
 induction a with
 |nil=>rfl
 |cons x a i=>exact Yd (ah ρ x::·) i
theorem oY(a:List SV):∀n:Nat,ax ρ (a.take n)=(ax ρ a).take n:=by
 induction a with
 |nil=>intro n;cases n<;>rfl
 |cons x a i=>intro n;cases n;rfl;exact Yd (ah ρ x::·) (i _)
theorem oZ(a:List SV):∀n:Nat,ax ρ (a.drop n)=(ax ρ a).drop n:=by
 induction a with
 |nil=>intro n;cases n<;>rfl
 |cons x a i=>intro n;cases n;rfl;exact i _
theorem sX(lo hi:Option Nat)(a:List SV):ax ρ (cutL lo hi a)=cutL lo hi (ax ρ a):=by
 cases lo with
 |none=>
  cases hi with
  |none=>rfl
  |some h=>exact oY a h
 |some d=>
  cases hi with
  |none=>exact oZ a d
  |some h=>exact(oZ _ d).trans (Yd (List.drop d) (oY a h))
theorem DO(v:SV)(a:List SV):∀n:Nat,ax ρ (setNth v a n)=setNth (ah ρ v) (ax ρ a) n:=by
 induction a with
 |nil=>intro n;rfl
 |cons x a i=>intro n;cases n;rfl;exact Yd (ah ρ x::·) (i _)
theorem DP(v:SV)(n:Nat):ax ρ (List.replicate n v)=List.replicate n (ah ρ v):=by
 induction n with
 |zero=>rfl
 |succ n i=>exact Yd (ah ρ v::·) i
theorem ky(x:Nat)(l:List (Nat×SV)):aN x (bG ρ l)=(bK x l).map (ah ρ):=by
 induction l with
 |nil=>rfl
 |cons p l i=>
  rw[bO,bG,vV];cases Nat.beq p.1 x with
  |true=>rfl
  |false=>exact i
theorem sY(x:Nat)(v:SV)(l:List (Nat×SV)):putN x (ah ρ v) (bG ρ l)=bG ρ (zQ x v l):=by
 induction l with
 |nil=>rfl
 |cons p l i=>
  rw[sw,bG,OL];cases Nat.beq p.1 x with
  |true=>rfl
  |false=>exact Yd (_::·) i
theorem DR(x:Nat)(l:List (Nat×SV)):lb x (bG ρ l)=bG ρ (Iy x l):=by
 induction l with
 |nil=>rfl
 |cons p l i=>
  rw[DL,bG,TP];cases Nat.beq p.1 x with
  |true=>exact i
  |false=>exact Yd (_::·) i
theorem DQ(l:List (Nat×SV)):(bG ρ l).length=l.length:=by
 induction l with
 |nil=>rfl
 |cons p l i=>exact Yd Nat.succ i
theorem jR(l:List (SV×SV)):(dc ρ l).length=l.length:=by
 induction l with
 |nil=>rfl
 |cons p l i=>exact Yd Nat.succ i
theorem ft(h:b=true):false≠b:=λe=>ZX (e.trans h)
theorem beq_eq(h:SV.beq a b=true):a=b:=by
 refine SV.rec (motive_1:=λa=>∀b,SV.beq a b=true->a=b) (motive_2:=λa=>∀b,SV.beqs a b=true->a=b) ?_ ?_ ?_ ?_ ?_ ?_ ?_ ?_ ?_ ?_ ?_ ?_ a b h
 ·intro b h;exact(Ey h (ft rfl)).1.symm
 ·intro x b h;refine U (LZ h (ft rfl)) λy q2 h=>?_;subst q2;rw[eq_of_beq h]
 ·intro x c b h;refine bS (jg h (ft rfl)) λy d q3 h=>?_;subst q3;rw[aB.mp (an h).1,eP.mp (an h).2]
 ·intro l b h;refine U (At h (ft rfl)) λm q2 h=>?_;subst q2;rw[ib.mp h]
 ·intro n b h;obtain⟨m,rfl,h⟩:=Q3 h (ft rfl);rw[aB.mp h]
 ·intro vs i b h;refine U (Ew h (ft rfl)) λws q2 h=>?_;subst q2;rw[i _ h]
 ·intro s j b h;refine bS (IG h (ft rfl)) λt k q3 h=>?_;subst q3;rw[aB.mp (an h).1,aB.mp (an h).2]
 ·intro a b h;obtain⟨m,rfl,h⟩:=Q2 h (ft rfl);rw[aB.mp h]
 ·intro s i b h;exact nf h
 ·intro n b h;obtain⟨m,rfl,h⟩:=Q1 h (ft rfl);rw[aB.mp h]
 ·intro b h;exact(YF.mp h).symm
 ·intro a as i1 i2 b h;cases b with
  |nil=>exact nf h
  |cons b bs=>rw[i1 _ (an h).1,i2 _ (an h).2]
theorem qt:∀{a b:List SV},SV.beqs a b=true->a=b:=by
 intro a
 induction a with
 |nil=>intro b h;exact(YF.mp h).symm
 |cons x a i=>
  intro b h;cases b with
  |nil=>exact nf h
  |cons y b=>rw[beq_eq (an h).1,i (an h).2]
theorem fw:V.beq a b=true↔a=b:=V.beq_iff
theorem iX(h:a≠b):V.beq a b=false:=by
 cases e:V.beq a b with
 |true=>exact absurd (fw.mp e) h
 |false=>rfl
mutual
theorem mQ:∀v:V,ρ.int 0=0->ah ρ (lS v)=v
 | .none,_=>rfl
 | .bool _,_=>rfl
 | .int i,h=>by simp only[VW,lP,h,YV]
 | .str _,_=>rfl
 | .tup vs,h=>by simp only[VV,iE,jb vs h]
 | .obj _ _,_=>rfl
 | .glob _,_=>rfl
theorem jb:∀vs:List V,ρ.int 0=0->ax ρ (lY vs)=vs
 | [],_=>rfl
 |v::r,h=>by simp only[lY,c8,mQ v h,jb r h]
end
variable{F:Fx}{aI:St}(hf:dZ ρ F aI)
include hf
theorem gO(h:GT F x=some p):p.1<=ρ.int x/\ρ.int x<=p.2:=by
 unfold GT at h;refine cY (Nat.beq x 0) (λe=>?_) λe=>?_
 ·
  rw[e]at h;obtain rfl:=Yi h;rw[aB.mp e,hf.z];exact⟨Y8 _,Y8 _⟩
 ·rw[e]at h;exact hf.bd x p h
omit hf in
theorem vb{a b c d e f:Int}(h1:a<=b)(h2:b+c+1<=d+e)(h3:d<=f):a+c<f+e:=Int.lt_of_lt_of_le (ZW (Zk h1 c) h2) (Zk h3 e)
theorem BU(h:KG F x c y d=some t):t=decide (ρ.int x+c<=ρ.int y+d):=by
 unfold KG at h;refine cY (Nat.beq x y) (λe=>?_) λe=>?_
 ·
  rw[e]at h;obtain rfl:=si h
  (refine(aB.mp e).symm ▸?_)
  cases hi:wv c d with
  |true=>exact(YI (Int.add_le_add_left (gh.mp hi) _)).symm
  |false=>exact(YS (Z7.mpr (Int.add_lt_add_left (zn hi) _))).symm
 ·
  rw[e]at h;refine U (ob h) λp h1 h=>?_;refine U (ob h) λq h2 h=>?_;refine cY (wv (Int.add p.2 c) (Int.add q.1 d)) (λi1=>?_) λi1=>?_
  ·
   rw[i1]at h;obtain rfl:=si h;exact(YI (YL (Zk (gO hf h1).2 c) (YL (gh.mp i1) (Zk (gO hf h2).1 d)))).symm
  ·
   rw[i1]at h;refine cY (wv (Int.add (Int.add q.2 d) 1) (Int.add p.1 c)) (λi2=>?_) λi2=>?_
   ·
    rw[i2]at h;obtain rfl:=si h;exact(YS (Z7.mpr (vb (gO hf h2).2 (gh.mp i2) (gO hf h1).1))).symm
   ·rw[i2]at h;exact nt h
theorem vj(h:Iv F x c y d=some t):t=decide (ρ.int x+c=ρ.int y+d):=by
 unfold Iv at h;refine cY (Nat.beq x y) (λe=>?_) λe=>?_
 ·
  rw[e]at h;obtain rfl:=si h
  (refine(aB.mp e).symm ▸?_)
  cases hi:zV c d with
  |true=>rw[eP.mp hi];exact(YI rfl).symm
  |false=>exact(YS λq=>ZX (hi.symm.trans (eP.mpr (Int.add_left_cancel q)))).symm
 ·
  rw[e]at h;refine U (ob (show(GT F x).bind _=some t from h)) λp h1 h=>?_;refine U (ob h) λq h2 h=>?_;have b1:=gO hf h1;have b2:=gO hf h2;refine cY (wv (Int.add (Int.add p.2 c) 1) (Int.add q.1 d)) (λi1=>?_) λi1=>?_
  ·
   rw[i1]at h;obtain rfl:=si h;exact(YS (Int.ne_of_lt (vb b1.2 (gh.mp i1) b2.1))).symm
  ·
   rw[i1]at h;refine cY (wv (Int.add (Int.add q.2 d) 1) (Int.add p.1 c)) (λi2=>?_) λi2=>?_
   ·
    rw[i2]at h;obtain rfl:=si h;exact(YS (Int.ne_of_gt (vb b2.2 (gh.mp i2) b1.1))).symm
   ·
    rw[i2]at h;refine cY ((zV p.1 p.2&&(zV q.1 q.2&&zV (Int.add p.1 c) (Int.add q.1 d)))) (λi3=>?_) λi3=>?_
    ·
     rw[i3]at h;obtain rfl:=si h
     (refine(Int.le_antisymm ((eP.mp (an i3).1) ▸ b1.2) b1.1).symm ▸?_;refine(Int.le_antisymm ((eP.mp (an (an i3).2).1) ▸ b2.2) b2.1).symm ▸?_)
     exact(YI (eP.mp (an (an i3).2).2)).symm
    ·rw[i3]at h;exact nt h
theorem pE(h:KH F x c y d=some t):t=decide (ρ.int x+c<=ρ.int y+d):=by
 unfold KH OQ at h;cases e:KG F x c y d with
 |some u=>rw[e]at h;exact si h ▸ BU hf e
 |none=>rw[e]at h;exact hf.le _ _ t h _ _ rfl rfl
omit hf in
theorem o5(h:I5 o p=some t):(o=some false/\t=false)\/(o=some true/\p=some t):=by
 cases o with
 |none=>exact nt h
 |some b=>cases b with
  |false=>obtain rfl:=Yi h;exact .inl ⟨rfl,rfl⟩
  |true=>exact .inr ⟨rfl,h⟩
omit hf in
theorem o4(h:jr a b=true):tg a≠0/\tg b≠0/\tg a≠tg b:=by
 unfold jr at h;refine cY (Nat.beq (tg a) 0) (λe1=>?_) λe1=>?_
 ·rw[e1]at h;exact nf h
 ·
  refine cY (Nat.beq (tg b) 0) (λe2=>?_) λe2=>?_
  ·rw[e1,e2]at h;exact nf h
  ·
   refine cY (Nat.beq (tg a) (tg b)) (λe3=>?_) λe3=>?_
   ·rw[e1,e2,e3]at h;exact nf h
   ·exact⟨jh e1,jh e2,jh e3⟩
def vt:V->Nat
 | .none=>1
 | .int _=>2
 | .str _=>3
 | .tup _=>4
 |_=>0
omit hf in
theorem pi(h:tg a≠0):vt (ah ρ a)=tg a:=by
 cases a<;>first|rfl|exact absurd rfl h
omit hf in
theorem Gw(h:jr a b=true):V.beq (ah ρ a) (ah ρ b)=false:=
 have i:=o4 h
 iX λe=>i.2.2 ((pi i.1).symm.trans ((Yd vt e).trans (pi i.2.1)))
omit hf in
theorem Bp(h:LE a b o=some t)(k:o=some t->V.beq (ah ρ a) (ah ρ b)=t):V.beq (ah ρ a) (ah ρ b)=t:=by
 unfold LE at h;refine cY (jr a b) (λe=>?_) λe=>?_
 ·rw[e]at h;exact(Gw e).trans (si h)
 ·rw[e]at h;exact k h
omit hf in
theorem xG:decide (a=b)=uq a b:=by
 cases e:uq a b with
 |true=>exact YI (ib.mp e)
 |false=>exact YS λx=>ZX (e.symm.trans (ib.mpr x))
theorem jB(h:zU F a b=some t):V.beq (ah ρ a) (ah ρ b)=t:=by
 refine SV.rec (motive_1:=λa=>∀b t,zU F a b=some t->V.beq (ah ρ a) (ah ρ b)=t) (motive_2:=λa=>∀b t,Rg F a b=some t->V.beqs (ax ρ a) (ax ρ b)=t) ?_ ?_ ?_ ?_ ?_ ?_ ?_ ?_ ?_ ?_ ?_ ?_ a b t h
 ·intro b t h;exact nt h
 ·intro _ b t h;exact nt h
 ·intro x c b t h;exact Bp h λg=>by(refine bS (jg g nn) λy d q3 g=>?_;subst q3);exact(vj hf g).symm
 ·intro a b t h;exact Bp h λg=>by(refine U (At g nn) λc q2 g=>?_;subst q2);exact xG.trans (si g)
 ·intro _ b t h;exact nt h
 ·intro a i b t h;exact Bp h λg=>by(refine U (Ew g nn) λc q2 g=>?_;subst q2);exact i _ _ g
 ·intro _ _ b t h;exact nt h
 ·intro _ b t h;exact nt h
 ·intro _ _ b t h;exact nt h
 ·intro _ b t h;exact nt h
 ·intro b t h;cases b<;>exact si h
 ·intro a as i1 i2 b t h;cases b with
  |nil=>exact si h
  |cons b bs=>
   show((ah ρ a).beq (ah ρ b)&&V.beqs (ax ρ as) (ax ρ bs))=t;refine(o5 h).elim (λq=>?_) λq=>?_
   ·obtain⟨h1,rfl⟩:=q;rw[i1 _ _ h1];rfl
   ·rw[i1 _ _ q.1,i2 _ _ q.2];rfl
omit hf in
theorem BS(h:uK F x (p::l)=some r):(zU F p.1 x=some true/\r=some p.2)\/(zU F p.1 x=some false/\uK F x l=some r):=by
 rw[lF]at h;have h: @Option.rec Bool (λ_=>Option (Option SV)) none (λb=>Bool.rec (A8 F x l) (some (some p.2)) b) (zU F p.1 x)=some r:=h;refine dJ (zU F p.1 x) (λe=>?_) λb e=>?_
 ·rw[e]at h;exact nt h
 ·
  (refine(e).symm ▸?_)
  rw[e]at h;cases b with
  |true=>exact .inl ⟨rfl,(si h).symm⟩
  |false=>exact .inr ⟨rfl,by rw[lF];exact h⟩
theorem qf(h:uK F x l=some r):aO (ah ρ x) (dc ρ l)=r.map (ah ρ):=by
 induction l with
 |nil=>rw[lF]at h;obtain rfl:=si h;rfl
 |cons p l i=>
  rw[dc,bD];refine(BS h).elim (λq=>?_) λq=>?_
  ·obtain⟨e,rfl⟩:=q;rw[jB hf e];rfl
  ·(refine(jB hf q.1).symm ▸?_);exact i q.2
theorem FD:∀{q:List (SV×SV)},Ez F x v l=some q->eX (ah ρ x) (ah ρ v) (dc ρ l)=dc ρ q:=by
 induction l with
 |nil=>intro q h;obtain rfl:=si h;rfl
 |cons p l i=>
  intro q h;have h: @Option.rec Bool (λ_=>Option (List (SV×SV))) none (λb=>Bool.rec (Option.rec none (λq=>some (p::q)) (Ez F x v l)) (some ((p.1,v)::l)) b) (zU F p.1 x)=some q:=h;rw[dc,K8];refine dJ (zU F p.1 x) (λe=>?_) λb e=>?_
  ·rw[e]at h;exact nt h
  ·
   rw[e]at h
   (refine(jB hf e).symm ▸?_)
   cases b with
   |true=>obtain rfl:=si h;rfl
   |false=>
    refine dJ (Ez F x v l) (λe2=>?_) λq' e2=>?_
    ·rw[e2]at h;exact nt h
    ·rw[e2]at h;obtain rfl:=si h;exact Yd (_::·) (i e2)
omit hf in
theorem vU(x y v:V)(l:List (V×V)):aO y (eX x v l)=bif x.beq y then some v else aO y l:=by
 induction l with
 |nil=>exact bD ..
 |cons p l i=>
  rw[K8];refine cY (p.1.beq x) (λe=>?_) λe=>?_
  ·
   rw[e];rw[bD,bD,fw.mp e];cases x.beq y<;>rfl
  ·
   rw[e];rw[bD,bD,i];refine cY (p.1.beq y) (λe2=>?_) λe2=>?_
   ·
    refine cY (x.beq y) (λe3=>?_) λe3=>?_
    ·exact nf (e.symm.trans (fw.mpr ((fw.mp e2).trans (fw.mp e3).symm)))
    ·rw[e3];rfl
   ·rw[e2];rfl
theorem oP(h:uK F x l=some r):aO (ah ρ x) (over ρ l b)=r.elim (aO (ah ρ x) b) λv=>some (ah ρ v):=by
 revert r
 induction l with
 |nil=>intro r h;rw[lF]at h;obtain rfl:=si h;rfl
 |cons p l i=>
  intro r h;rw[PB,vU];refine(BS h).elim (λq=>?_) λq=>?_
  ·obtain⟨e,rfl⟩:=q;rw[jB hf e];rfl
  ·(refine(jB hf q.1).symm ▸?_);exact i q.2
end
section
variable{ρ:Ro}{F:Fx}{aI:St}(hf:dZ ρ F aI)
include hf
omit hf in
theorem xg(h:AX t u p q=some v):(t=true/\v=p)\/(u=true/\v=q):=by
 cases t with
 |true=>exact .inl ⟨rfl,(si h).symm⟩
 |false=>
  cases u with
  |true=>exact .inr ⟨rfl,(si h).symm⟩
  |false=>exact nt h
theorem iu:ρ.int 0+c=c:=by rw[hf.z,YV]
theorem Gq{c d:Int}(h:binI o x c y d=some v):∃i,rV o (ρ.int x+c) (ρ.int y+d)=some i/\ah ρ v= .int i:=by
 cases o with
 |add=>
  rcases xg h with⟨e,rfl⟩|⟨e,rfl⟩
  ·rw[aB.mp e,iu hf];exact(al _ rfl (Yd V.int (Zy ..).symm))
  ·rw[aB.mp e,iu hf];exact(al _ rfl (Yd V.int (Int.add_left_comm ..).symm))
 |sub=>
  rcases xg h with⟨e,rfl⟩|⟨e,rfl⟩
  ·rw[aB.mp e,iu hf];exact(al _ rfl (Yd V.int (Int.add_sub_assoc ..).symm))
  ·rw[aB.mp e];exact(al _ rfl (Yd V.int ((iu hf).trans (Int.add_sub_add_left ..).symm)))
 |_=>exact nt h
theorem qr(h:EQ o a b=some v):bZ o (ah ρ a) (ah ρ b)=some (ah ρ v):=by
 cases a with
 |int x c=>
  (refine bS (jg h nn) λy d q3 g=>?_;subst q3)
  show(rV o (ρ.int x+c) (ρ.int y+d)).map V.int=_;refine cY (Nat.beq x 0&&Nat.beq y 0) (λe=>?_) λe=>?_
  ·
   rw[e]at g
   (refine U (om g) λi h1 q3=>?_;subst q3)
   rw[aB.mp (an e).1,aB.mp (an e).2,iu hf,iu hf,h1];exact Yd (some<|V.int ·) (iu hf).symm
  ·
   rw[e]at g;refine U (Gq hf g) λi h1 h2=>?_;rw[h1,h2];rfl
 |str a=>
  (refine U (At h nn) λb q2 h=>?_;subst q2)
  obtain⟨e,h⟩:=bY h;obtain rfl:=si h;show gD _ _=_;rw[e];rfl
 |tup a=>
  (refine U (Ew h nn) λb q2 h=>?_;subst q2)
  obtain⟨e,h⟩:=bY h;obtain rfl:=si h;show gD (ol o&&Nat.ble ((ax ρ a).length+(ax ρ b).length) ay) (some (V.tup (ax ρ a++ax ρ b)))=some (V.tup (ax ρ (a++b)));rw[cU,cU,e,mP];rfl
 |_=>exact nt h
theorem Gr(h:I2 F o a b=some v):bZ o (ah ρ a) (ah ρ b)=some (ah ρ v):=by
 unfold I2 at h;cases e:EQ o a b with
 |some w=>rw[e]at h;obtain rfl:=Yi h;exact qr hf e
 |none=>
  rw[e]at h;dsimp only at h;refine dJ (bK (ny o) F.op) (λe2=>?_) λl e2=>?_
  ·rw[e2]at h;exact nt h
  ·rw[e2]at h;exact hf.op o a b l v e2 h
theorem xO(h:I3 o a b=some v):ou o (ah ρ a) (ah ρ b)=some (ah ρ v):=by
 (refine bS (jg h nn) λx c q3 h=>?_;subst q3)
 (refine bS (jg h nn) λy d q3 h=>?_;subst q3)
 obtain⟨e,h⟩:=bY h;cases o with
 |add=>exact(qr hf h)
 |sub=>exact(qr hf h)
 |_=>exact nf e
variable{S:fk}{σ:St}(hs:jY ρ F aI S σ)
include hs
omit hf hs in
theorem s3(c:Nat)(l:List Nat):rl (c::l)=(Nat.blt c 1114112&&rl l):=by
 show @Bool.rec (λ_=>Bool) false (rl l) (Nat.blt c 1114112)=_;cases Nat.blt c 1114112<;>rfl
omit hf hs in
theorem Gk(h:rl l=true):l.all (λc=>decide (c<0x110000))=true:=by
 induction l with
 |nil=>rfl
 |cons c l i=>
  have h: @Bool.rec (λ_=>Bool) false (rl l) (Nat.blt c 1114112)=true:=h;rw[Zs];refine uu (Nat.blt c 1114112) (λe=>?_) λe=>?_
  ·rw[e]at h;exact nf h
  ·rw[e]at h;rw[i h,Bool.and_true];exact YI (Yg e)
omit hf hs in
theorem mD(h:rl l=true):PyData.canLay0 (.str ⟨l.toArray⟩)=true:=by
 simp only[PyData.canLay0,PyData.strOk];rw[List.all_toArray];exact Gk h
omit hf in
theorem A7(h:lsN (S.get s j)=some vs):nth (σ.heap s) (ρ.ix s j)=some (.list (ax ρ vs)):=by
 refine U (ob h) λo e h=>?_
 (refine bS (Rj h nn) λb us q3 h=>?_;subst q3)
 obtain⟨rfl,h⟩:=RP h nn;obtain rfl:=si h;exact hs.at_ _ _ _ e
theorem B9:(∀{v:SV},KW S n v=true->∃d,uj σ.heap n (ah ρ v)=some d/\d.canLay0=true/\d.depth<=n)/\∀{vs:List SV},EP S n vs=true->∃ds,j0 σ.heap n (ax ρ vs)=some ds/\PyData.canLayAll0 ds=true/\PyData.depthAll ds<=n:=by
 induction n with
 |zero=>exact⟨λh=>nf h,λh=>nf h⟩
 |succ n ih=>
  refine⟨?_,?_⟩
  ·intro v h;cases v with
   |none=>exact(aM _ rfl rfl (YA _))
   |bool b=>exact(aM _ rfl rfl (YA _))
   |int x c=>exact(aM _ rfl rfl (YA _))
   |str l=>exact(aM _ rfl (mD h) (YA _))
   |atom k=>exact(aM _ rfl (mD (hf.st k)) (YA _))
   |tup vs=>
    refine a8 (ih.2 h) λds e h1 h2=>?_;exact(aM (.tuple ds) (Yd (Option.map PyData.tuple) e) h1 (by exact YX h2))
   |obj s j=>
    refine U (oa h) λvs e0 h=>?_;refine a8 (ih.2 h) λds e h1 h2=>?_;refine(aM (.list ds) ?_ h1 (by exact YX h2));show(nth (σ.heap s) (ρ.ix s j)).bind _=_;rw[A7 hs e0];exact Yd (Option.map PyData.list) e
   |_=>exact nf h
  ·intro vs h;cases vs with
   |nil=>exact(aM ([]) rfl rfl (YA _))
   |cons v r=>
    refine a8 (ih.1 (an h).1) λd e1 h1 h2=>?_;refine a8 (ih.2 (an h).2) λds e2 h3 h4=>?_;refine(aM (d::ds) ?_ ?_ ?_)
    ·show(uj σ.heap n (ah ρ v)).bind _=_;rw[e1];exact Yd (Option.map (d::·)) e2
    ·unfold PyData.canLayAll0;rw[h1,h3];rfl
    ·exact Nat.max_le.mpr ⟨Y7 h2,Y7 h4⟩
theorem B5(h:wu a b F.eq=some t):(t=true↔ah ρ a=ah ρ b):=hf.eq a b t h
theorem pX{l m:List Nat}{t:Bool}(h:t=true↔l=m):((⟨l.toArray⟩:Str)==⟨m.toArray⟩)=t:=by
 cases t with
 |true=>rw[h.mp rfl];simp
 |false=>
  have:l≠m:=λe=>by cases h.mpr e
  cases e:((⟨l.toArray⟩:Str)==⟨m.toArray⟩)with
  |false=>rfl
  |true=>
   have:=eq_of_beq e;injection this with this;exact absurd (by simpa using this) ‹l≠m›
theorem F5{i j:Int}(h:t=true↔i=j):(i==j)=t:=by
 cases t with
 |true=>rw[h.mp rfl];simp
 |false=>
  simpa using(λe=>by cases h.mpr e)
omit hf hs in
def pk:PyData->Nat
 | .none=>1
 | .int _=>2
 | .str _=>3
 | .tuple _=>4
 |_=>0
omit hf hs in
theorem JI(h1:pk d≠0)(h2:pk d'≠0)(h:pk d≠pk d'):PyData.eqv d d'=false:=by
 cases d<;>first|exact absurd rfl h1|(cases d'<;>first|rfl|exact absurd rfl h2|exact absurd rfl h)
omit hf hs in
theorem pR(h:uj H (n+1) (.tup vs)=some d):∃ds,j0 H n vs=some ds/\PyData.tuple ds=d:=om h
omit hf hs in
theorem w8(g:nth (H s) i=some (.list vs))(h:uj H (n+1) (.obj s i)=some d):∃ds,j0 H n vs=some ds/\PyData.list ds=d:=by
 refine U (ob h) λo e h=>?_;obtain rfl:=si (g.symm.trans e);exact om h
omit hf hs in
theorem pA(h:uj H (n+1) v=some d)(hv:vt v≠0):pk d=vt v:=by
 cases v with
 |tup vs=>(refine U (pR h) λds _ q3=>?_;subst q3);rfl
 |none=>(refine(si h) ▸?_);rfl
 |int _=>(refine(si h) ▸?_);rfl
 |str _=>(refine(si h) ▸?_);rfl
 |_=>exact absurd rfl hv
omit hf hs in
theorem Gx(h:jr a b=true)(ha:uj H (n+1) (ah ρ a)=some d)(hb:uj H (n+1) (ah ρ b)=some d'):PyData.eqv d d'=false:=by
 refine dW (o4 h) λi1 i2 i3=>?_;have v1:=pi (ρ:=ρ) i1;have v2:=pi (ρ:=ρ) i2;exact JI (by rw[(pA ha (by rw[v1];exact i1)),v1];exact i1) (by rw[(pA hb (by rw[v2];exact i2)),v2];exact i2) (by rw[(pA ha (by rw[v1];exact i1)),(pA hb (by rw[v2];exact i2)),v1,v2];exact i3)
theorem pW(h:wu a b F.eq=some t)(ha:ah ρ a= .str l)(hb:ah ρ b= .str m):PyData.eqv (.str ⟨l.toArray⟩) (.str ⟨m.toArray⟩)=t:=by
 have:=B5 hf hs h;rw[ha,hb]at this;exact pX hf hs (this.trans ⟨λe=>by injection e,λe=>e ▸ rfl⟩)
theorem Kb(hr:∀{a b:List SV} {t:Bool} {d d':List PyData},r a b=some t->j0 σ.heap n (ax ρ a)=some d->j0 σ.heap n (ax ρ b)=some d'->PyData.eqvAll d d'=t)(h:Qu F S r a b=some t)(ha:uj σ.heap (n+1) (ah ρ a)=some d)(hb:uj σ.heap (n+1) (ah ρ b)=some d'):PyData.eqv d d'=t:=by
 cases a with
 |none=>
  obtain⟨rfl,h⟩:=Ey h nn
  (refine(si h) ▸?_;refine(si ha) ▸?_;refine(si hb) ▸?_);rfl
 |bool x=>
  (refine U (LZ h nn) λy q2 h=>?_;subst q2)
  (refine(si h) ▸?_;refine(si ha) ▸?_;refine(si hb) ▸?_);rfl
 |int x c=>
  (refine bS (jg h nn) λy d q3 g=>?_;subst q3)
  (refine(si ha) ▸?_;refine(si hb) ▸?_)
  refine F5 hf hs ?_;cases e:Iv F x c y d with
  |some u=>rw[e]at g;rw[<-si g,vj hf e];exact Zf
  |none=>rw[e]at g;exact(B5 hf hs g).trans ⟨V.int.inj,Yd V.int⟩
 |str l=>
  rw[<-si ha];cases b with
  |str m=>rw[<-si hb,<-si (show some (uq l m)=some t from h)];exact pX hf hs ib
  |atom j=>rw[<-si hb];exact pW hf hs h rfl rfl
  |_=>exact nt h
 |atom i=>
  rw[<-si ha];cases b with
  |str m=>rw[<-si hb];exact pW hf hs h rfl rfl
  |atom j=>
   rw[<-si hb];have h: @Bool.rec (λ_=>Option Bool) (wu (.atom i) (.atom j) F.eq) (some true) (Nat.beq i j)=some t:=h;refine cY (Nat.beq i j) (λe=>?_) λe=>?_
   ·rw[e]at h;(refine(si h) ▸?_;refine(aB.mp e).symm ▸?_);exact pX hf hs ⟨λ_=>rfl,λ_=>rfl⟩
   ·rw[e]at h;exact pW hf hs h rfl rfl
  |_=>exact nt h
 |tup as=>
  (refine U (Ew h nn) λbs q2 h=>?_;subst q2)
  (refine U (pR ha) λds e1 q3=>?_;subst q3)
  (refine U (pR hb) λes e2 q3=>?_;subst q3)
  exact hr h e1 e2
 |obj s j=>
  (refine bS (IG h nn) λu k q3 h=>?_;subst q3)
  refine U (ob h) λas g1 h=>?_;refine U (ob h) λbs g2 h=>?_
  (refine U (w8 (A7 hs g1) ha) λds e1 q3=>?_;subst q3)
  (refine U (w8 (A7 hs g2) hb) λes e2 q3=>?_;subst q3)
  exact hr h e1 e2
 |_=>exact nt h
omit hf hs in
theorem kj(h:j0 H (n+1) (v::r)=some ds):∃x xs,uj H n v=some x/\j0 H n r=some xs/\x::xs=ds:=by
 refine U (ob h) λx e1 h=>?_;refine U (om h) λxs e2 h=>?_;exact(aZ x xs e1 e2 h)
theorem J9:(∀{a b:SV} {t:Bool} {d d':PyData},Qt F S n a b=some t->uj σ.heap n (ah ρ a)=some d->uj σ.heap n (ah ρ b)=some d'->PyData.eqv d d'=t)/\∀{a b:List SV} {t:Bool} {d d':List PyData},EN F S n a b=some t->j0 σ.heap n (ax ρ a)=some d->j0 σ.heap n (ax ρ b)=some d'->PyData.eqvAll d d'=t:=by
 induction n with
 |zero=>exact⟨λh=>nt h,λh=>nt h⟩
 |succ n ih=>
  refine⟨?_,?_⟩
  ·intro a b t d d' h ha hb;have h: @Bool.rec (λ_=>Option Bool) (Qu F S (EN F S n) a b) (some false) (jr a b)=some t:=h;refine cY (jr a b) (λe=>?_) λe=>?_
   ·rw[e]at h;(refine(si h) ▸?_);exact Gx e ha hb
   ·rw[e]at h;exact Kb hf hs ih.2 h ha hb
  ·intro a b t d d' h ha hb;cases a with
   |nil=>
    (refine(si ha) ▸?_;refine(si h) ▸?_)
    cases b with
    |nil=>(refine(si hb) ▸?_);rfl
    |cons b bs=>(refine a9 (kj hb) λy ys e3 e4 q5=>?_;subst q5);rfl
   |cons a as=>
    (refine a9 (kj ha) λx xs e1 e2 q5=>?_;subst q5)
    cases b with
    |nil=>(refine(si hb) ▸?_;refine(si h) ▸?_);rfl
    |cons b bs=>
     (refine a9 (kj hb) λy ys e3 e4 q5=>?_;subst q5)
     show(PyData.eqv x y&&PyData.eqvAll xs ys)=t;rcases o5 h with⟨h1,rfl⟩|⟨h1,h2⟩
     ·rw[ih.1 h1 e1 e3];rfl
     ·rw[ih.1 h1 e1 e3,ih.2 h2 e2 e4];rfl
omit hf hs in
theorem oE(h1:d.canLay0=true)(h2:d.depth<=60):SeqAt.shaped d=true:=by
 unfold SeqAt.shaped;rw[h1,Bool.true_and];exact YI (Yc ‹_› ak)
theorem B4(h:eqv F S a b=some t):GR σ.heap (ah ρ a) (ah ρ b)=some t:=by
 rw[J8]at h;unfold EM at h;refine uu ((KW S 60 a&&KW S 60 b)) (λe=>?_) λe=>?_
 ·rw[e]at h;exact nt h
 ·
  rw[e]at h;refine a8 ((B9 hf hs).1 (an e).1) λd e1 h1 h2=>?_;refine a8 ((B9 hf hs).1 (an e).2) λd' e2 h3 h4=>?_;unfold GR
  (refine(e1).symm ▸?_;refine(e2).symm ▸?_)
  show gD (SeqAt.shaped d&&SeqAt.shaped d') _=_
  (refine(oE h1 h2).symm ▸?_;refine(oE h3 h4).symm ▸?_)
  exact Yd some ((J9 hf hs).1 h e1 e2)
end
section
variable{ρ:Ro}{F:Fx}{aI:St}
theorem Fa:∀{q:List (List Nat)},IB l=some q->mm (ax ρ l)=some q:=by
 induction l with
 |nil=>intro q h;exact h
 |cons v l i=>
  intro q h
  (refine U (At h nn) λa q2 h=>?_;subst q2)
  (refine U (om h) λq' e q3=>?_;subst q3)
  exact Yd (Option.map (a::·)) (i e)
theorem zG(h:BX v=true):isInt (ah ρ v)=true:=by cases v with|int _ _=>rfl|_=>exact nf h
theorem xQ(hp:∀{v},p v=true->q (ah ρ v)=true)(h:l.all p=true):(ax ρ l).all q=true:=by
 induction l with
 |nil=>rfl
 |cons v l i=>exact X5.mpr ⟨hp (an h).1,i (an h).2⟩
theorem zE(h:mv v=true):cF (ah ρ v)=true:=by
 cases v with
 |int _ _=>rfl
 |tup vs=>exact xQ zG h
 |_=>exact nf h
theorem qi(h:Nat.blt (gJ v) 4=true):cP (ah ρ v)=gJ v:=by
 cases v with
 |str l=>rfl
 |int x c=>rfl
 |tup vs=>
  have h:Nat.blt (match vs.all mv with|true=>3|false=>4) 4=true:=h;show(match(ax ρ vs).all cF with|true=>3|false=>4)=(match vs.all mv with|true=>3|false=>4);refine cY (vs.all mv) (λe=>?_) λe=>?_
  ·rw[e];rw[xQ zE e]
  ·rw[e]at h;exact nf h
 |_=>exact nf h
theorem fH(h:mu kd v=true):gp kd (ah ρ v)=true/\cP (ah ρ v)=gJ v:=by
 refine⟨?_,(qi (ρ:=ρ) ((X5.mp h).1))⟩;unfold gp
 (refine((qi (ρ:=ρ) ((X5.mp h).1))).symm ▸?_);exact h
theorem jC(hf:dZ ρ F aI)(h:yr F v=some n):∃i,ah ρ v= .int i/\df i=some n:=by
 (refine bS (jg h nn) λx c q3 h=>?_;subst q3)
 refine U (ob h) λp e h=>?_;refine de (bY h) λe2 h=>?_;exact(al _ rfl (by(refine((Int.le_antisymm (eP.mp e2 ▸ (gO hf e).2) (gO hf e).1)).symm ▸?_);exact h))
theorem xL(hf:dZ ρ F aI)(h:I1 v=some n):Pe (ah ρ v)=some n:=by
 cases v with
 |none=>exact h
 |int x c=>
  refine de (bY h) λe h=>?_;show(df (ρ.int x+c)).map some=_
  (refine(aB.mp e).symm ▸?_;refine(iu hf).symm ▸?_);exact h
 |_=>exact nt h
theorem jJ{n:Nat}(h:n<=1000):df (n:Int)=some n:=by
 show(match Nat.ble n ay with|true=>some n|false=>none)=some n
 (refine((show Nat.ble n ay=true from Y2 h)).symm ▸ rfl)
variable(hf:dZ ρ F aI)
include hf
omit hf in
theorem PD{α β:Type}{o:Option α}{f:α->Option β}{r:β}(h: @Option.rec α (λ_=>Option β) none f o=some r):∃x,o=some x/\f x=some r:=by cases o with|none=>exact nt h|some x=>exact(al x rfl h)
theorem xm(h:Au F b v=some n):ah ρ v= .int (((ρ.base b).length+n:Nat):Int)/\df (((ρ.base b).length+n:Nat):Int)=some ((ρ.base b).length+n):=by
 (refine bS (jg h nn) λx c q3 h=>?_;subst q3)
 refine hg λcg kg=>?_;refine U (ob h) λl e1 h=>?_
 (refine bS (jg h nn) λy d q3 h=>?_;subst q3)
 obtain⟨g,h⟩:=bY h;obtain⟨g2,h⟩:=bY h;obtain rfl:=si h;obtain rfl:=aB.mp (an g).1;refine U (oa (an g2).2) λt3 q3 e3=>?_;refine kg ?_;have a3:=YN ((BU hf q3).symm.trans e3);rw[iu hf]at a3;have e:=by
  show(((ρ.base b).length+(c - d).toNat:Nat):Int)=ρ.int x+c;rw[Int.natCast_add,YR (Int.sub_nonneg.mpr (gh.mp (an g).2)),<-(V.int.inj (hf.bl b _ e1)),Zy,Z1 d,Int.sub_add_cancel]
 exact⟨Yd V.int e.symm,jJ (Y3.mp (e ▸ a3))⟩
theorem C8(h:nth r n=some x):nth (ρ.base b++r) ((ρ.base b).length+n)=some x:=by rw[b8];exact h
theorem Df(h:Hr F b vs k=some v):∃(i:Int) (n:Nat),ah ρ k= .int i/\df i=some n/\nth (eD ρ b++ax ρ vs) n=some (ah ρ v):=by
 cases b with
 |nil=>
  refine U (ob h) λn e h=>?_;refine U (jC hf e) λi e1 e2=>?_;rw[jA]at h;exact(aZ i n e1 e2 (jQ h))
 |var b=>
  have h: @Option.rec Nat (λ_=>Option SV) ((bK b F.it).bind λl=>Ig k l) (λn=>rC vs n) (Au F b k)=some v:=h;cases e:Au F b k with
  |some n=>
   rw[e]at h;obtain⟨e1,e2⟩:=xm hf e;exact(aZ _ _ e1 e2 (C8 hf (jQ (jA .. ▸ h))))
  |none=>
   rw[e]at h;refine U (ob h) λl e h=>?_;refine a8 (hf.it b l k v e h) λn e1 e2 e3=>?_;exact(aZ n n e1 (jJ (Yc e2 ak)) (eO _ e3))
 |set b i w=>
  refine U (ob h) λn e h=>?_;obtain⟨e1,e2⟩:=xm hf e;rw[jA]at h;refine(aZ _ _ e1 e2 ?_);rw[<-show(eD ρ (.set b i w)).length=(ρ.base b).length from ia _ _ _,b8];exact jQ h
theorem mR(h:wS F b es k=some r):aO (ah ρ k) (gI ρ b es)=r.map (ah ρ):=by
 refine U (PD h) λq e h=>?_;cases q with
 |some v=>
  (refine(si h) ▸?_)
  cases b with
  |none=>exact qf hf e
  |some b=>exact oP hf e
 |none=>
  cases b with
  |none=>(refine(si h) ▸?_);exact qf hf e
  |some b=>
   refine U (ob h) λl e2 h=>?_
   (refine U (om h) λv e3 q3=>?_;subst q3)
   exact(oP hf e).trans (hf.dt b l k v e2 e3)
theorem w7(h:uE F v=some t):iG (ah ρ v)=some t:=by
 cases v with
 |bool b=>exact h
 |int x c=>
  (refine U (om h) λu e q3=>?_;subst q3)
  rw[vj hf e,iu hf];rfl
 |_=>exact nt h
variable{S:fk}{σ:St}(hs:jY ρ F aI S σ)
include hs
theorem vy(h:df i=some n):K0 l (.int i)=nth l n:=by
 show(df i).bind _=_;rw[h];rfl
theorem Dm(h:Bb F S a k=some v):itemOf σ.heap (ah ρ a) (ah ρ k)=some (ah ρ v):=by
 cases a with
 |str l=>
  refine U (ob h) λn e h=>?_;refine U (jC hf e) λi e1 e2=>?_
  (refine U (om h) λc e3 q3=>?_;subst q3)
  rw[jA]at e3;rw[e1];show(K0 l (.int i)).map _=_;rw[vy hf hs e2,e3];rfl
 |tup vs=>
  refine U (ob h) λn e h=>?_;refine U (jC hf e) λi e1 e2=>?_;rw[jA]at h
  (refine(e1).symm ▸?_)
  exact(vy hf hs e2).trans (jQ h)
 |obj s j=>
  refine U (PD h) λo e h=>?_;show(nth (σ.heap s) (ρ.ix s j)).bind _=_
  (refine((hs.at_ _ _ _ e)).symm ▸?_)
  cases o with
  |list b vs=>
   refine a9 (Df hf h) λi n e1 e2 e3=>?_
   (refine(e1).symm ▸?_)
   exact(vy hf hs e2).trans e3
  |dict b kd es=>
   refine hg λcg kg=>?_;refine de (bY h) λe2 h=>?_;refine U (PD h) λq e3 h=>?_;obtain rfl:q=some v:=h;refine kg ?_;show gD (gp kd (ah ρ k)) _=_
   (refine((fH (ρ:=ρ) e2).1).symm ▸?_)
   exact mR hf e3
  |_=>exact nt h
 |_=>exact nt h
theorem m2(h:qj v=some t):isNone (ah ρ v)=t:=by
 cases v with
 |any _=>exact nt h
 |_=>exact si h
theorem Gy(ls:List (List Nat)):(ls.any λx=>uq x l)=(ls.any λx=>decide (x=l)):=by
 induction ls with
 |nil=>rfl
 |cons x ls i=>rw[zas,zas,i,xG]
theorem sZ(h:Bl F S a b=some t):AE σ.heap (ah ρ a) (ah ρ b)=some t:=by
 (refine bS (IG h nn) λs j q3 h=>?_;subst q3)
 refine U (ob h) λo e h=>?_
 (refine uS (Rk h nn) λb kd es q4 h=>?_;subst q4)
 obtain⟨e2,h⟩:=bY h
 (refine U (om h) λq e3 q3=>?_;subst q3)
 show(nth (σ.heap s) (ρ.ix s j)).bind _=_;rw[hs.at_ _ _ _ e];show gD (gp kd (ah ρ a)) (some (aO (ah ρ a) (gI ρ b es)).isSome)=_;rw[(fH (ρ:=ρ) e2).1,mR hf e3];cases q<;>rfl
theorem J3(h:Tc F S a b=some t):IP pt σ.heap (ah ρ a) (ah ρ b)=some t:=by
 cases b with
 |tup vs=>
  (refine U (At h nn) λl q2 h=>?_;subst q2)
  (refine U (om h) λls e q3=>?_;subst q3)
  show(mm (ax ρ vs)).map _=_;rw[Fa e,Gy hf hs];rfl
 |glob g=>
  (refine bS (jg h nn) λx c q3 h=>?_;subst q3)
  obtain⟨e,h⟩:=bY h;show(pt.table g).map (λl=>l.contains (ρ.int x+c))=_
  (refine(aB.mp e).symm ▸?_;refine(iu hf).symm ▸?_);exact h
 |obj s j=>exact sZ hf hs (b:= .obj s j) h
 |_=>exact nt h
theorem not_le{a b:Int}:(!decide (a<=b))=decide (b<a):=by
 rw[<-decide_not];exact decide_eq_decide.mpr Z7
theorem Gm(h:IW F S o a b=some t):me pt σ.heap o (ah ρ a) (ah ρ b)=some t:=by
 have ii:∀{f:Nat->Int->Nat->Int->Option Bool} {g:Int->Int->Bool},(∀{x c y d t},f x c y d=some t->g (ρ.int x+c) (ρ.int y+d)=t)->(qI none a λx c=>qI none b λy d=>f x c y d)=some t->(oI (ah ρ a) λi=>oI (ah ρ b) λj=>some (g i j))=some t:=by
  intro f g k h;refine bS (jg h nn) λx c e1 h=>?_;refine bS (jg h nn) λy d e2 h=>?_
  (refine(e1).symm ▸?_;refine(e2).symm ▸?_)
  exact Yd some (k h)
 cases o with
 |eq=>exact B4 hf hs h
 |ne=>
  obtain⟨c,e,rfl⟩:=om h;exact Yd (Option.map not) (B4 hf hs e)
 |lt=>exact ii (λe=>by obtain⟨u,e2,rfl⟩:=om e;rw[pE hf e2];exact(not_le hf hs).symm) h
 |le=>exact ii (λe=>(pE hf e).symm) h
 |gt=>exact ii (λe=>by obtain⟨u,e2,rfl⟩:=om e;rw[pE hf e2];exact(not_le hf hs).symm) h
 |ge=>exact ii (λe=>(pE hf e).symm) h
 |«is»=>
  obtain⟨rfl,h⟩:=Ey h nn;exact Yd some (m2 hf hs h)
 |isNot=>
  obtain⟨rfl,h⟩:=Ey h nn
  (refine U (om h) λu e q3=>?_;subst q3)
  exact Yd (some<| !·) (m2 hf hs e)
 |isIn=>exact J3 hf hs h
 |notIn=>
  obtain⟨u,e,rfl⟩:=om h;exact Yd (Option.map not) (sZ hf hs e)
end
section
variable{ρ:Ro}{F:Fx}{aI:St}
def dS(ρ:Ro):jZ->Fl
 | .next=> .next
 | .ret v=> .ret (ah ρ v)
theorem dK(hf:dZ ρ F aI)(hm:aC ρ o=mo):bg ρ F aI (λ_:Unit=>()) (pu F s j o) (M.put s (ρ.ix s j) mo):=Jj hf hm
section
variable{α γ β:Type}{d:γ->β}
theorem fM{f:α->MS γ}(h:∀a,o=some a->∃a',o'=some a'/\bg ρ F aI d (f a) (g a')):bg ρ F aI d (o7 o f) (M.of o' g):=by
 cases o with
 |none=>exact aD
 |some a=>(refine U (h a rfl) λa' q2 g=>?_;subst q2);exact g
theorem dM(h:∀a,o=some a->bg ρ F aI d (f a) m):bg ρ F aI d (o7 o f) m:=by
 cases o with
 |none=>exact aD
 |some a=>exact h a rfl
theorem bh(e:b=true->b'=true)(h:b=true->bg ρ F aI d f m):bg ρ F aI d (iJ b f) (M.gd b' m):=by
 cases b with
 |false=>exact aD
 |true=>rw[e rfl];exact h rfl
theorem uX(e:o=none->o'=none)(h:bg ρ F aI d f m):bg ρ F aI d (OK o f) (M.no o' m):=by
 cases o with
 |none=>(refine(e rfl).symm ▸?_);exact h
 |some a=>exact aD
theorem BB(h:∀s j,bg ρ F aI d (f s j) (g s (ρ.ix s j))):bg ρ F aI d (qO c6 a f) (M.oR (ah ρ a) g):=by
 cases a with
 |obj s j=>exact h s j
 |_=>exact aD
theorem fP(h:∀s j o,bg ρ F aI d (f s j o) (g s (ρ.ix s j) (aC ρ o))):bg ρ F aI d (D4 a f) (M.oO (ah ρ a) g):=BB λs j=>af iR (h s j)
theorem BC(h:∀b vs,bg ρ F aI d (f b vs) (g (eD ρ b++ax ρ vs))):bg ρ F aI d (jL c6 o f) (M.kL (aC ρ o) g):=by
 cases o with
 |list b vs=>exact h b vs
 |_=>exact aD
theorem mn{f:List SV->MS γ}(h:∀vs,bg ρ F aI d (f vs) (g (ax ρ vs))):bg ρ F aI d (jL c6 o λb vs=>bN c6 b (f vs)) (M.kL (aC ρ o) g):=by
 cases o with
 |list b vs=>
  cases b with
  |nil=>exact h vs
  |_=>exact aD
 |_=>exact aD
theorem BE(h:∀b k es,bg ρ F aI d (f b k es) (g k (gI ρ b es))):bg ρ F aI d (jD c6 o f) (M.kD (aC ρ o) g):=by
 cases o with
 |dict b k es=>exact h b k es
 |_=>exact aD
theorem BD(h:∀c fs,bg ρ F aI d (f c fs) (g c (bG ρ fs))):bg ρ F aI d (jI c6 o f) (M.kI (aC ρ o) g):=by
 cases o with
 |inst c fs=>exact h c fs
 |_=>exact aD
end
theorem m3(h:Nat.ble a 400=true):a<=400:=Yg h
theorem Cb(h:a<=1000):Nat.ble a ay=true:=Y2 h
variable(hf:dZ ρ F aI)
include hf
theorem CP:bg ρ F aI (ah ρ) (AR F a k) (M.item (ah ρ a) (ah ρ k)):=by
 intro S σ hs;unfold AR;cases e:Bb F S a k with
 |none=>trivial
 |some v=>exact(al σ (by unfold M.item;rw[Dm hf hs e];rfl) hs)
theorem Fo:bg ρ F aI id (IE F o a b) (M.cmp pt o (ah ρ a) (ah ρ b)):=by
 intro S σ hs;unfold IE;cases e:IW F S o a b with
 |none=>trivial
 |some v=>exact(al σ (by unfold M.cmp;rw[Gm hf hs e];rfl) hs)
theorem xd:bg ρ F aI (ah ρ) (opt (bK x fs)) (M.opt (aN x (bG ρ fs))):=fU λa h=>by rw[ky,h];rfl
theorem sj:bg ρ F aI (ah ρ) (AU a x) (M.attr pt (ah ρ a) x):=fP λ_ _ o=>by
 cases o with
 |inst c fs=>exact uX id (xd hf)
 |caught c fs=>exact uX id (xd hf)
 |_=>exact aD
theorem kM:bg ρ F aI (λ_=>()) (mG F a x v) (M.setAttr (ah ρ a) x (ah ρ v)):=fP λs j o=>BD λc fs=>by
 rw[cX,<-DQ (ρ:=ρ)];exact bh id λ_=>dK hf (Yd (bu.inst c) (sY ..).symm)
theorem DW(b:Bs):(eD ρ b).length<=500:=by
 cases b with
 |nil=>exact YA _
 |var b=>exact hf.bn b
 |set b i v=>exact Yc (ZD (ia _ _ _)) (hf.bn b)
omit hf in
theorem CV(x v:V)(l:List (V×V)):(eX x v l).length<=l.length+1:=by
 induction l with
 |nil=>exact Yv _
 |cons q l ih=>
  rw[K8];cases q.1.beq x with
  |true=>exact YT _
  |false=>exact YX ih
omit hf in
theorem CY(es:List (SV×SV))(l:List (V×V)):(over ρ es l).length<=es.length+l.length:=by
 induction es with
 |nil=>exact ZF _ _
 |cons p r i=>exact Yc (CV _ _ _) (Yc (YX i) (ZD (Nat.succ_add _ _).symm))
theorem DS(b:Option Nat)(h:es.length<=400):Nat.ble (gI ρ b es).length ay=true:=by
 apply Cb;cases b with
 |none=>exact Yc (ZD (jR es)) (Yc h ak)
 |some b=>exact Yc (CY es (ρ.dbase b)) (Yc (zak h (hf.dn b)) ak)
omit hf in
theorem yV(v:V)(l r:List V):∀{n:Nat},n<l.length->setNth v l n++r=setNth v (l++r) n:=by
 induction l with
 |nil=>intro n h;exact absurd h (zad _)
 |cons x l ih=>
  intro n h;cases n with
  |zero=>rfl
  |succ n=>exact Yd (x::·) (ih (zaC h))
theorem CH:bg ρ F aI (λ_=>()) (G8 F s j b vs k v) (M.oI (ah ρ k) λi=>M.of (df i) λn=>M.gd (Nat.blt n (eD ρ b++ax ρ vs).length) (M.put s (ρ.ix s j) (.list (setNth (ah ρ v) (eD ρ b++ax ρ vs) n)))):=by
 cases b with
 |nil=>
  refine dM λn e=>?_;refine U (jC hf e) λi e1 e2=>?_;rw[e1,cX,<-cU (ρ:=ρ)];show bg ρ F aI _ _ (M.of (df i) _);rw[e2];exact bh id λ_=>dK hf (Yd bu.list (by rw[Fu,DO];rfl))
 |var b=>
  refine dM λl e=>dM λw e2=>?_;refine a8 (hf.it b l k w e e2) λn e3 e4 e5=>?_;rw[e3];show bg ρ F aI _ _ (M.of (df n) _);rw[jJ (Yc e4 ak)];show bg ρ F aI _ _ (M.gd (Nat.blt n (ρ.base b++ax ρ vs).length) _);rw[show Nat.blt n (ρ.base b++ax ρ vs).length=true from Y2 (by rw[Yz];exact Yc (bo e5) (Ym _ _))];refine dK hf (Yd bu.list ?_);show setNth (ah ρ v) (ρ.base b) (A2 (ah ρ k))++ax ρ vs=_;rw[e3];exact yV _ _ _ (bo e5)
 |set b i w=>exact aD
theorem tf:bg ρ F aI (λ_=>()) (sk F a k v) (M.setItem (ah ρ a) (ah ρ k) (ah ρ v)):=fP λs j o=>by
 cases o with
 |list b vs=>exact CH hf
 |dict b kd es=>
  refine bh (λhb=>?_) λhb=>?_
  ·rw[cX]at hb
   (refine(DS hf b (m3 (an hb).1)).symm ▸?_;refine((fH (ρ:=ρ) (an hb).2).1).symm ▸?_);rfl
  ·(refine((fH (ρ:=ρ) (an hb).2).2).symm ▸?_)
   cases b with
   |none=>exact dM λq e=>dK hf (Yd (bu.dict _) (FD hf e).symm)
   |some b=>exact dK hf rfl
 |_=>exact aD
theorem yS:bg ρ F aI (ah ρ) (BI F s a l h) (M.slice s (ah ρ a) (ah ρ l) (ah ρ h)):=fM λlo e1=>(al lo (xL hf e1) (fM λhi e2=>(al hi (xL hf e2) (by
 cases a with
 |str cs=>
  exact bh (λh=>cX cs ▸ h) λ_=>aq rfl
 |tup vs=>
  exact bh (λh=>by rw[cX]at h;rw[cU];exact h) λ_=>aq (Yd V.tup (sX ..))
 |obj t j=>
  refine af iR λo=>mn λvs=>?_;exact bh (λh=>by rw[cX]at h;rw[cU];exact h) λ_=>j5 hf (Yd bu.list (sX ..))
 |_=>exact aD))))
theorem CK:bg ρ F aI id (Hb a x) (M.recv pt (ah ρ a) x):=fP λs j o=>by
 cases o with
 |inst c fs=>exact uX (λe=>by rw[ky,e];rfl) (bh id λ_=>fM λf e=>(al f e (aq rfl)))
 |list b vs=>
  cases Nat.beq x gc with
  |true=>exact aq rfl
  |false=>exact bh id λ_=>aq rfl
 |dict b kd es=>exact bh id λ_=>aq rfl
 |_=>exact aD
theorem jO(b:Bs)(h:Nat.ble (fp vs) 400=true):Nat.ble (eD ρ b++ax ρ vs).length ay=true:=by
 rw[cX]at h;exact Cb (by rw[Yz,cU];exact Yc (zak (DW hf b) (m3 h)) ak)
theorem vC:bg ρ F aI (ah ρ) (xf F a v) (M.append (ah ρ a) (ah ρ v)):=fP λs j o=>BC λb vs=>bh (jO hf b) λ_=>af (dK hf (Yd bu.list (by rw[mP,Zw];rfl))) λ_=>aq rfl
omit hf in
theorem FE:∀{p:List SV×SV},AP vs=some p->hO (ax ρ vs)=some (ax ρ p.1,ah ρ p.2):=by
 induction vs with
 |nil=>intro p h;exact nt h
 |cons a r i=>
  intro p h;obtain rfl:=si h;show some (match hO (ax ρ r)with|some p=>(ah ρ a::p.1,p.2)|none=>([],ah ρ a))=_;cases r with
  |nil=>rfl
  |cons b r=>rw[i (p:=Option.rec ([],b) (λp=>(b::p.1,p.2)) (AP r)) rfl];rfl
theorem CL:bg ρ F aI (ah ρ) (Hc F a) (M.popL (ah ρ a)):=fP λs j o=>mn λvs=>bh (λh=>jO hf .nil h) λ_=>fM λp e=>(al _ (FE e) (af (dK hf rfl) λ_=>aq rfl))
theorem sg:bg ρ F aI (ah ρ) (AS F a k d) (M.getD (ah ρ a) (ah ρ k) (ah ρ d)):=fP λs j o=>BE λb kd es=>bh (λh=>(fH h).1) λ_=>dM λr e=>by
 (refine(mR hf e).symm ▸?_)
 refine aq ?_;cases r<;>rfl
theorem FS(h:Md F b n=some l):ah ρ l= .int (((eD ρ b).length+n:Nat):Int):=by
 have go:∀{b l},((bK b F.bl).bind λl=>qI none l λx c=>some (.int x (Int.add c (.ofNat n))))=some l->ah ρ l= .int (((ρ.base b).length+n:Nat):Int):=by
  intro b l h;refine U (ob h) λw e h=>?_
  (refine bS (jg h nn) λx c q3 h=>?_;subst q3)
  (refine(si h) ▸?_)
  exact Yd V.int ((Zy ..).symm.trans (Yd (·+(n:Int)) (V.int.inj (hf.bl b _ e))))
 cases b with
 |nil=>(refine(si h) ▸?_);exact Yd V.int ((iu hf).trans (Yd Int.ofNat (zaz n).symm))
 |var b=>exact go h
 |set b i v=>(refine(show(eD ρ (.set b i v)).length=(ρ.base b).length from ia _ _ _).symm ▸?_);exact go h
theorem Fk:bg ρ F aI (ah ρ) (LU F a) (M.len (ah ρ a)):=by
 cases a with
 |tup vs=>
  show bg ρ F aI _ (iJ (Nat.ble (fp vs) ay) (dv (SV.int 0 (.ofNat (fp vs))))) (M.gd (Nat.ble (ax ρ vs).length ay) (M.pure (V.int ((ax ρ vs).length:Nat))));rw[cX,cU];exact bh id λ_=>aq (Yd V.int (iu hf))
 |obj s j=>
  refine af iR λo=>BC λb vs=>bh (jO hf b) λ_=>dM λl e=>aq ?_;rw[FS hf e,Yz,cU,cX]
 |_=>exact aD
theorem Fj:bg ρ F aI (ah ρ) (LT F s vs) (M.lst s (ax ρ vs)):=bh (λh=>jO hf .nil h) λ_=>j5 hf rfl
theorem xc:bg ρ F aI (ah ρ) (lo x) (M.loc x):=by
 intro S σ hs;unfold lo;cases e:bK x S.env with
 |none=>trivial
 |some v=>
  refine(al σ ?_ hs);unfold M.loc;rw[hs.env,ky,e];rfl
theorem jw(hs:jY ρ F aI S σ)(e:List (Nat×SV)):jY ρ F aI ⟨S.hp,e⟩ (σ.setE (bG ρ e)):=⟨rfl,hs.at_,hs.cnt,hs.fx,hs.ro,hs.inj,hs.fr,hs.len⟩
theorem pn:bg ρ F aI (λ_=>()) (bn x v) (M.bindN x (ah ρ v)):=by
 intro S σ hs;refine(al (σ.setE (bG ρ (zQ x v S.env))) ?_ (jw hf hs _));unfold M.bindN;rw[hs.env,sY]
end
structure EW(ρ:Ro)(F:Fx)(aI:St)(hi:GX)(h:Ih):Prop where
 e:∀x,bg ρ F aI (ah ρ) (hi.e x) (h.e x)
 b:∀x,bg ρ F aI id (hi.b x) (h.b x)
 s:∀x,bg ρ F aI (dS ρ) (hi.s x) (h.s x)
 c:∀f vs,bg ρ F aI (ah ρ) (hi.c f vs) (h.c f (ax ρ vs))
section
variable{ρ:Ro}{F:Fx}{aI:St}(hf:dZ ρ F aI){hi:GX}{h:Ih}(H:EW ρ F aI hi h)
include hf H
theorem fW(l:List Ex):bg ρ F aI (ax ρ) (rz hi l) (kK h l):=by
 induction l with
 |nil=>exact aq rfl
 |cons e r i=>exact af (H.e e) λv=>af i λvs=>aq rfl
theorem yU(ks:List Ex):∀vs,bg ρ F aI (dc ρ) (BK hi ks vs) (dN h ks vs):=by
 induction ks with
 |nil=>intro vs;exact aq rfl
 |cons k ks i=>
  intro vs;cases vs with
  |nil=>exact aq rfl
  |cons v vs=>exact af (H.e k) λa=>af (H.e v) λb=>af (i vs) λq=>aq rfl
omit hf H in
theorem xB(h1:Nat.beq (gJ v) kd=true)(h2:Nat.blt kd 3=true):cP (ah ρ v)=gJ v:=qi (by(refine(aB.mp h1).symm ▸?_);exact Y2 (Y7 (Yg h2)))
omit H in
theorem zD(h:pY F kd l=true):bf kd (dc ρ l)=true:=by
 induction l with
 |nil=>rfl
 |cons p l i=>
  refine X5.mpr ⟨X5.mpr ⟨X5.mpr ⟨by rw[xB (an (an (an h).1).1).1 (an (an (an h).1).1).2];exact(an (an (an h).1).1).1,(an (an (an h).1).1).2⟩,?_⟩,i (an h).2⟩;refine U (oa (an (an h).1).2) λr e e2=>?_;rw[qf hf e,ZL.mp e2];rfl
omit hf H in
theorem xA(h:pY F (wD l) l=true):ch (dc ρ l)=wD l:=by
 cases l with
 |nil=>rfl
 |cons p l=>exact xB (an (an (an h).1).1).1 (an (an (an h).1).1).2
omit H in
theorem CQ:bg ρ F aI (λ_=>()) (Hh F o kd ps) (M.fill (ah ρ o) kd (dc ρ ps)):=fP λs j ob=>BE λb k es=>by
 cases b with
 |some _=>exact aD
 |none=>
  refine bh (λe=>?_) λ_=>dK hf rfl;rw[YF.mp (an (an e).2).2];exact X5.mpr ⟨(an (an e).2).1,rfl⟩
theorem CR:bg ρ F aI (ah ρ) (AT F hi s ks vs) (lX pt h (.dict s ks vs)):=by
 unfold AT lX;refine af (j5 hf (mo:= .dict 0 []) rfl) λo=>?_;refine af (yU hf H ks vs) λps=>?_;refine bh (λhb=>?_) λhb=>?_
 ·rw[xA (an hb).1,zD hf (an hb).1,jR,<-cX];exact(an hb).2
 ·rw[xA (an hb).1];exact af (CQ hf) λ_=>aq rfl
theorem mE(k:∀t,bg ρ F aI d (f t) (g t)):bg ρ F aI d (bin (opt (uE F v)) f) (M.bind (M.opt (iG (ah ρ v))) g):=by
 refine af (d:=id) (fU λt e=>?_) λt=>k t
 (refine(w7 hf e).symm ▸?_);rfl
theorem Fq(l:List Ex):bg ρ F aI (ah ρ) (LX F hi l) (lL h l):=by
 induction l with
 |nil=>exact aD
 |cons e r i=>
  cases r with
  |nil=>exact H.e e
  |cons e' r=>
   refine af (H.e e) λv=>mE hf H λt=>?_;cases t with
   |false=>exact aq rfl
   |true=>exact i
theorem Jk(l:List Ex):bg ρ F aI (ah ρ) (Su F hi l) (pM h l):=by
 induction l with
 |nil=>exact aD
 |cons e r i=>
  cases r with
  |nil=>exact H.e e
  |cons e' r=>
   refine af (H.e e) λv=>mE hf H λt=>?_;cases t with
   |true=>exact aq rfl
   |false=>exact i
theorem Ft(l:List Ex):bg ρ F aI id (LY hi l) (ES h l):=by
 induction l with
 |nil=>exact aq rfl
 |cons e r i=>
  refine af (H.b e) λt=>?_;cases t with
  |false=>exact aq rfl
  |true=>exact i
theorem Fp(l:List Ex):bg ρ F aI id (LW hi l) (ER h l):=by
 induction l with
 |nil=>exact aq rfl
 |cons e r i=>
  refine af (H.b e) λt=>?_;cases t with
  |true=>exact aq rfl
  |false=>exact i
theorem oD(os:List o9):∀(a:SV) (es:List Ex),bg ρ F aI id (uY F hi a os es) (gq pt h (ah ρ a) os es):=by
 induction os with
 |nil=>intro a es;exact aD
 |cons o os i=>
  intro a es;cases es with
  |nil=>exact aD
  |cons e es=>
   refine af (H.e e) λb=>af (Fo hf) λt=>?_;cases os with
   |nil=>exact aq rfl
   |cons o' os=>
    cases t with
    |false=>exact aq rfl
    |true=>exact i b es
omit H in
theorem ly(h:l.isEmpty=true):(ax ρ l).isEmpty=true:=by rw[YF.mp h];rfl
theorem CN{mt:GW}{args:List SV}:bg ρ F aI (ah ρ) (Hf F hi mt a args) (M.meth h mt (ah ρ a) (ax ρ args)):=by
 cases mt with
 |own f=>exact H.c f (a::args)
 |app=>
  cases args with
  |nil=>exact aD
  |cons v r=>exact bh (ly hf) λ_=>vC hf
 |pop=>exact bh (ly hf) λ_=>CL hf
 |get=>
  cases args with
  |nil=>exact aD
  |cons v r=>
   cases r with
   |nil=>exact sg hf (d:= .none)
   |cons w q=>exact bh (ly hf) λ_=>sg hf
omit hf H in
theorem Jm(h:bg ρ F aI d f g):bg ρ F aI d (qN c6 a f) (M.oN (ah ρ a) g):=by
 cases a with
 |none=>exact h
 |_=>exact aD
theorem sf:bg ρ F aI (ah ρ) (AQ F hi c s f args) (M.made h c s f (ax ρ args)):=af (j5 hf rfl) λo=>af (H.c f (o::args)) λr=>Jm (aq rfl)
theorem CO:bg ρ F aI (ah ρ) (Hg F hi c s args) (M.make pt h c s (ax ρ args)):=fM λo e=>(al o e (by
 cases o with
 |none=>exact bh (ly hf) λ_=>j5 hf rfl
 |some f=>exact bh id λ_=>sf hf H))
omit hf H in
theorem y9(h:rQ vs=some v):rQ (ax ρ vs)=some (ah ρ v):=by
 cases vs with
 |nil=>exact nt h
 |cons a r=>
  obtain⟨e,g⟩:=bY h
  (refine(si g).symm ▸?_;refine(YF.mp e).symm ▸?_);rfl
omit hf H in
theorem Jn(e:ah ρ v= .int i)(h:bg ρ F aI d ms (f i)):bg ρ F aI d ms (M.oI (ah ρ v) f):=by rw[e];exact h
omit hf H in
theorem Fh(e:o=some a)(h:bg ρ F aI d ms (f a)):bg ρ F aI d ms (M.of o f):=by rw[e];exact h
theorem Fg:bg ρ F aI (ah ρ) (LR F hi s a b) (lX pt h (.rep s a b)):=by
 refine af (H.e a) λx=>af (H.e b) λy=>dM λn hy=>?_;refine U (jC hf hy) λi e1 e2=>?_;exact Jn e1 (Fh e2 (fP λ_ _ o=>mn λvs=>fM λv hv=>(al _ (y9 hv) (bh id λ_=>j5 hf (Yd bu.list (DP ..))))))
theorem Fi:bg ρ F aI (ah ρ) (LS hi a) (lX pt h (.neg a)):=by
 refine af (H.e a) λv=>?_;cases v with
 |int x c=>
  refine(show bg ρ F aI (ah ρ) (iJ (Nat.beq x 0) (dv (.int 0 (Int.neg c)))) (M.pure (V.int (-(ρ.int x+c))))from ?_);refine uu (Nat.beq x 0) (λe=>?_) λe=>?_
  ·rw[e];exact aD
  ·rw[aB.mp e,iu hf];exact aq (Yd V.int (iu hf))
 |_=>exact aD
theorem G6(e:Option Ex):bg ρ F aI (ah ρ) (sO hi e) (GQ h e):=by
 cases e with
 |none=>exact aq rfl
 |some e=>exact H.e e
theorem MU:∀e,bg ρ F aI (ah ρ) (sE F hi e) (lX pt h e)
 | .loc x=>xc hf
 | .glb x=>by
  refine fU λa e=>?_;refine dJ (pt.const x) (λe2=>?_) λv e2=>?_
  ·rw[e2]at e;exact nt e
  ·rw[e2];rw[e2]at e;obtain rfl:=Yi e;rw[mQ v hf.z]
 | .k v=>aq (mQ v hf.z)
 | .tup es=>af (fW hf H es) λvs=>aq rfl
 | .list s es=>af (fW hf H es) λvs=>Fj hf
 | .dict s ks vs=>CR hf H
 | .bin o a b=>af (H.e a) λx=>af (H.e b) λy=>fU λv e=>Gr hf e
 | .rep s a b=>Fg hf H
 | .neg a=>Fi hf H
 | .not a=>af (H.e a) λv=>mE hf H λt=>aq rfl
 | .and es=>Fq hf H es
 | .or es=>Jk hf H es
 | .cmp a os bs=>af (H.e a) λx=>af (oD hf H os x bs) λt=>aq rfl
 | .ite c a b=>af (H.b c) λt=>by cases t;exact H.e b;exact H.e a
 | .attr a x=>af (H.e a) λv=>sj hf
 | .sub a b=>af (H.e a) λx=>af (H.e b) λy=>CP hf
 | .slice s a lo zW=>af (H.e a) λx=>af (G6 hf H lo) λl=>af (G6 hf H zW) λu=>yS hf
 | .call f args=>af (fW hf H args) λvs=>H.c f vs
 | .new c s args=>af (fW hf H args) λvs=>CO hf H
 | .meth o x args=>af (H.e o) λa=>af (CK hf) λmt=>af (fW hf H args) λvs=>CN hf H
 | .len a=>af (H.e a) λv=>Fk hf
 | .hole=>aD
theorem CG(e:Ex):bg ρ F aI id (bin (hi.e e) λv=>opt (uE F v)) (M.bind (h.e e) λv=>M.opt (iG v)):=af (H.e e) λv=>fU λt e=>by(refine(w7 hf e).symm ▸?_);rfl
theorem MR:∀e,bg ρ F aI id (sT F hi e) (stepT pt h e)
 | .not a=>af (H.b a) λt=>aq rfl
 | .and es=>Ft hf H es
 | .or es=>Fp hf H es
 | .ite c a b=>af (H.b c) λt=>by cases t;exact H.b b;exact H.b a
 | .cmp a os bs=>af (H.e a) λx=>oD hf H os x bs
 | .loc _| .glb _| .k _| .tup _| .list _ _| .dict _ _ _| .bin _ _ _| .rep _ _ _| .neg _| .attr _ _| .sub _ _| .slice _ _ _ _| .call _ _| .new _ _ _| .meth _ _ _| .len _| .hole=>CG hf H _
end
section
variable{ρ:Ro}{F:Fx}{aI:St}
theorem gR(k:bg ρ F aI d ms m):bg ρ F aI d (mj ms) (M.calm m):=by
 intro S σ hs;have:=k S σ hs;unfold mj;cases e:ms S with
 |no=>trivial
 |ok a S'=>
  rw[e]at this
  (refine U this λσ' e1 h2=>?_;clear this)
  exact(al σ' (by unfold M.calm;rw[e1]) h2)
 |ex b s j c S'=>trivial
theorem CI:bg ρ F aI (λ_=>()) (G9 s j vs) (jn s (ρ.ix s j) (ax ρ vs)):=af iR λo=>mn λus S σ hs=>by
 cases e:SV.beqs us vs with
 |false=>trivial
 |true=>exact(al σ (by rw[qt e,V.beqs_self];rfl) hs)
theorem F7(hf:dZ ρ F aI):∀{q:List V},IS l=some q->ax ρ l=q:=by
 induction l with
 |nil=>intro q h;exact si h
 |cons v l i=>
  intro q h
  (refine bS (jg h nn) λx c q3 h=>?_;subst q3)
  obtain⟨e,h⟩:=bY h
  (refine U (om h) λq' e2 q3=>?_;subst q3)
  show V.int (ρ.int x+c)::ax ρ l=_;rw[aB.mp e,iu hf,i e2]
theorem CJ{ms:MS α}{m:M β}(hf:dZ ρ F aI)(k:bg ρ F aI d ms m):bg ρ F aI d (AV e ms) (M.restore (bG ρ e) m):=by
 intro S σ hs;have:=k S σ hs;unfold AV;cases e1:ms S with
 |no=>trivial
 |ok a S'=>
  rw[e1]at this
  (refine U this λσ' e2 h2=>?_;clear this)
  exact(al _ (by unfold M.restore;rw[e2]) (jw hf h2 _))
 |ex b s j c S'=>
  rw[e1]at this
  (refine U this λσ' e2 h2=>?_;clear this)
  exact(al _ (by unfold M.restore;rw[e2]) (jw hf h2 _))
variable(hf:dZ ρ F aI){hi:GX}{h:Ih}(H:EW ρ F aI hi h)
include hf H
theorem cJ(l:List Sm):bg ρ F aI (dS ρ) (dC hi l) (execs h l):=by
 induction l with
 |nil=>exact aq rfl
 |cons s r i=>
  refine af (H.s s) λf=>?_;cases f with
  |next=>exact i
  |ret v=>exact aq rfl
omit H in
theorem tl(xs:List Nat):∀vs,bg ρ F aI (λ_=>()) (mH xs vs) (bindAll xs (ax ρ vs)):=by
 induction xs with
 |nil=>
  intro vs;cases vs with
  |nil=>exact aq rfl
  |cons _ _=>exact aD
 |cons x xs i=>
  intro vs;cases vs with
  |nil=>exact aD
  |cons v vs=>
   show bg ρ F aI (λ_=>()) (bin (bn x v) λ_=>mH xs vs) (M.bind (M.bindN x (ah ρ v)) λ_=>bindAll xs (ax ρ vs));exact af (pn hf) λ_=>i vs
omit hf H in
theorem Jl(h:∀vs,bg ρ F aI d (f vs) (g (ax ρ vs))):bg ρ F aI d (qT c6 a f) (M.oT (ah ρ a) g):=by
 cases a with
 |tup vs=>exact h vs
 |_=>exact aD
theorem mU:bg ρ F aI (λ_=>()) (pZ F hi t v) (assign h t (ah ρ v)):=by
 cases t with
 |loc x=>exact pn hf
 |attr o x=>exact af (H.e o) λa=>kM hf
 |sub o i=>exact af (H.e o) λa=>af (H.e i) λk=>tf hf
 |tup xs=>
  exact Jl λvs=>tl hf xs vs
theorem mF(hc:bg ρ F aI (λ_=>()) cs c)(l:List SV):bg ρ F aI (dS ρ) (wC F hi cs t b l) (bX h c t b (ax ρ l)):=by
 induction l with
 |nil=>exact aq rfl
 |cons v r i=>
  refine af (mU hf H) λ_=>af (cJ hf H b) λf=>?_;cases f with
  |next=>exact af hc λ_=>i
  |ret u=>exact aq rfl
omit hf H in
theorem Jp:bg ρ F aI d (λS=> .ex je s j c S) (λσ=>some (.exc je s (ρ.ix s j) c,σ)):=λS σ hs=>(al σ rfl hs)
omit H in
theorem yT:bg ρ F aI (dS ρ) (BJ F c s j) (M.raise pt c s (ρ.ix s j)):=af iR λo=>BD λc' fs=>bh (λh=>by cases fs<;>exact h) λ_=>by
 show bg ρ F aI (dS ρ) _ (M.bind (M.put s (ρ.ix s j) (.gone c' (bG ρ fs))) λ_ σ=>some (.exc false s (ρ.ix s j) c',σ));exact af (dK hf rfl) λ_=>Jp
theorem tj:bg ρ F aI (ah ρ) (sm F hi c s args) (M.makeExc pt h c s (ax ρ args)):=fM λo e=>(al o e (fM λf e2=>(al f e2 (bh (λg=>by rw[cX]at g;rw[cU];exact g) λ_=>sf hf H))))
theorem vB:bg ρ F aI (dS ρ) (xe F hi c s args) (oi pt h (.raise c s args)):=af (fW hf H args) λvs=>af (tj hf H) λo=>BB λs j=>yT hf
omit hf H in
theorem Jo(h:∀c fs,bg ρ F aI d (f c fs) (g c (bG ρ fs))):bg ρ F aI d (jG c6 o f) (M.kG (aC ρ o) g):=by
 cases o with
 |gone c fs=>exact h c fs
 |_=>exact aD
omit H in
theorem Fe(k:bg ρ F aI (dS ρ) ms m):bg ρ F aI (dS ρ) (LQ x ms) (M.unE x m):=af (gR k) λf S σ hs=>(al (σ.setE (bG ρ (Iy x S.env))) (by rw[hs.env,DR]) (jw hf hs _))
omit H in
theorem Ff(k:bg ρ F aI (dS ρ) ms m)(kh:bg ρ F aI (dS ρ) iD hm):bg ρ F aI (dS ρ) (ID F c x ms iD) (M.catch c x m hm):=by
 intro S σ hs;have h1:=k S σ hs;unfold ID;cases e:ms S with
 |no=>trivial
 |ok f S'=>
  rw[e]at h1
  (refine U h1 λσ' e2 h3=>?_;clear h1)
  exact(al σ' (by unfold M.catch;rw[e2]) h3)
 |ex je s j c' S'=>
  rw[e]at h1
  (refine U h1 λσ' e2 h3=>?_;clear h1)
  cases je with
  |false=>trivial
  |true=>
   (refine((show M.catch c x m hm σ=M.handle c x s (ρ.ix s j) c' hm σ' from by unfold M.catch;rw[e2];rfl)).symm ▸?_)
   exact(af iR λo=>Jo λLB fs=>bh id λ_=>af (dK hf rfl) λ_=>af (pn hf) λ_=>Fe hf kh) S' σ' h3
theorem Ji:bg ρ F aI (dS ρ) (Ss hi c b) (oi pt h (.wh c b)):=by
 refine gR (af (H.b c) λt=>?_);cases t with
 |false=>exact aq rfl
 |true=>
  refine af (cJ hf H b) λf=>?_;cases f with
  |next=>exact H.s _
  |ret v=>exact aq rfl
theorem CM:bg ρ F aI (dS ρ) (He F hi t b v) (match ah ρ v with
   | .tup vs=>M.calm (bX h (M.pure ()) t b vs)
   | .obj s i=>M.bind (M.get s i) λo=>M.kL o λvs=>M.gd (Nat.ble vs.length ay) (M.calm (bX h (jn s i vs) t b vs))
   |_=>M.fail):=by
 cases v with
 |tup vs=>exact gR (mF hf H (aq (a:=()) (b:=()) rfl) _)
 |obj s j=>exact af iR λo=>mn λvs=>bh (λg=>by rw[cX]at g;rw[cU];exact g) λ_=>gR (mF hf H CI _)
 |_=>exact aD
theorem Fm:bg ρ F aI (dS ρ) (LV F hi t it b) (oi pt h (.for t it b)):=by
 cases it with
 |range args=>
  refine af (fW hf H args) λvs=>dM λus e=>dM λl e2=>?_;rw[F7 hf e,e2];have:=gR (mF hf H (aq (a:=()) (b:=()) rfl) (t:=t) (b:=b) (lY l));rw[jb l hf.z]at this;exact this
 |over e=>exact af (H.e e) λv=>CM hf H
theorem MT:∀s,bg ρ F aI (dS ρ) (sS F hi s) (oi pt h s)
 | .expr e=>af (H.e e) λ_=>aq rfl
 | .asg t e=>af (H.e e) λv=>af (mU hf H) λ_=>aq rfl
 | .augN x o e=>af (xc hf) λa=>af (H.e e) λb=>af (fU λv e=>xO hf e) λv=>af (pn hf) λ_=>aq rfl
 | .augA a x o e=>af (H.e a) λq=>af (sj hf) λu=>af (H.e e) λb=>af (fU λv e=>xO hf e) λv=>af (kM hf) λ_=>aq rfl
 | .ite c t e=>af (H.b c) λb=>by cases b;exact cJ hf H e;exact cJ hf H t
 | .wh c b=>Ji hf H
 | .for t it b=>Fm hf H
 | .ret none=>aq rfl
 | .ret (some e)=>af (H.e e) λv=>aq rfl
 | .try b c x hd=>Ff hf (cJ hf H b) (cJ hf H hd)
 | .raise c s args=>vB hf H
 | .hole=>aD
omit hf H in
theorem EZ:∀{vs:List SV} {e:List (Nat×SV)},Ep xs vs=some e->pa xs (ax ρ vs)=some (bG ρ e):=by
 induction xs with
 |nil=>
  intro vs e h;cases vs with
  |nil=>(refine(si h) ▸?_);rfl
  |cons _ _=>exact nt h
 |cons x xs i=>
  intro vs e h;cases vs with
  |nil=>exact nt h
  |cons v vs=>
   have h1:(Option.rec none (λq=>some ((x,v)::q)) (Ep xs vs):Option (List (Nat×SV)))=some e:=h;refine dJ (Ep xs vs) (λe1=>?_) λq e1=>?_
   ·rw[e1]at h1;exact nt h1
   ·
    rw[e1]at h1
    (refine(si h1) ▸?_)
    exact Yd (Option.map ((x,ah ρ v)::·)) (i e1)
theorem BF:bg ρ F aI (ah ρ) (Pw hi f args) (rM pt h f (ax ρ args)):=by
 refine fM (o:=pt.fn f) λfn e=>(al fn e (dM λenv e2=>?_))
 (refine(EZ e2).symm ▸?_)
 intro S σ hs
 have:=CJ (e:=S.env) hf (show bg ρ F aI (ah ρ) (bin (se env) λ_=>bin (dC hi fn.body) λr=>jZ.rec (motive:=λ_=>MS SV) (dv .none) (λv=>dv v) r) (M.bind (M.setE (bG ρ env)) λ_=>M.bind (execs h fn.body) λr=>match r with| .next=>M.pure .none| .ret v=>M.pure v)from by
  refine af (d:=λ_:Unit=>()) (λS σ hs=>(al _ rfl (jw hf hs _))) λ_=>?_;refine af (cJ hf H fn.body) λr=>?_;cases r with
  |next=>exact aq rfl
  |ret v=>exact aq rfl) S σ hs
 rw[<-hs.env]at this;exact this
end
section
variable{ρ:Ro}{F:Fx}{aI:St}(hf:dZ ρ F aI)
include hf
theorem MV(hn:n<=m)(H:EW ρ F aI hi (run pt m))(f:Nat)(args:List SV):bg ρ F aI (ah ρ) (sC F hi (n+1) f args) (rM pt (run pt m) f (ax ρ args)):=by
 unfold sC;cases e:bK f F.ca with
 |none=>exact BF hf H
 |some l=>
  dsimp only;refine dJ (OV args l) (λe2=>?_) λr e2=>?_
  ·rw[e2];exact BF hf H
  ·
   rw[e2];dsimp only;intro S σ hs;rw[Ce];refine uu ((F.pre S&&Nat.ble F.cf (n+1))) (λe3=>?_) λe3=>?_
   ·rw[e3];trivial
   ·
    rw[e3];simp only[Ye]at e3;exact(hf.ca f l args r e e2 S σ hs e3.1 (m+1) (Yc (Yg e3.2) (ZH ‹_›)))
theorem jv:∀n m,n<=m->EW ρ F aI (pd F n) (run pt m)
 |0,m,_=>⟨λ_=>aD,λ_=>aD,λ_=>aD,λ_ _=>aD⟩
 |n+1,0,hm=>absurd hm (absurd ‹_› (zad _))
 |n+1,m+1,hm=>by
  have H:=jv n m (zaD ‹_›);exact⟨MU hf H,MR hf H,MT hf H,λf vs=>MV hf (zaD ‹_›) H f vs⟩
end
noncomputable def OT (p:Nat->SL) (d:Nat):Nat->Nat->Tr SL:=Nat.rec (λ_ a=> .f a (p a)) (λ_ ih q a=> .n (ih (Nat.mul 2 q) a) (ih (Nat.mul 2 q) (Nat.add a q))) d
abbrev bw:=List (Nat×List (Nat×SO))
def BA(es:bw)(s:Nat):SL:=⟨0,Option.rec [] (λl=>l) (bK s es)⟩
def VL(es:bw):Tr SL:=List.rec (OT (BA []) 7 1 0) (λp _ t=>t.put p.1 ⟨0,p.2⟩) es
def um(es:bw)(env:List (Nat×SV)):fk:=⟨VL es,env⟩
def aQ(es:bw)(s j:Nat):Option SO:=match bK s es with
 |some l=>bK j l
 |none=>none
structure LI(yg:Nat->Bool)(σ σ':St):Prop where
 env:σ'.env=σ.env
 keep:∀s i o,nth (σ.heap s) i=some o->nth (σ'.heap s) i=some o
 len:∀s,yg s=false->(σ'.heap s).length=(σ.heap s).length
 mono:∀s,(σ.heap s).length<=(σ'.heap s).length
theorem jY.ext(hs:jY ρ F aI S σ)(x:LI yg σ σ')(hd:∀s,md F s≠4->yg s=false):jY ρ F aI S σ':=
 ⟨x.env.trans hs.env,λs j o h=>x.keep _ _ _ (hs.at_ s j o h),λs L h h2=>by rw[x.len s (hd s h2)];exact hs.cnt s L h h2,λs h4 ha=>by rw[x.len s (hd s h4)];exact hs.fx s h4 ha,λs hw i o h=>x.keep _ _ _ (hs.ro s hw i o h),hs.inj,λs i o h hk=>x.keep _ _ _ (hs.fr s i o h hk),λs=>Yc (hs.len s) (x.mono s)⟩
theorem CT(hm:m σ1=m σ)(h:M.restore e m σ1=some (.ok v,σ')):M.restore e' m σ=some (.ok v,σ'.setE e'):=by
 unfold M.restore at h⊢;rw[hm]at h;refine dJ (m σ) (λe3=>?_) λr e3=>?_
 ·rw[e3]at h;exact nt h
 ·
  (refine(e3).symm ▸?_)
  rw[e3]at h;obtain⟨r,dz⟩:=r;cases r with
  |exc _ _ _ _=>exact er h
  |ok a=>obtain⟨h1,rfl⟩:=sp h;injection h1 with h1;(refine(h1).symm ▸?_);rfl
theorem s9(h:(run pt m).c f vs (σ.setE e)=some (.ok v,σ')):(run pt m).c f vs σ=some (.ok v,σ'.setE σ.env):=by
 cases m with
 |zero=>exact nt h
 |succ m=>
  refine U (gH h) λfn e1 h=>?_;refine U (gH h) λenv e2 h=>?_;show rM pt (run pt m) f vs σ=_;unfold rM
  (refine(e1).symm ▸?_)
  show M.of (pa fn.params vs) _ σ=_
  (refine(e2).symm ▸?_)
  exact CT (e:=e) (by rfl) h
theorem FM(p:Nat->SL)(k d:Nat):∀{q a j:Nat} {L:SL},dY k (OT p d q a) j=some L->L=p k:=by
 induction d with
 |zero=>
  intro q a j L h;have h1:(bif Nat.beq a k then some (p a)else none)=some L:=h;refine cY (Nat.beq a k) (λe=>?_) λe=>?_
  ·rw[e]at h1;(refine(si h1) ▸?_;refine(aB.mp e).symm ▸ rfl)
  ·rw[e]at h1;exact nt h1
 |succ d i=>
  intro q a j L h;have h1:(bif Nat.beq (Nat.mod j 2) 0 then dY k (OT p d (Nat.mul 2 q) a) (Nat.div j 2)else dY k (OT p d (Nat.mul 2 q) (Nat.add a q)) (Nat.div j 2))=some L:=h;refine cY (Nat.beq (Nat.mod j 2) 0) (λe=>?_) λe=>?_
  ·rw[e]at h1;exact i h1
  ·rw[e]at h1;exact i h1
theorem NG(k:Nat)(v:α)(t:Tr α):∀{j:Nat} {u:α},dY k (kZ k v t j) j=some u->u=v:=by
 induction t with
 |e=>intro j u h;exact nt h
 |f q w=>
  intro j u h;rw[ON]at h;refine cY (Nat.beq q k) (λe=>?_) λe=>?_
  ·rw[e]at h;rw[Zl,GO,e]at h;exact(si h).symm
  ·rw[e]at h;rw[zai,GO,e]at h;exact nt h
 |n l r il ir=>
  intro j u h;rw[OM]at h;refine cY (Nat.beq (Nat.mod j 2) 0) (λe=>?_) λe=>?_
  ·rw[e]at h;rw[Zl,GN,e]at h;exact il h
  ·rw[e]at h;rw[zai,GN,e]at h;exact ir h
theorem xt(es:bw)(env:List (Nat×SV))(h:(um es env).hp.get s=some L):L=BA es s:=by
 revert L
 induction es with
 |nil=>intro L h;exact FM _ s 7 ((Tr.get_eq ..).symm.trans h)
 |cons p es i=>
  intro L h;have h:(Tr.put (um es env).hp p.1 ⟨0,p.2⟩).get s=some L:=h;show L=⟨0,Option.rec [] (λl=>l) (bK s (p::es))⟩;rw[bO];refine cY (Nat.beq p.1 s) (λe=>?_) λe=>?_
  ·rw[e];obtain rfl:=aB.mp e;rw[Tr.get_eq,Tr.put_eq]at h;exact NG _ _ _ h
  ·rw[e];rw[Tr.get_put_ne (jh e)]at h;exact i h
theorem qd(es:bw)(env:List (Nat×SV))(h:(um es env).get s j=some o):aQ es s j=some o:=by
 rw[fk.get_def]at h;refine dJ ((um es env).hp.get s) (λe=>?_) λL e=>?_
 ·rw[e]at h;exact nt h
 ·
  rw[e]at h;obtain rfl:=xt es env e;unfold aQ;have h:bK j (Option.rec [] (λl=>l) (bK s es):List (Nat×SO))=some o:=h;refine dJ (bK s es) (λe2=>?_) λl e2=>?_
  ·rw[e2]at h;exact nt h
  ·(refine(e2).symm ▸?_);rw[e2]at h;exact h
section
variable{ρ:Ro}{F:Fx}{es:bw}{env:List (Nat×SV)}{σ:St}
theorem wH(h0:∀s,ρ.len0 s=(σ.heap s).length)(he:σ.env=bG ρ env)(h1:∀s j o,aQ es s j=some o->nth (σ.heap s) (ρ.ix s j)=some (aC ρ o))(h2:∀s j k a b,aQ es s j=some a->aQ es s k=some b->ρ.ix s j=ρ.ix s k->j=k):jY ρ F σ (um es env) σ where
 env:=he
 at_ s j o h:=h1 s j o (qd es env h)
 cnt s L h _:=by rw[xt es env h,h0];rfl
 fx s _ _:=rfl
 ro s _ i o h:=h
 inj s j k a b ha hb h:=h2 s j k a b (qd es env ha) (qd es env hb) h
 fr s i o h _:=h
 len s:=Yv _
noncomputable def jk {α:Type} (p:Nat->α->Bool):Tr α->Bool
 | .e=>true
 | .f k v=>p k v
 | .n l r=>jk p l&&jk p r
theorem Ds(k:Nat)(t:Tr α):∀{j:Nat} {v:α},jk p t=true->dY k t j=some v->p k v=true:=by
 induction t with
 |e=>intro j v _ h;exact nt h
 |f q u=>
  intro j v h1 h;have h:(bif Nat.beq q k then some u else none)=some v:=h;refine cY (Nat.beq q k) (λe=>?_) λe=>?_
  ·rw[e]at h;(refine(si h) ▸?_;refine(aB.mp e) ▸?_);exact h1
  ·rw[e]at h;exact nt h
 |n l r il ir=>
  intro j v h1 h;have h:(bif Nat.beq (Nat.mod j 2) 0 then dY k l (Nat.div j 2)else dY k r (Nat.div j 2))=some v:=h;refine cY (Nat.beq (Nat.mod j 2) 0) (λe=>?_) λe=>?_
  ·rw[e]at h;exact il (an h1).1 h
  ·rw[e]at h;exact ir (an h1).2 h
theorem md_all(h:jk p F.mo=true)(s:Nat):md F s=0\/p s (md F s)=true:=by
 unfold md;rw[Tr.get_eq];refine dJ (dY s F.mo s) (λe=>?_) λv e=>?_
 ·rw[e];exact .inl rfl
 ·rw[e];exact .inr (Ds s F.mo h e)
def eK(F:Fx)(n f:Nat)(args:List SV)(es:bw)(r:SV):Bool:=O.rec false (λv _=>v.beq r) (λ_ _ _ _ _=>false) ((pd F n).c f args (um es []))
def yg(F:Fx)(s:Nat):Bool:= !Nat.beq (md F s) 0
theorem d8(hf:dZ ρ F (σ.setE []))(h1:∀s j o,aQ es s j=some o->nth (σ.heap s) (ρ.ix s j)=some (aC ρ o))(h2:∀s j k a b,aQ es s j=some a->aQ es s k=some b->ρ.ix s j=ρ.ix s k->j=k)(D9:jk (λ_ v=>Nat.beq v 1||Nat.beq v 4) F.mo=true)(hm:n<=m)(cy:eK F n f args es r=true):∃σ',(run pt m).c f (ax ρ args) σ=some (.ok (ah ρ r),σ')/\LI (yg F) σ σ':=by
 have:=(jv hf n m hm).c f args _ _ (show jY ρ F (σ.setE []) (um es []) (σ.setE [])from wH hf.l0 rfl h1 h2);unfold eK at cy;have Tl:=λs=>(md_all D9 s).imp id λh=>(YW.mp h).imp aB.mp aB.mp;cases e:(pd F n).c f args (um es [])with
 |no=>rw[e]at cy;exact nf cy
 |ex b s j c S=>rw[e]at cy;exact nf cy
 |ok v S=>
  rw[e]at cy this
  (refine U this λσ' e1 iD=>?_;clear this)
  have ev:=beq_eq cy;subst ev;refine⟨σ'.setE σ.env,s9 e1,rfl,?_,?_,?_⟩
  ·intro s i o h;exact iD.ro s (by rcases Tl s with h|h|h<;>rw[h]<;>rfl) i o h
  ·intro s h;have h0:md F s=0:=by
    rcases Tl s with h1|h1|h1
    ·exact h1
    ·unfold yg at h;rw[h1]at h;exact ng h
    ·unfold yg at h;rw[h1]at h;exact ng h
   exact iD.fx s (by rw[h0];decide) (by rw[h0];rfl)
  ·exact iD.len
end
theorem J{P:α->Prop}:∀x∈([]:List α),P x:=λ_ h=>absurd h Yl
theorem ac{P:α->Prop}(h:P a)(t:∀x∈l,P x):∀x∈a::l,P x:=λx hx=>by
 rcases X9.mp hx with rfl|hx
 ·exact h
 ·exact t x hx
theorem aX(h:bK x l=some v):(x,v)∈l:=by
 induction l with
 |nil=>exact nt h
 |cons p l i=>
  rw[bO]at h;refine cY (Nat.beq p.1 x) (λe=>?_) λe=>?_
  ·rw[e]at h;(refine(si h) ▸?_;refine(aB.mp e) ▸?_);exact .head _
  ·rw[e]at h;exact .tail _ (i h)
theorem IM{β:Type}{u v:β}{o:Option β}(h: @Bool.rec (λ_=>Option β) o (some u) b=some v):(b=true/\u=v)\/o=some v:=by
 cases b with
 |true=>exact .inl ⟨rfl,si h⟩
 |false=>exact .inr h
theorem xy(h:Ig x l=some v):(x,v)∈l:=by
 induction l with
 |nil=>exact nt h
 |cons p l i=>
  rcases IM h with⟨e,rfl⟩|h
  ·(refine(beq_eq e) ▸?_);exact .head _
  ·exact .tail _ (i h)
theorem qg{α:Type}{v:α}{l:List ((SV×SV)×α)}(h:wu a b l=some v):((a,b),v)∈l:=by
 induction l with
 |nil=>exact nt h
 |cons p l i=>
  rcases IM h with⟨e,rfl⟩|h
  ·(refine(beq_eq (an e).1) ▸?_;refine(beq_eq (an e).2) ▸?_);exact .head _
  ·exact .tail _ (i h)
theorem FQ(h:OV a l=some v):(a,v)∈l:=by
 induction l with
 |nil=>exact nt h
 |cons p l i=>
  rcases IM h with⟨e,rfl⟩|h
  ·(refine(qt e) ▸?_);exact .head _
  ·exact .tail _ (i h)
structure uv(ρ:Ro)(F:Fx)(aI:St):Prop where
 z:ρ.int 0=0
 bd:∀p∈F.bd,p.2.1<=ρ.int p.1/\ρ.int p.1<=p.2.2
 st:∀n,rl (ρ.str n)=true
 bn:∀b,(ρ.base b).length<=500
 dn:∀b,(ρ.dbase b).length<=500
 bl:∀p∈F.bl,ah ρ p.2= .int ((ρ.base p.1).length:Nat)
 it:∀p∈F.it,∀q∈p.2,∃n:Nat,ah ρ q.1= .int n/\n<=500/\nth (ρ.base p.1) n=some (ah ρ q.2)
 dt:∀p∈F.dt,∀q∈p.2,aO (ah ρ q.1) (ρ.dbase p.1)=some (ah ρ q.2)
 op:∀p∈F.op,∀q∈p.2,∀o,ny o=p.1->bZ o (ah ρ q.1.1) (ah ρ q.1.2)=some (ah ρ q.2)
 eq:∀p∈F.eq,(p.2=true↔ah ρ p.1.1=ah ρ p.1.2)
 le:∀p∈F.le,∀i j,ah ρ p.1.1= .int i->ah ρ p.1.2= .int j->p.2=decide (i<=j)
 nw:∀s k,ρ.ix s (1000+k)=ρ.len0 s+k
 l0:∀s,ρ.len0 s=(aI.heap s).length
 ca:∀p∈F.ca,∀q∈p.2,∀S σ,jY ρ F aI S σ->F.pre S=true->∀m,F.cf<=m->∃σ',(run pt m).c p.1 (ax ρ q.1) σ=some (.ok (ah ρ q.2),σ')/\jY ρ F aI S σ'
theorem uv.ok(h:uv ρ F aI):dZ ρ F aI where
 z:=h.z
 bd x p e:=h.bd _ (aX e)
 st:=h.st
 bn:=h.bn
 dn:=h.dn
 bl b v e:=h.bl _ (aX e)
 it b l k v e e2:=h.it _ (aX e) _ (xy e2)
 dt b l k v e e2:=h.dt _ (aX e) _ (xy e2)
 op o a b l v e e2:=h.op _ (aX e) _ (qg e2) o rfl
 eq a b t e:=h.eq _ (qg e)
 le a b t e:=h.le _ (qg e)
 nw:=h.nw
 l0:=h.l0
 ca f l args r e e2:=h.ca _ (aX e) _ (FQ e2)
def aJ(W:St->Prop)(yg:Nat->Bool)(c f:Nat)(args:List V)(r:V):Prop:=∀σ,W σ->∀m,c<=m->∃σ',(run pt m).c f args σ=some (.ok r,σ')/\LI yg σ σ'
noncomputable def gens (tu:SV) (ts:Nat):bw:= [
 (ts, [(0, .list .nil [])]),
 (14, [(0, .inst 175 [])]),
 (15, [(0, .inst 177 [])]),
 (16, [(0, .inst 179 [])]),
 (17, [(0, .inst 181 [])]),
 (33, [(0, .dict none 1 [((.str [98,111,111,108]),(.int 0 1)),((.str [99,104,97,114]),(.int 0 2)),((.str [105,49]),(.int 0 3)),((.str [117,49]),(.int 0 4)),((.str [105,50]),(.int 0 5)),((.str [117,50]),(.int 0 6)),((.str [105,52]),(.int 0 7)),((.str [117,52]),(.int 0 8)),((.str [105,56]),(.int 0 9)),((.str [117,56]),(.int 0 10)),((.str [110,105,110,116]),(.int 0 11)),((.str [111]),(.int 0 12)),((.str [116]),(.int 0 13)),((.str [97]),(.int 0 16)),((.str [105]),(.int 0 17)),((.str [101]),(.int 0 18)),((.str [102]),(.int 0 19)),((.str [115]),(.int 0 20)),((.str [103]),(.int 0 21)),((.str [104]),(.int 0 22)),((.str [63,105,52]),(.int 0 23)),((.str [63,117,49]),(.int 0 24)),((.str [63,101]),(.int 0 25)),((.str [63,115]),(.int 0 26)),((.str [63,104]),(.int 0 27))])]),
 (34, [(0, .list .nil [.none, .none, .none, .none, .none, .none, .none, .none, .none, .none, .none, .none, .none, .none, .none, .none, .none, .none, .none, .none, .none, .none, .none, .none, .none, .none, .none, .none, .none, .none, .none, .none, .none, .none, .none, .none, .none, .none, .none, .none, .none, .none, .none, .none, .none, .none, .none, .none, .none, .none, .none, .none, .none, .none, .none, .none, .none, .none, .none, .none, .none, .none, .none, .none, .none, .none,(.obj 36 0),(.obj 36 1),(.obj 36 2),(.obj 36 3)])]),
 (36, [(0, .inst 233 [(37,(.int 0 66)),(188,(.str [101])),(6,(.int 0 5)),(270,(.int 0 0)),(271,(.int 0 (-1))),(274,(.obj 66 0)),(272,(.obj 67 0)),(275,(.obj 68 0)),(276,(.obj 69 0)),(278,(.obj 70 0)),(279,(.obj 71 0)),(273,(.int 0 1)),(280,(.int 0 0)),(47,(.int 6 0)),(281,(.obj 72 0)),(282,(.obj 73 0)),(283,(.obj 74 0)),(284,(.int 0 0)),(285,(.int 0 0))]),(1, .inst 233 [(37,(.int 0 67)),(188,(.str [102])),(6,(.int 0 5)),(270,(.int 0 0)),(271,(.int 0 (-1))),(274,(.obj 66 1)),(272,(.obj 67 1)),(275,(.obj 68 1)),(276,(.obj 69 1)),(278,(.obj 70 1)),(279,(.obj 71 1)),(273,(.int 0 1)),(280,(.int 0 0)),(47,(.int 7 0)),(281,(.obj 72 1)),(282,(.obj 73 1)),(283,(.obj 74 1)),(284,(.int 0 0)),(285,(.int 0 0))]),(2, .inst 233 [(37,(.int 0 68)),(188,(.str [115])),(6,(.int 0 2)),(270,(.int 0 0)),(271,(.int 0 (-1))),(274,(.obj 66 2)),(272,(.obj 67 2)),(275,(.obj 68 2)),(276,(.obj 69 2)),(278,(.obj 70 2)),(279,(.obj 71 2)),(273,(.int 0 1)),(280,(.int 0 0)),(47,(.int 0 (-1))),(281,(.obj 72 2)),(282,(.obj 73 2)),(283,(.obj 74 2)),(284,(.int 0 0)),(285,(.int 0 0))]),(3, .inst 233 [(37,(.int 0 69)),(188,(.str [103])),(6,(.int 0 2)),(270,(.int 0 0)),(271,(.int 0 (-1))),(274,(.obj 66 3)),(272,(.obj 67 3)),(275,(.obj 68 3)),(276,(.obj 69 3)),(278,(.obj 70 3)),(279,(.obj 71 3)),(273,(.int 0 1)),(280,(.int 0 0)),(47,(.int 0 (-1))),(281,(.obj 72 3)),(282,(.obj 73 3)),(283,(.obj 74 3)),(284,(.int 0 0)),(285,(.int 0 0))])]),
 (37, [(0, .inst 237 [(13,(.obj 75 0)),(38,(.obj 34 0)),(287,(.obj 77 0)),(279,(.obj 78 0)),(288,(.obj 79 0)),(289,(.obj 80 0)),(290,(.int 0 0))])]),
 (38, [(0, .inst 238 [(36,(.obj 37 0)),(13,(.obj 75 0)),(122,(.obj 39 0)),(244,(.obj 44 0)),(140,(.obj 111 0)),(308,(.obj 112 0)),(143,(.obj 113 0)),(234,(.obj 114 0)),(332,(.obj 115 0)),(351,(.obj 116 0)),(333,(.obj 117 0)),(352,(.obj 118 0)),(173,(.obj 119 0)),(135,(.int 0 0)),(212,(.obj 120 0)),(137,(.obj ts 0)),(305,(.obj 122 0)),(353,(.obj 123 0)),(307,(.obj 124 0)),(354,(.obj 125 0)),(355,(.obj 126 0))])]),
 (39, [(0, .inst 239 [(90,(.obj 99 0)),(110,(.obj 100 0)),(125,(.int 3 0)),(323,(.int 0 4000)),(326,(.obj 101 0)),(324,(.int 0 3)),(130,(.int 5 0)),(327,(.int 0 1001)),(328,(.obj 102 0)),(329,(.obj 103 0)),(330,(.int 0 0)),(126,(.int 4 0))])]),
 (40, [(0, .dict none 1 [((.str [115,99,114,105,112,116]),(.obj 60 0)),((.str [97,116]),(.int 1 0)),((.str [109]),(.obj 38 0)),((.str [101,118]),(.obj 41 0)),((.str [102]),(.obj 42 0)),((.str [107,105,110]),(.obj 44 0)),((.str [107,105,110,100,115]),(.obj 33 0)),((.str [101,120,97,99,116]),(.obj 45 0)),((.str [104,101,108,100]),(.obj 46 0)),((.str [105,116,101,109,115]),(.obj 47 0)),((.str [97,100,100,114,115]),(.obj 48 0)),((.str [99,101,108,108,115]),(.obj 49 0)),((.str [108,97,115,116]),(.any 2)),((.str [117,110,100,101,114,115]),(.obj 50 0)),((.str [116,117,114,110,101,100]),tu)])]),
 (41, [(0, .inst 240 [(299,(.obj 38 0)),(36,(.obj 37 0)),(13,(.obj 75 0)),(90,(.obj 82 0)),(301,(.int 0 0)),(300,(.int 0 100)),(263,(.int 0 0)),(302,(.int 0 0)),(303,(.obj 83 0)),(127,(.int 0 0)),(304,(.obj 84 0)),(244,(.obj 44 0)),(305,(.obj 86 0)),(306,(.obj 88 0)),(307,(.obj 89 0)),(308,(.obj 90 0)),(309,(.obj 91 0)),(310,(.obj 92 0)),(311,(.obj 93 0)),(312,(.obj 94 0)),(313,(.obj 95 0)),(314,(.obj 96 0)),(315,(.obj 97 0)),(316, .none)])]),
 (42, [(0, .inst 241 [(89,(.int 0 1)),(336,(.tup [(.int 0 12),(.int 0 1),(.tup [])])),(337, .none),(338,(.int 0 0)),(20,(.obj 43 0)),(339,(.obj 104 0)),(147,(.any 9)),(340,(.obj 106 0)),(341,(.obj 107 0)),(342,(.obj 108 0)),(343,(.obj 109 0)),(6,(.int 0 0)),(285,(.int 0 1)),(344,(.int 0 0)),(345,(.int 0 (-1)))])]),
 (45, [(0, .list (.var 1) [])]),
 (46, [(0, .list (.var 2) [])]),
 (47, [(0, .list (.var 3) [])]),
 (48, [(0, .list (.var 4) [])]),
 (49, [(0, .list (.var 5) [])]),
 (50, [(0, .dict none 1 [((.str [101]),(.atom 1)),((.str [102]),(.atom 2))])]),
 (61, [(0, .list .nil [(.tup [(.int 0 1),(.int 0 0)]),(.tup [(.int 0 1),(.int 0 1)]),(.tup [(.int 0 1),(.int 0 2)]),(.tup [(.int 0 1),(.int 0 3)]),(.tup [(.int 0 1),(.int 0 4)]),(.tup [(.int 0 1),(.int 0 5)]),(.tup [(.int 0 1),(.int 0 6)]),(.tup [(.int 0 1),(.int 0 7)]),(.tup [(.int 0 1),(.int 0 8)]),(.tup [(.int 0 1),(.int 0 9)]),(.tup [(.int 0 1),(.int 0 10)]),(.tup [(.int 0 1),(.int 0 11)]),(.tup [(.int 0 1),(.int 0 12)]),(.tup [(.int 0 1),(.int 0 13)]),(.tup [(.int 0 1),(.int 0 14)]),(.tup [(.int 0 1),(.int 0 15)]),(.tup [(.int 0 2),(.int 0 64),(.tup [])]),(.tup [(.int 0 2),(.int 0 65),(.tup [])]),(.tup [(.int 0 3),(.int 0 66),(.tup [])]),(.tup [(.int 0 3),(.int 0 67),(.tup [])]),(.tup [(.int 0 3),(.int 0 68),(.tup [])]),(.tup [(.int 0 3),(.int 0 69),(.tup [(.int 0 7)])]),(.tup [(.int 0 3),(.int 0 69),(.tup [(.int 0 8)])]),(.tup [(.int 0 3),(.int 0 8),(.tup [(.int 0 7)])]),(.tup [(.int 0 3),(.int 0 8),(.tup [(.int 0 4)])]),(.tup [(.int 0 3),(.int 0 8),(.tup [(.int 0 18)])]),(.tup [(.int 0 3),(.int 0 8),(.tup [(.int 0 20)])]),(.tup [(.int 0 3),(.int 0 8),(.tup [(.int 0 22)])])])]),
 (75, [(0, .inst 261 [(140,(.obj 61 0)),(256,(.obj 62 0)),(257,(.obj 63 0)),(258,(.obj 64 0)),(259,(.obj 65 0))])]),
 (82, [(0, .list (.var 6) [])]),
 (99, [(0, .list (.var 7) [])]),
 (100, [(0, .dict (some 1) 2 [])]),
 (113, [(0, .dict none 2 [((.int 0 23),(.any 23)),((.int 0 24),(.any 24)),((.int 0 25),(.any 25)),((.int 0 26),(.any 26)),((.int 0 27),(.any 27))])]),
 (114, [(0, .dict none 2 [((.int 0 18),(.int 6 0)),((.int 0 19),(.int 7 0))])]),
 (119, [(0, .dict none 2 [((.int 0 140),(.obj 14 0)),((.int 0 121),(.obj 15 0)),((.int 0 165),(.obj 16 0)),((.int 0 208),(.obj 17 0))])]),
 (120, [(0, .list .nil [])]),
 (126, [(0, .inst 349 [])])]
noncomputable def GI:List (List Nat):= [[105,52], [101], [117,52], [102], [115], [103], [104], [63,105,52], [63,101], [63,115], [63,117,49], [63,104], [111], [97], [105], [116], [98,111,111,108], [117,49], [105,49], [99,104,97,114], [117,50], [105,50], [105,56], [117,56], [110,105,110,116]]
def aU(k:Nat):List Nat:=(nth GI k).getD []
noncomputable def re:List Nat:= [0,2,16,17,18,19,20,21,22,23,24]
noncomputable def kJ:List Nat:= [0,17,22,2,20,18,23,21]
noncomputable def low (p:Nat):Int:=match p with
 |0=> -2147483648|18=> -128|21=> -32768|22=> -9223372036854775808|24=> -2147483648|_=>0
noncomputable def uJ (p:Nat):Int:=match p with
 |0=>4294967296|2=>4294967296|16=>2|17=>256|18=>256|19=>65536|20=>65536|21=>65536|22=>18446744073709551616|23=>18446744073709551616|_=>4294967296
noncomputable def eV (p:Nat):Int:=match p with
 |22=>2|23=>2|24=>3|_=>1
noncomputable def Xc:List Int:= [0,1, -1,7,127,128,255,256,32767,32768,65535,2147483647,2147483648,4294967295,9223372036854775807,9223372036854775808]
def pv(p r:Nat):Int:=low p+((nth Xc r).getD 0 - low p).fmod (uJ p)
def whole(p:Nat):Int:=match eV p with|2=>18446744073709551616|_=>4294967296
def cv(p:Nat)(v:Int):Int:=if whole p/2<=v then v - whole p else v
structure Cf where
 ue:Nat
 uf:Nat
 tu:Bool
 ka:Bool
 ks:Bool
def aG(c:Cf)(k:Nat):Nat:=match k with
 |1=>(nth kJ c.ue).getD 0
 |3=>(nth kJ c.uf).getD 0
 |k=>k
def tW:List Nat:= [117,110,100,101,114,115]
def tK:List Nat:= [107,105,110,100,115]
def tT:List Nat:= [116,117,114,110,101,100]
noncomputable def Lg:List (Nat×Int):= [(16,1),(19,2),(18,3),(17,4),(21,5),(20,6),(0,7),(2,8),(22,9),(23,10),(24,11),(12,12),(15,13),(13,16),(14,17),(1,18),(3,19),(4,20),(5,21),(6,22),(7,23),(10,24),(8,25),(9,26),(11,27)]
structure WS(c:Cf)(σ:St):Prop where
 w:∃es,es.length<=500/\nth (σ.heap 40) 0=some (.dict 1 es)/\aO (.str tW) es=some (.obj 50 0)/\aO (.str tK) es=some (.obj 33 0)/\aO (.str tT) es=some (.bool c.tu)
 un:nth (σ.heap 50) 0=some (.dict 1 [(.str [101], .str (aU (aG c 1))),(.str [102], .str (aU (aG c 3)))])
 kd:nth (σ.heap 33) 0=some (.dict 1 (Lg.map λp=>(.str (aU p.1), .int p.2)))
def ip(s:Nat):Bool:=Nat.beq s 18
noncomputable def rp (σ:St) (int:Nat->Int) (str:Nat->List Nat) (db:List (V×V)):Ro where
 int:=int
 val _:= .none
 str:=str
 base _:= []
 dbase b:=match b with|1=>db|_=> []
 ix s j:=if 1000<=j then(σ.heap s).length+(j - 1000)else j
 len0 s:=(σ.heap s).length
noncomputable def Rd:Tr Nat:= .f 18 1
def Bi:Fx:={bd:= [],bl:= [],it:= [],dt:= [(1, [(.str tW, .obj 50 0),(.str tK, .obj 33 0)])],op:= [],eq:= [],le:= [],ca:= [],cf:=0,pre:=λ_=>true,mo:=Rd}
noncomputable def Bj (u v:SV):bw:= [(40, [(0, .dict (some 1) 1 [])]),(50, [(0, .dict none 1 [(.str [101],u),(.str [102],v)])])]
def unE(k:Nat)(x:Nat):SV:=match Nat.beq k 1 with|true=> .str (aU x)|false=> .atom 1
def OC(k:Nat)(x:Nat):SV:=match Nat.beq k 3 with|true=> .str (aU x)|false=> .atom 2
def jl(k p:Nat):Bool:=eK Bi 10 190 [.obj 40 0, .str (aU k)] (Bj (unE k p) (OC k p)) (.tup [.int 0 (low p), .int 0 (uJ p), .int 0 (eV p)])
theorem CE:(re.all λp=>jl p p)=true:=by decide+kernel
theorem yN:(kJ.all λp=>jl 1 p&&jl 3 p)=true:=by decide+kernel
theorem JL:(GI.all λl=>rl l)=true:=by decide+kernel
theorem hZ(k:Nat):rl (aU k)=true:=by
 unfold aU;cases h:nth GI k with
 |none=>rfl
 |some l=>
  exact(show∀(L:List (List Nat)) (k:Nat),nth L k=some l->(L.all λl=>rl l)=true->rl l=true from by
   intro L
   induction L with
   |nil=>intro k h;exact nt h
   |cons a L ih=>
    intro k h h2;simp only[Zs,Ye]at h2;cases k with
    |zero=>obtain rfl:=Yi h;exact h2.1
    |succ k=>exact ih k h h2.2) GI k h JL
section
variable{σ:St}{db:List (V×V)}{int:Nat->Int}{str:Nat->List Nat}
theorem po(s k:Nat):(rp σ int str db).ix s (1000+k)=(rp σ int str db).len0 s+k:=by
 show(if 1000<=1000+k then(σ.heap s).length+(1000+k - 1000)else 1000+k)=_;rw[Ze (Ym _ _),Zc];rfl
theorem pq(h:db.length<=500)(b:Nat):((rp σ int str db).dbase b).length<=500:=by
 show(match b with|1=>db|_=> []).length<=500;split
 ·exact h
 ·exact YA _
theorem p0(h:es.all (λp=>p.2.all λq=>Nat.blt q.1 1000)=true)(s j k:Nat)(a b:SO)(ha:aQ es s j=some a)(hb:aQ es s k=some b)(e:(rp σ int str db).ix s j=(rp σ int str db).ix s k):j=k:=by
 have lt:∀j a,aQ es s j=some a->j<1000:=by
  intro j a ha;unfold aQ at ha;refine dJ (bK s es) (λe=>?_) λl e=>?_
  ·rw[e]at ha;exact nt ha
  ·
   rw[e]at ha;rw[X7]at h;have h1:=h _ (aX e);rw[X7]at h1;exact Yg (h1 _ (aX ha))
 have h1:=lt j a ha;have h2:=lt k b hb;have e1:(if 1000<=j then(σ.heap s).length+(j - 1000)else j)=(if 1000<=k then(σ.heap s).length+(k - 1000)else k):=e;rw[YM (ZU.mpr ‹_›),YM (ZU.mpr ‹_›)]at e1;exact e1
theorem gV(h:aQ es s j=some o):∃l,(s,l)∈es/\(j,o)∈l:=by
 unfold aQ at h;refine dJ (bK s es) (λe=>?_) λl e=>?_
 ·rw[e]at h;exact nt h
 ·rw[e]at h;exact(al l (aX e) (aX h))
end
theorem wN(hm:F.mo= .f 18 v)(h:ip s=false):yg F s=false:=by
 unfold yg md;rw[Tr.get_eq,hm];rw[(show dY s (.f 18 v) s=none from by simp only[GO,az (ZC (show s≠18 fromλe=>by subst e;exact ng h)),zai])];rfl
theorem MP{σ:St}(hl:es.length<=500)(h2:aO (.str tW) es=some (.obj 50 0))(h3:aO (.str tK) es=some (.obj 33 0))(hs:∀n,rl (str n)=true):uv (rp (σ.setE []) (λ_=>0) str es) Bi (σ.setE []) where
 z:=rfl
 bd:=J
 st:=hs
 bn _:=YA _
 dn:=pq hl
 bl:=J
 it:=J
 dt p hp q hq:=by
  rw[Bi,X8]at hp;subst hp;simp only[X9,Yl,YG]at hq;rcases hq with rfl|rfl
  ·exact h2
  ·exact h3
 op:=J
 eq:=J
 le:=J
 nw:=po
 l0 _:=rfl
 ca:=J
theorem xa(c:Cf)(hp:(k=1->p=aG c 1)/\(k=3->p=aG c 3))(hb:jl k p=true):aJ (WS c) ip 10 190 [.obj 40 0, .str (aU k)] (.tup [.int (low p), .int (uJ p), .int (eV p)]):=by
 intro σ hw m hm;refine uT (hw.w) λes hl h1 h2 h3 h4=>?_
 let z0:=aG c 3
 let z1:=aG c 1
 have Wc:ah (rp (σ.setE []) (λ_=>0) (λn=>match n with|1=>aU z1|_=>aU z0) es) (unE k p)= .str (aU z1):=by
  unfold unE;cases e:Nat.beq k 1 with
  |true=>rw[hp.1 (aB.mp e)];rfl
  |false=>rfl
 have P2:ah (rp (σ.setE []) (λ_=>0) (λn=>match n with|1=>aU z1|_=>aU z0) es) (OC k p)= .str (aU z0):=by
  unfold OC;refine cY (Nat.beq k 3) (λe=>?_) λe=>?_
  ·rw[e];rw[hp.2 (aB.mp e)];rfl
  ·rw[e];rfl
 refine U (d8 (es:=Bj (unE k p) (OC k p)) ((MP (σ:=σ) (str:=λn=>match n with|1=>aU z1|_=>aU z0) hl h2 h3 (λn=>by split<;>exact hZ _)).ok) (by
  intro s j o h;refine U (gV h) λl Lp Af=>?_;simp only[Bj,X9,Yl,YG,YQ]at Lp;rcases Lp with⟨rfl,rfl⟩|⟨rfl,rfl⟩
  ·simp only[X9,Yl,YG,YQ]at Af;obtain⟨rfl,rfl⟩:=Af;exact h1
  ·simp only[X9,Yl,YG,YQ]at Af;obtain⟨rfl,rfl⟩:=Af;simp only[aC,gI,dc,Wc,P2];exact hw.un) (p0 rfl) rfl hm hb) λσ' e1 e2=>?_
 refine⟨σ',?_,e2.env,e2.keep,λs h=>e2.len s ?_,e2.mono⟩
 ·simp only[dP,c8,lP,Ec,iE,rp,YV]at e1;exact e1
 ·exact wN rfl h
theorem WS.keep{c:Cf}{σ σ':St}(h:WS c σ)(k:∀s i o,(s=40\/s=50\/s=33)->nth (σ.heap s) i=some o->nth (σ'.heap s) i=some o):WS c σ':=by
 obtain⟨⟨es,h0,h1,h2⟩,h3,h4⟩:=h;exact⟨(aM es h0 (k _ _ _ (.inl rfl) h1) h2),k _ _ _ (.inr (.inl rfl)) h3,k _ _ _ (.inr (.inr rfl)) h4⟩
theorem gv{ρ:Ro}{F:Fx}{aI:St}{W:St->Prop}{c0 f:Nat}{args:List V}{r:V}(sp:aJ W ip c0 f args r)(hd:∀s,md F s≠4->ip s=false)(hc:c0<=F.cf){S:fk}{σ:St}(hs:jY ρ F aI S σ)(hw:W σ)(m:Nat)(hm:F.cf<=m):∃σ',(run pt m).c f args σ=some (.ok r,σ')/\jY ρ F aI S σ':=by
 refine U (sp σ hw m (Yc hc hm)) λσ' e1 e2=>?_;exact(al σ' e1 (hs.ext e2 hd))
def yw(k p:Nat)(lo hi:Int):Fx:={bd:= [(1,(lo,hi))],bl:= [],it:= [],dt:= [(1, [(.str tW, .obj 50 0),(.str tK, .obj 33 0)])],op:= [],eq:= [],le:= [],ca:= [(190, [([.obj 40 0, .str (aU k)], .tup [.int 0 (low p), .int 0 (uJ p), .int 0 (eV p)])])],cf:=10,pre:=λ_=>true,mo:= .f 18 4}
def yy:bw:= [(40, [(0, .dict (some 1) 1 [])]),(33, [(0, .dict none 1 (Lg.map λp=>(.str (aU p.1), .int 0 p.2)))])]
def yi(k p:Nat):Bool:=eK (yw k p (whole p/2) (whole p - 1)) 22 197 [.obj 40 0, .str (aU k), .int 1 0] yy (.tup [.int 0 (eV p), .int 1 (-whole p)])&&eK (yw k p (low p) (whole p/2 - 1)) 22 197 [.obj 40 0, .str (aU k), .int 1 0] yy (.tup [.int 0 (eV p), .int 1 0])
theorem E6:(re.all λp=>yi p p)=true:=by decide+kernel
theorem CC:(kJ.all λp=>yi 1 p&&yi 3 p)=true:=by decide+kernel
theorem Mb{F:Fx}(hm:F.mo= .f 18 4)(s:Nat)(h:md F s≠4):ip s=false:=by
 cases e:ip s with
 |false=>rfl
 |true=>
  have:=aB.mp e;subst this;exact absurd (by unfold md;rw[Tr.get_eq,hm];rfl) h
theorem LK{c:Cf}{k p:Nat}{lo hi v:Int}(hp:(k=1->p=aG c 1)/\(k=3->p=aG c 3))(hb:jl k p=true){σ:St}(hw:WS c σ){es:List (V×V)}(hl:es.length<=500)(h2:aO (.str tW) es=some (.obj 50 0))(h3:aO (.str tK) es=some (.obj 33 0))(hv:lo<=v/\v<=hi):uv (rp (σ.setE []) (λn=>match n with|1=>v|_=>0) (λ_=> []) es) (yw k p lo hi) (σ.setE []) where
 z:=rfl
 bd q hq:=by
  simp only[yw,X8]at hq;subst hq;exact hv
 st _:=rfl
 bn _:=YA _
 dn:=pq hl
 bl:=J
 it:=J
 dt p hp q hq:=by
  simp only[yw,X8]at hp;subst hp;simp only[X9,Yl,YG]at hq;rcases hq with rfl|rfl
  ·exact h2
  ·exact h3
 op:=J
 eq:=J
 le:=J
 nw:=po
 l0 _:=rfl
 ca q hq r hr S σ' hs _ m hm:=by
  simp only[yw,X8]at hq;subst hq;simp only[X8]at hr;subst hr;have:=gv (xa c hp hb) (Mb rfl) (Yv 10) hs (hw.keep λs i o hh h=>hs.ro s (by rcases hh with rfl|rfl|rfl<;>rfl) i o h) m hm;simp only[dP,c8,lP,iE,rp,YV]at this⊢;exact this
theorem lz{σ:St}{int:Nat->Int}{str:Nat->List Nat}{db:List (V×V)}{s:Nat}:(rp σ int str db).ix s 0=0:=rfl
theorem hH{σ:St}{int:Nat->Int}{str:Nat->List Nat}{db:List (V×V)}{n:Nat}:(rp σ int str db).int n=int n:=rfl
theorem Bz(c:Cf){k p:Nat}(hp:(k=1->p=aG c 1)/\(k=3->p=aG c 3))(hb:jl k p=true)(ht:yi k p=true){v:Int}(h1:low p<=v)(h2:v<whole p):aJ (WS c) ip 22 197 [.obj 40 0, .str (aU k), .int v] (.tup [.int (eV p), .int (cv p v)]):=by
 intro σ hw m hm;refine uT (hw.w) λes hl e1 e2 e3 e4=>?_;unfold yi at ht;rw[Ye]at ht
 let z0:=σ.setE []
 have ent:∀s j o,aQ yy s j=some o->nth (z0.heap s) ((rp z0 (λn=>match n with|1=>v|_=>0) (λ_=> []) es).ix s j)=some (aC (rp z0 (λn=>match n with|1=>v|_=>0) (λ_=> []) es) o):=by
  intro s j o h;refine U (gV h) λl Lp Af=>?_;simp only[yy,X9,Yl,YG,YQ]at Lp;rcases Lp with⟨rfl,rfl⟩|⟨rfl,rfl⟩
  ·simp only[X9,Yl,YG,YQ]at Af;obtain⟨rfl,rfl⟩:=Af;exact e1
  ·simp only[X9,Yl,YG,YQ]at Af;obtain⟨rfl,rfl⟩:=Af;exact hw.kd
 by_cases hh:whole p/2<=v
 ·have hF:=(LK (c:=c) hp hb hw hl e2 e3 (lo:=whole p/2) (hi:=whole p - 1) ⟨hh,Int.le_sub_one_of_lt ‹_›⟩).ok;obtain⟨σ',f1,f2⟩:=d8 (es:=yy) hF ent (p0 rfl) rfl hm ht.1;refine⟨σ',?_,f2.env,f2.keep,λs h=>f2.len s (wN rfl h),f2.mono⟩;simp only[dP,c8,lP,Ec,iE,ur,lz,hH,YV,ZE]at f1;rw[f1];unfold cv;rw[Ze hh,Int.sub_eq_add_neg]
 ·have hF:=(LK (c:=c) hp hb hw hl e2 e3 (lo:=low p) (hi:=whole p/2 - 1) ⟨h1,Int.le_sub_one_of_lt (Z7.mp hh)⟩).ok;obtain⟨σ',f1,f2⟩:=d8 (es:=yy) hF ent (p0 rfl) rfl hm ht.2;refine⟨σ',?_,f2.env,f2.keep,λs h=>f2.len s (wN rfl h),f2.mono⟩;simp only[dP,c8,lP,Ec,iE,ur,lz,hH,YV,ZE]at f1;rw[f1];unfold cv;rw[YM hh]
def Mr:Fx:={bd:= [],bl:= [],it:= [],dt:= [],op:= [],eq:= [],le:= [],ca:= [],cf:=0,pre:=λ_=>true,mo:= .e}
noncomputable def rL:List Nat:= [0,1,2,3,4,5,6,7,8,9,10,11,12,13,14,15]
def iC(k:Nat):Int:=(aN k Lg).getD 0
def RJ(p r:Nat):Bool:=eK Mr 22 56 [.int 0 (iC p), .int 0 (cv p (pv p r))] [] (.int 0 (cv p (pv p r)))
theorem Gj:(re.all λp=>rL.all λr=>RJ p r)=true:=by decide+kernel
theorem JG:(re.all λp=>rL.all λr=>decide (low p<=pv p r)&&decide (pv p r<whole p)&&decide (pv p r<low p+uJ p))=true:=by decide+kernel
theorem RD{σ:St}:uv (rp (σ.setE []) (λ_=>0) (λ_=> []) []) Mr (σ.setE []) where
 z:=rfl
 bd:=J
 st _:=rfl
 bn _:=YA _
 dn:=pq (YA _)
 bl:=J
 it:=J
 dt:=J
 op:=J
 eq:=J
 le:=J
 nw:=po
 l0 _:=rfl
 ca:=J
theorem Km(hp:p∈re)(hr:r∈rL):aJ (λ_=>True) ip 22 56 [.int (iC p), .int (cv p (pv p r))] (.int (cv p (pv p r))):=by
 intro σ _ m hm;have h:=Gj;rw[X7]at h;have h1:=h p hp;rw[X7]at h1;refine U (d8 (es:= []) (RD (σ:=σ)).ok (λ_ _ _ h=>nomatch h) (λ_ _ _ _ _ h=>nomatch h) rfl hm (h1 r hr)) λσ' f1 f2=>?_;refine⟨σ',?_,f2.env,f2.keep,λs h=>f2.len s rfl,f2.mono⟩;simp only[dP,c8,lP,hH,YV]at f1;exact f1
theorem M2(hp:p∈re)(hr:r∈rL):low p<=pv p r/\pv p r<whole p/\pv p r<low p+uJ p:=by
 have h:=JG;rw[X7]at h;have h1:=h p hp;rw[X7]at h1;have h2:=h1 r hr;simp only[Ye,zap]at h2;exact(gA (h2.1.1) (h2.1.2) (h2.2))
def AC(k p r:Nat)(z:Int):Fx:={bd:= [],bl:= [],it:= [],dt:= [(1, [(.str tW, .obj 50 0),(.str tK, .obj 33 0)])],op:= [(4, [((.int 1 0, .int 0 16), .int 0 r)])],eq:= [],le:= [],ca:= [(190, [([.obj 40 0, .str (aU k)], .tup [.int 0 (low p), .int 0 (uJ p), .int 0 (eV p)])])],cf:=10,pre:=λ_=>true,mo:= .f 18 4}
def Aq(k p r:Nat):Bool:=eK (AC k p r 0) 20 191 [.obj 40 0, .str (aU k), .int 1 0] [] (.int 0 (pv p r))
theorem E2:(re.all λp=>rL.all λr=>Aq p p r)=true:=by decide+kernel
theorem Cv:(kJ.all λp=>rL.all λr=>Aq 1 p r&&Aq 3 p r)=true:=by decide+kernel
theorem QK{k p r:Nat}{z:Int}(hp:(k=1->p=aG c 1)/\(k=3->p=aG c 3))(hb:jl k p=true)(hw:WS c σ)(hz:z.fmod 16=r)(hl:es.length<=500)(h2:aO (.str tW) es=some (.obj 50 0))(h3:aO (.str tK) es=some (.obj 33 0)):uv (rp (σ.setE []) (λn=>match n with|1=>z|_=>0) (λ_=> []) es) (AC k p r 0) (σ.setE []) where
 z:=rfl
 bd:=J
 st _:=rfl
 bn _:=YA _
 dn:=pq hl
 bl:=J
 it:=J
 dt p hp q hq:=by
  simp only[AC,X8]at hp;subst hp;simp only[X9,Yl,YG]at hq;rcases hq with rfl|rfl
  ·exact h2
  ·exact h3
 op p hp q hq o ho:=by
  simp only[AC,X8]at hp;subst hp;simp only[X8]at hq;subst hq;cases o<;>first|(cases ho;done)|skip
  simp only[lP,hH,ZE,YV];rw[xM rfl,hz]
 eq:=J
 le:=J
 nw:=po
 l0 _:=rfl
 ca q hq r hr S σ' hs _ m hm:=by
  simp only[AC,X8]at hq;subst hq;simp only[X8]at hr;subst hr;have:=gv (xa c hp hb) (Mb rfl) (Yv 10) hs (hw.keep λs i o hh h=>hs.ro s (by rcases hh with rfl|rfl|rfl<;>rfl) i o h) m hm;simp only[dP,c8,lP,iE,ur,hH,lz,YV]at this⊢;exact this
theorem M1(z:Int):∃r∈rL,z.fmod 16=(r:Nat):=by
 refine(al ((z.fmod 16).toNat) ?_ ((YR (YK _ ak)).symm));exact(show∀n:Nat,n<16->n∈rL from by decide) _ (VN z)
theorem Jb(c:Cf)(hp:(k=1->p=aG c 1)/\(k=3->p=aG c 3))(hb:jl k p=true)(hv:∀r∈rL,Aq k p r=true)(z:Int):∃r∈rL,aJ (WS c) ip 20 191 [.obj 40 0, .str (aU k), .int z] (.int (pv p r)):=by
 refine U (M1 z) λr hr hz=>?_;refine(al r hr (λσ hw m hm=>?_));refine uT (hw.w) λes hl e1 e2 e3 e4=>?_;refine U (d8 (es:= []) (QK (c:=c) hp hb hw hz hl e2 e3).ok (λ_ _ _ h=>nomatch h) (λ_ _ _ _ _ h=>nomatch h) rfl hm (hv r hr)) λσ' f1 f2=>?_;refine⟨σ',?_,f2.env,f2.keep,λs h=>f2.len s (wN rfl h),f2.mono⟩;simp only[dP,c8,lP,Ec,ur,hH,lz,YV,ZE]at f1;exact f1
def eU:List Nat:=1::3::re
def Cf.ok(c:Cf):Prop:=c.ue<8/\c.uf<8
theorem gK(n:Nat)(h:n<8):(nth kJ n).getD 0∈kJ:=by
 exact(show∀n:Nat,n<8->(nth kJ n).getD 0∈kJ from by decide) n h
theorem G3:∀x∈kJ,x∈re:=by decide
structure Pl(c:Cf)(k:Nat):Prop where
 a:(k=1->aG c k=aG c 1)/\(k=3->aG c k=aG c 3)
 s:jl k (aG c k)=true
 t:yi k (aG c k)=true
 v:∀r∈rL,Aq k (aG c k) r=true
 m:aG c k∈re
theorem wF(hc:c.ok)(hk:k∈eU):Pl c k:=by
 have a1:=CE;have a2:=yN;have b1:=E6;have b2:=CC;have c1:=E2;have c2:=Cv;rw[X7]at a1 a2 b1 b2 c1 c2;rcases(by simpa [eU]using hk)with rfl|rfl|h
 ·have hm:=gK c.ue hc.1;have h2:=a2 _ hm;have h3:=b2 _ hm;have h4:=c2 _ hm;rw[Ye]at h2 h3;rw[X7]at h4;exact⟨⟨λ_=>rfl,λh=>nomatch h⟩,h2.1,h3.1,λr hr=>(X5.mp (h4 r hr)).1,G3 _ hm⟩
 ·have hm:=gK c.uf hc.2;have h2:=a2 _ hm;have h3:=b2 _ hm;have h4:=c2 _ hm;rw[Ye]at h2 h3;rw[X7]at h4;exact⟨⟨λh=>(nomatch h),λ_=>rfl⟩,h2.2,h3.2,λr hr=>(X5.mp (h4 r hr)).2,G3 _ hm⟩
 ·have uo:=by
   exact(show∀k∈re,k≠1/\k≠3 from by decide) k h
  have e:aG c k=k:=by
   unfold aG;split
   ·exact absurd rfl uo.1
   ·exact absurd rfl uo.2
   ·rfl
  have h4:=c1 k h;rw[X7]at h4;exact⟨⟨λh=>absurd h uo.1,λh=>absurd h uo.2⟩,by rw[e];exact a1 k h,by rw[e];exact b1 k h,λr hr=>by(refine(e).symm ▸?_);exact h4 r hr,by rw[e];exact h⟩
theorem j8(hc:c.ok)(hk:k∈eU)(z:Int):∃r∈rL,aJ (WS c) ip 20 191 [.obj 40 0, .str (aU k), .int z] (.int (pv (aG c k) r)):=by
 have P:=wF hc hk;exact Jb c ⟨λh=>P.a.1 h,λh=>P.a.2 h⟩ P.s P.v z
theorem JH(hc:c.ok)(hk:k∈eU)(hr:r∈rL):aJ (WS c) ip 22 197 [.obj 40 0, .str (aU k), .int (pv (aG c k) r)] (.tup [.int (eV (aG c k)), .int (cv (aG c k) (pv (aG c k) r))]):=by
 have P:=wF hc hk;have h:=M2 P.m hr;exact Bz c ⟨λh=>P.a.1 h,λh=>P.a.2 h⟩ P.s P.t h.1 h.2.1
section
structure Bx where
 k:Nat
 v:V
 th:Nat
structure Gh where
 c:Cf
 sc:List Int
 at_:Int
 bx:List Bx
 ce:List Bx
 n:Nat
 lk:Nat
 lv:V
 ts:Nat
 ti:Nat
 ss:Nat
 si:Nat
namespace Gh
variable(g:Gh)
def N:Nat:=4+g.bx.length
def adr(th:Nat):Int:=16+3*(th:Int)
def exactL:List V:= [.str [], .str [97], .str [116], .str [97]]++g.bx.map λb=> .str (aU b.k)
def heldL:List V:= [.none, .none, .none, .none]++g.bx.map λb=>b.v
def itemsL:List V:=(List.range g.N).map λ(i:Nat)=> .int (i:Int)
def addrsL:List V:= [.int 0, .int 16, .int 19, .int 22]++g.bx.map λb=> .int (adr b.th)
def cellsL:List V:=g.ce.map λb=> .tup [.int (adr b.th), .str (aU b.k),b.v]
def thingsL:List V:= .none::(List.range (3+g.bx.length)).map λ(i:Nat)=> .obj 4 i
def hthL:List V:=(List.range g.n).map λ(i:Nat)=> .obj 9 i
def hatL:List (V×V):=(List.range g.n).map λ(i:Nat)=>(.int (adr i), .obj 9 i)
end Gh
noncomputable def two (c:Cf) (kd:Int) (AB AF:V):V:= .tup [.int 5, .int kd,match c.tu with|true=> .tup [AF,AB]|false=> .tup [AB,AF]]
def Ac:V:= .tup [.int 1, .int 0]
def Lz(c:Cf)(k:Nat):V:=match k with
 |23=>two c 23 Ac Ac
 |24=>two c 24 Ac Ac
 |25=>two c 25 Ac (.tup [.int (eV (aG c 1)), .int 0])
 |26=>two c 26 Ac (.tup [.int 5, .int 20, .tup [Ac, .tup [.int 4, .int 0],two c 24 Ac Ac]])
 |27=>two c 27 Ac (.tup [.int 5, .int 22, .tup [Ac]])
 |_=> .none
noncomputable def wx (s:Nat):Bool:=Nat.beq s 4||Nat.beq s 8||Nat.beq s 9||Nat.beq s 12
def Z(g:Gh)(σ:St)(X:Nat->Int)(Y:Nat->V)(I:Nat->Nat->Nat):Ro where
 int x:=match x with
  |0=>0|1=>g.at_|2=>(g.N:Int)|3=>Gh.adr g.n|4=>(g.n:Int)|5=>3*(g.n:Int)|6=>iC (aG g.c 1)|7=>iC (aG g.c 3)|8=>eV (aG g.c 1)|x=>X x
 val x:=match x with
  |1=> .bool g.c.tu|2=> .tup [.str (aU g.lk),g.lv]|9=> .obj g.ss g.si|23=>Lz g.c 23|24=>Lz g.c 24|25=>Lz g.c 25|26=>Lz g.c 26|27=>Lz g.c 27|x=>Y x
 str x:=match x with
  |1=>aU (aG g.c 1)|_=>aU (aG g.c 3)
 base b:=match b with
  |1=>g.exactL|2=>g.heldL|3=>g.itemsL|4=>g.addrsL|5=>g.cellsL|6=>g.thingsL|7=>g.hthL|8=>g.sc.map .int|_=> []
 dbase b:=match b with
  |1=>g.hatL|_=> []
 ix s j:=if 1000<=j then(σ.heap s).length+(j - 1000)else cond (wx s) (I s j) (cond (Nat.beq s 25||Nat.beq s 121) g.ti j)
 len0 s:=(σ.heap s).length
end
def Bs.beq(a b:Bs):Bool:=Bs.rec (Bs.rec true (λ_=>false) (λ_ _ _=>false) b) (λx=>Bs.rec false (λy=>Nat.beq x y) (λ_ _ _=>false) b) (λx i v=>Bs.rec false (λ_=>false) (λy j w=>Nat.beq x y&&i.beq j&&v.beq w) b) a
section
def Lv(a b:List (Nat×SV)):Bool:=List.rec (λb=>List.rec true (λ_ _ _=>false) b) (λp _ r b=>List.rec false (λq bs _=>Bool.rec false (r bs) (Nat.beq p.1 q.1&&p.2.beq q.2)) b) a b
def Pd(a b:List (SV×SV)):Bool:=List.rec (λb=>List.rec true (λ_ _ _=>false) b) (λp _ r b=>List.rec false (λq bs _=>Bool.rec false (r bs) (p.1.beq q.1&&p.2.beq q.2)) b) a b
def oB(a b:Option Nat):Bool:=Option.rec (Option.rec true (λ_=>false) b) (λx=>Option.rec false (λy=>Nat.beq x y) b) a
def SO.beq(a b:SO):Bool:=SO.rec (λc fs=>SO.rec (λd gs=>Nat.beq c d&&Lv fs gs) (λ_ _=>false) (λ_ _ _=>false) (λ_ _=>false) (λ_ _=>false) b) (λx vs=>SO.rec (λ_ _=>false) (λy ws=>x.beq y&&SV.beqs vs ws) (λ_ _ _=>false) (λ_ _=>false) (λ_ _=>false) b) (λx k es=>SO.rec (λ_ _=>false) (λ_ _=>false) (λy l fs=>oB x y&&Nat.beq k l&&Pd es fs) (λ_ _=>false) (λ_ _=>false) b) (λ_ _=>false) (λ_ _=>false) a
def EO(post:bw)(cn:List (Nat×Nat))(S:fk):Bool:=(post.all λp=>p.2.all λq=>Option.rec false (λo=>o.beq q.2) (S.get p.1 q.1))&&cn.all λp=>Option.rec false (λL=>Nat.beq L.cnt p.2) (S.hp.get p.1)
end
theorem Bs.beq_eq{a b:Bs}(h:a.beq b=true):a=b:=by
 cases a with
 |nil=>cases b with
  |nil=>rfl
  |_=>exact nf h
 |var a=>cases b with
  |var b=>rw[aB.mp h]
  |_=>exact nf h
 |set a i v=>cases b with
  |set b j w=>
   have h:=X5.mp h;rw[aB.mp (X5.mp h.1).1,Mine.beq_eq (X5.mp h.1).2,Mine.beq_eq h.2]
  |_=>exact nf h
theorem pJ:∀{a b:List (Nat×SV)},Lv a b=true->a=b
 | [], [],_=>rfl
 | [],_::_,h=>by cases h
 |_::_, [],h=>by cases h
 |p::a,q::b,h=>by
  have h1:(Bool.rec false (Lv a b) (Nat.beq p.1 q.1&&p.2.beq q.2):Bool)=true:=h;refine uu ((Nat.beq p.1 q.1&&p.2.beq q.2)) (λe=>?_) λe=>?_
  ·rw[e]at h1;exact nf h1
  ·
   rw[e]at h1;rw[Ye,aB]at e;rw[pJ h1,show p=q from Prod.ext e.1 (beq_eq e.2)]
theorem vm:∀{a b:List (SV×SV)},Pd a b=true->a=b
 | [], [],_=>rfl
 | [],_::_,h=>by cases h
 |_::_, [],h=>by cases h
 |p::a,q::b,h=>by
  have h1:(Bool.rec false (Pd a b) (p.1.beq q.1&&p.2.beq q.2):Bool)=true:=h;refine uu ((p.1.beq q.1&&p.2.beq q.2)) (λe=>?_) λe=>?_
  ·rw[e]at h1;exact nf h1
  ·
   rw[e]at h1;simp only[Ye]at e;rw[vm h1,show p=q from Prod.ext (beq_eq e.1) (beq_eq e.2)]
theorem M9:∀{a b:Option Nat},oB a b=true->a=b
 |none,none,_=>rfl
 |none,some _,h=>by cases h
 |some _,none,h=>by cases h
 |some x,some y,h=>by(refine(aB.mp (show Nat.beq x y=true from h)).symm ▸ rfl)
theorem SO.beq_eq{a b:SO}(h:a.beq b=true):a=b:=by
 cases a with
 |inst c fs=>cases b with
  |inst d gs=>rw[aB.mp (X5.mp h).1,pJ (X5.mp h).2]
  |_=>exact nf h
 |list x vs=>cases b with
  |list y ws=>rw[Bs.beq_eq (X5.mp h).1,qt (X5.mp h).2]
  |_=>exact nf h
 |dict x k es=>cases b with
  |dict y l fs=>
   have h:=X5.mp h;rw[M9 (X5.mp h.1).1,aB.mp (X5.mp h.1).2,vm h.2]
  |_=>exact nf h
 |_=>exact nf h
theorem xH(h:EO post cn S=true):(∀p∈post,∀q∈p.2,S.get p.1 q.1=some q.2)/\∀p∈cn,∃L,S.hp.get p.1=some L/\L.cnt=p.2:=by
 unfold EO at h;simp only[Ye,X7]at h;refine⟨λp hp q hq=>?_,λp hp=>?_⟩
 ·have h1:=h.1 p hp q hq;refine dJ (S.get p.1 q.1) (λe=>?_) λo e=>?_
  ·rw[e]at h1;exact nf h1
  ·rw[e];rw[e]at h1;rw[SO.beq_eq h1]
 ·have h1:=h.2 p hp;refine dJ (S.hp.get p.1) (λe=>?_) λL e=>?_
  ·rw[e]at h1;exact nf h1
  ·(refine(e).symm ▸?_);rw[e]at h1;exact(al L rfl (aB.mp h1))
def EG(S:fk):Bool:=List.all [8,12] λs=>Option.rec true (λL=>L.es.all λp=>Nat.beq p.1 0||Nat.ble 1000 p.1) (S.hp.get s)
def jm(F:Fx)(n f:Nat)(args:List SV)(es:bw)(r:SV)(post:bw)(cn:List (Nat×Nat)):Bool:=O.rec false (λv S=>v.beq r&&EO post cn S&&EG S) (λ_ _ _ _ _=>false) ((pd F n).c f args (um es []))
structure Ao(ρ:Ro)(F:Fx)(σ σ':St)(post:bw)(cn:List (Nat×Nat)):Prop where
 at_:∀p∈post,∀q∈p.2,nth (σ'.heap p.1) (ρ.ix p.1 q.1)=some (aC ρ q.2)
 cn:∀p∈cn,md F p.1≠4->(σ'.heap p.1).length=(σ.heap p.1).length+p.2
 ro:∀s,xW (md F s)=false->∀i o,nth (σ.heap s) i=some o->nth (σ'.heap s) i=some o
 fr:∀s,s=8\/s=12->∀i o,nth (σ.heap s) i=some o->ρ.ix s 0≠i->nth (σ'.heap s) i=some o
theorem LO(hf:dZ ρ F (σ.setE []))(h1:∀s j o,aQ es s j=some o->nth (σ.heap s) (ρ.ix s j)=some (aC ρ o))(h2:∀s j k a b,aQ es s j=some a->aQ es s k=some b->ρ.ix s j=ρ.ix s k->j=k)(hm:n<=m)(cy:jm F n f args es r post cn=true):∃σ',(run pt m).c f (ax ρ args) σ=some (.ok (ah ρ r),σ'.setE σ.env)/\Ao ρ F σ σ' post cn:=by
 have:=(jv hf n m hm).c f args _ _ (show jY ρ F (σ.setE []) (um es []) (σ.setE [])from wH hf.l0 rfl h1 h2);unfold jm at cy;cases e:(pd F n).c f args (um es [])with
 |no=>rw[e]at cy;exact nf cy
 |ex b s j c S=>rw[e]at cy;exact nf cy
 |ok v S=>
  rw[e]at cy this
  (refine U this λσ' e1 iD=>?_;clear this)
  rw[Ye,Ye]at cy;have ev:=beq_eq cy.1.1;subst ev;obtain⟨g1,g2⟩:=xH cy.1.2;refine⟨σ',s9 e1,λp hp q hq=>iD.at_ _ _ _ (g1 p hp q hq),λp hp h4=>?_,λs hw i o h=>iD.ro s hw i o h,λs h8 i o h hn=>iD.fr s i o h λj hj=>?_⟩
  ·refine U (g2 p hp) λL l1 l2=>?_;rw[iD.cnt _ L l1 h4,l2,hf.l0];rfl
  ·have hi:=cy.2;unfold EG at hi;rw[X7]at hi;have hi:=hi s (by rcases h8 with rfl|rfl<;>simp);rw[fk.get_def]at hj;refine dJ (S.hp.get s) (λeL=>?_) λL eL=>?_
   ·rw[eL]at hj;exact absurd rfl hj
   ·
    rw[eL]at hi hj;refine dJ (bK j L.es) (λej=>?_) λo' ej=>?_
    ·exact absurd ej hj
    ·
     rw[X7]at hi;have:=hi _ (aX ej);rw[Zd]at this;rcases this with h0|h0
     ·have h0:j=0:=aB.mp h0;rw[h0];exact hn
     ·have rt:1000<=j:=Yg h0;obtain⟨k,rfl⟩:∃k,j=1000+k:=⟨j - 1000,(ZI ‹_›).symm⟩;rw[hf.nw,hf.l0];show(σ.heap s).length+k≠i;exact Y9 (ZK k (bo h))
inductive eC(c:Cf)(N:Nat):Nat->V->Prop where
 |pl {k r:Nat} (hk:k∈eU) (hr:r∈rL):eC c N k (.int (pv (aG c k) r))
 |ref {k i:Nat} (hk:k∈ [12,13,14,15]) (hi:i<N):eC c N k (.int i)
 |s {r i r':Nat} {b:Int} (hr:r∈rL) (hi:i<N) (hb:b=0\/b=1) (rj:r'∈rL):eC c N 4 (.tup [.int (pv 0 r), .int i, .tup [.int b, .int (pv 17 r')]])
 |g {r:Nat} (hr:r∈rL):eC c N 5 (.tup [.int (pv 0 r)])
 |h {r:Nat} (hr:r∈rL):eC c N 6 (.tup [.int (pv 2 r)])
 |q {k k':Nat} {b:Int} {v:V} (hk:(k,k')∈ [(7,0),(8,1),(9,4),(10,17),(11,6)]) (hb:b=0\/b=1) (hv:eC c N k' v):eC c N k (.tup [.int b,v])
inductive cm(g:Gh):Nat->V->V->Prop where
 |pl {k r:Nat} (hk:k∈eU) (hr:r∈rL):cm g k (.int (pv (aG g.c k) r)) (.tup [.int (eV (aG g.c k)), .int (cv (aG g.c k) (pv (aG g.c k) r))])
 |ref {k i:Nat} {a:V} (hk:k∈ [12,13,14,15]) (ha:nth g.addrsL i=some a):cm g k (.int i) (.tup [.int 4,a])
 |s {r i:Nat} {a u t:V} (hr:r∈rL) (ha:nth g.addrsL i=some a) (hu:cm g 10 u t):cm g 4 (.tup [.int (pv 0 r), .int i,u]) (.tup [.int 5, .int 20, .tup [.tup [.int 1, .int (pv 0 r)], .tup [.int 4,a],t]])
 |g {r:Nat} {t:V} (ht:cm g 0 (.int (pv 0 r)) t):cm g 5 (.tup [.int (pv 0 r)]) (.tup [.int 5, .int 21, .tup [t]])
 |h {r:Nat} {t:V} (ht:cm g 2 (.int (pv 2 r)) t):cm g 6 (.tup [.int (pv 2 r)]) (.tup [.int 5, .int 22, .tup [t]])
 |q {k k':Nat} {b:Int} {v t:V} (hk:(k,k')∈ [(7,0),(8,1),(9,4),(10,17),(11,6)]) (ht:cm g k' v t):cm g k (.tup [.int b,v]) (two g.c (iC k) (.tup [.int 1, .int b]) t)
theorem AW:∀p∈ [(7,0),(8,1),(9,4),(10,17),(11,6)],p.1∉eU/\p.1∈ [7,8,9,10,11]:=by decide
structure ThAt(g:Gh)(σ:St)(b:Bx):Prop where
 val:eC g.c g.N b.k b.v
 thing:∃se,nth (σ.heap 9) b.th=some (.inst 124 [(128, .int (Gh.adr b.th)),(87, .int (iC b.k)),(88, .obj 12 (b.th - 3)),(321, .int 0),(129, .int 3),(127,se)])
 ts:∃t,cm g b.k b.v t/\nth (σ.heap 12) (b.th - 3)=some (.list [t])
 rng:3<=b.th/\b.th<g.n
def gG:List Nat:=4::5::6::eU
structure r6(g:Gh)(σ:St)(i:Nat)(b:Bx):Prop extends ThAt g σ b where
 nm:b.k∈gG
 item:∃rw,nth (σ.heap 4) (i+3)=some (.inst 91 [(89, .int ((i:Int)+4)),(87, .int (iC b.k)),(88, .obj 8 i),(93, .none),(140,rw),(292, .int 0),(102, .none)])
 sl:nth (σ.heap 8) i=some (.list [b.v])
noncomputable def yp (c:Cf):List (V×V):=(match c.ka with|true=> [(.tup [.int 16, .int 17], .int 1)]|false=> [])++(match c.ks with|true=> [(.tup [.int 20, .int 17], .int 1)]|false=> [])
def yq(c:Cf):Nat:=match c.ka||c.ks with|true=>3|false=>0
def pe(c:Cf):Nat:=match c.tu with|true=>51|false=>52
noncomputable def As (c:Cf):bu:= .dict 2 (match c.tu with|true=> [(.int 6, .int 1),(.int 7, .int 0)]|false=> [(.int 6, .int 0),(.int 7, .int 1)])
def Ev(c:Cf):List (V×V):=(List.range 5).map λ(i:Nat)=>(.int (23+(i:Int)), .tup [.obj (pe c) i, .tup [], .tup []])
def gw:Nat->Int:=λ_=>0
def b6:Nat->V:=λ_=> .none
def bz:Nat->Nat->Nat:=λ_ _=>0
structure Inv(g:Gh)(σ:St):Prop where
 ok:g.c.ok
 tsv:g.ts=25\/g.ts=121
 gen:∀s j o,aQ (gens (.any 1) g.ts) s j=some o->nth (σ.heap s) ((Z g σ gw b6 bz).ix s j)=some (aC (Z g σ gw b6 bz) o)
 kin:nth (σ.heap 44) 0=some (.dict (yq g.c) (yp g.c))
 rows:nth (σ.heap 111) 0=some (.dict 2 (Ev g.c))
 rowd:∀i,i<5->nth (σ.heap (pe g.c)) i=some (As g.c)
 scr:nth (σ.heap 60) 0=some (.list (g.sc.map .int))
 l4:(σ.heap 4).length=3+g.bx.length
 l8:(σ.heap 8).length=g.bx.length
 l9:(σ.heap 9).length=g.n
 l12:(σ.heap 12).length+3=g.n
 box:∀i b,nth g.bx i=some b->r6 g σ i b
 cell:∀b∈g.ce,ThAt g σ b
 cq:∀b∈g.ce,b.k∈ [7,8,9,10,11]
 dist:((g.bx++g.ce).map λb=>b.th).Nodup
 cnt:g.n=3+g.bx.length+g.ce.length
 scl:g.sc.length<=40
 siz:g.bx.length+g.ce.length<=60
 atb:0<=g.at_/\g.at_<=400
 las:g.lk<25/\eC g.c g.N g.lk g.lv
 it0:∃r,nth (σ.heap 4) 0=some (.inst 91 [(89, .int 1),(87, .int 16),(88, .obj 53 0),(93, .none),(140,r),(292, .int 0),(102, .none)])
 it1:∃r,nth (σ.heap 4) 1=some (.inst 91 [(89, .int 2),(87, .int 13),(88, .obj 53 1),(93, .none),(140,r),(292, .int 0),(102, .none)])
 it2:∃r,nth (σ.heap 4) 2=some (.inst 91 [(89, .int 3),(87, .int (-1)),(88, .obj 53 2),(93, .none),(140,r),(292, .int 0),(102, .obj 54 0)])
 sp:nth (σ.heap 54) 0=some (.inst 245 [(103, .tup [.int 16])])
 sl:∀i,i<3->nth (σ.heap 53) i=some (.list [])
 th0:∃s,nth (σ.heap 9) 0=some (.inst 124 [(128, .int 16),(87, .int 16),(88, .obj 13 0),(321, .int 0),(129, .int 3),(127,s)])
 th1:∃s,nth (σ.heap 9) 1=some (.inst 124 [(128, .int 19),(87, .int 13),(88, .obj 11 0),(321, .int 0),(129, .int 3),(127,s)])
 th2:∃s,nth (σ.heap 9) 2=some (.inst 124 [(128, .int 22),(87, .int 16),(88, .obj 13 1),(321, .int 0),(129, .int 3),(127,s)])
 ts:nth (σ.heap 13) 0=some (.list [.tup [.int 4, .int 0]])/\nth (σ.heap 13) 1=some (.list [.tup [.int 4, .int 0]])/\nth (σ.heap 11) 0=some (.list [.tup [.int 8, .str []]])
structure Al where
 i:Nat->Bool
 a:Nat->Bool
 o:Nat->Nat->Bool
 b:Nat->Bool
section
variable(A:Al)
mutual
noncomputable def nY:SV->Bool
 | .int x _=>A.i x
 | .any n=>A.a n
 | .obj s j=>A.o s j
 | .tup vs=>yo vs
 |_=>true
noncomputable def yo:List SV->Bool
 | []=>true
 |v::r=>nY v&&yo r
end
def VB:Bs->Bool
 | .nil=>true
 | .var b=>A.b b
 | .set b i v=>A.b b&&nY A i&&nY A v
def uz:SO->Bool
 | .inst _ fs=>fs.all λp=>nY A p.2
 | .list b vs=>VB A b&&yo A vs
 | .dict b _ es=>(match b with|some b=>A.b b|none=>true)&&es.all λp=>nY A p.1&&nY A p.2
 | .gone _ fs=>fs.all λp=>nY A p.2
 | .caught _ fs=>fs.all λp=>nY A p.2
end
structure GZ(A:Al)(ρ ui:Ro):Prop where
 i:∀x,A.i x=true->ρ.int x=ui.int x
 a:∀x,A.a x=true->ρ.val x=ui.val x
 o:∀s j,A.o s j=true->ρ.ix s j=ui.ix s j
 b:∀b,A.b b=true->ρ.base b=ui.base b/\ρ.dbase b=ui.dbase b
 s:ρ.str=ui.str
section
variable{A:Al}{ρ ui:Ro}(h:GZ A ρ ui)
include h
theorem d0(e:nY A v=true):ah ρ v=ah ui v:=by
 refine SV.rec (motive_1:=λv=>nY A v=true->ah ρ v=ah ui v) (motive_2:=λv=>yo A v=true->ax ρ v=ax ui v) ?_ ?_ ?_ ?_ ?_ ?_ ?_ ?_ ?_ ?_ ?_ ?_ v e
 ·intro _;rfl
 ·intro _ _;rfl
 ·intro x c e;simp only[lP,h.i x e]
 ·intro _ _;rfl
 ·intro n _;simp only[Iw,h.s]
 ·intro vs i e;simp only[iE];rw[i e]
 ·intro s j e;simp only[ur,h.o s j e]
 ·intro _ _;rfl
 ·intro _ _ _;rfl
 ·intro n e;exact h.a n e
 ·intro _;rfl
 ·intro v r i1 i2 e;simp only[c8];rw[i1 (X5.mp e).1,i2 (X5.mp e).2]
theorem sy:∀{vs:List SV},yo A vs=true->ax ρ vs=ax ui vs:=by
 intro vs
 induction vs with
 |nil=>intro _;rfl
 |cons v r i=>intro e;simp only[c8];rw[d0 h (X5.mp e).1,i (X5.mp e).2]
theorem jz:∀{fs:List (Nat×SV)},(fs.all λp=>nY A p.2)=true->bG ρ fs=bG ui fs:=by
 intro fs
 induction fs with
 |nil=>intro _;exact rfl
 |cons p r ih=>
  intro e;rw[Zs]at e;simp only[bG];rw[d0 h (X5.mp e).1,ih (X5.mp e).2]
theorem xl:∀{es:List (SV×SV)},(es.all λp=>nY A p.1&&nY A p.2)=true->dc ρ es=dc ui es:=by
 intro es
 induction es with
 |nil=>intro _;exact rfl
 |cons p r ih=>
  intro e;rw[Zs]at e;simp only[dc];rw[d0 h (X5.mp (X5.mp e).1).1,d0 h (X5.mp (X5.mp e).1).2,ih (X5.mp e).2]
theorem C5:∀{es:List (SV×SV)},(es.all λp=>nY A p.1&&nY A p.2)=true->over ρ es b=over ui es b:=by
 intro es
 induction es with
 |nil=>intro _;exact rfl
 |cons p r ih=>
  intro e;rw[Zs]at e;simp only[PB];rw[d0 h (X5.mp (X5.mp e).1).1,d0 h (X5.mp (X5.mp e).1).2,ih (X5.mp e).2]
theorem hU(e:uz A o=true):aC ρ o=aC ui o:=by
 cases o with
 |inst c fs=>simp only[aC];rw[jz h e]
 |gone c fs=>simp only[aC];rw[jz h e]
 |caught c fs=>simp only[aC];rw[jz h e]
 |list b vs=>
  have e:=X5.mp e;simp only[aC];(refine(sy h e.2).symm ▸?_)
  cases b with
  |nil=>rfl
  |var b=>simp only[eD];rw[(h.b b e.1).1]
  |set b i v=>
   simp only[eD];rw[(h.b b (X5.mp (X5.mp e.1).1).1).1,d0 h (X5.mp (X5.mp e.1).1).2,d0 h (X5.mp e.1).2]
 |dict b k es=>
  have e:=X5.mp e;cases b with
  |none=>simp only[aC,gI];rw[xl h e.2]
  |some b=>simp only[aC,gI];rw[(h.b b e.1).2,C5 h e.2]
end
noncomputable def nA (l:List Nat) (x:Nat):Bool:=l.any λy=>Nat.beq x y
def Mm(x:Nat):Bool:=nA [0,1,2,3,4,5,6,7,8] x
def IT(x:Nat):Bool:=nA [1,2,9,23,24,25,26,27] x
def Aj:Al:=⟨Mm,IT,λs j=>Nat.blt j 1000&& !wx s,λ_=>true⟩
def LH(ts:Nat):Al:=⟨nA [0,6,7,8],nA [1,23,24,25,26,27],λs j=>Nat.blt j 1000&& !(wx s||Nat.beq s 25||Nat.beq s 121),λ_=>false⟩
def AllP(P:Nat->Prop):List Nat->Prop
 | []=>True
 |a::l=>P a/\AllP P l
theorem yz(hx:nA l x=true)(h:AllP P l):P x:=by
 induction l with
 |nil=>exact nf hx
 |cons a l i=>
  rcases YW.mp hx with e|e
  ·exact Yh e ▸ h.1
  ·exact i e h.2
theorem rU(g g':Gh)(σ σ':St)(X X':Nat->Int)(Y Y':Nat->V)(I I':Nat->Nat->Nat)(s j:Nat)(hj:Nat.blt j 1000=true)(hs:wx s=false)(ht:g.ti=g'.ti\/(s≠25/\s≠121)):(Z g σ X Y I).ix s j=(Z g' σ' X' Y' I').ix s j:=by
 show(if 1000<=j then _ else _)=(if 1000<=j then _ else _);rw[YM (ZU.mpr (Yg hj)),YM (ZU.mpr (Yg hj)),hs];rcases ht with h|h
 ·rw[h];rfl
 ·rw[az h.1,az h.2];rfl
theorem G1(h:AllP P [0,1,2,3,4,5,6,7,8])(r:∀k,P (k+9))(x:Nat):P x:=by
 by_cases hx:x<9
 ·exact yz ((by decide:∀x,x<9->nA [0,1,2,3,4,5,6,7,8] x=true) x hx) h
 ·obtain⟨k,rfl⟩:∃k,x=k+9:=⟨x - 9,(Zu (zaB.mp hx)).symm⟩;exact r k
theorem AH(g:Gh)(σ σ':St)(X X':Nat->Int)(Y Y':Nat->V)(I I':Nat->Nat->Nat):GZ Aj (Z g σ X Y I) (Z g σ' X' Y' I') where
 i x h:=yz (P:=λx=>(Z g σ X Y I).int x=(Z g σ' X' Y' I').int x) h ⟨rfl,rfl,rfl,rfl,rfl,rfl,rfl,rfl,rfl,trivial⟩
 a x h:=yz (P:=λx=>(Z g σ X Y I).val x=(Z g σ' X' Y' I').val x) h ⟨rfl,rfl,rfl,rfl,rfl,rfl,rfl,rfl,trivial⟩
 o s j h:=by
  exact rU _ _ _ _ _ _ _ _ _ _ s j (X5.mp h).1 (by simpa using(X5.mp h).2) (.inl rfl)
 b _ _:=⟨rfl,rfl⟩
 s:=rfl
noncomputable def Gh.co (g:Gh) (c:Cf):Gh:={g with c:=c}
theorem Ox(g g':Gh)(σ σ':St)(X X':Nat->Int)(Y Y':Nat->V)(I I':Nat->Nat->Nat)(ts:Nat):GZ (LH ts) (Z g σ X Y I) (Z (g'.co g.c) σ' X' Y' I') where
 i x h:=yz (P:=λx=>(Z g σ X Y I).int x=(Z (g'.co g.c) σ' X' Y' I').int x) h (R0 rfl rfl rfl rfl trivial)
 a x h:=yz (P:=λx=>(Z g σ X Y I).val x=(Z (g'.co g.c) σ' X' Y' I').val x) h (RY rfl rfl rfl rfl rfl rfl trivial)
 o s j h:=by
  have h:=X5.mp h;have h2:(wx s||Nat.beq s 25||Nat.beq s 121)=false:=by simpa using h.2
  simp only[Zx]at h2;exact rU _ _ _ _ _ _ _ _ _ _ s j h.1 h2.1.1 (.inr ⟨jh h2.1.2,jh h2.2⟩)
 b _ h:=nf h
 s:=rfl
theorem RV(hc:g'.c=g.c)(σ σ':St)(X X':Nat->Int)(Y Y':Nat->V)(I I':Nat->Nat->Nat)(ts:Nat):GZ (LH ts) (Z g σ X Y I) (Z g' σ' X' Y' I'):=
 Eq.rec (motive:=λc _=>GZ (LH ts) (Z g σ X Y I) (Z (g'.co c) σ' X' Y' I')) (Ox g g' σ σ' X X' Y Y' I I' ts) hc.symm
theorem b9{p:Nat->Nat×SO->Bool}(h:(es.all λq=>q.2.all λr=>p q.1 r)=true)(he:aQ es s j=some o):p s (j,o)=true:=by
 refine U (gV he) λl h1 h2=>?_;rw[X7]at h;have:=h _ h1;rw[X7]at this;exact this _ h2
theorem lH(ht:ts=25\/ts=121):((gens (.any 1) ts).all λq=>q.2.all λr=>uz Aj r.2&&Aj.o q.1 r.1)=true:=by
 rcases ht with rfl|rfl<;>decide+kernel
theorem jP(g:Gh)(σ σ':St)(X X':Nat->Int)(Y Y':Nat->V)(I I':Nat->Nat->Nat)(ht:ts=25\/ts=121)(h:aQ (gens (.any 1) ts) s j=some o):aC (Z g σ X Y I) o=aC (Z g σ' X' Y' I') o/\(Z g σ X Y I).ix s j=(Z g σ' X' Y' I').ix s j:=by
 exact⟨hU (AH _ _ _ _ _ _ _ _ _) (X5.mp (b9 (p:=λs r=>uz Aj r.2&&Aj.o s r.1) (lH ht) h)).1,(AH _ _ _ _ _ _ _ _ _).o _ _ (X5.mp (b9 (p:=λs r=>uz Aj r.2&&Aj.o s r.1) (lH ht) h)).2⟩
noncomputable def PR:List Nat:= [25,38,39,40,42,45,46,47,48,49,82,99,100]
def j1(s:Nat):Bool:=PR.any λx=>Nat.beq x s
theorem Dq:((gens (.any 1) 25).all λq=>q.2.all λr=>j1 q.1||uz (LH 25) r.2)=true:=by decide+kernel
section
variable(g:Gh){σ:St}{X:Nat->Int}{Y:Nat->V}{I:Nat->Nat->Nat}
theorem fG:g.exactL.length=g.N:=by simp[Gh.exactL,Gh.N];exact YU _ 4
theorem mL:g.heldL.length=g.N:=by simp[Gh.heldL,Gh.N];exact YU _ 4
theorem kr:g.itemsL.length=g.N:=by simp[Gh.itemsL]
theorem dG:g.addrsL.length=g.N:=by simp[Gh.addrsL,Gh.N];exact YU _ 4
theorem i7:g.thingsL.length=g.N:=by simp[Gh.thingsL];exact Za _ _ _
theorem qh:g.hthL.length=g.n:=by simp[Gh.hthL]
theorem xz:g.hatL.length=g.n:=by simp[Gh.hatL]
theorem im:g.cellsL.length=g.ce.length:=by simp[Gh.cellsL]
noncomputable def KZ:List (Nat×SV):= [(1, .int 2 0),(2, .int 2 0),(3, .int 2 0),(4, .int 2 0),(6, .int 2 0),(7, .int 4 0)]
theorem Cd:∀p∈KZ,ah (Z g σ X Y I) p.2= .int (((Z g σ X Y I).base p.1).length:Nat):=by
 intro p hp;simp only[KZ,X9,Yl,YG]at hp
 let z0:=Z g σ X Y I
 have d2:ah z0 (.int 2 0)= .int (g.N:Int):=by
  show V.int ((g.N:Int)+0)=_;rw[ZE]
 rcases hp with rfl|rfl|rfl|rfl|rfl|rfl
 ·(refine((show(z0.base 1).length=g.N from fG g)).symm ▸?_);exact d2
 ·(refine((show(z0.base 2).length=g.N from mL g)).symm ▸?_);exact d2
 ·(refine((show(z0.base 3).length=g.N from kr g)).symm ▸?_);exact d2
 ·(refine((show(z0.base 4).length=g.N from dG g)).symm ▸?_);exact d2
 ·rw[(show(z0.base 6).length=g.N from i7 g)];exact d2
 ·rw[(show(z0.base 7).length=g.n from qh g)];exact(by
  show V.int ((g.n:Int)+0)=_;rw[ZE])
noncomputable def Pf:List (Nat×(Int×Int)):= [(1,(0,500)),(2,(4,100)),(3,(16,400)),(4,(3,100)),(5,(9,300)),(6,(1,11)),(7,(1,11))]
theorem BW:∀x∈kJ,1<=iC x/\iC x<=11:=by decide+kernel
variable{g}
theorem Cg(hc:g.c.ok)(h1:0<=g.at_/\g.at_<=500)(h2:g.bx.length<=90)(h3:3<=g.n/\g.n<=100):∀p∈Pf,p.2.1<=(Z g σ X Y I).int p.1/\(Z g σ X Y I).int p.1<=p.2.2:=by
 intro p hp;simp only[Pf,X9,Yl,YG]at hp;rcases hp with rfl|rfl|rfl|rfl|rfl|rfl|rfl
 ·exact h1
 ·show(4:Int)<=(g.N:Int)/\(g.N:Int)<=100;exact Xr h2
 ·show(16:Int)<=Gh.adr g.n/\Gh.adr g.n<=400;exact(QE h3).1
 ·exact(QE h3).2.1
 ·exact(QE h3).2.2
 ·exact BW _ (gK _ hc.1)
 ·exact BW _ (gK _ hc.2)
theorem TY(h:Inv g σ)(b:Nat):((Z g σ X Y I).base b).length<=500:=by
 have hN:=Yx (Yc (Ym _ _) (h.siz)) 4;have f:∀{n m:Nat},n=m->m<=64->n<=500:=λe h=>e ▸ Yc h ak
 exact G1 (P:=λb=>((Z g σ X Y I).base b).length<=500) ⟨YA _,f (fG g) hN,f (mL g) hN,f (kr g) hN,f (dG g) hN,f (im g) (Yc (Yc (ZF _ _) (h.siz)) ak),
  f (i7 g) hN,f (qh g) (Y7 (by rw[(h.cnt),Y0];exact Yx (h.siz) 3)),Yc (ZD (YO ..)) (Yc h.scl ak),trivial⟩ (λk=>YA _) b
theorem TU(h:Inv g σ)(b:Nat):((Z g σ X Y I).dbase b).length<=500:=by
 exact G1 (P:=λb=>((Z g σ X Y I).dbase b).length<=500) ⟨YA _,Yc (ZD (xz g)) (Yc (by rw[h.cnt,Y0];exact Yx h.siz 3) ak),YA _,YA _,YA _,YA _,YA _,YA _,YA _,trivial⟩ (λk=>YA _) b
theorem Sk(n:Nat):rl ((Z g σ X Y I).str n)=true:=by
 cases n with
 |zero=>exact hZ _
 |succ n=>cases n<;>exact hZ _
theorem PL(s k:Nat):(Z g σ X Y I).ix s (1000+k)=(Z g σ X Y I).len0 s+k:=by
 show(if 1000<=1000+k then(σ.heap s).length+(1000+k - 1000)else _)=_;rw[Ze (Ym _ _),Zc];rfl
end
theorem cO:∀(l:List α) (i:Nat),nth l i=l[i]?
 | [],i=>by rfl
 |a::l,0=>by rfl
 |a::l,i+1=>by simp[SJ,cO l i]
theorem cW(f:α->β)(l:List α)(i:Nat):nth (l.map f) i=(nth l i).map f:=by
 rw[cO,cO,List.getElem?_map]
theorem oF(h:i<n):nth (List.range n) i=some i:=by
 rw[cO,List.getElem?_range h]
section
variable{g:Gh}{i:Nat}{b:Bx}
theorem oG(h:nth g.bx i=some b):nth g.exactL (4+i)=some (.str (aU b.k)):=by
 unfold Gh.exactL;rw[show 4=([.str [], .str [97], .str [116], .str [97]]:List V).length from rfl,b8,cW,h];rfl
theorem C7(h:nth g.bx i=some b):nth g.heldL (4+i)=some b.v:=by
 unfold Gh.heldL;rw[show 4=([.none, .none, .none, .none]:List V).length from rfl,b8,cW,h];rfl
theorem zb(h:nth g.bx i=some b):nth g.addrsL (4+i)=some (.int (Gh.adr b.th)):=by
 unfold Gh.addrsL;rw[show 4=([.int 0, .int 16, .int 19, .int 22]:List V).length from rfl,b8,cW,h];rfl
theorem d9(h:i<g.N):nth g.itemsL i=some (.int (i:Int)):=by
 unfold Gh.itemsL;rw[cW,oF h];rfl
theorem gj(h:i<3+g.bx.length):nth g.thingsL (i+1)=some (.obj 4 i):=by
 show nth ((List.range (3+g.bx.length)).map λ(i:Nat)=>V.obj 4 i) i=_;rw[cW,oF h];rfl
theorem gU:∀{n:Nat},th<n->aO (.int (Gh.adr th)) ((List.range n).map λ(i:Nat)=>((.int (Gh.adr i), .obj 9 i):V×V))=some (.obj 9 th):=by
 intro n
 induction n with
 |zero=>intro h;exact absurd h (zad _)
 |succ n ih=>
  intro h
  rw[ZP,Yo,(show∀(l r:List (V×V)) (x:V),aO x (l++r)=match aO x l with|some v=>some v|none=>aO x r from by
   intro l r x
   induction l with
   |nil=>rfl
   |cons p l ih=>
    rw[YY,bD,bD,ih];cases p.1.beq x<;>rfl)]
  by_cases e:th<n
  ·rw[ih e]
  ·have:th=n:=Nat.le_antisymm (Nat.le_of_lt_succ h) (Nat.le_of_not_lt e);subst this;have no:=by
    exact(show∀l:List Nat,(∀i∈l,i<th)->aO (.int (Gh.adr th)) (l.map λ(i:Nat)=>((.int (Gh.adr i), .obj 9 i):V×V))=none from by
     intro l
     induction l with
     |nil=>intro _;rfl
     |cons a l ih=>
      intro hl;rw[Yn,bD,ih λi hi=>hl i (.tail _ hi)];have ha:=hl a (.head _);rw[iX (λe=>by exact Zm ha (T5 (V.int.inj e)))];rfl) _ λi hi=>zal.mp hi
   rw[no];simp only[Yn,bD,fw.mpr rfl,Zl]
end
noncomputable def uG:Nat->Nat->List (Nat×Nat)->Tr Nat
 |0,_,_=> .e
 |_+1,_, []=> .e
 |_+1,_, [(k,v)]=> .f k v
 |n+1,d,l=> .n (uG n (2*d) (l.filter λp=>Nat.beq (p.1/d%2) 0)) (uG n (2*d) (l.filter λp=>Nat.beq (p.1/d%2) 1))
def SP:Tr Nat:=uG 9 1 [(24,1),(25,3),(26,1),(27,1),(28,1),(29,1),(1,1),(98,1),(38,2),(39,2),(40,2),(42,2),(45,2),(46,2),(47,2),(48,2),(49,2),(82,2),(99,2),(100,2),(4,1),(8,3),(9,1),(12,3),(81,1),(5,1),(18,4),(30,1)]
noncomputable def w0:SV:= .obj 40 0
noncomputable def nX (a l tu:SV):List (SV×SV):= [((.str [115,99,114,105,112,116]),(.obj 60 0)),((.str [97,116]),a),((.str [109]),(.obj 38 0)),((.str [101,118]),(.obj 41 0)),((.str [102]),(.obj 42 0)),((.str [107,105,110]),(.obj 44 0)),((.str [107,105,110,100,115]),(.obj 33 0)),((.str [101,120,97,99,116]),(.obj 45 0)),((.str [104,101,108,100]),(.obj 46 0)),((.str [105,116,101,109,115]),(.obj 47 0)),((.str [97,100,100,114,115]),(.obj 48 0)),((.str [99,101,108,108,115]),(.obj 49 0)),((.str [108,97,115,116]),l),((.str [117,110,100,101,114,115]),(.obj 50 0)),((.str [116,117,114,110,101,100]),tu)]
def valAt(n:Nat)(es:List (SV×SV)):SV:=Option.rec .none (λp=>p.2) (rC es n)
def EA(tu:SV)(S:fk):Bool:=Option.rec false (λo=>SO.rec (λ_ _=>false) (λ_ _=>false) (λb k es=>Option.rec (Nat.beq k 1&&Pd es (nX (valAt 1 es) (valAt 12 es) tu)) (λ_=>false) b) (λ_ _=>false) (λ_ _=>false) o) (S.get 40 0)
structure Fs where
 bd:List (Nat×(Int×Int))
 i1:List (SV×SV)
 i2:List (SV×SV)
 i3:List (SV×SV)
 i4:List (SV×SV)
 i6:List (SV×SV)
 d1:List (SV×SV)
 op:List (Nat×List ((SV×SV)×SV))
 eq:List ((SV×SV)×Bool)
 tg:List (List SV×SV)
 vl:List (List SV×SV)
 cu:List (List SV×SV)
def lu(tu:SV)(f:Fs):Fx:={bd:=f.bd++Pf,bl:=KZ,it:= [(1,f.i1),(2,f.i2),(3,f.i3),(4,f.i4),(6,f.i6)],dt:= [(1,f.d1)],op:=f.op,eq:=f.eq,le:= [],ca:= [(197,f.tg),(191,f.vl),(56,f.cu)],cf:=22,pre:=EA tu,mo:=SP}
def kS(k:Nat):SV:=match k with|1=> .int 6 0|3=> .int 7 0|k=> .int 0 (iC k)
def sN(k:Nat):SV:= .str (aU k)
def dm(a b:SV):SV:= .tup [a,b]
noncomputable def iS (x:Nat):SV:= .int x 0
noncomputable def cS (n:Int):SV:= .int 0 n
def jf(tu:Bool)(kd:Int)(AB AF:SV):SV:= .tup [cS 5,cS kd,match tu with|true=> .tup [AF,AB]|false=> .tup [AB,AF]]
noncomputable def fh (k:Nat):Option Nat:=match k with|7=>some 0|8=>some 1|9=>some 4|10=>some 17|11=>some 6|_=>none
def vS(o k:Nat):SV:=match k with
 |4=> .tup [iS (22+o),iS (25+o),dm (iS (26+o)) (iS (27+o))]
 |5=> .tup [iS (22+o)]
 |6=> .tup [iS (22+o)]
 |_=>iS (22+o)
def tS(o k:Nat)(tu:Bool):SV:=match k with
 |4=> .tup [cS 5,cS 20, .tup [dm (cS 1) (iS (22+o)),dm (cS 4) (iS (28+o)),jf tu 24 (dm (cS 1) (iS (26+o))) (dm (cS 1) (iS (29+o)))]]
 |5=> .tup [cS 5,cS 21, .tup [dm (cS 1) (iS (23+o))]]
 |6=> .tup [cS 5,cS 22, .tup [dm (cS 1) (iS (23+o))]]
 |_=>dm (iS (24+o)) (iS (23+o))
def uy(o k:Nat):List (List SV×SV):=match k with
 |4=> [([w0,sN 17,iS (27+o)],dm (cS 1) (iS (29+o)))]
 |5=> [([w0,sN 0,iS (22+o)],dm (cS 1) (iS (23+o)))]
 |6=> [([w0,sN 2,iS (22+o)],dm (cS 1) (iS (23+o)))]
 |k=> [([w0,sN k,iS (22+o)],dm (iS (24+o)) (iS (23+o)))]
def Ae(o k:Nat):List (SV×SV):=match k with|4=> [(iS (25+o),iS (25+o))]|_=> []
def Ad(o k:Nat):List (SV×SV):=match k with|4=> [(iS (25+o),iS (28+o))]|_=> []
noncomputable def ut:Int×Int:=(-9223372036854775808,18446744073709551616)
def GU(o:Nat):List (Nat×(Int×Int)):= [(22+o,ut),(23+o,ut),(25+o,(0,100))]
structure Po where
 ex:List SV
 hb:Bs
 he:List SV
 it:List SV
 ad:List SV
 ce:List SV
 ev:List SV
 th:List SV
 da:List (SV×SV)
 d:Nat
 la:SV
noncomputable def VM (ts j:Nat):SO:= .inst 238 [(36,(.obj 37 0)),(13,(.obj 75 0)),(122,(.obj 39 0)),(244,(.obj 44 0)),(140,(.obj 111 0)),(308,(.obj 112 0)),(143,(.obj 113 0)),(234,(.obj 114 0)),(332,(.obj 115 0)),(351,(.obj 116 0)),(333,(.obj 117 0)),(352,(.obj 118 0)),(173,(.obj 119 0)),(135,(.int 0 0)),(212,(.obj 120 0)),(137,(.obj ts j)),(305,(.obj 122 0)),(353,(.obj 123 0)),(307,(.obj 124 0)),(354,(.obj 125 0)),(355,(.obj 126 0))]
noncomputable def Qj (d:Nat):SO:= .inst 239 [(90,(.obj 99 0)),(110,(.obj 100 0)),(125,(.int 3 (3*d))),(323,(.int 0 4000)),(326,(.obj 101 0)),(324,(.int 0 3)),(130,(.int 5 (3*d))),(327,(.int 0 1001)),(328,(.obj 102 0)),(329,(.obj 103 0)),(330,(.int 0 0)),(126,(.int 4 d))]
noncomputable def TJ (st:SV):SO:= .inst 241 [(89,(.int 0 1)),(336,(.tup [(.int 0 12),(.int 0 1),(.tup [])])),(337, .none),(338,(.int 0 0)),(20,(.obj 43 0)),(339,(.obj 104 0)),(147,st),(340,(.obj 106 0)),(341,(.obj 107 0)),(342,(.obj 108 0)),(343,(.obj 109 0)),(6,(.int 0 0)),(285,(.int 0 1)),(344,(.int 0 0)),(345,(.int 0 (-1)))]
def post(p:Po)(tu:SV):bw:= [(45, [(0, .list (.var 1) p.ex)]),(46, [(0, .list p.hb p.he)]),(47, [(0, .list (.var 3) p.it)]),(48, [(0, .list (.var 4) p.ad)]),(49, [(0, .list (.var 5) p.ce)]),(82, [(0, .list (.var 6) p.ev)]),(99, [(0, .list (.var 7) p.th)]),(100, [(0, .dict (some 1) 2 p.da)]),(38, [(0,VM 25 1000)]),(42, [(0,TJ (.obj 24 1000))]),(39, [(0,Qj p.d)]),(25, [(1000, .list .nil [])]),(40, [(0, .dict none 1 (nX (iS 1) p.la tu))])]
def GG(la:SV):Po:=⟨[], .var 2, [], [], [], [], [], [], [],0,la⟩
def Pz(k:Nat)(v:SV):Po:=⟨[sN k], .var 2, [v], [iS 2], [iS 3], [], [.obj 4 1000], [.obj 9 1000], [(iS 3, .obj 9 1000)],1, .any 2⟩
def OW(n:SV)(k:Nat)(sl rw:SV):SO:= .inst 91 [(89,n),(87, .int 0 (iC k)),(88,sl),(93, .none),(140,rw),(292, .int 0 0),(102, .none)]
def GD(a:SV)(k:Nat)(sl se:SV):SO:= .inst 124 [(128,a),(87, .int 0 (iC k)),(88,sl),(321, .int 0 0),(129, .int 0 3),(127,se)]
def IL(k:Nat)(v t:SV):bw:= [(4, [(1000,OW (iS 2) k (.obj 8 1000) (.obj 81 1000))]),(8, [(1000, .list .nil [v])]),(9, [(1000,GD (iS 3) k (.obj 12 1000) (.int 4 1))]),(12, [(1000, .list .nil [t])])]
noncomputable def uD:List (Nat×Nat):= [(4,0),(8,0),(9,0),(12,0)]
noncomputable def Qy:List (Nat×Nat):= [(4,1),(8,1),(9,1),(12,1)]
def Iz(tu:Bool):Nat->SV
 |23=>jf tu 23 (dm (cS 1) (cS 0)) (dm (cS 1) (cS 0))
 |24=>jf tu 24 (dm (cS 1) (cS 0)) (dm (cS 1) (cS 0))
 |25=>jf tu 25 (dm (cS 1) (cS 0)) (dm (iS 8) (cS 0))
 |26=>jf tu 26 (dm (cS 1) (cS 0)) (.tup [cS 5,cS 20, .tup [dm (cS 1) (cS 0),dm (cS 4) (cS 0),jf tu 24 (dm (cS 1) (cS 0)) (dm (cS 1) (cS 0))]])
 |_=>jf tu 27 (dm (cS 1) (cS 0)) (.tup [cS 5,cS 22, .tup [dm (cS 1) (cS 0)]])
def rS(tu:Bool):Nat:=match tu with|true=>51|false=>52
def qE(tu:Bool):bw:= [(111, [(0, .dict none 2 ([0,1,2,3,4].map λ(i:Nat)=>(cS (23+i), .tup [.obj (rS tu) i, .tup [], .tup []])))]),(rS tu, [0,1,2,3,4].map λ(i:Nat)=>(i, .dict none 2 (match tu with|true=> [(cS 6,cS 1),(cS 7,cS 0)]|false=> [(cS 6,cS 0),(cS 7,cS 1)]))),(113, [(0, .dict none 2 ([23,24,25,26,27].map λ(i:Nat)=>(cS i,Iz tu i)))])]
def ux(tu:SV):bw:= [(40, [(0, .dict none 1 (nX (iS 1) (.any 2) tu))])]
structure BP where
 k:Nat
 p:Nat
 b:Bool
 tu:Bool
def BP.e(x:BP):Nat:=(fh x.k).getD x.k
noncomputable def aS (k:Nat):Bool:=Nat.ble 12 k&&Nat.ble k 15
def BP.v(x:BP):SV:=match fh x.k with
 |some e=> .tup [cS (match x.b with|true=>1|false=>0),vS 0 e]
 |none=>vS 0 x.k
def fB(x:BP):Fs where
 bd:=(match x.e with|1=> [(6,(iC x.p,iC x.p))]|3=> [(7,(iC x.p,iC x.p))]|_=> [])++GU 0
 i1:= []
 i2:= []
 i3:=match aS x.k with|true=> [(iS 22,iS 22)]|false=>(cS 0,cS 0)::Ae 0 x.e
 i4:=match aS x.k with|true=> [(iS 22,iS 28)]|false=>(cS 0,cS 0)::Ad 0 x.e
 i6:= []
 d1:= []
 op:= []
 eq:= []
 tg:=match aS x.k with|true=> []|false=>uy 0 x.e
 vl:= []
 cu:=match aS x.k with|true=> []|false=>(match x.e with|4=> []|5=> []|6=> []|_=> [([kS x.e,iS 23],iS 23)])
def nj(q b:Bool):SV:=match q with|true=> .bool b|false=> .any 1
def GF(q b:Bool):bw:=match q with|true=>qE b|false=> []
def BP.q(x:BP):Bool:=(fh x.k).isSome||Nat.beq x.k 4
def BP.eff(x:BP):Bool:=match fh x.k with|some _=>x.b|none=> !aS x.k
def BP.t(x:BP):SV:=match x.e with|1=>dm (cS (eV x.p)) (iS 23)|3=>dm (cS (eV x.p)) (iS 23)|4=>tS 0 4 x.tu|5=>tS 0 5 x.tu|6=>tS 0 6 x.tu|k=>dm (cS (eV k)) (iS 23)
def Lw(x:BP):Fs:={fB x with tg:=match aS x.k with|true=> []|false=>(match x.e with|4=>uy 0 4|5=>uy 0 5|6=>uy 0 6|k=> [([w0,sN k,iS 22],x.t)])}
def KY(ts:Nat)(x:BP):Bool:=jm (lu (nj x.q x.tu) (Lw x)) 60 213 [w0,sN x.k,x.v] (ux (nj x.q x.tu)++GF x.q x.tu++gens (.any 1) ts) (.bool true)
 (match x.eff with|true=>post (Pz x.e (vS 0 x.e)) (nj x.q x.tu)++IL x.e (vS 0 x.e) x.t|false=>post (GG (.any 2)) (nj x.q x.tu)) (match x.eff with|true=>Qy|false=>uD)
structure OP where
 k:Nat
 j:Nat
 tu:Bool
 ka:Bool
 ks:Bool
 ag:Bool
def ru(k:Nat):Bool:=Nat.beq k 1||Nat.beq k 3
def KD(k:Nat):SV:=match k with|1=> .atom 1|3=> .atom 2|k=>sN k
def isQ(k:Nat):Bool:=(fh k).isSome
def OP.su(x:OP):Bool:=match aS x.j with
 |true=>Nat.beq x.j 12||(Nat.beq x.j 14&&Nat.beq x.k 4&&x.ks)
 |false=>match fh x.j with
  |some e=>Nat.beq e x.k
  |none=>x.ag
def OP.q(x:OP):Bool:=isQ x.j||Nat.beq x.k 4
def nH(k:Nat)(tu:Bool):bw:= [(4, [(0,OW (iS 20) k (.obj 8 0) (.any 10))]),(8, [(0, .list .nil [vS 0 k])]),(9, [(0,GD (iS 21) k (.obj 12 0) (.any 3))]),(12, [(0, .list .nil [tS 0 k tu])])]
def Me(ka ks:Bool):bw:= [(44, [(0, .dict none (match ka||ks with|true=>3|false=>0) ((match ka with|true=> [(dm (cS 16) (cS 17),cS 1)]|false=> [])++(match ks with|true=> [(dm (cS 20) (cS 17),cS 1)]|false=> [])))])]
def EF(q ka ks:Bool):bw:=match q with|true=>Me ka ks|false=> []
def OP.kq(x:OP):Bool:=aS x.j&& !Nat.beq x.j 12
def OP.eq(x:OP):List ((SV×SV)×Bool):=match(ru x.k||ru x.j)&& !Nat.beq x.k x.j with
 |true=> [((KD x.k,KD x.j),x.ag),((kS x.k,kS x.j),x.ag)]
 |false=> []
def OP.tg(x:OP):List (List SV×SV):=match ru x.j||ru x.k with
 |true=>match x.ag&& !Nat.beq x.k x.j with|true=> [([w0,sN x.j,iS 22],dm (iS 24) (iS 23))]|false=> []
 |false=> []
def fO(x:OP):Fs where
 bd:=(20,(4,100))::(21,(25,400))::GU 0
 i1:= [(iS 20,sN x.k)]
 i2:= [(iS 20,vS 0 x.k)]
 i3:=(iS 20,iS 20)::Ae 0 x.k
 i4:=(iS 20,iS 21)::Ad 0 x.k
 i6:= [(iS 20, .obj 4 0)]
 d1:= [(iS 21, .obj 9 0)]
 op:= []
 eq:=x.eq
 tg:=uy 0 x.k++x.tg
 vl:= []
 cu:= []
def OP.va(x:OP):SV:=match aS x.j with
 |true=>iS 20
 |false=>match fh x.j with
  |some e=> .tup [cS 1,vS 0 x.k]
  |none=>vS 0 x.k
def OP.la(x:OP):SV:=match x.su with|true=> .tup [sN x.j,x.va]|false=> .any 2
def rD(v t:SV):bw:= [(8, [(0, .list .nil [v])]),(12, [(0, .list .nil [t])])]
def SC(x:OP):Bool:=jm (lu (nj x.q x.tu) (fO x)) 60 216 [w0,sN x.j,iS 20] (ux (nj x.q x.tu)++(nH x.k x.tu++EF x.kq x.ka x.ks++GF x.q x.tu)++gens (.any 1) 25) (.bool true) (post (GG x.la) (nj x.q x.tu)++rD (vS 0 x.k) (tS 0 x.k x.tu)) uD
def bL:List Bool:= [false,true]
def K2(k j:Nat):List Bool:=match(ru k&&Nat.ble j 24&& !isQ j&& !aS j&& !Nat.beq k j)||(ru j&& !Nat.beq k j)with|true=>(match Nat.blt k 7&&Nat.blt 3 k||Nat.blt j 7&&Nat.blt 3 j with|true=> [false]|false=>bL)|false=> [Nat.beq k j]
def zO(k j:Nat):List Bool:=match isQ j||Nat.beq k 4 with|true=>bL|false=> [false]
def Lh(k j:Nat):List (Bool×Bool):=match aS j&& !Nat.beq j 12 with|true=> [(false,false),(false,true),(true,false),(true,true)]|false=> [(false,false)]
noncomputable def nZ:List Nat:= [0,1,2,3,4,5,6,7,8,9,10,11,12,13,14,15,16,17,18,19,20,21,22,23,24]
def SD(ks js:List Nat):Bool:=ks.all λk=>js.all λj=>(zO k j).all λtu=>(Lh k j).all λq=>(K2 k j).all λag=>SC ⟨k,j,tu,q.1,q.2,ag⟩
structure LP extends OP where
 zp:Bool
 z2:Bool
def b2(b:Bool):SV:=match b with|true=>cS 1|false=>cS 0
def H3(z k:Nat):List (List SV×SV):=match k with
 |4=> [([w0,sN 0,iS z],iS 32),([w0,sN 17,iS 42],iS 37)]
 |5=> [([w0,sN 0,iS z],iS 32)]
 |6=> [([w0,sN 2,iS z],iS 32)]
 |k=> [([w0,sN k,iS z],iS 32)]
def z9(z k:Nat):(List ((SV×SV)×SV))×List ((SV×SV)×SV):=match k with
 |4=>([((iS z,cS 3),iS 40),((iS z,cS 5),iS 41),((iS 41,cS 2),iS 42)], [((iS 40,iS 2),iS 35),((iS 41,cS 2),iS 36)])
 |_=>([], [])
def LP.z(x:LP):Nat:=match isQ x.j with|true=>43|false=>31
def LP.op3(x:LP):List ((SV×SV)×SV):=((iS 30,cS 2),iS 31)::((match isQ x.j with|true=> [((iS 31,cS 2),iS 43)]|false=> [])++(z9 x.z x.k).1)
def LP.op4(x:LP):List ((SV×SV)×SV):=((iS 30,cS 2),b2 x.zp)::((match isQ x.j with|true=> [((iS 31,cS 2),iS 50)]|false=>(match Nat.beq x.k 4&&x.zp with|true=> [((iS 31,cS 2),b2 x.z2)]|false=> []))++(z9 x.z x.k).2)
def LP.op(x:LP):List (Nat×List ((SV×SV)×SV)):= [(3,x.op3),(4,x.op4)]
def LP.wr(x:LP):Bool:=x.su&&x.zp
def fL(x:LP):Fs:={fO x.toOP with
 bd:=GU 10++(fO x.toOP).bd
 i3:=(iS 20,iS 20)::Ae 0 x.k++(match x.wr with|true=>Ae 10 x.k|false=> [])
 i4:=(iS 20,iS 21)::Ad 0 x.k++(match x.wr with|true=>Ad 10 x.k|false=> [])
 op:=match x.su with|true=>x.op|false=> []
 tg:=uy 0 x.k++x.tg++(match x.wr with|true=>uy 10 x.k|false=> [])
 vl:=match x.wr with|true=>H3 x.z x.k|false=> []}
def LP.nv(x:LP):SV:=match Nat.beq x.k 4&&x.z2 with|true=> .tup [iS 32,iS 25,dm (iS 26) (iS 27)]|false=>vS 10 x.k
def LP.nt(x:LP):SV:=match Nat.beq x.k 4&&x.z2 with|true=> .tup [cS 5,cS 20, .tup [dm (cS 1) (iS 32),dm (cS 4) (iS 28),jf x.tu 24 (dm (cS 1) (iS 26)) (dm (cS 1) (iS 29))]]|false=>tS 10 x.k x.tu
def LP.cv(x:LP):SV:=match x.zp with|true=> .tup [iS 50,vS 10 x.k]|false=> .tup [cS 1,vS 0 x.k]
def LP.ct(x:LP):SV:=match x.zp with|true=>jf x.tu (iC x.j) (dm (cS 1) (iS 50)) (tS 10 x.k x.tu)|false=>jf x.tu (iC x.j) (dm (cS 1) (cS 1)) (tS 0 x.k x.tu)
def Py(j:Nat)(v la:SV):Po:=⟨[], .var 2, [], [], [], [.tup [iS 3,sN j,v]], [], [.obj 9 1000], [(iS 3, .obj 9 1000)],1,la⟩
def IK(j:Nat)(t:SV):bw:= [(9, [(1000,GD (iS 3) j (.obj 12 1000) (.int 4 1))]),(12, [(1000, .list .nil [t])])]
def H7(v la:SV):Po:=⟨[], .set 2 (iS 20) v, [], [], [], [], [], [], [],0,la⟩
def LP.post(x:LP):bw:=match x.su with
 |false=>Mine.post (GG (.any 2)) (nj x.q x.tu)++rD (vS 0 x.k) (tS 0 x.k x.tu)
 |true=>match isQ x.j with
  |true=>Mine.post (Py x.j x.cv x.la) (nj x.q x.tu)++(rD (vS 0 x.k) (tS 0 x.k x.tu)++IK x.j x.ct)
  |false=>match x.zp with
   |true=>Mine.post (H7 x.nv x.la) (nj x.q x.tu)++rD x.nv x.nt
   |false=>Mine.post (GG x.la) (nj x.q x.tu)++rD (vS 0 x.k) (tS 0 x.k x.tu)
def Qx:List (Nat×Nat):= [(4,0),(8,0),(9,1),(12,1)]
def LP.cn(x:LP):List (Nat×Nat):=match x.su&&isQ x.j with|true=>Qx|false=>uD
def PA(x:LP):Bool:=jm (lu (nj x.q x.tu) (fL x)) 60 220 [w0,sN x.j,iS 20,iS 30] (ux (nj x.q x.tu)++(nH x.k x.tu++GF x.q x.tu)++gens (.any 1) 25) (.bool true) x.post x.cn
def Pk(su:Bool):List Bool:=match su with|true=>bL|false=> [false]
def Oy(k j:Nat)(zp:Bool):List Bool:=match Nat.beq k 4&&zp&& !isQ j with|true=>bL|false=> [false]
def Sz(ks js:List Nat):Bool:=ks.all λk=>js.all λj=>aS j||(zO k j).all λtu=>(K2 k j).all λag=>(Pk (OP.su ⟨k,j,tu,false,false,ag⟩)).all λzp=>(Oy k j zp).all λz2=>PA ⟨⟨k,j,tu,false,false,ag⟩,zp,z2⟩
structure QP where
 i:Nat
 j:Nat
 tu:Bool
 ka:Bool
 ks:Bool
def QP.q(x:QP):Bool:=isQ x.j
def QP.kq(x:QP):Bool:=aS x.j&& !Nat.beq x.j 12&& !Nat.beq x.i 0
def oK(i:Nat):Int:=match i with|2=>13|3=> -1|_=>16
def SI(i:Nat):Int:=match i with|2=>13|_=>16
def PK(i:Nat):List Nat:=match i with|0=> []|2=> [116]|_=> [97]
def oA(i:Nat):Int:=match i with|0=>0|1=>16|2=>19|_=>22
def SG(i:Nat):SV:=match i with|3=> .obj 54 0|_=> .none
noncomputable def SH (i:Nat):SV:=match i with|2=> .obj 11 0|1=> .obj 13 0|_=> .obj 13 1
def rA(i:Nat):bw:=match i with
 |0=> []
 |i=> [(4, [(0, .inst 91 [(89,cS i),(87,cS (oK i)),(88, .obj 53 (i - 1)),(93, .none),(140, .any 10),(292,cS 0),(102,SG i)])]),(9, [(0, .inst 124 [(128,cS (oA i)),(87,cS (SI i)),(88,SH i),(321,cS 0),(129,cS 3),(127, .any 3)])]),(54, [(0, .inst 245 [(103, .tup [cS 16])])])]
def QP.su(x:QP):Bool:=match aS x.j with
 |true=>Nat.beq x.i 0||Nat.beq x.j 12||(Nat.beq x.j 13&& !Nat.beq x.i 2)||(Nat.beq x.j 15&&Nat.beq x.i 2)||(Nat.beq x.j 14&& !Nat.beq x.i 2&&x.ka)
 |false=>false
def fQ(x:QP):Fs where
 bd:= []
 i1:= [(cS x.i, .str (PK x.i))]
 i2:= [(cS x.i, .none)]
 i3:= [(cS x.i,cS x.i)]
 i4:= [(cS x.i,cS (oA x.i))]
 i6:=match x.i with|0=> []|i=> [(cS i, .obj 4 0)]
 d1:=match x.i with|0=> []|i=> [(cS (oA i), .obj 9 0)]
 op:= []
 eq:= []
 tg:= []
 vl:= []
 cu:= []
def QP.la(x:QP):SV:=match x.su with|true=> .tup [sN x.j,cS x.i]|false=> .any 2
def SA(x:QP):Bool:=jm (lu (nj x.q x.tu) (fQ x)) 60 216 [w0,sN x.j,cS x.i] (ux (nj x.q x.tu)++(rA x.i++EF x.kq x.ka x.ks++GF x.q x.tu)++gens (.any 1) 25) (.bool true) (post (GG x.la) (nj x.q x.tu)) uD
def Sx(x:QP):Bool:=jm (lu (nj x.q x.tu) (fQ x)) 60 220 [w0,sN x.j,cS x.i,iS 30] (ux (nj x.q x.tu)++(rA x.i++GF x.q x.tu)++gens (.any 1) 25) (.bool true) (post (GG (.any 2)) (nj x.q x.tu)) uD
def PY(i j:Nat):List (Bool×Bool):=match aS j&& !Nat.beq j 12&& !Nat.beq i 0 with|true=> [(false,false),(false,true),(true,false),(true,true)]|false=> [(false,false)]
def SB(i:Nat)(js:List Nat):Bool:=js.all λj=>(Nat.beq i 0&&isQ j)||(zO 0 j).all λtu=>(PY i j).all λq=>SA ⟨i,j,tu,q.1,q.2⟩
def Sy(i:Nat)(js:List Nat):Bool:=js.all λj=>(Nat.beq i 0&&isQ j)||aS j||(zO 0 j).all λtu=>Sx ⟨i,j,tu,false,false⟩
theorem aJ.mono(h:aJ W g c f args r)(hc:c<=c'):aJ W g c' f args r:=λσ hw m hm=>h σ hw m (Yc hc hm)
theorem aJ.weak(h:aJ W g c f args r)(hw:∀σ,W' σ->W σ):aJ W' g c f args r:=λσ h' m hm=>h σ (hw σ h') m hm
def iw(ρ:Ro)(b:Nat)(q:SV×SV):Prop:=∃n:Nat,ah ρ q.1= .int n/\n<=500/\nth (ρ.base b) n=some (ah ρ q.2)
structure fu(g:Gh)(ρ:Ro)(f:Fs):Prop where
 bd:∀p∈f.bd,p.2.1<=ρ.int p.1/\ρ.int p.1<=p.2.2
 i1:∀q∈f.i1,iw ρ 1 q
 i2:∀q∈f.i2,iw ρ 2 q
 i3:∀q∈f.i3,iw ρ 3 q
 i4:∀q∈f.i4,iw ρ 4 q
 i6:∀q∈f.i6,iw ρ 6 q
 d1:∀q∈f.d1,aO (ah ρ q.1) (ρ.dbase 1)=some (ah ρ q.2)
 op:∀p∈f.op,∀q∈p.2,∀o,ny o=p.1->bZ o (ah ρ q.1.1) (ah ρ q.1.2)=some (ah ρ q.2)
 eq:∀p∈f.eq,(p.2=true↔ah ρ p.1.1=ah ρ p.1.2)
 tg:∀q∈f.tg,aJ (WS g.c) ip 22 197 (ax ρ q.1) (ah ρ q.2)
 vl:∀q∈f.vl,aJ (WS g.c) ip 22 191 (ax ρ q.1) (ah ρ q.2)
 cu:∀q∈f.cu,aJ (WS g.c) ip 22 56 (ax ρ q.1) (ah ρ q.2)
section
variable{g:Gh}{σ:St}{X:Nat->Int}{Y:Nat->V}{I:Nat->Nat->Nat}
theorem Inv.ent(h:Inv g σ)(e:aQ (gens (.any 1) g.ts) s j=some o):nth (σ.heap s) ((Z g σ X Y I).ix s j)=some (aC (Z g σ X Y I) o):=by
 rw[(jP g σ σ X gw Y b6 I bz h.tsv e).1,(jP g σ σ X gw Y b6 I bz h.tsv e).2];exact h.gen s j o e
theorem JO:jk (λs v=>(!xW v||j1 s||Nat.beq s 8||Nat.beq s 12)&&(!Nat.beq s 18||Nat.beq v 4)&&(Nat.beq s 18|| !Nat.beq v 4)) SP=true:=by decide+kernel
theorem Hn(s:Nat):md (lu tu f) s=0\/(λs v=>(!xW v||j1 s||Nat.beq s 8||Nat.beq s 12)&&(!Nat.beq s 18||Nat.beq v 4)&&(Nat.beq s 18|| !Nat.beq v 4)) s (md (lu tu f) s)=true:=
 md_all (F:=lu tu f) (p:=λs v=>(!xW v||j1 s||Nat.beq s 8||Nat.beq s 12)&&(!Nat.beq s 18||Nat.beq v 4)&&(Nat.beq s 18|| !Nat.beq v 4)) JO s
theorem fv(h1:j1 s=false)(h8:s≠8)(Qq:s≠12):xW (md (lu tu f) s)=false:=by
 rcases Hn (tu:=tu) (f:=f) s with h|h
 ·rw[h];rfl
 ·simp only[h1,az h8,az Qq,Ye,zaO,Bool.not_eq_true']at h;exact h.1.1
theorem A5(s:Nat)(h:md (lu tu f) s≠4):ip s=false:=by
 cases e:ip s with
 |false=>rfl
 |true=>
  have:=aB.mp e;subst this;exact absurd rfl h
theorem wG(h:s≠18):md (lu tu f) s≠4:=by
 rcases Hn (tu:=tu) (f:=f) s with h1|h1
 ·rw[h1];decide
 ·intro e;rw[e]at h1;simp only[az h,Ye]at h1;exact absurd h1.2 ak
set_option tactic.hygienic true in
theorem jx(h:EA tu S=true):∃a l,S.get 40 0=some (.dict none 1 (nX a l tu)):=by
 unfold EA at h;refine dJ (S.get 40 0) (λe=>?_) λo e=>?_
 ·rw[e]at h;exact nf h
 ·rw[e]at h;cases o with
  |dict b k es=>
   cases b with
   |some _=>exact nf h
   |none=>
    have h:=X5.mp h;have:=aB.mp h.1;subst this;exact(uR _ _ (by rw[e,<-vm h.2]))
  |_=>exact nf h
theorem wy(h:Inv g σ)(eH:ah (Z g σ X Y I) tu= .bool g.c.tu)(Ai:nth (σ'.heap 40) 0=some (aC (Z g σ X Y I) (.dict none 1 (nX a l tu))))(keep:∀s i o,s=50\/s=33->nth (σ.heap s) i=some o->nth (σ'.heap s) i=some o):WS g.c σ' where
 w:=by
  refine(EU (dc (Z g σ X Y I) (nX a l tu)) ?_ Ai rfl rfl ?_)
  ·rw[jR];exact(by decide:15<=500)
  ·(refine(eH) ▸?_);rfl
 un:=by
  have e:aQ (gens (.any 1) g.ts) 50 0=some (.dict none 1 [((.str [101]),(.atom 1)),((.str [102]),(.atom 2))]):=by
   rcases h.tsv with e|e<;>rw[e]<;>rfl
  exact keep _ _ _ (.inl rfl) (h.ent (X:=X) (Y:=Y) (I:=I) e)
 kd:=by
  refine U ((show∃o,aQ (gens (.any 1) g.ts) 33 0=some o/\aC (Z g σ X Y I) o= .dict 1 (Lg.map λp=>(.str (aU p.1), .int p.2))from by
   rcases h.tsv with e|e<;>rw[e]<;>exact(al _ rfl rfl))) λo e1 e2=>?_
  have:=h.ent (X:=X) (Y:=Y) (I:=I) e1;rw[e2]at this;exact keep _ _ _ (.inr rfl) this
theorem I9(h:Inv g σ):WS g.c σ:=by
 exact wy (X:=gw) (Y:=b6) (I:=bz) h rfl (h.ent (show aQ (gens (.any 1) g.ts) 40 0=some (.dict none 1 (nX (iS 1) (.any 2) (.any 1)))from by
  rcases h.tsv with e|e<;>rw[e]<;>rfl)) λs i o _ h=>h
theorem Qr(h:Inv g σ)(eH:ah (Z g σ X Y I) tu= .bool g.c.tu)(k:fu g (Z g σ X Y I) f):uv (Z g σ X Y I) (lu tu f) (σ.setE []) where
 z:=rfl
 bd p hp:=by
  rcases Yq.mp hp with hp|hp
  ·exact k.bd p hp
  ·exact Cg h.ok (T4 h.atb) (T3 h.siz) (QD h.siz h.cnt) p hp
 st:=Sk
 bn:=TY h
 dn:=TU h
 bl:=Cd g
 it p hp q hq:=by
  simp only[lu,X9,Yl,YG]at hp;rcases hp with rfl|rfl|rfl|rfl|rfl
  ·exact k.i1 q hq
  ·exact k.i2 q hq
  ·exact k.i3 q hq
  ·exact k.i4 q hq
  ·exact k.i6 q hq
 dt p hp q hq:=by
  simp only[lu,X8]at hp;subst hp;exact k.d1 q hq
 op:=k.op
 eq:=k.eq
 le:=J
 nw:=PL
 l0 _:=rfl
 ca p hp q hq S σ' hs j2 m hm:=by
  refine iQ (jx j2) λa l e1=>?_;have yc:=wy h eH (hs.at_ _ _ _ e1) λs i o hh ho=>hs.ro s (fv (by rcases hh with rfl|rfl<;>rfl) (by rcases hh with rfl|rfl<;>decide) (by rcases hh with rfl|rfl<;>decide)) i o ho;simp only[lu,X9,Yl,YG]at hp;rcases hp with rfl|rfl|rfl
  ·exact gv (k.tg q hq) A5 (Yv 22) hs yc m hm
  ·exact gv (k.vl q hq) A5 (Yv 22) hs yc m hm
  ·exact gv (k.cu q hq) A5 (Yv 22) hs yc m hm
theorem xx(x:Nat)(a b:List (Nat×α)):bK x (a++b)=match bK x a with|some v=>some v|none=>bK x b:=by
 induction a with
 |nil=>rfl
 |cons p a ih=>
  rw[YY,bO,bO,ih];cases Nat.beq p.1 x<;>rfl
theorem gW(h:aQ (a++b) s j=some o):(∃l,(s,l)∈a/\(j,o)∈l)\/aQ b s j=some o:=by
 unfold aQ at h;rw[xx]at h;refine dJ (bK s a) (λe=>?_) λl e=>?_
 ·rw[e]at h;exact .inr h
 ·rw[e]at h;exact .inl (al l (aX e) (aX h))
def iM(es:bw):Bool:=es.all λp=>p.2.all λq=>Nat.blt q.1 1000&&(!(wx p.1||Nat.beq p.1 25||Nat.beq p.1 121)||Nat.beq q.1 0)
theorem eo:iM (a++b)=(iM a&&iM b):=List.all_append
theorem jE(h:ts=25\/ts=121):iM (gens (.any 1) ts)=true:=by
 rcases h with rfl|rfl<;>decide+kernel
theorem gS(h:iM es=true)(s j k:Nat)(a b:SO)(ha:aQ es s j=some a)(hb:aQ es s k=some b)(e:(Z g σ X Y I).ix s j=(Z g σ X Y I).ix s k):j=k:=by
 have f:∀{j a},aQ es s j=some a->(Nat.blt j 1000&&(!(wx s||Nat.beq s 25||Nat.beq s 121)||Nat.beq j 0))=true:=λha=>b9 (p:=λs q=>Nat.blt q.1 1000&&(!(wx s||Nat.beq s 25||Nat.beq s 121)||Nat.beq q.1 0)) h ha;have h1:=X5.mp (f ha);have h2:=X5.mp (f hb);refine cY ((wx s||Nat.beq s 25||Nat.beq s 121)) (λq=>?_) λq=>?_
 ·
  rw[q]at h1 h2;rw[aB.mp h1.2,aB.mp h2.2]
 let z0:=Zx.mp q
 ·
  have x:∀{j},Nat.blt j 1000=true->(Z g σ X Y I).ix s j=j:=by
   intro j hj;show(if 1000<=j then _ else cond (wx s) _ (cond (_||_) _ _))=_;rw[YM (ZU.mpr (Yg hj)),(Zx.mp z0.1).1,(Zx.mp z0.1).2,z0.2];rfl
  rw[x h1.1,x h2.1]at e;exact e
theorem j6(h:Inv g σ)(eH:ah (Z g σ X Y I) tu= .bool g.c.tu)(k:fu g (Z g σ X Y I) f)(Qb:iM ex=true)(hex:∀p∈ex,∀q∈p.2,nth (σ.heap p.1) ((Z g σ X Y I).ix p.1 q.1)=some (aC (Z g σ X Y I) q.2))(cy:jm (lu tu f) 60 fn args (ux tu++ex++gens (.any 1) g.ts) r xY cn=true)(hm:60<=m):∃σ',(run pt m).c fn (ax (Z g σ X Y I) args) σ=some (.ok (ah (Z g σ X Y I) r),σ'.setE σ.env)/\Ao (Z g σ X Y I) (lu tu f) σ σ' xY cn:=by
 have Xf:aQ (gens (.any 1) g.ts) 40 0=some (.dict none 1 (nX (iS 1) (.any 2) (.any 1))):=by
  rcases h.tsv with e|e<;>rw[e]<;>rfl
 refine LO (Qr h eH k).ok (λs j o ho=>?_) (gS (by rw[eo,eo,Qb,jE h.tsv];rfl)) hm cy;refine(gW ho).elim (λq=>?_) λh1=>?_
 ·(refine U q λl h1 h2=>?_;try clear q);rcases Yq.mp h1 with h1|h1
  ·simp only[ux,X8,YQ]at h1
   (refine de h1 λq1 q2=>?_;clear h1;subst q1;subst q2)
   simp only[X8,YQ]at h2;obtain⟨rfl,rfl⟩:=h2;refine(h.ent (X:=X) (Y:=Y) (I:=I) Xf).trans (Yd some ?_);simp only[aC,gI,nX,dc,(show ah (Z g σ X Y I) (.any 1)=ah (Z g σ X Y I) tu from by rw[eH];rfl)]
  ·exact hex _ h1 _ h2
 ·exact h.ent h1
end
noncomputable def Gh.up (g:Gh) (σ:St) (bx ce:List Bx) (n lk:Nat) (lv:V):Gh:={g with bx:=bx,ce:=ce,n:=n,lk:=lk,lv:=lv,ts:=25,ti:=(σ.heap 25).length,ss:=24,si:=(σ.heap 24).length}
theorem zo:((gens (.any 1) 25).all λq=>q.2.all λr=>j1 q.1||(match aQ (gens (.any 1) 121) q.1 r.1 with|some o=>o.beq r.2|none=>false))=true:=by decide+kernel
theorem Do(ht:ts=25\/ts=121)(hm:j1 s=false)(h:aQ (gens (.any 1) 25) s j=some o):aQ (gens (.any 1) ts) s j=some o:=by
 rcases ht with rfl|rfl
 ·exact h
 ·have:=b9 (p:=λs r=>j1 s||(match aQ (gens (.any 1) 121) s r.1 with|some o=>o.beq r.2|none=>false)) zo h;rw[hm]at this;have this:=this;refine dJ (aQ (gens (.any 1) 121) s j) (λe=>?_) λo' e=>?_
  ·rw[e]at this;exact nf this
  ·rw[e];rw[e]at this;rw[SO.beq_eq this]
theorem Ms(h:bK s es=some [(0,o0)])(e:aQ es s j=some o):j=0/\o=o0:=by
 unfold aQ at e;rw[h]at e;have e:bK j [(0,o0)]=some o:=e;rw[bO]at e;refine cY (Nat.beq 0 j) (λq=>?_) λq=>?_
 ·rw[q]at e;obtain rfl:=Yi e;exact⟨(aB.mp q).symm,rfl⟩
 ·rw[q]at e;exact nt e
noncomputable def hF (a b c:Int):bu:= .inst 239 [(90,(.obj 99 0)),(110,(.obj 100 0)),(125,(.int a)),(323,(.int 4000)),(326,(.obj 101 0)),(324,(.int 3)),(130,(.int b)),(327,(.int 1001)),(328,(.obj 102 0)),(329,(.obj 103 0)),(330,(.int 0)),(126,(.int c))]
section
variable{g:Gh}{σ σ':St}{X:Nat->Int}{Y:Nat->V}{I:Nat->Nat->Nat}
structure T8(ρ:Ro)(g':Gh)(p:Po)(d:Nat):Prop where
 ex:g'.exactL=ρ.base 1++ax ρ p.ex
 he:g'.heldL=eD ρ p.hb++ax ρ p.he
 it:g'.itemsL=ρ.base 3++ax ρ p.it
 ad:g'.addrsL=ρ.base 4++ax ρ p.ad
 ce:g'.cellsL=ρ.base 5++ax ρ p.ce
 ev:g'.thingsL=ρ.base 6++ax ρ p.ev
 th:g'.hthL=ρ.base 7++ax ρ p.th
 da:g'.hatL=over ρ p.da (ρ.dbase 1)
 d:p.d=d
 la:ah ρ p.la= .tup [.str (aU g'.lk),g'.lv]
theorem J5(h:Inv g σ)(eH:ah (Z g σ X Y I) tu= .bool g.c.tu)(A:T8 (Z g σ X Y I) (g.up σ bx ce (g.n+d) lk lv) p d)(ha:∀q∈post p tu,∀r∈q.2,nth (σ'.heap q.1) ((Z g σ X Y I).ix q.1 r.1)=some (aC (Z g σ X Y I) r.2))(ro:∀s,j1 s=false->s≠8->s≠12->∀i o,nth (σ.heap s) i=some o->nth (σ'.heap s) i=some o):
  ∀s j o,aQ (gens (.any 1) 25) s j=some o->nth (σ'.heap s) ((Z (g.up σ bx ce (g.n+d) lk lv) σ' gw b6 bz).ix s j)=some (aC (Z (g.up σ bx ce (g.n+d) lk lv) σ' gw b6 bz) o):=by
 intro s j o ho;refine uu (j1 s) (λhm=>?_) λhm=>?_
 ·
  have h8:s≠8:=by rintro rfl;refine U (gV ho) λl h1 h2=>?_;exact absurd (b9 (p:=λs r=> !Nat.beq s 8) (by decide+kernel) ho) ak
  have Qq:s≠12:=by rintro rfl;exact absurd (b9 (p:=λs r=> !Nat.beq s 12) (by decide+kernel) ho) ak
  have ok:=b9 (p:=λs r=>j1 s||uz (LH 25) r.2) Dq ho;rw[hm]at ok;have e:=h.ent (X:=X) (Y:=Y) (I:=I) (Do h.tsv hm ho)
  (refine(hU (RV (g:=g) (g':=g.up σ bx ce (g.n+d) lk lv) rfl σ σ' X gw Y b6 I bz 25) ok) ▸?_)
  have hx:(Z g σ X Y I).ix s j=(Z (g.up σ bx ce (g.n+d) lk lv) σ' gw b6 bz).ix s j:=by
   have q:=X5.mp (X5.mp (b9 (p:=λs r=>uz Aj r.2&&Aj.o s r.1) (lH (.inl rfl)) ho)).2;refine rU _ _ _ _ _ _ _ _ _ _ s j q.1 (by simpa using q.2) (.inr ⟨?_,?_⟩)
   ·rintro rfl;exact ng hm
   ·rintro rfl;exact absurd (b9 (p:=λs r=> !Nat.beq s 121) (by decide+kernel) ho) ak
  (refine(hx) ▸?_)
  exact ro s hm h8 Qq _ _ e
 ·
  have hs:s∈PR:=by
   unfold j1 at hm;rw[zax]at hm
   (refine U hm λx hx e=>?_;clear hm)
   (refine(aB.mp e) ▸?_);exact hx
  simp only[PR,X9,Yl,YG]at hs;have P:∀{s j:Nat} {o:SO} {l},(s,l)∈post p tu->(j,o)∈l->nth (σ'.heap s) ((Z g σ X Y I).ix s j)=some (aC (Z g σ X Y I) o):=λh1 h2=>ha _ h1 _ h2;rcases hs with rfl|rfl|rfl|rfl|rfl|rfl|rfl|rfl|rfl|rfl|rfl|rfl|rfl<;>(refine de (Ms rfl ho) λq1 q2=>?_;subst q1;subst q2)
  ·exact P (s:=25) (j:=1000) (.tail _ (.tail _ (.tail _ (.tail _ (.tail _ (.tail _ (.tail _ (.tail _ (.tail _ (.tail _ (.tail _ (.head _)))))))))))) (.head _)
  ·exact P (s:=38) (j:=0) (.tail _ (.tail _ (.tail _ (.tail _ (.tail _ (.tail _ (.tail _ (.tail _ (.head _))))))))) (.head _)
  ·have e:=P (s:=39) (j:=0) (.tail _ (.tail _ (.tail _ (.tail _ (.tail _ (.tail _ (.tail _ (.tail _ (.tail _ (.tail _ (.head _))))))))))) (.head _);refine e.trans (Yd some ?_);rw[(show aC (Z g σ X Y I) (Qj p.d)=hF (Gh.adr g.n+3*(p.d:Int)) (3*(g.n:Int)+3*(p.d:Int)) ((g.n:Int)+(p.d:Int))from rfl)];refine Eq.trans ?_ (show aC (Z (g.up σ bx ce (g.n+d) lk lv) σ' gw b6 bz) (Qj 0)=hF (Gh.adr (g.n+d)+0) (3*((g.n+d:Nat):Int)+0) (((g.n+d:Nat):Int)+0)from rfl).symm;rw[(show Gh.adr g.n+3*(p.d:Int)=Gh.adr (g.n+d)+0 from by rw[A.d];exact Xq ..),(show 3*(g.n:Int)+3*(p.d:Int)=3*((g.n+d:Nat):Int)+0 from by rw[A.d];exact T2 ..),(show(g.n:Int)+(p.d:Int)=((g.n+d:Nat):Int)+0 from by rw[A.d];exact rfl)]
  ·have e:=P (s:=40) (j:=0) (.tail _ (.tail _ (.tail _ (.tail _ (.tail _ (.tail _ (.tail _ (.tail _ (.tail _ (.tail _ (.tail _ (.tail _ (.head _))))))))))))) (.head _);refine e.trans (Yd some ?_);simp only[aC,gI,nX,dc,eH,A.la];rfl
  ·exact P (s:=42) (j:=0) (.tail _ (.tail _ (.tail _ (.tail _ (.tail _ (.tail _ (.tail _ (.tail _ (.tail _ (.head _)))))))))) (.head _)
  ·have e:=P (s:=45) (j:=0) (.head _) (.head _);refine e.trans (Yd some ?_);exact Yd bu.list (A.ex.symm.trans (Yt _).symm)
  ·have e:=P (s:=46) (j:=0) (.tail _ (.head _)) (.head _);refine e.trans (Yd some ?_);exact Yd bu.list (A.he.symm.trans (Yt _).symm)
  ·have e:=P (s:=47) (j:=0) (.tail _ (.tail _ (.head _))) (.head _);refine e.trans (Yd some ?_);exact Yd bu.list (A.it.symm.trans (Yt _).symm)
  ·have e:=P (s:=48) (j:=0) (.tail _ (.tail _ (.tail _ (.head _)))) (.head _);refine e.trans (Yd some ?_);exact Yd bu.list (A.ad.symm.trans (Yt _).symm)
  ·skip;refine(P (s:=49) (j:=0) (.tail _ (.tail _ (.tail _ (.tail _ (.head _))))) (.head _)).trans (Yd some ?_);exact Yd bu.list (A.ce.symm.trans (Yt _).symm)
  ·skip;refine(P (s:=82) (j:=0) (.tail _ (.tail _ (.tail _ (.tail _ (.tail _ (.head _)))))) (.head _)).trans (Yd some ?_);exact Yd bu.list (A.ev.symm.trans (Yt _).symm)
  ·skip;refine(P (s:=99) (j:=0) (.tail _ (.tail _ (.tail _ (.tail _ (.tail _ (.tail _ (.head _))))))) (.head _)).trans (Yd some ?_);exact Yd bu.list (A.th.symm.trans (Yt _).symm)
  ·skip;refine(P (s:=100) (j:=0) (.tail _ (.tail _ (.tail _ (.tail _ (.tail _ (.tail _ (.tail _ (.head _)))))))) (.head _)).trans (Yd some ?_);exact Yd (bu.dict 2) A.da.symm
end
theorem eC.mono(h:N<=N')(x:eC c N k v):eC c N' k v:=by
 induction x with
 |pl hk hr=>exact .pl hk hr
 |ref hk hi=>exact .ref hk (Yr hi h)
 |s hr hi hb rj=>exact .s hr (Yr hi h) hb rj
 |g hr=>exact .g hr
 |h hr=>exact .h hr
 |q hk hb _ ih=>exact .q hk hb ih
theorem cm.mono{g g':Gh}(hc:g'.c=g.c)(ha:∀i a,nth g.addrsL i=some a->nth g'.addrsL i=some a)(x:cm g k v t):cm g' k v t:=by
 induction x with
 |pl hk hr=>(refine(hc) ▸?_);exact .pl hk hr
 |ref hk h=>exact .ref hk (ha _ _ h)
 |s hr h _ ih=>exact .s hr (ha _ _ h) ih
 |g _ ih=>exact .g ih
 |h _ ih=>exact .h ih
 |q hk _ ih=>(refine(hc) ▸?_);exact .q hk ih
section
variable{g g':Gh}{σ σ':St}
theorem ThAt.mono(x:ThAt g σ b)(hc:g'.c=g.c)(hN:g.N<=g'.N)(ha:∀i a,nth g.addrsL i=some a->nth g'.addrsL i=some a)(hn:g.n<=g'.n)(k9:∀i o,nth (σ.heap 9) i=some o->nth (σ'.heap 9) i=some o)(uA:∀o,nth (σ.heap 12) (b.th - 3)=some o->nth (σ'.heap 12) (b.th - 3)=some o):ThAt g' σ' b where
 val:=by(refine(hc).symm ▸?_);exact x.val.mono hN
 thing:=let ⟨se,h⟩:=x.thing;⟨se,k9 _ _ h⟩
 ts:=let ⟨t,h1,h2⟩:=x.ts;(al t (h1.mono hc ha) (uA _ h2))
 rng:=⟨x.rng.1,Yr x.rng.2 hn⟩
theorem r6.mono(x:r6 g σ i b)(hc:g'.c=g.c)(hN:g.N<=g'.N)(ha:∀i a,nth g.addrsL i=some a->nth g'.addrsL i=some a)(hn:g.n<=g'.n)(k4:∀i o,nth (σ.heap 4) i=some o->nth (σ'.heap 4) i=some o)(k8:∀o,nth (σ.heap 8) i=some o->nth (σ'.heap 8) i=some o)(k9:∀i o,nth (σ.heap 9) i=some o->nth (σ'.heap 9) i=some o)(uA:∀o,nth (σ.heap 12) (b.th - 3)=some o->nth (σ'.heap 12) (b.th - 3)=some o):r6 g' σ' i b where
 toThAt:=x.toThAt.mono hc hN ha hn k9 uA
 nm:=x.nm
 item:=let ⟨r,h⟩:=x.item;⟨r,k4 _ _ h⟩
 sl:=k8 _ x.sl
theorem Inv.setE(h:Inv g σ):Inv g (σ.setE e):={h with
 box:=λi b hb=>let x:=h.box i b hb;⟨⟨x.val,x.thing,x.ts,x.rng⟩,x.nm,x.item,x.sl⟩
 cell:=λb hb=>let x:=h.cell b hb;⟨x.val,x.thing,x.ts,x.rng⟩}
end
section
variable{g:Gh}{σ σ':St}{X:Nat->Int}{Y:Nat->V}{I:Nat->Nat->Nat}
theorem Inv.next(h:Inv g σ)(eH:ah (Z g σ X Y I) tu= .bool g.c.tu)(A:T8 (Z g σ X Y I) (g.up σ bx ce (g.n+d) lk lv) p d)(R:Ao (Z g σ X Y I) (lu tu f) σ σ' xY cn)(hp:∀q∈post p tu,q∈xY)(l4:(σ'.heap 4).length=3+bx.length)(l8:(σ'.heap 8).length=bx.length)(l9:(σ'.heap 9).length=g.n+d)(l12:(σ'.heap 12).length+3=g.n+d)(box:∀i b,nth bx i=some b->r6 (g.up σ bx ce (g.n+d) lk lv) σ' i b)(cell:∀b∈ce,ThAt (g.up σ bx ce (g.n+d) lk lv) σ' b)(cq:∀b∈ce,b.k∈ [7,8,9,10,11])(dist:((bx++ce).map λb=>b.th).Nodup)(cnt:g.n+d=3+bx.length+ce.length)(siz:bx.length+ce.length<=60)(las:lk<25/\eC g.c (4+bx.length) lk lv):Inv (g.up σ bx ce (g.n+d) lk lv) σ':=by
 have ro:=λs h1 h2 h3=>R.ro s (fv h1 h2 h3);have k:∀{s i o},j1 s=false->s≠8->s≠12->nth (σ.heap s) i=some o->nth (σ'.heap s) i=some o:=λh1 h2 h3 h=>ro _ h1 h2 h3 _ _ h
 exact {
  ok:=h.ok
  tsv:= .inl rfl
  gen:=J5 h eH A (λq hq=>R.at_ q (hp q hq)) ro
  kin:=k rfl ak ak h.kin
  rows:=k rfl ak ak h.rows
  rowd:=λi hi=>by
   have:=h.rowd i hi;show nth (σ'.heap (pe g.c)) i=some (As g.c)
   revert this
   unfold pe;cases g.c.tu<;>exactλthis=>k rfl ak ak this
  scr:=k rfl ak ak h.scr
  l4:=l4
  l8:=l8
  l9:=l9
  l12:=l12
  box:=box
  cell:=cell
  cq:=cq
  dist:=dist
  cnt:=cnt
  scl:=h.scl
  siz:=siz
  atb:=h.atb
  las:=las
  it0:=let ⟨r,e⟩:=h.it0;⟨r,k rfl ak ak e⟩
  it1:=let ⟨r,e⟩:=h.it1;⟨r,k rfl ak ak e⟩
  it2:=let ⟨r,e⟩:=h.it2;⟨r,k rfl ak ak e⟩
  sp:=k rfl ak ak h.sp
  sl:=λi hi=>k rfl ak ak (h.sl i hi)
  th0:=let ⟨r,e⟩:=h.th0;⟨r,k rfl ak ak e⟩
  th1:=let ⟨r,e⟩:=h.th1;⟨r,k rfl ak ak e⟩
  th2:=let ⟨r,e⟩:=h.th2;⟨r,k rfl ak ak e⟩
  ts:=(gA (k rfl ak ak h.ts.1) (k rfl ak ak h.ts.2.1) (k rfl ak ak h.ts.2.2))}
end
theorem iU(h:k∈eU):k≠4/\k≠5/\k≠6:=by
 exact(show∀k∈eU,k≠4/\k≠5/\k≠6 from by decide) k h
theorem AO{o k:Nat}(h:k∈eU):vS o k=iS (22+o):=by
 refine dW (iU h) λh4 h5 h6=>?_;unfold vS;split
 ·exact absurd rfl h4
 ·exact absurd rfl h5
 ·exact absurd rfl h6
 ·rfl
theorem oh(h:k∈eU):tS o k tu=dm (iS (24+o)) (iS (23+o)):=by
 refine dW (iU h) λh4 h5 h6=>?_;unfold tS;split
 ·exact absurd rfl h4
 ·exact absurd rfl h5
 ·exact absurd rfl h6
 ·rfl
theorem By{o k:Nat}(h:k∈eU):uy o k= [([w0,sN k,iS (22+o)],dm (iS (24+o)) (iS (23+o)))]:=by
 refine dW (iU h) λh4 h5 h6=>?_;unfold uy;split
 ·exact absurd rfl h4
 ·exact absurd rfl h5
 ·exact absurd rfl h6
 ·rfl
theorem BZ{o k:Nat}(h:k≠4):Ae o k= []/\Ad o k= []:=by
 unfold Ae Ad;split
 ·exact absurd rfl h
 ·exact⟨rfl,rfl⟩
structure VO(g:Gh)(ρ:Ro)(o k:Nat)(v t:V):Prop where
 v:ah ρ (vS o k)=v
 t:ah ρ (tS o k g.c.tu)=t
 tg:∀q∈uy o k,aJ (WS g.c) ip 22 197 (ax ρ q.1) (ah ρ q.2)
 i3:∀q∈Ae o k,iw ρ 3 q
 i4:∀q∈Ad o k,iw ρ 4 q
 bd:∀p∈GU o,p.2.1<=ρ.int p.1/\ρ.int p.1<=p.2.2
theorem tc{g:Gh}(h:nth g.addrsL i=some a):∃z,a= .int z:=by
 have:∀x∈g.addrsL,∃z,x=V.int z:=by
  intro x hx;rcases Yq.mp hx with hx|hx
  ·simp only[X9,Yl,YG]at hx;rcases hx with rfl|rfl|rfl|rfl<;>exact⟨_,rfl⟩
  ·(refine U (YD.mp hx) λb _ q3=>?_;subst q3)
   exact⟨_,rfl⟩
 rw[cO]at h;exact this a (List.mem_of_getElem? h)
theorem pz(hp:p∈re)(hr:r∈rL):ut.1<=pv p r/\pv p r<=ut.2/\ut.1<=cv p (pv p r)/\cv p (pv p r)<=ut.2:=by
 have h:(re.all λp=>rL.all λr=>decide (ut.1<=pv p r)&&decide (pv p r<=ut.2)&&decide (ut.1<=cv p (pv p r))&&decide (cv p (pv p r)<=ut.2))=true:=by decide+kernel
 rw[X7]at h;have h1:=h p hp;rw[X7]at h1;have h2:=h1 r hr;simp only[Ye,zap]at h2;exact(lU (h2.1.1.1) (h2.1.1.2) (h2.1.2) (h2.2))
structure rv(g:Gh)(ρ:Ro):Prop where
 z:ρ.int 0=0
 w:ρ.ix 40 0=0
 b3:ρ.base 3=g.itemsL
 b4:ρ.base 4=g.addrsL
theorem bk(g:Gh)(σ:St)(X:Nat->Int)(Y:Nat->V)(I:Nat->Nat->Nat):rv g (Z g σ X Y I):=⟨rfl,rfl,rfl,rfl⟩
def lg(l:List Int)(i:Nat):Int:=(nth l i).getD 0
theorem iT(hc:c.ok)(hk:k∈eU):aG c k∈re:=(wF hc hk).m
section
variable{g:Gh}{ρ:Ro}
theorem ae(x:Nat):ah ρ (iS x)= .int (ρ.int x):=by simp only[iS,lP,ZE]
theorem au(G:rv g ρ)(n:Int):ah ρ (cS n)= .int n:=by simp only[cS,lP,G.z,YV]
theorem vn(G:rv g ρ):ah ρ w0= .obj 40 0:=by simp only[w0,ur,G.w]
theorem bT(a b:SV):ah ρ (dm a b)= .tup [ah ρ a,ah ρ b]:=rfl
theorem B8(k:Nat):ah ρ (sN k)= .str (aU k):=rfl
theorem eQ(G:rv g ρ)(kd:Int)(a b:SV):ah ρ (jf g.c.tu kd a b)=two g.c kd (ah ρ a) (ah ρ b):=by
 unfold jf two;cases g.c.tu<;>simp only[iE,dP,c8,au G]
theorem mz(WZ:ut.1<=ρ.int (22+o)/\ρ.int (22+o)<=ut.2)(Qn:ut.1<=ρ.int (23+o)/\ρ.int (23+o)<=ut.2)(WY:0<=ρ.int (25+o)/\ρ.int (25+o)<=100):∀p∈GU o,p.2.1<=ρ.int p.1/\ρ.int p.1<=p.2.2:=by
 intro p hp;simp only[GU,X9,Yl,YG]at hp;rcases hp with rfl|rfl|rfl
 ·exact WZ
 ·exact Qn
 ·exact WY
theorem rJ(hc:g.c.ok)(G:rv g ρ)(hk:k∈eU)(hr:r∈rL)(hx:ρ.int x=pv (aG g.c k) r)(ht:ah ρ t= .tup [.int (eV (aG g.c k)), .int (cv (aG g.c k) (pv (aG g.c k) r))]):aJ (WS g.c) ip 22 197 (ax ρ [w0,sN k,iS x]) (ah ρ t):=by
 simp only[dP,c8,vn G,ae,hx,ht];exact JH hc hk hr
theorem cm.pl_inv(h:cm g k v t)(hk:k∈eU):∃r∈rL,v= .int (pv (aG g.c k) r)/\t= .tup [.int (eV (aG g.c k)), .int (cv (aG g.c k) (pv (aG g.c k) r))]:=by
 have n:=(show∀k∈eU,k∉ [12,13,14,15]/\k≠4/\k≠5/\k≠6/\k≠7/\k≠8/\k≠9/\k≠10/\k≠11 from by decide) k hk;cases h with
 |pl _ hr=>exact(aM _ hr rfl rfl)
 |ref hr _=>exact absurd hr n.1
 |s=>exact absurd rfl n.2.1
 |g=>exact absurd rfl n.2.2.1
 |h=>exact absurd rfl n.2.2.2.1
 |q hq _=>exact absurd hk (AW _ hq).1
theorem cm.q_inv(h:cm g k v t)(hk:fh k=some k'):∃b w u,v= .tup [.int b,w]/\t=two g.c (iC k) (.tup [.int 1, .int b]) u/\cm g k' w u:=by
 have no:∀k,(k∈eU\/k∈ [12,13,14,15]\/k=4\/k=5\/k=6)->fh k=none:=by
  intro k h;refine(show∀k∈eU++ [12,13,14,15,4,5,6],fh k=none from by decide) k ?_;rcases h with h|h|rfl|rfl|rfl
  ·exact X6 _ h
  ·refine Yk _ ?_;exact X6 [4,5,6] h
  all_goals decide
 cases h with
 |pl hp _=>rw[no k (.inl hp)]at hk;exact nt hk
 |ref hp _=>rw[no k (.inr (.inl hp))]at hk;exact nt hk
 |s=>exact nt hk
 |g=>exact nt hk
 |h=>exact nt hk
 |q hq ht=>
  simp only[X9,YQ,Yl,YG]at hq;rcases hq with⟨rfl,rfl⟩|⟨rfl,rfl⟩|⟨rfl,rfl⟩|⟨rfl,rfl⟩|⟨rfl,rfl⟩<;>obtain rfl:=Yi hk<;>exact(iO _ _ _ rfl rfl ht)
theorem vc(G:rv g ρ)(hN:g.N<=100){x i:Nat}(hx:ρ.int x=(i:Int))(hi:i<g.N):iw ρ 3 (iS x,iS x):=by
 refine(aM i ?_ (T0 hi hN) ?_)
 ·rw[ae,hx]
 ·rw[ae,hx,G.b3];exact d9 hi
theorem vz(G:rv g ρ)(hN:g.N<=100){x y i:Nat}(hx:ρ.int x=(i:Int))(hy:ρ.int y=a)(ha:nth g.addrsL i=some (.int a)):iw ρ 4 (iS x,iS y):=by
 have:=bo ha;rw[dG]at this;refine(aM i ?_ (T0 this hN) ?_)
 ·rw[ae,hx]
 ·rw[ae,hy,G.b4];exact ha
set_option tactic.hygienic true in
theorem og(hc:g.c.ok)(hN:g.N<=100)(hk:k∈gG){v t:V}(ht:cm g k v t):∃l:List Int,∀(ρ:Ro) (o:Nat),rv g ρ->(∀i,i<8->ρ.int (22+i+o)=lg l i)->VO g ρ o k v t:=by
 cases ht with
 |pl hp hr=>
  rename_i r
  let z0:=aG g.c k
  refine⟨[pv z0 r,cv z0 (pv z0 r),eV z0],λρ o G hl=>?_⟩;have e0:=hl 0 ak;have e1:=hl 1 ak;have e3:=hl 3 ak;have bb:=pz (iT hc hp) hr;have et:ah ρ (tS o k g.c.tu)= .tup [.int (eV z0), .int (cv z0 (pv z0 r))]:=by
   rw[oh hp,bT,ae,ae];rw[show ρ.int (24+o)=_ from(hl 2 ak),show ρ.int (23+o)=_ from e1];rfl
  refine⟨by rw[AO hp,ae];exact Yd V.int e0,et,λq hq=>?_,?_,?_,mz ?_ ?_ ?_⟩
  ·rw[By hp]at hq;rw[X8.mp hq];rw[oh hp]at et;exact rJ hc G hp hr e0 et
  ·(refine((BZ (iU hp).1).1).symm ▸?_);nofun
  ·(refine((BZ (iU hp).1).2).symm ▸?_);nofun
  ·rw[show ρ.int (22+o)=_ from e0];exact⟨bb.1,bb.2.1⟩
  ·rw[show ρ.int (23+o)=_ from e1];exact⟨bb.2.2.1,bb.2.2.2⟩
  ·rw[show ρ.int (25+o)=_ from e3];exact⟨Y8 0,by show(0:Int)<=100;decide⟩
 |ref hr _=>
  exact absurd hk ((show∀k∈ [12,13,14,15],k∉gG from by decide) k hr)
 |q hq _=>
  have:=(show∀k∈gG,k≠7/\k≠8/\k≠9/\k≠10/\k≠11 from by decide) k hk;simp only[X9,YQ,Yl,YG]at hq;rcases hq with q|q|q|q|q
  ·exact absurd q.1 this.1
  ·exact absurd q.1 this.2.1
  ·exact absurd q.1 this.2.2.1
  ·exact absurd q.1 this.2.2.2.1
  ·exact absurd q.1 this.2.2.2.2
 |g ht=>
  (refine a8 (ht.pl_inv ak) λr hr e q4=>?_;subst q4)
  (refine(e).symm ▸?_)
  refine⟨[pv 0 r,cv 0 (pv 0 r)],λρ o G hl=>?_⟩;have e0:=hl 0 ak;have e1:=hl 1 ak;have e3:=hl 3 ak;have bb:=pz (iT hc (show 0∈eU by decide)) hr;refine⟨?_,?_,λq hq=>?_,J,J,mz ?_ ?_ ?_⟩
  ·simp only[vS,iE,dP,c8,ae];rw[show ρ.int (22+o)=_ from e0];rfl
  ·simp only[tS,iE,dP,c8,ae,au G,bT];rw[show ρ.int (23+o)=_ from e1];rfl
  ·rw[X8.mp hq];refine rJ hc G (show 0∈eU by decide) hr e0 ?_;rw[bT,au G,ae,show ρ.int (23+o)=_ from e1];rfl
  ·rw[show ρ.int (22+o)=_ from e0];exact⟨bb.1,bb.2.1⟩
  ·rw[show ρ.int (23+o)=_ from e1];exact⟨bb.2.2.1,bb.2.2.2⟩
  ·rw[show ρ.int (25+o)=_ from e3];exact⟨Y8 0,by show(0:Int)<=100;decide⟩
 |h ht=>
  (refine a8 (ht.pl_inv ak) λr hr e q4=>?_;subst q4)
  (refine(e).symm ▸?_)
  refine⟨[pv 2 r,cv 2 (pv 2 r)],λρ o G hl=>?_⟩;have e0:=hl 0 ak;have e1:=hl 1 ak;have e3:=hl 3 ak;have bb:=pz (iT hc (show 2∈eU by decide)) hr;refine⟨?_,?_,λq hq=>?_,J,J,mz ?_ ?_ ?_⟩
  ·simp only[vS,iE,KR,KS,dP,c8,ae];rw[show ρ.int (22+o)=_ from e0];rfl
  ·simp only[tS,Ix,Ly,lP,Ec,Iw,iE,ur,Lx,KR,KS,dP,c8,ae,au G,bT];rw[show ρ.int (23+o)=_ from e1];rfl
  ·rw[X8.mp hq];refine rJ hc G (show 2∈eU by decide) hr e0 ?_;rw[bT,au G,ae,show ρ.int (23+o)=_ from e1];rfl
  ·rw[show ρ.int (22+o)=_ from e0];exact⟨bb.1,bb.2.1⟩
  ·rw[show ρ.int (23+o)=_ from e1];exact⟨bb.2.2.1,bb.2.2.2⟩
  ·rw[show ρ.int (25+o)=_ from e3];exact⟨Y8 0,by show(0:Int)<=100;decide⟩
 |s hr ha hu=>
  rename_i r i a u tu
  (refine cZ (hu.q_inv (k':=17) rfl) λb w t1 q4 q5 hw=>?_;subst q4;subst q5)
  (refine a8 (hw.pl_inv ak) λr' rj q3 q4=>?_;subst q3;subst q4)
  obtain⟨z,rfl⟩:=tc ha;have hi:=bo ha;rw[dG]at hi;refine⟨[pv 0 r,0,0,i,b,pv 17 r',z,cv 17 (pv 17 r')],λρ o G hl=>?_⟩;have e5:ρ.int (27+o)=pv 17 r':=hl 5 ak;have e6:ρ.int (28+o)=z:=hl 6 ak;have e7:ρ.int (29+o)=cv 17 (pv 17 r'):=hl 7 ak;have bb:=pz (iT hc (show 0∈eU by decide)) hr;refine⟨?_,?_,λq hq=>?_,λq hq=>?_,λq hq=>?_,mz ?_ ?_ ?_⟩
  ·simp only[vS,Ix,Ly,lP,Ec,Iw,iE,ur,Lx,KR,KS,dP,c8,ae,bT,(hl 0 ak),(show ρ.int (25+o)=(i:Int)from hl 3 ak),(hl 4 ak),e5];rfl
  ·simp only[tS,Ix,Ly,lP,Ec,Iw,iE,ur,Lx,KR,KS,dP,c8,ae,au G,bT,eQ G,(hl 0 ak),(hl 4 ak),e6,e7];rfl
  ·rw[X8.mp hq];refine rJ hc G (show 17∈eU by decide) rj e5 ?_;rw[bT,au G,ae,e7];rfl
  ·rw[X8.mp hq];exact vc G hN (show ρ.int (25+o)=(i:Int)from hl 3 ak) hi
  ·rw[X8.mp hq];exact vz G hN (show ρ.int (25+o)=(i:Int)from hl 3 ak) e6 ha
  ·rw[(hl 0 ak)];exact⟨bb.1,bb.2.1⟩
  ·rw[(show ρ.int (23+o)=0 from hl 1 ak)];decide
  ·rw[(show ρ.int (25+o)=(i:Int)from hl 3 ak)];exact QC hi hN
end
theorem lM{g:Gh}(h:i<g.N):∃a,nth g.addrsL i=some a:=by
 rw[cO];rw[<-dG g]at h;exact⟨_,Zi h⟩
theorem Jg(h:eC g.c g.N k v):∃t,cm g k v t:=by
 induction h with
 |pl hk hr=>exact(iP _ (.pl hk hr))
 |ref hk hi=>obtain⟨a,ha⟩:=lM hi;exact(iP _ (.ref hk ha))
 |s hr hi hb rj=>obtain⟨a,ha⟩:=lM hi;exact(iP _ (.s hr ha (.q (k':=17) ak (.pl ak rj))))
 |g hr=>exact⟨_, .g (.pl ak hr)⟩
 |h hr=>exact⟨_, .h (.pl ak hr)⟩
 |q hk hb _ ih=>obtain⟨t,ht⟩:=ih;exact(iP _ (.q hk ht))
structure rm(g g':Gh):Prop where
 c:g'.c=g.c
 sc:g'.sc=g.sc
 at_:g'.at_=g.at_
 ts:g'.ts=25
 siz:g'.bx.length+g'.ce.length<=g.bx.length+g.ce.length+1
 mon:g.bx.length<=g'.bx.length
def o8(l:List Int)(x:Nat):Int:=lg l (x - 20)
theorem rK(h:k≠4)(a b:Bool):tS o k a=tS o k b:=by
 unfold tS;split
 ·exact absurd rfl h
 all_goals rfl
section
variable{g:Gh}{σ σ':St}{X:Nat->Int}{Y:Nat->V}{I:Nat->Nat->Nat}
theorem fK(h:q=true->tu=g.c.tu):ah (Z g σ X Y I) (nj q tu)= .bool g.c.tu:=by
 cases q with
 |true=>(refine(h rfl) ▸?_);rfl
 |false=>rfl
theorem Kl(h:tu=g.c.tu):aC (Z g σ X Y I) (.dict none 2 ([23,24,25,26,27].map λ(i:Nat)=>(cS i,Iz tu i)))=aC (Z g σ X Y I) (.dict none 2 [((.int 0 23),(.any 23)),((.int 0 24),(.any 24)),((.int 0 25),(.any 25)),((.int 0 26),(.any 26)),((.int 0 27),(.any 27))]):=by
 have G:=bk g σ X Y I;have d:∀i,i∈ [23,24,25,26,27]->ah (Z g σ X Y I) (Iz tu i)=ah (Z g σ X Y I) (.any i):=by
  intro i hi;simp only[X9,Yl,YG]at hi;rw[h];rcases hi with rfl|rfl|rfl|rfl|rfl<;>simp only[Iz,eQ G,bT,ae,iE,dP,c8]<;>rfl
 simp only[aC,gI,dc,Yn,d 23 ak,d 24 ak,d 25 ak,d 26 ak,d 27 ak];rfl
theorem gn(h:Inv g σ)(ht:q=true->tu=g.c.tu):iM (GF q tu)=true/\∀p∈GF q tu,∀r∈p.2,nth (σ.heap p.1) ((Z g σ X Y I).ix p.1 r.1)=some (aC (Z g σ X Y I) r.2):=by
 cases q with
 |false=>exact⟨rfl,J⟩
 |true=>
  refine⟨by cases tu<;>decide+kernel,λp hp r hr=>?_⟩;simp only[GF,qE,X9,Yl,YG]at hp;rcases hp with rfl|rfl|rfl
  ·(refine(X8.mp hr).symm ▸?_)
   refine h.rows.trans (Yd some ?_);unfold Ev pe
   (refine((ht rfl)) ▸?_)
   cases tu<;>rfl
  ·(refine U (YD.mp hr) λi hi q3=>?_;subst q3)
   have Tn:=by
    exact(show∀i∈ [0,1,2,3,4],i<5 from by decide) i hi
   have e:=h.rowd i Tn;unfold pe As at e;rw[<-(ht rfl)]at e;have hx:∀s,s=51\/s=52->(Z g σ X Y I).ix s i=i:=by
    intro s hs;show(if 1000<=i then _ else _)=_;rw[YM (ZU.mpr (Yr Tn ak))];rcases hs with rfl|rfl<;>rfl
   cases tu with
   |true=>show nth (σ.heap 51) ((Z g σ X Y I).ix 51 i)=_;rw[hx 51 (.inl rfl)];exact e
   |false=>show nth (σ.heap 52) ((Z g σ X Y I).ix 52 i)=_;rw[hx 52 (.inr rfl)];exact e
  ·rw[X8.mp hr]
   refine(h.ent (by
    rcases h.tsv with e|e<;>rw[e]<;>rfl)).trans (Yd some ?_)
   exact(Kl (ht rfl)).symm
theorem dF(ha:iM a=true/\∀p∈a,∀r∈p.2,nth (σ.heap p.1) ((Z g σ X Y I).ix p.1 r.1)=some (aC (Z g σ X Y I) r.2))(hb:iM b=true/\∀p∈b,∀r∈p.2,nth (σ.heap p.1) ((Z g σ X Y I).ix p.1 r.1)=some (aC (Z g σ X Y I) r.2)):iM (a++b)=true/\∀p∈a++b,∀r∈p.2,nth (σ.heap p.1) ((Z g σ X Y I).ix p.1 r.1)=some (aC (Z g σ X Y I) r.2):=by
 refine⟨by rw[eo,ha.1,hb.1];rfl,λp hp=>?_⟩;refine(Yq.mp hp).elim (λhp=>?_) λhp=>?_
 ·exact ha.2 p hp
 ·exact hb.2 p hp
theorem uQ(h:Inv g σ)(eH:ah (Z g σ X Y I) tu= .bool g.c.tu)(R:Ao (Z g σ X Y I) (lu tu f) σ σ' xY uD)(hp:∀q∈post (GG la) tu,q∈xY)(El:ah (Z g σ X Y I) la= .tup [.str (aU lk),lv])(las:lk<25/\eC g.c g.N lk lv)(k8:∀i o,nth (σ.heap 8) i=some o->nth (σ'.heap 8) i=some o)(uA:∀i o,nth (σ.heap 12) i=some o->nth (σ'.heap 12) i=some o):∃g',Inv g' σ'/\rm g g':=by
 have cn:=λs hs Ir=>(R.cn (s,0) hs (wG Ir)).trans (Nat.add_zero _);refine⟨g.up σ g.bx g.ce (g.n+0) lk lv,h.next eH (p:=GG la) ⟨?_,?_,?_,?_,?_,?_,?_,rfl,rfl,El⟩ R hp ?_ ?_ ?_ ?_ (λi b hb=>?_) (λb hb=>?_) h.cq h.dist h.cnt h.siz las,rfl,rfl,rfl,rfl,YT _,Yv _⟩
 ·exact(Yt _).symm
 ·exact(Yt _).symm
 ·exact(Yt _).symm
 ·exact(Yt _).symm
 ·exact(Yt _).symm
 ·exact(Yt _).symm
 ·exact(Yt _).symm
 ·rw[cn 4 ak ak];exact h.l4
 ·rw[cn 8 ak ak];exact h.l8
 ·rw[cn 9 ak ak];exact h.l9
 ·rw[cn 12 ak ak];exact h.l12
 ·exact(h.box i b hb).mono (g':=g.up σ g.bx g.ce (g.n+0) lk lv) rfl (Yv _) (λ_ _ h=>h) (Yv _) (R.ro 4 (fv rfl ak ak)) (k8 i) (R.ro 9 (fv rfl ak ak)) (uA _)
 ·exact(h.cell b hb).mono (g':=g.up σ g.bx g.ce (g.n+0) lk lv) rfl (Yv _) (λ_ _ h=>h) (Yv _) (R.ro 9 (fv rfl ak ak)) (uA _)
end
theorem CU:∀{l:List (V×V)},aO x l=none->eX x v l=l++ [(x,v)]:=by
 intro l
 induction l with
 |nil=>intro _;exact rfl
 |cons q_ l ih=>
  intro h;rw[bD]at h;refine cY (q_.1.beq x) (λe=>?_) λe=>?_
  ·rw[e]at h;cases h
  ·
   rw[e]at h;show(match q_.1.beq x with|true=>(q_.1,v)::l|false=>(q_.1,q_.2)::eX x v l)=_
   (refine(e).symm ▸?_;refine(ih h).symm ▸?_);rfl
theorem zg:∀l:List Nat,(∀i∈l,i<th)->aO (.int (Gh.adr th)) (l.map λ(i:Nat)=>((.int (Gh.adr i), .obj 9 i):V×V))=none:=by
 intro l
 induction l with
 |nil=>intro _;rfl
 |cons a l ih=>
  intro hl;rw[Yn,bD,ih λi hi=>hl i (.tail _ hi)];have ha:=hl a (.head _);rw[iX (λe=>by exact Zm ha (T5 (V.int.inj e)))];rfl
theorem B1(g:Gh):(List.range (g.n+1)).map (λ(i:Nat)=>((.int (Gh.adr i), .obj 9 i):V×V))=eX (.int (Gh.adr g.n)) (.obj 9 g.n) g.hatL:=by
 rw[show g.hatL=(List.range g.n).map (λ(i:Nat)=>((.int (Gh.adr i), .obj 9 i):V×V))from rfl,(CU (v:= .obj 9 g.n) (zg (th:=g.n) (List.range g.n) λi hi=>zal.mp hi)),ZP,Yo];rfl
set_option tactic.hygienic true in
theorem C6(h:nth (l++ [b]) i=some c):nth l i=some c\/(i=l.length/\c=b):=by
 rw[cO]at h⊢;rw[List.getElem?_append]at h;split at h
 ·exact .inl h
 ·rename_i hi;cases e:i - l.length with
  |zero=>rw[e]at h;simp at h;exact .inr ⟨Nat.le_antisymm (Nat.le_of_sub_eq_zero e) (Nat.le_of_not_lt hi),h.symm⟩
  |succ n=>rw[e]at h;simp at h
section
variable{g:Gh}{σ σ':St}{X:Nat->Int}{Y:Nat->V}{I:Nat->Nat->Nat}
theorem dD(s j:Nat):(Z g σ X Y I).ix s (1000+j)=(σ.heap s).length+j:=PL s j
theorem mX{b:Bx}(hb:b.th=n)(h:(l.map λb=>b.th).Nodup)(hl:∀x∈l,x.th<n):((l++ [b]).map λb=>b.th).Nodup:=by
 rw[Yo,YB];refine(gA h (by simp) ?_);intro a ha c hc
 (refine U (YD.mp ha) λx hx q3=>?_;subst q3)
 have:=hl x hx;rw[Yn,List.map_nil,X8]at hc;rw[hc,hb];exact Zm this
theorem qe(h:a∈l):∃i,nth l i=some a:=by
 refine eY (List.mem_iff_getElem?.mp h) λi hi=>?_;exact⟨i,by rw[cO];exact hi⟩
theorem G5(h:Inv g σ)(hx:x∈g.bx++g.ce):x.th<g.n:=by
 rcases Yq.mp hx with hx|hx
 ·refine eY (qe hx) λi hi=>?_;exact(h.box i x hi).rng.2
 ·exact(h.cell x hx).rng.2
theorem RG(h:Inv g σ)(hsz:g.bx.length+g.ce.length<=59){tu vs ts:SV}(eH:ah (Z g σ X Y I) tu= .bool g.c.tu)(R:Ao (Z g σ X Y I) (lu tu f) σ σ' (post (Pz k vs) tu++IL k vs ts) Qy)(hk:k∈gG)(hv:eC g.c g.N k v)(ht:cm g k v t)(ev:ah (Z g σ X Y I) vs=v)(et:ah (Z g σ X Y I) ts=t)(k8:∀i o,nth (σ.heap 8) i=some o->nth (σ'.heap 8) i=some o)(uA:∀i o,nth (σ.heap 12) i=some o->nth (σ'.heap 12) i=some o):∃g',Inv g' σ'/\rm g g'/\g'.n=g.n+1/\g'.bx.length=g.bx.length+1:=by
 have cn:∀s,(s,1)∈Qy->s≠18->(σ'.heap s).length=(σ.heap s).length+1:=λs hs Ir=>R.cn (s,1) hs (wG Ir)
 let z1:=g.bx++ [⟨k,v,g.n⟩]
 let z0:=g.up σ z1 g.ce (g.n+1) g.lk g.lv
 have Ip:z0.N=g.N+1:=by
  show 4+(g.bx++ [_]).length=_;rw[Yz,(show g.N=4+g.bx.length from rfl)];exact(Y0 _ _ _).symm
 have P:∀{s j:Nat} {o:SO} {l},(s,l)∈IL k vs ts->(j,o)∈l->nth (σ'.heap s) ((Z g σ X Y I).ix s j)=some (aC (Z g σ X Y I) o):=λh1 h2=>R.at_ _ (Yk _ h1) _ h2;have ad:z0.addrsL=g.addrsL++ [.int (Gh.adr g.n)]:=by
  show _++(g.bx++ [_]).map _=_;rw[Yo,<-Zw];rfl
 have ha:∀i a,nth g.addrsL i=some a->nth z0.addrsL i=some a:=λi a e=>by rw[ad];exact eO _ e
 have G:=bk g σ X Y I;refine(AK z0 (h.next eH (p:=Pz k vs) ⟨?_,?_,?_,?_,?_,?_,?_,?_,rfl,rfl⟩ R (λq hq=>X6 _ hq) ?_ ?_ ?_ ?_ (λi b hb=>?_) (λb hb=>?_) h.cq ?_ ?_ ?_ ⟨h.las.1,h.las.2.mono (by rw[Yz,(show g.N=4+g.bx.length from rfl)];exact YT _)⟩) ⟨rfl,rfl,rfl,rfl,?_,by show g.bx.length<=(g.bx++ [_]).length;rw[Yz];exact YT _⟩ rfl ?_)
 ·show _++(g.bx++ [_]).map _=g.exactL++_;rw[Yo,<-Zw];rfl
 ·show _++(g.bx++ [_]).map _=g.heldL++ [ah _ vs];rw[Yo,<-Zw,ev];rfl
 ·unfold Gh.itemsL;rw[Ip,ZP,Yo];show _=g.itemsL++ [ah _ (iS 2)];rw[ae];rfl
 ·rw[ad];show _=g.addrsL++ [ah _ (iS 3)];rw[ae];rfl
 ·exact(Yt _).symm
 ·show V.none::(List.range (3+(g.bx++ [_]).length)).map _=g.thingsL++ [V.obj 4 ((Z g σ X Y I).ix 4 1000)];rw[Yz,(show(Z g σ X Y I).ix 4 1000=g.bx.length+3 from(dD 4 0).trans (h.l4.trans (YU ..)))];show V.none::(List.range (3+g.bx.length+1)).map _=_;rw[ZP,Yo,show 3+g.bx.length=g.bx.length+3 by exact YU _ _];unfold Gh.thingsL;rw[YY,show 3+g.bx.length=g.bx.length+3 by exact YU _ _];rfl
 ·show(List.range (g.n+1)).map _=g.hthL++ [V.obj 9 ((Z g σ X Y I).ix 9 1000)];rw[ZP,Yo,((dD 9 0).trans h.l9)];rfl
 ·show(List.range (g.n+1)).map _=eX (ah _ (iS 3)) (V.obj 9 ((Z g σ X Y I).ix 9 1000)) g.hatL;rw[ae,((dD 9 0).trans h.l9)];exact B1 g
 ·rw[cn 4 ak ak,h.l4,Yz];rfl
 ·rw[cn 8 ak ak,h.l8,Yz];rfl
 ·rw[cn 9 ak ak,h.l9]
 ·exact(Yd (·+3) (cn 12 ak ak)).trans (Yd (·+1) h.l12)
 ·rcases C6 hb with hb|⟨rfl,rfl⟩
  ·exact(h.box i b hb).mono (g':=g.up σ z1 g.ce (g.n+1) g.lk g.lv) rfl (by rw[Ip];exact YT _) ha (YT _) (R.ro 4 (fv rfl ak ak)) (k8 i) (R.ro 9 (fv rfl ak ak)) (uA _)
  ·have e4:=P (s:=4) (j:=1000) (.head _) (.head _);have e8:=P (s:=8) (j:=1000) (.tail _ (.head _)) (.head _);have e9:=P (s:=9) (j:=1000) (.tail _ (.tail _ (.head _))) (.head _);have zY:=P (s:=12) (j:=1000) (.tail _ (.tail _ (.tail _ (.head _)))) (.head _);rw[(show(Z g σ X Y I).ix 4 1000=g.bx.length+3 from(dD 4 0).trans (h.l4.trans (YU ..)))]at e4;rw[((dD 8 0).trans h.l8)]at e8;rw[((dD 9 0).trans h.l9)]at e9;rw[(show(Z g σ X Y I).ix 12 1000=g.n - 3 from(dD 12 0).trans (zaK h.l12))]at zY;refine {val:=hv.mono (by rw[Ip];exact YT _),thing:=⟨.int ((Z g σ X Y I).int 4+1),e9.trans (Yd some ?_)⟩,ts:=(al t (cm.mono (g:=g) (g':=g.up σ z1 g.ce (g.n+1) g.lk g.lv) rfl ha ht) (zY.trans ?_)),rng:=⟨n3 h.cnt,Z5 _⟩,nm:=hk,item:=⟨.obj 81 ((Z g σ X Y I).ix 81 1000),e4.trans (Yd some ?_)⟩,sl:=e8.trans ?_}
   ·simp only[GD,aC,bG,lP,ur,(show(Z g σ X Y I).ix 12 1000=g.n - 3 from(dD 12 0).trans (zaK h.l12)),G.z,YV];rfl
   ·simp only[aC,eD,dP,c8,Y1,et]
   ·simp only[OW,aC,bG,Ix,lP,ur,((dD 8 0).trans h.l8),G.z,YV,ae];rw[show(Z g σ X Y I).int 2=(g.bx.length:Int)+4 from by show(g.N:Int)=_;exact Z1 4 g.bx.length]
   ·simp only[aC,eD,dP,c8,Y1,ev]
 ·exact(h.cell b hb).mono (g':=g.up σ z1 g.ce (g.n+1) g.lk g.lv) rfl (by rw[Ip];exact YT _) ha (YT _) (R.ro 9 (fv rfl ak ak)) (uA _)
 ·have nd:=mX (b:=⟨k,v,g.n⟩) rfl h.dist λx hx=>G5 h hx;have:List.Perm ((g.bx++ [(⟨k,v,g.n⟩:Bx)]++g.ce).map λ(b:Bx)=>b.th) ((g.bx++g.ce++ [(⟨k,v,g.n⟩:Bx)]).map λ(b:Bx)=>b.th):=by
   refine List.Perm.map _ ?_;rw[Zw,Zw];exact List.Perm.append_left _ List.perm_append_comm
  exact this.nodup_iff.mpr nd
 ·rw[Yz];exact(Yd (·+1) h.cnt).trans (Za (3+g.bx.length) _ 1)
 ·rw[Yz];exact Yc (ZD (Za _ 1 _)) (YX hsz)
 ·show(g.bx++ [_]).length+g.ce.length<=_;rw[Yz];exact ZD (Za _ 1 _)
 ·show(g.bx++ [_]).length=_;rw[Yz];rfl
end
theorem ey(f:α->β)(b:α):∀(l:List α) (i:Nat),(setNth b l i).map f=setNth (f b) (l.map f) i
 | [],_=>rfl
 |a::l,0=>rfl
 |a::l,i+1=>Yd (f a::·) (ey f b l i)
theorem ie:∀{l:List α} {i:Nat},nth l i=some a->setNth a l i=l
 | [],_,h=>by cases h
 |b::l,0,h=>by obtain rfl:=Yi h;rfl
 |b::l,i+1,h=>Yd (b::·) (ie (l:=l) (i:=i) h)
theorem vD(b:α):∀(p l:List α) (i:Nat),setNth b (p++l) (p.length+i)=p++setNth b l i:=by
 intro p
 induction p with
 |nil=>intro l i;rw[Y1,zaJ,zaz];rfl
 |cons a p ih=>
  intro l i;rw[YY,zaw,Nat.succ_add];exact Yd (a::·) (ih l i)
section
variable{g:Gh}{σ σ':St}{X:Nat->Int}{Y:Nat->V}{I:Nat->Nat->Nat}
theorem RF(h:Inv g σ)(hsz:g.bx.length+g.ce.length<=59){tu vs ts la:SV}{f:Fs}{xY:bw}{k lk:Nat}{v t lv:V}(eH:ah (Z g σ X Y I) tu= .bool g.c.tu)(R:Ao (Z g σ X Y I) (lu tu f) σ σ' xY Qx)(Wl:∀q∈post (Py k vs la) tu,q∈xY)(Wk:∀q∈IK k ts,q∈xY)(hk:k∈ [7,8,9,10,11])(hv:eC g.c g.N k v)(ht:cm g k v t)(ev:ah (Z g σ X Y I) vs=v)(et:ah (Z g σ X Y I) ts=t)(El:ah (Z g σ X Y I) la= .tup [.str (aU lk),lv])(las:lk<25/\eC g.c g.N lk lv)(k8:∀i o,nth (σ.heap 8) i=some o->nth (σ'.heap 8) i=some o)(uA:∀i o,nth (σ.heap 12) i=some o->nth (σ'.heap 12) i=some o):∃g',Inv g' σ'/\rm g g':=by
 have cn:∀s d,(s,d)∈Qx->s≠18->(σ'.heap s).length=(σ.heap s).length+d:=λs d hs Ir=>R.cn (s,d) hs (wG Ir);have P:∀{s j:Nat} {o:SO} {l},(s,l)∈IK k ts->(j,o)∈l->nth (σ'.heap s) ((Z g σ X Y I).ix s j)=some (aC (Z g σ X Y I) o):=λh1 h2=>R.at_ _ (Wk _ h1) _ h2;have Lj:(Z g σ X Y I).ix 12 1000=g.n - 3:=(dD 12 0).trans (zaK h.l12);have hc:=h.cnt
 let z0:=g.ce++ [⟨k,v,g.n⟩]
 refine⟨g.up σ g.bx z0 (g.n+1) lk lv,h.next eH (p:=Py k vs la) ⟨?_,?_,?_,?_,?_,?_,?_,?_,rfl,El⟩ R Wl ?_ ?_ ?_ ?_ (λi b hb=>?_) (λb hb=>?_) (λb hb=>by
  rcases Yq.mp hb with hb|hb
  ·exact h.cq b hb
  ·(refine(X8.mp hb).symm ▸?_);exact hk) ?_ ?_ ?_ las,rfl,rfl,rfl,rfl,?_,Yv _⟩
 ·exact(Yt _).symm
 ·exact(Yt _).symm
 ·exact(Yt _).symm
 ·exact(Yt _).symm
 ·show(g.ce++ [_]).map _=g.cellsL++ [V.tup [ah _ (iS 3),V.str (aU k),ah _ vs]];rw[Yo,ae,ev];rfl
 ·exact(Yt _).symm
 ·show(List.range (g.n+1)).map _=g.hthL++ [V.obj 9 ((Z g σ X Y I).ix 9 1000)];rw[ZP,Yo,((dD 9 0).trans h.l9)];rfl
 ·show(List.range (g.n+1)).map _=eX (ah _ (iS 3)) (V.obj 9 ((Z g σ X Y I).ix 9 1000)) g.hatL;rw[ae,((dD 9 0).trans h.l9)];exact B1 g
 ·rw[cn 4 0 ak ak];exact h.l4
 ·rw[cn 8 0 ak ak];exact h.l8
 ·rw[cn 9 1 ak ak,h.l9]
 ·exact(Yd (·+3) (cn 12 1 ak ak)).trans (Yd (·+1) h.l12)
 ·exact(h.box i b hb).mono (g':=g.up σ g.bx z0 (g.n+1) lk lv) rfl (Yv _) (λ_ _ h=>h) (YT _) (R.ro 4 (fv rfl ak ak)) (k8 i) (R.ro 9 (fv rfl ak ak)) (uA _)
 ·rcases Yq.mp hb with hb|hb
  ·exact(h.cell b hb).mono (g':=g.up σ g.bx z0 (g.n+1) lk lv) rfl (Yv _) (λ_ _ h=>h) (YT _) (R.ro 9 (fv rfl ak ak)) (uA _)
  ·(refine(X8.mp hb).symm ▸?_)
   have e9:=P (s:=9) (j:=1000) (.head _) (.head _);have zY:=P (s:=12) (j:=1000) (.tail _ (.head _)) (.head _);rw[((dD 9 0).trans h.l9)]at e9;rw[Lj]at zY;refine {val:=hv,thing:=⟨.int ((Z g σ X Y I).int 4+1),e9.trans (Yd some ?_)⟩,ts:=(al t (cm.mono (g:=g) (g':=g.up σ g.bx z0 (g.n+1) lk lv) rfl (λ_ _ h=>h) ht) (zY.trans ?_)),rng:=⟨n3 hc,Z5 _⟩}
   ·simp only[GD,aC,bG,lP,ur,Lj,(bk g σ X Y I).z,YV];rfl
   ·simp only[aC,eD,dP,c8,Y1,et]
 ·rw[<-Zw];exact mX (b:=⟨k,v,g.n⟩) rfl h.dist λx hx=>G5 h hx
 ·rw[Yz];exact Yd (·+1) hc
 ·rw[Yz];exact ZH ‹_›
 ·show g.bx.length+(g.ce++ [_]).length<=_;rw[Yz];exact Yv _
theorem RE(h:Inv g σ){tu vs ts la:SV}{b:Bx}(eH:ah (Z g σ X Y I) tu= .bool g.c.tu)(R:Ao (Z g σ X Y I) (lu tu f) σ σ' (post (H7 vs la) tu++rD vs ts) uD)(hb:nth g.bx i=some b)(Qo:(Z g σ X Y I).int 20=(i:Int)+4)(i8:(Z g σ X Y I).ix 8 0=i)(Lj:(Z g σ X Y I).ix 12 0=b.th - 3)(hv:eC g.c g.N b.k v)(ht:cm g b.k v t)(ev:ah (Z g σ X Y I) vs=v)(et:ah (Z g σ X Y I) ts=t)(El:ah (Z g σ X Y I) la= .tup [.str (aU lk),lv])(las:lk<25/\eC g.c g.N lk lv):∃g',Inv g' σ'/\rm g g':=by
 have k4:=R.ro 4 (fv rfl ak ak);have k9:=R.ro 9 (fv rfl ak ak);have uA:∀j,j≠b.th - 3->∀o,nth (σ.heap 12) j=some o->nth (σ'.heap 12) j=some o:=λj hj o ho=>R.fr 12 (.inr rfl) j o ho (by rw[Lj];exactλe=>hj e.symm);have cn:=λs hs Ir=>(R.cn (s,0) hs (wG Ir)).trans (Nat.add_zero _);have P:∀{s j:Nat} {o:SO} {l},(s,l)∈rD vs ts->(j,o)∈l->nth (σ'.heap s) ((Z g σ X Y I).ix s j)=some (aC (Z g σ X Y I) o):=λh1 h2=>R.at_ _ (Yk _ h1) _ h2;have e8:=P (s:=8) (j:=0) (.head _) (.head _);have zY:=P (s:=12) (j:=0) (.tail _ (.head _)) (.head _);rw[i8]at e8;rw[Lj]at zY;have ef:(setNth (⟨b.k,v,b.th⟩:Bx) g.bx i).length=g.bx.length:=ia _ _ _
 let z0:=setNth ⟨b.k,v,b.th⟩ g.bx i
 let z2:=g.n+0
 let z1:=g.up σ z0 g.ce z2 lk lv
 have hN:z1.N=g.N:=by
  exact Yd (4+·) ef
 have ad:z1.addrsL=g.addrsL:=by
  show _++(setNth (⟨b.k,v,b.th⟩:Bx) g.bx i).map (λb=>V.int (Gh.adr b.th))=_++g.bx.map (λb=>V.int (Gh.adr b.th));rw[ey,ie (by rw[cW,hb];rfl)]
 have ha:∀j a,nth g.addrsL j=some a->nth z1.addrsL j=some a:=λj a e=>by rw[ad];exact e
 have hB:=h.box i b hb;have je:∀{j c},nth (g.bx++g.ce) j=some c->j≠i->c.th - 3≠b.th - 3:=by
  intro j c hj uo e;have WI:3<=c.th:=by
   rcases Yq.mp (show c∈g.bx++g.ce from by rw[cO]at hj;exact List.mem_of_getElem? hj)with hx|hx
   ·obtain⟨q,hq⟩:=qe hx;exact(h.box q c hq).rng.1
   ·exact(h.cell c hx).rng.1
  have Qh:=hB.rng.1;have e:c.th=b.th:=(Zu WI).symm.trans ((Yd (·+3) e).trans (Zu Qh));have hi:nth (g.bx++g.ce) i=some b:=eO _ hb;refine uo ((List.getElem?_inj (by rw[YO];exact bo hj) h.dist).mp ?_);rw[<-cO,<-cO,cW,cW,hj,hi,Option.map_some,Option.map_some,e]
 refine⟨g.up σ z0 g.ce z2 lk lv,h.next eH (p:=H7 vs la) ⟨?_,?_,?_,?_,?_,?_,?_,rfl,rfl,El⟩ R (λq hq=>X6 _ hq) ?_ ?_ ?_ ?_ (λj c hc=>?_) (λc hc=>?_) h.cq ?_ ?_ ?_ ⟨las.1,by rw[ef];exact las.2⟩,rfl,rfl,rfl,rfl,?_,ZD ef.symm⟩
 ·rw[show ax (Z g σ X Y I) (H7 vs la).ex= []from rfl,Yt];show _++(setNth (⟨b.k,v,b.th⟩:Bx) g.bx i).map (λb=>V.str (aU b.k))=_++g.bx.map (λb=>V.str (aU b.k));rw[ey,ie (by rw[cW,hb];rfl)]
 ·show _=setNth (ah _ vs) g.heldL (A2 (ah _ (iS 20)))++ [];rw[Yt,ae,Qo,ev];show _++(setNth (⟨b.k,v,b.th⟩:Bx) g.bx i).map (λb=>b.v)=setNth v g.heldL ((i:Int)+4).toNat;rw[ey,show((i:Int)+4).toNat=([V.none, .none, .none, .none]:List V).length+i by exact YU _ _];exact(vD _ _ _ _).symm
 ·rw[show ax (Z g σ X Y I) (H7 vs la).it= []from rfl,Yt];unfold Gh.itemsL;rw[hN];rfl
 ·rw[show ax (Z g σ X Y I) (H7 vs la).ad= []from rfl,Yt,ad];rfl
 ·exact(Yt _).symm
 ·rw[show ax (Z g σ X Y I) (H7 vs la).ev= []from rfl,Yt];show V.none::(List.range (3+(setNth (⟨b.k,v,b.th⟩:Bx) g.bx i).length)).map _=_;rw[ef];rfl
 ·exact(Yt _).symm
 ·rw[cn 4 ak ak,ef];exact h.l4
 ·rw[cn 8 ak ak,ef];exact h.l8
 ·rw[cn 9 ak ak];exact h.l9
 ·rw[cn 12 ak ak];exact h.l12
 ·by_cases e:j=i
  ·subst e;rw[gm _ hb]at hc;obtain rfl:=Yi hc;refine {val:=by rw[hN];exact hv,thing:=let ⟨se,q⟩:=hB.thing;⟨se,k9 _ _ q⟩,ts:=(al t (cm.mono (g:=g) (g':=g.up σ (setNth ⟨b.k,v,b.th⟩ g.bx j) g.ce z2 lk lv) rfl ha ht) (zY.trans ?_)),rng:=hB.rng,nm:=hB.nm,item:=let ⟨r,q⟩:=hB.item;⟨r,k4 _ _ q⟩,sl:=e8.trans ?_}
   ·simp only[aC,eD,dP,c8,Y1,et]
   ·simp only[aC,eD,dP,c8,Y1,ev]
  ·rw[eu _ (ZC e)]at hc;exact(h.box j c hc).mono (g':=g.up σ z0 g.ce z2 lk lv) rfl (by rw[hN];exact Yv _) ha (Yv _) k4 ((show∀j,j≠i->∀o,nth (σ.heap 8) j=some o->nth (σ'.heap 8) j=some o fromλj hj o ho=>R.fr 8 (.inl rfl) j o ho (by rw[i8];exactλe=>hj e.symm)) j e) k9 (uA _ (je (eO _ hc) e))
 ·obtain⟨j,hj⟩:=qe hc;have hi:=bo hb;exact(h.cell c hc).mono (g':=g.up σ z0 g.ce z2 lk lv) rfl (by rw[hN];exact Yv _) ha (Yv _) k9 (uA _ (je (by rw[b8];exact hj) (Y9 (ZK j hi))))
 ·rw[Yo,(show(setNth (⟨b.k,v,b.th⟩:Bx) g.bx i).map (λb=>b.th)=g.bx.map λb=>b.th from by
  rw[ey];exact ie (by rw[cW,hb];rfl)),<-Yo];exact h.dist
 ·rw[ef];exact h.cnt
 ·rw[ef];exact h.siz
 ·show(setNth (⟨b.k,v,b.th⟩:Bx) g.bx i).length+g.ce.length<=_;rw[ef];exact YT _
end
def QB(k:Nat):List BP:=(match(fh k).getD k with|1=>kJ|3=>kJ|_=> [0]).flatMap λp=>(match isQ k with|true=>bL|false=> [true]).flatMap λb=>(match isQ k||Nat.beq k 4 with|true=>bL|false=> [false]).map λtu=>⟨k,p,b,tu⟩
def Qz(ks:List Nat):Bool:=ks.all λk=>(QB k).all λx=>KY 25 x
def Ld:List (List Nat):= [[0,1,2,3,4,5,6], [7,8,9,10,11,12], [13,14,15,16,17,18], [19,20,21,22,23,24]]
theorem lC:∀j,j<25->∃g∈Ld,j∈g:=by decide
theorem On:KY 121 ⟨0,0,true,false⟩=true:=by decide+kernel
theorem Om:∀g∈ [[0,1,2,3,4,5,6], [7,9,10,11,12,13,14,15,16,17,18,19,20,21,22,23,24], [8]],Qz g=true:=by
 repeat' first|exact J|refine ac ?_ ?_|decide+kernel
theorem Mu:∀i∈ [0,1,2,3],∀g∈Ld,SB i g=true/\Sy i g=true:=by
 unfold Ld
 repeat' first|exact J|refine ac ?_ ?_|refine And.intro ?_ ?_|decide+kernel
theorem Mv:∀k∈gG,∀g∈Ld,SD [k] g=true/\Sz [k] g=true:=by
 unfold gG eU re Ld
 repeat' first|exact J|refine ac ?_ ?_|refine And.intro ?_ ?_|decide+kernel
theorem IY(hk:k<25){x:BP}(hx:x∈QB k):KY 25 x=true:=by
 have h:∀{ks:List Nat},Qz ks=true->k∈ks->KY 25 x=true:=by
  intro ks h hk;unfold Qz at h;rw[X7]at h;have h:=h k hk;rw[X7]at h;exact h x hx
 refine U ((show∀k,k<25->∃g∈ [[0,1,2,3,4,5,6], [7,9,10,11,12,13,14,15,16,17,18,19,20,21,22,23,24], [8]],k∈g from by decide) k hk) λg hg m=>?_;exact h (Om g hg) m
section
variable{g:Gh}{σ:St}{X:Nat->Int}{Y:Nat->V}{I:Nat->Nat->Nat}
theorem hJ(h:9<=x):(Z g σ X Y I).int x=X x:=by
 obtain⟨k,rfl⟩:∃k,x=k+9:=⟨x - 9,(Zu h).symm⟩;rfl
theorem JP:(Z g σ (o8 (l++l')) Y I).int (20+l.length+i)=lg l' i:=by
 rw[hJ (Xp ..)];unfold o8 lg;rw[show 20+l.length+i - 20=l.length+i from Xo ..,b8]
theorem JF(hp:p∈re)(hr:r∈rL)(c:Cf):aJ (WS c) ip 22 56 [.int (iC p), .int (cv p (pv p r))] (.int (cv p (pv p r))):=(Km hp hr).weak λ_ _=>trivial
set_option tactic.hygienic true in
theorem vp(k:Nat):ah (Z g σ X Y I) (kS k)= .int (iC (aG g.c k)):=by
 unfold kS;split
 ·exact ae 6
 ·exact ae 7
 ·rename_i h1 h3
  rw[(show aG g.c k=k from by
   unfold aG;split
   ·exact absurd rfl h1
   ·exact absurd rfl h3
   ·rfl)];exact au (bk g σ X Y I) _
def GH(c:Cf)(e:Nat):Nat:=match ru e with|true=>aG c e|false=>0
theorem jy(h1:k≠1)(h3:k≠3):aG c k=k:=by
 unfold aG;split
 ·exact absurd rfl h1
 ·exact absurd rfl h3
 ·rfl
set_option tactic.hygienic true in
theorem Mw{x:BP}(hc:g.c.ok)(hk:x.e∈gG)(hp:x.p=GH g.c x.e)(ht:x.e=4->x.tu=g.c.tu)(hT:cm g x.e v t)(O:VO g (Z g σ X Y I) 0 x.e v t):ah (Z g σ X Y I) x.t=t:=by
 have pl:x.e∈eU->ah (Z g σ X Y I) (dm (cS (eV (aG g.c x.e))) (iS 23))=t:=by
  intro h
  (refine a8 (hT.pl_inv h) λr hr q3 q4=>?_;subst q3;subst q4)
  have e:=O.t;rw[oh h,bT,ae,ae]at e;injection e with e;injection e with e1 e;injection e with e2 e;rw[bT,au (bk g σ X Y I),ae,e2]
 generalize he:x.e=e at*;unfold BP.t
 (refine(he).symm ▸?_)
 split
 ·have:=pl ak;rw[hp];exact this
 ·have:=pl ak;rw[hp];exact this
 ·rw[ht rfl];exact O.t
 ·exact(Yd _ (rK ak _ _)).trans O.t
 ·exact(Yd _ (rK ak _ _)).trans O.t
 ·rename_i h1 h3 h4 h5 h6
  have:=pl (by
   unfold gG at hk;simp only[X9]at hk;rcases hk with h|h|h|h
   ·exact absurd h h4
   ·exact absurd h h5
   ·exact absurd h h6
   ·exact h)
  rw[jy h1 h3]at this;exact this
set_option tactic.hygienic true in
theorem Ou(hc:g.c.ok)(hr:aS x.k=false)(hk:x.e∈gG)(hp:x.p=GH g.c x.e)(ht:x.e=4->x.tu=g.c.tu)(hT:cm g x.e v t)(O:VO g (Z g σ X Y I) 0 x.e v t):fu g (Z g σ X Y I) (Lw x) where
 bd p hq:=by
  rcases Yq.mp hq with hq|hq
  ·split at hq
   ·rename_i e;rw[X8.mp hq,hp,e];exact⟨Y8 _,Y8 _⟩
   ·rename_i e;rw[X8.mp hq,hp,e];exact⟨Y8 _,Y8 _⟩
   ·cases hq
  ·exact O.bd p hq
 i1:=J
 i2:=J
 i3 q hq:=by
  have hq:q∈(match aS x.k with|true=> [(iS 22,iS 22)]|false=>(cS 0,cS 0)::Ae 0 x.e):=hq;rw[hr]at hq;rcases X9.mp hq with rfl|hq
  ·exact(aM (0) rfl (YA _) ((d9 (g:=g) (i:=0) (K1 ak)).trans rfl))
  ·exact O.i3 q hq
 i4 q hq:=by
  have hq:q∈(match aS x.k with|true=> [(iS 22,iS 28)]|false=>(cS 0,cS 0)::Ad 0 x.e):=hq;rw[hr]at hq;rcases X9.mp hq with rfl|hq
  ·exact(aM (0) rfl (YA _) rfl)
  ·exact O.i4 q hq
 i6:=J
 d1:=J
 op:=J
 eq:=J
 tg q hq:=by
  have hq:q∈(match aS x.k with|true=> []|false=>(match x.e with|4=>uy 0 4|5=>uy 0 5|6=>uy 0 6|k=> [([w0,sN k,iS 22],x.t)])):=hq;have et:=Mw hc hk hp ht hT O;rw[hr]at hq;generalize he:x.e=e at*;dsimp only at hq;split at hq
  ·exact O.tg q hq
  ·exact O.tg q hq
  ·exact O.tg q hq
  ·rename_i h4 h5 h6;have hm:e∈eU:=by
    unfold gG at hk;simp only[X9]at hk;rcases hk with h|h|h|h
    ·exact absurd h h4
    ·exact absurd h h5
    ·exact absurd h h6
    ·exact h
   have e1:=O.tg _ (by rw[By hm];exact .head _);have e2:=O.t;rw[oh hm]at e2;rw[X8.mp hq];rw[et,<-e2];exact e1
 vl:=J
 cu q hq:=by
  have hq:q∈(match aS x.k with|true=> []|false=>(match x.e with|4=> []|5=> []|6=> []|_=> [([kS x.e,iS 23],iS 23)])):=hq;rw[hr]at hq;generalize he:x.e=e at*;dsimp only at hq;split at hq
  ·cases hq
  ·cases hq
  ·cases hq
  ·rename_i h4 h5 h6;have hm:e∈eU:=by
    unfold gG at hk;simp only[X9]at hk;rcases hk with h|h|h|h
    ·exact absurd h h4
    ·exact absurd h h5
    ·exact absurd h h6
    ·exact h
   (refine a8 (hT.pl_inv hm) λr rj q3 q4=>?_;subst q3;subst q4)
   have e:=O.t;rw[oh hm,bT,ae,ae]at e;injection e with e;injection e with e1 e;injection e with e2 e;rw[X8.mp hq];simp only[dP,c8,vp,ae];rw[e2];exact JF (iT hc hm) rj _
def D7(σ:St)(s _j:Nat):Nat:=(σ.heap s).length
theorem oq(R:Ao (Z g σ X Y (D7 σ)) f σ σ' xY cn):(∀i o,nth (σ.heap 8) i=some o->nth (σ'.heap 8) i=some o)/\∀i o,nth (σ.heap 12) i=some o->nth (σ'.heap 12) i=some o:=
 ⟨λi o h=>R.fr 8 (.inl rfl) i o h (by have:=bo h;exact Y9 ‹_›),λi o h=>R.fr 12 (.inr rfl) i o h (by have:=bo h;exact Y9 ‹_›)⟩
theorem vw(hp:p∈(match(fh k).getD k with|1=>kJ|3=>kJ|_=> [0]))(hb:b∈(match isQ k with|true=>bL|false=> [true]))(ht:tu∈(match isQ k||Nat.beq k 4 with|true=>bL|false=> [false])):(⟨k,p,b,tu⟩:BP)∈QB k:=
 List.mem_flatMap.mpr (al p hp (List.mem_flatMap.mpr (al b hb (YD.mpr (al tu ht rfl)))))
theorem dX(b:Bool):b∈bL:=by cases b<;>decide
set_option tactic.hygienic true in
theorem xi(hc:c.ok)(e:Nat):GH c e∈(match e with|1=>kJ|3=>kJ|_=> [0]):=by
 split
 ·exact gK _ hc.1
 ·exact gK _ hc.2
 ·rename_i h1 h3;unfold GH ru
  (refine(az h1).symm ▸?_;refine(az h3).symm ▸?_);exact .head _
theorem eC.lt(h:eC c N k v):k<25:=by
 have p:∀k∈eU++ [12,13,14,15],k<25:=by decide
 cases h with
 |pl hk _=>exact p _ (X6 _ hk)
 |ref hk _=>exact p _ (Yk _ hk)
 |s=>decide
 |g=>decide
 |h=>decide
 |q hk _ _=>
  exact(show∀p∈ [(7,0),(8,1),(9,4),(10,17),(11,6)],p.1<25 from by decide) _ hk
theorem Inv.N100(h:Inv g σ):g.N<=100:=Yc (Yx (Yc (Ym ..) h.siz) 4) ak
theorem zl(h:eC c N k v):(k∈gG/\fh k=none/\aS k=false)\/(aS k=true/\k∈ [12,13,14,15]/\∃i:Nat,i<N/\v= .int i)\/(∃e b w,fh k=some e/\aS k=false/\e∈gG/\(b=(0:Int)\/b=1)/\v= .tup [.int b,w]/\eC c N e w):=by
 have p:∀k∈gG,k∈gG/\fh k=none/\aS k=false:=by decide
 cases h with
 |pl hk _=>exact .inl (p k (.tail _ (.tail _ (.tail _ hk))))
 |ref hk hi=>
  exact .inr (.inl ⟨(show∀k∈ [12,13,14,15],aS k=true from by decide) k hk,hk,_,hi,rfl⟩)
 |s=>exact .inl (p _ ak)
 |g=>exact .inl (p _ ak)
 |h=>exact .inl (p _ ak)
 |q hk hb hv=>
  simp only[X9,YQ,Yl,YG]at hk;refine .inr (.inr ?_);rcases hk with⟨rfl,rfl⟩|⟨rfl,rfl⟩|⟨rfl,rfl⟩|⟨rfl,rfl⟩|⟨rfl,rfl⟩<;>exact⟨_,_,_,rfl,rfl,by decide,hb,rfl,hv⟩
theorem HL{x:BP}(h:x.e=4):x.q=true:=by
 unfold BP.q;cases e:fh x.k with
 |some _=>rfl
 |none=>
  rw[(show x.k=4 from by unfold BP.e at h;rw[e]at h;exact h)];rfl
theorem o2(h:Inv g σ)(hsz:g.bx.length+g.ce.length<=59)(hr:aS x.k=false)(he:x.e∈gG)(hp:x.p=GH g.c x.e)(h4:x.q=true->x.tu=g.c.tu)(cy:KY g.ts x=true)(hw:eC g.c g.N x.e w)(hv:∀ρ,rv g ρ->ah ρ (vS 0 x.e)=w->ah ρ x.v=v)(hm:60<=m):∃σ' g',(run pt m).c 213 [.obj 40 0, .str (aU x.k),v] σ=some (.ok (.bool true),σ')/\Inv g' σ'/\rm g g'/\(x.eff=true->g'.bx.length=g.bx.length+1):=by
 refine hg λcg kg=>?_;refine eY (Jg hw) λt ht=>?_;refine eY (og h.ok h.N100 he ht) λl hl=>?_
 let z0:= [0,0]++l
 have G:=bk g σ (o8 z0) b6 (D7 σ);have O:=hl (Z g σ (o8 z0) b6 (D7 σ)) 0 G λi _=>JP (l:= [0,0]);refine U (j6 h (fK h4) (Ou h.ok hr he hp (λe=>h4 (HL e)) ht O) (gn (X:=o8 z0) (Y:=b6) (I:=D7 σ) h (q:=x.q) (tu:=x.tu) h4).1 (gn (X:=o8 z0) (Y:=b6) (I:=D7 σ) h (q:=x.q) (tu:=x.tu) h4).2 cy hm) λσ' e1 R=>?_;refine kg ?_;have e1:=by
  simp only[dP,c8,hv _ G O.v]at e1;exact e1
 cases q:x.eff with
 |true=>
  rw[q]at R;refine uU (RG h hsz (fK h4) R he hw ht O.v (Mw h.ok he hp (λe=>h4 (HL e)) ht O) (oq R).1 (oq R).2) λg' i1 i2 _ i3=>?_;exact(cj _ g' e1 (i1.setE) i2 (λ_=>i3))
 |false=>
  rw[q]at R;refine U (uQ h (fK h4) R (λ_ h=>h) rfl h.las (oq R).1 (oq R).2) λg' i1 i2=>?_;exact(cj _ g' e1 (i1.setE) i2 (λe=>nomatch e))
theorem ta(h:Inv g σ)(hsz:g.bx.length+g.ce.length<=59)(hr:aS x.k=false)(he:x.e∈gG)(hp:x.p=GH g.c x.e)(h4:x.q=true->x.tu=g.c.tu)(cy:KY g.ts x=true)(hw:eC g.c g.N x.e w)(hv:∀ρ,rv g ρ->ah ρ (vS 0 x.e)=w->ah ρ x.v=v){m:Nat}(hm:60<=m):∃σ' g',(run pt m).c 213 [.obj 40 0, .str (aU x.k),v] σ=some (.ok (.bool true),σ')/\Inv g' σ'/\rm g g':=
 cT (o2 h hsz hr he hp h4 cy hw hv hm) λσ' g' e1 i1 i2 _=>aZ σ' g' e1 i1 i2
theorem qq(h:Inv g σ)(bR:g.ts=25)(hsz:g.bx.length+g.ce.length<=59){v:V}(hv:eC g.c g.N k v)(hm:60<=m):∃σ' g',(run pt m).c 213 [.obj 40 0, .str (aU k),v] σ=some (.ok (.bool true),σ')/\Inv g' σ'/\rm g g':=by
 have hk:=hv.lt;rcases zl hv with⟨hb,hi,hr⟩|⟨hr,Tm,i,hi,rfl⟩|⟨e,b,w,hi,hr,he,hb,rfl,hw⟩
 ·have yb:∀p b tu,BP.e ⟨k,p,b,tu⟩=k:=λp b tu=>by show(fh k).getD k=k;(refine(hi).symm ▸?_);rfl
  have P4:isQ k=false:=by unfold isQ;rw[hi];rfl
  refine ta h hsz (x:=⟨k,GH g.c k,true,match Nat.beq k 4 with|true=>g.c.tu|false=>false⟩) (w:=v) hr (by rw[yb];exact hb) (by rw[yb]) (λhq=>?_) (by rw[bR];exact IY hk (vw (by(refine(hi).symm ▸?_);exact xi h.ok k) (by(refine(P4).symm ▸?_);exact .head _) (by
   (refine(P4).symm ▸?_)
   cases q:Nat.beq k 4 with
   |true=>exact dX _
   |false=>exact .head _))) (by rw[yb];exact hv) (λρ _ e=>?_) hm
  ·have hq:((fh k).isSome||Nat.beq k 4)=true:=hq;rw[hi]at hq;have:=aB.mp hq
   (clear hv P4;subst this);rfl
  ·rw[yb]at e
   (refine(e) ▸?_)
   show ah ρ (match fh k with|some e=>_|none=>vS 0 k)=_;rw[hi]
 ·obtain⟨a,ha⟩:=lM hi
  (refine eY (tc ha) λz q2=>?_;subst q2)
  have HB:=h.N100;have G:=bk g σ (o8 [0,0,i,0,0,0,0,0,z]) b6 (D7 σ);have ri:∀{α:Type} (a b:α),(match aS k with|true=>a|false=>b)=a:=λa b=>by rw[hr]
  have l6:=by
   exact(show∀k∈ [12,13,14,15],fh k=none from by decide) k Tm
  let z0:=Z g σ (o8 [0,0,i,0,0,0,0,0,z]) b6 (D7 σ)
  have fs:fu g z0 (Lw ⟨k,0,true,false⟩):={
   bd:=λp hp=>by
    rcases Yq.mp hp with hp|hp
    ·have he:BP.e ⟨k,0,true,false⟩=k:=by show(fh k).getD k=k;(refine(l6).symm ▸?_);rfl
     rw[he]at hp;split at hp
     ·exact nf hr
     ·exact nf hr
     ·cases hp
    ·refine mz ?_ ?_ ?_ p hp
     ·(refine((show z0.int 22=(i:Int)from rfl)).symm ▸?_);exact⟨YL ak (QC hi h.N100).1,YL (QC hi h.N100).2 ak⟩
     ·exact⟨(by decide:ut.1<=0),(by decide:0<=ut.2)⟩
     ·exact⟨Y8 0,(by decide:(0:Int)<=100)⟩
   i1:=J
   i2:=J
   i3:=λq hq=>by
    have hq:q∈(match aS k with|true=> [(iS 22,iS 22)]|false=>(cS 0,cS 0)::Ae 0 _):=hq;rw[ri]at hq;rw[X8.mp hq];exact vc G HB (show z0.int 22=(i:Int)from rfl) hi
   i4:=λq hq=>by
    have hq:q∈(match aS k with|true=> [(iS 22,iS 28)]|false=>(cS 0,cS 0)::Ad 0 _):=hq;rw[ri]at hq;rw[X8.mp hq];exact vz G HB (show z0.int 22=(i:Int)from rfl) (rfl) ha
   i6:=J
   d1:=J
   op:=J
   eq:=J
   tg:=λq hq=>by
    have hq:q∈(match aS k with|true=> []|false=>_):=hq;rw[ri]at hq;cases hq
   vl:=J
   cu:=λq hq=>by
    have hq:q∈(match aS k with|true=> []|false=>_):=hq;rw[ri]at hq;cases hq}
  have h4:Nat.beq k 4=false:=az (by rintro rfl;cases hr);have hq:BP.q ⟨k,0,true,false⟩=false:=by show((fh k).isSome||Nat.beq k 4)=false;(refine(l6).symm ▸?_;refine(h4).symm ▸?_);rfl
  have eH:=fK (g:=g) (σ:=σ) (X:=o8 [0,0,i,0,0,0,0,0,z]) (Y:=b6) (I:=D7 σ) (q:=BP.q ⟨k,0,true,false⟩) (tu:=false) (λe=>by rw[hq]at e;cases e);refine U (j6 h eH fs (gn (X:=o8 [0,0,i,0,0,0,0,0,z]) (Y:=b6) (I:=D7 σ) h (q:=BP.q ⟨k,0,true,false⟩) (tu:=false) (λe=>by rw[hq]at e;cases e)).1 (gn (X:=o8 [0,0,i,0,0,0,0,0,z]) (Y:=b6) (I:=D7 σ) h (q:=BP.q ⟨k,0,true,false⟩) (tu:=false) (λe=>by rw[hq]at e;cases e)).2 (by rw[bR];exact(IY hk (vw (k:=k) (p:=0) (b:=true) (tu:=false) (by(refine(l6).symm ▸?_);split<;>decide) (by(refine((show isQ k=false from by unfold isQ;rw[l6];rfl)).symm ▸?_);exact .head _) (by(refine((show isQ k=false from by unfold isQ;rw[l6];rfl)).symm ▸?_;refine(h4).symm ▸?_);exact .head _)))) hm) λσ' e1 R=>?_;rw[(show BP.eff ⟨k,0,true,false⟩=false from by show(match fh k with|some _=>true|none=> !aS k)=false;(refine(l6).symm ▸?_;refine(hr).symm ▸?_);rfl)]at R;refine U (uQ h eH R (λ_ h=>h) rfl h.las (oq R).1 (oq R).2) λg' i1 i2=>?_;refine(aZ (σ'.setE σ.env) g' ?_ (i1.setE) i2)
  rw[(show BP.v ⟨k,0,true,false⟩=iS 22 from by
   show(match fh k with|some e=>_|none=>vS 0 k)=_
   (refine(l6).symm ▸?_)
   exact(show∀k∈ [12,13,14,15],vS 0 k=iS 22 from by
    intro k hk;simp only[X9,Yl,YG]at hk;rcases hk with rfl|rfl|rfl|rfl<;>rfl) k Tm)]at e1
  simp only[dP,c8,ae]at e1;rw[(show z0.int 22=(i:Int)from rfl)]at e1;exact e1
 ·have yb:∀p b tu,BP.e ⟨k,p,b,tu⟩=e:=λp b tu=>by show(fh k).getD k=e;rw[hi];rfl
  have KJ:isQ k=true:=by unfold isQ;rw[hi];rfl
  refine ta h hsz (x:=⟨k,GH g.c e,decide (b=1),g.c.tu⟩) (w:=w) hr (by rw[yb];exact he) (by rw[yb]) (λ_=>rfl) (by rw[bR];exact IY hk (vw (by(refine(hi).symm ▸?_);exact xi h.ok e) (by(refine(KJ).symm ▸?_);exact dX _) (by(refine(KJ).symm ▸?_);exact dX _))) (by rw[yb];exact hw) (λρ G e1=>?_) hm;rw[yb]at e1;show ah ρ (match fh k with|some e=>_|none=>vS 0 k)=_
  (refine(hi).symm ▸?_)
  rcases hb with rfl|rfl<;>simp only[iE,dP,c8,e1]<;>exact Yd (λx=>V.tup [x,w]) (au G _)
end
def XC(i:Nat)(b:Bx)(l q l' r:List Int)(x:Nat):Int:=if x<22 then lg [(i:Int)+4,Gh.adr b.th] (x - 20)else if x<30 then lg l (x - 22)else if x<32 then lg q (x - 30)else if x<40 then lg l' (x - 32)else lg r (x - 40)
def YC(se rw:V)(yl:List V)(x:Nat):V:=match x with|3=>se|10=>rw|x=>(nth yl (x - 11)).getD .none
noncomputable def IC (i:Nat) (b:Bx) (s _j:Nat):Nat:=match s with|4=>i+3|8=>i|9=>b.th|12=>b.th - 3|_=>0
section
variable{g:Gh}{σ σ':St}
theorem Mz(n:Nat)(hn:n<8):(Z g σ (XC i b l q l' r) Y I).int (22+n+0)=lg l n:=by
 have q:=Uh hn;rw[hJ q.1];unfold XC;rw[YM q.2.1,Ze q.2.2.1,q.2.2.2]
theorem Bq(n:Nat)(hn:n<8):(Z g σ (XC i b l q l' r) Y I).int (22+n+10)=lg l' n:=by
 have q:=Ug hn;rw[hJ q.1];unfold XC;rw[YM q.2.1,YM q.2.2.1,YM q.2.2.2.1,Ze q.2.2.2.2.1,q.2.2.2.2.2]
structure QH(g:Gh)(σ:St)(i:Nat)(b:Bx)(t:V)(ρ:Ro):Prop where
 G:rv g ρ
 O:VO g ρ 0 b.k b.v t
 ent:∀p∈nH b.k g.c.tu,∀r∈p.2,nth (σ.heap p.1) (ρ.ix p.1 r.1)=some (aC ρ r.2)
 x20:ρ.int 20=(i:Int)+4
 i1:iw ρ 1 (iS 20,sN b.k)
 i2:iw ρ 2 (iS 20,vS 0 b.k)
 i3:iw ρ 3 (iS 20,iS 20)
 i4:iw ρ 4 (iS 20,iS 21)
 i6:iw ρ 6 (iS 20, .obj 4 0)
 d1:aO (ah ρ (iS 21)) (ρ.dbase 1)=some (ah ρ (.obj 9 0))
 b20:4<=ρ.int 20/\ρ.int 20<=100
 b21:25<=ρ.int 21/\ρ.int 21<=400
theorem vq(h:Inv g σ)(hb:nth g.bx i=some b):∃t l se rw,cm g b.k b.v t/\∀q l' r yl,QH g σ i b t (Z g σ (XC i b l q l' r) (YC se rw yl) (IC i b)):=by
 have B:=h.box i b hb;refine hg λcg kg=>?_;refine U (B.ts) λt ht zY=>?_;refine eY (B.thing) λse e9=>?_;obtain⟨rw,e4⟩:=B.item;obtain⟨l,hl⟩:=og h.ok h.N100 B.nm ht;refine kg ?_;refine(RX t l se rw ht (λq l' r yl=>?_));have G:=bk g σ (XC i b l q l' r) (YC se rw yl) (IC i b);have O:=hl (Z g σ (XC i b l q l' r) (YC se rw yl) (IC i b)) 0 G Mz;have hs:=h.siz;have hc:=h.cnt;have hr:=B.rng;have xV:(Z g σ (XC i b l q l' r) (YC se rw yl) (IC i b)).int 21=Gh.adr b.th:=rfl;have h4:=ZN (bo hb) 4;have h5:=Yc (Zv h4) (h.N100);have Pc:(Z g σ (XC i b l q l' r) (YC se rw yl) (IC i b)).int 20=((4+i:Nat):Int):=(rfl).trans (by rw[Int.natCast_add,Z1];rfl);have Qw:ah (Z g σ (XC i b l q l' r) (YC se rw yl) (IC i b)) (iS 20)= .int ((4+i:Nat):Int):=by rw[ae];exact Yd V.int Pc
 refine⟨G,O,λp hp r' rj=>?_,(rfl),(aM (4+i) Qw (Yc h5 ak) (oG hb)),(aM (4+i) Qw (Yc h5 ak) (by rw[O.v];exact C7 hb)),vc G (h.N100) (i:=4+i) Pc h4,vz G (h.N100) (i:=4+i) Pc xV (zb hb),(aM (4+i) Qw (Yc h5 ak) ?_),?_,by rw[Pc];exact⟨Y3.mpr (Ym 4 i),Y3.mpr h5⟩,by rw[xV];exact Xk h.siz h.cnt hr⟩
 ·simp only[nH,X9,Yl,YG]at hp;rcases hp with rfl|rfl|rfl|rfl
  ·rw[X8.mp rj];refine e4.trans (Yd some ?_);simp only[OW,aC,bG,Ix,lP,G.z,YV];rfl
  ·rw[X8.mp rj];refine B.sl.trans (Yd some ?_);simp only[aC,eD,dP,c8,Y1,O.v]
  ·rw[X8.mp rj];refine e9.trans (Yd some ?_);simp only[GD,aC,bG,lP,G.z,YV];rfl
  ·rw[X8.mp rj];refine zY.trans (Yd some ?_);simp only[aC,eD,dP,c8,Y1,O.t]
 ·skip;rw[show 4+i=i+3+1 from YU 4 i];exact(gj (g:=g) (i:=i+3) (Xn h4))
 ·rw[ae,xV];exact gU hr.2
theorem lG(h:Inv g σ)(hq:q=true->ka=g.c.ka/\ks=g.c.ks):iM (EF q ka ks)=true/\∀p∈EF q ka ks,∀r∈p.2,nth (σ.heap p.1) ((Z g σ X Y I).ix p.1 r.1)=some (aC (Z g σ X Y I) r.2):=by
 cases q with
 |false=>exact⟨rfl,J⟩
 |true=>
  obtain⟨h1,h2⟩:=hq rfl;refine⟨rfl,λp hp r hr=>?_⟩;rw[X8.mp hp]at hr⊢;rw[X8.mp hr];refine h.kin.trans (Yd some ?_);unfold yq yp
  (refine(h1).symm ▸?_;refine(h2).symm ▸?_)
  cases g.c.ka<;>cases g.c.ks<;>rfl
theorem JK(ha:a<25)(hb:b<25):aU a=aU b↔a=b:=by
 have:(nZ.all λa=>nZ.all λb=>uq (aU a) (aU b)==Nat.beq a b)=true:=by decide+kernel
 have mem:∀a,a<25->a∈nZ:=by decide
 rw[X7]at this;have h1:=this a (mem a ha);rw[X7]at h1;exact⟨λe=>aB.mp ((zaj.mp (h1 b (mem b hb))) ▸ ib.mpr e),λe=>e ▸ rfl⟩
theorem JT(ha:a<25)(hb:b<25):iC a=iC b↔a=b:=by
 have:(nZ.all λa=>nZ.all λb=>zV (iC a) (iC b)==Nat.beq a b)=true:=by decide+kernel
 have mem:∀a,a<25->a∈nZ:=by decide
 rw[X7]at this;have h1:=this a (mem a ha);rw[X7]at h1;exact⟨λe=>aB.mp ((zaj.mp (h1 b (mem b hb))) ▸ eP.mpr e),λe=>e ▸ rfl⟩
def K9(k:Nat):List Nat:=match ru k with|true=>kJ|false=> [k]
set_option tactic.hygienic true in
theorem mI(hc:c.ok)(k:Nat):aG c k∈K9 k:=by
 unfold aG;split
 ·exact gK _ hc.1
 ·exact gK _ hc.2
 ·rename_i h1 h3;unfold K9 ru
  (refine(az h1).symm ▸?_;refine(az h3).symm ▸?_);exact .head _
theorem hP(hc:c.ok)(hk:k<25):aG c k<25:=by
 exact(show∀k,k<25->∀p∈K9 k,p<25 from by decide) k hk _ (mI hc k)
theorem vr(h:k∈gG):k<25:=by
 exact(show∀k∈gG,k<25 from by decide) k h
theorem Cj(hc:c.ok)(hk:k∈gG)(hj:j<25):decide (aG c k=aG c j)∈K2 k j:=by
 have:(gG.all λk=>nZ.all λj=>(K9 k).all λa=>(K9 j).all λb=>(Nat.beq k j&& !Nat.beq a b)||(K2 k j).any λx=>x==Nat.beq a b)=true:=by decide+kernel
 rw[X7]at this;have h1:=this k hk;rw[X7]at h1;have h2:=h1 j ((show∀a,a<25->a∈nZ from by decide) j hj);rw[X7]at h2;have h3:=h2 _ (mI hc k);rw[X7]at h3;have h4:=h3 _ (mI hc j);rw[Zd]at h4;rcases h4 with h4|h4
 ·rw[Ye]at h4;have:=aB.mp h4.1;subst this;rw[show Nat.beq (aG c k) (aG c k)=true from aB.mpr rfl]at h4;exact absurd h4.2 ak
 ·rw[zax]at h4
  (refine U h4 λx hx e=>?_;clear h4)
  rw[(show∀a b:Nat,decide (a=b)=Nat.beq a b fromλa b=>by
  by_cases e:a=b
  ·rw[YI e,aB.mpr e]
  ·rw[YS e,az e]),<-zaj.mp e];exact hx
end
theorem Gn(hk:x.k∈gG)(hj:x.j<25)(ht:x.tu∈zO x.k x.j)(hq:(x.ka,x.ks)∈Lh x.k x.j)(ha:x.ag∈K2 x.k x.j):SC x=true:=by
 refine U (lC _ hj) λg hg hj=>?_;have h:=(Mv x.k hk g hg).1;unfold SD at h;rw[X7]at h;have h:=h x.k (.head _);rw[X7]at h;have h:=h x.j hj;rw[X7]at h;have h:=h _ ht;rw[X7]at h;have h:=h _ hq;rw[X7]at h;exact h _ ha
def fm(c:Cf)(k j:Nat):OP:=⟨k,j,match isQ j||Nat.beq k 4 with|true=>c.tu|false=>false,match aS j&& !Nat.beq j 12 with|true=>c.ka|false=>false,match aS j&& !Nat.beq j 12 with|true=>c.ks|false=>false,decide (aG c k=aG c j)⟩
theorem w6(c:Cf)(k j:Nat):(fm c k j).tu∈zO k j:=by
 show(match isQ j||Nat.beq k 4 with|true=>c.tu|false=>false)∈zO k j;unfold zO;cases isQ j||Nat.beq k 4 with
 |true=>exact dX _
 |false=>exact .head _
theorem FW(c:Cf)(k j:Nat):((fm c k j).ka,(fm c k j).ks)∈Lh k j:=by
 show((match aS j&& !Nat.beq j 12 with|true=>c.ka|false=>false),(match aS j&& !Nat.beq j 12 with|true=>c.ks|false=>false))∈Lh k j;unfold Lh;cases aS j&& !Nat.beq j 12 with
 |true=>cases c.ka<;>cases c.ks<;>decide
 |false=>exact .head _
section
variable{g:Gh}{σ σ':St}{X:Nat->Int}{Y:Nat->V}{I:Nat->Nat->Nat}
theorem rO(c:Cf)(k j:Nat):(fm c k j).q=true->(fm c k j).tu=c.tu:=by
 intro h;show(match isQ j||Nat.beq k 4 with|true=>c.tu|false=>false)=_
 (refine((show(isQ j||Nat.beq k 4)=true from h)).symm ▸ rfl)
theorem Hk(c:Cf)(k j:Nat):(fm c k j).kq=true->(fm c k j).ka=c.ka/\(fm c k j).ks=c.ks:=by
 intro h;show(match aS j&& !Nat.beq j 12 with|true=>c.ka|false=>false)=_/\(match aS j&& !Nat.beq j 12 with|true=>c.ks|false=>false)=_
 (refine((show(aS j&& !Nat.beq j 12)=true from h)).symm ▸?_);exact⟨rfl,rfl⟩
set_option tactic.hygienic true in
theorem xK(k:Nat):ah (Z g σ X Y I) (KD k)= .str (aU (aG g.c k)):=by
 unfold KD;split
 ·rfl
 ·rfl
 ·rename_i h1 h3;rw[jy h1 h3];rfl
theorem Hl(hc:g.c.ok)(hk:k<25)(hj:j<25):∀p∈(fm g.c k j).eq,(p.2=true↔ah (Z g σ X Y I) p.1.1=ah (Z g σ X Y I) p.1.2):=by
 intro p hp;unfold OP.eq at hp;split at hp
 ·simp only[X9,Yl,YG]at hp;rcases hp with rfl|rfl
  ·show(decide (aG g.c k=aG g.c j)=true↔ah _ (KD k)=ah _ (KD j));rw[xK,xK,Zf];exact⟨λe=>by rw[e],λe=>by injection e with e;exact(JK (hP hc hk) (hP hc hj)).mp e⟩
  ·show(decide (aG g.c k=aG g.c j)=true↔ah _ (kS k)=ah _ (kS j));rw[vp,vp,Zf];exact⟨λe=>by rw[e],λe=>by injection e with e;exact(JT (hP hc hk) (hP hc hj)).mp e⟩
 ·cases hp
theorem pK(h:ru k=true):k∈eU:=by
 unfold ru at h;rw[Zd]at h;rcases h with h|h<;>rw[aB.mp h]<;>decide
theorem G2(hc:c.ok)(h:aG c k∈re):k∈eU:=by
 by_cases h1:k=1
 ·subst h1;decide
 by_cases h3:k=3
 ·subst h3;decide
 rw[jy h1 h3]at h;exact .tail _ (.tail _ h)
theorem HN(hc:c.ok)(ha:aG c k=aG c j)(uo:k≠j):k∈eU/\j∈eU:=by
 refine cY (ru k) (λek=>?_) λek=>?_
 ·
  exact⟨pK ek,G2 hc (ha ▸ (iT hc (pK ek)))⟩
 ·
  refine cY (ru j) (λej=>?_) λej=>?_
  ·
   exact⟨G2 hc (ha.symm ▸ (iT hc (pK ej))),pK ej⟩
  ·
   unfold ru at ek ej;rw[Zx]at ek ej;rw[jy (jh ek.1) (jh ek.2),jy (jh ej.1) (jh ej.2)]at ha;exact absurd ha uo
theorem J0(h:eC c N k v)(hk:k∈eU)(hj:j∈eU)(ha:aG c k=aG c j):eC c N j v:=by
 have n:=(show∀k∈eU,k∉ [12,13,14,15]/\k≠4/\k≠5/\k≠6/\k≠7/\k≠8/\k≠9/\k≠10/\k≠11 from by decide) k hk;cases h with
 |pl _ hr=>(refine(ha).symm ▸?_);exact .pl hj hr
 |ref hr _=>exact absurd hr n.1
 |s=>exact absurd rfl n.2.1
 |g=>exact absurd rfl n.2.2.1
 |h=>exact absurd rfl n.2.2.2.1
 |q hq _ _=>exact absurd hk (AW _ hq).1
set_option tactic.hygienic true in
theorem Hj(hc:g.c.ok)(hT:cm g k v t)(O:VO g (Z g σ X Y I) 0 k v t):∀q∈(fm g.c k j).tg,aJ (WS g.c) ip 22 197 (ax (Z g σ X Y I) q.1) (ah (Z g σ X Y I) q.2):=by
 intro q hq;have hq:q∈(match ru j||ru k with|true=>(match decide (aG g.c k=aG g.c j)&& !Nat.beq k j with|true=> [([w0,sN j,iS 22],dm (iS 24) (iS 23))]|false=> [])|false=> []):=hq;split at hq
 ·split at hq
  ·rename_i _ e;rw[Ye,Zf,Bool.not_eq_true']at e;refine hg λcg kg=>?_;obtain⟨hk,hj⟩:=HN hc e.1 (jh e.2)
   (refine a8 (hT.pl_inv hk) λr hr q3 q4=>?_;subst q3;subst q4)
   refine kg ?_;have e1:=O.v;have e2:=O.t;rw[AO hk,ae]at e1;rw[oh hk]at e2;injection e1 with e1
   (refine(X8.mp hq).symm ▸?_)
   rw[e.1]at e1 e2;exact rJ hc (bk g σ X Y I) hj hr e1 e2
  ·cases hq
 ·cases hq
theorem BM(hc:g.c.ok)(hk:k∈gG)(hj:j<25)(hv:eC g.c g.N k v)(O:VO g (Z g σ X Y I) 0 k v t)(hi:i<g.N)(Qo:(Z g σ X Y I).int 20=(i:Int))(hs:(fm g.c k j).su=true):eC g.c g.N j (ah (Z g σ X Y I) (fm g.c k j).va):=by
 have hs:(match aS j with|true=>_|false=>(match fh j with|some e=>Nat.beq e k|none=>decide (aG g.c k=aG g.c j)))=true:=hs;show eC g.c g.N j (ah _ (match aS j with|true=>iS 20|false=>(match fh j with|some e=> .tup [cS 1,vS 0 k]|none=>vS 0 k)));cases hr:aS j with
 |true=>
  rw[ae,Qo];have:∀j,j<25->aS j=true->j∈ [12,13,14,15]:=by decide
  exact .ref (this j hj hr) hi
 |false=>
  rw[hr]at hs;dsimp only at hs⊢;cases he:fh j with
  |some e=>
   rw[he]at hs;have:=aB.mp hs;subst this;simp only[iE,c8,O.v];exact .q ((show∀j,j<25->∀e∈gG,fh j=some e->(j,e)∈ [(7,0),(8,1),(9,4),(10,17),(11,6)]from by decide) j hj e hk he) (.inr rfl) hv
  |none=>
   rw[he]at hs;rw[O.v];by_cases e:k=j
   ·subst e;exact hv
   ·refine de (HN hc (YN hs) e) λh1 h2=>?_;exact J0 hv h1 h2 (YN hs)
theorem mf(C:QH g σ i b t (Z g σ X Y I))(R:Ao (Z g σ X Y I) f σ σ' xY cn)(hp:∀q∈rD (vS 0 b.k) (tS 0 b.k tu),q∈xY)(ht:b.k=4->tu=g.c.tu):(∀i o,nth (σ.heap 8) i=some o->nth (σ'.heap 8) i=some o)/\∀i o,nth (σ.heap 12) i=some o->nth (σ'.heap 12) i=some o:=by
 have SN:=R.at_ (12,_) (hp _ (.tail _ (.head _))) (0,_) (.head _)
 rw[(show tS 0 b.k tu=tS 0 b.k g.c.tu from by
  by_cases e:b.k=4
  ·rw[ht e]
  ·exact rK e _ _)]at SN
 refine⟨λj o h=>?_,λj o h=>?_⟩
 ·by_cases e:(Z g σ X Y I).ix 8 0=j
  ·subst e;rw[show nth (σ.heap 8) ((Z g σ X Y I).ix 8 0)=_ from(C.ent (8,_) (.tail _ (.head _)) (0,_) (.head _))]at h;rw[<-h];exact(R.at_ (8,_) (hp _ (.head _)) (0,_) (.head _))
  ·exact R.fr 8 (.inl rfl) j o h e
 ·by_cases e:(Z g σ X Y I).ix 12 0=j
  ·subst e;rw[show nth (σ.heap 12) ((Z g σ X Y I).ix 12 0)=_ from(C.ent (12,_) (.tail _ (.tail _ (.tail _ (.head _)))) (0,_) (.head _))]at h;rw[<-h];exact SN
  ·exact R.fr 12 (.inr rfl) j o h e
theorem rP(c:Cf)(h:k=4):(fm c k j).tu=c.tu:=rO c k j (by subst h;show(isQ j||Nat.beq 4 4)=true;cases isQ j<;>rfl)
theorem kc(C:QH g σ i b t (Z g σ X Y I))(ht:b.k=4->tu=g.c.tu):iM (nH b.k tu)=true/\∀p∈nH b.k tu,∀r∈p.2,nth (σ.heap p.1) ((Z g σ X Y I).ix p.1 r.1)=some (aC (Z g σ X Y I) r.2):=by
 refine⟨rfl,?_⟩
 rw[(show nH b.k tu=nH b.k g.c.tu from by
  unfold nH;by_cases e:b.k=4
  ·rw[ht e]
  ·rw[rK e tu g.c.tu])];exact C.ent
theorem C0(h:Inv g σ)(bR:g.ts=25)(hb:nth g.bx i=some b)(hj:j<25)(hm:60<=m):∃σ' g',(run pt m).c 216 [.obj 40 0, .str (aU j), .int ((i:Int)+4)] σ=some (.ok (.bool true),σ')/\Inv g' σ'/\rm g g':=by
 refine hg λcg kg=>?_;refine I7 (vq h hb) λt l se fj hT hC=>?_;have C:=hC [] [] [] [];have B:=h.box i b hb;have hi:=bo hb;have eH:=fK (g:=g) (σ:=σ) (X:=XC i b l [] [] []) (Y:=YC se fj []) (I:=IC i b) (rO g.c b.k j)
 let z0:=fm g.c b.k j
 refine U (j6 h eH (show fu g (Z g σ (XC i b l [] [] []) (YC se fj []) (IC i b)) (fO z0)from {
  bd:=λp hp=>by
   rcases X9.mp hp with rfl|hp
   ·exact C.b20
   rcases X9.mp hp with rfl|hp
   ·exact C.b21
   exact C.O.bd p hp
  i1:=λq hq=>by rw[X8.mp hq];exact C.i1
  i2:=λq hq=>by rw[X8.mp hq];exact C.i2
  i3:=λq hq=>by
   rcases X9.mp hq with rfl|hq
   ·exact C.i3
   ·exact C.O.i3 q hq
  i4:=λq hq=>by
   rcases X9.mp hq with rfl|hq
   ·exact C.i4
   ·exact C.O.i4 q hq
  i6:=λq hq=>by rw[X8.mp hq];exact C.i6
  d1:=λq hq=>by(refine(X8.mp hq).symm ▸?_);exact C.d1
  op:=J
  eq:=Hl h.ok (vr B.nm) hj
  tg:=λq hq=>by
   rcases Yq.mp hq with hq|hq
   ·exact C.O.tg q hq
   ·exact Hj h.ok hT C.O q hq
  vl:=J
  cu:=J}) (dF (dF (kc C (tu:=z0.tu) (rP g.c)) (lG h (Hk g.c b.k j))) (gn h (rO g.c b.k j))).1 (dF (dF (kc C (tu:=z0.tu) (rP g.c)) (lG h (Hk g.c b.k j))) (gn h (rO g.c b.k j))).2 (by rw[bR];exact(Gn (x:=fm g.c b.k j) B.nm hj (w6 ..) (FW ..) (Cj h.ok B.nm hj))) hm) λσ' e1 R=>?_
 refine bS ((show∃lk lv,ah (Z g σ (XC i b l [] [] []) (YC se fj []) (IC i b)) z0.la= .tup [.str (aU lk),lv]/\lk<25/\eC g.c g.N lk lv from by
  refine cY (z0.su) (λhs=>?_) λhs=>?_
  ·
   refine(aZ j (ah _ z0.va) ?_ hj (BM h.ok B.nm hj B.val C.O (i:=4+i) (by exact ZN ‹_› _) (by rw[C.x20];exact Z1 _ _) hs));unfold OP.la;rw[hs];rfl
  ·
   refine(gz (g.lk) (g.lv) ?_ (h.las));unfold OP.la;rw[hs];rfl)) λlk lv l1 l2=>?_
 refine U (uQ h eH R (λq hq=>X6 _ hq) l1 l2 (mf C R (λq hq=>Yk _ hq) (rP g.c)).1 (mf C R (λq hq=>Yk _ hq) (rP g.c)).2) λg' i1 i2=>?_;refine kg ?_;refine(aZ (σ'.setE σ.env) g' ?_ (i1.setE) i2);exact e1
end
theorem DU(hk:x.k∈gG)(hj:x.j<25)(hr:aS x.j=false)(ht:x.tu∈zO x.k x.j)(Wu:x.ka=false)(P9:x.ks=false)(ha:x.ag∈K2 x.k x.j)(hz:x.zp∈Pk x.su)(P0:x.z2∈Oy x.k x.j x.zp):PA x=true:=by
 refine U (lC _ hj) λg hg hj=>?_;have h:=(Mv x.k hk g hg).2;unfold Sz at h;rw[X7]at h;have h:=h x.k (.head _);rw[X7]at h;have h:=h x.j hj;rw[hr,zat,X7]at h;have h:=h _ ht;rw[X7]at h;have h:=h _ ha;rw[X7]at h;obtain⟨⟨k,j,tu,ka,ks,ag⟩,zp,z2⟩:=x;subst Wu;subst P9;have h:=h _ hz;rw[X7]at h;exact h _ P0
section
variable{g:Gh}{σ σ':St}{X:Nat->Int}{Y:Nat->V}{I:Nat->Nat->Nat}{ρ:Ro}
theorem cN(ha:ah ρ a= .int x)(hb:ah ρ b= .int y)(hy:(decide (0<y)&&cA y)=true)(hc:ah ρ c= .int (x.fdiv y)):∀o,ny o=3->bZ o (ah ρ a) (ah ρ b)=some (ah ρ c):=by
 intro o ho;cases o<;>first|(cases ho;done)|skip
 rw[ha,hb,hc];exact Gp hy
theorem bJ(ha:ah ρ a= .int x)(hb:ah ρ b= .int y)(hy:decide (0<y)=true)(hc:ah ρ c= .int (x.fmod y)):∀o,ny o=4->bZ o (ah ρ a) (ah ρ b)=some (ah ρ c):=by
 intro o ho;cases o<;>first|(cases ho;done)|skip
 rw[ha,hb,hc];exact xM hy
theorem ot(z:Int):z.fmod 2=0\/z.fmod 2=1:=by
 exact Int.fmod_eq_emod_of_nonneg z (by decide:(0:Int)<=2) ▸ Int.emod_two_eq z
theorem rN(hc:g.c.ok)(G:rv g ρ)(hk:k∈eU)(sp:aJ (WS g.c) ip 20 191 [.obj 40 0, .str (aU k), .int zz] (.int (pv (aG g.c k) r)))(hz:ρ.int z=zz)(hy:ρ.int y=pv (aG g.c k) r):aJ (WS g.c) ip 22 191 (ax ρ [w0,sN k,iS z]) (ah ρ (iS y)):=by
 simp only[dP,c8,vn G,B8,ae,hz,hy];exact sp.mono ak
theorem qa(hc:g.c.ok)(hk:k∈gG)(zz:Int):∃v t,eC g.c g.N k v/\cm g k v t/\∀(ρ:Ro) (z:Nat),rv g ρ->VO g ρ 10 k v t->ρ.int z=zz->ρ.int 42=(zz.fdiv 5).fdiv 2->(∀q∈H3 z k,aJ (WS g.c) ip 22 191 (ax ρ q.1) (ah ρ q.2))/\(k=4->ρ.int 35=(zz.fdiv 3).fmod g.N/\ρ.int 36=(zz.fdiv 5).fmod 2):=by
 unfold gG at hk;simp only[X9]at hk;rcases hk with rfl|rfl|rfl|hp
 let z0:=zz.fdiv 5
 ·refine U (j8 hc (show 0∈eU by decide) zz) λr hr sp=>?_;refine U (j8 hc (show 17∈eU by decide) (z0.fdiv 2)) λr' rj Vp=>?_;have KN:0<(g.N:Int):=ED;have h2:(zz.fdiv 3).fmod g.N<g.N:=Y4 _ KN;obtain⟨i,hi⟩:∃i:Nat,(zz.fdiv 3).fmod g.N=(i:Int):=⟨_,(YR (YK _ KN)).symm⟩;have zW:i<g.N:=KF hi h2;refine eY (lM zW) λa ha=>?_;refine(aZ _ _ (.s hr zW (ot z0) rj) (.s hr ha (.q (k':=17) ak (.pl ak rj))) (λρ z G O hz GM=>?_));have e:=O.v;simp only[vS,dm,iE,dP,c8,ae]at e;injection e with e;injection e with e1 e;injection e with e2 e;injection e with e3 _;injection e3 with e3;injection e3 with e3 e4;injection e4 with e4 _;injection e1 with e1;injection e2 with e2;injection e3 with e3;injection e4 with e4;refine⟨λq hq=>?_,λ_=>⟨e2.trans hi.symm,e3⟩⟩;simp only[H3,X9,Yl,YG]at hq;rcases hq with rfl|rfl
  ·exact rN hc G ak sp hz e1
  ·exact rN hc G ak Vp GM e4
 ·refine U (j8 hc (show 0∈eU by decide) zz) λr hr sp=>?_;refine(aZ _ _ (.g hr) (.g (.pl ak hr)) (λρ z G O hz GM=>⟨λq hq=>?_,λh=>by cases h⟩));have e:=O.v;simp only[vS,iE,dP,c8,ae]at e;injection e with e;injection e with e1 e;injection e1 with e1;rw[X8.mp hq];exact rN hc G ak sp hz e1
 ·refine U (j8 hc (show 2∈eU by decide) zz) λr hr sp=>?_;refine(aZ _ _ (.h hr) (.h (.pl ak hr)) (λρ z G O hz GM=>⟨λq hq=>?_,λh=>by cases h⟩));have e:=O.v;simp only[vS,iE,dP,c8,ae]at e;injection e with e;injection e with e1 e;injection e1 with e1;rw[X8.mp hq];exact rN hc G ak sp hz e1
 ·refine U (j8 hc hp zz) λr hr sp=>?_;refine(aZ _ _ (.pl hp hr) (.pl hp hr) (λρ z G O hz GM=>⟨λq hq=>?_,λh=>absurd h (iU hp).1⟩));have e:=O.v;rw[AO hp,ae]at e;injection e with e1
  (refine(X8.mp (show q∈ [([w0,sN k,iS z],iS 32)]from by
   refine dW (iU hp) λh4 h5 h6=>?_;unfold H3 at hq;split at hq
   ·exact absurd rfl h4
   ·exact absurd rfl h5
   ·exact absurd rfl h6
   ·exact hq)).symm ▸?_)
  exact rN hc G hp sp hz e1
theorem ke(G:rv g ρ){z:Int}:ah ρ (b2 (decide (z.fmod 2=1)))= .int (z.fmod 2):=by
 refine(ot z).elim (λe=>?_) λe=>?_<;>(refine(e).symm ▸?_)<;>exact au G _
set_option tactic.hygienic true in
theorem M4(G:rv g ρ){x:LP}(h2:ρ.int 2=(g.N:Int))(Ty:ρ.int 30=z)(O6:ρ.int 31=z.fdiv 2)(WX:ρ.int 43=(z.fdiv 2).fdiv 2)(WW:ρ.int 50=(z.fdiv 2).fmod 2)(Ai:ρ.int 40=(ρ.int x.z).fdiv 3)(Iq:ρ.int 41=(ρ.int x.z).fdiv 5)(GM:ρ.int 42=((ρ.int x.z).fdiv 5).fdiv 2)(h4:x.k=4->ρ.int 35=((ρ.int x.z).fdiv 3).fmod g.N/\ρ.int 36=((ρ.int x.z).fdiv 5).fmod 2)(V3:x.zp=decide (z.fmod 2=1))(P0:isQ x.j=false->(Nat.beq x.k 4&&x.zp)=true->x.z2=decide ((z.fdiv 2).fmod 2=1)):∀p∈x.op,∀q∈p.2,∀o,ny o=p.1->bZ o (ah ρ q.1.1) (ah ρ q.1.2)=some (ah ρ q.2):=by
 intro p hp q hq;have i:∀x,ah ρ (iS x)= .int (ρ.int x):=ae;have c2:=au G 2;simp only[LP.op,X9,Yl,YG]at hp;rcases hp with rfl|rfl
 ·rcases X9.mp hq with rfl|hq
  ·exact cN (i 30) c2 rfl (by rw[i,O6,Ty])
  rcases Yq.mp hq with hq|hq
  ·split at hq
   ·rw[X8.mp hq];exact cN (i 31) c2 rfl (by rw[i,WX,O6])
   ·cases hq
  ·unfold z9 at hq;split at hq
   ·rename_i e;simp only[X9,Yl,YG]at hq;rcases hq with rfl|rfl|rfl
    ·exact cN (i _) (au G 3) rfl (by rw[i,Ai])
    ·exact cN (i _) (au G 5) rfl (by rw[i,Iq])
    ·exact cN (i _) c2 rfl (by rw[i,GM,Iq])
   ·cases hq
 ·rcases X9.mp hq with rfl|hq
  ·exact bJ (i 30) c2 rfl (by rw[V3,Ty];exact ke G)
  rcases Yq.mp hq with hq|hq
  ·split at hq
   ·rw[X8.mp hq];exact bJ (i 31) c2 rfl (by rw[i,WW,O6])
   ·rename_i hQ;split at hq
    ·rename_i h4
     (refine(X8.mp hq).symm ▸?_);exact bJ (i 31) c2 rfl (by rw[P0 hQ h4,O6];exact ke G)
    ·cases hq
  ·unfold z9 at hq;split at hq
   ·rename_i e;simp only[X9,Yl,YG]at hq;rcases hq with rfl|rfl
    ·exact bJ (i 40) (i 2) (by rw[h2];exact YI ED) (by rw[i,(h4 e).1,Ai,h2])
    ·exact bJ (i 41) c2 rfl (by rw[i,(h4 e).2,Iq])
   ·cases hq
end
def Rf(c:Cf)(k j:Nat)(z:Int):LP:=
 let su:=(fm c k j).su
 let zp:=su&&decide (z.fmod 2=1)
 ⟨{fm c k j with ka:=false,ks:=false},zp,match Nat.beq k 4&&zp&& !isQ j with|true=>decide ((z.fdiv 2).fmod 2=1)|false=>false⟩
theorem EY(su b:Bool):(su&&b)∈Pk su:=by cases su<;>cases b<;>decide
theorem E1(k j:Nat)(zp b:Bool):(match Nat.beq k 4&&zp&& !isQ j with|true=>b|false=>false)∈Oy k j zp:=by
 unfold Oy;cases Nat.beq k 4&&zp&& !isQ j with
 |true=>exact dX _
 |false=>exact .head _
section
variable{g:Gh}{σ σ':St}
theorem MO(hr:aS j=false):OP.su {fm c k j with ka:=a,ks:=b}=(fm c k j).su:=by
 show(match aS j with|true=>_|false=>_)=(match aS j with|true=>_|false=>_)
 (refine(hr).symm ▸ rfl)
theorem Mg(h:eC c N 4 v):∃r i b r',r∈rL/\i<N/\(b=(0:Int)\/b=1)/\r'∈rL/\v= .tup [.int (pv 0 r), .int ((i:Nat):Int), .tup [.int b, .int (pv 17 r')]]:=by
 cases h with
 |pl hk _=>exact absurd hk ak
 |ref hk _=>exact absurd hk ak
 |q hk _ _=>exact absurd hk (by simp)
 |s hr hi hb Wf=>exact⟨_,_,_,_,hr,hi,hb,Wf,rfl⟩
theorem QL(h:cm g 4 v t):∃r i b r' a,r∈rL/\r'∈rL/\nth g.addrsL i=some a/\v= .tup [.int (pv 0 r), .int ((i:Nat):Int), .tup [.int b, .int (pv 17 r')]]/\t= .tup [.int 5, .int 20, .tup [.tup [.int 1, .int (pv 0 r)], .tup [.int 4,a],two g.c 24 (.tup [.int 1, .int b]) (.tup [.int 1, .int (cv 17 (pv 17 r'))])]]:=by
 cases h with
 |pl hk _=>exact absurd hk ak
 |ref hk _=>exact absurd hk ak
 |q hk _=>exact absurd hk (by simp)
 |s hr ha hu=>
  (refine cZ (hu.q_inv (k':=17) rfl) λb w u q4 q5 hw=>?_;subst q4;subst q5)
  (refine a8 (hw.pl_inv ak) λr' rj q3 q4=>?_;subst q3;subst q4)
  exact⟨_,_,_,_,_,hr,rj,ha,rfl,rfl⟩
theorem E3(h:two c kd a b=two c kd a' b'):a=a'/\b=b':=by
 unfold two at h;refine cY (c.tu) (λe=>?_) λe=>?_
 ·rw[e]at h;injection h with h;injection h with _ h;injection h with _ h;injection h with h _;injection h with h;injection h with h1 h;injection h with h2 _;exact⟨h2,h1⟩
 ·rw[e]at h;injection h with h;injection h with _ h;injection h with _ h;injection h with h _;injection h with h;injection h with h1 h;injection h with h2 _;exact⟨h1,h2⟩
theorem Er(h:V.tup [a,b]= .tup [c,d]):a=c/\b=d:=by
 injection h with h;injection h with h1 h;injection h with h2 _;exact⟨h1,h2⟩
theorem Ar(h:V.tup [a,b,c]= .tup [d,e,f]):a=d/\b=e/\c=f:=by
 injection h with h;injection h with h1 h;injection h with h2 h;injection h with h3 _;exact(gA h1 h2 h3)
theorem rx(h:V.int a= .int b):a=b:=by injection h
theorem Jr(hc:g.c.ok)(hT:cm g 4 v t)(O:VO g (Z g σ X Y I) 0 4 v t)(KM:eC g.c g.N 4 v')(O':VO g (Z g σ X Y I) 10 4 v' t')(hV:eC g.c g.N 4 v):
  ∃w u,eC g.c g.N 4 w/\cm g 4 w u/\ah (Z g σ X Y I) (.tup [iS 32,iS 25,dm (iS 26) (iS 27)])=w/\ah (Z g σ X Y I) (.tup [cS 5,cS 20, .tup [dm (cS 1) (iS 32),dm (cS 4) (iS 28),jf g.c.tu 24 (dm (cS 1) (iS 26)) (dm (cS 1) (iS 29))]])=u:=by
 refine hg λcg kg=>?_;(refine cz (QL hT) λr i b q q=>?_;(refine uT q λa hr hq ha q5 q6=>?_;try clear q;subst q5;subst q6))
 (refine cz (Mg hV) λr1 i1 b1 q1 q=>?_;(refine AL q λ_ _ hb _ e1=>?_;try clear q))
 (refine cz (Mg KM) λr2 i2 b2 q2 q=>?_;(refine AL q λLm _ _ _ q5=>?_;try clear q;subst q5))
 refine dW (Ar e1) λ_ _ e1=>?_;have e1:=rx (Er e1).1;subst e1;have hi:=bo ha;rw[dG]at hi;have e:=O.v;have e':=O'.v;have et:=O.t;simp only[vS,bT,iE,dP,c8,ae]at e e'
 let z0:=bk g σ X Y I
 simp only[tS,bT,iE,dP,c8,ae,eQ z0]at et;refine dW (Ar e) λ_ f2 f3=>?_;obtain⟨f3,f4⟩:=Er f3;refine dW (Ar e') λf1 _ _=>?_;refine dW (Ar et) λ_ _ et=>?_;refine dW (Ar et) λ_ f5 f6=>?_;refine kg ?_;skip;refine(cj _ _ (.s Lm hi hb hq) (.s Lm ha (.q (k':=17) ak (.pl ak hq))) ?_ ?_)
 ·simp only[bT,iE,dP,c8,ae,(rx f1),(rx f2),(rx f3),(rx f4)]
 ·simp only[bT,iE,dP,c8,ae,eQ z0,(rx f1),(rx f3),((Er f5).2),(rx ((Er (E3 f6).2).2))];rfl
end
section
variable{g:Gh}{σ σ':St}
set_option tactic.hygienic true in
theorem yZ(h:Inv g σ)(bR:g.ts=25)(hsz:g.bx.length+g.ce.length<=59)(hb:nth g.bx i=some b)(hj:j<25)(hr:aS j=false)(z:Int)(hm:60<=m):∃σ' g',(run pt m).c 220 [.obj 40 0, .str (aU j), .int ((i:Int)+4), .int z] σ=some (.ok (.bool true),σ')/\Inv g' σ'/\rm g g':=by
 refine hg λcg kg=>?_;refine I7 (vq h hb) λt l se fj hT hC=>?_;have B:=h.box i b hb;have hi:=bo hb
 let z1:=z.fdiv 2
 obtain⟨zz,V2⟩:∃zz,zz=(match isQ j with|true=>z1.fdiv 2|false=>z.fdiv 2):=⟨_,rfl⟩;refine a9 (qa (g:=g) h.ok B.nm zz) λv' t' KM Qi Ip=>?_;obtain⟨l',Ag⟩:=og h.ok h.N100 B.nm Qi;obtain⟨r,er⟩:∃r,r= [zz.fdiv 3,zz.fdiv 5,(zz.fdiv 5).fdiv 2,z1.fdiv 2,0,0,0,0,0,0,z1.fmod 2]:=⟨_,rfl⟩;have C:=hC [z,z.fdiv 2] l' r [];have G:=C.G;have O':=Ag (Z g σ (XC i b l [z,z.fdiv 2] l' r) (YC se fj []) (IC i b)) 10 G Bq;obtain⟨X,hX⟩:∃X,X=XC i b l [z,z.fdiv 2] l' r:=⟨_,rfl⟩;have z5:(Z g σ X (YC se fj []) (IC i b)).int 42=(zz.fdiv 5).fdiv 2:=by rw[hX,er];rfl
 have DZ:(Z g σ X (YC se fj []) (IC i b)).int 50=z1.fmod 2:=by rw[hX,er];rfl
 rw[<-hX]at C G O';obtain⟨x,hx⟩:∃x,x=Rf g.c b.k j z:=⟨_,rfl⟩;have xk:x.k=b.k:=by rw[hx];rfl
 have xj:x.j=j:=by rw[hx];rfl
 let z0:=fm g.c b.k j
 have Pn:x.su=z0.su:=by rw[hx];exact MO hr
 have Sc:x.zp=(z0.su&&decide (z.fmod 2=1)):=by rw[hx];rfl
 have Sd:x.z2=(match Nat.beq b.k 4&&x.zp&& !isQ j with|true=>decide (z1.fmod 2=1)|false=>false):=by(refine(hx).symm ▸?_);rfl
 have Pm:x.tu=z0.tu:=by rw[hx];rfl
 have cy:=DU (x:=x) (by rw[xk];exact B.nm) (by rw[xj];exact hj) (by rw[xj];exact hr) (by rw[xk,xj,Pm];exact w6 ..) (by rw[hx];rfl) (by rw[hx];rfl) (by rw[xk,xj,(show x.ag=decide (aG g.c b.k=aG g.c j)from by rw[hx];rfl)];exact Cj h.ok B.nm hj) (by rw[Pn,Sc];exact EY _ _) (by rw[xk,xj,Sd];exact E1 _ _ _ _);have Ky:(Z g σ X (YC se fj []) (IC i b)).int x.z=zz:=by
  unfold LP.z;rw[xj,V2];cases isQ j with
  |true=>exact(by rw[hX,er];rfl)
  |false=>exact(by rw[hX];rfl)
 have Ef:b.k=4->x.tu=g.c.tu:=by rw[Pm];exact rP g.c
 have OD:x.q=true->x.tu=g.c.tu:=by rw[Pm,(show x.q=z0.q from by rw[hx];rfl)];exact rO g.c b.k j
 have eH:=fK (g:=g) (σ:=σ) (X:=X) (Y:=YC se fj []) (I:=IC i b) OD;unfold PA at cy;rw[xk]at cy
 refine U (j6 h eH (show fu g (Z g σ X (YC se fj []) (IC i b)) (fL x)from {
  bd:=λp hp=>by
   rcases Yq.mp hp with hp|hp
   ·exact O'.bd p hp
   rcases X9.mp hp with rfl|hp
   ·exact C.b20
   rcases X9.mp hp with rfl|hp
   ·exact C.b21
   exact C.O.bd p hp
  i1:=λq hq=>by rw[X8.mp hq,xk];exact C.i1
  i2:=λq hq=>by rw[X8.mp hq,xk];exact C.i2
  i3:=λq hq=>by
   rcases Yq.mp hq with hq|hq
   ·refine(X9.mp hq).elim (λq=>?_) λhq=>?_
    ·subst q;exact C.i3
    ·rw[xk]at hq;exact C.O.i3 q hq
   ·split at hq
    ·rw[xk]at hq;exact O'.i3 q hq
    ·cases hq
  i4:=λq hq=>by
   rcases Yq.mp hq with hq|hq
   ·refine(X9.mp hq).elim (λq=>?_) λhq=>?_
    ·subst q;exact C.i4
    ·rw[xk]at hq;exact C.O.i4 q hq
   ·split at hq
    ·rw[xk]at hq;exact O'.i4 q hq
    ·cases hq
  i6:=λq hq=>by rw[X8.mp hq];exact C.i6
  d1:=λq hq=>by(refine(X8.mp hq).symm ▸?_);exact C.d1
  op:=λp hp=>by
   have hp:p∈(match x.su with|true=>x.op|false=> []):=hp;split at hp
   ·rename_i hs;refine M4 G rfl (show(Z g σ X (YC se fj []) (IC i b)).int 30=z from by rw[hX];rfl) (by rw[hX];rfl) (by rw[hX,er];rfl) DZ (by rw[(show(Z g σ X (YC se fj []) (IC i b)).int 40=zz.fdiv 3 from by rw[hX,er];rfl),Ky]) (by rw[(show(Z g σ X (YC se fj []) (IC i b)).int 41=zz.fdiv 5 from by rw[hX,er];rfl),Ky]) (by rw[z5,Ky]) (λe=>by rw[Ky];exact(Ip _ x.z G O' Ky z5).2 (xk ▸ e)) (by rw[Sc,<-Pn,hs];rfl) (λe1 e2=>?_) p hp;rw[Sd];rw[xk]at e2;rw[xj]at e1;rw[e2,e1];rfl
   ·cases hp
  eq:=by(refine(show(fL x).eq=x.eq from rfl).symm ▸?_;refine((show x.eq=z0.eq from by rw[hx];rfl)).symm ▸?_);exact Hl h.ok (vr B.nm) hj
  tg:=λq hq=>by
   rcases Yq.mp hq with hq|hq
   ·refine(Yq.mp hq).elim (λhq=>?_) λhq=>?_
    ·rw[xk]at hq;exact C.O.tg q hq
    ·rw[(show x.tg=z0.tg from by rw[hx];rfl)]at hq;exact Hj h.ok hT C.O q hq
   ·split at hq
    ·rw[xk]at hq;exact O'.tg q hq
    ·cases hq
  vl:=λq hq=>by
   have hq:q∈(match x.wr with|true=>H3 x.z x.k|false=> []):=hq;split at hq
   ·rw[xk]at hq;exact(Ip _ x.z G O' Ky z5).1 q hq
   ·cases hq
  cu:=J}) (dF (kc C (tu:=x.tu) Ef) (gn h OD)).1 (dF (kc C (tu:=x.tu) Ef) (gn h OD)).2 (by rw[bR];exact cy) hm) λσ' e1 R=>?_
 refine kg ?_;have e1:=by
  simp only[dP,c8,ae,C.x20,(show(Z g σ X (YC se fj []) (IC i b)).int 30=z from by rw[hX];rfl),xj]at e1;exact e1
 have las:x.su=true->eC g.c g.N j (ah (Z g σ X (YC se fj []) (IC i b)) x.va):=λhs=>by
  rw[(show x.va=z0.va from by rw[hx];rfl)];exact BM h.ok B.nm hj B.val C.O (i:=4+i) (by exact ZN ‹_› _) (by rw[C.x20];exact Z1 _ _) (Pn ▸ hs)
 have El:x.su=true->ah (Z g σ X (YC se fj []) (IC i b)) x.la= .tup [.str (aU j),ah (Z g σ X (YC se fj []) (IC i b)) x.va]:=λhs=>by
  unfold OP.la;(refine(hs).symm ▸?_;refine(xj).symm ▸?_);rfl
 have tt:∀o,tS o b.k x.tu=tS o b.k g.c.tu:=λo=>by
  by_cases e:b.k=4
  ·rw[Ef e]
  ·exact rK e _ _
 unfold LP.post LP.cn at R;refine uu (x.su) (λhs=>?_) λhs=>?_
 ·
  rw[hs]at R;rw[xk]at R;have fr:=mf C R (λq hq=>Yk _ hq) Ef;refine U (uQ h eH R (λq hq=>X6 _ hq) rfl h.las fr.1 fr.2) λg' i1 i2=>?_;exact(aZ (σ'.setE σ.env) g' e1 (i1.setE) i2)
 ·
  rw[hs,xj]at R;refine cY (isQ j) (λhQ=>?_) λhQ=>?_
  ·
   rw[hQ,xk]at R
   refine hg λcg kg=>?_;have TL:=OD (by
    show(isQ x.j||Nat.beq x.k 4)=true;rw[xj,hQ];rfl)
   obtain⟨e,he⟩:∃e,fh j=some e:=by
    unfold isQ at hQ;cases q:fh j with
    |none=>rw[q]at hQ;exact nf hQ
    |some e=>exact⟨e,rfl⟩
   have WB:=by
    have hs:(match aS x.j with|true=>_|false=>(match fh x.j with|some e=>Nat.beq e x.k|none=>x.ag))=true:=hs;rw[xj,hr,he,xk]at hs;exact aB.mp hs
   subst WB;have Ay:=by
    exact(show∀j,j<25->∀e∈gG,fh j=some e->(j,e)∈ [(7,0),(8,1),(9,4),(10,17),(11,6)]from by decide) j hj _ B.nm he
   have val:∃w u,eC g.c g.N j w/\cm g j w u/\ah (Z g σ X (YC se fj []) (IC i b)) x.cv=w/\ah (Z g σ X (YC se fj []) (IC i b)) x.ct=u:=by
    unfold LP.cv LP.ct;cases hz:x.zp with
    |true=>
     refine(cj _ _ (.q Ay (ot z1) KM) (.q Ay Qi) ?_ ?_)
     ·simp only[Ix,Ly,lP,Ec,Iw,iE,ur,Lx,KR,KS,dP,c8,xk,O'.v,ae,DZ]
     ·dsimp only;rw[TL,eQ G,xk,O'.t,xj,bT,au G,ae,DZ]
    |false=>
     refine(cj _ _ (.q Ay (.inr rfl) B.val) (.q Ay hT) ?_ ?_)
     ·simp only[Ix,Ly,lP,Ec,Iw,iE,ur,Lx,KR,KS,dP,c8,xk,C.O.v,au G]
     ·dsimp only;rw[TL,eQ G,xk,C.O.t,xj,bT,au G]
   (refine cT val λw u v1 v2 v3 v4=>?_;clear val)
   refine U (RF h hsz (k:=j) eH R (λq hq=>X6 _ (by rw[xj]at*;exact hq)) (λq hq=>Yk _ (Yk _ hq)) (AW _ Ay).2 v1 v2 v3 v4 (El hs) ⟨hj,las hs⟩ (mf C R (λq hq=>Yk _ (X6 _ hq)) Ef).1 (mf C R (λq hq=>Yk _ (X6 _ hq)) Ef).2) λg' i1 i2=>?_;refine kg ?_;exact(aZ (σ'.setE σ.env) g' e1 (i1.setE) i2)
  ·
   rw[hQ]at R;cases hz:x.zp with
   |true=>
    rw[hz]at R
    refine cT ((show∃w u,eC g.c g.N b.k w/\cm g b.k w u/\ah (Z g σ X (YC se fj []) (IC i b)) x.nv=w/\ah (Z g σ X (YC se fj []) (IC i b)) x.nt=u from by
     unfold LP.nv LP.nt
     (refine(xk).symm ▸?_)
     cases h4:Nat.beq b.k 4&&x.z2 with
     |true=>
      have O:=C.O;have hv:=B.val;dsimp only;rw[Ef (aB.mp (X5.mp h4).1)];rw[(aB.mp (X5.mp h4).1)]at hT O KM O' hv⊢;exact Jr h.ok hT O KM O' hv
     |false=>
      dsimp only;exact(cj _ _ KM Qi (O'.v) (by rw[tt];exact O'.t)))) λw u v1 v2 v3 v4=>?_
    refine U (RE h (i:=i) (b:=b) eH R hb (by exact C.x20) rfl rfl v1 v2 v3 v4 (El hs) ⟨hj,las hs⟩) λg' i1 i2=>?_;exact(aZ (σ'.setE σ.env) g' e1 (i1.setE) i2)
   |false=>
    rw[hz,xk]at R;refine U (uQ h eH R (λq hq=>X6 _ hq) (El hs) ⟨hj,las hs⟩ (mf C R (λq hq=>Yk _ hq) Ef).1 (mf C R (λq hq=>Yk _ hq) Ef).2) λg' i1 i2=>?_;exact(aZ (σ'.setE σ.env) g' e1 (i1.setE) i2)
end
noncomputable def IQ (σ:St) (i s _j:Nat):Nat:=match s with|4=>i - 1|9=>i - 1|s=>(σ.heap s).length
theorem i4:∀i,i<4->i∈ [0,1,2,3]:=by decide
def kY(c:Cf)(i j:Nat):QP:=⟨i,j,match isQ j with|true=>c.tu|false=>false,match aS j&& !Nat.beq j 12&& !Nat.beq i 0 with|true=>c.ka|false=>false,match aS j&& !Nat.beq j 12&& !Nat.beq i 0 with|true=>c.ks|false=>false⟩
theorem BL(c:Cf)(i j:Nat):(kY c i j).tu∈zO 0 j:=by
 show(match isQ j with|true=>c.tu|false=>false)∈zO 0 j;unfold zO
 (refine(show(isQ j||Nat.beq 0 4)=isQ j from zaO _).symm ▸?_)
 cases isQ j with
 |true=>exact dX _
 |false=>exact .head _
theorem Ol(hi:i<4)(hj:j<25)(hq:i=0->isQ j=false):SA (kY c i j)=true:=by
 refine U (lC _ hj) λg hg hj=>?_;have h:=(Mu i (i4 i hi) g hg).1;unfold SB at h;rw[X7]at h;have h:=h j hj
 rw[(show(Nat.beq i 0&&isQ j)=false from by
  cases e:Nat.beq i 0 with
  |false=>rfl
  |true=>rw[hq (aB.mp e)];rfl),zat,X7]at h
 have h:=h _ (BL c i j);rw[X7]at h;refine h ((kY c i j).ka,(kY c i j).ks) ?_;show((match aS j&& !Nat.beq j 12&& !Nat.beq i 0 with|true=>c.ka|false=>false),(match aS j&& !Nat.beq j 12&& !Nat.beq i 0 with|true=>c.ks|false=>false))∈PY i j;unfold PY;cases aS j&& !Nat.beq j 12&& !Nat.beq i 0 with
 |true=>cases c.ka<;>cases c.ks<;>decide
 |false=>exact .head _
theorem Oj(hi:i<4)(hj:j<25)(hq:i=0->isQ j=false)(hr:aS j=false):Sx {kY c i j with ka:=false,ks:=false}=true:=by
 refine U (lC _ hj) λg hg hj=>?_;have h:=(Mu i (i4 i hi) g hg).2;unfold Sy at h;rw[X7]at h;have h:=h j hj
 rw[(show(Nat.beq i 0&&isQ j)=false from by
  refine uu (Nat.beq i 0) (λe=>?_) λe=>?_
  ·rw[e];rfl
  ·rw[e];rw[hq (aB.mp e)];rfl),hr,zat,zat,X7]at h
 exact h _ (BL c i j)
section
variable{g:Gh}{σ σ':St}
theorem kn(h:Inv g σ){i:Nat}(hi:i<4):∃se rw,∀(X:Nat->Int) (yl:List V),(iM (rA i)=true/\∀p∈rA i,∀r∈p.2,nth (σ.heap p.1) ((Z g σ X (YC se rw yl) (IQ σ i)).ix p.1 r.1)=some (aC (Z g σ X (YC se rw yl) (IQ σ i)) r.2))/\∀j tu ka ks,fu g (Z g σ X (YC se rw yl) (IQ σ i)) (fQ ⟨i,j,tu,ka,ks⟩):=by
 have hN:0<g.N/\1<g.N/\2<g.N/\3<g.N:=⟨K1 ak,K1 ak,K1 ak,K1 ak⟩;have hc:=h.cnt;rcases PV hi with rfl|rfl|rfl|rfl
 ·refine(uR (.none) (.none) (λX yl=>⟨⟨rfl,J⟩,λj tu ka ks=>{bd:=J,i1:= ?_,i2:= ?_,i3:= ?_,i4:= ?_,i6:=J,d1:=J,op:=J,eq:=J,tg:=J,vl:=J,cu:=J}⟩))<;>intro q hq<;>(refine(X8.mp hq).symm ▸?_)
  ·exact(aM (0) rfl ak rfl)
  ·exact(aM (0) rfl ak rfl)
  ·exact(aM (0) rfl ak ((d9 hN.1).trans rfl))
  ·exact(aM (0) rfl ak rfl)
 ·obtain⟨fj,e4⟩:=h.it0;obtain⟨se,e9⟩:=h.th0;refine(uR se fj (λX yl=>⟨⟨rfl,?_⟩,λj tu ka ks=>{bd:=J,i1:= ?_,i2:= ?_,i3:= ?_,i4:= ?_,i6:= ?_,d1:= ?_,op:=J,eq:=J,tg:=J,vl:=J,cu:=J}⟩))
  ·intro p hp r hr;simp only[rA,X9,Yl,YG]at hp;rcases hp with rfl|rfl|rfl<;>(refine(X8.mp hr).symm ▸?_)
   ·exact e4
   ·exact e9
   ·exact h.sp
  all_goals
   intro q hq;(refine(X8.mp hq).symm ▸?_)
  ·exact(aM (1) rfl ak rfl)
  ·exact(aM (1) rfl ak rfl)
  ·exact(aM (1) rfl ak ((d9 hN.2.1).trans rfl))
  ·exact(aM (1) rfl ak rfl)
  ·exact(aM (1) rfl ak (gj (g:=g) (i:=0) (TZ ak)))
  ·exact gU (th:=0) (n:=g.n) (Yr ak (n3 hc))
 ·obtain⟨fj,e4⟩:=h.it1;obtain⟨se,e9⟩:=h.th1;refine(uR se fj (λX yl=>⟨⟨rfl,?_⟩,λj tu ka ks=>{bd:=J,i1:= ?_,i2:= ?_,i3:= ?_,i4:= ?_,i6:= ?_,d1:= ?_,op:=J,eq:=J,tg:=J,vl:=J,cu:=J}⟩))
  ·intro p hp r hr;simp only[rA,X9,Yl,YG]at hp;rcases hp with rfl|rfl|rfl<;>(refine(X8.mp hr).symm ▸?_)
   ·exact e4
   ·exact e9
   ·exact h.sp
  all_goals
   intro q hq;(refine(X8.mp hq).symm ▸?_)
  ·exact(aM (2) rfl ak rfl)
  ·exact(aM (2) rfl ak rfl)
  ·exact(aM (2) rfl ak ((d9 hN.2.2.1).trans rfl))
  ·exact(aM (2) rfl ak rfl)
  ·exact(aM (2) rfl ak (gj (g:=g) (i:=1) (TZ ak)))
  ·exact gU (th:=1) (n:=g.n) (Yr ak (n3 hc))
 ·obtain⟨fj,e4⟩:=h.it2;obtain⟨se,e9⟩:=h.th2;refine(uR se fj (λX yl=>⟨⟨rfl,?_⟩,λj tu ka ks=>{bd:=J,i1:= ?_,i2:= ?_,i3:= ?_,i4:= ?_,i6:= ?_,d1:= ?_,op:=J,eq:=J,tg:=J,vl:=J,cu:=J}⟩))
  ·intro p hp r hr;simp only[rA,X9,Yl,YG]at hp;rcases hp with rfl|rfl|rfl<;>(refine(X8.mp hr).symm ▸?_)
   ·exact e4
   ·exact e9
   ·exact h.sp
  all_goals
   intro q hq;(refine(X8.mp hq).symm ▸?_)
  ·exact(aM (3) rfl ak rfl)
  ·exact(aM (3) rfl ak rfl)
  ·exact(aM (3) rfl ak ((d9 hN.2.2.2).trans rfl))
  ·exact(aM (3) rfl ak rfl)
  ·exact(aM (3) rfl ak (gj (g:=g) (i:=2) (Ym _ _)))
  ·exact gU (th:=2) (n:=g.n) (n3 hc)
theorem EJ(R:Ao (Z g σ X Y (IQ σ i)) f σ σ' xY cn):(∀i o,nth (σ.heap 8) i=some o->nth (σ'.heap 8) i=some o)/\∀i o,nth (σ.heap 12) i=some o->nth (σ'.heap 12) i=some o:=
 ⟨λi o h=>R.fr 8 (.inl rfl) i o h (by have:=bo h;exact Y9 ‹_›),λi o h=>R.fr 12 (.inr rfl) i o h (by have:=bo h;exact Y9 ‹_›)⟩
theorem oj(c:Cf)(i j:Nat):(kY c i j).q=true->(kY c i j).tu=c.tu:=by
 intro h;show(match isQ j with|true=>c.tu|false=>false)=_
 (refine((show isQ j=true from h)).symm ▸ rfl)
theorem Hi(c:Cf)(i j:Nat):(kY c i j).kq=true->(kY c i j).ka=c.ka/\(kY c i j).ks=c.ks:=by
 intro h;show(match aS j&& !Nat.beq j 12&& !Nat.beq i 0 with|true=>c.ka|false=>false)=_/\(match aS j&& !Nat.beq j 12&& !Nat.beq i 0 with|true=>c.ks|false=>false)=_
 (refine((show(aS j&& !Nat.beq j 12&& !Nat.beq i 0)=true from h)).symm ▸?_);exact⟨rfl,rfl⟩
theorem C1(h:Inv g σ)(bR:g.ts=25){i j:Nat}(hi:i<4)(hj:j<25)(hq:i=0->isQ j=false)(hm:60<=m):∃σ' g',(run pt m).c 216 [.obj 40 0, .str (aU j), .int (i:Int)] σ=some (.ok (.bool true),σ')/\Inv g' σ'/\rm g g':=by
 refine hg λcg kg=>?_;refine iQ (kn h hi) λse fj hf=>?_;obtain⟨ho,fs⟩:=hf gw [];have eH:=fK (g:=g) (σ:=σ) (X:=gw) (Y:=YC se fj []) (I:=IQ σ i) (oj g.c i j)
 let z0:=kY g.c i j
 refine U (j6 h eH (fs j z0.tu z0.ka z0.ks) (dF (dF ho (lG h (Hi g.c i j))) (gn h (oj g.c i j))).1 (dF (dF ho (lG h (Hi g.c i j))) (gn h (oj g.c i j))).2 (by rw[bR];exact(Ol (c:=g.c) hi hj hq)) hm) λσ' e1 R=>?_
 refine bS ((show∃lk lv,ah (Z g σ gw (YC se fj []) (IQ σ i)) z0.la= .tup [.str (aU lk),lv]/\lk<25/\eC g.c g.N lk lv from by
  refine cY (z0.su) (λhs=>?_) λhs=>?_
  ·
   refine(aZ j (.int (i:Int)) ?_ hj (.ref ((show∀j,j<25->aS j=true->j∈ [12,13,14,15]from by decide) j hj (by
    have hs:(match aS j with|true=>_|false=>false)=true:=hs;cases e:aS j with
    |true=>rfl
    |false=>rw[e]at hs;exact nf hs)) (by exact Yr ‹_› (Ym _ _))))
   unfold QP.la;rw[hs];simp only[iE,dP,c8,au (bk g σ gw (YC se fj []) (IQ σ i))];rfl
  ·
   refine(gz (g.lk) (g.lv) ?_ (h.las));unfold QP.la;rw[hs];rfl)) λlk lv l1 l2=>?_
 refine U (uQ h eH R (λ_ h=>h) l1 l2 (EJ R).1 (EJ R).2) λg' i1 i2=>?_;refine kg ?_;refine(aZ (σ'.setE σ.env) g' ?_ (i1.setE) i2);simp only[dP,c8,au (bk g σ gw (YC se fj []) (IQ σ i))]at e1;exact e1
theorem za(h:Inv g σ)(bR:g.ts=25){i j:Nat}(hi:i<4)(hj:j<25)(hq:i=0->isQ j=false)(hr:aS j=false)(z:Int)(hm:60<=m):∃σ' g',(run pt m).c 220 [.obj 40 0, .str (aU j), .int (i:Int), .int z] σ=some (.ok (.bool true),σ')/\Inv g' σ'/\rm g g':=by
 refine hg λcg kg=>?_;refine iQ (kn h hi) λse fj hf=>?_;obtain⟨ho,fs⟩:=hf (λ_=>z) [];have eH:=fK (g:=g) (σ:=σ) (X:=λ_=>z) (Y:=YC se fj []) (I:=IQ σ i) (oj g.c i j);refine U (j6 h eH (fs j (kY g.c i j).tu false false) (dF ho (gn h (oj g.c i j))).1 (dF ho (gn h (oj g.c i j))).2 (by rw[bR];exact(Oj (c:=g.c) hi hj hq hr)) hm) λσ' e1 R=>?_;refine U (uQ h eH R (λ_ h=>h) rfl h.las (EJ R).1 (EJ R).2) λg' i1 i2=>?_;refine kg ?_;refine(aZ (σ'.setE σ.env) g' ?_ (i1.setE) i2);simp only[dP,c8,au (bk g σ (λ_=>z) (YC se fj []) (IQ σ i)),ae]at e1;exact e1
end
def PS:Tr Nat:=uG 9 1 [(18,4),(31,1)]
def xZ(f:Fs):Fx:={lu (.any 1) f with mo:=PS}
theorem xr:jk (λ_ v=>Nat.beq v 1||Nat.beq v 4) PS=true:=by decide+kernel
theorem Ng:jk (λs v=>(Nat.beq s 18||Nat.beq s 31)&&(!Nat.beq s 18||Nat.beq v 4)) PS=true:=by decide+kernel
section
variable{g:Gh}{σ σ':St}{X:Nat->Int}{Y:Nat->V}{I:Nat->Nat->Nat}
theorem JN(s:Nat)(h:s=4\/s=8\/s=9\/s=12):yg (xZ f) s=false:=by
 unfold yg;rcases md_all (F:=xZ f) (p:=λs v=>(Nat.beq s 18||Nat.beq s 31)&&(!Nat.beq s 18||Nat.beq v 4)) Ng s with e|e
 ·rw[e];rfl
 ·rw[Ye]at e;rcases h with rfl|rfl|rfl|rfl<;>exact nf (e.1)
theorem Nf(s:Nat):xW (md (xZ f) s)=false:=by
 rcases md_all (F:=xZ f) (p:=λ_ v=>Nat.beq v 1||Nat.beq v 4) xr s with e|e
 ·rw[e];rfl
 ·rw[Zd]at e;rcases e with e|e<;>rw[aB.mp e]<;>rfl
theorem A4(s:Nat)(h:md (xZ f) s≠4):ip s=false:=by
 cases e:ip s with
 |false=>rfl
 |true=>
  have:=aB.mp e;subst this;exact absurd rfl h
theorem W9(h:Inv g σ)(k:fu g (Z g σ X Y I) f):uv (Z g σ X Y I) (xZ f) (σ.setE []):=
 let F:=Qr h (tu:= .any 1) rfl k
 {F with
  ca:=λp hp q hq S σ' hs j2 m hm=>by
   refine iQ (jx j2) λa l e1=>?_;have yc:=wy h rfl (hs.at_ _ _ _ e1) λs i o hh ho=>hs.ro s (Nf s) i o ho;have hp:p∈ [(197,f.tg),(191,f.vl),(56,f.cu)]:=hp;simp only[X9,Yl,YG]at hp;rcases hp with rfl|rfl|rfl
   ·exact gv (k.tg q hq) A4 (Yv 22) hs yc m hm
   ·exact gv (k.vl q hq) A4 (Yv 22) hs yc m hm
   ·exact gv (k.cu q hq) A4 (Yv 22) hs yc m hm}
theorem Inv.ext(h:Inv g σ)(x:LI gr σ σ')(hg:∀s,(s=4\/s=8\/s=9\/s=12)->gr s=false):Inv g σ':={
  h with
  gen:=λs j o e=>by
   rw[(jP g σ' σ gw gw b6 b6 bz bz h.tsv e).1,(jP g σ' σ gw gw b6 b6 bz bz h.tsv e).2];exact x.keep _ _ _ (h.gen s j o e)
  kin:=x.keep _ _ _ h.kin
  rows:=x.keep _ _ _ h.rows
  rowd:=λi hi=>x.keep _ _ _ (h.rowd i hi)
  scr:=x.keep _ _ _ h.scr
  l4:=by rw[x.len 4 (hg 4 (ak))];exact h.l4
  l8:=by rw[x.len 8 (hg 8 (ak))];exact h.l8
  l9:=by rw[x.len 9 (hg 9 (ak))];exact h.l9
  l12:=by rw[x.len 12 (hg 12 (ak))];exact h.l12
  box:=λi b hb=>(h.box i b hb).mono rfl (Yv _) (λ_ _ h=>h) (Yv _) (x.keep 4) (x.keep 8 i) (x.keep 9) (x.keep 12 _)
  cell:=λb hb=>(h.cell b hb).mono rfl (Yv _) (λ_ _ h=>h) (Yv _) (x.keep 9) (x.keep 12 _)
  it0:=let ⟨r,e⟩:=h.it0;⟨r,x.keep _ _ _ e⟩
  it1:=let ⟨r,e⟩:=h.it1;⟨r,x.keep _ _ _ e⟩
  it2:=let ⟨r,e⟩:=h.it2;⟨r,x.keep _ _ _ e⟩
  sp:=x.keep _ _ _ h.sp
  sl:=λi hi=>x.keep _ _ _ (h.sl i hi)
  th0:=let ⟨r,e⟩:=h.th0;⟨r,x.keep _ _ _ e⟩
  th1:=let ⟨r,e⟩:=h.th1;⟨r,x.keep _ _ _ e⟩
  th2:=let ⟨r,e⟩:=h.th2;⟨r,x.keep _ _ _ e⟩
  ts:=(gA (x.keep _ _ _ h.ts.1) (x.keep _ _ _ h.ts.2.1) (x.keep _ _ _ h.ts.2.2))}
theorem dT(h:Inv g σ)(bR:g.ts=25)(k:fu g (Z g σ X Y I) f)(cy:eK (xZ f) n fn args (gens (.any 1) 25) r=true)(hm:n<=m):∃σ',(run pt m).c fn (ax (Z g σ X Y I) args) σ=some (.ok (ah (Z g σ X Y I) r),σ')/\Inv g σ'/\σ'.env=σ.env:=by
 refine U (d8 (W9 h k).ok (λs j o ho=>h.ent (by(refine(bR).symm ▸?_);exact ho)) (gS (jE (.inl rfl))) xr hm cy) λσ' e1 e2=>?_;exact(aM σ' e1 (h.ext e2 JN) (e2.env))
theorem CD(h:Inv g σ)(sp:aJ (WS g.c) ip c0 f args r)(hm:c0<=m):∃σ',(run pt m).c f args σ=some (.ok r,σ')/\Inv g σ'/\σ'.env=σ.env:=by
 refine U (sp σ (I9 h) m hm) λσ' e1 e2=>?_;exact(aM σ' e1 (h.ext e2 (λs hs=>by rcases hs with rfl|rfl|rfl|rfl<;>rfl)) (e2.env))
end
def GP:Fs:=⟨[], [], [], [], [], [], [], [], [], [], [], []⟩
def fV(k:Nat):Fs:={GP with op:= [(3,(z9 22 k).1),(4,(z9 22 k).2)],vl:=H3 22 k}
def Ul(k:Nat):Bool:=eK (xZ (fV k)) 60 191 [w0,sN k,iS 22] (gens (.any 1) 25) (vS 10 k)
def fR:Fs:={GP with op:= [(4, [((iS 22,iS 2),iS 23)])]}
def QJ(k:Nat):Bool:=eK (xZ fR) 60 191 [w0,sN k,iS 22] (gens (.any 1) 25) (iS 23)
def fT(e:Nat):Fs:={GP with op:= [(3,((iS 22,cS 2),iS 43)::(z9 43 e).1),(4,((iS 22,cS 2),iS 50)::(z9 43 e).2)],vl:=H3 43 e}
def Uj(k e:Nat):Bool:=eK (xZ (fT e)) 60 191 [w0,sN k,iS 22] (gens (.any 1) 25) (.tup [iS 50,vS 10 e])
theorem Oc:(gG.all Ul)=true:=by decide+kernel
theorem Ob:([12,13,14,15].all QJ)=true:=by decide+kernel
theorem Oa:([(7,0),(8,1),(9,4),(10,17),(11,6)].all λp=>Uj p.1 p.2)=true:=by decide+kernel
def fE(r:SV):Fs:={GP with bd:= [(24,(0,5))],op:= [(3, [((iS 22,cS 8),iS 23)]),(4, [((iS 22,cS 8),r),((iS 23,cS 3),iS 25),((iS 23, .int 2 (-4)),iS 26)])]}
def Px(r q:SV):Bool:=eK (xZ (fE r)) 60 222 [w0,iS 22] (gens (.any 1) 25) q
theorem Oi:(Px (cS 7) (cS 0)&&Px (cS 6) (.int 25 1)&&Px (iS 24) (.int 26 4))=true:=by decide+kernel
def fA(i x:SV)(l:List ((SV×SV)×SV)):Fs:={GP with bd:= [(20,(4,100)),(24,(0,2))],i1:= [(i,x)],op:= [(3, [((iS 22,cS 4),iS 23)]),(4,l)]}
def GV(i x:SV)(l:List ((SV×SV)×SV))(r:SV):Bool:=eK (xZ (fA i x l)) 60 224 [w0,i,iS 22] (gens (.any 1) 25) r
def yF(ym:SV):(SV×SV)×SV:=((iS 22,cS 4),ym)
def nF(n:Nat):(SV×SV)×SV:=((iS 23,cS 25),cS n)
def zF(b:Bool):(SV×SV)×SV:=((iS 23,cS 2),b2 b)
noncomputable def RO:List (Nat×Nat):= [(0,1),(1,3),(3,1),(2,0),(17,16),(16,17),(18,17),(19,20),(20,19),(21,20),(22,23),(23,22),(24,0),(4,5),(5,6),(6,5)]
noncomputable def Hp (k:Nat):Nat:=match k with|0=>7|1=>8|4=>9|17=>10|6=>11|k=>k
def vx(k:Nat):Nat:=(aN k RO).getD k
theorem Os:(nZ.all λn=>GV (iS 20) (.any 11) [yF (cS 3),nF n] (sN n)&& [0,1,2,3].all λ(i:Nat)=>GV (cS i) (.any 11) [yF (cS 3),nF n] (sN n))=true:=by decide+kernel
theorem Ot:(nZ.all λn=>GV (cS 0) (.str []) [yF (iS 24),nF n] (sN n))=true:=by decide+kernel
def AG(k:Nat):List (List ((SV×SV)×SV)×SV):= [([yF (cS 0)],sN k),([yF (cS 1)],sN (Hp k)),([yF (cS 2),zF false],sN (vx k)),([yF (cS 2),zF true],match k with|1=> .atom 1|3=> .atom 2|k=>sN (vx k))]
def Pj(i:SV)(k:Nat):Bool:=(AG k).all λp=>GV i (sN k) p.1 p.2
theorem Oq:(gG.all λk=>Pj (iS 20) k)=true:=by decide+kernel
theorem Oo:([(1,13),(2,15),(3,13)].all λp:Nat×Nat=>Pj (cS p.1) p.2)=true:=by decide+kernel
section
variable{g:Gh}{σ σ':St}{ρ:Ro}
theorem BN(G:rv g ρ)(h2:ρ.int 2=(g.N:Int))(Ai:ρ.int 40=(ρ.int z).fdiv 3)(Iq:ρ.int 41=(ρ.int z).fdiv 5)(GM:ρ.int 42=((ρ.int z).fdiv 5).fdiv 2)(h4:k=4->ρ.int 35=((ρ.int z).fdiv 3).fmod g.N/\ρ.int 36=((ρ.int z).fdiv 5).fmod 2):(∀q∈(z9 z k).1,∀o,ny o=3->bZ o (ah ρ q.1.1) (ah ρ q.1.2)=some (ah ρ q.2))/\∀q∈(z9 z k).2,∀o,ny o=4->bZ o (ah ρ q.1.1) (ah ρ q.1.2)=some (ah ρ q.2):=by
 have i:∀x,ah ρ (iS x)= .int (ρ.int x):=ae;unfold z9;split
 ·skip;refine⟨λq hq=>?_,λq hq=>?_⟩
  ·simp only[X9,Yl,YG]at hq;rcases hq with rfl|rfl|rfl
   ·exact cN (i _) (au G 3) rfl (by rw[i,Ai])
   ·exact cN (i _) (au G 5) rfl (by rw[i,Iq])
   ·exact cN (i _) (au G 2) rfl (by rw[i,GM,Iq])
  ·simp only[X9,Yl,YG]at hq;rcases hq with rfl|rfl
   ·exact bJ (i 40) (i 2) (by rw[h2];exact YI ED) (by rw[i,(h4 rfl).1,Ai,h2])
   ·exact bJ (i 41) (au G 2) rfl (by rw[i,(h4 rfl).2,Iq])
 ·exact⟨J,J⟩
theorem uO(h1:∀p∈bd,p.2.1<=ρ.int p.1/\ρ.int p.1<=p.2.2)(h2:∀q∈i1,iw ρ 1 q)(h3:∀p∈op,∀q∈p.2,∀o,ny o=p.1->bZ o (ah ρ q.1.1) (ah ρ q.1.2)=some (ah ρ q.2))(h4:∀q∈vl,aJ (WS g.c) ip 22 191 (ax ρ q.1) (ah ρ q.2)):fu g ρ {GP with bd:=bd,i1:=i1,op:=op,vl:=vl}:=
 ⟨h1,h2,J,J,J,J,J,h3,J,J,h4,J⟩
theorem yn{l3 l4:List ((SV×SV)×SV)}(h3:∀q∈l3,∀o,ny o=3->bZ o (ah ρ q.1.1) (ah ρ q.1.2)=some (ah ρ q.2))(h4:∀q∈l4,∀o,ny o=4->bZ o (ah ρ q.1.1) (ah ρ q.1.2)=some (ah ρ q.2)):∀p∈ [(3,l3),(4,l4)],∀q∈p.2,∀o,ny o=p.1->bZ o (ah ρ q.1.1) (ah ρ q.1.2)=some (ah ρ q.2):=by
 intro p hp;simp only[X9,Yl,YG]at hp;rcases hp with rfl|rfl
 ·exact h3
 ·exact h4
theorem wZ(h:Inv g σ)(bR:g.ts=25)(hk:k<25)(z:Int)(hm:60<=m):∃v σ',eC g.c g.N k v/\(run pt m).c 191 [.obj 40 0, .str (aU k), .int z] σ=some (.ok v,σ')/\Inv g σ'/\σ'.env=σ.env:=by
 rcases(show∀k,k<25->k∈gG\/k∈ [12,13,14,15]\/∃e∈gG,(k,e)∈ [(7,0),(8,1),(9,4),(10,17),(11,6)]from by decide) k hk with hb|hr|⟨e,he,hq⟩
 ·refine hg λcg kg=>?_;refine a9 (qa (g:=g) h.ok hb z) λv t hV hT hN=>?_;obtain⟨l',Ag⟩:=og h.ok h.N100 hb hT;obtain⟨X,hX⟩:∃X,X=XC 0 ⟨0, .none,0⟩ [z] [] l' [z.fdiv 3,z.fdiv 5,(z.fdiv 5).fdiv 2]:=⟨_,rfl⟩;have G:=bk g σ X b6 bz;have O':=Ag (Z g σ X b6 bz) 10 G (by rw[hX];exact Bq);have gY:(Z g σ X b6 bz).int 22=z:=by rw[hX];rfl
  have z5:(Z g σ X b6 bz).int 42=(z.fdiv 5).fdiv 2:=by rw[hX];rfl
  have ops:=BN G rfl (z:=22) (k:=k) (by rw[(show(Z g σ X b6 bz).int 40=z.fdiv 3 from by rw[hX];rfl),gY]) (by rw[(show(Z g σ X b6 bz).int 41=z.fdiv 5 from by rw[hX];rfl),gY]) (by rw[z5,gY]) (λe=>by rw[gY];exact(hN _ 22 G O' gY z5).2 e);have fs:fu g (Z g σ X b6 bz) (fV k):=uO J J (yn ops.1 ops.2) (hN _ 22 G O' gY z5).1;have ck:=Oc;rw[X7]at ck;refine a8 (dT h bR fs (ck k hb) hm) λσ' e1 i1 e2=>?_;refine kg ?_;refine(cj v σ' hV ?_ i1 e2);simp only[dP,c8,ae,gY,O'.v]at e1;exact e1
 ·have KN:0<(g.N:Int):=ED;refine hg λcg kg=>?_;skip;have h2:z.fmod g.N<g.N:=Y4 _ KN;obtain⟨i,hi⟩:∃i:Nat,z.fmod g.N=(i:Int):=⟨_,(YR (YK _ KN)).symm⟩;obtain⟨X,hX⟩:∃X,X=o8 [0,0,z,i]:=⟨_,rfl⟩;have G:=bk g σ X b6 bz;have gY:(Z g σ X b6 bz).int 22=z:=by rw[hX];rfl
  have fs:fu g (Z g σ X b6 bz) fR:=uO J J (ac (ac (bJ (ae 22) (ae 2) (YI KN) (by rw[ae,(show(Z g σ X b6 bz).int 23=i from by rw[hX];rfl),gY];exact Yd V.int hi.symm)) J) J) J;have ck:=Ob;rw[X7]at ck;refine a8 (dT h bR fs (ck k hr) hm) λσ' e1 i1 e2=>?_;refine kg ?_;refine(cj (.int (i:Int)) σ' (.ref hr (KF hi h2)) ?_ i1 e2);simp only[dP,c8,ae,gY,(show(Z g σ X b6 bz).int 23=i from by rw[hX];rfl)]at e1;exact e1
 let z0:=z.fdiv 2
 ·refine hg λcg kg=>?_;refine a9 (qa (g:=g) h.ok he z0) λv t hV hT hN=>?_;obtain⟨l',Ag⟩:=og h.ok h.N100 he hT;obtain⟨X,hX⟩:∃X,X=XC 0 ⟨0, .none,0⟩ [z] [] l' [z0.fdiv 3,z0.fdiv 5,(z0.fdiv 5).fdiv 2,z.fdiv 2,0,0,0,0,0,0,z.fmod 2]:=⟨_,rfl⟩;have G:=bk g σ X b6 bz;have O':=Ag (Z g σ X b6 bz) 10 G (by rw[hX];exact Bq);have gY:(Z g σ X b6 bz).int 22=z:=by rw[hX];rfl
  have z5:(Z g σ X b6 bz).int 42=(z0.fdiv 5).fdiv 2:=by rw[hX];rfl
  have HY:(Z g σ X b6 bz).int 43=z.fdiv 2:=by rw[hX];rfl
  have DZ:(Z g σ X b6 bz).int 50=z.fmod 2:=by rw[hX];rfl
  have ops:=BN G rfl (z:=43) (k:=e) (by rw[(show(Z g σ X b6 bz).int 40=z0.fdiv 3 from by rw[hX];rfl),HY]) (by rw[(show(Z g σ X b6 bz).int 41=z0.fdiv 5 from by rw[hX];rfl),HY]) (by rw[z5,HY]) (λe=>by rw[HY];exact(hN _ 43 G O' HY z5).2 e);have fs:fu g (Z g σ X b6 bz) (fT e):=uO J J (yn (ac (cN (ae 22) (au G 2) rfl (by rw[ae,HY,gY])) ops.1) (ac (bJ (ae 22) (au G 2) rfl (by rw[ae,DZ,gY])) ops.2)) (hN _ 43 G O' HY z5).1;have ck:=Oa;rw[X7]at ck;refine a8 (dT h bR fs (ck (k,e) hq) hm) λσ' e1 i1 e2=>?_;refine kg ?_;refine(cj _ σ' (.q hq (ot z) hV) ?_ i1 e2);simp only[dP,c8,iE,ae,gY,DZ,O'.v]at e1;exact e1
theorem FC(h:Inv g σ)(bR:g.ts=25)(hb:1<=g.bx.length)(x:Int)(hm:60<=m):∃(i:Nat) (σ':St),i<g.N/\(run pt m).c 222 [.obj 40 0, .int x] σ=some (.ok (.int (i:Int)),σ')/\Inv g σ'/\σ'.env=σ.env:=by
 let z0:=x.fdiv 8
 have b1:0<=z0.fmod 3:=YK _ ak;have LD:z0.fmod 3<3:=Y4 _ ak;have c1:0<=z0.fmod ((g.N:Int) - 4):=YK _ (PM hb);have c2:z0.fmod ((g.N:Int) - 4)<(g.N:Int) - 4:=Y4 _ (PM hb);obtain⟨X,hX⟩:∃X,X=o8 [0,0,x,x.fdiv 8,if x.fmod 8<=5 then x.fmod 8 else 0,z0.fmod 3,z0.fmod ((g.N:Int) - 4)]:=⟨_,rfl⟩;have G:=bk g σ X b6 bz;have gY:(Z g σ X b6 bz).int 22=x:=by rw[hX];rfl
 have fs:∀r,ah (Z g σ X b6 bz) r= .int (x.fmod 8)->fu g (Z g σ X b6 bz) (fE r):=λr hr=>
  uO (ac (by(refine((show(Z g σ X b6 bz).int 24=if x.fmod 8<=5 then x.fmod 8 else 0 from by rw[hX];rfl)).symm ▸?_);split;exact⟨YK _ ak, ‹_›⟩;decide) J) J
   (yn (ac (cN (ae 22) (au G 8) rfl (by rw[ae,(show(Z g σ X b6 bz).int 23=x.fdiv 8 from by rw[hX];rfl),gY])) J)
    (ac (bJ (ae 22) (au G 8) rfl (by rw[hr,gY])) (ac (bJ (ae 23) (au G 3) rfl (by rw[ae,(show(Z g σ X b6 bz).int 25=z0.fmod 3 from by rw[hX];rfl),(show(Z g σ X b6 bz).int 23=x.fdiv 8 from by rw[hX];rfl)])) (ac (bJ (y:=(g.N:Int) - 4) (ae 23) (by show V.int ((g.N:Int)+ -4)=_;rw[Int.sub_eq_add_neg]) (YI (PM hb)) (by rw[ae,(show(Z g σ X b6 bz).int 26=z0.fmod ((g.N:Int) - 4)from by rw[hX];rfl),(show(Z g σ X b6 bz).int 23=x.fdiv 8 from by rw[hX];rfl)])) J)))) J
 have ck:=Oi;rw[Ye,Ye]at ck;rcases V0 (Y4 x (by decide:(0:Int)<8))with e|e|e
 ·refine a8 (dT h bR (fs (cS 7) (by rw[e];exact au G 7)) ck.1.1 hm) λσ' e1 i1 e2=>?_;refine(cj (0) σ' (Yr ‹_› (ZF _ _)) ?_ i1 e2);simp only[dP,c8,ae,gY]at e1;exact e1
 ·obtain⟨σ',e1,i1,e2⟩:=dT h bR (fs (cS 6) (by rw[e];exact au G 6)) ck.1.2 hm;refine(cj ((z0.fmod 3+1).toNat) σ' (tn b1 LD) ?_ i1 e2);simp only[dP,c8,ae,gY]at e1;rw[show ah (Z g σ X b6 bz) (.int 25 1)= .int ((Z g σ X b6 bz).int 25+1)from rfl,(show(Z g σ X b6 bz).int 25=z0.fmod 3 from by rw[hX];rfl)]at e1;rw[YR (zam b1 ak)];exact e1
 ·obtain⟨σ',e1,i1,e2⟩:=dT h bR (fs (iS 24) (by rw[ae,(show(Z g σ X b6 bz).int 24=if x.fmod 8<=5 then x.fmod 8 else 0 from by rw[hX];rfl),Ze e])) ck.2 hm;refine(cj ((z0.fmod ((g.N:Int) - 4)+4).toNat) σ' (Vm c1 c2) ?_ i1 e2);simp only[dP,c8,ae,gY]at e1;rw[show ah (Z g σ X b6 bz) (.int 26 4)= .int ((Z g σ X b6 bz).int 26+4)from rfl,(show(Z g σ X b6 bz).int 26=z0.fmod ((g.N:Int) - 4)from by rw[hX];rfl)]at e1;rw[YR (zam c1 ak)];exact e1
end
section
variable{g:Gh}{σ σ':St}
theorem mK:∀k,k<25->Hp k<25/\vx k<25:=by decide
theorem Kt(hc:g.c.ok)(hk:k<25):∀p∈AG k,∃j,j<25/\ah (Z g σ X Y I) p.2= .str (aU j):=by
 intro p hp;simp only[AG,X9,Yl,YG]at hp;rcases hp with rfl|rfl|rfl|rfl
 ·exact(al k hk rfl)
 ·exact(al _ ((mK k hk).1) rfl)
 ·exact(al _ ((mK k hk).2) rfl)
 ·dsimp only;split
  ·exact(al _ (hP hc (show 1<25 by decide)) rfl)
  ·exact(al _ (hP hc (show 3<25 by decide)) rfl)
  ·exact(al _ ((mK k hk).2) rfl)
theorem gX(h:Inv g σ)(bR:g.ts=25)(hi:i<g.N)(P7:nth g.exactL i=some (.str nm))(y:Int)(Ww:iv=iS 20/\4<=i\/iv=cS i)(h3:∀n∈nZ,GV iv (.any 11) [yF (cS 3),nF n] (sN n)=true)(hk:(nm= []/\∀n∈nZ,GV iv (.str []) [yF (iS 24),nF n] (sN n)=true)\/∃k,k<25/\nm=aU k/\∀p∈AG k,GV iv (sN k) p.1 p.2=true)(hm:60<=m):∃(j:Nat) (σ':St),j<25/\(run pt m).c 224 [.obj 40 0, .int (i:Int), .int y] σ=some (.ok (.str (aU j)),σ')/\Inv g σ'/\σ'.env=σ.env:=by
 have hN:=h.N100;have a1:0<=y.fmod 4:=YK _ ak;have a2:y.fmod 4<4:=Y4 _ ak
 let z0:=y.fdiv 4
 have LD:z0.fmod 25<25:=Y4 _ ak;obtain⟨n,hn⟩:∃n:Nat,z0.fmod 25=(n:Int):=⟨_,(YR (YK _ ak)).symm⟩;have yu:n<25:=KF hn LD;have L6:=by
  exact(show∀n,n<25->n∈nZ from by decide) n yu
 obtain⟨X,hX⟩:∃X,X=o8 [max 4 i,0,y,y.fdiv 4,if y.fmod 4<=2 then y.fmod 4 else 0]:=⟨_,rfl⟩;obtain⟨Y,hY⟩:∃Y:Nat->V,Y=λx=>match x with|11=> .str nm|_=> .none:=⟨_,rfl⟩
 have G:=bk g σ X Y bz;have gY:(Z g σ X Y bz).int 22=y:=by rw[hX];rfl
 have HZ:(Z g σ X Y bz).int 23=y.fdiv 4:=by rw[hX];rfl
 have div:ah (Z g σ X Y bz) iv= .int (i:Int):=by
  rcases Ww with⟨rfl,h4⟩|rfl
  ·rw[ae,(show(Z g σ X Y bz).int 20=max 4 (i:Int)from by rw[hX];rfl)];exact Yd V.int (Int.max_eq_right (Y3.mpr h4))
  ·exact au G _
 have fs:∀(x:SV) l,ah (Z g σ X Y bz) x= .str nm->(∀q∈l,∀o,ny o=4->bZ o (ah (Z g σ X Y bz) q.1.1) (ah (Z g σ X Y bz) q.1.2)=some (ah (Z g σ X Y bz) q.2))->fu g (Z g σ X Y bz) (fA iv x l):=λx l hx hl=>
  uO (ac (by show 4<=(Z g σ X Y bz).int 20/\(Z g σ X Y bz).int 20<=100;rw[(show(Z g σ X Y bz).int 20=max 4 (i:Int)from by rw[hX];rfl)];exact⟨Int.le_max_left ..,Int.max_le.mpr ⟨by decide,Y3.mpr (Yc (Zv hi) hN)⟩⟩) (ac (by show 0<=(Z g σ X Y bz).int 24/\(Z g σ X Y bz).int 24<=2;(refine((show(Z g σ X Y bz).int 24=if y.fmod 4<=2 then y.fmod 4 else 0 from by rw[hX];rfl)).symm ▸?_);split;exact⟨a1, ‹_›⟩;decide) J))
   (ac (aM i div (Yc (Zv hi) (Yc hN ak)) (by rw[hx];exact P7)) J)
   (yn (ac (cN (ae 22) (au G 4) rfl (by rw[ae,HZ,gY])) J) hl) J
 have yf:∀r,ah (Z g σ X Y bz) r= .int (y.fmod 4)->∀o,ny o=4->bZ o (ah (Z g σ X Y bz) (yF r).1.1) (ah (Z g σ X Y bz) (yF r).1.2)=some (ah (Z g σ X Y bz) (yF r).2):=λr hr=>bJ (ae 22) (au G 4) rfl (by(refine(gY).symm ▸?_);exact hr);have nf:=bJ (ae 23) (au G 25) rfl (by rw[HZ,hn];exact au G _);have zf:=bJ (ae 23) (au G 2) rfl (by rw[HZ];exact ke G);have Ea:∀{x l r},GV iv x l r=true->fu g (Z g σ X Y bz) (fA iv x l)->∃σ',(run pt m).c 224 [.obj 40 0, .int (i:Int), .int y] σ=some (.ok (ah (Z g σ X Y bz) r),σ')/\Inv g σ'/\σ'.env=σ.env:=by
  intro x l r ck f;refine a8 (dT h bR f ck hm) λσ' e1 i1 e2=>?_;refine(aM σ' ?_ i1 e2);simp only[dP,c8,ae,gY,div]at e1;exact e1
 by_cases e3:y.fmod 4=3
 ·refine U (Ea (h3 n L6) (fs (.any 11) _ (by rw[hY];rfl) (ac (yf _ (by rw[e3];exact au G 3)) (ac nf J)))) λσ' e1 e2=>?_;exact(aZ n σ' yu e1 e2)
 ·rcases hk with⟨rfl,hk⟩|⟨k,hk,rfl,hc⟩
  ·have y3:=Td a2 e3;refine U (Ea (hk n L6) (fs (.str []) _ rfl (ac (yf (iS 24) (by rw[ae,(show(Z g σ X Y bz).int 24=if y.fmod 4<=2 then y.fmod 4 else 0 from by rw[hX];rfl),Ze y3])) (ac nf J)))) λσ' e1 e2=>?_;exact(aZ n σ' yu e1 e2)
  ·have go:∀p∈AG k,(∀q∈p.1,∀o,ny o=4->bZ o (ah (Z g σ X Y bz) q.1.1) (ah (Z g σ X Y bz) q.1.2)=some (ah (Z g σ X Y bz) q.2))->∃(j:Nat) (σ':St),j<25/\(run pt m).c 224 [.obj 40 0, .int (i:Int), .int y] σ=some (.ok (.str (aU j)),σ')/\Inv g σ'/\σ'.env=σ.env:=by
    intro p hp hq;refine U (Kt (g:=g) (σ:=σ) (X:=X) (Y:=Y) (I:=bz) h.ok hk p hp) λj hj ej=>?_;refine U (Ea (hc p hp) (fs (sN k) _ rfl hq)) λσ' e1 e2=>?_;rw[ej]at e1;exact(aZ j σ' hj e1 e2)
   rcases V1 a1 (Td a2 e3)with e|e|e
   ·exact go _ (.head _) (ac (yf _ (by rw[e];exact au G 0)) J)
   ·exact go _ (.tail _ (.head _)) (ac (yf _ (by rw[e];exact au G 1)) J)
   ·skip;refine uu (decide (z0.fmod 2=1)) (λq=>?_) λq=>?_
    ·rw[q]at zf;exact go _ (.tail _ (.tail _ (.head _))) (ac (yf (cS 2) (by rw[e];exact au G 2)) (ac zf J))
    ·rw[q]at zf;exact go _ (.tail _ (.tail _ (.tail _ (.head _)))) (ac (yf (cS 2) (by rw[e];exact au G 2)) (ac zf J))
theorem Gz(h:Inv g σ)(bR:g.ts=25)(hi:i<g.N)(y:Int)(hm:60<=m):∃(j:Nat) (σ':St),j<25/\(run pt m).c 224 [.obj 40 0, .int (i:Int), .int y] σ=some (.ok (.str (aU j)),σ')/\Inv g σ'/\σ'.env=σ.env:=by
 have c3:=Os;rw[X7]at c3;have c3:=λn hn=>X5.mp (c3 n hn);by_cases h4:4<=i
 ·obtain⟨q,rfl⟩:∃q,i=4+q:=⟨i - 4,(ZI ‹_›).symm⟩;obtain⟨b,hb⟩:∃b,nth g.bx q=some b:=⟨_,by rw[cO];exact Zi (ZM hi)⟩;have cb:=Oq;rw[X7]at cb;have cb:=cb b.k (h.box q b hb).nm;unfold Pj at cb;rw[X7]at cb;exact gX h bR (iv:=iS 20) hi (oG hb) y (.inl ⟨rfl,h4⟩) (λn hn=>(c3 n hn).1) (.inr (aM (b.k) (vr (h.box q b hb).nm) rfl cb)) hm
 ·have hI:=λn hn=>by
   have:=(c3 n hn).2;rw[X7]at this;exact this i ((by decide:∀i,i<4->i∈ [0,1,2,3]) i (Nat.lt_of_not_le h4))
  have co:=Oo;rw[X7]at co;have co:=λp hp=>by
   have:=co p hp;unfold Pj at this;rw[X7]at this;exact this
  rcases PV (Nat.lt_of_not_le h4)with rfl|rfl|rfl|rfl
  ·have c0:=Ot;rw[X7]at c0;exact gX h bR (iv:=cS 0) hi rfl y (.inr rfl) hI (.inl ⟨rfl,c0⟩) hm
  ·exact gX h bR (iv:=cS 1) hi rfl y (.inr rfl) hI (.inr (aM (13) ak rfl (co (1,13) (.head _)))) hm
  ·exact gX h bR (iv:=cS 2) hi rfl y (.inr rfl) hI (.inr (aM (15) ak rfl (co (2,15) (.tail _ (.head _))))) hm
  ·exact gX h bR (iv:=cS 3) hi rfl y (.inr rfl) hI (.inr (aM (13) ak rfl (co (3,13) (.tail _ (.tail _ (.head _)))))) hm
end
def fY(lo hi:Int)(it:List (SV×SV))(b:Bool):Fx:={bd:=(1,(lo,hi))::Pf,bl:= [(8,iS 21)],it:= [(8,it)],dt:= [],op:= [(2, [((cS 5,iS 1),iS 23)])],eq:= [],le:= [((iS 21,iS 1),b)],ca:= [],cf:=0,pre:=λ_=>true,mo:= .f 40 2}
noncomputable def OJ:bw:= [(60, [(0, .list (.var 8) [])])]
def Vw:bw:= [(40, [(0, .dict none 1 (nX (.int 1 1) (.any 2) (.any 1)))])]
def Pi(ts:Nat)(lo hi:Int)(it:List (SV×SV))(b:Bool)(r:SV):Bool:=jm (fY lo hi it b) 60 184 [w0] (OJ++gens (.any 1) ts) r Vw uD
noncomputable def RA:List Int:= [0,2,8,1,10,8,6,2,8,31]
theorem Kp:(Pi 25 0 500 [(iS 1,iS 22)] false (iS 22)&&Pi 25 10 500 [] true (.int 23 3)&& [0,1,2,3,4,5,6,7,8,9].all λ(n:Nat)=>Pi 25 n n [] true (cS (lg RA n)))=true:=by decide+kernel
def QF:Al:=⟨nA [0,2,3,4,5,6,7,8],IT,λs j=>Nat.blt j 1000&& !wx s,λ_=>true⟩
theorem Dr:((gens (.any 1) 25).all λq=>q.2.all λr=>Nat.beq q.1 40||uz QF r.2)=true:=by decide+kernel
section
variable{g:Gh}{σ σ':St}
theorem RW(g:Gh)(a:Int)(σ σ':St)(X X':Nat->Int)(Y Y':Nat->V)(I I':Nat->Nat->Nat):GZ QF (Z g σ X Y I) (Z {g with at_:=a} σ' X' Y' I') where
 i x h:=yz (P:=λx=>(Z g σ X Y I).int x=(Z {g with at_:=a} σ' X' Y' I').int x) h ⟨rfl,rfl,rfl,rfl,rfl,rfl,rfl,rfl,trivial⟩
 a x h:=(AH g σ σ' X X' Y Y' I I').a x h
 o s j h:=by
  exact rU _ _ _ _ _ _ _ _ _ _ s j (X5.mp h).1 (by simpa using(X5.mp h).2) (.inl rfl)
 b _ _:=⟨rfl,rfl⟩
 s:=rfl
theorem Sb(lo hi:Int)(it:List (SV×SV))(b:Bool)(h:s≠40):md (fY lo hi it b) s=0:=by
 unfold md;rw[Tr.get_eq]
 rw[(show dY s (fY lo hi it b).mo s=none from by
  show dY s (.f 40 2) s=none;simp only[GO,az (ZC h),zai])]
theorem mT(h:Inv g σ)(bR:g.ts=25)(ha:g.at_<=399){X:Nat->Int}{lo hi:Int}(h1:lo<=g.at_/\g.at_<=hi)(Tz:X 21=(g.sc.length:Nat))(Qn:X 23=5*g.at_)(Em:∀q∈it,iw (Z g σ X b6 bz) 8 q)(hb:b=decide ((g.sc.length:Int)<=g.at_))(ck:Pi 25 lo hi it b r=true)(hm:60<=m):∃σ',(run pt m).c 184 [.obj 40 0] σ=some (.ok (ah (Z g σ X b6 bz) r),σ')/\Inv {g with at_:=g.at_+1} σ'/\σ'.env=σ.env:=by
 let z0:=Z g σ X b6 bz
 refine U (LO (show uv z0 (fY lo hi it b) (σ.setE [])from {
  z:=rfl
  bd:=λp hp=>by
   refine(X9.mp hp).elim (λq=>?_) λhp=>?_
   ·subst q;exact h1
   ·exact Cg h.ok (T4 h.atb) (T3 h.siz) (QD h.siz h.cnt) p hp
  st:=Sk
  bn:=TY h
  dn:=TU h
  bl:=λp hp=>by
   (refine(X8.mp hp).symm ▸?_)
   show ah _ (iS 21)= .int (((g.sc.map V.int).length:Nat):Int);rw[ae,hJ ak,Tz,YO]
  it:=λp hp q hq=>by
   rw[X8.mp hp]at hq⊢;exact Em q hq
  dt:=J
  op:=λp hp q hq o ho=>by
   rw[X8.mp hp]at hq ho
   (refine(X8.mp hq).symm ▸?_)
   cases o<;>first|(cases ho;done)|skip
   rw[show ah z0 (cS 5)= .int 5 from au (bk g σ X b6 bz) 5,show ah z0 (iS 1)= .int g.at_ from ae 1];show some (V.int (5*g.at_))=some (ah _ (iS 23));rw[ae,hJ ak,Qn]
  eq:=J
  le:=λp hp i j zW hj=>by
   rw[X8.mp hp]at zW hj⊢;rw[show ah z0 (iS 21)= .int (X 21)from ae 21]at zW;rw[show ah z0 (iS 1)= .int g.at_ from ae 1]at hj;injection zW with zW;injection hj with hj
   (refine(zW) ▸?_;refine(hj) ▸?_;refine(Tz).symm ▸?_);exact hb
  nw:=PL
  l0:=λ_=>rfl
  ca:=J}).ok (es:=OJ++gens (.any 1) 25) (λs j o ho=>by
  refine(gW ho).elim (λq=>?_) λq1=>?_
  ·(refine U q λl q1 q2=>?_;try clear q);simp only[OJ,X8,YQ]at q1
   obtain⟨rfl,rfl⟩:=q1;simp only[X8,YQ]at q2;obtain⟨rfl,rfl⟩:=q2;exact h.scr.trans (Yd some (Yd bu.list (Yt _).symm))
  ·exact h.ent (by(refine(bR).symm ▸?_);exact q1)) (gS (by rw[eo,jE (.inl rfl)];rfl)) hm ck) λσ' e1 R=>?_
 refine(aM _ e1 ?_ rfl);have keep:∀{s i o},s≠40->nth (σ.heap s) i=some o->nth (σ'.heap s) i=some o:=λhs ho=>R.ro _ (by rw[Sb _ _ _ _ hs];rfl) _ _ ho;have len:∀s,(s,0)∈uD->s≠40->(σ'.heap s).length=(σ.heap s).length:=λs hs Ai=>R.cn (s,0) hs (by rw[Sb _ _ _ _ Ai];decide)
 exact(show Inv {g with at_:=g.at_+1} σ' from {
  h with
  gen:=λs j o ho=>by
   have n0:aQ (gens (.any 1) 25) s j=some o:=by(refine(bR) ▸?_);exact ho
   by_cases e:s=40
   ·subst e;obtain⟨rfl,rfl⟩:=Ms rfl n0;refine(R.at_ (40,_) (.head _) (0,_) (.head _)).trans (Yd some ?_)
    simp only[aC,gI,nX,dc,(show ah z0 (.int 1 1)=ah (Z {g with at_:=g.at_+1} σ' gw b6 bz) (.int 1 0)from by
     show V.int (g.at_+1)=V.int (g.at_+1+0);rw[ZE])]
    rfl
   ·have ok:=YW.mp (b9 (p:=λs r=>Nat.beq s 40||uz QF r.2) Dr n0);have PF:=X5.mp (b9 (p:=λs r=>uz Aj r.2&&Aj.o s r.1) (lH (.inl rfl)) n0);have q:=X5.mp PF.2
    (refine(hU (RW g (g.at_+1) σ σ' gw gw b6 b6 bz bz) (ok.resolve_left (by rw[az e];decide))) ▸?_;refine((rU g {g with at_:=g.at_+1} σ σ' gw gw b6 b6 bz bz s j q.1 (by simpa using q.2) (.inl rfl))) ▸?_)
    exact keep e (h.gen s j o ho)
  kin:=keep ak h.kin
  rows:=keep ak h.rows
  rowd:=λi hi=>keep (by show(match g.c.tu with|true=>51|false=>52)≠40;cases g.c.tu<;>decide) (h.rowd i hi)
  scr:=keep ak h.scr
  l4:=by rw[len 4 ak ak];exact h.l4
  l8:=by rw[len 8 ak ak];exact h.l8
  l9:=by rw[len 9 ak ak];exact h.l9
  l12:=by rw[len 12 ak ak];exact h.l12
  box:=λi b hb=>(h.box i b hb).mono (g':={g with at_:=g.at_+1}) rfl (Yv _) (λ_ _ h=>h) (Yv _) (λ_ _=>keep ak) (λ_=>keep ak) (λ_ _=>keep ak) (λ_=>keep ak)
  cell:=λb hb=>(h.cell b hb).mono (g':={g with at_:=g.at_+1}) rfl (Yv _) (λ_ _ h=>h) (Yv _) (λ_ _=>keep ak) (λ_=>keep ak)
  atb:=⟨zam (h.atb).1 ak,Zk ha 1⟩
  it0:=let ⟨r,e⟩:=h.it0;⟨r,keep ak e⟩
  it1:=let ⟨r,e⟩:=h.it1;⟨r,keep ak e⟩
  it2:=let ⟨r,e⟩:=h.it2;⟨r,keep ak e⟩
  sp:=keep ak h.sp
  sl:=λi hi=>keep ak (h.sl i hi)
  th0:=let ⟨r,e⟩:=h.th0;⟨r,keep ak e⟩
  th1:=let ⟨r,e⟩:=h.th1;⟨r,keep ak e⟩
  th2:=let ⟨r,e⟩:=h.th2;⟨r,keep ak e⟩
  ts:=(gA (keep ak h.ts.1) (keep ak h.ts.2.1) (keep ak h.ts.2.2))}).setE
theorem qu(h:Inv g σ)(bR:g.ts=25)(ha:g.at_<=399)(hm:60<=m):∃(z:Int) (σ':St),(run pt m).c 184 [.obj 40 0] σ=some (.ok (.int z),σ')/\Inv {g with at_:=g.at_+1} σ'/\σ'.env=σ.env:=by
 have ck:=Kp;rw[Ye,Ye]at ck;by_cases e1:(g.sc.length:Int)<=g.at_
 ·by_cases e2:10<=g.at_
  ·refine hg λcg kg=>?_;obtain⟨X,hX⟩:∃X,X=o8 [0,(g.sc.length:Nat),0,5*g.at_]:=⟨_,rfl⟩;refine U (mT h bR ha (X:=X) (lo:=10) (hi:=500) (it:= []) (b:=true) (r:= .int 23 3) ⟨e2,YL ‹_› ak⟩ (by rw[hX];rfl) (by rw[hX];rfl) J (YI e1).symm ck.1.2 hm) λσ' f1 f2=>?_;refine kg ?_;exact(gz _ σ' f1 f2)
  ·obtain⟨n,hn⟩:∃n:Nat,g.at_=(n:Int):=⟨_,(YR (h.atb).1).symm⟩;obtain⟨X,hX⟩:∃X,X=o8 [0,(g.sc.length:Nat),0,5*g.at_]:=⟨_,rfl⟩;have c:=ck.2;rw[X7]at c
   refine U (mT h bR ha (X:=X) (it:= []) (b:=true) ⟨by rw[hn];exact Y8 _,by rw[hn];exact Y8 _⟩ (by rw[hX];rfl) (by rw[hX];rfl) J (YI e1).symm (c n (by
    exact(show∀n,n<10->n∈ [0,1,2,3,4,5,6,7,8,9]from by decide) n (KF hn (Z7.mp e2)))) hm) λσ' f1 f2=>?_
   rw[au (bk ..)]at f1;exact(gz _ σ' f1 f2)
 ·obtain⟨n,hn⟩:∃n:Nat,g.at_=(n:Int):=⟨_,(YR (h.atb).1).symm⟩;have kW:n<g.sc.length:=KF hn (Z7.mp e1);obtain⟨X,hX⟩:∃X,X=o8 [0,(g.sc.length:Nat),g.sc[n],5*g.at_]:=⟨_,rfl⟩
  refine U (mT h bR ha (X:=X) (lo:=0) (hi:=500) (it:= [(iS 1,iS 22)]) (b:=false) (r:=iS 22) ⟨(h.atb).1,YL ‹_› ak⟩ (by rw[hX];rfl) (by rw[hX];rfl) (ac (aM n (by rw[ae];exact Yd V.int hn) (Xm hn ha) (by
   show nth (g.sc.map V.int) n=_;rw[cW,cO,Zi kW,ae,hJ ak,hX];rfl)) J) (YS e1).symm ck.1.1 hm) λσ' f1 f2=>?_
  rw[ae]at f1;exact(gz _ σ' f1 f2)
end
section
variable{m:Nat}{σ σ':St}
theorem aA(h:p σ=some (.ok a,σ')):M.bind p f σ=f a σ':=by
 unfold M.bind;rw[h]
theorem bq(h:ih.s s σ=some (.ok .next,σ')):execs ih (s::r) σ=execs ih r σ':=aA h
theorem ff(h:ih.s s σ=some (.ok (.ret v),σ')):execs ih (s::r) σ=some (.ok (.ret v),σ'):=aA h
theorem fe(h:(run pt m).e e σ=some (.ok v,σ')):(run pt (m+1)).s (.asg (.loc x) e) σ=some (.ok .next,σ'.setE (putN x v σ'.env)):=aA h
theorem j7(h:(run pt m).e e σ=some (.ok v,σ')):(run pt (m+1)).s (.ret (some e)) σ=some (.ok (.ret v),σ'):=aA h
theorem dB{b:Bool}(h:(run pt m).b c σ=some (.ok b,σ'))(k:execs (run pt m) (match b with|true=>t|false=>e) σ'=r):(run pt (m+1)).s (.ite c t e) σ=r:=by
 refine(aA h).trans ?_;cases b<;>exact k
theorem bW(h:kK (run pt m) args σ=some (.ok vs,σ'))(k:(run pt m).c f vs σ'=r):(run pt (m+1)).e (.call f args) σ=r:=(aA h).trans k
theorem vL{v:V}(h:p σ=some (.ok v,σ')):M.restore e p σ=some (.ok v,σ'.setE e):=by
 unfold M.restore;rw[h]
theorem IZ(hf:pt.fn f=some fn)(hz:pa fn.params args=some env)(h:execs (run pt m) fn.body (σ.setE env)=some (.ok (.ret v),σ')):(run pt (m+1)).c f args σ=some (.ok v,σ'.setE σ.env):=by
 show M.of (pt.fn f) _ σ=_
 (refine(hf).symm ▸?_)
 show M.of (pa fn.params args) _ σ=_
 (refine(hz).symm ▸?_)
 exact vL ((aA (σ':=σ.setE env) (a:=()) rfl).trans (aA h))
end
section
variable{g:Gh}{σ:St}{m:Nat}
noncomputable def dE (o x y:Int):List (Nat×V):= [(185, .obj 40 0),(229, .int o),(223, .int x),(225, .int y)]
theorem fD(h:σ.env=a):σ=σ.setE a:=by cases σ;subst h;rfl
def xT(g:Gh)(r:Option (R V×St)):Prop:=∃σ' g',r=some (.ok (.bool true),σ')/\Inv g' σ'/\rm g g'
theorem Nc{n:Nat}(h:n<25)(σ:St):itemOf σ.heap (.tup (GI.map .str)) (.int (n:Int))=some (.str (aU n)):=by
 show(df (n:Int)).bind _=_;rw[jJ (Yc (Zv h) ak)];show nth (GI.map V.str) n=_;rw[cW];rw[(show∀n,n<25->nth GI n=some (aU n)from by decide) n h];rfl
theorem b_cmp{os:List o9}(h:(run pt m).e a σ=some (.ok x,σ'))(k:gq pt (run pt m) x os bs σ'=r):(run pt (m+1)).b (.cmp a os bs) σ=r:=(aA h).trans k
theorem LA(h:(run pt m).e e σ=some (.ok y,σ'))(k:me pt σ'.heap o x y=some t):gq pt (run pt m) x [o] [e] σ=some (.ok t,σ'):=by
 show M.bind ((run pt m).e e) (λb=>M.bind (M.cmp pt o x b) λt=>M.pure t) σ=_;rw[aA h];refine(aA (a:=t) (σ':=σ') ?_).trans rfl;show M.opt (me pt σ'.heap o x y) σ'=_;rw[k];rfl
theorem HH(σ:St)(E:List (Nat×V))(o:Int)(n:Int)(h:aN 229 E=some (.int o)):(run pt (m+3)).b (.cmp (.bin .mod (.loc 229) (.k (.int 6))) [.lt] [(.k (.int n))]) (σ.setE E)=some (.ok (decide (o.fmod 6<n)),σ.setE E):=by
 refine b_cmp (x:=V.int (o.fmod 6)) (σ':=σ.setE E) ?_ (LA (y:=V.int n) rfl rfl);refine(aA (σ':=σ.setE E) (a:=V.int o) ?_).trans rfl;show(match aN 229 E with|some v=>some (R.ok v,σ.setE E)|none=>none)=_;rw[h]
theorem xF(H:Nat->List bu)(a b:Int):GR H (.int a) (.int b)=some (decide (a=b)):=by
 rfl
theorem Ko(σ:St)(o x y:Int):(run pt (m+5)).b (.cmp (.bin .mod (.bin .fdiv (.loc 229) (.k (.int 6))) (.k (.int 3))) [.eq] [(.k (.int 2))]) (σ.setE (dE o x y))=some (.ok (decide ((o.fdiv 6).fmod 3=2)),σ.setE (dE o x y)):=
 b_cmp (x:= .int ((o.fdiv 6).fmod 3)) rfl (LA (y:= .int 2) rfl (xF σ.heap _ _))
theorem FU(h:Inv g σ):itemOf σ.heap (.obj 40 0) (.str [108,97,115,116])=some (.tup [.str (aU g.lk),g.lv]):=by
 show(nth (σ.heap 40) 0).bind _=_
 rw[show nth (σ.heap 40) 0=_ from(h.ent (X:=gw) (Y:=b6) (I:=bz) (show aQ (gens (.any 1) g.ts) 40 0=some (.dict none 1 (nX (iS 1) (.any 2) (.any 1)))from by
  rcases h.tsv with e|e<;>rw[e]<;>rfl))]
 rfl
theorem L7:∀j,j<25->∃c r,aU j=c::r/\decide (c=63)=isQ j/\(∀e,fh j=some e->r=aU e):=by
 intro j hj;have:(nZ.all λj=>match aU j with| []=>false|c::r=>(decide (c=63)==isQ j)&&(match fh j with|some e=>uq r (aU e)|none=>true))=true:=by decide+kernel
 rw[X7]at this;have h:=this j ((show∀a,a<25->a∈nZ from by decide) j hj);cases e:aU j with
 |nil=>rw[e]at h;exact nf h
 |cons c r=>
  rw[e]at h;have h:=X5.mp h;refine(aZ c r rfl (zaj.mp h.1) (λe he=>?_));have h2:=h.2;rw[he]at h2;exact ib.mp h2
theorem Oh:(nZ.all λj=>eK (xZ GP) 30 187 [sN j] (gens (.any 1) 25) (.bool (aS j)))=true:=by decide+kernel
theorem vM(h:Inv g σ)(bR:g.ts=25)(hj:j<25)(hm:30<=m):∃σ',(run pt m).c 187 [.str (aU j)] σ=some (.ok (.bool (aS j)),σ')/\Inv g σ'/\σ'.env=σ.env:=by
 have ck:=Oh;rw[X7]at ck;exact dT (X:=gw) (Y:=b6) (I:=bz) h bR (uO (bd:= []) (i1:= []) (op:= []) (vl:= []) J J J J) (ck j ((show∀a,a<25->a∈nZ from by decide) j hj)) hm
theorem HM(h:Inv g σ)(bR:g.ts=25)(hsz:g.bx.length+g.ce.length<=59){i j:Nat}(hi:i<g.N)(hj:j<25)(hq:i=0->isQ j=false)(hm:60<=m):xT g ((run pt m).c 216 [.obj 40 0, .str (aU j), .int (i:Int)] σ)/\∀z,aS j=false->xT g ((run pt m).c 220 [.obj 40 0, .str (aU j), .int (i:Int), .int z] σ):=by
 by_cases h4:i<4
 ·exact⟨C1 h bR h4 hj hq hm,λz hr=>za h bR h4 hj hq hr z hm⟩
 ·obtain⟨q,rfl⟩:∃q,i=q+4:=⟨i - 4,(Zu (Nat.le_of_not_lt ‹_›)).symm⟩;obtain⟨b,hb⟩:∃b,nth g.bx q=some b:=⟨_,by rw[cO];exact Zi (Xl hi)⟩
  (refine(show(((q+4:Nat):Int))=(q:Int)+4 from rfl).symm ▸?_)
  exact⟨C0 h bR hb hj hm,λz hr=>yZ h bR hsz hb hj hr z hm⟩
end
section
variable{g:Gh}{σ σ':St}{m:Nat}
def wR(n:Nat):List Sm:=ja.body.drop n
theorem rm.of(h:rm g1 g')(hc:g1.c=g.c)(hs:g1.sc=g.sc)(hb:g1.bx=g.bx)(he:g1.ce=g.ce):g'.c=g.c/\g'.sc=g.sc/\g'.at_=g1.at_/\g'.ts=25/\g'.bx.length+g'.ce.length<=g.bx.length+g.ce.length+1/\g.bx.length<=g'.bx.length:=
 (RZ (h.c.trans hc) (h.sc.trans hs) (h.at_) (h.ts) (by have:=h.siz;rw[hb,he]at this;exact this) (by have:=h.mon;rw[hb]at this;exact this))
theorem aR(h:aN x E=some v):(run pt (m+1)).e (.loc x) (σ.setE E)=some (.ok v,σ.setE E):=by
 show(match aN x E with|some v=>some (R.ok v,σ.setE E)|none=>none)=_;rw[h]
theorem gy(h:ih.e e σ=some (.ok v,σ')):kK ih [e] σ=some (.ok [v],σ'):=aA h
theorem fJ(h:ih.e e σ=some (.ok v,σ'))(k:kK ih r σ'=some (.ok vs,dp)):kK ih (e::r) σ=some (.ok (v::vs),dp):=(aA h).trans (aA k)
theorem eh(ha:(run pt m).e a σ=some (.ok x,σ'))(hb:(run pt m).e b σ'=some (.ok y,dp))(h:itemOf dp.heap x y=some v):(run pt (m+1)).e (.sub a b) σ=some (.ok v,dp):=by
 refine(aA ha).trans ((aA hb).trans ?_);show M.opt (itemOf dp.heap x y) dp=_;rw[h];rfl
theorem DJ(ha:(run pt (m+1)).e a σ=some (.ok x,σ'))(k:M.slice s x (.int 1) .none σ'=r):(run pt (m+2)).e (.slice s a (some (.k (.int 1))) none) σ=r:=by
 show M.bind ((run pt (m+1)).e a) (λx=>M.bind (GQ (run pt (m+1)) (some (.k (.int 1)))) λl=>M.bind (GQ (run pt (m+1)) none) λh=>M.slice s x l h) σ=r;rw[aA ha];exact k
theorem Ch(ha:(run pt m).b a σ=some (.ok true,σ'))(hb:(run pt m).b b σ'=some (.ok t,dp)):(run pt (m+1)).b (.and [a,b]) σ=some (.ok t,dp):=by
 refine(aA ha).trans ((aA hb).trans ?_);cases t<;>rfl
theorem Kr(ha:(run pt m).b a σ=some (.ok false,σ')):(run pt (m+1)).b (.and (a::r)) σ=some (.ok false,σ'):=(aA ha).trans rfl
theorem Ow(ha:(run pt m).b a σ=some (.ok true,σ')):(run pt (m+1)).b (.or (a::r)) σ=some (.ok true,σ'):=(aA ha).trans rfl
theorem Ov(ha:(run pt m).b a σ=some (.ok false,σ'))(hb:(run pt m).b b σ'=some (.ok t,dp)):(run pt (m+1)).b (.or [a,b]) σ=some (.ok t,dp):=by
 refine(aA ha).trans ((aA hb).trans ?_);cases t<;>rfl
theorem Gf(H:Nat->List bu)(ha:rl a=true)(hb:rl b=true):GR H (.str a) (.str b)=some (decide (a=b)):=by
 have sh:∀l,rl l=true->SeqAt.shaped (.str ⟨l.toArray⟩)=true:=by
  intro l h;unfold SeqAt.shaped;rw[mD h];rfl
 show gD (SeqAt.shaped (.str ⟨a.toArray⟩)&&SeqAt.shaped (.str ⟨b.toArray⟩)) (some (PyData.eqv (.str ⟨a.toArray⟩) (.str ⟨b.toArray⟩)))=_;rw[sh a ha,sh b hb];refine Yd some ?_;show((⟨a.toArray⟩:Str)==⟨b.toArray⟩)=_;by_cases e:a=b
 ·subst e;rw[YI rfl];simp
 ·rw[YS e];cases q:((⟨a.toArray⟩:Str)==⟨b.toArray⟩)with
  |false=>rfl
  |true=>
   have:=eq_of_beq q;injection this with this;exact absurd (by simpa using this) e
theorem Nb(j:Nat)(hj:j<25)(H:Nat->List bu):∃c r,aU j=c::r/\GR H (.str [c]) (.str [63])=some (isQ j):=by
 refine a9 (L7 j hj) λc r hn hq _=>?_;have hc:=hZ j;rw[hn,s3,Ye]at hc;refine(gz c r hn ?_);rw[Gf H (by rw[s3,hc.1];rfl) rfl,<-hq];refine Yd some ?_;by_cases e:c=63
 ·rw[YI e,YI (by rw[e])]
 ·rw[YS e,YS (by intro h;injection h with h _;exact e h)]
theorem N3(h:Inv g σ)(bR:g.ts=25)(hb:1<=g.bx.length)(hsz:g.bx.length+g.ce.length<=59)(o x y:Int)(hm:60<=m):∃σ' g',execs (run pt (m+8)) (wR 3) (σ.setE (dE o x y))=some (.ok (.ret (.bool true)),σ')/\Inv g' σ'/\rm g g':=by
 let z0:=dE o x y
 have c1:=HH (m:=m+4) σ z0 o 2 rfl;refine cY (decide (o.fmod 6<2)) (λq1=>?_) λq1=>?_
 ·
  rw[q1]at c1;have c2:=Ko (m:=m+1) σ o x y;refine cY (decide ((o.fdiv 6).fmod 3=2)) (λq2=>?_) λq2=>?_
  ·
   rw[q2]at c2;have hl:=FU h;refine a9 (qq (σ:=σ.setE z0) h.setE bR hsz h.las.2 (m:=m+4) (Yr ‹_› (Ym _ _))) λσ' g' e1 i1 n1=>?_;exact(aZ σ' g' (ff (dB c1 (ff (dB c2 (ff (j7 (bW (fJ (aR rfl) (fJ (eh (eh (aR rfl) rfl hl) rfl rfl) (gy (eh (eh (aR rfl) rfl hl) rfl rfl)))) e1))))))) i1 n1)
  ·
   rw[q2]at c2;have LD:x.fmod 25<25:=Y4 _ ak;refine hg λcg kg=>?_;obtain⟨n,hn⟩:∃n:Nat,x.fmod 25=(n:Int):=⟨_,(YR (YK _ ak)).symm⟩;have yu:n<25:=KF hn LD;refine cT (wZ (σ:=σ.setE (putN 188 (.str (aU n)) z0)) h.setE bR yu y (m:=m+4) (Yr ‹_› (Ym _ _))) λv σ1 hv e0 i0 v0=>?_;refine a9 (qq i0 bR hsz hv (m:=m+5) (Yr ‹_› (Ym _ _))) λσ' g' e1 i1 n1=>?_;refine kg ?_;refine(aZ σ' g' (ff (dB c1 ((bq (dB c2 rfl)).trans ((bq (fe (v:= .str (aU n)) (σ':=σ.setE z0) ?_)).trans (ff (j7 (bW (fJ (σ':=σ.setE (putN 188 (.str (aU n)) z0)) (aR rfl) (fJ (aR rfl) (gy (bW (fJ (aR rfl) (fJ (aR rfl) (gy (aR rfl)))) e0)))) e1))))))) i1 n1);exact eh (x:= .tup (GI.map .str)) (y:= .int (n:Int)) (σ':=σ.setE z0) rfl (by(refine(hn) ▸?_);rfl) (Nc yu _)
 ·
  rw[q1]at c1;refine hg λcg kg=>?_;refine cT (FC (σ:=σ.setE z0) h.setE bR hb x (m:=m+6) (Yr ‹_› (Ym _ _))) λi σ1 hi e1 i1 v1=>?_;refine cT (Gz (σ:=σ1.setE (putN 203 (.int (i:Int)) z0)) i1.setE bR hi y (m:=m+6) (Yr ‹_› (Ym _ _))) λj dz hj e2 i2 v2=>?_
  refine a8 ((show∃j',j'<25/\(i=0->isQ j'=false)/\(run pt (m+8)).s (.ite (.and [(.cmp (.loc 203) [.eq] [(.k (.int 0))]),(.cmp (.sub (.loc 188) (.k (.int 0))) [.eq] [(.k (.str [63]))])]) [(.asg (.loc 188) (.slice 32 (.loc 188) (some (.k (.int 1))) none))] []) (dz.setE (putN 188 (.str (aU j)) dz.env))=some (.ok .next,dz.setE (putN 188 (.str (aU j')) (putN 203 (.int (i:Int)) z0)))from by
   (refine(v2).symm ▸?_)
   have Lu:(run pt (m+6)).b (.cmp (.loc 203) [.eq] [(.k (.int 0))]) (dz.setE (putN 188 (.str (aU j)) (putN 203 (.int (i:Int)) z0)))=some (.ok (decide ((i:Int)=0)),dz.setE (putN 188 (.str (aU j)) (putN 203 (.int (i:Int)) z0))):=
    b_cmp (x:= .int (i:Int)) (aR rfl) (LA (y:= .int 0) rfl (xF dz.heap _ _))
   by_cases Qc:(i:Int)=0
   ·rw[YI Qc]at Lu;refine a9 (L7 j hj) λc r hn X0 hr=>?_;have O2:(run pt (m+6)).b (.cmp (.sub (.loc 188) (.k (.int 0))) [.eq] [(.k (.str [63]))]) (dz.setE (putN 188 (.str (aU j)) (putN 203 (.int (i:Int)) z0)))=some (.ok (isQ j),dz.setE (putN 188 (.str (aU j)) (putN 203 (.int (i:Int)) z0))):=by
     refine bS (Nb j hj dz.heap) λc' r' Wn Io=>?_;exact b_cmp (x:= .str [c']) (eh (x:= .str (aU j)) (aR rfl) rfl (by(refine(Wn).symm ▸?_);rfl)) (LA (y:= .str [63]) rfl Io)
    refine uu (isQ j) (λhq=>?_) λhq=>?_
    ·
     rw[hq]at O2;refine(aM j hj (λ_=>hq) (dB (b:=false) (Ch Lu O2) rfl))
    ·
     rw[hq]at O2;obtain⟨e,he⟩:∃e,fh j=some e:=by
      unfold isQ at hq;refine dJ (fh j) (λq=>?_) λe q=>?_
      ·rw[q]at hq;exact nf hq
      ·rw[q];exact⟨e,rfl⟩
     have To:=by
      have:∀j,j<25->∀e,e∈nZ->fh j=some e->e<25/\isQ e=false:=by decide
      exact this j hj e ((show∀j,j<25->∀e,fh j=some e->e∈nZ from by
       intro j hj e he;have:∀j,j<25->(match fh j with|some e=>nZ.any λx=>Nat.beq x e|none=>true)=true:=by decide
       have:=this j hj;rw[he]at this;rw[zax]at this
       (refine U this λz hz ez=>?_;clear this)
       (refine(aB.mp ez) ▸?_);exact hz) j hj e he) he
     refine(aM e (To.1) (λ_=>To.2) (dB (b:=true) (Ch Lu O2) ?_));refine(bq (σ':=dz.setE (putN 188 (.str (aU e)) (putN 203 (.int (i:Int)) z0))) (fe (v:= .str (aU e)) (σ':=dz.setE (putN 188 (.str (aU j)) (putN 203 (.int (i:Int)) z0))) ?_)).trans rfl
     (refine(hr e he) ▸?_;refine(hn).symm ▸?_)
     refine DJ (x:= .str (c::r)) (σ':=dz.setE (putN 188 (.str (c::r)) (putN 203 (.int (i:Int)) z0))) (aR rfl) ?_;show(match jq (some 1) none (c::r).length with|true=>M.pure (V.str (cutL (some 1) none (c::r)))|false=>M.fail) _=_
     (refine((show jq (some 1) none (c::r).length=true from by
      have:(c::r).length<=4:=by
       (refine(hn) ▸?_);exact(show∀j,j<25->(aU j).length<=4 from by decide) j hj
      show(Nat.ble (c::r).length ay&&(Nat.ble 1 1&&Nat.ble 1 (c::r).length))=true;rw[Y2 (by exact Yc ‹_› ak),Y2 (by simp:1<=(c::r).length)];rfl)).symm ▸?_);rfl
   ·rw[YS Qc]at Lu;exact(aM j hj (λe=>absurd (by rw[e];rfl) Qc) (dB (b:=false) (Kr Lu) rfl)))) λj' Lq Ln e3=>?_
  obtain⟨E,hE⟩:∃E,E=putN 188 (.str (aU j')) (putN 203 (.int (i:Int)) z0):=⟨_,rfl⟩;rw[<-hE]at e3;have rF:aN 188 E=some (.str (aU j')):=by rw[hE];rfl
  have c4:=HH (m:=m+3) dz E o 4 (by rw[hE];rfl);refine a8 (vM (σ:=dz.setE E) i2.setE bR Lq (m:=m+4) (Yc ak (Nat.le_add_right_of_le hm))) λxU e4 i4 v4=>?_;have go:∀{b:Bool} {τ:St},τ.env=E->Inv g τ->(run pt (m+7)).b (.or [(.cmp (.bin .mod (.loc 229) (.k (.int 6))) [.lt] [(.k (.int 4))]),(.call 187 [(.loc 188)])]) (dz.setE E)=some (.ok b,τ)->(b=false->aS j'=false)->∃σ' g',execs (run pt (m+8)) (wR 7) (dz.setE E)=some (.ok (.ret (.bool true)),σ')/\Inv g' σ'/\rm g g':=by
   intro b τ Te SZ hb WJ;cases b with
   |true=>
    obtain⟨σ',g',e5,i5,n5⟩:=(HM SZ bR hsz hi Lq Ln (m:=m+5) (Yr ‹_› (Ym _ _))).1;refine⟨σ',g',ff (dB hb (ff (j7 (bW (σ':=τ) (fJ (σ':=τ) ?_ (fJ (σ':=τ) ?_ (gy ?_))) e5)))),i5,n5⟩<;>(refine((fD Te)).symm ▸?_)
    ·exact aR (by rw[hE];rfl)
    ·exact aR rF
    ·exact aR (by rw[hE];rfl)
   |false=>
    obtain⟨σ',g',e5,i5,n5⟩:=(HM SZ bR hsz hi Lq Ln (m:=m+6) (Yr ‹_› (Ym _ _))).2 (o.fdiv 6) (WJ rfl);refine⟨σ',g',(bq (dB hb rfl)).trans (ff (j7 (bW (σ':=τ) (fJ (σ':=τ) ?_ (fJ (σ':=τ) ?_ (fJ (σ':=τ) ?_ (gy ?_)))) e5))),i5,n5⟩<;>(refine((fD Te)).symm ▸?_)
    ·exact aR (by rw[hE];rfl)
    ·exact aR rF
    ·exact aR (by rw[hE];rfl)
    ·refine(aA (a:= .int o) (σ':=τ.setE E) ?_).trans rfl;exact aR (by rw[hE];rfl)
  refine a9 ((by
   refine cY (decide (o.fmod 6<4)) (λq4=>?_) λq4=>?_
   ·rw[q4]at c4;exact go (τ:=dz.setE E) rfl i2.setE (Ow c4) (λh=>nomatch h)
   ·rw[q4]at c4;exact go v4 i4 (Ov c4 (by
   refine(aA (a:= .bool (aS j')) (σ':=xU) ?_).trans ?_
   ·exact bW (gy (aR rF)) e4
   ·rfl)) id)) λσ' g' e5 i5 n5=>?_
  refine kg ?_;exact(aZ σ' g' ((show∀r,execs (run pt (m+8)) (wR 7) (dz.setE E)=r->execs (run pt (m+8)) (wR 3) (σ.setE z0)=r from by
   intro r hr;refine(bq (dB c1 rfl)).trans ((bq (fe (bW (fJ (aR rfl) (gy (aR rfl))) e1))).trans ?_);rw[v1];refine(bq (fe (bW (fJ (aR rfl) (fJ (aR rfl) (gy (aR rfl)))) e2))).trans ?_;exact(bq e3).trans hr) _ e5) i5 n5)
end
section
variable{g:Gh}{σ:St}{m:Nat}
theorem DT(h:Inv g σ)(bR:g.ts=25)(hb:1<=g.bx.length)(hsz:g.bx.length+g.ce.length<=59)(ha:g.at_<=390)(hm:60<=m):∃σ' g',(run pt (m+9)).c 228 [.obj 40 0] σ=some (.ok (.bool true),σ')/\Inv g' σ'/\σ'.env=σ.env/\g'.c=g.c/\g'.sc=g.sc/\g'.at_=g.at_+3/\g'.ts=25/\g'.bx.length+g'.ce.length<=g.bx.length+g.ce.length+1/\g.bx.length<=g'.bx.length:=by
 refine hg λcg kg=>?_;refine a9 (qu (σ:=σ.setE [(185, .obj 40 0)]) h.setE bR (YL ‹_› ak) (m:=m+6) (Yr ‹_› (Ym _ _))) λo σ1 e1 i1 v1=>?_;refine a9 (qu (σ:=σ1.setE [(185, .obj 40 0),(229, .int o)]) i1.setE bR (by exact ZW ‹_› ak) (m:=m+6) (Yr ‹_› (Ym _ _))) λx dz e2 i2 v2=>?_;refine a9 (qu (σ:=dz.setE [(185, .obj 40 0),(229, .int o),(223, .int x)]) i2.setE bR (YL (Zk (Zk ha 1) 1) ak) (m:=m+6) (Yr ‹_› (Ym _ _))) λy xU e3 i3 v3=>?_;refine a9 (N3 i3 bR hb hsz o x y hm) λσ' g' e4 i4 n4=>?_;refine kg ?_;have n:=n4.of (g:=g) rfl rfl rfl rfl;refine⟨σ'.setE σ.env,g',IZ (fn:=ja) (env:= [(185, .obj 40 0)]) rfl rfl ?_,i4.setE,rfl,n.1,n.2.1,n.2.2.1.trans ((Zy ..).trans (Zy ..)),n.2.2.2⟩;refine(bq (fe (bW (gy (aR rfl)) e1))).trans ?_;rw[v1];refine(bq (fe (bW (gy (aR rfl)) e2))).trans ?_;rw[v2];refine(bq (fe (bW (gy (aR rfl)) e3))).trans ?_;rw[v3];exact e4
end
def rB(r:Option SV)(f:jZ):Bool:=jZ.rec (Option.rec true (λ_=>false) r) (λv=>Option.rec false (λu=>v.beq u) r) f
def ry(F:Fx)(n:Nat)(l:List Sm)(es:bw)(env:List (Nat×SV))(r:Option SV)(yx:List (Nat×SV))(post:bw)(cn:List (Nat×Nat)):Bool:=O.rec false (λf S=>rB r f&&Lv S.env yx&&EO post cn S&&EG S) (λ_ _ _ _ _=>false) (dC (pd F n) l (um es env))
theorem jY.e0(h:jY ρ F (aI.setE e) S σ):jY ρ F aI S σ:=⟨h.env,h.at_,h.cnt,h.fx,h.ro,h.inj,h.fr,h.len⟩
theorem jY.e1(h:jY ρ F aI S σ):jY ρ F (aI.setE e) S σ:=⟨h.env,h.at_,h.cnt,h.fx,h.ro,h.inj,h.fr,h.len⟩
theorem uv.e0(h:uv ρ F (aI.setE e)):uv ρ F aI:={h with
 l0:=h.l0
 ca:=λp hp q hq S σ hs j2 m hm=>by
  refine U (h.ca p hp q hq S σ hs.e1 j2 m hm) λσ' e1 e2=>?_;exact(al σ' e1 (e2.e0))}
def IH(ρ:Ro)(r:Option SV):Fl:=match r with|none=> .next|some v=> .ret (ah ρ v)
theorem w9{es post:bw}(hf:dZ ρ F σ)(he:σ.env=bG ρ env)(h1:∀s j o,aQ es s j=some o->nth (σ.heap s) (ρ.ix s j)=some (aC ρ o))(h2:∀s j k a b,aQ es s j=some a->aQ es s k=some b->ρ.ix s j=ρ.ix s k->j=k)(hm:n<=m)(cy:ry F n l es env r yx post cn=true):∃σ',execs (run pt m) l σ=some (.ok (IH ρ r),σ')/\σ'.env=bG ρ yx/\Ao ρ F σ σ' post cn:=by
 have:=cJ hf (jv hf n m hm) l _ _ (wH hf.l0 he h1 h2);unfold ry at cy;cases e:dC (pd F n) l (um es env)with
 |no=>rw[e]at cy;exact nf cy
 |ex b s j c S=>rw[e]at cy;exact nf cy
 |ok f S=>
  rw[e]at cy this
  (refine U this λσ' e1 iD=>?_;clear this)
  rw[Ye,Ye,Ye]at cy;obtain⟨⟨⟨k1,k2⟩,k3⟩,k4⟩:=cy;have ev:dS ρ f=IH ρ r:=by
   cases f with
   |next=>cases r with
    |none=>rfl
    |some u=>exact nf k1
   |ret v=>cases r with
    |none=>exact nf k1
    |some u=>
     rw[beq_eq k1];rfl
  obtain⟨g1,g2⟩:=xH k3;refine⟨σ',by(refine(ev) ▸?_);exact e1,by rw[iD.env,pJ k2],λp hp q hq=>iD.at_ _ _ _ (g1 p hp q hq),λp hp h4=>?_,λs hw i o h=>iD.ro s hw i o h,λs h8 i o h hn=>iD.fr s i o h λj hj=>?_⟩
  ·refine U (g2 p hp) λL l1 l2=>?_;rw[iD.cnt _ L l1 h4,l2,hf.l0]
  ·have hi:=k4;unfold EG at hi;rw[X7]at hi;have hi:=hi s (by rcases h8 with rfl|rfl<;>simp);rw[fk.get_def]at hj;refine dJ (S.hp.get s) (λeL=>?_) λL eL=>?_
   ·rw[eL]at hj;exact absurd rfl hj
   ·
    rw[eL]at hi hj;refine dJ (bK j L.es) (λej=>?_) λo' ej=>?_
    ·exact absurd ej hj
    ·
     rw[X7]at hi;have:=hi _ (aX ej);rw[Zd]at this;rcases this with h0|h0
     ·have h0:j=0:=aB.mp h0
      (refine(h0).symm ▸?_);exact hn
     ·have rt:1000<=j:=Yg h0;obtain⟨k,rfl⟩:∃k,j=1000+k:=⟨j - 1000,(ZI ‹_›).symm⟩;rw[hf.nw,hf.l0];exact Y9 (ZK k (bo h))
def SQ:Tr Nat:=uG 9 1 [(18,4),(55,1),(56,1),(57,1),(58,1),(59,1)]
def zT(tu:SV)(f:Fs):Fx:={lu tu f with mo:=SQ}
theorem Db:jk (λs v=>(Nat.beq v 1||Nat.beq v 4)&&(Nat.beq s 18||(Nat.ble 55 s&&Nat.ble s 59))) SQ=true:=by decide+kernel
section
variable{g:Gh}{σ σ':St}{X:Nat->Int}{Y:Nat->V}{I:Nat->Nat->Nat}
theorem wI(s:Nat):xW (md (zT tu f) s)=false/\((s=4\/s=8\/s=9\/s=12)->md (zT tu f) s=0):=by
 rcases md_all (F:=zT tu f) (p:=λs v=>(Nat.beq v 1||Nat.beq v 4)&&(Nat.beq s 18||(Nat.ble 55 s&&Nat.ble s 59))) Db s with e|e
 ·(refine(e).symm ▸?_);exact⟨rfl,λ_=>rfl⟩
 ·rw[Ye,Zd]at e;refine⟨by rcases e.1 with e|e<;>(refine(aB.mp e).symm ▸?_)<;>rfl,λh=>?_⟩;rcases h with rfl|rfl|rfl|rfl<;>exact nf (e.2)
theorem A6(s:Nat)(h:md (zT tu f) s≠4):ip s=false:=by
 cases e:ip s with
 |false=>rfl
 |true=>
  have:=aB.mp e;subst this;exact absurd rfl h
theorem TG(h:Inv g σ)(eH:ah (Z g σ X Y I) tu= .bool g.c.tu)(k:fu g (Z g σ X Y I) f):uv (Z g σ X Y I) (zT tu f) σ:=
 uv.e0 (e:= []) (let F:=Qr h eH k
 {F with
  ca:=λp hp q hq S σ' hs j2 m hm=>by
   refine iQ (jx j2) λa l e1=>?_;have yc:=wy h eH (hs.at_ _ _ _ e1) λs i o hh ho=>hs.ro s (wI s).1 i o ho;have hp:p∈ [(197,f.tg),(191,f.vl),(56,f.cu)]:=hp;simp only[X9,Yl,YG]at hp;rcases hp with rfl|rfl|rfl
   ·exact gv (k.tg q hq) A6 (Yv 22) hs yc m hm
   ·exact gv (k.vl q hq) A6 (Yv 22) hs yc m hm
   ·exact gv (k.cu q hq) A6 (Yv 22) hs yc m hm})
theorem gT(h:Inv g σ)(bR:g.ts=25)(eH:ah (Z g σ X Y I) tu= .bool g.c.tu)(k:fu g (Z g σ X Y I) f)(Qb:iM ex=true)(hex:∀p∈ex,∀q∈p.2,nth (σ.heap p.1) ((Z g σ X Y I).ix p.1 q.1)=some (aC (Z g σ X Y I) q.2)){env yx:List (Nat×SV)}{r:Option SV}(he:σ.env=bG (Z g σ X Y I) env)(cy:ry (zT tu f) 60 l (ux tu++ex++gens (.any 1) 25) env r yx [] uD=true)(hm:60<=m):∃σ',execs (run pt m) l σ=some (.ok (IH (Z g σ X Y I) r),σ')/\σ'.env=bG (Z g σ X Y I) yx/\Inv g σ':=by
 refine a8 (w9 (TG h eH k).ok he (λs j o ho=>by
  refine(gW ho).elim (λq=>?_) λh1=>?_
  ·(refine U q λl h1 h2=>?_;try clear q);rcases Yq.mp h1 with h1|h1
   ·simp only[ux,X8,YQ]at h1
    (refine de h1 λq1 q2=>?_;clear h1;subst q1;subst q2)
    simp only[X8,YQ]at h2;obtain⟨rfl,rfl⟩:=h2
    refine(h.ent (X:=X) (Y:=Y) (I:=I) (show aQ (gens (.any 1) g.ts) 40 0=some (.dict none 1 (nX (iS 1) (.any 2) (.any 1)))from by
  rcases h.tsv with e|e<;>rw[e]<;>rfl)).trans (Yd some ?_)
    simp only[aC,gI,nX,dc,(show ah (Z g σ X Y I) (.any 1)=ah (Z g σ X Y I) tu from by rw[eH];rfl)]
   ·exact hex _ h1 _ h2
  ·exact h.ent (by(refine(bR).symm ▸?_);exact h1)) (gS (by rw[eo,eo,Qb,jE (.inl rfl)];rfl)) hm cy) λσ' e1 e2 R=>?_
 refine(aM σ' e1 e2 ?_)
 exact((h.ext (show LI (λs=> !(Nat.beq s 4||Nat.beq s 8||Nat.beq s 9||Nat.beq s 12)) σ (σ'.setE σ.env)from by
  refine⟨rfl,λs i o ho=>R.ro s (wI s).1 i o ho,λs hs=>?_,λs=>?_⟩
  ·have hs:(Nat.beq s 4||Nat.beq s 8||Nat.beq s 9||Nat.beq s 12)=true:=by
    have hs:=hs;cases q:(Nat.beq s 4||Nat.beq s 8||Nat.beq s 9||Nat.beq s 12)with
    |true=>rfl
    |false=>rw[q]at hs;exact ng hs
   simp only[Zd,aB]at hs
   exact R.cn (s,0) (by
    rcases hs with((rfl|rfl)|rfl)|rfl<;>decide) (by rw[(wI s).2 (or_assoc.mp (or_assoc.mp hs))];decide)
  ·rcases Nat.lt_or_ge (σ'.heap s).length (σ.heap s).length with kW|hge
   ·skip;refine eY ((show∃o,nth (σ.heap s) (σ'.heap s).length=some o from⟨_,by rw[cO];exact Zi kW⟩)) λo ho=>?_;have:=bo (R.ro s (wI s).1 _ o ho);exact absurd ‹_› (Zh _)
   ·exact hge) (λs hs=>by rcases hs with rfl|rfl|rfl|rfl<;>rfl)).setE (e:=σ'.env):Inv g ((σ'.setE σ.env).setE σ'.env))
end
def Mn:Sm->List Sm
 | .for _ _ b=>b
 |_=> []
def uI:List Sm:=Mn (br.body.getD 2 .hole)
def Eu:List Sm:=Mn (br.body.getD 3 .hole)
def eE(i:SV):List (Nat×SV):= [(185,w0),(84, .obj 41 0),(134, .obj 38 0),(203,i)]
def eF(i n a b:SV):List (Nat×SV):= [(185,w0),(84, .obj 41 0),(134, .obj 38 0),(203,i),(188,n),(101,a),(123,b)]
def eG(i n a b c v:SV):List (Nat×SV):= [(185,w0),(84, .obj 41 0),(134, .obj 38 0),(203,i),(188,n),(101,a),(123,b),(128,c),(63,v)]
def fX(k:Nat):Fs:=⟨(20,(4,100))::(21,(25,400))::GU 0, [(iS 20,sN k)], [(iS 20,vS 0 k)],(iS 20,iS 20)::Ae 0 k,(iS 20,iS 21)::Ad 0 k, [(iS 20, .obj 4 0)], [(iS 21, .obj 9 0)], [], [],uy 0 k, [], []⟩
def Pt(k:Nat)(tu:Bool):Bool:=ry (zT (nj (Nat.beq k 4) tu) (fX k)) 60 uI (ux (nj (Nat.beq k 4) tu)++nH k tu++gens (.any 1) 25) (eF (iS 20) (.any 12) (.any 13) (.any 14)) none (eF (iS 20) (sN k) (.obj 4 0) (.obj 9 0)) [] uD
def fZ(i:Nat):Fs:=⟨[], [(cS i, .str (PK i))], [(cS i, .none)], [(cS i,cS i)], [(cS i,cS (oA i))], [(cS i, .obj 4 0)], [(cS (oA i), .obj 9 0)], [], [], [], [], []⟩
def II(i:Nat):bw:=(53, [(i - 1, .list .nil [])])::(match i with|1=> [(13, [(0, .list .nil [dm (cS 4) (cS 0)])])]|2=> [(11, [(0, .list .nil [.tup [cS 8, .str []]])])]|_=> [(13, [(1, .list .nil [dm (cS 4) (cS 0)])])])
def Ps(i:Nat)(e:List (Nat×SV)):Bool:=ry (zT (.any 1) (fZ i)) 60 uI (ux (.any 1)++(rA i++II i)++gens (.any 1) 25) e none (eF (cS i) (.str (PK i)) (.obj 4 0) (.obj 9 0)) [] uD
def RN(k e:Nat)(tu:Bool):bw:= [(9, [(0,GD (iS 21) k (.obj 12 0) (.any 3))]),(12, [(0, .list .nil [jf tu (iC k) (dm (cS 1) (iS 50)) (tS 0 e tu)])])]
def fC(e:Nat):Fs:=⟨GU 0, [], [],Ae 0 e,Ad 0 e, [], [(iS 21, .obj 9 0)], [], [],uy 0 e, [], []⟩
def Vn(k e:Nat)(tu:Bool):Bool:=ry (zT (.bool tu) (fC e)) 60 Eu (ux (.bool tu)++RN k e tu++gens (.any 1) 25) (eG (.any 12) (sN k) (.any 13) (.any 14) (iS 21) (.tup [iS 50,vS 0 e])) none (eG (.any 12) (sN k) (.any 13) (.any 14) (iS 21) (.tup [iS 50,vS 0 e])) [] uD
def fN:Fs:={GP with bd:= [(30,(0,100))],op:= [(0, [((.int 2 (-1),iS 30),iS 4)])]}
def Sn(e:List (Nat×SV)):Bool:=ry ({zT (.any 1) fN with bl:=(5,iS 30)::KZ}) 60 (br.body.drop 4) (ux (.any 1)++gens (.any 1) 25) e (some (.bool true)) e [] uD
theorem Of:(gG.all λk=>Pt k false&&(!Nat.beq k 4||Pt k true))=true:=by decide+kernel
theorem Oe:(Ps 1 (eE (cS 1))&&Ps 2 (eF (cS 2) (.any 12) (.any 13) (.any 14))&&Ps 3 (eF (cS 3) (.any 12) (.any 13) (.any 14)))=true:=by decide+kernel
theorem Od:([(7,0),(8,1),(9,4),(10,17),(11,6)].all λp=>bL.all λtu=>Vn p.1 p.2 tu)=true:=by decide+kernel
theorem Og:(Sn (eF (.any 11) (.any 12) (.any 13) (.any 14))&&Sn (eG (.any 11) (.any 12) (.any 13) (.any 14) (.any 15) (.any 16)))=true:=by decide+kernel
section
variable{g:Gh}{σ σ':St}{m:Nat}
noncomputable def vE (i:V):List (Nat×V):= [(185, .obj 40 0),(84, .obj 41 0),(134, .obj 38 0),(203,i)]
noncomputable def vF (i n a b:V):List (Nat×V):= [(185, .obj 40 0),(84, .obj 41 0),(134, .obj 38 0),(203,i),(188,n),(101,a),(123,b)]
noncomputable def vG (i n a b c v:V):List (Nat×V):= [(185, .obj 40 0),(84, .obj 41 0),(134, .obj 38 0),(203,i),(188,n),(101,a),(123,b),(128,c),(63,v)]
theorem DV(h:Inv g σ)(bR:g.ts=25)(hb:nth g.bx i=some b)(he:σ.env=vF (.int ((i:Int)+4)) a1 a2 a3)(hm:60<=m):∃σ' b1 b2 b3,execs (run pt m) uI σ=some (.ok .next,σ')/\Inv g σ'/\σ'.env=vF (.int ((i:Int)+4)) b1 b2 b3:=by
 refine I7 (vq h hb) λt l se fj hT hC=>?_;have C:=hC [] [] [] [.none,a1,a2,a3];have ck:=Of;rw[X7]at ck;have ck:=X5.mp (ck b.k (h.box i b hb).nm)
 refine a8 ((show∃tu,Pt b.k tu=true/\(Nat.beq b.k 4=true->tu=g.c.tu)/\(b.k=4->tu=g.c.tu)from by
  refine uu (Nat.beq b.k 4) (λq=>?_) λq=>?_
  ·(refine(q).symm ▸?_);exact(aM false (ck.1) ((λe=>nomatch e)) (λe=>absurd (aB.mpr e) (by rw[q];decide)))
  ·
   rw[q]at ck;cases e:g.c.tu with
   |false=>exact(aM false (ck.1) (λ_=>rfl) (λ_=>rfl))
   |true=>exact(aM true (ck.2) (λ_=>rfl) (λ_=>rfl)))) λtu cy t1 t2=>?_
 refine a8 (gT h bR (fK t1) (show fu g (Z g σ (XC i b l [] [] []) (YC se fj [.none,a1,a2,a3]) (IC i b)) (fX b.k)from {
  bd:=λp hp=>by
   rcases X9.mp hp with rfl|hp
   ·exact C.b20
   rcases X9.mp hp with rfl|hp
   ·exact C.b21
   exact C.O.bd p hp
  i1:=ac C.i1 J
  i2:=ac C.i2 J
  i3:=ac C.i3 C.O.i3
  i4:=ac C.i4 C.O.i4
  i6:=ac C.i6 J
  d1:=ac C.d1 J
  op:=J
  eq:=J
  tg:=C.O.tg
  vl:=J
  cu:=J}) (kc C (tu:=tu) t2).1 (kc C (tu:=tu) t2).2 (env:=eF (iS 20) (.any 12) (.any 13) (.any 14)) (by rw[he];rfl) cy hm) λσ' e1 e2 i1=>?_
 refine(AJ σ' (.str (aU b.k)) (.obj 4 (i+3)) (.obj 9 b.th) e1 i1 (e2.trans ?_));rfl
theorem C2(h:Inv g σ)(bR:g.ts=25){i:Nat}(hi:i=1\/i=2\/i=3)(he:(i=1/\σ.env=vE (.int (i:Int)))\/(i≠1/\∃a1 a2 a3,σ.env=vF (.int (i:Int)) a1 a2 a3))(hm:60<=m):∃σ' b1 b2 b3,execs (run pt m) uI σ=some (.ok .next,σ')/\Inv g σ'/\σ'.env=vF (.int (i:Int)) b1 b2 b3:=by
 obtain⟨a1,a2,a3,Io⟩:∃a1 a2 a3,(i=1/\σ.env=vE (.int (i:Int)))\/(i≠1/\σ.env=vF (.int (i:Int)) a1 a2 a3):=by
  rcases he with h|⟨h,a1,a2,a3,e⟩
  ·exact(b7 (.none) (.none) (.none) (.inl h))
  ·exact(b7 a1 a2 a3 (.inr ⟨h,e⟩))
 refine iQ (kn h (i:=i) (Re hi)) λse fj hf=>?_;obtain⟨ho,fs⟩:=hf gw [.none,a1,a2,a3];have F:=fs 0 false false false;have fz:fu g (Z g σ gw (YC se fj [.none,a1,a2,a3]) (IQ σ i)) (fZ i):=by
  (clear hf fs;rcases hi with rfl|rfl|rfl)<;>exact⟨F.bd,F.i1,F.i2,F.i3,F.i4,F.i6,F.d1,F.op,F.eq,F.tg,F.vl,F.cu⟩
 have ex:=dF ho (show iM (II i)=true/\∀p∈II i,∀r∈p.2,nth (σ.heap p.1) ((Z g σ gw (YC se fj [.none,a1,a2,a3]) (IQ σ i)).ix p.1 r.1)=some (aC (Z g σ gw (YC se fj [.none,a1,a2,a3]) (IQ σ i)) r.2)from by
  have ts:=h.ts;rcases hi with rfl|rfl|rfl<;>refine⟨rfl,ac (ac ?_ J) (ac (ac ?_ J) J)⟩
  ·exact h.sl 0 ak
  ·exact ts.1
  ·exact h.sl 1 ak
  ·exact ts.2.2
  ·exact h.sl 2 ak
  ·exact ts.2.1)
 have ck:=Oe;rw[Ye,Ye]at ck;rcases hi with rfl|rfl|rfl
 ·have he:=Io.resolve_right (λe=>e.1 rfl);refine a8 (gT h bR rfl fz ex.1 ex.2 (env:=eE (cS (1:Nat))) he.2 ck.1.1 hm) λσ' e1 e2 i1=>?_;exact(AJ σ' _ _ _ e1 i1 e2)
 ·skip;refine a8 (gT h bR rfl fz ex.1 ex.2 (env:=eF (cS (2:Nat)) (.any 12) (.any 13) (.any 14)) (Io.resolve_left (λe=>nomatch e.1)).2 ck.1.2 hm) λσ' e1 e2 i1=>?_;exact(AJ σ' _ _ _ e1 i1 e2)
 ·skip;refine a8 (gT h bR rfl fz ex.1 ex.2 (env:=eF (cS (3:Nat)) (.any 12) (.any 13) (.any 14)) (Io.resolve_left (λe=>nomatch e.1)).2 ck.2 hm) λσ' e1 e2 i1=>?_;exact(AJ σ' _ _ _ e1 i1 e2)
theorem ec(h1:assign ih t v σ=some (.ok (),σ1))(h2:execs ih b σ1=some (.ok .next,dz))(h3:cy dz=some (.ok (),xU)):bX ih cy t b (v::r) σ=bX ih cy t b r xU:=
 (aA h1).trans ((aA h2).trans (aA h3))
def MD(i:Nat)(e:List (Nat×V)):Prop:=(i=1/\e= [(185, .obj 40 0),(84, .obj 41 0),(134, .obj 38 0)])\/i≠1/\∃a0 a1 a2 a3,e=vF a0 a1 a2 a3
theorem sL(h:Inv g σ)(bR:g.ts=25)(hm:60<=m){i:Nat}(h1:1<=i)(hi:i<g.N)(he:MD i σ.env):∃σ' b1 b2 b3,execs (run pt m) uI (σ.setE (putN 203 (.int (i:Int)) σ.env))=some (.ok .next,σ')/\Inv g σ'/\σ'.env=vF (.int (i:Int)) b1 b2 b3:=by
 by_cases h4:4<=i
 ·obtain⟨q,rfl⟩:∃q,i=q+4:=⟨i - 4,(Zu h4).symm⟩;rcases he with⟨e,_⟩|⟨_,a0,a1,a2,a3,e⟩
  ·exact absurd (zag e) (Nat.succ_ne_zero _)
  ·(refine(e).symm ▸?_);exact DV (σ:=σ.setE _) h.setE bR ((cO ..).trans (Zi (ZM (n:=4) (YU q 4 ▸ hi)))) (a1:=a1) (a2:=a2) (a3:=a3) rfl hm
 ·refine C2 (σ:=σ.setE _) h.setE bR ((by decide:∀i,i<4->1<=i->i=1\/i=2\/i=3) i (Nat.lt_of_not_le h4) h1) ?_ hm;rcases he with⟨rfl,e⟩|⟨uo,a0,a1,a2,a3,e⟩
  ·left;refine⟨rfl,?_⟩;(refine(e).symm ▸?_);rfl
  ·right;refine⟨uo,a1,a2,a3,?_⟩;(refine(e).symm ▸?_);rfl
theorem Nk(bR:g.ts=25)(hm:60<=m)(n:Nat):∀(i:Nat) (σ:St),i+(n+1)=g.N->1<=i->Inv g σ->MD i σ.env->∃σ' b0 b1 b2 b3,bX (run pt m) (M.pure ()) (.loc 203) uI (bi (i:Int) (n+1)) σ=some (.ok .next,σ')/\Inv g σ'/\σ'.env=vF b0 b1 b2 b3:=by
 induction n with
 |zero=>
  intro i σ hN h1 h he;refine MA (sL h bR hm h1 (hN ▸ Z5 i) he) λσ1 b1 b2 b3 e1 i1 v1=>?_;exact⟨σ1,_,_,_,_,ec (σ1:=σ.setE (putN 203 (.int (i:Int)) σ.env)) rfl e1 rfl,i1,v1⟩
 |succ n ih=>
  intro i σ hN h1 h he;refine hg λcg kg=>?_;refine MA (sL h bR hm h1 (hN ▸ Nat.lt_add_of_pos_right (zaA _)) he) λσ1 b1 b2 b3 e1 i1 v1=>?_
  (refine cz (ih (i+1) σ1 ((Za i 1 _).trans hN) (zaA _) i1 (.inr ⟨Y9 (Nat.succ_lt_succ h1),_,_,_,_,v1⟩)) λdz c0 c1 c2 q=>?_;(refine a8 q λc3 e2 i2 v2=>?_;try clear q))
  refine kg ?_;exact⟨dz,c0,c1,c2,c3,(ec (σ1:=σ.setE (putN 203 (.int (i:Int)) σ.env)) rfl e1 rfl).trans e2,i2,v2⟩
theorem zI(h:Inv g σ)(bR:g.ts=25)(hb:b∈g.ce)(he:σ.env=vG a0 (.str (aU b.k)) a1 a2 (.int (Gh.adr b.th)) b.v)(hm:60<=m):∃σ',execs (run pt m) Eu σ=some (.ok .next,σ')/\Inv g σ'/\σ'.env=vG a0 (.str (aU b.k)) a1 a2 (.int (Gh.adr b.th)) b.v:=by
 have T:=h.cell b hb;have hq:=h.cq b hb;refine hg λcg kg=>?_;refine U (T.ts) λt ht zY=>?_;obtain⟨se,e9⟩:=T.thing;obtain⟨e,Io,Tp⟩:∃e,fh b.k=some e/\(b.k,e)∈ [(7,0),(8,1),(9,4),(10,17),(11,6)]:=by
  simp only[X9,Yl,YG]at hq;rcases hq with q|q|q|q|q<;>(refine(q).symm ▸?_)<;>exact(al _ rfl ak)
 (refine cZ (ht.q_inv Io) λbb w u hv q5 hw=>?_;subst q5)
 obtain⟨l,hl⟩:=og h.ok h.N100 (by
  exact(show∀p∈ [(7,0),(8,1),(9,4),(10,17),(11,6)],p.2∈gG from by decide) _ Tp) hw
 obtain⟨X,hX⟩:∃X,X=XC 0 ⟨0, .none,b.th⟩ l [] [] [0,0,0,0,0,0,0,0,0,0,bb]:=⟨_,rfl⟩
 let z0:=YC se .none [.none,a0,a1,a2]
 have G:=bk g σ X z0 (λs _=>match s with|9=>b.th|12=>b.th - 3|_=>0);have O:=hl (Z g σ X z0 (λs _=>match s with|9=>b.th|12=>b.th - 3|_=>0)) 0 G (by(refine(hX).symm ▸?_);exact Mz);have xV:(Z g σ X z0 (λs _=>match s with|9=>b.th|12=>b.th - 3|_=>0)).int 21=Gh.adr b.th:=by rw[hX];rfl
 have DZ:(Z g σ X z0 (λs _=>match s with|9=>b.th|12=>b.th - 3|_=>0)).int 50=bb:=by rw[hX];rfl
 have ck:=Od;rw[X7]at ck;have ck:=ck _ Tp;rw[X7]at ck
 refine a8 (gT h bR (tu:= .bool g.c.tu) rfl (⟨O.bd,J,J,O.i3,O.i4,J,ac (by rw[ae,xV];exact gU T.rng.2) J,J,J,O.tg,J,J⟩) (rfl) (ac (ac (by
   refine e9.trans (Yd some ?_)
   simp only[GD,aC,bG,lP,G.z,YV,ae,xV];rfl) J) (ac (ac (by
   refine zY.trans (Yd some ?_);simp only[aC,eD,dP,c8,Y1,eQ G,bT,au G,ae,DZ,O.t]) J) J)) (by rw[he,hv];simp only[eG,bG,iE,dP,c8,ae,xV,DZ,O.v];rfl) (ck g.c.tu (dX _)) hm) λσ' e1 e2 i1=>?_
 refine kg ?_;refine(aM σ' e1 i1 (e2.trans ?_));rw[hv];simp only[eG,bG,iE,dP,c8,ae,xV,DZ,O.v];rfl
end
section
variable{g:Gh}{σ σ':St}{m:Nat}
theorem Ap(h:Inv g σ)(hk:aO (.str l) (dc (Z g σ gw b6 bz) (nX (iS 1) (.any 2) (.any 1)))=some v):itemOf σ.heap (.obj 40 0) (.str l)=some v:=by
 show(nth (σ.heap 40) 0).bind _=_
 (refine(show nth (σ.heap 40) 0=_ from(h.ent (X:=gw) (Y:=b6) (I:=bz) (show aQ (gens (.any 1) g.ts) 40 0=some (.dict none 1 (nX (iS 1) (.any 2) (.any 1)))from by
  rcases h.tsv with e|e<;>rw[e]<;>rfl))).symm ▸?_)
 exact hk
theorem s8(h:Inv g σ):σ.get 49 0=some (.list g.cellsL):=by
 exact(h.ent (X:=gw) (Y:=b6) (I:=bz) (show aQ (gens (.any 1) g.ts) 49 0=some (.list (.var 5) [])from by
  rcases h.tsv with e|e<;>rw[e]<;>rfl)).trans (Yd some (Yd bu.list (Yt _)))
theorem DH(h:Inv g σ):σ.get 45 0=some (.list g.exactL):=by
 exact(h.ent (X:=gw) (Y:=b6) (I:=bz) (show aQ (gens (.any 1) g.ts) 45 0=some (.list (.var 1) [])from by
  rcases h.tsv with e|e<;>rw[e]<;>rfl)).trans (Yd some (Yd bu.list (Yt _)))
def RM(b:Bx):V:= .tup [.int (Gh.adr b.th), .str (aU b.k),b.v]
def vk(e:List (Nat×V)):Prop:=(∃a b c d,e=vF a b c d)\/∃a b c d f k,e=vG a b c d f k
theorem qm(h:σ.get s i=some o):M.bind (M.get s i) f σ=f o σ:=by
 unfold M.bind M.get
 (refine(h).symm ▸ rfl)
theorem Nj(bR:g.ts=25)(hm:60<=m):∀(r:List Bx) (σ:St),(∀b∈r,b∈g.ce)->Inv g σ->vk σ.env->∃σ',bX (run pt m) (jn 49 0 g.cellsL) (.tup [128,188,63]) Eu (r.map RM) σ=some (.ok .next,σ')/\Inv g σ'/\vk σ'.env:=by
 intro r
 induction r with
 |nil=>intro σ _ h he;exact(aM σ rfl h he)
 |cons b r ih=>
  intro σ hr h he
  let z0:=Gh.adr b.th
  refine hg λcg kg=>?_;obtain⟨a0,a1,a2,Rq⟩:∃a0 a1 a2,putN 63 b.v (putN 188 (.str (aU b.k)) (putN 128 (.int z0) σ.env))=vG a0 (.str (aU b.k)) a1 a2 (.int z0) b.v:=by
   rcases he with⟨a,b',c,d,e⟩|⟨a,b',c,d,f,k,e⟩<;>(refine(e).symm ▸?_)<;>exact(b7 a c d rfl)
  refine a8 (zI (σ:=σ.setE (vG a0 (.str (aU b.k)) a1 a2 (.int z0) b.v)) h.setE bR (hr b (.head _)) rfl hm) λσ1 e1 i1 v1=>?_;refine a8 (ih σ1 (λx hx=>hr x (.tail _ hx)) i1 (.inr ⟨_,_,_,_,_,_,v1⟩)) λdz e2 i2 v2=>?_
  refine kg ?_;refine(aM dz ((ec (σ1:=σ.setE (vG a0 (.str (aU b.k)) a1 a2 (.int z0) b.v)) ?_ e1 (by
   refine(qm (s8 i1)).trans ?_;show M.gd (V.beqs g.cellsL g.cellsL) _ σ1=_;rw[V.beqs_self];rfl)).trans e2) i2 v2)
  (refine(Rq) ▸?_);rfl
theorem qp(h:p σ=some (.ok a,σ')):M.calm p σ=some (.ok a,σ'):=by
 unfold M.calm;rw[h]
theorem len_list(h:σ.get s i=some (.list vs))(hl:vs.length<=1000):M.len (.obj s i) σ=some (.ok (.int (vs.length:Nat)),σ):=by
 refine(qm h).trans ?_;show M.gd (Nat.ble vs.length ay) _ σ=_
 (refine(Y2 (show vs.length<=ay from hl)).symm ▸?_);rfl
theorem BH(h1:kK (run pt m) args σ=some (.ok vs,σ'))(h2:f0 vs=some l)(h3:bX (run pt m) (M.pure ()) t b l σ'=some (.ok .next,dp)):(run pt (m+1)).s (.for t (.range args) b) σ=some (.ok .next,dp):=by
 show M.bind (kK (run pt m) args) (λvs=>M.of (f0 vs) λl=>M.calm (bX (run pt m) (M.pure ()) t b l)) σ=_;rw[aA h1,h2];exact qp h3
theorem Jt(h1:(run pt m).e e σ=some (.ok (.obj s i),σ'))(h2:σ'.get s i=some (.list vs))(hl:vs.length<=1000)(h3:bX (run pt m) (jn s i vs) t b vs σ'=some (.ok .next,dp)):(run pt (m+1)).s (.for t (.over e) b) σ=some (.ok .next,dp):=by
 refine(aA h1).trans ?_;refine(qm h2).trans ?_;show M.gd (Nat.ble vs.length ay) (M.calm (bX (run pt m) (jn s i vs) t b vs)) σ'=_
 (refine(Y2 (show vs.length<=ay from hl)).symm ▸?_)
 exact qp h3
theorem zi(h:Inv g σ)(bR:g.ts=25)(he:vk σ.env)(hm:60<=m):∃σ',execs (run pt m) (br.body.drop 4) σ=some (.ok (.ret (.bool true)),σ'):=by
 have hsz:=h.siz;have WD:=h.cnt;have ck:=Og;rw[Ye]at ck;have go:∀yl env,σ.env=bG (Z g σ (o8 [0,0,0,0,0,0,0,0,0,0,(g.ce.length:Nat)]) (YC .none .none yl) bz) env->ry ({zT (.any 1) fN with bl:=(5,iS 30)::KZ}) 60 (br.body.drop 4) (ux (.any 1)++gens (.any 1) 25) env (some (.bool true)) env [] uD=true->∃σ',execs (run pt m) (br.body.drop 4) σ=some (.ok (.ret (.bool true)),σ'):=by
  intro yl env lT cy;obtain⟨X,hX⟩:∃X,X=o8 [0,0,0,0,0,0,0,0,0,0,(g.ce.length:Nat)]:=⟨_,rfl⟩;rw[<-hX]at lT
  refine U (w9 (show uv (Z g σ X (YC .none .none yl) bz) ({zT (.any 1) fN with bl:=(5,iS 30)::KZ}) σ from let F:=TG h (tu:= .any 1) rfl (uO (i1:= []) (vl:= []) (ac (by(refine((show(Z g σ X (YC .none .none yl) bz).int 30=(g.ce.length:Nat)from by rw[hX];rfl)).symm ▸?_);exact rg (Yc (ZF ..) (Yc hsz ak))) J) J (ac (ac (by
   intro o ho;cases o<;>first|(cases ho;done)|skip
   rw[ae,ae,(show(Z g σ X (YC .none .none yl) bz).int 30=(g.ce.length:Nat)from by rw[hX];rfl)];show some (V.int ((g.N:Int)+ -1+(g.ce.length:Nat)))=some (V.int (g.n:Int));exact Yd (λx=>some (V.int x)) (XD WD)) J) J) J)
   {F with
    bl:=ac (by rw[ae,(show(Z g σ X (YC .none .none yl) bz).int 30=(g.ce.length:Nat)from by rw[hX];rfl)];exact Yd (λn:Nat=>V.int (n:Int)) (im g).symm) (Cd g)
    ca:=λp hp q hq S σ' hs j2 m hm=>by
     refine iQ (jx j2) λa l e1=>?_;have hp:p∈ [(197,fN.tg),(191,fN.vl),(56,fN.cu)]:=hp;simp only[X9,Yl,YG]at hp;rcases hp with rfl|rfl|rfl<;>cases hq}).ok lT (λs j o ho=>by
   refine(gW ho).elim (λq=>?_) λh1=>?_
   ·(refine U q λl h1 h2=>?_;try clear q);simp only[ux,X8,YQ]at h1
    obtain⟨rfl,rfl⟩:=h1;simp only[X8,YQ]at h2;obtain⟨rfl,rfl⟩:=h2
    exact h.ent (by
   rcases h.tsv with e|e<;>rw[e]<;>rfl)
   ·exact h.ent (by(refine(bR).symm ▸?_);exact h1)) (gS (by rw[eo,jE (.inl rfl)];rfl)) hm cy) λσ' e1 _=>?_
  exact⟨σ',e1⟩
 refine he.elim (λq=>?_) λq=>?_
 ·(refine cz q λa b c d e=>?_;try clear q);exact go [a,b,c,d] (eF (.any 11) (.any 12) (.any 13) (.any 14)) e ck.1
 ·(refine cz q λa b c d q=>?_;(refine iQ q λf k e=>?_;try clear q));exact go [a,b,c,d,f,k] (eG (.any 11) (.any 12) (.any 13) (.any 14) (.any 15) (.any 16)) e ck.2
theorem tm(h:Inv g σ)(bR:g.ts=25)(hm:60<=m):∃σ',(run pt (m+9)).c 246 [.obj 40 0] σ=some (.ok (.bool true),σ'):=by
 have hsz:=h.siz;refine hg λcg kg=>?_;obtain⟨E,hE⟩:∃E,E=([(185, .obj 40 0),(84, .obj 41 0),(134, .obj 38 0)]:List (Nat×V)):=⟨_,rfl⟩
 (refine cz (Nk (g:=g) bR (m:=m+7) (Yr ‹_› (Ym _ _)) (g.N - 2) 1 (σ.setE E) (XB _) (Yv 1) h.setE (.inl ⟨rfl,hE⟩)) λσ1 b0 b1 b2 q=>?_;(refine a8 q λb3 e1 i1 v1=>?_;try clear q))
 refine a8 (Nj (g:=g) bR (m:=m+7) (Yr ‹_› (Ym _ _)) g.ce σ1 (λ_ h=>h) i1 (.inl (My _ _ _ _ v1))) λdz e2 i2 v2=>?_;obtain⟨xU,e3⟩:=zi i2 bR v2 (m:=m+8) (Yr ‹_› (Ym _ _));refine kg ?_;refine⟨xU.setE σ.env,IZ (m:=m+8) (fn:=br) (env:= [(185, .obj 40 0)]) rfl rfl ?_⟩;refine(bq (fe (eh (x:= .obj 40 0) (y:= .str [101,118]) (v:= .obj 41 0) (σ':=σ.setE [(185, .obj 40 0)]) rfl rfl (Ap (σ:=σ.setE [(185, .obj 40 0)]) h.setE rfl)))).trans ?_;refine(bq (fe (eh (x:= .obj 40 0) (y:= .str [109]) (v:= .obj 38 0) (σ':=σ.setE [(185, .obj 40 0),(84, .obj 41 0)]) rfl rfl (Ap (σ:=σ.setE [(185, .obj 40 0),(84, .obj 41 0)]) h.setE rfl)))).trans ?_;change execs (run pt (m+8)) (.for (.loc 203) (.range [(.k (.int 1)),(.len (.sub (.loc 185) (.k (.str [101,120,97,99,116]))))]) uI:: .for (.tup [128,188,63]) (.over (.sub (.loc 185) (.k (.str [99,101,108,108,115])))) Eu::br.body.drop 4) (σ.setE [(185, .obj 40 0),(84, .obj 41 0),(134, .obj 38 0)])=_
 (refine(hE) ▸?_)
 have hN:g.N - 1=g.N - 2+1:=XA _
 refine(bq (BH (σ:=σ.setE E) (σ':=σ.setE E) (fJ (rfl) (gy (show(run pt (m+7)).e (.len (.sub (.loc 185) (.k (.str [101,120,97,99,116])))) (σ.setE E)=some (.ok (.int ((g.exactL.length:Nat):Int)),σ.setE E)from(aA (eh (x:= .obj 40 0) (y:= .str [101,120,97,99,116]) (σ':=σ.setE E) (by(refine(hE).symm ▸?_);rfl) rfl (Ap (σ:=σ.setE E) h.setE rfl))).trans (len_list (σ:=σ.setE E) (DH (σ:=σ.setE E) h.setE) (by rw[fG];exact Yc h.N100 ak))))) ((show f0 [.int 1, .int ((g.exactL.length:Nat):Int)]=some (bi 1 (g.N - 1))from by
  rw[fG];show(match cA 1&&cA (g.N:Int)with|true=>some (bi 1 ((g.N:Int) - 1).toNat)|false=>none)=_
  rw[(show cA (g.N:Int)=true from by
   unfold cA;rw[Ye,Zf,Zf];exact Sv h.N100),show((g.N:Int) - 1).toNat=g.N - 1 from Int.toNat_sub _ 1];rfl).trans (Yd (λn=>some (bi 1 n)) hN)) e1)).trans ?_
 refine(bq (Jt (eh (x:= .obj 40 0) (y:= .str [99,101,108,108,115]) (σ':=σ1) (by
  rw[fD v1];rfl) rfl (Ap i1 rfl)) (s8 i1) (by rw[im];exact Yc (Yc (ZF ..) hsz) ak) e2)).trans e3
end
structure An where
 int:List (Nat×Int)
 any:List (Nat×SV)
 atom:List (Nat×List Nat)
 base:List (Nat×List SV)
 db:List (Nat×List (SV×SV))
 len:List (Nat×Nat)
section
variable(T:An)
mutual
def nz:SV->SV
 | .int x c=>match bK x T.int with|some v=> .int 0 (v+c)|none=> .int x c
 | .any n=>match bK n T.any with|some v=>v|none=> .any n
 | .atom n=>match bK n T.atom with|some l=> .str l|none=> .atom n
 | .obj s j=>match Nat.ble 1000 j with
  |true=>match bK s T.len with|some n=>(match Nat.blt (n+(j - 1000)) 1000 with|true=> .obj s (n+(j - 1000))|false=> .obj s j)|none=> .obj s j
  |false=> .obj s j
 | .tup vs=> .tup (Aa vs)
 |v=>v
def Aa:List SV->List SV
 | []=> []
 |v::r=>nz v::Aa r
end
theorem VH(x:Nat)(c:Int):nz T (.int x c)=match bK x T.int with|some v=> .int 0 (v+c)|none=> .int x c:=rfl
theorem VG(n:Nat):nz T (.any n)=match bK n T.any with|some v=>v|none=> .any n:=rfl
theorem VF(n:Nat):nz T (.atom n)=match bK n T.atom with|some l=> .str l|none=> .atom n:=rfl
theorem VE(s j:Nat):nz T (.obj s j)=match Nat.ble 1000 j with
  |true=>match bK s T.len with|some n=>(match Nat.blt (n+(j - 1000)) 1000 with|true=> .obj s (n+(j - 1000))|false=> .obj s j)|none=> .obj s j
  |false=> .obj s j:=rfl
theorem VD(vs:List SV):nz T (.tup vs)= .tup (Aa T vs):=rfl
def Ab:List (Nat×SV)->List (Nat×SV)
 | []=> []
 |p::r=>(p.1,nz T p.2)::Ab r
def Ib:List (SV×SV)->List (SV×SV)
 | []=> []
 |p::r=>(nz T p.1,nz T p.2)::Ib r
def rf:SO->SO
 | .inst c fs=> .inst c (Ab T fs)
 | .list b vs=>match b with
  | .nil=> .list .nil (Aa T vs)
  | .var b=>match bK b T.base with|some l=> .list .nil (l++Aa T vs)|none=> .list (.var b) (Aa T vs)
  |b=> .list b (Aa T vs)
 | .dict b k es=>match b with
  |none=> .dict none k (Ib T es)
  |some b=>match bK b T.db,es with|some l, []=> .dict none k l|_,_=> .dict (some b) k (Ib T es)
 | .gone c fs=> .gone c (Ab T fs)
 | .caught c fs=> .caught c (Ab T fs)
def KE:bw->bw
 | []=> []
 |p::r=>(p.1,p.2.map λq=>(q.1,rf T q.2))::KE r
end
def dq(g:Gh)(X:Nat->Int)(len:Nat->Nat):Ro:={Z g ⟨λ_=> [], []⟩ X b6 bz with ix:=λs j=>if 1000<=j then len s+(j - 1000)else j,len0:=len}
noncomputable abbrev ul (g:Gh) (X:Nat->Int):Ro:=dq g X λ_=>0
structure rH(ρ:Ro)(T:An):Prop where
 z:ρ.int 0=0
 int:∀x v,bK x T.int=some v->ρ.int x=v
 any:∀x v,bK x T.any=some v->ρ.val x=ah ρ v
 atom:∀x v,bK x T.atom=some v->ρ.str x=v
 base:∀x l,bK x T.base=some l->ρ.base x=ax ρ l
 db:∀x l,bK x T.db=some l->ρ.dbase x=dc ρ l
 len:∀s n k,bK s T.len=some n->n+k<1000->ρ.ix s (1000+k)=ρ.ix s (n+k)
section
variable{ρ:Ro}{T:An}(h:rH ρ T)
include h
theorem j9(v:SV):ah ρ (nz T v)=ah ρ v:=by
 refine SV.rec (motive_1:=λv=>ah ρ (nz T v)=ah ρ v) (motive_2:=λv=>ax ρ (Aa T v)=ax ρ v) rfl (λ_=>rfl) ?_ (λ_=>rfl) ?_ ?_ ?_ (λ_=>rfl) (λ_ _=>rfl) ?_ rfl ?_ v
 ·intro x c;dsimp only[VH];cases e:bK x T.int with
  |none=>rfl
  |some v=>
   show V.int (ρ.int 0+(v+c))=V.int (ρ.int x+c);rw[h.z,h.int x v e,YV]
 ·intro n;dsimp only[VF];cases e:bK n T.atom with
  |none=>rfl
  |some l=>simp only[Ec,Iw,h.atom n l e]
 ·intro vs i;dsimp only[VD,iE];rw[i]
 ·intro s j;dsimp only[VE];cases e:Nat.ble 1000 j with
  |false=>rfl
  |true=>
   dsimp only;cases e2:bK s T.len with
   |none=>rfl
   |some n=>
    obtain⟨k,rfl⟩:∃k,j=1000+k:=⟨j - 1000,(ZI (Yg e)).symm⟩;dsimp only;rw[Zc];cases e3:Nat.blt (n+k) 1000 with
    |false=>rfl
    |true=>
     simp only[ur];rw[h.len s n k e2 (Yg e3)]
 ·intro n;dsimp only[VG];cases e:bK n T.any with
  |none=>rfl
  |some v=>exact(h.any n v e).symm
 ·intro v r i1 i2;dsimp only[Aa,c8];rw[i1,i2]
theorem lB(vs:List SV):ax ρ (Aa T vs)=ax ρ vs:=by
 induction vs with
 |nil=>rfl
 |cons v r i=>dsimp only[Aa,c8];rw[j9 h v,i]
theorem gb:∀fs:List (Nat×SV),bG ρ (Ab T fs)=bG ρ fs
 | []=>rfl
 |p::r=>by dsimp only[Ab,bG];rw[j9 h,gb r]
theorem xn:∀es:List (SV×SV),dc ρ (Ib T es)=dc ρ es
 | []=>rfl
 |p::r=>by dsimp only[Ib,dc];rw[j9 h,j9 h,xn r]
theorem mJ:∀es:List (SV×SV),over ρ (Ib T es) b=over ρ es b
 | []=>rfl
 |p::r=>by dsimp only[Ib,PB];rw[j9 h,j9 h,mJ r]
theorem p8(o:SO):aC ρ (rf T o)=aC ρ o:=by
 cases o with
 |inst c fs=>simp only[rf,aC];rw[gb h]
 |gone c fs=>simp only[rf,aC];rw[gb h]
 |caught c fs=>simp only[rf,aC];rw[gb h]
 |list b vs=>
  cases b with
  |nil=>simp only[rf,aC];rw[lB h]
  |set b i v=>simp only[rf,aC];rw[lB h]
  |var b=>
   dsimp only[rf];cases e:bK b T.base with
   |none=>simp only[aC];rw[lB h]
   |some l=>simp only[aC,eD,Y1,mP];rw[lB h,h.base b l e]
 |dict b k es=>
  cases b with
  |none=>simp only[rf,aC,gI];rw[xn h]
  |some b=>
   simp only[rf];cases e:bK b T.db with
   |none=>simp only[aC,gI];rw[mJ h]
   |some l=>
    cases es with
    |nil=>simp only[aC,gI,Vy];rw[h.db b l e]
    |cons _ _=>simp only[aC,gI];rw[mJ h]
end
theorem p9:∀{es:bw},aQ (KE T es) s j=some o->∃o',aQ es s j=some o'/\o=rf T o':=by
 intro es
 induction es with
 |nil=>intro h;cases h
 |cons p r ih=>
  intro h;have hl:∀l:List (Nat×SO),bK j (l.map λq=>(q.1,rf T q.2))=(bK j l).map (rf T):=by
   intro l
   induction l with
   |nil=>rfl
   |cons q l ih=>
    rw[Yn,bO,bO,ih];cases Nat.beq q.1 j<;>rfl
  unfold aQ at h⊢;dsimp only[KE]at h;rw[bO]at h⊢;cases e:Nat.beq p.1 s with
  |true=>
   rw[e]at h;have h:bK j (p.2.map λq=>(q.1,rf T q.2))=some o:=h;rw[hl]at h;refine dJ (bK j p.2) (λe2=>?_) λo' e2=>?_
   ·rw[e2]at h;exact nt h
   ·rw[e2]at h;obtain rfl:=Yi h;exact(al o' e2 rfl)
  |false=>
   rw[e]at h;exact ih h
def Ed:Al:=⟨λ_=>true,λ_=>true,λ_ j=>Nat.blt j 1000,λ_=>true⟩
theorem ET(g:Gh)(X:Nat->Int)(l l':Nat->Nat):GZ Ed (dq g X l) (dq g X l') where
 i _ _:=rfl
 a _ _:=rfl
 o s j h:=by
  have hj:=by have:=Yg h;exact ZU.mpr ‹_›
  show(if 1000<=j then _ else _)=(if 1000<=j then _ else _);rw[YM hj,YM hj]
 b _ _:=⟨rfl,rfl⟩
 s:=rfl
def PE(es:bw):Bool:=es.all λp=>p.2.all λq=>Nat.blt q.1 1000&&uz Ed q.2
structure Ak(g:Gh)(X:Nat->Int)(es:bw)(L:List (Nat×Nat))(σ:St):Prop where
 e:∀s j o,aQ es s j=some o->nth (σ.heap s) j=some (aC (ul g X) o)
 l:∀p∈L,(σ.heap p.1).length=p.2
def EI(S:fk)(L:List (Nat×Nat))(s j:Nat):Option SO:=match bK s L with|some n=>(match Nat.blt j n with|true=>S.get s j|false=>S.get s (1000+(j - n)))|none=>S.get s j
def La(T:An):Bool:=(T.any.all λp=>nY Ed p.2)&&(T.base.all λp=>yo Ed p.2)&&T.db.all λp=>p.2.all λq=>nY Ed q.1&&nY Ed q.2
def pc(F:Fx)(n:Nat)(l:List Sm)(T:An)(es:bw)(env:List (Nat×SV))(es':bw)(L':List (Nat×Nat))(AD:List (Nat×SV)):Bool:=La T&&PE es&&PE es'&&(env.all λp=>nY Ed p.2)&&(AD.all λp=>nY Ed p.2)&&O.rec false (λf S=>rB none f&&Lv (Ab T S.env) (Ab T AD)&&(es'.all λp=>p.2.all λq=>Option.rec false (λo=>(rf T o).beq (rf T q.2)) (EI S T.len p.1 q.1))&&L'.all λp=>Option.rec false (λl=>Option.rec false (λn=>Nat.beq (n+l.cnt) p.2&& !Nat.beq (md F p.1) 4) (bK p.1 T.len)) (S.hp.get p.1)) (λ_ _ _ _ _=>false) (dC (pd F n) l (um (KE T es) (Ab T env)))
theorem lA(h:PE es=true)(he:aQ es s j=some o):j<1000/\uz Ed o=true:=by
 have:=X5.mp (b9 (p:=λ_ q=>Nat.blt q.1 1000&&uz Ed q.2) h he);exact⟨Yg this.1,this.2⟩
theorem gL(g:Gh)(X:Nat->Int)(l:Nat->Nat)(h:j<1000):(dq g X l).ix s j=j:=by
 exact YM (ZU.mpr ‹_›)
theorem uZ(g:Gh)(X:Nat->Int)(l:Nat->Nat):(dq g X l).ix s (1000+k)=l s+k:=by
 show(if 1000<=1000+k then l s+(1000+k - 1000)else _)=_;rw[Ze (Ym _ _),Zc]
theorem MH{σ:St}(hI:rH (ul g X) {T with len:= []})(ok:La T=true)(hl:∀p∈T.len,(σ.heap p.1).length=p.2):rH (dq g X λs=>(σ.heap s).length) T where
 z:=hI.z
 int:=hI.int
 any x v e:=by
  unfold La at ok;rw[Ye,Ye,X7]at ok;exact(hI.any x v e).trans (d0 (ET g X _ _) (ok.1.1 _ (aX e)))
 atom:=hI.atom
 base x l e:=by
  unfold La at ok;rw[Ye,Ye,X7,X7]at ok;exact(hI.base x l e).trans (sy (ET g X _ _) (ok.1.2 _ (aX e)))
 db x l e:=by
  unfold La at ok;rw[Ye,X7 (l:=T.db)]at ok;exact(hI.db x l e).trans (xl (ET g X _ _) (ok.2 _ (aX e)))
 len s n k e hk:=by
  rw[uZ,gL g X _ hk,hl _ (aX e)]
theorem H6{F:Fx}{n m:Nat}{l:List Sm}{T:An}{env AD:List (Nat×SV)}(W:Ak g X es T.len σ)(hI:rH (ul g X) {T with len:= []})(hf:dZ (dq g X λs=>(σ.heap s).length) F σ)(he:σ.env=bG (ul g X) env)(cy:pc F n l T es env es' L' AD=true)(hm:n<=m):∃σ',execs (run pt m) l σ=some (.ok .next,σ')/\Ak g X es' L' σ'/\σ'.env=bG (ul g X) AD/\∀s,xW (md F s)=false->∀i o,nth (σ.heap s) i=some o->nth (σ'.heap s) i=some o:=by
 unfold pc at cy;simp only[Ye]at cy
 (refine de cy λq1 cy=>?_;obtain⟨⟨⟨⟨k0,k1⟩,k2⟩,k3⟩,k4⟩:=q1)
 have hT:=MH hI k0 W.l;have ag:=ET g X (λs=>(σ.heap s).length) λ_=>0
 have:=cJ hf (jv hf n m hm) l _ _ (show jY (dq g X λs=>(σ.heap s).length) F σ (um (KE T es) (Ab T env)) σ from by
  refine wH hf.l0 ?_ (λs j o ho=>?_) (λs j k a b ha hb e=>?_)
  ·rw[he,gb hT,jz ag k3]
  ·(refine U (p9 ho) λo' e1 q3=>?_;subst q3)
   have q:=lA k1 e1;rw[gL g X _ q.1,p8 hT,hU ag q.2];exact W.e s j o' e1
  ·refine U (p9 ha) λa' ea _=>?_;refine U (p9 hb) λb' eb _=>?_;rw[gL g X _ (lA k1 ea).1,gL g X _ (lA k1 eb).1]at e;exact e)
 cases e:dC (pd F n) l (um (KE T es) (Ab T env))with
 |no=>rw[e]at cy;exact nf cy
 |ex b s j c S=>rw[e]at cy;exact nf cy
 |ok f S=>
  rw[e]at cy this
  (refine U this λσ' e1 iD=>?_;clear this)
  rw[Ye,Ye,Ye]at cy;obtain⟨⟨⟨c1,c2⟩,c3⟩,c4⟩:=cy
  refine(AK σ' (by(refine((show dS (dq g X λs=>(σ.heap s).length) f= .next from by
   cases f with
   |next=>rfl
   |ret v=>exact nf c1)) ▸?_);exact e1) ⟨λs j o ho=>?_,λp hp=>?_⟩ ?_ (λs hw i o h=>iD.ro s hw i o h))
  ·have q:=lA k2 ho;have c:=b9 (p:=λs r=>Option.rec false (λo=>(rf T o).beq (rf T r.2)) (EI S T.len s r.1)) c3 ho;rw[<-hU ag q.2,<-p8 hT];refine dJ (EI S T.len s j) (λeg=>?_) λo1 eg=>?_
   ·
    have c:=c;rw[eg]at c;exact nf c
   ·
    have c:=c;rw[eg]at c;rw[<-SO.beq_eq c,p8 hT];unfold EI at eg;refine dJ (bK s T.len) (λen=>?_) λn en=>?_
    ·
     rw[en]at eg;have:=iD.at_ s j o1 eg;rw[gL g X _ q.1]at this;exact this
    ·
     rw[en]at eg;dsimp only at eg;refine cY (Nat.blt j n) (λeb=>?_) λeb=>?_
     ·
      rw[eb]at eg;have:=iD.at_ s j o1 eg;rw[gL g X _ q.1]at this;exact this
     ·
      rw[eb]at eg;have:=iD.at_ s _ o1 eg;have XZ:n<=j:=by
       rcases Nat.lt_or_ge j n with h|h
       ·exact absurd (show Nat.blt j n=true from Y2 h) (by rw[eb];decide)
       ·exact h
      rw[uZ,(W.l _ (aX en)),show n+(j - n)=j by exact ZI ‹_›]at this;exact this
  ·rw[X7]at c4;have c:=c4 p hp;refine dJ (S.hp.get p.1) (λeL=>?_) λl eL=>?_
   ·rw[eL]at c;exact nf c
   ·
    rw[eL]at c;refine dJ (bK p.1 T.len) (λen=>?_) λn en=>?_
    ·rw[en]at c;exact nf c
    ·
     rw[en]at c;have c:=c;rw[Ye]at c;rw[iD.cnt _ l eL (λe=>by rw[e]at c;exact absurd c.2 ak),<-aB.mp c.1];show(σ.heap p.1).length+l.cnt=n+l.cnt;rw[(W.l _ (aX en))]
  ·rw[iD.env,<-gb hT,pJ c2,gb hT,jz ag k4]
def gE(s:Nat):Nat×List (Nat×SO):=(s,Option.rec [] (λl=>l) (bK s (gens (.any 1) 121)))
noncomputable def Vo (t:SV):SO:= .inst 237 [(13,(.obj 75 0)),(38,t),(287,(.obj 77 0)),(279,(.obj 78 0)),(288,(.obj 79 0)),(289,(.obj 80 0)),(290,(.int 0 0))]
noncomputable def mO (k:SV):SO:= .inst 238 [(36,(.obj 37 0)),(13,(.obj 75 0)),(122,(.obj 39 0)),(244,k),(140,(.obj 111 0)),(308,(.obj 112 0)),(143,(.obj 113 0)),(234,(.obj 114 0)),(332,(.obj 115 0)),(351,(.obj 116 0)),(333,(.obj 117 0)),(352,(.obj 118 0)),(173,(.obj 119 0)),(135,(.int 0 0)),(212,(.obj 120 0)),(137,(.obj 121 0)),(305,(.obj 122 0)),(353,(.obj 123 0)),(307,(.obj 124 0)),(354,(.obj 125 0)),(355,(.obj 126 0))]
noncomputable def TK (k:SV):SO:= .inst 240 [(299,(.obj 38 0)),(36,(.obj 37 0)),(13,(.obj 75 0)),(90,(.obj 82 0)),(301,(.int 0 0)),(300,(.int 0 100)),(263,(.int 0 0)),(302,(.int 0 0)),(303,(.obj 83 0)),(127,(.int 0 0)),(304,(.obj 84 0)),(244,k),(305,(.obj 86 0)),(306,(.obj 88 0)),(307,(.obj 89 0)),(308,(.obj 90 0)),(309,(.obj 91 0)),(310,(.obj 92 0)),(311,(.obj 93 0)),(312,(.obj 94 0)),(313,(.obj 95 0)),(314,(.obj 96 0)),(315,(.obj 97 0)),(316, .none)]
def WP:SO:= .inst 239 [(90,(.obj 99 0)),(110,(.obj 100 0)),(125,cS 16),(323,(.int 0 4000)),(326,(.obj 101 0)),(324,(.int 0 3)),(130,cS 0),(327,(.int 0 1001)),(328,(.obj 102 0)),(329,(.obj 103 0)),(330,(.int 0 0)),(126,cS 0)]
def wT(n:Nat)(a:SV):SO:= .dict none 1 ((nX a (.any 2) (.any 1)).take n)
noncomputable def GS:List (Nat×SO):= [(0, .dict none 0 [])]
def lE(l:List SV):List (Nat×SO):= [(0, .list .nil l)]
def QA:bw:= [gE 33,gE 61,gE 75,gE 120,gE 121,gE 126,(42, [(0,TJ (.obj 105 0))])]
def PW:bw:= [(39, [(0,WP)]),(45,lE [.str []]),(46,lE [.none]),(47,lE [cS 0]),(48,lE [cS 0]),(49,lE []),(82,lE [.none]),(99,lE []),(100,GS)]
def TR:bw:= [(111,GS),(113,GS),(119,GS)]
def Iu(n:Nat)(a:SV):bw:=(40, [(0,wT n a)])::(37, [(0,Vo (.obj 76 0))])::(38, [(0,mO (.obj 110 0))])::(41, [(0,TK (.obj 85 0))])::(114,GS)::(TR++PW++QA)
def TO:bw:=gE 50::Iu 14 (iS 1)
def Qs:bw:=gE 50::Iu 15 (iS 1)
def TN:bw:=gE 50::(40, [(0,wT 15 (iS 1))])::gE 37::gE 34::gE 36::gE 114::(38, [(0,mO (.obj 110 0))])::(41, [(0,TK (.obj 85 0))])::(TR++PW++QA)
def TM(tu:Bool):bw:=gE 50::(40, [(0,wT 15 (iS 1))])::gE 37::gE 34::gE 36::gE 114::gE 38::gE 41::gE 14::gE 15::gE 16::gE 17::gE 119::(111,((qE tu).map (λp=>p.2)).headD [])::(rS tu,((qE tu).map (λp=>p.2)).getD 1 [])::gE 113::(PW++QA)
def IJ:bw:= [(4, [0,1,2].map λ(i:Nat)=>(i, .inst 91 [(89,cS (i+1)),(87,cS (oK (i+1))),(88, .obj 53 i),(93, .none),(140, .obj 81 i),(292,cS 0),(102,SG (i+1))])),(9, [0,1,2].map λ(i:Nat)=>(i, .inst 124 [(128,cS (oA (i+1))),(87,cS (SI (i+1))),(88,SH (i+1)),(321,cS 0),(129,cS 3),(127,cS (i+1))])),(53, [0,1,2].map λ(i:Nat)=>(i, .list .nil [])),(54, [(0, .inst 245 [(103, .tup [cS 16])])]),(13, [0,1].map λ(i:Nat)=>(i, .list .nil [dm (cS 4) (cS 0)])),(11, [(0, .list .nil [.tup [cS 8, .str []]])])]
def Eb(tu:Bool):bw:=gens (.any 1) 121++((111,((qE tu).map (λp=>p.2)).headD [])::(rS tu,((qE tu).map (λp=>p.2)).getD 1 [])::IJ)
def wp(x:List (Nat×SV)):List (Nat×SV):=(236, .obj 60 0)::(36, .obj 37 0)::(134, .obj 38 0)::(185, .obj 40 0)::x
def zL(l:List Nat):List (Nat×Nat):=l.map λs=>(s,0)
def yA:List Nat:=(List.range 127).filter λs=> !Nat.beq s 60
noncomputable def rE:List Nat:= [4,8,9,10,11,12,13,14,15,16,17,34,35,36,50,51,52,53,54,66,67,68,69,70,71,72,73,74,81]
def wt:An:=⟨[(1,1)], [(2, .tup [sN 0,cS 0])], [], [], [], []⟩
def Ie(w n:List Nat):Tr Nat:=uG 9 1 ((w.map λs=>(s,2))++(n.map λs=>(s,1)))
def zX(mo:Tr Nat):Fx:={bd:= [],bl:= [],it:= [],dt:= [],op:= [],eq:= [],le:= [],ca:= [],cf:=0,pre:=λ_=>true,mo:=mo}
def wB(i n:Nat):List Sm:=(bP.body.drop i).take n
def Vs:Bool:=pc (zX (Ie [] yA)) 85 (wB 0 3) {wt with len:=zL yA} [] [(236, .obj 60 0)] ((44,GS)::Iu 13 (cS 0)) (zL rE) (wp [])
def Pa(n:Bool):Fx:={zX (Ie [40] [])with bd:= [(21,match n with|true=>(1,1000)|false=>(0,0))],bl:= [(8,iS 21)],it:= [(8,match n with|true=> [(cS 0,iS 22)]|false=> [])]}
def K6(n:Bool):An:={wt with int:=match n with|true=> [(1,1)]|false=> [(1,1),(22,0)]}
def Pv(n:Bool):Bool:=pc (Pa n) 60 (wB 3 1) {K6 n with len:=zL rE} (OJ++Iu 13 (cS 0)) (wp []) (Iu 13 (iS 1)) (zL rE) (wp [(242,iS 22)])
def TF(ue:Nat)(u3:Option Nat):Fx:={zX (Ie [40] [50])with op:= [(3, [((iS 22,cS 8),iS 23),((iS 22,cS 16),iS 24)]),(4,((iS 22,cS 8),cS ue)::(match u3 with|none=> [((iS 23,cS 2),cS 0)]|some u=> [((iS 23,cS 2),cS 1),((iS 24,cS 8),cS u)]))]}
def KA(ue:Nat)(u3:Option Nat):List (Nat×List Nat):= [(1,aU ((nth kJ ue).getD 0)),(2,aU ((nth kJ (u3.getD ue)).getD 0))]
def OI(ue:Nat)(u3:Option Nat):Bool:=pc (TF ue u3) 60 (wB 4 2) {wt with atom:=KA ue u3,len:=zL rE} (Iu 13 (iS 1)) (wp [(242,iS 22)]) TO (zL (rE.filter λs=> !Nat.beq s 50)) (wp [(242,iS 22),(47, .atom 1)])
def TD(tu ka ks:Bool):Fx:={zX (Ie [40,44] [])with op:= [(3, [((iS 22,cS 128),iS 25),((iS 22,cS 256),iS 26),((iS 22,cS 512),iS 27)]),(4, [((iS 25,cS 2),b2 tu),((iS 26,cS 2),b2 ka),((iS 27,cS 2),b2 (!ks))])]}
def rT:List Nat:=rE.filter λs=> !Nat.beq s 50
def Sr(tu ka ks:Bool):Bool:=pc (TD tu ka ks) 60 (wB 6 3) {wt with any:= [(2, .tup [sN 0,cS 0]),(1, .bool tu)],len:=zL rT} ((44,GS)::TO) (wp [(242,iS 22),(47, .atom 1)]) (Me ka ks++Qs) (zL rT) (wp [(242,iS 22),(47, .atom 1)])
noncomputable def A1:List Nat:= [4,8,9,10,11,12,13,14,15,16,17,51,52,53,54,81]
def Pu(ue uf:Nat):Bool:=pc (zX (Ie [37,114] [34,35,36,66,67,68,69,70,71,72,73,74])) 60 (wB 9 1) {wt with int:= [(1,1),(6,iC ((nth kJ ue).getD 0)),(7,iC ((nth kJ uf).getD 0))],atom:=KA ue (some uf),len:=zL rT} Qs (wp [(242,iS 22),(47, .atom 1)]) TN (zL A1) (wp [(242,iS 22),(47, .atom 1)])
def Sj:List (List SV×SV):= [([w0,sN 0,cS 0],dm (cS 1) (cS 0)),([w0,sN 17,cS 0],dm (cS 1) (cS 0)),([w0,sN 2,cS 0],dm (cS 1) (cS 0)),([w0,sN 1,cS 0],dm (iS 8) (cS 0))]
def O9(tu:Bool):Fx:={zX (uG 9 1 [(38,2),(41,2),(119,2),(113,2),(111,2),(14,1),(15,1),(16,1),(17,1),(51,1),(52,1),(18,4)])with ca:= [(197,Sj)],cf:=22,pre:=EA (.bool tu)}
def KB(tu:Bool):An:={wt with any:=(2, .tup [sN 0,cS 0])::(1, .bool tu):: [23,24,25,26,27].map λi=>(i,Iz tu i)}
noncomputable def A0:List Nat:= [4,8,9,10,11,12,13,53,54,81]
def Sq(tu:Bool):Bool:=pc (O9 tu) 60 (wB 10 4) {KB tu with len:=zL A1} TN (wp [(242,iS 22),(47, .atom 1)]) (TM tu) (zL A0) (wp [(242,iS 22),(47, .atom 1),(188,sN 11),(16, .tup [cS 0])])
def OG(tu:Bool):An:={KB tu with int:= [(1,1),(2,4),(3,25),(4,3),(5,9)],any:=(9, .obj 105 0)::(KB tu).any,base:= [(1, [.str [],sN 13,sN 15,sN 13]),(2, [.none, .none, .none, .none]),(3, [cS 0,cS 1,cS 2,cS 3]),(4, [cS 0,cS 16,cS 19,cS 22]),(5, []),(6, [.none, .obj 4 0, .obj 4 1, .obj 4 2]),(7, [.obj 9 0, .obj 9 1, .obj 9 2])],db:= [(1, [(cS 16, .obj 9 0),(cS 19, .obj 9 1),(cS 22, .obj 9 2)])]}
def Sp(tu:Bool):Bool:=pc (zX (Ie [39,45,46,47,48,82,99,100] [4,9,10,11,12,13,53,54,81])) 60 (wB 14 3) {OG tu with len:=zL A0} (TM tu) (wp [(242,iS 22),(47, .atom 1),(188,sN 11),(16, .tup [cS 0])]) (Eb tu) [(4,3),(8,0),(9,3),(12,0)] (wp [(242,iS 22),(47, .atom 1),(188,sN 13),(16, .tup [cS 0])])
noncomputable def r8:List Nat:= [0,1,2,3,4,5,6,7]
theorem N9:Vs=true:=by decide+kernel
theorem N8:(Pv true&&Pv false)=true:=by decide+kernel
theorem N7:∀ue∈r8,(OI ue none&&r8.all λu=>OI ue (some u))=true:=by
 unfold r8;repeat' first|exact J|refine ac ?_ ?_|decide+kernel
theorem N6:(bL.all λtu=>bL.all λka=>bL.all λks=>Sr tu ka ks)=true:=by decide+kernel
theorem N5:∀ue∈r8,(r8.all λuf=>Pu ue uf)=true:=by
 unfold r8;repeat' first|exact J|refine ac ?_ ?_|decide+kernel
theorem N4:(bL.all λtu=>Sq tu&&Sp tu)=true:=by decide+kernel
def g0(c:Cf)(sc:List Int):Gh:=⟨c,sc,1, [], [],3,0, .int 0,121,0,105,0⟩
section
variable{c:Cf}{sc:List Int}{X:Nat->Int}{σ:St}
theorem wE(g:Gh)(X:Nat->Int)(l:Nat->Nat):rv g (dq g X l):=⟨rfl,rfl,rfl,rfl⟩
theorem GE{T:An}{ρ:Ro}(z:ρ.int 0=0)(h1:∀p∈T.int,ρ.int p.1=p.2)(h2:∀p∈T.any,ρ.val p.1=ah ρ p.2)(h3:∀p∈T.atom,ρ.str p.1=p.2)(h4:∀p∈T.base,ρ.base p.1=ax ρ p.2)(h5:∀p∈T.db,ρ.dbase p.1=dc ρ p.2):rH ρ {T with len:= []}:=
 ⟨z,λx v e=>h1 _ (aX e),λx v e=>h2 _ (aX e),λx v e=>h3 _ (aX e),λx v e=>h4 _ (aX e),λx v e=>h5 _ (aX e),λs n k e=>nomatch e⟩
theorem Xi(hl:sc.length<=40)(l:Nat->Nat)(b:Nat):((dq (g0 c sc) X l).base b).length<=500:=by
 let z0:=g0 c sc
 show(match b with|1=>z0.exactL|2=>z0.heldL|3=>z0.itemsL|4=>z0.addrsL|5=>z0.cellsL|6=>z0.thingsL|7=>z0.hthL|8=>z0.sc.map V.int|_=> []).length<=500;have e:z0.N=4:=rfl;split
 ·rw[fG,e];decide
 ·rw[mL,e];decide
 ·rw[kr,e];decide
 ·rw[dG,e];decide
 ·rw[im];exact YA _
 ·rw[i7,e];decide
 ·rw[qh,(show z0.n=3 from rfl)];decide
 ·rw[YO];exact Yc ‹_› ak
 ·exact YA _
theorem O8(hl:sc.length<=40){F:Fx}(bd:∀p∈F.bd,p.2.1<=(dq (g0 c sc) X λs=>(σ.heap s).length).int p.1/\(dq (g0 c sc) X λs=>(σ.heap s).length).int p.1<=p.2.2)(bl:∀p∈F.bl,ah (dq (g0 c sc) X λs=>(σ.heap s).length) p.2= .int (((dq (g0 c sc) X λs=>(σ.heap s).length).base p.1).length:Nat))(it:∀p∈F.it,∀q∈p.2,∃n:Nat,ah (dq (g0 c sc) X λs=>(σ.heap s).length) q.1= .int n/\n<=500/\nth ((dq (g0 c sc) X λs=>(σ.heap s).length).base p.1) n=some (ah (dq (g0 c sc) X λs=>(σ.heap s).length) q.2))(dt:F.dt= [])(eq:F.eq= [])(le:F.le= [])(op:∀p∈F.op,∀q∈p.2,∀o,ny o=p.1->bZ o (ah (dq (g0 c sc) X λs=>(σ.heap s).length) q.1.1) (ah (dq (g0 c sc) X λs=>(σ.heap s).length) q.1.2)=some (ah (dq (g0 c sc) X λs=>(σ.heap s).length) q.2))(ca:∀p∈F.ca,∀q∈p.2,∀S σ',jY (dq (g0 c sc) X λs=>(σ.heap s).length) F σ S σ'->F.pre S=true->∀m,F.cf<=m->∃dp,(run pt m).c p.1 (ax (dq (g0 c sc) X λs=>(σ.heap s).length) q.1) σ'=some (.ok (ah (dq (g0 c sc) X λs=>(σ.heap s).length) q.2),dp)/\jY (dq (g0 c sc) X λs=>(σ.heap s).length) F σ S dp):
  uv (dq (g0 c sc) X λs=>(σ.heap s).length) F σ where
 z:=rfl
 bd:=bd
 st n:=by
  cases n with
  |zero=>exact hZ _
  |succ n=>cases n<;>exact hZ _
 bn:=Xi hl _
 dn b:=by
  cases b with
  |zero=>exact YA _
  |succ b=>cases b with
   |zero=>show(g0 c sc).hatL.length<=500;rw[xz];show 3<=500;decide
   |succ b=>exact YA _
 bl:=bl
 it:=it
 dt:=by(refine(dt).symm ▸?_);nofun
 op:=op
 eq:=by(refine(eq).symm ▸?_);nofun
 le:=by(refine(le).symm ▸?_);nofun
 nw s k:=uZ _ _ _
 l0 _:=rfl
 ca:=ca
end
noncomputable def hX (sc:List Int) (h:Int):Nat->Int:=λx=>match x with|21=>(sc.length:Nat)|22=>h|23=>h.fdiv 8|24=>h.fdiv 16|25=>h.fdiv 128|26=>h.fdiv 256|27=>h.fdiv 512|_=>0
def gN:List Int->Int
 | []=>0
 |h::_=>h
noncomputable def Ah (h:Int):Option Nat:=match decide ((h.fdiv 8).fmod 2=0)with|true=>none|false=>some ((h.fdiv 16).fmod 8).toNat
def hC(h:Int):Cf:=⟨(h.fmod 8).toNat,(Ah h).getD (h.fmod 8).toNat,decide ((h.fdiv 128).fmod 2=1),decide ((h.fdiv 256).fmod 2=1),decide ((h.fdiv 512).fmod 2=0)⟩
theorem py{z:Int}:∃n:Nat,z.fmod 8=(n:Int)/\n<8/\n∈r8:=by
 exact(aM ((z.fmod 8).toNat) ((YR (YK _ ak)).symm) (m8 z) ((show∀n,n<8->n∈r8 from by decide) _ (m8 z)))
theorem rZ(h:Int):(hC h).ok:=by
 refine⟨m8 h,?_⟩
 ·show((match decide ((h.fdiv 8).fmod 2=0)with|true=>none|false=>some ((h.fdiv 16).fmod 8).toNat:Option Nat).getD (h.fmod 8).toNat)<8;split
  ·exact m8 h
  ·exact m8 _
section
variable{sc:List Int}{σ:St}
theorem Ak.more(W:Ak g X es L σ)(h:∀q∈p.2,nth (σ.heap p.1) q.1=some (aC (ul g X) q.2))(hL:∀q∈L',q∈L):Ak g X (p::es) L' σ where
 e s j o ho:=by
  refine(gW (a:= [p]) (b:=es) ho).elim (λq=>?_) λh1=>?_
  ·(refine U q λl h1 h2=>?_;try clear q);skip
   have e1:=Yd Prod.fst (X8.mp h1);have e2:l=p.2:=Yd Prod.snd (X8.mp h1);subst e1;subst e2;exact h _ h2
  ·exact W.e s j o h1
 l q hq:=W.l q (hL q hq)
theorem Ak.less(W:Ak g X es L σ)(h:∀s j o,aQ es' s j=some o->aQ es s j=some o)(hL:∀q∈L',q∈L):Ak g X es' L' σ:=⟨λs j o ho=>W.e s j o (h s j o ho),λq hq=>W.l q (hL q hq)⟩
theorem oQ(hq:(es.all λp=> !Nat.beq p.1 q)=true)(h:aQ es s j=some o):aQ ((q,l)::es) s j=some o:=by
 unfold aQ at h⊢
 rw[bO,(show Nat.beq q s=false from by
  cases e:Nat.beq q s with
  |false=>rfl
  |true=>
   have e:=aB.mp e;subst e;refine U (gV h) λl' h1 _=>?_;rw[X7]at hq;have:=hq _ h1;rw[show Nat.beq (q,l').1 q=true from aB.mpr rfl]at this;cases this)];exact h
theorem QI(W:Ak g X es L σ)(Xe:aQ es 50 0=some (.dict none 1 [((.str [101]),(.atom 1)),((.str [102]),(.atom 2))]))(TQ:∃o,aQ es 33 0=some o/\aC (ul g X) o= .dict 1 (Lg.map λp=>(.str (aU p.1), .int p.2)))(eH:ah (dq g X λs=>(σ.heap s).length) tu= .bool g.c.tu)(Ai:nth (σ'.heap 40) 0=some (aC (dq g X λs=>(σ.heap s).length) (.dict none 1 (nX a l tu))))(keep:∀s i o,s=50\/s=33->nth (σ.heap s) i=some o->nth (σ'.heap s) i=some o):WS g.c σ' where
 w:=by
  refine(EU (dc (dq g X λs=>(σ.heap s).length) (nX a l tu)) ?_ Ai rfl rfl ?_)
  ·rw[jR];exact(by decide:15<=500)
  ·(refine(eH) ▸?_);rfl
 un:=keep _ _ _ (.inl rfl) (W.e 50 0 _ Xe)
 kd:=by
  (refine U TQ λo e1 e2=>?_;clear TQ)
  have:=W.e 33 0 _ e1;rw[e2]at this;exact keep _ _ _ (.inr rfl) this
theorem Et(hc:c.ok)(hk:k∈eU):aJ (WS c) ip 22 197 [.obj 40 0, .str (aU k), .int 0] (.tup [.int (eV (aG c k)), .int 0]):=by
 have P:=wF hc hk;have h:=(show∀p∈re,low p<=0/\0<whole p/\cv p 0=0 from by decide+kernel) _ P.m;have:=Bz c ⟨λh=>P.a.1 h,λh=>P.a.2 h⟩ P.s P.t h.1 h.2.1;rw[h.2.2]at this;exact this
theorem Nh(tu:Bool)(s:Nat)(h:md (O9 tu) s≠4):ip s=false:=by
 cases e:ip s with
 |false=>rfl
 |true=>
  have:=aB.mp e;subst this;exact absurd rfl h
theorem RL(h:Int):OI (hC h).ue (Ah h)=true:=by
 have ck:=N7;refine a8 (py (z:=h)) λn e hn hm=>?_;refine a8 (py (z:=h.fdiv 16)) λk e2 hk Wq=>?_;have c:=X5.mp (ck n hm);rw[X7]at c;rw[(show(hC h).ue=n from Yd Int.toNat e)];unfold Ah;split
 ·exact c.1
 ·(refine(e2).symm ▸?_);exact c.2 k Wq
theorem RK(h:Int):Pu (hC h).ue (hC h).uf=true:=by
 have ck:=N5;have m8:∀n,n<8->n∈r8:=by decide
 have c:=ck _ (m8 _ (rZ h).1);rw[X7]at c;exact c _ (m8 _ (rZ h).2)
theorem nG(g:Gh)(X:Nat->Int)(l:Nat->Nat):∀i,i∈ [23,24,25,26,27]->(dq g X l).val i=ah (dq g X l) (Iz g.c.tu i):=by
 intro i hi;simp only[X9,Yl,YG]at hi;rcases hi with rfl|rfl|rfl|rfl|rfl<;>simp only[Iz,eQ (wE g X l),bT,ae,iE,dP,c8]<;>rfl
theorem Ja(hl:sc.length<=40)(KP:nth (σ.heap 60) 0=some (.list (sc.map .int)))(h0:∀s∈yA,(σ.heap s).length=0)(he:σ.env= [(236, .obj 60 0)])(hm:85<=m):∃σ',(∀r,execs (run pt m) (bP.body.drop 17) σ'=r->execs (run pt m) bP.body σ=r)/\Ak (g0 (hC (gN sc)) sc) (hX sc (gN sc)) (Eb (hC (gN sc)).tu) [(4,3),(8,0),(9,3),(12,0)] σ'/\nth (σ'.heap 44) 0=some (.dict (yq (hC (gN sc))) (yp (hC (gN sc))))/\nth (σ'.heap 60) 0=some (.list (sc.map .int))/\∃a b d,σ'.env= [(236, .obj 60 0),(36, .obj 37 0),(134, .obj 38 0),(185, .obj 40 0),(242, .int (gN sc)),(47,a),(188,b),(16,d)]:=by
 obtain⟨h,hh⟩:∃h,h=gN sc:=⟨_,rfl⟩
 (refine(hh) ▸?_)
 obtain⟨c,hc⟩:∃c,c=hC h:=⟨_,rfl⟩
 (refine(hc) ▸?_)
 obtain⟨X,GK⟩:∃X,X=hX sc h:=⟨_,rfl⟩
 (refine(GK) ▸?_)
 let z0:=run pt m
 have app:∀(i n:Nat) (σ1 dz:St),execs z0 (wB i n) σ1=some (.ok .next,dz)->bP.body.drop i=wB i n++bP.body.drop (i+n)->∀r,execs z0 (bP.body.drop (i+n)) dz=r->execs z0 (bP.body.drop i) σ1=r:=by
  intro i n σ1 dz h1 h2 r hr;rw[h2];have:∀(a b:List Sm) (τ Kx:St),execs z0 a τ=some (.ok .next,Kx)->execs z0 (a++b) τ=execs z0 b Kx:=by
   intro a
   induction a with
   |nil=>intro b τ Kx h;cases h;rfl
   |cons s a ih=>
    intro b τ Kx h;have h:M.bind (z0.s s) (λf=>match f with| .next=>execs z0 a| .ret v=>M.pure (.ret v)) τ=some (.ok .next,Kx):=h;show M.bind (z0.s s) (λf=>match f with| .next=>execs z0 (a++b)| .ret v=>M.pure (.ret v)) τ=_;unfold M.bind at h⊢;refine dJ (z0.s s τ) (λe=>?_) λq e=>?_
    ·rw[e]at h;exact nt h
    ·
     (refine(e).symm ▸?_)
     obtain⟨q,Ud⟩:=q;cases q with
     |exc _ _ _ _=>rw[e]at h;exact er h
     |ok f=>cases f with
      |next=>rw[e]at h;exact ih b Ud Kx h
      |ret v=>rw[e]at h;exact((Yd (λr:R Fl=> @R.rec Fl (λ_=>Prop) (λf=>f.casesOn True λ_=>False) (λ_ _ _ _=>False) r) (sp h).1).mp trivial).elim
  rw[this _ _ _ _ h1];exact hr
 have z:∀l,(dq (g0 c sc) X l).int 0=0:=λ_=>rfl;have v2:(ul (g0 c sc) X).val 2=ah (ul (g0 c sc) X) (.tup [sN 0,cS 0]):=rfl;have F0:∀(mo:Tr Nat) (τ:St),dZ (dq (g0 c sc) X λs=>(τ.heap s).length) (zX mo) τ:=λmo τ=>(O8 (F:=zX mo) hl J J J rfl rfl rfl J J).ok;have F1:∀(mo:Tr Nat) (τ:St) (op:List (Nat×List ((SV×SV)×SV))),(∀p∈op,∀q∈p.2,∀o,ny o=p.1->bZ o (ah (dq (g0 c sc) X λs=>(τ.heap s).length) q.1.1) (ah (dq (g0 c sc) X λs=>(τ.heap s).length) q.1.2)=some (ah (dq (g0 c sc) X λs=>(τ.heap s).length) q.2))->dZ (dq (g0 c sc) X λs=>(τ.heap s).length) ({zX mo with op:=op}) τ:=λmo τ op h=>(O8 (F:={zX mo with op:=op}) hl J J J rfl rfl rfl h J).ok
 refine uU (H6 (g:=g0 c sc) (X:=X) (es:= []) (σ:=σ) (T:={wt with len:=zL yA}) (F:=zX (Ie [] yA)) ⟨(λ_ _ _ h=>nomatch h),λp hp=>by
  (refine U (YD.mp hp) λs hs q3=>?_;subst q3)
  exact h0 s hs⟩ (GE (T:=wt) rfl (ac rfl J) (ac v2 J) J J J) (F0 _ _) (env:= [(236, .obj 60 0)]) he N9 hm) λσ1 a1 W1 v1 k1=>?_
 have xV:∀l,(dq (g0 c sc) X l).int 21=(sc.length:Nat):=λl=>by rw[GK];rfl
 have gY:∀l,(dq (g0 c sc) X l).int 22=h:=λl=>by rw[GK];rfl
 have HZ:∀l,(dq (g0 c sc) X l).int 23=h.fdiv 8:=λl=>by rw[GK];rfl
 have Oz:∀l,(dq (g0 c sc) X l).int 24=h.fdiv 16:=λl=>by rw[GK];rfl
 have Sh:∀l,(dq (g0 c sc) X l).int 25=h.fdiv 128:=λl=>by rw[GK];rfl
 have Sg:∀l,(dq (g0 c sc) X l).int 26=h.fdiv 256:=λl=>by rw[GK];rfl
 have Se:∀l,(dq (g0 c sc) X l).int 27=h.fdiv 512:=λl=>by rw[GK];rfl
 refine a8 ((show∃n,Pv n=true/\dZ (dq (g0 c sc) X λs=>(σ1.heap s).length) (Pa n) σ1/\rH (ul (g0 c sc) X) {K6 n with len:= []}from by
  have ck:=X5.mp N8;have go:∀n,((ul (g0 c sc) X).base 8).length=sc.length->(match n with|true=>1<=sc.length/\nth (sc.map V.int) 0=some (.int h)|false=>sc.length=0)->dZ (dq (g0 c sc) X λs=>(σ1.heap s).length) (Pa n) σ1:=by
   intro n h8 hn;refine(O8 (F:=Pa n) hl (ac ?_ J) (ac ?_ J) (ac ?_ J) rfl rfl rfl J J).ok
   ·skip;rw[xV];cases n with
    |true=>exact⟨by have:=hn.1;exact Y3.mpr ‹_›,(Y3 (n:=1000)).mpr (Yc hl ak)⟩
    |false=>rw[hn];exact⟨Y8 0,Y8 0⟩
   ·show ah _ (iS 21)=V.int (((sc.map V.int).length:Nat):Int);rw[ae,xV,YO]
   ·cases n with
    |false=>nofun
    |true=>exact ac (aM (0) rfl ak (by rw[ae,gY];exact hn.2)) nofun
  cases D8:sc with
  |nil=>
   refine(aM false (ck.2) ?_ ?_)
   ·(refine(D8) ▸?_);exact go false (YO ..) (by(refine(D8).symm ▸?_);rfl)
   ·(refine(D8) ▸?_)
    exact GE (T:=K6 false) rfl (ac rfl (ac (by rw[gY,hh,D8];rfl) J)) (ac v2 J) J J J
  |cons h' r=>
   refine(aM true (ck.1) ?_ ?_)
   ·(refine(D8) ▸?_);exact go true (YO ..) (by(refine(D8).symm ▸?_);exact⟨by rw[zaw];exact zaA _,by rw[hh,D8];rfl⟩)
   ·(refine(D8) ▸?_)
    exact GE (T:=K6 true) rfl (ac rfl J) (ac v2 J) J J J)) λnB cB Lw tB=>?_
 refine uU (H6 (n:=60) (T:={K6 nB with len:=zL rE}) ((W1.less (es':=Iu 13 (cS 0)) (λs j o ho=>oQ rfl ho) (λ_ h=>h)).more (p:=(60, [(0, .list (.var 8) [])])) (ac ((k1 60 rfl 0 _ KP).trans (Yd some (Yd bu.list (Yt _).symm))) nofun) (λ_ h=>h)) tB Lw v1 cB (Yc ak hm)) λdz a2 W2 Um k2=>?_;have Az:60<=m:=Yc ak hm;have VA:∀(τ:St),∀p∈(TF c.ue (Ah h)).op,∀q∈p.2,∀o,ny o=p.1->bZ o (ah (dq (g0 c sc) X λs=>(τ.heap s).length) q.1.1) (ah (dq (g0 c sc) X λs=>(τ.heap s).length) q.1.2)=some (ah (dq (g0 c sc) X λs=>(τ.heap s).length) q.2):=by
  intro τ;have G:=wE (g0 c sc) X λs=>(τ.heap s).length;refine a8 (py (z:=h)) λn en hn _=>?_;refine a8 (py (z:=h.fdiv 16)) λk ek hk _=>?_;have hu:c.ue=n:=by rw[hc];exact Yd Int.toNat en
  refine yn (ac (cN (ae 22) (au G 8) rfl (by rw[ae,HZ,gY])) (ac (cN (ae 22) (au G 16) rfl (by rw[ae,Oz,gY])) J)) (ac (bJ (ρ:=dq (g0 c sc) X λs=>(τ.heap s).length) (ae 22) (au G 8) rfl (c:=cS c.ue) (by rw[gY,en,hu];exact au G _)) ?_);refine cY (decide ((h.fdiv 8).fmod 2=0)) (λe=>?_) λe=>?_
  ·
   rw[(show Ah h=none from by unfold Ah;rw[e])]
   let z1:=au G 2
   exact ac (bJ (ae 23) z1 rfl (by rw[HZ,YN e];exact au G 0)) J
  ·
   rw[(show Ah h=some ((h.fdiv 16).fmod 8).toNat from by unfold Ah;rw[e])];have e:=of_decide_eq_false e;refine ac (bJ (ae 23) (au G 2) rfl (by rw[HZ,(ot (h.fdiv 8)).resolve_left e];exact au G 1)) (ac (bJ (ae 24) (au G 8) rfl (by rw[Oz,ek];exact au G _)) J)
 have cC:OI c.ue (Ah h)=true:=by rw[hc];exact RL h
 refine uU (H6 (n:=60) (T:={wt with atom:=KA c.ue (Ah h),len:=zL rE}) W2 (GE (T:={wt with atom:=KA c.ue (Ah h)}) rfl (ac rfl J) (ac v2 J) (by
  refine ac ?_ (ac ?_ J)<;>(refine(hc).symm ▸?_)<;>rfl) J J) (F1 _ _ _ (VA dz)) Um cC Az) λxU a3 W3 v3 k3=>?_
 have d3:=k3 44 rfl 0 _ (k2 44 rfl 0 _ (W1.e 44 0 _ rfl));have Vz:∀(τ:St),∀p∈(TD c.tu c.ka c.ks).op,∀q∈p.2,∀o,ny o=p.1->bZ o (ah (dq (g0 c sc) X λs=>(τ.heap s).length) q.1.1) (ah (dq (g0 c sc) X λs=>(τ.heap s).length) q.1.2)=some (ah (dq (g0 c sc) X λs=>(τ.heap s).length) q.2):=by
  intro τ;have G:=wE (g0 c sc) X λs=>(τ.heap s).length;have e1:c.tu=decide ((h.fdiv 128).fmod 2=1):=by rw[hc];rfl
  refine yn (ac (cN (ae 22) (au G 128) rfl (by rw[ae,Sh,gY])) (ac (cN (ae 22) (au G 256) rfl (by rw[ae,Sg,gY])) (ac (cN (ae 22) (au G 512) rfl (by rw[ae,Se,gY])) J))) (ac (bJ (ae 25) (au G 2) rfl ?_) (ac (bJ (ae 26) (au G 2) rfl ?_) (ac (bJ (ae 27) (au G 2) rfl ?_) J)))
  ·rw[Sh,e1];exact ke G
  ·rw[Sg,(show c.ka=decide ((h.fdiv 256).fmod 2=1)from by rw[hc];rfl)];exact ke G
  ·rw[Se,(show(!c.ks)=decide ((h.fdiv 512).fmod 2=1)from by
   rw[hc];show(!decide ((h.fdiv 512).fmod 2=0))=_;rcases ot (h.fdiv 512)with e|e<;>rw[e]<;>rfl)];exact ke G
 have cD:Sr c.tu c.ka c.ks=true:=by
  have ck:=N6;rw[X7]at ck;have ck:=ck c.tu (dX _);rw[X7]at ck;have ck:=ck c.ka (dX _);rw[X7]at ck;exact ck c.ks (dX _)
 obtain⟨R9,a4,W4,v4,k4⟩:=H6 (n:=60) (T:={wt with any:= [(2, .tup [sN 0,cS 0]),(1, .bool c.tu)],len:=zL rT}) (W3.more (p:=(44,GS)) (ac d3 J) (λ_ h=>h)) (GE (T:={wt with any:= [(2, .tup [sN 0,cS 0]),(1, .bool c.tu)]}) rfl (ac rfl J) (ac v2 (ac rfl J)) J J J) (F1 _ _ _ (Vz xU)) v3 cD Az;have s4:=k4 60 rfl 0 _ (k3 60 rfl 0 _ (k2 60 rfl 0 _ (k1 60 rfl 0 _ KP)));have d4:nth (R9.heap 44) 0=some (.dict (yq c) (yp c)):=by
  have:=W4.e 44 0 _ rfl;refine this.trans (Yd some ?_);unfold yq yp;cases c.ka<;>cases c.ks<;>rfl
 have cE:Pu c.ue c.uf=true:=by rw[hc];exact RK h
 obtain⟨HX,a5,W5,v5,k5⟩:=H6 (n:=60) (T:={wt with int:= [(1,1),(6,iC ((nth kJ c.ue).getD 0)),(7,iC ((nth kJ c.uf).getD 0))],atom:=KA c.ue (some c.uf),len:=zL rT}) (es:=Qs) (W4.less (λs j o ho=>oQ rfl ho) (λ_ h=>h)) (GE (T:={wt with int:= [(1,1),(6,iC ((nth kJ c.ue).getD 0)),(7,iC ((nth kJ c.uf).getD 0))],atom:=KA c.ue (some c.uf)}) rfl (ac rfl (ac rfl (ac rfl J))) (ac v2 J) (ac rfl (ac rfl J)) J J) (F0 _ _) v4 cE Az;have s5:=k5 60 rfl 0 _ s4;have d5:=k5 44 rfl 0 _ d4;have TX:Sq c.tu=true/\Sp c.tu=true:=by
  have ck:=N4;rw[X7]at ck;exact X5.mp (ck c.tu (dX _))
 have tF:rH (ul (g0 c sc) X) {KB c.tu with len:= []}:=GE (T:=KB c.tu) rfl (ac rfl J) (ac v2 (ac rfl (ac (nG (g0 c sc) X _ 23 ak) (ac (nG (g0 c sc) X _ 24 ak) (ac (nG (g0 c sc) X _ 25 ak) (ac (nG (g0 c sc) X _ 26 ak) (ac (nG (g0 c sc) X _ 27 ak) J))))))) J J J;have FF:dZ (dq (g0 c sc) X λs=>(HX.heap s).length) (O9 c.tu) HX:=by
  have G:=wE (g0 c sc) X λs=>(HX.heap s).length;refine(O8 (F:=O9 c.tu) hl J J J rfl rfl rfl J (ac (λq hq S σ' hs j2 m hm=>?_) J)).ok;obtain⟨a,l,e1⟩:=jx j2;have yc:WS c σ':=QI (g:=g0 c sc) W5 rfl ⟨_,rfl,rfl⟩ (tu:= .bool c.tu) rfl (hs.at_ _ _ _ e1) λs i o hh ho=>hs.ro s (by rcases hh with rfl|rfl<;>rfl) i o ho;have OY:c.ok:=by rw[hc];exact rZ h
  have sp:aJ (WS c) ip 22 197 (ax (dq (g0 c sc) X λs=>(HX.heap s).length) q.1) (ah (dq (g0 c sc) X λs=>(HX.heap s).length) q.2):=by
   simp only[Sj,X9,Yl,YG]at hq;rcases hq with rfl|rfl|rfl|rfl<;>simp only[dP,c8,vn G,B8,bT,au G,ae]
   ·exact Et OY (k:=0) ak
   ·exact Et OY (k:=17) ak
   ·exact Et OY (k:=2) ak
   ·exact Et OY (k:=1) ak
  exact gv sp (Nh _) (Yv 22) hs yc m hm
 obtain⟨XJ,a6,W6,v6,k6⟩:=H6 (n:=60) (T:={KB c.tu with len:=zL A1}) W5 tF FF v5 TX.1 Az;have s6:=k6 60 rfl 0 _ s5;have d6:=k6 44 rfl 0 _ d5;have tG:rH (ul (g0 c sc) X) {OG c.tu with len:= []}:=by
  refine GE (T:=OG c.tu) rfl ?_ ?_ J ?_ ?_
  ·exact ac rfl (ac rfl (ac rfl (ac rfl (ac rfl J))))
  ·exact ac rfl (ac v2 (ac rfl (ac (nG (g0 c sc) X _ 23 ak) (ac (nG (g0 c sc) X _ 24 ak) (ac (nG (g0 c sc) X _ 25 ak) (ac (nG (g0 c sc) X _ 26 ak) (ac (nG (g0 c sc) X _ 27 ak) J)))))))
  ·exact ac rfl (ac rfl (ac rfl (ac rfl (ac rfl (ac rfl (ac rfl J))))))
  ·exact ac rfl J
 obtain⟨Ue,a7,W7,v7,k7⟩:=H6 (n:=60) (T:={OG c.tu with len:=zL A0}) W6 tG (F0 _ _) v6 TX.2 Az;refine⟨Ue,λr hr=>app 0 3 _ _ a1 rfl _ (app 3 1 _ _ a2 rfl _ (app 4 2 _ _ a3 rfl _ (app 6 3 _ _ a4 rfl _ (app 9 1 _ _ a5 rfl _ (app 10 4 _ _ a6 rfl _ (app 14 3 _ _ a7 rfl _ hr)))))),W7,k7 44 rfl 0 _ d6,k7 60 rfl 0 _ s6, .str (aU (aG c 1)), .str (aU 13), .tup [.int 0],v7.trans ?_⟩;simp only[wp,bG,ae,gY];rfl
end
def LF:Al:=⟨Mm,IT,λs j=>Nat.blt j 1000&& !wx s&&(!Nat.beq s 25&&(!Nat.beq s 121||Nat.beq j 0)),λ_=>true⟩
theorem Dp:((gens (.any 1) 121).all λq=>q.2.all λr=>uz LF r.2&&LF.o q.1 r.1)=true:=by decide+kernel
theorem FL:(bL.all λtu=>IJ.all λp=>p.2.all λq=>Option.rec false (λo=>o.beq q.2) (aQ (Eb tu) p.1 q.1))=true:=by decide+kernel
section
variable{c:Cf}{sc:List Int}{X:Nat->Int}{σ σ':St}{m:Nat}
theorem RU:GZ LF (ul (g0 c sc) X) (Z (g0 c sc) σ gw b6 bz) where
 i x h:=(AH (g0 c sc) ⟨λ_=> [], []⟩ σ X gw b6 b6 bz bz).i x h
 a x h:=(AH (g0 c sc) ⟨λ_=> [], []⟩ σ X gw b6 b6 bz bz).a x h
 o s j h:=by
  have h:(Nat.blt j 1000&& !wx s&&(!Nat.beq s 25&&(!Nat.beq s 121||Nat.beq j 0)))=true:=h;simp only[Ye,Zd,Bool.not_eq_true']at h;obtain⟨⟨h1,h2⟩,h3,h4⟩:=h;have hj:j<1000:=Yg h1;rw[gL _ _ _ hj];show j=(if 1000<=j then _ else cond (wx s) _ (cond (_||_) _ _));rw[YM (ZU.mpr hj),h2,h3];rcases h4 with h4|h4
  ·rw[h4];rfl
  ·have:=aB.mp h4;subst this;cases Nat.beq s 121<;>rfl
 b _ _:=⟨rfl,rfl⟩
 s:=rfl
theorem yH(hl:sc.length<=40)(hc:c.ok)(W:Ak (g0 c sc) X (Eb c.tu) [(4,3),(8,0),(9,3),(12,0)] σ)(O5:nth (σ.heap 44) 0=some (.dict (yq c) (yp c)))(KP:nth (σ.heap 60) 0=some (.list (sc.map .int))):Inv (g0 c sc) σ:=by
 have E:∀{s j o},aQ (Eb c.tu) s j=some o->nth (σ.heap s) j=some (aC (ul (g0 c sc) X) o):=λh=>W.e _ _ _ h;have N:∀{s j o},aQ IJ s j=some o->nth (σ.heap s) j=some (aC (ul (g0 c sc) X) o):=by
  intro s j o h;have ck:=FL;rw[X7]at ck;have q:=b9 (p:=λs r=>Option.rec false (λo=>o.beq r.2) (aQ (Eb c.tu) s r.1)) (ck c.tu (dX _)) h;have q:(Option.rec false (λo'=>o'.beq o) (aQ (Eb c.tu) s j):Bool)=true:=q;cases e:aQ (Eb c.tu) s j with
  |none=>rw[e]at q;exact nf q
  |some o'=>rw[e]at q;rw[<-SO.beq_eq q];exact E e
 have gl:∀{s j o},aQ (gens (.any 1) 121) s j=some o->aQ (Eb c.tu) s j=some o:=by
  intro s j o h;unfold aQ at h;unfold Eb aQ;rw[xx];cases e:bK s (gens (.any 1) 121)with
  |none=>rw[e]at h;exact nt h
  |some l=>rw[e]at h;exact h
 exact {
  ok:=hc
  tsv:= .inr rfl
  gen:=λs j o ho=>by
   have ok:=X5.mp (b9 (p:=λs r=>uz LF r.2&&LF.o s r.1) Dp ho);have q:=X5.mp ok.2;have hj:j<1000:=Yg (X5.mp q.1).1;have ag:=RU (c:=c) (sc:=sc) (X:=X) (σ:=σ);rw[<-hU ag ok.1,<-ag.o s j ok.2,gL _ _ _ hj];exact E (gl ho)
  kin:=O5
  rows:=by
   show nth (σ.heap 111) 0=some (bu.dict 2 (Ev c));unfold Ev pe;have E':= @E
   revert E'
   cases c.tu<;>intro E'<;>exact(E' (s:=111) (j:=0) rfl).trans rfl
  rowd:=λi hi=>by
   show nth (σ.heap (pe c)) i=some (As c);unfold pe As;have E':= @E
   revert E'
   cases c.tu<;>intro E'<;>rcases(by decide:∀i,i<5->i=0\/i=1\/i=2\/i=3\/i=4) i hi with rfl|rfl|rfl|rfl|rfl<;>exact(E' rfl).trans rfl
  scr:=KP
  l4:=W.l (4,3) (.head _)
  l8:=W.l (8,0) (.tail _ (.head _))
  l9:=W.l (9,3) (.tail _ (.tail _ (.head _)))
  l12:=by have:(σ.heap 12).length=0:=W.l (12,0) (.tail _ (.tail _ (.tail _ (.head _))));rw[this];rfl
  box:=nofun
  cell:=J
  cq:=J
  dist:= .nil
  cnt:=rfl
  scl:=hl
  siz:=by show 0+0<=60;decide
  atb:=by show(0:Int)<=1/\(1:Int)<=400;decide
  las:=⟨by show 0<25;decide,by
   have e:pv 0 0=0:=by decide
   have:=eC.pl (c:=c) (N:=4) (k:=0) (r:=0) ak ak;rw[show aG c 0=0 from rfl,e]at this;exact this⟩
  it0:=⟨.obj 81 0,(N (s:=4) (j:=0) rfl).trans rfl⟩
  it1:=⟨.obj 81 1,(N (s:=4) (j:=1) rfl).trans rfl⟩
  it2:=⟨.obj 81 2,(N (s:=4) (j:=2) rfl).trans rfl⟩
  sp:=(N (s:=54) (j:=0) rfl).trans rfl
  sl:=λi hi=>by
   rcases(by decide:∀i,i<3->i=0\/i=1\/i=2) i hi with rfl|rfl|rfl<;>exact(N (s:=53) rfl).trans rfl
  th0:=⟨.int 1,(N (s:=9) (j:=0) rfl).trans rfl⟩
  th1:=⟨.int 2,(N (s:=9) (j:=1) rfl).trans rfl⟩
  th2:=⟨.int 3,(N (s:=9) (j:=2) rfl).trans rfl⟩
  ts:=⟨(N (s:=13) (j:=0) rfl).trans rfl,(N (s:=13) (j:=1) rfl).trans rfl,(N (s:=11) (j:=0) rfl).trans rfl⟩}
theorem FB(h:M.restore e p σ=some (.ok v,σ')):σ'.env=e:=by
 unfold M.restore at h;cases q:p σ with
 |none=>rw[q]at h;exact nt h
 |some r=>
  rw[q]at h;obtain⟨r,dz⟩:=r;cases r with
  |exc _ _ _ _=>exact er h
  |ok a=>rw[(sp h).2];rfl
theorem Bm(h:(run pt m).c f vs σ=some (.ok v,σ')):σ'.env=σ.env:=by
 cases m with
 |zero=>exact nt h
 |succ m=>
  obtain⟨fn,_,h⟩:=gH h;obtain⟨env,_,h⟩:=gH h;exact FB (e:=σ.env) h
noncomputable def LC:List Sm:= [(.ite (.not (.call 213 [(.loc 185),(.loc 188),(.call 191 [(.loc 185),(.loc 188),(.loc 192)])])) [.hole, .hole] [])]
theorem Ta(EE:aN 185 E=some (.obj 40 0))(rF:aN 188 E=some (.str (aU k)))(IN:aN 192 E=some (.int z))(hv:(run pt (m+1)).c 191 [.obj 40 0, .str (aU k), .int z] (σ.setE E)=some (.ok v,σ1))(hb:(run pt (m+2)).c 213 [.obj 40 0, .str (aU k),v] σ1=some (.ok (.bool true),dz)):execs (run pt (m+6)) LC (σ.setE E)=some (.ok .next,dz):=by
 have e:(run pt (m+3)).e (.call 213 [(.loc 185),(.loc 188),(.call 191 [(.loc 185),(.loc 188),(.loc 192)])]) (σ.setE E)=some (.ok (.bool true),dz):=
  bW (fJ (aR EE) (fJ (aR rF) (gy (bW (fJ (aR EE) (fJ (aR rF) (gy (aR IN)))) hv)))) hb
 have b1:(run pt (m+4)).b (.call 213 [(.loc 185),(.loc 188),(.call 191 [(.loc 185),(.loc 188),(.loc 192)])]) (σ.setE E)=some (.ok true,dz):=(aA e).trans rfl;have b2:(run pt (m+5)).b (.not (.call 213 [(.loc 185),(.loc 188),(.call 191 [(.loc 185),(.loc 188),(.loc 192)])])) (σ.setE E)=some (.ok false,dz):=(aA b1).trans rfl;exact(bq (dB b2 rfl)).trans rfl
noncomputable def H0 (h:Int) (a b d:V):List (Nat×V):= [(236, .obj 60 0),(36, .obj 37 0),(134, .obj 38 0),(185, .obj 40 0),(242, .int h),(47,a),(188,b),(16,d)]
theorem Js(h1:(run pt m).e e σ=some (.ok (.tup vs),σ'))(h3:bX (run pt m) (M.pure ()) t b vs σ'=some (.ok .next,dp)):(run pt (m+1)).s (.for t (.over e) b) σ=some (.ok .next,dp):=by
 refine(aA h1).trans ?_;exact qp h3
theorem PZ(h:Inv g σ)(bR:g.ts=25)(hsz:g.bx.length+g.ce.length<=59)(hk:k<25)(he:putN 192 (.int z) (putN 188 (.str (aU k)) σ.env)=E)(EE:aN 185 E=some (.obj 40 0))(rF:aN 188 E=some (.str (aU k)))(IN:aN 192 E=some (.int z))(hm:60<=m)(r:List V):∃σ' g',bX (run pt (m+6)) (M.pure ()) (.tup [188,192]) LC (.tup [.str (aU k), .int z]::r) σ=bX (run pt (m+6)) (M.pure ()) (.tup [188,192]) LC r σ'/\Inv g' σ'/\rm g g'/\σ'.env=E:=by
 obtain⟨v,σ1,hv,e1,i1,v1⟩:=wZ (σ:=σ.setE E) h.setE bR hk z (m:=m+1) (Y7 ‹_›);obtain⟨dz,g',e2,i2,n2⟩:=qq i1 bR hsz hv (m:=m+2) (Yr ‹_› (Ym _ _));have v2:dz.env=E:=(Bm e2).trans v1;refine⟨dz,g',ec (σ1:=σ.setE E) ?_ (Ta EE rF IN e1 e2) rfl,i2,n2,v2⟩;rw[<-he];rfl
theorem yG(hl:sc.length<=40)(KP:nth (σ.heap 60) 0=some (.list (sc.map .int)))(h0:∀s∈yA,(σ.heap s).length=0)(hm:85<=m):∃σ' g',(run pt (m+1)).c 235 [.obj 60 0] σ=some (.ok (.obj 40 0),σ')/\Inv g' σ'/\g'.ts=25/\g'.sc=sc/\g'.at_=1/\1<=g'.bx.length/\g'.bx.length+g'.ce.length<=4:=by
 obtain⟨σ1,a1,W,O5,Rx,a,b,d,v1⟩:=Ja (σ:=σ.setE [(236, .obj 60 0)]) hl KP h0 rfl (m:=m) hm;obtain⟨h,hh⟩:∃h,h=gN sc:=⟨_,rfl⟩;rw[<-hh]at W O5 v1;have v1:σ1.env=H0 h a b d:=v1;have I0:=yH hl (rZ h) W O5 Rx;obtain⟨q,rfl⟩:∃q,m=q+7:=⟨m - 7,(Zu (Yc ak hm)).symm⟩;have hq:60<=q:=Yc (by decide:60<=78) (Nat.le_of_add_le_add_right (b:=7) hm);have first:∃dz g2,bX (run pt (q+6)) (M.pure ()) (.tup [188,192]) LC [.tup [.str (aU 0), .int (h+3)], .tup [.str (aU 1), .int (h+2)], .tup [.str (aU 8), .int (2*h+7)], .tup [.str (aU 4), .int (h+5)]] σ1=bX (run pt (q+6)) (M.pure ()) (.tup [188,192]) LC [.tup [.str (aU 1), .int (h+2)], .tup [.str (aU 8), .int (2*h+7)], .tup [.str (aU 4), .int (h+5)]] dz/\Inv g2 dz/\rm (g0 (hC h) sc) g2/\1<=g2.bx.length/\dz.env=H0 h a (.str (aU 0)) d++ [(192, .int (h+3))]:=by
  obtain⟨r,hr,sp⟩:=j8 (c:=hC h) (rZ h) (k:=0) ak (h+3);obtain⟨dz,e2,i2,v2⟩:=CD (σ:=σ1.setE (H0 h a (.str (aU 0)) d++ [(192, .int (h+3))])) I0.setE sp (m:=q+1) (Yc ak (Y7 hq));have hv:eC (hC h) (g0 (hC h) sc).N 0 (.int (pv (aG (hC h) 0) r)):= .pl ak hr;obtain⟨xU,g3,e3,i3,n3,hx⟩:=o2 (x:=⟨0,0,true,false⟩) i2 (by show 0+0<=59;decide) rfl ak rfl (λe=>nomatch e) On (w:= .int (pv (aG (hC h) 0) r)) hv (λρ _ e=>e) (m:=q+2) (Nat.le_add_right_of_le hq);have Qh:1<=g3.bx.length:=by rw[hx rfl];exact ZF 1 _
  refine⟨xU,g3,ec (σ1:=σ1.setE (H0 h a (.str (aU 0)) d++ [(192, .int (h+3))])) ?_ (Ta (k:=0) rfl rfl rfl e2 e3) rfl,i3,n3,Qh,(Bm e3).trans v2⟩;show some (R.ok (),σ1.setE (putN 192 (.int (h+3)) (putN 188 (.str (aU 0)) σ1.env)))=_;rw[v1];rfl
 obtain⟨dz,g2,e2,i2,n2,WL,v2⟩:=first
 have z2:=n2.siz;have z2:g2.bx.length+g2.ce.length<=1:=z2;obtain⟨xU,g3,e3,i3,n3,v3⟩:=PZ (k:=1) (z:=h+2) (m:=q) i2 n2.ts (Yc ‹_› ak) ak (by rw[v2];rfl) (E:=H0 h a (.str (aU 1)) d++ [(192, .int (h+2))]) rfl rfl rfl hq [.tup [.str (aU 8), .int (2*h+7)], .tup [.str (aU 4), .int (h+5)]];have z3:=Yc n3.siz (YX z2);obtain⟨R9,g4,e4,i4,n4,v4⟩:=PZ (k:=8) (z:=2*h+7) (m:=q) i3 n3.ts (Yc z3 ak) ak (by rw[v3];rfl) (E:=H0 h a (.str (aU 8)) d++ [(192, .int (2*h+7))]) rfl rfl rfl hq [.tup [.str (aU 4), .int (h+5)]];have z4:=Yc n4.siz (YX z3);obtain⟨HX,g5,e5,i5,n5,v5⟩:=PZ (k:=4) (z:=h+5) (m:=q) i4 n4.ts (Yc z4 ak) ak (by rw[v4];rfl) (E:=H0 h a (.str (aU 4)) d++ [(192, .int (h+5))]) rfl rfl rfl hq [];refine⟨HX.setE σ.env,g5,IZ (m:=q+7) (fn:=bP) (env:= [(236, .obj 60 0)]) rfl rfl (a1 _ ?_),i5.setE,n5.ts,?_,?_,Yc WL (Yc n3.mon (Yc n4.mon n5.mon)),Yc n5.siz (YX z4)⟩
 ·have ht:(run pt (q+6)).e (.tup [(.tup [(.k (.str [105,52])),(.bin .add (.loc 242) (.k (.int 3)))]),(.tup [(.k (.str [101])),(.bin .add (.loc 242) (.k (.int 2)))]),(.tup [(.k (.str [63,101])),(.bin .add (.bin .mul (.k (.int 2)) (.loc 242)) (.k (.int 7)))]),(.tup [(.k (.str [115])),(.bin .add (.loc 242) (.k (.int 5)))])]) σ1=some (.ok (.tup [.tup [.str (aU 0), .int (h+3)], .tup [.str (aU 1), .int (h+2)], .tup [.str (aU 8), .int (2*h+7)], .tup [.str (aU 4), .int (h+5)]]),σ1):=by
   rw[fD v1];rfl
  refine(bq (Js ht ((e2.trans (e3.trans (e4.trans e5))).trans rfl))).trans ?_;refine ff (j7 ?_);rw[fD v5];rfl
 ·rw[n5.sc,n4.sc,n3.sc,n2.sc];rfl
 ·rw[n5.at_,n4.at_,n3.at_,n2.at_];rfl
end
section
variable{sc:List Int}{σ σ':St}{m:Nat}
theorem B7(ha:(run pt m).e a σ=some (.ok x,σ'))(hb:(run pt m).e b σ'=some (.ok y,dp))(h:bZ o x y=some v):(run pt (m+1)).e (.bin o a b) σ=some (.ok v,dp):=by
 refine(aA ha).trans ((aA hb).trans ?_);rw[h];rfl
noncomputable def Mt:List Sm:= [(.ite (.not (.call 228 [(.loc 185)])) [.hole] [])]
theorem N2:∀(n a:Nat) (g:Gh) (σ:St) (E0:List (Nat×V)),Inv g σ->g.ts=25->1<=g.bx.length->g.bx.length+g.ce.length+n<=60->g.at_+3*n<=390->(σ.env=E0\/∃i,σ.env=E0++ [(248,i)])->aN 185 E0=some (.obj 40 0)->aN 248 E0=none->(∀v,putN 248 v E0=E0++ [(248,v)])->(∀u v,putN 248 v (E0++ [(248,u)])=E0++ [(248,v)])->(∀v,aN 185 (E0++ [(248,v)])=some (.obj 40 0))->60<=m->∃σ' g',bX (run pt (m+14)) (M.pure ()) (.loc 248) Mt (bi (a:Int) n) σ=some (.ok .next,σ')/\Inv g' σ'/\g'.ts=25/\(σ'.env=E0\/∃i,σ'.env=E0++ [(248,i)]):=by
 intro n
 induction n with
 |zero=>intro a g σ E0 h bR _ _ _ he _ _ _ _ _ _;exact(cj σ g rfl h bR he)
 |succ n ih=>
  intro a g σ E0 h bR hb hsz ww he l1 l2 p1 p2 l3 hm;refine hg λcg kg=>?_;(refine iQ (DT (σ:=σ.setE (E0++ [(248, .int (a:Int))])) h.setE bR hb (Xz hsz) (Xy ww) (m:=m+1) (Y7 ‹_›)) λσ1 g1 q=>?_;obtain⟨e1,i1,v1,c1,s1,t1,Pq,z1,b1⟩:=q)
  refine cT (ih (a+1) g1 σ1 E0 i1 Pq (Yr ‹_› ‹_›) (Xx hsz z1) (Xw ww t1) (.inr ⟨_,v1⟩) l1 l2 p1 p2 l3 hm) λdz g2 e2 i2 Pp v2=>?_
  refine kg ?_;refine(cj dz g2 ((ec (σ1:=σ.setE (E0++ [(248, .int (a:Int))])) ?_ (by
   have e:=by
    exact bW (gy (aR (l3 _))) e1
   exact(bq (dB (show(run pt (m+13)).b (.not (.call 228 [(.loc 185)])) (σ.setE (E0++ [(248, .int (a:Int))]))=some (.ok false,σ1)from(aA ((aA e).trans rfl)).trans rfl) rfl)).trans rfl) rfl).trans e2) i2 Pp v2)
  (refine((show putN 248 (.int (a:Int)) σ.env=E0++ [(248, .int (a:Int))]from by
   rcases he with e|⟨i,e⟩<;>rw[e]
   ·exact p1 _
   ·exact p2 _ _)) ▸?_);rfl
noncomputable def OH (sc:List Int):St:={heap:=λt=>match Nat.beq t 60 with|true=> [.list (sc.map .int)]|false=> [],env:= [(236, .obj 60 0)]}
theorem M5(sc:List Int)(hl:sc.length<=40):∃σ',execs (run pt 100) (wO.body.drop 1) (OH sc)=some (.ok (.ret (.bool true)),σ'):=by
 (refine iQ (yG (σ:=OH sc) hl rfl (by
  intro s hs;have:=by
   have:=(List.mem_filter.mp hs).2
   simpa using this
  show(match Nat.beq s 60 with|true=> [bu.list (sc.map V.int)]|false=> []).length=0;rw[this];rfl) (m:=97) ak) λσ1 g q=>?_;(refine R2 q λe1 i1 Pq s1 a1 b1 z1=>?_;try clear q))
 obtain⟨E0,hE⟩:∃E0,E0=([(236, .obj 60 0),(185, .obj 40 0)]:List (Nat×V)):=⟨_,rfl⟩;obtain⟨n,hn⟩:∃n,n=3+sc.length/3:=⟨_,rfl⟩;refine cT (N2 (m:=85) n 0 g (σ1.setE E0) E0 i1.setE Pq b1 (Xv z1 hl hn) (by rw[a1];exact Xu hl hn) (.inl rfl) (by rw[hE];rfl) (by(refine(hE).symm ▸?_);rfl) (by(refine(hE).symm ▸?_);exactλ_=>rfl) (by(refine(hE).symm ▸?_);exactλ_ _=>rfl) (by(refine(hE).symm ▸?_);exactλ_=>rfl) ak) λdz g2 e2 i2 Pp v2=>?_;obtain⟨xU,e3⟩:=tm i2 Pp (m:=89) ak;refine⟨xU,?_⟩;refine(bq (fe (m:=99) (bW (m:=98) (gy (σ':=OH sc) rfl) e1))).trans ?_;rw[(Bm e1)];change execs (run pt 100) (.ite (.cmp (.sub (.loc 185) (.k (.str [97,116]))) [.lt] [(.k (.int 0))]) [.hole] []:: .for (.loc 248) (.range [(.bin .add (.k (.int 3)) (.bin .fdiv (.len (.loc 236)) (.k (.int 3))))]) Mt:: [.ret (some (.call 246 [(.loc 185)]))]) (σ1.setE [(236, .obj 60 0),(185, .obj 40 0)])=_
 (refine(hE) ▸?_)
 refine(bq (dB (m:=99) (show(run pt 99).b (.cmp (.sub (.loc 185) (.k (.str [97,116]))) [.lt] [(.k (.int 0))]) (σ1.setE E0)=some (.ok false,σ1.setE E0)from by
  refine b_cmp (m:=98) (show(run pt 98).e (.sub (.loc 185) (.k (.str [97,116]))) (σ1.setE E0)=some (.ok (.int (g.at_+0)),σ1.setE E0)from eh (m:=97) (x:= .obj 40 0) (y:= .str [97,116]) (σ':=σ1.setE E0) (by(refine(hE).symm ▸?_);rfl) rfl (Ap (σ:=σ1.setE E0) i1.setE rfl)) (LA (y:= .int 0) rfl ?_);rw[a1];rfl) rfl)).trans ?_
 refine(bq (BH (m:=99) (gy (B7 (m:=98) (x:= .int 3) (σ':=σ1.setE E0) rfl (B7 (m:=97) (y:= .int 3) (by
  have:=len_list (σ:=σ1.setE E0) (show(σ1.setE E0).get 60 0=some (.list (sc.map .int))from by(refine(s1) ▸?_);exact i1.scr) (by rw[YO];exact Yc hl ak);rw[YO]at this;exact(aA (p:=(run pt 96).e (.loc 236)) (a:= .obj 60 0) (σ':=σ1.setE E0) (aR (m:=95) (by(refine(hE).symm ▸?_);rfl))).trans this) rfl rfl) rfl)) (by
  have e:3+(sc.length:Int).fdiv 3=(n:Int):=by rw[hn,Int.fdiv_eq_ediv_of_nonneg _ ak];rfl
  rw[e];show(match cA (n:Int)with|true=>some (bi 0 ((n:Int)).toNat)|false=>none)=_
  rw[(show cA (n:Int)=true from by
   unfold cA;rw[Ye,Zf,Zf];exact Sv (Xs hl hn))];rfl) e2)).trans ?_
 refine ff (j7 (m:=99) (bW (m:=98) (gy ?_) e3));have:∀E,aN 185 E=some (.obj 40 0)->dz.env=E->(run pt 98).e (.loc 185) dz=some (.ok (.obj 40 0),dz):=by
  intro E hE he;rw[fD he];exact aR (m:=97) hE
 rcases v2 with e|⟨i,e⟩
 ·exact this _ (by rw[hE];rfl) e
 ·exact this _ (by(refine(hE).symm ▸?_);rfl) e
end
end Mine
end
section
namespace Mine
open PySem PySem.W PyProof.Rows PySem.Calls
theorem Cu(h:IntsAre ws zs):cI W κ (zs.map .int) ws:=by
 induction h with
 |nil=>rfl
 |cons n t h ih=>exact(aZ _ _ rfl ⟨t,rfl⟩ ih)
set_option tactic.hygienic true in
theorem zr(P7:W.nm=rh){D:Addr}(F:Fr W.base C.L s.heap m)(N:News W.base C.L s.heap [(D,PySem.W.listOf ws.toArray 0)])(hI:IntsAre ws zs)(hm:m (rh 236)=some (.ref D))(Nv:C.outs= [])(hg:s.gens=W.gens)(ho:s.os=W.os):bA W C ⟨λs i b=>if s=60/\i=0/\b=false then some D else none,lW W.K⟩ (OH zs) s:=by
 refine⟨m, [(D,PySem.W.listOf ws.toArray 0)], [],F,N,by simp,?_,?_,?_,hg,ho⟩
 ·rw[Nv];rfl
 ·refine⟨id,?_,?_,?_,?_⟩
  ·intro s i b s' i' b' x h1 h2;dsimp only at h1 h2;split at h1
   ·rename_i q;split at h2
    ·rename_i q'
     (refine dW q λq1 q2 q3=>?_;clear q;subst q1;subst q2;subst q3)
     (refine dW q' λq1 q2 q3=>?_;clear q';subst q1;subst q2;subst q3)
     exact⟨rfl,rfl,rfl⟩
    ·exact nt h2
   ·exact nt h1
  ·intro s i b x h;dsimp only at h;split at h
   ·rename_i q
    (refine dW q λq1 q2 q3=>?_;clear q;subst q1;subst q2;subst q3)
    obtain rfl:=Yi h;exact⟨Nat.zero_lt_one,by simp⟩
   ·exact nt h
  ·intro s i o h;have hs:s=60:=by
    by_cases e:s=60
    ·exact e
    ·have h:nth (match Nat.beq s 60 with|true=> [bu.list (zs.map V.int)]|false=> []) i=some o:=h;rw[az e]at h;cases i<;>exact nt h
   subst hs;cases i with
   |zero=>
    have h:=h;injection h with h;subst h;refine(iO D ws (0) ?_ (.head _) (Cu hI));show(if 60=60/\0=0/\false=false then some D else none)=some D;exact Ze ⟨rfl,rfl,rfl⟩
   |succ i=>cases i<;>exact nt h
  ·intro a vs h;have h:lW W.K a=some vs:=h;unfold lW at h;refine dJ (W.K.lookup a) (λe=>?_) λo e=>?_
   ·rw[e]at h;exact nt h
   ·rw[e]at h;exact(al o (Jc h) (.inr (W.X a o e)))
 ·intro x v h;have h:(match Nat.beq 236 x with|true=>some (V.obj 60 0)|false=>none)=some v:=h;refine uu (Nat.beq 236 x) (λe=>?_) λe=>?_
  ·rw[e]at h;exact nt h
  ·
   rw[e]at h;obtain rfl:=Yi h;have:=aB.mp e;subst this;refine(al (.ref D) (by rw[P7];exact hm) ?_);exact al D rfl (show(if 60=60/\0=0/\false=false then some D else none)=some D from Ze ⟨rfl,rfl,rfl⟩)
theorem CZ:wY [] []:=λ_ h=>absurd h Yl
set_option tactic.hygienic true in
theorem joined:PySem.Challenge.rw_up0015_01.Holds:=by
 refine Hd.head ?_
 w_strict (
  intro w s0 s1 mg mb G Y fa o pm cd doc dV kV ho hd O1 hD Tk hg args XE as j2 Rt Wd V7 Lo;have KX:=kIn_of Y
  try w_nolog (skip)
  refine Ground.open G ?_;intro T B D TE TW
  try (refine guard_noD D (by decide+kernel) ?_;clear D)
  refine iQ (bmod_of_top T) λ_ _ M=>?_;have TA:=at_of_top T
  try (refine AM (based_of_top T rfl Tk ho hd) λ_ _ he B0=>?_;subst he;clear he)
  clear Tk
  wrow_args j2 Rt Wd V7 Lo
  all_goals (
   first|refine callC_kw (enter_call ?_)|refine enter_call ?_|refine callC_kw (enter_callW ?_)|refine enter_callW ?_|w_how
   w_top on
   try refine codeAny_mono ?_ (λ_ _ g=>GoodW.toG g)
   w_call any ho hd O1 hD T F
   clear hd TA
   k_drop
   skip))
 have hb:∃n p1 n2 p2 c k p3 p4 p5 p6 r,Hd.dL.body= .Assign [.Name n p1] (.Subscript (.Name n2 p2) (.Slice none (some (.Constant c k p3)) none p4) p5) p6::r/\n=Str.ofString "script"/\n2=Str.ofString "script"/\c= .int 40:=⟨_,_,_,_,_,_,_,_,_,_,_,rfl,rfl,rfl,rfl⟩;obtain⟨n,p1,n2,p2,c,k,p3,p4,p5,p6,r,hb,rfl,rfl,rfl⟩:=hb;rw[hb]
 walk1
 iterate 20 (first|walk1|skip)
 rename_i D ws h0 hI hC hL l1 h1 F1 N1;have T:= ‹Top Hd.qv (looseW Hd.qv Hd.ls) (ExcName.means s0.heap) mg mb s1.heap›;have hr:r=Hd.dL.body.drop 1:=by rw[hb];rfl
 obtain⟨W,hW⟩:∃W:SW,W=VK Hd.rW.prog w (Hd.Kf w.params) s1.heap mg mb Hd.qv (looseW Hd.qv Hd.ls) s1.gens s1.os KX (topRead_of T):=⟨_,rfl⟩;obtain⟨σ',Rp⟩:=M5 _ (show(List.take 40 _).length<=40 from List.length_take_le 40 _)
 have Tg:=λ(a:Addr) (cd:Value) κ σ=>dl (fb (λx g h=>((MQ (by
  rw[hW];refine MI rfl rfl (JY _) (JV _) (FY _) ?_ (No _) (JW _) (JZ _) (Np _) (JU _) (λ_ _ h=>ee h) (FX _)
  kernel_rfl) (show Br W KQ tb from by
  rw[hW];exact Du (JX _)) 100).2.2.1) (Cx.mk (callerA.deeper (envOf Hd.dL.name Hd.dL.scope s1.heap.objs.size a cd)) [] [] Hd.dL.name Hd.dL.scope s1.heap.objs.size a cd) false 60 x g ((λa cd=>⟨rfl,by kernel_rfl,Yg (by kernel_rfl),Yg (by kernel_rfl),CZ⟩) a cd) (λ_=>rfl) (by rw[(show W.nm=rh from by rw[hW];rfl)];exact h)) (show jX n8 (zS rh tb Hd.dL.scope 60 false) (wO.body.drop 1) (Hd.dL.body.drop 1)=true from by kernel_rfl)) κ σ
 rw[(show W.nm=rh from by rw[hW];rfl),<-(show Hd.dL.body.drop 1=gC n8 (zP rh 60) (wO.body.drop 1) (Hd.dL.body.drop 1)from by kernel_rfl),<-hr]at Tg;subst hW;change wpAny (model Hd.rW.prog w) (callerA.deeper (envOf Hd.dL.name Hd.dL.scope s1.heap.objs.size fa _)) (PySem.execs r (envOf Hd.dL.name Hd.dL.scope s1.heap.objs.size fa _)) _ _ _;refine Tg fa _ _ _ _ σ' Rp _ _ _ (zr (D:=D) (ws:=ws) rfl F1 N1 hI ?_ rfl ?_ ?_) ?_
 ·kernel_rfl
 ·rfl
 ·rfl
 ·intro cL s' le a hv R';obtain⟨u,rfl,hu⟩:=hv;have hu:u= .bool true:=hu;subst hu;obtain⟨m',aw,frs,r'⟩:=R';refine⟨.inl ⟨.bool true, .bool true, [],rfl,raisesW_false ?_,ReadsW.bool _,?_,?_⟩,λb o h=>r'.F.keep b o h,r'.os,r'.gens.trans hg⟩
  ·wrow_none_raised
  ·first|kernel_rfl|wrow_post
  ·exactλ_=>⟨.nil,nofun⟩
end Mine
end
end
theorem PySem.Challenge.cw_up0015_01_holds : PySem.Challenge.rw_up0015_01.Holds := by
  exact Mine.joined
